import PyProof.Rows.All
import Wide.All
import OpenK.AllK
import Wide.FinOn
import KE.KStateDown
import Lean
import HandS.ForMost
import HandS.ForExc
import HandS.Defaults
import HandS.ExcInit
import HandS.ExcField
import HandS.Head0
import HandS.Head1
import HandS.Head2
import HandS.HeadEnd
import HandS.HeadHook1
import HandS.HeadHook2
import PyProof.EqAt
import PyProof.EqKinds
import PyProof.TupleCall
import PyProof.ListStr
import PyProof.Rows.StrMul
import PyProof.Draws
import HandS.Deep
import KE.GoesEnum
import HandS.Set
import HandS.Walk
import PyProof.Rows.SetFrom
import HandS.SetFor
import PyProof.StrWalks
import HandS.TryMany
import HandS.CallSlots
import HandS.Style
import HandS.NoneIn
import HandS.IsInst
import HandS.Flt
import HandS.More
import HandS.Evl
import HandS.Text
import PyProof.Rows.StrMeet
import PySem.Challenge.RW_workerworlds_k27_whole_rows_by_the_gramm
set_option Elab.async false
set_option linter.all false
set_option maxRecDepth 100000
set_option maxHeartbeats 4000000
namespace K27
open PySem PySem.Spec PyProof.Rows L2
/-! ### the text by places -/
def top (i : Nat) : Stmt := PySem.Challenge.pw_workerworlds_k27_whole_rows_by_the_gramm.main.body.getD i (.Pass ⟨0, 0, 0, 0⟩)
abbrev s_BadProgram_init : Stmt := inClass (top 3) 0
abbrev s_TooMany_init : Stmt := inClass (top 5) 0
abbrev s_is_contents : Stmt := top 9
abbrev s_parts_of : Stmt := top 16
abbrev s_is_word : Stmt := top 17
abbrev s_is_variable : Stmt := top 18
abbrev s_is_set : Stmt := top 19
abbrev s_is_term : Stmt := top 20
abbrev s_variables : Stmt := top 21
abbrev s_plain_words : Stmt := top 22
abbrev s_test_words : Stmt := top 23
abbrev s_task_words : Stmt := top 24
abbrev s_checked_marks : Stmt := top 33
abbrev s_checked_rows : Stmt := top 34
abbrev s_checked_plain : Stmt := top 35
abbrev s_check_task : Stmt := top 36
abbrev s_Program_init : Stmt := inClass (top 37) 0
abbrev s_l_numbers : Stmt := top 39
abbrev s_l_draw : Stmt := top 40
abbrev s_l_of : Stmt := top 41
abbrev s_l_pick : Stmt := top 42
abbrev s_l_drawn_marks : Stmt := top 43
abbrev s_l_drawn_contents : Stmt := top 44
abbrev s_l_reserved : Stmt := top 45
abbrev s_l_one_word : Stmt := top 46
abbrev s_l_drawn_words : Stmt := top 47
abbrev s_l_term : Stmt := top 48
abbrev s_l_sum : Stmt := top 49
abbrev s_l_binding : Stmt := top 50
abbrev s_l_plain_row : Stmt := top 51
abbrev s_l_plains : Stmt := top 52
abbrev s_l_test : Stmt := top 53
abbrev s_l_last : Stmt := top 54
abbrev s_l_work : Stmt := top 55
abbrev s_l_drawn_parts : Stmt := top 56
abbrev s_l_is_word : Stmt := top 57
abbrev s_l_reads : Stmt := top 58
abbrev s_l_fits_task : Stmt := top 59
abbrev s_l_fits : Stmt := top 60
abbrev s_l_first_wrong : Stmt := top 61
abbrev s_l_are_marks : Stmt := top 62
abbrev s_l_error : Stmt := top 63
abbrev s_l_raised : Stmt := top 64
abbrev s_l_same : Stmt := top 65
abbrev s_l_token : Stmt := top 66
abbrev s_l_row : Stmt := top 67
abbrev s_law : Stmt := top 68
def t_RESERVED : List PySem.Str := ["answer", "caller", "else", "end", "fail", "from", "given", "if", "in", "is", "item", "marks", "module", "not", "out", "stop", "task"]
def t_OF_THE_TASK : List PySem.Str := ["item", "out"]
def t_SIGNS : List PySem.Str := ["|", "&", "-", "^"]
def t_CHANGES : List PySem.Str := ["|=", "&=", "-=", "^="]
def d_BadProgram_init : He.DefD := ⟨("BadProgram", some "__init__"), "__init__", "BadProgram.__init__", defArgs s_BadProgram_init, defBody s_BadProgram_init, defScope s_BadProgram_init, [], []⟩
def d_TooMany_init : He.DefD := ⟨("TooMany", some "__init__"), "__init__", "TooMany.__init__", defArgs s_TooMany_init, defBody s_TooMany_init, defScope s_TooMany_init, [], []⟩
def d_is_contents : He.DefD := ⟨("is_contents", none), "is_contents", "is_contents", defArgs s_is_contents, defBody s_is_contents, defScope s_is_contents, [], []⟩
def d_parts_of : He.DefD := ⟨("parts_of", none), "parts_of", "parts_of", defArgs s_parts_of, defBody s_parts_of, defScope s_parts_of, [], []⟩
def d_is_word : He.DefD := ⟨("is_word", none), "is_word", "is_word", defArgs s_is_word, defBody s_is_word, defScope s_is_word, [], []⟩
def d_is_variable : He.DefD := ⟨("is_variable", none), "is_variable", "is_variable", defArgs s_is_variable, defBody s_is_variable, defScope s_is_variable, [], []⟩
def d_is_set : He.DefD := ⟨("is_set", none), "is_set", "is_set", defArgs s_is_set, defBody s_is_set, defScope s_is_set, [], []⟩
def d_is_term : He.DefD := ⟨("is_term", none), "is_term", "is_term", defArgs s_is_term, defBody s_is_term, defScope s_is_term, [], []⟩
def d_variables : He.DefD := ⟨("variables", none), "variables", "variables", defArgs s_variables, defBody s_variables, defScope s_variables, [], []⟩
def d_plain_words : He.DefD := ⟨("plain_words", none), "plain_words", "plain_words", defArgs s_plain_words, defBody s_plain_words, defScope s_plain_words, [.bl false], []⟩
def d_test_words : He.DefD := ⟨("test_words", none), "test_words", "test_words", defArgs s_test_words, defBody s_test_words, defScope s_test_words, [], []⟩
def d_task_words : He.DefD := ⟨("task_words", none), "task_words", "task_words", defArgs s_task_words, defBody s_task_words, defScope s_task_words, [], []⟩
def d_checked_marks : He.DefD := ⟨("checked_marks", none), "checked_marks", "checked_marks", defArgs s_checked_marks, defBody s_checked_marks, defScope s_checked_marks, [], []⟩
def d_checked_rows : He.DefD := ⟨("checked_rows", none), "checked_rows", "checked_rows", defArgs s_checked_rows, defBody s_checked_rows, defScope s_checked_rows, [], []⟩
def d_checked_plain : He.DefD := ⟨("checked_plain", none), "checked_plain", "checked_plain", defArgs s_checked_plain, defBody s_checked_plain, defScope s_checked_plain, [], []⟩
def d_check_task : He.DefD := ⟨("check_task", none), "check_task", "check_task", defArgs s_check_task, defBody s_check_task, defScope s_check_task, [], []⟩
def d_Program_init : He.DefD := ⟨("Program", some "__init__"), "__init__", "Program.__init__", defArgs s_Program_init, defBody s_Program_init, defScope s_Program_init, [], []⟩
def d_l_numbers : He.DefD := ⟨("_law_numbers", none), "_law_numbers", "_law_numbers", defArgs s_l_numbers, defBody s_l_numbers, defScope s_l_numbers, [], []⟩
def d_l_draw : He.DefD := ⟨("_law_draw", none), "_law_draw", "_law_draw", defArgs s_l_draw, defBody s_l_draw, defScope s_l_draw, [], []⟩
def d_l_of : He.DefD := ⟨("_law_of", none), "_law_of", "_law_of", defArgs s_l_of, defBody s_l_of, defScope s_l_of, [], []⟩
def d_l_pick : He.DefD := ⟨("_law_pick", none), "_law_pick", "_law_pick", defArgs s_l_pick, defBody s_l_pick, defScope s_l_pick, [], []⟩
def d_l_drawn_marks : He.DefD := ⟨("_law_drawn_marks", none), "_law_drawn_marks", "_law_drawn_marks", defArgs s_l_drawn_marks, defBody s_l_drawn_marks, defScope s_l_drawn_marks, [], []⟩
def d_l_drawn_contents : He.DefD := ⟨("_law_drawn_contents", none), "_law_drawn_contents", "_law_drawn_contents", defArgs s_l_drawn_contents, defBody s_l_drawn_contents, defScope s_l_drawn_contents, [], []⟩
def d_l_reserved : He.DefD := ⟨("_law_reserved", none), "_law_reserved", "_law_reserved", defArgs s_l_reserved, defBody s_l_reserved, defScope s_l_reserved, [], []⟩
def d_l_one_word : He.DefD := ⟨("_law_one_word", none), "_law_one_word", "_law_one_word", defArgs s_l_one_word, defBody s_l_one_word, defScope s_l_one_word, [], []⟩
def d_l_drawn_words : He.DefD := ⟨("_law_drawn_words", none), "_law_drawn_words", "_law_drawn_words", defArgs s_l_drawn_words, defBody s_l_drawn_words, defScope s_l_drawn_words, [], []⟩
def d_l_term : He.DefD := ⟨("_law_term", none), "_law_term", "_law_term", defArgs s_l_term, defBody s_l_term, defScope s_l_term, [], []⟩
def d_l_sum : He.DefD := ⟨("_law_sum", none), "_law_sum", "_law_sum", defArgs s_l_sum, defBody s_l_sum, defScope s_l_sum, [], []⟩
def d_l_binding : He.DefD := ⟨("_law_binding", none), "_law_binding", "_law_binding", defArgs s_l_binding, defBody s_l_binding, defScope s_l_binding, [], []⟩
def d_l_plain_row : He.DefD := ⟨("_law_plain_row", none), "_law_plain_row", "_law_plain_row", defArgs s_l_plain_row, defBody s_l_plain_row, defScope s_l_plain_row, [], []⟩
def d_l_plains : He.DefD := ⟨("_law_plains", none), "_law_plains", "_law_plains", defArgs s_l_plains, defBody s_l_plains, defScope s_l_plains, [], []⟩
def d_l_test : He.DefD := ⟨("_law_test", none), "_law_test", "_law_test", defArgs s_l_test, defBody s_l_test, defScope s_l_test, [], []⟩
def d_l_last : He.DefD := ⟨("_law_last", none), "_law_last", "_law_last", defArgs s_l_last, defBody s_l_last, defScope s_l_last, [], []⟩
def d_l_work : He.DefD := ⟨("_law_work", none), "_law_work", "_law_work", defArgs s_l_work, defBody s_l_work, defScope s_l_work, [], []⟩
def d_l_drawn_parts : He.DefD := ⟨("_law_drawn_parts", none), "_law_drawn_parts", "_law_drawn_parts", defArgs s_l_drawn_parts, defBody s_l_drawn_parts, defScope s_l_drawn_parts, [], []⟩
def d_l_is_word : He.DefD := ⟨("_law_is_word", none), "_law_is_word", "_law_is_word", defArgs s_l_is_word, defBody s_l_is_word, defScope s_l_is_word, [], []⟩
def d_l_reads : He.DefD := ⟨("_law_reads", none), "_law_reads", "_law_reads", defArgs s_l_reads, defBody s_l_reads, defScope s_l_reads, [], []⟩
def d_l_fits_task : He.DefD := ⟨("_law_fits_task", none), "_law_fits_task", "_law_fits_task", defArgs s_l_fits_task, defBody s_l_fits_task, defScope s_l_fits_task, [], []⟩
def d_l_fits : He.DefD := ⟨("_law_fits", none), "_law_fits", "_law_fits", defArgs s_l_fits, defBody s_l_fits, defScope s_l_fits, [], []⟩
def d_l_first_wrong : He.DefD := ⟨("_law_first_wrong", none), "_law_first_wrong", "_law_first_wrong", defArgs s_l_first_wrong, defBody s_l_first_wrong, defScope s_l_first_wrong, [], []⟩
def d_l_are_marks : He.DefD := ⟨("_law_are_marks", none), "_law_are_marks", "_law_are_marks", defArgs s_l_are_marks, defBody s_l_are_marks, defScope s_l_are_marks, [], []⟩
def d_l_error : He.DefD := ⟨("_law_error", none), "_law_error", "_law_error", defArgs s_l_error, defBody s_l_error, defScope s_l_error, [], []⟩
def d_l_raised : He.DefD := ⟨("_law_raised", none), "_law_raised", "_law_raised", defArgs s_l_raised, defBody s_l_raised, defScope s_l_raised, [], []⟩
def d_l_same : He.DefD := ⟨("_law_same", none), "_law_same", "_law_same", defArgs s_l_same, defBody s_l_same, defScope s_l_same, [], []⟩
def d_l_token : He.DefD := ⟨("_law_token", none), "_law_token", "_law_token", defArgs s_l_token, defBody s_l_token, defScope s_l_token, [], []⟩
def d_l_row : He.DefD := ⟨("_law_row", none), "_law_row", "_law_row", defArgs s_l_row, defBody s_l_row, defScope s_l_row, [], []⟩
def d_law : He.DefD := ⟨("law", none), "law", "law", defArgs s_law, defBody s_law, defScope s_law, [], []⟩
def fn : List He.DefD := [d_BadProgram_init, d_TooMany_init, d_is_contents, d_parts_of, d_is_word, d_is_variable, d_is_set, d_is_term, d_variables, d_plain_words, d_test_words, d_task_words, d_checked_marks, d_checked_rows, d_checked_plain, d_check_task, d_Program_init, d_l_numbers, d_l_draw, d_l_of, d_l_pick, d_l_drawn_marks, d_l_drawn_contents, d_l_reserved, d_l_one_word, d_l_drawn_words, d_l_term, d_l_sum, d_l_binding, d_l_plain_row, d_l_plains, d_l_test, d_l_last, d_l_work, d_l_drawn_parts, d_l_is_word, d_l_reads, d_l_fits_task, d_l_fits, d_l_first_wrong, d_l_are_marks, d_l_error, d_l_raised, d_l_same, d_l_token, d_l_row, d_law]
def fa0 : List He.Fa := [.glo "is_contents", .glo "parts_of", .glo "is_word", .glo "is_variable", .glo "is_set", .glo "is_term", .glo "variables", .glo "plain_words", .glo "test_words", .glo "task_words", .glo "checked_marks", .glo "checked_rows", .glo "checked_plain", .glo "check_task", .glo "_law_numbers", .glo "_law_draw", .glo "_law_of", .glo "_law_pick", .glo "_law_drawn_marks", .glo "_law_drawn_contents", .glo "_law_reserved", .glo "_law_one_word", .glo "_law_drawn_words", .glo "_law_term", .glo "_law_sum", .glo "_law_binding", .glo "_law_plain_row", .glo "_law_plains", .glo "_law_test", .glo "_law_last"]
def fa1 : List He.Fa := [.glo "_law_work", .glo "_law_drawn_parts", .glo "_law_is_word", .glo "_law_reads", .glo "_law_fits_task", .glo "_law_fits", .glo "_law_first_wrong", .glo "_law_are_marks", .glo "_law_error", .glo "_law_raised", .glo "_law_same", .glo "_law_token", .glo "_law_row", .glo "law", .glo "BadProgram", .glo "TooMany", .glo "Program", .glo "RESERVED", .glo "OF_THE_TASK", .glo "SIGNS", .glo "CHANGES", .free "len", .free "list", .free "int", .free "range", .free "all", .free "isinstance", .free "sorted", .free "set", .free "max"]
def fa2 : List He.Fa := [.free "min", .free "tuple", .free "enumerate", .free "repr", .free "str", .free "ValueError", .int "MOST_MARKS" 3, .int "MOST_PLAIN" 2, .int "MOST_ROWS" 6, .int "MOST_TASK_ROWS" 16, .int "MOST_GLOBALS" 3, .int "MOST_OWN" 2, .int "MOST_NAMES" 4, .str "MARKS" "ABCDEFGHIJKLMNOPQRSTUVWXYZabcdefghijklmnopqrstuvwxyz", .str "LETTERS" "abcdefghijklmnopqrstuvwxyz", .cls "Program", .mkr "Program", .noat "Program" "marks", .noat "Program" "module", .noat "Program" "of_module", .noat "Program" "caller", .noat "Program" "of_caller", .noat "Program" "task", .exm "BadProgram" "BadProgram" true, .exm "BadProgram" "TooMany" false, .exm "TooMany" "BadProgram" false, .exm "TooMany" "TooMany" true, .keep "BadProgram", .keep "TooMany"]
def fa : List He.Fa := fa0 ++ (fa1 ++ (fa2))
/-! ### the error classes -/
def oexB (K : PySem.W.Frag) (C : Addr) : Bool := (match K.lookup C with
  | some ⟨.type "type", _, .cls cd, sl⟩ => (match cd.mro, sl.toList with
    | .ref C' :: bm, [_, _, _, _, some (.builtin n), _] => C' == C && (n == "ValueError.__new__" && (!cd.hasDel && (cd.hasDict && PySem.HandSPX.refsVE bm)))
    | _, _ => false)
  | _ => false) && (He.eqO (PySem.W.findIn K (.ref C) "__setattr__") (some (some (.builtin "object.__setattr__"))) && (decide (PySem.W.subIn K (.ref C) (.type "BaseException") = some true) &&
    (decide (PySem.W.typeIn K (.ref C) = some (.type "type")) && PySem.W.keepIn K (.ref C))))
theorem oexB_ok {K : PySem.W.Frag} {C : Addr} (h : oexB K C = true) : OexC K C := by
  obtain ⟨h1, h⟩ := He.ba h
  obtain ⟨h2, h⟩ := He.ba h
  obtain ⟨h3, h⟩ := He.ba h
  obtain ⟨h4, h5⟩ := He.ba h
  refine ⟨?_, He.eqO_ok h2, of_decide_eq_true h3, of_decide_eq_true h4, h5⟩
  split at h1
  · rename_i dd cd sl ho
    split at h1
    · rename_i C' bm k0 k1 k2 k3 n k5 hm hs
      simp only [Bool.and_eq_true, beq_iff_eq, Bool.not_eq_true'] at h1
      obtain ⟨rfl, rfl, hdel, hdc, ht⟩ := h1
      obtain ⟨nm, bs, mro, ns, qn, hd, sn, sub, ab, col, del⟩ := cd
      dsimp only at hm hdel hdc
      subst hm hdel hdc
      have hsl : sl = #[k0, k1, k2, k3, some (.builtin "ValueError.__new__"), k5] := by
        obtain ⟨l⟩ := sl
        simp only at hs
        rw [hs]
      subst hsl
      exact ⟨nm, qn, ns, bs, bm, sn, sub, ab, col, dd, k0, k1, k2, k3, k5, ho, ht⟩
    · cases h1
  · cases h1
/-- the class's own __init__ -/
def initB (K : PySem.W.Frag) (C : Addr) : Bool := He.eqO (PySem.W.findIn K (.ref C) "__init__") (some (some (.ref (He.ma K C "__init__")))) && decide (PySem.W.typeIn K (.ref (He.ma K C "__init__")) = some (.type "function"))
def noB (K : PySem.W.Frag) (C : Addr) (fs : List PySem.Str) : Bool := fs.all fun f => He.eqO (PySem.W.findIn K (.ref C) f) (some none)
def moreB (K : PySem.W.Frag) : Bool :=
  (oexB K (He.ga K "BadProgram") && (initB K (He.ga K "BadProgram") && (xfB K (He.ga K "BadProgram") && noB K (He.ga K "BadProgram") ["part", "at"]))) &&
  ((oexB K (He.ga K "TooMany") && (initB K (He.ga K "TooMany") && (xfB K (He.ga K "TooMany") && noB K (He.ga K "TooMany") ["what"]))) &&
  (He.tupB K "RESERVED" (t_RESERVED.map He.Dv.str) && (He.tupB K "OF_THE_TASK" (t_OF_THE_TASK.map He.Dv.str) && (He.tupB K "SIGNS" (t_SIGNS.map He.Dv.str) && He.tupB K "CHANGES" (t_CHANGES.map He.Dv.str)))))
/-! ### the Hook -/
abbrev AlM : Type := He.AlD × Bool
def obsM (K : PySem.W.Frag) : AlM := (He.obsD fa fn K, moreB K)
def valM : AlM := (He.valD fn, true)
def obsMG (g : Addr → Option Obj) : AlM := obsM (He.frG g (He.asD g 4))
def SaysM (K : PySem.W.Frag) : Prop := obsM K = valM
def hkM : PySem.W.Hook where
  α := AlM
  obs := fun s => obsMG s.heap.get?
  val := fun _ => valM
  says := fun _ h => ∃ K : PySem.W.Frag, K.In h ∧ SaysM K
  of := fun _ _ e => ⟨_, He.frG_in, e⟩
  keeps := fun _ _ _ ⟨K, hK, c⟩ k => ⟨K, PySem.W.Frag.In.keeps hK k, c⟩
theorem SaysM.d {K : PySem.W.Frag} (c : SaysM K) : He.SaysD fa fn K := congrArg (fun z : AlM => z.1) c
theorem SaysM.more {K : PySem.W.Frag} (c : SaysM K) : moreB K = true := congrArg (fun z : AlM => z.2) c
abbrev R : PySem.W.OpenRow := PySem.W.OpenLaw.row PySem.Challenge.rw_workerworlds_k27_whole_rows_by_the_gramm
def ob (s : PySem.W.SharedT) : AlM := obsMG (HandSHeadRun.getT s)
theorem ob_eq (s : PySem.W.SharedT) : ob s = hkM.obs s.abs := by
  have e : HandSHeadRun.getT s = s.abs.heap.get? := funext (HandSHeadRun.getT_eq s)
  show obsMG (HandSHeadRun.getT s) = obsMG s.abs.heap.get?
  rw [e]
def loose0 : List PySem.Str := ["_wall", "WorkerworldsError", "BadProgram", "BadText", "TooMany", "PLAIN", "MARKS", "is_contents", "LETTERS", "RESERVED", "OF_THE_TASK", "SIGNS", "CHANGES", "parts_of", "is_word", "is_variable", "is_set", "is_term", "variables", "plain_words", "test_words", "task_words", "MOST_MARKS", "MOST_PLAIN", "MOST_ROWS", "MOST_TASK_ROWS", "MOST_GLOBALS", "MOST_OWN", "MOST_NAMES", "checked_marks", "checked_rows", "checked_plain"]
def loose1 : List PySem.Str := ["check_task", "Program", "_law_numbers", "_law_draw", "_law_of", "_law_pick", "_law_drawn_marks", "_law_drawn_contents", "_law_reserved", "_law_one_word", "_law_drawn_words", "_law_term", "_law_sum", "_law_binding", "_law_plain_row", "_law_plains", "_law_test", "_law_last", "_law_work", "_law_drawn_parts", "_law_is_word", "_law_reads", "_law_fits_task", "_law_fits", "_law_first_wrong", "_law_are_marks", "_law_error", "_law_raised", "_law_same", "_law_token", "_law_row"]
def loose : List PySem.Str := loose0 ++ loose1
theorem run (w : World) : HandSHeadRun.RunEq R (PySem.W.view R.prog [68]) hkM ob 4000 loose w := by
  intro os
  kernel_rfl
end K27

set_option maxRecDepth 100000
set_option maxHeartbeats 4000000
/-! rules that the layer lacks: list(text), text * int, text[::-1], enumerate(tuple), x in (lists), repr -/
namespace K27
open PySem PySem.Spec PyProof.Rows L2
section
variable {X : Cx}
/-- text * n, n small -/
def rMulS : R2 := fun x y H Q => ∃ (z : Str) (n : Int), x = .str z ∧ y = .int n ∧ 0 ≤ n ∧ n ≤ 10 ∧ z.length ≤ 100000 ∧ Q (.str (Txt.mul z n)) H
theorem op_mulS : OpR X (binaryOp .Mult) rMulS := by
  intro pins s σ H x y v u Q I rx ry h
  obtain ⟨z, n, rfl, rfl, h0, h1, hz, q⟩ := h
  obtain ⟨t, rfl⟩ := rx
  obtain ⟨t', rfl⟩ := ry
  refine SB.mul (mulOk_of 100000 10 hz (by omega) (by omega) (by decide) (by decide)) fun t2 k => ?_
  exact ⟨.str _, H, I.tok _, ⟨_, rfl⟩, q⟩
/-- the signs of a text, each a text -/
def signs (z : Str) : List Str := z.cps.toList.map fun c => (⟨#[c]⟩ : Str)
def rListS : List V → Hp → VK → Prop := fun xs H Q => ∃ z : Str, xs = [.str z] ∧ z.length ≤ 100000 ∧ ∀ p, H p = none → Q (.ref p) (upd H p (.lst ((signs z).map V.str)))
theorem vals_signs {z : Str} {acc : Array Value} (h : ItemsOf (SignAt z) acc z.cps.size) : Vals ((signs z).map V.str) acc.toList := by
  have key : ∀ (l : List Nat) (vs : List Value), l.length = vs.length → (∀ (i : Nat) c v, l[i]? = some c → vs[i]? = some v → ∃ u, v = Value.str ⟨#[c]⟩ u) → Vals ((l.map fun c => (⟨#[c]⟩ : Str)).map V.str) vs := by
    intro l
    induction l with
    | nil =>
      intro vs hl _
      cases vs with
      | nil => exact .nil
      | cons v vs => cases hl
    | cons c l ih =>
      intro vs hl hv
      cases vs with
      | nil => cases hl
      | cons v vs =>
        refine .cons (hv 0 c v rfl rfl) (ih vs (Nat.succ.inj hl) fun i d w h1 h2 => hv (i + 1) d w ?_ ?_)
        · rw [List.getElem?_cons_succ]; exact h1
        · rw [List.getElem?_cons_succ]; exact h2
  obtain ⟨h1, h2⟩ := h
  refine key _ _ (by rw [Array.length_toList, Array.length_toList, h1]) fun i c v hc hv => ?_
  obtain ⟨d, u, hd, rfl⟩ := h2 i v (by rw [← Array.getElem?_toList]; exact hv)
  rw [← Array.getElem?_toList, hc] at hd
  cases hd
  exact ⟨u, rfl⟩
theorem cr_listS (hc : X.calm = true) : CallR X (.type "list") rListS := by
  intro pins s σ H xs us Q I r h
  obtain ⟨z, rfl, hz, q⟩ := h
  obtain ⟨u, rfl, t, rfl⟩ := vals1 r
  have hz' : z.cps.size ≤ 100000 := hz
  refine call_list_str (I.ok.hd hc) z t (fun h' tk acc c' k g ha => ?_) (Nat.le_trans hz' (by decide))
  have hl : ((signs z).map V.str).length ≤ sizeLine := by
    rw [List.length_map, signs, List.length_map, Array.length_toList]
    exact Nat.le_trans hz' (by decide)
  exact ⟨.ref _, _, I.laid (t' := tk) (o := .lst ((signs z).map V.str)) k (Nat.le_refl _) ⟨hl, acc.toList, c', vals_signs ha, g⟩, rfl, q _ (I.hok.fresh (Nat.le_refl _))⟩
/-- x in (a, b, ..), items of any depth -/
def rInTD (K : PySem.W.Frag) : R2 := fun x y H Q => ∃ d ds, Dp K H x d ∧ Dp K H y (.tuple ds) ∧ SeqAt.shaped d = true ∧ SeqAt.shaped (.list ds) = true ∧ Q (.bl (ds.any fun z => PyData.eqv z d)) H
theorem op_inTD (hu : X.A.units + 65 < cLine) : OpR X (compareOp .In) (rInTD X.K) := by
  intro pins s σ H x y v u Q I rx ry h
  obtain ⟨d, ds, hd, he, sd, se, q⟩ := h
  obtain ⟨as, r1⟩ := Dp.reads I d x v hd rx
  obtain ⟨bs, r2⟩ := Dp.reads I (.tuple ds) y u he ry
  exact SeqAt.in_tuple_reads r2 r1 (SeqAt.canLay_of_shaped se) (SeqAt.canLay_of_shaped sd) (room_in_shaped sd hu) ⟨.bl _, H, I, rfl, q⟩
/-- repr of what is data -/
def rRepr (K : PySem.W.Frag) : List V → Hp → VK → Prop := fun xs H Q => ∃ (x : V) (d : PyData), xs = [x] ∧ Dp K H x d ∧ d.showable = true ∧ d.hasDict = false ∧ d.depth ≤ 60 ∧ d.shown.length ≤ 100000 ∧ (x = .non ∨ ∃ a, x = .ref a) ∧ Q (.str d.shown) H
theorem cr_repr (hg : X.A.guards = some []) (hu : X.A.units + 64 < cLine) : CallR X (.builtin "repr") (rRepr X.K) := by
  intro pins s σ H xs us Q I r h
  obtain ⟨x, d, rfl, hd, sh, nd, dp, sz, hx, q⟩ := h
  obtain ⟨u, rfl, ru⟩ := vals1 r
  rcases hx with rfl | ⟨a, rfl⟩
  · cases hd
    obtain rfl : u = Value.none := ru
    refine P.repr_of_none ?_
    exact ⟨.str _, H, I.tok _, ⟨_, rfl⟩, q⟩
  · obtain rfl : u = Value.ref a := ru
    obtain ⟨as, r1⟩ := Dp.reads I d (.ref a) (.ref a) hd rfl
    refine repr_of_reads' r1 sh (PyData.noDict_hsm nd) hg (by omega) (fun _ _ e => e) (fun h' t tk hk => ?_) (Nat.le_trans sz (by decide))
    exact ⟨.str _, H, I.kept (t' := tk) hk, ⟨_, rfl⟩, q⟩

/-- text[::-1]: some text, no longer -/
def tRevS (te : TE) : TE := fun σ H Q => te σ H fun x H1 => ∃ z : Str, x = .str z ∧ z.length ≤ 100000 ∧ ∀ y : Str, y.length ≤ z.length → (∀ c ∈ y.cps.toList, c ∈ z.cps.toList) → Q (.str y) H1
theorem rev_few (n : Nat) : (Builtin.Str.strSliceIndices none none (-1) n).length ≤ n := by
  unfold Builtin.Str.strSliceIndices
  simp only [sliceRange]
  rw [List.length_map, List.length_range]
  rw [if_neg (show ¬ ((-1 : Int) > 0) by decide), if_neg (show ¬ ((-1 : Int) > 0) by decide), if_neg (show ¬ ((-1 : Int) > 0) by decide)]
  split
  · rw [show (-(-1 : Int)) = 1 from rfl, Int.ediv_one]
    omega
  · exact Nat.zero_le _
theorem pe_revS {e : Expr} {te : TE} {k : Nat} {p1 p2 p3 pos : Pos} (he : PE X e te) : PE X (.Subscript e (.Slice none none (some (.UnaryOp .USub (.Constant (.int 1) k p1) p2)) p3) pos) (tRevS te) := by
  refine ⟨fun pins s σ H Q I h => ?_⟩
  refine Subscript_ (thn (he.run pins s σ H _ I h) fun v s1 ⟨x, H1, I1, r1, z, ex, hz, q⟩ => ?_)
  subst ex
  obtain ⟨t, rfl⟩ := r1
  have hst : PO X (some (.UnaryOp .USub (.Constant (.int 1) k p1) p2)) (tPart (tUn (rU fun i => .int (-i)) (tC (.int 1)))) := po_some (pe_un un_neg pe_int)
  refine wpAny_Slice (thn (po_none.run pins s1 σ H1 (fun o H2 => o = none ∧ H2 = H1) I1 ⟨rfl, rfl⟩) fun vl s2 ⟨l, H2, I2, pl, el, e2⟩ => ?_)
  subst el e2
  refine thn (po_none.run pins s2 σ H2 (fun o H3 => o = none ∧ H3 = H2) I2 ⟨rfl, rfl⟩) fun vu s3 ⟨u, H3, I3, pu, eu, e3⟩ => ?_
  subst eu e3
  refine thn (hst.run pins s3 σ H3 (fun o H4 => o = some (-1) ∧ H4 = H3) I3 ⟨1, rfl, -1, rfl, rfl, rfl⟩) fun vs s4 ⟨o, H4, I4, ps, eo, e4⟩ => ?_
  subst eo e4
  obtain ⟨l, rfl, el⟩ := IsPart.raw pl
  obtain ⟨u, rfl, eu⟩ := IsPart.raw pu
  obtain ⟨w', rfl, ew⟩ := IsPart.raw ps
  have I5 : Inv X pins σ H4 { s4 with heap := s4.heap.push { cls := .type "slice", data := .fields #[partValue l, partValue u, partValue w'] } } := I4.kept (t' := s4.toks) fun b ob q => Heap.get?_push_of_some _ q
  show wpAny (model X.prog X.w) X.A (subscriptTail e (.Slice none none (some (.UnaryOp .USub (.Constant (.int 1) k p1) p2)) p3) (.str z t) (.ref s4.heap.objs.size)) (EP X pins σ Q) X.xe _
  refine tail_any (ops := [.str z t, .ref s4.heap.objs.size]) (T := "str") (typeIs_str _ _ _) PySem.F.slot_str_getitem.lookup ?_ (by with_unfolding_all rfl)
  refine wpAny_getItem_str_slice (l := l) (u := u) (st := w') ⟨_, Heap.get?_push_size _ rfl, rfl, rfl⟩ (by rw [ew]; rfl) ?_
  have hz' : z.cps.size ≤ 100000 := hz
  have hl : (((slicePicked z l u w').filterMap (z.cps[·]?)).toArray).size ≤ z.cps.size := by
    have q1 : (slicePicked z l u w').length ≤ z.cps.size := by
      unfold slicePicked
      rw [el, eu, ew]
      exact rev_few _
    have q2 := List.length_filterMap_le (fun i : Nat => z.cps[i]?) (slicePicked z l u w')
    rw [List.size_toArray]
    exact Nat.le_trans q2 q1
  unfold sliceMade
  rw [ew]
  rw [if_neg (by simp)]
  exact ⟨Nat.le_trans hl (Nat.le_trans hz' (by decide)), .str _, H4, I5.tok _, ⟨_, rfl⟩, q _ hl fun c hc => by
    have hc' : c ∈ (slicePicked z l u w').filterMap (fun i : Nat => z.cps[i]?) := hc
    obtain ⟨i, _, hi⟩ := List.mem_filterMap.mp hc'
    exact List.mem_of_getElem? (by rw [Array.getElem?_toList]; exact hi)⟩

/-! ### enumerate(t), t a tuple -/
theorem meets_enumT {v : Value} {o : Obj} {H : Heap → Prop} (B : Begins v o H) :
    Meets (Builtin.«enumerate.__new__» ⟨[.type "enumerate", v], []⟩) (fun _ R s => H s.heap ∧
      R (.ok (.ret (.ref (s.heap.push o).objs.size))) { s with heap := (s.heap.push o).push { cls := .type "enumerate", data := .fields #[.none, .bool false, .ref s.heap.objs.size, rawInt 0, .none, .none] } }) :=
  .of_wp fun prog w A R s h => by
    obtain ⟨hp, g, d, tk, os⟩ := s; obtain ⟨h1, h⟩ := h
    have hsub := sub_enumerate
    have q1 : ∀ {A' : Around} {E : Value → Shared → Prop} {Q : Value → Shared → Prop}, Q (.ref hp.objs.size) ⟨hp.push o, g, d, tk, os⟩ → wpAny (model prog w) A' (pyIter v) Q E ⟨hp, g, d, tk, os⟩ :=
      fun q => B.iter prog w _ _ ⟨hp, g, d, tk, os⟩ _ h1 q
    wp_walk using q1
    refine wpAny_stack_any fun st => wpAny_pure ?_
    split
    · rename_i c _ _ _ _ _
      cases (c == Value.type "enumerate") <;> (wp_walk using q1; exact ⟨_, rfl, h⟩)
    · wp_walk using q1
      exact ⟨_, rfl, h⟩
theorem enum_tup {A : Around} {P : Program} {w : World} {E : Value → Shared → Prop} {s : Shared} {a : Addr} {items : Array Value} {Q : Value → Shared → Prop} (ht : s.heap.IsTuple a items)
    (h : ∀ h', IsEnum h' (s.heap.objs.size + 1) s.heap.objs.size 0 .none → h'.IsTupleIter s.heap.objs.size a 0 → (∀ b o, s.heap.get? b = some o → h'.get? b = some o) → Q (.ref (s.heap.objs.size + 1)) { s with heap := h' }) :
    wpAny (model P w) A (call (.type "enumerate") [.ref a]) Q E s := by
  refine callType_new F.called_enumerate (by decide) (F.typeCall_enumerate_1 _) (F.newCall_enumerate_1 _) (fun obj => F.args_object_init_2 obj _) F.entry_enumerate_new (meets_enumT (begins_tuple a items)) ⟨ht, ?_⟩
  have hz : (s.heap.push { cls := .type "tuple_iterator", data := .fields #[.ref a, .int 0 0] }).objs.size = s.heap.objs.size + 1 := Heap.size_push ..
  show _ ∧ _
  rw [hz]
  have he : IsEnum ((s.heap.push { cls := .type "tuple_iterator", data := .fields #[.ref a, .int 0 0] }).push
      { cls := .type "enumerate", data := .fields #[.none, .bool false, .ref s.heap.objs.size, rawInt 0, .none, .none] }) (s.heap.objs.size + 1) s.heap.objs.size 0 .none := by
    have q := Heap.get?_push_size (s.heap.push { cls := .type "tuple_iterator", data := .fields #[.ref a, .int 0 0] })
      (o := { cls := .type "enumerate", data := .fields #[.none, .bool false, .ref s.heap.objs.size, rawInt 0, .none, .none] }) rfl
    rw [hz] at q; exact q
  exact ⟨⟨_, he, rfl⟩, h _ he ⟨_, Heap.get?_push_of_some _ (Heap.get?_push_size _ rfl), rfl, rfl⟩ fun b o x => Heap.get?_push_of_some _ (Heap.get?_push_of_some _ x)⟩
/-- the tuple at a, each item in a new pair -/
def Iet (K : PySem.W.Frag) (a : Addr) : It :=
  ⟨fun i H => ∃ (xs : List V) (x : V), SqT K H a xs ∧ xs[i]? = some x, fun i H v H' => ∃ T x, v = .ref T ∧ H T = none ∧ H' = upd H T (.tup [.int (i : Nat), x]) ∧ ∀ xs, SqT K H a xs → xs[i]? = some x,
   fun i H => ∃ xs : List V, SqT K H a xs ∧ xs.length = i⟩
theorem turn_enumT {P : Program} {w : World} {K : PySem.W.Frag} {elts : List Expr} {kk : Nat} {tpos : Pos} (a e it : Addr) (hai : a ≠ it) (hae : a ≠ e) :
    Turn P w K (.Tuple elts kk tpos) (Iet K a) [e, it] e (fun i h => (∃ old, IsEnum h e it ((i : Nat) : Int) old) ∧ h.IsTupleIter it a i ∧ e ≠ it) where
  mem := by simp
  obj := fun i h st b hb => by
    obtain ⟨⟨old, he⟩, ⟨o, ho, hc, hd⟩, _⟩ := st
    have e' : b = e ∨ b = it := by simpa using hb
    rcases e' with z | z
    · rw [z]; exact ⟨_, he, fun v q => nomatch q⟩
    · rw [z]; exact ⟨o, ho, fun v q => by rw [hd] at q; cases q⟩
  keep := fun i h h' st k => let ⟨⟨old, he⟩, hi, hne⟩ := st; ⟨⟨old, k e (by simp) _ he⟩, hi.at fun o q => k it (by simp) o q, hne⟩
  item := by
    intro X hP hw hK hc i pins s σ H E I hf st hg
    subst hP hw hK
    obtain ⟨⟨old, he⟩, hit, hne⟩ := st
    obtain ⟨xs, x, hq, hx⟩ := hg
    obtain ⟨its, rv, p, hz⟩ := I.tuple hq
    obtain ⟨u, hu, ru⟩ := rv.get hx
    have hel : e < s.heap.objs.size := Heap.lt_size he
    have hil : it < s.heap.objs.size := by obtain ⟨_, q, _⟩ := hit; exact Heap.lt_size q
    have D := Draws.tuple (prog := X.prog) (w := X.w) (A := X.A.in1) (I.ok.hd hc) it a hai its.toArray
    have hii : i < its.toArray.size := by
      have q1 := (List.getElem?_eq_some_iff.mp hu).1
      simpa using q1
    refine wpAny_pyNext_enum_itemD D he ⟨hit, p⟩ hii hne (by simp [hne, hae.symm]) fun y h' tk hy ho hit' hT hsz hk => ?_
    have ey : y = u := by
      have q1 : its.toArray[i]? = some u := by simpa using hu
      exact Option.some.inj (hy.symm.trans q1)
    subst ey
    refine ⟨_, rfl, wpAny_letOwnedTupleGo_enum (s := { s with heap := h', toks := tk + 1 }) ho fun h'' he' sb => ?_⟩
    have hT2 : h''.get? s.heap.objs.size = some { cls := .type "tuple", data := .seq #[.int i tk, y] } := (sb.2 _ (Nat.ne_of_gt hel)).trans hT
    have new : ObjOk X.prog X.w (upd H s.heap.objs.size (.tup [.int (i : Nat), x])) h'' s.heap.objs.size (.tup [.int (i : Nat), x]) :=
      ⟨by show 2 ≤ sizeLine; decide, [.int i tk, y], .cons ⟨_, rfl⟩ (.cons ru .nil), ⟨_, hT2, rfl, _, rfl⟩⟩
    have I1 : Inv X pins σ (upd H s.heap.objs.size (.tup [.int (i : Nat), x])) { s with heap := h'', toks := tk + 1 } :=
      I.turnedNew (ch := [e, it]) (fun b ob hb q => (sb.2 b (fun z => hb (by simp [z]))).trans (hk b ob (fun z => hb (by simp [z])) (fun z => hb (by simp [z])) q)) hf (Nat.le_refl _) new
    refine ⟨.ref s.heap.objs.size, _, I1, rfl, ⟨_, x, rfl, I.hok.fresh (Nat.le_refl _), rfl, fun ys hy => by rw [I.tuple_inj hy hq]; exact hx⟩, ⟨⟨y, ?_⟩, hit'.1.at fun o q => (sb.2 it (Ne.symm hne)).trans q, hne⟩, fun b hb => ?_⟩
    · have e1 : ((i + 1 : Nat) : Int) = (i : Int) + 1 := by omega
      rw [e1]; exact he'
    · have hb' : b < s.heap.objs.size := by
        have e' : b = e ∨ b = it := by simpa using hb
        rcases e' with z | z
        · rw [z]; exact hel
        · rw [z]; exact hil
      rw [upd_ne (Nat.ne_of_lt hb')]
      exact (hf b hb).1
  done := by
    intro X hP hw hK hc i pins s σ H E I hf st hg
    subst hP hw hK
    obtain ⟨⟨old, he⟩, hit, hne⟩ := st
    obtain ⟨xs, hq, hx⟩ := hg
    obtain ⟨its, rv, p, hz⟩ := I.tuple hq
    obtain ⟨f0, f1, f2, f3, f4, f5⟩ := hf it (by simp)
    have hl := rv.length
    have D := Draws.tuple (prog := X.prog) (w := X.w) (A := X.A.in1) (I.ok.hd hc) it a hai its.toArray
    have en : i = its.toArray.size := by simp; omega
    have st : it ≠ it → False := fun z => z rfl
    refine wpAny_pyNext_enum_endD D he (by rw [← en]; exact ⟨hit, p⟩) fun h' eb => ⟨rfl, I.turned (t' := s.toks) (fun b o hb q => eb b o hb q) f0 f1 f3 f4 f5⟩
  self := fun A i s Q E st h => let ⟨⟨_, he⟩, _⟩ := st; wpAny_pyIter_enum he h
def iEnumT (K : PySem.W.Frag) (ta : TA) : TI := fun σ H R => ta σ H fun vs H1 => ∃ a xs, vs = [.ref a] ∧ SqT K H1 a xs ∧ R (Iet K a) H1
theorem pi_enumT {e : Expr} {ta : TA} {p pos tpos : Pos} {elts : List Expr} {kk : Nat} (hg : Gl X "enumerate") (hm : X.mg "enumerate" = none) (ha : PA X [e] ta) (hs : starEach [e] X.env = [(false, eval e X.env)] := by rfl) :
    PI X (.Tuple elts kk tpos) (.Call (.Name "enumerate" p) [e] [] pos) (iEnumT X.K ta) := by
  refine ⟨fun pins s σ H R I h => ?_⟩
  refine Call_ (ld_blt I hg hm boot_enumerate (PyProof.Rows.callWith_type1 (thn (ha.run pos pins s σ H _ I h) fun us s1 ⟨vs, H1, I1, r1, a, xs, ex, hq, q⟩ => ?_) hs rfl))
  subst ex
  cases r1 with
  | cons r rr =>
    cases rr
    cases r
    obtain ⟨its, rv, p', hz⟩ := I1.tuple hq
    have hlt : a < s1.heap.objs.size := by
      obtain ⟨o, q1, _⟩ := p'
      exact Heap.lt_size q1
    refine enum_tup p' fun h' he hit hk => wpAny_pyIter_enum he ?_
    have I2 : Inv X pins σ H1 { s1 with heap := h' } := I1.kept (t' := s1.toks) hk
    refine ⟨s1.heap.objs.size + 1, [s1.heap.objs.size + 1, s1.heap.objs.size], _, _, H1, rfl, I2, turn_enumT a (s1.heap.objs.size + 1) s1.heap.objs.size (Nat.ne_of_lt hlt) (Nat.ne_of_lt (Nat.lt_succ_of_lt hlt)), ⟨⟨.none, he⟩, hit, Nat.succ_ne_self _⟩, fun b hb => ?_, q⟩
    have hle : s1.heap.objs.size ≤ b := by
      rcases (show b = s1.heap.objs.size + 1 ∨ b = s1.heap.objs.size by simpa using hb) with z | z
      · rw [z]; exact Nat.le_add_right _ _
      · rw [z]; exact Nat.le_refl _
    exact I1.fpOk hle (I1.hok.fresh hle)
theorem wEnumT {K : PySem.W.Frag} {a : Addr} {xs : List V} : Walk (Iet K a) xs.length (fun H => SqT K H a xs) (YPair (fun i => some (.int (i : Nat))) (fun i => xs[i]?)) := by
  refine ⟨fun i _ hi q => ⟨xs, xs[i], q, by simp [hi]⟩, fun _ q => ⟨xs, q, rfl⟩, fun i H v H' _ q y => ?_⟩
  obtain ⟨T, x, h1, h2, h3, h4⟩ := y
  exact ⟨T, .int (i : Nat), x, h1, h2, h3, rfl, h4 xs q⟩
end
end K27

set_option maxRecDepth 100000
set_option maxHeartbeats 4000000
/-! set(text) and sorted of it -/
namespace K27
open PySem PySem.Spec PyProof.Rows L2
def skey (e : Int × Value) : Str := strOf e.2
def SGood (w : World) (e : Int × Value) : Prop := ∃ k tk, e.2 = Value.str k tk ∧ e.1 = hashStr w k
/-- the set of texts at a: S its members, n their number; it can be walked -/
def SetS (w : World) (h : Heap) (a : Addr) (S : Str → Bool) (n : Nat) : Prop :=
  ∃ o es ep t, h.get? a = some o ∧ o.ExactSet ∧ o.data = .set es ep t ∧ (∀ e ∈ es.toList, SGood w e) ∧ (es.toList.map skey).Nodup ∧ (∀ k, S k = true ↔ k ∈ es.toList.map skey) ∧
    es.size < scanBound ∧ t.fits es.size = true ∧ es.size = n ∧ Ris t.place.toList ∧ (w.params.followText "set-order" = true ∨ t.led = true)
section
variable {P : Program} {w : World} {h h' : Heap} {a : Addr} {S : Str → Bool} {n : Nat}
theorem SetS.at (R : SetS w h a S n) (k : ∀ o, h.get? a = some o → h'.get? a = some o) : SetS w h' a S n := by
  obtain ⟨o, es, ep, t, ho, r⟩ := R
  exact ⟨o, es, ep, t, k o ho, r⟩
theorem sgood_is {e : Int × Value} (g : SGood w e) (k : Str) : (strKind P w).is k e.2 = true ↔ skey e = k := by
  obtain ⟨j, tk, h1, _⟩ := g
  unfold skey
  rw [h1]
  show Value.isStrOf k (.str j tk) = true ↔ strOf (.str j tk) = k
  simp only [Value.isStrOf, strOf]
  exact ⟨fun z => by simpa using z, fun z => by simpa using z⟩
theorem sgood_elems {l : List (Int × Value)} (g : ∀ e ∈ l, SGood w e) : ElemsOf (strKind P w) l := fun e he => by
  obtain ⟨k, tk, h1, h2⟩ := g e he
  rw [h1, h2]
  exact ⟨⟨k, strKind_is P w k tk, rfl⟩, rfl⟩
theorem sgood_mem {l : List (Int × Value)} (g : ∀ e ∈ l, SGood w e) (k : Str) : k ∈ l.map skey ↔ ∃ e ∈ l, (strKind P w).is k e.2 = true := by
  constructor
  · intro z
    obtain ⟨e, he, q⟩ := List.mem_map.mp z
    exact ⟨e, he, (sgood_is (g e he) k).mpr q⟩
  · rintro ⟨e, he, q⟩
    exact List.mem_map.mpr ⟨e, he, (sgood_is (g e he) k).mp q⟩
end
section
variable {P : Program} {w : World} {A : Around} {E : Value → Shared → Prop} {s : Shared} {a : Addr} {S : Str → Bool} {n : Nat}
/-- the end of an add: the table is stored, laid anew where it is full -/
theorem setS_tail {g : Bool → Sem Unit} (hg : ∀ (b : Bool) (s₁ : Shared) (Q' : Unit → Shared → Prop), Q' () s₁ → wpAny (model P w) A (g b) Q' E s₁) {o : Obj} {es : Array (Int × Value)} {ep : Nat} {t : SetTable}
    (ho : s.heap.get? a = some o) (hex : o.ExactSet) (hd : o.data = .set es ep t) {es1 : Array (Int × Value)} {t2 : SetTable} {S' : Str → Bool} (g1 : ∀ e ∈ es1.toList, SGood w e) (nd : (es1.toList.map skey).Nodup)
    (m1 : ∀ k, S' k = true ↔ k ∈ es1.toList.map skey) (hb : es1.size < scanBound) (hf : t2.fits es1.size = true) (hr : Ris t2.place.toList) (hl : w.params.followText "set-order" = true ∨ t2.led = true) {dm : Bool} {R : Option Bool → Shared → Prop}
    (hR : ∀ h', Heap.SameBut a s.heap h' → SetS w h' a S' es1.size → R (some true) { s with heap := h' }) :
    wpAny (model P w) A (do
        storeSet a es1 t2
        if (!dm && t2.tooFull) = true then do
            g (relayAll t2 es1 (SetTable.grown es1.size)).2.2
            storeSet a (relayAll t2 es1 (SetTable.grown es1.size)).1 (relayAll t2 es1 (SetTable.grown es1.size)).2.1
            pure (some true)
          else pure (some true)) R E s := by
  refine wpAny_bind (wpAny_storeSet_of ho hd ?_ (fits_of_scanBound hb))
  have ho1 := L2.store_at (es' := es1) (t' := t2) ho hd
  have sb1 := Heap.SameBut.update s.heap a (Obj.putSet es1 t2)
  split
  · have pm := relayAll_perm t2 es1 (SetTable.grown es1.size)
    have hf3 := relayAll_fits t2 es1 (SetTable.grown es1.size)
    have hr3 := relayAll_ris t2 es1 (SetTable.grown es1.size)
    have hl3 := relayAll_led t2 es1 (SetTable.grown es1.size)
    generalize relayAll t2 es1 (SetTable.grown es1.size) = Z at pm hf3 hr3 hl3 ⊢
    obtain ⟨es2, t3, gave⟩ := Z
    dsimp only at pm hf3 hr3 hl3 ⊢
    have hsz : es2.size = es1.size := by rw [← Array.length_toList, pm.length_eq, Array.length_toList]
    have hb2 : es2.size < scanBound := by omega
    have pk := pm.map skey
    refine wpAny_bind (hg _ _ _ (wpAny_bind (wpAny_storeSet_of ho1 rfl ?_ (fits_of_scanBound hb2))))
    refine wpAny_pure (hR _ (sb1.trans (Heap.SameBut.update _ a _)) ⟨_, es2, _, t3, L2.store_at (es' := es2) (t' := t3) ho1 rfl, hex, rfl, fun e he => g1 e (pm.mem_iff.mp he), pk.nodup_iff.mpr nd, fun k => (m1 k).trans pk.mem_iff.symm,
      hb2, hf3, hsz, hr3, ?_⟩)
    rcases hl with q | q
    · exact .inl q
    · exact .inr (by rw [hl3]; exact q)
  · exact wpAny_pure (hR _ sb1 ⟨_, es1, _, t2, ho1, hex, rfl, g1, nd, m1, hb, hf, rfl, hr, hl⟩)
theorem setS_add {k : Str} {tk : Tok} {Q : Bool → Shared → Prop} (R : SetS w s.heap a S n) (room : n + 1 < scanBound)
    (hQ : ∀ h', Heap.SameBut a s.heap h' → SetS w h' a (fun j => S j || decide (j = k)) (if S k = true then n else n + 1) → Q (!S k) { s with heap := h' }) :
    wpAny (model P w) A (setAddHashed a (.str k tk) ((strKind P w).hash k)) Q E s := by
  obtain ⟨o, es, ep, t, ho, hex, hd, g, nd, hm, hb, hf, hn, hr, hl⟩ := R
  have hkey : (strKind P w).is k (.str k tk) = true := strKind_is P w k tk
  have hsc : (Value.str k tk).scannable = true := rfl
  have hel : ElemsOf (strKind P w) es.toList := sgood_elems g
  unfold setAddHashed setAddHashedIn
  refine wpAny_holding (wpAny_bind (wpAny_setState_of ho hd hf ?_))
  dsimp only
  rw [byScan_of hsc hb hel]
  simp only [↓reduceIte]
  unfold setAddByScan
  refine wpAny_bind (wpAny_bind (wpAny_rule (wpAny_bind (wpAny_setScan_of hkey ho hd hf hel ?_))))
  cases hfi : List.findIdx? (fun e => (strKind P w).is k e.2) es.toList with
  | some j =>
    dsimp only
    obtain ⟨hj, pj, _⟩ := List.findIdx?_eq_some_iff_getElem.mp hfi
    have hSk : S k = true := (hm k).2 ((sgood_mem (P := P) (w := w) g k).2 ⟨es.toList[j], List.getElem_mem hj, pj⟩)
    refine wpAny_pure (wpAny_pure ?_)
    have q := hQ s.heap (Heap.SameBut.refl a s.heap) ⟨o, es, ep, t, ho, hex, hd, g, nd, fun i => by
      rw [Bool.or_eq_true, decide_eq_true_eq, ← hm i]
      exact ⟨fun z => z.elim id (fun e => e ▸ hSk), .inl⟩, hb, hf, by rw [if_pos hSk]; exact hn, hr, hl⟩
    rw [hSk] at q
    exact q
  | none =>
    dsimp only
    have hnk : k ∉ es.toList.map skey := fun z => by
      obtain ⟨e, he, q⟩ := (sgood_mem (P := P) (w := w) g k).1 z
      have c := List.findIdx?_eq_none_iff.mp hfi e he
      rw [q] at c
      cases c
    have hSk : S k = false := by
      cases q : S k with
      | false => rfl
      | true => exact absurd ((hm k).1 q) hnk
    have hgw : ∀ (b : Bool) {s₁ : Shared} {Q' : Unit → Shared → Prop}, Q' () s₁ → wpAny (model P w) A (match b with | true => rule "set.scan.the-table-gave-way" | false => pure ()) Q' E s₁ :=
      fun b s₁ Q' q => by cases b <;> first | exact wpAny_pure q | exact wpAny_rule q
    have pm := layNew_perm t es ((strKind P w).hash k) (.str k tk)
    have hf1 := layNew_fits t es ((strKind P w).hash k) (.str k tk)
    have hr1 := layNew_ris t es ((strKind P w).hash k) (.str k tk) hr
    have hl1 := layNew_led t es ((strKind P w).hash k) (.str k tk)
    generalize layNew t es ((strKind P w).hash k) (.str k tk) = Z at pm hf1 hr1 hl1 ⊢
    obtain ⟨es1, t1, dm, gave⟩ := Z
    dsimp only at pm hf1 hr1 hl1 ⊢
    rw [Array.toList_push] at pm
    have pc : es1.toList.Perm (((strKind P w).hash k, Value.str k tk) :: es.toList) := pm.trans (List.perm_append_singleton _ _)
    have pk : (es1.toList.map skey).Perm (k :: es.toList.map skey) := pc.map skey
    have g1 : ∀ e ∈ es1.toList, SGood w e := fun e he => by
      rcases List.mem_cons.mp (pc.mem_iff.mp he) with z | z
      · rw [z]; exact ⟨k, tk, rfl, rfl⟩
      · exact g e z
    have nd1 : (es1.toList.map skey).Nodup := pk.nodup_iff.mpr (List.nodup_cons.mpr ⟨hnk, nd⟩)
    have m1 : ∀ i, (S i || decide (i = k)) = true ↔ i ∈ es1.toList.map skey := fun i => by
      rw [Bool.or_eq_true, decide_eq_true_eq, hm i, pk.mem_iff, List.mem_cons]
      exact Or.comm
    have hsz : es1.size = n + 1 := by rw [← Array.length_toList, pc.length_eq, List.length_cons, Array.length_toList, hn]
    have hb1 : es1.size < scanBound := by rw [hsz]; exact room
    have hled : w.params.followText "set-order" = true ∨ t1.led = true := by
      rcases hl with q | q
      · exact .inl q
      · exact .inr (by rw [hl1]; exact q)
    have fin : ∀ h', Heap.SameBut a s.heap h' → SetS w h' a (fun j => S j || decide (j = k)) es1.size → Q true { s with heap := h' } := fun h' sb r => by
      have q := hQ h' sb
      rw [hSk] at q
      rw [hsz] at r
      exact q r
    refine wpAny_bind (hgw _ ?_)
    split
    · refine wpAny_bind ?_
      rw [hashByValue_scannable 8 hsc]
      refine wpAny_pure (setS_tail ?_ ho hex hd g1 nd1 m1 hb1 ?_ ?_ ?_ ?_)
      · intro b s₁ Q' q; cases b <;> first | exact wpAny_pure q | exact wpAny_rule q
      · first | (split <;> first | exact hf1 | exact SetTable.fits_plain_off hf1) | exact hf1
      · first | (split <;> exact hr1) | exact hr1
      · first | (split <;> exact hled) | exact hled
      · intro h' sb r; dsimp only; exact wpAny_pure (fin h' sb r)
    · refine wpAny_bind (wpAny_pure ?_)
      simp only [↓reduceIte]
      refine setS_tail ?_ ho hex hd g1 nd1 m1 hb1 hf1 hr1 hled ?_
      · intro b s₁ Q' q; cases b <;> first | exact wpAny_pure q | exact wpAny_rule q
      · intro h' sb r; dsimp only; exact wpAny_pure (fin h' sb r)
end
section
variable {P : Program} {w : World} {A : Around} {E : Value → Shared → Prop} {s : Shared}
abbrev setO0 (w : World) : Obj := { cls := .type "set", dict := none, data := .set #[] 0 (.fresh 0 0 (!w.params.followText "set-order")) }
theorem setS_new {h : Heap} {a : Addr} (ho : h.get? a = some (setO0 w)) : SetS w h a (fun _ => false) 0 :=
  ⟨_, #[], 0, _, ho, ⟨rfl, rfl, rfl⟩, rfl, (fun e he => by simp at he), (by simp), (fun k => by simp), (by decide), (by rfl), rfl, List.Pairwise.nil, by
    show _ ∨ (!w.params.followText "set-order") = true
    cases w.params.followText "set-order"
    · exact .inr rfl
    · exact .inl rfl⟩
theorem setS_update {I : Addr} {fp wr : List Addr} {G : Array GenState → Array GenState → Prop} {n : Nat} {Pv : Nat → Value → Prop} {St : Nat → Shared → Prop} {R : Result → Shared → Prop}
    (W : WalksS P w A.in1 I fp wr G n Pv St) (S : Addr) (hSf : S ∉ fp) (ns : List Str) (hn : n = ns.length) (hb : ns.length + 1 < scanBound) (hval : ∀ i v, Pv i v → ∃ k t, ns[i]? = some k ∧ v = .str k t) :
    ∀ (k i : Nat) (s : Shared), n - i = k → i ≤ n → St i s → (∃ c, c ≤ i ∧ SetS w s.heap S (fun j => decide (j ∈ ns.take i)) c) →
      (∀ s' c, Moved (S :: wr) G s s' → SetS w s'.heap S (fun j => decide (j ∈ ns)) c → R (.ok (.ret .none)) s') →
      codeAny (model P w) A (.builtin "set.update.loop" ⟨[.ref S, .ref I], []⟩) R s := by
  have hSw : S ∉ wr := fun h => hSf (W.sub _ h)
  have hsub : ∀ b ∈ wr, b ∈ S :: wr := fun b hb => List.mem_cons_of_mem _ hb
  intro k
  induction k with
  | zero =>
    intro i s hk' hi hst ⟨c, hc, hS⟩ hR
    have hin : i = n := by omega
    subst hin
    refine codeAny_builtin F.entry_set_update_loop ?_
    rw [Around.under_plainId F.plain_set_update_loop _]
    show wpAny _ A.in1 (pyNext (.ref I) >>= _) _ _ s
    refine wpAny_bind (W.done s _ _ hst fun s' hm => ?_)
    show wpAny _ A.in1 (ret Value.none) _ _ s'
    have e : ns.take i = ns := List.take_of_length_le (by omega)
    rw [e] at hS
    exact wpAny_pure (hR s' c (hm.mono hsub) (hS.at fun o e => hm.heap S o hSw e))
  | succ k ih =>
    intro i s hk' hi hst ⟨c, hc, hS⟩ hR
    have hlt : i < n := by omega
    refine codeAny_builtin F.entry_set_update_loop ?_
    rw [Around.under_plainId F.plain_set_update_loop _]
    show wpAny _ A.in1 (pyNext (.ref I) >>= _) _ _ s
    refine wpAny_bind (W.item i s _ _ hlt hst fun v s' hP hst' hm => ?_)
    obtain ⟨z, t, hz, rfl⟩ := hval i v hP
    have hS' : SetS w s'.heap S (fun j => decide (j ∈ ns.take i)) c := hS.at fun o e => hm.heap S o hSw e
    show wpAny _ A.in1 (holding [Value.str z t] (setAdd S (.str z t)) >>= _) _ _ s'
    refine wpAny_bind (wpAny_holding ?_)
    unfold setAdd
    refine wpAny_holding (wpAny_bind ((strKind P w).pyHash (k := z) (strKind_is _ _ _ _) ?_))
    refine setS_add (s := { s' with toks := s'.toks + 1 }) hS' (by omega) fun h' hsb hS2 => ?_
    have hS3 : SetS w h' S (fun j => decide (j ∈ ns.take (i + 1))) (if decide (z ∈ ns.take i) = true then c else c + 1) := by
      have e : (fun j => decide (j ∈ ns.take (i + 1))) = fun j => decide (j ∈ ns.take i) || decide (j = z) := by
        funext j
        rw [List.take_add_one, hz]
        simp [List.mem_append]
      rw [e]
      exact hS2
    have hc3 : (if decide (z ∈ ns.take i) = true then c else c + 1) ≤ i + 1 := by
      split <;> omega
    refine wpAny_pure ⟨plainId_quiet F.plain_set_update_loop _, ih (i + 1) _ (by omega) hlt (W.frame _ s' _ _ hst' (Nat.le_succ _) fun b hb o e => ?_) ⟨_, hc3, hS3⟩ fun s'' c2 hm'' hS'' => ?_⟩
    · rw [hsb.2 b (fun h : b = S => hSf (by rw [← h]; exact hb))]; exact e
    · refine hR s'' c2 (Moved.trans W.gtrans ((hm.mono hsub).then_heap (Nat.le_succ _) fun b o hb e => ?_) hm'') hS''
      rw [hsb.2 b (fun h : b = S => hb (by rw [h]; exact List.mem_cons_self))]; exact e
theorem subStr_set : isSubtype (.type "str") (.type "set") = pure false := by rw [isSubtype_type]; kernel_rfl
theorem subStr_frozenset : isSubtype (.type "str") (.type "frozenset") = pure false := by rw [isSubtype_type]; kernel_rfl
theorem sign_at {x : Str} {i : Nat} {v : Value} (h : SignAt x i v) : ∃ k t, (signs x)[i]? = some k ∧ v = .str k t := by
  obtain ⟨c, u, hc, rfl⟩ := h
  refine ⟨⟨#[c]⟩, u, ?_, rfl⟩
  unfold signs
  rw [List.getElem?_map, Array.getElem?_toList, hc]
  rfl
theorem call_setS {x : Str} {t : Tok} {Q : Value → Shared → Prop} (hh : A.handled = none) (hb : x.length + 1 < scanBound)
    (h : ∀ (h' : Heap) (tk c : Nat), SetS w h' s.heap.objs.size (fun j => decide (j ∈ signs x)) c → (∀ b o, s.heap.get? b = some o → h'.get? b = some o) → Q (.ref s.heap.objs.size) { s with heap := h', toks := tk }) :
    wpAny (model P w) A (call (.type "set") [.str x t]) Q E s := by
  have hsz : (signs x).length = x.cps.size := by unfold signs; rw [List.length_map, Array.length_toList]
  have hb' : x.cps.size + 1 < scanBound := hb
  obtain ⟨c, tl, hmro⟩ := F.called_set.mro
  have hmade := F.called_set.made
  have hsub := F.called_set.sub
  refine wpAny_call (codeAny_of_tree ?_)
  show wpAny _ _ (callAny (.type "set") _) _ _ _
  refine wpAny_pure ⟨Code.quiet_builtin _ (by decide +kernel), codeAny_builtin F.entry_type_call ?_⟩
  rw [Around.under_plain (weight_type_call_type "set" [.str x t] []) rfl]
  have h1 := F.called_set.notType
  have h2 := F.called_set.canCreate
  have hct := F.typeCall_set_1 (.str x t)
  repeat (any_goals (first | assumption | wp_step))
  refine codeAny_mono (code_set_led1 (.str x t) (E := E) (Q₁ := fun obj s₁ => obj = .ref s.heap.objs.size ∧ s₁ = { s with heap := s.heap.push (setO0 w) }) ⟨rfl, rfl⟩) fun r s₁ hr => ?_
  cases r with
  | error e => exact hr
  | ok fl =>
    cases fl with
    | ret obj =>
      obtain ⟨rfl, rfl⟩ := hr
      have hS : (s.heap.push (setO0 w)).get? s.heap.objs.size = some (setO0 w) := Heap.get?_push_size _ rfl
      have hT : Shared.TypeIs { s with heap := s.heap.push (setO0 w) } (.ref s.heap.objs.size) "set" := ⟨_, hS, rfl⟩
      have hli := F.called_set.init.lookup
      have hbi := F.called_set.init.bind (.ref s.heap.objs.size)
      repeat (any_goals (first | assumption | wp_step))
      refine codeAny_mono (codeAny_call_builtin (R := wants (fun r s₂ => r = .none ∧ ∃ h' tk c, s₂ = { s with heap := h', toks := tk } ∧ SetS w h' s.heap.objs.size (fun j => decide (j ∈ signs x)) c ∧
          (∀ b o, s.heap.get? b = some o → h'.get? b = some o)) E) F.called_set.init.plain F.entry_set_init (check_set_init_1 hT ?_)) fun r₂ s₂ hr₂ => ?_
      · have hsls := subStr_set
        have hslf := subStr_frozenset
        have hne : (Value.type "str" == Value.type "dict") = false := by decide
        unfold Builtin.«set.__init__» noKeywords Builtin.Frozenset.updateFrom
        generalize hPI : pyIter = PI
        wp_walk
        subst hPI
        refine wpAny_pyIter_str fun o St W hst => ?_
        refine wpAny_bind (wpAny_runValue ?_)
        have hh3 : A.in1.in1.in1.handled = none := by simp [hh]
        have hz1 : (s.heap.push (setO0 w)).objs.size = s.heap.objs.size + 1 := Heap.size_push ..
        have hSf : s.heap.objs.size ∉ [(s.heap.push (setO0 w)).objs.size] := by
          rw [hz1]; simp only [List.mem_singleton]
          exact Nat.ne_of_lt (Nat.lt_succ_self _)
        refine setS_update ((W _ hh3).toS) s.heap.objs.size hSf (signs x) hsz.symm (by omega) (fun i v hv => sign_at hv) (x.cps.size - 0) 0 _ (by omega) (Nat.zero_le _) hst ?hS0 ?hR
        case hS0 =>
          refine ⟨0, Nat.le_refl 0, ?_⟩
          have e : (fun j => decide (j ∈ (signs x).take 0)) = fun _ => false := by funext j; simp
          rw [e]
          exact setS_new (Heap.get?_push_of_some _ hS)
        case hR =>
          intro s' c' hm hS'
          obtain ⟨h', g2, d', tk', os'⟩ := s'
          have eg : g2 = s.gens := hm.gens
          have ed : d' = s.drawn := hm.drawn
          have eo : os' = s.os := hm.os
          subst eg; subst ed; subst eo
          show wpAny _ _ _ _ _ _
          refine wpAny_pure ?_
          show wpAny _ _ (ret Value.none) _ _ _
          refine wpAny_pure ⟨rfl, h', tk', c', rfl, hS', fun b o e => ?_⟩
          have hb0 : b < s.heap.objs.size := Heap.lt_size e
          have hb1 : b ≠ s.heap.objs.size := Nat.ne_of_lt hb0
          have hb2 : b ≠ (s.heap.push (setO0 w)).objs.size := by
            rw [hz1]; exact Nat.ne_of_lt (Nat.lt_succ_of_lt hb0)
          exact hm.heap b o (by simp only [List.mem_cons, List.mem_singleton, List.not_mem_nil, or_false, not_or]; exact ⟨hb1, hb2⟩) (Heap.get?_push_of_some _ (Heap.get?_push_of_some _ e))
      · cases r₂ with
        | error e => exact hr₂
        | ok fl₂ =>
          cases fl₂ with
          | ret r =>
            obtain ⟨rfl, h', tk, c', rfl, hS', hk'⟩ := hr₂
            repeat (any_goals (first | assumption | wp_step))
            exact h _ _ _ hS' hk'
          | _ => exact hr₂.elim
    | _ => exact hr.elim
end
end K27

set_option maxRecDepth 100000
set_option maxHeartbeats 4000000
/-! set(text), sorted of it as rules; several except .. as clauses; a class made in a try -/
namespace K27
open PySem PySem.Spec PyProof.Rows L2
def SetSO (w : World) (a : Addr) (S : Str → Bool) (n : Nat) : HO := .ext fun h => SetS w h a S n
section
variable {X : Cx}
def rSetS (w : World) : List V → Hp → VK → Prop := fun xs H Q => ∃ x : Str, xs = [.str x] ∧ x.length + 1 < 4096 ∧ ∀ p n, H p = none → Q (.ref p) (upd H p (SetSO w p (fun k => decide (k ∈ signs x)) n))
theorem cr_setS (hc : X.calm = true) : CallR X (.type "set") (rSetS X.w) := by
  intro pins s σ H xs us Q I r h
  obtain ⟨x, rfl, hx, q⟩ := h
  obtain ⟨u, rfl, t, rfl⟩ := vals1 r
  refine call_setS (I.ok.hd hc) hx fun h' tk c hS k => ?_
  have new : ObjOk X.prog X.w (upd H s.heap.objs.size (SetSO X.w s.heap.objs.size (fun k => decide (k ∈ signs x)) c)) h' s.heap.objs.size (SetSO X.w s.heap.objs.size (fun k => decide (k ∈ signs x)) c) := by
    have ⟨o, _, _, _, ho, _⟩ := hS
    exact ⟨hS, ⟨o, ho⟩, fun h1 h2 p k => SetS.at p k⟩
  exact ⟨.ref _, _, I.laid (t' := tk) k (Nat.le_refl _) new, rfl, q _ c (I.hok.fresh (Nat.le_refl _))⟩
theorem nodup_few : ∀ {l L : List Str}, l.Nodup → (∀ x ∈ l, x ∈ L) → l.length ≤ L.length
  | [], _, _, _ => Nat.zero_le _
  | a :: l, L, nd, h => by
    obtain ⟨n1, n2⟩ := List.nodup_cons.mp nd
    have ha : a ∈ L := h a List.mem_cons_self
    have q := nodup_few (l := l) (L := L.erase a) n2 fun x hx => (List.mem_erase_of_ne (fun z : x = a => n1 (by rw [← z]; exact hx))).mpr (h x (List.mem_cons_of_mem _ hx))
    have e := List.length_erase_of_mem ha
    have p := List.length_pos_of_mem ha
    simp only [List.length_cons]
    omega
def rSortedSS (w : World) : List V → Hp → VK → Prop := fun vs H Q => ∃ (a : Addr) (S : Str → Bool) (n : Nat) (L : List Str), vs = [V.ref a] ∧ H a = some (SetSO w a S n) ∧ (∀ k, S k = true → k ∈ L) ∧ L.length < 64 ∧
  ∀ (ys : List Str) (p : Addr), ys.Nodup → sortedS ys = true → (∀ k, k ∈ ys ↔ S k = true) → H p = none → Q (.ref p) (upd H p (.lst (ys.map V.str)))
theorem strs_of : ∀ (l : List Value), (∀ v ∈ l, ∃ k tk, v = Value.str k tk) → StrsAre l (l.map strOf)
  | [], _ => .nil
  | v :: l, h => by
    obtain ⟨k, tk, rfl⟩ := h v List.mem_cons_self
    exact .cons k tk (strs_of l fun u hu => h u (List.mem_cons_of_mem _ hu))
theorem cr_sortedSS (hc : X.calm = true) : CallR X (.builtin "sorted") (rSortedSS X.w) := by
  intro pins s σ H vs us Q I r h
  obtain ⟨a, S, n, L, rfl, ha, hL, h64, q⟩ := h
  have R : SetS X.w s.heap a S n := (I.hok a _ ha).1
  rw [Vals.ref1 r]
  obtain ⟨o, es, ep, t, ho, hex, hd, g, nd, hm, hb, hf, hn, hr, hl⟩ := R
  have few : es.size ≤ L.length := by
    have q1 := nodup_few nd fun k hk => hL k ((hm k).mpr hk)
    rwa [List.length_map, Array.length_toList] at q1
  refine Calls.call_function_entry kind_sorted plain_sorted entry_sorted (args_sorted1 _) ?_
  unfold Builtin.«sorted»
  refine wpAny_bind (m := checkCount "sorted" 1 1 _) (wpAny_pure ?_)
  refine wpAny_bind (L2.collect_set (A := X.A.in1) (I.ok.hd hc) ⟨o, ho, hex.1, hd⟩ hf hb hr hl fun s1 vs k1 hz g1 o1 pm => ?_)
  have hvl : vs.length = es.size := by rw [pm.length_eq, List.length_map, Array.length_toList]
  have hS : StrsAre vs (vs.map strOf) := strs_of vs fun v hv => by
    obtain ⟨e, he, q⟩ := List.mem_map.mp (pm.mem_iff.mp hv)
    obtain ⟨k, tk, h1, _⟩ := g e he
    exact ⟨k, tk, by rw [← q]; exact h1⟩
  have pk : (vs.map strOf).Perm (es.toList.map skey) := by
    have q := pm.map strOf
    rw [List.map_map] at q
    exact q
  refine wpAny_bind (wpAny_newList ?_ (by rw [hvl, sizeLine_eq]; omega))
  have hoL : (s1.heap.push (seqObj "list" vs.toArray 0)).get? s1.heap.objs.size = some (seqObj "list" vs.toArray 0) := Heap.get?_push_size _ rfl
  refine wpAny_bind (wpAny_holding (wpAny_call_entry slot_list_sort ⟨_, hoL, rfl⟩ entry_list_sort
    (list_sort_treeK strKind_oneLt hoL hS.keysOf (fun v₁ v₂ rest e => keyKind_strs (by rw [← e]; exact hS)) (by omega) fun st' a1 a2 => ⟨_, rfl, ?_⟩) (args_list_sort _)))
  obtain ⟨ss, b1, b2, b3⟩ := sorted_out_str hS a1 a2
  obtain ⟨c, hc'⟩ := sortedHeap_at (vs := vs) (out := (arrOf st').map (·.2)) hoL
  have pn : ss.Perm (es.toList.map skey) := b2.trans pk
  refine wpAny_pure ⟨_, rfl, ?_⟩
  have kk : ∀ b u, s.heap.get? b = some u → (sortedHeap (s1.heap.push (seqObj "list" vs.toArray 0)) s1.heap.objs.size vs ((arrOf st').map (·.2))).get? b = some u := fun b u e => by
    have q := k1 b u e
    have hlt := Heap.lt_size q
    rw [sortedHeap_old (Nat.ne_of_lt hlt) (by rw [size_push']; exact Nat.lt_succ_of_lt hlt)]
    exact Heap.get?_push_of_some _ q
  have hlen : (ss.map V.str).length ≤ sizeLine := by rw [List.length_map, b2.length_eq, List.length_map, hvl, sizeLine_eq]; omega
  have hfr : H s1.heap.objs.size = none := I.hok.fresh hz
  obtain ⟨hp1, gs1, dr1, tk1, os1⟩ := s1
  have J : Inv X pins σ (upd H hp1.objs.size (.lst (ss.map V.str))) { s with heap := sortedHeap (hp1.push (seqObj "list" vs.toArray 0)) hp1.objs.size vs ((arrOf st').map (·.2)), gens := gs1, drawn := dr1, toks := tk1 } :=
    I.call (ch := []) (Un.laid kk hz hfr) (I.hok.laid kk hz ⟨hlen, _, c, vals_of_strs b1, hc'⟩) (by rw [show gs1 = s.gens from g1]; exact I.bare) (fun _ z => nomatch z)
  obtain rfl : os1 = s.os := o1
  exact ⟨.ref _, _, J, rfl, q ss _ (pn.nodup_iff.mpr nd) b3 (fun k => by rw [pn.mem_iff, ← hm k]) hfr⟩
end
/-! ### try: body, except c as n: .., several times -/
/-- what the clauses wish, one after the other; l: the class, the slot of the name, the suite's reading -/
def wAsM (K : PySem.W.Frag) (Wout : WX) (D : Ends) : List (Value × Nat × (Addr → Value → Option Addr → TS)) → WX
  | [] => Wout
  | (c, i, ts) :: r => fun cls d σ H => ∃ b, PySem.W.exmOne K cls c = some b ∧ (b = true → ∀ a, H a = none → ts a cls d { nx := fun σ' H' => D.nx (σ'.set i none) H', rt := D.rt, bk := fun σ' H' => D.bk (σ'.set i none) H', ct := fun σ' H' => D.ct (σ'.set i none) H' } (σ.set i (some (.ref a))) H) ∧
      (b = false → wAsM K Wout D r cls d σ H)
inductive ClsOk (X : Cx) : List ExceptHandler → List (Value × Nat × (Addr → Value → Option Addr → TS)) → Prop
  | nil : ClsOk X [] []
  | cons {x n : Str} {c : Value} {i : Nat} {ts : Addr → Value → Option Addr → TS} {b₀ : Stmt} {suite : List Stmt} {np pos' : Pos} {hds : List ExceptHandler} {l : List (Value × Nat × (Addr → Value → Option Addr → TS))} (hc : Names X x c)
      (hi : X.N[i]? = some n) (hln : X.env.kindOf n = some .local)
      (hsu : ∀ (a : Addr) (oe : Obj) (cls : Value) (d : Option Addr) (pn : List (Addr × Obj)), Zc cls d oe → (∃ vs, oe.data = .fields vs) → PSs (X.suite a ((a, oe) :: pn)) (b₀ :: suite) (ts a cls d)) (r : ClsOk X hds l) :
      ClsOk X (.ExceptHandler (some (.Name x np)) (some n) (b₀ :: suite) pos' :: hds) ((c, i, ts) :: l)
section
variable {X : Cx} {body : List Stmt} {h₀ : ExceptHandler} {hds : List ExceptHandler} {l : List (Value × Nat × (Addr → Value → Option Addr → TS))} {pos : Pos} {tb : WX → TS} {Wout : WX}
theorem ps_try_asM (hs : X.stack = X.env :: X.outer) (hf : X.env.frame = some X.env.locals) (hN : X.N.Nodup) (tk : Takes X Wout)
    (hb : ∀ (W : WX) (pn : List (Addr × Obj)) (xe : Value → Shared → Prop), Takes (X.tr pn xe) W → PassesOwn (model X.prog X.w) X.A X.env xe → PSs (X.tr pn xe) body (tb W))
    (hh : ClsOk X (h₀ :: hds) l) : PS X (.Try body (h₀ :: hds) [] [] pos) (fun D σ H => tb (wAsM X.K Wout D l) D σ H) := by
  refine ⟨fun pins s σ H D I h => ?_⟩
  have ok := I.ok
  have hfr : X.A.frames = some (X.env :: X.outer) := by rw [ok.frames, hs]
  refine wpAny_Try_except (wpAny_mono ((hb (wAsM X.K Wout D l) (X.pn ++ pins) (fun e s₁ => wpAny (model X.prog X.w) X.A (noteFrame e X.env) (fun _ s₂ => wpAny (model X.prog X.w) X.A (setFlight e none) (fun _ s₃ =>
    wpAny (model X.prog X.w) X.A (handleBy e X.env (h₀ :: hds)) (SP X pins D) X.xe s₃) X.xe s₂) X.xe s₁) (fun u s' xx => ?_) PassesOwn.looking).run [] s σ H D (I.toTry _) h) (fun f s1 hsp => ?_) (fun e s1 he => he))
  · obtain ⟨a, B, sI, pins', σ', H', cls, d, rfl, J', nb, up, sky, na, os, ag, w⟩ := xx
    have J : Inv X pins σ' H' sI := J'.ofTry ok
    have sky' : Sky B (X.env :: X.outer) a (Zc cls d) X.env.locals s'.heap := by rw [← hs]; exact sky
    show wpAny (model X.prog X.w) X.A (noteFrame (.ref a) X.env) _ _ _
    refine Sky.land Zc.steady hfr hf sky' fun h3 fl3 up3 => ?_
    have J3 : Inv X pins σ' H' { s' with heap := h3 } := J.landed nb fl3.1 (up.trans up3) os ag
    obtain ⟨oe3, vs3, he3, hz3, hd3⟩ := fl3.there
    have nfr : a ∉ frs (X.env :: X.outer) := fun hm => by
      obtain ⟨_, o', e', hnf⟩ := fl3.2.2.1.mem hm
      rw [he3] at e'
      cases e'
      exact hnf _ hd3
    have nL : a ≠ X.env.locals := fun z => nfr (List.mem_filterMap.mpr ⟨X.env, List.mem_cons_self, by rw [hf, z]⟩)
    have nF : a ∉ X.fs := fun hm => by
      obtain ⟨e, he, q⟩ := List.mem_filterMap.mp hm
      exact nfr (List.mem_filterMap.mpr ⟨e, List.mem_cons_of_mem _ he, q⟩)
    have S3 := J3.suite he3 hd3 na nL nF
    have LT : PySem.W.Looks (model X.prog X.w) h3 (typeOf (.ref a)) cls := fun A Q E s k q => wpAny_typeOf_ref (k _ _ he3) (by rw [hz3.1]; exact q)
    have go : ∀ {hds' : List ExceptHandler} {l' : List (Value × Nat × (Addr → Value → Option Addr → TS))}, ClsOk X hds' l' → wAsM X.K Wout D l' cls d σ' H' →
        wpAny (model X.prog X.w) X.A (handleBy (.ref a) X.env hds') (SP X pins D) X.xe { s' with heap := h3 } := by
      intro hds' l' hk
      induction hk with
      | nil =>
        intro w
        refine wpAny_handleBy_nil ?_
        obtain ⟨k1, k2, k3, oe, vs, T, oT, ts', he, hz, hd, h1, hr⟩ := id fl3
        unfold PySem.passOn
        refine wpAny_bind (wpAny_field he hd h1 ?_)
        rw [if_neg (show ¬ ((Value.ref T == Value.none) = true) from by simp)]
        have fin : wpAny (model X.prog X.w) X.A (setFlight (.ref a) X.env.frame) (fun _ s4 => wpAny (model X.prog X.w) X.A (throw (.ref a) : Sem Flow) (SP X pins D) X.xe s4) X.xe { s' with heap := h3 } := by
          rw [hf]
          refine HandSPX.setFlight_upZ fl3 fun h4 hh4 up4 => wpAny_throw (tk _ _ ?_)
          exact ⟨a, B, sI, pins, σ', H', cls, d, rfl, J, nb, (up.trans up3).trans up4, .inr (.inr (by rw [hs]; exact hh4)), na, os, ag, w⟩
        first
          | exact wpAny_bind (wpAny_pure (wpAny_bind fin))
          | exact wpAny_bind fin
      | @cons x n c i ts b₀ suite np pos' hds2 l2 hc hi hln hsu r ih =>
        intro w
        obtain ⟨b, hb1, hyes, hno⟩ := w
        refine wpAny_handleBy_cons (codeAny_handlers_test ?_) (by intro q; cases q)
        have LM := PySem.W.exm_one (M := model X.prog X.w) (J3.kIn) LT hb1
        have test : ∀ {Q : Value → Shared → Prop} {E : Value → Shared → Prop}, Q c { s' with heap := h3 } → wpAny (model X.prog X.w) (X.A.mark (some (.ref a))) (eval (.Name x np) X.env) Q E { s' with heap := h3 } := fun {Q E} q => by
          obtain ⟨hg, hdbg, hm | ⟨hm, hv, hnn⟩⟩ := hc
          · exact ld_glob (X := X.suite a ((a, oe3) :: (X.pn ++ pins))) S3 hg hm q hdbg
          · exact ld_blt (X := X.suite a ((a, oe3) :: (X.pn ++ pins))) S3 hg hm hv q hnn hdbg
        refine test (LM.here ?_)
        cases b with
        | false =>
          show wpAny _ X.A (handleBy (.ref a) X.env hds2) _ _ _
          exact ih (hno rfl)
        | true =>
          refine codeAny_handlers_suite_as ?_
          refine HandSPX.lands_againZ fl3 fun h4 fl4 up4 => ?_
          have J4 : Inv X pins σ' H' { s' with heap := h4 } := J.landed nb fl4.1 ((up.trans up3).trans up4) os ag
          obtain ⟨oe4, vs4, he4, hz4, hd4⟩ := fl4.there
          have S4 := J4.suite he4 hd4 na nL nF
          refine store_ok (X := X.suite a ((a, oe4) :: (X.pn ++ pins))) (v := .ref a) S4 hN hi (.inl hln) rfl (fun s5 S5 => ?_) (.inr hln)
          refine wpAny_mono ((hsu a oe4 cls d (X.pn ++ pins) hz4 ⟨_, hd4⟩).run [] s5 _ H' _ S5 (hyes rfl a na)) (fun f s6 hsp => ?_) (fun _ _ z => False.elim z)
          have fin : ∀ {σ6 : L2.St} {H6 : Hp} {Q : Shared → Prop}, Inv (X.suite a ((a, oe4) :: (X.pn ++ pins))) [] σ6 H6 s6 → (∀ s7, Inv X pins (σ6.set i none) H6 s7 → Q s7) →
              wpAny (model X.prog X.w) X.A (do bindName X.env n .none; unbindBehindTheSuite X.env n pos') (fun _ s7 => Q s7) X.xe s6 := fun {σ6 H6 Q} S6 hq => gone_ok (S6.unsuite ok) hN hi hln hq
          cases f with
          | ret u =>
            obtain ⟨v6, σ6, H6, S6, r6, q6⟩ := hsp
            exact fin S6 fun s7 J7 => ⟨_, _, _, J7, r6, q6⟩
          | _ =>
            obtain ⟨σ6, H6, S6, q6⟩ := hsp
            exact fin S6 fun s7 J7 => ⟨_, _, J7, q6⟩
    exact go hh w
  · cases f with
    | next =>
      obtain ⟨σ', H', J', q⟩ := hsp
      exact wpAny_execs_nil ⟨σ', H', J'.ofTry ok, q⟩
    | ret u =>
      obtain ⟨v, σ', H', J', r, q⟩ := hsp
      exact ⟨v, σ', H', J'.ofTry ok, r, q⟩
    | _ =>
      obtain ⟨σ', H', J', q⟩ := hsp
      exact ⟨σ', H', J'.ofTry ok, q⟩
end
/-! ### C(e, ..) in a try: what its __init__ raises is wished for at the slots -/
section
variable {X : Cx} {CX : CXT} {k : Nat} {f C : Addr} {fd : FuncData} {ps : List Str} {sp : Sp} {dvs : List V} {ds : List Value} {E : L2.St → XK} {x : Str} {p pos : Pos} {e : Expr} {es : List Expr} {t : TA}
def tMakeSD (C : Addr) (sp : Sp) (dvs : List V) (E : L2.St → XK) (t : TA) : TE := fun σ H Q => t σ H fun vs H1 => ∀ x dx, H1 x = none → H1 dx = none → dx ≠ x →
  sp (.ref x :: (vs ++ dvs)) (upd (upd H1 dx (.own x)) x (.ins C dx [])) (fun v H2 => v = .non ∧ Q (.ref x) H2) (E σ)
theorem pe_makeSD (M : Mk X.K C f) (F : FnOk X.prog X.w X.K X.mg X.base CX k f fd ps sp) (hr : Room (k + 1) X.A) (hg : Gl X x) (hm : X.mg x = some (.ref C)) (hb : Binds X.K fd ps ds) (hd : Vals dvs ds) (hx : ∀ σ, PassesAt CX X σ (E σ))
    (ha : PA X (e :: es) t) (hdb : (x == ("__debug__" : Str)) = false := by decide) (he : starEach (e :: es) X.env = (false, eval e X.env) :: starEach es X.env := by rfl) (hpl : (backTo pos (starEach es X.env)).any (·.1) = false := by rfl) :
    PE X (.Call (.Name x p) (e :: es) [] pos) (tMakeSD C sp dvs E t) := by
  refine ⟨fun pins s σ H Q I h => ?_⟩
  refine wpAny_Call_Name_kw (ld_glob I hg hm ?_ hdb)
  refine PySem.W.callWith_K (h₀ := X.base) I.ok.mod.kin M.kp (thn (ha.run pos pins s σ H _ I h) fun us s1 ⟨vs, H1, I1, r, q⟩ => ⟨I1.kIn, ?_⟩) he hpl
  have hq := q (s1.heap.objs.size + 1) s1.heap.objs.size (I1.hok.fresh (Nat.le_succ _)) (I1.hok.fresh (Nat.le_refl _)) (Nat.ne_of_lt (Nat.lt_succ_self _))
  have I2 := Inv.made (C := C) I1
  have r2 : Vals (V.ref (s1.heap.objs.size + 1) :: (vs ++ dvs)) (Value.ref (s1.heap.objs.size + 1) :: (us ++ ds)) := .cons rfl (r.append hd)
  have hl : (Value.ref (s1.heap.objs.size + 1) :: us ++ ds).length = ps.length := by
    have e := r2.length
    rw [F.len _ _ _ _ hq] at e
    exact e.symm
  refine wpAny_call (make_map (f := f) I1.kIn M.makes M.init (beq_iff_eq.mp M.fn) (codeAny_mono (F.run _ X.stack _ _ ⟨Value.ref (s1.heap.objs.size + 1) :: us, []⟩ (Value.ref (s1.heap.objs.size + 1) :: (us ++ ds)) _ _ (E σ) (hr.make C us [])
    (I2.env0.make C us []) (hb _ (Value.ref (s1.heap.objs.size + 1) :: us) I2.kIn hl) r2 hq) fun r s' hq' => ?_))
  cases r with
  | error er => exact hx σ pins _ _ er s' I2 hq'
  | ok fl =>
    cases fl with
    | ret u =>
      obtain ⟨v, H', I3, rv, ev, q3⟩ := I2.after hq'
      subst ev
      exact ⟨rv, ⟨V.ref (s1.heap.objs.size + 1), H', I3, rfl, q3⟩⟩
    | _ => exact False.elim hq'
end
end K27

set_option maxRecDepth 100000
set_option maxHeartbeats 4000000
/-! defs that are called where no repr is under way (the guards are none): law and _law_same alone -/
namespace K27
open PySem PySem.Spec PyProof.Rows L2
/-- a def's promise, kept where no repr is under way -/
structure FnG (P : Program) (w : World) (K : PySem.W.Frag) (mg : Str → Option Value) (base : Heap) (CX : CXT) (k : Nat) (f : Addr) (fd : FuncData) (ps : List Str) (sp : Sp) : Prop where
  len : ∀ vs H Q E, sp vs H Q E → vs.length = ps.length
  run : ∀ (A : Around), A.guards = some [] → ∀ (outer : List Env) (s : Shared) (H : Hp) (args : Args) (us : List Value) (vs : List V) (Q : VK) (E : XK), Room k A → Env0 P w K mg base A outer s H → BindsTo s fd args (ps.zip us) → Vals vs us →
    sp vs H Q E → codeAny (model P w) A (.call (.ref f) args) (CR CX outer P w H s Q E) s
theorem FunD.okG {P : Program} {w : World} {K : PySem.W.Frag} {mg : Str → Option Value} {base : Heap} {x qual : Str} {params : Arguments} {body : List Stmt} {scope : Scope} {dvs : List V} {kws : List (Str × V)} {f : Addr} {fd : FuncData}
    {CX : CXT} {N ps : List Str} {k : Nat} {sp : Sp} (F : FunD K x qual params body scope dvs kws f fd) (S : FnScope N ps scope) (len : ∀ vs H Q E, sp vs H Q E → vs.length = ps.length)
    (hbody : ∀ (cdv : Value) (A : Around) (outer : List Env) (s : Shared) (H : Hp) (vs : List V) (Q : VK) (E : XK), A.guards = some [] → Room k (A.deeper (envOfC qual scope s.heap.objs.size f cdv)) → sp vs H Q E →
      ∃ t, PSs (cxOf CX P w K mg base N qual scope f cdv A outer s H E) body t ∧ t { nx := fun _ H' => Q .non H', rt := Q } (start N vs) H) : FnG P w K mg base CX (k + 1) f fd ps sp := by
  obtain ⟨oc, od, dV, kV, doc, pm, an, cdv, ct, osl, rfl, lk, hcd, _, _⟩ := F.ex
  refine ⟨len, fun A hga outer s H args us vs Q E hr e0 hb r hsp => ?_⟩
  have hl := len _ _ _ _ hsp
  have KX : K.In s.heap := e0.mod.kin.keeps fun b o e => (e0.bs b o e).1
  have hkind : ∀ y ∈ ps.zip us, scope.names.lookup y.1 = some .local ∨ (scope.names.lookup y.1 = some .cell ∧ ((cellsFrom (s.heap.objs.size + 1) scope.names []).lookup y.1).isSome = true) := fun ⟨n, v⟩ hy =>
    (S.par n (List.of_mem_zip hy).1).imp id fun q => ⟨q, PySem.W.cellsFrom_some _ _ _ (.inl q)⟩
  refine codeAny_call_function hr.depth (KX _ _ lk) rfl S.co S.gen rfl (PySem.W.codeRec_of KX hcd) (hb _ _ _ _ (wpAny_newFunctionEnv_cells S.kind hkind fun env he s1 x => ?_))
  subst he
  refine ⟨(e0.mod.nolimit.keeps fun b o e => (e0.bs b o e).1).keeps x.toInCall.keep, codeAny_func ?_⟩
  obtain ⟨t, ht, hq⟩ := hbody cdv A outer s H vs Q E hga (hr.deeper _) hsp
  have I : Inv (cxOf CX P w K mg base N qual scope f cdv A outer s H E) [] (start N vs) H s1 := inv_start S hr.hd e0 hl r x
  refine wpAny_mono (ht.run [] s1 (start N vs) H _ I hq) (fun fl s' hs => ?_) fun e s' hs => hs
  cases fl with
  | ret u =>
    obtain ⟨v, σ', H', J, rv, q⟩ := hs
    exact ⟨v, H', J.os, J.bare, J.base, J.hok, rv, q⟩
  | next =>
    obtain ⟨σ', H', J, q⟩ := hs
    exact ⟨V.non, H', J.os, J.bare, J.base, J.hok, rfl, q⟩
  | _ =>
    obtain ⟨_, _, _, q⟩ := hs
    exact False.elim q
section
variable {X : Cx} {CX : CXT} {k : Nat} {f : Addr} {fd : FuncData} {ps : List Str} {sp : Sp} {dvs : List V} {ds : List Value} {E : XK} {x : Str} {p pos : Pos} {e : Expr} {es : List Expr} {t : TA}
theorem pe_callG (hga : X.A.guards = some []) (F : FnG X.prog X.w X.K X.mg X.base CX k f fd ps sp) (hr : Room k X.A) (hg : Gl X x) (hm : X.mg x = some (.ref f)) (hk : PySem.W.keepIn X.K (.ref f) = true) (hb : Binds X.K fd ps ds) (hd : Vals dvs ds) (hx : Passes CX X E)
    (ha : PA X (e :: es) t) (hdb : (x == ("__debug__" : Str)) = false := by decide) (he : starEach (e :: es) X.env = (false, eval e X.env) :: starEach es X.env := by rfl) (hpl : (backTo pos (starEach es X.env)).any (·.1) = false := by rfl) :
    PE X (.Call (.Name x p) (e :: es) [] pos) (tCall sp dvs E t) := by
  refine ⟨fun pins s σ H Q I h => ?_⟩
  refine wpAny_Call_Name_kw (ld_glob I hg hm ?_ hdb)
  refine PySem.W.callWith_K (h₀ := X.base) I.ok.mod.kin hk (thn (ha.run pos pins s σ H _ I h) fun us s1 ⟨vs, H1, I1, r, q⟩ => ⟨I1.kIn, ?_⟩) he hpl
  have r2 : Vals (vs ++ dvs) (us ++ ds) := r.append hd
  have hl : (us ++ ds).length = ps.length := by rw [← r2.length]; exact F.len _ _ _ _ q
  refine wpAny_call (codeAny_mono (F.run X.A hga X.stack s1 H1 ⟨us, []⟩ (us ++ ds) (vs ++ dvs) Q E hr I1.env0 (hb s1 us I1.kIn hl) r2 q) fun r s' hq => ?_)
  cases r with
  | error e => exact hx pins σ H1 s1 e s' I1 hq
  | ok fl =>
    cases fl with
    | ret u => exact I1.after hq
    | _ => exact False.elim hq
end
/-! ### the law's own call -/
theorem law_callG {P : Program} {w : World} {K : PySem.W.Frag} {mg mb : Str → Option Value} {CX : CXT} {k : Nat} {fa a : Addr} {fd : FuncData} {x : Str} {sp : Sp} {s₁ : Shared} {vs : List Value} {ns : List Int}
    (KX : K.In s₁.heap) (hns : s₁.heap.Ns mainGlobals mg) (hb : s₁.heap.Ns builtinsNs mb) (hbb : ∀ x : Str, x ≠ "__name__" → mb x = bootBuiltins x) (hlim : s₁.heap.NoLimit) (hg : s₁.gens = #[])
    (ha : s₁.heap.get? a = some { cls := .type "list", data := .seq vs.toArray }) (hi : IntsAre vs ns) (hl : ns.length ≤ sizeLine) (hr : Room k callerA)
    (F : ∀ base : Heap, K.In base → base.Ns mainGlobals mg → FnG P w K mg base CX k fa fd [x] sp) (hbind : ∀ (s : Shared) (u : Value), BindsTo s fd ⟨[u], []⟩ [(x, u)])
    (hsp : ∀ H : Hp, Only H → SqL K H a (ns.map V.int) → sp [.ref a] H (fun v _ => v = .bl true) fun _ _ _ => False)
    (hCX : ∀ H e s', CX [] H s₁ (fun _ _ _ => False) e s' → False) :
    codeAny (model P w) callerA (.call (.ref fa) ⟨[.ref a], []⟩) (fun r s' => r = .ok (.ret (.bool true)) ∧ OldK s₁.heap s'.heap ∧ s'.os = s₁.os ∧ AllBare s'.gens) s₁ := by
  have rv := vals_ints hi
  have core : ∀ H : Hp, Only H → SqL K H a (ns.map V.int) → HOk P w H s₁.heap → (∀ b, H b ≠ none → b = a) → (H a ≠ none → K.lookup a = none) →
      codeAny (model P w) callerA (.call (.ref fa) ⟨[.ref a], []⟩) (fun r s' => r = .ok (.ret (.bool true)) ∧ OldK s₁.heap s'.heap ∧ s'.os = s₁.os ∧ AllBare s'.gens) s₁ := by
    intro H hO hS hok hA hK
    have free : ∀ {b : Addr}, b ≠ a → H b = none := fun {b} hb => by
      cases q : H b with
      | none => rfl
      | some u => exact absurd (hA b (by rw [q]; simp)) hb
    have noA : ∀ {b : Addr} {o : Obj} {es : Array DictEntry} {ep : Nat}, s₁.heap.get? b = some o → o.data = .dict es ep → H b = none := fun {b o es ep} e d => free fun z => by
      rw [z, ha] at e
      cases e
      cases (show Data.seq vs.toArray _ = Data.dict es ep from d)
    have nsK : ∀ {b : Addr} {m : Str → Option Value}, s₁.heap.Ns b m → (hidT s₁.heap H).Ns b m := fun {b m} ⟨o, es, ep, e, d, r⟩ => ⟨o, es, ep, hidT_get e (noA e d), d, r⟩
    have hKb : K.In (hidT s₁.heap H) := fun b o e => hidT_get (KX b o e) (by
      by_cases hb : b = a
      · cases q : H b with
        | none => rfl
        | some u =>
          rw [hb] at e q
          rw [hK (by rw [q]; simp)] at e
          cases e
      · exact free hb)
    have hM : Mod K mg (hidT s₁.heap H) := ⟨hKb, nsK hns, ⟨mb, nsK hb, hbb⟩, let ⟨mc, h1, h2⟩ := hlim; ⟨mc, nsK h1, h2⟩⟩
    have e0 : Env0 P w K mg (hidT s₁.heap H) callerA [] s₁ H := ⟨rfl, hM, fun b o e => of_hidT e, Nat.le_of_eq (hidT_size _ _), trivial, fun b hb => absurd (show b ∈ ([] : List Addr) from hb) (by simp), hok, .of_eq hg⟩
    refine codeAny_mono ((F _ hKb (nsK hns)).run callerA rfl [] s₁ H ⟨[.ref a], []⟩ [.ref a] [.ref a] _ _ hr e0 (hbind s₁ (.ref a)) (.cons rfl .nil) (hsp H hO hS)) fun r s' h => ?_
    cases r with
    | error e => exact (hCX H e s' h).elim
    | ok fl =>
      cases fl with
      | ret u =>
        obtain ⟨v, H', os, bare, un, hok', r', q⟩ := h
        have q' : v = .bl true := q
        subst q'
        obtain rfl : u = Value.bool true := r'
        refine ⟨rfl, OldK.of_keep fun b o e => ?_, os, bare⟩
        cases q : H b with
        | none => exact un.keep b o e q (by intro z; exact absurd (show b ∈ ([] : List Addr) from z) (by simp)) (by simp)
        | some u =>
          rcases hO b with z | ⟨ob, xs, z⟩
          · rw [q] at z; cases z
          · obtain ⟨e1, _⟩ := hok b _ z
            obtain ⟨e2, _⟩ := hok' b _ (un.frzs b ob _ z)
            rw [e] at e1; cases e1
            exact e2
      | _ => exact False.elim h
  cases hk : K.lookup a with
  | some o =>
    have e := KX a o hk
    rw [ha] at e
    cases e
    refine core (fun _ => none) (fun _ => .inl rfl) (.inr ⟨_, vs.toArray, _, hk, rfl, rfl, rfl, by rw [List.size_toArray, hi.length]; exact hl, by simpa using rv⟩) (fun b u z => by cases (show (none : Option HO) = some u from z)) (fun b z => absurd rfl z) fun z => absurd rfl z
  | none =>
    refine core (fun b => if b = a then some (.frz { cls := .type "list", data := .seq vs.toArray } (.lst (ns.map V.int))) else none) (fun b => ?_) (.inl (.inr ⟨{ cls := .type "list", data := .seq vs.toArray }, if_pos rfl⟩)) (fun b u z => ?_) (fun b z => ?_) fun _ => hk
    · by_cases hb : b = a
      · exact .inr ⟨_, _, if_pos hb⟩
      · exact .inl (if_neg hb)
    · by_cases hb : b = a
      · have z' := (if_pos hb).symm.trans z
        cases z'
        subst hb
        exact ⟨ha, by rw [List.length_map]; exact hl, vs, _, rv, ha⟩
      · cases (if_neg hb).symm.trans z
    · by_cases hb : b = a
      · exact hb
      · exact absurd (if_neg hb) z
theorem walk_ofG {l : PySem.W.OpenLaw} {n k : Nat} {q : Program} {loose : List Str} {XP : (Str → Option Value) → Heap → Prop} {YP : World → Heap → Prop} {d : DefRec} {CX : CXT} {x : Str}
    (hn : l.most = some n) (hn2 : n ≤ sizeLine) (hdf : d.params.defaults = []) (hr : Room k callerA)
    (F : ∀ (w : World) (mg : Str → Option Value) (fa : Addr) (h : Heap), YP w h → h.Ns mainGlobals mg → mg d.name = some (.ref fa) →
      ∃ (K : PySem.W.Frag) (fd : FuncData) (sp : Sp), K.In h ∧ (∀ (s : Shared) (u : Value), BindsTo s fd ⟨[u], []⟩ [(x, u)]) ∧
        (∀ (H : Hp) (a : Addr) (ns : List Int), ns.length ≤ n → Only H → SqL K H a (ns.map V.int) → sp [.ref a] H (fun v _ => v = .bl true) fun _ _ _ => False) ∧
        ∀ base : Heap, K.In base → base.Ns mainGlobals mg → FnG l.prog w K mg base CX k fa fd [x] sp)
    (hCX : ∀ (H : Hp) (s : Shared) (e : Value) (s' : Shared), CX [] H s (fun _ _ _ => False) e s' → False) :
    PySem.W.WalkO q loose XP YP l.row.toRowW d [] (fun f vs => PySem.call f vs) := by
  refine Att.attach_call hn hdf fun w s₀ s₁ mg mb fa o pm cd doc a vs ns G Y ho hd hcd hmg hobj hints hlen hg => ?_
  obtain ⟨K, fd, sp, KX, hb, hsp, hF⟩ := F w mg fa _ Y G.T.g hmg
  exact law_callG KX G.T.g G.T.b G.T.builtins G.T.nolimit hg hobj hints (Nat.le_trans hlen hn2) hr hF hb (fun H hO hS => hsp H a ns hlen hO hS) fun H e s' => hCX H s₁ e s'
end K27

set_option maxRecDepth 100000
set_option maxHeartbeats 4000000
/-! the facts of the top by names; the layer's rules by named relations; a def's promise with its binding -/
namespace K27
open PySem PySem.Spec PyProof.Rows L2
/-- what the top has written -/
structure Tx (K : PySem.W.Frag) (mg : PySem.Str → Option Value) : Prop where
  says : SaysM K
  ex : ∃ h : Heap, K.In h ∧ h.Ns mainGlobals mg
section
variable {K : PySem.W.Frag} {mg : PySem.Str → Option Value}
theorem Tx.fact (T : Tx K mg) (i : Nat) {f : He.Fa} (h : fa[i]? = some f) : f.ok K = true := T.says.d.fact i h
theorem Tx.glo (T : Tx K mg) {x : PySem.Str} (c : (He.Fa.glo x).ok K = true) : mg x = some (.ref (He.ga K x)) := let ⟨_, X, G⟩ := T.ex; He.glo_ok X G c
theorem Tx.free (T : Tx K mg) {x : PySem.Str} (c : (He.Fa.free x).ok K = true) : mg x = none := let ⟨_, X, G⟩ := T.ex; He.free_ok X G c
theorem Tx.int (T : Tx K mg) {x : PySem.Str} {i : Int} (c : (He.Fa.int x i).ok K = true) : ∃ t, mg x = some (.int i t) := let ⟨_, X, G⟩ := T.ex; He.int_ok X G c
theorem Tx.str (T : Tx K mg) {x z : PySem.Str} (c : (He.Fa.str x z).ok K = true) : ∃ t, mg x = some (.str z t) := let ⟨_, X, G⟩ := T.ex; He.str_ok X G c
end

section
variable {K : PySem.W.Frag} {mg : PySem.Str → Option Value}
theorem Tx.F_BadProgram_init (T : Tx K mg) : ∃ fd, FunD K "__init__" "BadProgram.__init__" (defArgs s_BadProgram_init) (defBody s_BadProgram_init) (defScope s_BadProgram_init) [] [] (He.ma K (He.ga K "BadProgram") "__init__") fd := T.says.d.def_ 0 (d := d_BadProgram_init) rfl
theorem Tx.F_TooMany_init (T : Tx K mg) : ∃ fd, FunD K "__init__" "TooMany.__init__" (defArgs s_TooMany_init) (defBody s_TooMany_init) (defScope s_TooMany_init) [] [] (He.ma K (He.ga K "TooMany") "__init__") fd := T.says.d.def_ 1 (d := d_TooMany_init) rfl
theorem Tx.g_is_contents (T : Tx K mg) : mg "is_contents" = some (.ref (He.ga K "is_contents")) := T.glo (T.fact 0 (f := .glo "is_contents") rfl)
theorem Tx.F_is_contents (T : Tx K mg) : ∃ fd, FunD K "is_contents" "is_contents" (defArgs s_is_contents) (defBody s_is_contents) (defScope s_is_contents) [] [] (He.ga K "is_contents") fd := T.says.d.def_ 2 (d := d_is_contents) rfl
theorem Tx.g_parts_of (T : Tx K mg) : mg "parts_of" = some (.ref (He.ga K "parts_of")) := T.glo (T.fact 1 (f := .glo "parts_of") rfl)
theorem Tx.F_parts_of (T : Tx K mg) : ∃ fd, FunD K "parts_of" "parts_of" (defArgs s_parts_of) (defBody s_parts_of) (defScope s_parts_of) [] [] (He.ga K "parts_of") fd := T.says.d.def_ 3 (d := d_parts_of) rfl
theorem Tx.g_is_word (T : Tx K mg) : mg "is_word" = some (.ref (He.ga K "is_word")) := T.glo (T.fact 2 (f := .glo "is_word") rfl)
theorem Tx.F_is_word (T : Tx K mg) : ∃ fd, FunD K "is_word" "is_word" (defArgs s_is_word) (defBody s_is_word) (defScope s_is_word) [] [] (He.ga K "is_word") fd := T.says.d.def_ 4 (d := d_is_word) rfl
theorem Tx.g_is_variable (T : Tx K mg) : mg "is_variable" = some (.ref (He.ga K "is_variable")) := T.glo (T.fact 3 (f := .glo "is_variable") rfl)
theorem Tx.F_is_variable (T : Tx K mg) : ∃ fd, FunD K "is_variable" "is_variable" (defArgs s_is_variable) (defBody s_is_variable) (defScope s_is_variable) [] [] (He.ga K "is_variable") fd := T.says.d.def_ 5 (d := d_is_variable) rfl
theorem Tx.g_is_set (T : Tx K mg) : mg "is_set" = some (.ref (He.ga K "is_set")) := T.glo (T.fact 4 (f := .glo "is_set") rfl)
theorem Tx.F_is_set (T : Tx K mg) : ∃ fd, FunD K "is_set" "is_set" (defArgs s_is_set) (defBody s_is_set) (defScope s_is_set) [] [] (He.ga K "is_set") fd := T.says.d.def_ 6 (d := d_is_set) rfl
theorem Tx.g_is_term (T : Tx K mg) : mg "is_term" = some (.ref (He.ga K "is_term")) := T.glo (T.fact 5 (f := .glo "is_term") rfl)
theorem Tx.F_is_term (T : Tx K mg) : ∃ fd, FunD K "is_term" "is_term" (defArgs s_is_term) (defBody s_is_term) (defScope s_is_term) [] [] (He.ga K "is_term") fd := T.says.d.def_ 7 (d := d_is_term) rfl
theorem Tx.g_variables (T : Tx K mg) : mg "variables" = some (.ref (He.ga K "variables")) := T.glo (T.fact 6 (f := .glo "variables") rfl)
theorem Tx.F_variables (T : Tx K mg) : ∃ fd, FunD K "variables" "variables" (defArgs s_variables) (defBody s_variables) (defScope s_variables) [] [] (He.ga K "variables") fd := T.says.d.def_ 8 (d := d_variables) rfl
theorem Tx.g_plain_words (T : Tx K mg) : mg "plain_words" = some (.ref (He.ga K "plain_words")) := T.glo (T.fact 7 (f := .glo "plain_words") rfl)
theorem Tx.F_plain_words (T : Tx K mg) : ∃ fd, FunD K "plain_words" "plain_words" (defArgs s_plain_words) (defBody s_plain_words) (defScope s_plain_words) [.bl false] [] (He.ga K "plain_words") fd := T.says.d.def_ 9 (d := d_plain_words) rfl
theorem Tx.g_test_words (T : Tx K mg) : mg "test_words" = some (.ref (He.ga K "test_words")) := T.glo (T.fact 8 (f := .glo "test_words") rfl)
theorem Tx.F_test_words (T : Tx K mg) : ∃ fd, FunD K "test_words" "test_words" (defArgs s_test_words) (defBody s_test_words) (defScope s_test_words) [] [] (He.ga K "test_words") fd := T.says.d.def_ 10 (d := d_test_words) rfl
theorem Tx.g_task_words (T : Tx K mg) : mg "task_words" = some (.ref (He.ga K "task_words")) := T.glo (T.fact 9 (f := .glo "task_words") rfl)
theorem Tx.F_task_words (T : Tx K mg) : ∃ fd, FunD K "task_words" "task_words" (defArgs s_task_words) (defBody s_task_words) (defScope s_task_words) [] [] (He.ga K "task_words") fd := T.says.d.def_ 11 (d := d_task_words) rfl
theorem Tx.g_checked_marks (T : Tx K mg) : mg "checked_marks" = some (.ref (He.ga K "checked_marks")) := T.glo (T.fact 10 (f := .glo "checked_marks") rfl)
theorem Tx.F_checked_marks (T : Tx K mg) : ∃ fd, FunD K "checked_marks" "checked_marks" (defArgs s_checked_marks) (defBody s_checked_marks) (defScope s_checked_marks) [] [] (He.ga K "checked_marks") fd := T.says.d.def_ 12 (d := d_checked_marks) rfl
theorem Tx.g_checked_rows (T : Tx K mg) : mg "checked_rows" = some (.ref (He.ga K "checked_rows")) := T.glo (T.fact 11 (f := .glo "checked_rows") rfl)
theorem Tx.F_checked_rows (T : Tx K mg) : ∃ fd, FunD K "checked_rows" "checked_rows" (defArgs s_checked_rows) (defBody s_checked_rows) (defScope s_checked_rows) [] [] (He.ga K "checked_rows") fd := T.says.d.def_ 13 (d := d_checked_rows) rfl
theorem Tx.g_checked_plain (T : Tx K mg) : mg "checked_plain" = some (.ref (He.ga K "checked_plain")) := T.glo (T.fact 12 (f := .glo "checked_plain") rfl)
theorem Tx.F_checked_plain (T : Tx K mg) : ∃ fd, FunD K "checked_plain" "checked_plain" (defArgs s_checked_plain) (defBody s_checked_plain) (defScope s_checked_plain) [] [] (He.ga K "checked_plain") fd := T.says.d.def_ 14 (d := d_checked_plain) rfl
theorem Tx.g_check_task (T : Tx K mg) : mg "check_task" = some (.ref (He.ga K "check_task")) := T.glo (T.fact 13 (f := .glo "check_task") rfl)
theorem Tx.F_check_task (T : Tx K mg) : ∃ fd, FunD K "check_task" "check_task" (defArgs s_check_task) (defBody s_check_task) (defScope s_check_task) [] [] (He.ga K "check_task") fd := T.says.d.def_ 15 (d := d_check_task) rfl
theorem Tx.F_Program_init (T : Tx K mg) : ∃ fd, FunD K "__init__" "Program.__init__" (defArgs s_Program_init) (defBody s_Program_init) (defScope s_Program_init) [] [] (He.ma K (He.ga K "Program") "__init__") fd := T.says.d.def_ 16 (d := d_Program_init) rfl
theorem Tx.g_l_numbers (T : Tx K mg) : mg "_law_numbers" = some (.ref (He.ga K "_law_numbers")) := T.glo (T.fact 14 (f := .glo "_law_numbers") rfl)
theorem Tx.F_l_numbers (T : Tx K mg) : ∃ fd, FunD K "_law_numbers" "_law_numbers" (defArgs s_l_numbers) (defBody s_l_numbers) (defScope s_l_numbers) [] [] (He.ga K "_law_numbers") fd := T.says.d.def_ 17 (d := d_l_numbers) rfl
theorem Tx.g_l_draw (T : Tx K mg) : mg "_law_draw" = some (.ref (He.ga K "_law_draw")) := T.glo (T.fact 15 (f := .glo "_law_draw") rfl)
theorem Tx.F_l_draw (T : Tx K mg) : ∃ fd, FunD K "_law_draw" "_law_draw" (defArgs s_l_draw) (defBody s_l_draw) (defScope s_l_draw) [] [] (He.ga K "_law_draw") fd := T.says.d.def_ 18 (d := d_l_draw) rfl
theorem Tx.g_l_of (T : Tx K mg) : mg "_law_of" = some (.ref (He.ga K "_law_of")) := T.glo (T.fact 16 (f := .glo "_law_of") rfl)
theorem Tx.F_l_of (T : Tx K mg) : ∃ fd, FunD K "_law_of" "_law_of" (defArgs s_l_of) (defBody s_l_of) (defScope s_l_of) [] [] (He.ga K "_law_of") fd := T.says.d.def_ 19 (d := d_l_of) rfl
theorem Tx.g_l_pick (T : Tx K mg) : mg "_law_pick" = some (.ref (He.ga K "_law_pick")) := T.glo (T.fact 17 (f := .glo "_law_pick") rfl)
theorem Tx.F_l_pick (T : Tx K mg) : ∃ fd, FunD K "_law_pick" "_law_pick" (defArgs s_l_pick) (defBody s_l_pick) (defScope s_l_pick) [] [] (He.ga K "_law_pick") fd := T.says.d.def_ 20 (d := d_l_pick) rfl
theorem Tx.g_l_drawn_marks (T : Tx K mg) : mg "_law_drawn_marks" = some (.ref (He.ga K "_law_drawn_marks")) := T.glo (T.fact 18 (f := .glo "_law_drawn_marks") rfl)
theorem Tx.F_l_drawn_marks (T : Tx K mg) : ∃ fd, FunD K "_law_drawn_marks" "_law_drawn_marks" (defArgs s_l_drawn_marks) (defBody s_l_drawn_marks) (defScope s_l_drawn_marks) [] [] (He.ga K "_law_drawn_marks") fd := T.says.d.def_ 21 (d := d_l_drawn_marks) rfl
theorem Tx.g_l_drawn_contents (T : Tx K mg) : mg "_law_drawn_contents" = some (.ref (He.ga K "_law_drawn_contents")) := T.glo (T.fact 19 (f := .glo "_law_drawn_contents") rfl)
theorem Tx.F_l_drawn_contents (T : Tx K mg) : ∃ fd, FunD K "_law_drawn_contents" "_law_drawn_contents" (defArgs s_l_drawn_contents) (defBody s_l_drawn_contents) (defScope s_l_drawn_contents) [] [] (He.ga K "_law_drawn_contents") fd := T.says.d.def_ 22 (d := d_l_drawn_contents) rfl
theorem Tx.g_l_reserved (T : Tx K mg) : mg "_law_reserved" = some (.ref (He.ga K "_law_reserved")) := T.glo (T.fact 20 (f := .glo "_law_reserved") rfl)
theorem Tx.F_l_reserved (T : Tx K mg) : ∃ fd, FunD K "_law_reserved" "_law_reserved" (defArgs s_l_reserved) (defBody s_l_reserved) (defScope s_l_reserved) [] [] (He.ga K "_law_reserved") fd := T.says.d.def_ 23 (d := d_l_reserved) rfl
theorem Tx.g_l_one_word (T : Tx K mg) : mg "_law_one_word" = some (.ref (He.ga K "_law_one_word")) := T.glo (T.fact 21 (f := .glo "_law_one_word") rfl)
theorem Tx.F_l_one_word (T : Tx K mg) : ∃ fd, FunD K "_law_one_word" "_law_one_word" (defArgs s_l_one_word) (defBody s_l_one_word) (defScope s_l_one_word) [] [] (He.ga K "_law_one_word") fd := T.says.d.def_ 24 (d := d_l_one_word) rfl
theorem Tx.g_l_drawn_words (T : Tx K mg) : mg "_law_drawn_words" = some (.ref (He.ga K "_law_drawn_words")) := T.glo (T.fact 22 (f := .glo "_law_drawn_words") rfl)
theorem Tx.F_l_drawn_words (T : Tx K mg) : ∃ fd, FunD K "_law_drawn_words" "_law_drawn_words" (defArgs s_l_drawn_words) (defBody s_l_drawn_words) (defScope s_l_drawn_words) [] [] (He.ga K "_law_drawn_words") fd := T.says.d.def_ 25 (d := d_l_drawn_words) rfl
theorem Tx.g_l_term (T : Tx K mg) : mg "_law_term" = some (.ref (He.ga K "_law_term")) := T.glo (T.fact 23 (f := .glo "_law_term") rfl)
theorem Tx.F_l_term (T : Tx K mg) : ∃ fd, FunD K "_law_term" "_law_term" (defArgs s_l_term) (defBody s_l_term) (defScope s_l_term) [] [] (He.ga K "_law_term") fd := T.says.d.def_ 26 (d := d_l_term) rfl
theorem Tx.g_l_sum (T : Tx K mg) : mg "_law_sum" = some (.ref (He.ga K "_law_sum")) := T.glo (T.fact 24 (f := .glo "_law_sum") rfl)
theorem Tx.F_l_sum (T : Tx K mg) : ∃ fd, FunD K "_law_sum" "_law_sum" (defArgs s_l_sum) (defBody s_l_sum) (defScope s_l_sum) [] [] (He.ga K "_law_sum") fd := T.says.d.def_ 27 (d := d_l_sum) rfl
theorem Tx.g_l_binding (T : Tx K mg) : mg "_law_binding" = some (.ref (He.ga K "_law_binding")) := T.glo (T.fact 25 (f := .glo "_law_binding") rfl)
theorem Tx.F_l_binding (T : Tx K mg) : ∃ fd, FunD K "_law_binding" "_law_binding" (defArgs s_l_binding) (defBody s_l_binding) (defScope s_l_binding) [] [] (He.ga K "_law_binding") fd := T.says.d.def_ 28 (d := d_l_binding) rfl
theorem Tx.g_l_plain_row (T : Tx K mg) : mg "_law_plain_row" = some (.ref (He.ga K "_law_plain_row")) := T.glo (T.fact 26 (f := .glo "_law_plain_row") rfl)
theorem Tx.F_l_plain_row (T : Tx K mg) : ∃ fd, FunD K "_law_plain_row" "_law_plain_row" (defArgs s_l_plain_row) (defBody s_l_plain_row) (defScope s_l_plain_row) [] [] (He.ga K "_law_plain_row") fd := T.says.d.def_ 29 (d := d_l_plain_row) rfl
theorem Tx.g_l_plains (T : Tx K mg) : mg "_law_plains" = some (.ref (He.ga K "_law_plains")) := T.glo (T.fact 27 (f := .glo "_law_plains") rfl)
theorem Tx.F_l_plains (T : Tx K mg) : ∃ fd, FunD K "_law_plains" "_law_plains" (defArgs s_l_plains) (defBody s_l_plains) (defScope s_l_plains) [] [] (He.ga K "_law_plains") fd := T.says.d.def_ 30 (d := d_l_plains) rfl
theorem Tx.g_l_test (T : Tx K mg) : mg "_law_test" = some (.ref (He.ga K "_law_test")) := T.glo (T.fact 28 (f := .glo "_law_test") rfl)
theorem Tx.F_l_test (T : Tx K mg) : ∃ fd, FunD K "_law_test" "_law_test" (defArgs s_l_test) (defBody s_l_test) (defScope s_l_test) [] [] (He.ga K "_law_test") fd := T.says.d.def_ 31 (d := d_l_test) rfl
theorem Tx.g_l_last (T : Tx K mg) : mg "_law_last" = some (.ref (He.ga K "_law_last")) := T.glo (T.fact 29 (f := .glo "_law_last") rfl)
theorem Tx.F_l_last (T : Tx K mg) : ∃ fd, FunD K "_law_last" "_law_last" (defArgs s_l_last) (defBody s_l_last) (defScope s_l_last) [] [] (He.ga K "_law_last") fd := T.says.d.def_ 32 (d := d_l_last) rfl
theorem Tx.g_l_work (T : Tx K mg) : mg "_law_work" = some (.ref (He.ga K "_law_work")) := T.glo (T.fact 30 (f := .glo "_law_work") rfl)
theorem Tx.F_l_work (T : Tx K mg) : ∃ fd, FunD K "_law_work" "_law_work" (defArgs s_l_work) (defBody s_l_work) (defScope s_l_work) [] [] (He.ga K "_law_work") fd := T.says.d.def_ 33 (d := d_l_work) rfl
theorem Tx.g_l_drawn_parts (T : Tx K mg) : mg "_law_drawn_parts" = some (.ref (He.ga K "_law_drawn_parts")) := T.glo (T.fact 31 (f := .glo "_law_drawn_parts") rfl)
theorem Tx.F_l_drawn_parts (T : Tx K mg) : ∃ fd, FunD K "_law_drawn_parts" "_law_drawn_parts" (defArgs s_l_drawn_parts) (defBody s_l_drawn_parts) (defScope s_l_drawn_parts) [] [] (He.ga K "_law_drawn_parts") fd := T.says.d.def_ 34 (d := d_l_drawn_parts) rfl
theorem Tx.g_l_is_word (T : Tx K mg) : mg "_law_is_word" = some (.ref (He.ga K "_law_is_word")) := T.glo (T.fact 32 (f := .glo "_law_is_word") rfl)
theorem Tx.F_l_is_word (T : Tx K mg) : ∃ fd, FunD K "_law_is_word" "_law_is_word" (defArgs s_l_is_word) (defBody s_l_is_word) (defScope s_l_is_word) [] [] (He.ga K "_law_is_word") fd := T.says.d.def_ 35 (d := d_l_is_word) rfl
theorem Tx.g_l_reads (T : Tx K mg) : mg "_law_reads" = some (.ref (He.ga K "_law_reads")) := T.glo (T.fact 33 (f := .glo "_law_reads") rfl)
theorem Tx.F_l_reads (T : Tx K mg) : ∃ fd, FunD K "_law_reads" "_law_reads" (defArgs s_l_reads) (defBody s_l_reads) (defScope s_l_reads) [] [] (He.ga K "_law_reads") fd := T.says.d.def_ 36 (d := d_l_reads) rfl
theorem Tx.g_l_fits_task (T : Tx K mg) : mg "_law_fits_task" = some (.ref (He.ga K "_law_fits_task")) := T.glo (T.fact 34 (f := .glo "_law_fits_task") rfl)
theorem Tx.F_l_fits_task (T : Tx K mg) : ∃ fd, FunD K "_law_fits_task" "_law_fits_task" (defArgs s_l_fits_task) (defBody s_l_fits_task) (defScope s_l_fits_task) [] [] (He.ga K "_law_fits_task") fd := T.says.d.def_ 37 (d := d_l_fits_task) rfl
theorem Tx.g_l_fits (T : Tx K mg) : mg "_law_fits" = some (.ref (He.ga K "_law_fits")) := T.glo (T.fact 35 (f := .glo "_law_fits") rfl)
theorem Tx.F_l_fits (T : Tx K mg) : ∃ fd, FunD K "_law_fits" "_law_fits" (defArgs s_l_fits) (defBody s_l_fits) (defScope s_l_fits) [] [] (He.ga K "_law_fits") fd := T.says.d.def_ 38 (d := d_l_fits) rfl
theorem Tx.g_l_first_wrong (T : Tx K mg) : mg "_law_first_wrong" = some (.ref (He.ga K "_law_first_wrong")) := T.glo (T.fact 36 (f := .glo "_law_first_wrong") rfl)
theorem Tx.F_l_first_wrong (T : Tx K mg) : ∃ fd, FunD K "_law_first_wrong" "_law_first_wrong" (defArgs s_l_first_wrong) (defBody s_l_first_wrong) (defScope s_l_first_wrong) [] [] (He.ga K "_law_first_wrong") fd := T.says.d.def_ 39 (d := d_l_first_wrong) rfl
theorem Tx.g_l_are_marks (T : Tx K mg) : mg "_law_are_marks" = some (.ref (He.ga K "_law_are_marks")) := T.glo (T.fact 37 (f := .glo "_law_are_marks") rfl)
theorem Tx.F_l_are_marks (T : Tx K mg) : ∃ fd, FunD K "_law_are_marks" "_law_are_marks" (defArgs s_l_are_marks) (defBody s_l_are_marks) (defScope s_l_are_marks) [] [] (He.ga K "_law_are_marks") fd := T.says.d.def_ 40 (d := d_l_are_marks) rfl
theorem Tx.g_l_error (T : Tx K mg) : mg "_law_error" = some (.ref (He.ga K "_law_error")) := T.glo (T.fact 38 (f := .glo "_law_error") rfl)
theorem Tx.F_l_error (T : Tx K mg) : ∃ fd, FunD K "_law_error" "_law_error" (defArgs s_l_error) (defBody s_l_error) (defScope s_l_error) [] [] (He.ga K "_law_error") fd := T.says.d.def_ 41 (d := d_l_error) rfl
theorem Tx.g_l_raised (T : Tx K mg) : mg "_law_raised" = some (.ref (He.ga K "_law_raised")) := T.glo (T.fact 39 (f := .glo "_law_raised") rfl)
theorem Tx.F_l_raised (T : Tx K mg) : ∃ fd, FunD K "_law_raised" "_law_raised" (defArgs s_l_raised) (defBody s_l_raised) (defScope s_l_raised) [] [] (He.ga K "_law_raised") fd := T.says.d.def_ 42 (d := d_l_raised) rfl
theorem Tx.g_l_same (T : Tx K mg) : mg "_law_same" = some (.ref (He.ga K "_law_same")) := T.glo (T.fact 40 (f := .glo "_law_same") rfl)
theorem Tx.F_l_same (T : Tx K mg) : ∃ fd, FunD K "_law_same" "_law_same" (defArgs s_l_same) (defBody s_l_same) (defScope s_l_same) [] [] (He.ga K "_law_same") fd := T.says.d.def_ 43 (d := d_l_same) rfl
theorem Tx.g_l_token (T : Tx K mg) : mg "_law_token" = some (.ref (He.ga K "_law_token")) := T.glo (T.fact 41 (f := .glo "_law_token") rfl)
theorem Tx.F_l_token (T : Tx K mg) : ∃ fd, FunD K "_law_token" "_law_token" (defArgs s_l_token) (defBody s_l_token) (defScope s_l_token) [] [] (He.ga K "_law_token") fd := T.says.d.def_ 44 (d := d_l_token) rfl
theorem Tx.g_l_row (T : Tx K mg) : mg "_law_row" = some (.ref (He.ga K "_law_row")) := T.glo (T.fact 42 (f := .glo "_law_row") rfl)
theorem Tx.F_l_row (T : Tx K mg) : ∃ fd, FunD K "_law_row" "_law_row" (defArgs s_l_row) (defBody s_l_row) (defScope s_l_row) [] [] (He.ga K "_law_row") fd := T.says.d.def_ 45 (d := d_l_row) rfl
theorem Tx.g_law (T : Tx K mg) : mg "law" = some (.ref (He.ga K "law")) := T.glo (T.fact 43 (f := .glo "law") rfl)
theorem Tx.F_law (T : Tx K mg) : ∃ fd, FunD K "law" "law" (defArgs s_law) (defBody s_law) (defScope s_law) [] [] (He.ga K "law") fd := T.says.d.def_ 46 (d := d_law) rfl
theorem Tx.g_BadProgram (T : Tx K mg) : mg "BadProgram" = some (.ref (He.ga K "BadProgram")) := T.glo (T.fact 44 (f := .glo "BadProgram") rfl)
theorem Tx.g_TooMany (T : Tx K mg) : mg "TooMany" = some (.ref (He.ga K "TooMany")) := T.glo (T.fact 45 (f := .glo "TooMany") rfl)
theorem Tx.g_Program (T : Tx K mg) : mg "Program" = some (.ref (He.ga K "Program")) := T.glo (T.fact 46 (f := .glo "Program") rfl)
theorem Tx.g_RESERVED (T : Tx K mg) : mg "RESERVED" = some (.ref (He.ga K "RESERVED")) := T.glo (T.fact 47 (f := .glo "RESERVED") rfl)
theorem Tx.g_OF_THE_TASK (T : Tx K mg) : mg "OF_THE_TASK" = some (.ref (He.ga K "OF_THE_TASK")) := T.glo (T.fact 48 (f := .glo "OF_THE_TASK") rfl)
theorem Tx.g_SIGNS (T : Tx K mg) : mg "SIGNS" = some (.ref (He.ga K "SIGNS")) := T.glo (T.fact 49 (f := .glo "SIGNS") rfl)
theorem Tx.g_CHANGES (T : Tx K mg) : mg "CHANGES" = some (.ref (He.ga K "CHANGES")) := T.glo (T.fact 50 (f := .glo "CHANGES") rfl)
theorem Tx.f_len (T : Tx K mg) : mg "len" = none := T.free (T.fact 51 (f := .free "len") rfl)
theorem Tx.f_list (T : Tx K mg) : mg "list" = none := T.free (T.fact 52 (f := .free "list") rfl)
theorem Tx.f_int (T : Tx K mg) : mg "int" = none := T.free (T.fact 53 (f := .free "int") rfl)
theorem Tx.f_range (T : Tx K mg) : mg "range" = none := T.free (T.fact 54 (f := .free "range") rfl)
theorem Tx.f_all (T : Tx K mg) : mg "all" = none := T.free (T.fact 55 (f := .free "all") rfl)
theorem Tx.f_isinstance (T : Tx K mg) : mg "isinstance" = none := T.free (T.fact 56 (f := .free "isinstance") rfl)
theorem Tx.f_sorted (T : Tx K mg) : mg "sorted" = none := T.free (T.fact 57 (f := .free "sorted") rfl)
theorem Tx.f_set (T : Tx K mg) : mg "set" = none := T.free (T.fact 58 (f := .free "set") rfl)
theorem Tx.f_max (T : Tx K mg) : mg "max" = none := T.free (T.fact 59 (f := .free "max") rfl)
theorem Tx.f_min (T : Tx K mg) : mg "min" = none := T.free (T.fact 60 (f := .free "min") rfl)
theorem Tx.f_tuple (T : Tx K mg) : mg "tuple" = none := T.free (T.fact 61 (f := .free "tuple") rfl)
theorem Tx.f_enumerate (T : Tx K mg) : mg "enumerate" = none := T.free (T.fact 62 (f := .free "enumerate") rfl)
theorem Tx.f_repr (T : Tx K mg) : mg "repr" = none := T.free (T.fact 63 (f := .free "repr") rfl)
theorem Tx.f_str (T : Tx K mg) : mg "str" = none := T.free (T.fact 64 (f := .free "str") rfl)
theorem Tx.f_ValueError (T : Tx K mg) : mg "ValueError" = none := T.free (T.fact 65 (f := .free "ValueError") rfl)
theorem Tx.i_MOST_MARKS (T : Tx K mg) : ∃ t, mg "MOST_MARKS" = some (.int 3 t) := T.int (T.fact 66 (f := .int "MOST_MARKS" 3) rfl)
theorem Tx.i_MOST_PLAIN (T : Tx K mg) : ∃ t, mg "MOST_PLAIN" = some (.int 2 t) := T.int (T.fact 67 (f := .int "MOST_PLAIN" 2) rfl)
theorem Tx.i_MOST_ROWS (T : Tx K mg) : ∃ t, mg "MOST_ROWS" = some (.int 6 t) := T.int (T.fact 68 (f := .int "MOST_ROWS" 6) rfl)
theorem Tx.i_MOST_TASK_ROWS (T : Tx K mg) : ∃ t, mg "MOST_TASK_ROWS" = some (.int 16 t) := T.int (T.fact 69 (f := .int "MOST_TASK_ROWS" 16) rfl)
theorem Tx.i_MOST_GLOBALS (T : Tx K mg) : ∃ t, mg "MOST_GLOBALS" = some (.int 3 t) := T.int (T.fact 70 (f := .int "MOST_GLOBALS" 3) rfl)
theorem Tx.i_MOST_OWN (T : Tx K mg) : ∃ t, mg "MOST_OWN" = some (.int 2 t) := T.int (T.fact 71 (f := .int "MOST_OWN" 2) rfl)
theorem Tx.i_MOST_NAMES (T : Tx K mg) : ∃ t, mg "MOST_NAMES" = some (.int 4 t) := T.int (T.fact 72 (f := .int "MOST_NAMES" 4) rfl)
theorem Tx.s_MARKS (T : Tx K mg) : ∃ t, mg "MARKS" = some (.str "ABCDEFGHIJKLMNOPQRSTUVWXYZabcdefghijklmnopqrstuvwxyz" t) := T.str (T.fact 73 (f := .str "MARKS" "ABCDEFGHIJKLMNOPQRSTUVWXYZabcdefghijklmnopqrstuvwxyz") rfl)
theorem Tx.s_LETTERS (T : Tx K mg) : ∃ t, mg "LETTERS" = some (.str "abcdefghijklmnopqrstuvwxyz" t) := T.str (T.fact 74 (f := .str "LETTERS" "abcdefghijklmnopqrstuvwxyz") rfl)
theorem Tx.c_Program (T : Tx K mg) : Cls K (He.ga K "Program") := He.cls_ok (T.fact 75 (f := .cls "Program") rfl)
theorem Tx.mk_Program (T : Tx K mg) : Mk K (He.ga K "Program") (He.ma K (He.ga K "Program") "__init__") := He.mkr_ok (T.fact 76 (f := .mkr "Program") rfl)
theorem Tx.n_marks (T : Tx K mg) : NoAttr K (He.ga K "Program") "marks" := He.noat_ok (T.fact 77 (f := .noat "Program" "marks") rfl)
theorem Tx.n_module (T : Tx K mg) : NoAttr K (He.ga K "Program") "module" := He.noat_ok (T.fact 78 (f := .noat "Program" "module") rfl)
theorem Tx.n_of_module (T : Tx K mg) : NoAttr K (He.ga K "Program") "of_module" := He.noat_ok (T.fact 79 (f := .noat "Program" "of_module") rfl)
theorem Tx.n_caller (T : Tx K mg) : NoAttr K (He.ga K "Program") "caller" := He.noat_ok (T.fact 80 (f := .noat "Program" "caller") rfl)
theorem Tx.n_of_caller (T : Tx K mg) : NoAttr K (He.ga K "Program") "of_caller" := He.noat_ok (T.fact 81 (f := .noat "Program" "of_caller") rfl)
theorem Tx.n_task (T : Tx K mg) : NoAttr K (He.ga K "Program") "task" := He.noat_ok (T.fact 82 (f := .noat "Program" "task") rfl)
theorem Tx.x_BadProgram_BadProgram (T : Tx K mg) : PySem.W.exmOne K (.ref (He.ga K "BadProgram")) (.ref (He.ga K "BadProgram")) = some true := He.exm_ok (T.fact 83 (f := .exm "BadProgram" "BadProgram" true) rfl)
theorem Tx.x_BadProgram_TooMany (T : Tx K mg) : PySem.W.exmOne K (.ref (He.ga K "BadProgram")) (.ref (He.ga K "TooMany")) = some false := He.exm_ok (T.fact 84 (f := .exm "BadProgram" "TooMany" false) rfl)
theorem Tx.x_TooMany_BadProgram (T : Tx K mg) : PySem.W.exmOne K (.ref (He.ga K "TooMany")) (.ref (He.ga K "BadProgram")) = some false := He.exm_ok (T.fact 85 (f := .exm "TooMany" "BadProgram" false) rfl)
theorem Tx.x_TooMany_TooMany (T : Tx K mg) : PySem.W.exmOne K (.ref (He.ga K "TooMany")) (.ref (He.ga K "TooMany")) = some true := He.exm_ok (T.fact 86 (f := .exm "TooMany" "TooMany" true) rfl)
end

section
variable {K : PySem.W.Frag} {mg : PySem.Str → Option Value}
theorem Tx.bad (T : Tx K mg) : OexC K (He.ga K "BadProgram") ∧ initB K (He.ga K "BadProgram") = true ∧ XfC K (He.ga K "BadProgram") ∧ noB K (He.ga K "BadProgram") ["part", "at"] = true := by
  obtain ⟨h1, h⟩ := He.ba (He.ba T.says.more).1
  obtain ⟨h2, h⟩ := He.ba h
  obtain ⟨h3, h4⟩ := He.ba h
  exact ⟨oexB_ok h1, h2, xfB_ok h3, h4⟩
theorem Tx.many (T : Tx K mg) : OexC K (He.ga K "TooMany") ∧ initB K (He.ga K "TooMany") = true ∧ XfC K (He.ga K "TooMany") ∧ noB K (He.ga K "TooMany") ["what"] = true := by
  obtain ⟨h1, h⟩ := He.ba (He.ba (He.ba T.says.more).2).1
  obtain ⟨h2, h⟩ := He.ba h
  obtain ⟨h3, h4⟩ := He.ba h
  exact ⟨oexB_ok h1, h2, xfB_ok h3, h4⟩
theorem Tx.tups (T : Tx K mg) (H : Hp) : SqT K H (He.ga K "RESERVED") (t_RESERVED.map V.str) ∧ SqT K H (He.ga K "OF_THE_TASK") (t_OF_THE_TASK.map V.str) ∧ SqT K H (He.ga K "SIGNS") (t_SIGNS.map V.str) ∧ SqT K H (He.ga K "CHANGES") (t_CHANGES.map V.str) := by
  obtain ⟨h1, h⟩ := He.ba (He.ba (He.ba T.says.more).2).2
  obtain ⟨h2, h⟩ := He.ba h
  obtain ⟨h3, h4⟩ := He.ba h
  have e : ∀ l : List PySem.Str, (l.map He.Dv.str).map (He.Dv.v K) = l.map V.str := fun l => by rw [List.map_map]; rfl
  rw [← e, ← e, ← e, ← e]
  exact ⟨He.tupB_ok h1 H, He.tupB_ok h2 H, He.tupB_ok h3 H, He.tupB_ok h4 H⟩
theorem initB_ok {C : Addr} (h : initB K C = true) : PySem.W.findIn K (.ref C) "__init__" = some (some (.ref (He.ma K C "__init__"))) ∧ PySem.W.typeIn K (.ref (He.ma K C "__init__")) = some (.type "function") := by
  obtain ⟨h1, h2⟩ := He.ba h
  exact ⟨He.eqO_ok h1, of_decide_eq_true h2⟩
theorem noB_ok {C : Addr} {fs : List PySem.Str} (h : noB K C fs = true) {f : PySem.Str} (hf : f ∈ fs) : PySem.W.findIn K (.ref C) f = some none := He.eqO_ok (List.all_eq_true.mp h f hf)
end
/-! ### relations by names -/
def rAddI : R2 := rI0 fun i j => .int (i + j)
def rSubI : R2 := rI0 fun i j => .int (i - j)
def rMulI : R2 := rI CMul fun i j => .int (i * j)
def rDivI : R2 := rI CDiv fun i j => .int (i / j)
def rModI : R2 := rI (fun _ j => 0 < j) fun i j => .int (i % j)
def rPowI : R2 := rI CPow fun i j => .int (i ^ j.toNat)
def rLtI : R2 := rI0 fun i j => .bl (decide (i < j))
def rLeI : R2 := rI0 fun i j => .bl (decide (i ≤ j))
def rGtI : R2 := rI0 fun i j => .bl (decide (j < i))
def rGeI : R2 := rI0 fun i j => .bl (decide (j ≤ i))
def rAddT : R2 := fun x y H Q => ∃ i j : PySem.Str, x = .str i ∧ y = .str j ∧ i.length + j.length ≤ sizeLine ∧ Q (.str (i ++ j)) H
def rLeT : R2 := fun x y H Q => ∃ i j : PySem.Str, x = .str i ∧ y = .str j ∧ Q (.bl (!decide (j.cps.toList < i.cps.toList))) H
def rInC : R2 := fun x y H Q => ∃ (c : Nat) (z : PySem.Str), x = .str ⟨#[c]⟩ ∧ y = .str z ∧ Q (.bl (decide (c ∈ z.cps.toList))) H
def rNiC : R2 := fun x y H Q => ∃ (c : Nat) (z : PySem.Str), x = .str ⟨#[c]⟩ ∧ y = .str z ∧ Q (.bl (!decide (c ∈ z.cps.toList))) H
def rIsNon : R2 := fun x y H Q => y = .non ∧ Q (.bl (decide (x = .non))) H
def rNotNon : R2 := fun x y H Q => y = .non ∧ Q (.bl (!decide (x = .non))) H
def rLenT : List V → Hp → VK → Prop := fun xs H Q => ∃ z : PySem.Str, xs = [.str z] ∧ z.length ≤ sizeLine ∧ Q (.int z.length) H
def rLenQ (K : PySem.W.Frag) : List V → Hp → VK → Prop := fun xs H Q => ∃ p ys, xs = [.ref p] ∧ (SqL K H p ys ∨ SqT K H p ys) ∧ Q (.int ys.length) H
def rListQ (K : PySem.W.Frag) : List V → Hp → VK → Prop := fun xs H Q => ∃ p ys, xs = [.ref p] ∧ (SqL K H p ys ∨ SqT K H p ys) ∧ ∀ l, H l = none → Q (.ref l) (upd H l (.lst ys))
def rTupQ (K : PySem.W.Frag) : List V → Hp → VK → Prop := fun xs H Q => ∃ p ys, xs = [.ref p] ∧ ((SqL K H p ys ∧ ∀ l, H l = none → Q (.ref l) (upd H l (.tup ys))) ∨ (SqT K H p ys ∧ Q (.ref p) H))
def rInt1 : List V → Hp → VK → Prop := fun xs H Q => (∃ i, xs = [.int i] ∧ Q (.int i) H) ∨ ∃ k, xs = [.bl k] ∧ Q (.int (if k then 1 else 0)) H
def rMax2 : List V → Hp → VK → Prop := fun xs H Q => ∃ i j, xs = [.int i, .int j] ∧ Q (.int (if j > i then j else i)) H
def rMin2 : List V → Hp → VK → Prop := fun xs H Q => ∃ i j, xs = [.int i, .int j] ∧ Q (.int (if j < i then j else i)) H
def rSplit : V → List V → Hp → VK → Prop := fun x xs H Q => ∃ a b : PySem.Str, x = .str a ∧ xs = [.str b] ∧ (b.length == 0) = false ∧ a.length + 2 ≤ sizeLine ∧ rNewStrs (Txt.split a b) H Q
def rJoin (K : PySem.W.Frag) : V → List V → Hp → VK → Prop := fun x xs H Q => ∃ a p, ∃ ys : List PySem.Str, x = .str a ∧ xs = [.ref p] ∧ (SqL K H p (ys.map V.str) ∨ SqT K H p (ys.map V.str)) ∧
  (ys.map (·.length)).sum + ys.length * a.length ≤ 16777216 ∧ Q (.str (Txt.join a ys)) H
def rLower : V → List V → Hp → VK → Prop := fun x xs H Q => ∃ a : PySem.Str, x = .str a ∧ xs = [] ∧ a.length ≤ 5592405 ∧ Q (.str (Txt.lower a)) H
def rFind : V → List V → Hp → VK → Prop := fun x xs H Q => ∃ a b : PySem.Str, x = .str a ∧ xs = [.str b] ∧ Q (.int (Txt.find a b)) H
def rInsert : V → List V → Hp → VK → Prop := fun x vs H Q => ∃ (l : Addr) (xs : List V) (i : Int) (y : V), x = .ref l ∧ vs = [.int i, y] ∧ H l = some (.lst xs) ∧ xs.length < sizeLine ∧ 0 ≤ i ∧ i < 2 ^ 63 ∧ Q .non (upd H l (.lst (xs.take i.toNat ++ [y] ++ xs.drop i.toNat)))
section
variable {X : Cx}
theorem o_add : OpR X (binaryOp .Add) rAddI := op_add
theorem o_sub : OpR X (binaryOp .Sub) rSubI := op_sub
theorem o_mul : OpR X (binaryOp .Mult) rMulI := op_mul
theorem o_div : OpR X (binaryOp .FloorDiv) rDivI := op_fdiv
theorem o_mod : OpR X (binaryOp .Mod) rModI := op_mod
theorem o_pow : OpR X (binaryOp .Pow) rPowI := op_pow
theorem o_lt : OpR X (compareOp .Lt) rLtI := op_lt
theorem o_le : OpR X (compareOp .LtE) rLeI := op_le
theorem o_gt : OpR X (compareOp .Gt) rGtI := op_gt
theorem o_ge : OpR X (compareOp .GtE) rGeI := op_ge
theorem o_addT : OpR X (binaryOp .Add) rAddT := op_add_str
theorem o_leT : OpR X (compareOp .LtE) rLeT := op_le_str
theorem o_inC : OpR X (compareOp .In) rInC := op_in_sign
theorem o_niC : OpR X (compareOp .NotIn) rNiC := op_notIn_sign
theorem o_isNon : OpR X (compareOp .Is) rIsNon := op_isN
theorem o_notNon : OpR X (compareOp .IsNot) rNotNon := op_notN
theorem c_lenT : CallR X (.builtin "len") rLenT := call_len_str
theorem c_lenQ : CallR X (.builtin "len") (rLenQ X.K) := call_len_seq
theorem c_listQ : CallR X (.type "list") (rListQ X.K) := call_list_of
theorem c_tupQ : CallR X (.type "tuple") (rTupQ X.K) := call_tuple_of
theorem c_int : CallR X (.type "int") rInt1 := call_int1
theorem c_max (hc : X.calm = true) : CallR X (.builtin "max") rMax2 := call_max2 hc
theorem c_min (hc : X.calm = true) : CallR X (.builtin "min") rMin2 := call_min2 hc
theorem m_insert : MtR X "list.insert" rInsert := mt_insert
variable {o e : Expr} {to te : TE}
theorem pe_splitN {apos pos : Pos} (ho : PE X o to) (he : PE X e te) (hs : starEach [e] X.env = [(false, eval e X.env)] := by rfl) (hbase : attributeBase o "split" X.env (eval o X.env) = eval o X.env := by rfl) (hline : (apos.endLine == pos.line) = true := by rfl) :
    PE X (.Call (.Attribute o "split" apos) [e] [] pos) (tM1 rSplit to te) := pe_split ho he hs hbase hline
theorem pe_joinN {apos pos : Pos} (ho : PE X o to) (he : PE X e te) (hs : starEach [e] X.env = [(false, eval e X.env)] := by rfl) (hbase : attributeBase o "join" X.env (eval o X.env) = eval o X.env := by rfl) (hline : (apos.endLine == pos.line) = true := by rfl) :
    PE X (.Call (.Attribute o "join" apos) [e] [] pos) (tM1 (rJoin X.K) to te) := pe_join ho he hs hbase hline
theorem pe_lowerN {apos pos : Pos} (ho : PE X o to) (hbase : attributeBase o "lower" X.env (eval o X.env) = eval o X.env := by rfl) (hline : (apos.endLine == pos.line) = true := by rfl) :
    PE X (.Call (.Attribute o "lower" apos) [] [] pos) (tM0 rLower to) := pe_lower ho hbase hline
theorem pe_findN {apos pos : Pos} (ho : PE X o to) (he : PE X e te) (hs : starEach [e] X.env = [(false, eval e X.env)] := by rfl) (hbase : attributeBase o "find" X.env (eval o X.env) = eval o X.env := by rfl) (hline : (apos.endLine == pos.line) = true := by rfl) :
    PE X (.Call (.Attribute o "find" apos) [e] [] pos) (tM1 rFind to te) := pe_m1 F.slot_str_find F.type_str_find mt_find ho he hs hbase hline
theorem pe_gi {x : PySem.Str} {pos : Pos} {i : Int} (h : ∃ t, X.mg x = some (.int i t)) (hg : Gl X x := by rfl) (hd : (x == ("__debug__" : PySem.Str)) = false := by decide) : PE X (.Name x pos) (tC (.int i)) := let ⟨t, e⟩ := h; pe_glob hg e ⟨t, rfl⟩ (hd := hd)
theorem pe_gs {x : PySem.Str} {pos : Pos} {z : PySem.Str} (h : ∃ t, X.mg x = some (.str z t)) (hg : Gl X x := by rfl) (hd : (x == ("__debug__" : PySem.Str)) = false := by decide) : PE X (.Name x pos) (tC (.str z)) := let ⟨t, e⟩ := h; pe_glob hg e ⟨t, rfl⟩ (hd := hd)
theorem pe_gr {x : PySem.Str} {pos : Pos} {a : Addr} (h : X.mg x = some (.ref a)) (hg : Gl X x := by rfl) (hd : (x == ("__debug__" : PySem.Str)) = false := by decide) : PE X (.Name x pos) (tC (.ref a)) := pe_glob hg h rfl (hd := hd)
end
theorem b_len : bootBuiltins "len" = some (.builtin "len") := by decide +kernel
theorem b_all : bootBuiltins "all" = some (.builtin "all") := by decide +kernel
theorem b_max : bootBuiltins "max" = some (.builtin "max") := by decide +kernel
theorem b_min : bootBuiltins "min" = some (.builtin "min") := by decide +kernel
theorem b_sorted : bootBuiltins "sorted" = some (.builtin "sorted") := by decide +kernel
theorem b_isinstance : bootBuiltins "isinstance" = some (.builtin "isinstance") := by decide +kernel
theorem b_repr : bootBuiltins "repr" = some (.builtin "repr") := by decide +kernel
theorem b_list : bootBuiltins "list" = some (.type "list") := by decide +kernel
theorem b_tuple : bootBuiltins "tuple" = some (.type "tuple") := by decide +kernel
theorem b_int : bootBuiltins "int" = some (.type "int") := by decide +kernel
theorem b_set : bootBuiltins "set" = some (.type "set") := by decide +kernel
theorem b_str : bootBuiltins "str" = some (.type "str") := by decide +kernel
theorem hu65 {k : Nat} {A : Around} (hr : Room k A) : A.units + 65 < cLine := by have := hr.un; omega
theorem hu64 {k : Nat} {A : Around} (hr : Room k A) : A.units + 64 < cLine := by have := hr.un; omega
/-! ### a body's term with its reading -/
structure Dv (X : Cx) (body : List Stmt) where
  t : TS
  h : PSs X body t
/-- the def of the module under this name keeps sp -/
structure Kp (P : Program) (w : World) (K : PySem.W.Frag) (mg : PySem.Str → Option Value) (base : Heap) (CX : CXT) (x : PySem.Str) (k : Nat) (ps : List PySem.Str) (sp : Sp) : Prop where
  ex : ∃ fd, FnOk P w K mg base CX k (He.ga K x) fd ps sp ∧ Binds K fd ps []
  g : mg x = some (.ref (He.ga K x))
  kp : PySem.W.keepIn K (.ref (He.ga K x)) = true
section
variable {P : Program} {w : World} {K : PySem.W.Frag} {mg : PySem.Str → Option Value} {base : Heap}
theorem Kp.of {CX : CXT} {x qual : PySem.Str} {params : Arguments} {body : List Stmt} {scope : Scope} {N ps : List PySem.Str} {k : Nat} {sp : Sp} (F : ∃ fd, FunD K x qual params body scope [] [] (He.ga K x) fd) (g : mg x = some (.ref (He.ga K x))) (S : FnScope N ps scope)
    (hb : ∀ (kV doc pm : Value) (an : Option Addr) (cdv ct : Value) (us : List Value), us.length = ps.length → bindArgs (PySem.W.fnOf x qual params body scope .none kV doc pm an cdv ct) ⟨us, []⟩ = pure (ps.zip us))
    (len : ∀ vs H Q E, sp vs H Q E → vs.length = ps.length)
    (hbody : ∀ (cdv : Value) (A : Around) (outer : List Env) (s : Shared) (H : Hp) (vs : List V) (Q : VK) (E : XK), Room k (A.deeper (envOfC qual scope s.heap.objs.size (He.ga K x) cdv)) → sp vs H Q E →
      ∃ t, PSs (cxOf CX P w K mg base N qual scope (He.ga K x) cdv A outer s H E) body t ∧ t { nx := fun _ H' => Q .non H', rt := Q } (start N vs) H) : Kp P w K mg base CX x (k + 1) ps sp := by
  obtain ⟨fd, F⟩ := F
  exact ⟨⟨fd, F.ok S len hbody, F.bindsN hb⟩, g, F.kp⟩
theorem Kp.imp {CX : CXT} {x : PySem.Str} {k : Nat} {ps : List PySem.Str} {sp sp' : Sp} (G : Kp P w K mg base CX x k ps sp) (h : ∀ vs H Q E, sp' vs H Q E → sp vs H Q E) : Kp P w K mg base CX x k ps sp' := by
  obtain ⟨⟨fd, F, b⟩, g, kp⟩ := G
  exact ⟨⟨fd, F.imp h, b⟩, g, kp⟩
end
section
variable {X : Cx} {x : PySem.Str} {k : Nat} {ps : List PySem.Str} {sp : Sp} {p pos : Pos} {e : Expr} {es : List Expr} {t : TA}
theorem pe_cl (G : Kp X.prog X.w X.K X.mg X.base CX0 x k ps sp) (hr : Room k X.A) (ha : PA X (e :: es) t) (hg : Gl X x := by rfl) (hdb : (x == ("__debug__" : PySem.Str)) = false := by decide)
    (he : starEach (e :: es) X.env = (false, eval e X.env) :: starEach es X.env := by rfl) (hpl : (backTo pos (starEach es X.env)).any (·.1) = false := by rfl) : PE X (.Call (.Name x p) (e :: es) [] pos) (tCall sp [] E0 t) := by
  obtain ⟨⟨fd, F, b⟩, g, kp⟩ := G
  exact pe_call F hr hg g kp b .nil pass0 ha hdb he hpl
theorem pe_cl0 (G : Kp X.prog X.w X.K X.mg X.base CX0 x k ps sp) (hr : Room k X.A) (hg : Gl X x := by rfl) (hdb : (x == ("__debug__" : PySem.Str)) = false := by decide) : PE X (.Call (.Name x p) [] [] pos) (tCall sp [] E0 tNil) := by
  obtain ⟨⟨fd, F, b⟩, g, kp⟩ := G
  exact pe_call0 F hr hg g kp b .nil pass0 hdb
end
/-! ### defs that raise, the errors -/
abbrev CXx (P : Program) (w : World) : CXT := L2.CX P w
/-- an error class whose own __init__ keeps sp -/
structure Kx (P : Program) (w : World) (K : PySem.W.Frag) (mg : PySem.Str → Option Value) (base : Heap) (x : PySem.Str) (k : Nat) (ps : List PySem.Str) (sp : Sp) : Prop where
  ex : ∃ fd, FnOk P w K mg base CX0 k (He.ma K (He.ga K x) "__init__") fd ps sp ∧ Binds K fd ps []
  g : mg x = some (.ref (He.ga K x))
  ox : OexC K (He.ga K x)
  ini : PySem.W.findIn K (.ref (He.ga K x)) "__init__" = some (some (.ref (He.ma K (He.ga K x) "__init__")))
  ty : PySem.W.typeIn K (.ref (He.ma K (He.ga K x) "__init__")) = some (.type "function")
section
variable {X : Cx} {x : PySem.Str} {k : Nat} {ps : List PySem.Str} {sp : Sp} {p pos pos2 : Pos} {e : Expr} {es : List Expr} {t : TA}
def tRaise (K : PySem.W.Frag) (x : PySem.Str) (sp : Sp) (W : WX) (ta : TA) : TS := fun _ σ H => tMkO (He.ga K x) sp [] ta σ H fun cls d H' => W cls d σ H'
theorem ps_rz {W : WX} (hc : X.calm = true) (tk : Takes X W) (G : Kx X.prog X.w X.K X.mg X.base x k ps sp) (hr : Room (k + 1) X.A) (ha : PA X (e :: es) t) (hg : Gl X x := by rfl) (hdb : (x == ("__debug__" : PySem.Str)) = false := by decide)
    (he : starEach (e :: es) X.env = (false, eval e X.env) :: starEach es X.env := by rfl) (hpl : (backTo pos (starEach es X.env)).any (·.1) = false := by rfl) : PS X (.Raise (some (.Call (.Name x p) (e :: es) [] pos)) none pos2) (tRaise X.K x sp W t) := by
  obtain ⟨⟨fd, F, b⟩, g, ox, ini, ty⟩ := G
  exact ps_raise hc tk (pmk_oex ox ini ty F hr b .nil (fun _ _ _ _ _ _ _ h => h.elim) hg g ha hdb he hpl)
end
/-- a call of a def that may raise, in a def that lets it out -/
theorem pe_clX {X : Cx} {x : PySem.Str} {k : Nat} {ps : List PySem.Str} {sp : Sp} {p pos : Pos} {e : Expr} {es : List Expr} {t : TA} {E : XK} (G : Kp X.prog X.w X.K X.mg X.base (CXx X.prog X.w) x k ps sp) (hr : Room k X.A) (tk : Takes X (fun cls d _ H => E cls d H)) (ha : PA X (e :: es) t)
    (hg : Gl X x := by rfl) (hdb : (x == ("__debug__" : PySem.Str)) = false := by decide)
    (he : starEach (e :: es) X.env = (false, eval e X.env) :: starEach es X.env := by rfl) (hpl : (backTo pos (starEach es X.env)).any (·.1) = false := by rfl) : PE X (.Call (.Name x p) (e :: es) [] pos) (tCall sp [] E t) := by
  obtain ⟨⟨fd, F, b⟩, g, kp⟩ := G
  exact pe_call F hr hg g kp b .nil (passes_call tk fun _ _ _ _ h => h) ha hdb he hpl
end K27

set_option maxRecDepth 100000
set_option maxHeartbeats 4000000
/-! calls with a default, of the class Program, of defs under the guards' word -/
namespace K27
open PySem PySem.Spec PyProof.Rows L2
/-- the same def, its last argument left to its default False -/
structure Kd (P : Program) (w : World) (K : PySem.W.Frag) (mg : PySem.Str → Option Value) (base : Heap) (CX : CXT) (x : PySem.Str) (k : Nat) (ps : List PySem.Str) (sp : Sp) : Prop where
  ex : ∃ fd ds, FnOk P w K mg base CX k (He.ga K x) fd ps sp ∧ Vals [.bl false] ds ∧ Binds K fd ps ds
  g : mg x = some (.ref (He.ga K x))
  kp : PySem.W.keepIn K (.ref (He.ga K x)) = true
structure Kc (P : Program) (w : World) (K : PySem.W.Frag) (mg : PySem.Str → Option Value) (base : Heap) (k : Nat) (ps : List PySem.Str) (sp : Sp) : Prop where
  made : Mk K (He.ga K "Program") (He.ma K (He.ga K "Program") "__init__")
  ex : ∃ fd, FnOk P w K mg base (CXx P w) k (He.ma K (He.ga K "Program") "__init__") fd ps sp ∧ Binds K fd ps []
  g : mg "Program" = some (.ref (He.ga K "Program"))
structure Kg (P : Program) (w : World) (K : PySem.W.Frag) (mg : PySem.Str → Option Value) (base : Heap) (CX : CXT) (x : PySem.Str) (k : Nat) (ps : List PySem.Str) (sp : Sp) : Prop where
  ex : ∃ fd, FnG P w K mg base CX k (He.ga K x) fd ps sp ∧ Binds K fd ps []
  g : mg x = some (.ref (He.ga K x))
  kp : PySem.W.keepIn K (.ref (He.ga K x)) = true
section
variable {X : Cx} {x : PySem.Str} {k : Nat} {ps : List PySem.Str} {sp : Sp} {p pos : Pos} {e : Expr} {es : List Expr} {t : TA}
theorem pe_clD (G : Kd X.prog X.w X.K X.mg X.base CX0 x k ps sp) (hr : Room k X.A) (ha : PA X (e :: es) t) (hg : Gl X x := by rfl) (hdb : (x == ("__debug__" : PySem.Str)) = false := by decide)
    (he : starEach (e :: es) X.env = (false, eval e X.env) :: starEach es X.env := by rfl) (hpl : (backTo pos (starEach es X.env)).any (·.1) = false := by rfl) : PE X (.Call (.Name x p) (e :: es) [] pos) (tCall sp [.bl false] E0 t) := by
  obtain ⟨⟨fd, ds, F, v, b⟩, g, kp⟩ := G
  exact pe_call F hr hg g kp b v pass0 ha hdb he hpl
theorem pe_clG (hga : X.A.guards = some []) (G : Kg X.prog X.w X.K X.mg X.base CX0 x k ps sp) (hr : Room k X.A) (ha : PA X (e :: es) t) (hg : Gl X x := by rfl) (hdb : (x == ("__debug__" : PySem.Str)) = false := by decide)
    (he : starEach (e :: es) X.env = (false, eval e X.env) :: starEach es X.env := by rfl) (hpl : (backTo pos (starEach es X.env)).any (·.1) = false := by rfl) : PE X (.Call (.Name x p) (e :: es) [] pos) (tCall sp [] E0 t) := by
  obtain ⟨⟨fd, F, b⟩, g, kp⟩ := G
  exact pe_callG hga F hr hg g kp b .nil pass0 ha hdb he hpl
theorem pe_mk (G : Kc X.prog X.w X.K X.mg X.base k ps sp) (hr : Room (k + 1) X.A) (ha : PA X (e :: es) t) (hg : Gl X "Program" := by rfl)
    (he : starEach (e :: es) X.env = (false, eval e X.env) :: starEach es X.env := by rfl) (hpl : (backTo pos (starEach es X.env)).any (·.1) = false := by rfl) :
    PE X (.Call (.Name "Program" p) (e :: es) [] pos) (tMake (He.ga X.K "Program") sp [] E0 t) := by
  obtain ⟨mk, ⟨fd, F, b⟩, g⟩ := G
  exact pe_make mk F hr hg g b .nil passL ha (by decide) he hpl
theorem pe_mkT (K : PySem.W.Frag) {W : WX} (G : Kc X.prog X.w X.K X.mg X.base k ps sp) (hr : Room (k + 1) X.A) (hx : ∀ σ, PassesAt (CXx X.prog X.w) X σ (WE W σ)) (ha : PA X (e :: es) t) (hK : X.K = K := by rfl) (hg : Gl X "Program" := by rfl)
    (he : starEach (e :: es) X.env = (false, eval e X.env) :: starEach es X.env := by rfl) (hpl : (backTo pos (starEach es X.env)).any (·.1) = false := by rfl) :
    PE X (.Call (.Name "Program" p) (e :: es) [] pos) (tMakeSD (He.ga K "Program") sp [] (WE W) t) := by
  subst hK
  obtain ⟨mk, ⟨fd, F, b⟩, g⟩ := G
  exact pe_makeSD mk F hr hg g b .nil hx ha (by decide) he hpl
theorem o_inQ (K : PySem.W.Frag) (hK : X.K = K := by rfl) : OpR X (compareOp .In) (rIn K false) := by
  subst hK
  exact op_in_seq
theorem o_niQ (K : PySem.W.Frag) (hK : X.K = K := by rfl) : OpR X (compareOp .NotIn) (rIn K true) := by
  subst hK
  exact op_notIn_seq
end
end K27

set_option maxRecDepth 100000
set_option maxHeartbeats 8000000
namespace K27
open PySem PySem.Spec PyProof.Rows L2
def N_BadProgram_init : List PySem.Str := ["self", "part", "at"]
def p_BadProgram_init : List PySem.Str := ["self", "part", "at"]
theorem sc_BadProgram_init : FnScope N_BadProgram_init p_BadProgram_init (defScope s_BadProgram_init) := ⟨rfl, rfl, rfl, by decide +kernel, rfl, by decide +kernel, by decide +kernel⟩
def N_TooMany_init : List PySem.Str := ["self", "what"]
def p_TooMany_init : List PySem.Str := ["self", "what"]
theorem sc_TooMany_init : FnScope N_TooMany_init p_TooMany_init (defScope s_TooMany_init) := ⟨rfl, rfl, rfl, by decide +kernel, rfl, by decide +kernel, by decide +kernel⟩
def N_is_contents : List PySem.Str := ["thing", "last", "mark"]
def p_is_contents : List PySem.Str := ["thing"]
theorem sc_is_contents : FnScope N_is_contents p_is_contents (defScope s_is_contents) := ⟨rfl, rfl, rfl, by decide +kernel, rfl, by decide +kernel, by decide +kernel⟩
def N_parts_of : List PySem.Str := ["row"]
def p_parts_of : List PySem.Str := ["row"]
theorem sc_parts_of : FnScope N_parts_of p_parts_of (defScope s_parts_of) := ⟨rfl, rfl, rfl, by decide +kernel, rfl, by decide +kernel, by decide +kernel⟩
def N_is_word : List PySem.Str := ["text", "letter"]
def p_is_word : List PySem.Str := ["text"]
theorem sc_is_word : FnScope N_is_word p_is_word (defScope s_is_word) := ⟨rfl, rfl, rfl, by decide +kernel, rfl, by decide +kernel, by decide +kernel⟩
def N_is_variable : List PySem.Str := ["text", "in_task"]
def p_is_variable : List PySem.Str := ["text", "in_task"]
theorem sc_is_variable : FnScope N_is_variable p_is_variable (defScope s_is_variable) := ⟨rfl, rfl, rfl, by decide +kernel, rfl, by decide +kernel, by decide +kernel⟩
def N_is_set : List PySem.Str := ["text", "marks", "inner", "mark"]
def p_is_set : List PySem.Str := ["text", "marks"]
theorem sc_is_set : FnScope N_is_set p_is_set (defScope s_is_set) := ⟨rfl, rfl, rfl, by decide +kernel, rfl, by decide +kernel, by decide +kernel⟩
def N_is_term : List PySem.Str := ["text", "marks", "in_task"]
def p_is_term : List PySem.Str := ["text", "marks", "in_task"]
theorem sc_is_term : FnScope N_is_term p_is_term (defScope s_is_term) := ⟨rfl, rfl, rfl, by decide +kernel, rfl, by decide +kernel, by decide +kernel⟩
def N_variables : List PySem.Str := ["texts", "in_task", "text"]
def p_variables : List PySem.Str := ["texts", "in_task"]
theorem sc_variables : FnScope N_variables p_variables (defScope s_variables) := ⟨rfl, rfl, rfl, by decide +kernel, rfl, by decide +kernel, by decide +kernel⟩
def N_plain_words : List PySem.Str := ["parts", "marks", "in_task", "terms", "read", "text"]
def p_plain_words : List PySem.Str := ["parts", "marks", "in_task"]
theorem sc_plain_words : FnScope N_plain_words p_plain_words (defScope s_plain_words) := ⟨rfl, rfl, rfl, by decide +kernel, rfl, by decide +kernel, by decide +kernel⟩
def N_test_words : List PySem.Str := ["parts", "marks", "left", "sign", "right", "known"]
def p_test_words : List PySem.Str := ["parts", "marks"]
theorem sc_test_words : FnScope N_test_words p_test_words (defScope s_test_words) := ⟨rfl, rfl, rfl, by decide +kernel, rfl, by decide +kernel, by decide +kernel⟩
def N_task_words : List PySem.Str := ["parts", "marks", "told", "found", "text"]
def p_task_words : List PySem.Str := ["parts", "marks"]
theorem sc_task_words : FnScope N_task_words p_task_words (defScope s_task_words) := ⟨rfl, rfl, rfl, by decide +kernel, rfl, by decide +kernel, by decide +kernel⟩
def N_checked_marks : List PySem.Str := ["marks", "mark"]
def p_checked_marks : List PySem.Str := ["marks"]
theorem sc_checked_marks : FnScope N_checked_marks p_checked_marks (defScope s_checked_marks) := ⟨rfl, rfl, rfl, by decide +kernel, rfl, by decide +kernel, by decide +kernel⟩
def N_checked_rows : List PySem.Str := ["part", "rows", "most"]
def p_checked_rows : List PySem.Str := ["part", "rows", "most"]
theorem sc_checked_rows : FnScope N_checked_rows p_checked_rows (defScope s_checked_rows) := ⟨rfl, rfl, rfl, by decide +kernel, rfl, by decide +kernel, by decide +kernel⟩
def N_checked_plain : List PySem.Str := ["part", "rows", "marks", "known", "found", "at", "row", "words", "bound", "read", "word"]
def p_checked_plain : List PySem.Str := ["part", "rows", "marks", "known"]
theorem sc_checked_plain : FnScope N_checked_plain p_checked_plain (defScope s_checked_plain) := ⟨rfl, rfl, rfl, by decide +kernel, rfl, by decide +kernel, by decide +kernel⟩
def N_check_task : List PySem.Str := ["rows", "marks", "known", "opened", "at", "row", "parts", "words", "word"]
def p_check_task : List PySem.Str := ["rows", "marks", "known"]
theorem sc_check_task : FnScope N_check_task p_check_task (defScope s_check_task) := ⟨rfl, rfl, rfl, by decide +kernel, rfl, by decide +kernel, by decide +kernel⟩
def N_Program_init : List PySem.Str := ["self", "marks", "module", "caller", "task", "known"]
def p_Program_init : List PySem.Str := ["self", "marks", "module", "caller", "task"]
theorem sc_Program_init : FnScope N_Program_init p_Program_init (defScope s_Program_init) := ⟨rfl, rfl, rfl, by decide +kernel, rfl, by decide +kernel, by decide +kernel⟩
def N_l_numbers : List PySem.Str := ["_law_script", "_law_at", "_law_cell", "_law_cells"]
def p_l_numbers : List PySem.Str := ["_law_script", "_law_at"]
theorem sc_l_numbers : FnScope N_l_numbers p_l_numbers (defScope s_l_numbers) := ⟨rfl, rfl, rfl, by decide +kernel, rfl, by decide +kernel, by decide +kernel⟩
def N_l_draw : List PySem.Str := ["_law_stream", "_law_many", "_law_digit", "_law_turn", "_law_cells", "_law_added", "_law_mixed"]
def p_l_draw : List PySem.Str := ["_law_stream", "_law_many"]
theorem sc_l_draw : FnScope N_l_draw p_l_draw (defScope s_l_draw) := ⟨rfl, rfl, rfl, by decide +kernel, rfl, by decide +kernel, by decide +kernel⟩
def N_l_of : List PySem.Str := ["_law_stream", "_law_some"]
def p_l_of : List PySem.Str := ["_law_stream", "_law_some"]
theorem sc_l_of : FnScope N_l_of p_l_of (defScope s_l_of) := ⟨rfl, rfl, rfl, by decide +kernel, rfl, by decide +kernel, by decide +kernel⟩
def N_l_pick : List PySem.Str := ["_law_stream", "_law_letters", "_law_many", "_law_left", "_law_found", "_law_turn"]
def p_l_pick : List PySem.Str := ["_law_stream", "_law_letters", "_law_many"]
theorem sc_l_pick : FnScope N_l_pick p_l_pick (defScope s_l_pick) := ⟨rfl, rfl, rfl, by decide +kernel, rfl, by decide +kernel, by decide +kernel⟩
def N_l_drawn_marks : List PySem.Str := ["_law_stream", "_law_fewest", "_law_most", "_law_plain", "_law_bound", "_law_upper"]
def p_l_drawn_marks : List PySem.Str := ["_law_stream", "_law_fewest", "_law_most"]
theorem sc_l_drawn_marks : FnScope N_l_drawn_marks p_l_drawn_marks (defScope s_l_drawn_marks) := ⟨rfl, rfl, rfl, by decide +kernel, rfl, by decide +kernel, by decide +kernel⟩
def N_l_drawn_contents : List PySem.Str := ["_law_stream", "_law_marks", "_law_found", "_law_mark"]
def p_l_drawn_contents : List PySem.Str := ["_law_stream", "_law_marks"]
theorem sc_l_drawn_contents : FnScope N_l_drawn_contents p_l_drawn_contents (defScope s_l_drawn_contents) := ⟨rfl, rfl, rfl, by decide +kernel, rfl, by decide +kernel, by decide +kernel⟩
def N_l_reserved : List PySem.Str := ["_law_found"]
def p_l_reserved : List PySem.Str := []
theorem sc_l_reserved : FnScope N_l_reserved p_l_reserved (defScope s_l_reserved) := ⟨rfl, rfl, rfl, by decide +kernel, rfl, by decide +kernel, by decide +kernel⟩
def N_l_one_word : List PySem.Str := ["_law_stream", "_law_taken", "_law_marks", "_law_most", "_law_letters", "_law_kind", "_law_word", "_law_at", "_law_turn"]
def p_l_one_word : List PySem.Str := ["_law_stream", "_law_taken", "_law_marks", "_law_most"]
theorem sc_l_one_word : FnScope N_l_one_word p_l_one_word (defScope s_l_one_word) := ⟨rfl, rfl, rfl, by decide +kernel, rfl, by decide +kernel, by decide +kernel⟩
def N_l_drawn_words : List PySem.Str := ["_law_stream", "_law_taken", "_law_marks", "_law_many", "_law_most", "_law_found", "_law_turn"]
def p_l_drawn_words : List PySem.Str := ["_law_stream", "_law_taken", "_law_marks", "_law_many", "_law_most"]
theorem sc_l_drawn_words : FnScope N_l_drawn_words p_l_drawn_words (defScope s_l_drawn_words) := ⟨rfl, rfl, rfl, by decide +kernel, rfl, by decide +kernel, by decide +kernel⟩
def N_l_term : List PySem.Str := ["_law_stream", "_law_words", "_law_marks"]
def p_l_term : List PySem.Str := ["_law_stream", "_law_words", "_law_marks"]
theorem sc_l_term : FnScope N_l_term p_l_term (defScope s_l_term) := ⟨rfl, rfl, rfl, by decide +kernel, rfl, by decide +kernel, by decide +kernel⟩
def N_l_sum : List PySem.Str := ["_law_stream", "_law_words", "_law_marks", "_law_sign"]
def p_l_sum : List PySem.Str := ["_law_stream", "_law_words", "_law_marks"]
theorem sc_l_sum : FnScope N_l_sum p_l_sum (defScope s_l_sum) := ⟨rfl, rfl, rfl, by decide +kernel, rfl, by decide +kernel, by decide +kernel⟩
def N_l_binding : List PySem.Str := ["_law_stream", "_law_word", "_law_words", "_law_marks"]
def p_l_binding : List PySem.Str := ["_law_stream", "_law_word", "_law_words", "_law_marks"]
theorem sc_l_binding : FnScope N_l_binding p_l_binding (defScope s_l_binding) := ⟨rfl, rfl, rfl, by decide +kernel, rfl, by decide +kernel, by decide +kernel⟩
def N_l_plain_row : List PySem.Str := ["_law_stream", "_law_words", "_law_marks", "_law_word"]
def p_l_plain_row : List PySem.Str := ["_law_stream", "_law_words", "_law_marks"]
theorem sc_l_plain_row : FnScope N_l_plain_row p_l_plain_row (defScope s_l_plain_row) := ⟨rfl, rfl, rfl, by decide +kernel, rfl, by decide +kernel, by decide +kernel⟩
def N_l_plains : List PySem.Str := ["_law_stream", "_law_known", "_law_fresh", "_law_most", "_law_marks", "_law_rows", "_law_left", "_law_extra", "_law_turn", "_law_row_here"]
def p_l_plains : List PySem.Str := ["_law_stream", "_law_known", "_law_fresh", "_law_most", "_law_marks"]
theorem sc_l_plains : FnScope N_l_plains p_l_plains (defScope s_l_plains) := ⟨rfl, rfl, rfl, by decide +kernel, rfl, by decide +kernel, by decide +kernel⟩
def N_l_test : List PySem.Str := ["_law_stream", "_law_words", "_law_marks", "_law_text", "_law_kind"]
def p_l_test : List PySem.Str := ["_law_stream", "_law_words", "_law_marks"]
theorem sc_l_test : FnScope N_l_test p_l_test (defScope s_l_test) := ⟨rfl, rfl, rfl, by decide +kernel, rfl, by decide +kernel, by decide +kernel⟩
def N_l_last : List PySem.Str := ["_law_stream", "_law_words", "_law_marks", "_law_kind", "_law_text"]
def p_l_last : List PySem.Str := ["_law_stream", "_law_words", "_law_marks"]
theorem sc_l_last : FnScope N_l_last p_l_last (defScope s_l_last) := ⟨rfl, rfl, rfl, by decide +kernel, rfl, by decide +kernel, by decide +kernel⟩
def N_l_work : List PySem.Str := ["_law_stream", "_law_words", "_law_marks", "_law_most", "_law_ends", "_law_rows", "_law_opened", "_law_size", "_law_turn", "_law_room", "_law_kind"]
def p_l_work : List PySem.Str := ["_law_stream", "_law_words", "_law_marks", "_law_most", "_law_ends"]
theorem sc_l_work : FnScope N_l_work p_l_work (defScope s_l_work) := ⟨rfl, rfl, rfl, by decide +kernel, rfl, by decide +kernel, by decide +kernel⟩
def N_l_drawn_parts : List PySem.Str := ["_law_stream", "_law_marks", "_law_sizes", "_law_words", "_law_own", "_law_first", "_law_then", "_law_work_here"]
def p_l_drawn_parts : List PySem.Str := ["_law_stream", "_law_marks", "_law_sizes"]
theorem sc_l_drawn_parts : FnScope N_l_drawn_parts p_l_drawn_parts (defScope s_l_drawn_parts) := ⟨rfl, rfl, rfl, by decide +kernel, rfl, by decide +kernel, by decide +kernel⟩
def N_l_is_word : List PySem.Str := ["_law_text", "_law_letters", "_law_letter"]
def p_l_is_word : List PySem.Str := ["_law_text"]
theorem sc_l_is_word : FnScope N_l_is_word p_l_is_word (defScope s_l_is_word) := ⟨rfl, rfl, rfl, by decide +kernel, rfl, by decide +kernel, by decide +kernel⟩
def N_l_reads : List PySem.Str := ["_law_text", "_law_known", "_law_marks", "_law_inner", "_law_mark"]
def p_l_reads : List PySem.Str := ["_law_text", "_law_known", "_law_marks"]
theorem sc_l_reads : FnScope N_l_reads p_l_reads (defScope s_l_reads) := ⟨rfl, rfl, rfl, by decide +kernel, rfl, by decide +kernel, by decide +kernel⟩
def N_l_fits_task : List PySem.Str := ["_law_parts", "_law_known", "_law_marks", "_law_left", "_law_sign", "_law_right", "_law_text"]
def p_l_fits_task : List PySem.Str := ["_law_parts", "_law_known", "_law_marks"]
theorem sc_l_fits_task : FnScope N_l_fits_task p_l_fits_task (defScope s_l_fits_task) := ⟨rfl, rfl, rfl, by decide +kernel, rfl, by decide +kernel, by decide +kernel⟩
def N_l_fits : List PySem.Str := ["_law_row_here", "_law_where", "_law_known", "_law_marks", "_law_parts"]
def p_l_fits : List PySem.Str := ["_law_row_here", "_law_where", "_law_known", "_law_marks"]
theorem sc_l_fits : FnScope N_l_fits p_l_fits (defScope s_l_fits) := ⟨rfl, rfl, rfl, by decide +kernel, rfl, by decide +kernel, by decide +kernel⟩
def N_l_first_wrong : List PySem.Str := ["_law_where", "_law_rows", "_law_known", "_law_marks", "_law_opened", "_law_at", "_law_row_here", "_law_parts"]
def p_l_first_wrong : List PySem.Str := ["_law_where", "_law_rows", "_law_known", "_law_marks"]
theorem sc_l_first_wrong : FnScope N_l_first_wrong p_l_first_wrong (defScope s_l_first_wrong) := ⟨rfl, rfl, rfl, by decide +kernel, rfl, by decide +kernel, by decide +kernel⟩
def N_l_are_marks : List PySem.Str := ["_law_thing", "_law_upper", "_law_plain", "_law_mark"]
def p_l_are_marks : List PySem.Str := ["_law_thing"]
theorem sc_l_are_marks : FnScope N_l_are_marks p_l_are_marks (defScope s_l_are_marks) := ⟨rfl, rfl, rfl, by decide +kernel, rfl, by decide +kernel, by decide +kernel⟩
def N_l_error : List PySem.Str := ["_law_marks", "_law_first", "_law_then", "_law_work_here", "_law_known", "_law_inner", "_law_where", "_law_rows", "_law_most", "_law_at"]
def p_l_error : List PySem.Str := ["_law_marks", "_law_first", "_law_then", "_law_work_here"]
theorem sc_l_error : FnScope N_l_error p_l_error (defScope s_l_error) := ⟨rfl, rfl, rfl, by decide +kernel, rfl, by decide +kernel, by decide +kernel⟩
def N_l_raised : List PySem.Str := ["_law_marks", "_law_first", "_law_then", "_law_work_here", "e"]
def p_l_raised : List PySem.Str := ["_law_marks", "_law_first", "_law_then", "_law_work_here"]
theorem sc_l_raised : FnScope N_l_raised p_l_raised (defScope s_l_raised) := ⟨rfl, rfl, rfl, by decide +kernel, rfl, by decide +kernel, by decide +kernel⟩
def N_l_same : List PySem.Str := ["_law_found", "_law_due"]
def p_l_same : List PySem.Str := ["_law_found", "_law_due"]
theorem sc_l_same : FnScope N_l_same p_l_same (defScope s_l_same) := ⟨rfl, rfl, rfl, by decide +kernel, rfl, by decide +kernel, by decide +kernel⟩
def N_l_token : List PySem.Str := ["_law_stream", "_law_words", "_law_marks", "_law_other", "_law_kind", "_law_some"]
def p_l_token : List PySem.Str := ["_law_stream", "_law_words", "_law_marks", "_law_other"]
theorem sc_l_token : FnScope N_l_token p_l_token (defScope s_l_token) := ⟨rfl, rfl, rfl, by decide +kernel, rfl, by decide +kernel, by decide +kernel⟩
def N_l_row : List PySem.Str := ["_law_stream", "_law_words", "_law_marks", "_law_other", "_law_road", "_law_turn", "_law_text", "_law_tokens", "_law_at", "_law_token_here", "_law_instead"]
def p_l_row : List PySem.Str := ["_law_stream", "_law_words", "_law_marks", "_law_other"]
theorem sc_l_row : FnScope N_l_row p_l_row (defScope s_l_row) := ⟨rfl, rfl, rfl, by decide +kernel, rfl, by decide +kernel, by decide +kernel⟩
def N_law : List PySem.Str := ["_law_script", "_law_place", "_law_stream", "_law_turn", "_law_marks", "_law_parts", "_law_other", "_law_row_here", "_law_k", "_law_lists", "_law_due", "_law_program"]
def p_law : List PySem.Str := ["_law_script"]
theorem sc_law : FnScope N_law p_law (defScope s_law) := ⟨rfl, rfl, rfl, by decide +kernel, rfl, by decide +kernel, by decide +kernel⟩
end K27

set_option maxRecDepth 100000
set_option maxHeartbeats 8000000
namespace K27
open PySem PySem.Spec PyProof.Rows L2
section
variable {P : Program} {w : World} {K : PySem.W.Frag} {mg : PySem.Str → Option Value} {base : Heap} {cdv : Value} {A : Around} {outer : List Env} {s : Shared} {H : Hp} {E : XK}
noncomputable def der_BadProgram_init (T : Tx K mg) (hr : Room 0 (A.deeper (envOfC "BadProgram.__init__" (defScope s_BadProgram_init) s.heap.objs.size (He.ma K (He.ga K "BadProgram") "__init__") cdv)))  :
    Dv (cxOf CX0 P w K mg base N_BadProgram_init "BadProgram.__init__" (defScope s_BadProgram_init) (He.ma K (He.ga K "BadProgram") "__init__") cdv A outer s H E).nox (defBody s_BadProgram_init) :=
  ⟨_, (pss_cons (ps_ost (pv 0) (pv 1))
    (pss_one (ps_ost (pv 0) (pv 2))))⟩

noncomputable def der_TooMany_init (T : Tx K mg) (hr : Room 0 (A.deeper (envOfC "TooMany.__init__" (defScope s_TooMany_init) s.heap.objs.size (He.ma K (He.ga K "TooMany") "__init__") cdv)))  :
    Dv (cxOf CX0 P w K mg base N_TooMany_init "TooMany.__init__" (defScope s_TooMany_init) (He.ma K (He.ga K "TooMany") "__init__") cdv A outer s H E).nox (defBody s_TooMany_init) :=
  ⟨_, (pss_one (ps_ost (pv 0) (pv 1)))⟩

noncomputable def der_is_contents (T : Tx K mg) (hr : Room 0 (A.deeper (envOfC "is_contents" (defScope s_is_contents) s.heap.objs.size (He.ga K "is_contents") cdv)))  :
    Dv (cxOf CX0 P w K mg base N_is_contents "is_contents" (defScope s_is_contents) (He.ga K "is_contents") cdv A outer s H E).nox (defBody s_is_contents) :=
  ⟨_, (pss_cons (ps_if (pt_not (pt_val (pe_callB call_isi rfl T.f_isinstance b_isinstance (pa_cons (pv 0) (pa_cons (pe_bltn (v := .ty "str") rfl T.f_str b_str rfl) pa_nil))))) (pss_one (ps_ret pe_bl)) pss_nil)
    (pss_cons (ps_set (i := 1) sc_is_contents.nd rfl (Or.inl rfl) pe_str)
    (pss_cons (ps_for PassesOwn.never rfl (pi_str (pv 0)) (pg_name (i := 2) sc_is_contents.nd rfl (Or.inl rfl)) (pss_cons (ps_if (PW.pt (pw_or (pt_cmpR o_niC (pv 2) (pe_gs T.s_MARKS) rfl) (pw_or1 (pt_cmpR o_leT (pv 2) (pv 1) (nomark _))))) (pss_one (ps_ret pe_bl)) pss_nil)
    (pss_one (ps_set (i := 1) sc_is_contents.nd rfl (Or.inl rfl) (pv 2)))))
    (pss_one (ps_ret pe_bl)))))⟩

noncomputable def der_parts_of (T : Tx K mg) (hr : Room 0 (A.deeper (envOfC "parts_of" (defScope s_parts_of) s.heap.objs.size (He.ga K "parts_of") cdv)))  :
    Dv (cxOf CX0 P w K mg base N_parts_of "parts_of" (defScope s_parts_of) (He.ga K "parts_of") cdv A outer s H E).nox (defBody s_parts_of) :=
  ⟨_, (pss_cons (ps_if (pt_not (pt_val (pe_callB call_isi rfl T.f_isinstance b_isinstance (pa_cons (pv 0) (pa_cons (pe_bltn (v := .ty "str") rfl T.f_str b_str rfl) pa_nil))))) (pss_one (ps_ret (pe_lst pa_nil))) pss_nil)
    (pss_one (ps_ret (pe_splitN (pv 0) pe_str))))⟩

noncomputable def der_is_word (T : Tx K mg) (hr : Room 0 (A.deeper (envOfC "is_word" (defScope s_is_word) s.heap.objs.size (He.ga K "is_word") cdv)))  :
    Dv (cxOf CX0 P w K mg base N_is_word "is_word" (defScope s_is_word) (He.ga K "is_word") cdv A outer s H E).nox (defBody s_is_word) :=
  ⟨_, (pss_cons (ps_if (PW.pt (pw_or (pt_not (pt_chain o_le o_le pe_int (pe_callB c_lenT rfl T.f_len b_len (pa_cons (pv 0) pa_nil)) pe_int)) (pw_or1 (pt_cmpR (o_inQ K) (pv 0) (pe_gr T.g_RESERVED) rfl)))) (pss_one (ps_ret pe_bl)) pss_nil)
    (pss_one (ps_ret (pe_callB (cr_all rfl) rfl T.f_all b_all (pa_cons (pe_lc (own := [("letter", 1)]) (g := gName 1) (tt := tYes) rfl sc_is_word.nd (pi_str (pv 0)) (blkOk_by (N := N_is_word) (sc := defScope s_is_word) (by decide +kernel)) (fun _ _ _ _ _ => pg_name (i := 1) sc_is_word.nd rfl (Or.inl rfl)) (fun _ _ _ _ _ => pts_nil) (fun _ _ _ _ _ => (pe_cmpR o_inC (pv 1) (pe_gs T.s_LETTERS) rfl))) pa_nil)))))⟩

noncomputable def der_is_variable (T : Tx K mg) (hr : Room 1 (A.deeper (envOfC "is_variable" (defScope s_is_variable) s.heap.objs.size (He.ga K "is_variable") cdv))) {sp_is_word : Sp} (G_is_word : Kp P w K mg base CX0 "is_word" 1 p_is_word sp_is_word) :
    Dv (cxOf CX0 P w K mg base N_is_variable "is_variable" (defScope s_is_variable) (He.ga K "is_variable") cdv A outer s H E).nox (defBody s_is_variable) :=
  ⟨_, (pss_one (ps_ret (pe_or (pe_cl G_is_word (hr.mono (by decide)) (pa_cons (pv 0) pa_nil)) (pe_one (pe_and (pv 1) (pe_one (pe_cmpR (o_inQ K) (pv 0) (pe_gr T.g_OF_THE_TASK) rfl)))))))⟩

noncomputable def der_is_set (T : Tx K mg) (hr : Room 1 (A.deeper (envOfC "is_set" (defScope s_is_set) s.heap.objs.size (He.ga K "is_set") cdv))) {sp_is_contents : Sp} (G_is_contents : Kp P w K mg base CX0 "is_contents" 1 p_is_contents sp_is_contents) :
    Dv (cxOf CX0 P w K mg base N_is_set "is_set" (defScope s_is_set) (He.ga K "is_set") cdv A outer s H E).nox (defBody s_is_set) :=
  ⟨_, (pss_cons (ps_if (PW.pt (pw_or (pt_cmpR o_lt (pe_callB c_lenT rfl T.f_len b_len (pa_cons (pv 0) pa_nil)) pe_int (nomark _)) (pw_or (pt_cmpR op_ne (pe_ix ix_str (pv 0) pe_int (fun _ _ => rfl)) pe_str (nomark _)) (pw_or1 (pt_cmpR op_ne (pe_ix ix_str (pv 0) (pe_un un_neg pe_int) (fun _ _ => rfl)) pe_str (nomark _)))))) (pss_one (ps_ret pe_bl)) pss_nil)
    (pss_cons (ps_set (i := 2) sc_is_set.nd rfl (Or.inl rfl) (pe_slice sl_str (pv 0) (po_some pe_int) (po_some (pe_un un_neg pe_int))))
    (pss_one (ps_ret (pe_and (pe_cl G_is_contents (hr.mono (by decide)) (pa_cons (pv 2) pa_nil)) (pe_one (pe_callB (cr_all rfl) rfl T.f_all b_all (pa_cons (pe_lc (own := [("mark", 3)]) (g := gName 3) (tt := tYes) rfl sc_is_set.nd (pi_str (pv 2)) (blkOk_by (N := N_is_set) (sc := defScope s_is_set) (by decide +kernel)) (fun _ _ _ _ _ => pg_name (i := 3) sc_is_set.nd rfl (Or.inl rfl)) (fun _ _ _ _ _ => pts_nil) (fun _ _ _ _ _ => (pe_cmpR o_inC (pv 3) (pv 1) rfl))) pa_nil))))))))⟩

noncomputable def der_is_term (T : Tx K mg) (hr : Room 2 (A.deeper (envOfC "is_term" (defScope s_is_term) s.heap.objs.size (He.ga K "is_term") cdv))) {sp_is_set : Sp} (G_is_set : Kp P w K mg base CX0 "is_set" 2 p_is_set sp_is_set) {sp_is_variable : Sp} (G_is_variable : Kp P w K mg base CX0 "is_variable" 2 p_is_variable sp_is_variable) :
    Dv (cxOf CX0 P w K mg base N_is_term "is_term" (defScope s_is_term) (He.ga K "is_term") cdv A outer s H E).nox (defBody s_is_term) :=
  ⟨_, (pss_one (ps_ret (pe_or (pe_cl G_is_variable (hr.mono (by decide)) (pa_cons (pv 0) (pa_cons (pv 2) pa_nil))) (pe_one (pe_cl G_is_set (hr.mono (by decide)) (pa_cons (pv 0) (pa_cons (pv 1) pa_nil)))))))⟩

noncomputable def der_variables (T : Tx K mg) (hr : Room 2 (A.deeper (envOfC "variables" (defScope s_variables) s.heap.objs.size (He.ga K "variables") cdv))) {sp_is_variable : Sp} (G_is_variable : Kp P w K mg base CX0 "is_variable" 2 p_is_variable sp_is_variable) :
    Dv (cxOf CX0 P w K mg base N_variables "variables" (defScope s_variables) (He.ga K "variables") cdv A outer s H E).nox (defBody s_variables) :=
  ⟨_, (pss_one (ps_ret (pe_lc (own := [("text", 2)]) (g := gName 2) (tt := _) rfl sc_variables.nd (pi_list (pv 0)) (blkOk_by (N := N_variables) (sc := defScope s_variables) (by decide +kernel)) (fun _ _ _ _ _ => pg_name (i := 2) sc_variables.nd rfl (Or.inl rfl)) (fun _ _ _ _ _ => (pts_one (pt_val (pe_cl G_is_variable (hr.mono (by decide)) (pa_cons (pv 2) (pa_cons (pv 1) pa_nil)))))) (fun _ _ _ _ _ => (pv 2)))))⟩

noncomputable def der_plain_words (T : Tx K mg) (hr : Room 3 (A.deeper (envOfC "plain_words" (defScope s_plain_words) s.heap.objs.size (He.ga K "plain_words") cdv))) {sp_is_term : Sp} (G_is_term : Kp P w K mg base CX0 "is_term" 3 p_is_term sp_is_term) {sp_is_variable : Sp} (G_is_variable : Kp P w K mg base CX0 "is_variable" 2 p_is_variable sp_is_variable) {sp_variables : Sp} (G_variables : Kp P w K mg base CX0 "variables" 3 p_variables sp_variables) :
    Dv (cxOf CX0 P w K mg base N_plain_words "plain_words" (defScope s_plain_words) (He.ga K "plain_words") cdv A outer s H E).nox (defBody s_plain_words) :=
  ⟨_, (pss_cons (ps_if (PW.pt (pw_and (pt_cmpR op_ne (pe_callB c_lenQ rfl T.f_len b_len (pa_cons (pv 0) pa_nil)) pe_int (nomark _)) (pw_and1 (pt_cmpR op_ne (pe_callB c_lenQ rfl T.f_len b_len (pa_cons (pv 0) pa_nil)) pe_int (nomark _))))) (pss_one (ps_ret pe_non)) pss_nil)
    (pss_cons (ps_set (i := 3) sc_plain_words.nd rfl (Or.inl rfl) (pe_ifExp (pt_cmpR op_eq (pe_callB c_lenQ rfl T.f_len b_len (pa_cons (pv 0) pa_nil)) pe_int (nomark _)) (pe_lst (pa_cons (pe_ix ix_list (pv 0) pe_int (fun _ _ => rfl)) pa_nil)) (pe_lst (pa_cons (pe_ix ix_list (pv 0) pe_int (fun _ _ => rfl)) (pa_cons (pe_ix ix_list (pv 0) pe_int (fun _ _ => rfl)) pa_nil)))))
    (pss_cons (ps_if (PW.pt (pw_or (pt_not (pt_val (pe_cl G_is_variable (hr.mono (by decide)) (pa_cons (pe_ix ix_list (pv 0) pe_int (fun _ _ => rfl)) (pa_cons (pv 2) pa_nil))))) (pw_or1 (pt_not (pt_val (pe_callB (cr_all rfl) rfl T.f_all b_all (pa_cons (pe_lc (own := [("text", 5)]) (g := gName 5) (tt := tYes) rfl sc_plain_words.nd (pi_list (pv 3)) (blkOk_by (N := N_plain_words) (sc := defScope s_plain_words) (by decide +kernel)) (fun _ _ _ _ _ => pg_name (i := 5) sc_plain_words.nd rfl (Or.inl rfl)) (fun _ _ _ _ _ => pts_nil) (fun _ _ _ _ _ => (pe_cl G_is_term (hr.mono (by decide)) (pa_cons (pv 5) (pa_cons (pv 1) (pa_cons (pv 2) pa_nil)))))) pa_nil))))))) (pss_one (ps_ret pe_non)) pss_nil)
    (pss_cons (ps_set (i := 4) sc_plain_words.nd rfl (Or.inl rfl) (pe_cl G_variables (hr.mono (by decide)) (pa_cons (pv 3) (pa_cons (pv 2) pa_nil))))
    (pss_cons (ps_if (pt_cmpR op_eq (pe_callB c_lenQ rfl T.f_len b_len (pa_cons (pv 0) pa_nil)) pe_int (nomark _)) (pss_one (ps_ret (pe_ifExp (PW.pt (pw_and (pt_cmpR op_eq (pe_ix ix_list (pv 0) pe_int (fun _ _ => rfl)) pe_str (nomark _)) (pw_and1 (pt_cmpR (o_inQ K) (pe_ix ix_list (pv 0) pe_int (fun _ _ => rfl)) (pe_gr T.g_SIGNS) rfl)))) (pe_tup (pa_cons (pe_lst (pa_cons (pe_ix ix_list (pv 0) pe_int (fun _ _ => rfl)) pa_nil)) (pa_cons (pv 4) pa_nil))) pe_non))) pss_nil)
    (pss_cons (ps_if (pt_cmpR op_eq (pe_ix ix_list (pv 0) pe_int (fun _ _ => rfl)) pe_str (nomark _)) (pss_one (ps_ret (pe_tup (pa_cons (pe_lst (pa_cons (pe_ix ix_list (pv 0) pe_int (fun _ _ => rfl)) pa_nil)) (pa_cons (pv 4) pa_nil))))) pss_nil)
    (pss_cons (ps_if (pt_cmpR (o_inQ K) (pe_ix ix_list (pv 0) pe_int (fun _ _ => rfl)) (pe_gr T.g_CHANGES) rfl) (pss_one (ps_ret (pe_tup (pa_cons (pe_lst pa_nil) (pa_cons (pe_op op_cat (pe_lst (pa_cons (pe_ix ix_list (pv 0) pe_int (fun _ _ => rfl)) pa_nil)) (pv 4)) pa_nil))))) pss_nil)
    (pss_one (ps_ret pe_non)))))))))⟩
end
end K27

set_option maxRecDepth 100000
set_option maxHeartbeats 8000000
namespace K27
open PySem PySem.Spec PyProof.Rows L2
section
variable {P : Program} {w : World} {K : PySem.W.Frag} {mg : PySem.Str → Option Value} {base : Heap} {cdv : Value} {A : Around} {outer : List Env} {s : Shared} {H : Hp} {E : XK}
noncomputable def der_test_words (T : Tx K mg) (hr : Room 3 (A.deeper (envOfC "test_words" (defScope s_test_words) s.heap.objs.size (He.ga K "test_words") cdv))) {sp_is_term : Sp} (G_is_term : Kp P w K mg base CX0 "is_term" 3 p_is_term sp_is_term) {sp_variables : Sp} (G_variables : Kp P w K mg base CX0 "variables" 3 p_variables sp_variables) {sp_is_variable : Sp} (G_is_variable : Kp P w K mg base CX0 "is_variable" 2 p_is_variable sp_is_variable) :
    Dv (cxOf CX0 P w K mg base N_test_words "test_words" (defScope s_test_words) (He.ga K "test_words") cdv A outer s H E).nox (defBody s_test_words) :=
  ⟨_, (pss_cons (ps_if (pt_cmpR op_ne (pe_callB c_lenQ rfl T.f_len b_len (pa_cons (pv 0) pa_nil)) pe_int (nomark _)) (pss_one (ps_ret pe_non)) pss_nil)
    (pss_cons (ps_asg (pv 0) (pg_unl rfl (pgs_cons (pg_name (i := 2) sc_test_words.nd rfl (Or.inl rfl)) (pgs_cons (pg_name (i := 3) sc_test_words.nd rfl (Or.inl rfl)) (pgs_cons (pg_name (i := 4) sc_test_words.nd rfl (Or.inl rfl)) pgs_nil)))))
    (pss_cons (ps_if (pt_cmpR op_eq (pv 3) pe_str (nomark _)) (pss_cons (ps_set (i := 5) sc_test_words.nd rfl (Or.inl rfl) (pe_and (pe_cmpR op_eq (pe_callB c_lenT rfl T.f_len b_len (pa_cons (pv 2) pa_nil)) pe_int (nomark _)) (pe_and (pe_cmpR o_inC (pv 2) (pv 1) rfl) (pe_one (pe_cl G_is_term (hr.mono (by decide)) (pa_cons (pv 4) (pa_cons (pv 1) (pa_cons pe_bl pa_nil))))))))
    (pss_one (ps_ret (pe_ifExp (pt_val (pv 5)) (pe_cl G_variables (hr.mono (by decide)) (pa_cons (pe_lst (pa_cons (pv 4) pa_nil)) (pa_cons pe_bl pa_nil))) pe_non)))) pss_nil)
    (pss_cons (ps_if (pt_cmpR op_eq (pv 3) pe_str (nomark _)) (pss_one (ps_ret (pe_ifExp (PW.pt (pw_and (pt_val (pe_cl G_is_variable (hr.mono (by decide)) (pa_cons (pv 2) (pa_cons pe_bl pa_nil)))) (pw_and1 (pt_val (pe_cl G_is_variable (hr.mono (by decide)) (pa_cons (pv 4) (pa_cons pe_bl pa_nil))))))) (pe_lst (pa_cons (pv 2) (pa_cons (pv 4) pa_nil))) pe_non))) pss_nil)
    (pss_cons (ps_if (PW.pt (pw_and (pt_cmpR (o_inQ K) (pv 3) (pe_tup (pa_cons pe_str (pa_cons pe_str pa_nil))) rfl) (pw_and (pt_val (pe_cl G_is_term (hr.mono (by decide)) (pa_cons (pv 2) (pa_cons (pv 1) (pa_cons pe_bl pa_nil))))) (pw_and1 (pt_val (pe_cl G_is_term (hr.mono (by decide)) (pa_cons (pv 4) (pa_cons (pv 1) (pa_cons pe_bl pa_nil))))))))) (pss_one (ps_ret (pe_cl G_variables (hr.mono (by decide)) (pa_cons (pe_lst (pa_cons (pv 2) (pa_cons (pv 4) pa_nil))) (pa_cons pe_bl pa_nil))))) pss_nil)
    (pss_one (ps_ret pe_non)))))))⟩

noncomputable def der_task_words (T : Tx K mg) (hr : Room 4 (A.deeper (envOfC "task_words" (defScope s_task_words) s.heap.objs.size (He.ga K "task_words") cdv))) {sp_test_words : Sp} (G_test_words : Kp P w K mg base CX0 "test_words" 4 p_test_words sp_test_words) {sp_is_term : Sp} (G_is_term : Kp P w K mg base CX0 "is_term" 3 p_is_term sp_is_term) {sp_variables : Sp} (G_variables : Kp P w K mg base CX0 "variables" 3 p_variables sp_variables) {sp_plain_words : Sp} (G_plain_words : Kp P w K mg base CX0 "plain_words" 4 p_plain_words sp_plain_words) :
    Dv (cxOf CX0 P w K mg base N_task_words "task_words" (defScope s_task_words) (He.ga K "task_words") cdv A outer s H E).nox (defBody s_task_words) :=
  ⟨_, (pss_cons (ps_if (pt_cmpR (op_inTD (hu65 hr)) (pv 0) (pe_tup (pa_cons (pe_lst (pa_cons pe_str pa_nil)) (pa_cons (pe_lst (pa_cons pe_str pa_nil)) (pa_cons (pe_lst (pa_cons pe_str pa_nil)) pa_nil)))) rfl) (pss_one (ps_ret (pe_lst pa_nil))) pss_nil)
    (pss_cons (ps_if (pt_cmpR (op_eqD (hu64 hr)) (pe_slice sl_list (pv 0) po_none (po_some pe_int)) (pe_lst (pa_cons pe_str pa_nil)) (nomark _)) (pss_one (ps_ret (pe_cl G_test_words (hr.mono (by decide)) (pa_cons (pe_ifExp (pt_cmpR (op_eqD (hu64 hr)) (pe_slice sl_list (pv 0) (po_some pe_int) (po_some pe_int)) (pe_lst (pa_cons pe_str pa_nil)) (nomark _)) (pe_slice sl_list (pv 0) (po_some pe_int) po_none) (pe_slice sl_list (pv 0) (po_some pe_int) po_none)) (pa_cons (pv 1) pa_nil))))) pss_nil)
    (pss_cons (ps_if (pt_cmpR (op_eqD (hu64 hr)) (pe_slice sl_list (pv 0) po_none (po_some pe_int)) (pe_lst (pa_cons pe_str pa_nil)) (nomark _)) (pss_cons (ps_if (PW.pt (pw_and (pt_cmpR op_ne (pe_callB c_lenQ rfl T.f_len b_len (pa_cons (pv 0) pa_nil)) pe_int (nomark _)) (pw_and1 (PW.pt (pw_or (pt_cmpR op_ne (pe_callB c_lenQ rfl T.f_len b_len (pa_cons (pv 0) pa_nil)) pe_int (nomark _)) (pw_or1 (pt_cmpR op_ne (pe_ix ix_list (pv 0) pe_int (fun _ _ => rfl)) pe_str (nomark _)))))))) (pss_one (ps_ret pe_non)) pss_nil)
    (pss_cons (ps_set (i := 2) sc_task_words.nd rfl (Or.inl rfl) (pe_op op_cat (pe_slice sl_list (pv 0) (po_some pe_int) (po_some pe_int)) (pe_slice sl_list (pv 0) (po_some pe_int) (po_some pe_int))))
    (pss_one (ps_ret (pe_ifExp (pt_val (pe_callB (cr_all rfl) rfl T.f_all b_all (pa_cons (pe_lc (own := [("text", 4)]) (g := gName 4) (tt := tYes) rfl sc_task_words.nd (pi_list (pv 2)) (blkOk_by (N := N_task_words) (sc := defScope s_task_words) (by decide +kernel)) (fun _ _ _ _ _ => pg_name (i := 4) sc_task_words.nd rfl (Or.inl rfl)) (fun _ _ _ _ _ => pts_nil) (fun _ _ _ _ _ => (pe_cl G_is_term (hr.mono (by decide)) (pa_cons (pv 4) (pa_cons (pv 1) (pa_cons pe_bl pa_nil)))))) pa_nil))) (pe_cl G_variables (hr.mono (by decide)) (pa_cons (pv 2) (pa_cons pe_bl pa_nil))) pe_non))))) pss_nil)
    (pss_cons (ps_set (i := 3) sc_task_words.nd rfl (Or.inl rfl) (pe_cl G_plain_words (hr.mono (by decide)) (pa_cons (pv 0) (pa_cons (pv 1) (pa_cons pe_bl pa_nil)))))
    (pss_one (ps_ret (pe_ifExp (pt_cmpR o_isNon (pv 3) pe_non (nomark _)) pe_non (pe_op op_cat (pe_ix ix_tup (pv 3) pe_int (fun _ _ => rfl)) (pe_ix ix_tup (pv 3) pe_int (fun _ _ => rfl))))))))))⟩

noncomputable def der_checked_marks (T : Tx K mg) (hr : Room 2 (A.deeper (envOfC "checked_marks" (defScope s_checked_marks) s.heap.objs.size (He.ga K "checked_marks") cdv))) {sp_is_contents : Sp} (G_is_contents : Kp P w K mg base CX0 "is_contents" 1 p_is_contents sp_is_contents) {sp_BadProgram : Sp} (G_BadProgram : Kx P w K mg base "BadProgram" 1 p_BadProgram_init sp_BadProgram) :
    Dv (cxOf (CXx P w) P w K mg base N_checked_marks "checked_marks" (defScope s_checked_marks) (He.ga K "checked_marks") cdv A outer s H E) (defBody s_checked_marks) :=
  ⟨_, (pss_cons (ps_if (PW.pt (pw_or (pt_not (pt_val (pe_cl G_is_contents (hr.mono (by decide)) (pa_cons (pv 0) pa_nil)))) (pw_or1 (pt_not (pt_chain o_le o_le pe_int (pe_callB c_lenT rfl T.f_len b_len (pa_cons (pv 0) pa_nil)) (pe_gi T.i_MOST_MARKS)))))) (pss_one (ps_rz rfl (takes_of rfl rfl rfl rfl) G_BadProgram (hr.mono (by decide)) (pa_cons pe_str (pa_cons (pe_un un_neg pe_int) pa_nil)))) pss_nil)
    (pss_cons (ps_if (pt_cmpR o_gt (pe_callB c_lenQ rfl T.f_len b_len (pa_cons (pe_lc (own := [("mark", 1)]) (g := gName 1) (tt := _) rfl sc_checked_marks.nd (pi_str (pv 0)) (blkOk_by (N := N_checked_marks) (sc := defScope s_checked_marks) (by decide +kernel)) (fun _ _ _ _ _ => pg_name (i := 1) sc_checked_marks.nd rfl (Or.inl rfl)) (fun _ _ _ _ _ => (pts_one (pt_cmpR o_inC (pv 1) (pe_gs T.s_LETTERS) rfl))) (fun _ _ _ _ _ => (pv 1))) pa_nil)) (pe_gi T.i_MOST_PLAIN) (nomark _)) (pss_one (ps_rz rfl (takes_of rfl rfl rfl rfl) G_BadProgram (hr.mono (by decide)) (pa_cons pe_str (pa_cons (pe_un un_neg pe_int) pa_nil)))) pss_nil)
    (pss_one (ps_ret (pv 0)))))⟩

noncomputable def der_checked_rows (T : Tx K mg) (hr : Room 2 (A.deeper (envOfC "checked_rows" (defScope s_checked_rows) s.heap.objs.size (He.ga K "checked_rows") cdv))) {sp_BadProgram : Sp} (G_BadProgram : Kx P w K mg base "BadProgram" 1 p_BadProgram_init sp_BadProgram) {sp_TooMany : Sp} (G_TooMany : Kx P w K mg base "TooMany" 1 p_TooMany_init sp_TooMany) :
    Dv (cxOf (CXx P w) P w K mg base N_checked_rows "checked_rows" (defScope s_checked_rows) (He.ga K "checked_rows") cdv A outer s H E) (defBody s_checked_rows) :=
  ⟨_, (pss_cons (ps_if (pt_not (pt_val (pe_callB call_isi rfl T.f_isinstance b_isinstance (pa_cons (pv 1) (pa_cons (pe_bltn (v := .ty "list") rfl T.f_list b_list rfl) pa_nil))))) (pss_one (ps_rz rfl (takes_of rfl rfl rfl rfl) G_BadProgram (hr.mono (by decide)) (pa_cons (pv 0) (pa_cons (pe_un un_neg pe_int) pa_nil)))) pss_nil)
    (pss_cons (ps_if (pt_cmpR o_gt (pe_callB c_lenQ rfl T.f_len b_len (pa_cons (pv 1) pa_nil)) (pv 2) (nomark _)) (pss_one (ps_rz rfl (takes_of rfl rfl rfl rfl) G_TooMany (hr.mono (by decide)) (pa_cons pe_str pa_nil))) pss_nil)
    (pss_one (ps_ret (pe_callTy c_tupQ rfl T.f_tuple b_tuple (pa_cons (pv 1) pa_nil))))))⟩
end
end K27

set_option maxRecDepth 100000
set_option maxHeartbeats 8000000
namespace K27
open PySem PySem.Spec PyProof.Rows L2
section
variable {P : Program} {w : World} {K : PySem.W.Frag} {mg : PySem.Str → Option Value} {base : Heap} {cdv : Value} {A : Around} {outer : List Env} {s : Shared} {H : Hp} {E : XK}
noncomputable def der_checked_plain (T : Tx K mg) (hr : Room 4 (A.deeper (envOfC "checked_plain" (defScope s_checked_plain) s.heap.objs.size (He.ga K "checked_plain") cdv))) {sp_plain_words2 : Sp} (G_plain_words2 : Kd P w K mg base CX0 "plain_words" 4 p_plain_words sp_plain_words2) {sp_parts_of : Sp} (G_parts_of : Kp P w K mg base CX0 "parts_of" 1 p_parts_of sp_parts_of) {sp_BadProgram : Sp} (G_BadProgram : Kx P w K mg base "BadProgram" 1 p_BadProgram_init sp_BadProgram) :
    Dv (cxOf (CXx P w) P w K mg base N_checked_plain "checked_plain" (defScope s_checked_plain) (He.ga K "checked_plain") cdv A outer s H E) (defBody s_checked_plain) :=
  ⟨_, (pss_cons (ps_set (i := 4) sc_checked_plain.nd rfl (Or.inr rfl) (pe_callTy c_listQ rfl T.f_list b_list (pa_cons (pv 3) pa_nil)))
    (pss_cons (ps_for (passes_of rfl) rfl (pi_enumT rfl T.f_enumerate (pa_cons (pv 1) pa_nil)) (pg_tup rfl (pgs_cons (pg_name (i := 5) sc_checked_plain.nd rfl (Or.inl rfl)) (pgs_cons (pg_name (i := 6) sc_checked_plain.nd rfl (Or.inl rfl)) pgs_nil))) (pss_cons (ps_set (i := 7) sc_checked_plain.nd rfl (Or.inl rfl) (pe_clD G_plain_words2 (hr.mono (by decide)) (pa_cons (pe_cl G_parts_of (hr.mono (by decide)) (pa_cons (pv 6) pa_nil)) (pa_cons (pv 2) pa_nil))))
    (pss_cons (ps_if (pt_cmpR o_isNon (pv 7) pe_non (nomark _)) (pss_one (ps_rz rfl (takes_of rfl rfl rfl rfl) G_BadProgram (hr.mono (by decide)) (pa_cons (pv 0) (pa_cons (pv 5) pa_nil)))) pss_nil)
    (pss_cons (ps_asg (pv 7) (pg_tup rfl (pgs_cons (pg_name (i := 8) sc_checked_plain.nd rfl (Or.inl rfl)) (pgs_cons (pg_name (i := 9) sc_checked_plain.nd rfl (Or.inl rfl)) pgs_nil))))
    (pss_cons (ps_if (pt_not (pt_val (pe_callB (cr_all rfl) rfl T.f_all b_all (pa_cons (pe_lc (own := [("word", 10)]) (g := gName 10) (tt := tYes) rfl sc_checked_plain.nd (pi_list (pv 9)) (blkOk_by (N := N_checked_plain) (sc := defScope s_checked_plain) (by decide +kernel)) (fun _ _ _ _ _ => pg_name (i := 10) sc_checked_plain.nd rfl (Or.inl rfl)) (fun _ _ _ _ _ => pts_nil) (fun _ _ _ _ _ => (pe_cmpR (o_inQ K) (pv 10) (pv 4) rfl))) pa_nil)))) (pss_one (ps_rz rfl (takes_of rfl rfl rfl rfl) G_BadProgram (hr.mono (by decide)) (pa_cons (pv 0) (pa_cons (pv 5) pa_nil)))) pss_nil)
    (pss_one (ps_set (i := 4) sc_checked_plain.nd rfl (Or.inr rfl) (pe_op op_cat (pv 4) (pe_lc (own := [("word", 10)]) (g := gName 10) (tt := _) rfl sc_checked_plain.nd (pi_list (pv 8)) (blkOk_by (N := N_checked_plain) (sc := defScope s_checked_plain) (by decide +kernel)) (fun _ _ _ _ _ => pg_name (i := 10) sc_checked_plain.nd rfl (Or.inl rfl)) (fun _ _ _ _ _ => (pts_one (pt_cmpR (o_niQ K) (pv 10) (pv 4) rfl))) (fun _ _ _ _ _ => (pv 10)))))))))))
    (pss_one (ps_ret (pv 4)))))⟩

noncomputable def der_check_task (T : Tx K mg) (hr : Room 5 (A.deeper (envOfC "check_task" (defScope s_check_task) s.heap.objs.size (He.ga K "check_task") cdv))) {sp_parts_of : Sp} (G_parts_of : Kp P w K mg base CX0 "parts_of" 1 p_parts_of sp_parts_of) {sp_task_words : Sp} (G_task_words : Kp P w K mg base CX0 "task_words" 5 p_task_words sp_task_words) {sp_BadProgram : Sp} (G_BadProgram : Kx P w K mg base "BadProgram" 1 p_BadProgram_init sp_BadProgram) :
    Dv (cxOf (CXx P w) P w K mg base N_check_task "check_task" (defScope s_check_task) (He.ga K "check_task") cdv A outer s H E) (defBody s_check_task) :=
  ⟨_, (pss_cons (ps_set (i := 3) sc_check_task.nd rfl (Or.inl rfl) (pe_lst pa_nil))
    (pss_cons (ps_for (passes_of rfl) rfl (pi_enumT rfl T.f_enumerate (pa_cons (pv 0) pa_nil)) (pg_tup rfl (pgs_cons (pg_name (i := 4) sc_check_task.nd rfl (Or.inl rfl)) (pgs_cons (pg_name (i := 5) sc_check_task.nd rfl (Or.inl rfl)) pgs_nil))) (pss_cons (ps_set (i := 6) sc_check_task.nd rfl (Or.inl rfl) (pe_cl G_parts_of (hr.mono (by decide)) (pa_cons (pv 5) pa_nil)))
    (pss_cons (ps_set (i := 7) sc_check_task.nd rfl (Or.inl rfl) (pe_cl G_task_words (hr.mono (by decide)) (pa_cons (pv 6) (pa_cons (pv 1) pa_nil))))
    (pss_cons (ps_if (PW.pt (pw_or (pt_cmpR o_isNon (pv 7) pe_non (nomark _)) (pw_or1 (pt_not (pt_val (pe_callB (cr_all rfl) rfl T.f_all b_all (pa_cons (pe_lc (own := [("word", 8)]) (g := gName 8) (tt := tYes) rfl sc_check_task.nd (pi_list (pv 7)) (blkOk_by (N := N_check_task) (sc := defScope s_check_task) (by decide +kernel)) (fun _ _ _ _ _ => pg_name (i := 8) sc_check_task.nd rfl (Or.inl rfl)) (fun _ _ _ _ _ => pts_nil) (fun _ _ _ _ _ => (pe_cmpR (o_inQ K) (pv 8) (pv 2) rfl))) pa_nil))))))) (pss_one (ps_rz rfl (takes_of rfl rfl rfl rfl) G_BadProgram (hr.mono (by decide)) (pa_cons pe_str (pa_cons (pv 4) pa_nil)))) pss_nil)
    (pss_one (ps_if (pt_cmpR op_eq (pe_ix ix_list (pv 6) pe_int (fun _ _ => rfl)) pe_str (nomark _)) (pss_one (ps_expr (pe_bm PySem.F.plainAttrs_list PySem.F.slot_list_append PySem.F.type_list_append mt_append (pv 3) (pa_cons pe_bl pa_nil)))) (pss_one (ps_if (pt_cmpR (op_eqD (hu64 hr)) (pv 6) (pe_lst (pa_cons pe_str pa_nil)) (nomark _)) (pss_cons (ps_if (PW.pt (pw_or (pt_cmpR (op_eqD (hu64 hr)) (pv 3) (pe_lst pa_nil) (nomark _)) (pw_or1 (pt_val (pe_ix ix_list (pv 3) (pe_un un_neg pe_int) (fun _ _ => rfl)))))) (pss_one (ps_rz rfl (takes_of rfl rfl rfl rfl) G_BadProgram (hr.mono (by decide)) (pa_cons pe_str (pa_cons (pv 4) pa_nil)))) pss_nil)
    (pss_one (ps_asg pe_bl (pg_sub (pv 3) (pe_un un_neg pe_int) set_list)))) (pss_one (ps_if (pt_cmpR (op_eqD (hu64 hr)) (pv 6) (pe_lst (pa_cons pe_str pa_nil)) (nomark _)) (pss_cons (ps_if (pt_cmpR (op_eqD (hu64 hr)) (pv 3) (pe_lst pa_nil) (nomark _)) (pss_one (ps_rz rfl (takes_of rfl rfl rfl rfl) G_BadProgram (hr.mono (by decide)) (pa_cons pe_str (pa_cons (pv 4) pa_nil)))) pss_nil)
    (pss_one (ps_expr (pe_bm0 PySem.F.plainAttrs_list PySem.F.slot_list_pop PySem.F.type_list_pop mt_pop (pv 3))))) pss_nil))))))))))
    (pss_one (ps_if (pt_cmpR (op_neD (hu64 hr)) (pv 3) (pe_lst pa_nil) (nomark _)) (pss_one (ps_rz rfl (takes_of rfl rfl rfl rfl) G_BadProgram (hr.mono (by decide)) (pa_cons pe_str (pa_cons (pe_callB c_lenQ rfl T.f_len b_len (pa_cons (pv 0) pa_nil)) pa_nil)))) pss_nil))))⟩

noncomputable def der_Program_init (T : Tx K mg) (hr : Room 6 (A.deeper (envOfC "Program.__init__" (defScope s_Program_init) s.heap.objs.size (He.ma K (He.ga K "Program") "__init__") cdv))) {sp_checked_marks : Sp} (G_checked_marks : Kp P w K mg base (CXx P w) "checked_marks" 3 p_checked_marks sp_checked_marks) {sp_checked_rows : Sp} (G_checked_rows : Kp P w K mg base (CXx P w) "checked_rows" 3 p_checked_rows sp_checked_rows) {sp_checked_plain : Sp} (G_checked_plain : Kp P w K mg base (CXx P w) "checked_plain" 5 p_checked_plain sp_checked_plain) {sp_check_task : Sp} (G_check_task : Kp P w K mg base (CXx P w) "check_task" 6 p_check_task sp_check_task) {sp_TooMany : Sp} (G_TooMany : Kx P w K mg base "TooMany" 1 p_TooMany_init sp_TooMany) :
    Dv (cxOf (CXx P w) P w K mg base N_Program_init "Program.__init__" (defScope s_Program_init) (He.ma K (He.ga K "Program") "__init__") cdv A outer s H E) (defBody s_Program_init) :=
  ⟨_, (pss_cons (ps_fld (pv 0) (pe_clX G_checked_marks (hr.mono (by decide)) (takes_of rfl rfl rfl rfl) (pa_cons (pv 1) pa_nil)) rfl)
    (pss_cons (ps_fld (pv 0) (pe_clX G_checked_rows (hr.mono (by decide)) (takes_of rfl rfl rfl rfl) (pa_cons pe_str (pa_cons (pv 2) (pa_cons (pe_gi T.i_MOST_ROWS) pa_nil)))) rfl)
    (pss_cons (ps_set (i := 5) sc_Program_init.nd rfl (Or.inl rfl) (pe_clX G_checked_plain (hr.mono (by decide)) (takes_of rfl rfl rfl rfl) (pa_cons pe_str (pa_cons (pe_fld (pv 0) rfl) (pa_cons (pv 1) (pa_cons (pe_lst pa_nil) pa_nil))))))
    (pss_cons (ps_if (pt_cmpR o_gt (pe_callB c_lenQ rfl T.f_len b_len (pa_cons (pv 5) pa_nil)) (pe_gi T.i_MOST_GLOBALS) (nomark _)) (pss_one (ps_rz rfl (takes_of rfl rfl rfl rfl) G_TooMany (hr.mono (by decide)) (pa_cons pe_str pa_nil))) pss_nil)
    (pss_cons (ps_fld (pv 0) (pe_callTy c_tupQ rfl T.f_tuple b_tuple (pa_cons (pe_callB cr_sortedS rfl T.f_sorted b_sorted (pa_cons (pv 5) pa_nil)) pa_nil)) rfl)
    (pss_cons (ps_fld (pv 0) (pe_clX G_checked_rows (hr.mono (by decide)) (takes_of rfl rfl rfl rfl) (pa_cons pe_str (pa_cons (pv 3) (pa_cons (pe_gi T.i_MOST_ROWS) pa_nil)))) rfl)
    (pss_cons (ps_set (i := 5) sc_Program_init.nd rfl (Or.inl rfl) (pe_clX G_checked_plain (hr.mono (by decide)) (takes_of rfl rfl rfl rfl) (pa_cons pe_str (pa_cons (pe_fld (pv 0) rfl) (pa_cons (pv 1) (pa_cons (pv 5) pa_nil))))))
    (pss_cons (ps_if (pt_cmpR o_gt (pe_callB c_lenQ rfl T.f_len b_len (pa_cons (pv 5) pa_nil)) (pe_callB (c_min rfl) rfl T.f_min b_min (pa_cons (pe_gi T.i_MOST_NAMES) (pa_cons (pe_op o_add (pe_callB c_lenQ rfl T.f_len b_len (pa_cons (pe_fld (pv 0) rfl) pa_nil)) (pe_gi T.i_MOST_OWN)) pa_nil))) (nomark _)) (pss_one (ps_rz rfl (takes_of rfl rfl rfl rfl) G_TooMany (hr.mono (by decide)) (pa_cons pe_str pa_nil))) pss_nil)
    (pss_cons (ps_fld (pv 0) (pe_callTy c_tupQ rfl T.f_tuple b_tuple (pa_cons (pe_callB cr_sortedS rfl T.f_sorted b_sorted (pa_cons (pv 5) pa_nil)) pa_nil)) rfl)
    (pss_cons (ps_fld (pv 0) (pe_clX G_checked_rows (hr.mono (by decide)) (takes_of rfl rfl rfl rfl) (pa_cons pe_str (pa_cons (pv 4) (pa_cons (pe_gi T.i_MOST_TASK_ROWS) pa_nil)))) rfl)
    (pss_one (ps_expr (pe_clX G_check_task (hr.mono (by decide)) (takes_of rfl rfl rfl rfl) (pa_cons (pe_fld (pv 0) rfl) (pa_cons (pv 1) (pa_cons (pe_op op_cat (pe_callTy c_listQ rfl T.f_list b_list (pa_cons (pe_fld (pv 0) rfl) pa_nil)) (pe_lst (pa_cons pe_str (pa_cons pe_str pa_nil)))) pa_nil))))))))))))))))⟩
end
end K27

set_option maxRecDepth 100000
set_option maxHeartbeats 8000000
namespace K27
open PySem PySem.Spec PyProof.Rows L2
section
variable {P : Program} {w : World} {K : PySem.W.Frag} {mg : PySem.Str → Option Value} {base : Heap} {cdv : Value} {A : Around} {outer : List Env} {s : Shared} {H : Hp} {E : XK}
noncomputable def der_l_numbers (T : Tx K mg) (hr : Room 0 (A.deeper (envOfC "_law_numbers" (defScope s_l_numbers) s.heap.objs.size (He.ga K "_law_numbers") cdv)))  :
    Dv (cxOf CX0 P w K mg base N_l_numbers "_law_numbers" (defScope s_l_numbers) (He.ga K "_law_numbers") cdv A outer s H E).nox (defBody s_l_numbers) :=
  ⟨_, (pss_cons (ps_set (i := 3) sc_l_numbers.nd rfl (Or.inl rfl) (pe_op op_cat (pe_lc (own := [("_law_cell", 2)]) (g := gName 2) (tt := tYes) rfl sc_l_numbers.nd (pi_list (pe_slice sl_list (pv 0) po_none (po_some pe_int))) (blkOk_by (N := N_l_numbers) (sc := defScope s_l_numbers) (by decide +kernel)) (fun _ _ _ _ _ => pg_name (i := 2) sc_l_numbers.nd rfl (Or.inl rfl)) (fun _ _ _ _ _ => pts_nil) (fun _ _ _ _ _ => (pe_callTy c_int rfl T.f_int b_int (pa_cons (pv 2) pa_nil)))) (pe_op op_rep (pe_lst (pa_cons pe_int pa_nil)) (pe_callTy c_int rfl T.f_int b_int (pa_cons (pe_cmpR op_eq (pe_callB c_lenQ rfl T.f_len b_len (pa_cons (pv 0) pa_nil)) pe_int (nomark _)) pa_nil)))))
    (pss_cons (ps_set (i := 2) sc_l_numbers.nd rfl (Or.inl rfl) (pe_ix ix_list (pv 3) (pe_op o_mod (pe_callTy c_int rfl T.f_int b_int (pa_cons (pv 1) pa_nil)) (pe_callB c_lenQ rfl T.f_len b_len (pa_cons (pv 3) pa_nil))) (fun _ _ => rfl)))
    (pss_one (ps_ret (pe_lst (pa_cons (pe_ifExp (pt_cmpR o_ge (pv 2) (pe_op o_pow pe_int pe_int) (nomark _)) (pv 2) pe_int) (pa_cons (pe_op o_add pe_int (pe_op o_mul pe_int (pv 1))) (pa_cons (pe_op o_mul pe_int (pv 1)) (pa_cons (pv 3) pa_nil)))))))))⟩

noncomputable def der_l_draw (T : Tx K mg) (hr : Room 0 (A.deeper (envOfC "_law_draw" (defScope s_l_draw) s.heap.objs.size (He.ga K "_law_draw") cdv)))  :
    Dv (cxOf CX0 P w K mg base N_l_draw "_law_draw" (defScope s_l_draw) (He.ga K "_law_draw") cdv A outer s H E).nox (defBody s_l_draw) :=
  ⟨_, (pss_cons (ps_if (pt_cmpR o_gt (pe_ix ix_list (pv 0) pe_int (fun _ _ => rfl)) pe_int (nomark _)) (pss_cons (ps_set (i := 2) sc_l_draw.nd rfl (Or.inl rfl) (pe_op o_mod (pe_callTy c_int rfl T.f_int b_int (pa_cons (pe_ix ix_list (pv 0) pe_int (fun _ _ => rfl)) pa_nil)) (pv 1)))
    (pss_cons (ps_asg (pe_op o_div (pe_ix ix_list (pv 0) pe_int (fun _ _ => rfl)) (pv 1)) (pg_sub (pv 0) pe_int set_list))
    (pss_one (ps_ret (pv 2))))) pss_nil)
    (pss_cons (ps_asg (pe_op o_add (pe_ix ix_list (pv 0) pe_int (fun _ _ => rfl)) pe_int) (pg_sub (pv 0) pe_int set_list))
    (pss_cons (ps_par (i := 3) (j := 4) rfl sc_l_draw.nd rfl rfl (by decide) rfl rfl (pa_cons (pe_ix ix_list (pv 0) pe_int (fun _ _ => rfl)) (pa_cons (pe_ix ix_list (pv 0) pe_int (fun _ _ => rfl)) pa_nil)) rfl)
    (pss_cons (ps_set (i := 5) sc_l_draw.nd rfl (Or.inl rfl) (pe_op o_mod (pe_callTy c_int rfl T.f_int b_int (pa_cons (pe_ix ix_list (pv 4) (pe_op o_mod (pe_callTy c_int rfl T.f_int b_int (pa_cons (pv 3) pa_nil)) (pe_callB c_lenQ rfl T.f_len b_len (pa_cons (pv 4) pa_nil))) (fun _ _ => rfl)) pa_nil)) pe_int))
    (pss_cons (ps_set (i := 6) sc_l_draw.nd rfl (Or.inl rfl) (pe_op o_add (pe_op o_add (pe_op o_add (pe_op o_mul (pe_ix ix_list (pv 0) pe_int (fun _ _ => rfl)) pe_int) (pv 5)) (pe_op o_mul (pe_op o_mul pe_int (pv 3)) (pv 3))) pe_int))
    (pss_cons (ps_asg (pe_op o_mod (pe_callTy c_int rfl T.f_int b_int (pa_cons (pv 6) pa_nil)) pe_int) (pg_sub (pv 0) pe_int set_list))
    (pss_one (ps_ret (pe_op o_mod (pe_op o_mod (pe_callTy c_int rfl T.f_int b_int (pa_cons (pe_op o_add (pe_op o_pow (pe_op o_div (pe_ix ix_list (pv 0) pe_int (fun _ _ => rfl)) pe_int) pe_int) (pe_op o_div (pe_ix ix_list (pv 0) pe_int (fun _ _ => rfl)) pe_int)) pa_nil)) pe_int) (pv 1))))))))))⟩

noncomputable def der_l_of (T : Tx K mg) (hr : Room 1 (A.deeper (envOfC "_law_of" (defScope s_l_of) s.heap.objs.size (He.ga K "_law_of") cdv))) {sp_l_draw : Sp} (G_l_draw : Kp P w K mg base CX0 "_law_draw" 1 p_l_draw sp_l_draw) :
    Dv (cxOf CX0 P w K mg base N_l_of "_law_of" (defScope s_l_of) (He.ga K "_law_of") cdv A outer s H E).nox (defBody s_l_of) :=
  ⟨_, (pss_one (ps_ret (pe_ix ix_list (pv 1) (pe_cl G_l_draw (hr.mono (by decide)) (pa_cons (pv 0) (pa_cons (pe_callB c_lenQ rfl T.f_len b_len (pa_cons (pv 1) pa_nil)) pa_nil))) (fun _ _ => rfl))))⟩

noncomputable def der_l_pick (T : Tx K mg) (hr : Room 1 (A.deeper (envOfC "_law_pick" (defScope s_l_pick) s.heap.objs.size (He.ga K "_law_pick") cdv))) {sp_l_draw : Sp} (G_l_draw : Kp P w K mg base CX0 "_law_draw" 1 p_l_draw sp_l_draw) :
    Dv (cxOf CX0 P w K mg base N_l_pick "_law_pick" (defScope s_l_pick) (He.ga K "_law_pick") cdv A outer s H E).nox (defBody s_l_pick) :=
  ⟨_, (pss_cons (ps_par (i := 3) (j := 4) rfl sc_l_pick.nd rfl rfl (by decide) rfl rfl (pa_cons (pe_callTy (cr_listS rfl) rfl T.f_list b_list (pa_cons (pv 1) pa_nil)) (pa_cons (pe_lst pa_nil) pa_nil)) rfl)
    (pss_cons (ps_for PassesOwn.never rfl (pi_range1 rfl T.f_range (pa_cons (pv 2) pa_nil)) (pg_name (i := 5) sc_l_pick.nd rfl (Or.inl rfl)) (pss_one (ps_expr (pe_bm PySem.F.plainAttrs_list PySem.F.slot_list_append PySem.F.type_list_append mt_append (pv 4) (pa_cons (pe_bm PySem.F.plainAttrs_list PySem.F.slot_list_pop PySem.F.type_list_pop mt_popAt (pv 3) (pa_cons (pe_cl G_l_draw (hr.mono (by decide)) (pa_cons (pv 0) (pa_cons (pe_callB c_lenQ rfl T.f_len b_len (pa_cons (pv 3) pa_nil)) pa_nil))) pa_nil)) pa_nil)))))
    (pss_one (ps_ret (pe_joinN pe_str (pe_callB cr_sortedS rfl T.f_sorted b_sorted (pa_cons (pv 4) pa_nil)))))))⟩

noncomputable def der_l_drawn_marks (T : Tx K mg) (hr : Room 2 (A.deeper (envOfC "_law_drawn_marks" (defScope s_l_drawn_marks) s.heap.objs.size (He.ga K "_law_drawn_marks") cdv))) {sp_l_draw : Sp} (G_l_draw : Kp P w K mg base CX0 "_law_draw" 1 p_l_draw sp_l_draw) {sp_l_pick : Sp} (G_l_pick : Kp P w K mg base CX0 "_law_pick" 2 p_l_pick sp_l_pick) :
    Dv (cxOf CX0 P w K mg base N_l_drawn_marks "_law_drawn_marks" (defScope s_l_drawn_marks) (He.ga K "_law_drawn_marks") cdv A outer s H E).nox (defBody s_l_drawn_marks) :=
  ⟨_, (pss_cons (ps_set (i := 3) sc_l_drawn_marks.nd rfl (Or.inl rfl) (pe_op o_add (pv 1) (pe_cl G_l_draw (hr.mono (by decide)) (pa_cons (pv 0) (pa_cons (pe_op o_sub pe_int (pv 1)) pa_nil)))))
    (pss_cons (ps_set (i := 4) sc_l_drawn_marks.nd rfl (Or.inl rfl) (pe_callB (c_max rfl) rfl T.f_max b_max (pa_cons (pe_callTy c_int rfl T.f_int b_int (pa_cons (pe_cmpR op_eq (pv 3) pe_int (nomark _)) pa_nil)) (pa_cons (pe_cl G_l_draw (hr.mono (by decide)) (pa_cons (pv 0) (pa_cons (pe_op o_add (pe_callB (c_min rfl) rfl T.f_min b_min (pa_cons (pv 2) (pa_cons (pe_op o_sub pe_int (pv 3)) pa_nil))) pe_int) pa_nil))) pa_nil))))
    (pss_cons (ps_set (i := 5) sc_l_drawn_marks.nd rfl (Or.inl rfl) (pe_cl G_l_pick (hr.mono (by decide)) (pa_cons (pv 0) (pa_cons pe_str (pa_cons (pv 4) pa_nil)))))
    (pss_one (ps_ret (pe_op o_addT (pv 5) (pe_cl G_l_pick (hr.mono (by decide)) (pa_cons (pv 0) (pa_cons pe_str (pa_cons (pv 3) pa_nil))))))))))⟩

noncomputable def der_l_drawn_contents (T : Tx K mg) (hr : Room 1 (A.deeper (envOfC "_law_drawn_contents" (defScope s_l_drawn_contents) s.heap.objs.size (He.ga K "_law_drawn_contents") cdv))) {sp_l_draw : Sp} (G_l_draw : Kp P w K mg base CX0 "_law_draw" 1 p_l_draw sp_l_draw) :
    Dv (cxOf CX0 P w K mg base N_l_drawn_contents "_law_drawn_contents" (defScope s_l_drawn_contents) (He.ga K "_law_drawn_contents") cdv A outer s H E).nox (defBody s_l_drawn_contents) :=
  ⟨_, (pss_cons (ps_set (i := 2) sc_l_drawn_contents.nd rfl (Or.inl rfl) pe_str)
    (pss_cons (ps_for PassesOwn.never rfl (pi_str (pv 1)) (pg_name (i := 3) sc_l_drawn_contents.nd rfl (Or.inl rfl)) (pss_one (ps_set (i := 2) sc_l_drawn_contents.nd rfl (Or.inl rfl) (pe_op o_addT (pv 2) (pe_op op_mulS (pv 3) (pe_cl G_l_draw (hr.mono (by decide)) (pa_cons (pv 0) (pa_cons pe_int pa_nil))))))))
    (pss_one (ps_ret (pv 2)))))⟩

noncomputable def der_l_reserved (T : Tx K mg) (hr : Room 0 (A.deeper (envOfC "_law_reserved" (defScope s_l_reserved) s.heap.objs.size (He.ga K "_law_reserved") cdv)))  :
    Dv (cxOf CX0 P w K mg base N_l_reserved "_law_reserved" (defScope s_l_reserved) (He.ga K "_law_reserved") cdv A outer s H E).nox (defBody s_l_reserved) :=
  ⟨_, (pss_cons (ps_set (i := 0) sc_l_reserved.nd rfl (Or.inl rfl) (pe_lst (pa_cons pe_str (pa_cons pe_str (pa_cons pe_str (pa_cons pe_str (pa_cons pe_str (pa_cons pe_str (pa_cons pe_str (pa_cons pe_str (pa_cons pe_str (pa_cons pe_str (pa_cons pe_str (pa_cons pe_str pa_nil))))))))))))))
    (pss_one (ps_ret (pe_op op_cat (pv 0) (pe_lst (pa_cons pe_str (pa_cons pe_str (pa_cons pe_str (pa_cons pe_str (pa_cons pe_str pa_nil))))))))))⟩
end
end K27

set_option maxRecDepth 100000
set_option maxHeartbeats 8000000
namespace K27
open PySem PySem.Spec PyProof.Rows L2
section
variable {P : Program} {w : World} {K : PySem.W.Frag} {mg : PySem.Str → Option Value} {base : Heap} {cdv : Value} {A : Around} {outer : List Env} {s : Shared} {H : Hp} {E : XK}
noncomputable def der_l_one_word (T : Tx K mg) (hr : Room 2 (A.deeper (envOfC "_law_one_word" (defScope s_l_one_word) s.heap.objs.size (He.ga K "_law_one_word") cdv))) {sp_l_draw : Sp} (G_l_draw : Kp P w K mg base CX0 "_law_draw" 1 p_l_draw sp_l_draw) {sp_l_of : Sp} (G_l_of : Kp P w K mg base CX0 "_law_of" 2 p_l_of sp_l_of) {sp_l_reserved : Sp} (G_l_reserved : Kp P w K mg base CX0 "_law_reserved" 1 p_l_reserved sp_l_reserved) :
    Dv (cxOf CX0 P w K mg base N_l_one_word "_law_one_word" (defScope s_l_one_word) (He.ga K "_law_one_word") cdv A outer s H E).nox (defBody s_l_one_word) :=
  ⟨_, (pss_cons (ps_par3 (i := 4) (j := 5) (l := 6) rfl sc_l_one_word.nd rfl rfl rfl (by decide) (by decide) (by decide) rfl rfl rfl (pa_cons pe_str (pa_cons (pe_cl G_l_draw (hr.mono (by decide)) (pa_cons (pv 0) (pa_cons pe_int pa_nil))) (pa_cons pe_str pa_nil))) rfl)
    (pss_cons (ps_if (PW.pt (pw_and (pt_cmpR op_eq (pv 5) pe_int (nomark _)) (pw_and1 (pt_cmpR (op_neD (hu64 hr)) (pv 1) (pe_lst pa_nil) (nomark _))))) (pss_cons (ps_set (i := 6) sc_l_one_word.nd rfl (Or.inl rfl) (pe_cl G_l_of (hr.mono (by decide)) (pa_cons (pv 0) (pa_cons (pv 1) pa_nil))))
    (pss_cons (ps_set (i := 7) sc_l_one_word.nd rfl (Or.inl rfl) (pe_cl G_l_draw (hr.mono (by decide)) (pa_cons (pv 0) (pa_cons (pe_callB c_lenT rfl T.f_len b_len (pa_cons (pv 6) pa_nil)) pa_nil))))
    (pss_one (ps_set (i := 6) sc_l_one_word.nd rfl (Or.inl rfl) (pe_op o_addT (pe_op o_addT (pe_slice sl_str (pv 6) po_none (po_some (pv 7))) (pe_ix ix_str (pv 4) (pe_cl G_l_draw (hr.mono (by decide)) (pa_cons (pv 0) (pa_cons pe_int pa_nil))) (fun _ _ => rfl))) (pe_slice sl_str (pv 6) (po_some (pe_op o_add (pv 7) pe_int)) po_none)))))) (pss_one (ps_if (pt_cmpR op_eq (pv 5) pe_int (nomark _)) (pss_one (ps_set (i := 6) sc_l_one_word.nd rfl (Or.inl rfl) (pe_lowerN (pe_cl G_l_of (hr.mono (by decide)) (pa_cons (pv 0) (pa_cons (pe_callTy (cr_listS rfl) rfl T.f_list b_list (pa_cons (pv 2) pa_nil)) pa_nil)))))) (pss_one (ps_for PassesOwn.never rfl (pi_range1 rfl T.f_range (pa_cons (pe_op o_add pe_int (pe_cl G_l_draw (hr.mono (by decide)) (pa_cons (pv 0) (pa_cons (pv 3) pa_nil)))) pa_nil)) (pg_name (i := 8) sc_l_one_word.nd rfl (Or.inl rfl)) (pss_one (ps_set (i := 6) sc_l_one_word.nd rfl (Or.inl rfl) (pe_op o_addT (pv 6) (pe_ix ix_str (pv 4) (pe_cl G_l_draw (hr.mono (by decide)) (pa_cons (pv 0) (pa_cons pe_int pa_nil))) (fun _ _ => rfl))))))))))
    (pss_cons (ps_while PassesOwn.never (PW.pt (pw_or (pt_cmpR (o_inQ K) (pv 6) (pv 1) rfl) (pw_or1 (pt_cmpR (o_inQ K) (pv 6) (pe_cl0 G_l_reserved (hr.mono (by decide))) rfl)))) (pss_one (ps_set (i := 6) sc_l_one_word.nd rfl (Or.inl rfl) (pe_op o_addT (pe_slice sl_str (pv 6) po_none (po_some (pe_un un_neg pe_int))) (pe_ix ix_str (pv 4) (pe_op o_mod (pe_callTy c_int rfl T.f_int b_int (pa_cons (pe_op o_add (pe_findN (pv 4) (pe_ix ix_str (pv 6) (pe_un un_neg pe_int) (fun _ _ => rfl))) pe_int) pa_nil)) pe_int) (fun _ _ => rfl))))))
    (pss_one (ps_ret (pv 6))))))⟩

noncomputable def der_l_drawn_words (T : Tx K mg) (hr : Room 3 (A.deeper (envOfC "_law_drawn_words" (defScope s_l_drawn_words) s.heap.objs.size (He.ga K "_law_drawn_words") cdv))) {sp_l_one_word : Sp} (G_l_one_word : Kp P w K mg base CX0 "_law_one_word" 3 p_l_one_word sp_l_one_word) :
    Dv (cxOf CX0 P w K mg base N_l_drawn_words "_law_drawn_words" (defScope s_l_drawn_words) (He.ga K "_law_drawn_words") cdv A outer s H E).nox (defBody s_l_drawn_words) :=
  ⟨_, (pss_cons (ps_set (i := 5) sc_l_drawn_words.nd rfl (Or.inl rfl) (pe_lst pa_nil))
    (pss_cons (ps_for PassesOwn.never rfl (pi_range1 rfl T.f_range (pa_cons (pv 3) pa_nil)) (pg_name (i := 6) sc_l_drawn_words.nd rfl (Or.inl rfl)) (pss_one (ps_expr (pe_bm PySem.F.plainAttrs_list PySem.F.slot_list_append PySem.F.type_list_append mt_append (pv 5) (pa_cons (pe_cl G_l_one_word (hr.mono (by decide)) (pa_cons (pv 0) (pa_cons (pe_op op_cat (pv 1) (pv 5)) (pa_cons (pv 2) (pa_cons (pv 4) pa_nil))))) pa_nil)))))
    (pss_one (ps_ret (pv 5)))))⟩

noncomputable def der_l_term (T : Tx K mg) (hr : Room 2 (A.deeper (envOfC "_law_term" (defScope s_l_term) s.heap.objs.size (He.ga K "_law_term") cdv))) {sp_l_draw : Sp} (G_l_draw : Kp P w K mg base CX0 "_law_draw" 1 p_l_draw sp_l_draw) {sp_l_of : Sp} (G_l_of : Kp P w K mg base CX0 "_law_of" 2 p_l_of sp_l_of) {sp_l_drawn_contents : Sp} (G_l_drawn_contents : Kp P w K mg base CX0 "_law_drawn_contents" 2 p_l_drawn_contents sp_l_drawn_contents) :
    Dv (cxOf CX0 P w K mg base N_l_term "_law_term" (defScope s_l_term) (He.ga K "_law_term") cdv A outer s H E).nox (defBody s_l_term) :=
  ⟨_, (pss_cons (ps_if (PW.pt (pw_and (pt_cmpR (op_neD (hu64 hr)) (pv 1) (pe_lst pa_nil) (nomark _)) (pw_and1 (pt_cmpR o_gt (pe_cl G_l_draw (hr.mono (by decide)) (pa_cons (pv 0) (pa_cons pe_int pa_nil))) pe_int (nomark _))))) (pss_one (ps_ret (pe_cl G_l_of (hr.mono (by decide)) (pa_cons (pv 0) (pa_cons (pv 1) pa_nil))))) pss_nil)
    (pss_one (ps_ret (pe_op o_addT (pe_op o_addT pe_str (pe_cl G_l_drawn_contents (hr.mono (by decide)) (pa_cons (pv 0) (pa_cons (pv 2) pa_nil)))) pe_str))))⟩

noncomputable def der_l_sum (T : Tx K mg) (hr : Room 3 (A.deeper (envOfC "_law_sum" (defScope s_l_sum) s.heap.objs.size (He.ga K "_law_sum") cdv))) {sp_l_of : Sp} (G_l_of : Kp P w K mg base CX0 "_law_of" 2 p_l_of sp_l_of) {sp_l_term : Sp} (G_l_term : Kp P w K mg base CX0 "_law_term" 3 p_l_term sp_l_term) :
    Dv (cxOf CX0 P w K mg base N_l_sum "_law_sum" (defScope s_l_sum) (He.ga K "_law_sum") cdv A outer s H E).nox (defBody s_l_sum) :=
  ⟨_, (pss_cons (ps_set (i := 3) sc_l_sum.nd rfl (Or.inl rfl) (pe_cl G_l_of (hr.mono (by decide)) (pa_cons (pv 0) (pa_cons (pe_lst (pa_cons pe_str (pa_cons pe_str (pa_cons pe_str (pa_cons pe_str pa_nil))))) pa_nil))))
    (pss_one (ps_ret (pe_op o_addT (pe_op o_addT (pe_cl G_l_term (hr.mono (by decide)) (pa_cons (pv 0) (pa_cons (pv 1) (pa_cons (pv 2) pa_nil)))) (pv 3)) (pe_cl G_l_term (hr.mono (by decide)) (pa_cons (pv 0) (pa_cons (pv 1) (pa_cons (pv 2) pa_nil))))))))⟩

noncomputable def der_l_binding (T : Tx K mg) (hr : Room 4 (A.deeper (envOfC "_law_binding" (defScope s_l_binding) s.heap.objs.size (He.ga K "_law_binding") cdv))) {sp_l_draw : Sp} (G_l_draw : Kp P w K mg base CX0 "_law_draw" 1 p_l_draw sp_l_draw) {sp_l_sum : Sp} (G_l_sum : Kp P w K mg base CX0 "_law_sum" 4 p_l_sum sp_l_sum) {sp_l_term : Sp} (G_l_term : Kp P w K mg base CX0 "_law_term" 3 p_l_term sp_l_term) :
    Dv (cxOf CX0 P w K mg base N_l_binding "_law_binding" (defScope s_l_binding) (He.ga K "_law_binding") cdv A outer s H E).nox (defBody s_l_binding) :=
  ⟨_, (pss_cons (ps_if (pt_cmpR op_eq (pe_cl G_l_draw (hr.mono (by decide)) (pa_cons (pv 0) (pa_cons pe_int pa_nil))) pe_int (nomark _)) (pss_one (ps_ret (pe_op o_addT (pe_op o_addT (pv 1) pe_str) (pe_cl G_l_sum (hr.mono (by decide)) (pa_cons (pv 0) (pa_cons (pv 2) (pa_cons (pv 3) pa_nil))))))) pss_nil)
    (pss_one (ps_ret (pe_op o_addT (pe_op o_addT (pv 1) pe_str) (pe_cl G_l_term (hr.mono (by decide)) (pa_cons (pv 0) (pa_cons (pv 2) (pa_cons (pv 3) pa_nil))))))))⟩

noncomputable def der_l_plain_row (T : Tx K mg) (hr : Room 5 (A.deeper (envOfC "_law_plain_row" (defScope s_l_plain_row) s.heap.objs.size (He.ga K "_law_plain_row") cdv))) {sp_l_of : Sp} (G_l_of : Kp P w K mg base CX0 "_law_of" 2 p_l_of sp_l_of) {sp_l_draw : Sp} (G_l_draw : Kp P w K mg base CX0 "_law_draw" 1 p_l_draw sp_l_draw) {sp_l_binding : Sp} (G_l_binding : Kp P w K mg base CX0 "_law_binding" 5 p_l_binding sp_l_binding) {sp_l_term : Sp} (G_l_term : Kp P w K mg base CX0 "_law_term" 3 p_l_term sp_l_term) :
    Dv (cxOf CX0 P w K mg base N_l_plain_row "_law_plain_row" (defScope s_l_plain_row) (He.ga K "_law_plain_row") cdv A outer s H E).nox (defBody s_l_plain_row) :=
  ⟨_, (pss_cons (ps_set (i := 3) sc_l_plain_row.nd rfl (Or.inl rfl) (pe_cl G_l_of (hr.mono (by decide)) (pa_cons (pv 0) (pa_cons (pv 1) pa_nil))))
    (pss_cons (ps_if (pt_cmpR op_eq (pe_cl G_l_draw (hr.mono (by decide)) (pa_cons (pv 0) (pa_cons pe_int pa_nil))) pe_int (nomark _)) (pss_one (ps_ret (pe_cl G_l_binding (hr.mono (by decide)) (pa_cons (pv 0) (pa_cons (pv 3) (pa_cons (pv 1) (pa_cons (pv 2) pa_nil))))))) pss_nil)
    (pss_one (ps_ret (pe_op o_addT (pe_op o_addT (pv 3) (pe_cl G_l_of (hr.mono (by decide)) (pa_cons (pv 0) (pa_cons (pe_lst (pa_cons pe_str (pa_cons pe_str (pa_cons pe_str (pa_cons pe_str (pa_cons pe_str pa_nil)))))) pa_nil)))) (pe_cl G_l_term (hr.mono (by decide)) (pa_cons (pv 0) (pa_cons (pv 1) (pa_cons (pv 2) pa_nil)))))))))⟩

noncomputable def der_l_plains (T : Tx K mg) (hr : Room 6 (A.deeper (envOfC "_law_plains" (defScope s_l_plains) s.heap.objs.size (He.ga K "_law_plains") cdv))) {sp_l_draw : Sp} (G_l_draw : Kp P w K mg base CX0 "_law_draw" 1 p_l_draw sp_l_draw) {sp_l_binding : Sp} (G_l_binding : Kp P w K mg base CX0 "_law_binding" 5 p_l_binding sp_l_binding) {sp_l_plain_row : Sp} (G_l_plain_row : Kp P w K mg base CX0 "_law_plain_row" 6 p_l_plain_row sp_l_plain_row) :
    Dv (cxOf CX0 P w K mg base N_l_plains "_law_plains" (defScope s_l_plains) (He.ga K "_law_plains") cdv A outer s H E).nox (defBody s_l_plains) :=
  ⟨_, (pss_cons (ps_par3 (i := 5) (j := 1) (l := 6) rfl sc_l_plains.nd rfl rfl rfl (by decide) (by decide) (by decide) rfl rfl rfl (pa_cons (pe_lst pa_nil) (pa_cons (pe_callTy c_listQ rfl T.f_list b_list (pa_cons (pv 1) pa_nil)) (pa_cons (pe_callTy c_listQ rfl T.f_list b_list (pa_cons (pv 2) pa_nil)) pa_nil))) rfl)
    (pss_cons (ps_set (i := 7) sc_l_plains.nd rfl (Or.inl rfl) (pe_cl G_l_draw (hr.mono (by decide)) (pa_cons (pv 0) (pa_cons (pe_op o_add (pe_op o_sub (pv 3) (pe_callB c_lenQ rfl T.f_len b_len (pa_cons (pv 2) pa_nil))) pe_int) pa_nil))))
    (pss_cons (ps_for PassesOwn.never rfl (pi_range1 rfl T.f_range (pa_cons (pv 3) pa_nil)) (pg_name (i := 8) sc_l_plains.nd rfl (Or.inl rfl)) (pss_one (ps_if (PW.pt (pw_and (pt_cmpR (op_neD (hu64 hr)) (pv 6) (pe_lst pa_nil) (nomark _)) (pw_and1 (PW.pt (pw_or (pt_cmpR (op_eqD (hu64 hr)) (pv 1) (pe_lst pa_nil) (nomark _)) (pw_or (pt_cmpR op_eq (pv 7) pe_int (nomark _)) (pw_or1 (pt_cmpR op_eq (pe_cl G_l_draw (hr.mono (by decide)) (pa_cons (pv 0) (pa_cons pe_int pa_nil))) pe_int (nomark _))))))))) (pss_cons (ps_set (i := 9) sc_l_plains.nd rfl (Or.inl rfl) (pe_cl G_l_binding (hr.mono (by decide)) (pa_cons (pv 0) (pa_cons (pe_ix ix_list (pv 6) pe_int (fun _ _ => rfl)) (pa_cons (pv 1) (pa_cons (pv 4) pa_nil))))))
    (pss_cons (ps_expr (pe_bm PySem.F.plainAttrs_list PySem.F.slot_list_append PySem.F.type_list_append mt_append (pv 1) (pa_cons (pe_bm PySem.F.plainAttrs_list PySem.F.slot_list_pop PySem.F.type_list_pop mt_popAt (pv 6) (pa_cons pe_int pa_nil)) pa_nil)))
    (pss_one (ps_expr (pe_bm PySem.F.plainAttrs_list PySem.F.slot_list_append PySem.F.type_list_append mt_append (pv 5) (pa_cons (pv 9) pa_nil)))))) (pss_one (ps_if (PW.pt (pw_and (pt_cmpR o_gt (pv 7) pe_int (nomark _)) (pw_and1 (pt_cmpR (op_neD (hu64 hr)) (pv 1) (pe_lst pa_nil) (nomark _))))) (pss_cons (ps_expr (pe_bm PySem.F.plainAttrs_list PySem.F.slot_list_append PySem.F.type_list_append mt_append (pv 5) (pa_cons (pe_cl G_l_plain_row (hr.mono (by decide)) (pa_cons (pv 0) (pa_cons (pv 1) (pa_cons (pv 4) pa_nil)))) pa_nil)))
    (pss_one (ps_set (i := 7) sc_l_plains.nd rfl (Or.inl rfl) (pe_op o_sub (pv 7) pe_int)))) pss_nil)))))
    (pss_one (ps_ret (pv 5))))))⟩
end
end K27

set_option maxRecDepth 100000
set_option maxHeartbeats 8000000
namespace K27
open PySem PySem.Spec PyProof.Rows L2
section
variable {P : Program} {w : World} {K : PySem.W.Frag} {mg : PySem.Str → Option Value} {base : Heap} {cdv : Value} {A : Around} {outer : List Env} {s : Shared} {H : Hp} {E : XK}
noncomputable def der_l_test (T : Tx K mg) (hr : Room 3 (A.deeper (envOfC "_law_test" (defScope s_l_test) s.heap.objs.size (He.ga K "_law_test") cdv))) {sp_l_of : Sp} (G_l_of : Kp P w K mg base CX0 "_law_of" 2 p_l_of sp_l_of) {sp_l_draw : Sp} (G_l_draw : Kp P w K mg base CX0 "_law_draw" 1 p_l_draw sp_l_draw) {sp_l_term : Sp} (G_l_term : Kp P w K mg base CX0 "_law_term" 3 p_l_term sp_l_term) :
    Dv (cxOf CX0 P w K mg base N_l_test "_law_test" (defScope s_l_test) (He.ga K "_law_test") cdv A outer s H E).nox (defBody s_l_test) :=
  ⟨_, (pss_cons (ps_set (i := 3) sc_l_test.nd rfl (Or.inl rfl) (pe_cl G_l_of (hr.mono (by decide)) (pa_cons (pv 0) (pa_cons (pe_lst (pa_cons pe_str (pa_cons pe_str (pa_cons pe_str pa_nil)))) pa_nil))))
    (pss_cons (ps_set (i := 4) sc_l_test.nd rfl (Or.inl rfl) (pe_cl G_l_draw (hr.mono (by decide)) (pa_cons (pv 0) (pa_cons pe_int pa_nil))))
    (pss_cons (ps_if (pt_cmpR op_eq (pv 4) pe_int (nomark _)) (pss_one (ps_ret (pe_op o_addT (pe_op o_addT (pe_op o_addT (pv 3) (pe_cl G_l_of (hr.mono (by decide)) (pa_cons (pv 0) (pa_cons (pv 1) pa_nil)))) pe_str) (pe_cl G_l_of (hr.mono (by decide)) (pa_cons (pv 0) (pa_cons (pv 1) pa_nil)))))) pss_nil)
    (pss_cons (ps_if (pt_cmpR op_eq (pv 4) pe_int (nomark _)) (pss_one (ps_ret (pe_op o_addT (pe_op o_addT (pe_op o_addT (pv 3) (pe_cl G_l_term (hr.mono (by decide)) (pa_cons (pv 0) (pa_cons (pv 1) (pa_cons (pv 2) pa_nil))))) pe_str) (pe_cl G_l_term (hr.mono (by decide)) (pa_cons (pv 0) (pa_cons (pv 1) (pa_cons (pv 2) pa_nil))))))) pss_nil)
    (pss_cons (ps_if (pt_cmpR op_eq (pv 4) pe_int (nomark _)) (pss_one (ps_ret (pe_op o_addT (pe_op o_addT (pe_op o_addT (pv 3) (pe_cl G_l_term (hr.mono (by decide)) (pa_cons (pv 0) (pa_cons (pv 1) (pa_cons (pv 2) pa_nil))))) pe_str) (pe_cl G_l_term (hr.mono (by decide)) (pa_cons (pv 0) (pa_cons (pv 1) (pa_cons (pv 2) pa_nil))))))) pss_nil)
    (pss_one (ps_ret (pe_op o_addT (pe_op o_addT (pe_op o_addT (pv 3) (pe_cl G_l_of (hr.mono (by decide)) (pa_cons (pv 0) (pa_cons (pe_callTy (cr_listS rfl) rfl T.f_list b_list (pa_cons (pv 2) pa_nil)) pa_nil)))) pe_str) (pe_cl G_l_term (hr.mono (by decide)) (pa_cons (pv 0) (pa_cons (pv 1) (pa_cons (pv 2) pa_nil))))))))))))⟩

noncomputable def der_l_last (T : Tx K mg) (hr : Room 3 (A.deeper (envOfC "_law_last" (defScope s_l_last) s.heap.objs.size (He.ga K "_law_last") cdv))) {sp_l_draw : Sp} (G_l_draw : Kp P w K mg base CX0 "_law_draw" 1 p_l_draw sp_l_draw) {sp_l_term : Sp} (G_l_term : Kp P w K mg base CX0 "_law_term" 3 p_l_term sp_l_term) :
    Dv (cxOf CX0 P w K mg base N_l_last "_law_last" (defScope s_l_last) (He.ga K "_law_last") cdv A outer s H E).nox (defBody s_l_last) :=
  ⟨_, (pss_cons (ps_set (i := 3) sc_l_last.nd rfl (Or.inl rfl) (pe_cl G_l_draw (hr.mono (by decide)) (pa_cons (pv 0) (pa_cons pe_int pa_nil))))
    (pss_cons (ps_if (pt_cmpR op_eq (pv 3) pe_int (nomark _)) (pss_one (ps_ret pe_str)) pss_nil)
    (pss_cons (ps_set (i := 4) sc_l_last.nd rfl (Or.inl rfl) (pe_op o_addT pe_str (pe_cl G_l_term (hr.mono (by decide)) (pa_cons (pv 0) (pa_cons (pv 1) (pa_cons (pv 2) pa_nil))))))
    (pss_one (ps_ret (pe_ifExp (pt_cmpR op_eq (pv 3) pe_int (nomark _)) (pv 4) (pe_op o_addT (pe_op o_addT (pv 4) pe_str) (pe_cl G_l_term (hr.mono (by decide)) (pa_cons (pv 0) (pa_cons (pv 1) (pa_cons (pv 2) pa_nil)))))))))))⟩

noncomputable def der_l_work (T : Tx K mg) (hr : Room 6 (A.deeper (envOfC "_law_work" (defScope s_l_work) s.heap.objs.size (He.ga K "_law_work") cdv))) {sp_l_draw : Sp} (G_l_draw : Kp P w K mg base CX0 "_law_draw" 1 p_l_draw sp_l_draw) {sp_l_test : Sp} (G_l_test : Kp P w K mg base CX0 "_law_test" 4 p_l_test sp_l_test) {sp_l_last : Sp} (G_l_last : Kp P w K mg base CX0 "_law_last" 4 p_l_last sp_l_last) {sp_l_plain_row : Sp} (G_l_plain_row : Kp P w K mg base CX0 "_law_plain_row" 6 p_l_plain_row sp_l_plain_row) :
    Dv (cxOf CX0 P w K mg base N_l_work "_law_work" (defScope s_l_work) (He.ga K "_law_work") cdv A outer s H E).nox (defBody s_l_work) :=
  ⟨_, (pss_cons (ps_par3 (i := 5) (j := 6) (l := 7) rfl sc_l_work.nd rfl rfl rfl (by decide) (by decide) (by decide) rfl rfl rfl (pa_cons (pe_lst pa_nil) (pa_cons (pe_lst pa_nil) (pa_cons (pe_cl G_l_draw (hr.mono (by decide)) (pa_cons (pv 0) (pa_cons (pe_op o_add (pv 3) pe_int) pa_nil))) pa_nil))) rfl)
    (pss_cons (ps_for PassesOwn.never rfl (pi_range1 rfl T.f_range (pa_cons (pv 7) pa_nil)) (pg_name (i := 8) sc_l_work.nd rfl (Or.inl rfl)) (pss_cons (ps_par (i := 9) (j := 10) rfl sc_l_work.nd rfl rfl (by decide) rfl rfl (pa_cons (pe_op o_sub (pv 7) (pv 8)) (pa_cons (pe_cl G_l_draw (hr.mono (by decide)) (pa_cons (pv 0) (pa_cons pe_int pa_nil))) pa_nil)) rfl)
    (pss_one (ps_if (PW.pt (pw_or (pt_cmpR o_le (pv 9) (pe_callB c_lenQ rfl T.f_len b_len (pa_cons (pv 6) pa_nil)) (nomark _)) (pw_or1 (PW.pt (pw_and (pt_cmpR op_eq (pv 10) pe_int (nomark _)) (pw_and1 (pt_cmpR (op_neD (hu64 hr)) (pv 6) (pe_lst pa_nil) (nomark _)))))))) (pss_cons (ps_expr (pe_bm PySem.F.plainAttrs_list PySem.F.slot_list_append PySem.F.type_list_append mt_append (pv 5) (pa_cons pe_str pa_nil)))
    (pss_one (ps_expr (pe_bm0 PySem.F.plainAttrs_list PySem.F.slot_list_pop PySem.F.type_list_pop mt_pop (pv 6))))) (pss_one (ps_if (PW.pt (pw_and (pt_cmpR o_lt (pv 10) pe_int (nomark _)) (pw_and1 (pt_cmpR o_gt (pv 9) (pe_op o_add (pe_callB c_lenQ rfl T.f_len b_len (pa_cons (pv 6) pa_nil)) pe_int) (nomark _))))) (pss_cons (ps_expr (pe_bm PySem.F.plainAttrs_list PySem.F.slot_list_append PySem.F.type_list_append mt_append (pv 5) (pa_cons (pe_cl G_l_test (hr.mono (by decide)) (pa_cons (pv 0) (pa_cons (pv 1) (pa_cons (pv 2) pa_nil)))) pa_nil)))
    (pss_one (ps_expr (pe_bm PySem.F.plainAttrs_list PySem.F.slot_list_append PySem.F.type_list_append mt_append (pv 6) (pa_cons pe_bl pa_nil))))) (pss_one (ps_if (PW.pt (pw_and (pt_cmpR op_eq (pv 10) pe_int (nomark _)) (pw_and (pt_cmpR (op_neD (hu64 hr)) (pv 6) (pe_lst pa_nil) (nomark _)) (pw_and1 (pt_not (pt_val (pe_ix ix_list (pv 6) (pe_un un_neg pe_int) (fun _ _ => rfl)))))))) (pss_cons (ps_expr (pe_bm PySem.F.plainAttrs_list PySem.F.slot_list_append PySem.F.type_list_append mt_append (pv 5) (pa_cons pe_str pa_nil)))
    (pss_one (ps_asg pe_bl (pg_sub (pv 6) (pe_un un_neg pe_int) set_list)))) (pss_one (ps_if (PW.pt (pw_and (pt_cmpR op_eq (pv 10) pe_int (nomark _)) (pw_and (pt_cmpR o_gt (pv 4) pe_int (nomark _)) (pw_and1 (PW.pt (pw_or (pt_cmpR (op_neD (hu64 hr)) (pv 6) (pe_lst pa_nil) (nomark _)) (pw_or1 (pt_cmpR op_eq (pv 9) pe_int (nomark _))))))))) (pss_one (ps_expr (pe_bm PySem.F.plainAttrs_list PySem.F.slot_list_append PySem.F.type_list_append mt_append (pv 5) (pa_cons (pe_cl G_l_last (hr.mono (by decide)) (pa_cons (pv 0) (pa_cons (pv 1) (pa_cons (pv 2) pa_nil)))) pa_nil)))) (pss_one (ps_expr (pe_bm PySem.F.plainAttrs_list PySem.F.slot_list_append PySem.F.type_list_append mt_append (pv 5) (pa_cons (pe_cl G_l_plain_row (hr.mono (by decide)) (pa_cons (pv 0) (pa_cons (pv 1) (pa_cons (pv 2) pa_nil)))) pa_nil))))))))))))))
    (pss_one (ps_ret (pv 5)))))⟩

noncomputable def der_l_drawn_parts (T : Tx K mg) (hr : Room 7 (A.deeper (envOfC "_law_drawn_parts" (defScope s_l_drawn_parts) s.heap.objs.size (He.ga K "_law_drawn_parts") cdv))) {sp_l_drawn_words : Sp} (G_l_drawn_words : Kp P w K mg base CX0 "_law_drawn_words" 4 p_l_drawn_words sp_l_drawn_words) {sp_l_draw : Sp} (G_l_draw : Kp P w K mg base CX0 "_law_draw" 1 p_l_draw sp_l_draw) {sp_l_plains : Sp} (G_l_plains : Kp P w K mg base CX0 "_law_plains" 7 p_l_plains sp_l_plains) {sp_l_work : Sp} (G_l_work : Kp P w K mg base CX0 "_law_work" 7 p_l_work sp_l_work) :
    Dv (cxOf CX0 P w K mg base N_l_drawn_parts "_law_drawn_parts" (defScope s_l_drawn_parts) (He.ga K "_law_drawn_parts") cdv A outer s H E).nox (defBody s_l_drawn_parts) :=
  ⟨_, (pss_cons (ps_set (i := 3) sc_l_drawn_parts.nd rfl (Or.inl rfl) (pe_cl G_l_drawn_words (hr.mono (by decide)) (pa_cons (pv 0) (pa_cons (pe_lst pa_nil) (pa_cons (pv 1) (pa_cons (pe_cl G_l_draw (hr.mono (by decide)) (pa_cons (pv 0) (pa_cons (pe_op o_add (pe_ix ix_tup (pv 2) pe_int (fun _ _ => rfl)) pe_int) pa_nil))) (pa_cons (pe_ix ix_tup (pv 2) pe_int (fun _ _ => rfl)) pa_nil)))))))
    (pss_cons (ps_set (i := 4) sc_l_drawn_parts.nd rfl (Or.inl rfl) (pe_cl G_l_drawn_words (hr.mono (by decide)) (pa_cons (pv 0) (pa_cons (pv 3) (pa_cons (pv 1) (pa_cons (pe_cl G_l_draw (hr.mono (by decide)) (pa_cons (pv 0) (pa_cons (pe_op o_add (pe_callB (call_min3Nu rfl) rfl T.f_min b_min (pa_cons (pe_ix ix_tup (pv 2) pe_int (fun _ _ => rfl)) (pa_cons (pe_op o_sub pe_int (pe_callB c_lenQ rfl T.f_len b_len (pa_cons (pv 3) pa_nil))) (pa_cons pe_int pa_nil)))) pe_int) pa_nil))) (pa_cons (pe_ix ix_tup (pv 2) pe_int (fun _ _ => rfl)) pa_nil)))))))
    (pss_cons (ps_set (i := 5) sc_l_drawn_parts.nd rfl (Or.inl rfl) (pe_cl G_l_plains (hr.mono (by decide)) (pa_cons (pv 0) (pa_cons (pe_lst pa_nil) (pa_cons (pv 3) (pa_cons (pe_callB (c_max rfl) rfl T.f_max b_max (pa_cons (pe_ix ix_tup (pv 2) pe_int (fun _ _ => rfl)) (pa_cons (pe_callB c_lenQ rfl T.f_len b_len (pa_cons (pv 3) pa_nil)) pa_nil))) (pa_cons (pv 1) pa_nil)))))))
    (pss_cons (ps_set (i := 6) sc_l_drawn_parts.nd rfl (Or.inl rfl) (pe_cl G_l_plains (hr.mono (by decide)) (pa_cons (pv 0) (pa_cons (pv 3) (pa_cons (pv 4) (pa_cons (pe_callB (c_max rfl) rfl T.f_max b_max (pa_cons (pe_ix ix_tup (pv 2) pe_int (fun _ _ => rfl)) (pa_cons (pe_callB c_lenQ rfl T.f_len b_len (pa_cons (pv 4) pa_nil)) pa_nil))) (pa_cons (pv 1) pa_nil)))))))
    (pss_cons (ps_set (i := 7) sc_l_drawn_parts.nd rfl (Or.inl rfl) (pe_cl G_l_work (hr.mono (by decide)) (pa_cons (pv 0) (pa_cons (pe_op op_cat (pv 3) (pe_lst (pa_cons pe_str (pa_cons pe_str pa_nil)))) (pa_cons (pv 1) (pa_cons (pe_ix ix_tup (pv 2) pe_int (fun _ _ => rfl)) (pa_cons (pe_ix ix_tup (pv 2) pe_int (fun _ _ => rfl)) pa_nil)))))))
    (pss_one (ps_ret (pe_tup (pa_cons (pv 1) (pa_cons (pv 5) (pa_cons (pv 6) (pa_cons (pv 7) (pa_cons (pe_callB cr_sortedS rfl T.f_sorted b_sorted (pa_cons (pv 3) pa_nil)) (pa_cons (pe_callB cr_sortedS rfl T.f_sorted b_sorted (pa_cons (pv 4) pa_nil)) pa_nil))))))))))))))⟩

noncomputable def der_l_is_word (T : Tx K mg) (hr : Room 1 (A.deeper (envOfC "_law_is_word" (defScope s_l_is_word) s.heap.objs.size (He.ga K "_law_is_word") cdv))) {sp_l_reserved : Sp} (G_l_reserved : Kp P w K mg base CX0 "_law_reserved" 1 p_l_reserved sp_l_reserved) :
    Dv (cxOf CX0 P w K mg base N_l_is_word "_law_is_word" (defScope s_l_is_word) (He.ga K "_law_is_word") cdv A outer s H E).nox (defBody s_l_is_word) :=
  ⟨_, (pss_cons (ps_set (i := 1) sc_l_is_word.nd rfl (Or.inr rfl) pe_str)
    (pss_one (ps_ret (pe_and (pe_chain o_le o_le pe_int (pe_callB c_lenT rfl T.f_len b_len (pa_cons (pv 0) pa_nil)) pe_int) (pe_and (pe_cmpR (o_niQ K) (pv 0) (pe_cl0 G_l_reserved (hr.mono (by decide))) rfl) (pe_one (pe_callB (cr_all rfl) rfl T.f_all b_all (pa_cons (pe_lc (own := [("_law_letter", 2)]) (g := gName 2) (tt := tYes) rfl sc_l_is_word.nd (pi_str (pv 0)) (blkOk_by (N := N_l_is_word) (sc := defScope s_l_is_word) (by decide +kernel)) (fun _ _ _ _ _ => pg_name (i := 2) sc_l_is_word.nd rfl (Or.inl rfl)) (fun _ _ _ _ _ => pts_nil) (fun _ _ _ _ _ => (pe_cmpR o_inC (pv 2) (pv 1) rfl))) pa_nil))))))))⟩
end
end K27

set_option maxRecDepth 100000
set_option maxHeartbeats 8000000
namespace K27
open PySem PySem.Spec PyProof.Rows L2
section
variable {P : Program} {w : World} {K : PySem.W.Frag} {mg : PySem.Str → Option Value} {base : Heap} {cdv : Value} {A : Around} {outer : List Env} {s : Shared} {H : Hp} {E : XK}
noncomputable def der_l_reads (T : Tx K mg) (hr : Room 0 (A.deeper (envOfC "_law_reads" (defScope s_l_reads) s.heap.objs.size (He.ga K "_law_reads") cdv)))  :
    Dv (cxOf CX0 P w K mg base N_l_reads "_law_reads" (defScope s_l_reads) (He.ga K "_law_reads") cdv A outer s H E).nox (defBody s_l_reads) :=
  ⟨_, (pss_cons (ps_if (pt_cmpR (o_inQ K) (pv 0) (pv 1) rfl) (pss_one (ps_ret pe_bl)) pss_nil)
    (pss_cons (ps_if (PW.pt (pw_or (pt_cmpR o_lt (pe_callB c_lenT rfl T.f_len b_len (pa_cons (pv 0) pa_nil)) pe_int (nomark _)) (pw_or (pt_cmpR op_ne (pe_ix ix_str (pv 0) pe_int (fun _ _ => rfl)) pe_str (nomark _)) (pw_or1 (pt_cmpR op_ne (pe_ix ix_str (pv 0) (pe_un un_neg pe_int) (fun _ _ => rfl)) pe_str (nomark _)))))) (pss_one (ps_ret pe_bl)) pss_nil)
    (pss_cons (ps_set (i := 3) sc_l_reads.nd rfl (Or.inl rfl) (pe_slice sl_str (pv 0) (po_some pe_int) (po_some (pe_un un_neg pe_int))))
    (pss_one (ps_ret (pe_and (pe_callB (cr_all rfl) rfl T.f_all b_all (pa_cons (pe_lc (own := [("_law_mark", 4)]) (g := gName 4) (tt := tYes) rfl sc_l_reads.nd (pi_str (pv 3)) (blkOk_by (N := N_l_reads) (sc := defScope s_l_reads) (by decide +kernel)) (fun _ _ _ _ _ => pg_name (i := 4) sc_l_reads.nd rfl (Or.inl rfl)) (fun _ _ _ _ _ => pts_nil) (fun _ _ _ _ _ => (pe_cmpR o_inC (pv 4) (pv 2) rfl))) pa_nil)) (pe_one (pe_cmpR op_eq (pv 3) (pe_joinN pe_str (pe_callB (cr_sortedSS rfl) rfl T.f_sorted b_sorted (pa_cons (pe_callTy (cr_setS rfl) rfl T.f_set b_set (pa_cons (pv 3) pa_nil)) pa_nil))) (nomark _)))))))))⟩

noncomputable def der_l_fits_task (T : Tx K mg) (hr : Room 1 (A.deeper (envOfC "_law_fits_task" (defScope s_l_fits_task) s.heap.objs.size (He.ga K "_law_fits_task") cdv))) {sp_l_reads : Sp} (G_l_reads : Kp P w K mg base CX0 "_law_reads" 1 p_l_reads sp_l_reads) :
    Dv (cxOf CX0 P w K mg base N_l_fits_task "_law_fits_task" (defScope s_l_fits_task) (He.ga K "_law_fits_task") cdv A outer s H E).nox (defBody s_l_fits_task) :=
  ⟨_, (pss_cons (ps_if (pt_cmpR op_eq (pe_ix ix_list (pv 0) pe_int (fun _ _ => rfl)) pe_str (nomark _)) (pss_cons (ps_if (PW.pt (pw_and (pt_cmpR op_ne (pe_callB c_lenQ rfl T.f_len b_len (pa_cons (pv 0) pa_nil)) pe_int (nomark _)) (pw_and1 (PW.pt (pw_or (pt_cmpR op_ne (pe_callB c_lenQ rfl T.f_len b_len (pa_cons (pv 0) pa_nil)) pe_int (nomark _)) (pw_or1 (pt_cmpR op_ne (pe_ix ix_list (pv 0) pe_int (fun _ _ => rfl)) pe_str (nomark _)))))))) (pss_one (ps_ret pe_bl)) pss_nil)
    (pss_one (ps_ret (pe_callB (cr_all rfl) rfl T.f_all b_all (pa_cons (pe_lc (own := [("_law_text", 6)]) (g := gName 6) (tt := tYes) rfl sc_l_fits_task.nd (pi_list (pe_op op_cat (pe_slice sl_list (pv 0) (po_some pe_int) (po_some pe_int)) (pe_slice sl_list (pv 0) (po_some pe_int) (po_some pe_int)))) (blkOk_by (N := N_l_fits_task) (sc := defScope s_l_fits_task) (by decide +kernel)) (fun _ _ _ _ _ => pg_name (i := 6) sc_l_fits_task.nd rfl (Or.inl rfl)) (fun _ _ _ _ _ => pts_nil) (fun _ _ _ _ _ => (pe_cl G_l_reads (hr.mono (by decide)) (pa_cons (pv 6) (pa_cons (pv 1) (pa_cons (pv 2) pa_nil)))))) pa_nil))))) pss_nil)
    (pss_cons (ps_if (pt_cmpR op_ne (pe_ix ix_list (pv 0) pe_int (fun _ _ => rfl)) pe_str (nomark _)) (pss_one (ps_ret (pe_cmpR op_eq (pe_callB c_lenQ rfl T.f_len b_len (pa_cons (pv 0) pa_nil)) pe_int (nomark _)))) pss_nil)
    (pss_cons (ps_set (i := 0) sc_l_fits_task.nd rfl (Or.inl rfl) (pe_ifExp (pt_cmpR (op_eqD (hu64 hr)) (pe_slice sl_list (pv 0) (po_some pe_int) (po_some pe_int)) (pe_lst (pa_cons pe_str pa_nil)) (nomark _)) (pe_slice sl_list (pv 0) (po_some pe_int) po_none) (pe_slice sl_list (pv 0) (po_some pe_int) po_none)))
    (pss_cons (ps_if (pt_cmpR op_ne (pe_callB c_lenQ rfl T.f_len b_len (pa_cons (pv 0) pa_nil)) pe_int (nomark _)) (pss_one (ps_ret pe_bl)) pss_nil)
    (pss_cons (ps_asg (pv 0) (pg_unl rfl (pgs_cons (pg_name (i := 3) sc_l_fits_task.nd rfl (Or.inl rfl)) (pgs_cons (pg_name (i := 4) sc_l_fits_task.nd rfl (Or.inl rfl)) (pgs_cons (pg_name (i := 5) sc_l_fits_task.nd rfl (Or.inl rfl)) pgs_nil)))))
    (pss_cons (ps_if (pt_cmpR op_eq (pv 4) pe_str (nomark _)) (pss_one (ps_ret (pe_and (pe_cmpR op_eq (pe_callB c_lenT rfl T.f_len b_len (pa_cons (pv 3) pa_nil)) pe_int (nomark _)) (pe_and (pe_cmpR o_inC (pv 3) (pv 2) rfl) (pe_one (pe_cl G_l_reads (hr.mono (by decide)) (pa_cons (pv 5) (pa_cons (pv 1) (pa_cons (pv 2) pa_nil))))))))) pss_nil)
    (pss_cons (ps_if (pt_cmpR op_eq (pv 4) pe_str (nomark _)) (pss_one (ps_ret (pe_and (pe_cmpR (o_inQ K) (pv 3) (pv 1) rfl) (pe_one (pe_cmpR (o_inQ K) (pv 5) (pv 1) rfl))))) pss_nil)
    (pss_one (ps_ret (pe_and (pe_cmpR (o_inQ K) (pv 4) (pe_tup (pa_cons pe_str (pa_cons pe_str pa_nil))) rfl) (pe_and (pe_cl G_l_reads (hr.mono (by decide)) (pa_cons (pv 3) (pa_cons (pv 1) (pa_cons (pv 2) pa_nil)))) (pe_one (pe_cl G_l_reads (hr.mono (by decide)) (pa_cons (pv 5) (pa_cons (pv 1) (pa_cons (pv 2) pa_nil))))))))))))))))⟩

noncomputable def der_l_fits (T : Tx K mg) (hr : Room 2 (A.deeper (envOfC "_law_fits" (defScope s_l_fits) s.heap.objs.size (He.ga K "_law_fits") cdv))) {sp_l_fits_task : Sp} (G_l_fits_task : Kp P w K mg base CX0 "_law_fits_task" 2 p_l_fits_task sp_l_fits_task) {sp_l_reads : Sp} (G_l_reads : Kp P w K mg base CX0 "_law_reads" 1 p_l_reads sp_l_reads) {sp_l_is_word : Sp} (G_l_is_word : Kp P w K mg base CX0 "_law_is_word" 2 p_l_is_word sp_l_is_word) :
    Dv (cxOf CX0 P w K mg base N_l_fits "_law_fits" (defScope s_l_fits) (He.ga K "_law_fits") cdv A outer s H E).nox (defBody s_l_fits) :=
  ⟨_, (pss_cons (ps_if (pt_not (pt_val (pe_callB call_isi rfl T.f_isinstance b_isinstance (pa_cons (pv 0) (pa_cons (pe_bltn (v := .ty "str") rfl T.f_str b_str rfl) pa_nil))))) (pss_one (ps_ret pe_bl)) pss_nil)
    (pss_cons (ps_set (i := 4) sc_l_fits.nd rfl (Or.inl rfl) (pe_splitN (pv 0) pe_str))
    (pss_cons (ps_if (PW.pt (pw_and (pt_cmpR op_eq (pv 1) pe_str (nomark _)) (pw_and1 (pt_cmpR (o_inQ K) (pe_ix ix_list (pv 4) pe_int (fun _ _ => rfl)) (pe_tup (pa_cons pe_str (pa_cons pe_str (pa_cons pe_str (pa_cons pe_str (pa_cons pe_str pa_nil)))))) rfl)))) (pss_one (ps_ret (pe_cl G_l_fits_task (hr.mono (by decide)) (pa_cons (pv 4) (pa_cons (pv 2) (pa_cons (pv 3) pa_nil)))))) pss_nil)
    (pss_cons (ps_if (PW.pt (pw_and (pt_cmpR op_eq (pe_callB c_lenQ rfl T.f_len b_len (pa_cons (pv 4) pa_nil)) pe_int (nomark _)) (pw_and1 (pt_cmpR (o_inQ K) (pe_ix ix_list (pv 4) pe_int (fun _ _ => rfl)) (pe_tup (pa_cons pe_str (pa_cons pe_str (pa_cons pe_str (pa_cons pe_str pa_nil))))) rfl)))) (pss_one (ps_ret (pe_and (pe_cmpR (o_inQ K) (pe_ix ix_list (pv 4) pe_int (fun _ _ => rfl)) (pv 2) rfl) (pe_one (pe_cl G_l_reads (hr.mono (by decide)) (pa_cons (pe_ix ix_list (pv 4) pe_int (fun _ _ => rfl)) (pa_cons (pv 2) (pa_cons (pv 3) pa_nil)))))))) pss_nil)
    (pss_cons (ps_if (PW.pt (pw_or (pt_cmpR (o_niQ K) (pe_callB c_lenQ rfl T.f_len b_len (pa_cons (pv 4) pa_nil)) (pe_tup (pa_cons pe_int (pa_cons pe_int pa_nil))) rfl) (pw_or (pt_cmpR op_ne (pe_ix ix_list (pv 4) pe_int (fun _ _ => rfl)) pe_str (nomark _)) (pw_or1 (pt_not (pt_val (pe_cl G_l_reads (hr.mono (by decide)) (pa_cons (pe_ix ix_list (pv 4) pe_int (fun _ _ => rfl)) (pa_cons (pv 2) (pa_cons (pv 3) pa_nil)))))))))) (pss_one (ps_ret pe_bl)) pss_nil)
    (pss_cons (ps_if (pt_not (PW.pt (pw_or (pt_cmpR (o_inQ K) (pe_ix ix_list (pv 4) pe_int (fun _ _ => rfl)) (pv 2) rfl) (pw_or1 (PW.pt (pw_and (pt_cmpR op_ne (pv 1) pe_str (nomark _)) (pw_and1 (pt_val (pe_cl G_l_is_word (hr.mono (by decide)) (pa_cons (pe_ix ix_list (pv 4) pe_int (fun _ _ => rfl)) pa_nil)))))))))) (pss_one (ps_ret pe_bl)) pss_nil)
    (pss_one (ps_ret (pe_or (pe_cmpR op_eq (pe_callB c_lenQ rfl T.f_len b_len (pa_cons (pv 4) pa_nil)) pe_int (nomark _)) (pe_one (pe_and (pe_cmpR (o_inQ K) (pe_ix ix_list (pv 4) pe_int (fun _ _ => rfl)) (pe_tup (pa_cons pe_str (pa_cons pe_str (pa_cons pe_str (pa_cons pe_str pa_nil))))) rfl) (pe_one (pe_cl G_l_reads (hr.mono (by decide)) (pa_cons (pe_ix ix_list (pv 4) pe_int (fun _ _ => rfl)) (pa_cons (pv 2) (pa_cons (pv 3) pa_nil))))))))))))))))⟩

noncomputable def der_l_first_wrong (T : Tx K mg) (hr : Room 3 (A.deeper (envOfC "_law_first_wrong" (defScope s_l_first_wrong) s.heap.objs.size (He.ga K "_law_first_wrong") cdv))) {sp_l_fits : Sp} (G_l_fits : Kp P w K mg base CX0 "_law_fits" 3 p_l_fits sp_l_fits) :
    Dv (cxOf CX0 P w K mg base N_l_first_wrong "_law_first_wrong" (defScope s_l_first_wrong) (He.ga K "_law_first_wrong") cdv A outer s H E).nox (defBody s_l_first_wrong) :=
  ⟨_, (pss_cons (ps_par (i := 2) (j := 4) rfl sc_l_first_wrong.nd rfl rfl (by decide) rfl rfl (pa_cons (pe_callTy c_listQ rfl T.f_list b_list (pa_cons (pv 2) pa_nil)) (pa_cons (pe_lst pa_nil) pa_nil)) rfl)
    (pss_cons (ps_for PassesOwn.never rfl (pi_enum rfl T.f_enumerate (pa_cons (pv 1) pa_nil)) (pg_tup rfl (pgs_cons (pg_name (i := 5) sc_l_first_wrong.nd rfl (Or.inl rfl)) (pgs_cons (pg_name (i := 6) sc_l_first_wrong.nd rfl (Or.inl rfl)) pgs_nil))) (pss_cons (ps_if (pt_not (pt_val (pe_cl G_l_fits (hr.mono (by decide)) (pa_cons (pv 6) (pa_cons (pv 0) (pa_cons (pv 2) (pa_cons (pv 3) pa_nil))))))) (pss_one (ps_ret (pe_tup (pa_cons (pv 5) (pa_cons (pv 2) pa_nil))))) pss_nil)
    (pss_cons (ps_set (i := 7) sc_l_first_wrong.nd rfl (Or.inl rfl) (pe_splitN (pv 6) pe_str))
    (pss_cons (ps_if (PW.pt (pw_and (pt_cmpR op_ne (pv 0) pe_str (nomark _)) (pw_and (pt_cmpR op_eq (pe_ix ix_list (pv 7) pe_int (fun _ _ => rfl)) pe_str (nomark _)) (pw_and1 (pt_cmpR (o_niQ K) (pe_ix ix_list (pv 7) pe_int (fun _ _ => rfl)) (pv 2) rfl))))) (pss_one (ps_expr (pe_bm PySem.F.plainAttrs_list PySem.F.slot_list_append PySem.F.type_list_append mt_append (pv 2) (pa_cons (pe_ix ix_list (pv 7) pe_int (fun _ _ => rfl)) pa_nil)))) pss_nil)
    (pss_cons (ps_if (PW.pt (pw_and (pt_cmpR op_eq (pv 0) pe_str (nomark _)) (pw_and1 (pt_cmpR op_eq (pe_ix ix_list (pv 7) pe_int (fun _ _ => rfl)) pe_str (nomark _))))) (pss_one (ps_expr (pe_bm PySem.F.plainAttrs_list PySem.F.slot_list_append PySem.F.type_list_append mt_append (pv 4) (pa_cons pe_str pa_nil)))) pss_nil)
    (pss_cons (ps_if (PW.pt (pw_and (pt_cmpR (o_inQ K) (pv 6) (pe_tup (pa_cons pe_str (pa_cons pe_str pa_nil))) rfl) (pw_and1 (PW.pt (pw_or (pt_cmpR (op_eqD (hu64 hr)) (pv 4) (pe_lst pa_nil) (nomark _)) (pw_or1 (pt_cmpR op_eq (pv 6) (pe_ix ix_list (pv 4) (pe_un un_neg pe_int) (fun _ _ => rfl)) (nomark _)))))))) (pss_one (ps_ret (pe_tup (pa_cons (pv 5) (pa_cons (pv 2) pa_nil))))) pss_nil)
    (pss_cons (ps_if (pt_cmpR op_eq (pv 6) pe_str (nomark _)) (pss_one (ps_asg pe_str (pg_sub (pv 4) (pe_un un_neg pe_int) set_list))) pss_nil)
    (pss_one (ps_if (pt_cmpR op_eq (pv 6) pe_str (nomark _)) (pss_one (ps_expr (pe_bm0 PySem.F.plainAttrs_list PySem.F.slot_list_pop PySem.F.type_list_pop mt_pop (pv 4)))) pss_nil)))))))))
    (pss_one (ps_ret (pe_tup (pa_cons (pe_ifExp (pt_cmpR (op_eqD (hu64 hr)) (pv 4) (pe_lst pa_nil) (nomark _)) pe_non (pe_callB c_lenQ rfl T.f_len b_len (pa_cons (pv 1) pa_nil))) (pa_cons (pv 2) pa_nil)))))))⟩

noncomputable def der_l_are_marks (T : Tx K mg) (hr : Room 0 (A.deeper (envOfC "_law_are_marks" (defScope s_l_are_marks) s.heap.objs.size (He.ga K "_law_are_marks") cdv)))  :
    Dv (cxOf CX0 P w K mg base N_l_are_marks "_law_are_marks" (defScope s_l_are_marks) (He.ga K "_law_are_marks") cdv A outer s H E).nox (defBody s_l_are_marks) :=
  ⟨_, (pss_cons (ps_if (PW.pt (pw_or (pt_not (pt_val (pe_callB call_isi rfl T.f_isinstance b_isinstance (pa_cons (pv 0) (pa_cons (pe_bltn (v := .ty "str") rfl T.f_str b_str rfl) pa_nil))))) (pw_or (pt_not (pt_chain o_le o_le pe_int (pe_callB c_lenT rfl T.f_len b_len (pa_cons (pv 0) pa_nil)) pe_int)) (pw_or1 (pt_cmpR op_ne (pv 0) (pe_joinN pe_str (pe_callB (cr_sortedSS rfl) rfl T.f_sorted b_sorted (pa_cons (pe_callTy (cr_setS rfl) rfl T.f_set b_set (pa_cons (pv 0) pa_nil)) pa_nil))) (nomark _)))))) (pss_one (ps_ret pe_bl)) pss_nil)
    (pss_cons (ps_setLc (i := 1) (own := [("_law_mark", 3)]) (g := gName 3) (tt := _) rfl sc_l_are_marks.nd rfl rfl (sw_true rfl rfl rfl (by decide +kernel)) (pi_str (pv 0)) (blkOk_by (N := N_l_are_marks) (sc := defScope s_l_are_marks) (by decide +kernel)) (fun _ _ _ _ _ => pg_name (i := 3) sc_l_are_marks.nd rfl (Or.inl rfl)) (fun _ _ _ _ _ => (pts_one (pt_cmpR o_inC (pv 3) pe_str rfl))) (fun _ _ _ _ _ => (pv 3)))
    (pss_cons (ps_setLc (i := 2) (own := [("_law_mark", 3)]) (g := gName 3) (tt := _) rfl sc_l_are_marks.nd rfl rfl (sw_true rfl rfl rfl (by decide +kernel)) (pi_str (pv 0)) (blkOk_by (N := N_l_are_marks) (sc := defScope s_l_are_marks) (by decide +kernel)) (fun _ _ _ _ _ => pg_name (i := 3) sc_l_are_marks.nd rfl (Or.inl rfl)) (fun _ _ _ _ _ => (pts_one (pt_cmpR o_inC (pv 3) pe_str rfl))) (fun _ _ _ _ _ => (pv 3)))
    (pss_one (ps_ret (pe_and (pe_cmpR op_eq (pe_op o_add (pe_callB c_lenQ rfl T.f_len b_len (pa_cons (pv 1) pa_nil)) (pe_callB c_lenQ rfl T.f_len b_len (pa_cons (pv 2) pa_nil))) (pe_callB c_lenT rfl T.f_len b_len (pa_cons (pv 0) pa_nil)) (nomark _)) (pe_one (pe_cmpR o_le (pe_callB c_lenQ rfl T.f_len b_len (pa_cons (pv 2) pa_nil)) pe_int (nomark _)))))))))⟩

noncomputable def der_l_error (T : Tx K mg) (hr : Room 4 (A.deeper (envOfC "_law_error" (defScope s_l_error) s.heap.objs.size (He.ga K "_law_error") cdv))) {sp_l_are_marks : Sp} (G_l_are_marks : Kp P w K mg base CX0 "_law_are_marks" 1 p_l_are_marks sp_l_are_marks) {sp_l_first_wrong : Sp} (G_l_first_wrong : Kp P w K mg base CX0 "_law_first_wrong" 4 p_l_first_wrong sp_l_first_wrong) :
    Dv (cxOf CX0 P w K mg base N_l_error "_law_error" (defScope s_l_error) (He.ga K "_law_error") cdv A outer s H E).nox (defBody s_l_error) :=
  ⟨_, (pss_cons (ps_if (pt_not (pt_val (pe_cl G_l_are_marks (hr.mono (by decide)) (pa_cons (pv 0) pa_nil)))) (pss_one (ps_ret (pe_tup (pa_cons pe_str (pa_cons pe_str (pa_cons (pe_un un_neg pe_int) pa_nil)))))) pss_nil)
    (pss_cons (ps_par (i := 4) (j := 5) rfl sc_l_error.nd rfl rfl (by decide) rfl rfl (pa_cons (pe_lst pa_nil) (pa_cons (pe_lst pa_nil) pa_nil)) rfl)
    (pss_cons (ps_for PassesOwn.never rfl (pi_list (pe_lst (pa_cons (pe_tup (pa_cons pe_str (pa_cons (pv 1) (pa_cons pe_int pa_nil)))) (pa_cons (pe_tup (pa_cons pe_str (pa_cons (pv 2) (pa_cons pe_int pa_nil)))) (pa_cons (pe_tup (pa_cons pe_str (pa_cons (pv 3) (pa_cons pe_int pa_nil)))) pa_nil))))) (pg_tup rfl (pgs_cons (pg_name (i := 6) sc_l_error.nd rfl (Or.inl rfl)) (pgs_cons (pg_name (i := 7) sc_l_error.nd rfl (Or.inl rfl)) (pgs_cons (pg_name (i := 8) sc_l_error.nd rfl (Or.inl rfl)) pgs_nil)))) (pss_cons (ps_if (pt_not (pt_val (pe_callB call_isi rfl T.f_isinstance b_isinstance (pa_cons (pv 7) (pa_cons (pe_bltn (v := .ty "list") rfl T.f_list b_list rfl) pa_nil))))) (pss_one (ps_ret (pe_tup (pa_cons pe_str (pa_cons (pv 6) (pa_cons (pe_un un_neg pe_int) pa_nil)))))) pss_nil)
    (pss_cons (ps_if (pt_cmpR o_gt (pe_callB c_lenQ rfl T.f_len b_len (pa_cons (pv 7) pa_nil)) (pv 8) (nomark _)) (pss_one (ps_ret (pe_tup (pa_cons pe_str (pa_cons pe_str pa_nil))))) pss_nil)
    (pss_cons (ps_asg (pe_cl G_l_first_wrong (hr.mono (by decide)) (pa_cons (pv 6) (pa_cons (pv 7) (pa_cons (pv 4) (pa_cons (pv 0) pa_nil))))) (pg_tup rfl (pgs_cons (pg_name (i := 9) sc_l_error.nd rfl (Or.inl rfl)) (pgs_cons (pg_name (i := 4) sc_l_error.nd rfl (Or.inl rfl)) pgs_nil))))
    (pss_cons (ps_if (pt_cmpR o_notNon (pv 9) pe_non (nomark _)) (pss_one (ps_ret (pe_tup (pa_cons pe_str (pa_cons (pv 6) (pa_cons (pv 9) pa_nil)))))) pss_nil)
    (pss_cons (ps_if (PW.pt (pw_and (pt_cmpR op_eq (pv 6) pe_str (nomark _)) (pw_and1 (pt_cmpR o_gt (pe_callB c_lenQ rfl T.f_len b_len (pa_cons (pv 4) pa_nil)) pe_int (nomark _))))) (pss_one (ps_ret (pe_tup (pa_cons pe_str (pa_cons pe_str pa_nil))))) pss_nil)
    (pss_cons (ps_if (pt_cmpR op_eq (pv 6) pe_str (nomark _)) (pss_one (ps_set (i := 5) sc_l_error.nd rfl (Or.inl rfl) (pe_callTy c_listQ rfl T.f_list b_list (pa_cons (pv 4) pa_nil)))) pss_nil)
    (pss_cons (ps_if (PW.pt (pw_and (pt_cmpR op_eq (pv 6) pe_str (nomark _)) (pw_and1 (PW.pt (pw_or (pt_cmpR o_gt (pe_callB c_lenQ rfl T.f_len b_len (pa_cons (pv 4) pa_nil)) pe_int (nomark _)) (pw_or1 (pt_cmpR o_gt (pe_callB c_lenQ rfl T.f_len b_len (pa_cons (pv 4) pa_nil)) (pe_op o_add (pe_callB c_lenQ rfl T.f_len b_len (pa_cons (pv 5) pa_nil)) pe_int) (nomark _)))))))) (pss_one (ps_ret (pe_tup (pa_cons pe_str (pa_cons pe_str pa_nil))))) pss_nil)
    (pss_one (ps_if (pt_cmpR op_eq (pv 6) pe_str (nomark _)) (pss_one (ps_set (i := 4) sc_l_error.nd rfl (Or.inl rfl) (pe_op op_cat (pv 5) (pe_lst (pa_cons pe_str (pa_cons pe_str pa_nil)))))) pss_nil))))))))))
    (pss_one (ps_ret pe_non)))))⟩
end
end K27

set_option maxRecDepth 100000
set_option maxHeartbeats 8000000
namespace K27
open PySem PySem.Spec PyProof.Rows L2
section
variable {P : Program} {w : World} {K : PySem.W.Frag} {mg : PySem.Str → Option Value} {base : Heap} {cdv : Value} {A : Around} {outer : List Env} {s : Shared} {H : Hp} {E : XK}
noncomputable def der_l_raised (T : Tx K mg) (hr : Room 8 (A.deeper (envOfC "_law_raised" (defScope s_l_raised) s.heap.objs.size (He.ga K "_law_raised") cdv))) {sp_Program : Sp} (G_Program : Kc P w K mg base 7 p_Program_init sp_Program) :
    Dv (cxOf CX0 P w K mg base N_l_raised "_law_raised" (defScope s_l_raised) (He.ga K "_law_raised") cdv A outer s H E).nox (defBody s_l_raised) :=
  ⟨_, (pss_cons (ps_try_asM (Wout := fun _ _ _ _ => False) rfl rfl sc_l_raised.nd takes0 (fun W pn xe tk _ => (pss_one (ps_expr (pe_mkT K G_Program (hr.mono (by decide)) (fun σ => passAt tk σ) (pa_cons (pv 0) (pa_cons (pv 1) (pa_cons (pv 2) (pa_cons (pv 3) pa_nil)))))))) (ClsOk.cons (i := 4) ⟨rfl, by decide, Or.inl T.g_BadProgram⟩ rfl rfl (fun a oe cls d pn hz hf => (pss_one (ps_ret (pe_tup (pa_cons pe_str (pa_cons (pe_xf T.bad.2.2.1 (noB_ok T.bad.2.2.2 (by decide)) hz hf (pv 4)) (pa_cons (pe_xf T.bad.2.2.1 (noB_ok T.bad.2.2.2 (by decide)) hz hf (pv 4)) pa_nil))))))) (ClsOk.cons (i := 4) ⟨rfl, by decide, Or.inl T.g_TooMany⟩ rfl rfl (fun a oe cls d pn hz hf => (pss_one (ps_ret (pe_tup (pa_cons pe_str (pa_cons (pe_xf T.many.2.2.1 (noB_ok T.many.2.2.2 (by decide)) hz hf (pv 4)) pa_nil)))))) ClsOk.nil)))
    (pss_one (ps_ret pe_non)))⟩

noncomputable def der_l_same (T : Tx K mg) (hr : Room 0 (A.deeper (envOfC "_law_same" (defScope s_l_same) s.heap.objs.size (He.ga K "_law_same") cdv))) (hga : A.guards = some []) :
    Dv (cxOf CX0 P w K mg base N_l_same "_law_same" (defScope s_l_same) (He.ga K "_law_same") cdv A outer s H E).nox (defBody s_l_same) :=
  ⟨_, (pss_one (ps_ret (pe_and (pe_cmpR (op_eqD (hu64 hr)) (pv 0) (pv 1) (nomark _)) (pe_one (pe_cmpR op_eq (pe_callB (cr_repr hga (hu64 hr)) rfl T.f_repr b_repr (pa_cons (pv 0) pa_nil)) (pe_callB (cr_repr hga (hu64 hr)) rfl T.f_repr b_repr (pa_cons (pv 1) pa_nil)) (nomark _))))))⟩

noncomputable def der_l_token (T : Tx K mg) (hr : Room 2 (A.deeper (envOfC "_law_token" (defScope s_l_token) s.heap.objs.size (He.ga K "_law_token") cdv))) {sp_l_draw : Sp} (G_l_draw : Kp P w K mg base CX0 "_law_draw" 1 p_l_draw sp_l_draw) {sp_l_of : Sp} (G_l_of : Kp P w K mg base CX0 "_law_of" 2 p_l_of sp_l_of) {sp_l_drawn_contents : Sp} (G_l_drawn_contents : Kp P w K mg base CX0 "_law_drawn_contents" 2 p_l_drawn_contents sp_l_drawn_contents) :
    Dv (cxOf CX0 P w K mg base N_l_token "_law_token" (defScope s_l_token) (He.ga K "_law_token") cdv A outer s H E).nox (defBody s_l_token) :=
  ⟨_, (pss_cons (ps_set (i := 4) sc_l_token.nd rfl (Or.inl rfl) (pe_cl G_l_draw (hr.mono (by decide)) (pa_cons (pv 0) (pa_cons pe_int pa_nil))))
    (pss_cons (ps_if (pt_cmpR op_eq (pv 4) pe_int (nomark _)) (pss_one (ps_ret (pe_cl G_l_of (hr.mono (by decide)) (pa_cons (pv 0) (pa_cons (pv 1) pa_nil))))) pss_nil)
    (pss_cons (ps_if (pt_cmpR op_eq (pv 4) pe_int (nomark _)) (pss_one (ps_ret (pe_op o_addT (pe_op o_addT pe_str (pe_cl G_l_drawn_contents (hr.mono (by decide)) (pa_cons (pv 0) (pa_cons (pv 2) pa_nil)))) pe_str))) pss_nil)
    (pss_cons (ps_if (pt_cmpR op_eq (pv 4) pe_int (nomark _)) (pss_one (ps_ret (pe_cl G_l_of (hr.mono (by decide)) (pa_cons (pv 0) (pa_cons (pe_lst (pa_cons pe_str (pa_cons pe_str (pa_cons pe_str (pa_cons pe_str (pa_cons pe_str (pa_cons pe_str (pa_cons pe_str (pa_cons pe_str (pa_cons pe_str pa_nil)))))))))) pa_nil))))) pss_nil)
    (pss_cons (ps_if (pt_cmpR op_eq (pv 4) pe_int (nomark _)) (pss_one (ps_ret (pe_cl G_l_of (hr.mono (by decide)) (pa_cons (pv 0) (pa_cons (pe_lst (pa_cons pe_str (pa_cons pe_str (pa_cons pe_str (pa_cons pe_str (pa_cons pe_str (pa_cons pe_str (pa_cons pe_str (pa_cons pe_str (pa_cons pe_str (pa_cons pe_str (pa_cons pe_str pa_nil)))))))))))) pa_nil))))) pss_nil)
    (pss_cons (ps_if (pt_cmpR op_eq (pv 4) pe_int (nomark _)) (pss_one (ps_ret (pe_cl G_l_of (hr.mono (by decide)) (pa_cons (pv 0) (pa_cons (pe_op op_cat (pe_callTy (cr_listS rfl) rfl T.f_list b_list (pa_cons (pv 2) pa_nil)) (pe_lst (pa_cons pe_str (pa_cons pe_str (pa_cons (pv 3) pa_nil))))) pa_nil))))) pss_nil)
    (pss_cons (ps_set (i := 5) sc_l_token.nd rfl (Or.inl rfl) (pe_lst (pa_cons pe_str (pa_cons pe_str (pa_cons pe_str (pa_cons pe_str (pa_cons pe_str (pa_cons pe_str (pa_cons pe_str (pa_cons pe_str (pa_cons pe_str (pa_cons pe_str (pa_cons pe_str (pa_cons pe_str (pa_cons pe_str pa_nil)))))))))))))))
    (pss_cons (ps_set (i := 5) sc_l_token.nd rfl (Or.inl rfl) (pe_op op_cat (pv 5) (pe_lst (pa_cons pe_str (pa_cons (pe_op o_addT (pe_op o_addT pe_str (pv 2)) pe_str) (pa_cons (pe_op o_addT (pe_op o_addT pe_str (pe_revS (pv 2))) pe_str) (pa_cons pe_str (pa_cons pe_str (pa_cons (pe_op o_addT (pe_op o_addT pe_str (pe_op op_mulS (pe_ix ix_str (pv 2) (pe_un un_neg pe_int) (fun _ _ => rfl)) pe_int)) pe_str) pa_nil)))))))))
    (pss_one (ps_ret (pe_cl G_l_of (hr.mono (by decide)) (pa_cons (pv 0) (pa_cons (pv 5) pa_nil)))))))))))))⟩

noncomputable def der_l_row (T : Tx K mg) (hr : Room 6 (A.deeper (envOfC "_law_row" (defScope s_l_row) s.heap.objs.size (He.ga K "_law_row") cdv))) {sp_l_draw : Sp} (G_l_draw : Kp P w K mg base CX0 "_law_draw" 1 p_l_draw sp_l_draw) {sp_l_token : Sp} (G_l_token : Kp P w K mg base CX0 "_law_token" 3 p_l_token sp_l_token) {sp_l_plain_row : Sp} (G_l_plain_row : Kp P w K mg base CX0 "_law_plain_row" 6 p_l_plain_row sp_l_plain_row) {sp_l_binding : Sp} (G_l_binding : Kp P w K mg base CX0 "_law_binding" 5 p_l_binding sp_l_binding) {sp_l_test : Sp} (G_l_test : Kp P w K mg base CX0 "_law_test" 4 p_l_test sp_l_test) {sp_l_of : Sp} (G_l_of : Kp P w K mg base CX0 "_law_of" 2 p_l_of sp_l_of) {sp_l_last : Sp} (G_l_last : Kp P w K mg base CX0 "_law_last" 4 p_l_last sp_l_last) :
    Dv (cxOf CX0 P w K mg base N_l_row "_law_row" (defScope s_l_row) (He.ga K "_law_row") cdv A outer s H E).nox (defBody s_l_row) :=
  ⟨_, (pss_cons (ps_set (i := 4) sc_l_row.nd rfl (Or.inl rfl) (pe_cl G_l_draw (hr.mono (by decide)) (pa_cons (pv 0) (pa_cons pe_int pa_nil))))
    (pss_cons (ps_if (pt_cmpR op_eq (pv 4) pe_int (nomark _)) (pss_one (ps_ret (pe_joinN pe_str (pe_lc (own := [("_law_turn", 5)]) (g := gName 5) (tt := tYes) rfl sc_l_row.nd (pi_range1 rfl T.f_range (pa_cons (pe_op o_add pe_int (pe_cl G_l_draw (hr.mono (by decide)) (pa_cons (pv 0) (pa_cons pe_int pa_nil)))) pa_nil)) (blkOk_by (N := N_l_row) (sc := defScope s_l_row) (by decide +kernel)) (fun _ _ _ _ _ => pg_name (i := 5) sc_l_row.nd rfl (Or.inl rfl)) (fun _ _ _ _ _ => pts_nil) (fun _ _ _ _ _ => (pe_cl G_l_token (hr.mono (by decide)) (pa_cons (pv 0) (pa_cons (pv 1) (pa_cons (pv 2) (pa_cons (pv 3) pa_nil)))))))))) pss_nil)
    (pss_cons (ps_set (i := 6) sc_l_row.nd rfl (Or.inl rfl) (pe_cl G_l_plain_row (hr.mono (by decide)) (pa_cons (pv 0) (pa_cons (pv 1) (pa_cons (pv 2) pa_nil)))))
    (pss_cons (ps_if (pt_cmpR op_eq (pv 4) pe_int (nomark _)) (pss_one (ps_set (i := 6) sc_l_row.nd rfl (Or.inl rfl) (pe_cl G_l_binding (hr.mono (by decide)) (pa_cons (pv 0) (pa_cons (pv 3) (pa_cons (pv 1) (pa_cons (pv 2) pa_nil))))))) pss_nil)
    (pss_cons (ps_if (pt_cmpR op_eq (pv 4) pe_int (nomark _)) (pss_one (ps_set (i := 6) sc_l_row.nd rfl (Or.inl rfl) (pe_cl G_l_test (hr.mono (by decide)) (pa_cons (pv 0) (pa_cons (pv 1) (pa_cons (pv 2) pa_nil)))))) pss_nil)
    (pss_cons (ps_if (pt_cmpR op_eq (pv 4) pe_int (nomark _)) (pss_one (ps_set (i := 6) sc_l_row.nd rfl (Or.inl rfl) (pe_cl G_l_of (hr.mono (by decide)) (pa_cons (pv 0) (pa_cons (pe_lst (pa_cons pe_str (pa_cons pe_str (pa_cons (pe_cl G_l_last (hr.mono (by decide)) (pa_cons (pv 0) (pa_cons (pv 1) (pa_cons (pv 2) pa_nil)))) pa_nil)))) pa_nil))))) pss_nil)
    (pss_cons (ps_set (i := 7) sc_l_row.nd rfl (Or.inl rfl) (pe_splitN (pv 6) pe_str))
    (pss_cons (ps_for PassesOwn.never rfl (pi_range1 rfl T.f_range (pa_cons (pe_cl G_l_draw (hr.mono (by decide)) (pa_cons (pv 0) (pa_cons pe_int pa_nil))) pa_nil)) (pg_name (i := 5) sc_l_row.nd rfl (Or.inl rfl)) (pss_cons (ps_par (i := 8) (j := 9) rfl sc_l_row.nd rfl rfl (by decide) rfl rfl (pa_cons (pe_cl G_l_draw (hr.mono (by decide)) (pa_cons (pv 0) (pa_cons (pe_callB c_lenQ rfl T.f_len b_len (pa_cons (pv 7) pa_nil)) pa_nil))) (pa_cons (pe_cl G_l_token (hr.mono (by decide)) (pa_cons (pv 0) (pa_cons (pv 1) (pa_cons (pv 2) (pa_cons (pv 3) pa_nil))))) pa_nil)) rfl)
    (pss_cons (ps_set (i := 10) sc_l_row.nd rfl (Or.inl rfl) (pe_cl G_l_of (hr.mono (by decide)) (pa_cons (pv 0) (pa_cons (pe_lst (pa_cons (pe_lst (pa_cons (pv 9) pa_nil)) (pa_cons (pe_lst (pa_cons (pv 9) pa_nil)) (pa_cons (pe_lst (pa_cons (pv 9) pa_nil)) (pa_cons (pe_lst pa_nil) (pa_cons (pe_op op_rep (pe_lst (pa_cons (pv 9) pa_nil)) pe_int) (pa_cons (pe_lst (pa_cons (pv 9) (pa_cons (pe_ix ix_list (pv 7) (pv 8) (fun _ _ => rfl)) pa_nil))) pa_nil))))))) pa_nil))))
    (pss_cons (ps_set (i := 7) sc_l_row.nd rfl (Or.inl rfl) (pe_op op_cat (pe_op op_cat (pe_slice sl_list (pv 7) po_none (po_some (pv 8))) (pv 10)) (pe_slice sl_list (pv 7) (po_some (pe_op o_add (pv 8) pe_int)) po_none)))
    (pss_one (ps_if (pt_cmpR (op_eqD (hu64 hr)) (pv 7) (pe_lst pa_nil) (nomark _)) (pss_one (ps_set (i := 7) sc_l_row.nd rfl (Or.inl rfl) (pe_lst (pa_cons (pv 9) pa_nil)))) pss_nil))))))
    (pss_one (ps_ret (pe_joinN pe_str (pv 7))))))))))))⟩

noncomputable def der_law (T : Tx K mg) (hr : Room 9 (A.deeper (envOfC "law" (defScope s_law) s.heap.objs.size (He.ga K "law") cdv))) {sp_l_numbers : Sp} (G_l_numbers : Kp P w K mg base CX0 "_law_numbers" 1 p_l_numbers sp_l_numbers) {sp_l_drawn_marks : Sp} (G_l_drawn_marks : Kp P w K mg base CX0 "_law_drawn_marks" 3 p_l_drawn_marks sp_l_drawn_marks) {sp_l_drawn_parts : Sp} (G_l_drawn_parts : Kp P w K mg base CX0 "_law_drawn_parts" 8 p_l_drawn_parts sp_l_drawn_parts) {sp_l_one_word : Sp} (G_l_one_word : Kp P w K mg base CX0 "_law_one_word" 3 p_l_one_word sp_l_one_word) {sp_l_row : Sp} (G_l_row : Kp P w K mg base CX0 "_law_row" 7 p_l_row sp_l_row) {sp_l_draw : Sp} (G_l_draw : Kp P w K mg base CX0 "_law_draw" 1 p_l_draw sp_l_draw) {sp_l_error : Sp} (G_l_error : Kp P w K mg base CX0 "_law_error" 5 p_l_error sp_l_error) {sp_l_same : Sp} (G_l_same : Kg P w K mg base CX0 "_law_same" 1 p_l_same sp_l_same) {sp_l_raised : Sp} (G_l_raised : Kp P w K mg base CX0 "_law_raised" 9 p_l_raised sp_l_raised) {sp_Program : Sp} (G_Program : Kc P w K mg base 7 p_Program_init sp_Program) (hga : A.guards = some []) :
    Dv (cxOf CX0 P w K mg base N_law "law" (defScope s_law) (He.ga K "law") cdv A outer s H E).nox (defBody s_law) :=
  ⟨_, (pss_cons (ps_for PassesOwn.never rfl (pi_range1 rfl T.f_range (pa_cons (pe_callB (c_max rfl) rfl T.f_max b_max (pa_cons pe_int (pa_cons (pe_callB (c_min rfl) rfl T.f_min b_min (pa_cons pe_int (pa_cons (pe_callB c_lenQ rfl T.f_len b_len (pa_cons (pv 0) pa_nil)) pa_nil))) pa_nil))) pa_nil)) (pg_name (i := 1) sc_law.nd rfl (Or.inl rfl)) (pss_cons (ps_set (i := 2) sc_law.nd rfl (Or.inl rfl) (pe_cl G_l_numbers (hr.mono (by decide)) (pa_cons (pv 0) (pa_cons (pv 1) pa_nil))))
    (pss_one (ps_for PassesOwn.never rfl (pi_range1 rfl T.f_range (pa_cons pe_int pa_nil)) (pg_name (i := 3) sc_law.nd rfl (Or.inl rfl)) (pss_cons (ps_set (i := 4) sc_law.nd rfl (Or.inl rfl) (pe_cl G_l_drawn_marks (hr.mono (by decide)) (pa_cons (pv 2) (pa_cons pe_int (pa_cons pe_int pa_nil)))))
    (pss_cons (ps_set (i := 5) sc_law.nd rfl (Or.inl rfl) (pe_cl G_l_drawn_parts (hr.mono (by decide)) (pa_cons (pv 2) (pa_cons (pv 4) (pa_cons (pe_tup (pa_cons pe_int (pa_cons pe_int (pa_cons pe_int (pa_cons pe_int (pa_cons pe_int (pa_cons pe_int pa_nil))))))) pa_nil)))))
    (pss_cons (ps_set (i := 6) sc_law.nd rfl (Or.inl rfl) (pe_cl G_l_one_word (hr.mono (by decide)) (pa_cons (pv 2) (pa_cons (pe_op op_cat (pe_ix ix_tup (pv 5) pe_int (fun _ _ => rfl)) (pe_ix ix_tup (pv 5) pe_int (fun _ _ => rfl))) (pa_cons (pv 4) (pa_cons pe_int pa_nil))))))
    (pss_cons (ps_set (i := 7) sc_law.nd rfl (Or.inl rfl) (pe_cl G_l_row (hr.mono (by decide)) (pa_cons (pv 2) (pa_cons (pe_op op_cat (pe_op op_cat (pe_ix ix_tup (pv 5) pe_int (fun _ _ => rfl)) (pe_ix ix_tup (pv 5) pe_int (fun _ _ => rfl))) (pe_lst (pa_cons pe_str (pa_cons pe_str pa_nil)))) (pa_cons (pv 4) (pa_cons (pv 6) pa_nil))))))
    (pss_one (ps_for PassesOwn.never rfl (pi_range2 rfl T.f_range (pa_cons pe_int (pa_cons pe_int pa_nil))) (pg_name (i := 8) sc_law.nd rfl (Or.inl rfl)) (pss_cons (ps_set (i := 9) sc_law.nd rfl (Or.inl rfl) (pe_lst (pa_cons (pe_callTy c_listQ rfl T.f_list b_list (pa_cons (pe_ix ix_tup (pv 5) pe_int (fun _ _ => rfl)) pa_nil)) (pa_cons (pe_callTy c_listQ rfl T.f_list b_list (pa_cons (pe_ix ix_tup (pv 5) pe_int (fun _ _ => rfl)) pa_nil)) (pa_cons (pe_callTy c_listQ rfl T.f_list b_list (pa_cons (pe_ix ix_tup (pv 5) pe_int (fun _ _ => rfl)) pa_nil)) pa_nil)))))
    (pss_cons (ps_expr (pe_bm PySem.F.plainAttrs_list PySem.F.slot_list_insert PySem.F.type_list_insert m_insert (pe_ix ix_list (pv 9) (pe_op o_sub (pv 8) pe_int) (fun _ _ => rfl)) (pa_cons (pe_cl G_l_draw (hr.mono (by decide)) (pa_cons (pv 2) (pa_cons (pe_op o_add (pe_callB c_lenQ rfl T.f_len b_len (pa_cons (pe_ix ix_tup (pv 5) (pv 8) (fun _ _ => rfl)) pa_nil)) pe_int) pa_nil))) (pa_cons (pv 7) pa_nil))))
    (pss_cons (ps_set (i := 10) sc_law.nd rfl (Or.inl rfl) (pe_cl G_l_error (hr.mono (by decide)) (pa_cons (pv 4) (pa_cons (pe_ix ix_list (pv 9) pe_int (fun _ _ => rfl)) (pa_cons (pe_ix ix_list (pv 9) pe_int (fun _ _ => rfl)) (pa_cons (pe_ix ix_list (pv 9) pe_int (fun _ _ => rfl)) pa_nil))))))
    (pss_cons (ps_if (pt_not (pt_val (pe_clG hga G_l_same (hr.mono (by decide)) (pa_cons (pe_cl G_l_raised (hr.mono (by decide)) (pa_cons (pv 4) (pa_cons (pe_ix ix_list (pv 9) pe_int (fun _ _ => rfl)) (pa_cons (pe_ix ix_list (pv 9) pe_int (fun _ _ => rfl)) (pa_cons (pe_ix ix_list (pv 9) pe_int (fun _ _ => rfl)) pa_nil))))) (pa_cons (pv 10) pa_nil))))) (pss_one (ps_ret pe_bl)) pss_nil)
    (pss_one (ps_if (pt_cmpR o_isNon (pv 10) pe_non (nomark _)) (pss_cons (ps_set (i := 11) sc_law.nd rfl (Or.inl rfl) (pe_mk G_Program (hr.mono (by decide)) (pa_cons (pv 4) (pa_cons (pe_ix ix_list (pv 9) pe_int (fun _ _ => rfl)) (pa_cons (pe_ix ix_list (pv 9) pe_int (fun _ _ => rfl)) (pa_cons (pe_ix ix_list (pv 9) pe_int (fun _ _ => rfl)) pa_nil))))))
    (pss_one (ps_if (pt_cmpR (op_neD (hu64 hr)) (pe_lst (pa_cons (pe_callTy c_listQ rfl T.f_list b_list (pa_cons (pe_fld (pv 11) rfl) pa_nil)) (pa_cons (pe_callTy c_listQ rfl T.f_list b_list (pa_cons (pe_fld (pv 11) rfl) pa_nil)) (pa_cons (pe_callTy c_listQ rfl T.f_list b_list (pa_cons (pe_fld (pv 11) rfl) pa_nil)) pa_nil)))) (pv 9) (nomark _)) (pss_one (ps_ret pe_bl)) pss_nil))) pss_nil))))))))))))))))
    (pss_one (ps_ret pe_bl)))⟩
end
end K27

set_option maxRecDepth 100000
/-! what the program and the law answer, in plain Lean -/
namespace K27
open PySem PySem.Spec
def LOW : Str := "abcdefghijklmnopqrstuvwxyz"
def UPP : Str := "ABCDEFGHIJKLMNOPQRSTUVWXYZ"
def MKS : Str := "ABCDEFGHIJKLMNOPQRSTUVWXYZabcdefghijklmnopqrstuvwxyz"
def isW (x : Str) : Bool := !(!(decide ((1 : Int) ≤ x.length) && decide ((x.length : Int) ≤ 8)) || decide (x ∈ t_RESERVED)) && x.cps.toList.all (fun c => decide (c ∈ LOW.cps.toList))
def varB (x : Str) (t : Bool) : Bool := isW x || (t && decide (x ∈ t_OF_THE_TASK))
def ascF : List Nat → List Nat → Bool
  | _, [] => true
  | last, c :: r => if (!decide (c ∈ MKS.cps.toList) || !decide (last < [c])) = true then false else ascF [c] r
def isC (x : Str) : Bool := ascF [] x.cps.toList
/-- a text's inside -/
def inn (x : Str) : Str := ⟨(x.cps.toList.drop 1).dropLast.toArray⟩
def brB (x : Str) : Bool := decide (2 ≤ x.length) && (decide (x.cps.toList.head? = some 123) && decide (x.cps.toList.getLast? = some 125))
def allIn (x m : Str) : Bool := x.cps.toList.all (fun c => decide (c ∈ m.cps.toList))
def setB (x m : Str) : Bool := brB x && (isC (inn x) && allIn (inn x) m)
def termB (x m : Str) (t : Bool) : Bool := varB x t || setB x m
def varsW (l : List Str) (t : Bool) : List Str := l.filter (fun x => varB x t)
def oneIn (x m : Str) : Bool := match x.cps.toList with
  | [c] => decide (c ∈ m.cps.toList)
  | _ => false
def plainW : List Str → Str → Bool → Option (List Str × List Str)
  | [a, s, b], m, t => if (varB a t && termB b m t) = true then (if s = "=" then some ([a], varsW [b] t) else if s ∈ t_CHANGES then some ([], a :: varsW [b] t) else none) else none
  | [a, s, b, g, c], m, t => if (varB a t && (termB b m t && termB c m t)) = true then (if s = "=" ∧ g ∈ t_SIGNS then some ([a], varsW [b, c] t) else none) else none
  | _, _, _ => none
def testW : List Str → Str → Option (List Str)
  | [l, s, r], m => if s = "in" then (if (oneIn l m && termB r m true) = true then some (varsW [r] true) else none)
    else if s = "is" then (if (varB l true && varB r true) = true then some [l, r] else none)
    else if (decide (s ∈ (["==", "<="] : List Str)) && (termB l m true && termB r m true)) = true then some (varsW [l, r] true) else none
  | _, _ => none
def taskW (p : List Str) (m : Str) : Option (List Str) :=
  if p = [("else" : Str)] ∨ p = [("end" : Str)] ∨ p = [("stop" : Str)] then some []
  else if p.take 1 = [("if" : Str)] then testW (if (p.drop 1).take 1 = [("not" : Str)] then p.drop 2 else p.drop 1) m
  else if p.take 1 = [("fail" : Str)] then
    (if p.length ≠ 2 ∧ (p.length ≠ 4 ∨ p[2]? ≠ some ("from" : Str)) then none
    else if ((p.drop 1).take 1 ++ (p.drop 3).take 1).all (fun x => termB x m true) = true then some (varsW ((p.drop 1).take 1 ++ (p.drop 3).take 1) true) else none)
  else match plainW p m true with
    | none => none
    | some (b, r) => some (b ++ r)
end K27

set_option maxRecDepth 100000
/-! what the program and the law answer, in plain Lean: rows, programs -/
namespace K27
open PySem PySem.Spec
def marksP (m : Str) : Bool := isC m && (decide ((1 : Int) ≤ m.length) && decide ((m.length : Int) ≤ 3)) && !decide (2 < ((m.cps.toList.filter fun c => decide (c ∈ LOW.cps.toList)).length : Int))
/-- an error: of a part at a place; of too many things -/
inductive Bad where
  | prog (part : Str) (i : Int)
  | many (what : Str)
  deriving DecidableEq
def spl (x : Str) : List Str := Txt.split x " "
def stepP (m row : Str) (known : List Str) : Option (List Str) := match plainW (spl row) m false with
  | none => none
  | some (b, r) => if r.all (fun x => decide (x ∈ known)) = true then some (known ++ b.filter fun x => !decide (x ∈ known)) else none
/-- the place of the first wrong row, or what is known behind -/
def plainRun (m : Str) : List Str → Nat → List Str → Sum Nat (List Str)
  | [], _, known => .inr known
  | row :: r, i, known => match stepP m row known with
    | none => .inl i
    | some k => plainRun m r (i + 1) k
def taskRun (m : Str) (known : List Str) : List Str → Nat → List Bool → Option Nat
  | [], i, op => if op = [] then none else some i
  | row :: r, i, op => match taskW (spl row) m with
    | none => some i
    | some ws => if ws.all (fun x => decide (x ∈ known)) = false then some i
      else if (spl row).head? = some ("if" : Str) then taskRun m known r (i + 1) (op ++ [false])
      else if spl row = [("else" : Str)] then (if op = [] ∨ op.getLast? = some true then some i else taskRun m known r (i + 1) (op.dropLast ++ [true]))
      else if spl row = [("end" : Str)] then (if op = [] then some i else taskRun m known r (i + 1) op.dropLast)
      else taskRun m known r (i + 1) op
def taskErr (m : Str) (k c : List Str) : Option Bad := if 16 < c.length then some (.many "rows") else match taskRun m (k ++ ([("item" : Str), ("out" : Str)])) c 0 [] with
  | some i => some (.prog "task" i)
  | none => none
def callerErr (m : Str) (k b c : List Str) : Option Bad := if 6 < b.length then some (.many "rows") else match plainRun m b 0 k with
  | .inl i => some (.prog "caller" i)
  | .inr k2 => if min 4 (k.length + 2) < k2.length then some (.many "names") else taskErr m k c
def partsErr (m : Str) (a b c : List Str) : Option Bad := if 6 < a.length then some (.many "rows") else match plainRun m a 0 [] with
  | .inl i => some (.prog "module" i)
  | .inr k => if 3 < k.length then some (.many "globals") else callerErr m k b c
theorem parts_many {m : Str} {a b c : List Str} (h : 6 < a.length) : partsErr m a b c = some (.many "rows") := if_pos h
theorem parts_l {m : Str} {a b c : List Str} {i : Nat} (h : ¬ 6 < a.length) (e : plainRun m a 0 [] = .inl i) : partsErr m a b c = some (.prog "module" i) := by
  unfold partsErr
  rw [if_neg h, e]
theorem parts_r {m : Str} {a b c k : List Str} (h : ¬ 6 < a.length) (e : plainRun m a 0 [] = .inr k) : partsErr m a b c = if 3 < k.length then some (.many "globals") else callerErr m k b c := by
  unfold partsErr
  rw [if_neg h, e]
theorem caller_many {m : Str} {k b c : List Str} (h : 6 < b.length) : callerErr m k b c = some (.many "rows") := if_pos h
theorem caller_l {m : Str} {k b c : List Str} {i : Nat} (h : ¬ 6 < b.length) (e : plainRun m b 0 k = .inl i) : callerErr m k b c = some (.prog "caller" i) := by
  unfold callerErr
  rw [if_neg h, e]
theorem caller_r {m : Str} {k b c k2 : List Str} (h : ¬ 6 < b.length) (e : plainRun m b 0 k = .inr k2) : callerErr m k b c = if min 4 (k.length + 2) < k2.length then some (.many "names") else taskErr m k c := by
  unfold callerErr
  rw [if_neg h, e]
theorem task_many {m : Str} {k c : List Str} (h : 16 < c.length) : taskErr m k c = some (.many "rows") := if_pos h
theorem task_l {m : Str} {k c : List Str} {i : Nat} (h : ¬ 16 < c.length) (e : taskRun m (k ++ ([("item" : Str), ("out" : Str)])) c 0 [] = some i) : taskErr m k c = some (.prog "task" i) := by
  unfold taskErr
  rw [if_neg h, e]
theorem task_r {m : Str} {k c : List Str} (h : ¬ 16 < c.length) (e : taskRun m (k ++ ([("item" : Str), ("out" : Str)])) c 0 [] = none) : taskErr m k c = none := by
  unfold taskErr
  rw [if_neg h, e]
def progErr (m : Str) (a b c : List Str) : Option Bad := if marksP m = true then partsErr m a b c else some (.prog "marks" (-1))
end K27

set_option maxRecDepth 100000
set_option maxHeartbeats 4000000
/-! what the readings of this program's rules evaluate to -/
namespace K27
open PySem PySem.Spec PyProof.Rows L2 Evl
/-! ### values -/
theorem eqV_str {x y : Str} : eqV (.str y) (.str x) = decide (x = y) := by
  show (y == x) = decide (x = y)
  rw [Bool.eq_iff_iff, decide_eq_true_iff, beq_iff_eq]
  exact eq_comm
theorem inV_str {x : Str} : ∀ {l : List Str}, inV (.str x) (l.map V.str) = decide (x ∈ l)
  | [] => by simp [inV]
  | y :: l => by
    have ih := inV_str (x := x) (l := l)
    show (eqV (.str y) (.str x) || inV (.str x) (l.map V.str)) = _
    rw [ih, eqV_str, Bool.eq_iff_iff]
    simp
theorem flat_strs {l : List Str} : (l.map V.str).all flatV = true := List.all_eq_true.mpr fun v hv => by
  obtain ⟨x, _, rfl⟩ := List.mem_map.mp hv
  rfl
theorem dp_strs {K : PySem.W.Frag} {H : Hp} : ∀ {l : List Str}, DpAll K H (l.map V.str) (l.map PyData.str)
  | [] => .nil
  | x :: l => .cons (.str x) dp_strs
theorem eqv_strs : ∀ {l m : List Str}, PyData.eqvAll (l.map PyData.str) (m.map PyData.str) = decide (l = m)
  | [], [] => rfl
  | [], _ :: _ => rfl
  | _ :: _, [] => rfl
  | x :: l, y :: m => by
    show ((x == y) && PyData.eqvAll (l.map PyData.str) (m.map PyData.str)) = _
    rw [eqv_strs, Bool.eq_iff_iff]
    simp
/-- a short plain text -/
def Tk (b : Nat) (z : Str) : Prop := z.length ≤ b ∧ ∀ c ∈ z.cps.toList, c < 128
theorem Tk.mono {a b : Nat} {z : Str} (h : Tk a z) (hb : a ≤ b) : Tk b z := ⟨Nat.le_trans h.1 hb, h.2⟩
theorem Tk.ok {b : Nat} {z : Str} (h : Tk b z) : PyData.strOk z = true := Array.all_eq_true_iff_forall_mem.mpr fun c hc => by
  have := h.2 c (by simpa using hc)
  exact decide_eq_true (by omega)
theorem lay_strs : ∀ {l : List Str}, (∀ x ∈ l, PyData.strOk x = true) → PyData.canLayAll0 (l.map PyData.str) = true
  | [], _ => rfl
  | x :: l, h => Bool.and_eq_true_iff.mpr ⟨h x List.mem_cons_self, lay_strs fun y hy => h y (List.mem_cons_of_mem _ hy)⟩
theorem depth_strs : ∀ {l : List Str}, PyData.depthAll (l.map PyData.str) = 0
  | [] => rfl
  | x :: l => by
    show max 0 (PyData.depthAll (l.map PyData.str)) = 0
    rw [depth_strs]
    rfl
theorem shaped_strs {l : List Str} (h : ∀ x ∈ l, PyData.strOk x = true) : SeqAt.shaped (.list (l.map PyData.str)) = true := Bool.and_eq_true_iff.mpr ⟨lay_strs h, decide_eq_true (by
  show PyData.depthAll (l.map PyData.str) + 1 ≤ 64
  rw [depth_strs]
  omega)⟩
/-! ### a list that is read, one that is ours -/
def EvQ (K : PySem.W.Frag) (te : TE) (σ : L2.St) (H : Hp) (xs : List V) : Prop := ∀ H1, Ex H H1 → ∀ Q : VK, (∀ p H2, Ex H1 H2 → SqL K H2 p xs → Q (.ref p) H2) → te σ H1 Q
def EvM (te : TE) (σ : L2.St) (H : Hp) (xs : List V) : Prop := ∀ H1, Ex H H1 → ∀ Q : VK, (∀ p H2, Ex H1 H2 → H2 p = some (.lst xs) → Q (.ref p) H2) → te σ H1 Q
section
variable {K : PySem.W.Frag} {σ : L2.St} {H H' : Hp} {ta tb tc te tx : TE} {t u : TT} {x y z v : V} {r : R2}
theorem EvL.m {xs : List V} (h : EvL te σ H xs) : EvM te σ H xs := fun H1 e Q q => h H1 e Q fun p H2 _ e2 h2 => q p H2 e2 h2
theorem EvM.q {xs : List V} (h : EvM te σ H xs) : EvQ K te σ H xs := fun H1 e Q q => h H1 e Q fun p H2 e2 h2 => q p H2 e2 (sq_of h2)
theorem EvL.q {xs : List V} (h : EvL te σ H xs) : EvQ K te σ H xs := EvM.q (EvL.m h)
theorem em_of {p : Addr} {xs : List V} (h : Ev te σ H (.ref p)) (hp : H p = some (.lst xs)) : EvM te σ H xs := fun H1 e Q q => h H1 e Q fun H2 e2 => q p H2 e2 (e2 _ _ (e _ _ hp))
theorem eq_of {p : Addr} {xs : List V} (h : Ev te σ H (.ref p)) (hp : SqL K H p xs) : EvQ K te σ H xs := fun H1 e Q q => h H1 e Q fun H2 e2 => q p H2 e2 (ex_l e2 (ex_l e hp))
theorem EvM.mono {xs : List V} (e : Ex H H') (h : EvM te σ H xs) : EvM te σ H' xs := fun H1 a Q q => h H1 (e.trans a) Q q
theorem EvQ.mono {xs : List V} (e : Ex H H') (h : EvQ K te σ H xs) : EvQ K te σ H' xs := fun H1 a Q q => h H1 (e.trans a) Q q
theorem el_is {xs ys : List V} (h : EvL te σ H xs) (e : xs = ys) : EvL te σ H ys := by
  rw [← e]
  exact h
/-! ### numbers, texts -/
theorem rv_addI {i j : Int} : RV rAddI (.int i) (.int j) H (.int (i + j)) := fun H1 _ _ q => ⟨i, j, rfl, rfl, q H1 (Ex.refl H1)⟩
theorem rv_subI {i j : Int} : RV rSubI (.int i) (.int j) H (.int (i - j)) := fun H1 _ _ q => ⟨i, j, rfl, rfl, q H1 (Ex.refl H1)⟩
theorem rv_ltI {i j : Int} : RV rLtI (.int i) (.int j) H (.bl (decide (i < j))) := fun H1 _ _ q => ⟨i, j, rfl, rfl, q H1 (Ex.refl H1)⟩
theorem rv_leI {i j : Int} : RV rLeI (.int i) (.int j) H (.bl (decide (i ≤ j))) := fun H1 _ _ q => ⟨i, j, rfl, rfl, q H1 (Ex.refl H1)⟩
theorem rv_gtI {i j : Int} : RV rGtI (.int i) (.int j) H (.bl (decide (j < i))) := fun H1 _ _ q => ⟨i, j, rfl, rfl, q H1 (Ex.refl H1)⟩
theorem rv_geI {i j : Int} : RV rGeI (.int i) (.int j) H (.bl (decide (j ≤ i))) := fun H1 _ _ q => ⟨i, j, rfl, rfl, q H1 (Ex.refl H1)⟩
theorem rv_eqS {a b : Str} : RV rEq (.str a) (.str b) H (.bl (decide (a = b))) := fun H1 _ _ q => ⟨rfl, by
  have e : decide (V.str a = V.str b) = decide (a = b) := by rw [Bool.eq_iff_iff]; simp
  rw [e]
  exact q H1 (Ex.refl H1)⟩
theorem rv_neS {a b : Str} : RV rNe (.str a) (.str b) H (.bl (!decide (a = b))) := fun H1 _ _ q => ⟨rfl, by
  have e : decide (V.str a = V.str b) = decide (a = b) := by rw [Bool.eq_iff_iff]; simp
  rw [e]
  exact q H1 (Ex.refl H1)⟩
theorem rv_eqI {a b : Int} : RV rEq (.int a) (.int b) H (.bl (decide (a = b))) := fun H1 _ _ q => ⟨rfl, by
  have e : decide (V.int a = V.int b) = decide (a = b) := by rw [Bool.eq_iff_iff]; simp
  rw [e]
  exact q H1 (Ex.refl H1)⟩
theorem rv_neI {a b : Int} : RV rNe (.int a) (.int b) H (.bl (!decide (a = b))) := fun H1 _ _ q => ⟨rfl, by
  have e : decide (V.int a = V.int b) = decide (a = b) := by rw [Bool.eq_iff_iff]; simp
  rw [e]
  exact q H1 (Ex.refl H1)⟩
theorem rv_inC {c : Nat} {z : Str} : RV rInC (.str ⟨#[c]⟩) (.str z) H (.bl (decide (c ∈ z.cps.toList))) := fun H1 _ _ q => ⟨c, z, rfl, rfl, q H1 (Ex.refl H1)⟩
theorem rv_niC {c : Nat} {z : Str} : RV rNiC (.str ⟨#[c]⟩) (.str z) H (.bl (!decide (c ∈ z.cps.toList))) := fun H1 _ _ q => ⟨c, z, rfl, rfl, q H1 (Ex.refl H1)⟩
theorem rv_leT {a b : Str} : RV rLeT (.str a) (.str b) H (.bl (!decide (b.cps.toList < a.cps.toList))) := fun H1 _ _ q => ⟨a, b, rfl, rfl, q H1 (Ex.refl H1)⟩
theorem rv_isNon {a : V} : RV rIsNon a .non H (.bl (decide (a = .non))) := fun H1 _ _ q => ⟨rfl, q H1 (Ex.refl H1)⟩
theorem rv_notNon {a : V} : RV rNotNon a .non H (.bl (!decide (a = .non))) := fun H1 _ _ q => ⟨rfl, q H1 (Ex.refl H1)⟩
theorem rv_inLS {neg : Bool} {p : Addr} {l : List Str} {a : Str} (h : SqL K H p (l.map V.str)) : RV (rIn K neg) (.str a) (.ref p) H (.bl (if neg then !decide (a ∈ l) else decide (a ∈ l))) := by
  rw [← inV_str]
  exact rv_inL h rfl flat_strs
theorem rv_inTS {neg : Bool} {p : Addr} {l : List Str} {a : Str} (h : SqT K H p (l.map V.str)) : RV (rIn K neg) (.str a) (.ref p) H (.bl (if neg then !decide (a ∈ l) else decide (a ∈ l))) := by
  rw [← inV_str]
  exact rv_inT h rfl flat_strs
theorem ev_inUS {l : List Str} {a : Str} (ha : Ev ta σ H (.str a)) (hb : EvU tb σ H (l.map V.str)) : Ev (tOp (rIn K false) ta tb) σ H (.bl (decide (a ∈ l))) := by
  rw [← inV_str]
  exact ev_inU ha hb rfl flat_strs
theorem ev_lenT {s : Str} (h : Ev te σ H (.str s)) (hz : s.length ≤ 100000) : Ev (tCB rLenT (tCons te tNil)) σ H (.int s.length) := fun H1 e Q q => h H1 e _ fun H2 e2 => ⟨s, rfl, sz_of hz, q H2 e2⟩
theorem ev_lenQ {xs : List V} (h : EvQ K te σ H xs) : Ev (tCB (rLenQ K) (tCons te tNil)) σ H (.int xs.length) := fun H1 e Q q => h H1 e _ fun p H2 e2 h2 => ⟨p, xs, rfl, .inl h2, q H2 e2⟩
theorem ev_lenU {p : Addr} {xs : List V} (h : Ev te σ H (.ref p)) (hp : SqT K H p xs) : Ev (tCB (rLenQ K) (tCons te tNil)) σ H (.int xs.length) := fun H1 e Q q => h H1 e _ fun H2 e2 => ⟨p, xs, rfl, .inr (ex_t e2 (ex_t e hp)), q H2 e2⟩
theorem ev_min2 {i j : Int} (ha : Ev ta σ H (.int i)) (hb : Ev tb σ H (.int j)) : Ev (tCB rMin2 (tCons ta (tCons tb tNil))) σ H (.int (if j < i then j else i)) := fun H1 e Q q =>
  ha H1 e _ fun H2 e2 => hb H2 (e.trans e2) _ fun H3 e3 => ⟨i, j, rfl, q H3 (e2.trans e3)⟩
theorem ev_chainLe {i j k : Int} (ha : Ev ta σ H (.int i)) (hb : Ev tb σ H (.int j)) (hc : Ev tc σ H (.int k)) : Ev (tChain rLeI rLeI ta tb tc) σ H (.bl (decide (i ≤ j) && decide (j ≤ k))) := fun H1 e Q q =>
  ha H1 e _ fun H2 e2 => hb H2 (e.trans e2) _ fun H3 e3 => ⟨i, j, rfl, rfl, decide (i ≤ j), rfl, by
    cases h : decide (i ≤ j) with
    | true => exact hc H3 ((e.trans e2).trans e3) _ fun H4 e4 => ⟨j, k, rfl, rfl, by
        have g := q H4 ((e2.trans e3).trans e4)
        rw [h] at g
        exact g⟩
    | false =>
      have g := q H3 (e2.trans e3)
      rw [h] at g
      exact g⟩
theorem ev_slS {s : Str} {tl th : TO} {lo hi : Option Int} (h : Ev te σ H (.str s)) (h1 : EvO tl σ H lo) (h2 : EvO th σ H hi) (hz : s.length ≤ 100000) : Ev (tSl rSlS te tl th) σ H (.str (cutS s lo hi)) := fun H1 e Q q =>
  h H1 e _ fun H2 e2 => h1 H2 (e.trans e2) _ fun H3 e3 => h2 H3 ((e.trans e2).trans e3) _ fun H4 e4 => ⟨s, rfl, sz_of hz, q H4 ((e2.trans e3).trans e4)⟩
theorem el_slQ {tl th : TO} {xs : List V} {lo hi : Option Int} (h : EvQ K te σ H xs) (h1 : EvO tl σ H lo) (h2 : EvO th σ H hi) : EvL (tSl (rSlL K) te tl th) σ H (cutV xs lo hi) := fun H1 e Q q =>
  h H1 e _ fun a H2 e2 hs => h1 H2 (e.trans e2) _ fun H3 e3 => h2 H3 ((e.trans e2).trans e3) _ fun H4 e4 =>
    ⟨a, xs, rfl, ex_l (e3.trans e4) hs, fun p hp => q p _ (fresh_back ((e2.trans e3).trans e4) hp) (((e2.trans e3).trans e4).trans (Ex.new hp)) upd_same⟩
theorem ev_all {bs : List Bool} (h : EvQ K te σ H (bs.map V.bl)) : Ev (tCB (rAll K) (tCons te tNil)) σ H (.bl (bs.all id)) := fun H1 e Q q => h H1 e _ fun p H2 e2 h2 => ⟨p, bs, rfl, h2, q H2 e2⟩
theorem el_split {a b : Str} (ha : Ev ta σ H (.str a)) (hb : Ev tb σ H (.str b)) (h0 : (b.length == 0) = false) (hz : a.length ≤ 100000) : EvL (tM1 rSplit ta tb) σ H ((Txt.split a b).map V.str) := fun H1 e Q q =>
  ha H1 e _ fun H2 e2 => ⟨⟨a, rfl⟩, hb H2 (e.trans e2) _ fun H3 e3 => ⟨a, b, rfl, rfl, h0, Nat.le_trans (Nat.add_le_add_right hz 2) (by decide), fun p hp => q p _ (fresh_back (e2.trans e3) hp) ((e2.trans e3).trans (Ex.new hp)) upd_same⟩⟩
theorem ev_join {a : Str} {ys : List Str} (ha : Ev ta σ H (.str a)) (hb : EvQ K tb σ H (ys.map V.str)) (hz : (ys.map (·.length)).sum + ys.length * a.length ≤ 16777216) : Ev (tM1 (rJoin K) ta tb) σ H (.str (Txt.join a ys)) := fun H1 e Q q =>
  ha H1 e _ fun H2 e2 => ⟨⟨a, rfl⟩, hb H2 (e.trans e2) _ fun p H3 e3 hp => ⟨a, p, ys, rfl, rfl, .inl hp, hz, q H3 (e2.trans e3)⟩⟩
theorem ev_isiS {s : Str} (h : Ev te σ H (.str s)) : Ev (tCB (rIsi K) (tCons te (tCons (tC (.ty "str")) tNil))) σ H (.bl true) := fun H1 e Q q => h H1 e _ fun H2 e2 =>
  ⟨.str s, .ty "str", .type "str", .type "str", true, rfl, .ty "str", .base (.str s), kit_ty (by decide +kernel), q H2 e2⟩
theorem el_cat {xs zs : List V} (ha : EvM ta σ H xs) (hb : EvM tb σ H zs) (hz : xs.length + zs.length ≤ 100000) : EvL (tOp rCat ta tb) σ H (xs ++ zs) := fun H1 e Q q =>
  ha H1 e _ fun l H2 e2 hl => hb H2 (e.trans e2) _ fun b H3 e3 hb => ⟨l, b, xs, zs, rfl, rfl, e3 _ _ hl, hb, sz_of hz, fun p hp => q p _ (fresh_back (e2.trans e3) hp) ((e2.trans e3).trans (Ex.new hp)) upd_same⟩
theorem el_listQ {xs : List V} (h : EvQ K te σ H xs) : EvL (tCB (rListQ K) (tCons te tNil)) σ H xs := fun H1 e Q q =>
  h H1 e _ fun p H2 e2 h2 => ⟨p, xs, rfl, .inl h2, fun l hl => q l _ (fresh_back e2 hl) (e2.trans (Ex.new hl)) upd_same⟩
theorem el_listU {p : Addr} {xs : List V} (h : Ev te σ H (.ref p)) (hp : SqT K H p xs) : EvL (tCB (rListQ K) (tCons te tNil)) σ H xs := fun H1 e Q q =>
  h H1 e _ fun H2 e2 => ⟨p, xs, rfl, .inr (ex_t e2 (ex_t e hp)), fun l hl => q l _ (fresh_back e2 hl) (e2.trans (Ex.new hl)) upd_same⟩
theorem dp_q {p : Addr} {l : List Str} (h : SqL K H p (l.map V.str)) : Dp K H (.ref p) (.list (l.map PyData.str)) := .lst h dp_strs
theorem ev_eqSS {l m : List Str} (hl : ∀ x ∈ l, PyData.strOk x = true) (hm : ∀ x ∈ m, PyData.strOk x = true) (ha : EvQ K ta σ H (l.map V.str)) (hb : EvQ K tb σ H (m.map V.str)) : Ev (tOp (rEqD K) ta tb) σ H (.bl (decide (l = m))) := fun H1 e Q q =>
  ha H1 e _ fun p H2 e2 hp => hb H2 (e.trans e2) _ fun b H3 e3 hb => ⟨_, _, dp_q (ex_l e3 hp), dp_q hb, shaped_strs hl, shaped_strs hm, by
    have g := q H3 (e2.trans e3)
    rw [← eqv_strs] at g
    exact g⟩
theorem ev_neSS {l m : List Str} (hl : ∀ x ∈ l, PyData.strOk x = true) (hm : ∀ x ∈ m, PyData.strOk x = true) (ha : EvQ K ta σ H (l.map V.str)) (hb : EvQ K tb σ H (m.map V.str)) : Ev (tOp (rNeD K) ta tb) σ H (.bl (!decide (l = m))) := fun H1 e Q q =>
  ha H1 e _ fun p H2 e2 hp => hb H2 (e.trans e2) _ fun b H3 e3 hb => ⟨_, _, dp_q (ex_l e3 hp), dp_q hb, shaped_strs hl, shaped_strs hm, by
    have g := q H3 (e2.trans e3)
    rw [← eqv_strs] at g
    exact g⟩
theorem ev_ixQ {xs : List V} {i : Int} (h : EvQ K ta σ H xs) (hi : Ev tb σ H (.int i)) (ha : atI xs i = some v) : Ev (tOp (rIxL K) ta tb) σ H v := fun H1 e Q q =>
  h H1 e _ fun p H2 e2 h2 => hi H2 (e.trans e2) _ fun H3 e3 => ⟨p, xs, i, v, rfl, rfl, ex_l e3 h2, ha, q H3 (e2.trans e3)⟩
/-! ### comprehensions -/
theorem el_lc {α : Type} {J : It} {Y : Nat → Hp → V → Hp → Prop} {G : Hp → Prop} {j : Nat} {vs : List Nat} {tt : TT} (xs : List α) (f : α → Bool) (g : α → V) (val : α → V) (w : Walk J xs.length G Y) (hG : ∀ H1, Ex H H1 → G H1)
    (hY : ∀ i H1 x H2, Y i H1 x H2 → H2 = H1 ∧ ∃ a, xs[i]? = some a ∧ x = val a) (hz : xs.length ≤ 100000) (hw : ∀ x, wipe ((wipe σ vs).set j (some x)) vs = wipe σ vs)
    (ht : ∀ a ∈ xs, EvT tt ((wipe σ vs).set j (some (val a))) H (f a)) (he : ∀ a ∈ xs, f a = true → Ev te ((wipe σ vs).set j (some (val a))) H (g a)) {H1 : Hp} (e1 : Ex H H1) {Q : VK}
    (q : ∀ p H2, H1 p = none → Ex H1 H2 → H2 p = some (.lst ((xs.filter f).map g)) → Q (.ref p) H2) :
    ∀ D, H1 D = none → ∃ W : Nat → Nat → Hp → Prop, (∃ m, W 0 m (upd H1 D (.lst []))) ∧ ∀ i m H, W i m H →
      (J.stop i H ∧ Q (.ref D) H) ∨ (J.go i H ∧ ∃ Nx : Hp → Prop, (∀ H', Nx H' → ∃ m', m' < m ∧ W (i + 1) m' H') ∧ ∀ x H', J.yld i H x H' → gName j x (wipe σ vs) H' fun σ2 H2 => wipe σ2 vs = wipe σ vs ∧ tt σ2 H2 fun b H3 =>
        if b = true then te σ2 H3 fun y H4 => ∃ acc, H4 D = some (.lst acc) ∧ acc.length < sizeLine ∧ Nx (upd H4 D (.lst (acc ++ [y]))) else Nx H3) := fun Dl hD =>
  lc_it w (fun i H2 => H1 Dl = none ∧ Ex H1 H2 ∧ H2 Dl = some (.lst (((xs.take i).filter f).map g))) ⟨hD, Ex.new hD, upd_same⟩ (fun i H2 _ p => hG H2 (e1.trans p.2.1)) (fun i x H2 H2' hi p y => by
    obtain ⟨rfl, a, ha, rfl⟩ := hY i H2 x H2' y
    obtain ⟨p1, p2, p3⟩ := p
    have hm : a ∈ xs := List.mem_of_getElem? ha
    have htk : xs.take (i + 1) = xs.take i ++ [a] := by
      rw [List.take_add_one, ha]
      rfl
    refine ⟨hw _, ht a hm H2' (e1.trans p2) _ fun H3 e3 => ?_⟩
    cases hf : f a with
    | true =>
      refine he a hm hf H3 ((e1.trans p2).trans e3) _ fun H4 e4 => ⟨_, e4 _ _ (e3 _ _ p3), ?_, p1, Ex.mut ((p2.trans e3).trans e4) p1, ?_⟩
      · rw [List.length_map]
        have h1 := List.length_filter_le f (xs.take i)
        rw [List.length_take] at h1
        exact sz_lt (by omega)
      · rw [htk, List.filter_append, List.map_append, List.filter_cons, if_pos hf]
        exact upd_same
    | false =>
      refine ⟨p1, p2.trans e3, ?_⟩
      rw [htk, List.filter_append, List.map_append, List.filter_cons, if_neg (by rw [hf]; decide)]
      show H3 Dl = some (.lst (_ ++ []))
      rw [List.append_nil]
      exact e3 _ _ p3) (fun H2 p => q Dl H2 p.1 p.2.1 (by
      have h := p.2.2
      rw [List.take_length] at h
      exact h))
theorem str_at {s : Str} {i c : Nat} (h : s.cps[i]? = some c) : s.cps.toList[i]? = some c := by
  rw [Array.getElem?_toList]
  exact h
/-- over a text's signs -/
theorem el_lcS {s : Str} {j : Nat} {vs : List Nat} {tt : TT} (f : Nat → Bool) (g : Nat → V) (h : Ev ta σ H (.str s)) (hz : s.length ≤ 100000) (hw : ∀ x, wipe ((wipe σ vs).set j (some x)) vs = wipe σ vs)
    (ht : ∀ c ∈ s.cps.toList, EvT tt ((wipe σ vs).set j (some (.str ⟨#[c]⟩))) H (f c)) (he : ∀ c ∈ s.cps.toList, f c = true → Ev te ((wipe σ vs).set j (some (.str ⟨#[c]⟩))) H (g c)) :
    EvL (tLc (iStr ta) (gName j) tt te vs) σ H ((s.cps.toList.filter f).map g) := fun H0 e Q q => h H0 e _ fun H1 e1 => ⟨s, rfl,
  el_lc s.cps.toList f g (fun c => .str ⟨#[c]⟩) (Y := fun i H v H' => H' = H ∧ ∃ c, s.cps[i]? = some c ∧ v = .str ⟨#[c]⟩) (G := fun _ => True) (by
    have w := walk_str (z := s)
    rw [← Array.length_toList] at w
    exact w) (fun _ _ => trivial) (fun i H1 x H2 ⟨y1, c, y2, y3⟩ => ⟨y1, c, str_at y2, y3⟩) (by rw [Array.length_toList]; exact hz) hw ht he (e.trans e1) fun p H2 hp e2 h2 => q p H2 (fresh_back e1 hp) (e1.trans e2) h2⟩
/-- over a list of texts -/
theorem el_lcQ {l : List Str} {j : Nat} {vs : List Nat} {tt : TT} (f : Str → Bool) (g : Str → V) (h : EvQ K ta σ H (l.map V.str)) (hz : l.length ≤ 100000) (hw : ∀ x, wipe ((wipe σ vs).set j (some x)) vs = wipe σ vs)
    (ht : ∀ c ∈ l, EvT tt ((wipe σ vs).set j (some (.str c))) H (f c)) (he : ∀ c ∈ l, f c = true → Ev te ((wipe σ vs).set j (some (.str c))) H (g c)) :
    EvL (tLc (iList K ta) (gName j) tt te vs) σ H ((l.filter f).map g) := fun H0 e Q q => h H0 e _ fun a H1 e1 ha => ⟨a, rfl, ⟨_, ha⟩,
  el_lc (H := H1) l f g V.str (Y := YAt (l.map V.str)) (G := fun H => SqL K H a (l.map V.str)) (by
    have w := walk_list (K := K) (a := a) (xs := l.map V.str)
    rw [List.length_map] at w
    exact w) (fun H2 e2 => ex_l e2 ha) (fun i H1 x H2 y => ⟨y.1, by
      have y2 := y.2
      rw [List.getElem?_map] at y2
      cases hl : l[i]? with
      | none =>
        rw [hl] at y2
        cases y2
      | some c =>
        rw [hl] at y2
        exact ⟨c, rfl, (Option.some.inj y2).symm⟩⟩) hz hw (fun c hc => (ht c hc).mono (e.trans e1)) (fun c hc hf => (he c hc hf).mono (e.trans e1)) (Ex.refl H1) fun p H2 hp e2 h2 => q p H2 (fresh_back e1 hp) (e1.trans e2) h2⟩
theorem et_yes : EvT tYes σ H true := fun H1 _ _ q => q H1 (Ex.refl H1)
theorem filt_yes {α : Type} (l : List α) : l.filter (fun _ => true) = l := by
  induction l with
  | nil => rfl
  | cons x l ih => rw [List.filter_cons, if_pos rfl, ih]
theorem all_map {α : Type} (l : List α) (b : α → Bool) : (l.map b).all id = l.all b := by
  induction l with
  | nil => rfl
  | cons x l ih => rw [List.map_cons, List.all_cons, List.all_cons, ih]; rfl
/-- all([.. for c in text]) -/
theorem ev_allS {s : Str} {j : Nat} {vs : List Nat} (b : Nat → Bool) (h : Ev ta σ H (.str s)) (hz : s.length ≤ 100000) (hw : ∀ x, wipe ((wipe σ vs).set j (some x)) vs = wipe σ vs)
    (he : ∀ c ∈ s.cps.toList, Ev te ((wipe σ vs).set j (some (.str ⟨#[c]⟩))) H (.bl (b c))) : Ev (tCB (rAll K) (tCons (tLc (iStr ta) (gName j) tYes te vs) tNil)) σ H (.bl (s.cps.toList.all b)) := by
  rw [← all_map]
  refine ev_all (EvL.q (el_is (el_lcS (fun _ => true) (fun c => .bl (b c)) h hz hw (fun _ _ => et_yes) fun c hc _ => he c hc) ?_))
  rw [filt_yes, List.map_map]
  rfl
theorem ev_allQ {l : List Str} {j : Nat} {vs : List Nat} (b : Str → Bool) (h : EvQ K ta σ H (l.map V.str)) (hz : l.length ≤ 100000) (hw : ∀ x, wipe ((wipe σ vs).set j (some x)) vs = wipe σ vs)
    (he : ∀ c ∈ l, Ev te ((wipe σ vs).set j (some (.str c))) H (.bl (b c))) : Ev (tCB (rAll K) (tCons (tLc (iList K ta) (gName j) tYes te vs) tNil)) σ H (.bl (l.all b)) := by
  rw [← all_map]
  refine ev_all (EvL.q (el_is (el_lcQ (fun _ => true) (fun c => .bl (b c)) h hz hw (fun _ _ => et_yes) fun c hc _ => he c hc) ?_))
  rw [filt_yes, List.map_map]
  rfl
theorem el_filt {l : List Str} {j : Nat} {vs : List Nat} {tt : TT} (f : Str → Bool) (h : EvQ K ta σ H (l.map V.str)) (hz : l.length ≤ 100000) (hw : ∀ x, wipe ((wipe σ vs).set j (some x)) vs = wipe σ vs)
    (ht : ∀ c ∈ l, EvT tt ((wipe σ vs).set j (some (.str c))) H (f c)) (he : ∀ c ∈ l, f c = true → Ev te ((wipe σ vs).set j (some (.str c))) H (.str c)) : EvL (tLc (iList K ta) (gName j) tt te vs) σ H ((l.filter f).map V.str) :=
  el_lcQ f V.str h hz hw ht he
/-! ### calls whose first argument is a list -/
def EvAQ (K : PySem.W.Frag) (ta : TA) (σ : L2.St) (H : Hp) (xs : List V) (vs : List V) : Prop := ∀ H1, Ex H H1 → ∀ Q : List V → Hp → Prop, (∀ p H2, Ex H1 H2 → SqL K H2 p xs → Q (.ref p :: vs) H2) → ta σ H1 Q
theorem eaq {tr : TA} {xs vs : List V} (h : EvQ K te σ H xs) (hr : EvA tr σ H vs) : EvAQ K (tCons te tr) σ H xs vs := fun H1 e Q q =>
  h H1 e _ fun p H2 e2 h2 => hr H2 (e.trans e2) _ fun H3 e3 => q p H3 (e2.trans e3) (ex_l e3 h2)
theorem ev_callQ {sp : Sp} {dvs vs xs : List V} {E : XK} {ta : TA} (h : EvAQ K ta σ H xs vs) (hs : ∀ p H1, Ex H H1 → SqL K H1 p xs → SpV sp ((.ref p :: vs) ++ dvs) H1 z) : Ev (tCall sp dvs E ta) σ H z := fun H1 e Q q =>
  h H1 e _ fun p H2 e2 h2 => hs p H2 (e.trans e2) h2 H2 (Ex.refl H2) Q (fun H3 e3 => q H3 (e2.trans e3)) E
theorem el_callQ {sp : Sp} {dvs vs xs ys : List V} {E : XK} {ta : TA} (h : EvAQ K ta σ H xs vs) (hs : ∀ p H1, Ex H H1 → SqL K H1 p xs → SpL sp ((.ref p :: vs) ++ dvs) H1 ys) : EvL (tCall sp dvs E ta) σ H ys := fun H1 e Q q =>
  h H1 e _ fun p H2 e2 h2 => hs p H2 (e.trans e2) h2 H2 (Ex.refl H2) Q (fun p H3 hp e3 h3 => q p H3 (fresh_back e2 hp) (e2.trans e3) h3) E
end
/-! ### statements, from a heap on -/
def Go (t : TS) (D : Ends) (σ : L2.St) (H : Hp) : Prop := ∀ H1, Ex H H1 → t D σ H1
section
variable {K : PySem.W.Frag} {σ : L2.St} {H H' : Hp} {ta tb tc te tx : TE} {tt : TT} {x y z v : V} {D : Ends} {t u tu tw : TS} {g : TG}
theorem Go.mono (h : Go t D σ H) (e : Ex H H') : Go t D σ H' := fun H1 e1 => h H1 (e.trans e1)
theorem go_run (h : Go t D σ H) : t D σ H := h H (Ex.refl H)
theorem g_seq (h : Go t { D with nx := u D } σ H) : Go (tSeq t u) D σ H := h
theorem g_nx (h : ∀ H1, Ex H H1 → D.nx σ H1) : Go tNext D σ H := h
theorem g_asg {i : Nat} (h : Ev te σ H v) (k : ∀ H1, Ex H H1 → D.nx (σ.set i (some v)) H1) : Go (tAsg te (gName i)) D σ H := fun H1 e => h H1 e _ fun H2 e2 => k H2 (e.trans e2)
theorem g_asgL {i : Nat} {xs : List V} (h : EvL te σ H xs) (k : ∀ p H1, H p = none → Ex H H1 → H1 p = some (.lst xs) → ∀ H2, Ex H1 H2 → D.nx (σ.set i (some (.ref p))) H2) : Go (tAsg te (gName i)) D σ H := fun H1 e => h H1 e _ fun p H2 hp e2 h2 => k p H2 (fresh_back e hp) (e.trans e2) h2 H2 (Ex.refl H2)
theorem g_if {b : Bool} (h : EvT tt σ H b) (h1 : b = true → Go tu D σ H) (h2 : b = false → Go tw D σ H) : Go (tIfS tt tu tw) D σ H := fun H1 e => h H1 e _ fun H2 e2 => by
  cases b with
  | true => exact h1 rfl H2 (e.trans e2)
  | false => exact h2 rfl H2 (e.trans e2)
theorem g_ret (h : Ev te σ H v) (k : ∀ H1, Ex H H1 → D.rt v H1) : Go (tRet te) D σ H := fun H1 e => h H1 e _ fun H2 e2 => k H2 (e.trans e2)
theorem g_retL {xs : List V} (h : EvL te σ H xs) (k : ∀ p H1, H p = none → Ex H H1 → H1 p = some (.lst xs) → D.rt (.ref p) H1) : Go (tRet te) D σ H := fun H1 e => h H1 e _ fun p H2 hp e2 h2 => k p H2 (fresh_back e hp) (e.trans e2) h2
theorem g_retU {xs : List V} (h : EvU te σ H xs) (k : ∀ p H1, H p = none → Ex H H1 → H1 p = some (.tup xs) → D.rt (.ref p) H1) : Go (tRet te) D σ H := fun H1 e => h H1 e _ fun p H2 hp e2 h2 => k p H2 (fresh_back e hp) (e.trans e2) h2
theorem g_unl3 {a : Addr} {v1 v2 v3 : V} {i j k : Nat} (h : Ev te σ H (.ref a)) (ha : SqL K H a [v1, v2, v3]) (q : ∀ H1, Ex H H1 → D.nx (((σ.set i (some v1)).set j (some v2)).set k (some v3)) H1) :
    Go (tAsg te (gUnl K 3 (gCons (gName i) (gCons (gName j) (gCons (gName k) gNil))))) D σ H := fun H1 e => h H1 e _ fun H2 e2 =>
  ⟨a, _, rfl, ex_l (e.trans e2) ha, rfl, v1, _, rfl, v2, _, rfl, v3, _, rfl, rfl, q H2 (e.trans e2)⟩
theorem g_tup2 {a : Addr} {v1 v2 : V} {i j : Nat} (h : Ev te σ H (.ref a)) (ha : SqT K H a [v1, v2]) (q : ∀ H1, Ex H H1 → D.nx ((σ.set i (some v1)).set j (some v2)) H1) :
    Go (tAsg te (gTup K 2 (gCons (gName i) (gCons (gName j) gNil)))) D σ H := fun H1 e => h H1 e _ fun H2 e2 =>
  ⟨a, _, rfl, ex_t (e.trans e2) ha, rfl, v1, _, rfl, v2, _, rfl, rfl, q H2 (e.trans e2)⟩
/-- over a text: a word of the turn and the slots -/
theorem g_forS {s : Str} {j : Nat} (h : Ev te σ H (.str s)) (Pv : Nat → L2.St → Prop) (h0 : Pv 0 σ)
    (hs : ∀ i c σ', s.cps.toList[i]? = some c → Pv i σ' → Go tu { D with nx := fun σ2 H2 => Pv (i + 1) σ2 ∧ Ex H H2, ct := fun σ2 H2 => Pv (i + 1) σ2 ∧ Ex H H2, bk := D.nx } (σ'.set j (some (.str ⟨#[c]⟩))) H)
    (hd : ∀ σ', Pv s.cps.toList.length σ' → ∀ H1, Ex H H1 → D.nx σ' H1) : Go (tFor (iStr te) (gName j) tu) D σ H := fun H1 e => h H1 e _ fun H2 e2 => ⟨s, rfl,
  for_it walk_str (fun i σ' H' => Pv i σ' ∧ Ex H H') ⟨h0, e.trans e2⟩ (fun _ _ _ _ _ => trivial) (fun i x σ' H3 H4 _ p y => by
    obtain ⟨rfl, c, hc, rfl⟩ := y
    exact hs i c σ' (str_at hc) p.1 H4 p.2) (fun σ' H' p => hd σ' (by rw [Array.length_toList]; exact p.1) H' p.2)⟩
/-! the same, something behind -/
variable {tz : TS}
theorem n_asg {i : Nat} (h : Ev te σ H v) (k : Go tz D (σ.set i (some v)) H) : Go (tSeq (tAsg te (gName i)) tz) D σ H := g_asg (D := { D with nx := tz D }) h k
theorem n_asgL {i : Nat} {xs : List V} (h : EvL te σ H xs) (k : ∀ p H1, H p = none → Ex H H1 → H1 p = some (.lst xs) → Go tz D (σ.set i (some (.ref p))) H1) : Go (tSeq (tAsg te (gName i)) tz) D σ H := g_asgL (D := { D with nx := tz D }) h fun p H1 a b c => k p H1 a b c
theorem n_if {b : Bool} (h : EvT tt σ H b) (h1 : b = true → Go tu { D with nx := tz D } σ H) (h2 : b = false → Go tw { D with nx := tz D } σ H) : Go (tSeq (tIfS tt tu tw) tz) D σ H := g_if (D := { D with nx := tz D }) h h1 h2
theorem n_when {b : Bool} (h : EvT tt σ H b) (h1 : b = true → Go tu { D with nx := tz D } σ H) (h2 : b = false → Go tz D σ H) : Go (tSeq (tIfS tt tu tNext) tz) D σ H := g_if (D := { D with nx := tz D }) h h1 fun hb => h2 hb
theorem g_when {b : Bool} (h : EvT tt σ H b) (h1 : b = true → Go tu D σ H) (h2 : b = false → ∀ H1, Ex H H1 → D.nx σ H1) : Go (tIfS tt tu tNext) D σ H := g_if h h1 fun hb => h2 hb
theorem n_unl3 {a : Addr} {v1 v2 v3 : V} {i j k : Nat} (h : Ev te σ H (.ref a)) (ha : SqL K H a [v1, v2, v3]) (q : Go tz D (((σ.set i (some v1)).set j (some v2)).set k (some v3)) H) :
    Go (tSeq (tAsg te (gUnl K 3 (gCons (gName i) (gCons (gName j) (gCons (gName k) gNil))))) tz) D σ H := g_unl3 (D := { D with nx := tz D }) h ha q
theorem n_tup2 {a : Addr} {v1 v2 : V} {i j : Nat} (h : Ev te σ H (.ref a)) (ha : SqT K H a [v1, v2]) (q : Go tz D ((σ.set i (some v1)).set j (some v2)) H) :
    Go (tSeq (tAsg te (gTup K 2 (gCons (gName i) (gCons (gName j) gNil)))) tz) D σ H := g_tup2 (D := { D with nx := tz D }) h ha q
theorem n_forS {s : Str} {j : Nat} (h : Ev te σ H (.str s)) (Pv : Nat → L2.St → Prop) (h0 : Pv 0 σ)
    (hs : ∀ i c σ', s.cps.toList[i]? = some c → Pv i σ' → Go tu { D with nx := fun σ2 H2 => Pv (i + 1) σ2 ∧ Ex H H2, ct := fun σ2 H2 => Pv (i + 1) σ2 ∧ Ex H H2, bk := tz D } (σ'.set j (some (.str ⟨#[c]⟩))) H)
    (hd : ∀ σ', Pv s.cps.toList.length σ' → Go tz D σ' H) : Go (tSeq (tFor (iStr te) (gName j) tu) tz) D σ H := g_forS (D := { D with nx := tz D }) h Pv h0 hs hd
theorem el_if {b : Bool} {xs : List V} (h : EvT tt σ H b) (h1 : b = true → EvL ta σ H xs) (h2 : b = false → EvL tb σ H xs) : EvL (tIf tt ta tb) σ H xs := fun H1 e Q q => h H1 e _ fun H2 e2 => by
  cases b with
  | true => exact h1 rfl H2 (e.trans e2) Q fun p H3 hp e3 h3 => q p H3 (fresh_back e2 hp) (e2.trans e3) h3
  | false => exact h2 rfl H2 (e.trans e2) Q fun p H3 hp e3 h3 => q p H3 (fresh_back e2 hp) (e2.trans e3) h3
theorem g_retIf {b : Bool} (h : EvT tt σ H b) (h1 : b = true → Go (tRet ta) D σ H) (h2 : b = false → Go (tRet tb) D σ H) : Go (tRet (tIf tt ta tb)) D σ H := fun H1 e => h H1 e _ fun H2 e2 => by
  cases b with
  | true => exact h1 rfl H2 (e.trans e2)
  | false => exact h2 rfl H2 (e.trans e2)
theorem g_retM {xs : List V} (h : EvM te σ H xs) (k : ∀ p H1, Ex H H1 → H1 p = some (.lst xs) → D.rt (.ref p) H1) : Go (tRet te) D σ H := fun H1 e => h H1 e _ fun p H2 e2 h2 => k p H2 (e.trans e2) h2
theorem g_retMM {xs ys : List V} (h1 : EvM ta σ H xs) (h2 : EvM tb σ H ys) (k : ∀ q p1 p2 H1, Ex H H1 → H1 q = some (.tup [.ref p1, .ref p2]) → H1 p1 = some (.lst xs) → H1 p2 = some (.lst ys) → D.rt (.ref q) H1) :
    Go (tRet (tTup (tCons ta (tCons tb tNil)))) D σ H := fun H1 e => h1 H1 e _ fun p1 H2 e2 g1 => h2 H2 (e.trans e2) _ fun p2 H3 e3 g2 => ⟨sz_of (by show 2 ≤ 100000; omega), fun q hq =>
    k q p1 p2 _ (((e.trans e2).trans e3).trans (Ex.new hq)) upd_same (Ex.new hq _ _ (e3 _ _ g1)) (Ex.new hq _ _ g2)⟩
/-- x in ([a], [b], [c]) -/
theorem ev_in3 {t1 t2 t3 : TE} {l : List Str} {a b c : Str} (hl : ∀ x ∈ l, PyData.strOk x = true) (hs : PyData.strOk a = true ∧ PyData.strOk b = true ∧ PyData.strOk c = true) (h : EvQ K ta σ H (l.map V.str)) (h1 : EvL t1 σ H ([a].map V.str)) (h2 : EvL t2 σ H ([b].map V.str)) (h3 : EvL t3 σ H ([c].map V.str)) :
    Ev (tOp (rInTD K) ta (tTup (tCons t1 (tCons t2 (tCons t3 tNil))))) σ H (.bl (decide (l = [a] ∨ l = [b] ∨ l = [c]))) := fun H1 e Q q =>
  h H1 e _ fun p H2 e2 hp => h1 H2 (e.trans e2) _ fun p1 H3 _ e3 g1 => h2 H3 ((e.trans e2).trans e3) _ fun p2 H4 _ e4 g2 => h3 H4 (((e.trans e2).trans e3).trans e4) _ fun p3 H5 _ e5 g3 => ⟨sz_of (by show 3 ≤ 100000; omega), fun r hr => by
    have f1 : SqL K (upd H5 r (.tup [.ref p1, .ref p2, .ref p3])) p1 ([a].map V.str) := ex_l (Ex.new hr) (ex_l (e4.trans e5) (sq_of g1))
    have f2 : SqL K (upd H5 r (.tup [.ref p1, .ref p2, .ref p3])) p2 ([b].map V.str) := ex_l (Ex.new hr) (ex_l e5 (sq_of g2))
    have f3 : SqL K (upd H5 r (.tup [.ref p1, .ref p2, .ref p3])) p3 ([c].map V.str) := ex_l (Ex.new hr) (sq_of g3)
    refine ⟨_, [.list ([a].map PyData.str), .list ([b].map PyData.str), .list ([c].map PyData.str)], dp_q (ex_l (Ex.new hr) (ex_l ((e3.trans e4).trans e5) hp)), .tup (st_of upd_same) (.cons (dp_q f1) (.cons (dp_q f2) (.cons (dp_q f3) .nil))), shaped_strs hl, ?_, ?_⟩
    · obtain ⟨s1, s2, s3⟩ := hs
      refine Bool.and_eq_true_iff.mpr ⟨?_, rfl⟩
      show (PyData.canLayAll0 [.str a] && (PyData.canLayAll0 [.str b] && (PyData.canLayAll0 [.str c] && true))) = true
      show ((PyData.strOk a && true) && ((PyData.strOk b && true) && ((PyData.strOk c && true) && true))) = true
      rw [s1, s2, s3]
      rfl
    · have g := q (upd H5 r (.tup [.ref p1, .ref p2, .ref p3])) ((((e2.trans e3).trans e4).trans e5).trans (Ex.new hr))
      have ee : (decide (l = [a] ∨ l = [b] ∨ l = [c])) = ([PyData.list ([a].map PyData.str), .list ([b].map PyData.str), .list ([c].map PyData.str)].any fun z => PyData.eqv z (.list (l.map PyData.str))) := by
        show _ = (PyData.eqvAll ([a].map PyData.str) (l.map PyData.str) || (PyData.eqvAll ([b].map PyData.str) (l.map PyData.str) || (PyData.eqvAll ([c].map PyData.str) (l.map PyData.str) || false)))
        rw [eqv_strs, eqv_strs, eqv_strs, Bool.eq_iff_iff]
        simp only [decide_eq_true_iff, Bool.or_eq_true, Bool.or_false]
        constructor
        · rintro (h | h | h)
          · exact .inl h.symm
          · exact .inr (.inl h.symm)
          · exact .inr (.inr h.symm)
        · rintro (h | h | h)
          · exact .inl h.symm
          · exact .inr (.inl h.symm)
          · exact .inr (.inr h.symm)
      rw [ee] at g
      exact g⟩
theorem rt_is {Q : VK} (k : RetV v H Q) (e : v = x) : ∀ H1, Ex H H1 → Q x H1 := by
  subst e
  exact k
/-- the promise's shape at a return -/
theorem rt_v {Q : VK} (k : RetV v H Q) : ∀ H1, Ex H H1 → Q v H1 := k
end
/-! ### parts of lists, texts -/
theorem cut_map (l : List Str) (lo hi : Option Int) : cutV (l.map V.str) lo hi = ((l.drop (HT.sIx l.length 0 lo)).take (HT.sIx l.length l.length hi - HT.sIx l.length 0 lo)).map V.str := by
  unfold cutV
  rw [List.length_map, ← List.map_drop, ← List.map_take]
theorem six_nat (n d k : Nat) : HT.sIx n d (some (k : Int)) = min k n := HT.sIx_nat n d k
theorem cut_to1 (l : List Str) : cutV (l.map V.str) none (some 1) = (l.take 1).map V.str := by
  rw [cut_map]
  have e1 : HT.sIx l.length 0 none = 0 := rfl
  have e2 : HT.sIx l.length l.length (some 1) = min 1 l.length := six_nat _ _ 1
  rw [e1, e2, List.drop_zero, Nat.sub_zero]
  congr 1
  cases l with
  | nil => rfl
  | cons x l => rw [show min 1 (x :: l).length = 1 from by rw [List.length_cons]; omega]
theorem cut_at (l : List Str) (k : Nat) : cutV (l.map V.str) (some (k : Int)) (some ((k + 1 : Nat) : Int)) = ((l.drop k).take 1).map V.str := by
  rw [cut_map, six_nat, six_nat]
  congr 1
  by_cases h : k < l.length
  · rw [show min k l.length = k by omega, show min (k + 1) l.length - k = 1 by omega]
  · rw [List.drop_eq_nil_of_le (by omega : l.length ≤ k), List.drop_eq_nil_of_le (by omega : l.length ≤ min k l.length)]
    simp
theorem cut_from (l : List Str) (k : Nat) : cutV (l.map V.str) (some (k : Int)) none = (l.drop k).map V.str := by
  rw [cut_map, six_nat]
  have e1 : HT.sIx l.length l.length none = l.length := rfl
  rw [e1]
  congr 1
  by_cases h : k ≤ l.length
  · rw [show min k l.length = k by omega, ← List.length_drop, List.take_length]
  · rw [List.drop_eq_nil_of_le (by omega : l.length ≤ k), List.drop_eq_nil_of_le (by omega : l.length ≤ min k l.length)]
    simp
theorem cut_inn {x : Str} (h : 2 ≤ x.length) : cutS x (some 1) (some (-1)) = inn x := by
  have hl : x.cps.toList.length = x.length := Array.length_toList
  unfold cutS inn
  have e1 : HT.sIx x.length 0 (some 1) = min 1 x.length := six_nat _ _ 1
  have e2 : HT.sIx x.length x.length (some (-1)) = x.length - 1 := by
    show (if (-1 : Int) < 0 then ((-1 : Int) + (x.length : Int)).toNat else min (-1 : Int).toNat x.length) = _
    rw [if_pos (by decide)]
    omega
  have e3 : min 1 x.length = 1 := by omega
  have e4 : (x.cps.toList.drop 1).dropLast = (x.cps.toList.drop 1).take ((x.cps.toList.drop 1).length - 1) := List.dropLast_eq_take
  rw [e1, e2, e3, e4, List.length_drop, hl]
theorem at0 {α : Type} {c : α} {r : List α} : atI (c :: r) 0 = some c := by
  unfold atI ixN
  rw [if_pos (by decide), if_pos (by rw [List.length_cons]; omega)]
  rfl
theorem at_nat {α : Type} {l : List α} {k : Nat} {c : α} (h : l[k]? = some c) : atI l (k : Int) = some c := by
  have hk := (List.getElem?_eq_some_iff.mp h).1
  unfold atI
  rw [ixN_nat hk]
  exact h
theorem at_last {α : Type} {l : List α} {c : α} (h : l.getLast? = some c) : atI l (-1) = some c := by
  have hn : l ≠ [] := by
    intro e
    rw [e] at h
    cases h
  have hp : 0 < l.length := List.length_pos_iff.mpr hn
  unfold atI ixN
  rw [if_neg (by decide), if_pos (by omega)]
  show l[((-1 : Int) + (l.length : Int)).toNat]? = some c
  rw [show ((-1 : Int) + (l.length : Int)).toNat = l.length - 1 by omega, ← List.getLast?_eq_getElem?]
  exact h
theorem ch_eq {c : Nat} {s : Str} {d : Nat} (h : s.cps.toList = [d]) : decide ((⟨#[c]⟩ : Str) = s) = decide (c = d) := by
  rw [Bool.eq_iff_iff, decide_eq_true_iff, decide_eq_true_iff]
  constructor
  · intro e
    rw [← e] at h
    exact (List.cons.inj h).1
  · rintro rfl
    cases s with
    | mk a =>
      congr 1
      apply Array.toList_inj.mp
      exact h.symm
/-- a plain list of plain texts -/
def Tks (l : List Str) : Prop := l.length ≤ 100000 ∧ ∀ x ∈ l, Tk 100000 x
theorem Tks.ok {l : List Str} (h : Tks l) : ∀ x ∈ l, PyData.strOk x = true := fun x hx => (h.2 x hx).ok
theorem Tks.sub {l m : List Str} (h : Tks l) (hm : ∀ x ∈ m, x ∈ l) (hl : m.length ≤ l.length) : Tks m := ⟨Nat.le_trans hl h.1, fun x hx => h.2 x (hm x hx)⟩
end K27

set_option maxRecDepth 100000
set_option maxHeartbeats 4000000
/-! the program's readers of words and rows: what they answer -/
namespace K27
open PySem PySem.Spec PyProof.Rows L2 Evl
def spIsWord : Sp := fun vs H Q _ => ∃ x : Str, vs = [.str x] ∧ Tk 100000 x ∧ RetV (.bl (isW x)) H Q
def spIsC : Sp := fun vs H Q _ => ∃ x : Str, vs = [.str x] ∧ Tk 100000 x ∧ RetV (.bl (isC x)) H Q
def spIsVar : Sp := fun vs H Q _ => ∃ (x : Str) (t : Bool), vs = [.str x, .bl t] ∧ Tk 100000 x ∧ RetV (.bl (varB x t)) H Q
def spIsSet : Sp := fun vs H Q _ => ∃ (x m : Str), vs = [.str x, .str m] ∧ Tk 100000 x ∧ RetV (.bl (setB x m)) H Q
def spIsTerm : Sp := fun vs H Q _ => ∃ (x m : Str) (t : Bool), vs = [.str x, .str m, .bl t] ∧ Tk 100000 x ∧ RetV (.bl (termB x m t)) H Q
def spParts : Sp := fun vs H Q _ => ∃ x : Str, vs = [.str x] ∧ Tk 100000 x ∧ RetL ((Txt.split x " ").map V.str) H Q
def spVars (K : PySem.W.Frag) : Sp := fun vs H Q _ => ∃ (p : Addr) (l : List Str) (t : Bool), vs = [.ref p, .bl t] ∧ SqL K H p (l.map V.str) ∧ Tks l ∧ RetL ((varsW l t).map V.str) H Q
def RetP (o : Option (List Str × List Str)) (H : Hp) (Q : VK) : Prop := match o with
  | none => RetV .non H Q
  | some (b, r) => ∀ q p1 p2 H1, Ex H H1 → H1 q = some (.tup [.ref p1, .ref p2]) → H1 p1 = some (.lst (b.map V.str)) → H1 p2 = some (.lst (r.map V.str)) → Q (.ref q) H1
def RetO (o : Option (List Str)) (H : Hp) (Q : VK) : Prop := match o with
  | none => RetV .non H Q
  | some r => ∀ p H1, Ex H H1 → H1 p = some (.lst (r.map V.str)) → Q (.ref p) H1
def spPlain (K : PySem.W.Frag) : Sp := fun vs H Q _ => ∃ (p : Addr) (l : List Str) (m : Str) (t : Bool), vs = [.ref p, .str m, .bl t] ∧ SqL K H p (l.map V.str) ∧ Tks l ∧ RetP (plainW l m t) H Q
def spTest (K : PySem.W.Frag) : Sp := fun vs H Q _ => ∃ (p : Addr) (l : List Str) (m : Str), vs = [.ref p, .str m] ∧ SqL K H p (l.map V.str) ∧ Tks l ∧ RetO (testW l m) H Q
def spTask (K : PySem.W.Frag) : Sp := fun vs H Q _ => ∃ (p : Addr) (l : List Str) (m : Str), vs = [.ref p, .str m] ∧ SqL K H p (l.map V.str) ∧ Tks l ∧ RetO (taskW l m) H Q
theorem ascF_no {last r : List Nat} {c : Nat} (h : (!decide (c ∈ MKS.cps.toList) || !decide (last < [c])) = true) : ascF last (c :: r) = false := by
  unfold ascF
  rw [if_pos h]
theorem ascF_yes {last r : List Nat} {c : Nat} (h : (!decide (c ∈ MKS.cps.toList) || !decide (last < [c])) = false) : ascF last (c :: r) = ascF [c] r := by
  conv => lhs; unfold ascF
  rw [if_neg (by rw [h]; decide)]
section
variable {K : PySem.W.Frag} {H : Hp} {σ : L2.St} {ta tb tc : TE} {E : XK}
theorem ev_isWord {x : Str} (h : Ev ta σ H (.str x)) (hx : Tk 100000 x) : Ev (tCall spIsWord [] E (tCons ta tNil)) σ H (.bl (isW x)) := ev_call (ea_cons h ea_nil) fun H1 e Q q E => ⟨x, rfl, hx, q⟩
theorem ev_isC {x : Str} (h : Ev ta σ H (.str x)) (hx : Tk 100000 x) : Ev (tCall spIsC [] E (tCons ta tNil)) σ H (.bl (isC x)) := ev_call (ea_cons h ea_nil) fun H1 e Q q E => ⟨x, rfl, hx, q⟩
theorem ev_isVar {x : Str} {t : Bool} (h : Ev ta σ H (.str x)) (h2 : Ev tb σ H (.bl t)) (hx : Tk 100000 x) : Ev (tCall spIsVar [] E (tCons ta (tCons tb tNil))) σ H (.bl (varB x t)) := ev_call (ea_cons h (ea_cons h2 ea_nil)) fun H1 e Q q E => ⟨x, t, rfl, hx, q⟩
theorem ev_isSet {x m : Str} (h : Ev ta σ H (.str x)) (h2 : Ev tb σ H (.str m)) (hx : Tk 100000 x) : Ev (tCall spIsSet [] E (tCons ta (tCons tb tNil))) σ H (.bl (setB x m)) := ev_call (ea_cons h (ea_cons h2 ea_nil)) fun H1 e Q q E => ⟨x, m, rfl, hx, q⟩
theorem ev_isTerm {x m : Str} {t : Bool} (h : Ev ta σ H (.str x)) (h2 : Ev tb σ H (.str m)) (h3 : Ev tc σ H (.bl t)) (hx : Tk 100000 x) : Ev (tCall spIsTerm [] E (tCons ta (tCons tb (tCons tc tNil)))) σ H (.bl (termB x m t)) :=
  ev_call (ea_cons h (ea_cons h2 (ea_cons h3 ea_nil))) fun H1 e Q q E => ⟨x, m, t, rfl, hx, q⟩
theorem el_vars {l : List Str} {t : Bool} (h : EvQ K ta σ H (l.map V.str)) (h2 : Ev tb σ H (.bl t)) (hl : Tks l) : EvL (tCall (spVars K) [] E (tCons ta (tCons tb tNil))) σ H ((varsW l t).map V.str) :=
  el_callQ (eaq h (ea_cons h2 ea_nil)) fun p H1 e hp => fun H2 e2 Q q E => ⟨p, l, t, rfl, ex_l e2 hp, hl, q⟩
end
section
variable {P : Program} {w : World} {K : PySem.W.Frag} {mg : PySem.Str → Option Value} {base : Heap}
theorem k_is_word (T : Tx K mg) : Kp P w K mg base CX0 "is_word" 1 p_is_word spIsWord :=
  Kp.of T.F_is_word T.g_is_word sc_is_word (fun _ _ _ _ _ _ us hl => match us, hl with | [_], _ => rfl) (fun vs H Q E h => by obtain ⟨x, rfl, _⟩ := h; rfl) fun cdv A outer s H vs Q E hr h => ⟨_, (der_is_word T hr).h.nox, by
    obtain ⟨x, rfl, hx, k⟩ := h
    simp only [der_is_word]
    refine go_run (n_when (et_or (et_not (et_test (ev_chainLe ev_c (ev_lenT (by exact ev_var rfl) hx.1) ev_c))) fun _ => et_test (ev_op (by exact ev_var rfl) ev_c (rv_inTS (T.tups H).1))) (fun hb => g_ret ev_c (rt_is k ?_)) fun hb => g_ret (ev_allS _ (by exact ev_var rfl) hx.1 (fun _ => rfl) fun c hc => ev_op (by exact ev_var rfl) ev_c rv_inC) (rt_is k ?_))
    · have hb' : (!(decide ((1:Int) ≤ (x.length:Int)) && decide ((x.length:Int) ≤ 8)) || decide (x ∈ t_RESERVED)) = true := hb
      unfold isW
      rw [hb']
      rfl
    · have hb' : (!(decide ((1:Int) ≤ (x.length:Int)) && decide ((x.length:Int) ≤ 8)) || decide (x ∈ t_RESERVED)) = false := hb
      unfold isW
      rw [hb']
      rfl⟩
theorem k_is_contents (T : Tx K mg) : Kp P w K mg base CX0 "is_contents" 1 p_is_contents spIsC :=
  Kp.of T.F_is_contents T.g_is_contents sc_is_contents (fun _ _ _ _ _ _ us hl => match us, hl with | [_], _ => rfl) (fun vs H Q E h => by obtain ⟨x, rfl, _⟩ := h; rfl) fun cdv A outer s H vs Q E hr h => ⟨_, (der_is_contents T hr).h.nox, by
    obtain ⟨x, rfl, hx, k⟩ := h
    simp only [der_is_contents]
    refine go_run (n_when (et_not (et_B (ev_isiS (by exact ev_var rfl)))) (fun hb => by cases hb) fun hb => n_asg ev_c (n_forS (by exact ev_var rfl)
      (fun i σ' => ∃ (last : Str) (m : Option V), σ' = [some (.str x), some (.str last), m] ∧ ascF last.cps.toList (x.cps.toList.drop i) = isC x) ⟨"", _, rfl, rfl⟩ (fun i c σ' hc p => ?_) fun σ' p => g_ret ev_c (rt_is k ?_)))
    · obtain ⟨last, m, rfl, hp⟩ := p
      rw [List.drop_eq_getElem_cons (List.getElem?_eq_some_iff.mp hc).1, (List.getElem?_eq_some_iff.mp hc).2] at hp
      refine n_when (et_or (et_test (ev_op (by exact ev_var rfl) ev_c rv_niC)) fun _ => et_test (ev_op (by exact ev_var rfl) (by exact ev_var rfl) rv_leT)) (fun hb => g_ret ev_c (rt_is k ?_)) fun hb => g_asg (by exact ev_var rfl) fun H1 e1 => ⟨⟨⟨#[c]⟩, some (.str ⟨#[c]⟩), rfl, ?_⟩, e1⟩
      · rw [← hp]
        exact congrArg V.bl (ascF_no hb)
      · rw [← hp]
        exact (ascF_yes hb).symm
    · obtain ⟨last, m, rfl, hp⟩ := p
      rw [List.drop_length] at hp
      rw [← hp]
      rfl⟩
theorem k_parts_of (T : Tx K mg) : Kp P w K mg base CX0 "parts_of" 1 p_parts_of spParts :=
  Kp.of T.F_parts_of T.g_parts_of sc_parts_of (fun _ _ _ _ _ _ us hl => match us, hl with | [_], _ => rfl) (fun vs H Q E h => by obtain ⟨x, rfl, _⟩ := h; rfl) fun cdv A outer s H vs Q E hr h => ⟨_, (der_parts_of T hr).h.nox, by
    obtain ⟨x, rfl, hx, k⟩ := h
    simp only [der_parts_of]
    exact go_run (n_when (et_not (et_B (ev_isiS (by exact ev_var rfl)))) (fun hb => by cases hb) fun hb => g_retL (el_split (by exact ev_var rfl) ev_c rfl hx.1) k)⟩
theorem k_is_variable (T : Tx K mg) : Kp P w K mg base CX0 "is_variable" 2 p_is_variable spIsVar :=
  Kp.of T.F_is_variable T.g_is_variable sc_is_variable (fun _ _ _ _ _ _ us hl => match us, hl with | [_, _], _ => rfl) (fun vs H Q E h => by obtain ⟨x, t, rfl, _⟩ := h; rfl) fun cdv A outer s H vs Q E hr h => ⟨_, (der_is_variable T hr (k_is_word T)).h.nox, by
    obtain ⟨x, t, rfl, hx, k⟩ := h
    simp only [der_is_variable]
    exact go_run (g_ret (ev_orV (ev_isWord (by exact ev_var rfl) hx) fun _ => ev_andV (by exact ev_var rfl) fun _ => ev_op (by exact ev_var rfl) ev_c (rv_inTS (T.tups H).2.1)) (rt_is k rfl))⟩
theorem tk_inn {b : Nat} {x : Str} (h : Tk b x) : Tk b (inn x) := ⟨by
  show ((x.cps.toList.drop 1).dropLast.toArray).size ≤ b
  have h1 : x.cps.toList.length ≤ b := by rw [Array.length_toList]; exact h.1
  rw [List.size_toArray, List.length_dropLast, List.length_drop]
  omega, fun c hc => h.2 c (by
  have hc' : c ∈ (x.cps.toList.drop 1).dropLast := by simpa [inn] using hc
  exact List.mem_of_mem_drop (List.dropLast_subset _ hc'))⟩
theorem k_is_set (T : Tx K mg) : Kp P w K mg base CX0 "is_set" 2 p_is_set spIsSet :=
  Kp.of T.F_is_set T.g_is_set sc_is_set (fun _ _ _ _ _ _ us hl => match us, hl with | [_, _], _ => rfl) (fun vs H Q E h => by obtain ⟨x, m, rfl, _⟩ := h; rfl) fun cdv A outer s H vs Q E hr h => ⟨_, (der_is_set T hr (k_is_contents T)).h.nox, by
    obtain ⟨x, m, rfl, hx, k⟩ := h
    simp only [der_is_set]
    have hlen : x.cps.toList.length = x.length := Array.length_toList
    by_cases hl : x.length < 2
    · refine go_run (n_when (b := true) (et_is (et_or (b := false) (et_test (ev_op (ev_lenT (by exact ev_var rfl) hx.1) ev_c rv_ltI)) fun h => absurd (show decide ((x.length : Int) < 2) = false from h) (by rw [decide_eq_true (by omega)]; decide)) (by
        show (decide ((x.length : Int) < 2) || false) = true
        rw [decide_eq_true (by omega)]
        rfl)) (fun _ => g_ret ev_c (rt_is k ?_)) fun h => by cases h)
      unfold setB brB
      rw [decide_eq_false (by omega)]
      rfl
    · have hne : x.cps.toList ≠ [] := by
        intro e
        rw [e] at hlen
        rw [← hlen] at hl
        exact hl (by decide)
      obtain ⟨c0, r0, e0⟩ := List.exists_cons_of_ne_nil hne
      have hh : x.cps.toList.head? = some c0 := by rw [e0]; rfl
      obtain ⟨c1, hlast⟩ : ∃ c1, x.cps.toList.getLast? = some c1 := ⟨_, List.getLast?_eq_some_getLast hne⟩
      refine go_run (n_when (et_or (et_test (ev_op (ev_lenT (by exact ev_var rfl) hx.1) ev_c rv_ltI)) fun _ => et_or (et_test (ev_op (ev_op (by exact ev_var rfl) ev_c (rv_ixS hx.1 (by rw [e0]; exact at0))) ev_c rv_neS)) fun _ => et_test (ev_op (ev_op (by exact ev_var rfl) (ev_un ev_c ru_neg) (rv_ixS hx.1 (at_last hlast))) ev_c rv_neS))
        (fun hb => g_ret ev_c (rt_is k ?_)) fun hb => n_asg (ev_slS (by exact ev_var rfl) (eo_some ev_c) (eo_some (ev_un ev_c ru_neg)) hx.1) (g_ret (ev_andV (ev_isC (by exact ev_var rfl) ?_) fun _ => ev_allS _ (by exact ev_var rfl) ?_ (fun _ => rfl) fun c hc => ev_op (by exact ev_var rfl) (by exact ev_var rfl) rv_inC) (rt_is k ?_)))
      · have hb' : (decide ((x.length : Int) < 2) || (!decide ((⟨#[c0]⟩ : Str) = "{") || !decide ((⟨#[c1]⟩ : Str) = "}"))) = true := hb
        rw [ch_eq (d := 123) rfl, ch_eq (d := 125) rfl, decide_eq_false (by omega : ¬ (x.length : Int) < 2)] at hb'
        unfold setB brB
        rw [hh, hlast]
        by_cases h1 : c0 = 123
        · by_cases h2 : c1 = 125
          · rw [h1, h2] at hb'
            exact absurd hb' (by decide)
          · have e : decide (some c1 = some 125) = false := decide_eq_false fun e => h2 (Option.some.inj e)
            rw [e, Bool.and_false, Bool.and_false, Bool.false_and]
        · have e : decide (some c0 = some 123) = false := decide_eq_false fun e => h1 (Option.some.inj e)
          rw [e, Bool.false_and, Bool.and_false, Bool.false_and]
      · show Tk 100000 (cutS x (some 1) (some (-1)))
        rw [cut_inn (by omega)]
        exact tk_inn hx
      · show (cutS x (some 1) (some (-1))).length ≤ 100000
        rw [cut_inn (by omega)]
        exact (tk_inn hx).1
      · have hb' : (decide ((x.length : Int) < 2) || (!decide ((⟨#[c0]⟩ : Str) = "{") || !decide ((⟨#[c1]⟩ : Str) = "}"))) = false := hb
        rw [ch_eq (d := 123) rfl, ch_eq (d := 125) rfl, decide_eq_false (by omega : ¬ (x.length : Int) < 2)] at hb'
        have h1 : c0 = 123 := by
          by_cases h : c0 = 123
          · exact h
          · rw [decide_eq_false h] at hb'
            cases hb'
        have h2 : c1 = 125 := by
          by_cases h : c1 = 125
          · exact h
          · rw [h1, decide_eq_false h] at hb'
            cases hb'
        show V.bl (setB x m) = .bl (isC (cutS x (some 1) (some (-1))) && (cutS x (some 1) (some (-1))).cps.toList.all (fun c => decide (c ∈ m.cps.toList)))
        rw [cut_inn (by omega)]
        unfold setB brB
        rw [hh, hlast, h1, h2, decide_eq_true (by omega : 2 ≤ x.length)]
        rfl⟩
theorem k_is_term (T : Tx K mg) : Kp P w K mg base CX0 "is_term" 3 p_is_term spIsTerm :=
  Kp.of T.F_is_term T.g_is_term sc_is_term (fun _ _ _ _ _ _ us hl => match us, hl with | [_, _, _], _ => rfl) (fun vs H Q E h => by obtain ⟨x, m, t, rfl, _⟩ := h; rfl) fun cdv A outer s H vs Q E hr h => ⟨_, (der_is_term T hr (k_is_set T) (k_is_variable T)).h.nox, by
    obtain ⟨x, m, t, rfl, hx, k⟩ := h
    simp only [der_is_term]
    exact go_run (g_ret (ev_orV (ev_isVar (by exact ev_var rfl) (by exact ev_var rfl) hx) fun _ => ev_isSet (by exact ev_var rfl) (by exact ev_var rfl) hx) (rt_is k rfl))⟩
theorem k_variables (T : Tx K mg) : Kp P w K mg base CX0 "variables" 3 p_variables (spVars K) :=
  Kp.of T.F_variables T.g_variables sc_variables (fun _ _ _ _ _ _ us hl => match us, hl with | [_, _], _ => rfl) (fun vs H Q E h => by obtain ⟨p, l, t, rfl, _⟩ := h; rfl) fun cdv A outer s H vs Q E hr h => ⟨_, (der_variables T hr (k_is_variable T)).h.nox, by
    obtain ⟨p, l, t, rfl, hp, hl, k⟩ := h
    simp only [der_variables]
    exact go_run (g_retL (el_filt _ (eq_of (by exact ev_var rfl) hp) hl.1 (fun _ => rfl) (fun c hc => et_B (ev_isVar (by exact ev_var rfl) (by exact ev_var rfl) (hl.2 c hc))) fun c hc _ => by exact ev_var rfl) k)⟩
end
end K27

set_option maxRecDepth 100000
set_option maxHeartbeats 4000000
/-! the program's readers of rows: what they answer -/
namespace K27
open PySem PySem.Spec PyProof.Rows L2 Evl
theorem plainW_none {l : List Str} {m : Str} {t : Bool} (h3 : l.length ≠ 3) (h5 : l.length ≠ 5) : plainW l m t = none := by
  match l with
  | [] => rfl
  | [_] => rfl
  | [_, _] => rfl
  | [_, _, _] => exact absurd rfl h3
  | [_, _, _, _] => rfl
  | [_, _, _, _, _] => exact absurd rfl h5
  | _ :: _ :: _ :: _ :: _ :: _ :: _ => rfl
theorem len3 {α : Type} {l : List α} (h : l.length = 3) : ∃ a b c, l = [a, b, c] := by
  match l, h with
  | [a, b, c], _ => exact ⟨a, b, c, rfl⟩
theorem len5 {α : Type} {l : List α} (h : l.length = 5) : ∃ a b c d e, l = [a, b, c, d, e] := by
  match l, h with
  | [a, b, c, d, e], _ => exact ⟨a, b, c, d, e, rfl⟩
theorem len_map {l : List Str} {n : Nat} : decide (((l.map V.str).length : Int) = (n : Int)) = decide (l.length = n) := by
  rw [List.length_map, Bool.eq_iff_iff, decide_eq_true_iff, decide_eq_true_iff]
  omega
section
variable {P : Program} {w : World} {K : PySem.W.Frag} {mg : PySem.Str → Option Value} {base : Heap}
theorem RetP.none_of {o : Option (List Str × List Str)} {H : Hp} {Q : VK} (k : RetP o H Q) (h : o = none) : RetV .non H Q := by
  subst h
  exact k
theorem RetP.some_of {o : Option (List Str × List Str)} {H : Hp} {Q : VK} {b r : List Str} (k : RetP o H Q) (h : o = some (b, r)) : ∀ q p1 p2 H1, Ex H H1 → H1 q = some (.tup [.ref p1, .ref p2]) → H1 p1 = some (.lst (b.map V.str)) → H1 p2 = some (.lst (r.map V.str)) → Q (.ref q) H1 := by
  subst h
  exact k
theorem RetO.none_of {o : Option (List Str)} {H : Hp} {Q : VK} (k : RetO o H Q) (h : o = none) : RetV .non H Q := by
  subst h
  exact k
theorem RetO.some_of {o : Option (List Str)} {H : Hp} {Q : VK} {r : List Str} (k : RetO o H Q) (h : o = some r) : ∀ p H1, Ex H H1 → H1 p = some (.lst (r.map V.str)) → Q (.ref p) H1 := by
  subst h
  exact k
theorem Tks.nil : Tks [] := ⟨Nat.zero_le _, fun _ h => by cases h⟩
theorem Tks.cons {x : Str} {l : List Str} (hx : Tk 100000 x) (h : ∀ y ∈ l, Tk 100000 y) (hl : l.length < 100000) : Tks (x :: l) := ⟨by rw [List.length_cons]; omega, fun y hy => by
  rcases List.mem_cons.mp hy with rfl | hy
  · exact hx
  · exact h y hy⟩
theorem tks1 {a : Str} (ha : Tk 100000 a) : Tks [a] := Tks.cons ha (fun _ h => by cases h) (by decide)
theorem tks2 {a b : Str} (ha : Tk 100000 a) (hb : Tk 100000 b) : Tks [a, b] := Tks.cons ha (fun _ h => by
  rcases List.mem_cons.mp h with rfl | h
  · exact hb
  · cases h) (by simp)
theorem b_plain_words {A : Around} {cdv : Value} {outer : List Env} {s : Shared} {H : Hp} {E : XK} {Q : VK} {vs : List V} (T : Tx K mg) (hr) (h : spPlain K vs H Q E) :
    (der_plain_words (P := P) (w := w) (base := base) (cdv := cdv) (A := A) (outer := outer) (s := s) (H := H) (E := E) T hr (k_is_term T) (k_is_variable T) (k_variables T)).t { nx := fun _ H' => Q .non H', rt := Q } (start N_plain_words vs) H := by
  obtain ⟨p, l, m, t, rfl, hp, hl, k⟩ := h
  simp only [der_plain_words]
  refine go_run (n_when (et_and (et_test (ev_op (ev_lenQ (eq_of (by exact ev_var rfl) hp)) ev_c rv_neI)) fun _ => et_test (ev_op (ev_lenQ (eq_of (by exact ev_var rfl) hp)) ev_c rv_neI)) (fun hb => g_ret ev_c ?_) fun hb => ?_)
  · have hb' : (!decide (((l.map V.str).length : Int) = ((3 : Nat) : Int)) && !decide (((l.map V.str).length : Int) = ((5 : Nat) : Int))) = true := hb
    rw [len_map, len_map, Bool.and_eq_true_iff] at hb'
    exact k.none_of (plainW_none (by simpa using hb'.1) (by simpa using hb'.2))
  · have hb' : (!decide (((l.map V.str).length : Int) = ((3 : Nat) : Int)) && !decide (((l.map V.str).length : Int) = ((5 : Nat) : Int))) = false := hb
    rw [len_map, len_map, Bool.and_eq_false_iff] at hb'
    have hb2 : l.length = 3 ∨ l.length = 5 := by simpa using hb'
    rcases hb2 with h3 | h5
    · obtain ⟨a, sg, b, rfl⟩ := len3 h3
      have ta : Tk 100000 a := hl.2 _ (by simp)
      have tb : Tk 100000 b := hl.2 _ (by simp)
      refine n_asgL (el_if (b := true) (et_test (ev_is (ev_op (ev_lenQ (eq_of (by exact ev_var rfl) hp)) ev_c rv_eqI) rfl)) (fun _ => el_lst (ea_cons (ev_ixQ (eq_of (by exact ev_var rfl) hp) ev_c (at_nat (k := 2) rfl)) ea_nil) (by simp)) fun h => by cases h) fun q H1 _ e1 hq => ?_
      have hp1 := ex_l e1 hp
      have hq1 : SqL K H1 q ([b].map V.str) := sq_of hq
      refine n_when (et_or (et_not (et_B (ev_isVar (ev_ixQ (eq_of (by exact ev_var rfl) hp1) ev_c (at_nat (k := 0) rfl)) (by exact ev_var rfl) ta))) fun _ => et_not (et_B (ev_allQ _ (eq_of (by exact ev_var rfl) hq1) (by simp) (fun _ => rfl) fun c hc => ev_isTerm (by exact ev_var rfl) (by exact ev_var rfl) (by exact ev_var rfl) ((tks1 tb).2 c hc)))) (fun hb => g_ret ev_c ?_) fun hb => ?_
      · refine fun H2 e2 => k.none_of ?_ H2 (e1.trans e2)
        have hb' : (!varB a t || !(termB b m t && true)) = true := hb
        have : (varB a t && termB b m t) = false := by
          cases h1 : varB a t <;> cases h2 : termB b m t <;> rw [h1, h2] at hb' <;> first | rfl | cases hb'
        show (if (varB a t && termB b m t) = true then _ else none) = none
        rw [this]
        rfl
      · have hb' : (!varB a t || !(termB b m t && true)) = false := hb
        have hT : (varB a t && termB b m t) = true := by
          cases h1 : varB a t <;> cases h2 : termB b m t <;> rw [h1, h2] at hb' <;> first | rfl | cases hb'
        refine n_asgL (el_vars (eq_of (by exact ev_var rfl) hq1) (by exact ev_var rfl) (tks1 tb)) fun rr H2 _ e2 hrr => ?_
        have hp2 := ex_l e2 hp1
        refine n_when (b := false) (et_test (ev_is (ev_op (ev_lenQ (eq_of (by exact ev_var rfl) hp2)) ev_c rv_eqI) rfl)) (fun h => by cases h) fun _ => ?_
        refine n_when (et_test (ev_op (ev_ixQ (eq_of (by exact ev_var rfl) hp2) ev_c (at_nat (k := 1) rfl)) ev_c rv_eqS)) (fun hs => ?_) fun hs => ?_
        · refine g_retMM (EvL.m (el_lst (ea_cons (ev_ixQ (eq_of (by exact ev_var rfl) hp2) ev_c (at_nat (k := 0) rfl)) ea_nil) (by simp))) (em_of (by exact ev_var rfl) hrr) fun q' p1 p2 H3 e3 g1 g2 g3 => ?_
          refine k.some_of (b := [a]) (r := varsW [b] t) ?_ q' p1 p2 H3 ((e1.trans e2).trans e3) g1 g2 g3
          show (if (varB a t && termB b m t) = true then (if sg = "=" then some ([a], varsW [b] t) else _) else none) = _
          rw [if_pos hT, if_pos (of_decide_eq_true hs)]
        · refine n_when (et_test (ev_op (ev_ixQ (eq_of (by exact ev_var rfl) hp2) ev_c (at_nat (k := 1) rfl)) ev_c (rv_inTS (T.tups H2).2.2.2))) (fun hc => ?_) fun hc => g_ret ev_c ?_
          · refine g_retMM (xs := []) (EvL.m (el_lst ea_nil (by decide))) (EvL.m (el_cat (EvL.m (el_lst (ea_cons (ev_ixQ (eq_of (by exact ev_var rfl) hp2) ev_c (at_nat (k := 0) rfl)) ea_nil) (by simp))) (em_of (by exact ev_var rfl) hrr) (by
                have h1 := List.length_filter_le (fun x => varB x t) [b]
                show 1 + ((varsW [b] t).map V.str).length ≤ 100000
                rw [List.length_map]
                unfold varsW
                have h2 : [b].length = 1 := rfl
                omega))) fun q' p1 p2 H3 e3 g1 g2 g3 => ?_
            refine k.some_of (b := []) (r := a :: varsW [b] t) ?_ q' p1 p2 H3 ((e1.trans e2).trans e3) g1 g2 g3
            show (if (varB a t && termB b m t) = true then (if sg = "=" then some ([a], varsW [b] t) else if sg ∈ t_CHANGES then some ([], a :: varsW [b] t) else none) else none) = _
            rw [if_pos hT, if_neg (of_decide_eq_false hs), if_pos (of_decide_eq_true hc)]
          · refine fun H3 e3 => k.none_of ?_ H3 ((e1.trans e2).trans e3)
            show (if (varB a t && termB b m t) = true then (if sg = "=" then some ([a], varsW [b] t) else if sg ∈ t_CHANGES then some ([], a :: varsW [b] t) else none) else none) = _
            rw [if_pos hT, if_neg (of_decide_eq_false hs), if_neg (of_decide_eq_false hc)]
    · obtain ⟨a, sg, b, g, c, rfl⟩ := len5 h5
      have ta : Tk 100000 a := hl.2 _ (by simp)
      have tb : Tk 100000 b := hl.2 _ (by simp)
      have tc : Tk 100000 c := hl.2 _ (by simp)
      refine n_asgL (el_if (b := false) (et_test (ev_is (ev_op (ev_lenQ (eq_of (by exact ev_var rfl) hp)) ev_c rv_eqI) rfl)) (fun h => by cases h) fun _ => el_lst (ea_cons (ev_ixQ (eq_of (by exact ev_var rfl) hp) ev_c (at_nat (k := 2) rfl)) (ea_cons (ev_ixQ (eq_of (by exact ev_var rfl) hp) ev_c (at_nat (k := 4) rfl)) ea_nil)) (by simp)) fun q H1 _ e1 hq => ?_
      have hp1 := ex_l e1 hp
      have hq1 : SqL K H1 q ([b, c].map V.str) := sq_of hq
      refine n_when (et_or (et_not (et_B (ev_isVar (ev_ixQ (eq_of (by exact ev_var rfl) hp1) ev_c (at_nat (k := 0) rfl)) (by exact ev_var rfl) ta))) fun _ => et_not (et_B (ev_allQ _ (eq_of (by exact ev_var rfl) hq1) (by simp) (fun _ => rfl) fun d hd => ev_isTerm (by exact ev_var rfl) (by exact ev_var rfl) (by exact ev_var rfl) ((tks2 tb tc).2 d hd)))) (fun hb => g_ret ev_c ?_) fun hb => ?_
      · refine fun H2 e2 => k.none_of ?_ H2 (e1.trans e2)
        have hb' : (!varB a t || !(termB b m t && (termB c m t && true))) = true := hb
        have : (varB a t && (termB b m t && termB c m t)) = false := by
          cases h1 : varB a t <;> cases h2 : termB b m t <;> cases h3 : termB c m t <;> rw [h1, h2, h3] at hb' <;> first | rfl | cases hb'
        show (if (varB a t && (termB b m t && termB c m t)) = true then _ else none) = none
        rw [this]
        rfl
      · have hb' : (!varB a t || !(termB b m t && (termB c m t && true))) = false := hb
        have hT : (varB a t && (termB b m t && termB c m t)) = true := by
          cases h1 : varB a t <;> cases h2 : termB b m t <;> cases h3 : termB c m t <;> rw [h1, h2, h3] at hb' <;> first | rfl | cases hb'
        refine n_asgL (el_vars (eq_of (by exact ev_var rfl) hq1) (by exact ev_var rfl) (tks2 tb tc)) fun rr H2 _ e2 hrr => ?_
        have hp2 := ex_l e2 hp1
        refine n_when (b := true) (et_test (ev_is (ev_op (ev_lenQ (eq_of (by exact ev_var rfl) hp2)) ev_c rv_eqI) rfl)) (fun _ => ?_) fun h => by cases h
        refine g_retIf (et_and (et_test (ev_op (ev_ixQ (eq_of (by exact ev_var rfl) hp2) ev_c (at_nat (k := 1) rfl)) ev_c rv_eqS)) fun _ => et_test (ev_op (ev_ixQ (eq_of (by exact ev_var rfl) hp2) ev_c (at_nat (k := 3) rfl)) ev_c (rv_inTS (T.tups H2).2.2.1))) (fun hs => ?_) fun hs => g_ret ev_c ?_
        · refine g_retMM (EvL.m (el_lst (ea_cons (ev_ixQ (eq_of (by exact ev_var rfl) hp2) ev_c (at_nat (k := 0) rfl)) ea_nil) (by simp))) (em_of (by exact ev_var rfl) hrr) fun q' p1 p2 H3 e3 g1 g2 g3 => ?_
          refine k.some_of (b := [a]) (r := varsW [b, c] t) ?_ q' p1 p2 H3 ((e1.trans e2).trans e3) g1 g2 g3
          have hs' := Bool.and_eq_true_iff.mp hs
          show (if (varB a t && (termB b m t && termB c m t)) = true then (if sg = "=" ∧ g ∈ t_SIGNS then some ([a], varsW [b, c] t) else _) else none) = _
          rw [if_pos hT, if_pos ⟨of_decide_eq_true hs'.1, of_decide_eq_true hs'.2⟩]
        · refine fun H3 e3 => k.none_of ?_ H3 ((e1.trans e2).trans e3)
          show (if (varB a t && (termB b m t && termB c m t)) = true then (if sg = "=" ∧ g ∈ t_SIGNS then some ([a], varsW [b, c] t) else none) else none) = _
          rw [if_pos hT, if_neg]
          rintro ⟨h1, h2⟩
          have hs' : (decide (sg = "=") && decide (g ∈ t_SIGNS)) = false := hs
          rw [decide_eq_true h1, decide_eq_true h2] at hs'
          cases hs'
end
end K27

set_option maxRecDepth 100000
set_option maxHeartbeats 4000000
/-! the program's readers of rows: what they answer -/
namespace K27
open PySem PySem.Spec PyProof.Rows L2 Evl
theorem Vals.nil_of {ds : List Value} (h : Vals [] ds) : ds = [] := by
  cases h
  rfl
section
variable {P : Program} {w : World} {K : PySem.W.Frag} {mg : PySem.Str → Option Value} {base : Heap}
theorem plain_ok (T : Tx K mg) {fd : FuncData} (F : FunD K "plain_words" "plain_words" (defArgs s_plain_words) (defBody s_plain_words) (defScope s_plain_words) [.bl false] [] (He.ga K "plain_words") fd) : FnOk P w K mg base CX0 4 (He.ga K "plain_words") fd p_plain_words (spPlain K) :=
  F.ok sc_plain_words (fun vs H Q E h => by obtain ⟨p, l, m, t, rfl, _⟩ := h; rfl) fun cdv A outer s H vs Q E hr h => ⟨_, (der_plain_words T hr (k_is_term T) (k_is_variable T) (k_variables T)).h.nox, b_plain_words T hr h⟩
theorem k_plain_words (T : Tx K mg) : Kp P w K mg base CX0 "plain_words" 4 p_plain_words (spPlain K) := by
  obtain ⟨fd, F⟩ := T.F_plain_words
  obtain ⟨ds, v, b⟩ := F.binds1 (ps := p_plain_words) 3 1 (by simp) rfl fun T kV doc pm an cdv ct us its h1 h2 => match us, its, h1, h2 with | [_, _, _], [_], _, _ => ⟨_, rfl, rfl⟩
  rw [Vals.nil_of v] at b
  exact ⟨⟨fd, plain_ok T F, b⟩, T.g_plain_words, F.kp⟩
theorem kd_plain_words (T : Tx K mg) : Kd P w K mg base CX0 "plain_words" 4 p_plain_words (spPlain K) := by
  obtain ⟨fd, F⟩ := T.F_plain_words
  obtain ⟨ds, v, b⟩ := F.binds1 (ps := p_plain_words) 2 0 (by simp) rfl fun T kV doc pm an cdv ct us its h1 h2 => match us, its, h1, h2 with | [_, _], [_], _, _ => ⟨_, rfl, rfl⟩
  exact ⟨⟨fd, ds, plain_ok T F, v, b⟩, T.g_plain_words, F.kp⟩
theorem testW_none {l : List Str} {m : Str} (h3 : l.length ≠ 3) : testW l m = none := by
  match l with
  | [] => rfl
  | [_] => rfl
  | [_, _] => rfl
  | [_, _, _] => exact absurd rfl h3
  | _ :: _ :: _ :: _ :: _ => rfl
theorem one_of {x : Str} (h : x.length = 1) : ∃ c, x = ⟨#[c]⟩ := by
  cases x with
  | mk a =>
    have h' : a.toList.length = 1 := by rw [Array.length_toList]; exact h
    match e : a.toList, h' with
    | [c], _ => exact ⟨c, by congr 1; exact Array.toList_inj.mp e⟩
theorem oneIn_len {x m : Str} (h : oneIn x m = true) : x.length = 1 := by
  unfold oneIn at h
  have hl : x.cps.toList.length = x.length := Array.length_toList
  split at h
  · next c e =>
    rw [e] at hl
    exact hl.symm
  · cases h
theorem k_test_words (T : Tx K mg) : Kp P w K mg base CX0 "test_words" 4 p_test_words (spTest K) :=
  Kp.of T.F_test_words T.g_test_words sc_test_words (fun _ _ _ _ _ _ us hl => match us, hl with | [_, _], _ => rfl) (fun vs H Q E h => by obtain ⟨p, l, m, rfl, _⟩ := h; rfl) fun cdv A outer s H vs Q E hr h => ⟨_, (der_test_words T hr (k_is_term T) (k_variables T) (k_is_variable T)).h.nox, by
    obtain ⟨p, l, m, rfl, hp, hl, k⟩ := h
    simp only [der_test_words]
    refine go_run (n_when (et_test (ev_op (ev_lenQ (eq_of (by exact ev_var rfl) hp)) ev_c rv_neI)) (fun hb => g_ret ev_c ?_) fun hb => ?_)
    · have hb' : (!decide (((l.map V.str).length : Int) = ((3 : Nat) : Int))) = true := hb
      rw [len_map] at hb'
      exact k.none_of (testW_none (by simpa using hb'))
    · have hb' : (!decide (((l.map V.str).length : Int) = ((3 : Nat) : Int))) = false := hb
      rw [len_map] at hb'
      obtain ⟨a, sg, b, rfl⟩ := len3 (by simpa using hb' : l.length = 3)
      have ta : Tk 100000 a := hl.2 _ (by simp)
      have tb : Tk 100000 b := hl.2 _ (by simp)
      refine n_unl3 (by exact ev_var rfl) hp (n_when (et_test (ev_op (by exact ev_var rfl) ev_c rv_eqS)) (fun hs => ?_) fun hs => n_when (et_test (ev_op (by exact ev_var rfl) ev_c rv_eqS)) (fun hi => ?_) fun hi => n_when (et_and (et_test (ev_inUS (by exact ev_var rfl) (l := ["==", "<="]) (eu_tup (ea_cons ev_c (ea_cons ev_c ea_nil)) (by simp)))) fun _ => et_and (et_B (ev_isTerm (by exact ev_var rfl) (by exact ev_var rfl) ev_c ta)) fun _ => et_B (ev_isTerm (by exact ev_var rfl) (by exact ev_var rfl) ev_c tb)) (fun hc => ?_) fun hc => g_ret ev_c (k.none_of ?_))
      · have hs' : sg = "in" := of_decide_eq_true hs
        refine n_asg (v := .bl (oneIn a m && termB b m true)) (ev_is (ev_andV (b := oneIn a m && termB b m true) (ev_op (ev_lenT (by exact ev_var rfl) ta.1) ev_c rv_eqI) fun h1 => ?_) ?_) (g_retIf (et_B (by exact ev_var rfl)) (fun hk => ?_) fun hk => g_ret ev_c (k.none_of ?_))
        · have h1' : (a.length : Int) = 1 := of_decide_eq_true h1
          obtain ⟨c, rfl⟩ := one_of (by omega : a.length = 1)
          exact ev_andV (ev_op (by exact ev_var rfl) (by exact ev_var rfl) rv_inC) fun _ => ev_isTerm (by exact ev_var rfl) (by exact ev_var rfl) ev_c tb
        · cases ho : oneIn a m with
          | false =>
            rw [Bool.false_and, Bool.and_false]
          | true =>
            have h1 : decide ((a.length : Int) = 1) = true := decide_eq_true (by have := oneIn_len ho; omega)
            show V.bl (decide ((a.length : Int) = 1) && (true && termB b m true)) = _
            rw [h1]
            rfl
        · refine g_retL (el_vars (EvL.q (el_lst (ea_cons (by exact ev_var rfl) ea_nil) (by simp))) ev_c (tks1 tb)) fun q H1 _ e1 h1 => k.some_of (r := varsW [b] true) ?_ q H1 e1 h1
          show (if sg = "in" then (if (oneIn a m && termB b m true) = true then some (varsW [b] true) else none) else _) = _
          rw [if_pos hs', if_pos hk]
        · show (if sg = "in" then (if (oneIn a m && termB b m true) = true then some (varsW [b] true) else none) else _) = _
          rw [if_pos hs', if_neg (by rw [hk]; decide)]
      · have hs' : ¬ sg = "in" := of_decide_eq_false hs
        have hi' : sg = "is" := of_decide_eq_true hi
        refine g_retIf (et_and (et_B (ev_isVar (by exact ev_var rfl) ev_c ta)) fun _ => et_B (ev_isVar (by exact ev_var rfl) ev_c tb)) (fun hk => ?_) fun hk => g_ret ev_c (k.none_of ?_)
        · refine g_retL (el_lst (ea_cons (by exact ev_var rfl) (ea_cons (by exact ev_var rfl) ea_nil)) (by simp)) fun q H1 _ e1 h1 => k.some_of (r := [a, b]) ?_ q H1 e1 h1
          show (if sg = "in" then _ else if sg = "is" then (if (varB a true && varB b true) = true then some [a, b] else none) else _) = _
          rw [if_neg hs', if_pos hi', if_pos hk]
        · show (if sg = "in" then _ else if sg = "is" then (if (varB a true && varB b true) = true then some [a, b] else none) else _) = _
          rw [if_neg hs', if_pos hi', if_neg (by rw [hk]; decide)]
      · have hs' : ¬ sg = "in" := of_decide_eq_false hs
        have hi' : ¬ sg = "is" := of_decide_eq_false hi
        refine g_retL (el_vars (EvL.q (el_lst (ea_cons (by exact ev_var rfl) (ea_cons (by exact ev_var rfl) ea_nil)) (by simp))) ev_c (tks2 ta tb)) fun q H1 _ e1 h1 => k.some_of (r := varsW [a, b] true) ?_ q H1 e1 h1
        show (if sg = "in" then _ else if sg = "is" then _ else if (decide (sg ∈ (["==", "<="] : List Str)) && (termB a m true && termB b m true)) = true then some (varsW [a, b] true) else none) = _
        rw [if_neg hs', if_neg hi', if_pos hc]
      · have hs' : ¬ sg = "in" := of_decide_eq_false hs
        have hi' : ¬ sg = "is" := of_decide_eq_false hi
        show (if sg = "in" then _ else if sg = "is" then _ else if (decide (sg ∈ (["==", "<="] : List Str)) && (termB a m true && termB b m true)) = true then some (varsW [a, b] true) else none) = _
        rw [if_neg hs', if_neg hi', if_neg (by rw [hc]; decide)]⟩
end
end K27

set_option maxRecDepth 100000
set_option maxHeartbeats 4000000
/-! the program's readers of rows: what they answer -/
namespace K27
open PySem PySem.Spec PyProof.Rows L2 Evl
section
variable {P : Program} {w : World} {K : PySem.W.Frag} {mg : PySem.Str → Option Value} {base : Heap}
section
variable {H H' : Hp} {σ : L2.St} {ta : TA} {te : TE} {E : XK} {D : Ends} {tz : TS}
theorem RetV.mono {v : V} {Q : VK} (k : RetV v H Q) (e : Ex H H') : RetV v H' Q := fun H1 e1 => k H1 (e.trans e1)
theorem RetO.mono {o : Option (List Str)} {Q : VK} (k : RetO o H Q) (e : Ex H H') : RetO o H' Q := by
  cases o with
  | none => exact RetV.mono (v := .non) k e
  | some r => exact fun p H1 e1 => k p H1 (e.trans e1)
theorem g_retTest {l : List Str} {m : Str} (h : EvAQ K ta σ H (l.map V.str) [.str m]) (hl : Tks l) (k : RetO (testW l m) H D.rt) : Go (tRet (tCall (spTest K) [] E ta)) D σ H := fun H1 e => h H1 e _ fun p H2 e2 hp => ⟨p, l, m, rfl, hp, hl, RetO.mono k (e.trans e2)⟩
theorem n_asgP {i : Nat} {sp : Sp} {dvs vs : List V} {o : Option (List Str × List Str)} (h : EvA ta σ H vs) (hs : ∀ H1, Ex H H1 → ∀ (Q : VK) (E : XK), RetP o H1 Q → sp (vs ++ dvs) H1 Q E) (kn : o = none → Go tz D (σ.set i (some .non)) H)
    (ks : ∀ b r, o = some (b, r) → ∀ q p1 p2 H1, Ex H H1 → H1 q = some (.tup [.ref p1, .ref p2]) → H1 p1 = some (.lst (b.map V.str)) → H1 p2 = some (.lst (r.map V.str)) → Go tz D (σ.set i (some (.ref q))) H1) :
    Go (tSeq (tAsg (tCall sp dvs E ta) (gName i)) tz) D σ H := fun H1 e => h H1 e _ fun H2 e2 => hs H2 (e.trans e2) _ _ (by
  cases o with
  | none => exact fun H3 e3 => kn rfl H3 ((e.trans e2).trans e3)
  | some br =>
    obtain ⟨b, r⟩ := br
    exact fun q p1 p2 H3 e3 g1 g2 g3 => ks b r rfl q p1 p2 H3 ((e.trans e2).trans e3) g1 g2 g3 H3 (Ex.refl H3))
theorem n_asgO {i : Nat} {sp : Sp} {dvs vs : List V} {o : Option (List Str)} (h : EvA ta σ H vs) (hs : ∀ H1, Ex H H1 → ∀ (Q : VK) (E : XK), RetO o H1 Q → sp (vs ++ dvs) H1 Q E) (kn : o = none → Go tz D (σ.set i (some .non)) H)
    (ks : ∀ r, o = some r → ∀ p H1, Ex H H1 → H1 p = some (.lst (r.map V.str)) → Go tz D (σ.set i (some (.ref p))) H1) :
    Go (tSeq (tAsg (tCall sp dvs E ta) (gName i)) tz) D σ H := fun H1 e => h H1 e _ fun H2 e2 => hs H2 (e.trans e2) _ _ (by
  cases o with
  | none => exact fun H3 e3 => kn rfl H3 ((e.trans e2).trans e3)
  | some r => exact fun p H3 e3 g1 => ks r rfl p H3 ((e.trans e2).trans e3) g1 H3 (Ex.refl H3))
end
theorem Tks.take {l : List Str} (h : Tks l) (n : Nat) : Tks (l.take n) := h.sub (fun x hx => List.mem_of_mem_take hx) (by rw [List.length_take]; omega)
theorem Tks.drop {l : List Str} (h : Tks l) (n : Nat) : Tks (l.drop n) := h.sub (fun x hx => List.mem_of_mem_drop hx) (by rw [List.length_drop]; omega)
theorem len4 {α : Type} {l : List α} (h : l.length = 4) : ∃ a b c d, l = [a, b, c, d] := by
  match l, h with
  | [a, b, c, d], _ => exact ⟨a, b, c, d, rfl⟩
theorem ok1 {a : Str} (h : PyData.strOk a = true) : ∀ x ∈ [a], PyData.strOk x = true := fun x hx => by
  rcases List.mem_cons.mp hx with rfl | hx
  · exact h
  · cases hx
theorem plainW_3 {a s b m : Str} {t : Bool} : plainW [a, s, b] m t = if (varB a t && termB b m t) = true then (if s = "=" then some ([a], varsW [b] t) else if s ∈ t_CHANGES then some ([], a :: varsW [b] t) else none) else none := rfl
theorem plainW_5 {a s b g c m : Str} {t : Bool} : plainW [a, s, b, g, c] m t = if (varB a t && (termB b m t && termB c m t)) = true then (if s = "=" ∧ g ∈ t_SIGNS then some ([a], varsW [b, c] t) else none) else none := rfl
theorem plainW_vars {l : List Str} {m : Str} {t : Bool} {b r : List Str} (h : plainW l m t = some (b, r)) : b.length + r.length ≤ 10 := by
  have hv : ∀ l' : List Str, (varsW l' t).length ≤ l'.length := fun l' => List.length_filter_le _ _
  by_cases h3 : l.length = 3
  · obtain ⟨a, s, c, rfl⟩ := len3 h3
    have h1 := hv [c]
    have h2 : [c].length = 1 := rfl
    rw [plainW_3] at h
    split at h
    · split at h
      · obtain ⟨rfl, rfl⟩ := Prod.mk.inj (Option.some.inj h)
        rw [List.length_singleton]
        omega
      · split at h
        · obtain ⟨rfl, rfl⟩ := Prod.mk.inj (Option.some.inj h)
          rw [List.length_cons, List.length_nil]
          omega
        · cases h
    · cases h
  · by_cases h5 : l.length = 5
    · obtain ⟨a, s, c, g, d, rfl⟩ := len5 h5
      have h1 := hv [c, d]
      have h2 : [c, d].length = 2 := rfl
      rw [plainW_5] at h
      split at h
      · split at h
        · obtain ⟨rfl, rfl⟩ := Prod.mk.inj (Option.some.inj h)
          rw [List.length_singleton]
          omega
        · cases h
      · cases h
    · rw [plainW_none h3 h5] at h
      cases h
theorem k_task_words (T : Tx K mg) : Kp P w K mg base CX0 "task_words" 5 p_task_words (spTask K) :=
  Kp.of T.F_task_words T.g_task_words sc_task_words (fun _ _ _ _ _ _ us hl => match us, hl with | [_, _], _ => rfl) (fun vs H Q E h => by obtain ⟨p, l, m, rfl, _⟩ := h; rfl) fun cdv A outer s H vs Q E hr h => ⟨_, (der_task_words T hr (k_test_words T) (k_is_term T) (k_variables T) (k_plain_words T)).h.nox, by
    obtain ⟨p, l, m, rfl, hp, hl, k⟩ := h
    simp only [der_task_words]
    refine go_run (n_when (et_test (ev_in3 (l := l) (a := "else") (b := "end") (c := "stop") hl.ok ⟨by decide +kernel, by decide +kernel, by decide +kernel⟩ (eq_of (by exact ev_var rfl) hp) (el_lst (ea_cons ev_c ea_nil) (by simp)) (el_lst (ea_cons ev_c ea_nil) (by simp)) (el_lst (ea_cons ev_c ea_nil) (by simp)))) (fun hb => ?_) fun hb => ?_)
    · refine g_retL (xs := []) (el_lst ea_nil (by simp)) fun q H1 _ e1 h1 => k.some_of (r := []) ?_ q H1 e1 h1
      unfold taskW
      rw [if_pos (of_decide_eq_true hb)]
    have hb' := of_decide_eq_false hb
    refine n_when (et_test (ev_eqSS (l := l.take 1) (m := ["if"]) (hl.take 1).ok (ok1 (by decide +kernel)) (EvL.q (el_is (el_slQ (eq_of (by exact ev_var rfl) hp) eo_none (eo_some ev_c)) (cut_to1 l))) (EvL.q (el_lst (ea_cons ev_c ea_nil) (by simp))))) (fun hi => ?_) fun hi => ?_
    · have ek : taskW l m = testW (if (l.drop 1).take 1 = [("not" : Str)] then l.drop 2 else l.drop 1) m := by
        conv => lhs; unfold taskW
        rw [if_neg hb', if_pos (of_decide_eq_true hi)]
      rw [ek] at k
      refine g_retTest (eaq (EvL.q (el_if (xs := (if (l.drop 1).take 1 = [("not" : Str)] then l.drop 2 else l.drop 1).map V.str) (et_test (ev_eqSS (l := (l.drop 1).take 1) (m := ["not"]) ((hl.drop 1).take 1).ok (ok1 (by decide +kernel)) (EvL.q (el_is (el_slQ (eq_of (by exact ev_var rfl) hp) (eo_some ev_c) (eo_some ev_c)) (cut_at l 1))) (EvL.q (el_lst (ea_cons ev_c ea_nil) (by simp)))))
        (fun hn => ?_) fun hn => ?_)) (ea_cons (by exact ev_var rfl) ea_nil)) ?_ k
      · rw [if_pos (of_decide_eq_true hn)]
        exact el_is (el_slQ (eq_of (by exact ev_var rfl) hp) (eo_some ev_c) eo_none) (cut_from l 2)
      · rw [if_neg (of_decide_eq_false hn)]
        exact el_is (el_slQ (eq_of (by exact ev_var rfl) hp) (eo_some ev_c) eo_none) (cut_from l 1)
      · split
        · exact hl.drop 2
        · exact hl.drop 1
    have hi' := of_decide_eq_false hi
    refine n_when (et_test (ev_eqSS (l := l.take 1) (m := ["fail"]) (hl.take 1).ok (ok1 (by decide +kernel)) (EvL.q (el_is (el_slQ (eq_of (by exact ev_var rfl) hp) eo_none (eo_some ev_c)) (cut_to1 l))) (EvL.q (el_lst (ea_cons ev_c ea_nil) (by simp))))) (fun hf => ?_) fun hf => ?_
    · have hf' := of_decide_eq_true hf
      have ek : taskW l m = (if l.length ≠ 2 ∧ (l.length ≠ 4 ∨ l[2]? ≠ some ("from" : Str)) then none else if ((l.drop 1).take 1 ++ (l.drop 3).take 1).all (fun x => termB x m true) = true then some (varsW ((l.drop 1).take 1 ++ (l.drop 3).take 1) true) else none) := by
        conv => lhs; unfold taskW
        rw [if_neg hb', if_neg hi', if_pos hf']
      have htold : Tks ((l.drop 1).take 1 ++ (l.drop 3).take 1) := ⟨by
        rw [List.length_append, List.length_take, List.length_take]
        omega, fun x hx => (List.mem_append.mp hx).elim (fun h => ((hl.drop 1).take 1).2 x h) fun h => ((hl.drop 3).take 1).2 x h⟩
      refine n_when (b := !decide (l.length = 2) && (!decide (l.length = 4) || !decide (l[2]? = some ("from" : Str)))) (et_and (et_test (ev_is (ev_op (ev_lenQ (eq_of (by exact ev_var rfl) hp)) ev_c rv_neI) ?_)) fun _ => et_or (et_test (ev_is (ev_op (ev_lenQ (eq_of (by exact ev_var rfl) hp)) ev_c rv_neI) ?_)) fun h4 => ?_) (fun hc => g_ret ev_c (k.none_of ?_)) fun hc => ?_
      · exact congrArg (fun b => V.bl (!b)) (len_map (n := 2))
      · exact congrArg (fun b => V.bl (!b)) (len_map (n := 4))
      · obtain ⟨a, b, c, d, rfl⟩ := len4 (by simpa using h4 : l.length = 4)
        refine et_test (ev_is (ev_op (ev_ixQ (eq_of (by exact ev_var rfl) hp) ev_c (at_nat (k := 2) rfl)) ev_c rv_neS) (congrArg (fun b => V.bl (!b)) ?_))
        rw [Bool.eq_iff_iff, decide_eq_true_iff, decide_eq_true_iff]
        exact ⟨fun h => congrArg some h, fun h => Option.some.inj h⟩
      · rw [ek, if_pos]
        obtain ⟨h1, h2⟩ := Bool.and_eq_true_iff.mp hc
        refine ⟨by simpa using h1, ?_⟩
        rcases Bool.or_eq_true_iff.mp h2 with h | h
        · exact .inl (by simpa using h)
        · exact .inr (by simpa using h)
      · have hn : ¬ (l.length ≠ 2 ∧ (l.length ≠ 4 ∨ l[2]? ≠ some ("from" : Str))) := by
          rintro ⟨h1, h2⟩
          rw [decide_eq_false h1] at hc
          rcases h2 with h2 | h2
          · rw [decide_eq_false h2] at hc
            cases hc
          · rw [decide_eq_false h2] at hc
            cases h4 : decide (l.length = 4) <;> rw [h4] at hc <;> cases hc
        rw [if_neg hn] at ek
        refine n_asgL (xs := ((l.drop 1).take 1 ++ (l.drop 3).take 1).map V.str) (el_is (el_cat (EvL.m (el_is (el_slQ (eq_of (by exact ev_var rfl) hp) (eo_some ev_c) (eo_some ev_c)) (cut_at l 1))) (EvL.m (el_is (el_slQ (eq_of (by exact ev_var rfl) hp) (eo_some ev_c) (eo_some ev_c)) (cut_at l 3))) ?_) (by rw [List.map_append])) fun q H1 _ e1 hq => ?_
        · rw [List.length_map, List.length_map, List.length_take, List.length_take]
          omega
        · have hq1 : SqL K H1 q (((l.drop 1).take 1 ++ (l.drop 3).take 1).map V.str) := sq_of hq
          refine g_retIf (et_B (ev_allQ _ (eq_of (by exact ev_var rfl) hq1) htold.1 (fun _ => rfl) fun c hc => ev_isTerm (by exact ev_var rfl) (by exact ev_var rfl) ev_c (htold.2 c hc))) (fun ha => ?_) fun ha => g_ret ev_c fun H2 e2 => k.none_of ?_ H2 (e1.trans e2)
          · refine g_retL (el_vars (eq_of (by exact ev_var rfl) hq1) ev_c htold) fun q2 H2 _ e2 h2 => k.some_of ?_ q2 H2 (e1.trans e2) h2
            rw [ek, if_pos ha]
          · rw [ek, if_neg (by rw [ha]; decide)]
    have hf' := of_decide_eq_false hf
    have ek : taskW l m = (match plainW l m true with | none => none | some (b, r) => some (b ++ r)) := by
      conv => lhs; unfold taskW
      rw [if_neg hb', if_neg hi', if_neg hf']
      all_goals rfl
    refine n_asgP (o := plainW l m true) (ea_cons (by exact ev_var rfl) (ea_cons (by exact ev_var rfl) (ea_cons ev_c ea_nil))) (fun H1 e1 Q' E' hR => ⟨p, l, m, true, rfl, ex_l e1 hp, hl, hR⟩) (fun hn => ?_) fun b r hs q p1 p2 H1 e1 g1 g2 g3 => ?_
    · refine g_retIf (b := true) (et_test (ev_op (by exact ev_var rfl) ev_c rv_isNon)) (fun _ => g_ret ev_c (k.none_of ?_)) fun h => by cases h
      rw [ek, hn]
    · have hbr := plainW_vars hs
      refine g_retIf (b := false) (et_test (ev_is (ev_op (by exact ev_var rfl) ev_c rv_isNon) rfl)) (fun h => by cases h) fun _ => g_retL (xs := (b ++ r).map V.str) (el_is (el_cat (em_of (ev_op (by exact ev_var rfl) ev_c (rv_ixT (st_of g1) (at_nat (k := 0) rfl))) g2) (em_of (ev_op (by exact ev_var rfl) ev_c (rv_ixT (st_of g1) (at_nat (k := 1) rfl))) g3) ?_) (by rw [List.map_append])) fun q2 H2 _ e2 h2 => k.some_of ?_ q2 H2 (e1.trans e2) h2
      · rw [List.length_map, List.length_map]
        omega
      · rw [ek, hs]⟩
end
end K27

set_option maxRecDepth 100000
/-! a row, split -/
namespace K27
open PySem PySem.Spec PyProof.Rows L2 Evl
def sp1 : List Nat → List Nat → List (List Nat)
  | acc, [] => [acc]
  | acc, c :: r => if c = 32 then acc :: sp1 [] r else sp1 (acc ++ [c]) r
theorem spl_sp1 : ∀ {l acc : List Nat}, TL.spl [32] 0 acc l = sp1 acc l
  | [], acc => TL.spl_nil _ _ _
  | c :: r, acc => by
    unfold sp1
    by_cases h : c = 32
    · rw [if_pos h, TL.spl_hit (by rw [h]; rfl)]
      show acc :: TL.spl [32] 0 [] r = _
      rw [spl_sp1]
    · rw [if_neg h, TL.spl_miss, spl_sp1]
      show ((c :: r).take 1 == [32]) = false
      show ([c] == [32]) = false
      exact beq_eq_false_iff_ne.mpr fun e => h (List.cons.inj e).1
theorem spl_codes (x : Str) : (spl x).map TL.tl = sp1 [] (TL.tl x) := by
  unfold spl
  rw [TL.split_spl x " " (by decide +kernel) (TL.kind_ok (by decide +kernel)), ← spl_sp1]
  rfl
theorem sp1_ne : ∀ {l acc : List Nat}, sp1 acc l ≠ []
  | [], acc => by
    unfold sp1
    simp
  | c :: r, acc => by
    unfold sp1
    split
    · simp
    · exact sp1_ne
theorem sp1_count : ∀ {l acc : List Nat}, (sp1 acc l).length ≤ l.length + 1
  | [], acc => by
    unfold sp1
    simp
  | c :: r, acc => by
    unfold sp1
    split
    · have := sp1_count (l := r) (acc := [])
      rw [List.length_cons, List.length_cons]
      omega
    · have := sp1_count (l := r) (acc := acc ++ [c])
      rw [List.length_cons]
      omega
theorem sp1_len : ∀ {l acc : List Nat}, ∀ p ∈ sp1 acc l, p.length ≤ acc.length + l.length
  | [], acc, p, hp => by
    unfold sp1 at hp
    rw [List.mem_singleton.mp hp]
    omega
  | c :: r, acc, p, hp => by
    unfold sp1 at hp
    rw [List.length_cons]
    split at hp
    · rcases List.mem_cons.mp hp with rfl | hp
      · omega
      · have := sp1_len p hp
        rw [List.length_nil] at this
        omega
    · have := sp1_len p hp
      rw [List.length_append, List.length_singleton] at this
      omega
theorem sp1_mem : ∀ {l acc : List Nat}, ∀ p ∈ sp1 acc l, ∀ c ∈ p, c ∈ acc ∨ c ∈ l
  | [], acc, p, hp => by
    unfold sp1 at hp
    rw [List.mem_singleton.mp hp]
    exact fun c hc => .inl hc
  | d :: r, acc, p, hp => by
    intro c hc
    unfold sp1 at hp
    split at hp
    · rcases List.mem_cons.mp hp with rfl | hp
      · exact .inl hc
      · rcases sp1_mem p hp c hc with h | h
        · cases h
        · exact .inr (List.mem_cons_of_mem _ h)
    · rcases sp1_mem p hp c hc with h | h
      · rcases List.mem_append.mp h with h | h
        · exact .inl h
        · rw [List.mem_singleton.mp h]
          exact .inr List.mem_cons_self
      · exact .inr (List.mem_cons_of_mem _ h)
theorem sp1_no : ∀ {l acc : List Nat}, 32 ∉ acc → ∀ p ∈ sp1 acc l, 32 ∉ p
  | [], acc, ha, p, hp => by
    unfold sp1 at hp
    rw [List.mem_singleton.mp hp]
    exact ha
  | d :: r, acc, ha, p, hp => by
    unfold sp1 at hp
    split at hp
    · rcases List.mem_cons.mp hp with rfl | hp
      · exact ha
      · exact sp1_no (by simp) p hp
    · next hd =>
      refine sp1_no ?_ p hp
      intro h
      rcases List.mem_append.mp h with h | h
      · exact ha h
      · exact hd (List.mem_singleton.mp h).symm
theorem sp1_join : ∀ {l acc : List Nat}, TL.joinL [32] (sp1 acc l) = acc ++ l
  | [], acc => by
    unfold sp1
    rw [List.append_nil]
    rfl
  | d :: r, acc => by
    unfold sp1
    by_cases hd : d = 32
    · rw [if_pos hd]
      have h1 := sp1_join (l := r) (acc := [])
      cases h2 : sp1 [] r with
      | nil => exact absurd h2 sp1_ne
      | cons q s =>
        rw [h2] at h1
        show acc ++ ([32] ++ TL.joinL [32] (q :: s)) = acc ++ d :: r
        rw [h1, hd]
        rfl
    · rw [if_neg hd, sp1_join, List.append_assoc]
      rfl
theorem spl_ne (x : Str) : spl x ≠ [] := fun e => sp1_ne (l := TL.tl x) (acc := []) (by rw [← spl_codes, e]; rfl)
theorem tl_eq (x : Str) : TL.tl x = x.cps.toList := rfl
theorem tk_spl {b : Nat} {x p : Str} (h : Tk b x) (hp : p ∈ spl x) : Tk b p := by
  have hm : TL.tl p ∈ sp1 [] (TL.tl x) := by
    rw [← spl_codes]
    exact List.mem_map_of_mem hp
  have hl : (TL.tl x).length = x.length := Array.length_toList
  have hl2 : (TL.tl p).length = p.length := Array.length_toList
  refine ⟨?_, fun c hc => ?_⟩
  · have := sp1_len _ hm
    rw [List.length_nil, hl, hl2] at this
    have := h.1
    omega
  · rcases sp1_mem _ hm c hc with h1 | h1
    · cases h1
    · exact h.2 c h1
theorem tks_spl {x : Str} (h : Tk 50000 x) : Tks (spl x) := ⟨by
  have h1 := sp1_count (l := TL.tl x) (acc := [])
  rw [← spl_codes, List.length_map] at h1
  have hl : (TL.tl x).length = x.length := Array.length_toList
  have := h.1
  omega, fun p hp => (tk_spl h hp).mono (by omega)⟩
theorem spl_one {x p : Str} (h : spl x = [p]) : x = p := by
  have h1 := sp1_join (l := TL.tl x) (acc := [])
  rw [← spl_codes, h, List.nil_append] at h1
  exact (TL.ext_tl h1).symm
theorem spl_self {x : Str} (h : 32 ∉ TL.tl x) : spl x = [x] := by
  have h1 := spl_codes x
  rw [← spl_sp1, TL.spl_last1 h, List.nil_append] at h1
  exact TL.map_tl_inj (m := [x]) h1
end K27

set_option maxRecDepth 100000
set_option maxHeartbeats 4000000
/-! the errors; marks, rows -/
namespace K27
open PySem PySem.Spec PyProof.Rows L2 Evl
def RzB (K : PySem.W.Frag) (p : Str) (i : Int) (H : Hp) (E : XK) : Prop := ∀ dd H', Ex H H' → H' dd = some (.xd [("at", .int i), ("part", .str p)]) → E (.ref (He.ga K "BadProgram")) (some dd) H'
def RzM (K : PySem.W.Frag) (x : Str) (H : Hp) (E : XK) : Prop := ∀ dd H', Ex H H' → H' dd = some (.xd [("what", .str x)]) → E (.ref (He.ga K "TooMany")) (some dd) H'
def spBadInit (K : PySem.W.Frag) : Sp := fun vs H Q _ => ∃ (a : Addr) (p : Str) (i : Int), vs = [.ref a, .str p, .int i] ∧ H a = some (exo a (He.ga K "BadProgram") none) ∧
  ∀ d H', H d = none → d ≠ a → (∀ b o, b ≠ a → H b = some o → H' b = some o) → H' a = some (exo a (He.ga K "BadProgram") (some d)) → H' d = some (exd d [("at", .int i), ("part", .str p)]) → Q .non H'
def spManyInit (K : PySem.W.Frag) : Sp := fun vs H Q _ => ∃ (a : Addr) (p : Str), vs = [.ref a, .str p] ∧ H a = some (exo a (He.ga K "TooMany") none) ∧
  ∀ d H', H d = none → d ≠ a → (∀ b o, b ≠ a → H b = some o → H' b = some o) → H' a = some (exo a (He.ga K "TooMany") (some d)) → H' d = some (exd d [("what", .str p)]) → Q .non H'
section
variable {P : Program} {w : World} {K : PySem.W.Frag} {mg : PySem.Str → Option Value} {base : Heap}
theorem k_bad (T : Tx K mg) : Kx P w K mg base "BadProgram" 1 p_BadProgram_init (spBadInit K) := by
  obtain ⟨ox, ini, xf, no⟩ := T.bad
  obtain ⟨fd, F⟩ := T.F_BadProgram_init
  refine ⟨⟨fd, F.ok sc_BadProgram_init (fun vs H Q E h => by obtain ⟨a, p, i, rfl, _⟩ := h; rfl) fun cdv A outer s H vs Q E hr h => ⟨_, (der_BadProgram_init T hr).h.nox, ?_⟩, F.bindsN fun _ _ _ _ _ _ us hl => match us, hl with | [_, _, _], _ => rfl⟩, T.g_BadProgram, ox, (initB_ok ini).1, (initB_ok ini).2⟩
  obtain ⟨a, p, i, rfl, ha, k⟩ := h
  simp only [der_BadProgram_init]
  refine ⟨_, rfl, _, rfl, a, _, rfl, ox, noB_ok no (by simp), .inl ⟨ha, fun dx h1 h2 => ?_⟩⟩
  have ea : (upd (upd H dx (exd dx [("part", V.str p)])) a (exo a (He.ga K "BadProgram") (some dx))) a = some (exo a (He.ga K "BadProgram") (some dx)) := upd_same
  have ed : (upd (upd H dx (exd dx [("part", V.str p)])) a (exo a (He.ga K "BadProgram") (some dx))) dx = some (exd dx [("part", V.str p)]) := by rw [upd_ne h2, upd_same]
  refine ⟨_, rfl, _, rfl, a, _, rfl, ox, noB_ok no (by simp), .inr ⟨dx, _, ea, ed, by simp, ?_⟩⟩
  refine k dx _ h1 h2 (fun b o hb ho => ?_) ?_ upd_same
  · rw [upd_ne (ne_of_none ho h1), upd_ne hb, upd_ne (ne_of_none ho h1)]
    exact ho
  · rw [upd_ne (Ne.symm h2)]
    exact ea
theorem k_many (T : Tx K mg) : Kx P w K mg base "TooMany" 1 p_TooMany_init (spManyInit K) := by
  obtain ⟨ox, ini, xf, no⟩ := T.many
  obtain ⟨fd, F⟩ := T.F_TooMany_init
  refine ⟨⟨fd, F.ok sc_TooMany_init (fun vs H Q E h => by obtain ⟨a, p, rfl, _⟩ := h; rfl) fun cdv A outer s H vs Q E hr h => ⟨_, (der_TooMany_init T hr).h.nox, ?_⟩, F.bindsN fun _ _ _ _ _ _ us hl => match us, hl with | [_, _], _ => rfl⟩, T.g_TooMany, ox, (initB_ok ini).1, (initB_ok ini).2⟩
  obtain ⟨a, p, rfl, ha, k⟩ := h
  simp only [der_TooMany_init]
  refine ⟨_, rfl, _, rfl, a, _, rfl, ox, noB_ok no (by simp), .inl ⟨ha, fun dx h1 h2 => k dx _ h1 h2 (fun b o hb ho => ?_) upd_same (by rw [upd_ne h2, upd_same])⟩⟩
  rw [upd_ne hb, upd_ne (ne_of_none ho h1)]
  exact ho
section
variable {H H' : Hp} {σ : L2.St} {ta : TA} {te : TE} {E : XK} {D : Ends} {tz : TS}
theorem RzB.mono {p : Str} {i : Int} (k : RzB K p i H E) (e : Ex H H') : RzB K p i H' E := fun dd H1 e1 => k dd H1 (e.trans e1)
theorem RzM.mono {p : Str} (k : RzM K p H E) (e : Ex H H') : RzM K p H' E := fun dd H1 e1 => k dd H1 (e.trans e1)
theorem ex_exc {H1 H2 : Hp} {a d : Addr} {o o2 : HO} (ha : H1 a = none) (hd : H1 d = none) (hk : ∀ b u, b ≠ a → (upd H1 a o) b = some u → H2 b = some u) : Ex H1 (upd (del H2 a) d o2) := fun b u hb => by
  have h1 := ne_of_none hb ha
  rw [upd_ne (ne_of_none hb hd), del_ne h1]
  exact hk b u h1 (by rw [upd_ne h1]; exact hb)
theorem g_rzB {p : Str} {i : Int} (h : EvA ta σ H [.str p, .int i]) (k : RzB K p i H E) : Go (tRaise K "BadProgram" (spBadInit K) (fun cls d _ H => E cls d H) ta) D σ H := fun H1 e => h H1 e _ fun H2 e2 =>
  ⟨by simp, fun a ha => ⟨a, p, i, rfl, upd_same, fun d H3 hd hda hk h1 h2 => ⟨rfl, d, _, h1, h2, by rw [upd_ne hda] at hd; exact hd, k d _ ((e.trans e2).trans (ex_exc ha (by rw [upd_ne hda] at hd; exact hd) hk)) upd_same⟩⟩⟩
theorem g_rzM {p : Str} (h : EvA ta σ H [.str p]) (k : RzM K p H E) : Go (tRaise K "TooMany" (spManyInit K) (fun cls d _ H => E cls d H) ta) D σ H := fun H1 e => h H1 e _ fun H2 e2 =>
  ⟨by simp, fun a ha => ⟨a, p, rfl, upd_same, fun d H3 hd hda hk h1 h2 => ⟨rfl, d, _, h1, h2, by rw [upd_ne hda] at hd; exact hd, k d _ ((e.trans e2).trans (ex_exc ha (by rw [upd_ne hda] at hd; exact hd) hk)) upd_same⟩⟩⟩
end
/-! ### marks, rows -/
def spMarks (K : PySem.W.Frag) : Sp := fun vs H Q E => ∃ m : Str, vs = [.str m] ∧ Tk 100000 m ∧ if marksP m = true then RetV (.str m) H Q else RzB K "marks" (-1) H E
theorem k_checked_marks (T : Tx K mg) : Kp P w K mg base (CXx P w) "checked_marks" 3 p_checked_marks (spMarks K) :=
  Kp.of T.F_checked_marks T.g_checked_marks sc_checked_marks (fun _ _ _ _ _ _ us hl => match us, hl with | [_], _ => rfl) (fun vs H Q E h => by obtain ⟨x, rfl, _⟩ := h; rfl) fun cdv A outer s H vs Q E hr h => ⟨_, (der_checked_marks T hr (k_is_contents T) (k_bad T)).h, by
    obtain ⟨m, rfl, hm, k⟩ := h
    simp only [der_checked_marks]
    refine go_run (n_when (et_or (et_not (et_B (ev_isC (by exact ev_var rfl) hm))) fun _ => et_not (et_test (ev_chainLe ev_c (ev_lenT (by exact ev_var rfl) hm.1) ev_c))) (fun hb => g_rzB (p := "marks") (i := -1) (ea_cons ev_c (ea_cons (ev_un ev_c ru_neg) ea_nil)) ?_) fun hb => ?_)
    · have hb' : (!isC m || !(decide ((1 : Int) ≤ m.length) && decide ((m.length : Int) ≤ 3))) = true := hb
      have : marksP m = false := by
        unfold marksP
        cases h1 : isC m <;> cases h2 : (decide ((1 : Int) ≤ m.length) && decide ((m.length : Int) ≤ 3)) <;> rw [h1, h2] at hb' <;> first | rfl | cases hb'
      rw [this] at k
      exact k
    · have hb' : (!isC m || !(decide ((1 : Int) ≤ m.length) && decide ((m.length : Int) ≤ 3))) = false := hb
      have e1 : marksP m = !decide (2 < ((m.cps.toList.filter fun c => decide (c ∈ LOW.cps.toList)).length : Int)) := by
        unfold marksP
        cases h1 : isC m <;> cases h2 : (decide ((1 : Int) ≤ m.length) && decide ((m.length : Int) ≤ 3)) <;> rw [h1, h2] at hb' <;> first | rfl | cases hb'
      refine n_when (et_test (ev_op (ev_lenQ (EvL.q (el_lcS (fun c => decide (c ∈ LOW.cps.toList)) (fun c => .str ⟨#[c]⟩) (by exact ev_var rfl) hm.1 (fun _ => rfl) (fun c hc => et_test (ev_op (by exact ev_var rfl) ev_c rv_inC)) fun c hc _ => by exact ev_var rfl))) ev_c rv_gtI)) (fun hc => g_rzB (p := "marks") (i := -1) (ea_cons ev_c (ea_cons (ev_un ev_c ru_neg) ea_nil)) ?_) fun hc => g_ret (by exact ev_var rfl) (rt_is (x := .str m) ?_ rfl)
      · rw [List.length_map] at hc
        rw [e1, hc] at k
        exact k
      · rw [List.length_map] at hc
        rw [e1, hc] at k
        exact k⟩
def spRows (K : PySem.W.Frag) : Sp := fun vs H Q E => ∃ (part : Str) (p : Addr) (l : List Str) (n : Nat), vs = [.str part, .ref p, .int n] ∧ H p = some (.lst (l.map V.str)) ∧ l.length ≤ 100000 ∧
  if n < l.length then RzM K "rows" H E else ∀ q H1, Ex H H1 → H1 q = some (.tup (l.map V.str)) → Q (.ref q) H1
theorem ev_isiL {σ : L2.St} {H : Hp} {te : TE} {p : Addr} {xs : List V} (h : Ev te σ H (.ref p)) (hp : H p = some (.lst xs)) : Ev (tCB (rIsi K) (tCons te (tCons (tC (.ty "list")) tNil))) σ H (.bl true) := fun H1 e Q q => h H1 e _ fun H2 e2 =>
  ⟨.ref p, .ty "list", .type "list", .type "list", true, rfl, .ty "list", .base (.lst (e2 _ _ (e _ _ hp))), kit_ty (by decide +kernel), q H2 e2⟩
theorem eu_tupQ {σ : L2.St} {H : Hp} {te : TE} {xs : List V} (h : EvQ K te σ H xs) : EvU (tCB (rTupQ K) (tCons te tNil)) σ H xs := fun H1 e Q q => h H1 e _ fun p H2 e2 hp => ⟨p, xs, rfl, .inl ⟨hp, fun l hl => q l _ (fresh_back e2 hl) (e2.trans (Ex.new hl)) upd_same⟩⟩
theorem k_checked_rows (T : Tx K mg) : Kp P w K mg base (CXx P w) "checked_rows" 3 p_checked_rows (spRows K) :=
  Kp.of T.F_checked_rows T.g_checked_rows sc_checked_rows (fun _ _ _ _ _ _ us hl => match us, hl with | [_, _, _], _ => rfl) (fun vs H Q E h => by obtain ⟨part, p, l, n, rfl, _⟩ := h; rfl) fun cdv A outer s H vs Q E hr h => ⟨_, (der_checked_rows T hr (k_bad T) (k_many T)).h, by
    obtain ⟨part, p, l, n, rfl, hp, hl, k⟩ := h
    simp only [der_checked_rows]
    refine go_run (n_when (et_not (et_B (ev_isiL (by exact ev_var rfl) hp))) (fun h => by cases h) fun _ => n_when (et_test (ev_op (ev_lenQ (eq_of (by exact ev_var rfl) (sq_of hp))) (by exact ev_var rfl) rv_gtI)) (fun hb => g_rzM (p := "rows") (ea_cons ev_c ea_nil) ?_) fun hb => g_retU (eu_tupQ (eq_of (by exact ev_var rfl) (sq_of hp))) fun q H1 _ e1 h1 => ?_)
    · have hb' := of_decide_eq_true hb
      rw [List.length_map] at hb'
      rw [if_pos (by omega)] at k
      exact k
    · have hb' := of_decide_eq_false hb
      rw [List.length_map] at hb'
      rw [if_neg (by omega)] at k
      exact k q H1 e1 h1⟩
end
end K27

set_option maxRecDepth 100000
set_option maxHeartbeats 4000000
/-! the program's checks of the rows -/
namespace K27
open PySem PySem.Spec PyProof.Rows L2 Evl
section
variable {P : Program} {w : World} {K : PySem.W.Frag} {mg : PySem.Str → Option Value} {base : Heap}
section
variable {H H' : Hp} {σ : L2.St} {ta : TA} {te to : TE} {E : XK} {D : Ends} {tz tu : TS}
/-- over the pairs of enumerate(tuple), enumerate(list) -/
theorem g_forET {a : Addr} {xs : List V} {i j : Nat} (h : EvA ta σ H [.ref a]) (hx : SqT K H a xs) (Pv : Nat → L2.St → Hp → Prop) (hP : ∀ n σ' H', Pv n σ' H' → SqT K H' a xs) (h0 : ∀ H1, Ex H H1 → Pv 0 σ H1)
    (hs : ∀ n x σ' H', xs[n]? = some x → Pv n σ' H' → Go tu { D with nx := Pv (n + 1), ct := Pv (n + 1), bk := D.nx } ((σ'.set i (some (.int (n : Nat)))).set j (some x)) H') (hd : ∀ σ' H', Pv xs.length σ' H' → D.nx σ' H') :
    Go (tFor (iEnumT K ta) (gTup K 2 (gCons (gName i) (gCons (gName j) gNil))) tu) D σ H := fun H1 e => h H1 e _ fun H2 e2 => ⟨a, xs, rfl, ex_t (e.trans e2) hx,
  for_it wEnumT Pv (h0 H2 (e.trans e2)) (fun n σ' H' _ p => hP _ _ _ p) (fun n x σ' H3 H4 _ p y => by
    obtain ⟨T, u, v, rfl, hT, rfl, hu, hv⟩ := y
    refine ⟨T, _, rfl, st_of upd_same, rfl, u, _, rfl, v, _, rfl, rfl, ?_⟩
    cases hu
    exact hs n v σ' H3 hv p _ (Ex.new hT)) hd⟩
theorem g_forEL {a : Addr} {xs : List V} {i j : Nat} (h : EvA ta σ H [.ref a]) (hx : SqL K H a xs) (Pv : Nat → L2.St → Hp → Prop) (hP : ∀ n σ' H', Pv n σ' H' → SqL K H' a xs) (h0 : ∀ H1, Ex H H1 → Pv 0 σ H1)
    (hs : ∀ n x σ' H', xs[n]? = some x → Pv n σ' H' → Go tu { D with nx := Pv (n + 1), ct := Pv (n + 1), bk := D.nx } ((σ'.set i (some (.int (n : Nat)))).set j (some x)) H') (hd : ∀ σ' H', Pv xs.length σ' H' → D.nx σ' H') :
    Go (tFor (iEnum K ta) (gTup K 2 (gCons (gName i) (gCons (gName j) gNil))) tu) D σ H := fun H1 e => h H1 e _ fun H2 e2 => ⟨a, xs, rfl, ex_l (e.trans e2) hx,
  for_it walk_enum Pv (h0 H2 (e.trans e2)) (fun n σ' H' _ p => hP _ _ _ p) (fun n x σ' H3 H4 _ p y => by
    obtain ⟨T, u, v, rfl, hT, rfl, hu, hv⟩ := y
    refine ⟨T, _, rfl, st_of upd_same, rfl, u, _, rfl, v, _, rfl, rfl, ?_⟩
    cases hu
    exact hs n v σ' H3 hv p _ (Ex.new hT)) hd⟩
theorem n_forET {a : Addr} {xs : List V} {i j : Nat} (h : EvA ta σ H [.ref a]) (hx : SqT K H a xs) (Pv : Nat → L2.St → Hp → Prop) (hP : ∀ n σ' H', Pv n σ' H' → SqT K H' a xs) (h0 : ∀ H1, Ex H H1 → Pv 0 σ H1)
    (hs : ∀ n x σ' H', xs[n]? = some x → Pv n σ' H' → Go tu { D with nx := Pv (n + 1), ct := Pv (n + 1), bk := tz D } ((σ'.set i (some (.int (n : Nat)))).set j (some x)) H') (hd : ∀ σ' H', Pv xs.length σ' H' → Go tz D σ' H') :
    Go (tSeq (tFor (iEnumT K ta) (gTup K 2 (gCons (gName i) (gCons (gName j) gNil))) tu) tz) D σ H := g_forET (D := { D with nx := tz D }) h hx Pv hP h0 hs fun σ' H' p => hd σ' H' p H' (Ex.refl H')
theorem n_forEL {a : Addr} {xs : List V} {i j : Nat} (h : EvA ta σ H [.ref a]) (hx : SqL K H a xs) (Pv : Nat → L2.St → Hp → Prop) (hP : ∀ n σ' H', Pv n σ' H' → SqL K H' a xs) (h0 : ∀ H1, Ex H H1 → Pv 0 σ H1)
    (hs : ∀ n x σ' H', xs[n]? = some x → Pv n σ' H' → Go tu { D with nx := Pv (n + 1), ct := Pv (n + 1), bk := tz D } ((σ'.set i (some (.int (n : Nat)))).set j (some x)) H') (hd : ∀ σ' H', Pv xs.length σ' H' → Go tz D σ' H') :
    Go (tSeq (tFor (iEnum K ta) (gTup K 2 (gCons (gName i) (gCons (gName j) gNil))) tu) tz) D σ H := g_forEL (D := { D with nx := tz D }) h hx Pv hP h0 hs fun σ' H' p => hd σ' H' p H' (Ex.refl H')
theorem g_app {l : Addr} {xs : List V} {v : V} {ta : TE} (hl : H l = some (.lst xs)) (ha : Ev ta σ H (.ref l)) (h : Ev te σ H v) (hz : xs.length < 100000) (k : ∀ H1, Ex H H1 → D.nx σ (upd H1 l (.lst (xs ++ [v])))) :
    Go (tDrop (tBM K "list" rAppend ta (tCons te tNil))) D σ H := fun H1 e => ha H1 e _ fun H2 e2 => ⟨.inl ⟨rfl, xs, sq_of (e2 l _ (e l _ hl))⟩, h H2 (e.trans e2) _ fun H3 e3 => ⟨l, xs, v, rfl, rfl, e3 l _ (e2 l _ (e l _ hl)), sz_lt hz, k H3 ((e.trans e2).trans e3)⟩⟩
theorem g_pop {l : Addr} {xs : List V} {ta : TE} (hl : H l = some (.lst xs)) (ha : Ev ta σ H (.ref l)) (hn : xs ≠ []) (k : ∀ H1, Ex H H1 → D.nx σ (upd H1 l (.lst xs.dropLast))) :
    Go (tDrop (tBM K "list" rPop ta tNil)) D σ H := fun H1 e => ha H1 e _ fun H2 e2 => ⟨.inl ⟨rfl, xs, sq_of (e2 l _ (e l _ hl))⟩, l, xs, xs.getLast hn, rfl, rfl, e2 l _ (e l _ hl), by
      rw [← List.getLast?_eq_getElem?]
      exact List.getLast?_eq_some_getLast hn, k H2 (e.trans e2)⟩
theorem ixN_last {n : Nat} (h : 0 < n) : ixN n (-1) = some (n - 1) := by
  unfold ixN
  rw [if_neg (by decide), if_pos (by omega)]
  congr 1
  omega
theorem set_last {α : Type} {xs : List α} (hn : xs ≠ []) (v : α) : xs.set (xs.length - 1) v = xs.dropLast ++ [v] := by
  have h1 : xs = xs.dropLast ++ [xs.getLast hn] := (List.dropLast_concat_getLast hn).symm
  have h2 : xs.length - 1 = xs.dropLast.length := (List.length_dropLast).symm
  rw [h2]
  conv => lhs; rw [h1]
  rw [List.length_dropLast, List.length_append, List.length_singleton, Nat.add_sub_cancel, List.length_dropLast]
  conv => lhs; arg 2; rw [← List.length_dropLast]
  rw [List.set_append_right _ _ (Nat.le_refl _), Nat.sub_self]
  rfl
theorem g_setLast {l : Addr} {xs : List V} {v : V} {ta ti : TE} (hl : H l = some (.lst xs)) (h : Ev te σ H v) (ha : Ev ta σ H (.ref l)) (hi : Ev ti σ H (.int (-1))) (hn : xs ≠ []) (k : ∀ H1, Ex H H1 → D.nx σ (upd H1 l (.lst (xs.dropLast ++ [v])))) :
    Go (tAsg te (gSub ta ti rSetL)) D σ H := fun H1 e => h H1 e _ fun H2 e2 => ha H2 (e.trans e2) _ fun H3 e3 => hi H3 ((e.trans e2).trans e3) _ fun H4 e4 =>
  ⟨l, xs, -1, _, rfl, rfl, (((e.trans e2).trans e3).trans e4) l _ hl, ixN_last (List.length_pos_iff.mpr hn), by
    rw [set_last hn]
    exact k H4 (((e.trans e2).trans e3).trans e4)⟩
end
section
variable {H : Hp} {σ : L2.St} {ta : TA} {te : TE} {E : XK} {D : Ends} {tz : TS}
theorem n_asgPQ {i : Nat} {sp : Sp} {dvs vs xs : List V} {o : Option (List Str × List Str)} (h : EvAQ K ta σ H xs vs) (hs : ∀ p H1, Ex H H1 → SqL K H1 p xs → ∀ (Q : VK) (E : XK), RetP o H1 Q → sp ((.ref p :: vs) ++ dvs) H1 Q E) (kn : o = none → Go tz D (σ.set i (some .non)) H)
    (ks : ∀ b r, o = some (b, r) → ∀ q p1 p2 H1, Ex H H1 → H1 q = some (.tup [.ref p1, .ref p2]) → H1 p1 = some (.lst (b.map V.str)) → H1 p2 = some (.lst (r.map V.str)) → Go tz D (σ.set i (some (.ref q))) H1) :
    Go (tSeq (tAsg (tCall sp dvs E ta) (gName i)) tz) D σ H := fun H1 e => h H1 e _ fun p H2 e2 hp => hs p H2 (e.trans e2) hp _ _ (by
  cases o with
  | none => exact fun H3 e3 => kn rfl H3 ((e.trans e2).trans e3)
  | some br =>
    obtain ⟨b, r⟩ := br
    exact fun q p1 p2 H3 e3 g1 g2 g3 => ks b r rfl q p1 p2 H3 ((e.trans e2).trans e3) g1 g2 g3 H3 (Ex.refl H3))
theorem el_parts {x : Str} (h : Ev te σ H (.str x)) (hx : Tk 100000 x) : EvL (tCall spParts [] E (tCons te tNil)) σ H ((spl x).map V.str) := el_call (ea_cons h ea_nil) fun H1 e Q q E => ⟨x, rfl, hx, q⟩
end
/-! ### the rows of module and caller -/
def spPlainRows (K : PySem.W.Frag) : Sp := fun vs H Q E => ∃ (part : Str) (p : Addr) (rows : List Str) (m : Str) (kn : Addr) (known : List Str), vs = [.str part, .ref p, .str m, .ref kn] ∧ SqT K H p (rows.map V.str) ∧ SqL K H kn (known.map V.str) ∧
  (rows.length ≤ 100 ∧ ∀ x ∈ rows, Tk 50000 x) ∧ known.length ≤ 1000 ∧
  match plainRun m rows 0 known with
  | .inl i => RzB K part i H E
  | .inr l => ∀ q H1, Ex H H1 → H1 q = some (.lst (l.map V.str)) → Q (.ref q) H1
theorem plainRun_cons {m row : Str} {r known : List Str} {i : Nat} : plainRun m (row :: r) i known = match stepP m row known with | none => .inl i | some k => plainRun m r (i + 1) k := rfl
theorem stepP_none {m row : Str} {known : List Str} (h : plainW (spl row) m false = none) : stepP m row known = none := by
  unfold stepP
  rw [h]
theorem stepP_some {m row : Str} {known b r : List Str} (h : plainW (spl row) m false = some (b, r)) : stepP m row known = if r.all (fun x => decide (x ∈ known)) = true then some (known ++ b.filter fun x => !decide (x ∈ known)) else none := by
  unfold stepP
  rw [h]
theorem drop_at {α : Type} {l : List α} {i : Nat} {x : α} (h : l[i]? = some x) : l.drop i = x :: l.drop (i + 1) := by
  have h1 := List.getElem?_eq_some_iff.mp h
  rw [List.drop_eq_getElem_cons h1.1, h1.2]
theorem at_map {l : List Str} {i : Nat} {x : V} (h : (l.map V.str)[i]? = some x) : ∃ s, l[i]? = some s ∧ x = .str s := by
  rw [List.getElem?_map] at h
  cases hl : l[i]? with
  | none =>
    rw [hl] at h
    cases h
  | some s =>
    rw [hl] at h
    exact ⟨s, rfl, (Option.some.inj h).symm⟩
theorem k_checked_plain (T : Tx K mg) : Kp P w K mg base (CXx P w) "checked_plain" 5 p_checked_plain (spPlainRows K) :=
  Kp.of T.F_checked_plain T.g_checked_plain sc_checked_plain (fun _ _ _ _ _ _ us hl => match us, hl with | [_, _, _, _], _ => rfl) (fun vs H Q E h => by obtain ⟨part, p, rows, m, kn, known, rfl, _⟩ := h; rfl) fun cdv A outer s H vs Q E hr h => ⟨_, (der_checked_plain T hr (kd_plain_words T) (k_parts_of T) (k_bad T)).h, by
    obtain ⟨part, p, rows, m, kn, known, rfl, hp, hkn, ⟨hrl, hrt⟩, hkl, k⟩ := h
    simp only [der_checked_plain]
    refine go_run (n_asgL (el_listQ (eq_of (by exact ev_var rfl) hkn)) fun fl H1 hfl e1 h1 => ?_)
    refine n_forET (ea_cons (by exact ev_var rfl) ea_nil) (ex_t e1 hp) (fun i σ' H' => ∃ (f : Addr) (kn' : List Str) (x5 x6 x7 x8 x9 x10 : Option V), σ' = [some (.str part), some (.ref p), some (.str m), some (.ref kn), some (.ref f), x5, x6, x7, x8, x9, x10] ∧ Ex H1 H' ∧ H' f = some (.lst (kn'.map V.str)) ∧
      plainRun m (rows.drop i) i kn' = plainRun m rows 0 known ∧ kn'.length ≤ 1000 + 10 * i) (fun i σ' H' ⟨_, _, _, _, _, _, _, _, _, e, _⟩ => ex_t e (ex_t e1 hp)) (fun H2 e2 => ⟨fl, known, _, _, _, _, _, _, rfl, e2, e2 _ _ h1, rfl, by omega⟩) (fun i x σ' H2 hx hP => ?_) fun σ' H2 hP => ?_
    · obtain ⟨f, kn', x5, x6, x7, x8, x9, x10, rfl, e2, hf, hrun, hkn'⟩ := hP
      obtain ⟨row, hrow, rfl⟩ := at_map hx
      have trow := hrt row (List.mem_of_getElem? hrow)
      have hi : i < rows.length := (List.getElem?_eq_some_iff.mp hrow).1
      rw [drop_at hrow, plainRun_cons] at hrun
      refine n_asgPQ (o := plainW (spl row) m false) (eaq (EvL.q (el_parts (by exact ev_var rfl) (trow.mono (by omega)))) (ea_cons (by exact ev_var rfl) ea_nil)) (fun q H3 e3 hq Q' E' hR => ⟨q, spl row, m, false, rfl, hq, tks_spl trow, hR⟩) (fun hn => ?_) fun b r hbr q p1 p2 H3 e3 g1 g2 g3 => ?_
      · rw [stepP_none hn] at hrun
        rw [← hrun] at k
        exact n_when (b := true) (et_test (ev_op (by exact ev_var rfl) ev_c rv_isNon)) (fun _ => g_rzB (p := part) (i := i) (ea_cons (by exact ev_var rfl) (ea_cons (by exact ev_var rfl) ea_nil)) (RzB.mono k (e1.trans e2))) fun h => by cases h
      · have hlen := plainW_vars hbr
        rw [stepP_some hbr] at hrun
        refine n_when (b := false) (et_test (ev_is (ev_op (by exact ev_var rfl) ev_c rv_isNon) rfl)) (fun h => by cases h) fun _ => n_tup2 (by exact ev_var rfl) (st_of g1) (n_when (et_not (et_B (ev_allQ (fun x => decide (x ∈ kn')) (eq_of (by exact ev_var rfl) (sq_of g3)) (by omega) (fun _ => rfl) fun c hc => ev_op (by exact ev_var rfl) (by exact ev_var rfl) (rv_inLS (sq_of (e3 _ _ hf)))))) (fun hb => ?_) fun hb => ?_)
        · have hb' : r.all (fun x => decide (x ∈ kn')) = false := by simpa using hb
          rw [if_neg (by rw [hb']; decide)] at hrun
          rw [← hrun] at k
          exact g_rzB (p := part) (i := i) (ea_cons (by exact ev_var rfl) (ea_cons (by exact ev_var rfl) ea_nil)) (RzB.mono k ((e1.trans e2).trans e3))
        · have hb' : r.all (fun x => decide (x ∈ kn')) = true := by simpa using hb
          rw [if_pos hb'] at hrun
          have hfl := List.length_filter_le (fun x => !decide (x ∈ kn')) b
          refine g_asgL (xs := (kn' ++ b.filter fun x => !decide (x ∈ kn')).map V.str) (el_is (el_cat (em_of (by exact ev_var rfl) (e3 _ _ hf)) (EvL.m (el_filt (fun x => !decide (x ∈ kn')) (eq_of (by exact ev_var rfl) (sq_of g2)) (by omega) (fun _ => rfl) (fun c hc => et_test (ev_op (by exact ev_var rfl) (by exact ev_var rfl) (rv_inLS (neg := true) (sq_of (e3 _ _ hf))))) fun c hc _ => by exact ev_var rfl)) ?_) (by rw [List.map_append])) fun f' H4 _ e4 h4 H5 e5 => ?_
          · rw [List.length_map, List.length_map]
            omega
          · refine ⟨f', _, _, _, _, _, _, _, rfl, ((e2.trans e3).trans e4).trans e5, e5 _ _ h4, hrun, ?_⟩
            rw [List.length_append]
            omega
    · obtain ⟨f, kn', x5, x6, x7, x8, x9, x10, rfl, e2, hf, hrun, hkn'⟩ := hP
      rw [List.length_map, List.drop_length] at hrun
      rw [← hrun] at k
      exact g_ret (by exact ev_var rfl) fun H3 e3 => k f H3 ((e1.trans e2).trans e3) (e3 _ _ hf)⟩
end
end K27

set_option maxRecDepth 100000
set_option maxHeartbeats 4000000
/-! the program's check of the task -/
namespace K27
open PySem PySem.Spec PyProof.Rows L2 Evl
section
variable {P : Program} {w : World} {K : PySem.W.Frag} {mg : PySem.Str → Option Value} {base : Heap}
section
variable {H H' : Hp} {σ : L2.St} {ta tb te : TE}
theorem dp_bools : ∀ {l : List Bool}, DpAll K H (l.map V.bl) (l.map PyData.bool)
  | [] => .nil
  | x :: l => .cons (.bl x) dp_bools
theorem lay_bools : ∀ {l : List Bool}, PyData.canLayAll0 (l.map PyData.bool) = true
  | [] => rfl
  | x :: l => Bool.and_eq_true_iff.mpr ⟨rfl, lay_bools⟩
theorem depth_bools : ∀ {l : List Bool}, PyData.depthAll (l.map PyData.bool) = 0
  | [] => rfl
  | x :: l => by
    show max 0 (PyData.depthAll (l.map PyData.bool)) = 0
    rw [depth_bools]
    rfl
theorem shaped_bools {l : List Bool} : SeqAt.shaped (.list (l.map PyData.bool)) = true := Bool.and_eq_true_iff.mpr ⟨lay_bools, decide_eq_true (by
  show PyData.depthAll (l.map PyData.bool) + 1 ≤ 64
  rw [depth_bools]
  omega)⟩
theorem eqv_nil {l : List Bool} : PyData.eqvAll (l.map PyData.bool) [] = decide (l = []) := by
  cases l <;> rfl
theorem ev_eqNilB {l : List Bool} (ha : EvQ K ta σ H (l.map V.bl)) (hb : EvQ K tb σ H []) : Ev (tOp (rEqD K) ta tb) σ H (.bl (decide (l = []))) := fun H1 e Q q =>
  ha H1 e _ fun p H2 e2 hp => hb H2 (e.trans e2) _ fun b H3 e3 hb => ⟨_, .list [], .lst (ex_l e3 hp) dp_bools, .lst hb .nil, shaped_bools, rfl, by
    have g := q H3 (e2.trans e3)
    rw [← eqv_nil] at g
    exact g⟩
theorem ev_neNilB {l : List Bool} (ha : EvQ K ta σ H (l.map V.bl)) (hb : EvQ K tb σ H []) : Ev (tOp (rNeD K) ta tb) σ H (.bl (!decide (l = []))) := fun H1 e Q q =>
  ha H1 e _ fun p H2 e2 hp => hb H2 (e.trans e2) _ fun b H3 e3 hb => ⟨_, .list [], .lst (ex_l e3 hp) dp_bools, .lst hb .nil, shaped_bools, rfl, by
    have g := q H3 (e2.trans e3)
    rw [← eqv_nil] at g
    exact g⟩
end
def spTaskRows (K : PySem.W.Frag) : Sp := fun vs H Q E => ∃ (p : Addr) (rows : List Str) (m : Str) (kn : Addr) (known : List Str), vs = [.ref p, .str m, .ref kn] ∧ SqT K H p (rows.map V.str) ∧ SqL K H kn (known.map V.str) ∧
  (rows.length ≤ 100 ∧ ∀ x ∈ rows, Tk 50000 x) ∧ known.length ≤ 1000 ∧
  match taskRun m known rows 0 [] with
  | some i => RzB K "task" i H E
  | none => RetV .non H Q
theorem nb {b : Bool} (h : (!b) = true) : b = false := by
  cases b
  · rfl
  · cases h
theorem nb' {b : Bool} (h : (!b) = false) : b = true := by
  cases b
  · cases h
  · rfl
theorem taskRun_none {m row : Str} {known r : List Str} {i : Nat} {op : List Bool} (h : taskW (spl row) m = none) : taskRun m known (row :: r) i op = some i := by
  conv => lhs; unfold taskRun
  rw [h]
theorem taskRun_some {m row : Str} {known r ws : List Str} {i : Nat} {op : List Bool} (h : taskW (spl row) m = some ws) : taskRun m known (row :: r) i op = if ws.all (fun x => decide (x ∈ known)) = false then some i
      else if (spl row).head? = some ("if" : Str) then taskRun m known r (i + 1) (op ++ [false])
      else if spl row = [("else" : Str)] then (if op = [] ∨ op.getLast? = some true then some i else taskRun m known r (i + 1) (op.dropLast ++ [true]))
      else if spl row = [("end" : Str)] then (if op = [] then some i else taskRun m known r (i + 1) op.dropLast)
      else taskRun m known r (i + 1) op := by
  conv => lhs; unfold taskRun
  rw [h]
theorem testW_3 {l s r m : Str} : testW [l, s, r] m = if s = "in" then (if (oneIn l m && termB r m true) = true then some (varsW [r] true) else none)
    else if s = "is" then (if (varB l true && varB r true) = true then some [l, r] else none)
    else if (decide (s ∈ (["==", "<="] : List Str)) && (termB l m true && termB r m true)) = true then some (varsW [l, r] true) else none := rfl
theorem taskW_len {l : List Str} {m : Str} {ws : List Str} (h : taskW l m = some ws) : ws.length ≤ 100 := by
  have hv : ∀ l' : List Str, (varsW l' true).length ≤ l'.length := fun l' => List.length_filter_le _ _
  unfold taskW at h
  split at h
  · rw [← Option.some.inj h]
    exact Nat.zero_le _
  · split at h
    · generalize (if (l.drop 1).take 1 = [("not" : Str)] then l.drop 2 else l.drop 1) = l' at h
      by_cases h3 : l'.length = 3
      · obtain ⟨a, b, c, rfl⟩ := len3 h3
        have h1 := hv [c]
        have h2 := hv [a, c]
        have e1 : [c].length = 1 := rfl
        have e2 : [a, c].length = 2 := rfl
        rw [testW_3] at h
        split at h
        · split at h
          · rw [← Option.some.inj h]
            omega
          · cases h
        · split at h
          · split at h
            · rw [← Option.some.inj h]
              omega
            · cases h
          · split at h
            · rw [← Option.some.inj h]
              omega
            · cases h
      · rw [testW_none h3] at h
        cases h
    · split at h
      · split at h
        · cases h
        · split at h
          · rw [← Option.some.inj h]
            refine Nat.le_trans (hv _) ?_
            rw [List.length_append, List.length_take, List.length_take]
            omega
          · cases h
      · cases hp : plainW l m true with
        | none =>
          rw [hp] at h
          cases h
        | some br =>
          obtain ⟨b, r⟩ := br
          rw [hp] at h
          rw [← Option.some.inj h, List.length_append]
          have := plainW_vars hp
          omega
theorem b_check_task {A : Around} {cdv : Value} {outer : List Env} {s : Shared} {H : Hp} {E : XK} {Q : VK} {vs : List V} (T : Tx K mg) (hr) (h : spTaskRows K vs H Q E) :
    (der_check_task (P := P) (w := w) (base := base) (cdv := cdv) (A := A) (outer := outer) (s := s) (H := H) (E := E) T hr (k_parts_of T) (k_task_words T) (k_bad T)).t { nx := fun _ H' => Q .non H', rt := Q } (start N_check_task vs) H := by
  obtain ⟨p, rows, m, kn, known, rfl, hp, hkn, ⟨hrl, hrt⟩, hkl, k⟩ := h
  simp only [der_check_task]
  refine go_run (n_asgL (xs := []) (el_lst ea_nil (by simp)) fun op H1 hop e1 h1 => ?_)
  refine n_forET (ea_cons (by exact ev_var rfl) ea_nil) (ex_t e1 hp) (fun i σ' H' => ∃ (ops : List Bool) (x4 x5 x6 x7 x8 : Option V), σ' = [some (.ref p), some (.str m), some (.ref kn), some (.ref op), x4, x5, x6, x7, x8] ∧ Ex H H' ∧ H' op = some (.lst (ops.map V.bl)) ∧
    taskRun m known (rows.drop i) i ops = taskRun m known rows 0 [] ∧ ops.length ≤ i) (fun i σ' H' ⟨_, _, _, _, _, _, _, e, _⟩ => ex_t e hp) (fun H2 e2 => ⟨[], _, _, _, _, _, rfl, e1.trans e2, e2 _ _ h1, rfl, by simp⟩) (fun i x σ' H2 hx hP => ?_) fun σ' H2 hP => ?_
  · obtain ⟨ops, x4, x5, x6, x7, x8, rfl, e2, hops, hrun, hol⟩ := hP
    obtain ⟨row, hrow, rfl⟩ := at_map hx
    have trow := hrt row (List.mem_of_getElem? hrow)
    have hi : i < rows.length := (List.getElem?_eq_some_iff.mp hrow).1
    rw [drop_at hrow] at hrun
    refine n_asgL (el_parts (by exact ev_var rfl) (trow.mono (by omega))) fun pp H3 _ e3 h3 => ?_
    have tsp := tks_spl trow
    refine n_asgO (o := taskW (spl row) m) (ea_cons (by exact ev_var rfl) (ea_cons (by exact ev_var rfl) ea_nil)) (fun H4 e4 Q' E' hR => ⟨pp, spl row, m, rfl, sq_of (e4 _ _ h3), tsp, hR⟩) (fun hn => ?_) fun ws hws wp H4 e4 h4 => ?_
    · rw [taskRun_none hn] at hrun
      rw [← hrun] at k
      exact n_when (b := true) (et_is (et_or (b := false) (et_test (ev_op (by exact ev_var rfl) ev_c rv_isNon)) fun h => by cases h) rfl) (fun _ => g_rzB (p := "task") (i := i) (ea_cons ev_c (ea_cons (by exact ev_var rfl) ea_nil)) (RzB.mono k (e2.trans e3))) fun h => by cases h
    rw [taskRun_some hws] at hrun
    have hwl := taskW_len hws
    have e24 : Ex H H4 := (e2.trans e3).trans e4
    have hkn4 := ex_l e24 hkn
    refine n_when (b := !ws.all (fun x => decide (x ∈ known))) (et_is (et_or (a := false) (et_test (ev_is (ev_op (by exact ev_var rfl) ev_c rv_isNon) rfl)) fun _ => et_not (et_B (ev_allQ (fun x => decide (x ∈ known)) (eq_of (by exact ev_var rfl) (sq_of h4)) (by omega) (fun _ => rfl) fun c hc => ev_op (by exact ev_var rfl) (by exact ev_var rfl) (rv_inLS hkn4)))) (Bool.false_or _)) (fun hb => ?_) fun hb => ?_
    · have hb' : ws.all (fun x => decide (x ∈ known)) = false := nb hb
      rw [if_pos hb'] at hrun
      rw [← hrun] at k
      exact g_rzB (p := "task") (i := i) (ea_cons ev_c (ea_cons (by exact ev_var rfl) ea_nil)) (RzB.mono k e24)
    have hb' : ws.all (fun x => decide (x ∈ known)) = true := nb' hb
    rw [if_neg (by rw [hb']; decide)] at hrun
    obtain ⟨w0, wr, hw⟩ := List.exists_cons_of_ne_nil (spl_ne row)
    have hpp : SqL K H4 pp ((spl row).map V.str) := sq_of (e4 _ _ h3)
    have hop4 : H4 op = some (.lst (ops.map V.bl)) := (e3.trans e4) _ _ hops
    have hfresh : H op = none := hop
    have hfo : decide (w0 = ("if" : Str)) = false → ¬ (spl row).head? = some ("if" : Str) := fun h e => by
      rw [hw] at e
      exact of_decide_eq_false h (Option.some.inj e)
    refine g_if (et_test (ev_op (ev_ixQ (eq_of (by exact ev_var rfl) hpp) ev_c (by rw [hw]; exact at0)) ev_c rv_eqS)) (fun hf => ?_) fun hf => g_if (et_test (ev_eqSS (m := ["else"]) tsp.ok (ok1 (by decide +kernel)) (eq_of (by exact ev_var rfl) hpp) (EvL.q (el_lst (ea_cons ev_c ea_nil) (by simp))))) (fun he => ?_) fun he => g_when (et_test (ev_eqSS (m := ["end"]) tsp.ok (ok1 (by decide +kernel)) (eq_of (by exact ev_var rfl) hpp) (EvL.q (el_lst (ea_cons ev_c ea_nil) (by simp))))) (fun hd => ?_) fun hd => ?_
    · rw [if_pos (by rw [hw]; exact congrArg some (of_decide_eq_true hf))] at hrun
      refine g_app hop4 (by exact ev_var rfl) ev_c (by rw [List.length_map]; omega) fun H5 e5 => ⟨ops ++ [false], _, _, _, _, _, rfl, Ex.mut (e24.trans e5) hfresh, ?_, hrun, by rw [List.length_append, List.length_singleton]; omega⟩
      rw [List.map_append]
      exact upd_same
    · rw [if_neg (hfo hf), if_pos (of_decide_eq_true he)] at hrun
      have hE : EvQ K (tVar 3) _ H4 (ops.map V.bl) := eq_of (σ := [some (.ref p), some (.str m), some (.ref kn), some (.ref op), some (.int (i : Nat)), some (.str row), some (.ref pp), some (.ref wp), x8]) (by exact ev_var rfl) (sq_of hop4)
      by_cases hnil : ops = []
      · rw [if_pos (.inl hnil)] at hrun
        rw [← hrun] at k
        exact n_when (b := true) (et_is (et_or (b := false) (et_test (ev_eqNilB hE (EvL.q (el_lst ea_nil (by simp))))) fun h => absurd h (by rw [decide_eq_true hnil]; decide)) (by rw [decide_eq_true hnil]; rfl)) (fun _ => g_rzB (p := "task") (i := i) (ea_cons ev_c (ea_cons (by exact ev_var rfl) ea_nil)) (RzB.mono k e24)) fun h => by cases h
      · have hlast : (ops.map V.bl).getLast? = some (.bl (ops.getLast hnil)) := by
          rw [List.getLast?_map, List.getLast?_eq_some_getLast hnil]
          rfl
        refine n_when (et_or (et_test (ev_eqNilB hE (EvL.q (el_lst ea_nil (by simp))))) fun _ => et_B (ev_ixQ hE (ev_un ev_c ru_neg) (at_last hlast))) (fun hb => ?_) fun hb => ?_
        · have hb2 : ops.getLast hnil = true := by
            rw [decide_eq_false hnil] at hb
            exact hb
          rw [if_pos (.inr (by rw [List.getLast?_eq_some_getLast hnil, hb2]))] at hrun
          rw [← hrun] at k
          exact g_rzB (p := "task") (i := i) (ea_cons ev_c (ea_cons (by exact ev_var rfl) ea_nil)) (RzB.mono k e24)
        · have hb2 : ops.getLast hnil = false := by
            rw [decide_eq_false hnil] at hb
            exact hb
          rw [if_neg (by
            rw [List.getLast?_eq_some_getLast hnil, hb2]
            rintro (h | h)
            · exact hnil h
            · cases h)] at hrun
          refine g_setLast hop4 ev_c (by exact ev_var rfl) (ev_un ev_c ru_neg) (by simpa using hnil) fun H5 e5 => ⟨ops.dropLast ++ [true], _, _, _, _, _, rfl, Ex.mut (e24.trans e5) hfresh, ?_, hrun, by rw [List.length_append, List.length_singleton, List.length_dropLast]; omega⟩
          rw [List.map_append, List.map_dropLast]
          exact upd_same
    · rw [if_neg (hfo hf), if_neg (of_decide_eq_false he), if_pos (of_decide_eq_true hd)] at hrun
      have hE : EvQ K (tVar 3) _ H4 (ops.map V.bl) := eq_of (σ := [some (.ref p), some (.str m), some (.ref kn), some (.ref op), some (.int (i : Nat)), some (.str row), some (.ref pp), some (.ref wp), x8]) (by exact ev_var rfl) (sq_of hop4)
      refine n_when (et_test (ev_eqNilB hE (EvL.q (el_lst ea_nil (by simp))))) (fun hb => ?_) fun hb => ?_
      · rw [if_pos (of_decide_eq_true hb)] at hrun
        rw [← hrun] at k
        exact g_rzB (p := "task") (i := i) (ea_cons ev_c (ea_cons (by exact ev_var rfl) ea_nil)) (RzB.mono k e24)
      · have hnil := of_decide_eq_false hb
        rw [if_neg hnil] at hrun
        refine g_pop hop4 (by exact ev_var rfl) (by simpa using hnil) fun H5 e5 => ⟨ops.dropLast, _, _, _, _, _, rfl, Ex.mut (e24.trans e5) hfresh, ?_, hrun, by rw [List.length_dropLast]; omega⟩
        rw [List.map_dropLast]
        exact upd_same
    · rw [if_neg (hfo hf), if_neg (of_decide_eq_false he), if_neg (of_decide_eq_false hd)] at hrun
      exact fun H5 e5 => ⟨ops, _, _, _, _, _, rfl, e24.trans e5, e5 _ _ hop4, hrun, by omega⟩
  · obtain ⟨ops, x4, x5, x6, x7, x8, rfl, e2, hops, hrun, hol⟩ := hP
    rw [List.length_map, List.drop_length] at hrun
    have hr' : (if ops = [] then none else some rows.length) = taskRun m known rows 0 [] := hrun
    have hE : EvQ K (tVar 3) _ H2 (ops.map V.bl) := eq_of (σ := [some (.ref p), some (.str m), some (.ref kn), some (.ref op), x4, x5, x6, x7, x8]) (by exact ev_var rfl) (sq_of hops)
    refine g_when (et_test (ev_neNilB hE (EvL.q (el_lst ea_nil (by simp))))) (fun hb => ?_) fun hb => ?_
    · rw [if_neg (of_decide_eq_false (nb hb))] at hr'
      rw [← hr'] at k
      have hll : ((rows.map V.str).length : Int) = (rows.length : Int) := by rw [List.length_map]
      refine g_rzB (p := "task") (i := rows.length) (ea_cons ev_c (ea_cons (ev_is (ev_lenU (by exact ev_var rfl) (ex_t e2 hp)) (congrArg V.int hll)) ea_nil)) (RzB.mono k e2)
    · rw [if_pos (of_decide_eq_true (nb' hb))] at hr'
      rw [← hr'] at k
      exact fun H3 e3 => k H3 (e2.trans e3)
theorem k_check_task (T : Tx K mg) : Kp P w K mg base (CXx P w) "check_task" 6 p_check_task (spTaskRows K) :=
  Kp.of T.F_check_task T.g_check_task sc_check_task (fun _ _ _ _ _ _ us hl => match us, hl with | [_, _, _], _ => rfl) (fun vs H Q E h => by obtain ⟨p, rows, m, kn, known, rfl, _⟩ := h; rfl) fun cdv A outer s H vs Q E hr h => ⟨_, (der_check_task T hr (k_parts_of T) (k_task_words T) (k_bad T)).h, b_check_task T hr h⟩
end
end K27

set_option maxRecDepth 100000
set_option maxHeartbeats 4000000
/-! the program's Program.__init__ -/
namespace K27
open PySem PySem.Spec PyProof.Rows L2 Evl
/-- all but one thing stay -/
def Exa (a : Addr) (H H' : Hp) : Prop := ∀ b o, b ≠ a → H b = some o → H' b = some o
theorem Exa.of {a : Addr} {H H' : Hp} (e : Ex H H') : Exa a H H' := fun b o _ h => e b o h
theorem Exa.trans {a : Addr} {H H1 H2 : Hp} (e : Exa a H H1) (f : Exa a H1 H2) : Exa a H H2 := fun b o n h => f b o n (e b o n h)
theorem Exa.upd {a : Addr} {H : Hp} {o : HO} : Exa a H (upd H a o) := fun b u n h => by rw [upd_ne n]; exact h
def EvR (te : TE) (σ : L2.St) (H : Hp) (P : V → Hp → Prop) : Prop := ∀ H1, Ex H H1 → ∀ Q : VK, (∀ v H2, Ex H1 H2 → P v H2 → Q v H2) → te σ H1 Q
def EvAR (ta : TA) (σ : L2.St) (H : Hp) (P : List V → Hp → Prop) : Prop := ∀ H1, Ex H H1 → ∀ Q : List V → Hp → Prop, (∀ vs H2, Ex H1 H2 → P vs H2 → Q vs H2) → ta σ H1 Q
section
variable {P : Program} {w : World} {K : PySem.W.Frag} {mg : PySem.Str → Option Value} {base : Heap}
section
variable {H H' : Hp} {σ : L2.St} {ta tr : TA} {te tf to tb : TE} {E : XK} {D : Ends} {tz : TS} {sp : Sp} {dvs vs : List V} {PA : List V → Hp → Prop} {PV : V → Hp → Prop}
theorem ear_of (h : EvA ta σ H vs) : EvAR ta σ H (fun us _ => us = vs) := fun H1 e Q q => h H1 e Q fun H2 e2 => q vs H2 e2 rfl
theorem ear_cons {v : V} (h : Ev te σ H v) (hr : EvAR tr σ H PA) : EvAR (tCons te tr) σ H (fun us H2 => ∃ r, us = v :: r ∧ PA r H2) := fun H1 e Q q =>
  h H1 e _ fun H2 e2 => hr H2 (e.trans e2) _ fun us H3 e3 hp => q _ H3 (e2.trans e3) ⟨us, rfl, hp⟩
theorem ear_q {xs : List V} (h : EvQ K te σ H xs) : EvAR (tCons te tNil) σ H (fun us H2 => ∃ p, us = [.ref p] ∧ SqL K H2 p xs) := fun H1 e Q q => h H1 e _ fun p H2 e2 hp => q _ H2 e2 ⟨p, rfl, hp⟩
theorem er_call (h : EvAR ta σ H PA) (hs : ∀ vs H1, Ex H H1 → PA vs H1 → ∀ Q : VK, (∀ v H2, Ex H1 H2 → PV v H2 → Q v H2) → sp (vs ++ dvs) H1 Q E) : EvR (tCall sp dvs E ta) σ H PV := fun H1 e Q q =>
  h H1 e _ fun vs H2 e2 hp => hs vs H2 (e.trans e2) hp Q fun v H3 e3 hv => q v H3 (e2.trans e3) hv
theorem x_asg {g : TG} (h : EvAR ta σ H PA) (hs : ∀ vs H1, Ex H H1 → PA vs H1 → ∀ Q : VK, sp (vs ++ dvs) H1 Q E) : Go (tSeq (tAsg (tCall sp dvs E ta) g) tz) D σ H := fun H1 e => h H1 e _ fun vs H2 e2 hp => hs vs H2 (e.trans e2) hp _
theorem x_fld {f : Str} (h : EvAR ta σ H PA) (hs : ∀ vs H1, Ex H H1 → PA vs H1 → ∀ Q : VK, sp (vs ++ dvs) H1 Q E) : Go (tSeq (sFld K to (tCall sp dvs E ta) f) tz) D σ H := fun H1 e => h H1 e _ fun vs H2 e2 hp => hs vs H2 (e.trans e2) hp _
theorem x_drop (h : EvAR ta σ H PA) (hs : ∀ vs H1, Ex H H1 → PA vs H1 → ∀ Q : VK, sp (vs ++ dvs) H1 Q E) : Go (tDrop (tCall sp dvs E ta)) D σ H := fun H1 e => h H1 e _ fun vs H2 e2 hp => hs vs H2 (e.trans e2) hp _
theorem n_asgR {i : Nat} (h : EvR te σ H PV) (k : ∀ v H1, Ex H H1 → PV v H1 → Go tz D (σ.set i (some v)) H1) : Go (tSeq (tAsg te (gName i)) tz) D σ H := fun H1 e => h H1 e _ fun v H2 e2 hv => k v H2 (e.trans e2) hv H2 (Ex.refl H2)
theorem g_dropR (h : EvR te σ H PV) (k : ∀ H1, Ex H H1 → D.nx σ H1) : Go (tDrop te) D σ H := fun H1 e => h H1 e _ fun v H2 e2 _ => k H2 (e.trans e2)
theorem n_fldR {f : Str} {a C dx : Addr} {fs : List (Str × V)} (h : EvR te σ H PV) (ho : Ev to σ H (.ref a)) (ha : H a = some (.ins C dx fs)) (cl : Cls K C) (na : NoAttr K C f) (hl : fs.length < 1000)
    (k : ∀ v H1, Ex H H1 → PV v H1 → ∀ H2, Ex H1 H2 → Go tz D σ (upd H2 a (.ins C dx (putF f v fs)))) : Go (tSeq (sFld K to te f) tz) D σ H := fun H1 e => h H1 e _ fun v H2 e2 hv => ho H2 (e.trans e2) _ fun H3 e3 =>
  ⟨a, C, dx, fs, rfl, ((e.trans e2).trans e3) _ _ ha, cl, na, hl, k v H2 (e.trans e2) hv H3 e3 _ (Ex.refl _)⟩
theorem ev_fld {f : Str} {a C dx : Addr} {fs : List (Str × V)} {v : V} (ho : Ev to σ H (.ref a)) (ha : H a = some (.ins C dx fs)) (cl : Cls K C) (na : NoAttr K C f) (hf : fs.lookup f = some v) : Ev (tFld K to f) σ H v := fun H1 e Q q =>
  ho H1 e _ fun H2 e2 => ⟨a, C, dx, fs, v, rfl, (e.trans e2) _ _ ha, cl, na, hf, q H2 e2⟩
theorem er_of {v : V} (h : Ev te σ H v) : EvR te σ H (fun u _ => u = v) := fun H1 e Q q => h H1 e Q fun H2 e2 => q v H2 e2 rfl
/-- tuple(sorted(l)) -/
theorem er_sortedTup {l : List Str} (h : EvQ K te σ H (l.map V.str)) (hl : l.length < 64) : EvR (tCB (rTupQ K) (tCons (tCB (rSortedS K) (tCons te tNil)) tNil)) σ H (fun v H2 => ∃ (p : Addr) (ys : List Str), v = .ref p ∧ ys.Perm l ∧ H2 p = some (.tup (ys.map V.str))) := fun H1 e Q q =>
  h H1 e _ fun a H2 e2 ha => ⟨a, l, rfl, ha, hl, fun ys p hp _ hn => ⟨p, ys.map V.str, rfl, .inl ⟨sq_of upd_same, fun r hr => q _ _ ((e2.trans (Ex.new hn)).trans (Ex.new hr)) ⟨r, ys, rfl, hp, upd_same⟩⟩⟩⟩
end
def spProg (K : PySem.W.Frag) : Sp := fun vs H Q E => ∃ (x : Addr) (m : Str) (pa pb pc dx : Addr) (a b c : List Str), vs = [.ref x, .str m, .ref pa, .ref pb, .ref pc] ∧ H x = some (.ins (He.ga K "Program") dx []) ∧ Tk 100000 m ∧
  (H pa = some (.lst (a.map V.str)) ∧ H pb = some (.lst (b.map V.str)) ∧ H pc = some (.lst (c.map V.str))) ∧ (∀ l ∈ [a, b, c], l.length ≤ 100 ∧ ∀ y ∈ l, Tk 50000 y) ∧
  match progErr m a b c with
  | some (.prog part i) => ∀ dd H', Exa x H H' → H' dd = some (.xd [("at", .int i), ("part", .str part)]) → E (.ref (He.ga K "BadProgram")) (some dd) H'
  | some (.many what) => ∀ dd H', Exa x H H' → H' dd = some (.xd [("what", .str what)]) → E (.ref (He.ga K "TooMany")) (some dd) H'
  | none => ∀ H' fs ta tb tc, Exa x H H' → H' x = some (.ins (He.ga K "Program") dx fs) → fs.lookup ("module" : Str) = some (.ref ta) → fs.lookup ("caller" : Str) = some (.ref tb) → fs.lookup ("task" : Str) = some (.ref tc) →
      H' ta = some (.tup (a.map V.str)) → H' tb = some (.tup (b.map V.str)) → H' tc = some (.tup (c.map V.str)) → Q .non H'
theorem stepP_len {m row : Str} {k k' : List Str} (h : stepP m row k = some k') : k'.length ≤ k.length + 10 := by
  cases hp : plainW (spl row) m false with
  | none =>
    rw [stepP_none hp] at h
    cases h
  | some br =>
    obtain ⟨b, r⟩ := br
    rw [stepP_some hp] at h
    split at h
    · rw [← Option.some.inj h, List.length_append]
      have h1 := plainW_vars hp
      have h2 := List.length_filter_le (fun x => !decide (x ∈ k)) b
      omega
    · cases h
theorem plainRun_len {m : Str} : ∀ {rows : List Str} {i : Nat} {k k' : List Str}, plainRun m rows i k = .inr k' → k'.length ≤ k.length + 10 * rows.length
  | [], i, k, k', h => by
    have e : k = k' := Sum.inr.inj h
    rw [e]
    exact Nat.le_add_right _ _
  | row :: r, i, k, k', h => by
    rw [plainRun_cons] at h
    cases hs : stepP m row k with
    | none =>
      rw [hs] at h
      cases h
    | some k1 =>
      rw [hs] at h
      have h1 := stepP_len hs
      have h2 := plainRun_len h
      rw [List.length_cons]
      omega
theorem taskRun_perm {m : Str} {k1 k2 : List Str} (hk : ∀ x, x ∈ k1 ↔ x ∈ k2) : ∀ {rows : List Str} {i : Nat} {op : List Bool}, taskRun m k1 rows i op = taskRun m k2 rows i op
  | [], i, op => rfl
  | row :: r, i, op => by
    have hd : (fun x => decide (x ∈ k1)) = (fun x => decide (x ∈ k2)) := funext fun x => by
      rw [Bool.eq_iff_iff, decide_eq_true_iff, decide_eq_true_iff]
      exact hk x
    cases ht : taskW (spl row) m with
    | none => rw [taskRun_none ht, taskRun_none ht]
    | some ws =>
      rw [taskRun_some ht, taskRun_some ht, hd, taskRun_perm hk, taskRun_perm hk, taskRun_perm hk, taskRun_perm hk]
end
end K27

set_option maxRecDepth 100000
set_option maxHeartbeats 4000000
/-! the program's Program.__init__ -/
namespace K27
open PySem PySem.Spec PyProof.Rows L2 Evl
theorem putF_len {f : Str} {v : V} : ∀ {fs : List (Str × V)}, (putF f v fs).length ≤ fs.length + 1
  | [] => Nat.le_refl _
  | (g, x) :: r => by
    unfold putF
    split
    · rw [List.length_cons, List.length_cons]
      omega
    · have := putF_len (f := f) (v := v) (fs := r)
      rw [List.length_cons, List.length_cons]
      omega
theorem look_same {f : Str} {v : V} {fs : List (Str × V)} : (putF f v fs).lookup f = some v := by rw [lookup_putF, if_pos rfl]
theorem look_keep {f g : Str} {v u : V} {fs : List (Str × V)} (h : g ≠ f) (hl : fs.lookup g = some u) : (putF f v fs).lookup g = some u := by rw [lookup_putF, if_neg h, hl]
section
variable {P : Program} {w : World} {K : PySem.W.Frag} {mg : PySem.Str → Option Value} {base : Heap}
theorem b_Program_init {A : Around} {cdv : Value} {outer : List Env} {s : Shared} {H : Hp} {E : XK} {Q : VK} {vs : List V} (T : Tx K mg) (hr) (h : spProg K vs H Q E) :
    (der_Program_init (P := P) (w := w) (base := base) (cdv := cdv) (A := A) (outer := outer) (s := s) (H := H) (E := E) T hr (k_checked_marks T) (k_checked_rows T) (k_checked_plain T) (k_check_task T) (k_many T)).t { nx := fun _ H' => Q .non H', rt := Q } (start N_Program_init vs) H := by
  obtain ⟨x, m, pa, pb, pc, dx, a, b, c, rfl, hx, hm, ⟨ha, hb, hc⟩, hbd, k⟩ := h
  have la := hbd a (by simp)
  have lb := hbd b (by simp)
  have lc := hbd c (by simp)
  have na : pa ≠ x := ne_of ha hx (by simp)
  have nb : pb ≠ x := ne_of hb hx (by simp)
  have nc : pc ≠ x := ne_of hc hx (by simp)
  have nt : ∀ {G : Hp} {q : Addr} {xs : List V} {fs : List (Str × V)}, G x = some (.ins (He.ga K "Program") dx fs) → G q = some (.tup xs) → q ≠ x := fun g1 g2 => ne_of g2 g1 (by simp)
  have nl : ∀ {G : Hp} {q : Addr} {xs : List V} {fs : List (Str × V)}, G x = some (.ins (He.ga K "Program") dx fs) → G q = some (.lst xs) → q ≠ x := fun g1 g2 => ne_of g2 g1 (by simp)
  simp only [der_Program_init]
  refine go_run ?_
  -- marks
  cases hM : marksP m with
  | false =>
    have ek : progErr m a b c = some (.prog "marks" (-1)) := by
      unfold progErr
      rw [if_neg (by rw [hM]; decide)]
    rw [ek] at k
    exact x_fld (ear_of (ea_cons (by exact ev_var rfl) ea_nil)) fun us H1 e1 hv Q' => by
      subst hv
      exact ⟨m, rfl, hm, by
        rw [if_neg (by rw [hM]; decide)]
        exact fun dd H' e hd => k dd H' ((Exa.of e1).trans (Exa.of e)) hd⟩
  | true =>
  have ek : progErr m a b c = partsErr m a b c := by
    unfold progErr
    rw [if_pos hM]
  rw [ek] at k
  refine n_fldR (PV := fun v _ => v = .str m) (er_call (ear_of (ea_cons (by exact ev_var rfl) ea_nil)) fun us H1 e1 hv Q' q => ⟨m, by rw [hv]; rfl, hm, by rw [if_pos hM]; exact fun H2 e2 => q _ H2 e2 rfl⟩) (by exact ev_var rfl) hx T.c_Program T.n_marks (by simp) fun v H1 e1 _ H2 e2 => ?_
  generalize hG : upd H2 x _ = G
  have x0 : Exa x H G := by
    rw [← hG]
    exact (Exa.of (e1.trans e2)).trans Exa.upd
  have gx : ∃ fs, G x = some (.ins (He.ga K "Program") dx fs) ∧ fs.length ≤ 1 := ⟨_, by rw [← hG]; exact upd_same, putF_len⟩
  clear hG e1 e2
  clear H1 H2
  obtain ⟨fs, gx, gl⟩ := gx
  -- module
  by_cases hA : 6 < a.length
  · rw [parts_many hA] at k
    exact x_fld (ear_of (ea_cons ev_c (ea_cons (by exact ev_var rfl) (ea_cons ev_c ea_nil)))) fun us H1 e1 hv Q' => by
      subst hv
      exact ⟨"module", pa, a, 6, rfl, e1 _ _ (x0 _ _ na ha), by omega, by
        rw [if_pos hA]
        exact fun dd H' e hd => k dd H' ((x0.trans (Exa.of e1)).trans (Exa.of e)) hd⟩
  refine n_fldR (PV := fun v H2 => ∃ q : Addr, v = .ref q ∧ H2 q = some (.tup (a.map V.str))) (er_call (ear_of (ea_cons ev_c (ea_cons (by exact ev_var rfl) (ea_cons ev_c ea_nil)))) fun us H1 e1 hv Q' q => ⟨"module", pa, a, 6, by rw [hv]; rfl, e1 _ _ (x0 _ _ na ha), by omega, by
      rw [if_neg hA]
      exact fun t H2 e2 ht => q _ H2 e2 ⟨t, rfl, ht⟩⟩) (by exact ev_var rfl) gx T.c_Program T.n_module (by omega) fun v H1 e1 hv H2 e2 => ?_
  obtain ⟨qa, rfl, hqa⟩ := hv
  generalize hG : upd H2 x _ = G1
  have x1 : Exa x H G1 := by
    rw [← hG]
    exact (x0.trans (Exa.of (e1.trans e2))).trans Exa.upd
  have g1q : G1 qa = some (.tup (a.map V.str)) := by
    rw [← hG, upd_ne (nt ((e1.trans e2) _ _ gx) (e2 _ _ hqa))]
    exact e2 _ _ hqa
  have g1 : ∃ fs, G1 x = some (.ins (He.ga K "Program") dx fs) ∧ fs.length ≤ 2 ∧ fs.lookup ("module" : Str) = some (.ref qa) := ⟨_, by rw [← hG]; exact upd_same, Nat.le_trans putF_len (by omega), look_same⟩
  clear hG e1 e2 hqa gx gl x0
  clear H1 H2 G fs
  obtain ⟨fs, gx, gl, lm⟩ := g1
  -- known of module
  cases hP : plainRun m a 0 [] with
  | inl i =>
    rw [parts_l hA hP] at k
    exact x_asg (ear_cons ev_c (ear_cons (ev_fld (by exact ev_var rfl) gx T.c_Program T.n_module lm) (ear_cons (by exact ev_var rfl) (ear_q (EvL.q (el_lst ea_nil (by simp))))))) fun us H1 e1 hv Q' => by
      obtain ⟨_, rfl, _, rfl, _, rfl, kn, rfl, hkn⟩ := hv
      exact ⟨"module", qa, a, m, kn, [], rfl, st_of (e1 _ _ g1q), hkn, la, by simp, by
        rw [hP]
        exact fun dd H' e hd => k dd H' ((x1.trans (Exa.of e1)).trans (Exa.of e)) hd⟩
  | inr k1 =>
  rw [parts_r hA hP] at k
  have hk1 : k1.length ≤ 60 := by
    have := plainRun_len hP
    rw [List.length_nil] at this
    omega
  refine n_asgR (PV := fun v H2 => ∃ f : Addr, v = .ref f ∧ H2 f = some (.lst (k1.map V.str))) (er_call (ear_cons ev_c (ear_cons (ev_fld (by exact ev_var rfl) gx T.c_Program T.n_module lm) (ear_cons (by exact ev_var rfl) (ear_q (EvL.q (el_lst ea_nil (by simp))))))) fun us H1 e1 hv Q' q => by
      obtain ⟨_, rfl, _, rfl, _, rfl, kn, rfl, hkn⟩ := hv
      exact ⟨"module", qa, a, m, kn, [], rfl, st_of (e1 _ _ g1q), hkn, la, by simp, by
        rw [hP]
        exact fun f H2 e2 hf => q _ H2 e2 ⟨f, rfl, hf⟩⟩) fun v H1 e1 hv => ?_
  obtain ⟨f1, rfl, hf1⟩ := hv
  have x2 := x1.trans (Exa.of e1)
  have g2x := e1 _ _ gx
  have g2q := e1 _ _ g1q
  clear e1 gx g1q x1
  clear G1
  -- too many globals
  have hl1 : ((k1.map V.str).length : Int) = (k1.length : Int) := by rw [List.length_map]
  refine n_when (et_test (ev_op (ev_is (ev_lenQ (eq_of (by exact ev_var rfl) (sq_of hf1))) (congrArg V.int hl1)) ev_c rv_gtI)) (fun hgl => ?_) fun hgl => ?_
  · have hgl' := of_decide_eq_true hgl
    rw [if_pos (by omega)] at k
    exact g_rzM (p := "globals") (ea_cons ev_c ea_nil) fun dd H' e hd => k dd H' (x2.trans (Exa.of e)) hd
  have hgl' := of_decide_eq_false hgl
  rw [if_neg (by omega)] at k
  -- of_module
  refine n_fldR (er_sortedTup (eq_of (by exact ev_var rfl) (sq_of hf1)) (by omega)) (by exact ev_var rfl) g2x T.c_Program T.n_of_module (by omega) fun v H2 e2 hv H3 e3 => ?_
  obtain ⟨om, ys, rfl, hperm, hom⟩ := hv
  generalize hG : upd H3 x _ = G
  have x3 : Exa x H G := by
    rw [← hG]
    exact (x2.trans (Exa.of (e2.trans e3))).trans Exa.upd
  have g3q : G qa = some (.tup (a.map V.str)) := by
    rw [← hG, upd_ne (nt g2x g2q)]
    exact (e2.trans e3) _ _ g2q
  have g3o : G om = some (.tup (ys.map V.str)) := by
    rw [← hG, upd_ne (nt ((e2.trans e3) _ _ g2x) (e3 _ _ hom))]
    exact e3 _ _ hom
  have g3f : G f1 = some (.lst (k1.map V.str)) := by
    rw [← hG, upd_ne (nl g2x hf1)]
    exact (e2.trans e3) _ _ hf1
  have g3 : ∃ fs, G x = some (.ins (He.ga K "Program") dx fs) ∧ fs.length ≤ 3 ∧ fs.lookup ("module" : Str) = some (.ref qa) ∧ fs.lookup ("of_module" : Str) = some (.ref om) := ⟨_, by rw [← hG]; exact upd_same, Nat.le_trans putF_len (by omega), look_keep (by decide) lm, look_same⟩
  clear hG e2 e3 hom hf1 x2 g2x g2q
  clear lm gl H1 H2 H3 fs
  obtain ⟨fs, gx, gl, lm, lo⟩ := g3
  -- caller
  by_cases hB : 6 < b.length
  · rw [caller_many hB] at k
    exact x_fld (ear_of (ea_cons ev_c (ea_cons (by exact ev_var rfl) (ea_cons ev_c ea_nil)))) fun us H1 e1 hv Q' => by
      subst hv
      exact ⟨"caller", pb, b, 6, rfl, e1 _ _ (x3 _ _ nb hb), by omega, by
        rw [if_pos hB]
        exact fun dd H' e hd => k dd H' ((x3.trans (Exa.of e1)).trans (Exa.of e)) hd⟩
  refine n_fldR (PV := fun v H2 => ∃ q : Addr, v = .ref q ∧ H2 q = some (.tup (b.map V.str))) (er_call (ear_of (ea_cons ev_c (ea_cons (by exact ev_var rfl) (ea_cons ev_c ea_nil)))) fun us H1 e1 hv Q' q => ⟨"caller", pb, b, 6, by rw [hv]; rfl, e1 _ _ (x3 _ _ nb hb), by omega, by
      rw [if_neg hB]
      exact fun t H2 e2 ht => q _ H2 e2 ⟨t, rfl, ht⟩⟩) (by exact ev_var rfl) gx T.c_Program T.n_caller (by omega) fun v H1 e1 hv H2 e2 => ?_
  obtain ⟨qb, rfl, hqb⟩ := hv
  generalize hG : upd H2 x _ = G4
  have x4 : Exa x H G4 := by
    rw [← hG]
    exact (x3.trans (Exa.of (e1.trans e2))).trans Exa.upd
  have g4q : G4 qa = some (.tup (a.map V.str)) := by
    rw [← hG, upd_ne (nt gx g3q)]
    exact (e1.trans e2) _ _ g3q
  have g4o : G4 om = some (.tup (ys.map V.str)) := by
    rw [← hG, upd_ne (nt gx g3o)]
    exact (e1.trans e2) _ _ g3o
  have g4f : G4 f1 = some (.lst (k1.map V.str)) := by
    rw [← hG, upd_ne (nl gx g3f)]
    exact (e1.trans e2) _ _ g3f
  have g4b : G4 qb = some (.tup (b.map V.str)) := by
    rw [← hG, upd_ne (nt ((e1.trans e2) _ _ gx) (e2 _ _ hqb))]
    exact e2 _ _ hqb
  have g4 : ∃ fs, G4 x = some (.ins (He.ga K "Program") dx fs) ∧ fs.length ≤ 4 ∧ fs.lookup ("module" : Str) = some (.ref qa) ∧ fs.lookup ("of_module" : Str) = some (.ref om) ∧ fs.lookup ("caller" : Str) = some (.ref qb) :=
    ⟨_, by rw [← hG]; exact upd_same, Nat.le_trans putF_len (by omega), look_keep (by decide) lm, look_keep (by decide) lo, look_same⟩
  clear hG e1 e2 hqb gx gl x3 g3q g3o g3f lm lo
  clear H1 H2 G fs
  obtain ⟨fs, gx, gl, lm, lo, lca⟩ := g4
  -- known of caller
  cases hP2 : plainRun m b 0 k1 with
  | inl i =>
    rw [caller_l hB hP2] at k
    exact x_asg (ear_cons ev_c (ear_cons (ev_fld (by exact ev_var rfl) gx T.c_Program T.n_caller lca) (ear_cons (by exact ev_var rfl) (ear_q (eq_of (by exact ev_var rfl) (sq_of g4f)))))) fun us H1 e1 hv Q' => by
      obtain ⟨_, rfl, _, rfl, _, rfl, kn, rfl, hkn⟩ := hv
      exact ⟨"caller", qb, b, m, kn, k1, rfl, st_of (e1 _ _ g4b), hkn, lb, by omega, by
        rw [hP2]
        exact fun dd H' e hd => k dd H' ((x4.trans (Exa.of e1)).trans (Exa.of e)) hd⟩
  | inr k2 =>
  rw [caller_r hB hP2] at k
  have hk2 : k2.length ≤ 60 + 60 := by
    have := plainRun_len hP2
    omega
  refine n_asgR (PV := fun v H2 => ∃ f : Addr, v = .ref f ∧ H2 f = some (.lst (k2.map V.str))) (er_call (ear_cons ev_c (ear_cons (ev_fld (by exact ev_var rfl) gx T.c_Program T.n_caller lca) (ear_cons (by exact ev_var rfl) (ear_q (eq_of (by exact ev_var rfl) (sq_of g4f)))))) fun us H1 e1 hv Q' q => by
      obtain ⟨_, rfl, _, rfl, _, rfl, kn, rfl, hkn⟩ := hv
      exact ⟨"caller", qb, b, m, kn, k1, rfl, st_of (e1 _ _ g4b), hkn, lb, by omega, by
        rw [hP2]
        exact fun f H2 e2 hf => q _ H2 e2 ⟨f, rfl, hf⟩⟩) fun v H1 e1 hv => ?_
  obtain ⟨f2, rfl, hf2⟩ := hv
  have x5 := x4.trans (Exa.of e1)
  have g5x := e1 _ _ gx
  have g5q := e1 _ _ g4q
  have g5o := e1 _ _ g4o
  have g5b := e1 _ _ g4b
  clear e1 gx g4q g4o g4f g4b x4
  clear G4
  -- too many names
  have hl2 : ((k2.map V.str).length : Int) = (k2.length : Int) := by rw [List.length_map]
  have hlo : ((ys.map V.str).length : Int) = (k1.length : Int) := by rw [List.length_map, hperm.length_eq]
  refine n_when (b := decide (min 4 (k1.length + 2) < k2.length)) (et_is (et_test (ev_op (ev_is (ev_lenQ (eq_of (by exact ev_var rfl) (sq_of hf2))) (congrArg V.int hl2)) (ev_min2 ev_c (ev_op (ev_is (ev_lenU (ev_fld (by exact ev_var rfl) g5x T.c_Program T.n_of_module lo) (st_of g5o)) (congrArg V.int hlo)) ev_c rv_addI)) rv_gtI)) ?_) (fun hgl => ?_) fun hgl => ?_
  · rw [Bool.eq_iff_iff, decide_eq_true_iff, decide_eq_true_iff]
    split <;> omega
  · rw [if_pos (of_decide_eq_true hgl)] at k
    exact g_rzM (p := "names") (ea_cons ev_c ea_nil) fun dd H' e hd => k dd H' (x5.trans (Exa.of e)) hd
  have hnm := of_decide_eq_false hgl
  rw [if_neg hnm] at k
  -- of_caller
  refine n_fldR (er_sortedTup (eq_of (by exact ev_var rfl) (sq_of hf2)) (by omega)) (by exact ev_var rfl) g5x T.c_Program T.n_of_caller (by omega) fun v H2 e2 hv H3 e3 => ?_
  obtain ⟨oc, zs, rfl, hperm2, hoc⟩ := hv
  generalize hG : upd H3 x _ = G
  have x6 : Exa x H G := by
    rw [← hG]
    exact (x5.trans (Exa.of (e2.trans e3))).trans Exa.upd
  have g6q : G qa = some (.tup (a.map V.str)) := by
    rw [← hG, upd_ne (nt g5x g5q)]
    exact (e2.trans e3) _ _ g5q
  have g6o : G om = some (.tup (ys.map V.str)) := by
    rw [← hG, upd_ne (nt g5x g5o)]
    exact (e2.trans e3) _ _ g5o
  have g6b : G qb = some (.tup (b.map V.str)) := by
    rw [← hG, upd_ne (nt g5x g5b)]
    exact (e2.trans e3) _ _ g5b
  have g6 : ∃ fs, G x = some (.ins (He.ga K "Program") dx fs) ∧ fs.length ≤ 5 ∧ fs.lookup ("module" : Str) = some (.ref qa) ∧ fs.lookup ("of_module" : Str) = some (.ref om) ∧ fs.lookup ("caller" : Str) = some (.ref qb) :=
    ⟨_, by rw [← hG]; exact upd_same, Nat.le_trans putF_len (by omega), look_keep (by decide) lm, look_keep (by decide) lo, look_keep (by decide) lca⟩
  clear hG e2 e3 hoc hf2 x5 g5x g5q g5o g5b
  clear lm lo lca gl H1 H2 H3 fs
  obtain ⟨fs, gx, gl, lm, lo, lca⟩ := g6
  -- task
  by_cases hC : 16 < c.length
  · rw [task_many hC] at k
    exact x_fld (ear_of (ea_cons ev_c (ea_cons (by exact ev_var rfl) (ea_cons ev_c ea_nil)))) fun us H1 e1 hv Q' => by
      subst hv
      exact ⟨"task", pc, c, 16, rfl, e1 _ _ (x6 _ _ nc hc), by omega, by
        rw [if_pos hC]
        exact fun dd H' e hd => k dd H' ((x6.trans (Exa.of e1)).trans (Exa.of e)) hd⟩
  refine n_fldR (PV := fun v H2 => ∃ q : Addr, v = .ref q ∧ H2 q = some (.tup (c.map V.str))) (er_call (ear_of (ea_cons ev_c (ea_cons (by exact ev_var rfl) (ea_cons ev_c ea_nil)))) fun us H1 e1 hv Q' q => ⟨"task", pc, c, 16, by rw [hv]; rfl, e1 _ _ (x6 _ _ nc hc), by omega, by
      rw [if_neg hC]
      exact fun t H2 e2 ht => q _ H2 e2 ⟨t, rfl, ht⟩⟩) (by exact ev_var rfl) gx T.c_Program T.n_task (by omega) fun v H1 e1 hv H2 e2 => ?_
  obtain ⟨qc, rfl, hqc⟩ := hv
  generalize hG : upd H2 x _ = G7
  have x7 : Exa x H G7 := by
    rw [← hG]
    exact (x6.trans (Exa.of (e1.trans e2))).trans Exa.upd
  have g7q : G7 qa = some (.tup (a.map V.str)) := by
    rw [← hG, upd_ne (nt gx g6q)]
    exact (e1.trans e2) _ _ g6q
  have g7o : G7 om = some (.tup (ys.map V.str)) := by
    rw [← hG, upd_ne (nt gx g6o)]
    exact (e1.trans e2) _ _ g6o
  have g7b : G7 qb = some (.tup (b.map V.str)) := by
    rw [← hG, upd_ne (nt gx g6b)]
    exact (e1.trans e2) _ _ g6b
  have g7c : G7 qc = some (.tup (c.map V.str)) := by
    rw [← hG, upd_ne (nt ((e1.trans e2) _ _ gx) (e2 _ _ hqc))]
    exact e2 _ _ hqc
  have g7 : ∃ fs, G7 x = some (.ins (He.ga K "Program") dx fs) ∧ fs.lookup ("module" : Str) = some (.ref qa) ∧ fs.lookup ("of_module" : Str) = some (.ref om) ∧ fs.lookup ("caller" : Str) = some (.ref qb) ∧ fs.lookup ("task" : Str) = some (.ref qc) :=
    ⟨_, by rw [← hG]; exact upd_same, look_keep (by decide) lm, look_keep (by decide) lo, look_keep (by decide) lca, look_same⟩
  clear hG e1 e2 hqc gx gl x6 g6q g6o g6b lm lo lca
  clear H1 H2 G fs
  obtain ⟨fs, gx, lm, lo, lca, lt⟩ := g7
  have hys : ys.length ≤ 60 := by rw [hperm.length_eq]; exact hk1
  have hmem : ∀ y, y ∈ ys ++ ([("item" : Str), ("out" : Str)]) ↔ y ∈ k1 ++ ([("item" : Str), ("out" : Str)]) := fun y => by
    rw [List.mem_append, List.mem_append, hperm.mem_iff]
  have harg : EvQ K (tOp rCat (tCB (rListQ K) (tCons (tFld K (tVar 0) "of_module") tNil)) (tLst (tCons (tC (.str "item")) (tCons (tC (.str "out")) tNil)))) [some (.ref x), some (.str m), some (.ref pa), some (.ref pb), some (.ref pc), some (.ref f2)] G7 ((ys ++ ([("item" : Str), ("out" : Str)])).map V.str) := by
    refine EvL.q (el_is (el_cat (EvL.m (el_listU (ev_fld (by exact ev_var rfl) gx T.c_Program T.n_of_module lo) (st_of g7o))) (EvL.m (el_lst (ea_cons ev_c (ea_cons ev_c ea_nil)) (by simp))) ?_) ?_)
    · rw [List.length_map]
      simp
      omega
    · rw [List.map_append]
      rfl
  cases hT : taskRun m (k1 ++ ([("item" : Str), ("out" : Str)])) c 0 [] with
  | some i =>
    rw [task_l hC hT] at k
    exact x_drop (ear_cons (ev_fld (by exact ev_var rfl) gx T.c_Program T.n_task lt) (ear_cons (by exact ev_var rfl) (ear_q harg))) fun us H1 e1 hv Q' => by
      obtain ⟨_, rfl, _, rfl, kn, rfl, hkn⟩ := hv
      exact ⟨qc, c, m, kn, _, rfl, st_of (e1 _ _ g7c), hkn, lc, by rw [List.length_append]; simp; omega, by
        rw [taskRun_perm hmem, hT]
        exact fun dd H' e hd => k dd H' ((x7.trans (Exa.of e1)).trans (Exa.of e)) hd⟩
  | none =>
    rw [task_r hC hT] at k
    refine g_dropR (PV := fun v _ => v = .non) (er_call (ear_cons (ev_fld (by exact ev_var rfl) gx T.c_Program T.n_task lt) (ear_cons (by exact ev_var rfl) (ear_q harg))) fun us H1 e1 hv Q' q => by
      obtain ⟨_, rfl, _, rfl, kn, rfl, hkn⟩ := hv
      exact ⟨qc, c, m, kn, _, rfl, st_of (e1 _ _ g7c), hkn, lc, by rw [List.length_append]; simp; omega, by
        rw [taskRun_perm hmem, hT]
        exact fun H2 e2 => q _ H2 e2 rfl⟩) fun H1 e1 => ?_
    exact k H1 fs qa qb qc (x7.trans (Exa.of e1)) (e1 _ _ gx) lm lca lt (e1 _ _ g7q) (e1 _ _ g7b) (e1 _ _ g7c)
theorem kc_Program (T : Tx K mg) : Kc P w K mg base 7 p_Program_init (spProg K) := by
  obtain ⟨fd, F⟩ := T.F_Program_init
  refine ⟨T.mk_Program, ⟨fd, F.ok sc_Program_init (fun vs H Q E h => by obtain ⟨x, m, pa, pb, pc, dx, a, b, c, rfl, _⟩ := h; rfl) fun cdv A outer s H vs Q E hr h => ⟨_, (der_Program_init T hr (k_checked_marks T) (k_checked_rows T) (k_checked_plain T) (k_check_task T) (k_many T)).h, b_Program_init T hr h⟩, F.bindsN fun _ _ _ _ _ _ us hl => match us, hl with | [_, _, _, _, _], _ => rfl⟩, T.g_Program⟩
end
end K27

set_option maxRecDepth 100000
/-! the law's readings, in plain Lean; sorted(set(text)) -/
namespace K27
open PySem PySem.Spec PyProof.Rows L2
def ascB (x : Str) : Bool := decide (x.cps.toList.Pairwise (· < ·))
theorem asc_ext : ∀ {l m : List Nat}, l.Pairwise (· < ·) → m.Pairwise (· < ·) → (∀ c, c ∈ l ↔ c ∈ m) → l = m
  | [], [], _, _, _ => rfl
  | [], b :: m, _, _, h => absurd ((h b).mpr List.mem_cons_self) (by simp)
  | a :: l, [], _, _, h => absurd ((h a).mp List.mem_cons_self) (by simp)
  | a :: l, b :: m, h1, h2, h => by
    obtain ⟨ha, hl⟩ := List.pairwise_cons.mp h1
    obtain ⟨hb, hm⟩ := List.pairwise_cons.mp h2
    have e : a = b := by
      rcases List.mem_cons.mp ((h a).mp List.mem_cons_self) with e | e
      · exact e
      · rcases List.mem_cons.mp ((h b).mpr List.mem_cons_self) with f | f
        · exact f.symm
        · have := ha b f
          have := hb a e
          omega
    subst e
    rw [asc_ext hl hm fun c => ?_]
    constructor
    · intro hc
      rcases List.mem_cons.mp ((h c).mp (List.mem_cons_of_mem _ hc)) with e | e
      · have := ha c hc
        omega
      · exact e
    · intro hc
      rcases List.mem_cons.mp ((h c).mpr (List.mem_cons_of_mem _ hc)) with e | e
      · have := hb c hc
        omega
      · exact e
theorem join_codes : ∀ {cs : List Nat}, TL.tl (Txt.join "" (cs.map fun c => (⟨#[c]⟩ : Str))) = cs := by
  intro cs
  rw [TL.join_eq, TL.tl_join]
  induction cs with
  | nil => rfl
  | cons c r ih =>
    cases r with
    | nil => rfl
    | cons d r =>
      show [c] ++ ([] ++ TL.joinL [] _) = _
      rw [List.nil_append]
      exact congrArg (c :: ·) ih
theorem rising_asc : ∀ {cs : List Nat} {a : Nat}, risingS ⟨#[a]⟩ (cs.map fun c => (⟨#[c]⟩ : Str)) = true → (a :: cs).Nodup → (a :: cs).Pairwise (· < ·)
  | [], a, _, _ => List.pairwise_singleton _ _
  | b :: r, a, h, nd => by
    have h' : (!ltCps [b] [a] && risingS ⟨#[b]⟩ (r.map fun c => (⟨#[c]⟩ : Str))) = true := h
    obtain ⟨h1, h2⟩ := Bool.and_eq_true_iff.mp h'
    obtain ⟨n1, n2⟩ := List.nodup_cons.mp nd
    have p := rising_asc h2 n2
    have hab : a < b := by
      have h3 : ¬ b < a := by
        intro hlt
        have : ltCps [b] [a] = true := by
          show (decide (b < a) || _) = true
          rw [decide_eq_true hlt]
          rfl
        rw [this] at h1
        cases h1
      have : a ≠ b := fun e => n1 (by rw [e]; exact List.mem_cons_self)
      omega
    refine List.pairwise_cons.mpr ⟨fun c hc => ?_, p⟩
    rcases List.mem_cons.mp hc with rfl | hc
    · exact hab
    · have := (List.pairwise_cons.mp p).1 c hc
      omega
theorem ones_of : ∀ {ys : List Str} {z : Str}, (∀ k ∈ ys, k ∈ signs z) → ∃ cs : List Nat, ys = cs.map fun c => (⟨#[c]⟩ : Str)
  | [], _, _ => ⟨[], rfl⟩
  | y :: ys, z, h => by
    obtain ⟨cs, rfl⟩ := ones_of (ys := ys) (z := z) fun k hk => h k (List.mem_cons_of_mem _ hk)
    obtain ⟨c, _, rfl⟩ := List.mem_map.mp (h y List.mem_cons_self)
    exact ⟨c :: cs, rfl⟩
theorem one_inj {c d : Nat} (h : (⟨#[c]⟩ : Str) = ⟨#[d]⟩) : c = d := by
  have h1 : TL.tl ⟨#[c]⟩ = TL.tl ⟨#[d]⟩ := congrArg TL.tl h
  exact (List.cons.inj h1).1
/-- the text of the sorted set is the text itself exactly where the text goes up -/
theorem sorted_set {z : Str} {ys : List Str} (nd : ys.Nodup) (so : sortedS ys = true) (hm : ∀ k, k ∈ ys ↔ k ∈ signs z) : decide (z = Txt.join "" ys) = ascB z := by
  obtain ⟨cs, rfl⟩ := ones_of (z := z) fun k hk => (hm k).mp hk
  have nd' : cs.Nodup := by
    refine List.Pairwise.of_map (fun c => (⟨#[c]⟩ : Str)) (fun a b hab e => hab (by rw [e])) nd
  have asc : cs.Pairwise (· < ·) := by
    cases cs with
    | nil => exact .nil
    | cons a r => exact rising_asc so nd'
  have mem : ∀ c, c ∈ cs ↔ c ∈ TL.tl z := fun c => by
    have h1 := hm ⟨#[c]⟩
    constructor
    · intro hc
      obtain ⟨d, hd, e⟩ := List.mem_map.mp (h1.mp (List.mem_map_of_mem hc))
      rw [← one_inj e]
      exact hd
    · intro hc
      obtain ⟨d, hd, e⟩ := List.mem_map.mp (h1.mpr (List.mem_map_of_mem hc))
      rw [← one_inj e]
      exact hd
  unfold ascB
  rw [Bool.eq_iff_iff, decide_eq_true_iff, decide_eq_true_iff]
  constructor
  · intro e
    have e' : TL.tl z = cs := by
      conv => lhs; rw [e]
      exact join_codes
    show (TL.tl z).Pairwise (· < ·)
    rw [e']
    exact asc
  · intro h
    refine TL.ext_tl ?_
    rw [join_codes]
    exact asc_ext h asc fun c => (mem c).symm
def readsL (x : Str) (known : List Str) (m : Str) : Bool := decide (x ∈ known) || (brB x && (allIn (inn x) m && ascB (inn x)))
def marksL (m : Str) : Bool := (decide ((1 : Int) ≤ m.length) && decide ((m.length : Int) ≤ 3)) && ascB m && (decide (((m.cps.toList.filter fun c => decide (c ∈ UPP.cps.toList)).length : Int) + ((m.cps.toList.filter fun c => decide (c ∈ LOW.cps.toList)).length : Int) = (m.length : Int)) &&
  decide (((m.cps.toList.filter fun c => decide (c ∈ LOW.cps.toList)).length : Int) ≤ 2))
def fitsTest : List Str → List Str → Str → Bool
  | [l, s, r], known, m => if s = "in" then oneIn l m && readsL r known m else if s = "is" then decide (l ∈ known) && decide (r ∈ known) else decide (s ∈ (["==", "<="] : List Str)) && (readsL l known m && readsL r known m)
  | _, _, _ => false
def fitsTask (p known : List Str) (m : Str) : Bool :=
  if p.head? = some ("fail" : Str) then (if p.length ≠ 2 ∧ (p.length ≠ 4 ∨ p[2]? ≠ some ("from" : Str)) then false else ((p.drop 1).take 1 ++ (p.drop 3).take 1).all fun x => readsL x known m)
  else if p.head? = some ("if" : Str) then fitsTest (if (p.drop 1).take 1 = [("not" : Str)] then p.drop 2 else p.drop 1) known m
  else decide (p.length = 1)
def fitsPlain : List Str → Bool → List Str → Str → Bool
  | [a, s, b], tk, known, m => if s ∈ t_CHANGES then decide (a ∈ known) && readsL b known m else decide (s = "=") && (readsL b known m && (decide (a ∈ known) || (!tk && isW a)))
  | [a, s, b, g, c], tk, known, m => decide (s = "=") && (readsL b known m && ((decide (a ∈ known) || (!tk && isW a)) && (decide (g ∈ t_SIGNS) && readsL c known m)))
  | _, _, _, _ => false
def fiveW : List Str := ["if", "else", "end", "stop", "fail"]
def fitsRow (p : List Str) (tk : Bool) (known : List Str) (m : Str) : Bool := match p with
  | [] => false
  | h :: r => if (tk && decide (h ∈ fiveW)) = true then fitsTask (h :: r) known m else fitsPlain (h :: r) tk known m
def knownL (p : List Str) (tk : Bool) (known : List Str) : List Str := match p with
  | h :: s :: _ => if (!tk && (decide (s = ("=" : Str)) && !decide (h ∈ known))) = true then known ++ [h] else known
  | _ => known
def open1 (p : List Str) (tk : Bool) (op : List Str) : List Str := if (tk && decide (p.head? = some ("if" : Str))) = true then op ++ [("if" : Str)] else op
def open2 (row : Str) (op : List Str) : List Str := if row = "else" then op.dropLast ++ [("else" : Str)] else op
def open3 (row : Str) (op : List Str) : List Str := if row = "end" then op.dropLast else op
def badEnd (row : Str) (op : List Str) : Bool := decide (row ∈ (["else", "end"] : List Str)) && (decide (op = []) || decide (op.getLast? = some row))
def firstL (tk : Bool) (m : Str) : List Str → Nat → List Str → List Str → Option Nat × List Str
  | [], i, known, op => (if op = [] then none else some i, known)
  | row :: r, i, known, op => if fitsRow (spl row) tk known m = false then (some i, known) else
    if badEnd row (open1 (spl row) tk op) = true then (some i, knownL (spl row) tk known) else
    firstL tk m r (i + 1) (knownL (spl row) tk known) (open3 row (open2 row (open1 (spl row) tk op)))
def taskErrL (m : Str) (k c : List Str) : Option Bad := if 16 < c.length then some (.many "rows") else match (firstL true m c 0 (k ++ ([("item" : Str), ("out" : Str)])) []).1 with
  | some i => some (.prog "task" i)
  | none => none
def callerErrL (m : Str) (k b c : List Str) : Option Bad := if 6 < b.length then some (.many "rows") else match firstL false m b 0 k [] with
  | (some i, _) => some (.prog "caller" i)
  | (none, k2) => if 4 < k2.length ∨ k.length + 2 < k2.length then some (.many "names") else taskErrL m k c
def partsErrL (m : Str) (a b c : List Str) : Option Bad := if 6 < a.length then some (.many "rows") else match firstL false m a 0 [] [] with
  | (some i, _) => some (.prog "module" i)
  | (none, k) => if 3 < k.length then some (.many "globals") else callerErrL m k b c
def lawErr (m : Str) (a b c : List Str) : Option Bad := if marksL m = true then partsErrL m a b c else some (.prog "marks" (-1))
end K27

set_option maxRecDepth 100000
set_option maxHeartbeats 4000000
/-! the law's readers -/
namespace K27
open PySem PySem.Spec PyProof.Rows L2 Evl
section
variable {P : Program} {w : World} {K : PySem.W.Frag} {mg : PySem.Str → Option Value} {base : Heap}
def spRes : Sp := fun vs H Q _ => vs = [] ∧ RetL (t_RESERVED.map V.str) H Q
theorem k_l_reserved (T : Tx K mg) : Kp P w K mg base CX0 "_law_reserved" 1 p_l_reserved spRes :=
  Kp.of T.F_l_reserved T.g_l_reserved sc_l_reserved (fun _ _ _ _ _ _ us hl => match us, hl with | [], _ => rfl) (fun vs H Q E h => by obtain ⟨rfl, _⟩ := h; rfl) fun cdv A outer s H vs Q E hr h => ⟨_, (der_l_reserved T hr).h.nox, by
    obtain ⟨rfl, k⟩ := h
    simp only [der_l_reserved]
    refine go_run (n_asgL (xs := (t_RESERVED.take 12).map V.str) (el_lst (ea_cons ev_c (ea_cons ev_c (ea_cons ev_c (ea_cons ev_c (ea_cons ev_c (ea_cons ev_c (ea_cons ev_c (ea_cons ev_c (ea_cons ev_c (ea_cons ev_c (ea_cons ev_c (ea_cons ev_c ea_nil)))))))))))) (by decide)) fun p H1 hp e1 h1 => ?_)
    exact g_retL (xs := t_RESERVED.map V.str) (el_cat (em_of (by exact ev_var rfl) h1) (EvL.m (el_lst (ea_cons ev_c (ea_cons ev_c (ea_cons ev_c (ea_cons ev_c (ea_cons ev_c ea_nil))))) (by decide))) (by decide)) fun q H2 hq e2 h2 => k q H2 (fresh_back e1 hq) (e1.trans e2) h2⟩
section
variable {H : Hp} {σ : L2.St} {ta tb te : TE} {E : XK}
theorem el_res : EvL (tCall spRes [] E tNil) σ H (t_RESERVED.map V.str) := el_call ea_nil fun H1 e Q q E => ⟨rfl, q⟩
theorem ev_inQS {neg : Bool} {l : List Str} {a : Str} (ha : Ev ta σ H (.str a)) (hb : EvQ K tb σ H (l.map V.str)) : Ev (tOp (rIn K neg) ta tb) σ H (.bl (if neg then !decide (a ∈ l) else decide (a ∈ l))) := fun H1 e Q q =>
  ha H1 e _ fun H2 e2 => hb H2 (e.trans e2) _ fun p H3 e3 hp => ⟨p, _, rfl, .inl hp, rfl, flat_strs, by
    rw [inV_str]
    exact q H3 (e2.trans e3)⟩
theorem sum_ones : ∀ (cs : List Nat), ((cs.map fun c => (⟨#[c]⟩ : Str)).map (·.length)).sum = cs.length
  | [] => rfl
  | c :: r => by
    have := sum_ones r
    rw [List.map_cons, List.map_cons, List.sum_cons, this, List.length_cons]
    show 1 + r.length = r.length + 1
    omega
/-- ''.join(sorted(set(text))) -/
theorem er_sortSet {z : Str} {L : List Str} (h : Ev te σ H (.str z)) (hz : z.length ≤ 4000) (hL : L.length < 64) (hm : ∀ k ∈ signs z, k ∈ L) :
    EvR (tM1 (rJoin K) (tC (.str "")) (tCB (rSortedSS w) (tCons (tCB (rSetS w) (tCons te tNil)) tNil))) σ H (fun v _ => ∃ y : Str, v = .str y ∧ decide (z = y) = ascB z) := fun H1 e Q q => ⟨⟨_, rfl⟩, h H1 e _ fun H2 e2 => ⟨z, rfl, by omega, fun p n hp =>
  ⟨p, _, n, L, rfl, upd_same, fun k hk => hm k (of_decide_eq_true hk), hL, fun ys r nd so my hr => by
    have my' : ∀ k, k ∈ ys ↔ k ∈ signs z := fun k => (my k).trans (by rw [decide_eq_true_iff])
    obtain ⟨cs, rfl⟩ := ones_of (z := z) fun k hk => (my' k).mp hk
    have hl := nodup_few nd fun k hk => hm k ((my' k).mp hk)
    refine ⟨"", r, _, rfl, rfl, .inl (sq_of upd_same), ?_, q _ _ ((e2.trans (Ex.new hp)).trans (Ex.new hr)) ⟨_, rfl, sorted_set nd so my'⟩⟩
    rw [sum_ones]
    rw [List.length_map] at hl ⊢
    have e0 : (("" : Str)).length = 0 := rfl
    rw [e0]
    omega⟩⟩⟩
theorem ev_eqR {a : Str} {b : Bool} (ha : Ev ta σ H (.str a)) (hb : EvR tb σ H (fun v _ => ∃ y : Str, v = .str y ∧ decide (a = y) = b)) : Ev (tOp rEq ta tb) σ H (.bl b) := fun H1 e Q q =>
  ha H1 e _ fun H2 e2 => hb H2 (e.trans e2) _ fun v H3 e3 ⟨y, hv, hy⟩ => by
    subst hv
    rw [← hy] at q
    exact rv_eqS (H := H3) H3 (Ex.refl H3) Q fun H4 e4 => q H4 ((e2.trans e3).trans e4)
theorem ev_neR {a : Str} {b : Bool} (ha : Ev ta σ H (.str a)) (hb : EvR tb σ H (fun v _ => ∃ y : Str, v = .str y ∧ decide (a = y) = b)) : Ev (tOp rNe ta tb) σ H (.bl (!b)) := fun H1 e Q q =>
  ha H1 e _ fun H2 e2 => hb H2 (e.trans e2) _ fun v H3 e3 ⟨y, hv, hy⟩ => by
    subst hv
    rw [← hy] at q
    exact rv_neS (H := H3) H3 (Ex.refl H3) Q fun H4 e4 => q H4 ((e2.trans e3).trans e4)
end
theorem k_l_is_word (T : Tx K mg) : Kp P w K mg base CX0 "_law_is_word" 2 p_l_is_word spIsWord :=
  Kp.of T.F_l_is_word T.g_l_is_word sc_l_is_word (fun _ _ _ _ _ _ us hl => match us, hl with | [_], _ => rfl) (fun vs H Q E h => by obtain ⟨x, rfl, _⟩ := h; rfl) fun cdv A outer s H vs Q E hr h => ⟨_, (der_l_is_word T hr (k_l_reserved T)).h.nox, by
    obtain ⟨x, rfl, hx, k⟩ := h
    simp only [der_l_is_word]
    refine go_run (n_asg ev_c (g_ret (ev_andV (ev_chainLe ev_c (ev_lenT (by exact ev_var rfl) hx.1) ev_c) fun _ => ev_andV (ev_inQS (neg := true) (by exact ev_var rfl) (EvL.q el_res)) fun _ => ev_allS _ (by exact ev_var rfl) hx.1 (fun _ => rfl) fun c hc => ev_op (by exact ev_var rfl) (by exact ev_var rfl) rv_inC) (rt_is k ?_)))
    unfold isW
    show V.bl _ = V.bl ((decide ((1:Int) ≤ (x.length:Int)) && decide ((x.length:Int) ≤ 8)) && (!decide (x ∈ t_RESERVED) && x.cps.toList.all (fun c => decide (c ∈ LOW.cps.toList))))
    cases (decide ((1:Int) ≤ (x.length:Int)) && decide ((x.length:Int) ≤ 8)) <;> cases decide (x ∈ t_RESERVED) <;> rfl⟩
def spReads (K : PySem.W.Frag) : Sp := fun vs H Q _ => ∃ (x : Str) (kn : Addr) (known : List Str) (m : Str), vs = [.str x, .ref kn, .str m] ∧ SqL K H kn (known.map V.str) ∧ Tk 4000 x ∧ m.length < 64 ∧ RetV (.bl (readsL x known m)) H Q
theorem ev_reads {H : Hp} {σ : L2.St} {ta tb tc : TE} {E : XK} {x m : Str} {kn : Addr} {known : List Str} (h : Ev ta σ H (.str x)) (h2 : Ev tb σ H (.ref kn)) (h3 : Ev tc σ H (.str m)) (hk : SqL K H kn (known.map V.str)) (hx : Tk 4000 x) (hm : m.length < 64) :
    Ev (tCall (spReads K) [] E (tCons ta (tCons tb (tCons tc tNil)))) σ H (.bl (readsL x known m)) := ev_call (ea_cons h (ea_cons h2 (ea_cons h3 ea_nil))) fun H1 e Q q E => ⟨x, kn, known, m, rfl, ex_l e hk, hx, hm, q⟩
theorem k_l_reads (T : Tx K mg) : Kp P w K mg base CX0 "_law_reads" 1 p_l_reads (spReads K) :=
  Kp.of T.F_l_reads T.g_l_reads sc_l_reads (fun _ _ _ _ _ _ us hl => match us, hl with | [_, _, _], _ => rfl) (fun vs H Q E h => by obtain ⟨x, kn, known, m, rfl, _⟩ := h; rfl) fun cdv A outer s H vs Q E hr h => ⟨_, (der_l_reads T hr).h.nox, by
    obtain ⟨x, kn, known, m, rfl, hk, hx, hm, k⟩ := h
    simp only [der_l_reads]
    have hx1 : x.length ≤ 100000 := Nat.le_trans hx.1 (by decide)
    have hlen : x.cps.toList.length = x.length := Array.length_toList
    refine go_run (n_when (et_test (ev_op (by exact ev_var rfl) (by exact ev_var rfl) (rv_inLS hk))) (fun hb => g_ret ev_c (rt_is k ?_)) fun hb => ?_)
    · have hb' : decide (x ∈ known) = true := hb
      unfold readsL
      rw [hb']
      rfl
    have hb' : decide (x ∈ known) = false := hb
    have ek : readsL x known m = (brB x && (allIn (inn x) m && ascB (inn x))) := by
      unfold readsL
      rw [hb']
      rfl
    rw [ek] at k
    by_cases hl : x.length < 2
    · refine n_when (b := true) (et_is (et_or (b := false) (et_test (ev_op (ev_lenT (by exact ev_var rfl) hx1) ev_c rv_ltI)) fun h => absurd (show decide ((x.length : Int) < 2) = false from h) (by rw [decide_eq_true (by omega)]; decide)) (by
        show (decide ((x.length : Int) < 2) || false) = true
        rw [decide_eq_true (by omega)]
        rfl)) (fun _ => g_ret ev_c (rt_is k ?_)) fun h => by cases h
      unfold brB
      rw [decide_eq_false (by omega)]
      rfl
    · have hne : x.cps.toList ≠ [] := by
        intro e
        rw [e] at hlen
        rw [← hlen] at hl
        exact hl (by decide)
      obtain ⟨c0, r0, e0⟩ := List.exists_cons_of_ne_nil hne
      have hh : x.cps.toList.head? = some c0 := by rw [e0]; rfl
      obtain ⟨c1, hlast⟩ : ∃ c1, x.cps.toList.getLast? = some c1 := ⟨_, List.getLast?_eq_some_getLast hne⟩
      have hsig : allIn (inn x) m = true → ∀ k ∈ signs (inn x), k ∈ signs m := fun ha k hk => by
        obtain ⟨c, hc, rfl⟩ := List.mem_map.mp hk
        exact List.mem_map_of_mem (of_decide_eq_true (List.all_eq_true.mp ha c hc))
      have hsl : (signs m).length < 64 := by
        unfold signs
        rw [List.length_map, Array.length_toList]
        exact hm
      have hin : Tk 4000 (inn x) := tk_inn hx
      refine n_when (et_or (et_test (ev_op (ev_lenT (by exact ev_var rfl) hx1) ev_c rv_ltI)) fun _ => et_or (et_test (ev_op (ev_op (by exact ev_var rfl) ev_c (rv_ixS hx1 (by rw [e0]; exact at0))) ev_c rv_neS)) fun _ => et_test (ev_op (ev_op (by exact ev_var rfl) (ev_un ev_c ru_neg) (rv_ixS hx1 (at_last hlast))) ev_c rv_neS))
        (fun hb => g_ret ev_c (rt_is k ?_)) fun hb => n_asg (v := .str (inn x)) (ev_is (ev_slS (by exact ev_var rfl) (eo_some ev_c) (eo_some (ev_un ev_c ru_neg)) hx1) (congrArg V.str (cut_inn (by omega)))) (g_ret (ev_andV (a := allIn (inn x) m) (b := ascB (inn x)) (ev_allS _ (by exact ev_var rfl) (Nat.le_trans hin.1 (by decide)) (fun _ => rfl) fun c hc => ev_op (by exact ev_var rfl) (by exact ev_var rfl) rv_inC) fun ha => ev_eqR (by exact ev_var rfl) (er_sortSet (by exact ev_var rfl) hin.1 hsl (hsig ha))) (rt_is k ?_))
      · have hb' : (decide ((x.length : Int) < 2) || (!decide ((⟨#[c0]⟩ : Str) = "{") || !decide ((⟨#[c1]⟩ : Str) = "}"))) = true := hb
        rw [ch_eq (d := 123) rfl, ch_eq (d := 125) rfl, decide_eq_false (by omega : ¬ (x.length : Int) < 2)] at hb'
        unfold brB
        rw [hh, hlast]
        by_cases h1 : c0 = 123
        · by_cases h2 : c1 = 125
          · rw [h1, h2] at hb'
            exact absurd hb' (by decide)
          · have e : decide (some c1 = some 125) = false := decide_eq_false fun e => h2 (Option.some.inj e)
            rw [e, Bool.and_false, Bool.and_false, Bool.false_and]
        · have e : decide (some c0 = some 123) = false := decide_eq_false fun e => h1 (Option.some.inj e)
          rw [e, Bool.false_and, Bool.and_false, Bool.false_and]
      · have hb' : (decide ((x.length : Int) < 2) || (!decide ((⟨#[c0]⟩ : Str) = "{") || !decide ((⟨#[c1]⟩ : Str) = "}"))) = false := hb
        rw [ch_eq (d := 123) rfl, ch_eq (d := 125) rfl, decide_eq_false (by omega : ¬ (x.length : Int) < 2)] at hb'
        have h1 : c0 = 123 := by
          by_cases h : c0 = 123
          · exact h
          · rw [decide_eq_false h] at hb'
            cases hb'
        have h2 : c1 = 125 := by
          by_cases h : c1 = 125
          · exact h
          · rw [h1, decide_eq_false h] at hb'
            cases hb'
        unfold brB
        rw [hh, hlast, h1, h2, decide_eq_true (by omega : 2 ≤ x.length)]
        rfl⟩
def spAreMarks : Sp := fun vs H Q _ => ∃ m : Str, vs = [.str m] ∧ Tk 4000 m ∧ RetV (.bl (marksL m)) H Q
theorem k_l_are_marks (T : Tx K mg) : Kp P w K mg base CX0 "_law_are_marks" 1 p_l_are_marks spAreMarks :=
  Kp.of T.F_l_are_marks T.g_l_are_marks sc_l_are_marks (fun _ _ _ _ _ _ us hl => match us, hl with | [_], _ => rfl) (fun vs H Q E h => by obtain ⟨x, rfl, _⟩ := h; rfl) fun cdv A outer s H vs Q E hr h => ⟨_, (der_l_are_marks T hr).h.nox, by
    obtain ⟨m, rfl, hm, k⟩ := h
    simp only [der_l_are_marks]
    have hm1 : m.length ≤ 100000 := Nat.le_trans hm.1 (by decide)
    refine go_run (n_when (b := !((decide ((1 : Int) ≤ m.length) && decide ((m.length : Int) ≤ 3)) && ascB m)) (et_is (et_or (a := false) (b := !(decide ((1 : Int) ≤ m.length) && decide ((m.length : Int) ≤ 3)) || !ascB m) (et_not (et_B (ev_isiS (by exact ev_var rfl)))) fun _ => et_or (et_not (et_test (ev_chainLe ev_c (ev_lenT (by exact ev_var rfl) hm1) ev_c))) fun h => et_test (ev_neR (by exact ev_var rfl) (er_sortSet (L := signs m) (by exact ev_var rfl) hm.1 ?_ fun _ h => h))) ?_) (fun hb => g_ret ev_c (rt_is k ?_)) fun hb => ?_)
    · have h2 := nb' h
      have h3 := of_decide_eq_true (Bool.and_eq_true_iff.mp h2).2
      unfold signs
      rw [List.length_map, Array.length_toList]
      have : m.cps.size = m.length := rfl
      omega
    · cases decide ((1 : Int) ≤ m.length) <;> cases decide ((m.length : Int) ≤ 3) <;> cases ascB m <;> rfl
    · have hb' := nb hb
      unfold marksL
      rw [hb']
      rfl
    · have hb' := nb' hb
      refine n_asgL (el_lcS (fun c => decide (c ∈ UPP.cps.toList)) (fun c => .str ⟨#[c]⟩) (by exact ev_var rfl) hm1 (fun _ => rfl) (fun c hc => et_test (ev_op (by exact ev_var rfl) ev_c rv_inC)) fun c hc _ => by exact ev_var rfl) fun p1 H1 _ e1 h1 => ?_
      refine n_asgL (el_lcS (fun c => decide (c ∈ LOW.cps.toList)) (fun c => .str ⟨#[c]⟩) (by exact ev_var rfl) hm1 (fun _ => rfl) (fun c hc => et_test (ev_op (by exact ev_var rfl) ev_c rv_inC)) fun c hc _ => by exact ev_var rfl) fun p2 H2 _ e2 h2 => ?_
      have l1 := ev_lenQ (K := K) (eq_of (σ := [some (.str m), some (.ref p1), some (.ref p2), none]) (te := tVar 1) (by exact ev_var rfl) (sq_of (e2 _ _ h1)))
      have l2 := ev_lenQ (K := K) (eq_of (σ := [some (.str m), some (.ref p1), some (.ref p2), none]) (te := tVar 2) (by exact ev_var rfl) (sq_of h2))
      rw [List.length_map] at l1 l2
      refine g_ret (ev_andV (ev_op (ev_op l1 l2 rv_addI) (ev_lenT (by exact ev_var rfl) hm1) rv_eqI) fun _ => ev_op l2 ev_c rv_leI) fun H3 e3 => rt_is k ?_ H3 ((e1.trans e2).trans e3)
      unfold marksL
      rw [hb']
      rfl⟩
end
end K27

set_option maxRecDepth 100000
set_option maxHeartbeats 4000000
/-! the law's readers of rows -/
namespace K27
open PySem PySem.Spec PyProof.Rows L2 Evl
theorem fitsTest_none {l known : List Str} {m : Str} (h3 : l.length ≠ 3) : fitsTest l known m = false := by
  match l with
  | [] => rfl
  | [_] => rfl
  | [_, _] => rfl
  | [_, _, _] => exact absurd rfl h3
  | _ :: _ :: _ :: _ :: _ => rfl
theorem fitsPlain_none {l known : List Str} {m : Str} {t : Bool} (h3 : l.length ≠ 3) (h5 : l.length ≠ 5) : fitsPlain l t known m = false := by
  match l with
  | [] => rfl
  | [_] => rfl
  | [_, _] => rfl
  | [_, _, _] => exact absurd rfl h3
  | [_, _, _, _] => rfl
  | [_, _, _, _, _] => exact absurd rfl h5
  | _ :: _ :: _ :: _ :: _ :: _ :: _ => rfl
theorem in35 (n : Nat) : inV (.int (n : Int)) [.int 3, .int 5] = (decide (n = 3) || decide (n = 5)) := by
  show (((3 : Int) == (n : Int)) || (((5 : Int) == (n : Int)) || false)) = _
  rw [Bool.eq_iff_iff]
  simp only [Bool.or_eq_true, beq_iff_eq, decide_eq_true_iff, Bool.or_false]
  omega
section
variable {P : Program} {w : World} {K : PySem.W.Frag} {mg : PySem.Str → Option Value} {base : Heap}
def spFitsTask (K : PySem.W.Frag) : Sp := fun vs H Q _ => ∃ (p : Addr) (l : List Str) (kn : Addr) (known : List Str) (m : Str), vs = [.ref p, .ref kn, .str m] ∧ SqL K H p (l.map V.str) ∧ SqL K H kn (known.map V.str) ∧ Tks l ∧ (∀ x ∈ l, Tk 4000 x) ∧ l ≠ [] ∧ m.length < 64 ∧ RetV (.bl (fitsTask l known m)) H Q
theorem k_l_fits_task (T : Tx K mg) : Kp P w K mg base CX0 "_law_fits_task" 2 p_l_fits_task (spFitsTask K) :=
  Kp.of T.F_l_fits_task T.g_l_fits_task sc_l_fits_task (fun _ _ _ _ _ _ us hl => match us, hl with | [_, _, _], _ => rfl) (fun vs H Q E h => by obtain ⟨p, l, kn, known, m, rfl, _⟩ := h; rfl) fun cdv A outer s H vs Q E hr h => ⟨_, (der_l_fits_task T hr (k_l_reads T)).h.nox, by
    obtain ⟨p, l, kn, known, m, rfl, hp, hkn, hl, h4, hne, hm, k⟩ := h
    simp only [der_l_fits_task]
    obtain ⟨w0, wr, hw⟩ := List.exists_cons_of_ne_nil hne
    have hhead : l.head? = some w0 := by rw [hw]; rfl
    refine go_run (n_when (et_test (ev_op (ev_ixQ (eq_of (by exact ev_var rfl) hp) ev_c (by rw [hw]; exact at0)) ev_c rv_eqS)) (fun hf => ?_) fun hf => ?_)
    · have ek : fitsTask l known m = (if l.length ≠ 2 ∧ (l.length ≠ 4 ∨ l[2]? ≠ some ("from" : Str)) then false else ((l.drop 1).take 1 ++ (l.drop 3).take 1).all fun x => readsL x known m) := by
        unfold fitsTask
        rw [if_pos (by rw [hhead]; exact congrArg some (of_decide_eq_true hf))]
      have htold : ((l.drop 1).take 1 ++ (l.drop 3).take 1).length ≤ 100000 := by
        rw [List.length_append, List.length_take, List.length_take]
        omega
      have ht4 : ∀ x ∈ ((l.drop 1).take 1 ++ (l.drop 3).take 1), Tk 4000 x := fun x hx => (List.mem_append.mp hx).elim (fun h => h4 x (List.mem_of_mem_drop (List.mem_of_mem_take h))) fun h => h4 x (List.mem_of_mem_drop (List.mem_of_mem_take h))
      refine n_when (b := !decide (l.length = 2) && (!decide (l.length = 4) || !decide (l[2]? = some ("from" : Str)))) (et_and (et_test (ev_is (ev_op (ev_lenQ (eq_of (by exact ev_var rfl) hp)) ev_c rv_neI) ?_)) fun _ => et_or (et_test (ev_is (ev_op (ev_lenQ (eq_of (by exact ev_var rfl) hp)) ev_c rv_neI) ?_)) fun h4 => ?_) (fun hc => g_ret ev_c (rt_is k ?_)) fun hc => ?_
      · exact congrArg (fun b => V.bl (!b)) (len_map (n := 2))
      · exact congrArg (fun b => V.bl (!b)) (len_map (n := 4))
      · obtain ⟨a, b, c, d, hl4⟩ := len4 (by simpa using h4 : l.length = 4)
        refine et_test (ev_is (ev_op (ev_ixQ (v := .str c) (eq_of (by exact ev_var rfl) hp) ev_c (by rw [hl4]; exact at_nat (k := 2) rfl)) ev_c rv_neS) (congrArg (fun b => V.bl (!b)) ?_))
        rw [Bool.eq_iff_iff, decide_eq_true_iff, decide_eq_true_iff, hl4]
        exact ⟨fun h => congrArg some h, fun h => Option.some.inj h⟩
      · rw [ek, if_pos]
        obtain ⟨h1, h2⟩ := Bool.and_eq_true_iff.mp hc
        refine ⟨by simpa using h1, ?_⟩
        rcases Bool.or_eq_true_iff.mp h2 with h | h
        · exact .inl (by simpa using h)
        · exact .inr (by simpa using h)
      · have hn : ¬ (l.length ≠ 2 ∧ (l.length ≠ 4 ∨ l[2]? ≠ some ("from" : Str))) := by
          rintro ⟨h1, h2⟩
          rw [decide_eq_false h1] at hc
          rcases h2 with h2 | h2
          · rw [decide_eq_false h2] at hc
            cases hc
          · rw [decide_eq_false h2] at hc
            cases h4 : decide (l.length = 4) <;> rw [h4] at hc <;> cases hc
        rw [if_neg hn] at ek
        refine g_ret (ev_allQ (l := (l.drop 1).take 1 ++ (l.drop 3).take 1) (fun x => readsL x known m) (EvL.q (el_is (el_cat (EvL.m (el_is (el_slQ (eq_of (by exact ev_var rfl) hp) (eo_some ev_c) (eo_some ev_c)) (cut_at l 1))) (EvL.m (el_is (el_slQ (eq_of (by exact ev_var rfl) hp) (eo_some ev_c) (eo_some ev_c)) (cut_at l 3))) ?_) (by rw [List.map_append]))) htold (fun _ => rfl) fun c hc => ev_reads (by exact ev_var rfl) (by exact ev_var rfl) (by exact ev_var rfl) hkn (ht4 c hc) hm) (rt_is k (congrArg V.bl ek))
        rw [List.length_map, List.length_map, List.length_take, List.length_take]
        omega
    have hf' : ¬ l.head? = some ("fail" : Str) := fun e => of_decide_eq_false hf (Option.some.inj (hhead.symm.trans e))
    refine n_when (et_test (ev_op (ev_ixQ (eq_of (by exact ev_var rfl) hp) ev_c (by rw [hw]; exact at0)) ev_c rv_neS)) (fun hi => ?_) fun hi => ?_
    · have hi' : ¬ l.head? = some ("if" : Str) := fun e => of_decide_eq_false (nb hi) (Option.some.inj (hhead.symm.trans e))
      refine g_ret (ev_is (ev_op (ev_lenQ (eq_of (by exact ev_var rfl) hp)) ev_c rv_eqI) (congrArg V.bl (len_map (n := 1)))) (rt_is k ?_)
      unfold fitsTask
      rw [if_neg hf', if_neg hi']
    have hi' : l.head? = some ("if" : Str) := by
      rw [hhead]
      exact congrArg some (of_decide_eq_true (nb' hi))
    have ek : fitsTask l known m = fitsTest (if (l.drop 1).take 1 = [("not" : Str)] then l.drop 2 else l.drop 1) known m := by
      unfold fitsTask
      rw [if_neg hf', if_pos hi']
    rw [ek] at k
    refine n_asgL (el_if (xs := (if (l.drop 1).take 1 = [("not" : Str)] then l.drop 2 else l.drop 1).map V.str) (et_test (ev_eqSS (l := (l.drop 1).take 1) (m := ["not"]) ((hl.drop 1).take 1).ok (ok1 (by decide +kernel)) (EvL.q (el_is (el_slQ (eq_of (by exact ev_var rfl) hp) (eo_some ev_c) (eo_some ev_c)) (cut_at l 1))) (EvL.q (el_lst (ea_cons ev_c ea_nil) (by simp)))))
        (fun hn => ?_) fun hn => ?_) fun p2 H1 _ e1 hp2 => ?_
    · rw [if_pos (of_decide_eq_true hn)]
      exact el_is (el_slQ (eq_of (by exact ev_var rfl) hp) (eo_some ev_c) eo_none) (cut_from l 2)
    · rw [if_neg (of_decide_eq_false hn)]
      exact el_is (el_slQ (eq_of (by exact ev_var rfl) hp) (eo_some ev_c) eo_none) (cut_from l 1)
    have h4' : ∀ x ∈ (if (l.drop 1).take 1 = [("not" : Str)] then l.drop 2 else l.drop 1), Tk 4000 x := by
      split
      · exact fun x hx => h4 x (List.mem_of_mem_drop hx)
      · exact fun x hx => h4 x (List.mem_of_mem_drop hx)
    revert hp2 k h4'
    generalize (if (l.drop 1).take 1 = [("not" : Str)] then l.drop 2 else l.drop 1) = l'
    intro k hp2 h4'
    have k' : RetV (.bl (fitsTest l' known m)) H1 Q := RetV.mono k e1
    have hq := sq_of (K := K) hp2
    have hkn1 := ex_l e1 hkn
    refine n_when (et_test (ev_op (ev_lenQ (eq_of (by exact ev_var rfl) hq)) ev_c rv_neI)) (fun hb => g_ret ev_c (rt_is k' ?_)) fun hb => ?_
    · have hb' : (!decide (((l'.map V.str).length : Int) = ((3 : Nat) : Int))) = true := hb
      rw [len_map] at hb'
      rw [fitsTest_none (by simpa using hb')]
    have hb' : (!decide (((l'.map V.str).length : Int) = ((3 : Nat) : Int))) = false := hb
    rw [len_map] at hb'
    obtain ⟨a, sg, b, rfl⟩ := len3 (by simpa using hb' : l'.length = 3)
    have ta : Tk 4000 a := h4' _ (by simp)
    have tb : Tk 4000 b := h4' _ (by simp)
    have e3 : fitsTest [a, sg, b] known m = if sg = "in" then oneIn a m && readsL b known m else if sg = "is" then decide (a ∈ known) && decide (b ∈ known) else decide (sg ∈ (["==", "<="] : List Str)) && (readsL a known m && readsL b known m) := rfl
    rw [e3] at k'
    refine n_unl3 (by exact ev_var rfl) hq (n_when (et_test (ev_op (by exact ev_var rfl) ev_c rv_eqS)) (fun hs => ?_) fun hs => n_when (et_test (ev_op (by exact ev_var rfl) ev_c rv_eqS)) (fun his => ?_) fun his => ?_)
    · rw [if_pos (of_decide_eq_true hs)] at k'
      refine g_ret (v := .bl (oneIn a m && readsL b known m)) (ev_is (ev_andV (b := oneIn a m && readsL b known m) (ev_op (ev_lenT (by exact ev_var rfl) (Nat.le_trans ta.1 (by decide))) ev_c rv_eqI) fun h1 => ?_) ?_) k'
      · have h1' : (a.length : Int) = 1 := of_decide_eq_true h1
        obtain ⟨c, rfl⟩ := one_of (by omega : a.length = 1)
        exact ev_andV (ev_op (by exact ev_var rfl) (by exact ev_var rfl) rv_inC) fun _ => ev_reads (by exact ev_var rfl) (by exact ev_var rfl) (by exact ev_var rfl) hkn1 tb hm
      · cases ho : oneIn a m with
        | false => rw [Bool.false_and, Bool.and_false]
        | true =>
          have h1 : decide ((a.length : Int) = 1) = true := decide_eq_true (by have := oneIn_len ho; omega)
          show V.bl (decide ((a.length : Int) = 1) && (true && readsL b known m)) = _
          rw [h1]
          rfl
    · rw [if_neg (of_decide_eq_false hs), if_pos (of_decide_eq_true his)] at k'
      exact g_ret (ev_andV (ev_op (by exact ev_var rfl) (by exact ev_var rfl) (rv_inLS hkn1)) fun _ => ev_op (by exact ev_var rfl) (by exact ev_var rfl) (rv_inLS hkn1)) k'
    · rw [if_neg (of_decide_eq_false hs), if_neg (of_decide_eq_false his)] at k'
      exact g_ret (ev_andV (ev_inUS (by exact ev_var rfl) (l := ["==", "<="]) (eu_tup (ea_cons ev_c (ea_cons ev_c ea_nil)) (by simp))) fun _ => ev_andV (ev_reads (by exact ev_var rfl) (by exact ev_var rfl) (by exact ev_var rfl) hkn1 ta hm) fun _ => ev_reads (by exact ev_var rfl) (by exact ev_var rfl) (by exact ev_var rfl) hkn1 tb hm) k'⟩
def spFits (K : PySem.W.Frag) : Sp := fun vs H Q _ => ∃ (row wh : Str) (kn : Addr) (known : List Str) (m : Str), vs = [.str row, .str wh, .ref kn, .str m] ∧ SqL K H kn (known.map V.str) ∧ Tk 4000 row ∧ m.length < 64 ∧ RetV (.bl (fitsRow (spl row) (decide (wh = "task")) known m)) H Q
theorem fitsRow_cons {h : Str} {r known : List Str} {tk : Bool} {m : Str} : fitsRow (h :: r) tk known m = if (tk && decide (h ∈ fiveW)) = true then fitsTask (h :: r) known m else fitsPlain (h :: r) tk known m := rfl
theorem k_l_fits (T : Tx K mg) : Kp P w K mg base CX0 "_law_fits" 3 p_l_fits (spFits K) :=
  Kp.of T.F_l_fits T.g_l_fits sc_l_fits (fun _ _ _ _ _ _ us hl => match us, hl with | [_, _, _, _], _ => rfl) (fun vs H Q E h => by obtain ⟨row, wh, kn, known, m, rfl, _⟩ := h; rfl) fun cdv A outer s H vs Q E hr h => ⟨_, (der_l_fits T hr (k_l_fits_task T) (k_l_reads T) (k_l_is_word T)).h.nox, by
    obtain ⟨row, wh, kn, known, m, rfl, hkn, hrow, hm, k⟩ := h
    simp only [der_l_fits]
    have tks := tks_spl (hrow.mono (by omega))
    have t4 : ∀ x ∈ spl row, Tk 4000 x := fun x hx => tk_spl hrow hx
    refine go_run (n_when (et_not (et_B (ev_isiS (by exact ev_var rfl)))) (fun h => by cases h) fun _ => n_asgL (xs := (spl row).map V.str) (el_split (by exact ev_var rfl) ev_c rfl (Nat.le_trans hrow.1 (by decide))) fun p H1 _ e1 hp => ?_)
    have k1 := RetV.mono k e1
    have hq := sq_of (K := K) hp
    have hkn1 := ex_l e1 hkn
    obtain ⟨w0, wr, hw⟩ := List.exists_cons_of_ne_nil (spl_ne row)
    have hk2 : fitsRow (spl row) (decide (wh = "task")) known m = if (decide (wh = "task") && decide (w0 ∈ fiveW)) = true then fitsTask (spl row) known m else fitsPlain (spl row) (decide (wh = "task")) known m := by
      rw [hw]
      rfl
    rw [hk2] at k1
    refine n_when (et_and (et_test (ev_op (by exact ev_var rfl) ev_c rv_eqS)) fun _ => et_test (ev_inUS (l := fiveW) (ev_ixQ (eq_of (by exact ev_var rfl) hq) ev_c (by rw [hw]; exact at0)) (eu_tup (ea_cons ev_c (ea_cons ev_c (ea_cons ev_c (ea_cons ev_c (ea_cons ev_c ea_nil))))) (by decide)))) (fun hb => ?_) fun hb => ?_
    · have hb' : (decide (wh = "task") && decide (w0 ∈ fiveW)) = true := hb
      rw [if_pos hb'] at k1
      exact g_ret (ev_call (ea_cons (by exact ev_var rfl) (ea_cons (by exact ev_var rfl) (ea_cons (by exact ev_var rfl) ea_nil))) fun H2 e2 Q' q E' => ⟨p, spl row, kn, known, m, rfl, ex_l e2 hq, ex_l e2 hkn1, tks, t4, spl_ne row, hm, q⟩) k1
    have hb' : (decide (wh = "task") && decide (w0 ∈ fiveW)) = false := hb
    rw [if_neg (by rw [hb']; decide)] at k1
    revert hq k1 t4
    generalize spl row = l
    intro t4 hq k1
    by_cases h3 : l.length = 3
    · obtain ⟨a, sg, b, rfl⟩ := len3 h3
      have ta : Tk 4000 a := t4 _ (by simp)
      have tb : Tk 4000 b := t4 _ (by simp)
      have e3 : fitsPlain [a, sg, b] (decide (wh = "task")) known m = if sg ∈ t_CHANGES then decide (a ∈ known) && readsL b known m else decide (sg = "=") && (readsL b known m && (decide (a ∈ known) || (!decide (wh = "task") && isW a))) := rfl
      rw [e3] at k1
      refine n_when (et_is (et_and (a := true) (et_test (ev_is (ev_op (ev_lenQ (eq_of (by exact ev_var rfl) hq)) ev_c rv_eqI) rfl)) fun _ => et_test (ev_inUS (l := t_CHANGES) (ev_ixQ (eq_of (by exact ev_var rfl) hq) ev_c (at_nat (k := 1) rfl)) (eu_tup (ea_cons ev_c (ea_cons ev_c (ea_cons ev_c (ea_cons ev_c ea_nil)))) (by decide)))) (Bool.true_and _)) (fun hc => ?_) fun hc => ?_
      · rw [if_pos (of_decide_eq_true hc)] at k1
        exact g_ret (ev_andV (ev_op (ev_ixQ (eq_of (by exact ev_var rfl) hq) ev_c (at_nat (k := 0) rfl)) (by exact ev_var rfl) (rv_inLS hkn1)) fun _ => ev_reads (ev_ixQ (eq_of (by exact ev_var rfl) hq) ev_c (at_nat (k := 2) rfl)) (by exact ev_var rfl) (by exact ev_var rfl) hkn1 tb hm) k1
      rw [if_neg (of_decide_eq_false hc)] at k1
      refine n_when (et_is (et_or (a := false) (et_test (ev_is (ev_niU (ev_lenQ (eq_of (by exact ev_var rfl) hq)) (eu_tup (ea_cons ev_c (ea_cons ev_c ea_nil)) (by simp)) rfl rfl) (congrArg (fun b => V.bl (!b)) (in35 3)))) fun _ => et_or (et_test (ev_op (ev_ixQ (eq_of (by exact ev_var rfl) hq) ev_c (at_nat (k := 1) rfl)) ev_c rv_neS)) fun _ => et_not (et_B (ev_reads (ev_ixQ (eq_of (by exact ev_var rfl) hq) ev_c (at_nat (k := 2) rfl)) (by exact ev_var rfl) (by exact ev_var rfl) hkn1 tb hm))) (Bool.false_or _)) (fun hd => g_ret ev_c (rt_is k1 ?_)) fun hd => ?_
      · have hd' : (!decide (sg = "=") || !readsL b known m) = true := hd
        cases h1 : decide (sg = ("=" : Str)) <;> cases h2 : readsL b known m <;> rw [h1, h2] at hd' <;> first | rfl | cases hd'
      have hd' : (!decide (sg = "=") || !readsL b known m) = false := hd
      have hd1 : decide (sg = ("=" : Str)) = true ∧ readsL b known m = true := by
        cases h1 : decide (sg = ("=" : Str)) <;> cases h2 : readsL b known m <;> rw [h1, h2] at hd' <;> first | exact ⟨rfl, rfl⟩ | cases hd'
      rw [hd1.1, hd1.2] at k1
      refine n_when (et_not (et_or (et_test (ev_op (ev_ixQ (eq_of (by exact ev_var rfl) hq) ev_c (at_nat (k := 0) rfl)) (by exact ev_var rfl) (rv_inLS hkn1))) fun _ => et_and (et_test (ev_op (by exact ev_var rfl) ev_c rv_neS)) fun _ => et_B (ev_isWord (ev_ixQ (eq_of (by exact ev_var rfl) hq) ev_c (at_nat (k := 0) rfl)) (ta.mono (by omega))))) (fun hf => g_ret ev_c (rt_is k1 ?_)) fun hf => g_ret (v := .bl true) (ev_is (ev_orV (a := true) (b := true) (ev_is (ev_op (ev_lenQ (eq_of (by exact ev_var rfl) hq)) ev_c rv_eqI) rfl) fun h => by cases h) rfl) (rt_is k1 ?_)
      · have hf' : (decide (a ∈ known) || (!decide (wh = "task") && isW a)) = false := nb hf
        rw [hf']
        rfl
      · have hf' : (decide (a ∈ known) || (!decide (wh = "task") && isW a)) = true := nb' hf
        rw [hf']
        rfl
    · by_cases h5 : l.length = 5
      · obtain ⟨a, sg, b, g, c, rfl⟩ := len5 h5
        have ta : Tk 4000 a := t4 _ (by simp)
        have tb : Tk 4000 b := t4 _ (by simp)
        have tc : Tk 4000 c := t4 _ (by simp)
        have e3 : fitsPlain [a, sg, b, g, c] (decide (wh = "task")) known m = (decide (sg = "=") && (readsL b known m && ((decide (a ∈ known) || (!decide (wh = "task") && isW a)) && (decide (g ∈ t_SIGNS) && readsL c known m)))) := rfl
        rw [e3] at k1
        refine n_when (b := false) (et_is (et_and (a := false) (b := true) (et_test (ev_is (ev_op (ev_lenQ (eq_of (by exact ev_var rfl) hq)) ev_c rv_eqI) rfl)) fun h => by cases h) rfl) (fun h => by cases h) fun _ => ?_
        refine n_when (et_is (et_or (a := false) (et_test (ev_is (ev_niU (ev_lenQ (eq_of (by exact ev_var rfl) hq)) (eu_tup (ea_cons ev_c (ea_cons ev_c ea_nil)) (by simp)) rfl rfl) (congrArg (fun b => V.bl (!b)) (in35 5)))) fun _ => et_or (et_test (ev_op (ev_ixQ (eq_of (by exact ev_var rfl) hq) ev_c (at_nat (k := 1) rfl)) ev_c rv_neS)) fun _ => et_not (et_B (ev_reads (ev_ixQ (eq_of (by exact ev_var rfl) hq) ev_c (at_nat (k := 2) rfl)) (by exact ev_var rfl) (by exact ev_var rfl) hkn1 tb hm))) (Bool.false_or _)) (fun hd => g_ret ev_c (rt_is k1 ?_)) fun hd => ?_
        · have hd' : (!decide (sg = "=") || !readsL b known m) = true := hd
          cases h1 : decide (sg = ("=" : Str)) <;> cases h2 : readsL b known m <;> rw [h1, h2] at hd' <;> first | rfl | cases hd'
        have hd' : (!decide (sg = "=") || !readsL b known m) = false := hd
        have hd1 : decide (sg = ("=" : Str)) = true ∧ readsL b known m = true := by
          cases h1 : decide (sg = ("=" : Str)) <;> cases h2 : readsL b known m <;> rw [h1, h2] at hd' <;> first | exact ⟨rfl, rfl⟩ | cases hd'
        rw [hd1.1, hd1.2] at k1
        refine n_when (et_not (et_or (et_test (ev_op (ev_ixQ (eq_of (by exact ev_var rfl) hq) ev_c (at_nat (k := 0) rfl)) (by exact ev_var rfl) (rv_inLS hkn1))) fun _ => et_and (et_test (ev_op (by exact ev_var rfl) ev_c rv_neS)) fun _ => et_B (ev_isWord (ev_ixQ (eq_of (by exact ev_var rfl) hq) ev_c (at_nat (k := 0) rfl)) (ta.mono (by omega))))) (fun hf => g_ret ev_c (rt_is k1 ?_)) fun hf => g_ret (ev_orV (a := false) (ev_is (ev_op (ev_lenQ (eq_of (by exact ev_var rfl) hq)) ev_c rv_eqI) rfl) fun _ => ev_andV (ev_inUS (l := t_SIGNS) (ev_ixQ (eq_of (by exact ev_var rfl) hq) ev_c (at_nat (k := 3) rfl)) (eu_tup (ea_cons ev_c (ea_cons ev_c (ea_cons ev_c (ea_cons ev_c ea_nil)))) (by decide))) fun _ => ev_reads (ev_ixQ (eq_of (by exact ev_var rfl) hq) ev_c (at_nat (k := 4) rfl)) (by exact ev_var rfl) (by exact ev_var rfl) hkn1 tc hm) (rt_is k1 ?_)
        · have hf' : (decide (a ∈ known) || (!decide (wh = "task") && isW a)) = false := nb hf
          rw [hf']
          rfl
        · have hf' : (decide (a ∈ known) || (!decide (wh = "task") && isW a)) = true := nb' hf
          rw [hf']
          rfl
      · rw [fitsPlain_none h3 h5] at k1
        have hl1 : decide (((l.map V.str).length : Int) = 3) = false := by
          rw [show decide (((l.map V.str).length : Int) = 3) = decide (l.length = 3) from len_map (n := 3)]
          exact decide_eq_false h3
        have hl2 : ((l.map V.str).length : Int) = (l.length : Int) := by rw [List.length_map]
        refine n_when (b := false) (et_is (et_and (a := false) (b := true) (et_test (ev_is (ev_op (ev_lenQ (eq_of (by exact ev_var rfl) hq)) ev_c rv_eqI) (congrArg V.bl hl1))) fun h => by cases h) rfl) (fun h => by cases h) fun _ => ?_
        refine n_when (b := true) (et_is (et_or (a := true) (b := true) (et_test (ev_is (ev_niU (ev_is (ev_lenQ (eq_of (by exact ev_var rfl) hq)) (congrArg V.int hl2)) (eu_tup (ea_cons ev_c (ea_cons ev_c ea_nil)) (by simp)) rfl rfl) ?_)) fun h => by cases h) rfl) (fun _ => g_ret ev_c k1) fun h => by cases h
        refine (congrArg (fun b => V.bl (!b)) (in35 l.length)).trans ?_
        rw [decide_eq_false h3, decide_eq_false h5]
        rfl⟩
end
end K27

set_option maxRecDepth 100000
set_option maxHeartbeats 4000000
/-! the law's first wrong row -/
namespace K27
open PySem PySem.Spec PyProof.Rows L2 Evl
section
variable {P : Program} {w : World} {K : PySem.W.Frag} {mg : PySem.Str → Option Value} {base : Heap}
section
variable {H H' : Hp} {σ : L2.St} {ta tb te : TE} {tt : TT} {E : XK} {D : Ends} {tz tu : TS}
theorem n_parLL {i j : Nat} {xs ys : List V} (h1 : EvL ta σ H xs) (h2 : EvL tb σ H ys) (k : ∀ p q H1, H p = none → H q = none → p ≠ q → Ex H H1 → H1 p = some (.lst xs) → H1 q = some (.lst ys) → Go tz D ((σ.set i (some (.ref p))).set j (some (.ref q))) H1) :
    Go (tSeq (tPar i j (tCons ta (tCons tb tNil))) tz) D σ H := fun H1 e => h1 H1 e _ fun p H2 hp e2 g1 => h2 H2 (e.trans e2) _ fun q H3 hq e3 g2 =>
  ⟨.ref p, .ref q, rfl, k p q H3 (fresh_back e hp) (fresh_back (e.trans e2) hq) (ne_of_none g1 hq) ((e.trans e2).trans e3) (e3 _ _ g1) g2 H3 (Ex.refl H3)⟩
theorem n_whenS {b : Bool} (R : Hp → Prop) (h : EvT tt σ H b) (h1 : b = true → ∀ D' : Ends, (∀ H', R H' → D'.nx σ H') → Go tu D' σ H) (h2 : b = false → ∀ H1, Ex H H1 → R H1) (k : ∀ H1, R H1 → Go tz D σ H1) : Go (tSeq (tIfS tt tu tNext) tz) D σ H :=
  n_when h (fun hb => h1 hb _ fun H' r => k H' r H' (Ex.refl H')) fun hb H1 e => k H1 (h2 hb H1 e) H1 (Ex.refl H1)
theorem g_whenS {b : Bool} (R : Hp → Prop) (h : EvT tt σ H b) (h1 : b = true → ∀ D' : Ends, (∀ H', R H' → D'.nx σ H') → Go tu D' σ H) (h2 : b = false → ∀ H1, Ex H H1 → R H1) (k : ∀ H1, R H1 → D.nx σ H1) : Go (tIfS tt tu tNext) D σ H :=
  g_when h (fun hb => h1 hb _ fun H' r => k H' r) fun hb H1 e => k H1 (h2 hb H1 e)
end
def optV : Option Nat → V
  | none => .non
  | some i => .int (i : Nat)
def spFirst (K : PySem.W.Frag) : Sp := fun vs H Q _ => ∃ (wh : Str) (p : Addr) (rows : List Str) (kn : Addr) (known : List Str) (m : Str), vs = [.str wh, .ref p, .ref kn, .str m] ∧ SqL K H p (rows.map V.str) ∧ SqL K H kn (known.map V.str) ∧
  (rows.length ≤ 100 ∧ ∀ x ∈ rows, Tk 4000 x) ∧ known.length ≤ 1000 ∧ m.length < 64 ∧
  ∀ q kp H1, Ex H H1 → H1 q = some (.tup [optV (firstL (decide (wh = "task")) m rows 0 known []).1, .ref kp]) → H1 kp = some (.lst ((firstL (decide (wh = "task")) m rows 0 known []).2.map V.str)) → Q (.ref q) H1
theorem firstL_cons {tk : Bool} {m row : Str} {r known op : List Str} {i : Nat} : firstL tk m (row :: r) i known op = if fitsRow (spl row) tk known m = false then (some i, known) else
    if badEnd row (open1 (spl row) tk op) = true then (some i, knownL (spl row) tk known) else
    firstL tk m r (i + 1) (knownL (spl row) tk known) (open3 row (open2 row (open1 (spl row) tk op))) := rfl
theorem knownL_len {p known : List Str} {tk : Bool} : (knownL p tk known).length ≤ known.length + 1 := by
  unfold knownL
  split
  · split
    · rw [List.length_append, List.length_singleton]
      omega
    · omega
  · omega
theorem open1_len {p op : List Str} {tk : Bool} : (open1 p tk op).length ≤ op.length + 1 := by
  unfold open1
  split
  · rw [List.length_append, List.length_singleton]
    omega
  · omega
theorem open2_len {row : Str} {op : List Str} (h : op ≠ [] ∨ row ≠ "else") : (open2 row op).length ≤ op.length := by
  unfold open2
  split
  · next e =>
    rcases h with h | h
    · rw [List.length_append, List.length_singleton, List.length_dropLast]
      have := List.length_pos_iff.mpr h
      omega
    · exact absurd e h
  · omega
theorem open3_len {row : Str} {op : List Str} : (open3 row op).length ≤ op.length := by
  unfold open3
  split
  · rw [List.length_dropLast]
    omega
  · omega
def OkS (op : List Str) : Prop := ∀ x ∈ op, PyData.strOk x = true
theorem open1_ok {p op : List Str} {tk : Bool} (h : OkS op) : OkS (open1 p tk op) := by
  unfold open1
  split
  · intro x hx
    rcases List.mem_append.mp hx with hx | hx
    · exact h x hx
    · rw [List.mem_singleton.mp hx]
      decide +kernel
  · exact h
theorem drop_ok {op : List Str} (h : OkS op) : OkS op.dropLast := fun x hx => h x (List.dropLast_subset _ hx)
theorem open2_ok {row : Str} {op : List Str} (h : OkS op) : OkS (open2 row op) := by
  unfold open2
  split
  · intro x hx
    rcases List.mem_append.mp hx with hx | hx
    · exact drop_ok h x hx
    · rw [List.mem_singleton.mp hx]
      decide +kernel
  · exact h
theorem open3_ok {row : Str} {op : List Str} (h : OkS op) : OkS (open3 row op) := by
  unfold open3
  split
  · exact drop_ok h
  · exact h
theorem fits_len {l known : List Str} {m : Str} (h : fitsRow l false known m = true) : ∃ a s r, l = a :: s :: r := by
  cases l with
  | nil => cases h
  | cons a r =>
    rw [fitsRow_cons, Bool.false_and] at h
    rw [if_neg Bool.false_ne_true] at h
    by_cases h3 : (a :: r).length = 3
    · obtain ⟨x, y, z, e⟩ := len3 h3
      exact ⟨x, y, [z], e⟩
    · by_cases h5 : (a :: r).length = 5
      · obtain ⟨x, y, z, u, v, e⟩ := len5 h5
        exact ⟨x, y, [z, u, v], e⟩
      · rw [fitsPlain_none h3 h5] at h
        cases h
theorem b_l_first_wrong {A : Around} {cdv : Value} {outer : List Env} {s : Shared} {H : Hp} {E : XK} {Q : VK} {vs : List V} (T : Tx K mg) (hr) (h : spFirst K vs H Q E) :
    (der_l_first_wrong (P := P) (w := w) (base := base) (cdv := cdv) (A := A) (outer := outer) (s := s) (H := H) (E := E) T hr (k_l_fits T)).t { nx := fun _ H' => Q .non H', rt := Q } (start N_l_first_wrong vs) H := by
  obtain ⟨wh, p, rows, kn, known, m, rfl, hp, hkn, ⟨hrl, hrt⟩, hkl, hm, k⟩ := h
  simp only [der_l_first_wrong]
  generalize htk : decide (wh = ("task" : Str)) = tk at k
  refine go_run (n_parLL (xs := known.map V.str) (ys := []) (el_listQ (eq_of (by exact ev_var rfl) hkn)) (el_lst ea_nil (by simp)) fun kp op H1 hkp hop hne e1 h1 h2 => ?_)
  refine n_forEL (ea_cons (by exact ev_var rfl) ea_nil) (ex_l e1 hp) (fun i σ' H' => ∃ (kn' op' : List Str) (x5 x6 x7 : Option V), σ' = [some (.str wh), some (.ref p), some (.ref kp), some (.str m), some (.ref op), x5, x6, x7] ∧ Ex H H' ∧ H' kp = some (.lst (kn'.map V.str)) ∧ H' op = some (.lst (op'.map V.str)) ∧
    firstL tk m (rows.drop i) i kn' op' = firstL tk m rows 0 known [] ∧ kn'.length ≤ 1000 + i ∧ op'.length ≤ i ∧ OkS op') (fun i σ' H' ⟨_, _, _, _, _, _, e, _⟩ => ex_l e hp) (fun H2 e2 => ⟨known, [], _, _, _, rfl, e1.trans e2, e2 _ _ h1, e2 _ _ h2, rfl, by omega, by simp, fun x hx => by cases hx⟩) (fun i x σ' H2 hx hP => ?_) fun σ' H2 hP => ?_
  · obtain ⟨kn', op', x5, x6, x7, rfl, e2, hkn2, hop2, hrun, hkl2, hol, hok⟩ := hP
    obtain ⟨row, hrow, rfl⟩ := at_map hx
    have trow := hrt row (List.mem_of_getElem? hrow)
    have hi : i < rows.length := (List.getElem?_eq_some_iff.mp hrow).1
    rw [drop_at hrow, firstL_cons] at hrun
    refine n_when (b := !fitsRow (spl row) tk kn' m) (et_not (et_B (ev_call (ea_cons (by exact ev_var rfl) (ea_cons (by exact ev_var rfl) (ea_cons (by exact ev_var rfl) (ea_cons (by exact ev_var rfl) ea_nil)))) fun H3 e3 Q' q E' => ⟨row, wh, kp, kn', m, rfl, sq_of (e3 _ _ hkn2), trow, hm, by rw [htk]; exact q⟩))) (fun hb => ?_) fun hb => ?_
    · rw [if_pos (nb hb)] at hrun
      rw [← hrun] at k
      exact g_retU (eu_tup (ea_cons (by exact ev_var rfl) (ea_cons (by exact ev_var rfl) ea_nil)) (by simp)) fun q H3 _ e3 h3 => k q kp H3 (e2.trans e3) h3 (e3 _ _ hkn2)
    have hfit := nb' hb
    rw [if_neg (by rw [hfit]; decide)] at hrun
    refine n_asgL (xs := (spl row).map V.str) (el_split (by exact ev_var rfl) ev_c rfl (Nat.le_trans trow.1 (by decide))) fun pp H3 hpp e3 h3 => ?_
    obtain ⟨w0, wr, hw⟩ := List.exists_cons_of_ne_nil (spl_ne row)
    have hq : SqL K H3 pp ((spl row).map V.str) := sq_of h3
    have hkn3 := e3 _ _ hkn2
    have hop3 := e3 _ _ hop2
    have e23 := e2.trans e3
    -- what is known
    refine n_whenS (fun H4 => Ex H H4 ∧ SqL K H4 pp ((spl row).map V.str) ∧ H4 kp = some (.lst ((knownL (spl row) tk kn').map V.str)) ∧ H4 op = some (.lst (op'.map V.str))) (b := (!tk && (decide ((spl row)[1]? = some ("=" : Str)) && !decide (w0 ∈ kn')))) ?_ (fun hb D' hD => ?_) (fun hb H4 e4 => ?_) fun H4 ⟨e4, hq4, hkn4, hop4⟩ => ?_
    · refine et_and (et_test (ev_is (ev_op (by exact ev_var rfl) ev_c rv_neS) (congrArg (fun b => V.bl (!b)) htk))) fun ht => ?_
      have htf := nb ht
      rw [htf] at hfit
      obtain ⟨a, sg, r, hl⟩ := fits_len hfit
      have e0 : w0 = a := (List.cons.inj (hw.symm.trans hl)).1
      subst e0
      refine et_and (et_test (ev_is (ev_op (ev_ixQ (v := .str sg) (eq_of (by exact ev_var rfl) hq) ev_c (by rw [hl]; exact at_nat (k := 1) rfl)) ev_c rv_eqS) (congrArg V.bl ?_))) fun _ => et_test (ev_op (ev_ixQ (eq_of (by exact ev_var rfl) hq) ev_c (by rw [hl]; exact at0)) (by exact ev_var rfl) (rv_inLS (neg := true) (sq_of hkn3)))
      rw [hl, Bool.eq_iff_iff, decide_eq_true_iff, decide_eq_true_iff]
      exact ⟨fun h => congrArg some h, fun h => Option.some.inj h⟩
    · obtain ⟨b1, b2⟩ := Bool.and_eq_true_iff.mp hb
      obtain ⟨b3, b4⟩ := Bool.and_eq_true_iff.mp b2
      have htf := nb b1
      have hk2 : knownL (spl row) tk kn' = kn' ++ [w0] := by
        rw [htf] at hfit
        obtain ⟨a, sg, r, hl⟩ := fits_len hfit
        have e0 : w0 = a := (List.cons.inj (hw.symm.trans hl)).1
        subst e0
        have e1 : sg = ("=" : Str) := by
          have := of_decide_eq_true b3
          rw [hl] at this
          exact Option.some.inj this
        rw [hl]
        show (if (!tk && (decide (sg = ("=" : Str)) && !decide (w0 ∈ kn'))) = true then kn' ++ [w0] else kn') = _
        rw [if_pos (by rw [htf, decide_eq_true e1, b4]; rfl)]
      refine g_app hkn3 (by exact ev_var rfl) (ev_ixQ (eq_of (by exact ev_var rfl) hq) ev_c (by rw [hw]; exact at0)) (by rw [List.length_map]; omega) fun H4 e4 => hD _ ⟨Ex.mut (e23.trans e4) hkp, ?_, ?_, ?_⟩
      · refine SqL.of ?_
        rw [upd_ne (by
          intro e
          rw [e] at hpp
          rw [hkn2] at hpp
          cases hpp)]
        exact e4 _ _ h3
      · rw [hk2, List.map_append]
        exact upd_same
      · rw [upd_ne (Ne.symm hne)]
        exact e4 _ _ hop3
    · have hk2 : knownL (spl row) tk kn' = kn' := by
        cases hl : spl row with
        | nil => rfl
        | cons a r =>
          cases r with
          | nil => rfl
          | cons sg r =>
            show (if (!tk && (decide (sg = ("=" : Str)) && !decide (a ∈ kn'))) = true then kn' ++ [a] else kn') = _
            have e0 : w0 = a := (List.cons.inj (hw.symm.trans hl)).1
            subst e0
            rw [hl] at hb
            have e1 : decide (([w0, sg] ++ r : List Str)[1]? = some ("=" : Str)) = decide (sg = ("=" : Str)) := by
              rw [Bool.eq_iff_iff, decide_eq_true_iff, decide_eq_true_iff]
              exact ⟨fun h => Option.some.inj h, fun h => congrArg some h⟩
            have hb' : (!tk && (decide (sg = ("=" : Str)) && !decide (w0 ∈ kn'))) = false := by
              rw [← e1]
              exact hb
            rw [if_neg (by rw [hb']; decide)]
      exact ⟨e23.trans e4, ex_l e4 hq, by rw [hk2]; exact e4 _ _ hkn3, e4 _ _ hop3⟩
    -- an if opens
    have hkl3 := knownL_len (p := spl row) (known := kn') (tk := tk)
    refine n_whenS (fun H5 => Ex H H5 ∧ H5 kp = some (.lst ((knownL (spl row) tk kn').map V.str)) ∧ H5 op = some (.lst ((open1 (spl row) tk op').map V.str))) (b := (tk && decide (w0 = ("if" : Str)))) (et_and (et_test (ev_is (ev_op (by exact ev_var rfl) ev_c rv_eqS) (congrArg V.bl htk))) fun _ => et_test (ev_op (ev_ixQ (eq_of (by exact ev_var rfl) hq4) ev_c (by rw [hw]; exact at0)) ev_c rv_eqS)) (fun hb D' hD => ?_) (fun hb H5 e5 => ?_) fun H5 ⟨e5, hkn5, hop5⟩ => ?_
    · refine g_app hop4 (by exact ev_var rfl) ev_c (by rw [List.length_map]; omega) fun H5 e5 => hD _ ⟨Ex.mut (e4.trans e5) hop, ?_, ?_⟩
      · rw [upd_ne hne]
        exact e5 _ _ hkn4
      · have ho : open1 (spl row) tk op' = op' ++ [("if" : Str)] := by
          unfold open1
          rw [hw]
          rw [if_pos (by
            obtain ⟨b1, b2⟩ := Bool.and_eq_true_iff.mp hb
            rw [b1]
            exact decide_eq_true (congrArg some (of_decide_eq_true b2)))]
        rw [ho, List.map_append]
        exact upd_same
    · have ho : open1 (spl row) tk op' = op' := by
        unfold open1
        rw [hw]
        rw [if_neg (by
          intro h
          obtain ⟨b1, b2⟩ := Bool.and_eq_true_iff.mp h
          have b3 : w0 = ("if" : Str) := Option.some.inj (of_decide_eq_true b2)
          rw [b1, decide_eq_true b3] at hb
          cases hb)]
      exact ⟨e4.trans e5, e5 _ _ hkn4, by rw [ho]; exact e5 _ _ hop4⟩
    -- else, end
    have hol1 := open1_len (p := spl row) (op := op') (tk := tk)
    have hok1 := open1_ok (p := spl row) (tk := tk) hok
    revert hop5 hol1 hok1 hrun
    generalize open1 (spl row) tk op' = op1
    intro hrun hop5 hol1 hok1
    have hE : EvQ K (tVar 4) [some (.str wh), some (.ref p), some (.ref kp), some (.str m), some (.ref op), some (.int (i : Nat)), some (.str row), some (.ref pp)] H5 (op1.map V.str) := eq_of (by exact ev_var rfl) (sq_of hop5)
    refine n_when (b := badEnd row op1) (et_and (et_test (ev_inUS (l := ["else", "end"]) (by exact ev_var rfl) (eu_tup (ea_cons ev_c (ea_cons ev_c ea_nil)) (by simp)))) fun _ => et_or (et_test (ev_eqSS (m := []) hok1 (fun x hx => by cases hx) hE (EvL.q (el_lst ea_nil (by simp))))) fun hn => ?_) (fun hb => ?_) fun hb => ?_
    · have hnil := of_decide_eq_false hn
      have hlast : op1.getLast? = some (op1.getLast hnil) := List.getLast?_eq_some_getLast hnil
      have hlastm : (op1.map V.str).getLast? = some (.str (op1.getLast hnil)) := by
        rw [List.getLast?_map, hlast]
        rfl
      refine et_test (ev_is (ev_op (by exact ev_var rfl) (ev_ixQ hE (ev_un ev_c ru_neg) (at_last hlastm)) rv_eqS) (congrArg V.bl ?_))
      rw [hlast, Bool.eq_iff_iff, decide_eq_true_iff, decide_eq_true_iff]
      exact ⟨fun h => congrArg some h.symm, fun h => (Option.some.inj h).symm⟩
    · rw [if_pos hb] at hrun
      rw [← hrun] at k
      exact g_retU (eu_tup (ea_cons (by exact ev_var rfl) (ea_cons (by exact ev_var rfl) ea_nil)) (by simp)) fun q H6 _ e6 h6 => k q kp H6 (e5.trans e6) h6 (e6 _ _ hkn5)
    rw [if_neg (by rw [hb]; decide)] at hrun
    have hne1 : row ∈ ([("else" : Str), ("end" : Str)]) → op1 ≠ [] := fun hr0 e => by
      have hb' : (decide (row ∈ ([("else" : Str), ("end" : Str)])) && (decide (op1 = []) || decide (op1.getLast? = some row))) = false := hb
      rw [decide_eq_true hr0, decide_eq_true e] at hb'
      cases hb'
    refine n_whenS (fun H6 => Ex H H6 ∧ H6 kp = some (.lst ((knownL (spl row) tk kn').map V.str)) ∧ H6 op = some (.lst ((open2 row op1).map V.str))) (b := decide (row = ("else" : Str))) (et_test (ev_op (by exact ev_var rfl) ev_c rv_eqS)) (fun he D' hD => ?_) (fun he H6 e6 => ?_) fun H6 ⟨e6, hkn6, hop6⟩ => ?_
    · have he' := of_decide_eq_true he
      have hn1 := hne1 (by rw [he']; simp)
      refine g_setLast hop5 ev_c (by exact ev_var rfl) (ev_un ev_c ru_neg) (by simpa using hn1) fun H6 e6 => hD _ ⟨Ex.mut (e5.trans e6) hop, ?_, ?_⟩
      · rw [upd_ne hne]
        exact e6 _ _ hkn5
      · unfold open2
        rw [if_pos he', List.map_append, List.map_dropLast]
        exact upd_same
    · have he' := of_decide_eq_false he
      unfold open2
      rw [if_neg he']
      exact ⟨e5.trans e6, e6 _ _ hkn5, e6 _ _ hop5⟩
    have hol2 := open2_len (row := row) (op := op1) (by
      by_cases h : row = ("else" : Str)
      · exact .inl (hne1 (by rw [h]; simp))
      · exact .inr h)
    have hok2 := open2_ok (row := row) hok1
    have hol3 := open3_len (row := row) (op := open2 row op1)
    have hok3 := open3_ok (row := row) hok2
    refine g_whenS (fun H7 => Ex H H7 ∧ H7 kp = some (.lst ((knownL (spl row) tk kn').map V.str)) ∧ H7 op = some (.lst ((open3 row (open2 row op1)).map V.str))) (b := decide (row = ("end" : Str))) (et_test (ev_op (by exact ev_var rfl) ev_c rv_eqS)) (fun he D' hD => ?_) (fun he H7 e7 => ?_) fun H7 ⟨e7, hkn7, hop7⟩ => ⟨_, _, _, _, _, rfl, e7, hkn7, hop7, hrun, by omega, by omega, hok3⟩
    · have he' := of_decide_eq_true he
      have ho2 : open2 row op1 = op1 := by
        unfold open2
        rw [if_neg (by rw [he']; decide)]
      have hn1 := hne1 (by rw [he']; simp)
      refine g_pop hop6 (by exact ev_var rfl) (by rw [ho2]; simpa using hn1) fun H7 e7 => hD _ ⟨Ex.mut (e6.trans e7) hop, ?_, ?_⟩
      · rw [upd_ne hne]
        exact e7 _ _ hkn6
      · unfold open3
        rw [if_pos he', List.map_dropLast]
        exact upd_same
    · have he' := of_decide_eq_false he
      unfold open3
      rw [if_neg he']
      exact ⟨e6.trans e7, e7 _ _ hkn6, e7 _ _ hop6⟩
  · obtain ⟨kn', op', x5, x6, x7, rfl, e2, hkn2, hop2, hrun, hkl2, hol, hok⟩ := hP
    rw [List.length_map, List.drop_length] at hrun
    have hr' : ((if op' = [] then none else some rows.length), kn') = firstL tk m rows 0 known [] := hrun
    rw [← hr'] at k
    have hE : EvQ K (tVar 4) [some (.str wh), some (.ref p), some (.ref kp), some (.str m), some (.ref op), x5, x6, x7] H2 (op'.map V.str) := eq_of (by exact ev_var rfl) (sq_of hop2)
    have hll : ((rows.map V.str).length : Int) = (rows.length : Int) := by rw [List.length_map]
    refine g_retU (eu_tup (ea_cons (x := optV (if op' = [] then none else some rows.length)) (ev_if (et_test (ev_eqSS (m := []) hok (fun x hx => by cases hx) hE (EvL.q (el_lst ea_nil (by simp))))) (fun hb => ?_) fun hb => ?_) (ea_cons (by exact ev_var rfl) ea_nil)) (by simp)) fun q H3 _ e3 h3 => k q kp H3 (e2.trans e3) h3 (e3 _ _ hkn2)
    · rw [if_pos (of_decide_eq_true hb)]
      exact ev_c
    · rw [if_neg (of_decide_eq_false hb)]
      exact ev_is (ev_lenQ (eq_of (by exact ev_var rfl) (ex_l e2 hp))) (congrArg V.int hll)
theorem k_l_first_wrong (T : Tx K mg) : Kp P w K mg base CX0 "_law_first_wrong" 4 p_l_first_wrong (spFirst K) :=
  Kp.of T.F_l_first_wrong T.g_l_first_wrong sc_l_first_wrong (fun _ _ _ _ _ _ us hl => match us, hl with | [_, _, _, _], _ => rfl) (fun vs H Q E h => by obtain ⟨wh, p, rows, kn, known, m, rfl, _⟩ := h; rfl) fun cdv A outer s H vs Q E hr h => ⟨_, (der_l_first_wrong T hr (k_l_fits T)).h.nox, b_l_first_wrong T hr h⟩
end
end K27

set_option maxRecDepth 100000
set_option maxHeartbeats 4000000
/-! the law's error, what the program raises -/
namespace K27
open PySem PySem.Spec PyProof.Rows L2 Evl
theorem pl_many {m : Str} {a b c : List Str} (h : 6 < a.length) : partsErrL m a b c = some (.many "rows") := if_pos h
theorem pl_l {m : Str} {a b c k : List Str} {i : Nat} (h : ¬ 6 < a.length) (e : firstL false m a 0 [] [] = (some i, k)) : partsErrL m a b c = some (.prog "module" i) := by
  unfold partsErrL
  rw [if_neg h, e]
theorem pl_r {m : Str} {a b c k : List Str} (h : ¬ 6 < a.length) (e : firstL false m a 0 [] [] = (none, k)) : partsErrL m a b c = if 3 < k.length then some (.many "globals") else callerErrL m k b c := by
  unfold partsErrL
  rw [if_neg h, e]
theorem cl_many {m : Str} {k b c : List Str} (h : 6 < b.length) : callerErrL m k b c = some (.many "rows") := if_pos h
theorem cl_l {m : Str} {k b c k2 : List Str} {i : Nat} (h : ¬ 6 < b.length) (e : firstL false m b 0 k [] = (some i, k2)) : callerErrL m k b c = some (.prog "caller" i) := by
  unfold callerErrL
  rw [if_neg h, e]
theorem cl_r {m : Str} {k b c k2 : List Str} (h : ¬ 6 < b.length) (e : firstL false m b 0 k [] = (none, k2)) : callerErrL m k b c = if 4 < k2.length ∨ k.length + 2 < k2.length then some (.many "names") else taskErrL m k c := by
  unfold callerErrL
  rw [if_neg h, e]
theorem tl_many {m : Str} {k c : List Str} (h : 16 < c.length) : taskErrL m k c = some (.many "rows") := if_pos h
theorem tl_l {m : Str} {k c k2 : List Str} {i : Nat} (h : ¬ 16 < c.length) (e : firstL true m c 0 (k ++ ([("item" : Str), ("out" : Str)])) [] = (some i, k2)) : taskErrL m k c = some (.prog "task" i) := by
  unfold taskErrL
  rw [if_neg h, e]
theorem tl_r {m : Str} {k c k2 : List Str} (h : ¬ 16 < c.length) (e : firstL true m c 0 (k ++ ([("item" : Str), ("out" : Str)])) [] = (none, k2)) : taskErrL m k c = none := by
  unfold taskErrL
  rw [if_neg h, e]
def RetE (o : Option Bad) (H : Hp) (Q : VK) : Prop := match o with
  | none => RetV .non H Q
  | some (.prog p i) => ∀ q H1, Ex H H1 → H1 q = some (.tup [.str "program", .str p, .int i]) → Q (.ref q) H1
  | some (.many x) => ∀ q H1, Ex H H1 → H1 q = some (.tup [.str "many", .str x]) → Q (.ref q) H1
theorem RetE.none_of {o : Option Bad} {H : Hp} {Q : VK} (k : RetE o H Q) (h : o = none) : RetV .non H Q := by
  subst h
  exact k
theorem RetE.prog_of {o : Option Bad} {H : Hp} {Q : VK} {p : Str} {i : Int} (k : RetE o H Q) (h : o = some (.prog p i)) : ∀ q H1, Ex H H1 → H1 q = some (.tup [.str "program", .str p, .int i]) → Q (.ref q) H1 := by
  subst h
  exact k
theorem RetE.many_of {o : Option Bad} {H : Hp} {Q : VK} {x : Str} (k : RetE o H Q) (h : o = some (.many x)) : ∀ q H1, Ex H H1 → H1 q = some (.tup [.str "many", .str x]) → Q (.ref q) H1 := by
  subst h
  exact k
section
variable {P : Program} {w : World} {K : PySem.W.Frag} {mg : PySem.Str → Option Value} {base : Heap}
section
variable {H H' : Hp} {σ : L2.St} {ta : TA} {te tb : TE} {tt : TT} {E : XK} {D : Ends} {tz tu : TS} {g : TG} {PV : V → Hp → Prop}
theorem n_forR (h : EvR te σ H PV) (k : ∀ v H1, Ex H H1 → PV v H1 → ∃ p xs, v = .ref p ∧ SqL K H1 p xs ∧ ∃ Pv : Nat → L2.St → Hp → Prop, Pv 0 σ H1 ∧ (∀ n σ' H', Pv n σ' H' → SqL K H' p xs) ∧
    (∀ n x σ' H', xs[n]? = some x → Pv n σ' H' → g x σ' H' fun σ2 H2 => tu { D with nx := Pv (n + 1), ct := Pv (n + 1), bk := tz D } σ2 H2) ∧ (∀ σ' H', Pv xs.length σ' H' → Go tz D σ' H')) : Go (tSeq (tFor (iList K te) g tu) tz) D σ H := fun H1 e => h H1 e _ fun v H2 e2 hv => by
  obtain ⟨p, xs, rfl, hp, Pv, h0, hl, hs, hd⟩ := k v H2 (e.trans e2) hv
  exact ⟨p, rfl, ⟨xs, hp⟩, for_list (D := { D with nx := tz D }) Pv h0 (fun n σ' H' _ q => hl n σ' H' q) hs fun σ' H' q => hd σ' H' q H' (Ex.refl H')⟩
theorem et_eqT {a b : Str} (h : a = b) (ha : Ev te σ H (.str a)) (hb : Ev tb σ H (.str b)) : EvT (tTest (tOp rEq te tb)) σ H true := et_test (ev_is (ev_op ha hb rv_eqS) (by rw [decide_eq_true h]))
theorem et_eqF {a b : Str} (h : a ≠ b) (ha : Ev te σ H (.str a)) (hb : Ev tb σ H (.str b)) : EvT (tTest (tOp rEq te tb)) σ H false := et_test (ev_is (ev_op ha hb rv_eqS) (by rw [decide_eq_false h]))
theorem et_andF {u : TT} (h : EvT tt σ H false) : EvT (tAnd tt u) σ H false := et_is (et_and (b := true) h fun h => by cases h) rfl
theorem et_andT {u : TT} {b : Bool} (h : EvT tt σ H true) (h2 : EvT u σ H b) : EvT (tAnd tt u) σ H b := et_is (et_and h fun _ => h2) (Bool.true_and b)
theorem n_asgFirst {i j : Nat} {wh : Str} {p kn : Addr} {rows known : List Str} {m : Str} (h : EvA ta σ H [.str wh, .ref p, .ref kn, .str m]) (hp : SqL K H p (rows.map V.str)) (hkn : SqL K H kn (known.map V.str)) (hb : rows.length ≤ 100 ∧ ∀ x ∈ rows, Tk 4000 x) (hk : known.length ≤ 1000) (hm : m.length < 64)
    (k : ∀ kp H1, Ex H H1 → H1 kp = some (.lst ((firstL (decide (wh = "task")) m rows 0 known []).2.map V.str)) → Go tz D ((σ.set i (some (optV (firstL (decide (wh = "task")) m rows 0 known []).1))).set j (some (.ref kp))) H1) :
    Go (tSeq (tAsg (tCall (spFirst K) [] E ta) (gTup K 2 (gCons (gName i) (gCons (gName j) gNil)))) tz) D σ H := fun H1 e => h H1 e _ fun H2 e2 =>
  ⟨wh, p, rows, kn, known, m, rfl, ex_l (e.trans e2) hp, ex_l (e.trans e2) hkn, hb, hk, hm, fun q kp H3 e3 g1 g2 => ⟨q, _, rfl, st_of g1, rfl, _, _, rfl, _, _, rfl, rfl, k kp H3 ((e.trans e2).trans e3) g2 H3 (Ex.refl H3)⟩⟩
theorem n_whenAsgL {i : Nat} {xs : List V} (h : EvT tt σ H true) (hl : EvL te σ H xs) (k : ∀ p H1, H p = none → Ex H H1 → H1 p = some (.lst xs) → Go tz D (σ.set i (some (.ref p))) H1) : Go (tSeq (tIfS tt (tAsg te (gName i)) tNext) tz) D σ H :=
  n_when h (fun _ => g_asgL hl fun p H1 hp e1 h1 => k p H1 hp e1 h1) fun h => by cases h
theorem er_lst3U {t1 t2 t3 : TE} {xs ys zs : List V} (h1 : EvU t1 σ H xs) (h2 : EvU t2 σ H ys) (h3 : EvU t3 σ H zs) : EvR (tLst (tCons t1 (tCons t2 (tCons t3 tNil)))) σ H
    (fun v H2 => ∃ p a b c : Addr, v = .ref p ∧ H2 p = some (.lst [.ref a, .ref b, .ref c]) ∧ H2 a = some (.tup xs) ∧ H2 b = some (.tup ys) ∧ H2 c = some (.tup zs)) := fun H1 e Q q =>
  h1 H1 e _ fun a H2 _ e2 g1 => h2 H2 (e.trans e2) _ fun b H3 _ e3 g2 => h3 H3 ((e.trans e2).trans e3) _ fun c H4 _ e4 g3 => ⟨sz_of (by show 3 ≤ 100000; omega), fun p hp =>
    q _ _ (((e2.trans e3).trans e4).trans (Ex.new hp)) ⟨p, a, b, c, rfl, upd_same, Ex.new hp _ _ ((e3.trans e4) _ _ g1), Ex.new hp _ _ (e4 _ _ g2), Ex.new hp _ _ g3⟩⟩
end
theorem firstL_len {m : Str} {tk : Bool} : ∀ {rows : List Str} {i : Nat} {k op : List Str}, (firstL tk m rows i k op).2.length ≤ k.length + rows.length
  | [], i, k, op => Nat.le_add_right _ _
  | row :: r, i, k, op => by
    rw [firstL_cons, List.length_cons]
    have h1 := knownL_len (p := spl row) (known := k) (tk := tk)
    split
    · show k.length ≤ _
      omega
    · split
      · show (knownL (spl row) tk k).length ≤ _
        omega
      · have := firstL_len (m := m) (tk := tk) (rows := r) (i := i + 1) (k := knownL (spl row) tk k) (op := open3 row (open2 row (open1 (spl row) tk op)))
        omega
def spErr (K : PySem.W.Frag) : Sp := fun vs H Q _ => ∃ (m : Str) (pa pb pc : Addr) (a b c : List Str), vs = [.str m, .ref pa, .ref pb, .ref pc] ∧ (Tk 4000 m ∧ m.length < 64) ∧
  (H pa = some (.lst (a.map V.str)) ∧ H pb = some (.lst (b.map V.str)) ∧ H pc = some (.lst (c.map V.str))) ∧ (∀ l ∈ [a, b, c], l.length ≤ 100 ∧ ∀ y ∈ l, Tk 4000 y) ∧ RetE (lawErr m a b c) H Q
theorem b_l_error {A : Around} {cdv : Value} {outer : List Env} {s : Shared} {H : Hp} {E : XK} {Q : VK} {vs : List V} (T : Tx K mg) (hr) (h : spErr K vs H Q E) :
    (der_l_error (P := P) (w := w) (base := base) (cdv := cdv) (A := A) (outer := outer) (s := s) (H := H) (E := E) T hr (k_l_are_marks T) (k_l_first_wrong T)).t { nx := fun _ H' => Q .non H', rt := Q } (start N_l_error vs) H := by
  obtain ⟨m, pa, pb, pc, a, b, c, rfl, ⟨hm, hm64⟩, ⟨ha, hb, hc⟩, hbd, k⟩ := h
  have la := hbd a (by simp)
  have lb := hbd b (by simp)
  have lc := hbd c (by simp)
  simp only [der_l_error]
  refine go_run (n_when (et_not (et_B (ev_call (z := .bl (marksL m)) (ea_cons (by exact ev_var rfl) ea_nil) fun H1 e Q' q E' => ⟨m, rfl, hm, q⟩))) (fun hM => ?_) fun hM => ?_)
  · have ek : lawErr m a b c = some (.prog "marks" (-1)) := by
      unfold lawErr
      rw [if_neg (by rw [nb hM]; decide)]
    exact g_retU (eu_tup (ea_cons ev_c (ea_cons ev_c (ea_cons (ev_un ev_c ru_neg) ea_nil))) (by simp)) fun q H1 _ e1 h1 => k.prog_of ek q H1 e1 h1
  have ek : lawErr m a b c = partsErrL m a b c := by
    unfold lawErr
    rw [if_pos (nb' hM)]
  rw [ek] at k
  refine n_parLL (xs := []) (ys := []) (el_lst ea_nil (by simp)) (el_lst ea_nil (by simp)) fun k0 i0 H1 _ _ _ e1 hk0 hi0 => ?_
  refine n_forR (er_lst3U (eu_tup (ea_cons ev_c (ea_cons (by exact ev_var rfl) (ea_cons ev_c ea_nil))) (by simp)) (eu_tup (ea_cons ev_c (ea_cons (by exact ev_var rfl) (ea_cons ev_c ea_nil))) (by simp)) (eu_tup (ea_cons ev_c (ea_cons (by exact ev_var rfl) (ea_cons ev_c ea_nil))) (by simp))) fun v H2 e2 hv => ?_
  obtain ⟨p, t1, t2, t3, rfl, hp, g1, g2, g3⟩ := hv
  refine ⟨p, _, rfl, sq_of hp, fun i σ' H' => ∃ (kp ip : Addr) (kn inn : List Str) (x6 x7 x8 x9 : Option V), σ' = [some (.str m), some (.ref pa), some (.ref pb), some (.ref pc), some (.ref kp), some (.ref ip), x6, x7, x8, x9] ∧ Ex H2 H' ∧ H' kp = some (.lst (kn.map V.str)) ∧ H' ip = some (.lst (inn.map V.str)) ∧
    (i = 0 → kn = [] ∧ inn = []) ∧ (i = 1 → inn = kn ∧ kn.length ≤ 3 ∧ partsErrL m a b c = callerErrL m kn b c) ∧ (i = 2 → ∃ k1 : List Str, kn = k1 ++ ([("item" : Str), ("out" : Str)]) ∧ k1.length ≤ 3 ∧ partsErrL m a b c = taskErrL m k1 c) ∧ (i = 3 → partsErrL m a b c = none),
    ⟨k0, i0, [], [], _, _, _, _, rfl, Ex.refl H2, e2 _ _ hk0, e2 _ _ hi0, fun _ => ⟨rfl, rfl⟩, fun h => absurd h (by decide), fun h => absurd h (by decide), fun h => absurd h (by decide)⟩, fun i σ' H' ⟨_, _, _, _, _, _, _, _, _, e, _⟩ => sq_of (e _ _ hp), ?_, ?_⟩
  · intro i x σ' H3 hx hP
    obtain ⟨kp, ip, kn, inn, x6, x7, x8, x9, rfl, e3, hkp, hip, i0', i1', i2', _⟩ := hP
    have e03 : Ex H H3 := (e1.trans e2).trans e3
    match i, hx with
    | 0, hx =>
      obtain ⟨rfl, rfl⟩ := i0' rfl
      cases (Option.some.inj hx)
      refine ⟨t1, _, rfl, st_of (e3 _ _ g1), rfl, _, _, rfl, _, _, rfl, _, _, rfl, rfl, ?_⟩
      refine go_run (n_when (et_not (et_B (ev_isiL (by exact ev_var rfl) (e03 _ _ ha)))) (fun h => by cases h) fun _ => ?_)
      have hl : ((a.map V.str).length : Int) = (a.length : Int) := by rw [List.length_map]
      refine n_when (et_test (ev_op (ev_is (ev_lenQ (eq_of (by exact ev_var rfl) (sq_of (e03 _ _ ha)))) (congrArg V.int hl)) (by exact ev_var rfl) rv_gtI)) (fun hb => g_retU (eu_tup (ea_cons ev_c (ea_cons ev_c ea_nil)) (by simp)) fun q H4 _ e4 h4 => k.many_of (pl_many (by have := of_decide_eq_true hb; omega)) q H4 (e03.trans e4) h4) fun hb => ?_
      have hA : ¬ 6 < a.length := by have := of_decide_eq_false hb; omega
      refine n_asgFirst (ea_cons (by exact ev_var rfl) (ea_cons (by exact ev_var rfl) (ea_cons (by exact ev_var rfl) (ea_cons (by exact ev_var rfl) ea_nil)))) (sq_of (e03 _ _ ha)) (known := []) (sq_of hkp) la (by simp) hm64 fun kp2 H4 e4 hk2 => ?_
      have e04 := e03.trans e4
      have hfl := firstL_len (tk := false) (m := m) (rows := a) (i := 0) (k := []) (op := [])
      change H4 kp2 = some (.lst ((firstL false m a 0 [] []).2.map V.str)) at hk2
      show Go _ _ ((_ : L2.St).set 4 _) _
      change Go _ _ [some (.str m), some (.ref pa), some (.ref pb), some (.ref pc), some (.ref kp2), some (.ref ip), some (.str "module"), some (.ref pa), some (.int 6), some (optV (firstL false m a 0 [] []).1)] H4
      rcases hF : firstL false m a 0 [] [] with ⟨_ | j, k1⟩
      · rw [hF] at hk2 hfl
        rw [pl_r hA hF] at k
        rw [pl_r hA hF]
        refine n_when (b := false) (et_test (ev_is (ev_op (by exact ev_var rfl) ev_c rv_notNon) rfl)) (fun h => by cases h) fun _ => ?_
        have hl1 : ((k1.map V.str).length : Int) = (k1.length : Int) := by rw [List.length_map]
        have lenK : Ev (tCB (rLenQ K) (tCons (tVar 4) tNil)) [some (.str m), some (.ref pa), some (.ref pb), some (.ref pc), some (.ref kp2), some (.ref ip), some (.str "module"), some (.ref pa), some (.int 6), some (optV none)] H4 (.int k1.length) := ev_is (ev_lenQ (eq_of (by exact ev_var rfl) (sq_of hk2))) (congrArg V.int hl1)
        refine n_when (et_andT (et_eqT rfl (by exact ev_var rfl) ev_c) (et_test (ev_op lenK ev_c rv_gtI))) (fun hg => g_retU (eu_tup (ea_cons ev_c (ea_cons ev_c ea_nil)) (by simp)) fun q H5 _ e5 h5 => k.many_of (if_pos (by have := of_decide_eq_true hg; omega)) q H5 (e04.trans e5) h5) fun hg => ?_
        have hG : ¬ 3 < k1.length := by have := of_decide_eq_false hg; omega
        rw [if_neg hG] at k
        rw [if_neg hG]
        refine n_whenAsgL (et_eqT rfl (by exact ev_var rfl) ev_c) (el_listQ (eq_of (by exact ev_var rfl) (sq_of hk2))) fun ip2 H5 _ e5 h5 => ?_
        refine n_when (b := false) (et_andF (et_eqF (a := "module") (b := "caller") (by decide) (by exact ev_var rfl) ev_c)) (fun h => by cases h) fun _ => ?_
        exact g_if (b := false) (et_eqF (a := "module") (b := "caller") (by decide) (by exact ev_var rfl) ev_c) (fun h => by cases h) fun _ => fun H6 e6 => ⟨kp2, ip2, k1, k1, _, _, _, _, rfl, ((e3.trans e4).trans e5).trans e6, (e5.trans e6) _ _ hk2, e6 _ _ h5, fun h => absurd h (by decide), fun _ => ⟨rfl, by omega, rfl⟩, fun h => absurd h (by decide), fun h => absurd h (by decide)⟩
      · rw [pl_l hA hF] at k
        exact n_when (b := true) (et_test (ev_is (ev_op (by exact ev_var rfl) ev_c rv_notNon) rfl)) (fun _ => g_retU (eu_tup (ea_cons ev_c (ea_cons (by exact ev_var rfl) (ea_cons (by exact ev_var rfl) ea_nil))) (by simp)) fun q H5 _ e5 h5 => k q H5 (e04.trans e5) h5) fun h => by cases h
    | 1, hx =>
      obtain ⟨rfl, hkl, hpe⟩ := i1' rfl
      rw [hpe] at k
      cases (Option.some.inj hx)
      refine ⟨t2, _, rfl, st_of (e3 _ _ g2), rfl, _, _, rfl, _, _, rfl, _, _, rfl, rfl, ?_⟩
      refine go_run (n_when (et_not (et_B (ev_isiL (by exact ev_var rfl) (e03 _ _ hb)))) (fun h => by cases h) fun _ => ?_)
      have hl : ((b.map V.str).length : Int) = (b.length : Int) := by rw [List.length_map]
      refine n_when (et_test (ev_op (ev_is (ev_lenQ (eq_of (by exact ev_var rfl) (sq_of (e03 _ _ hb)))) (congrArg V.int hl)) (by exact ev_var rfl) rv_gtI)) (fun hb => g_retU (eu_tup (ea_cons ev_c (ea_cons ev_c ea_nil)) (by simp)) fun q H4 _ e4 h4 => k.many_of (cl_many (by have := of_decide_eq_true hb; omega)) q H4 (e03.trans e4) h4) fun hb0 => ?_
      have hB : ¬ 6 < b.length := by have := of_decide_eq_false hb0; omega
      refine n_asgFirst (ea_cons (by exact ev_var rfl) (ea_cons (by exact ev_var rfl) (ea_cons (by exact ev_var rfl) (ea_cons (by exact ev_var rfl) ea_nil)))) (sq_of (e03 _ _ hb)) (sq_of hkp) lb (by omega) hm64 fun kp2 H4 e4 hk2 => ?_
      have e04 := e03.trans e4
      have hfl := firstL_len (tk := false) (m := m) (rows := b) (i := 0) (k := inn) (op := [])
      change H4 kp2 = some (.lst ((firstL false m b 0 inn []).2.map V.str)) at hk2
      change Go _ _ [some (.str m), some (.ref pa), some (.ref pb), some (.ref pc), some (.ref kp2), some (.ref ip), some (.str "caller"), some (.ref pb), some (.int 6), some (optV (firstL false m b 0 inn []).1)] H4
      rcases hF : firstL false m b 0 inn [] with ⟨_ | j, k2⟩
      · rw [hF] at hk2 hfl
        rw [cl_r hB hF] at k hpe
        have hip4 := e4 _ _ hip
        refine n_when (b := false) (et_test (ev_is (ev_op (by exact ev_var rfl) ev_c rv_notNon) rfl)) (fun h => by cases h) fun _ => ?_
        have hl1 : ((k2.map V.str).length : Int) = (k2.length : Int) := by rw [List.length_map]
        have hl2 : ((inn.map V.str).length : Int) = (inn.length : Int) := by rw [List.length_map]
        have lenK : Ev (tCB (rLenQ K) (tCons (tVar 4) tNil)) [some (.str m), some (.ref pa), some (.ref pb), some (.ref pc), some (.ref kp2), some (.ref ip), some (.str "caller"), some (.ref pb), some (.int 6), some (optV none)] H4 (.int k2.length) := ev_is (ev_lenQ (eq_of (by exact ev_var rfl) (sq_of hk2))) (congrArg V.int hl1)
        have lenI : Ev (tCB (rLenQ K) (tCons (tVar 5) tNil)) [some (.str m), some (.ref pa), some (.ref pb), some (.ref pc), some (.ref kp2), some (.ref ip), some (.str "caller"), some (.ref pb), some (.int 6), some (optV none)] H4 (.int inn.length) := ev_is (ev_lenQ (eq_of (by exact ev_var rfl) (sq_of hip4))) (congrArg V.int hl2)
        refine n_when (b := false) (et_andF (et_eqF (a := "caller") (b := "module") (by decide) (by exact ev_var rfl) ev_c)) (fun h => by cases h) fun _ => ?_
        refine n_when (b := false) (et_eqF (a := "caller") (b := "module") (by decide) (by exact ev_var rfl) ev_c) (fun h => by cases h) fun _ => ?_
        refine n_when (et_andT (et_eqT rfl (by exact ev_var rfl) ev_c) (et_or (et_test (ev_op lenK ev_c rv_gtI)) fun _ => et_test (ev_op lenK (ev_op lenI ev_c rv_addI) rv_gtI))) (fun hg => g_retU (eu_tup (ea_cons ev_c (ea_cons ev_c ea_nil)) (by simp)) fun q H5 _ e5 h5 => k.many_of (if_pos ?_) q H5 (e04.trans e5) h5) fun hg => ?_
        · rcases Bool.or_eq_true_iff.mp hg with h | h
          · have := of_decide_eq_true h
            omega
          · have := of_decide_eq_true h
            omega
        have hN : ¬ (4 < k2.length ∨ inn.length + 2 < k2.length) := by
          obtain ⟨h1, h2⟩ := Bool.or_eq_false_iff.mp hg
          have := of_decide_eq_false h1
          have := of_decide_eq_false h2
          omega
        rw [if_neg hN] at k hpe
        refine g_if (b := true) (et_eqT rfl (by exact ev_var rfl) ev_c) (fun _ => ?_) fun h => by cases h
        refine g_asgL (xs := (inn ++ ([("item" : Str), ("out" : Str)])).map V.str) (el_is (el_cat (em_of (by exact ev_var rfl) hip4) (EvL.m (el_lst (ea_cons ev_c (ea_cons ev_c ea_nil)) (by simp))) (by rw [List.length_map]; simp; omega)) (by rw [List.map_append]; rfl)) fun kp3 H5 _ e5 h5 => fun H6 e6 =>
          ⟨kp3, ip, _, inn, _, _, _, _, rfl, ((e3.trans e4).trans e5).trans e6, e6 _ _ h5, (e5.trans e6) _ _ hip4, fun h => absurd h (by decide), fun h => absurd h (by decide), fun _ => ⟨inn, rfl, hkl, hpe⟩, fun h => absurd h (by decide)⟩
      · rw [cl_l hB hF] at k
        exact n_when (b := true) (et_test (ev_is (ev_op (by exact ev_var rfl) ev_c rv_notNon) rfl)) (fun _ => g_retU (eu_tup (ea_cons ev_c (ea_cons (by exact ev_var rfl) (ea_cons (by exact ev_var rfl) ea_nil))) (by simp)) fun q H5 _ e5 h5 => k q H5 (e04.trans e5) h5) fun h => by cases h
    | 2, hx =>
      obtain ⟨k1, rfl, hkl, hpe⟩ := i2' rfl
      rw [hpe] at k
      cases (Option.some.inj hx)
      refine ⟨t3, _, rfl, st_of (e3 _ _ g3), rfl, _, _, rfl, _, _, rfl, _, _, rfl, rfl, ?_⟩
      refine go_run (n_when (et_not (et_B (ev_isiL (by exact ev_var rfl) (e03 _ _ hc)))) (fun h => by cases h) fun _ => ?_)
      have hl : ((c.map V.str).length : Int) = (c.length : Int) := by rw [List.length_map]
      refine n_when (et_test (ev_op (ev_is (ev_lenQ (eq_of (by exact ev_var rfl) (sq_of (e03 _ _ hc)))) (congrArg V.int hl)) (by exact ev_var rfl) rv_gtI)) (fun hb => g_retU (eu_tup (ea_cons ev_c (ea_cons ev_c ea_nil)) (by simp)) fun q H4 _ e4 h4 => k.many_of (tl_many (by have := of_decide_eq_true hb; omega)) q H4 (e03.trans e4) h4) fun hb0 => ?_
      have hC : ¬ 16 < c.length := by have := of_decide_eq_false hb0; omega
      refine n_asgFirst (ea_cons (by exact ev_var rfl) (ea_cons (by exact ev_var rfl) (ea_cons (by exact ev_var rfl) (ea_cons (by exact ev_var rfl) ea_nil)))) (sq_of (e03 _ _ hc)) (sq_of hkp) lc (by rw [List.length_append]; simp; omega) hm64 fun kp2 H4 e4 hk2 => ?_
      have e04 := e03.trans e4
      change H4 kp2 = some (.lst ((firstL true m c 0 (k1 ++ ([("item" : Str), ("out" : Str)])) []).2.map V.str)) at hk2
      change Go _ _ [some (.str m), some (.ref pa), some (.ref pb), some (.ref pc), some (.ref kp2), some (.ref ip), some (.str "task"), some (.ref pc), some (.int 16), some (optV (firstL true m c 0 (k1 ++ ([("item" : Str), ("out" : Str)])) []).1)] H4
      rcases hF : firstL true m c 0 (k1 ++ ([("item" : Str), ("out" : Str)])) [] with ⟨_ | j, k2⟩
      · rw [hF] at hk2
        rw [tl_r hC hF] at hpe
        refine n_when (b := false) (et_test (ev_is (ev_op (by exact ev_var rfl) ev_c rv_notNon) rfl)) (fun h => by cases h) fun _ => ?_
        refine n_when (b := false) (et_andF (et_eqF (a := "task") (b := "module") (by decide) (by exact ev_var rfl) ev_c)) (fun h => by cases h) fun _ => ?_
        refine n_when (b := false) (et_eqF (a := "task") (b := "module") (by decide) (by exact ev_var rfl) ev_c) (fun h => by cases h) fun _ => ?_
        refine n_when (b := false) (et_andF (et_eqF (a := "task") (b := "caller") (by decide) (by exact ev_var rfl) ev_c)) (fun h => by cases h) fun _ => ?_
        exact g_if (b := false) (et_eqF (a := "task") (b := "caller") (by decide) (by exact ev_var rfl) ev_c) (fun h => by cases h) fun _ => fun H6 e6 => ⟨kp2, ip, k2, inn, _, _, _, _, rfl, (e3.trans e4).trans e6, e6 _ _ hk2, (e4.trans e6) _ _ hip, fun h => absurd h (by decide), fun h => absurd h (by decide), fun h => absurd h (by decide), fun _ => hpe⟩
      · rw [tl_l hC hF] at k
        exact n_when (b := true) (et_test (ev_is (ev_op (by exact ev_var rfl) ev_c rv_notNon) rfl)) (fun _ => g_retU (eu_tup (ea_cons ev_c (ea_cons (by exact ev_var rfl) (ea_cons (by exact ev_var rfl) ea_nil))) (by simp)) fun q H5 _ e5 h5 => k q H5 (e04.trans e5) h5) fun h => by cases h
    | n + 3, hx => cases hx
  · intro σ' H3 hP
    obtain ⟨kp, ip, kn, inn, x6, x7, x8, x9, rfl, e3, hkp, hip, _, _, _, i3'⟩ := hP
    exact g_ret ev_c fun H4 e4 => k.none_of (i3' rfl) H4 (((e1.trans e2).trans e3).trans e4)
end
end K27

set_option maxRecDepth 100000
set_option maxHeartbeats 4000000
/-! what the program raises; the same answer -/
namespace K27
open PySem PySem.Spec PyProof.Rows L2 Evl
section
variable {P : Program} {w : World} {K : PySem.W.Frag} {mg : PySem.Str → Option Value} {base : Heap}
def spRaised (K : PySem.W.Frag) : Sp := fun vs H Q _ => ∃ (m : Str) (pa pb pc : Addr) (a b c : List Str), vs = [.str m, .ref pa, .ref pb, .ref pc] ∧ Tk 100000 m ∧
  (H pa = some (.lst (a.map V.str)) ∧ H pb = some (.lst (b.map V.str)) ∧ H pc = some (.lst (c.map V.str))) ∧ (∀ l ∈ [a, b, c], l.length ≤ 100 ∧ ∀ y ∈ l, Tk 50000 y) ∧ RetE (progErr m a b c) H Q
theorem ex_made {H H' : Hp} {x dx : Addr} {o u : HO} (hx : H x = none) (hdx : H dx = none) (e : Exa x (upd (upd H dx o) x u) H') : Ex H H' := fun b v hb => e b v (ne_of_none hb hx) (by
  rw [upd_ne (ne_of_none hb hx), upd_ne (ne_of_none hb hdx)]
  exact hb)
theorem k_l_raised (T : Tx K mg) : Kp P w K mg base CX0 "_law_raised" 9 p_l_raised (spRaised K) :=
  Kp.of T.F_l_raised T.g_l_raised sc_l_raised (fun _ _ _ _ _ _ us hl => match us, hl with | [_, _, _, _], _ => rfl) (fun vs H Q E h => by obtain ⟨m, pa, pb, pc, a, b, c, rfl, _⟩ := h; rfl) fun cdv A outer s H vs Q E hr h => ⟨_, (der_l_raised T hr (kc_Program T)).h.nox, by
    obtain ⟨m, pa, pb, pc, a, b, c, rfl, hm, ⟨ha, hb, hc⟩, hbd, k⟩ := h
    simp only [der_l_raised]
    refine ⟨_, rfl, _, rfl, _, rfl, _, rfl, fun x dx hx hdx hne => ?_⟩
    have keep : ∀ {q : Addr} {o : HO}, H q = some o → (upd (upd H dx (.own x)) x (.ins (He.ga K "Program") dx [])) q = some o := fun hq => by
      rw [upd_ne (ne_of_none hq hx), upd_ne (ne_of_none hq hdx)]
      exact hq
    refine ⟨x, m, pa, pb, pc, dx, a, b, c, rfl, upd_same, hm, ⟨keep ha, keep hb, keep hc⟩, hbd, ?_⟩
    cases hE : progErr m a b c with
    | none =>
      rw [hE] at k
      exact fun H' fs ta tb tc e _ _ _ _ _ _ _ => ⟨rfl, k H' (ex_made hx hdx e)⟩
    | some bd =>
      rw [hE] at k
      cases bd with
      | prog part i =>
        refine fun dd H' e hd => ⟨true, T.x_BadProgram_BadProgram, fun _ a ha => ?_, fun h => by cases h⟩
        refine ⟨_, rfl, rfl, rfl, dd, _, .str part, rfl, hd, by rfl, _, rfl, rfl, rfl, dd, _, .int i, rfl, hd, by rfl, sz_of (by simp), fun q hq => ?_⟩
        exact k q _ ((ex_made hx hdx e).trans (Ex.new hq)) upd_same
      | many what =>
        refine fun dd H' e hd => ⟨false, T.x_TooMany_BadProgram, fun h => absurd h (by decide), fun _ => ⟨true, T.x_TooMany_TooMany, fun _ a ha => ?_, fun h => by cases h⟩⟩
        refine ⟨_, rfl, rfl, rfl, dd, _, .str what, rfl, hd, by rfl, sz_of (by simp), fun q hq => ?_⟩
        exact k q _ ((ex_made hx hdx e).trans (Ex.new hq)) upd_same⟩
/-! ### the same answer -/
def errData : Option Bad → PyData
  | none => .none
  | some (.prog p i) => .tuple [.str "program", .str p, .int i]
  | some (.many x) => .tuple [.str "many", .str x]
def RepE (K : PySem.W.Frag) (H : Hp) (v : V) : Option Bad → Prop
  | none => v = .non
  | some (.prog p i) => ∃ q : Addr, v = .ref q ∧ H q = some (.tup [.str "program", .str p, .int i])
  | some (.many x) => ∃ q : Addr, v = .ref q ∧ H q = some (.tup [.str "many", .str x])
def goodE : Option Bad → Prop
  | none => True
  | some (.prog p i) => p ∈ ([("marks" : Str), ("module" : Str), ("caller" : Str), ("task" : Str)]) ∧ -1 ≤ i ∧ i ≤ 100
  | some (.many x) => x ∈ ([("rows" : Str), ("globals" : Str), ("names" : Str)])
theorem RepE.dp {H : Hp} {v : V} : ∀ {o : Option Bad}, RepE K H v o → Dp K H v (errData o) ∧ (v = .non ∨ ∃ a, v = .ref a)
  | none, h => by
    subst h
    exact ⟨.non, .inl rfl⟩
  | some (.prog p i), h => by
    obtain ⟨q, rfl, hq⟩ := h
    exact ⟨.tup (st_of hq) (.cons (.str _) (.cons (.str _) (.cons (.int _) .nil))), .inr ⟨q, rfl⟩⟩
  | some (.many x), h => by
    obtain ⟨q, rfl, hq⟩ := h
    exact ⟨.tup (st_of hq) (.cons (.str _) (.cons (.str _) .nil)), .inr ⟨q, rfl⟩⟩
def okD (d : PyData) : Bool := SeqAt.shaped d && (d.showable && (!d.hasDict && (decide (d.depth ≤ 60) && (decide (d.shown.length ≤ 100000) && PyData.eqv d d))))
theorem okE1 : ∀ n ∈ List.range 102, ∀ p ∈ ([("marks" : Str), ("module" : Str), ("caller" : Str), ("task" : Str)]), okD (.tuple [.str "program", .str p, .int ((n : Int) - 1)]) = true := by decide +kernel
theorem okE2 : ∀ x ∈ ([("rows" : Str), ("globals" : Str), ("names" : Str)]), okD (.tuple [.str "many", .str x]) = true := by decide +kernel
theorem okE : ∀ {o : Option Bad}, goodE o → okD (errData o) = true
  | none, _ => by decide +kernel
  | some (.prog p i), h => by
    obtain ⟨h1, h2, h3⟩ := h
    have := okE1 (i + 1).toNat (List.mem_range.mpr (by omega)) p h1
    rw [show (((i + 1).toNat : Nat) : Int) - 1 = i by omega] at this
    exact this
  | some (.many x), h => okE2 x h
def spSame (K : PySem.W.Frag) : Sp := fun vs H Q _ => ∃ (u v : V) (o : Option Bad), vs = [u, v] ∧ RepE K H u o ∧ RepE K H v o ∧ goodE o ∧ RetV (.bl true) H Q
theorem kg_l_same (T : Tx K mg) : Kg P w K mg base CX0 "_law_same" 1 p_l_same (spSame K) := by
  obtain ⟨fd, F⟩ := T.F_l_same
  refine ⟨⟨fd, FunD.okG F sc_l_same (fun vs H Q E h => by obtain ⟨u, v, o, rfl, _⟩ := h; rfl) fun cdv A outer s H vs Q E hga hr h => ⟨_, (der_l_same T hr hga).h.nox, ?_⟩, F.bindsN fun _ _ _ _ _ _ us hl => match us, hl with | [_, _], _ => rfl⟩, T.g_l_same, F.kp⟩
  obtain ⟨u, v, o, rfl, hu, hv, hg, k⟩ := h
  simp only [der_l_same]
  have h0 := okE hg
  obtain ⟨h1, h0⟩ := Bool.and_eq_true_iff.mp h0
  obtain ⟨h2, h0⟩ := Bool.and_eq_true_iff.mp h0
  obtain ⟨h3, h0⟩ := Bool.and_eq_true_iff.mp h0
  obtain ⟨h4, h0⟩ := Bool.and_eq_true_iff.mp h0
  obtain ⟨h5, h6⟩ := Bool.and_eq_true_iff.mp h0
  have h4' := of_decide_eq_true h4
  have h5' := of_decide_eq_true h5
  obtain ⟨du, ru⟩ := RepE.dp hu
  obtain ⟨dv, rv⟩ := RepE.dp hv
  refine ⟨_, rfl, _, rfl, errData o, errData o, du, dv, h1, h1, _, rfl, ?_⟩
  rw [h6, if_pos rfl]
  refine ⟨_, rfl, _, errData o, rfl, du, h2, nb h3, h4', h5', ru, _, rfl, _, errData o, rfl, dv, h2, nb h3, h4', h5', rv, rfl, ?_⟩
  rw [decide_eq_true rfl]
  exact k H (Ex.refl H)
end
end K27

set_option maxRecDepth 100000
set_option maxHeartbeats 4000000
/-! the plain law: the program's error is the law's -/
namespace K27
open PySem PySem.Spec PyProof.Rows L2
/-! ### marks -/
theorem lt_one {d c : Nat} : decide ([d] < [c]) = decide (d < c) := by
  rw [← ltCps_eq]
  show (decide (d < c) || ((d == c) && false)) = _
  rw [Bool.and_false, Bool.or_false]
theorem ascF_d : ∀ {l : List Nat} {d : Nat}, ascF [d] l = decide ((∀ c ∈ l, c ∈ MKS.cps.toList) ∧ (d :: l).Pairwise (· < ·))
  | [], d => by
    rw [decide_eq_true ⟨fun c h => absurd h (by simp), List.pairwise_singleton _ _⟩]
    rfl
  | c :: r, d => by
    cases h : (!decide (c ∈ MKS.cps.toList) || !decide ([d] < [c])) with
    | true =>
      rw [ascF_no h, lt_one] at *
      symm
      refine decide_eq_false ?_
      rintro ⟨h1, h2⟩
      rw [decide_eq_true (h1 c List.mem_cons_self), decide_eq_true ((List.pairwise_cons.mp h2).1 c List.mem_cons_self)] at h
      cases h
    | false =>
      rw [ascF_yes h, ascF_d]
      rw [lt_one] at h
      obtain ⟨h1, h2⟩ := Bool.or_eq_false_iff.mp h
      have m1 := of_decide_eq_true (nb' h1)
      have m2 := of_decide_eq_true (nb' h2)
      rw [Bool.eq_iff_iff, decide_eq_true_iff, decide_eq_true_iff]
      constructor
      · rintro ⟨g1, g2⟩
        refine ⟨fun x hx => ?_, List.pairwise_cons.mpr ⟨fun x hx => ?_, g2⟩⟩
        · rcases List.mem_cons.mp hx with rfl | hx
          · exact m1
          · exact g1 x hx
        · rcases List.mem_cons.mp hx with rfl | hx
          · exact m2
          · exact Nat.lt_trans m2 ((List.pairwise_cons.mp g2).1 x hx)
      · rintro ⟨g1, g2⟩
        exact ⟨fun x hx => g1 x (List.mem_cons_of_mem _ hx), (List.pairwise_cons.mp g2).2⟩
theorem isC_eq {x : Str} : isC x = (ascB x && allIn x MKS) := by
  unfold isC ascB allIn
  cases h : x.cps.toList with
  | nil => rfl
  | cons c r =>
    cases h1 : (!decide (c ∈ MKS.cps.toList) || !decide (([] : List Nat) < [c])) with
    | true =>
      rw [ascF_no h1]
      have h2 : decide (([] : List Nat) < [c]) = true := (ltCps_eq [] [c]).symm
      rw [h2] at h1
      have h3 : decide (c ∈ MKS.cps.toList) = false := by
        cases hc : decide (c ∈ MKS.cps.toList) <;> rw [hc] at h1 <;> first | rfl | cases h1
      rw [List.all_cons, h3, Bool.false_and, Bool.and_false]
    | false =>
      rw [ascF_yes h1, ascF_d]
      obtain ⟨h2, _⟩ := Bool.or_eq_false_iff.mp h1
      have m1 := of_decide_eq_true (nb' h2)
      rw [Bool.eq_iff_iff, decide_eq_true_iff, Bool.and_eq_true, decide_eq_true_iff, List.all_eq_true]
      constructor
      · rintro ⟨g1, g2⟩
        refine ⟨g2, fun x hx => decide_eq_true ?_⟩
        rcases List.mem_cons.mp hx with rfl | hx
        · exact m1
        · exact g1 x hx
      · rintro ⟨g2, g1⟩
        exact ⟨fun x hx => of_decide_eq_true (g1 x (List.mem_cons_of_mem _ hx)), g2⟩
theorem mks_iff (c : Nat) : c ∈ MKS.cps.toList ↔ c ∈ UPP.cps.toList ∨ c ∈ LOW.cps.toList := by
  have e : MKS.cps.toList = UPP.cps.toList ++ LOW.cps.toList := by decide +kernel
  rw [e, List.mem_append]
theorem upp_low : ∀ c ∈ UPP.cps.toList, c ∉ LOW.cps.toList := by decide +kernel
theorem count_all : ∀ l : List Nat, ((l.filter fun c => decide (c ∈ UPP.cps.toList)).length + (l.filter fun c => decide (c ∈ LOW.cps.toList)).length ≤ l.length) ∧
    (((l.filter fun c => decide (c ∈ UPP.cps.toList)).length + (l.filter fun c => decide (c ∈ LOW.cps.toList)).length = l.length) ↔ l.all (fun c => decide (c ∈ MKS.cps.toList)) = true)
  | [] => ⟨Nat.le_refl _, ⟨fun _ => rfl, fun _ => rfl⟩⟩
  | c :: r => by
    obtain ⟨h1, h2⟩ := count_all r
    rw [List.filter_cons, List.filter_cons, List.all_cons, List.length_cons]
    by_cases hu : c ∈ UPP.cps.toList
    · have hl := upp_low c hu
      have hm := (mks_iff c).mpr (.inl hu)
      rw [if_pos (decide_eq_true hu), if_neg (by rw [decide_eq_false hl]; decide), decide_eq_true hm, Bool.true_and, List.length_cons, ← h2]
      constructor
      · omega
      · constructor <;> intro h <;> omega
    · by_cases hl : c ∈ LOW.cps.toList
      · have hm := (mks_iff c).mpr (.inr hl)
        rw [if_neg (by rw [decide_eq_false hu]; decide), if_pos (decide_eq_true hl), decide_eq_true hm, Bool.true_and, List.length_cons, ← h2]
        constructor
        · omega
        · constructor <;> intro h <;> omega
      · have hm : c ∉ MKS.cps.toList := fun h => ((mks_iff c).mp h).elim hu hl
        rw [if_neg (by rw [decide_eq_false hu]; decide), if_neg (by rw [decide_eq_false hl]; decide), decide_eq_false hm, Bool.false_and]
        constructor
        · omega
        · constructor
          · intro h
            omega
          · intro h
            cases h
theorem marks_eq {m : Str} : marksP m = marksL m := by
  have hc := count_all m.cps.toList
  have hl : m.cps.toList.length = m.length := Array.length_toList
  unfold marksP marksL
  rw [isC_eq]
  have e1 : decide (((m.cps.toList.filter fun c => decide (c ∈ UPP.cps.toList)).length : Int) + ((m.cps.toList.filter fun c => decide (c ∈ LOW.cps.toList)).length : Int) = (m.length : Int)) = allIn m MKS := by
    rw [Bool.eq_iff_iff, decide_eq_true_iff]
    unfold allIn
    rw [← hc.2, hl]
    constructor <;> intro h <;> omega
  have e2 : (!decide (2 < ((m.cps.toList.filter fun c => decide (c ∈ LOW.cps.toList)).length : Int))) = decide (((m.cps.toList.filter fun c => decide (c ∈ LOW.cps.toList)).length : Int) ≤ 2) := by
    rw [Bool.eq_iff_iff, decide_eq_true_iff, Bool.not_eq_true', decide_eq_false_iff_not]
    constructor <;> intro h <;> omega
  rw [e1, e2]
  cases ascB m <;> cases allIn m MKS <;> cases (decide ((1 : Int) ≤ m.length) && decide ((m.length : Int) ≤ 3)) <;> cases decide (((m.cps.toList.filter fun c => decide (c ∈ LOW.cps.toList)).length : Int) ≤ 2) <;> rfl
/-! ### sets, words -/
theorem set_eq {x m : Str} (hm : allIn m MKS = true) : setB x m = (brB x && (allIn (inn x) m && ascB (inn x))) := by
  unfold setB
  rw [isC_eq]
  cases hb : brB x with
  | false => rfl
  | true =>
    cases ha : allIn (inn x) m with
    | false => rw [Bool.and_false, Bool.false_and]
    | true =>
      have h2 : allIn (inn x) MKS = true := List.all_eq_true.mpr fun c hc => by
        have h3 := of_decide_eq_true (List.all_eq_true.mp ha c hc)
        exact List.all_eq_true.mp hm c h3
      rw [h2]
      cases ascB (inn x) <;> rfl
theorem reads_eq {x m : Str} {known : List Str} (hm : allIn m MKS = true) : readsL x known m = (decide (x ∈ known) || setB x m) := by
  unfold readsL
  rw [set_eq hm]
theorem low_br : ∀ c ∈ LOW.cps.toList, c ≠ 123 := by decide +kernel
theorem isW_br {x : Str} (h : isW x = true) : brB x = false := by
  unfold isW at h
  have h2 := (Bool.and_eq_true_iff.mp h).2
  unfold brB
  cases hx : x.cps.toList with
  | nil => simp
  | cons c r =>
    rw [hx, List.all_cons] at h2
    have h3 := low_br c (of_decide_eq_true (Bool.and_eq_true_iff.mp h2).1)
    have e : decide ((c :: r).head? = some 123) = false := decide_eq_false fun e => h3 (Option.some.inj e)
    rw [e, Bool.false_and, Bool.and_false]
theorem ot_br : ∀ x ∈ t_OF_THE_TASK, brB x = false := by decide +kernel
theorem var_br {x : Str} {t : Bool} (h : varB x t = true) : brB x = false := by
  unfold varB at h
  rcases Bool.or_eq_true_iff.mp h with h | h
  · exact isW_br h
  · exact ot_br x (of_decide_eq_true (Bool.and_eq_true_iff.mp h).2)
theorem var_set {x m : Str} {t : Bool} (h : varB x t = true) : setB x m = false := by
  unfold setB
  rw [var_br h]
  rfl
/-- what is known is a variable -/
def Kn (known : List Str) (t : Bool) : Prop := ∀ x ∈ known, varB x t = true
theorem term_eq {x m : Str} {known : List Str} {t : Bool} (hm : allIn m MKS = true) (hk : Kn known t) : (termB x m t && (varsW [x] t).all (fun y => decide (y ∈ known))) = readsL x known m := by
  rw [reads_eq hm]
  unfold termB varsW
  by_cases hv : varB x t = true
  · rw [hv, var_set hv, List.filter_cons, if_pos hv]
    show (true && (decide (x ∈ known) && true)) = (decide (x ∈ known) || false)
    cases decide (x ∈ known) <;> rfl
  · have hn : x ∉ known := fun h => hv (hk x h)
    have hv' : varB x t = false := by
      cases h : varB x t
      · rfl
      · exact absurd h hv
    rw [List.filter_cons, if_neg hv, decide_eq_false hn, hv']
    show ((false || setB x m) && true) = _
    cases setB x m <;> rfl
theorem vars_cons {x : Str} {l : List Str} {t : Bool} : varsW (x :: l) t = varsW [x] t ++ varsW l t := by
  unfold varsW
  rw [List.filter_cons, List.filter_cons]
  split <;> rfl
theorem terms_eq {m : Str} {known : List Str} {t : Bool} (hm : allIn m MKS = true) (hk : Kn known t) : ∀ l : List Str, (l.all (fun x => termB x m t) && (varsW l t).all (fun y => decide (y ∈ known))) = l.all fun x => readsL x known m
  | [] => rfl
  | x :: l => by
    have h1 := term_eq (x := x) hm hk
    have h2 := terms_eq hm hk l
    rw [vars_cons, List.all_append, List.all_cons, List.all_cons, ← h1, ← h2]
    cases termB x m t <;> cases (l.all fun x => termB x m t) <;> cases ((varsW [x] t).all fun y => decide (y ∈ known)) <;> cases ((varsW l t).all fun y => decide (y ∈ known)) <;> rfl
theorem eq_change : ("=" : Str) ∉ t_CHANGES := by decide +kernel
end K27

set_option maxRecDepth 100000
set_option maxHeartbeats 4000000
/-! the plain law: rows, programs -/
namespace K27
open PySem PySem.Spec PyProof.Rows L2
/-! ### a plain row -/
/-- what a plain row's words say of what is known -/
def plainOK (o : Option (List Str × List Str)) (known : List Str) (t : Bool) : Bool := match o with
  | none => false
  | some (b, r) => (if t then b else []).all (fun y => decide (y ∈ known)) && r.all fun y => decide (y ∈ known)
theorem plain_fits {l known : List Str} {m : Str} {t : Bool} (hm : allIn m MKS = true) (hk : Kn known t) : plainOK (plainW l m t) known t = fitsPlain l t known m := by
  by_cases h3 : l.length = 3
  · obtain ⟨a, s, b, rfl⟩ := len3 h3
    rw [plainW_3]
    have hb := term_eq (x := b) hm hk
    show _ = (if s ∈ t_CHANGES then decide (a ∈ known) && readsL b known m else decide (s = "=") && (readsL b known m && (decide (a ∈ known) || (!t && isW a))))
    rw [← hb]
    by_cases hs : s = "="
    · subst hs
      rw [if_pos rfl, if_neg eq_change, decide_eq_true rfl]
      cases hv : varB a t with
      | false =>
        have hn : decide (a ∈ known) = false := decide_eq_false fun h => by
          rw [hk a h] at hv
          cases hv
        have hw : isW a = false := by
          unfold varB at hv
          exact (Bool.or_eq_false_iff.mp hv).1
        rw [hn, hw]
        cases termB b m t <;> cases t <;> cases ((varsW [b] _).all fun y => decide (y ∈ known)) <;> rfl
      | true =>
        cases ht : termB b m t with
        | false => rfl
        | true =>
          rw [Bool.true_and, if_pos rfl]
          cases t with
          | true =>
            show ((decide (a ∈ known) && true) && _) = _
            cases decide (a ∈ known) <;> cases ((varsW [b] true).all fun y => decide (y ∈ known)) <;> rfl
          | false =>
            have hw : isW a = true := by
              unfold varB at hv
              rw [Bool.false_and, Bool.or_false] at hv
              exact hv
            rw [hw]
            show (true && _) = _
            cases decide (a ∈ known) <;> cases ((varsW [b] false).all fun y => decide (y ∈ known)) <;> rfl
    · rw [if_neg hs, decide_eq_false hs]
      by_cases hc : s ∈ t_CHANGES
      · rw [if_pos hc, if_pos hc]
        cases hv : varB a t with
        | false =>
          have hn : decide (a ∈ known) = false := decide_eq_false fun h => by
            rw [hk a h] at hv
            cases hv
          rw [hn]
          rfl
        | true =>
          cases ht : termB b m t with
          | false =>
            rw [Bool.false_and, Bool.and_false, if_neg Bool.false_ne_true]
            cases decide (a ∈ known) <;> rfl
          | true =>
            rw [Bool.true_and, if_pos rfl]
            have e : ((if t = true then ([] : List Str) else []).all fun y => decide (y ∈ known)) = true := by
              cases t <;> rfl
            show (((if t = true then ([] : List Str) else []).all fun y => decide (y ∈ known)) && (decide (a ∈ known) && _)) = _
            rw [e]
            cases decide (a ∈ known) <;> rfl
      · rw [if_neg hc, if_neg hc]
        cases (varB a t && termB b m t) <;> rfl
  · by_cases h5 : l.length = 5
    · obtain ⟨a, s, b, g, c, rfl⟩ := len5 h5
      rw [plainW_5]
      have hb := term_eq (x := b) hm hk
      have hc := term_eq (x := c) hm hk
      show _ = (decide (s = "=") && (readsL b known m && ((decide (a ∈ known) || (!t && isW a)) && (decide (g ∈ t_SIGNS) && readsL c known m))))
      rw [← hb, ← hc]
      have hvs : ((varsW [b, c] t).all fun y => decide (y ∈ known)) = (((varsW [b] t).all fun y => decide (y ∈ known)) && ((varsW [c] t).all fun y => decide (y ∈ known))) := by
        rw [vars_cons, List.all_append]
      by_cases hs : s = "=" ∧ g ∈ t_SIGNS
      · rw [if_pos hs, decide_eq_true hs.1, decide_eq_true hs.2]
        cases hv : varB a t with
        | false =>
          have hn : decide (a ∈ known) = false := decide_eq_false fun h => by
            rw [hk a h] at hv
            cases hv
          have hw : isW a = false := by
            unfold varB at hv
            exact (Bool.or_eq_false_iff.mp hv).1
          rw [hn, hw]
          cases termB b m t <;> cases t <;> cases ((varsW [b] _).all fun y => decide (y ∈ known)) <;> rfl
        | true =>
          cases ht : termB b m t with
          | false => rfl
          | true =>
            cases hu : termB c m t with
            | false =>
              cases ((varsW [b] t).all fun y => decide (y ∈ known)) <;> cases (decide (a ∈ known) || (!t && isW a)) <;> rfl
            | true =>
              rw [Bool.true_and, Bool.true_and, if_pos rfl]
              cases t with
              | true =>
                show ((decide (a ∈ known) && true) && _) = _
                rw [hvs]
                cases decide (a ∈ known) <;> cases ((varsW [b] true).all fun y => decide (y ∈ known)) <;> cases ((varsW [c] true).all fun y => decide (y ∈ known)) <;> rfl
              | false =>
                have hw : isW a = true := by
                  unfold varB at hv
                  rw [Bool.false_and, Bool.or_false] at hv
                  exact hv
                rw [hw]
                show (true && _) = _
                rw [hvs]
                cases decide (a ∈ known) <;> cases ((varsW [b] false).all fun y => decide (y ∈ known)) <;> cases ((varsW [c] false).all fun y => decide (y ∈ known)) <;> rfl
      · rw [if_neg hs]
        have hz : (decide (s = ("=" : Str)) && decide (g ∈ t_SIGNS)) = false := by
          cases h : (decide (s = ("=" : Str)) && decide (g ∈ t_SIGNS))
          · rfl
          · obtain ⟨h1, h2⟩ := Bool.and_eq_true_iff.mp h
            exact absurd ⟨of_decide_eq_true h1, of_decide_eq_true h2⟩ hs
        have hl : plainOK (if (varB a t && (termB b m t && termB c m t)) = true then none else none) known t = false := by
          cases (varB a t && (termB b m t && termB c m t)) <;> rfl
        rw [hl]
        cases h1 : decide (s = ("=" : Str)) <;> cases h2 : decide (g ∈ t_SIGNS)
        · rfl
        · rfl
        · cases (termB b m t && (varsW [b] t).all fun y => decide (y ∈ known)) <;> cases (decide (a ∈ known) || (!t && isW a)) <;> rfl
        · rw [h1, h2] at hz
          cases hz
    · rw [plainW_none h3 h5, fitsPlain_none h3 h5]
      rfl
/-- one step of module, caller -/
theorem step_eq {m row : Str} {known : List Str} (hm : allIn m MKS = true) (hk : Kn known false) : stepP m row known = if fitsRow (spl row) false known m = true then some (knownL (spl row) false known) else none := by
  have hf : fitsRow (spl row) false known m = fitsPlain (spl row) false known m := by
    obtain ⟨h, r, e⟩ := List.exists_cons_of_ne_nil (spl_ne row)
    rw [e, fitsRow_cons, Bool.false_and, if_neg Bool.false_ne_true]
  rw [hf, ← plain_fits hm hk]
  cases hp : plainW (spl row) m false with
  | none =>
    rw [stepP_none hp]
    rfl
  | some br =>
    obtain ⟨b, r⟩ := br
    rw [stepP_some hp]
    have e : plainOK (some (b, r)) known false = r.all fun y => decide (y ∈ known) := Bool.true_and _
    rw [e]
    by_cases hr : (r.all fun y => decide (y ∈ known)) = true
    · rw [if_pos hr, if_pos hr]
      congr 1
      by_cases h3 : (spl row).length = 3
      · obtain ⟨a, s, c, hl⟩ := len3 h3
        rw [hl, plainW_3] at hp
        rw [hl]
        show _ = (if (!false && (decide (s = ("=" : Str)) && !decide (a ∈ known))) = true then known ++ [a] else known)
        split at hp
        · split at hp
          · next hs =>
            obtain ⟨rfl, rfl⟩ := Prod.mk.inj (Option.some.inj hp)
            subst hs
            by_cases ha : a ∈ known
            · rw [decide_eq_true ha, List.filter_cons, if_neg (by rw [decide_eq_true ha]; decide), if_neg (by rw [Bool.not_true, Bool.and_false, Bool.and_false]; decide)]
              exact List.append_nil _
            · rw [decide_eq_false ha, List.filter_cons, if_pos (by rw [decide_eq_false ha]; rfl), if_pos (by rw [decide_eq_true rfl]; rfl)]
              rfl
          · next hs =>
            split at hp
            · obtain ⟨rfl, rfl⟩ := Prod.mk.inj (Option.some.inj hp)
              rw [decide_eq_false hs, if_neg (by rw [Bool.false_and, Bool.and_false]; decide)]
              exact List.append_nil _
            · cases hp
        · cases hp
      · by_cases h5 : (spl row).length = 5
        · obtain ⟨a, s, c, g, d, hl⟩ := len5 h5
          rw [hl, plainW_5] at hp
          rw [hl]
          show _ = (if (!false && (decide (s = ("=" : Str)) && !decide (a ∈ known))) = true then known ++ [a] else known)
          split at hp
          · split at hp
            · next hs =>
              obtain ⟨rfl, rfl⟩ := Prod.mk.inj (Option.some.inj hp)
              obtain ⟨rfl, _⟩ := hs
              by_cases ha : a ∈ known
              · rw [decide_eq_true ha, List.filter_cons, if_neg (by rw [decide_eq_true ha]; decide), if_neg (by rw [Bool.not_true, Bool.and_false, Bool.and_false]; decide)]
                exact List.append_nil _
              · rw [decide_eq_false ha, List.filter_cons, if_pos (by rw [decide_eq_false ha]; rfl), if_pos (by rw [decide_eq_true rfl]; rfl)]
                rfl
            · cases hp
          · cases hp
        · rw [plainW_none h3 h5] at hp
          cases hp
    · rw [if_neg hr, if_neg hr]
end K27

set_option maxRecDepth 100000
set_option maxHeartbeats 4000000
/-! the plain law: task rows, programs -/
namespace K27
open PySem PySem.Spec PyProof.Rows L2
def okO (o : Option (List Str)) (known : List Str) : Bool := match o with
  | none => false
  | some ws => ws.all fun y => decide (y ∈ known)
theorem test_ok {l known : List Str} {m : Str} (hm : allIn m MKS = true) (hk : Kn known true) : okO (testW l m) known = fitsTest l known m := by
  by_cases h3 : l.length = 3
  · obtain ⟨a, s, b, rfl⟩ := len3 h3
    rw [testW_3]
    have ha := term_eq (x := a) hm hk
    have hb := term_eq (x := b) hm hk
    show _ = (if s = "in" then oneIn a m && readsL b known m else if s = "is" then decide (a ∈ known) && decide (b ∈ known) else decide (s ∈ (["==", "<="] : List Str)) && (readsL a known m && readsL b known m))
    by_cases h1 : s = "in"
    · rw [if_pos h1, if_pos h1, ← hb]
      cases ho : oneIn a m with
      | false => rfl
      | true =>
        cases ht : termB b m true with
        | false => rfl
        | true => rfl
    · rw [if_neg h1, if_neg h1]
      by_cases h2 : s = "is"
      · rw [if_pos h2, if_pos h2]
        by_cases hv : (varB a true && varB b true) = true
        · rw [if_pos hv]
          show (decide (a ∈ known) && (decide (b ∈ known) && true)) = _
          rw [Bool.and_true]
        · rw [if_neg hv]
          symm
          cases h : (decide (a ∈ known) && decide (b ∈ known))
          · rfl
          · obtain ⟨g1, g2⟩ := Bool.and_eq_true_iff.mp h
            exact absurd (by rw [hk a (of_decide_eq_true g1), hk b (of_decide_eq_true g2)]; rfl) hv
      · rw [if_neg h2, if_neg h2, ← ha, ← hb]
        have hvs : ((varsW [a, b] true).all fun y => decide (y ∈ known)) = (((varsW [a] true).all fun y => decide (y ∈ known)) && ((varsW [b] true).all fun y => decide (y ∈ known))) := by
          rw [vars_cons, List.all_append]
        cases hd : decide (s ∈ (["==", "<="] : List Str)) with
        | false => rfl
        | true =>
          cases hta : termB a m true with
          | false => rfl
          | true =>
            cases htb : termB b m true with
            | false =>
              cases ((varsW [a] true).all fun y => decide (y ∈ known)) <;> rfl
            | true =>
              show ((varsW [a, b] true).all fun y => decide (y ∈ known)) = _
              rw [hvs]
              rfl
  · rw [testW_none h3, fitsTest_none h3]
    rfl
theorem take1 {h : Str} {r : List Str} {x : Str} : ((h :: r).take 1 = [x]) ↔ h = x := by
  show [h] = [x] ↔ _
  exact ⟨fun e => (List.cons.inj e).1, fun e => by rw [e]⟩
theorem res_five : ∀ x ∈ fiveW, varB x true = false := by decide +kernel
/-- one row of the task -/
theorem task_ok {p known : List Str} {m : Str} (hm : allIn m MKS = true) (hk : Kn known true) (hp : p ≠ []) : okO (taskW p m) known = fitsRow p true known m := by
  obtain ⟨h, r, rfl⟩ := List.exists_cons_of_ne_nil hp
  rw [fitsRow_cons, Bool.true_and]
  have notk : ∀ (o : Option (List Str × List Str)), okO (match o with | none => none | some (b, r) => some (b ++ r)) known = plainOK o known true := fun o => by
    cases o with
    | none => rfl
    | some br =>
      obtain ⟨b, r⟩ := br
      show ((b ++ r).all fun y => decide (y ∈ known)) = ((b.all fun y => decide (y ∈ known)) && _)
      rw [List.all_append]
  by_cases h5 : h ∈ fiveW
  · rw [if_pos (decide_eq_true h5)]
    unfold fitsTask
    by_cases hi : h = "if"
    · subst hi
      have e1 : ¬ ((("if" : Str) :: r) = [("else" : Str)] ∨ (("if" : Str) :: r) = [("end" : Str)] ∨ (("if" : Str) :: r) = [("stop" : Str)]) := by
        rintro (e | e | e) <;> exact absurd (List.cons.inj e).1 (by decide)
      unfold taskW
      rw [if_neg e1, if_pos (show (("if" : Str) :: r).take 1 = [("if" : Str)] from rfl), if_neg (show ¬ (("if" : Str) :: r).head? = some ("fail" : Str) from fun e => absurd (Option.some.inj e) (by decide)), if_pos (show (("if" : Str) :: r).head? = some ("if" : Str) from rfl)]
      exact test_ok hm hk
    · by_cases hf : h = "fail"
      · subst hf
        have e1 : ¬ ((("fail" : Str) :: r) = [("else" : Str)] ∨ (("fail" : Str) :: r) = [("end" : Str)] ∨ (("fail" : Str) :: r) = [("stop" : Str)]) := by
          rintro (e | e | e) <;> exact absurd (List.cons.inj e).1 (by decide)
        unfold taskW
        rw [if_neg e1, if_neg (show ¬ (("fail" : Str) :: r).take 1 = [("if" : Str)] from fun e => absurd (take1.mp e) (by decide)), if_pos (show (("fail" : Str) :: r).take 1 = [("fail" : Str)] from rfl), if_pos (show (("fail" : Str) :: r).head? = some ("fail" : Str) from rfl)]
        by_cases hc : (("fail" : Str) :: r).length ≠ 2 ∧ ((("fail" : Str) :: r).length ≠ 4 ∨ (("fail" : Str) :: r)[2]? ≠ some ("from" : Str))
        · rw [if_pos hc, if_pos hc]
          rfl
        · rw [if_neg hc, if_neg hc, ← terms_eq hm hk]
          cases ha : (((("fail" : Str) :: r).drop 1).take 1 ++ ((("fail" : Str) :: r).drop 3).take 1).all (fun x => termB x m true) with
          | true => rfl
          | false => rfl
      · have hh : ∀ x : Str, h ≠ x → ¬ (h :: r).head? = some x := fun x hx e => hx (Option.some.inj e)
        rw [if_neg (hh _ hf), if_neg (hh _ hi)]
        by_cases hr : r = []
        · subst hr
          have e1 : [h] = [("else" : Str)] ∨ [h] = [("end" : Str)] ∨ [h] = [("stop" : Str)] := by
            have h5' : h = "if" ∨ h = "else" ∨ h = "end" ∨ h = "stop" ∨ h = "fail" := by
              simpa [fiveW] using h5
            rcases h5' with e | e | e | e | e
            · exact absurd e hi
            · exact .inl (by rw [e])
            · exact .inr (.inl (by rw [e]))
            · exact .inr (.inr (by rw [e]))
            · exact absurd e hf
          unfold taskW
          rw [if_pos e1]
          rfl
        · have e1 : ¬ ((h :: r) = [("else" : Str)] ∨ (h :: r) = [("end" : Str)] ∨ (h :: r) = [("stop" : Str)]) := by
            rintro (e | e | e) <;> exact hr (List.cons.inj e).2
          unfold taskW
          rw [if_neg e1, if_neg (show ¬ (h :: r).take 1 = [("if" : Str)] from fun e => hi (take1.mp e)), if_neg (show ¬ (h :: r).take 1 = [("fail" : Str)] from fun e => hf (take1.mp e))]
          refine (notk (plainW (h :: r) m true)).trans ?_
          rw [plain_fits hm hk]
          have hnv : h ∉ known := fun hin => by
            have := hk h hin
            rw [res_five h h5] at this
            cases this
          have hl : (h :: r).length ≠ 1 := by
            rw [List.length_cons]
            have := List.length_pos_iff.mpr hr
            omega
          rw [decide_eq_false hl]
          have hw : isW h = false := by
            have := res_five h h5
            unfold varB at this
            exact (Bool.or_eq_false_iff.mp this).1
          by_cases h3 : (h :: r).length = 3
          · obtain ⟨a, s, b, e⟩ := len3 h3
            rw [e]
            have e0 : h = a := (List.cons.inj e).1
            subst e0
            show (if s ∈ t_CHANGES then decide (h ∈ known) && readsL b known m else decide (s = "=") && (readsL b known m && (decide (h ∈ known) || (!true && isW h)))) = false
            rw [decide_eq_false hnv]
            split
            · rfl
            · cases decide (s = ("=" : Str)) <;> cases readsL b known m <;> rfl
          · by_cases h5l : (h :: r).length = 5
            · obtain ⟨a, s, b, g, c, e⟩ := len5 h5l
              rw [e]
              have e0 : h = a := (List.cons.inj e).1
              subst e0
              show (decide (s = "=") && (readsL b known m && ((decide (h ∈ known) || (!true && isW h)) && (decide (g ∈ t_SIGNS) && readsL c known m)))) = false
              rw [decide_eq_false hnv]
              cases decide (s = ("=" : Str)) <;> cases readsL b known m <;> rfl
            · rw [fitsPlain_none h3 h5l]
  · rw [if_neg (by rw [decide_eq_false h5]; decide)]
    have hne : ∀ x ∈ fiveW, h ≠ x := fun x hx e => h5 (by rw [e]; exact hx)
    have e1 : ¬ ((h :: r) = [("else" : Str)] ∨ (h :: r) = [("end" : Str)] ∨ (h :: r) = [("stop" : Str)]) := by
      rintro (e | e | e)
      · exact hne "else" (by decide) (List.cons.inj e).1
      · exact hne "end" (by decide) (List.cons.inj e).1
      · exact hne "stop" (by decide) (List.cons.inj e).1
    unfold taskW
    rw [if_neg e1, if_neg (show ¬ (h :: r).take 1 = [("if" : Str)] from fun e => hne "if" (by decide) (take1.mp e)), if_neg (show ¬ (h :: r).take 1 = [("fail" : Str)] from fun e => hne "fail" (by decide) (take1.mp e))]
    exact (notk (plainW (h :: r) m true)).trans (plain_fits hm hk)
/-! ### runs -/
theorem kn_known {p known : List Str} {m : Str} (hk : Kn known false) (hf : fitsRow p false known m = true) : Kn (knownL p false known) false := by
  cases p with
  | nil => cases hf
  | cons h r =>
    rw [fitsRow_cons, Bool.false_and, if_neg Bool.false_ne_true] at hf
    cases r with
    | nil => exact hk
    | cons s r =>
      show Kn (if (!false && (decide (s = ("=" : Str)) && !decide (h ∈ known))) = true then known ++ [h] else known) false
      split
      · next hc =>
        obtain ⟨_, hc⟩ := Bool.and_eq_true_iff.mp hc
        obtain ⟨hs, hn⟩ := Bool.and_eq_true_iff.mp hc
        have hs' := of_decide_eq_true hs
        subst hs'
        have hn' : decide (h ∈ known) = false := nb hn
        have hw : isW h = true := by
          by_cases h3 : (h :: ("=" : Str) :: r).length = 3
          · obtain ⟨a, t, b, e⟩ := len3 h3
            rw [e] at hf
            obtain ⟨e0, e1⟩ := List.cons.inj e
            obtain ⟨e2, _⟩ := List.cons.inj e1
            subst e0
            subst e2
            have hf' : (if ("=" : Str) ∈ t_CHANGES then decide (h ∈ known) && readsL b known m else decide (("=" : Str) = "=") && (readsL b known m && (decide (h ∈ known) || (!false && isW h)))) = true := hf
            rw [if_neg eq_change, hn'] at hf'
            obtain ⟨_, g⟩ := Bool.and_eq_true_iff.mp hf'
            obtain ⟨_, g⟩ := Bool.and_eq_true_iff.mp g
            exact g
          · by_cases h5 : (h :: ("=" : Str) :: r).length = 5
            · obtain ⟨a, t, b, g, c, e⟩ := len5 h5
              rw [e] at hf
              obtain ⟨e0, e1⟩ := List.cons.inj e
              obtain ⟨e2, _⟩ := List.cons.inj e1
              subst e0
              subst e2
              have hf' : (decide (("=" : Str) = "=") && (readsL b known m && ((decide (h ∈ known) || (!false && isW h)) && (decide (g ∈ t_SIGNS) && readsL c known m)))) = true := hf
              rw [hn'] at hf'
              obtain ⟨_, q⟩ := Bool.and_eq_true_iff.mp hf'
              obtain ⟨_, q⟩ := Bool.and_eq_true_iff.mp q
              obtain ⟨q, _⟩ := Bool.and_eq_true_iff.mp q
              exact q
            · rw [fitsPlain_none h3 h5] at hf
              cases hf
        intro x hx
        rcases List.mem_append.mp hx with hx | hx
        · exact hk x hx
        · rw [List.mem_singleton.mp hx]
          unfold varB
          rw [hw]
          rfl
      · exact hk
theorem spl_else : spl "else" = [("else" : Str)] := spl_self (by decide +kernel)
theorem spl_end : spl "end" = [("end" : Str)] := spl_self (by decide +kernel)
def outRun : Option Nat × List Str → Sum Nat (List Str)
  | (some i, _) => .inl i
  | (none, k) => .inr k
theorem plain_run {m : Str} (hm : allIn m MKS = true) : ∀ {rows : List Str} {i : Nat} {k : List Str}, Kn k false → plainRun m rows i k = outRun (firstL false m rows i k []) ∧ (∀ k', plainRun m rows i k = .inr k' → Kn k' false)
  | [], i, k, hk => ⟨rfl, fun k' h => by
    have e : k = k' := Sum.inr.inj h
    rw [← e]
    exact hk⟩
  | row :: r, i, k, hk => by
    rw [plainRun_cons, firstL_cons, step_eq hm hk]
    cases hf : fitsRow (spl row) false k m with
    | false =>
      rw [if_neg Bool.false_ne_true, if_pos rfl]
      exact ⟨rfl, fun k' h => by cases h⟩
    | true =>
      rw [if_pos rfl, if_neg (by decide)]
      have ho : open1 (spl row) false [] = [] := by
        unfold open1
        rw [Bool.false_and, if_neg Bool.false_ne_true]
      have hne : row ≠ "else" := fun e => by
        rw [e, spl_else] at hf
        cases hf
      have hnd : row ≠ "end" := fun e => by
        rw [e, spl_end] at hf
        cases hf
      have hb : badEnd row (open1 (spl row) false []) = false := by
        unfold badEnd
        rw [decide_eq_false (by simp [hne, hnd]), Bool.false_and]
      have h2 : open3 row (open2 row (open1 (spl row) false [])) = [] := by
        rw [ho]
        unfold open3 open2
        rw [if_neg hnd, if_neg hne]
      rw [hb, if_neg Bool.false_ne_true, h2]
      exact plain_run hm (kn_known hk hf)
def mkOp (op : List Bool) : List Str := op.map fun b => if b then ("else" : Str) else ("if" : Str)
theorem mkOp_last {op : List Bool} : (mkOp op).getLast? = (op.getLast?).map fun b => if b then ("else" : Str) else ("if" : Str) := List.getLast?_map
theorem task_run {m : Str} (hm : allIn m MKS = true) {known : List Str} (hk : Kn known true) : ∀ {rows : List Str} {i : Nat} {op : List Bool}, taskRun m known rows i op = (firstL true m rows i known (mkOp op)).1
  | [], i, op => by
    show (if op = [] then none else some i) = (if mkOp op = [] then none else some i)
    cases op with
    | nil => rfl
    | cons b r => rfl
  | row :: r, i, op => by
    have ht := task_ok (p := spl row) hm hk (spl_ne row)
    rw [firstL_cons]
    have hkn : knownL (spl row) true known = known := by
      unfold knownL
      split
      · rw [Bool.not_true, Bool.false_and, if_neg Bool.false_ne_true]
      · rfl
    rw [hkn]
    cases hw : taskW (spl row) m with
    | none =>
      rw [hw] at ht
      have hf : fitsRow (spl row) true known m = false := ht.symm
      rw [taskRun_none hw, hf, if_pos rfl]
    | some ws =>
      rw [hw] at ht
      rw [taskRun_some hw]
      have ht' : (ws.all fun x => decide (x ∈ known)) = fitsRow (spl row) true known m := ht
      rw [ht']
      cases hf : fitsRow (spl row) true known m with
      | false => rw [if_pos rfl, if_pos rfl]
      | true =>
        have htf : ¬ (true = false) := by decide
        rw [if_neg htf, if_neg htf]
        by_cases hi : (spl row).head? = some ("if" : Str)
        · have h1 : open1 (spl row) true (mkOp op) = mkOp (op ++ [false]) := by
            unfold open1
            rw [if_pos (by rw [decide_eq_true hi]; rfl)]
            unfold mkOp
            rw [List.map_append]
            rfl
          have hne : row ≠ "else" := fun e => by
            rw [e, spl_else] at hi
            exact absurd (Option.some.inj hi) (by decide)
          have hnd : row ≠ "end" := fun e => by
            rw [e, spl_end] at hi
            exact absurd (Option.some.inj hi) (by decide)
          rw [if_pos hi, h1]
          have hb : badEnd row (mkOp (op ++ [false])) = false := by
            unfold badEnd
            rw [decide_eq_false (by simp [hne, hnd]), Bool.false_and]
          have h2 : open3 row (open2 row (mkOp (op ++ [false]))) = mkOp (op ++ [false]) := by
            unfold open3 open2
            rw [if_neg hnd, if_neg hne]
          rw [hb, if_neg Bool.false_ne_true, h2]
          exact task_run hm hk
        · have h1 : open1 (spl row) true (mkOp op) = mkOp op := by
            unfold open1
            rw [if_neg (by rw [decide_eq_false hi]; decide)]
          rw [if_neg hi, h1]
          by_cases he : spl row = [("else" : Str)]
          · have hre : row = "else" := spl_one he
            rw [if_pos he]
            have hnd : row ≠ "end" := by
              rw [hre]
              decide
            by_cases hc : op = [] ∨ op.getLast? = some true
            · rw [if_pos hc]
              have hb : badEnd row (mkOp op) = true := by
                unfold badEnd
                rw [mkOp_last, hre]
                rcases hc with hc | hc
                · subst hc
                  rfl
                · rw [hc]
                  show (decide _ && (_ || decide (some ("else" : Str) = some ("else" : Str)))) = true
                  rw [decide_eq_true rfl, Bool.or_true]
                  decide
              rw [hb, if_pos rfl]
            · rw [if_neg hc]
              have hnn : op ≠ [] := fun e => hc (.inl e)
              have hlast : op.getLast? = some false := by
                rw [List.getLast?_eq_some_getLast hnn]
                congr 1
                cases hg : op.getLast hnn with
                | false => rfl
                | true => exact absurd (.inr (by rw [List.getLast?_eq_some_getLast hnn, hg])) hc
              have hb : badEnd row (mkOp op) = false := by
                unfold badEnd
                rw [mkOp_last, hlast, hre]
                have h3 : decide (mkOp op = []) = false := decide_eq_false fun e => hnn (List.map_eq_nil_iff.mp e)
                rw [h3]
                decide
              have h2 : open3 row (open2 row (mkOp op)) = mkOp (op.dropLast ++ [true]) := by
                unfold open3 open2
                rw [if_neg hnd, if_pos hre]
                unfold mkOp
                rw [List.map_append, List.map_dropLast]
                rfl
              rw [hb, if_neg Bool.false_ne_true, h2]
              exact task_run hm hk
          · have hre : row ≠ "else" := fun e => he (by rw [e, spl_else])
            rw [if_neg he]
            by_cases hd : spl row = [("end" : Str)]
            · have hrd : row = "end" := spl_one hd
              rw [if_pos hd]
              by_cases hc : op = []
              · rw [if_pos hc]
                subst hc
                have hb : badEnd row (mkOp []) = true := by
                  rw [hrd]
                  decide
                rw [hb, if_pos rfl]
              · rw [if_neg hc]
                have hb : badEnd row (mkOp op) = false := by
                  unfold badEnd
                  rw [mkOp_last, hrd]
                  have h3 : decide (mkOp op = []) = false := decide_eq_false fun e => hc (List.map_eq_nil_iff.mp e)
                  rw [h3, List.getLast?_eq_some_getLast hc]
                  cases op.getLast hc <;> decide
                have h2 : open3 row (open2 row (mkOp op)) = mkOp op.dropLast := by
                  unfold open3 open2
                  rw [if_pos hrd, if_neg hre]
                  unfold mkOp
                  rw [List.map_dropLast]
                rw [hb, if_neg Bool.false_ne_true, h2]
                exact task_run hm hk
            · have hrd : row ≠ "end" := fun e => hd (by rw [e, spl_end])
              rw [if_neg hd]
              have hb : badEnd row (mkOp op) = false := by
                unfold badEnd
                rw [decide_eq_false (by simp [hre, hrd]), Bool.false_and]
              have h2 : open3 row (open2 row (mkOp op)) = mkOp op := by
                unfold open3 open2
                rw [if_neg hrd, if_neg hre]
              rw [hb, if_neg Bool.false_ne_true, h2]
              exact task_run hm hk
theorem kn_task {k : List Str} (hk : Kn k false) : Kn (k ++ ([("item" : Str), ("out" : Str)])) true := fun x hx => by
  rcases List.mem_append.mp hx with hx | hx
  · have h := hk x hx
    unfold varB at h ⊢
    rw [Bool.false_and, Bool.or_false] at h
    rw [h]
    rfl
  · have : ∀ y ∈ ([("item" : Str), ("out" : Str)]), varB y true = true := by decide +kernel
    exact this x hx
/-- THE PLAIN LAW -/
theorem err_eq {m : Str} {a b c : List Str} : progErr m a b c = lawErr m a b c := by
  unfold progErr lawErr
  rw [marks_eq]
  by_cases hM : marksL m = true
  · rw [if_pos hM, if_pos hM]
    have hm : allIn m MKS = true := by
      rw [← marks_eq] at hM
      unfold marksP at hM
      have h1 := (Bool.and_eq_true_iff.mp (Bool.and_eq_true_iff.mp hM).1).1
      rw [isC_eq] at h1
      exact (Bool.and_eq_true_iff.mp h1).2
    by_cases hA : 6 < a.length
    · rw [parts_many hA, pl_many hA]
    · have h0 : Kn [] false := fun x h => by cases h
      obtain ⟨r1, i1⟩ := plain_run (rows := a) (i := 0) hm h0
      rcases hF : firstL false m a 0 [] [] with ⟨_ | i, k⟩
      · rw [hF] at r1
        have r1' : plainRun m a 0 [] = .inr k := r1
        have hk := i1 k r1'
        rw [parts_r hA r1', pl_r hA hF]
        by_cases hg : 3 < k.length
        · rw [if_pos hg, if_pos hg]
        · rw [if_neg hg, if_neg hg]
          by_cases hB : 6 < b.length
          · rw [caller_many hB, cl_many hB]
          · obtain ⟨r2, i2⟩ := plain_run (rows := b) (i := 0) hm hk
            rcases hF2 : firstL false m b 0 k [] with ⟨_ | i, k2⟩
            · rw [hF2] at r2
              have r2' : plainRun m b 0 k = .inr k2 := r2
              rw [caller_r hB r2', cl_r hB hF2]
              have e : (min 4 (k.length + 2) < k2.length) ↔ (4 < k2.length ∨ k.length + 2 < k2.length) := by omega
              by_cases hn : min 4 (k.length + 2) < k2.length
              · rw [if_pos hn, if_pos (e.mp hn)]
              · rw [if_neg hn, if_neg (fun h => hn (e.mpr h))]
                by_cases hC : 16 < c.length
                · rw [task_many hC, tl_many hC]
                · have r3 := task_run (rows := c) (i := 0) (op := []) hm (kn_task hk)
                  rcases hF3 : firstL true m c 0 (k ++ ([("item" : Str), ("out" : Str)])) [] with ⟨_ | i, k3⟩
                  · have r3' : taskRun m (k ++ ([("item" : Str), ("out" : Str)])) c 0 [] = none := r3.trans (congrArg Prod.fst hF3)
                    rw [task_r hC r3', tl_r hC hF3]
                  · have r3' : taskRun m (k ++ ([("item" : Str), ("out" : Str)])) c 0 [] = some i := r3.trans (congrArg Prod.fst hF3)
                    rw [task_l hC r3', tl_l hC hF3]
            · rw [hF2] at r2
              have r2' : plainRun m b 0 k = .inl i := r2
              rw [caller_l hB r2', cl_l hB hF2]
      · rw [hF] at r1
        have r1' : plainRun m a 0 [] = .inl i := r1
        rw [parts_l hA r1', pl_l hA hF]
  · rw [if_neg hM, if_neg hM]
/-! ### the error is one of the known ones -/
theorem plainRun_ix {m : Str} : ∀ {rows : List Str} {i j : Nat} {k : List Str}, plainRun m rows i k = .inl j → j ≤ i + rows.length
  | [], i, j, k, h => by cases h
  | row :: r, i, j, k, h => by
    rw [plainRun_cons] at h
    rw [List.length_cons]
    cases hs : stepP m row k with
    | none =>
      rw [hs] at h
      have e : i = j := Sum.inl.inj h
      omega
    | some k1 =>
      rw [hs] at h
      have := plainRun_ix h
      omega
theorem taskRun_ix {m : Str} {known : List Str} : ∀ {rows : List Str} {i j : Nat} {op : List Bool}, taskRun m known rows i op = some j → j ≤ i + rows.length
  | [], i, j, op, h => by
    have h' : (if op = [] then none else some i) = some j := h
    split at h'
    · cases h'
    · have e : i = j := Option.some.inj h'
      omega
  | row :: r, i, j, op, h => by
    rw [List.length_cons]
    cases hw : taskW (spl row) m with
    | none =>
      rw [taskRun_none hw] at h
      have e : i = j := Option.some.inj h
      omega
    | some ws =>
      rw [taskRun_some hw] at h
      split at h
      · have e : i = j := Option.some.inj h
        omega
      · split at h
        · have := taskRun_ix h
          omega
        · split at h
          · split at h
            · have e : i = j := Option.some.inj h
              omega
            · have := taskRun_ix h
              omega
          · split at h
            · split at h
              · have e : i = j := Option.some.inj h
                omega
              · have := taskRun_ix h
                omega
            · have := taskRun_ix h
              omega
theorem err_good {m : Str} {a b c : List Str} : goodE (progErr m a b c) := by
  unfold progErr
  split
  · by_cases hA : 6 < a.length
    · rw [parts_many hA]
      show _ ∈ _
      simp
    · cases hP : plainRun m a 0 [] with
      | inl i =>
        rw [parts_l hA hP]
        have := plainRun_ix hP
        exact ⟨by simp, by omega, by omega⟩
      | inr k =>
        rw [parts_r hA hP]
        split
        · show _ ∈ _
          simp
        · by_cases hB : 6 < b.length
          · rw [caller_many hB]
            show _ ∈ _
            simp
          · cases hP2 : plainRun m b 0 k with
            | inl i =>
              rw [caller_l hB hP2]
              have := plainRun_ix hP2
              exact ⟨by simp, by omega, by omega⟩
            | inr k2 =>
              rw [caller_r hB hP2]
              split
              · show _ ∈ _
                simp
              · by_cases hC : 16 < c.length
                · rw [task_many hC]
                  show _ ∈ _
                  simp
                · cases hT : taskRun m (k ++ ([("item" : Str), ("out" : Str)])) c 0 [] with
                  | none =>
                    rw [task_r hC hT]
                    trivial
                  | some i =>
                    rw [task_l hC hT]
                    have := taskRun_ix hT
                    exact ⟨by simp, by omega, by omega⟩
  · exact ⟨by simp, by omega, by omega⟩
end K27

set_option maxRecDepth 100000
set_option maxHeartbeats 4000000
/-! drawing: the stream changes, all else stays -/
namespace K27
open PySem PySem.Spec PyProof.Rows L2 Evl
/-- the stream's own shape -/
def isS : HO → Bool
  | .lst [.int _, .int _, .int _, .ref _] => true
  | _ => false
/-- a list that is no list of numbers -/
def own : List V → Bool
  | .int _ :: _ => false
  | _ => true
structure Ek (H H' : Hp) : Prop where
  k : ∀ p o, isS o = false → H p = some o → H' p = some o
  f : ∀ p, H' p = none → H p = none
theorem Ek.refl (H : Hp) : Ek H H := ⟨fun _ _ _ h => h, fun _ h => h⟩
theorem Ek.trans {H H1 H2 : Hp} (a : Ek H H1) (b : Ek H1 H2) : Ek H H2 := ⟨fun p o n h => b.k p o n (a.k p o n h), fun p h => a.f p (b.f p h)⟩
theorem Ek.of {H H' : Hp} (e : Ex H H') : Ek H H' := ⟨fun p o _ h => e p o h, fun p h => fresh_back e h⟩
theorem Ek.mut {H H' : Hp} {p : Addr} {o : HO} (e : Ek H H') (h : H p = none) : Ek H (upd H' p o) := ⟨fun a u n ha => by
  rw [upd_ne (ne_of_none ha h)]
  exact e.k a u n ha, fun a ha => by
  by_cases hp : a = p
  · rw [hp]
    exact h
  · rw [upd_ne hp] at ha
    exact e.f a ha⟩
theorem Ek.stream {H : Hp} {s : Addr} {o u : HO} (h : H s = some o) (hs : isS o = true) : Ek H (upd H s u) := ⟨fun a v n ha => by
  have hne : a ≠ s := fun e => by
    rw [e, h] at ha
    rw [Option.some.inj ha] at hs
    rw [hs] at n
    cases n
  rw [upd_ne hne]
  exact ha, fun a ha => by
  by_cases hp : a = s
  · rw [hp, upd_same] at ha
    cases ha
  · rw [upd_ne hp] at ha
    exact ha⟩
theorem isS_own {xs : List V} (h : own xs = true) : isS (.lst xs) = false := by
  match xs with
  | [] => rfl
  | .int _ :: _ => cases h
  | .non :: _ => rfl
  | .bl _ :: _ => rfl
  | .str _ :: _ => rfl
  | .flt _ :: _ => rfl
  | .byt _ :: _ => rfl
  | .ty _ :: _ => rfl
  | .ref _ :: _ => rfl
theorem own_strs {l : List Str} : own (l.map V.str) = true := by
  cases l <;> rfl
theorem own_bools {l : List Bool} : own (l.map V.bl) = true := by
  cases l <;> rfl
theorem isS_ints {l : List Int} : isS (.lst (l.map V.int)) = false := by
  match l with
  | [] => rfl
  | [_] => rfl
  | [_, _] => rfl
  | [_, _, _] => rfl
  | [_, _, _, _] => rfl
  | _ :: _ :: _ :: _ :: _ :: _ => rfl
theorem Ek.lst {H H' : Hp} {p : Addr} {xs : List V} (e : Ek H H') (h : H p = some (.lst xs)) (ho : own xs = true) : H' p = some (.lst xs) := e.k p _ (isS_own ho) h
theorem Ek.strs {H H' : Hp} {p : Addr} {l : List Str} (e : Ek H H') (h : H p = some (.lst (l.map V.str))) : H' p = some (.lst (l.map V.str)) := e.lst h own_strs
theorem Ek.tup {H H' : Hp} {p : Addr} {xs : List V} (e : Ek H H') (h : H p = some (.tup xs)) : H' p = some (.tup xs) := e.k p _ rfl h
/-- the stream at s, n draws still free -/
def Strm (s : Addr) (n : Nat) (H : Hp) : Prop := ∃ (a b c : Int) (cl : Addr) (cs : List Int), H s = some (.lst [.int a, .int b, .int c, .ref cl]) ∧ H cl = some (.lst (cs.map V.int)) ∧ cs ≠ [] ∧ cs.length ≤ 100 ∧ 0 ≤ c ∧ c + (n : Int) ≤ 1000000000000
theorem Strm.mono {s : Addr} {n m : Nat} {H : Hp} (h : Strm s m H) (e : n ≤ m) : Strm s n H := by
  obtain ⟨a, b, c, cl, cs, h1, h2, h3, h4, h5, h6⟩ := h
  exact ⟨a, b, c, cl, cs, h1, h2, h3, h4, h5, by omega⟩
theorem Strm.ex {s : Addr} {n : Nat} {H H' : Hp} (h : Strm s n H) (e : Ex H H') : Strm s n H' := by
  obtain ⟨a, b, c, cl, cs, h1, h2, h3⟩ := h
  exact ⟨a, b, c, cl, cs, e _ _ h1, e _ _ h2, h3⟩
theorem Strm.mut {s p : Addr} {n : Nat} {H : Hp} {xs : List V} {o : HO} (h : Strm s n H) (hp : H p = some (.lst xs)) (ho : own xs = true) : Strm s n (upd H p o) := by
  obtain ⟨a, b, c, cl, cs, h1, h2, h3, h4⟩ := h
  have n1 : s ≠ p := fun e => by
    rw [← e, h1] at hp
    cases hp
    cases ho
  have n2 : cl ≠ p := fun e => by
    rw [← e, h2] at hp
    obtain ⟨x, r, e2⟩ := List.exists_cons_of_ne_nil h3
    rw [e2] at hp
    cases hp
    cases ho
  exact ⟨a, b, c, cl, cs, by rw [upd_ne n1]; exact h1, by rw [upd_ne n2]; exact h2, h3, h4⟩
/-! ### what is drawn: a text, a number, a list of texts -/
def TB (a b : Nat) : V → Hp → Prop := fun v _ => ∃ z : Str, v = .str z ∧ a ≤ z.length ∧ Tk b z
def IB (lo hi : Int) : V → Hp → Prop := fun v _ => ∃ i : Int, v = .int i ∧ lo ≤ i ∧ i < hi
def Wd (a b : Nat) (x : Str) : Prop := a ≤ x.length ∧ Tk b x
def LB (lo hi : Nat) (W : Str → Prop) : V → Hp → Prop := fun v H => ∃ (p : Addr) (l : List Str), v = .ref p ∧ H p = some (.lst (l.map V.str)) ∧ lo ≤ l.length ∧ l.length ≤ hi ∧ ∀ x ∈ l, W x
def PMono (P : V → Hp → Prop) : Prop := ∀ v H H', Ek H H' → P v H → P v H'
theorem TB.mono {a b : Nat} : PMono (TB a b) := fun _ _ _ _ h => h
theorem IB.mono {a b : Int} : PMono (IB a b) := fun _ _ _ _ h => h
theorem LB.mono {a b : Nat} {W : Str → Prop} : PMono (LB a b W) := fun _ _ _ e h => by
  obtain ⟨p, l, h1, h2, h3⟩ := h
  exact ⟨p, l, h1, e.strs h2, h3⟩
def EvK (te : TE) (σ : L2.St) (H : Hp) (v : V) : Prop := ∀ H1, Ek H H1 → Ev te σ H1 v
def Dr (s : Addr) (te : TE) (σ : L2.St) (H : Hp) (N : Nat) (P : V → Hp → Prop) : Prop := ∀ n H1, Ek H H1 → Strm s (n + N) H1 → ∀ Q : VK, (∀ v H2, Ek H1 H2 → Strm s n H2 → P v H2 → Q v H2) → te σ H1 Q
def DrA (s : Addr) (ta : TA) (σ : L2.St) (H : Hp) (N : Nat) (P : List V → Hp → Prop) : Prop := ∀ n H1, Ek H H1 → Strm s (n + N) H1 → ∀ Q : List V → Hp → Prop, (∀ vs H2, Ek H1 H2 → Strm s n H2 → P vs H2 → Q vs H2) → ta σ H1 Q
def DrT (s : Addr) (tt : TT) (σ : L2.St) (H : Hp) (N : Nat) (B : Bool → Prop) : Prop := ∀ n H1, Ek H H1 → Strm s (n + N) H1 → ∀ Q : Bool → Hp → Prop, (∀ b H2, Ek H1 H2 → Strm s n H2 → B b → Q b H2) → tt σ H1 Q
def DGo (s : Addr) (t : TS) (D : Ends) (σ : L2.St) (H : Hp) (m : Nat) : Prop := ∀ H1, Ek H H1 → Strm s m H1 → t D σ H1
section
variable {K : PySem.W.Frag} {s : Addr} {σ : L2.St} {H H' : Hp} {ta tr : TA} {te tf tg : TE} {tt tu' : TT} {x y z v : V} {N M m n : Nat} {P P1 P2 : V → Hp → Prop} {PA : List V → Hp → Prop} {B B1 B2 : Bool → Prop}
theorem evk_var {i : Nat} (h : σ[i]? = some (some v)) : EvK (tVar i) σ H v := fun _ _ => ev_var h
theorem evk_c : EvK (tC v) σ H v := fun _ _ => ev_c
theorem Dr.is (h : Dr s te σ H N P) (e : N = M) : Dr s te σ H M P := by
  subst e
  exact h
theorem Dr.le (h : Dr s te σ H N P) (e : N ≤ M) : Dr s te σ H M P := fun n H1 ek hs Q q => h n H1 ek (hs.mono (by omega)) Q q
theorem Dr.imp (h : Dr s te σ H N P) (hp : ∀ v H, P v H → P1 v H) : Dr s te σ H N P1 := fun n H1 ek hs Q q => h n H1 ek hs Q fun v H2 e2 s2 p => q v H2 e2 s2 (hp v H2 p)
theorem dr_ev (h : EvK te σ H v) (hp : ∀ H1, Ek H H1 → P v H1) : Dr s te σ H 0 P := fun n H1 ek hs Q q => h H1 ek H1 (Ex.refl H1) Q fun H2 e2 => q v H2 (Ek.of e2) (hs.ex e2) (hp H2 (ek.trans (Ek.of e2)))
/-- a new list, made of what is known -/
theorem dr_el {xs : List V} (h : ∀ H1, Ek H H1 → EvL te σ H1 xs) (hp : ∀ p H1, Ek H H1 → H1 p = some (.lst xs) → P (.ref p) H1) : Dr s te σ H 0 P := fun n H1 ek hs Q q => h H1 ek H1 (Ex.refl H1) Q fun p H2 _ e2 h2 => q _ H2 (Ek.of e2) (hs.ex e2) (hp p H2 (ek.trans (Ek.of e2)) h2)
theorem dra_nil : DrA s tNil σ H 0 (fun vs _ => vs = []) := fun n H1 ek hs Q q => q [] H1 (Ek.refl H1) hs rfl
theorem dra_v (h : EvK te σ H v) (hr : DrA s tr σ H N PA) : DrA s (tCons te tr) σ H N (fun vs H2 => ∃ r, vs = v :: r ∧ PA r H2) := fun n H1 ek hs Q q =>
  h H1 ek H1 (Ex.refl H1) _ fun H2 e2 => hr n H2 (ek.trans (Ek.of e2)) (hs.ex e2) _ fun vs H3 e3 s3 p => q _ H3 ((Ek.of e2).trans e3) s3 ⟨vs, rfl, p⟩
theorem dra_d (h : Dr s te σ H N P) (hm : PMono P) (hr : ∀ v H1, Ek H H1 → P v H1 → DrA s tr σ H1 M PA) : DrA s (tCons te tr) σ H (N + M) (fun vs H2 => ∃ v r, vs = v :: r ∧ P v H2 ∧ PA r H2) := fun n H1 ek hs Q q =>
  h (n + M) H1 ek (hs.mono (by omega)) _ fun v H2 e2 s2 p => hr v H2 (ek.trans e2) p n H2 (Ek.refl H2) s2 _ fun vs H3 e3 s3 pa => q _ H3 (e2.trans e3) s3 ⟨v, vs, rfl, hm v H2 H3 e3 p, pa⟩
theorem dr_call {sp : Sp} {dvs : List V} {E : XK} (h : DrA s ta σ H N PA) (hs : ∀ vs H1 n, Ek H H1 → PA vs H1 → Strm s (n + M) H1 → ∀ (Q : VK) (E : XK), (∀ v H2, Ek H1 H2 → Strm s n H2 → P v H2 → Q v H2) → sp (vs ++ dvs) H1 Q E) : Dr s (tCall sp dvs E ta) σ H (N + M) P := fun n H1 ek st Q q =>
  h (n + M) H1 ek (st.mono (by omega)) _ fun vs H2 e2 s2 p => hs vs H2 n (ek.trans e2) p s2 Q E fun v H3 e3 s3 pv => q v H3 (e2.trans e3) s3 pv
theorem dr_op {r : R2} (h1 : Dr s te σ H N P1) (hm : PMono P1) (h2 : ∀ v H1, Ek H H1 → P1 v H1 → Dr s tf σ H1 M P2) (hr : ∀ u v H1, Ek H H1 → P1 u H1 → P2 v H1 → ∃ w, RV r u v H1 w ∧ ∀ H2, Ek H1 H2 → P w H2) : Dr s (tOp r te tf) σ H (N + M) P := fun n H1 ek st Q q =>
  h1 (n + M) H1 ek (st.mono (by omega)) _ fun u H2 e2 s2 p => h2 u H2 (ek.trans e2) p n H2 (Ek.refl H2) s2 _ fun v H3 e3 s3 p3 => by
    obtain ⟨w, hw, hp⟩ := hr u v H3 ((ek.trans e2).trans e3) (hm u H2 H3 e3 p) p3
    exact hw H3 (Ex.refl H3) Q fun H4 e4 => q w H4 ((e2.trans e3).trans (Ek.of e4)) (s3.ex e4) (hp H4 (Ek.of e4))
theorem tk_app {a b : Nat} {x y : Str} (hx : Tk a x) (hy : Tk b y) : Tk (a + b) (x ++ y) := ⟨by
  rw [TL.len_tl, TL.tl_append, List.length_append, ← TL.len_tl, ← TL.len_tl]
  have := hx.1
  have := hy.1
  omega, fun c hc => by
  have hc' : c ∈ TL.tl (x ++ y) := hc
  rw [TL.tl_append] at hc'
  exact (List.mem_append.mp hc').elim (hx.2 c) (hy.2 c)⟩
theorem len_app {x y : Str} : (x ++ y).length = x.length + y.length := by
  rw [TL.len_tl, TL.tl_append, List.length_append, ← TL.len_tl, ← TL.len_tl]
/-- texts, one behind the other -/
theorem dr_add {a b c d : Nat} (h1 : Dr s te σ H N (TB a b)) (h2 : Dr s tf σ H M (TB c d)) (hz : b + d ≤ 100000) : Dr s (tOp rAddT te tf) σ H (N + M) (TB (a + c) (b + d)) :=
  dr_op h1 TB.mono (fun _ H1 e1 _ n H2 e2 => h2 n H2 (e1.trans e2)) fun u v H1 _ ⟨x, hu, hx, tx⟩ ⟨y, hv, hy, ty⟩ => ⟨.str (x ++ y), fun H2 e2 Q q => ⟨x, y, hu, hv, sz_of (by have := tx.1; have := ty.1; omega), q H2 (Ex.refl H2)⟩, fun _ _ => ⟨x ++ y, rfl, by rw [len_app]; omega, tk_app tx ty⟩⟩
theorem dr_s {i : Nat} {x : Str} {a b : Nat} (h : σ[i]? = some (some (.str x))) (hx : Wd a b x) : Dr s (tVar i) σ H 0 (TB a b) := dr_ev (evk_var h) fun _ _ => ⟨x, rfl, hx⟩
theorem dr_cs {x : Str} {a b : Nat} (hx : Wd a b x) : Dr s (tC (.str x)) σ H 0 (TB a b) := dr_ev evk_c fun _ _ => ⟨x, rfl, hx⟩
theorem TB.le {a b c d : Nat} (h1 : c ≤ a) (h2 : b ≤ d) : ∀ v H, TB a b v H → TB c d v H := fun v H ⟨z, e, h, t⟩ => ⟨z, e, Nat.le_trans h1 h, t.mono h2⟩
/-! tests -/
theorem DrT.imp (h : DrT s tt σ H N B) (hb : ∀ b, B b → B1 b) : DrT s tt σ H N B1 := fun n H1 ek hs Q q => h n H1 ek hs Q fun b H2 e2 s2 p => q b H2 e2 s2 (hb b p)
theorem drt_ev {b : Bool} (h : ∀ H1, Ek H H1 → EvT tt σ H1 b) : DrT s tt σ H 0 (· = b) := fun n H1 ek hs Q q => h H1 ek H1 (Ex.refl H1) Q fun H2 e2 => q b H2 (Ek.of e2) (hs.ex e2) rfl
theorem drt_test (h : Dr s te σ H N P) (hb : ∀ v H, P v H → ∃ b, v = .bl b ∧ B b) : DrT s (tTest te) σ H N B := fun n H1 ek hs Q q => h n H1 ek hs _ fun v H2 e2 s2 p => by
  obtain ⟨b, rfl, hb⟩ := hb v H2 p
  exact ⟨b, rfl, q b H2 e2 s2 hb⟩
theorem drt_and (h1 : DrT s tt σ H N B1) (h2 : B1 true → DrT s tu' σ H M B2) : DrT s (tAnd tt tu') σ H (N + M) (fun b => b = true → B1 true ∧ B2 true) := fun n H1 ek hs Q q => h1 (n + M) H1 ek (hs.mono (by omega)) _ fun b H2 e2 s2 p => by
  cases b with
  | true => exact h2 p n H2 (ek.trans e2) s2 Q fun c H3 e3 s3 p3 => q c H3 (e2.trans e3) s3 fun hc => ⟨p, by rw [← hc]; exact p3⟩
  | false => exact q false H2 e2 (s2.mono (by omega)) fun h => by cases h
theorem drt_or (h1 : DrT s tt σ H N B1) (h2 : B1 false → DrT s tu' σ H M B2) : DrT s (tOr tt tu') σ H (N + M) (fun b => b = true → B1 true ∨ B2 true) := fun n H1 ek hs Q q => h1 (n + M) H1 ek (hs.mono (by omega)) _ fun b H2 e2 s2 p => by
  cases b with
  | true => exact q true H2 e2 (s2.mono (by omega)) fun _ => .inl p
  | false => exact h2 p n H2 (ek.trans e2) s2 Q fun c H3 e3 s3 p3 => q c H3 (e2.trans e3) s3 fun hc => .inr (by rw [← hc]; exact p3)
/-! statements -/
variable {D : Ends} {tz tu tw : TS}
theorem dgo_run (h : DGo s tu D σ H m) (hs : Strm s m H) : tu D σ H := h H (Ek.refl H) hs
theorem DGo.mono (h : DGo s tu D σ H m) (e : Ek H H') : DGo s tu D σ H' m := fun H1 e1 => h H1 (e.trans e1)
theorem d_asg {i : Nat} (h : Dr s te σ H N P) (hN : N ≤ m) (k : ∀ v H1, Ek H H1 → P v H1 → DGo s tz D (σ.set i (some v)) H1 (m - N)) : DGo s (tSeq (tAsg te (gName i)) tz) D σ H m := fun H1 ek hs =>
  h (m - N) H1 ek (hs.mono (by omega)) _ fun v H2 e2 s2 p => k v H2 (ek.trans e2) p H2 (Ek.refl H2) s2
theorem dl_asg {i : Nat} (h : Dr s te σ H N P) (hN : N ≤ m) (k : ∀ v H1, Ek H H1 → Strm s (m - N) H1 → P v H1 → D.nx (σ.set i (some v)) H1) : DGo s (tAsg te (gName i)) D σ H m := fun H1 ek hs =>
  h (m - N) H1 ek (hs.mono (by omega)) _ fun v H2 e2 s2 p => k v H2 (ek.trans e2) s2 p
theorem d_ret (h : Dr s te σ H N P) (hN : N ≤ m) (k : ∀ v H1, Ek H H1 → Strm s (m - N) H1 → P v H1 → D.rt v H1) : DGo s (tRet te) D σ H m := fun H1 ek hs =>
  h (m - N) H1 ek (hs.mono (by omega)) _ fun v H2 e2 s2 p => k v H2 (ek.trans e2) s2 p
theorem d_if (h : DrT s tt σ H N B) (hN : N ≤ m) (h1 : B true → DGo s tu D σ H (m - N)) (h2 : B false → DGo s tw D σ H (m - N)) : DGo s (tIfS tt tu tw) D σ H m := fun H1 ek hs =>
  h (m - N) H1 ek (hs.mono (by omega)) _ fun b H2 e2 s2 p => by
    cases b with
    | true => exact h1 p H2 (ek.trans e2) s2
    | false => exact h2 p H2 (ek.trans e2) s2
theorem d_when (h : DrT s tt σ H N B) (hN : N ≤ m) (h1 : B true → DGo s tu { D with nx := tz D } σ H (m - N)) (h2 : B false → DGo s tz D σ H (m - N)) : DGo s (tSeq (tIfS tt tu tNext) tz) D σ H m := fun H1 ek hs =>
  d_if (D := { D with nx := tz D }) (tw := tNext) h hN h1 (fun p H2 e2 s2 => h2 p H2 e2 s2) H1 ek hs
theorem d_nx (k : ∀ H1, Ek H H1 → Strm s m H1 → D.nx σ H1) : DGo s tNext D σ H m := k
theorem d_retIf (h : DrT s tt σ H N B) (hN : N ≤ m) (h1 : B true → DGo s (tRet te) D σ H (m - N)) (h2 : B false → DGo s (tRet tf) D σ H (m - N)) : DGo s (tRet (tIf tt te tf)) D σ H m := fun H1 ek hs =>
  h (m - N) H1 ek (hs.mono (by omega)) _ fun b H2 e2 s2 p => by
    cases b with
    | true => exact h1 p H2 (ek.trans e2) s2
    | false => exact h2 p H2 (ek.trans e2) s2
/-- l.append(e) -/
theorem dl_app {l : Addr} {xs : List V} {tl : TE} (hl : H l = some (.lst xs)) (ho : own xs = true) (hv : EvK tl σ H (.ref l)) (h : Dr s te σ H N P) (hN : N ≤ m) (hz : xs.length < 100000) (k : ∀ v H1, Ek H H1 → Strm s (m - N) H1 → P v H1 → H1 l = some (.lst xs) → D.nx σ (upd H1 l (.lst (xs ++ [v])))) :
    DGo s (tDrop (tBM K "list" rAppend tl (tCons te tNil))) D σ H m := fun H1 ek hs => hv H1 ek H1 (Ex.refl H1) _ fun H2 e2 => ⟨.inl ⟨rfl, xs, sq_of ((ek.trans (Ek.of e2)).lst hl ho)⟩, h (m - N) H2 (ek.trans (Ek.of e2)) ((hs.ex e2).mono (by omega)) _ fun v H3 e3 s3 p =>
  have h3 : H3 l = some (.lst xs) := ((ek.trans (Ek.of e2)).trans e3).lst hl ho
  ⟨l, xs, v, rfl, rfl, h3, sz_lt hz, k v H3 ((ek.trans (Ek.of e2)).trans e3) s3 p h3⟩⟩
theorem d_app {l : Addr} {xs : List V} {tl : TE} (hl : H l = some (.lst xs)) (ho : own xs = true) (hv : EvK tl σ H (.ref l)) (h : Dr s te σ H N P) (hN : N ≤ m) (hz : xs.length < 100000) (k : ∀ v H1, Ek H H1 → Strm s (m - N) H1 → P v H1 → H1 l = some (.lst xs) → DGo s tz D σ (upd H1 l (.lst (xs ++ [v]))) (m - N)) :
    DGo s (tSeq (tDrop (tBM K "list" rAppend tl (tCons te tNil))) tz) D σ H m := fun H1 ek hs => dl_app (D := { D with nx := tz D }) hl ho hv h hN hz (fun v H2 e2 s2 p h2 => k v H2 e2 s2 p h2 _ (Ek.refl _) (s2.mut h2 ho)) H1 ek hs
/-- two new lists at once -/
theorem d_parLL {i j : Nat} {tb tl : TE} {xs ys : List V} (h1 : ∀ H1, Ek H H1 → EvL tl σ H1 xs) (h2 : ∀ H1, Ek H H1 → EvL tb σ H1 ys) (k : ∀ p q H1, H p = none → H q = none → p ≠ q → Ek H H1 → H1 p = some (.lst xs) → H1 q = some (.lst ys) → DGo s tz D ((σ.set i (some (.ref p))).set j (some (.ref q))) H1 m) :
    DGo s (tSeq (tPar i j (tCons tl (tCons tb tNil))) tz) D σ H m := fun H1 ek hs => h1 H1 ek H1 (Ex.refl H1) _ fun p H2 hp e2 g1 => h2 H2 (ek.trans (Ek.of e2)) H2 (Ex.refl H2) _ fun q H3 hq e3 g2 =>
  ⟨.ref p, .ref q, rfl, k p q H3 (ek.f p hp) (ek.f q (fresh_back e2 hq)) (ne_of_none g1 hq) ((ek.trans (Ek.of e2)).trans (Ek.of e3)) (e3 _ _ g1) g2 H3 (Ek.refl H3) (hs.ex (e2.trans e3))⟩
theorem d_asgL {i : Nat} {xs : List V} (h : ∀ H1, Ek H H1 → EvL te σ H1 xs) (k : ∀ p H1, H p = none → Ek H H1 → H1 p = some (.lst xs) → DGo s tz D (σ.set i (some (.ref p))) H1 m) : DGo s (tSeq (tAsg te (gName i)) tz) D σ H m := fun H1 ek hs =>
  h H1 ek H1 (Ex.refl H1) _ fun p H2 hp e2 g1 => k p H2 (ek.f p hp) (ek.trans (Ek.of e2)) g1 H2 (Ek.refl H2) (hs.ex e2)
theorem d_asgV {i : Nat} (h : EvK te σ H v) (k : DGo s tz D (σ.set i (some v)) H m) : DGo s (tSeq (tAsg te (gName i)) tz) D σ H m := fun H1 ek hs => h H1 ek H1 (Ex.refl H1) _ fun H2 e2 => k H2 (ek.trans (Ek.of e2)) (hs.ex e2)
theorem dgo_of (h : Go tu D σ H) (he : ∀ H1, Ek H H1 → Go tu D σ H1) : DGo s tu D σ H m := fun H1 ek _ => he H1 ek H1 (Ex.refl H1)
/-- a loop over a text's signs -/
theorem d_forS {z : Str} {j : Nat} (h : EvK te σ H (.str z)) (Pv : Nat → L2.St → Hp → Prop) (h0 : ∀ H1, Ek H H1 → Strm s m H1 → Pv 0 σ H1)
    (hs : ∀ i c σ' H', z.cps.toList[i]? = some c → Pv i σ' H' → tu { D with nx := Pv (i + 1), ct := Pv (i + 1), bk := tz D } (σ'.set j (some (.str ⟨#[c]⟩))) H') (hd : ∀ σ' H', Pv z.cps.toList.length σ' H' → tz D σ' H') : DGo s (tSeq (tFor (iStr te) (gName j) tu) tz) D σ H m := fun H1 ek st =>
  h H1 ek H1 (Ex.refl H1) _ fun H2 e2 => ⟨z, rfl, for_it (D := { D with nx := tz D }) walk_str Pv (h0 H2 (ek.trans (Ek.of e2)) (st.ex e2)) (fun _ _ _ _ _ => trivial) (fun i x σ' H3 H4 _ p y => by
    obtain ⟨rfl, c, hc, rfl⟩ := y
    exact hs i c σ' H4 (str_at hc) p) fun σ' H' p => hd σ' H' (by rw [Array.length_toList]; exact p)⟩
/-- for .. in range(e) -/
theorem d_forR {j : Nat} (h : DrA s ta σ H N PA) (hN : N ≤ m) (R : Int → Prop) (hPA : ∀ vs H1, PA vs H1 → ∃ k : Int, vs = [.int k] ∧ 0 ≤ k ∧ k ≤ 1000 ∧ R k) (Pv : Nat → L2.St → Hp → Prop) (h0 : ∀ H1, Ek H H1 → Strm s (m - N) H1 → Pv 0 σ H1)
    (hs : ∀ (k : Int) (i : Nat) σ' H', R k → (i : Int) < k → Pv i σ' H' → tu { D with nx := Pv (i + 1), ct := Pv (i + 1), bk := tz D } (σ'.set j (some (.int (i : Int)))) H') (hd : ∀ (k : Int) σ' H', R k → Pv k.toNat σ' H' → tz D σ' H') :
    DGo s (tSeq (tFor (iRng1 ta) (gName j) tu) tz) D σ H m := fun H1 ek st => h (m - N) H1 ek (st.mono (by omega)) _ fun vs H2 e2 s2 p => by
  obtain ⟨k, rfl, k0, k1, hR⟩ := hPA vs H2 p
  exact ⟨k, rfl, by omega, by omega, for_range (D := { D with nx := tz D }) (lo := 0) (n := k.toNat) Pv (h0 H2 (ek.trans e2) s2) (fun i σ' H' hi p => by
    have e0 : (0 : Int) + (i : Int) = (i : Int) := Int.zero_add _
    show tu { D with nx := Pv (i + 1), ct := Pv (i + 1), bk := tz D } (σ'.set j (some (.int ((0 : Int) + (i : Int))))) H'
    rw [e0]
    exact hs k i σ' H' hR (by omega) p) fun σ' H' p => hd k σ' H' hR p⟩
end
end K27

set_option maxRecDepth 100000
set_option maxHeartbeats 4000000
/-! draw, of, pick, marks, contents -/
namespace K27
open PySem PySem.Spec PyProof.Rows L2 Evl
section
variable {K : PySem.W.Frag} {σ : L2.St} {H H' : Hp} {ta tb tc te tx to ti : TE} {D : Ends} {tz : TS} {v w : V}
theorem rv_modI {i j : Int} (h : 0 < j) : RV rModI (.int i) (.int j) H (.int (i % j)) := fun H1 _ _ q => ⟨i, j, rfl, rfl, h, q H1 (Ex.refl H1)⟩
theorem rv_divI {i j : Int} (h : 0 < j ∧ j < 1073741824) : RV rDivI (.int i) (.int j) H (.int (i / j)) := fun H1 _ _ q => ⟨i, j, rfl, rfl, h, q H1 (Ex.refl H1)⟩
theorem rv_mulI {i j : Int} (h : CMul i j) : RV rMulI (.int i) (.int j) H (.int (i * j)) := fun H1 _ _ q => ⟨i, j, rfl, rfl, h, q H1 (Ex.refl H1)⟩
theorem rv_powI {i j : Int} (h : CPow i j) : RV rPowI (.int i) (.int j) H (.int (i ^ j.toNat)) := fun H1 _ _ q => ⟨i, j, rfl, rfl, h, q H1 (Ex.refl H1)⟩
theorem ev_int {i : Int} (h : Ev te σ H (.int i)) : Ev (tCB rInt1 (tCons te tNil)) σ H (.int i) := fun H1 e Q q => h H1 e _ fun H2 e2 => .inl ⟨i, rfl, q H2 e2⟩
theorem ev_intB {b : Bool} (h : Ev te σ H (.bl b)) : Ev (tCB rInt1 (tCons te tNil)) σ H (.int (if b then 1 else 0)) := fun H1 e Q q => h H1 e _ fun H2 e2 => .inr ⟨b, rfl, q H2 e2⟩
theorem n_par {i j : Nat} (h1 : Ev ta σ H v) (h2 : Ev tb σ H w) (k : Go tz D ((σ.set i (some v)).set j (some w)) H) : Go (tSeq (tPar i j (tCons ta (tCons tb tNil))) tz) D σ H := fun H1 e => h1 H1 e _ fun H2 e2 => h2 H2 (e.trans e2) _ fun H3 e3 => ⟨v, w, rfl, k H3 ((e.trans e2).trans e3)⟩
theorem n_set {l : Addr} {xs : List V} {j : Nat} (hl : H l = some (.lst xs)) (h : Ev te σ H v) (ho : Ev to σ H (.ref l)) (hi : Ev ti σ H (.int (j : Int))) (hj : j < xs.length) (k : ∀ H1, Ex H H1 → H1 l = some (.lst xs) → Go tz D σ (upd H1 l (.lst (xs.set j v)))) :
    Go (tSeq (tAsg te (gSub to ti rSetL)) tz) D σ H := fun H1 e => h H1 e _ fun H2 e2 => ho H2 (e.trans e2) _ fun H3 e3 => hi H3 ((e.trans e2).trans e3) _ fun H4 e4 =>
  ⟨l, xs, (j : Int), j, rfl, rfl, (((e.trans e2).trans e3).trans e4) l _ hl, ixN_nat hj, k H4 (((e.trans e2).trans e3).trans e4) ((((e.trans e2).trans e3).trans e4) l _ hl) _ (Ex.refl _)⟩
end
section
variable {P : Program} {w : World} {K : PySem.W.Frag} {mg : PySem.Str → Option Value} {base : Heap}
def spDraw : Sp := fun vs H Q _ => ∃ (s : Addr) (k : Int) (n : Nat), vs = [.ref s, .int k] ∧ Strm s (n + 1) H ∧ (0 < k ∧ k < 1073741824) ∧ ∀ v H2, Ek H H2 → Strm s n H2 → IB 0 k v H2 → Q v H2
theorem k_l_draw (T : Tx K mg) : Kp P w K mg base CX0 "_law_draw" 1 p_l_draw spDraw :=
  Kp.of T.F_l_draw T.g_l_draw sc_l_draw (fun _ _ _ _ _ _ us hl => match us, hl with | [_, _], _ => rfl) (fun vs H Q E h => by obtain ⟨s, k, n, rfl, _⟩ := h; rfl) fun cdv A outer s H vs Q E hr h => ⟨_, (der_l_draw T hr).h.nox, by
    obtain ⟨st, many, n, rfl, ⟨a, b, c, cl, cs, hs, hcl, hcs, hcl2, hc0, hcn⟩, hk, q⟩ := h
    simp only [der_l_draw]
    have isst : ∀ x y z : Int, isS (.lst [.int x, .int y, .int z, .ref cl]) = true := fun _ _ _ => rfl
    have ncl : cl ≠ st := fun e => by
      rw [e, hs] at hcl
      match cs, hcl with
      | [], h => cases h
      | [_], h => cases h
      | [_, _], h => cases h
      | [_, _, _], h => cases h
      | [_, _, _, _], h => cases h
      | _ :: _ :: _ :: _ :: _ :: _, h => cases h
    have hlen : 0 < cs.length := List.length_pos_iff.mpr hcs
    have hQ := sq_of (K := K) hs
    refine go_run (n_when (et_test (ev_op (ev_ixQ (eq_of (by exact ev_var rfl) hQ) ev_c (at_nat (k := 0) rfl)) ev_c rv_gtI)) (fun hb => ?_) fun hb => ?_)
    · refine n_asg (ev_op (ev_int (ev_ixQ (eq_of (by exact ev_var rfl) hQ) ev_c (at_nat (k := 0) rfl))) (by exact ev_var rfl) (rv_modI hk.1)) (n_set (j := 0) hs (ev_op (ev_ixQ (eq_of (by exact ev_var rfl) hQ) ev_c (at_nat (k := 0) rfl)) (by exact ev_var rfl) (rv_divI hk)) (by exact ev_var rfl) ev_c (by simp) fun H1 e1 h1 => g_ret (by exact ev_var rfl) fun H2 e2 => ?_)
      refine q _ H2 (((Ek.of e1).trans (Ek.stream h1 (isst _ _ _))).trans (Ek.of e2)) ?_ ⟨_, rfl, Int.emod_nonneg _ (by omega), Int.emod_lt_of_pos _ hk.1⟩
      exact Strm.ex ⟨_, b, c, cl, cs, upd_same, by rw [upd_ne ncl]; exact e1 _ _ hcl, hcs, hcl2, hc0, by omega⟩ e2
    · refine n_set (j := 2) hs (ev_op (ev_ixQ (eq_of (by exact ev_var rfl) hQ) ev_c (at_nat (k := 2) rfl)) ev_c rv_addI) (by exact ev_var rfl) ev_c (by simp) fun H1 e1 h1 => ?_
      generalize hG : upd H1 st _ = G
      have x1 : Ek H G := by
        rw [← hG]
        exact (Ek.of e1).trans (Ek.stream h1 (isst _ _ _))
      have g1 : G st = some (.lst [.int a, .int b, .int (c + 1), .ref cl]) := by
        rw [← hG]
        exact upd_same
      have g2 : G cl = some (.lst (cs.map V.int)) := by
        rw [← hG, upd_ne ncl]
        exact e1 _ _ hcl
      clear hG h1 e1
      clear H1
      have hQ1 := sq_of (K := K) g1
      have hQ2 := sq_of (K := K) g2
      have hm0 : 0 ≤ (c + 1) % ((cs.length : Nat) : Int) := Int.emod_nonneg _ (by omega)
      have hm1 : (c + 1) % ((cs.length : Nat) : Int) < ((cs.length : Nat) : Int) := Int.emod_lt_of_pos _ (by omega)
      obtain ⟨ix, hix⟩ : ∃ ix : Nat, (c + 1) % ((cs.length : Nat) : Int) = (ix : Int) := ⟨((c + 1) % ((cs.length : Nat) : Int)).toNat, by omega⟩
      have hixl : ix < cs.length := by omega
      have hat : (cs.map V.int)[ix]? = some (.int cs[ix]) := by
        rw [List.getElem?_map, List.getElem?_eq_getElem hixl]
        rfl
      have hll : (((cs.map V.int).length : Nat) : Int) = ((cs.length : Nat) : Int) := by rw [List.length_map]
      refine n_par (ev_ixQ (eq_of (by exact ev_var rfl) hQ1) ev_c (at_nat (k := 2) rfl)) (ev_ixQ (eq_of (by exact ev_var rfl) hQ1) ev_c (at_nat (k := 3) rfl)) ?_
      refine n_asg (ev_op (ev_int (ev_ixQ (i := (ix : Int)) (eq_of (by exact ev_var rfl) hQ2) (ev_is (ev_op (ev_int (by exact ev_var rfl)) (ev_is (ev_lenQ (eq_of (by exact ev_var rfl) hQ2)) (congrArg V.int hll)) (rv_modI (by omega))) (congrArg V.int hix)) (at_nat hat))) ev_c (rv_modI (by decide))) ?_
      refine n_asg (ev_op (ev_op (ev_op (ev_op (ev_ixQ (eq_of (by exact ev_var rfl) hQ1) ev_c (at_nat (k := 1) rfl)) ev_c (rv_mulI (.inr (by decide)))) (by exact ev_var rfl) rv_addI) (ev_op (ev_op ev_c (by exact ev_var rfl) (rv_mulI (.inl (by decide)))) (by exact ev_var rfl) (rv_mulI (.inr ⟨by omega, by omega⟩))) rv_addI) ev_c rv_addI) ?_
      refine n_set (j := 1) g1 (ev_op (ev_int (by exact ev_var rfl)) ev_c (rv_modI (by decide))) (by exact ev_var rfl) ev_c (by simp) fun H1 e1 h1 => ?_
      generalize hM : (_ : Int) % 2147483647 = M
      have hM0 : 0 ≤ M := by
        rw [← hM]
        exact Int.emod_nonneg _ (by decide)
      have hM1 : M < 2147483647 := by
        rw [← hM]
        exact Int.emod_lt_of_pos _ (by decide)
      generalize hG : upd H1 st _ = G2
      have x2 : Ek G G2 := by
        rw [← hG]
        exact (Ek.of e1).trans (Ek.stream h1 (isst _ _ _))
      have g3 : G2 st = some (.lst [.int a, .int M, .int (c + 1), .ref cl]) := by
        rw [← hG]
        exact upd_same
      have g4 : G2 cl = some (.lst (cs.map V.int)) := by
        rw [← hG, upd_ne ncl]
        exact e1 _ _ g2
      have hQ3 := sq_of (K := K) g3
      have hpow : CPow (M / 16) 2 := ⟨by decide, by decide, by omega⟩
      refine g_ret (ev_op (ev_op (ev_int (ev_op (ev_op (ev_op (ev_ixQ (eq_of (by exact ev_var rfl) hQ3) ev_c (at_nat (k := 1) rfl)) ev_c (rv_divI (by decide))) ev_c (rv_powI hpow)) (ev_op (ev_ixQ (eq_of (by exact ev_var rfl) hQ3) ev_c (at_nat (k := 1) rfl)) ev_c (rv_divI (by decide))) rv_addI)) ev_c (rv_modI (by decide))) (by exact ev_var rfl) (rv_modI hk.1)) fun H2 e2 => ?_
      refine q _ H2 ((x1.trans x2).trans (Ek.of e2)) ?_ ⟨_, rfl, Int.emod_nonneg _ (by omega), Int.emod_lt_of_pos _ hk.1⟩
      exact Strm.ex ⟨a, M, c + 1, cl, cs, g3, g4, hcs, hcl2, by omega, by omega⟩ e2⟩
section
variable {s : Addr} {σ : L2.St} {H H' : Hp} {ta : TA} {te tl : TE} {E : XK} {N : Nat}
/-- a draw below k -/
theorem dr_draw {k : Int} {i : Nat} (h0 : σ[i]? = some (some (.ref s))) (h : EvK te σ H (.int k)) (hk : 0 < k ∧ k < 1073741824) : Dr s (tCall spDraw [] E (tCons (tVar i) (tCons te tNil))) σ H 1 (IB 0 k) :=
  Dr.is (dr_call (dra_v (evk_var h0) (dra_v h dra_nil)) fun vs H1 n e1 hv st Q E q => by
    obtain ⟨_, rfl, _, rfl, rfl⟩ := hv
    exact ⟨s, k, n, rfl, st, hk, q⟩) rfl
end
def spOf (K : PySem.W.Frag) : Sp := fun vs H Q _ => ∃ (s p : Addr) (xs : List V) (n : Nat), vs = [.ref s, .ref p] ∧ H p = some (.lst xs) ∧ own xs = true ∧ xs ≠ [] ∧ xs.length ≤ 1000 ∧ Strm s (n + 1) H ∧ ∀ v H2, Ek H H2 → Strm s n H2 → v ∈ xs → Q v H2
theorem k_l_of (T : Tx K mg) : Kp P w K mg base CX0 "_law_of" 2 p_l_of (spOf K) :=
  Kp.of T.F_l_of T.g_l_of sc_l_of (fun _ _ _ _ _ _ us hl => match us, hl with | [_, _], _ => rfl) (fun vs H Q E h => by obtain ⟨s, p, xs, n, rfl, _⟩ := h; rfl) fun cdv A outer s H vs Q E hr h => ⟨_, (der_l_of T hr (k_l_draw T)).h.nox, by
    obtain ⟨st, p, xs, n, rfl, hp, ho, hne, hxl, hs, q⟩ := h
    simp only [der_l_of]
    have hlen : 0 < xs.length := List.length_pos_iff.mpr hne
    refine dgo_run (s := st) (m := n + 1) (d_ret (N := 0 + 1) (dr_op (P1 := fun v _ => v = .ref p) (P2 := IB 0 xs.length) (P := fun v _ => v ∈ xs) (dr_ev (by exact evk_var rfl) fun _ _ => rfl) (fun _ _ _ _ h => h) (fun v H1 e1 _ => dr_draw (by rfl) (fun H2 e2 => ev_lenQ (eq_of (by exact ev_var rfl) (sq_of ((e1.trans e2).lst hp ho)))) ⟨by omega, by omega⟩) fun u v H1 e1 hu hv => ?_) (by omega) fun v H1 e1 s1 hv => q v H1 e1 s1 hv) hs
    subst hu
    obtain ⟨i, rfl, h0, h1⟩ := hv
    obtain ⟨j, rfl⟩ : ∃ j : Nat, i = (j : Int) := ⟨i.toNat, by omega⟩
    have hj : j < xs.length := by omega
    exact ⟨xs[j], rv_ixL (sq_of (e1.lst hp ho)) (at_nat (List.getElem?_eq_getElem hj)), fun _ _ => List.getElem_mem hj⟩⟩
section
variable {s : Addr} {σ : L2.St} {H H' : Hp} {ta : TA} {te tl : TE} {E : XK} {N : Nat}
/-- one of a known list -/
theorem dr_of {p : Addr} {xs : List V} {i : Nat} {P : V → Hp → Prop} (h0 : σ[i]? = some (some (.ref s))) (h : EvK te σ H (.ref p)) (hp : H p = some (.lst xs)) (ho : own xs = true) (hne : xs ≠ []) (hl : xs.length ≤ 1000) (hP : ∀ v ∈ xs, ∀ H1, Ek H H1 → P v H1) : Dr s (tCall (spOf K) [] E (tCons (tVar i) (tCons te tNil))) σ H 1 P :=
  Dr.is (dr_call (dra_v (evk_var h0) (dra_v h dra_nil)) fun vs H1 n e1 hv st Q E q => by
    obtain ⟨_, rfl, _, rfl, rfl⟩ := hv
    exact ⟨s, p, xs, n, rfl, e1.lst hp ho, ho, hne, hl, st, fun v H2 e2 s2 hv => q v H2 e2 s2 (hP v hv H2 (e1.trans e2))⟩) rfl
/-- one of a list made on the way -/
theorem dr_ofL {xs : List V} {i : Nat} {P : V → Hp → Prop} (h0 : σ[i]? = some (some (.ref s))) (h : ∀ H1, Ek H H1 → EvL te σ H1 xs) (ho : own xs = true) (hne : xs ≠ []) (hl : xs.length ≤ 1000) (hP : ∀ v ∈ xs, ∀ H1, Ek H H1 → P v H1) : Dr s (tCall (spOf K) [] E (tCons (tVar i) (tCons te tNil))) σ H 1 P :=
  Dr.is (dr_call (PA := fun vs H1 => ∃ p : Addr, vs = [.ref s, .ref p] ∧ H1 p = some (.lst xs)) (N := 0) (fun n H1 e1 st Q q => ⟨.ref s, h0, h H1 e1 H1 (Ex.refl H1) _ fun p H2 _ e2 h2 => q _ H2 (Ek.of e2) (st.ex e2) ⟨p, rfl, h2⟩⟩) fun vs H1 n e1 hv st Q E q => by
    obtain ⟨p, rfl, hp⟩ := hv
    exact ⟨s, p, xs, n, rfl, hp, ho, hne, hl, st, fun v H2 e2 s2 hv => q v H2 e2 s2 (hP v hv H2 (e1.trans e2))⟩) rfl
/-- one text of a list of texts -/
theorem dr_ofS {l : List Str} {i : Nat} {a b : Nat} (h0 : σ[i]? = some (some (.ref s))) (h : ∀ H1, Ek H H1 → EvL te σ H1 (l.map V.str)) (hne : l ≠ []) (hl : l.length ≤ 1000) (hP : ∀ x ∈ l, Wd a b x) : Dr s (tCall (spOf K) [] E (tCons (tVar i) (tCons te tNil))) σ H 1 (TB a b) :=
  dr_ofL h0 h own_strs (fun e => hne (List.map_eq_nil_iff.mp e)) (by rw [List.length_map]; exact hl) fun v hv H1 _ => by
    obtain ⟨x, hx, rfl⟩ := List.mem_map.mp hv
    exact ⟨x, rfl, hP x hx⟩
theorem dr_ofV {p : Addr} {l : List Str} {i j : Nat} {a b : Nat} (h0 : σ[i]? = some (some (.ref s))) (h : σ[j]? = some (some (.ref p))) (hp : H p = some (.lst (l.map V.str))) (hne : l ≠ []) (hl : l.length ≤ 1000) (hP : ∀ x ∈ l, Wd a b x) : Dr s (tCall (spOf K) [] E (tCons (tVar i) (tCons (tVar j) tNil))) σ H 1 (TB a b) :=
  dr_of h0 (evk_var h) hp own_strs (fun e => hne (List.map_eq_nil_iff.mp e)) (by rw [List.length_map]; exact hl) fun v hv H1 _ => by
    obtain ⟨x, hx, rfl⟩ := List.mem_map.mp hv
    exact ⟨x, rfl, hP x hx⟩
end
end
end K27

set_option maxRecDepth 100000
set_option maxHeartbeats 4000000
/-! pick, marks, contents -/
namespace K27
open PySem PySem.Spec PyProof.Rows L2 Evl
def ones (cs : List Nat) : List Str := cs.map fun c => (⟨#[c]⟩ : Str)
theorem signs_ones (z : Str) : signs z = ones z.cps.toList := rfl
theorem ix_nat {n j : Nat} (h : j < n) : seqIndex? (j : Int) n = some j := by
  have e : (if (j : Int) < 0 then (j : Int) + (n : Int) else (j : Int)) = (j : Int) := if_neg (by omega)
  unfold seqIndex?
  simp only [e]
  rw [if_pos (by rw [decide_eq_true (by omega : 0 ≤ (j : Int)), decide_eq_true (by omega : (j : Int) < (n : Int))]; rfl), Int.toNat_natCast]
theorem map_erase {α β : Type} (f : α → β) : ∀ (l : List α) (j : Nat), (l.map f).eraseIdx j = (l.eraseIdx j).map f
  | [], j => by cases j <;> rfl
  | x :: l, 0 => rfl
  | x :: l, j + 1 => by
    show f x :: (l.map f).eraseIdx j = f x :: (l.eraseIdx j).map f
    rw [map_erase f l j]
theorem erase_map {cs : List Nat} {j : Nat} : ((ones cs).map V.str).eraseIdx j = (ones (cs.eraseIdx j)).map V.str := by
  unfold ones
  rw [map_erase, map_erase]
theorem ones_inj : ∀ {a b : List Nat}, ones a = ones b → a = b
  | [], [], _ => rfl
  | [], _ :: _, h => by cases h
  | _ :: _, [], h => by cases h
  | x :: a, y :: b, h => by
    obtain ⟨h1, h2⟩ := List.cons.inj h
    rw [one_inj h1, ones_inj h2]
theorem perm_ones {ys : List Str} {cs : List Nat} (h : ys.Perm (ones cs)) : ∃ ds, ys = ones ds ∧ ds.Perm cs := by
  have hy : ∀ k ∈ ys, k ∈ signs ⟨cs.toArray⟩ := fun k hk => h.mem_iff.mp hk
  obtain ⟨ds, rfl⟩ := ones_of hy
  refine ⟨ds, rfl, ?_⟩
  have h2 := h.map fun (z : Str) => z.cps.toList.headD 0
  have e : ∀ l : List Nat, (ones l).map (fun (z : Str) => z.cps.toList.headD 0) = l := fun l => by
    induction l with
    | nil => rfl
    | cons c r ih =>
      show c :: (ones r).map _ = c :: r
      rw [ih]
  rw [show (ds.map fun c => (⟨#[c]⟩ : Str)) = ones ds from rfl, e, e] at h2
  exact h2
theorem tk_mul {b : Nat} {z : Str} (h : Tk b z) {n : Int} (h0 : 0 ≤ n) (h2 : n ≤ 2) : Tk (b * n.toNat) (Txt.mul z n) := by
  rcases (by omega : n = 0 ∨ n = 1 ∨ n = 2) with rfl | rfl | rfl
  · exact ⟨Nat.zero_le _, fun c hc => by cases hc⟩
  · have e : Txt.mul z 1 = z := rfl
    rw [e]
    exact h.mono (by simp)
  · have e : Txt.mul z 2 = if z.length = 0 then z else z ++ z := by
      unfold Txt.mul
      rw [if_neg (by decide)]
      by_cases hz : z.length = 0
      · rw [if_pos (by rw [hz]; rfl), if_pos hz]
      · rw [if_neg (by simp [hz]), if_neg hz]
        show (⟨(#[] ++ z.cps) ++ z.cps⟩ : Str) = z ++ z
        rw [Array.empty_append]
        rfl
    rw [e]
    split
    · exact h.mono (by show b ≤ b * 2; omega)
    · have := tk_app h h
      exact this.mono (by show b + b ≤ b * 2; omega)
/-- drawn marks -/
def Mks (m : Str) : Prop := 1 ≤ m.length ∧ m.length ≤ 3 ∧ ∀ c ∈ m.cps.toList, c ∈ MKS.cps.toList
theorem mks_lt : ∀ c ∈ MKS.cps.toList, c < 128 := by decide +kernel
theorem Mks.tk {m : Str} (h : Mks m) : Tk 3 m := ⟨h.2.1, fun c hc => mks_lt c (h.2.2 c hc)⟩
section
variable {P : Program} {w : World} {K : PySem.W.Frag} {mg : PySem.Str → Option Value} {base : Heap}
section
variable {s : Addr} {σ : L2.St} {H H' : Hp} {ta : TA} {te tl : TE} {E : XK} {N M : Nat} {PA : List V → Hp → Prop} {PV : V → Hp → Prop}
theorem el_listS {z : Str} (h : Ev te σ H (.str z)) (hz : z.length ≤ 100000) : EvL (tCB rListS (tCons te tNil)) σ H ((signs z).map V.str) := fun H1 e Q q => h H1 e _ fun H2 e2 => ⟨z, rfl, hz, fun p hp => q p _ (fresh_back e2 hp) (e2.trans (Ex.new hp)) upd_same⟩
theorem dr_cb {r : List V → Hp → VK → Prop} (h : DrA s ta σ H N PA) (hr : ∀ vs H1, Ek H H1 → PA vs H1 → ∃ w, RC r vs H1 w ∧ ∀ H2, Ek H1 H2 → PV w H2) : Dr s (tCB r ta) σ H N PV := fun n H1 ek st Q q => h n H1 ek st _ fun vs H2 e2 s2 p => by
  obtain ⟨w, hw, hp⟩ := hr vs H2 (ek.trans e2) p
  exact hw H2 (Ex.refl H2) Q fun H3 e3 => q w H3 (e2.trans (Ek.of e3)) (s2.ex e3) (hp H3 (Ek.of e3))
end
def PK (L : Str) (k : Nat) : V → Hp → Prop := fun v _ => ∃ z : Str, v = .str z ∧ z.length = k ∧ ∀ c ∈ z.cps.toList, c ∈ L.cps.toList
def spPick : Sp := fun vs H Q _ => ∃ (s : Addr) (L : Str) (k n : Nat), vs = [.ref s, .str L, .int k] ∧ Strm s (n + 3) H ∧ k ≤ 3 ∧ (10 ≤ L.length ∧ L.length ≤ 60) ∧ ∀ v H2, Ek H H2 → Strm s n H2 → PK L k v H2 → Q v H2
theorem b_l_pick {A : Around} {cdv : Value} {outer : List Env} {s : Shared} {H : Hp} {E : XK} {Q : VK} {vs : List V} (T : Tx K mg) (hr) (h : spPick vs H Q E) :
    (der_l_pick (P := P) (w := w) (base := base) (cdv := cdv) (A := A) (outer := outer) (s := s) (H := H) (E := E) T hr (k_l_draw T)).t { nx := fun _ H' => Q .non H', rt := Q } (start N_l_pick vs) H := by
  obtain ⟨st, L, k, n, rfl, hs, hk, ⟨hL1, hL2⟩, q⟩ := h
  simp only [der_l_pick]
  have hLl : L.cps.toList.length = L.length := Array.length_toList
  refine dgo_run (s := st) (m := n + 3) (d_parLL (xs := (ones L.cps.toList).map V.str) (ys := []) (fun H1 e1 => el_listS (by exact ev_var rfl) (by omega)) (fun H1 e1 => el_lst ea_nil (by simp)) fun pl pf H1 hpl hpf hne e1 h1 h2 => ?_) hs
  refine d_forR (N := 0) (dra_v (v := .int k) (by exact evk_var rfl) dra_nil) (by omega) (fun j => j = (k : Int)) (fun vs H2 hv => by
    obtain ⟨_, rfl, rfl⟩ := hv
    exact ⟨k, rfl, by omega, by omega, rfl⟩) (fun i σ' H' => ∃ (left found : List Nat) (x5 : Option V), σ' = [some (.ref st), some (.str L), some (.int k), some (.ref pl), some (.ref pf), x5] ∧ Ek H H' ∧ Strm st (n + 3 - i) H' ∧ H' pl = some (.lst ((ones left).map V.str)) ∧ H' pf = some (.lst ((ones found).map V.str)) ∧
      left.length = L.length - i ∧ found.length = i ∧ (∀ c ∈ left, c ∈ L.cps.toList) ∧ ∀ c ∈ found, c ∈ L.cps.toList) (fun H2 e2 s2 => ⟨L.cps.toList, [], _, rfl, e1.trans e2, s2.mono (by omega), e2.strs h1, e2.strs (l := []) h2, by omega, rfl, fun _ h => h, fun _ h => by cases h⟩) (fun j i σ' H' hj hi p => ?_) fun j σ' H' hj p => ?_
  · subst hj
    obtain ⟨left, found, x5, rfl, e2, s2, hl, hf, ll, lf, ml, mf⟩ := p
    have hi' : i < 3 := by omega
    have hll : (((ones left).map V.str).length : Int) = (left.length : Int) := by rw [List.length_map]; unfold ones; rw [List.length_map]
    refine ⟨_, rfl, .inl ⟨rfl, _, sq_of hf⟩, _, rfl, .inl ⟨rfl, _, sq_of hl⟩, ?_⟩
    refine dr_draw (s := st) (k := (left.length : Int)) (by rfl) (fun H3 e3 => ev_is (ev_lenQ (eq_of (by exact ev_var rfl) (sq_of (e3.strs hl)))) (congrArg V.int hll)) ⟨by omega, by omega⟩ (n + 3 - (i + 1)) H' (Ek.refl H') (s2.mono (by omega)) _ fun v H3 e3 s3 hv => ?_
    obtain ⟨j, rfl, j0, j1⟩ := hv
    obtain ⟨jn, rfl⟩ : ∃ jn : Nat, j = (jn : Int) := ⟨j.toNat, by omega⟩
    have hjn : jn < left.length := by omega
    have hl3 := e3.strs hl
    have hf3 := e3.strs hf
    have hat : ((ones left).map V.str)[jn]? = some (.str ⟨#[left[jn]]⟩) := by
      unfold ones
      rw [List.getElem?_map, List.getElem?_map, List.getElem?_eq_getElem hjn]
      rfl
    have hln : ((ones left).map V.str).length = left.length := by rw [List.length_map]; unfold ones; rw [List.length_map]
    have hlf : ((ones found).map V.str).length = found.length := by rw [List.length_map]; unfold ones; rw [List.length_map]
    refine ⟨pl, _, (jn : Int), jn, _, rfl, rfl, hl3, by omega, by omega, ix_nat (by rw [hln]; exact hjn), hat, pf, _, _, rfl, rfl, by rw [upd_ne (Ne.symm hne)]; exact hf3, sz_lt (by omega), ?_⟩
    refine ⟨left.eraseIdx jn, found ++ [left[jn]], _, rfl, Ek.mut (Ek.mut (e2.trans e3) hpl) hpf, ?_, ?_, ?_, ?_, ?_, fun c hc => ml c (List.mem_of_mem_eraseIdx hc), fun c hc => ?_⟩
    · exact Strm.mut (Strm.mut s3 hl3 own_strs) (xs := (ones found).map V.str) (by rw [upd_ne (Ne.symm hne)]; exact hf3) own_strs
    · rw [upd_ne hne, upd_same, erase_map]
    · rw [upd_same]
      unfold ones
      rw [List.map_append, List.map_append]
      rfl
    · rw [List.length_eraseIdx_of_lt hjn]
      omega
    · rw [List.length_append, List.length_singleton]
      omega
    · rcases List.mem_append.mp hc with hc | hc
      · exact mf c hc
      · rw [List.mem_singleton.mp hc]
        exact ml _ (List.getElem_mem hjn)
  · subst hj
    obtain ⟨left, found, x5, rfl, e2, s2, hl, hf, ll, lf, ml, mf⟩ := p
    rw [Int.toNat_natCast] at lf
    refine ⟨⟨_, rfl⟩, _, rfl, pf, ones found, rfl, sq_of hf, by unfold ones; rw [List.length_map]; omega, fun ys p hperm _ hp => ?_⟩
    obtain ⟨ds, rfl, hd⟩ := perm_ones hperm
    have hdl := hd.length_eq
    have hz : TL.tl (Txt.join "" (ones ds)) = ds := join_codes
    refine ⟨"", p, ones ds, rfl, rfl, .inl (sq_of upd_same), ?_, q _ _ (e2.trans (Ek.of (Ex.new hp))) ((s2.mono (by omega)).ex (Ex.new hp)) ⟨_, rfl, ?_, fun c hc => ?_⟩⟩
    · unfold ones
      rw [sum_ones, List.length_map]
      show ds.length + ds.length * 0 ≤ _
      omega
    · rw [TL.len_tl, hz]
      omega
    · have hc' : c ∈ TL.tl (Txt.join "" (ones ds)) := hc
      rw [hz] at hc'
      exact mf c (hd.mem_iff.mp hc')
theorem k_l_pick (T : Tx K mg) : Kp P w K mg base CX0 "_law_pick" 2 p_l_pick spPick :=
  Kp.of T.F_l_pick T.g_l_pick sc_l_pick (fun _ _ _ _ _ _ us hl => match us, hl with | [_, _, _], _ => rfl) (fun vs H Q E h => by obtain ⟨s, L, k, n, rfl, _⟩ := h; rfl) fun cdv A outer s H vs Q E hr h => ⟨_, (der_l_pick T hr (k_l_draw T)).h.nox, b_l_pick T hr h⟩
theorem dr_pick {s : Addr} {σ : L2.St} {H : Hp} {E : XK} {i j : Nat} {L : Str} {k : Nat} (h0 : σ[i]? = some (some (.ref s))) (h : σ[j]? = some (some (.int (k : Int)))) (hk : k ≤ 3) (hL : 10 ≤ L.length ∧ L.length ≤ 60) : Dr s (tCall spPick [] E (tCons (tVar i) (tCons (tC (.str L)) (tCons (tVar j) tNil)))) σ H 3 (PK L k) :=
  Dr.is (dr_call (M := 3) (dra_v (evk_var h0) (dra_v evk_c (dra_v (evk_var h) dra_nil))) fun vs H1 n e1 hv st Q E q => by
    obtain ⟨_, rfl, _, rfl, _, rfl, rfl⟩ := hv
    exact ⟨s, L, k, n, rfl, st, hk, hL, q⟩) rfl
def spDMarks : Sp := fun vs H Q _ => ∃ (s : Addr) (n : Nat), vs = [.ref s, .int 0, .int 3] ∧ Strm s (n + 10) H ∧ ∀ v H2, Ek H H2 → Strm s n H2 → (∃ m : Str, v = .str m ∧ Mks m) → Q v H2
theorem k_l_drawn_marks (T : Tx K mg) : Kp P w K mg base CX0 "_law_drawn_marks" 3 p_l_drawn_marks spDMarks :=
  Kp.of T.F_l_drawn_marks T.g_l_drawn_marks sc_l_drawn_marks (fun _ _ _ _ _ _ us hl => match us, hl with | [_, _, _], _ => rfl) (fun vs H Q E h => by obtain ⟨s, n, rfl, _⟩ := h; rfl) fun cdv A outer s H vs Q E hr h => ⟨_, (der_l_drawn_marks T hr (k_l_draw T) (k_l_pick T)).h.nox, by
    obtain ⟨st, n, rfl, hs, q⟩ := h
    simp only [der_l_drawn_marks]
    refine dgo_run (s := st) (m := n + 10) (d_asg (P := IB 0 3) (N := 0 + 1) (dr_op (P1 := fun v _ => v = .int 0) (dr_ev (by exact evk_var rfl) fun _ _ => rfl) (fun _ _ _ _ h => h) (fun v H1 e1 _ => dr_draw (k := 3) (by rfl) (fun H2 e2 => ev_is (ev_op ev_c (by exact ev_var rfl) rv_subI) rfl) (by decide)) fun u v H1 e1 hu hv => ?_) (by omega) fun v H1 e1 hv => ?_) hs
    · subst hu
      obtain ⟨i, rfl, h0, h1⟩ := hv
      exact ⟨.int (0 + i), rv_addI, fun _ _ => ⟨0 + i, rfl, by omega, by omega⟩⟩
    obtain ⟨p, rfl, p0, p1⟩ := hv
    obtain ⟨pn, rfl⟩ : ∃ pn : Nat, p = (pn : Int) := ⟨p.toNat, by omega⟩
    refine d_asg (P := fun v _ => ∃ b : Nat, v = .int (b : Int) ∧ (b : Int) ≤ 3 - (pn : Int) ∧ (pn = 0 → 1 ≤ b)) (N := 0 + (1 + 0)) (dr_cb (PA := fun vs _ => ∃ d : Int, vs = [.int (if decide ((pn : Int) = 0) then 1 else 0), .int d] ∧ 0 ≤ d ∧ d < (if 3 - (pn : Int) < 3 then 3 - (pn : Int) else 3) + 1) ?_ fun vs H2 e2 hv => ?_) (by omega) fun v H2 e2 hv => ?_
    · refine fun n' H2 e2 s2 Q' q' => (ev_intB (ev_op (by exact ev_var rfl) ev_c rv_eqI)) H2 (Ex.refl H2) _ fun H3 e3 => dr_draw (s := st) (k := (if 3 - (pn : Int) < 3 then 3 - (pn : Int) else 3) + 1) (by rfl) (fun H4 e4 => ev_op (ev_min2 (by exact ev_var rfl) (ev_op ev_c (by exact ev_var rfl) rv_subI)) ev_c rv_addI) (by split <;> omega) n' H3 (Ek.refl H3) ((s2.mono (by omega)).ex e3) _ fun v H4 e4 s4 hv => ?_
      obtain ⟨d, rfl, d0, d1⟩ := hv
      exact q' _ H4 ((Ek.of e3).trans e4) s4 ⟨d, rfl, d0, d1⟩
    · obtain ⟨d, rfl, d0, d1⟩ := hv
      refine ⟨.int (if d > (if decide ((pn : Int) = 0) then 1 else 0) then d else (if decide ((pn : Int) = 0) then 1 else 0)), fun H3 e3 Q' q' => ⟨_, _, rfl, q' H3 (Ex.refl H3)⟩, fun _ _ => ?_⟩
      have hif : (if 3 - (pn : Int) < 3 then 3 - (pn : Int) else 3) = 3 - (pn : Int) := by split <;> omega
      rw [hif] at d1
      by_cases hp : pn = 0
      · subst hp
        refine ⟨(if d > 1 then d else 1).toNat, ?_, ?_, fun _ => ?_⟩
        · show V.int (if d > 1 then d else 1) = _
          congr 1
          split <;> omega
        · split <;> omega
        · split <;> omega
      · have e0 : decide ((pn : Int) = 0) = false := decide_eq_false (by omega)
        rw [e0]
        refine ⟨(if d > 0 then d else 0).toNat, ?_, ?_, fun h => absurd h hp⟩
        · show V.int (if d > 0 then d else 0) = _
          congr 1
          split <;> omega
        · split <;> omega
    obtain ⟨b, rfl, b1, b2⟩ := hv
    refine d_asg (N := 3) (dr_pick (k := b) (by rfl) (by rfl) (by omega) (by decide +kernel)) (by omega) fun v H3 e3 hv => ?_
    obtain ⟨u, rfl, ul, um⟩ := hv
    refine d_ret (N := 0 + 3) (P := fun v _ => ∃ m : Str, v = .str m ∧ Mks m) (dr_op (P1 := fun v _ => v = .str u) (dr_ev (by exact evk_var rfl) fun _ _ => rfl) (fun _ _ _ _ h => h) (fun v H4 e4 _ => dr_pick (k := pn) (by rfl) (by rfl) (by omega) (by decide +kernel)) fun x y H4 e4 hx hy => ?_) (by omega) fun v H4 e4 s4 hv => q v H4 (((e1.trans e2).trans e3).trans e4) (s4.mono (by omega)) hv
    subst hx
    obtain ⟨z, rfl, zl, zm⟩ := hy
    have hlen : (u ++ z).length = b + pn := by rw [len_app, ul, zl]
    refine ⟨.str (u ++ z), fun H5 e5 Q' q' => ⟨u, z, rfl, rfl, sz_of (by omega), q' H5 (Ex.refl H5)⟩, fun _ _ => ⟨u ++ z, rfl, by omega, by omega, fun c hc => ?_⟩⟩
    have hc' : c ∈ TL.tl (u ++ z) := hc
    rw [TL.tl_append] at hc'
    refine (mks_iff c).mpr ?_
    rcases List.mem_append.mp hc' with h | h
    · exact .inl (um c h)
    · exact .inr (zm c h)⟩
end
end K27

set_option maxRecDepth 100000
set_option maxHeartbeats 4000000
/-! contents, terms, sums, bindings, rows, tests -/
namespace K27
open PySem PySem.Spec PyProof.Rows L2 Evl
/-- the word lists of the law -/
def WL (H : Hp) (p : Addr) (l : List Str) : Prop := H p = some (.lst (l.map V.str)) ∧ l.length ≤ 10 ∧ ∀ x ∈ l, Wd 1 8 x
theorem WL.ek {H H' : Hp} {p : Addr} {l : List Str} (h : WL H p l) (e : Ek H H') : WL H' p l := ⟨e.strs h.1, h.2⟩
theorem wd_c {a b : Nat} {x : Str} (h : (decide (a ≤ x.length) && (decide (x.length ≤ b) && x.cps.toList.all fun c => decide (c < 128))) = true) : Wd a b x := by
  obtain ⟨h1, h2⟩ := Bool.and_eq_true_iff.mp h
  obtain ⟨h2, h3⟩ := Bool.and_eq_true_iff.mp h2
  exact ⟨of_decide_eq_true h1, of_decide_eq_true h2, fun c hc => of_decide_eq_true (List.all_eq_true.mp h3 c hc)⟩
def wdL (a b : Nat) (l : List Str) : Bool := l.all fun x => decide (a ≤ x.length) && (decide (x.length ≤ b) && x.cps.toList.all fun c => decide (c < 128))
theorem wd_l {a b : Nat} {l : List Str} (h : wdL a b l = true) : ∀ x ∈ l, Wd a b x := fun x hx => wd_c (List.all_eq_true.mp h x hx)
section
variable {P : Program} {w : World} {K : PySem.W.Frag} {mg : PySem.Str → Option Value} {base : Heap}
def spCont : Sp := fun vs H Q _ => ∃ (s : Addr) (m : Str) (n : Nat), vs = [.ref s, .str m] ∧ Strm s (n + 3) H ∧ Mks m ∧ ∀ v H2, Ek H H2 → Strm s n H2 → TB 0 3 v H2 → Q v H2
theorem k_l_drawn_contents (T : Tx K mg) : Kp P w K mg base CX0 "_law_drawn_contents" 2 p_l_drawn_contents spCont :=
  Kp.of T.F_l_drawn_contents T.g_l_drawn_contents sc_l_drawn_contents (fun _ _ _ _ _ _ us hl => match us, hl with | [_, _], _ => rfl) (fun vs H Q E h => by obtain ⟨s, m, n, rfl, _⟩ := h; rfl) fun cdv A outer s H vs Q E hr h => ⟨_, (der_l_drawn_contents T hr (k_l_draw T)).h.nox, by
    obtain ⟨st, m, n, rfl, hs, hm, q⟩ := h
    simp only [der_l_drawn_contents]
    have hml : m.cps.toList.length = m.length := Array.length_toList
    have hm3 := hm.2.1
    refine dgo_run (s := st) (m := n + 3) (d_asgV (by exact evk_c) (d_forS (z := m) (by exact evk_var rfl) (fun i σ' H' => ∃ (f : Str) (x3 : Option V), σ' = [some (.ref st), some (.str m), some (.str f), x3] ∧ Ek H H' ∧ Strm st (n + 3 - i) H' ∧ Tk i f) (fun H1 e1 s1 => ⟨"", _, rfl, e1, s1.mono (by omega), Nat.zero_le _, fun c hc => by cases hc⟩) (fun i c σ' H' hc p => ?_) fun σ' H' p => ?_)) hs
    · obtain ⟨f, x3, rfl, e1, s1, tf⟩ := p
      have hi := (List.getElem?_eq_some_iff.mp hc).1
      have tc : Tk 1 (⟨#[c]⟩ : Str) := ⟨Nat.le_refl _, fun d hd => by
        have e : d = c := List.mem_singleton.mp hd
        rw [e]
        exact hm.tk.2 c (List.mem_of_getElem? hc)⟩
      refine dl_asg (s := st) (H := H') (m := n + 3 - i) (dr_add (a := 0) (b := i) (c := 0) (d := 1) (N := 0) (M := 0 + 1) (dr_s (by rfl) ⟨Nat.zero_le _, tf⟩) (dr_op (P1 := fun v _ => v = .str ⟨#[c]⟩) (dr_ev (by exact evk_var rfl) fun _ _ => rfl) (fun _ _ _ _ h => h) (fun v H1 e1 _ => dr_draw (k := 2) (by rfl) (by exact evk_c) (by decide)) fun u v H1 e1 hu hv => ?_) (by omega)) (by omega) (fun v H1 e2 s2 hv => ?_) H' (Ek.refl H') s1
      · subst hu
        obtain ⟨j, rfl, j0, j1⟩ := hv
        refine ⟨.str (Txt.mul ⟨#[c]⟩ j), fun H2 e2 Q' q' => ⟨_, j, rfl, rfl, j0, by omega, by show 1 ≤ 100000; omega, q' H2 (Ex.refl H2)⟩, fun _ _ => ⟨_, rfl, Nat.zero_le _, (tk_mul tc j0 (by omega)).mono (by omega)⟩⟩
      · obtain ⟨z, rfl, _, tz⟩ := hv
        exact ⟨z, _, rfl, e1.trans e2, s2.mono (by omega), tz⟩
    · obtain ⟨f, x3, rfl, e1, s1, tf⟩ := p
      exact ⟨_, rfl, q _ H' e1 (s1.mono (by omega)) ⟨f, rfl, Nat.zero_le _, tf.mono (by omega)⟩⟩⟩
section
variable {s : Addr} {σ : L2.St} {H : Hp} {E : XK} {i j l : Nat} {p : Addr} {ws : List Str} {m x : Str}
theorem dr_cont (h0 : σ[i]? = some (some (.ref s))) (h1 : σ[j]? = some (some (.str m))) (hm : Mks m) : Dr s (tCall spCont [] E (tCons (tVar i) (tCons (tVar j) tNil))) σ H 3 (TB 0 3) :=
  Dr.is (dr_call (M := 3) (dra_v (evk_var h0) (dra_v (evk_var h1) dra_nil)) fun vs H1 n e1 hv st Q E q => by
    obtain ⟨_, rfl, _, rfl, rfl⟩ := hv
    exact ⟨s, m, n, rfl, st, hm, q⟩) rfl
end
def spTerm (K : PySem.W.Frag) : Sp := fun vs H Q _ => ∃ (s p : Addr) (l : List Str) (m : Str) (n : Nat), vs = [.ref s, .ref p, .str m] ∧ Strm s (n + 4) H ∧ WL H p l ∧ Mks m ∧ ∀ v H2, Ek H H2 → Strm s n H2 → TB 0 8 v H2 → Q v H2
theorem k_l_term (T : Tx K mg) : Kp P w K mg base CX0 "_law_term" 3 p_l_term (spTerm K) :=
  Kp.of T.F_l_term T.g_l_term sc_l_term (fun _ _ _ _ _ _ us hl => match us, hl with | [_, _, _], _ => rfl) (fun vs H Q E h => by obtain ⟨s, p, l, m, n, rfl, _⟩ := h; rfl) fun cdv A outer s H vs Q E hr h => ⟨_, (der_l_term T hr (k_l_draw T) (k_l_of T) (k_l_drawn_contents T)).h.nox, by
    obtain ⟨st, p, l, m, n, rfl, hs, hw, hm, q⟩ := h
    simp only [der_l_term]
    have hok : ∀ x ∈ l, PyData.strOk x = true := fun x hx => (hw.2.2 x hx).2.ok
    refine dgo_run (s := st) (m := n + 4) (d_when (N := 0 + 1) (drt_and (B2 := fun _ => True) (drt_ev (b := !decide (l = [])) fun H1 e1 => et_test (ev_neSS (m := []) hok (fun x hx => by cases hx) (eq_of (by exact ev_var rfl) (sq_of (e1.strs hw.1))) (EvL.q (el_lst ea_nil (by simp))))) fun _ => drt_test (P := fun v _ => ∃ b, v = .bl b) (Dr.is (N := 1 + 0) (dr_op (P1 := IB 0 3) (P2 := fun v _ => v = .int 0) (dr_draw (k := 3) (by rfl) (by exact evk_c) (by decide)) IB.mono (fun _ _ _ _ => dr_ev (by exact evk_c) fun _ _ => rfl) fun u v H1 e1 hu hv => by
        obtain ⟨i, rfl, _⟩ := hu
        subst hv
        exact ⟨_, rv_gtI, fun _ _ => ⟨_, rfl⟩⟩) rfl) fun v H hv => by
          obtain ⟨b, rfl⟩ := hv
          exact ⟨b, rfl, trivial⟩) (by omega) (fun hb => ?_) fun hb => ?_) hs
    · have hne : l ≠ [] := fun e => by
        have h1 := (hb rfl).1
        rw [decide_eq_true e] at h1
        cases h1
      exact d_ret (N := 1) (dr_ofV (a := 1) (b := 8) (by rfl) (by rfl) hw.1 hne (by have := hw.2.1; omega) hw.2.2) (by omega) fun v H1 e1 s1 hv => q v H1 e1 (s1.mono (by omega)) (TB.le (by omega) (by omega) v H1 hv)
    · exact d_ret (N := 0 + 3 + 0) (dr_add (a := 1 + 0) (b := 1 + 3) (c := 1) (d := 1) (dr_add (a := 1) (b := 1) (c := 0) (d := 3) (dr_cs (wd_c (by decide))) (dr_cont (by rfl) (by rfl) hm) (by omega)) (dr_cs (wd_c (by decide))) (by omega)) (by omega) fun v H1 e1 s1 hv => q v H1 e1 (s1.mono (by omega)) (TB.le (by omega) (by omega) v H1 hv)⟩
section
variable {s : Addr} {σ : L2.St} {H : Hp} {E : XK} {i j l : Nat} {p : Addr} {ws : List Str} {m x : Str}
theorem dr_term (h0 : σ[i]? = some (some (.ref s))) (h1 : σ[j]? = some (some (.ref p))) (h2 : σ[l]? = some (some (.str m))) (hw : WL H p ws) (hm : Mks m) : Dr s (tCall (spTerm K) [] E (tCons (tVar i) (tCons (tVar j) (tCons (tVar l) tNil)))) σ H 4 (TB 0 8) :=
  Dr.is (dr_call (M := 4) (dra_v (evk_var h0) (dra_v (evk_var h1) (dra_v (evk_var h2) dra_nil))) fun vs H1 n e1 hv st Q E q => by
    obtain ⟨_, rfl, _, rfl, _, rfl, rfl⟩ := hv
    exact ⟨s, p, ws, m, n, rfl, st, hw.ek e1, hm, q⟩) rfl
end
def spSum (K : PySem.W.Frag) : Sp := fun vs H Q _ => ∃ (s p : Addr) (l : List Str) (m : Str) (n : Nat), vs = [.ref s, .ref p, .str m] ∧ Strm s (n + 9) H ∧ WL H p l ∧ Mks m ∧ ∀ v H2, Ek H H2 → Strm s n H2 → TB 0 19 v H2 → Q v H2
theorem k_l_sum (T : Tx K mg) : Kp P w K mg base CX0 "_law_sum" 4 p_l_sum (spSum K) :=
  Kp.of T.F_l_sum T.g_l_sum sc_l_sum (fun _ _ _ _ _ _ us hl => match us, hl with | [_, _, _], _ => rfl) (fun vs H Q E h => by obtain ⟨s, p, l, m, n, rfl, _⟩ := h; rfl) fun cdv A outer s H vs Q E hr h => ⟨_, (der_l_sum T hr (k_l_of T) (k_l_term T)).h.nox, by
    obtain ⟨st, p, l, m, n, rfl, hs, hw, hm, q⟩ := h
    simp only [der_l_sum]
    refine dgo_run (s := st) (m := n + 9) (d_asg (N := 1) (dr_ofS (l := [" | ", " & ", " - ", " ^ "]) (a := 3) (b := 3) (by rfl) (fun H1 e1 => el_lst (ea_cons ev_c (ea_cons ev_c (ea_cons ev_c (ea_cons ev_c ea_nil)))) (by simp)) (by simp) (by simp) (wd_l (by decide))) (by omega) fun v H1 e1 hv => ?_) hs
    obtain ⟨z, rfl, hz⟩ := hv
    have hw1 := hw.ek e1
    exact d_ret (N := 4 + 0 + 4) (dr_add (dr_add (dr_term (by rfl) (by rfl) (by rfl) hw1 hm) (dr_s (by rfl) hz) (by omega)) (dr_term (by rfl) (by rfl) (by rfl) hw1 hm) (by omega)) (by omega) fun v H2 e2 s2 hv => q v H2 (e1.trans e2) (s2.mono (by omega)) (TB.le (by omega) (by omega) v H2 hv)⟩
section
variable {s : Addr} {σ : L2.St} {H : Hp} {E : XK} {i j l : Nat} {p : Addr} {ws : List Str} {m x : Str}
theorem dr_sum (h0 : σ[i]? = some (some (.ref s))) (h1 : σ[j]? = some (some (.ref p))) (h2 : σ[l]? = some (some (.str m))) (hw : WL H p ws) (hm : Mks m) : Dr s (tCall (spSum K) [] E (tCons (tVar i) (tCons (tVar j) (tCons (tVar l) tNil)))) σ H 9 (TB 0 19) :=
  Dr.is (dr_call (M := 9) (dra_v (evk_var h0) (dra_v (evk_var h1) (dra_v (evk_var h2) dra_nil))) fun vs H1 n e1 hv st Q E q => by
    obtain ⟨_, rfl, _, rfl, _, rfl, rfl⟩ := hv
    exact ⟨s, p, ws, m, n, rfl, st, hw.ek e1, hm, q⟩) rfl
end
/-- draw(..) == c -/
theorem drt_draw {s : Addr} {σ : L2.St} {H : Hp} {E : XK} {i : Nat} {k c : Int} (h0 : σ[i]? = some (some (.ref s))) (hk : 0 < k ∧ k < 1073741824) : DrT s (tTest (tOp rEq (tCall spDraw [] E (tCons (tVar i) (tCons (tC (.int k)) tNil))) (tC (.int c)))) σ H 1 (fun _ => True) :=
  drt_test (P := fun v _ => ∃ b, v = .bl b) (Dr.is (N := 1 + 0) (dr_op (P1 := IB 0 k) (P2 := fun v _ => v = .int c) (dr_draw h0 evk_c hk) IB.mono (fun _ _ _ _ => dr_ev evk_c fun _ _ => rfl) fun u v H1 e1 hu hv => by
    obtain ⟨i, rfl, _⟩ := hu
    subst hv
    exact ⟨_, rv_eqI, fun _ _ => ⟨_, rfl⟩⟩) rfl) fun v H hv => by
      obtain ⟨b, rfl⟩ := hv
      exact ⟨b, rfl, trivial⟩
def spBind (K : PySem.W.Frag) : Sp := fun vs H Q _ => ∃ (s : Addr) (x : Str) (p : Addr) (l : List Str) (m : Str) (n : Nat), vs = [.ref s, .str x, .ref p, .str m] ∧ Strm s (n + 10) H ∧ Wd 0 8 x ∧ WL H p l ∧ Mks m ∧ ∀ v H2, Ek H H2 → Strm s n H2 → TB 0 30 v H2 → Q v H2
theorem k_l_binding (T : Tx K mg) : Kp P w K mg base CX0 "_law_binding" 5 p_l_binding (spBind K) :=
  Kp.of T.F_l_binding T.g_l_binding sc_l_binding (fun _ _ _ _ _ _ us hl => match us, hl with | [_, _, _, _], _ => rfl) (fun vs H Q E h => by obtain ⟨s, x, p, l, m, n, rfl, _⟩ := h; rfl) fun cdv A outer s H vs Q E hr h => ⟨_, (der_l_binding T hr (k_l_draw T) (k_l_sum T) (k_l_term T)).h.nox, by
    obtain ⟨st, x, p, l, m, n, rfl, hs, hx, hw, hm, q⟩ := h
    simp only [der_l_binding]
    refine dgo_run (s := st) (m := n + 10) (d_when (N := 1) (drt_draw (by rfl) (by decide)) (by omega) (fun _ => ?_) fun _ => ?_) hs
    · exact d_ret (N := 0 + 0 + 9) (dr_add (dr_add (dr_s (by rfl) hx) (dr_cs (a := 3) (b := 3) (wd_c (by decide))) (by omega)) (dr_sum (by rfl) (by rfl) (by rfl) hw hm) (by omega)) (by omega) fun v H2 e2 s2 hv => q v H2 e2 (s2.mono (by omega)) (TB.le (by omega) (by omega) v H2 hv)
    · exact d_ret (N := 0 + 0 + 4) (dr_add (dr_add (dr_s (by rfl) hx) (dr_cs (a := 3) (b := 3) (wd_c (by decide))) (by omega)) (dr_term (by rfl) (by rfl) (by rfl) hw hm) (by omega)) (by omega) fun v H2 e2 s2 hv => q v H2 e2 (s2.mono (by omega)) (TB.le (by omega) (by omega) v H2 hv)⟩
section
variable {s : Addr} {σ : L2.St} {H : Hp} {E : XK} {i j l k : Nat} {p : Addr} {ws : List Str} {m x : Str} {te : TE}
theorem dr_bindE (h0 : σ[i]? = some (some (.ref s))) (hx : EvK te σ H (.str x)) (h1 : σ[j]? = some (some (.ref p))) (h2 : σ[l]? = some (some (.str m))) (hx8 : Wd 0 8 x) (hw : WL H p ws) (hm : Mks m) : Dr s (tCall (spBind K) [] E (tCons (tVar i) (tCons te (tCons (tVar j) (tCons (tVar l) tNil))))) σ H 10 (TB 0 30) :=
  Dr.is (dr_call (M := 10) (dra_v (evk_var h0) (dra_v hx (dra_v (evk_var h1) (dra_v (evk_var h2) dra_nil)))) fun vs H1 n e1 hv st Q E q => by
    obtain ⟨_, rfl, _, rfl, _, rfl, _, rfl, rfl⟩ := hv
    exact ⟨s, x, p, ws, m, n, rfl, st, hx8, hw.ek e1, hm, q⟩) rfl
end
def spPRow (K : PySem.W.Frag) : Sp := fun vs H Q _ => ∃ (s p : Addr) (l : List Str) (m : Str) (n : Nat), vs = [.ref s, .ref p, .str m] ∧ Strm s (n + 12) H ∧ WL H p l ∧ l ≠ [] ∧ Mks m ∧ ∀ v H2, Ek H H2 → Strm s n H2 → TB 0 30 v H2 → Q v H2
theorem k_l_plain_row (T : Tx K mg) : Kp P w K mg base CX0 "_law_plain_row" 6 p_l_plain_row (spPRow K) :=
  Kp.of T.F_l_plain_row T.g_l_plain_row sc_l_plain_row (fun _ _ _ _ _ _ us hl => match us, hl with | [_, _, _], _ => rfl) (fun vs H Q E h => by obtain ⟨s, p, l, m, n, rfl, _⟩ := h; rfl) fun cdv A outer s H vs Q E hr h => ⟨_, (der_l_plain_row T hr (k_l_of T) (k_l_draw T) (k_l_binding T) (k_l_term T)).h.nox, by
    obtain ⟨st, p, l, m, n, rfl, hs, hw, hne, hm, q⟩ := h
    simp only [der_l_plain_row]
    refine dgo_run (s := st) (m := n + 12) (d_asg (N := 1) (dr_ofV (a := 1) (b := 8) (by rfl) (by rfl) hw.1 hne (by have := hw.2.1; omega) hw.2.2) (by omega) fun v H1 e1 hv => ?_) hs
    obtain ⟨z, rfl, hz⟩ := hv
    have hw1 := hw.ek e1
    refine d_when (N := 1) (drt_draw (by rfl) (by decide)) (by omega) (fun _ => ?_) fun _ => ?_
    · exact d_ret (N := 10) (dr_bindE (by rfl) (by exact evk_var rfl) (by rfl) (by rfl) ⟨Nat.zero_le _, hz.2⟩ hw1 hm) (by omega) fun v H2 e2 s2 hv => q v H2 (e1.trans e2) (s2.mono (by omega)) hv
    · exact d_ret (N := 0 + 1 + 4) (dr_add (dr_add (dr_s (by rfl) hz) (dr_ofS (l := [" |= ", " |= ", " &= ", " -= ", " ^= "]) (a := 4) (b := 4) (by rfl) (fun H1 e1 => el_lst (ea_cons ev_c (ea_cons ev_c (ea_cons ev_c (ea_cons ev_c (ea_cons ev_c ea_nil))))) (by simp)) (by simp) (by simp) (wd_l (by decide))) (by omega)) (dr_term (by rfl) (by rfl) (by rfl) hw1 hm) (by omega)) (by omega) fun v H2 e2 s2 hv => q v H2 (e1.trans e2) (s2.mono (by omega)) (TB.le (by omega) (by omega) v H2 hv)⟩
section
variable {s : Addr} {σ : L2.St} {H : Hp} {E : XK} {i j l k : Nat} {p : Addr} {ws : List Str} {m x : Str} {te : TE}
theorem dr_prow (h0 : σ[i]? = some (some (.ref s))) (h1 : σ[j]? = some (some (.ref p))) (h2 : σ[l]? = some (some (.str m))) (hw : WL H p ws) (hne : ws ≠ []) (hm : Mks m) : Dr s (tCall (spPRow K) [] E (tCons (tVar i) (tCons (tVar j) (tCons (tVar l) tNil)))) σ H 12 (TB 0 30) :=
  Dr.is (dr_call (M := 12) (dra_v (evk_var h0) (dra_v (evk_var h1) (dra_v (evk_var h2) dra_nil))) fun vs H1 n e1 hv st Q E q => by
    obtain ⟨_, rfl, _, rfl, _, rfl, rfl⟩ := hv
    exact ⟨s, p, ws, m, n, rfl, st, hw.ek e1, hne, hm, q⟩) rfl
/-- kind == c, kind a drawn number -/
theorem drt_kind {v : V} {c d : Int} (h : σ[i]? = some (some (.int d))) : DrT s (tTest (tOp rEq (tVar i) (tC (.int c)))) σ H 0 (· = decide (d = c)) := drt_ev fun H1 e1 => et_test (ev_op (ev_var h) ev_c rv_eqI)
end
def spTestD (K : PySem.W.Frag) : Sp := fun vs H Q _ => ∃ (s p : Addr) (l : List Str) (m : Str) (n : Nat), vs = [.ref s, .ref p, .str m] ∧ Strm s (n + 10) H ∧ WL H p l ∧ l ≠ [] ∧ Mks m ∧ ∀ v H2, Ek H H2 → Strm s n H2 → TB 0 30 v H2 → Q v H2
theorem signs_wd {m : Str} (hm : Mks m) : ∀ x ∈ signs m, Wd 1 1 x := fun x hx => by
  obtain ⟨c, hc, rfl⟩ := List.mem_map.mp hx
  exact ⟨Nat.le_refl _, Nat.le_refl _, fun d hd => by
    rw [List.mem_singleton.mp hd]
    exact hm.tk.2 c hc⟩
theorem signs_len {m : Str} (hm : Mks m) : signs m ≠ [] ∧ (signs m).length ≤ 3 := by
  have h1 : (signs m).length = m.length := by
    unfold signs
    rw [List.length_map, Array.length_toList]
    rfl
  refine ⟨fun e => ?_, by have := hm.2.1; omega⟩
  rw [e] at h1
  have := hm.1
  rw [← h1] at this
  exact absurd this (by decide)
theorem k_l_test (T : Tx K mg) : Kp P w K mg base CX0 "_law_test" 4 p_l_test (spTestD K) :=
  Kp.of T.F_l_test T.g_l_test sc_l_test (fun _ _ _ _ _ _ us hl => match us, hl with | [_, _, _], _ => rfl) (fun vs H Q E h => by obtain ⟨s, p, l, m, n, rfl, _⟩ := h; rfl) fun cdv A outer s H vs Q E hr h => ⟨_, (der_l_test T hr (k_l_of T) (k_l_draw T) (k_l_term T)).h.nox, by
    obtain ⟨st, p, l, m, n, rfl, hs, hw, hne, hm, q⟩ := h
    simp only [der_l_test]
    refine dgo_run (s := st) (m := n + 10) (d_asg (N := 1) (dr_ofS (l := ["if ", "if ", "if not "]) (a := 0) (b := 7) (by rfl) (fun H1 e1 => el_lst (ea_cons ev_c (ea_cons ev_c (ea_cons ev_c ea_nil))) (by simp)) (by simp) (by simp) (wd_l (by decide))) (by omega) fun v H1 e1 hv => ?_) hs
    obtain ⟨z, rfl, hz⟩ := hv
    refine d_asg (N := 1) (dr_draw (k := 4) (by rfl) (by exact evk_c) (by decide)) (by omega) fun v H2 e2 hv => ?_
    obtain ⟨d, rfl, _⟩ := hv
    have hw2 := hw.ek (e1.trans e2)
    refine d_when (N := 0) (drt_kind (v := .non) (by rfl)) (by omega) (fun _ => ?_) fun _ => d_when (N := 0) (drt_kind (v := .non) (by rfl)) (by omega) (fun _ => ?_) fun _ => d_when (N := 0) (drt_kind (v := .non) (by rfl)) (by omega) (fun _ => ?_) fun _ => ?_
    · exact d_ret (N := 0 + 1 + 0 + 1) (dr_add (dr_add (dr_add (dr_s (by rfl) hz) (dr_ofV (a := 1) (b := 8) (by rfl) (by rfl) hw2.1 hne (by have := hw.2.1; omega) hw.2.2) (by omega)) (dr_cs (a := 4) (b := 4) (wd_c (by decide))) (by omega)) (dr_ofV (a := 1) (b := 8) (by rfl) (by rfl) hw2.1 hne (by have := hw.2.1; omega) hw.2.2) (by omega)) (by omega) fun v H3 e3 s3 hv => q v H3 ((e1.trans e2).trans e3) (s3.mono (by omega)) (TB.le (by omega) (by omega) v H3 hv)
    · exact d_ret (N := 0 + 4 + 0 + 4) (dr_add (dr_add (dr_add (dr_s (by rfl) hz) (dr_term (by rfl) (by rfl) (by rfl) hw2 hm) (by omega)) (dr_cs (a := 4) (b := 4) (wd_c (by decide))) (by omega)) (dr_term (by rfl) (by rfl) (by rfl) hw2 hm) (by omega)) (by omega) fun v H3 e3 s3 hv => q v H3 ((e1.trans e2).trans e3) (s3.mono (by omega)) (TB.le (by omega) (by omega) v H3 hv)
    · exact d_ret (N := 0 + 4 + 0 + 4) (dr_add (dr_add (dr_add (dr_s (by rfl) hz) (dr_term (by rfl) (by rfl) (by rfl) hw2 hm) (by omega)) (dr_cs (a := 4) (b := 4) (wd_c (by decide))) (by omega)) (dr_term (by rfl) (by rfl) (by rfl) hw2 hm) (by omega)) (by omega) fun v H3 e3 s3 hv => q v H3 ((e1.trans e2).trans e3) (s3.mono (by omega)) (TB.le (by omega) (by omega) v H3 hv)
    · exact d_ret (N := 0 + 1 + 0 + 4) (dr_add (dr_add (dr_add (dr_s (by rfl) hz) (dr_ofS (l := signs m) (a := 1) (b := 1) (by rfl) (fun H3 e3 => el_listS (by exact ev_var rfl) (Nat.le_trans hm.2.1 (by decide))) (signs_len hm).1 (by have := (signs_len hm).2; omega) (signs_wd hm)) (by omega)) (dr_cs (a := 4) (b := 4) (wd_c (by decide))) (by omega)) (dr_term (by rfl) (by rfl) (by rfl) hw2 hm) (by omega)) (by omega) fun v H3 e3 s3 hv => q v H3 ((e1.trans e2).trans e3) (s3.mono (by omega)) (TB.le (by omega) (by omega) v H3 hv)⟩
def spLast (K : PySem.W.Frag) : Sp := fun vs H Q _ => ∃ (s p : Addr) (l : List Str) (m : Str) (n : Nat), vs = [.ref s, .ref p, .str m] ∧ Strm s (n + 9) H ∧ WL H p l ∧ Mks m ∧ ∀ v H2, Ek H H2 → Strm s n H2 → TB 0 30 v H2 → Q v H2
theorem k_l_last (T : Tx K mg) : Kp P w K mg base CX0 "_law_last" 4 p_l_last (spLast K) :=
  Kp.of T.F_l_last T.g_l_last sc_l_last (fun _ _ _ _ _ _ us hl => match us, hl with | [_, _, _], _ => rfl) (fun vs H Q E h => by obtain ⟨s, p, l, m, n, rfl, _⟩ := h; rfl) fun cdv A outer s H vs Q E hr h => ⟨_, (der_l_last T hr (k_l_draw T) (k_l_term T)).h.nox, by
    obtain ⟨st, p, l, m, n, rfl, hs, hw, hm, q⟩ := h
    simp only [der_l_last]
    refine dgo_run (s := st) (m := n + 9) (d_asg (N := 1) (dr_draw (k := 4) (by rfl) (by exact evk_c) (by decide)) (by omega) fun v H1 e1 hv => ?_) hs
    obtain ⟨d, rfl, _⟩ := hv
    have hw1 := hw.ek e1
    refine d_when (N := 0) (drt_kind (v := .non) (by rfl)) (by omega) (fun _ => d_ret (N := 0) (dr_cs (a := 0) (b := 4) (wd_c (by decide))) (by omega) fun v H3 e3 s3 hv => q v H3 (e1.trans e3) (s3.mono (by omega)) (TB.le (by omega) (by omega) v H3 hv)) fun _ => ?_
    refine d_asg (N := 0 + 4) (dr_add (dr_cs (a := 5) (b := 5) (wd_c (by decide))) (dr_term (by rfl) (by rfl) (by rfl) hw1 hm) (by omega)) (by omega) fun v H2 e2 hv => ?_
    obtain ⟨z, rfl, hz⟩ := hv
    have hw2 := hw1.ek e2
    refine d_retIf (N := 0) (drt_kind (v := .non) (by rfl)) (by omega) (fun _ => ?_) fun _ => ?_
    · exact d_ret (N := 0) (dr_s (by rfl) hz) (by omega) fun v H3 e3 s3 hv => q v H3 ((e1.trans e2).trans e3) (s3.mono (by omega)) (TB.le (by omega) (by omega) v H3 hv)
    · exact d_ret (N := 0 + 0 + 4) (dr_add (dr_add (dr_s (by rfl) hz) (dr_cs (a := 6) (b := 6) (wd_c (by decide))) (by omega)) (dr_term (by rfl) (by rfl) (by rfl) hw2 hm) (by omega)) (by omega) fun v H3 e3 s3 hv => q v H3 ((e1.trans e2).trans e3) (s3.mono (by omega)) (TB.le (by omega) (by omega) v H3 hv)⟩
end
end K27

set_option maxRecDepth 100000
set_option maxHeartbeats 4000000
/-! tokens, words -/
namespace K27
open PySem PySem.Spec PyProof.Rows L2 Evl
section
variable {P : Program} {w : World} {K : PySem.W.Frag} {mg : PySem.Str → Option Value} {base : Heap}
def spToken (K : PySem.W.Frag) : Sp := fun vs H Q _ => ∃ (s p : Addr) (l : List Str) (m o : Str) (n : Nat), vs = [.ref s, .ref p, .str m, .str o] ∧ Strm s (n + 4) H ∧ WL H p l ∧ l ≠ [] ∧ Mks m ∧ Wd 0 8 o ∧ ∀ v H2, Ek H H2 → Strm s n H2 → TB 0 12 v H2 → Q v H2
theorem Wd.le {a b c d : Nat} {x : Str} (h : Wd a b x) (h1 : c ≤ a) (h2 : b ≤ d) : Wd c d x := ⟨Nat.le_trans h1 h.1, h.2.mono h2⟩
theorem dr_elS {s : Addr} {te : TE} {σ : L2.St} {H : Hp} {l : List Str} {xs : List V} (h : ∀ H1, Ek H H1 → EvL te σ H1 xs) (e : xs = l.map V.str) : ∀ H1, Ek H H1 → EvL te σ H1 (l.map V.str) := by
  rw [← e]
  exact h
theorem ev_addT {σ : L2.St} {H : Hp} {ta tb : TE} {x y : Str} (ha : Ev ta σ H (.str x)) (hb : Ev tb σ H (.str y)) (hz : x.length + y.length ≤ 100000) : Ev (tOp rAddT ta tb) σ H (.str (x ++ y)) := ev_op ha hb fun H1 e Q q => ⟨x, y, rfl, rfl, sz_of hz, q H1 (Ex.refl H1)⟩
/-- a new list: each item told by what it is -/
def Itm (te : TE) (σ : L2.St) (H : Hp) (W : Str → Prop) : Prop := ∀ H1, Ex H H1 → ∀ Q : VK, (∀ (x : Str) H2, Ex H1 H2 → W x → Q (.str x) H2) → te σ H1 Q
def ItmA (ta : TA) (σ : L2.St) (H : Hp) (W : Str → Prop) (k : Nat) : Prop := ∀ H1, Ex H H1 → ∀ Q : List V → Hp → Prop, (∀ (l : List Str) H2, Ex H1 H2 → l.length = k → (∀ x ∈ l, W x) → Q (l.map V.str) H2) → ta σ H1 Q
section
variable {σ : L2.St} {H : Hp} {te tf : TE} {ta : TA} {W : Str → Prop} {k : Nat}
theorem itm_ev {x : Str} (h : Ev te σ H (.str x)) (hW : W x) : Itm te σ H W := fun H1 e Q q => h H1 e Q fun H2 e2 => q x H2 e2 hW
theorem itm_nil : ItmA tNil σ H W 0 := fun H1 e Q q => q [] H1 (Ex.refl H1) rfl fun x h => by cases h
theorem itm_cons (h : Itm te σ H W) (hr : ItmA ta σ H W k) : ItmA (tCons te ta) σ H W (k + 1) := fun H1 e Q q => h H1 e _ fun x H2 e2 hx => hr H2 (e.trans e2) _ fun l H3 e3 hl hW => q (x :: l) H3 (e2.trans e3) (by rw [List.length_cons, hl]) fun y hy => by
  rcases List.mem_cons.mp hy with rfl | hy
  · exact hx
  · exact hW y hy
theorem itm_add {a b c d : Nat} (h : Itm te σ H (Wd a b)) (h2 : Itm tf σ H (Wd c d)) (hz : b + d ≤ 100000) : Itm (tOp rAddT te tf) σ H (Wd (a + c) (b + d)) := fun H1 e Q q => h H1 e _ fun x H2 e2 hx => h2 H2 (e.trans e2) _ fun y H3 e3 hy =>
  ⟨x, y, rfl, rfl, sz_of (by have := hx.2.1; have := hy.2.1; omega), q (x ++ y) H3 (e2.trans e3) ⟨by rw [len_app]; have := hx.1; have := hy.1; omega, tk_app hx.2 hy.2⟩⟩
theorem itm_imp {W' : Str → Prop} (h : Itm te σ H W) (hi : ∀ x, W x → W' x) : Itm te σ H W' := fun H1 e Q q => h H1 e Q fun x H2 e2 hx => q x H2 e2 (hi x hx)
theorem itm_rev {z : Str} {b : Nat} (h : Ev te σ H (.str z)) (hz : Tk b z) (hb : b ≤ 100000) : Itm (tRevS te) σ H (Wd 0 b) := fun H1 e Q q => h H1 e _ fun H2 e2 => ⟨z, rfl, Nat.le_trans hz.1 hb, fun y h1 h2 => q y H2 e2 ⟨Nat.zero_le _, Nat.le_trans h1 hz.1, fun c hc => hz.2 c (h2 c hc)⟩⟩
theorem dr_catItm {s p : Addr} {l : List Str} (h : EvK te σ H (.ref p)) (hp : H p = some (.lst (l.map V.str))) (hi : ∀ H1, Ek H H1 → ItmA ta σ H1 W k) (hW : ∀ x ∈ l, W x) (hz : l.length + k ≤ 1000) : Dr s (tOp rCat te (tLst ta)) σ H 0 (LB (l.length + k) (l.length + k) W) := fun n H1 ek hs Q q =>
  h H1 ek H1 (Ex.refl H1) _ fun H2 e2 => hi H2 (ek.trans (Ek.of e2)) H2 (Ex.refl H2) _ fun l2 H3 e3 hl hW2 => ⟨sz_of (by rw [List.length_map]; omega), fun p2 hp2 => ⟨p, p2, l.map V.str, l2.map V.str, rfl, rfl, Ex.new hp2 _ _ ((e2.trans e3) _ _ (ek.strs hp)), upd_same, sz_of (by rw [List.length_map, List.length_map]; omega), fun p3 hp3 =>
    q _ _ (Ek.of (((e2.trans e3).trans (Ex.new hp2)).trans (Ex.new hp3))) (hs.ex (((e2.trans e3).trans (Ex.new hp2)).trans (Ex.new hp3))) ⟨p3, l ++ l2, rfl, by rw [List.map_append]; exact upd_same, by rw [List.length_append, hl]; exact Nat.le_refl _, by rw [List.length_append, hl]; exact Nat.le_refl _, fun x hx => (List.mem_append.mp hx).elim (hW x) (hW2 x)⟩⟩⟩
end
theorem k_l_token (T : Tx K mg) : Kp P w K mg base CX0 "_law_token" 3 p_l_token (spToken K) :=
  Kp.of T.F_l_token T.g_l_token sc_l_token (fun _ _ _ _ _ _ us hl => match us, hl with | [_, _, _, _], _ => rfl) (fun vs H Q E h => by obtain ⟨s, p, l, m, o, n, rfl, _⟩ := h; rfl) fun cdv A outer s H vs Q E hr h => ⟨_, (der_l_token T hr (k_l_draw T) (k_l_of T) (k_l_drawn_contents T)).h.nox, by
    obtain ⟨st, p, l, m, o, n, rfl, hs, hw, hne, hm, ho, q⟩ := h
    simp only [der_l_token]
    have hml : m.cps.toList.length = m.length := Array.length_toList
    have hm3 := hm.2.1
    have hm1 := hm.1
    have wm : Wd 0 3 m := ⟨Nat.zero_le _, hm.tk⟩
    refine dgo_run (s := st) (m := n + 4) (d_asg (N := 1) (dr_draw (k := 6) (by rfl) (by exact evk_c) (by decide)) (by omega) fun v H1 e1 hv => ?_) hs
    obtain ⟨d, rfl, _⟩ := hv
    have hw1 := hw.ek e1
    refine d_when (N := 0) (drt_kind (v := .non) (by rfl)) (by omega) (fun _ => ?_) fun _ => d_when (N := 0) (drt_kind (v := .non) (by rfl)) (by omega) (fun _ => ?_) fun _ => d_when (N := 0) (drt_kind (v := .non) (by rfl)) (by omega) (fun _ => ?_) fun _ =>
      d_when (N := 0) (drt_kind (v := .non) (by rfl)) (by omega) (fun _ => ?_) fun _ => d_when (N := 0) (drt_kind (v := .non) (by rfl)) (by omega) (fun _ => ?_) fun _ => ?_
    · exact d_ret (N := 1) (dr_ofV (a := 1) (b := 8) (by rfl) (by rfl) hw1.1 hne (by have := hw.2.1; omega) hw.2.2) (by omega) fun v H3 e3 s3 hv => q v H3 (e1.trans e3) (s3.mono (by omega)) (TB.le (by omega) (by omega) v H3 hv)
    · exact d_ret (N := 0 + 3 + 0) (dr_add (a := 1 + 0) (b := 1 + 3) (c := 1) (d := 1) (dr_add (a := 1) (b := 1) (c := 0) (d := 3) (dr_cs (wd_c (by decide))) (dr_cont (by rfl) (by rfl) hm) (by omega)) (dr_cs (wd_c (by decide))) (by omega)) (by omega) fun v H3 e3 s3 hv => q v H3 (e1.trans e3) (s3.mono (by omega)) (TB.le (by omega) (by omega) v H3 hv)
    · exact d_ret (N := 1) (dr_ofS (l := ["=", "|=", "&=", "-=", "^=", "|", "&", "-", "^"]) (a := 0) (b := 12) (by rfl) (fun H1 e1 => el_lst (ea_cons ev_c (ea_cons ev_c (ea_cons ev_c (ea_cons ev_c (ea_cons ev_c (ea_cons ev_c (ea_cons ev_c (ea_cons ev_c (ea_cons ev_c ea_nil))))))))) (by simp)) (by simp) (by simp) (wd_l (by decide))) (by omega) fun v H3 e3 s3 hv => q v H3 (e1.trans e3) (s3.mono (by omega)) hv
    · exact d_ret (N := 1) (dr_ofS (l := ["if", "not", "in", "is", "==", "<=", "else", "end", "stop", "fail", "from"]) (a := 0) (b := 12) (by rfl) (fun H1 e1 => el_lst (ea_cons ev_c (ea_cons ev_c (ea_cons ev_c (ea_cons ev_c (ea_cons ev_c (ea_cons ev_c (ea_cons ev_c (ea_cons ev_c (ea_cons ev_c (ea_cons ev_c (ea_cons ev_c ea_nil))))))))))) (by simp)) (by simp) (by simp) (wd_l (by decide))) (by omega) fun v H3 e3 s3 hv => q v H3 (e1.trans e3) (s3.mono (by omega)) hv
    · refine d_ret (N := 1) (dr_ofS (l := signs m ++ [("item" : Str), ("out" : Str), o]) (a := 0) (b := 12) (by rfl) (fun H1 e1 => el_is (el_cat (EvL.m (el_listS (by exact ev_var rfl) (by omega))) (EvL.m (el_lst (ea_cons ev_c (ea_cons ev_c (ea_cons (by exact ev_var rfl) ea_nil))) (by simp))) (by rw [List.length_map]; have := (signs_len hm).2; simp; omega)) (by rw [List.map_append]; rfl)) (by simp) (by rw [List.length_append]; have := (signs_len hm).2; simp; omega) fun x hx => ?_) (by omega) fun v H3 e3 s3 hv => q v H3 (e1.trans e3) (s3.mono (by omega)) hv
      rcases List.mem_append.mp hx with hx | hx
      · exact (signs_wd hm x hx).le (by omega) (by omega)
      · have hx' : x = "item" ∨ x = "out" ∨ x = o := by simpa using hx
        rcases hx' with rfl | rfl | rfl
        · exact wd_c (by decide)
        · exact wd_c (by decide)
        · exact ho.le (by omega) (by omega)
    · refine d_asgL (xs := ([("" : Str), "answer", "given", "caller", "task", "module", "marks", "{", "}", "G", "=|", "!=", "abcdefghi"] : List Str).map V.str) (fun H1 e1 => el_lst (ea_cons ev_c (ea_cons ev_c (ea_cons ev_c (ea_cons ev_c (ea_cons ev_c (ea_cons ev_c (ea_cons ev_c (ea_cons ev_c (ea_cons ev_c (ea_cons ev_c (ea_cons ev_c (ea_cons ev_c (ea_cons ev_c ea_nil))))))))))))) (by simp)) fun p1 H2 _ e2 h2 => ?_
      have hml2 : m.cps.toList ≠ [] := fun e => by
        rw [e] at hml
        have : (0 : Nat) = m.length := hml
        omega
      obtain ⟨c1, hlast⟩ : ∃ c1, m.cps.toList.getLast? = some c1 := ⟨_, List.getLast?_eq_some_getLast hml2⟩
      have tc1 : Wd 0 1 (⟨#[c1]⟩ : Str) := ⟨Nat.zero_le _, Nat.le_refl _, fun d hd => by
        rw [List.mem_singleton.mp hd]
        exact hm.tk.2 c1 (List.mem_of_getLast? hlast)⟩
      have h2' : H2 p1 = some (.lst (([("" : Str), "answer", "given", "caller", "task", "module", "marks", "{", "}", "G", "=|", "!=", "abcdefghi"] : List Str).map V.str)) := h2
      refine d_asg (N := 0) (dr_catItm (k := 6) (W := Wd 0 12) (by exact evk_var rfl) h2' (fun H3 e3 => itm_cons (itm_ev ev_c (wd_c (by decide))) (itm_cons (itm_imp (itm_add (itm_add (itm_ev (W := Wd 1 1) ev_c (wd_c (by decide))) (itm_ev (W := Wd 0 3) (by exact ev_var rfl) wm) (by omega)) (itm_ev (W := Wd 2 2) ev_c (wd_c (by decide))) (by omega)) fun x hx => hx.le (by omega) (by omega))
          (itm_cons (itm_imp (itm_add (itm_add (itm_ev (W := Wd 1 1) ev_c (wd_c (by decide))) (itm_rev (z := m) (by exact ev_var rfl) hm.tk (by omega)) (by omega)) (itm_ev (W := Wd 1 1) ev_c (wd_c (by decide))) (by omega)) fun x hx => hx.le (by omega) (by omega)) (itm_cons (itm_ev ev_c (wd_c (by decide))) (itm_cons (itm_ev ev_c (wd_c (by decide)))
            (itm_cons (itm_imp (itm_add (itm_add (itm_ev (W := Wd 1 1) ev_c (wd_c (by decide))) (itm_ev (W := Wd 0 2) (ev_op (ev_op (by exact ev_var rfl) (ev_un ev_c ru_neg) (rv_ixS (by omega) (at_last hlast))) ev_c (fun H4 e4 Q' q' => ⟨_, 2, rfl, rfl, by decide, by decide, by show 1 ≤ 100000; omega, q' H4 (Ex.refl H4)⟩)) ⟨Nat.zero_le _, (tk_mul tc1.2 (by decide) (by decide)).mono (by decide)⟩) (by omega)) (itm_ev (W := Wd 1 1) ev_c (wd_c (by decide))) (by omega)) fun x hx => hx.le (by omega) (by omega)) itm_nil)))))) (wd_l (by decide)) (by decide)) (by omega) fun v H3 e3 hv => ?_
      obtain ⟨p3, l3, rfl, h3, hl3, hl3', hW3⟩ := hv
      exact d_ret (N := 1) (dr_ofV (a := 0) (b := 12) (by rfl) (by rfl) h3 (fun e => by rw [e] at hl3; exact absurd hl3 (by decide)) (Nat.le_trans hl3' (by decide)) hW3) (by omega) fun v H4 e4 s4 hv => q v H4 (((e1.trans e2).trans e3).trans e4) (s4.mono (by omega)) hv⟩
section
variable {s : Addr} {σ : L2.St} {H : Hp} {E : XK} {i j l k : Nat} {p : Addr} {ws : List Str} {m o : Str}
theorem dr_token (h0 : σ[i]? = some (some (.ref s))) (h1 : σ[j]? = some (some (.ref p))) (h2 : σ[l]? = some (some (.str m))) (h3 : σ[k]? = some (some (.str o))) (hw : WL H p ws) (hne : ws ≠ []) (hm : Mks m) (ho : Wd 0 8 o) : Dr s (tCall (spToken K) [] E (tCons (tVar i) (tCons (tVar j) (tCons (tVar l) (tCons (tVar k) tNil))))) σ H 4 (TB 0 12) :=
  Dr.is (dr_call (M := 4) (dra_v (evk_var h0) (dra_v (evk_var h1) (dra_v (evk_var h2) (dra_v (evk_var h3) dra_nil)))) fun vs H1 n e1 hv st Q E q => by
    obtain ⟨_, rfl, _, rfl, _, rfl, _, rfl, rfl⟩ := hv
    exact ⟨s, p, ws, m, o, n, rfl, st, hw.ek e1, hne, hm, ho, q⟩) rfl
theorem dr_test (h0 : σ[i]? = some (some (.ref s))) (h1 : σ[j]? = some (some (.ref p))) (h2 : σ[l]? = some (some (.str m))) (hw : WL H p ws) (hne : ws ≠ []) (hm : Mks m) : Dr s (tCall (spTestD K) [] E (tCons (tVar i) (tCons (tVar j) (tCons (tVar l) tNil)))) σ H 10 (TB 0 30) :=
  Dr.is (dr_call (M := 10) (dra_v (evk_var h0) (dra_v (evk_var h1) (dra_v (evk_var h2) dra_nil))) fun vs H1 n e1 hv st Q E q => by
    obtain ⟨_, rfl, _, rfl, _, rfl, rfl⟩ := hv
    exact ⟨s, p, ws, m, n, rfl, st, hw.ek e1, hne, hm, q⟩) rfl
theorem dr_last (h0 : σ[i]? = some (some (.ref s))) (h1 : σ[j]? = some (some (.ref p))) (h2 : σ[l]? = some (some (.str m))) (hw : WL H p ws) (hm : Mks m) : Dr s (tCall (spLast K) [] E (tCons (tVar i) (tCons (tVar j) (tCons (tVar l) tNil)))) σ H 9 (TB 0 30) :=
  Dr.is (dr_call (M := 9) (dra_v (evk_var h0) (dra_v (evk_var h1) (dra_v (evk_var h2) dra_nil))) fun vs H1 n e1 hv st Q E q => by
    obtain ⟨_, rfl, _, rfl, _, rfl, rfl⟩ := hv
    exact ⟨s, p, ws, m, n, rfl, st, hw.ek e1, hm, q⟩) rfl
end
end
end K27

set_option maxRecDepth 100000
set_option maxHeartbeats 4000000
/-! words -/
namespace K27
open PySem PySem.Spec PyProof.Rows L2 Evl
theorem low_lower : ∀ c ∈ MKS.cps.toList, (Txt.lower ⟨#[c]⟩).cps.toList.all (fun d => decide (d < 128)) = true ∧ (Txt.lower ⟨#[c]⟩).length = 1 := by decide +kernel
theorem low_find : ∀ j ∈ List.range 26, Txt.find LOW ⟨#[LOW.cps.toList.getD j 97]⟩ = (j : Int) := by decide +kernel
theorem low_inj : ∀ i ∈ List.range 26, ∀ j ∈ List.range 26, LOW.cps.toList.getD i 97 = LOW.cps.toList.getD j 97 → i = j := by decide +kernel
theorem low_len : LOW.cps.toList.length = 26 := by decide +kernel
theorem low_lt : ∀ c ∈ LOW.cps.toList, c < 128 := by decide +kernel
theorem low_at {j : Nat} (h : j < 26) : LOW.cps.toList[j]? = some (LOW.cps.toList.getD j 97) := by
  rw [List.getD_eq_getElem?_getD, List.getElem?_eq_getElem (by rw [low_len]; exact h)]
  rfl
theorem low_mem {j : Nat} (h : j < 26) : LOW.cps.toList.getD j 97 ∈ LOW.cps.toList := List.mem_of_getElem? (low_at h)
/-- the word behind -/
def nx1 (w : Str) : Str := ⟨(w.cps.toList.dropLast ++ [LOW.cps.toList.getD ((Txt.find LOW ⟨#[w.cps.toList.getLastD 0]⟩ + 1) % 26).toNat 97]).toArray⟩
def nxk : Nat → Str → Str
  | 0, w => w
  | k + 1, w => nxk k (nx1 w)
def mkw (p : List Nat) (j : Nat) : Str := ⟨(p ++ [LOW.cps.toList.getD (j % 26) 97]).toArray⟩
theorem nx1_mk {p : List Nat} {j : Nat} : nx1 (mkw p j) = mkw p (j + 1) := by
  unfold nx1 mkw
  have h1 : ((p ++ [LOW.cps.toList.getD (j % 26) 97]).toArray).toList = p ++ [LOW.cps.toList.getD (j % 26) 97] := rfl
  show (⟨((p ++ [LOW.cps.toList.getD (j % 26) 97]).dropLast ++ [LOW.cps.toList.getD ((Txt.find LOW ⟨#[(p ++ [LOW.cps.toList.getD (j % 26) 97]).getLastD 0]⟩ + 1) % 26).toNat 97]).toArray⟩ : Str) = _
  rw [List.dropLast_concat, List.getLastD_concat, low_find (j % 26) (List.mem_range.mpr (Nat.mod_lt _ (by decide)))]
  rw [show (((j % 26 : Nat) : Int) + 1) % 26 = (((j + 1) % 26 : Nat) : Int) by omega, Int.toNat_natCast]
theorem nxk_mk {p : List Nat} : ∀ {k j : Nat}, nxk k (mkw p j) = mkw p (j + k)
  | 0, j => rfl
  | k + 1, j => by
    show nxk k (nx1 (mkw p j)) = _
    rw [nx1_mk, nxk_mk, Nat.add_assoc, Nat.add_comm 1 k]
theorem mkw_inj {p : List Nat} {i j : Nat} (h : mkw p i = mkw p j) : i % 26 = j % 26 := by
  have h1 : TL.tl (mkw p i) = TL.tl (mkw p j) := congrArg TL.tl h
  have h2 : p ++ [LOW.cps.toList.getD (i % 26) 97] = p ++ [LOW.cps.toList.getD (j % 26) 97] := h1
  have h3 := List.append_cancel_left h2
  exact low_inj _ (List.mem_range.mpr (Nat.mod_lt _ (by decide))) _ (List.mem_range.mpr (Nat.mod_lt _ (by decide))) (List.cons.inj h3).1
theorem nx_free (w : Str) (B : List Str) (hB : B.length ≤ 25) : ∃ k, nxk k w ∉ B := by
  by_cases h : ∃ k, nxk k w ∉ B
  · exact h
  · have hall : ∀ k, nxk k w ∈ B := fun k => Classical.byContradiction fun hk => h ⟨k, hk⟩
    exfalso
    have hj : ((Txt.find LOW ⟨#[w.cps.toList.getLastD 0]⟩ + 1) % 26).toNat < 26 := by omega
    have e1 : nx1 w = mkw w.cps.toList.dropLast ((Txt.find LOW ⟨#[w.cps.toList.getLastD 0]⟩ + 1) % 26).toNat := by
      unfold nx1 mkw
      rw [Nat.mod_eq_of_lt hj]
    have h2 : ∀ k, mkw w.cps.toList.dropLast (((Txt.find LOW ⟨#[w.cps.toList.getLastD 0]⟩ + 1) % 26).toNat + k) ∈ B := fun k => by
      have := hall (k + 1)
      have e2 : nxk (k + 1) w = nxk k (nx1 w) := rfl
      rw [e2, e1, nxk_mk] at this
      exact this
    have nd : ((List.range 26).map fun k => mkw w.cps.toList.dropLast (((Txt.find LOW ⟨#[w.cps.toList.getLastD 0]⟩ + 1) % 26).toNat + k)).Nodup := by
      refine List.pairwise_map.mpr (List.Pairwise.imp_of_mem (fun {a b} ha hb hne e => ?_) List.nodup_range)
      have := mkw_inj e
      have := List.mem_range.mp ha
      have := List.mem_range.mp hb
      exact hne (by omega)
    have := nodup_few nd fun x hx => by
      obtain ⟨k, _, rfl⟩ := List.mem_map.mp hx
      exact h2 k
    rw [List.length_map, List.length_range] at this
    omega
theorem nx1_wd {w : Str} (h : Wd 1 8 w) : Wd 1 8 (nx1 w) := by
  have hl : w.cps.toList.length = w.length := Array.length_toList
  have hlen : (nx1 w).length = w.length := by
    unfold nx1
    show ((w.cps.toList.dropLast ++ [_]).toArray).size = _
    rw [List.size_toArray, List.length_append, List.length_singleton, List.length_dropLast]
    have := h.1
    omega
  refine ⟨by rw [hlen]; exact h.1, by rw [hlen]; exact h.2.1, fun c hc => ?_⟩
  have hc' : c ∈ w.cps.toList.dropLast ++ [LOW.cps.toList.getD ((Txt.find LOW ⟨#[w.cps.toList.getLastD 0]⟩ + 1) % 26).toNat 97] := hc
  rcases List.mem_append.mp hc' with hc | hc
  · exact h.2.2 c (List.dropLast_subset _ hc)
  · rw [List.mem_singleton.mp hc]
    exact low_lt _ (low_mem (by omega))
theorem tk_cut {b : Nat} {z : Str} {lo hi : Option Int} (h : Tk b z) (n : Nat) (hn : HT.sIx z.length z.length hi - HT.sIx z.length 0 lo ≤ n) : Tk n (cutS z lo hi) := by
  have hc : (cutS z lo hi).cps.toList = (z.cps.toList.drop (HT.sIx z.length 0 lo)).take (HT.sIx z.length z.length hi - HT.sIx z.length 0 lo) := rfl
  refine ⟨?_, fun c hcm => ?_⟩
  · rw [TL.len_tl]
    show ((cutS z lo hi).cps.toList).length ≤ n
    rw [hc, List.length_take]
    omega
  · rw [hc] at hcm
    exact h.2 c (List.mem_of_mem_drop (List.mem_of_mem_take hcm))
section
variable {P : Program} {w : World} {K : PySem.W.Frag} {mg : PySem.Str → Option Value} {base : Heap}
section
variable {s : Addr} {σ : L2.St} {H : Hp} {te tf ta' tb' : TE} {E : XK} {i j l k m N : Nat} {tt : TT} {tu tw tz : TS} {D : Ends} {B : Bool → Prop}
theorem d_ifS (R : L2.St → Hp → Prop) (h : DrT s tt σ H N B) (hN : N ≤ m) (h1 : B true → ∀ D' : Ends, (∀ σ' H', R σ' H' → D'.nx σ' H') → DGo s tu D' σ H (m - N)) (h2 : B false → ∀ D' : Ends, (∀ σ' H', R σ' H' → D'.nx σ' H') → DGo s tw D' σ H (m - N))
    (k : ∀ σ' H', R σ' H' → tz D σ' H') : DGo s (tSeq (tIfS tt tu tw) tz) D σ H m := fun H1 ek hs => d_if (D := { D with nx := tz D }) h hN (fun hb => h1 hb _ k) (fun hb => h2 hb _ k) H1 ek hs
theorem dr_letter (h0 : σ[i]? = some (some (.ref s))) (h : σ[j]? = some (some (.str LOW))) : Dr s (tOp rIxS (tVar j) (tCall spDraw [] E (tCons (tVar i) (tCons (tC (.int 26)) tNil)))) σ H 1 (TB 1 1) :=
  Dr.is (N := 0 + 1) (dr_op (P1 := fun v _ => v = .str LOW) (P2 := IB 0 26) (dr_ev (evk_var h) fun _ _ => rfl) (fun _ _ _ _ h => h) (fun v H1 e1 _ => dr_draw h0 evk_c (by decide)) fun u v H1 e1 hu hv => by
    subst hu
    obtain ⟨d, rfl, d0, d1⟩ := hv
    obtain ⟨dn, rfl⟩ : ∃ dn : Nat, d = (dn : Int) := ⟨d.toNat, by omega⟩
    have hdn : dn < 26 := by omega
    exact ⟨_, rv_ixS (by decide +kernel) (at_nat (low_at hdn)), fun _ _ => ⟨_, rfl, Nat.le_refl _, Nat.le_refl _, fun c hc => by
      rw [List.mem_singleton.mp hc]
      exact low_lt _ (low_mem hdn)⟩⟩) (Nat.zero_add 1)
theorem dr_lower (h : Dr s te σ H N (fun v _ => ∃ c : Nat, v = .str ⟨#[c]⟩ ∧ c ∈ MKS.cps.toList)) : Dr s (tM0 rLower te) σ H N (TB 1 1) := fun n H1 ek hs Q q => h n H1 ek hs _ fun v H2 e2 s2 ⟨c, hv, hc⟩ => by
  subst hv
  obtain ⟨l1, l2⟩ := low_lower c hc
  exact ⟨⟨_, rfl⟩, _, rfl, rfl, by show 1 ≤ 5592405; omega, q _ H2 e2 s2 ⟨_, rfl, by rw [l2]; exact Nat.le_refl _, by rw [l2]; exact Nat.le_refl _, fun d hd => of_decide_eq_true (List.all_eq_true.mp l1 d hd)⟩⟩
theorem ev_find {a b : Str} (ha : Ev te σ H (.str a)) (hb : Ev tf σ H (.str b)) : Ev (tM1 rFind te tf) σ H (.int (Txt.find a b)) := fun H1 e Q q => ha H1 e _ fun H2 e2 => ⟨⟨a, rfl⟩, hb H2 (e.trans e2) _ fun H3 e3 => ⟨a, b, rfl, rfl, q H3 (e2.trans e3)⟩⟩
/-- the next word, as it is written -/
theorem ev_next {x : Str} (h : σ[i]? = some (some (.str x))) (h2 : σ[j]? = some (some (.str LOW))) (hx : Wd 1 8 x) :
    Ev (tOp rAddT (tSl rSlS (tVar i) tNoPart (tPart (tUn (rU fun i => V.int (-i)) (tC (.int 1))))) (tOp rIxS (tVar j) (tOp rModI (tCB rInt1 (tCons (tOp rAddI (tM1 rFind (tVar j) (tOp rIxS (tVar i) (tUn (rU fun i => V.int (-i)) (tC (.int 1))))) (tC (.int 1))) tNil)) (tC (.int 26))))) σ H (.str (nx1 x)) := by
  have hl : x.cps.toList.length = x.length := Array.length_toList
  have hx1 := hx.1
  have hx8 := hx.2.1
  have hne : x.cps.toList ≠ [] := fun e => by
    rw [e] at hl
    have : (0 : Nat) = x.length := hl
    omega
  have hlast : x.cps.toList.getLast? = some (x.cps.toList.getLastD 0) := by
    rw [List.getLast?_eq_some_getLast hne, List.getLastD_eq_getLast?, List.getLast?_eq_some_getLast hne]
    rfl
  have hj : ((Txt.find LOW ⟨#[x.cps.toList.getLastD 0]⟩ + 1) % 26).toNat < 26 := by omega
  have hjj : (Txt.find LOW ⟨#[x.cps.toList.getLastD 0]⟩ + 1) % 26 = ((((Txt.find LOW ⟨#[x.cps.toList.getLastD 0]⟩ + 1) % 26).toNat : Nat) : Int) := by omega
  have tcut : Tk 8 (cutS x none (some (-1))) := tk_cut hx.2 8 (by
    have : HT.sIx x.length x.length (some (-1)) ≤ x.length := HT.sIx_le _ _ (Nat.le_refl _) _
    omega)
  refine ev_is (ev_addT (ev_slS (ev_var h) eo_none (eo_some (ev_un ev_c ru_neg)) (by omega)) (ev_op (ev_var h2) (ev_is (ev_op (ev_int (ev_op (ev_find (ev_var h2) (ev_op (ev_var h) (ev_un ev_c ru_neg) (rv_ixS (by omega) (at_last hlast)))) ev_c rv_addI)) ev_c (rv_modI (by decide))) (congrArg V.int hjj)) (rv_ixS (by decide +kernel) (at_nat (low_at hj)))) (by have := tcut.1; show _ + 1 ≤ 100000; omega)) (congrArg V.str (TL.ext_tl ?_))
  rw [TL.tl_append]
  unfold nx1
  show (x.cps.toList.drop (HT.sIx x.length 0 none)).take (HT.sIx x.length x.length (some (-1)) - HT.sIx x.length 0 none) ++ [_] = x.cps.toList.dropLast ++ [_]
  have e1 : HT.sIx x.length 0 none = 0 := rfl
  have e2 : HT.sIx x.length x.length (some (-1)) = x.length - 1 := by
    show (if (-1 : Int) < 0 then ((-1 : Int) + (x.length : Int)).toNat else min (-1 : Int).toNat x.length) = _
    rw [if_pos (by decide)]
    omega
  rw [e1, e2, List.drop_zero, Nat.sub_zero, List.dropLast_eq_take, hl]
end
def spOneWord (K : PySem.W.Frag) : Sp := fun vs H Q _ => ∃ (s p : Addr) (l : List Str) (m : Str) (n : Nat), vs = [.ref s, .ref p, .str m, .int 8] ∧ Strm s (n + 20) H ∧ (H p = some (.lst (l.map V.str)) ∧ l.length ≤ 8 ∧ ∀ x ∈ l, Wd 1 8 x) ∧ Mks m ∧ ∀ v H2, Ek H H2 → Strm s n H2 → TB 1 8 v H2 → Q v H2
theorem b_l_one_word {A : Around} {cdv : Value} {outer : List Env} {s : Shared} {H : Hp} {E : XK} {Q : VK} {vs : List V} (T : Tx K mg) (hr) (h : spOneWord K vs H Q E) :
    (der_l_one_word (P := P) (w := w) (base := base) (cdv := cdv) (A := A) (outer := outer) (s := s) (H := H) (E := E) T hr (k_l_draw T) (k_l_of T) (k_l_reserved T)).t { nx := fun _ H' => Q .non H', rt := Q } (start N_l_one_word vs) H := by
  obtain ⟨st, p, l, m, n, rfl, hs, ⟨hp, hl8, hlw⟩, hm, q⟩ := h
  simp only [der_l_one_word]
  have hok : ∀ x ∈ l, PyData.strOk x = true := fun x hx => (hlw x hx).2.ok
  -- the three at once
  refine dr_draw (s := st) (σ := start N_l_one_word [.ref st, .ref p, .str m, .int 8]) (H := H) (E := E0) (k := 5) (i := 0) (by rfl) (by exact evk_c) (by decide) (n + 19) H (Ek.refl H) hs _ fun v H1 e1 s1 hv => ?_
  obtain ⟨d, rfl, _⟩ := hv
  refine ⟨_, _, _, rfl, ?_⟩
  have hp1 := e1.strs hp
  show (tSeq _ _) _ [some (.ref st), some (.ref p), some (.str m), some (.int 8), some (.str LOW), some (.int d), some (.str ""), none, none] H1
  refine dgo_run (s := st) (m := n + 19) (d_ifS (fun σ' H' => ∃ (x : Str) (x7 x8 : Option V), σ' = [some (.ref st), some (.ref p), some (.str m), some (.int 8), some (.str LOW), some (.int d), some (.str x), x7, x8] ∧ Ek H H' ∧ Strm st n H' ∧ Wd 1 8 x) (N := 0 + 0) (drt_and (drt_kind (v := .non) (by rfl)) fun _ => drt_ev (b := !decide (l = [])) fun H1 e1 => et_test (ev_neSS (m := []) hok (fun x hx => by cases hx) (eq_of (by exact ev_var rfl) (sq_of (e1.strs hp1))) (EvL.q (el_lst ea_nil (by simp))))) (by omega) (fun hb D' hD => ?_) (fun hb D' hD => ?_) fun σ' H' hR => ?_) s1
  · have hne : l ≠ [] := fun e => by
      have h1 := (hb rfl).2
      rw [decide_eq_true e] at h1
      cases h1
    refine d_asg (N := 1) (dr_ofV (a := 1) (b := 8) (by rfl) (by rfl) hp1 hne (by omega) hlw) (by omega) fun v H2 e2 hv => ?_
    obtain ⟨x, rfl, hx⟩ := hv
    have hx1 := hx.1
    have hx8 := hx.2.1
    refine d_asg (N := 1) (dr_draw (k := (x.length : Int)) (by rfl) (fun H3 e3 => ev_lenT (by exact ev_var rfl) (by omega)) ⟨by omega, by omega⟩) (by omega) fun v H3 e3 hv => ?_
    obtain ⟨a, rfl, a0, a1⟩ := hv
    obtain ⟨an, rfl⟩ : ∃ an : Nat, a = (an : Int) := ⟨a.toNat, by omega⟩
    have t1 : Tk an (cutS x none (some (an : Int))) := tk_cut hx.2 an (by
      rw [six_nat]
      omega)
    have t2 : Tk (x.length - 1 - an) (cutS x (some ((an : Int) + 1)) none) := tk_cut hx.2 _ (by
      rw [show ((an : Int) + 1) = ((an + 1 : Nat) : Int) by omega, six_nat]
      show x.length - min (an + 1) x.length ≤ _
      omega)
    refine dl_asg (N := 0 + 1 + 0) (dr_add (a := 0 + 1) (b := an + 1) (c := 0) (d := x.length - 1 - an) (dr_add (a := 0) (b := an) (c := 1) (d := 1) (dr_ev (v := .str (cutS x none (some (an : Int)))) (fun H4 e4 => ev_slS (by exact ev_var rfl) eo_none (eo_some (by exact ev_var rfl)) (by omega)) fun _ _ => ⟨_, rfl, Nat.zero_le _, t1⟩) (dr_letter (by rfl) (by rfl)) (by omega))
      (dr_ev (v := .str (cutS x (some ((an : Int) + 1)) none)) (fun H4 e4 => ev_slS (by exact ev_var rfl) (eo_some (ev_op (by exact ev_var rfl) ev_c rv_addI)) eo_none (by omega)) fun _ _ => ⟨_, rfl, Nat.zero_le _, t2⟩) (by omega)) (by omega) fun v H4 e4 s4 hv => ?_
    obtain ⟨y, rfl, hy⟩ := hv
    exact hD _ _ ⟨y, _, _, rfl, ((e1.trans e2).trans e3).trans e4, s4.mono (by omega), Wd.le hy (by omega) (by omega)⟩
  · refine d_if (N := 0) (drt_kind (v := .non) (by rfl)) (by omega) (fun _ => ?_) fun _ => ?_
    · refine dl_asg (N := 1) (dr_lower (dr_ofL (xs := (signs m).map V.str) (by rfl) (fun H2 e2 => el_listS (by exact ev_var rfl) (Nat.le_trans hm.2.1 (by decide))) own_strs (fun e => (signs_len hm).1 (List.map_eq_nil_iff.mp e)) (by rw [List.length_map]; have := (signs_len hm).2; omega) fun v hv H2 _ => ?_)) (by omega) fun v H2 e2 s2 hv => ?_
      · obtain ⟨y, hy, rfl⟩ := List.mem_map.mp hv
        obtain ⟨c, hc, rfl⟩ := List.mem_map.mp hy
        exact ⟨c, rfl, hm.2.2 c hc⟩
      · obtain ⟨y, rfl, hy⟩ := hv
        exact hD _ _ ⟨y, _, _, rfl, e1.trans e2, s2.mono (by omega), Wd.le hy (by omega) (by omega)⟩
    · show DGo st (tSeq (tFor _ _ _) tNext) D' _ H1 _
      refine d_forR (N := 0 + 1 + 0) (dra_d (P := IB 1 9) (dr_op (P1 := fun v _ => v = .int 1) (P2 := IB 0 8) (dr_ev (by exact evk_c) fun _ _ => rfl) (fun _ _ _ _ h => h) (fun v H2 e2 _ => dr_draw (by rfl) (by exact evk_var rfl) (by decide)) fun u v H2 e2 hu hv => by
        subst hu
        obtain ⟨i, rfl, i0, i1⟩ := hv
        exact ⟨_, rv_addI, fun _ _ => ⟨_, rfl, by omega, by omega⟩⟩) IB.mono fun _ _ _ _ => dra_nil) (by omega) (fun k => 1 ≤ k ∧ k ≤ 8) (fun vs H2 hv => by
          obtain ⟨v, _, rfl, ⟨i, rfl, i0, i1⟩, rfl⟩ := hv
          exact ⟨i, rfl, by omega, by omega, by omega, by omega⟩) (fun i σ' H' => ∃ (x : Str) (x8 : Option V), σ' = [some (.ref st), some (.ref p), some (.str m), some (.int 8), some (.str LOW), some (.int d), some (.str x), none, x8] ∧ Ek H H' ∧ Strm st (n + 17 - i) H' ∧ Wd i i x) (fun H2 e2 s2 => ⟨"", _, rfl, e1.trans e2, s2.mono (by omega), Nat.zero_le _, Nat.zero_le _, fun c hc => by cases hc⟩) (fun k i σ' H' hk hi pp => ?_) fun k σ' H' hk pp => ?_
      · obtain ⟨x, x8, rfl, e2, s2, hx⟩ := pp
        refine dl_asg (s := st) (H := H') (m := n + 17 - i) (N := 0 + 1) (dr_add (a := i) (b := i) (c := 1) (d := 1) (dr_s (by rfl) hx) (dr_letter (by rfl) (by rfl)) (by omega)) (by omega) (fun v H3 e3 s3 hv => ?_) H' (Ek.refl H') s2
        obtain ⟨y, rfl, hy⟩ := hv
        exact ⟨y, _, rfl, e2.trans e3, s3.mono (by omega), hy⟩
      · obtain ⟨x, x8, rfl, e2, s2, hx⟩ := pp
        exact hD _ _ ⟨x, _, _, rfl, e2, s2.mono (by omega), Wd.le hx (by omega) (by omega)⟩
  · obtain ⟨x, x7, x8, rfl, e2, s2, hx⟩ := hR
    obtain ⟨k0, hk0⟩ := nx_free x (l ++ t_RESERVED) (by rw [List.length_append]; have : t_RESERVED.length = 17 := rfl; omega)
    refine q_while (fun k σ' H' => ∃ (x : Str), σ' = [some (.ref st), some (.ref p), some (.str m), some (.int 8), some (.str LOW), some (.int d), some (.str x), x7, x8] ∧ Ek H H' ∧ Strm st n H' ∧ Wd 1 8 x ∧ nxk k x ∉ l ++ t_RESERVED) k0 ⟨x, rfl, e2, s2, hx, hk0⟩ fun k σ' H' hW => ?_
    obtain ⟨y, rfl, e3, s3, hy, hk⟩ := hW
    refine ⟨decide (y ∈ l) || decide (y ∈ t_RESERVED), et_or (et_test (ev_op (by exact ev_var rfl) (by exact ev_var rfl) (rv_inLS (sq_of (e3.strs hp))))) fun _ => et_test (ev_inQS (neg := false) (by exact ev_var rfl) (EvL.q el_res)), fun hb H2 e4 => ?_, fun hb H2 e4 => ?_⟩
    · have hin : y ∈ l ++ t_RESERVED := by
        rcases Bool.or_eq_true_iff.mp hb with h | h
        · exact List.mem_append_left _ (of_decide_eq_true h)
        · exact List.mem_append_right _ (of_decide_eq_true h)
      cases k with
      | zero => exact absurd hin hk
      | succ k =>
        refine ⟨fun σ2 H2 => ∃ (x : Str), σ2 = [some (.ref st), some (.ref p), some (.str m), some (.int 8), some (.str LOW), some (.int d), some (.str x), x7, x8] ∧ Ek H H2 ∧ Strm st n H2 ∧ Wd 1 8 x ∧ nxk k x ∉ l ++ t_RESERVED, fun σ2 H3 h3 => ⟨k, Nat.lt_succ_self k, h3⟩, ?_⟩
        exact go_run (g_asg (ev_next (by rfl) (by rfl) hy) fun H3 e5 => ⟨nx1 y, rfl, e3.trans (Ek.of (e4.trans e5)), s3.ex (e4.trans e5), nx1_wd hy, hk⟩)
    · exact ⟨.str y, rfl, q _ H2 (e3.trans (Ek.of e4)) (s3.ex e4) ⟨y, rfl, hy⟩⟩
theorem k_l_one_word (T : Tx K mg) : Kp P w K mg base CX0 "_law_one_word" 3 p_l_one_word (spOneWord K) :=
  Kp.of T.F_l_one_word T.g_l_one_word sc_l_one_word (fun _ _ _ _ _ _ us hl => match us, hl with | [_, _, _, _], _ => rfl) (fun vs H Q E h => by obtain ⟨s, p, l, m, n, rfl, _⟩ := h; rfl) fun cdv A outer s H vs Q E hr h => ⟨_, (der_l_one_word T hr (k_l_draw T) (k_l_of T) (k_l_reserved T)).h.nox, b_l_one_word T hr h⟩
end
end K27

set_option maxRecDepth 100000
set_option maxHeartbeats 4000000
/-! lists of words, of rows -/
namespace K27
open PySem PySem.Spec PyProof.Rows L2 Evl
section
variable {P : Program} {w : World} {K : PySem.W.Frag} {mg : PySem.Str → Option Value} {base : Heap}
section
variable {s : Addr} {σ : L2.St} {H : Hp} {te tb tc : TE} {tr : TA} {E : XK} {i j l k m N : Nat} {D : Ends} {tz : TS} {PA : List V → Hp → Prop}
theorem dra_l {xs : List V} (h : ∀ H1, Ek H H1 → EvL te σ H1 xs) (ho : own xs = true) (hr : DrA s tr σ H N PA) : DrA s (tCons te tr) σ H N (fun vs H2 => ∃ (p : Addr) (r : List V), vs = .ref p :: r ∧ H2 p = some (.lst xs) ∧ PA r H2) := fun n H1 ek hs Q q =>
  h H1 ek H1 (Ex.refl H1) _ fun p H2 _ e2 h2 => hr n H2 (ek.trans (Ek.of e2)) (hs.ex e2) _ fun vs H3 e3 s3 pa => q _ H3 ((Ek.of e2).trans e3) s3 ⟨p, vs, rfl, e3.lst h2 ho, pa⟩
theorem d_par3L {a b c : Nat} {xs ys zs : List V} (h1 : ∀ H1, Ek H H1 → EvL te σ H1 xs) (h2 : ∀ H1, Ek H H1 → EvL tb σ H1 ys) (h3 : ∀ H1, Ek H H1 → EvL tc σ H1 zs)
    (k : ∀ p q r H1, H p = none → H q = none → H r = none → p ≠ q → p ≠ r → q ≠ r → Ek H H1 → H1 p = some (.lst xs) → H1 q = some (.lst ys) → H1 r = some (.lst zs) → DGo s tz D (((σ.set a (some (.ref p))).set b (some (.ref q))).set c (some (.ref r))) H1 m) :
    DGo s (tSeq (tPar3 a b c (tCons te (tCons tb (tCons tc tNil)))) tz) D σ H m := fun H1 ek hs => h1 H1 ek H1 (Ex.refl H1) _ fun p H2 hp e2 g1 => h2 H2 (ek.trans (Ek.of e2)) H2 (Ex.refl H2) _ fun q H3 hq e3 g2 => h3 H3 ((ek.trans (Ek.of e2)).trans (Ek.of e3)) H3 (Ex.refl H3) _ fun r H4 hr e4 g3 =>
  ⟨.ref p, .ref q, .ref r, rfl, k p q r H4 (ek.f p hp) (ek.f q (fresh_back e2 hq)) (ek.f r (fresh_back (e2.trans e3) hr)) (ne_of_none g1 hq) (ne_of_none (e3 _ _ g1) hr) (ne_of_none g2 hr) (((ek.trans (Ek.of e2)).trans (Ek.of e3)).trans (Ek.of e4)) ((e3.trans e4) _ _ g1) (e4 _ _ g2) g3 H4 (Ek.refl H4) (hs.ex ((e2.trans e3).trans e4))⟩
theorem d_par3D {a b c M : Nat} {xs ys : List V} {P3 : V → Hp → Prop} (h1 : ∀ H1, Ek H H1 → EvL te σ H1 xs) (h2 : ∀ H1, Ek H H1 → EvL tb σ H1 ys) (o1 : own xs = true) (o2 : own ys = true) (h3 : Dr s tc σ H M P3) (hM : M ≤ m)
    (k : ∀ p q v H1, H p = none → H q = none → p ≠ q → Ek H H1 → H1 p = some (.lst xs) → H1 q = some (.lst ys) → P3 v H1 → DGo s tz D (((σ.set a (some (.ref p))).set b (some (.ref q))).set c (some v)) H1 (m - M)) :
    DGo s (tSeq (tPar3 a b c (tCons te (tCons tb (tCons tc tNil)))) tz) D σ H m := fun H1 ek hs => h1 H1 ek H1 (Ex.refl H1) _ fun p H2 hp e2 g1 => h2 H2 (ek.trans (Ek.of e2)) H2 (Ex.refl H2) _ fun q H3 hq e3 g2 => h3 (m - M) H3 ((ek.trans (Ek.of e2)).trans (Ek.of e3)) ((hs.ex (e2.trans e3)).mono (by omega)) _ fun v H4 e4 s4 pv =>
  ⟨.ref p, .ref q, v, rfl, k p q v H4 (ek.f p hp) (ek.f q (fresh_back e2 hq)) (ne_of_none g1 hq) (((ek.trans (Ek.of e2)).trans (Ek.of e3)).trans e4) (e4.lst (e3 _ _ g1) o1) (e4.lst g2 o2) pv H4 (Ek.refl H4) s4⟩
theorem d_parD {a b M : Nat} {te' : TE} {P1 P2 : V → Hp → Prop} (h1 : Dr s te σ H N P1) (hm : PMono P1) (h2 : ∀ v H1, Ek H H1 → P1 v H1 → Dr s te' σ H1 M P2) (hN : N + M ≤ m) (k : ∀ v u H1, Ek H H1 → P1 v H1 → P2 u H1 → DGo s tz D ((σ.set a (some v)).set b (some u)) H1 (m - (N + M))) :
    DGo s (tSeq (tPar a b (tCons te (tCons te' tNil))) tz) D σ H m := fun H1 ek hs => h1 (m - N) H1 ek (hs.mono (by omega)) _ fun v H2 e2 s2 pv => h2 v H2 (ek.trans e2) pv (m - (N + M)) H2 (Ek.refl H2) (s2.mono (by omega)) _ fun u H3 e3 s3 pu =>
  ⟨v, u, rfl, k v u H3 ((ek.trans e2).trans e3) (hm v H2 H3 e3 pv) pu H3 (Ek.refl H3) s3⟩
theorem el_listM {p : Addr} {xs : List V} {H : Hp} (h : Ev te σ H (.ref p)) (hp : H p = some (.lst xs)) : EvL (tCB (rListQ K) (tCons te tNil)) σ H xs := el_listQ (eq_of h (sq_of hp))
end
def spDWords (K : PySem.W.Frag) : Sp := fun vs H Q _ => ∃ (s p : Addr) (l : List Str) (m : Str) (k n : Nat), vs = [.ref s, .ref p, .str m, .int k, .int 8] ∧ Strm s (n + 60) H ∧ (H p = some (.lst (l.map V.str)) ∧ l.length ≤ 4 ∧ ∀ x ∈ l, Wd 1 8 x) ∧ k ≤ 3 ∧ Mks m ∧ ∀ v H2, Ek H H2 → Strm s n H2 → LB k k (Wd 1 8) v H2 → Q v H2
theorem k_l_drawn_words (T : Tx K mg) : Kp P w K mg base CX0 "_law_drawn_words" 4 p_l_drawn_words (spDWords K) :=
  Kp.of T.F_l_drawn_words T.g_l_drawn_words sc_l_drawn_words (fun _ _ _ _ _ _ us hl => match us, hl with | [_, _, _, _, _], _ => rfl) (fun vs H Q E h => by obtain ⟨s, p, l, m, k, n, rfl, _⟩ := h; rfl) fun cdv A outer s H vs Q E hr h => ⟨_, (der_l_drawn_words T hr (k_l_one_word T)).h.nox, by
    obtain ⟨st, p, l, m, k, n, rfl, hs, ⟨hp, hl4, hlw⟩, hk, hm, q⟩ := h
    simp only [der_l_drawn_words]
    refine dgo_run (s := st) (m := n + 60) (d_asgL (xs := []) (fun H1 e1 => el_lst ea_nil (by simp)) fun fp H1 hfp e1 h1 => ?_) hs
    refine d_forR (N := 0) (dra_v (v := .int k) (by exact evk_var rfl) dra_nil) (by omega) (fun j => j = (k : Int)) (fun vs H2 hv => by
      obtain ⟨_, rfl, rfl⟩ := hv
      exact ⟨k, rfl, by omega, by omega, rfl⟩) (fun i σ' H' => ∃ (f : List Str) (x6 : Option V), σ' = [some (.ref st), some (.ref p), some (.str m), some (.int k), some (.int 8), some (.ref fp), x6] ∧ Ek H H' ∧ Strm st (n + 60 - 20 * i) H' ∧ H' fp = some (.lst (f.map V.str)) ∧ f.length = i ∧ ∀ x ∈ f, Wd 1 8 x)
      (fun H2 e2 s2 => ⟨[], _, rfl, e1.trans e2, s2.mono (by omega), e2.strs (l := []) h1, rfl, fun x h => by cases h⟩) (fun j i σ' H' hj hi pp => ?_) fun j σ' H' hj pp => ?_
    · subst hj
      obtain ⟨f, x6, rfl, e2, s2, hf, hfl, hfw⟩ := pp
      have hi3 : i < 3 := by omega
      refine dl_app (s := st) (H := H') (m := n + 60 - 20 * i) (N := 0 + 20) hf own_strs (by exact evk_var rfl) (dr_call (M := 20) (P := TB 1 8) (dra_v (by exact evk_var rfl) (dra_l (xs := (l ++ f).map V.str) (fun H3 e3 => el_is (el_cat (em_of (by exact ev_var rfl) ((e2.trans e3).strs hp)) (em_of (by exact ev_var rfl) (e3.strs hf)) (by rw [List.length_map, List.length_map]; omega)) (by rw [List.map_append])) own_strs (dra_v (by exact evk_var rfl) (dra_v (by exact evk_var rfl) dra_nil)))) fun vs H3 n' e3 hv st' Q' E' q' => ?_) (by omega) (by rw [List.length_map]; omega) (fun v H3 e3 s3 hv h3 => ?_) H' (Ek.refl H') s2
      · obtain ⟨_, rfl, p2, _, rfl, hp2, _, rfl, _, rfl, rfl⟩ := hv
        exact ⟨st, p2, l ++ f, m, n', rfl, st', ⟨hp2, by rw [List.length_append]; omega, fun x hx => (List.mem_append.mp hx).elim (hlw x) (hfw x)⟩, hm, q'⟩
      · obtain ⟨x, rfl, hx⟩ := hv
        refine ⟨f ++ [x], _, rfl, Ek.mut (e2.trans e3) hfp, Strm.mono (Strm.mut s3 h3 own_strs) (by omega), ?_, ?_, fun y hy => ?_⟩
        · rw [List.map_append]
          exact upd_same
        · rw [List.length_append, List.length_singleton]
          omega
        · rcases List.mem_append.mp hy with hy | hy
          · exact hfw y hy
          · rw [List.mem_singleton.mp hy]
            exact hx
    · subst hj
      obtain ⟨f, x6, rfl, e2, s2, hf, hfl, hfw⟩ := pp
      rw [Int.toNat_natCast] at hfl
      exact ⟨_, rfl, q _ H' e2 (s2.mono (by rw [Int.toNat_natCast]; omega)) ⟨fp, f, rfl, hf, by omega, by omega, hfw⟩⟩⟩
def spPlains (K : PySem.W.Frag) : Sp := fun vs H Q _ => ∃ (s kp fp : Addr) (kn fr : List Str) (most : Nat) (m : Str) (n : Nat), vs = [.ref s, .ref kp, .ref fp, .int most, .str m] ∧ Strm s (n + 80) H ∧ (H kp = some (.lst (kn.map V.str)) ∧ kn.length ≤ 4 ∧ ∀ x ∈ kn, Wd 1 8 x) ∧
  (H fp = some (.lst (fr.map V.str)) ∧ fr.length ≤ 4 ∧ ∀ x ∈ fr, Wd 1 8 x) ∧ (fr.length ≤ most ∧ most ≤ 5) ∧ Mks m ∧ ∀ v H2, Ek H H2 → Strm s n H2 → LB 0 most (Wd 0 30) v H2 → Q v H2
theorem b_l_plains {A : Around} {cdv : Value} {outer : List Env} {s : Shared} {H : Hp} {E : XK} {Q : VK} {vs : List V} (T : Tx K mg) (hr) (h : spPlains K vs H Q E) :
    (der_l_plains (P := P) (w := w) (base := base) (cdv := cdv) (A := A) (outer := outer) (s := s) (H := H) (E := E) T hr (k_l_draw T) (k_l_binding T) (k_l_plain_row T)).t { nx := fun _ H' => Q .non H', rt := Q } (start N_l_plains vs) H := by
  obtain ⟨st, kp0, fp0, kn, fr, most, m, n, rfl, hs, ⟨hkp, hkl, hkw⟩, ⟨hfp, hfl, hfw⟩, ⟨hfm, hmo⟩, hm, q⟩ := h
  simp only [der_l_plains]
  have hfll : ((fr.map V.str).length : Int) = (fr.length : Int) := by rw [List.length_map]
  refine dgo_run (s := st) (m := n + 80) (d_par3L (xs := []) (fun H1 e1 => el_lst ea_nil (by simp)) (fun H1 e1 => el_listM (by exact ev_var rfl) (e1.strs hkp)) (fun H1 e1 => el_listM (by exact ev_var rfl) (e1.strs hfp)) fun rp kp lp H1 hrp hkp1 hlp n1 n2 n3 e1 g1 g2 g3 => ?_) hs
  refine d_asg (N := 1) (dr_draw (k := (most : Int) - (fr.length : Int) + 1) (by rfl) (fun H2 e2 => ev_op (ev_op (by exact ev_var rfl) (ev_is (ev_lenQ (eq_of (by exact ev_var rfl) (sq_of ((e1.trans e2).strs hfp)))) (congrArg V.int hfll)) rv_subI) ev_c rv_addI) ⟨by omega, by omega⟩) (by omega) fun v H2 e2 hv => ?_
  obtain ⟨ex0, rfl, _⟩ := hv
  refine d_forR (N := 0) (dra_v (v := .int most) (by exact evk_var rfl) dra_nil) (by omega) (fun j => j = (most : Int)) (fun vs H2 hv => by
      obtain ⟨_, rfl, rfl⟩ := hv
      exact ⟨most, rfl, by omega, by omega, rfl⟩) (fun i σ' H' => ∃ (rw kn' lf : List Str) (ex : Int) (x8 x9 : Option V), σ' = [some (.ref st), some (.ref kp), some (.ref fp0), some (.int most), some (.str m), some (.ref rp), some (.ref lp), some (.int ex), x8, x9] ∧ Ek H H' ∧ Strm st (n + 79 - 14 * i) H' ∧
      H' rp = some (.lst (rw.map V.str)) ∧ H' kp = some (.lst (kn'.map V.str)) ∧ H' lp = some (.lst (lf.map V.str)) ∧ rw.length ≤ i ∧ kn'.length + lf.length ≤ 8 ∧ (∀ x ∈ rw, Wd 0 30 x) ∧ (∀ x ∈ kn', Wd 1 8 x) ∧ ∀ x ∈ lf, Wd 1 8 x)
      (fun H3 e3 s3 => ⟨[], kn, fr, ex0, _, _, rfl, (e1.trans e2).trans e3, s3.mono (by omega), (e2.trans e3).strs (l := []) g1, (e2.trans e3).strs g2, (e2.trans e3).strs g3, by simp, by omega, fun x h => absurd h (by simp), hkw, hfw⟩) (fun j i σ' H' hj hi pp => ?_) fun j σ' H' hj pp => ?_
  · subst hj
    obtain ⟨rows, kn', lf, ex, x8, x9, rfl, e3, s3, hr1, hk1, hl1, hrl, hkl', hrw, hkw', hlw⟩ := pp
    have hi5 : i < 5 := by omega
    have okk : ∀ x ∈ kn', PyData.strOk x = true := fun x hx => (hkw' x hx).2.ok
    have okl : ∀ x ∈ lf, PyData.strOk x = true := fun x hx => (hlw x hx).2.ok
    refine d_if (s := st) (H := H') (m := n + 79 - 14 * i) (N := 0 + (0 + (0 + 1))) (drt_and (drt_ev (b := !decide (lf = [])) fun H4 e4 => et_test (ev_neSS (m := []) okl (fun x hx => by cases hx) (eq_of (by exact ev_var rfl) (sq_of (e4.strs hl1))) (EvL.q (el_lst ea_nil (by simp))))) fun _ => drt_or (drt_ev (b := decide (kn' = [])) fun H4 e4 => et_test (ev_eqSS (m := []) okk (fun x hx => by cases hx) (eq_of (by exact ev_var rfl) (sq_of (e4.strs hk1))) (EvL.q (el_lst ea_nil (by simp))))) fun _ => drt_or (drt_kind (v := .non) (by rfl)) fun _ => drt_draw (by rfl) (by decide)) (by omega) (fun hb => ?_) (fun hb => ?_) H' (Ek.refl H') s3
    · have hne : lf ≠ [] := fun e => by
        have h1 := (hb rfl).1
        rw [decide_eq_true e] at h1
        cases h1
      obtain ⟨x, lf', rfl⟩ := List.exists_cons_of_ne_nil hne
      have hx := hlw x List.mem_cons_self
      rw [List.length_cons] at hkl'
      refine d_asg (N := 10) (dr_bindE (ws := kn') (x := x) (by rfl) (fun H4 e4 => ev_ixQ (eq_of (by exact ev_var rfl) (sq_of (e4.strs hl1))) ev_c at0) (by rfl) (by rfl) (hx.le (by omega) (by omega)) ⟨hk1, by omega, hkw'⟩ hm) (by omega) fun v H4 e4 hv => ?_
      obtain ⟨z, rfl, hz⟩ := hv
      intro H5 e5 s5
      have e45 := e4.trans e5
      have hk5 := e45.strs hk1
      have hl5 := e45.strs hl1
      have hr5 := e45.strs hr1
      refine ⟨_, rfl, .inl ⟨rfl, _, sq_of hk5⟩, _, rfl, .inl ⟨rfl, _, sq_of hl5⟩, lp, _, 0, 0, .str x, rfl, rfl, hl5, by decide, by decide, ix_nat (j := 0) (by simp), rfl, kp, kn'.map V.str, .str x, rfl, rfl, by rw [upd_ne n3]; exact hk5, sz_lt (by rw [List.length_map]; omega), ?_⟩
      have s7 := Strm.mut (o := .lst (kn'.map V.str ++ [.str x])) (Strm.mut (o := .lst (((x :: lf').map V.str).eraseIdx 0)) s5 hl5 own_strs) (xs := kn'.map V.str) (by rw [upd_ne n3]; exact hk5) own_strs
      show tDrop (tBM K "list" rAppend (tVar 5) (tCons (tVar 9) tNil)) _ _ (upd (upd H5 lp (.lst (((x :: lf').map V.str).eraseIdx 0))) kp (.lst (kn'.map V.str ++ [.str x])))
      refine dgo_run (s := st) (m := n + 79 - 14 * i - (0 + (0 + (0 + 1))) - 10) ?_ s7
      refine dl_app (N := 0) (xs := rows.map V.str) (by rw [upd_ne n1, upd_ne n2]; exact hr5) own_strs (by exact evk_var rfl) (dr_s (by rfl) hz) (by omega) (by rw [List.length_map]; omega) (fun v H6 e6 s6 hv h6 => ?_)
      obtain ⟨z2, rfl, hz2⟩ := hv
      have hk6 : H6 kp = some (.lst ((kn' ++ [x]).map V.str)) := e6.strs (by rw [List.map_append]; exact upd_same)
      have hl6 : H6 lp = some (.lst (lf'.map V.str)) := e6.strs (by rw [upd_ne (Ne.symm n3), upd_same]; rfl)
      refine ⟨rows ++ [z2], kn' ++ [x], lf', ex, _, _, rfl, Ek.mut ((Ek.mut (Ek.mut (e3.trans e45) hlp) hkp1).trans e6) hrp, Strm.mono (Strm.mut s6 h6 own_strs) (by omega), by rw [List.map_append]; exact upd_same, by rw [upd_ne (Ne.symm n1)]; exact hk6, by rw [upd_ne (Ne.symm n2)]; exact hl6, by rw [List.length_append, List.length_singleton]; omega, by rw [List.length_append, List.length_singleton]; omega, fun y hy => ?_, fun y hy => ?_, fun y hy => hlw y (List.mem_cons_of_mem _ hy)⟩
      · rcases List.mem_append.mp hy with hy | hy
        · exact hrw y hy
        · rw [List.mem_singleton.mp hy]
          exact hz2
      · rcases List.mem_append.mp hy with hy | hy
        · exact hkw' y hy
        · rw [List.mem_singleton.mp hy]
          exact hx
    · refine d_if (N := 0 + 0) (drt_and (B1 := (· = decide (0 < ex))) (drt_ev fun H4 e4 => et_test (ev_op (by exact ev_var rfl) ev_c rv_gtI)) fun _ => drt_ev (b := !decide (kn' = [])) fun H4 e4 => et_test (ev_neSS (m := []) okk (fun x hx => by cases hx) (eq_of (by exact ev_var rfl) (sq_of (e4.strs hk1))) (EvL.q (el_lst ea_nil (by simp))))) (by omega) (fun hb => ?_) fun hb => ?_
      · have hne : kn' ≠ [] := fun e => by
          have h1 := (hb rfl).2
          rw [decide_eq_true e] at h1
          cases h1
        refine d_app (N := 12) hr1 own_strs (by exact evk_var rfl) (dr_prow (by rfl) (by rfl) (by rfl) ⟨hk1, by omega, hkw'⟩ hne hm) (by omega) (by rw [List.length_map]; omega) fun v H4 e4 s4 hv h4 => ?_
        obtain ⟨z, rfl, hz⟩ := hv
        refine dl_asg (N := 0) (P := fun v _ => ∃ e : Int, v = .int e) (dr_ev (v := .int (ex - 1)) (fun H5 e5 => ev_op (by exact ev_var rfl) ev_c rv_subI) fun _ _ => ⟨_, rfl⟩) (by omega) fun v H5 e5 s5 hv => ?_
        obtain ⟨e', rfl⟩ := hv
        refine ⟨rows ++ [z], kn', lf, e', _, _, rfl, (Ek.mut (e3.trans e4) hrp).trans e5, s5.mono (by omega), e5.strs (by rw [List.map_append]; exact upd_same), e5.strs (by rw [upd_ne (Ne.symm n1)]; exact e4.strs hk1), e5.strs (by rw [upd_ne (Ne.symm n2)]; exact e4.strs hl1), by rw [List.length_append, List.length_singleton]; omega, hkl', fun y hy => ?_, hkw', hlw⟩
        rcases List.mem_append.mp hy with hy | hy
        · exact hrw y hy
        · rw [List.mem_singleton.mp hy]
          exact hz
      · exact d_nx fun H4 e4 s4 => ⟨rows, kn', lf, ex, _, _, rfl, e3.trans e4, s4.mono (by omega), e4.strs hr1, e4.strs hk1, e4.strs hl1, by omega, hkl', hrw, hkw', hlw⟩
  · subst hj
    obtain ⟨rows, kn', lf, ex, x8, x9, rfl, e3, s3, hr1, hk1, hl1, hrl, hkl', hrw, hkw', hlw⟩ := pp
    rw [Int.toNat_natCast] at hrl s3
    exact ⟨_, rfl, q _ H' e3 (s3.mono (by omega)) ⟨rp, rows, rfl, hr1, Nat.zero_le _, hrl, hrw⟩⟩
theorem k_l_plains (T : Tx K mg) : Kp P w K mg base CX0 "_law_plains" 7 p_l_plains (spPlains K) :=
  Kp.of T.F_l_plains T.g_l_plains sc_l_plains (fun _ _ _ _ _ _ us hl => match us, hl with | [_, _, _, _, _], _ => rfl) (fun vs H Q E h => by obtain ⟨s, kp, fp, kn, fr, most, m, n, rfl, _⟩ := h; rfl) fun cdv A outer s H vs Q E hr h => ⟨_, (der_l_plains T hr (k_l_draw T) (k_l_binding T) (k_l_plain_row T)).h.nox, b_l_plains T hr h⟩
end
end K27

set_option maxRecDepth 100000
set_option maxHeartbeats 4000000
/-! the task's rows; all parts -/
namespace K27
open PySem PySem.Spec PyProof.Rows L2 Evl
section
variable {P : Program} {w : World} {K : PySem.W.Frag} {mg : PySem.Str → Option Value} {base : Heap}
def spWork (K : PySem.W.Frag) : Sp := fun vs H Q _ => ∃ (s p : Addr) (l : List Str) (m : Str) (n : Nat), vs = [.ref s, .ref p, .str m, .int 15, .int 1] ∧ Strm s (n + 200) H ∧ WL H p l ∧ l ≠ [] ∧ Mks m ∧ ∀ v H2, Ek H H2 → Strm s n H2 → LB 0 15 (Wd 0 30) v H2 → Q v H2
theorem bools_len {l : List Bool} : (((l.map V.bl).length : Nat) : Int) = (l.length : Int) := by rw [List.length_map]
theorem b_l_work {A : Around} {cdv : Value} {outer : List Env} {s : Shared} {H : Hp} {E : XK} {Q : VK} {vs : List V} (T : Tx K mg) (hr) (h : spWork K vs H Q E) :
    (der_l_work (P := P) (w := w) (base := base) (cdv := cdv) (A := A) (outer := outer) (s := s) (H := H) (E := E) T hr (k_l_draw T) (k_l_test T) (k_l_last T) (k_l_plain_row T)).t { nx := fun _ H' => Q .non H', rt := Q } (start N_l_work vs) H := by
  obtain ⟨st, p, l, m, n, rfl, hs, hw, hne, hm, q⟩ := h
  simp only [der_l_work]
  refine dgo_run (s := st) (m := n + 200) (d_par3D (xs := []) (ys := []) (M := 1) (P3 := IB 0 16) (fun H1 e1 => el_lst ea_nil (by simp)) (fun H1 e1 => el_lst ea_nil (by simp)) rfl rfl (dr_draw (k := 16) (by rfl) (fun H1 e1 => ev_is (ev_op (by exact ev_var rfl) ev_c rv_addI) rfl) (by decide)) (by omega) fun rp op v H1 hrp hop n1 e1 g1 g2 hv => ?_) hs
  obtain ⟨sz, rfl, z0, z1⟩ := hv
  obtain ⟨size, rfl⟩ : ∃ size : Nat, sz = (size : Int) := ⟨sz.toNat, by omega⟩
  refine d_forR (N := 0) (dra_v (v := .int size) (by exact evk_var rfl) dra_nil) (by omega) (fun j => j = (size : Int)) (fun vs H2 hv => by
      obtain ⟨_, rfl, rfl⟩ := hv
      exact ⟨size, rfl, by omega, by omega, rfl⟩) (fun i σ' H' => ∃ (rw : List Str) (ops : List Bool) (x8 x9 x10 : Option V), σ' = [some (.ref st), some (.ref p), some (.str m), some (.int 15), some (.int 1), some (.ref rp), some (.ref op), some (.int size), x8, x9, x10] ∧ Ek H H' ∧ Strm st (n + 199 - 13 * i) H' ∧
      H' rp = some (.lst (rw.map V.str)) ∧ H' op = some (.lst (ops.map V.bl)) ∧ rw.length ≤ i ∧ ops.length ≤ i ∧ ∀ x ∈ rw, Wd 0 30 x)
      (fun H3 e3 s3 => ⟨[], [], _, _, _, rfl, e1.trans e3, s3.mono (by omega), e3.strs (l := []) g1, e3.lst g2 rfl, by simp, by simp, fun x h => absurd h (by simp)⟩) (fun j i σ' H' hj hi pp => ?_) fun j σ' H' hj pp => ?_
  · subst hj
    obtain ⟨rows, ops, x8, x9, x10, rfl, e3, s3, hr1, ho1, hrl, hol, hrw⟩ := pp
    have hi15 : i < 15 := by omega
    refine dgo_run (s := st) (m := n + 199 - 13 * i) (d_parD (N := 0) (M := 1) (P1 := fun v _ => v = .int ((size : Int) - (i : Int))) (P2 := IB 0 10) (dr_ev (fun H4 e4 => ev_op (by exact ev_var rfl) (by exact ev_var rfl) rv_subI) fun _ _ => rfl) (fun _ _ _ _ h => h) (fun v H4 e4 _ => dr_draw (k := 10) (by rfl) (by exact evk_c) (by decide)) (by omega) fun v u H4 e4 hv hu => ?_) s3
    subst hv
    obtain ⟨kd, rfl, _⟩ := hu
    have hr4 := e4.strs hr1
    have ho4 : H4 op = some (.lst (ops.map V.bl)) := e4.lst ho1 own_bools
    have e34 := e3.trans e4
    have hw4 := hw.ek e34
    have hE : ∀ H5, Ek H4 H5 → EvQ K (tVar 6) [some (.ref st), some (.ref p), some (.str m), some (.int 15), some (.int 1), some (.ref rp), some (.ref op), some (.int size), some (.int (i : Int)), some (.int ((size : Int) - (i : Int))), some (.int kd)] H5 (ops.map V.bl) := fun H5 e5 => eq_of (by exact ev_var rfl) (sq_of (e5.lst ho4 own_bools))
    have hL : ∀ H5, Ek H4 H5 → Ev (tCB (rLenQ K) (tCons (tVar 6) tNil)) [some (.ref st), some (.ref p), some (.str m), some (.int 15), some (.int 1), some (.ref rp), some (.ref op), some (.int size), some (.int (i : Int)), some (.int ((size : Int) - (i : Int))), some (.int kd)] H5 (.int ops.length) := fun H5 e5 => ev_is (ev_lenQ (hE H5 e5)) (congrArg V.int bools_len)
    have hN : ∀ H5, Ek H4 H5 → EvT (tTest (tOp (rNeD K) (tVar 6) (tLst tNil))) [some (.ref st), some (.ref p), some (.str m), some (.int 15), some (.int 1), some (.ref rp), some (.ref op), some (.int size), some (.int (i : Int)), some (.int ((size : Int) - (i : Int))), some (.int kd)] H5 (!decide (ops = [])) := fun H5 e5 => et_test (ev_neNilB (hE H5 e5) (EvL.q (el_lst ea_nil (by simp))))
    have own_r : own (rows.map V.str) = true := own_strs
    have own_o : own (ops.map V.bl) = true := own_bools
    -- what a row appended leaves
    have rowsW : ∀ {z : Str}, Wd 0 30 z → ∀ y ∈ rows ++ [z], Wd 0 30 y := fun hz y hy => by
      rcases List.mem_append.mp hy with hy | hy
      · exact hrw y hy
      · rw [List.mem_singleton.mp hy]
        exact hz
    refine d_if (N := 0) (drt_ev (b := decide (((size : Int) - (i : Int)) ≤ (ops.length : Int)) || (decide (kd = 0) && !decide (ops = []))) fun H5 e5 => et_or (et_test (ev_op (by exact ev_var rfl) (hL H5 e5) rv_leI)) fun _ => et_and (et_test (ev_op (by exact ev_var rfl) ev_c rv_eqI)) fun _ => hN H5 e5) (by omega) (fun hb => ?_) fun hb => ?_
    · have hnn : ops ≠ [] := fun e => by
        have hb' := hb.symm
        rcases Bool.or_eq_true_iff.mp hb' with h | h
        · have := of_decide_eq_true h
          rw [e] at this
          have : (size : Int) - (i : Int) ≤ 0 := this
          omega
        · rw [decide_eq_true e] at h
          have := (Bool.and_eq_true_iff.mp h).2
          cases this
      refine d_app (N := 0) hr4 own_strs (by exact evk_var rfl) (dr_cs (x := "end") (a := 0) (b := 30) (wd_c (by decide))) (by omega) (by rw [List.length_map]; omega) fun v H5 e5 s5 hv h5 => ?_
      obtain ⟨z, rfl, hz⟩ := hv
      intro H6 e6 s6
      have ho5 : (upd H5 rp (.lst (rows.map V.str ++ [.str z]))) op = some (.lst (ops.map V.bl)) := by
        rw [upd_ne (Ne.symm n1)]
        exact e5.lst ho4 own_bools
      have ho6 : H6 op = some (.lst (ops.map V.bl)) := e6.lst ho5 own_bools
      have hr6 : H6 rp = some (.lst ((rows ++ [z]).map V.str)) := e6.strs (by rw [List.map_append]; exact upd_same)
      refine go_run (g_pop ho6 (by exact ev_var rfl) (by simpa using hnn) fun H7 e7 => ⟨rows ++ [z], ops.dropLast, _, _, _, rfl, Ek.mut (((Ek.mut (e34.trans e5) hrp).trans e6).trans (Ek.of e7)) hop, Strm.mono (Strm.mut (s6.ex e7) (e7 _ _ ho6) own_bools) (by omega), by rw [upd_ne n1]; exact e7 _ _ hr6, by rw [List.map_dropLast]; exact upd_same, by rw [List.length_append, List.length_singleton]; omega, by rw [List.length_dropLast]; omega, rowsW hz⟩)
    · refine d_if (N := 0) (drt_ev (b := decide (kd < 3) && decide ((ops.length : Int) + 1 < (size : Int) - (i : Int))) fun H5 e5 => et_and (et_test (ev_op (by exact ev_var rfl) ev_c rv_ltI)) fun _ => et_test (ev_op (by exact ev_var rfl) (ev_op (hL H5 e5) ev_c rv_addI) rv_gtI)) (by omega) (fun _ => ?_) fun _ => ?_
      · refine d_app (N := 10) hr4 own_strs (by exact evk_var rfl) (dr_test (by rfl) (by rfl) (by rfl) hw4 hne hm) (by omega) (by rw [List.length_map]; omega) fun v H5 e5 s5 hv h5 => ?_
        obtain ⟨z, rfl, hz⟩ := hv
        have ho5 : (upd H5 rp (.lst (rows.map V.str ++ [.str z]))) op = some (.lst (ops.map V.bl)) := by
          rw [upd_ne (Ne.symm n1)]
          exact e5.lst ho4 own_bools
        refine dl_app (N := 0) (P := fun v _ => v = .bl false) ho5 own_bools (by exact evk_var rfl) (dr_ev (by exact evk_c) fun _ _ => rfl) (by omega) (by rw [List.length_map]; omega) fun v H6 e6 s6 hv h6 => ?_
        subst hv
        have hr6 : H6 rp = some (.lst ((rows ++ [z]).map V.str)) := e6.strs (by rw [List.map_append]; exact upd_same)
        exact ⟨rows ++ [z], ops ++ [false], _, _, _, rfl, Ek.mut ((Ek.mut (e34.trans e5) hrp).trans e6) hop, Strm.mono (Strm.mut s6 h6 own_bools) (by omega), by rw [upd_ne n1]; exact hr6, by rw [List.map_append]; exact upd_same, by rw [List.length_append, List.length_singleton]; omega, by rw [List.length_append, List.length_singleton]; omega, rowsW hz⟩
      · by_cases hnn : ops = []
        · refine d_if (N := 0) (drt_ev (b := false) fun H5 e5 => et_is (et_and (a := decide (kd = 3)) (b := false) (et_test (ev_op (by exact ev_var rfl) ev_c rv_eqI)) fun _ => et_is (et_and (b := true) (hN H5 e5) fun h => absurd h (by rw [decide_eq_true hnn]; decide)) (by rw [decide_eq_true hnn]; rfl)) (Bool.and_false _)) (by omega) (fun h => by cases h) fun _ => ?_
          refine d_if (N := 0) (drt_ev fun H5 e5 => et_and (et_test (ev_op (by exact ev_var rfl) ev_c rv_eqI)) fun _ => et_and (et_test (ev_op (by exact ev_var rfl) ev_c rv_gtI)) fun _ => et_or (hN H5 e5) fun _ => et_test (ev_op (by exact ev_var rfl) ev_c rv_eqI)) (by omega) (fun _ => ?_) fun _ => ?_
          · refine dl_app (N := 9) hr4 own_strs (by exact evk_var rfl) (dr_last (by rfl) (by rfl) (by rfl) hw4 hm) (by omega) (by rw [List.length_map]; omega) fun v H5 e5 s5 hv h5 => ?_
            obtain ⟨z, rfl, hz⟩ := hv
            exact ⟨rows ++ [z], ops, _, _, _, rfl, Ek.mut (e34.trans e5) hrp, Strm.mono (Strm.mut s5 h5 own_strs) (by omega), by rw [List.map_append]; exact upd_same, by rw [upd_ne (Ne.symm n1)]; exact e5.lst ho4 own_bools, by rw [List.length_append, List.length_singleton]; omega, by omega, rowsW hz⟩
          · refine dl_app (N := 12) hr4 own_strs (by exact evk_var rfl) (dr_prow (by rfl) (by rfl) (by rfl) hw4 hne hm) (by omega) (by rw [List.length_map]; omega) fun v H5 e5 s5 hv h5 => ?_
            obtain ⟨z, rfl, hz⟩ := hv
            exact ⟨rows ++ [z], ops, _, _, _, rfl, Ek.mut (e34.trans e5) hrp, Strm.mono (Strm.mut s5 h5 own_strs) (by omega), by rw [List.map_append]; exact upd_same, by rw [upd_ne (Ne.symm n1)]; exact e5.lst ho4 own_bools, by rw [List.length_append, List.length_singleton]; omega, by omega, rowsW hz⟩
        · have hlast : (ops.map V.bl).getLast? = some (.bl (ops.getLast hnn)) := by
            rw [List.getLast?_map, List.getLast?_eq_some_getLast hnn]
            rfl
          refine d_if (N := 0) (drt_ev fun H5 e5 => et_and (et_test (ev_op (by exact ev_var rfl) ev_c rv_eqI)) fun _ => et_and (hN H5 e5) fun _ => et_not (et_B (ev_ixQ (hE H5 e5) (ev_un ev_c ru_neg) (at_last hlast)))) (by omega) (fun _ => ?_) fun _ => ?_
          · refine d_app (N := 0) hr4 own_strs (by exact evk_var rfl) (dr_cs (x := "else") (a := 0) (b := 30) (wd_c (by decide))) (by omega) (by rw [List.length_map]; omega) fun v H5 e5 s5 hv h5 => ?_
            obtain ⟨z, rfl, hz⟩ := hv
            intro H6 e6 s6
            have ho5 : (upd H5 rp (.lst (rows.map V.str ++ [.str z]))) op = some (.lst (ops.map V.bl)) := by
              rw [upd_ne (Ne.symm n1)]
              exact e5.lst ho4 own_bools
            have ho6 : H6 op = some (.lst (ops.map V.bl)) := e6.lst ho5 own_bools
            have hr6 : H6 rp = some (.lst ((rows ++ [z]).map V.str)) := e6.strs (by rw [List.map_append]; exact upd_same)
            refine go_run (g_setLast ho6 ev_c (by exact ev_var rfl) (ev_un ev_c ru_neg) (by simpa using hnn) fun H7 e7 => ⟨rows ++ [z], ops.dropLast ++ [true], _, _, _, rfl, Ek.mut (((Ek.mut (e34.trans e5) hrp).trans e6).trans (Ek.of e7)) hop, Strm.mono (Strm.mut (s6.ex e7) (e7 _ _ ho6) own_bools) (by omega), by rw [upd_ne n1]; exact e7 _ _ hr6, by rw [List.map_append, List.map_dropLast]; exact upd_same, by rw [List.length_append, List.length_singleton]; omega, by rw [List.length_append, List.length_singleton, List.length_dropLast]; omega, rowsW hz⟩)
          · refine d_if (N := 0) (drt_ev fun H5 e5 => et_and (et_test (ev_op (by exact ev_var rfl) ev_c rv_eqI)) fun _ => et_and (et_test (ev_op (by exact ev_var rfl) ev_c rv_gtI)) fun _ => et_or (hN H5 e5) fun _ => et_test (ev_op (by exact ev_var rfl) ev_c rv_eqI)) (by omega) (fun _ => ?_) fun _ => ?_
            · refine dl_app (N := 9) hr4 own_strs (by exact evk_var rfl) (dr_last (by rfl) (by rfl) (by rfl) hw4 hm) (by omega) (by rw [List.length_map]; omega) fun v H5 e5 s5 hv h5 => ?_
              obtain ⟨z, rfl, hz⟩ := hv
              exact ⟨rows ++ [z], ops, _, _, _, rfl, Ek.mut (e34.trans e5) hrp, Strm.mono (Strm.mut s5 h5 own_strs) (by omega), by rw [List.map_append]; exact upd_same, by rw [upd_ne (Ne.symm n1)]; exact e5.lst ho4 own_bools, by rw [List.length_append, List.length_singleton]; omega, by omega, rowsW hz⟩
            · refine dl_app (N := 12) hr4 own_strs (by exact evk_var rfl) (dr_prow (by rfl) (by rfl) (by rfl) hw4 hne hm) (by omega) (by rw [List.length_map]; omega) fun v H5 e5 s5 hv h5 => ?_
              obtain ⟨z, rfl, hz⟩ := hv
              exact ⟨rows ++ [z], ops, _, _, _, rfl, Ek.mut (e34.trans e5) hrp, Strm.mono (Strm.mut s5 h5 own_strs) (by omega), by rw [List.map_append]; exact upd_same, by rw [upd_ne (Ne.symm n1)]; exact e5.lst ho4 own_bools, by rw [List.length_append, List.length_singleton]; omega, by omega, rowsW hz⟩
  · subst hj
    obtain ⟨rows, ops, x8, x9, x10, rfl, e3, s3, hr1, ho1, hrl, hol, hrw⟩ := pp
    rw [Int.toNat_natCast] at hrl s3
    exact ⟨_, rfl, q _ H' e3 (s3.mono (by omega)) ⟨rp, rows, rfl, hr1, Nat.zero_le _, by omega, hrw⟩⟩
theorem k_l_work (T : Tx K mg) : Kp P w K mg base CX0 "_law_work" 7 p_l_work (spWork K) :=
  Kp.of T.F_l_work T.g_l_work sc_l_work (fun _ _ _ _ _ _ us hl => match us, hl with | [_, _, _, _, _], _ => rfl) (fun vs H Q E h => by obtain ⟨s, p, l, m, n, rfl, _⟩ := h; rfl) fun cdv A outer s H vs Q E hr h => ⟨_, (der_l_work T hr (k_l_draw T) (k_l_test T) (k_l_last T) (k_l_plain_row T)).h.nox, b_l_work T hr h⟩
end
end K27

set_option maxRecDepth 100000
set_option maxHeartbeats 4000000
/-! all parts -/
namespace K27
open PySem PySem.Spec PyProof.Rows L2 Evl
/-- the drawn parts of a program -/
def PartsAt (H : Hp) (q : Addr) (m : Str) : Prop := ∃ (pf pt pw ps po : Addr) (f t k ws os : List Str), H q = some (.tup [.str m, .ref pf, .ref pt, .ref pw, .ref ps, .ref po]) ∧ H pf = some (.lst (f.map V.str)) ∧ H pt = some (.lst (t.map V.str)) ∧ H pw = some (.lst (k.map V.str)) ∧
  H ps = some (.lst (ws.map V.str)) ∧ H po = some (.lst (os.map V.str)) ∧ (f.length ≤ 15 ∧ ∀ x ∈ f, Wd 0 30 x) ∧ (t.length ≤ 15 ∧ ∀ x ∈ t, Wd 0 30 x) ∧ (k.length ≤ 15 ∧ ∀ x ∈ k, Wd 0 30 x) ∧ (ws.length ≤ 3 ∧ ∀ x ∈ ws, Wd 1 8 x) ∧ (os.length ≤ 3 ∧ ∀ x ∈ os, Wd 1 8 x)
theorem PartsAt.ek {H H' : Hp} {q : Addr} {m : Str} (h : PartsAt H q m) (e : Ek H H') : PartsAt H' q m := by
  obtain ⟨pf, pt, pw, ps, po, f, t, k, ws, os, h0, h1, h2, h3, h4, h5, h6⟩ := h
  exact ⟨pf, pt, pw, ps, po, f, t, k, ws, os, e.tup h0, e.strs h1, e.strs h2, e.strs h3, e.strs h4, e.strs h5, h6⟩
section
variable {P : Program} {w : World} {K : PySem.W.Frag} {mg : PySem.Str → Option Value} {base : Heap}
section
variable {s : Addr} {σ : L2.St} {H : Hp} {te tb tc : TE} {tr : TA} {E : XK} {i j l k m N : Nat}
theorem ev_ixU {q : Addr} {xs : List V} {v : V} {i : Int} (h : Ev te σ H (.ref q)) (hq : H q = some (.tup xs)) (hi : Ev tb σ H (.int i)) (ha : atI xs i = some v) : Ev (tOp (rIxT K) te tb) σ H v := ev_op h hi (rv_ixT (st_of hq) ha)
theorem ev_min3 {a b c : Int} (h1 : Ev te σ H (.int a)) (h2 : Ev tb σ H (.int b)) (h3 : Ev tc σ H (.int c)) : Ev (tCB (rNuC3 nuMin3) (tCons te (tCons tb (tCons tc tNil)))) σ H (.int (if c < (if b < a then b else a) then c else (if b < a then b else a))) := fun H1 e Q q =>
  h1 H1 e _ fun H2 e2 => h2 H2 (e.trans e2) _ fun H3 e3 => h3 H3 ((e.trans e2).trans e3) _ fun H4 e4 => ⟨_, _, _, _, rfl, by
    have e1 : nuMin2 (.int a) (.int b) = some (.int (if b < a then b else a)) := by
      unfold nuMin2
      show ((some (decide (b < a))).map fun c => if c = true then V.int b else V.int a) = _
      by_cases h : b < a
      · rw [decide_eq_true h, if_pos h]
        rfl
      · rw [decide_eq_false h, if_neg h]
        rfl
    unfold nuMin3
    rw [e1]
    show nuMin2 (.int (if b < a then b else a)) (.int c) = _
    unfold nuMin2
    show ((some (decide (c < (if b < a then b else a)))).map fun k => if k = true then V.int c else V.int (if b < a then b else a)) = some (V.int (if c < (if b < a then b else a) then c else (if b < a then b else a)))
    by_cases h : c < (if b < a then b else a)
    · rw [decide_eq_true h, if_pos h]
      rfl
    · rw [decide_eq_false h, if_neg h]
      rfl, q H4 ((e2.trans e3).trans e4)⟩
theorem dr_sorted {p : Addr} {l : List Str} {W : Str → Prop} (h : EvK te σ H (.ref p)) (hp : H p = some (.lst (l.map V.str))) (hl : l.length < 64) (hW : ∀ x ∈ l, W x) : Dr s (tCB (rSortedS K) (tCons te tNil)) σ H 0 (LB l.length l.length W) := fun n H1 ek st Q q =>
  h H1 ek H1 (Ex.refl H1) _ fun H2 e2 => ⟨p, l, rfl, sq_of ((ek.trans (Ek.of e2)).strs hp), hl, fun ys r hperm _ hr => q _ _ (Ek.of (e2.trans (Ex.new hr))) (st.ex (e2.trans (Ex.new hr))) ⟨r, ys, rfl, upd_same, by rw [hperm.length_eq]; exact Nat.le_refl _, by rw [hperm.length_eq]; exact Nat.le_refl _, fun x hx => hW x (hperm.mem_iff.mp hx)⟩⟩
theorem ev_max2K {i j : Int} (ha : Ev te σ H (.int i)) (hb : Ev tb σ H (.int j)) : Ev (tCB rMax2 (tCons te (tCons tb tNil))) σ H (.int (if j > i then j else i)) := fun H1 e Q q =>
  ha H1 e _ fun H2 e2 => hb H2 (e.trans e2) _ fun H3 e3 => ⟨i, j, rfl, q H3 (e2.trans e3)⟩
end
def szs : List V := [.int 3, .int 4, .int 5, .int 15, .int 1, .int 8]
def spParts6 (K : PySem.W.Frag) : Sp := fun vs H Q _ => ∃ (s : Addr) (m : Str) (z : Addr) (n : Nat), vs = [.ref s, .str m, .ref z] ∧ Strm s (n + 500) H ∧ H z = some (.tup szs) ∧ Mks m ∧ ∀ v H2, Ek H H2 → Strm s n H2 → (∃ q : Addr, v = .ref q ∧ PartsAt H2 q m) → Q v H2
theorem strs_len {l : List Str} : (((l.map V.str).length : Nat) : Int) = (l.length : Int) := by rw [List.length_map]
theorem b_l_drawn_parts {A : Around} {cdv : Value} {outer : List Env} {s : Shared} {H : Hp} {E : XK} {Q : VK} {vs : List V} (T : Tx K mg) (hr) (h : spParts6 K vs H Q E) :
    (der_l_drawn_parts (P := P) (w := w) (base := base) (cdv := cdv) (A := A) (outer := outer) (s := s) (H := H) (E := E) T hr (k_l_drawn_words T) (k_l_draw T) (k_l_plains T) (k_l_work T)).t { nx := fun _ H' => Q .non H', rt := Q } (start N_l_drawn_parts vs) H := by
  obtain ⟨st, m, z, n, rfl, hs, hz, hm, q⟩ := h
  simp only [der_l_drawn_parts]
  -- words
  refine dgo_run (s := st) (m := n + 500) (d_asg (N := (1 + 0) + 60) (P := LB 0 3 (Wd 1 8)) (dr_call (M := 60) (dra_v (by exact evk_var rfl) (dra_l (xs := []) (fun H1 e1 => el_lst ea_nil (by simp)) rfl (dra_v (by exact evk_var rfl) (dra_d (dr_draw (k := 4) (by rfl) (fun H1 e1 => ev_is (ev_op (ev_ixU (by exact ev_var rfl) (e1.tup hz) ev_c (at_nat (k := 0) rfl)) ev_c rv_addI) rfl) (by decide)) IB.mono fun v H1 e1 _ => dra_v (v := .int 8) (fun H2 e2 => ev_ixU (by exact ev_var rfl) ((e1.trans e2).tup hz) ev_c (at_nat (k := 5) rfl)) dra_nil)))) fun vs H1 n' e1 hv st' Q' E' q' => ?_) (by omega) fun v H1 e1 hv => ?_) hs
  · obtain ⟨_, rfl, p0, _, rfl, hp0, _, rfl, k, _, rfl, ⟨kk, rfl, k0, k1⟩, _, rfl, rfl⟩ := hv
    obtain ⟨kn, rfl⟩ : ∃ kn : Nat, kk = (kn : Int) := ⟨kk.toNat, by omega⟩
    refine ⟨st, p0, [], m, kn, n', rfl, st', ⟨hp0, by simp, fun x h => absurd h (by simp)⟩, by omega, hm, fun v H2 e2 s2 hv => q' v H2 e2 s2 ?_⟩
    obtain ⟨p, l, rfl, h1, h2, h3, h4⟩ := hv
    exact ⟨p, l, rfl, h1, by omega, by omega, h4⟩
  obtain ⟨wp, ws, rfl, hw, _, hwl, hww⟩ := hv
  -- own
  refine d_asg (N := (1 + 0) + 60) (P := LB 0 3 (Wd 1 8)) (dr_call (M := 60) (dra_v (by exact evk_var rfl) (dra_v (by exact evk_var rfl) (dra_v (by exact evk_var rfl) (dra_d (dr_draw (k := (if (2 : Int) < (if 4 - (ws.length : Int) < 4 then 4 - (ws.length : Int) else 4) then 2 else (if 4 - (ws.length : Int) < 4 then 4 - (ws.length : Int) else 4)) + 1) (by rfl) (fun H2 e2 => ev_op (ev_min3 (ev_ixU (by exact ev_var rfl) ((e1.trans e2).tup hz) ev_c (at_nat (k := 1) rfl)) (ev_op ev_c (ev_is (ev_lenQ (eq_of (by exact ev_var rfl) (sq_of (e2.strs hw)))) (congrArg V.int strs_len)) rv_subI) ev_c) ev_c rv_addI) (by constructor <;> (repeat' split) <;> omega)) IB.mono fun v H2 e2 _ => dra_v (v := .int 8) (fun H3 e3 => ev_ixU (by exact ev_var rfl) (((e1.trans e2).trans e3).tup hz) ev_c (at_nat (k := 5) rfl)) dra_nil)))) fun vs H2 n' e2 hv st' Q' E' q' => ?_) (by omega) fun v H2 e2 hv => ?_
  · obtain ⟨_, rfl, _, rfl, _, rfl, k, _, rfl, ⟨kk, rfl, k0, k1⟩, _, rfl, rfl⟩ := hv
    obtain ⟨kn, rfl⟩ : ∃ kn : Nat, kk = (kn : Int) := ⟨kk.toNat, by omega⟩
    have hkn : kn ≤ 3 := by
      have : (kn : Int) < 2 + 1 := by
        refine Int.lt_of_lt_of_le k1 ?_
        split <;> omega
      omega
    refine ⟨st, wp, ws, m, kn, n', rfl, st', ⟨e2.strs hw, by omega, hww⟩, hkn, hm, fun v H3 e3 s3 hv => q' v H3 e3 s3 ?_⟩
    obtain ⟨p, l, rfl, h1, h2, h3, h4⟩ := hv
    exact ⟨p, l, rfl, h1, by omega, by omega, h4⟩
  obtain ⟨op, os, rfl, ho, _, hol, how⟩ := hv
  have hw2 := e2.strs hw
  have hz2 := (e1.trans e2).tup hz
  -- first
  refine d_asg (N := 0 + 80) (P := LB 0 15 (Wd 0 30)) (dr_call (M := 80) (dra_v (by exact evk_var rfl) (dra_l (xs := []) (fun H3 e3 => el_lst ea_nil (by simp)) rfl (dra_v (by exact evk_var rfl) (dra_v (v := .int (if (ws.length : Int) > 5 then (ws.length : Int) else 5)) (fun H3 e3 => ev_max2K (ev_ixU (by exact ev_var rfl) (e3.tup hz2) ev_c (at_nat (k := 2) rfl)) (ev_is (ev_lenQ (eq_of (by exact ev_var rfl) (sq_of (e3.strs hw2)))) (congrArg V.int strs_len))) (dra_v (by exact evk_var rfl) dra_nil))))) fun vs H3 n' e3 hv st' Q' E' q' => ?_) (by omega) fun v H3 e3 hv => ?_
  · obtain ⟨_, rfl, p0, _, rfl, hp0, _, rfl, _, rfl, _, rfl, rfl⟩ := hv
    rw [if_neg (by omega)]
    refine ⟨st, p0, wp, [], ws, 5, m, n', rfl, st', ⟨hp0, by simp, fun x h => absurd h (by simp)⟩, ⟨e3.strs hw2, by omega, hww⟩, ⟨by omega, by omega⟩, hm, fun v H4 e4 s4 hv => q' v H4 e4 s4 ?_⟩
    obtain ⟨p, l, rfl, h1, h2, h3, h4⟩ := hv
    exact ⟨p, l, rfl, h1, h2, by omega, h4⟩
  obtain ⟨fp, f, rfl, hf, _, hfl, hfw⟩ := hv
  have hw3 := e3.strs hw2
  have ho3 := e3.strs ho
  have hz3 := e3.tup hz2
  -- then
  refine d_asg (N := 0 + 80) (P := LB 0 15 (Wd 0 30)) (dr_call (M := 80) (dra_v (by exact evk_var rfl) (dra_v (by exact evk_var rfl) (dra_v (by exact evk_var rfl) (dra_v (v := .int (if (os.length : Int) > 5 then (os.length : Int) else 5)) (fun H4 e4 => ev_max2K (ev_ixU (by exact ev_var rfl) (e4.tup hz3) ev_c (at_nat (k := 2) rfl)) (ev_is (ev_lenQ (eq_of (by exact ev_var rfl) (sq_of (e4.strs ho3)))) (congrArg V.int strs_len))) (dra_v (by exact evk_var rfl) dra_nil))))) fun vs H4 n' e4 hv st' Q' E' q' => ?_) (by omega) fun v H4 e4 hv => ?_
  · obtain ⟨_, rfl, _, rfl, _, rfl, _, rfl, _, rfl, rfl⟩ := hv
    rw [if_neg (by omega)]
    refine ⟨st, wp, op, ws, os, 5, m, n', rfl, st', ⟨e4.strs hw3, by omega, hww⟩, ⟨e4.strs ho3, by omega, how⟩, ⟨by omega, by omega⟩, hm, fun v H5 e5 s5 hv => q' v H5 e5 s5 ?_⟩
    obtain ⟨p, l, rfl, h1, h2, h3, h4⟩ := hv
    exact ⟨p, l, rfl, h1, h2, by omega, h4⟩
  obtain ⟨tp, t, rfl, ht, _, htl, htw⟩ := hv
  have hw4 := e4.strs hw3
  have ho4 := e4.strs ho3
  have hz4 := e4.tup hz3
  have hf4 := e4.strs hf
  -- work
  refine d_asg (N := 0 + 200) (P := LB 0 15 (Wd 0 30)) (dr_call (M := 200) (dra_v (by exact evk_var rfl) (dra_l (xs := (ws ++ [("item" : Str), ("out" : Str)]).map V.str) (fun H5 e5 => el_is (el_cat (em_of (by exact ev_var rfl) (e5.strs hw4)) (EvL.m (el_lst (ea_cons ev_c (ea_cons ev_c ea_nil)) (by simp))) (by rw [List.length_map]; simp; omega)) (by rw [List.map_append]; rfl)) own_strs (dra_v (by exact evk_var rfl) (dra_v (v := .int 15) (fun H5 e5 => ev_ixU (by exact ev_var rfl) (e5.tup hz4) ev_c (at_nat (k := 3) rfl)) (dra_v (v := .int 1) (fun H5 e5 => ev_ixU (by exact ev_var rfl) (e5.tup hz4) ev_c (at_nat (k := 4) rfl)) dra_nil))))) fun vs H5 n' e5 hv st' Q' E' q' => ?_) (by omega) fun v H5 e5 hv => ?_
  · obtain ⟨_, rfl, p0, _, rfl, hp0, _, rfl, _, rfl, _, rfl, rfl⟩ := hv
    exact ⟨st, p0, _, m, n', rfl, st', ⟨hp0, by rw [List.length_append]; simp; omega, fun x hx => by
      rcases List.mem_append.mp hx with hx | hx
      · exact hww x hx
      · have hx' : x = "item" ∨ x = "out" := by simpa using hx
        rcases hx' with rfl | rfl
        · exact wd_c (by decide)
        · exact wd_c (by decide)⟩, by simp, hm, q'⟩
  obtain ⟨kp, k, rfl, hk, _, hkl, hkw⟩ := hv
  have hw5 := e5.strs hw4
  have ho5 := e5.strs ho4
  have hf5 := e5.strs hf4
  have ht5 := e5.strs ht
  -- all of them
  refine d_ret (N := 0) (P := fun v H6 => ∃ q : Addr, v = .ref q ∧ PartsAt H6 q m) (fun n' H6 ek s6 Q' q' => ?_) (by omega) fun v H6 e6 s6 hv => q v H6 (((((e1.trans e2).trans e3).trans e4).trans e5).trans e6) (s6.mono (by omega)) hv
  refine ⟨_, rfl, _, rfl, _, rfl, _, rfl, ?_⟩
  refine dr_sorted (s := st) (l := ws) (W := Wd 1 8) (by exact evk_var rfl) (ek.strs hw5) (by omega) hww n' H6 (Ek.refl H6) s6 _ fun v H7 e7 s7 hv => ?_
  obtain ⟨sp, sl, rfl, hsp, _, hsl, hsw⟩ := hv
  refine dr_sorted (s := st) (l := os) (W := Wd 1 8) (by exact evk_var rfl) ((ek.trans e7).strs ho5) (by omega) how n' H7 (Ek.refl H7) s7 _ fun v H8 e8 s8 hv => ?_
  obtain ⟨up, ul, rfl, hup, _, hul, huw⟩ := hv
  refine ⟨sz_of (by simp), fun r hr => q' _ _ ((e7.trans e8).trans (Ek.of (Ex.new hr))) (s8.ex (Ex.new hr)) ⟨r, rfl, fp, tp, kp, sp, up, f, t, k, sl, ul, upd_same, ?_, ?_, ?_, ?_, ?_, ⟨hfl, hfw⟩, ⟨htl, htw⟩, ⟨hkl, hkw⟩, ⟨by omega, hsw⟩, ⟨by omega, huw⟩⟩⟩
  · exact Ex.new hr _ _ (((ek.trans e7).trans e8).strs hf5)
  · exact Ex.new hr _ _ (((ek.trans e7).trans e8).strs ht5)
  · exact Ex.new hr _ _ (((ek.trans e7).trans e8).strs hk)
  · exact Ex.new hr _ _ (e8.strs hsp)
  · exact Ex.new hr _ _ hup
theorem k_l_drawn_parts (T : Tx K mg) : Kp P w K mg base CX0 "_law_drawn_parts" 8 p_l_drawn_parts (spParts6 K) :=
  Kp.of T.F_l_drawn_parts T.g_l_drawn_parts sc_l_drawn_parts (fun _ _ _ _ _ _ us hl => match us, hl with | [_, _, _], _ => rfl) (fun vs H Q E h => by obtain ⟨s, m, z, n, rfl, _⟩ := h; rfl) fun cdv A outer s H vs Q E hr h => ⟨_, (der_l_drawn_parts T hr (k_l_drawn_words T) (k_l_draw T) (k_l_plains T) (k_l_work T)).h.nox, b_l_drawn_parts T hr h⟩
end
end K27

set_option maxRecDepth 100000
set_option maxHeartbeats 4000000
/-! the row -/
namespace K27
open PySem PySem.Spec PyProof.Rows L2 Evl
theorem tk_joinL : ∀ (ys : List (List Nat)) (b : Nat), (∀ y ∈ ys, y.length ≤ b ∧ ∀ c ∈ y, c < 128) → (TL.joinL [32] ys).length ≤ ys.length * (b + 1) ∧ ∀ c ∈ TL.joinL [32] ys, c < 128
  | [], b, _ => ⟨Nat.zero_le _, fun c h => absurd h (by simp [TL.joinL])⟩
  | [y], b, h => by
    obtain ⟨h1, h2⟩ := h y List.mem_cons_self
    exact ⟨by show y.length ≤ 1 * (b + 1); omega, h2⟩
  | y :: z :: r, b, h => by
    obtain ⟨h1, h2⟩ := h y List.mem_cons_self
    obtain ⟨h3, h4⟩ := tk_joinL (z :: r) b fun x hx => h x (List.mem_cons_of_mem _ hx)
    show (y ++ ([32] ++ TL.joinL [32] (z :: r))).length ≤ ((z :: r).length + 1) * (b + 1) ∧ ∀ c ∈ y ++ ([32] ++ TL.joinL [32] (z :: r)), c < 128
    refine ⟨?_, fun c hc => ?_⟩
    · rw [List.length_append, List.length_append, List.length_singleton, Nat.add_mul]
      omega
    · rcases List.mem_append.mp hc with hc | hc
      · exact h2 c hc
      · rcases List.mem_append.mp hc with hc | hc
        · rw [List.mem_singleton.mp hc]
          decide
        · exact h4 c hc
theorem tk_join {ys : List Str} {b : Nat} (h : ∀ y ∈ ys, Tk b y) : Tk (ys.length * (b + 1)) (Txt.join " " ys) := by
  have h1 : TL.tl (Txt.join " " ys) = TL.joinL [32] (ys.map TL.tl) := by
    rw [TL.join_eq, TL.tl_join]
    rfl
  obtain ⟨h2, h3⟩ := tk_joinL (ys.map TL.tl) b fun y hy => by
    obtain ⟨x, hx, rfl⟩ := List.mem_map.mp hy
    exact ⟨by rw [← TL.len_tl]; exact (h x hx).1, (h x hx).2⟩
  refine ⟨?_, fun c hc => h3 c ?_⟩
  · rw [TL.len_tl, h1]
    rw [List.length_map] at h2
    exact h2
  · rw [← h1]
    exact hc
theorem sum_le {b : Nat} : ∀ {ys : List Str}, (∀ y ∈ ys, y.length ≤ b) → (ys.map (·.length)).sum ≤ ys.length * b
  | [], _ => Nat.zero_le _
  | y :: ys, h => by
    have h1 := h y List.mem_cons_self
    have h2 := sum_le (b := b) fun x hx => h x (List.mem_cons_of_mem _ hx)
    rw [List.map_cons, List.sum_cons, List.length_cons, Nat.add_mul]
    omega
section
variable {P : Program} {w : World} {K : PySem.W.Frag} {mg : PySem.Str → Option Value} {base : Heap}
section
variable {s : Addr} {σ : L2.St} {H : Hp} {te tb tc : TE} {ta tr : TA} {E : XK} {i j l k m N M : Nat} {tt : TT} {tu tz : TS} {D : Ends} {B : Bool → Prop} {PA : List V → Hp → Prop}
theorem dr_join {lo hi b : Nat} (h : Dr s te σ H N (LB lo hi (Wd 0 b))) (hz : hi * (b + 1) ≤ 4000) : Dr s (tM1 (rJoin K) (tC (.str " ")) te) σ H N (TB 0 4000) := fun n H1 ek st Q q => ⟨⟨_, rfl⟩, h n H1 ek st _ fun v H2 e2 s2 hv => by
  obtain ⟨p, ys, rfl, hp, h1, h2, hw⟩ := hv
  have hl : ys.length * (b + 1) ≤ hi * (b + 1) := Nat.mul_le_mul_right _ h2
  have hs := sum_le (b := b) (ys := ys) fun y hy => (hw y hy).2.1
  have hj := tk_join fun y hy => (hw y hy).2
  refine ⟨" ", p, ys, rfl, rfl, .inl (sq_of hp), ?_, q _ H2 e2 s2 ⟨_, rfl, Nat.zero_le _, hj.mono (by omega)⟩⟩
  have e1 : ((" " : Str)).length = 1 := rfl
  rw [e1]
  rw [Nat.mul_add] at hl
  omega⟩
theorem d_whenS2 (R : L2.St → Hp → Prop) (h : DrT s tt σ H N B) (hN : N ≤ m) (h1 : B true → ∀ D' : Ends, (∀ σ' H', R σ' H' → D'.nx σ' H') → DGo s tu D' σ H (m - N)) (h2 : B false → ∀ H1, Ek H H1 → Strm s (m - N) H1 → R σ H1)
    (k : ∀ σ' H', R σ' H' → tz D σ' H') : DGo s (tSeq (tIfS tt tu tNext) tz) D σ H m := d_ifS R h hN h1 (fun hb D' hD H1 e1 s1 => hD σ H1 (h2 hb H1 e1 s1)) k
/-- a comprehension over a range, with draws -/
theorem dr_lcR {vs : List Nat} {b kk : Nat} (h : DrA s ta σ H N PA) (hPA : ∀ us H1, PA us H1 → ∃ k : Nat, us = [.int (k : Int)] ∧ k ≤ kk) (hkk : kk ≤ 1000) (hw : ∀ x, wipe ((wipe σ vs).set j (some x)) vs = wipe σ vs)
    (he : ∀ (i : Nat) H1, Ek H H1 → Dr s te ((wipe σ vs).set j (some (.int ((0 : Int) + (i : Int))))) H1 M (TB 0 b)) : Dr s (tLc (iRng1 ta) (gName j) tYes te vs) σ H (N + kk * M) (LB 0 kk (Wd 0 b)) := fun n H1 ek st Q q =>
  h (n + kk * M) H1 ek (st.mono (by omega)) _ fun us H2 e2 s2 hp => by
    obtain ⟨k, rfl, hk⟩ := hPA us H2 hp
    refine ⟨(k : Int), rfl, by omega, by omega, fun Dl hD => ?_⟩
    rw [Int.toNat_natCast]
    refine lc_range (lo := 0) (n := k) (fun i H' => Ek H2 H' ∧ Strm s (n + (kk - i) * M) H' ∧ ∃ l : List Str, H' Dl = some (.lst (l.map V.str)) ∧ l.length = i ∧ ∀ x ∈ l, Wd 0 b x) ⟨Ek.of (Ex.new hD), (s2.ex (Ex.new hD)).mono (by rw [Nat.sub_zero]; exact Nat.le_refl _), [], upd_same, rfl, fun x h => absurd h (by simp)⟩ (fun i H' hi p => ?_) fun H' p => ?_
    · obtain ⟨e3, s3, l, hl, hll, hlw⟩ := p
      refine ⟨hw _, ?_⟩
      show te _ H' _
      have hfuel : n + (kk - (i + 1)) * M + M ≤ n + (kk - i) * M := by
        have : kk - i = (kk - (i + 1)) + 1 := by omega
        rw [this, Nat.add_mul, Nat.one_mul]
        omega
      refine he i H' ((ek.trans e2).trans e3) (n + (kk - (i + 1)) * M) H' (Ek.refl H') (s3.mono hfuel) _ fun v H4 e4 s4 hv => ?_
      obtain ⟨z, rfl, hz⟩ := hv
      have hl4 := e4.strs hl
      refine ⟨_, hl4, sz_lt (by rw [List.length_map]; omega), Ek.mut (e3.trans e4) hD, s4.mut hl4 own_strs, l ++ [z], by rw [List.map_append]; exact upd_same, by rw [List.length_append, List.length_singleton, hll], fun x hx => ?_⟩
      rcases List.mem_append.mp hx with hx | hx
      · exact hlw x hx
      · rw [List.mem_singleton.mp hx]
        exact hz
    · obtain ⟨e3, s3, l, hl, hll, hlw⟩ := p
      exact q _ H' (e2.trans e3) (s3.mono (Nat.le_add_right _ _)) ⟨Dl, l, rfl, hl, Nat.zero_le _, by omega, hlw⟩
/-- new lists of texts, one behind the other -/
def LstA (ta : TA) (σ : L2.St) (H : Hp) (W : List Str → Prop) (k : Nat) : Prop := ∀ H1, Ex H H1 → ∀ Q : List V → Hp → Prop, (∀ (ps : List Addr) H2, Ex H1 H2 → ps.length = k → (∀ p ∈ ps, ∃ l : List Str, H2 p = some (.lst (l.map V.str)) ∧ W l) → Q (ps.map V.ref) H2) → ta σ H1 Q
theorem lsta_nil {W : List Str → Prop} : LstA tNil σ H W 0 := fun H1 e Q q => q [] H1 (Ex.refl H1) rfl fun p h => absurd h (by simp)
theorem lsta_cons {W : List Str → Prop} {l : List Str} (h : EvL te σ H (l.map V.str)) (hW : W l) (hr : LstA tr σ H W k) : LstA (tCons te tr) σ H W (k + 1) := fun H1 e Q q => h H1 e _ fun p H2 _ e2 h2 => hr H2 (e.trans e2) _ fun ps H3 e3 hl hp => q (p :: ps) H3 (e2.trans e3) (by rw [List.length_cons, hl]) fun x hx => by
  rcases List.mem_cons.mp hx with rfl | hx
  · exact ⟨l, e3 _ _ h2, hW⟩
  · exact hp x hx
theorem dr_ofLL {W : List Str → Prop} (h0 : σ[i]? = some (some (.ref s))) (h : ∀ H1, Ek H H1 → LstA ta σ H1 W k) (hk : 0 < k ∧ k ≤ 100) : Dr s (tCall (spOf K) [] E (tCons (tVar i) (tCons (tLst ta) tNil))) σ H 1 (fun v H2 => ∃ (p : Addr) (l : List Str), v = .ref p ∧ H2 p = some (.lst (l.map V.str)) ∧ W l) :=
  Dr.is (dr_call (PA := fun vs H1 => ∃ (p : Addr) (ps : List Addr), vs = [.ref s, .ref p] ∧ H1 p = some (.lst (ps.map V.ref)) ∧ ps.length = k ∧ ∀ p ∈ ps, ∃ l : List Str, H1 p = some (.lst (l.map V.str)) ∧ W l) (N := 0) (fun n H1 e1 st Q q => ⟨.ref s, h0, h H1 e1 H1 (Ex.refl H1) _ fun ps H2 e2 hl hp => ⟨sz_of (by rw [List.length_map]; omega), fun p hpn => q _ _ (Ek.of (e2.trans (Ex.new hpn))) (st.ex (e2.trans (Ex.new hpn))) ⟨p, ps, rfl, upd_same, hl, fun x hx => by
      obtain ⟨l, h1, h2⟩ := hp x hx
      exact ⟨l, Ex.new hpn _ _ h1, h2⟩⟩⟩⟩) fun vs H1 n e1 hv st Q E q => by
    obtain ⟨p, ps, rfl, hp, hl, hps⟩ := hv
    refine ⟨s, p, ps.map V.ref, n, rfl, hp, ?_, ?_, by rw [List.length_map]; omega, st, fun v H2 e2 s2 hv => q v H2 e2 s2 ?_⟩
    · cases ps <;> rfl
    · intro e
      have := List.map_eq_nil_iff.mp e
      rw [this] at hl
      have : (0 : Nat) = k := hl
      omega
    · obtain ⟨x, hx, rfl⟩ := List.mem_map.mp hv
      obtain ⟨l, h1, h2⟩ := hps x hx
      exact ⟨x, l, rfl, e2.strs h1, h2⟩) rfl
theorem el_rep2 {x : Str} (h : EvM te σ H ([x].map V.str)) : EvL (tOp rRep te (tC (.int 2))) σ H ([x, x].map V.str) := fun H1 e Q q => h H1 e _ fun p H2 e2 hp => ⟨p, 2, _, rfl, rfl, hp, by decide, by decide, by show 1 * 2 ≤ sizeLine; decide, fun r hr => q r _ (fresh_back e2 hr) (e2.trans (Ex.new hr)) upd_same⟩
end
def spRow (K : PySem.W.Frag) : Sp := fun vs H Q _ => ∃ (s p : Addr) (l : List Str) (m o : Str) (n : Nat), vs = [.ref s, .ref p, .str m, .str o] ∧ Strm s (n + 80) H ∧ WL H p l ∧ l ≠ [] ∧ Mks m ∧ Wd 0 8 o ∧ ∀ v H2, Ek H H2 → Strm s n H2 → TB 0 4000 v H2 → Q v H2
theorem b_l_row {A : Around} {cdv : Value} {outer : List Env} {s : Shared} {H : Hp} {E : XK} {Q : VK} {vs : List V} (T : Tx K mg) (hr) (h : spRow K vs H Q E) :
    (der_l_row (P := P) (w := w) (base := base) (cdv := cdv) (A := A) (outer := outer) (s := s) (H := H) (E := E) T hr (k_l_draw T) (k_l_token T) (k_l_plain_row T) (k_l_binding T) (k_l_test T) (k_l_of T) (k_l_last T)).t { nx := fun _ H' => Q .non H', rt := Q } (start N_l_row vs) H := by
  obtain ⟨st, p, l, m, o, n, rfl, hs, hw, hne, hm, ho, q⟩ := h
  simp only [der_l_row]
  refine dgo_run (s := st) (m := n + 80) (d_asg (N := 1) (dr_draw (k := 6) (by rfl) (by exact evk_c) (by decide)) (by omega) fun v H1 e1 hv => ?_) hs
  obtain ⟨rd, rfl, _⟩ := hv
  have hw1 := hw.ek e1
  refine d_when (N := 0) (drt_kind (v := .non) (by rfl)) (by omega) (fun _ => ?_) fun _ => ?_
  · refine d_ret (N := (0 + 1 + 0) + 6 * 4) (dr_join (lo := 0) (hi := 6) (b := 12) (dr_lcR (kk := 6) (M := 4) (b := 12) (dra_d (P := IB 1 7) (dr_op (P1 := fun v _ => v = .int 1) (P2 := IB 0 6) (dr_ev (by exact evk_c) fun _ _ => rfl) (fun _ _ _ _ h => h) (fun v H2 e2 _ => dr_draw (k := 6) (by rfl) (by exact evk_c) (by decide)) fun u v H2 e2 hu hv => by
        subst hu
        obtain ⟨i, rfl, i0, i1⟩ := hv
        exact ⟨_, rv_addI, fun _ _ => ⟨_, rfl, by omega, by omega⟩⟩) IB.mono fun _ _ _ _ => dra_nil) (fun us H2 hv => by
          obtain ⟨v, _, rfl, ⟨i, rfl, i0, i1⟩, rfl⟩ := hv
          exact ⟨i.toNat, by rw [show (((i.toNat : Nat)) : Int) = i by omega], by omega⟩) (by omega) (fun _ => rfl) fun i H2 e2 => dr_token (by rfl) (by rfl) (by rfl) (by rfl) (hw1.ek e2) hne hm ho) (by decide)) (by omega) fun v H3 e3 s3 hv => q v H3 (e1.trans e3) (s3.mono (by omega)) hv
  refine d_asg (N := 12) (dr_prow (by rfl) (by rfl) (by rfl) hw1 hne hm) (by omega) fun v H2 e2 hv => ?_
  obtain ⟨z0, rfl, hz0⟩ := hv
  have hw2 := hw1.ek e2
  -- road 1
  refine d_whenS2 (fun σ' H' => ∃ z : Str, σ' = [some (.ref st), some (.ref p), some (.str m), some (.str o), some (.int rd), none, some (.str z), none, none, none, none] ∧ Ek H H' ∧ Strm st (n + 57) H' ∧ Wd 0 30 z) (N := 0) (drt_kind (v := .non) (by rfl)) (by omega) (fun _ D' hD => ?_) (fun _ H3 e3 s3 => ⟨z0, rfl, (e1.trans e2).trans e3, s3.mono (by omega), hz0⟩) fun σ3 H3 hR => ?_
  · refine dl_asg (N := 10) (dr_bindE (by rfl) (by exact evk_var rfl) (by rfl) (by rfl) ho hw2 hm) (by omega) fun v H3 e3 s3 hv => ?_
    obtain ⟨z, rfl, hz⟩ := hv
    exact hD _ _ ⟨z, rfl, (e1.trans e2).trans e3, s3.mono (by omega), hz⟩
  obtain ⟨z1, rfl, e3, s3, hz1⟩ := hR
  have hw3 := hw.ek e3
  -- road 2
  refine dgo_run (s := st) (m := n + 57) (d_whenS2 (fun σ' H' => ∃ z : Str, σ' = [some (.ref st), some (.ref p), some (.str m), some (.str o), some (.int rd), none, some (.str z), none, none, none, none] ∧ Ek H H' ∧ Strm st (n + 47) H' ∧ Wd 0 30 z) (N := 0) (drt_kind (v := .non) (by rfl)) (by omega) (fun _ D' hD => ?_) (fun _ H4 e4 s4 => ⟨z1, rfl, e3.trans e4, s4.mono (by omega), hz1⟩) fun σ4 H4 hR => ?_) s3
  · refine dl_asg (N := 10) (dr_test (by rfl) (by rfl) (by rfl) hw3 hne hm) (by omega) fun v H4 e4 s4 hv => ?_
    obtain ⟨z, rfl, hz⟩ := hv
    exact hD _ _ ⟨z, rfl, e3.trans e4, s4.mono (by omega), hz⟩
  obtain ⟨z2, rfl, e4, s4, hz2⟩ := hR
  have hw4 := hw.ek e4
  -- road 3
  refine dgo_run (s := st) (m := n + 47) (d_whenS2 (fun σ' H' => ∃ z : Str, σ' = [some (.ref st), some (.ref p), some (.str m), some (.str o), some (.int rd), none, some (.str z), none, none, none, none] ∧ Ek H H' ∧ Strm st (n + 37) H' ∧ Wd 0 30 z) (N := 0) (drt_kind (v := .non) (by rfl)) (by omega) (fun _ D' hD => ?_) (fun _ H5 e5 s5 => ⟨z2, rfl, e4.trans e5, s5.mono (by omega), hz2⟩) fun σ5 H5 hR => ?_) s4
  · refine dl_asg (N := 9 + 1) (P := TB 0 30) (dr_call (M := 1) (N := 9) (PA := fun vs H1 => ∃ (pp : Addr) (x : Str), vs = [.ref st, .ref pp] ∧ H1 pp = some (.lst (([("else" : Str), ("end" : Str), x]).map V.str)) ∧ Wd 0 30 x) (fun n' H5 e5 s5 Q' q' => ⟨_, rfl, ?_⟩) fun vs H5 n' e5 hv st' Q' E' q' => ?_) (by omega) fun v H5 e5 s5 hv => ?_
    · refine dr_last (s := st) (by rfl) (by rfl) (by rfl) hw4 hm n' H5 e5 s5 _ fun v H6 e6 s6 hv => ?_
      obtain ⟨x, rfl, hx⟩ := hv
      exact ⟨sz_of (by simp), fun pp hpp => q' _ _ (e6.trans (Ek.of (Ex.new hpp))) (s6.ex (Ex.new hpp)) ⟨pp, x, rfl, upd_same, hx⟩⟩
    · obtain ⟨pp, x, rfl, hpp, hx⟩ := hv
      refine ⟨st, pp, _, n', rfl, hpp, rfl, by simp, by simp, st', fun v H6 e6 s6 hv => q' v H6 e6 s6 ?_⟩
      obtain ⟨y, hy, rfl⟩ := List.mem_map.mp hv
      have hy' : y = "else" ∨ y = "end" ∨ y = x := by simpa using hy
      rcases hy' with rfl | rfl | rfl
      · exact ⟨_, rfl, wd_c (by decide)⟩
      · exact ⟨_, rfl, wd_c (by decide)⟩
      · exact ⟨_, rfl, hx⟩
    · obtain ⟨z, rfl, hz⟩ := hv
      exact hD _ _ ⟨z, rfl, e4.trans e5, s5.mono (by omega), hz⟩
  obtain ⟨z3, rfl, e5, s5, hz3⟩ := hR
  have hw5 := hw.ek e5
  -- tokens
  have hz3l : z3.length ≤ 30 := hz3.2.1
  have hcount : (spl z3).length ≤ 31 := by
    have h1 := sp1_count (l := TL.tl z3) (acc := [])
    rw [← spl_codes, List.length_map, ← TL.len_tl] at h1
    omega
  refine dgo_run (s := st) (m := n + 37) (d_asgL (xs := (spl z3).map V.str) (fun H6 e6 => el_split (by exact ev_var rfl) ev_c rfl (by omega)) fun tp H6 _ e6 htp => ?_) s5
  refine d_forR (N := 1 + 0) (dra_d (P := IB 0 3) (dr_draw (k := 3) (by rfl) (by exact evk_c) (by decide)) IB.mono fun _ _ _ _ => dra_nil) (by omega) (fun k => 0 ≤ k ∧ k ≤ 2) (fun vs H7 hv => by
      obtain ⟨v, _, rfl, ⟨i, rfl, i0, i1⟩, rfl⟩ := hv
      exact ⟨i, rfl, by omega, by omega, by omega, by omega⟩) (fun i σ' H' => ∃ (tl : List Str) (tq : Addr) (x5 x8 x9 x10 : Option V), σ' = [some (.ref st), some (.ref p), some (.str m), some (.str o), some (.int rd), x5, some (.str z3), some (.ref tq), x8, x9, x10] ∧ Ek H H' ∧ Strm st (n + 36 - 6 * i) H' ∧
      H' tq = some (.lst (tl.map V.str)) ∧ tl ≠ [] ∧ tl.length ≤ 31 + i ∧ ∀ x ∈ tl, Wd 0 30 x) (fun H7 e7 s7 => ⟨spl z3, tp, _, _, _, _, rfl, (e5.trans e6).trans e7, s7.mono (by omega), e7.strs htp, spl_ne z3, by omega, fun x hx => ⟨Nat.zero_le _, tk_spl hz3.2 hx⟩⟩) (fun k i σ' H' hk hi pp => ?_) fun k σ' H' hk pp => ?_
  · obtain ⟨tl, tq, x5, x8, x9, x10, rfl, e7, s7, htq, htne, htl, htw⟩ := pp
    have hi2 : i < 2 := by omega
    have hw7 := hw.ek e7
    have htpos : 0 < tl.length := List.length_pos_iff.mpr htne
    have okt : ∀ {t2 : List Str}, (∀ x ∈ t2, Wd 0 30 x) → ∀ x ∈ t2, PyData.strOk x = true := fun h x hx => (h x hx).2.ok
    refine dgo_run (s := st) (m := n + 36 - 6 * i) (d_parD (N := 1) (M := 4) (P1 := IB 0 tl.length) (P2 := TB 0 12) (dr_draw (k := tl.length) (by rfl) (fun H8 e8 => ev_is (ev_lenQ (eq_of (by exact ev_var rfl) (sq_of (e8.strs htq)))) (congrArg V.int strs_len)) ⟨by omega, by omega⟩) IB.mono (fun v H8 e8 _ => dr_token (by rfl) (by rfl) (by rfl) (by rfl) (hw7.ek e8) hne hm ho) (by omega) fun v u H8 e8 hv hu => ?_) s7
    obtain ⟨a, rfl, a0, a1⟩ := hv
    obtain ⟨tok, rfl, htok⟩ := hu
    obtain ⟨an, rfl⟩ : ∃ an : Nat, a = (an : Int) := ⟨a.toNat, by omega⟩
    have han : an < tl.length := by omega
    have htq8 := e8.strs htq
    have htok30 : Wd 0 30 tok := Wd.le htok (by omega) (by omega)
    have hat : (tl.map V.str)[an]? = some (.str tl[an]) := by
      rw [List.getElem?_map, List.getElem?_eq_getElem han]
      rfl
    have w1 : (fun l : List Str => l.length ≤ 2 ∧ ∀ x ∈ l, Wd 0 30 x) [tok] := ⟨by simp, fun x hx => by
      rw [List.mem_singleton.mp hx]
      exact htok30⟩
    refine d_asg (N := 1) (dr_ofLL (k := 6) (W := fun l => l.length ≤ 2 ∧ ∀ x ∈ l, Wd 0 30 x) (by rfl) (fun H9 e9 => lsta_cons (l := [tok]) (el_lst (ea_cons (by exact ev_var rfl) ea_nil) (by simp)) w1 (lsta_cons (l := [tok]) (el_lst (ea_cons (by exact ev_var rfl) ea_nil) (by simp)) w1 (lsta_cons (l := [tok]) (el_lst (ea_cons (by exact ev_var rfl) ea_nil) (by simp)) w1 (lsta_cons (l := []) (el_lst ea_nil (by simp)) ⟨by simp, fun x hx => absurd hx (by simp)⟩
        (lsta_cons (l := [tok, tok]) (el_rep2 (EvL.m (el_lst (ea_cons (by exact ev_var rfl) ea_nil) (by simp)))) ⟨by simp, fun x hx => by
          have hx' : x = tok := by simpa using hx
          rw [hx']
          exact htok30⟩ (lsta_cons (l := [tok, tl[an]]) (el_lst (ea_cons (by exact ev_var rfl) (ea_cons (ev_ixQ (eq_of (by exact ev_var rfl) (sq_of (e9.strs htq8))) (by exact ev_var rfl) (at_nat hat)) ea_nil)) (by simp)) ⟨by simp, fun x hx => by
          have hx' : x = tok ∨ x = tl[an] := by simpa using hx
          rcases hx' with rfl | rfl
          · exact htok30
          · exact htw _ (List.getElem_mem han)⟩ lsta_nil)))))) (by decide)) (by omega) fun v H9 e9 hv => ?_
    obtain ⟨ip, il, rfl, hip, hil2, hilw⟩ := hv
    have htq9 := e9.strs htq8
    have c1 : cutV (tl.map V.str) none (some (an : Int)) = (tl.take an).map V.str := by
      rw [cut_map, six_nat]
      show ((tl.drop 0).take (min an tl.length - 0)).map V.str = _
      rw [List.drop_zero, Nat.sub_zero, Nat.min_eq_left (by omega)]
    have c2 : cutV (tl.map V.str) (some ((an : Int) + 1)) none = (tl.drop (an + 1)).map V.str := by
      rw [show ((an : Int) + 1) = ((an + 1 : Nat) : Int) by omega]
      exact cut_from tl (an + 1)
    have hlen : ((tl.take an ++ il) ++ tl.drop (an + 1)).length ≤ 31 + (i + 1) := by
      rw [List.length_append, List.length_append, List.length_take, List.length_drop]
      omega
    have hall : ∀ x ∈ ((tl.take an ++ il) ++ tl.drop (an + 1)), Wd 0 30 x := fun x hx => by
      rcases List.mem_append.mp hx with hx | hx
      · rcases List.mem_append.mp hx with hx | hx
        · exact htw x (List.mem_of_mem_take hx)
        · exact hilw x hx
      · exact htw x (List.mem_of_mem_drop hx)
    refine d_asgL (xs := ((tl.take an ++ il) ++ tl.drop (an + 1)).map V.str) (fun H10 e10 => el_is (el_cat (EvL.m (el_cat (EvL.m (el_is (el_slQ (eq_of (by exact ev_var rfl) (sq_of (e10.strs htq9))) eo_none (eo_some (by exact ev_var rfl))) c1)) (em_of (by exact ev_var rfl) (e10.strs hip)) (by rw [List.length_map, List.length_map, List.length_take]; omega))) (EvL.m (el_is (el_slQ (eq_of (by exact ev_var rfl) (sq_of (e10.strs htq9))) (eo_some (ev_op (by exact ev_var rfl) ev_c rv_addI)) eo_none) c2)) (by rw [List.length_append, List.length_map, List.length_map, List.length_map, List.length_take, List.length_drop]; omega)) (by rw [List.map_append, List.map_append])) fun np H10 _ e10 hnp => ?_
    refine d_if (N := 0) (drt_ev (b := decide (((tl.take an ++ il) ++ tl.drop (an + 1)) = [])) fun H11 e11 => et_test (ev_eqSS (m := []) (okt hall) (fun x hx => by cases hx) (eq_of (by exact ev_var rfl) (sq_of (e11.strs hnp))) (EvL.q (el_lst ea_nil (by simp))))) (by omega) (fun hb => ?_) fun hb => ?_
    · refine dl_asg (N := 0) (P := fun v H11 => ∃ q : Addr, v = .ref q ∧ H11 q = some (.lst ([tok].map V.str))) (dr_el (xs := [tok].map V.str) (fun H11 e11 => el_lst (ea_cons (by exact ev_var rfl) ea_nil) (by simp)) fun q H11 _ h => ⟨q, rfl, h⟩) (by omega) fun v H11 e11 s11 hv => ?_
      obtain ⟨nq, rfl, hnq⟩ := hv
      exact ⟨[tok], nq, _, _, _, _, rfl, (((e7.trans e8).trans e9).trans e10).trans e11, s11.mono (by omega), hnq, by simp, by simp; omega, w1.2⟩
    · exact d_nx fun H11 e11 s11 => ⟨_, np, _, _, _, _, rfl, (((e7.trans e8).trans e9).trans e10).trans e11, s11.mono (by omega), e11.strs hnp, of_decide_eq_false hb.symm, hlen, hall⟩
  · obtain ⟨tl, tq, x5, x8, x9, x10, rfl, e7, s7, htq, htne, htl, htw⟩ := pp
    have hk2 : k.toNat ≤ 2 := by omega
    refine dgo_run (s := st) (m := n + 36 - 6 * k.toNat) (d_ret (N := 0) (dr_join (lo := 0) (hi := 33) (b := 30) (dr_ev (by exact evk_var rfl) fun H8 e8 => ⟨tq, tl, rfl, e8.strs htq, Nat.zero_le _, by omega, htw⟩) (by decide)) (by omega) fun v H8 e8 s8 hv => q v H8 (e7.trans e8) (s8.mono (by omega)) hv) s7
theorem k_l_row (T : Tx K mg) : Kp P w K mg base CX0 "_law_row" 7 p_l_row (spRow K) :=
  Kp.of T.F_l_row T.g_l_row sc_l_row (fun _ _ _ _ _ _ us hl => match us, hl with | [_, _, _, _], _ => rfl) (fun vs H Q E h => by obtain ⟨s, p, l, m, o, n, rfl, _⟩ := h; rfl) fun cdv A outer s H vs Q E hr h => ⟨_, (der_l_row T hr (k_l_draw T) (k_l_token T) (k_l_plain_row T) (k_l_binding T) (k_l_test T) (k_l_of T) (k_l_last T)).h.nox, b_l_row T hr h⟩
end
end K27

set_option maxRecDepth 100000
set_option maxHeartbeats 4000000
/-! the numbers -/
namespace K27
open PySem PySem.Spec PyProof.Rows L2 Evl
section
variable {P : Program} {w : World} {K : PySem.W.Frag} {mg : PySem.Str → Option Value} {base : Heap}
section
variable {s : Addr} {σ : L2.St} {H H' : Hp} {te tb ta tc : TE} {tr : TA} {E : XK} {i j l k m N : Nat} {tt : TT} {tu tz : TS} {D : Ends} {PA : List V → Hp → Prop}
theorem el_lcI {l : List Int} {vs : List Nat} (g : Int → V) (h : EvQ K ta σ H (l.map V.int)) (hz : l.length ≤ 100000) (hw : ∀ x, wipe ((wipe σ vs).set j (some x)) vs = wipe σ vs)
    (he : ∀ c ∈ l, Ev te ((wipe σ vs).set j (some (.int c))) H (g c)) : EvL (tLc (iList K ta) (gName j) tYes te vs) σ H (l.map g) := fun H0 e Q q => h H0 e _ fun a H1 e1 ha => ⟨a, rfl, ⟨_, ha⟩,
  el_lc (H := H1) l (fun _ => true) g V.int (Y := YAt (l.map V.int)) (G := fun H => SqL K H a (l.map V.int)) (by
    have w := walk_list (K := K) (a := a) (xs := l.map V.int)
    rw [List.length_map] at w
    exact w) (fun H2 e2 => ex_l e2 ha) (fun i H1 x H2 y => ⟨y.1, by
      have y2 := y.2
      rw [List.getElem?_map] at y2
      cases hl : l[i]? with
      | none =>
        rw [hl] at y2
        cases y2
      | some c =>
        rw [hl] at y2
        exact ⟨c, rfl, (Option.some.inj y2).symm⟩⟩) hz hw (fun c hc => et_yes) (fun c hc hf => (he c hc).mono (e.trans e1)) (Ex.refl H1) fun p H2 hp e2 h2 => q p H2 (fresh_back e1 hp) (e1.trans e2) (by rw [filt_yes] at h2; exact h2)⟩
theorem el_rep01 {xs : List V} {b : Bool} (h : EvM ta σ H xs) (hb : Ev tb σ H (.int (if b then 1 else 0))) (hz : xs.length ≤ 10) : EvL (tOp rRep ta tb) σ H (if b then xs else []) := fun H1 e Q q => h H1 e _ fun p H2 e2 hp => hb H2 (e.trans e2) _ fun H3 e3 =>
  ⟨p, _, xs, rfl, rfl, e3 _ _ hp, by cases b <;> decide, by cases b <;> decide, by
    cases b
    · show xs.length * 0 ≤ _
      omega
    · show xs.length * 1 ≤ _
      exact Nat.le_trans (by omega) (show 10 ≤ sizeLine by decide), fun r hr => by
    have e1 : (List.replicate (if b then (1 : Int) else 0).toNat xs).flatten = (if b then xs else []) := by
      cases b
      · rfl
      · show xs ++ [] = xs
        exact List.append_nil xs
    rw [e1]
    exact q r _ (fresh_back (e2.trans e3) hr) ((e2.trans e3).trans (Ex.new hr)) upd_same⟩
theorem ev_ifV {b : Bool} {x y : V} (h : EvT tt σ H b) (h1 : Ev ta σ H x) (h2 : Ev tb σ H y) : Ev (tIf tt ta tb) σ H (if b then x else y) := ev_if h (fun hb => by
  rw [hb]
  exact h1) fun hb => by
  rw [hb]
  exact h2
end
def spNum (K : PySem.W.Frag) : Sp := fun vs H Q _ => ∃ (a : Addr) (ns : List Int) (pl : Int), vs = [.ref a, .int pl] ∧ SqL K H a (ns.map V.int) ∧ ns.length ≤ 63 ∧ (0 ≤ pl ∧ pl ≤ 10) ∧ ∀ s H1, Ex H H1 → Strm s 1000000 H1 → Q (.ref s) H1
theorem k_l_numbers (T : Tx K mg) : Kp P w K mg base CX0 "_law_numbers" 1 p_l_numbers (spNum K) :=
  Kp.of T.F_l_numbers T.g_l_numbers sc_l_numbers (fun _ _ _ _ _ _ us hl => match us, hl with | [_, _], _ => rfl) (fun vs H Q E h => by obtain ⟨a, ns, pl, rfl, _⟩ := h; rfl) fun cdv A outer s H vs Q E hr h => ⟨_, (der_l_numbers T hr).h.nox, by
    obtain ⟨a, ns, pl, rfl, hs, hl, hp, q⟩ := h
    simp only [der_l_numbers]
    have hcut : cutV (ns.map V.int) none (some 63) = ns.map V.int := by
      unfold cutV
      have e1 : HT.sIx (ns.map V.int).length (ns.map V.int).length (some 63) = min 63 (ns.map V.int).length := six_nat _ _ 63
      have e2 : HT.sIx (ns.map V.int).length 0 none = 0 := rfl
      rw [e1, e2, List.drop_zero, Nat.sub_zero, Nat.min_eq_right (by rw [List.length_map]; omega), List.take_length]
    have hlm : (((ns.map V.int).length : Nat) : Int) = (ns.length : Int) := by rw [List.length_map]
    obtain ⟨cs, hcs, hne, hcl⟩ : ∃ cs : List Int, (ns.map V.int ++ (if decide (((ns.map V.int).length : Int) = 0) then [V.int 0] else [])) = cs.map V.int ∧ cs ≠ [] ∧ cs.length ≤ 64 := by
      by_cases h0 : ns = []
      · subst h0
        exact ⟨[0], rfl, by simp, by simp⟩
      · refine ⟨ns, ?_, h0, by omega⟩
        have hpos := List.length_pos_iff.mpr h0
        rw [decide_eq_false (by rw [hlm]; omega)]
        exact List.append_nil _
    have hpos := List.length_pos_iff.mpr hne
    refine go_run (n_asgL (xs := cs.map V.int) (el_is (el_cat (EvL.m (el_lcI (l := ns) V.int (EvL.q (el_is (el_slQ (eq_of (by exact ev_var rfl) hs) eo_none (eo_some ev_c)) hcut)) (by omega) (fun _ => rfl) fun c hc => ev_int (by exact ev_var rfl))) (EvL.m (el_rep01 (xs := [V.int 0]) (b := decide (((ns.map V.int).length : Int) = 0)) (EvL.m (el_lst (ea_cons ev_c ea_nil) (by simp))) (ev_intB (ev_op (ev_lenQ (eq_of (by exact ev_var rfl) hs)) ev_c rv_eqI)) (by simp))) (by rw [List.length_map]; split <;> simp <;> omega)) hcs) fun cp H1 _ e1 h1 => ?_)
    have hcm : (((cs.map V.int).length : Nat) : Int) = (cs.length : Int) := by rw [List.length_map]
    have hm0 : 0 ≤ pl % (cs.length : Int) := Int.emod_nonneg _ (by omega)
    have hm1 : pl % (cs.length : Int) < (cs.length : Int) := Int.emod_lt_of_pos _ (by omega)
    obtain ⟨ix, hix⟩ : ∃ ix : Nat, pl % (cs.length : Int) = (ix : Int) := ⟨(pl % (cs.length : Int)).toNat, by omega⟩
    have hixl : ix < cs.length := by omega
    have hat : (cs.map V.int)[ix]? = some (.int cs[ix]) := by
      rw [List.getElem?_map, List.getElem?_eq_getElem hixl]
      rfl
    refine n_asg (ev_ixQ (eq_of (by exact ev_var rfl) (sq_of h1)) (ev_is (ev_op (ev_int (by exact ev_var rfl)) (ev_is (ev_lenQ (eq_of (by exact ev_var rfl) (sq_of h1))) (congrArg V.int hcm)) (rv_modI (by omega))) (congrArg V.int hix)) (at_nat hat)) ?_
    refine g_retL (el_lst (ea_cons (ev_is (w := .int (if decide ((10 : Int) ^ (18 : Int).toNat ≤ cs[ix]) then cs[ix] else 0)) (ev_ifV (et_test (ev_op (by exact ev_var rfl) (ev_op ev_c ev_c (rv_powI ⟨by decide, by decide, by decide⟩)) rv_geI)) (by exact ev_var rfl) ev_c) ?_) (ea_cons (ev_op ev_c (ev_op ev_c (by exact ev_var rfl) (rv_mulI (.inl (by decide)))) rv_addI) (ea_cons (ev_op ev_c (by exact ev_var rfl) (rv_mulI (.inl (by decide)))) (ea_cons (by exact ev_var rfl) ea_nil)))) (by simp)) fun sp H2 _ e2 h2 => q sp H2 (e1.trans e2) ⟨_, _, 3 * pl, cp, cs, h2, e2 _ _ h1, hne, by omega, by omega, by omega⟩
    split <;> rfl⟩
end
end K27

set_option maxRecDepth 100000
set_option maxHeartbeats 8000000
/-! the law -/
namespace K27
open PySem PySem.Spec PyProof.Rows L2 Evl
section
variable {P : Program} {w : World} {K : PySem.W.Frag} {mg : PySem.Str → Option Value} {base : Heap}
theorem RepE.ex {H H' : Hp} {v : V} : ∀ {o : Option Bad}, RepE K H v o → Ex H H' → RepE K H' v o
  | none, h, _ => h
  | some (.prog p i), ⟨q, h1, h2⟩, e => ⟨q, h1, e _ _ h2⟩
  | some (.many x), ⟨q, h1, h2⟩, e => ⟨q, h1, e _ _ h2⟩
theorem RetE.of {H : Hp} {Q : VK} : ∀ {o : Option Bad}, (∀ v H1, Ex H H1 → RepE K H1 v o → Q v H1) → RetE o H Q
  | none, k => fun H1 e1 => k .non H1 e1 rfl
  | some (.prog p i), k => fun q H1 e1 h1 => k (.ref q) H1 e1 ⟨q, rfl, h1⟩
  | some (.many x), k => fun q H1 e1 h1 => k (.ref q) H1 e1 ⟨q, rfl, h1⟩
theorem RepE.non_iff {H : Hp} {v : V} : ∀ {o : Option Bad}, RepE K H v o → v = .non → o = none
  | none, _, _ => rfl
  | some (.prog p i), ⟨q, h1, _⟩, e => by
    rw [e] at h1
    cases h1
  | some (.many x), ⟨q, h1, _⟩, e => by
    rw [e] at h1
    cases h1
section
variable {s : Addr} {σ : L2.St} {H H' : Hp} {te tb tc t1 t2 t3 : TE} {ta tr : TA} {E : XK} {i j l k m N : Nat} {tt : TT} {t tu tz : TS} {D : Ends} {PA : List V → Hp → Prop}
theorem ek_lI {a : Addr} {ns : List Int} (e : Ek H H') (h : SqL K H a (ns.map V.int)) : SqL K H' a (ns.map V.int) := by
  rcases h with h | h
  · rcases h with h | ⟨o, h⟩
    · exact .inl (.inl (e.k _ _ isS_ints h))
    · exact .inl (.inr ⟨o, e.k _ _ rfl h⟩)
  · exact .inr h
theorem dl_of (h : DGo s (tSeq tu tNext) D σ H m) : DGo s tu D σ H m := h
theorem n_seqS (R : Hp → Prop) (h : ∀ D' : Ends, (∀ G, R G → D'.nx σ G) → t D' σ H) (k : ∀ G, R G → tz D σ G) : tSeq t tz D σ H := h { D with nx := tz D } k
theorem dra_u {xs : List V} (h : ∀ H1, Ek H H1 → EvU te σ H1 xs) (hr : DrA s tr σ H N PA) : DrA s (tCons te tr) σ H N (fun vs H2 => ∃ (p : Addr) (r : List V), vs = .ref p :: r ∧ H2 p = some (.tup xs) ∧ PA r H2) := fun n H1 ek hs Q q =>
  h H1 ek H1 (Ex.refl H1) _ fun p H2 _ e2 h2 => hr n H2 (ek.trans (Ek.of e2)) (hs.ex e2) _ fun vs H3 e3 s3 pa => q _ H3 ((Ek.of e2).trans e3) s3 ⟨p, vs, rfl, e3.tup h2, pa⟩
theorem er_lst3L {xs ys zs : List V} (h1 : EvL t1 σ H xs) (h2 : EvL t2 σ H ys) (h3 : EvL t3 σ H zs) : EvR (tLst (tCons t1 (tCons t2 (tCons t3 tNil)))) σ H
    (fun v H2 => ∃ L a b c : Addr, v = .ref L ∧ H2 L = some (.lst [.ref a, .ref b, .ref c]) ∧ H2 a = some (.lst xs) ∧ H2 b = some (.lst ys) ∧ H2 c = some (.lst zs) ∧ H a = none ∧ H b = none ∧ H c = none ∧ (a ≠ b ∧ a ≠ c ∧ b ≠ c) ∧ (L ≠ a ∧ L ≠ b ∧ L ≠ c)) := fun H1 e Q q =>
  h1 H1 e _ fun a H2 ha e2 g1 => h2 H2 (e.trans e2) _ fun b H3 hb e3 g2 => h3 H3 ((e.trans e2).trans e3) _ fun c H4 hc e4 g3 => ⟨sz_of (by show 3 ≤ 100000; omega), fun p hp =>
    q _ _ (((e2.trans e3).trans e4).trans (Ex.new hp)) ⟨p, a, b, c, rfl, upd_same, Ex.new hp _ _ ((e3.trans e4) _ _ g1), Ex.new hp _ _ (e4 _ _ g2), Ex.new hp _ _ g3, fresh_back e ha, fresh_back (e.trans e2) hb, fresh_back ((e.trans e2).trans e3) hc, ⟨ne_of_none g1 hb, ne_of_none (e3 _ _ g1) hc, ne_of_none g2 hc⟩,
      ⟨Ne.symm (ne_of_none ((e3.trans e4) _ _ g1) hp), Ne.symm (ne_of_none (e4 _ _ g2) hp), Ne.symm (ne_of_none g3 hp)⟩⟩⟩
/-- the same, without more -/
theorem er_lst3M {xs ys zs : List V} (h1 : EvL t1 σ H xs) (h2 : EvL t2 σ H ys) (h3 : EvL t3 σ H zs) : EvR (tLst (tCons t1 (tCons t2 (tCons t3 tNil)))) σ H
    (fun v H2 => ∃ L a b c : Addr, v = .ref L ∧ H2 L = some (.lst [.ref a, .ref b, .ref c]) ∧ H2 a = some (.lst xs) ∧ H2 b = some (.lst ys) ∧ H2 c = some (.lst zs)) := fun H1 e Q q => er_lst3L h1 h2 h3 H1 e Q fun v H2 e2 ⟨L, a, b, c, h1, h2, h3, h4, h5, _⟩ => q v H2 e2 ⟨L, a, b, c, h1, h2, h3, h4, h5⟩
theorem dl_for14 (Pv : Nat → L2.St → Hp → Prop) (h0 : ∀ H1, Ek H H1 → Strm s m H1 → Pv 0 σ H1) (hs : ∀ (i : Nat) σ' H', i < 3 → Pv i σ' H' → tu { D with nx := Pv (i + 1), ct := Pv (i + 1), bk := D.nx } (σ'.set j (some (.int ((1 : Int) + (i : Int))))) H')
    (hd : ∀ σ' H', Pv 3 σ' H' → D.nx σ' H') : DGo s (tFor (iRng2 (tCons (tC (.int 1)) (tCons (tC (.int 4)) tNil))) (gName j) tu) D σ H m := fun H1 ek st => ⟨1, 4, rfl, by decide, for_range (lo := 1) (n := 3) Pv (h0 H1 ek st) hs hd⟩
end
def Rws (l : List Str) : Prop := l.length ≤ 16 ∧ ∀ x ∈ l, Tk 4000 x
/-- what stands behind the insertion -/
def Ready (K : PySem.W.Frag) (Hb : Hp) (st L : Addr) (F : Nat) (G : Hp) : Prop := ∃ (a b c : Addr) (f t k : List Str), G L = some (.lst [.ref a, .ref b, .ref c]) ∧ G a = some (.lst (f.map V.str)) ∧ G b = some (.lst (t.map V.str)) ∧ G c = some (.lst (k.map V.str)) ∧ Rws f ∧ Rws t ∧ Rws k ∧ Ek Hb G ∧ Strm st F G
theorem ins_rws {l : List Str} {x : Str} (h : l.length ≤ 15) (hw : ∀ y ∈ l, Wd 0 30 y) (hx : Tk 4000 x) (n : Nat) : Rws (l.take n ++ [x] ++ l.drop n) := by
  refine ⟨?_, fun y hy => ?_⟩
  · rw [List.length_append, List.length_append, List.length_take, List.length_drop, List.length_singleton]
    omega
  · rcases List.mem_append.mp hy with hy | hy
    · rcases List.mem_append.mp hy with hy | hy
      · exact (hw y (List.mem_of_mem_take hy)).2.mono (by omega)
      · rw [List.mem_singleton.mp hy]
        exact hx
    · exact (hw y (List.mem_of_mem_drop hy)).2.mono (by omega)
theorem rws_of {l : List Str} (h : l.length ≤ 15) (hw : ∀ y ∈ l, Wd 0 30 y) : Rws l := ⟨by omega, fun y hy => (hw y hy).2.mono (by omega)⟩
theorem ins_map {l : List Str} {x : Str} {n : Nat} : (l.map V.str).take n ++ [V.str x] ++ (l.map V.str).drop n = (l.take n ++ [x] ++ l.drop n).map V.str := by
  rw [List.map_append, List.map_append, List.map_take, List.map_drop]
  rfl
theorem dp_lll {H : Hp} {L a b c : Addr} {f t k : List Str} (hL : H L = some (.lst [.ref a, .ref b, .ref c])) (ha : H a = some (.lst (f.map V.str))) (hb : H b = some (.lst (t.map V.str))) (hc : H c = some (.lst (k.map V.str))) :
    Dp K H (.ref L) (.list [.list (f.map PyData.str), .list (t.map PyData.str), .list (k.map PyData.str)]) := .lst (sq_of hL) (.cons (dp_q (sq_of ha)) (.cons (dp_q (sq_of hb)) (.cons (dp_q (sq_of hc)) .nil)))
theorem shaped_lll {f t k : List Str} (h1 : Rws f) (h2 : Rws t) (h3 : Rws k) : SeqAt.shaped (.list [.list (f.map PyData.str), .list (t.map PyData.str), .list (k.map PyData.str)]) = true := by
  refine Bool.and_eq_true_iff.mpr ⟨?_, decide_eq_true ?_⟩
  · show (PyData.canLayAll0 (f.map PyData.str) && (PyData.canLayAll0 (t.map PyData.str) && (PyData.canLayAll0 (k.map PyData.str) && true))) = true
    rw [lay_strs fun x hx => (h1.2 x hx).ok, lay_strs fun x hx => (h2.2 x hx).ok, lay_strs fun x hx => (h3.2 x hx).ok]
    rfl
  · show max (PyData.depthAll (f.map PyData.str) + 1) (max (PyData.depthAll (t.map PyData.str) + 1) (max (PyData.depthAll (k.map PyData.str) + 1) 0)) + 1 ≤ 64
    rw [depth_strs, depth_strs, depth_strs]
    decide
theorem eqv_lll {f t k : List Str} : PyData.eqv (.list [.list (f.map PyData.str), .list (t.map PyData.str), .list (k.map PyData.str)]) (.list [.list (f.map PyData.str), .list (t.map PyData.str), .list (k.map PyData.str)]) = true := by
  show (PyData.eqvAll (f.map PyData.str) (f.map PyData.str) && (PyData.eqvAll (t.map PyData.str) (t.map PyData.str) && (PyData.eqvAll (k.map PyData.str) (k.map PyData.str) && true))) = true
  rw [eqv_strs, eqv_strs, eqv_strs, decide_eq_true rfl, decide_eq_true rfl, decide_eq_true rfl]
  rfl
theorem k_l_error (T : Tx K mg) : Kp P w K mg base CX0 "_law_error" 5 p_l_error (spErr K) :=
  Kp.of T.F_l_error T.g_l_error sc_l_error (fun _ _ _ _ _ _ us hl => match us, hl with | [_, _, _, _], _ => rfl) (fun vs H Q E h => by obtain ⟨m, pa, pb, pc, a, b, c, rfl, _⟩ := h; rfl) fun cdv A outer s H vs Q E hr h => ⟨_, (der_l_error T hr (k_l_are_marks T) (k_l_first_wrong T)).h.nox, b_l_error T hr h⟩
theorem rws_all {f t k : List Str} {b : Nat} (hb : 4000 ≤ b) (h1 : Rws f) (h2 : Rws t) (h3 : Rws k) : ∀ l ∈ [f, t, k], l.length ≤ 100 ∧ ∀ y ∈ l, Tk b y := fun l hl => by
  have hl' : l = f ∨ l = t ∨ l = k := by simpa using hl
  rcases hl' with rfl | rfl | rfl
  · exact ⟨by have := h1.1; omega, fun y hy => (h1.2 y hy).mono hb⟩
  · exact ⟨by have := h2.1; omega, fun y hy => (h2.2 y hy).mono hb⟩
  · exact ⟨by have := h3.1; omega, fun y hy => (h3.2 y hy).mono hb⟩
def spLaw (K : PySem.W.Frag) : Sp := fun vs H Q _ => ∃ (a : Addr) (ns : List Int), vs = [.ref a] ∧ SqL K H a (ns.map V.int) ∧ ns.length ≤ 63 ∧ ∀ H', Q (.bl true) H'
theorem b_law {A : Around} {cdv : Value} {outer : List Env} {s : Shared} {H : Hp} {E : XK} {Q : VK} {vs : List V} (T : Tx K mg) (hr) (hga) (h : spLaw K vs H Q E) :
    (der_law (P := P) (w := w) (base := base) (cdv := cdv) (A := A) (outer := outer) (s := s) (H := H) (E := E) T hr (k_l_numbers T) (k_l_drawn_marks T) (k_l_drawn_parts T) (k_l_one_word T) (k_l_row T) (k_l_draw T) (k_l_error T) (kg_l_same T) (k_l_raised T) (kc_Program T) hga).t { nx := fun _ H' => Q .non H', rt := Q } (start N_law vs) H := by
  obtain ⟨a, ns, rfl, hns, hnl, q⟩ := h
  simp only [der_law]
  have hnm : (((ns.map V.int).length : Nat) : Int) = (ns.length : Int) := by rw [List.length_map]
  -- the places
  have hn6 : (if (if (ns.length : Int) < 6 then (ns.length : Int) else 6) > 1 then (if (ns.length : Int) < 6 then (ns.length : Int) else 6) else 1) ≤ 6 := by
    (repeat' split) <;> omega
  have hn0 : 0 ≤ (if (if (ns.length : Int) < 6 then (ns.length : Int) else 6) > 1 then (if (ns.length : Int) < 6 then (ns.length : Int) else 6) else 1) := by
    (repeat' split) <;> omega
  refine q_forR1 (n := if (if (ns.length : Int) < 6 then (ns.length : Int) else 6) > 1 then (if (ns.length : Int) < 6 then (ns.length : Int) else 6) else 1) (ea_cons (ev_max2K ev_c (ev_min2 ev_c (ev_is (ev_lenQ (eq_of (by exact ev_var rfl) hns)) (congrArg V.int hnm)))) ea_nil) ⟨hn0, by omega⟩ (fun _ σ' H' => ∃ x1 x2 x3 x4 x5 x6 x7 x8 x9 x10 x11 : Option V, σ' = [some (.ref a), x1, x2, x3, x4, x5, x6, x7, x8, x9, x10, x11] ∧ Ek H H')
    (fun H1 e1 => ⟨_, _, _, _, _, _, _, _, _, _, _, rfl, Ek.of e1⟩) (fun pl σ' H1 hpl hP => ?_) fun σ' H1 hP => q H1
  obtain ⟨x1, x2, x3, x4, x5, x6, x7, x8, x9, x10, x11, rfl, e1⟩ := hP
  refine go_run (n_asgR (PV := fun v H2 => ∃ st : Addr, v = .ref st ∧ Strm st 1000000 H2) (er_call (ear_of (ea_cons (by exact ev_var rfl) (ea_cons (by exact ev_var rfl) ea_nil))) fun us H2 e2 hv Q' q' => by
    subst hv
    exact ⟨a, ns, (pl : Int), rfl, ex_l e2 (ek_lI e1 hns), hnl, ⟨by omega, by omega⟩, fun st H3 e3 s3 => q' _ H3 e3 ⟨st, rfl, s3⟩⟩) fun v H2 e2 hv => ?_)
  obtain ⟨st, rfl, s2⟩ := hv
  intro H3 e3
  have e13 : Ek H H3 := (e1.trans (Ek.of e2)).trans (Ek.of e3)
  -- the turns
  refine dgo_run (s := st) (m := 1000000) ?_ (s2.ex e3)
  refine dl_of (d_forR (N := 0) (dra_v (v := .int 4) (by exact evk_c) dra_nil) (by omega) (fun j => j = 4) (fun vs H4 hv => by
      obtain ⟨_, rfl, rfl⟩ := hv
      exact ⟨4, rfl, by omega, by omega, rfl⟩) (fun i σ' H' => ∃ x3 x4 x5 x6 x7 x8 x9 x10 x11 : Option V, σ' = [some (.ref a), some (.int (pl : Int)), some (.ref st), x3, x4, x5, x6, x7, x8, x9, x10, x11] ∧ Ek H H' ∧ Strm st (1000000 - 700 * i) H')
      (fun H4 e4 s4 => ⟨_, _, _, _, _, _, _, _, _, rfl, e13.trans e4, s4.mono (by omega)⟩) (fun j i σ' H' hj hi pp => ?_) fun j σ' H' hj pp => ?_)
  rotate_left
  · obtain ⟨x3, x4, x5, x6, x7, x8, x9, x10, x11, rfl, e4, _⟩ := pp
    exact ⟨_, _, _, _, _, _, _, _, _, _, _, rfl, e4⟩
  subst hj
  obtain ⟨x3, x4, x5, x6, x7, x8, x9, x10, x11, rfl, e4, s4⟩ := pp
  have hi4 : i < 4 := by omega
  -- marks
  refine dgo_run (s := st) (m := 1000000 - 700 * i) (d_asg (N := 0 + 10) (P := fun v _ => ∃ m : Str, v = .str m ∧ Mks m) (dr_call (M := 10) (dra_v (by exact evk_var rfl) (dra_v (by exact evk_c) (dra_v (by exact evk_c) dra_nil))) fun vs H5 n' e5 hv st' Q' E' q' => ?_) (by omega) fun v H5 e5 hv => ?_) s4
  · obtain ⟨_, rfl, _, rfl, _, rfl, rfl⟩ := hv
    exact ⟨st, n', rfl, st', q'⟩
  obtain ⟨m, rfl, hm⟩ := hv
  -- parts
  refine d_asg (N := 0 + 500) (P := fun v H6 => ∃ pq : Addr, v = .ref pq ∧ PartsAt H6 pq m) (dr_call (M := 500) (dra_v (by exact evk_var rfl) (dra_v (by exact evk_var rfl) (dra_u (xs := szs) (fun H6 e6 => eu_tup (ea_cons ev_c (ea_cons ev_c (ea_cons ev_c (ea_cons ev_c (ea_cons ev_c (ea_cons ev_c ea_nil)))))) (by decide)) dra_nil))) fun vs H6 n' e6 hv st' Q' E' q' => ?_) (by omega) fun v H6 e6 hv => ?_
  · obtain ⟨_, rfl, _, rfl, pz, _, rfl, hpz, rfl⟩ := hv
    exact ⟨st, m, pz, n', rfl, st', hpz, hm, q'⟩
  obtain ⟨pq, rfl, hparts⟩ := hv
  have hparts0 := hparts
  obtain ⟨pf, pt, pw, ps, po, f0, t0, k0, ws, os, hq, hf, ht, hk, hws, hos, ⟨f1, f2⟩, ⟨t1, t2⟩, ⟨k1, k2⟩, ⟨w1, w2⟩, ⟨o1, o2⟩⟩ := hparts
  have hwo : ∀ x ∈ ws ++ os, Wd 1 8 x := fun x hx => (List.mem_append.mp hx).elim (w2 x) (o2 x)
  -- other
  refine d_asg (N := 0 + 20) (P := TB 1 8) (dr_call (M := 20) (dra_v (by exact evk_var rfl) (dra_l (xs := (ws ++ os).map V.str) (fun H7 e7 => el_is (el_cat (em_of (ev_ixU (by exact ev_var rfl) (e7.tup hq) ev_c (at_nat (k := 4) rfl)) (e7.strs hws)) (em_of (ev_ixU (by exact ev_var rfl) (e7.tup hq) ev_c (at_nat (k := 5) rfl)) (e7.strs hos)) (by rw [List.length_map, List.length_map]; omega)) (by rw [List.map_append])) own_strs (dra_v (by exact evk_var rfl) (dra_v (by exact evk_c) dra_nil)))) fun vs H7 n' e7 hv st' Q' E' q' => ?_) (by omega) fun v H7 e7 hv => ?_
  · obtain ⟨_, rfl, p0, _, rfl, hp0, _, rfl, _, rfl, rfl⟩ := hv
    exact ⟨st, p0, ws ++ os, m, n', rfl, st', ⟨hp0, by rw [List.length_append]; omega, hwo⟩, hm, q'⟩
  obtain ⟨o, rfl, ho⟩ := hv
  have hq7 := e7.tup hq
  have hws7 := e7.strs hws
  have hos7 := e7.strs hos
  -- row
  refine d_asg (N := 0 + 80) (P := TB 0 4000) (dr_call (M := 80) (dra_v (by exact evk_var rfl) (dra_l (xs := ((ws ++ os) ++ [("item" : Str), ("out" : Str)]).map V.str) (fun H8 e8 => el_is (el_cat (EvL.m (el_cat (em_of (ev_ixU (by exact ev_var rfl) (e8.tup hq7) ev_c (at_nat (k := 4) rfl)) (e8.strs hws7)) (em_of (ev_ixU (by exact ev_var rfl) (e8.tup hq7) ev_c (at_nat (k := 5) rfl)) (e8.strs hos7)) (by rw [List.length_map, List.length_map]; omega))) (EvL.m (el_lst (ea_cons ev_c (ea_cons ev_c ea_nil)) (by simp))) (by rw [List.length_append, List.length_map, List.length_map]; simp; omega)) (by rw [List.map_append, List.map_append]; rfl)) own_strs (dra_v (by exact evk_var rfl) (dra_v (by exact evk_var rfl) dra_nil)))) fun vs H8 n' e8 hv st' Q' E' q' => ?_) (by omega) fun v H8 e8 hv => ?_
  · obtain ⟨_, rfl, p0, _, rfl, hp0, _, rfl, _, rfl, rfl⟩ := hv
    refine ⟨st, p0, _, m, o, n', rfl, st', ⟨hp0, by rw [List.length_append, List.length_append]; simp; omega, fun x hx => ?_⟩, by simp, hm, Wd.le ho (by omega) (by omega), q'⟩
    rcases List.mem_append.mp hx with hx | hx
    · exact hwo x hx
    · have hx' : x = "item" ∨ x = "out" := by simpa using hx
      rcases hx' with rfl | rfl
      · exact wd_c (by decide)
      · exact wd_c (by decide)
  obtain ⟨row, rfl, hrow⟩ := hv
  have e48 : Ek H H8 := (((e4.trans e5).trans e6).trans e7).trans e8
  have hparts8 := (hparts0.ek e7).ek e8
  -- the three parts
  refine dl_for14 (fun j σ' H' => ∃ x8 x9 x10 x11 : Option V, σ' = [some (.ref a), some (.int (pl : Int)), some (.ref st), some (.int (i : Int)), some (.str m), some (.ref pq), some (.str o), some (.str row), x8, x9, x10, x11] ∧ Ek H8 H' ∧ Strm st (1000000 - 700 * i - 610 - j) H')
    (fun H9 e9 s9 => ⟨_, _, _, _, rfl, e9, s9.mono (by omega)⟩) (fun j σ' H9 hj pp => ?_) fun σ' H9 pp => ?_
  rotate_left
  · obtain ⟨x8, x9, x10, x11, rfl, e9, s9⟩ := pp
    exact ⟨_, _, _, _, _, _, _, _, _, rfl, e48.trans e9, s9.mono (by omega)⟩
  obtain ⟨x8, x9, x10, x11, rfl, e9, s9⟩ := pp
  obtain ⟨pf, pt, pw, ps, po, f0, t0, k0, ws', os', hq, hf, ht, hk, _, _, ⟨f1, f2⟩, ⟨t1, t2⟩, ⟨k1, k2⟩, _, _⟩ := hparts8.ek e9
  refine go_run (n_asgR (er_lst3L (el_listM (ev_ixU (by exact ev_var rfl) hq ev_c (at_nat (k := 1) rfl)) hf) (el_listM (ev_ixU (by exact ev_var rfl) hq ev_c (at_nat (k := 2) rfl)) ht) (el_listM (ev_ixU (by exact ev_var rfl) hq ev_c (at_nat (k := 3) rfl)) hk)) fun v G1 g1 hv => ?_)
  obtain ⟨L, la, lb, lc, rfl, hL, hla, hlb, hlc, fa, fb, fc, ⟨d1, d2, d3⟩, ⟨d4, d5, d6⟩⟩ := hv
  intro G2 g2
  have sG2 := s9.ex (g1.trans g2)
  have hL2 := g2 _ _ hL
  have hla2 := g2 _ _ hla
  have hlb2 := g2 _ _ hlb
  have hlc2 := g2 _ _ hlc
  have hq2 := (g1.trans g2) _ _ hq
  have hf2 := (g1.trans g2) _ _ hf
  have ht2 := (g1.trans g2) _ _ ht
  have hk2 := (g1.trans g2) _ _ hk
  have eG2 : Ek H8 G2 := e9.trans (Ek.of (g1.trans g2))
  have rows4 : Tk 4000 row := hrow.2
  refine n_seqS (Ready K H8 st L (1000000 - 700 * i - 610 - (j + 1))) (fun D' hD => ?_) fun G hR => ?_
  · match j, hj with
    | 0, _ =>
      refine (ev_ixQ (v := .ref la) (eq_of (by exact ev_var rfl) (sq_of hL2)) (ev_is (w := .int ((0 : Nat) : Int)) (ev_op (by exact ev_var rfl) ev_c rv_subI) rfl) (at_nat (k := 0) rfl)) G2 (Ex.refl G2) _ fun G3 g3 => ⟨.inl ⟨rfl, _, sq_of (g3 _ _ hla2)⟩, ?_⟩
      refine dr_draw (s := st) (k := (f0.length : Int) + 1) (by rfl) (fun G4 g4 => ev_op (ev_is (ev_lenQ (eq_of (ev_ixU (v := .ref pf) (i := ((1 : Nat) : Int)) (by exact ev_var rfl) (g4.tup (g3 _ _ hq2)) (by exact ev_var rfl) (at_nat (k := 1) rfl)) (sq_of (g4.strs (g3 _ _ hf2))))) (congrArg V.int strs_len)) ev_c rv_addI) ⟨by omega, by omega⟩ (1000000 - 700 * i - 610 - (0 + 1)) G3 (Ek.refl G3) ((sG2.ex g3).mono (by omega)) _ fun v G4 g4 s4' hv => ?_
      obtain ⟨ix, rfl, i0, i1⟩ := hv
      have h4 := g4.strs (g3 _ _ hla2)
      refine ⟨_, rfl, la, _, ix, _, rfl, rfl, h4, sz_lt (by rw [List.length_map]; omega), i0, by omega, hD _ ⟨la, lb, lc, f0.take ix.toNat ++ [row] ++ f0.drop ix.toNat, t0, k0, ?_, ?_, ?_, ?_, ins_rws f1 f2 rows4 _, rws_of t1 t2, rws_of k1 k2, ?_, s4'.mut h4 own_strs⟩⟩
      · rw [upd_ne d4]
        exact g4.lst (g3 _ _ hL2) rfl
      · rw [← ins_map]
        exact upd_same
      · rw [upd_ne (Ne.symm d1)]
        exact g4.strs (g3 _ _ hlb2)
      · rw [upd_ne (Ne.symm d2)]
        exact g4.strs (g3 _ _ hlc2)
      · exact e9.trans (Ek.mut ((Ek.of ((g1.trans g2).trans g3)).trans g4) fa)
    | 1, _ =>
      refine (ev_ixQ (v := .ref lb) (eq_of (by exact ev_var rfl) (sq_of hL2)) (ev_is (w := .int ((1 : Nat) : Int)) (ev_op (by exact ev_var rfl) ev_c rv_subI) rfl) (at_nat (k := 1) rfl)) G2 (Ex.refl G2) _ fun G3 g3 => ⟨.inl ⟨rfl, _, sq_of (g3 _ _ hlb2)⟩, ?_⟩
      refine dr_draw (s := st) (k := (t0.length : Int) + 1) (by rfl) (fun G4 g4 => ev_op (ev_is (ev_lenQ (eq_of (ev_ixU (v := .ref pt) (i := ((2 : Nat) : Int)) (by exact ev_var rfl) (g4.tup (g3 _ _ hq2)) (by exact ev_var rfl) (at_nat (k := 2) rfl)) (sq_of (g4.strs (g3 _ _ ht2))))) (congrArg V.int strs_len)) ev_c rv_addI) ⟨by omega, by omega⟩ (1000000 - 700 * i - 610 - (1 + 1)) G3 (Ek.refl G3) ((sG2.ex g3).mono (by omega)) _ fun v G4 g4 s4' hv => ?_
      obtain ⟨ix, rfl, i0, i1⟩ := hv
      have h4 := g4.strs (g3 _ _ hlb2)
      refine ⟨_, rfl, lb, _, ix, _, rfl, rfl, h4, sz_lt (by rw [List.length_map]; omega), i0, by omega, hD _ ⟨la, lb, lc, f0, t0.take ix.toNat ++ [row] ++ t0.drop ix.toNat, k0, ?_, ?_, ?_, ?_, rws_of f1 f2, ins_rws t1 t2 rows4 _, rws_of k1 k2, ?_, s4'.mut h4 own_strs⟩⟩
      · rw [upd_ne d5]
        exact g4.lst (g3 _ _ hL2) rfl
      · rw [upd_ne d1]
        exact g4.strs (g3 _ _ hla2)
      · rw [← ins_map]
        exact upd_same
      · rw [upd_ne (Ne.symm d3)]
        exact g4.strs (g3 _ _ hlc2)
      · exact e9.trans (Ek.mut ((Ek.of ((g1.trans g2).trans g3)).trans g4) fb)
    | 2, _ =>
      refine (ev_ixQ (v := .ref lc) (eq_of (by exact ev_var rfl) (sq_of hL2)) (ev_is (w := .int ((2 : Nat) : Int)) (ev_op (by exact ev_var rfl) ev_c rv_subI) rfl) (at_nat (k := 2) rfl)) G2 (Ex.refl G2) _ fun G3 g3 => ⟨.inl ⟨rfl, _, sq_of (g3 _ _ hlc2)⟩, ?_⟩
      refine dr_draw (s := st) (k := (k0.length : Int) + 1) (by rfl) (fun G4 g4 => ev_op (ev_is (ev_lenQ (eq_of (ev_ixU (v := .ref pw) (i := ((3 : Nat) : Int)) (by exact ev_var rfl) (g4.tup (g3 _ _ hq2)) (by exact ev_var rfl) (at_nat (k := 3) rfl)) (sq_of (g4.strs (g3 _ _ hk2))))) (congrArg V.int strs_len)) ev_c rv_addI) ⟨by omega, by omega⟩ (1000000 - 700 * i - 610 - (2 + 1)) G3 (Ek.refl G3) ((sG2.ex g3).mono (by omega)) _ fun v G4 g4 s4' hv => ?_
      obtain ⟨ix, rfl, i0, i1⟩ := hv
      have h4 := g4.strs (g3 _ _ hlc2)
      refine ⟨_, rfl, lc, _, ix, _, rfl, rfl, h4, sz_lt (by rw [List.length_map]; omega), i0, by omega, hD _ ⟨la, lb, lc, f0, t0, k0.take ix.toNat ++ [row] ++ k0.drop ix.toNat, ?_, ?_, ?_, ?_, rws_of f1 f2, rws_of t1 t2, ins_rws k1 k2 rows4 _, ?_, s4'.mut h4 own_strs⟩⟩
      · rw [upd_ne d6]
        exact g4.lst (g3 _ _ hL2) rfl
      · rw [upd_ne d2]
        exact g4.strs (g3 _ _ hla2)
      · rw [upd_ne d3]
        exact g4.strs (g3 _ _ hlb2)
      · rw [← ins_map]
        exact upd_same
      · exact e9.trans (Ek.mut ((Ek.of ((g1.trans g2).trans g3)).trans g4) fc)
  -- behind the insertion
  obtain ⟨la, lb, lc, f, t, k, hL, hla, hlb, hlc, rf, rt, rk, eG, sG⟩ := hR
  have htk : Tk 4000 m := hm.tk.mono (by omega)
  have hm64 : m.length < 64 := by have := hm.2.1; omega
  have ixs : ∀ G', Ex G G' → ∀ x10 x11 : Option V, EvA (tCons (tVar 4) (tCons (tOp (rIxL K) (tVar 9) (tC (.int 0))) (tCons (tOp (rIxL K) (tVar 9) (tC (.int 1))) (tCons (tOp (rIxL K) (tVar 9) (tC (.int 2))) tNil)))) [some (.ref a), some (.int (pl : Int)), some (.ref st), some (.int (i : Int)), some (.str m), some (.ref pq), some (.str o), some (.str row), some (.int ((1 : Int) + (j : Int))), some (.ref L), x10, x11] G' [.str m, .ref la, .ref lb, .ref lc] := fun G' e' x10 x11 =>
    ea_cons (by exact ev_var rfl) (ea_cons (ev_ixQ (eq_of (by exact ev_var rfl) (sq_of (e' _ _ hL))) ev_c (at_nat (k := 0) rfl)) (ea_cons (ev_ixQ (eq_of (by exact ev_var rfl) (sq_of (e' _ _ hL))) ev_c (at_nat (k := 1) rfl)) (ea_cons (ev_ixQ (eq_of (by exact ev_var rfl) (sq_of (e' _ _ hL))) ev_c (at_nat (k := 2) rfl)) ea_nil)))
  refine go_run (n_asgR (PV := fun v H2 => RepE K H2 v (lawErr m f t k)) (er_call (ear_of (ixs G (Ex.refl G) _ _)) fun us G1 g1 hv Q' q' => by
    subst hv
    exact ⟨m, la, lb, lc, f, t, k, rfl, ⟨htk, hm64⟩, ⟨g1 _ _ hla, g1 _ _ hlb, g1 _ _ hlc⟩, rws_all (by omega) rf rt rk, RetE.of fun v H1 e h => q' v H1 e h⟩) fun v G1 g1 hv => ?_)
  have raised : ∀ E', EvR (tCall (spRaised K) [] E' (tCons (tVar 4) (tCons (tOp (rIxL K) (tVar 9) (tC (.int 0))) (tCons (tOp (rIxL K) (tVar 9) (tC (.int 1))) (tCons (tOp (rIxL K) (tVar 9) (tC (.int 2))) tNil))))) [some (.ref a), some (.int (pl : Int)), some (.ref st), some (.int (i : Int)), some (.str m), some (.ref pq), some (.str o), some (.str row), some (.int ((1 : Int) + (j : Int))), some (.ref L), some v, x11] G1 (fun u H2 => RepE K H2 u (lawErr m f t k)) := fun E' =>
    er_call (ear_of (ixs G1 g1 _ _)) fun us G2 g2 hv Q' q' => by
      subst hv
      have g12 := g1.trans g2
      exact ⟨m, la, lb, lc, f, t, k, rfl, htk.mono (by omega), ⟨g12 _ _ hla, g12 _ _ hlb, g12 _ _ hlc⟩, rws_all (by omega) rf rt rk, by rw [err_eq]; exact RetE.of fun v H1 e h => q' v H1 e h⟩
  have good : goodE (lawErr m f t k) := by
    rw [← err_eq]
    exact err_good
  refine n_when (b := false) (et_not (a := true) (et_B fun G2 g2 Q' q' => raised _ G2 g2 _ fun u G3 g3 hu => ⟨_, rfl, u, v, lawErr m f t k, rfl, hu, hv.ex (g2.trans g3), good, fun G4 g4 => q' G4 (g3.trans g4)⟩)) (fun h => by cases h) fun _ => ?_
  refine g_when (b := decide (v = .non)) (et_test (ev_op (by exact ev_var rfl) ev_c rv_isNon)) (fun hb => ?_) fun hb G2 g2 => ⟨_, _, _, _, rfl, eG.trans (Ek.of (g1.trans g2)), sG.ex (g1.trans g2)⟩
  have hnone : progErr m f t k = none := by
    rw [err_eq]
    exact RepE.non_iff hv (of_decide_eq_true hb)
  refine n_asgR (PV := fun u H2 => ∃ (x dx : Addr) (fs : List (Str × V)) (ta tb tc : Addr), u = .ref x ∧ H2 x = some (.ins (He.ga K "Program") dx fs) ∧ fs.lookup ("module" : Str) = some (.ref ta) ∧ fs.lookup ("caller" : Str) = some (.ref tb) ∧ fs.lookup ("task" : Str) = some (.ref tc) ∧ H2 ta = some (.tup (f.map V.str)) ∧ H2 tb = some (.tup (t.map V.str)) ∧ H2 tc = some (.tup (k.map V.str))) (fun G2 g2 Q' q' => ixs G1 g1 _ _ G2 g2 _ fun G3 g3 x dx hx hdx hne => ?_) fun u G2 g2 hu => ?_
  · have g13 := (g1.trans g2).trans g3
    have keep : ∀ {p : Addr} {o : HO}, G3 p = some o → (upd (upd G3 dx (.own x)) x (.ins (He.ga K "Program") dx [])) p = some o := fun hp => by
      rw [upd_ne (ne_of_none hp hx), upd_ne (ne_of_none hp hdx)]
      exact hp
    exact ⟨x, m, la, lb, lc, dx, f, t, k, rfl, upd_same, htk.mono (by omega), ⟨keep (g13 _ _ hla), keep (g13 _ _ hlb), keep (g13 _ _ hlc)⟩, rws_all (by omega) rf rt rk, by
      rw [hnone]
      exact fun H' fs ta tb tc e hx' l1 l2 l3 u1 u2 u3 => ⟨rfl, q' _ H' (g3.trans (ex_made hx hdx e)) ⟨x, dx, fs, ta, tb, tc, rfl, hx', l1, l2, l3, u1, u2, u3⟩⟩⟩
  obtain ⟨x, dx, fs, ta, tb, tc, rfl, hx, l1, l2, l3, u1, u2, u3⟩ := hu
  have g12 := g1.trans g2
  refine g_when (b := false) (et_test fun G3 g3 Q' q' => er_lst3M (el_listU (ev_fld (by exact ev_var rfl) hx T.c_Program T.n_module l1) (st_of u1)) (el_listU (ev_fld (by exact ev_var rfl) hx T.c_Program T.n_caller l2) (st_of u2)) (el_listU (ev_fld (by exact ev_var rfl) hx T.c_Program T.n_task l3) (st_of u3)) G3 g3 _ fun w' G4 g4 ⟨L2, a2, b2, c2, hw', m1, m2, m3, m4⟩ => ?_) (fun h => by cases h) fun _ G3 g3 => ⟨_, _, _, _, rfl, eG.trans (Ek.of (g12.trans g3)), sG.ex (g12.trans g3)⟩
  subst hw'
  have g24 := (g12.trans g3).trans g4
  refine ⟨.ref L, rfl, _, _, dp_lll m1 m2 m3 m4, dp_lll (g24 _ _ hL) (g24 _ _ hla) (g24 _ _ hlb) (g24 _ _ hlc), shaped_lll rf rt rk, shaped_lll rf rt rk, ?_⟩
  rw [eqv_lll]
  exact q' G4 g4
end
end K27

set_option maxRecDepth 100000
set_option maxHeartbeats 8000000
/-! the end -/
namespace K27
open PySem PySem.Spec PyProof.Rows L2
theorem facts {P : Program} {w : World} {K : PySem.W.Frag} {h : Heap} {mg : PySem.Str → Option Value} {f : Addr} (X : K.In h) (G : h.Ns mainGlobals mg) (hfa : mg ("law" : PySem.Str) = some (.ref f)) (c : SaysM K) :
    ∃ fd : FuncData, (∀ (s : Shared) (v : Value), BindsTo s fd ⟨[v], []⟩ [("_law_script", v)]) ∧ ∀ base : Heap, K.In base → base.Ns mainGlobals mg → FnG P w K mg base CX0 10 f fd ["_law_script"] (spLaw K) := by
  have T : Tx K mg := ⟨c, h, X, G⟩
  obtain ⟨fd, F⟩ := T.F_law
  have e := hfa.symm.trans T.g_law
  cases e
  have b := FunD.bindsA (ps := ["_law_script"]) F fun _ _ _ _ _ _ us hl => match us, hl with | [_], _ => rfl
  exact ⟨fd, fun s v => b s [v] rfl, fun base _ _ => FunD.okG F sc_law (fun vs H Q E h => by obtain ⟨a, ns, rfl, _⟩ := h; rfl) fun cdv A outer s H vs Q E hga hr h => ⟨_, (der_law T hr (k_l_numbers T) (k_l_drawn_marks T) (k_l_drawn_parts T) (k_l_one_word T) (k_l_row T) (k_l_draw T) (k_l_error T) (kg_l_same T) (k_l_raised T) (kc_Program T) hga).h.nox, b_law T hr hga h⟩⟩
end K27
open PySem PySem.W PySem.Calls PyProof.Rows
theorem PySem.Challenge.cw_workerworlds_k27_whole_rows_by_the_gramm_holds : PySem.Challenge.rw_workerworlds_k27_whole_rows_by_the_gramm.Holds := by
  w_on; o_law
  refine HandSHeadRun.head_any (r := OpenLaw.row PySem.Challenge.rw_workerworlds_k27_whole_rows_by_the_gramm) (q := view (OpenLaw.row PySem.Challenge.rw_workerworlds_k27_whole_rows_by_the_gramm).prog [68]) (H := K27.hkM) (ob := K27.ob) (M := 4000) (loose := K27.loose)
    (d := HandSHeadRun.topDef (OpenLaw.row PySem.Challenge.rw_workerworlds_k27_whole_rows_by_the_gramm).prog 68) (kwd := []) K27.ob_eq
    (by kernel_rfl) (fun s => by kernel_rfl) K27.run (by kernel_rfl) (by kernel_rfl) (by kernel_rfl) (by rfl) (by first | assumption | decide +kernel) (by decide +kernel) ⟨rfl, rfl, rfl, rfl, rfl, by decide +kernel⟩ ?hw ?hc
  case hw => w_witness2
  case hc =>
    refine K27.walk_ofG (l := PySem.Challenge.rw_workerworlds_k27_whole_rows_by_the_gramm) (n := 63) (k := 10) (x := "_law_script") (CX := L2.CX0) rfl (by decide) (by kernel_rfl) ⟨rfl, by decide, by decide⟩ ?F (fun _ _ _ _ z => z)
    intro w mg fa h Y G hmg0
    obtain ⟨K, KX, c⟩ := Y
    have hmg : mg ("law" : PySem.Str) = some (.ref fa) := by
      have e : (HandSHeadRun.topDef (OpenLaw.row PySem.Challenge.rw_workerworlds_k27_whole_rows_by_the_gramm).prog 68).name = ("law" : PySem.Str) := by kernel_rfl
      rw [← e]
      exact hmg0
    obtain ⟨fd, hb, hF⟩ := K27.facts (P := (PySem.Challenge.rw_workerworlds_k27_whole_rows_by_the_gramm).prog) (w := w) KX G hmg c
    exact ⟨K, fd, K27.spLaw K, KX, hb, fun H a ns hl _ hS => ⟨a, ns, rfl, hS, hl, fun _ => rfl⟩, hF⟩
