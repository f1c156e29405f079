import PyProof.Rows.All
import Wide.All
import OpenK.AllK
import Wide.FinOn
import HandS.ForMost
import HandS.Exc
import HandS.ExcOwn
import HandS.WordsExc
import HandS.TryOnly
import HandS.Defaults
import HandS.Gcd
import HandS.Wide
import HandS.IsInst
import HandS.HeadHook1
import HandS.HeadHook2
import HandS.ExcCtx
import KE.KStateDown
import HandS.Head0
import HandS.Head1
import HandS.Head2
import HandS.Head3
import HandS.HeadEnd
import HandS.ExcIs
import KE.KExcIs
import HandS.HotCalls
import PyProof.ExcBaseAll.ValueError
import KE.GoesMore
import KE.GoesZip
import HandS.Zip
import HandS.Iter
import PyProof.EnumMake
import PyProof.EnumFor
import HandS.TupAny
import HandS.MakeKwOnly
import HandS.Star
import HandS.HeadNt
import OpenK.KWalk
import KE.KOpsOwn
import HandS.ExcInit
import HandS.ExcField
import HandS.Deep
import HandS.NoneIn
import HandS.Conv
import HandS.Rev
import PySem.Challenge.RW_fourcords_k24_paired_sums
set_option Elab.async false
set_option linter.all false
set_option maxRecDepth 100000
set_option maxHeartbeats 4000000
namespace Zk
open PySem PySem.Spec PyProof.Rows L2
def heldB (vs : List (Str × Value)) (K : PySem.W.Frag) : Bool := vs.all fun q => He.eqO (PySem.W.nsIn K mainGlobals q.1) (some (some q.2))
def excB (K : PySem.W.Frag) (x : Str) : Bool := (He.Fa.exc x).ok K
def excCB (K : PySem.W.Frag) (x : Str) : Bool :=
  He.eqO (PySem.W.findIn K (.ref (He.ga K x)) "__getattribute__") (some (some (.builtin "BaseException.__getattribute__"))) && (He.eqO (PySem.W.findIn K (.ref (He.ga K x)) "__getattr__") (some none) &&
    (decide (PySem.W.subIn K (.ref (He.ga K x)) (.type "BaseException") = some true) && (PySem.W.hasDictIn K (He.ga K x) && (He.eqO (PySem.W.findIn K (.ref (He.ga K x)) "__class__") (some (some (.builtin "object.__class__"))) &&
      (He.eqO (PySem.W.specialIn K (.builtin "object.__class__") "__get__") (some (some (.builtin "getset_descriptor.__get__"))) && (decide (PySem.W.takesIn K (.builtin "object.__class__") = some true) && decide (PySem.W.mroIn K (He.ga K x) (.type "object") = some true)))))))
abbrev XTab : Type := List (Str × Bool)
def exmB (K : PySem.W.Frag) (c : Value) (t : XTab) : Bool := t.all fun q => decide (PySem.W.exmOne K (.ref (He.ga K q.1)) c = some q.2)
def kitB (K : PySem.W.Frag) (c : Value) (t : XTab) : Bool := t.all fun q => excCB K q.1 && decide (PySem.W.kitOne K (.ref (He.ga K q.1)) c = some q.2)
def exZ (hv : List (Str × Value)) (xs : List Str) (xm xk : List (Str × XTab)) (xb : List (String × XTab)) (K : PySem.W.Frag) : Bool :=
  heldB hv K && (xs.all (excB K) && (xm.all (fun q => exmB K (.ref (He.ga K q.1)) q.2) && (xk.all (fun q => kitB K (.ref (He.ga K q.1)) q.2) && xb.all (fun q => kitB K (.type q.1) q.2))))
def oexB (x : Str) (K : PySem.W.Frag) : Bool := (match K.lookup (He.ga K x) with
  | some ⟨.type "type", _, .cls cd, sl⟩ => (match cd.mro, sl.toList with
    | .ref C' :: bm, [_, _, _, _, some (.builtin n), _] => (C' == He.ga K x) && ((n == "ValueError.__new__") && (!cd.hasDel && (cd.hasDict && PySem.HandSPX.refsVE bm)))
    | _, _ => false)
  | _ => false) && (He.eqO (PySem.W.findIn K (.ref (He.ga K x)) "__setattr__") (some (some (.builtin "object.__setattr__"))) && (decide (PySem.W.subIn K (.ref (He.ga K x)) (.type "BaseException") = some true) &&
    (decide (PySem.W.typeIn K (.ref (He.ga K x)) = some (.type "type")) && PySem.W.keepIn K (.ref (He.ga K x)))))
def xfT (t : List Str) (f : Str) (K : PySem.W.Frag) : Bool := t.all fun x => xfB K (He.ga K x) && He.eqO (PySem.W.findIn K (.ref (He.ga K x)) f) (some none)
def insB (D C : Str) (b : Bool) (K : PySem.W.Frag) : Bool := (He.Fa.cls D).ok K && (He.eqO (PySem.W.findIn K (.ref (He.ga K D)) "__class__") (some (some (.builtin "object.__class__"))) && (He.eqO (PySem.W.specialIn K (.builtin "object.__class__") "__get__") (some (some (.builtin "getset_descriptor.__get__"))) &&
  (decide (PySem.W.takesIn K (.builtin "object.__class__") = some true) && (decide (PySem.W.mroIn K (He.ga K D) (.type "object") = some true) && decide (PySem.W.kitOne K (.ref (He.ga K D)) (.ref (He.ga K C)) = some b)))))
def selfB (x : Str) (K : PySem.W.Frag) : Bool := PySem.W.selfFirst K (He.ga K x)
def clmB (x m : Str) (K : PySem.W.Frag) : Bool := PySem.W.readsIn K (He.ga K x) (.type "type") && (He5.wrapB K (He.ga K x) "classmethod" "classmethod.__get__" m && PySem.W.fnIn K (He5.wf K (He.ga K x) "classmethod" m))
def obsW (n : Nat) (fa : List He.Fa) (fn : List He5.DefA) (ex : PySem.W.Frag → Bool) (g : Addr → Option Obj) : He.AlD × Bool := (He5.obsAG n fa fn g, ex (He.frG g (He5.asA g n)))
def hookW (n : Nat) (fa : List He.Fa) (fn : List He5.DefA) (ex : PySem.W.Frag → Bool) : PySem.W.Hook where
  α := He.AlD × Bool
  obs := fun s => obsW n fa fn ex s.heap.get?
  val := fun _ => (He5.valA fn, true)
  says := fun _ h => ∃ K : PySem.W.Frag, K.In h ∧ He5.SaysA fa fn K ∧ ex K = true
  of := fun _ _ e => ⟨_, He.frG_in, congrArg (fun z : He.AlD × Bool => z.1) e, congrArg (fun z : He.AlD × Bool => z.2) e⟩
  keeps := fun _ _ _ ⟨K, hK, c⟩ k => ⟨K, PySem.W.Frag.In.keeps hK k, c⟩
theorem obsW_eq {n : Nat} {fa : List He.Fa} {fn : List He5.DefA} {ex : PySem.W.Frag → Bool} {g : Addr → Option Obj} {s : Shared} (h : ∀ a, g a = s.heap.get? a) : obsW n fa fn ex g = (hookW n fa fn ex).obs s := by
  have e : g = s.heap.get? := funext h
  rw [e] <;> rfl
def exW (hv : List (Str × Value)) (xs : List Str) (xm xk : List (Str × XTab)) (xb : List (String × XTab)) (ms : List (PySem.W.Frag → Bool)) (K : PySem.W.Frag) : Bool := exZ hv xs xm xk xb K && ms.all fun f => f K
end Zk
set_option maxHeartbeats 0
/-! # law_k24_paired_sums: the text's places, the head -/
namespace Lw
open PySem PySem.Spec PyProof.Rows L2 Zk
def top (i : Nat) : Stmt := PySem.Challenge.pw_fourcords_k24_paired_sums.main.body.getD i (.Pass ⟨0, 0, 0, 0⟩)
abbrev s__law_cell : Stmt := top 40
def d__law_cell : He5.DefA := ⟨fun K => He.ga K "_law_cell", "_law_cell", "_law_cell", defArgs s__law_cell, defBody s__law_cell, defScope s__law_cell, [], []⟩
abbrev di__law_cell : Nat := 0
abbrev gi__law_cell : Nat := 0
abbrev s__law_digits : Stmt := top 41
def d__law_digits : He5.DefA := ⟨fun K => He.ga K "_law_digits", "_law_digits", "_law_digits", defArgs s__law_digits, defBody s__law_digits, defScope s__law_digits, [], []⟩
abbrev di__law_digits : Nat := 1
abbrev gi__law_digits : Nat := 1
abbrev s__law_line : Stmt := top 52
def d__law_line : He5.DefA := ⟨fun K => He.ga K "_law_line", "_law_line", "_law_line", defArgs s__law_line, defBody s__law_line, defScope s__law_line, [], []⟩
abbrev di__law_line : Nat := 2
abbrev gi__law_line : Nat := 2
abbrev s__law_wide : Stmt := top 54
def d__law_wide : He5.DefA := ⟨fun K => He.ga K "_law_wide", "_law_wide", "_law_wide", defArgs s__law_wide, defBody s__law_wide, defScope s__law_wide, [], []⟩
abbrev di__law_wide : Nat := 3
abbrev gi__law_wide : Nat := 3
abbrev s__law_seven : Stmt := top 53
def d__law_seven : He5.DefA := ⟨fun K => He.ga K "_law_seven", "_law_seven", "_law_seven", defArgs s__law_seven, defBody s__law_seven, defScope s__law_seven, [], []⟩
abbrev di__law_seven : Nat := 4
abbrev gi__law_seven : Nat := 4
abbrev s__law_draw_row : Stmt := top 50
def d__law_draw_row : He5.DefA := ⟨fun K => He.ga K "_law_draw_row", "_law_draw_row", "_law_draw_row", defArgs s__law_draw_row, defBody s__law_draw_row, defScope s__law_draw_row, [], []⟩
abbrev di__law_draw_row : Nat := 5
abbrev gi__law_draw_row : Nat := 5
abbrev s__law_row : Stmt := top 55
def d__law_row : He5.DefA := ⟨fun K => He.ga K "_law_row", "_law_row", "_law_row", defArgs s__law_row, defBody s__law_row, defScope s__law_row, [], []⟩
abbrev di__law_row : Nat := 6
abbrev gi__law_row : Nat := 6
abbrev s__law_draw_weight : Stmt := top 51
def d__law_draw_weight : He5.DefA := ⟨fun K => He.ga K "_law_draw_weight", "_law_draw_weight", "_law_draw_weight", defArgs s__law_draw_weight, defBody s__law_draw_weight, defScope s__law_draw_weight, [], []⟩
abbrev di__law_draw_weight : Nat := 7
abbrev gi__law_draw_weight : Nat := 7
abbrev s__law_draw_pairs : Stmt := top 56
def d__law_draw_pairs : He5.DefA := ⟨fun K => He.ga K "_law_draw_pairs", "_law_draw_pairs", "_law_draw_pairs", defArgs s__law_draw_pairs, defBody s__law_draw_pairs, defScope s__law_draw_pairs, [], []⟩
abbrev di__law_draw_pairs : Nat := 8
abbrev gi__law_draw_pairs : Nat := 8
abbrev s__law_draw_list : Stmt := top 57
def d__law_draw_list : He5.DefA := ⟨fun K => He.ga K "_law_draw_list", "_law_draw_list", "_law_draw_list", defArgs s__law_draw_list, defBody s__law_draw_list, defScope s__law_draw_list, [], []⟩
abbrev di__law_draw_list : Nat := 9
abbrev gi__law_draw_list : Nat := 9
abbrev s__law_any_table : Stmt := top 58
def d__law_any_table : He5.DefA := ⟨fun K => He.ga K "_law_any_table", "_law_any_table", "_law_any_table", defArgs s__law_any_table, defBody s__law_any_table, defScope s__law_any_table, [], []⟩
abbrev di__law_any_table : Nat := 10
abbrev gi__law_any_table : Nat := 10
abbrev s__law_table : Stmt := top 47
def d__law_table : He5.DefA := ⟨fun K => He.ga K "_law_table", "_law_table", "_law_table", defArgs s__law_table, defBody s__law_table, defScope s__law_table, [], []⟩
abbrev di__law_table : Nat := 11
abbrev gi__law_table : Nat := 11
abbrev s_frozen_numbers : Stmt := top 14
def d_frozen_numbers : He5.DefA := ⟨fun K => He.ga K "frozen_numbers", "frozen_numbers", "frozen_numbers", defArgs s_frozen_numbers, defBody s_frozen_numbers, defScope s_frozen_numbers, [], []⟩
abbrev di_frozen_numbers : Nat := 12
abbrev gi_frozen_numbers : Nat := 12
abbrev s_frozen_part : Stmt := top 15
def d_frozen_part : He5.DefA := ⟨fun K => He.ga K "frozen_part", "frozen_part", "frozen_part", defArgs s_frozen_part, defBody s_frozen_part, defScope s_frozen_part, [], []⟩
abbrev di_frozen_part : Nat := 13
abbrev gi_frozen_part : Nat := 13
abbrev s_frozen : Stmt := top 16
def d_frozen : He5.DefA := ⟨fun K => He.ga K "frozen", "frozen", "frozen", defArgs s_frozen, defBody s_frozen, defScope s_frozen, [], []⟩
abbrev di_frozen : Nat := 14
abbrev gi_frozen : Nat := 14
abbrev s_BadRow_init : Stmt := L2.inClass (top 9) 0
def d_BadRow_init : He5.DefA := ⟨fun K => He.ma K (He.ga K "BadRow") "__init__", "__init__", "BadRow.__init__", defArgs s_BadRow_init, defBody s_BadRow_init, defScope s_BadRow_init, [], []⟩
abbrev di_BadRow_init : Nat := 15
abbrev s_BadWeight_init : Stmt := L2.inClass (top 10) 0
def d_BadWeight_init : He5.DefA := ⟨fun K => He.ma K (He.ga K "BadWeight") "__init__", "__init__", "BadWeight.__init__", defArgs s_BadWeight_init, defBody s_BadWeight_init, defScope s_BadWeight_init, [], []⟩
abbrev di_BadWeight_init : Nat := 16
abbrev s_check_pairs : Stmt := top 34
def d_check_pairs : He5.DefA := ⟨fun K => He.ga K "check_pairs", "check_pairs", "check_pairs", defArgs s_check_pairs, defBody s_check_pairs, defScope s_check_pairs, [], []⟩
abbrev di_check_pairs : Nat := 17
abbrev gi_check_pairs : Nat := 15
abbrev s_lowered : Stmt := top 17
def d_lowered : He5.DefA := ⟨fun K => He.ga K "lowered", "lowered", "lowered", defArgs s_lowered, defBody s_lowered, defScope s_lowered, [], []⟩
abbrev di_lowered : Nat := 18
abbrev gi_lowered : Nat := 16
abbrev s_NotSquare_init : Stmt := L2.inClass (top 5) 0
def d_NotSquare_init : He5.DefA := ⟨fun K => He.ma K (He.ga K "NotSquare") "__init__", "__init__", "NotSquare.__init__", defArgs s_NotSquare_init, defBody s_NotSquare_init, defScope s_NotSquare_init, [], []⟩
abbrev di_NotSquare_init : Nat := 19
abbrev s_check_square : Stmt := top 22
def d_check_square : He5.DefA := ⟨fun K => He.ga K "check_square", "check_square", "check_square", defArgs s_check_square, defBody s_check_square, defScope s_check_square, [], []⟩
abbrev di_check_square : Nat := 20
abbrev gi_check_square : Nat := 17
abbrev s_NotSymmetric_init : Stmt := L2.inClass (top 6) 0
def d_NotSymmetric_init : He5.DefA := ⟨fun K => He.ma K (He.ga K "NotSymmetric") "__init__", "__init__", "NotSymmetric.__init__", defArgs s_NotSymmetric_init, defBody s_NotSymmetric_init, defScope s_NotSymmetric_init, [], []⟩
abbrev di_NotSymmetric_init : Nat := 21
abbrev s_check_symmetric : Stmt := top 23
def d_check_symmetric : He5.DefA := ⟨fun K => He.ga K "check_symmetric", "check_symmetric", "check_symmetric", defArgs s_check_symmetric, defBody s_check_symmetric, defScope s_check_symmetric, [], []⟩
abbrev di_check_symmetric : Nat := 22
abbrev gi_check_symmetric : Nat := 18
abbrev s_Form_init : Stmt := L2.inClass (top 27) 0
def d_Form_init : He5.DefA := ⟨fun K => He.ma K (He.ga K "Form") "__init__", "__init__", "Form.__init__", defArgs s_Form_init, defBody s_Form_init, defScope s_Form_init, [], [("bottom", .int 1)]⟩
abbrev di_Form_init : Nat := 23
abbrev s_weighted_sum : Stmt := top 35
def d_weighted_sum : He5.DefA := ⟨fun K => He.ga K "weighted_sum", "weighted_sum", "weighted_sum", defArgs s_weighted_sum, defBody s_weighted_sum, defScope s_weighted_sum, [], []⟩
abbrev di_weighted_sum : Nat := 24
abbrev gi_weighted_sum : Nat := 19
abbrev s_weighted_matrix : Stmt := top 36
def d_weighted_matrix : He5.DefA := ⟨fun K => He.ga K "weighted_matrix", "weighted_matrix", "weighted_matrix", defArgs s_weighted_matrix, defBody s_weighted_matrix, defScope s_weighted_matrix, [], []⟩
abbrev di_weighted_matrix : Nat := 25
abbrev gi_weighted_matrix : Nat := 20
abbrev s_RowList_init : Stmt := L2.inClass (top 37) 0
def d_RowList_init : He5.DefA := ⟨fun K => He.ma K (He.ga K "RowList") "__init__", "__init__", "RowList.__init__", defArgs s_RowList_init, defBody s_RowList_init, defScope s_RowList_init, [], [("bottom", .int 1)]⟩
abbrev di_RowList_init : Nat := 26
abbrev s__law_whole : Stmt := top 39
def d__law_whole : He5.DefA := ⟨fun K => He.ga K "_law_whole", "_law_whole", "_law_whole", defArgs s__law_whole, defBody s__law_whole, defScope s__law_whole, [], []⟩
abbrev di__law_whole : Nat := 27
abbrev gi__law_whole : Nat := 21
abbrev s__law_is_point : Stmt := top 45
def d__law_is_point : He5.DefA := ⟨fun K => He.ga K "_law_is_point", "_law_is_point", "_law_is_point", defArgs s__law_is_point, defBody s__law_is_point, defScope s__law_is_point, [], []⟩
abbrev di__law_is_point : Nat := 28
abbrev gi__law_is_point : Nat := 22
abbrev s__law_gcd : Stmt := top 42
def d__law_gcd : He5.DefA := ⟨fun K => He.ga K "_law_gcd", "_law_gcd", "_law_gcd", defArgs s__law_gcd, defBody s__law_gcd, defScope s__law_gcd, [], []⟩
abbrev di__law_gcd : Nat := 29
abbrev gi__law_gcd : Nat := 23
abbrev s__law_is_form : Stmt := top 59
def d__law_is_form : He5.DefA := ⟨fun K => He.ga K "_law_is_form", "_law_is_form", "_law_is_form", defArgs s__law_is_form, defBody s__law_is_form, defScope s__law_is_form, [], []⟩
abbrev di__law_is_form : Nat := 30
abbrev gi__law_is_form : Nat := 24
abbrev s__law_form_is : Stmt := top 60
def d__law_form_is : He5.DefA := ⟨fun K => He.ga K "_law_form_is", "_law_form_is", "_law_form_is", defArgs s__law_form_is, defBody s__law_form_is, defScope s__law_form_is, [], []⟩
abbrev di__law_form_is : Nat := 31
abbrev gi__law_form_is : Nat := 25
abbrev s__law_dot : Stmt := top 46
def d__law_dot : He5.DefA := ⟨fun K => He.ga K "_law_dot", "_law_dot", "_law_dot", defArgs s__law_dot, defBody s__law_dot, defScope s__law_dot, [], []⟩
abbrev di__law_dot : Nat := 32
abbrev gi__law_dot : Nat := 26
abbrev s__law_value : Stmt := top 48
def d__law_value : He5.DefA := ⟨fun K => He.ga K "_law_value", "_law_value", "_law_value", defArgs s__law_value, defBody s__law_value, defScope s__law_value, [], []⟩
abbrev di__law_value : Nat := 33
abbrev gi__law_value : Nat := 27
abbrev s__law_weighted : Stmt := top 61
def d__law_weighted : He5.DefA := ⟨fun K => He.ga K "_law_weighted", "_law_weighted", "_law_weighted", defArgs s__law_weighted, defBody s__law_weighted, defScope s__law_weighted, [], []⟩
abbrev di__law_weighted : Nat := 34
abbrev gi__law_weighted : Nat := 28
abbrev s_SizesDiffer_init : Stmt := L2.inClass (top 7) 0
def d_SizesDiffer_init : He5.DefA := ⟨fun K => He.ma K (He.ga K "SizesDiffer") "__init__", "__init__", "SizesDiffer.__init__", defArgs s_SizesDiffer_init, defBody s_SizesDiffer_init, defScope s_SizesDiffer_init, [], []⟩
abbrev di_SizesDiffer_init : Nat := 35
abbrev s_same_size : Stmt := top 29
def d_same_size : He5.DefA := ⟨fun K => He.ga K "same_size", "same_size", "same_size", defArgs s_same_size, defBody s_same_size, defScope s_same_size, [], []⟩
abbrev di_same_size : Nat := 36
abbrev gi_same_size : Nat := 29
abbrev s_dot : Stmt := top 20
def d_dot : He5.DefA := ⟨fun K => He.ga K "dot", "dot", "dot", defArgs s_dot, defBody s_dot, defScope s_dot, [], []⟩
abbrev di_dot : Nat := 37
abbrev gi_dot : Nat := 30
abbrev s_fraction : Stmt := top 18
def d_fraction : He5.DefA := ⟨fun K => He.ga K "fraction", "fraction", "fraction", defArgs s_fraction, defBody s_fraction, defScope s_fraction, [], []⟩
abbrev di_fraction : Nat := 38
abbrev gi_fraction : Nat := 31
abbrev s_paired : Stmt := top 30
def d_paired : He5.DefA := ⟨fun K => He.ga K "paired", "paired", "paired", defArgs s_paired, defBody s_paired, defScope s_paired, [], []⟩
abbrev di_paired : Nat := 39
abbrev gi_paired : Nat := 32
abbrev s__law_is_fraction : Stmt := top 43
def d__law_is_fraction : He5.DefA := ⟨fun K => He.ga K "_law_is_fraction", "_law_is_fraction", "_law_is_fraction", defArgs s__law_is_fraction, defBody s__law_is_fraction, defScope s__law_is_fraction, [], []⟩
abbrev di__law_is_fraction : Nat := 40
abbrev gi__law_is_fraction : Nat := 33
abbrev s__law_stands : Stmt := top 44
def d__law_stands : He5.DefA := ⟨fun K => He.ga K "_law_stands", "_law_stands", "_law_stands", defArgs s__law_stands, defBody s__law_stands, defScope s__law_stands, [], []⟩
abbrev di__law_stands : Nat := 41
abbrev gi__law_stands : Nat := 34
abbrev s__law_crossed : Stmt := top 62
def d__law_crossed : He5.DefA := ⟨fun K => He.ga K "_law_crossed", "_law_crossed", "_law_crossed", defArgs s__law_crossed, defBody s__law_crossed, defScope s__law_crossed, [], []⟩
abbrev di__law_crossed : Nat := 42
abbrev gi__law_crossed : Nat := 35
abbrev s_times_symmetric : Stmt := top 31
def d_times_symmetric : He5.DefA := ⟨fun K => He.ga K "times_symmetric", "times_symmetric", "times_symmetric", defArgs s_times_symmetric, defBody s_times_symmetric, defScope s_times_symmetric, [], []⟩
abbrev di_times_symmetric : Nat := 43
abbrev gi_times_symmetric : Nat := 36
abbrev s_sandwich : Stmt := top 32
def d_sandwich : He5.DefA := ⟨fun K => He.ga K "sandwich", "sandwich", "sandwich", defArgs s_sandwich, defBody s_sandwich, defScope s_sandwich, [], []⟩
abbrev di_sandwich : Nat := 44
abbrev gi_sandwich : Nat := 37
abbrev s__law_sandwich : Stmt := top 49
def d__law_sandwich : He5.DefA := ⟨fun K => He.ga K "_law_sandwich", "_law_sandwich", "_law_sandwich", defArgs s__law_sandwich, defBody s__law_sandwich, defScope s__law_sandwich, [], []⟩
abbrev di__law_sandwich : Nat := 45
abbrev gi__law_sandwich : Nat := 38
abbrev s_check_point : Stmt := top 25
def d_check_point : He5.DefA := ⟨fun K => He.ga K "check_point", "check_point", "check_point", defArgs s_check_point, defBody s_check_point, defScope s_check_point, [], []⟩
abbrev di_check_point : Nat := 46
abbrev gi_check_point : Nat := 39
abbrev s_Form_between : Stmt := L2.inClass (top 27) 7
def d_Form_between : He5.DefA := ⟨fun K => He.ma K (He.ga K "Form") "between", "between", "Form.between", defArgs s_Form_between, defBody s_Form_between, defScope s_Form_between, [], []⟩
abbrev di_Form_between : Nat := 47
abbrev s_Form_call : Stmt := L2.inClass (top 27) 6
def d_Form_call : He5.DefA := ⟨fun K => He.ma K (He.ga K "Form") "__call__", "__call__", "Form.__call__", defArgs s_Form_call, defBody s_Form_call, defScope s_Form_call, [], []⟩
abbrev di_Form_call : Nat := 48
abbrev s_Form_at : Stmt := L2.inClass (top 27) 8
def d_Form_at : He5.DefA := ⟨fun K => He.ma K (He.ga K "Form") "at", "at", "Form.at", defArgs s_Form_at, defBody s_Form_at, defScope s_Form_at, [], []⟩
abbrev di_Form_at : Nat := 49
abbrev s_vector : Stmt := top 19
def d_vector : He5.DefA := ⟨fun K => He.ga K "vector", "vector", "vector", defArgs s_vector, defBody s_vector, defScope s_vector, [], []⟩
abbrev di_vector : Nat := 50
abbrev gi_vector : Nat := 40
abbrev s_Form_applied : Stmt := L2.inClass (top 27) 9
def d_Form_applied : He5.DefA := ⟨fun K => He.ma K (He.ga K "Form") "applied", "applied", "Form.applied", defArgs s_Form_applied, defBody s_Form_applied, defScope s_Form_applied, [], []⟩
abbrev di_Form_applied : Nat := 51
abbrev s__law_pressed : Stmt := top 64
def d__law_pressed : He5.DefA := ⟨fun K => He.ga K "_law_pressed", "_law_pressed", "_law_pressed", defArgs s__law_pressed, defBody s__law_pressed, defScope s__law_pressed, [], []⟩
abbrev di__law_pressed : Nat := 52
abbrev gi__law_pressed : Nat := 41
abbrev s__law_refused : Stmt := top 63
def d__law_refused : He5.DefA := ⟨fun K => He.ga K "_law_refused", "_law_refused", "_law_refused", defArgs s__law_refused, defBody s__law_refused, defScope s__law_refused, [], []⟩
abbrev di__law_refused : Nat := 53
abbrev gi__law_refused : Nat := 42
abbrev s_law : Stmt := top 65
def d_law : He5.DefA := ⟨fun K => He.ga K "law", "law", "law", defArgs s_law, defBody s_law, defScope s_law, [], []⟩
abbrev di_law : Nat := 54
abbrev gi_law : Nat := 43
abbrev fi_len : Nat := 44
abbrev fi_int : Nat := 45
abbrev fi_range : Nat := 46
abbrev fi_min : Nat := 47
abbrev fi_list : Nat := 48
abbrev fi_tuple : Nat := 49
abbrev fi_isinstance : Nat := 50
abbrev fi_enumerate : Nat := 51
abbrev fi_zip : Nat := 52
abbrev fi_sum : Nat := 53
abbrev fi_bool : Nat := 54
abbrev fi_all : Nat := 55
abbrev fi_abs : Nat := 56
abbrev fi_ValueError : Nat := 57
abbrev gi_BadRow : Nat := 58
abbrev gi_BadWeight : Nat := 59
abbrev gi_NotSquare : Nat := 60
abbrev gi_NotSymmetric : Nat := 61
abbrev gi_Form : Nat := 62
abbrev gi_RowList : Nat := 63
abbrev gi_SizesDiffer : Nat := 64
abbrev gi_ZeroBottom : Nat := 65
abbrev gi_BelowZero : Nat := 66
abbrev gi_NoInverse : Nat := 67
abbrev gi_NoSolution : Nat := 68
abbrev gi_CordError : Nat := 69
abbrev gf_noat_BadRow_index : Nat := 70
abbrev gf_meth_BadRow___init__ : Nat := 71
abbrev gf_noat_BadWeight_index : Nat := 72
abbrev gf_meth_BadWeight___init__ : Nat := 73
abbrev gf_noat_NotSquare_row : Nat := 74
abbrev gf_meth_NotSquare___init__ : Nat := 75
abbrev gf_noat_NotSymmetric_column : Nat := 76
abbrev gf_noat_NotSymmetric_row : Nat := 77
abbrev gf_meth_NotSymmetric___init__ : Nat := 78
abbrev gf_cls_Form : Nat := 79
abbrev gf_noat_Form_bottom : Nat := 80
abbrev gf_noat_Form_entries : Nat := 81
abbrev gf_noat_Form_size : Nat := 82
abbrev gf_mkr_Form : Nat := 83
abbrev gf_cls_RowList : Nat := 84
abbrev gf_noat_RowList_pairs : Nat := 85
abbrev gf_noat_RowList_form : Nat := 86
abbrev gf_noat_RowList_bottom : Nat := 87
abbrev gf_noat_RowList_size : Nat := 88
abbrev gf_mkr_RowList : Nat := 89
abbrev gf_noat_SizesDiffer_two : Nat := 90
abbrev gf_noat_SizesDiffer_one : Nat := 91
abbrev gf_meth_SizesDiffer___init__ : Nat := 92
abbrev gf_meth_Form_between : Nat := 93
abbrev gf_meth_Form___call__ : Nat := 94
abbrev gf_meth_Form_at : Nat := 95
abbrev gf_meth_Form_applied : Nat := 96
abbrev gm_oex_BadRow : Nat := 0
abbrev gm_oex_BadWeight : Nat := 1
abbrev gm_oex_NotSquare : Nat := 2
abbrev gm_oex_NotSymmetric : Nat := 3
abbrev gm_ins_Form_Form : Nat := 4
abbrev gm_oex_SizesDiffer : Nat := 5
abbrev gm_xf_one : Nat := 6
abbrev gm_xf_two : Nat := 7
def ms : List (PySem.W.Frag → Bool) := [oexB "BadRow", oexB "BadWeight", oexB "NotSquare", oexB "NotSymmetric", insB "Form" "Form" true, oexB "SizesDiffer", xfT (["SizesDiffer"] : List Str) "one", xfT (["SizesDiffer"] : List Str) "two"]
def fn : List He5.DefA := [d__law_cell, d__law_digits, d__law_line, d__law_wide, d__law_seven, d__law_draw_row, d__law_row, d__law_draw_weight, d__law_draw_pairs, d__law_draw_list, d__law_any_table, d__law_table, d_frozen_numbers, d_frozen_part, d_frozen, d_BadRow_init, d_BadWeight_init, d_check_pairs, d_lowered, d_NotSquare_init, d_check_square, d_NotSymmetric_init, d_check_symmetric, d_Form_init, d_weighted_sum, d_weighted_matrix, d_RowList_init, d__law_whole, d__law_is_point, d__law_gcd, d__law_is_form, d__law_form_is, d__law_dot, d__law_value, d__law_weighted, d_SizesDiffer_init, d_same_size, d_dot, d_fraction, d_paired, d__law_is_fraction, d__law_stands, d__law_crossed, d_times_symmetric, d_sandwich, d__law_sandwich, d_check_point, d_Form_between, d_Form_call, d_Form_at, d_vector, d_Form_applied, d__law_pressed, d__law_refused, d_law]
def fa : List He.Fa := ([.glo "_law_cell", .glo "_law_digits", .glo "_law_line", .glo "_law_wide", .glo "_law_seven", .glo "_law_draw_row", .glo "_law_row", .glo "_law_draw_weight", .glo "_law_draw_pairs", .glo "_law_draw_list", .glo "_law_any_table", .glo "_law_table", .glo "frozen_numbers", .glo "frozen_part", .glo "frozen", .glo "check_pairs", .glo "lowered", .glo "check_square", .glo "check_symmetric", .glo "weighted_sum", .glo "weighted_matrix", .glo "_law_whole", .glo "_law_is_point", .glo "_law_gcd", .glo "_law_is_form"] : List He.Fa) ++ ([.glo "_law_form_is", .glo "_law_dot", .glo "_law_value", .glo "_law_weighted", .glo "same_size", .glo "dot", .glo "fraction", .glo "paired", .glo "_law_is_fraction", .glo "_law_stands", .glo "_law_crossed", .glo "times_symmetric", .glo "sandwich", .glo "_law_sandwich", .glo "check_point", .glo "vector", .glo "_law_pressed", .glo "_law_refused", .glo "law", .free "len", .free "int", .free "range", .free "min", .free "list", .free "tuple"] : List He.Fa) ++ ([.free "isinstance", .free "enumerate", .free "zip", .free "sum", .free "bool", .free "all", .free "abs", .free "ValueError", .glo "BadRow", .glo "BadWeight", .glo "NotSquare", .glo "NotSymmetric", .glo "Form", .glo "RowList", .glo "SizesDiffer", .glo "ZeroBottom", .glo "BelowZero", .glo "NoInverse", .glo "NoSolution", .glo "CordError", .noat "BadRow" "index", .meth "BadRow" "__init__", .noat "BadWeight" "index", .meth "BadWeight" "__init__", .noat "NotSquare" "row"] : List He.Fa) ++ ([.meth "NotSquare" "__init__", .noat "NotSymmetric" "column", .noat "NotSymmetric" "row", .meth "NotSymmetric" "__init__", .cls "Form", .noat "Form" "bottom", .noat "Form" "entries", .noat "Form" "size", .mkr "Form", .cls "RowList", .noat "RowList" "pairs", .noat "RowList" "form", .noat "RowList" "bottom", .noat "RowList" "size", .mkr "RowList", .noat "SizesDiffer" "two", .noat "SizesDiffer" "one", .meth "SizesDiffer" "__init__", .meth "Form" "between", .meth "Form" "__call__", .meth "Form" "at", .meth "Form" "applied"] : List He.Fa)
def hv : List (Str × Value) := [("gcd", .builtin "math.gcd")]
def xs : List Str := ["ZeroBottom"]
def xm : List (Str × XTab) := [("CordError", ([(("ZeroBottom" : Str), true), (("SizesDiffer" : Str), true), (("NotSymmetric" : Str), true), (("NotSquare" : Str), true), (("BadRow" : Str), true), (("BadWeight" : Str), true)] : XTab))]
def xk : List (Str × XTab) := [("SizesDiffer", ([(("ZeroBottom" : Str), false), (("SizesDiffer" : Str), true), (("NotSymmetric" : Str), false), (("NotSquare" : Str), false), (("BadRow" : Str), false), (("BadWeight" : Str), false)] : XTab)), ("BelowZero", ([(("ZeroBottom" : Str), false), (("SizesDiffer" : Str), false), (("NotSymmetric" : Str), false), (("NotSquare" : Str), false), (("BadRow" : Str), false), (("BadWeight" : Str), false)] : XTab)), ("NoInverse", ([(("ZeroBottom" : Str), false), (("SizesDiffer" : Str), false), (("NotSymmetric" : Str), false), (("NotSquare" : Str), false), (("BadRow" : Str), false), (("BadWeight" : Str), false)] : XTab)), ("NoSolution", ([(("ZeroBottom" : Str), false), (("SizesDiffer" : Str), false), (("NotSymmetric" : Str), false), (("NotSquare" : Str), false), (("BadRow" : Str), false), (("BadWeight" : Str), false)] : XTab))]
def xb : List (String × XTab) := [("ValueError", ([(("ZeroBottom" : Str), true), (("SizesDiffer" : Str), true), (("NotSymmetric" : Str), true), (("NotSquare" : Str), true), (("BadRow" : Str), true), (("BadWeight" : Str), true)] : XTab))]
abbrev Rw : PySem.W.OpenRow := PySem.W.OpenLaw.row PySem.Challenge.rw_fourcords_k24_paired_sums
abbrev hk : PySem.W.Hook := hookW 5 fa fn (exW hv xs xm xk xb ms)
def ob (s : PySem.W.SharedT) : He.AlD × Bool := obsW 5 fa fn (exW hv xs xm xk xb ms) (HandSHeadRun.getT s)
theorem ob_eq (s : PySem.W.SharedT) : ob s = hk.obs s.abs := obsW_eq (HandSHeadRun.getT_eq s)
def loose : List PySem.Str := (["gcd", "_wall", "CordError", "ZeroBottom", "NotSquare", "NotSymmetric", "SizesDiffer", "BelowZero", "BadRow", "BadWeight", "NoSolution", "NoInverse", "frozen_numbers", "frozen_part", "frozen", "lowered", "fraction", "vector", "dot", "check_square"] : List PySem.Str) ++ (["check_symmetric", "check_sizes", "check_point", "combined_entries", "Form", "same_size", "paired", "times_symmetric", "sandwich", "check_pairs", "weighted_sum", "weighted_matrix", "RowList", "_law_whole", "_law_cell", "_law_digits", "_law_gcd", "_law_is_fraction", "_law_stands", "_law_is_point"] : List PySem.Str) ++ (["_law_dot", "_law_table", "_law_value", "_law_sandwich", "_law_draw_row", "_law_draw_weight", "_law_line", "_law_seven", "_law_wide", "_law_row", "_law_draw_pairs", "_law_draw_list", "_law_any_table", "_law_is_form", "_law_form_is", "_law_weighted", "_law_crossed", "_law_refused", "_law_pressed"] : List PySem.Str)
theorem run (w : World) : HandSHeadRun.RunEqI Rw (PySem.W.view Rw.prog [0, 65]) hk ob 60000 loose w := by
  unfold HandSHeadRun.RunEqI
  kernel_rfl
end Lw
set_option maxHeartbeats 4000000
/-! # Zk: typed mirrors in a partial monad, and one judgement that pairs a derivation with its mirror -/
namespace Zk
open PySem PySem.Spec PyProof.Rows L2

/-! ### the partial monad -/
inductive Fld where
  | int (i : Int) | ints (l : List Int) | str (s : Str)
structure Exn where
  cls : Str
  fs : List (Str × Fld)
inductive R (α : Type) where
  | ok (a : α) | exn (x : Exn) | stuck
namespace R
variable {α β γ : Type}
@[reducible] def bind (m : R α) (f : α → R β) : R β := match m with
  | ok a => f a
  | exn x => exn x
  | stuck => stuck
@[reducible] instance : Monad R := { pure := R.ok, bind := R.bind }
theorem same_ (a b : R β) (h : a = b) : a = b := h
@[simp] theorem ok_bind (a : α) (f : α → R β) : ((ok a : R α) >>= f) = f a := same_ _ _ rfl
@[simp] theorem exn_bind (x : Exn) (f : α → R β) : ((exn x : R α) >>= f) = exn x := same_ _ _ rfl
@[simp] theorem stuck_bind (f : α → R β) : ((stuck : R α) >>= f) = stuck := same_ _ _ rfl
@[simp] theorem pure_eq (a : α) : (pure a : R α) = ok a := rfl
@[simp] theorem bind_ok (m : R α) : (m >>= ok) = m := by cases m <;> rfl
theorem bind_assoc (m : R α) (f : α → R β) (g : β → R γ) : ((m >>= f) >>= g) = (m >>= fun a => f a >>= g) := by cases m <;> rfl
def post (m : R α) (Q : α → Prop) (E : Exn → Prop) : Prop := match m with
  | ok a => Q a
  | exn x => E x
  | stuck => False
theorem post_bind {m : R α} {f : α → R β} {Q : β → Prop} {E : Exn → Prop} : (m >>= f).post Q E ↔ m.post (fun a => (f a).post Q E) E := by
  cases m <;> exact Iff.rfl
theorem post_mono {m : R α} {Q Q' : α → Prop} {E E' : Exn → Prop} (h : m.post Q E) (hq : ∀ a, Q a → Q' a) (he : ∀ x, E x → E' x) : m.post Q' E' := by
  cases m with
  | ok a => exact hq a h
  | exn x => exact he x h
  | stuck => exact h
/-- a guard -/
def guard (p : Prop) [Decidable p] (a : α) : R α := if p then ok a else stuck
theorem guard_post {p : Prop} [Decidable p] {a : α} {Q : α → Prop} {E : Exn → Prop} (h : (guard p a).post Q E) : p ∧ Q a := by
  unfold guard at h
  split at h
  · exact ⟨by assumption, h⟩
  · exact h.elim
@[simp] theorem guard_ok {p : Prop} [Decidable p] {a : α} (h : p) : guard p a = ok a := if_pos h
end R

/-! ### heaps that grow: S what is settled, H all -/
theorem _root_.L2.Same.tup {K : PySem.W.Frag} {H H' : Hp} {a : Addr} {xs : List V} (e : Same H H') (h : SqT K H a xs) : SqT K H' a xs := by
  rcases h with (h | ⟨o, h⟩) | h
  · exact .inl (.inl (e _ _ h))
  · exact .inl (.inr ⟨o, e _ _ h⟩)
  · exact .inr h
theorem _root_.L2.Same.new {H : Hp} {p : Addr} {o : HO} (h : H p = none) : Same H (upd H p o) := fun a u e => by
  rw [upd_ne (ne_of_none e h)]
  exact e
theorem _root_.L2.Same.mut {H H' : Hp} {p : Addr} {o : HO} (e : Same H H') (h : H p = none) : Same H (upd H' p o) := fun a u ha => by
  rw [upd_ne (ne_of_none ha h)]
  exact e a u ha
structure Grow (S H S' H' : Hp) : Prop where
  ex : Same H H'
  st : Same S S'
  inn : Same S' H'
  new : ∀ a, S a = none → S' a ≠ none → H a = none
theorem Grow.refl {S H : Hp} (h : Same S H) : Grow S H S H := ⟨.refl _, .refl _, h, fun a e n => (n e).elim⟩
theorem Grow.trans {S H S1 H1 S2 H2 : Hp} (a : Grow S H S1 H1) (b : Grow S1 H1 S2 H2) : Grow S H S2 H2 := by
  refine ⟨a.ex.trans b.ex, a.st.trans b.st, b.inn, fun x e n => ?_⟩
  cases q : S1 x with
  | none => exact a.ex.free (b.new x q n)
  | some o => exact a.new x e (by rw [q]; exact fun z => by cases z)
/-- a settled new object -/
theorem Grow.lay {S H : Hp} {p : Addr} {o : HO} (i : Same S H) (h : H p = none) : Grow S H (upd S p o) (upd H p o) := by
  have hs : S p = none := i.free h
  refine ⟨.new h, .new hs, fun a u e => ?_, fun a e n => ?_⟩
  · by_cases z : a = p
    · subst z
      rw [upd_same] at e ⊢
      exact e
    · rw [upd_ne z] at e ⊢
      exact i a u e
  · by_cases z : a = p
    · rw [z]; exact h
    · rw [upd_ne z] at n
      exact (n e).elim
/-- a new object that is not settled -/
theorem Grow.lay' {S H : Hp} {p : Addr} {o : HO} (i : Same S H) (h : H p = none) : Grow S H S (upd H p o) :=
  ⟨.new h, .refl _, i.mut (i.free h), fun a e n => (n e).elim⟩
theorem Grow.none {S H S' H' : Hp} (g : Grow S H S' H') {p : Addr} {o : HO} (h : H p = some o) (s : S p = none) : S' p = none := by
  cases q : S' p with
  | none => rfl
  | some u =>
    have z := g.new p s (by rw [q]; exact fun z => by cases z)
    rw [h] at z
    cases z

/-! ### codecs -/
structure Cd (α : Type) where
  rep : PySem.W.Frag → Hp → V → α → Prop
  mono : ∀ {K : PySem.W.Frag} {H H' : Hp} {v : V} {a : α}, Same H H' → rep K H v a → rep K H' v a
def Reps {α : Type} (c : Cd α) (K : PySem.W.Frag) (H : Hp) : List V → List α → Prop
  | [], [] => True
  | v :: vs, a :: as => c.rep K H v a ∧ Reps c K H vs as
  | _, _ => False
section
variable {α β : Type} {c : Cd α} {K : PySem.W.Frag} {H H' : Hp}
theorem Reps.mono (e : Same H H') : ∀ {vs : List V} {as : List α}, Reps c K H vs as → Reps c K H' vs as
  | [], [], _ => trivial
  | _ :: _, _ :: _, h => ⟨c.mono e h.1, Reps.mono e h.2⟩
  | [], _ :: _, h => h.elim
  | _ :: _, [], h => h.elim
theorem Reps.length : ∀ {vs : List V} {as : List α}, Reps c K H vs as → vs.length = as.length
  | [], [], _ => rfl
  | _ :: _, _ :: _, h => congrArg Nat.succ (Reps.length h.2)
  | [], _ :: _, h => h.elim
  | _ :: _, [], h => h.elim
theorem Reps.append : ∀ {vs : List V} {as : List α} {ws : List V} {bs : List α}, Reps c K H vs as → Reps c K H ws bs → Reps c K H (vs ++ ws) (as ++ bs)
  | [], [], _, _, _, k => k
  | _ :: _, _ :: _, _, _, h, k => ⟨h.1, Reps.append h.2 k⟩
  | [], _ :: _, _, _, h, _ => h.elim
  | _ :: _, [], _, _, h, _ => h.elim
theorem Reps.get : ∀ {vs : List V} {as : List α} {i : Nat} {a : α}, Reps c K H vs as → as[i]? = some a → ∃ v, vs[i]? = some v ∧ c.rep K H v a
  | v :: _, a' :: _, 0, a, h, e => by
    have e2 : a' = a := Option.some.inj e
    subst e2
    exact ⟨v, rfl, h.1⟩
  | _ :: vs, _ :: as, i + 1, a, h, e => Reps.get (vs := vs) (as := as) (i := i) h.2 e
  | [], [], i, a, _, e => by simp at e
  | [], _ :: _, _, _, h, _ => h.elim
  | _ :: _, [], _, _, h, _ => h.elim
theorem Reps.getV : ∀ {vs : List V} {as : List α} {i : Nat} {v : V}, Reps c K H vs as → vs[i]? = some v → ∃ a, as[i]? = some a ∧ c.rep K H v a
  | v' :: _, a :: _, 0, v, h, e => by
    have e2 : v' = v := Option.some.inj e
    subst e2
    exact ⟨a, rfl, h.1⟩
  | _ :: vs, _ :: as, i + 1, v, h, e => Reps.getV (vs := vs) (as := as) (i := i) h.2 e
  | [], [], i, v, _, e => by simp at e
  | [], _ :: _, _, _, h, _ => h.elim
  | _ :: _, [], _, _, h, _ => h.elim
theorem Reps.set {a : α} {v : V} (r : c.rep K H v a) : ∀ {vs : List V} {as : List α} (i : Nat), Reps c K H vs as → Reps c K H (vs.set i v) (as.set i a)
  | [], [], _, _ => trivial
  | _ :: _, _ :: _, 0, h => ⟨r, h.2⟩
  | _ :: _, _ :: _, i + 1, h => ⟨h.1, Reps.set r i h.2⟩
  | [], _ :: _, _, h => h.elim
  | _ :: _, [], _, h => h.elim
theorem Reps.take : ∀ {vs : List V} {as : List α} (n : Nat), Reps c K H vs as → Reps c K H (vs.take n) (as.take n)
  | _, _, 0, _ => by simp [Reps]
  | [], [], _ + 1, _ => trivial
  | _ :: _, _ :: _, n + 1, h => ⟨h.1, Reps.take n h.2⟩
  | [], _ :: _, _ + 1, h => h.elim
  | _ :: _, [], _ + 1, h => h.elim
theorem Reps.drop : ∀ {vs : List V} {as : List α} (n : Nat), Reps c K H vs as → Reps c K H (vs.drop n) (as.drop n)
  | _, _, 0, h => h
  | [], [], _ + 1, _ => trivial
  | _ :: _, _ :: _, n + 1, h => Reps.drop n h.2
  | [], _ :: _, _ + 1, h => h.elim
  | _ :: _, [], _ + 1, h => h.elim
end

def cI : Cd Int := ⟨fun _ _ v i => v = .int i, fun _ h => h⟩
def cB : Cd Bool := ⟨fun _ _ v b => v = .bl b, fun _ h => h⟩
def cN : Cd Unit := ⟨fun _ _ v _ => v = .non, fun _ h => h⟩
def cS : Cd Str := ⟨fun _ _ v x => v = .str x, fun _ h => h⟩
def cL {α : Type} (c : Cd α) : Cd (List α) :=
  ⟨fun K H v as => ∃ p vs, v = .ref p ∧ SqL K H p vs ∧ Reps c K H vs as, fun e ⟨p, vs, h1, h2, h3⟩ => ⟨p, vs, h1, Same.seq e h2, Reps.mono e h3⟩⟩
def cT {α : Type} (c : Cd α) : Cd (List α) :=
  ⟨fun K H v as => ∃ p vs, v = .ref p ∧ SqT K H p vs ∧ Reps c K H vs as, fun e ⟨p, vs, h1, h2, h3⟩ => ⟨p, vs, h1, Same.tup e h2, Reps.mono e h3⟩⟩
/-- a list or a tuple -/
def cLT {α : Type} (c : Cd α) : Cd (List α) :=
  ⟨fun K H v as => (cL c).rep K H v as ∨ (cT c).rep K H v as, fun e h => h.imp ((cL c).mono e) ((cT c).mono e)⟩
def cO {α : Type} (c : Cd α) : Cd (Option α) :=
  ⟨fun K H v o => match o with | none => v = .non | some a => v ≠ .non ∧ c.rep K H v a, fun {K H H' v o} e h => by
    cases o with
    | none => exact h
    | some a => exact ⟨h.1, c.mono e h.2⟩⟩
/-! ### what only one slot holds; fp: its addresses -/
structure OC (α : Type) where
  c : Cd α
  rep : PySem.W.Frag → Hp → Hp → V → α → List Addr → Prop
  stay : ∀ {K : PySem.W.Frag} {S H S' H' : Hp} {v : V} {a : α} {fp : List Addr}, Same S S' → (∀ p ∈ fp, S' p = none ∧ H' p = H p) → rep K S H v a fp → rep K S' H' v a fp
  dom : ∀ {K : PySem.W.Frag} {S H : Hp} {v : V} {a : α} {fp : List Addr}, rep K S H v a fp → ∀ p ∈ fp, S p = none ∧ ∃ xs, H p = some xs
  nd : ∀ {K : PySem.W.Frag} {S H : Hp} {v : V} {a : α} {fp : List Addr}, rep K S H v a fp → fp.Nodup
  set : ∀ {K : PySem.W.Frag} {S H S' : Hp} {v : V} {a : α} {fp : List Addr}, Same S S' → (∀ p ∈ fp, S' p = H p) → rep K S H v a fp → c.rep K S' v a
def oL {α : Type} (c : Cd α) : OC (List α) where
  c := cL c
  rep K S H v as fp := ∃ p vs, v = .ref p ∧ fp = [p] ∧ S p = none ∧ H p = some (.lst vs) ∧ Reps c K S vs as
  stay := fun e k ⟨p, vs, h1, h2, h3, h4, h5⟩ => by
    subst h2
    obtain ⟨k1, k2⟩ := k p (List.mem_singleton.mpr rfl)
    exact ⟨p, vs, h1, rfl, k1, k2.trans h4, Reps.mono e h5⟩
  dom := fun ⟨p, vs, h1, h2, h3, h4, h5⟩ q hq => by
    subst h2
    cases List.mem_singleton.mp hq
    exact ⟨h3, _, h4⟩
  nd := fun ⟨p, vs, h1, h2, _⟩ => by
    rw [h2]
    exact List.nodup_cons.mpr ⟨by simp, List.nodup_nil⟩
  set := fun e k ⟨p, vs, h1, h2, h3, h4, h5⟩ => by
    subst h2
    exact ⟨p, vs, h1, SqL.of ((k p (List.mem_singleton.mpr rfl)).trans h4), Reps.mono e h5⟩
def RepsO {α : Type} (o : OC α) (K : PySem.W.Frag) (S H : Hp) : List V → List α → List (List Addr) → Prop
  | [], [], [] => True
  | v :: vs, a :: as, f :: fs => o.rep K S H v a f ∧ RepsO o K S H vs as fs
  | _, _, _ => False
section
variable {α : Type} {o : OC α} {K : PySem.W.Frag} {S H S' H' : Hp}
theorem RepsO.stay (e : Same S S') : ∀ {vs : List V} {as : List α} {fs : List (List Addr)}, (∀ p ∈ fs.flatten, S' p = none ∧ H' p = H p) → RepsO o K S H vs as fs → RepsO o K S' H' vs as fs
  | [], [], [], _, _ => trivial
  | v :: vs, a :: as, f :: fs, k, h => ⟨o.stay e (fun p hp => k p (by rw [List.flatten_cons]; exact List.mem_append_left _ hp)) h.1, RepsO.stay e (fun p hp => k p (by rw [List.flatten_cons]; exact List.mem_append_right _ hp)) h.2⟩
  | [], [], _ :: _, _, h => h.elim
  | [], _ :: _, _, _, h => h.elim
  | _ :: _, [], _, _, h => h.elim
  | _ :: _, _ :: _, [], _, h => h.elim
theorem RepsO.dom : ∀ {vs : List V} {as : List α} {fs : List (List Addr)}, RepsO o K S H vs as fs → ∀ p ∈ fs.flatten, S p = none ∧ ∃ xs, H p = some xs
  | [], [], [], _, p, hp => by simp at hp
  | v :: vs, a :: as, f :: fs, h, p, hp => by
    rw [List.flatten_cons] at hp
    rcases List.mem_append.mp hp with hp | hp
    · exact o.dom h.1 p hp
    · exact RepsO.dom h.2 p hp
  | [], [], _ :: _, h, _, _ => h.elim
  | [], _ :: _, _, h, _, _ => h.elim
  | _ :: _, [], _, h, _, _ => h.elim
  | _ :: _, _ :: _, [], h, _, _ => h.elim
theorem RepsO.set (e : Same S S') : ∀ {vs : List V} {as : List α} {fs : List (List Addr)}, (∀ p ∈ fs.flatten, S' p = H p) → RepsO o K S H vs as fs → Reps o.c K S' vs as
  | [], [], [], _, _ => trivial
  | v :: vs, a :: as, f :: fs, k, h => ⟨o.set e (fun p hp => k p (by rw [List.flatten_cons]; exact List.mem_append_left _ hp)) h.1, RepsO.set e (fun p hp => k p (by rw [List.flatten_cons]; exact List.mem_append_right _ hp)) h.2⟩
  | [], [], _ :: _, _, h => h.elim
  | [], _ :: _, _, _, h => h.elim
  | _ :: _, [], _, _, h => h.elim
  | _ :: _, _ :: _, [], _, h => h.elim
theorem RepsO.length : ∀ {vs : List V} {as : List α} {fs : List (List Addr)}, RepsO o K S H vs as fs → vs.length = as.length ∧ fs.length = as.length
  | [], [], [], _ => ⟨rfl, rfl⟩
  | _ :: _, _ :: _, _ :: _, h => ⟨congrArg Nat.succ (RepsO.length h.2).1, congrArg Nat.succ (RepsO.length h.2).2⟩
  | [], [], _ :: _, h => h.elim
  | [], _ :: _, _, h => h.elim
  | _ :: _, [], _, h => h.elim
  | _ :: _, _ :: _, [], h => h.elim
theorem RepsO.append : ∀ {vs : List V} {as : List α} {fs : List (List Addr)} {ws : List V} {bs : List α} {gs : List (List Addr)}, RepsO o K S H vs as fs → RepsO o K S H ws bs gs → RepsO o K S H (vs ++ ws) (as ++ bs) (fs ++ gs)
  | [], [], [], _, _, _, _, k => k
  | _ :: _, _ :: _, _ :: _, _, _, _, h, k => ⟨h.1, RepsO.append h.2 k⟩
  | [], [], _ :: _, _, _, _, h, _ => h.elim
  | [], _ :: _, _, _, _, _, h, _ => h.elim
  | _ :: _, [], _, _, _, _, h, _ => h.elim
  | _ :: _, _ :: _, [], _, _, _, h, _ => h.elim
theorem RepsO.get : ∀ {vs : List V} {as : List α} {fs : List (List Addr)} {i : Nat} {a : α}, RepsO o K S H vs as fs → as[i]? = some a → ∃ v f, vs[i]? = some v ∧ fs[i]? = some f ∧ o.rep K S H v a f
  | v :: _, a' :: _, f :: _, 0, a, h, e => by
    have e2 : a' = a := Option.some.inj e
    subst e2
    exact ⟨v, f, rfl, rfl, h.1⟩
  | _ :: vs, _ :: as, _ :: fs, i + 1, a, h, e => RepsO.get (vs := vs) (as := as) (fs := fs) (i := i) h.2 e
  | [], [], [], i, a, _, e => by simp at e
  | [], [], _ :: _, _, _, h, _ => h.elim
  | [], _ :: _, _, _, _, h, _ => h.elim
  | _ :: _, [], _, _, _, h, _ => h.elim
  | _ :: _, _ :: _, [], _, _, h, _ => h.elim
end
/-- a list whose items are owned as well -/
def oN {α : Type} (o : OC α) : OC (List α) where
  c := cL o.c
  rep K S H v as fp := ∃ p vs fs, v = .ref p ∧ fp = p :: fs.flatten ∧ (p :: fs.flatten).Nodup ∧ S p = none ∧ H p = some (.lst vs) ∧ RepsO o K S H vs as fs
  stay := fun e k ⟨p, vs, fs, h1, h2, h3, h4, h5, h6⟩ => by
    subst h2
    obtain ⟨k1, k2⟩ := k p List.mem_cons_self
    exact ⟨p, vs, fs, h1, rfl, h3, k1, k2.trans h5, RepsO.stay e (fun q hq => k q (List.mem_cons_of_mem _ hq)) h6⟩
  dom := fun ⟨p, vs, fs, h1, h2, h3, h4, h5, h6⟩ q hq => by
    subst h2
    rcases List.mem_cons.mp hq with z | z
    · rw [z]; exact ⟨h4, _, h5⟩
    · exact RepsO.dom h6 q z
  nd := fun ⟨p, vs, fs, h1, h2, h3, _⟩ => by
    rw [h2]
    exact h3
  set := fun e k ⟨p, vs, fs, h1, h2, h3, h4, h5, h6⟩ => by
    subst h2
    exact ⟨p, vs, h1, SqL.of ((k p List.mem_cons_self).trans h5), RepsO.set e (fun q hq => k q (List.mem_cons_of_mem _ hq)) h6⟩
/-! ### slots -/
inductive SD : Type 1 where
  | none
  | st (α : Type) (c : Cd α) (a : α)
  | ow (α : Type) (o : OC α) (a : α)
/-- a list that still changes -/
abbrev SD.mu (α : Type) (c : Cd α) (as : List α) : SD := .ow (List α) (oL c) as
abbrev Env := List SD
/-- slots that hold these values -/
def EnvV (K : PySem.W.Frag) (H : Hp) : Env → List V → Prop
  | [], [] => True
  | d :: ds, v :: vs => (∃ (α : Type) (c : Cd α) (a : α), d = .st α c a ∧ c.rep K H v a) ∧ EnvV K H ds vs
  | _, _ => False
/-- several values, their mirrors nested pairs -/
structure CA (τ : Type) where
  n : Nat
  rep : PySem.W.Frag → Hp → List V → τ → Prop
  env : τ → Env
  mono : ∀ {K : PySem.W.Frag} {H H' : Hp} {vs : List V} {a : τ}, Same H H' → rep K H vs a → rep K H' vs a
  len : ∀ {K : PySem.W.Frag} {H : Hp} {vs : List V} {a : τ}, rep K H vs a → vs.length = n
  sl : ∀ {K : PySem.W.Frag} {H : Hp} {vs : List V} {a : τ}, rep K H vs a → EnvV K H (env a) vs
def aNil : CA Unit := ⟨0, fun _ _ vs _ => vs = [], fun _ => [], fun _ h => h, fun h => by rw [h] <;> rfl, fun h => by rw [h]; trivial⟩
def aOne {α : Type} (c : Cd α) : CA α := ⟨1, fun K H vs a => ∃ v, vs = [v] ∧ c.rep K H v a, fun a => [.st α c a], fun e ⟨v, h1, h2⟩ => ⟨v, h1, c.mono e h2⟩, fun ⟨v, h1, _⟩ => by rw [h1] <;> rfl, fun ⟨v, h1, h2⟩ => by rw [h1]; exact ⟨⟨α, c, _, rfl, h2⟩, trivial⟩⟩
def aCons {α τ : Type} (c : Cd α) (r : CA τ) : CA (α × τ) :=
  ⟨r.n + 1, fun K H vs a => ∃ v ws, vs = v :: ws ∧ c.rep K H v a.1 ∧ r.rep K H ws a.2, fun a => .st α c a.1 :: r.env a.2, fun e ⟨v, ws, h1, h2, h3⟩ => ⟨v, ws, h1, c.mono e h2, r.mono e h3⟩,
    fun ⟨v, ws, h1, _, h3⟩ => by rw [h1, List.length_cons, r.len h3], fun ⟨v, ws, h1, h2, h3⟩ => by rw [h1]; exact ⟨⟨α, c, _, rfl, h2⟩, r.sl h3⟩⟩
/-- a tuple of so many values -/
def cP {τ : Type} (r : CA τ) : Cd τ :=
  ⟨fun K H v a => ∃ p vs, v = .ref p ∧ SqT K H p vs ∧ r.rep K H vs a, fun e ⟨p, vs, h1, h2, h3⟩ => ⟨p, vs, h1, Same.tup e h2, r.mono e h3⟩⟩

/-! ### exceptions -/
def FldR (K : PySem.W.Frag) (S : Hp) (v : V) : Fld → Prop
  | .int i => v = .int i
  | .ints l => (cT cI).rep K S v l
  | .str x => v = .str x
def FldsR (K : PySem.W.Frag) (S : Hp) : List (Str × V) → List (Str × Fld) → Prop
  | [], [] => True
  | (f, v) :: gs, (g, x) :: fs => f = g ∧ FldR K S v x ∧ FldsR K S gs fs
  | _, _ => False
theorem FldR.mono {K : PySem.W.Frag} {S S' : Hp} (e : Same S S') {v : V} : ∀ {x : Fld}, FldR K S v x → FldR K S' v x
  | .int _, h => h
  | .ints _, h => (cT cI).mono e h
  | .str _, h => h
theorem FldsR.mono {K : PySem.W.Frag} {S S' : Hp} (e : Same S S') : ∀ {gs : List (Str × V)} {fs : List (Str × Fld)}, FldsR K S gs fs → FldsR K S' gs fs
  | [], [], _ => trivial
  | (_, _) :: _, (_, _) :: _, h => ⟨h.1, h.2.1.mono e, FldsR.mono e h.2.2⟩
  | [], _ :: _, h => h.elim
  | _ :: _, [], h => h.elim
theorem FldsR.get {K : PySem.W.Frag} {S : Hp} {f : Str} {x : Fld} : ∀ {gs : List (Str × V)} {fs : List (Str × Fld)}, FldsR K S gs fs → fs.lookup f = some x → ∃ v, gs.lookup f = some v ∧ FldR K S v x
  | [], [], _, e => nomatch e
  | (g, v) :: gs, (g', y) :: fs, h, e => by
    obtain ⟨h1, h2, h3⟩ := h
    subst h1
    cases q : (f == g) with
    | true =>
      have e1 : List.lookup f ((g, y) :: fs) = some y := by simp [List.lookup, q]
      rw [e1] at e
      cases e
      exact ⟨v, by simp [List.lookup, q], h2⟩
    | false =>
      have e1 : List.lookup f ((g, y) :: fs) = List.lookup f fs := by simp [List.lookup, q]
      rw [e1] at e
      obtain ⟨u, k1, k2⟩ := FldsR.get h3 e
      exact ⟨u, by simp [List.lookup, q]; exact k1, k2⟩
  | [], _ :: _, h, _ => h.elim
  | _ :: _, [], h, _ => h.elim
/-- an exception's fields, its dict at d -/
def repFs (K : PySem.W.Frag) (S : Hp) (d : Option Addr) (fs : List (Str × Fld)) : Prop := (d = none ∧ fs = []) ∨ ∃ dd gs, d = some dd ∧ S dd = some (.xd gs) ∧ FldsR K S gs fs
theorem repFs.mono {K : PySem.W.Frag} {S S' : Hp} (e : Same S S') {d : Option Addr} {fs : List (Str × Fld)} (h : repFs K S d fs) : repFs K S' d fs := h.imp id fun ⟨dd, gs, h1, h2, h3⟩ => ⟨dd, gs, h1, e _ _ h2, h3.mono e⟩
def repX (K : PySem.W.Frag) (S : Hp) (cl : Value) (d : Option Addr) (x : Exn) : Prop := cl = .ref (He.ga K x.cls) ∧ repFs K S d x.fs

/-! ### places of slots -/
namespace Env
def get : Env → Nat → SD
  | [], _ => .none
  | d :: _, 0 => d
  | _ :: ds, i + 1 => get ds i
def put : Env → Nat → SD → Env
  | [], _, _ => []
  | _ :: ds, 0, x => x :: ds
  | d :: ds, i + 1, x => d :: put ds i x
theorem put_length : ∀ (ds : Env) (i : Nat) (x : SD), (put ds i x).length = ds.length
  | [], _, _ => rfl
  | _ :: _, 0, _ => rfl
  | _ :: ds, i + 1, x => congrArg Nat.succ (put_length ds i x)
theorem get_put_same : ∀ (ds : Env) (i : Nat) (x : SD), i < ds.length → get (put ds i x) i = x
  | [], _, _, h => by simp at h
  | _ :: _, 0, _, _ => rfl
  | _ :: ds, i + 1, x, h => get_put_same ds i x (by simpa using h)
theorem get_put_ne : ∀ (ds : Env) (i j : Nat) (x : SD), j ≠ i → get (put ds i x) j = get ds j
  | [], _, _, _, _ => rfl
  | _ :: _, 0, 0, _, h => (h rfl).elim
  | _ :: _, 0, _ + 1, _, _ => rfl
  | _ :: _, _ + 1, 0, _, _ => rfl
  | _ :: ds, i + 1, j + 1, x, h => get_put_ne ds i j x (fun e => h (congrArg Nat.succ e))
theorem put_out : ∀ (ds : Env) (i : Nat) (x : SD), ds.length ≤ i → put ds i x = ds
  | [], _, _, _ => rfl
  | _ :: _, 0, _, h => by simp at h
  | d :: ds, i + 1, x, h => congrArg (d :: ·) (put_out ds i x (by simpa using h))
end Env
def SlotOk (K : PySem.W.Frag) (H0 S H : Hp) (d : SD) (s : Option (Option V)) (fp : List Addr) : Prop := match d with
  | .none => fp = []
  | .st _ c a => fp = [] ∧ ∃ v, s = some (some v) ∧ c.rep K S v a
  | .ow _ o a => (∃ v, s = some (some v) ∧ o.rep K S H v a fp) ∧ ∀ p ∈ fp, H0 p = none
structure EnvOk (K : PySem.W.Frag) (S0 H0 : Hp) (ds : Env) (σ : L2.St) (S H : Hp) : Prop where
  len : ds.length = σ.length
  own : ∃ fp : Nat → List Addr, (∀ i, SlotOk K H0 S H (ds.get i) σ[i]? (fp i)) ∧ ∀ i j p, p ∈ fp i → p ∈ fp j → i = j
  grow : Grow S0 H0 S H
section
variable {K : PySem.W.Frag} {S0 H0 S H S' H' : Hp} {ds : Env} {σ : L2.St}
theorem EnvOk.inn (e : EnvOk K S0 H0 ds σ S H) : Same S H := e.grow.inn
theorem SlotOk.dom {d : SD} {s : Option (Option V)} {fp : List Addr} (h : SlotOk K H0 S H d s fp) : ∀ p ∈ fp, S p = none ∧ ∃ xs, H p = some xs := by
  cases d with
  | none =>
    have e : fp = [] := h
    subst e
    exact fun p hp => by simp at hp
  | st α c a =>
    obtain ⟨e, _⟩ := h
    subst e
    exact fun p hp => by simp at hp
  | ow α o a =>
    obtain ⟨⟨v, _, h2⟩, _⟩ := h
    exact o.dom h2
theorem SlotOk.stay {d : SD} {s : Option (Option V)} {fp : List Addr} (h : SlotOk K H0 S H d s fp) (e : Same S S') (k : ∀ p ∈ fp, S' p = none ∧ H' p = H p) : SlotOk K H0 S' H' d s fp := by
  cases d with
  | none => exact h
  | st α c a =>
    obtain ⟨h0, v, h1, h2⟩ := h
    exact ⟨h0, v, h1, c.mono e h2⟩
  | ow α o a =>
    obtain ⟨⟨v, h1, h2⟩, h3⟩ := h
    exact ⟨⟨v, h1, o.stay e k h2⟩, h3⟩
theorem SlotOk.grow {d : SD} {s : Option (Option V)} {fp : List Addr} (h : SlotOk K H0 S H d s fp) (g : Grow S H S' H') : SlotOk K H0 S' H' d s fp := by
  refine h.stay g.st fun p hp => ?_
  obtain ⟨h1, xs, h2⟩ := h.dom p hp
  exact ⟨g.none h2 h1, (g.ex _ _ h2).trans h2.symm⟩
theorem EnvOk.step (e : EnvOk K S0 H0 ds σ S H) (g : Grow S H S' H') : EnvOk K S0 H0 ds σ S' H' := by
  obtain ⟨fp, h1, h2⟩ := e.own
  exact ⟨e.len, ⟨fp, fun i => (h1 i).grow g, h2⟩, e.grow.trans g⟩
theorem EnvOk.var (e : EnvOk K S0 H0 ds σ S H) {i : Nat} {α : Type} {c : Cd α} {a : α} (h : ds.get i = .st α c a) : ∃ v, σ[i]? = some (some v) ∧ c.rep K S v a := by
  obtain ⟨fp, h1, h2⟩ := e.own
  have q := h1 i
  rw [h] at q
  exact q.2
theorem EnvOk.owv (e : EnvOk K S0 H0 ds σ S H) {i : Nat} {α : Type} {o : OC α} {a : α} (h : ds.get i = .ow α o a) :
    ∃ v fp, σ[i]? = some (some v) ∧ o.rep K S H v a fp ∧ ∀ p ∈ fp, H0 p = none := by
  obtain ⟨fp, h1, h2⟩ := e.own
  have q := h1 i
  rw [h] at q
  obtain ⟨⟨v, q1, q2⟩, q3⟩ := q
  exact ⟨v, fp i, q1, q2, q3⟩
theorem EnvOk.muv (e : EnvOk K S0 H0 ds σ S H) {i : Nat} {α : Type} {c : Cd α} {as : List α} (h : ds.get i = .mu α c as) :
    ∃ p vs, σ[i]? = some (some (.ref p)) ∧ H0 p = none ∧ S p = none ∧ H p = some (.lst vs) ∧ Reps c K S vs as := by
  obtain ⟨v, fp, h1, ⟨p, vs, e1, e2, e3, e4, e5⟩, h3⟩ := e.owv h
  subst e1 e2
  exact ⟨p, vs, h1, h3 p (List.mem_singleton.mpr rfl), e3, e4, e5⟩
theorem get_set_self {σ : L2.St} {i : Nat} {x : Option V} (h : i < σ.length) : (σ.set i x)[i]? = some x := List.getElem?_set_self h
theorem Env.get_out : ∀ (ds : Env) (i : Nat), ds.length ≤ i → ds.get i = .none
  | [], _, _ => rfl
  | _ :: _, 0, h => absurd h (by simp)
  | _ :: ds, i + 1, h => Env.get_out ds i (by simpa using h)
/-- a slot and the heap change -/
theorem EnvOk.chg (e : EnvOk K S0 H0 ds σ S H) (g : Grow S0 H0 S' H') (hs : Same S S') {i : Nat} {x : Option V} {d : SD}
    (k : ∀ f, SlotOk K H0 S H (ds.get i) σ[i]? f → (∀ p, p ∈ f → S p = none ∧ ∃ xs, H p = some xs) → ∃ f', (i < ds.length → SlotOk K H0 S' H' d (some x) f') ∧ (∀ p, H p ≠ none → p ∉ f → (S p = none → S' p = none) ∧ H' p = H p) ∧ ∀ p ∈ f', p ∈ f ∨ H p = none) :
    EnvOk K S0 H0 (ds.put i d) (σ.set i x) S' H' := by
  obtain ⟨fp, h1, h2⟩ := e.own
  obtain ⟨f', k1, k2, k3⟩ := k (fp i) (h1 i) (h1 i).dom
  have st : ∀ j, j ≠ i → SlotOk K H0 S' H' (ds.get j) σ[j]? (fp j) := fun j hj => (h1 j).stay hs fun p hp => by
    obtain ⟨q1, xs, q2⟩ := (h1 j).dom p hp
    obtain ⟨q3, q4⟩ := k2 p (by rw [q2]; exact fun z => nomatch z) (fun z => hj (h2 j i p hp z))
    exact ⟨q3 q1, q4⟩
  by_cases hi : i < ds.length
  · have hss : i < σ.length := by rw [← e.len]; exact hi
    refine ⟨by rw [Env.put_length, List.length_set, e.len], ⟨fun j => if j = i then f' else fp j, fun j => ?_, fun j l p hj hl => ?_⟩, g⟩
    · by_cases z : j = i
      · subst z
        rw [Env.get_put_same _ _ _ hi, get_set_self hss]
        show SlotOk K H0 S' H' d (some x) (if j = j then f' else fp j)
        rw [if_pos rfl]
        exact k1 hi
      · rw [Env.get_put_ne _ _ _ _ z, List.getElem?_set_ne (Ne.symm z)]
        show SlotOk K H0 S' H' (ds.get j) σ[j]? (if j = i then f' else fp j)
        rw [if_neg z]
        exact st j z
    · have hj : p ∈ (if j = i then f' else fp j) := hj
      have hl : p ∈ (if l = i then f' else fp l) := hl
      have fr : ∀ q, q ≠ i → p ∈ f' → p ∈ fp q → False := fun q hq a1 a2 => by
        rcases k3 p a1 with z | z
        · exact hq (h2 q i p a2 z)
        · obtain ⟨_, xs, z2⟩ := (h1 q).dom p a2
          rw [z] at z2
          cases z2
      by_cases zj : j = i
      · by_cases zl : l = i
        · rw [zj, zl]
        · rw [if_pos zj] at hj
          rw [if_neg zl] at hl
          exact (fr l zl hj hl).elim
      · by_cases zl : l = i
        · rw [if_neg zj] at hj
          rw [if_pos zl] at hl
          exact (fr j zj hl hj).elim
        · rw [if_neg zj] at hj
          rw [if_neg zl] at hl
          exact h2 j l p hj hl
  · have g1 : ds.length ≤ i := Nat.le_of_not_lt hi
    have g2 : σ.length ≤ i := by rw [← e.len]; exact g1
    rw [Env.put_out _ _ _ g1, List.set_eq_of_length_le g2]
    refine ⟨e.len, ⟨fp, fun j => ?_, h2⟩, g⟩
    by_cases z : j = i
    · subst z
      have q := h1 j
      rw [Env.get_out ds j g1] at q ⊢
      exact q
    · exact st j z
/-- a slot is stored -/
theorem EnvOk.putS (e : EnvOk K S0 H0 ds σ S H) {i : Nat} {v : V} {α : Type} {c : Cd α} {a : α} (h : c.rep K S v a) : EnvOk K S0 H0 (ds.put i (.st α c a)) (σ.set i (some v)) S H :=
  e.chg e.grow (.refl _) fun f hf hd => ⟨[], fun _ => ⟨rfl, v, rfl, h⟩, fun p _ _ => ⟨id, rfl⟩, fun p hp => by simp at hp⟩
theorem EnvOk.putN (e : EnvOk K S0 H0 ds σ S H) {i : Nat} {x : Option V} : EnvOk K S0 H0 (ds.put i .none) (σ.set i x) S H :=
  e.chg e.grow (.refl _) fun f hf hd => ⟨[], fun _ => rfl, fun p _ _ => ⟨id, rfl⟩, fun p hp => by simp at hp⟩
/-- what no slot holds yet -/
theorem EnvOk.putO (e : EnvOk K S0 H0 ds σ S H) (g : Grow S H S' H') {i : Nat} {v : V} {α : Type} {o : OC α} {a : α} {fp : List Addr} (r : o.rep K S' H' v a fp) (hn : ∀ p ∈ fp, H p = none) :
    EnvOk K S0 H0 (ds.put i (.ow α o a)) (σ.set i (some v)) S' H' :=
  e.chg (e.grow.trans g) g.st fun f hf hd => ⟨fp, fun _ => ⟨⟨v, rfl, r⟩, fun p hp => e.grow.ex.free (hn p hp)⟩, fun p q _ => by
    cases z : H p with
    | none => exact (q z).elim
    | some u => exact ⟨fun s => g.none z s, g.ex _ _ z⟩, fun p hp => .inr (hn p hp)⟩
theorem EnvOk.putM (e : EnvOk K S0 H0 ds σ S H) (g : Grow S H S' H') {i : Nat} {p : Addr} {vs : List V} {α : Type} {c : Cd α} {as : List α} (hn : H p = none) (hs : S' p = none) (hp : H' p = some (.lst vs)) (r : Reps c K S' vs as) :
    EnvOk K S0 H0 (ds.put i (.mu α c as)) (σ.set i (some (.ref p))) S' H' :=
  e.putO g (fp := [p]) ⟨p, vs, rfl, rfl, hs, hp, r⟩ fun q hq => by rw [List.mem_singleton.mp hq]; exact hn
/-- what a slot holds changes -/
theorem EnvOk.mut (e : EnvOk K S0 H0 ds σ S H) (g : Grow S H S' H') {H2 : Hp} {i : Nat} {α β : Type} {o : OC α} {o' : OC β} {a : α} {b : β} (h : ds.get i = .ow α o a)
    (k : ∀ v fp, σ[i]? = some (some v) → o.rep K S' H' v a fp → (∀ p ∈ fp, ∃ xs, H p = some xs) → ∃ fp', o'.rep K S' H2 v b fp' ∧ (∀ p, p ∉ fp → H2 p = H' p ∨ H p = none ∧ S' p = none) ∧ ∀ p ∈ fp', p ∈ fp ∨ H p = none) : EnvOk K S0 H0 (ds.put i (.ow β o' b)) σ S' H2 := by
  obtain ⟨v, fp, h1, h2, h3⟩ := e.owv h
  have h2' : o.rep K S' H' v a fp := o.stay g.st (fun p hp => by
    obtain ⟨z1, xs, z2⟩ := o.dom h2 p hp
    exact ⟨g.none z2 z1, (g.ex _ _ z2).trans z2.symm⟩) h2
  have dm : ∀ p ∈ fp, ∃ xs, H p = some xs := fun p hp => (o.dom h2 p hp).2
  obtain ⟨fp', k1, k2, k3⟩ := k v fp h1 h2' dm
  have eσ : σ.set i (some v) = σ := by
    apply List.ext_getElem?
    intro j
    by_cases z : j = i
    · subst z
      rw [get_set_self (List.getElem?_eq_some_iff.mp h1).1, h1]
    · rw [List.getElem?_set_ne (Ne.symm z)]
  have gg := e.grow.trans g
  have hS : ∀ p u, S' p = some u → H2 p = H' p := fun p u hu => by
    have np : p ∉ fp := fun z => by
      obtain ⟨z1, xs, z2⟩ := o.dom h2 p z
      rw [g.none z2 z1] at hu
      cases hu
    rcases k2 p np with z | z
    · exact z
    · rw [z.2] at hu; cases hu
  have res := e.chg (S' := S') (H' := H2) (i := i) (x := some v) (d := .ow β o' b) ⟨fun p u hu => ?_, gg.st, fun p u hu => (hS p u hu).trans (gg.inn p u hu), gg.new⟩ g.st (fun f hf hd => ?_)
  · rw [eσ] at res
    exact res
  · have np : p ∉ fp := fun z => by
      rw [h3 p z] at hu
      cases hu
    rcases k2 p np with z | z
    · exact z.trans (gg.ex p u hu)
    · rw [e.grow.ex p u hu] at z
      cases z.1
  · rw [h] at hf
    obtain ⟨⟨v', e1, e2⟩, e3⟩ := hf
    rw [h1] at e1
    cases e1
    have e2' : o.rep K S' H' v a f := o.stay g.st (fun p hp => by
      obtain ⟨z1, xs, z2⟩ := o.dom e2 p hp
      exact ⟨g.none z2 z1, (g.ex _ _ z2).trans z2.symm⟩) e2
    obtain ⟨f', q1, q2, q3⟩ := k v f h1 e2' (fun p hp => (o.dom e2 p hp).2)
    refine ⟨f', fun _ => ⟨⟨v, rfl, q1⟩, fun p hp => ?_⟩, fun p z1 z2 => ?_, q3⟩
    · rcases q3 p hp with z | z
      · exact e3 p z
      · exact e.grow.ex.free z
    · cases z : H p with
      | none => exact (z1 z).elim
      | some u =>
        refine ⟨fun s => g.none z s, ?_⟩
        rcases q2 p z2 with y | y
        · exact y.trans (g.ex p u z)
        · rw [z] at y
          cases y.1
/-- a slot's list changes -/
theorem EnvOk.mutate (e : EnvOk K S0 H0 ds σ S H) {i : Nat} {p : Addr} {vs : List V} {α β : Type} {c : Cd α} {c' : Cd β} {as : List α} {bs : List β} (h : ds.get i = .mu α c as) (hp : σ[i]? = some (some (.ref p))) (r : Reps c' K S vs bs) :
    EnvOk K S0 H0 (ds.put i (.mu β c' bs)) σ S (upd H p (.lst vs)) :=
  e.mut (.refl e.inn) h fun v fp h1 ⟨q, ws, e1, e2, e3, e4, e5⟩ _ => by
    rw [hp] at h1
    cases h1
    cases e1
    subst e2
    exact ⟨[p], ⟨p, vs, rfl, rfl, e3, upd_same, r⟩, fun q hq => .inl (upd_ne fun z => hq (List.mem_singleton.mpr z)), fun q hq => .inl hq⟩
/-- what a slot holds settles -/
theorem EnvOk.freezeO (e : EnvOk K S0 H0 ds σ S H) {i : Nat} {α : Type} {o : OC α} {a : α} (h : ds.get i = .ow α o a) : ∃ S', Same S S' ∧ EnvOk K S0 H0 (ds.put i (.st α o.c a)) σ S' H := by
  obtain ⟨fp, h1, h2⟩ := e.own
  have hf := h1 i
  rw [h] at hf
  obtain ⟨⟨v, e1, e2⟩, e3⟩ := hf
  have d := o.dom e2
  let S' : Hp := fun p => if p ∈ fp i then H p else S p
  have s1 : ∀ p, p ∈ fp i → S' p = H p := fun p hp => if_pos hp
  have s2 : ∀ p, p ∉ fp i → S' p = S p := fun p hp => if_neg hp
  have hS : Same S S' := fun p u hu => by
    by_cases z : p ∈ fp i
    · rw [(d p z).1] at hu
      cases hu
    · rw [s2 p z]; exact hu
  refine ⟨S', hS, ?_⟩
  have hi : i < ds.length := by
    rw [e.len]
    exact (List.getElem?_eq_some_iff.mp e1).1
  refine ⟨by rw [Env.put_length, e.len], ⟨fun j => if j = i then [] else fp j, fun j => ?_, fun j l p hj hl => ?_⟩, ⟨e.grow.ex, e.grow.st.trans hS, fun p u hu => ?_, fun p n0 n1 => ?_⟩⟩
  · by_cases z : j = i
    · subst z
      rw [Env.get_put_same _ _ _ hi]
      show SlotOk K H0 S' H (.st α o.c a) σ[j]? (if j = j then [] else fp j)
      rw [if_pos rfl]
      exact ⟨rfl, v, e1, o.set hS s1 e2⟩
    · rw [Env.get_put_ne _ _ _ _ z]
      show SlotOk K H0 S' H (ds.get j) σ[j]? (if j = i then [] else fp j)
      rw [if_neg z]
      refine (h1 j).stay hS fun p hp => ⟨?_, rfl⟩
      rw [s2 p fun y => z (h2 j i p hp y)]
      exact ((h1 j).dom p hp).1
  · have hj : p ∈ (if j = i then [] else fp j) := hj
    have hl : p ∈ (if l = i then [] else fp l) := hl
    by_cases zj : j = i
    · rw [if_pos zj] at hj
      simp at hj
    · by_cases zl : l = i
      · rw [if_pos zl] at hl
        simp at hl
      · rw [if_neg zj] at hj
        rw [if_neg zl] at hl
        exact h2 j l p hj hl
  · by_cases z : p ∈ fp i
    · rw [s1 p z] at hu
      exact hu
    · rw [s2 p z] at hu
      exact e.grow.inn p u hu
  · by_cases z : p ∈ fp i
    · exact e3 p z
    · rw [s2 p z] at n1
      exact e.grow.new p n0 n1
theorem EnvOk.freeze (e : EnvOk K S0 H0 ds σ S H) {i : Nat} {α : Type} {c : Cd α} {as : List α} (h : ds.get i = .mu α c as) : ∃ S', Same S S' ∧ EnvOk K S0 H0 (ds.put i (.st (List α) (cL c) as)) σ S' H := e.freezeO h
/-- forgetting -/
def EnvLe : Env → Env → Prop
  | [], [] => True
  | a :: as, b :: bs => (b = .none ∨ a = b) ∧ EnvLe as bs
  | _, _ => False
theorem EnvLe.length : ∀ {as bs : Env}, EnvLe as bs → as.length = bs.length
  | [], [], _ => rfl
  | _ :: _, _ :: _, h => congrArg Nat.succ (EnvLe.length h.2)
  | [], _ :: _, h => h.elim
  | _ :: _, [], h => h.elim
theorem EnvLe.get : ∀ {as bs : Env} (i : Nat), EnvLe as bs → bs.get i = .none ∨ as.get i = bs.get i
  | [], [], _, _ => .inl rfl
  | _ :: _, _ :: _, 0, h => h.1
  | _ :: as, _ :: bs, i + 1, h => EnvLe.get (as := as) (bs := bs) i h.2
  | [], _ :: _, _, h => h.elim
  | _ :: _, [], _, h => h.elim
theorem EnvOk.le {ds' : Env} (e : EnvOk K S0 H0 ds σ S H) (l : EnvLe ds ds') : EnvOk K S0 H0 ds' σ S H := by
  obtain ⟨fp, h1, h2⟩ := e.own
  have key : ∀ i, ∃ f, SlotOk K H0 S H (ds'.get i) σ[i]? f ∧ ∀ p ∈ f, p ∈ fp i := fun i => by
    rcases l.get i with q | q
    · rw [q]; exact ⟨[], rfl, fun p hp => by simp at hp⟩
    · rw [← q]; exact ⟨fp i, h1 i, fun _ hp => hp⟩
  refine ⟨l.length.symm.trans e.len, ⟨fun i => (key i).choose, fun i => (key i).choose_spec.1, fun i j p hi hj => h2 i j p ((key i).choose_spec.2 p hi) ((key j).choose_spec.2 p hj)⟩, e.grow⟩
theorem EnvLe.refl : ∀ (as : Env), EnvLe as as
  | [] => trivial
  | _ :: as => ⟨.inr rfl, EnvLe.refl as⟩
/-- the slots at a def's entry -/
theorem EnvV.length : ∀ {ds : Env} {vs : List V}, EnvV K H ds vs → ds.length = vs.length
  | [], [], _ => rfl
  | _ :: _, _ :: _, h => congrArg Nat.succ (EnvV.length h.2)
  | [], _ :: _, h => h.elim
  | _ :: _, [], h => h.elim
theorem EnvV.slot {n : Nat} : ∀ {ds : Env} {vs : List V} (i : Nat), EnvV K S ds vs → SlotOk K H0 S H ((ds ++ List.replicate n SD.none).get i) (vs.map some ++ List.replicate n none)[i]? []
  | [], [], i, _ => by
    have e : Env.get (List.replicate n SD.none) i = .none := by
      induction n generalizing i with
      | zero => rfl
      | succ n ih => cases i with
        | zero => rfl
        | succ i => exact ih i
    rw [List.nil_append, e]
    exact rfl
  | _ :: _, v :: _, 0, h => by
    obtain ⟨⟨α, c, a, e, r⟩, _⟩ := h
    subst e
    exact ⟨rfl, v, rfl, r⟩
  | _ :: ds, _ :: vs, i + 1, h => EnvV.slot (ds := ds) (vs := vs) i h.2
  | [], _ :: _, _, h => h.elim
  | _ :: _, [], _, h => h.elim
theorem EnvOk.start {N : List Str} {vs : List V} (h : EnvV K S ds vs) (hl : vs.length ≤ N.length) (i : Same S H) : EnvOk K S H (ds ++ List.replicate (N.length - vs.length) .none) (L2.start N vs) S H := by
  refine ⟨?_, ⟨fun _ => [], fun i => EnvV.slot i h, fun i j p hi => by simp at hi⟩, .refl i⟩
  unfold L2.start
  rw [List.length_append, List.length_append, List.length_map, List.length_replicate, List.length_replicate, h.length]
end
end Zk
set_option maxHeartbeats 4000000
/-! # Zk: expressions -/
namespace Zk
open PySem PySem.Spec PyProof.Rows L2
abbrev WK : Type := L2.St → XK
/-- what leaves does not ask for the slots -/
class KW (W : WK) : Prop where
  ex : ∃ E : XK, W = fun _ => E
instance {E : XK} : KW (fun _ => E) := ⟨E, rfl⟩
/-! ### what follows a value -/
def PX {α : Type} (c : Cd α) (K : PySem.W.Frag) (S H : Hp) (m : R α) (Q : VK) (W : XK) : Prop :=
  m.post (fun a => ∀ v S' H', Grow S H S' H' → c.rep K S' v a → Q v H') (fun x => ∀ cl d S' H', Grow S H S' H' → repX K S' cl d x → W cl d H')
def PB (K : PySem.W.Frag) (S H : Hp) (m : R Bool) (Q : Bool → Hp → Prop) (W : XK) : Prop :=
  m.post (fun b => ∀ S' H', Grow S H S' H' → Q b H') (fun x => ∀ cl d S' H', Grow S H S' H' → repX K S' cl d x → W cl d H')
def PAx {τ : Type} (c : CA τ) (K : PySem.W.Frag) (S H : Hp) (m : R τ) (Q : List V → Hp → Prop) (W : XK) : Prop :=
  m.post (fun a => ∀ vs S' H', Grow S H S' H' → c.rep K S' vs a → Q vs H') (fun x => ∀ cl d S' H', Grow S H S' H' → repX K S' cl d x → W cl d H')
section
variable {α β τ : Type} {c : Cd α} {c2 : Cd β} {ca : CA τ} {K : PySem.W.Frag} {S H S1 H1 : Hp} {W : XK}
theorem PX.grow {m : R α} {Q : VK} (g : Grow S H S1 H1) (h : PX c K S H m Q W) : PX c K S1 H1 m Q W :=
  R.post_mono h (fun _ q v S' H' g' r => q v S' H' (g.trans g') r) (fun _ q cl d S' H' g' r => q cl d S' H' (g.trans g') r)
theorem PX.bind {m : R α} {f : α → R β} {Q Q1 : VK} (h : PX c2 K S H (m >>= f) Q W) (k : ∀ a v S1 H1, Grow S H S1 H1 → c.rep K S1 v a → PX c2 K S1 H1 (f a) Q W → Q1 v H1) : PX c K S H m Q1 W :=
  R.post_mono (R.post_bind.mp h) (fun a q v S1 H1 g r => k a v S1 H1 g r (PX.grow g q)) (fun _ q => q)
theorem PX.bindB {m : R Bool} {f : Bool → R β} {Q : VK} {Q1 : Bool → Hp → Prop} (h : PX c2 K S H (m >>= f) Q W) (k : ∀ a S1 H1, Grow S H S1 H1 → PX c2 K S1 H1 (f a) Q W → Q1 a H1) : PB K S H m Q1 W :=
  R.post_mono (R.post_bind.mp h) (fun a q S1 H1 g => k a S1 H1 g (PX.grow g q)) (fun _ q => q)
theorem PX.bindA {m : R τ} {f : τ → R β} {Q : VK} {Q1 : List V → Hp → Prop} (h : PX c2 K S H (m >>= f) Q W) (k : ∀ a vs S1 H1, Grow S H S1 H1 → ca.rep K S1 vs a → PX c2 K S1 H1 (f a) Q W → Q1 vs H1) : PAx ca K S H m Q1 W :=
  R.post_mono (R.post_bind.mp h) (fun a q vs S1 H1 g r => k a vs S1 H1 g r (PX.grow g q)) (fun _ q => q)
theorem PB.grow {m : R Bool} {Q : Bool → Hp → Prop} (g : Grow S H S1 H1) (h : PB K S H m Q W) : PB K S1 H1 m Q W :=
  R.post_mono h (fun _ q S' H' g' => q S' H' (g.trans g')) (fun _ q cl d S' H' g' r => q cl d S' H' (g.trans g') r)
theorem PB.bind {m : R α} {f : α → R Bool} {Q : Bool → Hp → Prop} {Q1 : VK} (h : PB K S H (m >>= f) Q W) (k : ∀ a v S1 H1, Grow S H S1 H1 → c.rep K S1 v a → PB K S1 H1 (f a) Q W → Q1 v H1) : PX c K S H m Q1 W :=
  R.post_mono (R.post_bind.mp h) (fun a q v S1 H1 g r => k a v S1 H1 g r (PB.grow g q)) (fun _ q => q)
theorem PB.bindB {m : R Bool} {f : Bool → R Bool} {Q Q1 : Bool → Hp → Prop} (h : PB K S H (m >>= f) Q W) (k : ∀ a S1 H1, Grow S H S1 H1 → PB K S1 H1 (f a) Q W → Q1 a H1) : PB K S H m Q1 W :=
  R.post_mono (R.post_bind.mp h) (fun a q S1 H1 g => k a S1 H1 g (PB.grow g q)) (fun _ q => q)
theorem PAx.grow {m : R τ} {Q : List V → Hp → Prop} (g : Grow S H S1 H1) (h : PAx ca K S H m Q W) : PAx ca K S1 H1 m Q W :=
  R.post_mono h (fun _ q v S' H' g' r => q v S' H' (g.trans g') r) (fun _ q cl d S' H' g' r => q cl d S' H' (g.trans g') r)
theorem PAx.bind {m : R α} {f : α → R τ} {Q : List V → Hp → Prop} {Q1 : VK} (h : PAx ca K S H (m >>= f) Q W) (k : ∀ a v S1 H1, Grow S H S1 H1 → c.rep K S1 v a → PAx ca K S1 H1 (f a) Q W → Q1 v H1) : PX c K S H m Q1 W :=
  R.post_mono (R.post_bind.mp h) (fun a q v S1 H1 g r => k a v S1 H1 g r (PAx.grow g q)) (fun _ q => q)
theorem PAx.bindA {τ' : Type} {ca' : CA τ'} {m : R τ'} {f : τ' → R τ} {Q : List V → Hp → Prop} {Q1 : List V → Hp → Prop} (h : PAx ca K S H (m >>= f) Q W) (k : ∀ a vs S1 H1, Grow S H S1 H1 → ca'.rep K S1 vs a → PAx ca K S1 H1 (f a) Q W → Q1 vs H1) : PAx ca' K S H m Q1 W :=
  R.post_mono (R.post_bind.mp h) (fun a q vs S1 H1 g r => k a vs S1 H1 g r (PAx.grow g q)) (fun _ q => q)
theorem PX.ok {a : α} {Q : VK} {v : V} (h : PX c K S H (.ok a) Q W) (i : Same S H) (r : c.rep K S v a) : Q v H := h v S H (.refl i) r
theorem PB.ok {b : Bool} {Q : Bool → Hp → Prop} (h : PB K S H (.ok b) Q W) (i : Same S H) : Q b H := h S H (.refl i)
theorem PAx.ok {a : τ} {Q : List V → Hp → Prop} {vs : List V} (h : PAx ca K S H (.ok a) Q W) (i : Same S H) (r : ca.rep K S vs a) : Q vs H := h vs S H (.refl i) r
end
/-! ### the judgements -/
def DE (X : Cx) (W : WK) (ds : Env) (e : Expr) {α : Type} (c : Cd α) (m : R α) : Prop :=
  ∃ t : TE, PE X e t ∧ ∀ S0 H0 σ S H Q, EnvOk X.K S0 H0 ds σ S H → PX c X.K S H m Q (W σ) → t σ H Q
def DT (X : Cx) (W : WK) (ds : Env) (e : Expr) (m : R Bool) : Prop :=
  ∃ t : TT, PT X e t ∧ ∀ S0 H0 σ S H Q, EnvOk X.K S0 H0 ds σ S H → PB X.K S H m Q (W σ) → t σ H Q
/-- a test within and, or -/
def DW (X : Cx) (W : WK) (ds : Env) (e : Expr) (m : R Bool) : Prop :=
  ∃ t : TT, PW X e t ∧ ∀ S0 H0 σ S H Q, EnvOk X.K S0 H0 ds σ S H → PB X.K S H m Q (W σ) → t σ H Q
def DA (X : Cx) (W : WK) (ds : Env) (es : List Expr) {τ : Type} (c : CA τ) (m : R τ) : Prop :=
  ∃ t : TA, PA X es t ∧ ∀ S0 H0 σ S H Q, EnvOk X.K S0 H0 ds σ S H → PAx c X.K S H m Q (W σ) → t σ H Q
section
variable {X : Cx} {W : WK} {ds : Env} {α β γ τ : Type} {a b : Expr} {es : List Expr} {pos : Pos}
/-! ### names, constants -/
theorem var (i : Nat) {c : Cd α} {x : Str} {z : α} (h : ds.get i = .st α c z := by rfl) (hN : X.N[i]? = some x := by rfl) (hv : Vis X.env.scope x := by first | exact Or.inl rfl | exact Or.inr (Or.inl rfl) | exact Or.inr (Or.inr rfl))
    (hd : (x == ("__debug__" : Str)) = false := by decide) (hcd : (x == ("__classdict__" : Str)) = false := by decide) : DE X W ds (.Name x pos) c (.ok z) :=
  ⟨tVar i, pe_var hN hv hd hcd, fun S0 H0 σ S H Q E P => by
    obtain ⟨v, h1, h2⟩ := E.var h
    exact ⟨v, h1, P.ok E.inn h2⟩⟩
theorem int {i : Int} {j : Nat} : DE X W ds (.Constant (.int i) j pos) cI (.ok i) := ⟨_, pe_int, fun _ _ _ _ _ _ E P => P.ok E.inn rfl⟩
theorem bool {i : Bool} {j : Nat} : DE X W ds (.Constant (.bool i) j pos) cB (.ok i) := ⟨_, pe_bl, fun _ _ _ _ _ _ E P => P.ok E.inn rfl⟩
theorem non {j : Nat} : DE X W ds (.Constant .none j pos) cN (.ok ()) := ⟨_, pe_non, fun _ _ _ _ _ _ E P => P.ok E.inn rfl⟩
theorem str {x : Str} {j : Nat} : DE X W ds (.Constant (.str x) j pos) cS (.ok x) := ⟨_, pe_str, fun _ _ _ _ _ _ E P => P.ok E.inn rfl⟩
/-- another reading of the same value -/
def Coe (c : Cd α) (c2 : Cd β) (f : α → β) : Prop := ∀ K H v a, c.rep K H v a → c2.rep K H v (f a)
theorem coe {c : Cd α} {c2 : Cd β} {f : α → β} {m : R α} (h : Coe c c2 f) (ha : DE X W ds a c m) : DE X W ds a c2 (m >>= fun x => .ok (f x)) := by
  obtain ⟨t, p, q⟩ := ha
  refine ⟨t, p, fun S0 H0 σ S H Q E P => q S0 H0 σ S H Q E (P.bind fun x v S1 H1 g r P1 => P1.ok g.inn (h _ _ _ _ r))⟩
/-! ### two operands -/
def BinSem (K : PySem.W.Frag) (W : XK) (r : R2) (c1 : Cd α) (c2 : Cd β) (c3 : Cd γ) (g : α → β → R γ) : Prop :=
  ∀ x y v u S H Q, Same S H → c1.rep K S v x → c2.rep K S u y → PX c3 K S H (g x y) Q W → r v u H Q
variable {c1 : Cd α} {c2 : Cd β} {c3 : Cd γ} {g : α → β → R γ} {m1 : R α} {m2 : R β} {r : R2} {x : α} {y : β}
theorem tOp_sem {ta tb : TE} (hs : ∀ {W : XK}, BinSem X.K W r c1 c2 c3 g) (qa : ∀ S0 H0 σ S H Q, EnvOk X.K S0 H0 ds σ S H → PX c1 X.K S H m1 Q (W σ) → ta σ H Q) (qb : ∀ S0 H0 σ S H Q, EnvOk X.K S0 H0 ds σ S H → PX c2 X.K S H m2 Q (W σ) → tb σ H Q) :
    ∀ S0 H0 σ S H Q, EnvOk X.K S0 H0 ds σ S H → PX c3 X.K S H (m1 >>= fun x => m2 >>= fun y => g x y) Q (W σ) → tOp r ta tb σ H Q := fun S0 H0 σ S H Q E P =>
  qa S0 H0 σ S H _ E (P.bind fun x v S1 H1 g1 r1 P1 => qb S0 H0 σ S1 H1 _ (E.step g1) (P1.bind fun y u S2 H2 g2 r2 P2 => hs x y v u S2 H2 Q g2.inn (c1.mono g2.st r1) r2 P2))
theorem bin {op : Operator} (ho : OpR X (binaryOp op) r) (hs : ∀ {W : XK}, BinSem X.K W r c1 c2 c3 g) (ha : DE X W ds a c1 m1) (hb : DE X W ds b c2 m2) : DE X W ds (.BinOp a op b pos) c3 (m1 >>= fun x => m2 >>= fun y => g x y) := by
  obtain ⟨ta, pa, qa⟩ := ha
  obtain ⟨tb, pb, qb⟩ := hb
  exact ⟨tOp r ta tb, pe_op ho pa pb, tOp_sem hs qa qb⟩
theorem cmpV {op : CmpOp} (ho : OpR X (compareOp op) r) (hm : behindInMarks op b = false) (hs : ∀ {W : XK}, BinSem X.K W r c1 c2 c3 g) (ha : DE X W ds a c1 m1) (hb : DE X W ds b c2 m2) : DE X W ds (.Compare a [op] [b] pos) c3 (m1 >>= fun x => m2 >>= fun y => g x y) := by
  obtain ⟨ta, pa, qa⟩ := ha
  obtain ⟨tb, pb, qb⟩ := hb
  exact ⟨tOp r ta tb, pe_cmpR ho pa pb hm, tOp_sem hs qa qb⟩
theorem pb_of {W : XK} {m : R Bool} {K : PySem.W.Frag} {S H : Hp} {Q : Bool → Hp → Prop} (P : PB K S H m Q W) : PX cB K S H m (fun v H' => ∃ k, v = .bl k ∧ Q k H') W :=
  R.post_mono P (fun b q v S' H' gr e => ⟨b, e, q S' H' gr⟩) (fun _ q => q)
theorem cmpT {op : CmpOp} {g : α → β → R Bool} (ho : OpR X (compareOp op) r) (hm : behindInMarks op b = false) (hs : ∀ {W : XK}, BinSem X.K W r c1 c2 cB g) (ha : DE X W ds a c1 m1) (hb : DE X W ds b c2 m2) : DT X W ds (.Compare a [op] [b] pos) (m1 >>= fun x => m2 >>= fun y => g x y) := by
  obtain ⟨ta, pa, qa⟩ := ha
  obtain ⟨tb, pb, qb⟩ := hb
  exact ⟨_, pt_cmpR ho pa pb hm, fun S0 H0 σ S H Q E P => tOp_sem hs qa qb S0 H0 σ S H _ E (pb_of P)⟩
theorem ix {r : R2} (ho : IxR X r) (hp : PlainIx b) (hs : ∀ {W : XK}, BinSem X.K W r c1 c2 c3 g) (ha : DE X W ds a c1 m1) (hb : DE X W ds b c2 m2) : DE X W ds (.Subscript a b pos) c3 (m1 >>= fun x => m2 >>= fun y => g x y) := by
  obtain ⟨ta, pa, qa⟩ := ha
  obtain ⟨tb, pb, qb⟩ := hb
  exact ⟨tOp r ta tb, pe_ix ho pa pb hp, tOp_sem hs qa qb⟩
/-! ### numbers -/
def mulOk (x y : Int) : Bool := decide (x.natAbs.log2 + y.natAbs.log2 < 100000000)
def mulM (x y : Int) : R Int := R.guard (mulOk x y = true) (x * y)
def fdivM (x y : Int) : R Int := R.guard (y ≠ 0 ∧ Builtin.divisionGoesByPylong x y = false) (x.fdiv y)
def modM (x y : Int) : R Int := R.guard (y ≠ 0) (x.fmod y)
/-- a small base, or few bits in all -/
def powOk (x y : Int) : Prop := (0 ≤ y ∧ y ≤ 1000000 ∧ x.natAbs < 2 ^ 64) ∨ (0 ≤ y ∧ ((x.natAbs.log2 + 1 : Nat) : Int) * y ≤ 2 ^ 27)
instance {x y : Int} : Decidable (powOk x y) := by unfold powOk; infer_instance
def powM (x y : Int) : R Int := R.guard (powOk x y) (x ^ y.toNat)
theorem mulOk.ok {i j : Int} (h : mulOk i j = true) : IntMulOk i j := by
  have b : ∀ x : Int, Builtin.Int.intBits x ≤ x.natAbs.log2 + 1 := fun x => by
    unfold Builtin.Int.intBits
    split <;> omega
  have h1 := b i
  have h2 := b j
  have h3 : i.natAbs.log2 + j.natAbs.log2 < 100000000 := of_decide_eq_true h
  have e : bitsLine = 134217728 := by decide
  unfold IntMulOk
  intro z
  rw [Bool.and_eq_true] at z
  have z2 := z.2
  unfold Builtin.Int.intTooBig at z2
  have z3 := of_decide_eq_true z2
  rw [e] at z3
  omega
theorem op_mulZ : OpR X (binaryOp .Mult) (rI (fun i j => mulOk i j = true) fun i j => .int (i * j)) := opI fun _ _ _ _ _ _ _ hc q => mul_int q (mulOk.ok hc)
theorem op_fdivZ : OpR X (binaryOp .FloorDiv) (rI (fun i j => j ≠ 0 ∧ Builtin.divisionGoesByPylong i j = false) fun i j => .int (i.fdiv j)) := opI fun _ _ _ _ _ _ _ hc q => floordiv_int hc.1 q (.inl hc.2)
theorem op_powZ : OpR X (binaryOp .Pow) (rI powOk fun i j => .int (i ^ j.toNat)) := opI fun i j _ _ _ _ _ hc q => by
  rcases hc with h | h
  · exact pow_int_small h.1 h.2.1 h.2.2 q
  · refine pow_int h.1 ?_ q
    have b : Builtin.Int.intBits i ≤ i.natAbs.log2 + 1 := by
      unfold Builtin.Int.intBits
      split <;> omega
    have b2 : ((Builtin.Int.intBits i : Nat) : Int) * j ≤ ((i.natAbs.log2 + 1 : Nat) : Int) * j := Int.mul_le_mul_of_nonneg_right (by omega) h.1
    exact Int.le_trans b2 h.2
theorem sem_I0 {W : XK} {K : PySem.W.Frag} {f : Int → Int → Int} : BinSem K W (rI0 fun i j => .int (f i j)) cI cI cI (fun x y => .ok (f x y)) := fun x y v u S H Q i r1 r2 P => ⟨x, y, r1, r2, P.ok i rfl⟩
theorem sem_B0 {W : XK} {K : PySem.W.Frag} {f : Int → Int → Bool} : BinSem K W (rI0 fun i j => .bl (f i j)) cI cI cB (fun x y => .ok (f x y)) := fun x y v u S H Q i r1 r2 P => ⟨x, y, r1, r2, P.ok i rfl⟩
theorem PX.guard {W : XK} {p : Prop} [Decidable p] {z : γ} {K : PySem.W.Frag} {S H : Hp} {Q : VK} (P : PX c3 K S H (R.guard p z) Q W) : p ∧ PX c3 K S H (.ok z) Q W := by
  unfold R.guard at P
  split at P
  · exact ⟨by assumption, P⟩
  · exact False.elim P
theorem sem_I {W : XK} {K : PySem.W.Frag} {C : Int → Int → Prop} [h : ∀ i j, Decidable (C i j)] {f : Int → Int → Int} : BinSem K W (rI C fun i j => .int (f i j)) cI cI cI (fun x y => R.guard (C x y) (f x y)) := fun x y v u S H Q i r1 r2 P => by
  obtain ⟨h1, h2⟩ := P.guard
  exact ⟨x, y, r1, r2, h1, h2.ok i rfl⟩

theorem add_pp  {x : Int} {y : Int} (ha : DE X W ds a cI (.ok x)) (hb : DE X W ds b cI (.ok y)) : DE X W ds (.BinOp a .Add b pos) cI (.ok (x + y)) := bin op_add sem_I0 ha hb
theorem add_mp  {m1 : R Int} {y : Int} (ha : DE X W ds a cI m1) (hb : DE X W ds b cI (.ok y)) : DE X W ds (.BinOp a .Add b pos) cI (m1 >>= fun x => .ok (x + y)) := bin op_add sem_I0 ha hb
theorem add_pm  {x : Int} {m2 : R Int} (ha : DE X W ds a cI (.ok x)) (hb : DE X W ds b cI m2) : DE X W ds (.BinOp a .Add b pos) cI (m2 >>= fun y => .ok (x + y)) := bin op_add sem_I0 ha hb
theorem add_mm  {m1 : R Int} {m2 : R Int} (ha : DE X W ds a cI m1) (hb : DE X W ds b cI m2) : DE X W ds (.BinOp a .Add b pos) cI (m1 >>= fun x => m2 >>= fun y => .ok (x + y)) := bin op_add sem_I0 ha hb
theorem sub_pp  {x : Int} {y : Int} (ha : DE X W ds a cI (.ok x)) (hb : DE X W ds b cI (.ok y)) : DE X W ds (.BinOp a .Sub b pos) cI (.ok (x - y)) := bin op_sub sem_I0 ha hb
theorem sub_mp  {m1 : R Int} {y : Int} (ha : DE X W ds a cI m1) (hb : DE X W ds b cI (.ok y)) : DE X W ds (.BinOp a .Sub b pos) cI (m1 >>= fun x => .ok (x - y)) := bin op_sub sem_I0 ha hb
theorem sub_pm  {x : Int} {m2 : R Int} (ha : DE X W ds a cI (.ok x)) (hb : DE X W ds b cI m2) : DE X W ds (.BinOp a .Sub b pos) cI (m2 >>= fun y => .ok (x - y)) := bin op_sub sem_I0 ha hb
theorem sub_mm  {m1 : R Int} {m2 : R Int} (ha : DE X W ds a cI m1) (hb : DE X W ds b cI m2) : DE X W ds (.BinOp a .Sub b pos) cI (m1 >>= fun x => m2 >>= fun y => .ok (x - y)) := bin op_sub sem_I0 ha hb
theorem mul_pp  {x : Int} {y : Int} (ha : DE X W ds a cI (.ok x)) (hb : DE X W ds b cI (.ok y)) : DE X W ds (.BinOp a .Mult b pos) cI (mulM x y) := bin op_mulZ sem_I ha hb
theorem mul_mp  {m1 : R Int} {y : Int} (ha : DE X W ds a cI m1) (hb : DE X W ds b cI (.ok y)) : DE X W ds (.BinOp a .Mult b pos) cI (m1 >>= fun x => mulM x y) := bin op_mulZ sem_I ha hb
theorem mul_pm  {x : Int} {m2 : R Int} (ha : DE X W ds a cI (.ok x)) (hb : DE X W ds b cI m2) : DE X W ds (.BinOp a .Mult b pos) cI (m2 >>= fun y => mulM x y) := bin op_mulZ sem_I ha hb
theorem mul_mm  {m1 : R Int} {m2 : R Int} (ha : DE X W ds a cI m1) (hb : DE X W ds b cI m2) : DE X W ds (.BinOp a .Mult b pos) cI (m1 >>= fun x => m2 >>= fun y => mulM x y) := bin op_mulZ sem_I ha hb
theorem fdiv_pp  {x : Int} {y : Int} (ha : DE X W ds a cI (.ok x)) (hb : DE X W ds b cI (.ok y)) : DE X W ds (.BinOp a .FloorDiv b pos) cI (fdivM x y) := bin op_fdivZ sem_I ha hb
theorem fdiv_mp  {m1 : R Int} {y : Int} (ha : DE X W ds a cI m1) (hb : DE X W ds b cI (.ok y)) : DE X W ds (.BinOp a .FloorDiv b pos) cI (m1 >>= fun x => fdivM x y) := bin op_fdivZ sem_I ha hb
theorem fdiv_pm  {x : Int} {m2 : R Int} (ha : DE X W ds a cI (.ok x)) (hb : DE X W ds b cI m2) : DE X W ds (.BinOp a .FloorDiv b pos) cI (m2 >>= fun y => fdivM x y) := bin op_fdivZ sem_I ha hb
theorem fdiv_mm  {m1 : R Int} {m2 : R Int} (ha : DE X W ds a cI m1) (hb : DE X W ds b cI m2) : DE X W ds (.BinOp a .FloorDiv b pos) cI (m1 >>= fun x => m2 >>= fun y => fdivM x y) := bin op_fdivZ sem_I ha hb
theorem mod_pp  {x : Int} {y : Int} (ha : DE X W ds a cI (.ok x)) (hb : DE X W ds b cI (.ok y)) : DE X W ds (.BinOp a .Mod b pos) cI (modM x y) := bin op_modN sem_I ha hb
theorem mod_mp  {m1 : R Int} {y : Int} (ha : DE X W ds a cI m1) (hb : DE X W ds b cI (.ok y)) : DE X W ds (.BinOp a .Mod b pos) cI (m1 >>= fun x => modM x y) := bin op_modN sem_I ha hb
theorem mod_pm  {x : Int} {m2 : R Int} (ha : DE X W ds a cI (.ok x)) (hb : DE X W ds b cI m2) : DE X W ds (.BinOp a .Mod b pos) cI (m2 >>= fun y => modM x y) := bin op_modN sem_I ha hb
theorem mod_mm  {m1 : R Int} {m2 : R Int} (ha : DE X W ds a cI m1) (hb : DE X W ds b cI m2) : DE X W ds (.BinOp a .Mod b pos) cI (m1 >>= fun x => m2 >>= fun y => modM x y) := bin op_modN sem_I ha hb
theorem pow_pp  {x : Int} {y : Int} (ha : DE X W ds a cI (.ok x)) (hb : DE X W ds b cI (.ok y)) : DE X W ds (.BinOp a .Pow b pos) cI (powM x y) := bin op_powZ sem_I ha hb
theorem pow_mp  {m1 : R Int} {y : Int} (ha : DE X W ds a cI m1) (hb : DE X W ds b cI (.ok y)) : DE X W ds (.BinOp a .Pow b pos) cI (m1 >>= fun x => powM x y) := bin op_powZ sem_I ha hb
theorem pow_pm  {x : Int} {m2 : R Int} (ha : DE X W ds a cI (.ok x)) (hb : DE X W ds b cI m2) : DE X W ds (.BinOp a .Pow b pos) cI (m2 >>= fun y => powM x y) := bin op_powZ sem_I ha hb
theorem pow_mm  {m1 : R Int} {m2 : R Int} (ha : DE X W ds a cI m1) (hb : DE X W ds b cI m2) : DE X W ds (.BinOp a .Pow b pos) cI (m1 >>= fun x => m2 >>= fun y => powM x y) := bin op_powZ sem_I ha hb
theorem lt_pp  {x : Int} {y : Int} (ha : DE X W ds a cI (.ok x)) (hb : DE X W ds b cI (.ok y)) : DE X W ds (.Compare a [.Lt] [b] pos) cB (.ok (decide (x < y))) := cmpV op_lt (nomark _) sem_B0 ha hb
theorem lt_mp  {m1 : R Int} {y : Int} (ha : DE X W ds a cI m1) (hb : DE X W ds b cI (.ok y)) : DE X W ds (.Compare a [.Lt] [b] pos) cB (m1 >>= fun x => .ok (decide (x < y))) := cmpV op_lt (nomark _) sem_B0 ha hb
theorem lt_pm  {x : Int} {m2 : R Int} (ha : DE X W ds a cI (.ok x)) (hb : DE X W ds b cI m2) : DE X W ds (.Compare a [.Lt] [b] pos) cB (m2 >>= fun y => .ok (decide (x < y))) := cmpV op_lt (nomark _) sem_B0 ha hb
theorem lt_mm  {m1 : R Int} {m2 : R Int} (ha : DE X W ds a cI m1) (hb : DE X W ds b cI m2) : DE X W ds (.Compare a [.Lt] [b] pos) cB (m1 >>= fun x => m2 >>= fun y => .ok (decide (x < y))) := cmpV op_lt (nomark _) sem_B0 ha hb
theorem ltT_pp  {x : Int} {y : Int} (ha : DE X W ds a cI (.ok x)) (hb : DE X W ds b cI (.ok y)) : DT X W ds (.Compare a [.Lt] [b] pos) (.ok (decide (x < y))) := cmpT op_lt (nomark _) sem_B0 ha hb
theorem ltT_mp  {m1 : R Int} {y : Int} (ha : DE X W ds a cI m1) (hb : DE X W ds b cI (.ok y)) : DT X W ds (.Compare a [.Lt] [b] pos) (m1 >>= fun x => .ok (decide (x < y))) := cmpT op_lt (nomark _) sem_B0 ha hb
theorem ltT_pm  {x : Int} {m2 : R Int} (ha : DE X W ds a cI (.ok x)) (hb : DE X W ds b cI m2) : DT X W ds (.Compare a [.Lt] [b] pos) (m2 >>= fun y => .ok (decide (x < y))) := cmpT op_lt (nomark _) sem_B0 ha hb
theorem ltT_mm  {m1 : R Int} {m2 : R Int} (ha : DE X W ds a cI m1) (hb : DE X W ds b cI m2) : DT X W ds (.Compare a [.Lt] [b] pos) (m1 >>= fun x => m2 >>= fun y => .ok (decide (x < y))) := cmpT op_lt (nomark _) sem_B0 ha hb
theorem le_pp  {x : Int} {y : Int} (ha : DE X W ds a cI (.ok x)) (hb : DE X W ds b cI (.ok y)) : DE X W ds (.Compare a [.LtE] [b] pos) cB (.ok (decide (x ≤ y))) := cmpV op_le (nomark _) sem_B0 ha hb
theorem le_mp  {m1 : R Int} {y : Int} (ha : DE X W ds a cI m1) (hb : DE X W ds b cI (.ok y)) : DE X W ds (.Compare a [.LtE] [b] pos) cB (m1 >>= fun x => .ok (decide (x ≤ y))) := cmpV op_le (nomark _) sem_B0 ha hb
theorem le_pm  {x : Int} {m2 : R Int} (ha : DE X W ds a cI (.ok x)) (hb : DE X W ds b cI m2) : DE X W ds (.Compare a [.LtE] [b] pos) cB (m2 >>= fun y => .ok (decide (x ≤ y))) := cmpV op_le (nomark _) sem_B0 ha hb
theorem le_mm  {m1 : R Int} {m2 : R Int} (ha : DE X W ds a cI m1) (hb : DE X W ds b cI m2) : DE X W ds (.Compare a [.LtE] [b] pos) cB (m1 >>= fun x => m2 >>= fun y => .ok (decide (x ≤ y))) := cmpV op_le (nomark _) sem_B0 ha hb
theorem leT_pp  {x : Int} {y : Int} (ha : DE X W ds a cI (.ok x)) (hb : DE X W ds b cI (.ok y)) : DT X W ds (.Compare a [.LtE] [b] pos) (.ok (decide (x ≤ y))) := cmpT op_le (nomark _) sem_B0 ha hb
theorem leT_mp  {m1 : R Int} {y : Int} (ha : DE X W ds a cI m1) (hb : DE X W ds b cI (.ok y)) : DT X W ds (.Compare a [.LtE] [b] pos) (m1 >>= fun x => .ok (decide (x ≤ y))) := cmpT op_le (nomark _) sem_B0 ha hb
theorem leT_pm  {x : Int} {m2 : R Int} (ha : DE X W ds a cI (.ok x)) (hb : DE X W ds b cI m2) : DT X W ds (.Compare a [.LtE] [b] pos) (m2 >>= fun y => .ok (decide (x ≤ y))) := cmpT op_le (nomark _) sem_B0 ha hb
theorem leT_mm  {m1 : R Int} {m2 : R Int} (ha : DE X W ds a cI m1) (hb : DE X W ds b cI m2) : DT X W ds (.Compare a [.LtE] [b] pos) (m1 >>= fun x => m2 >>= fun y => .ok (decide (x ≤ y))) := cmpT op_le (nomark _) sem_B0 ha hb
theorem gt_pp  {x : Int} {y : Int} (ha : DE X W ds a cI (.ok x)) (hb : DE X W ds b cI (.ok y)) : DE X W ds (.Compare a [.Gt] [b] pos) cB (.ok (decide (y < x))) := cmpV op_gt (nomark _) sem_B0 ha hb
theorem gt_mp  {m1 : R Int} {y : Int} (ha : DE X W ds a cI m1) (hb : DE X W ds b cI (.ok y)) : DE X W ds (.Compare a [.Gt] [b] pos) cB (m1 >>= fun x => .ok (decide (y < x))) := cmpV op_gt (nomark _) sem_B0 ha hb
theorem gt_pm  {x : Int} {m2 : R Int} (ha : DE X W ds a cI (.ok x)) (hb : DE X W ds b cI m2) : DE X W ds (.Compare a [.Gt] [b] pos) cB (m2 >>= fun y => .ok (decide (y < x))) := cmpV op_gt (nomark _) sem_B0 ha hb
theorem gt_mm  {m1 : R Int} {m2 : R Int} (ha : DE X W ds a cI m1) (hb : DE X W ds b cI m2) : DE X W ds (.Compare a [.Gt] [b] pos) cB (m1 >>= fun x => m2 >>= fun y => .ok (decide (y < x))) := cmpV op_gt (nomark _) sem_B0 ha hb
theorem gtT_pp  {x : Int} {y : Int} (ha : DE X W ds a cI (.ok x)) (hb : DE X W ds b cI (.ok y)) : DT X W ds (.Compare a [.Gt] [b] pos) (.ok (decide (y < x))) := cmpT op_gt (nomark _) sem_B0 ha hb
theorem gtT_mp  {m1 : R Int} {y : Int} (ha : DE X W ds a cI m1) (hb : DE X W ds b cI (.ok y)) : DT X W ds (.Compare a [.Gt] [b] pos) (m1 >>= fun x => .ok (decide (y < x))) := cmpT op_gt (nomark _) sem_B0 ha hb
theorem gtT_pm  {x : Int} {m2 : R Int} (ha : DE X W ds a cI (.ok x)) (hb : DE X W ds b cI m2) : DT X W ds (.Compare a [.Gt] [b] pos) (m2 >>= fun y => .ok (decide (y < x))) := cmpT op_gt (nomark _) sem_B0 ha hb
theorem gtT_mm  {m1 : R Int} {m2 : R Int} (ha : DE X W ds a cI m1) (hb : DE X W ds b cI m2) : DT X W ds (.Compare a [.Gt] [b] pos) (m1 >>= fun x => m2 >>= fun y => .ok (decide (y < x))) := cmpT op_gt (nomark _) sem_B0 ha hb
theorem ge_pp  {x : Int} {y : Int} (ha : DE X W ds a cI (.ok x)) (hb : DE X W ds b cI (.ok y)) : DE X W ds (.Compare a [.GtE] [b] pos) cB (.ok (decide (y ≤ x))) := cmpV op_ge (nomark _) sem_B0 ha hb
theorem ge_mp  {m1 : R Int} {y : Int} (ha : DE X W ds a cI m1) (hb : DE X W ds b cI (.ok y)) : DE X W ds (.Compare a [.GtE] [b] pos) cB (m1 >>= fun x => .ok (decide (y ≤ x))) := cmpV op_ge (nomark _) sem_B0 ha hb
theorem ge_pm  {x : Int} {m2 : R Int} (ha : DE X W ds a cI (.ok x)) (hb : DE X W ds b cI m2) : DE X W ds (.Compare a [.GtE] [b] pos) cB (m2 >>= fun y => .ok (decide (y ≤ x))) := cmpV op_ge (nomark _) sem_B0 ha hb
theorem ge_mm  {m1 : R Int} {m2 : R Int} (ha : DE X W ds a cI m1) (hb : DE X W ds b cI m2) : DE X W ds (.Compare a [.GtE] [b] pos) cB (m1 >>= fun x => m2 >>= fun y => .ok (decide (y ≤ x))) := cmpV op_ge (nomark _) sem_B0 ha hb
theorem geT_pp  {x : Int} {y : Int} (ha : DE X W ds a cI (.ok x)) (hb : DE X W ds b cI (.ok y)) : DT X W ds (.Compare a [.GtE] [b] pos) (.ok (decide (y ≤ x))) := cmpT op_ge (nomark _) sem_B0 ha hb
theorem geT_mp  {m1 : R Int} {y : Int} (ha : DE X W ds a cI m1) (hb : DE X W ds b cI (.ok y)) : DT X W ds (.Compare a [.GtE] [b] pos) (m1 >>= fun x => .ok (decide (y ≤ x))) := cmpT op_ge (nomark _) sem_B0 ha hb
theorem geT_pm  {x : Int} {m2 : R Int} (ha : DE X W ds a cI (.ok x)) (hb : DE X W ds b cI m2) : DT X W ds (.Compare a [.GtE] [b] pos) (m2 >>= fun y => .ok (decide (y ≤ x))) := cmpT op_ge (nomark _) sem_B0 ha hb
theorem geT_mm  {m1 : R Int} {m2 : R Int} (ha : DE X W ds a cI m1) (hb : DE X W ds b cI m2) : DT X W ds (.Compare a [.GtE] [b] pos) (m1 >>= fun x => m2 >>= fun y => .ok (decide (y ≤ x))) := cmpT op_ge (nomark _) sem_B0 ha hb
end
end Zk
set_option maxHeartbeats 4000000
/-! # Zk: data, tests, displays, calls of built-ins -/
namespace Zk
open PySem PySem.Spec PyProof.Rows L2

/-! ### mirrors as data -/
class Dt {α : Type} (c : Cd α) where
  toD : α → PyData
  depth : Nat
  lay : ∀ a, (toD a).canLay0 = true
  le : ∀ a, (toD a).depth ≤ depth
  eqv : ∀ a b, PyData.eqv (toD a) (toD b) = true ↔ a = b
  rep : ∀ {K : PySem.W.Frag} {H : Hp} {v : V} {a : α}, c.rep K H v a → Dp K H v (toD a)
class DtA {τ : Type} (c : CA τ) where
  toDs : τ → List PyData
  depth : Nat
  lay : ∀ a, PyData.canLayAll0 (toDs a) = true
  le : ∀ a, PyData.depthAll (toDs a) ≤ depth
  eqv : ∀ a b, PyData.eqvAll (toDs a) (toDs b) = true ↔ a = b
  rep : ∀ {K : PySem.W.Frag} {H : Hp} {vs : List V} {a : τ}, c.rep K H vs a → DpAll K H vs (toDs a)
namespace Dt
variable {α τ : Type}
@[reducible] instance : Dt cI where
  toD := .int
  depth := 0
  lay _ := by simp only [PyData.canLay0]
  le _ := by simp only [PyData.depth]; exact Nat.le_refl _
  eqv a b := by simp only [PyData.eqv]; exact beq_iff_eq
  rep h := by
    have e : _ = V.int _ := h
    rw [e]
    exact .int _
@[reducible] instance : Dt cB where
  toD := .bool
  depth := 0
  lay _ := by simp only [PyData.canLay0]
  le _ := by simp only [PyData.depth]; exact Nat.le_refl _
  eqv a b := by simp only [PyData.eqv]; exact beq_iff_eq
  rep h := by
    have e : _ = V.bl _ := h
    rw [e]
    exact .bl _
@[reducible] instance : Dt cN where
  toD _ := .none
  depth := 0
  lay _ := by simp only [PyData.canLay0]
  le _ := by simp only [PyData.depth]; exact Nat.le_refl _
  eqv a b := by simp only [PyData.eqv]
  rep h := by
    have e : _ = V.non := h
    rw [e]
    exact .non
theorem lays {c : Cd α} [Dt c] : ∀ as : List α, PyData.canLayAll0 (as.map (toD c)) = true
  | [] => by simp only [List.map_nil, PyData.canLayAll0]
  | a :: as => by rw [List.map_cons, PyData.canLayAll0, lay a, lays as]; rfl
theorem les {c : Cd α} [Dt c] : ∀ as : List α, PyData.depthAll (as.map (toD c)) ≤ depth c
  | [] => by simp only [List.map_nil, PyData.depthAll]; exact Nat.zero_le _
  | a :: as => by rw [List.map_cons, PyData.depthAll]; exact Nat.max_le.mpr ⟨le a, les as⟩
theorem eqvs {c : Cd α} [Dt c] : ∀ as bs : List α, PyData.eqvAll (as.map (toD c)) (bs.map (toD c)) = true ↔ as = bs
  | [], [] => by simp [PyData.eqvAll]
  | [], _ :: _ => by simp [PyData.eqvAll]
  | _ :: _, [] => by simp [PyData.eqvAll]
  | a :: as, b :: bs => by rw [List.map_cons, List.map_cons, PyData.eqvAll, Bool.and_eq_true, eqv a b, eqvs as bs, List.cons.injEq]
theorem reps {c : Cd α} [Dt c] {K : PySem.W.Frag} {H : Hp} : ∀ {vs : List V} {as : List α}, Reps c K H vs as → DpAll K H vs (as.map (toD c))
  | [], [], _ => .nil
  | _ :: _, _ :: _, h => .cons (rep h.1) (reps h.2)
  | [], _ :: _, h => h.elim
  | _ :: _, [], h => h.elim
@[reducible] instance {c : Cd α} [Dt c] : Dt (cL c) where
  toD as := .list (as.map (toD c))
  depth := depth c + 1
  lay as := by simp only [PyData.canLay0]; exact lays as
  le as := by simp only [PyData.depth]; exact Nat.succ_le_succ (les as)
  eqv as bs := by simp only [PyData.eqv]; exact eqvs as bs
  rep h := by
    obtain ⟨p, vs, e, h1, h2⟩ := h
    rw [e]
    exact .lst h1 (reps h2)
@[reducible] instance {c : Cd α} [Dt c] : Dt (cT c) where
  toD as := .tuple (as.map (toD c))
  depth := depth c + 1
  lay as := by simp only [PyData.canLay0]; exact lays as
  le as := by simp only [PyData.depth]; exact Nat.succ_le_succ (les as)
  eqv as bs := by simp only [PyData.eqv]; exact eqvs as bs
  rep h := by
    obtain ⟨p, vs, e, h1, h2⟩ := h
    rw [e]
    exact .tup h1 (reps h2)
@[reducible] instance : DtA aNil where
  toDs _ := []
  depth := 0
  lay _ := by simp only [PyData.canLayAll0]
  le _ := by simp only [PyData.depthAll]; exact Nat.le_refl _
  eqv a b := by simp only [PyData.eqvAll]
  rep h := by
    have e : _ = ([] : List V) := h
    rw [e]
    exact .nil
@[reducible] instance {c : Cd α} [Dt c] : DtA (aOne c) where
  toDs a := [toD c a]
  depth := depth c
  lay a := by simp only [PyData.canLayAll0, lay a]; rfl
  le a := by simp only [PyData.depthAll]; exact Nat.max_le.mpr ⟨le a, Nat.zero_le _⟩
  eqv a b := by rw [PyData.eqvAll, Bool.and_eq_true, eqv a b]; simp [PyData.eqvAll]
  rep h := by
    obtain ⟨v, e, h1⟩ := h
    rw [e]
    exact .cons (rep h1) .nil
@[reducible] instance {c : Cd α} {r : CA τ} [Dt c] [DtA r] : DtA (aCons c r) where
  toDs a := toD c a.1 :: DtA.toDs r a.2
  depth := max (depth c) (DtA.depth r)
  lay a := by rw [PyData.canLayAll0, lay a.1, DtA.lay a.2]; rfl
  le a := by rw [PyData.depthAll]; exact Nat.max_le.mpr ⟨Nat.le_trans (le a.1) (Nat.le_max_left _ _), Nat.le_trans (DtA.le a.2) (Nat.le_max_right _ _)⟩
  eqv a b := by rw [PyData.eqvAll, Bool.and_eq_true, eqv a.1 b.1, DtA.eqv a.2 b.2]; exact ⟨fun h => Prod.ext h.1 h.2, fun h => by rw [h]; exact ⟨rfl, rfl⟩⟩
  rep h := by
    obtain ⟨v, ws, e, h1, h2⟩ := h
    rw [e]
    exact .cons (rep h1) (DtA.rep h2)
@[reducible] instance {r : CA τ} [DtA r] : Dt (cP r) where
  toD a := .tuple (DtA.toDs r a)
  depth := DtA.depth r + 1
  lay a := by simp only [PyData.canLay0]; exact DtA.lay a
  le a := by simp only [PyData.depth]; exact Nat.succ_le_succ (DtA.le a)
  eqv a b := by simp only [PyData.eqv]; exact DtA.eqv a b
  rep h := by
    obtain ⟨p, vs, e, h1, h2⟩ := h
    rw [e]
    exact .tup h1 (DtA.rep h2)
theorem shaped {c : Cd α} [Dt c] (h : depth c ≤ 64) (a : α) : SeqAt.shaped (toD c a) = true := by
  show ((toD c a).canLay0 && decide ((toD c a).depth ≤ 64)) = true
  rw [lay a, decide_eq_true (Nat.le_trans (le a) h)] <;> rfl
end Dt
section
variable {X : Cx} {W : WK} {ds : Env} {α β γ τ : Type} {a b : Expr} {e : Expr} {es : List Expr} {pos p : Pos} {c1 : Cd α} {c2 : Cd β} {c3 : Cd γ} {m1 : R α} {m2 : R β} {x : α} {y : β}
theorem decide_eqv {c : Cd α} [Dt c] [DecidableEq α] (a b : α) : PyData.eqv (Dt.toD c a) (Dt.toD c b) = decide (a = b) := by
  rw [Bool.eq_iff_iff, Dt.eqv, decide_eq_true_iff]
theorem sem_eqD {W : XK} {K : PySem.W.Frag} {c : Cd α} [Dt c] [DecidableEq α] (h : Dt.depth c ≤ 64) : BinSem K W (rEqD K) c c cB (fun x y => .ok (decide (x = y))) := fun x y v u S H Q i r1 r2 P =>
  ⟨_, _, Dt.rep (c.mono i r1), Dt.rep (c.mono i r2), Dt.shaped h _, Dt.shaped h _, by rw [decide_eqv]; exact P.ok i rfl⟩
theorem sem_neD {W : XK} {K : PySem.W.Frag} {c : Cd α} [Dt c] [DecidableEq α] (h : Dt.depth c ≤ 64) : BinSem K W (rNeD K) c c cB (fun x y => .ok (!decide (x = y))) := fun x y v u S H Q i r1 r2 P =>
  ⟨_, _, Dt.rep (c.mono i r1), Dt.rep (c.mono i r2), Dt.shaped h _, Dt.shaped h _, by rw [decide_eqv]; exact P.ok i rfl⟩
theorem sem_eqI {W : XK} {K : PySem.W.Frag} : BinSem K W rEq cI cI cB (fun x y => .ok (decide (x = y))) := fun x y v u S H Q i r1 r2 P => by
  have e1 : v = .int x := r1
  have e2 : u = .int y := r2
  subst e1 e2
  refine ⟨rfl, ?_⟩
  have e : decide (V.int x = V.int y) = decide (x = y) := by
    by_cases q : x = y
    · subst q; simp
    · rw [decide_eq_false q, decide_eq_false (fun z => q (V.int.inj z))]
  rw [e]
  exact P.ok i rfl
theorem sem_neI {W : XK} {K : PySem.W.Frag} : BinSem K W rNe cI cI cB (fun x y => .ok (!decide (x = y))) := fun x y v u S H Q i r1 r2 P => by
  have e1 : v = .int x := r1
  have e2 : u = .int y := r2
  subst e1 e2
  refine ⟨rfl, ?_⟩
  have e : decide (V.int x = V.int y) = decide (x = y) := by
    by_cases q : x = y
    · subst q; simp
    · rw [decide_eq_false q, decide_eq_false (fun z => q (V.int.inj z))]
  rw [e]
  exact P.ok i rfl
theorem sem_eqS {W : XK} {K : PySem.W.Frag} : BinSem K W rEq cS cS cB (fun x y => .ok (decide (x = y))) := fun x y v u S H Q i r1 r2 P => by
  have e1 : v = .str x := r1
  have e2 : u = .str y := r2
  subst e1 e2
  refine ⟨rfl, ?_⟩
  have e : decide (V.str x = V.str y) = decide (x = y) := by
    by_cases q : x = y
    · subst q; simp
    · rw [decide_eq_false q, decide_eq_false (fun z => q (V.str.inj z))]
  rw [e]
  exact P.ok i rfl
theorem sem_neS {W : XK} {K : PySem.W.Frag} : BinSem K W rNe cS cS cB (fun x y => .ok (!decide (x = y))) := fun x y v u S H Q i r1 r2 P => by
  have e1 : v = .str x := r1
  have e2 : u = .str y := r2
  subst e1 e2
  refine ⟨rfl, ?_⟩
  have e : decide (V.str x = V.str y) = decide (x = y) := by
    by_cases q : x = y
    · subst q; simp
    · rw [decide_eq_false q, decide_eq_false (fun z => q (V.str.inj z))]
  rw [e]
  exact P.ok i rfl

theorem eqI_pp  {x : Int} {y : Int} (ha : DE X W ds a cI (.ok x)) (hb : DE X W ds b cI (.ok y)) : DE X W ds (.Compare a [.Eq] [b] pos) cB (.ok (decide (x = y))) := cmpV op_eq (nomark _) sem_eqI ha hb
theorem eqI_mp  {m1 : R Int} {y : Int} (ha : DE X W ds a cI m1) (hb : DE X W ds b cI (.ok y)) : DE X W ds (.Compare a [.Eq] [b] pos) cB (m1 >>= fun x => .ok (decide (x = y))) := cmpV op_eq (nomark _) sem_eqI ha hb
theorem eqI_pm  {x : Int} {m2 : R Int} (ha : DE X W ds a cI (.ok x)) (hb : DE X W ds b cI m2) : DE X W ds (.Compare a [.Eq] [b] pos) cB (m2 >>= fun y => .ok (decide (x = y))) := cmpV op_eq (nomark _) sem_eqI ha hb
theorem eqI_mm  {m1 : R Int} {m2 : R Int} (ha : DE X W ds a cI m1) (hb : DE X W ds b cI m2) : DE X W ds (.Compare a [.Eq] [b] pos) cB (m1 >>= fun x => m2 >>= fun y => .ok (decide (x = y))) := cmpV op_eq (nomark _) sem_eqI ha hb
theorem eqIT_pp  {x : Int} {y : Int} (ha : DE X W ds a cI (.ok x)) (hb : DE X W ds b cI (.ok y)) : DT X W ds (.Compare a [.Eq] [b] pos) (.ok (decide (x = y))) := cmpT op_eq (nomark _) sem_eqI ha hb
theorem eqIT_mp  {m1 : R Int} {y : Int} (ha : DE X W ds a cI m1) (hb : DE X W ds b cI (.ok y)) : DT X W ds (.Compare a [.Eq] [b] pos) (m1 >>= fun x => .ok (decide (x = y))) := cmpT op_eq (nomark _) sem_eqI ha hb
theorem eqIT_pm  {x : Int} {m2 : R Int} (ha : DE X W ds a cI (.ok x)) (hb : DE X W ds b cI m2) : DT X W ds (.Compare a [.Eq] [b] pos) (m2 >>= fun y => .ok (decide (x = y))) := cmpT op_eq (nomark _) sem_eqI ha hb
theorem eqIT_mm  {m1 : R Int} {m2 : R Int} (ha : DE X W ds a cI m1) (hb : DE X W ds b cI m2) : DT X W ds (.Compare a [.Eq] [b] pos) (m1 >>= fun x => m2 >>= fun y => .ok (decide (x = y))) := cmpT op_eq (nomark _) sem_eqI ha hb
theorem eqS_pp  {x : Str} {y : Str} (ha : DE X W ds a cS (.ok x)) (hb : DE X W ds b cS (.ok y)) : DE X W ds (.Compare a [.Eq] [b] pos) cB (.ok (decide (x = y))) := cmpV op_eq (nomark _) sem_eqS ha hb
theorem eqS_mp  {m1 : R Str} {y : Str} (ha : DE X W ds a cS m1) (hb : DE X W ds b cS (.ok y)) : DE X W ds (.Compare a [.Eq] [b] pos) cB (m1 >>= fun x => .ok (decide (x = y))) := cmpV op_eq (nomark _) sem_eqS ha hb
theorem eqS_pm  {x : Str} {m2 : R Str} (ha : DE X W ds a cS (.ok x)) (hb : DE X W ds b cS m2) : DE X W ds (.Compare a [.Eq] [b] pos) cB (m2 >>= fun y => .ok (decide (x = y))) := cmpV op_eq (nomark _) sem_eqS ha hb
theorem eqS_mm  {m1 : R Str} {m2 : R Str} (ha : DE X W ds a cS m1) (hb : DE X W ds b cS m2) : DE X W ds (.Compare a [.Eq] [b] pos) cB (m1 >>= fun x => m2 >>= fun y => .ok (decide (x = y))) := cmpV op_eq (nomark _) sem_eqS ha hb
theorem eqST_pp  {x : Str} {y : Str} (ha : DE X W ds a cS (.ok x)) (hb : DE X W ds b cS (.ok y)) : DT X W ds (.Compare a [.Eq] [b] pos) (.ok (decide (x = y))) := cmpT op_eq (nomark _) sem_eqS ha hb
theorem eqST_mp  {m1 : R Str} {y : Str} (ha : DE X W ds a cS m1) (hb : DE X W ds b cS (.ok y)) : DT X W ds (.Compare a [.Eq] [b] pos) (m1 >>= fun x => .ok (decide (x = y))) := cmpT op_eq (nomark _) sem_eqS ha hb
theorem eqST_pm  {x : Str} {m2 : R Str} (ha : DE X W ds a cS (.ok x)) (hb : DE X W ds b cS m2) : DT X W ds (.Compare a [.Eq] [b] pos) (m2 >>= fun y => .ok (decide (x = y))) := cmpT op_eq (nomark _) sem_eqS ha hb
theorem eqST_mm  {m1 : R Str} {m2 : R Str} (ha : DE X W ds a cS m1) (hb : DE X W ds b cS m2) : DT X W ds (.Compare a [.Eq] [b] pos) (m1 >>= fun x => m2 >>= fun y => .ok (decide (x = y))) := cmpT op_eq (nomark _) sem_eqS ha hb
theorem eqD_pp {c : Cd α} [Dt c] [DecidableEq α] (hu : X.A.units + 64 < cLine)  {x : α} {y : α} (ha : DE X W ds a c (.ok x)) (hb : DE X W ds b c (.ok y)) (hd : Dt.depth c ≤ 64 := by decide) : DE X W ds (.Compare a [.Eq] [b] pos) cB (.ok (decide (x = y))) := cmpV (op_eqD hu) (nomark _) (sem_eqD hd) ha hb
theorem eqD_mp {c : Cd α} [Dt c] [DecidableEq α] (hu : X.A.units + 64 < cLine)  {m1 : R α} {y : α} (ha : DE X W ds a c m1) (hb : DE X W ds b c (.ok y)) (hd : Dt.depth c ≤ 64 := by decide) : DE X W ds (.Compare a [.Eq] [b] pos) cB (m1 >>= fun x => .ok (decide (x = y))) := cmpV (op_eqD hu) (nomark _) (sem_eqD hd) ha hb
theorem eqD_pm {c : Cd α} [Dt c] [DecidableEq α] (hu : X.A.units + 64 < cLine)  {x : α} {m2 : R α} (ha : DE X W ds a c (.ok x)) (hb : DE X W ds b c m2) (hd : Dt.depth c ≤ 64 := by decide) : DE X W ds (.Compare a [.Eq] [b] pos) cB (m2 >>= fun y => .ok (decide (x = y))) := cmpV (op_eqD hu) (nomark _) (sem_eqD hd) ha hb
theorem eqD_mm {c : Cd α} [Dt c] [DecidableEq α] (hu : X.A.units + 64 < cLine)  {m1 : R α} {m2 : R α} (ha : DE X W ds a c m1) (hb : DE X W ds b c m2) (hd : Dt.depth c ≤ 64 := by decide) : DE X W ds (.Compare a [.Eq] [b] pos) cB (m1 >>= fun x => m2 >>= fun y => .ok (decide (x = y))) := cmpV (op_eqD hu) (nomark _) (sem_eqD hd) ha hb
theorem eqDT_pp {c : Cd α} [Dt c] [DecidableEq α] (hu : X.A.units + 64 < cLine)  {x : α} {y : α} (ha : DE X W ds a c (.ok x)) (hb : DE X W ds b c (.ok y)) (hd : Dt.depth c ≤ 64 := by decide) : DT X W ds (.Compare a [.Eq] [b] pos) (.ok (decide (x = y))) := cmpT (op_eqD hu) (nomark _) (sem_eqD hd) ha hb
theorem eqDT_mp {c : Cd α} [Dt c] [DecidableEq α] (hu : X.A.units + 64 < cLine)  {m1 : R α} {y : α} (ha : DE X W ds a c m1) (hb : DE X W ds b c (.ok y)) (hd : Dt.depth c ≤ 64 := by decide) : DT X W ds (.Compare a [.Eq] [b] pos) (m1 >>= fun x => .ok (decide (x = y))) := cmpT (op_eqD hu) (nomark _) (sem_eqD hd) ha hb
theorem eqDT_pm {c : Cd α} [Dt c] [DecidableEq α] (hu : X.A.units + 64 < cLine)  {x : α} {m2 : R α} (ha : DE X W ds a c (.ok x)) (hb : DE X W ds b c m2) (hd : Dt.depth c ≤ 64 := by decide) : DT X W ds (.Compare a [.Eq] [b] pos) (m2 >>= fun y => .ok (decide (x = y))) := cmpT (op_eqD hu) (nomark _) (sem_eqD hd) ha hb
theorem eqDT_mm {c : Cd α} [Dt c] [DecidableEq α] (hu : X.A.units + 64 < cLine)  {m1 : R α} {m2 : R α} (ha : DE X W ds a c m1) (hb : DE X W ds b c m2) (hd : Dt.depth c ≤ 64 := by decide) : DT X W ds (.Compare a [.Eq] [b] pos) (m1 >>= fun x => m2 >>= fun y => .ok (decide (x = y))) := cmpT (op_eqD hu) (nomark _) (sem_eqD hd) ha hb
theorem neI_pp  {x : Int} {y : Int} (ha : DE X W ds a cI (.ok x)) (hb : DE X W ds b cI (.ok y)) : DE X W ds (.Compare a [.NotEq] [b] pos) cB (.ok (!decide (x = y))) := cmpV op_ne (nomark _) sem_neI ha hb
theorem neI_mp  {m1 : R Int} {y : Int} (ha : DE X W ds a cI m1) (hb : DE X W ds b cI (.ok y)) : DE X W ds (.Compare a [.NotEq] [b] pos) cB (m1 >>= fun x => .ok (!decide (x = y))) := cmpV op_ne (nomark _) sem_neI ha hb
theorem neI_pm  {x : Int} {m2 : R Int} (ha : DE X W ds a cI (.ok x)) (hb : DE X W ds b cI m2) : DE X W ds (.Compare a [.NotEq] [b] pos) cB (m2 >>= fun y => .ok (!decide (x = y))) := cmpV op_ne (nomark _) sem_neI ha hb
theorem neI_mm  {m1 : R Int} {m2 : R Int} (ha : DE X W ds a cI m1) (hb : DE X W ds b cI m2) : DE X W ds (.Compare a [.NotEq] [b] pos) cB (m1 >>= fun x => m2 >>= fun y => .ok (!decide (x = y))) := cmpV op_ne (nomark _) sem_neI ha hb
theorem neIT_pp  {x : Int} {y : Int} (ha : DE X W ds a cI (.ok x)) (hb : DE X W ds b cI (.ok y)) : DT X W ds (.Compare a [.NotEq] [b] pos) (.ok (!decide (x = y))) := cmpT op_ne (nomark _) sem_neI ha hb
theorem neIT_mp  {m1 : R Int} {y : Int} (ha : DE X W ds a cI m1) (hb : DE X W ds b cI (.ok y)) : DT X W ds (.Compare a [.NotEq] [b] pos) (m1 >>= fun x => .ok (!decide (x = y))) := cmpT op_ne (nomark _) sem_neI ha hb
theorem neIT_pm  {x : Int} {m2 : R Int} (ha : DE X W ds a cI (.ok x)) (hb : DE X W ds b cI m2) : DT X W ds (.Compare a [.NotEq] [b] pos) (m2 >>= fun y => .ok (!decide (x = y))) := cmpT op_ne (nomark _) sem_neI ha hb
theorem neIT_mm  {m1 : R Int} {m2 : R Int} (ha : DE X W ds a cI m1) (hb : DE X W ds b cI m2) : DT X W ds (.Compare a [.NotEq] [b] pos) (m1 >>= fun x => m2 >>= fun y => .ok (!decide (x = y))) := cmpT op_ne (nomark _) sem_neI ha hb
theorem neS_pp  {x : Str} {y : Str} (ha : DE X W ds a cS (.ok x)) (hb : DE X W ds b cS (.ok y)) : DE X W ds (.Compare a [.NotEq] [b] pos) cB (.ok (!decide (x = y))) := cmpV op_ne (nomark _) sem_neS ha hb
theorem neS_mp  {m1 : R Str} {y : Str} (ha : DE X W ds a cS m1) (hb : DE X W ds b cS (.ok y)) : DE X W ds (.Compare a [.NotEq] [b] pos) cB (m1 >>= fun x => .ok (!decide (x = y))) := cmpV op_ne (nomark _) sem_neS ha hb
theorem neS_pm  {x : Str} {m2 : R Str} (ha : DE X W ds a cS (.ok x)) (hb : DE X W ds b cS m2) : DE X W ds (.Compare a [.NotEq] [b] pos) cB (m2 >>= fun y => .ok (!decide (x = y))) := cmpV op_ne (nomark _) sem_neS ha hb
theorem neS_mm  {m1 : R Str} {m2 : R Str} (ha : DE X W ds a cS m1) (hb : DE X W ds b cS m2) : DE X W ds (.Compare a [.NotEq] [b] pos) cB (m1 >>= fun x => m2 >>= fun y => .ok (!decide (x = y))) := cmpV op_ne (nomark _) sem_neS ha hb
theorem neST_pp  {x : Str} {y : Str} (ha : DE X W ds a cS (.ok x)) (hb : DE X W ds b cS (.ok y)) : DT X W ds (.Compare a [.NotEq] [b] pos) (.ok (!decide (x = y))) := cmpT op_ne (nomark _) sem_neS ha hb
theorem neST_mp  {m1 : R Str} {y : Str} (ha : DE X W ds a cS m1) (hb : DE X W ds b cS (.ok y)) : DT X W ds (.Compare a [.NotEq] [b] pos) (m1 >>= fun x => .ok (!decide (x = y))) := cmpT op_ne (nomark _) sem_neS ha hb
theorem neST_pm  {x : Str} {m2 : R Str} (ha : DE X W ds a cS (.ok x)) (hb : DE X W ds b cS m2) : DT X W ds (.Compare a [.NotEq] [b] pos) (m2 >>= fun y => .ok (!decide (x = y))) := cmpT op_ne (nomark _) sem_neS ha hb
theorem neST_mm  {m1 : R Str} {m2 : R Str} (ha : DE X W ds a cS m1) (hb : DE X W ds b cS m2) : DT X W ds (.Compare a [.NotEq] [b] pos) (m1 >>= fun x => m2 >>= fun y => .ok (!decide (x = y))) := cmpT op_ne (nomark _) sem_neS ha hb
theorem neD_pp {c : Cd α} [Dt c] [DecidableEq α] (hu : X.A.units + 64 < cLine)  {x : α} {y : α} (ha : DE X W ds a c (.ok x)) (hb : DE X W ds b c (.ok y)) (hd : Dt.depth c ≤ 64 := by decide) : DE X W ds (.Compare a [.NotEq] [b] pos) cB (.ok (!decide (x = y))) := cmpV (op_neD hu) (nomark _) (sem_neD hd) ha hb
theorem neD_mp {c : Cd α} [Dt c] [DecidableEq α] (hu : X.A.units + 64 < cLine)  {m1 : R α} {y : α} (ha : DE X W ds a c m1) (hb : DE X W ds b c (.ok y)) (hd : Dt.depth c ≤ 64 := by decide) : DE X W ds (.Compare a [.NotEq] [b] pos) cB (m1 >>= fun x => .ok (!decide (x = y))) := cmpV (op_neD hu) (nomark _) (sem_neD hd) ha hb
theorem neD_pm {c : Cd α} [Dt c] [DecidableEq α] (hu : X.A.units + 64 < cLine)  {x : α} {m2 : R α} (ha : DE X W ds a c (.ok x)) (hb : DE X W ds b c m2) (hd : Dt.depth c ≤ 64 := by decide) : DE X W ds (.Compare a [.NotEq] [b] pos) cB (m2 >>= fun y => .ok (!decide (x = y))) := cmpV (op_neD hu) (nomark _) (sem_neD hd) ha hb
theorem neD_mm {c : Cd α} [Dt c] [DecidableEq α] (hu : X.A.units + 64 < cLine)  {m1 : R α} {m2 : R α} (ha : DE X W ds a c m1) (hb : DE X W ds b c m2) (hd : Dt.depth c ≤ 64 := by decide) : DE X W ds (.Compare a [.NotEq] [b] pos) cB (m1 >>= fun x => m2 >>= fun y => .ok (!decide (x = y))) := cmpV (op_neD hu) (nomark _) (sem_neD hd) ha hb
theorem neDT_pp {c : Cd α} [Dt c] [DecidableEq α] (hu : X.A.units + 64 < cLine)  {x : α} {y : α} (ha : DE X W ds a c (.ok x)) (hb : DE X W ds b c (.ok y)) (hd : Dt.depth c ≤ 64 := by decide) : DT X W ds (.Compare a [.NotEq] [b] pos) (.ok (!decide (x = y))) := cmpT (op_neD hu) (nomark _) (sem_neD hd) ha hb
theorem neDT_mp {c : Cd α} [Dt c] [DecidableEq α] (hu : X.A.units + 64 < cLine)  {m1 : R α} {y : α} (ha : DE X W ds a c m1) (hb : DE X W ds b c (.ok y)) (hd : Dt.depth c ≤ 64 := by decide) : DT X W ds (.Compare a [.NotEq] [b] pos) (m1 >>= fun x => .ok (!decide (x = y))) := cmpT (op_neD hu) (nomark _) (sem_neD hd) ha hb
theorem neDT_pm {c : Cd α} [Dt c] [DecidableEq α] (hu : X.A.units + 64 < cLine)  {x : α} {m2 : R α} (ha : DE X W ds a c (.ok x)) (hb : DE X W ds b c m2) (hd : Dt.depth c ≤ 64 := by decide) : DT X W ds (.Compare a [.NotEq] [b] pos) (m2 >>= fun y => .ok (!decide (x = y))) := cmpT (op_neD hu) (nomark _) (sem_neD hd) ha hb
theorem neDT_mm {c : Cd α} [Dt c] [DecidableEq α] (hu : X.A.units + 64 < cLine)  {m1 : R α} {m2 : R α} (ha : DE X W ds a c m1) (hb : DE X W ds b c m2) (hd : Dt.depth c ≤ 64 := by decide) : DT X W ds (.Compare a [.NotEq] [b] pos) (m1 >>= fun x => m2 >>= fun y => .ok (!decide (x = y))) := cmpT (op_neD hu) (nomark _) (sem_neD hd) ha hb
/-! ### None -/
theorem isN_p {j : Nat} {p2 : Pos} {o : Option α} {c : Cd α} (ha : DE X W ds a (cO c) (.ok o)) : DE X W ds (.Compare a [.Is] [.Constant .none j p2] pos) cB (.ok o.isNone) := by
  obtain ⟨t, p, q⟩ := ha
  refine ⟨_, pe_cmp (pc_isN p), fun S0 H0 σ S H Q E P => q S0 H0 σ S H _ E (fun v S' H' g r => ?_)⟩
  have e : decide (v = V.non) = o.isNone := by
    cases o with
    | none => exact decide_eq_true r
    | some z => exact decide_eq_false r.1
  rw [e]
  exact P _ S' H' g rfl
theorem notN_p {j : Nat} {p2 : Pos} {o : Option α} {c : Cd α} (ha : DE X W ds a (cO c) (.ok o)) : DE X W ds (.Compare a [.IsNot] [.Constant .none j p2] pos) cB (.ok o.isSome) := by
  obtain ⟨t, p, q⟩ := ha
  refine ⟨_, pe_cmp (pc_notN p), fun S0 H0 σ S H Q E P => q S0 H0 σ S H _ E (fun v S' H' g r => ?_)⟩
  have e : (!decide (v = V.non)) = o.isSome := by
    cases o with
    | none => rw [decide_eq_true (show v = V.non from r)] <;> rfl
    | some z => rw [decide_eq_false r.1] <;> rfl
  rw [e]
  exact P _ S' H' g rfl
/-! ### tests, and, or, not -/
theorem val {m : R Bool} (ha : DE X W ds a cB m) (he : ∀ whole, isTrue a X.env whole = (do let v ← whole; standAt a.pos; holding [v] (truthy v)) := by intro _; rfl) : DT X W ds a m := by
  obtain ⟨t, p, q⟩ := ha
  exact ⟨_, pt_val p he, fun S0 H0 σ S H Q E P => q S0 H0 σ S H _ E (pb_of P)⟩
/-- a comparison's value as a test -/
theorem valC {m : R Bool} {l : Expr} {op : CmpOp} {r : Expr} (ha : ∃ t, PC X op l r t ∧ ∀ S0 H0 σ S H Q, EnvOk X.K S0 H0 ds σ S H → PX cB X.K S H m Q (W σ) → t σ H Q) (h1 : behindInMarks op r = false) : DT X W ds (.Compare l [op] [r] pos) m := by
  obtain ⟨t, p, q⟩ := ha
  exact ⟨_, pt_cmp p h1, fun S0 H0 σ S H Q E P => q S0 H0 σ S H _ E (pb_of P)⟩
theorem isN_sem {j : Nat} {p2 : Pos} {o : Option α} {c : Cd α} (ha : DE X W ds a (cO c) (.ok o)) : ∃ t, PC X .Is a (.Constant .none j p2) t ∧ ∀ S0 H0 σ S H Q, EnvOk X.K S0 H0 ds σ S H → PX cB X.K S H (.ok o.isNone) Q (W σ) → t σ H Q := by
  obtain ⟨t, p, q⟩ := ha
  refine ⟨_, pc_isN p, fun S0 H0 σ S H Q E P => q S0 H0 σ S H _ E (fun v S' H' g r => ?_)⟩
  have e : decide (v = V.non) = o.isNone := by
    cases o with
    | none => exact decide_eq_true r
    | some z => exact decide_eq_false r.1
  rw [e]
  exact P _ S' H' g rfl
theorem notN_sem {j : Nat} {p2 : Pos} {o : Option α} {c : Cd α} (ha : DE X W ds a (cO c) (.ok o)) : ∃ t, PC X .IsNot a (.Constant .none j p2) t ∧ ∀ S0 H0 σ S H Q, EnvOk X.K S0 H0 ds σ S H → PX cB X.K S H (.ok o.isSome) Q (W σ) → t σ H Q := by
  obtain ⟨t, p, q⟩ := ha
  refine ⟨_, pc_notN p, fun S0 H0 σ S H Q E P => q S0 H0 σ S H _ E (fun v S' H' g r => ?_)⟩
  have e : (!decide (v = V.non)) = o.isSome := by
    cases o with
    | none => rw [decide_eq_true (show v = V.non from r)] <;> rfl
    | some z => rw [decide_eq_false r.1] <;> rfl
  rw [e]
  exact P _ S' H' g rfl
theorem isNT_p {j : Nat} {p2 : Pos} {o : Option α} {c : Cd α} (ha : DE X W ds a (cO c) (.ok o)) : DT X W ds (.Compare a [.Is] [.Constant .none j p2] pos) (.ok o.isNone) := valC (isN_sem ha) (nomark _)
theorem notNT_p {j : Nat} {p2 : Pos} {o : Option α} {c : Cd α} (ha : DE X W ds a (cO c) (.ok o)) : DT X W ds (.Compare a [.IsNot] [.Constant .none j p2] pos) (.ok o.isSome) := valC (notN_sem ha) (nomark _)
theorem dt_dw {m : R Bool} (h : DW X W ds a m) : DT X W ds a m := by
  obtain ⟨t, p, q⟩ := h
  exact ⟨t, p.pt, q⟩
theorem and1 {m : R Bool} (ha : DT X W ds a m) : DW X W ds (.BoolOp .And [a] pos) m := by
  obtain ⟨t, p, q⟩ := ha
  exact ⟨t, pw_and1 p, q⟩
theorem or1 {m : R Bool} (ha : DT X W ds a m) : DW X W ds (.BoolOp .Or [a] pos) m := by
  obtain ⟨t, p, q⟩ := ha
  exact ⟨t, pw_or1 p, q⟩
theorem andW {m n : R Bool} (ha : DT X W ds a m) (hb : DW X W ds (.BoolOp .And (b :: es) pos) n) : DW X W ds (.BoolOp .And (a :: b :: es) pos) (m >>= fun z => if z = true then n else .ok false) := by
  obtain ⟨t, p, q⟩ := ha
  obtain ⟨u, p2, q2⟩ := hb
  refine ⟨_, pw_and p p2, fun S0 H0 σ S H Q E P => q S0 H0 σ S H _ E (P.bindB fun z S1 H1 g P1 => ?_)⟩
  cases z with
  | true => exact q2 S0 H0 σ S1 H1 _ (E.step g) P1
  | false => exact P1.ok g.inn
theorem orW {m n : R Bool} (ha : DT X W ds a m) (hb : DW X W ds (.BoolOp .Or (b :: es) pos) n) : DW X W ds (.BoolOp .Or (a :: b :: es) pos) (m >>= fun z => if z = true then .ok true else n) := by
  obtain ⟨t, p, q⟩ := ha
  obtain ⟨u, p2, q2⟩ := hb
  refine ⟨_, pw_or p p2, fun S0 H0 σ S H Q E P => q S0 H0 σ S H _ E (P.bindB fun z S1 H1 g P1 => ?_)⟩
  cases z with
  | true => exact P1.ok g.inn
  | false => exact q2 S0 H0 σ S1 H1 _ (E.step g) P1
theorem andW_p {z : Bool} {n : R Bool} (ha : DT X W ds a (.ok z)) (hb : DW X W ds (.BoolOp .And (b :: es) pos) n) : DW X W ds (.BoolOp .And (a :: b :: es) pos) (if z = true then n else .ok false) := andW ha hb
theorem orW_p {z : Bool} {n : R Bool} (ha : DT X W ds a (.ok z)) (hb : DW X W ds (.BoolOp .Or (b :: es) pos) n) : DW X W ds (.BoolOp .Or (a :: b :: es) pos) (if z = true then .ok true else n) := orW ha hb
theorem notT {m : R Bool} (ha : DT X W ds a m) : DT X W ds (.UnaryOp .Not a pos) (m >>= fun z => .ok (!z)) := by
  obtain ⟨t, p, q⟩ := ha
  exact ⟨_, pt_not p, fun S0 H0 σ S H Q E P => q S0 H0 σ S H _ E (P.bindB fun z S1 H1 g P1 => P1.ok g.inn)⟩
theorem notT_p {z : Bool} (ha : DT X W ds a (.ok z)) : DT X W ds (.UnaryOp .Not a pos) (.ok (!z)) := notT ha
/-- as values -/
theorem and1V {m : R Bool} (ha : DE X W ds a cB m) : DE X W ds (.BoolOp .And [a] pos) cB m := by
  obtain ⟨t, p, q⟩ := ha
  exact ⟨t, pe_one p, q⟩
theorem or1V {m : R Bool} (ha : DE X W ds a cB m) : DE X W ds (.BoolOp .Or [a] pos) cB m := by
  obtain ⟨t, p, q⟩ := ha
  exact ⟨t, pe_one p, q⟩
theorem andV {m n : R Bool} (ha : DE X W ds a cB m) (hb : DE X W ds (.BoolOp .And (b :: es) pos) cB n) : DE X W ds (.BoolOp .And (a :: b :: es) pos) cB (m >>= fun z => if z = true then n else .ok false) := by
  obtain ⟨t, p, q⟩ := ha
  obtain ⟨u, p2, q2⟩ := hb
  refine ⟨_, pe_and p p2, fun S0 H0 σ S H Q E P => q S0 H0 σ S H _ E (P.bind fun z v S1 H1 g r P1 => ⟨z, r, ?_⟩)⟩
  cases z with
  | true => exact q2 S0 H0 σ S1 H1 _ (E.step g) P1
  | false => exact P1.ok g.inn rfl
theorem orV {m n : R Bool} (ha : DE X W ds a cB m) (hb : DE X W ds (.BoolOp .Or (b :: es) pos) cB n) : DE X W ds (.BoolOp .Or (a :: b :: es) pos) cB (m >>= fun z => if z = true then .ok true else n) := by
  obtain ⟨t, p, q⟩ := ha
  obtain ⟨u, p2, q2⟩ := hb
  refine ⟨_, pe_or p p2, fun S0 H0 σ S H Q E P => q S0 H0 σ S H _ E (P.bind fun z v S1 H1 g r P1 => ⟨z, r, ?_⟩)⟩
  cases z with
  | true => exact P1.ok g.inn rfl
  | false => exact q2 S0 H0 σ S1 H1 _ (E.step g) P1
theorem andV_p {z : Bool} {n : R Bool} (ha : DE X W ds a cB (.ok z)) (hb : DE X W ds (.BoolOp .And (b :: es) pos) cB n) : DE X W ds (.BoolOp .And (a :: b :: es) pos) cB (if z = true then n else .ok false) := andV ha hb
theorem orV_p {z : Bool} {n : R Bool} (ha : DE X W ds a cB (.ok z)) (hb : DE X W ds (.BoolOp .Or (b :: es) pos) cB n) : DE X W ds (.BoolOp .Or (a :: b :: es) pos) cB (if z = true then .ok true else n) := orV ha hb
theorem notV {m : R Bool} (ha : DE X W ds a cB m) : DE X W ds (.UnaryOp .Not a pos) cB (m >>= fun z => .ok (!z)) := by
  obtain ⟨t, p, q⟩ := ha
  exact ⟨_, pe_not p, fun S0 H0 σ S H Q E P => q S0 H0 σ S H _ E (P.bind fun z v S1 H1 g r P1 => ⟨z, r, P1.ok g.inn rfl⟩)⟩
theorem notV_p {z : Bool} (ha : DE X W ds a cB (.ok z)) : DE X W ds (.UnaryOp .Not a pos) cB (.ok (!z)) := notV ha
theorem ifE {m : R Bool} {n1 n2 : R γ} {t : Expr} (ht : DT X W ds t m) (ha : DE X W ds a c3 n1) (hb : DE X W ds b c3 n2) : DE X W ds (.IfExp t a b pos) c3 (m >>= fun z => if z = true then n1 else n2) := by
  obtain ⟨tt, p, q⟩ := ht
  obtain ⟨ta, p1, q1⟩ := ha
  obtain ⟨tb, p2, q2⟩ := hb
  refine ⟨_, pe_ifExp p p1 p2, fun S0 H0 σ S H Q E P => q S0 H0 σ S H _ E (P.bindB fun z S1 H1 g P1 => ?_)⟩
  cases z with
  | true => exact q1 S0 H0 σ S1 H1 _ (E.step g) P1
  | false => exact q2 S0 H0 σ S1 H1 _ (E.step g) P1
theorem ifE_p {z : Bool} {n1 n2 : R γ} {t : Expr} (ht : DT X W ds t (.ok z)) (ha : DE X W ds a c3 n1) (hb : DE X W ds b c3 n2) : DE X W ds (.IfExp t a b pos) c3 (if z = true then n1 else n2) := ifE ht ha hb
theorem neg {m : R Int} (ha : DE X W ds a cI m) : DE X W ds (.UnaryOp .USub a pos) cI (m >>= fun z => .ok (-z)) := by
  obtain ⟨t, p, q⟩ := ha
  exact ⟨_, pe_un un_neg p, fun S0 H0 σ S H Q E P => q S0 H0 σ S H _ E (P.bind fun z v S1 H1 g r P1 => ⟨z, r, P1.ok g.inn rfl⟩)⟩
theorem neg_p {z : Int} (ha : DE X W ds a cI (.ok z)) : DE X W ds (.UnaryOp .USub a pos) cI (.ok (-z)) := neg ha
/-- a op b op' c -/
theorem chain {op op' : CmpOp} {f g : Int → Int → Bool} {cc : Expr} {m n k : R Int} (ho : OpR X (compareOp op) (rI0 fun i j => .bl (f i j))) (ho' : OpR X (compareOp op') (rI0 fun i j => .bl (g i j))) (ha : DE X W ds a cI m) (hb : DE X W ds b cI n) (hc : DE X W ds cc cI k)
    (hm : lastMarks [op, op'] [b, cc] = false := by with_unfolding_all rfl) : DE X W ds (.Compare a [op, op'] [b, cc] pos) cB (m >>= fun x => n >>= fun y => if f x y = true then k >>= fun z => .ok (g y z) else .ok false) := by
  obtain ⟨ta, pa, qa⟩ := ha
  obtain ⟨tb, pb, qb⟩ := hb
  obtain ⟨tc, pc, qc⟩ := hc
  refine ⟨_, pe_chain ho ho' pa pb pc hm, fun S0 H0 σ S H Q E P => qa S0 H0 σ S H _ E (P.bind fun x v S1 H1 g1 r1 P1 => qb S0 H0 σ S1 H1 _ (E.step g1) (P1.bind fun y u S2 H2 g2 r2 P2 => ⟨x, y, r1, r2, f x y, rfl, ?_⟩))⟩
  cases hf : f x y with
  | true =>
    rw [hf, if_pos rfl] at P2
    exact qc S0 H0 σ S2 H2 _ ((E.step g1).step g2) (P2.bind fun z w S3 H3 g3 r3 P3 => ⟨y, z, r2, r3, P3.ok g3.inn rfl⟩)
  | false =>
    rw [hf, if_neg Bool.false_ne_true] at P2
    exact P2.ok g2.inn rfl
theorem chainT {op op' : CmpOp} {f g : Int → Int → Bool} {cc : Expr} {m n k : R Int} (ho : OpR X (compareOp op) (rI0 fun i j => .bl (f i j))) (ho' : OpR X (compareOp op') (rI0 fun i j => .bl (g i j))) (ha : DE X W ds a cI m) (hb : DE X W ds b cI n) (hc : DE X W ds cc cI k)
    (hm : lastMarks [op, op'] [b, cc] = false := by with_unfolding_all rfl) : DT X W ds (.Compare a [op, op'] [b, cc] pos) (m >>= fun x => n >>= fun y => if f x y = true then k >>= fun z => .ok (g y z) else .ok false) := by
  obtain ⟨ta, pa, qa⟩ := ha
  obtain ⟨tb, pb, qb⟩ := hb
  obtain ⟨tc, pc, qc⟩ := hc
  refine ⟨_, pt_chain ho ho' pa pb pc hm, fun S0 H0 σ S H Q E P => qa S0 H0 σ S H _ E ((pb_of P).bind fun x v S1 H1 g1 r1 P1 => qb S0 H0 σ S1 H1 _ (E.step g1) (P1.bind fun y u S2 H2 g2 r2 P2 => ⟨x, y, r1, r2, f x y, rfl, ?_⟩))⟩
  cases hf : f x y with
  | true =>
    rw [hf, if_pos rfl] at P2
    exact qc S0 H0 σ S2 H2 _ ((E.step g1).step g2) (P2.bind fun z w S3 H3 g3 r3 P3 => ⟨y, z, r2, r3, P3.ok g3.inn rfl⟩)
  | false =>
    rw [hf, if_neg Bool.false_ne_true] at P2
    exact P2.ok g2.inn rfl
/-! ### items -/
def getM (xs : List α) (i : Int) : R α := match atI xs i with
  | some z => .ok z
  | none => .stuck
theorem reps_at {c : Cd α} {K : PySem.W.Frag} {H : Hp} {vs : List V} {xs : List α} {i : Int} {z : α} (h : Reps c K H vs xs) (e : atI xs i = some z) : ∃ v, atI vs i = some v ∧ c.rep K H v z := by
  unfold atI at e ⊢
  rw [h.length]
  cases q : ixN xs.length i with
  | none =>
    rw [q] at e
    cases e
  | some j =>
    rw [q] at e
    exact h.get e
theorem sem_ixL {W : XK} {K : PySem.W.Frag} {c : Cd α} : BinSem K W (rIxL K) (cL c) cI c getM := fun x y v u S H Q i r1 r2 P => by
  obtain ⟨p, vs, e, h1, h2⟩ := r1
  unfold getM at P
  cases q : atI x y with
  | none =>
    rw [q] at P
    exact P.elim
  | some z =>
    rw [q] at P
    obtain ⟨w, k1, k2⟩ := reps_at h2 q
    exact ⟨p, vs, y, w, e, r2, Same.seq i h1, k1, P.ok i k2⟩
theorem sem_ixT {W : XK} {K : PySem.W.Frag} {c : Cd α} : BinSem K W (rIxT K) (cT c) cI c getM := fun x y v u S H Q i r1 r2 P => by
  obtain ⟨p, vs, e, h1, h2⟩ := r1
  unfold getM at P
  cases q : atI x y with
  | none =>
    rw [q] at P
    exact P.elim
  | some z =>
    rw [q] at P
    obtain ⟨w, k1, k2⟩ := reps_at h2 q
    exact ⟨p, vs, y, w, e, r2, Same.tup i h1, k1, P.ok i k2⟩
theorem sem_ixLT {W : XK} {K : PySem.W.Frag} {c : Cd α} : BinSem K W (rIx K) (cLT c) cI c getM := fun x y v u S H Q i r1 r2 P => by
  rcases r1 with r1 | r1
  · exact .inl (sem_ixL x y v u S H Q i r1 r2 P)
  · exact .inr (.inl (sem_ixT x y v u S H Q i r1 r2 P))

theorem ixL_pp {c : Cd α} {x : List α} {y : Int} (ha : DE X W ds a (cL c) (.ok x)) (hb : DE X W ds b cI (.ok y)) (hp : PlainIx b := by exact fun _ _ => rfl) : DE X W ds (.Subscript a b pos) c (getM x y) := ix ix_list hp sem_ixL ha hb
theorem ixL_mp {c : Cd α} {m1 : R (List α)} {y : Int} (ha : DE X W ds a (cL c) m1) (hb : DE X W ds b cI (.ok y)) (hp : PlainIx b := by exact fun _ _ => rfl) : DE X W ds (.Subscript a b pos) c (m1 >>= fun x => getM x y) := ix ix_list hp sem_ixL ha hb
theorem ixL_pm {c : Cd α} {x : List α} {m2 : R Int} (ha : DE X W ds a (cL c) (.ok x)) (hb : DE X W ds b cI m2) (hp : PlainIx b := by exact fun _ _ => rfl) : DE X W ds (.Subscript a b pos) c (m2 >>= fun y => getM x y) := ix ix_list hp sem_ixL ha hb
theorem ixL_mm {c : Cd α} {m1 : R (List α)} {m2 : R Int} (ha : DE X W ds a (cL c) m1) (hb : DE X W ds b cI m2) (hp : PlainIx b := by exact fun _ _ => rfl) : DE X W ds (.Subscript a b pos) c (m1 >>= fun x => m2 >>= fun y => getM x y) := ix ix_list hp sem_ixL ha hb
theorem ixT_pp {c : Cd α} {x : List α} {y : Int} (ha : DE X W ds a (cT c) (.ok x)) (hb : DE X W ds b cI (.ok y)) (hp : PlainIx b := by exact fun _ _ => rfl) : DE X W ds (.Subscript a b pos) c (getM x y) := ix ix_tup hp sem_ixT ha hb
theorem ixT_mp {c : Cd α} {m1 : R (List α)} {y : Int} (ha : DE X W ds a (cT c) m1) (hb : DE X W ds b cI (.ok y)) (hp : PlainIx b := by exact fun _ _ => rfl) : DE X W ds (.Subscript a b pos) c (m1 >>= fun x => getM x y) := ix ix_tup hp sem_ixT ha hb
theorem ixT_pm {c : Cd α} {x : List α} {m2 : R Int} (ha : DE X W ds a (cT c) (.ok x)) (hb : DE X W ds b cI m2) (hp : PlainIx b := by exact fun _ _ => rfl) : DE X W ds (.Subscript a b pos) c (m2 >>= fun y => getM x y) := ix ix_tup hp sem_ixT ha hb
theorem ixT_mm {c : Cd α} {m1 : R (List α)} {m2 : R Int} (ha : DE X W ds a (cT c) m1) (hb : DE X W ds b cI m2) (hp : PlainIx b := by exact fun _ _ => rfl) : DE X W ds (.Subscript a b pos) c (m1 >>= fun x => m2 >>= fun y => getM x y) := ix ix_tup hp sem_ixT ha hb
theorem ixLT_pp {c : Cd α} {x : List α} {y : Int} (ha : DE X W ds a (cLT c) (.ok x)) (hb : DE X W ds b cI (.ok y)) (hp : PlainIx b := by exact fun _ _ => rfl) : DE X W ds (.Subscript a b pos) c (getM x y) := ix ix_seq hp sem_ixLT ha hb
theorem ixLT_mp {c : Cd α} {m1 : R (List α)} {y : Int} (ha : DE X W ds a (cLT c) m1) (hb : DE X W ds b cI (.ok y)) (hp : PlainIx b := by exact fun _ _ => rfl) : DE X W ds (.Subscript a b pos) c (m1 >>= fun x => getM x y) := ix ix_seq hp sem_ixLT ha hb
theorem ixLT_pm {c : Cd α} {x : List α} {m2 : R Int} (ha : DE X W ds a (cLT c) (.ok x)) (hb : DE X W ds b cI m2) (hp : PlainIx b := by exact fun _ _ => rfl) : DE X W ds (.Subscript a b pos) c (m2 >>= fun y => getM x y) := ix ix_seq hp sem_ixLT ha hb
theorem ixLT_mm {c : Cd α} {m1 : R (List α)} {m2 : R Int} (ha : DE X W ds a (cLT c) m1) (hb : DE X W ds b cI m2) (hp : PlainIx b := by exact fun _ _ => rfl) : DE X W ds (.Subscript a b pos) c (m1 >>= fun x => m2 >>= fun y => getM x y) := ix ix_seq hp sem_ixLT ha hb
/-- an item of a tuple of so many: AIx r i c p: the i-th, c its codec, p the place in the mirror -/
def AIx (r : CA τ) (i : Int) (n : Nat) (c : Cd γ) (pr : τ → γ) : Prop := ∀ K H vs z, r.rep K H vs z → ∃ v, atI vs i = some v ∧ c.rep K H v (pr z)
theorem ixP {r : CA τ} {i : Int} {n : Nat} {pr : τ → γ} {m : R τ} {j : Nat} {p2 : Pos} (h : AIx r i n c3 pr) (ha : DE X W ds a (cP r) m) (hp : PlainIx (.Constant (.int i) j p2) := by exact fun _ _ => rfl) : DE X W ds (.Subscript a (.Constant (.int i) j p2) pos) c3 (m >>= fun z => .ok (pr z)) := by
  obtain ⟨ta, pa, qa⟩ := ha
  refine ⟨_, pe_ix ix_tup pa pe_int hp, fun S0 H0 σ S H Q E P => qa S0 H0 σ S H _ E (P.bind fun z v S1 H1 g r1 P1 => ?_)⟩
  obtain ⟨q, vs, e, h1, h2⟩ := r1
  obtain ⟨w, k1, k2⟩ := h _ _ _ _ h2
  exact ⟨q, vs, i, w, e, rfl, Same.tup g.inn h1, k1, P1.ok g.inn k2⟩

theorem aix_0_1 {t0 : Type} {d0 : Cd t0} : AIx (aOne d0) 0 1 d0 (fun z : t0 => z) := by
  intro K H vs z h
  obtain ⟨v0, e0, r0⟩ := h
  subst e0
  exact ⟨v0, by first | rfl | simp [atI, ixN], r0⟩
theorem ix_0_1p {t0 : Type} {d0 : Cd t0} {z : t0} {j : Nat} {p2 : Pos} (ha : DE X W ds a (cP (aOne d0)) (.ok z)) (hp : PlainIx (.Constant (.int 0) j p2) := by exact fun _ _ => rfl) : DE X W ds (.Subscript a (.Constant (.int 0) j p2) pos) d0 (.ok (z)) := ixP aix_0_1 ha hp
theorem ix_0_1m {t0 : Type} {d0 : Cd t0} {m : R (t0)} {j : Nat} {p2 : Pos} (ha : DE X W ds a (cP (aOne d0)) m) (hp : PlainIx (.Constant (.int 0) j p2) := by exact fun _ _ => rfl) : DE X W ds (.Subscript a (.Constant (.int 0) j p2) pos) d0 (m >>= fun z => .ok (z)) := ixP aix_0_1 ha hp
theorem aix_0_2 {t0 : Type} {t1 : Type} {d0 : Cd t0} {d1 : Cd t1} : AIx (aCons d0 (aOne d1)) 0 2 d0 (fun z : t0 × t1 => z.1) := by
  intro K H vs z h
  obtain ⟨v0, ws0, e0, r0, h0⟩ := h
  obtain ⟨v1, e1, r1⟩ := h0
  subst e1 e0
  exact ⟨v0, by first | rfl | simp [atI, ixN], r0⟩
theorem ix_0_2p {t0 : Type} {t1 : Type} {d0 : Cd t0} {d1 : Cd t1} {z : t0 × t1} {j : Nat} {p2 : Pos} (ha : DE X W ds a (cP (aCons d0 (aOne d1))) (.ok z)) (hp : PlainIx (.Constant (.int 0) j p2) := by exact fun _ _ => rfl) : DE X W ds (.Subscript a (.Constant (.int 0) j p2) pos) d0 (.ok (z.1)) := ixP aix_0_2 ha hp
theorem ix_0_2m {t0 : Type} {t1 : Type} {d0 : Cd t0} {d1 : Cd t1} {m : R (t0 × t1)} {j : Nat} {p2 : Pos} (ha : DE X W ds a (cP (aCons d0 (aOne d1))) m) (hp : PlainIx (.Constant (.int 0) j p2) := by exact fun _ _ => rfl) : DE X W ds (.Subscript a (.Constant (.int 0) j p2) pos) d0 (m >>= fun z => .ok (z.1)) := ixP aix_0_2 ha hp
theorem aix_1_2 {t0 : Type} {t1 : Type} {d0 : Cd t0} {d1 : Cd t1} : AIx (aCons d0 (aOne d1)) 1 2 d1 (fun z : t0 × t1 => z.2) := by
  intro K H vs z h
  obtain ⟨v0, ws0, e0, r0, h0⟩ := h
  obtain ⟨v1, e1, r1⟩ := h0
  subst e1 e0
  exact ⟨v1, by first | rfl | simp [atI, ixN], r1⟩
theorem ix_1_2p {t0 : Type} {t1 : Type} {d0 : Cd t0} {d1 : Cd t1} {z : t0 × t1} {j : Nat} {p2 : Pos} (ha : DE X W ds a (cP (aCons d0 (aOne d1))) (.ok z)) (hp : PlainIx (.Constant (.int 1) j p2) := by exact fun _ _ => rfl) : DE X W ds (.Subscript a (.Constant (.int 1) j p2) pos) d1 (.ok (z.2)) := ixP aix_1_2 ha hp
theorem ix_1_2m {t0 : Type} {t1 : Type} {d0 : Cd t0} {d1 : Cd t1} {m : R (t0 × t1)} {j : Nat} {p2 : Pos} (ha : DE X W ds a (cP (aCons d0 (aOne d1))) m) (hp : PlainIx (.Constant (.int 1) j p2) := by exact fun _ _ => rfl) : DE X W ds (.Subscript a (.Constant (.int 1) j p2) pos) d1 (m >>= fun z => .ok (z.2)) := ixP aix_1_2 ha hp
theorem aix_0_3 {t0 : Type} {t1 : Type} {t2 : Type} {d0 : Cd t0} {d1 : Cd t1} {d2 : Cd t2} : AIx (aCons d0 (aCons d1 (aOne d2))) 0 3 d0 (fun z : t0 × t1 × t2 => z.1) := by
  intro K H vs z h
  obtain ⟨v0, ws0, e0, r0, h0⟩ := h
  obtain ⟨v1, ws1, e1, r1, h1⟩ := h0
  obtain ⟨v2, e2, r2⟩ := h1
  subst e2 e1 e0
  exact ⟨v0, by first | rfl | simp [atI, ixN], r0⟩
theorem ix_0_3p {t0 : Type} {t1 : Type} {t2 : Type} {d0 : Cd t0} {d1 : Cd t1} {d2 : Cd t2} {z : t0 × t1 × t2} {j : Nat} {p2 : Pos} (ha : DE X W ds a (cP (aCons d0 (aCons d1 (aOne d2)))) (.ok z)) (hp : PlainIx (.Constant (.int 0) j p2) := by exact fun _ _ => rfl) : DE X W ds (.Subscript a (.Constant (.int 0) j p2) pos) d0 (.ok (z.1)) := ixP aix_0_3 ha hp
theorem ix_0_3m {t0 : Type} {t1 : Type} {t2 : Type} {d0 : Cd t0} {d1 : Cd t1} {d2 : Cd t2} {m : R (t0 × t1 × t2)} {j : Nat} {p2 : Pos} (ha : DE X W ds a (cP (aCons d0 (aCons d1 (aOne d2)))) m) (hp : PlainIx (.Constant (.int 0) j p2) := by exact fun _ _ => rfl) : DE X W ds (.Subscript a (.Constant (.int 0) j p2) pos) d0 (m >>= fun z => .ok (z.1)) := ixP aix_0_3 ha hp
theorem aix_1_3 {t0 : Type} {t1 : Type} {t2 : Type} {d0 : Cd t0} {d1 : Cd t1} {d2 : Cd t2} : AIx (aCons d0 (aCons d1 (aOne d2))) 1 3 d1 (fun z : t0 × t1 × t2 => z.2.1) := by
  intro K H vs z h
  obtain ⟨v0, ws0, e0, r0, h0⟩ := h
  obtain ⟨v1, ws1, e1, r1, h1⟩ := h0
  obtain ⟨v2, e2, r2⟩ := h1
  subst e2 e1 e0
  exact ⟨v1, by first | rfl | simp [atI, ixN], r1⟩
theorem ix_1_3p {t0 : Type} {t1 : Type} {t2 : Type} {d0 : Cd t0} {d1 : Cd t1} {d2 : Cd t2} {z : t0 × t1 × t2} {j : Nat} {p2 : Pos} (ha : DE X W ds a (cP (aCons d0 (aCons d1 (aOne d2)))) (.ok z)) (hp : PlainIx (.Constant (.int 1) j p2) := by exact fun _ _ => rfl) : DE X W ds (.Subscript a (.Constant (.int 1) j p2) pos) d1 (.ok (z.2.1)) := ixP aix_1_3 ha hp
theorem ix_1_3m {t0 : Type} {t1 : Type} {t2 : Type} {d0 : Cd t0} {d1 : Cd t1} {d2 : Cd t2} {m : R (t0 × t1 × t2)} {j : Nat} {p2 : Pos} (ha : DE X W ds a (cP (aCons d0 (aCons d1 (aOne d2)))) m) (hp : PlainIx (.Constant (.int 1) j p2) := by exact fun _ _ => rfl) : DE X W ds (.Subscript a (.Constant (.int 1) j p2) pos) d1 (m >>= fun z => .ok (z.2.1)) := ixP aix_1_3 ha hp
theorem aix_2_3 {t0 : Type} {t1 : Type} {t2 : Type} {d0 : Cd t0} {d1 : Cd t1} {d2 : Cd t2} : AIx (aCons d0 (aCons d1 (aOne d2))) 2 3 d2 (fun z : t0 × t1 × t2 => z.2.2) := by
  intro K H vs z h
  obtain ⟨v0, ws0, e0, r0, h0⟩ := h
  obtain ⟨v1, ws1, e1, r1, h1⟩ := h0
  obtain ⟨v2, e2, r2⟩ := h1
  subst e2 e1 e0
  exact ⟨v2, by first | rfl | simp [atI, ixN], r2⟩
theorem ix_2_3p {t0 : Type} {t1 : Type} {t2 : Type} {d0 : Cd t0} {d1 : Cd t1} {d2 : Cd t2} {z : t0 × t1 × t2} {j : Nat} {p2 : Pos} (ha : DE X W ds a (cP (aCons d0 (aCons d1 (aOne d2)))) (.ok z)) (hp : PlainIx (.Constant (.int 2) j p2) := by exact fun _ _ => rfl) : DE X W ds (.Subscript a (.Constant (.int 2) j p2) pos) d2 (.ok (z.2.2)) := ixP aix_2_3 ha hp
theorem ix_2_3m {t0 : Type} {t1 : Type} {t2 : Type} {d0 : Cd t0} {d1 : Cd t1} {d2 : Cd t2} {m : R (t0 × t1 × t2)} {j : Nat} {p2 : Pos} (ha : DE X W ds a (cP (aCons d0 (aCons d1 (aOne d2)))) m) (hp : PlainIx (.Constant (.int 2) j p2) := by exact fun _ _ => rfl) : DE X W ds (.Subscript a (.Constant (.int 2) j p2) pos) d2 (m >>= fun z => .ok (z.2.2)) := ixP aix_2_3 ha hp
theorem aix_0_4 {t0 : Type} {t1 : Type} {t2 : Type} {t3 : Type} {d0 : Cd t0} {d1 : Cd t1} {d2 : Cd t2} {d3 : Cd t3} : AIx (aCons d0 (aCons d1 (aCons d2 (aOne d3)))) 0 4 d0 (fun z : t0 × t1 × t2 × t3 => z.1) := by
  intro K H vs z h
  obtain ⟨v0, ws0, e0, r0, h0⟩ := h
  obtain ⟨v1, ws1, e1, r1, h1⟩ := h0
  obtain ⟨v2, ws2, e2, r2, h2⟩ := h1
  obtain ⟨v3, e3, r3⟩ := h2
  subst e3 e2 e1 e0
  exact ⟨v0, by first | rfl | simp [atI, ixN], r0⟩
theorem ix_0_4p {t0 : Type} {t1 : Type} {t2 : Type} {t3 : Type} {d0 : Cd t0} {d1 : Cd t1} {d2 : Cd t2} {d3 : Cd t3} {z : t0 × t1 × t2 × t3} {j : Nat} {p2 : Pos} (ha : DE X W ds a (cP (aCons d0 (aCons d1 (aCons d2 (aOne d3))))) (.ok z)) (hp : PlainIx (.Constant (.int 0) j p2) := by exact fun _ _ => rfl) : DE X W ds (.Subscript a (.Constant (.int 0) j p2) pos) d0 (.ok (z.1)) := ixP aix_0_4 ha hp
theorem ix_0_4m {t0 : Type} {t1 : Type} {t2 : Type} {t3 : Type} {d0 : Cd t0} {d1 : Cd t1} {d2 : Cd t2} {d3 : Cd t3} {m : R (t0 × t1 × t2 × t3)} {j : Nat} {p2 : Pos} (ha : DE X W ds a (cP (aCons d0 (aCons d1 (aCons d2 (aOne d3))))) m) (hp : PlainIx (.Constant (.int 0) j p2) := by exact fun _ _ => rfl) : DE X W ds (.Subscript a (.Constant (.int 0) j p2) pos) d0 (m >>= fun z => .ok (z.1)) := ixP aix_0_4 ha hp
theorem aix_1_4 {t0 : Type} {t1 : Type} {t2 : Type} {t3 : Type} {d0 : Cd t0} {d1 : Cd t1} {d2 : Cd t2} {d3 : Cd t3} : AIx (aCons d0 (aCons d1 (aCons d2 (aOne d3)))) 1 4 d1 (fun z : t0 × t1 × t2 × t3 => z.2.1) := by
  intro K H vs z h
  obtain ⟨v0, ws0, e0, r0, h0⟩ := h
  obtain ⟨v1, ws1, e1, r1, h1⟩ := h0
  obtain ⟨v2, ws2, e2, r2, h2⟩ := h1
  obtain ⟨v3, e3, r3⟩ := h2
  subst e3 e2 e1 e0
  exact ⟨v1, by first | rfl | simp [atI, ixN], r1⟩
theorem ix_1_4p {t0 : Type} {t1 : Type} {t2 : Type} {t3 : Type} {d0 : Cd t0} {d1 : Cd t1} {d2 : Cd t2} {d3 : Cd t3} {z : t0 × t1 × t2 × t3} {j : Nat} {p2 : Pos} (ha : DE X W ds a (cP (aCons d0 (aCons d1 (aCons d2 (aOne d3))))) (.ok z)) (hp : PlainIx (.Constant (.int 1) j p2) := by exact fun _ _ => rfl) : DE X W ds (.Subscript a (.Constant (.int 1) j p2) pos) d1 (.ok (z.2.1)) := ixP aix_1_4 ha hp
theorem ix_1_4m {t0 : Type} {t1 : Type} {t2 : Type} {t3 : Type} {d0 : Cd t0} {d1 : Cd t1} {d2 : Cd t2} {d3 : Cd t3} {m : R (t0 × t1 × t2 × t3)} {j : Nat} {p2 : Pos} (ha : DE X W ds a (cP (aCons d0 (aCons d1 (aCons d2 (aOne d3))))) m) (hp : PlainIx (.Constant (.int 1) j p2) := by exact fun _ _ => rfl) : DE X W ds (.Subscript a (.Constant (.int 1) j p2) pos) d1 (m >>= fun z => .ok (z.2.1)) := ixP aix_1_4 ha hp
theorem aix_2_4 {t0 : Type} {t1 : Type} {t2 : Type} {t3 : Type} {d0 : Cd t0} {d1 : Cd t1} {d2 : Cd t2} {d3 : Cd t3} : AIx (aCons d0 (aCons d1 (aCons d2 (aOne d3)))) 2 4 d2 (fun z : t0 × t1 × t2 × t3 => z.2.2.1) := by
  intro K H vs z h
  obtain ⟨v0, ws0, e0, r0, h0⟩ := h
  obtain ⟨v1, ws1, e1, r1, h1⟩ := h0
  obtain ⟨v2, ws2, e2, r2, h2⟩ := h1
  obtain ⟨v3, e3, r3⟩ := h2
  subst e3 e2 e1 e0
  exact ⟨v2, by first | rfl | simp [atI, ixN], r2⟩
theorem ix_2_4p {t0 : Type} {t1 : Type} {t2 : Type} {t3 : Type} {d0 : Cd t0} {d1 : Cd t1} {d2 : Cd t2} {d3 : Cd t3} {z : t0 × t1 × t2 × t3} {j : Nat} {p2 : Pos} (ha : DE X W ds a (cP (aCons d0 (aCons d1 (aCons d2 (aOne d3))))) (.ok z)) (hp : PlainIx (.Constant (.int 2) j p2) := by exact fun _ _ => rfl) : DE X W ds (.Subscript a (.Constant (.int 2) j p2) pos) d2 (.ok (z.2.2.1)) := ixP aix_2_4 ha hp
theorem ix_2_4m {t0 : Type} {t1 : Type} {t2 : Type} {t3 : Type} {d0 : Cd t0} {d1 : Cd t1} {d2 : Cd t2} {d3 : Cd t3} {m : R (t0 × t1 × t2 × t3)} {j : Nat} {p2 : Pos} (ha : DE X W ds a (cP (aCons d0 (aCons d1 (aCons d2 (aOne d3))))) m) (hp : PlainIx (.Constant (.int 2) j p2) := by exact fun _ _ => rfl) : DE X W ds (.Subscript a (.Constant (.int 2) j p2) pos) d2 (m >>= fun z => .ok (z.2.2.1)) := ixP aix_2_4 ha hp
theorem aix_3_4 {t0 : Type} {t1 : Type} {t2 : Type} {t3 : Type} {d0 : Cd t0} {d1 : Cd t1} {d2 : Cd t2} {d3 : Cd t3} : AIx (aCons d0 (aCons d1 (aCons d2 (aOne d3)))) 3 4 d3 (fun z : t0 × t1 × t2 × t3 => z.2.2.2) := by
  intro K H vs z h
  obtain ⟨v0, ws0, e0, r0, h0⟩ := h
  obtain ⟨v1, ws1, e1, r1, h1⟩ := h0
  obtain ⟨v2, ws2, e2, r2, h2⟩ := h1
  obtain ⟨v3, e3, r3⟩ := h2
  subst e3 e2 e1 e0
  exact ⟨v3, by first | rfl | simp [atI, ixN], r3⟩
theorem ix_3_4p {t0 : Type} {t1 : Type} {t2 : Type} {t3 : Type} {d0 : Cd t0} {d1 : Cd t1} {d2 : Cd t2} {d3 : Cd t3} {z : t0 × t1 × t2 × t3} {j : Nat} {p2 : Pos} (ha : DE X W ds a (cP (aCons d0 (aCons d1 (aCons d2 (aOne d3))))) (.ok z)) (hp : PlainIx (.Constant (.int 3) j p2) := by exact fun _ _ => rfl) : DE X W ds (.Subscript a (.Constant (.int 3) j p2) pos) d3 (.ok (z.2.2.2)) := ixP aix_3_4 ha hp
theorem ix_3_4m {t0 : Type} {t1 : Type} {t2 : Type} {t3 : Type} {d0 : Cd t0} {d1 : Cd t1} {d2 : Cd t2} {d3 : Cd t3} {m : R (t0 × t1 × t2 × t3)} {j : Nat} {p2 : Pos} (ha : DE X W ds a (cP (aCons d0 (aCons d1 (aCons d2 (aOne d3))))) m) (hp : PlainIx (.Constant (.int 3) j p2) := by exact fun _ _ => rfl) : DE X W ds (.Subscript a (.Constant (.int 3) j p2) pos) d3 (m >>= fun z => .ok (z.2.2.2)) := ixP aix_3_4 ha hp
theorem aix_0_5 {t0 : Type} {t1 : Type} {t2 : Type} {t3 : Type} {t4 : Type} {d0 : Cd t0} {d1 : Cd t1} {d2 : Cd t2} {d3 : Cd t3} {d4 : Cd t4} : AIx (aCons d0 (aCons d1 (aCons d2 (aCons d3 (aOne d4))))) 0 5 d0 (fun z : t0 × t1 × t2 × t3 × t4 => z.1) := by
  intro K H vs z h
  obtain ⟨v0, ws0, e0, r0, h0⟩ := h
  obtain ⟨v1, ws1, e1, r1, h1⟩ := h0
  obtain ⟨v2, ws2, e2, r2, h2⟩ := h1
  obtain ⟨v3, ws3, e3, r3, h3⟩ := h2
  obtain ⟨v4, e4, r4⟩ := h3
  subst e4 e3 e2 e1 e0
  exact ⟨v0, by first | rfl | simp [atI, ixN], r0⟩
theorem ix_0_5p {t0 : Type} {t1 : Type} {t2 : Type} {t3 : Type} {t4 : Type} {d0 : Cd t0} {d1 : Cd t1} {d2 : Cd t2} {d3 : Cd t3} {d4 : Cd t4} {z : t0 × t1 × t2 × t3 × t4} {j : Nat} {p2 : Pos} (ha : DE X W ds a (cP (aCons d0 (aCons d1 (aCons d2 (aCons d3 (aOne d4)))))) (.ok z)) (hp : PlainIx (.Constant (.int 0) j p2) := by exact fun _ _ => rfl) : DE X W ds (.Subscript a (.Constant (.int 0) j p2) pos) d0 (.ok (z.1)) := ixP aix_0_5 ha hp
theorem ix_0_5m {t0 : Type} {t1 : Type} {t2 : Type} {t3 : Type} {t4 : Type} {d0 : Cd t0} {d1 : Cd t1} {d2 : Cd t2} {d3 : Cd t3} {d4 : Cd t4} {m : R (t0 × t1 × t2 × t3 × t4)} {j : Nat} {p2 : Pos} (ha : DE X W ds a (cP (aCons d0 (aCons d1 (aCons d2 (aCons d3 (aOne d4)))))) m) (hp : PlainIx (.Constant (.int 0) j p2) := by exact fun _ _ => rfl) : DE X W ds (.Subscript a (.Constant (.int 0) j p2) pos) d0 (m >>= fun z => .ok (z.1)) := ixP aix_0_5 ha hp
theorem aix_1_5 {t0 : Type} {t1 : Type} {t2 : Type} {t3 : Type} {t4 : Type} {d0 : Cd t0} {d1 : Cd t1} {d2 : Cd t2} {d3 : Cd t3} {d4 : Cd t4} : AIx (aCons d0 (aCons d1 (aCons d2 (aCons d3 (aOne d4))))) 1 5 d1 (fun z : t0 × t1 × t2 × t3 × t4 => z.2.1) := by
  intro K H vs z h
  obtain ⟨v0, ws0, e0, r0, h0⟩ := h
  obtain ⟨v1, ws1, e1, r1, h1⟩ := h0
  obtain ⟨v2, ws2, e2, r2, h2⟩ := h1
  obtain ⟨v3, ws3, e3, r3, h3⟩ := h2
  obtain ⟨v4, e4, r4⟩ := h3
  subst e4 e3 e2 e1 e0
  exact ⟨v1, by first | rfl | simp [atI, ixN], r1⟩
theorem ix_1_5p {t0 : Type} {t1 : Type} {t2 : Type} {t3 : Type} {t4 : Type} {d0 : Cd t0} {d1 : Cd t1} {d2 : Cd t2} {d3 : Cd t3} {d4 : Cd t4} {z : t0 × t1 × t2 × t3 × t4} {j : Nat} {p2 : Pos} (ha : DE X W ds a (cP (aCons d0 (aCons d1 (aCons d2 (aCons d3 (aOne d4)))))) (.ok z)) (hp : PlainIx (.Constant (.int 1) j p2) := by exact fun _ _ => rfl) : DE X W ds (.Subscript a (.Constant (.int 1) j p2) pos) d1 (.ok (z.2.1)) := ixP aix_1_5 ha hp
theorem ix_1_5m {t0 : Type} {t1 : Type} {t2 : Type} {t3 : Type} {t4 : Type} {d0 : Cd t0} {d1 : Cd t1} {d2 : Cd t2} {d3 : Cd t3} {d4 : Cd t4} {m : R (t0 × t1 × t2 × t3 × t4)} {j : Nat} {p2 : Pos} (ha : DE X W ds a (cP (aCons d0 (aCons d1 (aCons d2 (aCons d3 (aOne d4)))))) m) (hp : PlainIx (.Constant (.int 1) j p2) := by exact fun _ _ => rfl) : DE X W ds (.Subscript a (.Constant (.int 1) j p2) pos) d1 (m >>= fun z => .ok (z.2.1)) := ixP aix_1_5 ha hp
theorem aix_2_5 {t0 : Type} {t1 : Type} {t2 : Type} {t3 : Type} {t4 : Type} {d0 : Cd t0} {d1 : Cd t1} {d2 : Cd t2} {d3 : Cd t3} {d4 : Cd t4} : AIx (aCons d0 (aCons d1 (aCons d2 (aCons d3 (aOne d4))))) 2 5 d2 (fun z : t0 × t1 × t2 × t3 × t4 => z.2.2.1) := by
  intro K H vs z h
  obtain ⟨v0, ws0, e0, r0, h0⟩ := h
  obtain ⟨v1, ws1, e1, r1, h1⟩ := h0
  obtain ⟨v2, ws2, e2, r2, h2⟩ := h1
  obtain ⟨v3, ws3, e3, r3, h3⟩ := h2
  obtain ⟨v4, e4, r4⟩ := h3
  subst e4 e3 e2 e1 e0
  exact ⟨v2, by first | rfl | simp [atI, ixN], r2⟩
theorem ix_2_5p {t0 : Type} {t1 : Type} {t2 : Type} {t3 : Type} {t4 : Type} {d0 : Cd t0} {d1 : Cd t1} {d2 : Cd t2} {d3 : Cd t3} {d4 : Cd t4} {z : t0 × t1 × t2 × t3 × t4} {j : Nat} {p2 : Pos} (ha : DE X W ds a (cP (aCons d0 (aCons d1 (aCons d2 (aCons d3 (aOne d4)))))) (.ok z)) (hp : PlainIx (.Constant (.int 2) j p2) := by exact fun _ _ => rfl) : DE X W ds (.Subscript a (.Constant (.int 2) j p2) pos) d2 (.ok (z.2.2.1)) := ixP aix_2_5 ha hp
theorem ix_2_5m {t0 : Type} {t1 : Type} {t2 : Type} {t3 : Type} {t4 : Type} {d0 : Cd t0} {d1 : Cd t1} {d2 : Cd t2} {d3 : Cd t3} {d4 : Cd t4} {m : R (t0 × t1 × t2 × t3 × t4)} {j : Nat} {p2 : Pos} (ha : DE X W ds a (cP (aCons d0 (aCons d1 (aCons d2 (aCons d3 (aOne d4)))))) m) (hp : PlainIx (.Constant (.int 2) j p2) := by exact fun _ _ => rfl) : DE X W ds (.Subscript a (.Constant (.int 2) j p2) pos) d2 (m >>= fun z => .ok (z.2.2.1)) := ixP aix_2_5 ha hp
theorem aix_3_5 {t0 : Type} {t1 : Type} {t2 : Type} {t3 : Type} {t4 : Type} {d0 : Cd t0} {d1 : Cd t1} {d2 : Cd t2} {d3 : Cd t3} {d4 : Cd t4} : AIx (aCons d0 (aCons d1 (aCons d2 (aCons d3 (aOne d4))))) 3 5 d3 (fun z : t0 × t1 × t2 × t3 × t4 => z.2.2.2.1) := by
  intro K H vs z h
  obtain ⟨v0, ws0, e0, r0, h0⟩ := h
  obtain ⟨v1, ws1, e1, r1, h1⟩ := h0
  obtain ⟨v2, ws2, e2, r2, h2⟩ := h1
  obtain ⟨v3, ws3, e3, r3, h3⟩ := h2
  obtain ⟨v4, e4, r4⟩ := h3
  subst e4 e3 e2 e1 e0
  exact ⟨v3, by first | rfl | simp [atI, ixN], r3⟩
theorem ix_3_5p {t0 : Type} {t1 : Type} {t2 : Type} {t3 : Type} {t4 : Type} {d0 : Cd t0} {d1 : Cd t1} {d2 : Cd t2} {d3 : Cd t3} {d4 : Cd t4} {z : t0 × t1 × t2 × t3 × t4} {j : Nat} {p2 : Pos} (ha : DE X W ds a (cP (aCons d0 (aCons d1 (aCons d2 (aCons d3 (aOne d4)))))) (.ok z)) (hp : PlainIx (.Constant (.int 3) j p2) := by exact fun _ _ => rfl) : DE X W ds (.Subscript a (.Constant (.int 3) j p2) pos) d3 (.ok (z.2.2.2.1)) := ixP aix_3_5 ha hp
theorem ix_3_5m {t0 : Type} {t1 : Type} {t2 : Type} {t3 : Type} {t4 : Type} {d0 : Cd t0} {d1 : Cd t1} {d2 : Cd t2} {d3 : Cd t3} {d4 : Cd t4} {m : R (t0 × t1 × t2 × t3 × t4)} {j : Nat} {p2 : Pos} (ha : DE X W ds a (cP (aCons d0 (aCons d1 (aCons d2 (aCons d3 (aOne d4)))))) m) (hp : PlainIx (.Constant (.int 3) j p2) := by exact fun _ _ => rfl) : DE X W ds (.Subscript a (.Constant (.int 3) j p2) pos) d3 (m >>= fun z => .ok (z.2.2.2.1)) := ixP aix_3_5 ha hp
theorem aix_4_5 {t0 : Type} {t1 : Type} {t2 : Type} {t3 : Type} {t4 : Type} {d0 : Cd t0} {d1 : Cd t1} {d2 : Cd t2} {d3 : Cd t3} {d4 : Cd t4} : AIx (aCons d0 (aCons d1 (aCons d2 (aCons d3 (aOne d4))))) 4 5 d4 (fun z : t0 × t1 × t2 × t3 × t4 => z.2.2.2.2) := by
  intro K H vs z h
  obtain ⟨v0, ws0, e0, r0, h0⟩ := h
  obtain ⟨v1, ws1, e1, r1, h1⟩ := h0
  obtain ⟨v2, ws2, e2, r2, h2⟩ := h1
  obtain ⟨v3, ws3, e3, r3, h3⟩ := h2
  obtain ⟨v4, e4, r4⟩ := h3
  subst e4 e3 e2 e1 e0
  exact ⟨v4, by first | rfl | simp [atI, ixN], r4⟩
theorem ix_4_5p {t0 : Type} {t1 : Type} {t2 : Type} {t3 : Type} {t4 : Type} {d0 : Cd t0} {d1 : Cd t1} {d2 : Cd t2} {d3 : Cd t3} {d4 : Cd t4} {z : t0 × t1 × t2 × t3 × t4} {j : Nat} {p2 : Pos} (ha : DE X W ds a (cP (aCons d0 (aCons d1 (aCons d2 (aCons d3 (aOne d4)))))) (.ok z)) (hp : PlainIx (.Constant (.int 4) j p2) := by exact fun _ _ => rfl) : DE X W ds (.Subscript a (.Constant (.int 4) j p2) pos) d4 (.ok (z.2.2.2.2)) := ixP aix_4_5 ha hp
theorem ix_4_5m {t0 : Type} {t1 : Type} {t2 : Type} {t3 : Type} {t4 : Type} {d0 : Cd t0} {d1 : Cd t1} {d2 : Cd t2} {d3 : Cd t3} {d4 : Cd t4} {m : R (t0 × t1 × t2 × t3 × t4)} {j : Nat} {p2 : Pos} (ha : DE X W ds a (cP (aCons d0 (aCons d1 (aCons d2 (aCons d3 (aOne d4)))))) m) (hp : PlainIx (.Constant (.int 4) j p2) := by exact fun _ _ => rfl) : DE X W ds (.Subscript a (.Constant (.int 4) j p2) pos) d4 (m >>= fun z => .ok (z.2.2.2.2)) := ixP aix_4_5 ha hp
theorem aix_0_6 {t0 : Type} {t1 : Type} {t2 : Type} {t3 : Type} {t4 : Type} {t5 : Type} {d0 : Cd t0} {d1 : Cd t1} {d2 : Cd t2} {d3 : Cd t3} {d4 : Cd t4} {d5 : Cd t5} : AIx (aCons d0 (aCons d1 (aCons d2 (aCons d3 (aCons d4 (aOne d5)))))) 0 6 d0 (fun z : t0 × t1 × t2 × t3 × t4 × t5 => z.1) := by
  intro K H vs z h
  obtain ⟨v0, ws0, e0, r0, h0⟩ := h
  obtain ⟨v1, ws1, e1, r1, h1⟩ := h0
  obtain ⟨v2, ws2, e2, r2, h2⟩ := h1
  obtain ⟨v3, ws3, e3, r3, h3⟩ := h2
  obtain ⟨v4, ws4, e4, r4, h4⟩ := h3
  obtain ⟨v5, e5, r5⟩ := h4
  subst e5 e4 e3 e2 e1 e0
  exact ⟨v0, by first | rfl | simp [atI, ixN], r0⟩
theorem ix_0_6p {t0 : Type} {t1 : Type} {t2 : Type} {t3 : Type} {t4 : Type} {t5 : Type} {d0 : Cd t0} {d1 : Cd t1} {d2 : Cd t2} {d3 : Cd t3} {d4 : Cd t4} {d5 : Cd t5} {z : t0 × t1 × t2 × t3 × t4 × t5} {j : Nat} {p2 : Pos} (ha : DE X W ds a (cP (aCons d0 (aCons d1 (aCons d2 (aCons d3 (aCons d4 (aOne d5))))))) (.ok z)) (hp : PlainIx (.Constant (.int 0) j p2) := by exact fun _ _ => rfl) : DE X W ds (.Subscript a (.Constant (.int 0) j p2) pos) d0 (.ok (z.1)) := ixP aix_0_6 ha hp
theorem ix_0_6m {t0 : Type} {t1 : Type} {t2 : Type} {t3 : Type} {t4 : Type} {t5 : Type} {d0 : Cd t0} {d1 : Cd t1} {d2 : Cd t2} {d3 : Cd t3} {d4 : Cd t4} {d5 : Cd t5} {m : R (t0 × t1 × t2 × t3 × t4 × t5)} {j : Nat} {p2 : Pos} (ha : DE X W ds a (cP (aCons d0 (aCons d1 (aCons d2 (aCons d3 (aCons d4 (aOne d5))))))) m) (hp : PlainIx (.Constant (.int 0) j p2) := by exact fun _ _ => rfl) : DE X W ds (.Subscript a (.Constant (.int 0) j p2) pos) d0 (m >>= fun z => .ok (z.1)) := ixP aix_0_6 ha hp
theorem aix_1_6 {t0 : Type} {t1 : Type} {t2 : Type} {t3 : Type} {t4 : Type} {t5 : Type} {d0 : Cd t0} {d1 : Cd t1} {d2 : Cd t2} {d3 : Cd t3} {d4 : Cd t4} {d5 : Cd t5} : AIx (aCons d0 (aCons d1 (aCons d2 (aCons d3 (aCons d4 (aOne d5)))))) 1 6 d1 (fun z : t0 × t1 × t2 × t3 × t4 × t5 => z.2.1) := by
  intro K H vs z h
  obtain ⟨v0, ws0, e0, r0, h0⟩ := h
  obtain ⟨v1, ws1, e1, r1, h1⟩ := h0
  obtain ⟨v2, ws2, e2, r2, h2⟩ := h1
  obtain ⟨v3, ws3, e3, r3, h3⟩ := h2
  obtain ⟨v4, ws4, e4, r4, h4⟩ := h3
  obtain ⟨v5, e5, r5⟩ := h4
  subst e5 e4 e3 e2 e1 e0
  exact ⟨v1, by first | rfl | simp [atI, ixN], r1⟩
theorem ix_1_6p {t0 : Type} {t1 : Type} {t2 : Type} {t3 : Type} {t4 : Type} {t5 : Type} {d0 : Cd t0} {d1 : Cd t1} {d2 : Cd t2} {d3 : Cd t3} {d4 : Cd t4} {d5 : Cd t5} {z : t0 × t1 × t2 × t3 × t4 × t5} {j : Nat} {p2 : Pos} (ha : DE X W ds a (cP (aCons d0 (aCons d1 (aCons d2 (aCons d3 (aCons d4 (aOne d5))))))) (.ok z)) (hp : PlainIx (.Constant (.int 1) j p2) := by exact fun _ _ => rfl) : DE X W ds (.Subscript a (.Constant (.int 1) j p2) pos) d1 (.ok (z.2.1)) := ixP aix_1_6 ha hp
theorem ix_1_6m {t0 : Type} {t1 : Type} {t2 : Type} {t3 : Type} {t4 : Type} {t5 : Type} {d0 : Cd t0} {d1 : Cd t1} {d2 : Cd t2} {d3 : Cd t3} {d4 : Cd t4} {d5 : Cd t5} {m : R (t0 × t1 × t2 × t3 × t4 × t5)} {j : Nat} {p2 : Pos} (ha : DE X W ds a (cP (aCons d0 (aCons d1 (aCons d2 (aCons d3 (aCons d4 (aOne d5))))))) m) (hp : PlainIx (.Constant (.int 1) j p2) := by exact fun _ _ => rfl) : DE X W ds (.Subscript a (.Constant (.int 1) j p2) pos) d1 (m >>= fun z => .ok (z.2.1)) := ixP aix_1_6 ha hp
theorem aix_2_6 {t0 : Type} {t1 : Type} {t2 : Type} {t3 : Type} {t4 : Type} {t5 : Type} {d0 : Cd t0} {d1 : Cd t1} {d2 : Cd t2} {d3 : Cd t3} {d4 : Cd t4} {d5 : Cd t5} : AIx (aCons d0 (aCons d1 (aCons d2 (aCons d3 (aCons d4 (aOne d5)))))) 2 6 d2 (fun z : t0 × t1 × t2 × t3 × t4 × t5 => z.2.2.1) := by
  intro K H vs z h
  obtain ⟨v0, ws0, e0, r0, h0⟩ := h
  obtain ⟨v1, ws1, e1, r1, h1⟩ := h0
  obtain ⟨v2, ws2, e2, r2, h2⟩ := h1
  obtain ⟨v3, ws3, e3, r3, h3⟩ := h2
  obtain ⟨v4, ws4, e4, r4, h4⟩ := h3
  obtain ⟨v5, e5, r5⟩ := h4
  subst e5 e4 e3 e2 e1 e0
  exact ⟨v2, by first | rfl | simp [atI, ixN], r2⟩
theorem ix_2_6p {t0 : Type} {t1 : Type} {t2 : Type} {t3 : Type} {t4 : Type} {t5 : Type} {d0 : Cd t0} {d1 : Cd t1} {d2 : Cd t2} {d3 : Cd t3} {d4 : Cd t4} {d5 : Cd t5} {z : t0 × t1 × t2 × t3 × t4 × t5} {j : Nat} {p2 : Pos} (ha : DE X W ds a (cP (aCons d0 (aCons d1 (aCons d2 (aCons d3 (aCons d4 (aOne d5))))))) (.ok z)) (hp : PlainIx (.Constant (.int 2) j p2) := by exact fun _ _ => rfl) : DE X W ds (.Subscript a (.Constant (.int 2) j p2) pos) d2 (.ok (z.2.2.1)) := ixP aix_2_6 ha hp
theorem ix_2_6m {t0 : Type} {t1 : Type} {t2 : Type} {t3 : Type} {t4 : Type} {t5 : Type} {d0 : Cd t0} {d1 : Cd t1} {d2 : Cd t2} {d3 : Cd t3} {d4 : Cd t4} {d5 : Cd t5} {m : R (t0 × t1 × t2 × t3 × t4 × t5)} {j : Nat} {p2 : Pos} (ha : DE X W ds a (cP (aCons d0 (aCons d1 (aCons d2 (aCons d3 (aCons d4 (aOne d5))))))) m) (hp : PlainIx (.Constant (.int 2) j p2) := by exact fun _ _ => rfl) : DE X W ds (.Subscript a (.Constant (.int 2) j p2) pos) d2 (m >>= fun z => .ok (z.2.2.1)) := ixP aix_2_6 ha hp
theorem aix_3_6 {t0 : Type} {t1 : Type} {t2 : Type} {t3 : Type} {t4 : Type} {t5 : Type} {d0 : Cd t0} {d1 : Cd t1} {d2 : Cd t2} {d3 : Cd t3} {d4 : Cd t4} {d5 : Cd t5} : AIx (aCons d0 (aCons d1 (aCons d2 (aCons d3 (aCons d4 (aOne d5)))))) 3 6 d3 (fun z : t0 × t1 × t2 × t3 × t4 × t5 => z.2.2.2.1) := by
  intro K H vs z h
  obtain ⟨v0, ws0, e0, r0, h0⟩ := h
  obtain ⟨v1, ws1, e1, r1, h1⟩ := h0
  obtain ⟨v2, ws2, e2, r2, h2⟩ := h1
  obtain ⟨v3, ws3, e3, r3, h3⟩ := h2
  obtain ⟨v4, ws4, e4, r4, h4⟩ := h3
  obtain ⟨v5, e5, r5⟩ := h4
  subst e5 e4 e3 e2 e1 e0
  exact ⟨v3, by first | rfl | simp [atI, ixN], r3⟩
theorem ix_3_6p {t0 : Type} {t1 : Type} {t2 : Type} {t3 : Type} {t4 : Type} {t5 : Type} {d0 : Cd t0} {d1 : Cd t1} {d2 : Cd t2} {d3 : Cd t3} {d4 : Cd t4} {d5 : Cd t5} {z : t0 × t1 × t2 × t3 × t4 × t5} {j : Nat} {p2 : Pos} (ha : DE X W ds a (cP (aCons d0 (aCons d1 (aCons d2 (aCons d3 (aCons d4 (aOne d5))))))) (.ok z)) (hp : PlainIx (.Constant (.int 3) j p2) := by exact fun _ _ => rfl) : DE X W ds (.Subscript a (.Constant (.int 3) j p2) pos) d3 (.ok (z.2.2.2.1)) := ixP aix_3_6 ha hp
theorem ix_3_6m {t0 : Type} {t1 : Type} {t2 : Type} {t3 : Type} {t4 : Type} {t5 : Type} {d0 : Cd t0} {d1 : Cd t1} {d2 : Cd t2} {d3 : Cd t3} {d4 : Cd t4} {d5 : Cd t5} {m : R (t0 × t1 × t2 × t3 × t4 × t5)} {j : Nat} {p2 : Pos} (ha : DE X W ds a (cP (aCons d0 (aCons d1 (aCons d2 (aCons d3 (aCons d4 (aOne d5))))))) m) (hp : PlainIx (.Constant (.int 3) j p2) := by exact fun _ _ => rfl) : DE X W ds (.Subscript a (.Constant (.int 3) j p2) pos) d3 (m >>= fun z => .ok (z.2.2.2.1)) := ixP aix_3_6 ha hp
theorem aix_4_6 {t0 : Type} {t1 : Type} {t2 : Type} {t3 : Type} {t4 : Type} {t5 : Type} {d0 : Cd t0} {d1 : Cd t1} {d2 : Cd t2} {d3 : Cd t3} {d4 : Cd t4} {d5 : Cd t5} : AIx (aCons d0 (aCons d1 (aCons d2 (aCons d3 (aCons d4 (aOne d5)))))) 4 6 d4 (fun z : t0 × t1 × t2 × t3 × t4 × t5 => z.2.2.2.2.1) := by
  intro K H vs z h
  obtain ⟨v0, ws0, e0, r0, h0⟩ := h
  obtain ⟨v1, ws1, e1, r1, h1⟩ := h0
  obtain ⟨v2, ws2, e2, r2, h2⟩ := h1
  obtain ⟨v3, ws3, e3, r3, h3⟩ := h2
  obtain ⟨v4, ws4, e4, r4, h4⟩ := h3
  obtain ⟨v5, e5, r5⟩ := h4
  subst e5 e4 e3 e2 e1 e0
  exact ⟨v4, by first | rfl | simp [atI, ixN], r4⟩
theorem ix_4_6p {t0 : Type} {t1 : Type} {t2 : Type} {t3 : Type} {t4 : Type} {t5 : Type} {d0 : Cd t0} {d1 : Cd t1} {d2 : Cd t2} {d3 : Cd t3} {d4 : Cd t4} {d5 : Cd t5} {z : t0 × t1 × t2 × t3 × t4 × t5} {j : Nat} {p2 : Pos} (ha : DE X W ds a (cP (aCons d0 (aCons d1 (aCons d2 (aCons d3 (aCons d4 (aOne d5))))))) (.ok z)) (hp : PlainIx (.Constant (.int 4) j p2) := by exact fun _ _ => rfl) : DE X W ds (.Subscript a (.Constant (.int 4) j p2) pos) d4 (.ok (z.2.2.2.2.1)) := ixP aix_4_6 ha hp
theorem ix_4_6m {t0 : Type} {t1 : Type} {t2 : Type} {t3 : Type} {t4 : Type} {t5 : Type} {d0 : Cd t0} {d1 : Cd t1} {d2 : Cd t2} {d3 : Cd t3} {d4 : Cd t4} {d5 : Cd t5} {m : R (t0 × t1 × t2 × t3 × t4 × t5)} {j : Nat} {p2 : Pos} (ha : DE X W ds a (cP (aCons d0 (aCons d1 (aCons d2 (aCons d3 (aCons d4 (aOne d5))))))) m) (hp : PlainIx (.Constant (.int 4) j p2) := by exact fun _ _ => rfl) : DE X W ds (.Subscript a (.Constant (.int 4) j p2) pos) d4 (m >>= fun z => .ok (z.2.2.2.2.1)) := ixP aix_4_6 ha hp
theorem aix_5_6 {t0 : Type} {t1 : Type} {t2 : Type} {t3 : Type} {t4 : Type} {t5 : Type} {d0 : Cd t0} {d1 : Cd t1} {d2 : Cd t2} {d3 : Cd t3} {d4 : Cd t4} {d5 : Cd t5} : AIx (aCons d0 (aCons d1 (aCons d2 (aCons d3 (aCons d4 (aOne d5)))))) 5 6 d5 (fun z : t0 × t1 × t2 × t3 × t4 × t5 => z.2.2.2.2.2) := by
  intro K H vs z h
  obtain ⟨v0, ws0, e0, r0, h0⟩ := h
  obtain ⟨v1, ws1, e1, r1, h1⟩ := h0
  obtain ⟨v2, ws2, e2, r2, h2⟩ := h1
  obtain ⟨v3, ws3, e3, r3, h3⟩ := h2
  obtain ⟨v4, ws4, e4, r4, h4⟩ := h3
  obtain ⟨v5, e5, r5⟩ := h4
  subst e5 e4 e3 e2 e1 e0
  exact ⟨v5, by first | rfl | simp [atI, ixN], r5⟩
theorem ix_5_6p {t0 : Type} {t1 : Type} {t2 : Type} {t3 : Type} {t4 : Type} {t5 : Type} {d0 : Cd t0} {d1 : Cd t1} {d2 : Cd t2} {d3 : Cd t3} {d4 : Cd t4} {d5 : Cd t5} {z : t0 × t1 × t2 × t3 × t4 × t5} {j : Nat} {p2 : Pos} (ha : DE X W ds a (cP (aCons d0 (aCons d1 (aCons d2 (aCons d3 (aCons d4 (aOne d5))))))) (.ok z)) (hp : PlainIx (.Constant (.int 5) j p2) := by exact fun _ _ => rfl) : DE X W ds (.Subscript a (.Constant (.int 5) j p2) pos) d5 (.ok (z.2.2.2.2.2)) := ixP aix_5_6 ha hp
theorem ix_5_6m {t0 : Type} {t1 : Type} {t2 : Type} {t3 : Type} {t4 : Type} {t5 : Type} {d0 : Cd t0} {d1 : Cd t1} {d2 : Cd t2} {d3 : Cd t3} {d4 : Cd t4} {d5 : Cd t5} {m : R (t0 × t1 × t2 × t3 × t4 × t5)} {j : Nat} {p2 : Pos} (ha : DE X W ds a (cP (aCons d0 (aCons d1 (aCons d2 (aCons d3 (aCons d4 (aOne d5))))))) m) (hp : PlainIx (.Constant (.int 5) j p2) := by exact fun _ _ => rfl) : DE X W ds (.Subscript a (.Constant (.int 5) j p2) pos) d5 (m >>= fun z => .ok (z.2.2.2.2.2)) := ixP aix_5_6 ha hp
/-! ### arguments, displays -/
theorem argN : DA X W ds [] aNil (.ok ()) := ⟨tNil, pa_nil, fun S0 H0 σ S H Q E P => P.ok E.inn rfl⟩
theorem arg1 {c : Cd α} {m : R α} (ha : DE X W ds a c m) (hs : starEach (a :: []) X.env = (false, eval a X.env) :: starEach [] X.env := by rfl) : DA X W ds [a] (aOne c) m := by
  obtain ⟨t, p, q⟩ := ha
  refine ⟨_, pa_cons p pa_nil hs, fun S0 H0 σ S H Q E P => q S0 H0 σ S H _ E ?_⟩
  refine R.post_mono P (fun z k v S1 H1 g r => k [v] S1 H1 g ⟨v, rfl, r⟩) (fun _ k => k)
theorem argC {c : Cd α} {r : CA τ} {m : R α} {n : R τ} (ha : DE X W ds a c m) (hr : DA X W ds es r n) (hs : starEach (a :: es) X.env = (false, eval a X.env) :: starEach es X.env := by rfl) : DA X W ds (a :: es) (aCons c r) (m >>= fun x => n >>= fun y => .ok (x, y)) := by
  obtain ⟨t, p, q⟩ := ha
  obtain ⟨u, p2, q2⟩ := hr
  refine ⟨_, pa_cons p p2 hs, fun S0 H0 σ S H Q E P => q S0 H0 σ S H _ E (P.bind fun x v S1 H1 g r1 P1 => q2 S0 H0 σ S1 H1 _ (E.step g) (P1.bindA fun y vs S2 H2 g2 r2 P2 => P2.ok g2.inn ⟨v, vs, rfl, c.mono g2.st r1, r2⟩))⟩
theorem argC_pp {c : Cd α} {r : CA τ} {x : α} {y : τ} (ha : DE X W ds a c (.ok x)) (hr : DA X W ds es r (.ok y)) (hs : starEach (a :: es) X.env = (false, eval a X.env) :: starEach es X.env := by rfl) : DA X W ds (a :: es) (aCons c r) (.ok (x, y)) := argC ha hr hs
theorem argC_mp {c : Cd α} {r : CA τ} {m : R α} {y : τ} (ha : DE X W ds a c m) (hr : DA X W ds es r (.ok y)) (hs : starEach (a :: es) X.env = (false, eval a X.env) :: starEach es X.env := by rfl) : DA X W ds (a :: es) (aCons c r) (m >>= fun x => .ok (x, y)) := argC ha hr hs
theorem argC_pm {c : Cd α} {r : CA τ} {x : α} {n : R τ} (ha : DE X W ds a c (.ok x)) (hr : DA X W ds es r n) (hs : starEach (a :: es) X.env = (false, eval a X.env) :: starEach es X.env := by rfl) : DA X W ds (a :: es) (aCons c r) (n >>= fun y => .ok (x, y)) := argC ha hr hs
theorem argC_mm {c : Cd α} {r : CA τ} {m : R α} {n : R τ} (ha : DE X W ds a c m) (hr : DA X W ds es r n) (hs : starEach (a :: es) X.env = (false, eval a X.env) :: starEach es X.env := by rfl) : DA X W ds (a :: es) (aCons c r) (m >>= fun x => n >>= fun y => .ok (x, y)) := argC ha hr hs
theorem tup {r : CA τ} {m : R τ} {k : Nat} (hn : r.n ≤ sizeLine) (ha : DA X W ds es r m) : DE X W ds (.Tuple es k pos) (cP r) m := by
  obtain ⟨t, p, q⟩ := ha
  refine ⟨_, pe_tup p, fun S0 H0 σ S H Q E P => q S0 H0 σ S H _ E ?_⟩
  refine R.post_mono P (fun z k vs S1 H1 g r1 => ⟨by rw [r.len r1]; exact hn, fun q hq => ?_⟩) (fun _ k => k)
  have g2 : Grow S1 H1 (upd S1 q (.tup vs)) (upd H1 q (.tup vs)) := .lay g.inn hq
  exact k _ _ _ (g.trans g2) ⟨q, vs, rfl, SqT.of upd_same, r.mono g2.st r1⟩
/-- a list of values of one kind: the mirrors as a list -/
structure DAL (X : Cx) (W : WK) (ds : Env) (es : List Expr) {α : Type} (c : Cd α) (m : R (List α)) : Prop where
  ex : ∃ t : TA, PA X es t ∧ ∀ S0 H0 σ S H (Q : List V → Hp → Prop), EnvOk X.K S0 H0 ds σ S H →
    m.post (fun as => ∀ vs S' H', Grow S H S' H' → vs.length = es.length → Reps c X.K S' vs as → Q vs H') (fun x => ∀ cl d S' H', Grow S H S' H' → repX X.K S' cl d x → W σ cl d H') → t σ H Q
theorem lnil {c : Cd α} : DAL X W ds [] c (.ok []) := ⟨tNil, pa_nil, fun S0 H0 σ S H Q E P => P [] S H (.refl E.inn) rfl trivial⟩
theorem lcons {c : Cd α} {m : R α} {n : R (List α)} (ha : DE X W ds a c m) (hr : DAL X W ds es c n) (hs : starEach (a :: es) X.env = (false, eval a X.env) :: starEach es X.env := by rfl) : DAL X W ds (a :: es) c (m >>= fun x => n >>= fun y => .ok (x :: y)) := by
  obtain ⟨t, p, q⟩ := ha
  obtain ⟨u, p2, q2⟩ := hr
  refine ⟨_, pa_cons p p2 hs, fun S0 H0 σ S H Q E P => q S0 H0 σ S H _ E ?_⟩
  refine R.post_mono (R.post_bind.mp P) (fun x k v S1 H1 g r1 => q2 S0 H0 σ S1 H1 _ (E.step g) ?_) (fun _ k => k)
  refine R.post_mono (R.post_bind.mp k) (fun y k2 vs S2 H2 g2 l2 r2 => ?_) (fun _ k2 cl d S' H' g' r => k2 cl d S' H' (g.trans g') r)
  exact k2 (v :: vs) S2 H2 (g.trans g2) (congrArg Nat.succ l2) ⟨c.mono g2.st r1, r2⟩
theorem lcons_pp {c : Cd α} {x : α} {y : List α} (ha : DE X W ds a c (.ok x)) (hr : DAL X W ds es c (.ok y)) (hs : starEach (a :: es) X.env = (false, eval a X.env) :: starEach es X.env := by rfl) : DAL X W ds (a :: es) c (.ok (x :: y)) := lcons ha hr hs
theorem lcons_mp {c : Cd α} {m : R α} {y : List α} (ha : DE X W ds a c m) (hr : DAL X W ds es c (.ok y)) (hs : starEach (a :: es) X.env = (false, eval a X.env) :: starEach es X.env := by rfl) : DAL X W ds (a :: es) c (m >>= fun x => .ok (x :: y)) := lcons ha hr hs
theorem lcons_pm {c : Cd α} {x : α} {n : R (List α)} (ha : DE X W ds a c (.ok x)) (hr : DAL X W ds es c n) (hs : starEach (a :: es) X.env = (false, eval a X.env) :: starEach es X.env := by rfl) : DAL X W ds (a :: es) c (n >>= fun y => .ok (x :: y)) := lcons ha hr hs
theorem lcons_mm {c : Cd α} {m : R α} {n : R (List α)} (ha : DE X W ds a c m) (hr : DAL X W ds es c n) (hs : starEach (a :: es) X.env = (false, eval a X.env) :: starEach es X.env := by rfl) : DAL X W ds (a :: es) c (m >>= fun x => n >>= fun y => .ok (x :: y)) := lcons ha hr hs
/-! ### new lists -/
/-- a new list that nothing else holds -/
def DL (X : Cx) (W : WK) (ds : Env) (e : Expr) {α : Type} (c : Cd α) (m : R (List α)) : Prop :=
  ∃ t : TE, PE X e t ∧ ∀ S0 H0 σ S H (Q : VK), EnvOk X.K S0 H0 ds σ S H →
    m.post (fun as => ∀ p vs S' H', Grow S H S' H' → H p = none → S' p = none → H' p = some (.lst vs) → Reps c X.K S' vs as → Q (.ref p) H') (fun x => ∀ cl d S' H', Grow S H S' H' → repX X.K S' cl d x → W σ cl d H') → t σ H Q
theorem dl {c : Cd α} {m : R (List α)} (h : DL X W ds e c m) : DE X W ds e (cL c) m := by
  obtain ⟨t, p, q⟩ := h
  refine ⟨t, p, fun S0 H0 σ S H Q E P => q S0 H0 σ S H Q E (R.post_mono P (fun as k p vs S' H' g h1 h2 h3 r => ?_) (fun _ k => k))⟩
  have hs : Same S' (upd S' p (.lst vs)) := .new h2
  refine k (.ref p) (upd S' p (.lst vs)) H' ⟨g.ex, g.st.trans hs, fun a u ea => ?_, fun a ea na => ?_⟩ ⟨p, vs, rfl, SqL.of upd_same, Reps.mono hs r⟩
  · by_cases z : a = p
    · subst z
      rw [upd_same] at ea
      cases ea
      exact h3
    · rw [upd_ne z] at ea
      exact g.inn a u ea
  · by_cases z : a = p
    · rw [z]; exact h1
    · rw [upd_ne z] at na
      exact g.new a ea na
theorem lst {c : Cd α} {m : R (List α)} (ha : DAL X W ds es c m) (hn : es.length ≤ 1000 := by exact Nat.le_of_ble_eq_true rfl) : DL X W ds (.List es pos) c m := by
  obtain ⟨t, p, q⟩ := ha
  refine ⟨_, pe_lst p, fun S0 H0 σ S H Q E P => q S0 H0 σ S H _ E ?_⟩
  refine R.post_mono P (fun as k vs S1 H1 g l1 r1 => ?_) (fun _ k => k)
  refine ⟨by rw [l1]; exact Nat.le_trans hn (by decide), fun q hq => ?_⟩
  have g2 : Grow S1 H1 S1 (upd H1 q (.lst vs)) := .lay' g.inn hq
  exact k q vs S1 _ (g.trans g2) (g.ex.free hq) (g.inn.free hq) upd_same r1
theorem lst0 {c : Cd α} : DL X W ds (.List [] pos) c (.ok []) := by
  refine ⟨_, pe_lst pa_nil, fun S0 H0 σ S H Q E P => ⟨Nat.zero_le _, fun q hq => ?_⟩⟩
  exact P q [] S _ (.lay' E.inn hq) hq (E.inn.free hq) upd_same trivial
end
end Zk
set_option maxHeartbeats 4000000
/-! # Zk: calls, statements, loops -/
namespace Zk
open PySem PySem.Spec PyProof.Rows L2
section
variable {X : Cx} {W : WK} {ds : Env} {α β γ τ : Type} {a b : Expr} {e : Expr} {es : List Expr} {pos p : Pos} {c1 : Cd α} {c2 : Cd β} {c3 : Cd γ} {m1 : R α} {m2 : R β} {x : α} {y : β}
/-! ### calls of built-ins -/
def CallSem (K : PySem.W.Frag) (W : XK) (r : List V → Hp → VK → Prop) (ca : CA τ) (c : Cd γ) (g : τ → R γ) : Prop :=
  ∀ z vs S H Q, Same S H → ca.rep K S vs z → PX c K S H (g z) Q W → r vs H Q
theorem callB {id : String} {r : List V → Hp → VK → Prop} {nm : Str} {ca : CA τ} {g : τ → R γ} {m : R τ} (hc : CallR X (.builtin id) r) (hs : ∀ {W : XK}, CallSem X.K W r ca c3 g) (hv : bootBuiltins nm = some (.builtin id)) (hm : X.mg nm = none) (ha : DA X W ds (e :: es) ca m)
    (hg : Gl X nm := by rfl) (hn : nm ≠ "__name__" := by decide) (hdb : (nm == ("__debug__" : Str)) = false := by decide)
    (he : starEach (e :: es) X.env = (false, eval e X.env) :: starEach es X.env := by rfl) (hpl : (backTo pos (starEach es X.env)).any (·.1) = false := by rfl) : DE X W ds (.Call (.Name nm p) (e :: es) [] pos) c3 (m >>= g) := by
  obtain ⟨t, pa, q⟩ := ha
  exact ⟨_, pe_callB hc hg hm hv pa hn hdb he hpl, fun S0 H0 σ S H Q E P => q S0 H0 σ S H _ E (P.bindA fun z vs S1 H1 g1 r1 P1 => hs z vs S1 H1 Q g1.inn r1 P1)⟩
theorem callTy {T : String} {r : List V → Hp → VK → Prop} {nm : Str} {ca : CA τ} {g : τ → R γ} {m : R τ} (hc : CallR X (.type T) r) (hs : ∀ {W : XK}, CallSem X.K W r ca c3 g) (hv : bootBuiltins nm = some (.type T)) (hm : X.mg nm = none) (ha : DA X W ds (e :: es) ca m)
    (hg : Gl X nm := by rfl) (hn : nm ≠ "__name__" := by decide) (hdb : (nm == ("__debug__" : Str)) = false := by decide)
    (he : starEach (e :: es) X.env = (false, eval e X.env) :: starEach es X.env := by rfl) (hpl : (backTo pos (starEach es X.env)).any (·.1) = false := by rfl) : DE X W ds (.Call (.Name nm p) (e :: es) [] pos) c3 (m >>= g) := by
  obtain ⟨t, pa, q⟩ := ha
  exact ⟨_, pe_callTy hc hg hm hv pa hn hdb he hpl, fun S0 H0 σ S H Q E P => q S0 H0 σ S H _ E (P.bindA fun z vs S1 H1 g1 r1 P1 => hs z vs S1 H1 Q g1.inn r1 P1)⟩
theorem callF {id : String} {r : List V → Hp → VK → Prop} {nm : Str} {ca : CA τ} {g : τ → R γ} {m : R τ} (hc : CallR X (.builtin id) r) (hs : ∀ {W : XK}, CallSem X.K W r ca c3 g) (hm : X.mg nm = some (.builtin id)) (ha : DA X W ds (e :: es) ca m)
    (hg : Gl X nm := by rfl) (hdb : (nm == ("__debug__" : Str)) = false := by decide)
    (he : starEach (e :: es) X.env = (false, eval e X.env) :: starEach es X.env := by rfl) (hpl : (backTo pos (starEach es X.env)).any (·.1) = false := by rfl) : DE X W ds (.Call (.Name nm p) (e :: es) [] pos) c3 (m >>= g) := by
  obtain ⟨t, pa, q⟩ := ha
  exact ⟨_, pe_callBfun hc hg hm pa hdb he hpl, fun S0 H0 σ S H Q E P => q S0 H0 σ S H _ E (P.bindA fun z vs S1 H1 g1 r1 P1 => hs z vs S1 H1 Q g1.inn r1 P1)⟩
/-- the semantics of single built-ins -/
theorem cs_lenL {W : XK} {K : PySem.W.Frag} {c : Cd α} : CallSem K W (fun xs H Q => ∃ p ys, xs = [.ref p] ∧ (SqL K H p ys ∨ SqT K H p ys) ∧ Q (.int ys.length) H) (aOne (cL c)) cI (fun z => .ok (z.length : Int)) := fun z vs S H Q i r P => by
  obtain ⟨v, rfl, p, ws, e, h1, h2⟩ := r
  refine ⟨p, ws, by rw [e], .inl (Same.seq i h1), P.ok i ?_⟩
  show V.int _ = V.int _
  rw [h2.length]
theorem cs_lenT {W : XK} {K : PySem.W.Frag} {c : Cd α} : CallSem K W (fun xs H Q => ∃ p ys, xs = [.ref p] ∧ (SqL K H p ys ∨ SqT K H p ys) ∧ Q (.int ys.length) H) (aOne (cT c)) cI (fun z => .ok (z.length : Int)) := fun z vs S H Q i r P => by
  obtain ⟨v, rfl, p, ws, e, h1, h2⟩ := r
  refine ⟨p, ws, by rw [e], .inr (Same.tup i h1), P.ok i ?_⟩
  show V.int _ = V.int _
  rw [h2.length]
theorem cs_lenLT {W : XK} {K : PySem.W.Frag} {c : Cd α} : CallSem K W (fun xs H Q => ∃ p ys, xs = [.ref p] ∧ (SqL K H p ys ∨ SqT K H p ys) ∧ Q (.int ys.length) H) (aOne (cLT c)) cI (fun z => .ok (z.length : Int)) := fun z vs S H Q i r P => by
  obtain ⟨v, rfl, r⟩ := r
  rcases r with r | r
  · exact cs_lenL z _ S H Q i ⟨v, rfl, r⟩ P
  · exact cs_lenT z _ S H Q i ⟨v, rfl, r⟩ P
theorem cs_lenP {W : XK} {K : PySem.W.Frag} {ca : CA τ} : CallSem K W (fun xs H Q => ∃ p ys, xs = [.ref p] ∧ (SqL K H p ys ∨ SqT K H p ys) ∧ Q (.int ys.length) H) (aOne (cP ca)) cI (fun _ => .ok (ca.n : Int)) := fun z vs S H Q i r P => by
  obtain ⟨v, rfl, p, ws, e, h1, h2⟩ := r
  refine ⟨p, ws, by rw [e], .inr (Same.tup i h1), P.ok i ?_⟩
  show V.int _ = V.int _
  rw [ca.len h2]
theorem cs_int {W : XK} {K : PySem.W.Frag} : CallSem K W (fun xs H Q => (∃ i, xs = [.int i] ∧ Q (.int i) H) ∨ ∃ k, xs = [.bl k] ∧ Q (.int (if k then 1 else 0)) H) (aOne cI) cI (fun z => .ok z) := fun z vs S H Q i r P => by
  obtain ⟨v, rfl, e⟩ := r
  exact .inl ⟨z, by rw [show v = V.int z from e], P.ok i rfl⟩
theorem cs_intB {W : XK} {K : PySem.W.Frag} : CallSem K W (fun xs H Q => (∃ i, xs = [.int i] ∧ Q (.int i) H) ∨ ∃ k, xs = [.bl k] ∧ Q (.int (if k then 1 else 0)) H) (aOne cB) cI (fun z => .ok (if z = true then 1 else 0)) := fun z vs S H Q i r P => by
  obtain ⟨v, rfl, e⟩ := r
  exact .inr ⟨z, by rw [show v = V.bl z from e], P.ok i rfl⟩
theorem cs_abs {W : XK} {K : PySem.W.Frag} : CallSem K W (fun xs H Q => ∃ i, xs = [.int i] ∧ Q (.int (if i < 0 then -i else i)) H) (aOne cI) cI (fun z => .ok (if z < 0 then -z else z)) := fun z vs S H Q i r P => by
  obtain ⟨v, rfl, e⟩ := r
  exact ⟨z, by rw [show v = V.int z from e], P.ok i rfl⟩
theorem cs_max {W : XK} {K : PySem.W.Frag} : CallSem K W (fun xs H Q => ∃ i j, xs = [.int i, .int j] ∧ Q (.int (if j > i then j else i)) H) (aCons cI (aOne cI)) cI (fun z => .ok (if z.2 > z.1 then z.2 else z.1)) := fun z vs S H Q i r P => by
  obtain ⟨v, ws, rfl, e, u, rfl, e2⟩ := r
  exact ⟨z.1, z.2, by rw [show v = V.int z.1 from e, show u = V.int z.2 from e2], P.ok i rfl⟩
theorem cs_min {W : XK} {K : PySem.W.Frag} : CallSem K W (fun xs H Q => ∃ i j, xs = [.int i, .int j] ∧ Q (.int (if j < i then j else i)) H) (aCons cI (aOne cI)) cI (fun z => .ok (if z.2 < z.1 then z.2 else z.1)) := fun z vs S H Q i r P => by
  obtain ⟨v, ws, rfl, e, u, rfl, e2⟩ := r
  exact ⟨z.1, z.2, by rw [show v = V.int z.1 from e, show u = V.int z.2 from e2], P.ok i rfl⟩
theorem cs_gcd {W : XK} {K : PySem.W.Frag} : CallSem K W rGcd (aCons cI (aOne cI)) cI (fun z => .ok ((Int.gcd z.1 z.2 : Nat) : Int)) := fun z vs S H Q i r P => by
  obtain ⟨v, ws, rfl, e, u, rfl, e2⟩ := r
  exact ⟨z.1, z.2, by rw [show v = V.int z.1 from e, show u = V.int z.2 from e2], P.ok i rfl⟩
section
variable {m : R τ}
theorem lenL {nm : Str} {c : Cd α} {m : R (List α)} (hm : X.mg "len" = none) (ha : DE X W ds e (cL c) m) (hg : Gl X "len" := by rfl) (he : starEach (e :: []) X.env = (false, eval e X.env) :: starEach [] X.env := by rfl) (hpl : (backTo pos (starEach [] X.env)).any (·.1) = false := by rfl) :
    DE X W ds (.Call (.Name "len" p) [e] [] pos) cI (m >>= fun z => .ok (z.length : Int)) := callB (nm := "len") call_len_seq cs_lenL PySem.boot_len hm (arg1 ha he) hg (by decide) (by decide) he hpl
theorem lenT {nm : Str} {c : Cd α} {m : R (List α)} (hm : X.mg "len" = none) (ha : DE X W ds e (cT c) m) (hg : Gl X "len" := by rfl) (he : starEach (e :: []) X.env = (false, eval e X.env) :: starEach [] X.env := by rfl) (hpl : (backTo pos (starEach [] X.env)).any (·.1) = false := by rfl) :
    DE X W ds (.Call (.Name "len" p) [e] [] pos) cI (m >>= fun z => .ok (z.length : Int)) := callB (nm := "len") call_len_seq cs_lenT PySem.boot_len hm (arg1 ha he) hg (by decide) (by decide) he hpl
end
/-! ### calls of the program's own defs -/
def spF (K : PySem.W.Frag) (ca : CA τ) (c : Cd γ) (F : τ → R γ) : Sp := fun vs H Q E => ∃ S z, Same S H ∧ ca.rep K S vs z ∧ PX c K S H (F z) Q E
structure FnI (P : Program) (w : World) (K : PySem.W.Frag) (mg : Str → Option Value) (base : Heap) (x : Str) (k : Nat) (ps : List Str) (ca : CA τ) (c : Cd γ) (F : τ → R γ) : Prop where
  ex : ∃ f fd, FnOk P w K mg base (L2N.CX P w) k f fd ps (spF K ca c F) ∧ mg x = some (.ref f) ∧ PySem.W.keepIn K (.ref f) = true ∧ Binds K fd ps []
/-- what this body lets out of a callee's exceptions -/
abbrev Lets (X : Cx) (W : WK) : Prop := L2N.Takes X (fun cl d σ H => W σ cl d H)
theorem call {x : Str} {k : Nat} {ps : List Str} {ca : CA τ} {F : τ → R γ} {m : R τ} {n : R γ} (f : FnI X.prog X.w X.K X.mg X.base x k ps ca c3 F) (hr : Room k X.A) (hp : Lets X W) (ha : DA X W ds (e :: es) ca m) (hn : n = (m >>= F) := by rfl) (hg : Gl X x := by rfl)
    (hdb : (x == ("__debug__" : Str)) = false := by decide) (he : starEach (e :: es) X.env = (false, eval e X.env) :: starEach es X.env := by rfl) (hpl : (backTo pos (starEach es X.env)).any (·.1) = false := by rfl) : DE X W ds (.Call (.Name x p) (e :: es) [] pos) c3 n := by
  obtain ⟨f, fd, F1, h1, h2, h3⟩ := f.ex
  obtain ⟨t, pa, q⟩ := ha
  subst hn
  refine ⟨_, pe_callS (E := W) F1 hr hg h1 h2 h3 (fun σ => L2N.passAt hp σ) pa hdb he hpl, fun S0 H0 σ S H Q E P => q S0 H0 σ S H _ E (P.bindA fun z vs S1 H1 g1 r1 P1 => ?_)⟩
  exact ⟨S1, z, g1.inn, r1, P1⟩
theorem callP {x : Str} {k : Nat} {ps : List Str} {ca : CA τ} {F : τ → R γ} {z : τ} {n : R γ} (f : FnI X.prog X.w X.K X.mg X.base x k ps ca c3 F) (hr : Room k X.A) (hp : Lets X W) (ha : DA X W ds (e :: es) ca (.ok z)) (hn : n = F z := by exact rfl) (hg : Gl X x := by rfl)
    (hdb : (x == ("__debug__" : Str)) = false := by decide) (he : starEach (e :: es) X.env = (false, eval e X.env) :: starEach es X.env := by rfl) (hpl : (backTo pos (starEach es X.env)).any (·.1) = false := by rfl) : DE X W ds (.Call (.Name x p) (e :: es) [] pos) c3 n := by
  rw [hn]
  exact call f hr hp ha rfl hg hdb he hpl
theorem call0 [kw : KW W] {x : Str} {k : Nat} {ps : List Str} {F : Unit → R γ} {n : R γ} (f : FnI X.prog X.w X.K X.mg X.base x k ps aNil c3 F) (hr : Room k X.A) (hp : Lets X W) (hn : n = F () := by rfl) (hg : Gl X x := by rfl)
    (hdb : (x == ("__debug__" : Str)) = false := by decide) : DE X W ds (.Call (.Name x p) [] [] pos) c3 n := by
  obtain ⟨W, rfl⟩ := kw.ex
  obtain ⟨f, fd, F1, h1, h2, h3⟩ := f.ex
  subst hn
  refine ⟨_, pe_call0 F1 hr hg h1 h2 h3 .nil (L2N.passes_call hp fun _ _ _ _ h => h) hdb, fun S0 H0 σ S H Q E P => ⟨S, (), E.inn, rfl, P⟩⟩
end

/-! ### statements -/
/-- how what is handed back stands for its mirror: it may look at the heap of the start -/
abbrev RCd (β : Type) : Type := Hp → Cd β
inductive Out (β ν κ : Type) where
  | ret (b : β) | nxt (s : ν) | brk (s : κ) | ctn (s : κ)
section
variable {β ν κ ω : Type}
def OutP (K : PySem.W.Frag) (S0 H0 : Hp) (cb : RCd β) (eN : ν → Env) (eK : κ → Env) (D : Ends) (o : Out β ν κ) : Prop := match o with
  | .ret b => ∀ v S' H', Grow S0 H0 S' H' → (cb H0).rep K S' v b → D.rt v H'
  | .nxt s => ∀ σ' S' H', EnvOk K S0 H0 (eN s) σ' S' H' → D.nx σ' H'
  | .brk s => ∀ σ' S' H', EnvOk K S0 H0 (eK s) σ' S' H' → D.bk σ' H'
  | .ctn s => ∀ σ' S' H', EnvOk K S0 H0 (eK s) σ' S' H' → D.ct σ' H'
def EX (K : PySem.W.Frag) (W : XK) (S0 H0 : Hp) (x : Exn) : Prop := ∀ cl d S' H', Grow S0 H0 S' H' → repX K S' cl d x → W cl d H'
theorem Grow.base {S0 H0 S1 H1 S2 H2 : Hp} (a : Grow S0 H0 S1 H1) (b : Grow S1 H0 S2 H2) : Grow S0 H0 S2 H2 := by
  refine ⟨b.ex, a.st.trans b.st, b.inn, fun x e n => ?_⟩
  cases q : S1 x with
  | none => exact b.new x q n
  | some o => exact a.new x e (by rw [q]; exact fun z => by cases z)
theorem EnvOk.rebase {K : PySem.W.Frag} {S0 H0 S H : Hp} {ds : Env} {σ : L2.St} (E : EnvOk K S0 H0 ds σ S H) : EnvOk K S H0 ds σ S H :=
  ⟨E.len, E.own, ⟨E.grow.ex, .refl _, E.grow.inn, fun a e n => (n e).elim⟩⟩
theorem EnvOk.unbase {K : PySem.W.Frag} {S0 H0 S1 H1 S H : Hp} {ds : Env} {σ : L2.St} (g : Grow S0 H0 S1 H1) (E : EnvOk K S1 H0 ds σ S H) : EnvOk K S0 H0 ds σ S H :=
  ⟨E.len, E.own, g.base E.grow⟩
theorem OutP.rebase {K : PySem.W.Frag} {S0 H0 S1 H1 : Hp} {cb : RCd β} {eN : ν → Env} {eK : κ → Env} {D : Ends} {o : Out β ν κ} (g : Grow S0 H0 S1 H1) (h : OutP K S0 H0 cb eN eK D o) : OutP K S1 H0 cb eN eK D o := by
  cases o with
  | ret b => exact fun v S' H' g' r => h v S' H' (g.base g') r
  | nxt s => exact fun σ' S' H' E => h σ' S' H' (E.unbase g)
  | brk s => exact fun σ' S' H' E => h σ' S' H' (E.unbase g)
  | ctn s => exact fun σ' S' H' E => h σ' S' H' (E.unbase g)
theorem EX.rebase {K : PySem.W.Frag} {W : XK} {S0 H0 S1 H1 : Hp} {x : Exn} (g : Grow S0 H0 S1 H1) (h : EX K W S0 H0 x) : EX K W S1 H0 x := fun cl d S' H' g' r => h cl d S' H' (g.base g') r
/-- a block's own reading: what must hold that it runs -/
@[irreducible] def tS (X : Cx) (sts : List Stmt) : TS := fun D σ H => ∀ (pins : List (Addr × Obj)) (s : Shared), Inv X pins σ H s → wpAny (model X.prog X.w) X.A (execs sts X.env) (SP X pins D) X.xe s
theorem pss_tS {X : Cx} {sts : List Stmt} : PSs X sts (tS X sts) := ⟨fun pins s σ H D I h => by
  unfold tS at h
  exact h pins s I⟩
theorem PSs.to {X : Cx} {sts : List Stmt} {t : TS} (h : PSs X sts t) {D : Ends} {σ : L2.St} {H : Hp} (q : t D σ H) : tS X sts D σ H := by
  unfold tS
  exact fun pins s I => h.run pins s σ H D I q
/-- T: the block never comes to its end -/
def DS (X : Cx) (W : WK) (T : Bool) (ds : Env) (sts : List Stmt) (cb : RCd β) (eN : ν → Env) (eK : κ → Env) (I : ω → Out β ν κ) (m : R ω) : Prop :=
  ∀ S0 H0 σ S H (D : Ends) (nx : L2.St → Hp → Prop), (T = true ∨ nx = D.nx) → EnvOk X.K S0 H0 ds σ S H → m.post (fun w => OutP X.K S0 H0 cb eN eK D (I w)) (EX X.K (W σ) S0 H0) → tS X sts { D with nx := nx } σ H
end
section
variable {X : Cx} {W : WK} {T : Bool} {ds : Env} {α β γ τ ν κ ω : Type} {e : Expr} {st : Stmt} {sts rest : List Stmt} {pos p : Pos} {c : Cd α} {cb : RCd β} {eN : ν → Env} {eK : κ → Env} {I : ω → Out β ν κ} {m : R α} {k : α → R ω} {n : R ω}
/-- an expression within a statement -/
theorem stE {f : α → R ω} {S0 H0 S H : Hp} {σ : L2.St} {Q : VK} {D : Ends} (E : EnvOk X.K S0 H0 ds σ S H) (P : (m >>= f).post (fun w => OutP X.K S0 H0 cb eN eK D (I w)) (EX X.K (W σ) S0 H0))
    (h : ∀ a v S' H', EnvOk X.K S0 H0 ds σ S' H' → c.rep X.K S' v a → (f a).post (fun w => OutP X.K S0 H0 cb eN eK D (I w)) (EX X.K (W σ) S0 H0) → Q v H') : PX c X.K S H m Q (W σ) :=
  R.post_mono (R.post_bind.mp P) (fun a q v S' H' g r => h a v S' H' (E.step g) r q) (fun x q cl d S' H' g r => q cl d S' H' (E.grow.trans g) r)
theorem stT {m : R Bool} {f : Bool → R ω} {S0 H0 S H : Hp} {σ : L2.St} {Q : Bool → Hp → Prop} {D : Ends} (E : EnvOk X.K S0 H0 ds σ S H) (P : (m >>= f).post (fun w => OutP X.K S0 H0 cb eN eK D (I w)) (EX X.K (W σ) S0 H0))
    (h : ∀ a S' H', EnvOk X.K S0 H0 ds σ S' H' → (f a).post (fun w => OutP X.K S0 H0 cb eN eK D (I w)) (EX X.K (W σ) S0 H0) → Q a H') : PB X.K S H m Q (W σ) :=
  R.post_mono (R.post_bind.mp P) (fun a q S' H' g => h a S' H' (E.step g) q) (fun x q cl d S' H' g r => q cl d S' H' (E.grow.trans g) r)
theorem nil {w : ω} {s : ν} (hI : I w = .nxt s := by rfl) (l : EnvLe ds (eN s)) : DS X W false ds [] cb eN eK I (.ok w) := fun S0 H0 σ S H D nx h E P => by
  have e : nx = D.nx := h.resolve_left (by decide)
  subst e
  have P1 : OutP X.K S0 H0 cb eN eK D (I w) := P
  rw [hI] at P1
  exact PSs.to pss_nil (P1 σ S H (E.le l))
theorem never : DS X W T ds sts cb eN eK I .stuck := fun S0 H0 σ S H D nx h E P => False.elim P
/-- one statement ahead of the rest -/
theorem seq {t : TS} {D : Ends} {σ : L2.St} {H : Hp} (h : PS X st t) (q : t { D with nx := tS X rest D } σ H) : tS X (st :: rest) D σ H := PSs.to (pss_cons h pss_tS) q
/-- x = e -/
theorem asg [kw : KW W] {x : Str} {pos' : Pos} (i : Nat) (sn : X.N.Nodup) (he : DE X W ds e c m) (hr : ∀ z, DS X W T (ds.put i (.st α c z)) rest cb eN eK I (k z)) (hi : X.N[i]? = some x := by rfl) (hx : Loc X.env.scope x := by first | exact Or.inl rfl | exact Or.inr rfl)
    (hs : swapsWith e (some (.Name x pos')) pos.line X.env = pure false := by rfl) (hf : X.fn x = true ∨ X.env.scope.names.lookup x = some .local := by first | exact .inl rfl | exact .inr rfl) : DS X W T ds (.Assign [.Name x pos'] e pos :: rest) cb eN eK I (m >>= k) := fun S0 H0 σ S H D nx h E P => by
  obtain ⟨W, rfl⟩ := kw.ex
  obtain ⟨te, pe, qe⟩ := he
  exact seq (ps_set (i := i) sn hi hx pe hs hf) (qe S0 H0 σ S H _ E (stE (W := fun _ => W) E P fun z v S' H' E' r P' => hr z S0 H0 _ S' H' D nx h (E'.putS r) P'))
/-- x = a new list that will change -/
theorem asgM [kw : KW W] {x : Str} {pos' : Pos} {m : R (List α)} {k : List α → R ω} (i : Nat) (sn : X.N.Nodup) (he : DL X W ds e c m) (hr : ∀ z, DS X W T (ds.put i (.mu α c z)) rest cb eN eK I (k z)) (hi : X.N[i]? = some x := by rfl) (hx : Loc X.env.scope x := by first | exact Or.inl rfl | exact Or.inr rfl)
    (hs : swapsWith e (some (.Name x pos')) pos.line X.env = pure false := by rfl) (hf : X.fn x = true ∨ X.env.scope.names.lookup x = some .local := by first | exact .inl rfl | exact .inr rfl) : DS X W T ds (.Assign [.Name x pos'] e pos :: rest) cb eN eK I (m >>= k) := fun S0 H0 σ S H D nx h E P => by
  obtain ⟨W, rfl⟩ := kw.ex
  obtain ⟨te, pe, qe⟩ := he
  exact seq (ps_set (i := i) sn hi hx pe hs hf) (qe S0 H0 σ S H _ E (R.post_mono (R.post_bind.mp P) (fun z q p vs S' H' g h1 h2 h3 r => hr z S0 H0 _ S' H' D nx h (E.putM g h1 h2 h3 r) q) (fun x q cl d S' H' g r => q cl d S' H' (E.grow.trans g) r)))
/-- the list in slot i settles -/
theorem settle (i : Nat) {as : List α} (hd : ds.get i = .mu α c as := by rfl) (hr : DS X W T (ds.put i (.st (List α) (cL c) as)) sts cb eN eK I n) : DS X W T ds sts cb eN eK I n := fun S0 H0 σ S H D nx h E P => by
  obtain ⟨S', hs, E'⟩ := E.freeze hd
  exact hr S0 H0 σ S' H D nx h E' P
/-- return e -/
theorem ret {cr : Cd β} {g : β → ω} {m : R β} (he : DE X W ds e cr m) (hI : ∀ b, I (g b) = .ret b) : DS X W T ds (.Return (some e) pos :: rest) (fun _ => cr) eN eK I (m >>= fun b => .ok (g b)) := fun S0 H0 σ S H D nx h E P => by
  obtain ⟨te, pe, qe⟩ := he
  refine seq (ps_ret pe) (qe S0 H0 σ S H _ E (stE E P fun b v S' H' E' r P' => ?_))
  have P1 : OutP X.K S0 H0 (fun _ => cr) eN eK D (I (g b)) := P'
  rw [hI] at P1
  exact P1 v S' H' E'.grow r
/-- return e, the mirror the value itself -/
theorem retF {cr : Cd β} {m : R β} {I : β → Out β ν κ} (he : DE X W ds e cr m) (hI : ∀ b, I b = .ret b := by intro _; rfl) : DS X W T ds (.Return (some e) pos :: rest) (fun _ => cr) eN eK I m := by
  have q := ret (T := T) (rest := rest) (pos := pos) (eN := eN) (eK := eK) (g := fun b => b) he hI
  rw [show (m >>= fun b => R.ok b) = m from R.bind_ok m] at q
  exact q
theorem retO {cr : Cd β} {b : β} {I : ω → Out β ν κ} {w : ω} (he : DE X W ds e cr (.ok b)) (hI : I w = .ret b := by rfl) : DS X W T ds (.Return (some e) pos :: rest) (fun _ => cr) eN eK I (.ok w) := fun S0 H0 σ S H D nx h E P => by
  obtain ⟨te, pe, qe⟩ := he
  refine seq (ps_ret pe) (qe S0 H0 σ S H _ E (fun v S' H' g r => ?_))
  have P1 : OutP X.K S0 H0 (fun _ => cr) eN eK D (I w) := P
  rw [hI] at P1
  exact P1 v S' H' (E.grow.trans g) r
/-- break, continue -/
theorem brk {w : ω} {s : κ} (l : EnvLe ds (eK s)) (hI : I w = .brk s := by rfl) : DS X W T ds (.Break pos :: rest) cb eN eK I (.ok w) := fun S0 H0 σ S H D nx h E P => by
  have P1 : OutP X.K S0 H0 cb eN eK D (I w) := P
  rw [hI] at P1
  exact seq ps_break (P1 σ S H (E.le l))
theorem cont {w : ω} {s : κ} (l : EnvLe ds (eK s)) (hI : I w = .ctn s := by rfl) : DS X W T ds (.Continue pos :: rest) cb eN eK I (.ok w) := fun S0 H0 σ S H D nx h E P => by
  have P1 : OutP X.K S0 H0 cb eN eK D (I w) := P
  rw [hI] at P1
  exact seq ps_continue (P1 σ S H (E.le l))
theorem pass (hr : DS X W T ds rest cb eN eK I n) : DS X W T ds (.Pass pos :: rest) cb eN eK I n := fun S0 H0 σ S H D nx h E P => seq ps_pass (hr S0 H0 σ S H D nx h E P)
/-- e as a statement -/
theorem drop (he : DE X W ds e c m) (hr : ∀ z, DS X W T ds rest cb eN eK I (k z)) (hs : swapsWith e none pos.line X.env = pure false := by rfl) : DS X W T ds (.Expr e pos :: rest) cb eN eK I (m >>= k) := fun S0 H0 σ S H D nx h E P => by
  obtain ⟨te, pe, qe⟩ := he
  exact seq (ps_expr pe hs) (qe S0 H0 σ S H _ E (stE E P fun z v S' H' E' r P' => hr z S0 H0 _ S' H' D nx h E' P'))
/-! ### if -/
section
variable {t : Expr} {A B : List Stmt} {mt : R Bool} {nA nB : R ω}
/-- the last statement: both ends are the block's end -/
theorem if2 (ht : DT X W ds t mt) (hA : DS X W T ds A cb eN eK I nA) (hB : DS X W T ds B cb eN eK I nB) : DS X W T ds [.If t A B pos] cb eN eK I (mt >>= fun z => if z = true then nA else nB) := fun S0 H0 σ S H D nx h E P => by
  obtain ⟨tt, pt, qt⟩ := ht
  refine PSs.to (pss_one (ps_if pt pss_tS pss_tS)) (qt S0 H0 σ S H _ E (stT E P fun z S' H' E' P' => ?_))
  cases z with
  | true => exact hA S0 H0 σ S' H' D nx h E' P'
  | false => exact hB S0 H0 σ S' H' D nx h E' P'
/-- the first branch leaves -/
theorem ifA (ht : DT X W ds t mt) (hA : DS X W true ds A cb eN eK I nA) (hr : DS X W T ds rest cb eN eK I n) : DS X W T ds (.If t A [] pos :: rest) cb eN eK I (mt >>= fun z => if z = true then nA else n) := fun S0 H0 σ S H D nx h E P => by
  obtain ⟨tt, pt, qt⟩ := ht
  refine seq (ps_if pt pss_tS pss_nil) (qt S0 H0 σ S H _ E (stT E P fun z S' H' E' P' => ?_))
  cases z with
  | true => exact hA S0 H0 σ S' H' D _ (.inl rfl) E' P'
  | false => exact hr S0 H0 σ S' H' D nx h E' P'
theorem ifA_p {z : Bool} (ht : DT X W ds t (.ok z)) (hA : DS X W true ds A cb eN eK I nA) (hr : DS X W T ds rest cb eN eK I n) : DS X W T ds (.If t A [] pos :: rest) cb eN eK I (if z = true then nA else n) := ifA ht hA hr
theorem if2_p {z : Bool} (ht : DT X W ds t (.ok z)) (hA : DS X W T ds A cb eN eK I nA) (hB : DS X W T ds B cb eN eK I nB) : DS X W T ds [.If t A B pos] cb eN eK I (if z = true then nA else nB) := if2 ht hA hB
/-- both come to the rest: what they leave is joined -/
theorem ifJ [kw : KW W] {σ' : Type} {eJ : σ' → Env} {jA jB : R σ'} {kJ : σ' → R ω} (ht : DT X W ds t mt) (hA : DS X W false ds A cb eJ eK (fun s => (.nxt s : Out β σ' κ)) jA) (hB : DS X W false ds B cb eJ eK (fun s => (.nxt s : Out β σ' κ)) jB) (hr : ∀ s, DS X W T (eJ s) rest cb eN eK I (kJ s)) :
    DS X W T ds (.If t A B pos :: rest) cb eN eK I (mt >>= fun z => (if z = true then jA else jB) >>= kJ) := fun S0 H0 σ S H D nx h E P => by
  obtain ⟨W, rfl⟩ := kw.ex
  obtain ⟨tt, pt, qt⟩ := ht
  refine seq (ps_if pt pss_tS pss_tS) (qt S0 H0 σ S H _ E (stT (W := fun _ => W) E P fun z S' H' E' P' => ?_))
  cases z with
  | true => exact hA S0 H0 σ S' H' { D with nx := tS X rest { D with nx := nx } } _ (.inr rfl) E' (R.post_mono (R.post_bind.mp P') (fun s q σ2 S2 H2 E2 => hr s S0 H0 σ2 S2 H2 D nx h E2 q) (fun _ q => q))
  | false => exact hB S0 H0 σ S' H' { D with nx := tS X rest { D with nx := nx } } _ (.inr rfl) E' (R.post_mono (R.post_bind.mp P') (fun s q σ2 S2 H2 E2 => hr s S0 H0 σ2 S2 H2 D nx h E2 q) (fun _ q => q))
theorem ifJ_p [kw : KW W] {z : Bool} {σ' : Type} {eJ : σ' → Env} {jA jB : R σ'} {kJ : σ' → R ω} (ht : DT X W ds t (.ok z)) (hA : DS X W false ds A cb eJ eK (fun s => (.nxt s : Out β σ' κ)) jA) (hB : DS X W false ds B cb eJ eK (fun s => (.nxt s : Out β σ' κ)) jB) (hr : ∀ s, DS X W T (eJ s) rest cb eN eK I (kJ s)) :
    DS X W T ds (.If t A B pos :: rest) cb eN eK I ((if z = true then jA else jB) >>= kJ) := ifJ ht hA hB hr
/-- any branches -/
def Out.thn {σ' : Type} (I : ω → Out β ν κ) (o : Out β σ' κ) (kJ : σ' → R ω) (up : Out β Empty κ → ω) : R ω := match o with
  | .nxt s => kJ s
  | .ret b => .ok (up (.ret b))
  | .brk s => .ok (up (.brk s))
  | .ctn s => .ok (up (.ctn s))
end
/-! ### append, a store by place -/
def appM (xs : List α) (z : α) : R (List α) := R.guard (xs.length < 16000000) (xs ++ [z])
def setM (xs : List α) (i : Int) (z : α) : R (List α) := match ixN xs.length i with
  | some j => .ok (xs.set j z)
  | none => .stuck
/-- x.append(e), x's list still changes -/
theorem app {x : Str} {p1 p2 p3 : Pos} {as : List α} {k : List α → R ω} (i : Nat) (he : DE X W ds e c m) (hr : ∀ zs, DS X W T (ds.put i (.mu α c zs)) rest cb eN eK I (k zs)) (hd : ds.get i = .mu α c as := by rfl) (hN : X.N[i]? = some x := by rfl)
    (hv : Vis X.env.scope x := by first | exact Or.inl rfl | exact Or.inr (Or.inl rfl) | exact Or.inr (Or.inr rfl)) (hdb : (x == ("__debug__" : Str)) = false := by decide) (hcd : (x == ("__classdict__" : Str)) = false := by decide)
    (hs : swapsWith (.Call (.Attribute (.Name x p1) "append" p2) [e] [] p3) none pos.line X.env = pure false := by rfl)
    (ho : starEach [e] X.env = (false, eval e X.env) :: starEach [] X.env := by rfl)
    (pb : ∀ {te : TE}, PE X e te → PE X (.Call (.Attribute (.Name x p1) "append" p2) [e] [] p3) (tBM X.K "list" rAppend (tVar i) (tCons te tNil)) := by
      intro te pe; exact pe_bm PySem.F.plainAttrs_list PySem.F.slot_list_append PySem.F.type_list_append mt_append (pv _) (pa_cons pe pa_nil)) :
    DS X W T ds (.Expr (.Call (.Attribute (.Name x p1) "append" p2) [e] [] p3) pos :: rest) cb eN eK I (m >>= fun z => appM as z >>= k) := fun S0 H0 σ S H D nx h E P => by
  obtain ⟨te, pe, qe⟩ := he
  obtain ⟨l, vs, h1, h2, h3, h4, h5⟩ := E.muv hd
  refine seq (ps_expr (pb pe) hs) ⟨.ref l, h1, Or.inl ⟨rfl, vs, SqL.of h4⟩, qe S0 H0 σ S H _ E (stE E P fun z v S' H' E' r P' => ?_)⟩
  obtain ⟨l', vs', k1, k2, k3, k4, k5⟩ := E'.muv hd
  rw [h1] at k1
  cases k1
  obtain ⟨g1, g2⟩ : as.length < 16000000 ∧ (k (as ++ [z])).post (fun w => OutP X.K S0 H0 cb eN eK D (I w)) (EX X.K (W σ) S0 H0) := by
    unfold appM R.guard at P'
    split at P'
    · exact ⟨by assumption, P'⟩
    · exact False.elim P'
  refine ⟨l, vs', v, rfl, rfl, k4, ?_, ?_⟩
  · rw [k5.length]
    exact Nat.lt_of_lt_of_le g1 (by decide)
  · exact hr _ S0 H0 σ S' _ D nx h (E'.mutate (vs := vs' ++ [v]) hd h1 (k5.append (show Reps c X.K S' [v] [z] from ⟨r, trivial⟩))) g2
end
end Zk
set_option maxHeartbeats 4000000
/-! # Zk: what is walked, loops, comprehensions, defs -/
namespace Zk
open PySem PySem.Spec PyProof.Rows L2
/-! ### what is walked -/
/-- J gives the values of as, one a turn -/
def ItOk {α : Type} (J : It) (K : PySem.W.Frag) (S : Hp) (c : Cd α) (as : List α) : Prop :=
  ∀ (i : Nat) (S1 H1 : Hp), Same S S1 → Same S1 H1 → (as.length ≤ i → J.stop i H1) ∧ (∀ a, as[i]? = some a → J.go i H1 ∧ ∀ x H', J.yld i H1 x H' → ∃ S', Grow S1 H1 S' H' ∧ c.rep K S' x a)
def DI (X : Cx) (W : WK) (ds : Env) (tg iter : Expr) {α : Type} (c : Cd α) (m : R (List α)) : Prop :=
  ∃ wi : TI, PI X tg iter wi ∧ ∀ S0 H0 σ S H (Q : It → Hp → Prop), EnvOk X.K S0 H0 ds σ S H →
    m.post (fun as => ∀ J S' H', Grow S H S' H' → ItOk J X.K S' c as → Q J H') (fun x => ∀ cl d S' H', Grow S H S' H' → repX X.K S' cl d x → W σ cl d H') → wi σ H Q
/-- a target: the slots behind it -/
def DG (X : Cx) (tg : Expr) {α σ' : Type} (c : Cd α) (e0 : σ' → Env) (eB : σ' → α → Env) : Prop :=
  ∃ g : TG, PG X tg g ∧ ∀ s a v S0 H0 σ S H (Q : L2.St → Hp → Prop), EnvOk X.K S0 H0 (e0 s) σ S H → c.rep X.K S v a → (∀ σ', EnvOk X.K S0 H0 (eB s a) σ' S H → Q σ' H) → g v σ H Q
section
variable {X : Cx} {W : WK} {ds : Env} {α β γ τ : Type} {a b : Expr} {e : Expr} {es : List Expr} {pos p : Pos} {c : Cd α} {c2 : Cd β} {m : R (List α)} {tg : Expr}
theorem itl_ok {K : PySem.W.Frag} {S : Hp} {l : Addr} {vs : List V} {as : List α} (h : SqL K S l vs) (r : Reps c K S vs as) : ItOk (Itl K l) K S c as := fun i S1 H1 s1 s2 => by
  have h1 : SqL K H1 l vs := Same.seq s2 (Same.seq s1 h)
  refine ⟨fun hi => ⟨vs, h1, by rw [r.length]; exact hi⟩, fun a ha => ?_⟩
  obtain ⟨v, k1, k2⟩ := r.get ha
  refine ⟨⟨vs, v, h1, k1⟩, fun x H' y => ?_⟩
  obtain ⟨e, y⟩ := y
  subst e
  have ex := y vs h1
  rw [k1] at ex
  cases ex
  exact ⟨S1, .refl s2, c.mono s1 k2⟩
theorem itt_ok {K : PySem.W.Frag} {S : Hp} {l : Addr} {vs : List V} {as : List α} (h : SqT K S l vs) (r : Reps c K S vs as) : ItOk (Itt K l) K S c as := fun i S1 H1 s1 s2 => by
  have h1 : SqT K H1 l vs := Same.tup s2 (Same.tup s1 h)
  refine ⟨fun hi => ⟨vs, h1, by rw [r.length]; exact hi⟩, fun a ha => ?_⟩
  obtain ⟨v, k1, k2⟩ := r.get ha
  refine ⟨⟨vs, v, h1, k1⟩, fun x H' y => ?_⟩
  obtain ⟨e, y⟩ := y
  subst e
  have ex := y vs h1
  rw [k1] at ex
  cases ex
  exact ⟨S1, .refl s2, c.mono s1 k2⟩
theorem iterL (ha : DE X W ds a (cL c) m) : DI X W ds tg a c m := by
  obtain ⟨t, p, q⟩ := ha
  refine ⟨_, pi_list p, fun S0 H0 σ S H Q E P => q S0 H0 σ S H _ E (R.post_mono P (fun as k v S' H' g r => ?_) (fun _ k => k))⟩
  obtain ⟨l, vs, e, h1, h2⟩ := r
  exact ⟨l, e, ⟨vs, Same.seq g.inn h1⟩, k _ S' H' g (itl_ok h1 h2)⟩
theorem iterT (ha : DE X W ds a (cT c) m) : DI X W ds tg a c m := by
  obtain ⟨t, p, q⟩ := ha
  refine ⟨_, pi_tup p, fun S0 H0 σ S H Q E P => q S0 H0 σ S H _ E (R.post_mono P (fun as k v S' H' g r => ?_) (fun _ k => k))⟩
  obtain ⟨l, vs, e, h1, h2⟩ := r
  exact ⟨l, e, ⟨vs, Same.tup g.inn h1⟩, k _ S' H' g (itt_ok h1 h2)⟩
/-- a list or a tuple -/
def iSeq (K : PySem.W.Frag) (tl : TE) : TI := fun σ H R => tl σ H fun x H1 => ∃ a, x = .ref a ∧ (((∃ xs, SqL K H1 a xs) ∧ R (Itl K a) H1) ∨ ((∃ xs, SqT K H1 a xs) ∧ R (Itt K a) H1))
theorem pi_seq {l : Expr} {tl : TE} (hl : PE X l tl) : PI X tg l (iSeq X.K tl) := by
  refine ⟨fun pins s σ H R I h => ?_⟩
  refine thn (hl.run pins s σ H _ I h) fun v s1 ⟨x, H1, I1, r1, q1⟩ => ?_
  obtain ⟨a, e, q1⟩ := q1
  subst e
  cases r1
  rcases q1 with ⟨⟨xs, hq⟩, q⟩ | ⟨⟨xs, hq⟩, q⟩
  · obtain ⟨its, rv, p, hz⟩ := I1.list hq
    refine wpAny_pyIter_list p.isList ?_
    refine ⟨s1.heap.objs.size, [s1.heap.objs.size], _, _, H1, rfl, I1.kept (t' := s1.toks) fun b o e => Heap.get?_push_of_some _ e, turn_list a _, ⟨_, Heap.get?_push_size _ rfl, rfl, rfl⟩, fun b hb => ?_, q⟩
    have e : b = s1.heap.objs.size := by simpa using hb
    subst e
    exact I1.fpOk (Nat.le_refl _) (I1.hok.fresh (Nat.le_refl _))
  · obtain ⟨its, rv, p, hz⟩ := I1.tuple hq
    refine wpAny_pyIter_tuple (show s1.heap.IsTuple a its.toArray from p) ?_
    refine ⟨s1.heap.objs.size, [s1.heap.objs.size], _, _, H1, rfl, I1.kept (t' := s1.toks) fun b o e => Heap.get?_push_of_some _ e, turn_tuple a _, ⟨_, Heap.get?_push_size _ rfl, rfl, rfl⟩, fun b hb => ?_, q⟩
    have e : b = s1.heap.objs.size := by simpa using hb
    subst e
    exact I1.fpOk (Nat.le_refl _) (I1.hok.fresh (Nat.le_refl _))
theorem iterLT (ha : DE X W ds a (cLT c) m) : DI X W ds tg a c m := by
  obtain ⟨t, p, q⟩ := ha
  refine ⟨_, pi_seq p, fun S0 H0 σ S H Q E P => q S0 H0 σ S H _ E (R.post_mono P (fun as k v S' H' g r => ?_) (fun _ k => k))⟩
  rcases r with ⟨l, vs, e, h1, h2⟩ | ⟨l, vs, e, h1, h2⟩
  · exact ⟨l, e, .inl ⟨⟨vs, Same.seq g.inn h1⟩, k _ S' H' g (itl_ok h1 h2)⟩⟩
  · exact ⟨l, e, .inr ⟨⟨vs, Same.tup g.inn h1⟩, k _ S' H' g (itt_ok h1 h2)⟩⟩
/-- range -/
def rangeL (lo : Int) : Nat → List Int
  | 0 => []
  | n + 1 => lo :: rangeL (lo + 1) n
theorem rangeL_length : ∀ (lo : Int) (n : Nat), (rangeL lo n).length = n
  | _, 0 => rfl
  | lo, n + 1 => congrArg Nat.succ (rangeL_length (lo + 1) n)
theorem rangeL_get : ∀ (lo : Int) (n i : Nat), i < n → (rangeL lo n)[i]? = some (lo + (i : Int))
  | _, 0, _, h => absurd h (Nat.not_lt_zero _)
  | lo, n + 1, 0, _ => by
    show some lo = some (lo + ((0 : Nat) : Int))
    rw [show lo + ((0 : Nat) : Int) = lo from Int.add_zero lo]
  | lo, n + 1, i + 1, h => by
    show (rangeL (lo + 1) n)[i]? = _
    rw [rangeL_get (lo + 1) n i (Nat.lt_of_succ_lt_succ h)]
    congr 1
    omega
def rngM (lo hi : Int) : R (List Int) := R.guard (-(2 ^ 62) ≤ lo ∧ lo < 2 ^ 62 ∧ -(2 ^ 62) ≤ hi ∧ hi < 2 ^ 62) (rangeL lo (hi - lo).toNat)
theorem itr_ok {K : PySem.W.Frag} {S : Hp} {lo : Int} {n : Nat} : ItOk (Itr lo n) K S cI (rangeL lo n) := fun i S1 H1 s1 s2 => by
  refine ⟨fun hi => ?_, fun z hz => ?_⟩
  · rw [rangeL_length] at hi
    exact hi
  · by_cases hi : i < n
    · rw [rangeL_get lo n i hi] at hz
      have e : lo + (i : Int) = z := Option.some.inj hz
      subst e
      refine ⟨hi, fun x H' y => ?_⟩
      obtain ⟨e1, e2⟩ := y
      subst e1
      exact ⟨S1, .refl s2, e2⟩
    · rw [List.getElem?_eq_none (by rw [rangeL_length]; omega)] at hz
      cases hz
theorem iterR1 {m : R Int} (hm : X.mg "range" = none) (ha : DE X W ds a cI m) (hg : Gl X "range" := by rfl) (hs : starEach [a] X.env = [(false, eval a X.env)] := by rfl) : DI X W ds tg (.Call (.Name "range" p) [a] [] pos) cI (m >>= fun n => rngM 0 n) := by
  obtain ⟨t, pa, q⟩ := ha
  refine ⟨_, pi_range1 hg hm (pa_cons pa pa_nil hs) hs, fun S0 H0 σ S H Q E P => q S0 H0 σ S H _ E (R.post_mono (R.post_bind.mp P) (fun n k v S' H' g r => ?_) (fun _ k => k))⟩
  obtain ⟨k1, k2⟩ := R.guard_post k
  have ev : v = V.int n := r
  subst ev
  refine ⟨n, rfl, k1.2.2.1, k1.2.2.2, ?_⟩
  have e : n - 0 = n := by omega
  rw [e] at k2
  exact k2 _ S' H' g itr_ok
theorem iterR2 {m n : R Int} (hm : X.mg "range" = none) (ha : DE X W ds a cI m) (hb : DE X W ds b cI n) (hg : Gl X "range" := by rfl) (hs : starEach [a, b] X.env = [(false, eval a X.env), (false, eval b X.env)] := by rfl) (hs2 : starEach [b] X.env = [(false, eval b X.env)] := by rfl)
    (hs3 : starEach (a :: [b]) X.env = (false, eval a X.env) :: starEach [b] X.env := by rfl) (hs4 : starEach (b :: []) X.env = (false, eval b X.env) :: starEach [] X.env := by rfl) : DI X W ds tg (.Call (.Name "range" p) [a, b] [] pos) cI (m >>= fun lo => n >>= fun hi => rngM lo hi) := by
  obtain ⟨t, pa, q⟩ := ha
  obtain ⟨u, pb, q2⟩ := hb
  refine ⟨_, pi_range2 hg hm (pa_cons pa (pa_cons pb pa_nil hs4) hs3) hs hs2, fun S0 H0 σ S H Q E P => q S0 H0 σ S H _ E (R.post_mono (R.post_bind.mp P) (fun lo k v S' H' g r => ?_) (fun _ k => k))⟩
  have ev : v = V.int lo := r
  subst ev
  refine q2 S0 H0 σ S' H' _ (E.step g) (R.post_mono (R.post_bind.mp k) (fun hi k v S2 H2 g2 r => ?_) (fun _ k cl d S2 H2 g2 r => k cl d S2 H2 (g.trans g2) r))
  have ev : v = V.int hi := r
  subst ev
  obtain ⟨k1, k2⟩ := R.guard_post k
  exact ⟨lo, hi, rfl, ⟨k1.1, k1.2.1, k1.2.2.1, k1.2.2.2⟩, k2 _ S2 H2 (g.trans g2) itr_ok⟩
theorem iterR1_p {n : Int} (hm : X.mg "range" = none) (ha : DE X W ds a cI (.ok n)) (hg : Gl X "range" := by rfl) (hs : starEach [a] X.env = [(false, eval a X.env)] := by rfl) : DI X W ds tg (.Call (.Name "range" p) [a] [] pos) cI (rngM 0 n) := iterR1 hm ha hg hs
/-- targets -/
theorem tgN {σ' : Type} {e0 : σ' → Env} {x : Str} (i : Nat) (sn : X.N.Nodup) (hi : X.N[i]? = some x := by rfl) (hx : Loc X.env.scope x := by first | exact Or.inl rfl | exact Or.inr rfl)
    (hf : X.fn x = true ∨ X.env.scope.names.lookup x = some .local := by first | exact .inl rfl | exact .inr rfl) : DG X (.Name x pos) c e0 (fun s a => (e0 s).put i (.st α c a)) :=
  ⟨gName i, pg_name sn hi hx hf, fun s a v S0 H0 σ S H Q E r k => k _ (E.putS r)⟩
end
/-! ### loops -/
section
variable {α β S S' : Type}
def foldR (step : S → α → R S) : List α → S → R S
  | [], s => .ok s
  | x :: xs, s => step s x >>= fun s' => foldR step xs s'
inductive End (S β : Type) where
  | go (s : S) | out (b : β)
def loopR (step : S → α → R (Out β S S)) : List α → S → R (End S β)
  | [], s => .ok (.go s)
  | x :: xs, s => step s x >>= fun o => match o with
    | .nxt s' => loopR step xs s'
    | .ctn s' => loopR step xs s'
    | .brk s' => .ok (.go s')
    | .ret b => .ok (.out b)
@[simp] theorem foldR_nil (step : S → α → R S) (s : S) : foldR step [] s = .ok s := rfl
@[simp] theorem foldR_cons (step : S → α → R S) (x : α) (xs : List α) (s : S) : foldR step (x :: xs) s = (step s x >>= fun s' => foldR step xs s') := rfl
end
section
variable {X : Cx} {W : WK} {T : Bool} {ds : Env} {α β γ τ ν κ ω σ' : Type} {tg iter : Expr} {body rest : List Stmt} {pos p : Pos} {c : Cd α} {cb : RCd β} {eN : ν → Env} {eK : κ → Env} {I : ω → Out β ν κ} {mi : R (List α)}
/-- a loop in general: W' the word of what is left, by the state of the slots -/
theorem for_any {g : TG} {J : It} {D : Ends} {S0 H0 Sa : Hp} {σ : L2.St} {H : Hp} {as : List α} (eL : σ' → Env) (C : List α → σ' → Prop) (hJ : ItOk J X.K Sa c as)
    (s0 : σ') (S : Hp) (hs : Same Sa S) (E : EnvOk X.K S0 H0 (eL s0) σ S H) (h0 : C as s0)
    (turn : ∀ a r s σ2 S2 H2 v (N : L2.St → Hp → Prop), C (a :: r) s → EnvOk X.K S0 H0 (eL s) σ2 S2 H2 → c.rep X.K S2 v a → (∀ s' σ3 S3 H3, C r s' → Same S2 S3 → EnvOk X.K S0 H0 (eL s') σ3 S3 H3 → N σ3 H3) → g v σ2 H2 fun σ3 H3 => tS X body { D with nx := N, ct := N, bk := D.nx } σ3 H3)
    (done : ∀ s σ2 S2 H2, C [] s → EnvOk X.K S0 H0 (eL s) σ2 S2 H2 → D.nx σ2 H2) :
    ∃ W : Nat → Nat → L2.St → Hp → Prop, (∃ m, W 0 m σ H) ∧ ∀ i m σ H, W i m σ H →
      (J.stop i H ∧ D.nx σ H) ∨ (J.go i H ∧ ∃ N : L2.St → Hp → Prop, (∀ σ' H', N σ' H' → ∃ m', m' < m ∧ W (i + 1) m' σ' H') ∧ ∀ x H', J.yld i H x H' → g x σ H' fun σ2 H2 => tS X body { D with nx := N, ct := N, bk := D.nx } σ2 H2) := by
  refine ⟨fun i m σ H => m = as.length - i ∧ i ≤ as.length ∧ ∃ s S, Same Sa S ∧ EnvOk X.K S0 H0 (eL s) σ S H ∧ C (as.drop i) s, ⟨as.length, by simp, Nat.zero_le _, s0, S, hs, E, by simpa using h0⟩, ?_⟩
  rintro i m σ H ⟨rfl, hi, s, S, hs, E, h⟩
  obtain ⟨j1, j2⟩ := hJ i S H hs E.inn
  by_cases hlt : i < as.length
  · have ha : as[i]? = some as[i] := List.getElem?_eq_getElem hlt
    obtain ⟨k1, k2⟩ := j2 _ ha
    refine .inr ⟨k1, fun σ' H' => ∃ s S, Same Sa S ∧ EnvOk X.K S0 H0 (eL s) σ' S H' ∧ C (as.drop (i + 1)) s, fun σ2 H2 q => ⟨as.length - (i + 1), by omega, rfl, hlt, q⟩, fun x H' y => ?_⟩
    obtain ⟨S2, g2, r2⟩ := k2 x H' y
    rw [List.drop_eq_getElem_cons hlt] at h
    exact turn _ _ s σ S2 H' x _ h (E.step g2) r2 fun s' σ3 S3 H3 h3 s3 E3 => ⟨s', S3, hs.trans (g2.st.trans s3), E3, h3⟩
  · have e : i = as.length := by omega
    subst e
    rw [List.drop_length] at h
    exact .inl ⟨j1 (Nat.le_refl _), done s σ S H h E⟩
/-- for tg in iter: body; nothing in it but passes to the next turn -/
theorem forF [kw : KW W] {σ' : Type} {eL : σ' → Env} {eB : σ' → α → Env} {step : σ' → α → R σ'} {s0 : σ'} {k : σ' → R ω} (hc : X.calm = true) (hp : PassesOwn (model X.prog X.w) X.A X.env X.xe) (hi : DI X W ds tg iter c mi) (hg : DG X tg c eL eB) (l : EnvLe ds (eL s0))
    (hb : ∀ s a, DS X W false (eB s a) body cb eL eL (fun s => (.nxt s : Out β σ' σ')) (step s a)) (hr : ∀ s, DS X W T (eL s) rest cb eN eK I (k s)) (hs : ∀ x, foldedSetIterable iter X.env x = pure x := by intro _; rfl) :
    DS X W T ds (.For tg iter body [] pos :: rest) cb eN eK I (mi >>= fun as => foldR step as s0 >>= k) := fun S0 H0 σ S H D nx h E P => by
  obtain ⟨W, rfl⟩ := kw.ex
  obtain ⟨wi, pi, qi⟩ := hi
  obtain ⟨g, pg, qg⟩ := hg
  refine seq (ps_for hp hc pi pg pss_tS hs) (qi S0 H0 σ S H _ E (R.post_mono (R.post_bind.mp P) (fun as q J S' H' gr hJ => ?_) (fun x q cl d S' H' gr r => q cl d S' H' (E.grow.trans gr) r)))
  refine for_any eL (fun as s => (foldR step as s >>= k).post (fun w => OutP X.K S0 H0 cb eN eK D (I w)) (EX X.K W S0 H0)) hJ s0 S' (.refl _) ((E.step gr).le l) q (fun a r s σ2 S2 H2 v N hC E2 r2 hN => ?_) (fun s σ2 S2 H2 hC E2 => ?_)
  · refine qg s a v S0 H0 σ2 S2 H2 _ E2 r2 fun σ3 E3 => ?_
    have hC' : (step s a >>= fun s' => foldR step r s' >>= k).post (fun w => OutP X.K S0 H0 cb eN eK D (I w)) (EX X.K W S0 H0) := by rw [← R.bind_assoc]; exact hC
    refine hb s a S2 H0 σ3 S2 H2 { D with nx := N, ct := N, bk := tS X rest { D with nx := nx } } N (.inr rfl) E3.rebase (R.post_mono (R.post_bind.mp hC') (fun s' q' σ4 S4 H4 E4 => ?_) (fun _ q' => q'.rebase E3.grow))
    exact hN s' σ4 S4 H4 q' E4.grow.st (E4.unbase E3.grow)
  · exact hr s S0 H0 σ2 S2 H2 D nx h E2 hC
/-- for tg in iter: body, which may leave or return -/
theorem forO [kw : KW W] {σ' : Type} {eL : σ' → Env} {eB : σ' → α → Env} {step : σ' → α → R (Out β σ' σ')} {s0 : σ'} {k : End σ' β → R ω} (hc : X.calm = true) (hp : PassesOwn (model X.prog X.w) X.A X.env X.xe) (hi : DI X W ds tg iter c mi) (hg : DG X tg c eL eB) (l : EnvLe ds (eL s0))
    (hb : ∀ s a, DS X W false (eB s a) body cb eL eL (fun o => o) (step s a)) (hr : ∀ s, DS X W T (eL s) rest cb eN eK I (k (.go s))) (ho : ∀ b, ∃ w, k (.out b) = .ok w ∧ I w = .ret b := by intro b; exact ⟨_, rfl, rfl⟩) (hs : ∀ x, foldedSetIterable iter X.env x = pure x := by intro _; rfl) :
    DS X W T ds (.For tg iter body [] pos :: rest) cb eN eK I (mi >>= fun as => loopR step as s0 >>= k) := fun S0 H0 σ S H D nx h E P => by
  obtain ⟨W, rfl⟩ := kw.ex
  obtain ⟨wi, pi, qi⟩ := hi
  obtain ⟨g, pg, qg⟩ := hg
  refine seq (ps_for hp hc pi pg pss_tS hs) (qi S0 H0 σ S H _ E (R.post_mono (R.post_bind.mp P) (fun as q J S' H' gr hJ => ?_) (fun x q cl d S' H' gr r => q cl d S' H' (E.grow.trans gr) r)))
  refine for_any eL (fun as s => (loopR step as s >>= k).post (fun w => OutP X.K S0 H0 cb eN eK D (I w)) (EX X.K W S0 H0)) hJ s0 S' (.refl _) ((E.step gr).le l) q (fun a r s σ2 S2 H2 v N hC E2 r2 hN => ?_) (fun s σ2 S2 H2 hC E2 => ?_)
  · refine qg s a v S0 H0 σ2 S2 H2 _ E2 r2 fun σ3 E3 => ?_
    have hC' : (step s a >>= fun o => (match o with
      | .nxt s' => loopR step r s'
      | .ctn s' => loopR step r s'
      | .brk s' => .ok (.go s')
      | .ret b => .ok (.out b)) >>= k).post (fun w => OutP X.K S0 H0 cb eN eK D (I w)) (EX X.K W S0 H0) := by rw [← R.bind_assoc]; exact hC
    refine hb s a S2 H0 σ3 S2 H2 { D with nx := N, ct := N, bk := tS X rest { D with nx := nx } } N (.inr rfl) E3.rebase (R.post_mono (R.post_bind.mp hC') (fun o q' => ?_) (fun _ q' => q'.rebase E3.grow))
    cases o with
    | nxt s' => exact fun σ4 S4 H4 E4 => hN s' σ4 S4 H4 q' E4.grow.st (E4.unbase E3.grow)
    | ctn s' => exact fun σ4 S4 H4 E4 => hN s' σ4 S4 H4 q' E4.grow.st (E4.unbase E3.grow)
    | brk s' => exact fun σ4 S4 H4 E4 => hr s' S0 H0 σ4 S4 H4 D nx h (E4.unbase E3.grow) q'
    | ret b =>
      obtain ⟨w, e1, e2⟩ := ho b
      have q2 : (k (.out b)).post (fun w => OutP X.K S0 H0 cb eN eK D (I w)) (EX X.K W S0 H0) := q'
      rw [e1] at q2
      have q3 : OutP X.K S0 H0 cb eN eK D (I w) := q2
      rw [e2] at q3
      exact fun v S4 H4 g4 r4 => q3 v S4 H4 (E3.grow.base g4) r4
  · exact hr s S0 H0 σ2 S2 H2 D nx h E2 hC
/-! ### while -/
def whileR {S : Type} (n : Nat) (test : S → R Bool) (step : S → R S) (s : S) : R S := match n with
  | 0 => .stuck
  | n + 1 => test s >>= fun z => if z = true then step s >>= fun s' => whileR n test step s' else .ok s
theorem whileF [kw : KW W] {σ' : Type} {eL : σ' → Env} {test : σ' → R Bool} {step : σ' → R σ'} {s0 : σ'} {k : σ' → R ω} {t : Expr} {n : Nat} (hp : PassesOwn (model X.prog X.w) X.A X.env X.xe) (l : EnvLe ds (eL s0)) (ht : ∃ tt, PT X t tt ∧ ∀ s S0 H0 σ S H Q, EnvOk X.K S0 H0 (eL s) σ S H → PB X.K S H (test s) Q (W σ) → tt σ H Q)
    (hb : ∀ s, DS X W false (eL s) body cb eL eL (fun s => (.nxt s : Out β σ' σ')) (step s)) (hr : ∀ s, DS X W T (eL s) rest cb eN eK I (k s)) :
    DS X W T ds (.While t body [] pos :: rest) cb eN eK I (whileR n test step s0 >>= k) := fun S0 H0 σ S H D nx h E P => by
  obtain ⟨W, rfl⟩ := kw.ex
  obtain ⟨tt, pt, qt⟩ := ht
  refine seq (ps_while hp pt pss_tS) ⟨fun m σ H => ∃ s S, EnvOk X.K S0 H0 (eL s) σ S H ∧ (whileR m test step s >>= k).post (fun w => OutP X.K S0 H0 cb eN eK D (I w)) (EX X.K W S0 H0), ⟨n, s0, S, E.le l, P⟩, ?_⟩
  rintro m σ2 H2 ⟨s, S2, E2, C⟩
  cases m with
  | zero => exact False.elim C
  | succ m =>
    have C' : (test s >>= fun z => (if z = true then step s >>= fun s' => whileR m test step s' else .ok s) >>= k).post (fun w => OutP X.K S0 H0 cb eN eK D (I w)) (EX X.K W S0 H0) := by rw [← R.bind_assoc]; exact C
    refine qt s S0 H0 σ2 S2 H2 _ E2 (stT (W := fun _ => W) E2 C' fun z S3 H3 E3 C3 => ?_)
    cases z with
    | true =>
      have C4 : (step s >>= fun s' => whileR m test step s' >>= k).post (fun w => OutP X.K S0 H0 cb eN eK D (I w)) (EX X.K W S0 H0) := by rw [← R.bind_assoc]; exact C3
      rw [if_pos rfl]
      refine ⟨fun σ H => ∃ s S, EnvOk X.K S0 H0 (eL s) σ S H ∧ (whileR m test step s >>= k).post (fun w => OutP X.K S0 H0 cb eN eK D (I w)) (EX X.K W S0 H0), fun σ' H' q => ⟨m, Nat.lt_succ_self m, q⟩, ?_⟩
      exact hb s S0 H0 σ2 S3 H3 { D with nx := _, ct := _, bk := tS X rest { D with nx := nx } } _ (.inr rfl) E3 (R.post_mono (R.post_bind.mp C4) (fun s' q' σ4 S4 H4 E4 => ⟨s', S4, E4, q'⟩) (fun _ q' => q'))
    | false =>
      rw [if_neg Bool.false_ne_true]
      exact hr s S0 H0 σ2 S3 H3 D nx h E3 C3
end
/-! ### defs -/
section
variable {P : Program} {w : World} {K : PySem.W.Frag} {mg : Str → Option Value} {base : Heap} {τ γ ν κ : Type}
theorem fn_mk {x qual : Str} {prs : Arguments} {body : List Stmt} {scope : Scope} {dvs : List V} {kws : List (Str × V)} {f : Addr} {fd : FuncData} {N ps : List Str} {k : Nat} {ca : CA τ} {c : Cd γ} {F : τ → R γ} {eN : ν → Env} {eK : κ → Env}
    (D : FunD K x qual prs body scope dvs kws f fd) (S : FnScope N ps scope) (hn : ca.n = ps.length) (hl : ca.n ≤ N.length)
    (hb : ∀ (cdv : Value) (A : Around) (outer : List PySem.Env) (s : Shared) (H : Hp) (E : XK), Room k (A.deeper (envOfC qual scope s.heap.objs.size f cdv)) →
      Lets (cxOf (L2N.CX P w) P w K mg base N qual scope f cdv A outer s H E) (fun _ => E) → PassesOwn (model P w) (A.deeper (envOfC qual scope s.heap.objs.size f cdv)) (envOfC qual scope s.heap.objs.size f cdv) (cxOf (L2N.CX P w) P w K mg base N qual scope f cdv A outer s H E).xe →
      ∀ z, DS (cxOf (L2N.CX P w) P w K mg base N qual scope f cdv A outer s H E) (fun _ => E) true (ca.env z ++ List.replicate (N.length - ca.n) .none) body (fun _ => c) eN eK (fun b => (.ret b : Out γ ν κ)) (F z)) :
    FnOk P w K mg base (L2N.CX P w) (k + 1) f fd ps (spF K ca c F) := by
  refine D.ok S (fun vs H Q E h => ?_) (fun cdv A outer s H vs Q E hr h => ?_)
  · obtain ⟨S, z, _, r, _⟩ := h
    rw [ca.len r, hn]
  · obtain ⟨S1, z, i, r, Px⟩ := h
    have tk : L2N.Takes (cxOf (L2N.CX P w) P w K mg base N qual scope f cdv A outer s H E) (fun cl d _ H => E cl d H) := L2N.takes_of rfl rfl rfl rfl
    have e0 := EnvOk.start (N := N) (H := H) (ca.sl r) (by rw [ca.len r]; exact hl) i
    rw [ca.len r] at e0
    refine ⟨tS _ body, pss_tS, hb cdv A outer s H E hr tk (passes_of rfl) z S1 H _ S1 H { nx := fun _ H' => Q .non H', rt := Q } (fun _ H' => Q .non H') (.inl rfl) e0 ?_⟩
    exact R.post_mono Px (fun b q v S' H' g r => q v S' H' g r) (fun x q cl d S' H' g r => q cl d S' H' g r)
/-- a def that hands back None at its end -/
theorem fn_mkN {x qual : Str} {prs : Arguments} {body : List Stmt} {scope : Scope} {dvs : List V} {kws : List (Str × V)} {f : Addr} {fd : FuncData} {N ps : List Str} {k : Nat} {ca : CA τ} {F : τ → R Unit} {eN : Unit → Env} {eK : κ → Env}
    (D : FunD K x qual prs body scope dvs kws f fd) (S : FnScope N ps scope) (hn : ca.n = ps.length) (hl : ca.n ≤ N.length)
    (hb : ∀ (cdv : Value) (A : Around) (outer : List PySem.Env) (s : Shared) (H : Hp) (E : XK), Room k (A.deeper (envOfC qual scope s.heap.objs.size f cdv)) →
      Lets (cxOf (L2N.CX P w) P w K mg base N qual scope f cdv A outer s H E) (fun _ => E) → PassesOwn (model P w) (A.deeper (envOfC qual scope s.heap.objs.size f cdv)) (envOfC qual scope s.heap.objs.size f cdv) (cxOf (L2N.CX P w) P w K mg base N qual scope f cdv A outer s H E).xe →
      ∀ z, DS (cxOf (L2N.CX P w) P w K mg base N qual scope f cdv A outer s H E) (fun _ => E) false (ca.env z ++ List.replicate (N.length - ca.n) .none) body (fun _ => cN) eN eK (fun b => (.nxt b : Out Unit Unit κ)) (F z)) :
    FnOk P w K mg base (L2N.CX P w) (k + 1) f fd ps (spF K ca cN F) := by
  refine D.ok S (fun vs H Q E h => ?_) (fun cdv A outer s H vs Q E hr h => ?_)
  · obtain ⟨S, z, _, r, _⟩ := h
    rw [ca.len r, hn]
  · obtain ⟨S1, z, i, r, Px⟩ := h
    have tk : L2N.Takes (cxOf (L2N.CX P w) P w K mg base N qual scope f cdv A outer s H E) (fun cl d _ H => E cl d H) := L2N.takes_of rfl rfl rfl rfl
    have e0 := EnvOk.start (N := N) (H := H) (ca.sl r) (by rw [ca.len r]; exact hl) i
    rw [ca.len r] at e0
    refine ⟨tS _ body, pss_tS, hb cdv A outer s H E hr tk (passes_of rfl) z S1 H _ S1 H { nx := fun _ H' => Q .non H', rt := Q } (fun _ H' => Q .non H') (.inr rfl) e0 ?_⟩
    exact R.post_mono Px (fun b q σ' S' H' e => q .non S' H' e.grow rfl) (fun x q cl d S' H' g r => q cl d S' H' g r)
theorem fni {x : Str} {f : Addr} {fd : FuncData} {ps : List Str} {k : Nat} {ca : CA τ} {c : Cd γ} {F : τ → R γ} (h : FnOk P w K mg base (L2N.CX P w) k f fd ps (spF K ca c F)) (hm : mg x = some (.ref f)) (hk : PySem.W.keepIn K (.ref f) = true) (hb : Binds K fd ps []) : FnI P w K mg base x k ps ca c F := ⟨⟨f, fd, h, hm, hk, hb⟩⟩
end
end Zk
set_option maxHeartbeats 4000000
/-! # Zk: lists of so many values, None or a value, isinstance, short words -/
namespace Zk
open PySem PySem.Spec PyProof.Rows L2
theorem leZ : EnvLe [] [] := trivial
theorem leN {a : SD} {as bs : Env} (h : EnvLe as bs) : EnvLe (a :: as) (.none :: bs) := ⟨.inl rfl, h⟩
theorem leS {a : SD} {as bs : Env} (h : EnvLe as bs) : EnvLe (a :: as) (a :: bs) := ⟨.inr rfl, h⟩
/-- a list of so many values -/
def cH {τ : Type} (r : CA τ) : Cd τ :=
  ⟨fun K H v a => ∃ p vs, v = .ref p ∧ SqL K H p vs ∧ r.rep K H vs a, fun e ⟨p, vs, h1, h2, h3⟩ => ⟨p, vs, h1, Same.seq e h2, r.mono e h3⟩⟩
@[reducible] instance {τ : Type} {r : CA τ} [DtA r] : Dt (cH r) where
  toD a := .list (DtA.toDs r a)
  depth := DtA.depth r + 1
  lay a := by simp only [PyData.canLay0]; exact DtA.lay a
  le a := by simp only [PyData.depth]; exact Nat.succ_le_succ (DtA.le a)
  eqv a b := by simp only [PyData.eqv]; exact DtA.eqv a b
  rep h := by
    obtain ⟨p, vs, e, h1, h2⟩ := h
    rw [e]
    exact .lst h1 (DtA.rep h2)
/-! ### not None -/
class NN {α : Type} (c : Cd α) : Prop where
  nn : ∀ {K : PySem.W.Frag} {H : Hp} {v : V} {a : α}, c.rep K H v a → v ≠ .non
namespace NN
variable {α τ : Type}
instance : NN cI := ⟨fun {K H v a} h => by
  have e : v = V.int a := h
  rw [e]; exact fun z => nomatch z⟩
instance : NN cB := ⟨fun {K H v a} h => by
  have e : v = V.bl a := h
  rw [e]; exact fun z => nomatch z⟩
instance : NN cS := ⟨fun {K H v a} h => by
  have e : v = V.str a := h
  rw [e]; exact fun z => nomatch z⟩
instance {c : Cd α} : NN (cL c) := ⟨fun ⟨p, vs, e, _⟩ => by rw [e]; exact fun z => nomatch z⟩
instance {c : Cd α} : NN (cT c) := ⟨fun ⟨p, vs, e, _⟩ => by rw [e]; exact fun z => nomatch z⟩
instance {c : Cd α} : NN (cLT c) := ⟨fun h => by
  rcases h with ⟨p, vs, e, _⟩ | ⟨p, vs, e, _⟩ <;> (rw [e]; exact fun z => nomatch z)⟩
instance {r : CA τ} : NN (cP r) := ⟨fun ⟨p, vs, e, _⟩ => by rw [e]; exact fun z => nomatch z⟩
instance {r : CA τ} : NN (cH r) := ⟨fun ⟨p, vs, e, _⟩ => by rw [e]; exact fun z => nomatch z⟩
end NN
section
variable {X : Cx} {W : WK} {ds : Env} {α β γ τ : Type} {a b : Expr} {e : Expr} {es : List Expr} {pos p : Pos} {c : Cd α} {c2 : Cd β} {m : R α} {x : α}
def unO (o : Option α) : R α := match o with
  | some z => .ok z
  | none => .stuck
theorem some_ (h : DE X W ds a c (.ok x)) [NN c] : DE X W ds a (cO c) (.ok (some x)) := coe (c2 := cO c) (f := some) (fun K H v a r => ⟨NN.nn r, r⟩) h
theorem some_m (h : DE X W ds a c m) [NN c] : DE X W ds a (cO c) (m >>= fun z => .ok (some z)) := coe (c2 := cO c) (f := some) (fun K H v a r => ⟨NN.nn r, r⟩) h
theorem none_ {j : Nat} : DE X W ds (.Constant .none j pos) (cO c) (.ok none) := coe (c := cN) (c2 := cO c) (f := fun _ => none) (fun K H v a r => r) (non (j := j))
theorem un_m {m : R (Option α)} (h : DE X W ds a (cO c) m) : DE X W ds a c (m >>= unO) := by
  obtain ⟨t, p, q⟩ := h
  refine ⟨t, p, fun S0 H0 σ S H Q E P => q S0 H0 σ S H Q E (P.bind fun o v S1 H1 g r P1 => ?_)⟩
  cases o with
  | none => exact False.elim P1
  | some z => exact P1.ok g.inn r.2
theorem un_p {o : Option α} (h : DE X W ds a (cO c) (.ok o)) : DE X W ds a c (unO o) := un_m h
theorem lt_L {xs : List α} (h : DE X W ds a (cL c) (.ok xs)) : DE X W ds a (cLT c) (.ok xs) := coe (c2 := cLT c) (f := fun z => z) (fun K H v a r => Or.inl r) h
theorem lt_T {xs : List α} (h : DE X W ds a (cT c) (.ok xs)) : DE X W ds a (cLT c) (.ok xs) := coe (c2 := cLT c) (f := fun z => z) (fun K H v a r => Or.inr r) h
theorem coe_id {m : R α} {c' : Cd α} (h : ∀ K H v a, c.rep K H v a → c'.rep K H v a) (ha : DE X W ds a c m) : DE X W ds a c' m := by
  have q := coe (f := fun z => z) h ha
  rw [show (m >>= fun z => R.ok z) = m from R.bind_ok m] at q
  exact q
theorem lt_Lm {m : R (List α)} (h : DE X W ds a (cL c) m) : DE X W ds a (cLT c) m := coe_id (c' := cLT c) (fun K H v a r => Or.inl r) h
theorem lt_Tm {m : R (List α)} (h : DE X W ds a (cT c) m) : DE X W ds a (cLT c) m := coe_id (c' := cLT c) (fun K H v a r => Or.inr r) h
/-! ### lists of so many values -/
theorem lstH {r : CA τ} {m : R τ} (ha : DA X W ds es r m) (hn : r.n ≤ 1000 := by exact Nat.le_of_ble_eq_true rfl) : DE X W ds (.List es pos) (cH r) m := by
  obtain ⟨t, p, q⟩ := ha
  refine ⟨_, pe_lst p, fun S0 H0 σ S H Q E P => q S0 H0 σ S H _ E ?_⟩
  refine R.post_mono P (fun z k vs S1 H1 g r1 => ⟨by rw [r.len r1]; exact Nat.le_trans hn (by decide), fun q hq => ?_⟩) (fun _ k => k)
  have g2 : Grow S1 H1 (upd S1 q (.lst vs)) (upd H1 q (.lst vs)) := .lay g.inn hq
  exact k _ _ _ (g.trans g2) ⟨q, vs, rfl, SqL.of upd_same, r.mono g2.st r1⟩
theorem tupP {r : CA τ} {m : R τ} {k : Nat} (ha : DA X W ds es r m) (hn : r.n ≤ 1000 := by exact Nat.le_of_ble_eq_true rfl) : DE X W ds (.Tuple es k pos) (cP r) m := tup (Nat.le_trans hn (by decide)) ha
theorem ixH {r : CA τ} {i : Int} {n : Nat} {c3 : Cd γ} {pr : τ → γ} {m : R τ} {j : Nat} {p2 : Pos} (h : AIx r i n c3 pr) (ha : DE X W ds a (cH r) m) (hp : PlainIx (.Constant (.int i) j p2) := by exact fun _ _ => rfl) : DE X W ds (.Subscript a (.Constant (.int i) j p2) pos) c3 (m >>= fun z => .ok (pr z)) := by
  obtain ⟨ta, pa, qa⟩ := ha
  refine ⟨_, pe_ix ix_list pa pe_int hp, fun S0 H0 σ S H Q E P => qa S0 H0 σ S H _ E (P.bind fun z v S1 H1 g r1 P1 => ?_)⟩
  obtain ⟨q, vs, e, h1, h2⟩ := r1
  obtain ⟨w, k1, k2⟩ := h _ _ _ _ h2
  exact ⟨q, vs, i, w, e, rfl, Same.seq g.inn h1, k1, P1.ok g.inn k2⟩

theorem ixh_0_1p {t0 : Type} {d0 : Cd t0} {z : t0} {j : Nat} {p2 : Pos} (ha : DE X W ds a (cH (aOne d0)) (.ok z)) (hp : PlainIx (.Constant (.int 0) j p2) := by exact fun _ _ => rfl) : DE X W ds (.Subscript a (.Constant (.int 0) j p2) pos) d0 (.ok (z)) := ixH aix_0_1 ha hp
theorem ixh_0_1m {t0 : Type} {d0 : Cd t0} {m : R (t0)} {j : Nat} {p2 : Pos} (ha : DE X W ds a (cH (aOne d0)) m) (hp : PlainIx (.Constant (.int 0) j p2) := by exact fun _ _ => rfl) : DE X W ds (.Subscript a (.Constant (.int 0) j p2) pos) d0 (m >>= fun z => .ok (z)) := ixH aix_0_1 ha hp
theorem ixh_0_2p {t0 : Type} {t1 : Type} {d0 : Cd t0} {d1 : Cd t1} {z : t0 × t1} {j : Nat} {p2 : Pos} (ha : DE X W ds a (cH (aCons d0 (aOne d1))) (.ok z)) (hp : PlainIx (.Constant (.int 0) j p2) := by exact fun _ _ => rfl) : DE X W ds (.Subscript a (.Constant (.int 0) j p2) pos) d0 (.ok (z.1)) := ixH aix_0_2 ha hp
theorem ixh_0_2m {t0 : Type} {t1 : Type} {d0 : Cd t0} {d1 : Cd t1} {m : R (t0 × t1)} {j : Nat} {p2 : Pos} (ha : DE X W ds a (cH (aCons d0 (aOne d1))) m) (hp : PlainIx (.Constant (.int 0) j p2) := by exact fun _ _ => rfl) : DE X W ds (.Subscript a (.Constant (.int 0) j p2) pos) d0 (m >>= fun z => .ok (z.1)) := ixH aix_0_2 ha hp
theorem ixh_1_2p {t0 : Type} {t1 : Type} {d0 : Cd t0} {d1 : Cd t1} {z : t0 × t1} {j : Nat} {p2 : Pos} (ha : DE X W ds a (cH (aCons d0 (aOne d1))) (.ok z)) (hp : PlainIx (.Constant (.int 1) j p2) := by exact fun _ _ => rfl) : DE X W ds (.Subscript a (.Constant (.int 1) j p2) pos) d1 (.ok (z.2)) := ixH aix_1_2 ha hp
theorem ixh_1_2m {t0 : Type} {t1 : Type} {d0 : Cd t0} {d1 : Cd t1} {m : R (t0 × t1)} {j : Nat} {p2 : Pos} (ha : DE X W ds a (cH (aCons d0 (aOne d1))) m) (hp : PlainIx (.Constant (.int 1) j p2) := by exact fun _ _ => rfl) : DE X W ds (.Subscript a (.Constant (.int 1) j p2) pos) d1 (m >>= fun z => .ok (z.2)) := ixH aix_1_2 ha hp
theorem ixh_0_3p {t0 : Type} {t1 : Type} {t2 : Type} {d0 : Cd t0} {d1 : Cd t1} {d2 : Cd t2} {z : t0 × t1 × t2} {j : Nat} {p2 : Pos} (ha : DE X W ds a (cH (aCons d0 (aCons d1 (aOne d2)))) (.ok z)) (hp : PlainIx (.Constant (.int 0) j p2) := by exact fun _ _ => rfl) : DE X W ds (.Subscript a (.Constant (.int 0) j p2) pos) d0 (.ok (z.1)) := ixH aix_0_3 ha hp
theorem ixh_0_3m {t0 : Type} {t1 : Type} {t2 : Type} {d0 : Cd t0} {d1 : Cd t1} {d2 : Cd t2} {m : R (t0 × t1 × t2)} {j : Nat} {p2 : Pos} (ha : DE X W ds a (cH (aCons d0 (aCons d1 (aOne d2)))) m) (hp : PlainIx (.Constant (.int 0) j p2) := by exact fun _ _ => rfl) : DE X W ds (.Subscript a (.Constant (.int 0) j p2) pos) d0 (m >>= fun z => .ok (z.1)) := ixH aix_0_3 ha hp
theorem ixh_1_3p {t0 : Type} {t1 : Type} {t2 : Type} {d0 : Cd t0} {d1 : Cd t1} {d2 : Cd t2} {z : t0 × t1 × t2} {j : Nat} {p2 : Pos} (ha : DE X W ds a (cH (aCons d0 (aCons d1 (aOne d2)))) (.ok z)) (hp : PlainIx (.Constant (.int 1) j p2) := by exact fun _ _ => rfl) : DE X W ds (.Subscript a (.Constant (.int 1) j p2) pos) d1 (.ok (z.2.1)) := ixH aix_1_3 ha hp
theorem ixh_1_3m {t0 : Type} {t1 : Type} {t2 : Type} {d0 : Cd t0} {d1 : Cd t1} {d2 : Cd t2} {m : R (t0 × t1 × t2)} {j : Nat} {p2 : Pos} (ha : DE X W ds a (cH (aCons d0 (aCons d1 (aOne d2)))) m) (hp : PlainIx (.Constant (.int 1) j p2) := by exact fun _ _ => rfl) : DE X W ds (.Subscript a (.Constant (.int 1) j p2) pos) d1 (m >>= fun z => .ok (z.2.1)) := ixH aix_1_3 ha hp
theorem ixh_2_3p {t0 : Type} {t1 : Type} {t2 : Type} {d0 : Cd t0} {d1 : Cd t1} {d2 : Cd t2} {z : t0 × t1 × t2} {j : Nat} {p2 : Pos} (ha : DE X W ds a (cH (aCons d0 (aCons d1 (aOne d2)))) (.ok z)) (hp : PlainIx (.Constant (.int 2) j p2) := by exact fun _ _ => rfl) : DE X W ds (.Subscript a (.Constant (.int 2) j p2) pos) d2 (.ok (z.2.2)) := ixH aix_2_3 ha hp
theorem ixh_2_3m {t0 : Type} {t1 : Type} {t2 : Type} {d0 : Cd t0} {d1 : Cd t1} {d2 : Cd t2} {m : R (t0 × t1 × t2)} {j : Nat} {p2 : Pos} (ha : DE X W ds a (cH (aCons d0 (aCons d1 (aOne d2)))) m) (hp : PlainIx (.Constant (.int 2) j p2) := by exact fun _ _ => rfl) : DE X W ds (.Subscript a (.Constant (.int 2) j p2) pos) d2 (m >>= fun z => .ok (z.2.2)) := ixH aix_2_3 ha hp
theorem ixh_0_4p {t0 : Type} {t1 : Type} {t2 : Type} {t3 : Type} {d0 : Cd t0} {d1 : Cd t1} {d2 : Cd t2} {d3 : Cd t3} {z : t0 × t1 × t2 × t3} {j : Nat} {p2 : Pos} (ha : DE X W ds a (cH (aCons d0 (aCons d1 (aCons d2 (aOne d3))))) (.ok z)) (hp : PlainIx (.Constant (.int 0) j p2) := by exact fun _ _ => rfl) : DE X W ds (.Subscript a (.Constant (.int 0) j p2) pos) d0 (.ok (z.1)) := ixH aix_0_4 ha hp
theorem ixh_0_4m {t0 : Type} {t1 : Type} {t2 : Type} {t3 : Type} {d0 : Cd t0} {d1 : Cd t1} {d2 : Cd t2} {d3 : Cd t3} {m : R (t0 × t1 × t2 × t3)} {j : Nat} {p2 : Pos} (ha : DE X W ds a (cH (aCons d0 (aCons d1 (aCons d2 (aOne d3))))) m) (hp : PlainIx (.Constant (.int 0) j p2) := by exact fun _ _ => rfl) : DE X W ds (.Subscript a (.Constant (.int 0) j p2) pos) d0 (m >>= fun z => .ok (z.1)) := ixH aix_0_4 ha hp
theorem ixh_1_4p {t0 : Type} {t1 : Type} {t2 : Type} {t3 : Type} {d0 : Cd t0} {d1 : Cd t1} {d2 : Cd t2} {d3 : Cd t3} {z : t0 × t1 × t2 × t3} {j : Nat} {p2 : Pos} (ha : DE X W ds a (cH (aCons d0 (aCons d1 (aCons d2 (aOne d3))))) (.ok z)) (hp : PlainIx (.Constant (.int 1) j p2) := by exact fun _ _ => rfl) : DE X W ds (.Subscript a (.Constant (.int 1) j p2) pos) d1 (.ok (z.2.1)) := ixH aix_1_4 ha hp
theorem ixh_1_4m {t0 : Type} {t1 : Type} {t2 : Type} {t3 : Type} {d0 : Cd t0} {d1 : Cd t1} {d2 : Cd t2} {d3 : Cd t3} {m : R (t0 × t1 × t2 × t3)} {j : Nat} {p2 : Pos} (ha : DE X W ds a (cH (aCons d0 (aCons d1 (aCons d2 (aOne d3))))) m) (hp : PlainIx (.Constant (.int 1) j p2) := by exact fun _ _ => rfl) : DE X W ds (.Subscript a (.Constant (.int 1) j p2) pos) d1 (m >>= fun z => .ok (z.2.1)) := ixH aix_1_4 ha hp
theorem ixh_2_4p {t0 : Type} {t1 : Type} {t2 : Type} {t3 : Type} {d0 : Cd t0} {d1 : Cd t1} {d2 : Cd t2} {d3 : Cd t3} {z : t0 × t1 × t2 × t3} {j : Nat} {p2 : Pos} (ha : DE X W ds a (cH (aCons d0 (aCons d1 (aCons d2 (aOne d3))))) (.ok z)) (hp : PlainIx (.Constant (.int 2) j p2) := by exact fun _ _ => rfl) : DE X W ds (.Subscript a (.Constant (.int 2) j p2) pos) d2 (.ok (z.2.2.1)) := ixH aix_2_4 ha hp
theorem ixh_2_4m {t0 : Type} {t1 : Type} {t2 : Type} {t3 : Type} {d0 : Cd t0} {d1 : Cd t1} {d2 : Cd t2} {d3 : Cd t3} {m : R (t0 × t1 × t2 × t3)} {j : Nat} {p2 : Pos} (ha : DE X W ds a (cH (aCons d0 (aCons d1 (aCons d2 (aOne d3))))) m) (hp : PlainIx (.Constant (.int 2) j p2) := by exact fun _ _ => rfl) : DE X W ds (.Subscript a (.Constant (.int 2) j p2) pos) d2 (m >>= fun z => .ok (z.2.2.1)) := ixH aix_2_4 ha hp
theorem ixh_3_4p {t0 : Type} {t1 : Type} {t2 : Type} {t3 : Type} {d0 : Cd t0} {d1 : Cd t1} {d2 : Cd t2} {d3 : Cd t3} {z : t0 × t1 × t2 × t3} {j : Nat} {p2 : Pos} (ha : DE X W ds a (cH (aCons d0 (aCons d1 (aCons d2 (aOne d3))))) (.ok z)) (hp : PlainIx (.Constant (.int 3) j p2) := by exact fun _ _ => rfl) : DE X W ds (.Subscript a (.Constant (.int 3) j p2) pos) d3 (.ok (z.2.2.2)) := ixH aix_3_4 ha hp
theorem ixh_3_4m {t0 : Type} {t1 : Type} {t2 : Type} {t3 : Type} {d0 : Cd t0} {d1 : Cd t1} {d2 : Cd t2} {d3 : Cd t3} {m : R (t0 × t1 × t2 × t3)} {j : Nat} {p2 : Pos} (ha : DE X W ds a (cH (aCons d0 (aCons d1 (aCons d2 (aOne d3))))) m) (hp : PlainIx (.Constant (.int 3) j p2) := by exact fun _ _ => rfl) : DE X W ds (.Subscript a (.Constant (.int 3) j p2) pos) d3 (m >>= fun z => .ok (z.2.2.2)) := ixH aix_3_4 ha hp
theorem ixh_0_5p {t0 : Type} {t1 : Type} {t2 : Type} {t3 : Type} {t4 : Type} {d0 : Cd t0} {d1 : Cd t1} {d2 : Cd t2} {d3 : Cd t3} {d4 : Cd t4} {z : t0 × t1 × t2 × t3 × t4} {j : Nat} {p2 : Pos} (ha : DE X W ds a (cH (aCons d0 (aCons d1 (aCons d2 (aCons d3 (aOne d4)))))) (.ok z)) (hp : PlainIx (.Constant (.int 0) j p2) := by exact fun _ _ => rfl) : DE X W ds (.Subscript a (.Constant (.int 0) j p2) pos) d0 (.ok (z.1)) := ixH aix_0_5 ha hp
theorem ixh_0_5m {t0 : Type} {t1 : Type} {t2 : Type} {t3 : Type} {t4 : Type} {d0 : Cd t0} {d1 : Cd t1} {d2 : Cd t2} {d3 : Cd t3} {d4 : Cd t4} {m : R (t0 × t1 × t2 × t3 × t4)} {j : Nat} {p2 : Pos} (ha : DE X W ds a (cH (aCons d0 (aCons d1 (aCons d2 (aCons d3 (aOne d4)))))) m) (hp : PlainIx (.Constant (.int 0) j p2) := by exact fun _ _ => rfl) : DE X W ds (.Subscript a (.Constant (.int 0) j p2) pos) d0 (m >>= fun z => .ok (z.1)) := ixH aix_0_5 ha hp
theorem ixh_1_5p {t0 : Type} {t1 : Type} {t2 : Type} {t3 : Type} {t4 : Type} {d0 : Cd t0} {d1 : Cd t1} {d2 : Cd t2} {d3 : Cd t3} {d4 : Cd t4} {z : t0 × t1 × t2 × t3 × t4} {j : Nat} {p2 : Pos} (ha : DE X W ds a (cH (aCons d0 (aCons d1 (aCons d2 (aCons d3 (aOne d4)))))) (.ok z)) (hp : PlainIx (.Constant (.int 1) j p2) := by exact fun _ _ => rfl) : DE X W ds (.Subscript a (.Constant (.int 1) j p2) pos) d1 (.ok (z.2.1)) := ixH aix_1_5 ha hp
theorem ixh_1_5m {t0 : Type} {t1 : Type} {t2 : Type} {t3 : Type} {t4 : Type} {d0 : Cd t0} {d1 : Cd t1} {d2 : Cd t2} {d3 : Cd t3} {d4 : Cd t4} {m : R (t0 × t1 × t2 × t3 × t4)} {j : Nat} {p2 : Pos} (ha : DE X W ds a (cH (aCons d0 (aCons d1 (aCons d2 (aCons d3 (aOne d4)))))) m) (hp : PlainIx (.Constant (.int 1) j p2) := by exact fun _ _ => rfl) : DE X W ds (.Subscript a (.Constant (.int 1) j p2) pos) d1 (m >>= fun z => .ok (z.2.1)) := ixH aix_1_5 ha hp
theorem ixh_2_5p {t0 : Type} {t1 : Type} {t2 : Type} {t3 : Type} {t4 : Type} {d0 : Cd t0} {d1 : Cd t1} {d2 : Cd t2} {d3 : Cd t3} {d4 : Cd t4} {z : t0 × t1 × t2 × t3 × t4} {j : Nat} {p2 : Pos} (ha : DE X W ds a (cH (aCons d0 (aCons d1 (aCons d2 (aCons d3 (aOne d4)))))) (.ok z)) (hp : PlainIx (.Constant (.int 2) j p2) := by exact fun _ _ => rfl) : DE X W ds (.Subscript a (.Constant (.int 2) j p2) pos) d2 (.ok (z.2.2.1)) := ixH aix_2_5 ha hp
theorem ixh_2_5m {t0 : Type} {t1 : Type} {t2 : Type} {t3 : Type} {t4 : Type} {d0 : Cd t0} {d1 : Cd t1} {d2 : Cd t2} {d3 : Cd t3} {d4 : Cd t4} {m : R (t0 × t1 × t2 × t3 × t4)} {j : Nat} {p2 : Pos} (ha : DE X W ds a (cH (aCons d0 (aCons d1 (aCons d2 (aCons d3 (aOne d4)))))) m) (hp : PlainIx (.Constant (.int 2) j p2) := by exact fun _ _ => rfl) : DE X W ds (.Subscript a (.Constant (.int 2) j p2) pos) d2 (m >>= fun z => .ok (z.2.2.1)) := ixH aix_2_5 ha hp
theorem ixh_3_5p {t0 : Type} {t1 : Type} {t2 : Type} {t3 : Type} {t4 : Type} {d0 : Cd t0} {d1 : Cd t1} {d2 : Cd t2} {d3 : Cd t3} {d4 : Cd t4} {z : t0 × t1 × t2 × t3 × t4} {j : Nat} {p2 : Pos} (ha : DE X W ds a (cH (aCons d0 (aCons d1 (aCons d2 (aCons d3 (aOne d4)))))) (.ok z)) (hp : PlainIx (.Constant (.int 3) j p2) := by exact fun _ _ => rfl) : DE X W ds (.Subscript a (.Constant (.int 3) j p2) pos) d3 (.ok (z.2.2.2.1)) := ixH aix_3_5 ha hp
theorem ixh_3_5m {t0 : Type} {t1 : Type} {t2 : Type} {t3 : Type} {t4 : Type} {d0 : Cd t0} {d1 : Cd t1} {d2 : Cd t2} {d3 : Cd t3} {d4 : Cd t4} {m : R (t0 × t1 × t2 × t3 × t4)} {j : Nat} {p2 : Pos} (ha : DE X W ds a (cH (aCons d0 (aCons d1 (aCons d2 (aCons d3 (aOne d4)))))) m) (hp : PlainIx (.Constant (.int 3) j p2) := by exact fun _ _ => rfl) : DE X W ds (.Subscript a (.Constant (.int 3) j p2) pos) d3 (m >>= fun z => .ok (z.2.2.2.1)) := ixH aix_3_5 ha hp
theorem ixh_4_5p {t0 : Type} {t1 : Type} {t2 : Type} {t3 : Type} {t4 : Type} {d0 : Cd t0} {d1 : Cd t1} {d2 : Cd t2} {d3 : Cd t3} {d4 : Cd t4} {z : t0 × t1 × t2 × t3 × t4} {j : Nat} {p2 : Pos} (ha : DE X W ds a (cH (aCons d0 (aCons d1 (aCons d2 (aCons d3 (aOne d4)))))) (.ok z)) (hp : PlainIx (.Constant (.int 4) j p2) := by exact fun _ _ => rfl) : DE X W ds (.Subscript a (.Constant (.int 4) j p2) pos) d4 (.ok (z.2.2.2.2)) := ixH aix_4_5 ha hp
theorem ixh_4_5m {t0 : Type} {t1 : Type} {t2 : Type} {t3 : Type} {t4 : Type} {d0 : Cd t0} {d1 : Cd t1} {d2 : Cd t2} {d3 : Cd t3} {d4 : Cd t4} {m : R (t0 × t1 × t2 × t3 × t4)} {j : Nat} {p2 : Pos} (ha : DE X W ds a (cH (aCons d0 (aCons d1 (aCons d2 (aCons d3 (aOne d4)))))) m) (hp : PlainIx (.Constant (.int 4) j p2) := by exact fun _ _ => rfl) : DE X W ds (.Subscript a (.Constant (.int 4) j p2) pos) d4 (m >>= fun z => .ok (z.2.2.2.2)) := ixH aix_4_5 ha hp
theorem ixh_0_6p {t0 : Type} {t1 : Type} {t2 : Type} {t3 : Type} {t4 : Type} {t5 : Type} {d0 : Cd t0} {d1 : Cd t1} {d2 : Cd t2} {d3 : Cd t3} {d4 : Cd t4} {d5 : Cd t5} {z : t0 × t1 × t2 × t3 × t4 × t5} {j : Nat} {p2 : Pos} (ha : DE X W ds a (cH (aCons d0 (aCons d1 (aCons d2 (aCons d3 (aCons d4 (aOne d5))))))) (.ok z)) (hp : PlainIx (.Constant (.int 0) j p2) := by exact fun _ _ => rfl) : DE X W ds (.Subscript a (.Constant (.int 0) j p2) pos) d0 (.ok (z.1)) := ixH aix_0_6 ha hp
theorem ixh_0_6m {t0 : Type} {t1 : Type} {t2 : Type} {t3 : Type} {t4 : Type} {t5 : Type} {d0 : Cd t0} {d1 : Cd t1} {d2 : Cd t2} {d3 : Cd t3} {d4 : Cd t4} {d5 : Cd t5} {m : R (t0 × t1 × t2 × t3 × t4 × t5)} {j : Nat} {p2 : Pos} (ha : DE X W ds a (cH (aCons d0 (aCons d1 (aCons d2 (aCons d3 (aCons d4 (aOne d5))))))) m) (hp : PlainIx (.Constant (.int 0) j p2) := by exact fun _ _ => rfl) : DE X W ds (.Subscript a (.Constant (.int 0) j p2) pos) d0 (m >>= fun z => .ok (z.1)) := ixH aix_0_6 ha hp
theorem ixh_1_6p {t0 : Type} {t1 : Type} {t2 : Type} {t3 : Type} {t4 : Type} {t5 : Type} {d0 : Cd t0} {d1 : Cd t1} {d2 : Cd t2} {d3 : Cd t3} {d4 : Cd t4} {d5 : Cd t5} {z : t0 × t1 × t2 × t3 × t4 × t5} {j : Nat} {p2 : Pos} (ha : DE X W ds a (cH (aCons d0 (aCons d1 (aCons d2 (aCons d3 (aCons d4 (aOne d5))))))) (.ok z)) (hp : PlainIx (.Constant (.int 1) j p2) := by exact fun _ _ => rfl) : DE X W ds (.Subscript a (.Constant (.int 1) j p2) pos) d1 (.ok (z.2.1)) := ixH aix_1_6 ha hp
theorem ixh_1_6m {t0 : Type} {t1 : Type} {t2 : Type} {t3 : Type} {t4 : Type} {t5 : Type} {d0 : Cd t0} {d1 : Cd t1} {d2 : Cd t2} {d3 : Cd t3} {d4 : Cd t4} {d5 : Cd t5} {m : R (t0 × t1 × t2 × t3 × t4 × t5)} {j : Nat} {p2 : Pos} (ha : DE X W ds a (cH (aCons d0 (aCons d1 (aCons d2 (aCons d3 (aCons d4 (aOne d5))))))) m) (hp : PlainIx (.Constant (.int 1) j p2) := by exact fun _ _ => rfl) : DE X W ds (.Subscript a (.Constant (.int 1) j p2) pos) d1 (m >>= fun z => .ok (z.2.1)) := ixH aix_1_6 ha hp
theorem ixh_2_6p {t0 : Type} {t1 : Type} {t2 : Type} {t3 : Type} {t4 : Type} {t5 : Type} {d0 : Cd t0} {d1 : Cd t1} {d2 : Cd t2} {d3 : Cd t3} {d4 : Cd t4} {d5 : Cd t5} {z : t0 × t1 × t2 × t3 × t4 × t5} {j : Nat} {p2 : Pos} (ha : DE X W ds a (cH (aCons d0 (aCons d1 (aCons d2 (aCons d3 (aCons d4 (aOne d5))))))) (.ok z)) (hp : PlainIx (.Constant (.int 2) j p2) := by exact fun _ _ => rfl) : DE X W ds (.Subscript a (.Constant (.int 2) j p2) pos) d2 (.ok (z.2.2.1)) := ixH aix_2_6 ha hp
theorem ixh_2_6m {t0 : Type} {t1 : Type} {t2 : Type} {t3 : Type} {t4 : Type} {t5 : Type} {d0 : Cd t0} {d1 : Cd t1} {d2 : Cd t2} {d3 : Cd t3} {d4 : Cd t4} {d5 : Cd t5} {m : R (t0 × t1 × t2 × t3 × t4 × t5)} {j : Nat} {p2 : Pos} (ha : DE X W ds a (cH (aCons d0 (aCons d1 (aCons d2 (aCons d3 (aCons d4 (aOne d5))))))) m) (hp : PlainIx (.Constant (.int 2) j p2) := by exact fun _ _ => rfl) : DE X W ds (.Subscript a (.Constant (.int 2) j p2) pos) d2 (m >>= fun z => .ok (z.2.2.1)) := ixH aix_2_6 ha hp
theorem ixh_3_6p {t0 : Type} {t1 : Type} {t2 : Type} {t3 : Type} {t4 : Type} {t5 : Type} {d0 : Cd t0} {d1 : Cd t1} {d2 : Cd t2} {d3 : Cd t3} {d4 : Cd t4} {d5 : Cd t5} {z : t0 × t1 × t2 × t3 × t4 × t5} {j : Nat} {p2 : Pos} (ha : DE X W ds a (cH (aCons d0 (aCons d1 (aCons d2 (aCons d3 (aCons d4 (aOne d5))))))) (.ok z)) (hp : PlainIx (.Constant (.int 3) j p2) := by exact fun _ _ => rfl) : DE X W ds (.Subscript a (.Constant (.int 3) j p2) pos) d3 (.ok (z.2.2.2.1)) := ixH aix_3_6 ha hp
theorem ixh_3_6m {t0 : Type} {t1 : Type} {t2 : Type} {t3 : Type} {t4 : Type} {t5 : Type} {d0 : Cd t0} {d1 : Cd t1} {d2 : Cd t2} {d3 : Cd t3} {d4 : Cd t4} {d5 : Cd t5} {m : R (t0 × t1 × t2 × t3 × t4 × t5)} {j : Nat} {p2 : Pos} (ha : DE X W ds a (cH (aCons d0 (aCons d1 (aCons d2 (aCons d3 (aCons d4 (aOne d5))))))) m) (hp : PlainIx (.Constant (.int 3) j p2) := by exact fun _ _ => rfl) : DE X W ds (.Subscript a (.Constant (.int 3) j p2) pos) d3 (m >>= fun z => .ok (z.2.2.2.1)) := ixH aix_3_6 ha hp
theorem ixh_4_6p {t0 : Type} {t1 : Type} {t2 : Type} {t3 : Type} {t4 : Type} {t5 : Type} {d0 : Cd t0} {d1 : Cd t1} {d2 : Cd t2} {d3 : Cd t3} {d4 : Cd t4} {d5 : Cd t5} {z : t0 × t1 × t2 × t3 × t4 × t5} {j : Nat} {p2 : Pos} (ha : DE X W ds a (cH (aCons d0 (aCons d1 (aCons d2 (aCons d3 (aCons d4 (aOne d5))))))) (.ok z)) (hp : PlainIx (.Constant (.int 4) j p2) := by exact fun _ _ => rfl) : DE X W ds (.Subscript a (.Constant (.int 4) j p2) pos) d4 (.ok (z.2.2.2.2.1)) := ixH aix_4_6 ha hp
theorem ixh_4_6m {t0 : Type} {t1 : Type} {t2 : Type} {t3 : Type} {t4 : Type} {t5 : Type} {d0 : Cd t0} {d1 : Cd t1} {d2 : Cd t2} {d3 : Cd t3} {d4 : Cd t4} {d5 : Cd t5} {m : R (t0 × t1 × t2 × t3 × t4 × t5)} {j : Nat} {p2 : Pos} (ha : DE X W ds a (cH (aCons d0 (aCons d1 (aCons d2 (aCons d3 (aCons d4 (aOne d5))))))) m) (hp : PlainIx (.Constant (.int 4) j p2) := by exact fun _ _ => rfl) : DE X W ds (.Subscript a (.Constant (.int 4) j p2) pos) d4 (m >>= fun z => .ok (z.2.2.2.2.1)) := ixH aix_4_6 ha hp
theorem ixh_5_6p {t0 : Type} {t1 : Type} {t2 : Type} {t3 : Type} {t4 : Type} {t5 : Type} {d0 : Cd t0} {d1 : Cd t1} {d2 : Cd t2} {d3 : Cd t3} {d4 : Cd t4} {d5 : Cd t5} {z : t0 × t1 × t2 × t3 × t4 × t5} {j : Nat} {p2 : Pos} (ha : DE X W ds a (cH (aCons d0 (aCons d1 (aCons d2 (aCons d3 (aCons d4 (aOne d5))))))) (.ok z)) (hp : PlainIx (.Constant (.int 5) j p2) := by exact fun _ _ => rfl) : DE X W ds (.Subscript a (.Constant (.int 5) j p2) pos) d5 (.ok (z.2.2.2.2.2)) := ixH aix_5_6 ha hp
theorem ixh_5_6m {t0 : Type} {t1 : Type} {t2 : Type} {t3 : Type} {t4 : Type} {t5 : Type} {d0 : Cd t0} {d1 : Cd t1} {d2 : Cd t2} {d3 : Cd t3} {d4 : Cd t4} {d5 : Cd t5} {m : R (t0 × t1 × t2 × t3 × t4 × t5)} {j : Nat} {p2 : Pos} (ha : DE X W ds a (cH (aCons d0 (aCons d1 (aCons d2 (aCons d3 (aCons d4 (aOne d5))))))) m) (hp : PlainIx (.Constant (.int 5) j p2) := by exact fun _ _ => rfl) : DE X W ds (.Subscript a (.Constant (.int 5) j p2) pos) d5 (m >>= fun z => .ok (z.2.2.2.2.2)) := ixH aix_5_6 ha hp
/-! ### isinstance against a built-in type, where the kind is known -/
class Ty {α : Type} (c : Cd α) (n : outParam String) : Prop where
  ty : ∀ {K : PySem.W.Frag} {H : Hp} {v : V} {a : α}, c.rep K H v a → TyX K H v (.type n)
theorem tyx_L {K : PySem.W.Frag} {H : Hp} {p : Addr} {vs : List V} (h : SqL K H p vs) : TyX K H (.ref p) (.type "list") := by
  rcases h with (h | ⟨o, h⟩) | ⟨o, its, n, h1, h2, _⟩
  · exact .base (.lst h)
  · exact .base (.frz h)
  · exact .kList h1 h2
theorem tyx_T {K : PySem.W.Frag} {H : Hp} {p : Addr} {vs : List V} (h : SqT K H p vs) : TyX K H (.ref p) (.type "tuple") := by
  rcases h with (h | ⟨o, h⟩) | ⟨o, its, n, h1, h2, _⟩
  · exact .base (.tup h)
  · exact .fTuple h
  · exact .kTuple h1 h2
instance : Ty cI "int" := ⟨fun {K H v a} h => by
  have e : v = V.int a := h
  rw [e]; exact .base (.int a)⟩
instance : Ty cB "bool" := ⟨fun {K H v a} h => by
  have e : v = V.bl a := h
  rw [e]; exact .base (.bl a)⟩
instance : Ty cS "str" := ⟨fun {K H v a} h => by
  have e : v = V.str a := h
  rw [e]; exact .base (.str a)⟩
instance : Ty cN "NoneType" := ⟨fun {K H v a} h => by
  have e : v = V.non := h
  rw [e]; exact .base .non⟩
instance {c : Cd α} : Ty (cL c) "list" := ⟨fun ⟨p, vs, e, h, _⟩ => by rw [e]; exact tyx_L h⟩
instance {c : Cd α} : Ty (cT c) "tuple" := ⟨fun ⟨p, vs, e, h, _⟩ => by rw [e]; exact tyx_T h⟩
instance {r : CA τ} : Ty (cP r) "tuple" := ⟨fun ⟨p, vs, e, h, _⟩ => by rw [e]; exact tyx_T h⟩
instance {r : CA τ} : Ty (cH r) "list" := ⟨fun ⟨p, vs, e, h, _⟩ => by rw [e]; exact tyx_L h⟩
theorem ty_mono {K : PySem.W.Frag} {H H' : Hp} {v : V} {t : Value} (s : Same H H') (h : TyX K H v t) : TyX K H' v t := by
  cases h with
  | base b =>
    cases b with
    | non => exact .base .non
    | bl x => exact .base (.bl x)
    | int i => exact .base (.int i)
    | str x => exact .base (.str x)
    | flt x => exact .base (.flt x)
    | lst e => exact .base (.lst (s _ _ e))
    | frz e => exact .base (.frz (s _ _ e))
    | tup e => exact .base (.tup (s _ _ e))
    | dK e => exact .base (.dK (s _ _ e))
    | dT e => exact .base (.dT (s _ _ e))
    | ins e cl ha hn htk hm => exact .base (.ins (s _ _ e) cl ha hn htk hm)
  | byt b => exact .byt b
  | set e => exact .set (s _ _ e)
  | kList e c => exact .kList e c
  | kTuple e c => exact .kTuple e c
  | kDict e c => exact .kDict e c
  | fTuple e => exact .fTuple (s _ _ e)
  | fDict e => exact .fDict (s _ _ e)
/-- isinstance(e, T) -/
theorem isi {n T : String} {nm : Str} {k : Bool} {m : R α} {p2 : Pos} (hk : L2.kitB n T = some k) (hv : bootBuiltins nm = some (.type T)) (hm : X.mg "isinstance" = none) (hm2 : X.mg nm = none) (ha : DE X W ds e c m) [Ty c n] (hg : Gl X "isinstance" := by rfl) (hg2 : Gl X nm := by rfl) (hn : nm ≠ "__name__" := by decide) (hd : (nm == ("__debug__" : Str)) = false := by decide)
    (hs : starEach (e :: [.Name nm p2]) X.env = (false, eval e X.env) :: starEach [.Name nm p2] X.env := by rfl) (hs2 : starEach (.Name nm p2 :: []) X.env = (false, eval (.Name nm p2) X.env) :: starEach [] X.env := by rfl) (hpl : (backTo pos (starEach [.Name nm p2] X.env)).any (·.1) = false := by rfl) :
    DE X W ds (.Call (.Name "isinstance" p) [e, .Name nm p2] [] pos) cB (m >>= fun _ => .ok k) := by
  obtain ⟨t, pe, q⟩ := ha
  refine ⟨_, pe_callB call_isi hg hm boot_isinstance (pa_cons pe (pa_cons (pe_bltn (v := .ty T) hg2 hm2 hv rfl hn hd) pa_nil hs2) hs) (by decide) (by decide) hs hpl, fun S0 H0 σ S H Q E P => q S0 H0 σ S H _ E (P.bind fun z v S1 H1 g r P1 => ?_)⟩
  exact ⟨v, .ty T, .type n, .type T, k, rfl, .ty T, ty_mono g.inn (Ty.ty r), kit_ty hk, P1.ok g.inn rfl⟩
theorem isi_p {n T : String} {nm : Str} {k : Bool} {p2 : Pos} (hk : L2.kitB n T = some k) (hv : bootBuiltins nm = some (.type T)) (hm : X.mg "isinstance" = none) (hm2 : X.mg nm = none) (ha : DE X W ds e c (.ok x)) [Ty c n] (hg : Gl X "isinstance" := by rfl) (hg2 : Gl X nm := by rfl) (hn : nm ≠ "__name__" := by decide) (hd : (nm == ("__debug__" : Str)) = false := by decide)
    (hs : starEach (e :: [.Name nm p2]) X.env = (false, eval e X.env) :: starEach [.Name nm p2] X.env := by rfl) (hs2 : starEach (.Name nm p2 :: []) X.env = (false, eval (.Name nm p2) X.env) :: starEach [] X.env := by rfl) (hpl : (backTo pos (starEach [.Name nm p2] X.env)).any (·.1) = false := by rfl) :
    DE X W ds (.Call (.Name "isinstance" p) [e, .Name nm p2] [] pos) cB (.ok k) := isi hk hv hm hm2 ha hg hg2 hn hd hs hs2 hpl
/-! ### len, int, abs, max, min, gcd -/
theorem lenL_m {c : Cd α} {m : R (List α)} (hm : X.mg "len" = none) (ha : DE X W ds e (cL c) m) (hg : Gl X "len" := by rfl) (he : starEach (e :: []) X.env = (false, eval e X.env) :: starEach [] X.env := by rfl) (hpl : (backTo pos (starEach [] X.env)).any (·.1) = false := by rfl) : DE X W ds (.Call (.Name "len" p) [e] [] pos) cI (m >>= fun z => .ok ((z.length : Nat) : Int)) := callB (nm := "len") call_len_seq cs_lenL boot_len hm (arg1 ha he) hg (by decide) (by decide) he hpl
theorem lenL_p {c : Cd α} {z : List α} (hm : X.mg "len" = none) (ha : DE X W ds e (cL c) (.ok z)) (hg : Gl X "len" := by rfl) (he : starEach (e :: []) X.env = (false, eval e X.env) :: starEach [] X.env := by rfl) (hpl : (backTo pos (starEach [] X.env)).any (·.1) = false := by rfl) : DE X W ds (.Call (.Name "len" p) [e] [] pos) cI (.ok ((z.length : Nat) : Int)) := lenL_m hm ha hg he hpl
theorem lenT_m {c : Cd α} {m : R (List α)} (hm : X.mg "len" = none) (ha : DE X W ds e (cT c) m) (hg : Gl X "len" := by rfl) (he : starEach (e :: []) X.env = (false, eval e X.env) :: starEach [] X.env := by rfl) (hpl : (backTo pos (starEach [] X.env)).any (·.1) = false := by rfl) : DE X W ds (.Call (.Name "len" p) [e] [] pos) cI (m >>= fun z => .ok ((z.length : Nat) : Int)) := callB (nm := "len") call_len_seq cs_lenT boot_len hm (arg1 ha he) hg (by decide) (by decide) he hpl
theorem lenT_p {c : Cd α} {z : List α} (hm : X.mg "len" = none) (ha : DE X W ds e (cT c) (.ok z)) (hg : Gl X "len" := by rfl) (he : starEach (e :: []) X.env = (false, eval e X.env) :: starEach [] X.env := by rfl) (hpl : (backTo pos (starEach [] X.env)).any (·.1) = false := by rfl) : DE X W ds (.Call (.Name "len" p) [e] [] pos) cI (.ok ((z.length : Nat) : Int)) := lenT_m hm ha hg he hpl
theorem lenLT_m {c : Cd α} {m : R (List α)} (hm : X.mg "len" = none) (ha : DE X W ds e (cLT c) m) (hg : Gl X "len" := by rfl) (he : starEach (e :: []) X.env = (false, eval e X.env) :: starEach [] X.env := by rfl) (hpl : (backTo pos (starEach [] X.env)).any (·.1) = false := by rfl) : DE X W ds (.Call (.Name "len" p) [e] [] pos) cI (m >>= fun z => .ok ((z.length : Nat) : Int)) := callB (nm := "len") call_len_seq cs_lenLT boot_len hm (arg1 ha he) hg (by decide) (by decide) he hpl
theorem lenLT_p {c : Cd α} {z : List α} (hm : X.mg "len" = none) (ha : DE X W ds e (cLT c) (.ok z)) (hg : Gl X "len" := by rfl) (he : starEach (e :: []) X.env = (false, eval e X.env) :: starEach [] X.env := by rfl) (hpl : (backTo pos (starEach [] X.env)).any (·.1) = false := by rfl) : DE X W ds (.Call (.Name "len" p) [e] [] pos) cI (.ok ((z.length : Nat) : Int)) := lenLT_m hm ha hg he hpl
theorem lenP_m {c : CA τ} {m : R (τ)} {n : Int} (hm : X.mg "len" = none) (ha : DE X W ds e (cP c) m) (hn : n = ((c.n : Nat) : Int) := by exact rfl) (hg : Gl X "len" := by rfl) (he : starEach (e :: []) X.env = (false, eval e X.env) :: starEach [] X.env := by rfl) (hpl : (backTo pos (starEach [] X.env)).any (·.1) = false := by rfl) : DE X W ds (.Call (.Name "len" p) [e] [] pos) cI (m >>= fun z => .ok n) := by rw [hn]; exact callB (nm := "len") call_len_seq cs_lenP boot_len hm (arg1 ha he) hg (by decide) (by decide) he hpl
theorem lenP_p {c : CA τ} {z : τ} {n : Int} (hm : X.mg "len" = none) (ha : DE X W ds e (cP c) (.ok z)) (hn : n = ((c.n : Nat) : Int) := by exact rfl) (hg : Gl X "len" := by rfl) (he : starEach (e :: []) X.env = (false, eval e X.env) :: starEach [] X.env := by rfl) (hpl : (backTo pos (starEach [] X.env)).any (·.1) = false := by rfl) : DE X W ds (.Call (.Name "len" p) [e] [] pos) cI (.ok n) := lenP_m hm ha hn hg he hpl
theorem intI_m  {m : R (Int)} (hm : X.mg "int" = none) (ha : DE X W ds e (cI) m) (hg : Gl X "int" := by rfl) (he : starEach (e :: []) X.env = (false, eval e X.env) :: starEach [] X.env := by rfl) (hpl : (backTo pos (starEach [] X.env)).any (·.1) = false := by rfl) : DE X W ds (.Call (.Name "int" p) [e] [] pos) cI (m >>= fun z => .ok z) := callTy (nm := "int") call_int1 cs_int PyProof.Rows.boot_int hm (arg1 ha he) hg (by decide) (by decide) he hpl
theorem intI_p  {z : Int} (hm : X.mg "int" = none) (ha : DE X W ds e (cI) (.ok z)) (hg : Gl X "int" := by rfl) (he : starEach (e :: []) X.env = (false, eval e X.env) :: starEach [] X.env := by rfl) (hpl : (backTo pos (starEach [] X.env)).any (·.1) = false := by rfl) : DE X W ds (.Call (.Name "int" p) [e] [] pos) cI (.ok z) := intI_m hm ha hg he hpl
theorem intB_m  {m : R (Bool)} (hm : X.mg "int" = none) (ha : DE X W ds e (cB) m) (hg : Gl X "int" := by rfl) (he : starEach (e :: []) X.env = (false, eval e X.env) :: starEach [] X.env := by rfl) (hpl : (backTo pos (starEach [] X.env)).any (·.1) = false := by rfl) : DE X W ds (.Call (.Name "int" p) [e] [] pos) cI (m >>= fun z => .ok (if z = true then 1 else 0)) := callTy (nm := "int") call_int1 cs_intB PyProof.Rows.boot_int hm (arg1 ha he) hg (by decide) (by decide) he hpl
theorem intB_p  {z : Bool} (hm : X.mg "int" = none) (ha : DE X W ds e (cB) (.ok z)) (hg : Gl X "int" := by rfl) (he : starEach (e :: []) X.env = (false, eval e X.env) :: starEach [] X.env := by rfl) (hpl : (backTo pos (starEach [] X.env)).any (·.1) = false := by rfl) : DE X W ds (.Call (.Name "int" p) [e] [] pos) cI (.ok (if z = true then 1 else 0)) := intB_m hm ha hg he hpl
theorem absI_m  {m : R (Int)} (hm : X.mg "abs" = none) (ha : DE X W ds e (cI) m) (hg : Gl X "abs" := by rfl) (he : starEach (e :: []) X.env = (false, eval e X.env) :: starEach [] X.env := by rfl) (hpl : (backTo pos (starEach [] X.env)).any (·.1) = false := by rfl) : DE X W ds (.Call (.Name "abs" p) [e] [] pos) cI (m >>= fun z => .ok (if z < 0 then -z else z)) := callB (nm := "abs") call_abs cs_abs boot_abs hm (arg1 ha he) hg (by decide) (by decide) he hpl
theorem absI_p  {z : Int} (hm : X.mg "abs" = none) (ha : DE X W ds e (cI) (.ok z)) (hg : Gl X "abs" := by rfl) (he : starEach (e :: []) X.env = (false, eval e X.env) :: starEach [] X.env := by rfl) (hpl : (backTo pos (starEach [] X.env)).any (·.1) = false := by rfl) : DE X W ds (.Call (.Name "abs" p) [e] [] pos) cI (.ok (if z < 0 then -z else z)) := absI_m hm ha hg he hpl
theorem max_p {x y : Int} (hc : X.calm = true) (hm : X.mg "max" = none) (ha : DE X W ds a cI (.ok x)) (hb : DE X W ds b cI (.ok y)) (hg : Gl X "max" := by rfl) (he : starEach (a :: [b]) X.env = (false, eval a X.env) :: starEach [b] X.env := by rfl) (he2 : starEach (b :: []) X.env = (false, eval b X.env) :: starEach [] X.env := by rfl) (hpl : (backTo pos (starEach [b] X.env)).any (·.1) = false := by rfl) : DE X W ds (.Call (.Name "max" p) [a, b] [] pos) cI (.ok (if y > x then y else x)) := callB (nm := "max") (call_max2 hc) cs_max PyProof.Rows.boot_max hm (argC_pp ha (arg1 hb he2) he) hg (by decide) (by decide) he hpl
theorem max_m {mx my : R Int} (hc : X.calm = true) (hm : X.mg "max" = none) (ha : DE X W ds a cI mx) (hb : DE X W ds b cI my) (hg : Gl X "max" := by rfl) (he : starEach (a :: [b]) X.env = (false, eval a X.env) :: starEach [b] X.env := by rfl) (he2 : starEach (b :: []) X.env = (false, eval b X.env) :: starEach [] X.env := by rfl) (hpl : (backTo pos (starEach [b] X.env)).any (·.1) = false := by rfl) : DE X W ds (.Call (.Name "max" p) [a, b] [] pos) cI ((mx >>= fun x => my >>= fun y => .ok (x, y)) >>= fun z => .ok (if z.2 > z.1 then z.2 else z.1)) := callB (nm := "max") (call_max2 hc) cs_max PyProof.Rows.boot_max hm (argC ha (arg1 hb he2) he) hg (by decide) (by decide) he hpl
theorem min_p {x y : Int} (hc : X.calm = true) (hm : X.mg "min" = none) (ha : DE X W ds a cI (.ok x)) (hb : DE X W ds b cI (.ok y)) (hg : Gl X "min" := by rfl) (he : starEach (a :: [b]) X.env = (false, eval a X.env) :: starEach [b] X.env := by rfl) (he2 : starEach (b :: []) X.env = (false, eval b X.env) :: starEach [] X.env := by rfl) (hpl : (backTo pos (starEach [b] X.env)).any (·.1) = false := by rfl) : DE X W ds (.Call (.Name "min" p) [a, b] [] pos) cI (.ok (if y < x then y else x)) := callB (nm := "min") (call_min2 hc) cs_min PyProof.Rows.boot_min hm (argC_pp ha (arg1 hb he2) he) hg (by decide) (by decide) he hpl
theorem min_m {mx my : R Int} (hc : X.calm = true) (hm : X.mg "min" = none) (ha : DE X W ds a cI mx) (hb : DE X W ds b cI my) (hg : Gl X "min" := by rfl) (he : starEach (a :: [b]) X.env = (false, eval a X.env) :: starEach [b] X.env := by rfl) (he2 : starEach (b :: []) X.env = (false, eval b X.env) :: starEach [] X.env := by rfl) (hpl : (backTo pos (starEach [b] X.env)).any (·.1) = false := by rfl) : DE X W ds (.Call (.Name "min" p) [a, b] [] pos) cI ((mx >>= fun x => my >>= fun y => .ok (x, y)) >>= fun z => .ok (if z.2 < z.1 then z.2 else z.1)) := callB (nm := "min") (call_min2 hc) cs_min PyProof.Rows.boot_min hm (argC ha (arg1 hb he2) he) hg (by decide) (by decide) he hpl
theorem gcd_p {x y : Int} (hm : X.mg "gcd" = some (.builtin "math.gcd")) (ha : DE X W ds a cI (.ok x)) (hb : DE X W ds b cI (.ok y)) (hg : Gl X "gcd" := by rfl) (he : starEach (a :: [b]) X.env = (false, eval a X.env) :: starEach [b] X.env := by rfl) (he2 : starEach (b :: []) X.env = (false, eval b X.env) :: starEach [] X.env := by rfl) (hpl : (backTo pos (starEach [b] X.env)).any (·.1) = false := by rfl) : DE X W ds (.Call (.Name "gcd" p) [a, b] [] pos) cI (.ok ((Int.gcd x y : Nat) : Int)) := callF (nm := "gcd") cr_gcd cs_gcd hm (argC_pp ha (arg1 hb he2) he) hg (by decide) he hpl
end
section
variable {X : Cx} {W : WK} {T : Bool} {ds : Env} {α β γ τ ν κ ω : Type} {e : Expr} {st : Stmt} {sts rest : List Stmt} {pos p : Pos} {c : Cd α} {cb : RCd β} {eN : ν → Env} {eK : κ → Env} {I : ω → Out β ν κ} {m : R α} {k : α → R ω} {n : R ω}
section
variable {t : Expr} {A B : List Stmt} {mt : R Bool} {nA nB : R ω}
/-- the first branch leaves, the second one comes to the rest -/
theorem ifAB [kw : KW W] {σ' : Type} {eJ : σ' → Env} {jB : R σ'} {kJ : σ' → R ω} (ht : DT X W ds t mt) (hA : DS X W true ds A cb eN eK I nA) (hB : DS X W false ds B cb eJ eK (fun s => (.nxt s : Out β σ' κ)) jB) (hr : ∀ s, DS X W T (eJ s) rest cb eN eK I (kJ s)) :
    DS X W T ds (.If t A B pos :: rest) cb eN eK I (mt >>= fun z => if z = true then nA else jB >>= kJ) := fun S0 H0 σ S H D nx h E P => by
  obtain ⟨W, rfl⟩ := kw.ex
  obtain ⟨tt, pt, qt⟩ := ht
  refine seq (ps_if pt pss_tS pss_tS) (qt S0 H0 σ S H _ E (stT (W := fun _ => W) E P fun z S' H' E' P' => ?_))
  cases z with
  | true => exact hA S0 H0 σ S' H' D _ (.inl rfl) E' P'
  | false => exact hB S0 H0 σ S' H' { D with nx := tS X rest { D with nx := nx } } _ (.inr rfl) E' (R.post_mono (R.post_bind.mp P') (fun s q σ2 S2 H2 E2 => hr s S0 H0 σ2 S2 H2 D nx h E2 q) (fun _ q => q))
theorem ifBA [kw : KW W] {σ' : Type} {eJ : σ' → Env} {jA : R σ'} {kJ : σ' → R ω} (ht : DT X W ds t mt) (hA : DS X W false ds A cb eJ eK (fun s => (.nxt s : Out β σ' κ)) jA) (hB : DS X W true ds B cb eN eK I nB) (hr : ∀ s, DS X W T (eJ s) rest cb eN eK I (kJ s)) :
    DS X W T ds (.If t A B pos :: rest) cb eN eK I (mt >>= fun z => if z = true then jA >>= kJ else nB) := fun S0 H0 σ S H D nx h E P => by
  obtain ⟨W, rfl⟩ := kw.ex
  obtain ⟨tt, pt, qt⟩ := ht
  refine seq (ps_if pt pss_tS pss_tS) (qt S0 H0 σ S H _ E (stT (W := fun _ => W) E P fun z S' H' E' P' => ?_))
  cases z with
  | true => exact hA S0 H0 σ S' H' { D with nx := tS X rest { D with nx := nx } } _ (.inr rfl) E' (R.post_mono (R.post_bind.mp P') (fun s q σ2 S2 H2 E2 => hr s S0 H0 σ2 S2 H2 D nx h E2 q) (fun _ q => q))
  | false => exact hB S0 H0 σ S' H' D _ (.inl rfl) E' P'
end
theorem app_p {x : Str} {p1 p2 p3 : Pos} {as : List α} {z : α} {k : List α → R ω} (i : Nat) (he : DE X W ds e c (.ok z)) (hr : ∀ zs, DS X W T (ds.put i (.mu α c zs)) rest cb eN eK I (k zs)) (hd : ds.get i = .mu α c as := by rfl) (hN : X.N[i]? = some x := by rfl)
    (hv : Vis X.env.scope x := by first | exact Or.inl rfl | exact Or.inr (Or.inl rfl) | exact Or.inr (Or.inr rfl)) (hdb : (x == ("__debug__" : Str)) = false := by decide) (hcd : (x == ("__classdict__" : Str)) = false := by decide)
    (hs : swapsWith (.Call (.Attribute (.Name x p1) "append" p2) [e] [] p3) none pos.line X.env = pure false := by rfl)
    (ho : starEach [e] X.env = (false, eval e X.env) :: starEach [] X.env := by rfl)
    (pb : ∀ {te : TE}, PE X e te → PE X (.Call (.Attribute (.Name x p1) "append" p2) [e] [] p3) (tBM X.K "list" rAppend (tVar i) (tCons te tNil)) := by
      intro te pe; exact pe_bm PySem.F.plainAttrs_list PySem.F.slot_list_append PySem.F.type_list_append mt_append (pv _) (pa_cons pe pa_nil)) :
    DS X W T ds (.Expr (.Call (.Attribute (.Name x p1) "append" p2) [e] [] p3) pos :: rest) cb eN eK I (appM as z >>= k) := app (m := .ok z) i he hr hd hN hv hdb hcd hs ho pb
end
end Zk
set_option maxHeartbeats 4000000
/-! # Zk: more statements, the head -/
namespace Zk
open PySem PySem.Spec PyProof.Rows L2
section
variable {X : Cx} {W : WK} {T : Bool} {ds : Env} {α β γ τ ν κ ω : Type} {a b : Expr} {e : Expr} {es : List Expr} {st : Stmt} {sts rest body : List Stmt} {pos p : Pos} {c : Cd α} {cb : RCd β} {eN : ν → Env} {eK : κ → Env} {I : ω → Out β ν κ} {m : R α} {k : α → R ω} {n : R ω} {tg iter : Expr} {mi : R (List α)}
/-- the slot's value is not None from here on -/
theorem narrow (i : Nat) {o : Option α} (hd : ds.get i = .st (Option α) (cO c) o := by rfl) (hr : ∀ z, DS X W T (ds.put i (.st α c z)) sts cb eN eK I (k z)) : DS X W T ds sts cb eN eK I (unO o >>= k) := fun S0 H0 σ S H D nx h E P => by
  cases o with
  | none => exact False.elim P
  | some z =>
    refine hr z S0 H0 σ S H D nx h ?_ P
    obtain ⟨v, h1, h2⟩ := E.var hd
    have eσ : σ.set i (some v) = σ := by
      apply List.ext_getElem?
      intro j
      by_cases z : j = i
      · subst z
        rw [get_set_self (List.getElem?_eq_some_iff.mp h1).1, h1]
      · rw [List.getElem?_set_ne (Ne.symm z)]
    have q := E.putS (i := i) h2.2
    rw [eσ] at q
    exact q
/-! ### and, or of pure tests -/
theorem andW_q {x y : Bool} (ha : DT X W ds a (.ok x)) (hb : DW X W ds (.BoolOp .And (b :: es) pos) (.ok y)) : DW X W ds (.BoolOp .And (a :: b :: es) pos) (.ok (x && y)) := by
  have q := andW_p ha hb
  cases x <;> exact q
theorem orW_q {x y : Bool} (ha : DT X W ds a (.ok x)) (hb : DW X W ds (.BoolOp .Or (b :: es) pos) (.ok y)) : DW X W ds (.BoolOp .Or (a :: b :: es) pos) (.ok (x || y)) := by
  have q := orW_p ha hb
  cases x <;> exact q
theorem andV_q {x y : Bool} (ha : DE X W ds a cB (.ok x)) (hb : DE X W ds (.BoolOp .And (b :: es) pos) cB (.ok y)) : DE X W ds (.BoolOp .And (a :: b :: es) pos) cB (.ok (x && y)) := by
  have q := andV_p ha hb
  cases x <;> exact q
theorem orV_q {x y : Bool} (ha : DE X W ds a cB (.ok x)) (hb : DE X W ds (.BoolOp .Or (b :: es) pos) cB (.ok y)) : DE X W ds (.BoolOp .Or (a :: b :: es) pos) cB (.ok (x || y)) := by
  have q := orV_p ha hb
  cases x <;> exact q
/-! ### loops that may leave -/
def Out.up {β ν κ : Type} : Out Empty ν κ → Out β ν κ
  | .nxt s => .nxt s
  | .brk s => .brk s
  | .ctn s => .ctn s
  | .ret b => nomatch b
def loopB {S : Type} (step : S → α → R (Out Empty S S)) : List α → S → R S
  | [], s => .ok s
  | x :: xs, s => step s x >>= fun o => match o with
    | .nxt s' => loopB step xs s'
    | .ctn s' => loopB step xs s'
    | .brk s' => .ok s'
    | .ret b => nomatch b
theorem forB [kw : KW W] {σ' : Type} {eL : σ' → Env} {eB : σ' → α → Env} {step : σ' → α → R (Out Empty σ' σ')} {s0 : σ'} {k : σ' → R ω} (hc : X.calm = true) (hp : PassesOwn (model X.prog X.w) X.A X.env X.xe) (hi : DI X W ds tg iter c mi) (hg : DG X tg c eL eB) (l : EnvLe ds (eL s0))
    (hb : ∀ s a, DS X W false (eB s a) body cb eL eL (fun o => (Out.up o : Out β σ' σ')) (step s a)) (hr : ∀ s, DS X W T (eL s) rest cb eN eK I (k s)) (hs : ∀ x, foldedSetIterable iter X.env x = pure x := by intro _; rfl) :
    DS X W T ds (.For tg iter body [] pos :: rest) cb eN eK I (mi >>= fun as => loopB step as s0 >>= k) := fun S0 H0 σ S H D nx h E P => by
  obtain ⟨W, rfl⟩ := kw.ex
  obtain ⟨wi, pi, qi⟩ := hi
  obtain ⟨g, pg, qg⟩ := hg
  refine seq (ps_for hp hc pi pg pss_tS hs) (qi S0 H0 σ S H _ E (R.post_mono (R.post_bind.mp P) (fun as q J S' H' gr hJ => ?_) (fun x q cl d S' H' gr r => q cl d S' H' (E.grow.trans gr) r)))
  refine for_any eL (fun as s => (loopB step as s >>= k).post (fun w => OutP X.K S0 H0 cb eN eK D (I w)) (EX X.K W S0 H0)) hJ s0 S' (.refl _) ((E.step gr).le l) q (fun a r s σ2 S2 H2 v N hC E2 r2 hN => ?_) (fun s σ2 S2 H2 hC E2 => ?_)
  · refine qg s a v S0 H0 σ2 S2 H2 _ E2 r2 fun σ3 E3 => ?_
    have hC' : (step s a >>= fun o => (match o with
      | .nxt s' => loopB step r s'
      | .ctn s' => loopB step r s'
      | .brk s' => .ok s'
      | .ret b => nomatch b) >>= k).post (fun w => OutP X.K S0 H0 cb eN eK D (I w)) (EX X.K W S0 H0) := by rw [← R.bind_assoc]; exact hC
    refine hb s a S2 H0 σ3 S2 H2 { D with nx := N, ct := N, bk := tS X rest { D with nx := nx } } N (.inr rfl) E3.rebase (R.post_mono (R.post_bind.mp hC') (fun o q' => ?_) (fun _ q' => q'.rebase E3.grow))
    cases o with
    | nxt s' => exact fun σ4 S4 H4 E4 => hN s' σ4 S4 H4 q' E4.grow.st (E4.unbase E3.grow)
    | ctn s' => exact fun σ4 S4 H4 E4 => hN s' σ4 S4 H4 q' E4.grow.st (E4.unbase E3.grow)
    | brk s' => exact fun σ4 S4 H4 E4 => hr s' S0 H0 σ4 S4 H4 D nx h (E4.unbase E3.grow) q'
    | ret b => exact nomatch b
  · exact hr s S0 H0 σ2 S2 H2 D nx h E2 hC
@[reducible] def End.cs {S β ω : Type} (f : S → R ω) (g : β → R ω) : End S β → R ω
  | .go s => f s
  | .out b => g b
/-- items and length of a list that still changes -/
theorem lenMu {x : Str} {p1 : Pos} {as : List α} (i : Nat) (hm : X.mg "len" = none) (hd : ds.get i = .mu α c as := by rfl) (hN : X.N[i]? = some x := by rfl) (hv : Vis X.env.scope x := by first | exact Or.inl rfl | exact Or.inr (Or.inl rfl) | exact Or.inr (Or.inr rfl))
    (hdb : (x == ("__debug__" : Str)) = false := by decide) (hcd : (x == ("__classdict__" : Str)) = false := by decide) (hg : Gl X "len" := by rfl) (he : starEach (.Name x p1 :: []) X.env = (false, eval (.Name x p1) X.env) :: starEach [] X.env := by rfl) (hpl : (backTo pos (starEach [] X.env)).any (·.1) = false := by rfl) :
    DE X W ds (.Call (.Name "len" p) [.Name x p1] [] pos) cI (.ok ((as.length : Nat) : Int)) :=
  ⟨_, pe_callB call_len_seq hg hm PySem.boot_len (pa_cons (pe_var hN hv hdb hcd) pa_nil he) (by decide) (by decide) he hpl, fun S0 H0 σ S H Q E P => by
    obtain ⟨l, vs, h1, h2, h3, h4, h5⟩ := E.muv hd
    refine ⟨.ref l, h1, l, vs, rfl, .inl (SqL.of h4), P.ok E.inn ?_⟩
    show V.int _ = V.int _
    rw [h5.length]⟩
theorem ixMu {x : Str} {p1 : Pos} {as : List α} {mj : R Int} (i : Nat) (hb : DE X W ds b cI mj) (hd : ds.get i = .mu α c as := by rfl) (hN : X.N[i]? = some x := by rfl) (hv : Vis X.env.scope x := by first | exact Or.inl rfl | exact Or.inr (Or.inl rfl) | exact Or.inr (Or.inr rfl))
    (hdb : (x == ("__debug__" : Str)) = false := by decide) (hcd : (x == ("__classdict__" : Str)) = false := by decide) (hp : PlainIx b := by exact fun _ _ => rfl) :
    DE X W ds (.Subscript (.Name x p1) b pos) c (mj >>= fun j => getM as j) := by
  obtain ⟨tb, pb, qb⟩ := hb
  refine ⟨_, pe_ix ix_list (pe_var hN hv hdb hcd) pb hp, fun S0 H0 σ S H Q E P => ?_⟩
  obtain ⟨l, vs, h1, h2, h3, h4, h5⟩ := E.muv hd
  refine ⟨.ref l, h1, qb S0 H0 σ S H _ E (P.bind fun j u S1 H1 g r P1 => ?_)⟩
  unfold getM at P1
  cases q : atI as j with
  | none =>
    rw [q] at P1
    exact P1.elim
  | some z =>
    rw [q] at P1
    obtain ⟨w, k1, k2⟩ := reps_at h5 q
    exact ⟨l, vs, j, w, rfl, r, SqL.of (g.ex _ _ h4), k1, P1.ok g.inn (c.mono g.st k2)⟩
theorem ixMu_p {x : Str} {p1 : Pos} {as : List α} {j : Int} (i : Nat) (hb : DE X W ds b cI (.ok j)) (hd : ds.get i = .mu α c as := by rfl) (hN : X.N[i]? = some x := by rfl) (hv : Vis X.env.scope x := by first | exact Or.inl rfl | exact Or.inr (Or.inl rfl) | exact Or.inr (Or.inr rfl))
    (hdb : (x == ("__debug__" : Str)) = false := by decide) (hcd : (x == ("__classdict__" : Str)) = false := by decide) (hp : PlainIx b := by exact fun _ _ => rfl) :
    DE X W ds (.Subscript (.Name x p1) b pos) c (getM as j) := ixMu i hb hd hN hv hdb hcd hp
end
/-! ### the head -/
/-- names of the module that hold these very values -/
def obsZ (n : Nat) (fa : List He.Fa) (fn : List He.DefD) (ex : PySem.W.Frag → Bool) (g : Addr → Option Obj) : He.AlD × Bool := (He.obsDG n fa fn g, ex (He.frG g (He.asD g n)))
def hookZ (n : Nat) (fa : List He.Fa) (fn : List He.DefD) (ex : PySem.W.Frag → Bool) : PySem.W.Hook where
  α := He.AlD × Bool
  obs := fun s => obsZ n fa fn ex s.heap.get?
  val := fun _ => (He.valD fn, true)
  says := fun _ h => ∃ K : PySem.W.Frag, K.In h ∧ He.SaysD fa fn K ∧ ex K = true
  of := fun _ _ e => ⟨_, He.frG_in, congrArg (fun z : He.AlD × Bool => z.1) e, congrArg (fun z : He.AlD × Bool => z.2) e⟩
  keeps := fun _ _ _ ⟨K, hK, c⟩ k => ⟨K, PySem.W.Frag.In.keeps hK k, c⟩
theorem obsZ_eq {n : Nat} {fa : List He.Fa} {fn : List He.DefD} {ex : PySem.W.Frag → Bool} {g : Addr → Option Obj} {s : Shared} (h : ∀ a, g a = s.heap.get? a) : obsZ n fa fn ex g = (hookZ n fa fn ex).obs s := by
  have e : g = s.heap.get? := funext h
  rw [e] <;> rfl
/-- what stands behind the top -/
structure Glb (fa : List He.Fa) (fn : List He.DefD) (ex : PySem.W.Frag → Bool) (K : PySem.W.Frag) (mg : Str → Option Value) (base : Heap) : Prop where
  X : K.In base
  G : base.Ns mainGlobals mg
  c : He.SaysD fa fn K
  e : ex K = true
section
variable {fa : List He.Fa} {fn : List He.DefD} {ex : PySem.W.Frag → Bool} {K : PySem.W.Frag} {mg : Str → Option Value} {base : Heap}
theorem Glb.free (T : Glb fa fn ex K mg base) (i : Nat) {x : Str} (h : fa[i]? = some (.free x) := by rfl) : mg x = none := He.free_ok T.X T.G (T.c.fact i h)
theorem Glb.glo (T : Glb fa fn ex K mg base) (i : Nat) {x : Str} (h : fa[i]? = some (.glo x) := by rfl) : mg x = some (.ref (He.ga K x)) := He.glo_ok T.X T.G (T.c.fact i h)
theorem Glb.held {vs : List (Str × Value)} (T : Glb fa fn (heldB vs) K mg base) (i : Nat) {x : Str} {v : Value} (h : vs[i]? = some (x, v) := by rfl) : mg x = some v :=
  PySem.W.mg_of T.X T.G (He.eqO_ok (List.all_eq_true.mp T.e (x, v) (List.mem_of_getElem? h)))
end
/-- a law's script -/
theorem reps_ints {K : PySem.W.Frag} {H : Hp} : ∀ ns : List Int, Reps cI K H (ns.map V.int) ns
  | [] => trivial
  | _ :: ns => ⟨rfl, reps_ints ns⟩
theorem law_sp {K : PySem.W.Frag} {F : List Int → R Bool} {n : Nat} (hF : ∀ ns : List Int, ns.length ≤ n → F ns = .ok true) (H : Hp) (a : Addr) (ns : List Int) (hl : ns.length ≤ n) (hS : SqL K H a (ns.map V.int)) : spF K (aOne (cL cI)) cB F [.ref a] H (fun v _ => v = .bl true) fun _ _ _ => False := by
  refine ⟨H, ns, .refl H, ⟨.ref a, rfl, a, ns.map V.int, rfl, hS, reps_ints ns⟩, ?_⟩
  rw [hF ns hl]
  exact fun v S' H' g r => r
/-- the end of a law whose defs may raise within -/
theorem law_end {l : PySem.W.OpenLaw} {m k : Nat} {q : Program} {loose : List Str} {XP : (Str → Option Value) → Heap → Prop} {YP : World → Heap → Prop} {d : DefRec} {x : Str} (h1 : l.most = some m) (h2 : m ≤ sizeLine) (h3 : d.params.defaults = []) (room : Room k callerA)
    (F : ∀ (w : World) (mg : Str → Option Value) (fa : Addr) (h : Heap), YP w h → h.Ns mainGlobals mg → mg d.name = some (.ref fa) → ∃ (K : PySem.W.Frag) (fd : FuncData) (sp : Sp), K.In h ∧ (∀ (s : Shared) (u : Value), BindsTo s fd ⟨[u], []⟩ [(x, u)]) ∧
      (∀ (H : Hp) (a : Addr) (ns : List Int), ns.length ≤ m → SqL K H a (ns.map V.int) → sp [.ref a] H (fun v _ => v = .bl true) fun _ _ _ => False) ∧ ∀ base : Heap, K.In base → base.Ns mainGlobals mg → FnOk l.prog w K mg base (L2N.CX l.prog w) k fa fd [x] sp) :
    PySem.W.WalkO q loose XP YP l.row.toRowW d [] (fun f vs => PySem.call f vs) := by
  refine Att.attach_call h1 h3 fun w _ s mg _ fa _ _ _ _ a _ ns G Y _ _ _ named obj hin hlen glob => ?_
  obtain ⟨K, fd, sp, inK, binds, start, keeps⟩ := F w mg fa _ Y G.T.g named
  refine law_call inK G.T.g G.T.b G.T.builtins G.T.nolimit glob obj hin (Nat.le_trans hlen h2) room keeps binds (fun H _ hS => start H a ns hlen hS) fun H e s2 z => ?_
  obtain ⟨_, _, _, _, _, _, _, _, _, _, _, _, no⟩ := z
  exact no.elim
end Zk
set_option maxHeartbeats 4000000
/-! # Zk: list comprehensions -/
namespace Zk
open PySem PySem.Spec PyProof.Rows L2
/-- an error within is no value -/
def R.nox {α : Type} : R α → R α
  | .ok a => .ok a
  | .exn _ => .stuck
  | .stuck => .stuck
/-- the values of f at those of as at which p is true -/
def compR {α β : Type} (p : α → R Bool) (f : α → R β) : List α → R (List β)
  | [] => .ok []
  | a :: as => R.nox (p a) >>= fun z => if z = true then R.nox (f a) >>= fun b => compR p f as >>= fun bs => .ok (b :: bs) else compR p f as
def mapR {α β : Type} (f : α → R β) : List α → R (List β)
  | [] => .ok []
  | a :: as => R.nox (f a) >>= fun b => mapR f as >>= fun bs => .ok (b :: bs)
def compM {α β : Type} (p : α → R Bool) (f : α → R β) (as : List α) : R (List β) := if as.length < 16000000 then compR p f as else .stuck
def mapM {α β : Type} (f : α → R β) (as : List α) : R (List β) := if as.length < 16000000 then mapR f as else .stuck
theorem compR_map {α β : Type} (f : α → R β) : ∀ as : List α, compR (fun _ => .ok true) f as = mapR f as
  | [] => rfl
  | a :: as => by
    show (R.nox (f a) >>= fun b => compR (fun _ => .ok true) f as >>= fun bs => .ok (b :: bs)) = _
    rw [compR_map f as]
    rfl
theorem compM_map {α β : Type} (f : α → R β) (as : List α) : compM (fun _ => .ok true) f as = mapM f as := by
  unfold compM mapM
  rw [compR_map]
theorem nox_post {α : Type} {m : R α} {Q : α → Prop} {E E' : Exn → Prop} (h : (R.nox m).post Q E) : m.post Q E' := by
  cases m with
  | ok a => exact h
  | exn x => exact False.elim h
  | stuck => exact h
/-! ### slots forgotten -/
theorem wipe_at (σ : L2.St) : ∀ (vs : List Nat) (j : Nat), (wipe σ vs)[j]? = if j ∈ vs then (if j < σ.length then some none else none) else σ[j]?
  | [], j => by simp [wipe]
  | v :: vs, j => by
    show ((wipe σ vs).set v none)[j]? = _
    by_cases e : j = v
    · subst e
      rw [if_pos List.mem_cons_self]
      by_cases h : j < σ.length
      · rw [if_pos h, List.getElem?_set_self (by rw [wipe_length]; exact h)]
      · rw [if_neg h, List.getElem?_eq_none (by rw [List.length_set, wipe_length]; omega)]
    · rw [List.getElem?_set_ne (Ne.symm e), wipe_at σ vs j]
      by_cases h : j ∈ vs
      · rw [if_pos h, if_pos (List.mem_cons_of_mem _ h)]
      · rw [if_neg h, if_neg (fun z => (List.mem_cons.mp z).elim e h)]
theorem wipe_eq {σ τ : L2.St} {vs : List Nat} (hl : τ.length = σ.length) (h : ∀ j, j ∉ vs → τ[j]? = (wipe σ vs)[j]?) : wipe τ vs = wipe σ vs := by
  refine List.ext_getElem? fun j => ?_
  by_cases e : j ∈ vs
  · rw [wipe_at, wipe_at, if_pos e, if_pos e, hl]
  · rw [← h j e, wipe_at, if_neg e]
def wipeD (ds : Env) : List Nat → Env
  | [] => ds
  | v :: vs => (wipeD ds vs).put v .none
theorem EnvOk.wipe {K : PySem.W.Frag} {S0 H0 S H : Hp} {ds : Env} {σ : L2.St} (E : EnvOk K S0 H0 ds σ S H) : ∀ vs : List Nat, EnvOk K S0 H0 (wipeD ds vs) (L2.wipe σ vs) S H
  | [] => E
  | v :: vs => by
    exact EnvOk.putN (EnvOk.wipe E vs)
/-! ### canonical readings -/
def wE (X : Cx) (e : Expr) : TE := fun σ H Q => ∀ (pins : List (Addr × Obj)) (s : Shared), Inv X pins σ H s → wpAny (model X.prog X.w) X.A (eval e X.env) (EP X pins σ Q) X.xe s
def wT (X : Cx) (e : Expr) : TT := fun σ H Q => ∀ (pins : List (Addr × Obj)) (s : Shared), Inv X pins σ H s → wpAny (model X.prog X.w) X.A (isTrue e X.env (eval e X.env)) (TP X pins σ Q) X.xe s
theorem pe_wE {X : Cx} {e : Expr} : PE X e (wE X e) := ⟨fun pins s _ _ _ I h => h pins s I⟩
theorem pt_wT {X : Cx} {e : Expr} : PT X e (wT X e) := ⟨fun pins s _ _ _ I h => h pins s I⟩
section
variable {X : Cx} {W : WK} {ds : Env} {α β : Type} {e : Expr} {c : Cd α}
theorem DE.w {m : R α} (h : DE X W ds e c m) {S0 H0 S H : Hp} {σ : L2.St} {Q : VK} (E : EnvOk X.K S0 H0 ds σ S H) (P : PX c X.K S H m Q (W σ)) : wE X e σ H Q := by
  obtain ⟨t, p, q⟩ := h
  exact fun pins s I => p.run pins s σ H Q I (q S0 H0 σ S H Q E P)
theorem DT.w {m : R Bool} (h : DT X W ds e m) {S0 H0 S H : Hp} {σ : L2.St} {Q : Bool → Hp → Prop} (E : EnvOk X.K S0 H0 ds σ S H) (P : PB X.K S H m Q (W σ)) : wT X e σ H Q := by
  obtain ⟨t, p, q⟩ := h
  exact fun pins s I => p.run pins s σ H Q I (q S0 H0 σ S H Q E P)
end
/-! ### the comprehension -/
/-- the contexts in which a comprehension's block runs -/
abbrev Blk : Type := Shared × Hp × Addr × List (Str × Addr) × List Addr
abbrev blkX (X : Cx) (scope : Scope) (b : Blk) : Cx := X.blk b.1 b.2.1 scope (compEnvC scope b.2.2.2.1 b.2.2.1 X.env) b.2.2.2.2
/-- the target within the block: the slots behind it -/
def DGB (X : Cx) (scope : Scope) (tg : Expr) (vs : List Nat) {α : Type} (c : Cd α) (ds : Env) (eB : α → Env) : Prop :=
  ∃ g : TG, (∀ b : Blk, PG (blkX X scope b) tg g) ∧ ∀ a v S0 H0 σ S H (Q : L2.St → Hp → Prop), EnvOk X.K S0 H0 ds σ S H → c.rep X.K S v a → (∀ σ', σ'.length = σ.length → (∀ j, j ∉ vs → σ'[j]? = σ[j]?) → (∀ S' H', Same S S' → EnvOk X.K S0 H0 ds σ S' H' → EnvOk X.K S0 H0 (eB a) σ' S' H') → Q σ' H) → g v σ H Q
/-- Pi: what is known of the walked thing's reading -/
def DLcG (Pi : TI → Prop) (X : Cx) (W : WK) (ds : Env) (elt tg : Expr) (ifs : List Expr) (scope : Scope) {β : Type} (c : Cd β) (m : R (List β)) : Prop :=
  ∃ (wi : TI) (g : TG) (tt : TT) (te : TE) (own : List (Str × Nat)), Pi wi ∧ BlkOk X.N X.env.scope scope own ∧ (∀ b : Blk, PG (blkX X scope b) tg g) ∧ (∀ b : Blk, PTs (blkX X scope b) ifs tt) ∧ (∀ b : Blk, PE (blkX X scope b) elt te) ∧
    ∀ S0 H0 σ S H (Q : VK), EnvOk X.K S0 H0 ds σ S H → m.post (fun as => ∀ p vs S' H', Grow S H S' H' → H p = none → S' p = none → H' p = some (.lst vs) → Reps c X.K S' vs as → Q (.ref p) H') (fun x => ∀ cl d S' H', Grow S H S' H' → repX X.K S' cl d x → W σ cl d H') → tLc wi g tt te (own.map (·.2)) σ H Q
abbrev DLc (X : Cx) (W : WK) (ds : Env) (elt tg iter : Expr) (ifs : List Expr) (scope : Scope) {β : Type} (c : Cd β) (m : R (List β)) : Prop := DLcG (PI X tg iter) X W ds elt tg ifs scope c m
/-- what is walked, its reading known by Pi -/
def DIG (Pi : TI → Prop) (X : Cx) (W : WK) (ds : Env) {α : Type} (c : Cd α) (m : R (List α)) : Prop :=
  ∃ wi : TI, Pi wi ∧ ∀ S0 H0 σ S H (Q : It → Hp → Prop), EnvOk X.K S0 H0 ds σ S H →
    m.post (fun as => ∀ J S' H', Grow S H S' H' → ItOk J X.K S' c as → Q J H') (fun x => ∀ cl d S' H', Grow S H S' H' → repX X.K S' cl d x → W σ cl d H') → wi σ H Q
section
variable {X : Cx} {W : WK} {ds : Env} {α β : Type} {elt tg iter : Expr} {ifs : List Expr} {scope : Scope} {c : Cd α} {c2 : Cd β} {mi : R (List α)}
def tAnyT (X : Cx) (scope : Scope) (e : Expr) : TT := fun σ H Q => ∀ b : Blk, wT (blkX X scope b) e σ H Q
def tAnyE (X : Cx) (scope : Scope) (e : Expr) : TE := fun σ H Q => ∀ b : Blk, wE (blkX X scope b) e σ H Q
theorem lc_core_ {Pi : TI → Prop} {p : α → R Bool} {f : α → R β} (own : List (Str × Nat)) (ok : BlkOk X.N X.env.scope scope own) (hi : DIG Pi X W ds c mi) {eB : α → Env} (hg : DGB X scope tg (own.map (·.2)) c (wipeD ds (own.map (·.2))) eB)
    {tt : TT} (ht : ∀ b : Blk, PTs (blkX X scope b) ifs tt) (hts : ∀ a S0 H0 σ S H (Q : Bool → Hp → Prop), EnvOk X.K S0 H0 (eB a) σ S H → PB X.K S H (p a) Q E0 → tt σ H Q)
    (he : ∀ (b : Blk) a, DE (blkX X scope b) (fun _ => E0) (eB a) elt c2 (f a)) : DLcG Pi X W ds elt tg ifs scope c2 (mi >>= fun as => compM p f as) := by
  obtain ⟨wi, pi, qi⟩ := hi
  obtain ⟨g, pg, qg⟩ := hg
  refine ⟨wi, g, tt, tAnyE X scope elt, own, pi, ok, pg, ht, fun b => ⟨fun pins s σ H Q I h => h b pins s I⟩, fun S0 H0 σ S H Q E P => ?_⟩
  refine qi S0 H0 σ S H _ E (R.post_mono (R.post_bind.mp P) (fun as k J S1 H1 g1 hJ => ?_) (fun _ k => k))
  intro D hD
  have E1 := E.step g1
  have hlen : as.length < 16000000 := by
    unfold compM at k
    split at k
    · assumption
    · exact False.elim k
  have k' : (compR p f as).post (fun as => ∀ p vs S' H', Grow S H S' H' → H p = none → S' p = none → H' p = some (.lst vs) → Reps c2 X.K S' vs as → Q (.ref p) H') (fun x => ∀ cl d S' H', Grow S H S' H' → repX X.K S' cl d x → W σ cl d H') := by
    unfold compM at k
    rw [if_pos hlen] at k
    exact k
  refine ⟨fun i m H' => m = as.length - i ∧ i ≤ as.length ∧ ∃ S' vs bs, Grow S1 H1 S' H' ∧ H' D = some (.lst vs) ∧ S' D = none ∧ Reps c2 X.K S' vs bs ∧ bs.length ≤ i ∧
      (compR p f (as.drop i)).post (fun ys => ∀ p vs S' H', Grow S H S' H' → H p = none → S' p = none → H' p = some (.lst vs) → Reps c2 X.K S' vs (bs ++ ys) → Q (.ref p) H') (fun x => ∀ cl d S' H', Grow S H S' H' → repX X.K S' cl d x → W σ cl d H'),
    ⟨as.length, rfl, Nat.zero_le _, S1, [], [], .lay' g1.inn hD, upd_same, g1.inn.free hD, trivial, Nat.le_refl _, by simpa using k'⟩, ?_⟩
  rintro i m H2 ⟨rfl, hi, S2, vs, bs, g2, h2, h3, r2, hb, k2⟩
  obtain ⟨j1, j2⟩ := hJ i S2 H2 g2.st g2.inn
  by_cases hlt : i < as.length
  · have ha : as[i]? = some as[i] := List.getElem?_eq_getElem hlt
    obtain ⟨n1, n2⟩ := j2 _ ha
    rw [List.drop_eq_getElem_cons hlt] at k2
    refine .inr ⟨n1, fun H' => ∃ S' vs bs, Grow S1 H1 S' H' ∧ H' D = some (.lst vs) ∧ S' D = none ∧ Reps c2 X.K S' vs bs ∧ bs.length ≤ i + 1 ∧
      (compR p f (as.drop (i + 1))).post (fun ys => ∀ p vs S' H', Grow S H S' H' → H p = none → S' p = none → H' p = some (.lst vs) → Reps c2 X.K S' vs (bs ++ ys) → Q (.ref p) H') (fun x => ∀ cl d S' H', Grow S H S' H' → repX X.K S' cl d x → W σ cl d H'),
      fun H' q => ⟨as.length - (i + 1), by omega, rfl, hlt, q⟩, fun x H3 y => ?_⟩
    obtain ⟨S3, g3, r3⟩ := n2 x H3 y
    have E3 := ((E1.step (g2.trans g3)).wipe (own.map (·.2)))
    refine qg _ x S0 H0 _ S3 H3 _ E3 r3 fun σ' hl ho EF => ⟨wipe_eq (by rw [hl, wipe_length]) ho, ?_⟩
    have E4 := EF S3 H3 (.refl _) E3
    have k3 : (R.nox (p as[i]) >>= fun z => if z = true then R.nox (f as[i]) >>= fun b => compR p f (as.drop (i + 1)) >>= fun bs => .ok (b :: bs) else compR p f (as.drop (i + 1))).post (fun ys => ∀ p vs S' H', Grow S H S' H' → H p = none → S' p = none → H' p = some (.lst vs) → Reps c2 X.K S' vs (bs ++ ys) → Q (.ref p) H') (fun x => ∀ cl d S' H', Grow S H S' H' → repX X.K S' cl d x → W σ cl d H') := k2
    refine hts _ S0 H0 σ' S3 H3 _ E4 (nox_post (R.post_mono (R.post_bind.mp k3) (fun z k4 S5 H5 g5 => ?_) (fun _ k => k)))
    have d5 : H5 D = some (.lst vs) := g5.ex _ _ (g3.ex _ _ h2)
    have s5 : S5 D = none := (g3.trans g5).none h2 h3
    cases z with
    | false =>
      rw [if_neg Bool.false_ne_true] at k4
      refine iteF ?_
      exact ⟨S5, vs, bs, g2.trans (g3.trans g5), d5, s5, Reps.mono (g3.trans g5).st r2, Nat.le_succ_of_le hb, k4⟩
    | true =>
      rw [if_pos rfl] at k4
      refine iteT ?_
      intro b
      refine (he b as[i]).w (Q := fun y H4 => ∃ acc, H4 D = some (.lst acc) ∧ acc.length < sizeLine ∧ _) (E4.step g5) (nox_post (R.post_mono (R.post_bind.mp k4) (fun w k5 v S6 H6 g6 r6 => ?_) (fun _ k => k)))
      have d6 : H6 D = some (.lst vs) := g6.ex _ _ d5
      have s6 : S6 D = none := g6.none d5 s5
      have g16 : Grow S1 H1 S6 H6 := g2.trans (g3.trans (g5.trans g6))
      refine ⟨vs, d6, by rw [r2.length]; exact Nat.lt_of_le_of_lt hb (Nat.lt_of_lt_of_le (Nat.lt_trans hlt hlen) (by decide)), S6, vs ++ [v], bs ++ [w], ⟨g16.ex.mut hD, g16.st, g16.inn.mut s6, g16.new⟩, upd_same, s6, (Reps.mono (g3.trans (g5.trans g6)).st r2).append (show Reps c2 X.K S6 [v] [w] from ⟨r6, trivial⟩), by rw [List.length_append]; exact Nat.succ_le_succ hb, ?_⟩
      refine R.post_mono (R.post_bind.mp k5) (fun ys k6 p vs S' H' g' h1 h2 h3 r => k6 p vs S' H' g' h1 h2 h3 ?_) (fun _ k => k)
      rw [List.append_assoc] at r
      exact r
  · have e : i = as.length := by omega
    subst e
    rw [List.drop_length] at k2
    have q := k2 D vs S2 H2 (g1.trans g2) (g1.ex.free hD) h3 h2
    rw [List.append_nil] at q
    exact .inl ⟨j1 (Nat.le_refl _), q r2⟩
/-- [elt for tg in iter] -/
theorem lc0 {f : α → R β} (own : List (Str × Nat)) (ok : BlkOk X.N X.env.scope scope own) (hi : DI X W ds tg iter c mi) {eB : α → Env} (hg : DGB X scope tg (own.map (·.2)) c (wipeD ds (own.map (·.2))) eB)
    (he : ∀ (b : Blk) a, DE (blkX X scope b) (fun _ => E0) (eB a) elt c2 (f a)) : DLc X W ds elt tg iter [] scope c2 (mi >>= fun as => mapM f as) := by
  have q := lc_core_ (Pi := PI X tg iter) (p := fun _ => .ok true) own ok hi hg (tt := tYes) (fun _ => pts_nil) (fun a S0 H0 σ S H Q E P => P.ok E.inn) he
  rw [show (fun as => compM (fun _ => .ok true) f as) = fun as => mapM f as from funext fun as => compM_map f as] at q
  exact q
/-- [elt for tg in iter if t] -/
theorem lc1 {t : Expr} {p : α → R Bool} {f : α → R β} (own : List (Str × Nat)) (ok : BlkOk X.N X.env.scope scope own) (hi : DI X W ds tg iter c mi) {eB : α → Env} (hg : DGB X scope tg (own.map (·.2)) c (wipeD ds (own.map (·.2))) eB)
    (ht : ∀ (b : Blk) a, DT (blkX X scope b) (fun _ => E0) (eB a) t (p a)) (he : ∀ (b : Blk) a, DE (blkX X scope b) (fun _ => E0) (eB a) elt c2 (f a)) : DLc X W ds elt tg iter [t] scope c2 (mi >>= fun as => compM p f as) :=
  lc_core_ (Pi := PI X tg iter) own ok hi hg (tt := tAnyT X scope t) (fun b => pts_one ⟨fun pins s σ H Q I h => h b pins s I⟩) (fun a S0 H0 σ S H Q E P b => (ht b a).w E P) he
/-- a name of the block -/
theorem tgB {pos : Pos} {x : Str} {e0 : Env} {vs : List Nat} (i : Nat) (sn : X.N.Nodup) (hi : X.N[i]? = some x := by rfl) (hx : ∀ b : Blk, Loc (blkX X scope b).env.scope x := by first | exact fun _ => Or.inl rfl | exact fun _ => Or.inr rfl)
    (hf : ∀ b : Blk, (blkX X scope b).fn x = true ∨ (blkX X scope b).env.scope.names.lookup x = some .local := by first | exact fun _ => .inr rfl | exact fun _ => .inl rfl) (hm : i ∈ vs := by decide) : DGB X scope (.Name x pos) vs c e0 (fun a => e0.put i (.st α c a)) :=
  ⟨gName i, fun b => pg_name (X := blkX X scope b) sn hi (hx b) (hf b), fun a v S0 H0 σ S H Q E r k => k _ (List.length_set ..) (fun j hj => List.getElem?_set_ne (fun (z : i = j) => hj (by rw [← z]; exact hm))) fun S' H' e E' => E'.putS (c.mono e r)⟩
variable {pos : Pos} {m : R (List β)}
theorem dlc (sn : X.N.Nodup) (hc : X.calm = true) (h : DLc X W ds elt tg iter ifs scope c2 m) (hs : ∀ x, foldedSetIterable iter X.env x = pure x := by intro _; rfl) : DL X W ds (.ListComp elt [⟨tg, iter, ifs, 0⟩] scope pos) c2 m := by
  obtain ⟨wi, g, tt, te, own, pi, ok, pg, ht, he, q⟩ := h
  exact ⟨_, pe_lc hc sn pi ok (fun s H C cl fp => pg (s, H, C, cl, fp)) (fun s H C cl fp => ht (s, H, C, cl, fp)) (fun s H C cl fp => he (s, H, C, cl, fp)) hs, q⟩
end
section
variable {X : Cx} {W : WK} {T : Bool} {ds : Env} {α β γ τ ν κ ω : Type} {elt tg iter : Expr} {ifs : List Expr} {scope : Scope} {rest : List Stmt} {pos p : Pos} {c : Cd α} {cb : RCd β} {eN : ν → Env} {eK : κ → Env} {I : ω → Out β ν κ} {m : R (List α)} {k : List α → R ω}
/-- x = [..] on one line, x a local: the list may still change -/
theorem asgMc [kw : KW W] {y : Str} {py spos : Pos} (i : Nat) (sn : X.N.Nodup) (hc : X.calm = true) (he : DLc X W ds elt tg iter ifs scope c m) (hr : ∀ z, DS X W T (ds.put i (.mu α c z)) rest cb eN eK I (k z)) (hy : X.N[i]? = some y := by rfl) (hyl : X.env.scope.names.lookup y = some .local := by rfl)
    (hsw : swapsWith (.ListComp elt [⟨tg, iter, ifs, 0⟩] scope pos) (some (.Name y py)) spos.line X.env = pure true := by exact sw_true rfl rfl rfl (by decide +kernel)) (hs : ∀ x, foldedSetIterable iter X.env x = pure x := by intro _; rfl) :
    DS X W T ds (.Assign [.Name y py] (.ListComp elt [⟨tg, iter, ifs, 0⟩] scope pos) spos :: rest) cb eN eK I (m >>= k) := fun S0 H0 σ S H D nx h E P => by
  obtain ⟨W, rfl⟩ := kw.ex
  obtain ⟨wi, g, tt, te, own, pi, ok, pg, ht, hel, q⟩ := he
  refine seq (ps_setLc (i := i) hc sn hy hyl hsw pi ok (fun s H C cl fp => pg (s, H, C, cl, fp)) (fun s H C cl fp => ht (s, H, C, cl, fp)) (fun s H C cl fp => hel (s, H, C, cl, fp)) hs) ?_
  exact q S0 H0 σ S H _ E (R.post_mono (R.post_bind.mp P) (fun z q p vs S' H' g h1 h2 h3 r => hr z S0 H0 _ S' H' D nx h (E.putM g h1 h2 h3 r) q) (fun x q cl d S' H' g r => q cl d S' H' (E.grow.trans g) r))
theorem put_put : ∀ (ds : Env) (i : Nat) (a b : SD), (ds.put i a).put i b = ds.put i b
  | [], _, _, _ => rfl
  | _ :: _, 0, _, _ => rfl
  | d :: ds, i + 1, a, b => congrArg (d :: ·) (put_put ds i a b)
theorem get_put_of {ds : Env} {i : Nat} {d : SD} (h : i < ds.length) : (ds.put i d).get i = d := Env.get_put_same ds i d h
/-- .. and does not -/
theorem asgc [kw : KW W] {y : Str} {py spos : Pos} (i : Nat) (sn : X.N.Nodup) (hc : X.calm = true) (he : DLc X W ds elt tg iter ifs scope c m) (hr : ∀ z, DS X W T (ds.put i (.st (List α) (cL c) z)) rest cb eN eK I (k z)) (hy : X.N[i]? = some y := by rfl) (hyl : X.env.scope.names.lookup y = some .local := by rfl)
    (hsw : swapsWith (.ListComp elt [⟨tg, iter, ifs, 0⟩] scope pos) (some (.Name y py)) spos.line X.env = pure true := by exact sw_true rfl rfl rfl (by decide +kernel)) (hs : ∀ x, foldedSetIterable iter X.env x = pure x := by intro _; rfl) (hi : i < ds.length := by decide) :
    DS X W T ds (.Assign [.Name y py] (.ListComp elt [⟨tg, iter, ifs, 0⟩] scope pos) spos :: rest) cb eN eK I (m >>= k) :=
  asgMc i sn hc he (fun z => settle i (get_put_of hi) (by rw [put_put]; exact hr z)) hy hyl hsw hs
end
end Zk
set_option maxHeartbeats 4000000
/-! # Zk: list(..), tuple(..), tuples of so many read as sequences, while, lists joined and repeated -/
namespace Zk
open PySem PySem.Spec PyProof.Rows L2
/-! ### sequences -/
class SqI {α : Type} (c : Cd (List α)) (d : outParam (Cd α)) : Prop where
  sq : ∀ {K : PySem.W.Frag} {H : Hp} {v : V} {a : List α}, c.rep K H v a → ∃ p vs, v = .ref p ∧ (SqL K H p vs ∨ SqT K H p vs) ∧ Reps d K H vs a
instance {α : Type} {d : Cd α} : SqI (cL d) d := ⟨fun ⟨p, vs, e, h1, h2⟩ => ⟨p, vs, e, .inl h1, h2⟩⟩
instance {α : Type} {d : Cd α} : SqI (cT d) d := ⟨fun ⟨p, vs, e, h1, h2⟩ => ⟨p, vs, e, .inr h1, h2⟩⟩
instance {α : Type} {d : Cd α} : SqI (cLT d) d := ⟨fun h => by
  rcases h with ⟨p, vs, e, h1, h2⟩ | ⟨p, vs, e, h1, h2⟩
  · exact ⟨p, vs, e, .inl h1, h2⟩
  · exact ⟨p, vs, e, .inr h1, h2⟩⟩
section
variable {X : Cx} {W : WK} {ds : Env} {α β γ τ : Type} {a b : Expr} {e : Expr} {es : List Expr} {pos p : Pos} {c : Cd α} {c2 : Cd β} {m : R α} {x : α}
/-- list(e) -/
theorem toL {d : Cd (List α)} [SqI d c] {m : R (List α)} (hm : X.mg "list" = none) (ha : DE X W ds e d m) (hg : Gl X "list" := by rfl)
    (he : starEach (e :: []) X.env = (false, eval e X.env) :: starEach [] X.env := by rfl) (hpl : (backTo pos (starEach [] X.env)).any (·.1) = false := by rfl) : DL X W ds (.Call (.Name "list" p) [e] [] pos) c m := by
  obtain ⟨t, pa, q⟩ := ha
  refine ⟨_, pe_callTy call_list_of hg hm (by decide +kernel) (pa_cons pa pa_nil he) (by decide) (by decide) he hpl, fun S0 H0 σ S H Q E P => q S0 H0 σ S H _ E (R.post_mono P (fun as k v S' H' g r => ?_) (fun _ k => k))⟩
  obtain ⟨l, vs, e1, h1, h2⟩ := SqI.sq (c := d) (d := c) r
  refine ⟨l, vs, by rw [e1], h1.imp (Same.seq g.inn) (Same.tup g.inn), fun l' hl => ?_⟩
  have g2 : Grow S' H' S' (upd H' l' (.lst vs)) := .lay' g.inn hl
  exact k l' vs S' _ (g.trans g2) (g.ex.free hl) (g.inn.free hl) upd_same h2
/-- tuple(e) -/
theorem toT {d : Cd (List α)} [SqI d c] {m : R (List α)} (hm : X.mg "tuple" = none) (ha : DE X W ds e d m) (hg : Gl X "tuple" := by rfl)
    (he : starEach (e :: []) X.env = (false, eval e X.env) :: starEach [] X.env := by rfl) (hpl : (backTo pos (starEach [] X.env)).any (·.1) = false := by rfl) : DE X W ds (.Call (.Name "tuple" p) [e] [] pos) (cT c) m := by
  obtain ⟨t, pa, q⟩ := ha
  refine ⟨_, pe_callTy call_tuple_of hg hm (by decide +kernel) (pa_cons pa pa_nil he) (by decide) (by decide) he hpl, fun S0 H0 σ S H Q E P => q S0 H0 σ S H _ E (R.post_mono P (fun as k v S' H' g r => ?_) (fun _ k => k))⟩
  obtain ⟨l, vs, e1, h1, h2⟩ := SqI.sq (c := d) (d := c) r
  refine ⟨l, vs, by rw [e1], ?_⟩
  rcases h1 with h1 | h1
  · refine .inl ⟨Same.seq g.inn h1, fun l' hl => ?_⟩
    have g2 : Grow S' H' (upd S' l' (.tup vs)) (upd H' l' (.tup vs)) := .lay g.inn hl
    exact k (.ref l') _ _ (g.trans g2) ⟨l', vs, rfl, .inl (.inl upd_same), Reps.mono g2.st h2⟩
  · exact .inr ⟨Same.tup g.inn h1, k (.ref l) S' H' g ⟨l, vs, rfl, h1, h2⟩⟩
/-! ### a tuple of so many as a sequence -/
def AUni (r : CA τ) (c : Cd α) (f : τ → List α) : Prop := ∀ K H vs z, r.rep K H vs z → Reps c K H vs (f z)
theorem auN : AUni aNil c (fun _ => []) := fun K H vs z h => by
  have e : vs = [] := h
  rw [e]
  trivial
theorem au1 : AUni (aOne c) c (fun z => [z]) := fun K H vs z ⟨v, e, r⟩ => by
  rw [e]
  exact ⟨r, trivial⟩
theorem auC {r : CA τ} {f : τ → List α} (h : AUni r c f) : AUni (aCons c r) c (fun z => z.1 :: f z.2) := fun K H vs z ⟨v, ws, e, r1, r2⟩ => by
  rw [e]
  exact ⟨r1, h _ _ _ _ r2⟩
theorem pT_p {r : CA τ} {z : τ} (f : τ → List α) (h : AUni r c f) (ha : DE X W ds a (cP r) (.ok z)) : DE X W ds a (cT c) (.ok (f z)) :=
  coe (c := cP r) (c2 := cT c) (f := f) (fun K H v a ⟨p, vs, e, h1, h2⟩ => ⟨p, vs, e, h1, h _ _ _ _ h2⟩) ha
theorem pT_m {r : CA τ} {m : R τ} (f : τ → List α) (h : AUni r c f) (ha : DE X W ds a (cP r) m) : DE X W ds a (cT c) (m >>= fun z => .ok (f z)) :=
  coe (c := cP r) (c2 := cT c) (f := f) (fun K H v a ⟨p, vs, e, h1, h2⟩ => ⟨p, vs, e, h1, h _ _ _ _ h2⟩) ha
theorem hL_p {r : CA τ} {z : τ} (f : τ → List α) (h : AUni r c f) (ha : DE X W ds a (cH r) (.ok z)) : DE X W ds a (cL c) (.ok (f z)) :=
  coe (c := cH r) (c2 := cL c) (f := f) (fun K H v a ⟨p, vs, e, h1, h2⟩ => ⟨p, vs, e, h1, h _ _ _ _ h2⟩) ha
theorem hL_m {r : CA τ} {m : R τ} (f : τ → List α) (h : AUni r c f) (ha : DE X W ds a (cH r) m) : DE X W ds a (cL c) (m >>= fun z => .ok (f z)) :=
  coe (c := cH r) (c2 := cL c) (f := f) (fun K H v a ⟨p, vs, e, h1, h2⟩ => ⟨p, vs, e, h1, h _ _ _ _ h2⟩) ha
/-- the elements read otherwise -/
theorem Reps.coe {f : α → β} (h : Coe c c2 f) {K : PySem.W.Frag} {H : Hp} : ∀ {vs : List V} {as : List α}, Reps c K H vs as → Reps c2 K H vs (as.map f)
  | [], [], _ => trivial
  | _ :: _, _ :: _, r => ⟨h _ _ _ _ r.1, Reps.coe h r.2⟩
  | [], _ :: _, r => r.elim
  | _ :: _, [], r => r.elim
/-! ### other readings -/
theorem coe_p {f : α → β} (h : Coe c c2 f) (ha : DE X W ds a c (.ok x)) : DE X W ds a c2 (.ok (f x)) := coe h ha
theorem coeI {c2 : Cd α} (h : Coe c c2 (fun z => z)) (ha : DE X W ds a c m) : DE X W ds a c2 m := coe_id h ha
theorem cId : Coe c c (fun z => z) := fun _ _ _ _ r => r
theorem cSome {f : α → β} [NN c] (h : Coe c c2 f) : Coe c (cO c2) (fun z => some (f z)) := fun K H v a r => ⟨NN.nn r, h _ _ _ _ r⟩
theorem cNone : Coe cN (cO c) (fun _ => none) := fun K H v a r => r
theorem cOO {f : α → β} (h : Coe c c2 f) : Coe (cO c) (cO c2) (Option.map f) := fun K H v a r => by
  cases a with
  | none => exact r
  | some z => exact ⟨r.1, h _ _ _ _ r.2⟩
theorem cLL {f : α → β} (h : Coe c c2 f) : Coe (cL c) (cL c2) (List.map f) := fun K H v a ⟨p, vs, e, h1, h2⟩ => ⟨p, vs, e, h1, Reps.coe h h2⟩
theorem cTT {f : α → β} (h : Coe c c2 f) : Coe (cT c) (cT c2) (List.map f) := fun K H v a ⟨p, vs, e, h1, h2⟩ => ⟨p, vs, e, h1, Reps.coe h h2⟩
theorem cLTLT {f : α → β} (h : Coe c c2 f) : Coe (cLT c) (cLT c2) (List.map f) := fun K H v a r => r.imp (cLL h K H v a) (cTT h K H v a)
theorem Reps.coeI {c2 : Cd α} (h : Coe c c2 (fun z => z)) {K : PySem.W.Frag} {H : Hp} {vs : List V} {as : List α} (r : Reps c K H vs as) : Reps c2 K H vs as := by
  have q := Reps.coe h r
  rw [List.map_id'] at q
  exact q
theorem cLLi {c2 : Cd α} (h : Coe c c2 (fun z => z)) : Coe (cL c) (cL c2) (fun z => z) := fun K H v a ⟨p, vs, e, h1, h2⟩ => ⟨p, vs, e, h1, Reps.coeI h h2⟩
theorem cTTi {c2 : Cd α} (h : Coe c c2 (fun z => z)) : Coe (cT c) (cT c2) (fun z => z) := fun K H v a ⟨p, vs, e, h1, h2⟩ => ⟨p, vs, e, h1, Reps.coeI h h2⟩
theorem cLTLTi {c2 : Cd α} (h : Coe c c2 (fun z => z)) : Coe (cLT c) (cLT c2) (fun z => z) := fun K H v a r => r.imp (cLLi h K H v a) (cTTi h K H v a)
theorem cOOi {c2 : Cd α} (h : Coe c c2 (fun z => z)) : Coe (cO c) (cO c2) (fun z => z) := fun K H v a r => by
  cases a with
  | none => exact r
  | some z => exact ⟨r.1, h _ _ _ _ r.2⟩
theorem cL_LT {f : List α → List β} (h : Coe (cL c) (cL c2) f) : Coe (cL c) (cLT c2) f := fun K H v a r => .inl (h K H v a r)
theorem cT_LT {f : List α → List β} (h : Coe (cT c) (cT c2) f) : Coe (cT c) (cLT c2) f := fun K H v a r => .inr (h K H v a r)
theorem au1c {f : β → α} (h : Coe c2 c f) : AUni (aOne c2) c (fun z => [f z]) := fun K H vs z ⟨v, e, r⟩ => by
  rw [e]
  exact ⟨h _ _ _ _ r, trivial⟩
theorem auCc {g : β → α} (hc : Coe c2 c g) {r : CA τ} {f : τ → List α} (h : AUni r c f) : AUni (aCons c2 r) c (fun z => g z.1 :: f z.2) := fun K H vs z ⟨v, ws, e, r1, r2⟩ => by
  rw [e]
  exact ⟨hc _ _ _ _ r1, h _ _ _ _ r2⟩
theorem cPT {r : CA τ} {f : τ → List α} (h : AUni r c f) : Coe (cP r) (cT c) f := fun K H v a ⟨p, vs, e, h1, h2⟩ => ⟨p, vs, e, h1, h _ _ _ _ h2⟩
theorem cPLT {r : CA τ} {f : τ → List α} (h : AUni r c f) : Coe (cP r) (cLT c) f := fun K H v a ⟨p, vs, e, h1, h2⟩ => .inr ⟨p, vs, e, h1, h _ _ _ _ h2⟩
theorem cHL {r : CA τ} {f : τ → List α} (h : AUni r c f) : Coe (cH r) (cL c) f := fun K H v a ⟨p, vs, e, h1, h2⟩ => ⟨p, vs, e, h1, h _ _ _ _ h2⟩
theorem cHLT {r : CA τ} {f : τ → List α} (h : AUni r c f) : Coe (cH r) (cLT c) f := fun K H v a ⟨p, vs, e, h1, h2⟩ => .inl ⟨p, vs, e, h1, h _ _ _ _ h2⟩
def ACoe {τ τ' : Type} (r : CA τ) (r' : CA τ') (f : τ → τ') : Prop := ∀ K H vs z, r.rep K H vs z → r'.rep K H vs (f z)
theorem ac1 {f : α → β} (h : Coe c c2 f) : ACoe (aOne c) (aOne c2) f := fun K H vs z ⟨v, e, r⟩ => ⟨v, e, h _ _ _ _ r⟩
theorem acC {τ' : Type} {f : α → β} (h : Coe c c2 f) {r : CA τ} {r' : CA τ'} {g : τ → τ'} (k : ACoe r r' g) : ACoe (aCons c r) (aCons c2 r') (fun z => (f z.1, g z.2)) := fun K H vs z ⟨v, ws, e, r1, r2⟩ => ⟨v, ws, e, h _ _ _ _ r1, k _ _ _ _ r2⟩
theorem cPP {τ' : Type} {r : CA τ} {r' : CA τ'} {g : τ → τ'} (k : ACoe r r' g) : Coe (cP r) (cP r') g := fun K H v a ⟨p, vs, e, h1, h2⟩ => ⟨p, vs, e, h1, k _ _ _ _ h2⟩
theorem cHH {τ' : Type} {r : CA τ} {r' : CA τ'} {g : τ → τ'} (k : ACoe r r' g) : Coe (cH r) (cH r') g := fun K H v a ⟨p, vs, e, h1, h2⟩ => ⟨p, vs, e, h1, k _ _ _ _ h2⟩
/-! ### joined, repeated -/
def catM (as bs : List α) : R (List α) := R.guard (as.length + bs.length < 16000000) (as ++ bs)
def repM (as : List α) (n : Int) : R (List α) := R.guard (-16000000 < n ∧ n < 16000000 ∧ as.length * n.toNat < 16000000) (List.flatten (List.replicate n.toNat as))
end
/-! ### while -/
section
variable {X : Cx} {W : WK} {T : Bool} {ds : Env} {β ν κ ω : Type} {body rest : List Stmt} {pos : Pos} {cb : RCd β} {eN : ν → Env} {eK : κ → Env} {I : ω → Out β ν κ}
theorem whileG [kw : KW W] {σ' : Type} {eL : σ' → Env} {test : σ' → R Bool} {step : σ' → R σ'} {s0 : σ'} {k : σ' → R ω} {t : Expr} (n : Nat) (hp : PassesOwn (model X.prog X.w) X.A X.env X.xe) (ht : ∀ s, DT X W (eL s) t (test s)) (l : EnvLe ds (eL s0))
    (hb : ∀ s, DS X W false (eL s) body cb eL eL (fun s => (.nxt s : Out β σ' σ')) (step s)) (hr : ∀ s, DS X W T (eL s) rest cb eN eK I (k s)) :
    DS X W T ds (.While t body [] pos :: rest) cb eN eK I (whileR n test step s0 >>= k) :=
  whileF (n := n) hp l ⟨wT X t, pt_wT, fun s S0 H0 σ S H Q E P => (ht s).w E P⟩ hb hr
end
end Zk
set_option maxHeartbeats 4000000
/-! # Zk: stores by place -/
namespace Zk
open PySem PySem.Spec PyProof.Rows L2
theorem RepsO.upd {α : Type} {o : OC α} {K : PySem.W.Frag} {S H H' : Hp} {a' : α} {v : V} {f : List Addr} (r : o.rep K S H' v a' f) (hh : ∀ p, p ∉ f → H' p = H p) : ∀ {vs : List V} {as : List α} {fs : List (List Addr)} {i : Nat}, RepsO o K S H vs as fs → fs.flatten.Nodup → vs[i]? = some v → fs[i]? = some f → RepsO o K S H' vs (as.set i a') fs
  | [], [], [], _, _, _, h, _ => by simp at h
  | v0 :: vs, a0 :: as, f0 :: fs, 0, h, nd, e1, e2 => by
    cases e1
    cases e2
    rw [List.flatten_cons, List.nodup_append] at nd
    refine ⟨r, RepsO.stay (.refl _) (fun p hp => ⟨(RepsO.dom h.2 p hp).1, hh p fun z => nd.2.2 p z p hp rfl⟩) h.2⟩
  | v0 :: vs, a0 :: as, f0 :: fs, i + 1, h, nd, e1, e2 => by
    rw [List.flatten_cons, List.nodup_append] at nd
    have hf : f ∈ fs := List.mem_of_getElem? (i := i) e2
    refine ⟨o.stay (.refl _) (fun p hp => ⟨(o.dom h.1 p hp).1, hh p fun z => nd.2.2 p hp p (List.mem_flatten.mpr ⟨f, hf, z⟩) rfl⟩) h.1, RepsO.upd r hh (i := i) h.2 nd.2.1 e1 e2⟩
  | [], [], _ :: _, _, h, _, _, _ => h.elim
  | [], _ :: _, _, _, h, _, _, _ => h.elim
  | _ :: _, [], _, _, h, _, _, _ => h.elim
  | _ :: _, _ :: _, [], _, h, _, _, _ => h.elim
section
variable {X : Cx} {W : WK} {T : Bool} {ds : Env} {α β γ τ ν κ ω : Type} {e j : Expr} {st : Stmt} {sts rest : List Stmt} {pos p : Pos} {c : Cd α} {cb : RCd β} {eN : ν → Env} {eK : κ → Env} {I : ω → Out β ν κ} {m : R α} {mj : R Int} {n : R ω}
/-- x[j] = e, x's list still changes -/
theorem setMu {x : Str} {p1 p2 : Pos} {as : List α} {k : List α → R ω} (i : Nat) (he : DE X W ds e c m) (hj : DE X W ds j cI mj) (hr : ∀ zs, DS X W T (ds.put i (.mu α c zs)) rest cb eN eK I (k zs)) (hd : ds.get i = .mu α c as := by rfl) (hN : X.N[i]? = some x := by rfl)
    (hv : Vis X.env.scope x := by first | exact Or.inl rfl | exact Or.inr (Or.inl rfl) | exact Or.inr (Or.inr rfl)) (hdb : (x == ("__debug__" : Str)) = false := by decide) (hcd : (x == ("__classdict__" : Str)) = false := by decide)
    (ha : ∀ v, assign (.Subscript (.Name x p1) j p2) X.env v = (do
      let ov ← holding [v] (eval (.Name x p1) X.env)
      let iv ← holding [v, ov] (eval j X.env)
      standAt p2
      holding [v, ov, iv] (setItem ov iv v)
      release [v, ov, iv] []) := by intro _; rfl)
    (hs : swapsWithSole [.Subscript (.Name x p1) j p2] e pos.line X.env = pure false := by rfl) (hw : swappedStores [.Subscript (.Name x p1) j p2] e X.env = pure none := by rfl)
    (h1 : (assignEach [.Subscript (.Name x p1) j p2] X.env).map (·.2) = [assign (.Subscript (.Name x p1) j p2) X.env] := by rfl) :
    DS X W T ds (.Assign [.Subscript (.Name x p1) j p2] e pos :: rest) cb eN eK I (m >>= fun z => mj >>= fun q => setM as q z >>= k) := fun S0 H0 σ S H D nx h E P => by
  obtain ⟨te, pe, qe⟩ := he
  obtain ⟨tj, pj, qj⟩ := hj
  refine seq (ps_asg pe (pg_sub (pe_var hN hv hdb hcd) pj set_list ha) hs hw h1) (qe S0 H0 σ S H _ E (stE E P fun z v S1 H1 E1 r1 P1 => ?_))
  obtain ⟨l, vs, e1, e2, e3, e4, e5⟩ := E1.muv hd
  refine ⟨.ref l, e1, qj S0 H0 σ S1 H1 _ E1 (R.post_mono (R.post_bind.mp P1) (fun q P2 u S2 H2 g2 r2 => ?_) (fun x q cl d S' H' g r => q cl d S' H' (E1.grow.trans g) r))⟩
  have E2 := E1.step g2
  obtain ⟨l2, vs2, f1, f2, f3, f4, f5⟩ := E2.muv hd
  rw [e1] at f1
  cases f1
  have eu : u = V.int q := r2
  subst eu
  unfold setM at P2
  cases hx : ixN as.length q with
  | none =>
    rw [hx] at P2
    exact False.elim P2
  | some w =>
    rw [hx] at P2
    refine ⟨l, vs2, q, w, rfl, rfl, f4, by rw [f5.length]; exact hx, ?_⟩
    exact hr _ S0 H0 σ S2 _ D nx h (E2.mutate (vs := vs2.set w v) hd e1 (Reps.set (c.mono g2.st r1) w f5)) P2
/-- x[a][b], x's lists owned -/
theorem ixMM {x : Str} {p1 p2 : Pos} {a b : Expr} {ass : List (List α)} {ma mb : R Int} (i : Nat) (ha : DE X W ds a cI ma) (hb : DE X W ds b cI mb) (hd : ds.get i = .ow (List (List α)) (oN (oL c)) ass := by rfl) (hN : X.N[i]? = some x := by rfl)
    (hv : Vis X.env.scope x := by first | exact Or.inl rfl | exact Or.inr (Or.inl rfl) | exact Or.inr (Or.inr rfl)) (hdb : (x == ("__debug__" : Str)) = false := by decide) (hcd : (x == ("__classdict__" : Str)) = false := by decide)
    (hpa : PlainIx a := by exact fun _ _ => rfl) (hpb : PlainIx b := by exact fun _ _ => rfl) :
    DE X W ds (.Subscript (.Subscript (.Name x p1) a p2) b pos) c (ma >>= fun q => getM ass q >>= fun row => mb >>= fun r => getM row r) := by
  obtain ⟨ta, pa, qa⟩ := ha
  obtain ⟨tb, pb, qb⟩ := hb
  refine ⟨_, pe_ix ix_list (pe_ix ix_list (pe_var hN hv hdb hcd) pa hpa) pb hpb, fun S0 H0 σ S H Q E P => ?_⟩
  obtain ⟨v, fp, h1, ⟨l, vs, fs, e1, e2, e3, e4, e5, e6⟩, h3⟩ := E.owv hd
  subst e1
  refine ⟨.ref l, h1, qa S0 H0 σ S H _ E (P.bind fun q u S1 H1 g1 r1 P1 => ?_)⟩
  have eu : u = V.int q := r1
  subst eu
  have E1 := E.step g1
  unfold getM at P1
  cases hq : atI ass q with
  | none =>
    rw [hq] at P1
    exact False.elim P1
  | some row =>
    rw [hq] at P1
    unfold atI at hq
    cases hi : ixN ass.length q with
    | none =>
      rw [hi] at hq
      cases hq
    | some w =>
      rw [hi] at hq
      obtain ⟨v2, f, k1, k2, ⟨l2, ws, k3, k4, k5, k6, k7⟩⟩ := RepsO.get e6 hq
      subst k3
      refine ⟨l, vs, q, .ref l2, rfl, rfl, SqL.of (g1.ex _ _ e5), ?_, qb S0 H0 σ S1 H1 _ E1 (PX.bind (show PX c X.K S1 H1 (mb >>= fun r => match atI row r with | some z => R.ok z | none => R.stuck) Q (W σ) from P1) fun r u2 S2 H2 g2 r2 P2 => ?_)⟩
      · unfold atI
        rw [(RepsO.length e6).1, hi]
        exact k1
      · have eu : u2 = V.int r := r2
        subst eu
        cases hr : atI row r with
        | none =>
          rw [hr] at P2
          exact False.elim P2
        | some z =>
          rw [hr] at P2
          obtain ⟨y, y1, y2⟩ := reps_at k7 hr
          exact ⟨l2, ws, r, y, rfl, rfl, SqL.of (g2.ex _ _ (g1.ex _ _ k6)), y1, P2.ok g2.inn (c.mono (g1.st.trans g2.st) y2)⟩
/-- x[a][b] = e, x's lists owned -/
theorem setMM {x : Str} {p1 p2 p3 : Pos} {a b : Expr} {ass : List (List α)} {ma mb : R Int} {k : List (List α) → R ω} (i : Nat) (he : DE X W ds e c m) (ha : DE X W ds a cI ma) (hb : DE X W ds b cI mb) (hr : ∀ zs, DS X W T (ds.put i (.ow (List (List α)) (oN (oL c)) zs)) rest cb eN eK I (k zs)) (hd : ds.get i = .ow (List (List α)) (oN (oL c)) ass := by rfl) (hN : X.N[i]? = some x := by rfl)
    (hv : Vis X.env.scope x := by first | exact Or.inl rfl | exact Or.inr (Or.inl rfl) | exact Or.inr (Or.inr rfl)) (hdb : (x == ("__debug__" : Str)) = false := by decide) (hcd : (x == ("__classdict__" : Str)) = false := by decide) (hpa : PlainIx a := by exact fun _ _ => rfl)
    (has : ∀ v, assign (.Subscript (.Subscript (.Name x p1) a p2) b p3) X.env v = (do
      let ov ← holding [v] (eval (.Subscript (.Name x p1) a p2) X.env)
      let iv ← holding [v, ov] (eval b X.env)
      standAt p3
      holding [v, ov, iv] (setItem ov iv v)
      release [v, ov, iv] []) := by intro _; rfl)
    (hs : swapsWithSole [.Subscript (.Subscript (.Name x p1) a p2) b p3] e pos.line X.env = pure false := by rfl) (hw : swappedStores [.Subscript (.Subscript (.Name x p1) a p2) b p3] e X.env = pure none := by rfl)
    (h1 : (assignEach [.Subscript (.Subscript (.Name x p1) a p2) b p3] X.env).map (·.2) = [assign (.Subscript (.Subscript (.Name x p1) a p2) b p3) X.env] := by rfl) :
    DS X W T ds (.Assign [.Subscript (.Subscript (.Name x p1) a p2) b p3] e pos :: rest) cb eN eK I (m >>= fun z => ma >>= fun q => getM ass q >>= fun row => mb >>= fun r => setM row r z >>= fun row' => setM ass q row' >>= k) := fun S0 H0 σ S H D nx h E P => by
  obtain ⟨te, pe, qe⟩ := he
  obtain ⟨ta, pa, qa⟩ := ha
  obtain ⟨tb, pb, qb⟩ := hb
  refine seq (ps_asg pe (pg_sub (pe_ix ix_list (pe_var hN hv hdb hcd) pa hpa) pb set_list has) hs hw h1) (qe S0 H0 σ S H _ E (stE E P fun z v S1 H1 E1 r1 P1 => ?_))
  obtain ⟨vv, fp, g1, ⟨l, vs, fs, e1, e2, e3, e4, e5, e6⟩, _⟩ := E1.owv hd
  subst e1
  refine ⟨.ref l, g1, qa S0 H0 σ S1 H1 _ E1 (R.post_mono (R.post_bind.mp P1) (fun q P2 u S2 H2 g2 r2 => ?_) (fun x q cl d S' H' g r => q cl d S' H' (E1.grow.trans g) r))⟩
  have eu : u = V.int q := r2
  subst eu
  unfold getM at P2
  cases hq : atI ass q with
  | none =>
    rw [hq] at P2
    exact False.elim P2
  | some row =>
    rw [hq] at P2
    have hq' := hq
    unfold atI at hq
    cases hi : ixN ass.length q with
    | none =>
      rw [hi] at hq
      cases hq
    | some w =>
      rw [hi] at hq
      obtain ⟨v2, f, k1, k2, ⟨l2, ws, k3, k4, k5, k6, k7⟩⟩ := RepsO.get e6 hq
      subst k3 k4
      have E2 := E1.step g2
      have P2' : (mb >>= fun r => setM row r z >>= fun row' => setM ass q row' >>= k).post (fun w => OutP X.K S0 H0 cb eN eK D (I w)) (EX X.K (W σ) S0 H0) := P2
      refine ⟨l, vs, q, .ref l2, rfl, rfl, SqL.of (g2.ex _ _ e5), by unfold atI; rw [(RepsO.length e6).1, hi]; exact k1, qb S0 H0 σ S2 H2 _ E2 (R.post_mono (R.post_bind.mp P2') (fun r P3 u3 S3 H3 g3 r3 => ?_) (fun x q cl d S' H' g r => q cl d S' H' (E2.grow.trans g) r))⟩
      have eu : u3 = V.int r := r3
      subst eu
      have E3 := E2.step g3
      unfold setM at P3
      cases hx : ixN row.length r with
      | none =>
        rw [hx] at P3
        exact False.elim P3
      | some y =>
        rw [hx] at P3
        rw [hi] at P3
        have h6 : H3 l2 = some (.lst ws) := g3.ex _ _ (g2.ex _ _ k6)
        refine ⟨l2, ws, r, y, rfl, rfl, h6, by rw [k7.length]; exact hx, ?_⟩
        refine hr _ S0 H0 σ S3 _ D nx h (E3.mut (.refl E3.inn) hd fun v5 fp5 q1 q2 q3 => ?_) P3
        obtain ⟨l', vs', fs', t1, t2, t3, t4, t5, t6⟩ := q2
        rw [g1] at q1
        cases q1
        cases t1
        have e5' : H3 l = some (.lst vs) := g3.ex _ _ (g2.ex _ _ e5)
        rw [e5'] at t5
        cases t5
        obtain ⟨v6, f6, y1, y2, ⟨l6, ws6, z3, z4, z5, z6, z7⟩⟩ := RepsO.get t6 hq
        rw [k1] at y1
        cases y1
        cases z3
        subst z4
        rw [h6] at z6
        cases z6
        have nd := (List.nodup_cons.mp t3)
        have nl : l2 ≠ l := fun zz => nd.1 (by rw [← zz]; exact List.mem_flatten.mpr ⟨[l2], List.mem_of_getElem? y2, List.mem_singleton.mpr rfl⟩)
        refine ⟨fp5, ⟨l, vs, fs', rfl, t2, t3, t4, by rw [upd_ne (Ne.symm nl)]; exact e5', RepsO.upd (o := oL c) (v := .ref l2) (f := [l2]) (show (oL c).rep X.K S3 (upd H3 l2 (.lst (ws.set y v))) (.ref l2) (row.set y z) [l2] from ⟨l2, ws.set y v, rfl, rfl, z5, upd_same, Reps.set (c.mono (g2.st.trans g3.st) r1) y z7⟩) (fun p hp => upd_ne fun zz => hp (List.mem_singleton.mpr zz)) t6 nd.2 k1 y2⟩, fun p hp => .inl (upd_ne fun zz => hp ?_), fun p hp => .inl hp⟩
        rw [t2, zz]
        exact List.mem_cons_of_mem _ (List.mem_flatten.mpr ⟨[l2], List.mem_of_getElem? y2, List.mem_singleton.mpr rfl⟩)
/-- what slot i holds settles -/
theorem settleO (i : Nat) {o : OC α} {a : α} (hd : ds.get i = .ow α o a := by rfl) (hr : DS X W T (ds.put i (.st α o.c a)) sts cb eN eK I n) : DS X W T ds sts cb eN eK I n := fun S0 H0 σ S H D nx h E P => by
  obtain ⟨S', hs, E'⟩ := E.freezeO hd
  exact hr S0 H0 σ S' H D nx h E' P
/-- list(x[a]), x's lists owned -/
theorem toLM {x : Str} {p1 p2 : Pos} {a : Expr} {ass : List (List α)} {ma : R Int} (i : Nat) (hm : X.mg "list" = none) (ha : DE X W ds a cI ma) (hd : ds.get i = .ow (List (List α)) (oN (oL c)) ass := by rfl) (hN : X.N[i]? = some x := by rfl)
    (hv : Vis X.env.scope x := by first | exact Or.inl rfl | exact Or.inr (Or.inl rfl) | exact Or.inr (Or.inr rfl)) (hdb : (x == ("__debug__" : Str)) = false := by decide) (hcd : (x == ("__classdict__" : Str)) = false := by decide) (hpa : PlainIx a := by exact fun _ _ => rfl) (hg : Gl X "list" := by rfl)
    (he : starEach (.Subscript (.Name x p1) a p2 :: []) X.env = (false, eval (.Subscript (.Name x p1) a p2) X.env) :: starEach [] X.env := by rfl) (hpl : (backTo pos (starEach [] X.env)).any (·.1) = false := by rfl) :
    DL X W ds (.Call (.Name "list" p) [.Subscript (.Name x p1) a p2] [] pos) c (ma >>= fun q => getM ass q) := by
  obtain ⟨ta, pa, qa⟩ := ha
  refine ⟨_, pe_callTy call_list_of hg hm (by decide +kernel) (pa_cons (pe_ix ix_list (pe_var hN hv hdb hcd) pa hpa) pa_nil he) (by decide) (by decide) he hpl, fun S0 H0 σ S H Q E P => ?_⟩
  obtain ⟨v, fp, h1, ⟨l, vs, fs, e1, e2, e3, e4, e5, e6⟩, h3⟩ := E.owv hd
  subst e1
  refine ⟨.ref l, h1, qa S0 H0 σ S H _ E (R.post_mono (R.post_bind.mp P) (fun q P1 u S1 H1 g1 r1 => ?_) (fun _ k => k))⟩
  have eu : u = V.int q := r1
  subst eu
  unfold getM at P1
  cases hq : atI ass q with
  | none =>
    rw [hq] at P1
    exact False.elim P1
  | some row =>
    rw [hq] at P1
    unfold atI at hq
    cases hi : ixN ass.length q with
    | none =>
      rw [hi] at hq
      cases hq
    | some w =>
      rw [hi] at hq
      obtain ⟨v2, f, k1, k2, ⟨l2, ws, k3, k4, k5, k6, k7⟩⟩ := RepsO.get e6 hq
      subst k3
      refine ⟨l, vs, q, .ref l2, rfl, rfl, SqL.of (g1.ex _ _ e5), by unfold atI; rw [(RepsO.length e6).1, hi]; exact k1, ?_⟩
      refine ⟨l2, ws, rfl, .inl (SqL.of (g1.ex _ _ k6)), fun l' hl => ?_⟩
      have g2 : Grow S1 H1 S1 (upd H1 l' (.lst ws)) := .lay' g1.inn hl
      exact P1 l' ws S1 _ (g1.trans g2) (g1.ex.free hl) (g1.inn.free hl) upd_same (Reps.mono g1.st k7)
/-! ### new owned values -/
/-- a new value that nothing else holds -/
def DLO (X : Cx) (W : WK) (ds : Env) (e : Expr) {α : Type} (o : OC α) (m : R α) : Prop :=
  ∃ t : TE, PE X e t ∧ ∀ S0 H0 σ S H (Q : VK), EnvOk X.K S0 H0 ds σ S H →
    m.post (fun a => ∀ v fp S' H', Grow S H S' H' → o.rep X.K S' H' v a fp → (∀ p ∈ fp, H p = none) → Q v H') (fun x => ∀ cl d S' H', Grow S H S' H' → repX X.K S' cl d x → W σ cl d H') → t σ H Q
theorem dlo {m : R (List α)} (h : DL X W ds e c m) : DLO X W ds e (oL c) m := by
  obtain ⟨t, p, q⟩ := h
  refine ⟨t, p, fun S0 H0 σ S H Q E P => q S0 H0 σ S H Q E (R.post_mono P (fun as k p vs S' H' g h1 h2 h3 r => ?_) (fun _ k => k))⟩
  exact k (.ref p) [p] S' H' g ⟨p, vs, rfl, rfl, h2, h3, r⟩ fun x hx => by rw [List.mem_singleton.mp hx]; exact h1
/-- x = a new value that will change -/
theorem asgO [kw : KW W] {x : Str} {pos' : Pos} {o : OC α} {k : α → R ω} (i : Nat) (sn : X.N.Nodup) (he : DLO X W ds e o m) (hr : ∀ z, DS X W T (ds.put i (.ow α o z)) rest cb eN eK I (k z)) (hi : X.N[i]? = some x := by rfl) (hx : Loc X.env.scope x := by first | exact Or.inl rfl | exact Or.inr rfl)
    (hs : swapsWith e (some (.Name x pos')) pos.line X.env = pure false := by rfl) (hf : X.fn x = true ∨ X.env.scope.names.lookup x = some .local := by first | exact .inl rfl | exact .inr rfl) : DS X W T ds (.Assign [.Name x pos'] e pos :: rest) cb eN eK I (m >>= k) := fun S0 H0 σ S H D nx h E P => by
  obtain ⟨W, rfl⟩ := kw.ex
  obtain ⟨te, pe, qe⟩ := he
  exact seq (ps_set (i := i) sn hi hx pe hs hf) (qe S0 H0 σ S H _ E (R.post_mono (R.post_bind.mp P) (fun z q v fp S' H' g r hn => hr z S0 H0 _ S' H' D nx h (E.putO g r hn) q) (fun x q cl d S' H' g r => q cl d S' H' (E.grow.trans g) r)))
end
section
variable {X : Cx} {W : WK} {ds : Env} {α β : Type} {elt tg iter : Expr} {scope : Scope} {c : Cd α} {o : OC β} {mi : R (List α)} {pos : Pos}
theorem DLO.w {e : Expr} {m : R β} (h : DLO X W ds e o m) {S0 H0 S H : Hp} {σ : L2.St} {Q : VK} (E : EnvOk X.K S0 H0 ds σ S H)
    (P : m.post (fun a => ∀ v fp S' H', Grow S H S' H' → o.rep X.K S' H' v a fp → (∀ p ∈ fp, H p = none) → Q v H') (fun x => ∀ cl d S' H', Grow S H S' H' → repX X.K S' cl d x → W σ cl d H')) : wE X e σ H Q := by
  obtain ⟨t, p, q⟩ := h
  exact fun pins s I => p.run pins s σ H Q I (q S0 H0 σ S H Q E P)
/-- [elt for tg in iter], the items new and owned -/
def DLcO (X : Cx) (W : WK) (ds : Env) (elt tg iter : Expr) (scope : Scope) {β : Type} (o : OC β) (m : R β) : Prop :=
  ∃ (wi : TI) (g : TG) (te : TE) (own : List (Str × Nat)), PI X tg iter wi ∧ BlkOk X.N X.env.scope scope own ∧ (∀ b : Blk, PG (blkX X scope b) tg g) ∧ (∀ b : Blk, PE (blkX X scope b) elt te) ∧
    ∀ S0 H0 σ S H (Q : VK), EnvOk X.K S0 H0 ds σ S H → m.post (fun a => ∀ v fp S' H', Grow S H S' H' → o.rep X.K S' H' v a fp → (∀ p ∈ fp, H p = none) → Q v H') (fun x => ∀ cl d S' H', Grow S H S' H' → repX X.K S' cl d x → W σ cl d H') → tLc wi g tYes te (own.map (·.2)) σ H Q
theorem dlcO {m : R (List β)} {o : OC (List β)} (sn : X.N.Nodup) (hc : X.calm = true) (h : DLcO X W ds elt tg iter scope o m) (hs : ∀ x, foldedSetIterable iter X.env x = pure x := by intro _; rfl) : DLO X W ds (.ListComp elt [⟨tg, iter, [], 0⟩] scope pos) o m := by
  obtain ⟨wi, g, te, own, pi, ok, pg, he, q⟩ := h
  exact ⟨_, pe_lc hc sn pi ok (fun s H C cl fp => pg (s, H, C, cl, fp)) (tt := tYes) (fun s H C cl fp => pts_nil) (fun s H C cl fp => he (s, H, C, cl, fp)) hs, q⟩
theorem lcO {f : α → R β} (own : List (Str × Nat)) (ok : BlkOk X.N X.env.scope scope own) (hi : DI X W ds tg iter c mi) {eB : α → Env} (hg : DGB X scope tg (own.map (·.2)) c (wipeD ds (own.map (·.2))) eB)
    (he : ∀ (b : Blk) a, DLO (blkX X scope b) (fun _ => E0) (eB a) elt o (f a)) : DLcO X W ds elt tg iter scope (oN o) (mi >>= fun as => mapM f as) := by
  obtain ⟨wi, pi, qi⟩ := hi
  obtain ⟨g, pg, qg⟩ := hg
  refine ⟨wi, g, tAnyE X scope elt, own, pi, ok, pg, fun b => ⟨fun pins s σ H Q I h => h b pins s I⟩, fun S0 H0 σ S H Q E P => ?_⟩
  refine qi S0 H0 σ S H _ E (R.post_mono (R.post_bind.mp P) (fun as k J S1 H1 g1 hJ => ?_) (fun _ k => k))
  intro D hD
  have E1 := E.step g1
  have hlen : as.length < 16000000 := by
    unfold mapM at k
    split at k
    · assumption
    · exact False.elim k
  unfold mapM at k
  rw [if_pos hlen] at k
  refine ⟨fun i m H' => m = as.length - i ∧ i ≤ as.length ∧ ∃ S' vs bs fs, Grow S1 H1 S' H' ∧ H' D = some (.lst vs) ∧ S' D = none ∧ RepsO o X.K S' H' vs bs fs ∧ (D :: fs.flatten).Nodup ∧ (∀ p ∈ fs.flatten, H1 p = none) ∧ bs.length ≤ i ∧
      (mapR f (as.drop i)).post (fun ys => ∀ v fp S' H', Grow S H S' H' → (oN o).rep X.K S' H' v (bs ++ ys) fp → (∀ p ∈ fp, H p = none) → Q v H') (fun x => ∀ cl d S' H', Grow S H S' H' → repX X.K S' cl d x → W σ cl d H'),
    ⟨as.length, rfl, Nat.zero_le _, S1, [], [], [], .lay' g1.inn hD, upd_same, g1.inn.free hD, trivial, by simp, by simp, Nat.le_refl _, by simpa using k⟩, ?_⟩
  rintro i m H2 ⟨rfl, hi, S2, vs, bs, fs, g2, h2, h3, r2, nd, fr, hb, k2⟩
  obtain ⟨j1, j2⟩ := hJ i S2 H2 g2.st g2.inn
  by_cases hlt : i < as.length
  · have ha : as[i]? = some as[i] := List.getElem?_eq_getElem hlt
    obtain ⟨n1, n2⟩ := j2 _ ha
    rw [List.drop_eq_getElem_cons hlt] at k2
    refine .inr ⟨n1, fun H' => ∃ S' vs bs fs, Grow S1 H1 S' H' ∧ H' D = some (.lst vs) ∧ S' D = none ∧ RepsO o X.K S' H' vs bs fs ∧ (D :: fs.flatten).Nodup ∧ (∀ p ∈ fs.flatten, H1 p = none) ∧ bs.length ≤ i + 1 ∧
      (mapR f (as.drop (i + 1))).post (fun ys => ∀ v fp S' H', Grow S H S' H' → (oN o).rep X.K S' H' v (bs ++ ys) fp → (∀ p ∈ fp, H p = none) → Q v H') (fun x => ∀ cl d S' H', Grow S H S' H' → repX X.K S' cl d x → W σ cl d H'),
      fun H' q => ⟨as.length - (i + 1), by omega, rfl, hlt, q⟩, fun x H3 y => ?_⟩
    obtain ⟨S3, g3, r3⟩ := n2 x H3 y
    have E3 := ((E1.step (g2.trans g3)).wipe (own.map (·.2)))
    refine qg _ x S0 H0 _ S3 H3 _ E3 r3 fun σ' hl ho EF => ⟨wipe_eq (by rw [hl, wipe_length]) ho, ?_⟩
    have E4 := EF S3 H3 (.refl _) E3
    unfold tYes
    dsimp only
    rw [if_pos rfl]
    intro b
    have k3 : (R.nox (f as[i]) >>= fun b => mapR f (as.drop (i + 1)) >>= fun bs => .ok (b :: bs)).post (fun ys => ∀ v fp S' H', Grow S H S' H' → (oN o).rep X.K S' H' v (bs ++ ys) fp → (∀ p ∈ fp, H p = none) → Q v H') (fun x => ∀ cl d S' H', Grow S H S' H' → repX X.K S' cl d x → W σ cl d H') := k2
    refine (he b as[i]).w (e := elt) (Q := fun y H4 => ∃ acc, H4 D = some (.lst acc) ∧ acc.length < sizeLine ∧ _) E4 (nox_post (R.post_mono (R.post_bind.mp k3) (fun w k5 v fp S6 H6 g6 r6 hn => ?_) (fun _ k => k)))
    have d3 : H3 D = some (.lst vs) := g3.ex _ _ h2
    have d6 : H6 D = some (.lst vs) := g6.ex _ _ d3
    have s6 : S6 D = none := (g3.trans g6).none h2 h3
    have g16 : Grow S1 H1 S6 H6 := g2.trans (g3.trans g6)
    have old := RepsO.dom r2
    have nD : ∀ p ∈ fs.flatten, p ≠ D := fun p hp z => (List.nodup_cons.mp nd).1 (by rw [← z]; exact hp)
    have nF : ∀ p ∈ fp, p ≠ D := fun p hp z => by
      have q := hn p hp
      rw [z, d3] at q
      cases q
    refine ⟨vs, d6, by rw [(RepsO.length r2).1]; exact Nat.lt_of_le_of_lt hb (Nat.lt_of_lt_of_le (Nat.lt_trans hlt hlen) (by decide)), S6, vs ++ [v], bs ++ [w], fs ++ [fp], ⟨g16.ex.mut hD, g16.st, g16.inn.mut s6, g16.new⟩, upd_same, s6,
      (RepsO.stay (g3.trans g6).st (fun p hp => ?_) r2).append (show RepsO o X.K S6 (upd H6 D (.lst (vs ++ [v]))) [v] [w] [fp] from ⟨o.stay (.refl _) (fun p hp => ⟨(o.dom r6 p hp).1, upd_ne (nF p hp)⟩) r6, trivial⟩), ?_, fun p hp => ?_, by rw [List.length_append]; exact Nat.succ_le_succ hb, ?_⟩
    · obtain ⟨q1, xs, q2⟩ := old p hp
      exact ⟨(g3.trans g6).none q2 q1, (upd_ne (nD p hp)).trans (((g3.trans g6).ex _ _ q2).trans q2.symm)⟩
    · rw [List.flatten_append, show List.flatten [fp] = fp by simp]
      refine List.nodup_cons.mpr ⟨fun z => ?_, List.nodup_append.mpr ⟨(List.nodup_cons.mp nd).2, o.nd r6, fun a ha b hb z => ?_⟩⟩
      · rcases List.mem_append.mp z with z | z
        · exact nD D z rfl
        · exact nF D z rfl
      · obtain ⟨_, xs, q2⟩ := old a ha
        have q := hn b hb
        rw [← z, g3.ex _ _ q2] at q
        cases q
    · rw [List.flatten_append, List.mem_append] at hp
      rcases hp with hp | hp
      · exact fr p hp
      · have hp' : p ∈ fp := by simpa using hp
        exact (g2.trans g3).ex.free (hn p hp')
    · refine R.post_mono (R.post_bind.mp k5) (fun ys k6 v fp S' H' g' h1 r => k6 v fp S' H' g' ?_ r) (fun _ k => k)
      rw [List.append_assoc] at h1
      exact h1
  · have e : i = as.length := by omega
    subst e
    rw [List.drop_length] at k2
    have q := k2 (.ref D) (D :: fs.flatten) S2 H2 (g1.trans g2) (by rw [List.append_nil]; exact ⟨D, vs, fs, rfl, rfl, nd, h3, h2, r2⟩) (fun p hp => by
      rcases List.mem_cons.mp hp with z | z
      · rw [z]; exact g1.ex.free hD
      · exact g1.ex.free (fr p z))
    exact .inl ⟨j1 (Nat.le_refl _), q⟩
end
section
variable {X : Cx} {W : WK} {T : Bool} {ds : Env} {α β ν κ ω : Type} {elt tg iter : Expr} {scope : Scope} {rest : List Stmt} {pos : Pos} {o : OC α} {cb : RCd β} {eN : ν → Env} {eK : κ → Env} {I : ω → Out β ν κ} {m : R α} {k : α → R ω}
/-- x = [..], the items owned -/
theorem asgOc [kw : KW W] {y : Str} {py spos : Pos} (i : Nat) (sn : X.N.Nodup) (hc : X.calm = true) (he : DLcO X W ds elt tg iter scope o m) (hr : ∀ z, DS X W T (ds.put i (.ow α o z)) rest cb eN eK I (k z)) (hy : X.N[i]? = some y := by rfl) (hyl : X.env.scope.names.lookup y = some .local := by rfl)
    (hsw : swapsWith (.ListComp elt [⟨tg, iter, [], 0⟩] scope pos) (some (.Name y py)) spos.line X.env = pure true := by exact sw_true rfl rfl rfl (by decide +kernel)) (hs : ∀ x, foldedSetIterable iter X.env x = pure x := by intro _; rfl) :
    DS X W T ds (.Assign [.Name y py] (.ListComp elt [⟨tg, iter, [], 0⟩] scope pos) spos :: rest) cb eN eK I (m >>= k) := fun S0 H0 σ S H D nx h E P => by
  obtain ⟨W, rfl⟩ := kw.ex
  obtain ⟨wi, g, te, own, pi, ok, pg, hel, q⟩ := he
  refine seq (ps_setLc (i := i) hc sn hy hyl hsw pi ok (fun s H C cl fp => pg (s, H, C, cl, fp)) (tt := tYes) (fun s H C cl fp => pts_nil) (fun s H C cl fp => hel (s, H, C, cl, fp)) hs) ?_
  exact q S0 H0 σ S H _ E (R.post_mono (R.post_bind.mp P) (fun z q v fp S' H' g r hn => hr z S0 H0 _ S' H' D nx h (E.putO g r hn) q) (fun x q cl d S' H' g r => q cl d S' H' (E.grow.trans g) r))
end
end Zk
set_option maxHeartbeats 4000000
/-! # Zk: lists joined, repeated -/
namespace Zk
open PySem PySem.Spec PyProof.Rows L2
section
variable {X : Cx} {W : WK} {ds : Env} {α β γ τ : Type} {a b e : Expr} {es : List Expr} {pos p : Pos} {c : Cd α}
def rCatS (K : PySem.W.Frag) : R2 := fun x y H Q => ∃ l r xs zs, x = .ref l ∧ y = .ref r ∧ SqL K H l xs ∧ SqL K H r zs ∧ xs.length + zs.length ≤ sizeLine ∧ ∀ q, H q = none → Q (.ref q) (upd H q (.lst (xs ++ zs)))
theorem op_catS : OpR X (binaryOp .Add) (rCatS X.K) := by
  intro pins s σ H x y v u Q I rx ry h
  obtain ⟨l, r, xs, zs, rfl, rfl, h1, h2, hz, k⟩ := h
  cases rx
  cases ry
  obtain ⟨i1, v1, ⟨⟨k1, d1, t1, s1⟩, n1, g1, c1, e1, f1⟩, z1⟩ := I.list h1
  obtain ⟨i2, v2, ⟨⟨k2, d2, t2, s2⟩, n2, g2, c2, e2, f2⟩, z2⟩ := I.list h2
  simp only at c1 e1 f1 c2 e2 f2
  subst c1 e1 f1 c2 e2 f2
  have l1 := v1.length
  have l2 := v2.length
  refine concat_meets ⟨_, g1, rfl⟩ ⟨_, g2, rfl⟩ noFill_list_add seq_list_add PySem.F.slot_list_add PySem.F.entry_list_add (PySem.F.args_list_add_2 _ _)
    (list_addW l r i1.toArray i2.toArray n1 n2 _ _ s1 s2 (by rw [List.size_toArray, List.size_toArray]; omega)) ⟨g1, g2, ?_⟩
  rw [show i1.toArray ++ i2.toArray = (i1 ++ i2).toArray from by simp]
  exact ⟨.ref _, _, I.lnew (t' := s.toks) (v1.append v2) (by rw [List.length_append]; omega), rfl, k _ I.fresh⟩
/-- a new list from two readings -/
theorem cat {m1 m2 : R (List α)} (ha : DE X W ds a (cL c) m1) (hb : DE X W ds b (cL c) m2) : DL X W ds (.BinOp a .Add b pos) c (m1 >>= fun x => m2 >>= fun y => catM x y) := by
  obtain ⟨ta, pa, qa⟩ := ha
  obtain ⟨tb, pb, qb⟩ := hb
  refine ⟨_, pe_op op_catS pa pb, fun S0 H0 σ S H Q E P => qa S0 H0 σ S H _ E (R.post_mono (R.post_bind.mp P) (fun x P1 v S1 H1 g1 r1 => qb S0 H0 σ S1 H1 _ (E.step g1) (R.post_mono (R.post_bind.mp P1) (fun y P2 u S2 H2 g2 r2 => ?_) (fun _ k cl d S' H' g r => k cl d S' H' (g1.trans g) r))) (fun _ k => k))⟩
  obtain ⟨p1, xs, rfl, h1, k1⟩ := (cL c).mono g2.st r1
  obtain ⟨p2, zs, rfl, h2, k2⟩ := r2
  obtain ⟨hz, P3⟩ := R.guard_post P2
  refine ⟨p1, p2, xs, zs, rfl, rfl, Same.seq g2.inn h1, Same.seq g2.inn h2, ?_, fun q hq => ?_⟩
  · rw [k1.length, k2.length]
    exact Nat.le_trans (Nat.le_of_lt hz) (by decide)
  · have g3 : Grow S2 H2 S2 (upd H2 q (.lst (xs ++ zs))) := .lay' g2.inn hq
    have g12 := g1.trans g2
    exact P3 q (xs ++ zs) S2 _ (g12.trans g3) (g12.ex.free hq) (g2.inn.free hq) upd_same (k1.append k2)
theorem cat_pp {x y : List α} (ha : DE X W ds a (cL c) (.ok x)) (hb : DE X W ds b (cL c) (.ok y)) : DL X W ds (.BinOp a .Add b pos) c (catM x y) := cat ha hb
theorem cat_pm {x : List α} {m2 : R (List α)} (ha : DE X W ds a (cL c) (.ok x)) (hb : DE X W ds b (cL c) m2) : DL X W ds (.BinOp a .Add b pos) c (m2 >>= fun y => catM x y) := cat ha hb
theorem cat_mp {y : List α} {m1 : R (List α)} (ha : DE X W ds a (cL c) m1) (hb : DE X W ds b (cL c) (.ok y)) : DL X W ds (.BinOp a .Add b pos) c (m1 >>= fun x => catM x y) := cat ha hb
theorem cat_mm {m1 m2 : R (List α)} (ha : DE X W ds a (cL c) m1) (hb : DE X W ds b (cL c) m2) : DL X W ds (.BinOp a .Add b pos) c (m1 >>= fun x => m2 >>= fun y => catM x y) := cat ha hb
theorem reps_rep {K : PySem.W.Frag} {S : Hp} {vs : List V} {as : List α} (r : Reps c K S vs as) : ∀ n : Nat, Reps c K S (List.replicate n vs).flatten (List.replicate n as).flatten
  | 0 => trivial
  | n + 1 => by
    rw [List.replicate_succ, List.replicate_succ, List.flatten_cons, List.flatten_cons]
    exact r.append (reps_rep r n)
/-- a new list of so many copies of a new list's items -/
theorem rep {m1 : R (List α)} {m2 : R Int} (ha : DL X W ds a c m1) (hb : DE X W ds b cI m2) : DL X W ds (.BinOp a .Mult b pos) c (m1 >>= fun x => m2 >>= fun y => repM x y) := by
  obtain ⟨ta, pa, qa⟩ := ha
  obtain ⟨tb, pb, qb⟩ := hb
  refine ⟨_, pe_op op_rep pa pb, fun S0 H0 σ S H Q E P => qa S0 H0 σ S H _ E (R.post_mono (R.post_bind.mp P) (fun x P1 l vs S1 H1 g1 n1 n2 e1 r1 => qb S0 H0 σ S1 H1 _ (E.step g1) (R.post_mono (R.post_bind.mp P1) (fun y P2 u S2 H2 g2 r2 => ?_) (fun _ k cl d S' H' g r => k cl d S' H' (g1.trans g) r))) (fun _ k => k))⟩
  have eu : u = V.int y := r2
  subst eu
  obtain ⟨⟨z1, z2, z3⟩, P3⟩ := R.guard_post P2
  refine ⟨l, y, vs, rfl, rfl, g2.ex _ _ e1, by omega, by omega, ?_, fun q hq => ?_⟩
  · rw [r1.length]
    exact Nat.le_trans (Nat.le_of_lt z3) (by decide)
  · have g3 : Grow S2 H2 S2 (upd H2 q (.lst (List.replicate y.toNat vs).flatten)) := .lay' g2.inn hq
    have g12 := g1.trans g2
    exact P3 q _ S2 _ (g12.trans g3) (g12.ex.free hq) (g2.inn.free hq) upd_same (reps_rep (Reps.mono g2.st r1) _)
theorem rep_pp {x : List α} {y : Int} (ha : DL X W ds a c (.ok x)) (hb : DE X W ds b cI (.ok y)) : DL X W ds (.BinOp a .Mult b pos) c (repM x y) := rep ha hb
theorem rep_pm {x : List α} {m2 : R Int} (ha : DL X W ds a c (.ok x)) (hb : DE X W ds b cI m2) : DL X W ds (.BinOp a .Mult b pos) c (m2 >>= fun y => repM x y) := rep ha hb
theorem rep_mp {y : Int} {m1 : R (List α)} (ha : DL X W ds a c m1) (hb : DE X W ds b cI (.ok y)) : DL X W ds (.BinOp a .Mult b pos) c (m1 >>= fun x => repM x y) := rep ha hb
theorem rep_mm {m1 : R (List α)} {m2 : R Int} (ha : DL X W ds a c m1) (hb : DE X W ds b cI m2) : DL X W ds (.BinOp a .Mult b pos) c (m1 >>= fun x => m2 >>= fun y => repM x y) := rep ha hb
end
end Zk
set_option maxHeartbeats 4000000
/-! # Zk: exceptions: raise, try .. except X as e, isinstance of what was caught -/
namespace Zk
open PySem PySem.Spec PyProof.Rows L2
/-! ### what the text's classes must say -/
/-- an own class of exceptions below ValueError -/
structure XCls (K : PySem.W.Frag) (x : Str) : Prop where
  inn : PySem.W.excIn K (He.ga K x) He.veBase "ValueError.__new__" = true
  kp : PySem.W.keepIn K (.ref (He.ga K x)) = true
  sub : PySem.W.subIn K (.ref (He.ga K x)) (.type "BaseException") = some true
  ty : PySem.W.typeIn K (.ref (He.ga K x)) = some (.type "type")
theorem excB_ok {K : PySem.W.Frag} {x : Str} (h : excB K x = true) : XCls K x := by
  obtain ⟨h1, h2, h3, h4⟩ := He.exc_ok h
  exact ⟨h1, h2, h3, h4⟩
/-- isinstance asks instances of this class rightly -/
theorem excCB_ok {K : PySem.W.Frag} {x : Str} (h : excCB K x = true) : ExcC K (He.ga K x) := by
  obtain ⟨h1, h⟩ := He.ba h
  obtain ⟨h2, h⟩ := He.ba h
  obtain ⟨h3, h⟩ := He.ba h
  obtain ⟨h4, h⟩ := He.ba h
  obtain ⟨h5, h⟩ := He.ba h
  obtain ⟨h6, h⟩ := He.ba h
  obtain ⟨h7, h8⟩ := He.ba h
  exact ⟨He.eqO_ok h1, He.eqO_ok h2, of_decide_eq_true h3, h4, He.eqO_ok h5, He.eqO_ok h6, of_decide_eq_true h7, of_decide_eq_true h8⟩
/-- a table: of each class whether the clause takes it -/
theorem lookup_mem {t : XTab} {x : Str} {b : Bool} (h : t.lookup x = some b) : (x, b) ∈ t := PySem.mem_of_lookup h
theorem exmB_ok {K : PySem.W.Frag} {c : Value} {t : XTab} (h : exmB K c t = true) {x : Str} {b : Bool} (e : t.lookup x = some b) : PySem.W.exmOne K (.ref (He.ga K x)) c = some b :=
  of_decide_eq_true (List.all_eq_true.mp h (x, b) (lookup_mem e))
theorem kitB_ok {K : PySem.W.Frag} {c : Value} {t : XTab} (h : kitB K c t = true) {x : Str} {b : Bool} (e : t.lookup x = some b) : ExcC K (He.ga K x) ∧ PySem.W.kitOne K (.ref (He.ga K x)) c = some b := by
  obtain ⟨h1, h2⟩ := He.ba (List.all_eq_true.mp h (x, b) (lookup_mem e))
  exact ⟨excCB_ok h1, of_decide_eq_true h2⟩
/-! ### raise -/
section
variable {X : Cx} {W : WK} {T : Bool} {ds : Env} {β ν κ ω : Type} {rest : List Stmt} {pos p pos' : Pos} {cb : RCd β} {eN : ν → Env} {eK : κ → Env} {I : ω → Out β ν κ}
theorem pmk0 {x : Str} (c : XCls X.K x) (gC : X.mg x = some (.ref (He.ga X.K x))) (hg : Gl X x := by rfl) (hdb : (x == ("__debug__" : Str)) = false := by decide) : L2N.PMk X (.Call (.Name x p) [] [] pos) (fun _ H Q => Q (.ref (He.ga X.K x)) none H) := fun pins s σ H Q I h => by
  refine wpAny_Call_Name_kw (ld_glob I hg gC (PySem.W.callWith_K0 I.kIn c.kp ?_) hdb)
  obtain ⟨bm, N, nm, qn, bs, hdct, sn, sub, ab, col, dd, k0, k1, k2, k3, k5, mN, hC, hN, hni, tl⟩ := exc_obj I.kIn c.inn
  exact wpAny_call_exc_subT PySem.F.excBase_ValueError tl hC hN hni (fun h' e hm => L2N.mk_of I hm (raises_own c.sub c.ty) h (I.hok.gone hm.new)) (Nat.zero_le _)
/-- raise X() -/
theorem raise0 {x : Str} (c : XCls X.K x) (gC : X.mg x = some (.ref (He.ga X.K x))) (hp : Lets X W) (hc : X.calm = true := by rfl) (hg : Gl X x := by rfl) (hdb : (x == ("__debug__" : Str)) = false := by decide) :
    DS X W T ds (.Raise (some (.Call (.Name x p) [] [] pos')) none pos :: rest) cb eN eK I (.exn ⟨x, []⟩) := fun S0 H0 σ S H D nx h E P => by
  have P1 : EX X.K (W σ) S0 H0 ⟨x, []⟩ := P
  exact seq (L2N.ps_raise hc hp (pmk0 c gC hg hdb)) (P1 _ _ S H E.grow ⟨rfl, .inl ⟨rfl, rfl⟩⟩)
end
/-! ### try: .. except X as e: .. -/
/-- no slot owns a thing -/
def NoOw : Env → Prop
  | [] => True
  | .ow _ _ _ :: _ => False
  | _ :: ds => NoOw ds
theorem NoOw.get : ∀ {ds : Env} (i : Nat), NoOw ds → ∀ α o a, ds.get i ≠ .ow α o a
  | [], _, _, _, _, _ => fun z => nomatch z
  | .none :: _, 0, _, _, _, _ => fun z => nomatch z
  | .st _ _ _ :: _, 0, _, _, _, _ => fun z => nomatch z
  | .none :: ds, i + 1, h, α, o, a => NoOw.get (ds := ds) i h α o a
  | .st _ _ _ :: ds, i + 1, h, α, o, a => NoOw.get (ds := ds) i h α o a
  | .ow _ _ _ :: _, _, h, _, _, _ => h.elim
section
variable {K : PySem.W.Frag} {S0 H0 S H S1 H1 : Hp} {ds : Env} {σ : L2.St}
/-- a new base -/
theorem EnvOk.here (E : EnvOk K S0 H0 ds σ S H) (n : NoOw ds) : EnvOk K S H ds σ S H := by
  obtain ⟨fp, h1, h2⟩ := E.own
  refine ⟨E.len, ⟨fun _ => [], fun i => ?_, fun i j p hi => by simp at hi⟩, .refl E.inn⟩
  have q := h1 i
  cases e : ds.get i with
  | none => exact rfl
  | st α c a =>
    rw [e] at q
    exact ⟨rfl, q.2⟩
  | ow α o a => exact (n.get i α o a e).elim
theorem EnvOk.under (g : Grow S0 H0 S1 H1) (E : EnvOk K S1 H1 ds σ S H) : EnvOk K S0 H0 ds σ S H := by
  obtain ⟨fp, h1, h2⟩ := E.own
  refine ⟨E.len, ⟨fp, fun i => ?_, h2⟩, g.trans E.grow⟩
  have q := h1 i
  cases e : ds.get i with
  | none => rw [e] at q; exact q
  | st α c a => rw [e] at q; exact q
  | ow α o a =>
    rw [e] at q
    exact ⟨q.1, fun p hp => g.ex.free (q.2 p hp)⟩
end
/-- the exception that is handled: q -/
def cE (q : Addr × Obj) : Cd Exn := ⟨fun K H v y => v = .ref q.1 ∧ q.2.cls = .ref (He.ga K y.cls) ∧ repFs K H q.2.dict y.fs, fun e h => ⟨h.1, h.2.1, h.2.2.mono e⟩⟩
def tryR {ω : Type} (m : R ω) (t : XTab) (f : Exn → R ω) : R ω := match m with
  | .ok a => .ok a
  | .exn x => (match t.lookup x.cls with
    | some true => R.nox (f x)
    | some false => .exn x
    | none => .stuck)
  | .stuck => .stuck
section
variable {X : Cx} {W : WK} {T : Bool} {ds : Env} {β ν κ ω σ' : Type} {body suite rest : List Stmt} {b₀ : Stmt} {pos pos' np : Pos} {cb : RCd β} {eN : ν → Env} {eK : κ → Env} {I : ω → Out β ν κ} {x n : Str} {c : Value}
/-- nothing leaves by break or continue -/
abbrev eE : Empty → Env := fun e => nomatch e
theorem tryAs [kw : KW W] {eJ : σ' → Env} {mb : R (Out β σ' Empty)} {t : XTab} {f : Exn → R (Out β σ' Empty)} {kJ : Out β σ' Empty → R ω} (i : Nat) (sn : X.N.Nodup) (hc : Names X x c) (ht : exmB X.K c t = true) (tk : Lets X W) (no : NoOw ds)
    (hb : ∀ (pn : List (Addr × Obj)) (xe : Value → Shared → Prop) (W' : WK), Lets (X.tr pn xe) W' → PassesOwn (model X.prog X.w) X.A X.env xe → DS (X.tr pn xe) W' false ds body cb eJ eE (fun o => o) mb)
    (hsu : ∀ (y : Exn) (a : Addr) (oe : Obj) (cls : Value) (d : Option Addr) (pn : List (Addr × Obj)), L2N.Zn cls d oe → (∃ vs, oe.data = .fields vs) → DS (X.suite a ((a, oe) :: pn)) (fun _ => E0) false (ds.put i (.st Exn (cE (a, oe)) y)) (b₀ :: suite) cb eJ eE (fun o => o) (f y))
    (hr : ∀ s, DS X W T (eJ s) rest cb eN eK I (kJ (.nxt s))) (ho : ∀ b, ∃ w, kJ (.ret b) = .ok w ∧ I w = .ret b) (hJ : ∀ s, EnvLe ((eJ s).put i .none) (eJ s))
    (hcb : ∀ H0 H K S v b, Same H0 H → (cb H).rep K S v b → (cb H0).rep K S v b := by intro _ _ _ _ _ _ _ h; exact h)
    (hs : X.stack = X.env :: X.outer := by rfl) (hf : X.env.frame = some X.env.locals := by rfl) (hi : X.N[i]? = some n := by rfl) (hln : X.env.kindOf n = some .local := by rfl) :
    DS X W T ds (.Try body [.ExceptHandler (some (.Name x np)) (some n) (b₀ :: suite) pos'] [] [] pos :: rest) cb eN eK I (tryR mb t f >>= kJ) := fun S0 H0 σ S H D nx h E P => by
  obtain ⟨W, rfl⟩ := kw.ex
  have E1 := E.here no
  refine seq (L2N.ps_try_as (Wout := fun cl d _ H => W cl d H) (tb := fun Wx D σ H => ∀ pn xe, L2N.Takes (X.tr pn xe) Wx → PassesOwn (model X.prog X.w) X.A X.env xe → tS (X.tr pn xe) body D σ H)
    (ts := fun a cls d D σ H => ∀ oe pn, L2N.Zn cls d oe → (∃ vs, oe.data = .fields vs) → tS (X.suite a ((a, oe) :: pn)) (b₀ :: suite) D σ H) hs hf sn hi hln hc tk
    (fun Wx pn xe tk' po => ⟨fun pins s σ H D I h => (pss_tS (X := X.tr pn xe)).run pins s σ H D I (h pn xe tk' po)⟩)
    (fun a oe cls d pn hz hv => ⟨fun pins s σ H D I h => (pss_tS (X := X.suite a ((a, oe) :: pn))).run pins s σ H D I (h oe pn hz hv)⟩)) ?_
  have back : ∀ (o : Out β σ' Empty), (kJ o).post (fun w => OutP X.K S0 H0 cb eN eK D (I w)) (EX X.K W S0 H0) →
      (∀ b, o = .ret b → ∀ v S' H', Grow S H S' H' → (cb H).rep X.K S' v b → D.rt v H') ∧ ∀ s, o = .nxt s → ∀ σ' S' H', EnvOk X.K S H (eJ s) σ' S' H' → tS X rest { D with nx := nx } σ' H' := fun o q => by
    refine ⟨fun b e v S' H' g r => ?_, fun s e σ' S' H' E' => ?_⟩
    · subst e
      obtain ⟨w, e1, e2⟩ := ho b
      rw [e1] at q
      have q1 : OutP X.K S0 H0 cb eN eK D (I w) := q
      rw [e2] at q1
      exact q1 v S' H' (E.grow.trans g) (hcb _ _ _ _ _ _ E.grow.ex r)
    · subst e
      exact hr s S0 H0 σ' S' H' D nx h (E'.under E.grow) q
  intro pn xe tk' po
  refine hb pn xe (fun σ cl d H => wAs X.K c i _ (fun cl d _ H => W cl d H) { D with nx := tS X rest { D with nx := nx } } cl d σ H) tk' po S H σ S H { D with nx := tS X rest { D with nx := nx } } _ (.inr rfl) E1 ?_
  cases mb with
  | stuck => exact False.elim P
  | ok o =>
    obtain ⟨b1, b2⟩ := back o P
    cases o with
    | ret b => exact b1 b rfl
    | nxt s => exact b2 s rfl
    | brk s => exact nomatch s
    | ctn s => exact nomatch s
  | exn y =>
    intro cl d S' H' g r
    have P1 : ((match t.lookup y.cls with
      | some true => R.nox (f y)
      | some false => .exn y
      | none => .stuck) >>= kJ).post (fun w => OutP X.K S0 H0 cb eN eK D (I w)) (EX X.K W S0 H0) := P
    have ecl : cl = .ref (He.ga X.K y.cls) := r.1
    cases hl : t.lookup y.cls with
    | none =>
      rw [hl] at P1
      exact False.elim P1
    | some z =>
      rw [hl] at P1
      have he := exmB_ok ht hl
      rw [← ecl] at he
      cases z with
      | false => exact ⟨false, he, (fun z => nomatch z), fun _ => P1 cl d S' H' (E.grow.trans g) r⟩
      | true =>
        refine ⟨true, he, fun _ a ha oe pn' hz hv => ?_, fun z => nomatch z⟩
        have P2 := nox_post (E' := EX X.K E0 S H) (R.post_bind.mp P1)
        refine hsu y a oe cl d pn' hz hv S H _ S' H' { nx := fun σ' H' => tS X rest { D with nx := nx } (σ'.set i none) H', rt := D.rt, bk := fun σ' H' => D.bk (σ'.set i none) H', ct := fun σ' H' => D.ct (σ'.set i none) H' } _ (.inr rfl) ((E1.step g).putS (c := cE (a, oe)) (a := y) ⟨rfl, hz.1.trans r.1, by rw [hz.2.1]; exact r.2⟩) (R.post_mono P2 (fun o q => ?_) (fun _ q => q))
        obtain ⟨b1, b2⟩ := back o q
        cases o with
        | ret b => exact b1 b rfl
        | nxt s => exact fun σ2 S2 H2 E2 => b2 s rfl _ S2 H2 (E2.putN.le (hJ s))
        | brk s => exact nomatch s
        | ctn s => exact nomatch s
end
/-! ### isinstance of what was caught -/
def rIsF (K : PySem.W.Frag) (q : Addr × Obj) : List V → Hp → VK → Prop := fun xs H Q => ∃ D c cv b, xs = [.ref q.1, c] ∧ q.2.cls = .ref D ∧ ExcC K D ∧ (q.2.dict = none ∨ ∃ dd fs, q.2.dict = some dd ∧ H dd = some (.xd fs)) ∧ (∀ u, RelV c u → u = cv) ∧ PySem.W.kitOne K (.ref D) cv = some b ∧ Q (.bl b) H
theorem call_isP {X : Cx} {q : Addr × Obj} (hf : ∃ vs, q.2.data = .fields vs) (hp : q ∈ X.pn) : CallR X (.builtin "isinstance") (rIsF X.K q) := fun pins s σ H xs us Q I r h => by
  obtain ⟨D, c, cv, b, rfl, hc, C, hd, hcv, e, qq⟩ := h
  obtain ⟨u1, us', rfl, r1, r2⟩ : ∃ u1 us', us = u1 :: us' ∧ RelV (.ref q.1) u1 ∧ Vals [c] us' := by
    cases r with
    | cons r1 r2 => exact ⟨_, _, rfl, r1, r2⟩
  obtain ⟨u2, rfl, r3⟩ := vals1 r2
  obtain rfl : u1 = .ref q.1 := r1
  obtain rfl := hcv _ r3
  have hg := (I.pin q (List.mem_append_left _ hp)).1
  obtain ⟨vs, hv⟩ := hf
  have J : ∃ od, PySem.W.InstAt s.heap q.1 q.2 D od := by
    rcases hd with z2 | ⟨dd, fs, z2, hh⟩
    · exact ⟨none, hg, hc, by unfold PySem.W.notCls; rw [hv] <;> rfl, by rw [z2]; trivial⟩
    · obtain ⟨mA, hns, hr⟩ := (show ObjOk X.prog X.w H s.heap dd (.xd fs) from I.hok dd _ hh)
      obtain ⟨od, ho, _⟩ := lookIn_ns hns
      exact ⟨some od, hg, hc, by unfold PySem.W.notCls; rw [hv] <;> rfl, by rw [z2]; exact ho⟩
  obtain ⟨od, J⟩ := J
  exact PySem.W.kia_one (PySem.W.kitx_exc (by obtain ⟨cd, hc, _⟩ := PySem.W.any_some C.hd; rw [hc]; rfl) C.hg C.hk C.hs C.ha C.hn C.ht C.hm) I.kIn J e (fun z => nomatch z) fun tk => ⟨.bl b, H, I.kept (t' := tk) fun _ _ z => z, rfl, qq⟩
/-- is it of this class? -/
def isR (t : XTab) (y : Exn) : R Bool := match t.lookup y.cls with
  | some b => .ok b
  | none => .stuck
end Zk
set_option maxHeartbeats 4000000
/-! # Zk: defs called while an exception is handled; what was caught may be handed on -/
namespace Zk
open PySem PySem.Spec PyProof.Rows L2 L2H
/-- what a def promises where p's exception is handled -/
structure FnX (P : Program) (w : World) (K : PySem.W.Frag) (mg : Str → Option Value) (base : Heap) (k : Nat) (f : Addr) (fd : FuncData) (ps : List Str) (sp : Addr × Obj → Sp) : Prop where
  len : ∀ p vs H Q E, sp p vs H Q E → vs.length = ps.length
  run : ∀ (p : Addr × Obj) (A : Around) (outer : List PySem.Env) (s : Shared) (H : Hp) (args : Args) (us : List Value) (vs : List V) (Q : VK) (E : XK), RoomH k A → Hot1 A p → PinOk outer H s p → Env0 P w K mg base A outer s H → BindsTo s fd args (ps.zip us) → Vals vs us → sp p vs H Q E →
    codeAny (model P w) A (.call (.ref f) args) (CR (L2N.CX P w) outer P w H s Q E) s
/-- what is known of the handled exception -/
structure Held1 (p : Addr × Obj) : Prop where
  ex : ∃ cls d, L2N.Zn cls d p.2 ∧ ∃ us, p.2.data = .fields us
/-- the handled exception, where X runs -/
structure HotX (X : Cx) (q : Addr × Obj) : Prop where
  hot : Hot1 X.A q
  mem : q ∈ X.pn
  held : Held1 q
theorem HotX.c {X : Cx} {q : Addr × Obj} (h : HotX X q) : HotC X := ⟨q, h.hot, h.mem⟩
def spX {τ γ : Type} (K : PySem.W.Frag) (ca : Addr × Obj → CA τ) (c : Cd γ) (F : τ → R γ) : Addr × Obj → Sp := fun p vs H Q E => ∃ S z, Same S H ∧ (ca p).rep K S vs z ∧ Held1 p ∧ PX c K S H (F z) Q E
section
variable {P : Program} {w : World} {K : PySem.W.Frag} {mg : Str → Option Value} {base : Heap} {τ γ ν κ : Type}
theorem fx_mk {x qual : Str} {prs : Arguments} {body : List Stmt} {scope : Scope} {dvs : List V} {kws : List (Str × V)} {f : Addr} {fd : FuncData} {N ps : List Str} {k n : Nat} {ca : Addr × Obj → CA τ} {c : Cd γ} {F : τ → R γ} {eN : ν → Env} {eK : κ → Env}
    (D : FunD K x qual prs body scope dvs kws f fd) (S : FnScope N ps scope) (hn : ∀ a, (ca a).n = n) (hn2 : n = ps.length) (hl : n ≤ N.length)
    (hb : ∀ (cdv : Value) (A : Around) (outer : List PySem.Env) (s : Shared) (H : Hp) (E : XK) (p : Addr × Obj), RoomH k (A.deeper (envOfC qual scope s.heap.objs.size f cdv)) → HotX (cxH (L2N.CX P w) P w K mg base N qual scope f cdv A outer s H E p) p →
      Lets (cxH (L2N.CX P w) P w K mg base N qual scope f cdv A outer s H E p) (fun _ => E) → PassesOwn (model P w) (A.deeper (envOfC qual scope s.heap.objs.size f cdv)) (envOfC qual scope s.heap.objs.size f cdv) (cxH (L2N.CX P w) P w K mg base N qual scope f cdv A outer s H E p).xe →
      ∀ z, DS (cxH (L2N.CX P w) P w K mg base N qual scope f cdv A outer s H E p) (fun _ => E) true ((ca p).env z ++ List.replicate (N.length - n) .none) body (fun _ => c) eN eK (fun b => (.ret b : Out γ ν κ)) (F z)) :
    FnX P w K mg base (k + 1) f fd ps (spX K ca c F) := by
  have len : ∀ p vs H Q E, spX K ca c F p vs H Q E → vs.length = ps.length := fun p vs H Q E h => by
    obtain ⟨S, z, _, r, _⟩ := h
    rw [(ca p).len r, hn, hn2]
  obtain ⟨oc, od, dV, kV, doc, pm, an, cdv, ct, osl, rfl, lk, hcd, _, _⟩ := D.ex
  refine ⟨len, fun p A outer s H args us vs Q E hr hot hpin e0 hbd r hsp => ?_⟩
  have kin : K.In s.heap := e0.mod.kin.keeps fun b o e => (e0.bs b o e).1
  have nol : s.heap.NoLimit := e0.mod.nolimit.keeps fun b o e => (e0.bs b o e).1
  refine codeAny_call_function hr.depth (kin _ _ lk) rfl S.co S.gen rfl (PySem.W.codeRec_of kin hcd) (hbd _ _ _ _ ?_)
  refine wpAny_newFunctionEnv_cells S.kind (fun y hy => ?_) fun env he s1 x1 => ?_
  · rcases S.par y.1 (List.of_mem_zip hy).1 with q | q
    · exact .inl q
    · exact .inr ⟨q, PySem.W.cellsFrom_some _ _ _ (.inl q)⟩
  subst he
  refine ⟨nol.keeps x1.toInCall.keep, codeAny_func ?_⟩
  have lv := len p vs H Q E hsp
  obtain ⟨S1, z, i, rz, hy, Px⟩ := hsp
  have J : L2.Inv (cxH (L2N.CX P w) P w K mg base N qual scope f cdv A outer s H E p) [] (L2.start N vs) H s1 := inv_startH S hpin e0 lv r x1
  have tk : L2N.Takes (cxH (L2N.CX P w) P w K mg base N qual scope f cdv A outer s H E p) (fun cl d _ H => E cl d H) := L2N.takes_of rfl rfl rfl rfl
  have en := EnvOk.start (N := N) (H := H) ((ca p).sl rz) (by rw [(ca p).len rz, hn]; exact hl) i
  rw [(ca p).len rz, hn] at en
  have q := hb cdv A outer s H E p (hr.deeper _) ⟨hot, List.mem_cons_self, hy⟩ tk (passes_of rfl) z S1 H _ S1 H { nx := fun _ H' => Q .non H', rt := Q } (fun _ H' => Q .non H') (.inl rfl) en (R.post_mono Px (fun b q v S' H' g r => q v S' H' g r) (fun x q cl d S' H' g r => q cl d S' H' g r))
  refine wpAny_mono ((pss_tS (sts := body)).run [] s1 (L2.start N vs) H _ J q) (fun fl s' hs => ?_) fun e s' hs => hs
  cases fl with
  | ret u =>
    obtain ⟨v, σ', H', J', rv, q'⟩ := hs
    exact ⟨v, H', J'.os, J'.bare, J'.base, J'.hok, rv, q'⟩
  | next =>
    obtain ⟨σ', H', J', q'⟩ := hs
    exact ⟨V.non, H', J'.os, J'.bare, J'.base, J'.hok, rfl, q'⟩
  | brk =>
    obtain ⟨_, _, _, q'⟩ := hs
    exact False.elim q'
  | cont =>
    obtain ⟨_, _, _, q'⟩ := hs
    exact False.elim q'
structure FxI (P : Program) (w : World) (K : PySem.W.Frag) (mg : Str → Option Value) (base : Heap) (x : Str) (k : Nat) (ps : List Str) (ca : Addr × Obj → CA τ) (c : Cd γ) (F : τ → R γ) : Prop where
  ex : ∃ f fd, FnX P w K mg base k f fd ps (spX K ca c F) ∧ mg x = some (.ref f) ∧ PySem.W.keepIn K (.ref f) = true ∧ Binds K fd ps []
theorem fxi {x : Str} {f : Addr} {fd : FuncData} {ps : List Str} {k : Nat} {ca : Addr × Obj → CA τ} {c : Cd γ} {F : τ → R γ} (h : FnX P w K mg base k f fd ps (spX K ca c F)) (hm : mg x = some (.ref f)) (hk : PySem.W.keepIn K (.ref f) = true) (hb : Binds K fd ps []) : FxI P w K mg base x k ps ca c F := ⟨⟨f, fd, h, hm, hk, hb⟩⟩
end
section
variable {X : Cx} {W : WK} {ds : Env} {γ τ : Type} {e : Expr} {es : List Expr} {pos p : Pos} {c3 : Cd γ}
theorem callX {x : Str} {k : Nat} {ps : List Str} {ca : Addr × Obj → CA τ} {F : τ → R γ} {m : R τ} {n : R γ} {q : Addr × Obj} (f : FxI X.prog X.w X.K X.mg X.base x k ps ca c3 F) (hr : RoomH k X.A) (hx : HotX X q) (hp : Lets X W) (ha : DA X W ds (e :: es) (ca q) m) (hn : n = (m >>= F) := by rfl) (hg : Gl X x := by rfl)
    (hdb : (x == ("__debug__" : Str)) = false := by decide) (he : starEach (e :: es) X.env = (false, eval e X.env) :: starEach es X.env := by rfl) (hpl : (backTo pos (starEach es X.env)).any (·.1) = false := by rfl) : DE X W ds (.Call (.Name x p) (e :: es) [] pos) c3 n := by
  obtain ⟨f, fd, F1, h1, h2, h3⟩ := f.ex
  obtain ⟨t, pa, q1⟩ := ha
  subst hn
  refine ⟨fun σ H Q => t σ H fun vs H1 => spX X.K ca c3 F q vs H1 Q (W σ), ⟨fun pins s σ H Q I h => ?_⟩, fun S0 H0 σ S H Q E P => q1 S0 H0 σ S H _ E (P.bindA fun z vs S1 H1 g1 r1 P1 => ⟨S1, z, g1.inn, r1, hx.held, P1⟩)⟩
  refine wpAny_Call_Name_kw (ld_glob I hg h1 (PySem.W.callWith_K (h₀ := X.base) I.ok.mod.kin h2 (thn (pa.run pos pins s σ H _ I h) fun us s1 hu => ?_) he hpl) hdb)
  obtain ⟨vs, H1, I1, rv, sp1⟩ := hu
  refine ⟨I1.kIn, ?_⟩
  have lv : us.length = ps.length := by rw [← rv.length]; exact F1.len _ _ _ _ _ sp1
  have b := h3 s1 us I1.kIn (by rw [List.append_nil]; exact lv)
  rw [List.append_nil] at b
  have P1 := I1.pin q (List.mem_append_left _ hx.mem)
  have pk : PinOk X.stack H1 s1 q := ⟨P1.1, P1.2.1, fun hm => (List.mem_cons.mp (I1.stkSub q.1 hm)).elim P1.2.2.1 P1.2.2.2.1, P1.2.2.2.2⟩
  refine wpAny_call (codeAny_mono (F1.run q X.A X.stack s1 H1 ⟨us, []⟩ us vs Q (W σ) hr hx.hot pk I1.env0 b rv sp1) fun r s2 hq => ?_)
  cases r with
  | error u => exact L2N.passAt hp σ pins H1 s1 u s2 I1 hq
  | ok fl =>
    cases fl with
    | ret u => exact I1.after hq
    | next => exact False.elim hq
    | brk => exact False.elim hq
    | cont => exact False.elim hq
theorem callXp {x : Str} {k : Nat} {ps : List Str} {ca : Addr × Obj → CA τ} {F : τ → R γ} {z : τ} {n : R γ} {q : Addr × Obj} (f : FxI X.prog X.w X.K X.mg X.base x k ps ca c3 F) (hr : RoomH k X.A) (hx : HotX X q) (hp : Lets X W) (ha : DA X W ds (e :: es) (ca q) (.ok z)) (hn : n = F z := by exact rfl) (hg : Gl X x := by rfl)
    (hdb : (x == ("__debug__" : Str)) = false := by decide) (he : starEach (e :: es) X.env = (false, eval e X.env) :: starEach es X.env := by rfl) (hpl : (backTo pos (starEach es X.env)).any (·.1) = false := by rfl) : DE X W ds (.Call (.Name x p) (e :: es) [] pos) c3 n := by
  rw [hn]
  exact callX f hr hx hp ha rfl hg hdb he hpl
end
end Zk
set_option maxHeartbeats 4000000
/-! # Zk: comprehensions over a range where an exception is handled -/
namespace Zk
open PySem PySem.Spec PyProof.Rows L2 L2H
section
variable {X : Cx} {q0 : Addr × Obj} {elt tg iter : Expr} {scope : Scope} {pos : Pos} {wi : TI} {g : TG} {te : TE} {own : List (Str × Nat)} {ifs : List Expr} {tt : TT}
theorem fp_hot {Y : Cx} {σ : L2.St} {H : Hp} {s : Shared} {fp : List Addr} (I : L2.Inv Y [q0] σ H s) (ey : Y.ex = fp) (en : Y.pn = []) (nb : ∀ b ∈ fp, q0.1 ≠ b) (hn : ∀ b ∈ fp, H b = none) (b : Addr) (hb : b ∈ fp) : FpOk Y [q0] H b := by
  have hx : b ∈ Y.ex := by rw [ey]; exact hb
  refine ⟨hn b hb, (I.ok.exf b hx).1, I.ok.exfs b hx, .inl hx, (I.ok.exf b hx).2, fun r hr => ?_⟩
  rw [en] at hr
  rw [show r = q0 from by simpa using hr]
  exact nb b hb
theorem pe_lcH (hot : Hot1 X.A q0) (hm : q0 ∈ X.pn) (sn : X.N.Nodup) (hi : PIH X tg iter wi) (ok : BlkOk X.N X.env.scope scope own) (hg : ∀ b : Blk, PG (blkX X scope b) tg g) (ht : ∀ b : Blk, PTs (blkX X scope b) ifs tt) (he : ∀ b : Blk, PE (blkX X scope b) elt te)
    (hs : ∀ x, foldedSetIterable iter X.env x = pure x := by intro _; rfl) : PE X (.ListComp elt [⟨tg, iter, ifs, 0⟩] scope pos) (tLc wi g tt te (own.map (·.2))) := by
  refine ⟨fun pins s σ H Q I h => ?_⟩
  rw [eval_ListComp]
  have free : ∀ y ∈ scope.names, y.2 = .free → ∃ c, X.env.cells.lookup y.1 = some c := fun y hy e => (ok.free y hy e).elim (fun k => I.ok.has _ (.inl k)) fun k => I.ok.has _ (.inr k)
  refine wpAny_comprehension_free (use := none) rfl hs (closure_ok free) ok.kind (fun y hy e => by rw [ok.uniq y hy, e]) (thn (hi.run pins s σ H _ I h) fun v s1 h1 => thn h1 fun itv s2 h2 => ?_)
  obtain ⟨it, fp, tn, J, H2, rfl, I2, Tn, st2, f2, q⟩ := h2
  refine wpAny_newObj_type (newEnv_comp ?_) (Nat.zero_le _)
  have nb : ∀ b ∈ fp, q0.1 ≠ b := fun b hb => (f2 b hb).2.2.2.2.2 q0 (List.mem_append_left _ hm)
  generalize eD : s2.heap.objs.size = D
  obtain ⟨M, ⟨m0, w0⟩, turn⟩ := q D (I2.hok.fresh (Nat.le_of_eq eD))
  generalize es3 : ({ s2 with heap := s2.heap.push { cls := .type "list", data := .seq ([] : List Value).toArray } } : Shared) = s3
  have hp3 : s3.heap = s2.heap.push { cls := .type "list", data := .seq ([] : List Value).toArray } := by rw [← es3]
  have J3 : L2.Inv X pins σ (upd H2 D (.lst [])) s3 := by
    subst es3 eD
    exact I2.laid (t' := s2.toks) (fun b o e => Heap.get?_push_of_some _ e) (Nat.le_refl _) ⟨Nat.zero_le _, [], 0, .nil, Heap.get?_push_size _ rfl⟩
  have lt2 : ∀ b ∈ fp, b < s2.heap.objs.size := fun b hb => by
    obtain ⟨o, e, _⟩ := Tn.obj _ _ st2 b hb
    exact Heap.lt_size e
  have F3 : ∀ b ∈ fp, FpOk X pins (upd H2 D (.lst [])) b ∧ b < s3.heap.objs.size := fun b hb => by
    refine ⟨⟨(upd_ne fun z => ?_).trans (f2 b hb).1, (f2 b hb).2⟩, ?_⟩
    · have l := lt2 b hb
      rw [z, eD] at l
      exact Nat.lt_irrefl _ l
    · rw [hp3, Heap.size_push]
      exact Nat.lt_succ_of_lt (lt2 b hb)
  have T3 : tn 0 s3.heap := Tn.keep _ _ _ st2 fun b _ o e => by
    rw [hp3]
    exact Heap.get?_push_of_some _ e
  generalize eH3 : upd H2 D (.lst []) = H3 at J3 F3 w0
  have B4 := block_start J3 ok sn F3
  have pg := hg (s3, H3, s3.heap.objs.size, cellsFrom (s3.heap.objs.size + 1) scope.names (cloFrom X.env.cells scope.names []), fp)
  have pe := he (s3, H3, s3.heap.objs.size, cellsFrom (s3.heap.objs.size + 1) scope.names (cloFrom X.env.cells scope.names []), fp)
  show codeAny _ _ (.compStart (.ListComp elt [⟨tg, iter, ifs, 0⟩] scope pos) 0 (.ref it) (.ref D) (compEnvC scope (cellsFrom (s3.heap.objs.size + 1) scope.names (cloFrom X.env.cells scope.names [])) s3.heap.objs.size X.env)) (compPost (model X.prog X.w) X.A X.xe none _ (.ref D) s3.heap.objs.size) { s3 with heap := pushCells (s3.heap.push { cls := .type "dict", data := .dict #[] }) scope.names }
  have pt := ht (s3, H3, s3.heap.objs.size, cellsFrom (s3.heap.objs.size + 1) scope.names (cloFrom X.env.cells scope.names []), fp)
  have pt : PTs (X.blk s3 H3 scope (compEnvC scope (cellsFrom (s3.heap.objs.size + 1) scope.names (cloFrom X.env.cells scope.names [])) s3.heap.objs.size X.env) fp) ifs tt := pt
  have pg : PG (X.blk s3 H3 scope (compEnvC scope (cellsFrom (s3.heap.objs.size + 1) scope.names (cloFrom X.env.cells scope.names [])) s3.heap.objs.size X.env) fp) tg g := pg
  have pe : PE (X.blk s3 H3 scope (compEnvC scope (cellsFrom (s3.heap.objs.size + 1) scope.names (cloFrom X.env.cells scope.names [])) s3.heap.objs.size X.env) fp) elt te := pe
  generalize ece : compEnvC scope (cellsFrom (s3.heap.objs.size + 1) scope.names (cloFrom X.env.cells scope.names [])) s3.heap.objs.size X.env = ce at B4 pg pt pe ⊢
  have lc : ce.locals = s3.heap.objs.size := by rw [← ece]; rfl
  have keep4 : ∀ b o, s3.heap.get? b = some o → (pushCells (s3.heap.push { cls := .type "dict", data := .dict #[] }) scope.names).get? b = some o := fun b o e => pushCells_keeps _ _ _ _ (Heap.get?_push_of_some _ e)
  have pq := J3.pin q0 (List.mem_append_left _ hm)
  have C4 := B4.pins_of (pins' := [q0]) fun r hr => by
    rw [show r = q0 from by simpa using hr]
    refine ⟨keep4 _ _ pq.1, pq.2.1, fun z => ?_, fun hz => (List.mem_cons.mp (J3.stkSub q0.1 hz)).elim pq.2.2.1 pq.2.2.2.1, pq.2.2.2.2⟩
    have l := Heap.lt_size pq.1
    rw [show q0.1 = s3.heap.objs.size from z.trans lc] at l
    exact Nat.lt_irrefl _ l
  generalize es4 : ({ s3 with heap := pushCells (s3.heap.push { cls := .type "dict", data := .dict #[] }) scope.names } : Shared) = s4 at C4 ⊢
  have T4 : tn 0 s4.heap := Tn.keep _ _ _ T3 fun b _ o e => by
    rw [← es4]
    exact keep4 _ _ e
  have hotB : HotC ((X.blk s3 H3 scope ce fp).tr ((X.blk s3 H3 scope ce fp).pn ++ [q0]) fun _ _ => False) := ⟨q0, hot, List.mem_append_right _ (List.mem_singleton.mpr rfl)⟩
  have fpB : ∀ {σ' : L2.St} {H' : Hp} {s' : Shared}, L2.Inv (X.blk s3 H3 scope ce fp) [q0] σ' H' s' → (∀ b ∈ fp, H' b = none) → ∀ b ∈ fp, FpOk (X.blk s3 H3 scope ce fp) [q0] H' b := fun I' hn b hb => fp_hot I' rfl rfl nb hn b hb
  have fpT : ∀ {σ' : L2.St} {H' : Hp} {s' : Shared}, L2.Inv (X.blk s3 H3 scope ce fp) [q0] σ' H' s' → (∀ b ∈ fp, H' b = none) → ∀ b ∈ fp, FpOk ((X.blk s3 H3 scope ce fp).tr ((X.blk s3 H3 scope ce fp).pn ++ [q0]) fun _ _ => False) [] H' b := fun I' hn b hb => by
    obtain ⟨k1, k2, k3, k4, k5, k6⟩ := fpB I' hn b hb
    exact ⟨k1, k2, k3, k4, k5, fun r hr => k6 r (by simpa using hr)⟩
  have loop : codeAny (model X.prog X.w) X.A (.compLoop (.ListComp elt [⟨tg, iter, ifs, 0⟩] scope pos) 0 (.ref it) (.ref D) ce) (compPost (model X.prog X.w) X.A X.xe none (EP X pins σ Q) (.ref D) s3.heap.objs.size) s4 := by
    refine compLoop_any (fun n s' => ∃ i H', L2.Inv (X.blk s3 H3 scope ce fp) [q0] (wipe σ (own.map (·.2))) H' s' ∧ tn i s'.heap ∧ (∀ b ∈ fp, H' b = none) ∧ M i n H') ?_ m0 ⟨0, H3, C4, T4, fun b hb => (F3 b hb).1.1, w0⟩
    rintro n s5 ⟨i, H5, I5, st5, n5, w5⟩
    rcases turn i n H5 w5 with ⟨stop, qq⟩ | ⟨go, Nx, hNx, step⟩
    · refine thnF (Tn.done ((X.blk s3 H3 scope ce fp).tr ((X.blk s3 H3 scope ce fp).pn ++ [q0]) fun _ _ => False) rfl rfl rfl hotB i [] s5 _ H5 (fun _ _ => False) (I5.toTry _) (fpT I5 n5) st5 stop) fun r s6 hr6 => ?_
      obtain ⟨rfl, I6⟩ := hr6
      have I6 := I6.ofTry I5.ok
      have I7 : L2.Inv X pins σ H5 s6 := J3.call' (ch := fp) I6.os I6.base I6.hok I6.bare fun b hb => ⟨(F3 b hb).1.2.2.2.1, (F3 b hb).1.2.1, (F3 b hb).1.2.2.2.2.1, (F3 b hb).1.2.2.2.2.2⟩
      have nC : H5 s3.heap.objs.size = none := by
        have z : H5 ce.locals = none := I6.free
        rw [lc] at z
        exact z
      obtain ⟨m, hn, _⟩ := I6.loc
      have hn : s6.heap.Ns ce.locals m := hn
      rw [lc] at hn
      obtain ⟨f0, f1, f3, f4, f5, f6⟩ := J3.fpOk (Nat.le_refl _) nC
      exact ⟨m, hn, fun h' sb => ⟨.ref D, H5, I7.turned (t' := s6.toks) (fun b o hb e => (sb.2 b hb).trans e) f0 f1 f4 f5 f6, rfl, qq⟩⟩
    · refine thnF (Tn.item ((X.blk s3 H3 scope ce fp).tr ((X.blk s3 H3 scope ce fp).pn ++ [q0]) fun _ _ => False) rfl rfl rfl hotB i [] s5 _ H5 (fun _ _ => False) (I5.toTry _) (fpT I5 n5) st5 go) fun r s6 hr6 => ?_
      obtain ⟨u, rfl, h6⟩ := hr6
      refine thnF h6 fun _ s7 h7 => ?_
      obtain ⟨x, H7, I7, r7, y7, st7, n7⟩ := h7
      have I7 := I7.ofTry I5.ok
      have P7 := I7.pinned (fpB I7 n7) (Tn.obj _ _ st7)
      refine thnF (pg.run _ s7 _ H7 x u _ P7 r7 (step x H7 y7)) fun _ s8 h8 => ?_
      obtain ⟨σ8, H8, I8, hw8, q8⟩ := h8
      have fin : ∀ {s' : Shared} {H' : Hp}, L2.Inv (X.blk s3 H3 scope ce fp) ([q0] ++ pinsAt fp s7.heap) σ8 H' s' → Nx H' → ∃ m, m < n ∧ ∃ i H', L2.Inv (X.blk s3 H3 scope ce fp) [q0] (wipe σ (own.map (·.2))) H' s' ∧ tn i s'.heap ∧ (∀ b ∈ fp, H' b = none) ∧ M i m H' := fun {s' H'} I11 nx => by
        obtain ⟨m', hlt, w'⟩ := hNx _ nx
        have pin' : ∀ b ∈ fp, ∀ o, s7.heap.get? b = some o → s'.heap.get? b = some o ∧ H' b = none := fun b hb o e =>
          have z := I11.pin (b, o) (List.mem_append_right _ (List.mem_append_right _ (mem_pinsAt hb e)))
          ⟨z.1, z.2.1⟩
        have hl : (wipe σ (own.map (·.2))).length = σ8.length := by rw [← hw8, wipe_length]
        refine ⟨m', hlt, i + 1, _, (I11.unpinned (pins := [q0])).weak hl (fun j v e => ?_), Tn.keep _ _ _ st7 fun b hb o e => (pin' b hb o e).1, fun b hb => ?_, w'⟩
        · rw [← hw8] at e
          exact (wipe_some e).1
        · obtain ⟨o, e, _⟩ := Tn.obj _ _ st7 b hb
          exact (pin' b hb o e).2
      refine thnF (pt.run _ s8 σ8 H8 _ I8 q8) fun b s9 h9 => ?_
      obtain ⟨H9, I9, q9⟩ := h9
      cases b with
      | false =>
        simp only [Bool.false_eq_true, if_false] at q9 ⊢
        exact fin I9 q9
      | true =>
        simp only [if_true] at q9 ⊢
        refine thnF (pe.run _ s9 σ8 H9 _ I9 q9) fun z s10 h10 => ?_
        obtain ⟨yv, H10, I10, r10, acc, hD10, hz10, nx⟩ := h10
        exact app_ok (X := X.blk s3 H3 scope ce fp) I10 hD10 hz10 r10 fun s11 I11 => fin I11 nx
  exact codeAny_compStart_list loop (Tn.self X.A 0 _ _ _ T4 loop)
end
section
variable {X : Cx} {W : WK} {ds : Env} {β : Type} {a elt tg : Expr} {scope : Scope} {c2 : Cd β} {mi : R Int} {pos p p2 : Pos}
/-- [elt for tg in range(a)] there -/
theorem lcH {q : Addr × Obj} {f : Int → R β} (own : List (Str × Nat)) (ok : BlkOk X.N X.env.scope scope own) (sn : X.N.Nodup) (hx : HotX X q) (hm : X.mg "range" = none) (ha : DE X W ds a cI mi) {eB : Int → Env} (hg : DGB X scope tg (own.map (·.2)) cI (wipeD ds (own.map (·.2))) eB)
    (he : ∀ (b : Blk) z, DE (blkX X scope b) (fun _ => E0) (eB z) elt c2 (f z)) (hr : Gl X "range" := by rfl) (hs : starEach [a] X.env = [(false, eval a X.env)] := by rfl) (hs2 : ∀ x, foldedSetIterable (.Call (.Name "range" p) [a] [] p2) X.env x = pure x := by intro _; rfl) :
    DL X W ds (.ListComp elt [⟨tg, .Call (.Name "range" p) [a] [] p2, [], 0⟩] scope pos) c2 ((mi >>= fun n => rngM 0 n) >>= fun as => mapM f as) := by
  obtain ⟨t, pa, q⟩ := ha
  have hi : DIG (PIH X tg (.Call (.Name "range" p) [a] [] p2)) X W ds cI (mi >>= fun n => rngM 0 n) := by
    refine ⟨_, pi_range1H hr hm (pa_cons pa pa_nil hs) hs, fun S0 H0 σ S H Q E P => q S0 H0 σ S H _ E (R.post_mono (R.post_bind.mp P) (fun n k v S' H' g r => ?_) (fun _ k => k))⟩
    obtain ⟨k1, k2⟩ := R.guard_post k
    obtain rfl : v = V.int n := r
    refine ⟨n, rfl, k1.2.2.1, k1.2.2.2, ?_⟩
    rw [show n - 0 = n from by omega] at k2
    exact k2 _ S' H' g itr_ok
  have h := lc_core_ (Pi := PIH X tg (.Call (.Name "range" p) [a] [] p2)) (ifs := []) (p := fun _ => .ok true) (f := f) own ok hi hg (tt := tYes) (fun _ => pts_nil) (fun a S0 H0 σ S H Q E P => P.ok E.inn) he
  rw [show (fun as => compM (fun _ => .ok true) f as) = fun as => mapM f as from funext fun as => compM_map f as] at h
  obtain ⟨wi, g, tt, te, own', pi, ok', pg, ht, pe, q'⟩ := h
  exact ⟨_, pe_lcH hx.hot hx.mem sn pi ok' pg ht pe hs2, q'⟩
end
end Zk
set_option maxHeartbeats 4000000
/-! # Zk: what the generator asks besides -/
namespace Zk
open PySem PySem.Spec PyProof.Rows L2 L2H
@[reducible] def Out.cs {β σ' ω : Type} (f : σ' → R ω) (g : β → R ω) : Out β σ' Empty → R ω
  | .nxt s => f s
  | .ret b => g b
  | .brk e => nomatch e
  | .ctn e => nomatch e
theorem lets0 {X : Cx} : Lets X (fun _ => E0) := fun _ _ h => by
  obtain ⟨_, _, _, _, _, _, _, _, _, _, _, _, _, _, _, _, z⟩ := h
  exact z.elim
theorem _root_.L2H.RoomH.units {k : Nat} {A : Around} (r : RoomH k A) : A.units + 64 < cLine := by have := r.un; omega
theorem roomS {X : Cx} {k j : Nat} {a : Addr} {pn : List (Addr × Obj)} (r : Room k X.A) (h : j ≤ k) : RoomH j (X.suite a pn).A := ⟨by have := r.dp; show X.A.depth + 3 * j + 5 < _; omega, by have := r.un; show X.A.units + 16 * j + 200 < _; omega⟩
theorem unitsS {X : Cx} {k : Nat} {a : Addr} {pn : List (Addr × Obj)} (r : Room k X.A) : (X.suite a pn).A.units + 64 < cLine := by have := r.un; show X.A.units + 64 < _; omega
/-- the suite's exception -/
theorem hot_suite {X : Cx} {a : Addr} {oe : Obj} {cls : Value} {d : Option Addr} {pn : List (Addr × Obj)} (hz : L2N.Zn cls d oe) (hv : ∃ vs, oe.data = .fields vs) : HotX (X.suite a ((a, oe) :: pn)) (a, oe) := by
  obtain ⟨vs, hv⟩ := hv
  exact ⟨⟨rfl, vs, hv, hz.2.2 vs hv⟩, List.mem_cons_self, ⟨⟨cls, d, hz, ⟨vs, hv⟩⟩⟩⟩
section
variable {X : Cx} {W : WK} {ds : Env} {n x : Str} {pos p p1 p2 : Pos} {cv : Value} {v : V} {q : Addr × Obj} {y : Exn} {t : XTab}
theorem isX (i : Nat) (hx : HotX X q) (ht : kitB X.K cv t = true) (hm : X.mg "isinstance" = none)
    (pc : PE X (.Name x p2) (tC v)) (hv : ∀ u, RelV v u → u = cv) (hd : ds.get i = .st Exn (cE q) y := by rfl) (hN : X.N[i]? = some n := by rfl) (hvis : Vis X.env.scope n := by first | exact Or.inl rfl | exact Or.inr (Or.inl rfl) | exact Or.inr (Or.inr rfl))
    (hdb : (n == ("__debug__" : Str)) = false := by decide) (hcd : (n == ("__classdict__" : Str)) = false := by decide) (hg : Gl X "isinstance" := by rfl) (hs : starEach (.Name n p1 :: [.Name x p2]) X.env = (false, eval (.Name n p1) X.env) :: starEach [.Name x p2] X.env := by rfl)
    (hs2 : starEach (.Name x p2 :: []) X.env = (false, eval (.Name x p2) X.env) :: starEach [] X.env := by rfl) (hpl : (backTo pos (starEach [.Name x p2] X.env)).any (·.1) = false := by rfl) :
    DE X W ds (.Call (.Name "isinstance" p) [.Name n p1, .Name x p2] [] pos) cB (isR t y) := by
  obtain ⟨cls, d, hz, hf⟩ := hx.held.ex
  refine ⟨_, pe_callB (call_isP hf hx.mem) hg hm boot_isinstance (pa_cons (pe_var hN hvis hdb hcd) (pa_cons pc pa_nil hs2) hs) (by decide) (by decide) hs hpl, fun S0 H0 σ S H Q E P => ?_⟩
  obtain ⟨v', h1, e1, e2, e3⟩ := E.var hd
  subst e1
  unfold isR at P
  cases hl : t.lookup y.cls with
  | none =>
    rw [hl] at P
    exact False.elim P
  | some b =>
    rw [hl] at P
    obtain ⟨C, k⟩ := kitB_ok ht hl
    refine ⟨.ref q.1, h1, _, v, cv, b, rfl, e2, C, ?_, hv, k, PX.ok P E.inn rfl⟩
    rcases e3 with ⟨z, _⟩ | ⟨dd, gs, z1, z2, _⟩
    · exact .inl z
    · exact .inr ⟨dd, gs, z1, E.inn _ _ z2⟩
/-- isinstance(e, C), C an own class -/
theorem isOwn (i : Nat) (hx : HotX X q) (gC : X.mg x = some (.ref (He.ga X.K x))) (ht : kitB X.K (.ref (He.ga X.K x)) t = true) (hm : X.mg "isinstance" = none)
    (hd : ds.get i = .st Exn (cE q) y := by rfl) (hN : X.N[i]? = some n := by rfl) (hvis : Vis X.env.scope n := by first | exact Or.inl rfl | exact Or.inr (Or.inl rfl) | exact Or.inr (Or.inr rfl))
    (hdb : (n == ("__debug__" : Str)) = false := by decide) (hcd : (n == ("__classdict__" : Str)) = false := by decide) (hg : Gl X "isinstance" := by rfl) (hgx : Gl X x := by rfl) (hdx : (x == ("__debug__" : Str)) = false := by decide) (hs : starEach (.Name n p1 :: [.Name x p2]) X.env = (false, eval (.Name n p1) X.env) :: starEach [.Name x p2] X.env := by rfl)
    (hs2 : starEach (.Name x p2 :: []) X.env = (false, eval (.Name x p2) X.env) :: starEach [] X.env := by rfl) (hpl : (backTo pos (starEach [.Name x p2] X.env)).any (·.1) = false := by rfl) :
    DE X W ds (.Call (.Name "isinstance" p) [.Name n p1, .Name x p2] [] pos) cB (isR t y) :=
  isX (v := .ref (He.ga X.K x)) i hx ht hm (pe_glob hgx gC rfl hdx) (fun _ h => h) hd hN hvis hdb hcd hg hs hs2 hpl
/-- .. C a built-in one -/
theorem isBlt {tn : String} (i : Nat) (hx : HotX X q) (hb : bootBuiltins x = some (.type tn)) (hf : X.mg x = none) (ht : kitB X.K (.type tn) t = true) (hm : X.mg "isinstance" = none)
    (hd : ds.get i = .st Exn (cE q) y := by rfl) (hN : X.N[i]? = some n := by rfl) (hvis : Vis X.env.scope n := by first | exact Or.inl rfl | exact Or.inr (Or.inl rfl) | exact Or.inr (Or.inr rfl))
    (hdb : (n == ("__debug__" : Str)) = false := by decide) (hcd : (n == ("__classdict__" : Str)) = false := by decide) (hg : Gl X "isinstance" := by rfl) (hgx : Gl X x := by rfl) (hnx : x ≠ "__name__" := by decide) (hdx : (x == ("__debug__" : Str)) = false := by decide) (hs : starEach (.Name n p1 :: [.Name x p2]) X.env = (false, eval (.Name n p1) X.env) :: starEach [.Name x p2] X.env := by rfl)
    (hs2 : starEach (.Name x p2 :: []) X.env = (false, eval (.Name x p2) X.env) :: starEach [] X.env := by rfl) (hpl : (backTo pos (starEach [.Name x p2] X.env)).any (·.1) = false := by rfl) :
    DE X W ds (.Call (.Name "isinstance" p) [.Name n p1, .Name x p2] [] pos) cB (isR t y) :=
  isX (v := .ty tn) i hx ht hm (pe_bltn hgx hf hb rfl hnx hdx) (fun _ h => h) hd hN hvis hdb hcd hg hs hs2 hpl
end
/-! ### the slot read otherwise -/
section
variable {X : Cx} {W : WK} {T : Bool} {ds : Env} {α β γ ν κ ω : Type} {sts rest : List Stmt} {c : Cd α} {c2 : Cd γ} {cb : RCd β} {eN : ν → Env} {eK : κ → Env} {I : ω → Out β ν κ} {n : R ω} {e : Expr} {pos : Pos}
theorem recode (i : Nat) {f : α → γ} {z : α} (h : Coe c c2 f) (hd : ds.get i = .st α c z := by rfl) (hr : DS X W T (ds.put i (.st γ c2 (f z))) sts cb eN eK I n) : DS X W T ds sts cb eN eK I n := fun S0 H0 σ S H D nx k E P => by
  refine hr S0 H0 σ S H D nx k ?_ P
  obtain ⟨v, h1, h2⟩ := E.var hd
  have eσ : σ.set i (some v) = σ := by
    apply List.ext_getElem?
    intro j
    by_cases z : j = i
    · subst z
      rw [get_set_self (List.getElem?_eq_some_iff.mp h1).1, h1]
    · rw [List.getElem?_set_ne (Ne.symm z)]
  have q := E.putS (i := i) (h _ _ _ _ h2)
  rw [eσ] at q
  exact q
theorem drop_p {z : α} (he : DE X W ds e c (.ok z)) (hr : DS X W T ds rest cb eN eK I n) (hs : swapsWith e none pos.line X.env = pure false := by rfl) : DS X W T ds (.Expr e pos :: rest) cb eN eK I n := drop (k := fun _ => n) he (fun _ => hr) hs
end
/-! ### a comprehension's block, by decide -/
def blkB (N : List Str) (sc scope : Scope) (own : List (Str × Nat)) : Bool :=
  (scope.kind == .function) && (scope.names.all (fun y => scope.names.lookup y.1 == some y.2) && (own.all (fun p => decide (N[p.2]? = some p.1)) &&
    (scope.names.all (fun y => !(y.2 == .free) || (sc.names.lookup y.1 == some .cell || sc.names.lookup y.1 == some .free)) && scope.names.all (fun y => !(y.2 == .local || y.2 == .cell) || (decide (y.1 ∈ own.map (·.1)) || decide (y.1 ∉ N))))))
theorem blk_ok {N : List Str} {sc scope : Scope} {own : List (Str × Nat)} (h : blkB N sc scope own = true) : BlkOk N sc scope own := by
  obtain ⟨h1, h⟩ := He.ba h
  obtain ⟨h2, h⟩ := He.ba h
  obtain ⟨h3, h⟩ := He.ba h
  obtain ⟨h4, h5⟩ := He.ba h
  refine ⟨by simpa using h1, fun y hy => by simpa using List.all_eq_true.mp h2 y hy, fun p hp => of_decide_eq_true (List.all_eq_true.mp h3 p hp), fun y hy e => ?_, fun y hy e => ?_⟩
  · have q := List.all_eq_true.mp h4 y hy
    rw [e] at q
    simpa using q
  · have q := List.all_eq_true.mp h5 y hy
    rcases e with e | e <;> rw [e] at q <;> simpa using q
/-! ### the head's look -/
section
variable {fa : List He.Fa} {fn : List He.DefD} {hv : List (Str × Value)} {xs : List Str} {xm xk : List (Str × XTab)} {xb : List (String × XTab)} {K : PySem.W.Frag} {mg : Str → Option Value} {base : Heap}
theorem Glb.heldZ (T : Glb fa fn (exZ hv xs xm xk xb) K mg base) (i : Nat) {x : Str} {v : Value} (h : hv[i]? = some (x, v) := by rfl) : mg x = some v :=
  PySem.W.mg_of T.X T.G (He.eqO_ok (List.all_eq_true.mp (He.ba T.e).1 (x, v) (List.mem_of_getElem? h)))
theorem Glb.xcls (T : Glb fa fn (exZ hv xs xm xk xb) K mg base) (i : Nat) {x : Str} (h : xs[i]? = some x := by rfl) : XCls K x :=
  excB_ok (List.all_eq_true.mp (He.ba (He.ba T.e).2).1 x (List.mem_of_getElem? h))
theorem Glb.tm (T : Glb fa fn (exZ hv xs xm xk xb) K mg base) (i : Nat) {x : Str} {t : XTab} (h : xm[i]? = some (x, t) := by rfl) : exmB K (.ref (He.ga K x)) t = true :=
  List.all_eq_true.mp (He.ba (He.ba (He.ba T.e).2).2).1 (x, t) (List.mem_of_getElem? h)
theorem Glb.tk (T : Glb fa fn (exZ hv xs xm xk xb) K mg base) (i : Nat) {x : Str} {t : XTab} (h : xk[i]? = some (x, t) := by rfl) : kitB K (.ref (He.ga K x)) t = true :=
  List.all_eq_true.mp (He.ba (He.ba (He.ba (He.ba T.e).2).2).2).1 (x, t) (List.mem_of_getElem? h)
theorem Glb.tb (T : Glb fa fn (exZ hv xs xm xk xb) K mg base) (i : Nat) {x : String} {t : XTab} (h : xb[i]? = some (x, t) := by rfl) : kitB K (.type x) t = true :=
  List.all_eq_true.mp (He.ba (He.ba (He.ba (He.ba T.e).2).2).2).2 (x, t) (List.mem_of_getElem? h)
end
end Zk
set_option maxHeartbeats 4000000
/-! # Zk: zip, enumerate over lists and tuples of any mixture -/
namespace Zk
open PySem PySem.Spec PyProof.Rows L2
/-! ### kinds: true a tuple, false a list -/
def ItrAt : Bool → Heap → Addr → Addr → Nat → Prop
  | true, h, it, l, k => h.IsTupleIter it l k
  | false, h, it, l, k => h.IsListIter it l k
def ObjAt : Bool → Heap → Addr → Array Value → Prop
  | true, h, l, xs => h.IsTuple l xs
  | false, h, l, xs => h.IsList l xs
def SqB : Bool → PySem.W.Frag → Hp → Addr → List V → Prop
  | true, K, H, a, xs => SqT K H a xs
  | false, K, H, a, xs => SqL K H a xs
theorem SqB.mono {b : Bool} {K : PySem.W.Frag} {H H' : Hp} {a : Addr} {xs : List V} (e : Same H H') (h : SqB b K H a xs) : SqB b K H' a xs := by
  cases b
  · exact Same.seq e h
  · exact Same.tup e h
theorem ItrAt.at {b : Bool} {h h' : Heap} {it l : Addr} {k : Nat} (x : ItrAt b h it l k) (e : ∀ o, h.get? it = some o → h'.get? it = some o) : ItrAt b h' it l k := by
  cases b
  · exact Heap.IsListIter.at x e
  · exact Heap.IsTupleIter.at x e
theorem ItrAt.ob {b : Bool} {h : Heap} {it l : Addr} {k : Nat} (x : ItrAt b h it l k) : ∃ o, h.get? it = some o ∧ ∀ v, o.data ≠ .cell v := by
  cases b
  · obtain ⟨o, e, _, d⟩ := (show h.IsListIter it l k from x)
    exact ⟨o, e, fun v q => by rw [d] at q; cases q⟩
  · obtain ⟨o, e, _, d⟩ := (show h.IsTupleIter it l k from x)
    exact ⟨o, e, fun v q => by rw [d] at q; cases q⟩
theorem ObjAt.lt {b : Bool} {h : Heap} {l : Addr} {xs : Array Value} (x : ObjAt b h l xs) : l < h.objs.size := by
  cases b
  · obtain ⟨o, e, _⟩ := (show h.IsList l xs from x)
    exact Heap.lt_size e
  · obtain ⟨o, e, _⟩ := (show h.IsTuple l xs from x)
    exact Heap.lt_size e
theorem draw {P : Program} {w : World} {A : Around} (b : Bool) (hh : A.handled = none) (it l : Addr) (hne : l ≠ it) (xs : Array Value) : Draws P w A it [it, l] xs.size (fun i v => xs[i]? = some v) (fun i h => ItrAt b h it l i ∧ ObjAt b h l xs) := by
  cases b
  · exact Draws.list hh it l hne xs
  · exact Draws.tuple hh it l hne xs
theorem sqB {b : Bool} {X : Cx} {pins : List (Addr × Obj)} {σ : L2.St} {H : Hp} {s : Shared} {a : Addr} {xs : List V} (I : Inv X pins σ H s) (h : SqB b X.K H a xs) : ∃ its : List Value, Vals xs its ∧ ObjAt b s.heap a its.toArray := by
  cases b
  · obtain ⟨its, r, p, _⟩ := I.list h
    exact ⟨its, r, p.isList⟩
  · obtain ⟨its, r, p, _⟩ := I.tuple h
    exact ⟨its, r, p⟩
/-! ### zip -/
/-- pairs of the items, new each turn -/
def ItZ (K : PySem.W.Frag) (b1 b2 : Bool) (a1 a2 : Addr) (xs ys : List V) : It :=
  ⟨fun i H => SqB b1 K H a1 xs ∧ SqB b2 K H a2 ys ∧ i < xs.length ∧ i < ys.length,
    fun i H v H' => ∃ T x y, v = .ref T ∧ H T = none ∧ H' = upd H T (.tup [x, y]) ∧ xs[i]? = some x ∧ ys[i]? = some y,
    fun i H => SqB b1 K H a1 xs ∧ SqB b2 K H a2 ys ∧ (xs.length ≤ i ∨ ys.length ≤ i)⟩
def ZipSt (b1 b2 : Bool) (z TI TO i1 i2 a1 a2 : Addr) (n1 n2 : Nat) (i : Nat) (h : Heap) : Prop :=
  IsZip h z TI TO .none ∧ IsPair h TI (.ref i1) (.ref i2) ∧ (∃ x y, IsPair h TO x y) ∧ ItrAt b1 h i1 a1 i ∧ ItrAt b2 h i2 a2 i ∧ i ≤ n1 ∧ i ≤ n2
theorem turnZ {P : Program} {w : World} {K : PySem.W.Frag} {elts : List Expr} {kk : Nat} {tpos : Pos} {b1 b2 : Bool} {a1 a2 z TI TO i1 i2 : Addr} {xs ys : List V} (D : ZipApart z TI TO i1 i2 a1 a2) :
    Turn P w K (.Tuple elts kk tpos) (ItZ K b1 b2 a1 a2 xs ys) [z, TI, TO, i1, i2] z (ZipSt b1 b2 z TI TO i1 i2 a1 a2 xs.length ys.length) where
  mem := List.mem_cons_self
  obj := fun i h st c hc => by
    obtain ⟨hz, hTI, ⟨x, y, hTO⟩, h1, h2, _⟩ := st
    have q : c = z ∨ c = TI ∨ c = TO ∨ c = i1 ∨ c = i2 := by simpa using hc
    rcases q with rfl | rfl | rfl | rfl | rfl
    · exact ⟨_, hz, fun v e => nomatch e⟩
    · exact ⟨_, hTI, fun v e => nomatch e⟩
    · exact ⟨_, hTO, fun v e => nomatch e⟩
    · exact h1.ob
    · exact h2.ob
  keep := fun i h h' st k => by
    obtain ⟨hz, hTI, ⟨x, y, hTO⟩, h1, h2, l1, l2⟩ := st
    exact ⟨k z (by simp) _ hz, k TI (by simp) _ hTI, ⟨x, y, k TO (by simp) _ hTO⟩, h1.at fun o e => k i1 (by simp) o e, h2.at fun o e => k i2 (by simp) o e, l1, l2⟩
  item := by
    intro X hP hw hK hc i pins s σ H E I hf st hg
    subst hP hw hK
    obtain ⟨hz, hTI, ⟨x0, y0, hTO⟩, h1, h2, _, _⟩ := st
    obtain ⟨q1, q2, l1, l2⟩ := hg
    obtain ⟨us, r1, o1⟩ := sqB I q1
    obtain ⟨vs, r2, o2⟩ := sqB I q2
    have hzl : z < s.heap.objs.size := Heap.lt_size hz
    have sep : ZipSep2 z TI TO i1 i2 [i1, a1] [i2, a2] :=
      ⟨D.TIz, D.TOz, D.TITO, D.TIi1, by simp, by simp [D.i1z.symm, D.l1z.symm], by simp [D.TOi1, D.l1TO.symm], D.TIi2, by simp, by simp [D.i2z.symm, D.l2z.symm], by simp [D.TOi2, D.l2TO.symm], by simp [D.i12, D.l2i1.symm], by simp [D.i12.symm, D.l1i2.symm]⟩
    have h0 : X.A.in1.handled = none := I.ok.hd hc
    have e1 := r1.length
    have e2 := r2.length
    refine wpAny_pyNext_zipD2_item sep (draw b1 h0 i1 a1 D.l1i1 us.toArray) (draw b2 h0 i2 a2 D.l2i2 vs.toArray) hz hTI hTO ⟨h1, o1⟩ ⟨h2, o2⟩ (by simp; omega) (by simp; omega) fun u v h' tk hu hv z' TO' st1 st2 hT hsz hk => ?_
    refine ⟨_, rfl, wpAny_letOwnedTupleGo_zip (s := { s with heap := h', toks := tk }) z' fun h'' z'' sb => ?_⟩
    have hx : xs[i]? = some xs[i] := List.getElem?_eq_getElem l1
    have hy : ys[i]? = some ys[i] := List.getElem?_eq_getElem l2
    obtain ⟨u', eu, ru⟩ := r1.get hx
    obtain ⟨v', ev, rv⟩ := r2.get hy
    have hu' : us[i]? = some u := by simpa using hu
    have hv' : vs[i]? = some v := by simpa using hv
    rw [eu] at hu'
    rw [ev] at hv'
    cases hu'
    cases hv'
    have hT2 : h''.get? s.heap.objs.size = some { cls := .type "tuple", data := .seq #[u, v] } := (sb.2 _ (Nat.ne_of_gt hzl)).trans hT
    have nw : ObjOk X.prog X.w (upd H s.heap.objs.size (.tup [xs[i], ys[i]])) h'' s.heap.objs.size (.tup [xs[i], ys[i]]) :=
      ⟨by show 2 ≤ sizeLine; decide, [u, v], .cons ru (.cons rv .nil), ⟨_, hT2, rfl, _, rfl⟩⟩
    have far : ∀ c o, c ∉ [z, TI, TO, i1, i2] → s.heap.get? c = some o → h''.get? c = some o := fun c o hb e =>
      (sb.2 c fun y => hb (by simp [y])).trans (hk c o (fun y => hb (by simp [y])) (fun y => hb (by simp [y])) (fun y => hb (by simp [y])) (fun y => hb (by simp [y])) e)
    have I1 : Inv X pins σ (upd H s.heap.objs.size (.tup [xs[i], ys[i]])) { s with heap := h'', toks := tk } := I.turnedNew (ch := [z, TI, TO, i1, i2]) far hf (Nat.le_refl _) nw
    refine ⟨.ref s.heap.objs.size, _, I1, rfl, ⟨_, _, _, rfl, I.hok.fresh (Nat.le_refl _), rfl, hx, hy⟩, ⟨z'', ?_, ⟨u, v, (sb.2 _ D.TOz).trans TO'⟩, st1.1.at fun o e => (sb.2 _ D.i1z).trans e, st2.1.at fun o e => (sb.2 _ D.i2z).trans e, l1, l2⟩, fun c hcm => ?_⟩
    · exact (sb.2 _ D.TIz).trans (hk _ _ D.TIz D.TITO D.TIi1 D.TIi2 hTI)
    · have lt : c < s.heap.objs.size := by
        have q : c = z ∨ c = TI ∨ c = TO ∨ c = i1 ∨ c = i2 := by simpa using hcm
        rcases q with rfl | rfl | rfl | rfl | rfl
        · exact hzl
        · exact Heap.lt_size hTI
        · exact Heap.lt_size hTO
        · obtain ⟨_, e, _⟩ := h1.ob
          exact Heap.lt_size e
        · obtain ⟨_, e, _⟩ := h2.ob
          exact Heap.lt_size e
      rw [upd_ne (Nat.ne_of_lt lt)]
      exact (hf c hcm).1
  done := by
    intro X hP hw hK hc i pins s σ H E I hf st hg
    subst hP hw hK
    obtain ⟨hz, hTI, ⟨x0, y0, hTO⟩, h1, h2, m1, m2⟩ := st
    obtain ⟨q1, q2, l⟩ := hg
    obtain ⟨us, r1, o1⟩ := sqB I q1
    obtain ⟨vs, r2, o2⟩ := sqB I q2
    have sep : ZipSep2 z TI TO i1 i2 [i1, a1] [i2, a2] :=
      ⟨D.TIz, D.TOz, D.TITO, D.TIi1, by simp, by simp [D.i1z.symm, D.l1z.symm], by simp [D.TOi1, D.l1TO.symm], D.TIi2, by simp, by simp [D.i2z.symm, D.l2z.symm], by simp [D.TOi2, D.l2TO.symm], by simp [D.i12, D.l2i1.symm], by simp [D.i12.symm, D.l1i2.symm]⟩
    have h0 : X.A.in1.handled = none := I.ok.hd hc
    have e1 := r1.length
    have e2 := r2.length
    refine wpAny_pyNext_zipD2_end sep (draw b1 h0 i1 a1 D.l1i1 us.toArray) (draw b2 h0 i2 a2 D.l2i2 vs.toArray) hz hTI hTO ⟨h1, o1⟩ ⟨h2, o2⟩ (by simp; omega) (by simp; omega) (by simp; omega) fun h' tk hk => ⟨rfl, ?_⟩
    exact I.turnedL (t' := tk) (ch := [z, TI, TO, i1, i2]) (fun c o hb e => hk c o (fun y => hb (by simp [y])) (fun y => hb (by simp [y])) (fun y => hb (by simp [y])) (fun y => hb (by simp [y])) e) hf
  self := fun A i s Q E st h => wpAny_pyIter_zip st.1 h
/-! ### its making -/
def itCls : Bool → String
  | true => "tuple_iterator"
  | false => "list_iterator"
abbrev zh1 (b1 : Bool) (h : Heap) (l1 : Addr) : Heap := h.push { cls := .type (itCls b1), data := .fields #[.ref l1, .int 0 0] }
abbrev zh2 (b1 b2 : Bool) (h : Heap) (l1 l2 : Addr) : Heap := (zh1 b1 h l1).push { cls := .type (itCls b2), data := .fields #[.ref l2, .int 0 0] }
abbrev zh3 (b1 b2 : Bool) (h : Heap) (l1 l2 : Addr) : Heap := (zh2 b1 b2 h l1 l2).push { cls := .type "tuple", data := .seq #[.ref h.objs.size, .ref (zh1 b1 h l1).objs.size] }
abbrev zh4 (b1 b2 : Bool) (h : Heap) (l1 l2 : Addr) : Heap := (zh3 b1 b2 h l1 l2).push { cls := .type "tuple", data := .seq #[.none, .none] }
abbrev zh5 (b1 b2 : Bool) (h : Heap) (l1 l2 : Addr) : Heap := (zh4 b1 b2 h l1 l2).push { cls := .type "zip", data := .fields #[.none, .bool false, .bool false, .ref (zh2 b1 b2 h l1 l2).objs.size, .ref (zh3 b1 b2 h l1 l2).objs.size] }
theorem newLT (l1 l2 : Addr) (xs ys : Array Value) : Meets (Builtin.«zip.__new__» ⟨[.type "zip", .ref l1, .ref l2], []⟩) (fun _ R s => s.heap.IsList l1 xs ∧ s.heap.IsTuple l2 ys ∧ R (.ok (.ret (.ref (zh4 false true s.heap l1 l2).objs.size))) { s with heap := zh5 false true s.heap l1 l2 }) :=
  .of_wp fun prog w A R s h => by
    obtain ⟨hp, g, d, tk, os⟩ := s
    obtain ⟨k1, k2, k⟩ := h
    have hsub := sub_zip
    have j1 : Heap.IsList (Shared.heap ⟨hp, g, d, tk, os⟩) l1 xs := k1
    have j2 : Heap.IsTuple (Shared.heap ⟨hp.push { cls := .type "list_iterator", data := .fields #[.ref l1, .int 0 0] }, g, d, tk, os⟩) l2 ys := Heap.IsTuple.push k2 _
    wp_walk using wpAny_pyIter_list j1, wpAny_pyIter_tuple j2
    exact ⟨_, rfl, k⟩
theorem newTL (l1 l2 : Addr) (xs ys : Array Value) : Meets (Builtin.«zip.__new__» ⟨[.type "zip", .ref l1, .ref l2], []⟩) (fun _ R s => s.heap.IsTuple l1 xs ∧ s.heap.IsList l2 ys ∧ R (.ok (.ret (.ref (zh4 true false s.heap l1 l2).objs.size))) { s with heap := zh5 true false s.heap l1 l2 }) :=
  .of_wp fun prog w A R s h => by
    obtain ⟨hp, g, d, tk, os⟩ := s
    obtain ⟨k1, k2, k⟩ := h
    have hsub := sub_zip
    have j1 : Heap.IsTuple (Shared.heap ⟨hp, g, d, tk, os⟩) l1 xs := k1
    have j2 : Heap.IsList (Shared.heap ⟨hp.push { cls := .type "tuple_iterator", data := .fields #[.ref l1, .int 0 0] }, g, d, tk, os⟩) l2 ys := Heap.IsList.push k2 _
    wp_walk using wpAny_pyIter_tuple j1, wpAny_pyIter_list j2
    exact ⟨_, rfl, k⟩
theorem zh_look {b1 b2 : Bool} {h : Heap} {l1 l2 : Addr} : ItrAt b1 (zh5 b1 b2 h l1 l2) h.objs.size l1 0 ∧ ItrAt b2 (zh5 b1 b2 h l1 l2) (h.objs.size + 1) l2 0 ∧ IsPair (zh5 b1 b2 h l1 l2) (h.objs.size + 2) (.ref h.objs.size) (.ref (h.objs.size + 1)) ∧
    IsPair (zh5 b1 b2 h l1 l2) (h.objs.size + 3) .none .none ∧ IsZip (zh5 b1 b2 h l1 l2) (h.objs.size + 4) (h.objs.size + 2) (h.objs.size + 3) .none ∧ (zh4 b1 b2 h l1 l2).objs.size = h.objs.size + 4 ∧ ∀ c o, h.get? c = some o → (zh5 b1 b2 h l1 l2).get? c = some o := by
  have s1 : (zh1 b1 h l1).objs.size = h.objs.size + 1 := Heap.size_push ..
  have s2 : (zh2 b1 b2 h l1 l2).objs.size = h.objs.size + 2 := by rw [Heap.size_push, s1]
  have s3 : (zh3 b1 b2 h l1 l2).objs.size = h.objs.size + 3 := by rw [Heap.size_push, s2]
  have s4 : (zh4 b1 b2 h l1 l2).objs.size = h.objs.size + 4 := by rw [Heap.size_push, s3]
  have g5 : (zh5 b1 b2 h l1 l2).get? (zh4 b1 b2 h l1 l2).objs.size = some _ := Heap.get?_push_size _ rfl
  have g4 : (zh5 b1 b2 h l1 l2).get? (zh3 b1 b2 h l1 l2).objs.size = some _ := Heap.get?_push_of_some _ (Heap.get?_push_size _ rfl)
  have g3 : (zh5 b1 b2 h l1 l2).get? (zh2 b1 b2 h l1 l2).objs.size = some _ := Heap.get?_push_of_some _ (Heap.get?_push_of_some _ (Heap.get?_push_size _ rfl))
  have g2 : (zh5 b1 b2 h l1 l2).get? (zh1 b1 h l1).objs.size = some _ := Heap.get?_push_of_some _ (Heap.get?_push_of_some _ (Heap.get?_push_of_some _ (Heap.get?_push_size _ rfl)))
  have g1 : (zh5 b1 b2 h l1 l2).get? h.objs.size = some _ := Heap.get?_push_of_some _ (Heap.get?_push_of_some _ (Heap.get?_push_of_some _ (Heap.get?_push_of_some _ (Heap.get?_push_size _ rfl))))
  rw [s2, s3, s4] at g5
  rw [s1, s2] at g3
  rw [s3] at g4
  rw [s1] at g2
  refine ⟨?_, ?_, g3, g4, g5, s4, fun c o x => Heap.get?_push_of_some _ (Heap.get?_push_of_some _ (Heap.get?_push_of_some _ (Heap.get?_push_of_some _ (Heap.get?_push_of_some _ x))))⟩
  · cases b1
    · exact ⟨_, g1, rfl, rfl⟩
    · exact ⟨_, g1, rfl, rfl⟩
  · cases b2
    · exact ⟨_, g2, rfl, rfl⟩
    · exact ⟨_, g2, rfl, rfl⟩
theorem callZ {prog : Program} {w : World} {A : Around} {E : Value → Shared → Prop} {s : Shared} {b1 b2 : Bool} {l1 l2 : Addr} {xs ys : Array Value} {Q : Value → Shared → Prop} (h1 : ObjAt b1 s.heap l1 xs) (h2 : ObjAt b2 s.heap l2 ys)
    (k : ∀ h', IsZip h' (s.heap.objs.size + 4) (s.heap.objs.size + 2) (s.heap.objs.size + 3) .none → IsPair h' (s.heap.objs.size + 2) (.ref s.heap.objs.size) (.ref (s.heap.objs.size + 1)) → IsPair h' (s.heap.objs.size + 3) .none .none →
      ItrAt b1 h' s.heap.objs.size l1 0 → ItrAt b2 h' (s.heap.objs.size + 1) l2 0 → (∀ c o, s.heap.get? c = some o → h'.get? c = some o) → Q (.ref (s.heap.objs.size + 4)) { s with heap := h' }) :
    wpAny (model prog w) A (PySem.call (.type "zip") [.ref l1, .ref l2]) Q E s := by
  match b1, b2, h1, h2, k with
  | false, false, h1, h2, k => exact call_zip_2 h1 h2 fun h' z a b c d _ e => k h' z a b c d e
  | true, true, h1, h2, k => exact RZ.call_zipT h1 h2 fun h' z a b c d _ e => k h' z a b c d e
  | false, true, h1, h2, k =>
    obtain ⟨a, b, c, d, e, s4, f⟩ := zh_look (b1 := false) (b2 := true) (h := s.heap) (l1 := l1) (l2 := l2)
    refine callType_new F.called_zip (by decide) (F.typeCall_zip_2 _ _) (F.newCall_zip_2 _ _) (fun obj => F.args_object_init_3 obj _ _) F.entry_zip_new (newLT l1 l2 xs ys) ⟨h1, h2, ?_⟩
    show _ ∧ _
    rw [s4]
    exact ⟨⟨_, e, rfl⟩, k _ e c d a b f⟩
  | true, false, h1, h2, k =>
    obtain ⟨a, b, c, d, e, s4, f⟩ := zh_look (b1 := true) (b2 := false) (h := s.heap) (l1 := l1) (l2 := l2)
    refine callType_new F.called_zip (by decide) (F.typeCall_zip_2 _ _) (F.newCall_zip_2 _ _) (fun obj => F.args_object_init_3 obj _ _) F.entry_zip_new (newTL l1 l2 xs ys) ⟨h1, h2, ?_⟩
    show _ ∧ _
    rw [s4]
    exact ⟨⟨_, e, rfl⟩, k _ e c d a b f⟩
def iZipS (K : PySem.W.Frag) (ta : TA) : TI := fun σ H R => ta σ H fun vs H1 => ∃ b1 b2 a1 a2 xs ys, vs = [.ref a1, .ref a2] ∧ SqB b1 K H1 a1 xs ∧ SqB b2 K H1 a2 ys ∧ R (ItZ K b1 b2 a1 a2 xs ys) H1
theorem pi_zipS {X : Cx} {e e2 : Expr} {ta : TA} {p pos tpos : Pos} {elts : List Expr} {kk : Nat} (hg : Gl X "zip") (hm : X.mg "zip" = none) (ha : PA X [e, e2] ta)
    (hs : starEach [e, e2] X.env = (false, eval e X.env) :: starEach [e2] X.env := by rfl) (hpl : (backTo pos (starEach [e2] X.env)).any (·.1) = false := by rfl) : PI X (.Tuple elts kk tpos) (.Call (.Name "zip" p) [e, e2] [] pos) (iZipS X.K ta) := by
  refine ⟨fun pins s σ H R I h => Call_ (ld_blt I hg hm PyProof.Rows.boot_zip (PyProof.Rows.callWith_type1 (thn (ha.run pos pins s σ H _ I h) fun us s1 hu => ?_) hs hpl))⟩
  obtain ⟨vs, H1, I1, r1, b1, b2, a1, a2, xs, ys, rfl, q1, q2, q⟩ := hu
  obtain ⟨u1, us1, rfl, ru1, r2⟩ : ∃ u1 us', us = u1 :: us' ∧ RelV (.ref a1) u1 ∧ Vals [.ref a2] us' := by
    cases r1 with
    | cons x y => exact ⟨_, _, rfl, x, y⟩
  obtain ⟨u2, rfl, ru2⟩ := vals1 r2
  obtain rfl : u1 = .ref a1 := ru1
  obtain rfl : u2 = .ref a2 := ru2
  obtain ⟨is1, v1, o1⟩ := sqB I1 q1
  obtain ⟨is2, v2, o2⟩ := sqB I1 q2
  have l1 := o1.lt
  have l2 := o2.lt
  refine callZ o1 o2 fun h' z TI TO i1 i2 hk => wpAny_pyIter_zip z ?_
  have I2 : Inv X pins σ H1 { s1 with heap := h' } := I1.kept (t' := s1.toks) hk
  refine ⟨_, [s1.heap.objs.size + 4, s1.heap.objs.size + 2, s1.heap.objs.size + 3, s1.heap.objs.size, s1.heap.objs.size + 1], _, _, H1, rfl, I2, turnZ (PySem.W.ktu_apart s1.heap.objs.size a1 a2 l1 l2), ⟨z, TI, ⟨_, _, TO⟩, i1, i2, Nat.zero_le _, Nat.zero_le _⟩, fun c hc => ?_, q⟩
  have hle : s1.heap.objs.size ≤ c := by
    have e' : c = s1.heap.objs.size + 4 ∨ c = s1.heap.objs.size + 2 ∨ c = s1.heap.objs.size + 3 ∨ c = s1.heap.objs.size ∨ c = s1.heap.objs.size + 1 := by simpa using hc
    rcases e' with z | z | z | z | z <;> rw [z] <;> first | exact Nat.le_refl _ | exact Nat.le_add_right _ _
  exact I1.fpOk hle (I1.hok.fresh hle)
end Zk
set_option maxHeartbeats 4000000
/-! # Zk: enumerate over a list or a tuple -/
namespace Zk
open PySem PySem.Spec PyProof.Rows L2
open AutoSeq1 (wpAny_loadPart')
/-- pairs of the place and the item, new each turn -/
def ItE (K : PySem.W.Frag) (b : Bool) (a : Addr) (xs : List V) : It :=
  ⟨fun i H => SqB b K H a xs ∧ i < xs.length, fun i H v H' => ∃ T x, v = .ref T ∧ H T = none ∧ H' = upd H T (.tup [.int (i : Nat), x]) ∧ xs[i]? = some x, fun i H => SqB b K H a xs ∧ xs.length ≤ i⟩
def EnumSt (b : Bool) (e it a : Addr) (n i : Nat) (h : Heap) : Prop := (∃ old, IsEnum h e it ((i : Nat) : Int) old) ∧ ItrAt b h it a i ∧ e ≠ it ∧ a ≠ it ∧ a ≠ e ∧ i ≤ n
theorem turnE {P : Program} {w : World} {K : PySem.W.Frag} {elts : List Expr} {kk : Nat} {tpos : Pos} {b : Bool} {a e it : Addr} {xs : List V} : Turn P w K (.Tuple elts kk tpos) (ItE K b a xs) [e, it] e (EnumSt b e it a xs.length) where
  mem := List.mem_cons_self
  obj := fun i h st c hc => by
    obtain ⟨⟨old, he⟩, h1, _⟩ := st
    have q : c = e ∨ c = it := by simpa using hc
    rcases q with rfl | rfl
    · exact ⟨_, he, fun v z => nomatch z⟩
    · exact h1.ob
  keep := fun i h h' st k => by
    obtain ⟨⟨old, he⟩, h1, r⟩ := st
    exact ⟨⟨old, k e (by simp) _ he⟩, h1.at fun o q => k it (by simp) o q, r⟩
  item := by
    intro X hP hw hK hc i pins s σ H E I hf st hg
    subst hP hw hK
    obtain ⟨⟨old, he⟩, h1, n1, n2, n3, _⟩ := st
    obtain ⟨q1, l1⟩ := hg
    obtain ⟨us, r1, o1⟩ := sqB I q1
    have e1 := r1.length
    have h0 : X.A.in1.handled = none := I.ok.hd hc
    have hel : e < s.heap.objs.size := Heap.lt_size he
    refine wpAny_pyNext_enum_itemD (draw b h0 it a n2 us.toArray) he ⟨h1, o1⟩ (by simp; omega) n1 (by simp [n1, n3.symm]) fun u h' tk hu ho st1 hT hsz hk => ?_
    refine ⟨_, rfl, wpAny_letOwnedTupleGo_enum (s := { s with heap := h', toks := tk + 1 }) ho fun h'' he' sb => ?_⟩
    have hx : xs[i]? = some xs[i] := List.getElem?_eq_getElem l1
    obtain ⟨u', eu, ru⟩ := r1.get hx
    have hu' : us[i]? = some u := by simpa using hu
    rw [eu] at hu'
    cases hu'
    have hT2 : h''.get? s.heap.objs.size = some { cls := .type "tuple", data := .seq #[.int i tk, u] } := (sb.2 _ (Nat.ne_of_gt hel)).trans hT
    have nw : ObjOk X.prog X.w (upd H s.heap.objs.size (.tup [.int (i : Nat), xs[i]])) h'' s.heap.objs.size (.tup [.int (i : Nat), xs[i]]) :=
      ⟨by show 2 ≤ sizeLine; decide, [.int i tk, u], .cons ⟨_, rfl⟩ (.cons ru .nil), ⟨_, hT2, rfl, _, rfl⟩⟩
    have far : ∀ c o, c ∉ [e, it] → s.heap.get? c = some o → h''.get? c = some o := fun c o hb q => (sb.2 c fun y => hb (by simp [y])).trans (hk c o (fun y => hb (by simp [y])) (fun y => hb (by simp [y])) q)
    have I1 : Inv X pins σ (upd H s.heap.objs.size (.tup [.int (i : Nat), xs[i]])) { s with heap := h'', toks := tk + 1 } := I.turnedNew (ch := [e, it]) far hf (Nat.le_refl _) nw
    refine ⟨.ref s.heap.objs.size, _, I1, rfl, ⟨_, _, rfl, I.hok.fresh (Nat.le_refl _), rfl, hx⟩, ⟨⟨u, ?_⟩, st1.1.at fun o q => (sb.2 it (Ne.symm n1)).trans q, n1, n2, n3, l1⟩, fun c hcm => ?_⟩
    · rw [show ((i + 1 : Nat) : Int) = (i : Int) + 1 by omega]
      exact he'
    · have lt : c < s.heap.objs.size := by
        have q : c = e ∨ c = it := by simpa using hcm
        rcases q with rfl | rfl
        · exact hel
        · obtain ⟨_, z, _⟩ := h1.ob
          exact Heap.lt_size z
      rw [upd_ne (Nat.ne_of_lt lt)]
      exact (hf c hcm).1
  done := by
    intro X hP hw hK hc i pins s σ H E I hf st hg
    subst hP hw hK
    obtain ⟨⟨old, he⟩, h1, n1, n2, n3, l2⟩ := st
    obtain ⟨q1, l1⟩ := hg
    obtain ⟨us, r1, o1⟩ := sqB I q1
    have e1 := r1.length
    have h0 : X.A.in1.handled = none := I.ok.hd hc
    obtain rfl : i = us.toArray.size := by simp; omega
    refine wpAny_pyNext_enum_endD (draw b h0 it a n2 us.toArray) he ⟨h1, o1⟩ fun h' eb => ⟨rfl, ?_⟩
    exact I.turnedL (t' := s.toks) (ch := [e, it]) (fun c o hb q => eb c o (fun y => hb (by simp [y])) q) hf
  self := fun A i s Q E st h => by
    obtain ⟨⟨old, he⟩, _⟩ := st
    exact wpAny_pyIter_enum he h
theorem newET (l : Addr) (items : Array Value) (n : Nat) (dct : Option Addr) (sl : Array (Option Value)) : Meets (Builtin.«enumerate.__new__» ⟨[.type "enumerate", .ref l], []⟩) (fun _ R s => s.heap.get? l = some { cls := .type "tuple", dict := dct, data := .seq items n, slots := sl } ∧
      R (.ok (.ret (.ref (s.heap.push { cls := .type "tuple_iterator", data := .fields #[.ref l, .int 0 0] }).objs.size))) { s with heap := (s.heap.push { cls := .type "tuple_iterator", data := .fields #[.ref l, .int 0 0] }).push { cls := .type "enumerate", data := .fields #[.none, .bool false, .ref s.heap.objs.size, rawInt 0, .none, .none] } }) :=
  .of_wp fun prog w A R s h => by
    obtain ⟨hp, g, d, tk, os⟩ := s
    obtain ⟨hl, k⟩ := h
    have hsub := sub_enumerate
    have hT : Heap.IsTuple (Shared.heap ⟨hp, g, d, tk, os⟩) l items := ⟨_, hl, rfl, n, rfl⟩
    wp_walk using wpAny_loadPart' hl
    refine wpAny_stack_any fun st => wpAny_pure ?_
    split
    · rename_i c _ _ _ _ _
      cases (c == Value.type "enumerate") <;> (wp_walk using wpAny_loadPart' hl, wpAny_pyIter_tuple hT; exact ⟨_, rfl, k⟩)
    · wp_walk using wpAny_loadPart' hl, wpAny_pyIter_tuple hT
      exact ⟨_, rfl, k⟩
theorem callE {prog : Program} {w : World} {A : Around} {E : Value → Shared → Prop} {s : Shared} {b : Bool} {l : Addr} {xs : Array Value} {Q : Value → Shared → Prop} (h1 : ObjAt b s.heap l xs)
    (k : ∀ h', IsEnum h' (s.heap.objs.size + 1) s.heap.objs.size 0 .none → ItrAt b h' s.heap.objs.size l 0 → (∀ c o, s.heap.get? c = some o → h'.get? c = some o) → Q (.ref (s.heap.objs.size + 1)) { s with heap := h' }) :
    wpAny (model prog w) A (PySem.call (.type "enumerate") [.ref l]) Q E s := by
  cases b
  · exact call_enumerate_list h1 fun h' a b _ c => k h' a b c
  · obtain ⟨⟨c, dct, dt, sl⟩, hl, hc, n, hd⟩ := (show s.heap.IsTuple l xs from h1)
    simp only at hc hd
    subst hc hd
    have sz : (s.heap.push { cls := .type "tuple_iterator", data := .fields #[.ref l, .int 0 0] }).objs.size = s.heap.objs.size + 1 := Heap.size_push ..
    have g2 := Heap.get?_push_size (s.heap.push { cls := .type "tuple_iterator", data := .fields #[.ref l, .int 0 0] }) (o := { cls := .type "enumerate", data := .fields #[.none, .bool false, .ref s.heap.objs.size, rawInt 0, .none, .none] }) rfl
    rw [sz] at g2
    refine callType_new F.called_enumerate (by decide) (F.typeCall_enumerate_1 _) (F.newCall_enumerate_1 _) (fun obj => F.args_object_init_2 obj _) F.entry_enumerate_new (newET l xs n dct sl) ⟨hl, ?_⟩
    show _ ∧ _
    rw [sz]
    exact ⟨⟨_, g2, rfl⟩, k _ g2 ⟨_, Heap.get?_push_of_some _ (Heap.get?_push_size _ rfl), rfl, rfl⟩ fun c o x => Heap.get?_push_of_some _ (Heap.get?_push_of_some _ x)⟩
def iEnumS (K : PySem.W.Frag) (ta : TA) : TI := fun σ H R => ta σ H fun vs H1 => ∃ b a xs, vs = [.ref a] ∧ SqB b K H1 a xs ∧ R (ItE K b a xs) H1
theorem pi_enumS {X : Cx} {e : Expr} {ta : TA} {p pos tpos : Pos} {elts : List Expr} {kk : Nat} (hg : Gl X "enumerate") (hm : X.mg "enumerate" = none) (ha : PA X [e] ta) (hs : starEach [e] X.env = [(false, eval e X.env)] := by rfl) :
    PI X (.Tuple elts kk tpos) (.Call (.Name "enumerate" p) [e] [] pos) (iEnumS X.K ta) := by
  refine ⟨fun pins s σ H R I h => Call_ (ld_blt I hg hm boot_enumerate (PyProof.Rows.callWith_type1 (thn (ha.run pos pins s σ H _ I h) fun us s1 hu => ?_) hs rfl))⟩
  obtain ⟨vs, H1, I1, r1, b, a, xs, rfl, q1, q⟩ := hu
  obtain ⟨u1, rfl, ru1⟩ := vals1 r1
  obtain rfl : u1 = .ref a := ru1
  obtain ⟨is1, v1, o1⟩ := sqB I1 q1
  have l1 := o1.lt
  refine callE o1 fun h' he it hk => wpAny_pyIter_enum he ?_
  have I2 : Inv X pins σ H1 { s1 with heap := h' } := I1.kept (t' := s1.toks) hk
  refine ⟨_, [s1.heap.objs.size + 1, s1.heap.objs.size], _, _, H1, rfl, I2, turnE, ⟨⟨.none, he⟩, it, Nat.succ_ne_self _, Nat.ne_of_lt l1, Nat.ne_of_lt (Nat.lt_succ_of_lt l1), Nat.zero_le _⟩, fun c hc => ?_, q⟩
  have hle : s1.heap.objs.size ≤ c := by
    have q : c = s1.heap.objs.size + 1 ∨ c = s1.heap.objs.size := by simpa using hc
    rcases q with z | z <;> rw [z] <;> first | exact Nat.le_refl _ | exact Nat.le_add_right _ _
  exact I1.fpOk hle (I1.hok.fresh hle)
end Zk
set_option maxHeartbeats 4000000
/-! # Zk: targets of several names, what is walked in pairs, sums, slices -/
namespace Zk
open PySem PySem.Spec PyProof.Rows L2
/-! ### targets -/
/-- a target in each context of a family: vs the slots it stores, f what stands there behind it -/
def TgF {ι : Type} (Y : ι → Cx) (K : PySem.W.Frag) (tg : Expr) (vs : List Nat) {α : Type} (c : Cd α) (f : Env → α → Env) : Prop :=
  ∃ g : TG, (∀ b, PG (Y b) tg g) ∧ ∀ ds a v S0 H0 σ S H (Q : L2.St → Hp → Prop), EnvOk K S0 H0 ds σ S H → c.rep K S v a → (∀ σ', σ'.length = σ.length → (∀ j, j ∉ vs → σ'[j]? = σ[j]?) → (∀ S' H', Same S S' → EnvOk K S0 H0 ds σ S' H' → EnvOk K S0 H0 (f ds a) σ' S' H') → Q σ' H) → g v σ H Q
def TgsF {ι : Type} (Y : ι → Cx) (K : PySem.W.Frag) (tgs : List Expr) (vs : List Nat) {τ : Type} (r : CA τ) (f : Env → τ → Env) : Prop :=
  ∃ g : TGs, (∀ b, PGs (Y b) tgs g) ∧ ∀ ds a ws S0 H0 σ S H (Q : L2.St → Hp → Prop), EnvOk K S0 H0 ds σ S H → r.rep K S ws a → (∀ σ', σ'.length = σ.length → (∀ j, j ∉ vs → σ'[j]? = σ[j]?) → (∀ S' H', Same S S' → EnvOk K S0 H0 ds σ S' H' → EnvOk K S0 H0 (f ds a) σ' S' H') → Q σ' H) → g ws σ H Q
section
variable {ι : Type} {Y : ι → Cx} {K : PySem.W.Frag} {α β τ : Type} {c : Cd α} {r : CA τ} {vs ws : List Nat} {pos : Pos} {tg : Expr} {tgs : List Expr}
theorem tgName {x : Str} (i : Nat) (sn : ∀ b, (Y b).N.Nodup) (hi : ∀ b, (Y b).N[i]? = some x := by intro _; rfl) (hx : ∀ b, Loc (Y b).env.scope x := by first | exact fun _ => Or.inl rfl | exact fun _ => Or.inr rfl)
    (hf : ∀ b, (Y b).fn x = true ∨ (Y b).env.scope.names.lookup x = some .local := by first | exact fun _ => .inr rfl | exact fun _ => .inl rfl) : TgF Y K (.Name x pos) [i] c (fun ds a => ds.put i (.st α c a)) :=
  ⟨gName i, fun b => pg_name (X := Y b) (sn b) (hi b) (hx b) (hf b), fun ds a v S0 H0 σ S H Q E r k => k _ (List.length_set ..) (fun j hj => List.getElem?_set_ne (fun (z : i = j) => hj (by rw [← z]; exact List.mem_singleton.mpr rfl))) fun S' H' e E' => E'.putS (c.mono e r)⟩
theorem tgsOne {f : Env → α → Env} (h : TgF Y K tg vs c f) (hs : ∀ b, (assignEach (tg :: []) (Y b).env).map (·.2) = assign tg (Y b).env :: (assignEach [] (Y b).env).map (·.2) := by intro _; rfl) : TgsF Y K [tg] vs (aOne c) f := by
  obtain ⟨g, pg, q⟩ := h
  refine ⟨_, fun b => pgs_cons (pg b) pgs_nil (hs b), fun ds a us S0 H0 σ S H Q E r k => ?_⟩
  obtain ⟨v, rfl, rv⟩ := r
  exact ⟨v, [], rfl, q ds a v S0 H0 σ S H _ E rv fun σ' h1 h2 h3 => ⟨rfl, k σ' h1 h2 h3⟩⟩
theorem tgsCons {f : Env → α → Env} {g : Env → τ → Env} (h : TgF Y K tg vs c f) (hr : TgsF Y K tgs ws r g) (hs : ∀ b, (assignEach (tg :: tgs) (Y b).env).map (·.2) = assign tg (Y b).env :: (assignEach tgs (Y b).env).map (·.2) := by intro _; rfl) :
    TgsF Y K (tg :: tgs) (vs ++ ws) (aCons c r) (fun ds a => g (f ds a.1) a.2) := by
  obtain ⟨t, pg, q⟩ := h
  obtain ⟨u, pu, q2⟩ := hr
  refine ⟨_, fun b => pgs_cons (pg b) (pu b) (hs b), fun ds a us S0 H0 σ S H Q E r k => ?_⟩
  obtain ⟨v, us', rfl, rv, rr⟩ := r
  exact ⟨v, us', rfl, q ds a.1 v S0 H0 σ S H _ E rv fun σ' h1 h2 h3 => q2 _ a.2 us' S0 H0 σ' S H _ (h3 S H (.refl _) E) rr fun σ2 k1 k2 k3 => k σ2 (k1.trans h1) (fun j hj => (k2 j fun z => hj (List.mem_append_right _ z)).trans (h2 j fun z => hj (List.mem_append_left _ z))) fun S' H' e E' => k3 S' H' e (h3 S' H' e E')⟩
theorem tgTup {k n : Nat} {f : Env → τ → Env} (hc : ∀ b, (Y b).calm = true) (h : TgsF Y K tgs vs r f) (hK : ∀ b, (Y b).K = K := by intro _; rfl) (hl : r.n = n := by rfl) (hn : ∀ b, (assignEach tgs (Y b).env).length = n := by intro _; rfl) (hst : ∀ b, (assignEach tgs (Y b).env).findIdx? (·.1) = none := by intro _; rfl) :
    TgF Y K (.Tuple tgs k pos) vs (cP r) f := by
  obtain ⟨t, pg, q⟩ := h
  refine ⟨gTup K n t, fun b => by rw [← hK b]; exact pg_tup (hc b) (pg b) (hn b) (hst b), fun ds a v S0 H0 σ S H Q E rv kk => ?_⟩
  obtain ⟨p, us, rfl, h1, h2⟩ := rv
  exact ⟨p, us, rfl, Same.tup E.inn h1, by rw [r.len h2, hl], q ds a us S0 H0 σ S H Q E h2 kk⟩
end
section
variable {X : Cx} {W : WK} {T : Bool} {ds : Env} {α β γ δ τ ν κ ω : Type} {a b e e2 : Expr} {es : List Expr} {pos p tpos : Pos} {c : Cd α} {c2 : Cd β} {tg : Expr} {vs : List Nat} {f : Env → α → Env}
/-- of a for statement -/
theorem dgF {σ' : Type} {e0 : σ' → Env} (h : TgF (fun _ : Unit => X) X.K tg vs c f) : DG X tg c e0 (fun s a => f (e0 s) a) := by
  obtain ⟨g, pg, q⟩ := h
  exact ⟨g, pg (), fun s a v S0 H0 σ S H Q E r k => q _ a v S0 H0 σ S H Q E r fun σ' _ _ h3 => k σ' (h3 S H (.refl _) E)⟩
/-- of a comprehension -/
theorem dgbF {scope : Scope} {e0 : Env} {ws : List Nat} (h : TgF (blkX X scope) X.K tg vs c f) (hm : ∀ i ∈ vs, i ∈ ws := by decide) : DGB X scope tg ws c e0 (fun a => f e0 a) := by
  obtain ⟨g, pg, q⟩ := h
  exact ⟨g, pg, fun a v S0 H0 σ S H Q E r k => q _ a v S0 H0 σ S H Q E r fun σ' h1 h2 h3 => k σ' h1 (fun j hj => h2 j fun z => hj (hm j z)) h3⟩
/-- a, b, .. = e -/
theorem asgT [kw : KW W] {rest : List Stmt} {cb : RCd β} {eN : ν → Env} {eK : κ → Env} {I : ω → Out β ν κ} {m : R α} {k : α → R ω} (he : DE X W ds e c m) (hg : TgF (fun _ : Unit => X) X.K tg vs c f) (hr : ∀ z, DS X W T (f ds z) rest cb eN eK I (k z))
    (hs : swapsWithSole [tg] e pos.line X.env = pure false := by rfl) (hw : swappedStores [tg] e X.env = pure none := by rfl) (h1 : (assignEach [tg] X.env).map (·.2) = [assign tg X.env] := by rfl) : DS X W T ds (.Assign [tg] e pos :: rest) cb eN eK I (m >>= k) := fun S0 H0 σ S H D nx h E P => by
  obtain ⟨W, rfl⟩ := kw.ex
  obtain ⟨te, pe, qe⟩ := he
  obtain ⟨g, pg, q⟩ := hg
  exact seq (ps_asg pe (pg ()) hs hw h1) (qe S0 H0 σ S H _ E (stE (W := fun _ => W) E P fun z v S' H' E' r P' => q ds z v S0 H0 σ S' H' _ E' r fun σ' _ _ h3 => hr z S0 H0 σ' S' H' D nx h (h3 S' H' (.refl _) E') P'))
/-! ### zip, enumerate -/
theorem sqi {d : Cd (List α)} [k : SqI d c] {K : PySem.W.Frag} {H : Hp} {v : V} {as : List α} (h : d.rep K H v as) : ∃ b p us, v = .ref p ∧ SqB b K H p us ∧ Reps c K H us as := by
  obtain ⟨p, us, e, h1, h2⟩ := k.sq h
  rcases h1 with h1 | h1
  · exact ⟨false, p, us, e, h1, h2⟩
  · exact ⟨true, p, us, e, h1, h2⟩
theorem itz_ok {K : PySem.W.Frag} {S : Hp} {b1 b2 : Bool} {p q : Addr} {us ws : List V} {as : List α} {bs : List β} (h1 : SqB b1 K S p us) (h2 : SqB b2 K S q ws) (r1 : Reps c K S us as) (r2 : Reps c2 K S ws bs) : ItOk (ItZ K b1 b2 p q us ws) K S (cP (aCons c (aOne c2))) (as.zip bs) := fun i S1 H1 s1 s2 => by
  have l1 := r1.length
  have l2 := r2.length
  refine ⟨fun hi => ⟨(h1.mono s1).mono s2, (h2.mono s1).mono s2, ?_⟩, fun z hz => ?_⟩
  · rw [List.length_zip] at hi
    omega
  · have hz2 := hz
    rw [List.getElem?_zip_eq_some] at hz2
    obtain ⟨ha, hb⟩ := hz2
    obtain ⟨u, eu, ru⟩ := r1.get ha
    obtain ⟨w, ew, rw_⟩ := r2.get hb
    refine ⟨⟨(h1.mono s1).mono s2, (h2.mono s1).mono s2, (List.getElem?_eq_some_iff.mp eu).1, (List.getElem?_eq_some_iff.mp ew).1⟩, fun x H' y => ?_⟩
    obtain ⟨t, x', y', rfl, ht, rfl, hx, hy⟩ := y
    rw [eu] at hx
    rw [ew] at hy
    cases hx
    cases hy
    have g : Grow S1 H1 (upd S1 t (.tup [u, w])) (upd H1 t (.tup [u, w])) := .lay s2 ht
    exact ⟨_, g, t, [u, w], rfl, SqT.of upd_same, u, [w], rfl, c.mono (s1.trans g.st) ru, w, rfl, c2.mono (s1.trans g.st) rw_⟩
theorem iterZip {d : Cd (List α)} {d2 : Cd (List β)} [SqI d c] [SqI d2 c2] {m : R (List α)} {n : R (List β)} {elts : List Expr} {kk : Nat} (hm : X.mg "zip" = none) (ha : DE X W ds e d m) (hb : DE X W ds e2 d2 n) (hg : Gl X "zip" := by rfl) (hs : starEach [e, e2] X.env = (false, eval e X.env) :: starEach [e2] X.env := by rfl)
    (hs2 : starEach (e2 :: []) X.env = (false, eval e2 X.env) :: starEach [] X.env := by rfl) (hpl : (backTo pos (starEach [e2] X.env)).any (·.1) = false := by rfl) : DI X W ds (.Tuple elts kk tpos) (.Call (.Name "zip" p) [e, e2] [] pos) (cP (aCons c (aOne c2))) (m >>= fun as => n >>= fun bs => .ok (as.zip bs)) := by
  obtain ⟨t, pa, q⟩ := ha
  obtain ⟨u, pb, q2⟩ := hb
  refine ⟨_, pi_zipS hg hm (pa_cons pa (pa_cons pb pa_nil hs2) hs) hs hpl, fun S0 H0 σ S H Q E P => q S0 H0 σ S H _ E (R.post_mono (R.post_bind.mp P) (fun as k v S1 H1 g1 r1 => q2 S0 H0 σ S1 H1 _ (E.step g1) (R.post_mono (R.post_bind.mp k) (fun bs k2 w S2 H2 g2 r2 => ?_) (fun _ k cl d S' H' g r => k cl d S' H' (g1.trans g) r))) (fun _ k => k))⟩
  obtain ⟨b1, p1, us, rfl, h1, k1⟩ := sqi (d.mono g2.st r1)
  obtain ⟨b2, p2, ws, rfl, h2, k3⟩ := sqi r2
  exact ⟨b1, b2, p1, p2, us, ws, rfl, h1.mono g2.inn, h2.mono g2.inn, k2 _ S2 H2 (g1.trans g2) (itz_ok h1 h2 k1 k3)⟩
def enumL : Int → List α → List (Int × α)
  | _, [] => []
  | i, a :: as => (i, a) :: enumL (i + 1) as
theorem enumL_length : ∀ (i : Int) (as : List α), (enumL i as).length = as.length
  | _, [] => rfl
  | i, _ :: as => congrArg Nat.succ (enumL_length (i + 1) as)
theorem enumL_get : ∀ (i : Int) (as : List α) (k : Nat) (z : Int × α), (enumL i as)[k]? = some z → z.1 = i + (k : Int) ∧ as[k]? = some z.2
  | i, a :: as, 0, z, h => by
    have e : (i, a) = z := Option.some.inj h
    rw [← e]
    exact ⟨by simp, rfl⟩
  | i, a :: as, k + 1, z, h => by
    obtain ⟨h1, h2⟩ := enumL_get (i + 1) as k z h
    exact ⟨by rw [h1]; omega, h2⟩
  | i, [], k, z, h => by simp [enumL] at h
theorem ite_ok {K : PySem.W.Frag} {S : Hp} {b : Bool} {p : Addr} {us : List V} {as : List α} (h1 : SqB b K S p us) (r1 : Reps c K S us as) : ItOk (ItE K b p us) K S (cP (aCons cI (aOne c))) (enumL 0 as) := fun i S1 H1 s1 s2 => by
  have l1 := r1.length
  refine ⟨fun hi => ⟨(h1.mono s1).mono s2, ?_⟩, fun z hz => ?_⟩
  · rw [enumL_length] at hi
    omega
  · obtain ⟨z1, z2⟩ := enumL_get 0 as i z hz
    obtain ⟨u, eu, ru⟩ := r1.get z2
    refine ⟨⟨(h1.mono s1).mono s2, (List.getElem?_eq_some_iff.mp eu).1⟩, fun x H' y => ?_⟩
    obtain ⟨t, x', rfl, ht, rfl, hx⟩ := y
    rw [eu] at hx
    cases hx
    have g : Grow S1 H1 (upd S1 t (.tup [.int (i : Nat), u])) (upd H1 t (.tup [.int (i : Nat), u])) := .lay s2 ht
    refine ⟨_, g, t, _, rfl, SqT.of upd_same, _, [u], rfl, ?_, u, rfl, c.mono (s1.trans g.st) ru⟩
    show V.int _ = V.int _
    rw [z1, Int.zero_add]
theorem iterEnum {d : Cd (List α)} [SqI d c] {m : R (List α)} {elts : List Expr} {kk : Nat} (hm : X.mg "enumerate" = none) (ha : DE X W ds e d m) (hg : Gl X "enumerate" := by rfl) (hs : starEach [e] X.env = [(false, eval e X.env)] := by rfl) :
    DI X W ds (.Tuple elts kk tpos) (.Call (.Name "enumerate" p) [e] [] pos) (cP (aCons cI (aOne c))) (m >>= fun as => .ok (enumL 0 as)) := by
  obtain ⟨t, pa, q⟩ := ha
  refine ⟨_, pi_enumS hg hm (pa_cons pa pa_nil hs) hs, fun S0 H0 σ S H Q E P => q S0 H0 σ S H _ E (R.post_mono (R.post_bind.mp P) (fun as k v S1 H1 g1 r1 => ?_) (fun _ k => k))⟩
  obtain ⟨b1, p1, us, rfl, h1, k1⟩ := sqi r1
  exact ⟨b1, p1, us, rfl, h1.mono g1.inn, k _ S1 H1 g1 (ite_ok h1 k1)⟩
/-! ### sum, any, all, max of a list -/
theorem reps_int {K : PySem.W.Frag} {S : Hp} : ∀ {us : List V} {ns : List Int}, Reps cI K S us ns → us = ns.map V.int
  | [], [], _ => rfl
  | _ :: _, _ :: _, h => by rw [show _ = V.int _ from h.1, reps_int h.2]; rfl
  | [], _ :: _, h => h.elim
  | _ :: _, [], h => h.elim
theorem reps_bl {K : PySem.W.Frag} {S : Hp} : ∀ {us : List V} {ns : List Bool}, Reps cB K S us ns → us = ns.map V.bl
  | [], [], _ => rfl
  | _ :: _, _ :: _, h => by rw [show _ = V.bl _ from h.1, reps_bl h.2]; rfl
  | [], _ :: _, h => h.elim
  | _ :: _, [], h => h.elim
theorem cs_sum {W : XK} {K : PySem.W.Frag} : CallSem K W (rSum K) (aOne (cL cI)) cI (fun z => .ok z.sum) := fun z vs S H Q i r P => by
  obtain ⟨v, rfl, q, us, rfl, h1, h2⟩ := r
  obtain rfl := reps_int h2
  exact ⟨q, z, rfl, Same.seq i h1, P.ok i rfl⟩
theorem cs_any {W : XK} {K : PySem.W.Frag} : CallSem K W (rAny K) (aOne (cL cB)) cB (fun z => .ok (z.any id)) := fun z vs S H Q i r P => by
  obtain ⟨v, rfl, q, us, rfl, h1, h2⟩ := r
  obtain rfl := reps_bl h2
  exact ⟨q, z, rfl, Same.seq i h1, P.ok i rfl⟩
theorem cs_all {W : XK} {K : PySem.W.Frag} : CallSem K W (rAll K) (aOne (cL cB)) cB (fun z => .ok (z.all id)) := fun z vs S H Q i r P => by
  obtain ⟨v, rfl, q, us, rfl, h1, h2⟩ := r
  obtain rfl := reps_bl h2
  exact ⟨q, z, rfl, Same.seq i h1, P.ok i rfl⟩
def maxL : List Int → R Int
  | [] => .stuck
  | x :: xs => .ok (xs.foldl max x)
theorem foldl_max : ∀ (xs : List Int) (x : Int), (xs.foldl max x ∈ x :: xs) ∧ ∀ y ∈ x :: xs, y ≤ xs.foldl max x
  | [], x => ⟨List.mem_cons_self, fun y h => by rw [List.mem_singleton.mp h]; exact Int.le_refl _⟩
  | z :: xs, x => by
    obtain ⟨h1, h2⟩ := foldl_max xs (max x z)
    refine ⟨?_, fun y hy => ?_⟩
    · show xs.foldl max (max x z) ∈ x :: z :: xs
      rcases List.mem_cons.mp h1 with h | h
      · rw [h]
        by_cases q : x ≤ z
        · rw [Int.max_eq_right q]; simp
        · rw [Int.max_eq_left (by omega)]; simp
      · exact List.mem_cons_of_mem _ (List.mem_cons_of_mem _ h)
    · show y ≤ xs.foldl max (max x z)
      have h3 := h2 (max x z) List.mem_cons_self
      rcases List.mem_cons.mp hy with rfl | hy
      · exact Int.le_trans (Int.le_max_left _ _) h3
      · rcases List.mem_cons.mp hy with rfl | hy
        · exact Int.le_trans (Int.le_max_right _ _) h3
        · exact h2 y (List.mem_cons_of_mem _ hy)
theorem cs_maxL {W : XK} {K : PySem.W.Frag} : CallSem K W (rMax K) (aOne (cL cI)) cI maxL := fun z vs S H Q i r P => by
  obtain ⟨v, rfl, q, us, rfl, h1, h2⟩ := r
  obtain rfl := reps_int h2
  cases z with
  | nil => exact False.elim P
  | cons x xs =>
    refine ⟨q, x :: xs, rfl, Same.seq i h1, Nat.succ_pos _, fun m hm hy => ?_⟩
    have k := foldl_max xs x
    have e : m = xs.foldl max x := Int.le_antisymm (k.2 m hm) (hy _ k.1)
    rw [e]
    exact PX.ok (c := cI) P i rfl
section
variable {m : R (List Int)} {mb : R (List Bool)} {d : Cd (List α)}
theorem sumL (hm : X.mg "sum" = none) (ha : DE X W ds e (cL cI) m) (hc : X.calm = true := by rfl) (hg : Gl X "sum" := by rfl) (he : starEach (e :: []) X.env = (false, eval e X.env) :: starEach [] X.env := by rfl) (hpl : (backTo pos (starEach [] X.env)).any (·.1) = false := by rfl) :
    DE X W ds (.Call (.Name "sum" p) [e] [] pos) cI (m >>= fun z => .ok z.sum) := callB (nm := "sum") (cr_sum hc) cs_sum (by decide +kernel) hm (arg1 ha he) hg (by decide) (by decide) he hpl
theorem maxL_ (hm : X.mg "max" = none) (ha : DE X W ds e (cL cI) m) (hc : X.calm = true := by rfl) (hg : Gl X "max" := by rfl) (he : starEach (e :: []) X.env = (false, eval e X.env) :: starEach [] X.env := by rfl) (hpl : (backTo pos (starEach [] X.env)).any (·.1) = false := by rfl) :
    DE X W ds (.Call (.Name "max" p) [e] [] pos) cI (m >>= maxL) := callB (nm := "max") (cr_max hc) cs_maxL (by decide +kernel) hm (arg1 ha he) hg (by decide) (by decide) he hpl
theorem anyL (hm : X.mg "any" = none) (ha : DE X W ds e (cL cB) mb) (hc : X.calm = true := by rfl) (hg : Gl X "any" := by rfl) (he : starEach (e :: []) X.env = (false, eval e X.env) :: starEach [] X.env := by rfl) (hpl : (backTo pos (starEach [] X.env)).any (·.1) = false := by rfl) :
    DE X W ds (.Call (.Name "any" p) [e] [] pos) cB (mb >>= fun z => .ok (z.any id)) := callB (nm := "any") (cr_any hc) cs_any (by decide +kernel) hm (arg1 ha he) hg (by decide) (by decide) he hpl
theorem allL (hm : X.mg "all" = none) (ha : DE X W ds e (cL cB) mb) (hc : X.calm = true := by rfl) (hg : Gl X "all" := by rfl) (he : starEach (e :: []) X.env = (false, eval e X.env) :: starEach [] X.env := by rfl) (hpl : (backTo pos (starEach [] X.env)).any (·.1) = false := by rfl) :
    DE X W ds (.Call (.Name "all" p) [e] [] pos) cB (mb >>= fun z => .ok (z.all id)) := callB (nm := "all") (cr_all hc) cs_all (by decide +kernel) hm (arg1 ha he) hg (by decide) (by decide) he hpl
end
end
end Zk
set_option maxHeartbeats 4000000
/-! # Zk: slices, comprehensions over two, None, kinds -/
namespace Zk
open PySem PySem.Spec PyProof.Rows L2
section
variable {X : Cx} {W : WK} {T : Bool} {ds : Env} {α β γ δ τ : Type} {a b e e2 : Expr} {es : List Expr} {pos p p2 : Pos} {c : Cd α} {c1 : Cd γ} {c2 : Cd β}
/-! ### slices -/
def cutA (xs : List α) (lo hi : Option Int) : List α := (xs.drop (HT.sIx xs.length 0 lo)).take (HT.sIx xs.length xs.length hi - HT.sIx xs.length 0 lo)
theorem reps_cut {K : PySem.W.Frag} {S : Hp} {us : List V} {as : List α} (r : Reps c K S us as) (lo hi : Option Int) : Reps c K S (cutV us lo hi) (cutA as lo hi) := by
  unfold cutV cutA
  rw [r.length]
  exact Reps.take _ (Reps.drop _ r)
def DPt (X : Cx) (W : WK) (ds : Env) (e : Option Expr) (m : R (Option Int)) : Prop :=
  ∃ t : TO, PO X e t ∧ ∀ S0 H0 σ S H (Q : Option Int → Hp → Prop), EnvOk X.K S0 H0 ds σ S H → m.post (fun o => ∀ S' H', Grow S H S' H' → Q o H') (fun x => ∀ cl d S' H', Grow S H S' H' → repX X.K S' cl d x → W σ cl d H') → t σ H Q
theorem ptN : DPt X W ds none (.ok none) := ⟨_, po_none, fun S0 H0 σ S H Q E P => P S H (.refl E.inn)⟩
theorem ptE {m : R Int} (h : DE X W ds e cI m) : DPt X W ds (some e) (m >>= fun i => .ok (some i)) := by
  obtain ⟨t, p, q⟩ := h
  refine ⟨_, po_some p, fun S0 H0 σ S H Q E P => q S0 H0 σ S H _ E (R.post_mono (R.post_bind.mp P) (fun i k v S' H' g r => ⟨i, r, k S' H' g⟩) (fun _ k => k))⟩
theorem ptE_p {i : Int} (h : DE X W ds e cI (.ok i)) : DPt X W ds (some e) (.ok (some i)) := ptE h
theorem slL {lo hi : Option Expr} {m : R (List α)} {ml mh : R (Option Int)} (ha : DE X W ds e (cL c) m) (hl : DPt X W ds lo ml) (hh : DPt X W ds hi mh) : DL X W ds (.Subscript e (.Slice lo hi none p2) pos) c (m >>= fun xs => ml >>= fun l => mh >>= fun h => .ok (cutA xs l h)) := by
  obtain ⟨t, pe, q⟩ := ha
  obtain ⟨tl, pl, ql⟩ := hl
  obtain ⟨th, ph, qh⟩ := hh
  refine ⟨_, pe_slice sl_list pe pl ph, fun S0 H0 σ S H Q E P => q S0 H0 σ S H _ E (R.post_mono (R.post_bind.mp P) (fun xs k v S1 H1 g1 r1 => ql S0 H0 σ S1 H1 _ (E.step g1) (R.post_mono (R.post_bind.mp k) (fun l k2 S2 H2 g2 => qh S0 H0 σ S2 H2 _ ((E.step g1).step g2) (R.post_mono (R.post_bind.mp k2) (fun h k3 S3 H3 g3 => ?_) (fun _ k cl d S' H' g r => k cl d S' H' ((g1.trans g2).trans g) r))) (fun _ k cl d S' H' g r => k cl d S' H' (g1.trans g) r))) (fun _ k => k))⟩
  have g13 := g1.trans (g2.trans g3)
  obtain ⟨l', us, rfl, h1, h2⟩ := (cL c).mono (g2.trans g3).st r1
  refine ⟨l', us, rfl, Same.seq g3.inn h1, fun q hq => ?_⟩
  have g4 : Grow S3 H3 S3 (upd H3 q (.lst (cutV us l h))) := .lay' g3.inn hq
  exact k3 q _ S3 _ (g13.trans g4) (g13.ex.free hq) (g3.inn.free hq) upd_same (reps_cut h2 l h)
theorem slT {lo hi : Option Expr} {m : R (List α)} {ml mh : R (Option Int)} (ha : DE X W ds e (cT c) m) (hl : DPt X W ds lo ml) (hh : DPt X W ds hi mh) : DE X W ds (.Subscript e (.Slice lo hi none p2) pos) (cT c) (m >>= fun xs => ml >>= fun l => mh >>= fun h => .ok (cutA xs l h)) := by
  obtain ⟨t, pe, q⟩ := ha
  obtain ⟨tl, pl, ql⟩ := hl
  obtain ⟨th, ph, qh⟩ := hh
  refine ⟨_, pe_slice sl_tupA pe pl ph, fun S0 H0 σ S H Q E P => q S0 H0 σ S H _ E (R.post_mono (R.post_bind.mp P) (fun xs k v S1 H1 g1 r1 => ql S0 H0 σ S1 H1 _ (E.step g1) (R.post_mono (R.post_bind.mp k) (fun l k2 S2 H2 g2 => qh S0 H0 σ S2 H2 _ ((E.step g1).step g2) (R.post_mono (R.post_bind.mp k2) (fun h k3 S3 H3 g3 => ?_) (fun _ k cl d S' H' g r => k cl d S' H' ((g1.trans g2).trans g) r))) (fun _ k cl d S' H' g r => k cl d S' H' (g1.trans g) r))) (fun _ k => k))⟩
  have g13 := g1.trans (g2.trans g3)
  obtain ⟨l', us, rfl, h1, h2⟩ := (cT c).mono (g2.trans g3).st r1
  refine ⟨l', us, rfl, Same.tup g3.inn h1, fun w => ?_, fun _ q hq => ?_⟩
  · refine k3 _ S3 H3 g13 ⟨l', us, rfl, h1, ?_⟩
    have z := reps_cut h2 l h
    have ez : cutV us l h = us := by
      unfold cutV
      rw [w.1, w.2, List.drop_zero, Nat.sub_zero, List.take_length]
    rw [ez] at z
    exact z
  · have g4 : Grow S3 H3 (upd S3 q (.tup (cutV us l h))) (upd H3 q (.tup (cutV us l h))) := .lay g3.inn hq
    exact k3 _ _ _ (g13.trans g4) ⟨q, _, rfl, SqT.of upd_same, Reps.mono g4.st (reps_cut h2 l h)⟩
/-! ### None -/
theorem isN_m {j : Nat} {p2 : Pos} {m : R (Option α)} (ha : DE X W ds a (cO c) m) : DE X W ds (.Compare a [.Is] [.Constant .none j p2] pos) cB (m >>= fun o => .ok o.isNone) := by
  obtain ⟨t, p, q⟩ := ha
  refine ⟨_, pe_cmp (pc_isN p), fun S0 H0 σ S H Q E P => q S0 H0 σ S H _ E (R.post_mono (R.post_bind.mp P) (fun o k v S' H' g r => ?_) (fun _ k => k))⟩
  have e : decide (v = V.non) = o.isNone := by
    cases o with
    | none => exact decide_eq_true r
    | some z => exact decide_eq_false r.1
  have k2 := k (V.bl o.isNone) S' H' g rfl
  rw [← e] at k2
  exact k2
theorem isNT_m {j : Nat} {p2 : Pos} {m : R (Option α)} (ha : DE X W ds a (cO c) m) : DT X W ds (.Compare a [.Is] [.Constant .none j p2] pos) (m >>= fun o => .ok o.isNone) := by
  obtain ⟨t, p, q⟩ := ha
  refine valC ⟨_, pc_isN p, fun S0 H0 σ S H Q E P => q S0 H0 σ S H _ E (R.post_mono (R.post_bind.mp P) (fun o k v S' H' g r => ?_) (fun _ k => k))⟩ (nomark _)
  have e : decide (v = V.non) = o.isNone := by
    cases o with
    | none => exact decide_eq_true r
    | some z => exact decide_eq_false r.1
  have k2 := k (V.bl o.isNone) S' H' g rfl
  rw [← e] at k2
  exact k2
end
/-! ### [elt for tg in iter for tg1 in iter1] -/
section
variable {α β γ : Type}
def flatR (g : α → R (List γ)) (f : α → γ → R β) : List α → R (List β)
  | [] => .ok []
  | a :: as => R.nox (g a) >>= fun zs => mapR (f a) zs >>= fun bs => flatR g f as >>= fun cs => .ok (bs ++ cs)
def flatM (g : α → R (List γ)) (f : α → γ → R β) (as : List α) : R (List β) := flatR g f as >>= fun bs => R.guard (bs.length < 16000000) bs
theorem mapR_nx {f : α → R β} : ∀ (l : List α) (x : Exn), mapR f l ≠ .exn x
  | [], _ => fun z => nomatch z
  | a :: as, x => fun z => by
    have z : (R.nox (f a) >>= fun b => mapR f as >>= fun bs => .ok (b :: bs)) = .exn x := z
    cases e : f a with
    | ok b =>
      rw [e] at z
      have z : (mapR f as >>= fun bs => .ok (b :: bs)) = .exn x := z
      cases e2 : mapR f as with
      | ok bs => rw [e2] at z; cases z
      | exn y => exact mapR_nx as y e2
      | stuck => rw [e2] at z; cases z
    | exn y => rw [e] at z; cases z
    | stuck => rw [e] at z; cases z
theorem flatR_nx {g : α → R (List γ)} {f : α → γ → R β} : ∀ (l : List α) (x : Exn), flatR g f l ≠ .exn x
  | [], _ => fun z => nomatch z
  | a :: as, x => fun z => by
    have z : (R.nox (g a) >>= fun zs => mapR (f a) zs >>= fun bs => flatR g f as >>= fun cs => .ok (bs ++ cs)) = .exn x := z
    cases e : g a with
    | ok zs =>
      rw [e] at z
      have z : (mapR (f a) zs >>= fun bs => flatR g f as >>= fun cs => .ok (bs ++ cs)) = .exn x := z
      cases e2 : mapR (f a) zs with
      | ok bs =>
        rw [e2] at z
        have z : (flatR g f as >>= fun cs => .ok (bs ++ cs)) = .exn x := z
        cases e3 : flatR g f as with
        | ok cs => rw [e3] at z; cases z
        | exn y => exact flatR_nx as y e3
        | stuck => rw [e3] at z; cases z
      | exn y => exact mapR_nx zs y e2
      | stuck => rw [e2] at z; cases z
    | exn y => rw [e] at z; cases z
    | stuck => rw [e] at z; cases z
/-- what is still to come fits -/
theorem fits {acc : List β} {m1 : R (List β)} {Q : List β → Prop} {E : Exn → Prop} (hn : ∀ x, m1 ≠ .exn x) (h : (m1 >>= fun ys => R.guard ((acc ++ ys).length < 16000000) (acc ++ ys)).post Q E) : acc.length < 16000000 := by
  cases e : m1 with
  | ok ys =>
    rw [e] at h
    have k := (R.guard_post h).1
    rw [List.length_append] at k
    omega
  | exn x => exact (hn x e).elim
  | stuck => rw [e] at h; exact h.elim
end
section
variable {X : Cx} {W : WK} {ds : Env} {α β γ : Type} {elt tg iter tg1 iter1 : Expr} {scope : Scope} {c : Cd α} {c1 : Cd γ} {c2 : Cd β} {mi : R (List α)} {pos : Pos}
theorem pe_anyE {e : Expr} : ∀ b : Blk, PE (blkX X scope b) e (tAnyE X scope e) := fun b => ⟨fun pins s σ H Q I h => h b pins s I⟩
theorem lc2 {d1 : Cd (List γ)} [SqI d1 c1] {g : α → R (List γ)} {f : α → γ → R β} (own : List (Str × Nat)) (vs1 : List Nat) (ok : BlkOk X.N X.env.scope scope own) (sn : X.N.Nodup) (hc : X.calm = true) (hv : ∀ i ∈ vs1, i ∈ own.map (·.2)) (hi : DI X W ds tg iter c mi) {eB : α → Env} (hg : DGB X scope tg (own.map (·.2)) c (wipeD ds (own.map (·.2))) eB)
    (he1 : ∀ (b : Blk) a, DE (blkX X scope b) (fun _ => E0) (eB a) iter1 d1 (g a)) {f1 : Env → γ → Env} (hg1 : TgF (blkX X scope) X.K tg1 vs1 c1 f1) (he : ∀ (b : Blk) a z, DE (blkX X scope b) (fun _ => E0) (f1 (wipeD (eB a) vs1) z) elt c2 (f a z))
    (hs : ∀ x, foldedSetIterable iter X.env x = pure x := by intro _; rfl) (hs1 : ∀ env x, foldedSetIterable iter1 env x = pure x := by intro _ _; rfl) : DL X W ds (.ListComp elt [⟨tg, iter, [], 0⟩, ⟨tg1, iter1, [], 0⟩] scope pos) c2 (mi >>= fun as => flatM g f as) := by
  obtain ⟨wi, pi, qi⟩ := hi
  obtain ⟨t, pg, qg⟩ := hg
  obtain ⟨t1, pg1, qg1⟩ := hg1
  refine ⟨_, pe_lc2 (tt := tYes) (tt1 := tYes) (wi1 := iSeq X.K (tAnyE X scope iter1)) (te := tAnyE X scope elt) hc sn pi ok hv (fun s H C cl fp => pg (s, H, C, cl, fp)) (fun _ _ _ _ _ => pts_nil) (fun s H C cl fp => pi_seq (X := blkX X scope (s, H, C, cl, fp)) (pe_anyE (s, H, C, cl, fp))) (fun s H C cl fp => pg1 (s, H, C, cl, fp)) (fun _ _ _ _ _ => pts_nil) (fun s H C cl fp => pe_anyE (X := X) (scope := scope) (s, H, C, cl, fp)) hs hs1, fun S0 H0 σ S H Q E P => ?_⟩
  refine qi S0 H0 σ S H _ E (R.post_mono (R.post_bind.mp P) (fun as k J S1 H1 g1 hJ => ?_) (fun _ k => k))
  intro D hD
  have E1 := E.step g1
  let QQ : List β → Prop := fun as => ∀ p vs S' H', Grow S H S' H' → H p = none → S' p = none → H' p = some (.lst vs) → Reps c2 X.K S' vs as → Q (.ref p) H'
  let EE : Exn → Prop := fun x => ∀ cl d S' H', Grow S H S' H' → repX X.K S' cl d x → W σ cl d H'
  have k : (flatR g f as >>= fun ys => R.guard (([] ++ ys).length < 16000000) ([] ++ ys)).post QQ EE := k
  -- what stands at the new list's place: bs, and m is still to come
  let St : Hp → List β → Prop := fun H' bs => ∃ S' vs, Grow S1 H1 S' H' ∧ H' D = some (.lst vs) ∧ S' D = none ∧ Reps c2 X.K S' vs bs
  refine ⟨fun i m H' => m = as.length - i ∧ i ≤ as.length ∧ ∃ bs, St H' bs ∧ (flatR g f (as.drop i) >>= fun ys => R.guard ((bs ++ ys).length < 16000000) (bs ++ ys)).post QQ EE,
    ⟨as.length, rfl, Nat.zero_le _, [], ⟨S1, [], .lay' g1.inn hD, upd_same, g1.inn.free hD, trivial⟩, by simpa using k⟩, ?_⟩
  rintro i m H2 ⟨rfl, hi, bs, ⟨S2, vs, g2, h2, h3, r2⟩, k2⟩
  obtain ⟨j1, j2⟩ := hJ i S2 H2 g2.st g2.inn
  by_cases hlt : i < as.length
  · have ha : as[i]? = some as[i] := List.getElem?_eq_getElem hlt
    obtain ⟨n1, n2⟩ := j2 _ ha
    rw [List.drop_eq_getElem_cons hlt] at k2
    refine .inr ⟨n1, fun H' => ∃ bs, St H' bs ∧ (flatR g f (as.drop (i + 1)) >>= fun ys => R.guard ((bs ++ ys).length < 16000000) (bs ++ ys)).post QQ EE, fun H' q => ⟨as.length - (i + 1), by omega, rfl, hlt, q⟩, fun x H3 y => ?_⟩
    obtain ⟨S3, g3, r3⟩ := n2 x H3 y
    have E3 := ((E1.step (g2.trans g3)).wipe (own.map (·.2)))
    refine qg _ x S0 H0 _ S3 H3 _ E3 r3 fun σ' hl ho EF => ⟨wipe_eq (by rw [hl, wipe_length]) ho, ?_⟩
    have E4 := EF S3 H3 (.refl _) E3
    simp only [tYes, if_true]
    have k3 : (R.nox (g as[i]) >>= fun zs => mapR (f as[i]) zs >>= fun ys1 => flatR g f (as.drop (i + 1)) >>= fun ys => R.guard ((bs ++ (ys1 ++ ys)).length < 16000000) (bs ++ (ys1 ++ ys))).post QQ EE := by
      have k2 : ((R.nox (g as[i]) >>= fun zs => mapR (f as[i]) zs >>= fun bs => flatR g f (as.drop (i + 1)) >>= fun cs => .ok (bs ++ cs)) >>= fun ys => R.guard ((bs ++ ys).length < 16000000) (bs ++ ys)).post QQ EE := k2
      simpa only [R.bind_assoc, R.ok_bind] using k2
    have k4 := R.post_bind.mp k3
    -- the second source
    intro b0
    refine (he1 b0 as[i]).w (Q := fun x H1 => ∃ a, x = .ref a ∧ (((∃ xs, SqL X.K H1 a xs) ∧ _) ∨ ((∃ xs, SqT X.K H1 a xs) ∧ _))) E4 (nox_post (E := EE) (R.post_mono k4 (fun zs k5 v S5 H5 g5 r5 => ?_) (fun _ k => k)))
    have walk : ∀ J1 : It, ItOk J1 X.K S5 c1 zs → ∃ W1 : Nat → Nat → Hp → Prop, (∃ m, W1 0 m H5) ∧ ∀ j k H, W1 j k H →
        (J1.stop j H ∧ ∃ bs, St H bs ∧ (flatR g f (as.drop (i + 1)) >>= fun ys => R.guard ((bs ++ ys).length < 16000000) (bs ++ ys)).post QQ EE) ∨
        (J1.go j H ∧ ∃ Nx1 : Hp → Prop, (∀ H', Nx1 H' → ∃ k', k' < k ∧ W1 (j + 1) k' H') ∧ ∀ x H', J1.yld j H x H' → t1 x (wipe σ' vs1) H' fun σ3 H5 => wipe σ3 vs1 = wipe σ' vs1 ∧ tAnyE X scope elt σ3 H5 fun y H7 => ∃ acc, H7 D = some (.lst acc) ∧ acc.length < sizeLine ∧ Nx1 (upd H7 D (.lst (acc ++ [y])))) := fun J1 hJ1 => by
      refine ⟨fun j m H' => m = zs.length - j ∧ j ≤ zs.length ∧ ∃ bs, (∃ S' vs, Same S5 S' ∧ Grow S1 H1 S' H' ∧ H' D = some (.lst vs) ∧ S' D = none ∧ Reps c2 X.K S' vs bs) ∧
        (mapR (f as[i]) (zs.drop j) >>= fun ys1 => flatR g f (as.drop (i + 1)) >>= fun ys => R.guard ((bs ++ (ys1 ++ ys)).length < 16000000) (bs ++ (ys1 ++ ys))).post QQ EE, ⟨zs.length, rfl, Nat.zero_le _, bs, ?_, k5⟩, ?_⟩
      · exact ⟨S5, vs, .refl _, g2.trans (g3.trans g5), g5.ex _ _ (g3.ex _ _ h2), (g3.trans g5).none h2 h3, Reps.mono (g3.trans g5).st r2⟩
      rintro j m H6 ⟨rfl, hj, bs6, ⟨S6, vs6, g56, g6, d6, s6, r6⟩, k6⟩
      obtain ⟨q1, q2⟩ := hJ1 j S6 H6 g56 g6.inn
      by_cases hlt1 : j < zs.length
      · have hz : zs[j]? = some zs[j] := List.getElem?_eq_getElem hlt1
        obtain ⟨o1, o2⟩ := q2 _ hz
        rw [List.drop_eq_getElem_cons hlt1] at k6
        refine .inr ⟨o1, fun H' => ∃ bs, (∃ S' vs, Same S5 S' ∧ Grow S1 H1 S' H' ∧ H' D = some (.lst vs) ∧ S' D = none ∧ Reps c2 X.K S' vs bs) ∧ (mapR (f as[i]) (zs.drop (j + 1)) >>= fun ys1 => flatR g f (as.drop (i + 1)) >>= fun ys => R.guard ((bs ++ (ys1 ++ ys)).length < 16000000) (bs ++ (ys1 ++ ys))).post QQ EE,
          fun H' q => ⟨zs.length - (j + 1), by omega, rfl, hlt1, q⟩, fun x H7 y => ?_⟩
        obtain ⟨S7, g7, r7⟩ := o2 x H7 y
        have sm : Same S3 S7 := g5.st.trans (g56.trans g7.st)
        have E7 := (EF S7 H7 sm ((E1.step (g6.trans g7)).wipe (own.map (·.2)))).wipe vs1
        refine qg1 _ _ x S0 H0 _ S7 H7 _ E7 r7 fun σ3 hl3 ho3 EF8 => ⟨wipe_eq (by rw [hl3, wipe_length]) ho3, ?_⟩
        have E8 := EF8 S7 H7 (.refl _) E7
        have k7 : (R.nox (f as[i] zs[j]) >>= fun b => mapR (f as[i]) (zs.drop (j + 1)) >>= fun ys1 => flatR g f (as.drop (i + 1)) >>= fun ys => R.guard ((bs6 ++ (b :: ys1 ++ ys)).length < 16000000) (bs6 ++ (b :: ys1 ++ ys))).post QQ EE := by
          have k6 : ((R.nox (f as[i] zs[j]) >>= fun b => mapR (f as[i]) (zs.drop (j + 1)) >>= fun bs => .ok (b :: bs)) >>= fun ys1 => flatR g f (as.drop (i + 1)) >>= fun ys => R.guard ((bs6 ++ (ys1 ++ ys)).length < 16000000) (bs6 ++ (ys1 ++ ys))).post QQ EE := k6
          simpa only [R.bind_assoc, R.ok_bind] using k6
        intro bl
        refine (he bl as[i] zs[j]).w (Q := fun y H7 => ∃ acc, H7 D = some (.lst acc) ∧ acc.length < sizeLine ∧ _) E8 (nox_post (E := EE) (R.post_mono (R.post_bind.mp k7) (fun w k8 v S9 H9 g9 r9 => ?_) (fun _ k => k)))
        have gg : Grow S6 H6 S9 H9 := g7.trans g9
        have d9 : H9 D = some (.lst vs6) := gg.ex _ _ d6
        have s9 : S9 D = none := gg.none d6 s6
        have k9 : (mapR (f as[i]) (zs.drop (j + 1)) >>= fun ys1 => flatR g f (as.drop (i + 1)) >>= fun ys => R.guard (((bs6 ++ [w]) ++ (ys1 ++ ys)).length < 16000000) ((bs6 ++ [w]) ++ (ys1 ++ ys))).post QQ EE := by
          have e : ∀ ys1 ys : List β, bs6 ++ (w :: ys1 ++ ys) = (bs6 ++ [w]) ++ (ys1 ++ ys) := fun ys1 ys => by simp
          simpa only [e] using k8
        have lim : (bs6 ++ [w]).length < 16000000 := by
          have z : ((mapR (f as[i]) (zs.drop (j + 1)) >>= fun ys1 => flatR g f (as.drop (i + 1)) >>= fun ys => .ok (ys1 ++ ys)) >>= fun ys => R.guard (((bs6 ++ [w]) ++ ys).length < 16000000) ((bs6 ++ [w]) ++ ys)).post QQ EE := by simpa only [R.bind_assoc, R.ok_bind] using k9
          refine fits (fun x hx => ?_) z
          cases e1 : mapR (f as[i]) (zs.drop (j + 1)) with
          | ok l1 =>
            rw [e1] at hx
            have hx : (flatR g f (as.drop (i + 1)) >>= fun ys => R.ok (l1 ++ ys)) = .exn x := hx
            cases e2 : flatR g f (as.drop (i + 1)) with
            | ok l2 => rw [e2] at hx; cases hx
            | exn y => exact flatR_nx _ y e2
            | stuck => rw [e2] at hx; cases hx
          | exn y => exact mapR_nx _ y e1
          | stuck => rw [e1] at hx; cases hx
        rw [List.length_append] at lim
        refine ⟨vs6, d9, ?_, bs6 ++ [w], ⟨S9, vs6 ++ [v], ?_, ?_, upd_same, s9, (Reps.mono gg.st r6).append (show Reps c2 X.K S9 [v] [w] from ⟨r9, trivial⟩)⟩, k9⟩
        · rw [r6.length]
          exact Nat.lt_of_lt_of_le (show bs6.length < 16000000 by omega) (by decide)
        · exact g56.trans gg.st
        · have g19 := g6.trans gg
          exact ⟨g19.ex.mut hD, g19.st, g19.inn.mut s9, g19.new⟩
      · have e : j = zs.length := by omega
        subst e
        rw [List.drop_length] at k6
        have k6 : (flatR g f (as.drop (i + 1)) >>= fun ys => R.guard ((bs6 ++ ([] ++ ys)).length < 16000000) (bs6 ++ ([] ++ ys))).post QQ EE := k6
        exact .inl ⟨q1 (Nat.le_refl _), bs6, ⟨S6, vs6, g6, d6, s6, r6⟩, by simpa only [List.nil_append] using k6⟩
    obtain ⟨q, us, rfl, hq, hr⟩ := SqI.sq r5
    rcases hq with hq | hq
    · exact ⟨q, rfl, .inl ⟨⟨us, Same.seq g5.inn hq⟩, walk _ (itl_ok hq hr)⟩⟩
    · exact ⟨q, rfl, .inr ⟨⟨us, Same.tup g5.inn hq⟩, walk _ (itt_ok hq hr)⟩⟩
  · have e : i = as.length := by omega
    subst e
    rw [List.drop_length] at k2
    have k2 : (R.guard ((bs ++ []).length < 16000000) (bs ++ [])).post QQ EE := k2
    have q := (R.guard_post k2).2 D vs S2 H2 (g1.trans g2) (g1.ex.free hD) h3 h2
    rw [List.append_nil] at q
    exact .inl ⟨j1 (Nat.le_refl _), q r2⟩
end
end Zk
set_option maxHeartbeats 4000000
/-! # Zk: new values handed back; instances -/
namespace Zk
open PySem PySem.Spec PyProof.Rows L2
/-! ### what a def hands back for its own -/
def rmS (fp : List Addr) (S : Hp) : Hp := fun p => if p ∈ fp then none else S p
def addS (fp : List Addr) (S H : Hp) : Hp := fun p => if p ∈ fp then H p else S p
section
variable {α : Type} {o : OC α} {K : PySem.W.Frag} {S H S' H' : Hp} {v : V} {a : α} {fp : List Addr}
theorem rm_in (h : p ∈ fp) : rmS fp S p = none := if_pos h
theorem rm_out (h : p ∉ fp) : rmS fp S p = S p := if_neg h
theorem add_in (h : p ∈ fp) : addS fp S H p = H p := if_pos h
theorem add_out (h : p ∉ fp) : addS fp S H p = S p := if_neg h
theorem rm_same (e : Same S S') : Same (rmS fp S) (rmS fp S') := fun p u hu => by
  by_cases h : p ∈ fp
  · rw [rm_in h] at hu; cases hu
  · rw [rm_out h] at hu ⊢; exact e p u hu
theorem rm_le : Same (rmS fp S) S := fun p u hu => by
  by_cases h : p ∈ fp
  · rw [rm_in h] at hu; cases hu
  · rw [rm_out h] at hu; exact hu
/-- a new value, its addresses free in the heap of the start -/
def cNew {α : Type} (o : OC α) : Hp → Cd α := fun H0 =>
  ⟨fun K H v a => ∃ fp, (∀ p ∈ fp, H0 p = none) ∧ o.rep K (rmS fp H) H v a fp, fun {K H H' v a} e ⟨fp, h1, h2⟩ => ⟨fp, h1, o.stay (rm_same e) (fun p hp => ⟨rm_in hp, by
    obtain ⟨_, xs, q⟩ := o.dom h2 p hp
    rw [q]; exact e _ _ q⟩) h2⟩⟩
theorem cNew_c {H0 : Hp} (h : (cNew o H0).rep K S v a) : o.c.rep K S v a := by
  obtain ⟨fp, _, h2⟩ := h
  exact o.set rm_le (fun p hp => rfl) h2
/-- what was settled is one's own again -/
theorem cNew_ow (i : Same S H) (h : (cNew o H).rep K S' v a) (g : Grow S H S' H') : ∃ fp S2, (∀ p ∈ fp, H p = none) ∧ Grow S H S2 H' ∧ o.rep K S2 H' v a fp := by
  obtain ⟨fp, h1, h2⟩ := h
  refine ⟨fp, rmS fp S', h1, ⟨g.ex, fun p u hu => ?_, fun p u hu => g.inn p u (rm_le p u hu), fun p n0 n1 => g.new p n0 ?_⟩, o.stay (.refl _) (fun p hp => ⟨rm_in hp, ?_⟩) h2⟩
  · have np : p ∉ fp := fun z => by
      have q := h1 p z
      rw [i p u hu] at q
      cases q
    rw [rm_out np]
    exact g.st p u hu
  · intro z
    apply n1
    cases q : rmS fp S' p with
    | none => rfl
    | some u => rw [rm_le p u q] at z; cases z
  · obtain ⟨_, xs, q⟩ := o.dom h2 p hp
    rw [q]
    exact g.inn _ _ q
/-- a new value settles -/
theorem add_grow (g : Grow S H S' H') (r : o.rep K S' H' v a fp) (hn : ∀ p ∈ fp, H p = none) : Grow S H (addS fp S' H') H' ∧ Same S' (addS fp S' H') ∧ o.rep K (rmS fp (addS fp S' H')) (addS fp S' H') v a fp := by
  have d := o.dom r
  have s1 : Same S' (addS fp S' H') := fun p u hu => by
    have np : p ∉ fp := fun z => by rw [(d p z).1] at hu; cases hu
    rw [add_out np]; exact hu
  refine ⟨⟨g.ex, g.st.trans s1, fun p u hu => ?_, fun p n0 n1 => ?_⟩, s1, o.stay (fun p u hu => ?_) (fun p hp => ⟨rm_in hp, add_in hp⟩) r⟩
  · by_cases z : p ∈ fp
    · rw [add_in z] at hu; exact hu
    · rw [add_out z] at hu; exact g.inn p u hu
  · by_cases z : p ∈ fp
    · exact hn p z
    · rw [add_out z] at n1; exact g.new p n0 n1
  · have np : p ∉ fp := fun z => by rw [(d p z).1] at hu; cases hu
    rw [rm_out np, add_out np]; exact hu
end
section
variable {X : Cx} {W : WK} {T : Bool} {ds : Env} {α β γ τ ν κ ω : Type} {e : Expr} {es : List Expr} {rest : List Stmt} {pos p : Pos} {c : Cd α} {eN : ν → Env} {eK : κ → Env} {m : R α} {o : OC α}
/-- a new value read as any other -/
theorem dloE (h : DLO X W ds e o m) : DE X W ds e o.c m := by
  obtain ⟨t, p, q⟩ := h
  refine ⟨t, p, fun S0 H0 σ S H Q E P => q S0 H0 σ S H Q E (R.post_mono P (fun a k v fp S' H' g r hn => ?_) (fun _ k => k))⟩
  obtain ⟨g2, s2, r2⟩ := add_grow g r hn
  exact k v _ H' g2 (cNew_c (H0 := H) ⟨fp, hn, r2⟩)
/-- return e, e new -/
theorem retN {g : α → ω} {I : ω → Out α ν κ} (he : DLO X W ds e o m) (hI : ∀ b, I (g b) = .ret b) : DS X W T ds (.Return (some e) pos :: rest) (cNew o) eN eK I (m >>= fun b => .ok (g b)) := fun S0 H0 σ S H D nx h E P => by
  obtain ⟨te, pe, qe⟩ := he
  refine seq (ps_ret pe) (qe S0 H0 σ S H _ E (R.post_mono (R.post_bind.mp P) (fun b q v fp S' H' gr r hn => ?_) (fun x q cl d S' H' g r => q cl d S' H' (E.grow.trans g) r)))
  have P1 : OutP X.K S0 H0 (cNew o) eN eK D (I (g b)) := q
  rw [hI] at P1
  obtain ⟨g2, s2, r2⟩ := add_grow gr r hn
  exact P1 v _ H' (E.grow.trans g2) ⟨fp, fun p hp => E.grow.ex.free (hn p hp), r2⟩
theorem retNF {I : α → Out α ν κ} (he : DLO X W ds e o m) (hI : ∀ b, I b = .ret b := by intro _; rfl) : DS X W T ds (.Return (some e) pos :: rest) (cNew o) eN eK I m := by
  have q := retN (T := T) (rest := rest) (pos := pos) (eN := eN) (eK := eK) (g := fun b => b) he hI
  rw [show (m >>= fun b => R.ok b) = m from R.bind_ok m] at q
  exact q
/-- return x, x's value one's own -/
theorem retOw {I : ω → Out α ν κ} {x : Str} {a : α} {w : ω} (i : Nat) (hd : ds.get i = .ow α o a := by rfl) (hI : I w = .ret a := by rfl) (hN : X.N[i]? = some x := by rfl) (hv : Vis X.env.scope x := by first | exact Or.inl rfl | exact Or.inr (Or.inl rfl) | exact Or.inr (Or.inr rfl))
    (hdb : (x == ("__debug__" : Str)) = false := by decide) (hcd : (x == ("__classdict__" : Str)) = false := by decide) : DS X W T ds (.Return (some (.Name x p)) pos :: rest) (cNew o) eN eK I (.ok w) := fun S0 H0 σ S H D nx h E P => by
  obtain ⟨v, fp, h1, h2, h3⟩ := E.owv hd
  have P1 : OutP X.K S0 H0 (cNew o) eN eK D (I w) := P
  rw [hI] at P1
  have d := o.dom h2
  have g2 : Grow S0 H0 (addS fp S H) H := by
    refine ⟨E.grow.ex, fun p u hu => ?_, fun p u hu => ?_, fun p n0 n1 => ?_⟩
    · have np : p ∉ fp := fun z => by
        have q := (d p z).1
        rw [E.grow.st p u hu] at q
        cases q
      rw [add_out np]; exact E.grow.st p u hu
    · by_cases z : p ∈ fp
      · rw [add_in z] at hu; exact hu
      · rw [add_out z] at hu; exact E.inn p u hu
    · by_cases z : p ∈ fp
      · exact h3 p z
      · rw [add_out z] at n1; exact E.grow.new p n0 n1
  refine seq (ps_ret (pe_var hN hv hdb hcd)) ⟨v, h1, P1 v _ H g2 ⟨fp, h3, o.stay (fun p u hu => ?_) (fun p hp => ⟨rm_in hp, add_in hp⟩) h2⟩⟩
  have np : p ∉ fp := fun z => by rw [(d p z).1] at hu; cases hu
  rw [rm_out np, add_out np]; exact hu
end
/-! ### defs whose result is new -/
def spG {τ γ : Type} (K : PySem.W.Frag) (ca : CA τ) (c : RCd γ) (F : τ → R γ) : Sp := fun vs H Q E => ∃ S z, Same S H ∧ ca.rep K S vs z ∧ PX (c H) K S H (F z) Q E
section
variable {P : Program} {w : World} {K : PySem.W.Frag} {mg : Str → Option Value} {base : Heap} {τ γ ν κ : Type}
theorem fn_mkR {x qual : Str} {prs : Arguments} {body : List Stmt} {scope : Scope} {dvs : List V} {kws : List (Str × V)} {f : Addr} {fd : FuncData} {N ps : List Str} {k : Nat} {ca : CA τ} {c : RCd γ} {F : τ → R γ} {eN : ν → Env} {eK : κ → Env}
    (D : FunD K x qual prs body scope dvs kws f fd) (S : FnScope N ps scope) (hn : ca.n = ps.length) (hl : ca.n ≤ N.length)
    (hb : ∀ (cdv : Value) (A : Around) (outer : List PySem.Env) (s : Shared) (H : Hp) (E : XK), Room k (A.deeper (envOfC qual scope s.heap.objs.size f cdv)) →
      Lets (cxOf (L2N.CX P w) P w K mg base N qual scope f cdv A outer s H E) (fun _ => E) → PassesOwn (model P w) (A.deeper (envOfC qual scope s.heap.objs.size f cdv)) (envOfC qual scope s.heap.objs.size f cdv) (cxOf (L2N.CX P w) P w K mg base N qual scope f cdv A outer s H E).xe →
      ∀ z, DS (cxOf (L2N.CX P w) P w K mg base N qual scope f cdv A outer s H E) (fun _ => E) true (ca.env z ++ List.replicate (N.length - ca.n) .none) body c eN eK (fun b => (.ret b : Out γ ν κ)) (F z)) :
    FnOk P w K mg base (L2N.CX P w) (k + 1) f fd ps (spG K ca c F) := by
  refine D.ok S (fun vs H Q E h => ?_) (fun cdv A outer s H vs Q E hr h => ?_)
  · obtain ⟨S, z, _, r, _⟩ := h
    rw [ca.len r, hn]
  · obtain ⟨S1, z, i, r, Px⟩ := h
    have tk : L2N.Takes (cxOf (L2N.CX P w) P w K mg base N qual scope f cdv A outer s H E) (fun cl d _ H => E cl d H) := L2N.takes_of rfl rfl rfl rfl
    have e0 := EnvOk.start (N := N) (H := H) (ca.sl r) (by rw [ca.len r]; exact hl) i
    rw [ca.len r] at e0
    refine ⟨tS _ body, pss_tS, hb cdv A outer s H E hr tk (passes_of rfl) z S1 H _ S1 H { nx := fun _ H' => Q .non H', rt := Q } (fun _ H' => Q .non H') (.inl rfl) e0 ?_⟩
    exact R.post_mono Px (fun b q v S' H' g r => q v S' H' g r) (fun x q cl d S' H' g r => q cl d S' H' g r)
structure FnN (P : Program) (w : World) (K : PySem.W.Frag) (mg : Str → Option Value) (base : Heap) (x : Str) (k : Nat) (ps : List Str) (ca : CA τ) (o : OC γ) (F : τ → R γ) : Prop where
  ex : ∃ f fd, FnOk P w K mg base (L2N.CX P w) k f fd ps (spG K ca (cNew o) F) ∧ mg x = some (.ref f) ∧ PySem.W.keepIn K (.ref f) = true ∧ Binds K fd ps []
theorem fnn {x : Str} {f : Addr} {fd : FuncData} {ps : List Str} {k : Nat} {ca : CA τ} {o : OC γ} {F : τ → R γ} (h : FnOk P w K mg base (L2N.CX P w) k f fd ps (spG K ca (cNew o) F)) (hm : mg x = some (.ref f)) (hk : PySem.W.keepIn K (.ref f) = true) (hb : Binds K fd ps []) : FnN P w K mg base x k ps ca o F := ⟨⟨f, fd, h, hm, hk, hb⟩⟩
/-- the same, its result like any other -/
theorem FnN.fni {x : Str} {ps : List Str} {k : Nat} {ca : CA τ} {o : OC γ} {F : τ → R γ} (h : FnN P w K mg base x k ps ca o F) : FnI P w K mg base x k ps ca o.c F := by
  obtain ⟨f, fd, h1, h2, h3, h4⟩ := h.ex
  exact ⟨f, fd, h1.imp fun vs H Q E ⟨S, z, i, r, q⟩ => ⟨S, z, i, r, R.post_mono q (fun a k v S' H' g r => k v S' H' g (cNew_c r)) fun _ k => k⟩, h2, h3, h4⟩
end
section
variable {X : Cx} {W : WK} {ds : Env} {γ τ : Type} {e : Expr} {es : List Expr} {pos p : Pos} {o : OC γ}
theorem callN {x : Str} {k : Nat} {ps : List Str} {ca : CA τ} {F : τ → R γ} {m : R τ} {n : R γ} (f : FnN X.prog X.w X.K X.mg X.base x k ps ca o F) (hr : Room k X.A) (hp : Lets X W) (ha : DA X W ds (e :: es) ca m) (hn : n = (m >>= F) := by rfl) (hg : Gl X x := by rfl)
    (hdb : (x == ("__debug__" : Str)) = false := by decide) (he : starEach (e :: es) X.env = (false, eval e X.env) :: starEach es X.env := by rfl) (hpl : (backTo pos (starEach es X.env)).any (·.1) = false := by rfl) : DLO X W ds (.Call (.Name x p) (e :: es) [] pos) o n := by
  obtain ⟨f, fd, F1, h1, h2, h3⟩ := f.ex
  obtain ⟨t, pa, q⟩ := ha
  subst hn
  refine ⟨_, pe_callS (E := W) F1 hr hg h1 h2 h3 (fun σ => L2N.passAt hp σ) pa hdb he hpl, fun S0 H0 σ S H Q E P => q S0 H0 σ S H _ E (R.post_mono (R.post_bind.mp P) (fun z k vs S1 H1 g1 r1 => ?_) (fun _ k => k))⟩
  refine ⟨S1, z, g1.inn, r1, R.post_mono k (fun a k v S' H' g r => ?_) (fun x k cl d S' H' g r => k cl d S' H' (g1.trans g) r)⟩
  obtain ⟨fp, S2, q1, q2, q3⟩ := cNew_ow g1.inn r g
  exact k v fp S2 H' (g1.trans q2) q3 fun p hp => g1.ex.free (q1 p hp)
theorem callNp {x : Str} {k : Nat} {ps : List Str} {ca : CA τ} {F : τ → R γ} {z : τ} {n : R γ} (f : FnN X.prog X.w X.K X.mg X.base x k ps ca o F) (hr : Room k X.A) (hp : Lets X W) (ha : DA X W ds (e :: es) ca (.ok z)) (hn : n = F z := by exact rfl) (hg : Gl X x := by rfl)
    (hdb : (x == ("__debug__" : Str)) = false := by decide) (he : starEach (e :: es) X.env = (false, eval e X.env) :: starEach es X.env := by rfl) (hpl : (backTo pos (starEach es X.env)).any (·.1) = false := by rfl) : DLO X W ds (.Call (.Name x p) (e :: es) [] pos) o n := by
  rw [hn]
  exact callN f hr hp ha rfl hg hdb he hpl
end
end Zk
set_option maxHeartbeats 4000000
/-! # Zk: instances -/
namespace Zk
open PySem PySem.Spec PyProof.Rows L2
section
variable {K : PySem.W.Frag} {H H' : Hp} {α β τ τ' : Type}
theorem EnvV.append : ∀ {ds : Env} {vs : List V} {es : Env} {ws : List V}, EnvV K H ds vs → EnvV K H es ws → EnvV K H (ds ++ es) (vs ++ ws)
  | [], [], _, _, _, k => k
  | _ :: _, _ :: _, _, _, h, k => ⟨h.1, EnvV.append h.2 k⟩
  | [], _ :: _, _, _, h, _ => h.elim
  | _ :: _, [], _, _, h, _ => h.elim
end
/-- one value more -/
def aSnoc {α τ : Type} (r : CA τ) (c : Cd α) : CA (τ × α) :=
  ⟨r.n + 1, fun K H vs a => ∃ ws v, vs = ws ++ [v] ∧ r.rep K H ws a.1 ∧ c.rep K H v a.2, fun a => r.env a.1 ++ [.st α c a.2], fun e ⟨ws, v, h1, h2, h3⟩ => ⟨ws, v, h1, r.mono e h2, c.mono e h3⟩,
    fun ⟨ws, v, h1, h2, h3⟩ => by rw [h1, List.length_append, r.len h2]; rfl, fun ⟨ws, v, h1, h2, h3⟩ => by rw [h1]; exact (r.sl h2).append ⟨⟨α, c, _, rfl, h3⟩, trivial⟩⟩
def aApp {τ τ' : Type} (r : CA τ) (r2 : CA τ') : CA (τ × τ') :=
  ⟨r.n + r2.n, fun K H vs a => ∃ ws zs, vs = ws ++ zs ∧ r.rep K H ws a.1 ∧ r2.rep K H zs a.2, fun a => r.env a.1 ++ r2.env a.2, fun e ⟨ws, v, h1, h2, h3⟩ => ⟨ws, v, h1, r.mono e h2, r2.mono e h3⟩,
    fun ⟨ws, v, h1, h2, h3⟩ => by rw [h1, List.length_append, r.len h2, r2.len h3], fun ⟨ws, v, h1, h2, h3⟩ => by rw [h1]; exact (r.sl h2).append (r2.sl h3)⟩
/-! ### an instance, its fields settled -/
def cIns {τ : Type} (cn : Str) (ns : List Str) (r : CA τ) : Cd τ :=
  ⟨fun (K : PySem.W.Frag) (H : Hp) (v : V) (a : τ) => ∃ (x dx : Addr) (fs : List (Str × V)), v = .ref x ∧ H x = some (.ins (He.ga K cn) dx fs) ∧ fs.map (·.1) = ns ∧ r.rep K H (fs.map (·.2)) a, by
    intro K H H' v a e h
    obtain ⟨x, dx, fs, h1, h2, h3, h4⟩ := h
    exact ⟨x, dx, fs, h1, e _ _ h2, h3, r.mono e h4⟩⟩
/-- an instance that is being made -/
def oI {τ : Type} (x : Addr) (cn : Str) (ns : List Str) (r : CA τ) : OC τ where
  c := cIns cn ns r
  rep K S H v a fp := ∃ (dx : Addr) (fs : List (Str × V)), v = .ref x ∧ fp = [x] ∧ S x = none ∧ H x = some (.ins (He.ga K cn) dx fs) ∧ fs.map (·.1) = ns ∧ r.rep K S (fs.map (·.2)) a
  stay := fun e k ⟨dx, fs, h1, h2, h3, h4, h5, h6⟩ => by
    subst h2
    obtain ⟨k1, k2⟩ := k x (List.mem_singleton.mpr rfl)
    exact ⟨dx, fs, h1, rfl, k1, k2.trans h4, h5, r.mono e h6⟩
  dom := fun ⟨dx, fs, h1, h2, h3, h4, h5, h6⟩ q hq => by
    subst h2
    cases List.mem_singleton.mp hq
    exact ⟨h3, _, h4⟩
  nd := fun ⟨dx, fs, h1, h2, _⟩ => by
    rw [h2]
    exact List.nodup_cons.mpr ⟨by simp, List.nodup_nil⟩
  set := fun e k ⟨dx, fs, h1, h2, h3, h4, h5, h6⟩ => by
    subst h2
    exact ⟨x, dx, fs, h1, (k x (List.mem_singleton.mpr rfl)).trans h4, h5, r.mono e h6⟩
/-! ### fields -/
theorem lookup_out {f : Str} : ∀ {fs : List (Str × V)}, f ∉ fs.map (·.1) → fs.lookup f = none
  | [], _ => rfl
  | (g, v) :: fs, h => by
    have h1 : (f == g) = false := by
      cases q : (f == g) with
      | false => rfl
      | true => exact (h (by rw [beq_iff_eq.mp q]; exact List.mem_cons_self)).elim
    show (match f == g with | true => some v | false => fs.lookup f) = none
    rw [h1]
    exact lookup_out fun z => h (List.mem_cons_of_mem _ z)
theorem lookup_app {f : Str} {gs : List (Str × V)} : ∀ {fs : List (Str × V)}, (fs ++ gs).lookup f = match fs.lookup f with | some v => some v | none => gs.lookup f
  | [] => rfl
  | (g, v) :: fs => by
    show (match f == g with | true => some v | false => (fs ++ gs).lookup f) = match (match f == g with | true => some v | false => fs.lookup f) with | some v => some v | none => gs.lookup f
    cases (f == g) with
    | true => rfl
    | false => exact lookup_app
theorem putF_out {f : Str} {v : V} : ∀ {fs : List (Str × V)}, f ∉ fs.map (·.1) → putF f v fs = fs ++ [(f, v)]
  | [], _ => rfl
  | (g, x) :: fs, h => by
    show (if g = f then (g, v) :: fs else (g, x) :: putF f v fs) = _
    rw [if_neg fun z => h (by rw [z]; exact List.mem_cons_self), putF_out fun z => h (List.mem_cons_of_mem _ z)]
    rfl
def FldAt {τ α : Type} (ns : List Str) (r : CA τ) (f : Str) (c : Cd α) (pr : τ → α) : Prop := ∀ (K : PySem.W.Frag) (H : Hp) (fs : List (Str × V)) (a : τ), fs.map (·.1) = ns → r.rep K H (fs.map (·.2)) a → ∃ v, fs.lookup f = some v ∧ c.rep K H v (pr a)
section
variable {α β τ : Type} {ns : List Str} {r : CA τ} {c : Cd α} {c2 : Cd β} {f g : Str} {pr : τ → α}
theorem snoc_split {K : PySem.W.Frag} {H : Hp} {fs : List (Str × V)} {a : τ × β} (h1 : fs.map (·.1) = ns ++ [g]) (h2 : (aSnoc r c2).rep K H (fs.map (·.2)) a) : ∃ (gs : List (Str × V)) (v : V), fs = gs ++ [(g, v)] ∧ gs.map (·.1) = ns ∧ r.rep K H (gs.map (·.2)) a.1 ∧ c2.rep K H v a.2 := by
  obtain ⟨ws, v, k1, k2, k3⟩ := h2
  obtain ⟨l1, l2, e, e1, e2⟩ := List.map_eq_append_iff.mp h1
  subst e
  rw [List.map_append] at k1
  match l2, e2 with
  | [q], e2 =>
    have e3 : q.1 = g := by simpa using e2
    have k4 := List.append_inj' k1 rfl
    have e4 : q.2 = v := by simpa using k4.2
    exact ⟨l1, v, by rw [← e3, ← e4], e1, by rw [k4.1]; exact k2, k3⟩
theorem fLast (h : g ∉ ns := by decide +kernel) : FldAt (ns ++ [g]) (aSnoc r c2) g c2 (fun a => a.2) := fun K H fs a h1 h2 => by
  obtain ⟨gs, v, rfl, e1, _, e3⟩ := snoc_split h1 h2
  refine ⟨v, ?_, e3⟩
  rw [lookup_app, lookup_out (by rw [e1]; exact h)]
  show (match g == g with | true => some v | false => none) = some v
  rw [beq_self_eq_true]
theorem fPrev (h : FldAt ns r f c pr) : FldAt (ns ++ [g]) (aSnoc r c2) f c (fun a => pr a.1) := fun K H fs a h1 h2 => by
  obtain ⟨gs, v, rfl, e1, e2, _⟩ := snoc_split h1 h2
  obtain ⟨u, k1, k2⟩ := h K H gs a.1 e1 e2
  exact ⟨u, by rw [lookup_app, k1], k2⟩
end
section
variable {X : Cx} {W : WK} {T : Bool} {ds : Env} {α β γ τ ν κ ω : Type} {e : Expr} {es : List Expr} {rest : List Stmt} {pos p : Pos} {c : Cd α} {cb : RCd β} {eN : ν → Env} {eK : κ → Env} {I : ω → Out β ν κ} {m : R α} {k : α → R ω} {cn f : Str} {ns : List Str} {r : CA τ} {pr : τ → α}
/-- e.f -/
theorem fld {mo : R τ} (he : DE X W ds e (cIns cn ns r) mo) (hf : FldAt ns r f c pr) (hc : Cls X.K (He.ga X.K cn)) (hn : NoAttr X.K (He.ga X.K cn) f) (hb : attributeBase e f X.env (eval e X.env) = eval e X.env := by rfl) : DE X W ds (.Attribute e f pos) c (mo >>= fun a => .ok (pr a)) := by
  obtain ⟨t, pe, q⟩ := he
  refine ⟨_, pe_fld pe hb, fun S0 H0 σ S H Q E P => q S0 H0 σ S H _ E (P.bind fun a v S1 H1 g ⟨x, dx, fs, e1, e2, e3, e4⟩ P1 => ?_)⟩
  obtain ⟨u, k1, k2⟩ := hf _ _ _ _ e3 e4
  exact ⟨x, _, dx, fs, u, e1, g.inn _ _ e2, hc, hn, k1, P1.ok g.inn k2⟩
theorem fld_p {a : τ} (he : DE X W ds e (cIns cn ns r) (.ok a)) (hf : FldAt ns r f c pr) (hc : Cls X.K (He.ga X.K cn)) (hn : NoAttr X.K (He.ga X.K cn) f) (hb : attributeBase e f X.env (eval e X.env) = eval e X.env := by rfl) : DE X W ds (.Attribute e f pos) c (.ok (pr a)) := fld he hf hc hn hb
/-- x.f, x's instance being made -/
theorem fldO {x : Addr} {a : τ} {n : Str} {p1 : Pos} (i : Nat) (hf : FldAt ns r f c pr) (hc : Cls X.K (He.ga X.K cn)) (hn : NoAttr X.K (He.ga X.K cn) f) (hd : ds.get i = .ow τ (oI x cn ns r) a := by rfl) (hN : X.N[i]? = some n := by rfl)
    (hv : Vis X.env.scope n := by first | exact Or.inl rfl | exact Or.inr (Or.inl rfl) | exact Or.inr (Or.inr rfl)) (hdb : (n == ("__debug__" : Str)) = false := by decide) (hcd : (n == ("__classdict__" : Str)) = false := by decide)
    (hb : attributeBase (.Name n p1) f X.env (eval (.Name n p1) X.env) = eval (.Name n p1) X.env := by rfl) : DE X W ds (.Attribute (.Name n p1) f pos) c (.ok (pr a)) := by
  refine ⟨_, pe_fld (pe_var hN hv hdb hcd) hb, fun S0 H0 σ S H Q E P => ?_⟩
  obtain ⟨v, fp, h1, ⟨dx, fs, e1, e2, e3, e4, e5, e6⟩, h3⟩ := E.owv hd
  subst e1
  obtain ⟨u, k1, k2⟩ := hf _ _ _ _ e5 e6
  exact ⟨.ref x, h1, x, _, dx, fs, u, rfl, e4, hc, hn, k1, P.ok E.inn k2⟩
/-- x.f = e, x's instance being made -/
theorem fldS [kw : KW W] {x : Addr} {a : τ} {n : Str} {p1 pos' : Pos} (i : Nat) (he : DE X W ds e c m) (hr : ∀ z, DS X W T (ds.put i (.ow (τ × α) (oI x cn (ns ++ [f]) (aSnoc r c)) (a, z))) rest cb eN eK I (k z)) (hc : Cls X.K (He.ga X.K cn)) (hn : NoAttr X.K (He.ga X.K cn) f)
    (hd : ds.get i = .ow τ (oI x cn ns r) a := by rfl) (hN : X.N[i]? = some n := by rfl) (hf : f ∉ ns := by decide +kernel) (hl : ns.length < 1000 := by decide +kernel)
    (hv : Vis X.env.scope n := by first | exact Or.inl rfl | exact Or.inr (Or.inl rfl) | exact Or.inr (Or.inr rfl)) (hdb : (n == ("__debug__" : Str)) = false := by decide) (hcd : (n == ("__classdict__" : Str)) = false := by decide)
    (hs : swapsWith e (some (.Attribute (.Name n p1) f pos')) pos.line X.env = pure false := by rfl) : DS X W T ds (.Assign [.Attribute (.Name n p1) f pos'] e pos :: rest) cb eN eK I (m >>= k) := fun S0 H0 σ S H D nx h E P => by
  obtain ⟨W, rfl⟩ := kw.ex
  obtain ⟨te, pe, qe⟩ := he
  refine seq (ps_fld (pe_var hN hv hdb hcd) pe hs) (qe S0 H0 σ S H _ E (stE (W := fun _ => W) E P fun z v S' H' E' rz P' => ?_))
  obtain ⟨u, fp, h1, ⟨dx, fs, e1, e2, e3, e4, e5, e6⟩, h3⟩ := E'.owv hd
  subst e1
  refine ⟨.ref x, h1, x, _, dx, fs, rfl, e4, hc, hn, ?_, ?_⟩
  · have q := congrArg List.length e5
    rw [List.length_map] at q
    rw [q]; exact hl
  · refine hr z S0 H0 σ S' _ D nx h (E'.mut (.refl E'.inn) hd fun v2 fp2 k1 ⟨dx2, fs2, q1, q2, q3, q4, q5, q6⟩ _ => ?_) P'
    subst q1 q2
    rw [e4] at q4
    cases q4
    refine ⟨[x], ⟨dx, putF f v fs, rfl, rfl, q3, upd_same, ?_, ?_⟩, fun p hp => .inl (upd_ne fun z => hp (List.mem_singleton.mpr z)), fun p hp => .inl hp⟩
    · rw [putF_out (by rw [e5]; exact hf), List.map_append, e5]
      rfl
    · rw [putF_out (by rw [e5]; exact hf), List.map_append]
      exact ⟨_, v, rfl, e6, rz⟩
end
/-! ### __init__ -/
def spI {τ γ : Type} (cn : Str) (K : PySem.W.Frag) (ca : CA τ) (ns : List Str) (r : CA γ) (F : τ → R γ) : Sp := fun vs H Q E => ∃ S Hb x dx ws z, vs = .ref x :: ws ∧ Same S Hb ∧ Hb x = none ∧ H = upd Hb x (.ins (He.ga K cn) dx []) ∧ ca.rep K S ws z ∧
  (F z).post (fun a => ∀ (S' H' : Hp) (dx' : Addr) (fs : List (Str × V)), Grow S Hb S' H' → S' x = none → H' x = some (.ins (He.ga K cn) dx' fs) → fs.map (·.1) = ns → r.rep K S' (fs.map (·.2)) a → Q .non H') (fun y => ∀ cl d S' H', Grow S Hb S' H' → repX K S' cl d y → E cl d H')
section
variable {P : Program} {w : World} {K : PySem.W.Frag} {mg : Str → Option Value} {base : Heap} {τ γ ν κ : Type}
theorem fn_mkI {x qual cn : Str} {prs : Arguments} {body : List Stmt} {scope : Scope} {dvs : List V} {kws : List (Str × V)} {f : Addr} {fd : FuncData} {N ps : List Str} {k : Nat} {ca : CA τ} {ns : List Str} {r : CA γ} {F : τ → R γ} {eN : Addr → γ → Env} {eK : κ → Env}
    (D : FunD K x qual prs body scope dvs kws f fd) (S : FnScope N ps scope) (hn : ca.n + 1 = ps.length) (hl : ca.n + 1 ≤ N.length) (hN : ∀ x a, (eN x a).get 0 = .ow γ (oI x cn ns r) a)
    (hb : ∀ (cdv : Value) (A : Around) (outer : List PySem.Env) (s : Shared) (H : Hp) (E : XK), Room k (A.deeper (envOfC qual scope s.heap.objs.size f cdv)) →
      Lets (cxOf (L2N.CX P w) P w K mg base N qual scope f cdv A outer s H E) (fun _ => E) → PassesOwn (model P w) (A.deeper (envOfC qual scope s.heap.objs.size f cdv)) (envOfC qual scope s.heap.objs.size f cdv) (cxOf (L2N.CX P w) P w K mg base N qual scope f cdv A outer s H E).xe →
      ∀ x z, DS (cxOf (L2N.CX P w) P w K mg base N qual scope f cdv A outer s H E) (fun _ => E) false ((.ow Unit (oI x cn [] aNil) () :: ca.env z) ++ List.replicate (N.length - (ca.n + 1)) .none) body (fun _ => cN) (eN x) eK (fun b => (.nxt b : Out Unit γ κ)) (F z)) :
    FnOk P w K mg base (L2N.CX P w) (k + 1) f fd ps (spI cn K ca ns r F) := by
  refine D.ok S (fun vs H Q E h => ?_) (fun cdv A outer s H vs Q E hr h => ?_)
  · obtain ⟨S, Hb, x, dx, ws, z, rfl, _, _, _, r, _⟩ := h
    rw [List.length_cons, ca.len r, hn]
  · obtain ⟨S1, Hb, x, dx, ws, z, rfl, i, hx, rfl, rz, Px⟩ := h
    have tk : L2N.Takes (cxOf (L2N.CX P w) P w K mg base N qual scope f cdv A outer s (upd Hb x (.ins (He.ga K cn) dx [])) E) (fun cl d _ H => E cl d H) := L2N.takes_of rfl rfl rfl rfl
    have lw := ca.len rz
    have e1 := EnvOk.start (K := K) (S := S1) (H := Hb) (N := N) (ds := .none :: ca.env z) (vs := .non :: ws)
    have e0 : EnvOk K S1 Hb ((.ow Unit (oI x cn [] aNil) () :: ca.env z) ++ List.replicate (N.length - (ca.n + 1)) .none) (L2.start N (.ref x :: ws)) S1 (upd Hb x (.ins (He.ga K cn) dx [])) := by
      refine ⟨?_, ⟨fun j => if j = 0 then [x] else [], fun j => ?_, fun j l p hj hl => ?_⟩, .lay' i hx⟩
      · unfold L2.start
        rw [List.length_append, List.length_append, List.length_map, List.length_replicate, List.length_replicate, List.length_cons, List.length_cons, (ca.sl rz).length, lw]
      · cases j with
        | zero => exact ⟨⟨.ref x, rfl, dx, [], rfl, rfl, i.free hx, upd_same, rfl, rfl⟩, fun p hp => by rw [List.mem_singleton.mp hp]; exact hx⟩
        | succ j =>
          have q := EnvV.slot (K := K) (H0 := Hb) (H := upd Hb x (.ins (He.ga K cn) dx [])) (n := N.length - (ca.n + 1)) j (ca.sl rz)
          show SlotOk K Hb S1 _ ((ca.env z ++ List.replicate (N.length - (ca.n + 1)) SD.none).get j) (ws.map some ++ List.replicate (N.length - (ws.length + 1)) none)[j]? []
          rw [lw]
          exact q
      · have hj : p ∈ (if j = 0 then [x] else []) := hj
        have hl : p ∈ (if l = 0 then [x] else []) := hl
        by_cases zj : j = 0
        · by_cases zl : l = 0
          · rw [zj, zl]
          · rw [if_neg zl] at hl; simp at hl
        · rw [if_neg zj] at hj; simp at hj
    refine ⟨tS _ body, pss_tS, hb cdv A outer s _ E hr tk (passes_of rfl) x z S1 Hb _ S1 _ { nx := fun _ H' => Q .non H', rt := Q } (fun _ H' => Q .non H') (.inr rfl) e0 ?_⟩
    refine R.post_mono Px (fun b q σ' S' H' e => ?_) (fun x q cl d S' H' g r => q cl d S' H' g r)
    obtain ⟨v, fp, _, ⟨dx', fs, e1, e2, e3, e4, e5, e6⟩, _⟩ := e.owv (hN x b)
    exact q S' H' dx' fs e.grow e3 e4 e5 e6
/-- a class whose instances are made with keywords ks -/
structure ClI (P : Program) (w : World) (K : PySem.W.Frag) (mg : Str → Option Value) (base : Heap) (cn : Str) (k n : Nat) (ks : List Str) {τ τ' γ : Type} (ca : CA τ) (ck : CA τ') (ns : List Str) (r : CA γ) (F : τ × τ' → R γ) : Prop where
  ex : ∃ f fd ps g, FnOk P w K mg base (L2N.CX P w) k f fd ps (spI cn K (aApp ca ck) ns r F) ∧ mg cn = some (.ref (He.ga K cn)) ∧ Mk K (He.ga K cn) f ∧ KBn K fd ps (n + 1) ks g (fun vs zs => vs ++ zs) ∧ ca.n = n ∧ ck.n = ks.length
/-- .. without keywords: what lacks has the values dvs -/
structure ClD (P : Program) (w : World) (K : PySem.W.Frag) (mg : Str → Option Value) (base : Heap) (cn : Str) (k : Nat) {τ τ' γ : Type} (ca : CA τ) (ck : CA τ') (z' : τ') (ns : List Str) (r : CA γ) (F : τ × τ' → R γ) : Prop where
  ex : ∃ f fd ps ds dvs, FnOk P w K mg base (L2N.CX P w) k f fd ps (spI cn K (aApp ca ck) ns r F) ∧ mg cn = some (.ref (He.ga K cn)) ∧ Mk K (He.ga K cn) f ∧ Binds K fd ps ds ∧ Vals dvs ds ∧ ∀ H, ck.rep K H dvs z'
/-- a method -/
structure MtI (P : Program) (w : World) (K : PySem.W.Frag) (mg : Str → Option Value) (base : Heap) (cn m : Str) (k : Nat) (ps : List Str) {τ γ : Type} (ca : CA τ) (c : Cd γ) (F : τ → R γ) : Prop where
  ex : ∃ f fd, FnOk P w K mg base (L2N.CX P w) k f fd ps (spF K ca c F) ∧ Meth K (He.ga K cn) m f ∧ PySem.W.fnIn K f = true ∧ Binds K fd ps []
theorem fnIn_of {x qual : Str} {prs : Arguments} {body : List Stmt} {scope : Scope} {dvs : List V} {kws : List (Str × V)} {f : Addr} {fd : FuncData} (D : FunD K x qual prs body scope dvs kws f fd) : PySem.W.fnIn K f = true := by
  obtain ⟨oc, od, dV, kV, doc, pm, an, cdv, ct, osl, rfl, lk, _⟩ := D.ex
  unfold PySem.W.fnIn
  rw [lk]
end
section
variable {X : Cx} {W : WK} {ds : Env} {α β γ τ τ' : Type} {e o : Expr} {es : List Expr} {kws : List Keyword} {pos p apos : Pos} {cn f : Str} {ns : List Str} {r : CA γ}
/-- the values of keywords -/
def DK (X : Cx) (W : WK) (ds : Env) (kws : List Keyword) {τ : Type} (c : CA τ) (m : R τ) : Prop :=
  ∃ t : TA, PK X kws t ∧ ∀ S0 H0 σ S H Q, EnvOk X.K S0 H0 ds σ S H → PAx c X.K S H m Q (W σ) → t σ H Q
theorem dk1 {nm : Option Str} {kpos : Pos} {c : Cd α} {m : R α} (he : DE X W ds e c m) : DK X W ds [⟨nm, e, kpos⟩] (aOne c) m := by
  obtain ⟨t, pe, q⟩ := he
  exact ⟨_, pk_cons pe pk_nil, fun S0 H0 σ S H Q E P => q S0 H0 σ S H _ E (R.post_mono P (fun a k v S' H' g r => k [v] S' H' g ⟨v, rfl, r⟩) (fun _ k => k))⟩
/-- C(e, .., k = v, ..): a new instance, its own object free -/
theorem mk_new {n : Nat} {ks : List Str} {k : Nat} {ca : CA τ} {ck : CA τ'} {F : τ × τ' → R γ} {m : R τ} {m' : R τ'} {w : R γ} (f : ClI X.prog X.w X.K X.mg X.base cn k n ks ca ck ns r F) (hr : Room (k + 1) X.A) (hp : Lets X W) (ha : DA X W ds (e :: es) ca m) (hk : DK X W ds kws ck m') (hn : w = (m >>= fun a => m' >>= fun b => F (a, b)) := by exact rfl)
    (hg : Gl X cn := by rfl) (hall : (backToKw pos (keywordEach kws X.env)).all (·.1.isSome) = true := by rfl) (hks : (backToKw pos (keywordEach kws X.env)).filterMap (·.1) = ks := by rfl) (hdb : (cn == ("__debug__" : Str)) = false := by decide)
    (he : starEach (e :: es) X.env = (false, eval e X.env) :: starEach es X.env := by rfl) (hpl : ((backTo pos (starEach (e :: es) X.env)).any (·.1) || (backToKw pos (keywordEach kws X.env)).any (·.1.isNone)) = false := by rfl) :
    DE X W ds (.Call (.Name cn p) (e :: es) kws pos) (cIns cn ns r) w := by
  subst hn
  obtain ⟨f, fd, ps, g, F1, h1, M, hb, l1, l2⟩ := f.ex
  obtain ⟨t, pa, qa⟩ := ha
  obtain ⟨tk, pk, qk⟩ := hk
  refine ⟨fun σ H Q => tMakeK (He.ga X.K cn) n ks.length (spI cn X.K (aApp ca ck) ns r F) (fun vs zs => vs ++ zs) (W σ) t tk σ H Q, ⟨fun pins s σ H Q I h => ?_⟩, fun S0 H0 σ S H Q E P => ?_⟩
  · refine wpAny_Call_Name_kw (ld_glob I hg h1 ?_ hdb)
    refine PySem.W.callWith_KW (h₀ := X.base) I.ok.mod.kin M.kp hall (thn (pa.run pos pins s σ H _ I h) fun us s1 ⟨vs, H1, I1, r, q⟩ => ?_) hpl he
    refine thn (pk.run pos pins s1 σ H1 _ I1 q) fun ws s2 ⟨zs, H2, I2, rz, k1, k2, q2⟩ => ⟨I2.kIn, ?_⟩
    rw [hks]
    have hq := q2 (s2.heap.objs.size + 1) s2.heap.objs.size (I2.hok.fresh (Nat.le_succ _)) (I2.hok.fresh (Nat.le_refl _)) (Nat.ne_of_lt (Nat.lt_succ_self _))
    have I3 := Inv.made (C := He.ga X.K cn) I2
    have r1 : Vals (V.ref (s2.heap.objs.size + 1) :: vs) (Value.ref (s2.heap.objs.size + 1) :: us) := .cons rfl r
    have r2 := hb.rel r1 rz
    have n1 : (Value.ref (s2.heap.objs.size + 1) :: us).length = n + 1 := by
      rw [List.length_cons, ← r.length, k1]
    refine wpAny_call (make_map (f := f) I2.kIn M.makes M.init (beq_iff_eq.mp M.fn) (codeAny_mono (F1.run _ X.stack _ _ ⟨Value.ref (s2.heap.objs.size + 1) :: us, ks.zip ws⟩ (g (Value.ref (s2.heap.objs.size + 1) :: us) ws) _ _ (W σ) (hr.make _ us (ks.zip ws))
      (I3.env0.make _ us (ks.zip ws)) (hb.to _ (Value.ref (s2.heap.objs.size + 1) :: us) ws I3.kIn n1 (rz.length.symm.trans k2)) r2 hq) fun r s' hq' => ?_))
    cases r with
    | error e => exact L2N.passAt hp σ pins _ _ e s' I3 hq'
    | ok fl =>
      cases fl with
      | ret u =>
        obtain ⟨v, H', I4, rv, ev, q3⟩ := I3.after hq'
        subst ev
        exact ⟨rv, ⟨V.ref (s2.heap.objs.size + 1), H', I4, rfl, q3⟩⟩
      | next => exact False.elim hq'
      | brk => exact False.elim hq'
      | cont => exact False.elim hq'
  · refine qa S0 H0 σ S H _ E (R.post_mono (R.post_bind.mp P) (fun a k vs S1 H1 g1 r1 => ?_) (fun _ k => k))
    refine qk S0 H0 σ S1 H1 _ (E.step g1) (R.post_mono (R.post_bind.mp k) (fun b k zs S2 H2 g2 r2 => ?_) (fun x k cl d S' H' g r => k cl d S' H' (g1.trans g) r))
    refine ⟨(ca.len r1).trans l1, (ck.len r2).trans l2, fun x dx hx hdx hne => ?_⟩
    have g12 := g1.trans g2
    have gd : Grow S2 H2 S2 (upd H2 dx (.own x)) := .lay' g2.inn hdx
    have hx2 : upd H2 dx (.own x) x = none := by rw [upd_ne (Ne.symm hne)]; exact hx
    refine ⟨S2, _, x, dx, vs ++ zs, (a, b), rfl, gd.inn, hx2, rfl, ⟨vs, zs, rfl, ca.mono g2.st r1, r2⟩, R.post_mono k (fun c k S' H' dx' fs g3 e1 e2 e3 e4 => ?_) (fun y k cl d S' H' g3 rr => k cl d S' H' (g12.trans (gd.trans g3)) rr)⟩
    have g4 := g12.trans (gd.trans g3)
    have hs : Same S' (upd S' x (.ins (He.ga X.K cn) dx' fs)) := .new e1
    have hxH : H x = none := g12.ex.free hx
    refine ⟨rfl, k (.ref x) (upd S' x (.ins (He.ga X.K cn) dx' fs)) H' ⟨g4.ex, g4.st.trans hs, fun q u hu => ?_, fun q n0 n1 => ?_⟩ ⟨x, dx', fs, rfl, upd_same, e3, r.mono hs e4⟩⟩
    · by_cases z : q = x
      · subst z
        rw [upd_same] at hu
        cases hu
        exact e2
      · rw [upd_ne z] at hu
        exact g4.inn q u hu
    · by_cases z : q = x
      · rw [z]; exact hxH
      · rw [upd_ne z] at n1
        exact g4.new q n0 n1
theorem mk_newP {n : Nat} {ks : List Str} {k : Nat} {ca : CA τ} {ck : CA τ'} {F : τ × τ' → R γ} {a : τ} {b : τ'} {w : R γ} (f : ClI X.prog X.w X.K X.mg X.base cn k n ks ca ck ns r F) (hr : Room (k + 1) X.A) (hp : Lets X W) (ha : DA X W ds (e :: es) ca (.ok a)) (hk : DK X W ds kws ck (.ok b)) (hn : w = F (a, b) := by exact rfl)
    (hg : Gl X cn := by rfl) (hall : (backToKw pos (keywordEach kws X.env)).all (·.1.isSome) = true := by rfl) (hks : (backToKw pos (keywordEach kws X.env)).filterMap (·.1) = ks := by rfl) (hdb : (cn == ("__debug__" : Str)) = false := by decide)
    (he : starEach (e :: es) X.env = (false, eval e X.env) :: starEach es X.env := by rfl) (hpl : ((backTo pos (starEach (e :: es) X.env)).any (·.1) || (backToKw pos (keywordEach kws X.env)).any (·.1.isNone)) = false := by rfl) :
    DE X W ds (.Call (.Name cn p) (e :: es) kws pos) (cIns cn ns r) w := by
  rw [hn]
  exact mk_new f hr hp ha hk rfl hg hall hks hdb he hpl
/-- o.m(e, ..) -/
theorem meth {pl : Sem Bool} {m : Str} {k : Nat} {ps : List Str} {ρ : Type} {ro : CA ρ} {ca : CA τ} {c : Cd α} {F : ρ × τ → R α} {mo : R ρ} {ma : R τ} {w : R α} (f : MtI X.prog X.w X.K X.mg X.base cn m k ps (aCons (cIns cn ns ro) ca) c F) (hc : Cls X.K (He.ga X.K cn)) (hr : Room k X.A) (hp : Lets X W) (ho : DE X W ds o (cIns cn ns ro) mo) (ha : DA X W ds (e :: es) ca ma) (hn : w = (mo >>= fun a => ma >>= fun z => F (a, z)) := by exact rfl)
    (hm : m ∉ ns := by decide +kernel) (hst : starEach (e :: es) X.env = (false, eval e X.env) :: starEach es X.env := by rfl) (hpl : (backTo pos (starEach es X.env)).any (·.1) = false := by rfl)
    (ht : eval (.Call (.Attribute o m apos) (e :: es) [] pos) X.env = (do
      let ov ← eval o X.env
      standAt apos.atName
      let (f, first) ← holding [ov] (getMethod ov m pl)
      callWith pos f first (backTo pos (starEach (e :: es) X.env)) (backToKw pos (keywordEach [] X.env))) := by rfl) : DE X W ds (.Call (.Attribute o m apos) (e :: es) [] pos) c w := by
  subst hn
  obtain ⟨f, fd, F1, hm1, _, hb⟩ := f.ex
  obtain ⟨t, pe, q⟩ := ho
  obtain ⟨ta, pa, qa⟩ := ha
  refine ⟨fun σ H Q => tMeth (He.ga X.K cn) m (spF X.K (aCons (cIns cn ns ro) ca) c F) [] (W σ) t ta σ H Q, ⟨fun pins s σ H Q I h => ?_⟩, fun S0 H0 σ S H Q E P => ?_⟩
  · refine PySem.W.methodCall_KW (pl := pl) (thn (pe.run pins s σ H _ I h) fun u s1 ⟨x, H1, I1, rx, a, dx, fs, ex, ea, l, q⟩ => ?_) ht
    subst ex
    obtain rfl : u = Value.ref a := rx
    refine getmeth_ok I1 ea hc hm1 l ?_
    refine PySem.W.callWith_K (first := [.ref a]) (h₀ := X.base) I.ok.mod.kin hm1.kp (thn (pa.run pos pins s1 σ H1 _ I1 q) fun us s2 ⟨vs, H2, I2, r, q2⟩ => ⟨I2.kIn, ?_⟩) hst hpl
    have q2 : spF X.K (aCons (cIns cn ns ro) ca) c F (V.ref a :: (vs ++ [])) H2 Q (W σ) := q2
    rw [List.append_nil] at q2
    exact run_fnS (E := W) (us := .ref a :: us) (vs := .ref a :: vs) F1 hr hb (L2N.passAt hp σ) I2 (.cons rfl r) q2
  · refine q S0 H0 σ S H _ E (P.bind fun a v S1 H1 g ⟨x, dx, fs, e1, e2, e3, e4⟩ P1 => ?_)
    subst e1
    refine ⟨x, dx, fs, rfl, g.inn _ _ e2, lookup_out (by rw [e3]; exact hm), qa S0 H0 σ S1 H1 _ (E.step g) (P1.bindA fun z vs S2 H2 g2 r2 P2 => ?_)⟩
    show spF X.K (aCons (cIns cn ns ro) ca) c F (V.ref x :: (vs ++ [])) H2 Q (W σ)
    rw [List.append_nil]
    exact ⟨S2, (a, z), g2.inn, ⟨.ref x, vs, rfl, ⟨x, dx, fs, rfl, g2.st _ _ e2, e3, ro.mono g2.st e4⟩, r2⟩, P2⟩
theorem methP {pl : Sem Bool} {m : Str} {k : Nat} {ps : List Str} {ρ : Type} {ro : CA ρ} {ca : CA τ} {c : Cd α} {F : ρ × τ → R α} {a : ρ} {z : τ} {w : R α} (f : MtI X.prog X.w X.K X.mg X.base cn m k ps (aCons (cIns cn ns ro) ca) c F) (hc : Cls X.K (He.ga X.K cn)) (hr : Room k X.A) (hp : Lets X W) (ho : DE X W ds o (cIns cn ns ro) (.ok a)) (ha : DA X W ds (e :: es) ca (.ok z)) (hn : w = F (a, z) := by exact rfl)
    (hm : m ∉ ns := by decide +kernel) (hst : starEach (e :: es) X.env = (false, eval e X.env) :: starEach es X.env := by rfl) (hpl : (backTo pos (starEach es X.env)).any (·.1) = false := by rfl)
    (ht : eval (.Call (.Attribute o m apos) (e :: es) [] pos) X.env = (do
      let ov ← eval o X.env
      standAt apos.atName
      let (f, first) ← holding [ov] (getMethod ov m pl)
      callWith pos f first (backTo pos (starEach (e :: es) X.env)) (backToKw pos (keywordEach [] X.env))) := by rfl) : DE X W ds (.Call (.Attribute o m apos) (e :: es) [] pos) c w := by
  rw [hn]
  exact meth f hc hr hp ho ha rfl hm hst hpl ht
/-- o(e, ..), o an instance -/
theorem callO {k : Nat} {ps : List Str} {ρ : Type} {ro : CA ρ} {ca : CA τ} {c : Cd α} {F : ρ × τ → R α} {mo : R ρ} {ma : R τ} {w : R α} (f : MtI X.prog X.w X.K X.mg X.base cn "__call__" k ps (aCons (cIns cn ns ro) ca) c F) (hr : Room k X.A) (hp : Lets X W) (ho : DE X W ds o (cIns cn ns ro) mo) (ha : DA X W ds (e :: es) ca ma) (hn : w = (mo >>= fun a => ma >>= fun z => F (a, z)) := by exact rfl)
    (ht : eval (.Call o (e :: es) [] pos) X.env = (do callWith pos (← eval o X.env) [] (backTo pos (starEach (e :: es) X.env)) (backToKw pos (keywordEach [] X.env))) := by rfl)
    (hst : starEach (e :: es) X.env = (false, eval e X.env) :: starEach es X.env := by rfl) (hpl : (backTo pos (starEach es X.env)).any (·.1) = false := by rfl) : DE X W ds (.Call o (e :: es) [] pos) c w := by
  subst hn
  obtain ⟨f, fd, F1, hm1, hfi, hb⟩ := f.ex
  obtain ⟨t, pe, q⟩ := ho
  obtain ⟨ta, pa, qa⟩ := ha
  refine ⟨fun σ H Q => StX.tCallO X (He.ga X.K cn) (spF X.K (aCons (cIns cn ns ro) ca) c F) (W σ) t ta σ H Q, ⟨fun pins s σ H Q I h => ?_⟩, fun S0 H0 σ S H Q E P => ?_⟩
  · refine Call_ (thn (pe.run pins s σ H _ I h) fun u s1 ⟨y, H1, I1, ry, a, ey, q⟩ => ?_) ht
    subst ey
    obtain rfl : u = Value.ref a := ry
    refine StX.callO_with (thn (pa.run pos pins s1 σ H1 _ I1 q) fun us s2 ⟨vs, H2, I2, r, hi, q2⟩ => ?_) hst hpl
    obtain ⟨ox, od, J, hd⟩ := StX.insC_at I2 hi
    refine ⟨⟨_, ox, od, J, hd⟩, ?_⟩
    refine wpAny_call (PySem.W.kco_code I2.kIn J hd hm1.at_ hm1.fn hfi ?_)
    have lv : (Value.ref a :: us).length = ps.length := by rw [← F1.len _ _ _ _ q2, List.length_cons, List.length_cons, r.length]
    have b := hb s2 (.ref a :: us) I2.kIn (by rw [List.append_nil]; exact lv)
    rw [List.append_nil] at b
    refine codeAny_mono (F1.run X.A X.stack s2 H2 ⟨.ref a :: us, []⟩ (.ref a :: us) (.ref a :: vs) Q (W σ) hr I2.env0 b (.cons rfl r) q2) fun r s' hq => ?_
    cases r with
    | error e => exact L2N.passAt hp σ pins H2 s2 e s' I2 hq
    | ok fl =>
      cases fl with
      | ret u => exact I2.after hq
      | next => exact False.elim hq
      | brk => exact False.elim hq
      | cont => exact False.elim hq
  · refine q S0 H0 σ S H _ E (P.bind fun a v S1 H1 g ⟨x, dx, fs, e1, e2, e3, e4⟩ P1 => ?_)
    subst e1
    refine ⟨x, rfl, qa S0 H0 σ S1 H1 _ (E.step g) (P1.bindA fun z vs S2 H2 g2 r2 P2 => ?_)⟩
    exact ⟨.inr ⟨dx, fs, g2.ex _ _ (g.inn _ _ e2)⟩, S2, (a, z), g2.inn, ⟨.ref x, vs, rfl, ⟨x, dx, fs, rfl, g2.st _ _ e2, e3, ro.mono g2.st e4⟩, r2⟩, P2⟩
theorem callOP {k : Nat} {ps : List Str} {ρ : Type} {ro : CA ρ} {ca : CA τ} {c : Cd α} {F : ρ × τ → R α} {a : ρ} {z : τ} {w : R α} (f : MtI X.prog X.w X.K X.mg X.base cn "__call__" k ps (aCons (cIns cn ns ro) ca) c F) (hr : Room k X.A) (hp : Lets X W) (ho : DE X W ds o (cIns cn ns ro) (.ok a)) (ha : DA X W ds (e :: es) ca (.ok z)) (hn : w = F (a, z) := by exact rfl)
    (ht : eval (.Call o (e :: es) [] pos) X.env = (do callWith pos (← eval o X.env) [] (backTo pos (starEach (e :: es) X.env)) (backToKw pos (keywordEach [] X.env))) := by rfl)
    (hst : starEach (e :: es) X.env = (false, eval e X.env) :: starEach es X.env := by rfl) (hpl : (backTo pos (starEach es X.env)).any (·.1) = false := by rfl) : DE X W ds (.Call o (e :: es) [] pos) c w := by
  rw [hn]
  exact callO f hr hp ho ha rfl ht hst hpl
end
end Zk
set_option maxHeartbeats 4000000
/-! # Zk: what is handed back, tests that are settled, facts of classes -/
namespace Zk
open PySem PySem.Spec PyProof.Rows L2
section
variable {X : Cx} {W : WK} {T : Bool} {ds : Env} {α β γ τ ν κ ω : Type} {a b e : Expr} {es : List Expr} {sts rest : List Stmt} {pos p : Pos} {c : Cd α} {cb : RCd β} {eN : ν → Env} {eK : κ → Env} {m : R α} {o : OC α}
/-- what is handed back -/
def DR (X : Cx) (W : WK) (ds : Env) (e : Expr) {β : Type} (cb : RCd β) (m : R β) : Prop :=
  ∃ t : TE, PE X e t ∧ ∀ S0 H0 σ S H (Q : VK), EnvOk X.K S0 H0 ds σ S H →
    m.post (fun b => ∀ v S' H', Grow S0 H0 S' H' → (cb H0).rep X.K S' v b → Q v H') (fun x => ∀ cl d S' H', Grow S H S' H' → repX X.K S' cl d x → W σ cl d H') → t σ H Q
theorem drE {cr : Cd β} {m : R β} (h : DE X W ds e cr m) : DR X W ds e (fun _ => cr) m := by
  obtain ⟨t, p, q⟩ := h
  exact ⟨t, p, fun S0 H0 σ S H Q E P => q S0 H0 σ S H Q E (R.post_mono P (fun b k v S' H' g r => k v S' H' (E.grow.trans g) r) fun _ k => k)⟩
theorem drN (h : DLO X W ds e o m) : DR X W ds e (cNew o) m := by
  obtain ⟨t, p, q⟩ := h
  refine ⟨t, p, fun S0 H0 σ S H Q E P => q S0 H0 σ S H Q E (R.post_mono P (fun b k v fp S' H' gr r hn => ?_) fun _ k => k)⟩
  obtain ⟨g2, s2, r2⟩ := add_grow gr r hn
  exact k v _ H' (E.grow.trans g2) ⟨fp, fun p hp => E.grow.ex.free (hn p hp), r2⟩
theorem drV {x : Str} {a : α} (i : Nat) (hd : ds.get i = .ow α o a := by rfl) (hN : X.N[i]? = some x := by rfl) (hv : Vis X.env.scope x := by first | exact Or.inl rfl | exact Or.inr (Or.inl rfl) | exact Or.inr (Or.inr rfl))
    (hdb : (x == ("__debug__" : Str)) = false := by decide) (hcd : (x == ("__classdict__" : Str)) = false := by decide) : DR X W ds (.Name x p) (cNew o) (.ok a) := ⟨tVar i, pe_var hN hv hdb hcd, fun S0 H0 σ S H Q E P => by
  obtain ⟨v, fp, h1, h2, h3⟩ := E.owv hd
  have d := o.dom h2
  have g2 : Grow S0 H0 (addS fp S H) H := by
    refine ⟨E.grow.ex, fun p u hu => ?_, fun p u hu => ?_, fun p n0 n1 => ?_⟩
    · have np : p ∉ fp := fun z => by
        have q := (d p z).1
        rw [E.grow.st p u hu] at q
        cases q
      rw [add_out np]; exact E.grow.st p u hu
    · by_cases z : p ∈ fp
      · rw [add_in z] at hu; exact hu
      · rw [add_out z] at hu; exact E.inn p u hu
    · by_cases z : p ∈ fp
      · exact h3 p z
      · rw [add_out z] at n1; exact E.grow.new p n0 n1
  refine ⟨v, h1, P v _ H g2 ⟨fp, h3, o.stay (fun p u hu => ?_) (fun p hp => ⟨rm_in hp, add_in hp⟩) h2⟩⟩
  have np : p ∉ fp := fun z => by rw [(d p z).1] at hu; cases hu
  rw [rm_out np, add_out np]; exact hu⟩
theorem drIf {t : Expr} {mt : R Bool} {n1 n2 : R β} (ht : DT X W ds t mt) (ha : DR X W ds a cb n1) (hb : DR X W ds b cb n2) : DR X W ds (.IfExp t a b pos) cb (mt >>= fun z => if z = true then n1 else n2) := by
  obtain ⟨tt, p, q⟩ := ht
  obtain ⟨ta, p1, q1⟩ := ha
  obtain ⟨tb, p2, q2⟩ := hb
  refine ⟨_, pe_ifExp p p1 p2, fun S0 H0 σ S H Q E P => q S0 H0 σ S H _ E (R.post_mono (R.post_bind.mp P) (fun z k S1 H1 g => ?_) fun _ k => k)⟩
  cases z with
  | true => exact q1 S0 H0 σ S1 H1 _ (E.step g) (R.post_mono k (fun _ k => k) fun x k cl d S' H' g' r => k cl d S' H' (g.trans g') r)
  | false => exact q2 S0 H0 σ S1 H1 _ (E.step g) (R.post_mono k (fun _ k => k) fun x k cl d S' H' g' r => k cl d S' H' (g.trans g') r)
theorem drIf_p {t : Expr} {z : Bool} {n1 n2 : R β} (ht : DT X W ds t (.ok z)) (ha : DR X W ds a cb n1) (hb : DR X W ds b cb n2) : DR X W ds (.IfExp t a b pos) cb (if z = true then n1 else n2) := drIf ht ha hb
/-- return e -/
theorem retR {g : β → ω} {I : ω → Out β ν κ} {m : R β} (he : DR X W ds e cb m) (hI : ∀ b, I (g b) = .ret b) : DS X W T ds (.Return (some e) pos :: rest) cb eN eK I (m >>= fun b => .ok (g b)) := fun S0 H0 σ S H D nx h E P => by
  obtain ⟨te, pe, qe⟩ := he
  refine seq (ps_ret pe) (qe S0 H0 σ S H _ E (R.post_mono (R.post_bind.mp P) (fun b q v S' H' gr r => ?_) (fun x q cl d S' H' g r => q cl d S' H' (E.grow.trans g) r)))
  have P1 : OutP X.K S0 H0 cb eN eK D (I (g b)) := q
  rw [hI] at P1
  exact P1 v S' H' gr r
theorem retRF {I : β → Out β ν κ} {m : R β} (he : DR X W ds e cb m) (hI : ∀ b, I b = .ret b := by intro _; rfl) : DS X W T ds (.Return (some e) pos :: rest) cb eN eK I m := by
  have q := retR (T := T) (rest := rest) (pos := pos) (eN := eN) (eK := eK) (g := fun b => b) he hI
  rw [show (m >>= fun b => R.ok b) = m from R.bind_ok m] at q
  exact q
theorem retRO {I : ω → Out β ν κ} {b : β} {w : ω} (he : DR X W ds e cb (.ok b)) (hI : I w = .ret b := by rfl) : DS X W T ds (.Return (some e) pos :: rest) cb eN eK I (.ok w) := fun S0 H0 σ S H D nx h E P => by
  obtain ⟨te, pe, qe⟩ := he
  have P1 : OutP X.K S0 H0 cb eN eK D (I w) := P
  rw [hI] at P1
  exact seq (ps_ret pe) (qe S0 H0 σ S H _ E (show (R.ok b).post _ _ from fun v S' H' g r => P1 v S' H' g r))
/-- new values -/
theorem ifO {t : Expr} {mt : R Bool} {n1 n2 : R α} (ht : DT X W ds t mt) (ha : DLO X W ds a o n1) (hb : DLO X W ds b o n2) : DLO X W ds (.IfExp t a b pos) o (mt >>= fun z => if z = true then n1 else n2) := by
  obtain ⟨tt, p, q⟩ := ht
  obtain ⟨ta, p1, q1⟩ := ha
  obtain ⟨tb, p2, q2⟩ := hb
  refine ⟨_, pe_ifExp p p1 p2, fun S0 H0 σ S H Q E P => q S0 H0 σ S H _ E (R.post_mono (R.post_bind.mp P) (fun z k S1 H1 g => ?_) fun _ k => k)⟩
  cases z with
  | true => exact q1 S0 H0 σ S1 H1 _ (E.step g) (R.post_mono k (fun a k v fp S' H' g' r hn => k v fp S' H' (g.trans g') r fun p hp => g.ex.free (hn p hp)) fun x k cl d S' H' g' r => k cl d S' H' (g.trans g') r)
  | false => exact q2 S0 H0 σ S1 H1 _ (E.step g) (R.post_mono k (fun a k v fp S' H' g' r hn => k v fp S' H' (g.trans g') r fun p hp => g.ex.free (hn p hp)) fun x k cl d S' H' g' r => k cl d S' H' (g.trans g') r)
theorem ifO_p {t : Expr} {z : Bool} {n1 n2 : R α} (ht : DT X W ds t (.ok z)) (ha : DLO X W ds a o n1) (hb : DLO X W ds b o n2) : DLO X W ds (.IfExp t a b pos) o (if z = true then n1 else n2) := ifO ht ha hb
/-- [] that holds owned ones -/
theorem lst0O : DLO X W ds (.List [] pos) (oN o) (.ok []) := by
  obtain ⟨t, p, q⟩ := (lst0 (X := X) (W := W) (ds := ds) (pos := pos) (c := o.c))
  refine ⟨t, p, fun S0 H0 σ S H Q E P => q S0 H0 σ S H Q E (show (R.ok []).post _ _ from fun p vs S' H' g h1 h2 h3 r => ?_)⟩
  cases vs with
  | nil => exact P (.ref p) [p] S' H' g ⟨p, [], [], rfl, by simp, by simp, h2, h3, trivial⟩ fun x hx => by rw [List.mem_singleton.mp hx]; exact h1
  | cons v vs => exact False.elim r
/-- len(x), x's items owned -/
theorem lenOw {x : Str} {p1 : Pos} {as : List α} (i : Nat) (hm : X.mg "len" = none) (hd : ds.get i = .ow (List α) (oN o) as := by rfl) (hN : X.N[i]? = some x := by rfl) (hv : Vis X.env.scope x := by first | exact Or.inl rfl | exact Or.inr (Or.inl rfl) | exact Or.inr (Or.inr rfl))
    (hdb : (x == ("__debug__" : Str)) = false := by decide) (hcd : (x == ("__classdict__" : Str)) = false := by decide) (hg : Gl X "len" := by rfl) (he : starEach (.Name x p1 :: []) X.env = (false, eval (.Name x p1) X.env) :: starEach [] X.env := by rfl) (hpl : (backTo pos (starEach [] X.env)).any (·.1) = false := by rfl) :
    DE X W ds (.Call (.Name "len" p) [.Name x p1] [] pos) cI (.ok ((as.length : Nat) : Int)) :=
  ⟨_, pe_callB call_len_seq hg hm PySem.boot_len (pa_cons (pe_var hN hv hdb hcd) pa_nil he) (by decide) (by decide) he hpl, fun S0 H0 σ S H Q E P => by
    obtain ⟨v, fp, h1, ⟨l, vs, fs, e1, e2, e3, e4, e5, e6⟩, h3⟩ := E.owv hd
    subst e1
    refine ⟨.ref l, h1, l, vs, rfl, .inl (SqL.of e5), P.ok E.inn ?_⟩
    show V.int _ = V.int _
    rw [(RepsO.length e6).1]⟩
/-! ### tests that are settled -/
section
variable {t : Expr} {A B : List Stmt} {I : ω → Out β ν κ} {n : R ω}
/-- the branch that is taken leaves -/
theorem ifYes (ht : DT X W ds t (.ok true)) (hA : DS X W true ds A cb eN eK I n) : DS X W T ds (.If t A B pos :: rest) cb eN eK I n := fun S0 H0 σ S H D nx h E P => by
  obtain ⟨tt, pt, qt⟩ := ht
  exact seq (ps_if pt pss_tS pss_tS) (qt S0 H0 σ S H _ E (show (R.ok true).post _ _ from fun S' H' g => hA S0 H0 σ S' H' D _ (.inl rfl) (E.step g) P))
theorem ifNo (ht : DT X W ds t (.ok false)) (hr : DS X W T ds rest cb eN eK I n) : DS X W T ds (.If t A [] pos :: rest) cb eN eK I n := fun S0 H0 σ S H D nx h E P => by
  obtain ⟨tt, pt, qt⟩ := ht
  exact seq (ps_if pt pss_tS pss_nil) (qt S0 H0 σ S H _ E (show (R.ok false).post _ _ from fun S' H' g => hr S0 H0 σ S' H' D nx h (E.step g) P))
end
/-! ### isinstance(e, (list, tuple)) -/
class Sq2 {α : Type} (c : Cd α) (k : outParam Bool) : Prop where
  ex : ∀ {K : PySem.W.Frag} {H : Hp} {v : V} {a : α}, c.rep K H v a → ∃ n k1 k2, TyX K H v (.type n) ∧ L2.kitB n "list" = some k1 ∧ L2.kitB n "tuple" = some k2 ∧ (k1 || k2) = k
instance {α : Type} {c : Cd α} : Sq2 (cL c) true := ⟨fun r => ⟨"list", true, false, Ty.ty r, by decide +kernel, by decide +kernel, rfl⟩⟩
instance {α : Type} {c : Cd α} : Sq2 (cT c) true := ⟨fun r => ⟨"tuple", false, true, Ty.ty r, by decide +kernel, by decide +kernel, rfl⟩⟩
instance {τ : Type} {c : CA τ} : Sq2 (cP c) true := ⟨fun r => ⟨"tuple", false, true, Ty.ty r, by decide +kernel, by decide +kernel, rfl⟩⟩
instance {τ : Type} {c : CA τ} : Sq2 (cH c) true := ⟨fun r => ⟨"list", true, false, Ty.ty r, by decide +kernel, by decide +kernel, rfl⟩⟩
instance {α : Type} {c : Cd α} : Sq2 (cLT c) true := ⟨fun r => r.elim (fun r => ⟨"list", true, false, Ty.ty r, by decide +kernel, by decide +kernel, rfl⟩) fun r => ⟨"tuple", false, true, Ty.ty r, by decide +kernel, by decide +kernel, rfl⟩⟩
instance : Sq2 cI false := ⟨fun r => ⟨"int", false, false, Ty.ty r, by decide +kernel, by decide +kernel, rfl⟩⟩
instance : Sq2 cB false := ⟨fun r => ⟨"bool", false, false, Ty.ty r, by decide +kernel, by decide +kernel, rfl⟩⟩
instance : Sq2 cS false := ⟨fun r => ⟨"str", false, false, Ty.ty r, by decide +kernel, by decide +kernel, rfl⟩⟩
instance : Sq2 cN false := ⟨fun r => ⟨"NoneType", false, false, Ty.ty r, by decide +kernel, by decide +kernel, rfl⟩⟩
theorem isSq {k : Bool} {j : Nat} {p1 p2 p3 : Pos} (hm : X.mg "isinstance" = none) (hm1 : X.mg "list" = none) (hm2 : X.mg "tuple" = none) (ha : DE X W ds e c m) [Sq2 c k] (hg : Gl X "isinstance" := by rfl) (hg1 : Gl X "list" := by rfl) (hg2 : Gl X "tuple" := by rfl)
    (hs : starEach (e :: [.Tuple [.Name "list" p1, .Name "tuple" p2] j p3]) X.env = (false, eval e X.env) :: starEach [.Tuple [.Name "list" p1, .Name "tuple" p2] j p3] X.env := by rfl)
    (hs2 : starEach (.Tuple [.Name "list" p1, .Name "tuple" p2] j p3 :: []) X.env = (false, eval (.Tuple [.Name "list" p1, .Name "tuple" p2] j p3) X.env) :: starEach [] X.env := by rfl)
    (hs3 : starEach (.Name "list" p1 :: [.Name "tuple" p2]) X.env = (false, eval (.Name "list" p1) X.env) :: starEach [.Name "tuple" p2] X.env := by rfl)
    (hs4 : starEach (.Name "tuple" p2 :: []) X.env = (false, eval (.Name "tuple" p2) X.env) :: starEach [] X.env := by rfl)
    (hpl : (backTo pos (starEach [.Tuple [.Name "list" p1, .Name "tuple" p2] j p3] X.env)).any (·.1) = false := by rfl) :
    DE X W ds (.Call (.Name "isinstance" p) [e, .Tuple [.Name "list" p1, .Name "tuple" p2] j p3] [] pos) cB (m >>= fun _ => .ok k) := by
  obtain ⟨t, pe, q⟩ := ha
  have pt := pe_tup (x1 := j) (pos := p3) (pa_cons (pe_bltn (v := .ty "list") hg1 hm1 (by decide +kernel) rfl (by decide) (by decide)) (pa_cons (pe_bltn (v := .ty "tuple") hg2 hm2 (by decide +kernel) rfl (by decide) (by decide)) pa_nil hs4) hs3)
  refine ⟨_, pe_callB call_isiT hg hm boot_isinstance (pa_cons pe (pa_cons pt pa_nil hs2) hs) (by decide) (by decide) hs hpl, fun S0 H0 σ S H Q E P => q S0 H0 σ S H _ E (P.bind fun z v S1 H1 g r P1 => ?_)⟩
  obtain ⟨n, k1, k2, h1, h2, h3, h4⟩ := Sq2.ex (k := k) r
  refine ⟨by decide, fun tp htp => ?_⟩
  have g2 : Grow S1 H1 S1 (upd H1 tp (.tup [.ty "list", .ty "tuple"])) := .lay' g.inn htp
  refine ⟨v, tp, [.ty "list", .ty "tuple"], .type n, [.type "list", .type "tuple"], k, rfl, upd_same, .cons (.ty "list") (.cons (.ty "tuple") .nil), ty_mono g2.inn h1, kitAny_cons (kit_ty h2) (fun e1 => kitAny_cons (kit_ty h3) (fun e2 => ?_) (fun e2 => ?_)) (fun e1 => ?_), (P1.grow g2).ok g2.inn rfl⟩
  · rw [← h4, e1, e2]; rfl
  · rw [← h4, e1, e2]; rfl
  · rw [← h4, e1]; rfl
theorem isSq_p {k : Bool} {j : Nat} {x : α} {p1 p2 p3 : Pos} (hm : X.mg "isinstance" = none) (hm1 : X.mg "list" = none) (hm2 : X.mg "tuple" = none) (ha : DE X W ds e c (.ok x)) [Sq2 c k] (hg : Gl X "isinstance" := by rfl) (hg1 : Gl X "list" := by rfl) (hg2 : Gl X "tuple" := by rfl)
    (hs : starEach (e :: [.Tuple [.Name "list" p1, .Name "tuple" p2] j p3]) X.env = (false, eval e X.env) :: starEach [.Tuple [.Name "list" p1, .Name "tuple" p2] j p3] X.env := by rfl)
    (hs2 : starEach (.Tuple [.Name "list" p1, .Name "tuple" p2] j p3 :: []) X.env = (false, eval (.Tuple [.Name "list" p1, .Name "tuple" p2] j p3) X.env) :: starEach [] X.env := by rfl)
    (hs3 : starEach (.Name "list" p1 :: [.Name "tuple" p2]) X.env = (false, eval (.Name "list" p1) X.env) :: starEach [.Name "tuple" p2] X.env := by rfl)
    (hs4 : starEach (.Name "tuple" p2 :: []) X.env = (false, eval (.Name "tuple" p2) X.env) :: starEach [] X.env := by rfl)
    (hpl : (backTo pos (starEach [.Tuple [.Name "list" p1, .Name "tuple" p2] j p3] X.env)).any (·.1) = false := by rfl) :
    DE X W ds (.Call (.Name "isinstance" p) [e, .Tuple [.Name "list" p1, .Name "tuple" p2] j p3] [] pos) cB (.ok k) := isSq hm hm1 hm2 ha hg hg1 hg2 hs hs2 hs3 hs4 hpl
end
/-! ### facts of classes -/
section
variable {fa : List He.Fa} {fn : List He.DefD} {ex : PySem.W.Frag → Bool} {K : PySem.W.Frag} {mg : Str → Option Value} {base : Heap}
theorem Glb.cls (T : Glb fa fn ex K mg base) (i : Nat) {x : Str} (h : fa[i]? = some (.cls x) := by rfl) : Cls K (He.ga K x) := He.cls_ok (T.c.fact i h)
theorem Glb.noat (T : Glb fa fn ex K mg base) (i : Nat) {x f : Str} (h : fa[i]? = some (.noat x f) := by rfl) : NoAttr K (He.ga K x) f := He.noat_ok (T.c.fact i h)
theorem Glb.meth (T : Glb fa fn ex K mg base) (i : Nat) {x m : Str} (h : fa[i]? = some (.meth x m) := by rfl) : Meth K (He.ga K x) m (He.ma K (He.ga K x) m) := He.meth_ok (T.c.fact i h)
theorem Glb.mkr (T : Glb fa fn ex K mg base) (i : Nat) {x : Str} (h : fa[i]? = some (.mkr x) := by rfl) : Mk K (He.ga K x) (He.ma K (He.ga K x) "__init__") := He.mkr_ok (T.c.fact i h)
end
end Zk
set_option maxHeartbeats 4000000
/-! # Zk: the head with defs at any address; own operators; class methods -/
namespace Zk
open PySem PySem.Spec PyProof.Rows L2
structure Gla (fa : List He.Fa) (fn : List He5.DefA) (ex : PySem.W.Frag → Bool) (K : PySem.W.Frag) (mg : Str → Option Value) (base : Heap) : Prop where
  X : K.In base
  G : base.Ns mainGlobals mg
  c : He5.SaysA fa fn K
  e : ex K = true
section
variable {fa : List He.Fa} {fn : List He5.DefA} {ex : PySem.W.Frag → Bool} {K : PySem.W.Frag} {mg : Str → Option Value} {base : Heap}
theorem Gla.free (T : Gla fa fn ex K mg base) (i : Nat) {x : Str} (h : fa[i]? = some (.free x) := by rfl) : mg x = none := He.free_ok T.X T.G (T.c.fact i h)
theorem Gla.glo (T : Gla fa fn ex K mg base) (i : Nat) {x : Str} (h : fa[i]? = some (.glo x) := by rfl) : mg x = some (.ref (He.ga K x)) := He.glo_ok T.X T.G (T.c.fact i h)
theorem Gla.cls (T : Gla fa fn ex K mg base) (i : Nat) {x : Str} (h : fa[i]? = some (.cls x) := by rfl) : Cls K (He.ga K x) := He.cls_ok (T.c.fact i h)
theorem Gla.noat (T : Gla fa fn ex K mg base) (i : Nat) {x f : Str} (h : fa[i]? = some (.noat x f) := by rfl) : NoAttr K (He.ga K x) f := He.noat_ok (T.c.fact i h)
theorem Gla.meth (T : Gla fa fn ex K mg base) (i : Nat) {x m : Str} (h : fa[i]? = some (.meth x m) := by rfl) : Meth K (He.ga K x) m (He.ma K (He.ga K x) m) := He.meth_ok (T.c.fact i h)
theorem Gla.mkr (T : Gla fa fn ex K mg base) (i : Nat) {x : Str} (h : fa[i]? = some (.mkr x) := by rfl) : Mk K (He.ga K x) (He.ma K (He.ga K x) "__init__") := He.mkr_ok (T.c.fact i h)
end
section
variable {fa : List He.Fa} {fn : List He5.DefA} {hv : List (Str × Value)} {xs : List Str} {xm xk : List (Str × XTab)} {xb : List (String × XTab)} {ms : List (PySem.W.Frag → Bool)} {K : PySem.W.Frag} {mg : Str → Option Value} {base : Heap}
theorem Gla.z (T : Gla fa fn (exW hv xs xm xk xb ms) K mg base) : exZ hv xs xm xk xb K = true := (He.ba T.e).1
theorem Gla.heldZ (T : Gla fa fn (exW hv xs xm xk xb ms) K mg base) (i : Nat) {x : Str} {v : Value} (h : hv[i]? = some (x, v) := by rfl) : mg x = some v :=
  PySem.W.mg_of T.X T.G (He.eqO_ok (List.all_eq_true.mp (He.ba T.z).1 (x, v) (List.mem_of_getElem? h)))
theorem Gla.xcls (T : Gla fa fn (exW hv xs xm xk xb ms) K mg base) (i : Nat) {x : Str} (h : xs[i]? = some x := by rfl) : XCls K x :=
  excB_ok (List.all_eq_true.mp (He.ba (He.ba T.z).2).1 x (List.mem_of_getElem? h))
theorem Gla.tm (T : Gla fa fn (exW hv xs xm xk xb ms) K mg base) (i : Nat) {x : Str} {t : XTab} (h : xm[i]? = some (x, t) := by rfl) : exmB K (.ref (He.ga K x)) t = true :=
  List.all_eq_true.mp (He.ba (He.ba (He.ba T.z).2).2).1 (x, t) (List.mem_of_getElem? h)
theorem Gla.tk (T : Gla fa fn (exW hv xs xm xk xb ms) K mg base) (i : Nat) {x : Str} {t : XTab} (h : xk[i]? = some (x, t) := by rfl) : kitB K (.ref (He.ga K x)) t = true :=
  List.all_eq_true.mp (He.ba (He.ba (He.ba (He.ba T.z).2).2).2).1 (x, t) (List.mem_of_getElem? h)
theorem Gla.tb (T : Gla fa fn (exW hv xs xm xk xb ms) K mg base) (i : Nat) {x : String} {t : XTab} (h : xb[i]? = some (x, t) := by rfl) : kitB K (.type x) t = true :=
  List.all_eq_true.mp (He.ba (He.ba (He.ba (He.ba T.z).2).2).2).2 (x, t) (List.mem_of_getElem? h)
theorem Gla.more (T : Gla fa fn (exW hv xs xm xk xb ms) K mg base) (i : Nat) {f : PySem.W.Frag → Bool} (h : ms[i]? = some f := by rfl) : f K = true :=
  List.all_eq_true.mp (He.ba T.e).2 f (List.mem_of_getElem? h)
end
/-! ### one more fact of a class -/
theorem cread_of {K : PySem.W.Frag} {C : Addr} (N : PySem.W.readsIn K C (.type "type") = true) : ClX.CRead K C (.type "type") := by
  refine ⟨N, ?_⟩
  have h := N
  unfold PySem.W.readsIn at h
  obtain ⟨h, _⟩ := He.ba h
  obtain ⟨h, _⟩ := He.ba h
  obtain ⟨h, h3⟩ := He.ba h
  obtain ⟨_, h2⟩ := He.ba h
  unfold PySem.W.specialIn
  rw [beq_iff_eq.mp h2, Option.bind_some]
  exact beq_iff_eq.mp h3
theorem clm_ok {x m : Str} {K : PySem.W.Frag} (h : clmB x m K = true) : ClX.CRead K (He.ga K x) (.type "type") ∧ ClX.CMet K (He.ga K x) (.type "type") m (He.ma K (He.ga K x) m) (He5.wf K (He.ga K x) "classmethod" m) := by
  obtain ⟨h1, h⟩ := He.ba h
  obtain ⟨h2, h3⟩ := He.ba h
  exact ⟨cread_of h1, He5.cmet_of h2 h3⟩
/-! ### own operators on two instances of one class -/
section
variable {prog : Program} {w : World} {A : Around} {E : Value → Shared → Prop} {s : Shared} {K : PySem.W.Frag} {x y C f : Addr} {ox oy : Obj} {od od2 : Option Obj}
theorem bin_same {op : Operator} {Q : Value → Shared → Prop} (X : K.In s.heap) (I : PySem.W.InstAt s.heap x ox C od) (I2 : PySem.W.InstAt s.heap y oy C od2) (hc : PySem.W.selfFirst K C = true)
    (hs : PySem.W.findIn K (.ref C) (PySem.dunder op.info.2) = some (some (.ref f))) (hf : PySem.W.isFn K (.ref f) = true)
    (h : wpAny (model prog w) A (PySem.call (.ref f) [.ref x, .ref y]) (PySem.W.CmpBack Q) E s) : wpAny (model prog w) A (binaryOp op (.ref x) (.ref y)) Q E s := by
  obtain ⟨cd, rest, hcd, hm⟩ := PySem.W.ksp_first hc
  rcases hi : op.info with ⟨sym, nm'⟩
  rw [hi] at hs
  dsimp only at hs
  have one := PySem.W.ksp_try X I hs hf h
  obtain ⟨hh, g, d, tt, os⟩ := s
  have L1 : PySem.W.Looks (model prog w) hh (typeOf (.ref x)) (.ref C) := I.type
  have L2 : PySem.W.Looks (model prog w) hh (typeOf (.ref y)) (.ref C) := I2.type
  have L3 : PySem.W.Looks (model prog w) hh (fillsNumberSlot (.ref C) nm') true := PySem.W.fills_K X hcd hm hs
  have hne : (Value.ref C == Value.ref C) = true := beq_self_eq_true _
  simp only [binaryOp, hi]
  refine wpAny_holding (wpAny_bind ?_)
  unfold binaryOp1
  refine wpAny_bind (L1.at (wpAny_bind (L2.at (wpAny_bind (L3.at ?_)))))
  simp only [hne, if_true, Bool.and_false, Bool.false_eq_true, if_false]
  ksp_lk
  refine wpAny_mono one (fun r s' hr' => ?_) fun _ _ e => e
  obtain ⟨v, rfl, hq⟩ := hr'
  ksp_lk
  exact hq
end
section
variable {prog : Program} {w : World} {A : Around} {E : Value → Shared → Prop} {s : Shared} {K : PySem.W.Frag} {x y C f : Addr} {ox oy : Obj} {od od2 : Option Obj}
theorem cmp_same {op : CmpOp} {Q : Value → Shared → Prop} (hu : A.units < cLine) (X : K.In s.heap) (I : PySem.W.InstAt s.heap x ox C od) (I2 : PySem.W.InstAt s.heap y oy C od2)
    (hs : PySem.W.findIn K (.ref C) (cmpInfo op).2.1 = some (some (.ref f))) (hf : PySem.W.isFn K (.ref f) = true)
    (h : wpAny (model prog w) A (PySem.call (.ref f) [.ref x, .ref y]) (PySem.W.CmpBack Q) E s) : wpAny (model prog w) A (richCompare op (.ref x) (.ref y)) Q E s := by
  have one : wpAny (model prog w) A (tryCompare (.ref x) (cmpInfo op).2.1 (.ref y)) (fun r s' => ∃ v, r = some v ∧ Q v s') E s := by
    unfold tryCompare
    refine wpAny_bind (PySem.W.ifBound_K X I hs hf (wpAny_mono h (fun v s' hv => ?_) fun _ _ e => e))
    cases v <;> first | exact hv.elim | exact wpAny_pure ⟨_, rfl, hv⟩
  unfold richCompare
  simp only [oneThing_ref]
  refine wpAny_holding (wpAny_bind (wpAny_cRoomFor hu ?_))
  refine wpAny_bind (I.type.here (wpAny_bind (I2.type.here ?_)))
  have q : (Value.ref C != Value.ref C) = false := by simp
  simp only [q, Bool.false_eq_true, if_false]
  refine wpAny_bind (wpAny_pure ?_)
  simp only [Bool.false_eq_true, if_false]
  refine wpAny_bind (wpAny_mono one (fun r s' z => ?_) fun _ _ e => e)
  obtain ⟨v, rfl, hq⟩ := z
  exact wpAny_pure hq
theorem cmpBack_of {v : V} {u : Value} {Q : Value → Shared → Prop} {s : Shared} (r : RelV v u) (h : Q u s) : PySem.W.CmpBack Q u s := by
  cases v with
  | non => cases r; exact h
  | bl b => cases r; exact h
  | int i => obtain ⟨t, rfl⟩ := r; exact h
  | str x => obtain ⟨t, rfl⟩ := r; exact h
  | byt b => obtain ⟨t, rfl⟩ := r; exact h
  | flt b => obtain ⟨t, rfl⟩ := r; exact h
  | ref a => cases r; exact h
  | ty n => cases r; exact h
end
/-! ### the judgements' rules -/
def rOwn (K : PySem.W.Frag) (cn : Str) (sp : Sp) (E : XK) : R2 := fun x y H Q => ∃ a b dx fs dx' fs', x = .ref a ∧ y = .ref b ∧ H a = some (.ins (He.ga K cn) dx fs) ∧ H b = some (.ins (He.ga K cn) dx' fs') ∧ sp [x, y] H Q E
section
variable {X : Cx} {W : WK} {ds : Env} {α β ρ : Type} {a b : Expr} {pos : Pos} {cn m : Str} {ns : List Str} {ro : CA ρ} {c : Cd α} {k : Nat} {ps : List Str} {F : ρ × ρ → R α} {f : Addr} {fd : FuncData} {sp : Sp}
theorem own_run (F1 : FnOk X.prog X.w X.K X.mg X.base (L2N.CX X.prog X.w) k f fd ps sp) (hb : Binds X.K fd ps []) (hr : Room k X.A) (hp : Lets X W) {pins : List (Addr × Obj)} {s : Shared} {σ : L2.St} {H : Hp} {a b : Addr} {Q : VK} (I : L2.Inv X pins σ H s) (q : sp [.ref a, .ref b] H Q (W σ)) :
    wpAny (model X.prog X.w) X.A (PySem.call (.ref f) [.ref a, .ref b]) (PySem.W.CmpBack (EP X pins σ Q)) X.xe s := by
  have r : Vals [V.ref a, V.ref b] [Value.ref a, Value.ref b] := .cons rfl (.cons rfl .nil)
  refine wpAny_mono (run_fnS (E := W) F1 hr hb (L2N.passAt hp σ) I r q) (fun v s' z => ?_) fun _ _ e => e
  obtain ⟨x, H', I', rx, q'⟩ := z
  exact cmpBack_of rx ⟨x, H', I', rx, q'⟩
/-- a op b, both of one own class -/
theorem opOwn {op : Operator} {ma mb : R ρ} {n : R α} (hm : PySem.dunder op.info.2 = m) (g : MtI X.prog X.w X.K X.mg X.base cn m k ps (aCons (cIns cn ns ro) (aOne (cIns cn ns ro))) c F) (hs : selfB cn X.K = true) (hr : Room k X.A) (hp : Lets X W) (ha : DE X W ds a (cIns cn ns ro) ma) (hb : DE X W ds b (cIns cn ns ro) mb)
    (hn : n = (ma >>= fun x => mb >>= fun y => F (x, y)) := by exact rfl) : DE X W ds (.BinOp a op b pos) c n := by
  subst hn hm
  obtain ⟨f, fd, F1, hm1, _, hbn⟩ := g.ex
  obtain ⟨ta, pa, qa⟩ := ha
  obtain ⟨tb, pb, qb⟩ := hb
  refine ⟨fun σ H Q => tOp (rOwn X.K cn (spF X.K (aCons (cIns cn ns ro) (aOne (cIns cn ns ro))) c F) (W σ)) ta tb σ H Q, ⟨fun pins s σ H Q I h => ?_⟩, fun S0 H0 σ S H Q E P => ?_⟩
  · refine wpAny_BinOp (binT pa pb I h fun v u s2 x y H2 I2 rx ry q => ?_)
    obtain ⟨a, b, dx, fs, dx', fs', rfl, rfl, h1, h2, q⟩ := q
    obtain rfl : v = Value.ref a := rx
    obtain rfl : u = Value.ref b := ry
    obtain ⟨ox, od, J1, _⟩ := StX.insC_at I2 (.inr ⟨dx, fs, h1⟩)
    obtain ⟨oy, od2, J2, _⟩ := StX.insC_at I2 (.inr ⟨dx', fs', h2⟩)
    exact bin_same I2.kIn J1 J2 hs hm1.at_ hm1.fn (own_run F1 hbn hr hp I2 q)
  · refine qa S0 H0 σ S H _ E (P.bind fun z v S1 H1 g1 r1 P1 => qb S0 H0 σ S1 H1 _ (E.step g1) (P1.bind fun z2 u S2 H2 g2 r2 P2 => ?_))
    have r1' := (cIns cn ns ro).mono g2.st r1
    obtain ⟨x, dx, fs, rfl, e2, _, _⟩ := r1'
    obtain ⟨y, dx', fs', rfl, f2, _, _⟩ := id r2
    exact ⟨x, y, dx, fs, dx', fs', rfl, rfl, g2.inn _ _ e2, g2.inn _ _ f2, S2, (z, z2), g2.inn, ⟨.ref x, [.ref y], rfl, (cIns cn ns ro).mono g2.st r1, .ref y, rfl, r2⟩, P2⟩
theorem compare_eq (a b : Value) : compareOp .Eq a b = richCompare .Eq a b := rfl
theorem eq_name {K : PySem.W.Frag} {C : Value} {r : Option (Option Value)} (h : PySem.W.findIn K C "__eq__" = r) : PySem.W.findIn K C (cmpInfo .Eq).2.1 = r := h
/-- a == b, both of one own class -/
theorem eqOwn {ma mb : R ρ} {n : R α} (g : MtI X.prog X.w X.K X.mg X.base cn "__eq__" k ps (aCons (cIns cn ns ro) (aOne (cIns cn ns ro))) c F) (hu : X.A.units < cLine) (hr : Room k X.A) (hp : Lets X W) (ha : DE X W ds a (cIns cn ns ro) ma) (hb : DE X W ds b (cIns cn ns ro) mb)
    (hn : n = (ma >>= fun x => mb >>= fun y => F (x, y)) := by exact rfl) : DE X W ds (.Compare a [.Eq] [b] pos) c n := by
  subst hn
  obtain ⟨f, fd, F1, hm1, _, hbn⟩ := g.ex
  obtain ⟨ta, pa, qa⟩ := ha
  obtain ⟨tb, pb, qb⟩ := hb
  refine ⟨fun σ H Q => tOp (rOwn X.K cn (spF X.K (aCons (cIns cn ns ro) (aOne (cIns cn ns ro))) c F) (W σ)) ta tb σ H Q, ⟨fun pins s σ H Q I h => ?_⟩, fun S0 H0 σ S H Q E P => ?_⟩
  · refine wpAny_Compare1 (binT pa pb I h fun v u s2 x y H2 I2 rx ry q => ?_) (nomark _)
    obtain ⟨a, b, dx, fs, dx', fs', rfl, rfl, h1, h2, q⟩ := q
    obtain rfl : v = Value.ref a := rx
    obtain rfl : u = Value.ref b := ry
    obtain ⟨ox, od, J1, _⟩ := StX.insC_at I2 (.inr ⟨dx, fs, h1⟩)
    obtain ⟨oy, od2, J2, _⟩ := StX.insC_at I2 (.inr ⟨dx', fs', h2⟩)
    rw [compare_eq]
    exact cmp_same (op := .Eq) hu I2.kIn J1 J2 (eq_name hm1.at_) hm1.fn (own_run F1 hbn hr hp I2 q)
  · refine qa S0 H0 σ S H _ E (P.bind fun z v S1 H1 g1 r1 P1 => qb S0 H0 σ S1 H1 _ (E.step g1) (P1.bind fun z2 u S2 H2 g2 r2 P2 => ?_))
    have r1' := (cIns cn ns ro).mono g2.st r1
    obtain ⟨x, dx, fs, rfl, e2, _, _⟩ := r1'
    obtain ⟨y, dx', fs', rfl, f2, _, _⟩ := id r2
    exact ⟨x, y, dx, fs, dx', fs', rfl, rfl, g2.inn _ _ e2, g2.inn _ _ f2, S2, (z, z2), g2.inn, ⟨.ref x, [.ref y], rfl, (cIns cn ns ro).mono g2.st r1, .ref y, rfl, r2⟩, P2⟩
end
end Zk
set_option maxHeartbeats 4000000
/-! # Zk: class methods; instances made with defaults -/
namespace Zk
open PySem PySem.Spec PyProof.Rows L2
/-- the class cn itself -/
def cK (cn : Str) : Cd Unit := ⟨fun K _ v _ => v = .ref (He.ga K cn), fun _ h => h⟩
structure CmI (P : Program) (w : World) (K : PySem.W.Frag) (mg : Str → Option Value) (base : Heap) (cn m : Str) (k : Nat) (ps : List Str) {τ γ : Type} (ca : CA τ) (c : Cd γ) (F : τ → R γ) : Prop where
  ex : ∃ f fd p mc, FnOk P w K mg base (L2N.CX P w) k f fd ps (spF K ca c F) ∧ ClX.CRead K (He.ga K cn) mc ∧ ClX.CMet K (He.ga K cn) mc m p f ∧ Binds K fd ps []
section
variable {X : Cx} {W : WK} {ds : Env} {α β γ τ τ' : Type} {e o : Expr} {es : List Expr} {kws : List Keyword} {pos p apos : Pos} {cn f : Str} {ns : List Str} {r : CA γ}
/-- the class's name -/
theorem clsN (hm : X.mg cn = some (.ref (He.ga X.K cn))) (hg : Gl X cn := by rfl) (hdb : (cn == ("__debug__" : Str)) = false := by decide) : DE X W ds (.Name cn pos) (cK cn) (.ok ()) :=
  ⟨_, pe_glob (v := .ref (He.ga X.K cn)) hg hm rfl hdb, fun S0 H0 σ S H Q E P => P.ok E.inn rfl⟩
/-- C.m(e, ..) -/
theorem cmeth [kw : KW W] {pl : Sem Bool} {m : Str} {k : Nat} {ps : List Str} {ca : CA τ} {c : Cd α} {F : Unit × τ → R α} {mo : R Unit} {ma : R τ} {w : R α} (g : CmI X.prog X.w X.K X.mg X.base cn m k ps (aCons (cK cn) ca) c F) (hr : Room k X.A) (hp : Lets X W) (ho : DE X W ds o (cK cn) mo) (ha : DA X W ds (e :: es) ca ma)
    (hn : w = (mo >>= fun a => ma >>= fun z => F (a, z)) := by exact rfl)
    (hst : starEach (e :: es) X.env = (false, eval e X.env) :: starEach es X.env := by rfl) (hpl : (backTo pos (starEach es X.env)).any (·.1) = false := by rfl)
    (ht : eval (.Call (.Attribute o m apos) (e :: es) [] pos) X.env = (do
      let ov ← eval o X.env
      standAt apos.atName
      let (f, first) ← holding [ov] (getMethod ov m pl)
      callWith pos f first (backTo pos (starEach (e :: es) X.env)) (backToKw pos (keywordEach [] X.env))) := by rfl) : DE X W ds (.Call (.Attribute o m apos) (e :: es) [] pos) c w := by
  subst hn
  obtain ⟨W, rfl⟩ := kw.ex
  obtain ⟨f, fd, p, mc, F1, h1, h2, hb⟩ := g.ex
  obtain ⟨t, pe, q⟩ := ho
  obtain ⟨ta, pa, qa⟩ := ha
  have F2 : FnR X.prog X.w X.K X.mg X.base (L2N.CX X.prog X.w) k f (spF X.K (aCons (cK cn) ca) c F) := (F1.raw hb .nil).imp fun vs H Q E h => by rw [List.append_nil]; exact h
  refine ⟨_, ClX.pe_cmeth (E := W) pe h1 h2 F2 hr (L2N.passes_call hp fun _ _ _ _ h => h) pa hst hpl ht, fun S0 H0 σ S H Q E P => ?_⟩
  refine q S0 H0 σ S H _ E (P.bind fun a v S1 H1 g rv P1 => ?_)
  have ev : v = .ref (He.ga X.K cn) := rv
  subst ev
  refine ⟨rfl, qa S0 H0 σ S1 H1 _ (E.step g) (P1.bindA fun z vs S2 H2 g2 r2 P2 => ?_)⟩
  exact ⟨S2, (a, z), g2.inn, ⟨_, vs, rfl, rfl, r2⟩, P2⟩
/-- what makes an instance, its callee read by any road -/
theorem make_run {k : Nat} {fd : FuncData} {ps : List Str} {dvs : List V} {ds' : List Value} {f : Addr} {sp : Sp} (F1 : FnOk X.prog X.w X.K X.mg X.base (L2N.CX X.prog X.w) k f fd ps sp) (M : Mk X.K (He.ga X.K cn) f) (hb : Binds X.K fd ps ds') (hd : Vals dvs ds') (hr : Room (k + 1) X.A) (hp : Lets X W)
    {pins : List (Addr × Obj)} {s : Shared} {σ : L2.St} {H : Hp} {Q : VK} {us : List Value} {vs : List V} (I : L2.Inv X pins σ H s) (rv : Vals vs us) (q : ∀ x dx, H x = none → H dx = none → dx ≠ x → sp (.ref x :: (vs ++ dvs)) (upd (upd H dx (.own x)) x (.ins (He.ga X.K cn) dx [])) (fun v H2 => v = .non ∧ Q (.ref x) H2) (W σ)) :
    wpAny (model X.prog X.w) X.A (PySem.call (.ref (He.ga X.K cn)) us) (EP X pins σ Q) X.xe s := by
  have hq := q (s.heap.objs.size + 1) s.heap.objs.size (I.hok.fresh (Nat.le_succ _)) (I.hok.fresh (Nat.le_refl _)) (Nat.ne_of_lt (Nat.lt_succ_self _))
  have I2 := Inv.made (C := He.ga X.K cn) I
  have r2 : Vals (V.ref (s.heap.objs.size + 1) :: (vs ++ dvs)) (Value.ref (s.heap.objs.size + 1) :: (us ++ ds')) := .cons rfl (rv.append hd)
  have hl : (Value.ref (s.heap.objs.size + 1) :: us ++ ds').length = ps.length := by
    have e := r2.length
    rw [F1.len _ _ _ _ hq] at e
    exact e.symm
  refine wpAny_call (make_map (f := f) I.kIn M.makes M.init (beq_iff_eq.mp M.fn) (codeAny_mono (F1.run _ X.stack _ _ ⟨Value.ref (s.heap.objs.size + 1) :: us, []⟩ (Value.ref (s.heap.objs.size + 1) :: (us ++ ds')) _ _ (W σ) (hr.make _ us [])
    (I2.env0.make _ us []) (hb _ (Value.ref (s.heap.objs.size + 1) :: us) I2.kIn hl) r2 hq) fun r s' hq' => ?_))
  cases r with
  | error e => exact L2N.passAt hp σ pins _ _ e s' I2 hq'
  | ok fl =>
    cases fl with
    | ret u =>
      obtain ⟨v, H', I3, rv, ev, q3⟩ := I2.after hq'
      subst ev
      exact ⟨rv, ⟨V.ref (s.heap.objs.size + 1), H', I3, rfl, q3⟩⟩
    | next => exact False.elim hq'
    | brk => exact False.elim hq'
    | cont => exact False.elim hq'
/-- the spec of __init__ where the instance is new -/
theorem make_sp {ca : CA τ} {ck : CA τ'} {F : τ × τ' → R γ} {z' : τ'} {S H : Hp} {vs dvs : List V} {a : τ} {Q : VK} {E : XK} (i : Same S H) (r1 : ca.rep X.K S vs a) (r2 : ∀ H, ck.rep X.K H dvs z') (P : PX (cIns cn ns r) X.K S H (F (a, z')) Q E) :
    ∀ x dx, H x = none → H dx = none → dx ≠ x → spI cn X.K (aApp ca ck) ns r F (.ref x :: (vs ++ dvs)) (upd (upd H dx (.own x)) x (.ins (He.ga X.K cn) dx [])) (fun v H2 => v = .non ∧ Q (.ref x) H2) E := fun x dx hx hdx hne => by
  have gd : Grow S H S (upd H dx (.own x)) := .lay' i hdx
  have hx2 : upd H dx (.own x) x = none := by rw [upd_ne (Ne.symm hne)]; exact hx
  refine ⟨S, _, x, dx, vs ++ dvs, (a, z'), rfl, gd.inn, hx2, rfl, ⟨vs, dvs, rfl, r1, r2 S⟩, R.post_mono P (fun c k S' H' dx' fs g3 e1 e2 e3 e4 => ?_) (fun y k cl d S' H' g3 rr => k cl d S' H' (gd.trans g3) rr)⟩
  have g4 := gd.trans g3
  have hs : Same S' (upd S' x (.ins (He.ga X.K cn) dx' fs)) := .new e1
  refine ⟨rfl, k (.ref x) (upd S' x (.ins (He.ga X.K cn) dx' fs)) H' ⟨g4.ex, g4.st.trans hs, fun q u hu => ?_, fun q n0 n1 => ?_⟩ ⟨x, dx', fs, rfl, upd_same, e3, r.mono hs e4⟩⟩
  · by_cases z : q = x
    · subst z
      rw [upd_same] at hu
      cases hu
      exact e2
    · rw [upd_ne z] at hu
      exact g4.inn q u hu
  · by_cases z : q = x
    · rw [z]; exact hx
    · rw [upd_ne z] at n1
      exact g4.new q n0 n1
/-- C(e, ..), what lacks has its default -/
theorem mkD {k : Nat} {ca : CA τ} {ck : CA τ'} {z' : τ'} {F : τ × τ' → R γ} {m : R τ} {w : R γ} (g : ClD X.prog X.w X.K X.mg X.base cn k ca ck z' ns r F) (hr : Room (k + 1) X.A) (hp : Lets X W) (ha : DA X W ds (e :: es) ca m) (hn : w = (m >>= fun a => F (a, z')) := by exact rfl)
    (hg : Gl X cn := by rfl) (hdb : (cn == ("__debug__" : Str)) = false := by decide) (he : starEach (e :: es) X.env = (false, eval e X.env) :: starEach es X.env := by rfl) (hpl : (backTo pos (starEach es X.env)).any (·.1) = false := by rfl) : DE X W ds (.Call (.Name cn p) (e :: es) [] pos) (cIns cn ns r) w := by
  subst hn
  obtain ⟨f, fd, ps, ds', dvs, F1, h1, M, hb, hd, hz⟩ := g.ex
  obtain ⟨t, pa, qa⟩ := ha
  refine ⟨fun σ H Q => t σ H fun vs H1 => ∀ x dx, H1 x = none → H1 dx = none → dx ≠ x → spI cn X.K (aApp ca ck) ns r F (.ref x :: (vs ++ dvs)) (upd (upd H1 dx (.own x)) x (.ins (He.ga X.K cn) dx [])) (fun v H2 => v = .non ∧ Q (.ref x) H2) (W σ), ⟨fun pins s σ H Q I h => ?_⟩, fun S0 H0 σ S H Q E P => ?_⟩
  · refine wpAny_Call_Name_kw (ld_glob I hg h1 ?_ hdb)
    refine PySem.W.callWith_K (h₀ := X.base) I.ok.mod.kin M.kp (thn (pa.run pos pins s σ H _ I h) fun us s1 ⟨vs, H1, I1, rv, q⟩ => ⟨I1.kIn, ?_⟩) he hpl
    exact make_run F1 M hb hd hr hp I1 rv q
  · exact qa S0 H0 σ S H _ E (R.post_mono (R.post_bind.mp P) (fun a k vs S1 H1 g1 r1 => make_sp g1.inn r1 hz (PX.grow g1 k)) fun _ k => k)
/-- x(e, ..), x a local name that holds the class -/
theorem mkV {x : Str} {k : Nat} {ca : CA τ} {ck : CA τ'} {z' : τ'} {F : τ × τ' → R γ} {m : R τ} {w : R γ} (i : Nat) (g : ClD X.prog X.w X.K X.mg X.base cn k ca ck z' ns r F) (hr : Room (k + 1) X.A) (hp : Lets X W) (ha : DA X W ds (e :: es) ca m) (hn : w = (m >>= fun a => F (a, z')) := by exact rfl)
    (hds : ds.get i = .st Unit (cK cn) () := by rfl) (hN : X.N[i]? = some x := by rfl) (hv : Vis X.env.scope x := by first | exact Or.inl rfl | exact Or.inr (Or.inl rfl) | exact Or.inr (Or.inr rfl)) (hdb : (x == ("__debug__" : Str)) = false := by decide) (hcd : (x == ("__classdict__" : Str)) = false := by decide)
    (he : starEach (e :: es) X.env = (false, eval e X.env) :: starEach es X.env := by rfl) (hpl : (backTo pos (starEach es X.env)).any (·.1) = false := by rfl) : DE X W ds (.Call (.Name x p) (e :: es) [] pos) (cIns cn ns r) w := by
  subst hn
  obtain ⟨f, fd, ps, ds', dvs, F1, h1, M, hb, hd, hz⟩ := g.ex
  obtain ⟨t, pa, qa⟩ := ha
  refine ⟨fun σ H Q => σ[i]? = some (some (.ref (He.ga X.K cn))) ∧ t σ H fun vs H1 => ∀ x dx, H1 x = none → H1 dx = none → dx ≠ x → spI cn X.K (aApp ca ck) ns r F (.ref x :: (vs ++ dvs)) (upd (upd H1 dx (.own x)) x (.ins (He.ga X.K cn) dx [])) (fun v H2 => v = .non ∧ Q (.ref x) H2) (W σ), ⟨fun pins s σ H Q I h => ?_⟩, fun S0 H0 σ S H Q E P => ?_⟩
  · obtain ⟨hs, h⟩ := h
    refine wpAny_Call_Name_kw (thn ((pe_var (pos := p) (i := i) hN hv hdb hcd).run pins s σ H (fun v H1 => v = .ref (He.ga X.K cn) ∧ H1 = H) I ⟨.ref (He.ga X.K cn), hs, rfl, rfl⟩) fun u s1 ⟨v, H1, I1, r1, ev, eH⟩ => ?_)
    subst ev
    rw [eH] at I1
    cases r1
    refine PySem.W.callWith_K (h₀ := X.base) I.ok.mod.kin M.kp (thn (pa.run pos pins s1 σ H _ I1 h) fun us s2 ⟨vs, H2, I2, rv, q⟩ => ⟨I2.kIn, ?_⟩) he hpl
    exact make_run F1 M hb hd hr hp I2 rv q
  · obtain ⟨v, k1, k2⟩ := E.var hds
    have ev : v = .ref (He.ga X.K cn) := k2
    subst ev
    exact ⟨k1, qa S0 H0 σ S H _ E (R.post_mono (R.post_bind.mp P) (fun a k vs S1 H1 g1 r1 => make_sp g1.inn r1 hz (PX.grow g1 k)) fun _ k => k)⟩
end
/-! ### other classes of a value -/
section
variable {α : Type} {c : Cd α} {X : Cx} {W : WK} {ds : Env} {e : Expr} {pos p p2 : Pos} {m : R α} {cn : Str}
end
end Zk
set_option maxHeartbeats 4000000
/-! # Zk: exceptions with fields -/
namespace Zk
open PySem PySem.Spec PyProof.Rows L2 L2H
/-! ### what the text must say of the class -/
theorem oexB_ok {x : Str} {K : PySem.W.Frag} (h : oexB x K = true) : OexC K (He.ga K x) := by
  obtain ⟨h0, h⟩ := He.ba h
  obtain ⟨h1, h⟩ := He.ba h
  obtain ⟨h2, h⟩ := He.ba h
  obtain ⟨h3, h4⟩ := He.ba h
  refine ⟨?_, He.eqO_ok h1, of_decide_eq_true h2, of_decide_eq_true h3, h4⟩
  split at h0
  · rename_i dd cd sl ho
    split at h0
    · rename_i C' bm k0 k1 k2 k3 n k5 hm hs
      simp only [Bool.and_eq_true, beq_iff_eq, Bool.not_eq_true'] at h0
      obtain ⟨rfl, rfl, hdel, hdict, ht⟩ := h0
      obtain ⟨nm, bs, mro, ns, qn, hd, sn, sub, ab, col, del⟩ := cd
      dsimp only at hm hdel hdict
      subst hm hdel hdict
      have hsl : sl = #[k0, k1, k2, k3, some (.builtin "ValueError.__new__"), k5] := by
        obtain ⟨l⟩ := sl
        simp only at hs
        rw [hs]
      subst hsl
      exact ⟨nm, qn, ns, bs, bm, sn, sub, ab, col, dd, k0, k1, k2, k3, k5, ho, ht⟩
    · cases h0
  · cases h0
/-! ### two such things are told apart -/
theorem exo_inj {a C : Addr} {d d' : Option Addr} (h : exo a C d = exo a C d') : d = d' := by
  have h1 : (fun h : Heap => ∃ t1 : Addr, h.get? a = some ({ cls := .ref C, dict := d, data := .fields #[.ref t1, .none, .none, .none, .bool false, .none] } : Obj)) = fun h : Heap => ∃ t1 : Addr, h.get? a = some ({ cls := .ref C, dict := d', data := .fields #[.ref t1, .none, .none, .none, .bool false, .none] } : Obj) := HO.ext.inj h
  let o : Obj := { cls := .ref C, dict := d, data := .fields #[.ref 0, .none, .none, .none, .bool false, .none] }
  let hp : Heap := { objs := Array.replicate (a + 1) o }
  have e : hp.get? a = some o := by
    have e1 : hp.objs[a]? = some o := by
      show (Array.replicate (a + 1) o)[a]? = some o
      rw [Array.getElem?_replicate, if_pos (Nat.lt_succ_self a)]
    unfold Heap.get?
    rw [e1]
  have q : ∃ t1 : Addr, hp.get? a = some ({ cls := .ref C, dict := d', data := .fields #[.ref t1, .none, .none, .none, .bool false, .none] } : Obj) := (congrFun h1 hp).mp ⟨0, e⟩
  obtain ⟨t1, q⟩ := q
  rw [e] at q
  exact congrArg Obj.dict (Option.some.inj q)
/-! ### an exception that is being made -/
def oX {τ : Type} (a : Addr) (cn : Str) (ns : List Str) (r : CA τ) : OC τ where
  c := ⟨fun _ _ _ _ => True, fun _ _ => trivial⟩
  rep K S H v z fp := v = .ref a ∧ S a = none ∧ ((ns = [] ∧ fp = [a] ∧ H a = some (exo a (He.ga K cn) none) ∧ r.rep K S [] z) ∨
    ∃ (dx : Addr) (fs : List (Str × V)), fp = [a, dx] ∧ dx ≠ a ∧ S dx = none ∧ H a = some (exo a (He.ga K cn) (some dx)) ∧ H dx = some (exd dx fs) ∧ fs.map (·.1) = ns ∧ r.rep K S (fs.map (·.2)) z)
  stay := by
    intro K S H S' H' v z fp e k h
    obtain ⟨h1, h2, h⟩ := h
    rcases h with ⟨h3, rfl, h4, h5⟩ | ⟨dx, fs, rfl, h4, h5, h6, h7, h8, h9⟩
    · obtain ⟨k1, k2⟩ := k a (List.mem_singleton.mpr rfl)
      exact ⟨h1, k1, .inl ⟨h3, rfl, k2.trans h4, r.mono e h5⟩⟩
    · obtain ⟨k1, k2⟩ := k a List.mem_cons_self
      obtain ⟨k3, k4⟩ := k dx (List.mem_cons_of_mem _ List.mem_cons_self)
      exact ⟨h1, k1, .inr ⟨dx, fs, rfl, h4, k3, k2.trans h6, k4.trans h7, h8, r.mono e h9⟩⟩
  dom := by
    intro K S H v z fp h q hq
    obtain ⟨h1, h2, h⟩ := h
    rcases h with ⟨h3, rfl, h4, h5⟩ | ⟨dx, fs, rfl, h4, h5, h6, h7, h8, h9⟩
    · rw [List.mem_singleton.mp hq]; exact ⟨h2, _, h4⟩
    · rcases List.mem_cons.mp hq with z | z
      · rw [z]; exact ⟨h2, _, h6⟩
      · rw [List.mem_singleton.mp z]; exact ⟨h5, _, h7⟩
  nd := by
    intro K S H v z fp h
    obtain ⟨h1, h2, h⟩ := h
    rcases h with ⟨h3, rfl, h4, h5⟩ | ⟨dx, fs, rfl, h4, _⟩
    · exact List.nodup_cons.mpr ⟨by simp, List.nodup_nil⟩
    · exact List.nodup_cons.mpr ⟨fun z => h4 (List.mem_singleton.mp z).symm, List.nodup_cons.mpr ⟨by simp, List.nodup_nil⟩⟩
  set := by intros; trivial
section
variable {X : Cx} {W : WK} {T : Bool} {ds : Env} {α β γ τ ν κ ω : Type} {e : Expr} {es : List Expr} {rest : List Stmt} {pos p : Pos} {c : Cd α} {cb : RCd β} {eN : ν → Env} {eK : κ → Env} {I : ω → Out β ν κ} {m : R α} {k : α → R ω} {cn f : Str} {ns : List Str} {r : CA τ} {pr : τ → α}
/-- self.f = e, self an exception -/
theorem xfS [kw : KW W] {a : Addr} {z0 : τ} {n : Str} {p1 pos' : Pos} (i : Nat) (he : DE X W ds e c m) (hr : ∀ z, DS X W T (ds.put i (.ow (α × τ) (oX a cn (f :: ns) (aCons c r)) (z, z0))) rest cb eN eK I (k z)) (hc : OexC X.K (He.ga X.K cn)) (hn : NoAttr X.K (He.ga X.K cn) f)
    (hd : ds.get i = .ow τ (oX a cn ns r) z0 := by rfl) (hN : X.N[i]? = some n := by rfl) (hl : ns.length ≤ 900 := by decide +kernel)
    (hv : Vis X.env.scope n := by first | exact Or.inl rfl | exact Or.inr (Or.inl rfl) | exact Or.inr (Or.inr rfl)) (hdb : (n == ("__debug__" : Str)) = false := by decide) (hcd : (n == ("__classdict__" : Str)) = false := by decide)
    (hs : swapsWith e (some (.Attribute (.Name n p1) f pos')) pos.line X.env = pure false := by rfl) : DS X W T ds (.Assign [.Attribute (.Name n p1) f pos'] e pos :: rest) cb eN eK I (m >>= k) := fun S0 H0 σ S H D nx h E P => by
  obtain ⟨W, rfl⟩ := kw.ex
  obtain ⟨te, pe, qe⟩ := he
  refine seq (ps_ost (pe_var hN hv hdb hcd) pe hs) (qe S0 H0 σ S H _ E (stE (W := fun _ => W) E P fun z v S' H' E' rz P' => ?_))
  obtain ⟨u, fp, h1, ⟨rfl, sa, alt⟩, h3⟩ := E'.owv hd
  refine ⟨.ref a, h1, a, He.ga X.K cn, rfl, hc, hn, ?_⟩
  rcases alt with ⟨rfl, rfl, h4, h5⟩ | ⟨dx, fs, rfl, h4, h5, h6, h7, h8, h9⟩
  · left
    refine ⟨h4, fun dx hdx hne => ?_⟩
    refine hr z S0 H0 σ S' _ D nx h (E'.mut (.refl E'.inn) hd fun v2 fp2 k1 kk dm => ?_) P'
    obtain ⟨rfl, sa2, alt2⟩ := kk
    have e2 : fp2 = [a] := by
      rcases alt2 with ⟨_, e, _, _⟩ | ⟨dx', fs', _, _, _, h6', _⟩
      · exact e
      · rw [h4] at h6'
        exact nomatch exo_inj (Option.some.inj h6')
    subst e2
    refine ⟨[a, dx], ⟨rfl, sa, .inr ⟨dx, [(f, v)], rfl, hne, E'.inn.free hdx, upd_same, by rw [upd_ne hne]; exact upd_same, rfl, ⟨v, [], rfl, rz, h5⟩⟩⟩, fun q hq => ?_, fun q hq => ?_⟩
    · by_cases z1 : q = a
      · exact (hq (by rw [z1]; exact List.mem_cons_self)).elim
      · by_cases z2 : q = dx
        · right
          rw [z2]
          exact ⟨hdx, E'.inn.free hdx⟩
        · left
          rw [upd_ne z1, upd_ne z2]
    · rcases List.mem_cons.mp hq with z1 | z1
      · left; rw [z1]; exact List.mem_cons_self
      · right; rw [List.mem_singleton.mp z1]; exact hdx
  · right
    refine ⟨dx, fs, h6, h7, ?_, ?_⟩
    · have q := congrArg List.length h8
      rw [List.length_map] at q
      rw [q]; exact hl
    · refine hr z S0 H0 σ S' _ D nx h (E'.mut (.refl E'.inn) hd fun v2 fp2 k1 kk dm => ?_) P'
      obtain ⟨rfl, sa2, alt2⟩ := kk
      have e2 : fp2 = [a, dx] := by
        rcases alt2 with ⟨_, e, h6', _⟩ | ⟨dx', fs', e, _, _, h6', _⟩
        · rw [h6] at h6'
          exact nomatch exo_inj (Option.some.inj h6')
        · rw [h6] at h6'
          have e3 : dx' = dx := (Option.some.inj (exo_inj (Option.some.inj h6'))).symm
          rw [e, e3]
      subst e2
      refine ⟨[a, dx], ⟨rfl, sa, .inr ⟨dx, (f, v) :: fs, rfl, h4, h5, by rw [upd_ne (Ne.symm h4)]; exact h6, upd_same, by rw [List.map_cons, h8], ⟨v, fs.map (·.2), rfl, rz, h9⟩⟩⟩, fun q hq => .inl (upd_ne fun z1 => hq (by rw [z1]; exact List.mem_cons_of_mem _ List.mem_cons_self)), fun q hq => .inl hq⟩
end
/-! ### its __init__ -/
def spXI {τ γ : Type} (cn : Str) (K : PySem.W.Frag) (ca : CA τ) (ns : List Str) (r : CA γ) (F : τ → R γ) : Sp := fun vs H Q E => ∃ S Hb a ws z, vs = .ref a :: ws ∧ Same S Hb ∧ Hb a = none ∧ H = upd Hb a (exo a (He.ga K cn) none) ∧ ca.rep K S ws z ∧
  (F z).post (fun y => ∀ (S' H' : Hp) (dx : Addr) (fs : List (Str × V)), Grow S Hb S' H' → S' a = none → S' dx = none → Hb dx = none → dx ≠ a → H' a = some (exo a (He.ga K cn) (some dx)) → H' dx = some (exd dx fs) → fs.map (·.1) = ns → r.rep K S' (fs.map (·.2)) y → Q .non H') (fun _ => False)
section
variable {P : Program} {w : World} {K : PySem.W.Frag} {mg : Str → Option Value} {base : Heap} {τ γ ν κ : Type}
theorem fn_mkX {x qual cn : Str} {prs : Arguments} {body : List Stmt} {scope : Scope} {dvs : List V} {kws : List (Str × V)} {f : Addr} {fd : FuncData} {N ps : List Str} {k : Nat} {ca : CA τ} {ns : List Str} {r : CA γ} {F : τ → R γ} {eN : Addr → γ → Env} {eK : κ → Env}
    (D : FunD K x qual prs body scope dvs kws f fd) (S : FnScope N ps scope) (hn : ca.n + 1 = ps.length) (hl : ca.n + 1 ≤ N.length) (hns : ns ≠ []) (hN : ∀ x a, (eN x a).get 0 = .ow γ (oX x cn ns r) a)
    (hb : ∀ (cdv : Value) (A : Around) (outer : List PySem.Env) (s : Shared) (H : Hp) (E : XK), Room k (A.deeper (envOfC qual scope s.heap.objs.size f cdv)) →
      Lets (cxOf (L2N.CX P w) P w K mg base N qual scope f cdv A outer s H E) (fun _ => E) → PassesOwn (model P w) (A.deeper (envOfC qual scope s.heap.objs.size f cdv)) (envOfC qual scope s.heap.objs.size f cdv) (cxOf (L2N.CX P w) P w K mg base N qual scope f cdv A outer s H E).xe →
      ∀ x z, DS (cxOf (L2N.CX P w) P w K mg base N qual scope f cdv A outer s H E) (fun _ => E) false ((.ow Unit (oX x cn [] aNil) () :: ca.env z) ++ List.replicate (N.length - (ca.n + 1)) .none) body (fun _ => cN) (eN x) eK (fun b => (.nxt b : Out Unit γ κ)) (F z)) :
    FnOk P w K mg base (L2N.CX P w) (k + 1) f fd ps (spXI cn K ca ns r F) := by
  refine D.ok S (fun vs H Q E h => ?_) (fun cdv A outer s H vs Q E hr h => ?_)
  · obtain ⟨S, Hb, x, ws, z, rfl, _, _, _, r, _⟩ := h
    rw [List.length_cons, ca.len r, hn]
  · obtain ⟨S1, Hb, x, ws, z, rfl, i, hx, rfl, rz, Px⟩ := h
    have tk : L2N.Takes (cxOf (L2N.CX P w) P w K mg base N qual scope f cdv A outer s (upd Hb x (exo x (He.ga K cn) none)) E) (fun cl d _ H => E cl d H) := L2N.takes_of rfl rfl rfl rfl
    have lw := ca.len rz
    have e0 : EnvOk K S1 Hb ((.ow Unit (oX x cn [] aNil) () :: ca.env z) ++ List.replicate (N.length - (ca.n + 1)) .none) (L2.start N (.ref x :: ws)) S1 (upd Hb x (exo x (He.ga K cn) none)) := by
      refine ⟨?_, ⟨fun j => if j = 0 then [x] else [], fun j => ?_, fun j l p hj hl => ?_⟩, .lay' i hx⟩
      · unfold L2.start
        rw [List.length_append, List.length_append, List.length_map, List.length_replicate, List.length_replicate, List.length_cons, List.length_cons, (ca.sl rz).length, lw]
      · cases j with
        | zero => exact ⟨⟨.ref x, rfl, rfl, i.free hx, .inl ⟨rfl, rfl, upd_same, rfl⟩⟩, fun p hp => by rw [List.mem_singleton.mp hp]; exact hx⟩
        | succ j =>
          have q := EnvV.slot (K := K) (H0 := Hb) (H := upd Hb x (exo x (He.ga K cn) none)) (n := N.length - (ca.n + 1)) j (ca.sl rz)
          show SlotOk K Hb S1 _ ((ca.env z ++ List.replicate (N.length - (ca.n + 1)) SD.none).get j) (ws.map some ++ List.replicate (N.length - (ws.length + 1)) none)[j]? []
          rw [lw]
          exact q
      · have hj : p ∈ (if j = 0 then [x] else []) := hj
        have hl : p ∈ (if l = 0 then [x] else []) := hl
        by_cases zj : j = 0
        · by_cases zl : l = 0
          · rw [zj, zl]
          · rw [if_neg zl] at hl; simp at hl
        · rw [if_neg zj] at hj; simp at hj
    refine ⟨tS _ body, pss_tS, hb cdv A outer s _ E hr tk (passes_of rfl) x z S1 Hb _ S1 _ { nx := fun _ H' => Q .non H', rt := Q } (fun _ H' => Q .non H') (.inr rfl) e0 ?_⟩
    refine R.post_mono Px (fun b q σ' S' H' e => ?_) (fun x q => q.elim)
    obtain ⟨v, fp, _, ⟨_, sa, alt⟩, h3⟩ := e.owv (hN x b)
    rcases alt with ⟨e1, _⟩ | ⟨dx, fs, rfl, h4, h5, h6, h7, h8, h9⟩
    · exact absurd e1 hns
    · exact q S' H' dx fs e.grow sa h5 (h3 dx (List.mem_cons_of_mem _ List.mem_cons_self)) h4 h6 h7 h8 h9
/-- a class of exceptions with fields -/
structure XcI (P : Program) (w : World) (K : PySem.W.Frag) (mg : Str → Option Value) (base : Heap) (cn : Str) (k : Nat) {τ γ : Type} (ca : CA τ) (ns : List Str) (r : CA γ) (F : τ → R γ) (toF : γ → List (Str × Fld)) : Prop where
  ex : ∃ f fd ps, FnOk P w K mg base (L2N.CX P w) k f fd ps (spXI cn K ca ns r F) ∧ OexC K (He.ga K cn) ∧ Meth K (He.ga K cn) "__init__" f ∧ mg cn = some (.ref (He.ga K cn)) ∧ Binds K fd ps [] ∧ ca.n ≤ 900 ∧
    ∀ (K : PySem.W.Frag) (S : Hp) (gs : List (Str × V)) (y : γ), gs.map (·.1) = ns → r.rep K S (gs.map (·.2)) y → FldsR K S gs (toF y)
end
/-! ### its fields as they are told -/
def FF {γ : Type} (ns : List Str) (r : CA γ) (toF : γ → List (Str × Fld)) : Prop := ∀ (K : PySem.W.Frag) (S : Hp) (gs : List (Str × V)) (y : γ), gs.map (·.1) = ns → r.rep K S (gs.map (·.2)) y → FldsR K S gs (toF y)
theorem ffNil : FF [] aNil fun _ => [] := fun K S gs y h1 h2 => by
  cases gs with
  | nil => trivial
  | cons _ _ => cases h1
theorem ffCons {γ α : Type} {ns : List Str} {r : CA γ} {toF : γ → List (Str × Fld)} {f : Str} {c : Cd α} {g : α → Fld} (hc : ∀ K S v a, c.rep K S v a → FldR K S v (g a)) (h : FF ns r toF) : FF (f :: ns) (aCons c r) fun y => (f, g y.1) :: toF y.2 := fun K S gs y h1 h2 => by
  obtain ⟨v, ws, e, h3, h4⟩ := h2
  cases gs with
  | nil => cases h1
  | cons q gs =>
    obtain ⟨n, u⟩ := q
    have e1 : n = f ∧ gs.map (·.1) = ns := by simpa using h1
    have e2 : u = v ∧ gs.map (·.2) = ws := by simpa using e
    refine ⟨e1.1, ?_, h K S gs y.2 e1.2 (by rw [e2.2]; exact h4)⟩
    rw [e2.1]
    exact hc K S v y.1 h3
theorem fInt : ∀ K S v (a : Int), cI.rep K S v a → FldR K S v (.int a) := fun _ _ _ _ h => h
theorem fInts : ∀ K S v (a : List Int), (cT cI).rep K S v a → FldR K S v (.ints a) := fun _ _ _ _ h => h
theorem fStr : ∀ K S v (a : Str), cS.rep K S v a → FldR K S v (.str a) := fun _ _ _ _ h => h
/-! ### raise C(e, ..) -/
section
variable {X : Cx} {W : WK} {T : Bool} {ds : Env} {β γ τ ν κ ω : Type} {e : Expr} {es : List Expr} {rest : List Stmt} {pos p pos' : Pos} {cb : RCd β} {eN : ν → Env} {eK : κ → Env} {I : ω → Out β ν κ} {cn : Str} {ns : List Str} {r : CA γ}
theorem pmkX {k : Nat} {f : Addr} {fd : FuncData} {ps : List Str} {sp : Sp} {ta : TA} (O : OexC X.K (He.ga X.K cn)) (M : Meth X.K (He.ga X.K cn) "__init__" f) (F1 : FnOk X.prog X.w X.K X.mg X.base (L2N.CX X.prog X.w) k f fd ps sp) (hr : Room (k + 1) X.A) (hb : Binds X.K fd ps []) (hp : Lets X W)
    (hm : X.mg cn = some (.ref (He.ga X.K cn))) (ha : PA X (e :: es) ta) (hg : Gl X cn := by rfl) (hdb : (cn == ("__debug__" : Str)) = false := by decide) (he : starEach (e :: es) X.env = (false, eval e X.env) :: starEach es X.env := by rfl) (hpl : (backTo pos (starEach es X.env)).any (·.1) = false := by rfl) :
    L2N.PMk X (.Call (.Name cn p) (e :: es) [] pos) (tMkO (He.ga X.K cn) sp [] ta) := fun pins s σ H Q I h => by
  have hx : Passes (L2N.CX X.prog X.w) X (fun _ _ _ => False) := L2N.passes_call hp fun _ _ _ _ h => h.elim
  obtain ⟨nm, q, N, bs, bm, sn, sub, ab, col, dd, k0, k1, k2, k3, k5, hC, hbm⟩ := O.cls
  refine wpAny_Call_Name_kw (ld_glob I hg hm ?_ hdb)
  refine PySem.W.callWith_K (h₀ := X.base) I.ok.mod.kin O.kC (thn (ha.run pos pins s σ H _ I h) fun us s1 ⟨vs, H1, I1, r1, hz, q1⟩ => ⟨I1.kIn, ?_⟩) he hpl
  obtain ⟨hp1, g, dr, tk, os⟩ := s1
  have hsz : hp1.objs.size ≤ hp1.objs.size + 1 := Nat.le_succ _
  have hn : H1 (hp1.objs.size + 1) = none := I1.hok.fresh hsz
  have hq := q1 (hp1.objs.size + 1) hn
  rw [List.append_nil] at hq
  generalize eh : (hp1.push (PySem.W.kdv_tup us)).push (PySem.HandSPX.excO (He.ga X.K cn) hp1.objs.size) = hp2
  have kk : ∀ b o, hp1.get? b = some o → hp2.get? b = some o := fun b o z => by
    rw [← eh]
    exact Heap.get?_push_of_some _ (Heap.get?_push_of_some _ z)
  have hget : hp2.get? (hp1.objs.size + 1) = some (PySem.HandSPX.excO (He.ga X.K cn) hp1.objs.size) := by
    rw [← eh]
    heap_get
  have I2 : L2.Inv X pins σ (upd H1 (hp1.objs.size + 1) (exo (hp1.objs.size + 1) (He.ga X.K cn) none)) ⟨hp2, g, dr, tk, os⟩ := I1.laid (t' := tk) (a := hp1.objs.size + 1) (o := exo (hp1.objs.size + 1) (He.ga X.K cn) none) (h' := hp2) kk hsz (exo_ok hget)
  have r2 : Vals (V.ref (hp1.objs.size + 1) :: vs) (Value.ref (hp1.objs.size + 1) :: us) := .cons rfl r1
  have hl : (Value.ref (hp1.objs.size + 1) :: us).length = ps.length := by
    have z := r2.length
    rw [F1.len _ _ _ _ hq] at z
    exact z.symm
  have b2 := hb _ (Value.ref (hp1.objs.size + 1) :: us) I2.kIn (by rw [List.append_nil]; exact hl)
  rw [List.append_nil] at b2
  have hus : us.length ≤ sizeLine := by
    rw [← Paired.length r1, sizeLine_eq]
    omega
  refine wpAny_call (PySem.HandSPX.call_own PySem.F.excBase_ValueError (fun Y => PySem.HandSPX.refsVE_contains Y bm hbm) (I1.kIn _ _ hC) (PySem.W.looks_findIn I1.kIn M.at_) (fun self => PySem.W.bind_fn I1.kIn self (beq_iff_eq.mp M.fn)) hus ?_)
  simp only [List.nil_append, eh]
  refine codeAny_mono (F1.run _ X.stack _ _ ⟨Value.ref (hp1.objs.size + 1) :: us, []⟩ (Value.ref (hp1.objs.size + 1) :: us) _ _ (fun _ _ _ => False) (hr.make (He.ga X.K cn) us []) (I2.env0.make (He.ga X.K cn) us []) b2 r2 hq) fun r s' hq' => ?_
  cases r with
  | error er => exact hx pins σ _ _ er s' I2 hq'
  | ok fl =>
    cases fl with
    | ret u =>
      obtain ⟨v, H2, os2, bare2, un2, hok2, rv, ev, d, fs, ea, ed, hd1, q2⟩ := hq'
      subst ev
      obtain ⟨h2, g2, d2, t2, os'⟩ := s'
      obtain ⟨t0, G, J, kG, ge, hoe, na⟩ := mk_end0 (d2 := d2) (t2 := t2) I1 hsz kk un2 hok2 os2 bare2 ea ed hd1
      exact ⟨rv, hp1.objs.size + 1, _, _, ⟨G, g2, d2, t2, os'⟩, _, .ref (He.ga X.K cn), some d, rfl, J, kG, ge, hoe, ⟨rfl, rfl, fun vs hv => by cases hv; rfl⟩, rfl, rfl, na, rfl, bare2, raises_own O.exC O.tyC, q2⟩
    | next => exact False.elim hq'
    | brk => exact False.elim hq'
    | cont => exact False.elim hq'
theorem raiseF {k : Nat} {ca : CA τ} {F : τ → R γ} {toF : γ → List (Str × Fld)} {m : R τ} (g : XcI X.prog X.w X.K X.mg X.base cn k ca ns r F toF) (hr : Room (k + 1) X.A) (hp : Lets X W) (ha : DA X W ds (e :: es) ca m) (hc : X.calm = true := by rfl)
    (hg : Gl X cn := by rfl) (hdb : (cn == ("__debug__" : Str)) = false := by decide) (he : starEach (e :: es) X.env = (false, eval e X.env) :: starEach es X.env := by rfl) (hpl : (backTo pos' (starEach es X.env)).any (·.1) = false := by rfl) :
    DS X W T ds (.Raise (some (.Call (.Name cn p) (e :: es) [] pos')) none pos :: rest) cb eN eK I (m >>= fun z => R.nox (F z) >>= fun y => .exn ⟨cn, toF y⟩) := fun S0 H0 σ S H D nx h E P => by
  obtain ⟨f, fd, ps, F1, O, M, hm, hb, hn9, hff⟩ := g.ex
  obtain ⟨ta, pa, qa⟩ := ha
  refine seq (L2N.ps_raise hc hp (pmkX O M F1 hr hb hp hm pa hg hdb he hpl)) (qa S0 H0 σ S H _ E (R.post_mono (R.post_bind.mp P) (fun z k vs S1 H1 g1 r1 => ⟨by rw [ca.len r1]; omega, fun a hfree => ?_⟩) (fun x q cl d S' H' g r => q cl d S' H' (E.grow.trans g) r)))
  refine ⟨S1, H1, a, vs ++ [], z, rfl, g1.inn, hfree, rfl, by rw [List.append_nil]; exact r1, ?_⟩
  refine nox_post (E' := fun _ => False) (R.post_mono (R.post_bind.mp k) (fun y q S' H' dx fs g3 e1 e2 e3 e4 e5 e6 e7 e8 => ?_) (fun _ q => q)) |> fun z => R.post_mono z (fun y q => q) (fun _ q => q)
  have gg := E.grow.trans (g1.trans g3)
  have q : EX X.K (W σ) S0 H0 ⟨cn, toF y⟩ := q
  have ha0 : H0 a = none := (E.grow.trans g1).ex.free hfree
  have hd0 : H0 dx = none := (E.grow.trans g1).ex.free e3
  refine ⟨rfl, dx, fs, e5, e6, e3, q _ _ (upd S' dx (.xd fs)) _ ⟨fun p u hu => ?_, fun p u hu => ?_, fun p u hu => ?_, fun p n0 n1 => ?_⟩ ⟨rfl, .inr ⟨dx, fs, rfl, upd_same, (hff X.K S' fs y e7 e8).mono (.new e2)⟩⟩⟩
  · have n1 : p ≠ dx := fun z => by rw [z, hd0] at hu; cases hu
    have n2 : p ≠ a := fun z => by rw [z, ha0] at hu; cases hu
    rw [upd_ne n1, del_ne n2]
    exact gg.ex p u hu
  · have n1 : p ≠ dx := fun z => by
      have := gg.st p u hu
      rw [z, e2] at this
      cases this
    rw [upd_ne n1]
    exact gg.st p u hu
  · by_cases n1 : p = dx
    · subst n1
      rw [upd_same] at hu ⊢
      exact hu
    · rw [upd_ne n1] at hu ⊢
      have n2 : p ≠ a := fun z => by rw [z, e1] at hu; cases hu
      rw [del_ne n2]
      exact gg.inn p u hu
  · by_cases z : p = dx
    · rw [z]; exact hd0
    · rw [upd_ne z] at n1
      exact gg.new p n0 n1
end
/-! ### e.f, e what was caught -/
def xInt (t : List Str) (f : Str) (y : Exn) : R Int := if t.contains y.cls = true then (match y.fs.lookup f with | some (.int i) => .ok i | _ => .stuck) else .stuck
def xInts (t : List Str) (f : Str) (y : Exn) : R (List Int) := if t.contains y.cls = true then (match y.fs.lookup f with | some (.ints l) => .ok l | _ => .stuck) else .stuck
def xStr (t : List Str) (f : Str) (y : Exn) : R Str := if t.contains y.cls = true then (match y.fs.lookup f with | some (.str x) => .ok x | _ => .stuck) else .stuck
def tXg (X : Cx) (i : Nat) (q : Addr × Obj) (f : Str) : TE := fun σ H Q => ∃ (C dd : Addr) (fs : List (Str × V)) (v : V), σ[i]? = some (some (.ref q.1)) ∧ q.2.cls = .ref C ∧ XfC X.K C ∧ PySem.W.findIn X.K (.ref C) f = some none ∧ q.2.dict = some dd ∧ H dd = some (.xd fs) ∧ fs.lookup f = some v ∧ Q v H
section
variable {X : Cx} {W : WK} {ds : Env} {n f : Str} {pos p1 : Pos} {q : Addr × Obj} {y : Exn} {t : List Str}
theorem pe_xg {i : Nat} (hx : HotX X q) (hN : X.N[i]? = some n) (hvis : Vis X.env.scope n) (hdb : (n == ("__debug__" : Str)) = false) (hcd : (n == ("__classdict__" : Str)) = false) (hb : attributeBase (.Name n p1) f X.env (eval (.Name n p1) X.env) = eval (.Name n p1) X.env) :
    PE X (.Attribute (.Name n p1) f pos) (tXg X i q f) := ⟨fun pins s σ H Q I h => by
  obtain ⟨C, dd, fs, v, h1, hc, hC, hno, ed, ea, l, qq⟩ := h
  refine attr_of hb (thn ((pe_var hN hvis hdb hcd).run pins s σ H (fun x H1 => x = .ref q.1 ∧ H1 = H) I ⟨.ref q.1, h1, rfl, rfl⟩) fun u s1 hh => ?_)
  obtain ⟨x, H1, I1, rx, ex, eH⟩ := hh
  subst ex eH
  obtain rfl : u = Value.ref q.1 := rx
  have ha := (I1.pin q (List.mem_append_left _ hx.mem)).1
  obtain ⟨cls, d, hz, vs, hd⟩ := hx.held.ex
  obtain ⟨mA, hns, hr⟩ := (show ObjOk X.prog X.w H1 s1.heap dd (.xd fs) from I1.hok dd _ ea)
  obtain ⟨od, ho, hl⟩ := lookIn_ns hns
  obtain ⟨u, hu, ru⟩ := RelO.some_of (v := v) (o := mA f) (by rw [← l]; exact hr f)
  have J : PySem.W.InstAt s1.heap q.1 q.2 C (some od) := ⟨ha, hc, by unfold PySem.W.notCls; rw [hd] <;> rfl, by rw [ed]; exact ho⟩
  exact HandSPX.exc_get I1.kIn J hC.ga hC.gg hC.exC (PySem.W.findObj_own hC.hdC hno rfl (by rw [hl, hu])) (handed_of ru) ⟨v, H1, I1.tok _, ru, qq⟩⟩
theorem xf_any {α : Type} {c : Cd α} {g : Fld → Option α} (i : Nat) (hx : HotX X q) (ht : xfT t f X.K = true) (hg : ∀ x a, g x = some a → ∀ K S v, FldR K S v x → c.rep K S v a)
    (hd : ds.get i = .st Exn (cE q) y) (hN : X.N[i]? = some n) (hvis : Vis X.env.scope n) (hdb : (n == ("__debug__" : Str)) = false) (hcd : (n == ("__classdict__" : Str)) = false) (hb : attributeBase (.Name n p1) f X.env (eval (.Name n p1) X.env) = eval (.Name n p1) X.env)
    {m : R α} (hm : m = if t.contains y.cls = true then (match y.fs.lookup f with | some x => (match g x with | some a => .ok a | none => .stuck) | none => .stuck) else .stuck) : DE X W ds (.Attribute (.Name n p1) f pos) c m := by
  refine ⟨_, pe_xg hx hN hvis hdb hcd hb, fun S0 H0 σ S H Q E P => ?_⟩
  obtain ⟨v, h1, rfl, e2, e3⟩ := E.var hd
  rw [hm] at P
  by_cases ct : t.contains y.cls = true
  · rw [if_pos ct] at P
    have hx1 := List.all_eq_true.mp ht y.cls (List.contains_iff_mem.mp ct)
    obtain ⟨k1, k2⟩ := He.ba hx1
    cases hl : y.fs.lookup f with
    | none =>
      rw [hl] at P
      exact False.elim P
    | some x =>
      rw [hl] at P
      cases hgx : g x with
      | none =>
        have P : PX c X.K S H (match g x with | some a => .ok a | none => .stuck) Q (W σ) := P
        rw [hgx] at P
        exact False.elim P
      | some a =>
        have P : PX c X.K S H (match g x with | some a => .ok a | none => .stuck) Q (W σ) := P
        rw [hgx] at P
        rcases e3 with ⟨_, e⟩ | ⟨dd, gs, z1, z2, z3⟩
        · rw [e] at hl; cases hl
        · obtain ⟨u, k3, k4⟩ := z3.get hl
          exact ⟨_, dd, gs, u, h1, e2, xfB_ok k1, He.eqO_ok k2, z1, E.inn _ _ z2, k3, PX.ok P E.inn (hg x a hgx _ _ _ k4)⟩
  · rw [if_neg ct] at P
    exact False.elim P
theorem xfI (i : Nat) (hx : HotX X q) (ht : xfT t f X.K = true) (hd : ds.get i = .st Exn (cE q) y := by rfl) (hN : X.N[i]? = some n := by rfl) (hvis : Vis X.env.scope n := by first | exact Or.inl rfl | exact Or.inr (Or.inl rfl) | exact Or.inr (Or.inr rfl))
    (hdb : (n == ("__debug__" : Str)) = false := by decide) (hcd : (n == ("__classdict__" : Str)) = false := by decide) (hb : attributeBase (.Name n p1) f X.env (eval (.Name n p1) X.env) = eval (.Name n p1) X.env := by rfl) : DE X W ds (.Attribute (.Name n p1) f pos) cI (xInt t f y) :=
  xf_any (g := fun x => match x with | .int i => some i | _ => none) i hx ht (fun x a h K S v r => by cases x with
    | _ => first | (cases h; exact r) | cases h) hd hN hvis hdb hcd hb (by
      unfold xInt
      cases y.fs.lookup f with
      | none => rfl
      | some x => cases x <;> rfl)
theorem xfL (i : Nat) (hx : HotX X q) (ht : xfT t f X.K = true) (hd : ds.get i = .st Exn (cE q) y := by rfl) (hN : X.N[i]? = some n := by rfl) (hvis : Vis X.env.scope n := by first | exact Or.inl rfl | exact Or.inr (Or.inl rfl) | exact Or.inr (Or.inr rfl))
    (hdb : (n == ("__debug__" : Str)) = false := by decide) (hcd : (n == ("__classdict__" : Str)) = false := by decide) (hb : attributeBase (.Name n p1) f X.env (eval (.Name n p1) X.env) = eval (.Name n p1) X.env := by rfl) : DE X W ds (.Attribute (.Name n p1) f pos) (cT cI) (xInts t f y) :=
  xf_any (g := fun x => match x with | .ints i => some i | _ => none) i hx ht (fun x a h K S v r => by cases x with
    | _ => first | (cases h; exact r) | cases h) hd hN hvis hdb hcd hb (by
      unfold xInts
      cases y.fs.lookup f with
      | none => rfl
      | some x => cases x <;> rfl)
theorem xfW (i : Nat) (hx : HotX X q) (ht : xfT t f X.K = true) (hd : ds.get i = .st Exn (cE q) y := by rfl) (hN : X.N[i]? = some n := by rfl) (hvis : Vis X.env.scope n := by first | exact Or.inl rfl | exact Or.inr (Or.inl rfl) | exact Or.inr (Or.inr rfl))
    (hdb : (n == ("__debug__" : Str)) = false := by decide) (hcd : (n == ("__classdict__" : Str)) = false := by decide) (hb : attributeBase (.Name n p1) f X.env (eval (.Name n p1) X.env) = eval (.Name n p1) X.env := by rfl) : DE X W ds (.Attribute (.Name n p1) f pos) cS (xStr t f y) :=
  xf_any (g := fun x => match x with | .str i => some i | _ => none) i hx ht (fun x a h K S v r => by cases x with
    | _ => first | (cases h; exact r) | cases h) hd hN hvis hdb hcd hb (by
      unfold xStr
      cases y.fs.lookup f with
      | none => rfl
      | some x => cases x <;> rfl)
end
/-! ### isinstance(e, C), e an instance of the own class D -/
section
variable {X : Cx} {W : WK} {ds : Env} {τ : Type} {e : Expr} {pos p p2 : Pos} {D C : Str} {b : Bool} {ns : List Str} {r : CA τ} {m : R τ} {w : R Bool}
theorem isIns (h : insB D C b X.K = true) (gC : X.mg C = some (.ref (He.ga X.K C))) (hm : X.mg "isinstance" = none) (he : DE X W ds e (cIns D ns r) m) (hw : w = (m >>= fun _ => .ok b) := by exact rfl) (hg : Gl X "isinstance" := by rfl) (hgx : Gl X C := by rfl) (hdx : (C == ("__debug__" : Str)) = false := by decide)
    (hs : starEach (e :: [.Name C p2]) X.env = (false, eval e X.env) :: starEach [.Name C p2] X.env := by rfl) (hs2 : starEach (.Name C p2 :: []) X.env = (false, eval (.Name C p2) X.env) :: starEach [] X.env := by rfl) (hpl : (backTo pos (starEach [.Name C p2] X.env)).any (·.1) = false := by rfl) :
    DE X W ds (.Call (.Name "isinstance" p) [e, .Name C p2] [] pos) cB w := by
  subst hw
  obtain ⟨h1, h⟩ := He.ba h
  obtain ⟨h2, h⟩ := He.ba h
  obtain ⟨h3, h⟩ := He.ba h
  obtain ⟨h4, h⟩ := He.ba h
  obtain ⟨h5, h6⟩ := He.ba h
  obtain ⟨t, pe, q⟩ := he
  refine ⟨_, pe_callB call_isi hg hm boot_isinstance (pa_cons pe (pa_cons (pe_glob (v := .ref (He.ga X.K C)) hgx gC rfl hdx) pa_nil hs2) hs) (by decide) (by decide) hs hpl, fun S0 H0 σ S H Q E P => q S0 H0 σ S H _ E (P.bind fun z v S1 H1 g rv P1 => ?_)⟩
  obtain ⟨x, dx, fs, rfl, e2, e3, e4⟩ := rv
  exact ⟨.ref x, .ref (He.ga X.K C), .ref (He.ga X.K D), .ref (He.ga X.K C), b, rfl, .own _, .base (.ins (g.inn _ _ e2) (He.cls_ok h1) (He.eqO_ok h2) (He.eqO_ok h3) (of_decide_eq_true h4) (of_decide_eq_true h5)), of_decide_eq_true h6, P1.ok g.inn rfl⟩
end
end Zk
set_option maxHeartbeats 4000000
/-! # Zk: try, its body storing names -/
namespace Zk
open PySem PySem.Spec PyProof.Rows L2 L2H
/-- what leaves does not ask for slot i -/
class KA (W : WK) (i : Nat) : Prop where
  st : ∀ σ x cl d H, W σ cl d H → W (σ.set i x) cl d H
/-- the same slots but for those of V -/
def Ag (V : List Nat) (σ σ' : L2.St) : Prop := σ'.length = σ.length ∧ ∀ j, j ∉ V → σ'[j]? = σ[j]?
theorem Ag.refl {V : List Nat} {σ : L2.St} : Ag V σ σ := ⟨rfl, fun _ _ => rfl⟩
theorem Ag.of {V : List Nat} {σ σ' : L2.St} {i : Nat} {x : Option L2.V} (hi : i ∈ V) (h : Ag V (σ.set i x) σ') : Ag V σ σ' := by
  refine ⟨h.1.trans (List.length_set ..), fun j hj => ?_⟩
  rw [h.2 j hj]
  by_cases e : i = j
  · exact absurd (e ▸ hi) hj
  · exact List.getElem?_set_ne e
/-- slots V forgotten -/
def forget : List Nat → Env → Env
  | [], ds => ds
  | i :: V, ds => forget V (ds.put i .none)
theorem forget_length : ∀ (V : List Nat) (ds : Env), (forget V ds).length = ds.length
  | [], _ => rfl
  | i :: V, ds => by
    unfold forget
    rw [forget_length V, Env.put_length]
theorem forget_get : ∀ (V : List Nat) (ds : Env) (j : Nat), (forget V ds).get j = .none ∨ (j ∉ V ∧ (forget V ds).get j = ds.get j)
  | [], _, _ => .inr ⟨by simp, rfl⟩
  | i :: V, ds, j => by
    unfold forget
    rcases forget_get V (ds.put i .none) j with h | ⟨h1, h2⟩
    · exact .inl h
    · by_cases e : j = i
      · subst e
        by_cases l : j < ds.length
        · rw [Env.get_put_same _ _ _ l] at h2
          exact .inl h2
        · rw [Env.put_out _ _ _ (Nat.le_of_not_lt l), Env.get_out _ _ (Nat.le_of_not_lt l)] at h2
          rw [Env.put_out _ _ _ (Nat.le_of_not_lt l)]
          exact .inl h2
      · rw [Env.get_put_ne _ _ _ _ e] at h2
        exact .inr ⟨fun q => by rcases List.mem_cons.mp q with q | q; exact e q; exact h1 q, h2⟩
section
variable {K : PySem.W.Frag} {S0 H0 S H : Hp} {ds : Env} {σ σ' : L2.St}
theorem EnvOk.ag {V : List Nat} (E : EnvOk K S0 H0 ds σ S H) (h : Ag V σ σ') : EnvOk K S0 H0 (forget V ds) σ' S H := by
  obtain ⟨fp, h1, h2⟩ := E.own
  have key : ∀ i, ∃ f, SlotOk K H0 S H ((forget V ds).get i) σ'[i]? f ∧ ∀ p ∈ f, p ∈ fp i := fun i => by
    rcases forget_get V ds i with q | ⟨q1, q2⟩
    · rw [q]; exact ⟨[], rfl, fun p hp => by simp at hp⟩
    · rw [q2, h.2 i q1]; exact ⟨fp i, h1 i, fun _ hp => hp⟩
  refine ⟨by rw [forget_length, E.len, h.1], ⟨fun i => (key i).choose, fun i => (key i).choose_spec.1, fun i j p hi hj => h2 i j p ((key i).choose_spec.2 p hi) ((key j).choose_spec.2 p hj)⟩, E.grow⟩
end
theorem EX.imp {K : PySem.W.Frag} {W W' : XK} {S0 H0 : Hp} {x : Exn} (h : ∀ cl d H, W cl d H → W' cl d H) (q : EX K W S0 H0 x) : EX K W' S0 H0 x := fun cl d S' H' g r => h cl d H' (q cl d S' H' g r)
section
variable {X : Cx} {W : WK} {T : Bool} {ds : Env} {α β γ τ ν κ ω σ' : Type} {e : Expr} {st : Stmt} {sts body suite rest : List Stmt} {b₀ : Stmt} {pos pos' np p : Pos} {c : Cd α} {cb : RCd β} {eN : ν → Env} {eK : κ → Env} {I : ω → Out β ν κ} {m : R α} {k : α → R ω} {n : R ω} {x nm : Str} {cv : Value}
/-- x = e where a raise is caught -/
theorem asgK {x : Str} {pos' : Pos} (i : Nat) [ka : KA W i] (sn : X.N.Nodup) (he : DE X W ds e c m) (hr : ∀ z, DS X W T (ds.put i (.st α c z)) rest cb eN eK I (k z)) (hi : X.N[i]? = some x := by rfl) (hx : Loc X.env.scope x := by first | exact Or.inl rfl | exact Or.inr rfl)
    (hs : swapsWith e (some (.Name x pos')) pos.line X.env = pure false := by rfl) (hf : X.fn x = true ∨ X.env.scope.names.lookup x = some .local := by first | exact .inl rfl | exact .inr rfl) : DS X W T ds (.Assign [.Name x pos'] e pos :: rest) cb eN eK I (m >>= k) := fun S0 H0 σ S H D nx h E P => by
  obtain ⟨te, pe, qe⟩ := he
  refine seq (ps_set (i := i) sn hi hx pe hs hf) (qe S0 H0 σ S H _ E (stE E P fun z v S' H' E' r P' => hr z S0 H0 _ S' H' D nx h (E'.putS r) ?_))
  exact R.post_mono P' (fun _ q => q) (fun y q => q.imp fun cl d H => ka.st σ (some v) cl d H)
/-- what is known of the handled exception -/
theorem hot_in {a : Addr} {oe : Obj} {cls : Value} {d : Option Addr} {pn : List (Addr × Obj)} (hz : L2N.Zn cls d oe) (hv : ∃ vs, oe.data = .fields vs) (h : HotX (X.suite a ((a, oe) :: pn)) (a, oe) → DS (X.suite a ((a, oe) :: pn)) W T ds sts cb eN eK I n) : DS (X.suite a ((a, oe) :: pn)) W T ds sts cb eN eK I n := h (hot_suite hz hv)
/-- V: the slots that the body stores -/
theorem tryAsV [kw : KW W] {eJ : σ' → Env} {mb : R (Out β σ' Empty)} {t : XTab} {f : Exn → R (Out β σ' Empty)} {kJ : Out β σ' Empty → R ω} (V : List Nat) (i : Nat) (sn : X.N.Nodup) (hc : Names X x cv) (ht : exmB X.K cv t = true) (tk : Lets X W) (no : NoOw ds)
    (hb : ∀ (pn : List (Addr × Obj)) (xe : Value → Shared → Prop) (W' : WK), (∀ i ∈ V, KA W' i) → Lets (X.tr pn xe) W' → PassesOwn (model X.prog X.w) X.A X.env xe → DS (X.tr pn xe) W' false ds body cb eJ eE (fun o => o) mb)
    (hsu : ∀ (y : Exn) (a : Addr) (oe : Obj) (cls : Value) (d : Option Addr) (pn : List (Addr × Obj)), L2N.Zn cls d oe → (∃ vs, oe.data = .fields vs) → DS (X.suite a ((a, oe) :: pn)) (fun _ => E0) false ((forget V ds).put i (.st Exn (cE (a, oe)) y)) (b₀ :: suite) cb eJ eE (fun o => o) (f y))
    (hr : ∀ s, DS X W T (eJ s) rest cb eN eK I (kJ (.nxt s))) (ho : ∀ b, ∃ w, kJ (.ret b) = .ok w ∧ I w = .ret b) (hJ : ∀ s, EnvLe ((eJ s).put i .none) (eJ s))
    (hcb : ∀ H0 H K S v b, Same H0 H → (cb H).rep K S v b → (cb H0).rep K S v b := by intro _ _ _ _ _ _ _ h; exact h)
    (hs : X.stack = X.env :: X.outer := by rfl) (hf : X.env.frame = some X.env.locals := by rfl) (hi : X.N[i]? = some nm := by rfl) (hln : X.env.kindOf nm = some .local := by rfl) :
    DS X W T ds (.Try body [.ExceptHandler (some (.Name x np)) (some nm) (b₀ :: suite) pos'] [] [] pos :: rest) cb eN eK I (tryR mb t f >>= kJ) := fun S0 H0 σ S H D nx h E P => by
  obtain ⟨W, rfl⟩ := kw.ex
  have E1 := E.here no
  refine seq (L2N.ps_try_as (Wout := fun cl d _ H => W cl d H) (tb := fun Wx D σ H => ∀ pn xe, L2N.Takes (X.tr pn xe) Wx → PassesOwn (model X.prog X.w) X.A X.env xe → tS (X.tr pn xe) body D σ H)
    (ts := fun a cls d D σ H => ∀ oe pn, L2N.Zn cls d oe → (∃ vs, oe.data = .fields vs) → tS (X.suite a ((a, oe) :: pn)) (b₀ :: suite) D σ H) hs hf sn hi hln hc tk
    (fun Wx pn xe tk' po => ⟨fun pins s σ H D I h => (pss_tS (X := X.tr pn xe)).run pins s σ H D I (h pn xe tk' po)⟩)
    (fun a oe cls d pn hz hv => ⟨fun pins s σ H D I h => (pss_tS (X := X.suite a ((a, oe) :: pn))).run pins s σ H D I (h oe pn hz hv)⟩)) ?_
  have back : ∀ (o : Out β σ' Empty), (kJ o).post (fun w => OutP X.K S0 H0 cb eN eK D (I w)) (EX X.K W S0 H0) →
      (∀ b, o = .ret b → ∀ v S' H', Grow S H S' H' → (cb H).rep X.K S' v b → D.rt v H') ∧ ∀ s, o = .nxt s → ∀ σ' S' H', EnvOk X.K S H (eJ s) σ' S' H' → tS X rest { D with nx := nx } σ' H' := fun o q => by
    refine ⟨fun b e v S' H' g r => ?_, fun s e σ' S' H' E' => ?_⟩
    · subst e
      obtain ⟨w, e1, e2⟩ := ho b
      rw [e1] at q
      have q1 : OutP X.K S0 H0 cb eN eK D (I w) := q
      rw [e2] at q1
      exact q1 v S' H' (E.grow.trans g) (hcb _ _ _ _ _ _ E.grow.ex r)
    · subst e
      exact hr s S0 H0 σ' S' H' D nx h (E'.under E.grow) q
  intro pn xe tk' po
  refine hb pn xe (fun σ cl d H => ∀ σ', Ag V σ σ' → wAs X.K cv i _ (fun cl d _ H => W cl d H) { D with nx := tS X rest { D with nx := nx } } cl d σ' H) (fun i hi => ⟨fun σ x cl d H q σ' a => q σ' (a.of hi)⟩) (tk'.imp fun cl d σ H q => q σ .refl) po S H σ S H { D with nx := tS X rest { D with nx := nx } } _ (.inr rfl) E1 ?_
  cases mb with
  | stuck => exact False.elim P
  | ok o =>
    obtain ⟨b1, b2⟩ := back o P
    cases o with
    | ret b => exact b1 b rfl
    | nxt s => exact b2 s rfl
    | brk s => exact nomatch s
    | ctn s => exact nomatch s
  | exn y =>
    intro cl d S' H' g r σ' ag
    have P1 : ((match t.lookup y.cls with
      | some true => R.nox (f y)
      | some false => .exn y
      | none => .stuck) >>= kJ).post (fun w => OutP X.K S0 H0 cb eN eK D (I w)) (EX X.K W S0 H0) := P
    have ecl : cl = .ref (He.ga X.K y.cls) := r.1
    cases hl : t.lookup y.cls with
    | none =>
      rw [hl] at P1
      exact False.elim P1
    | some z =>
      rw [hl] at P1
      have he := exmB_ok ht hl
      rw [← ecl] at he
      cases z with
      | false => exact ⟨false, he, (fun z => nomatch z), fun _ => P1 cl d S' H' (E.grow.trans g) r⟩
      | true =>
        refine ⟨true, he, fun _ a ha oe pn' hz hv => ?_, fun z => nomatch z⟩
        have P2 := nox_post (E' := EX X.K E0 S H) (R.post_bind.mp P1)
        refine hsu y a oe cl d pn' hz hv S H _ S' H' { nx := fun σ' H' => tS X rest { D with nx := nx } (σ'.set i none) H', rt := D.rt, bk := fun σ' H' => D.bk (σ'.set i none) H', ct := fun σ' H' => D.ct (σ'.set i none) H' } _ (.inr rfl) (((E1.step g).ag ag).putS (c := cE (a, oe)) (a := y) ⟨rfl, hz.1.trans r.1, by rw [hz.2.1]; exact r.2⟩) (R.post_mono P2 (fun o q => ?_) (fun _ q => q))
        obtain ⟨b1, b2⟩ := back o q
        cases o with
        | ret b => exact b1 b rfl
        | nxt s => exact fun σ2 S2 H2 E2 => b2 s rfl _ S2 H2 (E2.putN.le (hJ s))
        | brk s => exact nomatch s
        | ctn s => exact nomatch s
end
end Zk
set_option maxHeartbeats 4000000
/-! # Zk: values of one of several kinds -/
namespace Zk
open PySem PySem.Spec PyProof.Rows L2 L2H
section
variable {α β γ σ τ : Type}
def cU (c1 : Cd α) (c2 : Cd β) : Cd (α ⊕ β) := ⟨fun K H v s => match s with
  | .inl a => c1.rep K H v a
  | .inr b => c2.rep K H v b, fun {K H H' v s} e h => match s, h with
  | .inl _, h => c1.mono e h
  | .inr _, h => c2.mono e h⟩
variable {c : Cd γ} {c1 : Cd α} {c2 : Cd β} {cs : Cd σ}
theorem cInl {f : γ → α} (h : Coe c c1 f) : Coe c (cU c1 c2) fun z => .inl (f z) := fun K H v a r => h K H v a r
theorem cInr {f : γ → β} (h : Coe c c2 f) : Coe c (cU c1 c2) fun z => .inr (f z) := fun K H v a r => h K H v a r
theorem cUU {α' β' : Type} {d1 : Cd α'} {d2 : Cd β'} {f : α → α'} {g : β → β'} (h : Coe c1 d1 f) (k : Coe c2 d2 g) : Coe (cU c1 c2) (cU d1 d2) (Sum.map f g) := fun K H v a r => match a, r with
  | .inl _, r => h K H v _ r
  | .inr _, r => k K H v _ r
/-! ### read out of it -/
def PkE (cs : Cd σ) (c : Cd γ) (g : σ → R γ) : Prop := ∀ K H v s a, cs.rep K H v s → g s = .ok a → c.rep K H v a
def inL : α ⊕ β → R α
  | .inl a => .ok a
  | .inr _ => .stuck
def inR : α ⊕ β → R β
  | .inr a => .ok a
  | .inl _ => .stuck
theorem pkId : PkE c c fun z => .ok z := fun K H v s a r e => by
  cases e
  exact r
theorem pkL {g : α → R γ} (h : PkE c1 c g) : PkE (cU c1 c2) c fun s => inL s >>= g := fun K H v s a r e => by
  cases s with
  | inl z => exact h K H v z a r e
  | inr z => cases e
theorem pkR {g : β → R γ} (h : PkE c2 c g) : PkE (cU c1 c2) c fun s => inR s >>= g := fun K H v s a r e => by
  cases s with
  | inr z => exact h K H v z a r e
  | inl z => cases e
def PkA (cs : Cd σ) (ca : CA τ) (f : List σ → R τ) : Prop := ∀ K H vs l y, Reps cs K H vs l → f l = .ok y → ca.rep K H vs y
def unOne (g : σ → R γ) : List σ → R γ
  | [s] => g s
  | _ => .stuck
def unCons (g : σ → R γ) (f : List σ → R τ) : List σ → R (γ × τ)
  | s :: r => g s >>= fun a => f r >>= fun b => .ok (a, b)
  | [] => .stuck
theorem pkOne {g : σ → R γ} (h : PkE cs c g) : PkA cs (aOne c) (unOne g) := fun K H vs l y r e => by
  match l, vs, r with
  | [s], [v], r => exact ⟨v, rfl, h K H v s y r.1 e⟩
  | [], _, _ => cases e
  | _ :: _ :: _, _, _ => cases e
  | [_], [], r => exact r.elim
  | [_], _ :: _ :: _, r => exact r.2.elim
theorem pkCons {g : σ → R γ} {ca : CA τ} {f : List σ → R τ} (h : PkE cs c g) (k : PkA cs ca f) : PkA cs (aCons c ca) (unCons g f) := fun K H vs l y r e => by
  match l, vs, r with
  | s :: l, v :: vs, r =>
    have e1 : (g s >>= fun a => f l >>= fun b => R.ok (a, b)) = .ok y := e
    cases q : g s with
    | ok a =>
      rw [q] at e1
      have e2 : (f l >>= fun b => R.ok (a, b)) = .ok y := e1
      cases q2 : f l with
      | ok b =>
        rw [q2] at e2
        cases e2
        exact ⟨v, vs, rfl, h K H v s a r.1 q, k K H vs l b r.2 q2⟩
      | exn x => rw [q2] at e2; cases e2
      | stuck => rw [q2] at e2; cases e2
    | exn x => rw [q] at e1; cases e1
    | stuck => rw [q] at e1; cases e1
  | [], _, _ => cases e
  | _ :: _, [], r => exact r.elim
end
section
variable {X : Cx} {W : WK} {T : Bool} {ds : Env} {α β γ σ τ ν κ ω : Type} {e : Expr} {sts : List Stmt} {pos p : Pos} {c : Cd γ} {c1 : Cd α} {c2 : Cd β} {cs : Cd σ} {ca : CA τ} {cb : RCd β} {eN : ν → Env} {eK : κ → Env} {I : ω → Out β ν κ} {n : R ω}
/-- another reading, if it comes out -/
theorem down {m : R α} {f : α → R γ} (h : ∀ K H v a y, c1.rep K H v a → f a = .ok y → c.rep K H v y) (hx : ∀ a x, f a ≠ .exn x) (he : DE X W ds e c1 m) : DE X W ds e c (m >>= f) := by
  obtain ⟨t, pe, q⟩ := he
  refine ⟨t, pe, fun S0 H0 σ S H Q E P => q S0 H0 σ S H _ E (P.bind fun a v S1 H1 g r P1 => ?_)⟩
  cases z : f a with
  | ok y => rw [z] at P1; exact P1.ok g.inn (h _ _ _ _ _ r z)
  | exn x => exact (hx a x z).elim
  | stuck => rw [z] at P1; exact False.elim P1
def NoX (f : α → R γ) : Prop := ∀ a x, f a ≠ .exn x
theorem nxId : NoX fun (z : α) => R.ok z := fun a x e => by cases e
theorem nxL {g : α → R γ} (h : NoX g) : NoX fun (s : α ⊕ β) => inL s >>= g := fun a x e => by
  cases a with
  | inl z => exact h z x e
  | inr z => cases e
theorem nxR {g : β → R γ} (h : NoX g) : NoX fun (s : α ⊕ β) => inR s >>= g := fun a x e => by
  cases a with
  | inr z => exact h z x e
  | inl z => cases e
theorem nxOne {g : σ → R γ} (h : NoX g) : NoX (unOne g) := fun l x e => by
  match l with
  | [s] => exact h s x e
  | [] => cases e
  | _ :: _ :: _ => cases e
theorem nxCons {g : σ → R γ} {f : List σ → R τ} (h : NoX g) (k : NoX f) : NoX (unCons g f) := fun l x e => by
  match l with
  | [] => cases e
  | s :: r =>
    have e1 : (g s >>= fun a => f r >>= fun b => R.ok (a, b)) = .exn x := e
    cases q : g s with
    | ok a =>
      rw [q] at e1
      have e2 : (f r >>= fun b => R.ok (a, b)) = .exn x := e1
      cases q2 : f r with
      | ok b => rw [q2] at e2; cases e2
      | exn y => exact k r y q2
      | stuck => rw [q2] at e2; cases e2
    | exn y => exact h s y q
    | stuck => rw [q] at e1; cases e1
theorem downH {m : R (List σ)} {f : List σ → R τ} (h : PkA cs ca f) (hx : NoX f) (he : DE X W ds e (cL cs) m) : DE X W ds e (cH ca) (m >>= f) :=
  down (c1 := cL cs) (c := cH ca) (fun K H v a y ⟨q, vs, h1, h2, h3⟩ k => ⟨q, vs, h1, h2, h _ _ _ _ _ h3 k⟩) hx he
theorem downP {m : R (List σ)} {f : List σ → R τ} (h : PkA cs ca f) (hx : NoX f) (he : DE X W ds e (cT cs) m) : DE X W ds e (cP ca) (m >>= f) :=
  down (c1 := cT cs) (c := cP ca) (fun K H v a y ⟨q, vs, h1, h2, h3⟩ k => ⟨q, vs, h1, h2, h _ _ _ _ _ h3 k⟩) hx he
/-- the slot holds one of two kinds -/
theorem EnvOk.kind {K : PySem.W.Frag} {S0 H0 S H : Hp} {σ : L2.St} (E : EnvOk K S0 H0 ds σ S H) {i : Nat} {a : α} (d : SD) (h : ∃ v, σ[i]? = some (some v) ∧ c1.rep K S v a) : EnvOk K S0 H0 (ds.put i (.st α c1 a)) σ S H := by
  obtain ⟨v, h1, h2⟩ := h
  have eσ : σ.set i (some v) = σ := by
    apply List.ext_getElem?
    intro j
    by_cases z : j = i
    · subst z
      rw [get_set_self (List.getElem?_eq_some_iff.mp h1).1, h1]
    · rw [List.getElem?_set_ne (Ne.symm z)]
  have q := E.putS (i := i) h2
  rw [eσ] at q
  exact q
/-- by its kind -/
def onU {δ : Type} (s : α ⊕ β) (m1 : α → δ) (m2 : β → δ) : δ := match s with
  | .inl a => m1 a
  | .inr b => m2 b
theorem caseU {s : α ⊕ β} {m1 : α → R γ} {m2 : β → R γ} (i : Nat) (h1 : ∀ a, DE X W (ds.put i (.st α c1 a)) e c (m1 a)) (h2 : ∀ b, DE X W (ds.put i (.st β c2 b)) e c (m2 b)) (hd : ds.get i = .st (α ⊕ β) (cU c1 c2) s := by rfl) :
    DE X W ds e c (onU s m1 m2) := by
  cases s with
  | inl a =>
    obtain ⟨t, pe, q⟩ := h1 a
    exact ⟨t, pe, fun S0 H0 σ S H Q E P => q S0 H0 σ S H Q (E.kind (c1 := c1) .none (E.var (c := cU c1 c2) hd)) P⟩
  | inr b =>
    obtain ⟨t, pe, q⟩ := h2 b
    exact ⟨t, pe, fun S0 H0 σ S H Q E P => q S0 H0 σ S H Q (E.kind (c1 := c2) .none (E.var (c := cU c1 c2) hd)) P⟩
/-- tuple(e), e a list of so many values -/
theorem toTH {m : R τ} (hm : X.mg "tuple" = none) (he : DE X W ds e (cH ca) m) (hg : Gl X "tuple" := by rfl) (hs : starEach (e :: []) X.env = (false, eval e X.env) :: starEach [] X.env := by rfl) (hpl : (backTo pos (starEach [] X.env)).any (·.1) = false := by rfl) :
    DE X W ds (.Call (.Name "tuple" p) [e] [] pos) (cP ca) m := by
  obtain ⟨t, pa, q⟩ := he
  refine ⟨_, pe_callTy call_tuple_of hg hm (by decide +kernel) (pa_cons pa pa_nil hs) (by decide) (by decide) hs hpl, fun S0 H0 σ S H Q E P => q S0 H0 σ S H _ E (R.post_mono P (fun as k v S' H' g r => ?_) (fun _ k => k))⟩
  obtain ⟨l, vs, e1, h1, h2⟩ := r
  refine ⟨l, vs, by rw [e1], .inl ⟨Same.seq g.inn h1, fun l' hl => ?_⟩⟩
  have g2 : Grow S' H' (upd S' l' (.tup vs)) (upd H' l' (.tup vs)) := .lay g.inn hl
  exact k (.ref l') _ _ (g.trans g2) ⟨l', vs, rfl, .inl (.inl upd_same), ca.mono g2.st h2⟩
end
end Zk
set_option maxHeartbeats 4000000
/-! # Zk: x in xs; unpacking lists -/
namespace Zk
open PySem PySem.Spec PyProof.Rows L2 L2H
section
variable {X : Cx}
def rInT (K : PySem.W.Frag) : R2 := fun x y H Q => ∃ d ds, Dp K H x d ∧ Dp K H y (.tuple ds) ∧ SeqAt.shaped d = true ∧ SeqAt.shaped (.tuple ds) = true ∧ Q (.bl (ds.any fun z => PyData.eqv z d)) H
def rNotInT (K : PySem.W.Frag) : R2 := fun x y H Q => ∃ d ds, Dp K H x d ∧ Dp K H y (.tuple ds) ∧ SeqAt.shaped d = true ∧ SeqAt.shaped (.tuple ds) = true ∧ Q (.bl (!ds.any fun z => PyData.eqv z d)) H
theorem op_inT (hu : X.A.units + 65 < cLine) : OpR X (compareOp .In) (rInT X.K) := by
  intro pins s σ H x y v u Q I rx ry h
  obtain ⟨d, ds, hd, he, sd, se, q⟩ := h
  obtain ⟨as, r1⟩ := Dp.reads I d x v hd rx
  obtain ⟨bs, r2⟩ := Dp.reads I (.tuple ds) y u he ry
  exact SeqAt.in_tuple_reads r2 r1 (SeqAt.canLay_of_shaped se) (SeqAt.canLay_of_shaped sd) (room_in_shaped sd hu) ⟨.bl _, H, I, rfl, q⟩
theorem op_notInT (hu : X.A.units + 65 < cLine) : OpR X (compareOp .NotIn) (rNotInT X.K) := by
  intro pins s σ H x y v u Q I rx ry h
  obtain ⟨d, ds, hd, he, sd, se, q⟩ := h
  obtain ⟨as, r1⟩ := Dp.reads I d x v hd rx
  obtain ⟨bs, r2⟩ := Dp.reads I (.tuple ds) y u he ry
  exact SeqAt.notIn_tuple_reads r2 r1 (SeqAt.canLay_of_shaped se) (SeqAt.canLay_of_shaped sd) (room_in_shaped sd hu) ⟨.bl _, H, I, rfl, q⟩
theorem _root_.L2.Room.units1 {k : Nat} {A : Around} (r : Room k A) : A.units + 65 < cLine := by have := r.un; omega
theorem _root_.L2H.RoomH.units1 {k : Nat} {A : Around} (r : RoomH k A) : A.units + 65 < cLine := by have := r.un; omega
theorem unitsS1 {k : Nat} {a : Addr} {pn : List (Addr × Obj)} (r : Room k X.A) : (X.suite a pn).A.units + 65 < cLine := by have := r.un; show X.A.units + 65 < _; omega
end
theorem any_eqv {α : Type} {c : Cd α} [Dt c] [DecidableEq α] (x : α) (ys : List α) : ((ys.map (Dt.toD c)).any fun z => PyData.eqv z (Dt.toD c x)) = decide (x ∈ ys) := by
  induction ys with
  | nil => rfl
  | cons y ys ih =>
    rw [List.map_cons, List.any_cons, ih]
    by_cases e : y = x
    · rw [(Dt.eqv (c := c) y x).mpr e]
      simp [e]
    · have q : PyData.eqv (Dt.toD c y) (Dt.toD c x) = false := by
        cases z : PyData.eqv (Dt.toD c y) (Dt.toD c x) with
        | false => rfl
        | true => exact absurd ((Dt.eqv (c := c) y x).mp z) e
      rw [q]
      have e2 : ¬ x = y := fun z => e z.symm
      simp [e2]
section
variable {X : Cx} {W : WK} {ds : Env} {α β γ τ : Type} {a b : Expr} {pos : Pos} {c : Cd α} [Dt c] [DecidableEq α] {m1 : R α} {m2 : R (List α)}
theorem sem_inL {W : XK} {K : PySem.W.Frag} (h : Dt.depth c ≤ 63) : BinSem K W (rInD K) c (cL c) cB (fun x y => .ok (decide (x ∈ y))) := fun x y v u S H Q i r1 r2 P =>
  ⟨_, _, Dt.rep (c.mono i r1), Dt.rep ((cL c).mono i r2), Dt.shaped (by omega) _, Dt.shaped (c := cL c) (show Dt.depth c + 1 ≤ 64 by omega) y, by rw [any_eqv]; exact P.ok i rfl⟩
theorem sem_ninL {W : XK} {K : PySem.W.Frag} (h : Dt.depth c ≤ 63) : BinSem K W (rNotInD K) c (cL c) cB (fun x y => .ok (!decide (x ∈ y))) := fun x y v u S H Q i r1 r2 P =>
  ⟨_, _, Dt.rep (c.mono i r1), Dt.rep ((cL c).mono i r2), Dt.shaped (by omega) _, Dt.shaped (c := cL c) (show Dt.depth c + 1 ≤ 64 by omega) y, by rw [any_eqv]; exact P.ok i rfl⟩
theorem sem_inT {W : XK} {K : PySem.W.Frag} (h : Dt.depth c ≤ 63) : BinSem K W (rInT K) c (cT c) cB (fun x y => .ok (decide (x ∈ y))) := fun x y v u S H Q i r1 r2 P =>
  ⟨_, _, Dt.rep (c.mono i r1), Dt.rep ((cT c).mono i r2), Dt.shaped (by omega) _, Dt.shaped (c := cT c) (show Dt.depth c + 1 ≤ 64 by omega) y, by rw [any_eqv]; exact P.ok i rfl⟩
theorem sem_ninT {W : XK} {K : PySem.W.Frag} (h : Dt.depth c ≤ 63) : BinSem K W (rNotInT K) c (cT c) cB (fun x y => .ok (!decide (x ∈ y))) := fun x y v u S H Q i r1 r2 P =>
  ⟨_, _, Dt.rep (c.mono i r1), Dt.rep ((cT c).mono i r2), Dt.shaped (by omega) _, Dt.shaped (c := cT c) (show Dt.depth c + 1 ≤ 64 by omega) y, by rw [any_eqv]; exact P.ok i rfl⟩
theorem inL_ (hu : X.A.units + 65 < cLine) (ha : DE X W ds a c m1) (hb : DE X W ds b (cL c) m2) (hd : Dt.depth c ≤ 63 := by decide) (hm : behindInMarks .In b = false := by rfl) : DE X W ds (.Compare a [.In] [b] pos) cB (m1 >>= fun x => m2 >>= fun y => .ok (decide (x ∈ y))) := cmpV (op_inD hu) hm (sem_inL hd) ha hb
theorem ninL_ (hu : X.A.units + 65 < cLine) (ha : DE X W ds a c m1) (hb : DE X W ds b (cL c) m2) (hd : Dt.depth c ≤ 63 := by decide) (hm : behindInMarks .NotIn b = false := by rfl) : DE X W ds (.Compare a [.NotIn] [b] pos) cB (m1 >>= fun x => m2 >>= fun y => .ok (!decide (x ∈ y))) := cmpV (op_notInD hu) hm (sem_ninL hd) ha hb
theorem inT_ (hu : X.A.units + 65 < cLine) (ha : DE X W ds a c m1) (hb : DE X W ds b (cT c) m2) (hd : Dt.depth c ≤ 63 := by decide) (hm : behindInMarks .In b = false := by rfl) : DE X W ds (.Compare a [.In] [b] pos) cB (m1 >>= fun x => m2 >>= fun y => .ok (decide (x ∈ y))) := cmpV (op_inT hu) hm (sem_inT hd) ha hb
theorem ninT_ (hu : X.A.units + 65 < cLine) (ha : DE X W ds a c m1) (hb : DE X W ds b (cT c) m2) (hd : Dt.depth c ≤ 63 := by decide) (hm : behindInMarks .NotIn b = false := by rfl) : DE X W ds (.Compare a [.NotIn] [b] pos) cB (m1 >>= fun x => m2 >>= fun y => .ok (!decide (x ∈ y))) := cmpV (op_notInT hu) hm (sem_ninT hd) ha hb
theorem inLT_ (hu : X.A.units + 65 < cLine) (ha : DE X W ds a c m1) (hb : DE X W ds b (cL c) m2) (hd : Dt.depth c ≤ 63 := by decide) (hm : behindInMarks .In b = false := by rfl) : DT X W ds (.Compare a [.In] [b] pos) (m1 >>= fun x => m2 >>= fun y => .ok (decide (x ∈ y))) := cmpT (op_inD hu) hm (sem_inL hd) ha hb
theorem ninLT_ (hu : X.A.units + 65 < cLine) (ha : DE X W ds a c m1) (hb : DE X W ds b (cL c) m2) (hd : Dt.depth c ≤ 63 := by decide) (hm : behindInMarks .NotIn b = false := by rfl) : DT X W ds (.Compare a [.NotIn] [b] pos) (m1 >>= fun x => m2 >>= fun y => .ok (!decide (x ∈ y))) := cmpT (op_notInD hu) hm (sem_ninL hd) ha hb
theorem inTT_ (hu : X.A.units + 65 < cLine) (ha : DE X W ds a c m1) (hb : DE X W ds b (cT c) m2) (hd : Dt.depth c ≤ 63 := by decide) (hm : behindInMarks .In b = false := by rfl) : DT X W ds (.Compare a [.In] [b] pos) (m1 >>= fun x => m2 >>= fun y => .ok (decide (x ∈ y))) := cmpT (op_inT hu) hm (sem_inT hd) ha hb
theorem ninTT_ (hu : X.A.units + 65 < cLine) (ha : DE X W ds a c m1) (hb : DE X W ds b (cT c) m2) (hd : Dt.depth c ≤ 63 := by decide) (hm : behindInMarks .NotIn b = false := by rfl) : DT X W ds (.Compare a [.NotIn] [b] pos) (m1 >>= fun x => m2 >>= fun y => .ok (!decide (x ∈ y))) := cmpT (op_notInT hu) hm (sem_ninT hd) ha hb
end
/-! ### a list or a tuple of so many values -/
def cQ {τ : Type} (r : CA τ) : Cd τ := ⟨fun K H v a => (cH r).rep K H v a ∨ (cP r).rep K H v a, fun e h => h.imp ((cH r).mono e) ((cP r).mono e)⟩
section
variable {X : Cx} {W : WK} {ds : Env} {α β γ σ τ : Type} {e : Expr} {pos : Pos} {cs : Cd σ} {ca : CA τ}
theorem cPQ {τ' : Type} {ra : CA τ'} {f : τ' → τ} (h : Coe (cP ra) (cP ca) f) : Coe (cP ra) (cQ ca) f := fun K H v a r => .inr (h K H v a r)
theorem cHQ {τ' : Type} {ra : CA τ'} {f : τ' → τ} (h : Coe (cH ra) (cH ca) f) : Coe (cH ra) (cQ ca) f := fun K H v a r => .inl (h K H v a r)
theorem downLQ {m : R (List σ)} {f : List σ → R τ} (h : PkA cs ca f) (hx : NoX f) (he : DE X W ds e (cL cs) m) : DE X W ds e (cQ ca) (m >>= f) :=
  down (c1 := cL cs) (c := cQ ca) (fun K H v a y ⟨q, vs, h1, h2, h3⟩ k => .inl ⟨q, vs, h1, h2, h _ _ _ _ _ h3 k⟩) hx he
theorem downTQ {m : R (List σ)} {f : List σ → R τ} (h : PkA cs ca f) (hx : NoX f) (he : DE X W ds e (cT cs) m) : DE X W ds e (cQ ca) (m >>= f) :=
  down (c1 := cT cs) (c := cQ ca) (fun K H v a y ⟨q, vs, h1, h2, h3⟩ k => .inr ⟨q, vs, h1, h2, h _ _ _ _ _ h3 k⟩) hx he
theorem downLTQ {m : R (List σ)} {f : List σ → R τ} (h : PkA cs ca f) (hx : NoX f) (he : DE X W ds e (cLT cs) m) : DE X W ds e (cQ ca) (m >>= f) :=
  down (c1 := cLT cs) (c := cQ ca) (fun K H v a y r k => match r with
    | .inl ⟨q, vs, h1, h2, h3⟩ => .inl ⟨q, vs, h1, h2, h _ _ _ _ _ h3 k⟩
    | .inr ⟨q, vs, h1, h2, h3⟩ => .inr ⟨q, vs, h1, h2, h _ _ _ _ _ h3 k⟩) hx he
theorem pg_or {tg : Expr} {g1 g2 : TG} (h1 : PG X tg g1) (h2 : PG X tg g2) : PG X tg (fun v σ H Q => g1 v σ H Q ∨ g2 v σ H Q) :=
  ⟨fun pins s σ H v u Q I r h => h.elim (fun h => h1.run pins s σ H v u Q I r h) (fun h => h2.run pins s σ H v u Q I r h)⟩
end
section
variable {ι : Type} {Y : ι → Cx} {K : PySem.W.Frag} {α β τ : Type} {c : Cd α} {r : CA τ} {vs ws : List Nat} {pos : Pos} {tg : Expr} {tgs : List Expr}
theorem tgQ {k n : Nat} {f : Env → τ → Env} (hc : ∀ b, (Y b).calm = true) (h : TgsF Y K tgs vs r f) (hK : ∀ b, (Y b).K = K := by intro _; rfl) (hl : r.n = n := by rfl) (hn : ∀ b, (assignEach tgs (Y b).env).length = n := by intro _; rfl) (hst : ∀ b, (assignEach tgs (Y b).env).findIdx? (·.1) = none := by intro _; rfl) :
    TgF Y K (.Tuple tgs k pos) vs (cQ r) f := by
  obtain ⟨t, pg, q⟩ := h
  refine ⟨fun v σ H Q => gUnl K n t v σ H Q ∨ gTup K n t v σ H Q, fun b => by rw [← hK b]; exact pg_or (pg_unl (hc b) (pg b) (hn b) (hst b)) (pg_tup (hc b) (pg b) (hn b) (hst b)), fun ds a v S0 H0 σ S H Q E rv kk => ?_⟩
  rcases rv with ⟨p, us, rfl, h1, h2⟩ | ⟨p, us, rfl, h1, h2⟩
  · exact .inl ⟨p, us, rfl, Same.seq E.inn h1, by rw [r.len h2, hl], q ds a us S0 H0 σ S H Q E h2 kk⟩
  · exact .inr ⟨p, us, rfl, Same.tup E.inn h1, by rw [r.len h2, hl], q ds a us S0 H0 σ S H Q E h2 kk⟩
end
/-! ### a range as a list, as a tuple -/
def lrgM (lo hi : Int) : R (List Int) := R.guard (-(2 ^ 62) ≤ lo ∧ lo < 2 ^ 62 ∧ -(2 ^ 62) ≤ hi ∧ hi < 2 ^ 62 ∧ (hi - lo).toNat ≤ 2 ^ 24) (rangeL lo (hi - lo).toNat)
theorem reps_rg {K : PySem.W.Frag} {H : Hp} : ∀ (n : Nat) (a : Int), Reps cI K H ((List.range n).map fun i => V.int (a + (i : Nat))) (rangeL a n)
  | 0, _ => trivial
  | n + 1, a => by
    rw [List.range_succ_eq_map, List.map_cons, List.map_map]
    refine ⟨?_, ?_⟩
    · show V.int _ = V.int _
      congr 1
      omega
    · have e : ((fun i : Nat => V.int (a + (i : Nat))) ∘ Nat.succ) = fun i : Nat => V.int (a + 1 + (i : Nat)) := by
        funext i
        show V.int _ = V.int _
        congr 1
        omega
      rw [e]
      exact reps_rg n (a + 1)
section
variable {X : Cx} {W : WK} {ds : Env} {a b : Expr} {m m2 : R Int} {p p1 p2 pos : Pos}
theorem toLR1 (hm : X.mg "list" = none) (hm2 : X.mg "range" = none) (ha : DE X W ds a cI m) (hc : X.calm = true := by rfl) (hg : Gl X "list" := by rfl) (hg2 : Gl X "range" := by rfl) (hs : starEach [.Call (.Name "range" p1) [a] [] p2] X.env = (false, eval (.Call (.Name "range" p1) [a] [] p2) X.env) :: starEach [] X.env := by rfl) (hs2 : starEach [a] X.env = (false, eval a X.env) :: starEach [] X.env := by rfl) :
    DL X W ds (.Call (.Name "list" p) [.Call (.Name "range" p1) [a] [] p2] [] pos) cI (m >>= fun n => lrgM 0 n) := by
  obtain ⟨t, pa, q⟩ := ha
  refine ⟨_, pe_listRg hc hg hm (prg_1 hg2 hm2 pa hs2) hs, fun S0 H0 σ S H Q E P => q S0 H0 σ S H _ E (R.post_mono (R.post_bind.mp P) (fun n k v S' H' g r => ?_) (fun _ k => k))⟩
  obtain rfl : v = V.int n := r
  obtain ⟨h1, h2⟩ := R.guard_post k
  refine ⟨n, rfl, h1, fun l hl => ?_⟩
  have g2 : Grow S' H' S' (upd H' l (.lst (rgV 0 n))) := .lay' g.inn hl
  exact h2 l _ S' _ (g.trans g2) (g.ex.free hl) (g.inn.free hl) upd_same (reps_rg _ _)
theorem toLR2 (hm : X.mg "list" = none) (hm2 : X.mg "range" = none) (ha : DE X W ds a cI m) (hb : DE X W ds b cI m2) (hc : X.calm = true := by rfl) (hg : Gl X "list" := by rfl) (hg2 : Gl X "range" := by rfl) (hs : starEach [.Call (.Name "range" p1) [a, b] [] p2] X.env = (false, eval (.Call (.Name "range" p1) [a, b] [] p2) X.env) :: starEach [] X.env := by rfl) (hs2 : starEach [a, b] X.env = (false, eval a X.env) :: starEach [b] X.env := by rfl)
    (hs3 : starEach [b] X.env = (false, eval b X.env) :: starEach [] X.env := by rfl) (hpl : (backTo p2 (starEach [b] X.env)).any (·.1) = false := by rfl) :
    DL X W ds (.Call (.Name "list" p) [.Call (.Name "range" p1) [a, b] [] p2] [] pos) cI (m >>= fun x => m2 >>= fun y => lrgM x y) := by
  obtain ⟨t, pa, q⟩ := ha
  obtain ⟨u, pb, q2⟩ := hb
  refine ⟨_, pe_listRg hc hg hm (prg_2 hg2 hm2 pa pb hs2 hs3 hpl) hs, fun S0 H0 σ S H Q E P => q S0 H0 σ S H _ E (R.post_mono (R.post_bind.mp P) (fun x k v S1 H1 g1 r => ?_) (fun _ k => k))⟩
  refine q2 S0 H0 σ S1 H1 _ (E.step g1) (R.post_mono (R.post_bind.mp k) (fun y k2 w S' H' g r2 => ?_) (fun _ k cl d S' H' g r => k cl d S' H' (g1.trans g) r))
  obtain rfl : v = V.int x := r
  obtain rfl : w = V.int y := r2
  obtain ⟨h1, h2⟩ := R.guard_post k2
  refine ⟨x, y, rfl, rfl, h1, fun l hl => ?_⟩
  have g2 : Grow S' H' S' (upd H' l (.lst (rgV x y))) := .lay' g.inn hl
  exact h2 l _ S' _ (g1.trans (g.trans g2)) (g1.ex.free (g.ex.free hl)) (g.inn.free hl) upd_same (reps_rg _ _)
theorem toTR1 (hm : X.mg "tuple" = none) (hm2 : X.mg "range" = none) (ha : DE X W ds a cI m) (hc : X.calm = true := by rfl) (hg : Gl X "tuple" := by rfl) (hg2 : Gl X "range" := by rfl) (hs : starEach [.Call (.Name "range" p1) [a] [] p2] X.env = (false, eval (.Call (.Name "range" p1) [a] [] p2) X.env) :: starEach [] X.env := by rfl) (hs2 : starEach [a] X.env = (false, eval a X.env) :: starEach [] X.env := by rfl) :
    DE X W ds (.Call (.Name "tuple" p) [.Call (.Name "range" p1) [a] [] p2] [] pos) (cT cI) (m >>= fun n => lrgM 0 n) := by
  obtain ⟨t, pa, q⟩ := ha
  refine ⟨_, pe_tupRg hc hg hm (prg_1 hg2 hm2 pa hs2) hs, fun S0 H0 σ S H Q E P => q S0 H0 σ S H _ E (P.bind fun n v S' H' g r P1 => ?_)⟩
  obtain rfl : v = V.int n := r
  obtain ⟨h1, h2⟩ := R.guard_post (show (R.guard _ (rangeL 0 (n - 0).toNat)).post _ _ from P1)
  refine ⟨n, rfl, h1, fun l hl => ?_⟩
  have g2 : Grow S' H' (upd S' l (.tup (rgV 0 n))) (upd H' l (.tup (rgV 0 n))) := .lay g.inn hl
  exact h2 (.ref l) _ _ g2 ⟨l, _, rfl, .inl (.inl upd_same), reps_rg _ _⟩
end
/-! ### classes without keywords -/
theorem dk0 {X : Cx} {W : WK} {ds : Env} : DK X W ds [] aNil (.ok ()) := ⟨_, pk_nil, fun S0 H0 σ S H Q E P => P.ok E.inn rfl⟩
section
variable {X : Cx} {W : WK} {ds : Env} {α : Type} {a : Expr} {pos : Pos} {c : Cd α}
theorem notN_m {j : Nat} {p2 : Pos} {m : R (Option α)} (ha : DE X W ds a (cO c) m) : DE X W ds (.Compare a [.IsNot] [.Constant .none j p2] pos) cB (m >>= fun o => .ok o.isSome) := by
  obtain ⟨t, p, q⟩ := ha
  refine ⟨_, pe_cmp (pc_notN p), fun S0 H0 σ S H Q E P => q S0 H0 σ S H _ E (R.post_mono (R.post_bind.mp P) (fun o k v S' H' g r => ?_) (fun _ k => k))⟩
  have e : (!decide (v = V.non)) = o.isSome := by
    cases o with
    | none => rw [decide_eq_true (show v = V.non from r)] <;> rfl
    | some z => rw [decide_eq_false r.1] <;> rfl
  have k2 := k (V.bl o.isSome) S' H' g rfl
  rw [← e] at k2
  exact k2
theorem notNT_m {j : Nat} {p2 : Pos} {m : R (Option α)} (ha : DE X W ds a (cO c) m) : DT X W ds (.Compare a [.IsNot] [.Constant .none j p2] pos) (m >>= fun o => .ok o.isSome) := by
  obtain ⟨t, p, q⟩ := ha
  refine valC ⟨_, pc_notN p, fun S0 H0 σ S H Q E P => q S0 H0 σ S H _ E (R.post_mono (R.post_bind.mp P) (fun o k v S' H' g r => ?_) (fun _ k => k))⟩ (nomark _)
  have e : (!decide (v = V.non)) = o.isSome := by
    cases o with
    | none => rw [decide_eq_true (show v = V.non from r)] <;> rfl
    | some z => rw [decide_eq_false r.1] <;> rfl
  have k2 := k (V.bl o.isSome) S' H' g rfl
  rw [← e] at k2
  exact k2
end
end Zk
set_option maxHeartbeats 4000000
/-! # Zk: lists and tuples walked where an exception is handled -/
namespace Zk
open PySem PySem.Spec PyProof.Rows L2 L2H
section
variable {prog : Program} {w : World} {A : Around} {E : Value → Shared → Prop} {s : Shared}
theorem pyNext_tuple_end_hot {it t x1 : Addr} {i : Nat} {items : Array Value} {Q : Option Value → Shared → Prop} (hot : _root_.HotX.HotAt A x1 s.heap) (hit : s.heap.IsTupleIter it t i) (ht : s.heap.IsTuple t items) (hx : items[i]? = none)
    (hQ : ∀ h', (∀ b o, b ≠ it → s.heap.get? b = some o → h'.get? b = some o) → Q none { s with heap := h' }) : wpAny (model prog w) A (pyNext (.ref it)) Q E s := by
  obtain ⟨hh, o1, vs1, h1, d1, c1⟩ := hot
  obtain ⟨o, ho, hc, hd⟩ := id hit
  have nx : x1 ≠ it := fun e => by
    subst e
    rw [h1] at ho
    cases ho
    rw [d1] at hd
    cases hd
    simp at c1
  obtain ⟨ol, hol, _, nl, hdl⟩ := ht
  unfold pyNext
  refine wpAny_bind (wpAny_attempt (wpAny_callSpecial?_slot (name := Str.ofString "__next__") hit.typeIs F.slot_tuple_iterator_next
    (wpAny_call_entry F.slot_tuple_iterator_next hit.typeIs F.entry_tuple_iterator_next ?_ (F.args_tuple_iterator_next_1 _))))
  show wpAny _ _ (field (.ref it) 0 >>= _) _ _ s
  refine wpAny_bind (wpAny_field ho hd (x := .ref t) rfl ?_)
  show wpAny _ _ (if (Value.ref t == Value.none) = true then _ else _) _ _ s
  rw [if_neg (show ¬ ((Value.ref t == Value.none) = true) from Bool.false_ne_true)]
  show wpAny _ _ (field (.ref it) 1 >>= _) _ _ s
  refine wpAny_bind (wpAny_field ho hd (x := .int i 0) rfl ?_)
  show wpAny _ _ (seqItems? (.ref t) >>= _) _ _ s
  refine wpAny_bind (wpAny_seqItems hol hdl ?_)
  simp only [Int.toNat_natCast, hx]
  refine wpAny_bind (wpAny_rule (wpAny_bind (wpAny_setField ho hd (by simp) ?_)))
  show wpAny _ _ (newExc (.type "StopIteration") [] >>= _) _ _ _
  refine wpAny_bind ?_
  simp only [newExc, newTuple]
  refine wpAny_bind (wpAny_newObj_type ?_ (by size_fits))
  refine wpAny_bind (m := firstArgMember _ _) (wpAny_of_eq (a := Value.none) (by first | rfl | (simp only [firstArgMember]; rfl)) ?_)
  refine wpAny_newObj_type ?_ (by size_fits)
  have k1 := (Heap.get?_update_other s.heap (Obj.mapFields (·.setIfInBounds 0 .none)) (Ne.symm nx)).trans h1
  refine _root_.HotX.raiseNew_hot ⟨hh, o1, vs1, Heap.get?_push_of_some _ (Heap.get?_push_of_some _ k1), d1, c1⟩ (Nat.ne_of_lt (Heap.lt_size (Heap.get?_push_of_some _ k1))) (Heap.get?_push_size _ rfl) rfl (by first | (simp; done) | (simp; omega) | (simp only [Array.size_append]; simp; omega)) ?_
  refine wpAny_bind (wpAny_isInstance (T := "StopIteration") (b := true) ⟨_, Heap.get?_update_self _ (Heap.get?_push_size _ rfl) rfl, rfl⟩ isSubtype_stop ?_)
  refine wpAny_pure (hQ _ fun b o hb e => ?_)
  have k2 := (Heap.get?_update_other s.heap (Obj.mapFields (·.setIfInBounds 0 .none)) (Ne.symm hb)).trans e
  rw [Heap.get?_update_other _ _ (Nat.ne_of_gt (Heap.lt_size (Heap.get?_push_of_some _ k2)))]
  exact Heap.get?_push_of_some _ (Heap.get?_push_of_some _ k2)
theorem pyNext_list_end_hot {it t x1 : Addr} {i : Nat} {items : Array Value} {Q : Option Value → Shared → Prop} (hot : _root_.HotX.HotAt A x1 s.heap) (hit : s.heap.IsListIter it t i) (ht : s.heap.IsList t items) (hx : items[i]? = none)
    (hQ : ∀ h', (∀ b o, b ≠ it → s.heap.get? b = some o → h'.get? b = some o) → Q none { s with heap := h' }) : wpAny (model prog w) A (pyNext (.ref it)) Q E s := by
  obtain ⟨hh, o1, vs1, h1, d1, c1⟩ := hot
  obtain ⟨o, ho, hc, hd⟩ := id hit
  have nx : x1 ≠ it := fun e => by
    subst e
    rw [h1] at ho
    cases ho
    rw [d1] at hd
    cases hd
    simp at c1
  obtain ⟨ol, hol, _, nl, hdl⟩ := ht
  unfold pyNext
  refine wpAny_bind (wpAny_attempt (wpAny_callSpecial?_slot (name := Str.ofString "__next__") hit.typeIs slot_listiter_next
    (wpAny_call_entry slot_listiter_next hit.typeIs entry_listiter_next ?_ (args_listiter_next _))))
  show wpAny _ _ (field (.ref it) 0 >>= _) _ _ s
  refine wpAny_bind (wpAny_field ho hd (x := .ref t) rfl ?_)
  show wpAny _ _ (if (Value.ref t == Value.none) = true then _ else _) _ _ s
  rw [if_neg (show ¬ ((Value.ref t == Value.none) = true) from Bool.false_ne_true)]
  show wpAny _ _ (field (.ref it) 1 >>= _) _ _ s
  refine wpAny_bind (wpAny_field ho hd (x := .int i 0) rfl ?_)
  show wpAny _ _ (seqItems? (.ref t) >>= _) _ _ s
  refine wpAny_bind (wpAny_seqItems hol hdl ?_)
  simp only [Int.toNat_natCast, hx]
  refine wpAny_bind (wpAny_rule (wpAny_bind (wpAny_setField ho hd (by simp) ?_)))
  show wpAny _ _ (newExc (.type "StopIteration") [] >>= _) _ _ _
  refine wpAny_bind ?_
  simp only [newExc, newTuple]
  refine wpAny_bind (wpAny_newObj_type ?_ (by size_fits))
  refine wpAny_bind (m := firstArgMember _ _) (wpAny_of_eq (a := Value.none) (by first | rfl | (simp only [firstArgMember]; rfl)) ?_)
  refine wpAny_newObj_type ?_ (by size_fits)
  have k1 := (Heap.get?_update_other s.heap (Obj.mapFields (·.setIfInBounds 0 .none)) (Ne.symm nx)).trans h1
  refine _root_.HotX.raiseNew_hot ⟨hh, o1, vs1, Heap.get?_push_of_some _ (Heap.get?_push_of_some _ k1), d1, c1⟩ (Nat.ne_of_lt (Heap.lt_size (Heap.get?_push_of_some _ k1))) (Heap.get?_push_size _ rfl) rfl (by first | (simp; done) | (simp; omega) | (simp only [Array.size_append]; simp; omega)) ?_
  refine wpAny_bind (wpAny_isInstance (T := "StopIteration") (b := true) ⟨_, Heap.get?_update_self _ (Heap.get?_push_size _ rfl) rfl, rfl⟩ isSubtype_stop ?_)
  refine wpAny_pure (hQ _ fun b o hb e => ?_)
  have k2 := (Heap.get?_update_other s.heap (Obj.mapFields (·.setIfInBounds 0 .none)) (Ne.symm hb)).trans e
  rw [Heap.get?_update_other _ _ (Nat.ne_of_gt (Heap.lt_size (Heap.get?_push_of_some _ k2)))]
  exact Heap.get?_push_of_some _ (Heap.get?_push_of_some _ k2)
end
theorem turn_tupleH {P : Program} {w : World} {K : PySem.W.Frag} {tg : Expr} (a it : Addr) : TurnH P w K tg (Itt K a) [it] it (fun i h => h.IsTupleIter it a i) where
  mem := by simp
  obj := fun i h st b hb => by
    have e : b = it := by simpa using hb
    subst e
    obtain ⟨o, e, c, d⟩ := st
    exact ⟨o, e, fun v z => by rw [d] at z; cases z⟩
  keep := fun i h h' st k => st.at fun o e => k it (by simp) o e
  item := by
    intro X hP hw hK hc i pins s σ H E I hf st hg
    subst hP hw hK
    obtain ⟨xs, x, hq, hx⟩ := hg
    obtain ⟨its, rv, p, hz⟩ := I.tuple hq
    obtain ⟨u, hu, ru⟩ := rv.get hx
    obtain ⟨f0, f1, f2, f3, f4, f5⟩ := hf it (by simp)
    refine wpAny_pyNext_tuple_item st (show s.heap.IsTuple a its.toArray from p) (x := u) (by simpa using hu) fun h' st' sb => ?_
    have I1 : L2.Inv X pins σ H { s with heap := h' } := I.turned (t' := s.toks) (fun b o hb e => (sb.2 b hb).trans e) f0 f1 f3 f4 f5
    obtain ⟨o, e, c, d⟩ := id st'
    exact ⟨u, rfl, go_of (s := { s with heap := h' }) e c d (by decide) ⟨x, H, I1, ru, ⟨rfl, fun ys hy => by rw [I.tuple_inj hy hq]; exact hx⟩, st', fun b hb => (hf b hb).1⟩⟩
  done := by
    intro X hP hw hK hc i pins s σ H E I hf st hg
    subst hP hw hK
    obtain ⟨xs, hq, hx⟩ := hg
    obtain ⟨its, rv, p, hz⟩ := I.tuple hq
    obtain ⟨f0, f1, f2, f3, f4, f5⟩ := hf it (by simp)
    have hl := rv.length
    obtain ⟨x1, hot⟩ := hc.at I
    exact pyNext_tuple_end_hot hot st (show s.heap.IsTuple a its.toArray from p) (by simp; omega) fun h' eb => ⟨rfl, I.turned (t' := s.toks) (fun b o hb e => eb b o hb e) f0 f1 f3 f4 f5⟩
  self := fun _ _ _ _ _ st h => wpAny_pyIter_tupleiter st h
theorem turn_listH {P : Program} {w : World} {K : PySem.W.Frag} {tg : Expr} (a it : Addr) : TurnH P w K tg (Itl K a) [it] it (fun i h => h.IsListIter it a i) where
  mem := by simp
  obj := fun i h st b hb => by
    have e : b = it := by simpa using hb
    subst e
    obtain ⟨o, e, c, d⟩ := st
    exact ⟨o, e, fun v z => by rw [d] at z; cases z⟩
  keep := fun i h h' st k => st.at fun o e => k it (by simp) o e
  item := by
    intro X hP hw hK hc i pins s σ H E I hf st hg
    subst hP hw hK
    obtain ⟨xs, x, hq, hx⟩ := hg
    obtain ⟨its, rv, p, hz⟩ := I.list hq
    obtain ⟨u, hu, ru⟩ := rv.get hx
    obtain ⟨f0, f1, f2, f3, f4, f5⟩ := hf it (by simp)
    refine wpAny_pyNext_list_item st p.isList (x := u) (by simpa using hu) fun h' st' sb => ?_
    have I1 : L2.Inv X pins σ H { s with heap := h' } := I.turned (t' := s.toks) (fun b o hb e => (sb.2 b hb).trans e) f0 f1 f3 f4 f5
    obtain ⟨o, e, c, d⟩ := id st'
    exact ⟨u, rfl, go_of (s := { s with heap := h' }) e c d (by decide) ⟨x, H, I1, ru, ⟨rfl, fun ys hy => by rw [I.list_inj hy hq]; exact hx⟩, st', fun b hb => (hf b hb).1⟩⟩
  done := by
    intro X hP hw hK hc i pins s σ H E I hf st hg
    subst hP hw hK
    obtain ⟨xs, hq, hx⟩ := hg
    obtain ⟨its, rv, p, hz⟩ := I.list hq
    obtain ⟨f0, f1, f2, f3, f4, f5⟩ := hf it (by simp)
    have hl := rv.length
    obtain ⟨x1, hot⟩ := hc.at I
    exact pyNext_list_end_hot hot st p.isList (by simp; omega) fun h' eb => ⟨rfl, I.turned (t' := s.toks) (fun b o hb e => eb b o hb e) f0 f1 f3 f4 f5⟩
  self := fun _ _ _ _ _ st h => wpAny_pyIter_listiter st h
section
variable {X : Cx} {tg : Expr}
theorem pi_listH {l : Expr} {tl : TE} (hl : PE X l tl) : PIH X tg l (iList X.K tl) := by
  refine ⟨fun pins s σ H R I h => ?_⟩
  refine thn (hl.run pins s σ H _ I h) fun v s1 ⟨x, H1, I1, r1, q1⟩ => ?_
  obtain ⟨a, e, ⟨xs, hq⟩, q⟩ := q1
  subst e
  cases r1
  obtain ⟨its, rv, p, hz⟩ := I1.list hq
  refine wpAny_pyIter_list p.isList ?_
  refine ⟨s1.heap.objs.size, [s1.heap.objs.size], _, _, H1, rfl, I1.kept (t' := s1.toks) fun b o e => Heap.get?_push_of_some _ e, turn_listH a _, ⟨_, Heap.get?_push_size _ rfl, rfl, rfl⟩, fun b hb => ?_, q⟩
  have e : b = s1.heap.objs.size := by simpa using hb
  subst e
  exact I1.fpOk (Nat.le_refl _) (I1.hok.fresh (Nat.le_refl _))
theorem pi_tupH {l : Expr} {tl : TE} (hl : PE X l tl) : PIH X tg l (iTup X.K tl) := by
  refine ⟨fun pins s σ H R I h => ?_⟩
  refine thn (hl.run pins s σ H _ I h) fun v s1 ⟨x, H1, I1, r1, q1⟩ => ?_
  obtain ⟨a, e, ⟨xs, hq⟩, q⟩ := q1
  subst e
  cases r1
  obtain ⟨its, rv, p, hz⟩ := I1.tuple hq
  refine wpAny_pyIter_tuple (show s1.heap.IsTuple a its.toArray from p) ?_
  refine ⟨s1.heap.objs.size, [s1.heap.objs.size], _, _, H1, rfl, I1.kept (t' := s1.toks) fun b o e => Heap.get?_push_of_some _ e, turn_tupleH a _, ⟨_, Heap.get?_push_size _ rfl, rfl, rfl⟩, fun b hb => ?_, q⟩
  have e : b = s1.heap.objs.size := by simpa using hb
  subst e
  exact I1.fpOk (Nat.le_refl _) (I1.hok.fresh (Nat.le_refl _))
end
/-! ### the block, its exception known -/
abbrev hotY (Y : Cx) (q : Addr × Obj) : Cx := Y.tr (Y.pn ++ [q]) Y.xe
abbrev hotB (X : Cx) (scope : Scope) (q : Addr × Obj) (b : Blk) : Cx := hotY (blkX X scope b) q
theorem inv_hot {Y : Cx} {q0 : Addr × Obj} {pins : List (Addr × Obj)} {σ : L2.St} {H : Hp} {s : Shared} (I : L2.Inv Y ([q0] ++ pins) σ H s) : L2.Inv (hotY Y q0) pins σ H s :=
  ⟨I.ok.toTry _ _, I.os, I.bare, I.base, I.loc, I.cell, I.free, I.freeC, fun p hp => I.pin p (by
    have hp : p ∈ (Y.pn ++ [q0]) ++ pins := hp
    rw [List.append_assoc] at hp
    exact hp), I.hok, I.len⟩
theorem inv_cold {Y : Cx} {q0 : Addr × Obj} {pins : List (Addr × Obj)} {σ : L2.St} {H : Hp} {s : Shared} (ok : Y.Ok) (I : L2.Inv (hotY Y q0) pins σ H s) : L2.Inv Y ([q0] ++ pins) σ H s :=
  ⟨ok, I.os, I.bare, I.base, I.loc, I.cell, I.free, I.freeC, fun p hp => I.pin p (by
    rw [← List.append_assoc] at hp
    exact hp), I.hok, I.len⟩
theorem hxB {X : Cx} {scope : Scope} {q : Addr × Obj} (h : HotX X q) (b : Blk) : HotX (hotB X scope q b) q := ⟨h.hot, List.mem_append_right _ (List.mem_singleton.mpr rfl), h.held⟩
def tAnyH (q0 : Addr × Obj) (X : Cx) (scope : Scope) (e : Expr) : TE := fun σ H Q => ∀ b : Blk, wE (hotB X scope q0 b) e σ H Q
def DLcH (q0 : Addr × Obj) (Pi : TI → Prop) (X : Cx) (W : WK) (ds : Env) (elt tg : Expr) (ifs : List Expr) (scope : Scope) {β : Type} (c : Cd β) (m : R (List β)) : Prop :=
  ∃ (wi : TI) (g : TG) (tt : TT) (te : TE) (own : List (Str × Nat)), Pi wi ∧ BlkOk X.N X.env.scope scope own ∧ (∀ b : Blk, PG (blkX X scope b) tg g) ∧ (∀ b : Blk, PTs (blkX X scope b) ifs tt) ∧ (∀ b : Blk, PE (hotB X scope q0 b) elt te) ∧
    ∀ S0 H0 σ S H (Q : VK), EnvOk X.K S0 H0 ds σ S H → m.post (fun as => ∀ p vs S' H', Grow S H S' H' → H p = none → S' p = none → H' p = some (.lst vs) → Reps c X.K S' vs as → Q (.ref p) H') (fun x => ∀ cl d S' H', Grow S H S' H' → repX X.K S' cl d x → W σ cl d H') → tLc wi g tt te (own.map (·.2)) σ H Q
section
variable {X : Cx} {W : WK} {ds : Env} {α β : Type} {elt tg iter : Expr} {ifs : List Expr} {scope : Scope} {c : Cd α} {c2 : Cd β} {mi : R (List α)}
theorem lc_coreH {q0 : Addr × Obj} {Pi : TI → Prop} {p : α → R Bool} {f : α → R β} (own : List (Str × Nat)) (ok : BlkOk X.N X.env.scope scope own) (hi : DIG Pi X W ds c mi) {eB : α → Env} (hg : DGB X scope tg (own.map (·.2)) c (wipeD ds (own.map (·.2))) eB)
    {tt : TT} (ht : ∀ b : Blk, PTs (blkX X scope b) ifs tt) (hts : ∀ a S0 H0 σ S H (Q : Bool → Hp → Prop), EnvOk X.K S0 H0 (eB a) σ S H → PB X.K S H (p a) Q E0 → tt σ H Q)
    (he : ∀ (b : Blk) a, DE (hotB X scope q0 b) (fun _ => E0) (eB a) elt c2 (f a)) : DLcH q0 Pi X W ds elt tg ifs scope c2 (mi >>= fun as => compM p f as) := by
  obtain ⟨wi, pi, qi⟩ := hi
  obtain ⟨g, pg, qg⟩ := hg
  refine ⟨wi, g, tt, tAnyH q0 X scope elt, own, pi, ok, pg, ht, fun b => ⟨fun pins s σ H Q I h => h b pins s I⟩, fun S0 H0 σ S H Q E P => ?_⟩
  refine qi S0 H0 σ S H _ E (R.post_mono (R.post_bind.mp P) (fun as k J S1 H1 g1 hJ => ?_) (fun _ k => k))
  intro D hD
  have E1 := E.step g1
  have hlen : as.length < 16000000 := by
    unfold compM at k
    split at k
    · assumption
    · exact False.elim k
  have k' : (compR p f as).post (fun as => ∀ p vs S' H', Grow S H S' H' → H p = none → S' p = none → H' p = some (.lst vs) → Reps c2 X.K S' vs as → Q (.ref p) H') (fun x => ∀ cl d S' H', Grow S H S' H' → repX X.K S' cl d x → W σ cl d H') := by
    unfold compM at k
    rw [if_pos hlen] at k
    exact k
  refine ⟨fun i m H' => m = as.length - i ∧ i ≤ as.length ∧ ∃ S' vs bs, Grow S1 H1 S' H' ∧ H' D = some (.lst vs) ∧ S' D = none ∧ Reps c2 X.K S' vs bs ∧ bs.length ≤ i ∧
      (compR p f (as.drop i)).post (fun ys => ∀ p vs S' H', Grow S H S' H' → H p = none → S' p = none → H' p = some (.lst vs) → Reps c2 X.K S' vs (bs ++ ys) → Q (.ref p) H') (fun x => ∀ cl d S' H', Grow S H S' H' → repX X.K S' cl d x → W σ cl d H'),
    ⟨as.length, rfl, Nat.zero_le _, S1, [], [], .lay' g1.inn hD, upd_same, g1.inn.free hD, trivial, Nat.le_refl _, by simpa using k'⟩, ?_⟩
  rintro i m H2 ⟨rfl, hi, S2, vs, bs, g2, h2, h3, r2, hb, k2⟩
  obtain ⟨j1, j2⟩ := hJ i S2 H2 g2.st g2.inn
  by_cases hlt : i < as.length
  · have ha : as[i]? = some as[i] := List.getElem?_eq_getElem hlt
    obtain ⟨n1, n2⟩ := j2 _ ha
    rw [List.drop_eq_getElem_cons hlt] at k2
    refine .inr ⟨n1, fun H' => ∃ S' vs bs, Grow S1 H1 S' H' ∧ H' D = some (.lst vs) ∧ S' D = none ∧ Reps c2 X.K S' vs bs ∧ bs.length ≤ i + 1 ∧
      (compR p f (as.drop (i + 1))).post (fun ys => ∀ p vs S' H', Grow S H S' H' → H p = none → S' p = none → H' p = some (.lst vs) → Reps c2 X.K S' vs (bs ++ ys) → Q (.ref p) H') (fun x => ∀ cl d S' H', Grow S H S' H' → repX X.K S' cl d x → W σ cl d H'),
      fun H' q => ⟨as.length - (i + 1), by omega, rfl, hlt, q⟩, fun x H3 y => ?_⟩
    obtain ⟨S3, g3, r3⟩ := n2 x H3 y
    have E3 := ((E1.step (g2.trans g3)).wipe (own.map (·.2)))
    refine qg _ x S0 H0 _ S3 H3 _ E3 r3 fun σ' hl ho EF => ⟨wipe_eq (by rw [hl, wipe_length]) ho, ?_⟩
    have E4 := EF S3 H3 (.refl _) E3
    have k3 : (R.nox (p as[i]) >>= fun z => if z = true then R.nox (f as[i]) >>= fun b => compR p f (as.drop (i + 1)) >>= fun bs => .ok (b :: bs) else compR p f (as.drop (i + 1))).post (fun ys => ∀ p vs S' H', Grow S H S' H' → H p = none → S' p = none → H' p = some (.lst vs) → Reps c2 X.K S' vs (bs ++ ys) → Q (.ref p) H') (fun x => ∀ cl d S' H', Grow S H S' H' → repX X.K S' cl d x → W σ cl d H') := k2
    refine hts _ S0 H0 σ' S3 H3 _ E4 (nox_post (R.post_mono (R.post_bind.mp k3) (fun z k4 S5 H5 g5 => ?_) (fun _ k => k)))
    have d5 : H5 D = some (.lst vs) := g5.ex _ _ (g3.ex _ _ h2)
    have s5 : S5 D = none := (g3.trans g5).none h2 h3
    cases z with
    | false =>
      rw [if_neg Bool.false_ne_true] at k4
      refine iteF ?_
      exact ⟨S5, vs, bs, g2.trans (g3.trans g5), d5, s5, Reps.mono (g3.trans g5).st r2, Nat.le_succ_of_le hb, k4⟩
    | true =>
      rw [if_pos rfl] at k4
      refine iteT ?_
      intro b
      refine (he b as[i]).w (Q := fun y H4 => ∃ acc, H4 D = some (.lst acc) ∧ acc.length < sizeLine ∧ _) (E4.step g5) (nox_post (R.post_mono (R.post_bind.mp k4) (fun w k5 v S6 H6 g6 r6 => ?_) (fun _ k => k)))
      have d6 : H6 D = some (.lst vs) := g6.ex _ _ d5
      have s6 : S6 D = none := g6.none d5 s5
      have g16 : Grow S1 H1 S6 H6 := g2.trans (g3.trans (g5.trans g6))
      refine ⟨vs, d6, by rw [r2.length]; exact Nat.lt_of_le_of_lt hb (Nat.lt_of_lt_of_le (Nat.lt_trans hlt hlen) (by decide)), S6, vs ++ [v], bs ++ [w], ⟨g16.ex.mut hD, g16.st, g16.inn.mut s6, g16.new⟩, upd_same, s6, (Reps.mono (g3.trans (g5.trans g6)).st r2).append (show Reps c2 X.K S6 [v] [w] from ⟨r6, trivial⟩), by rw [List.length_append]; exact Nat.succ_le_succ hb, ?_⟩
      refine R.post_mono (R.post_bind.mp k5) (fun ys k6 p vs S' H' g' h1 h2 h3 r => k6 p vs S' H' g' h1 h2 h3 ?_) (fun _ k => k)
      rw [List.append_assoc] at r
      exact r
  · have e : i = as.length := by omega
    subst e
    rw [List.drop_length] at k2
    have q := k2 D vs S2 H2 (g1.trans g2) (g1.ex.free hD) h3 h2
    rw [List.append_nil] at q
    exact .inl ⟨j1 (Nat.le_refl _), q r2⟩
end
section
variable {X : Cx} {q0 : Addr × Obj} {elt tg iter : Expr} {scope : Scope} {pos : Pos} {wi : TI} {g : TG} {te : TE} {own : List (Str × Nat)} {ifs : List Expr} {tt : TT}
theorem pe_lcH2 (hot : Hot1 X.A q0) (hm : q0 ∈ X.pn) (sn : X.N.Nodup) (hi : PIH X tg iter wi) (ok : BlkOk X.N X.env.scope scope own) (hg : ∀ b : Blk, PG (blkX X scope b) tg g) (ht : ∀ b : Blk, PTs (blkX X scope b) ifs tt) (he : ∀ b : Blk, PE (hotB X scope q0 b) elt te)
    (hs : ∀ x, foldedSetIterable iter X.env x = pure x := by intro _; rfl) : PE X (.ListComp elt [⟨tg, iter, ifs, 0⟩] scope pos) (tLc wi g tt te (own.map (·.2))) := by
  refine ⟨fun pins s σ H Q I h => ?_⟩
  rw [eval_ListComp]
  have free : ∀ y ∈ scope.names, y.2 = .free → ∃ c, X.env.cells.lookup y.1 = some c := fun y hy e => (ok.free y hy e).elim (fun k => I.ok.has _ (.inl k)) fun k => I.ok.has _ (.inr k)
  refine wpAny_comprehension_free (use := none) rfl hs (closure_ok free) ok.kind (fun y hy e => by rw [ok.uniq y hy, e]) (thn (hi.run pins s σ H _ I h) fun v s1 h1 => thn h1 fun itv s2 h2 => ?_)
  obtain ⟨it, fp, tn, J, H2, rfl, I2, Tn, st2, f2, q⟩ := h2
  refine wpAny_newObj_type (newEnv_comp ?_) (Nat.zero_le _)
  have nb : ∀ b ∈ fp, q0.1 ≠ b := fun b hb => (f2 b hb).2.2.2.2.2 q0 (List.mem_append_left _ hm)
  generalize eD : s2.heap.objs.size = D
  obtain ⟨M, ⟨m0, w0⟩, turn⟩ := q D (I2.hok.fresh (Nat.le_of_eq eD))
  generalize es3 : ({ s2 with heap := s2.heap.push { cls := .type "list", data := .seq ([] : List Value).toArray } } : Shared) = s3
  have hp3 : s3.heap = s2.heap.push { cls := .type "list", data := .seq ([] : List Value).toArray } := by rw [← es3]
  have J3 : L2.Inv X pins σ (upd H2 D (.lst [])) s3 := by
    subst es3 eD
    exact I2.laid (t' := s2.toks) (fun b o e => Heap.get?_push_of_some _ e) (Nat.le_refl _) ⟨Nat.zero_le _, [], 0, .nil, Heap.get?_push_size _ rfl⟩
  have lt2 : ∀ b ∈ fp, b < s2.heap.objs.size := fun b hb => by
    obtain ⟨o, e, _⟩ := Tn.obj _ _ st2 b hb
    exact Heap.lt_size e
  have F3 : ∀ b ∈ fp, FpOk X pins (upd H2 D (.lst [])) b ∧ b < s3.heap.objs.size := fun b hb => by
    refine ⟨⟨(upd_ne fun z => ?_).trans (f2 b hb).1, (f2 b hb).2⟩, ?_⟩
    · have l := lt2 b hb
      rw [z, eD] at l
      exact Nat.lt_irrefl _ l
    · rw [hp3, Heap.size_push]
      exact Nat.lt_succ_of_lt (lt2 b hb)
  have T3 : tn 0 s3.heap := Tn.keep _ _ _ st2 fun b _ o e => by
    rw [hp3]
    exact Heap.get?_push_of_some _ e
  generalize eH3 : upd H2 D (.lst []) = H3 at J3 F3 w0
  have B4 := block_start J3 ok sn F3
  have pg := hg (s3, H3, s3.heap.objs.size, cellsFrom (s3.heap.objs.size + 1) scope.names (cloFrom X.env.cells scope.names []), fp)
  have pe := he (s3, H3, s3.heap.objs.size, cellsFrom (s3.heap.objs.size + 1) scope.names (cloFrom X.env.cells scope.names []), fp)
  show codeAny _ _ (.compStart (.ListComp elt [⟨tg, iter, ifs, 0⟩] scope pos) 0 (.ref it) (.ref D) (compEnvC scope (cellsFrom (s3.heap.objs.size + 1) scope.names (cloFrom X.env.cells scope.names [])) s3.heap.objs.size X.env)) (compPost (model X.prog X.w) X.A X.xe none _ (.ref D) s3.heap.objs.size) { s3 with heap := pushCells (s3.heap.push { cls := .type "dict", data := .dict #[] }) scope.names }
  have pt := ht (s3, H3, s3.heap.objs.size, cellsFrom (s3.heap.objs.size + 1) scope.names (cloFrom X.env.cells scope.names []), fp)
  have pt : PTs (X.blk s3 H3 scope (compEnvC scope (cellsFrom (s3.heap.objs.size + 1) scope.names (cloFrom X.env.cells scope.names [])) s3.heap.objs.size X.env) fp) ifs tt := pt
  have pg : PG (X.blk s3 H3 scope (compEnvC scope (cellsFrom (s3.heap.objs.size + 1) scope.names (cloFrom X.env.cells scope.names [])) s3.heap.objs.size X.env) fp) tg g := pg
  have pe : PE (hotY (X.blk s3 H3 scope (compEnvC scope (cellsFrom (s3.heap.objs.size + 1) scope.names (cloFrom X.env.cells scope.names [])) s3.heap.objs.size X.env) fp) q0) elt te := pe
  generalize ece : compEnvC scope (cellsFrom (s3.heap.objs.size + 1) scope.names (cloFrom X.env.cells scope.names [])) s3.heap.objs.size X.env = ce at B4 pg pt pe ⊢
  have lc : ce.locals = s3.heap.objs.size := by rw [← ece]; rfl
  have keep4 : ∀ b o, s3.heap.get? b = some o → (pushCells (s3.heap.push { cls := .type "dict", data := .dict #[] }) scope.names).get? b = some o := fun b o e => pushCells_keeps _ _ _ _ (Heap.get?_push_of_some _ e)
  have pq := J3.pin q0 (List.mem_append_left _ hm)
  have C4 := B4.pins_of (pins' := [q0]) fun r hr => by
    rw [show r = q0 from by simpa using hr]
    refine ⟨keep4 _ _ pq.1, pq.2.1, fun z => ?_, fun hz => (List.mem_cons.mp (J3.stkSub q0.1 hz)).elim pq.2.2.1 pq.2.2.2.1, pq.2.2.2.2⟩
    have l := Heap.lt_size pq.1
    rw [show q0.1 = s3.heap.objs.size from z.trans lc] at l
    exact Nat.lt_irrefl _ l
  generalize es4 : ({ s3 with heap := pushCells (s3.heap.push { cls := .type "dict", data := .dict #[] }) scope.names } : Shared) = s4 at C4 ⊢
  have T4 : tn 0 s4.heap := Tn.keep _ _ _ T3 fun b _ o e => by
    rw [← es4]
    exact keep4 _ _ e
  have hotB : HotC ((X.blk s3 H3 scope ce fp).tr ((X.blk s3 H3 scope ce fp).pn ++ [q0]) fun _ _ => False) := ⟨q0, hot, List.mem_append_right _ (List.mem_singleton.mpr rfl)⟩
  have fpB : ∀ {σ' : L2.St} {H' : Hp} {s' : Shared}, L2.Inv (X.blk s3 H3 scope ce fp) [q0] σ' H' s' → (∀ b ∈ fp, H' b = none) → ∀ b ∈ fp, FpOk (X.blk s3 H3 scope ce fp) [q0] H' b := fun I' hn b hb => fp_hot I' rfl rfl nb hn b hb
  have fpT : ∀ {σ' : L2.St} {H' : Hp} {s' : Shared}, L2.Inv (X.blk s3 H3 scope ce fp) [q0] σ' H' s' → (∀ b ∈ fp, H' b = none) → ∀ b ∈ fp, FpOk ((X.blk s3 H3 scope ce fp).tr ((X.blk s3 H3 scope ce fp).pn ++ [q0]) fun _ _ => False) [] H' b := fun I' hn b hb => by
    obtain ⟨k1, k2, k3, k4, k5, k6⟩ := fpB I' hn b hb
    exact ⟨k1, k2, k3, k4, k5, fun r hr => k6 r (by simpa using hr)⟩
  have loop : codeAny (model X.prog X.w) X.A (.compLoop (.ListComp elt [⟨tg, iter, ifs, 0⟩] scope pos) 0 (.ref it) (.ref D) ce) (compPost (model X.prog X.w) X.A X.xe none (EP X pins σ Q) (.ref D) s3.heap.objs.size) s4 := by
    refine compLoop_any (fun n s' => ∃ i H', L2.Inv (X.blk s3 H3 scope ce fp) [q0] (wipe σ (own.map (·.2))) H' s' ∧ tn i s'.heap ∧ (∀ b ∈ fp, H' b = none) ∧ M i n H') ?_ m0 ⟨0, H3, C4, T4, fun b hb => (F3 b hb).1.1, w0⟩
    rintro n s5 ⟨i, H5, I5, st5, n5, w5⟩
    rcases turn i n H5 w5 with ⟨stop, qq⟩ | ⟨go, Nx, hNx, step⟩
    · refine thnF (Tn.done ((X.blk s3 H3 scope ce fp).tr ((X.blk s3 H3 scope ce fp).pn ++ [q0]) fun _ _ => False) rfl rfl rfl hotB i [] s5 _ H5 (fun _ _ => False) (I5.toTry _) (fpT I5 n5) st5 stop) fun r s6 hr6 => ?_
      obtain ⟨rfl, I6⟩ := hr6
      have I6 := I6.ofTry I5.ok
      have I7 : L2.Inv X pins σ H5 s6 := J3.call' (ch := fp) I6.os I6.base I6.hok I6.bare fun b hb => ⟨(F3 b hb).1.2.2.2.1, (F3 b hb).1.2.1, (F3 b hb).1.2.2.2.2.1, (F3 b hb).1.2.2.2.2.2⟩
      have nC : H5 s3.heap.objs.size = none := by
        have z : H5 ce.locals = none := I6.free
        rw [lc] at z
        exact z
      obtain ⟨m, hn, _⟩ := I6.loc
      have hn : s6.heap.Ns ce.locals m := hn
      rw [lc] at hn
      obtain ⟨f0, f1, f3, f4, f5, f6⟩ := J3.fpOk (Nat.le_refl _) nC
      exact ⟨m, hn, fun h' sb => ⟨.ref D, H5, I7.turned (t' := s6.toks) (fun b o hb e => (sb.2 b hb).trans e) f0 f1 f4 f5 f6, rfl, qq⟩⟩
    · refine thnF (Tn.item ((X.blk s3 H3 scope ce fp).tr ((X.blk s3 H3 scope ce fp).pn ++ [q0]) fun _ _ => False) rfl rfl rfl hotB i [] s5 _ H5 (fun _ _ => False) (I5.toTry _) (fpT I5 n5) st5 go) fun r s6 hr6 => ?_
      obtain ⟨u, rfl, h6⟩ := hr6
      refine thnF h6 fun _ s7 h7 => ?_
      obtain ⟨x, H7, I7, r7, y7, st7, n7⟩ := h7
      have I7 := I7.ofTry I5.ok
      have P7 := I7.pinned (fpB I7 n7) (Tn.obj _ _ st7)
      refine thnF (pg.run _ s7 _ H7 x u _ P7 r7 (step x H7 y7)) fun _ s8 h8 => ?_
      obtain ⟨σ8, H8, I8, hw8, q8⟩ := h8
      have fin : ∀ {s' : Shared} {H' : Hp}, L2.Inv (X.blk s3 H3 scope ce fp) ([q0] ++ pinsAt fp s7.heap) σ8 H' s' → Nx H' → ∃ m, m < n ∧ ∃ i H', L2.Inv (X.blk s3 H3 scope ce fp) [q0] (wipe σ (own.map (·.2))) H' s' ∧ tn i s'.heap ∧ (∀ b ∈ fp, H' b = none) ∧ M i m H' := fun {s' H'} I11 nx => by
        obtain ⟨m', hlt, w'⟩ := hNx _ nx
        have pin' : ∀ b ∈ fp, ∀ o, s7.heap.get? b = some o → s'.heap.get? b = some o ∧ H' b = none := fun b hb o e =>
          have z := I11.pin (b, o) (List.mem_append_right _ (List.mem_append_right _ (mem_pinsAt hb e)))
          ⟨z.1, z.2.1⟩
        have hl : (wipe σ (own.map (·.2))).length = σ8.length := by rw [← hw8, wipe_length]
        refine ⟨m', hlt, i + 1, _, (I11.unpinned (pins := [q0])).weak hl (fun j v e => ?_), Tn.keep _ _ _ st7 fun b hb o e => (pin' b hb o e).1, fun b hb => ?_, w'⟩
        · rw [← hw8] at e
          exact (wipe_some e).1
        · obtain ⟨o, e, _⟩ := Tn.obj _ _ st7 b hb
          exact (pin' b hb o e).2
      refine thnF (pt.run _ s8 σ8 H8 _ I8 q8) fun b s9 h9 => ?_
      obtain ⟨H9, I9, q9⟩ := h9
      cases b with
      | false =>
        simp only [Bool.false_eq_true, if_false] at q9 ⊢
        exact fin I9 q9
      | true =>
        simp only [if_true] at q9 ⊢
        refine thnF (pe.run _ s9 σ8 H9 _ (inv_hot I9) q9) fun z s10 h10 => ?_
        obtain ⟨yv, H10, I10, r10, acc, hD10, hz10, nx⟩ := h10
        have I10 := inv_cold I9.ok I10
        exact app_ok (X := X.blk s3 H3 scope ce fp) I10 hD10 hz10 r10 fun s11 I11 => fin I11 nx
  exact codeAny_compStart_list loop (Tn.self X.A 0 _ _ _ T4 loop)
end
section
variable {X : Cx} {W : WK} {ds : Env} {α β : Type} {a elt tg iter : Expr} {scope : Scope} {c : Cd α} {c2 : Cd β} {m : R (List α)} {pos p p2 : Pos}
theorem iterLH (ha : DE X W ds a (cL c) m) : DIG (PIH X tg a) X W ds c m := by
  obtain ⟨t, p, q⟩ := ha
  refine ⟨_, pi_listH p, fun S0 H0 σ S H Q E P => q S0 H0 σ S H _ E (R.post_mono P (fun as k v S' H' g r => ?_) (fun _ k => k))⟩
  obtain ⟨l, vs, e, h1, h2⟩ := r
  exact ⟨l, e, ⟨vs, Same.seq g.inn h1⟩, k _ S' H' g (itl_ok h1 h2)⟩
theorem iterTH (ha : DE X W ds a (cT c) m) : DIG (PIH X tg a) X W ds c m := by
  obtain ⟨t, p, q⟩ := ha
  refine ⟨_, pi_tupH p, fun S0 H0 σ S H Q E P => q S0 H0 σ S H _ E (R.post_mono P (fun as k v S' H' g r => ?_) (fun _ k => k))⟩
  obtain ⟨l, vs, e, h1, h2⟩ := r
  exact ⟨l, e, ⟨vs, Same.tup g.inn h1⟩, k _ S' H' g (itt_ok h1 h2)⟩
/-- [elt for tg in a list or a tuple] there -/
theorem lcHs {q : Addr × Obj} {f : α → R β} (own : List (Str × Nat)) (ok : BlkOk X.N X.env.scope scope own) (sn : X.N.Nodup) (hx : HotX X q) (hi : DIG (PIH X tg iter) X W ds c m) {eB : α → Env} (hg : DGB X scope tg (own.map (·.2)) c (wipeD ds (own.map (·.2))) eB)
    (he : ∀ (b : Blk) z, DE (hotB X scope q b) (fun _ => E0) (eB z) elt c2 (f z)) (hs2 : ∀ x, foldedSetIterable iter X.env x = pure x := by intro _; rfl) :
    DL X W ds (.ListComp elt [⟨tg, iter, [], 0⟩] scope pos) c2 (m >>= fun as => mapM f as) := by
  have h := lc_coreH (q0 := q) (Pi := PIH X tg iter) (ifs := []) (p := fun _ => .ok true) (f := f) own ok hi hg (tt := tYes) (fun _ => pts_nil) (fun a S0 H0 σ S H Q E P => P.ok E.inn) he
  rw [show (fun as => compM (fun _ => .ok true) f as) = fun as => mapM f as from funext fun as => compM_map f as] at h
  obtain ⟨wi, g, tt, te, own', pi, ok', pg, ht, pe, q'⟩ := h
  exact ⟨_, pe_lcH2 hx.hot hx.mem sn pi ok' pg ht pe hs2, q'⟩
theorem iterRH {a : Expr} {ma : R Int} (hm : X.mg "range" = none) (ha : DE X W ds a cI ma) (hr : Gl X "range" := by rfl) (hs : starEach [a] X.env = [(false, eval a X.env)] := by rfl) : DIG (PIH X tg (.Call (.Name "range" p) [a] [] p2)) X W ds cI (ma >>= fun n => rngM 0 n) := by
  obtain ⟨t, pa, q⟩ := ha
  refine ⟨_, pi_range1H hr hm (pa_cons pa pa_nil hs) hs, fun S0 H0 σ S H Q E P => q S0 H0 σ S H _ E (R.post_mono (R.post_bind.mp P) (fun n k v S' H' g r => ?_) (fun _ k => k))⟩
  obtain ⟨k1, k2⟩ := R.guard_post k
  obtain rfl : v = V.int n := r
  refine ⟨n, rfl, k1.2.2.1, k1.2.2.2, ?_⟩
  rw [show n - 0 = n from by omega] at k2
  exact k2 _ S' H' g itr_ok
end
/-! ### reversed -/
theorem itvT_ok {α : Type} {c : Cd α} {K : PySem.W.Frag} {S : Hp} {a : Addr} {xs : List V} {as : List α} (h1 : SqT K S a xs) (h2 : Reps c K S xs as) : ItOk (RT.ItvT K a xs.length) K S c as.reverse := fun i S1 H1 s1 s2 => by
  have l := h2.length
  refine ⟨fun hi => ?_, fun z hz => ?_⟩
  · rw [List.length_reverse] at hi
    show xs.length ≤ i
    omega
  · have hi : i < as.length := by
      have := (List.getElem?_eq_some_iff.mp hz).1
      simpa using this
    rw [List.getElem?_reverse hi] at hz
    obtain ⟨u, eu, ru⟩ := h2.get hz
    rw [← l] at eu
    have hq : SqT K H1 a xs := Same.tup (s1.trans s2) h1
    refine ⟨⟨by omega, xs, u, hq, eu⟩, fun x H' y => ?_⟩
    obtain ⟨rfl, y2⟩ := y
    have y3 := y2 xs hq
    rw [eu] at y3
    cases y3
    exact ⟨S1, .refl s2, c.mono s1 ru⟩
theorem itv_ok {α : Type} {c : Cd α} {K : PySem.W.Frag} {S : Hp} {a : Addr} {xs : List V} {as : List α} (h1 : SqL K S a xs) (h2 : Reps c K S xs as) : ItOk (Itv K a xs.length) K S c as.reverse := fun i S1 H1 s1 s2 => by
  have l := h2.length
  refine ⟨fun hi => ?_, fun z hz => ?_⟩
  · rw [List.length_reverse] at hi
    show xs.length ≤ i
    omega
  · have hi : i < as.length := by
      have := (List.getElem?_eq_some_iff.mp hz).1
      simpa using this
    rw [List.getElem?_reverse hi] at hz
    obtain ⟨u, eu, ru⟩ := h2.get hz
    rw [← l] at eu
    have hq : SqL K H1 a xs := Same.seq (s1.trans s2) h1
    refine ⟨⟨by omega, xs, u, hq, eu⟩, fun x H' y => ?_⟩
    obtain ⟨rfl, y2⟩ := y
    have y3 := y2 xs hq
    rw [eu] at y3
    cases y3
    exact ⟨S1, .refl s2, c.mono s1 ru⟩
section
variable {X : Cx} {W : WK} {ds : Env} {α : Type} {e tg : Expr} {c : Cd α} {m : R (List α)} {p pos : Pos}
theorem iterRevT (hm : X.mg "reversed" = none) (ha : DE X W ds e (cT c) m) (hg : Gl X "reversed" := by rfl) (hs : starEach [e] X.env = (false, eval e X.env) :: starEach [] X.env := by rfl) : DI X W ds tg (.Call (.Name "reversed" p) [e] [] pos) c (m >>= fun as => .ok as.reverse) := by
  obtain ⟨t, pa, q⟩ := ha
  refine ⟨_, RT.pi_revA hg hm pa hs, fun S0 H0 σ S H Q E P => q S0 H0 σ S H _ E (R.post_mono (R.post_bind.mp P) (fun as k v S' H' g r => ?_) (fun _ k => k))⟩
  obtain ⟨l, vs, e1, h1, h2⟩ := r
  exact ⟨l, vs, e1, .inr ⟨Same.tup g.inn h1, k _ S' H' g (itvT_ok h1 h2)⟩⟩
theorem iterRevL (hm : X.mg "reversed" = none) (ha : DE X W ds e (cL c) m) (hg : Gl X "reversed" := by rfl) (hs : starEach [e] X.env = (false, eval e X.env) :: starEach [] X.env := by rfl) : DI X W ds tg (.Call (.Name "reversed" p) [e] [] pos) c (m >>= fun as => .ok as.reverse) := by
  obtain ⟨t, pa, q⟩ := ha
  refine ⟨_, RT.pi_revA hg hm pa hs, fun S0 H0 σ S H Q E P => q S0 H0 σ S H _ E (R.post_mono (R.post_bind.mp P) (fun as k v S' H' g r => ?_) (fun _ k => k))⟩
  obtain ⟨l, vs, e1, h1, h2⟩ := r
  exact ⟨l, vs, e1, .inl ⟨Same.seq g.inn h1, k _ S' H' g (itv_ok h1 h2)⟩⟩
end
section
variable {X : Cx} {W : WK} {ds : Env} {a b : Expr} {p pos : Pos}
theorem gcd_m {mx my : R Int} (hm : X.mg "gcd" = some (.builtin "math.gcd")) (ha : DE X W ds a cI mx) (hb : DE X W ds b cI my) (hg : Gl X "gcd" := by rfl) (he : starEach (a :: [b]) X.env = (false, eval a X.env) :: starEach [b] X.env := by rfl) (he2 : starEach (b :: []) X.env = (false, eval b X.env) :: starEach [] X.env := by rfl) (hpl : (backTo pos (starEach [b] X.env)).any (·.1) = false := by rfl) : DE X W ds (.Call (.Name "gcd" p) [a, b] [] pos) cI (mx >>= fun x => my >>= fun y => .ok ((Int.gcd x y : Nat) : Int)) := by
  have h := callF (p := p) (nm := "gcd") cr_gcd cs_gcd hm (argC ha (arg1 hb he2) he) hg (by decide) he hpl
  have e : (mx >>= fun x => my >>= fun y => (.ok ((Int.gcd x y : Nat) : Int) : R Int)) = ((mx >>= fun x => my >>= fun y => (.ok (x, y) : R (Int × Int))) >>= fun z => .ok ((Int.gcd z.1 z.2 : Nat) : Int)) := by
    simp only [R.bind_assoc, R.ok_bind]
  rw [e]
  exact h
end
end Zk
set_option maxHeartbeats 4000000
/-! # Zk: the mathematics of the helpers that every law has -/
namespace Zk
open PySem
theorem log2_le {n a : Nat} (h : n < 2 ^ a) : n.log2 ≤ a := by
  by_cases h0 : n = 0
  · subst h0
    exact Nat.le_trans (by decide) (Nat.zero_le a)
  · exact Nat.le_of_lt ((Nat.log2_lt h0).mpr h)
theorem mulM_ok {x y : Int} (a b : Nat) (hx : x.natAbs < 2 ^ a) (hy : y.natAbs < 2 ^ b) (h : a + b < 100000000 := by decide) : mulM x y = .ok (x * y) := by
  have h1 := log2_le hx
  have h2 := log2_le hy
  unfold mulM
  refine R.guard_ok (decide_eq_true ?_)
  omega
theorem mulM_lt {x y : Int} (h1 : x.natAbs < 2 ^ 40000000) (h2 : y.natAbs < 2 ^ 40000000) : mulM x y = .ok (x * y) := mulM_ok _ _ h1 h2
theorem modM_ok {x y : Int} (h : y ≠ 0) : modM x y = .ok (x.fmod y) := R.guard_ok h
theorem fdivM_ok {x y : Int} (h : y ≠ 0) (hb : y.natAbs.log2 < 9000) : fdivM x y = .ok (x.fdiv y) := R.guard_ok ⟨h, PyProof.noPylong_of_log2 hb⟩
theorem fdivM_sm {x y : Int} (h : y ≠ 0) (hb : y.natAbs < 1073741824) : fdivM x y = .ok (x.fdiv y) := R.guard_ok ⟨h, PyProof.noPylong_small hb⟩
theorem appM_ok {α : Type} {xs : List α} {x : α} (h : xs.length < 16000000) : appM xs x = .ok (xs ++ [x]) := R.guard_ok h
theorem rngM_ok {lo hi : Int} (h1 : -(2 ^ 62) ≤ lo) (h2 : lo < 2 ^ 62) (h3 : -(2 ^ 62) ≤ hi) (h4 : hi < 2 ^ 62) : rngM lo hi = .ok (rangeL lo (hi - lo).toNat) := R.guard_ok ⟨h1, h2, h3, h4⟩
theorem atI_natZ {α : Type} {xs : List α} {i : Nat} {z : α} (h : xs[i]? = some z) : L2.atI xs (i : Int) = some z := L2.atI_nat h
theorem getM_nat {α : Type} {xs : List α} {i : Nat} {z : α} (h : xs[i]? = some z) : getM xs (i : Int) = .ok z := by
  unfold getM
  rw [L2.atI_nat h]
theorem getM_of {α : Type} {xs : List α} {j : Int} {i : Nat} {z : α} (e : j = (i : Int)) (h : xs[i]? = some z) : getM xs j = .ok z := by
  rw [e]; exact getM_nat h
theorem fmod_pos {x y : Int} (h : 0 < y) : 0 ≤ x.fmod y ∧ x.fmod y < y := by
  rw [Int.fmod_eq_emod_of_nonneg x (Int.le_of_lt h)]
  exact ⟨Int.emod_nonneg x (by omega), Int.emod_lt_of_pos x h⟩
/-! ### folds -/
theorem foldR_inv {α S : Type} {step : S → α → R S} (C : Nat → S → Prop) : ∀ (xs : List α) (i : Nat) (s : S), C i s → (∀ j s x, C j s → xs[j - i]? = some x → i ≤ j → ∃ s', step s x = .ok s' ∧ C (j + 1) s') → ∃ s', foldR step xs s = .ok s' ∧ C (i + xs.length) s'
  | [], i, s, h, _ => ⟨s, rfl, h⟩
  | x :: xs, i, s, h, st => by
    obtain ⟨s1, e1, c1⟩ := st i s x h (by rw [Nat.sub_self]; rfl) (Nat.le_refl _)
    obtain ⟨s2, e2, c2⟩ := foldR_inv C xs (i + 1) s1 c1 (fun j s y c hy hj => st j s y c (by
      have e : j - i = (j - (i + 1)) + 1 := by omega
      rw [e]
      exact hy) (by omega))
    refine ⟨s2, ?_, by rw [List.length_cons]; have e : i + (xs.length + 1) = i + 1 + xs.length := by omega
                       rw [e]; exact c2⟩
    show (step s x >>= fun s' => foldR step xs s') = _
    rw [e1]
    exact e2
/-! ### the helpers' mirrors -/
def law_cell (script : (List Int)) (k : Int) : R Int :=
  (if (decide (k < ((script.length : Nat) : Int))) = true then
    (getM script k)
  else
    R.ok (17 : Int) >>= fun (seed : Int) =>
    R.ok script >>= fun as => foldR (fun (s1 : Int) (cell : Int) => (((((mulM s1 (31 : Int)) >>= fun x2 => (modM cell (1000003 : Int)) >>= fun y3 => R.ok ((x2 + y3))) >>= fun z => R.ok z) >>= fun x4 => (modM x4 (1000003 : Int))) >>= fun (seed : Int) =>
      R.ok seed : R Int)) as seed >>= fun (s5 : Int) =>
    ((((mulM (s5 + (7 : Int)) (k + (3 : Int))) >>= fun x6 => (mulM x6 (69621 : Int))) >>= fun z => R.ok z) >>= fun x7 => (modM x7 (2147483647 : Int))))
def law_digits (cell : Int) (sizes : (List Int)) : R (List Int) :=
  R.ok ([] : List Int) >>= fun (row : List Int) =>
  R.ok cell >>= fun (rest : Int) =>
  (((powM (10 : Int) (18 : Int)) >>= fun y1 => R.ok ((decide (y1 ≤ rest)))) >>= fun z18 => if z18 = true then
    ((powM (10 : Int) (18 : Int)) >>= fun y2 => R.ok ((rest - y2))) >>= fun (rest : Int) =>
    R.ok sizes >>= fun as => foldR (fun (s3 : ((List Int) × Int)) (size : Int) => ((modM s3.2 size) >>= fun z4 => appM s3.1 z4 >>= fun (row : List Int) =>
      (fdivM s3.2 size) >>= fun (rest : Int) =>
      R.ok (row, rest) : R ((List Int) × Int))) as (row, rest) >>= fun (s5 : ((List Int) × Int)) =>
    R.ok s5.1
  else
    (modM rest (2147483629 : Int)) >>= fun (seed : Int) =>
    rngM 0 (((sizes.length : Nat) : Int)) >>= fun as => foldR (fun (s6 : (Int × (List Int))) (k : Int) => ((((((mulM s6.1 (48271 : Int)) >>= fun x7 => (mulM (974711 : Int) k) >>= fun y8 => R.ok ((x7 + y8))) >>= fun x9 => R.ok ((x9 + (12345 : Int)))) >>= fun z => R.ok z) >>= fun x10 => (modM x10 (2147483647 : Int))) >>= fun (seed : Int) =>
      (((((fdivM seed (65537 : Int)) >>= fun x11 => R.ok ((x11 + (3 : Int)))) >>= fun y12 => (mulM seed y12)) >>= fun z => R.ok z) >>= fun x13 => (modM x13 (2147483629 : Int))) >>= fun (twice : Int) =>
      ((fdivM twice (19 : Int)) >>= fun x14 => (getM sizes k) >>= fun y15 => (modM x14 y15)) >>= fun z16 => appM s6.2 z16 >>= fun (row : List Int) =>
      R.ok (seed, row) : R (Int × (List Int)))) as (seed, row) >>= fun (s17 : (Int × (List Int))) =>
    R.ok s17.2)
def law_gcd (one : Int) (two : Int) : R Int :=
  R.ok (if one < 0 then -one else one) >>= fun (one : Int) =>
  R.ok (if two < 0 then -two else two) >>= fun (two : Int) =>
  rngM 0 ((100000 : Int)) >>= fun as => loopB (fun (s1 : (Int × Int)) (turn : Int) => ((if (decide (s1.2 = (0 : Int))) = true then
      R.ok (.brk (s1.1, s1.2))
    else
      (modM s1.1 s1.2) >>= fun (rest : Int) =>
      R.ok s1.2 >>= fun (one : Int) =>
      R.ok rest >>= fun (two : Int) =>
      R.ok (.nxt (one, two))) : R (Out Empty (Int × Int) (Int × Int)))) as (one, two) >>= fun (s2 : (Int × Int)) =>
  R.ok s2.1
/-! ### a cell is some number -/
theorem law_cell_ok (script : List Int) (k : Nat) (hk : k ≤ 100000) : ∃ v, law_cell script (k : Int) = .ok v := by
  unfold law_cell
  by_cases h : (k : Int) < ((script.length : Nat) : Int)
  · rw [if_pos (decide_eq_true h)]
    have hk2 : k < script.length := by omega
    exact ⟨_, getM_nat (List.getElem?_eq_getElem hk2)⟩
  · rw [if_neg (by rw [decide_eq_false h]; exact Bool.false_ne_true)]
    obtain ⟨s, e, c⟩ := foldR_inv (step := fun (s1 : Int) (cell : Int) => (((((mulM s1 (31 : Int)) >>= fun x2 => (modM cell (1000003 : Int)) >>= fun y3 => R.ok ((x2 + y3))) >>= fun z => R.ok z) >>= fun x4 => (modM x4 (1000003 : Int))) >>= fun (seed : Int) => R.ok seed : R Int))
      (fun _ s => 0 ≤ s ∧ s < 1000003) script 0 17 ⟨by decide, by decide⟩ (fun j s x c _ _ => by
        have m1 : mulM s 31 = .ok (s * 31) := mulM_ok 20 5 (by omega) (by decide)
        have m2 : modM x 1000003 = .ok (x.fmod 1000003) := modM_ok (by decide)
        have m3 : modM (s * 31 + x.fmod 1000003) 1000003 = .ok ((s * 31 + x.fmod 1000003).fmod 1000003) := modM_ok (by decide)
        refine ⟨(s * 31 + x.fmod 1000003).fmod 1000003, ?_, fmod_pos (by decide)⟩
        simp only [m1, m2, m3, R.ok_bind])
    have m1 : mulM (s + 7) ((k : Int) + 3) = .ok ((s + 7) * ((k : Int) + 3)) := mulM_ok 21 20 (by omega) (by omega)
    have hb : ((s + 7) * ((k : Int) + 3)).natAbs < 2 ^ 41 := by
      have h1 : (s + 7).natAbs < 2 ^ 21 := by omega
      have h2 : ((k : Int) + 3).natAbs < 2 ^ 20 := by omega
      exact L2.wide_lt h1 h2
    have m2 : mulM ((s + 7) * ((k : Int) + 3)) 69621 = .ok ((s + 7) * ((k : Int) + 3) * 69621) := mulM_ok 41 17 hb (by decide)
    have m3 : modM ((s + 7) * ((k : Int) + 3) * 69621) 2147483647 = .ok (((s + 7) * ((k : Int) + 3) * 69621).fmod 2147483647) := modM_ok (by decide)
    refine ⟨((s + 7) * ((k : Int) + 3) * 69621).fmod 2147483647, ?_⟩
    simp only [R.ok_bind]
    rw [e]
    simp only [R.ok_bind, m1, m2, m3]
/-! ### digits: as many numbers as sizes, each below its size -/
def Digs (sizes row : List Int) : Prop := row.length = sizes.length ∧ ∀ (i : Nat) (s : Int), sizes[i]? = some s → ∃ d : Int, row[i]? = some d ∧ 0 ≤ d ∧ d < s
theorem digs_step {sizes row : List Int} {j : Nat} {s d : Int} (hl : row.length = j) (h : ∀ (i : Nat) (z : Int), i < j → sizes[i]? = some z → ∃ d : Int, row[i]? = some d ∧ 0 ≤ d ∧ d < z) (hs : sizes[j]? = some s) (hd : 0 ≤ d ∧ d < s) :
    (row ++ [d]).length = j + 1 ∧ ∀ (i : Nat) (z : Int), i < j + 1 → sizes[i]? = some z → ∃ d' : Int, (row ++ [d])[i]? = some d' ∧ 0 ≤ d' ∧ d' < z := by
  refine ⟨by rw [List.length_append, hl]; rfl, fun i z hi hz => ?_⟩
  by_cases e : i = j
  · subst e
    rw [hs] at hz
    cases hz
    refine ⟨d, ?_, hd⟩
    rw [List.getElem?_append_right (by omega), hl, Nat.sub_self]
    rfl
  · obtain ⟨d', e1, e2⟩ := h i z (by omega) hz
    refine ⟨d', ?_, e2⟩
    rw [List.getElem?_append_left (by omega)]
    exact e1
theorem law_digits_ok (cell : Int) (sizes : List Int) (hl : sizes.length ≤ 1000) (hs : ∀ z ∈ sizes, 0 < z ∧ z.natAbs.log2 < 9000) : ∃ row, law_digits cell sizes = .ok row ∧ Digs sizes row := by
  have p18 : powM (10 : Int) (18 : Int) = .ok 1000000000000000000 := R.guard_ok (.inl ⟨by decide, by decide, by decide⟩)
  unfold law_digits
  simp only [R.ok_bind, p18]
  by_cases h : (1000000000000000000 : Int) ≤ cell
  · rw [if_pos (decide_eq_true h)]
    obtain ⟨s, e, c⟩ := foldR_inv (step := fun (s3 : ((List Int) × Int)) (size : Int) => ((modM s3.2 size) >>= fun z4 => appM s3.1 z4 >>= fun (row : List Int) => (fdivM s3.2 size) >>= fun (rest : Int) => R.ok (row, rest) : R ((List Int) × Int)))
      (fun j s => s.1.length = j ∧ j ≤ sizes.length ∧ ∀ (i : Nat) (z : Int), i < j → sizes[i]? = some z → ∃ d : Int, s.1[i]? = some d ∧ 0 ≤ d ∧ d < z) sizes 0 ([], cell - 1000000000000000000) ⟨rfl, Nat.zero_le _, fun i z hi => absurd hi (Nat.not_lt_zero i)⟩ (fun j s x c hx _ => by
        obtain ⟨c1, c2, c3⟩ := c
        rw [Nat.sub_zero] at hx
        obtain ⟨p1, p2⟩ := hs x (List.mem_of_getElem? hx)
        have hj : j < sizes.length := (List.getElem?_eq_some_iff.mp hx).1
        obtain ⟨k1, k2⟩ := digs_step c1 c3 hx (fmod_pos (x := s.2) p1)
        refine ⟨(s.1 ++ [s.2.fmod x], s.2.fdiv x), ?_, k1, hj, k2⟩
        rw [modM_ok (by omega)]
        simp only [R.ok_bind]
        rw [appM_ok (by omega)]
        simp only [R.ok_bind]
        rw [fdivM_ok (by omega) p2]
        rfl)
    refine ⟨s.1, ?_, ?_, ?_⟩
    · exact (congrArg (fun m : R (List Int × Int) => m >>= fun s5 => R.ok s5.1) e).trans rfl
    · rw [c.1, Nat.zero_add]
    · intro i z hz
      exact c.2.2 i z (by rw [Nat.zero_add]; exact (List.getElem?_eq_some_iff.mp hz).1) hz
  · rw [if_neg (by rw [decide_eq_false h]; exact Bool.false_ne_true)]
    rw [modM_ok (by decide)]
    simp only [R.ok_bind]
    rw [rngM_ok (by decide) (by decide) (by omega) (by omega)]
    simp only [R.ok_bind]
    have hn : (((sizes.length : Nat) : Int) - 0).toNat = sizes.length := by omega
    rw [hn]
    have h0 := fmod_pos (x := cell) (y := 2147483629) (by decide)
    obtain ⟨s, e, c⟩ := foldR_inv (step := fun (s6 : (Int × (List Int))) (k : Int) => ((((((mulM s6.1 (48271 : Int)) >>= fun x7 => (mulM (974711 : Int) k) >>= fun y8 => R.ok ((x7 + y8))) >>= fun x9 => R.ok ((x9 + (12345 : Int)))) >>= fun z => R.ok z) >>= fun x10 => (modM x10 (2147483647 : Int))) >>= fun (seed : Int) =>
      (((((fdivM seed (65537 : Int)) >>= fun x11 => R.ok ((x11 + (3 : Int)))) >>= fun y12 => (mulM seed y12)) >>= fun z => R.ok z) >>= fun x13 => (modM x13 (2147483629 : Int))) >>= fun (twice : Int) =>
      ((fdivM twice (19 : Int)) >>= fun x14 => (getM sizes k) >>= fun y15 => (modM x14 y15)) >>= fun z16 => appM s6.2 z16 >>= fun (row : List Int) =>
      R.ok (seed, row) : R (Int × (List Int))))
      (fun j s => (0 ≤ s.1 ∧ s.1 < 2147483647) ∧ s.2.length = j ∧ j ≤ sizes.length ∧ ∀ (i : Nat) (z : Int), i < j → sizes[i]? = some z → ∃ d : Int, s.2[i]? = some d ∧ 0 ≤ d ∧ d < z) (rangeL 0 sizes.length) 0 (cell.fmod 2147483629, []) ⟨⟨h0.1, by omega⟩, rfl, Nat.zero_le _, fun i z hi => absurd hi (Nat.not_lt_zero i)⟩ (fun j s x c hx _ => by
        obtain ⟨⟨b1, b2⟩, c1, c2, c3⟩ := c
        rw [Nat.sub_zero] at hx
        have hj : j < sizes.length := by
          have q := (List.getElem?_eq_some_iff.mp hx).1
          rw [rangeL_length] at q
          exact q
        rw [rangeL_get 0 sizes.length j hj] at hx
        have ex : x = (j : Int) := by
          have q := Option.some.inj hx
          omega
        subst ex
        have hz := List.getElem?_eq_getElem hj
        obtain ⟨p1, p2⟩ := hs sizes[j] (List.getElem_mem hj)
        have f1 := fmod_pos (x := s.1 * 48271 + 974711 * (j : Int) + 12345) (y := 2147483647) (by decide)
        have q1 : ((s.1 * 48271 + 974711 * (j : Int) + 12345).fmod 2147483647).natAbs < 2 ^ 31 := by omega
        have q2 : (((s.1 * 48271 + 974711 * (j : Int) + 12345).fmod 2147483647).fdiv 65537 + 3).natAbs < 2 ^ 32 := by
          rw [Int.fdiv_eq_ediv_of_nonneg _ (by decide)]
          omega
        obtain ⟨k1, k2⟩ := digs_step (d := ((((s.1 * 48271 + 974711 * (j : Int) + 12345).fmod 2147483647) * (((s.1 * 48271 + 974711 * (j : Int) + 12345).fmod 2147483647).fdiv 65537 + 3)).fmod 2147483629 |>.fdiv 19).fmod sizes[j]) c1 c3 hz (fmod_pos p1)
        refine ⟨((s.1 * 48271 + 974711 * (j : Int) + 12345).fmod 2147483647, s.2 ++ [((((s.1 * 48271 + 974711 * (j : Int) + 12345).fmod 2147483647) * (((s.1 * 48271 + 974711 * (j : Int) + 12345).fmod 2147483647).fdiv 65537 + 3)).fmod 2147483629 |>.fdiv 19).fmod sizes[j]]), ?_, ⟨f1.1, f1.2⟩, k1, hj, k2⟩
        rw [mulM_ok 31 16 (by omega) (by decide)]
        simp only [R.ok_bind]
        rw [mulM_ok 20 10 (by decide) (by omega)]
        simp only [R.ok_bind]
        rw [modM_ok (by decide)]
        simp only [R.ok_bind]
        rw [fdivM_sm (by decide) (by decide)]
        simp only [R.ok_bind]
        rw [mulM_ok 31 32 q1 q2]
        simp only [R.ok_bind]
        rw [modM_ok (by decide)]
        simp only [R.ok_bind]
        rw [fdivM_sm (by decide) (by decide)]
        simp only [R.ok_bind]
        rw [getM_nat hz]
        simp only [R.ok_bind]
        rw [modM_ok (by omega)]
        simp only [R.ok_bind]
        rw [appM_ok (by omega)]
        rfl)
    rw [rangeL_length] at c
    refine ⟨s.2, ?_, ?_, ?_⟩
    · exact (congrArg (fun m : R (Int × List Int) => m >>= fun s5 => R.ok s5.2) e).trans rfl
    · rw [c.2.1, Nat.zero_add]
    · intro i z hz
      exact c.2.2.2 i z (by rw [Nat.zero_add]; exact (List.getElem?_eq_some_iff.mp hz).1) hz
/-! ### gcd -/
def gstep (s1 : Int × Int) (turn : Int) : R (Out Empty (Int × Int) (Int × Int)) := ((if (decide (s1.2 = (0 : Int))) = true then
      R.ok (.brk (s1.1, s1.2))
    else
      (modM s1.1 s1.2) >>= fun (rest : Int) =>
      R.ok s1.2 >>= fun (one : Int) =>
      R.ok rest >>= fun (two : Int) =>
      R.ok (.nxt (one, two))) : R (Out Empty (Int × Int) (Int × Int)))
theorem gstop (x : Int) (as : List Int) (a : Int) : loopB gstep (x :: as) (a, 0) = .ok (a, 0) := rfl
theorem gturn (x : Int) (as : List Int) (a b : Nat) (hb : b ≠ 0) : loopB gstep (x :: as) ((a : Int), (b : Int)) = loopB gstep as ((b : Int), ((a % b : Nat) : Int)) := by
  have hb' : ¬ ((b : Int) = 0) := by omega
  have e : gstep ((a : Int), (b : Int)) x = .ok (.nxt ((b : Int), ((a % b : Nat) : Int))) := by
    unfold gstep
    simp only [decide_eq_false hb', Bool.false_eq_true, if_false]
    rw [modM_ok hb', Int.fmod_eq_emod_of_nonneg _ (Int.natCast_nonneg b)]
    rfl
  conv => lhs; unfold loopB
  rw [e]
  rfl
theorem gcd_loop : ∀ (n : Nat) (as : List Int) (a b : Nat), b < 2 ^ n → 2 * n + 1 ≤ as.length → loopB gstep as ((a : Int), (b : Int)) = .ok ((Nat.gcd a b : Int), 0) := by
  intro n
  induction n with
  | zero =>
    intro as a b hb hl
    match as, hl with
    | x :: as, _ =>
      have e : b = 0 := by omega
      subst e
      rw [Nat.gcd_zero_right]
      exact gstop x as a
  | succ n ih =>
    intro as a b hb hl
    match as, hl with
    | x :: y :: as, hl =>
      by_cases h0 : b = 0
      · subst h0
        rw [Nat.gcd_zero_right]
        exact gstop x _ a
      · rw [gturn x (y :: as) a b h0]
        by_cases h1 : a % b = 0
        · rw [h1]
          have e : Nat.gcd a b = b := by rw [Nat.gcd_comm, Nat.gcd_rec, h1, Nat.gcd_zero_left]
          rw [e]
          exact gstop y as b
        · rw [gturn y as b (a % b) h1]
          have h2 : b % (a % b) < 2 ^ n := by
            have l1 : a % b < b := Nat.mod_lt _ (by omega)
            have l2 : b % (a % b) < a % b := Nat.mod_lt _ (by omega)
            have l3 := Nat.div_add_mod b (a % b)
            have l4 : 1 ≤ b / (a % b) := (Nat.one_le_div_iff (by omega)).mpr (by omega)
            have l5 : a % b ≤ (a % b) * (b / (a % b)) := Nat.le_mul_of_pos_right _ (by omega)
            rw [Nat.pow_succ] at hb
            omega
          rw [ih as (a % b) (b % (a % b)) h2 (by simp only [List.length_cons] at hl; omega)]
          have e : Nat.gcd (a % b) (b % (a % b)) = Nat.gcd a b := by
            rw [Nat.gcd_comm (a % b), ← Nat.gcd_rec (a % b) b, Nat.gcd_comm a b, Nat.gcd_rec b a]
          rw [e]
theorem law_gcd_ok (one two : Int) (h : two.natAbs < 2 ^ 49999) : law_gcd one two = .ok ((Int.gcd one two : Nat) : Int) := by
  have ab : ∀ z : Int, (if z < 0 then -z else z) = ((z.natAbs : Nat) : Int) := fun z => by split <;> omega
  have e : law_gcd one two = ((rngM 0 100000) >>= fun as => loopB gstep as ((if one < 0 then -one else one), (if two < 0 then -two else two)) >>= fun s2 => R.ok s2.1) := rfl
  rw [e, ab, ab, rngM_ok (by decide) (by decide) (by decide) (by decide)]
  simp only [R.ok_bind]
  rw [gcd_loop 49999 _ _ _ h (by rw [rangeL_length]; decide)]
  rfl
end Zk
set_option maxHeartbeats 4000000
/-! # Zk: lists by their items, sums -/
namespace Zk
open PySem PySem.Spec PyProof.Rows L2
/-! ### lists by their items -/
section
variable {α β γ : Type} {n : Nat} {f g : Nat → α}
def vec (n : Nat) (f : Nat → α) : List α := (List.range n).map f
def upd1 (f : Nat → α) (i : Nat) (z : α) : Nat → α := fun k => if k = i then z else f k
@[simp] theorem vec_length : (vec n f).length = n := by simp [vec]
theorem vec_get {i : Nat} (h : i < n) : (vec n f)[i]? = some (f i) := by simp [vec, h]
theorem vec_get' {i : Nat} {x : α} (h : (vec n f)[i]? = some x) : i < n ∧ x = f i := by
  have hi : i < n := by
    have := (List.getElem?_eq_some_iff.mp h).1
    simpa using this
  rw [vec_get hi] at h
  exact ⟨hi, (Option.some.inj h).symm⟩
theorem vec_ext (h : ∀ k, k < n → f k = g k) : vec n f = vec n g := List.map_congr_left fun k hk => h k (List.mem_range.mp hk)
theorem vec_of (l : List α) (d : α) : l = vec l.length fun i => l.getD i d := by
  apply List.ext_getElem?
  intro i
  by_cases h : i < l.length
  · rw [vec_get h, List.getD_eq_getElem?_getD, List.getElem?_eq_getElem h]
    rfl
  · rw [List.getElem?_eq_none (by omega), List.getElem?_eq_none (by simpa using h)]
theorem vec_zero : vec 0 f = [] := rfl
theorem vec_succ : vec (n + 1) f = f 0 :: vec n fun k => f (k + 1) := by
  unfold vec
  rw [List.range_succ_eq_map, List.map_cons, List.map_map]
  rfl
theorem vec_snoc : vec (n + 1) f = vec n f ++ [f n] := by
  unfold vec
  rw [List.range_succ, List.map_append]
  rfl
theorem vec_set {i : Nat} {z : α} : (vec n f).set i z = vec n (upd1 f i z) := by
  apply List.ext_getElem?
  intro k
  by_cases h : k < n
  · rw [vec_get h]
    unfold upd1
    by_cases e : k = i
    · subst e
      rw [if_pos rfl, List.getElem?_set_self (by simpa using h)]
    · rw [if_neg e, List.getElem?_set_ne (Ne.symm e), vec_get h]
  · rw [List.getElem?_eq_none (by simpa using h), List.getElem?_eq_none (by simpa using h)]
theorem vec_map {h : α → β} : (vec n f).map h = vec n fun k => h (f k) := by unfold vec; rw [List.map_map]; rfl
theorem vec_mem {x : α} : x ∈ vec n f ↔ ∃ k, k < n ∧ f k = x := by
  unfold vec
  rw [List.mem_map]
  exact ⟨fun ⟨k, h, e⟩ => ⟨k, List.mem_range.mp h, e⟩, fun ⟨k, h, e⟩ => ⟨k, List.mem_range.mpr h, e⟩⟩
theorem vec_append {m : Nat} : vec n f ++ vec m g = vec (n + m) fun k => if k < n then f k else g (k - n) := by
  apply List.ext_getElem?
  intro k
  by_cases h : k < n
  · rw [List.getElem?_append_left (by simpa using h), vec_get h, vec_get (by omega), if_pos h]
  · rw [List.getElem?_append_right (by simpa using h), vec_length]
    by_cases h2 : k - n < m
    · rw [vec_get h2, vec_get (by omega), if_neg h]
    · rw [List.getElem?_eq_none (by simpa using h2), List.getElem?_eq_none (by simp; omega)]
theorem vec_inj (h : vec n f = vec n g) {k : Nat} (hk : k < n) : f k = g k := by
  have e := congrArg (fun l => l[k]?) h
  simp only [vec_get hk] at e
  exact Option.some.inj e
/-! ### by place -/
theorem ixN_nat {n i : Nat} (h : i < n) : ixN n (i : Int) = some i := by
  unfold ixN
  rw [if_pos (by omega), if_pos (by omega), Int.toNat_natCast]
theorem getM_vec {i : Nat} (h : i < n) : getM (vec n f) (i : Int) = .ok (f i) := getM_nat (vec_get h)
theorem getM_v {j : Int} (i : Nat) (e : j = (i : Int)) (h : i < n) : getM (vec n f) j = .ok (f i) := by rw [e]; exact getM_vec h
theorem setM_vec {i : Nat} {z : α} (h : i < n) : setM (vec n f) (i : Int) z = .ok (vec n (upd1 f i z)) := by
  unfold setM
  rw [vec_length, ixN_nat h]
  show R.ok ((vec n f).set i z) = _
  rw [vec_set]
theorem setM_v {j : Int} {z : α} (i : Nat) (e : j = (i : Int)) (h : i < n) : setM (vec n f) j z = .ok (vec n (upd1 f i z)) := by rw [e]; exact setM_vec h
theorem rangeL_vec : ∀ (n : Nat) (lo : Int), rangeL lo n = vec n fun k => lo + (k : Int)
  | 0, _ => rfl
  | n + 1, lo => by
    rw [vec_succ, show rangeL lo (n + 1) = lo :: rangeL (lo + 1) n from rfl, rangeL_vec n (lo + 1)]
    congr 1
    · omega
    · exact vec_ext fun k _ => by omega
theorem rng0 (n : Nat) (h : n < 1000000000) : rngM 0 (n : Int) = .ok (vec n fun k => (k : Int)) := by
  rw [rngM_ok (by decide) (by decide) (by omega) (by omega), rangeL_vec]
  congr 1
  rw [show ((n : Int) - 0).toNat = n by omega]
  exact vec_ext fun k _ => by omega
theorem rng2 (a b : Nat) (ha : a < 1000000000) (hb : b < 1000000000) : rngM (a : Int) (b : Int) = .ok (vec (b - a) fun k => ((a + k : Nat) : Int)) := by
  rw [rngM_ok (by omega) (by omega) (by omega) (by omega), rangeL_vec]
  congr 1
  rw [show ((b : Int) - (a : Int)).toNat = b - a by omega]
  exact vec_ext fun k _ => by omega
/-! ### comprehensions, loops -/
theorem mapR_vec {h : α → R β} : ∀ {n : Nat} {a : Nat → α} {b : Nat → β}, (∀ k, k < n → h (a k) = .ok (b k)) → mapR h (vec n a) = .ok (vec n b)
  | 0, _, _, _ => rfl
  | n + 1, a, b, k => by
    rw [vec_succ, vec_succ]
    show (R.nox (h (a 0)) >>= fun y => mapR h (vec n fun k => a (k + 1)) >>= fun ys => .ok (y :: ys)) = _
    rw [k 0 (by omega), mapR_vec (b := fun k => b (k + 1)) fun i hi => k (i + 1) (by omega)]
    rfl
theorem mapM_vec {h : α → R β} {a : Nat → α} {b : Nat → β} (k : ∀ k, k < n → h (a k) = .ok (b k)) (hn : n < 16000000) : mapM h (vec n a) = .ok (vec n b) := by
  unfold mapM
  rw [vec_length, if_pos hn]
  exact mapR_vec k
theorem mapM_list {h : α → R β} (b : α → β) (l : List α) (k : ∀ a ∈ l, h a = .ok (b a)) (hn : l.length < 16000000) : mapM h l = .ok (l.map b) := by
  unfold mapM
  rw [if_pos hn]
  clear hn
  induction l with
  | nil => rfl
  | cons a as ih =>
    show (R.nox (h a) >>= fun y => mapR h as >>= fun ys => .ok (y :: ys)) = _
    rw [k a List.mem_cons_self, ih fun x hx => k x (List.mem_cons_of_mem _ hx)]
    rfl
theorem foldR_vec {S : Type} {step : S → α → R S} {a : Nat → α} (C : Nat → S → Prop) (n : Nat) (s : S) (h0 : C 0 s) (h : ∀ k, k < n → ∀ s, C k s → ∃ s', step s (a k) = .ok s' ∧ C (k + 1) s') : ∃ s', foldR step (vec n a) s = .ok s' ∧ C n s' := by
  obtain ⟨s', e, c⟩ := foldR_inv (step := step) (fun i s => C i s) (vec n a) 0 s h0 fun j s x c hx _ => by
    rw [Nat.sub_zero] at hx
    obtain ⟨hj, rfl⟩ := vec_get' hx
    exact h j hj s c
  rw [vec_length, Nat.zero_add] at c
  exact ⟨s', e, c⟩
/-- a loop whose states are known -/
theorem foldR_seq {S : Type} {step : S → α → R S} {a : Nat → α} (T : Nat → S) (n : Nat) (h : ∀ k, k < n → step (T k) (a k) = .ok (T (k + 1))) : foldR step (vec n a) (T 0) = .ok (T n) := by
  obtain ⟨s', e, c⟩ := foldR_vec (fun k s => s = T k) n (T 0) rfl fun k hk s hs => ⟨_, by rw [hs]; exact h k hk, rfl⟩
  rw [e, c]
theorem loopR_inv {S : Type} {step : S → α → R (Out β S S)} {a : Nat → α} (C : Nat → S → Prop) (Q : β → Prop) (n : Nat) : ∀ (i : Nat) (s : S), i ≤ n → C i s → (∀ k, i ≤ k → k < n → ∀ s, C k s → (∃ s', step s (a k) = .ok (.nxt s') ∧ C (k + 1) s') ∨ ∃ b, step s (a k) = .ok (.ret b) ∧ Q b) →
    (∃ s', loopR step ((vec n a).drop i) s = .ok (.go s') ∧ C n s') ∨ ∃ b, loopR step ((vec n a).drop i) s = .ok (.out b) ∧ Q b := by
  intro i
  induction d : n - i generalizing i with
  | zero =>
    intro s hi c h
    have e : i = n := by omega
    subst e
    left
    refine ⟨s, ?_, c⟩
    rw [List.drop_eq_nil_of_le (by simp)]
    rfl
  | succ m ih =>
    intro s hi c h
    have hlt : i < n := by omega
    have hl : i < (vec n a).length := by simpa using hlt
    have hx : (vec n a)[i] = a i := by
      have := vec_get (f := a) hlt
      rw [List.getElem?_eq_getElem hl] at this
      exact Option.some.inj this
    rw [List.drop_eq_getElem_cons hl, hx]
    rcases h i (Nat.le_refl _) hlt s c with ⟨s', e, c'⟩ | ⟨b, e, q⟩
    · rcases ih (i + 1) (by omega) s' (by omega) c' (fun k hk => h k (by omega)) with ⟨s2, e2, c2⟩ | ⟨b, e2, q⟩
      · left
        refine ⟨s2, ?_, c2⟩
        show (step s (a i) >>= _) = _
        rw [e]
        exact e2
      · right
        refine ⟨b, ?_, q⟩
        show (step s (a i) >>= _) = _
        rw [e]
        exact e2
    · right
      refine ⟨b, ?_, q⟩
      show (step s (a i) >>= _) = _
      rw [e]
      rfl
theorem loopR_vec {S : Type} {step : S → α → R (Out β S S)} {a : Nat → α} (C : Nat → S → Prop) (Q : β → Prop) (n : Nat) (s : S) (h0 : C 0 s) (h : ∀ k, k < n → ∀ s, C k s → (∃ s', step s (a k) = .ok (.nxt s') ∧ C (k + 1) s') ∨ ∃ b, step s (a k) = .ok (.ret b) ∧ Q b) :
    (∃ s', loopR step (vec n a) s = .ok (.go s') ∧ C n s') ∨ ∃ b, loopR step (vec n a) s = .ok (.out b) ∧ Q b :=
  loopR_inv C Q n 0 s (Nat.zero_le _) h0 fun k _ => h k
/-! ### joined lists -/
theorem catM_vec {m : Nat} (h : n + m < 16000000) : catM (vec n f) (vec m g) = .ok (vec (n + m) fun k => if k < n then f k else g (k - n)) := by
  unfold catM
  rw [vec_length, vec_length, R.guard_ok h, vec_append]
theorem catM_ok {xs ys : List α} (h : xs.length + ys.length < 16000000) : catM xs ys = .ok (xs ++ ys) := R.guard_ok h
theorem flatR_vec {γ δ : Type} {g : α → R (List γ)} {h : α → γ → R δ} {a : Nat → α} {b : Nat → List γ} {c : Nat → List δ} (h1 : ∀ k, k < n → g (a k) = .ok (b k)) (h2 : ∀ k, k < n → mapR (h (a k)) (b k) = .ok (c k)) : flatR g h (vec n a) = .ok ((vec n c).flatten) := by
  induction n generalizing a b c with
  | zero => rfl
  | succ n ih =>
    rw [vec_succ, vec_succ]
    show (R.nox (g (a 0)) >>= fun ys => mapR (h (a 0)) ys >>= fun zs => flatR g h (vec n fun k => a (k + 1)) >>= fun ws => .ok (zs ++ ws)) = _
    rw [h1 0 (by omega)]
    show (mapR (h (a 0)) (b 0) >>= fun zs => flatR g h (vec n fun k => a (k + 1)) >>= fun ws => .ok (zs ++ ws)) = _
    rw [h2 0 (by omega), ih (fun k hk => h1 (k + 1) (by omega)) (fun k hk => h2 (k + 1) (by omega))]
    rfl
theorem flat_vec {m : Nat} {F : Nat → Nat → α} : (vec n fun i => vec m (F i)).flatten = vec (n * m) fun k => F (k / m) (k % m) := by
  induction n generalizing F with
  | zero =>
    rw [Nat.zero_mul]
    rfl
  | succ n ih =>
    rw [vec_succ, List.flatten_cons, ih (F := fun k => F (k + 1)), vec_append, Nat.succ_mul, Nat.add_comm (n * m) m]
    refine vec_ext fun k hk => ?_
    by_cases h : k < m
    · rw [if_pos h, Nat.div_eq_of_lt h, Nat.mod_eq_of_lt h]
    · rw [if_neg h]
      have hm : 0 < m := by
        rcases Nat.eq_zero_or_pos m with z | z
        · subst z; omega
        · exact z
      have e : k = (k - m) + m := by omega
      rw [show k / m = (k - m) / m + 1 by conv => lhs; rw [e, Nat.add_div_right _ hm], show k % m = (k - m) % m by conv => lhs; rw [e, Nat.add_mod_right]]
theorem cutA_vec {a m : Nat} (h : a + m ≤ n) : cutA (vec n f) (some (a : Int)) (some ((a : Int) + (m : Int))) = vec m fun k => f (a + k) := by
  unfold cutA
  rw [vec_length, show ((a : Int) + (m : Int)) = ((a + m : Nat) : Int) by omega, HT.sIx_nat, HT.sIx_nat, Nat.min_eq_left h, Nat.min_eq_left (show a ≤ n by omega)]
  apply List.ext_getElem?
  intro k
  rw [List.getElem?_take]
  by_cases q : k < m
  · rw [if_pos (by omega), List.getElem?_drop, vec_get (by omega), vec_get q]
  · rw [if_neg (by omega), List.getElem?_eq_none (by simpa using q)]
theorem zip_vec {h : Nat → β} : List.zip (vec n f) (vec n h) = vec n fun k => (f k, h k) := by
  apply List.ext_getElem?
  intro k
  by_cases q : k < n
  · rw [vec_get q]
    exact List.getElem?_zip_eq_some.mpr ⟨vec_get q, vec_get q⟩
  · rw [List.getElem?_eq_none (by simp; omega), List.getElem?_eq_none (by simpa using q)]
theorem enum_vec : ∀ (n : Nat) (i : Int) (f : Nat → α), enumL i (vec n f) = vec n fun k => (i + (k : Int), f k)
  | 0, _, _ => rfl
  | n + 1, i, f => by
    rw [vec_succ, vec_succ, show enumL i (f 0 :: vec n fun k => f (k + 1)) = (i, f 0) :: enumL (i + 1) (vec n fun k => f (k + 1)) from rfl, enum_vec n (i + 1)]
    congr 1
    · simp
    · exact vec_ext fun k _ => by congr 1; omega
end
/-! ### matrices -/
section
variable {α : Type} {n m : Nat}
def mat (n m : Nat) (M : Nat → Nat → α) : List (List α) := vec n fun i => vec m (M i)
def upd2 (M : Nat → Nat → α) (i j : Nat) (z : α) : Nat → Nat → α := fun a b => if a = i ∧ b = j then z else M a b
theorem mat_ext {M N : Nat → Nat → α} (h : ∀ i, i < n → ∀ j, j < m → M i j = N i j) : mat n m M = mat n m N := vec_ext fun i hi => vec_ext fun j hj => h i hi j hj
theorem mat_inj {M N : Nat → Nat → α} (h : mat n m M = mat n m N) {i j : Nat} (hi : i < n) (hj : j < m) : M i j = N i j := vec_inj (vec_inj h hi) hj
theorem mat_get {M : Nat → Nat → α} {i : Nat} (hi : i < n) : getM (mat n m M) (i : Int) = .ok (vec m (M i)) := getM_vec hi
/-- t[i][j] = z -/
theorem mat_set {M : Nat → Nat → α} {i j : Nat} {z : α} (hi : i < n) (hj : j < m) : (getM (mat n m M) (i : Int) >>= fun r => setM r (j : Int) z >>= fun r' => setM (mat n m M) (i : Int) r') = .ok (mat n m (upd2 M i j z)) := by
  rw [mat_get hi]
  show (setM (vec m (M i)) (j : Int) z >>= fun r' => setM (mat n m M) (i : Int) r') = _
  rw [setM_vec hj]
  show setM (mat n m M) (i : Int) _ = _
  unfold mat
  rw [setM_vec hi]
  congr 1
  refine vec_ext fun a _ => ?_
  unfold upd1 upd2
  by_cases e : a = i
  · subst e
    rw [if_pos rfl]
    refine vec_ext fun b _ => ?_
    by_cases q : b = j
    · rw [if_pos q, if_pos ⟨rfl, q⟩]
    · rw [if_neg q, if_neg fun z => q z.2]
  · rw [if_neg e]
    refine vec_ext fun b _ => ?_
    rw [if_neg fun z => e z.1]
end
/-! ### sums -/
def sm (n : Nat) (f : Nat → Int) : Int := (vec n f).sum
section
variable {n : Nat} {f g : Nat → Int}
theorem sum_snoc (l : List Int) (x : Int) : (l ++ [x]).sum = l.sum + x := by
  induction l with
  | nil => simp
  | cons a as ih =>
    rw [List.cons_append, List.sum_cons, List.sum_cons, ih, Int.add_assoc]
@[simp] theorem sm_zero : sm 0 f = 0 := rfl
theorem sm_succ : sm (n + 1) f = sm n f + f n := by
  unfold sm
  rw [vec_snoc, sum_snoc]
theorem sm_ext (h : ∀ k, k < n → f k = g k) : sm n f = sm n g := by
  unfold sm
  rw [vec_ext h]
theorem sm_add : sm n (fun k => f k + g k) = sm n f + sm n g := by
  induction n with
  | zero => rfl
  | succ n ih => rw [sm_succ, sm_succ, sm_succ, ih]; omega
theorem sm_sub : sm n (fun k => f k - g k) = sm n f - sm n g := by
  induction n with
  | zero => rfl
  | succ n ih => rw [sm_succ, sm_succ, sm_succ, ih]; omega
theorem sm_mul (c : Int) : sm n (fun k => c * f k) = c * sm n f := by
  induction n with
  | zero => simp
  | succ n ih => rw [sm_succ, sm_succ, ih, Int.mul_add]
theorem sm_mulr (c : Int) : sm n (fun k => f k * c) = sm n f * c := by
  induction n with
  | zero => simp
  | succ n ih => rw [sm_succ, sm_succ, ih, Int.add_mul]
theorem sm_nil (h : ∀ k, k < n → f k = 0) : sm n f = 0 := by
  induction n with
  | zero => rfl
  | succ n ih => rw [sm_succ, ih fun k hk => h k (by omega), h n (by omega)]; rfl
theorem sm_swap {m : Nat} (F : Nat → Nat → Int) : sm n (fun i => sm m fun j => F i j) = sm m fun j => sm n fun i => F i j := by
  induction n with
  | zero =>
    rw [sm_zero]
    exact (sm_nil fun _ _ => rfl).symm
  | succ n ih =>
    rw [sm_succ, ih, ← sm_add]
    exact sm_ext fun j _ => sm_succ.symm
theorem sm_split (a b : Nat) : sm (a + b) f = sm a f + sm b fun k => f (a + k) := by
  induction b with
  | zero => rw [Nat.add_zero, sm_zero, Int.add_zero]
  | succ b ih => rw [← Nat.add_assoc, sm_succ, ih, sm_succ, Int.add_assoc]
end
/-! ### sizes -/
def Sz (n : Nat) (x : Int) : Prop := x.natAbs < 2 ^ n
theorem Sz.up {m n : Nat} {x : Int} (h : Sz m x) (l : m ≤ n := by decide) : Sz n x := Nat.lt_of_lt_of_le h (Nat.pow_le_pow_right (by decide) l)
theorem Sz.neg {n : Nat} {x : Int} (h : Sz n x) : Sz n (-x) := by unfold Sz; rw [Int.natAbs_neg]; exact h
theorem Sz.mul {m n : Nat} {x y : Int} (h : Sz m x) (k : Sz n y) : Sz (m + n) (x * y) := by
  unfold Sz
  rw [Int.natAbs_mul, Nat.pow_add]
  exact Nat.mul_lt_mul_of_lt_of_lt h k
theorem Sz.add {n : Nat} {x y : Int} (h : Sz n x) (k : Sz n y) : Sz (n + 1) (x + y) := by
  unfold Sz at *
  rw [Nat.pow_succ]
  have := Int.natAbs_add_le x y
  omega
theorem Sz.sub {n : Nat} {x y : Int} (h : Sz n x) (k : Sz n y) : Sz (n + 1) (x - y) := by
  rw [Int.sub_eq_add_neg]
  exact h.add k.neg
theorem Sz.zero {n : Nat} : Sz n 0 := by unfold Sz; exact Nat.two_pow_pos n
theorem Sz.sm {n b : Nat} {f : Nat → Int} (h : ∀ k, k < n → Sz b (f k)) (hn : n ≤ 16) : Sz (b + 4) (sm n f) := by
  have key : ∀ n, (∀ k, k < n → Sz b (f k)) → (Zk.sm n f).natAbs ≤ n * (2 ^ b - 1) := by
    intro n
    induction n with
    | zero => intro _; simp
    | succ n ih =>
      intro h
      rw [sm_succ, Nat.succ_mul]
      have h1 := ih fun k hk => h k (by omega)
      have h2 := h n (by omega)
      unfold Sz at h2
      have := Int.natAbs_add_le (Zk.sm n f) (f n)
      omega
  have k := key n h
  unfold Sz
  have p : 0 < 2 ^ b := Nat.two_pow_pos b
  have : n * (2 ^ b - 1) ≤ 16 * (2 ^ b - 1) := Nat.mul_le_mul_right _ hn
  rw [Nat.pow_add]
  omega
theorem mulS {m n : Nat} {x y : Int} (h : Sz m x) (k : Sz n y) (l : m + n < 100000000 := by decide) : mulM x y = .ok (x * y) := mulM_ok m n h k l
theorem fdivS {n : Nat} {x y : Int} (h : y ≠ 0) (k : Sz n y) (l : n < 9000 := by decide) : fdivM x y = .ok (x.fdiv y) := fdivM_ok h (Nat.lt_of_le_of_lt (log2_le k) l)
theorem szOf {n : Nat} {x : Int} (h1 : -(2 ^ n : Nat) < x) (h2 : x < (2 ^ n : Nat)) : Sz n x := by unfold Sz; omega
end Zk
set_option maxHeartbeats 4000000
/-! # Zk: elimination: how large its numbers grow; what it says of the form -/
namespace Zk
open PySem
/-! ### expansion along a row -/
def lap (r : Nat → Int) : (List Nat → Int) → List Nat → Int
  | _, [] => 0
  | F, c :: cs => r c * F cs - lap r (fun ds => F (c :: ds)) cs
section
variable {r s : Nat → Int} {F G : List Nat → Int}
theorem lap_lin (a b : Int) : ∀ (cs : List Nat) (F G : List Nat → Int), lap r (fun ds => a * F ds + b * G ds) cs = a * lap r F cs + b * lap r G cs
  | [], _, _ => by simp [lap]
  | c :: cs, F, G => by
    show r c * (a * F cs + b * G cs) - lap r (fun ds => a * F (c :: ds) + b * G (c :: ds)) cs = a * (r c * F cs - lap r (fun ds => F (c :: ds)) cs) + b * (r c * G cs - lap r (fun ds => G (c :: ds)) cs)
    rw [lap_lin a b cs (fun ds => F (c :: ds)) (fun ds => G (c :: ds))]
    simp only [Int.mul_add, Int.mul_sub]
    rw [Int.mul_left_comm (r c) a, Int.mul_left_comm (r c) b]
    omega
theorem lap_smul (a : Int) (cs : List Nat) (F : List Nat → Int) : lap r (fun ds => a * F ds) cs = a * lap r F cs := by
  have h := lap_lin (r := r) a 0 cs F F
  simp only [Int.zero_mul, Int.add_zero] at h
  exact h
theorem lap_row (a b : Int) : ∀ (cs : List Nat) (F : List Nat → Int), lap (fun j => a * r j + b * s j) F cs = a * lap r F cs + b * lap s F cs
  | [], _ => by simp [lap]
  | c :: cs, F => by
    show (a * r c + b * s c) * F cs - lap (fun j => a * r j + b * s j) (fun ds => F (c :: ds)) cs = a * (r c * F cs - lap r (fun ds => F (c :: ds)) cs) + b * (s c * F cs - lap s (fun ds => F (c :: ds)) cs)
    rw [lap_row a b cs]
    simp only [Int.add_mul, Int.mul_sub, Int.mul_assoc]
    omega
theorem lap_anti : ∀ (cs : List Nat) (F : List Nat → Int), lap r (lap s F) cs = - lap s (lap r F) cs
  | [], _ => by simp [lap]
  | c :: cs, F => by
    have e1 : (fun ds => lap s F (c :: ds)) = fun ds => s c * F ds + (-1) * lap s (fun es => F (c :: es)) ds := funext fun ds => by
      show s c * F ds - lap s (fun es => F (c :: es)) ds = _
      omega
    have e2 : (fun ds => lap r F (c :: ds)) = fun ds => r c * F ds + (-1) * lap r (fun es => F (c :: es)) ds := funext fun ds => by
      show r c * F ds - lap r (fun es => F (c :: es)) ds = _
      omega
    show r c * lap s F cs - lap r (fun ds => lap s F (c :: ds)) cs = -(s c * lap r F cs - lap s (fun ds => lap r F (c :: ds)) cs)
    rw [e1, e2, lap_lin, lap_lin, lap_anti cs fun es => F (c :: es)]
    omega
theorem lap_self (cs : List Nat) (F : List Nat → Int) : lap r (lap r F) cs = 0 := by
  have := lap_anti (r := r) (s := r) cs F
  omega
/-- nothing but the last column counts -/
theorem lap_last (j : Nat) : ∀ (cs : List Nat) (F : List Nat → Int), (∀ c ∈ cs, r c = 0) → ∃ e : Int, (e = 1 ∨ e = -1) ∧ lap r F (cs ++ [j]) = e * (r j * F cs)
  | [], F, _ => ⟨1, .inl rfl, by show r j * F [] - 0 = _; omega⟩
  | c :: cs, F, h => by
    obtain ⟨e, he, q⟩ := lap_last j cs (fun ds => F (c :: ds)) fun x hx => h x (List.mem_cons_of_mem _ hx)
    refine ⟨-e, by omega, ?_⟩
    show r c * F (cs ++ [j]) - lap r (fun ds => F (c :: ds)) (cs ++ [j]) = _
    rw [q, h c List.mem_cons_self, Int.zero_mul, Int.neg_mul]
    omega
theorem lap_bound (B C : Nat) : ∀ (cs : List Nat) (F : List Nat → Int), (∀ c ∈ cs, (r c).natAbs ≤ B) → (∀ ds : List Nat, ds.length + 1 = cs.length → (∀ d ∈ ds, d ∈ cs) → (F ds).natAbs ≤ C) → (lap r F cs).natAbs ≤ cs.length * (B * C)
  | [], _, _, _ => by simp [lap]
  | c :: cs, F, h, k => by
    show (r c * F cs - lap r (fun ds => F (c :: ds)) cs).natAbs ≤ (cs.length + 1) * (B * C)
    have h1 : (r c * F cs).natAbs ≤ B * C := by
      rw [Int.natAbs_mul]
      exact Nat.mul_le_mul (h c List.mem_cons_self) (k cs rfl fun d hd => List.mem_cons_of_mem _ hd)
    have h2 := lap_bound B C cs (fun ds => F (c :: ds)) (fun x hx => h x (List.mem_cons_of_mem _ hx)) fun ds hl hd => k (c :: ds) (by simp only [List.length_cons]; omega) fun d q => by
      rcases List.mem_cons.mp q with q | q
      · rw [q]; exact List.mem_cons_self
      · exact List.mem_cons_of_mem _ (hd d q)
    rw [Nat.succ_mul]
    omega
end
/-! ### the form -/
def qf (n : Nat) (E : Nat → Nat → Int) (x : Nat → Int) : Int := sm n fun i => sm n fun j => E i j * (x i * x j)
structure El (n b : Nat) (M : Nat → Nat → Int) (k : Nat) (E : Nat → Nat → Int) : Prop where
  sym : ∀ i j, E i j = E j i
  low : ∀ i j, i < k → E i j = 0
  top : ∀ i j, n ≤ i → E i j = 0
  back : (∀ x, 0 ≤ qf n E x) → ∀ x, 0 ≤ qf n M x
  rel : ∃ (ls : List Nat) (G G0 : List Nat → Int) (a c σ τ : Int), a ≠ 0 ∧ c ≠ 0 ∧ σ ≠ 0 ∧ τ ≠ 0 ∧ ls.length ≤ k ∧ (∀ x ∈ ls, x < k ∧ x < n) ∧ (∀ cs, a * G cs = c * G0 cs) ∧ (∀ i, k ≤ i → ∀ cs, σ * lap (E i) G cs = τ * lap (M i) G cs) ∧ G ls ≠ 0 ∧
    ∀ cs : List Nat, cs.length = ls.length → (∀ x ∈ cs, x < n) → (G0 cs).natAbs ≤ 2 ^ (ls.length * (b + 4))
section
variable {n b k : Nat} {M E E' : Nat → Nat → Int} {p s : Int}
theorem El.start (hs : ∀ i j, M i j = M j i) (ht : ∀ i j, n ≤ i → M i j = 0) : El n b M 0 M :=
  ⟨hs, fun i j h => absurd h (Nat.not_lt_zero i), ht, fun h => h, [], fun l => match l with | [] => 1 | _ => 0, fun l => match l with | [] => 1 | _ => 0, 1, 1, 1, 1, by decide, by decide, by decide, by decide, Nat.le_refl _, fun x hx => by simp at hx, fun _ => rfl, fun _ _ _ => rfl, by decide, fun cs h _ => by
    cases cs with
    | nil => simp
    | cons _ _ => simp at h⟩
theorem El.skip (h : El n b M k E) (hz : ∀ j, E k j = 0) : El n b M (k + 1) E := by
  obtain ⟨ls, G, G0, a, c, σ, τ, h1, h2, h3, h4, h5, h6, h7, h8, h9, h10⟩ := h.rel
  refine ⟨h.sym, fun i j hi => ?_, h.top, h.back, ls, G, G0, a, c, σ, τ, h1, h2, h3, h4, by omega, fun x hx => ⟨by have := (h6 x hx).1; omega, (h6 x hx).2⟩, h7, fun i hi => h8 i (by omega), h9, h10⟩
  by_cases e : i = k
  · rw [e]; exact hz j
  · exact h.low i j (by omega)
theorem four (m : Nat) (h : m + 1 ≤ 16) (b f : Nat) : (m + 1) * (2 ^ b * 2 ^ f) ≤ 2 ^ (f + (b + 4)) := by
  rw [← Nat.pow_add, show f + (b + 4) = 4 + (b + f) by omega, Nat.pow_add 2 4]
  exact Nat.mul_le_mul_right _ h
theorem El.step (h : El n b M k E) (hk : k < n) (hn : n ≤ 16) (hM : ∀ i j, (M i j).natAbs ≤ 2 ^ b) (hp : p = E k k) (p0 : 0 < p) (s0 : 0 < s) (he : ∀ i j, s * E' i j = p * E i j - E k i * E k j) : El n b M (k + 1) E' := by
  obtain ⟨ls, G, G0, a, c, σ, τ, h1, h2, h3, h4, h5, h6, h7, h8, h9, h10⟩ := h.rel
  have z : ∀ i j, s * E' i j = 0 → E' i j = 0 := fun i j q => (Int.mul_eq_zero.mp q).resolve_left (by omega)
  have kz : ∀ i, i < k → E k i = 0 := fun i hi => by rw [h.sym]; exact h.low i k hi
  have low : ∀ i j, i < k + 1 → E' i j = 0 := fun i j hi => z i j (by
    rw [he]
    by_cases e : i = k
    · rw [e, hp]; omega
    · rw [h.low i j (by omega), kz i (by omega)]; simp)
  have sym : ∀ i j, E' i j = E' j i := fun i j => by
    have e1 := he i j
    have e2 := he j i
    rw [h.sym j i, Int.mul_comm (E k j) (E k i), ← e1] at e2
    exact (Int.eq_of_mul_eq_mul_left (by omega) e2).symm
  have top : ∀ i j, n ≤ i → E' i j = 0 := fun i j hi => z i j (by
    rw [he, h.top i j hi, h.sym k i, h.top i k hi]; simp)
  have rowE : ∀ i, (fun j => s * E' i j) = fun j => p * E i j + (-E k i) * E k j := fun i => funext fun j => by
    rw [he, Int.neg_mul]
    omega
  refine ⟨sym, low, top, fun hx => h.back fun x => ?_, ls ++ [k], lap (E k) G, lap (M k) G0, σ * a, τ * c, s * σ, p * τ, Int.mul_ne_zero h3 h1, Int.mul_ne_zero h4 h2, Int.mul_ne_zero (by omega) h3, Int.mul_ne_zero (by omega) h4, ?_, ?_, ?_, ?_, ?_, ?_⟩
  · -- p Q = s Q' + (..)^2
    have e : p * qf n E x = s * qf n E' x + sm n (fun i => E k i * x i) * sm n (fun j => E k j * x j) := by
      unfold qf
      rw [← sm_mul, ← sm_mul, ← sm_mulr, ← sm_add]
      refine sm_ext fun i _ => ?_
      rw [← sm_mul, ← sm_mul, ← sm_mul, ← sm_add]
      refine sm_ext fun j _ => ?_
      rw [← Int.mul_assoc s, he i j, Int.sub_mul, ← Int.mul_assoc p]
      have : E k i * x i * (E k j * x j) = E k i * E k j * (x i * x j) := by ac_rfl
      rw [this]
      omega
    have e1 := hx x
    have e2 : 0 ≤ sm n (fun i => E k i * x i) * sm n (fun j => E k j * x j) := by
      rcases Int.le_total 0 (sm n fun i => E k i * x i) with q | q
      · exact Int.mul_nonneg q q
      · exact Int.mul_nonneg_of_nonpos_of_nonpos q q
    have e3 : 0 ≤ s * qf n E' x := Int.mul_nonneg (Int.le_of_lt s0) e1
    by_cases q : 0 ≤ qf n E x
    · exact q
    · have := Int.mul_neg_of_pos_of_neg p0 (Int.not_le.mp q)
      omega
  · rw [List.length_append, List.length_singleton]; omega
  · intro x hx
    rcases List.mem_append.mp hx with q | q
    · exact ⟨by have := (h6 x q).1; omega, (h6 x q).2⟩
    · rw [List.mem_singleton.mp q]; exact ⟨Nat.lt_succ_self _, hk⟩
  · intro cs
    have e1 : σ * lap (E k) G cs = τ * lap (M k) G cs := h8 k (Nat.le_refl _) cs
    have e2 : a * lap (M k) G cs = c * lap (M k) G0 cs := by
      rw [← lap_smul, ← lap_smul]
      congr 1
      exact funext h7
    calc σ * a * lap (E k) G cs = a * (σ * lap (E k) G cs) := by ac_rfl
      _ = a * (τ * lap (M k) G cs) := by rw [e1]
      _ = τ * (a * lap (M k) G cs) := by ac_rfl
      _ = τ * c * lap (M k) G0 cs := by rw [e2, Int.mul_assoc]
  · intro i hi cs
    have e1 : s * lap (E' i) (lap (E k) G) cs = p * lap (E i) (lap (E k) G) cs := by
      have q := lap_row (r := E' i) (s := E' i) s 0 cs (lap (E k) G)
      simp only [Int.zero_mul, Int.add_zero] at q
      rw [← q, rowE, lap_row, lap_self]
      omega
    have e2 : σ * lap (E i) (lap (E k) G) cs = τ * lap (M i) (lap (E k) G) cs := by
      rw [lap_anti, lap_anti (r := M i), Int.mul_neg, Int.mul_neg, ← lap_smul, ← lap_smul]
      congr 2
      exact funext fun ds => h8 i (by omega) ds
    calc s * σ * lap (E' i) (lap (E k) G) cs = σ * (s * lap (E' i) (lap (E k) G) cs) := by ac_rfl
      _ = σ * (p * lap (E i) (lap (E k) G) cs) := by rw [e1]
      _ = p * (σ * lap (E i) (lap (E k) G) cs) := by ac_rfl
      _ = p * τ * lap (M i) (lap (E k) G) cs := by rw [e2, Int.mul_assoc]
  · obtain ⟨e, he1, he2⟩ := lap_last (r := E k) k ls G fun x hx => kz x (h6 x hx).1
    rw [he2]
    refine Int.mul_ne_zero (by omega) (Int.mul_ne_zero ?_ h9)
    rw [← hp]; omega
  · intro cs hl hc
    rw [List.length_append, List.length_singleton] at hl ⊢
    have q := lap_bound (r := M k) (2 ^ b) (2 ^ (ls.length * (b + 4))) cs G0 (fun x _ => hM k x) fun ds hd hm => h10 ds (by omega) fun x hx => hc x (hm x hx)
    refine Nat.le_trans q ?_
    rw [hl, show (ls.length + 1) * (b + 4) = ls.length * (b + 4) + (b + 4) from Nat.succ_mul ..]
    exact four ls.length (by omega) b _
/-- what has no divisor is as large as a minor at most -/
theorem prim_le {ι : Type} {A D : ι → Int} {α β : Int} (ha : α ≠ 0) (hb : β ≠ 0) (h : ∀ i, α * A i = β * D i) (hp : ∀ d : Int, (∀ i, d ∣ A i) → d.natAbs = 1) (i : ι) : (A i).natAbs ≤ (D i).natAbs := by
  have g0 : 0 < Int.gcd α β := Int.gcd_pos_of_ne_zero_left β ha
  obtain ⟨x, hx⟩ := Int.gcd_dvd_left (a := α) (b := β)
  obtain ⟨y, hy⟩ := Int.gcd_dvd_right (a := α) (b := β)
  generalize hg : ((Int.gcd α β : Nat) : Int) = g at hx hy
  have g1 : g ≠ 0 := by omega
  have cop : Int.gcd y x = 1 := by
    have k := Int.gcd_mul_left g x y
    rw [← hx, ← hy] at k
    have e : g.natAbs = Int.gcd α β := by omega
    rw [e] at k
    have : Int.gcd α β * Int.gcd x y = Int.gcd α β * 1 := by omega
    rw [Int.gcd_comm]
    exact Nat.eq_of_mul_eq_mul_left g0 this
  have k : ∀ i, x * A i = y * D i := fun i => by
    have q := h i
    rw [hx, hy, Int.mul_assoc, Int.mul_assoc] at q
    exact Int.eq_of_mul_eq_mul_left g1 q
  have y1 : y.natAbs = 1 := hp y fun i => by
    have q := Int.dvd_gcd_mul_iff_dvd_mul.mpr (⟨D i, k i⟩ : y ∣ x * A i)
    rw [cop] at q
    simpa using q
  have x0 : x ≠ 0 := fun z => ha (by rw [hx, z, Int.mul_zero])
  have q := congrArg Int.natAbs (k i)
  rw [Int.natAbs_mul, Int.natAbs_mul, y1, Nat.one_mul] at q
  rw [← q]
  exact Nat.le_mul_of_pos_left _ (by omega)
theorem El.bnd (h : El n b M k E) (hk : k < n) (hn : n ≤ 16) (hM : ∀ i j, (M i j).natAbs ≤ 2 ^ b) (hp : ∀ d : Int, (∀ i j, d ∣ E i j) → d.natAbs = 1) (i j : Nat) : (E i j).natAbs ≤ 2 ^ ((k + 1) * (b + 4)) := by
  obtain ⟨ls, G, G0, a, c, σ, τ, h1, h2, h3, h4, h5, h6, h7, h8, h9, h10⟩ := h.rel
  by_cases hj : n ≤ j
  · rw [h.sym, h.top j i hj]; simp
  by_cases hi : i < k
  · rw [h.low i j hi]; simp
  have zc : ∀ i, ∀ x ∈ ls, E i x = 0 := fun i x hx => by rw [h.sym]; exact h.low x i (h6 x hx).1
  -- E i j, times one number, is a minor times another one
  obtain ⟨e, he, _⟩ := lap_last (r := fun _ => (0 : Int)) 0 ls G fun _ _ => rfl
  let D : Nat × Nat → Int := fun q => if k ≤ q.1 then lap (M q.1) G0 (ls ++ [q.2]) else 0
  have sign : ∃ e : Int, (e = 1 ∨ e = -1) ∧ ∀ i j, lap (E i) G (ls ++ [j]) = e * (E i j * G ls) := by
    clear he h10 h9 h8 h7 h5 hp
    have gen : ∀ (ls : List Nat), ∃ e : Int, (e = 1 ∨ e = -1) ∧ ∀ (r : Nat → Int) (F : List Nat → Int) (j : Nat), (∀ x ∈ ls, r x = 0) → lap r F (ls ++ [j]) = e * (r j * F ls) := by
      intro ls
      induction ls with
      | nil => exact ⟨1, .inl rfl, fun r F j _ => by show r j * F [] - 0 = _; omega⟩
      | cons c cs ih =>
        obtain ⟨e, he, q⟩ := ih
        refine ⟨-e, by omega, fun r F j hz => ?_⟩
        show r c * F (cs ++ [j]) - lap r (fun ds => F (c :: ds)) (cs ++ [j]) = _
        rw [q r (fun ds => F (c :: ds)) j fun x hx => hz x (List.mem_cons_of_mem _ hx), hz c List.mem_cons_self, Int.zero_mul, Int.neg_mul]
        omega
    obtain ⟨e, he, q⟩ := gen ls
    exact ⟨e, he, fun i j => q (E i) G j (zc i)⟩
  obtain ⟨e, he, sg⟩ := sign
  have rel : ∀ q : Nat × Nat, (σ * a * e * G ls) * E q.1 q.2 = (τ * c) * D q := fun q => by
    obtain ⟨i, j⟩ := q
    show (σ * a * e * G ls) * E i j = (τ * c) * (if k ≤ i then lap (M i) G0 (ls ++ [j]) else 0)
    by_cases hi : k ≤ i
    · rw [if_pos hi]
      have e2 : a * lap (M i) G (ls ++ [j]) = c * lap (M i) G0 (ls ++ [j]) := by
        rw [← lap_smul, ← lap_smul]
        congr 1
        exact funext h7
      calc σ * a * e * G ls * E i j = a * (σ * (e * (E i j * G ls))) := by ac_rfl
        _ = a * (σ * lap (E i) G (ls ++ [j])) := by rw [sg]
        _ = a * (τ * lap (M i) G (ls ++ [j])) := by rw [h8 i hi]
        _ = τ * (a * lap (M i) G (ls ++ [j])) := by ac_rfl
        _ = τ * c * lap (M i) G0 (ls ++ [j]) := by rw [e2, Int.mul_assoc]
    · rw [if_neg hi, h.low i j (by omega)]; simp
  have q := prim_le (A := fun q : Nat × Nat => E q.1 q.2) (D := D) (Int.mul_ne_zero (Int.mul_ne_zero (Int.mul_ne_zero h3 h1) (by omega)) h9) (Int.mul_ne_zero h4 h2) rel (fun d hd => hp d fun i j => hd (i, j)) (i, j)
  refine Nat.le_trans q ?_
  show (if k ≤ i then lap (M i) G0 (ls ++ [j]) else 0).natAbs ≤ _
  rw [if_pos (by omega)]
  have bd := lap_bound (r := M i) (2 ^ b) (2 ^ (ls.length * (b + 4))) (ls ++ [j]) G0 (fun x _ => hM i x) fun ds hd hm => h10 ds (by rw [List.length_append, List.length_singleton] at hd; omega) fun x hx => by
    rcases List.mem_append.mp (hm x hx) with q | q
    · exact (h6 x q).2
    · rw [List.mem_singleton.mp q]; omega
  refine Nat.le_trans bd ?_
  rw [List.length_append, List.length_singleton]
  refine Nat.le_trans (four ls.length (by omega) b _) (Nat.pow_le_pow_right (by decide) ?_)
  rw [← Nat.succ_mul]
  exact Nat.mul_le_mul_right _ (Nat.succ_le_succ h5)
end
end Zk
set_option maxHeartbeats 4000000
/-! # Zk: what comes out all right, told by what is true of it -/
namespace Zk
open PySem L2
def Ok {α : Type} (m : R α) (Q : α → Prop) : Prop := ∃ a, m = .ok a ∧ Q a
section
variable {α β : Type} {m : R α} {P Q : α → Prop} {f : α → R β} {T : β → Prop}
theorem Ok.ret {a : α} (h : Q a) : Ok (.ok a) Q := ⟨a, rfl, h⟩
theorem Ok.bind (h : Ok m P) (k : ∀ a, P a → Ok (f a) T) : Ok (m >>= f) T := by
  obtain ⟨a, rfl, p⟩ := h
  exact k a p
theorem Ok.mono (h : Ok m P) (k : ∀ a, P a → Q a) : Ok m Q := by
  obtain ⟨a, e, p⟩ := h
  exact ⟨a, e, k a p⟩
theorem Ok.eq {a : α} (e : m = .ok a) : Ok m (fun x => x = a) := ⟨a, e, rfl⟩
theorem Ok.ite {b : Bool} {A B : R α} (h1 : b = true → Ok A Q) (h2 : b = false → Ok B Q) : Ok (if b = true then A else B) Q := by
  cases b with
  | true => exact h1 rfl
  | false => exact h2 rfl
theorem Ok.iteB {b : Bool} {A B : R α} (h1 : b = true → Ok (A >>= f) T) (h2 : b = false → Ok (B >>= f) T) : Ok ((if b = true then A else B) >>= f) T := by
  cases b with
  | true => exact h1 rfl
  | false => exact h2 rfl
theorem Ok.and (h : Ok m P) (k : Ok m Q) : Ok m fun a => P a ∧ Q a := by
  obtain ⟨a, e, p⟩ := h
  obtain ⟨b, e2, q⟩ := k
  rw [e] at e2
  cases e2
  exact ⟨a, e, p, q⟩
end
theorem Ok.mul {m n : Nat} {x y : Int} (h : Sz m x) (k : Sz n y) (l : m + n < 100000000 := by decide) : Ok (mulM x y) fun r => r = x * y ∧ Sz (m + n) r := ⟨_, mulS h k l, rfl, h.mul k⟩
theorem Ok.mod {x y : Int} (h : 0 < y) : Ok (modM x y) fun r => 0 ≤ r ∧ r < y := ⟨_, modM_ok (by omega), fmod_pos h⟩
theorem Ok.fdivN {x y : Int} (h : 0 < y) (hb : y < 1073741824) : Ok (fdivM x y) fun r => r = x.fdiv y := ⟨_, fdivM_sm (by omega) (by omega), rfl⟩
theorem Ok.get {α : Type} {l : List α} {j : Int} (h0 : 0 ≤ j) (h1 : j < l.length) : Ok (getM l j) fun x => l[j.toNat]? = some x := by
  have hj : j.toNat < l.length := by omega
  refine ⟨l[j.toNat], getM_of (i := j.toNat) (by omega) (List.getElem?_eq_getElem hj), List.getElem?_eq_getElem hj⟩
theorem Ok.getv {α : Type} {n : Nat} {f : Nat → α} {j : Int} (h0 : 0 ≤ j) (h1 : j < n) : Ok (getM (vec n f) j) fun x => x = f j.toNat := ⟨_, getM_v j.toNat (by omega) (by omega), rfl⟩
theorem Ok.getn {α : Type} {n : Nat} {f : Nat → α} {i : Nat} (h : i < n) : Ok (getM (vec n f) (i : Int)) fun x => x = f i := ⟨_, getM_vec h, rfl⟩
theorem Ok.dig {sizes row : List Int} (h : Digs sizes row) (i : Nat) {j : Int} (z : Int) (hz : sizes[i]? = some z := by rfl) (e : j = (i : Int) := by rfl) : Ok (getM row j) fun d => 0 ≤ d ∧ d < z := by
  obtain ⟨d, h1, h2⟩ := h.2 i z hz
  exact ⟨d, getM_of e h1, h2⟩
theorem Ok.pow {x y : Int} (h : 0 ≤ y ∧ y ≤ 1000000 ∧ x.natAbs < 2 ^ 64 := by decide) : Ok (powM x y) fun r => r = x ^ y.toNat := ⟨_, R.guard_ok (.inl h), rfl⟩
theorem Ok.sq {n : Nat} {x : Int} (h : Sz n x) (l : n ≤ 60000000 := by decide) : powM x 2 = .ok (x * x) := by
  have e : x ^ (2 : Int).toNat = x * x := by show x ^ 2 = _; rw [Int.pow_succ, Int.pow_succ, Int.pow_zero, Int.one_mul]
  unfold powM
  rw [R.guard_ok (.inr ⟨by decide, by have := log2_le h; omega⟩), e]
theorem Ok.map {α β : Type} [Inhabited β] {n : Nat} {h : α → R β} {a : Nat → α} {Q : Nat → β → Prop} (k : ∀ k, k < n → Ok (h (a k)) (Q k)) (hn : n < 16000000) : Ok (mapM h (vec n a)) fun l => ∃ g, l = vec n g ∧ ∀ k, k < n → Q k (g k) := by
  refine ⟨vec n fun i => if q : i < n then (k i q).choose else default, mapM_vec (fun i hi => ?_) hn, _, rfl, fun i hi => ?_⟩
  · rw [dif_pos hi]
    exact (k i hi).choose_spec.1
  · rw [dif_pos hi]
    exact (k i hi).choose_spec.2
theorem Ok.fold {α S : Type} {step : S → α → R S} {a : Nat → α} {n : Nat} {s : S} (C : Nat → S → Prop) (h0 : C 0 s) (h : ∀ k, k < n → ∀ s, C k s → Ok (step s (a k)) (C (k + 1))) : Ok (foldR step (vec n a) s) (C n) := foldR_vec C n s h0 h
theorem Ok.set {α : Type} {n : Nat} {f : Nat → α} {j : Int} {z : α} (h0 : 0 ≤ j) (h1 : j < n) : Ok (setM (vec n f) j z) fun l => l = vec n (upd1 f j.toNat z) := ⟨_, setM_v j.toNat (by omega) (by omega), rfl⟩
theorem Ok.cat {α : Type} {n m : Nat} {f g : Nat → α} (h : n + m < 16000000) : Ok (catM (vec n f) (vec m g)) fun l => l = vec (n + m) fun k => if k < n then f k else g (k - n) := ⟨_, catM_vec h, rfl⟩
theorem Ok.app {α : Type} {n : Nat} {f : Nat → α} {z : α} (h : n < 16000000) : Ok (appM (vec n f) z) fun l => l = vec (n + 1) fun k => if k < n then f k else z := by
  refine ⟨_, appM_ok (by simpa using h), ?_⟩
  rw [vec_snoc, if_neg (Nat.lt_irrefl n)]
  congr 1
  exact vec_ext fun k hk => (if_pos hk).symm
theorem Ok.rng {n : Nat} (h : n < 1000000000 := by omega) : Ok (rngM 0 (n : Int)) fun l => l = vec n fun k => (k : Int) := ⟨_, rng0 n h, rfl⟩
theorem Ok.rng2 {a b : Nat} (h : a < 1000000000 := by omega) (h2 : b < 1000000000 := by omega) : Ok (rngM (a : Int) (b : Int)) fun l => l = vec (b - a) fun k => ((a + k : Nat) : Int) := ⟨_, Zk.rng2 a b h h2, rfl⟩
theorem loopR_go {α β S : Type} {step : S → α → R (Out β S S)} {a : Nat → α} {n : Nat} {s : S} (C : Nat → S → Prop) (h0 : C 0 s) (h : ∀ k, k < n → ∀ s, C k s → ∃ s', step s (a k) = .ok (.nxt s') ∧ C (k + 1) s') : ∃ s', loopR step (vec n a) s = .ok (.go s') ∧ C n s' := by
  rcases loopR_vec C (fun _ : β => False) n s h0 (fun k hk s c => .inl (h k hk s c)) with q | ⟨_, _, q⟩
  · exact q
  · exact q.elim
/-! ### Cauchy and Schwarz -/
def bf (n : Nat) (M : Nat → Nat → Int) (x y : Nat → Int) : Int := sm n fun i => sm n fun j => M i j * (x i * y j)
theorem qf_bf {n : Nat} {M : Nat → Nat → Int} {x : Nat → Int} : qf n M x = bf n M x x := rfl
theorem bf_comm {n : Nat} {M : Nat → Nat → Int} (hs : ∀ i, i < n → ∀ j, j < n → M i j = M j i) (x y : Nat → Int) : bf n M x y = bf n M y x := by
  unfold bf
  rw [sm_swap]
  exact sm_ext fun j hj => sm_ext fun i hi => by rw [hs i hi j hj, Int.mul_comm (x i)]
theorem bf_add {n : Nat} {M : Nat → Nat → Int} (s t : Int) (x y z : Nat → Int) : bf n M (fun i => s * x i + t * y i) z = s * bf n M x z + t * bf n M y z := by
  unfold bf
  rw [← sm_mul, ← sm_mul, ← sm_add]
  refine sm_ext fun i _ => ?_
  rw [← sm_mul, ← sm_mul, ← sm_add]
  refine sm_ext fun j _ => ?_
  rw [Int.add_mul, Int.mul_add]
  congr 1 <;> ac_rfl
theorem schwarz {n : Nat} {M : Nat → Nat → Int} (hs : ∀ i, i < n → ∀ j, j < n → M i j = M j i) (hp : ∀ x, 0 ≤ qf n M x) (x y : Nat → Int) : bf n M x y * bf n M x y ≤ bf n M x x * bf n M y y := by
  have key : ∀ s t : Int, 0 ≤ s * s * bf n M x x + 2 * (s * t) * bf n M x y + t * t * bf n M y y := fun s t => by
    have h := hp fun i => s * x i + t * y i
    rw [qf_bf, bf_add, bf_comm hs x, bf_comm hs y, bf_add, bf_add, bf_comm hs y x] at h
    have e : s * (s * bf n M x x + t * bf n M x y) + t * (s * bf n M x y + t * bf n M y y) = s * s * bf n M x x + 2 * (s * t) * bf n M x y + t * t * bf n M y y := by
      rw [Int.mul_add, Int.mul_add, ← Int.mul_assoc, ← Int.mul_assoc, ← Int.mul_assoc, ← Int.mul_assoc, Int.mul_comm t s, Int.mul_assoc 2]
      omega
    rw [← e]; exact h
  generalize bf n M x x = a at *
  generalize bf n M x y = b at *
  have hc : 0 ≤ bf n M y y := hp y
  generalize bf n M y y = c at *
  have ha : 0 ≤ a := by have := key 1 0; omega
  by_cases c0 : c = 0
  · subst c0
    have b0 : b = 0 := by
      by_cases q : b = 0
      · exact q
      · have k := key 1 (-(a + 1) * b)
        simp only [Int.mul_zero, Int.add_zero, Int.one_mul] at k
        have e : 2 * (-(a + 1) * b) * b = -(2 * (a + 1) * (b * b)) := by
          simp only [Int.neg_mul, Int.mul_neg]
          congr 1
          ac_rfl
        rw [e] at k
        have p : 1 ≤ b * b := by
          rcases Int.lt_or_gt_of_ne q with z | z
          · exact Int.mul_pos_of_neg_of_neg z z
          · exact Int.mul_pos z z
        have p2 : 2 * (a + 1) * 1 ≤ 2 * (a + 1) * (b * b) := Int.mul_le_mul_of_nonneg_left p (by omega)
        omega
    rw [b0]; simp
  · have k := key c (-b)
    have e : c * c * a + 2 * (c * -b) * b + -b * -b * c = c * (a * c - b * b) := by
      rw [Int.mul_sub]
      have e1 : c * c * a = c * (a * c) := by ac_rfl
      have e2 : 2 * (c * -b) * b = -(2 * (c * (b * b))) := by
        simp only [Int.mul_neg, Int.neg_mul]
        congr 1
        ac_rfl
      have e3 : -b * -b * c = c * (b * b) := by
        rw [Int.neg_mul_neg]
        ac_rfl
      rw [e1, e2, e3]
      omega
    rw [e] at k
    by_cases q : b * b ≤ a * c
    · exact q
    · have := Int.mul_neg_of_pos_of_neg (show 0 < c by omega) (show a * c - b * b < 0 by omega)
      omega
end Zk
namespace Lw
open PySem PySem.Spec PyProof.Rows L2 Zk
abbrev Gl0 (K : PySem.W.Frag) (mg : Str → Option Value) (base : Heap) : Prop := Gla fa fn (exW hv xs xm xk xb ms) K mg base
end Lw
set_option maxHeartbeats 40000000
set_option synthInstance.maxHeartbeats 400000
set_option synthInstance.maxSize 2000
/-! # the mirrors -/
namespace Lw
open PySem Zk
def m_law_cell_b1  (s1 : Int) (cell : Int) : R Int :=
  ((((mulM s1 (31 : Int)) >>= fun x2 => (modM cell (1000003 : Int)) >>= fun y3 => R.ok ((x2 + y3))) >>= fun z => R.ok z) >>= fun x4 => (modM x4 (1000003 : Int))) >>= fun (seed : Int) =>
  R.ok seed

@[irreducible] def m_law_cell (script : (List Int)) (k : Int) : R Int :=
  (if (decide (k < ((script.length : Nat) : Int))) = true then
    (getM script k)
  else
    R.ok (17 : Int) >>= fun (seed : Int) =>
    R.ok script >>= fun as => foldR m_law_cell_b1 as seed >>= fun (s5 : Int) =>
    ((((mulM (s5 + (7 : Int)) (k + (3 : Int))) >>= fun x6 => (mulM x6 (69621 : Int))) >>= fun z => R.ok z) >>= fun x7 => (modM x7 (2147483647 : Int))))

def m_law_digits_b1  (s3 : ((List Int) × Int)) (size : Int) : R ((List Int) × Int) :=
  (modM s3.2 size) >>= fun z4 => appM s3.1 z4 >>= fun (row : (List Int)) =>
  (fdivM s3.2 size) >>= fun (rest : Int) =>
  R.ok (row, rest)

def m_law_digits_b2 (sizes : (List Int)) (s6 : (Int × (List Int))) (k : Int) : R (Int × (List Int)) :=
  (((((mulM s6.1 (48271 : Int)) >>= fun x7 => (mulM (974711 : Int) k) >>= fun y8 => R.ok ((x7 + y8))) >>= fun x9 => R.ok ((x9 + (12345 : Int)))) >>= fun z => R.ok z) >>= fun x10 => (modM x10 (2147483647 : Int))) >>= fun (seed : Int) =>
  (((((fdivM seed (65537 : Int)) >>= fun x11 => R.ok ((x11 + (3 : Int)))) >>= fun y12 => (mulM seed y12)) >>= fun z => R.ok z) >>= fun x13 => (modM x13 (2147483629 : Int))) >>= fun (twice : Int) =>
  ((fdivM twice (19 : Int)) >>= fun x14 => (getM sizes k) >>= fun y15 => (modM x14 y15)) >>= fun z16 => appM s6.2 z16 >>= fun (row : (List Int)) =>
  R.ok (seed, row)

@[irreducible] def m_law_digits (cell : Int) (sizes : (List Int)) : R (List Int) :=
  R.ok ([] : List Int) >>= fun (row : (List Int)) =>
  R.ok cell >>= fun (rest : Int) =>
  (((powM (10 : Int) (18 : Int)) >>= fun y1 => R.ok ((decide (y1 ≤ rest)))) >>= fun z18 => if z18 = true then
    ((powM (10 : Int) (18 : Int)) >>= fun y2 => R.ok ((rest - y2))) >>= fun (rest : Int) =>
    R.ok sizes >>= fun as => foldR m_law_digits_b1 as (row, rest) >>= fun (s5 : ((List Int) × Int)) =>
    R.ok s5.1
  else
    (modM rest (2147483629 : Int)) >>= fun (seed : Int) =>
    rngM 0 (((sizes.length : Nat) : Int)) >>= fun as => foldR (m_law_digits_b2 sizes) as (seed, row) >>= fun (s17 : (Int × (List Int))) =>
    R.ok s17.2)

@[irreducible] def m_law_line (cell : Int) : R (List Int) :=
  (((((((powM (10 : Int) (8 : Int)) >>= fun x1 => R.ok (x1 :: [])) >>= fun y2 => R.ok ((20000 : Int) :: y2)) >>= fun x3 => (repM x3 (10 : Int))) >>= fun x7 => ((((powM (10 : Int) (8 : Int)) >>= fun x4 => R.ok (x4 :: [])) >>= fun y5 => R.ok ((1000 : Int) :: y5)) >>= fun y6 => R.ok ((9 : Int) :: y6)) >>= fun y8 => (catM x7 y8)) >>= fun y9 => R.ok (cell, y9)) >>= fun z => (m_law_digits z.1 z.2))

@[irreducible] def m_law_wide (size : Int) (line : (List Int)) : R (List Int) :=
  (rngM 0 size >>= fun as => mapM (fun (k : Int) => (((((mulM (2 : Int) k) >>= fun y1 => (getM line y1)) >>= fun x2 => R.ok ((x2 - (10000 : Int)))) >>= fun x3 => (powM (10 : Int) (8 : Int)) >>= fun y4 => (mulM x3 y4)) >>= fun x7 => (((mulM (2 : Int) k) >>= fun x5 => R.ok ((x5 + (1 : Int)))) >>= fun y6 => (getM line y6)) >>= fun y8 => R.ok ((x7 + y8)))) as)

@[irreducible] def m_law_seven (line : (List Int)) : R (List Int) :=
  ((rngM 0 ((10 : Int)) >>= fun as => mapM (fun (k : Int) => ((((mulM (2 : Int) k) >>= fun y1 => (getM line y1)) >>= fun z => R.ok z) >>= fun x2 => (modM x2 (7 : Int)))) as) >>= fun x6 => (R.ok line >>= fun x3 => R.ok (some (20 : Int)) >>= fun y4 => R.ok none >>= fun z5 => R.ok (cutA x3 y4 z5)) >>= fun y7 => (catM x6 y7))

@[irreducible] def m_law_draw_row (size : Int) (kind : Int) (row : (List Int)) : R (List Int) :=
  (rngM 0 size >>= fun as => mapM (fun (k : Int) => ((getM row k) >>= fun x1 => R.ok ((x1 - (3 : Int))))) as) >>= fun (small : (List Int)) =>
  (if ((decide ((1 : Int) < size)) && (decide (kind = (4 : Int)))) = true then
    (((getM row (0 : Int)) >>= fun z => R.ok z) >>= fun x2 => (modM x2 size)) >>= fun (one : Int) =>
    ((((((getM row (1 : Int)) >>= fun z => R.ok z) >>= fun x3 => (modM x3 (size - (1 : Int)))) >>= fun y4 => R.ok (((one + (1 : Int)) + y4))) >>= fun z => R.ok z) >>= fun x5 => (modM x5 size)) >>= fun (two : Int) =>
    (rngM 0 size >>= fun as => mapM (fun (k : Int) => R.ok ((if ((decide (k = one))) = true then 1 else 0) - (if ((decide (k = two))) = true then 1 else 0))) as)
  else
    (if ((decide ((1 : Int) < size)) && (decide (kind = (5 : Int)))) = true then
      ((R.ok small >>= fun x6 => R.ok none >>= fun y7 => R.ok (some (size - (1 : Int))) >>= fun z8 => R.ok (cutA x6 y7 z8)) >>= fun x10 => ((getM small (0 : Int)) >>= fun x9 => R.ok (x9 :: [])) >>= fun y11 => (catM x10 y11))
    else
      (if (decide (kind = (6 : Int))) = true then
        (if (decide (size < (10 : Int))) = true then (rngM 0 size >>= fun as => mapM (fun (k : Int) => ((((getM row k) >>= fun x12 => R.ok ((x12 - (3 : Int)))) >>= fun x13 => (mulM x13 (37 : Int))) >>= fun x14 => (getM row (k + (1 : Int))) >>= fun y15 => R.ok ((x14 + y15)))) as) else R.ok small)
      else
        (if (decide (kind = (7 : Int))) = true then
          (rngM 0 size >>= fun as => mapM (fun (k : Int) => (((getM row k) >>= fun x16 => R.ok ((x16 - (3 : Int)))) >>= fun x18 => (((getM row k) >>= fun x17 => R.ok ((decide ((4 : Int) ≤ x17)))) >>= fun z => R.ok ((if z = true then 1 else 0))) >>= fun y19 => (mulM x18 y19))) as)
        else
          (if ((decide ((0 : Int) < size)) && (decide (kind = (8 : Int)))) = true then
            (rngM 0 size >>= fun as => mapM (fun (k : Int) => ((((((getM row (0 : Int)) >>= fun z => R.ok z) >>= fun x20 => (modM x20 size)) >>= fun y21 => R.ok ((decide (k = y21)))) >>= fun z => R.ok ((if z = true then 1 else 0))) >>= fun x24 => ((((getM row (1 : Int)) >>= fun z => R.ok z) >>= fun x22 => (modM x22 (3 : Int))) >>= fun y23 => R.ok (((1 : Int) + y23))) >>= fun y25 => (mulM x24 y25))) as)
          else
            ((if (decide (kind = (9 : Int))) = true then ((getM row (0 : Int)) >>= fun x26 => R.ok ((decide (x26 = (0 : Int))))) else R.ok false) >>= fun z27 => if z27 = true then
              (rngM 0 size >>= fun as => mapM (fun (k : Int) => R.ok (0 : Int)) as)
            else
              R.ok small))))))

@[irreducible] def m_law_row (size : Int) (kind : Int) (line : (List Int)) : R (List Int) :=
  (if (decide ((10 : Int) ≤ kind)) = true then
    (m_law_wide size line)
  else
    ((((m_law_seven line) >>= fun y1 => R.ok (kind, y1)) >>= fun y2 => R.ok (size, y2)) >>= fun z => (m_law_draw_row z.1 z.2.1 z.2.2)))

@[irreducible] def m_law_draw_weight (kind : Int) (row : (List Int)) : R Int :=
  (if (decide (kind = (0 : Int))) = true then
    R.ok (1 : Int)
  else
    (if (decide (kind = (4 : Int))) = true then
      (((getM row (11 : Int)) >>= fun y1 => R.ok (((1 : Int) + y1))) >>= fun x3 => ((getM row (12 : Int)) >>= fun y2 => (mulM (1000 : Int) y2)) >>= fun y4 => R.ok ((x3 + y4)))
    else
      (if (decide (kind = (5 : Int))) = true then
        ((getM row (11 : Int)) >>= fun y5 => R.ok (((1 : Int) + y5)))
      else
        (if (decide (kind = (6 : Int))) = true then
          ((((getM row (11 : Int)) >>= fun z => R.ok z) >>= fun x6 => (modM x6 (2 : Int))) >>= fun y7 => (getM ((1 : Int) :: ((1000000 : Int) :: [])) y7))
        else
          (if (decide (kind = (7 : Int))) = true then
            (((getM row (11 : Int)) >>= fun x8 => (mulM x8 (1000003 : Int))) >>= fun y9 => R.ok (((1 : Int) + y9)))
          else
            ((getM row (10 : Int)) >>= fun y10 => R.ok (((1 : Int) + y10))))))))

def m_law_draw_pairs_b1 (script : (List Int)) (at' : Int) (size : Int) (style : Int) (weights : Int) (twin : Int) (s1 : (List ((List Int) × Int))) (k : Int) : R (List ((List Int) × Int)) :=
  ((m_law_cell script ((at' + k))) >>= m_law_line) >>= fun (line : (List Int)) =>
  (m_law_row size style line) >>= fun (row : (List Int)) =>
  ((if ((decide (k = (1 : Int))) && (decide (twin = (1 : Int)))) = true then ((getM s1 (0 : Int)) >>= fun z => R.ok z.1) >>= fun (row : (List Int)) =>
    R.ok row else R.ok row) : R (List Int)) >>= fun (j2 : (List Int)) =>
  ((if ((decide (k = (1 : Int))) && (decide (twin = (2 : Int)))) = true then (((getM s1 (0 : Int)) >>= fun z => R.ok z.1) >>= fun as => mapM (fun (number : Int) => R.ok (-number)) as) >>= fun (row : (List Int)) =>
    R.ok row else R.ok j2) : R (List Int)) >>= fun (j3 : (List Int)) =>
  ((((m_law_seven line) >>= fun y4 => R.ok (weights, y4)) >>= fun z => (m_law_draw_weight z.1 z.2)) >>= fun y5 => R.ok (j3, y5)) >>= fun z6 => appM s1 z6 >>= fun (pairs : (List ((List Int) × Int))) =>
  R.ok pairs

@[irreducible] def m_law_draw_pairs (script : (List Int)) (at' : Int) (size : Int) (many : Int) (style : Int) (weights : Int) (twin : Int) : R (List ((List Int) × Int)) :=
  R.ok ([] : List ((List Int) × Int)) >>= fun (pairs : (List ((List Int) × Int))) =>
  rngM 0 many >>= fun as => foldR (m_law_draw_pairs_b1 script at' size style weights twin) as pairs >>= fun (s9 : (List ((List Int) × Int))) =>
  R.ok s9

@[irreducible] def m_law_draw_list (script : (List Int)) (at' : Int) (most : Int) : R (Int × (List ((List Int) × Int)) × Int) :=
  (((m_law_cell script at') >>= fun x8 => ((((((((powM (10 : Int) (8 : Int)) >>= fun x1 => R.ok (x1 :: [])) >>= fun y2 => R.ok ((6 : Int) :: y2)) >>= fun y3 => R.ok ((10 : Int) :: y3)) >>= fun y4 => R.ok ((8 : Int) :: y4)) >>= fun y5 => R.ok ((12 : Int) :: y5)) >>= fun y6 => R.ok ((16 : Int) :: y6)) >>= fun y7 => R.ok ((24 : Int) :: y7)) >>= fun y9 => R.ok (x8, y9)) >>= fun z => (m_law_digits z.1 z.2)) >>= fun (shape : (List Int)) =>
  ((getM shape (0 : Int)) >>= fun y10 => (getM ((2 : Int) :: ((3 : Int) :: ((2 : Int) :: ((3 : Int) :: ((1 : Int) :: ((2 : Int) :: ((3 : Int) :: ((4 : Int) :: ((2 : Int) :: ((3 : Int) :: ((1 : Int) :: ((4 : Int) :: ((3 : Int) :: ((2 : Int) :: ((5 : Int) :: ((0 : Int) :: ((2 : Int) :: ((3 : Int) :: ((4 : Int) :: ((2 : Int) :: ((6 : Int) :: ((7 : Int) :: ((9 : Int) :: ((10 : Int) :: [])))))))))))))))))))))))) y10)) >>= fun (size : Int) =>
  ((getM shape (1 : Int)) >>= fun y11 => (getM ((3 : Int) :: ((4 : Int) :: ((5 : Int) :: ((6 : Int) :: ((2 : Int) :: ((8 : Int) :: ((10 : Int) :: ((1 : Int) :: ((4 : Int) :: ((7 : Int) :: ((5 : Int) :: ((0 : Int) :: ((9 : Int) :: ((3 : Int) :: ((16 : Int) :: ((60 : Int) :: [])))))))))))))))) y11)) >>= fun (many : Int) =>
  (((((((getM shape (2 : Int)) >>= fun x14 => ((getM shape (3 : Int)) >>= fun x12 => (getM shape (5 : Int)) >>= fun y13 => R.ok (x12, y13)) >>= fun y15 => R.ok (x14, y15)) >>= fun y16 => R.ok ((if most < many then most else many), y16)) >>= fun y17 => R.ok (size, y17)) >>= fun y18 => R.ok ((at' + (1 : Int)), y18)) >>= fun y19 => R.ok (script, y19)) >>= fun z => (m_law_draw_pairs z.1 z.2.1 z.2.2.1 z.2.2.2.1 z.2.2.2.2.1 z.2.2.2.2.2.1 z.2.2.2.2.2.2)) >>= fun (pairs : (List ((List Int) × Int))) =>
  ((((((((((((((getM shape (6 : Int)) >>= fun y20 => R.ok (((1 : Int) + y20))) >>= fun x23 => (((powM (10 : Int) (30 : Int)) >>= fun x21 => R.ok ((x21 + (57 : Int)))) >>= fun x22 => R.ok (x22 :: [])) >>= fun y24 => R.ok (x23 :: y24)) >>= fun y25 => R.ok ((1000 : Int) :: y25)) >>= fun y26 => R.ok ((7 : Int) :: y26)) >>= fun y27 => R.ok ((12 : Int) :: y27)) >>= fun y28 => R.ok ((6 : Int) :: y28)) >>= fun y29 => R.ok ((3 : Int) :: y29)) >>= fun y30 => R.ok ((2 : Int) :: y30)) >>= fun y31 => R.ok ((1 : Int) :: y31)) >>= fun y32 => R.ok ((1 : Int) :: y32)) >>= fun x33 => (getM shape (4 : Int)) >>= fun y34 => (getM x33 y34)) >>= fun y35 => R.ok (pairs, y35)) >>= fun y36 => R.ok (size, y36))

def m_law_any_table_b1 (size : Int) (kind : Int) (lines : (List (List Int))) (i : Int) (wide : (List Int)) (s5 : (List (List Int))) (j : Int) : R (List (List Int)) :=
  (((((getM lines i) >>= fun x6 => (mulM (2 : Int) j) >>= fun y7 => (getM x6 y7)) >>= fun z => R.ok z) >>= fun x8 => (modM x8 (19 : Int))) >>= fun x9 => R.ok ((x9 - (9 : Int)))) >>= fun (number : Int) =>
  ((if ((decide (kind = (2 : Int))) || (decide (kind = (3 : Int)))) = true then (getM wide j) >>= fun (number : Int) =>
    R.ok number else R.ok number) : R Int) >>= fun (j10 : Int) =>
  ((if (decide (kind = (14 : Int))) = true then (((((getM lines i) >>= fun x11 => (mulM (2 : Int) j) >>= fun y12 => (getM x11 y12)) >>= fun z => R.ok z) >>= fun x13 => (modM x13 (6 : Int))) >>= fun y14 => (getM ((0 : Int) :: ((0 : Int) :: ((0 : Int) :: ((1 : Int) :: ((-(1 : Int)) :: ((2 : Int) :: [])))))) y14)) >>= fun (number : Int) =>
    R.ok number else R.ok j10) : R Int) >>= fun (j15 : Int) =>
  ((if ((decide (i = j)) && (decide (kind = (1 : Int)))) = true then ((mulM (4 : Int) size) >>= fun y16 => R.ok ((j15 + y16))) >>= fun (number : Int) =>
    R.ok number else R.ok j15) : R Int) >>= fun (j17 : Int) =>
  ((if ((decide (i = j)) && (decide (kind = (3 : Int)))) = true then (((powM (10 : Int) (12 : Int)) >>= fun x18 => (mulM x18 size)) >>= fun y19 => R.ok ((j17 + y19))) >>= fun (number : Int) =>
    R.ok number else R.ok j17) : R Int) >>= fun (j20 : Int) =>
  R.ok j20 >>= fun z26 => R.ok i >>= fun q27 => getM s5 q27 >>= fun r29 => R.ok j >>= fun q28 => setM r29 q28 z26 >>= fun r30 => setM s5 q27 r30 >>= fun (table : (List (List Int))) =>
  R.ok j20 >>= fun z21 => R.ok j >>= fun q22 => getM table q22 >>= fun r24 => R.ok i >>= fun q23 => setM r24 q23 z21 >>= fun r25 => setM table q22 r25 >>= fun (table : (List (List Int))) =>
  R.ok table

def m_law_any_table_b2 (size : Int) (kind : Int) (lines : (List (List Int))) (s1 : (List (List Int))) (i : Int) : R (List (List Int)) :=
  (((getM lines i) >>= fun y2 => R.ok (size, y2)) >>= fun z => (m_law_wide z.1 z.2)) >>= fun (wide : (List Int)) =>
  (R.ok i >>= fun x3 => R.ok size >>= fun y4 => rngM x3 y4) >>= fun as => foldR (m_law_any_table_b1 size kind lines i wide) as s1 >>= fun (s35 : (List (List Int))) =>
  R.ok s35

@[irreducible] def m_law_any_table (size : Int) (kind : Int) (lines : (List (List Int))) : R (List (List Int)) :=
  (rngM 0 size >>= fun as => mapM (fun (i : Int) => (rngM 0 size >>= fun as => mapM (fun (j : Int) => R.ok (0 : Int)) as)) as) >>= fun (table : (List (List Int))) =>
  rngM 0 size >>= fun as => foldR (m_law_any_table_b2 size kind lines) as table >>= fun (s36 : (List (List Int))) =>
  R.ok s36

def m_law_table_b1 (pair : ((List Int) × Int)) (i : Int) (s3 : (List (List Int))) (j : Int) : R (List (List Int)) :=
  ((R.ok i >>= fun x4 => getM s3 x4 >>= fun r6 => R.ok j >>= fun y5 => getM r6 y5) >>= fun x10 => (((getM pair.1 i) >>= fun y7 => (mulM pair.2 y7)) >>= fun x8 => (getM pair.1 j) >>= fun y9 => (mulM x8 y9)) >>= fun y11 => R.ok ((x10 + y11))) >>= fun z12 => R.ok i >>= fun q13 => getM s3 q13 >>= fun r15 => R.ok j >>= fun q14 => setM r15 q14 z12 >>= fun r16 => setM s3 q13 r16 >>= fun (table : (List (List Int))) =>
  R.ok table

def m_law_table_b2 (size : Int) (pair : ((List Int) × Int)) (s2 : (List (List Int))) (i : Int) : R (List (List Int)) :=
  rngM 0 size >>= fun as => foldR (m_law_table_b1 pair i) as s2 >>= fun (s17 : (List (List Int))) =>
  R.ok s17

def m_law_table_b3 (size : Int) (s1 : (List (List Int))) (pair : ((List Int) × Int)) : R (List (List Int)) :=
  rngM 0 size >>= fun as => foldR (m_law_table_b2 size pair) as s1 >>= fun (s18 : (List (List Int))) =>
  R.ok s18

@[irreducible] def m_law_table (size : Int) (pairs : (List ((List Int) × Int))) : R (List (List Int)) :=
  (rngM 0 size >>= fun as => mapM (fun (i : Int) => (rngM 0 size >>= fun as => mapM (fun (j : Int) => R.ok (0 : Int)) as)) as) >>= fun (table : (List (List Int))) =>
  R.ok pairs >>= fun as => foldR (m_law_table_b3 size) as table >>= fun (s19 : (List (List Int))) =>
  R.ok s19

abbrev T_Form_1 : Type := Unit × Int
abbrev T_Form_2 : Type := T_Form_1 × (List (List Int))
abbrev T_Form_3 : Type := T_Form_2 × Int
abbrev T_Form : Type := T_Form_3

abbrev T_RowList_1 : Type := Unit × Int
abbrev T_RowList_2 : Type := T_RowList_1 × (List ((List Int) × Int))
abbrev T_RowList_3 : Type := T_RowList_2 × Int
abbrev T_RowList_4 : Type := T_RowList_3 × T_Form
abbrev T_RowList : Type := T_RowList_4

@[irreducible] def m_frozen_numbers_Li (value : (List Int)) : R (List Int) :=
  R.ok value

@[irreducible] def m_frozen_numbers_i (value : Int) : R Int :=
  R.ok value

@[irreducible] def m_frozen_part_HLiie (value : ((List Int) × Int)) : R ((List Int) × Int) :=
  ((R.ok [(Sum.inl value.1), (Sum.inr value.2)] >>= fun as => mapM (fun (part : ((List Int) ⊕ Int)) => (onU part (fun (u1 : (List Int)) => ((m_frozen_numbers_Li u1) >>= fun z => R.ok ((Sum.inl z)))) (fun (u2 : Int) => ((m_frozen_numbers_i u2) >>= fun z => R.ok ((Sum.inr z)))))) as) >>= (unCons (fun s => inL s >>= fun z => R.ok z) (unOne (fun s => inR s >>= (fun z => R.ok z)))))

@[irreducible] def m_frozen_LHLiie (value : (List ((List Int) × Int))) : R (List ((List Int) × Int)) :=
  (R.ok value >>= fun as => mapM (fun (part : ((List Int) × Int)) => (m_frozen_part_HLiie part)) as)

abbrev T_BadRow_0 : Type := Unit
abbrev T_BadRow_1 : Type := Int × T_BadRow_0
abbrev T_BadRow : Type := T_BadRow_1
def x_BadRow (y : T_BadRow) : List (Str × Fld) := (("index" : Str), Fld.int y.1) :: []

@[irreducible] def m_BadRow_init (index : Int) : R T_BadRow :=
  R.ok index >>= fun (f1 : Int) =>
  R.ok ((f1, ()))

abbrev T_BadWeight_0 : Type := Unit
abbrev T_BadWeight_1 : Type := Int × T_BadWeight_0
abbrev T_BadWeight : Type := T_BadWeight_1
def x_BadWeight (y : T_BadWeight) : List (Str × Fld) := (("index" : Str), Fld.int y.1) :: []

@[irreducible] def m_BadWeight_init (index : Int) : R T_BadWeight :=
  R.ok index >>= fun (f1 : Int) =>
  R.ok ((f1, ()))

def m_check_pairs_i_TPTiie_b1 (size : Int) (s2 : Unit) (p3 : (Int × ((List Int) × Int))) : R Unit :=
  (if (!decide (((p3.2.1.length : Nat) : Int) = size)) = true then
    R.ok p3.1 >>= fun z4 => R.nox (m_BadRow_init z4) >>= fun y => R.exn ⟨"BadRow", x_BadRow y⟩
  else
    (if (decide (p3.2.2 < (1 : Int))) = true then
      R.ok p3.1 >>= fun z5 => R.nox (m_BadWeight_init z5) >>= fun y => R.exn ⟨"BadWeight", x_BadWeight y⟩
    else
      R.ok ()))

@[irreducible] def m_check_pairs_i_TPTiie (size : Int) (pairs : (List ((List Int) × Int))) : R Unit :=
  (R.ok pairs >>= fun x1 => R.ok (enumL 0 x1)) >>= fun as => foldR (m_check_pairs_i_TPTiie_b1 size) as () >>= fun (s6 : Unit) =>
  R.ok ()

def m_lowered_b1  (s1 : Int) (number : Int) : R Int :=
  R.ok ((Int.gcd s1 number : Nat) : Int) >>= fun (shared : Int) =>
  R.ok shared

@[irreducible] def m_lowered (numbers : (List Int)) (bottom : Int) : R ((List Int) × Int) :=
  R.ok bottom >>= fun (shared : Int) =>
  R.ok numbers >>= fun as => foldR m_lowered_b1 as shared >>= fun (s2 : Int) =>
  ((R.ok numbers >>= fun as => mapM (fun (number : Int) => (fdivM number s2)) as) >>= fun x3 => (fdivM bottom s2) >>= fun y4 => R.ok (x3, y4))

@[irreducible] def m_frozen_part_Li (value : (List Int)) : R (List Int) :=
  (R.ok value >>= fun as => mapM (fun (part : Int) => (m_frozen_numbers_i part)) as)

@[irreducible] def m_frozen_LLi (value : (List (List Int))) : R (List (List Int)) :=
  (R.ok value >>= fun as => mapM (fun (part : (List Int)) => (m_frozen_part_Li part)) as)

abbrev T_NotSquare_0 : Type := Unit
abbrev T_NotSquare_1 : Type := Int × T_NotSquare_0
abbrev T_NotSquare : Type := T_NotSquare_1
def x_NotSquare (y : T_NotSquare) : List (Str × Fld) := (("row" : Str), Fld.int y.1) :: []

@[irreducible] def m_NotSquare_init (row : Int) : R T_NotSquare :=
  R.ok row >>= fun (f1 : Int) =>
  R.ok ((f1, ()))

def m_check_square_b1 (lines : (List (List Int))) (s2 : Unit) (p3 : (Int × (List Int))) : R Unit :=
  (if (!decide (((p3.2.length : Nat) : Int) = ((lines.length : Nat) : Int))) = true then
    R.ok p3.1 >>= fun z4 => R.nox (m_NotSquare_init z4) >>= fun y => R.exn ⟨"NotSquare", x_NotSquare y⟩
  else
    R.ok ())

@[irreducible] def m_check_square (lines : (List (List Int))) : R Unit :=
  (R.ok lines >>= fun x1 => R.ok (enumL 0 x1)) >>= fun as => foldR (m_check_square_b1 lines) as () >>= fun (s5 : Unit) =>
  R.ok ()

abbrev T_NotSymmetric_0 : Type := Unit
abbrev T_NotSymmetric_1 : Type := Int × T_NotSymmetric_0
abbrev T_NotSymmetric_2 : Type := Int × T_NotSymmetric_1
abbrev T_NotSymmetric : Type := T_NotSymmetric_2
def x_NotSymmetric (y : T_NotSymmetric) : List (Str × Fld) := (("column" : Str), Fld.int y.1) :: (("row" : Str), Fld.int y.2.1) :: []

@[irreducible] def m_NotSymmetric_init (row : Int) (column : Int) : R T_NotSymmetric :=
  R.ok row >>= fun (f1 : Int) =>
  R.ok column >>= fun (f2 : Int) =>
  R.ok ((f2, (f1, ())))

def m_check_symmetric_b1 (lines : (List (List Int))) (row : Int) (s4 : Unit) (column : Int) : R Unit :=
  ((((getM lines row) >>= fun x5 => (getM x5 column)) >>= fun x7 => ((getM lines column) >>= fun x6 => (getM x6 row)) >>= fun y8 => R.ok ((!decide (x7 = y8)))) >>= fun z10 => if z10 = true then
    R.ok (row, column) >>= fun z9 => R.nox (m_NotSymmetric_init z9.1 z9.2) >>= fun y => R.exn ⟨"NotSymmetric", x_NotSymmetric y⟩
  else
    R.ok ())

def m_check_symmetric_b2 (lines : (List (List Int))) (s1 : Unit) (row : Int) : R Unit :=
  (R.ok (row + (1 : Int)) >>= fun x2 => R.ok ((lines.length : Nat) : Int) >>= fun y3 => rngM x2 y3) >>= fun as => foldR (m_check_symmetric_b1 lines row) as () >>= fun (s11 : Unit) =>
  R.ok ()

@[irreducible] def m_check_symmetric (lines : (List (List Int))) : R Unit :=
  rngM 0 (((lines.length : Nat) : Int)) >>= fun as => foldR (m_check_symmetric_b2 lines) as () >>= fun (s12 : Unit) =>
  R.ok ()

@[irreducible] def m_Form_init (entries : (List (List Int))) (bottom : Int) : R T_Form :=
  (m_frozen_LLi entries) >>= fun (lines : (List (List Int))) =>
  (m_check_square lines) >>= fun _ =>
  (m_check_symmetric lines) >>= fun _ =>
  R.ok ((lines.length : Nat) : Int) >>= fun (size : Int) =>
  (((R.ok lines >>= fun as => flatM (fun (line : (List Int)) => R.ok line) (fun (line : (List Int)) (number : Int) => R.ok number) as) >>= fun x1 => R.ok (x1, bottom)) >>= fun z => (m_lowered z.1 z.2)) >>= fun (p2 : ((List Int) × Int)) =>
  R.ok size >>= fun (f3 : Int) =>
  (rngM 0 size >>= fun as => mapM (fun (row : Int) => (R.ok p2.1 >>= fun x5 => ((mulM row size) >>= fun i => R.ok (some i)) >>= fun y6 => (((mulM row size) >>= fun x4 => R.ok ((x4 + size))) >>= fun i => R.ok (some i)) >>= fun z7 => R.ok (cutA x5 y6 z7))) as) >>= fun (f8 : (List (List Int))) =>
  R.ok p2.2 >>= fun (f9 : Int) =>
  R.ok (((((), f3), f8), f9))

@[irreducible] def m_weighted_sum (pairs : (List ((List Int) × Int))) (one : Int) (two : Int) : R Int :=
  ((R.ok pairs >>= fun as => mapM (fun (p1 : ((List Int) × Int)) => (((getM p1.1 one) >>= fun y2 => (mulM p1.2 y2)) >>= fun x3 => (getM p1.1 two) >>= fun y4 => (mulM x3 y4))) as) >>= fun z => R.ok (List.sum z))

@[irreducible] def m_weighted_matrix (size : Int) (pairs : (List ((List Int) × Int))) : R (List (List Int)) :=
  (rngM 0 size >>= fun as => mapM (fun (line : Int) => (rngM 0 size >>= fun as => mapM (fun (column : Int) => (m_weighted_sum pairs line column)) as)) as)

@[irreducible] def m_RowList_init_i_LHLiie_i (size : Int) (pairs : (List ((List Int) × Int))) (bottom : Int) : R T_RowList :=
  (m_frozen_LHLiie pairs) >>= fun (passed : (List ((List Int) × Int))) =>
  (m_check_pairs_i_TPTiie size passed) >>= fun _ =>
  (((R.ok passed >>= fun as => mapM (fun (pair : ((List Int) × Int)) => R.ok pair.2) as) >>= fun x1 => R.ok (x1, bottom)) >>= fun z => (m_lowered z.1 z.2)) >>= fun (p2 : ((List Int) × Int)) =>
  R.ok size >>= fun (f3 : Int) =>
  ((R.ok passed >>= fun x4 => R.ok p2.1 >>= fun y5 => R.ok (List.zip x4 y5)) >>= fun as => mapM (fun (p6 : (((List Int) × Int) × Int)) => R.ok (p6.1.1, p6.2)) as) >>= fun (f7 : (List ((List Int) × Int))) =>
  R.ok p2.2 >>= fun (f8 : Int) =>
  ((m_weighted_matrix size ((((((), f3), f7), f8)).1.2)) >>= fun a9 => R.ok p2.2 >>= fun z10 => m_Form_init a9 z10) >>= fun (f11 : T_Form) =>
  R.ok ((((((), f3), f7), f8), f11))

@[irreducible] def m_frozen_numbers_Ti (value : (List Int)) : R (List Int) :=
  R.ok value

@[irreducible] def m_frozen_part_PTiie (value : ((List Int) × Int)) : R ((List Int) × Int) :=
  ((R.ok [(Sum.inl value.1), (Sum.inr value.2)] >>= fun as => mapM (fun (part : ((List Int) ⊕ Int)) => (onU part (fun (u1 : (List Int)) => ((m_frozen_numbers_Ti u1) >>= fun z => R.ok ((Sum.inl z)))) (fun (u2 : Int) => ((m_frozen_numbers_i u2) >>= fun z => R.ok ((Sum.inr z)))))) as) >>= (unCons (fun s => inL s >>= fun z => R.ok z) (unOne (fun s => inR s >>= (fun z => R.ok z)))))

@[irreducible] def m_frozen_LPTiie (value : (List ((List Int) × Int))) : R (List ((List Int) × Int)) :=
  (R.ok value >>= fun as => mapM (fun (part : ((List Int) × Int)) => (m_frozen_part_PTiie part)) as)

@[irreducible] def m_RowList_init_i_LPTiie_i (size : Int) (pairs : (List ((List Int) × Int))) (bottom : Int) : R T_RowList :=
  (m_frozen_LPTiie pairs) >>= fun (passed : (List ((List Int) × Int))) =>
  (m_check_pairs_i_TPTiie size passed) >>= fun _ =>
  (((R.ok passed >>= fun as => mapM (fun (pair : ((List Int) × Int)) => R.ok pair.2) as) >>= fun x1 => R.ok (x1, bottom)) >>= fun z => (m_lowered z.1 z.2)) >>= fun (p2 : ((List Int) × Int)) =>
  R.ok size >>= fun (f3 : Int) =>
  ((R.ok passed >>= fun x4 => R.ok p2.1 >>= fun y5 => R.ok (List.zip x4 y5)) >>= fun as => mapM (fun (p6 : (((List Int) × Int) × Int)) => R.ok (p6.1.1, p6.2)) as) >>= fun (f7 : (List ((List Int) × Int))) =>
  R.ok p2.2 >>= fun (f8 : Int) =>
  ((m_weighted_matrix size ((((((), f3), f7), f8)).1.2)) >>= fun a9 => R.ok p2.2 >>= fun z10 => m_Form_init a9 z10) >>= fun (f11 : T_Form) =>
  R.ok ((((((), f3), f7), f8), f11))

@[irreducible] def m_law_whole (value : Int) : R Bool :=
  R.ok (true && (!false))

@[irreducible] def m_law_is_point (value : (List Int)) (size : Int) : R Bool :=
  (if true = true then (if (decide (((value.length : Nat) : Int) = size)) = true then ((R.ok value >>= fun as => mapM (fun (number : Int) => (m_law_whole number)) as) >>= fun z => R.ok (List.all z id)) else R.ok false) else R.ok false)

def m_law_gcd_b1  (s1 : (Int × Int)) (turn : Int) : R (Out Empty (Int × Int) (Int × Int)) :=
  (if (decide (s1.2 = (0 : Int))) = true then
    R.ok (.brk (s1.1, s1.2))
  else
    (modM s1.1 s1.2) >>= fun (rest : Int) =>
    R.ok s1.2 >>= fun (one : Int) =>
    R.ok rest >>= fun (two : Int) =>
    R.ok (.nxt (one, two)))

@[irreducible] def m_law_gcd (one : Int) (two : Int) : R Int :=
  R.ok (if one < 0 then -one else one) >>= fun (one : Int) =>
  R.ok (if two < 0 then -two else two) >>= fun (two : Int) =>
  rngM 0 ((100000 : Int)) >>= fun as => loopB m_law_gcd_b1 as (one, two) >>= fun (s2 : (Int × Int)) =>
  R.ok s2.1

def m_law_is_form_b1  (s4 : Int) (number : Int) : R Int :=
  (if (!decide (s4 = (1 : Int))) = true then
    (m_law_gcd s4 number) >>= fun (shared : Int) =>
    R.ok shared
  else
    R.ok s4)

def m_law_is_form_b2 (size : Int) (s3 : Int) (line : (List Int)) : R (Out Bool Int Int) :=
  (((m_law_is_point line size) >>= fun z => R.ok (!z)) >>= fun z6 => if z6 = true then
    R.ok (.ret false)
  else
    R.ok line >>= fun as => foldR m_law_is_form_b1 as s3 >>= fun (s5 : Int) =>
    R.ok (.nxt s5))

@[irreducible] def m_law_is_form (found : T_Form) (size : Int) : R Bool :=
  ((if (!true) = true then R.ok true else (((m_law_whole found.1.1.2) >>= fun z => R.ok (!z)) >>= fun z1 => if z1 = true then R.ok true else R.ok (!decide (found.1.1.2 = size)))) >>= fun z9 => if z9 = true then
    R.ok false
  else
    ((((m_law_whole found.2) >>= fun z => R.ok (!z)) >>= fun z2 => if z2 = true then R.ok true else R.ok (decide (found.2 < (1 : Int)))) >>= fun z8 => if z8 = true then
      R.ok false
    else
      (if ((!true) || (!decide (((found.1.2.length : Nat) : Int) = size))) = true then
        R.ok false
      else
        R.ok found.2 >>= fun (shared : Int) =>
        R.ok found.1.2 >>= fun as => loopR (m_law_is_form_b2 size) as shared >>= End.cs (fun (s7 : Int) =>
        R.ok (decide (s7 = (1 : Int)))) (fun b => R.ok b))))

def m_law_form_is_b1 (found : T_Form) (table : (List (List Int))) (under : Int) (i : Int) (s2 : Unit) (j : Int) : R (Out Bool Unit Unit) :=
  (((((getM found.1.2 i) >>= fun x3 => (getM x3 j)) >>= fun x4 => (mulM x4 under)) >>= fun x7 => (((getM table i) >>= fun x5 => (getM x5 j)) >>= fun x6 => (mulM x6 found.2)) >>= fun y8 => R.ok ((!decide (x7 = y8)))) >>= fun z9 => if z9 = true then
    R.ok (.ret false)
  else
    R.ok (.nxt ()))

def m_law_form_is_b2 (found : T_Form) (table : (List (List Int))) (under : Int) (size : Int) (s1 : Unit) (i : Int) : R (Out Bool Unit Unit) :=
  rngM 0 size >>= fun as => loopR (m_law_form_is_b1 found table under i) as () >>= End.cs (fun (s10 : Unit) =>
  R.ok (.nxt ())) (fun b => R.ok (.ret b))

@[irreducible] def m_law_form_is (found : T_Form) (table : (List (List Int))) (under : Int) : R Bool :=
  R.ok ((table.length : Nat) : Int) >>= fun (size : Int) =>
  (((m_law_is_form found size) >>= fun z => R.ok (!z)) >>= fun z12 => if z12 = true then
    R.ok false
  else
    rngM 0 size >>= fun as => loopR (m_law_form_is_b2 found table under size) as () >>= End.cs (fun (s11 : Unit) =>
    R.ok true) (fun b => R.ok b))

@[irreducible] def m_law_dot (one : (List Int)) (two : (List Int)) : R Int :=
  ((rngM 0 (((one.length : Nat) : Int)) >>= fun as => mapM (fun (k : Int) => ((getM one k) >>= fun x1 => (getM two k) >>= fun y2 => (mulM x1 y2))) as) >>= fun z => R.ok (List.sum z))

def m_law_value_b1 (table : (List (List Int))) (one : (List Int)) (two : (List Int)) (s1 : Int) (i : Int) : R Int :=
  (((getM one i) >>= fun x2 => R.ok ((!decide (x2 = (0 : Int))))) >>= fun z7 => if z7 = true then
    (((getM one i) >>= fun x4 => (((getM table i) >>= fun x3 => R.ok (x3, two)) >>= fun z => (m_law_dot z.1 z.2)) >>= fun y5 => (mulM x4 y5)) >>= fun y6 => R.ok ((s1 + y6))) >>= fun (total : Int) =>
    R.ok total
  else
    R.ok s1)

@[irreducible] def m_law_value (table : (List (List Int))) (one : (List Int)) (two : (List Int)) : R Int :=
  R.ok (0 : Int) >>= fun (total : Int) =>
  rngM 0 (((table.length : Nat) : Int)) >>= fun as => foldR (m_law_value_b1 table one two) as total >>= fun (s8 : Int) =>
  R.ok s8

@[irreducible] def m_law_weighted (pairs : (List ((List Int) × Int))) (table : (List (List Int))) : R Int :=
  ((R.ok pairs >>= fun as => mapM (fun (pair : ((List Int) × Int)) => ((m_law_value table pair.1 pair.1) >>= fun y1 => (mulM pair.2 y1))) as) >>= fun z => R.ok (List.sum z))

abbrev T_SizesDiffer_0 : Type := Unit
abbrev T_SizesDiffer_1 : Type := Int × T_SizesDiffer_0
abbrev T_SizesDiffer_2 : Type := Int × T_SizesDiffer_1
abbrev T_SizesDiffer : Type := T_SizesDiffer_2
def x_SizesDiffer (y : T_SizesDiffer) : List (Str × Fld) := (("two" : Str), Fld.int y.1) :: (("one" : Str), Fld.int y.2.1) :: []

@[irreducible] def m_SizesDiffer_init (one : Int) (two : Int) : R T_SizesDiffer :=
  R.ok one >>= fun (f1 : Int) =>
  R.ok two >>= fun (f2 : Int) =>
  R.ok ((f2, (f1, ())))

@[irreducible] def m_same_size (one : T_Form) (two : T_Form) : R Unit :=
  (if (!decide (one.1.1.2 = two.1.1.2)) = true then
    R.ok (one.1.1.2, two.1.1.2) >>= fun z1 => R.nox (m_SizesDiffer_init z1.1 z1.2) >>= fun y => R.exn ⟨"SizesDiffer", x_SizesDiffer y⟩
  else
    R.ok ())

@[irreducible] def m_dot (one : (List Int)) (two : (List Int)) : R Int :=
  (((R.ok one >>= fun x1 => R.ok two >>= fun y2 => R.ok (List.zip x1 y2)) >>= fun as => mapM (fun (p3 : (Int × Int)) => (mulM p3.1 p3.2)) as) >>= fun z => R.ok (List.sum z))

@[irreducible] def m_fraction (top : Int) (bottom : Int) : R (Int × Int) :=
  (if (decide (bottom = (0 : Int))) = true then
    R.exn ⟨"ZeroBottom", []⟩
  else
    R.ok ((Int.gcd top bottom : Nat) : Int) >>= fun (shared : Int) =>
    ((if (decide (bottom < (0 : Int))) = true then R.ok (-shared) >>= fun (shared : Int) =>
      R.ok shared else R.ok shared) : R Int) >>= fun (j1 : Int) =>
    ((fdivM top j1) >>= fun x2 => (fdivM bottom j1) >>= fun y3 => R.ok (x2, y3)))

@[irreducible] def m_paired (one : T_Form) (two : T_Form) : R (Int × Int) :=
  (m_same_size one two) >>= fun _ =>
  (((R.ok one.1.2 >>= fun x1 => R.ok two.1.2 >>= fun y2 => R.ok (List.zip x1 y2)) >>= fun as => mapM (fun (p3 : ((List Int) × (List Int))) => (m_dot p3.1 p3.2)) as) >>= fun z => R.ok (List.sum z)) >>= fun (total : Int) =>
  (((mulM one.2 two.2) >>= fun y4 => R.ok (total, y4)) >>= fun z => (m_fraction z.1 z.2))

@[irreducible] def m_law_is_fraction (value : (Int × Int)) : R Bool :=
  ((if (!true) = true then R.ok true else (if (!decide ((2 : Int) = (2 : Int))) = true then R.ok true else (((m_law_whole value.1) >>= fun z => R.ok (!z)) >>= fun z1 => if z1 = true then R.ok true else ((m_law_whole value.2) >>= fun z => R.ok (!z))))) >>= fun z3 => if z3 = true then
    R.ok false
  else
    (if (decide ((1 : Int) ≤ value.2)) = true then ((m_law_gcd value.1 value.2) >>= fun x2 => R.ok ((decide (x2 = (1 : Int))))) else R.ok false))

@[irreducible] def m_law_stands (value : (Int × Int)) (top : Int) (under : Int) : R Bool :=
  ((m_law_is_fraction value) >>= fun z3 => if z3 = true then ((mulM value.1 under) >>= fun x1 => (mulM top value.2) >>= fun y2 => R.ok ((decide (x1 = y2)))) else R.ok false)

def m_law_crossed_b1 (others : (List ((List Int) × Int))) (s1 : Int) (pair : ((List Int) × Int)) : R Int :=
  ((((R.ok others >>= fun as => mapM (fun (other : ((List Int) × Int)) => (((m_law_dot pair.1 other.1) >>= fun x2 => (powM x2 (2 : Int))) >>= fun y3 => (mulM other.2 y3))) as) >>= fun z => R.ok (List.sum z)) >>= fun y4 => (mulM pair.2 y4)) >>= fun y5 => R.ok ((s1 + y5))) >>= fun (total : Int) =>
  R.ok total

@[irreducible] def m_law_crossed (pairs : (List ((List Int) × Int))) (others : (List ((List Int) × Int))) : R Int :=
  R.ok (0 : Int) >>= fun (total : Int) =>
  R.ok pairs >>= fun as => foldR (m_law_crossed_b1 others) as total >>= fun (s6 : Int) =>
  R.ok s6

@[irreducible] def m_times_symmetric (one : (List (List Int))) (two : (List (List Int))) : R (List (List Int)) :=
  (R.ok one >>= fun as => mapM (fun (line : (List Int)) => (R.ok two >>= fun as => mapM (fun (column : (List Int)) => (m_dot line column)) as)) as)

@[irreducible] def m_sandwich (outer : T_Form) (inner : T_Form) : R T_Form :=
  (m_same_size outer inner) >>= fun _ =>
  (m_times_symmetric outer.1.2 inner.1.2) >>= fun (half : (List (List Int))) =>
  ((m_times_symmetric half outer.1.2) >>= fun a2 => ((mulM outer.2 outer.2) >>= fun x1 => (mulM x1 inner.2)) >>= fun z3 => m_Form_init a2 z3)

@[irreducible] def m_law_sandwich (outer : (List (List Int))) (inner : (List (List Int))) : R (List (List Int)) :=
  R.ok ((outer.length : Nat) : Int) >>= fun (size : Int) =>
  (rngM 0 size >>= fun as => mapM (fun (i : Int) => (rngM 0 size >>= fun as => mapM (fun (j : Int) => (((getM outer i) >>= fun x1 => (getM inner j) >>= fun y2 => R.ok (x1, y2)) >>= fun z => (m_law_dot z.1 z.2))) as)) as) >>= fun (half : (List (List Int))) =>
  (rngM 0 size >>= fun as => mapM (fun (i : Int) => (rngM 0 size >>= fun as => mapM (fun (j : Int) => (((getM half i) >>= fun x3 => (getM outer j) >>= fun y4 => R.ok (x3, y4)) >>= fun z => (m_law_dot z.1 z.2))) as)) as)

@[irreducible] def m_check_point (form : T_Form) (point : (List Int)) : R Unit :=
  (if (!decide (((point.length : Nat) : Int) = form.1.1.2)) = true then
    R.ok (form.1.1.2, ((point.length : Nat) : Int)) >>= fun z1 => R.nox (m_SizesDiffer_init z1.1 z1.2) >>= fun y => R.exn ⟨"SizesDiffer", x_SizesDiffer y⟩
  else
    R.ok ())

@[irreducible] def m_Form_between (self : T_Form) (one : (List Int)) (two : (List Int)) : R (Int × Int) :=
  (m_check_point self one) >>= fun _ =>
  (m_check_point self two) >>= fun _ =>
  (((((R.ok self.1.2 >>= fun as => mapM (fun (line : (List Int)) => (m_dot line two)) as) >>= fun y1 => R.ok (one, y1)) >>= fun z => (m_dot z.1 z.2)) >>= fun x2 => R.ok (x2, self.2)) >>= fun z => (m_fraction z.1 z.2))

@[irreducible] def m_Form_call (self : T_Form) (point : (List Int)) : R (Int × Int) :=
  (m_Form_between self point point)

@[irreducible] def m_Form_at (self : T_Form) (passed : ((List Int) × Int)) : R (Int × Int) :=
  R.ok passed >>= fun (p1 : ((List Int) × Int)) =>
  (m_Form_between self p1.1 p1.1) >>= fun (p2 : (Int × Int)) =>
  ((((mulM p2.2 p1.2) >>= fun x3 => (mulM x3 p1.2)) >>= fun y4 => R.ok (p2.1, y4)) >>= fun z => (m_fraction z.1 z.2))

@[irreducible] def m_vector (numbers : (List Int)) (bottom : Int) : R ((List Int) × Int) :=
  (if (decide (bottom = (0 : Int))) = true then
    R.exn ⟨"ZeroBottom", []⟩
  else
    (if (decide (bottom < (0 : Int))) = true then
      (((R.ok numbers >>= fun as => mapM (fun (number : Int) => R.ok (-number)) as) >>= fun x1 => R.ok (x1, (-bottom))) >>= fun z => (m_lowered z.1 z.2))
    else
      (m_lowered numbers bottom)))

@[irreducible] def m_Form_applied (self : T_Form) (passed : ((List Int) × Int)) : R ((List Int) × Int) :=
  R.ok passed >>= fun (p1 : ((List Int) × Int)) =>
  (((R.ok self.1.2 >>= fun as => mapM (fun (line : (List Int)) => (m_dot line p1.1)) as) >>= fun x2 => (mulM self.2 p1.2) >>= fun y3 => R.ok (x2, y3)) >>= fun z => (m_vector z.1 z.2))

@[irreducible] def m_law_pressed (outer : T_Form) (table : (List (List Int))) (under : Int) (inner : T_Form) (middle : (List (List Int))) (scale : Int) (point : (List Int)) : R Bool :=
  R.ok ((table.length : Nat) : Int) >>= fun (size : Int) =>
  (m_sandwich outer inner) >>= fun (found : T_Form) =>
  ((((((m_law_sandwich table middle) >>= fun x2 => ((mulM under under) >>= fun x1 => (mulM x1 scale)) >>= fun y3 => R.ok (x2, y3)) >>= fun y4 => R.ok (found, y4)) >>= fun z => (m_law_form_is z.1 z.2.1 z.2.2)) >>= fun z => R.ok (!z)) >>= fun z23 => if z23 = true then
    R.ok false
  else
    (((((m_sandwich inner outer) >>= fun x8 => ((m_law_sandwich middle table) >>= fun x6 => ((mulM scale scale) >>= fun x5 => (mulM x5 under)) >>= fun y7 => R.ok (x6, y7)) >>= fun y9 => R.ok (x8, y9)) >>= fun z => (m_law_form_is z.1 z.2.1 z.2.2)) >>= fun z => R.ok (!z)) >>= fun z22 => if z22 = true then
      R.ok false
    else
      (rngM 0 size >>= fun as => mapM (fun (k : Int) => (((getM table k) >>= fun x10 => R.ok (x10, point)) >>= fun z => (m_law_dot z.1 z.2))) as) >>= fun (turned : (List Int)) =>
      (m_law_value middle turned turned) >>= fun (due : Int) =>
      (((((m_Form_call found point) >>= fun x13 => (((mulM under under) >>= fun x11 => (mulM x11 scale)) >>= fun y12 => R.ok (due, y12)) >>= fun y14 => R.ok (x13, y14)) >>= fun z => (m_law_stands z.1 z.2.1 z.2.2)) >>= fun z => R.ok (!z)) >>= fun z21 => if z21 = true then
        R.ok false
      else
        (((R.ok inner >>= fun a15 => (m_Form_applied outer ((point, (1 : Int)))) >>= fun z16 => m_Form_at a15 z16) >>= fun x19 => (((mulM under under) >>= fun x17 => (mulM x17 scale)) >>= fun y18 => R.ok (due, y18)) >>= fun y20 => R.ok (x19, y20)) >>= fun z => (m_law_stands z.1 z.2.1 z.2.2)))))

@[irreducible] def mh_law_whole (value : Int) : R Bool :=
  R.ok (true && (!false))

def m_law_refused_b1 (one : T_Form) (two : T_Form) (first : Int) (second : Int) (s1 : Unit) (turn : Int) : R (Out Bool Unit Unit) :=
  R.ok false >>= fun (refused : Bool) =>
  tryR ((if (decide (turn = (0 : Int))) = true then
      (m_paired one two) >>= fun _ =>
      R.ok (.nxt refused)
    else
      (m_sandwich one two) >>= fun _ =>
      R.ok (.nxt refused)) : R (Out Bool Bool Empty)) ([(("ZeroBottom" : Str), true), (("SizesDiffer" : Str), true), (("NotSymmetric" : Str), true), (("NotSquare" : Str), true), (("BadRow" : Str), true), (("BadWeight" : Str), true)] : XTab) (fun (yX : Exn) =>
    ((((isR ([(("ZeroBottom" : Str), false), (("SizesDiffer" : Str), true), (("NotSymmetric" : Str), false), (("NotSquare" : Str), false), (("BadRow" : Str), false), (("BadWeight" : Str), false)] : XTab) yX) >>= fun z => R.ok (!z)) >>= fun z3 => if z3 = true then R.ok true else (((isR ([(("ZeroBottom" : Str), true), (("SizesDiffer" : Str), true), (("NotSymmetric" : Str), true), (("NotSquare" : Str), true), (("BadRow" : Str), true), (("BadWeight" : Str), true)] : XTab) yX) >>= fun z => R.ok (!z)) >>= fun z2 => if z2 = true then R.ok true else (isR ([(("ZeroBottom" : Str), false), (("SizesDiffer" : Str), false), (("NotSymmetric" : Str), false), (("NotSquare" : Str), false), (("BadRow" : Str), false), (("BadWeight" : Str), false)] : XTab) yX))) >>= fun z11 => if z11 = true then
      R.ok (.ret false)
    else
      (((isR ([(("ZeroBottom" : Str), false), (("SizesDiffer" : Str), false), (("NotSymmetric" : Str), false), (("NotSquare" : Str), false), (("BadRow" : Str), false), (("BadWeight" : Str), false)] : XTab) yX) >>= fun z4 => if z4 = true then R.ok true else (isR ([(("ZeroBottom" : Str), false), (("SizesDiffer" : Str), false), (("NotSymmetric" : Str), false), (("NotSquare" : Str), false), (("BadRow" : Str), false), (("BadWeight" : Str), false)] : XTab) yX)) >>= fun z10 => if z10 = true then
        R.ok (.ret false)
      else
        (((((xInt (["SizesDiffer"] : List Str) "one" yX) >>= fun z => (mh_law_whole z)) >>= fun z => R.ok (!z)) >>= fun z5 => if z5 = true then R.ok true else (((xInt (["SizesDiffer"] : List Str) "two" yX) >>= fun z => (mh_law_whole z)) >>= fun z => R.ok (!z))) >>= fun z9 => if z9 = true then
          R.ok (.ret false)
        else
          (((xInt (["SizesDiffer"] : List Str) "one" yX) >>= fun x6 => R.ok ((decide (x6 = first)))) >>= fun z8 => if z8 = true then ((xInt (["SizesDiffer"] : List Str) "two" yX) >>= fun x7 => R.ok ((decide (x7 = second)))) else R.ok false) >>= fun (refused : Bool) =>
          R.ok (.nxt refused))))) >>= Out.cs (fun (s12 : Bool) =>
  (if (!s12) = true then
    R.ok (.ret false)
  else
    R.ok (.nxt ()))) (fun b => R.ok (.ret b))

@[irreducible] def m_law_refused (one : T_Form) (two : T_Form) (first : Int) (second : Int) : R Bool :=
  rngM 0 ((2 : Int)) >>= fun as => loopR (m_law_refused_b1 one two first second) as () >>= End.cs (fun (s13 : Unit) =>
  R.ok true) (fun b => R.ok b)

@[irreducible] def m_law (script : (List Int)) : R Bool :=
  (m_law_draw_list script ((0 : Int)) ((30 : Int))) >>= fun (drawn : (Int × (List ((List Int) × Int)) × Int)) =>
  R.ok drawn.1 >>= fun (size : Int) =>
  (((m_law_cell script ((31 : Int))) >>= fun x1 => R.ok (x1, ((5 : Int) :: ((8 : Int) :: ((12 : Int) :: ((8 : Int) :: ((10 : Int) :: ((2 : Int) :: ((12 : Int) :: ((3 : Int) :: ((6 : Int) :: []))))))))))) >>= fun z => (m_law_digits z.1 z.2)) >>= fun (turn : (List Int)) =>
  (rngM 0 ((10 : Int)) >>= fun as => mapM (fun (k : Int) => ((m_law_cell script (((32 : Int) + k))) >>= m_law_line)) as) >>= fun (lines : (List (List Int))) =>
  (((((getM turn (0 : Int)) >>= fun y2 => (getM ((0 : Int) :: ((1 : Int) :: ((2 : Int) :: ((3 : Int) :: ((14 : Int) :: []))))) y2)) >>= fun x3 => R.ok (x3, lines)) >>= fun y4 => R.ok (size, y4)) >>= fun z => (m_law_any_table z.1 z.2.1 z.2.2)) >>= fun (table : (List (List Int))) =>
  ((((((((((powM (10 : Int) (9 : Int)) >>= fun x5 => R.ok ((x5 + (7 : Int)))) >>= fun x8 => (((powM (10 : Int) (40 : Int)) >>= fun x6 => R.ok ((x6 + (121 : Int)))) >>= fun x7 => R.ok (x7 :: [])) >>= fun y9 => R.ok (x8 :: y9)) >>= fun y10 => R.ok ((1 : Int) :: y10)) >>= fun y11 => R.ok ((7 : Int) :: y11)) >>= fun y12 => R.ok ((12 : Int) :: y12)) >>= fun y13 => R.ok ((3 : Int) :: y13)) >>= fun y14 => R.ok ((2 : Int) :: y14)) >>= fun y15 => R.ok ((1 : Int) :: y15)) >>= fun x16 => (getM turn (1 : Int)) >>= fun y17 => (getM x16 y17)) >>= fun (under : Int) =>
  (m_law_table size drawn.2.1) >>= fun (middle : (List (List Int))) =>
  ((((((getM turn (4 : Int)) >>= fun x22 => ((getM turn (2 : Int)) >>= fun x20 => ((getM turn (3 : Int)) >>= fun x18 => (getM turn (7 : Int)) >>= fun y19 => R.ok (x18, y19)) >>= fun y21 => R.ok (x20, y21)) >>= fun y23 => R.ok (x22, y23)) >>= fun y24 => R.ok (size, y24)) >>= fun y25 => R.ok ((42 : Int), y25)) >>= fun y26 => R.ok (script, y26)) >>= fun z => (m_law_draw_pairs z.1 z.2.1 z.2.2.1 z.2.2.2.1 z.2.2.2.2.1 z.2.2.2.2.2.1 z.2.2.2.2.2.2)) >>= fun (others : (List ((List Int) × Int))) =>
  ((getM turn (8 : Int)) >>= fun y27 => (getM ((1 : Int) :: ((4 : Int) :: ((6 : Int) :: ((1 : Int) :: ((1000 : Int) :: ((5 : Int) :: [])))))) y27)) >>= fun (share : Int) =>
  (((R.ok drawn.2.1 >>= fun as => mapM (fun (pair : ((List Int) × Int)) => R.ok (pair.1, pair.2)) as) >>= fun y28 => R.ok (size, y28)) >>= fun a29 => R.ok drawn.2.2 >>= fun z30 => m_RowList_init_i_LHLiie_i a29.1 a29.2 z30) >>= fun (rows : T_RowList) =>
  (m_RowList_init_i_LPTiie_i size others share) >>= fun (again : T_RowList) =>
  ((R.ok table >>= fun as => mapM (fun (line : (List Int)) => R.ok line) as) >>= fun a31 => R.ok under >>= fun z32 => m_Form_init a31 z32) >>= fun (form : T_Form) =>
  ((((m_law_form_is rows.2 middle drawn.2.2) >>= fun z => R.ok (!z)) >>= fun z33 => if z33 = true then R.ok true else ((m_law_form_is form table under) >>= fun z => R.ok (!z))) >>= fun z73 => if z73 = true then
    R.ok false
  else
    (m_law_weighted drawn.2.1 table) >>= fun (due : Int) =>
    (((((m_paired rows.2 form) >>= fun x35 => ((mulM drawn.2.2 under) >>= fun y34 => R.ok (due, y34)) >>= fun y36 => R.ok (x35, y36)) >>= fun z => (m_law_stands z.1 z.2.1 z.2.2)) >>= fun z => R.ok (!z)) >>= fun z72 => if z72 = true then
      R.ok false
    else
      (m_paired rows.2 again.2) >>= fun (crossed : (Int × Int)) =>
      (((((((m_law_crossed drawn.2.1 others) >>= fun x37 => (mulM drawn.2.2 share) >>= fun y38 => R.ok (x37, y38)) >>= fun y39 => R.ok (crossed, y39)) >>= fun z => (m_law_stands z.1 z.2.1 z.2.2)) >>= fun z => R.ok (!z)) >>= fun z40 => if z40 = true then R.ok true else R.ok (decide (crossed.1 < (0 : Int)))) >>= fun z71 => if z71 = true then
        R.ok false
      else
        (((((m_paired form rows.2) >>= fun x42 => ((mulM drawn.2.2 under) >>= fun y41 => R.ok (due, y41)) >>= fun y43 => R.ok (x42, y43)) >>= fun z => (m_law_stands z.1 z.2.1 z.2.2)) >>= fun z => R.ok (!z)) >>= fun z70 => if z70 = true then
          R.ok false
        else
          (((((m_paired form form) >>= fun x46 => (((R.ok table >>= fun as => mapM (fun (line : (List Int)) => (m_law_dot line line)) as) >>= fun z => R.ok (List.sum z)) >>= fun x44 => (mulM under under) >>= fun y45 => R.ok (x44, y45)) >>= fun y47 => R.ok (x46, y47)) >>= fun z => (m_law_stands z.1 z.2.1 z.2.2)) >>= fun z => R.ok (!z)) >>= fun z69 => if z69 = true then
            R.ok false
          else
            (((((m_sandwich form form) >>= fun x51 => ((m_law_sandwich table table) >>= fun x49 => ((mulM under under) >>= fun x48 => (mulM x48 under)) >>= fun y50 => R.ok (x49, y50)) >>= fun y52 => R.ok (x51, y52)) >>= fun z => (m_law_form_is z.1 z.2.1 z.2.2)) >>= fun z => R.ok (!z)) >>= fun z68 => if z68 = true then
              R.ok false
            else
              ((((getM turn (6 : Int)) >>= fun x53 => ((m_law_cell script ((51 : Int))) >>= m_law_line) >>= fun y54 => R.ok (x53, y54)) >>= fun y55 => R.ok (size, y55)) >>= fun z => (m_law_row z.1 z.2.1 z.2.2)) >>= fun (point : (List Int)) =>
              (((m_law_pressed form table under rows.2 middle drawn.2.2 point) >>= fun z => R.ok (!z)) >>= fun z67 => if z67 = true then
                R.ok false
              else
                R.ok (size + (1 : Int)) >>= fun (wrong : Int) =>
                (if (decide (size = (10 : Int))) = true then R.ok true else (((getM turn (5 : Int)) >>= fun x56 => R.ok ((decide (x56 = (1 : Int))))) >>= fun z57 => if z57 = true then R.ok (decide ((0 : Int) < size)) else R.ok false)) >>= fun z66 => ((if z66 = true then R.ok (size - (1 : Int)) >>= fun (wrong : Int) =>
                  R.ok wrong else R.ok wrong) : R Int) >>= fun (j58 : Int) =>
                ((m_law_any_table j58 ((0 : Int)) lines) >>= fun a59 => R.ok under >>= fun z60 => m_Form_init a59 z60) >>= fun (strange : T_Form) =>
                ((((m_law_refused form strange size j58) >>= fun z => R.ok (!z)) >>= fun z61 => if z61 = true then R.ok true else ((m_law_refused strange form j58 size) >>= fun z => R.ok (!z))) >>= fun z65 => if z65 = true then
                  R.ok false
                else
                  (((m_paired rows.2 form) >>= fun x63 => ((mulM drawn.2.2 under) >>= fun y62 => R.ok (due, y62)) >>= fun y64 => R.ok (x63, y64)) >>= fun z => (m_law_stands z.1 z.2.1 z.2.2))))))))))
end Lw
set_option maxHeartbeats 4000000
set_option exponentiation.threshold 100000
namespace Lw
open PySem Zk
theorem cell_is (s : List Int) (k : Int) : m_law_cell s k = law_cell s k := by unfold m_law_cell; rfl
theorem digits_is (c : Int) (s : List Int) : m_law_digits c s = law_digits c s := by unfold m_law_digits; rfl
theorem gcd_is (a b : Int) : m_law_gcd a b = law_gcd a b := by unfold m_law_gcd; rfl
theorem cell_k (s : List Int) {j : Int} (k : Nat) (e : j = (k : Int)) (hk : k ≤ 100000) : Ok (m_law_cell s j) fun _ => True := by
  obtain ⟨v, h⟩ := law_cell_ok s k hk
  exact ⟨v, by rw [cell_is, e]; exact h, trivial⟩
theorem digits_k (c : Int) (s : List Int) (hl : s.length ≤ 1000 := by decide) (hs : ∀ z ∈ s, 0 < z ∧ z.natAbs.log2 < 9000 := by decide +kernel) : Ok (m_law_digits c s) (Digs s) := by
  rw [digits_is]
  exact law_digits_ok c s hl hs
theorem p8 : powM (10 : Int) (8 : Int) = .ok 100000000 := R.guard_ok (by decide)
theorem p12 : powM (10 : Int) (12 : Int) = .ok 1000000000000 := R.guard_ok (by decide)
theorem p11 : powM (10 : Int) (11 : Int) = .ok 100000000000 := R.guard_ok (by decide)
theorem p30 : powM (10 : Int) (30 : Int) = .ok 1000000000000000000000000000000 := R.guard_ok (by decide)
/-! ### a line of numbers -/
def LS : List Int := [20000, 100000000, 20000, 100000000, 20000, 100000000, 20000, 100000000, 20000, 100000000, 20000, 100000000, 20000, 100000000, 20000, 100000000, 20000, 100000000, 20000, 100000000, 9, 1000, 100000000]
theorem line_ok (c : Int) : Ok (m_law_line c) (Digs LS) := by
  unfold m_law_line
  simp only [p8, R.ok_bind]
  rw [show repM ((20000 : Int) :: (100000000 : Int) :: []) 10 = .ok (List.flatten (List.replicate 10 [20000, 100000000])) from R.guard_ok (by decide)]
  simp only [R.ok_bind]
  rw [catM_ok (by decide)]
  simp only [R.ok_bind]
  exact digits_k c LS
theorem ls_get {line : List Int} (h : Digs LS line) (i : Nat) (hi : i < 23) : ∃ x : Int, line[i]? = some x ∧ 0 ≤ x ∧ x < 100000000 := by
  have key : ∀ i, i < 23 → ∃ z : Int, LS[i]? = some z ∧ z ≤ 100000000 := by decide
  obtain ⟨z, hz, hl⟩ := key i hi
  obtain ⟨d, h1, h2, h3⟩ := h.2 i z hz
  exact ⟨d, h1, h2, by omega⟩
theorem ls_ok {line : List Int} (h : Digs LS line) {j : Int} (h0 : 0 ≤ j) (h1 : j < 23) : Ok (getM line j) fun x => 0 ≤ x ∧ x < 100000000 := by
  obtain ⟨x, e, hx⟩ := ls_get h j.toNat (by omega)
  exact ⟨x, getM_of (by omega) e, hx⟩
/-- numbers from 0 up, so many -/
def Nums (n : Nat) (l : List Int) : Prop := ∃ f, l = vec n f ∧ ∀ k, k < n → 0 ≤ f k ∧ f k < 100000000
theorem Nums.get {n : Nat} {l : List Int} (h : Nums n l) {j : Int} (h0 : 0 ≤ j) (h1 : j < n) : Ok (getM l j) fun x => 0 ≤ x ∧ x < 100000000 := by
  obtain ⟨f, rfl, hf⟩ := h
  exact (Ok.getv h0 h1).mono fun x hx => by rw [hx]; exact hf _ (by omega)
theorem seven_ok {line : List Int} (h : Digs LS line) : Ok (m_law_seven line) (Nums 13) := by
  unfold m_law_seven
  refine Ok.bind (Ok.bind (Ok.eq (rng0 10 (by decide))) fun l hl => by
    rw [hl]
    exact Ok.map (Q := fun _ x => 0 ≤ x ∧ x < 7) (fun k hk => by
      simp only [R.bind_assoc, R.ok_bind]
      refine (Ok.mul (m := 2) (n := 30) (by unfold Sz; decide) (by unfold Sz; omega)).bind fun a ha => ?_
      refine (ls_ok h (by omega) (by omega)).bind fun x hx => ?_
      exact Ok.mod (by decide)) (by decide)) fun a ha => ?_
  obtain ⟨g, rfl, hg⟩ := ha
  simp only [R.ok_bind]
  have e : line = vec 23 fun i => line.getD i 0 := by
    have := vec_of line 0
    rw [h.1] at this
    exact this
  have e2 : cutA line (some (20 : Int)) none = vec 3 fun k => line.getD (20 + k) 0 := by
    rw [e]
    unfold cutA
    rw [vec_length]
    apply List.ext_getElem?
    intro k
    show ((List.drop (min 20 23) (vec 23 fun i => line.getD i 0)).take (23 - min 20 23))[k]? = _
    rw [List.getElem?_take]
    by_cases q : k < 3
    · rw [if_pos (by omega), List.getElem?_drop, vec_get (by omega), vec_get q, ← e]
      rfl
    · rw [if_neg (by omega), List.getElem?_eq_none (by simpa using q)]
  rw [e2]
  refine (Ok.cat (by decide)).mono fun l hl => ⟨_, hl, fun k hk => ?_⟩
  by_cases q : k < 10
  · rw [if_pos q]
    have := hg k q
    omega
  · rw [if_neg q]
    obtain ⟨x, hx, h1⟩ := ls_get h (20 + (k - 10)) (by omega)
    rw [List.getD_eq_getElem?_getD, hx]
    exact h1
/-! ### rows -/
def Row (n b : Nat) (l : List Int) : Prop := ∃ f, l = vec n f ∧ ∀ k, k < n → Sz b (f k)
theorem Row.up {n b c : Nat} {l : List Int} (h : Row n b l) (hb : b ≤ c := by decide) : Row n c l := by
  obtain ⟨f, e, h⟩ := h
  exact ⟨f, e, fun k hk => (h k hk).up hb⟩
theorem wide_ok {line : List Int} (h : Digs LS line) {n : Nat} (hn : n ≤ 10) : Ok (m_law_wide (n : Int) line) (Row n 41) := by
  unfold m_law_wide
  refine (Ok.eq (rng0 n (by omega))).bind fun l hl => ?_
  rw [hl]
  refine Ok.map (fun k hk => ?_) (by omega)
  simp only [R.bind_assoc, R.ok_bind, p8]
  refine (Ok.mul (m := 2) (n := 30) (by unfold Sz; decide) (by unfold Sz; omega)).bind fun a ha => ?_
  obtain ⟨rfl, _⟩ := ha
  refine Ok.bind (P := fun x => 0 ≤ x ∧ x < 20000) ?_ fun x hx => ?_
  · obtain ⟨d, h1, h2, h3⟩ := h.2 (2 * k) 20000 (by
      have : ∀ k, k < 10 → LS[2 * k]? = some 20000 := by decide
      exact this k (by omega))
    exact ⟨d, getM_of (by omega) h1, h2, h3⟩
  refine (Ok.mul (m := 15) (n := 27) (by unfold Sz; omega) (by unfold Sz; decide)).bind fun y hy => ?_
  obtain ⟨rfl, _⟩ := hy
  refine (Ok.mul (m := 2) (n := 30) (by unfold Sz; decide) (by unfold Sz; omega)).bind fun a ha => ?_
  obtain ⟨rfl, _⟩ := ha
  refine (ls_ok h (by omega) (by omega)).bind fun z hz => ?_
  refine Ok.ret ?_
  unfold Sz
  omega
theorem bi {b : Bool} : (0 : Int) ≤ (if b = true then 1 else 0) ∧ (if b = true then (1 : Int) else 0) ≤ 1 := by cases b <;> decide
theorem drawRow_ok {row : List Int} (h : Nums 13 row) {n : Nat} (hn : n ≤ 10) (kind : Int) : Ok (m_law_draw_row (n : Int) kind row) (Row n 41) := by
  unfold m_law_draw_row
  refine Ok.bind (Ok.bind (Ok.eq (rng0 n (by omega))) fun l hl => by
    rw [hl]
    exact Ok.map (Q := fun _ x => Sz 30 x) (fun k hk => by
      refine (h.get (by omega) (by omega)).bind fun x hx => Ok.ret ?_
      unfold Sz; omega) (by omega)) fun small hs => ?_
  have hs2 : Row n 41 small := Row.up (b := 30) hs
  refine Ok.ite (fun c => ?_) (fun c => ?_)
  · have c1 : (1 : Int) < n := by simp only [Bool.and_eq_true, decide_eq_true_eq] at c; exact c.1
    simp only [R.bind_assoc, R.ok_bind]
    refine (h.get (by omega) (by omega)).bind fun x hx => ?_
    refine (Ok.mod (by omega)).bind fun one _ => ?_
    refine (h.get (by omega) (by omega)).bind fun x hx => ?_
    refine (Ok.mod (by omega)).bind fun y _ => ?_
    refine (Ok.mod (by omega)).bind fun two _ => ?_
    refine (Ok.eq (rng0 n (by omega))).bind fun l hl => ?_
    rw [hl]
    refine Ok.map (fun k hk => Ok.ret ?_) (by omega)
    have b1 := bi (b := decide ((k : Int) = one))
    have b2 := bi (b := decide ((k : Int) = two))
    unfold Sz
    omega
  refine Ok.ite (fun c => ?_) (fun c => ?_)
  · have c1 : (1 : Int) < n := by simp only [Bool.and_eq_true, decide_eq_true_eq] at c; exact c.1
    obtain ⟨f, rfl, hf⟩ := hs2
    simp only [R.bind_assoc, R.ok_bind]
    refine (Ok.getv (by omega) (by omega)).bind fun x hx => ?_
    have e : cutA (vec n f) none (some ((n : Int) - 1)) = vec (n - 1) f := by
      have q := cutA_vec (n := n) (f := f) (a := 0) (m := n - 1) (by omega)
      rw [show ((0 : Nat) : Int) + ((n - 1 : Nat) : Int) = (n : Int) - 1 by omega] at q
      simp only [Nat.zero_add] at q
      rw [← q]
      unfold cutA
      congr 2
    rw [e, show ([x] : List Int) = vec 1 (fun _ => x) from rfl]
    refine (Ok.cat (by omega)).mono fun l hl => ⟨fun k => if k < n - 1 then f k else x, ?_, fun k hk => ?_⟩
    · rw [hl, show n - 1 + 1 = n by omega]
    · show Sz 41 (if k < n - 1 then f k else x)
      split
      · exact hf k (by omega)
      · rw [hx]; exact hf _ (by omega)
  refine Ok.ite (fun c => ?_) (fun c => ?_)
  · refine Ok.ite (fun c1 => ?_) (fun c1 => Ok.ret hs2)
    have c1 : (n : Int) < 10 := of_decide_eq_true c1
    refine (Ok.eq (rng0 n (by omega))).bind fun l hl => ?_
    rw [hl]
    refine Ok.map (fun k hk => ?_) (by omega)
    simp only [R.bind_assoc, R.ok_bind]
    refine (h.get (by omega) (by omega)).bind fun x hx => ?_
    refine (Ok.mul (m := 30) (n := 7) (by unfold Sz; omega) (by unfold Sz; decide)).bind fun y hy => ?_
    refine (h.get (by omega) (by omega)).bind fun z hz => Ok.ret ?_
    unfold Sz
    omega
  refine Ok.ite (fun c => ?_) (fun c => ?_)
  · refine (Ok.eq (rng0 n (by omega))).bind fun l hl => ?_
    rw [hl]
    refine Ok.map (fun k hk => ?_) (by omega)
    simp only [R.bind_assoc, R.ok_bind]
    refine (h.get (by omega) (by omega)).bind fun x hx => ?_
    refine (h.get (by omega) (by omega)).bind fun z hz => ?_
    have b1 := bi (b := decide ((4 : Int) ≤ z))
    exact (Ok.mul (m := 30) (n := 1) (by unfold Sz; omega) (by unfold Sz; omega)).mono fun y hy => hy.2.up
  refine Ok.ite (fun c => ?_) (fun c => ?_)
  · have c1 : (0 : Int) < n := by simp only [Bool.and_eq_true, decide_eq_true_eq] at c; exact c.1
    refine (Ok.eq (rng0 n (by omega))).bind fun l hl => ?_
    rw [hl]
    refine Ok.map (fun k hk => ?_) (by omega)
    simp only [R.bind_assoc, R.ok_bind]
    refine (h.get (by omega) (by omega)).bind fun x hx => ?_
    refine (Ok.mod c1).bind fun y hy => ?_
    refine (h.get (by omega) (by omega)).bind fun z hz => ?_
    refine (Ok.mod (by decide)).bind fun w hw => ?_
    have b1 := bi (b := decide ((k : Int) = y))
    exact (Ok.mul (m := 1) (n := 3) (by unfold Sz; omega) (by unfold Sz; omega)).mono fun y hy => hy.2.up
  refine Ok.bind (P := fun _ => True) ?_ fun z _ => ?_
  · refine Ok.ite (fun _ => ?_) (fun _ => Ok.ret trivial)
    exact (h.get (by omega) (by omega)).bind fun x hx => Ok.ret trivial
  refine Ok.ite (fun _ => ?_) (fun _ => Ok.ret hs2)
  refine (Ok.eq (rng0 n (by omega))).bind fun l hl => ?_
  rw [hl]
  exact Ok.map (fun k hk => Ok.ret Sz.zero) (by omega)
theorem row_ok {line : List Int} (h : Digs LS line) {n : Nat} (hn : n ≤ 10) (kind : Int) : Ok (m_law_row (n : Int) kind line) (Row n 41) := by
  unfold m_law_row
  refine Ok.ite (fun _ => wide_ok h hn) (fun _ => ?_)
  simp only [R.bind_assoc, R.ok_bind]
  exact (seven_ok h).bind fun l hl => drawRow_ok hl hn kind
theorem weight_ok {row : List Int} (h : Nums 13 row) (kind : Int) : Ok (m_law_draw_weight kind row) (Sz 48) := by
  unfold m_law_draw_weight
  have s1 : Sz 48 1 := by unfold Sz; decide
  refine Ok.ite (fun _ => Ok.ret s1) (fun _ => ?_)
  simp only [R.bind_assoc, R.ok_bind]
  refine Ok.ite (fun _ => ?_) (fun _ => ?_)
  · refine (h.get (by omega) (by omega)).bind fun x hx => ?_
    refine (h.get (by omega) (by omega)).bind fun y hy => ?_
    refine (Ok.mul (m := 10) (n := 30) (by unfold Sz; decide) (by unfold Sz; omega)).bind fun z hz => Ok.ret ?_
    unfold Sz; omega
  refine Ok.ite (fun _ => ?_) (fun _ => ?_)
  · refine (h.get (by omega) (by omega)).bind fun x hx => Ok.ret ?_
    unfold Sz; omega
  refine Ok.ite (fun _ => ?_) (fun _ => ?_)
  · refine (h.get (by omega) (by omega)).bind fun x hx => ?_
    refine (Ok.mod (by decide)).bind fun y hy => ?_
    refine (Ok.get (l := (1 : Int) :: (1000000 : Int) :: []) hy.1 hy.2).mono fun z hz => ?_
    have m := List.mem_of_getElem? hz
    have key : ∀ z ∈ ((1 : Int) :: (1000000 : Int) :: []), Sz 48 z := by unfold Sz; decide
    exact key z m
  refine Ok.ite (fun _ => ?_) (fun _ => ?_)
  · refine (h.get (by omega) (by omega)).bind fun x hx => ?_
    refine (Ok.mul (m := 30) (n := 20) (by unfold Sz; omega) (by unfold Sz; decide)).bind fun z hz => Ok.ret ?_
    unfold Sz; omega
  · refine (h.get (by omega) (by omega)).bind fun x hx => Ok.ret ?_
    unfold Sz; omega
/-! ### tables -/
theorem mat_set2 {α β : Type} {n m i j : Nat} {M : Nat → Nat → α} {z : α} {k : List (List α) → R β} (hi : i < n) (hj : j < m) : (getM (mat n m M) (i : Int) >>= fun r => setM r (j : Int) z >>= fun r' => setM (mat n m M) (i : Int) r' >>= k) = k (mat n m (upd2 M i j z)) := by
  have h := mat_set (M := M) (z := z) hi hj
  rw [mat_get hi] at h ⊢
  simp only [R.ok_bind] at h ⊢
  rw [setM_vec hj] at h ⊢
  simp only [R.ok_bind] at h ⊢
  rw [h]
  rfl
theorem mat_get2 {α β : Type} {n m i j : Nat} {M : Nat → Nat → α} {k : α → R β} (hi : i < n) (hj : j < m) : (getM (mat n m M) (i : Int) >>= fun r => getM r (j : Int) >>= k) = k (M i j) := by
  rw [mat_get hi]
  simp only [R.ok_bind]
  rw [getM_vec hj]
  rfl
structure Tab (n b : Nat) (l : List (List Int)) : Prop where
  ex : ∃ M, l = mat n n M ∧ (∀ i, i < n → ∀ j, j < n → M i j = M j i) ∧ ∀ i, i < n → ∀ j, j < n → Sz b (M i j)
theorem Tab.up {n b c : Nat} {l : List (List Int)} (h : Tab n b l) (hb : b ≤ c := by decide) : Tab n c l := by
  obtain ⟨M, e, h1, h2⟩ := h.ex
  exact ⟨M, e, h1, fun i hi j hj => (h2 i hi j hj).up hb⟩
theorem zeros (n : Nat) (hn : n ≤ 10) : (rngM 0 (n : Int) >>= fun as => mapM (fun (i : Int) => (rngM 0 (n : Int) >>= fun as => mapM (fun (j : Int) => R.ok (0 : Int)) as)) as) = .ok (mat n n fun _ _ => 0) := by
  rw [rng0 n (by omega)]
  simp only [R.ok_bind]
  exact mapM_vec (fun k hk => mapM_vec (fun j hj => rfl) (by omega)) (by omega)
theorem table_b1 {n i j : Nat} {f : Nat → Int} {w : Int} {M : Nat → Nat → Int} (hi : i < n) (hj : j < n) (hf : ∀ k, k < n → Sz 43 (f k)) (hw : Sz 48 w) : m_law_table_b1 (vec n f, w) (i : Int) (mat n n M) (j : Int) = .ok (mat n n (upd2 M i j (M i j + w * f i * f j))) := by
  unfold m_law_table_b1
  simp only [R.bind_assoc, R.ok_bind]
  rw [mat_get2 hi hj, getM_vec hi]
  simp only [R.ok_bind]
  rw [mulS hw (hf i hi)]
  simp only [R.ok_bind]
  rw [getM_vec hj]
  simp only [R.ok_bind]
  rw [mulS (hw.mul (hf i hi)) (hf j hj)]
  simp only [R.ok_bind]
  rw [mat_set2 hi hj]
theorem table_b2 {n i : Nat} {f : Nat → Int} {w : Int} {M : Nat → Nat → Int} (hn : n ≤ 10) (hi : i < n) (hf : ∀ k, k < n → Sz 43 (f k)) (hw : Sz 48 w) : m_law_table_b2 (n : Int) (vec n f, w) (mat n n M) (i : Int) = .ok (mat n n fun a b => if a = i then M a b + w * f a * f b else M a b) := by
  unfold m_law_table_b2
  rw [rng0 n (by omega)]
  simp only [R.ok_bind]
  have h := foldR_seq (step := m_law_table_b1 (vec n f, w) (i : Int)) (a := fun k => (k : Int)) (fun t => mat n n fun a b => if a = i ∧ b < t then M a b + w * f a * f b else M a b) n fun j hj => by
    rw [table_b1 hi hj hf hw]
    congr 1
    refine mat_ext fun a ha b hb => ?_
    unfold upd2
    dsimp only
    by_cases e : a = i
    · subst e
      by_cases q : b = j
      · subst q
        simp
      · by_cases q2 : b < j
        · rw [if_neg (by omega), if_pos ⟨rfl, q2⟩, if_pos ⟨rfl, by omega⟩]
        · rw [if_neg (by omega), if_neg (by omega), if_neg (by omega)]
    · rw [if_neg (by omega), if_neg (by omega), if_neg (by omega)]
  rw [show (fun a b => if a = i ∧ b < 0 then M a b + w * f a * f b else M a b) = M from funext fun a => funext fun b => if_neg (by omega)] at h
  rw [h]
  simp only [R.ok_bind]
  congr 1
  refine mat_ext fun a ha b hb => ?_
  by_cases e : a = i
  · rw [if_pos e, if_pos ⟨e, hb⟩]
  · rw [if_neg e, if_neg (by omega)]
theorem table_b3 {n : Nat} {f : Nat → Int} {w : Int} {M : Nat → Nat → Int} (hn : n ≤ 10) (hf : ∀ k, k < n → Sz 43 (f k)) (hw : Sz 48 w) : m_law_table_b3 (n : Int) (mat n n M) (vec n f, w) = .ok (mat n n fun a b => M a b + w * f a * f b) := by
  unfold m_law_table_b3
  rw [rng0 n (by omega)]
  simp only [R.ok_bind]
  have h := foldR_seq (step := m_law_table_b2 (n : Int) (vec n f, w)) (a := fun k => (k : Int)) (fun t => mat n n fun a b => if a < t then M a b + w * f a * f b else M a b) n fun i hi => by
    rw [table_b2 hn hi hf hw]
    congr 1
    refine mat_ext fun a ha b hb => ?_
    by_cases e : a = i
    · subst e
      rw [if_pos rfl, if_neg (Nat.lt_irrefl a), if_pos (Nat.lt_succ_self a)]
    · rw [if_neg e]
      by_cases q : a < i
      · rw [if_pos q, if_pos (by omega)]
      · rw [if_neg q, if_neg (by omega)]
  rw [show (fun a b => if a < 0 then M a b + w * f a * f b else M a b) = M from funext fun a => funext fun b => if_neg (by omega)] at h
  rw [h]
  simp only [R.ok_bind]
  congr 1
  exact mat_ext fun a ha b hb => if_pos ha
theorem table_ok {n m : Nat} (hn : n ≤ 10) (hm : m ≤ 16) (ps : Nat → List Int × Int) (h : ∀ t, t < m → Row n 43 (ps t).1 ∧ Sz 48 (ps t).2) : Ok (m_law_table (n : Int) (vec m ps)) (Tab n 139) := by
  unfold m_law_table
  rw [zeros n hn]
  simp only [R.ok_bind]
  refine Ok.bind (Ok.fold (fun t s => ∃ M, s = mat n n M ∧ (∀ i, i < n → ∀ j, j < n → M i j = M j i) ∧ ∀ i, i < n → ∀ j, j < n → (M i j).natAbs ≤ t * 2 ^ 134) ⟨_, rfl, fun _ _ _ _ => rfl, fun _ _ _ _ => by simp⟩ fun t ht s hs => ?_) fun l hl => Ok.ret ?_
  · obtain ⟨M, rfl, h1, h2⟩ := hs
    obtain ⟨⟨f, e, hf⟩, hw⟩ := h t ht
    have e2 : ps t = (vec n f, (ps t).2) := by rw [← e]
    rw [e2]
    refine ⟨_, table_b3 hn hf hw, _, rfl, fun i hi j hj => ?_, fun i hi j hj => ?_⟩
    · rw [h1 i hi j hj]
      congr 1
      ac_rfl
    · have k := (hw.mul (hf i hi)).mul (hf j hj)
      unfold Sz at k
      have q := Int.natAbs_add_le (M i j) ((ps t).2 * f i * f j)
      have := h2 i hi j hj
      rw [Nat.succ_mul]
      omega
  · obtain ⟨M, rfl, h1, h2⟩ := hl
    refine ⟨M, rfl, h1, fun i hi j hj => ?_⟩
    have := h2 i hi j hj
    unfold Sz
    omega
/-! ### a table of any numbers -/
theorem Tab.two {n b : Nat} {l : List (List Int)} (h : Tab n b l) {i j : Nat} (hi : i < n) (hj : j < n) {z : Int} (hz : Sz b z) {γ : Type} {k : List (List Int) → R γ} {Q : γ → Prop} (hk : ∀ l', Tab n b l' → Ok (k l') Q) :
    Ok (getM l (i : Int) >>= fun r => setM r (j : Int) z >>= fun r' => setM l (i : Int) r' >>= fun t => getM t (j : Int) >>= fun r => setM r (i : Int) z >>= fun r' => setM t (j : Int) r' >>= k) Q := by
  obtain ⟨M, rfl, h1, h2⟩ := h.ex
  rw [mat_set2 hi hj, mat_set2 hj hi]
  refine hk _ ⟨_, rfl, fun a ha b hb => ?_, fun a ha b hb => ?_⟩
  · unfold upd2
    by_cases q1 : a = j ∧ b = i
    · rw [if_pos q1]
      by_cases q2 : b = j ∧ a = i
      · rw [if_pos q2]
      · rw [if_neg q2, if_pos ⟨q1.2, q1.1⟩]
    · rw [if_neg q1]
      by_cases q2 : a = i ∧ b = j
      · rw [if_pos q2, if_pos ⟨q2.2, q2.1⟩]
      · rw [if_neg q2, if_neg (by omega), if_neg (by omega), h1 a ha b hb]
  · unfold upd2
    split
    · exact hz
    · split
      · exact hz
      · exact h2 a ha b hb
theorem any_b1 {n i t : Nat} (hn : n ≤ 10) (kind : Int) {lines : List (List Int)} {L : Nat → List Int} (hL : lines = vec 10 L) (hl : ∀ k, k < 10 → Digs LS (L k)) {wide : List Int} (hw : Row n 41 wide) (hi : i < n) (ht : i + t < n) (s : List (List Int)) (hs : Tab n 139 s) :
    Ok (m_law_any_table_b1 (n : Int) kind lines (i : Int) wide s ((i + t : Nat) : Int)) (Tab n 139) := by
  subst hL
  obtain ⟨W, rfl, hW⟩ := hw
  unfold m_law_any_table_b1
  simp only [R.bind_assoc, R.ok_bind, R.bind_ok]
  have rd : ∀ {γ : Type} {k : Int → R γ} {Q : γ → Prop}, (∀ x, 0 ≤ x ∧ x < 100000000 → Ok (k x) Q) → Ok (getM (vec 10 L) (i : Int) >>= fun x6 => mulM 2 ((i + t : Nat) : Int) >>= fun y7 => getM x6 y7 >>= k) Q := fun hk => by
    rw [getM_vec (show i < 10 by omega)]
    simp only [R.ok_bind]
    refine (Ok.mul (m := 2) (n := 30) (by unfold Sz; decide) (by unfold Sz; omega)).bind fun a ha => ?_
    obtain ⟨rfl, _⟩ := ha
    exact (ls_ok (hl i (by omega)) (by omega) (by omega)).bind hk
  refine rd fun x hx => ?_
  refine (Ok.mod (by decide)).bind fun x9 h9 => ?_
  have bz : ∀ x : Int, -100 < x → x < 100 → Sz 42 x := fun x h1 h2 => by unfold Sz; omega
  refine Ok.bind (P := fun z => Sz 42 z) (Ok.ite (fun _ => ?_) (fun _ => Ok.ret (bz _ (by omega) (by omega)))) fun j10 h10 => ?_
  · exact (Ok.getn ht).mono fun z hz => by rw [hz]; exact (hW _ ht).up
  refine Ok.bind (P := fun z => Sz 42 z) (Ok.ite (fun _ => ?_) (fun _ => Ok.ret h10)) fun j15 h15 => ?_
  · refine rd fun x hx => ?_
    refine (Ok.mod (by decide)).bind fun y hy => ?_
    refine (Ok.get (l := (0 : Int) :: (0 : Int) :: (0 : Int) :: (1 : Int) :: (-(1 : Int)) :: (2 : Int) :: []) hy.1 hy.2).mono fun z hz => ?_
    have m := List.mem_of_getElem? hz
    have key : ∀ z ∈ ((0 : Int) :: (0 : Int) :: (0 : Int) :: (1 : Int) :: (-(1 : Int)) :: (2 : Int) :: []), Sz 42 z := by unfold Sz; decide
    exact key z m
  refine Ok.bind (P := fun z => Sz 43 z) (Ok.ite (fun _ => ?_) (fun _ => Ok.ret h15.up)) fun j17 h17 => ?_
  · refine (Ok.mul (m := 3) (n := 5) (by unfold Sz; decide) (by unfold Sz; omega)).bind fun y hy => Ok.ret ?_
    exact h15.add hy.2.up
  refine Ok.bind (P := fun z => Sz 139 z) (Ok.ite (fun _ => ?_) (fun _ => Ok.ret h17.up)) fun j20 h20 => ?_
  · rw [p12]
    simp only [R.ok_bind]
    refine (Ok.mul (m := 41) (n := 5) (by unfold Sz; decide) (by unfold Sz; omega)).bind fun y hy => Ok.ret ?_
    exact ((h17.up (n := 46)).add hy.2).up
  have q := hs.two hi ht h20 (k := R.ok) fun l' hl' => Ok.ret hl'
  simp only [R.bind_ok] at q
  exact q
theorem any_ok {n : Nat} (hn : n ≤ 10) (kind : Int) {L : Nat → List Int} (hl : ∀ k, k < 10 → Digs LS (L k)) : Ok (m_law_any_table (n : Int) kind (vec 10 L)) (Tab n 139) := by
  unfold m_law_any_table
  rw [zeros n hn, rng0 n (by omega)]
  simp only [R.ok_bind]
  refine Ok.bind (Ok.fold (fun _ s => Tab n 139 s) ⟨_, rfl, fun _ _ _ _ => rfl, fun _ _ _ _ => Sz.zero⟩ fun i hi s hs => ?_) fun l hl => Ok.ret hl
  unfold m_law_any_table_b2
  rw [getM_vec (show i < 10 by omega)]
  simp only [R.ok_bind]
  refine (wide_ok (hl i (by omega)) hn).bind fun w hw => ?_
  rw [rng2 i n (by omega) (by omega)]
  simp only [R.ok_bind]
  refine Ok.bind (Ok.fold (fun _ s => Tab n 139 s) hs fun t ht s hs => any_b1 hn kind rfl hl hw hi (by omega) s hs) fun l hl => Ok.ret hl
/-! ### a table that is a sum -/
theorem table_eq {n m : Nat} (hn : n ≤ 10) (f : Nat → Nat → Int) (w : Nat → Int) (hf : ∀ t, t < m → ∀ k, k < n → Sz 43 (f t k)) (hw : ∀ t, t < m → Sz 48 (w t)) : m_law_table (n : Int) (vec m fun t => (vec n (f t), w t)) = .ok (mat n n fun i j => sm m fun t => w t * f t i * f t j) := by
  unfold m_law_table
  rw [zeros n hn]
  simp only [R.ok_bind]
  have h := foldR_seq (step := m_law_table_b3 (n : Int)) (a := fun t => (vec n (f t), w t)) (fun t => mat n n fun i j => sm t fun t => w t * f t i * f t j) m fun t ht => by
    rw [table_b3 hn (hf t ht) (hw t ht)]
    congr 1
    exact mat_ext fun i hi j hj => by rw [sm_succ]
  have e0 : (mat n n fun i j => sm 0 fun t => w t * f t i * f t j) = mat n n fun _ _ => 0 := mat_ext fun i hi j hj => sm_zero
  rw [e0] at h
  rw [h]
  rfl
theorem digs_vec {sizes row : List Int} (h : Digs sizes row) : ∃ f, row = vec sizes.length f ∧ ∀ i s, sizes[i]? = some s → 0 ≤ f i ∧ f i < s := by
  refine ⟨fun i => row.getD i 0, ?_, fun i s hs => ?_⟩
  · have := vec_of row 0
    rw [h.1] at this
    exact this
  · obtain ⟨d, h1, h2⟩ := h.2 i s hs
    show 0 ≤ row.getD i 0 ∧ row.getD i 0 < s
    rw [List.getD_eq_getElem?_getD, h1]
    exact h2
/-- what a shape's numbers are -/
structure Shape (g : Nat → Int) : Prop where
  k1 : (0 ≤ g 1 ∧ g 1 < 4) ∨ g 1 = 14 ∨ (4 ≤ g 1 ∧ g 1 ≤ 13)
  k0 : 0 ≤ g 0 ∧ g 0 < 24
  k4 : 0 ≤ g 4 ∧ g 4 < 10
  k5 : 0 ≤ g 5 ∧ g 5 < 10
  k6 : 0 ≤ g 6 ∧ g 6 < 10
  k7 : 0 ≤ g 7 ∧ g 7 < 4
  k8 : 0 ≤ g 8 ∧ g 8 < 100000000
theorem gv {g : Nat → Int} (i : Nat) (h : i < 9) : getM (vec 9 g) (i : Int) = .ok (g i) := getM_vec h
theorem gv1 {g : Nat → Int} : getM (vec 9 g) 1 = .ok (g 1) := gv 1 (by decide)
theorem gv2 {g : Nat → Int} : getM (vec 9 g) 2 = .ok (g 2) := gv 2 (by decide)
theorem gv3 {g : Nat → Int} : getM (vec 9 g) 3 = .ok (g 3) := gv 3 (by decide)
theorem gv4 {g : Nat → Int} : getM (vec 9 g) 4 = .ok (g 4) := gv 4 (by decide)
theorem gv5 {g : Nat → Int} : getM (vec 9 g) 5 = .ok (g 5) := gv 5 (by decide)
theorem gv6 {g : Nat → Int} : getM (vec 9 g) 6 = .ok (g 6) := gv 6 (by decide)
theorem gv7 {g : Nat → Int} : getM (vec 9 g) 7 = .ok (g 7) := gv 7 (by decide)
theorem gv8 {g : Nat → Int} : getM (vec 9 g) 8 = .ok (g 8) := gv 8 (by decide)
theorem gv0 {g : Nat → Int} : getM (vec 9 g) 0 = .ok (g 0) := gv 0 (by decide)
/-! ### fractions -/
theorem fdiv_mul {x g : Int} (h : g ∣ x) (hg : g ≠ 0) : x.fdiv g * g = x := by
  obtain ⟨k, rfl⟩ := h
  rw [Int.mul_fdiv_cancel_left _ hg]
  exact Int.mul_comm _ _
/-- what a fraction in lowest terms is -/
structure Low (A B x y : Int) : Prop where
  pos : 1 ≤ B
  cop : Int.gcd A B = 1
  eq : A * y = x * B
  sa : A.natAbs ≤ x.natAbs
  sb : B.natAbs ≤ y.natAbs
theorem low_of (x y s : Int) (hy : y ≠ 0) (hs : s = if y < 0 then -((Int.gcd x y : Nat) : Int) else ((Int.gcd x y : Nat) : Int)) : Low (x.fdiv s) (y.fdiv s) x y := by
  have g0 : 0 < Int.gcd x y := Int.gcd_pos_of_ne_zero_right x hy
  have s0 : s ≠ 0 := by rw [hs]; split <;> omega
  have sn : s.natAbs = Int.gcd x y := by rw [hs]; split <;> omega
  have d1 : s ∣ x := Int.natAbs_dvd.mp (by rw [sn]; exact Int.gcd_dvd_left ..)
  have d2 : s ∣ y := Int.natAbs_dvd.mp (by rw [sn]; exact Int.gcd_dvd_right ..)
  have e1 := fdiv_mul d1 s0
  have e2 := fdiv_mul d2 s0
  have cop : Int.gcd (x.fdiv s) (y.fdiv s) = 1 := by
    have k := Int.gcd_mul_right (x.fdiv s) s (y.fdiv s)
    rw [e1, e2, sn] at k
    have k2 : Int.gcd (x.fdiv s) (y.fdiv s) * Int.gcd x y = 1 * Int.gcd x y := by omega
    exact Nat.eq_of_mul_eq_mul_right g0 k2
  refine ⟨?_, cop, ?_, ?_, ?_⟩
  · by_cases hn : y < 0
    · rw [if_pos hn] at hs
      have sneg : s < 0 := by omega
      by_cases q : y.fdiv s ≤ 0
      · have := Int.mul_nonneg_of_nonpos_of_nonpos q (Int.le_of_lt sneg)
        omega
      · omega
    · rw [if_neg hn] at hs
      have spos : 0 < s := by omega
      by_cases q : y.fdiv s ≤ 0
      · have := Int.mul_nonpos_of_nonpos_of_nonneg q (Int.le_of_lt spos)
        omega
      · omega
  · calc x.fdiv s * y = x.fdiv s * (y.fdiv s * s) := by rw [e2]
      _ = (x.fdiv s * s) * y.fdiv s := by rw [Int.mul_comm (y.fdiv s) s, Int.mul_assoc]
      _ = x * y.fdiv s := by rw [e1]
  · have k : (x.fdiv s).natAbs * s.natAbs = x.natAbs := by rw [← Int.natAbs_mul, e1]
    rw [← k]
    exact Nat.le_mul_of_pos_right _ (by omega)
  · have k : (y.fdiv s).natAbs * s.natAbs = y.natAbs := by rw [← Int.natAbs_mul, e2]
    rw [← k]
    exact Nat.le_mul_of_pos_right _ (by omega)
theorem fraction_ok (x y : Int) (hy : 0 < y) (hl : Sz 8000 y) : ∃ A B, m_fraction x y = .ok (A, B) ∧ Low A B x y := by
  have hg : Sz 8000 ((Int.gcd x y : Nat) : Int) := by
    have : Int.gcd x y ≤ y.natAbs := Nat.le_of_dvd (by omega) (Int.gcd_dvd_natAbs_right ..)
    exact Nat.lt_of_le_of_lt (by omega) hl
  have g0 : 0 < Int.gcd x y := Int.gcd_pos_of_ne_zero_right x (by omega)
  refine ⟨_, _, ?_, low_of x y _ (by omega) rfl⟩
  unfold m_fraction
  rw [decide_eq_false (show ¬ y = 0 by omega)]
  simp only [Bool.false_eq_true, if_false, R.ok_bind]
  rw [decide_eq_false (show ¬ y < 0 by omega), if_neg (show ¬ y < 0 by omega)]
  simp only [Bool.false_eq_true, if_false, R.ok_bind]
  rw [fdivS (by omega) hg]
  simp only [R.ok_bind]
  rw [fdivS (by omega) hg]
  rfl
theorem fraction_ok2 (x y : Int) (hy : y ≠ 0) (hl : Sz 8000 y) : ∃ A B, m_fraction x y = .ok (A, B) ∧ Low A B x y := by
  have hg : Sz 8000 ((Int.gcd x y : Nat) : Int) := by
    have : Int.gcd x y ≤ y.natAbs := Nat.le_of_dvd (by omega) (Int.gcd_dvd_natAbs_right ..)
    exact Nat.lt_of_le_of_lt (by omega) hl
  have g0 : 0 < Int.gcd x y := Int.gcd_pos_of_ne_zero_right x (by omega)
  refine ⟨_, _, ?_, low_of x y _ (by omega) rfl⟩
  unfold m_fraction
  rw [decide_eq_false (show ¬ y = 0 by omega)]
  simp only [Bool.false_eq_true, if_false, R.ok_bind]
  by_cases q : y < 0
  · rw [decide_eq_true q, if_pos q]
    simp only [if_true, R.ok_bind]
    rw [fdivS (by omega) hg.neg]
    simp only [R.ok_bind]
    rw [fdivS (by omega) hg.neg]
    rfl
  · rw [decide_eq_false q, if_neg q]
    simp only [Bool.false_eq_true, if_false, R.ok_bind]
    rw [fdivS (by omega) hg]
    simp only [R.ok_bind]
    rw [fdivS (by omega) hg]
    rfl
theorem Low.sz {A B x y : Int} {a b : Nat} (h : Low A B x y) (hx : Sz a x) (hy : Sz b y) : Sz a A ∧ Sz b B := ⟨Nat.lt_of_le_of_lt h.sa hx, Nat.lt_of_le_of_lt h.sb hy⟩
theorem whole (v : Int) : m_law_whole v = .ok true := by unfold m_law_whole; rfl
theorem stands_ok {A B top low : Int} (h1 : 1 ≤ B) (h2 : Int.gcd A B = 1) (h3 : A * low = top * B) (sA : Sz 3000 A) (sB : Sz 3000 B) (sl : Sz 3000 low) (st : Sz 3000 top) : m_law_stands (A, B) top low = .ok true := by
  unfold m_law_stands m_law_is_fraction
  simp only [whole, R.ok_bind, Bool.not_true, Bool.false_eq_true, if_false]
  simp only [decide_true, Bool.not_true, Bool.false_eq_true, if_false, R.ok_bind]
  rw [decide_eq_true (show (1 : Int) ≤ B from h1)]
  simp only [if_true]
  rw [gcd_is, law_gcd_ok _ _ (sB.up (n := 49999))]
  rw [h2]
  simp only [R.ok_bind]
  rw [decide_eq_true (show ((1 : Nat) : Int) = 1 from rfl)]
  simp only [if_true]
  rw [mulS sA sl]
  simp only [R.ok_bind]
  rw [mulS st sB]
  simp only [R.ok_bind]
  rw [decide_eq_true h3]
/-! ### the form is made -/
theorem frozen_ok {n : Nat} (hn : n ≤ 16) (M : Nat → Nat → Int) : m_frozen_LLi (mat n n M) = .ok (mat n n M) := by
  unfold m_frozen_LLi
  simp only [R.ok_bind]
  refine mapM_vec (fun k hk => ?_) (by omega)
  unfold m_frozen_part_Li
  simp only [R.ok_bind]
  refine mapM_vec (fun j hj => ?_) (by omega)
  unfold m_frozen_numbers_i
  rfl
theorem square_ok {n : Nat} (hn : n ≤ 16) (M : Nat → Nat → Int) : m_check_square (mat n n M) = .ok () := by
  unfold m_check_square
  simp only [R.ok_bind]
  unfold mat
  rw [enum_vec]
  rw [foldR_seq (fun _ => ()) n fun k hk => by
    unfold m_check_square_b1
    simp only [vec_length, decide_true, Bool.not_true, Bool.false_eq_true, if_false]]
  rfl
theorem symmetric_ok {n : Nat} (hn : n ≤ 16) (M : Nat → Nat → Int) (hs : ∀ i, i < n → ∀ j, j < n → M i j = M j i) : m_check_symmetric (mat n n M) = .ok () := by
  unfold m_check_symmetric
  have hl : (mat n n M).length = n := vec_length
  rw [hl, rng0 n (by omega)]
  simp only [R.ok_bind]
  rw [foldR_seq (fun _ => ()) n fun i hi => by
    unfold m_check_symmetric_b2
    simp only [R.ok_bind]
    rw [hl, show (i : Int) + 1 = ((i + 1 : Nat) : Int) by omega, rng2 (i + 1) n (by omega) (by omega)]
    simp only [R.ok_bind]
    rw [foldR_seq (fun _ => ()) (n - (i + 1)) fun j hj => by
      unfold m_check_symmetric_b1
      simp only [R.bind_assoc]
      rw [mat_get2 hi (show i + 1 + j < n by omega), mat_get2 (show i + 1 + j < n by omega) hi, hs i hi _ (by omega)]
      simp only [R.ok_bind, decide_true, Bool.not_true, Bool.false_eq_true, if_false]]
    rfl]
  rfl
theorem lowered_ok {m : Nat} (hm : m ≤ 1000) (F : Nat → Int) (u : Int) (hu : 1 ≤ u) (su : Sz 8000 u) : Ok (m_lowered (vec m F) u) fun q => ∃ G v s, q = (vec m G, v) ∧ 0 < s ∧ u = v * s ∧ (∀ k, k < m → F k = G k * s) ∧ ∀ d : Int, d ∣ v → (∀ k, k < m → d ∣ G k) → d.natAbs = 1 := by
  unfold m_lowered
  simp only [R.ok_bind]
  refine Ok.bind (Ok.fold (fun k s => 0 < s ∧ s ∣ u ∧ (∀ i, i < k → s ∣ F i) ∧ ∀ d : Int, d ∣ u → (∀ i, i < k → d ∣ F i) → d ∣ s) ⟨by omega, ⟨1, by omega⟩, fun i hi => absurd hi (Nat.not_lt_zero i), fun d h _ => h⟩ fun k hk s hs => ?_) fun s hs => ?_
  · unfold m_lowered_b1
    simp only [R.ok_bind]
    have g0 : 0 < Int.gcd s (F k) := Int.gcd_pos_of_ne_zero_left _ (by omega)
    refine Ok.ret ⟨by omega, Int.dvd_trans (Int.gcd_dvd_left ..) hs.2.1, fun i hi => ?_, fun d h1 h2 => ?_⟩
    · by_cases e : i = k
      · rw [e]; exact Int.gcd_dvd_right ..
      · exact Int.dvd_trans (Int.gcd_dvd_left ..) (hs.2.2.1 i (by omega))
    · exact Int.dvd_coe_gcd (hs.2.2.2 d h1 fun i hi => h2 i (by omega)) (h2 k (by omega))
  obtain ⟨s0, s1, s2, s3⟩ := hs
  have ss : Sz 8000 s := by
    have := Int.le_of_dvd (by omega) s1
    unfold Sz at *; omega
  have e : mapM (fun (number : Int) => fdivM number s) (vec m F) = .ok (vec m fun k => (F k).fdiv s) := mapM_vec (fun k hk => fdivS (by omega) ss) (by omega)
  rw [e]
  simp only [R.ok_bind]
  rw [fdivS (by omega) ss]
  have eu := fdiv_mul s1 (show s ≠ 0 by omega)
  have eF : ∀ k, k < m → (F k).fdiv s * s = F k := fun k hk => fdiv_mul (s2 k hk) (by omega)
  refine Ok.ret ⟨_, _, s, rfl, s0, eu.symm, fun k hk => (eF k hk).symm, fun d h1 h2 => ?_⟩
  have h3 : d * s ∣ s := by
    refine s3 (d * s) ?_ fun i hi => ?_
    · rw [← eu]; exact Int.mul_dvd_mul_right s h1
    · rw [← eF i hi]; exact Int.mul_dvd_mul_right s (h2 i hi)
  obtain ⟨c, hc⟩ := h3
  have h4 : s * 1 = s * (d * c) := by
    rw [Int.mul_one, Int.mul_left_comm, ← Int.mul_assoc]
    exact hc
  have h5 := Int.eq_of_mul_eq_mul_left (show s ≠ 0 by omega) h4
  have h6 : d ∣ 1 := ⟨c, h5⟩
  exact Nat.eq_one_of_dvd_one (by simpa using Int.natAbs_dvd_natAbs.mpr h6)
theorem icop {k m n : Int} (h : k ∣ m * n) (c : Int.gcd k n = 1) : k ∣ m := Int.natAbs_dvd_natAbs.mp (Nat.Coprime.dvd_of_dvd_mul_right (n := n.natAbs) c (by rw [← Int.natAbs_mul]; exact Int.natAbs_dvd_natAbs.mpr h))
/-- what a bottom and its numbers hold in common -/
theorem prim_dvd {ι : Type} {N M : ι → Int} {v u : Int} (hv : 1 ≤ v) (e : ∀ i, N i * u = M i * v) (hp : ∀ d : Int, d ∣ v → (∀ i, d ∣ N i) → d.natAbs = 1) : v ∣ u := by
  have g0 : 0 < Int.gcd v u := Int.gcd_pos_of_ne_zero_left _ (by omega)
  have d1 : ((Int.gcd v u : Nat) : Int) ∣ v := Int.gcd_dvd_left ..
  have d2 : ((Int.gcd v u : Nat) : Int) ∣ u := Int.gcd_dvd_right ..
  generalize hg : ((Int.gcd v u : Nat) : Int) = g at d1 d2
  have gp : 0 < g := by omega
  have e1 := fdiv_mul d1 (by omega)
  have e2 := fdiv_mul d2 (by omega)
  have cop : Int.gcd (v.fdiv g) (u.fdiv g) = 1 := by
    have k := Int.gcd_mul_right (v.fdiv g) g (u.fdiv g)
    rw [e1, e2] at k
    have k2 : Int.gcd (v.fdiv g) (u.fdiv g) * g.natAbs = 1 * g.natAbs := by omega
    exact Nat.eq_of_mul_eq_mul_right (by omega) k2
  have hd : ∀ i, v.fdiv g ∣ N i := fun i => by
    have h : g * (N i * u.fdiv g) = g * (M i * v.fdiv g) := by
      have a := e i
      rw [← e1, ← e2] at a
      calc g * (N i * u.fdiv g) = N i * (u.fdiv g * g) := by ac_rfl
        _ = M i * (v.fdiv g * g) := a
        _ = g * (M i * v.fdiv g) := by ac_rfl
    have h2 := Int.eq_of_mul_eq_mul_left (by omega) h
    have h3 : v.fdiv g ∣ N i * u.fdiv g := ⟨M i, by rw [h2, Int.mul_comm]⟩
    exact icop h3 cop
  have one := hp (v.fdiv g) ⟨g, e1.symm⟩ hd
  have vg : v.fdiv g = 1 ∨ v.fdiv g = -1 := by omega
  rcases vg with z | z
  · rw [z, Int.one_mul] at e1
    rw [← e1, ← e2]
    exact Int.dvd_mul_left ..
  · rw [z] at e1
    omega
/-- the form that stands for M / u -/
structure IsForm (n : Nat) (M : Nat → Nat → Int) (u : Int) (F : T_Form) : Prop where
  ex : ∃ N v, F = ((((), (n : Int)), mat n n N), v) ∧ 1 ≤ v ∧ (∀ i, i < n → ∀ j, j < n → N i j * u = M i j * v) ∧ ∀ d : Int, d ∣ v → (∀ i, i < n → ∀ j, j < n → d ∣ N i j) → d.natAbs = 1
structure IsFormS (n : Nat) (M : Nat → Nat → Int) (u : Int) (N : Nat → Nat → Int) (v s : Int) : Prop where
  pv : 1 ≤ v
  ps : 1 ≤ s
  eu : u = v * s
  eM : ∀ i, i < n → ∀ j, j < n → M i j = N i j * s
  pr : ∀ d : Int, d ∣ v → (∀ i, i < n → ∀ j, j < n → d ∣ N i j) → d.natAbs = 1
section
variable {n : Nat} {M M' N : Nat → Nat → Int} {u u' v s : Int} {F G : T_Form}
theorem IsForm.low (h : IsForm n M u F) (hu : 1 ≤ u) : ∃ N v s, F = ((((), (n : Int)), mat n n N), v) ∧ IsFormS n M u N v s := by
  obtain ⟨N, v, rfl, pv, e, pr⟩ := h.ex
  have dv : v ∣ u := prim_dvd (ι := Nat × Nat) (N := fun p => if p.1 < n ∧ p.2 < n then N p.1 p.2 else 0) (M := fun p => if p.1 < n ∧ p.2 < n then M p.1 p.2 else 0) pv (fun p => by
      by_cases q : p.1 < n ∧ p.2 < n
      · simp only [if_pos q]; exact e _ q.1 _ q.2
      · simp only [if_neg q]; simp) (fun d h1 h2 => pr d h1 fun i hi j hj => by
      have := h2 (i, j)
      simpa [hi, hj] using this)
  obtain ⟨s, rfl⟩ := dv
  have s1 : 1 ≤ s := by
    by_cases q : s ≤ 0
    · have := Int.mul_nonpos_of_nonneg_of_nonpos (show (0 : Int) ≤ v by omega) q
      omega
    · omega
  refine ⟨N, v, s, rfl, pv, s1, rfl, fun i hi j hj => ?_, pr⟩
  have a := e i hi j hj
  have b : v * (N i j * s) = v * M i j := by rw [Int.mul_left_comm, a, Int.mul_comm]
  exact (Int.eq_of_mul_eq_mul_left (by omega) b).symm
theorem IsFormS.sN {b : Nat} (h : IsFormS n M u N v s) {i j : Nat} (hi : i < n) (hj : j < n) (k : Sz b (M i j)) : Sz b (N i j) := by
  have := h.ps
  unfold Sz at *
  rw [h.eM i hi j hj, Int.natAbs_mul] at k
  have : (N i j).natAbs * 1 ≤ (N i j).natAbs * s.natAbs := Nat.mul_le_mul_left _ (by omega)
  omega
theorem IsFormS.sv {b : Nat} (h : IsFormS n M u N v s) (k : Sz b u) : Sz b v := by
  have := h.ps
  unfold Sz at *
  rw [h.eu, Int.natAbs_mul] at k
  have : v.natAbs * 1 ≤ v.natAbs * s.natAbs := Nat.mul_le_mul_left _ (by omega)
  omega
/-- the same form in other terms -/
theorem IsForm.terms (h : IsForm n M u F) (hu : u ≠ 0) (e : ∀ i, i < n → ∀ j, j < n → M' i j * u = M i j * u') : IsForm n M' u' F := by
  obtain ⟨N, v, rfl, pv, k, pr⟩ := h.ex
  refine ⟨N, v, rfl, pv, fun i hi j hj => ?_, pr⟩
  have a := k i hi j hj
  have b := e i hi j hj
  refine Int.eq_of_mul_eq_mul_left hu ?_
  calc u * (N i j * u') = (N i j * u) * u' := by ac_rfl
    _ = (M i j * u') * v := by rw [a]; ac_rfl
    _ = u * (M' i j * v) := by rw [← b]; ac_rfl
end
section
variable {n : Nat} {M M' N : Nat → Nat → Int} {u u' v s : Int} {F G : T_Form}
theorem init_ok (hn : n ≤ 16) (hs : ∀ i, i < n → ∀ j, j < n → M i j = M j i) (hu : 1 ≤ u) (su : Sz 8000 u) : Ok (m_Form_init (mat n n M) u) (IsForm n M u) := by
  unfold m_Form_init
  rw [frozen_ok hn]
  simp only [R.ok_bind]
  rw [square_ok hn]
  simp only [R.ok_bind]
  rw [symmetric_ok hn M hs]
  simp only [R.bind_assoc, R.ok_bind]
  have hl : (mat n n M).length = n := vec_length
  rw [hl]
  have nn : n * n ≤ 256 := Nat.mul_le_mul hn hn
  have ef : flatM (fun (line : List Int) => R.ok line) (fun (line : List Int) (number : Int) => R.ok number) (mat n n M) = .ok (vec (n * n) fun k => M (k / n) (k % n)) := by
    unfold flatM mat
    rw [flatR_vec (b := fun i => vec n (M i)) (c := fun i => vec n (M i)) (fun k hk => rfl) (fun k hk => mapR_vec fun j hj => rfl), flat_vec]
    simp only [R.ok_bind]
    exact R.guard_ok (by rw [vec_length]; omega)
  rw [ef]
  simp only [R.ok_bind]
  refine (lowered_ok (by omega) _ u hu su).bind fun q hq => ?_
  obtain ⟨G, v, s, rfl, s0, e1, e2, pr⟩ := hq
  rw [rng0 n (by omega)]
  simp only [R.ok_bind]
  have e3 : mapM (fun (row : Int) => mulM row (n : Int) >>= fun i => mulM row (n : Int) >>= fun x4 => R.ok (cutA (vec (n * n) G) (some i) (some (x4 + (n : Int))))) (vec n fun k => (k : Int)) = .ok (mat n n fun i j => G (i * n + j)) := by
    refine mapM_vec (fun k hk => ?_) (by omega)
    have hk2 : k * n + n ≤ n * n := by rw [← Nat.succ_mul]; exact Nat.mul_le_mul_right _ hk
    rw [mulS (m := 5) (n := 5) (by unfold Sz; omega) (by unfold Sz; omega), show (k : Int) * (n : Int) = ((k * n : Nat) : Int) by rw [Int.natCast_mul]]
    simp only [R.ok_bind]
    rw [cutA_vec hk2]
  rw [e3]
  have at_ : ∀ i, i < n → ∀ j, j < n → i * n + j < n * n ∧ (i * n + j) / n = i ∧ (i * n + j) % n = j := fun i hi j hj => by
    have : i * n + n ≤ n * n := by rw [← Nat.succ_mul]; exact Nat.mul_le_mul_right _ hi
    refine ⟨by omega, ?_, ?_⟩
    · rw [show i * n + j = j + n * i by rw [Nat.mul_comm]; omega, Nat.add_mul_div_left _ _ (by omega), Nat.div_eq_of_lt hj, Nat.zero_add]
    · rw [show i * n + j = j + n * i by rw [Nat.mul_comm]; omega, Nat.add_mul_mod_self_left, Nat.mod_eq_of_lt hj]
  have pv : 1 ≤ v := by
    by_cases q : v ≤ 0
    · have := Int.mul_nonpos_of_nonpos_of_nonneg q (Int.le_of_lt s0)
      omega
    · omega
  refine Ok.ret ⟨_, v, rfl, pv, fun i hi j hj => ?_, fun d h1 h2 => pr d h1 fun k hk => ?_⟩
  · obtain ⟨a1, a2, a3⟩ := at_ i hi j hj
    have q := e2 _ a1
    rw [a2, a3] at q
    rw [q, e1]
    ac_rfl
  · have n0 : 0 < n := by
      rcases Nat.eq_zero_or_pos n with z | z
      · subst z; simp at hk
      · exact z
    have q := h2 (k / n) (Nat.div_lt_of_lt_mul hk) (k % n) (Nat.mod_lt _ n0)
    rw [Nat.mul_comm, Nat.div_add_mod] at q
    exact q
end
/-! ### its values -/
section
variable {n : Nat} {M N : Nat → Nat → Int} {u v s : Int} {F : T_Form} {x y : Nat → Int}
theorem dot_ok (hn : n ≤ 16) (hx : ∀ k, k < n → Sz 4000 (x k)) (hy : ∀ k, k < n → Sz 4000 (y k)) : m_dot (vec n x) (vec n y) = .ok (sm n fun k => x k * y k) := by
  unfold m_dot
  simp only [R.ok_bind]
  rw [zip_vec, show mapM (fun (p3 : Int × Int) => mulM p3.1 p3.2) (vec n fun k => (x k, y k)) = .ok (vec n fun k => x k * y k) from mapM_vec (fun k hk => mulS (hx k hk) (hy k hk)) (by omega)]
  rfl
end
section
variable {n : Nat} {M N : Nat → Nat → Int} {u v s : Int} {F : T_Form} {x y : Nat → Int}
theorem ldot_ok (hn : n ≤ 16) (hx : ∀ k, k < n → Sz 4000 (x k)) (hy : ∀ k, k < n → Sz 4000 (y k)) : m_law_dot (vec n x) (vec n y) = .ok (sm n fun k => x k * y k) := by
  unfold m_law_dot
  rw [vec_length, rng0 n (by omega)]
  simp only [R.ok_bind]
  rw [show mapM (fun (k : Int) => getM (vec n x) k >>= fun x1 => getM (vec n y) k >>= fun y2 => mulM x1 y2) (vec n fun k => (k : Int)) = .ok (vec n fun k => x k * y k) from mapM_vec (fun k hk => by
    rw [getM_vec hk, getM_vec hk]
    exact mulS (hx k hk) (hy k hk)) (by omega)]
  rfl
end
section
variable {n : Nat} {M N : Nat → Nat → Int} {u v s : Int} {F : T_Form} {x y : Nat → Int}
theorem bf_rows : bf n M x y = sm n fun i => x i * sm n fun j => M i j * y j := by
  unfold bf
  refine sm_ext fun i hi => ?_
  rw [← sm_mul]
  exact sm_ext fun j hj => by ac_rfl
theorem sz_row {b c : Nat} (hn : n ≤ 16) (hM : ∀ j, j < n → Sz b (N 0 j)) (hy : ∀ k, k < n → Sz c (y k)) : Sz (b + c + 4) (sm n fun j => N 0 j * y j) := Sz.sm (fun j hj => (hM j hj).mul (hy j hj)) hn
theorem sz_bf {b c d : Nat} (hn : n ≤ 16) (hM : ∀ i, i < n → ∀ j, j < n → Sz b (M i j)) (hx : ∀ k, k < n → Sz c (x k)) (hy : ∀ k, k < n → Sz d (y k)) : Sz (c + (b + d + 4) + 4) (bf n M x y) := by
  rw [bf_rows]
  exact Sz.sm (fun i hi => (hx i hi).mul (Sz.sm (fun j hj => (hM i hi j hj).mul (hy j hj)) hn)) hn
end
section
variable {n : Nat} {M N : Nat → Nat → Int} {u v s : Int} {F : T_Form} {x y : Nat → Int}
theorem between_ok {b c d : Nat} (hn : n ≤ 16) (hF : IsForm n M u F) (hM : ∀ i, i < n → ∀ j, j < n → Sz b (M i j)) (hu : 1 ≤ u) (su : Sz 8000 u) (hx : ∀ k, k < n → Sz c (x k)) (hy : ∀ k, k < n → Sz d (y k)) (l : b + c + d ≤ 3900 := by decide) :
    ∃ A B, m_Form_between F (vec n x) (vec n y) = .ok (A, B) ∧ Low A B (bf n M x y) u := by
  obtain ⟨N, v, s, rfl, hS⟩ := hF.low hu
  have sN : ∀ i, i < n → ∀ j, j < n → Sz b (N i j) := fun i hi j hj => hS.sN hi hj (hM i hi j hj)
  have sv : Sz 8000 v := hS.sv su
  have v1 := hS.pv
  have s1 := hS.ps
  have e0 : bf n M x y = bf n N x y * s := by
    unfold bf
    rw [← sm_mulr]
    refine sm_ext fun i hi => ?_
    rw [← sm_mulr]
    refine sm_ext fun j hj => ?_
    rw [hS.eM i hi j hj]
    ac_rfl
  obtain ⟨A, B, e1, lo⟩ := fraction_ok (bf n N x y) v (by omega) sv
  refine ⟨A, B, ?_, ⟨lo.pos, lo.cop, ?_, ?_, ?_⟩⟩
  · unfold m_Form_between
    have cp : ∀ z : Nat → Int, m_check_point ((((), (n : Int)), mat n n N), v) (vec n z) = .ok () := fun z => by
      unfold m_check_point
      simp only [vec_length, decide_true, Bool.not_true, Bool.false_eq_true, if_false]
    rw [cp, cp]
    simp only [R.ok_bind]
    rw [show mapM (fun (line : List Int) => m_dot line (vec n y)) (mat n n N) = .ok (vec n fun i => sm n fun j => N i j * y j) from mapM_vec (fun i hi => dot_ok hn (fun k hk => (sN i hi k hk).up (by omega)) (fun k hk => (hy k hk).up (by omega))) (by omega)]
    simp only [R.ok_bind]
    rw [dot_ok hn (fun k hk => (hx k hk).up (by omega)) (fun k hk => (show Sz (b + d + 4) (sm n fun j => N k j * y j) from Sz.sm (fun j hj => (sN k hk j hj).mul (hy j hj)) hn).up (by omega)), ← bf_rows]
    simp only [R.ok_bind]
    exact e1
  · rw [e0, hS.eu, ← Int.mul_assoc, lo.eq]
    ac_rfl
  · rw [e0, Int.natAbs_mul]
    exact Nat.le_trans lo.sa (Nat.le_mul_of_pos_right _ (by omega))
  · rw [hS.eu, Int.natAbs_mul]
    exact Nat.le_trans lo.sb (Nat.le_mul_of_pos_right _ (by omega))
end
section
variable {n : Nat} {M N : Nat → Nat → Int} {u v s : Int} {F : T_Form} {x y : Nat → Int}
theorem value_ok {b c d : Nat} (hn : n ≤ 16) (hM : ∀ i, i < n → ∀ j, j < n → Sz b (M i j)) (hx : ∀ k, k < n → Sz c (x k)) (hy : ∀ k, k < n → Sz d (y k)) (l : b + c + d ≤ 3900 := by decide) : m_law_value (mat n n M) (vec n x) (vec n y) = .ok (bf n M x y) := by
  unfold m_law_value
  have hl : (mat n n M).length = n := vec_length
  rw [hl, rng0 n (by omega)]
  simp only [R.ok_bind]
  have h := foldR_seq (step := m_law_value_b1 (mat n n M) (vec n x) (vec n y)) (a := fun k => (k : Int)) (fun t => sm t fun i => x i * sm n fun j => M i j * y j) n fun i hi => by
    unfold m_law_value_b1
    simp only [R.bind_assoc]
    rw [getM_vec hi]
    simp only [R.ok_bind]
    rw [sm_succ]
    by_cases q : x i = 0
    · rw [decide_eq_true q, q]
      simp
    · rw [decide_eq_false q]
      simp only [Bool.not_false, if_true]
      rw [mat_get hi]
      simp only [R.ok_bind]
      rw [ldot_ok hn (fun k hk => (hM i hi k hk).up (by omega)) (fun k hk => (hy k hk).up (by omega))]
      simp only [R.ok_bind]
      rw [mulS (hx i hi) (show Sz (b + d + 4) (sm n fun j => M i j * y j) from Sz.sm (fun j hj => (hM i hi j hj).mul (hy j hj)) (by omega)) (by omega)]
      rfl
  rw [sm_zero] at h
  rw [h, bf_rows]
  rfl
end
/-! ### vectors, forms made of forms -/
structure IsVec (n : Nat) (X : Nat → Int) (u : Int) (q : List Int × Int) : Prop where
  ex : ∃ G w, q = (vec n G, w) ∧ 1 ≤ w ∧ (∀ k, k < n → G k * u = X k * w) ∧ (∀ d : Int, d ∣ w → (∀ k, k < n → d ∣ G k) → d.natAbs = 1) ∧ (∀ k, k < n → (G k).natAbs ≤ (X k).natAbs) ∧ w.natAbs ≤ u.natAbs
theorem nabs_le {a b s : Int} (h : a = b * s) (hs : s ≠ 0) : b.natAbs ≤ a.natAbs := by
  rw [h, Int.natAbs_mul]
  exact Nat.le_mul_of_pos_right _ (by omega)
section
variable {n : Nat} {M M1 M2 N : Nat → Nat → Int} {X : Nat → Int} {u u1 u2 v s : Int} {F F1 F2 : T_Form} {x y : Nat → Int}
theorem IsVec.of_low {G : Nat → Int} {w t : Int} (e : u = w * t) (ht : 0 < t) (hu : 1 ≤ u) (eX : ∀ k, k < n → X k = G k * t) (pr : ∀ d : Int, d ∣ w → (∀ k, k < n → d ∣ G k) → d.natAbs = 1) : IsVec n X u (vec n G, w) := by
  refine ⟨G, w, rfl, ?_, fun k hk => by rw [e, eX k hk]; ac_rfl, pr, fun k hk => nabs_le (eX k hk) (by omega), nabs_le e (by omega)⟩
  by_cases q : w ≤ 0
  · have := Int.mul_nonpos_of_nonpos_of_nonneg q (Int.le_of_lt ht)
    omega
  · omega
end
section
variable {n : Nat} {M M1 M2 N : Nat → Nat → Int} {X : Nat → Int} {u u1 u2 v s : Int} {F F1 F2 : T_Form} {x y : Nat → Int}
theorem vector_ok (hn : n ≤ 1000) (hu : 1 ≤ u) (su : Sz 8000 u) : Ok (m_vector (vec n X) u) (IsVec n X u) := by
  unfold m_vector
  rw [decide_eq_false (show ¬ u = 0 by omega), decide_eq_false (show ¬ u < 0 by omega)]
  simp only [Bool.false_eq_true, if_false]
  refine (lowered_ok hn X u hu su).mono fun q hq => ?_
  obtain ⟨G, w, t, rfl, t0, e1, e2, pr⟩ := hq
  exact .of_low e1 t0 hu e2 pr
end
section
variable {n : Nat} {M M1 M2 N : Nat → Nat → Int} {X : Nat → Int} {u u1 u2 v s : Int} {F F1 F2 : T_Form} {x y : Nat → Int}
theorem IsVec.terms {X' : Nat → Int} {u' : Int} {q : List Int × Int} (h : IsVec n X u q) (c : Int) (hc : 1 ≤ c) (eu : u' = u * c) (eX : ∀ k, k < n → X' k = X k * c) : IsVec n X' u' q := by
  obtain ⟨G, w, rfl, w1, e, pr, sG, sw⟩ := h.ex
  refine ⟨G, w, rfl, w1, fun k hk => ?_, pr, fun k hk => Nat.le_trans (sG k hk) (nabs_le (eX k hk) (by omega)), Nat.le_trans sw (nabs_le eu (by omega))⟩
  rw [eu, eX k hk, ← Int.mul_assoc, e k hk]
  ac_rfl
end
section
variable {n : Nat} {M M1 M2 N : Nat → Nat → Int} {X : Nat → Int} {u u1 u2 v s : Int} {F F1 F2 : T_Form} {x y : Nat → Int}
theorem applied_ok {b c e : Nat} {d : Int} (hn : n ≤ 16) (hF : IsForm n M u F) (hM : ∀ i, i < n → ∀ j, j < n → Sz b (M i j)) (hu : 1 ≤ u) (su : Sz e u) (hx : ∀ k, k < n → Sz c (x k)) (hd : 1 ≤ d) (sd : Sz c d) (l : b + c ≤ 3900 := by decide) (le : e + c ≤ 8000 := by decide) :
    Ok (m_Form_applied F (vec n x, d)) (IsVec n (fun i => sm n fun j => M i j * x j) (u * d)) := by
  obtain ⟨N, v, s, rfl, hS⟩ := hF.low hu
  have v1 := hS.pv
  have s1 := hS.ps
  have sN : ∀ i, i < n → ∀ j, j < n → Sz b (N i j) := fun i hi j hj => hS.sN hi hj (hM i hi j hj)
  have sv : Sz e v := hS.sv su
  unfold m_Form_applied
  simp only [R.ok_bind, R.bind_assoc]
  rw [show mapM (fun (line : List Int) => m_dot line (vec n x)) (mat n n N) = .ok (vec n fun i => sm n fun j => N i j * x j) from mapM_vec (fun i hi => dot_ok hn (fun k hk => (sN i hi k hk).up (by omega)) (fun k hk => (hx k hk).up (by omega))) (by omega)]
  simp only [R.ok_bind]
  rw [mulS sv sd (by omega)]
  simp only [R.ok_bind]
  refine (vector_ok (by omega) (by have := Int.mul_pos (show 0 < v by omega) (show 0 < d by omega); omega) ((sv.mul sd).up (by omega))).mono fun q hq => hq.terms s s1 (by rw [hS.eu]; ac_rfl) fun k hk => ?_
  rw [← sm_mulr]
  exact sm_ext fun j hj => by rw [hS.eM k hk j hj]; ac_rfl
end
section
variable {n : Nat} {M M1 M2 N : Nat → Nat → Int} {X : Nat → Int} {u u1 u2 v s : Int} {F F1 F2 : T_Form} {x y : Nat → Int}
theorem IsFormS.sym (h : IsFormS n M u N v s) (hs : ∀ i, i < n → ∀ j, j < n → M i j = M j i) : ∀ i, i < n → ∀ j, j < n → N i j = N j i := fun i hi j hj => by
  have a := h.eM i hi j hj
  have b := h.eM j hj i hi
  have s1 := h.ps
  refine Int.eq_of_mul_eq_mul_right (show s ≠ 0 by omega) ?_
  rw [← a, ← b, hs i hi j hj]
end
section
variable {n : Nat} {M M1 M2 N : Nat → Nat → Int} {X : Nat → Int} {u u1 u2 v s : Int} {F F1 F2 : T_Form} {x y : Nat → Int}
/-! ### the law looks at a form -/
theorem point_ok (hn : n ≤ 16) : m_law_is_point (vec n x) (n : Int) = .ok true := by
  unfold m_law_is_point
  simp only [if_true, R.ok_bind, vec_length, decide_true]
  rw [show mapM (fun (number : Int) => m_law_whole number) (vec n x) = .ok (vec n fun _ => true) from mapM_vec (fun k hk => whole _) (by omega)]
  simp only [R.ok_bind]
  congr 1
  refine List.all_eq_true.mpr fun b hb => ?_
  obtain ⟨k, _, rfl⟩ := vec_mem.mp hb
  rfl
end
section
variable {n : Nat} {M M1 M2 N : Nat → Nat → Int} {X : Nat → Int} {u u1 u2 v s : Int} {F F1 F2 : T_Form} {x y : Nat → Int}
theorem gcdS {a b : Int} (h : Sz 40000 b) : m_law_gcd a b = .ok ((Int.gcd a b : Nat) : Int) := by
  rw [gcd_is]
  exact law_gcd_ok _ _ (h.up)
end
section
variable {n : Nat} {M M1 M2 N : Nat → Nat → Int} {X : Nat → Int} {u u1 u2 v s : Int} {F F1 F2 : T_Form} {x y : Nat → Int}
theorem isform_ok (hn : n ≤ 16) (hF : IsForm n M u F) (hu : 1 ≤ u) (hM : ∀ i, i < n → ∀ j, j < n → Sz 40000 (M i j)) : m_law_is_form F (n : Int) = .ok true := by
  obtain ⟨N, v, s, rfl, hS⟩ := hF.low hu
  have v1 := hS.pv
  unfold m_law_is_form
  simp only [whole, R.ok_bind, Bool.not_true, Bool.false_eq_true, if_false, decide_true]
  rw [decide_eq_false (show ¬ v < 1 by omega)]
  simp only [Bool.false_eq_true, if_false]
  have hl : (mat n n N).length = n := vec_length
  rw [hl]
  simp only [decide_true, Bool.not_true, Bool.or_self, Bool.false_eq_true, if_false]
  have C := loopR_go (n := n) (a := fun i => vec n (N i)) (step := m_law_is_form_b2 (n : Int)) (s := v) (fun t (s : Int) => 0 < s ∧ s ∣ v ∧ ∀ i, i < t → ∀ j, j < n → s ∣ N i j) ⟨by omega, ⟨1, by omega⟩, fun i hi => absurd hi (Nat.not_lt_zero i)⟩ fun i hi s hs => ?_
  · obtain ⟨s', e, s0, d1, d2⟩ := C
    rw [show mat n n N = vec n fun i => vec n (N i) from rfl, e]
    simp only [R.ok_bind, End.cs]
    have := hS.pr s' d1 d2
    rw [decide_eq_true (show s' = 1 by omega)]
  · unfold m_law_is_form_b2
    rw [point_ok hn]
    simp only [R.ok_bind, Bool.not_true, Bool.false_eq_true, if_false]
    have q := Ok.fold (n := n) (a := N i) (step := m_law_is_form_b1) (s := s) (fun t s' => 0 < s' ∧ s' ∣ s ∧ ∀ j, j < t → s' ∣ N i j) ⟨hs.1, Int.dvd_refl s, fun j hj => absurd hj (Nat.not_lt_zero j)⟩ fun j hj s' h' => by
      unfold m_law_is_form_b1
      by_cases o : s' = 1
      · subst o
        simp only [decide_true, Bool.not_true, Bool.false_eq_true, if_false]
        exact Ok.ret ⟨by omega, ⟨s, by omega⟩, fun j _ => ⟨N i j, by omega⟩⟩
      · rw [decide_eq_false o]
        simp only [Bool.not_false, if_true]
        rw [gcdS (hS.sN hi hj (hM i hi j hj))]
        have g0 : 0 < Int.gcd s' (N i j) := Int.gcd_pos_of_ne_zero_left _ (by omega)
        refine Ok.ret ⟨by omega, Int.dvd_trans (Int.gcd_dvd_left ..) h'.2.1, fun l hl => ?_⟩
        by_cases e : l = j
        · rw [e]; exact Int.gcd_dvd_right ..
        · exact Int.dvd_trans (Int.gcd_dvd_left ..) (h'.2.2 l (by omega))
    obtain ⟨s', e, h1, h2, h3⟩ := q
    rw [e]
    refine ⟨s', rfl, h1, Int.dvd_trans h2 hs.2.1, fun l hl j hj => ?_⟩
    by_cases e : l = i
    · rw [e]; exact h3 j hj
    · exact Int.dvd_trans h2 (hs.2.2 l (by omega) j hj)
end
section
variable {n : Nat} {M M1 M2 N : Nat → Nat → Int} {X : Nat → Int} {u u1 u2 v s : Int} {F F1 F2 : T_Form} {x y : Nat → Int}
theorem formis_ok (hn : n ≤ 16) (hF : IsForm n M u F) (hu : 1 ≤ u) (su : Sz 40000 u) (hM : ∀ i, i < n → ∀ j, j < n → Sz 40000 (M i j)) : m_law_form_is F (mat n n M) u = .ok true := by
  have e0 := isform_ok hn hF hu hM
  obtain ⟨N, v, s, rfl, hS⟩ := hF.low hu
  unfold m_law_form_is
  have hl : (mat n n M).length = n := vec_length
  rw [hl]
  simp only [R.ok_bind]
  rw [e0]
  simp only [R.ok_bind, Bool.not_true, Bool.false_eq_true, if_false]
  rw [rng0 n (by omega)]
  simp only [R.ok_bind]
  have C := loopR_go (n := n) (a := fun i => (i : Int)) (step := m_law_form_is_b2 ((((), (n : Int)), mat n n N), v) (mat n n M) u (n : Int)) (s := ()) (fun t (s : Unit) => True) trivial fun i hi s _ => ?_
  · obtain ⟨s', e, _⟩ := C
    rw [e]
    rfl
  · unfold m_law_form_is_b2
    rw [rng0 n (by omega)]
    simp only [R.ok_bind]
    have C := loopR_go (n := n) (a := fun i => (i : Int)) (step := m_law_form_is_b1 ((((), (n : Int)), mat n n N), v) (mat n n M) u (i : Int)) (s := ()) (fun t (s : Unit) => True) trivial fun j hj s _ => ?_
    · obtain ⟨s', e, _⟩ := C
      rw [e]
      exact ⟨(), rfl, trivial⟩
    · unfold m_law_form_is_b1
      simp only [R.bind_assoc]
      rw [mat_get2 hi hj, mulS (hS.sN hi hj (hM i hi j hj)) su]
      simp only [R.ok_bind]
      rw [mat_get2 hi hj, mulS (hM i hi j hj) (hS.sv su)]
      simp only [R.ok_bind]
      rw [decide_eq_true (by rw [hS.eu, hS.eM i hi j hj]; ac_rfl : N i j * u = M i j * v)]
      exact ⟨(), rfl, trivial⟩
end
/-! ### lists of rows -/
theorem Sz.smE {n b e : Nat} {f : Nat → Int} (h : ∀ k, k < n → Sz b (f k)) (hn : n ≤ 2 ^ e) : Sz (b + e) (sm n f) := by
  have key : ∀ t, t ≤ n → (sm t f).natAbs ≤ t * (2 ^ b - 1) := fun t => by
    induction t with
    | zero => intro _; rw [sm_zero]; simp
    | succ t ih =>
      intro ht
      rw [sm_succ]
      have a := ih (by omega)
      have b1 := h t (by omega)
      unfold Sz at b1
      have c := Int.natAbs_add_le (sm t f) (f t)
      rw [Nat.succ_mul]
      omega
  have k := key n (Nat.le_refl _)
  have p : 0 < 2 ^ b := Nat.two_pow_pos b
  have k2 : n * (2 ^ b - 1) ≤ 2 ^ e * (2 ^ b - 1) := Nat.mul_le_mul_right _ hn
  have k3 : 2 ^ e * (2 ^ b - 1) + 2 ^ e = 2 ^ (b + e) := by
    rw [Nat.pow_add, Nat.mul_comm (2 ^ b), ← Nat.mul_succ]
    congr 1
    omega
  have p2 : 0 < 2 ^ e := Nat.two_pow_pos e
  unfold Sz
  omega
theorem Low.scale {A B x y c : Int} (h : Low A B x y) (hc : 1 ≤ c) : Low A B (x * c) (y * c) := by
  refine ⟨h.pos, h.cop, ?_, Nat.le_trans h.sa ?_, Nat.le_trans h.sb ?_⟩
  · rw [← Int.mul_assoc, h.eq]; ac_rfl
  · rw [Int.natAbs_mul]; exact Nat.le_mul_of_pos_right _ (by omega)
  · rw [Int.natAbs_mul]; exact Nat.le_mul_of_pos_right _ (by omega)
/-- sum of weighted squares -/
def wsq (m : Nat) (f : Nat → Nat → Int) (w : Nat → Int) : Nat → Nat → Int := fun i j => sm m fun t => w t * f t i * f t j
theorem wsq_sym {m : Nat} {f : Nat → Nat → Int} {w : Nat → Int} (i j : Nat) : wsq m f w i j = wsq m f w j i := sm_ext fun t _ => by ac_rfl
theorem wsq_sz {n m b c e : Nat} {f : Nat → Nat → Int} {w : Nat → Int} (hm : m ≤ 2 ^ e) (hf : ∀ t, t < m → ∀ k, k < n → Sz b (f t k)) (hw : ∀ t, t < m → Sz c (w t)) : ∀ i, i < n → ∀ j, j < n → Sz (c + b + b + e) (wsq m f w i j) := fun i hi j hj => Sz.smE (fun t ht => ((hw t ht).mul (hf t ht i hi)).mul (hf t ht j hj)) hm
structure IsRows (n m : Nat) (f : Nat → Nat → Int) (w : Nat → Int) (u : Int) (L : T_RowList) : Prop where
  ex : ∃ (W : Nat → Int) (v s : Int) (F : T_Form), L = ((((((), (n : Int)), vec m fun k => (vec n (f k), W k)), v)), F) ∧ 1 ≤ v ∧ 1 ≤ s ∧ u = v * s ∧ (∀ k, k < m → w k = W k * s) ∧ (∀ d : Int, d ∣ v → (∀ k, k < m → d ∣ W k) → d.natAbs = 1) ∧ IsForm n (wsq m f w) u F
theorem fpart_H {l : List Int} {w : Int} : m_frozen_part_HLiie (l, w) = .ok (l, w) := by
  unfold m_frozen_part_HLiie m_frozen_numbers_Li m_frozen_numbers_i
  rfl
theorem frozenH_ok {m : Nat} (hm : m ≤ 1000) {p : Nat → List Int × Int} : m_frozen_LHLiie (vec m p) = .ok (vec m p) := by
  unfold m_frozen_LHLiie
  simp only [R.ok_bind]
  exact mapM_vec (fun k hk => fpart_H) (by omega)
theorem fpart_P {l : List Int} {w : Int} : m_frozen_part_PTiie (l, w) = .ok (l, w) := by
  unfold m_frozen_part_PTiie m_frozen_numbers_Ti m_frozen_numbers_i
  rfl
theorem frozenP_ok {m : Nat} (hm : m ≤ 1000) {p : Nat → List Int × Int} : m_frozen_LPTiie (vec m p) = .ok (vec m p) := by
  unfold m_frozen_LPTiie
  simp only [R.ok_bind]
  exact mapM_vec (fun k hk => fpart_P) (by omega)
theorem pairs_ok {n m : Nat} {f : Nat → Nat → Int} {w : Nat → Int} (hw : ∀ k, k < m → 1 ≤ w k) : m_check_pairs_i_TPTiie (n : Int) (vec m fun k => (vec n (f k), w k)) = .ok () := by
  unfold m_check_pairs_i_TPTiie
  simp only [R.ok_bind]
  rw [enum_vec]
  have h := foldR_seq (step := m_check_pairs_i_TPTiie_b1 (n : Int)) (a := fun k => ((0 : Int) + (k : Int), (vec n (f k), w k))) (fun _ => ()) m fun k hk => by
    unfold m_check_pairs_i_TPTiie_b1
    have := hw k hk
    simp only [vec_length, decide_true, Bool.not_true, Bool.false_eq_true, if_false]
    rw [decide_eq_false (show ¬ w k < 1 by omega)]
    rfl
  rw [h]
  rfl
theorem wsum_ok {n m : Nat} {f : Nat → Nat → Int} {w : Nat → Int} {i j b c : Nat} (hm : m ≤ 1000) (hi : i < n) (hj : j < n) (hf : ∀ t, t < m → ∀ k, k < n → Sz b (f t k)) (hw : ∀ t, t < m → Sz c (w t)) (l : c + b + b ≤ 10000 := by decide) : m_weighted_sum (vec m fun k => (vec n (f k), w k)) (i : Int) (j : Int) = .ok (wsq m f w i j) := by
  unfold m_weighted_sum
  simp only [R.ok_bind, R.bind_assoc]
  rw [show mapM (fun (p1 : List Int × Int) => getM p1.1 (i : Int) >>= fun y2 => mulM p1.2 y2 >>= fun x3 => getM p1.1 (j : Int) >>= fun y4 => mulM x3 y4) (vec m fun k => (vec n (f k), w k)) = .ok (vec m fun t => w t * f t i * f t j) from mapM_vec (fun k hk => by
    rw [getM_vec hi, R.ok_bind, mulS (hw k hk) (hf k hk i hi) (by omega), R.ok_bind, getM_vec hj, R.ok_bind]
    exact mulS ((hw k hk).mul (hf k hk i hi)) (hf k hk j hj) (by omega)) (by omega)]
  rfl
theorem wmat_ok {n m : Nat} {f : Nat → Nat → Int} {w : Nat → Int} {b c : Nat} (hn : n ≤ 16) (hm : m ≤ 1000) (hf : ∀ t, t < m → ∀ k, k < n → Sz b (f t k)) (hw : ∀ t, t < m → Sz c (w t)) (l : c + b + b ≤ 10000 := by decide) : m_weighted_matrix (n : Int) (vec m fun k => (vec n (f k), w k)) = .ok (mat n n (wsq m f w)) := by
  unfold m_weighted_matrix
  rw [rng0 n (by omega)]
  simp only [R.ok_bind]
  exact mapM_vec (fun i hi => mapM_vec (fun j hj => wsum_ok hm hi hj hf hw l) (by omega)) (by omega)
theorem rows_fin {n m : Nat} {f : Nat → Nat → Int} {w : Nat → Int} {u : Int} {W : Nat → Int} {v s : Int} {F : T_Form} (e1 : u = v * s) (s0 : 0 < s) (hu : 1 ≤ u) (eW : ∀ k, k < m → w k = W k * s) (pr : ∀ d : Int, d ∣ v → (∀ k, k < m → d ∣ W k) → d.natAbs = 1) (hF : IsForm n (wsq m f W) v F) :
    IsRows n m f w u ((((((), (n : Int)), vec m fun k => (vec n (f k), W k)), v)), F) := by
  have v1 : 1 ≤ v := by
    by_cases q : v ≤ 0
    · have := Int.mul_nonpos_of_nonpos_of_nonneg q (Int.le_of_lt s0)
      omega
    · omega
  refine ⟨W, v, s, F, rfl, v1, by omega, e1, eW, pr, hF.terms (by omega) fun i hi j hj => ?_⟩
  have e : wsq m f w i j = wsq m f W i j * s := by
    unfold wsq
    rw [← sm_mulr]
    exact sm_ext fun t ht => by rw [eW t ht]; ac_rfl
  rw [e, e1]
  ac_rfl
theorem rowsH_ok {n m b c : Nat} {f : Nat → Nat → Int} {w : Nat → Int} {u : Int} (hn : n ≤ 10) (hm : m ≤ 64) (hw1 : ∀ k, k < m → 1 ≤ w k) (hf : ∀ t, t < m → ∀ k, k < n → Sz b (f t k)) (hw : ∀ t, t < m → Sz c (w t)) (hu : 1 ≤ u) (su : Sz 8000 u) (l : c + b + b ≤ 10000 := by decide) :
    Ok (m_RowList_init_i_LHLiie_i (n : Int) (vec m fun k => (vec n (f k), w k)) u) (IsRows n m f w u) := by
  unfold m_RowList_init_i_LHLiie_i
  rw [frozenH_ok (by omega)]
  simp only [R.ok_bind, R.bind_assoc]
  rw [pairs_ok hw1]
  simp only [R.ok_bind]
  rw [show mapM (fun (pair : List Int × Int) => R.ok pair.2) (vec m fun k => (vec n (f k), w k)) = .ok (vec m w) from mapM_vec (fun k hk => rfl) (by omega)]
  simp only [R.ok_bind]
  refine (lowered_ok (by omega) w u hu su).bind fun q hq => ?_
  obtain ⟨W, v, s, rfl, s0, e1, eW, pr⟩ := hq
  simp only
  rw [zip_vec, show mapM (fun (p6 : (List Int × Int) × Int) => R.ok (p6.1.1, p6.2)) (vec m fun k => ((vec n (f k), w k), W k)) = .ok (vec m fun k => (vec n (f k), W k)) from mapM_vec (fun k hk => rfl) (by omega)]
  simp only [R.ok_bind]
  have sW : ∀ t, t < m → Sz c (W t) := fun t ht => Nat.lt_of_le_of_lt (nabs_le (eW t ht) (by omega)) (hw t ht)
  rw [wmat_ok (by omega) (by omega) hf sW l]
  simp only [R.ok_bind]
  have sv : Sz 8000 v := Nat.lt_of_le_of_lt (nabs_le e1 (by omega)) su
  have v1 : 1 ≤ v := by
    by_cases q : v ≤ 0
    · have := Int.mul_nonpos_of_nonpos_of_nonneg q (Int.le_of_lt s0)
      omega
    · omega
  exact (init_ok (by omega) (fun i _ j _ => wsq_sym i j) v1 sv).bind fun F hF => Ok.ret (rows_fin e1 s0 hu eW pr hF)
theorem rowsP_ok {n m b c : Nat} {f : Nat → Nat → Int} {w : Nat → Int} {u : Int} (hn : n ≤ 10) (hm : m ≤ 64) (hw1 : ∀ k, k < m → 1 ≤ w k) (hf : ∀ t, t < m → ∀ k, k < n → Sz b (f t k)) (hw : ∀ t, t < m → Sz c (w t)) (hu : 1 ≤ u) (su : Sz 8000 u) (l : c + b + b ≤ 10000 := by decide) :
    Ok (m_RowList_init_i_LPTiie_i (n : Int) (vec m fun k => (vec n (f k), w k)) u) (IsRows n m f w u) := by
  unfold m_RowList_init_i_LPTiie_i
  rw [frozenP_ok (by omega)]
  simp only [R.ok_bind, R.bind_assoc]
  rw [pairs_ok hw1]
  simp only [R.ok_bind]
  rw [show mapM (fun (pair : List Int × Int) => R.ok pair.2) (vec m fun k => (vec n (f k), w k)) = .ok (vec m w) from mapM_vec (fun k hk => rfl) (by omega)]
  simp only [R.ok_bind]
  refine (lowered_ok (by omega) w u hu su).bind fun q hq => ?_
  obtain ⟨W, v, s, rfl, s0, e1, eW, pr⟩ := hq
  simp only
  rw [zip_vec, show mapM (fun (p6 : (List Int × Int) × Int) => R.ok (p6.1.1, p6.2)) (vec m fun k => ((vec n (f k), w k), W k)) = .ok (vec m fun k => (vec n (f k), W k)) from mapM_vec (fun k hk => rfl) (by omega)]
  simp only [R.ok_bind]
  have sW : ∀ t, t < m → Sz c (W t) := fun t ht => Nat.lt_of_le_of_lt (nabs_le (eW t ht) (by omega)) (hw t ht)
  rw [wmat_ok (by omega) (by omega) hf sW l]
  simp only [R.ok_bind]
  have sv : Sz 8000 v := Nat.lt_of_le_of_lt (nabs_le e1 (by omega)) su
  have v1 : 1 ≤ v := by
    by_cases q : v ≤ 0
    · have := Int.mul_nonpos_of_nonpos_of_nonneg q (Int.le_of_lt s0)
      omega
    · omega
  exact (init_ok (by omega) (fun i _ j _ => wsq_sym i j) v1 sv).bind fun F hF => Ok.ret (rows_fin e1 s0 hu eW pr hF)
/-! ### sums of two matrices -/
def tr (n : Nat) (M N : Nat → Nat → Int) : Int := sm n fun i => sm n fun j => M i j * N i j
theorem tr_comm {n : Nat} {M N : Nat → Nat → Int} : tr n M N = tr n N M := sm_ext fun i _ => sm_ext fun j _ => Int.mul_comm _ _
theorem tr_wsq {n m : Nat} {f : Nat → Nat → Int} {w : Nat → Int} {A : Nat → Nat → Int} : tr n (wsq m f w) A = sm m fun t => w t * bf n A (f t) (f t) := by
  have e : ∀ i j, wsq m f w i j * A i j = sm m fun t => w t * (A i j * (f t i * f t j)) := fun i j => by
    unfold wsq
    rw [← sm_mulr]
    exact sm_ext fun t _ => by ac_rfl
  unfold tr
  calc (sm n fun i => sm n fun j => wsq m f w i j * A i j) = sm n fun i => sm n fun j => sm m fun t => w t * (A i j * (f t i * f t j)) := sm_ext fun i _ => sm_ext fun j _ => e i j
    _ = sm n fun i => sm m fun t => sm n fun j => w t * (A i j * (f t i * f t j)) := sm_ext fun i _ => sm_swap _
    _ = sm m fun t => sm n fun i => sm n fun j => w t * (A i j * (f t i * f t j)) := sm_swap _
    _ = sm m fun t => w t * bf n A (f t) (f t) := sm_ext fun t _ => by
      unfold bf
      rw [← sm_mul]
      exact sm_ext fun i _ => sm_mul _
def dotF (n : Nat) (x y : Nat → Int) : Int := sm n fun k => x k * y k
theorem bf_wsq {n m : Nat} {g : Nat → Nat → Int} {w : Nat → Int} {x y : Nat → Int} : bf n (wsq m g w) x y = sm m fun l => w l * (dotF n x (g l) * dotF n y (g l)) := by
  have e : ∀ i j, wsq m g w i j * (x i * y j) = sm m fun l => w l * ((x i * g l i) * (y j * g l j)) := fun i j => by
    unfold wsq
    rw [← sm_mulr]
    exact sm_ext fun t _ => by ac_rfl
  have pr : ∀ l, (sm n fun i => sm n fun j => w l * ((x i * g l i) * (y j * g l j))) = w l * (dotF n x (g l) * dotF n y (g l)) := fun l => by
    unfold dotF
    rw [← sm_mulr, ← sm_mul]
    refine sm_ext fun i _ => ?_
    rw [← sm_mul, ← sm_mul]
  unfold bf
  calc (sm n fun i => sm n fun j => wsq m g w i j * (x i * y j)) = sm n fun i => sm n fun j => sm m fun l => w l * ((x i * g l i) * (y j * g l j)) := sm_ext fun i _ => sm_ext fun j _ => e i j
    _ = sm n fun i => sm m fun l => sm n fun j => w l * ((x i * g l i) * (y j * g l j)) := sm_ext fun i _ => sm_swap _
    _ = sm m fun l => sm n fun i => sm n fun j => w l * ((x i * g l i) * (y j * g l j)) := sm_swap _
    _ = _ := sm_ext fun l _ => pr l
theorem sm_nonneg {n : Nat} {f : Nat → Int} (h : ∀ k, k < n → 0 ≤ f k) : 0 ≤ sm n f := by
  induction n with
  | zero => rw [sm_zero]; exact Int.le_refl 0
  | succ n ih =>
    rw [sm_succ]
    have := ih fun k hk => h k (by omega)
    have := h n (by omega)
    omega
/-- a matrix between two -/
def sw (n : Nat) (O I : Nat → Nat → Int) : Nat → Nat → Int := fun i j => sm n fun l => (sm n fun k => O i k * I l k) * O j l
theorem sw_sym {n : Nat} {O I : Nat → Nat → Int} (hI : ∀ i, i < n → ∀ j, j < n → I i j = I j i) (i j : Nat) : sw n O I i j = sw n O I j i := by
  have e : ∀ i j, sw n O I i j = sm n fun l => sm n fun k => O i k * I l k * O j l := fun i j => sm_ext fun l _ => (sm_mulr _).symm
  rw [e, e, sm_swap]
  exact sm_ext fun l hl => sm_ext fun k hk => by rw [hI l hl k hk]; ac_rfl
theorem bf_sw {n : Nat} {O I : Nat → Nat → Int} {x : Nat → Int} (hO : ∀ i, i < n → ∀ j, j < n → O i j = O j i) (hI : ∀ i, i < n → ∀ j, j < n → I i j = I j i) : bf n (sw n O I) x x = bf n I (fun k => sm n fun j => O k j * x j) (fun k => sm n fun j => O k j * x j) := by
  have e1 : ∀ i, i < n → ∀ j, j < n → sw n O I i j * (x i * x j) = sm n fun l => sm n fun k => I l k * ((O k i * x i) * (O l j * x j)) := fun i hi j hj => by
    unfold sw
    rw [← sm_mulr]
    refine sm_ext fun l hl => ?_
    rw [Int.mul_assoc, ← sm_mulr]
    exact sm_ext fun k hk => by rw [hO i hi k hk, hO j hj l hl]; ac_rfl
  have e2 : ∀ l k, (sm n fun i => sm n fun j => I l k * ((O k i * x i) * (O l j * x j))) = I l k * ((sm n fun j => O l j * x j) * (sm n fun i => O k i * x i)) := fun l k => by
    rw [Int.mul_comm (sm n fun j => O l j * x j), ← sm_mulr, ← sm_mul]
    refine sm_ext fun i _ => ?_
    rw [← sm_mul, ← sm_mul]
  unfold bf
  calc (sm n fun i => sm n fun j => sw n O I i j * (x i * x j)) = sm n fun i => sm n fun j => sm n fun l => sm n fun k => I l k * ((O k i * x i) * (O l j * x j)) := sm_ext fun i hi => sm_ext fun j hj => e1 i hi j hj
    _ = sm n fun i => sm n fun l => sm n fun j => sm n fun k => I l k * ((O k i * x i) * (O l j * x j)) := sm_ext fun i _ => sm_swap _
    _ = sm n fun l => sm n fun i => sm n fun j => sm n fun k => I l k * ((O k i * x i) * (O l j * x j)) := sm_swap _
    _ = sm n fun l => sm n fun i => sm n fun k => sm n fun j => I l k * ((O k i * x i) * (O l j * x j)) := sm_ext fun l _ => sm_ext fun i _ => sm_swap _
    _ = sm n fun l => sm n fun k => sm n fun i => sm n fun j => I l k * ((O k i * x i) * (O l j * x j)) := sm_ext fun l _ => sm_swap _
    _ = _ := sm_ext fun l _ => sm_ext fun k _ => e2 l k
theorem Low.stands {A B x y : Int} (lo : Low A B x y) (hx : Sz 3000 x) (hy : Sz 3000 y) : m_law_stands (A, B) x y = .ok true := stands_ok lo.pos lo.cop lo.eq (Nat.lt_of_le_of_lt lo.sa hx) (Nat.lt_of_le_of_lt lo.sb hy) hy hx
section
variable {n : Nat} {M1 M2 O I : Nat → Nat → Int} {u1 u2 : Int} {F1 F2 : T_Form}
theorem paired_ok {b c : Nat} (hn : n ≤ 16) (h1 : IsForm n M1 u1 F1) (h2 : IsForm n M2 u2 F2) (s1 : ∀ i, i < n → ∀ j, j < n → Sz b (M1 i j)) (s2 : ∀ i, i < n → ∀ j, j < n → Sz b (M2 i j)) (hu1 : 1 ≤ u1) (hu2 : 1 ≤ u2) (su1 : Sz c u1) (su2 : Sz c u2) (l : b ≤ 4000 := by decide) (lc : c ≤ 4000 := by decide) :
    ∃ A B, m_paired F1 F2 = .ok (A, B) ∧ Low A B (tr n M1 M2) (u1 * u2) := by
  obtain ⟨N1, v1, t1, rfl, S1⟩ := h1.low hu1
  obtain ⟨N2, v2, t2, rfl, S2⟩ := h2.low hu2
  have p1 := S1.pv
  have p2 := S2.pv
  have q1 := S1.ps
  have q2 := S2.ps
  have sv1 : Sz c v1 := S1.sv su1
  have sv2 : Sz c v2 := S2.sv su2
  have vv := Int.mul_pos (show 0 < v1 by omega) (show 0 < v2 by omega)
  have tt := Int.mul_pos (show 0 < t1 by omega) (show 0 < t2 by omega)
  obtain ⟨A, B, e, lo⟩ := fraction_ok (tr n N1 N2) (v1 * v2) vv ((sv1.mul sv2).up (by omega))
  refine ⟨A, B, ?_, ?_⟩
  · unfold m_paired m_same_size
    simp only [decide_true, Bool.not_true, Bool.false_eq_true, if_false, R.ok_bind]
    unfold mat
    rw [zip_vec, show mapM (fun (p3 : List Int × List Int) => m_dot p3.1 p3.2) (vec n fun k => (vec n (N1 k), vec n (N2 k))) = .ok (vec n fun i => sm n fun j => N1 i j * N2 i j) from mapM_vec (fun i hi => dot_ok hn (fun j hj => (S1.sN hi hj (s1 i hi j hj)).up (by omega)) (fun j hj => (S2.sN hi hj (s2 i hi j hj)).up (by omega))) (by omega)]
    simp only [R.ok_bind]
    rw [mulS sv1 sv2 (by omega)]
    simp only [R.ok_bind]
    exact e
  · have k := lo.scale (c := t1 * t2) (by omega)
    have e1 : tr n M1 M2 = tr n N1 N2 * (t1 * t2) := by
      unfold tr
      rw [← sm_mulr]
      refine sm_ext fun i hi => ?_
      rw [← sm_mulr]
      exact sm_ext fun j hj => by rw [S1.eM i hi j hj, S2.eM i hi j hj]; ac_rfl
    have e2 : u1 * u2 = v1 * v2 * (t1 * t2) := by rw [S1.eu, S2.eu]; ac_rfl
    rw [e1, e2]
    exact k
theorem times_ok {b : Nat} {P Q : Nat → Nat → Int} (hn : n ≤ 16) (sP : ∀ i, i < n → ∀ j, j < n → Sz b (P i j)) (sQ : ∀ i, i < n → ∀ j, j < n → Sz b (Q i j)) (l : b ≤ 4000 := by decide) : m_times_symmetric (mat n n P) (mat n n Q) = .ok (mat n n fun i j => sm n fun k => P i k * Q j k) := by
  unfold m_times_symmetric
  simp only [R.ok_bind]
  exact mapM_vec (fun i hi => mapM_vec (fun j hj => dot_ok hn (fun k hk => (sP i hi k hk).up l) (fun k hk => (sQ j hj k hk).up l)) (by omega)) (by omega)
theorem sandwich_ok {b c : Nat} (hn : n ≤ 16) (h1 : IsForm n O u1 F1) (h2 : IsForm n I u2 F2) (hI : ∀ i, i < n → ∀ j, j < n → I i j = I j i) (s1 : ∀ i, i < n → ∀ j, j < n → Sz b (O i j)) (s2 : ∀ i, i < n → ∀ j, j < n → Sz b (I i j)) (hu1 : 1 ≤ u1) (hu2 : 1 ≤ u2) (su1 : Sz c u1) (su2 : Sz c u2) (l : b ≤ 1000 := by decide) (lc : c ≤ 2000 := by decide) :
    Ok (m_sandwich F1 F2) (IsForm n (sw n O I) (u1 * u1 * u2)) := by
  obtain ⟨N1, v1, t1, rfl, S1⟩ := h1.low hu1
  obtain ⟨N2, v2, t2, rfl, S2⟩ := h2.low hu2
  have p1 := S1.pv
  have p2 := S2.pv
  have q1 := S1.ps
  have q2 := S2.ps
  have sv1 : Sz c v1 := S1.sv su1
  have sv2 : Sz c v2 := S2.sv su2
  have sN1 : ∀ i, i < n → ∀ j, j < n → Sz b (N1 i j) := fun i hi j hj => S1.sN hi hj (s1 i hi j hj)
  have sN2 : ∀ i, i < n → ∀ j, j < n → Sz b (N2 i j) := fun i hi j hj => S2.sN hi hj (s2 i hi j hj)
  have vv := Int.mul_pos (Int.mul_pos (show 0 < v1 by omega) (show 0 < v1 by omega)) (show 0 < v2 by omega)
  unfold m_sandwich m_same_size
  simp only [decide_true, Bool.not_true, Bool.false_eq_true, if_false, R.ok_bind]
  rw [times_ok hn sN1 sN2 (by omega)]
  simp only [R.ok_bind]
  have sh : ∀ i, i < n → ∀ j, j < n → Sz (b + b + 4) (sm n fun k => N1 i k * N2 j k) := fun i hi j hj => Sz.sm (fun k hk => (sN1 i hi k hk).mul (sN2 j hj k hk)) hn
  rw [times_ok hn (fun i hi j hj => sh i hi j hj) (fun i hi j hj => (sN1 i hi j hj).up (by omega)) (by omega)]
  simp only [R.ok_bind]
  rw [mulS sv1 sv1 (by omega)]
  simp only [R.ok_bind]
  rw [mulS (sv1.mul sv1) sv2 (by omega)]
  simp only [R.ok_bind]
  refine (init_ok (M := sw n N1 N2) hn (fun i hi j hj => sw_sym (S2.sym hI) i j) (by omega) (((sv1.mul sv1).mul sv2).up (by omega))).mono fun G hG => hG.terms (by omega) fun i hi j hj => ?_
  have e : sw n O I i j = sw n N1 N2 i j * (t1 * t1 * t2) := by
    unfold sw
    rw [← sm_mulr]
    refine sm_ext fun l hl => ?_
    have e2 : (sm n fun k => O i k * I l k) = (sm n fun k => N1 i k * N2 l k) * (t1 * t2) := by
      rw [← sm_mulr]
      exact sm_ext fun k hk => by rw [S1.eM i hi k hk, S2.eM l hl k hk]; ac_rfl
    rw [e2, S1.eM j hj l hl]
    ac_rfl
  rw [e, S1.eu, S2.eu]
  ac_rfl
end
/-! ### pairs are drawn -/
theorem weight1 {row : List Int} (h : Nums 13 row) (kind : Int) : Ok (m_law_draw_weight kind row) fun x => 1 ≤ x ∧ Sz 48 x := by
  refine ((weight_ok h kind).and (Q := fun x => 1 ≤ x) ?_).mono fun x hx => ⟨hx.2, hx.1⟩
  unfold m_law_draw_weight
  refine Ok.ite (fun _ => Ok.ret (by decide)) (fun _ => ?_)
  simp only [R.bind_assoc, R.ok_bind]
  refine Ok.ite (fun _ => ?_) (fun _ => ?_)
  · refine (h.get (by omega) (by omega)).bind fun x hx => ?_
    refine (h.get (by omega) (by omega)).bind fun y hy => ?_
    refine (Ok.mul (m := 10) (n := 30) (by unfold Sz; decide) (by unfold Sz; omega)).bind fun z hz => Ok.ret ?_
    omega
  refine Ok.ite (fun _ => ?_) (fun _ => ?_)
  · exact (h.get (by omega) (by omega)).bind fun x hx => Ok.ret (by omega)
  refine Ok.ite (fun _ => ?_) (fun _ => ?_)
  · refine (h.get (by omega) (by omega)).bind fun x hx => ?_
    refine (Ok.mod (by decide)).bind fun y hy => ?_
    refine (Ok.get (l := (1 : Int) :: (1000000 : Int) :: []) hy.1 (by simpa using hy.2)).mono fun z hz => ?_
    have m := List.mem_of_getElem? hz
    have key : ∀ z ∈ ((1 : Int) :: (1000000 : Int) :: []), 1 ≤ z := by decide
    exact key z m
  refine Ok.ite (fun _ => ?_) (fun _ => ?_)
  · refine (h.get (by omega) (by omega)).bind fun x hx => ?_
    refine (Ok.mul (m := 30) (n := 20) (by unfold Sz; omega) (by unfold Sz; decide)).bind fun z hz => Ok.ret ?_
    omega
  · exact (h.get (by omega) (by omega)).bind fun x hx => Ok.ret (by omega)
/-- so many rows with weights -/
def Prs (n m : Nat) (l : List (List Int × Int)) : Prop := ∃ (f : Nat → Nat → Int) (w : Nat → Int), l = vec m (fun t => (vec n (f t), w t)) ∧ (∀ t, t < m → ∀ k, k < n → Sz 43 (f t k)) ∧ ∀ t, t < m → 1 ≤ w t ∧ Sz 48 (w t)
theorem Prs.snoc {n m : Nat} {l : List (List Int × Int)} {row : List Int} {w : Int} (h : Prs n m l) (hr : Row n 43 row) (hw : 1 ≤ w ∧ Sz 48 w) : Prs n (m + 1) (l ++ [(row, w)]) := by
  obtain ⟨f, v, rfl, hf, hv⟩ := h
  obtain ⟨x, rfl, hx⟩ := hr
  refine ⟨fun t => if t = m then x else f t, fun t => if t = m then w else v t, ?_, fun t ht k hk => ?_, fun t ht => ?_⟩
  · rw [vec_snoc]
    simp only [if_true]
    congr 1
    exact vec_ext fun k hk => by rw [if_neg (show ¬ k = m by omega), if_neg (show ¬ k = m by omega)]
  · by_cases e : t = m
    · simp only [if_pos e]; exact hx k hk
    · simp only [if_neg e]; exact hf t (by omega) k hk
  · by_cases e : t = m
    · simp only [if_pos e]; exact hw
    · simp only [if_neg e]; exact hv t (by omega)
theorem Prs.nil {n : Nat} : Prs n 0 [] := ⟨fun _ _ => 0, fun _ => 1, rfl, fun t ht => absurd ht (Nat.not_lt_zero t), fun t ht => absurd ht (Nat.not_lt_zero t)⟩
theorem drawPairs_ok (script : List Int) {at' : Int} (a : Nat) (ea : at' = (a : Int)) (ha : a ≤ 1000) {n m : Nat} (hn : n ≤ 10) (hm : m ≤ 1000) {many : Int} (em : many = (m : Int)) (style weights twin : Int) : Ok (m_law_draw_pairs script at' (n : Int) many style weights twin) (Prs n m) := by
  unfold m_law_draw_pairs
  rw [em, rng0 m (by omega)]
  simp only [R.ok_bind]
  refine Ok.bind (Ok.fold (fun t l => Prs n t l) Prs.nil fun t ht l hl => ?_) fun l hl => Ok.ret hl
  unfold m_law_draw_pairs_b1
  simp only [R.bind_assoc, R.ok_bind]
  refine (cell_k script (a + t) (by omega) (by omega)).bind fun c _ => ?_
  refine (line_ok c).bind fun line hline => ?_
  refine (row_ok hline hn style).bind fun row hrow => ?_
  have first : ∀ (z : Bool), ((decide ((t : Int) = 1)) && z) = true → ∃ x : Nat → Int, (∀ k, k < n → Sz 43 (x k)) ∧ ∃ w, getM l 0 = .ok (vec n x, w) := fun z hz => by
    have t1 : (t : Int) = 1 := of_decide_eq_true (Bool.and_eq_true_iff.mp hz).1
    obtain ⟨f, w, rfl, hf, hw⟩ := hl
    have t2 : 0 < t := by omega
    exact ⟨f 0, hf 0 t2, w 0, getM_vec t2⟩
  refine Ok.bind (P := fun r => Row n 43 r) (Ok.ite (fun z => ?_) (fun _ => Ok.ret hrow.up)) fun j2 hj2 => ?_
  · obtain ⟨x, hx, w, e⟩ := first _ z
    rw [e]
    exact Ok.ret ⟨x, rfl, hx⟩
  refine Ok.bind (P := fun r => Row n 43 r) (Ok.ite (fun z => ?_) (fun _ => Ok.ret hj2)) fun j3 hj3 => ?_
  · obtain ⟨x, hx, w, e⟩ := first _ z
    rw [e]
    simp only [R.ok_bind]
    rw [show mapM (fun (number : Int) => R.ok (-number)) (vec n x) = .ok (vec n fun k => -x k) from mapM_vec (fun k hk => rfl) (by omega)]
    exact Ok.ret ⟨_, rfl, fun k hk => (hx k hk).neg⟩
  refine (seven_ok hline).bind fun sv hsv => ?_
  refine (weight1 hsv weights).bind fun w hw => ?_
  have ll : l.length = t := by
    obtain ⟨f, v, rfl, _⟩ := hl
    exact vec_length
  rw [appM_ok (by omega)]
  exact Ok.ret (hl.snoc hj3 hw)
structure Drl (M : Nat) (q : Int × List (List Int × Int) × Int) : Prop where
  ex : ∃ n m : Nat, n ≤ 10 ∧ m ≤ M ∧ q.1 = (n : Int) ∧ Prs n m q.2.1 ∧ 1 ≤ q.2.2 ∧ Sz 110 q.2.2
theorem drawList_ok (script : List Int) {at' : Int} (a : Nat) (ea : at' = (a : Int)) (ha : a ≤ 900) (most : Nat) (hm : most ≤ 60) : Ok (m_law_draw_list script at' (most : Int)) (Drl 60) := by
  unfold m_law_draw_list
  simp only [p8, p30, R.ok_bind, R.bind_assoc]
  refine (cell_k script a ea (by omega)).bind fun c _ => ?_
  refine (digits_k c [24, 16, 12, 8, 10, 6, 100000000]).bind fun shape hs => ?_
  refine (Ok.dig hs 0 24).bind fun s0 h0 => ?_
  refine (Ok.get (l := (2 : Int) :: (3 : Int) :: (2 : Int) :: (3 : Int) :: (1 : Int) :: (2 : Int) :: (3 : Int) :: (4 : Int) :: (2 : Int) :: (3 : Int) :: (1 : Int) :: (4 : Int) :: (3 : Int) :: (2 : Int) :: (5 : Int) :: (0 : Int) :: (2 : Int) :: (3 : Int) :: (4 : Int) :: (2 : Int) :: (6 : Int) :: (7 : Int) :: (9 : Int) :: (10 : Int) :: []) h0.1 (by simpa using h0.2)).bind fun size hsz => ?_
  have hsize : 0 ≤ size ∧ size ≤ 10 := by
    have key : ∀ z ∈ ((2 : Int) :: (3 : Int) :: (2 : Int) :: (3 : Int) :: (1 : Int) :: (2 : Int) :: (3 : Int) :: (4 : Int) :: (2 : Int) :: (3 : Int) :: (1 : Int) :: (4 : Int) :: (3 : Int) :: (2 : Int) :: (5 : Int) :: (0 : Int) :: (2 : Int) :: (3 : Int) :: (4 : Int) :: (2 : Int) :: (6 : Int) :: (7 : Int) :: (9 : Int) :: (10 : Int) :: []), 0 ≤ z ∧ z ≤ 10 := by decide
    exact key _ (List.mem_of_getElem? hsz)
  refine (Ok.dig hs 1 16).bind fun s1 h1 => ?_
  refine (Ok.get (l := (3 : Int) :: (4 : Int) :: (5 : Int) :: (6 : Int) :: (2 : Int) :: (8 : Int) :: (10 : Int) :: (1 : Int) :: (4 : Int) :: (7 : Int) :: (5 : Int) :: (0 : Int) :: (9 : Int) :: (3 : Int) :: (16 : Int) :: (60 : Int) :: []) h1.1 (by simpa using h1.2)).bind fun many hmn => ?_
  have hmany : 0 ≤ many ∧ many ≤ 60 := by
    have key : ∀ z ∈ ((3 : Int) :: (4 : Int) :: (5 : Int) :: (6 : Int) :: (2 : Int) :: (8 : Int) :: (10 : Int) :: (1 : Int) :: (4 : Int) :: (7 : Int) :: (5 : Int) :: (0 : Int) :: (9 : Int) :: (3 : Int) :: (16 : Int) :: (60 : Int) :: []), 0 ≤ z ∧ z ≤ 60 := by decide
    exact key _ (List.mem_of_getElem? hmn)
  refine (Ok.dig hs 2 12).bind fun s2 h2 => ?_
  refine (Ok.dig hs 3 8).bind fun s3 h3 => ?_
  refine (Ok.dig hs 5 6).bind fun s5 h5 => ?_
  obtain ⟨n, rfl⟩ : ∃ n : Nat, size = (n : Int) := ⟨size.toNat, by omega⟩
  have hn : n ≤ 10 := by omega
  obtain ⟨m, hm2, em⟩ : ∃ m : Nat, m ≤ 60 ∧ (if (most : Int) < many then (most : Int) else many) = (m : Int) := by
    by_cases q : (most : Int) < many
    · exact ⟨most, by omega, if_pos q⟩
    · exact ⟨many.toNat, by omega, by rw [if_neg q]; omega⟩
  refine (drawPairs_ok script (a + 1) (by omega) (by omega) hn (by omega) em s2 s3 s5).bind fun pairs hp => ?_
  refine (Ok.dig hs 6 100000000).bind fun s6 h6 => ?_
  refine (Ok.dig hs 4 10).bind fun s4 h4 => ?_
  refine (Ok.get (l := (1 : Int) :: (1 : Int) :: (2 : Int) :: (3 : Int) :: (6 : Int) :: (12 : Int) :: (7 : Int) :: (1000 : Int) :: (1 + s6) :: (1000000000000000000000000000000 + 57 : Int) :: []) h4.1 (by simpa using h4.2)).bind fun u hu => ?_
  have mu := List.mem_of_getElem? hu
  simp only [List.mem_cons, List.not_mem_nil, or_false] at mu
  refine Ok.ret ⟨n, m, hn, hm2, rfl, hp, ?_, ?_⟩
  · show 1 ≤ u
    omega
  · show Sz 110 u
    unfold Sz
    omega
/-! ### law_k24: sums of products of matrices -/
section
variable {n m m2 : Nat} {f g : Nat → Nat → Int} {w v : Nat → Int} {A O I : Nat → Nat → Int} {u u1 u2 : Int} {F F1 F2 : T_Form} {x : Nat → Int}
theorem weighted_ok (hn : n ≤ 10) (hm : m ≤ 64) (hf : ∀ t, t < m → ∀ k, k < n → Sz 43 (f t k)) (hw : ∀ t, t < m → Sz 48 (w t)) (hA : ∀ i, i < n → ∀ j, j < n → Sz 139 (A i j)) : m_law_weighted (vec m fun t => (vec n (f t), w t)) (mat n n A) = .ok (tr n (wsq m f w) A) := by
  unfold m_law_weighted
  simp only [R.ok_bind]
  rw [show mapM (fun (pair : List Int × Int) => m_law_value (mat n n A) pair.1 pair.1 >>= fun y1 => mulM pair.2 y1) (vec m fun t => (vec n (f t), w t)) = .ok (vec m fun t => w t * bf n A (f t) (f t)) from mapM_vec (fun k hk => by
    have s0 := sz_bf (by omega) hA (hf k hk) (hf k hk)
    rw [value_ok (by omega) hA (hf k hk) (hf k hk), R.ok_bind]
    exact mulS (hw k hk) s0) (by omega)]
  simp only [R.ok_bind]
  rw [tr_wsq]
  rfl
theorem crossed_ok (hn : n ≤ 10) (hm : m ≤ 64) (hm2 : m2 ≤ 64) (hf : ∀ t, t < m → ∀ k, k < n → Sz 43 (f t k)) (hw : ∀ t, t < m → Sz 48 (w t)) (hg : ∀ t, t < m2 → ∀ k, k < n → Sz 43 (g t k)) (hv : ∀ t, t < m2 → Sz 48 (v t)) :
    m_law_crossed (vec m fun t => (vec n (f t), w t)) (vec m2 fun t => (vec n (g t), v t)) = .ok (tr n (wsq m f w) (wsq m2 g v)) := by
  have sd : ∀ t, t < m → ∀ l, l < m2 → Sz 90 (dotF n (f t) (g l)) := fun t ht l hl => Sz.sm (fun k hk => (hf t ht k hk).mul (hg l hl k hk)) (by omega)
  unfold m_law_crossed
  simp only [R.ok_bind]
  have h := foldR_seq (step := m_law_crossed_b1 (vec m2 fun t => (vec n (g t), v t))) (a := fun t => (vec n (f t), w t)) (fun t => sm t fun t => w t * sm m2 fun l => v l * (dotF n (f t) (g l) * dotF n (f t) (g l))) m fun t ht => by
    unfold m_law_crossed_b1
    simp only [R.ok_bind, R.bind_assoc]
    rw [show mapM (fun (other : List Int × Int) => m_law_dot (vec n (f t)) other.1 >>= fun x2 => powM x2 2 >>= fun y3 => mulM other.2 y3) (vec m2 fun t => (vec n (g t), v t)) = .ok (vec m2 fun l => v l * (dotF n (f t) (g l) * dotF n (f t) (g l))) from mapM_vec (fun l hl => by
      rw [ldot_ok (by omega) (fun k hk => (hf t ht k hk).up) (fun k hk => (hg l hl k hk).up)]
      simp only [R.ok_bind]
      rw [show (sm n fun k => f t k * g l k) = dotF n (f t) (g l) from rfl, Ok.sq (sd t ht l hl), R.ok_bind]
      exact mulS (hv l hl) ((sd t ht l hl).mul (sd t ht l hl))) (by omega)]
    simp only [R.ok_bind]
    have s0 : Sz 234 (vec m2 fun l => v l * (dotF n (f t) (g l) * dotF n (f t) (g l))).sum := Sz.smE (b := 228) (e := 6) (fun l hl => (hv l hl).mul ((sd t ht l hl).mul (sd t ht l hl))) (by omega)
    rw [mulS (hw t ht) s0, R.ok_bind, sm_succ]
    rfl
  rw [sm_zero] at h
  rw [h]
  simp only [R.ok_bind]
  rw [tr_wsq]
  congr 1
  exact sm_ext fun t ht => by rw [bf_wsq]
theorem crossed_nonneg (hw : ∀ t, t < m → 1 ≤ w t) (hv : ∀ t, t < m2 → 1 ≤ v t) : 0 ≤ tr n (wsq m f w) (wsq m2 g v) := by
  rw [tr_wsq]
  refine sm_nonneg fun t ht => Int.mul_nonneg (by have := hw t ht; omega) ?_
  rw [bf_wsq]
  exact sm_nonneg fun l hl => Int.mul_nonneg (by have := hv l hl; omega) (by
    rcases Int.le_total 0 (dotF n (f t) (g l)) with h | h
    · exact Int.mul_nonneg h h
    · exact Int.mul_nonneg_of_nonpos_of_nonpos h h)
theorem lsand_ok {b : Nat} (hn : n ≤ 16) (sO : ∀ i, i < n → ∀ j, j < n → Sz b (O i j)) (sI : ∀ i, i < n → ∀ j, j < n → Sz b (I i j)) (l : b ≤ 1000 := by decide) : m_law_sandwich (mat n n O) (mat n n I) = .ok (mat n n (sw n O I)) := by
  unfold m_law_sandwich
  have hl : (mat n n O).length = n := vec_length
  rw [hl]
  simp only [R.ok_bind, R.bind_assoc]
  rw [rng0 n (by omega)]
  simp only [R.ok_bind]
  rw [show mapM (fun (i : Int) => mapM (fun (j : Int) => getM (mat n n O) i >>= fun x1 => getM (mat n n I) j >>= fun y2 => m_law_dot x1 y2) (vec n fun k => (k : Int))) (vec n fun k => (k : Int)) = .ok (mat n n fun i j => sm n fun k => O i k * I j k) from mapM_vec (fun i hi => mapM_vec (fun j hj => by
    rw [mat_get hi, R.ok_bind, mat_get hj, R.ok_bind]
    exact ldot_ok hn (fun k hk => (sO i hi k hk).up (by omega)) (fun k hk => (sI j hj k hk).up (by omega))) (by omega)) (by omega)]
  simp only [R.ok_bind]
  have sh : ∀ i, i < n → ∀ j, j < n → Sz (b + b + 4) (sm n fun k => O i k * I j k) := fun i hi j hj => Sz.sm (fun k hk => (sO i hi k hk).mul (sI j hj k hk)) hn
  exact mapM_vec (fun i hi => mapM_vec (fun j hj => by
    rw [mat_get hi, R.ok_bind, mat_get hj, R.ok_bind]
    exact ldot_ok hn (fun k hk => (sh i hi k hk).up (by omega)) (fun k hk => (sO j hj k hk).up (by omega))) (by omega)) (by omega)
theorem sw_sz {b : Nat} (hn : n ≤ 16) (sO : ∀ i, i < n → ∀ j, j < n → Sz b (O i j)) (sI : ∀ i, i < n → ∀ j, j < n → Sz b (I i j)) : ∀ i, i < n → ∀ j, j < n → Sz (b + b + 4 + b + 4) (sw n O I i j) := fun i hi j hj => Sz.sm (fun l hl => (Sz.sm (fun k hk => (sO i hi k hk).mul (sI l hl k hk)) hn).mul (sO j hj l hl)) hn
theorem fr_any (y z : Int) (hz : 1 ≤ z) (sz : Sz 8000 z) : ∃ A B, m_fraction y z = .ok (A, B) ∧ Low A B y z := fraction_ok y z (by omega) sz
theorem at_alg {A B a b w uo ui bt bg : Int} (h1 : A * (b * w * w) = a * B) (h2 : a * ui = bg * b) (h3 : bg * (uo * uo) = bt * (w * w)) : b * (w * w) * (A * (uo * uo * ui)) = b * (w * w) * (bt * B) := by
  have e : b * (w * w) * (A * (uo * uo * ui)) = (A * (b * w * w)) * (uo * uo * ui) := by ac_rfl
  rw [e, h1]
  have e2 : a * B * (uo * uo * ui) = (a * ui) * (B * (uo * uo)) := by ac_rfl
  rw [e2, h2]
  have e3 : bg * b * (B * (uo * uo)) = (bg * (uo * uo)) * (b * B) := by ac_rfl
  rw [e3, h3]
  ac_rfl
theorem pressed_ok (hn : n ≤ 10) (h1 : IsForm n O u1 F1) (h2 : IsForm n I u2 F2) (hO : ∀ i, i < n → ∀ j, j < n → O i j = O j i) (hI : ∀ i, i < n → ∀ j, j < n → I i j = I j i) (sO : ∀ i, i < n → ∀ j, j < n → Sz 150 (O i j)) (sI : ∀ i, i < n → ∀ j, j < n → Sz 150 (I i j))
    (hu1 : 1 ≤ u1) (hu2 : 1 ≤ u2) (su1 : Sz 140 u1) (su2 : Sz 140 u2) (hx : ∀ k, k < n → Sz 43 (x k)) : m_law_pressed F1 (mat n n O) u1 F2 (mat n n I) u2 (vec n x) = .ok true := by
  have hn' : n ≤ 16 := by omega
  have hl : (mat n n O).length = n := vec_length
  obtain ⟨G1, e1, g1⟩ := sandwich_ok hn' h1 h2 hI sO sI hu1 hu2 su1 su2
  obtain ⟨G2, e2, g2⟩ := sandwich_ok hn' h2 h1 hO sI sO hu2 hu1 su2 su1
  have z1 := sw_sz hn' sO sI
  have z2 := sw_sz hn' sI sO
  have pu : 1 ≤ u1 * u1 * u2 := by have := Int.mul_pos (Int.mul_pos (show 0 < u1 by omega) (show 0 < u1 by omega)) (show 0 < u2 by omega); omega
  have pu2 : 1 ≤ u2 * u2 * u1 := by have := Int.mul_pos (Int.mul_pos (show 0 < u2 by omega) (show 0 < u2 by omega)) (show 0 < u1 by omega); omega
  have m1 : (mulM u1 u1 >>= fun x1 => mulM x1 u2) = .ok (u1 * u1 * u2) := by rw [mulS su1 su1, R.ok_bind]; exact mulS (su1.mul su1) su2
  have m2 : (mulM u2 u2 >>= fun x1 => mulM x1 u1) = .ok (u2 * u2 * u1) := by rw [mulS su2 su2, R.ok_bind]; exact mulS (su2.mul su2) su1
  have su : Sz 420 (u1 * u1 * u2) := (su1.mul su1).mul su2
  have su' : Sz 420 (u2 * u2 * u1) := (su2.mul su2).mul su1
  have sT : ∀ k, k < n → Sz 197 (sm n fun j => O k j * x j) := fun k hk => Sz.sm (fun j hj => (sO k hk j hj).mul (hx j hj)) hn'
  unfold m_law_pressed
  rw [hl, e1, e2, lsand_ok hn' sO sI, lsand_ok hn' sI sO, m1, m2]
  simp only [R.ok_bind]
  rw [formis_ok hn' g1 pu su.up (fun i hi j hj => (z1 i hi j hj).up), formis_ok hn' g2 pu2 su'.up (fun i hi j hj => (z2 i hi j hj).up)]
  simp only [R.ok_bind, Bool.not_true, Bool.false_eq_true, if_false]
  rw [rng0 n (by omega)]
  simp only [R.ok_bind, R.bind_assoc]
  rw [show mapM (fun (k : Int) => getM (mat n n O) k >>= fun x10 => m_law_dot x10 (vec n x)) (vec n fun k => (k : Int)) = .ok (vec n fun k => sm n fun j => O k j * x j) from mapM_vec (fun k hk => by
    rw [mat_get hk, R.ok_bind]
    exact ldot_ok hn' (fun j hj => (sO k hk j hj).up) (fun j hj => (hx j hj).up)) (by omega)]
  simp only [R.ok_bind]
  rw [value_ok hn' sI sT sT]
  simp only [R.ok_bind]
  obtain ⟨A, B, e3, lo3⟩ := between_ok hn' g1 z1 pu su.up hx hx
  have cl : m_Form_call G1 (vec n x) = .ok (A, B) := by unfold m_Form_call; exact e3
  rw [cl]
  simp only [R.ok_bind]
  rw [bf_sw hO hI] at lo3
  have sb0 := sz_bf hn' sI sT sT
  generalize hbt : bf n I (fun k => sm n fun j => O k j * x j) (fun k => sm n fun j => O k j * x j) = bt at lo3 sb0 ⊢
  rw [lo3.stands sb0.up su.up]
  simp only [R.ok_bind, Bool.not_true, Bool.false_eq_true, if_false]
  obtain ⟨q, e4, G, c, rfl, c1, eG, _, sG, sc⟩ := (applied_ok hn' h1 sO hu1 su1 hx (d := 1) (by omega) (by unfold Sz; decide)).mono fun r h => h.ex
  rw [e4]
  simp only [R.ok_bind]
  have sGz : ∀ k, k < n → Sz 197 (G k) := fun k hk => Nat.lt_of_le_of_lt (sG k hk) (sT k hk)
  have scz : Sz 140 c := Nat.lt_of_le_of_lt sc (by rw [Int.mul_one]; exact su1)
  obtain ⟨a, b, e5, lo5⟩ := between_ok hn' h2 sI hu2 su2.up sGz sGz
  have sg0 := sz_bf hn' sI sGz sGz
  obtain ⟨sa, sb⟩ := lo5.sz sg0 su2
  have pb := lo5.pos
  have pbc := Int.mul_pos (Int.mul_pos (show 0 < b by omega) (show 0 < c by omega)) (show 0 < c by omega)
  obtain ⟨A2, B2, e6, lo6⟩ := fr_any a (b * c * c) (by omega) (((sb.mul scz).mul scz).up)
  have ea : m_Form_at F2 (vec n G, c) = .ok (A2, B2) := by
    unfold m_Form_at
    simp only [R.ok_bind]
    rw [e5]
    simp only [R.ok_bind]
    rw [mulS sb scz, R.ok_bind, mulS (sb.mul scz) scz]
    exact e6
  rw [ea]
  simp only [R.ok_bind]
  have eb : bf n I G G * (u1 * u1) = bt * (c * c) := by
    rw [← hbt]
    unfold bf
    rw [← sm_mulr, ← sm_mulr]
    refine sm_ext fun i hi => ?_
    rw [← sm_mulr, ← sm_mulr]
    refine sm_ext fun j hj => ?_
    have k1 := eG i hi
    have k2 := eG j hj
    simp only [Int.mul_one] at k1 k2
    calc I i j * (G i * G j) * (u1 * u1) = I i j * ((G i * u1) * (G j * u1)) := by ac_rfl
      _ = _ := by rw [k1, k2]; ac_rfl
  have key := at_alg lo6.eq lo5.eq eb
  have pcc := Int.mul_pos (show 0 < b by omega) (Int.mul_pos (show 0 < c by omega) (show 0 < c by omega))
  obtain ⟨sA2, sB2⟩ := lo6.sz sa ((sb.mul scz).mul scz)
  exact stands_ok lo6.pos lo6.cop (Int.eq_of_mul_eq_mul_left (by omega) key) sA2.up sB2.up su.up sb0.up
theorem refused_b1 {N : Nat} {S : T_Form} (hF : ∃ M v, F = ((((), (n : Int)), M), v)) (hS : ∃ M v, S = ((((), (N : Int)), M), v)) (ne : n ≠ N) (t : Nat) (ht : t < 2) : m_law_refused_b1 F S (n : Int) (N : Int) () (t : Int) = .ok (.nxt ()) := by
  obtain ⟨M, v, rfl⟩ := hF
  obtain ⟨M2, v2, rfl⟩ := hS
  have ss : m_same_size ((((), (n : Int)), M), v) ((((), (N : Int)), M2), v2) = .exn ⟨"SizesDiffer", x_SizesDiffer ((N : Int), (n : Int), ())⟩ := by
    unfold m_same_size
    dsimp only
    rw [decide_eq_false (show ¬ (n : Int) = (N : Int) by omega)]
    unfold m_SizesDiffer_init
    rfl
  have e1 : m_paired ((((), (n : Int)), M), v) ((((), (N : Int)), M2), v2) = .exn ⟨"SizesDiffer", x_SizesDiffer ((N : Int), (n : Int), ())⟩ := by
    unfold m_paired
    rw [ss]
    rfl
  have e2 : m_sandwich ((((), (n : Int)), M), v) ((((), (N : Int)), M2), v2) = .exn ⟨"SizesDiffer", x_SizesDiffer ((N : Int), (n : Int), ())⟩ := by
    unfold m_sandwich
    rw [ss]
    rfl
  unfold m_law_refused_b1
  have wh : ∀ z, mh_law_whole z = .ok true := fun z => by unfold mh_law_whole; rfl
  simp only [wh, e1, e2]
  have ei : ∀ b : Bool, (if b = true then (R.exn ⟨"SizesDiffer", x_SizesDiffer ((N : Int), (n : Int), ())⟩ >>= fun (_ : Int × Int) => (R.ok (Out.nxt false) : R (Out Bool Bool Empty))) else (R.exn ⟨"SizesDiffer", x_SizesDiffer ((N : Int), (n : Int), ())⟩ >>= fun (_ : T_Form) => (R.ok (Out.nxt false) : R (Out Bool Bool Empty)))) = R.exn ⟨"SizesDiffer", x_SizesDiffer ((N : Int), (n : Int), ())⟩ := fun b => by cases b <;> rfl
  simp only [R.ok_bind]
  rw [ei]
  show (R.nox ((R.ok (decide ((n : Int) = (n : Int))) >>= fun z8 => if z8 = true then R.ok (decide ((N : Int) = (N : Int))) else R.ok false) >>= fun (refused : Bool) => R.ok (Out.nxt refused : Out Bool Bool Empty)) >>= Out.cs (fun (s12 : Bool) => (if (!s12) = true then (R.ok (Out.ret false) : R (Out Bool Unit Unit)) else R.ok (Out.nxt ()))) (fun b => R.ok (Out.ret b))) = .ok (.nxt ())
  rw [decide_eq_true (rfl : (n : Int) = (n : Int)), decide_eq_true (rfl : (N : Int) = (N : Int))]
  rfl
theorem refused_ok {N : Nat} {S : T_Form} (hF : ∃ M v, F = ((((), (n : Int)), M), v)) (hS : ∃ M v, S = ((((), (N : Int)), M), v)) (ne : n ≠ N) : m_law_refused F S (n : Int) (N : Int) = .ok true := by
  unfold m_law_refused
  rw [show (2 : Int) = ((2 : Nat) : Int) from rfl, rng0 2 (by decide)]
  simp only [R.ok_bind]
  obtain ⟨s', e, _⟩ := loopR_go (n := 2) (a := fun k => (k : Int)) (step := m_law_refused_b1 F S (n : Int) (N : Int)) (s := ()) (fun _ _ => True) trivial fun k hk s _ => ⟨(), refused_b1 hF hS ne k hk, trivial⟩
  rw [e]
  rfl
theorem IsForm.shape {M : Nat → Nat → Int} (h : IsForm n M u F) : ∃ M v, F = ((((), (n : Int)), M), v) := by
  obtain ⟨N, v, e, _⟩ := h.ex
  exact ⟨_, v, e⟩
end
theorem p9 : powM (10 : Int) (9 : Int) = .ok 1000000000 := R.guard_ok (by decide)
theorem p40 : powM (10 : Int) (40 : Int) = .ok 10000000000000000000000000000000000000000 := R.guard_ok (by decide)
theorem law_true (ns : List Int) : Ok (m_law ns) fun b => b = true := by
  unfold m_law
  refine (drawList_ok ns 0 rfl (by decide) 30 (by decide)).bind fun drawn hd => ?_
  obtain ⟨sz, prs, w1⟩ := drawn
  obtain ⟨n, m, hn, hm, e1, hp, hu1, su1⟩ := hd.ex
  clear hd
  dsimp only at e1 hp hu1 su1
  subst e1
  have hn' : n ≤ 16 := by omega
  obtain ⟨f, w, rfl, hf, hw⟩ := hp
  have hwp : ∀ t, t < m → 1 ≤ w t := fun t ht => (hw t ht).1
  have hws : ∀ t, t < m → Sz 48 (w t) := fun t ht => (hw t ht).2
  simp only [R.ok_bind, R.bind_assoc, p9, p40]
  refine (cell_k ns 31 rfl (by decide)).bind fun c _ => ?_
  refine (digits_k c [5, 8, 12, 8, 10, 2, 12, 3, 6]).bind fun turn ht => ?_
  refine Ok.bind (Ok.eq (rng0 10 (by decide))) fun l hl => ?_
  rw [hl]
  refine (Ok.map (n := 10) (a := fun k => (k : Int)) (Q := fun _ x => Digs LS x) (fun k hk => (cell_k ns (32 + k) (by omega) (by omega)).bind fun c _ => line_ok c) (by decide)).bind fun lines hlines => ?_
  obtain ⟨L, rfl, hL⟩ := hlines
  refine (Ok.dig ht 0 5).bind fun t0 h0 => ?_
  refine (Ok.get (l := (0 : Int) :: (1 : Int) :: (2 : Int) :: (3 : Int) :: (14 : Int) :: []) h0.1 (by simpa using h0.2)).bind fun kind _ => ?_
  refine (any_ok hn kind hL).bind fun tab htab => ?_
  obtain ⟨A, rfl, hs, hA⟩ := htab.ex
  refine (Ok.dig ht 1 8).bind fun t1 h1 => ?_
  refine (Ok.get (l := (1 : Int) :: (2 : Int) :: (3 : Int) :: (12 : Int) :: (7 : Int) :: (1 : Int) :: (1000000000 + 7 : Int) :: (10000000000000000000000000000000000000000 + 121 : Int) :: []) h1.1 (by simpa using h1.2)).bind fun u hu => ?_
  have hu' : 1 ≤ u ∧ Sz 140 u := by
    have mu := List.mem_of_getElem? hu
    simp only [List.mem_cons, List.not_mem_nil, or_false] at mu
    refine ⟨by omega, ?_⟩
    unfold Sz
    omega
  obtain ⟨hu0, su⟩ := hu'
  rw [show m_law_table (n : Int) (vec m fun t => (vec n (f t), w t)) = .ok (mat n n (wsq m f w)) from table_eq hn f w hf hws]
  simp only [R.ok_bind]
  refine (Ok.dig ht 4 10).bind fun t4 h4 => ?_
  refine (Ok.dig ht 2 12).bind fun t2 h2 => ?_
  refine (Ok.dig ht 3 8).bind fun t3 h3 => ?_
  refine (Ok.dig ht 7 3).bind fun t7 h7 => ?_
  refine (drawPairs_ok ns 42 rfl (by decide) hn (m := t4.toNat) (by omega) (by omega) t2 t3 t7).bind fun others ho => ?_
  obtain ⟨g, v, rfl, hg, hv⟩ := ho
  have hvp : ∀ t, t < t4.toNat → 1 ≤ v t := fun t ht => (hv t ht).1
  have hvs : ∀ t, t < t4.toNat → Sz 48 (v t) := fun t ht => (hv t ht).2
  have hm2 : t4.toNat ≤ 64 := by omega
  generalize t4.toNat = m2 at *
  refine (Ok.dig ht 8 6).bind fun t8 h8 => ?_
  refine (Ok.get (l := (1 : Int) :: (4 : Int) :: (6 : Int) :: (1 : Int) :: (1000 : Int) :: (5 : Int) :: []) h8.1 (by simpa using h8.2)).bind fun share hsh => ?_
  have hs' : 1 ≤ share ∧ Sz 110 share := by
    have mu := List.mem_of_getElem? hsh
    simp only [List.mem_cons, List.not_mem_nil, or_false] at mu
    refine ⟨by omega, ?_⟩
    unfold Sz
    omega
  obtain ⟨hs0, ss⟩ := hs'
  rw [show mapM (fun (pair : List Int × Int) => R.ok (pair.1, pair.2)) (vec m fun t => (vec n (f t), w t)) = .ok (vec m fun t => (vec n (f t), w t)) from mapM_vec (fun k hk => rfl) (by omega)]
  simp only [R.ok_bind]
  refine (rowsH_ok hn (by omega) hwp hf hws hu1 su1.up).bind fun rows hr => ?_
  obtain ⟨W, v1, s1, FR, rfl, _, _, _, _, _, iR⟩ := hr.ex
  refine (rowsP_ok hn hm2 hvp hg hvs hs0 ss.up).bind fun again hag => ?_
  obtain ⟨W2, v2, s2, FA, rfl, _, _, _, _, _, iA⟩ := hag.ex
  rw [show mapM (fun (line : List Int) => R.ok line) (mat n n A) = .ok (mat n n A) from mapM_vec (fun k hk => rfl) (by omega)]
  simp only [R.ok_bind]
  refine (init_ok hn' hs hu0 su.up).bind fun form hF => ?_
  have zR := wsq_sz (e := 6) (n := n) (show m ≤ 2 ^ 6 by omega) hf hws
  have zA := wsq_sz (e := 6) (n := n) (show m2 ≤ 2 ^ 6 by omega) hg hvs
  have sR : ∀ i, i < n → ∀ j, j < n → Sz 150 (wsq m f w i j) := fun i hi j hj => (zR i hi j hj).up
  have sA : ∀ i, i < n → ∀ j, j < n → Sz 150 (wsq m2 g v i j) := fun i hi j hj => (zA i hi j hj).up
  have sF : ∀ i, i < n → ∀ j, j < n → Sz 150 (A i j) := fun i hi j hj => (hA i hi j hj).up
  have yR : ∀ i, i < n → ∀ j, j < n → wsq m f w i j = wsq m f w j i := fun i _ j _ => wsq_sym i j
  have su1' : Sz 140 w1 := su1.up
  have ss' : Sz 140 share := ss.up
  show Ok (m_law_form_is FR (mat n n (wsq m f w)) w1 >>= _) _
  rw [formis_ok hn' iR hu1 su1.up (fun i hi j hj => (sR i hi j hj).up)]
  simp only [R.ok_bind, Bool.not_true, Bool.false_eq_true, if_false]
  rw [formis_ok hn' hF hu0 su.up (fun i hi j hj => (sF i hi j hj).up)]
  simp only [R.ok_bind, Bool.not_true, Bool.false_eq_true, if_false]
  rw [weighted_ok hn (by omega) hf hws hA]
  simp only [R.ok_bind]
  have trz : ∀ {P Q : Nat → Nat → Int}, (∀ i, i < n → ∀ j, j < n → Sz 150 (P i j)) → (∀ i, i < n → ∀ j, j < n → Sz 150 (Q i j)) → Sz 308 (tr n P Q) := fun hP hQ => Sz.sm (b := 304) (fun i hi => Sz.sm (b := 300) (fun j hj => (hP i hi j hj).mul (hQ i hi j hj)) hn') hn'
  obtain ⟨A1, B1, q1, l1⟩ := paired_ok hn' iR hF sR sF hu1 hu0 su1' su
  obtain ⟨A2, B2, q2, l2⟩ := paired_ok hn' iR iA sR sA hu1 hs0 su1' ss'
  obtain ⟨A3, B3, q3, l3⟩ := paired_ok hn' hF iR sF sR hu0 hu1 su su1'
  obtain ⟨A4, B4, q4, l4⟩ := paired_ok hn' hF hF sF sF hu0 hu0 su su
  rw [q1, q2, q3, q4]
  simp only [R.ok_bind]
  rw [mulS su1' su]
  simp only [R.ok_bind]
  rw [l1.stands (trz sR sF).up (su1'.mul su).up]
  simp only [R.ok_bind, Bool.not_true, Bool.false_eq_true, if_false]
  rw [crossed_ok hn (by omega) hm2 hf hws hg hvs]
  simp only [R.ok_bind]
  rw [mulS su1' ss']
  simp only [R.ok_bind]
  rw [l2.stands (trz sR sA).up (su1'.mul ss').up]
  simp only [R.ok_bind, Bool.not_true, Bool.false_eq_true, if_false]
  have nn : ¬ A2 < 0 := by
    have h1 := crossed_nonneg (n := n) (f := f) (g := g) hwp hvp
    have h2 := l2.eq
    have h3 := l2.pos
    have h4 := Int.mul_nonneg h1 (show 0 ≤ B2 by omega)
    have h5 := Int.mul_pos (show 0 < w1 by omega) (show 0 < share by omega)
    rw [← h2] at h4
    intro h6
    have := Int.mul_neg_of_neg_of_pos h6 h5
    omega
  rw [decide_eq_false nn]
  simp only [Bool.false_eq_true, if_false]
  rw [tr_comm, show w1 * u = u * w1 from Int.mul_comm _ _, l3.stands (trz sF sR).up (su.mul su1').up]
  simp only [R.ok_bind, Bool.not_true, Bool.false_eq_true, if_false]
  rw [show mapM (fun (line : List Int) => m_law_dot line line) (mat n n A) = .ok (vec n fun i => sm n fun j => A i j * A i j) from mapM_vec (fun i hi => ldot_ok hn' (fun k hk => (sF i hi k hk).up) (fun k hk => (sF i hi k hk).up)) (by omega)]
  simp only [R.ok_bind]
  rw [mulS su su]
  simp only [R.ok_bind]
  rw [show (vec n fun i => sm n fun j => A i j * A i j).sum = tr n A A from rfl, l4.stands (trz sF sF).up (su.mul su).up]
  simp only [R.ok_bind, Bool.not_true, Bool.false_eq_true, if_false]
  obtain ⟨GS, eS, iS⟩ := sandwich_ok hn' hF hF hs sF sF hu0 hu0 su su
  rw [eS, lsand_ok hn' sF sF]
  simp only [R.ok_bind]
  rw [mulS (su.mul su) su]
  simp only [R.ok_bind]
  have zz := sw_sz hn' sF sF
  have pu : 1 ≤ u * u * u := by have := Int.mul_pos (Int.mul_pos (show 0 < u by omega) (show 0 < u by omega)) (show 0 < u by omega); omega
  rw [formis_ok hn' iS pu ((su.mul su).mul su).up (fun i hi j hj => (zz i hi j hj).up)]
  simp only [R.ok_bind, Bool.not_true, Bool.false_eq_true, if_false]
  refine (Ok.dig ht 6 12).bind fun t6 h6 => ?_
  refine (cell_k ns 51 rfl (by decide)).bind fun c _ => ?_
  refine (line_ok c).bind fun line hline => ?_
  refine (row_ok hline hn t6).bind fun point hpt => ?_
  obtain ⟨x, rfl, hx⟩ := (hpt.up : Row n 43 point)
  rw [pressed_ok hn hF iR hs yR sF sR hu0 hu1 su su1' hx]
  simp only [R.ok_bind, Bool.not_true, Bool.false_eq_true, if_false]
  refine Ok.bind (P := fun z => (z = true → n = 10 ∨ 0 < n) ∧ (z = false → n ≠ 10)) (Ok.ite (fun c => Ok.ret ⟨fun _ => .inl (by have := of_decide_eq_true c; omega), fun h => (by cases h)⟩) (fun c => ?_)) fun z26 hz => ?_
  · have n10 : n ≠ 10 := by have := of_decide_eq_false c; omega
    refine (Ok.dig ht 5 2).bind fun t3 _ => ?_
    exact Ok.ite (fun _ => Ok.ret ⟨fun h => .inr (by have := of_decide_eq_true h; omega), fun _ => n10⟩) (fun _ => Ok.ret ⟨fun h => (by cases h), fun _ => n10⟩)
  refine Ok.bind (P := fun j => ∃ N : Nat, j = (N : Int) ∧ N ≤ 10 ∧ n ≠ N) (Ok.ite (fun c => Ok.ret ?_) (fun c => Ok.ret ?_)) fun j58 hj58 => ?_
  · have n0 : 0 < n := by rcases hz.1 c with h | h <;> omega
    exact ⟨n - 1, by omega, by omega, by omega⟩
  · have n10 := hz.2 c
    exact ⟨n + 1, by omega, by omega, by omega⟩
  obtain ⟨N, rfl, hN, ne⟩ := hj58
  refine (any_ok hN 0 hL).bind fun tab2 htab2 => ?_
  obtain ⟨A', rfl, hs2, hA2⟩ := htab2.ex
  refine (init_ok (by omega) hs2 hu0 su.up).bind fun strange hS => ?_
  rw [refused_ok hF.shape hS.shape ne, refused_ok hS.shape hF.shape (Ne.symm ne)]
  simp only [R.ok_bind, Bool.not_true, Bool.false_eq_true, if_false]
  rw [show w1 * u = u * w1 from Int.mul_comm _ _] at l1
  exact Ok.ret rfl
theorem law_ok (ns : List Int) : m_law ns = .ok true := by
  obtain ⟨b, e, rfl⟩ := law_true ns
  exact e
end Lw
set_option maxHeartbeats 40000000
set_option synthInstance.maxHeartbeats 400000
set_option synthInstance.maxSize 2000
/-! # each def keeps its mirror -/
namespace Lw
open PySem PySem.Spec PyProof.Rows L2 L2H Zk
section
variable {P : Program} {w : World} {K : PySem.W.Frag} {mg : Str → Option Value} {base : Heap}
theorem sc_law_cell : FnScope ["script", "k", "seed", "cell"] ["script", "k"] (defScope s__law_cell) := ⟨rfl, rfl, rfl, by decide +kernel, rfl, by decide +kernel, by decide +kernel⟩
theorem fn_law_cell (T : Gl0 K mg base) {fd : FuncData} (D : FunD K d__law_cell.name d__law_cell.qual d__law_cell.params d__law_cell.body d__law_cell.scope (d__law_cell.dvs K) (d__law_cell.kws K) (d__law_cell.at_ K) fd) : FnOk P w K mg base (L2N.CX P w) 1 (d__law_cell.at_ K) fd ["script", "k"] (spF K (aCons (cL cI) (aOne cI)) cI (fun z => m_law_cell z.1 z.2)) := by
  have sn := sc_law_cell.nd
  refine fn_mk (ν := Empty) (κ := Empty) (eN := fun _ => []) (eK := fun _ => []) D sc_law_cell rfl (by decide) (fun cdv A outer s H E hr hp hw z => ?_)
  obtain ⟨script, k⟩ := z
  show DS _ _ true [.st (List Int) (cL cI) script, .st Int cI k, .none, .none] _ _ _ _ (fun b => (.ret b : Out Int Empty Empty)) (m_law_cell script k)
  unfold m_law_cell
  refine ifA_p (by exact (ltT_pp (var 1) (lenL_p (T.free fi_len) (var 0)))) ?_ ?_
  · refine retF ?_
    exact (ixL_pp (var 0) (var 1))
  refine asg (c := cI) 2 sn (by exact int) fun seed => ?_
  refine forF (eL := fun (s1 : Int) => [.st (List Int) (cL cI) script, .st Int cI k, .st Int cI s1, .none]) (step := m_law_cell_b1) rfl hw (by exact (iterL (var 0))) (tgN 3 sn) (leS (leS (leS (leN leZ)))) (fun s1 cell => ?_) fun s5 => ?_
  · unfold m_law_cell_b1
    refine asg (c := cI) 2 sn (by exact (mod_mp (intI_m (T.free fi_int) (add_mm (mul_pp (var 2) int) (mod_pp (intI_p (T.free fi_int) (var 3)) int))) int)) fun seed => ?_
    exact (nil rfl (leS (leS (leS (leN leZ)))))
  refine retF ?_
  exact (mod_mp (intI_m (T.free fi_int) (mul_mp (mul_pp (add_pp (var 2) int) (add_pp (var 1) int)) int)) int)
theorem ok_law_cell (T : Gl0 K mg base) : FnI P w K mg base "_law_cell" 1 ["script", "k"] (aCons (cL cI) (aOne cI)) cI (fun z => m_law_cell z.1 z.2) := by
  obtain ⟨fd, D⟩ := T.c.def_ di__law_cell (d := d__law_cell) rfl
  exact fni (fn_law_cell T D) (T.glo gi__law_cell) D.kp (D.bindsN fun _ _ _ _ _ _ us hl => match us, hl with | [_, _], _ => rfl)

theorem sc_law_digits : FnScope ["cell", "sizes", "row", "rest", "size", "seed", "k", "twice"] ["cell", "sizes"] (defScope s__law_digits) := ⟨rfl, rfl, rfl, by decide +kernel, rfl, by decide +kernel, by decide +kernel⟩
theorem fn_law_digits (T : Gl0 K mg base) {fd : FuncData} (D : FunD K d__law_digits.name d__law_digits.qual d__law_digits.params d__law_digits.body d__law_digits.scope (d__law_digits.dvs K) (d__law_digits.kws K) (d__law_digits.at_ K) fd) : FnOk P w K mg base (L2N.CX P w) 1 (d__law_digits.at_ K) fd ["cell", "sizes"] (spF K (aCons cI (aOne (cL cI))) (cL cI) (fun z => m_law_digits z.1 z.2)) := by
  have sn := sc_law_digits.nd
  refine fn_mk (ν := Empty) (κ := Empty) (eN := fun _ => []) (eK := fun _ => []) D sc_law_digits rfl (by decide) (fun cdv A outer s H E hr hp hw z => ?_)
  obtain ⟨cell, sizes⟩ := z
  show DS _ _ true [.st Int cI cell, .st (List Int) (cL cI) sizes, .none, .none, .none, .none, .none, .none] _ _ _ _ (fun b => (.ret b : Out (List Int) Empty Empty)) (m_law_digits cell sizes)
  unfold m_law_digits
  refine asgO (o := (oL cI)) 2 sn (by exact (dlo (lst0 (c := cI)))) fun row => ?_
  refine asg (c := cI) 3 sn (by exact (intI_p (T.free fi_int) (var 0))) fun rest => ?_
  refine ifA (by exact (geT_pm (var 3) (pow_pp int int))) ?_ ?_
  · refine asg (c := cI) 3 sn (by exact (sub_pm (var 3) (pow_pp int int))) fun rest => ?_
    refine forF (eL := fun (s3 : ((List Int) × Int)) => [.st Int cI cell, .st (List Int) (cL cI) sizes, .ow (List Int) (oL cI) s3.1, .st Int cI s3.2, .none, .none, .none, .none]) (step := m_law_digits_b1) rfl hw (by exact (iterL (var 1))) (tgN 4 sn) (leS (leS (leS (leS (leN (leN (leN (leN leZ)))))))) (fun s3 size => ?_) fun s5 => ?_
    · unfold m_law_digits_b1
      refine app 2 (by exact (mod_pp (intI_p (T.free fi_int) (var 3)) (var 4))) fun row => ?_
      refine asg (c := cI) 3 sn (by exact (fdiv_pp (intI_p (T.free fi_int) (var 3)) (var 4))) fun rest => ?_
      exact (nil rfl (leS (leS (leS (leS (leN (leN (leN (leN leZ)))))))))
    refine settle 2 rfl ?_
    refine retF ?_
    exact (var 2)
  refine asg (c := cI) 5 sn (by exact (mod_pp (intI_p (T.free fi_int) (var 3)) int)) fun seed => ?_
  refine forF (eL := fun (s6 : (Int × (List Int))) => [.st Int cI cell, .st (List Int) (cL cI) sizes, .ow (List Int) (oL cI) s6.2, .st Int cI rest, .none, .st Int cI s6.1, .none, .none]) (step := (m_law_digits_b2 sizes)) rfl hw (by exact (iterR1_p (T.free fi_range) (lenL_p (T.free fi_len) (var 1)))) (tgN 6 sn) (leS (leS (leS (leS (leN (leS (leN (leN leZ)))))))) (fun s6 k => ?_) fun s17 => ?_
  · unfold m_law_digits_b2
    refine asg (c := cI) 5 sn (by exact (mod_mp (intI_m (T.free fi_int) (add_mp (add_mm (mul_pp (var 5) int) (mul_pp int (var 6))) int)) int)) fun seed => ?_
    refine asg (c := cI) 7 sn (by exact (mod_mp (intI_m (T.free fi_int) (mul_pm (var 5) (add_mp (fdiv_pp (var 5) int) int))) int)) fun twice => ?_
    refine app 2 (by exact (mod_mm (fdiv_pp (var 7) int) (ixL_pp (var 1) (var 6)))) fun row => ?_
    exact (nil rfl (leS (leS (leS (leS (leN (leS (leN (leN leZ)))))))))
  refine settle 2 rfl ?_
  refine retF ?_
  exact (var 2)
theorem ok_law_digits (T : Gl0 K mg base) : FnI P w K mg base "_law_digits" 1 ["cell", "sizes"] (aCons cI (aOne (cL cI))) (cL cI) (fun z => m_law_digits z.1 z.2) := by
  obtain ⟨fd, D⟩ := T.c.def_ di__law_digits (d := d__law_digits) rfl
  exact fni (fn_law_digits T D) (T.glo gi__law_digits) D.kp (D.bindsN fun _ _ _ _ _ _ us hl => match us, hl with | [_, _], _ => rfl)

theorem sc_law_line : FnScope ["cell"] ["cell"] (defScope s__law_line) := ⟨rfl, rfl, rfl, by decide +kernel, rfl, by decide +kernel, by decide +kernel⟩
theorem fn_law_line (T : Gl0 K mg base) {fd : FuncData} (D : FunD K d__law_line.name d__law_line.qual d__law_line.params d__law_line.body d__law_line.scope (d__law_line.dvs K) (d__law_line.kws K) (d__law_line.at_ K) fd) : FnOk P w K mg base (L2N.CX P w) 2 (d__law_line.at_ K) fd ["cell"] (spF K (aOne cI) (cL cI) m_law_line) := by
  have F_law_digits := ok_law_digits (P := P) (w := w) T
  have sn := sc_law_line.nd
  refine fn_mk (ν := Empty) (κ := Empty) (eN := fun _ => []) (eK := fun _ => []) D sc_law_line rfl (by decide) (fun cdv A outer s H E hr hp hw z => ?_)
  revert z; intro cell
  show DS _ _ true [.st Int cI cell] _ _ _ _ (fun b => (.ret b : Out (List Int) Empty Empty)) (m_law_line cell)
  unfold m_law_line
  refine retF ?_
  exact (call F_law_digits (hr.mono (by decide)) hp (argC_pm (var 0) (arg1 (dl (cat_mm (dl (rep_mp (lst (lcons_pm int (lcons_mp (pow_pp int int) lnil))) int)) (dl (lst (lcons_pm int (lcons_pm int (lcons_mp (pow_pp int int) lnil))))))))))
theorem ok_law_line (T : Gl0 K mg base) : FnI P w K mg base "_law_line" 2 ["cell"] (aOne cI) (cL cI) m_law_line := by
  obtain ⟨fd, D⟩ := T.c.def_ di__law_line (d := d__law_line) rfl
  exact fni (fn_law_line T D) (T.glo gi__law_line) D.kp (D.bindsN fun _ _ _ _ _ _ us hl => match us, hl with | [_], _ => rfl)

theorem sc_law_wide : FnScope ["size", "line", "k"] ["size", "line"] (defScope s__law_wide) := ⟨rfl, rfl, rfl, by decide +kernel, rfl, by decide +kernel, by decide +kernel⟩
theorem fn_law_wide (T : Gl0 K mg base) {fd : FuncData} (D : FunD K d__law_wide.name d__law_wide.qual d__law_wide.params d__law_wide.body d__law_wide.scope (d__law_wide.dvs K) (d__law_wide.kws K) (d__law_wide.at_ K) fd) : FnOk P w K mg base (L2N.CX P w) 1 (d__law_wide.at_ K) fd ["size", "line"] (spF K (aCons cI (aOne (cL cI))) (cL cI) (fun z => m_law_wide z.1 z.2)) := by
  have sn := sc_law_wide.nd
  refine fn_mk (ν := Empty) (κ := Empty) (eN := fun _ => []) (eK := fun _ => []) D sc_law_wide rfl (by decide) (fun cdv A outer s H E hr hp hw z => ?_)
  obtain ⟨size, line⟩ := z
  show DS _ _ true [.st Int cI size, .st (List Int) (cL cI) line, .none] _ _ _ _ (fun b => (.ret b : Out (List Int) Empty Empty)) (m_law_wide size line)
  unfold m_law_wide
  refine retF ?_
  exact (dl (dlc sn rfl (lc0 (f := (fun (k : Int) => (((((mulM (2 : Int) k) >>= fun y1 => (getM line y1)) >>= fun x2 => R.ok ((x2 - (10000 : Int)))) >>= fun x3 => (powM (10 : Int) (8 : Int)) >>= fun y4 => (mulM x3 y4)) >>= fun x7 => (((mulM (2 : Int) k) >>= fun x5 => R.ok ((x5 + (1 : Int)))) >>= fun y6 => (getM line y6)) >>= fun y8 => R.ok ((x7 + y8))))) [("k", 2)] (blk_ok (by show blkB ["size", "line", "k"] (defScope s__law_wide) _ _ = true; decide +kernel)) (by exact (iterR1_p (T.free fi_range) (var 0))) (tgB 2 sn) (fun b k => (by exact (add_mm (mul_mm (sub_mp (ixL_pm (var 1) (mul_pp int (var 2))) int) (pow_pp int int)) (ixL_pm (var 1) (add_mp (mul_pp int (var 2)) int))))))))
theorem ok_law_wide (T : Gl0 K mg base) : FnI P w K mg base "_law_wide" 1 ["size", "line"] (aCons cI (aOne (cL cI))) (cL cI) (fun z => m_law_wide z.1 z.2) := by
  obtain ⟨fd, D⟩ := T.c.def_ di__law_wide (d := d__law_wide) rfl
  exact fni (fn_law_wide T D) (T.glo gi__law_wide) D.kp (D.bindsN fun _ _ _ _ _ _ us hl => match us, hl with | [_, _], _ => rfl)

theorem sc_law_seven : FnScope ["line", "k"] ["line"] (defScope s__law_seven) := ⟨rfl, rfl, rfl, by decide +kernel, rfl, by decide +kernel, by decide +kernel⟩
theorem fn_law_seven (T : Gl0 K mg base) {fd : FuncData} (D : FunD K d__law_seven.name d__law_seven.qual d__law_seven.params d__law_seven.body d__law_seven.scope (d__law_seven.dvs K) (d__law_seven.kws K) (d__law_seven.at_ K) fd) : FnOk P w K mg base (L2N.CX P w) 1 (d__law_seven.at_ K) fd ["line"] (spF K (aOne (cL cI)) (cL cI) m_law_seven) := by
  have sn := sc_law_seven.nd
  refine fn_mk (ν := Empty) (κ := Empty) (eN := fun _ => []) (eK := fun _ => []) D sc_law_seven rfl (by decide) (fun cdv A outer s H E hr hp hw z => ?_)
  revert z; intro line
  show DS _ _ true [.st (List Int) (cL cI) line, .none] _ _ _ _ (fun b => (.ret b : Out (List Int) Empty Empty)) (m_law_seven line)
  unfold m_law_seven
  refine retF ?_
  exact (dl (cat_mm (dl (dlc sn rfl (lc0 (f := (fun (k : Int) => ((((mulM (2 : Int) k) >>= fun y1 => (getM line y1)) >>= fun z => R.ok z) >>= fun x2 => (modM x2 (7 : Int))))) [("k", 1)] (blk_ok (by show blkB ["line", "k"] (defScope s__law_seven) _ _ = true; decide +kernel)) (by exact (iterR1_p (T.free fi_range) int)) (tgB 1 sn) (fun b k => (by exact (mod_mp (intI_m (T.free fi_int) (ixL_pm (var 0) (mul_pp int (var 1)))) int)))))) (dl (slL (var 0) (ptE_p int) ptN))))
theorem ok_law_seven (T : Gl0 K mg base) : FnI P w K mg base "_law_seven" 1 ["line"] (aOne (cL cI)) (cL cI) m_law_seven := by
  obtain ⟨fd, D⟩ := T.c.def_ di__law_seven (d := d__law_seven) rfl
  exact fni (fn_law_seven T D) (T.glo gi__law_seven) D.kp (D.bindsN fun _ _ _ _ _ _ us hl => match us, hl with | [_], _ => rfl)

theorem sc_law_draw_row : FnScope ["size", "kind", "row", "small", "one", "two", "k"] ["size", "kind", "row"] (defScope s__law_draw_row) := ⟨rfl, rfl, rfl, by decide +kernel, rfl, by decide +kernel, by decide +kernel⟩
theorem fn_law_draw_row (T : Gl0 K mg base) {fd : FuncData} (D : FunD K d__law_draw_row.name d__law_draw_row.qual d__law_draw_row.params d__law_draw_row.body d__law_draw_row.scope (d__law_draw_row.dvs K) (d__law_draw_row.kws K) (d__law_draw_row.at_ K) fd) : FnOk P w K mg base (L2N.CX P w) 1 (d__law_draw_row.at_ K) fd ["size", "kind", "row"] (spF K (aCons cI (aCons cI (aOne (cL cI)))) (cL cI) (fun z => m_law_draw_row z.1 z.2.1 z.2.2)) := by
  have sn := sc_law_draw_row.nd
  refine fn_mk (ν := Empty) (κ := Empty) (eN := fun _ => []) (eK := fun _ => []) D sc_law_draw_row rfl (by decide) (fun cdv A outer s H E hr hp hw z => ?_)
  obtain ⟨size, kind, row⟩ := z
  show DS _ _ true [.st Int cI size, .st Int cI kind, .st (List Int) (cL cI) row, .none, .none, .none, .none] _ _ _ _ (fun b => (.ret b : Out (List Int) Empty Empty)) (m_law_draw_row size kind row)
  unfold m_law_draw_row
  refine asgc (hi := Nat.le_of_ble_eq_true rfl) (c := cI) 3 sn rfl (by exact (lc0 (f := (fun (k : Int) => ((getM row k) >>= fun x1 => R.ok ((x1 - (3 : Int)))))) [("k", 6)] (blk_ok (by show blkB ["size", "kind", "row", "small", "one", "two", "k"] (defScope s__law_draw_row) _ _ = true; decide +kernel)) (by exact (iterR1_p (T.free fi_range) (var 0))) (tgB 6 sn) (fun b k => (by exact (sub_mp (ixL_pp (var 2) (var 6)) int))))) fun small => ?_
  refine ifA_p (by exact (dt_dw (andW_q (gtT_pp (var 0) int) (and1 (eqIT_pp (var 1) int))))) ?_ ?_
  · refine asg (c := cI) 4 sn (by exact (mod_mp (intI_m (T.free fi_int) (ixL_pp (var 2) int)) (var 0))) fun one => ?_
    refine asg (c := cI) 5 sn (by exact (mod_mp (intI_m (T.free fi_int) (add_pm (add_pp (var 4) int) (mod_mp (intI_m (T.free fi_int) (ixL_pp (var 2) int)) (sub_pp (var 0) int)))) (var 0))) fun two => ?_
    refine retF ?_
    exact (dl (dlc sn rfl (lc0 (f := (fun (k : Int) => R.ok ((if ((decide (k = one))) = true then 1 else 0) - (if ((decide (k = two))) = true then 1 else 0)))) [("k", 6)] (blk_ok (by show blkB ["size", "kind", "row", "small", "one", "two", "k"] (defScope s__law_draw_row) _ _ = true; decide +kernel)) (by exact (iterR1_p (T.free fi_range) (var 0))) (tgB 6 sn) (fun b k => (by exact (sub_pp (intB_p (T.free fi_int) (eqI_pp (var 6) (var 4))) (intB_p (T.free fi_int) (eqI_pp (var 6) (var 5)))))))))
  refine ifA_p (by exact (dt_dw (andW_q (gtT_pp (var 0) int) (and1 (eqIT_pp (var 1) int))))) ?_ ?_
  · refine retF ?_
    exact (dl (cat_mm (dl (slL (var 3) ptN (ptE_p (sub_pp (var 0) int)))) (dl (lst (lcons_mp (ixL_pp (var 3) int) lnil)))))
  refine ifA_p (by exact (eqIT_pp (var 1) int)) ?_ ?_
  · refine retF ?_
    exact (ifE_p (ltT_pp (var 0) int) (dl (dlc sn rfl (lc0 (f := (fun (k : Int) => ((((getM row k) >>= fun x12 => R.ok ((x12 - (3 : Int)))) >>= fun x13 => (mulM x13 (37 : Int))) >>= fun x14 => (getM row (k + (1 : Int))) >>= fun y15 => R.ok ((x14 + y15))))) [("k", 6)] (blk_ok (by show blkB ["size", "kind", "row", "small", "one", "two", "k"] (defScope s__law_draw_row) _ _ = true; decide +kernel)) (by exact (iterR1_p (T.free fi_range) (var 0))) (tgB 6 sn) (fun b k => (by exact (add_mm (mul_mp (sub_mp (ixL_pp (var 2) (var 6)) int) int) (ixL_pp (var 2) (add_pp (var 6) int)))))))) (var 3))
  refine ifA_p (by exact (eqIT_pp (var 1) int)) ?_ ?_
  · refine retF ?_
    exact (dl (dlc sn rfl (lc0 (f := (fun (k : Int) => (((getM row k) >>= fun x16 => R.ok ((x16 - (3 : Int)))) >>= fun x18 => (((getM row k) >>= fun x17 => R.ok ((decide ((4 : Int) ≤ x17)))) >>= fun z => R.ok ((if z = true then 1 else 0))) >>= fun y19 => (mulM x18 y19)))) [("k", 6)] (blk_ok (by show blkB ["size", "kind", "row", "small", "one", "two", "k"] (defScope s__law_draw_row) _ _ = true; decide +kernel)) (by exact (iterR1_p (T.free fi_range) (var 0))) (tgB 6 sn) (fun b k => (by exact (mul_mm (sub_mp (ixL_pp (var 2) (var 6)) int) (intB_m (T.free fi_int) (ge_mp (ixL_pp (var 2) (var 6)) int))))))))
  refine ifA_p (by exact (dt_dw (andW_q (gtT_pp (var 0) int) (and1 (eqIT_pp (var 1) int))))) ?_ ?_
  · refine retF ?_
    exact (dl (dlc sn rfl (lc0 (f := (fun (k : Int) => ((((((getM row (0 : Int)) >>= fun z => R.ok z) >>= fun x20 => (modM x20 size)) >>= fun y21 => R.ok ((decide (k = y21)))) >>= fun z => R.ok ((if z = true then 1 else 0))) >>= fun x24 => ((((getM row (1 : Int)) >>= fun z => R.ok z) >>= fun x22 => (modM x22 (3 : Int))) >>= fun y23 => R.ok (((1 : Int) + y23))) >>= fun y25 => (mulM x24 y25)))) [("k", 6)] (blk_ok (by show blkB ["size", "kind", "row", "small", "one", "two", "k"] (defScope s__law_draw_row) _ _ = true; decide +kernel)) (by exact (iterR1_p (T.free fi_range) (var 0))) (tgB 6 sn) (fun b k => (by exact (mul_mm (intB_m (T.free fi_int) (eqI_pm (var 6) (mod_mp (intI_m (T.free fi_int) (ixL_pp (var 2) int)) (var 0)))) (add_pm int (mod_mp (intI_m (T.free fi_int) (ixL_pp (var 2) int)) int))))))))
  refine ifA (by exact (dt_dw (andW_p (eqIT_pp (var 1) int) (and1 (eqIT_mp (ixL_pp (var 2) int) int))))) ?_ ?_
  · refine retF ?_
    exact (dl (dlc sn rfl (lc0 (f := (fun (k : Int) => R.ok (0 : Int))) [("k", 6)] (blk_ok (by show blkB ["size", "kind", "row", "small", "one", "two", "k"] (defScope s__law_draw_row) _ _ = true; decide +kernel)) (by exact (iterR1_p (T.free fi_range) (var 0))) (tgB 6 sn) (fun b k => (by exact int)))))
  refine retF ?_
  exact (var 3)
theorem ok_law_draw_row (T : Gl0 K mg base) : FnI P w K mg base "_law_draw_row" 1 ["size", "kind", "row"] (aCons cI (aCons cI (aOne (cL cI)))) (cL cI) (fun z => m_law_draw_row z.1 z.2.1 z.2.2) := by
  obtain ⟨fd, D⟩ := T.c.def_ di__law_draw_row (d := d__law_draw_row) rfl
  exact fni (fn_law_draw_row T D) (T.glo gi__law_draw_row) D.kp (D.bindsN fun _ _ _ _ _ _ us hl => match us, hl with | [_, _, _], _ => rfl)

theorem sc_law_row : FnScope ["size", "kind", "line"] ["size", "kind", "line"] (defScope s__law_row) := ⟨rfl, rfl, rfl, by decide +kernel, rfl, by decide +kernel, by decide +kernel⟩
theorem fn_law_row (T : Gl0 K mg base) {fd : FuncData} (D : FunD K d__law_row.name d__law_row.qual d__law_row.params d__law_row.body d__law_row.scope (d__law_row.dvs K) (d__law_row.kws K) (d__law_row.at_ K) fd) : FnOk P w K mg base (L2N.CX P w) 2 (d__law_row.at_ K) fd ["size", "kind", "line"] (spF K (aCons cI (aCons cI (aOne (cL cI)))) (cL cI) (fun z => m_law_row z.1 z.2.1 z.2.2)) := by
  have F_law_draw_row := ok_law_draw_row (P := P) (w := w) T
  have F_law_seven := ok_law_seven (P := P) (w := w) T
  have F_law_wide := ok_law_wide (P := P) (w := w) T
  have sn := sc_law_row.nd
  refine fn_mk (ν := Empty) (κ := Empty) (eN := fun _ => []) (eK := fun _ => []) D sc_law_row rfl (by decide) (fun cdv A outer s H E hr hp hw z => ?_)
  obtain ⟨size, kind, line⟩ := z
  show DS _ _ true [.st Int cI size, .st Int cI kind, .st (List Int) (cL cI) line] _ _ _ _ (fun b => (.ret b : Out (List Int) Empty Empty)) (m_law_row size kind line)
  unfold m_law_row
  refine ifA_p (by exact (geT_pp (var 1) int)) ?_ ?_
  · refine retF ?_
    exact (callP F_law_wide (hr.mono (by decide)) hp (argC_pp (var 0) (arg1 (var 2))))
  refine retF ?_
  exact (call F_law_draw_row (hr.mono (by decide)) hp (argC_pm (var 0) (argC_pm (var 1) (arg1 (callP F_law_seven (hr.mono (by decide)) hp (arg1 (var 2)))))))
theorem ok_law_row (T : Gl0 K mg base) : FnI P w K mg base "_law_row" 2 ["size", "kind", "line"] (aCons cI (aCons cI (aOne (cL cI)))) (cL cI) (fun z => m_law_row z.1 z.2.1 z.2.2) := by
  obtain ⟨fd, D⟩ := T.c.def_ di__law_row (d := d__law_row) rfl
  exact fni (fn_law_row T D) (T.glo gi__law_row) D.kp (D.bindsN fun _ _ _ _ _ _ us hl => match us, hl with | [_, _, _], _ => rfl)

theorem sc_law_draw_weight : FnScope ["kind", "row"] ["kind", "row"] (defScope s__law_draw_weight) := ⟨rfl, rfl, rfl, by decide +kernel, rfl, by decide +kernel, by decide +kernel⟩
theorem fn_law_draw_weight (T : Gl0 K mg base) {fd : FuncData} (D : FunD K d__law_draw_weight.name d__law_draw_weight.qual d__law_draw_weight.params d__law_draw_weight.body d__law_draw_weight.scope (d__law_draw_weight.dvs K) (d__law_draw_weight.kws K) (d__law_draw_weight.at_ K) fd) : FnOk P w K mg base (L2N.CX P w) 1 (d__law_draw_weight.at_ K) fd ["kind", "row"] (spF K (aCons cI (aOne (cL cI))) cI (fun z => m_law_draw_weight z.1 z.2)) := by
  have sn := sc_law_draw_weight.nd
  refine fn_mk (ν := Empty) (κ := Empty) (eN := fun _ => []) (eK := fun _ => []) D sc_law_draw_weight rfl (by decide) (fun cdv A outer s H E hr hp hw z => ?_)
  obtain ⟨kind, row⟩ := z
  show DS _ _ true [.st Int cI kind, .st (List Int) (cL cI) row] _ _ _ _ (fun b => (.ret b : Out Int Empty Empty)) (m_law_draw_weight kind row)
  unfold m_law_draw_weight
  refine ifA_p (by exact (eqIT_pp (var 0) int)) ?_ ?_
  · refine retF ?_
    exact int
  refine ifA_p (by exact (eqIT_pp (var 0) int)) ?_ ?_
  · refine retF ?_
    exact (add_mm (add_pm int (ixL_pp (var 1) int)) (mul_pm int (ixL_pp (var 1) int)))
  refine ifA_p (by exact (eqIT_pp (var 0) int)) ?_ ?_
  · refine retF ?_
    exact (add_pm int (ixL_pp (var 1) int))
  refine ifA_p (by exact (eqIT_pp (var 0) int)) ?_ ?_
  · refine retF ?_
    exact (ixL_pm (dl (lst (lcons_pp int (lcons_pp int lnil)))) (mod_mp (intI_m (T.free fi_int) (ixL_pp (var 1) int)) int))
  refine ifA_p (by exact (eqIT_pp (var 0) int)) ?_ ?_
  · refine retF ?_
    exact (add_pm int (mul_mp (ixL_pp (var 1) int) int))
  refine retF ?_
  exact (add_pm int (ixL_pp (var 1) int))
theorem ok_law_draw_weight (T : Gl0 K mg base) : FnI P w K mg base "_law_draw_weight" 1 ["kind", "row"] (aCons cI (aOne (cL cI))) cI (fun z => m_law_draw_weight z.1 z.2) := by
  obtain ⟨fd, D⟩ := T.c.def_ di__law_draw_weight (d := d__law_draw_weight) rfl
  exact fni (fn_law_draw_weight T D) (T.glo gi__law_draw_weight) D.kp (D.bindsN fun _ _ _ _ _ _ us hl => match us, hl with | [_, _], _ => rfl)

theorem sc_law_draw_pairs : FnScope ["script", "at", "size", "many", "style", "weights", "twin", "pairs", "k", "line", "row", "number"] ["script", "at", "size", "many", "style", "weights", "twin"] (defScope s__law_draw_pairs) := ⟨rfl, rfl, rfl, by decide +kernel, rfl, by decide +kernel, by decide +kernel⟩
theorem fn_law_draw_pairs (T : Gl0 K mg base) {fd : FuncData} (D : FunD K d__law_draw_pairs.name d__law_draw_pairs.qual d__law_draw_pairs.params d__law_draw_pairs.body d__law_draw_pairs.scope (d__law_draw_pairs.dvs K) (d__law_draw_pairs.kws K) (d__law_draw_pairs.at_ K) fd) : FnOk P w K mg base (L2N.CX P w) 3 (d__law_draw_pairs.at_ K) fd ["script", "at", "size", "many", "style", "weights", "twin"] (spF K (aCons (cL cI) (aCons cI (aCons cI (aCons cI (aCons cI (aCons cI (aOne cI))))))) (cL (cP (aCons (cT cI) (aOne cI)))) (fun z => m_law_draw_pairs z.1 z.2.1 z.2.2.1 z.2.2.2.1 z.2.2.2.2.1 z.2.2.2.2.2.1 z.2.2.2.2.2.2)) := by
  have F_law_cell := ok_law_cell (P := P) (w := w) T
  have F_law_draw_weight := ok_law_draw_weight (P := P) (w := w) T
  have F_law_line := ok_law_line (P := P) (w := w) T
  have F_law_row := ok_law_row (P := P) (w := w) T
  have F_law_seven := ok_law_seven (P := P) (w := w) T
  have sn := sc_law_draw_pairs.nd
  refine fn_mk (ν := Empty) (κ := Empty) (eN := fun _ => []) (eK := fun _ => []) D sc_law_draw_pairs rfl (by decide) (fun cdv A outer s H E hr hp hw z => ?_)
  obtain ⟨script, at', size, many, style, weights, twin⟩ := z
  show DS _ _ true [.st (List Int) (cL cI) script, .st Int cI at', .st Int cI size, .st Int cI many, .st Int cI style, .st Int cI weights, .st Int cI twin, .none, .none, .none, .none, .none] _ _ _ _ (fun b => (.ret b : Out (List ((List Int) × Int)) Empty Empty)) (m_law_draw_pairs script at' size many style weights twin)
  unfold m_law_draw_pairs
  refine asgO (o := (oL (cP (aCons (cT cI) (aOne cI))))) 7 sn (by exact (dlo (lst0 (c := (cP (aCons (cT cI) (aOne cI))))))) fun pairs => ?_
  refine forF (eL := fun (s1 : (List ((List Int) × Int))) => [.st (List Int) (cL cI) script, .st Int cI at', .st Int cI size, .st Int cI many, .st Int cI style, .st Int cI weights, .st Int cI twin, .ow (List ((List Int) × Int)) (oL (cP (aCons (cT cI) (aOne cI)))) s1, .none, .none, .none, .none]) (step := (m_law_draw_pairs_b1 script at' size style weights twin)) rfl hw (by exact (iterR1_p (T.free fi_range) (var 3))) (tgN 8 sn) (leS (leS (leS (leS (leS (leS (leS (leS (leN (leN (leN (leN leZ)))))))))))) (fun s1 k => ?_) fun s9 => ?_
  · unfold m_law_draw_pairs_b1
    refine asg (c := (cL cI)) 9 sn (by exact (call F_law_line (hr.mono (by decide)) hp (arg1 (callP F_law_cell (hr.mono (by decide)) hp (argC_pp (var 0) (arg1 (add_pp (var 1) (var 8)))))))) fun line => ?_
    refine asg (c := (cL cI)) 10 sn (by exact (callP F_law_row (hr.mono (by decide)) hp (argC_pp (var 2) (argC_pp (var 4) (arg1 (var 9)))))) fun row => ?_
    refine ifJ_p (eJ := fun (j2 : (List Int)) => [.st (List Int) (cL cI) script, .st Int cI at', .st Int cI size, .st Int cI many, .st Int cI style, .st Int cI weights, .st Int cI twin, .ow (List ((List Int) × Int)) (oL (cP (aCons (cT cI) (aOne cI)))) s1, .st Int cI k, .st (List Int) (cL cI) line, .st (List Int) (cL cI) j2, .none]) (by exact (dt_dw (andW_q (eqIT_pp (var 8) int) (and1 (eqIT_pp (var 6) int))))) ?_ ?_ fun j2 => ?_
    · refine asg (c := (cL cI)) 10 sn (by exact (dl (toL (T.free fi_list) (ix_0_2m (ixMu_p 7 int))))) fun row => ?_
      exact (nil rfl (leS (leS (leS (leS (leS (leS (leS (leS (leS (leS (leS (leN leZ)))))))))))))
    · exact (nil rfl (leS (leS (leS (leS (leS (leS (leS (leS (leS (leS (leS (leN leZ)))))))))))))
    refine ifJ_p (eJ := fun (j3 : (List Int)) => [.st (List Int) (cL cI) script, .st Int cI at', .st Int cI size, .st Int cI many, .st Int cI style, .st Int cI weights, .st Int cI twin, .ow (List ((List Int) × Int)) (oL (cP (aCons (cT cI) (aOne cI)))) s1, .st Int cI k, .st (List Int) (cL cI) line, .st (List Int) (cL cI) j3, .none]) (by exact (dt_dw (andW_q (eqIT_pp (var 8) int) (and1 (eqIT_pp (var 6) int))))) ?_ ?_ fun j3 => ?_
    · refine asgc (hi := Nat.le_of_ble_eq_true rfl) (c := cI) 10 sn rfl (by exact (lc0 (f := (fun (number : Int) => R.ok (-number))) [("number", 11)] (blk_ok (by show blkB ["script", "at", "size", "many", "style", "weights", "twin", "pairs", "k", "line", "row", "number"] (defScope s__law_draw_pairs) _ _ = true; decide +kernel)) (by exact (iterT (ix_0_2m (ixMu_p 7 int)))) (tgB 11 sn) (fun b number => (by exact (neg_p (var 11)))))) fun row => ?_
      exact (nil rfl (leS (leS (leS (leS (leS (leS (leS (leS (leS (leS (leS (leN leZ)))))))))))))
    · exact (nil rfl (leS (leS (leS (leS (leS (leS (leS (leS (leS (leS (leS (leN leZ)))))))))))))
    refine app 7 (by exact (tupP (argC_pm (toT (T.free fi_tuple) (var 10)) (arg1 (call F_law_draw_weight (hr.mono (by decide)) hp (argC_pm (var 5) (arg1 (callP F_law_seven (hr.mono (by decide)) hp (arg1 (var 9)))))))))) fun pairs => ?_
    exact (nil rfl (leS (leS (leS (leS (leS (leS (leS (leS (leN (leN (leN (leN leZ)))))))))))))
  refine settle 7 rfl ?_
  refine retF ?_
  exact (var 7)
theorem ok_law_draw_pairs (T : Gl0 K mg base) : FnI P w K mg base "_law_draw_pairs" 3 ["script", "at", "size", "many", "style", "weights", "twin"] (aCons (cL cI) (aCons cI (aCons cI (aCons cI (aCons cI (aCons cI (aOne cI))))))) (cL (cP (aCons (cT cI) (aOne cI)))) (fun z => m_law_draw_pairs z.1 z.2.1 z.2.2.1 z.2.2.2.1 z.2.2.2.2.1 z.2.2.2.2.2.1 z.2.2.2.2.2.2) := by
  obtain ⟨fd, D⟩ := T.c.def_ di__law_draw_pairs (d := d__law_draw_pairs) rfl
  exact fni (fn_law_draw_pairs T D) (T.glo gi__law_draw_pairs) D.kp (D.bindsN fun _ _ _ _ _ _ us hl => match us, hl with | [_, _, _, _, _, _, _], _ => rfl)

theorem sc_law_draw_list : FnScope ["script", "at", "most", "shape", "size", "many", "pairs"] ["script", "at", "most"] (defScope s__law_draw_list) := ⟨rfl, rfl, rfl, by decide +kernel, rfl, by decide +kernel, by decide +kernel⟩
theorem fn_law_draw_list (T : Gl0 K mg base) {fd : FuncData} (D : FunD K d__law_draw_list.name d__law_draw_list.qual d__law_draw_list.params d__law_draw_list.body d__law_draw_list.scope (d__law_draw_list.dvs K) (d__law_draw_list.kws K) (d__law_draw_list.at_ K) fd) : FnOk P w K mg base (L2N.CX P w) 4 (d__law_draw_list.at_ K) fd ["script", "at", "most"] (spF K (aCons (cL cI) (aCons cI (aOne cI))) (cH (aCons cI (aCons (cL (cP (aCons (cT cI) (aOne cI)))) (aOne cI)))) (fun z => m_law_draw_list z.1 z.2.1 z.2.2)) := by
  have F_law_cell := ok_law_cell (P := P) (w := w) T
  have F_law_digits := ok_law_digits (P := P) (w := w) T
  have F_law_draw_pairs := ok_law_draw_pairs (P := P) (w := w) T
  have sn := sc_law_draw_list.nd
  refine fn_mk (ν := Empty) (κ := Empty) (eN := fun _ => []) (eK := fun _ => []) D sc_law_draw_list rfl (by decide) (fun cdv A outer s H E hr hp hw z => ?_)
  obtain ⟨script, at', most⟩ := z
  show DS _ _ true [.st (List Int) (cL cI) script, .st Int cI at', .st Int cI most, .none, .none, .none, .none] _ _ _ _ (fun b => (.ret b : Out (Int × (List ((List Int) × Int)) × Int) Empty Empty)) (m_law_draw_list script at' most)
  unfold m_law_draw_list
  refine asg (c := (cL cI)) 3 sn (by exact (call F_law_digits (hr.mono (by decide)) hp (argC_mm (callP F_law_cell (hr.mono (by decide)) hp (argC_pp (var 0) (arg1 (var 1)))) (arg1 (dl (lst (lcons_pm int (lcons_pm int (lcons_pm int (lcons_pm int (lcons_pm int (lcons_pm int (lcons_mp (pow_pp int int) lnil))))))))))))) fun shape => ?_
  refine asg (c := cI) 4 sn (by exact (ixL_pm (dl (lst (lcons_pp int (lcons_pp int (lcons_pp int (lcons_pp int (lcons_pp int (lcons_pp int (lcons_pp int (lcons_pp int (lcons_pp int (lcons_pp int (lcons_pp int (lcons_pp int (lcons_pp int (lcons_pp int (lcons_pp int (lcons_pp int (lcons_pp int (lcons_pp int (lcons_pp int (lcons_pp int (lcons_pp int (lcons_pp int (lcons_pp int (lcons_pp int lnil)))))))))))))))))))))))))) (ixL_pp (var 3) int))) fun size => ?_
  refine asg (c := cI) 5 sn (by exact (ixL_pm (dl (lst (lcons_pp int (lcons_pp int (lcons_pp int (lcons_pp int (lcons_pp int (lcons_pp int (lcons_pp int (lcons_pp int (lcons_pp int (lcons_pp int (lcons_pp int (lcons_pp int (lcons_pp int (lcons_pp int (lcons_pp int (lcons_pp int lnil)))))))))))))))))) (ixL_pp (var 3) int))) fun many => ?_
  refine asg (c := (cL (cP (aCons (cT cI) (aOne cI))))) 6 sn (by exact (call F_law_draw_pairs (hr.mono (by decide)) hp (argC_pm (var 0) (argC_pm (add_pp (var 1) int) (argC_pm (var 4) (argC_pm (min_p rfl (T.free fi_min) (var 5) (var 2)) (argC_mm (ixL_pp (var 3) int) (argC_mm (ixL_pp (var 3) int) (arg1 (ixL_pp (var 3) int)))))))))) fun pairs => ?_
  refine retF ?_
  exact (lstH (argC_pm (var 4) (argC_pm (var 6) (arg1 (ixL_mm (dl (lst (lcons_pm int (lcons_pm int (lcons_pm int (lcons_pm int (lcons_pm int (lcons_pm int (lcons_pm int (lcons_pm int (lcons_mm (add_pm int (ixL_pp (var 3) int)) (lcons_mp (add_mp (pow_pp int int) int) lnil)))))))))))) (ixL_pp (var 3) int))))))
theorem ok_law_draw_list (T : Gl0 K mg base) : FnI P w K mg base "_law_draw_list" 4 ["script", "at", "most"] (aCons (cL cI) (aCons cI (aOne cI))) (cH (aCons cI (aCons (cL (cP (aCons (cT cI) (aOne cI)))) (aOne cI)))) (fun z => m_law_draw_list z.1 z.2.1 z.2.2) := by
  obtain ⟨fd, D⟩ := T.c.def_ di__law_draw_list (d := d__law_draw_list) rfl
  exact fni (fn_law_draw_list T D) (T.glo gi__law_draw_list) D.kp (D.bindsN fun _ _ _ _ _ _ us hl => match us, hl with | [_, _, _], _ => rfl)

theorem sc_law_any_table : FnScope ["size", "kind", "lines", "table", "i", "wide", "j", "number"] ["size", "kind", "lines"] (defScope s__law_any_table) := ⟨rfl, rfl, rfl, by decide +kernel, rfl, by decide +kernel, by decide +kernel⟩
theorem fn_law_any_table (T : Gl0 K mg base) {fd : FuncData} (D : FunD K d__law_any_table.name d__law_any_table.qual d__law_any_table.params d__law_any_table.body d__law_any_table.scope (d__law_any_table.dvs K) (d__law_any_table.kws K) (d__law_any_table.at_ K) fd) : FnOk P w K mg base (L2N.CX P w) 2 (d__law_any_table.at_ K) fd ["size", "kind", "lines"] (spF K (aCons cI (aCons cI (aOne (cL (cL cI))))) (cL (cL cI)) (fun z => m_law_any_table z.1 z.2.1 z.2.2)) := by
  have F_law_wide := ok_law_wide (P := P) (w := w) T
  have sn := sc_law_any_table.nd
  refine fn_mk (ν := Empty) (κ := Empty) (eN := fun _ => []) (eK := fun _ => []) D sc_law_any_table rfl (by decide) (fun cdv A outer s H E hr hp hw z => ?_)
  obtain ⟨size, kind, lines⟩ := z
  show DS _ _ true [.st Int cI size, .st Int cI kind, .st (List (List Int)) (cL (cL cI)) lines, .none, .none, .none, .none, .none] _ _ _ _ (fun b => (.ret b : Out (List (List Int)) Empty Empty)) (m_law_any_table size kind lines)
  unfold m_law_any_table
  refine asgOc (o := (oN (oL cI))) 3 sn rfl (by exact (lcO (f := (fun (i : Int) => (rngM 0 size >>= fun as => mapM (fun (j : Int) => R.ok (0 : Int)) as))) [("i", 4)] (blk_ok (by show blkB ["size", "kind", "lines", "table", "i", "wide", "j", "number"] (defScope s__law_any_table) _ _ = true; decide +kernel)) (by exact (iterR1_p (T.free fi_range) (var 0))) (tgB 4 sn) (fun b i => (by exact (dlo (dlc sn rfl (lc0 (f := (fun (j : Int) => R.ok (0 : Int))) [("j", 6)] (blk_ok (by kernel_rfl)) (by exact (iterR1_p (T.free fi_range) (var 0))) (tgB 6 sn) (fun b j => (by exact int))))))))) fun table => ?_
  refine forF (eL := fun (s1 : (List (List Int))) => [.st Int cI size, .st Int cI kind, .st (List (List Int)) (cL (cL cI)) lines, .ow (List (List Int)) (oN (oL cI)) s1, .none, .none, .none, .none]) (step := (m_law_any_table_b2 size kind lines)) rfl hw (by exact (iterR1_p (T.free fi_range) (var 0))) (tgN 4 sn) (leS (leS (leS (leS (leN (leN (leN (leN leZ)))))))) (fun s1 i => ?_) fun s36 => ?_
  · unfold m_law_any_table_b2
    refine asg (c := (cL cI)) 5 sn (by exact (call F_law_wide (hr.mono (by decide)) hp (argC_pm (var 0) (arg1 (ixL_pp (var 2) (var 4)))))) fun wide => ?_
    refine forF (eL := fun (s5 : (List (List Int))) => [.st Int cI size, .st Int cI kind, .st (List (List Int)) (cL (cL cI)) lines, .ow (List (List Int)) (oN (oL cI)) s5, .st Int cI i, .st (List Int) (cL cI) wide, .none, .none]) (step := (m_law_any_table_b1 size kind lines i wide)) rfl hw (by exact (iterR2 (T.free fi_range) (var 4) (var 0))) (tgN 6 sn) (leS (leS (leS (leS (leS (leS (leN (leN leZ)))))))) (fun s5 j => ?_) fun s35 => ?_
    · unfold m_law_any_table_b1
      refine asg (c := cI) 7 sn (by exact (sub_mp (mod_mp (intI_m (T.free fi_int) (ixL_mm (ixL_pp (var 2) (var 4)) (mul_pp int (var 6)))) int) int)) fun number => ?_
      refine ifJ_p (eJ := fun (j10 : Int) => [.st Int cI size, .st Int cI kind, .st (List (List Int)) (cL (cL cI)) lines, .ow (List (List Int)) (oN (oL cI)) s5, .st Int cI i, .st (List Int) (cL cI) wide, .st Int cI j, .st Int cI j10]) (by exact (dt_dw (orW_q (eqIT_pp (var 1) int) (or1 (eqIT_pp (var 1) int))))) ?_ ?_ fun j10 => ?_
      · refine asg (c := cI) 7 sn (by exact (ixL_pp (var 5) (var 6))) fun number => ?_
        exact (nil rfl (leS (leS (leS (leS (leS (leS (leS (leS leZ)))))))))
      · exact (nil rfl (leS (leS (leS (leS (leS (leS (leS (leS leZ)))))))))
      refine ifJ_p (eJ := fun (j15 : Int) => [.st Int cI size, .st Int cI kind, .st (List (List Int)) (cL (cL cI)) lines, .ow (List (List Int)) (oN (oL cI)) s5, .st Int cI i, .st (List Int) (cL cI) wide, .st Int cI j, .st Int cI j15]) (by exact (eqIT_pp (var 1) int)) ?_ ?_ fun j15 => ?_
      · refine asg (c := cI) 7 sn (by exact (ixL_pm (dl (lst (lcons_pp int (lcons_pp int (lcons_pp int (lcons_pp int (lcons_pp (neg_p int) (lcons_pp int lnil)))))))) (mod_mp (intI_m (T.free fi_int) (ixL_mm (ixL_pp (var 2) (var 4)) (mul_pp int (var 6)))) int))) fun number => ?_
        exact (nil rfl (leS (leS (leS (leS (leS (leS (leS (leS leZ)))))))))
      · exact (nil rfl (leS (leS (leS (leS (leS (leS (leS (leS leZ)))))))))
      refine ifJ_p (eJ := fun (j17 : Int) => [.st Int cI size, .st Int cI kind, .st (List (List Int)) (cL (cL cI)) lines, .ow (List (List Int)) (oN (oL cI)) s5, .st Int cI i, .st (List Int) (cL cI) wide, .st Int cI j, .st Int cI j17]) (by exact (dt_dw (andW_q (eqIT_pp (var 4) (var 6)) (and1 (eqIT_pp (var 1) int))))) ?_ ?_ fun j17 => ?_
      · refine asg (c := cI) 7 sn (by exact (add_pm (var 7) (mul_pp int (var 0)))) fun number => ?_
        exact (nil rfl (leS (leS (leS (leS (leS (leS (leS (leS leZ)))))))))
      · exact (nil rfl (leS (leS (leS (leS (leS (leS (leS (leS leZ)))))))))
      refine ifJ_p (eJ := fun (j20 : Int) => [.st Int cI size, .st Int cI kind, .st (List (List Int)) (cL (cL cI)) lines, .ow (List (List Int)) (oN (oL cI)) s5, .st Int cI i, .st (List Int) (cL cI) wide, .st Int cI j, .st Int cI j20]) (by exact (dt_dw (andW_q (eqIT_pp (var 4) (var 6)) (and1 (eqIT_pp (var 1) int))))) ?_ ?_ fun j20 => ?_
      · refine asg (c := cI) 7 sn (by exact (add_pm (var 7) (mul_mp (pow_pp int int) (var 0)))) fun number => ?_
        exact (nil rfl (leS (leS (leS (leS (leS (leS (leS (leS leZ)))))))))
      · exact (nil rfl (leS (leS (leS (leS (leS (leS (leS (leS leZ)))))))))
      refine setMM 3 (by exact (var 7)) (by exact (var 4)) (by exact (var 6)) fun table => ?_
      refine setMM 3 (by exact (var 7)) (by exact (var 6)) (by exact (var 4)) fun table => ?_
      exact (nil rfl (leS (leS (leS (leS (leS (leS (leN (leN leZ)))))))))
    exact (nil rfl (leS (leS (leS (leS (leN (leN (leN (leN leZ)))))))))
  refine settleO 3 rfl ?_
  refine retF ?_
  exact (var 3)
theorem ok_law_any_table (T : Gl0 K mg base) : FnI P w K mg base "_law_any_table" 2 ["size", "kind", "lines"] (aCons cI (aCons cI (aOne (cL (cL cI))))) (cL (cL cI)) (fun z => m_law_any_table z.1 z.2.1 z.2.2) := by
  obtain ⟨fd, D⟩ := T.c.def_ di__law_any_table (d := d__law_any_table) rfl
  exact fni (fn_law_any_table T D) (T.glo gi__law_any_table) D.kp (D.bindsN fun _ _ _ _ _ _ us hl => match us, hl with | [_, _, _], _ => rfl)

theorem sc_law_table : FnScope ["size", "pairs", "table", "pair", "i", "j"] ["size", "pairs"] (defScope s__law_table) := ⟨rfl, rfl, rfl, by decide +kernel, rfl, by decide +kernel, by decide +kernel⟩
theorem fn_law_table (T : Gl0 K mg base) {fd : FuncData} (D : FunD K d__law_table.name d__law_table.qual d__law_table.params d__law_table.body d__law_table.scope (d__law_table.dvs K) (d__law_table.kws K) (d__law_table.at_ K) fd) : FnOk P w K mg base (L2N.CX P w) 1 (d__law_table.at_ K) fd ["size", "pairs"] (spF K (aCons cI (aOne (cL (cP (aCons (cT cI) (aOne cI)))))) (cL (cL cI)) (fun z => m_law_table z.1 z.2)) := by
  have sn := sc_law_table.nd
  refine fn_mk (ν := Empty) (κ := Empty) (eN := fun _ => []) (eK := fun _ => []) D sc_law_table rfl (by decide) (fun cdv A outer s H E hr hp hw z => ?_)
  obtain ⟨size, pairs⟩ := z
  show DS _ _ true [.st Int cI size, .st (List ((List Int) × Int)) (cL (cP (aCons (cT cI) (aOne cI)))) pairs, .none, .none, .none, .none] _ _ _ _ (fun b => (.ret b : Out (List (List Int)) Empty Empty)) (m_law_table size pairs)
  unfold m_law_table
  refine asgOc (o := (oN (oL cI))) 2 sn rfl (by exact (lcO (f := (fun (i : Int) => (rngM 0 size >>= fun as => mapM (fun (j : Int) => R.ok (0 : Int)) as))) [("i", 4)] (blk_ok (by show blkB ["size", "pairs", "table", "pair", "i", "j"] (defScope s__law_table) _ _ = true; decide +kernel)) (by exact (iterR1_p (T.free fi_range) (var 0))) (tgB 4 sn) (fun b i => (by exact (dlo (dlc sn rfl (lc0 (f := (fun (j : Int) => R.ok (0 : Int))) [("j", 5)] (blk_ok (by kernel_rfl)) (by exact (iterR1_p (T.free fi_range) (var 0))) (tgB 5 sn) (fun b j => (by exact int))))))))) fun table => ?_
  refine forF (eL := fun (s1 : (List (List Int))) => [.st Int cI size, .st (List ((List Int) × Int)) (cL (cP (aCons (cT cI) (aOne cI)))) pairs, .ow (List (List Int)) (oN (oL cI)) s1, .none, .none, .none]) (step := (m_law_table_b3 size)) rfl hw (by exact (iterL (var 1))) (tgN 3 sn) (leS (leS (leS (leN (leN (leN leZ)))))) (fun s1 pair => ?_) fun s19 => ?_
  · unfold m_law_table_b3
    refine forF (eL := fun (s2 : (List (List Int))) => [.st Int cI size, .st (List ((List Int) × Int)) (cL (cP (aCons (cT cI) (aOne cI)))) pairs, .ow (List (List Int)) (oN (oL cI)) s2, .st ((List Int) × Int) (cP (aCons (cT cI) (aOne cI))) pair, .none, .none]) (step := (m_law_table_b2 size pair)) rfl hw (by exact (iterR1_p (T.free fi_range) (var 0))) (tgN 4 sn) (leS (leS (leS (leS (leN (leN leZ)))))) (fun s2 i => ?_) fun s18 => ?_
    · unfold m_law_table_b2
      refine forF (eL := fun (s3 : (List (List Int))) => [.st Int cI size, .st (List ((List Int) × Int)) (cL (cP (aCons (cT cI) (aOne cI)))) pairs, .ow (List (List Int)) (oN (oL cI)) s3, .st ((List Int) × Int) (cP (aCons (cT cI) (aOne cI))) pair, .st Int cI i, .none]) (step := (m_law_table_b1 pair i)) rfl hw (by exact (iterR1_p (T.free fi_range) (var 0))) (tgN 5 sn) (leS (leS (leS (leS (leS (leN leZ)))))) (fun s3 j => ?_) fun s17 => ?_
      · unfold m_law_table_b1
        refine setMM 2 (by exact (add_mm (ixMM 2 (var 4) (var 5)) (mul_mm (mul_pm (ix_1_2p (var 3)) (ixT_pp (ix_0_2p (var 3)) (var 4))) (ixT_pp (ix_0_2p (var 3)) (var 5))))) (by exact (var 4)) (by exact (var 5)) fun table => ?_
        exact (nil rfl (leS (leS (leS (leS (leS (leN leZ)))))))
      exact (nil rfl (leS (leS (leS (leS (leN (leN leZ)))))))
    exact (nil rfl (leS (leS (leS (leN (leN (leN leZ)))))))
  refine settleO 2 rfl ?_
  refine retF ?_
  exact (var 2)
theorem ok_law_table (T : Gl0 K mg base) : FnI P w K mg base "_law_table" 1 ["size", "pairs"] (aCons cI (aOne (cL (cP (aCons (cT cI) (aOne cI)))))) (cL (cL cI)) (fun z => m_law_table z.1 z.2) := by
  obtain ⟨fd, D⟩ := T.c.def_ di__law_table (d := d__law_table) rfl
  exact fni (fn_law_table T D) (T.glo gi__law_table) D.kp (D.bindsN fun _ _ _ _ _ _ us hl => match us, hl with | [_, _], _ => rfl)

abbrev ns_Form_0 : List Str := []
abbrev ca_Form_0 : CA Unit := aNil
abbrev ns_Form_1 : List Str := ns_Form_0 ++ (["size"] : List Str)
abbrev ca_Form_1 : CA T_Form_1 := aSnoc ca_Form_0 cI
abbrev ns_Form_2 : List Str := ns_Form_1 ++ (["entries"] : List Str)
abbrev ca_Form_2 : CA T_Form_2 := aSnoc ca_Form_1 (cT (cT cI))
abbrev ns_Form_3 : List Str := ns_Form_2 ++ (["bottom"] : List Str)
abbrev ca_Form_3 : CA T_Form_3 := aSnoc ca_Form_2 cI
abbrev ns_Form : List Str := ns_Form_3
abbrev ca_Form : CA T_Form := ca_Form_3
abbrev c_Form : Cd T_Form := cIns "Form" ns_Form ca_Form
theorem f_Form_size : FldAt ns_Form ca_Form "size" cI (fun a => a.1.1.2) := (fPrev (fPrev fLast))
theorem f_Form_entries : FldAt ns_Form ca_Form "entries" (cT (cT cI)) (fun a => a.1.2) := (fPrev fLast)
theorem f_Form_bottom : FldAt ns_Form ca_Form "bottom" cI (fun a => a.2) := fLast

abbrev ns_RowList_0 : List Str := []
abbrev ca_RowList_0 : CA Unit := aNil
abbrev ns_RowList_1 : List Str := ns_RowList_0 ++ (["size"] : List Str)
abbrev ca_RowList_1 : CA T_RowList_1 := aSnoc ca_RowList_0 cI
abbrev ns_RowList_2 : List Str := ns_RowList_1 ++ (["pairs"] : List Str)
abbrev ca_RowList_2 : CA T_RowList_2 := aSnoc ca_RowList_1 (cT (cP (aCons (cT cI) (aOne cI))))
abbrev ns_RowList_3 : List Str := ns_RowList_2 ++ (["bottom"] : List Str)
abbrev ca_RowList_3 : CA T_RowList_3 := aSnoc ca_RowList_2 cI
abbrev ns_RowList_4 : List Str := ns_RowList_3 ++ (["form"] : List Str)
abbrev ca_RowList_4 : CA T_RowList_4 := aSnoc ca_RowList_3 c_Form
abbrev ns_RowList : List Str := ns_RowList_4
abbrev ca_RowList : CA T_RowList := ca_RowList_4
abbrev c_RowList : Cd T_RowList := cIns "RowList" ns_RowList ca_RowList
theorem f_RowList_size : FldAt ns_RowList ca_RowList "size" cI (fun a => a.1.1.1.2) := (fPrev (fPrev (fPrev fLast)))
theorem f_RowList_pairs : FldAt ns_RowList ca_RowList "pairs" (cT (cP (aCons (cT cI) (aOne cI)))) (fun a => a.1.1.2) := (fPrev (fPrev fLast))
theorem f_RowList_bottom : FldAt ns_RowList ca_RowList "bottom" cI (fun a => a.1.2) := (fPrev fLast)
theorem f_RowList_form : FldAt ns_RowList ca_RowList "form" c_Form (fun a => a.2) := fLast

theorem sc_frozen_numbers : FnScope ["value"] ["value"] (defScope s_frozen_numbers) := ⟨rfl, rfl, rfl, by decide +kernel, rfl, by decide +kernel, by decide +kernel⟩
theorem fn_frozen_numbers_Li (T : Gl0 K mg base) {fd : FuncData} (D : FunD K d_frozen_numbers.name d_frozen_numbers.qual d_frozen_numbers.params d_frozen_numbers.body d_frozen_numbers.scope (d_frozen_numbers.dvs K) (d_frozen_numbers.kws K) (d_frozen_numbers.at_ K) fd) : FnOk P w K mg base (L2N.CX P w) 1 (d_frozen_numbers.at_ K) fd ["value"] (spF K (aOne (cL cI)) (cT cI) m_frozen_numbers_Li) := by
  have sn := sc_frozen_numbers.nd
  refine fn_mk (ν := Empty) (κ := Empty) (eN := fun _ => []) (eK := fun _ => []) D sc_frozen_numbers rfl (by decide) (fun cdv A outer s H E hr hp hw z => ?_)
  revert z; intro value
  show DS _ _ true [.st (List Int) (cL cI) value] _ _ _ _ (fun b => (.ret b : Out (List Int) Empty Empty)) (m_frozen_numbers_Li value)
  unfold m_frozen_numbers_Li
  refine ifYes (by exact (val (isSq_p (T.free fi_isinstance) (T.free fi_list) (T.free fi_tuple) (var 0)))) ?_
  refine retF ?_
  exact (toT (T.free fi_tuple) (var 0))
theorem ok_frozen_numbers_Li (T : Gl0 K mg base) : FnI P w K mg base "frozen_numbers" 1 ["value"] (aOne (cL cI)) (cT cI) m_frozen_numbers_Li := by
  obtain ⟨fd, D⟩ := T.c.def_ di_frozen_numbers (d := d_frozen_numbers) rfl
  exact fni (fn_frozen_numbers_Li T D) (T.glo gi_frozen_numbers) D.kp (D.bindsN fun _ _ _ _ _ _ us hl => match us, hl with | [_], _ => rfl)

theorem fn_frozen_numbers_i (T : Gl0 K mg base) {fd : FuncData} (D : FunD K d_frozen_numbers.name d_frozen_numbers.qual d_frozen_numbers.params d_frozen_numbers.body d_frozen_numbers.scope (d_frozen_numbers.dvs K) (d_frozen_numbers.kws K) (d_frozen_numbers.at_ K) fd) : FnOk P w K mg base (L2N.CX P w) 1 (d_frozen_numbers.at_ K) fd ["value"] (spF K (aOne cI) cI m_frozen_numbers_i) := by
  have sn := sc_frozen_numbers.nd
  refine fn_mk (ν := Empty) (κ := Empty) (eN := fun _ => []) (eK := fun _ => []) D sc_frozen_numbers rfl (by decide) (fun cdv A outer s H E hr hp hw z => ?_)
  revert z; intro value
  show DS _ _ true [.st Int cI value] _ _ _ _ (fun b => (.ret b : Out Int Empty Empty)) (m_frozen_numbers_i value)
  unfold m_frozen_numbers_i
  refine ifNo (by exact (val (isSq_p (T.free fi_isinstance) (T.free fi_list) (T.free fi_tuple) (var 0)))) ?_
  refine retF ?_
  exact (var 0)
theorem ok_frozen_numbers_i (T : Gl0 K mg base) : FnI P w K mg base "frozen_numbers" 1 ["value"] (aOne cI) cI m_frozen_numbers_i := by
  obtain ⟨fd, D⟩ := T.c.def_ di_frozen_numbers (d := d_frozen_numbers) rfl
  exact fni (fn_frozen_numbers_i T D) (T.glo gi_frozen_numbers) D.kp (D.bindsN fun _ _ _ _ _ _ us hl => match us, hl with | [_], _ => rfl)

theorem sc_frozen_part : FnScope ["value", "part"] ["value"] (defScope s_frozen_part) := ⟨rfl, rfl, rfl, by decide +kernel, rfl, by decide +kernel, by decide +kernel⟩
theorem fn_frozen_part_HLiie (T : Gl0 K mg base) {fd : FuncData} (D : FunD K d_frozen_part.name d_frozen_part.qual d_frozen_part.params d_frozen_part.body d_frozen_part.scope (d_frozen_part.dvs K) (d_frozen_part.kws K) (d_frozen_part.at_ K) fd) : FnOk P w K mg base (L2N.CX P w) 2 (d_frozen_part.at_ K) fd ["value"] (spF K (aOne (cH (aCons (cL cI) (aOne cI)))) (cP (aCons (cT cI) (aOne cI))) m_frozen_part_HLiie) := by
  have F_frozen_numbers_Li := ok_frozen_numbers_Li (P := P) (w := w) T
  have F_frozen_numbers_i := ok_frozen_numbers_i (P := P) (w := w) T
  have sn := sc_frozen_part.nd
  refine fn_mk (ν := Empty) (κ := Empty) (eN := fun _ => []) (eK := fun _ => []) D sc_frozen_part rfl (by decide) (fun cdv A outer s H E hr hp hw z => ?_)
  revert z; intro value
  show DS _ _ true [.st ((List Int) × Int) (cH (aCons (cL cI) (aOne cI))) value, .none] _ _ _ _ (fun b => (.ret b : Out ((List Int) × Int) Empty Empty)) (m_frozen_part_HLiie value)
  unfold m_frozen_part_HLiie
  refine ifYes (by exact (val (isSq_p (T.free fi_isinstance) (T.free fi_list) (T.free fi_tuple) (var 0)))) ?_
  refine retF ?_
  exact (toTH (T.free fi_tuple) (downH (pkCons (pkL pkId) (pkOne (pkR pkId))) (nxCons (nxL nxId) (nxOne (nxR nxId))) (dl (dlc sn rfl (lc0 (f := (fun (part : ((List Int) ⊕ Int)) => (onU part (fun (u1 : (List Int)) => ((m_frozen_numbers_Li u1) >>= fun z => R.ok ((Sum.inl z)))) (fun (u2 : Int) => ((m_frozen_numbers_i u2) >>= fun z => R.ok ((Sum.inr z))))))) [("part", 1)] (blk_ok (by show blkB ["value", "part"] (defScope s_frozen_part) _ _ = true; decide +kernel)) (by exact (iterL (coe_p (f := fun (z : ((List Int) × Int)) => [(Sum.inl z.1), (Sum.inr z.2)]) (x := value) (cHL (auCc (cInl cId) (au1c (cInr cId)))) (var 0)))) (tgB 1 sn) (fun b part => (by exact (caseU 1 (fun u1 => (by exact (by refine coe (c := (cT cI)) (c2 := (cU (cT cI) cI)) (f := (fun (z : (List Int)) => (Sum.inl z))) (cInl cId) ?_; exact (callP F_frozen_numbers_Li (hr.mono (by decide)) lets0 (arg1 (var 1)))))) (fun u2 => (by exact (by refine coe (c := cI) (c2 := (cU (cT cI) cI)) (f := (fun (z : Int) => (Sum.inr z))) (cInr cId) ?_; exact (callP F_frozen_numbers_i (hr.mono (by decide)) lets0 (arg1 (var 1))))))))))))))
theorem ok_frozen_part_HLiie (T : Gl0 K mg base) : FnI P w K mg base "frozen_part" 2 ["value"] (aOne (cH (aCons (cL cI) (aOne cI)))) (cP (aCons (cT cI) (aOne cI))) m_frozen_part_HLiie := by
  obtain ⟨fd, D⟩ := T.c.def_ di_frozen_part (d := d_frozen_part) rfl
  exact fni (fn_frozen_part_HLiie T D) (T.glo gi_frozen_part) D.kp (D.bindsN fun _ _ _ _ _ _ us hl => match us, hl with | [_], _ => rfl)

theorem sc_frozen : FnScope ["value", "part"] ["value"] (defScope s_frozen) := ⟨rfl, rfl, rfl, by decide +kernel, rfl, by decide +kernel, by decide +kernel⟩
theorem fn_frozen_LHLiie (T : Gl0 K mg base) {fd : FuncData} (D : FunD K d_frozen.name d_frozen.qual d_frozen.params d_frozen.body d_frozen.scope (d_frozen.dvs K) (d_frozen.kws K) (d_frozen.at_ K) fd) : FnOk P w K mg base (L2N.CX P w) 3 (d_frozen.at_ K) fd ["value"] (spF K (aOne (cL (cH (aCons (cL cI) (aOne cI))))) (cT (cP (aCons (cT cI) (aOne cI)))) m_frozen_LHLiie) := by
  have F_frozen_part_HLiie := ok_frozen_part_HLiie (P := P) (w := w) T
  have sn := sc_frozen.nd
  refine fn_mk (ν := Empty) (κ := Empty) (eN := fun _ => []) (eK := fun _ => []) D sc_frozen rfl (by decide) (fun cdv A outer s H E hr hp hw z => ?_)
  revert z; intro value
  show DS _ _ true [.st (List ((List Int) × Int)) (cL (cH (aCons (cL cI) (aOne cI)))) value, .none] _ _ _ _ (fun b => (.ret b : Out (List ((List Int) × Int)) Empty Empty)) (m_frozen_LHLiie value)
  unfold m_frozen_LHLiie
  refine ifYes (by exact (val (isSq_p (T.free fi_isinstance) (T.free fi_list) (T.free fi_tuple) (var 0)))) ?_
  refine retF ?_
  exact (toT (T.free fi_tuple) (dl (dlc sn rfl (lc0 (f := (fun (part : ((List Int) × Int)) => (m_frozen_part_HLiie part))) [("part", 1)] (blk_ok (by show blkB ["value", "part"] (defScope s_frozen) _ _ = true; decide +kernel)) (by exact (iterL (var 0))) (tgB 1 sn) (fun b part => (by exact (callP F_frozen_part_HLiie (hr.mono (by decide)) lets0 (arg1 (var 1)))))))))
theorem ok_frozen_LHLiie (T : Gl0 K mg base) : FnI P w K mg base "frozen" 3 ["value"] (aOne (cL (cH (aCons (cL cI) (aOne cI))))) (cT (cP (aCons (cT cI) (aOne cI)))) m_frozen_LHLiie := by
  obtain ⟨fd, D⟩ := T.c.def_ di_frozen (d := d_frozen) rfl
  exact fni (fn_frozen_LHLiie T D) (T.glo gi_frozen) D.kp (D.bindsN fun _ _ _ _ _ _ us hl => match us, hl with | [_], _ => rfl)

abbrev ns_BadRow_0 : List Str := []
abbrev ca_BadRow_0 : CA Unit := aNil
abbrev ns_BadRow_1 : List Str := "index" :: ns_BadRow_0
abbrev ca_BadRow_1 : CA T_BadRow_1 := aCons cI ca_BadRow_0
abbrev ns_BadRow : List Str := ns_BadRow_1
abbrev ca_BadRow : CA T_BadRow := ca_BadRow_1
theorem ff_BadRow : FF ns_BadRow ca_BadRow x_BadRow := (ffCons fInt ffNil)

theorem sc_BadRow_init : FnScope ["self", "index"] ["self", "index"] (defScope s_BadRow_init) := ⟨rfl, rfl, rfl, by decide +kernel, rfl, by decide +kernel, by decide +kernel⟩
theorem fn_BadRow_init (T : Gl0 K mg base) {fd : FuncData} (D : FunD K d_BadRow_init.name d_BadRow_init.qual d_BadRow_init.params d_BadRow_init.body d_BadRow_init.scope (d_BadRow_init.dvs K) (d_BadRow_init.kws K) (d_BadRow_init.at_ K) fd) : FnOk P w K mg base (L2N.CX P w) 1 (d_BadRow_init.at_ K) fd ["self", "index"] (spXI "BadRow" K (aOne cI) ns_BadRow ca_BadRow m_BadRow_init) := by
  have sn := sc_BadRow_init.nd
  refine fn_mkX (κ := Empty) (eN := fun xX a => [.ow T_BadRow (oX xX "BadRow" ns_BadRow ca_BadRow) a, .none]) (eK := fun _ => []) D sc_BadRow_init rfl (by decide) (fun h => nomatch h) (fun _ _ => rfl) (fun cdv A outer s H E hr hp hw xX z => ?_)
  revert z; intro index
  show DS _ _ false [.ow Unit (oX xX "BadRow" ns_BadRow_0 ca_BadRow_0) (()), .st Int cI index] _ _ _ _ (fun b => (.nxt b : Out Unit T_BadRow Empty)) (m_BadRow_init index)
  unfold m_BadRow_init
  refine xfS (c := cI) 0 (by exact (var 1)) (fun f1 => ?_) (oexB_ok (T.more gm_oex_BadRow)) (T.noat gf_noat_BadRow_index)
  exact (nil rfl (leS (leN leZ)))
theorem ok_BadRow_init (T : Gl0 K mg base) : XcI P w K mg base "BadRow" 1 (aOne cI) ns_BadRow ca_BadRow m_BadRow_init x_BadRow := by
  obtain ⟨fd, D⟩ := T.c.def_ di_BadRow_init (d := d_BadRow_init) rfl
  exact ⟨_, fd, _, fn_BadRow_init T D, oexB_ok (T.more gm_oex_BadRow), (T.meth gf_meth_BadRow___init__), (T.glo gi_BadRow), (D.bindsN fun _ _ _ _ _ _ us hl => match us, hl with | [_, _], _ => rfl), by decide, ff_BadRow⟩

abbrev ns_BadWeight_0 : List Str := []
abbrev ca_BadWeight_0 : CA Unit := aNil
abbrev ns_BadWeight_1 : List Str := "index" :: ns_BadWeight_0
abbrev ca_BadWeight_1 : CA T_BadWeight_1 := aCons cI ca_BadWeight_0
abbrev ns_BadWeight : List Str := ns_BadWeight_1
abbrev ca_BadWeight : CA T_BadWeight := ca_BadWeight_1
theorem ff_BadWeight : FF ns_BadWeight ca_BadWeight x_BadWeight := (ffCons fInt ffNil)

theorem sc_BadWeight_init : FnScope ["self", "index"] ["self", "index"] (defScope s_BadWeight_init) := ⟨rfl, rfl, rfl, by decide +kernel, rfl, by decide +kernel, by decide +kernel⟩
theorem fn_BadWeight_init (T : Gl0 K mg base) {fd : FuncData} (D : FunD K d_BadWeight_init.name d_BadWeight_init.qual d_BadWeight_init.params d_BadWeight_init.body d_BadWeight_init.scope (d_BadWeight_init.dvs K) (d_BadWeight_init.kws K) (d_BadWeight_init.at_ K) fd) : FnOk P w K mg base (L2N.CX P w) 1 (d_BadWeight_init.at_ K) fd ["self", "index"] (spXI "BadWeight" K (aOne cI) ns_BadWeight ca_BadWeight m_BadWeight_init) := by
  have sn := sc_BadWeight_init.nd
  refine fn_mkX (κ := Empty) (eN := fun xX a => [.ow T_BadWeight (oX xX "BadWeight" ns_BadWeight ca_BadWeight) a, .none]) (eK := fun _ => []) D sc_BadWeight_init rfl (by decide) (fun h => nomatch h) (fun _ _ => rfl) (fun cdv A outer s H E hr hp hw xX z => ?_)
  revert z; intro index
  show DS _ _ false [.ow Unit (oX xX "BadWeight" ns_BadWeight_0 ca_BadWeight_0) (()), .st Int cI index] _ _ _ _ (fun b => (.nxt b : Out Unit T_BadWeight Empty)) (m_BadWeight_init index)
  unfold m_BadWeight_init
  refine xfS (c := cI) 0 (by exact (var 1)) (fun f1 => ?_) (oexB_ok (T.more gm_oex_BadWeight)) (T.noat gf_noat_BadWeight_index)
  exact (nil rfl (leS (leN leZ)))
theorem ok_BadWeight_init (T : Gl0 K mg base) : XcI P w K mg base "BadWeight" 1 (aOne cI) ns_BadWeight ca_BadWeight m_BadWeight_init x_BadWeight := by
  obtain ⟨fd, D⟩ := T.c.def_ di_BadWeight_init (d := d_BadWeight_init) rfl
  exact ⟨_, fd, _, fn_BadWeight_init T D, oexB_ok (T.more gm_oex_BadWeight), (T.meth gf_meth_BadWeight___init__), (T.glo gi_BadWeight), (D.bindsN fun _ _ _ _ _ _ us hl => match us, hl with | [_, _], _ => rfl), by decide, ff_BadWeight⟩

theorem sc_check_pairs : FnScope ["size", "pairs", "index", "row", "weight"] ["size", "pairs"] (defScope s_check_pairs) := ⟨rfl, rfl, rfl, by decide +kernel, rfl, by decide +kernel, by decide +kernel⟩
theorem fn_check_pairs_i_TPTiie (T : Gl0 K mg base) {fd : FuncData} (D : FunD K d_check_pairs.name d_check_pairs.qual d_check_pairs.params d_check_pairs.body d_check_pairs.scope (d_check_pairs.dvs K) (d_check_pairs.kws K) (d_check_pairs.at_ K) fd) : FnOk P w K mg base (L2N.CX P w) 3 (d_check_pairs.at_ K) fd ["size", "pairs"] (spF K (aCons cI (aOne (cT (cP (aCons (cT cI) (aOne cI)))))) cN (fun z => m_check_pairs_i_TPTiie z.1 z.2)) := by
  have F_BadRow_init := ok_BadRow_init (P := P) (w := w) T
  have F_BadWeight_init := ok_BadWeight_init (P := P) (w := w) T
  have sn := sc_check_pairs.nd
  refine fn_mkN (κ := Empty) (eN := fun _ => [.none, .none, .none, .none, .none]) (eK := fun _ => []) D sc_check_pairs rfl (by decide) (fun cdv A outer s H E hr hp hw z => ?_)
  obtain ⟨size, pairs⟩ := z
  show DS _ _ false [.st Int cI size, .st (List ((List Int) × Int)) (cT (cP (aCons (cT cI) (aOne cI)))) pairs, .none, .none, .none] _ _ _ _ (fun b => (.nxt b : Out Unit Unit Empty)) (m_check_pairs_i_TPTiie size pairs)
  unfold m_check_pairs_i_TPTiie
  refine forF (eL := fun (s2 : Unit) => [.st Int cI size, .st (List ((List Int) × Int)) (cT (cP (aCons (cT cI) (aOne cI)))) pairs, .none, .none, .none]) (step := (m_check_pairs_i_TPTiie_b1 size)) rfl hw (by exact (iterEnum (T.free fi_enumerate) (var 1))) (dgF (tgTup (fun _ => rfl) (tgsCons (tgName 2 (fun _ => sn)) (tgsOne (tgTup (fun _ => rfl) (tgsCons (tgName 3 (fun _ => sn)) (tgsOne (tgName 4 (fun _ => sn))))))))) (leS (leS (leN (leN (leN leZ))))) (fun s2 p3 => ?_) fun s6 => ?_
  · unfold m_check_pairs_i_TPTiie_b1
    refine ifA_p (by exact (neIT_pp (lenT_p (T.free fi_len) (var 3)) (var 0))) ?_ ?_
    · exact raiseF F_BadRow_init (hr.mono (by decide)) hp (arg1 (var 2))
    refine if2_p (by exact (ltT_pp (var 4) int)) ?_ ?_
    · exact raiseF F_BadWeight_init (hr.mono (by decide)) hp (arg1 (var 2))
    exact (nil rfl (leS (leS (leN (leN (leN leZ))))))
  exact (nil rfl (leN (leN (leN (leN (leN leZ))))))
theorem ok_check_pairs_i_TPTiie (T : Gl0 K mg base) : FnI P w K mg base "check_pairs" 3 ["size", "pairs"] (aCons cI (aOne (cT (cP (aCons (cT cI) (aOne cI)))))) cN (fun z => m_check_pairs_i_TPTiie z.1 z.2) := by
  obtain ⟨fd, D⟩ := T.c.def_ di_check_pairs (d := d_check_pairs) rfl
  exact fni (fn_check_pairs_i_TPTiie T D) (T.glo gi_check_pairs) D.kp (D.bindsN fun _ _ _ _ _ _ us hl => match us, hl with | [_, _], _ => rfl)

theorem sc_lowered : FnScope ["numbers", "bottom", "shared", "number"] ["numbers", "bottom"] (defScope s_lowered) := ⟨rfl, rfl, rfl, by decide +kernel, rfl, by decide +kernel, by decide +kernel⟩
theorem fn_lowered (T : Gl0 K mg base) {fd : FuncData} (D : FunD K d_lowered.name d_lowered.qual d_lowered.params d_lowered.body d_lowered.scope (d_lowered.dvs K) (d_lowered.kws K) (d_lowered.at_ K) fd) : FnOk P w K mg base (L2N.CX P w) 1 (d_lowered.at_ K) fd ["numbers", "bottom"] (spF K (aCons (cL cI) (aOne cI)) (cP (aCons (cT cI) (aOne cI))) (fun z => m_lowered z.1 z.2)) := by
  have sn := sc_lowered.nd
  refine fn_mk (ν := Empty) (κ := Empty) (eN := fun _ => []) (eK := fun _ => []) D sc_lowered rfl (by decide) (fun cdv A outer s H E hr hp hw z => ?_)
  obtain ⟨numbers, bottom⟩ := z
  show DS _ _ true [.st (List Int) (cL cI) numbers, .st Int cI bottom, .none, .none] _ _ _ _ (fun b => (.ret b : Out ((List Int) × Int) Empty Empty)) (m_lowered numbers bottom)
  unfold m_lowered
  refine asg (c := cI) 2 sn (by exact (var 1)) fun shared => ?_
  refine forF (eL := fun (s1 : Int) => [.st (List Int) (cL cI) numbers, .st Int cI bottom, .st Int cI s1, .none]) (step := m_lowered_b1) rfl hw (by exact (iterL (var 0))) (tgN 3 sn) (leS (leS (leS (leN leZ)))) (fun s1 number => ?_) fun s2 => ?_
  · unfold m_lowered_b1
    refine asg (c := cI) 2 sn (by exact (gcd_p (T.heldZ 0) (var 2) (var 3))) fun shared => ?_
    exact (nil rfl (leS (leS (leS (leN leZ)))))
  refine retF ?_
  exact (tupP (argC_mm (toT (T.free fi_tuple) (dl (dlc sn rfl (lc0 (f := (fun (number : Int) => (fdivM number s2))) [("number", 3)] (blk_ok (by show blkB ["numbers", "bottom", "shared", "number"] (defScope s_lowered) _ _ = true; decide +kernel)) (by exact (iterL (var 0))) (tgB 3 sn) (fun b number => (by exact (fdiv_pp (var 3) (var 2)))))))) (arg1 (fdiv_pp (var 1) (var 2)))))
theorem ok_lowered (T : Gl0 K mg base) : FnI P w K mg base "lowered" 1 ["numbers", "bottom"] (aCons (cL cI) (aOne cI)) (cP (aCons (cT cI) (aOne cI))) (fun z => m_lowered z.1 z.2) := by
  obtain ⟨fd, D⟩ := T.c.def_ di_lowered (d := d_lowered) rfl
  exact fni (fn_lowered T D) (T.glo gi_lowered) D.kp (D.bindsN fun _ _ _ _ _ _ us hl => match us, hl with | [_, _], _ => rfl)

theorem fn_frozen_part_Li (T : Gl0 K mg base) {fd : FuncData} (D : FunD K d_frozen_part.name d_frozen_part.qual d_frozen_part.params d_frozen_part.body d_frozen_part.scope (d_frozen_part.dvs K) (d_frozen_part.kws K) (d_frozen_part.at_ K) fd) : FnOk P w K mg base (L2N.CX P w) 2 (d_frozen_part.at_ K) fd ["value"] (spF K (aOne (cL cI)) (cT cI) m_frozen_part_Li) := by
  have F_frozen_numbers_i := ok_frozen_numbers_i (P := P) (w := w) T
  have sn := sc_frozen_part.nd
  refine fn_mk (ν := Empty) (κ := Empty) (eN := fun _ => []) (eK := fun _ => []) D sc_frozen_part rfl (by decide) (fun cdv A outer s H E hr hp hw z => ?_)
  revert z; intro value
  show DS _ _ true [.st (List Int) (cL cI) value, .none] _ _ _ _ (fun b => (.ret b : Out (List Int) Empty Empty)) (m_frozen_part_Li value)
  unfold m_frozen_part_Li
  refine ifYes (by exact (val (isSq_p (T.free fi_isinstance) (T.free fi_list) (T.free fi_tuple) (var 0)))) ?_
  refine retF ?_
  exact (toT (T.free fi_tuple) (dl (dlc sn rfl (lc0 (f := (fun (part : Int) => (m_frozen_numbers_i part))) [("part", 1)] (blk_ok (by show blkB ["value", "part"] (defScope s_frozen_part) _ _ = true; decide +kernel)) (by exact (iterL (var 0))) (tgB 1 sn) (fun b part => (by exact (callP F_frozen_numbers_i (hr.mono (by decide)) lets0 (arg1 (var 1)))))))))
theorem ok_frozen_part_Li (T : Gl0 K mg base) : FnI P w K mg base "frozen_part" 2 ["value"] (aOne (cL cI)) (cT cI) m_frozen_part_Li := by
  obtain ⟨fd, D⟩ := T.c.def_ di_frozen_part (d := d_frozen_part) rfl
  exact fni (fn_frozen_part_Li T D) (T.glo gi_frozen_part) D.kp (D.bindsN fun _ _ _ _ _ _ us hl => match us, hl with | [_], _ => rfl)

theorem fn_frozen_LLi (T : Gl0 K mg base) {fd : FuncData} (D : FunD K d_frozen.name d_frozen.qual d_frozen.params d_frozen.body d_frozen.scope (d_frozen.dvs K) (d_frozen.kws K) (d_frozen.at_ K) fd) : FnOk P w K mg base (L2N.CX P w) 3 (d_frozen.at_ K) fd ["value"] (spF K (aOne (cL (cL cI))) (cT (cT cI)) m_frozen_LLi) := by
  have F_frozen_part_Li := ok_frozen_part_Li (P := P) (w := w) T
  have sn := sc_frozen.nd
  refine fn_mk (ν := Empty) (κ := Empty) (eN := fun _ => []) (eK := fun _ => []) D sc_frozen rfl (by decide) (fun cdv A outer s H E hr hp hw z => ?_)
  revert z; intro value
  show DS _ _ true [.st (List (List Int)) (cL (cL cI)) value, .none] _ _ _ _ (fun b => (.ret b : Out (List (List Int)) Empty Empty)) (m_frozen_LLi value)
  unfold m_frozen_LLi
  refine ifYes (by exact (val (isSq_p (T.free fi_isinstance) (T.free fi_list) (T.free fi_tuple) (var 0)))) ?_
  refine retF ?_
  exact (toT (T.free fi_tuple) (dl (dlc sn rfl (lc0 (f := (fun (part : (List Int)) => (m_frozen_part_Li part))) [("part", 1)] (blk_ok (by show blkB ["value", "part"] (defScope s_frozen) _ _ = true; decide +kernel)) (by exact (iterL (var 0))) (tgB 1 sn) (fun b part => (by exact (callP F_frozen_part_Li (hr.mono (by decide)) lets0 (arg1 (var 1)))))))))
theorem ok_frozen_LLi (T : Gl0 K mg base) : FnI P w K mg base "frozen" 3 ["value"] (aOne (cL (cL cI))) (cT (cT cI)) m_frozen_LLi := by
  obtain ⟨fd, D⟩ := T.c.def_ di_frozen (d := d_frozen) rfl
  exact fni (fn_frozen_LLi T D) (T.glo gi_frozen) D.kp (D.bindsN fun _ _ _ _ _ _ us hl => match us, hl with | [_], _ => rfl)

abbrev ns_NotSquare_0 : List Str := []
abbrev ca_NotSquare_0 : CA Unit := aNil
abbrev ns_NotSquare_1 : List Str := "row" :: ns_NotSquare_0
abbrev ca_NotSquare_1 : CA T_NotSquare_1 := aCons cI ca_NotSquare_0
abbrev ns_NotSquare : List Str := ns_NotSquare_1
abbrev ca_NotSquare : CA T_NotSquare := ca_NotSquare_1
theorem ff_NotSquare : FF ns_NotSquare ca_NotSquare x_NotSquare := (ffCons fInt ffNil)

theorem sc_NotSquare_init : FnScope ["self", "row"] ["self", "row"] (defScope s_NotSquare_init) := ⟨rfl, rfl, rfl, by decide +kernel, rfl, by decide +kernel, by decide +kernel⟩
theorem fn_NotSquare_init (T : Gl0 K mg base) {fd : FuncData} (D : FunD K d_NotSquare_init.name d_NotSquare_init.qual d_NotSquare_init.params d_NotSquare_init.body d_NotSquare_init.scope (d_NotSquare_init.dvs K) (d_NotSquare_init.kws K) (d_NotSquare_init.at_ K) fd) : FnOk P w K mg base (L2N.CX P w) 1 (d_NotSquare_init.at_ K) fd ["self", "row"] (spXI "NotSquare" K (aOne cI) ns_NotSquare ca_NotSquare m_NotSquare_init) := by
  have sn := sc_NotSquare_init.nd
  refine fn_mkX (κ := Empty) (eN := fun xX a => [.ow T_NotSquare (oX xX "NotSquare" ns_NotSquare ca_NotSquare) a, .none]) (eK := fun _ => []) D sc_NotSquare_init rfl (by decide) (fun h => nomatch h) (fun _ _ => rfl) (fun cdv A outer s H E hr hp hw xX z => ?_)
  revert z; intro row
  show DS _ _ false [.ow Unit (oX xX "NotSquare" ns_NotSquare_0 ca_NotSquare_0) (()), .st Int cI row] _ _ _ _ (fun b => (.nxt b : Out Unit T_NotSquare Empty)) (m_NotSquare_init row)
  unfold m_NotSquare_init
  refine xfS (c := cI) 0 (by exact (var 1)) (fun f1 => ?_) (oexB_ok (T.more gm_oex_NotSquare)) (T.noat gf_noat_NotSquare_row)
  exact (nil rfl (leS (leN leZ)))
theorem ok_NotSquare_init (T : Gl0 K mg base) : XcI P w K mg base "NotSquare" 1 (aOne cI) ns_NotSquare ca_NotSquare m_NotSquare_init x_NotSquare := by
  obtain ⟨fd, D⟩ := T.c.def_ di_NotSquare_init (d := d_NotSquare_init) rfl
  exact ⟨_, fd, _, fn_NotSquare_init T D, oexB_ok (T.more gm_oex_NotSquare), (T.meth gf_meth_NotSquare___init__), (T.glo gi_NotSquare), (D.bindsN fun _ _ _ _ _ _ us hl => match us, hl with | [_, _], _ => rfl), by decide, ff_NotSquare⟩

theorem sc_check_square : FnScope ["lines", "row", "line"] ["lines"] (defScope s_check_square) := ⟨rfl, rfl, rfl, by decide +kernel, rfl, by decide +kernel, by decide +kernel⟩
theorem fn_check_square (T : Gl0 K mg base) {fd : FuncData} (D : FunD K d_check_square.name d_check_square.qual d_check_square.params d_check_square.body d_check_square.scope (d_check_square.dvs K) (d_check_square.kws K) (d_check_square.at_ K) fd) : FnOk P w K mg base (L2N.CX P w) 3 (d_check_square.at_ K) fd ["lines"] (spF K (aOne (cT (cT cI))) cN m_check_square) := by
  have F_NotSquare_init := ok_NotSquare_init (P := P) (w := w) T
  have sn := sc_check_square.nd
  refine fn_mkN (κ := Empty) (eN := fun _ => [.none, .none, .none]) (eK := fun _ => []) D sc_check_square rfl (by decide) (fun cdv A outer s H E hr hp hw z => ?_)
  revert z; intro lines
  show DS _ _ false [.st (List (List Int)) (cT (cT cI)) lines, .none, .none] _ _ _ _ (fun b => (.nxt b : Out Unit Unit Empty)) (m_check_square lines)
  unfold m_check_square
  refine forF (eL := fun (s2 : Unit) => [.st (List (List Int)) (cT (cT cI)) lines, .none, .none]) (step := (m_check_square_b1 lines)) rfl hw (by exact (iterEnum (T.free fi_enumerate) (var 0))) (dgF (tgTup (fun _ => rfl) (tgsCons (tgName 1 (fun _ => sn)) (tgsOne (tgName 2 (fun _ => sn)))))) (leS (leN (leN leZ))) (fun s2 p3 => ?_) fun s5 => ?_
  · unfold m_check_square_b1
    refine if2_p (by exact (neIT_pp (lenT_p (T.free fi_len) (var 2)) (lenT_p (T.free fi_len) (var 0)))) ?_ ?_
    · exact raiseF F_NotSquare_init (hr.mono (by decide)) hp (arg1 (var 1))
    exact (nil rfl (leS (leN (leN leZ))))
  exact (nil rfl (leN (leN (leN leZ))))
theorem ok_check_square (T : Gl0 K mg base) : FnI P w K mg base "check_square" 3 ["lines"] (aOne (cT (cT cI))) cN m_check_square := by
  obtain ⟨fd, D⟩ := T.c.def_ di_check_square (d := d_check_square) rfl
  exact fni (fn_check_square T D) (T.glo gi_check_square) D.kp (D.bindsN fun _ _ _ _ _ _ us hl => match us, hl with | [_], _ => rfl)

abbrev ns_NotSymmetric_0 : List Str := []
abbrev ca_NotSymmetric_0 : CA Unit := aNil
abbrev ns_NotSymmetric_1 : List Str := "row" :: ns_NotSymmetric_0
abbrev ca_NotSymmetric_1 : CA T_NotSymmetric_1 := aCons cI ca_NotSymmetric_0
abbrev ns_NotSymmetric_2 : List Str := "column" :: ns_NotSymmetric_1
abbrev ca_NotSymmetric_2 : CA T_NotSymmetric_2 := aCons cI ca_NotSymmetric_1
abbrev ns_NotSymmetric : List Str := ns_NotSymmetric_2
abbrev ca_NotSymmetric : CA T_NotSymmetric := ca_NotSymmetric_2
theorem ff_NotSymmetric : FF ns_NotSymmetric ca_NotSymmetric x_NotSymmetric := (ffCons fInt (ffCons fInt ffNil))

theorem sc_NotSymmetric_init : FnScope ["self", "row", "column"] ["self", "row", "column"] (defScope s_NotSymmetric_init) := ⟨rfl, rfl, rfl, by decide +kernel, rfl, by decide +kernel, by decide +kernel⟩
theorem fn_NotSymmetric_init (T : Gl0 K mg base) {fd : FuncData} (D : FunD K d_NotSymmetric_init.name d_NotSymmetric_init.qual d_NotSymmetric_init.params d_NotSymmetric_init.body d_NotSymmetric_init.scope (d_NotSymmetric_init.dvs K) (d_NotSymmetric_init.kws K) (d_NotSymmetric_init.at_ K) fd) : FnOk P w K mg base (L2N.CX P w) 1 (d_NotSymmetric_init.at_ K) fd ["self", "row", "column"] (spXI "NotSymmetric" K (aCons cI (aOne cI)) ns_NotSymmetric ca_NotSymmetric (fun z => m_NotSymmetric_init z.1 z.2)) := by
  have sn := sc_NotSymmetric_init.nd
  refine fn_mkX (κ := Empty) (eN := fun xX a => [.ow T_NotSymmetric (oX xX "NotSymmetric" ns_NotSymmetric ca_NotSymmetric) a, .none, .none]) (eK := fun _ => []) D sc_NotSymmetric_init rfl (by decide) (fun h => nomatch h) (fun _ _ => rfl) (fun cdv A outer s H E hr hp hw xX z => ?_)
  obtain ⟨row, column⟩ := z
  show DS _ _ false [.ow Unit (oX xX "NotSymmetric" ns_NotSymmetric_0 ca_NotSymmetric_0) (()), .st Int cI row, .st Int cI column] _ _ _ _ (fun b => (.nxt b : Out Unit T_NotSymmetric Empty)) (m_NotSymmetric_init row column)
  unfold m_NotSymmetric_init
  refine xfS (c := cI) 0 (by exact (var 1)) (fun f1 => ?_) (oexB_ok (T.more gm_oex_NotSymmetric)) (T.noat gf_noat_NotSymmetric_row)
  refine xfS (c := cI) 0 (by exact (var 2)) (fun f2 => ?_) (oexB_ok (T.more gm_oex_NotSymmetric)) (T.noat gf_noat_NotSymmetric_column)
  exact (nil rfl (leS (leN (leN leZ))))
theorem ok_NotSymmetric_init (T : Gl0 K mg base) : XcI P w K mg base "NotSymmetric" 1 (aCons cI (aOne cI)) ns_NotSymmetric ca_NotSymmetric (fun z => m_NotSymmetric_init z.1 z.2) x_NotSymmetric := by
  obtain ⟨fd, D⟩ := T.c.def_ di_NotSymmetric_init (d := d_NotSymmetric_init) rfl
  exact ⟨_, fd, _, fn_NotSymmetric_init T D, oexB_ok (T.more gm_oex_NotSymmetric), (T.meth gf_meth_NotSymmetric___init__), (T.glo gi_NotSymmetric), (D.bindsN fun _ _ _ _ _ _ us hl => match us, hl with | [_, _, _], _ => rfl), by decide, ff_NotSymmetric⟩

theorem sc_check_symmetric : FnScope ["lines", "row", "column"] ["lines"] (defScope s_check_symmetric) := ⟨rfl, rfl, rfl, by decide +kernel, rfl, by decide +kernel, by decide +kernel⟩
theorem fn_check_symmetric (T : Gl0 K mg base) {fd : FuncData} (D : FunD K d_check_symmetric.name d_check_symmetric.qual d_check_symmetric.params d_check_symmetric.body d_check_symmetric.scope (d_check_symmetric.dvs K) (d_check_symmetric.kws K) (d_check_symmetric.at_ K) fd) : FnOk P w K mg base (L2N.CX P w) 3 (d_check_symmetric.at_ K) fd ["lines"] (spF K (aOne (cT (cT cI))) cN m_check_symmetric) := by
  have F_NotSymmetric_init := ok_NotSymmetric_init (P := P) (w := w) T
  have sn := sc_check_symmetric.nd
  refine fn_mkN (κ := Empty) (eN := fun _ => [.none, .none, .none]) (eK := fun _ => []) D sc_check_symmetric rfl (by decide) (fun cdv A outer s H E hr hp hw z => ?_)
  revert z; intro lines
  show DS _ _ false [.st (List (List Int)) (cT (cT cI)) lines, .none, .none] _ _ _ _ (fun b => (.nxt b : Out Unit Unit Empty)) (m_check_symmetric lines)
  unfold m_check_symmetric
  refine forF (eL := fun (s1 : Unit) => [.st (List (List Int)) (cT (cT cI)) lines, .none, .none]) (step := (m_check_symmetric_b2 lines)) rfl hw (by exact (iterR1_p (T.free fi_range) (lenT_p (T.free fi_len) (var 0)))) (tgN 1 sn) (leS (leN (leN leZ))) (fun s1 row => ?_) fun s12 => ?_
  · unfold m_check_symmetric_b2
    refine forF (eL := fun (s4 : Unit) => [.st (List (List Int)) (cT (cT cI)) lines, .st Int cI row, .none]) (step := (m_check_symmetric_b1 lines row)) rfl hw (by exact (iterR2 (T.free fi_range) (add_pp (var 1) int) (lenT_p (T.free fi_len) (var 0)))) (tgN 2 sn) (leS (leS (leN leZ))) (fun s4 column => ?_) fun s11 => ?_
    · unfold m_check_symmetric_b1
      refine if2 (by exact (neIT_mm (ixT_mp (ixT_pp (var 0) (var 1)) (var 2)) (ixT_mp (ixT_pp (var 0) (var 2)) (var 1)))) ?_ ?_
      · exact raiseF F_NotSymmetric_init (hr.mono (by decide)) hp (argC_pp (var 1) (arg1 (var 2)))
      exact (nil rfl (leS (leS (leN leZ))))
    exact (nil rfl (leS (leN (leN leZ))))
  exact (nil rfl (leN (leN (leN leZ))))
theorem ok_check_symmetric (T : Gl0 K mg base) : FnI P w K mg base "check_symmetric" 3 ["lines"] (aOne (cT (cT cI))) cN m_check_symmetric := by
  obtain ⟨fd, D⟩ := T.c.def_ di_check_symmetric (d := d_check_symmetric) rfl
  exact fni (fn_check_symmetric T D) (T.glo gi_check_symmetric) D.kp (D.bindsN fun _ _ _ _ _ _ us hl => match us, hl with | [_], _ => rfl)

theorem sc_Form_init : FnScope ["self", "entries", "bottom", "lines", "size", "numbers", "least_bottom", "line", "number", "row"] ["self", "entries", "bottom"] (defScope s_Form_init) := ⟨rfl, rfl, rfl, by decide +kernel, rfl, by decide +kernel, by decide +kernel⟩
theorem fn_Form_init (T : Gl0 K mg base) {fd : FuncData} (D : FunD K d_Form_init.name d_Form_init.qual d_Form_init.params d_Form_init.body d_Form_init.scope (d_Form_init.dvs K) (d_Form_init.kws K) (d_Form_init.at_ K) fd) : FnOk P w K mg base (L2N.CX P w) 4 (d_Form_init.at_ K) fd ["self", "entries", "bottom"] (spI "Form" K (aApp (aOne (cL (cL cI))) (aOne cI)) ns_Form ca_Form (fun z => m_Form_init z.1 z.2)) := by
  have F_check_square := ok_check_square (P := P) (w := w) T
  have F_check_symmetric := ok_check_symmetric (P := P) (w := w) T
  have F_frozen_LLi := ok_frozen_LLi (P := P) (w := w) T
  have F_lowered := ok_lowered (P := P) (w := w) T
  have sn := sc_Form_init.nd
  refine fn_mkI (κ := Empty) (eN := fun xX a => [.ow T_Form (oI xX "Form" ns_Form ca_Form) a, .none, .none, .none, .none, .none, .none, .none, .none, .none]) (eK := fun _ => []) D sc_Form_init rfl (by decide) (fun _ _ => rfl) (fun cdv A outer s H E hr hp hw xX z => ?_)
  obtain ⟨entries, bottom⟩ := z
  show DS _ _ false [.ow Unit (oI xX "Form" ns_Form_0 ca_Form_0) (()), .st (List (List Int)) (cL (cL cI)) entries, .st Int cI bottom, .none, .none, .none, .none, .none, .none, .none] _ _ _ _ (fun b => (.nxt b : Out Unit T_Form Empty)) (m_Form_init entries bottom)
  unfold m_Form_init
  refine asg (c := (cT (cT cI))) 3 sn (by exact (callP F_frozen_LLi (hr.mono (by decide)) hp (arg1 (var 1)))) fun lines => ?_
  refine drop (by exact (callP F_check_square (hr.mono (by decide)) hp (arg1 (var 3)))) fun _ => ?_
  refine drop (by exact (callP F_check_symmetric (hr.mono (by decide)) hp (arg1 (var 3)))) fun _ => ?_
  refine asg (c := cI) 4 sn (by exact (lenT_p (T.free fi_len) (var 3))) fun size => ?_
  refine asgT (c := (cP (aCons (cT cI) (aOne cI)))) (by exact (call F_lowered (hr.mono (by decide)) hp (argC_mp (dl (lc2 (g := (fun (line : (List Int)) => R.ok line)) (f := (fun (line : (List Int)) (number : Int) => R.ok number)) [("line", 7), ("number", 8)] [8] (blk_ok (by show blkB ["self", "entries", "bottom", "lines", "size", "numbers", "least_bottom", "line", "number", "row"] (defScope s_Form_init) _ _ = true; decide +kernel)) sn rfl (by decide) (by exact (iterT (var 3))) (tgB 7 sn) (fun b line => (by exact (var 7))) (tgName 8 (fun _ => sn)) (fun b line number => (by exact (var 8))))) (arg1 (var 2))))) (tgTup (fun _ => rfl) (tgsCons (tgName 5 (fun _ => sn)) (tgsOne (tgName 6 (fun _ => sn))))) fun p2 => ?_
  refine fldS (c := cI) 0 (by exact (var 4)) (fun f3 => ?_) (T.cls gf_cls_Form) (T.noat gf_noat_Form_size)
  refine fldS (c := (cT (cT cI))) 0 (by exact (toT (T.free fi_tuple) (dl (dlc sn rfl (lc0 (f := (fun (row : Int) => (R.ok p2.1 >>= fun x5 => ((mulM row size) >>= fun i => R.ok (some i)) >>= fun y6 => (((mulM row size) >>= fun x4 => R.ok ((x4 + size))) >>= fun i => R.ok (some i)) >>= fun z7 => R.ok (cutA x5 y6 z7)))) [("row", 9)] (blk_ok (by show blkB ["self", "entries", "bottom", "lines", "size", "numbers", "least_bottom", "line", "number", "row"] (defScope s_Form_init) _ _ = true; decide +kernel)) (by exact (iterR1_p (T.free fi_range) (var 4))) (tgB 9 sn) (fun b row => (by exact (slT (var 5) (ptE (mul_pp (var 9) (var 4))) (ptE (add_mp (mul_pp (var 9) (var 4)) (var 4))))))))))) (fun f8 => ?_) (T.cls gf_cls_Form) (T.noat gf_noat_Form_entries)
  refine fldS (c := cI) 0 (by exact (var 6)) (fun f9 => ?_) (T.cls gf_cls_Form) (T.noat gf_noat_Form_bottom)
  exact (nil rfl (leS (leN (leN (leN (leN (leN (leN (leN (leN (leN leZ)))))))))))
theorem ok_Form_init (T : Gl0 K mg base) : ClI P w K mg base "Form" 4 1 ["bottom"] (aOne (cL (cL cI))) (aOne cI) ns_Form ca_Form (fun z => m_Form_init z.1 z.2) := by
  obtain ⟨fd, D⟩ := T.c.def_ di_Form_init (d := d_Form_init) rfl
  obtain ⟨mv, hb⟩ := FunD.kbinds0 (ps := ["self", "entries", "bottom"]) D 2 ["bottom"] [] (fun vs mz zs => vs ++ zs) (fun h => nomatch h) (fun q hq => nomatch hq) (fun r1 _ r3 => r1.append r3) (fun _ _ _ _ _ _ us mv ws h1 h2 h3 => match us, h1, mv, h2, ws, h3 with | [_, _], _, [], _, [_], _ => rfl)
  exact ⟨_, fd, _, _, fn_Form_init T D, (T.glo gi_Form), (T.mkr gf_mkr_Form), hb, rfl, rfl⟩
theorem okd_Form_init (T : Gl0 K mg base) : ClD P w K mg base "Form" 4 (aOne (cL (cL cI))) (aOne cI) (1 : Int) ns_Form ca_Form (fun z => m_Form_init z.1 z.2) := by
  obtain ⟨fd, D⟩ := T.c.def_ di_Form_init (d := d_Form_init) rfl
  obtain ⟨dsv, hv, hb⟩ := FunD.binds0 (ps := ["self", "entries", "bottom"]) D 2 (fun h => nomatch h) rfl (fun _ _ _ _ _ _ us ks h1 h2 => match us, h1, ks, h2 with | [_, _], _, [_], _ => ⟨_, _, _, _, _, _, rfl, rfl, rfl⟩)
  exact ⟨_, fd, _, dsv, [.int 1], fn_Form_init T D, (T.glo gi_Form), (T.mkr gf_mkr_Form), hb, hv, fun _ => ⟨_, rfl, rfl⟩⟩

theorem sc_weighted_sum : FnScope ["pairs", "one", "two", "row", "weight"] ["pairs", "one", "two"] (defScope s_weighted_sum) := ⟨rfl, rfl, rfl, by decide +kernel, rfl, by decide +kernel, by decide +kernel⟩
theorem fn_weighted_sum (T : Gl0 K mg base) {fd : FuncData} (D : FunD K d_weighted_sum.name d_weighted_sum.qual d_weighted_sum.params d_weighted_sum.body d_weighted_sum.scope (d_weighted_sum.dvs K) (d_weighted_sum.kws K) (d_weighted_sum.at_ K) fd) : FnOk P w K mg base (L2N.CX P w) 1 (d_weighted_sum.at_ K) fd ["pairs", "one", "two"] (spF K (aCons (cT (cP (aCons (cT cI) (aOne cI)))) (aCons cI (aOne cI))) cI (fun z => m_weighted_sum z.1 z.2.1 z.2.2)) := by
  have sn := sc_weighted_sum.nd
  refine fn_mk (ν := Empty) (κ := Empty) (eN := fun _ => []) (eK := fun _ => []) D sc_weighted_sum rfl (by decide) (fun cdv A outer s H E hr hp hw z => ?_)
  obtain ⟨pairs, one, two⟩ := z
  show DS _ _ true [.st (List ((List Int) × Int)) (cT (cP (aCons (cT cI) (aOne cI)))) pairs, .st Int cI one, .st Int cI two, .none, .none] _ _ _ _ (fun b => (.ret b : Out Int Empty Empty)) (m_weighted_sum pairs one two)
  unfold m_weighted_sum
  refine retF ?_
  exact (sumL (T.free fi_sum) (dl (dlc sn rfl (lc0 (f := (fun (p1 : ((List Int) × Int)) => (((getM p1.1 one) >>= fun y2 => (mulM p1.2 y2)) >>= fun x3 => (getM p1.1 two) >>= fun y4 => (mulM x3 y4)))) [("row", 3), ("weight", 4)] (blk_ok (by show blkB ["pairs", "one", "two", "row", "weight"] (defScope s_weighted_sum) _ _ = true; decide +kernel)) (by exact (iterT (var 0))) (dgbF (tgTup (fun _ => rfl) (tgsCons (tgName 3 (fun _ => sn)) (tgsOne (tgName 4 (fun _ => sn)))))) (fun b p1 => (by exact (mul_mm (mul_pm (var 4) (ixT_pp (var 3) (var 1))) (ixT_pp (var 3) (var 2)))))))))
theorem ok_weighted_sum (T : Gl0 K mg base) : FnI P w K mg base "weighted_sum" 1 ["pairs", "one", "two"] (aCons (cT (cP (aCons (cT cI) (aOne cI)))) (aCons cI (aOne cI))) cI (fun z => m_weighted_sum z.1 z.2.1 z.2.2) := by
  obtain ⟨fd, D⟩ := T.c.def_ di_weighted_sum (d := d_weighted_sum) rfl
  exact fni (fn_weighted_sum T D) (T.glo gi_weighted_sum) D.kp (D.bindsN fun _ _ _ _ _ _ us hl => match us, hl with | [_, _, _], _ => rfl)

theorem sc_weighted_matrix : FnScope ["size", "pairs", "line", "column"] ["size", "pairs"] (defScope s_weighted_matrix) := ⟨rfl, rfl, rfl, by decide +kernel, rfl, by decide +kernel, by decide +kernel⟩
theorem fn_weighted_matrix (T : Gl0 K mg base) {fd : FuncData} (D : FunD K d_weighted_matrix.name d_weighted_matrix.qual d_weighted_matrix.params d_weighted_matrix.body d_weighted_matrix.scope (d_weighted_matrix.dvs K) (d_weighted_matrix.kws K) (d_weighted_matrix.at_ K) fd) : FnOk P w K mg base (L2N.CX P w) 2 (d_weighted_matrix.at_ K) fd ["size", "pairs"] (spF K (aCons cI (aOne (cT (cP (aCons (cT cI) (aOne cI)))))) (cL (cL cI)) (fun z => m_weighted_matrix z.1 z.2)) := by
  have F_weighted_sum := ok_weighted_sum (P := P) (w := w) T
  have sn := sc_weighted_matrix.nd
  refine fn_mk (ν := Empty) (κ := Empty) (eN := fun _ => []) (eK := fun _ => []) D sc_weighted_matrix rfl (by decide) (fun cdv A outer s H E hr hp hw z => ?_)
  obtain ⟨size, pairs⟩ := z
  show DS _ _ true [.st Int cI size, .st (List ((List Int) × Int)) (cT (cP (aCons (cT cI) (aOne cI)))) pairs, .none, .none] _ _ _ _ (fun b => (.ret b : Out (List (List Int)) Empty Empty)) (m_weighted_matrix size pairs)
  unfold m_weighted_matrix
  refine retF ?_
  exact (dl (dlc sn rfl (lc0 (f := (fun (line : Int) => (rngM 0 size >>= fun as => mapM (fun (column : Int) => (m_weighted_sum pairs line column)) as))) [("line", 2)] (blk_ok (by show blkB ["size", "pairs", "line", "column"] (defScope s_weighted_matrix) _ _ = true; decide +kernel)) (by exact (iterR1_p (T.free fi_range) (var 0))) (tgB 2 sn) (fun b line => (by exact (dl (dlc sn rfl (lc0 (f := (fun (column : Int) => (m_weighted_sum pairs line column))) [("column", 3)] (blk_ok (by kernel_rfl)) (by exact (iterR1_p (T.free fi_range) (var 0))) (tgB 3 sn) (fun b column => (by exact (callP F_weighted_sum (hr.mono (by decide)) lets0 (argC_pp (var 1) (argC_pp (var 2) (arg1 (var 3)))))))))))))))
theorem ok_weighted_matrix (T : Gl0 K mg base) : FnI P w K mg base "weighted_matrix" 2 ["size", "pairs"] (aCons cI (aOne (cT (cP (aCons (cT cI) (aOne cI)))))) (cL (cL cI)) (fun z => m_weighted_matrix z.1 z.2) := by
  obtain ⟨fd, D⟩ := T.c.def_ di_weighted_matrix (d := d_weighted_matrix) rfl
  exact fni (fn_weighted_matrix T D) (T.glo gi_weighted_matrix) D.kp (D.bindsN fun _ _ _ _ _ _ us hl => match us, hl with | [_, _], _ => rfl)

theorem sc_RowList_init : FnScope ["self", "size", "pairs", "bottom", "passed", "weights", "least_bottom", "pair", "weight"] ["self", "size", "pairs", "bottom"] (defScope s_RowList_init) := ⟨rfl, rfl, rfl, by decide +kernel, rfl, by decide +kernel, by decide +kernel⟩
theorem fn_RowList_init_i_LHLiie_i (T : Gl0 K mg base) {fd : FuncData} (D : FunD K d_RowList_init.name d_RowList_init.qual d_RowList_init.params d_RowList_init.body d_RowList_init.scope (d_RowList_init.dvs K) (d_RowList_init.kws K) (d_RowList_init.at_ K) fd) : FnOk P w K mg base (L2N.CX P w) 6 (d_RowList_init.at_ K) fd ["self", "size", "pairs", "bottom"] (spI "RowList" K (aApp (aCons cI (aOne (cL (cH (aCons (cL cI) (aOne cI)))))) (aOne cI)) ns_RowList ca_RowList (fun z => m_RowList_init_i_LHLiie_i z.1.1 z.1.2 z.2)) := by
  have F_Form_init := ok_Form_init (P := P) (w := w) T
  have F_check_pairs_i_TPTiie := ok_check_pairs_i_TPTiie (P := P) (w := w) T
  have F_frozen_LHLiie := ok_frozen_LHLiie (P := P) (w := w) T
  have F_lowered := ok_lowered (P := P) (w := w) T
  have F_weighted_matrix := ok_weighted_matrix (P := P) (w := w) T
  have sn := sc_RowList_init.nd
  refine fn_mkI (κ := Empty) (eN := fun xX a => [.ow T_RowList (oI xX "RowList" ns_RowList ca_RowList) a, .none, .none, .none, .none, .none, .none, .none, .none]) (eK := fun _ => []) D sc_RowList_init rfl (by decide) (fun _ _ => rfl) (fun cdv A outer s H E hr hp hw xX z => ?_)
  obtain ⟨⟨size, pairs⟩, bottom⟩ := z
  show DS _ _ false [.ow Unit (oI xX "RowList" ns_RowList_0 ca_RowList_0) (()), .st Int cI size, .st (List ((List Int) × Int)) (cL (cH (aCons (cL cI) (aOne cI)))) pairs, .st Int cI bottom, .none, .none, .none, .none, .none] _ _ _ _ (fun b => (.nxt b : Out Unit T_RowList Empty)) (m_RowList_init_i_LHLiie_i size pairs bottom)
  unfold m_RowList_init_i_LHLiie_i
  refine asg (c := (cT (cP (aCons (cT cI) (aOne cI))))) 4 sn (by exact (callP F_frozen_LHLiie (hr.mono (by decide)) hp (arg1 (var 2)))) fun passed => ?_
  refine drop (by exact (callP F_check_pairs_i_TPTiie (hr.mono (by decide)) hp (argC_pp (var 1) (arg1 (var 4))))) fun _ => ?_
  refine asgT (c := (cP (aCons (cT cI) (aOne cI)))) (by exact (call F_lowered (hr.mono (by decide)) hp (argC_mp (dl (dlc sn rfl (lc0 (f := (fun (pair : ((List Int) × Int)) => R.ok pair.2)) [("pair", 7)] (blk_ok (by show blkB ["self", "size", "pairs", "bottom", "passed", "weights", "least_bottom", "pair", "weight"] (defScope s_RowList_init) _ _ = true; decide +kernel)) (by exact (iterT (var 4))) (tgB 7 sn) (fun b pair => (by exact (ix_1_2p (var 7))))))) (arg1 (var 3))))) (tgTup (fun _ => rfl) (tgsCons (tgName 5 (fun _ => sn)) (tgsOne (tgName 6 (fun _ => sn))))) fun p2 => ?_
  refine fldS (c := cI) 0 (by exact (var 1)) (fun f3 => ?_) (T.cls gf_cls_RowList) (T.noat gf_noat_RowList_size)
  refine fldS (c := (cT (cP (aCons (cT cI) (aOne cI))))) 0 (by exact (toT (T.free fi_tuple) (dl (dlc sn rfl (lc0 (f := (fun (p6 : (((List Int) × Int) × Int)) => R.ok (p6.1.1, p6.2))) [("pair", 7), ("weight", 8)] (blk_ok (by show blkB ["self", "size", "pairs", "bottom", "passed", "weights", "least_bottom", "pair", "weight"] (defScope s_RowList_init) _ _ = true; decide +kernel)) (by exact (iterZip (T.free fi_zip) (var 4) (var 5))) (dgbF (tgTup (fun _ => rfl) (tgsCons (tgName 7 (fun _ => sn)) (tgsOne (tgName 8 (fun _ => sn)))))) (fun b p6 => (by exact (tupP (argC_pp (ix_0_2p (var 7)) (arg1 (var 8))))))))))) (fun f7 => ?_) (T.cls gf_cls_RowList) (T.noat gf_noat_RowList_pairs)
  refine fldS (c := cI) 0 (by exact (var 6)) (fun f8 => ?_) (T.cls gf_cls_RowList) (T.noat gf_noat_RowList_bottom)
  refine fldS (c := c_Form) 0 (by exact (by refine mk_new F_Form_init (hr.mono (by decide)) hp ?_ ?_; exact (arg1 (callP F_weighted_matrix (hr.mono (by decide)) hp (argC_pp (var 1) (arg1 (fldO (cn := "RowList") (ns := ns_RowList_3) (r := ca_RowList_3) (a := ((((), f3), f7), f8)) (pr := fun a => a.1.2) 0 (fPrev fLast) (T.cls gf_cls_RowList) (T.noat gf_noat_RowList_pairs)))))); exact (dk1 (var 6)))) (fun f11 => ?_) (T.cls gf_cls_RowList) (T.noat gf_noat_RowList_form)
  exact (nil rfl (leS (leN (leN (leN (leN (leN (leN (leN (leN leZ))))))))))
theorem ok_RowList_init_i_LHLiie_i (T : Gl0 K mg base) : ClI P w K mg base "RowList" 6 2 ["bottom"] (aCons cI (aOne (cL (cH (aCons (cL cI) (aOne cI)))))) (aOne cI) ns_RowList ca_RowList (fun z => m_RowList_init_i_LHLiie_i z.1.1 z.1.2 z.2) := by
  obtain ⟨fd, D⟩ := T.c.def_ di_RowList_init (d := d_RowList_init) rfl
  obtain ⟨mv, hb⟩ := FunD.kbinds0 (ps := ["self", "size", "pairs", "bottom"]) D 3 ["bottom"] [] (fun vs mz zs => vs ++ zs) (fun h => nomatch h) (fun q hq => nomatch hq) (fun r1 _ r3 => r1.append r3) (fun _ _ _ _ _ _ us mv ws h1 h2 h3 => match us, h1, mv, h2, ws, h3 with | [_, _, _], _, [], _, [_], _ => rfl)
  exact ⟨_, fd, _, _, fn_RowList_init_i_LHLiie_i T D, (T.glo gi_RowList), (T.mkr gf_mkr_RowList), hb, rfl, rfl⟩
theorem okd_RowList_init_i_LHLiie_i (T : Gl0 K mg base) : ClD P w K mg base "RowList" 6 (aCons cI (aOne (cL (cH (aCons (cL cI) (aOne cI)))))) (aOne cI) (1 : Int) ns_RowList ca_RowList (fun z => m_RowList_init_i_LHLiie_i z.1.1 z.1.2 z.2) := by
  obtain ⟨fd, D⟩ := T.c.def_ di_RowList_init (d := d_RowList_init) rfl
  obtain ⟨dsv, hv, hb⟩ := FunD.binds0 (ps := ["self", "size", "pairs", "bottom"]) D 3 (fun h => nomatch h) rfl (fun _ _ _ _ _ _ us ks h1 h2 => match us, h1, ks, h2 with | [_, _, _], _, [_], _ => ⟨_, _, _, _, _, _, rfl, rfl, rfl⟩)
  exact ⟨_, fd, _, dsv, [.int 1], fn_RowList_init_i_LHLiie_i T D, (T.glo gi_RowList), (T.mkr gf_mkr_RowList), hb, hv, fun _ => ⟨_, rfl, rfl⟩⟩

theorem fn_frozen_numbers_Ti (T : Gl0 K mg base) {fd : FuncData} (D : FunD K d_frozen_numbers.name d_frozen_numbers.qual d_frozen_numbers.params d_frozen_numbers.body d_frozen_numbers.scope (d_frozen_numbers.dvs K) (d_frozen_numbers.kws K) (d_frozen_numbers.at_ K) fd) : FnOk P w K mg base (L2N.CX P w) 1 (d_frozen_numbers.at_ K) fd ["value"] (spF K (aOne (cT cI)) (cT cI) m_frozen_numbers_Ti) := by
  have sn := sc_frozen_numbers.nd
  refine fn_mk (ν := Empty) (κ := Empty) (eN := fun _ => []) (eK := fun _ => []) D sc_frozen_numbers rfl (by decide) (fun cdv A outer s H E hr hp hw z => ?_)
  revert z; intro value
  show DS _ _ true [.st (List Int) (cT cI) value] _ _ _ _ (fun b => (.ret b : Out (List Int) Empty Empty)) (m_frozen_numbers_Ti value)
  unfold m_frozen_numbers_Ti
  refine ifYes (by exact (val (isSq_p (T.free fi_isinstance) (T.free fi_list) (T.free fi_tuple) (var 0)))) ?_
  refine retF ?_
  exact (toT (T.free fi_tuple) (var 0))
theorem ok_frozen_numbers_Ti (T : Gl0 K mg base) : FnI P w K mg base "frozen_numbers" 1 ["value"] (aOne (cT cI)) (cT cI) m_frozen_numbers_Ti := by
  obtain ⟨fd, D⟩ := T.c.def_ di_frozen_numbers (d := d_frozen_numbers) rfl
  exact fni (fn_frozen_numbers_Ti T D) (T.glo gi_frozen_numbers) D.kp (D.bindsN fun _ _ _ _ _ _ us hl => match us, hl with | [_], _ => rfl)

theorem fn_frozen_part_PTiie (T : Gl0 K mg base) {fd : FuncData} (D : FunD K d_frozen_part.name d_frozen_part.qual d_frozen_part.params d_frozen_part.body d_frozen_part.scope (d_frozen_part.dvs K) (d_frozen_part.kws K) (d_frozen_part.at_ K) fd) : FnOk P w K mg base (L2N.CX P w) 2 (d_frozen_part.at_ K) fd ["value"] (spF K (aOne (cP (aCons (cT cI) (aOne cI)))) (cP (aCons (cT cI) (aOne cI))) m_frozen_part_PTiie) := by
  have F_frozen_numbers_Ti := ok_frozen_numbers_Ti (P := P) (w := w) T
  have F_frozen_numbers_i := ok_frozen_numbers_i (P := P) (w := w) T
  have sn := sc_frozen_part.nd
  refine fn_mk (ν := Empty) (κ := Empty) (eN := fun _ => []) (eK := fun _ => []) D sc_frozen_part rfl (by decide) (fun cdv A outer s H E hr hp hw z => ?_)
  revert z; intro value
  show DS _ _ true [.st ((List Int) × Int) (cP (aCons (cT cI) (aOne cI))) value, .none] _ _ _ _ (fun b => (.ret b : Out ((List Int) × Int) Empty Empty)) (m_frozen_part_PTiie value)
  unfold m_frozen_part_PTiie
  refine ifYes (by exact (val (isSq_p (T.free fi_isinstance) (T.free fi_list) (T.free fi_tuple) (var 0)))) ?_
  refine retF ?_
  exact (toTH (T.free fi_tuple) (downH (pkCons (pkL pkId) (pkOne (pkR pkId))) (nxCons (nxL nxId) (nxOne (nxR nxId))) (dl (dlc sn rfl (lc0 (f := (fun (part : ((List Int) ⊕ Int)) => (onU part (fun (u1 : (List Int)) => ((m_frozen_numbers_Ti u1) >>= fun z => R.ok ((Sum.inl z)))) (fun (u2 : Int) => ((m_frozen_numbers_i u2) >>= fun z => R.ok ((Sum.inr z))))))) [("part", 1)] (blk_ok (by show blkB ["value", "part"] (defScope s_frozen_part) _ _ = true; decide +kernel)) (by exact (iterT (coe_p (f := fun (z : ((List Int) × Int)) => [(Sum.inl z.1), (Sum.inr z.2)]) (x := value) (cPT (auCc (cInl cId) (au1c (cInr cId)))) (var 0)))) (tgB 1 sn) (fun b part => (by exact (caseU 1 (fun u1 => (by exact (by refine coe (c := (cT cI)) (c2 := (cU (cT cI) cI)) (f := (fun (z : (List Int)) => (Sum.inl z))) (cInl cId) ?_; exact (callP F_frozen_numbers_Ti (hr.mono (by decide)) lets0 (arg1 (var 1)))))) (fun u2 => (by exact (by refine coe (c := cI) (c2 := (cU (cT cI) cI)) (f := (fun (z : Int) => (Sum.inr z))) (cInr cId) ?_; exact (callP F_frozen_numbers_i (hr.mono (by decide)) lets0 (arg1 (var 1))))))))))))))
theorem ok_frozen_part_PTiie (T : Gl0 K mg base) : FnI P w K mg base "frozen_part" 2 ["value"] (aOne (cP (aCons (cT cI) (aOne cI)))) (cP (aCons (cT cI) (aOne cI))) m_frozen_part_PTiie := by
  obtain ⟨fd, D⟩ := T.c.def_ di_frozen_part (d := d_frozen_part) rfl
  exact fni (fn_frozen_part_PTiie T D) (T.glo gi_frozen_part) D.kp (D.bindsN fun _ _ _ _ _ _ us hl => match us, hl with | [_], _ => rfl)

theorem fn_frozen_LPTiie (T : Gl0 K mg base) {fd : FuncData} (D : FunD K d_frozen.name d_frozen.qual d_frozen.params d_frozen.body d_frozen.scope (d_frozen.dvs K) (d_frozen.kws K) (d_frozen.at_ K) fd) : FnOk P w K mg base (L2N.CX P w) 3 (d_frozen.at_ K) fd ["value"] (spF K (aOne (cL (cP (aCons (cT cI) (aOne cI))))) (cT (cP (aCons (cT cI) (aOne cI)))) m_frozen_LPTiie) := by
  have F_frozen_part_PTiie := ok_frozen_part_PTiie (P := P) (w := w) T
  have sn := sc_frozen.nd
  refine fn_mk (ν := Empty) (κ := Empty) (eN := fun _ => []) (eK := fun _ => []) D sc_frozen rfl (by decide) (fun cdv A outer s H E hr hp hw z => ?_)
  revert z; intro value
  show DS _ _ true [.st (List ((List Int) × Int)) (cL (cP (aCons (cT cI) (aOne cI)))) value, .none] _ _ _ _ (fun b => (.ret b : Out (List ((List Int) × Int)) Empty Empty)) (m_frozen_LPTiie value)
  unfold m_frozen_LPTiie
  refine ifYes (by exact (val (isSq_p (T.free fi_isinstance) (T.free fi_list) (T.free fi_tuple) (var 0)))) ?_
  refine retF ?_
  exact (toT (T.free fi_tuple) (dl (dlc sn rfl (lc0 (f := (fun (part : ((List Int) × Int)) => (m_frozen_part_PTiie part))) [("part", 1)] (blk_ok (by show blkB ["value", "part"] (defScope s_frozen) _ _ = true; decide +kernel)) (by exact (iterL (var 0))) (tgB 1 sn) (fun b part => (by exact (callP F_frozen_part_PTiie (hr.mono (by decide)) lets0 (arg1 (var 1)))))))))
theorem ok_frozen_LPTiie (T : Gl0 K mg base) : FnI P w K mg base "frozen" 3 ["value"] (aOne (cL (cP (aCons (cT cI) (aOne cI))))) (cT (cP (aCons (cT cI) (aOne cI)))) m_frozen_LPTiie := by
  obtain ⟨fd, D⟩ := T.c.def_ di_frozen (d := d_frozen) rfl
  exact fni (fn_frozen_LPTiie T D) (T.glo gi_frozen) D.kp (D.bindsN fun _ _ _ _ _ _ us hl => match us, hl with | [_], _ => rfl)

theorem fn_RowList_init_i_LPTiie_i (T : Gl0 K mg base) {fd : FuncData} (D : FunD K d_RowList_init.name d_RowList_init.qual d_RowList_init.params d_RowList_init.body d_RowList_init.scope (d_RowList_init.dvs K) (d_RowList_init.kws K) (d_RowList_init.at_ K) fd) : FnOk P w K mg base (L2N.CX P w) 6 (d_RowList_init.at_ K) fd ["self", "size", "pairs", "bottom"] (spI "RowList" K (aApp (aCons cI (aOne (cL (cP (aCons (cT cI) (aOne cI)))))) (aOne cI)) ns_RowList ca_RowList (fun z => m_RowList_init_i_LPTiie_i z.1.1 z.1.2 z.2)) := by
  have F_Form_init := ok_Form_init (P := P) (w := w) T
  have F_check_pairs_i_TPTiie := ok_check_pairs_i_TPTiie (P := P) (w := w) T
  have F_frozen_LPTiie := ok_frozen_LPTiie (P := P) (w := w) T
  have F_lowered := ok_lowered (P := P) (w := w) T
  have F_weighted_matrix := ok_weighted_matrix (P := P) (w := w) T
  have sn := sc_RowList_init.nd
  refine fn_mkI (κ := Empty) (eN := fun xX a => [.ow T_RowList (oI xX "RowList" ns_RowList ca_RowList) a, .none, .none, .none, .none, .none, .none, .none, .none]) (eK := fun _ => []) D sc_RowList_init rfl (by decide) (fun _ _ => rfl) (fun cdv A outer s H E hr hp hw xX z => ?_)
  obtain ⟨⟨size, pairs⟩, bottom⟩ := z
  show DS _ _ false [.ow Unit (oI xX "RowList" ns_RowList_0 ca_RowList_0) (()), .st Int cI size, .st (List ((List Int) × Int)) (cL (cP (aCons (cT cI) (aOne cI)))) pairs, .st Int cI bottom, .none, .none, .none, .none, .none] _ _ _ _ (fun b => (.nxt b : Out Unit T_RowList Empty)) (m_RowList_init_i_LPTiie_i size pairs bottom)
  unfold m_RowList_init_i_LPTiie_i
  refine asg (c := (cT (cP (aCons (cT cI) (aOne cI))))) 4 sn (by exact (callP F_frozen_LPTiie (hr.mono (by decide)) hp (arg1 (var 2)))) fun passed => ?_
  refine drop (by exact (callP F_check_pairs_i_TPTiie (hr.mono (by decide)) hp (argC_pp (var 1) (arg1 (var 4))))) fun _ => ?_
  refine asgT (c := (cP (aCons (cT cI) (aOne cI)))) (by exact (call F_lowered (hr.mono (by decide)) hp (argC_mp (dl (dlc sn rfl (lc0 (f := (fun (pair : ((List Int) × Int)) => R.ok pair.2)) [("pair", 7)] (blk_ok (by show blkB ["self", "size", "pairs", "bottom", "passed", "weights", "least_bottom", "pair", "weight"] (defScope s_RowList_init) _ _ = true; decide +kernel)) (by exact (iterT (var 4))) (tgB 7 sn) (fun b pair => (by exact (ix_1_2p (var 7))))))) (arg1 (var 3))))) (tgTup (fun _ => rfl) (tgsCons (tgName 5 (fun _ => sn)) (tgsOne (tgName 6 (fun _ => sn))))) fun p2 => ?_
  refine fldS (c := cI) 0 (by exact (var 1)) (fun f3 => ?_) (T.cls gf_cls_RowList) (T.noat gf_noat_RowList_size)
  refine fldS (c := (cT (cP (aCons (cT cI) (aOne cI))))) 0 (by exact (toT (T.free fi_tuple) (dl (dlc sn rfl (lc0 (f := (fun (p6 : (((List Int) × Int) × Int)) => R.ok (p6.1.1, p6.2))) [("pair", 7), ("weight", 8)] (blk_ok (by show blkB ["self", "size", "pairs", "bottom", "passed", "weights", "least_bottom", "pair", "weight"] (defScope s_RowList_init) _ _ = true; decide +kernel)) (by exact (iterZip (T.free fi_zip) (var 4) (var 5))) (dgbF (tgTup (fun _ => rfl) (tgsCons (tgName 7 (fun _ => sn)) (tgsOne (tgName 8 (fun _ => sn)))))) (fun b p6 => (by exact (tupP (argC_pp (ix_0_2p (var 7)) (arg1 (var 8))))))))))) (fun f7 => ?_) (T.cls gf_cls_RowList) (T.noat gf_noat_RowList_pairs)
  refine fldS (c := cI) 0 (by exact (var 6)) (fun f8 => ?_) (T.cls gf_cls_RowList) (T.noat gf_noat_RowList_bottom)
  refine fldS (c := c_Form) 0 (by exact (by refine mk_new F_Form_init (hr.mono (by decide)) hp ?_ ?_; exact (arg1 (callP F_weighted_matrix (hr.mono (by decide)) hp (argC_pp (var 1) (arg1 (fldO (cn := "RowList") (ns := ns_RowList_3) (r := ca_RowList_3) (a := ((((), f3), f7), f8)) (pr := fun a => a.1.2) 0 (fPrev fLast) (T.cls gf_cls_RowList) (T.noat gf_noat_RowList_pairs)))))); exact (dk1 (var 6)))) (fun f11 => ?_) (T.cls gf_cls_RowList) (T.noat gf_noat_RowList_form)
  exact (nil rfl (leS (leN (leN (leN (leN (leN (leN (leN (leN leZ))))))))))
theorem ok_RowList_init_i_LPTiie_i (T : Gl0 K mg base) : ClI P w K mg base "RowList" 6 2 ["bottom"] (aCons cI (aOne (cL (cP (aCons (cT cI) (aOne cI)))))) (aOne cI) ns_RowList ca_RowList (fun z => m_RowList_init_i_LPTiie_i z.1.1 z.1.2 z.2) := by
  obtain ⟨fd, D⟩ := T.c.def_ di_RowList_init (d := d_RowList_init) rfl
  obtain ⟨mv, hb⟩ := FunD.kbinds0 (ps := ["self", "size", "pairs", "bottom"]) D 3 ["bottom"] [] (fun vs mz zs => vs ++ zs) (fun h => nomatch h) (fun q hq => nomatch hq) (fun r1 _ r3 => r1.append r3) (fun _ _ _ _ _ _ us mv ws h1 h2 h3 => match us, h1, mv, h2, ws, h3 with | [_, _, _], _, [], _, [_], _ => rfl)
  exact ⟨_, fd, _, _, fn_RowList_init_i_LPTiie_i T D, (T.glo gi_RowList), (T.mkr gf_mkr_RowList), hb, rfl, rfl⟩
theorem okd_RowList_init_i_LPTiie_i (T : Gl0 K mg base) : ClD P w K mg base "RowList" 6 (aCons cI (aOne (cL (cP (aCons (cT cI) (aOne cI)))))) (aOne cI) (1 : Int) ns_RowList ca_RowList (fun z => m_RowList_init_i_LPTiie_i z.1.1 z.1.2 z.2) := by
  obtain ⟨fd, D⟩ := T.c.def_ di_RowList_init (d := d_RowList_init) rfl
  obtain ⟨dsv, hv, hb⟩ := FunD.binds0 (ps := ["self", "size", "pairs", "bottom"]) D 3 (fun h => nomatch h) rfl (fun _ _ _ _ _ _ us ks h1 h2 => match us, h1, ks, h2 with | [_, _, _], _, [_], _ => ⟨_, _, _, _, _, _, rfl, rfl, rfl⟩)
  exact ⟨_, fd, _, dsv, [.int 1], fn_RowList_init_i_LPTiie_i T D, (T.glo gi_RowList), (T.mkr gf_mkr_RowList), hb, hv, fun _ => ⟨_, rfl, rfl⟩⟩

theorem sc_law_whole : FnScope ["value"] ["value"] (defScope s__law_whole) := ⟨rfl, rfl, rfl, by decide +kernel, rfl, by decide +kernel, by decide +kernel⟩
theorem fn_law_whole (T : Gl0 K mg base) {fd : FuncData} (D : FunD K d__law_whole.name d__law_whole.qual d__law_whole.params d__law_whole.body d__law_whole.scope (d__law_whole.dvs K) (d__law_whole.kws K) (d__law_whole.at_ K) fd) : FnOk P w K mg base (L2N.CX P w) 1 (d__law_whole.at_ K) fd ["value"] (spF K (aOne cI) cB m_law_whole) := by
  have sn := sc_law_whole.nd
  refine fn_mk (ν := Empty) (κ := Empty) (eN := fun _ => []) (eK := fun _ => []) D sc_law_whole rfl (by decide) (fun cdv A outer s H E hr hp hw z => ?_)
  revert z; intro value
  show DS _ _ true [.st Int cI value] _ _ _ _ (fun b => (.ret b : Out Bool Empty Empty)) (m_law_whole value)
  unfold m_law_whole
  refine retF ?_
  exact (andV_q (isi_p (n := "int") (T := "int") (k := true) (by decide +kernel) (by decide +kernel) (T.free fi_isinstance) (T.free fi_int) (var 0)) (and1V (notV_p (isi_p (n := "int") (T := "bool") (k := false) (by decide +kernel) (by decide +kernel) (T.free fi_isinstance) (T.free fi_bool) (var 0)))))
theorem ok_law_whole (T : Gl0 K mg base) : FnI P w K mg base "_law_whole" 1 ["value"] (aOne cI) cB m_law_whole := by
  obtain ⟨fd, D⟩ := T.c.def_ di__law_whole (d := d__law_whole) rfl
  exact fni (fn_law_whole T D) (T.glo gi__law_whole) D.kp (D.bindsN fun _ _ _ _ _ _ us hl => match us, hl with | [_], _ => rfl)

theorem sc_law_is_point : FnScope ["value", "size", "number"] ["value", "size"] (defScope s__law_is_point) := ⟨rfl, rfl, rfl, by decide +kernel, rfl, by decide +kernel, by decide +kernel⟩
theorem fn_law_is_point (T : Gl0 K mg base) {fd : FuncData} (D : FunD K d__law_is_point.name d__law_is_point.qual d__law_is_point.params d__law_is_point.body d__law_is_point.scope (d__law_is_point.dvs K) (d__law_is_point.kws K) (d__law_is_point.at_ K) fd) : FnOk P w K mg base (L2N.CX P w) 2 (d__law_is_point.at_ K) fd ["value", "size"] (spF K (aCons (cT cI) (aOne cI)) cB (fun z => m_law_is_point z.1 z.2)) := by
  have F_law_whole := ok_law_whole (P := P) (w := w) T
  have sn := sc_law_is_point.nd
  refine fn_mk (ν := Empty) (κ := Empty) (eN := fun _ => []) (eK := fun _ => []) D sc_law_is_point rfl (by decide) (fun cdv A outer s H E hr hp hw z => ?_)
  obtain ⟨value, size⟩ := z
  show DS _ _ true [.st (List Int) (cT cI) value, .st Int cI size, .none] _ _ _ _ (fun b => (.ret b : Out Bool Empty Empty)) (m_law_is_point value size)
  unfold m_law_is_point
  refine retF ?_
  exact (andV_p (isi_p (n := "tuple") (T := "tuple") (k := true) (by decide +kernel) (by decide +kernel) (T.free fi_isinstance) (T.free fi_tuple) (var 0)) (andV_p (eqI_pp (lenT_p (T.free fi_len) (var 0)) (var 1)) (and1V (allL (T.free fi_all) (dl (dlc sn rfl (lc0 (f := (fun (number : Int) => (m_law_whole number))) [("number", 2)] (blk_ok (by show blkB ["value", "size", "number"] (defScope s__law_is_point) _ _ = true; decide +kernel)) (by exact (iterT (var 0))) (tgB 2 sn) (fun b number => (by exact (callP F_law_whole (hr.mono (by decide)) lets0 (arg1 (var 2))))))))))))
theorem ok_law_is_point (T : Gl0 K mg base) : FnI P w K mg base "_law_is_point" 2 ["value", "size"] (aCons (cT cI) (aOne cI)) cB (fun z => m_law_is_point z.1 z.2) := by
  obtain ⟨fd, D⟩ := T.c.def_ di__law_is_point (d := d__law_is_point) rfl
  exact fni (fn_law_is_point T D) (T.glo gi__law_is_point) D.kp (D.bindsN fun _ _ _ _ _ _ us hl => match us, hl with | [_, _], _ => rfl)

theorem sc_law_gcd : FnScope ["one", "two", "turn", "rest"] ["one", "two"] (defScope s__law_gcd) := ⟨rfl, rfl, rfl, by decide +kernel, rfl, by decide +kernel, by decide +kernel⟩
theorem fn_law_gcd (T : Gl0 K mg base) {fd : FuncData} (D : FunD K d__law_gcd.name d__law_gcd.qual d__law_gcd.params d__law_gcd.body d__law_gcd.scope (d__law_gcd.dvs K) (d__law_gcd.kws K) (d__law_gcd.at_ K) fd) : FnOk P w K mg base (L2N.CX P w) 1 (d__law_gcd.at_ K) fd ["one", "two"] (spF K (aCons cI (aOne cI)) cI (fun z => m_law_gcd z.1 z.2)) := by
  have sn := sc_law_gcd.nd
  refine fn_mk (ν := Empty) (κ := Empty) (eN := fun _ => []) (eK := fun _ => []) D sc_law_gcd rfl (by decide) (fun cdv A outer s H E hr hp hw z => ?_)
  obtain ⟨one, two⟩ := z
  show DS _ _ true [.st Int cI one, .st Int cI two, .none, .none] _ _ _ _ (fun b => (.ret b : Out Int Empty Empty)) (m_law_gcd one two)
  unfold m_law_gcd
  refine asg (c := cI) 0 sn (by exact (absI_p (T.free fi_abs) (var 0))) fun one => ?_
  refine asg (c := cI) 1 sn (by exact (absI_p (T.free fi_abs) (var 1))) fun two => ?_
  refine forB (eL := fun (s1 : (Int × Int)) => [.st Int cI s1.1, .st Int cI s1.2, .none, .none]) (step := m_law_gcd_b1) rfl hw (by exact (iterR1_p (T.free fi_range) int)) (tgN 2 sn) (leS (leS (leN (leN leZ)))) (fun s1 turn => ?_) fun s2 => ?_
  · unfold m_law_gcd_b1
    refine ifA_p (by exact (eqIT_pp (var 1) int)) ?_ ?_
    · exact (brk (leS (leS (leN (leN leZ)))) rfl)
    refine asg (c := cI) 3 sn (by exact (mod_pp (intI_p (T.free fi_int) (var 0)) (var 1))) fun rest => ?_
    refine asg (c := cI) 0 sn (by exact (var 1)) fun one => ?_
    refine asg (c := cI) 1 sn (by exact (var 3)) fun two => ?_
    exact (nil rfl (leS (leS (leN (leN leZ)))))
  refine retF ?_
  exact (var 0)
theorem ok_law_gcd (T : Gl0 K mg base) : FnI P w K mg base "_law_gcd" 1 ["one", "two"] (aCons cI (aOne cI)) cI (fun z => m_law_gcd z.1 z.2) := by
  obtain ⟨fd, D⟩ := T.c.def_ di__law_gcd (d := d__law_gcd) rfl
  exact fni (fn_law_gcd T D) (T.glo gi__law_gcd) D.kp (D.bindsN fun _ _ _ _ _ _ us hl => match us, hl with | [_, _], _ => rfl)

theorem sc_law_is_form : FnScope ["found", "size", "shared", "line", "number"] ["found", "size"] (defScope s__law_is_form) := ⟨rfl, rfl, rfl, by decide +kernel, rfl, by decide +kernel, by decide +kernel⟩
theorem fn_law_is_form (T : Gl0 K mg base) {fd : FuncData} (D : FunD K d__law_is_form.name d__law_is_form.qual d__law_is_form.params d__law_is_form.body d__law_is_form.scope (d__law_is_form.dvs K) (d__law_is_form.kws K) (d__law_is_form.at_ K) fd) : FnOk P w K mg base (L2N.CX P w) 3 (d__law_is_form.at_ K) fd ["found", "size"] (spF K (aCons c_Form (aOne cI)) cB (fun z => m_law_is_form z.1 z.2)) := by
  have F_law_gcd := ok_law_gcd (P := P) (w := w) T
  have F_law_is_point := ok_law_is_point (P := P) (w := w) T
  have F_law_whole := ok_law_whole (P := P) (w := w) T
  have sn := sc_law_is_form.nd
  refine fn_mk (ν := Empty) (κ := Empty) (eN := fun _ => []) (eK := fun _ => []) D sc_law_is_form rfl (by decide) (fun cdv A outer s H E hr hp hw z => ?_)
  obtain ⟨found, size⟩ := z
  show DS _ _ true [.st T_Form c_Form found, .st Int cI size, .none, .none, .none] _ _ _ _ (fun b => (.ret b : Out Bool Empty Empty)) (m_law_is_form found size)
  unfold m_law_is_form
  refine ifA (by exact (dt_dw (orW_p (notT_p (val (isIns (T.more gm_ins_Form_Form) (T.glo gi_Form) (T.free fi_isinstance) (var 0)))) (orW (notT (val (callP F_law_whole (hr.mono (by decide)) hp (arg1 (fld_p (cn := "Form") (ns := ns_Form) (r := ca_Form) (a := found) (pr := fun a => a.1.1.2) (var 0) (f_Form_size)  (T.cls gf_cls_Form) (T.noat gf_noat_Form_size)))))) (or1 (neIT_pp (fld_p (cn := "Form") (ns := ns_Form) (r := ca_Form) (a := found) (pr := fun a => a.1.1.2) (var 0) (f_Form_size)  (T.cls gf_cls_Form) (T.noat gf_noat_Form_size)) (var 1))))))) ?_ ?_
  · refine retF ?_
    exact bool
  refine ifA (by exact (dt_dw (orW (notT (val (callP F_law_whole (hr.mono (by decide)) hp (arg1 (fld_p (cn := "Form") (ns := ns_Form) (r := ca_Form) (a := found) (pr := fun a => a.2) (var 0) (f_Form_bottom)  (T.cls gf_cls_Form) (T.noat gf_noat_Form_bottom)))))) (or1 (ltT_pp (fld_p (cn := "Form") (ns := ns_Form) (r := ca_Form) (a := found) (pr := fun a => a.2) (var 0) (f_Form_bottom)  (T.cls gf_cls_Form) (T.noat gf_noat_Form_bottom)) int))))) ?_ ?_
  · refine retF ?_
    exact bool
  refine ifA_p (by exact (dt_dw (orW_q (notT_p (val (isi_p (n := "tuple") (T := "tuple") (k := true) (by decide +kernel) (by decide +kernel) (T.free fi_isinstance) (T.free fi_tuple) (fld_p (cn := "Form") (ns := ns_Form) (r := ca_Form) (a := found) (pr := fun a => a.1.2) (var 0) (f_Form_entries)  (T.cls gf_cls_Form) (T.noat gf_noat_Form_entries))))) (or1 (neIT_pp (lenT_p (T.free fi_len) (fld_p (cn := "Form") (ns := ns_Form) (r := ca_Form) (a := found) (pr := fun a => a.1.2) (var 0) (f_Form_entries)  (T.cls gf_cls_Form) (T.noat gf_noat_Form_entries))) (var 1)))))) ?_ ?_
  · refine retF ?_
    exact bool
  refine asg (c := cI) 2 sn (by exact (fld_p (cn := "Form") (ns := ns_Form) (r := ca_Form) (a := found) (pr := fun a => a.2) (var 0) (f_Form_bottom)  (T.cls gf_cls_Form) (T.noat gf_noat_Form_bottom))) fun shared => ?_
  refine forO (eL := fun (s3 : Int) => [.st T_Form c_Form found, .st Int cI size, .st Int cI s3, .none, .none]) (step := (m_law_is_form_b2 size)) rfl hw (by exact (iterT (fld_p (cn := "Form") (ns := ns_Form) (r := ca_Form) (a := found) (pr := fun a => a.1.2) (var 0) (f_Form_entries)  (T.cls gf_cls_Form) (T.noat gf_noat_Form_entries)))) (tgN 3 sn) (leS (leS (leS (leN (leN leZ))))) (fun s3 line => ?_) (fun s7 => ?_)
  · unfold m_law_is_form_b2
    refine ifA (by exact (notT (val (callP F_law_is_point (hr.mono (by decide)) hp (argC_pp (var 3) (arg1 (var 1))))))) ?_ ?_
    · refine retO ?_ rfl
      exact bool
    refine forF (eL := fun (s4 : Int) => [.st T_Form c_Form found, .st Int cI size, .st Int cI s4, .st (List Int) (cT cI) line, .none]) (step := m_law_is_form_b1) rfl hw (by exact (iterT (var 3))) (tgN 4 sn) (leS (leS (leS (leS (leN leZ))))) (fun s4 number => ?_) fun s5 => ?_
    · unfold m_law_is_form_b1
      refine if2_p (by exact (neIT_pp (var 2) int)) ?_ ?_
      · refine asg (c := cI) 2 sn (by exact (callP F_law_gcd (hr.mono (by decide)) hp (argC_pp (var 2) (arg1 (var 4))))) fun shared => ?_
        exact (nil rfl (leS (leS (leS (leS (leN leZ))))))
      exact (nil rfl (leS (leS (leS (leS (leN leZ))))))
    exact (nil rfl (leS (leS (leS (leN (leN leZ))))))
  refine retF ?_
  exact (eqI_pp (var 2) int)
theorem ok_law_is_form (T : Gl0 K mg base) : FnI P w K mg base "_law_is_form" 3 ["found", "size"] (aCons c_Form (aOne cI)) cB (fun z => m_law_is_form z.1 z.2) := by
  obtain ⟨fd, D⟩ := T.c.def_ di__law_is_form (d := d__law_is_form) rfl
  exact fni (fn_law_is_form T D) (T.glo gi__law_is_form) D.kp (D.bindsN fun _ _ _ _ _ _ us hl => match us, hl with | [_, _], _ => rfl)

theorem sc_law_form_is : FnScope ["found", "table", "under", "size", "i", "j"] ["found", "table", "under"] (defScope s__law_form_is) := ⟨rfl, rfl, rfl, by decide +kernel, rfl, by decide +kernel, by decide +kernel⟩
theorem fn_law_form_is (T : Gl0 K mg base) {fd : FuncData} (D : FunD K d__law_form_is.name d__law_form_is.qual d__law_form_is.params d__law_form_is.body d__law_form_is.scope (d__law_form_is.dvs K) (d__law_form_is.kws K) (d__law_form_is.at_ K) fd) : FnOk P w K mg base (L2N.CX P w) 4 (d__law_form_is.at_ K) fd ["found", "table", "under"] (spF K (aCons c_Form (aCons (cL (cL cI)) (aOne cI))) cB (fun z => m_law_form_is z.1 z.2.1 z.2.2)) := by
  have F_law_is_form := ok_law_is_form (P := P) (w := w) T
  have sn := sc_law_form_is.nd
  refine fn_mk (ν := Empty) (κ := Empty) (eN := fun _ => []) (eK := fun _ => []) D sc_law_form_is rfl (by decide) (fun cdv A outer s H E hr hp hw z => ?_)
  obtain ⟨found, table, under⟩ := z
  show DS _ _ true [.st T_Form c_Form found, .st (List (List Int)) (cL (cL cI)) table, .st Int cI under, .none, .none, .none] _ _ _ _ (fun b => (.ret b : Out Bool Empty Empty)) (m_law_form_is found table under)
  unfold m_law_form_is
  refine asg (c := cI) 3 sn (by exact (lenL_p (T.free fi_len) (var 1))) fun size => ?_
  refine ifA (by exact (notT (val (callP F_law_is_form (hr.mono (by decide)) hp (argC_pp (var 0) (arg1 (var 3))))))) ?_ ?_
  · refine retF ?_
    exact bool
  refine forO (eL := fun (s1 : Unit) => [.st T_Form c_Form found, .st (List (List Int)) (cL (cL cI)) table, .st Int cI under, .st Int cI size, .none, .none]) (step := (m_law_form_is_b2 found table under size)) rfl hw (by exact (iterR1_p (T.free fi_range) (var 3))) (tgN 4 sn) (leS (leS (leS (leS (leN (leN leZ)))))) (fun s1 i => ?_) (fun s11 => ?_)
  · unfold m_law_form_is_b2
    refine forO (eL := fun (s2 : Unit) => [.st T_Form c_Form found, .st (List (List Int)) (cL (cL cI)) table, .st Int cI under, .st Int cI size, .st Int cI i, .none]) (step := (m_law_form_is_b1 found table under i)) rfl hw (by exact (iterR1_p (T.free fi_range) (var 3))) (tgN 5 sn) (leS (leS (leS (leS (leS (leN leZ)))))) (fun s2 j => ?_) (fun s10 => ?_)
    · unfold m_law_form_is_b1
      refine if2 (by exact (neIT_mm (mul_mp (ixT_mp (ixT_pp (fld_p (cn := "Form") (ns := ns_Form) (r := ca_Form) (a := found) (pr := fun a => a.1.2) (var 0) (f_Form_entries)  (T.cls gf_cls_Form) (T.noat gf_noat_Form_entries)) (var 4)) (var 5)) (var 2)) (mul_mp (ixL_mp (ixL_pp (var 1) (var 4)) (var 5)) (fld_p (cn := "Form") (ns := ns_Form) (r := ca_Form) (a := found) (pr := fun a => a.2) (var 0) (f_Form_bottom)  (T.cls gf_cls_Form) (T.noat gf_noat_Form_bottom))))) ?_ ?_
      · refine retO ?_ rfl
        exact bool
      exact (nil rfl (leS (leS (leS (leS (leS (leN leZ)))))))
    exact (nil rfl (leS (leS (leS (leS (leN (leN leZ)))))))
  refine retF ?_
  exact bool
theorem ok_law_form_is (T : Gl0 K mg base) : FnI P w K mg base "_law_form_is" 4 ["found", "table", "under"] (aCons c_Form (aCons (cL (cL cI)) (aOne cI))) cB (fun z => m_law_form_is z.1 z.2.1 z.2.2) := by
  obtain ⟨fd, D⟩ := T.c.def_ di__law_form_is (d := d__law_form_is) rfl
  exact fni (fn_law_form_is T D) (T.glo gi__law_form_is) D.kp (D.bindsN fun _ _ _ _ _ _ us hl => match us, hl with | [_, _, _], _ => rfl)

theorem sc_law_dot : FnScope ["one", "two", "k"] ["one", "two"] (defScope s__law_dot) := ⟨rfl, rfl, rfl, by decide +kernel, rfl, by decide +kernel, by decide +kernel⟩
theorem fn_law_dot (T : Gl0 K mg base) {fd : FuncData} (D : FunD K d__law_dot.name d__law_dot.qual d__law_dot.params d__law_dot.body d__law_dot.scope (d__law_dot.dvs K) (d__law_dot.kws K) (d__law_dot.at_ K) fd) : FnOk P w K mg base (L2N.CX P w) 1 (d__law_dot.at_ K) fd ["one", "two"] (spF K (aCons (cLT cI) (aOne (cLT cI))) cI (fun z => m_law_dot z.1 z.2)) := by
  have sn := sc_law_dot.nd
  refine fn_mk (ν := Empty) (κ := Empty) (eN := fun _ => []) (eK := fun _ => []) D sc_law_dot rfl (by decide) (fun cdv A outer s H E hr hp hw z => ?_)
  obtain ⟨one, two⟩ := z
  show DS _ _ true [.st (List Int) (cLT cI) one, .st (List Int) (cLT cI) two, .none] _ _ _ _ (fun b => (.ret b : Out Int Empty Empty)) (m_law_dot one two)
  unfold m_law_dot
  refine retF ?_
  exact (sumL (T.free fi_sum) (dl (dlc sn rfl (lc0 (f := (fun (k : Int) => ((getM one k) >>= fun x1 => (getM two k) >>= fun y2 => (mulM x1 y2)))) [("k", 2)] (blk_ok (by show blkB ["one", "two", "k"] (defScope s__law_dot) _ _ = true; decide +kernel)) (by exact (iterR1_p (T.free fi_range) (lenLT_p (T.free fi_len) (var 0)))) (tgB 2 sn) (fun b k => (by exact (mul_mm (ixLT_pp (var 0) (var 2)) (ixLT_pp (var 1) (var 2)))))))))
theorem ok_law_dot (T : Gl0 K mg base) : FnI P w K mg base "_law_dot" 1 ["one", "two"] (aCons (cLT cI) (aOne (cLT cI))) cI (fun z => m_law_dot z.1 z.2) := by
  obtain ⟨fd, D⟩ := T.c.def_ di__law_dot (d := d__law_dot) rfl
  exact fni (fn_law_dot T D) (T.glo gi__law_dot) D.kp (D.bindsN fun _ _ _ _ _ _ us hl => match us, hl with | [_, _], _ => rfl)

theorem sc_law_value : FnScope ["table", "one", "two", "total", "i"] ["table", "one", "two"] (defScope s__law_value) := ⟨rfl, rfl, rfl, by decide +kernel, rfl, by decide +kernel, by decide +kernel⟩
theorem fn_law_value (T : Gl0 K mg base) {fd : FuncData} (D : FunD K d__law_value.name d__law_value.qual d__law_value.params d__law_value.body d__law_value.scope (d__law_value.dvs K) (d__law_value.kws K) (d__law_value.at_ K) fd) : FnOk P w K mg base (L2N.CX P w) 2 (d__law_value.at_ K) fd ["table", "one", "two"] (spF K (aCons (cL (cL cI)) (aCons (cLT cI) (aOne (cLT cI)))) cI (fun z => m_law_value z.1 z.2.1 z.2.2)) := by
  have F_law_dot := ok_law_dot (P := P) (w := w) T
  have sn := sc_law_value.nd
  refine fn_mk (ν := Empty) (κ := Empty) (eN := fun _ => []) (eK := fun _ => []) D sc_law_value rfl (by decide) (fun cdv A outer s H E hr hp hw z => ?_)
  obtain ⟨table, one, two⟩ := z
  show DS _ _ true [.st (List (List Int)) (cL (cL cI)) table, .st (List Int) (cLT cI) one, .st (List Int) (cLT cI) two, .none, .none] _ _ _ _ (fun b => (.ret b : Out Int Empty Empty)) (m_law_value table one two)
  unfold m_law_value
  refine asg (c := cI) 3 sn (by exact int) fun total => ?_
  refine forF (eL := fun (s1 : Int) => [.st (List (List Int)) (cL (cL cI)) table, .st (List Int) (cLT cI) one, .st (List Int) (cLT cI) two, .st Int cI s1, .none]) (step := (m_law_value_b1 table one two)) rfl hw (by exact (iterR1_p (T.free fi_range) (lenL_p (T.free fi_len) (var 0)))) (tgN 4 sn) (leS (leS (leS (leS (leN leZ))))) (fun s1 i => ?_) fun s8 => ?_
  · unfold m_law_value_b1
    refine if2 (by exact (neIT_mp (ixLT_pp (var 1) (var 4)) int)) ?_ ?_
    · refine asg (c := cI) 3 sn (by exact (add_pm (var 3) (mul_mm (ixLT_pp (var 1) (var 4)) (call F_law_dot (hr.mono (by decide)) hp (argC_mp (coeI (cL_LT cId) (ixL_pp (var 0) (var 4))) (arg1 (var 2))))))) fun total => ?_
      exact (nil rfl (leS (leS (leS (leS (leN leZ))))))
    exact (nil rfl (leS (leS (leS (leS (leN leZ))))))
  refine retF ?_
  exact (var 3)
theorem ok_law_value (T : Gl0 K mg base) : FnI P w K mg base "_law_value" 2 ["table", "one", "two"] (aCons (cL (cL cI)) (aCons (cLT cI) (aOne (cLT cI)))) cI (fun z => m_law_value z.1 z.2.1 z.2.2) := by
  obtain ⟨fd, D⟩ := T.c.def_ di__law_value (d := d__law_value) rfl
  exact fni (fn_law_value T D) (T.glo gi__law_value) D.kp (D.bindsN fun _ _ _ _ _ _ us hl => match us, hl with | [_, _, _], _ => rfl)

theorem sc_law_weighted : FnScope ["pairs", "table", "pair"] ["pairs", "table"] (defScope s__law_weighted) := ⟨rfl, rfl, rfl, by decide +kernel, rfl, by decide +kernel, by decide +kernel⟩
theorem fn_law_weighted (T : Gl0 K mg base) {fd : FuncData} (D : FunD K d__law_weighted.name d__law_weighted.qual d__law_weighted.params d__law_weighted.body d__law_weighted.scope (d__law_weighted.dvs K) (d__law_weighted.kws K) (d__law_weighted.at_ K) fd) : FnOk P w K mg base (L2N.CX P w) 3 (d__law_weighted.at_ K) fd ["pairs", "table"] (spF K (aCons (cL (cP (aCons (cT cI) (aOne cI)))) (aOne (cL (cL cI)))) cI (fun z => m_law_weighted z.1 z.2)) := by
  have F_law_value := ok_law_value (P := P) (w := w) T
  have sn := sc_law_weighted.nd
  refine fn_mk (ν := Empty) (κ := Empty) (eN := fun _ => []) (eK := fun _ => []) D sc_law_weighted rfl (by decide) (fun cdv A outer s H E hr hp hw z => ?_)
  obtain ⟨pairs, table⟩ := z
  show DS _ _ true [.st (List ((List Int) × Int)) (cL (cP (aCons (cT cI) (aOne cI)))) pairs, .st (List (List Int)) (cL (cL cI)) table, .none] _ _ _ _ (fun b => (.ret b : Out Int Empty Empty)) (m_law_weighted pairs table)
  unfold m_law_weighted
  refine retF ?_
  exact (sumL (T.free fi_sum) (dl (dlc sn rfl (lc0 (f := (fun (pair : ((List Int) × Int)) => ((m_law_value table pair.1 pair.1) >>= fun y1 => (mulM pair.2 y1)))) [("pair", 2)] (blk_ok (by show blkB ["pairs", "table", "pair"] (defScope s__law_weighted) _ _ = true; decide +kernel)) (by exact (iterL (var 0))) (tgB 2 sn) (fun b pair => (by exact (mul_pm (ix_1_2p (var 2)) (callP F_law_value (hr.mono (by decide)) lets0 (argC_pp (var 1) (argC_pp (coeI (cT_LT cId) (ix_0_2p (var 2))) (arg1 (coeI (cT_LT cId) (ix_0_2p (var 2))))))))))))))
theorem ok_law_weighted (T : Gl0 K mg base) : FnI P w K mg base "_law_weighted" 3 ["pairs", "table"] (aCons (cL (cP (aCons (cT cI) (aOne cI)))) (aOne (cL (cL cI)))) cI (fun z => m_law_weighted z.1 z.2) := by
  obtain ⟨fd, D⟩ := T.c.def_ di__law_weighted (d := d__law_weighted) rfl
  exact fni (fn_law_weighted T D) (T.glo gi__law_weighted) D.kp (D.bindsN fun _ _ _ _ _ _ us hl => match us, hl with | [_, _], _ => rfl)

abbrev ns_SizesDiffer_0 : List Str := []
abbrev ca_SizesDiffer_0 : CA Unit := aNil
abbrev ns_SizesDiffer_1 : List Str := "one" :: ns_SizesDiffer_0
abbrev ca_SizesDiffer_1 : CA T_SizesDiffer_1 := aCons cI ca_SizesDiffer_0
abbrev ns_SizesDiffer_2 : List Str := "two" :: ns_SizesDiffer_1
abbrev ca_SizesDiffer_2 : CA T_SizesDiffer_2 := aCons cI ca_SizesDiffer_1
abbrev ns_SizesDiffer : List Str := ns_SizesDiffer_2
abbrev ca_SizesDiffer : CA T_SizesDiffer := ca_SizesDiffer_2
theorem ff_SizesDiffer : FF ns_SizesDiffer ca_SizesDiffer x_SizesDiffer := (ffCons fInt (ffCons fInt ffNil))

theorem sc_SizesDiffer_init : FnScope ["self", "one", "two"] ["self", "one", "two"] (defScope s_SizesDiffer_init) := ⟨rfl, rfl, rfl, by decide +kernel, rfl, by decide +kernel, by decide +kernel⟩
theorem fn_SizesDiffer_init (T : Gl0 K mg base) {fd : FuncData} (D : FunD K d_SizesDiffer_init.name d_SizesDiffer_init.qual d_SizesDiffer_init.params d_SizesDiffer_init.body d_SizesDiffer_init.scope (d_SizesDiffer_init.dvs K) (d_SizesDiffer_init.kws K) (d_SizesDiffer_init.at_ K) fd) : FnOk P w K mg base (L2N.CX P w) 1 (d_SizesDiffer_init.at_ K) fd ["self", "one", "two"] (spXI "SizesDiffer" K (aCons cI (aOne cI)) ns_SizesDiffer ca_SizesDiffer (fun z => m_SizesDiffer_init z.1 z.2)) := by
  have sn := sc_SizesDiffer_init.nd
  refine fn_mkX (κ := Empty) (eN := fun xX a => [.ow T_SizesDiffer (oX xX "SizesDiffer" ns_SizesDiffer ca_SizesDiffer) a, .none, .none]) (eK := fun _ => []) D sc_SizesDiffer_init rfl (by decide) (fun h => nomatch h) (fun _ _ => rfl) (fun cdv A outer s H E hr hp hw xX z => ?_)
  obtain ⟨one, two⟩ := z
  show DS _ _ false [.ow Unit (oX xX "SizesDiffer" ns_SizesDiffer_0 ca_SizesDiffer_0) (()), .st Int cI one, .st Int cI two] _ _ _ _ (fun b => (.nxt b : Out Unit T_SizesDiffer Empty)) (m_SizesDiffer_init one two)
  unfold m_SizesDiffer_init
  refine xfS (c := cI) 0 (by exact (var 1)) (fun f1 => ?_) (oexB_ok (T.more gm_oex_SizesDiffer)) (T.noat gf_noat_SizesDiffer_one)
  refine xfS (c := cI) 0 (by exact (var 2)) (fun f2 => ?_) (oexB_ok (T.more gm_oex_SizesDiffer)) (T.noat gf_noat_SizesDiffer_two)
  exact (nil rfl (leS (leN (leN leZ))))
theorem ok_SizesDiffer_init (T : Gl0 K mg base) : XcI P w K mg base "SizesDiffer" 1 (aCons cI (aOne cI)) ns_SizesDiffer ca_SizesDiffer (fun z => m_SizesDiffer_init z.1 z.2) x_SizesDiffer := by
  obtain ⟨fd, D⟩ := T.c.def_ di_SizesDiffer_init (d := d_SizesDiffer_init) rfl
  exact ⟨_, fd, _, fn_SizesDiffer_init T D, oexB_ok (T.more gm_oex_SizesDiffer), (T.meth gf_meth_SizesDiffer___init__), (T.glo gi_SizesDiffer), (D.bindsN fun _ _ _ _ _ _ us hl => match us, hl with | [_, _, _], _ => rfl), by decide, ff_SizesDiffer⟩

theorem sc_same_size : FnScope ["one", "two"] ["one", "two"] (defScope s_same_size) := ⟨rfl, rfl, rfl, by decide +kernel, rfl, by decide +kernel, by decide +kernel⟩
theorem fn_same_size (T : Gl0 K mg base) {fd : FuncData} (D : FunD K d_same_size.name d_same_size.qual d_same_size.params d_same_size.body d_same_size.scope (d_same_size.dvs K) (d_same_size.kws K) (d_same_size.at_ K) fd) : FnOk P w K mg base (L2N.CX P w) 3 (d_same_size.at_ K) fd ["one", "two"] (spF K (aCons c_Form (aOne c_Form)) cN (fun z => m_same_size z.1 z.2)) := by
  have F_SizesDiffer_init := ok_SizesDiffer_init (P := P) (w := w) T
  have sn := sc_same_size.nd
  refine fn_mkN (κ := Empty) (eN := fun _ => [.none, .none]) (eK := fun _ => []) D sc_same_size rfl (by decide) (fun cdv A outer s H E hr hp hw z => ?_)
  obtain ⟨one, two⟩ := z
  show DS _ _ false [.st T_Form c_Form one, .st T_Form c_Form two] _ _ _ _ (fun b => (.nxt b : Out Unit Unit Empty)) (m_same_size one two)
  unfold m_same_size
  refine if2_p (by exact (neIT_pp (fld_p (cn := "Form") (ns := ns_Form) (r := ca_Form) (a := one) (pr := fun a => a.1.1.2) (var 0) (f_Form_size)  (T.cls gf_cls_Form) (T.noat gf_noat_Form_size)) (fld_p (cn := "Form") (ns := ns_Form) (r := ca_Form) (a := two) (pr := fun a => a.1.1.2) (var 1) (f_Form_size)  (T.cls gf_cls_Form) (T.noat gf_noat_Form_size)))) ?_ ?_
  · exact raiseF F_SizesDiffer_init (hr.mono (by decide)) hp (argC_pp (fld_p (cn := "Form") (ns := ns_Form) (r := ca_Form) (a := one) (pr := fun a => a.1.1.2) (var 0) (f_Form_size)  (T.cls gf_cls_Form) (T.noat gf_noat_Form_size)) (arg1 (fld_p (cn := "Form") (ns := ns_Form) (r := ca_Form) (a := two) (pr := fun a => a.1.1.2) (var 1) (f_Form_size)  (T.cls gf_cls_Form) (T.noat gf_noat_Form_size))))
  exact (nil rfl (leN (leN leZ)))
theorem ok_same_size (T : Gl0 K mg base) : FnI P w K mg base "same_size" 3 ["one", "two"] (aCons c_Form (aOne c_Form)) cN (fun z => m_same_size z.1 z.2) := by
  obtain ⟨fd, D⟩ := T.c.def_ di_same_size (d := d_same_size) rfl
  exact fni (fn_same_size T D) (T.glo gi_same_size) D.kp (D.bindsN fun _ _ _ _ _ _ us hl => match us, hl with | [_, _], _ => rfl)

theorem sc_dot : FnScope ["one", "two", "first", "second"] ["one", "two"] (defScope s_dot) := ⟨rfl, rfl, rfl, by decide +kernel, rfl, by decide +kernel, by decide +kernel⟩
theorem fn_dot (T : Gl0 K mg base) {fd : FuncData} (D : FunD K d_dot.name d_dot.qual d_dot.params d_dot.body d_dot.scope (d_dot.dvs K) (d_dot.kws K) (d_dot.at_ K) fd) : FnOk P w K mg base (L2N.CX P w) 1 (d_dot.at_ K) fd ["one", "two"] (spF K (aCons (cLT cI) (aOne (cLT cI))) cI (fun z => m_dot z.1 z.2)) := by
  have sn := sc_dot.nd
  refine fn_mk (ν := Empty) (κ := Empty) (eN := fun _ => []) (eK := fun _ => []) D sc_dot rfl (by decide) (fun cdv A outer s H E hr hp hw z => ?_)
  obtain ⟨one, two⟩ := z
  show DS _ _ true [.st (List Int) (cLT cI) one, .st (List Int) (cLT cI) two, .none, .none] _ _ _ _ (fun b => (.ret b : Out Int Empty Empty)) (m_dot one two)
  unfold m_dot
  refine retF ?_
  exact (sumL (T.free fi_sum) (dl (dlc sn rfl (lc0 (f := (fun (p3 : (Int × Int)) => (mulM p3.1 p3.2))) [("first", 2), ("second", 3)] (blk_ok (by show blkB ["one", "two", "first", "second"] (defScope s_dot) _ _ = true; decide +kernel)) (by exact (iterZip (T.free fi_zip) (var 0) (var 1))) (dgbF (tgTup (fun _ => rfl) (tgsCons (tgName 2 (fun _ => sn)) (tgsOne (tgName 3 (fun _ => sn)))))) (fun b p3 => (by exact (mul_pp (var 2) (var 3))))))))
theorem ok_dot (T : Gl0 K mg base) : FnI P w K mg base "dot" 1 ["one", "two"] (aCons (cLT cI) (aOne (cLT cI))) cI (fun z => m_dot z.1 z.2) := by
  obtain ⟨fd, D⟩ := T.c.def_ di_dot (d := d_dot) rfl
  exact fni (fn_dot T D) (T.glo gi_dot) D.kp (D.bindsN fun _ _ _ _ _ _ us hl => match us, hl with | [_, _], _ => rfl)

theorem sc_fraction : FnScope ["top", "bottom", "shared"] ["top", "bottom"] (defScope s_fraction) := ⟨rfl, rfl, rfl, by decide +kernel, rfl, by decide +kernel, by decide +kernel⟩
theorem fn_fraction (T : Gl0 K mg base) {fd : FuncData} (D : FunD K d_fraction.name d_fraction.qual d_fraction.params d_fraction.body d_fraction.scope (d_fraction.dvs K) (d_fraction.kws K) (d_fraction.at_ K) fd) : FnOk P w K mg base (L2N.CX P w) 1 (d_fraction.at_ K) fd ["top", "bottom"] (spF K (aCons cI (aOne cI)) (cP (aCons cI (aOne cI))) (fun z => m_fraction z.1 z.2)) := by
  have sn := sc_fraction.nd
  refine fn_mk (ν := Empty) (κ := Empty) (eN := fun _ => []) (eK := fun _ => []) D sc_fraction rfl (by decide) (fun cdv A outer s H E hr hp hw z => ?_)
  obtain ⟨top, bottom⟩ := z
  show DS _ _ true [.st Int cI top, .st Int cI bottom, .none] _ _ _ _ (fun b => (.ret b : Out (Int × Int) Empty Empty)) (m_fraction top bottom)
  unfold m_fraction
  refine ifA_p (by exact (eqIT_pp (var 1) int)) ?_ ?_
  · exact raise0 (T.xcls 0) (T.glo gi_ZeroBottom) hp
  refine asg (c := cI) 2 sn (by exact (gcd_p (T.heldZ 0) (var 0) (var 1))) fun shared => ?_
  refine ifJ_p (eJ := fun (j1 : Int) => [.st Int cI top, .st Int cI bottom, .st Int cI j1]) (by exact (ltT_pp (var 1) int)) ?_ ?_ fun j1 => ?_
  · refine asg (c := cI) 2 sn (by exact (neg_p (var 2))) fun shared => ?_
    exact (nil rfl (leS (leS (leS leZ))))
  · exact (nil rfl (leS (leS (leS leZ))))
  refine retF ?_
  exact (tupP (argC_mm (fdiv_pp (var 0) (var 2)) (arg1 (fdiv_pp (var 1) (var 2)))))
theorem ok_fraction (T : Gl0 K mg base) : FnI P w K mg base "fraction" 1 ["top", "bottom"] (aCons cI (aOne cI)) (cP (aCons cI (aOne cI))) (fun z => m_fraction z.1 z.2) := by
  obtain ⟨fd, D⟩ := T.c.def_ di_fraction (d := d_fraction) rfl
  exact fni (fn_fraction T D) (T.glo gi_fraction) D.kp (D.bindsN fun _ _ _ _ _ _ us hl => match us, hl with | [_, _], _ => rfl)

theorem sc_paired : FnScope ["one", "two", "total", "line", "other"] ["one", "two"] (defScope s_paired) := ⟨rfl, rfl, rfl, by decide +kernel, rfl, by decide +kernel, by decide +kernel⟩
theorem fn_paired (T : Gl0 K mg base) {fd : FuncData} (D : FunD K d_paired.name d_paired.qual d_paired.params d_paired.body d_paired.scope (d_paired.dvs K) (d_paired.kws K) (d_paired.at_ K) fd) : FnOk P w K mg base (L2N.CX P w) 4 (d_paired.at_ K) fd ["one", "two"] (spF K (aCons c_Form (aOne c_Form)) (cP (aCons cI (aOne cI))) (fun z => m_paired z.1 z.2)) := by
  have F_dot := ok_dot (P := P) (w := w) T
  have F_fraction := ok_fraction (P := P) (w := w) T
  have F_same_size := ok_same_size (P := P) (w := w) T
  have sn := sc_paired.nd
  refine fn_mk (ν := Empty) (κ := Empty) (eN := fun _ => []) (eK := fun _ => []) D sc_paired rfl (by decide) (fun cdv A outer s H E hr hp hw z => ?_)
  obtain ⟨one, two⟩ := z
  show DS _ _ true [.st T_Form c_Form one, .st T_Form c_Form two, .none, .none, .none] _ _ _ _ (fun b => (.ret b : Out (Int × Int) Empty Empty)) (m_paired one two)
  unfold m_paired
  refine drop (by exact (callP F_same_size (hr.mono (by decide)) hp (argC_pp (var 0) (arg1 (var 1))))) fun _ => ?_
  refine asg (c := cI) 2 sn (by exact (sumL (T.free fi_sum) (dl (dlc sn rfl (lc0 (f := (fun (p3 : ((List Int) × (List Int))) => (m_dot p3.1 p3.2))) [("line", 3), ("other", 4)] (blk_ok (by show blkB ["one", "two", "total", "line", "other"] (defScope s_paired) _ _ = true; decide +kernel)) (by exact (iterZip (T.free fi_zip) (fld_p (cn := "Form") (ns := ns_Form) (r := ca_Form) (a := one) (pr := fun a => a.1.2) (var 0) (f_Form_entries)  (T.cls gf_cls_Form) (T.noat gf_noat_Form_entries)) (fld_p (cn := "Form") (ns := ns_Form) (r := ca_Form) (a := two) (pr := fun a => a.1.2) (var 1) (f_Form_entries)  (T.cls gf_cls_Form) (T.noat gf_noat_Form_entries)))) (dgbF (tgTup (fun _ => rfl) (tgsCons (tgName 3 (fun _ => sn)) (tgsOne (tgName 4 (fun _ => sn)))))) (fun b p3 => (by exact (callP F_dot (hr.mono (by decide)) lets0 (argC_pp (coeI (cT_LT cId) (var 3)) (arg1 (coeI (cT_LT cId) (var 4)))))))))))) fun total => ?_
  refine retF ?_
  exact (call F_fraction (hr.mono (by decide)) hp (argC_pm (var 2) (arg1 (mul_pp (fld_p (cn := "Form") (ns := ns_Form) (r := ca_Form) (a := one) (pr := fun a => a.2) (var 0) (f_Form_bottom)  (T.cls gf_cls_Form) (T.noat gf_noat_Form_bottom)) (fld_p (cn := "Form") (ns := ns_Form) (r := ca_Form) (a := two) (pr := fun a => a.2) (var 1) (f_Form_bottom)  (T.cls gf_cls_Form) (T.noat gf_noat_Form_bottom))))))
theorem ok_paired (T : Gl0 K mg base) : FnI P w K mg base "paired" 4 ["one", "two"] (aCons c_Form (aOne c_Form)) (cP (aCons cI (aOne cI))) (fun z => m_paired z.1 z.2) := by
  obtain ⟨fd, D⟩ := T.c.def_ di_paired (d := d_paired) rfl
  exact fni (fn_paired T D) (T.glo gi_paired) D.kp (D.bindsN fun _ _ _ _ _ _ us hl => match us, hl with | [_, _], _ => rfl)

theorem sc_law_is_fraction : FnScope ["value"] ["value"] (defScope s__law_is_fraction) := ⟨rfl, rfl, rfl, by decide +kernel, rfl, by decide +kernel, by decide +kernel⟩
theorem fn_law_is_fraction (T : Gl0 K mg base) {fd : FuncData} (D : FunD K d__law_is_fraction.name d__law_is_fraction.qual d__law_is_fraction.params d__law_is_fraction.body d__law_is_fraction.scope (d__law_is_fraction.dvs K) (d__law_is_fraction.kws K) (d__law_is_fraction.at_ K) fd) : FnOk P w K mg base (L2N.CX P w) 2 (d__law_is_fraction.at_ K) fd ["value"] (spF K (aOne (cP (aCons cI (aOne cI)))) cB m_law_is_fraction) := by
  have F_law_gcd := ok_law_gcd (P := P) (w := w) T
  have F_law_whole := ok_law_whole (P := P) (w := w) T
  have sn := sc_law_is_fraction.nd
  refine fn_mk (ν := Empty) (κ := Empty) (eN := fun _ => []) (eK := fun _ => []) D sc_law_is_fraction rfl (by decide) (fun cdv A outer s H E hr hp hw z => ?_)
  revert z; intro value
  show DS _ _ true [.st (Int × Int) (cP (aCons cI (aOne cI))) value] _ _ _ _ (fun b => (.ret b : Out Bool Empty Empty)) (m_law_is_fraction value)
  unfold m_law_is_fraction
  refine ifA (by exact (dt_dw (orW_p (notT_p (val (isi_p (n := "tuple") (T := "tuple") (k := true) (by decide +kernel) (by decide +kernel) (T.free fi_isinstance) (T.free fi_tuple) (var 0)))) (orW_p (neIT_pp (lenP_p (T.free fi_len) (var 0)) int) (orW (notT (val (callP F_law_whole (hr.mono (by decide)) hp (arg1 (ix_0_2p (var 0)))))) (or1 (notT (val (callP F_law_whole (hr.mono (by decide)) hp (arg1 (ix_1_2p (var 0)))))))))))) ?_ ?_
  · refine retF ?_
    exact bool
  refine retF ?_
  exact (andV_p (ge_pp (ix_1_2p (var 0)) int) (and1V (eqI_mp (callP F_law_gcd (hr.mono (by decide)) hp (argC_pp (ix_0_2p (var 0)) (arg1 (ix_1_2p (var 0))))) int)))
theorem ok_law_is_fraction (T : Gl0 K mg base) : FnI P w K mg base "_law_is_fraction" 2 ["value"] (aOne (cP (aCons cI (aOne cI)))) cB m_law_is_fraction := by
  obtain ⟨fd, D⟩ := T.c.def_ di__law_is_fraction (d := d__law_is_fraction) rfl
  exact fni (fn_law_is_fraction T D) (T.glo gi__law_is_fraction) D.kp (D.bindsN fun _ _ _ _ _ _ us hl => match us, hl with | [_], _ => rfl)

theorem sc_law_stands : FnScope ["value", "top", "under"] ["value", "top", "under"] (defScope s__law_stands) := ⟨rfl, rfl, rfl, by decide +kernel, rfl, by decide +kernel, by decide +kernel⟩
theorem fn_law_stands (T : Gl0 K mg base) {fd : FuncData} (D : FunD K d__law_stands.name d__law_stands.qual d__law_stands.params d__law_stands.body d__law_stands.scope (d__law_stands.dvs K) (d__law_stands.kws K) (d__law_stands.at_ K) fd) : FnOk P w K mg base (L2N.CX P w) 3 (d__law_stands.at_ K) fd ["value", "top", "under"] (spF K (aCons (cP (aCons cI (aOne cI))) (aCons cI (aOne cI))) cB (fun z => m_law_stands z.1 z.2.1 z.2.2)) := by
  have F_law_is_fraction := ok_law_is_fraction (P := P) (w := w) T
  have sn := sc_law_stands.nd
  refine fn_mk (ν := Empty) (κ := Empty) (eN := fun _ => []) (eK := fun _ => []) D sc_law_stands rfl (by decide) (fun cdv A outer s H E hr hp hw z => ?_)
  obtain ⟨value, top, under⟩ := z
  show DS _ _ true [.st (Int × Int) (cP (aCons cI (aOne cI))) value, .st Int cI top, .st Int cI under] _ _ _ _ (fun b => (.ret b : Out Bool Empty Empty)) (m_law_stands value top under)
  unfold m_law_stands
  refine retF ?_
  exact (andV (callP F_law_is_fraction (hr.mono (by decide)) hp (arg1 (var 0))) (and1V (eqI_mm (mul_pp (ix_0_2p (var 0)) (var 2)) (mul_pp (var 1) (ix_1_2p (var 0))))))
theorem ok_law_stands (T : Gl0 K mg base) : FnI P w K mg base "_law_stands" 3 ["value", "top", "under"] (aCons (cP (aCons cI (aOne cI))) (aCons cI (aOne cI))) cB (fun z => m_law_stands z.1 z.2.1 z.2.2) := by
  obtain ⟨fd, D⟩ := T.c.def_ di__law_stands (d := d__law_stands) rfl
  exact fni (fn_law_stands T D) (T.glo gi__law_stands) D.kp (D.bindsN fun _ _ _ _ _ _ us hl => match us, hl with | [_, _, _], _ => rfl)

theorem sc_law_crossed : FnScope ["pairs", "others", "total", "pair", "other"] ["pairs", "others"] (defScope s__law_crossed) := ⟨rfl, rfl, rfl, by decide +kernel, rfl, by decide +kernel, by decide +kernel⟩
theorem fn_law_crossed (T : Gl0 K mg base) {fd : FuncData} (D : FunD K d__law_crossed.name d__law_crossed.qual d__law_crossed.params d__law_crossed.body d__law_crossed.scope (d__law_crossed.dvs K) (d__law_crossed.kws K) (d__law_crossed.at_ K) fd) : FnOk P w K mg base (L2N.CX P w) 2 (d__law_crossed.at_ K) fd ["pairs", "others"] (spF K (aCons (cL (cP (aCons (cT cI) (aOne cI)))) (aOne (cL (cP (aCons (cT cI) (aOne cI)))))) cI (fun z => m_law_crossed z.1 z.2)) := by
  have F_law_dot := ok_law_dot (P := P) (w := w) T
  have sn := sc_law_crossed.nd
  refine fn_mk (ν := Empty) (κ := Empty) (eN := fun _ => []) (eK := fun _ => []) D sc_law_crossed rfl (by decide) (fun cdv A outer s H E hr hp hw z => ?_)
  obtain ⟨pairs, others⟩ := z
  show DS _ _ true [.st (List ((List Int) × Int)) (cL (cP (aCons (cT cI) (aOne cI)))) pairs, .st (List ((List Int) × Int)) (cL (cP (aCons (cT cI) (aOne cI)))) others, .none, .none, .none] _ _ _ _ (fun b => (.ret b : Out Int Empty Empty)) (m_law_crossed pairs others)
  unfold m_law_crossed
  refine asg (c := cI) 2 sn (by exact int) fun total => ?_
  refine forF (eL := fun (s1 : Int) => [.st (List ((List Int) × Int)) (cL (cP (aCons (cT cI) (aOne cI)))) pairs, .st (List ((List Int) × Int)) (cL (cP (aCons (cT cI) (aOne cI)))) others, .st Int cI s1, .none, .none]) (step := (m_law_crossed_b1 others)) rfl hw (by exact (iterL (var 0))) (tgN 3 sn) (leS (leS (leS (leN (leN leZ))))) (fun s1 pair => ?_) fun s6 => ?_
  · unfold m_law_crossed_b1
    refine asg (c := cI) 2 sn (by exact (add_pm (var 2) (mul_pm (ix_1_2p (var 3)) (sumL (T.free fi_sum) (dl (dlc sn rfl (lc0 (f := (fun (other : ((List Int) × Int)) => (((m_law_dot pair.1 other.1) >>= fun x2 => (powM x2 (2 : Int))) >>= fun y3 => (mulM other.2 y3)))) [("other", 4)] (blk_ok (by show blkB ["pairs", "others", "total", "pair", "other"] (defScope s__law_crossed) _ _ = true; decide +kernel)) (by exact (iterL (var 1))) (tgB 4 sn) (fun b other => (by exact (mul_pm (ix_1_2p (var 4)) (pow_mp (callP F_law_dot (hr.mono (by decide)) lets0 (argC_pp (coeI (cT_LT cId) (ix_0_2p (var 3))) (arg1 (coeI (cT_LT cId) (ix_0_2p (var 4)))))) int))))))))))) fun total => ?_
    exact (nil rfl (leS (leS (leS (leN (leN leZ))))))
  refine retF ?_
  exact (var 2)
theorem ok_law_crossed (T : Gl0 K mg base) : FnI P w K mg base "_law_crossed" 2 ["pairs", "others"] (aCons (cL (cP (aCons (cT cI) (aOne cI)))) (aOne (cL (cP (aCons (cT cI) (aOne cI)))))) cI (fun z => m_law_crossed z.1 z.2) := by
  obtain ⟨fd, D⟩ := T.c.def_ di__law_crossed (d := d__law_crossed) rfl
  exact fni (fn_law_crossed T D) (T.glo gi__law_crossed) D.kp (D.bindsN fun _ _ _ _ _ _ us hl => match us, hl with | [_, _], _ => rfl)

theorem sc_times_symmetric : FnScope ["one", "two", "line", "column"] ["one", "two"] (defScope s_times_symmetric) := ⟨rfl, rfl, rfl, by decide +kernel, rfl, by decide +kernel, by decide +kernel⟩
theorem fn_times_symmetric (T : Gl0 K mg base) {fd : FuncData} (D : FunD K d_times_symmetric.name d_times_symmetric.qual d_times_symmetric.params d_times_symmetric.body d_times_symmetric.scope (d_times_symmetric.dvs K) (d_times_symmetric.kws K) (d_times_symmetric.at_ K) fd) : FnOk P w K mg base (L2N.CX P w) 2 (d_times_symmetric.at_ K) fd ["one", "two"] (spF K (aCons (cLT (cLT cI)) (aOne (cT (cT cI)))) (cL (cL cI)) (fun z => m_times_symmetric z.1 z.2)) := by
  have F_dot := ok_dot (P := P) (w := w) T
  have sn := sc_times_symmetric.nd
  refine fn_mk (ν := Empty) (κ := Empty) (eN := fun _ => []) (eK := fun _ => []) D sc_times_symmetric rfl (by decide) (fun cdv A outer s H E hr hp hw z => ?_)
  obtain ⟨one, two⟩ := z
  show DS _ _ true [.st (List (List Int)) (cLT (cLT cI)) one, .st (List (List Int)) (cT (cT cI)) two, .none, .none] _ _ _ _ (fun b => (.ret b : Out (List (List Int)) Empty Empty)) (m_times_symmetric one two)
  unfold m_times_symmetric
  refine retF ?_
  exact (dl (dlc sn rfl (lc0 (f := (fun (line : (List Int)) => (R.ok two >>= fun as => mapM (fun (column : (List Int)) => (m_dot line column)) as))) [("line", 2)] (blk_ok (by show blkB ["one", "two", "line", "column"] (defScope s_times_symmetric) _ _ = true; decide +kernel)) (by exact (iterLT (var 0))) (tgB 2 sn) (fun b line => (by exact (dl (dlc sn rfl (lc0 (f := (fun (column : (List Int)) => (m_dot line column))) [("column", 3)] (blk_ok (by kernel_rfl)) (by exact (iterT (var 1))) (tgB 3 sn) (fun b column => (by exact (callP F_dot (hr.mono (by decide)) lets0 (argC_pp (var 2) (arg1 (coeI (cT_LT cId) (var 3)))))))))))))))
theorem ok_times_symmetric (T : Gl0 K mg base) : FnI P w K mg base "times_symmetric" 2 ["one", "two"] (aCons (cLT (cLT cI)) (aOne (cT (cT cI)))) (cL (cL cI)) (fun z => m_times_symmetric z.1 z.2) := by
  obtain ⟨fd, D⟩ := T.c.def_ di_times_symmetric (d := d_times_symmetric) rfl
  exact fni (fn_times_symmetric T D) (T.glo gi_times_symmetric) D.kp (D.bindsN fun _ _ _ _ _ _ us hl => match us, hl with | [_, _], _ => rfl)

theorem sc_sandwich : FnScope ["outer", "inner", "half"] ["outer", "inner"] (defScope s_sandwich) := ⟨rfl, rfl, rfl, by decide +kernel, rfl, by decide +kernel, by decide +kernel⟩
theorem fn_sandwich (T : Gl0 K mg base) {fd : FuncData} (D : FunD K d_sandwich.name d_sandwich.qual d_sandwich.params d_sandwich.body d_sandwich.scope (d_sandwich.dvs K) (d_sandwich.kws K) (d_sandwich.at_ K) fd) : FnOk P w K mg base (L2N.CX P w) 6 (d_sandwich.at_ K) fd ["outer", "inner"] (spF K (aCons c_Form (aOne c_Form)) c_Form (fun z => m_sandwich z.1 z.2)) := by
  have F_Form_init := ok_Form_init (P := P) (w := w) T
  have F_same_size := ok_same_size (P := P) (w := w) T
  have F_times_symmetric := ok_times_symmetric (P := P) (w := w) T
  have sn := sc_sandwich.nd
  refine fn_mk (ν := Empty) (κ := Empty) (eN := fun _ => []) (eK := fun _ => []) D sc_sandwich rfl (by decide) (fun cdv A outer s H E hr hp hw z => ?_)
  obtain ⟨outer, inner⟩ := z
  show DS _ _ true [.st T_Form c_Form outer, .st T_Form c_Form inner, .none] _ _ _ _ (fun b => (.ret b : Out T_Form Empty Empty)) (m_sandwich outer inner)
  unfold m_sandwich
  refine drop (by exact (callP F_same_size (hr.mono (by decide)) hp (argC_pp (var 0) (arg1 (var 1))))) fun _ => ?_
  refine asg (c := (cL (cL cI))) 2 sn (by exact (callP F_times_symmetric (hr.mono (by decide)) hp (argC_pp (coeI (cT_LT (cTTi (cT_LT cId))) (fld_p (cn := "Form") (ns := ns_Form) (r := ca_Form) (a := outer) (pr := fun a => a.1.2) (var 0) (f_Form_entries)  (T.cls gf_cls_Form) (T.noat gf_noat_Form_entries))) (arg1 (fld_p (cn := "Form") (ns := ns_Form) (r := ca_Form) (a := inner) (pr := fun a => a.1.2) (var 1) (f_Form_entries)  (T.cls gf_cls_Form) (T.noat gf_noat_Form_entries)))))) fun half => ?_
  refine retF ?_
  exact (by refine mk_new F_Form_init (hr.mono (by decide)) hp ?_ ?_; exact (arg1 (callP F_times_symmetric (hr.mono (by decide)) hp (argC_pp (coeI (cL_LT (cLLi (cL_LT cId))) (var 2)) (arg1 (fld_p (cn := "Form") (ns := ns_Form) (r := ca_Form) (a := outer) (pr := fun a => a.1.2) (var 0) (f_Form_entries)  (T.cls gf_cls_Form) (T.noat gf_noat_Form_entries)))))); exact (dk1 (mul_mp (mul_pp (fld_p (cn := "Form") (ns := ns_Form) (r := ca_Form) (a := outer) (pr := fun a => a.2) (var 0) (f_Form_bottom)  (T.cls gf_cls_Form) (T.noat gf_noat_Form_bottom)) (fld_p (cn := "Form") (ns := ns_Form) (r := ca_Form) (a := outer) (pr := fun a => a.2) (var 0) (f_Form_bottom)  (T.cls gf_cls_Form) (T.noat gf_noat_Form_bottom))) (fld_p (cn := "Form") (ns := ns_Form) (r := ca_Form) (a := inner) (pr := fun a => a.2) (var 1) (f_Form_bottom)  (T.cls gf_cls_Form) (T.noat gf_noat_Form_bottom)))))
theorem ok_sandwich (T : Gl0 K mg base) : FnI P w K mg base "sandwich" 6 ["outer", "inner"] (aCons c_Form (aOne c_Form)) c_Form (fun z => m_sandwich z.1 z.2) := by
  obtain ⟨fd, D⟩ := T.c.def_ di_sandwich (d := d_sandwich) rfl
  exact fni (fn_sandwich T D) (T.glo gi_sandwich) D.kp (D.bindsN fun _ _ _ _ _ _ us hl => match us, hl with | [_, _], _ => rfl)

theorem sc_law_sandwich : FnScope ["outer", "inner", "size", "half", "i", "j"] ["outer", "inner"] (defScope s__law_sandwich) := ⟨rfl, rfl, rfl, by decide +kernel, rfl, by decide +kernel, by decide +kernel⟩
theorem fn_law_sandwich (T : Gl0 K mg base) {fd : FuncData} (D : FunD K d__law_sandwich.name d__law_sandwich.qual d__law_sandwich.params d__law_sandwich.body d__law_sandwich.scope (d__law_sandwich.dvs K) (d__law_sandwich.kws K) (d__law_sandwich.at_ K) fd) : FnOk P w K mg base (L2N.CX P w) 2 (d__law_sandwich.at_ K) fd ["outer", "inner"] (spF K (aCons (cL (cL cI)) (aOne (cL (cL cI)))) (cL (cL cI)) (fun z => m_law_sandwich z.1 z.2)) := by
  have F_law_dot := ok_law_dot (P := P) (w := w) T
  have sn := sc_law_sandwich.nd
  refine fn_mk (ν := Empty) (κ := Empty) (eN := fun _ => []) (eK := fun _ => []) D sc_law_sandwich rfl (by decide) (fun cdv A outer s H E hr hp hw z => ?_)
  obtain ⟨outer, inner⟩ := z
  show DS _ _ true [.st (List (List Int)) (cL (cL cI)) outer, .st (List (List Int)) (cL (cL cI)) inner, .none, .none, .none, .none] _ _ _ _ (fun b => (.ret b : Out (List (List Int)) Empty Empty)) (m_law_sandwich outer inner)
  unfold m_law_sandwich
  refine asg (c := cI) 2 sn (by exact (lenL_p (T.free fi_len) (var 0))) fun size => ?_
  refine asg (c := (cL (cL cI))) 3 sn (by exact (dl (dlc sn rfl (lc0 (f := (fun (i : Int) => (rngM 0 size >>= fun as => mapM (fun (j : Int) => (((getM outer i) >>= fun x1 => (getM inner j) >>= fun y2 => R.ok (x1, y2)) >>= fun z => (m_law_dot z.1 z.2))) as))) [("i", 4)] (blk_ok (by show blkB ["outer", "inner", "size", "half", "i", "j"] (defScope s__law_sandwich) _ _ = true; decide +kernel)) (by exact (iterR1_p (T.free fi_range) (var 2))) (tgB 4 sn) (fun b i => (by exact (dl (dlc sn rfl (lc0 (f := (fun (j : Int) => (((getM outer i) >>= fun x1 => (getM inner j) >>= fun y2 => R.ok (x1, y2)) >>= fun z => (m_law_dot z.1 z.2)))) [("j", 5)] (blk_ok (by kernel_rfl)) (by exact (iterR1_p (T.free fi_range) (var 2))) (tgB 5 sn) (fun b j => (by exact (call F_law_dot (hr.mono (by decide)) lets0 (argC_mm (coeI (cL_LT cId) (ixL_pp (var 0) (var 4))) (arg1 (coeI (cL_LT cId) (ixL_pp (var 1) (var 5))))))))))))))))) fun half => ?_
  refine retF ?_
  exact (dl (dlc sn rfl (lc0 (f := (fun (i : Int) => (rngM 0 size >>= fun as => mapM (fun (j : Int) => (((getM half i) >>= fun x3 => (getM outer j) >>= fun y4 => R.ok (x3, y4)) >>= fun z => (m_law_dot z.1 z.2))) as))) [("i", 4)] (blk_ok (by show blkB ["outer", "inner", "size", "half", "i", "j"] (defScope s__law_sandwich) _ _ = true; decide +kernel)) (by exact (iterR1_p (T.free fi_range) (var 2))) (tgB 4 sn) (fun b i => (by exact (dl (dlc sn rfl (lc0 (f := (fun (j : Int) => (((getM half i) >>= fun x3 => (getM outer j) >>= fun y4 => R.ok (x3, y4)) >>= fun z => (m_law_dot z.1 z.2)))) [("j", 5)] (blk_ok (by kernel_rfl)) (by exact (iterR1_p (T.free fi_range) (var 2))) (tgB 5 sn) (fun b j => (by exact (call F_law_dot (hr.mono (by decide)) lets0 (argC_mm (coeI (cL_LT cId) (ixL_pp (var 3) (var 4))) (arg1 (coeI (cL_LT cId) (ixL_pp (var 0) (var 5))))))))))))))))
theorem ok_law_sandwich (T : Gl0 K mg base) : FnI P w K mg base "_law_sandwich" 2 ["outer", "inner"] (aCons (cL (cL cI)) (aOne (cL (cL cI)))) (cL (cL cI)) (fun z => m_law_sandwich z.1 z.2) := by
  obtain ⟨fd, D⟩ := T.c.def_ di__law_sandwich (d := d__law_sandwich) rfl
  exact fni (fn_law_sandwich T D) (T.glo gi__law_sandwich) D.kp (D.bindsN fun _ _ _ _ _ _ us hl => match us, hl with | [_, _], _ => rfl)

theorem sc_check_point : FnScope ["form", "point"] ["form", "point"] (defScope s_check_point) := ⟨rfl, rfl, rfl, by decide +kernel, rfl, by decide +kernel, by decide +kernel⟩
theorem fn_check_point (T : Gl0 K mg base) {fd : FuncData} (D : FunD K d_check_point.name d_check_point.qual d_check_point.params d_check_point.body d_check_point.scope (d_check_point.dvs K) (d_check_point.kws K) (d_check_point.at_ K) fd) : FnOk P w K mg base (L2N.CX P w) 3 (d_check_point.at_ K) fd ["form", "point"] (spF K (aCons c_Form (aOne (cT cI))) cN (fun z => m_check_point z.1 z.2)) := by
  have F_SizesDiffer_init := ok_SizesDiffer_init (P := P) (w := w) T
  have sn := sc_check_point.nd
  refine fn_mkN (κ := Empty) (eN := fun _ => [.none, .none]) (eK := fun _ => []) D sc_check_point rfl (by decide) (fun cdv A outer s H E hr hp hw z => ?_)
  obtain ⟨form, point⟩ := z
  show DS _ _ false [.st T_Form c_Form form, .st (List Int) (cT cI) point] _ _ _ _ (fun b => (.nxt b : Out Unit Unit Empty)) (m_check_point form point)
  unfold m_check_point
  refine if2_p (by exact (neIT_pp (lenT_p (T.free fi_len) (var 1)) (fld_p (cn := "Form") (ns := ns_Form) (r := ca_Form) (a := form) (pr := fun a => a.1.1.2) (var 0) (f_Form_size)  (T.cls gf_cls_Form) (T.noat gf_noat_Form_size)))) ?_ ?_
  · exact raiseF F_SizesDiffer_init (hr.mono (by decide)) hp (argC_pp (fld_p (cn := "Form") (ns := ns_Form) (r := ca_Form) (a := form) (pr := fun a => a.1.1.2) (var 0) (f_Form_size)  (T.cls gf_cls_Form) (T.noat gf_noat_Form_size)) (arg1 (lenT_p (T.free fi_len) (var 1))))
  exact (nil rfl (leN (leN leZ)))
theorem ok_check_point (T : Gl0 K mg base) : FnI P w K mg base "check_point" 3 ["form", "point"] (aCons c_Form (aOne (cT cI))) cN (fun z => m_check_point z.1 z.2) := by
  obtain ⟨fd, D⟩ := T.c.def_ di_check_point (d := d_check_point) rfl
  exact fni (fn_check_point T D) (T.glo gi_check_point) D.kp (D.bindsN fun _ _ _ _ _ _ us hl => match us, hl with | [_, _], _ => rfl)

theorem sc_Form_between : FnScope ["self", "one", "two", "line"] ["self", "one", "two"] (defScope s_Form_between) := ⟨rfl, rfl, rfl, by decide +kernel, rfl, by decide +kernel, by decide +kernel⟩
theorem fn_Form_between (T : Gl0 K mg base) {fd : FuncData} (D : FunD K d_Form_between.name d_Form_between.qual d_Form_between.params d_Form_between.body d_Form_between.scope (d_Form_between.dvs K) (d_Form_between.kws K) (d_Form_between.at_ K) fd) : FnOk P w K mg base (L2N.CX P w) 4 (d_Form_between.at_ K) fd ["self", "one", "two"] (spF K (aCons c_Form (aCons (cT cI) (aOne (cT cI)))) (cP (aCons cI (aOne cI))) (fun z => m_Form_between z.1 z.2.1 z.2.2)) := by
  have F_check_point := ok_check_point (P := P) (w := w) T
  have F_dot := ok_dot (P := P) (w := w) T
  have F_fraction := ok_fraction (P := P) (w := w) T
  have sn := sc_Form_between.nd
  refine fn_mk (ν := Empty) (κ := Empty) (eN := fun _ => []) (eK := fun _ => []) D sc_Form_between rfl (by decide) (fun cdv A outer s H E hr hp hw z => ?_)
  obtain ⟨self, one, two⟩ := z
  show DS _ _ true [.st T_Form c_Form self, .st (List Int) (cT cI) one, .st (List Int) (cT cI) two, .none] _ _ _ _ (fun b => (.ret b : Out (Int × Int) Empty Empty)) (m_Form_between self one two)
  unfold m_Form_between
  refine drop (by exact (callP F_check_point (hr.mono (by decide)) hp (argC_pp (var 0) (arg1 (var 1))))) fun _ => ?_
  refine drop (by exact (callP F_check_point (hr.mono (by decide)) hp (argC_pp (var 0) (arg1 (var 2))))) fun _ => ?_
  refine retF ?_
  exact (call F_fraction (hr.mono (by decide)) hp (argC_mp (call F_dot (hr.mono (by decide)) hp (argC_pm (coeI (cT_LT cId) (var 1)) (arg1 (coeI (cL_LT cId) (dl (dlc sn rfl (lc0 (f := (fun (line : (List Int)) => (m_dot line two))) [("line", 3)] (blk_ok (by show blkB ["self", "one", "two", "line"] (defScope s_Form_between) _ _ = true; decide +kernel)) (by exact (iterT (fld_p (cn := "Form") (ns := ns_Form) (r := ca_Form) (a := self) (pr := fun a => a.1.2) (var 0) (f_Form_entries)  (T.cls gf_cls_Form) (T.noat gf_noat_Form_entries)))) (tgB 3 sn) (fun b line => (by exact (callP F_dot (hr.mono (by decide)) lets0 (argC_pp (coeI (cT_LT cId) (var 3)) (arg1 (coeI (cT_LT cId) (var 2)))))))))))))) (arg1 (fld_p (cn := "Form") (ns := ns_Form) (r := ca_Form) (a := self) (pr := fun a => a.2) (var 0) (f_Form_bottom)  (T.cls gf_cls_Form) (T.noat gf_noat_Form_bottom)))))
theorem ok_Form_between (T : Gl0 K mg base) : MtI P w K mg base "Form" "between" 4 ["self", "one", "two"] (aCons c_Form (aCons (cT cI) (aOne (cT cI)))) (cP (aCons cI (aOne cI))) (fun z => m_Form_between z.1 z.2.1 z.2.2) := by
  obtain ⟨fd, D⟩ := T.c.def_ di_Form_between (d := d_Form_between) rfl
  exact ⟨_, fd, fn_Form_between T D, (T.meth gf_meth_Form_between), fnIn_of D, (D.bindsN fun _ _ _ _ _ _ us hl => match us, hl with | [_, _, _], _ => rfl)⟩

theorem sc_Form_call : FnScope ["self", "point"] ["self", "point"] (defScope s_Form_call) := ⟨rfl, rfl, rfl, by decide +kernel, rfl, by decide +kernel, by decide +kernel⟩
theorem fn_Form_call (T : Gl0 K mg base) {fd : FuncData} (D : FunD K d_Form_call.name d_Form_call.qual d_Form_call.params d_Form_call.body d_Form_call.scope (d_Form_call.dvs K) (d_Form_call.kws K) (d_Form_call.at_ K) fd) : FnOk P w K mg base (L2N.CX P w) 5 (d_Form_call.at_ K) fd ["self", "point"] (spF K (aCons c_Form (aOne (cT cI))) (cP (aCons cI (aOne cI))) (fun z => m_Form_call z.1 z.2)) := by
  have F_Form_between := ok_Form_between (P := P) (w := w) T
  have sn := sc_Form_call.nd
  refine fn_mk (ν := Empty) (κ := Empty) (eN := fun _ => []) (eK := fun _ => []) D sc_Form_call rfl (by decide) (fun cdv A outer s H E hr hp hw z => ?_)
  obtain ⟨self, point⟩ := z
  show DS _ _ true [.st T_Form c_Form self, .st (List Int) (cT cI) point] _ _ _ _ (fun b => (.ret b : Out (Int × Int) Empty Empty)) (m_Form_call self point)
  unfold m_Form_call
  refine retF ?_
  exact (methP F_Form_between (T.cls gf_cls_Form) (hr.mono (by decide)) hp (var 0) (argC_pp (var 1) (arg1 (var 1))))
theorem ok_Form_call (T : Gl0 K mg base) : MtI P w K mg base "Form" "__call__" 5 ["self", "point"] (aCons c_Form (aOne (cT cI))) (cP (aCons cI (aOne cI))) (fun z => m_Form_call z.1 z.2) := by
  obtain ⟨fd, D⟩ := T.c.def_ di_Form_call (d := d_Form_call) rfl
  exact ⟨_, fd, fn_Form_call T D, (T.meth gf_meth_Form___call__), fnIn_of D, (D.bindsN fun _ _ _ _ _ _ us hl => match us, hl with | [_, _], _ => rfl)⟩

theorem sc_Form_at : FnScope ["self", "passed", "numbers", "divisor", "top", "bottom"] ["self", "passed"] (defScope s_Form_at) := ⟨rfl, rfl, rfl, by decide +kernel, rfl, by decide +kernel, by decide +kernel⟩
theorem fn_Form_at (T : Gl0 K mg base) {fd : FuncData} (D : FunD K d_Form_at.name d_Form_at.qual d_Form_at.params d_Form_at.body d_Form_at.scope (d_Form_at.dvs K) (d_Form_at.kws K) (d_Form_at.at_ K) fd) : FnOk P w K mg base (L2N.CX P w) 5 (d_Form_at.at_ K) fd ["self", "passed"] (spF K (aCons c_Form (aOne (cP (aCons (cT cI) (aOne cI))))) (cP (aCons cI (aOne cI))) (fun z => m_Form_at z.1 z.2)) := by
  have F_Form_between := ok_Form_between (P := P) (w := w) T
  have F_fraction := ok_fraction (P := P) (w := w) T
  have sn := sc_Form_at.nd
  refine fn_mk (ν := Empty) (κ := Empty) (eN := fun _ => []) (eK := fun _ => []) D sc_Form_at rfl (by decide) (fun cdv A outer s H E hr hp hw z => ?_)
  obtain ⟨self, passed⟩ := z
  show DS _ _ true [.st T_Form c_Form self, .st ((List Int) × Int) (cP (aCons (cT cI) (aOne cI))) passed, .none, .none, .none, .none] _ _ _ _ (fun b => (.ret b : Out (Int × Int) Empty Empty)) (m_Form_at self passed)
  unfold m_Form_at
  refine asgT (c := (cP (aCons (cT cI) (aOne cI)))) (by exact (var 1)) (tgTup (fun _ => rfl) (tgsCons (tgName 2 (fun _ => sn)) (tgsOne (tgName 3 (fun _ => sn))))) fun p1 => ?_
  refine asgT (c := (cP (aCons cI (aOne cI)))) (by exact (methP F_Form_between (T.cls gf_cls_Form) (hr.mono (by decide)) hp (var 0) (argC_pp (var 2) (arg1 (var 2))))) (tgTup (fun _ => rfl) (tgsCons (tgName 4 (fun _ => sn)) (tgsOne (tgName 5 (fun _ => sn))))) fun p2 => ?_
  refine retF ?_
  exact (call F_fraction (hr.mono (by decide)) hp (argC_pm (var 4) (arg1 (mul_mp (mul_pp (var 5) (var 3)) (var 3)))))
theorem ok_Form_at (T : Gl0 K mg base) : MtI P w K mg base "Form" "at" 5 ["self", "passed"] (aCons c_Form (aOne (cP (aCons (cT cI) (aOne cI))))) (cP (aCons cI (aOne cI))) (fun z => m_Form_at z.1 z.2) := by
  obtain ⟨fd, D⟩ := T.c.def_ di_Form_at (d := d_Form_at) rfl
  exact ⟨_, fd, fn_Form_at T D, (T.meth gf_meth_Form_at), fnIn_of D, (D.bindsN fun _ _ _ _ _ _ us hl => match us, hl with | [_, _], _ => rfl)⟩

theorem sc_vector : FnScope ["numbers", "bottom", "number"] ["numbers", "bottom"] (defScope s_vector) := ⟨rfl, rfl, rfl, by decide +kernel, rfl, by decide +kernel, by decide +kernel⟩
theorem fn_vector (T : Gl0 K mg base) {fd : FuncData} (D : FunD K d_vector.name d_vector.qual d_vector.params d_vector.body d_vector.scope (d_vector.dvs K) (d_vector.kws K) (d_vector.at_ K) fd) : FnOk P w K mg base (L2N.CX P w) 2 (d_vector.at_ K) fd ["numbers", "bottom"] (spF K (aCons (cL cI) (aOne cI)) (cP (aCons (cT cI) (aOne cI))) (fun z => m_vector z.1 z.2)) := by
  have F_lowered := ok_lowered (P := P) (w := w) T
  have sn := sc_vector.nd
  refine fn_mk (ν := Empty) (κ := Empty) (eN := fun _ => []) (eK := fun _ => []) D sc_vector rfl (by decide) (fun cdv A outer s H E hr hp hw z => ?_)
  obtain ⟨numbers, bottom⟩ := z
  show DS _ _ true [.st (List Int) (cL cI) numbers, .st Int cI bottom, .none] _ _ _ _ (fun b => (.ret b : Out ((List Int) × Int) Empty Empty)) (m_vector numbers bottom)
  unfold m_vector
  refine ifA_p (by exact (eqIT_pp (var 1) int)) ?_ ?_
  · exact raise0 (T.xcls 0) (T.glo gi_ZeroBottom) hp
  refine ifA_p (by exact (ltT_pp (var 1) int)) ?_ ?_
  · refine retF ?_
    exact (call F_lowered (hr.mono (by decide)) hp (argC_mp (dl (dlc sn rfl (lc0 (f := (fun (number : Int) => R.ok (-number))) [("number", 2)] (blk_ok (by show blkB ["numbers", "bottom", "number"] (defScope s_vector) _ _ = true; decide +kernel)) (by exact (iterL (var 0))) (tgB 2 sn) (fun b number => (by exact (neg_p (var 2))))))) (arg1 (neg_p (var 1)))))
  refine retF ?_
  exact (callP F_lowered (hr.mono (by decide)) hp (argC_pp (var 0) (arg1 (var 1))))
theorem ok_vector (T : Gl0 K mg base) : FnI P w K mg base "vector" 2 ["numbers", "bottom"] (aCons (cL cI) (aOne cI)) (cP (aCons (cT cI) (aOne cI))) (fun z => m_vector z.1 z.2) := by
  obtain ⟨fd, D⟩ := T.c.def_ di_vector (d := d_vector) rfl
  exact fni (fn_vector T D) (T.glo gi_vector) D.kp (D.bindsN fun _ _ _ _ _ _ us hl => match us, hl with | [_, _], _ => rfl)

theorem sc_Form_applied : FnScope ["self", "passed", "numbers", "divisor", "line"] ["self", "passed"] (defScope s_Form_applied) := ⟨rfl, rfl, rfl, by decide +kernel, rfl, by decide +kernel, by decide +kernel⟩
theorem fn_Form_applied (T : Gl0 K mg base) {fd : FuncData} (D : FunD K d_Form_applied.name d_Form_applied.qual d_Form_applied.params d_Form_applied.body d_Form_applied.scope (d_Form_applied.dvs K) (d_Form_applied.kws K) (d_Form_applied.at_ K) fd) : FnOk P w K mg base (L2N.CX P w) 3 (d_Form_applied.at_ K) fd ["self", "passed"] (spF K (aCons c_Form (aOne (cP (aCons (cL cI) (aOne cI))))) (cP (aCons (cT cI) (aOne cI))) (fun z => m_Form_applied z.1 z.2)) := by
  have F_dot := ok_dot (P := P) (w := w) T
  have F_vector := ok_vector (P := P) (w := w) T
  have sn := sc_Form_applied.nd
  refine fn_mk (ν := Empty) (κ := Empty) (eN := fun _ => []) (eK := fun _ => []) D sc_Form_applied rfl (by decide) (fun cdv A outer s H E hr hp hw z => ?_)
  obtain ⟨self, passed⟩ := z
  show DS _ _ true [.st T_Form c_Form self, .st ((List Int) × Int) (cP (aCons (cL cI) (aOne cI))) passed, .none, .none, .none] _ _ _ _ (fun b => (.ret b : Out ((List Int) × Int) Empty Empty)) (m_Form_applied self passed)
  unfold m_Form_applied
  refine asgT (c := (cP (aCons (cL cI) (aOne cI)))) (by exact (var 1)) (tgTup (fun _ => rfl) (tgsCons (tgName 2 (fun _ => sn)) (tgsOne (tgName 3 (fun _ => sn))))) fun p1 => ?_
  refine retF ?_
  exact (call F_vector (hr.mono (by decide)) hp (argC_mm (dl (dlc sn rfl (lc0 (f := (fun (line : (List Int)) => (m_dot line p1.1))) [("line", 4)] (blk_ok (by show blkB ["self", "passed", "numbers", "divisor", "line"] (defScope s_Form_applied) _ _ = true; decide +kernel)) (by exact (iterT (fld_p (cn := "Form") (ns := ns_Form) (r := ca_Form) (a := self) (pr := fun a => a.1.2) (var 0) (f_Form_entries)  (T.cls gf_cls_Form) (T.noat gf_noat_Form_entries)))) (tgB 4 sn) (fun b line => (by exact (callP F_dot (hr.mono (by decide)) lets0 (argC_pp (coeI (cT_LT cId) (var 4)) (arg1 (coeI (cL_LT cId) (var 2)))))))))) (arg1 (mul_pp (fld_p (cn := "Form") (ns := ns_Form) (r := ca_Form) (a := self) (pr := fun a => a.2) (var 0) (f_Form_bottom)  (T.cls gf_cls_Form) (T.noat gf_noat_Form_bottom)) (var 3)))))
theorem ok_Form_applied (T : Gl0 K mg base) : MtI P w K mg base "Form" "applied" 3 ["self", "passed"] (aCons c_Form (aOne (cP (aCons (cL cI) (aOne cI))))) (cP (aCons (cT cI) (aOne cI))) (fun z => m_Form_applied z.1 z.2) := by
  obtain ⟨fd, D⟩ := T.c.def_ di_Form_applied (d := d_Form_applied) rfl
  exact ⟨_, fd, fn_Form_applied T D, (T.meth gf_meth_Form_applied), fnIn_of D, (D.bindsN fun _ _ _ _ _ _ us hl => match us, hl with | [_, _], _ => rfl)⟩

theorem sc_law_pressed : FnScope ["outer", "table", "under", "inner", "middle", "scale", "point", "size", "found", "turned", "due", "k"] ["outer", "table", "under", "inner", "middle", "scale", "point"] (defScope s__law_pressed) := ⟨rfl, rfl, rfl, by decide +kernel, rfl, by decide +kernel, by decide +kernel⟩
theorem fn_law_pressed (T : Gl0 K mg base) {fd : FuncData} (D : FunD K d__law_pressed.name d__law_pressed.qual d__law_pressed.params d__law_pressed.body d__law_pressed.scope (d__law_pressed.dvs K) (d__law_pressed.kws K) (d__law_pressed.at_ K) fd) : FnOk P w K mg base (L2N.CX P w) 7 (d__law_pressed.at_ K) fd ["outer", "table", "under", "inner", "middle", "scale", "point"] (spF K (aCons c_Form (aCons (cL (cL cI)) (aCons cI (aCons c_Form (aCons (cL (cL cI)) (aCons cI (aOne (cL cI)))))))) cB (fun z => m_law_pressed z.1 z.2.1 z.2.2.1 z.2.2.2.1 z.2.2.2.2.1 z.2.2.2.2.2.1 z.2.2.2.2.2.2)) := by
  have F_Form_applied := ok_Form_applied (P := P) (w := w) T
  have F_Form_at := ok_Form_at (P := P) (w := w) T
  have F_Form_call := ok_Form_call (P := P) (w := w) T
  have F_law_dot := ok_law_dot (P := P) (w := w) T
  have F_law_form_is := ok_law_form_is (P := P) (w := w) T
  have F_law_sandwich := ok_law_sandwich (P := P) (w := w) T
  have F_law_stands := ok_law_stands (P := P) (w := w) T
  have F_law_value := ok_law_value (P := P) (w := w) T
  have F_sandwich := ok_sandwich (P := P) (w := w) T
  have sn := sc_law_pressed.nd
  refine fn_mk (ν := Empty) (κ := Empty) (eN := fun _ => []) (eK := fun _ => []) D sc_law_pressed rfl (by decide) (fun cdv A outer s H E hr hp hw z => ?_)
  obtain ⟨outer, table, under, inner, middle, scale, point⟩ := z
  show DS _ _ true [.st T_Form c_Form outer, .st (List (List Int)) (cL (cL cI)) table, .st Int cI under, .st T_Form c_Form inner, .st (List (List Int)) (cL (cL cI)) middle, .st Int cI scale, .st (List Int) (cL cI) point, .none, .none, .none, .none, .none] _ _ _ _ (fun b => (.ret b : Out Bool Empty Empty)) (m_law_pressed outer table under inner middle scale point)
  unfold m_law_pressed
  refine asg (c := cI) 7 sn (by exact (lenL_p (T.free fi_len) (var 1))) fun size => ?_
  refine asg (c := c_Form) 8 sn (by exact (callP F_sandwich (hr.mono (by decide)) hp (argC_pp (var 0) (arg1 (var 3))))) fun found => ?_
  refine ifA (by exact (notT (val (call F_law_form_is (hr.mono (by decide)) hp (argC_pm (var 8) (argC_mm (callP F_law_sandwich (hr.mono (by decide)) hp (argC_pp (var 1) (arg1 (var 4)))) (arg1 (mul_mp (mul_pp (var 2) (var 2)) (var 5))))))))) ?_ ?_
  · refine retF ?_
    exact bool
  refine ifA (by exact (notT (val (call F_law_form_is (hr.mono (by decide)) hp (argC_mm (callP F_sandwich (hr.mono (by decide)) hp (argC_pp (var 3) (arg1 (var 0)))) (argC_mm (callP F_law_sandwich (hr.mono (by decide)) hp (argC_pp (var 4) (arg1 (var 1)))) (arg1 (mul_mp (mul_pp (var 5) (var 5)) (var 2))))))))) ?_ ?_
  · refine retF ?_
    exact bool
  refine asgc (hi := Nat.le_of_ble_eq_true rfl) (c := cI) 9 sn rfl (by exact (lc0 (f := (fun (k : Int) => (((getM table k) >>= fun x10 => R.ok (x10, point)) >>= fun z => (m_law_dot z.1 z.2)))) [("k", 11)] (blk_ok (by show blkB ["outer", "table", "under", "inner", "middle", "scale", "point", "size", "found", "turned", "due", "k"] (defScope s__law_pressed) _ _ = true; decide +kernel)) (by exact (iterR1_p (T.free fi_range) (var 7))) (tgB 11 sn) (fun b k => (by exact (call F_law_dot (hr.mono (by decide)) lets0 (argC_mp (coeI (cL_LT cId) (ixL_pp (var 1) (var 11))) (arg1 (coeI (cL_LT cId) (var 6))))))))) fun turned => ?_
  refine asg (c := cI) 10 sn (by exact (callP F_law_value (hr.mono (by decide)) hp (argC_pp (var 4) (argC_pp (coeI (cL_LT cId) (var 9)) (arg1 (coeI (cL_LT cId) (var 9))))))) fun due => ?_
  refine ifA (by exact (notT (val (call F_law_stands (hr.mono (by decide)) hp (argC_mm (callOP F_Form_call (hr.mono (by decide)) hp (var 8) (arg1 (toT (T.free fi_tuple) (var 6)))) (argC_pm (var 10) (arg1 (mul_mp (mul_pp (var 2) (var 2)) (var 5))))))))) ?_ ?_
  · refine retF ?_
    exact bool
  refine retF ?_
  exact (call F_law_stands (hr.mono (by decide)) hp (argC_mm (meth F_Form_at (T.cls gf_cls_Form) (hr.mono (by decide)) hp (var 3) (arg1 (methP F_Form_applied (T.cls gf_cls_Form) (hr.mono (by decide)) hp (var 0) (arg1 (tupP (argC_pp (dl (toL (T.free fi_list) (var 6))) (arg1 int))))))) (argC_pm (var 10) (arg1 (mul_mp (mul_pp (var 2) (var 2)) (var 5))))))
theorem ok_law_pressed (T : Gl0 K mg base) : FnI P w K mg base "_law_pressed" 7 ["outer", "table", "under", "inner", "middle", "scale", "point"] (aCons c_Form (aCons (cL (cL cI)) (aCons cI (aCons c_Form (aCons (cL (cL cI)) (aCons cI (aOne (cL cI)))))))) cB (fun z => m_law_pressed z.1 z.2.1 z.2.2.1 z.2.2.2.1 z.2.2.2.2.1 z.2.2.2.2.2.1 z.2.2.2.2.2.2) := by
  obtain ⟨fd, D⟩ := T.c.def_ di__law_pressed (d := d__law_pressed) rfl
  exact fni (fn_law_pressed T D) (T.glo gi__law_pressed) D.kp (D.bindsN fun _ _ _ _ _ _ us hl => match us, hl with | [_, _, _, _, _, _, _], _ => rfl)

theorem fx_law_whole (T : Gl0 K mg base) {fd : FuncData} (D : FunD K d__law_whole.name d__law_whole.qual d__law_whole.params d__law_whole.body d__law_whole.scope (d__law_whole.dvs K) (d__law_whole.kws K) (d__law_whole.at_ K) fd) : FnX P w K mg base 1 (d__law_whole.at_ K) fd ["value"] (spX K (fun aX => (aOne cI)) cB (fun z => mh_law_whole z)) := by
  have sn := sc_law_whole.nd
  refine fx_mk (n := 1) (ν := Empty) (κ := Empty) (eN := fun _ => []) (eK := fun _ => []) D sc_law_whole (fun _ => rfl) rfl (by decide) (fun cdv A outer s H E qX hrH hX hp hw z => ?_)
  revert z; intro value
  show DS _ _ true [.st Int cI value] _ _ _ _ (fun b => (.ret b : Out Bool Empty Empty)) (mh_law_whole value)
  unfold mh_law_whole
  refine retF ?_
  exact (andV_q (isi_p (n := "int") (T := "int") (k := true) (by decide +kernel) (by decide +kernel) (T.free fi_isinstance) (T.free fi_int) (var 0)) (and1V (notV_p (isi_p (n := "int") (T := "bool") (k := false) (by decide +kernel) (by decide +kernel) (T.free fi_isinstance) (T.free fi_bool) (var 0)))))
theorem okx_law_whole (T : Gl0 K mg base) : FxI P w K mg base "_law_whole" 1 ["value"] (fun aX => (aOne cI)) cB (fun z => mh_law_whole z) := by
  obtain ⟨fd, D⟩ := T.c.def_ di__law_whole (d := d__law_whole) rfl
  exact fxi (fx_law_whole T D) (T.glo gi__law_whole) D.kp (D.bindsN fun _ _ _ _ _ _ us hl => match us, hl with | [_], _ => rfl)

theorem sc_law_refused : FnScope ["one", "two", "first", "second", "turn", "refused", "e"] ["one", "two", "first", "second"] (defScope s__law_refused) := ⟨rfl, rfl, rfl, by decide +kernel, rfl, by decide +kernel, by decide +kernel⟩
theorem fn_law_refused (T : Gl0 K mg base) {fd : FuncData} (D : FunD K d__law_refused.name d__law_refused.qual d__law_refused.params d__law_refused.body d__law_refused.scope (d__law_refused.dvs K) (d__law_refused.kws K) (d__law_refused.at_ K) fd) : FnOk P w K mg base (L2N.CX P w) 7 (d__law_refused.at_ K) fd ["one", "two", "first", "second"] (spF K (aCons c_Form (aCons c_Form (aCons cI (aOne cI)))) cB (fun z => m_law_refused z.1 z.2.1 z.2.2.1 z.2.2.2)) := by
  have F_paired := ok_paired (P := P) (w := w) T
  have F_sandwich := ok_sandwich (P := P) (w := w) T
  have FX_law_whole := okx_law_whole (P := P) (w := w) T
  have sn := sc_law_refused.nd
  refine fn_mk (ν := Empty) (κ := Empty) (eN := fun _ => []) (eK := fun _ => []) D sc_law_refused rfl (by decide) (fun cdv A outer s H E hr hp hw z => ?_)
  obtain ⟨one, two, first, second⟩ := z
  show DS _ _ true [.st T_Form c_Form one, .st T_Form c_Form two, .st Int cI first, .st Int cI second, .none, .none, .none] _ _ _ _ (fun b => (.ret b : Out Bool Empty Empty)) (m_law_refused one two first second)
  unfold m_law_refused
  refine forO (eL := fun (s1 : Unit) => [.st T_Form c_Form one, .st T_Form c_Form two, .st Int cI first, .st Int cI second, .none, .none, .none]) (step := (m_law_refused_b1 one two first second)) rfl hw (by exact (iterR1_p (T.free fi_range) int)) (tgN 4 sn) (leS (leS (leS (leS (leN (leN (leN leZ))))))) (fun s1 turn => ?_) (fun s13 => ?_)
  · unfold m_law_refused_b1
    refine asg (c := cB) 5 sn (by exact bool) fun refused => ?_
    refine tryAsV (eJ := fun (s12 : Bool) => [.st T_Form c_Form one, .st T_Form c_Form two, .st Int cI first, .st Int cI second, .st Int cI turn, .st Bool cB s12, .none]) (t := ([(("ZeroBottom" : Str), true), (("SizesDiffer" : Str), true), (("NotSymmetric" : Str), true), (("NotSquare" : Str), true), (("BadRow" : Str), true), (("BadWeight" : Str), true)] : XTab)) [] 6 sn ⟨rfl, by decide, .inl (T.glo gi_CordError)⟩ (T.tm 0) hp trivial (fun pnX xeX WX ka hp hw => ?_) (fun yX aX oX clX dX pnX hzX hvX => ?_) (fun s12 => ?_) (fun b => ⟨_, rfl, rfl⟩) (fun s12 => (leS (leS (leS (leS (leS (leS (leN leZ))))))))
    · refine if2_p (by exact (eqIT_pp (var 4) int)) ?_ ?_
      · refine drop (by exact (callP F_paired (hr.mono (by decide)) hp (argC_pp (var 0) (arg1 (var 1))))) fun _ => ?_
        exact (nil rfl (leS (leS (leS (leS (leS (leS (leN leZ))))))))
      refine drop (by exact (callP F_sandwich (hr.mono (by decide)) hp (argC_pp (var 0) (arg1 (var 1))))) fun _ => ?_
      exact (nil rfl (leS (leS (leS (leS (leS (leS (leN leZ))))))))
    · refine hot_in hzX hvX fun hX => ?_
      refine ifA (by exact (dt_dw (orW (notT (val (isOwn (t := ([(("ZeroBottom" : Str), false), (("SizesDiffer" : Str), true), (("NotSymmetric" : Str), false), (("NotSquare" : Str), false), (("BadRow" : Str), false), (("BadWeight" : Str), false)] : XTab)) 6 hX (T.glo gi_SizesDiffer) (T.tk 0) (T.free fi_isinstance)))) (orW (notT (val (isBlt (t := ([(("ZeroBottom" : Str), true), (("SizesDiffer" : Str), true), (("NotSymmetric" : Str), true), (("NotSquare" : Str), true), (("BadRow" : Str), true), (("BadWeight" : Str), true)] : XTab)) (tn := "ValueError") 6 hX (by decide +kernel) (T.free fi_ValueError) (T.tb 0) (T.free fi_isinstance)))) (or1 (val (isOwn (t := ([(("ZeroBottom" : Str), false), (("SizesDiffer" : Str), false), (("NotSymmetric" : Str), false), (("NotSquare" : Str), false), (("BadRow" : Str), false), (("BadWeight" : Str), false)] : XTab)) 6 hX (T.glo gi_BelowZero) (T.tk 1) (T.free fi_isinstance)))))))) ?_ ?_
      · refine retO ?_ rfl
        exact bool
      refine ifA (by exact (dt_dw (orW (val (isOwn (t := ([(("ZeroBottom" : Str), false), (("SizesDiffer" : Str), false), (("NotSymmetric" : Str), false), (("NotSquare" : Str), false), (("BadRow" : Str), false), (("BadWeight" : Str), false)] : XTab)) 6 hX (T.glo gi_NoInverse) (T.tk 2) (T.free fi_isinstance))) (or1 (val (isOwn (t := ([(("ZeroBottom" : Str), false), (("SizesDiffer" : Str), false), (("NotSymmetric" : Str), false), (("NotSquare" : Str), false), (("BadRow" : Str), false), (("BadWeight" : Str), false)] : XTab)) 6 hX (T.glo gi_NoSolution) (T.tk 3) (T.free fi_isinstance))))))) ?_ ?_
      · refine retO ?_ rfl
        exact bool
      refine ifA (by exact (dt_dw (orW (notT (val (callX FX_law_whole (roomS hr (by decide)) hX lets0 (arg1 (xfI (t := (["SizesDiffer"] : List Str)) 6 hX (T.more gm_xf_one)))))) (or1 (notT (val (callX FX_law_whole (roomS hr (by decide)) hX lets0 (arg1 (xfI (t := (["SizesDiffer"] : List Str)) 6 hX (T.more gm_xf_two)))))))))) ?_ ?_
      · refine retO ?_ rfl
        exact bool
      refine asg (c := cB) 5 sn (by exact (andV (eqI_mp (xfI (t := (["SizesDiffer"] : List Str)) 6 hX (T.more gm_xf_one)) (var 2)) (and1V (eqI_mp (xfI (t := (["SizesDiffer"] : List Str)) 6 hX (T.more gm_xf_two)) (var 3))))) fun refused => ?_
      exact (nil rfl (leS (leS (leS (leS (leS (leS (leN leZ))))))))
    refine if2_p (by exact (notT_p (val (var 5)))) ?_ ?_
    · refine retO ?_ rfl
      exact bool
    exact (nil rfl (leS (leS (leS (leS (leN (leN (leN leZ))))))))
  refine retF ?_
  exact bool
theorem ok_law_refused (T : Gl0 K mg base) : FnI P w K mg base "_law_refused" 7 ["one", "two", "first", "second"] (aCons c_Form (aCons c_Form (aCons cI (aOne cI)))) cB (fun z => m_law_refused z.1 z.2.1 z.2.2.1 z.2.2.2) := by
  obtain ⟨fd, D⟩ := T.c.def_ di__law_refused (d := d__law_refused) rfl
  exact fni (fn_law_refused T D) (T.glo gi__law_refused) D.kp (D.bindsN fun _ _ _ _ _ _ us hl => match us, hl with | [_, _, _, _], _ => rfl)

theorem sc_law : FnScope ["script", "drawn", "size", "turn", "lines", "table", "under", "middle", "others", "share", "rows", "again", "form", "due", "crossed", "point", "wrong", "strange", "k", "pair", "line"] ["script"] (defScope s_law) := ⟨rfl, rfl, rfl, by decide +kernel, rfl, by decide +kernel, by decide +kernel⟩
theorem fn_law (T : Gl0 K mg base) {fd : FuncData} (D : FunD K d_law.name d_law.qual d_law.params d_law.body d_law.scope (d_law.dvs K) (d_law.kws K) (d_law.at_ K) fd) : FnOk P w K mg base (L2N.CX P w) 8 (d_law.at_ K) fd ["script"] (spF K (aOne (cL cI)) cB m_law) := by
  have F_Form_init := ok_Form_init (P := P) (w := w) T
  have F_RowList_init_i_LHLiie_i := ok_RowList_init_i_LHLiie_i (P := P) (w := w) T
  have F_RowList_init_i_LPTiie_i := ok_RowList_init_i_LPTiie_i (P := P) (w := w) T
  have F_law_any_table := ok_law_any_table (P := P) (w := w) T
  have F_law_cell := ok_law_cell (P := P) (w := w) T
  have F_law_crossed := ok_law_crossed (P := P) (w := w) T
  have F_law_digits := ok_law_digits (P := P) (w := w) T
  have F_law_dot := ok_law_dot (P := P) (w := w) T
  have F_law_draw_list := ok_law_draw_list (P := P) (w := w) T
  have F_law_draw_pairs := ok_law_draw_pairs (P := P) (w := w) T
  have F_law_form_is := ok_law_form_is (P := P) (w := w) T
  have F_law_line := ok_law_line (P := P) (w := w) T
  have F_law_pressed := ok_law_pressed (P := P) (w := w) T
  have F_law_refused := ok_law_refused (P := P) (w := w) T
  have F_law_row := ok_law_row (P := P) (w := w) T
  have F_law_sandwich := ok_law_sandwich (P := P) (w := w) T
  have F_law_stands := ok_law_stands (P := P) (w := w) T
  have F_law_table := ok_law_table (P := P) (w := w) T
  have F_law_weighted := ok_law_weighted (P := P) (w := w) T
  have F_paired := ok_paired (P := P) (w := w) T
  have F_sandwich := ok_sandwich (P := P) (w := w) T
  have sn := sc_law.nd
  refine fn_mk (ν := Empty) (κ := Empty) (eN := fun _ => []) (eK := fun _ => []) D sc_law rfl (by decide) (fun cdv A outer s H E hr hp hw z => ?_)
  revert z; intro script
  show DS _ _ true [.st (List Int) (cL cI) script, .none, .none, .none, .none, .none, .none, .none, .none, .none, .none, .none, .none, .none, .none, .none, .none, .none, .none, .none, .none] _ _ _ _ (fun b => (.ret b : Out Bool Empty Empty)) (m_law script)
  unfold m_law
  refine asg (c := (cH (aCons cI (aCons (cL (cP (aCons (cT cI) (aOne cI)))) (aOne cI))))) 1 sn (by exact (callP F_law_draw_list (hr.mono (by decide)) hp (argC_pp (var 0) (argC_pp int (arg1 int))))) fun drawn => ?_
  refine asg (c := cI) 2 sn (by exact (ixh_0_3p (var 1))) fun size => ?_
  refine asg (c := (cL cI)) 3 sn (by exact (call F_law_digits (hr.mono (by decide)) hp (argC_mp (callP F_law_cell (hr.mono (by decide)) hp (argC_pp (var 0) (arg1 int))) (arg1 (dl (lst (lcons_pp int (lcons_pp int (lcons_pp int (lcons_pp int (lcons_pp int (lcons_pp int (lcons_pp int (lcons_pp int (lcons_pp int lnil))))))))))))))) fun turn => ?_
  refine asgc (hi := Nat.le_of_ble_eq_true rfl) (c := (cL cI)) 4 sn rfl (by exact (lc0 (f := (fun (k : Int) => ((m_law_cell script (((32 : Int) + k))) >>= m_law_line))) [("k", 18)] (blk_ok (by show blkB ["script", "drawn", "size", "turn", "lines", "table", "under", "middle", "others", "share", "rows", "again", "form", "due", "crossed", "point", "wrong", "strange", "k", "pair", "line"] (defScope s_law) _ _ = true; decide +kernel)) (by exact (iterR1_p (T.free fi_range) int)) (tgB 18 sn) (fun b k => (by exact (call F_law_line (hr.mono (by decide)) lets0 (arg1 (callP F_law_cell (hr.mono (by decide)) lets0 (argC_pp (var 0) (arg1 (add_pp int (var 18))))))))))) fun lines => ?_
  refine asg (c := (cL (cL cI))) 5 sn (by exact (call F_law_any_table (hr.mono (by decide)) hp (argC_pm (var 2) (argC_mp (ixL_pm (dl (lst (lcons_pp int (lcons_pp int (lcons_pp int (lcons_pp int (lcons_pp int lnil))))))) (ixL_pp (var 3) int)) (arg1 (var 4)))))) fun table => ?_
  refine asg (c := cI) 6 sn (by exact (ixL_mm (dl (lst (lcons_pm int (lcons_pm int (lcons_pm int (lcons_pm int (lcons_pm int (lcons_pm int (lcons_mm (add_mp (pow_pp int int) int) (lcons_mp (add_mp (pow_pp int int) int) lnil)))))))))) (ixL_pp (var 3) int))) fun under => ?_
  refine asg (c := (cL (cL cI))) 7 sn (by exact (callP F_law_table (hr.mono (by decide)) hp (argC_pp (var 2) (arg1 (ixh_1_3p (var 1)))))) fun middle => ?_
  refine asg (c := (cL (cP (aCons (cT cI) (aOne cI))))) 8 sn (by exact (call F_law_draw_pairs (hr.mono (by decide)) hp (argC_pm (var 0) (argC_pm int (argC_pm (var 2) (argC_mm (ixL_pp (var 3) int) (argC_mm (ixL_pp (var 3) int) (argC_mm (ixL_pp (var 3) int) (arg1 (ixL_pp (var 3) int)))))))))) fun others => ?_
  refine asg (c := cI) 9 sn (by exact (ixL_pm (dl (lst (lcons_pp int (lcons_pp int (lcons_pp int (lcons_pp int (lcons_pp int (lcons_pp int lnil)))))))) (ixL_pp (var 3) int))) fun share => ?_
  refine asg (c := c_RowList) 10 sn (by exact (by refine mk_new F_RowList_init_i_LHLiie_i (hr.mono (by decide)) hp ?_ ?_; exact (argC_pm (var 2) (arg1 (dl (dlc sn rfl (lc0 (f := (fun (pair : ((List Int) × Int)) => R.ok (pair.1, pair.2))) [("pair", 19)] (blk_ok (by show blkB ["script", "drawn", "size", "turn", "lines", "table", "under", "middle", "others", "share", "rows", "again", "form", "due", "crossed", "point", "wrong", "strange", "k", "pair", "line"] (defScope s_law) _ _ = true; decide +kernel)) (by exact (iterL (ixh_1_3p (var 1)))) (tgB 19 sn) (fun b pair => (by exact (lstH (argC_pp (dl (toL (T.free fi_list) (ix_0_2p (var 19)))) (arg1 (ix_1_2p (var 19)))))))))))); exact (dk1 (ixh_2_3p (var 1))))) fun rows => ?_
  refine asg (c := c_RowList) 11 sn (by exact (by refine mk_newP (a := (size, others)) (b := share) F_RowList_init_i_LPTiie_i (hr.mono (by decide)) hp ?_ ?_; exact (argC_pp (var 2) (arg1 (var 8))); exact (dk1 (var 9)))) fun again => ?_
  refine asg (c := c_Form) 12 sn (by exact (by refine mk_new F_Form_init (hr.mono (by decide)) hp ?_ ?_; exact (arg1 (dl (dlc sn rfl (lc0 (f := (fun (line : (List Int)) => R.ok line)) [("line", 20)] (blk_ok (by show blkB ["script", "drawn", "size", "turn", "lines", "table", "under", "middle", "others", "share", "rows", "again", "form", "due", "crossed", "point", "wrong", "strange", "k", "pair", "line"] (defScope s_law) _ _ = true; decide +kernel)) (by exact (iterL (var 5))) (tgB 20 sn) (fun b line => (by exact (dl (toL (T.free fi_list) (var 20))))))))); exact (dk1 (var 6)))) fun form => ?_
  refine ifA (by exact (dt_dw (orW (notT (val (callP F_law_form_is (hr.mono (by decide)) hp (argC_pp (fld_p (cn := "RowList") (ns := ns_RowList) (r := ca_RowList) (a := rows) (pr := fun a => a.2) (var 10) (f_RowList_form)  (T.cls gf_cls_RowList) (T.noat gf_noat_RowList_form)) (argC_pp (var 7) (arg1 (ixh_2_3p (var 1)))))))) (or1 (notT (val (callP F_law_form_is (hr.mono (by decide)) hp (argC_pp (var 12) (argC_pp (var 5) (arg1 (var 6))))))))))) ?_ ?_
  · refine retF ?_
    exact bool
  refine asg (c := cI) 13 sn (by exact (callP F_law_weighted (hr.mono (by decide)) hp (argC_pp (ixh_1_3p (var 1)) (arg1 (var 5))))) fun due => ?_
  refine ifA (by exact (notT (val (call F_law_stands (hr.mono (by decide)) hp (argC_mm (callP F_paired (hr.mono (by decide)) hp (argC_pp (fld_p (cn := "RowList") (ns := ns_RowList) (r := ca_RowList) (a := rows) (pr := fun a => a.2) (var 10) (f_RowList_form)  (T.cls gf_cls_RowList) (T.noat gf_noat_RowList_form)) (arg1 (var 12)))) (argC_pm (var 13) (arg1 (mul_pp (ixh_2_3p (var 1)) (var 6))))))))) ?_ ?_
  · refine retF ?_
    exact bool
  refine asg (c := (cP (aCons cI (aOne cI)))) 14 sn (by exact (callP F_paired (hr.mono (by decide)) hp (argC_pp (fld_p (cn := "RowList") (ns := ns_RowList) (r := ca_RowList) (a := rows) (pr := fun a => a.2) (var 10) (f_RowList_form)  (T.cls gf_cls_RowList) (T.noat gf_noat_RowList_form)) (arg1 (fld_p (cn := "RowList") (ns := ns_RowList) (r := ca_RowList) (a := again) (pr := fun a => a.2) (var 11) (f_RowList_form)  (T.cls gf_cls_RowList) (T.noat gf_noat_RowList_form)))))) fun crossed => ?_
  refine ifA (by exact (dt_dw (orW (notT (val (call F_law_stands (hr.mono (by decide)) hp (argC_pm (var 14) (argC_mm (callP F_law_crossed (hr.mono (by decide)) hp (argC_pp (ixh_1_3p (var 1)) (arg1 (var 8)))) (arg1 (mul_pp (ixh_2_3p (var 1)) (var 9)))))))) (or1 (ltT_pp (ix_0_2p (var 14)) int))))) ?_ ?_
  · refine retF ?_
    exact bool
  refine ifA (by exact (notT (val (call F_law_stands (hr.mono (by decide)) hp (argC_mm (callP F_paired (hr.mono (by decide)) hp (argC_pp (var 12) (arg1 (fld_p (cn := "RowList") (ns := ns_RowList) (r := ca_RowList) (a := rows) (pr := fun a => a.2) (var 10) (f_RowList_form)  (T.cls gf_cls_RowList) (T.noat gf_noat_RowList_form))))) (argC_pm (var 13) (arg1 (mul_pp (ixh_2_3p (var 1)) (var 6))))))))) ?_ ?_
  · refine retF ?_
    exact bool
  refine ifA (by exact (notT (val (call F_law_stands (hr.mono (by decide)) hp (argC_mm (callP F_paired (hr.mono (by decide)) hp (argC_pp (var 12) (arg1 (var 12)))) (argC_mm (sumL (T.free fi_sum) (dl (dlc sn rfl (lc0 (f := (fun (line : (List Int)) => (m_law_dot line line))) [("line", 20)] (blk_ok (by show blkB ["script", "drawn", "size", "turn", "lines", "table", "under", "middle", "others", "share", "rows", "again", "form", "due", "crossed", "point", "wrong", "strange", "k", "pair", "line"] (defScope s_law) _ _ = true; decide +kernel)) (by exact (iterL (var 5))) (tgB 20 sn) (fun b line => (by exact (callP F_law_dot (hr.mono (by decide)) lets0 (argC_pp (coeI (cL_LT cId) (var 20)) (arg1 (coeI (cL_LT cId) (var 20))))))))))) (arg1 (mul_pp (var 6) (var 6))))))))) ?_ ?_
  · refine retF ?_
    exact bool
  refine ifA (by exact (notT (val (call F_law_form_is (hr.mono (by decide)) hp (argC_mm (callP F_sandwich (hr.mono (by decide)) hp (argC_pp (var 12) (arg1 (var 12)))) (argC_mm (callP F_law_sandwich (hr.mono (by decide)) hp (argC_pp (var 5) (arg1 (var 5)))) (arg1 (mul_mp (mul_pp (var 6) (var 6)) (var 6))))))))) ?_ ?_
  · refine retF ?_
    exact bool
  refine asg (c := (cL cI)) 15 sn (by exact (call F_law_row (hr.mono (by decide)) hp (argC_pm (var 2) (argC_mm (ixL_pp (var 3) int) (arg1 (call F_law_line (hr.mono (by decide)) hp (arg1 (callP F_law_cell (hr.mono (by decide)) hp (argC_pp (var 0) (arg1 int)))))))))) fun point => ?_
  refine ifA (by exact (notT (val (callP F_law_pressed (hr.mono (by decide)) hp (argC_pp (var 12) (argC_pp (var 5) (argC_pp (var 6) (argC_pp (fld_p (cn := "RowList") (ns := ns_RowList) (r := ca_RowList) (a := rows) (pr := fun a => a.2) (var 10) (f_RowList_form)  (T.cls gf_cls_RowList) (T.noat gf_noat_RowList_form)) (argC_pp (var 7) (argC_pp (ixh_2_3p (var 1)) (arg1 (var 15)))))))))))) ?_ ?_
  · refine retF ?_
    exact bool
  refine asg (c := cI) 16 sn (by exact (add_pp (var 2) int)) fun wrong => ?_
  refine ifJ (eJ := fun (j58 : Int) => [.st (List Int) (cL cI) script, .st (Int × (List ((List Int) × Int)) × Int) (cH (aCons cI (aCons (cL (cP (aCons (cT cI) (aOne cI)))) (aOne cI)))) drawn, .st Int cI size, .st (List Int) (cL cI) turn, .st (List (List Int)) (cL (cL cI)) lines, .st (List (List Int)) (cL (cL cI)) table, .st Int cI under, .st (List (List Int)) (cL (cL cI)) middle, .st (List ((List Int) × Int)) (cL (cP (aCons (cT cI) (aOne cI)))) others, .st Int cI share, .st T_RowList c_RowList rows, .st T_RowList c_RowList again, .st T_Form c_Form form, .st Int cI due, .st (Int × Int) (cP (aCons cI (aOne cI))) crossed, .st (List Int) (cL cI) point, .st Int cI j58, .none, .none, .none, .none]) (by exact (dt_dw (orW_p (eqIT_pp (var 2) int) (or1 (dt_dw (andW (eqIT_mp (ixL_pp (var 3) int) int) (and1 (gtT_pp (var 2) int)))))))) ?_ ?_ fun j58 => ?_
  · refine asg (c := cI) 16 sn (by exact (sub_pp (var 2) int)) fun wrong => ?_
    exact (nil rfl (leS (leS (leS (leS (leS (leS (leS (leS (leS (leS (leS (leS (leS (leS (leS (leS (leS (leN (leN (leN (leN leZ))))))))))))))))))))))
  · exact (nil rfl (leS (leS (leS (leS (leS (leS (leS (leS (leS (leS (leS (leS (leS (leS (leS (leS (leS (leN (leN (leN (leN leZ))))))))))))))))))))))
  refine asg (c := c_Form) 17 sn (by exact (by refine mk_new F_Form_init (hr.mono (by decide)) hp ?_ ?_; exact (arg1 (callP F_law_any_table (hr.mono (by decide)) hp (argC_pp (var 16) (argC_pp int (arg1 (var 4)))))); exact (dk1 (var 6)))) fun strange => ?_
  refine ifA (by exact (dt_dw (orW (notT (val (callP F_law_refused (hr.mono (by decide)) hp (argC_pp (var 12) (argC_pp (var 17) (argC_pp (var 2) (arg1 (var 16)))))))) (or1 (notT (val (callP F_law_refused (hr.mono (by decide)) hp (argC_pp (var 17) (argC_pp (var 12) (argC_pp (var 16) (arg1 (var 2)))))))))))) ?_ ?_
  · refine retF ?_
    exact bool
  refine retF ?_
  exact (call F_law_stands (hr.mono (by decide)) hp (argC_mm (callP F_paired (hr.mono (by decide)) hp (argC_pp (fld_p (cn := "RowList") (ns := ns_RowList) (r := ca_RowList) (a := rows) (pr := fun a => a.2) (var 10) (f_RowList_form)  (T.cls gf_cls_RowList) (T.noat gf_noat_RowList_form)) (arg1 (var 12)))) (argC_pm (var 13) (arg1 (mul_pp (ixh_2_3p (var 1)) (var 6))))))
theorem ok_law (T : Gl0 K mg base) : FnI P w K mg base "law" 8 ["script"] (aOne (cL cI)) cB m_law := by
  obtain ⟨fd, D⟩ := T.c.def_ di_law (d := d_law) rfl
  exact fni (fn_law T D) (T.glo gi_law) D.kp (D.bindsN fun _ _ _ _ _ _ us hl => match us, hl with | [_], _ => rfl)
end
end Lw
set_option maxHeartbeats 4000000
namespace Lw
open PySem PySem.Spec PyProof.Rows L2 Zk
theorem facts {P : Program} {w : World} {K : PySem.W.Frag} {h : Heap} {mg : Str → Option Value} {f : Addr} (X : K.In h) (G : h.Ns mainGlobals mg) (hfa : mg ("law" : Str) = some (.ref f)) (c : He5.SaysA fa fn K) (e : exW hv xs xm xk xb ms K = true) :
    ∃ fd : FuncData, (∀ (s : Shared) (v : Value), BindsTo s fd ⟨[v], []⟩ [("script", v)]) ∧ ∀ base : Heap, K.In base → base.Ns mainGlobals mg → FnOk P w K mg base (L2N.CX P w) 8 f fd ["script"] (spF K (aOne (cL cI)) cB m_law) := by
  obtain ⟨fd, D⟩ := c.def_ di_law (d := d_law) rfl
  have e1 := hfa.symm.trans (He.glo_ok X G (c.fact gi_law (f := .glo "law") rfl))
  cases e1
  have b := FunD.bindsA (ps := ["script"]) D fun _ _ _ _ _ _ us hl => match us, hl with | [_], _ => rfl
  exact ⟨fd, fun s v => b s [v] rfl, fun base hK hG => fn_law (P := P) (w := w) (mg := mg) (base := base) ⟨hK, hG, c, e⟩ D⟩
end Lw
set_option maxHeartbeats 0
open PySem PySem.W PySem.Calls PyProof.Rows
theorem PySem.Challenge.cw_fourcords_k24_paired_sums_holds : PySem.Challenge.rw_fourcords_k24_paired_sums.Holds := by
  w_on; o_law
  refine HandSHeadRun.head_imp (r := OpenLaw.row PySem.Challenge.rw_fourcords_k24_paired_sums) (q := view (OpenLaw.row PySem.Challenge.rw_fourcords_k24_paired_sums).prog [0, 65]) (H := Lw.hk) (ob := Lw.ob) (M := 60000) (loose := Lw.loose) (d := HandSHeadRun.topDef (OpenLaw.row PySem.Challenge.rw_fourcords_k24_paired_sums).prog 65) (kwd := []) Lw.ob_eq
    Lw.run (by kernel_rfl) (by kernel_rfl) (by kernel_rfl) (by rfl) (by first | assumption | decide +kernel) (by decide +kernel) ⟨rfl, rfl, rfl, rfl, rfl, by decide +kernel⟩ ?hw ?hc
  case hw => w_witness2
  case hc =>
    refine Zk.law_end (l := PySem.Challenge.rw_fourcords_k24_paired_sums) (m := 63) (k := 8) (x := "script") rfl (by decide) (by kernel_rfl) ⟨rfl, by decide, by decide⟩ ?F
    intro w mg fa h Y G hmg0
    obtain ⟨K, KX, c, e⟩ := Y
    have hmg : mg ("law" : PySem.Str) = some (.ref fa) := by
      have e : (HandSHeadRun.topDef (OpenLaw.row PySem.Challenge.rw_fourcords_k24_paired_sums).prog 65).name = ("law" : PySem.Str) := by kernel_rfl
      rw [← e]
      exact hmg0
    obtain ⟨fd, hb, hF⟩ := Lw.facts (P := (PySem.Challenge.rw_fourcords_k24_paired_sums).prog) (w := w) KX G hmg c e
    exact ⟨K, fd, _, KX, hb, fun H a ns hl hS => Zk.law_sp (fun ns _ => Lw.law_ok ns) H a ns hl hS, hF⟩
