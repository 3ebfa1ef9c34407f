import PyProof.Rows.All
import Wide.All
import OpenK.AllK
import Wide.FinOn
import HandS.ForMost
import HandS.ForExc
import HandS.Defaults
import HandS.ExcIs
import HandS.ExcField
import HandS.ExcInit
import HandS.OwnEq
import HandS.IsInst
import HandS.Head0
import HandS.Head1
import HandS.Head2
import HandS.Head3
import HandS.HeadEnd
import HandS.HeadHook1
import HandS.HeadHook2
import HandS.HeadHook3
import HandS.HeadHook4
import HandS.HeadWalk
import HandS.AnyAll
import HandS.GenOver
import PyProof.TupleOfGen
import PyProof.WalkInts
import HandS.Gcd
import HandS.WideBits
import HandS.Wide
import HandS.Zip
import HandS.TupAny
import HandS.Walk
import HandS.Evl
import HandS.HotCalls
import PySem.Challenge.RW_fourread_k71_whole_any_table
set_option Elab.async false
set_option linter.all false
set_option maxRecDepth 100000
namespace Q
open PySem PySem.Spec PyProof.Rows L2
def top (i : Nat) : Stmt := PySem.Challenge.pw_fourread_k71_whole_any_table.main.body.getD i (.Pass ⟨0, 0, 0, 0⟩)
abbrev s_is_integer : Stmt := top 12
abbrev s_is_between : Stmt := top 13
abbrev s_is_bit : Stmt := top 14
abbrev s_is_bits : Stmt := top 15
abbrev s_is_some_word : Stmt := top 16
abbrev s_is_word : Stmt := top 17
abbrev s_word_at : Stmt := top 18
abbrev s_bits_number : Stmt := top 19
abbrev s_parity_of : Stmt := top 20
abbrev s_Tinit : Stmt := inClass (top 23) 0
abbrev s_sum_table : Stmt := top 24
abbrev s_distance : Stmt := top 25
abbrev s_signed_sum : Stmt := top 27
abbrev s_sums_and_differences : Stmt := top 28
abbrev s_signed_sums : Stmt := top 29
abbrev s_Sinit : Stmt := inClass (top 32) 0
abbrev s_mended : Stmt := top 34
abbrev s_ones_of : Stmt := top 35
abbrev s_one_share : Stmt := top 36
abbrev s_greatest_of : Stmt := top 39
abbrev s_least_distance : Stmt := top 40
abbrev s_nearest_sums : Stmt := top 41
abbrev s_beginning_weight : Stmt := top 43
abbrev s_passes_sum : Stmt := top 45
abbrev s_power_of : Stmt := top 46
abbrev s_law_integer : Stmt := top 49
abbrev s_law_start : Stmt := top 50
abbrev s_law_draw : Stmt := top 51
abbrev s_law_wide : Stmt := top 52
abbrev s_law_gcd : Stmt := top 53
abbrev s_law_is : Stmt := top 54
abbrev s_law_bits : Stmt := top 55
abbrev s_law_word : Stmt := top 56
abbrev s_law_dot : Stmt := top 57
abbrev s_law_plus : Stmt := top 58
abbrev s_law_number : Stmt := top 62
abbrev s_law_odd : Stmt := top 59
abbrev s_law_halves : Stmt := top 61
abbrev s_law_cells : Stmt := top 60
abbrev s_law_numbers_are : Stmt := top 63
abbrev s_law_rows_are : Stmt := top 64
abbrev s_Seq : Stmt := inClass (top 32) 5
abbrev s_InvalidNumber___init__ : Stmt := inClass (top 4) 0
abbrev s_InvalidShare___init__ : Stmt := inClass (top 8) 0
abbrev s_Undefined___init__ : Stmt := inClass (top 9) 0
abbrev s_mended_bit : Stmt := top 37
abbrev s_near_sums : Stmt := top 42
abbrev s_passing_share : Stmt := top 47
abbrev s_table_from : Stmt := top 30
abbrev s_law_signed : Stmt := top 65
abbrev s_law_no_share : Stmt := top 68
abbrev s_law_no_many : Stmt := top 70
abbrev s_law_from : Stmt := top 66
abbrev s_law_near : Stmt := top 67
abbrev s_law_tested : Stmt := top 69
abbrev s_law_mended : Stmt := top 71
abbrev s_law_body : Stmt := top 72
abbrev s_law : Stmt := top 73
end Q
set_option Elab.async false
set_option linter.all false
set_option maxRecDepth 100000
set_option maxHeartbeats 0
namespace Q
open PySem PySem.Spec PyProof.Rows L2
def d_is_integer : He.DefD := { at_ := ("is_integer", none), name := "is_integer", qual := "is_integer", params := defArgs s_is_integer, body := defBody s_is_integer, scope := defScope s_is_integer }
def d_is_between : He.DefD := { at_ := ("is_between", none), name := "is_between", qual := "is_between", params := defArgs s_is_between, body := defBody s_is_between, scope := defScope s_is_between }
def d_is_bit : He.DefD := { at_ := ("is_bit", none), name := "is_bit", qual := "is_bit", params := defArgs s_is_bit, body := defBody s_is_bit, scope := defScope s_is_bit }
def d_is_bits : He.DefD := { at_ := ("is_bits", none), name := "is_bits", qual := "is_bits", params := defArgs s_is_bits, body := defBody s_is_bits, scope := defScope s_is_bits }
def d_is_some_word : He.DefD := { at_ := ("is_some_word", none), name := "is_some_word", qual := "is_some_word", params := defArgs s_is_some_word, body := defBody s_is_some_word, scope := defScope s_is_some_word }
def d_is_word : He.DefD := { at_ := ("is_word", none), name := "is_word", qual := "is_word", params := defArgs s_is_word, body := defBody s_is_word, scope := defScope s_is_word }
def d_word_at : He.DefD := { at_ := ("word_at", none), name := "word_at", qual := "word_at", params := defArgs s_word_at, body := defBody s_word_at, scope := defScope s_word_at }
def d_bits_number : He.DefD := { at_ := ("bits_number", none), name := "bits_number", qual := "bits_number", params := defArgs s_bits_number, body := defBody s_bits_number, scope := defScope s_bits_number }
def d_parity_of : He.DefD := { at_ := ("parity_of", none), name := "parity_of", qual := "parity_of", params := defArgs s_parity_of, body := defBody s_parity_of, scope := defScope s_parity_of }
def d_sum_table : He.DefD := { at_ := ("sum_table", none), name := "sum_table", qual := "sum_table", params := defArgs s_sum_table, body := defBody s_sum_table, scope := defScope s_sum_table }
def d_distance : He.DefD := { at_ := ("distance", none), name := "distance", qual := "distance", params := defArgs s_distance, body := defBody s_distance, scope := defScope s_distance }
def d_signed_sum : He.DefD := { at_ := ("signed_sum", none), name := "signed_sum", qual := "signed_sum", params := defArgs s_signed_sum, body := defBody s_signed_sum, scope := defScope s_signed_sum }
def d_sums_and_differences : He.DefD := { at_ := ("sums_and_differences", none), name := "sums_and_differences", qual := "sums_and_differences", params := defArgs s_sums_and_differences, body := defBody s_sums_and_differences, scope := defScope s_sums_and_differences }
def d_signed_sums : He.DefD := { at_ := ("signed_sums", none), name := "signed_sums", qual := "signed_sums", params := defArgs s_signed_sums, body := defBody s_signed_sums, scope := defScope s_signed_sums }
def d_table_from : He.DefD := { at_ := ("table_from", none), name := "table_from", qual := "table_from", params := defArgs s_table_from, body := defBody s_table_from, scope := defScope s_table_from }
def d_mended : He.DefD := { at_ := ("mended", none), name := "mended", qual := "mended", params := defArgs s_mended, body := defBody s_mended, scope := defScope s_mended }
def d_ones_of : He.DefD := { at_ := ("ones_of", none), name := "ones_of", qual := "ones_of", params := defArgs s_ones_of, body := defBody s_ones_of, scope := defScope s_ones_of }
def d_one_share : He.DefD := { at_ := ("one_share", none), name := "one_share", qual := "one_share", params := defArgs s_one_share, body := defBody s_one_share, scope := defScope s_one_share }
def d_mended_bit : He.DefD := { at_ := ("mended_bit", none), name := "mended_bit", qual := "mended_bit", params := defArgs s_mended_bit, body := defBody s_mended_bit, scope := defScope s_mended_bit }
def d_greatest_of : He.DefD := { at_ := ("greatest_of", none), name := "greatest_of", qual := "greatest_of", params := defArgs s_greatest_of, body := defBody s_greatest_of, scope := defScope s_greatest_of }
def d_least_distance : He.DefD := { at_ := ("least_distance", none), name := "least_distance", qual := "least_distance", params := defArgs s_least_distance, body := defBody s_least_distance, scope := defScope s_least_distance }
def d_nearest_sums : He.DefD := { at_ := ("nearest_sums", none), name := "nearest_sums", qual := "nearest_sums", params := defArgs s_nearest_sums, body := defBody s_nearest_sums, scope := defScope s_nearest_sums }
def d_near_sums : He.DefD := { at_ := ("near_sums", none), name := "near_sums", qual := "near_sums", params := defArgs s_near_sums, body := defBody s_near_sums, scope := defScope s_near_sums }
def d_beginning_weight : He.DefD := { at_ := ("beginning_weight", none), name := "beginning_weight", qual := "beginning_weight", params := defArgs s_beginning_weight, body := defBody s_beginning_weight, scope := defScope s_beginning_weight }
def d_passes_sum : He.DefD := { at_ := ("passes_sum", none), name := "passes_sum", qual := "passes_sum", params := defArgs s_passes_sum, body := defBody s_passes_sum, scope := defScope s_passes_sum }
def d_power_of : He.DefD := { at_ := ("power_of", none), name := "power_of", qual := "power_of", params := defArgs s_power_of, body := defBody s_power_of, scope := defScope s_power_of }
def d_passing_share : He.DefD := { at_ := ("passing_share", none), name := "passing_share", qual := "passing_share", params := defArgs s_passing_share, body := defBody s_passing_share, scope := defScope s_passing_share, kwd := [("many", .int 2)] }
def d__law_integer : He.DefD := { at_ := ("_law_integer", none), name := "_law_integer", qual := "_law_integer", params := defArgs s_law_integer, body := defBody s_law_integer, scope := defScope s_law_integer }
def d__law_start : He.DefD := { at_ := ("_law_start", none), name := "_law_start", qual := "_law_start", params := defArgs s_law_start, body := defBody s_law_start, scope := defScope s_law_start }
def d__law_draw : He.DefD := { at_ := ("_law_draw", none), name := "_law_draw", qual := "_law_draw", params := defArgs s_law_draw, body := defBody s_law_draw, scope := defScope s_law_draw }
def d__law_wide : He.DefD := { at_ := ("_law_wide", none), name := "_law_wide", qual := "_law_wide", params := defArgs s_law_wide, body := defBody s_law_wide, scope := defScope s_law_wide }
def d__law_gcd : He.DefD := { at_ := ("_law_gcd", none), name := "_law_gcd", qual := "_law_gcd", params := defArgs s_law_gcd, body := defBody s_law_gcd, scope := defScope s_law_gcd }
def d__law_is : He.DefD := { at_ := ("_law_is", none), name := "_law_is", qual := "_law_is", params := defArgs s_law_is, body := defBody s_law_is, scope := defScope s_law_is }
def d__law_bits : He.DefD := { at_ := ("_law_bits", none), name := "_law_bits", qual := "_law_bits", params := defArgs s_law_bits, body := defBody s_law_bits, scope := defScope s_law_bits }
def d__law_word : He.DefD := { at_ := ("_law_word", none), name := "_law_word", qual := "_law_word", params := defArgs s_law_word, body := defBody s_law_word, scope := defScope s_law_word }
def d__law_dot : He.DefD := { at_ := ("_law_dot", none), name := "_law_dot", qual := "_law_dot", params := defArgs s_law_dot, body := defBody s_law_dot, scope := defScope s_law_dot }
def d__law_plus : He.DefD := { at_ := ("_law_plus", none), name := "_law_plus", qual := "_law_plus", params := defArgs s_law_plus, body := defBody s_law_plus, scope := defScope s_law_plus }
def d__law_odd : He.DefD := { at_ := ("_law_odd", none), name := "_law_odd", qual := "_law_odd", params := defArgs s_law_odd, body := defBody s_law_odd, scope := defScope s_law_odd }
def d__law_cells : He.DefD := { at_ := ("_law_cells", none), name := "_law_cells", qual := "_law_cells", params := defArgs s_law_cells, body := defBody s_law_cells, scope := defScope s_law_cells }
def d__law_halves : He.DefD := { at_ := ("_law_halves", none), name := "_law_halves", qual := "_law_halves", params := defArgs s_law_halves, body := defBody s_law_halves, scope := defScope s_law_halves }
def d__law_number : He.DefD := { at_ := ("_law_number", none), name := "_law_number", qual := "_law_number", params := defArgs s_law_number, body := defBody s_law_number, scope := defScope s_law_number }
def d__law_numbers_are : He.DefD := { at_ := ("_law_numbers_are", none), name := "_law_numbers_are", qual := "_law_numbers_are", params := defArgs s_law_numbers_are, body := defBody s_law_numbers_are, scope := defScope s_law_numbers_are }
def d__law_rows_are : He.DefD := { at_ := ("_law_rows_are", none), name := "_law_rows_are", qual := "_law_rows_are", params := defArgs s_law_rows_are, body := defBody s_law_rows_are, scope := defScope s_law_rows_are }
def d__law_signed : He.DefD := { at_ := ("_law_signed", none), name := "_law_signed", qual := "_law_signed", params := defArgs s_law_signed, body := defBody s_law_signed, scope := defScope s_law_signed }
def d__law_from : He.DefD := { at_ := ("_law_from", none), name := "_law_from", qual := "_law_from", params := defArgs s_law_from, body := defBody s_law_from, scope := defScope s_law_from }
def d__law_near : He.DefD := { at_ := ("_law_near", none), name := "_law_near", qual := "_law_near", params := defArgs s_law_near, body := defBody s_law_near, scope := defScope s_law_near }
def d__law_no_share : He.DefD := { at_ := ("_law_no_share", none), name := "_law_no_share", qual := "_law_no_share", params := defArgs s_law_no_share, body := defBody s_law_no_share, scope := defScope s_law_no_share }
def d__law_tested : He.DefD := { at_ := ("_law_tested", none), name := "_law_tested", qual := "_law_tested", params := defArgs s_law_tested, body := defBody s_law_tested, scope := defScope s_law_tested }
def d__law_no_many : He.DefD := { at_ := ("_law_no_many", none), name := "_law_no_many", qual := "_law_no_many", params := defArgs s_law_no_many, body := defBody s_law_no_many, scope := defScope s_law_no_many }
def d__law_mended : He.DefD := { at_ := ("_law_mended", none), name := "_law_mended", qual := "_law_mended", params := defArgs s_law_mended, body := defBody s_law_mended, scope := defScope s_law_mended }
def d__law_body : He.DefD := { at_ := ("_law_body", none), name := "_law_body", qual := "_law_body", params := defArgs s_law_body, body := defBody s_law_body, scope := defScope s_law_body }
def d_law : He.DefD := { at_ := ("law", none), name := "law", qual := "law", params := defArgs s_law, body := defBody s_law, scope := defScope s_law }
def d_m_Tinit : He.DefD := { at_ := ("Table", some "__init__"), name := "__init__", qual := "Table.__init__", params := defArgs s_Tinit, body := defBody s_Tinit, scope := defScope s_Tinit }
def d_m_Sinit : He.DefD := { at_ := ("Share", some "__init__"), name := "__init__", qual := "Share.__init__", params := defArgs s_Sinit, body := defBody s_Sinit, scope := defScope s_Sinit }
def d_m_Seq : He.DefD := { at_ := ("Share", some "__eq__"), name := "__eq__", qual := "Share.__eq__", params := defArgs s_Seq, body := defBody s_Seq, scope := defScope s_Seq }
def d_m_InvalidNumber : He.DefD := { at_ := ("InvalidNumber", some "__init__"), name := "__init__", qual := "InvalidNumber.__init__", params := defArgs s_InvalidNumber___init__, body := defBody s_InvalidNumber___init__, scope := defScope s_InvalidNumber___init__ }
def d_m_InvalidShare : He.DefD := { at_ := ("InvalidShare", some "__init__"), name := "__init__", qual := "InvalidShare.__init__", params := defArgs s_InvalidShare___init__, body := defBody s_InvalidShare___init__, scope := defScope s_InvalidShare___init__ }
def d_m_Undefined : He.DefD := { at_ := ("Undefined", some "__init__"), name := "__init__", qual := "Undefined.__init__", params := defArgs s_Undefined___init__, body := defBody s_Undefined___init__, scope := defScope s_Undefined___init__ }
def hfn0 : List He.DefD := [d_is_integer, d_is_between, d_is_bit, d_is_bits, d_is_some_word, d_is_word, d_word_at, d_bits_number, d_parity_of, d_sum_table, d_distance, d_signed_sum, d_sums_and_differences, d_signed_sums, d_table_from, d_mended, d_ones_of, d_one_share, d_mended_bit, d_greatest_of]
def hfn1 : List He.DefD := [d_least_distance, d_nearest_sums, d_near_sums, d_beginning_weight, d_passes_sum, d_power_of, d_passing_share, d__law_integer, d__law_start, d__law_draw, d__law_wide, d__law_gcd, d__law_is, d__law_bits, d__law_word, d__law_dot, d__law_plus, d__law_odd, d__law_cells, d__law_halves]
def hfn2 : List He.DefD := [d__law_number, d__law_numbers_are, d__law_rows_are, d__law_signed, d__law_from, d__law_near, d__law_no_share, d__law_tested, d__law_no_many, d__law_mended, d__law_body, d_law, d_m_Tinit, d_m_Sinit, d_m_Seq, d_m_InvalidNumber, d_m_InvalidShare, d_m_Undefined]
def hfn : List He.DefD := hfn0 ++ (hfn1 ++ (hfn2))
def hfa0 : List He.Fa := [.glo "_wall", .glo "ReadError", .glo "InvalidNumber", .glo "InvalidWord", .glo "InvalidWords", .glo "InvalidTable", .glo "InvalidShare", .glo "Undefined", .glo "is_integer", .glo "is_between", .glo "is_bit", .glo "is_bits", .glo "is_some_word", .glo "is_word", .glo "word_at", .glo "bits_number", .glo "parity_of", .glo "Table", .glo "sum_table", .glo "distance"]
def hfa1 : List He.Fa := [.glo "signed_sum", .glo "sums_and_differences", .glo "signed_sums", .glo "table_from", .glo "Share", .glo "mended", .glo "ones_of", .glo "one_share", .glo "mended_bit", .glo "greatest_of", .glo "least_distance", .glo "nearest_sums", .glo "near_sums", .glo "beginning_weight", .glo "passes_sum", .glo "power_of", .glo "passing_share", .glo "_law_integer", .glo "_law_start", .glo "_law_draw"]
def hfa2 : List He.Fa := [.glo "_law_wide", .glo "_law_gcd", .glo "_law_is", .glo "_law_bits", .glo "_law_word", .glo "_law_dot", .glo "_law_plus", .glo "_law_odd", .glo "_law_cells", .glo "_law_halves", .glo "_law_number", .glo "_law_numbers_are", .glo "_law_rows_are", .glo "_law_signed", .glo "_law_from", .glo "_law_near", .glo "_law_no_share", .glo "_law_tested", .glo "_law_no_many", .glo "_law_mended"]
def hfa3 : List He.Fa := [.glo "_law_body", .glo "law", .free "isinstance", .free "int", .free "bool", .free "tuple", .free "all", .free "len", .free "range", .free "sum", .free "zip", .free "list", .free "str", .free "abs", .free "max", .free "ValueError", .int "LONGEST" 12, .int "LARGEST" 10, .cls "Table", .cls "Share"]
def hfa4 : List He.Fa := [.noat "Table" "n", .noat "Table" "bits", .noat "Share" "over", .noat "Share" "under", .mkr "Table", .mkr "Share"]
def hfa : List He.Fa := hfa0 ++ (hfa1 ++ (hfa2 ++ (hfa3 ++ (hfa4))))
def htf : List He.Defn := [("is_bits", none), ("word_at", none), ("parity_of", none), ("Table", some "__init__"), ("distance", none), ("ones_of", none), ("greatest_of", none), ("nearest_sums", none), ("near_sums", none), ("beginning_weight", none), ("passes_sum", none), ("passing_share", none), ("table_from", none)]
def clsB (K : W.Frag) (C : Addr) : Bool := decide (W.findIn K (.ref C) "__class__" = some (some (.builtin "object.__class__"))) && (decide (W.specialIn K (.builtin "object.__class__") "__get__" = some (some (.builtin "getset_descriptor.__get__"))) &&
  (decide (W.takesIn K (.builtin "object.__class__") = some true) && decide (W.mroIn K C (.type "object") = some true)))
theorem clsB_ok {K : W.Frag} {C : Addr} (h : clsB K C = true) (c : Cls K C) {H : Hp} {a dx : Addr} {fs : List (Str × V)} (e : H a = some (.ins C dx fs)) : TyX K H (.ref a) (.ref C) := by
  obtain ⟨h1, h⟩ := He.ba h
  obtain ⟨h2, h⟩ := He.ba h
  obtain ⟨h3, h4⟩ := He.ba h
  exact .base (.ins e c (of_decide_eq_true h1) (of_decide_eq_true h2) (of_decide_eq_true h3) (of_decide_eq_true h4))
def ecB (K : W.Frag) (C : Addr) : Bool := decide (W.findIn K (.ref C) "__class__" = some (some (.builtin "object.__class__"))) && (decide (W.specialIn K (.builtin "object.__class__") "__get__" = some (some (.builtin "getset_descriptor.__get__"))) &&
  (decide (W.takesIn K (.builtin "object.__class__") = some true) && decide (W.mroIn K C (.type "object") = some true)))
theorem ecB_ok {K : W.Frag} {C : Addr} (h : ecB K C = true) (x : XfC K C) : ExcC K C := by
  obtain ⟨h1, h⟩ := He.ba h
  obtain ⟨h2, h⟩ := He.ba h
  obtain ⟨h3, h4⟩ := He.ba h
  exact ⟨x.ga, x.gg, x.exC, x.hdC, of_decide_eq_true h1, of_decide_eq_true h2, of_decide_eq_true h3, of_decide_eq_true h4⟩
def oxoB (K : W.Frag) (C : Addr) : Bool := match K.lookup C with
  | some ⟨.type t, _, .cls cd, sl⟩ => decide (t = "type") && (match cd.mro, sl.toList with
    | .ref D :: bm, [_, _, _, _, some (.builtin n), _] => decide (D = C) && (decide (n = "ValueError.__new__") && (cd.hasDict && (!cd.hasDel && PySem.HandSPX.refsVE bm)))
    | _, _ => false)
  | _ => false
theorem oxoB_ok {K : W.Frag} {C : Addr} (h : oxoB K C = true) : ∃ nm q N bs bm sn sub ab col dd k0 k1 k2 k3 k5, K.lookup C = some (excClassObj nm q C N bs bm true sn sub ab col dd k0 k1 k2 k3 k5 "ValueError.__new__") ∧ PySem.HandSPX.refsVE bm = true := by
  unfold oxoB at h
  split at h
  · rename_i t dd cd sl ho
    obtain ⟨h1, h2⟩ := He.ba h
    have e1 : t = "type" := of_decide_eq_true h1
    subst e1
    split at h2
    · rename_i D bm k0 k1 k2 k3 n k5 hm hs
      obtain ⟨h3, h2⟩ := He.ba h2
      obtain ⟨h4, h2⟩ := He.ba h2
      obtain ⟨h5, h2⟩ := He.ba h2
      obtain ⟨h6, h7⟩ := He.ba h2
      have e3 : D = C := of_decide_eq_true h3
      have e4 : n = "ValueError.__new__" := of_decide_eq_true h4
      subst e3 e4
      obtain ⟨nm, bs, mro, N, q, hd, sn, sub, ab, col, hdel⟩ := cd
      have e6 : hdel = false := by cases hdel <;> first | rfl | cases h6
      have e5 : hd = true := h5
      have em : mro = .ref D :: bm := hm
      have es : sl = #[k0, k1, k2, k3, some (.builtin "ValueError.__new__"), k5] := by rw [← Array.toList_inj]; exact hs
      subst e5 e6 em es
      exact ⟨nm, q, N, bs, bm, sn, sub, ab, col, dd, k0, k1, k2, k3, k5, ho, h7⟩
    · cases h2
  · cases h
def oexB (K : W.Frag) (C : Addr) : Bool := oxoB K C && (decide (W.findIn K (.ref C) "__setattr__" = some (some (.builtin "object.__setattr__"))) && (decide (W.subIn K (.ref C) (.type "BaseException") = some true) && (decide (W.typeIn K (.ref C) = some (.type "type")) && W.keepIn K (.ref C))))
theorem oexB_ok {K : W.Frag} {C : Addr} (h : oexB K C = true) : OexC K C := by
  obtain ⟨h1, h⟩ := He.ba h
  obtain ⟨h2, h⟩ := He.ba h
  obtain ⟨h3, h⟩ := He.ba h
  obtain ⟨h4, h5⟩ := He.ba h
  exact ⟨oxoB_ok h1, of_decide_eq_true h2, of_decide_eq_true h3, of_decide_eq_true h4, h5⟩
/-- an own exception class x with a field f -/
def xcB (K : W.Frag) (x f : Str) : Bool := oexB K (He.ga K x) && (xfB K (He.ga K x) && (ecB K (He.ga K x) && (decide (W.findIn K (.ref (He.ga K x)) f = some none) && (decide (W.exmOne K (.ref (He.ga K x)) (.ref (He.ga K x)) = some true) &&
  (decide (W.kitOne K (.ref (He.ga K x)) (.type "ValueError") = some true) && (decide (W.findIn K (.ref (He.ga K x)) "__init__" = some (some (.ref (He.ma K (He.ga K x) "__init__")))) && decide (W.typeIn K (.ref (He.ma K (He.ga K x) "__init__")) = some (.type "function"))))))))
structure XB (K : W.Frag) (C fI : Addr) (f : Str) : Prop where
  ox : OexC K C
  xf : XfC K C
  ec : ExcC K C
  no : W.findIn K (.ref C) f = some none
  me : W.exmOne K (.ref C) (.ref C) = some true
  ve : W.kitOne K (.ref C) (.type "ValueError") = some true
  fi : W.findIn K (.ref C) "__init__" = some (some (.ref fI))
  ti : W.typeIn K (.ref fI) = some (.type "function")
theorem xcB_ok {K : W.Frag} {x f : Str} (h : xcB K x f = true) : XB K (He.ga K x) (He.ma K (He.ga K x) "__init__") f := by
  obtain ⟨h1, h⟩ := He.ba h
  obtain ⟨h2, h⟩ := He.ba h
  obtain ⟨h3, h⟩ := He.ba h
  obtain ⟨h4, h⟩ := He.ba h
  obtain ⟨h5, h⟩ := He.ba h
  obtain ⟨h6, h⟩ := He.ba h
  obtain ⟨h7, h8⟩ := He.ba h
  exact ⟨oexB_ok h1, xfB_ok h2, ecB_ok h3 (xfB_ok h2), of_decide_eq_true h4, of_decide_eq_true h5, of_decide_eq_true h6, of_decide_eq_true h7, of_decide_eq_true h8⟩
def kTys : List String := ["NoneType", "bool", "int", "str", "list", "tuple"]
def ex1 (K : W.Frag) : Bool := decide (W.nsIn K mainGlobals "gcd" = some (some (.builtin "math.gcd"))) && (clsB K (He.ga K "Table") && (clsB K (He.ga K "Share") && (decide (W.kitOne K (.ref (He.ga K "Table")) (.ref (He.ga K "Table")) = some true) &&
  (decide (W.kitOne K (.ref (He.ga K "Share")) (.ref (He.ga K "Share")) = some true) && kTys.all fun n => decide (W.kitOne K (.type n) (.ref (He.ga K "Share")) = some false)))))
def ex2 (K : W.Frag) : Bool := xcB K "InvalidNumber" "value" && (xcB K "InvalidShare" "value" && xcB K "Undefined" "what")
def ex3 (K : W.Frag) : Bool := decide (W.findIn K (.ref (He.ga K "Share")) "__eq__" = some (some (.ref (He.ma K (He.ga K "Share") "__eq__")))) && (W.isFn K (.ref (He.ma K (He.ga K "Share") "__eq__")) &&
  (decide (W.kitOne K (.ref (He.ga K "InvalidShare")) (.ref (He.ga K "InvalidNumber")) = some false) && (decide (W.kitOne K (.ref (He.ga K "InvalidNumber")) (.ref (He.ga K "Undefined")) = some false) &&
  decide (W.kitAny K (.ref (He.ga K "Undefined")) [.ref (He.ga K "InvalidTable"), .ref (He.ga K "InvalidNumber")] = some false))))
def hex (K : W.Frag) : Bool := ex1 K && (ex2 K && ex3 K)
abbrev R : W.OpenRow := W.OpenLaw.row PySem.Challenge.rw_fourread_k71_whole_any_table
def las0 : List Addr := [3, 6, 49, 59, 79, 98, 117, 136, 155, 174, 183, 190, 197, 204, 211, 218, 225, 232, 239, 289]
def las1 : List Addr := [298, 305, 312, 319, 324, 329, 398, 409, 416, 423, 430, 437, 444, 451, 458, 465, 472, 479, 487, 494]
def las2 : List Addr := [501, 508, 515, 522, 529, 536, 541, 546, 551, 558, 563, 570, 577, 582, 587, 592, 597, 602, 609, 614]
def las3 : List Addr := [621, 628, 633, 640, 0, 48, 58, 78, 97, 116, 135, 154, 173, 182, 189, 196, 203, 210, 217, 224]
def las4 : List Addr := [231, 238, 288, 297, 304, 311, 318, 323, 328, 397, 408, 415, 422, 429, 436, 443, 450, 457, 464, 471]
def las5 : List Addr := [478, 486, 480, 493, 500, 507, 514, 521, 528, 535, 540, 545, 550, 557, 562, 569, 576, 581, 586, 591]
def las6 : List Addr := [596, 601, 608, 613, 620, 627, 632, 639, 60, 76, 95, 114, 133, 152, 171, 253, 260, 267, 274, 279]
def las7 : List Addr := [286, 290, 291, 343, 352, 360, 367, 374, 381, 388, 395, 399, 400, 75, 94, 113, 132, 151, 170, 252]
def las8 : List Addr := [259, 266, 273, 278, 285, 342, 350, 351, 359, 366, 373, 380, 387, 394, 349, 353]
def las : List Addr := las0 ++ (las1 ++ (las2 ++ (las3 ++ (las4 ++ (las5 ++ (las6 ++ (las7 ++ (las8))))))))
section
variable {α : Type}
/-- a part of the heap, evaluated ahead of its use -/
def frO (o : Obj) (k : Obj → α) : α := match o with
  | ⟨c, d, .func fd, s⟩ => k ⟨c, d, .func fd, s⟩
  | ⟨c, d, dt, s⟩ => k ⟨c, d, dt, s⟩
theorem frO_eq (o : Obj) (k : Obj → α) : frO o k = k o := by
  unfold frO
  split <;> rfl
def frF : W.Frag → (W.Frag → α) → α
  | [], k => k []
  | (a, o) :: r, k => frO o fun o => frF r fun r => k ((a, o) :: r)
theorem frF_eq : ∀ (K : W.Frag) (k : W.Frag → α), frF K k = k K
  | [], _ => rfl
  | (a, o) :: r, k => by
    show frO o (fun o => frF r fun r => k ((a, o) :: r)) = _
    rw [frO_eq, frF_eq r]
end
/-- the places that are looked at, written down -/
def obL (s : W.SharedT) : He.AlX := frF (He.frT (HandSHeadRun.getT s) las) fun K => (He.obsT hfa hfn [] K, hex K && He.tabsB (HandSHeadRun.getT s) htf K)
def hookL : W.Hook where
  α := He.AlX
  obs := fun s => (He.obsT hfa hfn [] (He.frT s.heap.get? las), hex (He.frT s.heap.get? las) && He.tabsB s.heap.get? htf (He.frT s.heap.get? las))
  val := fun w => He.valX hfn [] w
  says := fun w h => ∃ K : W.Frag, K.In h ∧ He.SaysX hfa hfn [] htf hex w h K
  of := fun w s e => by
    obtain ⟨e1, e2⟩ := Prod.mk.inj e
    obtain ⟨f1, f2⟩ := He.ba e2
    have g : ∀ p ∈ htf, W.codeHdIn (He.frT s.heap.get? las) (He.cT (He.frT s.heap.get? las) p).1 (He.cT (He.frT s.heap.get? las) p).2 = true ∧ ∃ o, s.heap.get? (He.cT (He.frT s.heap.get? las) p).2 = some o ∧ He.emptyTab o = true := by
      intro p hp
      obtain ⟨a1, a2⟩ := He.ba (List.all_eq_true.mp f2 p hp)
      cases z : s.heap.get? (He.cT (He.frT s.heap.get? las) p).2 with
      | some o =>
        rw [z] at a2
        exact ⟨a1, o, rfl, a2⟩
      | none =>
        rw [z] at a2
        exact absurd a2 (by decide)
    refine ⟨_, He.frT_in, e1, f1, fun p hp => (g p hp).1, ?_, ?_⟩
    · intro p hp
      obtain ⟨_, o, z1, z2⟩ := g p hp
      exact He.frT_none z1 z2
    · intro p hp
      obtain ⟨_, o, z1, z2⟩ := g p hp
      rw [z1, He.emptyTab_eq z2]
  keeps := by
    rintro w h h' ⟨K, hK, c⟩ kp
    exact ⟨K, W.Frag.In.keeps hK kp, c.t, c.more, c.hd, c.out, fun p hp => kp _ _ (c.empty p hp)⟩
theorem obL_eq (s : W.SharedT) : obL s = hookL.obs s.abs := by
  have e : HandSHeadRun.getT s = s.abs.heap.get? := funext (HandSHeadRun.getT_eq s)
  unfold obL
  rw [frF_eq, e]
  rfl
def hlo0 : List PySem.Str := ["_wall", "ReadError", "InvalidNumber", "InvalidWord", "InvalidWords", "InvalidTable", "InvalidShare", "Undefined", "LONGEST", "is_integer", "is_between", "is_bit", "is_bits", "is_some_word", "is_word", "word_at", "bits_number", "parity_of", "LARGEST", "Table"]
def hlo1 : List PySem.Str := ["sum_table", "distance", "signed_sum", "sums_and_differences", "signed_sums", "table_from", "Share", "mended", "ones_of", "one_share", "mended_bit", "greatest_of", "least_distance", "nearest_sums", "near_sums", "beginning_weight", "passes_sum", "power_of", "passing_share", "_law_integer"]
def hlo2 : List PySem.Str := ["_law_start", "_law_draw", "_law_wide", "_law_gcd", "_law_is", "_law_bits", "_law_word", "_law_dot", "_law_plus", "_law_odd", "_law_cells", "_law_halves", "_law_number", "_law_numbers_are", "_law_rows_are", "_law_signed", "_law_from", "_law_near", "_law_no_share", "_law_tested"]
def hlo3 : List PySem.Str := ["_law_no_many", "_law_mended", "_law_body"]
def hlo : List PySem.Str := hlo0 ++ (hlo1 ++ (hlo2 ++ (hlo3)))
end Q
set_option Elab.async false
set_option linter.all false
set_option maxRecDepth 100000
set_option maxHeartbeats 0
namespace Q
open PySem PySem.Spec PyProof.Rows L2
theorem hrun (w : World) : HandSHeadRun.RunEqI R (W.view R.prog [0, 73]) hookL obL 9000 hlo w := by
  unfold HandSHeadRun.RunEqI
  kernel_rfl
end Q
namespace M
/-- the sum over x < 2^n -/
def S : Nat → (Nat → Int) → Int
  | 0, f => f 0
  | n + 1, f => S n f + S n (fun x => f (x + 2 ^ n))
theorem S_congr : ∀ {n : Nat} {f g : Nat → Int}, (∀ x, x < 2 ^ n → f x = g x) → S n f = S n g
  | 0, f, g, h => h 0 (by decide)
  | n + 1, f, g, h => by
    have e : 2 ^ (n + 1) = 2 ^ n + 2 ^ n := by rw [Nat.pow_succ]; omega
    show S n f + _ = S n g + _
    rw [S_congr (n := n) (f := f) (g := g) (fun x hx => h x (by omega)), S_congr (n := n) (f := fun x => f (x + 2 ^ n)) (g := fun x => g (x + 2 ^ n)) (fun x hx => h _ (by omega))]
theorem S_add : ∀ (n : Nat) (f g : Nat → Int), S n (fun x => f x + g x) = S n f + S n g
  | 0, f, g => rfl
  | n + 1, f, g => by
    show S n _ + S n _ = (S n f + S n _) + (S n g + S n _)
    rw [S_add n f g, S_add n (fun x => f (x + 2 ^ n)) (fun x => g (x + 2 ^ n))]; omega
theorem S_smul (c : Int) : ∀ (n : Nat) (f : Nat → Int), S n (fun x => c * f x) = c * S n f
  | 0, f => rfl
  | n + 1, f => by
    show S n _ + S n _ = c * (S n f + S n _)
    rw [S_smul c n f, S_smul c n (fun x => f (x + 2 ^ n)), Int.mul_add]
theorem S_neg (n : Nat) (f : Nat → Int) : S n (fun x => - f x) = - S n f := by
  have := S_smul (-1) n f
  simpa using this
theorem S_sub (n : Nat) (f g : Nat → Int) : S n (fun x => f x - g x) = S n f - S n g := by
  have h := S_add n f (fun x => - g x)
  rw [S_neg] at h
  simpa [Int.sub_eq_add_neg] using h
theorem S_const (c : Int) : ∀ n : Nat, S n (fun _ => c) = 2 ^ n * c
  | 0 => by show c = 1 * c; omega
  | n + 1 => by
    show S n (fun _ => c) + S n (fun _ => c) = _
    rw [S_const c n, Int.pow_succ]; grind
theorem S_nonneg : ∀ {n : Nat} {f : Nat → Int}, (∀ x, x < 2 ^ n → 0 ≤ f x) → 0 ≤ S n f
  | 0, f, h => h 0 (by decide)
  | n + 1, f, h => by
    have e : 2 ^ (n + 1) = 2 ^ n + 2 ^ n := by rw [Nat.pow_succ]; omega
    have h1 := S_nonneg (n := n) (f := f) (fun x hx => h x (by omega))
    have h2 := S_nonneg (n := n) (f := fun x => f (x + 2 ^ n)) (fun x hx => h _ (by omega))
    show 0 ≤ S n f + _
    omega
theorem S_mono {n : Nat} {f g : Nat → Int} (h : ∀ x, x < 2 ^ n → f x ≤ g x) : S n f ≤ S n g := by
  have h1 : 0 ≤ S n (fun x => g x - f x) := S_nonneg fun x hx => by have := h x hx; omega
  rw [S_sub] at h1
  omega
theorem S_mul_right (c : Int) (n : Nat) (f : Nat → Int) : S n (fun x => f x * c) = S n f * c := by
  rw [Int.mul_comm, ← S_smul]
  exact S_congr fun x _ => Int.mul_comm _ _
/-- as a list's sum -/
theorem S_list : ∀ (n : Nat) (f : Nat → Int), S n f = ((List.range (2 ^ n)).map f).sum
  | 0, f => by simp [S, List.range_succ]
  | n + 1, f => by
    have e : 2 ^ (n + 1) = 2 ^ n + 2 ^ n := by rw [Nat.pow_succ]; omega
    show S n f + S n _ = _
    rw [S_list n f, S_list n, e, List.range_add, List.map_append, List.sum_append_int, List.map_map]
    congr 2
    apply List.map_congr_left
    intro x _
    show f (x + 2 ^ n) = f (2 ^ n + x)
    rw [Nat.add_comm]
/-! ### signs -/
def sg (b : Bool) : Int := if b then -1 else 1
theorem sg_sq (b : Bool) : sg b * sg b = 1 := by cases b <;> rfl
theorem sg_xor (a b : Bool) : sg (a ^^ b) = sg a * sg b := by cases a <;> cases b <;> rfl
/-- the product of the words with the numbers a, x (n bits) -/
def dot : Nat → Nat → Nat → Bool
  | 0, _, _ => false
  | n + 1, a, x => dot n a x ^^ (a.testBit n && x.testBit n)
def chi (n a x : Nat) : Int := sg (dot n a x)
theorem dot_congr : ∀ {n a a' x x' : Nat}, (∀ i, i < n → a.testBit i = a'.testBit i) → (∀ i, i < n → x.testBit i = x'.testBit i) → dot n a x = dot n a' x'
  | 0, _, _, _, _, _, _ => rfl
  | n + 1, a, a', x, x', h1, h2 => by
    show (dot n a x ^^ _) = (dot n a' x' ^^ _)
    rw [dot_congr (n := n) (fun i hi => h1 i (by omega)) (fun i hi => h2 i (by omega)), h1 n (by omega), h2 n (by omega)]
theorem dot_comm : ∀ (n a x : Nat), dot n a x = dot n x a
  | 0, _, _ => rfl
  | n + 1, a, x => by
    show (dot n a x ^^ _) = (dot n x a ^^ _)
    rw [dot_comm n a x, Bool.and_comm]
theorem tb_add_lt {i j x : Nat} (h : i < j) : (x + 2 ^ j).testBit i = x.testBit i := by
  rw [Nat.add_comm]; exact Nat.testBit_two_pow_add_gt h x
theorem tb_add_eq (j x : Nat) : (x + 2 ^ j).testBit j = !x.testBit j := by
  rw [Nat.add_comm]; exact Nat.testBit_two_pow_add_eq x j
theorem dot_lo (n a x : Nat) : dot n a (x + 2 ^ n) = dot n a x := dot_congr (fun _ _ => rfl) fun _ hi => tb_add_lt hi
theorem dot_lo' (n a x : Nat) : dot n (a + 2 ^ n) x = dot n a x := dot_congr (fun _ hi => tb_add_lt hi) fun _ _ => rfl
theorem dot_xor : ∀ (n a x y : Nat), dot n a (x ^^^ y) = (dot n a x ^^ dot n a y)
  | 0, _, _, _ => rfl
  | n + 1, a, x, y => by
    show (dot n a (x ^^^ y) ^^ (a.testBit n && (x ^^^ y).testBit n)) = ((dot n a x ^^ _) ^^ (dot n a y ^^ _))
    rw [dot_xor n a x y, Nat.testBit_xor]
    cases dot n a x <;> cases dot n a y <;> cases a.testBit n <;> cases x.testBit n <;> cases y.testBit n <;> rfl
/-! ### the transform by its stages -/
def bf (j : Nat) (f : Nat → Int) (p : Nat) : Int := if p.testBit j then f (p - 2 ^ j) - f p else f p + f (p + 2 ^ j)
def T : Nat → (Nat → Int) → Nat → Int
  | 0, f => f
  | j + 1, f => bf j (T j f)
theorem pow_pos2 (j : Nat) : 0 < 2 ^ j := Nat.pow_pos (by decide)
theorem tb_div (p j : Nat) : p.testBit j = decide (p / 2 ^ j % 2 = 1) := Nat.testBit_eq_decide_div_mod_eq
theorem div_step (p j : Nat) : p / 2 ^ j = 2 * (p / 2 ^ (j + 1)) + p / 2 ^ j % 2 := by
  rw [Nat.pow_succ, ← Nat.div_div_eq_div_mul]; omega
theorem T_closed : ∀ (j : Nat) (f : Nat → Int) (p : Nat), T j f p = S j (fun x => chi j p x * f (p / 2 ^ j * 2 ^ j + x))
  | 0, f, p => by
    show f p = sg false * f (p / 2 ^ 0 * 2 ^ 0 + 0)
    have e : p / 2 ^ 0 * 2 ^ 0 + 0 = p := by simp
    rw [e]
    show f p = 1 * f p
    omega
  | j + 1, f, p => by
    have hp := pow_pos2 j
    have hs := div_step p j
    have e2 : p / 2 ^ (j + 1) * 2 ^ (j + 1) = 2 * (p / 2 ^ (j + 1)) * 2 ^ j := by rw [Nat.pow_succ]; grind
    have lo : ∀ (q x : Nat), x < 2 ^ j → chi (j + 1) q x = chi j q x := fun q x hx => by
      show sg (dot j q x ^^ (q.testBit j && x.testBit j)) = sg (dot j q x)
      rw [Nat.testBit_lt_two_pow hx, Bool.and_false, Bool.xor_false]
    have hi : ∀ (q x : Nat), x < 2 ^ j → chi (j + 1) q (x + 2 ^ j) = chi j q x * sg (q.testBit j) := fun q x hx => by
      show sg (dot j q (x + 2 ^ j) ^^ (q.testBit j && (x + 2 ^ j).testBit j)) = sg (dot j q x) * _
      rw [tb_add_eq, Nat.testBit_lt_two_pow hx, dot_lo, sg_xor]
      show _ * sg (q.testBit j && true) = _
      rw [Bool.and_true]
    show bf j (T j f) p = S j (fun x => chi (j + 1) p x * f (p / 2 ^ (j + 1) * 2 ^ (j + 1) + x)) + S j (fun x => chi (j + 1) p (x + 2 ^ j) * f (p / 2 ^ (j + 1) * 2 ^ (j + 1) + (x + 2 ^ j)))
    rw [S_congr (fun x hx => by rw [lo p x hx]), S_congr (f := fun x => chi (j + 1) p (x + 2 ^ j) * _) (fun x hx => by rw [hi p x hx])]
    unfold bf
    cases ht : p.testBit j with
    | true =>
      have ht' : p / 2 ^ j % 2 = 1 := by rw [tb_div] at ht; exact of_decide_eq_true ht
      have hle : 2 ^ j ≤ p := by
        have h1 : 1 ≤ p / 2 ^ j := by omega
        calc 2 ^ j = 1 * 2 ^ j := by omega
          _ ≤ p / 2 ^ j * 2 ^ j := Nat.mul_le_mul_right _ h1
          _ ≤ p := Nat.div_mul_le_self _ _
      have ed : (p - 2 ^ j) / 2 ^ j = p / 2 ^ j - 1 := by
        have : p = (p - 2 ^ j) + 2 ^ j := by omega
        have h2 : p / 2 ^ j = (p - 2 ^ j) / 2 ^ j + 1 := by
          conv => lhs; rw [this]
          rw [Nat.add_div_right _ hp]
        omega
      have ec : ∀ x, chi j (p - 2 ^ j) x = chi j p x := fun x => by
        have : p = (p - 2 ^ j) + 2 ^ j := by omega
        show sg (dot j (p - 2 ^ j) x) = sg (dot j p x)
        conv => rhs; rw [this]
        rw [dot_lo']
      simp only [if_true]
      rw [T_closed j f (p - 2 ^ j), T_closed j f p, Int.sub_eq_add_neg]
      congr 1
      · refine S_congr fun x hx => ?_
        rw [ec, ed]
        congr 2
        rw [e2]
        congr 2
        omega
      · rw [← S_neg]
        refine S_congr fun x hx => ?_
        have e3 : p / 2 ^ (j + 1) * 2 ^ (j + 1) + (x + 2 ^ j) = p / 2 ^ j * 2 ^ j + x := by
          rw [e2, hs, ht']
          grind
        rw [e3]
        show -(_ * _) = _ * (-1) * _
        grind
    | false =>
      have ht' : p / 2 ^ j % 2 = 0 := by rw [tb_div] at ht; have := of_decide_eq_false ht; omega
      have ed : (p + 2 ^ j) / 2 ^ j = p / 2 ^ j + 1 := Nat.add_div_right _ hp
      have ec : ∀ x, chi j (p + 2 ^ j) x = chi j p x := fun x => by
        show sg (dot j (p + 2 ^ j) x) = sg (dot j p x)
        rw [dot_lo']
      simp only [Bool.false_eq_true, if_false]
      rw [T_closed j f p, T_closed j f (p + 2 ^ j)]
      congr 1
      · refine S_congr fun x hx => ?_
        congr 2
        rw [e2]
        congr 2
        omega
      · refine S_congr fun x hx => ?_
        rw [ec, ed]
        have e3 : p / 2 ^ (j + 1) * 2 ^ (j + 1) + (x + 2 ^ j) = (p / 2 ^ j + 1) * 2 ^ j + x := by
          rw [e2, hs, ht']
          grind
        rw [e3]
        show _ = _ * 1 * _
        grind
/-- the transform in closed form -/
def W (n : Nat) (f : Nat → Int) (a : Nat) : Int := S n (fun x => chi n a x * f x)
theorem T_W {n : Nat} {f : Nat → Int} {a : Nat} (h : a < 2 ^ n) : T n f a = W n f a := by
  rw [T_closed]
  refine S_congr fun x hx => ?_
  rw [Nat.div_eq_of_lt h]
  simp
theorem W_congr {n : Nat} {f g : Nat → Int} {a : Nat} (h : ∀ x, x < 2 ^ n → f x = g x) : W n f a = W n g a := S_congr fun x hx => by rw [h x hx]
theorem W_add (n : Nat) (f g : Nat → Int) (a : Nat) : W n (fun x => f x + g x) a = W n f a + W n g a := by
  unfold W
  rw [← S_add]
  exact S_congr fun x _ => Int.mul_add _ _ _
theorem W_sub (n : Nat) (f g : Nat → Int) (a : Nat) : W n (fun x => f x - g x) a = W n f a - W n g a := by
  unfold W
  rw [← S_sub]
  exact S_congr fun x _ => Int.mul_sub _ _ _
theorem chi_ll {n a x : Nat} (hx : x < 2 ^ n) : chi (n + 1) a x = chi n a x := by
  show sg (dot n a x ^^ (a.testBit n && x.testBit n)) = _
  rw [Nat.testBit_lt_two_pow hx, Bool.and_false, Bool.xor_false]
  rfl
theorem chi_lh {n a x : Nat} (ha : a < 2 ^ n) : chi (n + 1) a (x + 2 ^ n) = chi n a x := by
  show sg (dot n a (x + 2 ^ n) ^^ (a.testBit n && _)) = _
  rw [Nat.testBit_lt_two_pow ha, Bool.false_and, Bool.xor_false, dot_lo]
  rfl
theorem chi_hl {n a x : Nat} (hx : x < 2 ^ n) : chi (n + 1) (a + 2 ^ n) x = chi n a x := by
  rw [chi_ll hx]
  unfold chi
  rw [dot_lo']
theorem chi_hh {n a x : Nat} (ha : a < 2 ^ n) (hx : x < 2 ^ n) : chi (n + 1) (a + 2 ^ n) (x + 2 ^ n) = - chi n a x := by
  show sg (dot n (a + 2 ^ n) (x + 2 ^ n) ^^ ((a + 2 ^ n).testBit n && (x + 2 ^ n).testBit n)) = _
  rw [tb_add_eq, tb_add_eq, Nat.testBit_lt_two_pow ha, Nat.testBit_lt_two_pow hx, dot_lo, dot_lo', sg_xor]
  show sg _ * (-1) = - sg _
  omega
abbrev hiH (n : Nat) (f : Nat → Int) : Nat → Int := fun x => f (x + 2 ^ n)
theorem W_lo {n : Nat} {f : Nat → Int} {a : Nat} (h : a < 2 ^ n) : W (n + 1) f a = W n f a + W n (hiH n f) a := by
  show S n _ + S n _ = S n _ + S n _
  congr 1
  · exact S_congr fun x hx => by rw [chi_ll hx]
  · exact S_congr fun x hx => by show chi (n + 1) a (x + 2 ^ n) * f (x + 2 ^ n) = _; rw [chi_lh h]
theorem W_hi {n : Nat} {f : Nat → Int} {a : Nat} (h : a < 2 ^ n) : W (n + 1) f (a + 2 ^ n) = W n f a - W n (hiH n f) a := by
  show S n _ + S n _ = S n _ - S n _
  rw [Int.sub_eq_add_neg, ← S_neg]
  congr 1
  · exact S_congr fun x hx => by rw [chi_hl hx]
  · exact S_congr fun x hx => by show chi (n + 1) (a + 2 ^ n) (x + 2 ^ n) * f (x + 2 ^ n) = _; rw [chi_hh h hx, Int.neg_mul]
theorem S_halves {n : Nat} {f g h : Nat → Int} (h1 : ∀ x, x < 2 ^ n → f x = g x) (h2 : ∀ x, x < 2 ^ n → f (x + 2 ^ n) = h x) : S (n + 1) f = S n g + S n h := by
  show S n f + S n _ = _
  rw [S_congr h1, S_congr h2]
theorem W_W : ∀ {n : Nat} {f : Nat → Int} {a : Nat}, a < 2 ^ n → W n (W n f) a = 2 ^ n * f a
  | 0, f, a, h => by
    have : a = 0 := by simpa using h
    subst this
    show 1 * (1 * f 0) = 1 * f 0
    omega
  | n + 1, f, a, h => by
    have e : 2 ^ (n + 1) = 2 ^ n + 2 ^ n := by rw [Nat.pow_succ]; omega
    have e1 : ∀ b, W n (W (n + 1) f) b = W n (W n f) b + W n (W n (hiH n f)) b := fun b => by
      rw [← W_add]
      exact W_congr fun x hx => W_lo hx
    have e2 : ∀ b, W n (hiH n (W (n + 1) f)) b = W n (W n f) b - W n (W n (hiH n f)) b := fun b => by
      rw [← W_sub]
      exact W_congr fun x hx => W_hi hx
    have ep : (2 : Int) ^ (n + 1) = 2 * 2 ^ n := by rw [Int.pow_succ]; omega
    by_cases ha : a < 2 ^ n
    · rw [W_lo ha, e1, e2, W_W ha, ep]
      grind
    · obtain ⟨b, rfl⟩ : ∃ b, a = b + 2 ^ n := ⟨a - 2 ^ n, by omega⟩
      have hb : b < 2 ^ n := by omega
      rw [W_hi hb, e1, e2, W_W (n := n) (f := hiH n f) hb, ep]
      show _ = 2 * 2 ^ n * f (b + 2 ^ n)
      grind
theorem parseval : ∀ (n : Nat) (f g : Nat → Int), S n (fun a => W n f a * W n g a) = 2 ^ n * S n (fun x => f x * g x)
  | 0, f, g => by
    show (1 * f 0) * (1 * g 0) = 1 * (f 0 * g 0)
    grind
  | n + 1, f, g => by
    rw [S_halves (g := fun a => (W n f a + W n (hiH n f) a) * (W n g a + W n (hiH n g) a)) (h := fun a => (W n f a - W n (hiH n f) a) * (W n g a - W n (hiH n g) a))
      (fun x hx => by rw [W_lo hx, W_lo hx]) (fun x hx => by rw [W_hi hx, W_hi hx]), ← S_add]
    have e : S n (fun a => (W n f a + W n (hiH n f) a) * (W n g a + W n (hiH n g) a) + (W n f a - W n (hiH n f) a) * (W n g a - W n (hiH n g) a))
        = 2 * S n (fun a => W n f a * W n g a) + 2 * S n (fun a => W n (hiH n f) a * W n (hiH n g) a) := by
      rw [← S_smul, ← S_smul, ← S_add]
      exact S_congr fun x _ => by grind
    rw [e, parseval n f g, parseval n (hiH n f) (hiH n g), Int.pow_succ]
    show _ = 2 ^ n * 2 * (S n (fun x => f x * g x) + S n (fun x => f (x + 2 ^ n) * g (x + 2 ^ n)))
    grind
/-- the triple sum -/
def C : Nat → (Nat → Int) → (Nat → Int) → (Nat → Int) → Int
  | 0, f, g, h => f 0 * g 0 * h 0
  | n + 1, f, g, h => C n f g h + C n f (hiH n g) (hiH n h) + C n (hiH n f) g (hiH n h) + C n (hiH n f) (hiH n g) h
theorem cubes : ∀ (n : Nat) (f g h : Nat → Int), S n (fun a => W n f a * W n g a * W n h a) = 2 ^ n * C n f g h
  | 0, f, g, h => by
    show (1 * f 0) * (1 * g 0) * (1 * h 0) = 1 * (f 0 * g 0 * h 0)
    grind
  | n + 1, f, g, h => by
    rw [S_halves (g := fun a => (W n f a + W n (hiH n f) a) * (W n g a + W n (hiH n g) a) * (W n h a + W n (hiH n h) a)) (h := fun a => (W n f a - W n (hiH n f) a) * (W n g a - W n (hiH n g) a) * (W n h a - W n (hiH n h) a))
      (fun x hx => by rw [W_lo hx, W_lo hx, W_lo hx]) (fun x hx => by rw [W_hi hx, W_hi hx, W_hi hx]), ← S_add]
    have e : S n (fun a => (W n f a + W n (hiH n f) a) * (W n g a + W n (hiH n g) a) * (W n h a + W n (hiH n h) a) + (W n f a - W n (hiH n f) a) * (W n g a - W n (hiH n g) a) * (W n h a - W n (hiH n h) a))
        = 2 * S n (fun a => W n f a * W n g a * W n h a) + 2 * S n (fun a => W n f a * W n (hiH n g) a * W n (hiH n h) a) + 2 * S n (fun a => W n (hiH n f) a * W n g a * W n (hiH n h) a) + 2 * S n (fun a => W n (hiH n f) a * W n (hiH n g) a * W n h a) := by
      rw [← S_smul, ← S_smul, ← S_smul, ← S_smul, ← S_add, ← S_add, ← S_add]
      exact S_congr fun x _ => by grind
    rw [e, cubes n f g h, cubes n f (hiH n g) (hiH n h), cubes n (hiH n f) g (hiH n h), cubes n (hiH n f) (hiH n g) h, Int.pow_succ]
    show _ = 2 ^ n * 2 * (C n f g h + C n f (hiH n g) (hiH n h) + C n (hiH n f) g (hiH n h) + C n (hiH n f) (hiH n g) h)
    grind
/-! ### the triple sum is linear in each place -/
theorem C_congr : ∀ {n : Nat} {f g h f' g' h' : Nat → Int}, (∀ x, x < 2 ^ n → f x = f' x) → (∀ x, x < 2 ^ n → g x = g' x) → (∀ x, x < 2 ^ n → h x = h' x) → C n f g h = C n f' g' h'
  | 0, f, g, h, f', g', h', h1, h2, h3 => by
    show f 0 * g 0 * h 0 = _
    rw [h1 0 (by decide), h2 0 (by decide), h3 0 (by decide)]
    rfl
  | n + 1, f, g, h, f', g', h', h1, h2, h3 => by
    have e : 2 ^ (n + 1) = 2 ^ n + 2 ^ n := by rw [Nat.pow_succ]; omega
    have l : ∀ {u v : Nat → Int}, (∀ x, x < 2 ^ (n + 1) → u x = v x) → (∀ x, x < 2 ^ n → u x = v x) ∧ ∀ x, x < 2 ^ n → hiH n u x = hiH n v x := fun {u v} q => ⟨fun x hx => q x (by omega), fun x hx => q _ (by omega)⟩
    show C n f g h + _ + _ + _ = C n f' g' h' + _ + _ + _
    rw [C_congr (l h1).1 (l h2).1 (l h3).1, C_congr (l h1).1 (l h2).2 (l h3).2, C_congr (l h1).2 (l h2).1 (l h3).2, C_congr (l h1).2 (l h2).2 (l h3).1]
theorem C_sub1 : ∀ (n : Nat) (f f' g h : Nat → Int), C n (fun x => f x - f' x) g h = C n f g h - C n f' g h
  | 0, f, f', g, h => by show (f 0 - f' 0) * g 0 * h 0 = f 0 * g 0 * h 0 - f' 0 * g 0 * h 0; grind
  | n + 1, f, f', g, h => by
    show C n (fun x => f x - f' x) g h + C n (fun x => f x - f' x) (hiH n g) (hiH n h) + C n (fun x => hiH n f x - hiH n f' x) g (hiH n h) + C n (fun x => hiH n f x - hiH n f' x) (hiH n g) h = (C n f g h + _ + _ + _) - (C n f' g h + _ + _ + _)
    rw [C_sub1, C_sub1, C_sub1, C_sub1]; omega
theorem C_sub2 : ∀ (n : Nat) (f g g' h : Nat → Int), C n f (fun x => g x - g' x) h = C n f g h - C n f g' h
  | 0, f, g, g', h => by show f 0 * (g 0 - g' 0) * h 0 = f 0 * g 0 * h 0 - f 0 * g' 0 * h 0; grind
  | n + 1, f, g, g', h => by
    show C n f (fun x => g x - g' x) h + C n f (fun x => hiH n g x - hiH n g' x) (hiH n h) + C n (hiH n f) (fun x => g x - g' x) (hiH n h) + C n (hiH n f) (fun x => hiH n g x - hiH n g' x) h = (C n f g h + _ + _ + _) - (C n f g' h + _ + _ + _)
    rw [C_sub2, C_sub2, C_sub2, C_sub2]; omega
theorem C_sub3 : ∀ (n : Nat) (f g h h' : Nat → Int), C n f g (fun x => h x - h' x) = C n f g h - C n f g h'
  | 0, f, g, h, h' => by show f 0 * g 0 * (h 0 - h' 0) = f 0 * g 0 * h 0 - f 0 * g 0 * h' 0; grind
  | n + 1, f, g, h, h' => by
    show C n f g (fun x => h x - h' x) + C n f (hiH n g) (fun x => hiH n h x - hiH n h' x) + C n (hiH n f) g (fun x => hiH n h x - hiH n h' x) + C n (hiH n f) (hiH n g) (fun x => h x - h' x) = (C n f g h + _ + _ + _) - (C n f g h' + _ + _ + _)
    rw [C_sub3, C_sub3, C_sub3, C_sub3]; omega
theorem C_mul1 (c : Int) : ∀ (n : Nat) (f g h : Nat → Int), C n (fun x => c * f x) g h = c * C n f g h
  | 0, f, g, h => by show (c * f 0) * g 0 * h 0 = c * (f 0 * g 0 * h 0); grind
  | n + 1, f, g, h => by
    show C n (fun x => c * f x) g h + C n (fun x => c * f x) (hiH n g) (hiH n h) + C n (fun x => c * hiH n f x) g (hiH n h) + C n (fun x => c * hiH n f x) (hiH n g) h = c * (C n f g h + _ + _ + _)
    rw [C_mul1, C_mul1, C_mul1, C_mul1]; grind
theorem C_mul2 (c : Int) : ∀ (n : Nat) (f g h : Nat → Int), C n f (fun x => c * g x) h = c * C n f g h
  | 0, f, g, h => by show f 0 * (c * g 0) * h 0 = c * (f 0 * g 0 * h 0); grind
  | n + 1, f, g, h => by
    show C n f (fun x => c * g x) h + C n f (fun x => c * hiH n g x) (hiH n h) + C n (hiH n f) (fun x => c * g x) (hiH n h) + C n (hiH n f) (fun x => c * hiH n g x) h = c * (C n f g h + _ + _ + _)
    rw [C_mul2, C_mul2, C_mul2, C_mul2]; grind
theorem C_mul3 (c : Int) : ∀ (n : Nat) (f g h : Nat → Int), C n f g (fun x => c * h x) = c * C n f g h
  | 0, f, g, h => by show f 0 * g 0 * (c * h 0) = c * (f 0 * g 0 * h 0); grind
  | n + 1, f, g, h => by
    show C n f g (fun x => c * h x) + C n f (hiH n g) (fun x => c * hiH n h x) + C n (hiH n f) g (fun x => c * hiH n h x) + C n (hiH n f) (hiH n g) (fun x => c * h x) = c * (C n f g h + _ + _ + _)
    rw [C_mul3, C_mul3, C_mul3, C_mul3]; grind
theorem C_nonneg : ∀ {n : Nat} {f g h : Nat → Int}, (∀ x, x < 2 ^ n → 0 ≤ f x) → (∀ x, x < 2 ^ n → 0 ≤ g x) → (∀ x, x < 2 ^ n → 0 ≤ h x) → 0 ≤ C n f g h
  | 0, f, g, h, h1, h2, h3 => Int.mul_nonneg (Int.mul_nonneg (h1 0 (by decide)) (h2 0 (by decide))) (h3 0 (by decide))
  | n + 1, f, g, h, h1, h2, h3 => by
    have e : 2 ^ (n + 1) = 2 ^ n + 2 ^ n := by rw [Nat.pow_succ]; omega
    have l : ∀ {u : Nat → Int}, (∀ x, x < 2 ^ (n + 1) → 0 ≤ u x) → (∀ x, x < 2 ^ n → 0 ≤ u x) ∧ ∀ x, x < 2 ^ n → 0 ≤ hiH n u x := fun {u} q => ⟨fun x hx => q x (by omega), fun x hx => q _ (by omega)⟩
    have a1 := C_nonneg (l h1).1 (l h2).1 (l h3).1
    have a2 := C_nonneg (l h1).1 (l h2).2 (l h3).2
    have a3 := C_nonneg (l h1).2 (l h2).1 (l h3).2
    have a4 := C_nonneg (l h1).2 (l h2).2 (l h3).1
    show 0 ≤ C n f g h + _ + _ + _
    omega
theorem C_one3 : ∀ (n : Nat) (f g : Nat → Int), C n f g (fun _ => 1) = S n f * S n g
  | 0, f, g => by show f 0 * g 0 * 1 = f 0 * g 0; omega
  | n + 1, f, g => by
    show C n f g (fun _ => 1) + C n f (hiH n g) (fun _ => 1) + C n (hiH n f) g (fun _ => 1) + C n (hiH n f) (hiH n g) (fun _ => 1) = (S n f + S n (hiH n f)) * (S n g + S n (hiH n g))
    rw [C_one3, C_one3, C_one3, C_one3]; grind
theorem C_one2 : ∀ (n : Nat) (f h : Nat → Int), C n f (fun _ => 1) h = S n f * S n h
  | 0, f, g => by show f 0 * 1 * g 0 = f 0 * g 0; grind
  | n + 1, f, g => by
    show C n f (fun _ => 1) g + C n f (fun _ => 1) (hiH n g) + C n (hiH n f) (fun _ => 1) (hiH n g) + C n (hiH n f) (fun _ => 1) g = (S n f + S n (hiH n f)) * (S n g + S n (hiH n g))
    rw [C_one2, C_one2, C_one2, C_one2]; grind
theorem C_one1 : ∀ (n : Nat) (g h : Nat → Int), C n (fun _ => 1) g h = S n g * S n h
  | 0, f, g => by show 1 * f 0 * g 0 = f 0 * g 0; grind
  | n + 1, f, g => by
    show C n (fun _ => 1) f g + C n (fun _ => 1) (hiH n f) (hiH n g) + C n (fun _ => 1) f (hiH n g) + C n (fun _ => 1) (hiH n f) g = (S n f + S n (hiH n f)) * (S n g + S n (hiH n g))
    rw [C_one1, C_one1, C_one1, C_one1]; grind
/-- a sum's signs drop out of the triple sum -/
theorem C_chi : ∀ (n m : Nat) (f g h : Nat → Int), C n (fun x => chi n m x * f x) (fun x => chi n m x * g x) (fun x => chi n m x * h x) = C n f g h
  | 0, m, f, g, h => by show (1 * f 0) * (1 * g 0) * (1 * h 0) = f 0 * g 0 * h 0; grind
  | n + 1, m, f, g, h => by
    have lo : ∀ (u : Nat → Int) x, x < 2 ^ n → chi (n + 1) m x * u x = chi n m x * u x := fun u x hx => by rw [chi_ll hx]
    have hi : ∀ (u : Nat → Int) x, x < 2 ^ n → hiH n (fun x => chi (n + 1) m x * u x) x = sg (m.testBit n) * (chi n m x * hiH n u x) := fun u x hx => by
      show chi (n + 1) m (x + 2 ^ n) * u (x + 2 ^ n) = _
      have e : chi (n + 1) m (x + 2 ^ n) = chi n m x * sg (m.testBit n) := by
        show sg (dot n m (x + 2 ^ n) ^^ (m.testBit n && (x + 2 ^ n).testBit n)) = sg (dot n m x) * _
        rw [tb_add_eq, Nat.testBit_lt_two_pow hx, dot_lo, sg_xor]
        show _ * sg (m.testBit n && true) = _
        rw [Bool.and_true]
      rw [e]
      grind
    have s2 := sg_sq (m.testBit n)
    show C n _ _ _ + C n _ (hiH n _) (hiH n _) + C n (hiH n _) _ (hiH n _) + C n (hiH n _) (hiH n _) _ = C n f g h + _ + _ + _
    rw [C_congr (lo f) (lo g) (lo h), C_congr (lo f) (hi g) (hi h), C_congr (hi f) (lo g) (hi h), C_congr (hi f) (hi g) (lo h)]
    rw [C_mul2, C_mul3, C_mul1, C_mul3, C_mul1, C_mul2, C_chi, C_chi, C_chi, C_chi]
    grind
end M
set_option linter.all false
namespace M
/-- the word of number a: its n bits, the greatest first -/
def wd (n a : Nat) : List Int := (List.range n).map fun i => ((a / 2 ^ (n - 1 - i) % 2 : Nat) : Int)
def num (l : List Int) : Int := l.foldl (fun t b => 2 * t + b) 0
theorem wd_len (n a : Nat) : (wd n a).length = n := by simp [wd]
theorem wd_get {n a i : Nat} (h : i < n) : (wd n a)[i]? = some ((a / 2 ^ (n - 1 - i) % 2 : Nat) : Int) := by
  simp [wd, h]
theorem wd_01 {n a : Nat} : ∀ x ∈ wd n a, x = 0 ∨ x = 1 := by
  intro x hx
  simp only [wd, List.mem_map] at hx
  obtain ⟨i, _, rfl⟩ := hx
  have := Nat.mod_lt (a / 2 ^ (n - 1 - i)) (show 0 < 2 by decide)
  omega
theorem wd_cons (n a : Nat) : wd (n + 1) a = ((a / 2 ^ n % 2 : Nat) : Int) :: wd n a := by
  unfold wd
  rw [List.range_succ_eq_map, List.map_cons, List.map_map]
  congr 1
  apply List.map_congr_left
  intro i hi
  simp only [Function.comp]
  rw [show n + 1 - 1 - (i + 1) = n - 1 - i by omega]
theorem wd_snoc (n a : Nat) : wd (n + 1) a = wd n (a / 2) ++ [((a % 2 : Nat) : Int)] := by
  unfold wd
  rw [List.range_succ, List.map_append]
  congr 1
  · apply List.map_congr_left
    intro i hi
    have := List.mem_range.mp hi
    rw [Nat.div_div_eq_div_mul, ← Nat.pow_succ', show n + 1 - 1 - i = (n - 1 - i) + 1 by omega]
  · simp
theorem num_snoc (l : List Int) (b : Int) : num (l ++ [b]) = 2 * num l + b := by simp [num, List.foldl_append]
theorem num_wd : ∀ (n a : Nat), num (wd n a) = ((a % 2 ^ n : Nat) : Int)
  | 0, a => by simp [wd, num, Nat.mod_one]
  | n + 1, a => by
    rw [wd_snoc, num_snoc, num_wd n]
    have h : a % 2 ^ (n + 1) = a % 2 + 2 * (a / 2 % 2 ^ n) := by rw [Nat.pow_succ', Nat.mod_mul]
    generalize 2 ^ (n + 1) = N1 at *
    generalize 2 ^ n = N0 at *
    omega
theorem wd_mod (n a : Nat) : wd n (a % 2 ^ n) = wd n a := by
  induction n generalizing a with
  | zero => simp [wd]
  | succ n ih =>
    have h : a % 2 ^ (n + 1) = a % 2 + 2 * (a / 2 % 2 ^ n) := by rw [Nat.pow_succ', Nat.mod_mul]
    rw [wd_snoc, wd_snoc]
    have e1 : a % 2 ^ (n + 1) / 2 = a / 2 % 2 ^ n := by rw [h]; omega
    have e2 : a % 2 ^ (n + 1) % 2 = a % 2 := by rw [h]; omega
    rw [e1, e2, ih]
/-- every row of bits is a word -/
theorem wd_of : ∀ (l : List Int), (∀ x ∈ l, x = 0 ∨ x = 1) → ∃ a, a < 2 ^ l.length ∧ l = wd l.length a := by
  intro l
  induction l with
  | nil => intro _; exact ⟨0, by simp, by simp [wd]⟩
  | cons x r ih =>
    intro h
    obtain ⟨a, ha, e⟩ := ih fun y hy => h y (List.mem_cons_of_mem _ hy)
    have hx := h x List.mem_cons_self
    have hp : 0 < 2 ^ r.length := Nat.pow_pos (by decide)
    have hlow : ∀ c : Nat, wd r.length (c * 2 ^ r.length + a) = wd r.length a := fun c => by
      rw [← wd_mod, Nat.mul_comm, Nat.mul_add_mod, wd_mod]
    rcases hx with hx | hx
    · refine ⟨a, by rw [List.length_cons, Nat.pow_succ]; omega, ?_⟩
      rw [List.length_cons, wd_cons, ← e, hx, Nat.div_eq_of_lt ha]; rfl
    · refine ⟨2 ^ r.length + a, by rw [List.length_cons, Nat.pow_succ]; omega, ?_⟩
      have e1 : (2 ^ r.length + a) / 2 ^ r.length = 1 := by
        rw [Nat.add_div_left _ hp, Nat.div_eq_of_lt ha]
      have e2 := hlow 1
      rw [Nat.one_mul] at e2
      rw [List.length_cons, wd_cons, e1, e2, ← e, hx]; rfl
def b2 (b : Bool) : Int := if b then 1 else 0
theorem dot_sum (a b : Nat) : ∀ n, ((List.range n).map fun i => ((a / 2 ^ (n - 1 - i) % 2 : Nat) : Int) * ((b / 2 ^ (n - 1 - i) % 2 : Nat) : Int)).sum % 2 = b2 (dot n a b)
  | 0 => by simp [dot, b2]
  | n + 1 => by
    have ih := dot_sum a b n
    rw [List.range_succ_eq_map, List.map_cons, List.map_map, List.sum_cons]
    have e : ((List.range n).map ((fun i => ((a / 2 ^ (n + 1 - 1 - i) % 2 : Nat) : Int) * ((b / 2 ^ (n + 1 - 1 - i) % 2 : Nat) : Int)) ∘ Nat.succ)) = (List.range n).map fun i => ((a / 2 ^ (n - 1 - i) % 2 : Nat) : Int) * ((b / 2 ^ (n - 1 - i) % 2 : Nat) : Int) := by
      apply List.map_congr_left
      intro i hi
      simp only [Function.comp]
      rw [show n + 1 - 1 - (i.succ) = n - 1 - i by omega]
    rw [e]
    simp only [Nat.add_sub_cancel, Nat.sub_zero]
    have hd : dot (n + 1) a b = (dot n a b ^^ (a.testBit n && b.testBit n)) := rfl
    rw [hd, tb_div, tb_div]
    have h1 : a / 2 ^ n % 2 = 0 ∨ a / 2 ^ n % 2 = 1 := by omega
    have h2 : b / 2 ^ n % 2 = 0 ∨ b / 2 ^ n % 2 = 1 := by omega
    generalize ((List.range n).map fun i => ((a / 2 ^ (n - 1 - i) % 2 : Nat) : Int) * ((b / 2 ^ (n - 1 - i) % 2 : Nat) : Int)).sum = s at *
    generalize dot n a b = d at *
    rcases h1 with h1 | h1 <;> rcases h2 with h2 | h2 <;> rw [h1, h2] <;> cases d <;> simp [b2] at * <;> omega
/-- bit by bit: the sum of two words -/
theorem xor_bit (a b j : Nat) : (((a ^^^ b) / 2 ^ j % 2 : Nat) : Int) = (((a / 2 ^ j % 2 : Nat) : Int) + ((b / 2 ^ j % 2 : Nat) : Int)) % 2 := by
  have h : (a ^^^ b).testBit j = (a.testBit j ^^ b.testBit j) := Nat.testBit_xor ..
  rw [tb_div, tb_div, tb_div] at h
  have h0 : (a ^^^ b) / 2 ^ j % 2 = 0 ∨ (a ^^^ b) / 2 ^ j % 2 = 1 := by omega
  have h1 : a / 2 ^ j % 2 = 0 ∨ a / 2 ^ j % 2 = 1 := by omega
  have h2 : b / 2 ^ j % 2 = 0 ∨ b / 2 ^ j % 2 = 1 := by omega
  rcases h0 with h0 | h0 <;> rcases h1 with h1 | h1 <;> rcases h2 with h2 | h2 <;> rw [h0, h1, h2] at h <;> rw [h0, h1, h2] <;> simp at h ⊢
end M
set_option linter.all false
namespace M
def tab {α : Type} (n : Nat) (g : Nat → α) : List α := (List.range (2 ^ n)).map g
theorem tab_len {α : Type} (n : Nat) (g : Nat → α) : (tab n g).length = 2 ^ n := by simp [tab]
theorem tab_get {α : Type} {n : Nat} {g : Nat → α} {i : Nat} (h : i < 2 ^ n) : (tab n g)[i]? = some (g i) := by simp [tab, h]
theorem tab_congr {α : Type} {n : Nat} {g h : Nat → α} (e : ∀ x, x < 2 ^ n → g x = h x) : tab n g = tab n h :=
  List.map_congr_left fun x hx => e x (List.mem_range.mp hx)
theorem tab_set {α : Type} {n : Nat} {g : Nat → α} {i : Nat} {v : α} : (tab n g).set i v = tab n fun q => if q = i then v else g q := by
  apply List.ext_getElem?
  intro k
  rw [List.getElem?_set]
  by_cases hk : k < 2 ^ n
  · rw [tab_get hk, tab_get hk, tab_len]
    by_cases c : i = k
    · subst c; rw [if_pos rfl, if_pos hk, if_pos rfl]
    · rw [if_neg c, if_neg fun z => c z.symm]
  · have e1 : ∀ h : Nat → α, (tab n h)[k]? = none := fun h => List.getElem?_eq_none (by rw [tab_len]; omega)
    rw [e1, e1, tab_len]
    by_cases c : i = k
    · subst c; rw [if_pos rfl, if_neg hk]
    · rw [if_neg c]
/-- within a stage: all pairs whose first place is below i are done -/
def mix (j i : Nat) (g : Nat → Int) (q : Nat) : Int := if (if q.testBit j then q - 2 ^ j else q) < i then bf j g q else g q
theorem mix_zero (j : Nat) (g : Nat → Int) (q : Nat) : mix j 0 g q = g q := by simp [mix]
theorem mix_all {j i q : Nat} {g : Nat → Int} (h : q < i) : mix j i g q = bf j g q := by
  unfold mix; rw [if_pos]
  split
  · exact Nat.lt_of_le_of_lt (Nat.sub_le _ _) h
  · exact h
theorem tb_le {q j : Nat} (h : q.testBit j = true) : 2 ^ j ≤ q := Nat.ge_two_pow_of_testBit h
theorem tb_sub {q j : Nat} (h : q.testBit j = true) : (q - 2 ^ j).testBit j = false := by
  have h1 := tb_le h
  have h2 := tb_add_eq j (q - 2 ^ j)
  rw [Nat.sub_add_cancel h1, h] at h2
  cases c : (q - 2 ^ j).testBit j
  · rfl
  · rw [c] at h2; cases h2
theorem mix_skip {j i : Nat} {g : Nat → Int} (h : i.testBit j = true) (q : Nat) : mix j (i + 1) g q = mix j i g q := by
  unfold mix
  have key : (if q.testBit j then q - 2 ^ j else q) ≠ i := by
    intro e
    cases c : q.testBit j with
    | true => rw [c, if_pos rfl] at e; have := tb_sub c; rw [e, h] at this; cases this
    | false => rw [c] at e; simp at e; rw [e, h] at c; cases c
  by_cases c : (if q.testBit j then q - 2 ^ j else q) < i
  · rw [if_pos c, if_pos (by omega)]
  · rw [if_neg c, if_neg (by omega)]
theorem mix_at {j i : Nat} {g : Nat → Int} (h : i.testBit j = false) : mix j i g i = g i := by
  unfold mix; rw [h]; simp
theorem mix_at2 {j i : Nat} {g : Nat → Int} (h : i.testBit j = false) : mix j i g (i + 2 ^ j) = g (i + 2 ^ j) := by
  unfold mix; rw [tb_add_eq, h]; simp
theorem mix_step {j i : Nat} {g : Nat → Int} (h : i.testBit j = false) (q : Nat) :
    mix j (i + 1) g q = if q = i + 2 ^ j then g i - g (i + 2 ^ j) else if q = i then g i + g (i + 2 ^ j) else mix j i g q := by
  have hp := pow_pos2 j
  by_cases c1 : q = i + 2 ^ j
  · subst c1
    rw [if_pos rfl]; unfold mix bf; rw [tb_add_eq, h]; simp
  · rw [if_neg c1]
    by_cases c2 : q = i
    · subst c2; rw [if_pos rfl]; unfold mix bf; rw [h]; simp
    · rw [if_neg c2]
      unfold mix
      have key : (if q.testBit j then q - 2 ^ j else q) ≠ i := by
        intro e
        cases c : q.testBit j with
        | true => rw [c, if_pos rfl] at e; have := tb_le c; omega
        | false => rw [c] at e; simp at e; exact c2 e
      by_cases c : (if q.testBit j then q - 2 ^ j else q) < i
      · rw [if_pos c, if_pos (by omega)]
      · rw [if_neg c, if_neg (by omega)]
theorem tb_lt {n j i : Nat} (hj : j < n) (hi : i < 2 ^ n) (h : i.testBit j = false) : i + 2 ^ j < 2 ^ n := by
  rcases Nat.lt_or_ge (i + 2 ^ j) (2 ^ n) with c | c
  · exact c
  exfalso
  have e1 : (i + 2 ^ j).testBit j = true := by rw [tb_add_eq, h]; rfl
  have h2 : 2 ^ n = 2 ^ (n - j) * 2 ^ j := by rw [← Nat.pow_add]; congr 1; omega
  have hp := pow_pos2 j
  have h3 : i / 2 ^ j < 2 ^ (n - j) := by rw [Nat.div_lt_iff_lt_mul hp, ← h2]; exact hi
  have h4 : 2 ^ (n - j) ≤ (i + 2 ^ j) / 2 ^ j := by rw [Nat.le_div_iff_mul_le hp, ← h2]; exact c
  rw [Nat.add_div_right _ hp] at h4
  have h5 : (i / 2 ^ j) % 2 = 0 := by
    rw [tb_div] at h
    have := of_decide_eq_false h
    omega
  have h6 : 2 ^ (n - j) % 2 = 0 := by
    obtain ⟨m, hm⟩ : ∃ m, n - j = m + 1 := ⟨n - j - 1, by omega⟩
    rw [hm, Nat.pow_succ]; omega
  omega
theorem stage_done {n j : Nat} {f : Nat → Int} : tab n (mix j (2 ^ n) (T j f)) = tab n (T (j + 1) f) := tab_congr fun x hx => by rw [mix_all hx]; rfl
theorem and_pow (i j : Nat) : i &&& 2 ^ j = if i.testBit j then 2 ^ j else 0 := by
  apply Nat.eq_of_testBit_eq
  intro k
  rw [Nat.testBit_and, Nat.testBit_two_pow]
  by_cases c : j = k
  · subst c
    cases h : i.testBit j
    · simp
    · simp [Nat.testBit_two_pow]
  · cases h : i.testBit j
    · simp [c]
    · simp [c, Nat.testBit_two_pow]
theorem W_bound {n : Nat} {f : Nat → Int} (h : ∀ x, x < 2 ^ n → f x = 1 ∨ f x = -1) (a : Nat) : -(2 ^ n) ≤ W n f a ∧ W n f a ≤ 2 ^ n := by
  have hc : ∀ x, chi n a x = 1 ∨ chi n a x = -1 := fun x => by unfold chi sg; split <;> simp
  have hb : ∀ x, x < 2 ^ n → chi n a x * f x = 1 ∨ chi n a x * f x = -1 := fun x hx => by
    rcases hc x with e | e <;> rcases h x hx with e2 | e2 <;> rw [e, e2] <;> simp
  have u : W n f a ≤ S n fun _ => 1 := S_mono fun x hx => by rcases hb x hx with e | e <;> rw [e] <;> decide
  have l : (S n fun _ => (-1 : Int)) ≤ W n f a := S_mono fun x hx => by rcases hb x hx with e | e <;> rw [e] <;> decide
  rw [S_const] at u l
  constructor <;> omega
end M
set_option linter.all false
namespace M
theorem S_zero (n : Nat) : S n (fun _ => 0) = 0 := by have := S_const 0 n; simpa using this
theorem sgb (a b : Bool) : sg a * sg b = 1 - 2 * b2 (b ^^ a) := by cases a <;> cases b <;> rfl
/-- twice the distance to the sum of a is N less the signed sum -/
theorem dist_eq (n : Nat) (F : Nat → Bool) (a : Nat) : 2 * S n (fun y => b2 (F y ^^ dot n a y)) = 2 ^ n - W n (fun x => sg (F x)) a := by
  have h : W n (fun x => sg (F x)) a = S n (fun y => 1 - 2 * b2 (F y ^^ dot n a y)) := S_congr fun x _ => by
    unfold chi; exact sgb _ _
  rw [h, S_sub n (fun _ => 1) (fun y => 2 * b2 (F y ^^ dot n a y)), S_smul, S_const]
  omega
theorem sq_sum (n : Nat) (F : Nat → Bool) : S n (fun a => W n (fun x => sg (F x)) a * W n (fun x => sg (F x)) a) = 2 ^ n * 2 ^ n := by
  rw [parseval, S_congr (g := fun _ => 1) fun x _ => sg_sq _, S_const]
  simp
end M
set_option linter.all false
namespace M
theorem sum_c (p : Nat → Bool) : ∀ l : List Nat, (l.map fun i => (if p i then (1 : Int) else 0)).sum = ((l.filter p).length : Int)
  | [] => rfl
  | i :: l => by
    rw [List.map_cons, List.sum_cons, sum_c p l, List.filter_cons]
    cases p i
    · simp
    · simp; omega
/-- no more near sums than the share allows -/
theorem near_count (n : Nat) (F : Nat → Bool) (o u : Int) (ho : 0 < o) : ((((List.range (2 ^ n)).filter fun i => decide (W n (fun x => sg (F x)) i * u ≥ o * ((2 ^ n : Nat) : Int))).length : Nat) : Int) * o * o ≤ u * u := by
  have hN : (0 : Int) < 2 ^ n := Int.pow_pos (by decide)
  have eN : ((2 ^ n : Nat) : Int) = (2 : Int) ^ n := by simp
  rw [eN]
  generalize hp : (fun i => decide (W n (fun x => sg (F x)) i * u ≥ o * (2 : Int) ^ n)) = p
  have h1 : S n (fun i => (o * 2 ^ n) * (o * 2 ^ n) * (if p i then (1 : Int) else 0)) ≤ S n (fun i => (u * u) * (W n (fun x => sg (F x)) i * W n (fun x => sg (F x)) i)) := by
    refine S_mono fun x _ => ?_
    generalize hw : W n (fun x => sg (F x)) x = w
    have e : (u * u) * (w * w) = (w * u) * (w * u) := by grind
    rw [e]
    cases hx : p x
    · simp only [Bool.false_eq_true, if_false, Int.mul_zero]
      rw [← Int.natAbs_mul_self' (w * u)]
      exact Int.mul_nonneg (Int.natCast_nonneg _) (Int.natCast_nonneg _)
    · simp only [if_true, Int.mul_one]
      have h2 : w * u ≥ o * 2 ^ n := by
        rw [← hp] at hx
        have := of_decide_eq_true hx
        rw [hw] at this
        exact this
      have h3 : 0 ≤ o * 2 ^ n := Int.mul_nonneg (by omega) (by omega)
      exact Int.mul_le_mul h2 h2 h3 (by omega)
  rw [S_smul, S_smul, sq_sum, S_list, sum_c] at h1
  generalize ((List.filter p (List.range (2 ^ n))).length : Int) = k at *
  generalize (2 : Int) ^ n = N at *
  have e1 : (o * N) * (o * N) * k = (N * N) * (k * o * o) := by grind
  have e2 : u * u * (N * N) = (N * N) * (u * u) := by grind
  rw [e1, e2] at h1
  exact Int.le_of_mul_le_mul_left h1 (Int.mul_pos hN hN)
theorem wd_inj {n a b : Nat} (ha : a < 2 ^ n) (hb : b < 2 ^ n) (h : wd n a = wd n b) : a = b := by
  have := congrArg num h
  rw [num_wd, num_wd, Nat.mod_eq_of_lt ha, Nat.mod_eq_of_lt hb] at this
  omega
theorem wd_take {n k a : Nat} (h : k ≤ n) : (wd n a).take k = wd k (a / 2 ^ (n - k)) := by
  apply List.ext_getElem?
  intro i
  rw [List.getElem?_take]
  by_cases c : i < k
  · rw [if_pos c, wd_get (by omega), wd_get c, Nat.div_div_eq_div_mul, ← Nat.pow_add]
    rw [show n - k + (k - 1 - i) = n - 1 - i by omega]
  · rw [if_neg c, List.getElem?_eq_none (by rw [wd_len]; omega)]
theorem fil_sum (m b : Nat) (f : Nat → Int) (hm : 0 < m) : ∀ K, (((List.range (K * m)).filter fun i => decide (i / m = b)).map f).sum = if b < K then ((List.range m).map fun j => f (b * m + j)).sum else 0
  | 0 => by simp
  | K + 1 => by
    rw [Nat.succ_mul, List.range_add, List.filter_append, List.map_append, List.sum_append, fil_sum m b f hm K]
    have hdiv : ∀ j, j < m → (K * m + j) / m = K := fun j hj => by
      rw [Nat.mul_comm, Nat.mul_add_div hm, Nat.div_eq_of_lt hj]; rfl
    by_cases c : b = K
    · subst c
      rw [if_neg (Nat.lt_irrefl _), if_pos (Nat.lt_succ_self _), List.filter_eq_self.mpr, List.map_map]
      · simp; rfl
      · intro x hx
        obtain ⟨j, hj, rfl⟩ := List.mem_map.mp hx
        rw [hdiv j (List.mem_range.mp hj)]
        simp
    · have e : List.filter (fun i => decide (i / m = b)) (List.map (fun x => K * m + x) (List.range m)) = [] := by
        rw [List.filter_eq_nil_iff]
        intro x hx
        obtain ⟨j, hj, rfl⟩ := List.mem_map.mp hx
        rw [hdiv j (List.mem_range.mp hj)]
        simp; omega
      rw [e]
      by_cases c2 : b < K
      · rw [if_pos c2, if_pos (by omega)]; simp
      · rw [if_neg c2, if_neg (by omega)]; simp
end M
set_option linter.all false
namespace M
theorem S_pow_bound {n : Nat} {F : Nat → Bool} {m : Int} (hm : ∀ i, i < 2 ^ n → W n (fun x => sg (F x)) i ≤ m) :
    S n (fun a => W n (fun x => sg (F x)) a * W n (fun x => sg (F x)) a * W n (fun x => sg (F x)) a) ≤ m * (2 ^ n * 2 ^ n) := by
  have h : S n (fun a => W n (fun x => sg (F x)) a * W n (fun x => sg (F x)) a * W n (fun x => sg (F x)) a) ≤ S n (fun a => m * (W n (fun x => sg (F x)) a * W n (fun x => sg (F x)) a)) := by
    refine S_mono fun x hx => ?_
    have h1 := hm x hx
    generalize W n (fun x => sg (F x)) x = w at *
    have h2 : 0 ≤ w * w := by
      rw [← Int.natAbs_mul_self' w]
      exact Int.mul_nonneg (Int.natCast_nonneg _) (Int.natCast_nonneg _)
    rw [Int.mul_comm m]
    exact Int.mul_le_mul_of_nonneg_left h1 h2
  rw [S_smul, sq_sum] at h
  exact h
theorem C_one (n : Nat) : C n (fun _ => 1) (fun _ => 1) (fun _ => 1) = 2 ^ n * 2 ^ n := by
  rw [C_one3, S_const]; simp
/-- the other bound of the share of passed tests -/
theorem cube_bound {n a : Nat} {F : Nat → Bool} (ha : a < 2 ^ n) : let d := S n fun y => b2 (F y ^^ dot n a y)
    S n (fun b => W n (fun x => sg (F x)) b * W n (fun x => sg (F x)) b * W n (fun x => sg (F x)) b) ≤ 2 ^ n * (2 ^ n * 2 ^ n - 6 * 2 ^ n * d + 12 * (d * d)) := by
  intro d
  rw [cubes]
  have hN : (0 : Int) < 2 ^ n := Int.pow_pos (by decide)
  refine Int.mul_le_mul_of_nonneg_left ?_ (by omega)
  let D : Nat → Int := fun y => b2 (F y ^^ dot n a y)
  have hf : ∀ x, x < 2 ^ n → chi n a x * sg (F x) = 1 - 2 * D x := fun x _ => by unfold chi; exact sgb _ _
  have e1 : C n (fun x => sg (F x)) (fun x => sg (F x)) (fun x => sg (F x)) = C n (fun x => 1 - 2 * D x) (fun x => 1 - 2 * D x) (fun x => 1 - 2 * D x) := by
    rw [← C_chi n a, C_congr hf hf hf]
  have hd : d = S n D := rfl
  have e2 : C n (fun x => 1 - 2 * D x) (fun x => 1 - 2 * D x) (fun x => 1 - 2 * D x) = 2 ^ n * 2 ^ n - 6 * 2 ^ n * d + 12 * (d * d) - 8 * C n D D D := by
    have m1 : ∀ g h, C n (fun x => 1 - 2 * D x) g h = C n (fun _ => 1) g h - 2 * C n D g h := fun g h => by
      rw [C_sub1 n (fun _ => 1) (fun x => 2 * D x), C_mul1]
    have m2 : ∀ f h, C n f (fun x => 1 - 2 * D x) h = C n f (fun _ => 1) h - 2 * C n f D h := fun f h => by
      rw [C_sub2 n f (fun _ => 1) (fun x => 2 * D x), C_mul2]
    have m3 : ∀ f g, C n f g (fun x => 1 - 2 * D x) = C n f g (fun _ => 1) - 2 * C n f g D := fun f g => by
      rw [C_sub3 n f g (fun _ => 1) (fun x => 2 * D x), C_mul3]
    have c1 : S n (fun _ => (1 : Int)) = 2 ^ n := by rw [S_const]; simp
    simp only [m1, m2, m3, C_one1, C_one2, C_one3, c1, ← hd]
    generalize C n D D D = q
    generalize (2 : Int) ^ n = N
    grind
  rw [e1, e2]
  have h3 : 0 ≤ C n D D D := C_nonneg (fun x _ => by show 0 ≤ b2 _; cases (F x ^^ dot n a x) <;> decide) (fun x _ => by show 0 ≤ b2 _; cases (F x ^^ dot n a x) <;> decide) (fun x _ => by show 0 ≤ b2 _; cases (F x ^^ dot n a x) <;> decide)
  omega
/-! ### sums over a shifted row -/
theorem xor_add {n a b : Nat} (ha : a < 2 ^ n) (hb : b < 2 ^ n) : a ^^^ (b + 2 ^ n) = (a ^^^ b) + 2 ^ n := by
  have hx : a ^^^ b < 2 ^ n := Nat.xor_lt_two_pow ha hb
  apply Nat.eq_of_testBit_eq
  intro i
  rw [Nat.testBit_xor]
  rcases Nat.lt_trichotomy i n with h | h | h
  · rw [tb_add_lt h, tb_add_lt h, Nat.testBit_xor]
  · subst h
    rw [tb_add_eq, tb_add_eq, Nat.testBit_lt_two_pow ha, Nat.testBit_lt_two_pow hb, Nat.testBit_lt_two_pow hx]
    rfl
  · have h2 : 2 ^ (n + 1) ≤ 2 ^ i := Nat.pow_le_pow_right (by decide) h
    have h3 : 2 ^ (n + 1) = 2 ^ n + 2 ^ n := by rw [Nat.pow_succ]; omega
    rw [Nat.testBit_lt_two_pow (by omega), Nat.testBit_lt_two_pow (by omega), Nat.testBit_lt_two_pow (by omega)]
    rfl
theorem S_shift : ∀ {n x : Nat} (g : Nat → Int), x < 2 ^ n → S n (fun y => g (x ^^^ y)) = S n g
  | 0, x, g, hx => by
    have : x = 0 := by simpa using hx
    subst this; simp [S]
  | n + 1, x, g, hx => by
    have hp : 2 ^ (n + 1) = 2 ^ n + 2 ^ n := by rw [Nat.pow_succ]; omega
    show S n (fun y => g (x ^^^ y)) + S n (fun y => g (x ^^^ (y + 2 ^ n))) = S n g + S n (fun y => g (y + 2 ^ n))
    by_cases c : x < 2 ^ n
    · rw [S_shift g c]
      have e : S n (fun y => g (x ^^^ (y + 2 ^ n))) = S n (fun y => (fun z => g (z + 2 ^ n)) (x ^^^ y)) := S_congr fun y hy => by rw [xor_add c hy]
      rw [e, S_shift (fun z => g (z + 2 ^ n)) c]
    · obtain ⟨z, rfl⟩ : ∃ z, x = z + 2 ^ n := ⟨x - 2 ^ n, by omega⟩
      have hz : z < 2 ^ n := by omega
      have e1 : S n (fun y => g ((z + 2 ^ n) ^^^ y)) = S n (fun y => (fun w => g (w + 2 ^ n)) (z ^^^ y)) := S_congr fun y hy => by
        rw [Nat.xor_comm, xor_add hy hz, Nat.xor_comm]
      have e2 : S n (fun y => g ((z + 2 ^ n) ^^^ (y + 2 ^ n))) = S n (fun y => g (z ^^^ y)) := S_congr fun y hy => by
        have h1 := xor_add (n := n) (a := z) (b := y) hz hy
        have h2 : (z + 2 ^ n) ^^^ (y + 2 ^ n) = z ^^^ y := by
          have a1 : z + 2 ^ n = z ^^^ 2 ^ n := by have := xor_add (n := n) (a := z) (b := 0) hz (Nat.pow_pos (by decide)); simpa using this.symm
          have a2 : y + 2 ^ n = y ^^^ 2 ^ n := by have := xor_add (n := n) (a := y) (b := 0) hy (Nat.pow_pos (by decide)); simpa using this.symm
          rw [a1, a2]
          apply Nat.eq_of_testBit_eq
          intro i
          simp only [Nat.testBit_xor]
          cases z.testBit i <;> cases y.testBit i <;> cases (2 ^ n).testBit i <;> rfl
        rw [h2]
      rw [e1, e2, S_shift (fun w => g (w + 2 ^ n)) hz, S_shift g hz]
      omega
/-- near a sum the mended bits are its bits -/
theorem mend {n a x : Nat} {F : Nat → Bool} (hx : x < 2 ^ n) (hd : 4 * S n (fun y => b2 (F y ^^ dot n a y)) < 2 ^ n) :
    2 * S n (fun y => b2 (F (x ^^^ y) ^^ F y)) ≠ 2 ^ n ∧ decide (2 * S n (fun y => b2 (F (x ^^^ y) ^^ F y)) > 2 ^ n) = dot n x a := by
  have h1 : S n (fun y => b2 (F (x ^^^ y) ^^ F y ^^ dot n a x)) ≤ S n (fun y => (fun z => b2 (F z ^^ dot n a z)) (x ^^^ y) + b2 (F y ^^ dot n a y)) := by
    refine S_mono fun y _ => ?_
    show _ ≤ b2 (F (x ^^^ y) ^^ dot n a (x ^^^ y)) + b2 (F y ^^ dot n a y)
    rw [dot_xor]
    cases F (x ^^^ y) <;> cases F y <;> cases dot n a x <;> cases dot n a y <;> decide
  rw [S_add, S_shift (fun z => b2 (F z ^^ dot n a z)) hx] at h1
  generalize S n (fun z => b2 (F z ^^ dot n a z)) = d at *
  rw [dot_comm n x a]
  cases hc : dot n a x with
  | false =>
    rw [hc] at h1
    have e : S n (fun y => b2 (F (x ^^^ y) ^^ F y ^^ false)) = S n (fun y => b2 (F (x ^^^ y) ^^ F y)) := S_congr fun y _ => by rw [Bool.xor_false]
    rw [e] at h1
    exact ⟨by omega, decide_eq_false (by omega)⟩
  | true =>
    rw [hc] at h1
    have e : S n (fun y => b2 (F (x ^^^ y) ^^ F y ^^ true)) = 2 ^ n - S n (fun y => b2 (F (x ^^^ y) ^^ F y)) := by
      have e1 : S n (fun y => b2 (F (x ^^^ y) ^^ F y ^^ true)) = S n (fun y => 1 - b2 (F (x ^^^ y) ^^ F y)) := S_congr fun y _ => by
        cases (F (x ^^^ y) ^^ F y) <;> rfl
      rw [e1, S_sub n (fun _ => 1), S_const]; simp
    rw [e] at h1
    exact ⟨by omega, decide_eq_true (by omega)⟩
end M
set_option Elab.async false
set_option linter.all false
set_option maxRecDepth 100000
set_option maxHeartbeats 1000000
namespace Gx
open PySem PySem.Spec PyProof.Rows L2 GenW
/-! ### the context of a generator expression's block, woken under A -/
abbrev gctx (X : Cx) (A : Around) (s : Shared) (H : Hp) (cenv : Env) (fp : List Addr) : Cx :=
  { X with A := A.deeper cenv, s_0 := s, H_0 := H, env := cenv, outer := X.stack, stack := cenv :: X.stack, ex := fp, fn := fun _ => false, pn := [], xe := fun _ _ => False }
theorem over_loop {A : Around} {elt : Expr} {gs : List Comprehension} {sc : Scope} {pos : Pos} {it acc : Value} {env : Env} : A.over (.compLoop (.GeneratorExp elt gs sc pos) 0 it acc env) [] = A.deeper env := by
  first
    | rfl
    | (obtain ⟨hd, d, fr, gs, u⟩ := A; simp [Around.over, Around.deeper, marksOver, frameCount, unitsOf, envsOf, guardsOf, pushEnvs, pushGuards, Code.envs, Code.env?, Code.isFrame, Code.guards, Code.isGuard, Code.weight, Code.frames, Code.isCreation, Code.isCaller, Code.cUnits])
theorem over_start {A : Around} {elt : Expr} {gs : List Comprehension} {sc : Scope} {pos : Pos} {it acc : Value} {env : Env} : A.over (.compStart (.GeneratorExp elt gs sc pos) 0 it acc env) [] = A.deeper env := by
  first
    | rfl
    | (obtain ⟨hd, d, fr, gs, u⟩ := A; simp [Around.over, Around.deeper, marksOver, frameCount, unitsOf, envsOf, guardsOf, pushEnvs, pushGuards, Code.envs, Code.env?, Code.isFrame, Code.guards, Code.isGuard, Code.weight, Code.frames, Code.isCreation, Code.isCaller, Code.cUnits])
/-- the scope of a generator expression -/
structure GSc (scope : Scope) : Prop where
  co : scope.isCoroutine = false
  cell : ∀ y ∈ scope.names, y.2 ≠ .cell
  dot : scope.names.lookup (".0" : Str) = some NameKind.local
section
variable {X : Cx} {pins : List (Addr × Obj)} {σ : L2.St} {H : Hp} {s : Shared}
theorem gblock_start {A : Around} {scope : Scope} {own : List (Str × Nat)} {fp : List Addr} {it : Value} {code : Value} {h5 : Heap} {gs5 : Array GenState} {tk5 : Nat} (I : Inv X pins σ H s) (ok : BlkOk X.N X.env.scope scope own) (G : GSc scope) (hN : X.N.Nodup)
    (hA : A.frames = some X.stack) (hd : A.handled = none) (hfp : ∀ b ∈ fp, FpOk X pins H b ∧ b < s.heap.objs.size)
    (hn5 : h5.Ns s.heap.objs.size (fun y => if y = (".0" : Str) then some it else none)) (kp : ∀ b o, s.heap.get? b = some o → h5.get? b = some o) (hg : AllBare gs5) :
    Inv (gctx X A s H (genEnv scope (cloFrom X.env.cells scope.names []) s.heap.objs.size code builtinsNs X.env) fp) [] (wipe σ (own.map (·.2))) H { s with heap := h5, gens := gs5, toks := tk5 } := by
  have hfree : ∀ y ∈ scope.names, y.2 = .free → ∃ c, X.env.cells.lookup y.1 = some c := fun y hy e => by
    rcases ok.free y hy e with k | k
    · exact I.ok.has _ (.inl k)
    · exact I.ok.has _ (.inr k)
  generalize hcenv : genEnv scope (cloFrom X.env.cells scope.names []) s.heap.objs.size code builtinsNs X.env = cenv
  have hL : cenv.locals = s.heap.objs.size := by rw [← hcenv]; rfl
  have hcl : cenv.cells = cloFrom X.env.cells scope.names [] := by rw [← hcenv]; rfl
  have hsc : cenv.scope = scope := by rw [← hcenv]; rfl
  have cm : ∀ {y c}, (y, c) ∈ cloFrom X.env.cells scope.names [] → X.env.cells.lookup y = some c ∧ c < s.heap.objs.size := fun {y c} hm => by
    rcases cloFrom_mem hm with hm | ⟨h1, rfl⟩
    · cases hm
    · obtain ⟨c, hc⟩ := hfree _ h1 rfl
      rw [hc]
      obtain ⟨w, z⟩ := I.cell _ _ hc
      exact ⟨rfl, z.lt⟩
  have mem : ∀ {y c}, cenv.cells.lookup y = some c → X.env.cells.lookup y = some c ∧ c < s.heap.objs.size := fun {y c} e => by
    rw [hcl] at e
    exact cm (PySem.mem_of_lookup e)
  have look : ∀ {y}, scope.names.lookup y = some .free → ∃ c, cenv.cells.lookup y = some c ∧ X.env.cells.lookup y = some c := fun {y} hl => by
    have hy : (y, NameKind.free) ∈ scope.names := PySem.mem_of_lookup hl
    obtain ⟨c', e'⟩ := mem_lookup (cloFrom_has (cells := X.env.cells) (acc := []) hy)
    rw [← hcl] at e'
    exact ⟨c', e', (mem e').1⟩
  have nocell : ∀ {y}, scope.names.lookup y ≠ some .cell := fun {y} e => G.cell _ (PySem.mem_of_lookup e) rfl
  have okB : (gctx X A s H cenv fp).Ok := by
    refine ⟨I.ok.mod, by show cenv.scope.kind = _; rw [hsc]; exact ok.kind, by show cenv.globals = _; rw [← hcenv]; exact I.ok.glob, by show cenv.builtins = _; rw [← hcenv]; rfl, by show s.heap.objs.size ≤ cenv.locals; rw [hL]; exact Nat.le_refl _,
      fun y z c e1 e2 => I.ok.inj y z c (mem e1).1 (mem e2).1, fun y hy => ?_, fun y c z e => ?_, fun _ => hd, Around.frames_deeper hA, .inr ⟨rfl, ?_⟩, fun b hb => ⟨?_, fun y c e z => ?_⟩, I.bs, Nat.le_trans I.ok.bsz I.sz, fun b o e hb => ?_, fun b hb z => ?_, I.stack, I.stkFree⟩
    · show ∃ c, cenv.cells.lookup y = some c
      have key : ∀ k, cenv.kindOf y = some k → (k = .cell ∨ k = .free) → ∃ c, cenv.cells.lookup y = some c := fun k hk hk' => by
        unfold Env.kindOf at hk
        rw [hsc] at hk
        rcases hk' with rfl | rfl
        · exact absurd hk nocell
        · obtain ⟨c, h1, _⟩ := look hk
          exact ⟨c, h1⟩
      rcases hy with hy | hy
      · exact key _ hy (.inl rfl)
      · exact key _ hy (.inr rfl)
    · have z : (false : Bool) = true := z
      cases z
    · show cenv.frame = some cenv.locals
      rw [← hcenv] <;> rfl
    · show b ≠ cenv.locals
      rw [hL]; exact Nat.ne_of_lt (hfp b hb).2
    · exact (hfp b hb).1.2.2.2.2.1 y c (mem e).1 z
    · rcases (hfp b hb).1.2.2.2.1 with z | z
      · exact I.ok.noex b o e z
      · exact absurd (Nat.lt_of_lt_of_le (Heap.lt_size e) (Nat.le_trans I.ok.bsz z)) (Nat.lt_irrefl _)
    · rcases List.mem_cons.mp (I.stkSub b z) with z | z
      · exact (hfp b hb).1.2.1 z
      · exact (hfp b hb).1.2.2.1 z
  refine ⟨okB, rfl, hg, Un.kept kp, ⟨fun y => if y = (".0" : Str) then some it else none, ?_, fun i y av e1 e2 e3 => ?_⟩, fun y c e => ?_, ?_, fun y c e => ?_, fun p hp => ?_, I.hok.kept kp, by rw [wipe_length]; exact I.len⟩
  · show Heap.Ns _ cenv.locals _
    rw [hL]
    exact hn5
  · obtain ⟨e2, hne⟩ := wipe_some e2
    have hfr : scope.names.lookup y = some .free := by
      have key : ∀ k, cenv.scope.names.lookup y = some k → k = .local ∨ k = .cell ∨ k = .free → scope.names.lookup y = some .free := fun k hk hk' => by
        rw [hsc] at hk
        have no : ¬ (k = .local ∨ k = .cell) := fun hh => by
          rcases ok.own _ (PySem.mem_of_lookup hk) hh with e' | e'
          · obtain ⟨p, hp, hpy⟩ := List.mem_map.mp e'
            have e3 := ok.ix p hp
            have : p.1 = y := hpy
            rw [this] at e3
            exact hne (List.mem_map.mpr ⟨p, hp, nodup_ix hN e3 e1⟩)
          · exact e' (List.mem_of_getElem? e1)
        rcases hk' with rfl | rfl | rfl
        · exact absurd (.inl rfl) no
        · exact absurd (.inr rfl) no
        · exact hk
      have e3 : Vis cenv.scope y := e3
      rcases e3 with e3 | e3 | e3
      · exact key _ e3 (.inl rfl)
      · exact key _ e3 (.inr (.inl rfl))
      · exact key _ e3 (.inr (.inr rfl))
    obtain ⟨m, hn, hl⟩ := I.loc
    have hvis : Vis X.env.scope y := (ok.free _ (PySem.mem_of_lookup hfr) rfl).elim (fun k => .inr (.inl k)) (fun k => .inr (.inr k))
    obtain ⟨w, r, q⟩ := hl i y av e1 e2 hvis
    have kf : cenv.kindOf y = some .free := by
      unfold Env.kindOf
      rw [hsc]
      exact hfr
    refine ⟨w, r, .inr ⟨.inr kf, ?_⟩⟩
    obtain ⟨c, h1, h2⟩ := look hfr
    rcases q with ⟨k, _⟩ | ⟨_, c', e', z⟩
    · have k : X.env.scope.names.lookup y = some .local := k
      rcases ok.free _ (PySem.mem_of_lookup hfr) rfl with k' | k' <;> rw [show X.env.scope.names.lookup y = _ from k'] at k <;> cases k
    · rw [h2] at e'; cases e'
      exact ⟨c, h1, z.keeps kp⟩
  · obtain ⟨w, z⟩ := I.cell y c (mem e).1
    exact ⟨w, z.keeps kp⟩
  · show H cenv.locals = none
    rw [hL]; exact I.hok.fresh (Nat.le_refl _)
  · exact I.freeC y c (mem e).1
  · exact absurd (show p ∈ ([] : List (Addr × Obj)) ++ [] from hp) (by simp)
end
/-! ### what the consumer does between two turns: its own objects (SL) may change, all else is kept -/
structure Slp (SL : List Addr) (s s' : Shared) : Prop where
  os : s'.os = s.os
  bare : AllBare s'.gens
  keep : ∀ b o, b ∉ SL → s.heap.get? b = some o → s'.heap.get? b = some o
theorem Slp.refl {SL : List Addr} {s : Shared} (h : AllBare s.gens) : Slp SL s s := ⟨rfl, h, fun _ _ _ e => e⟩
theorem Slp.trans {SL : List Addr} {s s1 s2 : Shared} (a : Slp SL s s1) (b : Slp SL s1 s2) : Slp SL s s2 := ⟨b.os.trans a.os, b.bare, fun c o h e => b.keep c o h (a.keep c o h e)⟩
/-- the consumer's objects: younger than the block, none of its frame's -/
structure Apt (B : Cx) (SL : List Addr) (H : Hp) : Prop where
  young : ∀ b ∈ SL, B.s_0.heap.objs.size ≤ b
  loc : ∀ b ∈ SL, b ≠ B.env.locals
  cells : ∀ b ∈ SL, ∀ x c, B.env.cells.lookup x = some c → c ≠ b
  free : ∀ b ∈ SL, H b = none
theorem inv_slp {B : Cx} {pins : List (Addr × Obj)} {σ : L2.St} {H : Hp} {s s' : Shared} {SL : List Addr} (I : Inv B pins σ H s) (ap : Apt B SL H) (hp : ∀ p ∈ B.pn ++ pins, p.1 ∉ SL) (z : Slp SL s s') : Inv B pins σ H s' := by
  have nt : ∀ b u, H b = some u → b ∉ SL := fun b u q hb => by rw [ap.free b hb] at q; cases q
  obtain ⟨z1, z2, z3⟩ := z
  obtain ⟨hh, g, d, t, o⟩ := s'
  have ho : o = s.os := z1
  subst ho
  refine I.step (g' := g) (t' := t) (d' := d) (ch := SL) (fun b hb => ⟨.inr (ap.young b hb), ap.loc b hb, ap.cells b hb, fun p hpp => fun e => hp p hpp (by rw [e]; exact hb)⟩)
    (fun b ob _ _ hc q _ => z3 b ob hc q) (fun b ob _ _ hc q _ => ⟨ob.slots, z3 b ob hc q⟩) (fun _ _ _ _ n => n) (fun b ob hc q => ⟨ob, z3 b ob hc q⟩)
    (fun _ _ q => q) (fun _ _ _ q => q) (fun b ps q => ⟨#[], by rw [q]; simp⟩) (fun m hm => ?_) (fun b u q => ?_) z2
  · obtain ⟨ob, es, ep, ho, r⟩ := hm
    exact ⟨ob, es, ep, z3 _ ob (fun hb => ap.loc _ hb rfl) ho, r⟩
  · refine (I.hok b u q).stay (fun c v hc y => z3 c v ?_ y) (fun _ y => y) fun _ _ y => y
    rcases hc with y | y
    · rw [y]; exact nt b u q
    · exact nt c _ y
/-- the consumer's objects pinned -/
theorem inv_pinSL {B : Cx} {pins : List (Addr × Obj)} {σ : L2.St} {H : Hp} {s : Shared} {SL : List Addr} (I : Inv B pins σ H s) (ap : Apt B SL H) (hs : ∀ b ∈ SL, ∃ o, s.heap.get? b = some o ∧ ∀ v, o.data ≠ .cell v) : Inv B (pins ++ pinsAt SL s.heap) σ H s :=
  I.pins_of fun p hp => (List.mem_append.mp hp).elim (fun z => I.pin p (List.mem_append_right _ z)) fun z => by
    obtain ⟨hb, e⟩ := of_pinsAt z
    obtain ⟨o, e', d⟩ := hs p.1 hb
    rw [e] at e'; cases e'
    refine ⟨e, ap.free _ hb, ap.loc _ hb, fun hf => ?_, d⟩
    obtain ⟨_, o, ho, _⟩ := I.ok.funs.mem hf
    exact absurd (Nat.lt_of_lt_of_le (Heap.lt_size ho) (ap.young _ hb)) (Nat.lt_irrefl _)
theorem keptSL {B : Cx} {pins : List (Addr × Obj)} {σ : L2.St} {H : Hp} {s s0 : Shared} {SL : List Addr} (I : Inv B (pins ++ pinsAt SL s0.heap) σ H s) : ∀ b ∈ SL, ∀ o, s0.heap.get? b = some o → s.heap.get? b = some o ∧ H b = none := fun b hb o e =>
  let z := I.pin (b, o) (List.mem_append_right _ (List.mem_append_right _ (mem_pinsAt hb e)))
  ⟨z.1, z.2.1⟩
end Gx
set_option Elab.async false
set_option linter.all false
set_option maxRecDepth 100000
set_option maxHeartbeats 1000000
namespace Gx
open PySem PySem.Spec PyProof.Rows L2 GenW
/-- what the consumer makes of an item: what is out so far, the item, the heap, where it goes on, where the call ends -/
abbrev Con := List V → V → Hp → (List V → Hp → Prop) → VK → Prop
abbrev Fin1 := List V → Hp → VK → Prop
/-- the turns of the loop: i the turn, m a measure, acc what is out -/
def Turns (J : It) (g : TG) (tt : TT) (te : TE) (vs : List Nat) (σ : L2.St) (con : Con) (fin : Fin1) (Q : VK) (W : Nat → Nat → List V → Hp → Prop) : Prop :=
  ∀ i m acc H, W i m acc H → (J.stop i H ∧ fin acc H Q) ∨ (J.go i H ∧ ∃ Nx : List V → Hp → Prop, (∀ acc' H', Nx acc' H' → ∃ m', m' < m ∧ W (i + 1) m' acc' H') ∧
    ∀ x H', J.yld i H x H' → g x (wipe σ vs) H' fun σ2 H2 => wipe σ2 vs = wipe σ vs ∧ tt σ2 H2 fun b H3 => if b = true then te σ2 H3 fun y H4 => con acc y H4 Nx Q else Nx acc H3)
/-- the consumer's objects stand -/
def Has (SL : List Addr) (h : Heap) : Prop := ∀ b ∈ SL, ∃ o, h.get? b = some o ∧ ∀ v, o.data ≠ .cell v
/-- the consumer's objects are as they were -/
def Hold (SL : List Addr) (h h' : Heap) : Prop := ∀ b ∈ SL, ∀ o, h.get? b = some o → h'.get? b = some o
section
variable (B : Cx) (A1 : Around) (elt tg iter : Expr) (ifs : List Expr) (scope : Scope) (pos : Pos) (J : It) (g : TG) (tt : TT) (te : TE) (vs : List Nat) (σ : L2.St) (con : Con) (fin : Fin1) (Q : VK) (W : Nat → Nat → List V → Hp → Prop)
  (fp : List Addr) (it : Addr) (tn : Nat → Heap → Prop) (SL : List Addr) (Rel : List V → Heap → Prop) (a : Addr) (oa : Obj)
/-- all that the loop leans on -/
structure GOk : Prop where
  A : B.A = A1.deeper B.env
  xe : B.xe = fun _ _ => False
  pn : B.pn = []
  calm : B.calm = true
  co : B.env.scope.isCoroutine = false
  T : Turn B.prog B.w B.K tg J fp it tn
  ex : B.ex = fp
  pg : PG B tg g
  pt : PTs B ifs tt
  pe : PE B elt te
  tu : Turns J g tt te vs σ con fin Q W
  aS : a ∉ SL
  afp : a ∉ fp
  ayoung : B.s_0.heap.objs.size ≤ a
  Sfp : ∀ b ∈ SL, b ∉ fp
  rel : ∀ acc h h', Has SL h → Hold SL h h' → Rel acc h → Rel acc h'
/-- the generator between two turns -/
structure GSt (i m : Nat) (acc : List V) (H : Hp) (s : Shared) : Prop where
  inv : Inv B [(a, oa)] (wipe σ vs) H s
  tn : tn i s.heap
  fp0 : ∀ b ∈ fp, H b = none
  w : W i m acc H
  apt : Apt B SL H
def GEndP (n : Nat) (s0 s : Shared) : Prop := ∃ acc H, fin acc H Q ∧ Inv B [(a, oa)] (wipe σ vs) H s ∧ Hold SL s0.heap s.heap ∧ Rel acc s.heap ∧ Apt B SL H
def GEnd1 : GenEnd := fun n s0 r s => r = .ok .next ∧ GEndP B vs σ fin Q SL Rel a oa n s0 s
def GProto : Protocol := fun n s0 v s kap => ∃ (i : Nat) (acc : List V) (y : V) (H : Hp) (Nx : List V → Hp → Prop), RelV y v ∧ Inv B [(a, oa)] (wipe σ vs) H s ∧ tn i s.heap ∧ (∀ b ∈ fp, H b = none) ∧ Apt B SL H ∧ Hold SL s0.heap s.heap ∧ Rel acc s.heap ∧ con acc y H Nx Q ∧
  ∀ acc', Nx acc' H → ∃ m, m < n ∧ W i m acc' H ∧ ∀ s'', Slp SL s s'' → Has SL s''.heap → Rel acc' s''.heap → kap (.send .none) s''
end
section
variable {B : Cx} {A1 : Around} {elt tg iter : Expr} {ifs : List Expr} {scope : Scope} {pos : Pos} {J : It} {g : TG} {tt : TT} {te : TE} {vs : List Nat} {σ : L2.St} {con : Con} {fin : Fin1} {Q : VK} {W : Nat → Nat → List V → Hp → Prop}
  {fp : List Addr} {it : Addr} {tn : Nat → Heap → Prop} {SL : List Addr} {Rel : List V → Heap → Prop} {a : Addr} {oa : Obj}
theorem thnE {α : Type} {t : Sem α} {Q Q' : α → Shared → Prop} {M : Model} {A : Around} {E E' : Value → Shared → Prop} {s : Shared} (hE : E = fun _ _ => False) (h : wpAny M A t Q E s) (hQ : ∀ a s, Q a s → Q' a s) : wpAny M A t Q' E' s := by
  subst hE
  exact wpAny_mono h hQ fun _ _ z => False.elim z
theorem Inv.apt {X : Cx} {pins : List (Addr × Obj)} {σ σ' : L2.St} {H H' : Hp} {s s' : Shared} {SL : List Addr} (ap : Apt X SL H) (h : ∀ b ∈ SL, H' b = none) : Apt X SL H' := ⟨ap.young, ap.loc, ap.cells, h⟩
theorem gx_loop (G : GOk B A1 elt tg ifs J g tt te vs σ con fin Q W fp it tn SL Rel a) : ∀ (m n i : Nat) (acc : List V) (H : Hp) (s s0 : Shared), m < n → GSt B vs σ W fp tn SL a oa i m acc H s → Has SL s.heap → Hold SL s0.heap s.heap → Rel acc s.heap →
    Seg (model B.prog B.w) A1 (GEnd1 B vs σ fin Q SL Rel a oa) (GProto B vs σ con Q W fp tn SL Rel a oa) n s0 (.compLoop (.GeneratorExp elt [⟨tg, iter, ifs, 0⟩] scope pos) 0 (.ref it) .none B.env)
      ((model B.prog B.w).den (.compLoop (.GeneratorExp elt [⟨tg, iter, ifs, 0⟩] scope pos) 0 (.ref it) .none B.env)) [] s := by
  intro m
  induction m using Nat.strongRecOn with
  | ind m ih =>
    intro n i acc H s s0 hmn st hS hold hrel
    have hov : A1.over (.compLoop (.GeneratorExp elt [⟨tg, iter, ifs, 0⟩] scope pos) 0 (.ref it) .none B.env) [] = B.A := by rw [over_loop, G.A]
    -- the consumer's objects pinned, the iterator's own
    have I0 := inv_pinSL st.inv st.apt hS
    have okfp : ∀ {pins : List (Addr × Obj)} {σ' : L2.St} {H' : Hp} {s' : Shared}, Inv B pins σ' H' s' → (∀ b ∈ fp, H' b = none) → (∀ p ∈ pins, p.1 ∉ fp) → ∀ b ∈ fp, FpOk B pins H' b := fun {pins σ' H' s'} I' hn hp b hb => by
      have hb' : b ∈ B.ex := by rw [G.ex]; exact hb
      refine ⟨hn b hb, (I'.ok.exf b hb').1, I'.ok.exfs b hb', .inl hb', fun x c e => (I'.ok.exf b hb').2 x c e, fun p hpp => ?_⟩
      rw [G.pn] at hpp
      intro e
      exact hp p hpp (by rw [e]; exact hb)
    have pinsfp : ∀ p ∈ ([(a, oa)] ++ pinsAt SL s.heap), p.1 ∉ fp := fun p hp => by
      rcases List.mem_append.mp hp with z | z
      · rw [List.mem_singleton.mp z]; exact G.afp
      · exact G.Sfp _ (of_pinsAt z).1
    show Seg _ A1 _ _ _ s0 _ ((compTurn (.GeneratorExp elt [⟨tg, iter, ifs, 0⟩] scope pos) 0 (.ref it) .none B.env).onRaise (leaving B.env)) [] s
    rw [compTurn_gen, Sem.onRaise_eq_wrap]
    refine seg_bind_wrap (wpAny_standAt ?_)
    rcases G.tu i m acc H st.w with ⟨stop, hf⟩ | ⟨go, Nx, hNx, step⟩
    · refine seg_bind_wrap ?_
      rw [hov]
      refine thn (G.T.done B rfl rfl rfl G.calm i _ s _ H _ I0 (okfp I0 st.fp0 pinsfp) st.tn stop) fun r s1 ⟨hr, I1⟩ => ?_
      subst hr
      refine seg_end (.ok .next) ⟨rfl, acc, H, hf, I1.unpinned, fun b hb o e => (keptSL I1 b hb o (hold b hb o e)).1, G.rel acc _ _ hS (fun b hb o e => (keptSL I1 b hb o e).1) hrel, st.apt⟩
    · refine seg_bind_wrap ?_
      rw [hov]
      refine thn (G.T.item B rfl rfl rfl G.calm i _ s _ H _ I0 (okfp I0 st.fp0 pinsfp) st.tn go) fun r s1 ⟨u, hr, h1⟩ => ?_
      subst hr
      dsimp only
      refine seg_bind_wrap ?_
      rw [hov]
      refine thn h1 fun _ s2 ⟨x, H2, I2, rx, y2, tn2, fp2⟩ => ?_
      have I2' := I2.pinned (okfp I2 fp2 pinsfp) (G.T.obj _ _ tn2)
      refine seg_bind_wrap ?_
      rw [hov]
      refine thnE G.xe (G.pg.run _ s2 _ H2 x u _ I2' rx (step x H2 y2)) fun _ s3 ⟨σ3, H3, I3, hw3, q3⟩ => ?_
      refine seg_bind_wrap ?_
      rw [hov]
      refine thnE G.xe (G.pt.run _ s3 σ3 H3 _ I3 q3) fun b s4 ⟨H4, I4, q4⟩ => ?_
      have hl : (wipe σ vs).length = σ3.length := by rw [← hw3, wipe_length]
      -- behind the turn
      have back : ∀ {s' : Shared} {H' : Hp}, Inv B (([(a, oa)] ++ pinsAt SL s.heap) ++ pinsAt fp s2.heap) σ3 H' s' → Inv B [(a, oa)] (wipe σ vs) H' s' ∧ tn (i + 1) s'.heap ∧ (∀ b ∈ fp, H' b = none) ∧ Apt B SL H' ∧ Hold SL s0.heap s'.heap ∧ Has SL s'.heap ∧ Rel acc s'.heap := fun {s' H'} I' => by
        have pin' : ∀ b ∈ fp, ∀ o, s2.heap.get? b = some o → s'.heap.get? b = some o ∧ H' b = none := fun b hb o e =>
          let z := I'.pin (b, o) (List.mem_append_right _ (List.mem_append_right _ (mem_pinsAt hb e)))
          ⟨z.1, z.2.1⟩
        have kS := keptSL (pins := [(a, oa)]) I'.unpinned
        refine ⟨(I'.unpinned (pins := [(a, oa)] ++ pinsAt SL s.heap)).unpinned.weak hl (fun j v e => ?_), G.T.keep _ _ _ tn2 fun b hb o e => (pin' b hb o e).1, fun b hb => ?_, Inv.apt (pins := []) (σ := σ) (σ' := σ) (s := s) (s' := s') st.apt fun b hb => ?_, fun b hb o e => (kS b hb o (hold b hb o e)).1, fun b hb => ?_, G.rel acc _ _ hS (fun b hb o e => (kS b hb o e).1) hrel⟩
        · rw [← hw3] at e
          exact (wipe_some e).1
        · obtain ⟨o, e, _⟩ := G.T.obj _ _ tn2 b hb
          exact (pin' b hb o e).2
        · obtain ⟨o, e, _⟩ := hS b hb
          exact (kS b hb o e).2
        · obtain ⟨o, e, d⟩ := hS b hb
          exact ⟨o, (kS b hb o e).1, d⟩
      cases b with
      | false =>
        simp only [Bool.false_eq_true, if_false] at q4 ⊢
        obtain ⟨m', hm', w'⟩ := hNx _ _ q4
        obtain ⟨b1, b2, b3, b4, b5, b6, b7⟩ := back I4
        exact seg_again rfl (ih m' hm' n (i + 1) acc H4 s4 s0 (by omega) ⟨b1, b2, b3, w', b4⟩ b6 b5 b7)
      | true =>
        simp only [if_true] at q4 ⊢
        obtain ⟨k, rfl⟩ : ∃ k, n = k + 1 := ⟨n - 1, by omega⟩
        have hy : ∀ v, yieldOut B.env v = yieldValue v := fun v => by simp only [yieldOut, G.co, Bool.false_eq_true, if_false]
        simp only [hy]
        rw [Sem.bind_eq_wrap', Sem.bind_eq_wrap', Sem.wrap_wrap, Sem.wrap_wrap]
        refine seg_wrap ?_
        rw [hov]
        refine thnE G.xe (G.pe.run _ s4 σ3 H4 _ I4 q4) fun v s5 ⟨y, H5, I5, ry, q5⟩ => ?_
        obtain ⟨b1, b2, b3, b4, b5, b6, b7⟩ := back I5
        refine seg_at (seg_yield rfl rfl rfl ⟨i + 1, acc, y, H5, Nx, ry, b1, b2, b3, b4, b5, b7, q5, fun acc' hnx => ?_⟩)
        obtain ⟨m', hm', w'⟩ := hNx _ _ hnx
        refine ⟨m', by omega, w', fun s'' z hS'' hrel'' => ?_⟩
        have ap : ∀ p ∈ B.pn ++ [(a, oa)], p.1 ∉ SL := fun p hp => by
          have hp2 := hp
          rw [G.pn, List.nil_append] at hp2
          rw [List.mem_singleton.mp hp2]
          exact G.aS
        exact seg_again rfl (ih m' hm' k (i + 1) acc' H5 s'' s'' (by omega) ⟨inv_slp b1 b4 ap z, G.T.keep _ _ _ b2 fun b hb o e => z.keep b o (fun hm => G.Sfp b hm hb) e, b3, w', b4⟩ hS'' (fun _ _ _ e => e) hrel'')
end
end Gx
set_option Elab.async false
set_option linter.all false
set_option maxRecDepth 100000
set_option maxHeartbeats 1000000
namespace Gx
open PySem PySem.Spec PyProof.Rows L2 GenW
section
variable (B : Cx) (A1 : Around) (vs : List Nat) (σ : L2.St) (con : Con) (fin : Fin1) (Q : VK) (W : Nat → Nat → List V → Hp → Prop) (fp : List Addr) (tn : Nat → Heap → Prop) (SL : List Addr) (Rel : List V → Heap → Prop) (a : Addr) (oa : Obj) (gi : Nat)
/-- the generator stands at a turn, acc is out; it may be woken, fewer than n times -/
def GRdy (n : Nat) (acc : List V) (H : Hp) (s : Shared) : Prop := ∃ (i m : Nat) (gs : GenState), m < n ∧ s.gens[gi]? = some gs ∧ GSt B vs σ W fp tn SL a oa i m acc H s ∧
  ∀ s'', Slp SL s s'' → Has SL s''.heap → Rel acc s''.heap → gs.Goes (model B.prog B.w) A1 (GEnd1 B vs σ fin Q SL Rel a oa) (GProto B vs σ con Q W fp tn SL Rel a oa) n (.send .none) s''
/-- a generator's object, its number -/
structure IsG : Prop where
  cls : oa.cls = .type "generator"
  dat : ∃ nm qn, oa.data = .fields #[.int gi 0, nm, qn]
  slo : oa.slots = #[]
end
section
variable {B : Cx} {A A1 : Around} {elt tg iter : Expr} {ifs : List Expr} {scope : Scope} {pos : Pos} {J : It} {g : TG} {tt : TT} {te : TE} {vs : List Nat} {σ : L2.St} {con : Con} {fin : Fin1} {Q : VK} {W : Nat → Nat → List V → Hp → Prop}
  {fp : List Addr} {it : Addr} {tn : Nat → Heap → Prop} {SL : List Addr} {Rel : List V → Heap → Prop} {a : Addr} {oa : Obj} {gi : Nat}
theorem GSt.slp (G : GOk B A1 elt tg ifs J g tt te vs σ con fin Q W fp it tn SL Rel a) {i m : Nat} {acc : List V} {H : Hp} {s s' : Shared} (r : GSt B vs σ W fp tn SL a oa i m acc H s) (z : Slp SL s s') : GSt B vs σ W fp tn SL a oa i m acc H s' := by
  have ap : ∀ p ∈ B.pn ++ [(a, oa)], p.1 ∉ SL := fun p hp => by
    have hp2 := hp
    rw [G.pn, List.nil_append] at hp2
    rw [List.mem_singleton.mp hp2]
    exact G.aS
  exact ⟨inv_slp r.inv r.apt ap z, G.T.keep _ _ _ r.tn fun b hb o e => z.keep b o (fun hm => G.Sfp b hm hb) e, r.fp0, r.w, r.apt⟩
theorem GRdy.slp (G : GOk B A1 elt tg ifs J g tt te vs σ con fin Q W fp it tn SL Rel a) {n : Nat} {acc : List V} {H : Hp} {s s' : Shared} (r : GRdy B A1 vs σ con fin Q W fp tn SL Rel a oa gi n acc H s) (z : Slp SL s s') (hg : s'.gens[gi]? = s.gens[gi]?) :
    GRdy B A1 vs σ con fin Q W fp tn SL Rel a oa gi n acc H s' := by
  obtain ⟨i, m, gs, h1, h2, h3, h4⟩ := r
  exact ⟨i, m, gs, h1, hg.trans h2, h3.slp G z, fun s'' z' hS hr => h4 s'' (z.trans z') hS hr⟩
theorem GRdy.at (r : GRdy B A1 vs σ con fin Q W fp tn SL Rel a oa gi n acc H s) : s.heap.get? a = some oa := by
  obtain ⟨i, n, gs, h1, h2, h3, h4⟩ := r
  exact (h3.inv.pin (a, oa) (List.mem_append_right _ List.mem_cons_self)).1
theorem GRdy.inv (r : GRdy B A1 vs σ con fin Q W fp tn SL Rel a oa gi n acc H s) : Inv B [(a, oa)] (wipe σ vs) H s := by
  obtain ⟨i, n, gs, h1, h2, h3, h4⟩ := r
  exact h3.inv
theorem GRdy.isGen (hoa : IsG oa gi) (r : GRdy B A1 vs σ con fin Q W fp tn SL Rel a oa gi n acc H s) : s.heap.IsGen a gi := by
  obtain ⟨nm, qn, h⟩ := hoa.dat
  exact ⟨oa, nm, qn, r.at, hoa.cls, h, hoa.slo⟩
theorem allBare_set {s : Shared} {g : Nat} {x : GenState} (h : AllBare s.gens) (hx : x.bare = true) : AllBare (s.setGen g x).gens := by
  intro y hy
  unfold Shared.setGen at hy
  rcases Array.mem_or_eq_of_mem_setIfInBounds hy with h1 | h1
  · exact h y h1
  · rw [h1]; exact hx
theorem slp_setGen {SL : List Addr} {s : Shared} {g : Nat} {x : GenState} (h : AllBare s.gens) (hx : x.bare = true) : Slp SL s (s.setGen g x) := ⟨rfl, allBare_set h hx, fun _ _ _ e => e⟩
theorem setGen_in {s : Shared} {g : Nat} {x : GenState} (h : g < s.gens.size) : (s.setGen g x).gens[g]? = some x := by
  unfold Shared.setGen
  simp [h]
/-- the generator is woken: an item comes, or its end -/
theorem gx_next (G : GOk B A.in1 elt tg ifs J g tt te vs σ con fin Q W fp it tn SL Rel a) (hoa : IsG oa gi) (hh : A.handled = none) (hroom : A.depth < recursionLimit) {n : Nat} {acc : List V} {H : Hp} {s : Shared} {Q' : Option Value → Shared → Prop} {E : Value → Shared → Prop}
    (r : GRdy B A.in1 vs σ con fin Q W fp tn SL Rel a oa gi n acc H s) (hS : Has SL s.heap) (hrel : Rel acc s.heap)
    (hY : ∀ acc1 y v H4 Nx s', RelV y v → Inv B [(a, oa)] (wipe σ vs) H4 s' → Apt B SL H4 → Hold SL s.heap s'.heap → Rel acc1 s'.heap → con acc1 y H4 Nx Q →
      (∀ acc', Nx acc' H4 → ∃ k, n = k + 1 ∧ GRdy B A.in1 vs σ con fin Q W fp tn SL Rel a oa gi k acc' H4 s') → Q' (some v) s')
    (hN : ∀ acc1 H4 s', fin acc1 H4 Q → Inv B [(a, oa)] (wipe σ vs) H4 s' → Apt B SL H4 → Hold SL s.heap s'.heap → Rel acc1 s'.heap → Q' none s') :
    wpAny (model B.prog B.w) A (pyNext (.ref a)) Q' E s := by
  have hgen := r.isGen hoa
  have hlim : s.heap.NoLimit := r.inv.nolimit
  have hbare := r.inv.bare
  obtain ⟨i, m, gs, hmn, hgs, st, goes⟩ := r
  have hlt : gi < s.gens.size := (Array.getElem?_eq_some_iff.mp hgs).1
  have zr : Slp SL s (s.setGen gi .running) := slp_setGen hbare rfl
  refine wpAny_gsz (n := gi + 1) hlt (wpAny_pyNext_genexpQ (n := n) (P := GEndP B vs σ fin Q SL Rel a oa) (Y := GProto B vs σ con Q W fp tn SL Rel a oa) hh hlim hroom hgen hgs (goes _ zr (fun b hb => hS b hb) hrel) (fun v s1 gs' hb hv => ?_) (fun s1 hp h' hk => ?_))
  · intro hsz
    obtain ⟨i1, acc1, y, H4, Nx, ry, I4, tn4, fp4, ap4, hold4, rel4, c4, k4⟩ := hv
    have hsz' : gi < s1.gens.size := by
      have e : (s1.setGen gi gs').gens.size = s1.gens.size := setGen_size _ _ _
      have h2 : gi + 1 ≤ (s1.setGen gi gs').gens.size := hsz
      omega
    have z1 : Slp SL s1 (s1.setGen gi gs') := slp_setGen I4.bare hb
    have ap : ∀ p ∈ B.pn ++ [(a, oa)], p.1 ∉ SL := fun p hp => by
      have hp2 := hp
      rw [G.pn, List.nil_append] at hp2
      rw [List.mem_singleton.mp hp2]
      exact G.aS
    have I5 := inv_slp I4 ap4 ap z1
    refine hY acc1 y v H4 Nx (s1.setGen gi gs') ry I5 ap4 (fun b hb o e => hold4 b hb o e) rel4 c4 fun acc' hnx => ?_
    obtain ⟨m', hm', w', k⟩ := k4 acc' hnx
    cases n with
    | zero => omega
    | succ n =>
      refine ⟨n, rfl, i1, m', gs', by omega, setGen_in hsz', ⟨I5, G.T.keep _ _ _ tn4 fun _ _ _ e => e, fp4, w', ap4⟩, fun s'' z hS'' hr'' => ?_⟩
      have q : gs'.Goes (model B.prog B.w) A.in1 (GEnd1 B vs σ fin Q SL Rel a oa) (GProto B vs σ con Q W fp tn SL Rel a oa) n (.send .none) s'' := k s'' (z1.trans z) hS'' hr''
      exact q
  · intro hsz
    obtain ⟨acc1, H4, hf, I4, hold4, rel4, ap4⟩ := hp
    have ap : ∀ p ∈ B.pn ++ [(a, oa)], p.1 ∉ SL := fun p hp => by
      have hp2 := hp
      rw [G.pn, List.nil_append] at hp2
      rw [List.mem_singleton.mp hp2]
      exact G.aS
    have I5 := inv_slp I4 ap4 ap (slp_setGen (g := gi) (x := .finished) I4.bare rfl)
    have I6 : Inv B [(a, oa)] (wipe σ vs) H4 { s1.setGen gi .finished with heap := h' } := I5.kept (t' := s1.toks) hk
    refine hN acc1 H4 _ hf I6 ap4 (fun b hb o e => hk b o (hold4 b hb o e)) (G.rel acc1 _ _ (fun b hb => ?_) (fun b hb o e => hk b o e) rel4)
    obtain ⟨o, e, d⟩ := hS b hb
    exact ⟨o, hold4 b hb o e, d⟩
end
end Gx
set_option Elab.async false
set_option linter.all false
set_option maxRecDepth 100000
set_option maxHeartbeats 1000000
namespace Gx
open PySem PySem.Spec PyProof.Rows L2 GenW
section
variable {B : Cx} {A A1 : Around} {elt tg iter : Expr} {ifs : List Expr} {scope : Scope} {pos : Pos} {J : It} {g : TG} {tt : TT} {te : TE} {vs : List Nat} {σ : L2.St} {con : Con} {fin : Fin1} {Q : VK} {W : Nat → Nat → List V → Hp → Prop}
  {fp : List Addr} {it : Addr} {tn : Nat → Heap → Prop} {SL : List Addr} {Rel : List V → Heap → Prop} {a : Addr} {oa : Obj} {gi : Nat}
theorem gx_start (G : GOk B A1 elt tg ifs J g tt te vs σ con fin Q W fp it tn SL Rel a) {m : Nat} {H : Hp} {s : Shared} (hgs : s.gens[gi]? = some (.fresh (.compStart (.GeneratorExp elt [⟨tg, iter, ifs, 0⟩] scope pos) 0 (.ref it) .none B.env)))
    (st : GSt B vs σ W fp tn SL a oa 0 m [] H s) : GRdy B A1 vs σ con fin Q W fp tn SL Rel a oa gi (m + 1) [] H s := by
  refine ⟨0, m, _, Nat.lt_succ_self m, hgs, st, fun s'' z hS hr => ⟨rfl, ?_⟩⟩
  have st2 := st.slp G z
  have loop := gx_loop (iter := iter) (scope := scope) (pos := pos) (oa := oa) G m (m + 1) 0 [] H s'' s'' (Nat.lt_succ_self m) st2 hS (fun _ _ _ e => e) hr
  have hov : A1.over (.compStart (.GeneratorExp elt [⟨tg, iter, ifs, 0⟩] scope pos) 0 (.ref it) .none B.env) [] = B.A := by rw [over_start, G.A]
  show Seg _ A1 _ _ _ s'' _ ((compStart (.GeneratorExp elt [⟨tg, iter, ifs, 0⟩] scope pos) 0 (.ref it) .none B.env).onRaise (leaving B.env)) [] s''
  unfold compStart
  rw [Sem.onRaise_eq_wrap]
  show Seg _ A1 _ _ _ s'' _ ((ask >>= _).wrap _ _ _ _) [] s''
  refine seg_bind_wrap (wpAny_askSetting ?_)
  split
  · exact seg_again rfl loop
  · first
      | exact seg_bind_wrap (wpAny_rule (seg_bind_wrap (wpAny_standAt (seg_bind_wrap (G.T.self _ 0 s'' _ _ st2.tn (seg_again rfl loop))))))
      | (refine seg_bind_wrap (wpAny_rule ?_); show Seg _ A1 _ _ _ s'' _ ((standAt iter.pos >>= _).wrap _ _ _ _) [] s''; exact seg_bind_wrap (wpAny_standAt (seg_bind_wrap (G.T.self _ 0 s'' _ _ st2.tn (seg_again rfl loop)))))
end
/-- a generator just made, at a: whoever consumes it (A: around the call, SL: its own objects) may walk it -/
def GNew (X : Cx) (pins : List (Addr × Obj)) (k : Nat) (J : It) (elt tg : Expr) (ifs : List Expr) (g : TG) (tt : TT) (te : TE) (vs : List Nat) (σ : L2.St) (con : Con) (fin : Fin1) (Q : VK) (a : Addr) (s5 : Shared) : Prop :=
  ∃ (oa : Obj) (gi : Nat), IsG oa gi ∧ s5.heap.get? a = some oa ∧ AllBare s5.gens ∧
    ∀ (A : Around) (SL : List Addr) (Rel : List V → Heap → Prop), A.frames = some X.stack → Room (k + 1) A → (∀ b ∈ SL, s5.heap.objs.size ≤ b) → (∀ acc h h', Has SL h → Hold SL h h' → Rel acc h → Rel acc h') →
      ∃ (B : Cx) (W : Nat → Nat → List V → Hp → Prop) (fp : List Addr) (it : Addr) (tn : Nat → Heap → Prop) (n : Nat) (H2 : Hp), B.prog = X.prog ∧ B.w = X.w ∧ B.K = X.K ∧ GOk B A.in1 elt tg ifs J g tt te vs σ con fin Q W fp it tn SL Rel a ∧
        (∀ s6, Slp SL s5 s6 → s6.gens[gi]? = s5.gens[gi]? → GRdy B A.in1 vs σ con fin Q W fp tn SL Rel a oa gi n [] H2 s6) ∧
        ∀ H' s', Inv B [(a, oa)] (wipe σ vs) H' s' → Inv X pins σ H' s'
/-- (elt for tg in iter if ..), what is made of it: con at each item, fin at the end; P: the table of the def's code object -/
def tGx (P : Addr) (con : Con) (fin : Fin1) (wi : TI) (g : TG) (tt : TT) (te : TE) (vs : List Nat) : TE := fun σ H Q => wi σ H fun J H1 => GxR.TabG H1 P ∧ ∀ H2, GxR.Tabbed P H1 H2 → ∃ (W : Nat → Nat → List V → Hp → Prop) (m0 : Nat), W 0 m0 [] H2 ∧ Turns J g tt te vs σ con fin Q W
section
variable {X : Cx} {pins : List (Addr × Obj)} {σ : L2.St} {H : Hp} {s : Shared}
theorem gx_make {c P : Addr} {elt tg iter : Expr} {ifs : List Expr} {gpos : Pos} {scope : Scope} {own : List (Str × Nat)} {wi : TI} {g : TG} {tt : TT} {te : TE} {con : Con} {fin : Fin1} {Q : VK} {k : Nat} {Q' : Value → Shared → Prop}
    (hr : Room k X.A) (hc : X.calm = true) (TB : GxR.TabB X.base X.mg c P) (hcode : X.env.code = .ref c) (Gs : GSc scope) (ok : BlkOk X.N X.env.scope scope own) (hN : X.N.Nodup) (hi : PI X tg iter wi)
    (hg : ∀ (A : Around) (s : Shared) (H : Hp) (C : Addr) (cl : List (Str × Addr)) (code : Value) (fp : List Addr), Room k (A.deeper (genEnv scope cl C code builtinsNs X.env)) → PG (gctx X A s H (genEnv scope cl C code builtinsNs X.env) fp) tg g)
    (ht : ∀ (A : Around) (s : Shared) (H : Hp) (C : Addr) (cl : List (Str × Addr)) (code : Value) (fp : List Addr), Room k (A.deeper (genEnv scope cl C code builtinsNs X.env)) → PTs (gctx X A s H (genEnv scope cl C code builtinsNs X.env) fp) ifs tt)
    (he : ∀ (A : Around) (s : Shared) (H : Hp) (C : Addr) (cl : List (Str × Addr)) (code : Value) (fp : List Addr), Room k (A.deeper (genEnv scope cl C code builtinsNs X.env)) → PE (gctx X A s H (genEnv scope cl C code builtinsNs X.env) fp) elt te)
    (hs : ∀ v, genFold iter X.env v = pure v) (I : Inv X pins σ H s) (h : tGx P con fin wi g tt te (own.map (·.2)) σ H Q)
    (hQ : ∀ J a s5, GNew X pins k J elt tg ifs g tt te (own.map (·.2)) σ con fin Q a s5 → Q' (.ref a) s5) :
    wpAny (model X.prog X.w) X.A (eval (.GeneratorExp elt [⟨tg, iter, ifs, 0⟩] scope gpos) X.env) Q' X.xe s := by
  have hfree : ∀ y ∈ scope.names, y.2 = .free → ∃ c, X.env.cells.lookup y.1 = some c := fun y hy e => by
    rcases ok.free y hy e with k | k
    · exact I.ok.has _ (.inl k)
    · exact I.ok.has _ (.inr k)
  refine wpAny_GeneratorExp_make Gs.co (closure_ok hfree) Gs.cell Gs.dot ok.kind (by have := hr.dp; omega) ?_ hs
  refine thn (hi.run pins s σ H _ I h) fun xv s1 hx => thn hx fun itv s2 h2 => ?_
  obtain ⟨it, fp, tn, J, H1, rfl, I2, T, tn2, f2, ⟨ps, hP, htr⟩, q⟩ := h2
  have hPs : s2.heap.get? P = some { cls := .none, data := .fields ps } := I2.hok P _ hP
  have cd : PySem.W.CodeHd s2.heap c P := TB.code.keeps fun b u e => I2.bk b u e
  have hcP : cStatics ≠ P := fun e => by
    obtain ⟨_, hns, _⟩ := I2.nolimit
    obtain ⟨o', es, ep, ho, hd, _⟩ := hns
    rw [e, hPs] at ho
    cases ho
    cases hd
  refine ⟨I2.nolimit, ?_⟩
  have cont : ∀ (code : Value) (h3 : Heap) (tk : Nat) (ps' : Array Value), Heap.ExtBut P s2.heap h3 → s2.heap.objs.size ≤ h3.objs.size → h3.get? P = some { cls := .none, data := .fields ps' } → (∃ more, ps' = ps ++ more) → TriplesOk ps'.toList →
      wpAny (model X.prog X.w) X.A (builtinsFor X.env.globals X.env.builtins) (fun bi s4 =>
        ∀ h', h'.Ns s4.heap.objs.size (fun y => if y = (".0" : Str) then some (.ref it) else none) → Heap.SameBut s4.heap.objs.size (s4.heap.push { cls := .type "frame", data := .dict #[] }) h' →
          Q' (.ref h'.objs.size) { s4 with
            gens := s4.gens.push (.fresh (.compStart (.GeneratorExp elt [⟨tg, iter, ifs, 0⟩] scope gpos) 0 (.ref it) .none (genEnv scope (cloFrom X.env.cells scope.names []) s4.heap.objs.size code bi X.env))),
            toks := s4.toks + 1 + 1 + 1,
            heap := h'.push { cls := .type "generator", data := .fields #[.int s4.gens.size 0, .str "<genexpr>" (s4.toks + 1), .str (X.env.qual ++ "<genexpr>") (s4.toks + 1 + 1)] } }) X.xe { s2 with heap := h3, toks := tk } := by
    intro code h3 tk ps' hx hsz hP3 ⟨more, em⟩ ht3
    obtain ⟨bm, ob, e1, e2, e3, e4, e5, e6, e7, e8⟩ := TB.bm
    have keep3 : ∀ b u, b ≠ P → s2.heap.get? b = some u → h3.get? b = some u := fun b u hb e => hx b u hb e
    refine wpAny_builtinsFor (m := X.mg) (by rw [I2.ok.glob]; exact (I2.mod.glob.keeps I2.bk).extBut hx TB.gP) e1 e2 (keep3 _ _ e4 (I2.bk _ _ e5)) e6 e7 e8 ?_
    -- the def's own state, its table grown
    have I4 : Inv X pins σ (upd H1 P (.tbl (ps ++ more))) { s2 with heap := h3, toks := tk } := GxR.inv_tab (more := more) (h' := h3) (g' := s2.gens) (d' := s2.drawn) (t' := tk) I2 hP (fun b o hb e => keep3 b o hb e) (by rw [← em]; exact hP3) I2.bare
    generalize hH2 : upd H1 P (.tbl (ps ++ more)) = H2 at I4
    have hT : GxR.Tabbed P H1 H2 := by
      rw [← hH2]
      exact ⟨⟨ps ++ more, upd_same, by rw [← em]; exact ht3⟩, fun b hb => upd_ne hb⟩
    obtain ⟨W, m0, w0, tu⟩ := q H2 hT
    have noP : ∀ b, H1 b = none → b ≠ P := fun b n z => by rw [z, hP] at n; cases n
    intro h' hn' hs'
    generalize hs4 : ({ s2 with heap := h3, toks := tk } : Shared) = s4 at I4 ⊢
    have e4h : s4.heap = h3 := by rw [← hs4]
    have e4g : s4.gens = s2.gens := by rw [← hs4]
    have hn4 : h'.Ns s4.heap.objs.size (fun y => if y = (".0" : Str) then some (.ref it) else none) := by rw [← hs4]; exact hn'
    have hs4' : Heap.SameBut s4.heap.objs.size (s4.heap.push { cls := .type "frame", data := .dict #[] }) h' := by rw [← hs4]; exact hs'
    have hsz' : h'.objs.size = s4.heap.objs.size + 1 := by rw [hs4'.1, Heap.size_push]
    have keep' : ∀ b o, s4.heap.get? b = some o → h'.get? b = some o := fun b o e => hs4'.extBut b o (Nat.ne_of_lt (Heap.lt_size e)) (Heap.get?_push_of_some _ e)
    generalize hoa : ({ cls := .type "generator", data := .fields #[.int s4.gens.size 0, .str "<genexpr>" (s4.toks + 1), .str (X.env.qual ++ "<genexpr>") (s4.toks + 1 + 1)] } : Obj) = oa
    have keep5 : ∀ b o, s4.heap.get? b = some o → (h'.push oa).get? b = some o := fun b o e => Heap.get?_push_of_some _ (keep' b o e)
    generalize hcv : genEnv scope (cloFrom X.env.cells scope.names []) s4.heap.objs.size code builtinsNs X.env = cenv
    generalize hs5 : ({ s4 with gens := s4.gens.push (.fresh (.compStart (.GeneratorExp elt [⟨tg, iter, ifs, 0⟩] scope gpos) 0 (.ref it) .none cenv)), toks := s4.toks + 1 + 1 + 1, heap := h'.push oa } : Shared) = s5
    have e5h : s5.heap = h'.push oa := by rw [← hs5]
    have e5g : s5.gens = s4.gens.push (.fresh (.compStart (.GeneratorExp elt [⟨tg, iter, ifs, 0⟩] scope gpos) 0 (.ref it) .none cenv)) := by rw [← hs5]
    have ha : s5.heap.get? h'.objs.size = some oa := by
      rw [e5h]
      refine Heap.get?_push_size _ ?_
      rw [← hoa] <;> rfl
    have hb5 : AllBare s5.gens := by
      rw [e5g]
      exact I4.bare.push rfl
    have fpok : ∀ b ∈ fp, FpOk X pins H2 b ∧ b < s4.heap.objs.size := fun b hb => by
      obtain ⟨o, e, _⟩ := T.obj _ _ tn2 b hb
      obtain ⟨f0, f1⟩ := f2 b hb
      refine ⟨⟨?_, f1⟩, ?_⟩
      · rw [hT.2 b (noP b f0)]; exact f0
      · rw [e4h]; exact Nat.lt_of_lt_of_le (Heap.lt_size e) hsz
    have tn5 : tn 0 s5.heap := T.keep _ _ _ tn2 fun b hb o e => by
      rw [e5h]
      refine keep5 b o ?_
      rw [e4h]
      exact keep3 b o (noP b (f2 b hb).1) e
    refine hQ J h'.objs.size s5 ⟨oa, s4.gens.size, ⟨by rw [← hoa], ⟨_, _, by rw [← hoa]⟩, by rw [← hoa]⟩, ha, hb5, fun A SL Rel hA hrA hSL hRel => ?_⟩
    have hrD : Room k (A.in1.deeper cenv) := ⟨hrA.hd, by have := hrA.dp; show A.depth + 1 + 3 * k + 5 < _; omega, by have := hrA.un; show A.units + 1 + 3 + 16 * k + 200 < _; omega⟩
    have IB : Inv (gctx X A.in1 s4 H2 cenv fp) [] (wipe σ (own.map (·.2))) H2 s5 := by
      rw [← hs5, ← hcv]
      exact gblock_start (A := A.in1) (it := .ref it) (code := code) (h5 := h'.push oa) (gs5 := s4.gens.push _) (tk5 := s4.toks + 1 + 1 + 1) I4 ok Gs hN hA hrA.hd fpok (hn4.push _) keep5 (I4.bare.push rfl)
    have cL : cenv.locals = s4.heap.objs.size := by rw [← hcv]; rfl
    have hal : h'.objs.size ≠ cenv.locals := by rw [cL, hsz']; exact Nat.succ_ne_self _
    have szlt : s4.heap.objs.size < s5.heap.objs.size := by rw [e5h, Heap.size_push]; omega
    have aH : H2 h'.objs.size = none := I4.hok.fresh (by rw [hsz']; exact Nat.le_succ _)
    have IBa : Inv (gctx X A.in1 s4 H2 cenv fp) [(h'.objs.size, oa)] (wipe σ (own.map (·.2))) H2 s5 := IB.pins_of fun p hp => by
      have hp2 : p = (h'.objs.size, oa) := List.mem_singleton.mp hp
      rw [hp2]
      refine ⟨ha, aH, hal, fun hf => ?_, fun v z => ?_⟩
      · obtain ⟨_, o, ho, _⟩ := IB.ok.funs.mem hf
        have h9 : h'.objs.size < s4.heap.objs.size := Heap.lt_size ho
        omega
      · rw [← hoa] at z
        cases z
    have mgA : ∀ b ∈ SL, ∀ u : Addr, u < s5.heap.objs.size → u ≠ b := fun b hb u hu z => absurd (Nat.lt_of_lt_of_le hu (hSL b hb)) (by rw [z]; exact Nat.lt_irrefl _)
    have apt : Apt (gctx X A.in1 s4 H2 cenv fp) SL H2 := ⟨fun b hb => Nat.le_trans (Nat.le_of_lt szlt) (hSL b hb), fun b hb z => mgA b hb cenv.locals (by rw [cL]; exact szlt) z.symm, fun b hb y c e z => by
        obtain ⟨w', q'⟩ := IB.cell y c e
        exact mgA b hb c q'.lt z, fun b hb => I4.hok.fresh (Nat.le_trans (Nat.le_of_lt szlt) (hSL b hb))⟩
    have G : GOk (gctx X A.in1 s4 H2 cenv fp) A.in1 elt tg ifs J g tt te (own.map (·.2)) σ con fin Q W fp it tn SL Rel h'.objs.size := {
      A := rfl, xe := rfl, pn := rfl, calm := hc
      co := by show cenv.scope.isCoroutine = false; rw [← hcv]; exact Gs.co
      T := T, ex := rfl
      pg := by
        have q := hg A.in1 s4 H2 s4.heap.objs.size (cloFrom X.env.cells scope.names []) code fp
        rw [hcv] at q
        exact q hrD
      pt := by
        have q := ht A.in1 s4 H2 s4.heap.objs.size (cloFrom X.env.cells scope.names []) code fp
        rw [hcv] at q
        exact q hrD
      pe := by
        have q := he A.in1 s4 H2 s4.heap.objs.size (cloFrom X.env.cells scope.names []) code fp
        rw [hcv] at q
        exact q hrD
      tu := tu
      aS := fun hm => mgA _ hm h'.objs.size (by rw [e5h, Heap.size_push]; exact Nat.lt_succ_self _) rfl
      afp := fun hm => by
        have h9 : (h'.objs.size : Nat) < s4.heap.objs.size := (fpok _ hm).2
        omega
      ayoung := by show s4.heap.objs.size ≤ h'.objs.size; omega
      Sfp := fun b hb hm => mgA b hb b (Nat.lt_trans (fpok b hm).2 szlt) rfl
      rel := hRel }
    refine ⟨gctx X A.in1 s4 H2 cenv fp, W, fp, it, tn, m0 + 1, H2, rfl, rfl, rfl, G, fun s6 z hgi => ?_, fun H' s' I' => ?_⟩
    · have st5 : GSt (gctx X A.in1 s4 H2 cenv fp) (own.map (·.2)) σ W fp tn SL h'.objs.size oa 0 m0 [] H2 s5 := ⟨IBa, tn5, fun b hb => (fpok b hb).1.1, w0, apt⟩
      refine gx_start (iter := iter) (scope := scope) (pos := gpos) G ?_ (st5.slp G z)
      rw [hgi, e5g]
      simp
    · exact I4.call' (ch := fp) I'.os I'.base I'.hok I'.bare fun b hb => ⟨(fpok b hb).1.2.2.2.1, (fpok b hb).1.2.1, (fpok b hb).1.2.2.2.2.1, (fpok b hb).1.2.2.2.2.2⟩
  cases hf : codeAmong gpos ps.toList with
  | none =>
    refine wpAny_genexprCodeX hcode (cd.code hPs htr) (cd.tab hPs) hf fun c' h' tk hx hge hlt hco' _ htab' _ => ?_
    obtain ⟨o1, vs', f1, tf, fl, tg', inF, tx, tt', op, _, _, _, _, _, _, _, _, _, htr', _⟩ := hco'
    exact cont _ h' tk _ hx (Nat.le_trans hge (Nat.le_of_lt hlt)) htab'.2 ⟨_, rfl⟩ htr'
  | some cv =>
    refine wpAny_genexprCode_hit hcode (cd.code hPs htr) hf ?_
    exact cont cv s2.heap s2.toks ps (Heap.ExtBut.refl _ _) (Nat.le_refl _) hPs ⟨#[], by simp⟩ htr
end
end Gx
set_option Elab.async false
set_option linter.all false
set_option maxRecDepth 100000
set_option maxHeartbeats 1000000
namespace Gx
open PySem PySem.Spec PyProof.Rows L2 GenW
/-! ### the consumers -/
def conAll : Con := fun acc y H Nx Q => ∃ c, y = .bl c ∧ if c = true then Nx (acc ++ [y]) H else Q (.bl false) H
def finAll : Fin1 := fun _ H Q => Q (.bl true) H
def intV : V → Int
  | .int k => k
  | _ => 0
def sumV (acc : List V) : Int := (acc.map intV).sum
theorem sumV_app (acc : List V) (k : Int) : sumV (acc ++ [.int k]) = sumV acc + k := by
  unfold sumV
  rw [List.map_append, List.sum_append_int]
  simp [intV]
def conSum : Con := fun acc y H Nx _ => ∃ k : Int, y = .int k ∧ (-(2 ^ 63) ≤ k ∧ k < 2 ^ 63) ∧ (-(2 ^ 63) ≤ sumV acc + k ∧ sumV acc + k < 2 ^ 63) ∧ Nx (acc ++ [y]) H
def finSum : Fin1 := fun acc H Q => Q (.int (sumV acc)) H
def maxV : List V → Int
  | [] => 0
  | x :: r => r.foldl (fun b v => if intV v > b then intV v else b) (intV x)
theorem maxV_app (x : V) (acc : List V) (k : Int) : maxV ((x :: acc) ++ [.int k]) = if k > maxV (x :: acc) then k else maxV (x :: acc) := by
  show ((acc ++ [V.int k]).foldl _ _) = _
  rw [List.foldl_append]
  rfl
def conMax : Con := fun acc y H Nx _ => ∃ k : Int, y = .int k ∧ Nx (acc ++ [y]) H
def finMax : Fin1 := fun acc H Q => acc ≠ [] ∧ Q (.int (maxV acc)) H
def conTup : Con := fun acc y H Nx _ => acc.length < sizeLine ∧ Nx (acc ++ [y]) H
def finTup : Fin1 := fun acc H Q => acc.length ≤ sizeLine ∧ ∀ p, H p = none → Q (.ref p) (upd H p (.tup acc))
section
variable {X : Cx} {pins : List (Addr × Obj)} {σ : L2.St} {k : Nat} {J : It} {elt tg : Expr} {ifs : List Expr} {g : TG} {tt : TT} {te : TE} {vs : List Nat} {Q : VK} {a : Addr} {s5 : Shared} {E : Value → Shared → Prop}
theorem relTrue {SL : List Addr} : ∀ (acc : List V) (h h' : Heap), Has SL h → Hold SL h h' → (fun (_ : List V) (_ : Heap) => True) acc h → (fun (_ : List V) (_ : Heap) => True) acc h' := fun _ _ _ _ _ _ => trivial
/-- all(..) -/
theorem call_all (hr : Room (k + 2) X.A) (hf : X.A.frames = some X.stack) (h : GNew X pins k J elt tg ifs g tt te vs σ conAll finAll Q a s5) : wpAny (model X.prog X.w) X.A (call (.builtin "all") [.ref a]) (EP X pins σ Q) E s5 := by
  obtain ⟨oa, gi, hoa, ha, hb5, mk⟩ := h
  obtain ⟨B, W, fp, it, tn, n, H2, e1, e2, e3, G, rdy, back⟩ := mk X.A.in1 [] (fun _ _ => True) hf (Room.in1 hr) (fun b hb => nomatch hb) (fun _ _ _ _ _ _ => trivial)
  rw [← e1, ← e2]
  have r0 := rdy s5 (Slp.refl hb5) rfl
  refine call_function_tree F.kind_all F.plain_all F.entry_all (F.args_all1 _) ?_
  unfold Builtin.«all»
  refine wpAny_bind (m := oneArg "all" _) (wpAny_pure ?_)
  refine wpAny_bind (wpAny_pyIter_gen (r0.isGen hoa) ?_)
  have loop : ∀ (n : Nat) (acc : List V) (H : Hp) (s : Shared), GRdy B X.A.in1.in1 vs σ conAll finAll Q W fp tn [] (fun _ _ => True) a oa gi n acc H s → codeAny (model B.prog B.w) X.A (.builtin "all.loop" ⟨[.ref a], []⟩) (fun r s' => match r with
      | .ok (.ret u) => EP X pins σ Q u s'
      | .ok _ => False
      | .error e => E e s') s := by
    intro n
    induction n with
    | zero =>
      intro acc H s r
      obtain ⟨_, _, _, hlt, _⟩ := r
      omega
    | succ n ih =>
      intro acc H s r
      refine codeAny_builtin F.entry_all_loop ?_
      rw [Around.under_plainId F.plain_all_loop _]
      show wpAny _ X.A.in1 (pyNext (.ref a) >>= _) _ _ s
      refine wpAny_bind (gx_next G hoa hr.hd hr.depth r (fun b hb => nomatch hb) trivial (fun acc1 y v H4 Nx s' ry I4 ap4 hold4 rel4 c4 k4 => ?_) fun acc1 H4 s' hf' I4 ap4 hold4 rel4 => ?_)
      · obtain ⟨c, rfl, c4⟩ := c4
        obtain rfl : v = Value.bool c := ry
        refine wpAny_bind (wpAny_holding (wpAny_truthy_bool ?_))
        refine wpAny_bind (wpAny_letGo ?_)
        cases c with
        | true =>
          simp only [if_true] at c4 ⊢
          obtain ⟨k', ek, r'⟩ := k4 _ c4
          cases ek
          exact wpAny_pure ⟨plainId_quiet F.plain_all_loop _, ih _ _ _ r'⟩
        | false =>
          simp only [Bool.false_eq_true, if_false] at c4 ⊢
          exact wpAny_bind (wpAny_rule (wpAny_pure ⟨.bl false, _, back _ _ I4, rfl, c4⟩))
      · exact wpAny_bind (wpAny_rule (wpAny_pure ⟨.bl true, _, back _ _ I4, rfl, hf'⟩))
  exact wpAny_pure ⟨plainId_quiet F.plain_all_loop _, codeAny_mono (loop n [] H2 s5 r0) fun r s' q => q⟩
/-- one list of the consumer's own, at S -/
theorem stay_one {S : Addr} {f : List V → Obj → Prop} : ∀ (acc : List V) (h h' : Heap), Has [S] h → Hold [S] h h' → (∃ o, h.get? S = some o ∧ f acc o) → ∃ o, h'.get? S = some o ∧ f acc o := fun acc h h' _ hold ⟨o, e, q⟩ => ⟨o, hold S (by simp) o e, q⟩
theorem has_one {S : Addr} {h : Heap} {acc : Array Value} {c : Nat} (e : h.get? S = some { cls := .type "list", dict := none, data := .seq acc c, slots := #[] }) : Has [S] h := fun b hb => by
  rw [List.mem_singleton.mp hb]
  exact ⟨_, e, fun v z => by cases z⟩
theorem slp_push {s : Shared} {o : Obj} {tk : Nat} (hb : AllBare s.gens) : Slp [s.heap.objs.size] s { s with heap := s.heap.push o, toks := tk } := ⟨rfl, hb, fun _ _ _ e => Heap.get?_push_of_some _ e⟩
theorem slp_upd {s : Shared} {S : Addr} {f : Obj → Obj} {tk : Nat} (hb : AllBare s.gens) : Slp [S] s { s with heap := s.heap.update S f, toks := tk } := ⟨rfl, hb, fun b o hm e => (Heap.get?_update_other _ _ (fun h : S = b => hm (by rw [h]; simp))).trans e⟩
/-- sum(..) -/
def RelSum (acc : List V) (o : Obj) : Prop := ∃ (t : Tok) (c : Nat), o = { cls := .type "list", dict := none, data := .seq #[.int (sumV acc) t] c, slots := #[] }
theorem call_sum (hr : Room (k + 2) X.A) (hf : X.A.frames = some X.stack) (h : GNew X pins k J elt tg ifs g tt te vs σ conSum finSum Q a s5) : wpAny (model X.prog X.w) X.A (call (.builtin "sum") [.ref a]) (EP X pins σ Q) E s5 := by
  obtain ⟨oa, gi, hoa, ha, hb5, mk⟩ := h
  obtain ⟨B, W, fp, it, tn, n, H2, e1, e2, e3, G, rdy, back⟩ := mk X.A.in1 [s5.heap.objs.size] (fun acc h => ∃ o, h.get? s5.heap.objs.size = some o ∧ RelSum acc o) hf (Room.in1 hr) (fun b hb => by rw [List.mem_singleton.mp hb]; exact Nat.le_refl _) stay_one
  obtain ⟨S, hS0⟩ : ∃ S, S = s5.heap.objs.size := ⟨_, rfl⟩
  rw [← hS0] at G rdy
  rw [← e1, ← e2]
  refine call_function_tree F.kind_sum F.plain_sum F.entry_sum (F.args_sum1 _) ?_
  unfold Builtin.«sum»
  simp only [List.length_cons, List.length_nil]
  rw [if_neg (by decide)]
  refine wpAny_bind (wpAny_of_eq (show Builtin.Builtins.bindParams "sum" ["start"] 0 { } = pure [none] from rfl) ?_)
  have hgen : s5.heap.IsGen a gi := by
    obtain ⟨nm, qn, h⟩ := hoa.dat
    exact ⟨oa, nm, qn, ha, hoa.cls, h, hoa.slo⟩
  refine wpAny_bind (wpAny_pyIter_gen hgen ?_)
  refine wpAny_bind (wpAny_mkInt ?_)
  refine wpAny_bind (wpAny_pure ?_)
  simp only [List.forIn_cons, List.forIn_nil]
  refine wpAny_bind (wpAny_bind (wpAny_bind (wpAny_isInstance (T := "int") (b := false) (typeIs_int _ _ _) PySem.sub_int_str ?_)))
  simp only [Bool.false_eq_true, if_false]
  refine wpAny_pure (wpAny_bind (wpAny_bind (wpAny_isInstance (T := "int") (b := false) (typeIs_int _ _ _) PySem.sub_int_bytes ?_)))
  simp only [Bool.false_eq_true, if_false]
  refine wpAny_pure (wpAny_bind (wpAny_bind (wpAny_isInstance (T := "int") (b := false) (typeIs_int _ _ _) PySem.sub_int_bytearray ?_)))
  simp only [Bool.false_eq_true, if_false]
  refine wpAny_pure (wpAny_pure ?_)
  refine wpAny_bind (wpAny_newObj_type ?_)
  have loop : ∀ (n : Nat) (acc : List V) (H : Hp) (s : Shared) (tA : Tok) (c : Nat), GRdy B X.A.in1.in1 vs σ conSum finSum Q W fp tn [S] (fun acc h => ∃ o, h.get? S = some o ∧ RelSum acc o) a oa gi n acc H s →
      s.heap.get? S = some { cls := .type "list", dict := none, data := .seq #[.int (sumV acc) tA] c, slots := #[] } → codeAny (model B.prog B.w) X.A (.builtin "sum.loop" ⟨[.ref a, .ref S, rawInt 0, rawInt 0], []⟩) (fun r s' => match r with
      | .ok (.ret u) => EP X pins σ Q u s'
      | .ok _ => False
      | .error e => E e s') s := by
    intro n
    induction n with
    | zero =>
      intro acc H s tA c r
      obtain ⟨_, _, _, hlt, _⟩ := r
      omega
    | succ n ih =>
      intro acc H s tA c r hS
      refine codeAny_builtin F.entry_sum_loop ?_
      rw [Around.under_plainId F.plain_sum_loop _]
      show wpAny _ X.A.in1 (seqItems? (.ref S) >>= _) _ _ s
      refine wpAny_bind (wpAny_seqItems hS rfl ?_)
      show wpAny _ X.A.in1 (tryCatch (pyNext (.ref a)) _ >>= _) _ _ s
      refine wpAny_bind (wpAny_tryCatch (gx_next G hoa hr.hd hr.depth r (has_one hS) ⟨_, hS, tA, c, rfl⟩ (fun acc1 y v H4 Nx s' ry I4 ap4 hold4 rel4 c4 k4 => ?_) fun acc1 H4 s' hf' I4 ap4 hold4 rel4 => ?_))
      · obtain ⟨o1, eo1, t1, c1, rfl⟩ := rel4
        have eS := hold4 S (by simp) _ hS
        rw [eS] at eo1
        have eacc : sumV acc = sumV acc1 := by
          have := congrArg Obj.data (Option.some.inj eo1)
          simp at this
          exact this.1.1
        obtain ⟨b, rfl, f1, f2, c4⟩ := c4
        obtain ⟨t, rfl⟩ := ry
        obtain ⟨k', ek, r'⟩ := k4 _ c4
        cases ek
        have hc : ((decide (-(2 ^ 63) ≤ b) && decide (b < 2 ^ 63)) && (decide (-(2 ^ 63) ≤ sumV acc + b) && decide (sumV acc + b < 2 ^ 63))) = true := by
          rw [eacc]
          simp only [Bool.and_eq_true, decide_eq_true_eq]
          exact ⟨f1, f2⟩
        show wpAny _ X.A.in1 (if (_ : Bool) = true then (mkInt (sumV acc + b) >>= _) else _) _ _ _
        split
        · refine wpAny_bind (wpAny_mkInt ?_)
          show wpAny _ X.A.in1 (updateSeq S (fun _ => #[.int (sumV acc + b) s'.toks]) >>= _) _ _ _
          refine wpAny_bind ?_
          have e9 : sumV acc + b = sumV (acc1 ++ [V.int b]) := by rw [sumV_app, eacc]
          refine wpAny_updateSeq eS rfl (wpAny_pure ⟨plainId_quiet F.plain_sum_loop _, ?_⟩)
          have key := Heap.get?_update_self (Obj.mapSeq fun _ => #[Value.int (sumV acc + b) s'.toks]) eS rfl
          rw [e9] at key ⊢
          exact ih (acc1 ++ [V.int b]) _ _ s'.toks _ (r'.slp G (slp_upd I4.bare) rfl) key
        · rename_i hneg
          exact absurd hc hneg
      · obtain ⟨o1, eo1, t1, c1, rfl⟩ := rel4
        have eS := hold4 S (by simp) _ hS
        rw [eS] at eo1
        have eacc : sumV acc = sumV acc1 := by
          have := congrArg Obj.data (Option.some.inj eo1)
          simp at this
          exact this.1.1
        refine wpAny_pure ⟨.int (sumV acc1), _, back _ _ I4, ⟨tA, ?_⟩, hf'⟩
        rw [eacc]
        rfl
  subst hS0
  have r0 := rdy { s5 with heap := s5.heap.push { cls := .type "list", data := .seq #[.int 0 s5.toks] }, toks := s5.toks + 1 } (slp_push hb5) rfl
  exact wpAny_pure ⟨plainId_quiet F.plain_sum_loop _, codeAny_mono (loop n [] H2 _ s5.toks 0 r0 (Heap.get?_push_size _ rfl)) fun r s' q => q⟩
end
end Gx
set_option Elab.async false
set_option linter.all false
set_option maxRecDepth 100000
set_option maxHeartbeats 1000000
namespace Gx
open PySem PySem.Spec PyProof.Rows L2 GenW
section
variable {X : Cx} {pins : List (Addr × Obj)} {σ : L2.St} {k : Nat} {J : It} {elt tg : Expr} {ifs : List Expr} {g : TG} {tt : TT} {te : TE} {vs : List Nat} {Q : VK} {a : Addr} {s5 : Shared} {E : Value → Shared → Prop}
/-- max(..) -/
def RelMax (acc : List V) (o : Obj) : Prop := (acc = [] ∧ ∃ c : Nat, o = { cls := .type "list", dict := none, data := .seq #[] c, slots := #[] }) ∨
  (acc ≠ [] ∧ ∃ (t : Tok) (c : Nat), o = { cls := .type "list", dict := none, data := .seq #[.int (maxV acc) t, .int (maxV acc) t] c, slots := #[] })
theorem cmp_gt {prog : Program} {w : World} {A : Around} {i j : Int} {t u : Tok} {s : Shared} {Q : Value → Shared → Prop} {E : Value → Shared → Prop} (h : Q (.bool (decide (i > j))) s) : wpAny (model prog w) A (richCompare .Gt (.int i t) (.int j u)) Q E s := by
  have c := CmpOf.ints_gt (prog := prog) (w := w) (A := A) (P := fun n v => (n = 0 ∧ v = .int i t) ∨ (n = 1 ∧ v = .int j u)) (fun n => if n = 0 then i else j) (fun n v hv => by
    rcases hv with ⟨rfl, rfl⟩ | ⟨rfl, rfl⟩
    · exact ⟨t, rfl⟩
    · exact ⟨u, rfl⟩)
  exact c 0 1 _ _ s Q E (.inl ⟨rfl, rfl⟩) (.inr ⟨rfl, rfl⟩) h
theorem call_max (hr : Room (k + 2) X.A) (hf : X.A.frames = some X.stack) (h : GNew X pins k J elt tg ifs g tt te vs σ conMax finMax Q a s5) : wpAny (model X.prog X.w) X.A (call (.builtin "max") [.ref a]) (EP X pins σ Q) E s5 := by
  obtain ⟨oa, gi, hoa, ha, hb5, mk⟩ := h
  obtain ⟨B, W, fp, it, tn, n, H2, e1, e2, e3, G, rdy, back⟩ := mk X.A.in1 [s5.heap.objs.size] (fun acc h => ∃ o, h.get? s5.heap.objs.size = some o ∧ RelMax acc o) hf (Room.in1 hr) (fun b hb => by rw [List.mem_singleton.mp hb]; exact Nat.le_refl _) stay_one
  obtain ⟨S, hS0⟩ : ∃ S, S = s5.heap.objs.size := ⟨_, rfl⟩
  rw [← hS0] at G rdy
  rw [← e1, ← e2]
  have hname : (toString "max" ++ toString ".loop" : String) = "max.loop" := by decide
  refine call_function_tree F.kind_max F.plain_max F.entry_max (F.args_max1 _) ?_
  show wpAny _ X.A.in1 (Builtin.Builtins.bindParams "max" ["key", "default"] 0 ⟨[], []⟩ >>= _) _ _ s5
  refine wpAny_bind (wpAny_of_eq (show Builtin.Builtins.bindParams "max" ["key", "default"] 0 ⟨[], []⟩ = pure [none, none] from rfl) ?_)
  refine wpAny_bind (wpAny_pure ?_)
  have hgen : s5.heap.IsGen a gi := by
    obtain ⟨nm, qn, h⟩ := hoa.dat
    exact ⟨oa, nm, qn, ha, hoa.cls, h, hoa.slo⟩
  refine wpAny_bind (wpAny_pyIter_gen hgen ?_)
  refine wpAny_bind (wpAny_newObj_type ?_)
  have loop : ∀ (n : Nat) (acc : List V) (H : Hp) (s : Shared) (o : Obj), GRdy B X.A.in1.in1 vs σ conMax finMax Q W fp tn [S] (fun acc h => ∃ o, h.get? S = some o ∧ RelMax acc o) a oa gi n acc H s →
      s.heap.get? S = some o → RelMax acc o → codeAny (model B.prog B.w) X.A (.builtin "max.loop" ⟨[.ref a, .none, .ref S], []⟩) (fun r s' => match r with
      | .ok (.ret u) => EP X pins σ Q u s'
      | .ok _ => False
      | .error e => E e s') s := by
    intro n
    induction n with
    | zero =>
      intro acc H s o r
      obtain ⟨_, _, _, hlt, _⟩ := r
      omega
    | succ n ih =>
      intro acc H s o r hS hrel
      refine codeAny_builtin F.entry_max_loop ?_
      rw [Around.under_plainId F.plain_max_loop _]
      show wpAny _ X.A.in1 (seqItems? (.ref S) >>= _) _ _ s
      rcases _root_.id hrel with ⟨ea, c, eo⟩ | ⟨ea, t0, c, eo⟩
      · rw [eo] at hS
        refine wpAny_bind (wpAny_seqItems hS rfl ?_)
        show wpAny _ X.A.in1 (tryCatch (pyNext (.ref a)) _ >>= _) _ _ s
        refine wpAny_bind (wpAny_tryCatch (gx_next G hoa hr.hd hr.depth r (has_one hS) ⟨o, by rw [hS, eo], hrel⟩ (fun acc1 y v H4 Nx s' ry I4 ap4 hold4 rel4 c4 k4 => ?_) fun acc1 H4 s' hf' I4 ap4 hold4 rel4 => ?_))
        · obtain ⟨o1, eo1, rel1⟩ := rel4
          have eS := hold4 S (by simp) _ hS
          rw [eS] at eo1
          have ea1 : acc1 = [] := by
            rcases rel1 with ⟨q, _⟩ | ⟨q, t1, c1, q2⟩
            · exact q
            · rw [q2] at eo1
              have := congrArg Obj.data (Option.some.inj eo1)
              simp at this
          obtain ⟨b, rfl, c4⟩ := c4
          obtain ⟨t, rfl⟩ := ry
          obtain ⟨k', ek, r'⟩ := k4 _ c4
          cases ek
          show wpAny _ X.A.in1 (updateSeq S (fun _ => #[.int b t, .int b t]) >>= _) _ _ _
          refine wpAny_bind ?_
          refine wpAny_updateSeq eS rfl ?_
          rw [hname]
          refine wpAny_pure ⟨plainId_quiet F.plain_max_loop _, ?_⟩
          have key := Heap.get?_update_self (Obj.mapSeq fun _ => #[Value.int b t, .int b t]) eS rfl
          obtain ⟨c', key2⟩ : ∃ c' : Nat, (s'.heap.update S (Obj.mapSeq fun _ => #[Value.int b t, .int b t])).get? S = some { cls := .type "list", dict := none, data := .seq #[Value.int b t, .int b t] c', slots := #[] } := ⟨_, key⟩
          refine ih _ _ _ _ (r'.slp G (slp_upd I4.bare) rfl) key2 (.inr ⟨by simp, t, c', ?_⟩)
          rw [ea1]
          rfl
        · obtain ⟨o1, eo1, rel1⟩ := rel4
          have eS := hold4 S (by simp) _ hS
          rw [eS] at eo1
          obtain ⟨hne, _⟩ := hf'
          rcases rel1 with ⟨q, _⟩ | ⟨q, t1, c1, q2⟩
          · exact absurd q hne
          · rw [q2] at eo1
            have := congrArg Obj.data (Option.some.inj eo1)
            simp at this
      · rw [eo] at hS
        refine wpAny_bind (wpAny_seqItems hS rfl ?_)
        show wpAny _ X.A.in1 (tryCatch (pyNext (.ref a)) _ >>= _) _ _ s
        refine wpAny_bind (wpAny_tryCatch (gx_next G hoa hr.hd hr.depth r (has_one hS) ⟨o, by rw [hS, eo], hrel⟩ (fun acc1 y v H4 Nx s' ry I4 ap4 hold4 rel4 c4 k4 => ?_) fun acc1 H4 s' hf' I4 ap4 hold4 rel4 => ?_))
        · obtain ⟨o1, eo1, rel1⟩ := rel4
          have eS := hold4 S (by simp) _ hS
          rw [eS] at eo1
          obtain ⟨hne, emax⟩ : acc1 ≠ [] ∧ maxV acc = maxV acc1 := by
            rcases rel1 with ⟨q, c1, q2⟩ | ⟨q, t1, c1, q2⟩
            · rw [q2] at eo1
              have := congrArg Obj.data (Option.some.inj eo1)
              simp at this
            · rw [q2] at eo1
              have := congrArg Obj.data (Option.some.inj eo1)
              simp at this
              exact ⟨q, this.1.1⟩
          obtain ⟨b, rfl, c4⟩ := c4
          obtain ⟨t, rfl⟩ := ry
          obtain ⟨k', ek, r'⟩ := k4 _ c4
          cases ek
          obtain ⟨x0, r0, rfl⟩ : ∃ x r, acc1 = x :: r := by
            cases acc1 with
            | nil => exact absurd rfl hne
            | cons x r => exact ⟨x, r, rfl⟩
          show wpAny _ X.A.in1 (tryCatch (holding [.int b t, .int b t] (richCompare .Gt (.int b t) (.int (maxV acc) t0) >>= _)) _ >>= _) _ _ _
          refine wpAny_bind (wpAny_tryCatch (wpAny_holding (wpAny_bind (cmp_gt ?_))))
          refine wpAny_bind (wpAny_holding (wpAny_truthy_bool ?_))
          refine wpAny_bind (wpAny_letGo (wpAny_pure ?_))
          cases hb : decide (b > maxV acc) with
          | true =>
            simp only [if_true]
            refine wpAny_bind ?_
            refine wpAny_updateSeq eS rfl (wpAny_bind (wpAny_letGo ?_))
            rw [hname]
            refine wpAny_pure ⟨plainId_quiet F.plain_max_loop _, ?_⟩
            have key := Heap.get?_update_self (Obj.mapSeq fun _ => #[Value.int b t, .int b t]) eS rfl
            obtain ⟨c', key2⟩ : ∃ c' : Nat, (s'.heap.update S (Obj.mapSeq fun _ => #[Value.int b t, .int b t])).get? S = some { cls := .type "list", dict := none, data := .seq #[Value.int b t, .int b t] c', slots := #[] } := ⟨_, key⟩
            refine ih _ _ _ _ (r'.slp G (slp_upd I4.bare) rfl) key2 (.inr ⟨by simp, t, c', ?_⟩)
            have h1 := of_decide_eq_true hb
            rw [maxV_app, if_pos (by rw [← emax]; exact h1)]
          | false =>
            simp only [Bool.false_eq_true, if_false]
            refine wpAny_bind (wpAny_letGo ?_)
            rw [hname]
            refine wpAny_pure ⟨plainId_quiet F.plain_max_loop _, ih _ _ _ _ r' eS (.inr ⟨by simp, t0, c, ?_⟩)⟩
            have h1 := of_decide_eq_false hb
            rw [maxV_app, if_neg (by rw [← emax]; exact h1), emax]
        · obtain ⟨o1, eo1, rel1⟩ := rel4
          have eS := hold4 S (by simp) _ hS
          rw [eS] at eo1
          have emax : maxV acc = maxV acc1 := by
            rcases rel1 with ⟨q, c1, q2⟩ | ⟨q, t1, c1, q2⟩
            · rw [q2] at eo1
              have := congrArg Obj.data (Option.some.inj eo1)
              simp at this
            · rw [q2] at eo1
              have := congrArg Obj.data (Option.some.inj eo1)
              simp at this
              exact this.1.1
          show wpAny _ X.A.in1 (updateSeq S (fun _ => #[]) >>= _) _ _ _
          refine wpAny_bind ?_
          refine wpAny_updateSeq eS rfl (wpAny_bind (wpAny_letGo (wpAny_pure ?_)))
          have ap : ∀ p ∈ B.pn ++ [(a, oa)], p.1 ∉ [S] := fun p hp => by
            have hp2 := hp
            rw [G.pn, List.nil_append] at hp2
            rw [List.mem_singleton.mp hp2]
            exact G.aS
          have I5 := inv_slp (s' := { s' with heap := s'.heap.update S (Obj.mapSeq fun _ => #[]) }) I4 ap4 ap (slp_upd (tk := s'.toks) I4.bare)
          exact ⟨.int (maxV acc1), _, back _ _ I5, ⟨t0, by rw [emax]⟩, hf'.2⟩
  rw [hname]
  subst hS0
  have r0 := rdy { s5 with heap := s5.heap.push { cls := .type "list", data := .seq #[] } } (slp_push (tk := s5.toks) hb5) rfl
  exact wpAny_pure ⟨plainId_quiet F.plain_max_loop _, codeAny_mono (loop n [] H2 _ _ r0 (Heap.get?_push_size _ rfl) (.inl ⟨rfl, _, rfl⟩)) fun r s' q => q⟩
/-- tuple(..) -/
def RelTup (acc : List V) (o : Obj) : Prop := ∃ (us : Array Value) (c : Nat), Vals acc us.toList ∧ o = { cls := .type "list", dict := none, data := .seq us c, slots := #[] }
theorem collect_gx {A : Around} {Q' : List Value → Shared → Prop} (hr : Room (k + 2) A) (hf : A.frames = some X.stack) (h : GNew X pins k J elt tg ifs g tt te vs σ conTup finTup Q a s5)
    (hQ : ∀ acc H4 s' us, Inv X pins σ H4 s' → finTup acc H4 Q → Vals acc us → Q' us s') : wpAny (model X.prog X.w) A (collect (.ref a)) Q' E s5 := by
  obtain ⟨oa, gi, hoa, ha, hb5, mk⟩ := h
  obtain ⟨B, W, fp, it, tn, n, H2, e1, e2, e3, G, rdy, back⟩ := mk A.in1 [s5.heap.objs.size] (fun acc h => ∃ o, h.get? s5.heap.objs.size = some o ∧ RelTup acc o) hf (Room.in1 hr) (fun b hb => by rw [List.mem_singleton.mp hb]; exact Nat.le_refl _) stay_one
  have hgen : s5.heap.IsGen a gi := by
    obtain ⟨nm, qn, h⟩ := hoa.dat
    exact ⟨oa, nm, qn, ha, hoa.cls, h, hoa.slo⟩
  have hSI : s5.heap.objs.size ≠ a := fun e => by
    have h9 := Heap.lt_size ha
    rw [e] at h9
    exact Nat.lt_irrefl _ h9
  have hT : ∀ {h' : Heap}, (∀ b o, s5.heap.get? b = some o → h'.get? b = some o) → ∀ g d t, ({ heap := h', gens := g, drawn := d, toks := t, os := s5.os } : Shared).TypeIs (.ref a) "generator" := fun {h'} q g d t => (hgen.keeps q).typeIs
  obtain ⟨S, hS0⟩ : ∃ S, S = s5.heap.objs.size := ⟨_, rfl⟩
  rw [← hS0] at G rdy hSI
  rw [← e1, ← e2]
  unfold collect
  refine wpAny_bind (wpAny_runValue (codeAny_builtin F.entry_proto_collect ?_))
  rw [Around.under_plainId F.plain_proto_collect _]
  show wpAny _ A.in1 (newList [] >>= fun l => again (.builtin "list.__iadd__" ⟨[l, .ref a], []⟩)) _ _ s5
  refine wpAny_bind (wpAny_newObj_type ?_)
  refine wpAny_pure ⟨plainId_quiet F.plain_list_iadd _, codeAny_builtin F.entry_list_iadd ?_⟩
  rw [Around.under_plainId F.plain_list_iadd _]
  have k1 : ∀ b o, s5.heap.get? b = some o → (s5.heap.push { cls := .type "list", data := .seq ([] : List Value).toArray }).get? b = some o := fun b o e => Heap.get?_push_of_some _ e
  show wpAny _ A.in1 (Builtin.List.listExtendWith (.ref s5.heap.objs.size) (.ref a) (.ref s5.heap.objs.size)) _ _ _
  unfold Builtin.List.listExtendWith
  refine wpAny_bind (wpAny_typeOf (hT k1 _ _ _) ?_)
  have h1 : Builtin.List.listSameRef (.ref s5.heap.objs.size) (.ref a) = false := by rw [← hS0]; simp [Builtin.List.listSameRef, hSI]
  have h2 : (Value.type "generator" == Value.type "list") = false := by decide
  have h3 : (Value.type "generator" == Value.type "tuple") = false := by decide
  simp only [h1, h2, h3, Bool.or_false, Bool.false_eq_true, if_false]
  refine wpAny_bind (wpAny_pyIter_gen (s := { s5 with heap := _ }) (hgen.keeps k1) ?_)
  refine wpAny_bind (wpAny_holding ?_)
  unfold Builtin.List.listLengthHint
  refine wpAny_bind (wpAny_specialOf (hT k1 _ _ _) F.gen_no_len ?_)
  show wpAny _ A.in1 (specialOf (Value.ref a) (Str.ofString "__length_hint__") >>= _) _ _ _
  refine wpAny_bind (wpAny_specialOf (hT k1 _ _ _) F.gen_no_hint ?_)
  refine wpAny_pure ?_
  show wpAny _ A.in1 (rule "list.extend.makes-room" >>= fun _ => Builtin.List.listTouch (.ref s5.heap.objs.size) >>= fun _ =>
    again (.builtin "list.extend.loop" ⟨[.ref s5.heap.objs.size, .ref a, .ref s5.heap.objs.size], []⟩)) _ _ _
  refine wpAny_bind (wpAny_rule ?_)
  have hS₁ : (s5.heap.push { cls := .type "list", data := .seq ([] : List Value).toArray }).get? s5.heap.objs.size = some { cls := .type "list", data := .seq ([] : List Value).toArray } := Heap.get?_push_size _ rfl
  refine wpAny_bind ?_
  show wpAny _ A.in1 (updateSeq s5.heap.objs.size (·.push .none) >>= fun _ => updateSeq s5.heap.objs.size (·.pop)) _ _ _
  refine wpAny_bind (wpAny_updateSeq hS₁ rfl ?_)
  have hS₂ := Heap.get?_update_self (Obj.mapSeq (·.push Value.none)) hS₁ rfl
  refine wpAny_updateSeq hS₂ rfl ?_
  have hS₃ := Heap.get?_update_self (Obj.mapSeq (·.pop)) hS₂ rfl
  have oth : ∀ b o, b ∉ [S] → s5.heap.get? b = some o →
      (((s5.heap.push { cls := .type "list", data := .seq ([] : List Value).toArray }).update s5.heap.objs.size (Obj.mapSeq (·.push Value.none))).update s5.heap.objs.size (Obj.mapSeq (·.pop))).get? b = some o :=
    fun b o hb e => (Heap.get?_update_other _ _ (fun h => hb (by rw [← h, ← hS0]; simp))).trans ((Heap.get?_update_other _ _ (fun h => hb (by rw [← h, ← hS0]; simp))).trans (k1 b o e))
  have loop : ∀ (n : Nat) (acc : List V) (H : Hp) (s : Shared) (us : Array Value) (c : Nat), GRdy B A.in1.in1 vs σ conTup finTup Q W fp tn [S] (fun acc h => ∃ o, h.get? S = some o ∧ RelTup acc o) a oa gi n acc H s → Vals acc us.toList →
      s.heap.get? S = some { cls := .type "list", dict := none, data := .seq us c, slots := #[] } → codeAny (model B.prog B.w) A (.builtin "list.extend.loop" ⟨[.ref S, .ref a, .ref S], []⟩) (fun r s' => match r with
      | .ok (.ret u) => ∃ acc H4 us c, u = .ref S ∧ Inv X pins σ H4 s' ∧ finTup acc H4 Q ∧ Vals acc us.toList ∧ s'.heap.get? S = some { cls := .type "list", dict := none, data := .seq us c, slots := #[] }
      | .ok _ => False
      | .error e => E e s') s := by
    intro n
    induction n with
    | zero =>
      intro acc H s us c r
      obtain ⟨_, _, _, hlt, _⟩ := r
      omega
    | succ n ih =>
      intro acc H s us c r hv hS
      refine codeAny_builtin F.entry_extend_loop ?_
      rw [Around.under_plainId F.plain_extend_loop _]
      show wpAny _ A.in1 (pyNext (.ref a) >>= _) _ _ s
      refine wpAny_bind (gx_next G hoa hr.hd hr.depth r (has_one hS) ⟨_, hS, us, c, hv, rfl⟩ (fun acc1 y v H4 Nx s' ry I4 ap4 hold4 rel4 c4 k4 => ?_) fun acc1 H4 s' hf' I4 ap4 hold4 rel4 => ?_)
      · obtain ⟨o1, eo1, us1, c1, hv1, rfl⟩ := rel4
        have eS := hold4 S (by simp) _ hS
        rw [eS] at eo1
        obtain rfl : us = us1 := by
          have := congrArg Obj.data (Option.some.inj eo1)
          simp at this
          exact this.1
        obtain ⟨hlt, c4⟩ := c4
        obtain ⟨k', ek, r'⟩ := k4 _ c4
        cases ek
        have hsz : us.size = acc1.length := by
          have := hv1.length
          simp at this
          omega
        show wpAny _ A.in1 (updateSeq S (·.push v) >>= _) _ _ _
        refine wpAny_bind ?_
        refine wpAny_updateSeq eS rfl (wpAny_pure ⟨plainId_quiet F.plain_extend_loop _, ?_⟩) (by rw [hsz]; omega) (by show (us.push v).size ≤ sizeLine + 1; rw [Array.size_push, hsz]; omega)
        have key := Heap.get?_update_self (Obj.mapSeq (·.push v)) eS rfl
        obtain ⟨c', key2⟩ : ∃ c' : Nat, (s'.heap.update S (Obj.mapSeq (·.push v))).get? S = some { cls := .type "list", dict := none, data := .seq (us.push v) c', slots := #[] } := ⟨_, key⟩
        refine ih _ _ _ _ _ (r'.slp G (slp_upd I4.bare) rfl) ?_ key2
        rw [Array.toList_push]
        exact hv1.append (.cons ry .nil)
      · obtain ⟨o1, eo1, us1, c1, hv1, rfl⟩ := rel4
        exact wpAny_pure ⟨acc1, H4, us1, c1, rfl, back _ _ I4, hf', hv1, eo1⟩
  subst hS0
  have r0 := rdy { s5 with heap := ((s5.heap.push { cls := .type "list", data := .seq ([] : List Value).toArray }).update s5.heap.objs.size (Obj.mapSeq (·.push Value.none))).update s5.heap.objs.size (Obj.mapSeq (·.pop)) } ⟨rfl, hb5, oth⟩ rfl
  refine wpAny_pure ⟨plainId_quiet F.plain_extend_loop _, codeAny_mono (loop n [] H2 _ _ _ r0 .nil hS₃) fun r s' hq => ?_⟩
  cases r with
  | error e => exact hq
  | ok fl =>
    cases fl with
    | ret u =>
      obtain ⟨acc, H4, us, c, rfl, I4, hf4, hv4, e4⟩ := hq
      show wpAny _ A (load s5.heap.objs.size >>= _) _ _ s'
      refine wpAny_bind (wpAny_load e4 ?_)
      exact wpAny_pure (hQ acc H4 s' us.toList I4 hf4 hv4)
    | next => exact False.elim hq
    | brk => exact False.elim hq
    | cont => exact False.elim hq
end
end Gx
set_option Elab.async false
set_option linter.all false
set_option maxRecDepth 100000
set_option maxHeartbeats 1000000
namespace Gx
open PySem PySem.Spec PyProof.Rows L2 GenW
section
variable {X : Cx} {pins : List (Addr × Obj)} {σ : L2.St} {k : Nat} {J : It} {elt tg : Expr} {ifs : List Expr} {g : TG} {tt : TT} {te : TE} {vs : List Nat} {Q : VK} {a : Addr} {s5 : Shared} {E : Value → Shared → Prop}
theorem GNew.typ {con : Con} {fin : Fin1} (h : GNew X pins k J elt tg ifs g tt te vs σ con fin Q a s5) : s5.TypeIs (.ref a) "generator" := by
  obtain ⟨oa, gi, hoa, ha, hb5, mk⟩ := h
  exact ⟨oa, ha, hoa.cls⟩
theorem code_tuple_gx {A : Around} {Q1 : Value → Shared → Prop} (hr : Room (k + 3) A) (hf : A.frames = some X.stack) (h : GNew X pins k J elt tg ifs g tt te vs σ conTup finTup Q a s5)
    (hQ : ∀ acc H4 s' us, Inv X pins σ H4 s' → finTup acc H4 Q → Vals acc us → Q1 (.ref s'.heap.objs.size) { s' with heap := s'.heap.push { cls := .type "tuple", data := .seq us.toArray } }) :
    codeAny (model X.prog X.w) A (.call (.builtin "tuple.__new__") ⟨[.type "tuple", .ref a], []⟩) (wants Q1 E) s5 := by
  refine codeAny_of_tree ?_
  show wpAny _ A.in1 (do checkBuiltinCall "tuple.__new__" ⟨[.type "tuple", .ref a], []⟩; again (.builtin "tuple.__new__" ⟨[.type "tuple", .ref a], []⟩)) _ _ s5
  refine wpAny_bind (wpAny_of_eq (F.newCall_tuple_1 _) (wpAny_pure ⟨plainId_quiet F.plain_tuple_new _, codeAny_builtin F.entry_tuple_new ?_⟩))
  rw [Around.under_plainId F.plain_tuple_new _]
  have hsub := sub_tuple_self
  have hinit := init_tuple_lookup
  have hmh := madeHere_tuple
  have hTI := h.typ
  wp_walk using wpAny_typeOf hTI, collect_gx (X := X) (pins := pins) (σ := σ) (k := k) (Q := Q) (Room.in1 hr) hf h
  intro acc H4 s' us I4 hf4 hv4
  show wpAny _ _ (Builtin.Tuple.tupleExact us.toArray >>= fun v => ret v) _ _ _
  unfold Builtin.Tuple.tupleExact
  have hl := hv4.length
  refine wpAny_bind (wpAny_newObj_type ?_ (by show us.toArray.size ≤ sizeLine; rw [List.size_toArray, ← hl]; exact hf4.1))
  exact wpAny_pure (hQ acc H4 s' us I4 hf4 hv4)
theorem call_tuple (hr : Room (k + 4) X.A) (hf : X.A.frames = some X.stack) (h : GNew X pins k J elt tg ifs g tt te vs σ conTup finTup Q a s5) : wpAny (model X.prog X.w) X.A (call (.type "tuple") [.ref a]) (EP X pins σ Q) E s5 := by
  refine callType_codes (Q₁ := fun obj s₁ => s₁.TypeIs obj "tuple" ∧ EP X pins σ Q obj s₁) F.called_tuple (F.typeCall_tuple_1 _) F.entry_object_init
    (code_tuple_gx (X := X) (pins := pins) (σ := σ) (k := k) (Q := Q) (Room.in1 hr) hf h fun acc H4 s' us I4 hf4 hv4 => ⟨⟨_, Heap.get?_push_size _ rfl, rfl⟩, ?_⟩) fun obj s₁ h₁ => ?_
  · have nH := I4.hok.fresh (Nat.le_refl s'.heap.objs.size)
    exact ⟨.ref s'.heap.objs.size, _, I4.laid (t' := s'.toks) (fun b o e => Heap.get?_push_of_some _ e) (Nat.le_refl _) (show ObjOk X.prog X.w _ _ _ (.tup acc) from ⟨hf4.1, us, hv4, IsTup.new _ _⟩), rfl, hf4.2 _ nH⟩
  · exact ⟨h₁.1, F.args_object_init_2 obj _, object_init_meets F.called_tuple.init.lookup F.called_tuple.made (by decide) X.prog X.w X.A.in1 _ s₁ ⟨h₁.1, rfl, h₁.2⟩⟩
end
/-! ### the expressions f(elt for tg in iter if ..) -/
/-- what the rule asks of the def and the expression -/
structure GxE (X : Cx) (k : Nat) (c P : Addr) (elt tg iter : Expr) (ifs : List Expr) (scope : Scope) (own : List (Str × Nat)) (wi : TI) (g : TG) (tt : TT) (te : TE) : Prop where
  hc : X.calm = true
  TB : GxR.TabB X.base X.mg c P
  code : X.env.code = .ref c
  sc : GSc scope
  ok : BlkOk X.N X.env.scope scope own
  nd : X.N.Nodup
  hi : PI X tg iter wi
  hg : ∀ (A : Around) (s : Shared) (H : Hp) (C : Addr) (cl : List (Str × Addr)) (code : Value) (fp : List Addr), Room k (A.deeper (genEnv scope cl C code builtinsNs X.env)) → PG (gctx X A s H (genEnv scope cl C code builtinsNs X.env) fp) tg g
  ht : ∀ (A : Around) (s : Shared) (H : Hp) (C : Addr) (cl : List (Str × Addr)) (code : Value) (fp : List Addr), Room k (A.deeper (genEnv scope cl C code builtinsNs X.env)) → PTs (gctx X A s H (genEnv scope cl C code builtinsNs X.env) fp) ifs tt
  he : ∀ (A : Around) (s : Shared) (H : Hp) (C : Addr) (cl : List (Str × Addr)) (code : Value) (fp : List Addr), Room k (A.deeper (genEnv scope cl C code builtinsNs X.env)) → PE (gctx X A s H (genEnv scope cl C code builtinsNs X.env) fp) elt te
section
variable {X : Cx} {k : Nat} {c P : Addr} {elt tg iter : Expr} {ifs : List Expr} {scope : Scope} {own : List (Str × Nat)} {wi : TI} {g : TG} {tt : TT} {te : TE} {gpos p pos : Pos}
theorem pe_gx {f : Str} {id : String} {con : Con} {fin : Fin1} (hr : Room (k + 4) X.A) (G : GxE X k c P elt tg iter ifs scope own wi g tt te) (hgl : Gl X f) (hm : X.mg f = none) (hb : bootBuiltins f = some (.builtin id))
    (hcall : ∀ (pins : List (Addr × Obj)) (σ : L2.St) (J : It) (Q : VK) (a : Addr) (s5 : Shared), X.A.frames = some X.stack → GNew X pins k J elt tg ifs g tt te (own.map (·.2)) σ con fin Q a s5 → wpAny (model X.prog X.w) X.A (call (.builtin id) [.ref a]) (EP X pins σ Q) X.xe s5)
    (hs : ∀ v, genFold iter X.env v = pure v := by intro _; rfl) (hn : f ≠ "__name__" := by decide) (hd : (f == ("__debug__" : Str)) = false := by decide)
    (he : starEach [.GeneratorExp elt [⟨tg, iter, ifs, 0⟩] scope gpos] X.env = (false, eval (.GeneratorExp elt [⟨tg, iter, ifs, 0⟩] scope gpos) X.env) :: starEach [] X.env := by rfl) :
    PE X (.Call (.Name f p) [.GeneratorExp elt [⟨tg, iter, ifs, 0⟩] scope gpos] [] pos) (tGx P con fin wi g tt te (own.map (·.2))) := by
  refine ⟨fun pins s σ H Q I h => ?_⟩
  refine wpAny_Call_Name_kw (ld_blt I hgl hm hb ?_ hn hd)
  refine PyProof.Rows.callWith_builtin1 ?_ he (by rfl)
  rw [he]
  show wpAny _ _ (spliced ((false, eval (.GeneratorExp elt [⟨tg, iter, ifs, 0⟩] scope gpos) X.env) :: backTo pos (starEach [] X.env))) _ _ s
  refine Calls.spliced_cons (gx_make (con := con) (fin := fin) (k := k) (hr.mono (by omega)) G.hc G.TB G.code G.sc G.ok G.nd G.hi G.hg G.ht G.he hs I h fun J a s5 hG => ?_)
  refine Calls.spliced_nil ?_
  exact hcall pins σ J Q a s5 I.ok.frames hG
theorem pe_gxAll (hr : Room (k + 4) X.A) (G : GxE X k c P elt tg iter ifs scope own wi g tt te) (hgl : Gl X "all") (hm : X.mg "all" = none) (hs : ∀ v, genFold iter X.env v = pure v := by intro _; rfl)
    (he : starEach [.GeneratorExp elt [⟨tg, iter, ifs, 0⟩] scope gpos] X.env = (false, eval (.GeneratorExp elt [⟨tg, iter, ifs, 0⟩] scope gpos) X.env) :: starEach [] X.env := by rfl) :
    PE X (.Call (.Name "all" p) [.GeneratorExp elt [⟨tg, iter, ifs, 0⟩] scope gpos] [] pos) (tGx P conAll finAll wi g tt te (own.map (·.2))) :=
  pe_gx hr G hgl hm (by decide +kernel) (fun pins σ J Q a s5 hf h => call_all (hr.mono (by omega)) hf h) hs (by decide) (by decide) he
theorem pe_gxSum (hr : Room (k + 4) X.A) (G : GxE X k c P elt tg iter ifs scope own wi g tt te) (hgl : Gl X "sum") (hm : X.mg "sum" = none) (hs : ∀ v, genFold iter X.env v = pure v := by intro _; rfl)
    (he : starEach [.GeneratorExp elt [⟨tg, iter, ifs, 0⟩] scope gpos] X.env = (false, eval (.GeneratorExp elt [⟨tg, iter, ifs, 0⟩] scope gpos) X.env) :: starEach [] X.env := by rfl) :
    PE X (.Call (.Name "sum" p) [.GeneratorExp elt [⟨tg, iter, ifs, 0⟩] scope gpos] [] pos) (tGx P conSum finSum wi g tt te (own.map (·.2))) :=
  pe_gx hr G hgl hm (by decide +kernel) (fun pins σ J Q a s5 hf h => call_sum (hr.mono (by omega)) hf h) hs (by decide) (by decide) he
theorem pe_gxMax (hr : Room (k + 4) X.A) (G : GxE X k c P elt tg iter ifs scope own wi g tt te) (hgl : Gl X "max") (hm : X.mg "max" = none) (hs : ∀ v, genFold iter X.env v = pure v := by intro _; rfl)
    (he : starEach [.GeneratorExp elt [⟨tg, iter, ifs, 0⟩] scope gpos] X.env = (false, eval (.GeneratorExp elt [⟨tg, iter, ifs, 0⟩] scope gpos) X.env) :: starEach [] X.env := by rfl) :
    PE X (.Call (.Name "max" p) [.GeneratorExp elt [⟨tg, iter, ifs, 0⟩] scope gpos] [] pos) (tGx P conMax finMax wi g tt te (own.map (·.2))) :=
  pe_gx hr G hgl hm (by decide +kernel) (fun pins σ J Q a s5 hf h => call_max (hr.mono (by omega)) hf h) hs (by decide) (by decide) he
theorem pe_gxTup (hr : Room (k + 4) X.A) (G : GxE X k c P elt tg iter ifs scope own wi g tt te) (hgl : Gl X "tuple") (hm : X.mg "tuple" = none) (hs : ∀ v, genFold iter X.env v = pure v := by intro _; rfl)
    (he : starEach [.GeneratorExp elt [⟨tg, iter, ifs, 0⟩] scope gpos] X.env = (false, eval (.GeneratorExp elt [⟨tg, iter, ifs, 0⟩] scope gpos) X.env) :: starEach [] X.env := by rfl) :
    PE X (.Call (.Name "tuple" p) [.GeneratorExp elt [⟨tg, iter, ifs, 0⟩] scope gpos] [] pos) (tGx P conTup finTup wi g tt te (own.map (·.2))) := by
  refine ⟨fun pins s σ H Q I h => ?_⟩
  refine Call_ (ld_blt I hgl hm (by decide +kernel : bootBuiltins "tuple" = some (.type "tuple")) (PyProof.Rows.callWith_type1 ?_ he (by rfl)) (by decide) (by decide))
  rw [he]
  show wpAny _ _ (spliced ((false, eval (.GeneratorExp elt [⟨tg, iter, ifs, 0⟩] scope gpos) X.env) :: backTo pos (starEach [] X.env))) _ _ s
  refine Calls.spliced_cons (gx_make (con := conTup) (fin := finTup) (k := k) (hr.mono (by omega)) G.hc G.TB G.code G.sc G.ok G.nd G.hi G.hg G.ht G.he hs I h fun J a s5 hG => ?_)
  refine Calls.spliced_nil ?_
  exact call_tuple hr I.ok.frames hG
end
end Gx
set_option Elab.async false
set_option linter.all false
set_option maxRecDepth 100000
set_option maxHeartbeats 1000000
namespace Q
open PySem PySem.Spec PyProof.Rows L2
/-! ### heaps -/
/-- nothing that stands is changed, but tables of code objects -/
structure XT (H H' : Hp) : Prop where
  keep : ∀ b o, H b = some o → (∀ t, o ≠ .tbl t) → H' b = some o
  dom : ∀ b, H' b = none → H b = none
  tab : ∀ P, GxR.TabG H P → GxR.TabG H' P
theorem XT.rfl' {H : Hp} : XT H H := ⟨fun _ _ h _ => h, fun _ h => h, fun _ h => h⟩
theorem XT.trans {H H1 H2 : Hp} (a : XT H H1) (b : XT H1 H2) : XT H H2 :=
  ⟨fun p o h n => b.keep p o (a.keep p o h n) n, fun p h => a.dom p (b.dom p h), fun P h => b.tab P (a.tab P h)⟩
theorem tab_upd {H : Hp} {p P : Addr} {o : HO} (h : H p = none ∨ ∃ u, H p = some u ∧ ∀ t, u ≠ .tbl t) (g : GxR.TabG H P) : GxR.TabG (upd H p o) P := by
  obtain ⟨ps, e, ok⟩ := g
  refine ⟨ps, ?_, ok⟩
  rw [upd_ne]
  · exact e
  · rintro rfl
    rcases h with h | ⟨u, h, n⟩
    · rw [h] at e; cases e
    · rw [h] at e; cases e; exact n ps rfl
theorem dom_upd {H : Hp} {p b : Addr} {o : HO} (h : (upd H p o) b = none) : H b = none := by
  by_cases e : b = p
  · subst e; rw [upd_same] at h; cases h
  · rwa [upd_ne e] at h
theorem XT.new {H : Hp} {p : Addr} {o : HO} (h : H p = none) : XT H (upd H p o) :=
  ⟨fun b u e _ => by rw [upd_ne (ne_of_none e h)]; exact e, fun b e => dom_upd e, fun P g => tab_upd (.inl h) g⟩
/-- a store to what is new since H0 -/
theorem XT.put {H0 H : Hp} {p : Addr} {o : HO} (x : XT H0 H) (h0 : H0 p = none) (h : H p = none ∨ ∃ u, H p = some u ∧ ∀ t, u ≠ .tbl t) : XT H0 (upd H p o) :=
  ⟨fun b u e n => by rw [upd_ne (ne_of_none e h0)]; exact x.keep b u e n, fun b e => x.dom b (dom_upd e), fun P g => tab_upd h (x.tab P g)⟩
theorem XT.add {H0 H : Hp} {p : Addr} {o : HO} (x : XT H0 H) (h : H p = none) : XT H0 (upd H p o) := x.put (x.dom p h) (.inl h)
theorem XT.lst {H H' : Hp} (x : XT H H') {a : Addr} {xs : List V} (h : H a = some (.lst xs)) : H' a = some (.lst xs) := x.keep _ _ h fun t => by intro z; cases z
theorem XT.tup {H H' : Hp} (x : XT H H') {a : Addr} {xs : List V} (h : H a = some (.tup xs)) : H' a = some (.tup xs) := x.keep _ _ h fun t => by intro z; cases z
theorem XT.ins {H H' : Hp} (x : XT H H') {a C dx : Addr} {fs : List (Str × V)} (h : H a = some (.ins C dx fs)) : H' a = some (.ins C dx fs) := x.keep _ _ h fun t => by intro z; cases z
theorem XT.xd {H H' : Hp} (x : XT H H') {a : Addr} {fs : List (Str × V)} (h : H a = some (.xd fs)) : H' a = some (.xd fs) := x.keep _ _ h fun t => by intro z; cases z
theorem XT.own {H H' : Hp} (x : XT H H') {a b : Addr} (h : H a = some (.own b)) : H' a = some (.own b) := x.keep _ _ h fun t => by intro z; cases z
theorem XT.frz {H H' : Hp} (x : XT H H') {a : Addr} {o : Obj} {u : HO} (h : H a = some (.frz o u)) : H' a = some (.frz o u) := x.keep _ _ h fun t => by intro z; cases z
theorem XT.rd {H H' : Hp} (x : XT H H') {a : Addr} {u : HO} (n : ∀ t, u ≠ .tbl t) (h : Rd H a u) : Rd H' a u := by
  rcases h with h | ⟨o, h⟩
  · exact .inl (x.keep _ _ h n)
  · exact .inr ⟨o, x.frz h⟩
theorem XT.sql {H H' : Hp} (x : XT H H') {K : W.Frag} {a : Addr} {xs : List V} (h : SqL K H a xs) : SqL K H' a xs := by
  rcases h with h | h
  · exact .inl (x.rd (fun t => by intro z; cases z) h)
  · exact .inr h
theorem XT.sqt {H H' : Hp} (x : XT H H') {K : W.Frag} {a : Addr} {xs : List V} (h : SqT K H a xs) : SqT K H' a xs := by
  rcases h with h | h
  · exact .inl (x.rd (fun t => by intro z; cases z) h)
  · exact .inr h
theorem XT.tbd {P : Addr} {H H' : Hp} (g : GxR.TabG H P) (t : GxR.Tabbed P H H') : XT H H' := by
  obtain ⟨ps, e, ok⟩ := g
  refine ⟨fun b o h n => ?_, fun b h => ?_, fun Q gq => ?_⟩
  · by_cases c : b = P
    · subst c; rw [e] at h; cases h; exact absurd rfl (n ps)
    · rw [t.2 b c]; exact h
  · by_cases c : b = P
    · subst c
      obtain ⟨qs, e2, _⟩ := t.1
      rw [e2] at h; cases h
    · rw [← t.2 b c]; exact h
  · by_cases c : Q = P
    · subst c; exact t.1
    · obtain ⟨qs, e2, k2⟩ := gq
      exact ⟨qs, by rw [t.2 Q c]; exact e2, k2⟩
/-- all that stands is kept but what stands at s (the law's state) -/
structure XS (s : Addr) (H H' : Hp) : Prop where
  keep : ∀ b o, b ≠ s → H b = some o → (∀ t, o ≠ .tbl t) → H' b = some o
  dom : ∀ b, H' b = none → H b = none
  tab : ∀ P, GxR.TabG H P → GxR.TabG H' P
theorem XT.xs {s : Addr} {H H' : Hp} (x : XT H H') : XS s H H' := ⟨fun b o _ h n => x.keep b o h n, x.dom, x.tab⟩
theorem XS.rfl' {s : Addr} {H : Hp} : XS s H H := XT.rfl'.xs
theorem XS.trans {s : Addr} {H H1 H2 : Hp} (a : XS s H H1) (b : XS s H1 H2) : XS s H H2 :=
  ⟨fun p o q h n => b.keep p o q (a.keep p o q h n) n, fun p h => a.dom p (b.dom p h), fun P h => b.tab P (a.tab P h)⟩
theorem XS.put {s : Addr} {H0 H : Hp} {p : Addr} {o : HO} (x : XS s H0 H) (h0 : H0 p = none ∨ p = s) (h : H p = none ∨ ∃ u, H p = some u ∧ ∀ t, u ≠ .tbl t) : XS s H0 (upd H p o) :=
  ⟨fun b u q e n => by
    rw [upd_ne]
    · exact x.keep b u q e n
    · rintro rfl
      rcases h0 with h0 | h0
      · rw [h0] at e; cases e
      · exact q h0, fun b e => x.dom b (dom_upd e), fun P g => tab_upd h (x.tab P g)⟩
theorem XS.add {s : Addr} {H0 H : Hp} {p : Addr} {o : HO} (x : XS s H0 H) (h : H p = none) : XS s H0 (upd H p o) := x.put (.inl (x.dom p h)) (.inl h)
theorem XS.lst {s : Addr} {H H' : Hp} (x : XS s H H') {a : Addr} {xs : List V} (q : a ≠ s) (h : H a = some (.lst xs)) : H' a = some (.lst xs) := x.keep _ _ q h fun t => by intro z; cases z
theorem ne_lst {H : Hp} {a s : Addr} {o : HO} {xs : List V} (h : H a = some o) (hs : H s = some (.lst xs)) (n : ∀ l, o ≠ .lst l) : a ≠ s := by
  rintro rfl
  rw [h] at hs; cases hs; exact n _ rfl
/-! ### the world, calls -/
structure Wd where
  P : Program
  w : World
  K : W.Frag
  mg : Str → Option Value
  base : Heap
def Cl (Z : Wd) (CX : CXT) (k : Nat) (x : Str) (sp : Sp) : Prop :=
  ∃ f fd ps, FnOk Z.P Z.w Z.K Z.mg Z.base CX k f fd ps sp ∧ Z.mg x = some (.ref f) ∧ W.keepIn Z.K (.ref f) = true ∧ L2.Binds Z.K fd ps []
theorem Cl.mono {Z : Wd} {CX : CXT} {j k : Nat} {x : Str} {sp : Sp} (c : Cl Z CX j x sp) (h : j ≤ k) : Cl Z CX k x sp := by
  obtain ⟨f, fd, ps, a, b⟩ := c
  exact ⟨f, fd, ps, a.mono h, b⟩
theorem Cl.imp {Z : Wd} {CX : CXT} {j : Nat} {x : Str} {sp sp' : Sp} (c : Cl Z CX j x sp) (h : ∀ vs H Q E, sp' vs H Q E → sp vs H Q E) : Cl Z CX j x sp' := by
  obtain ⟨f, fd, ps, a, b⟩ := c
  exact ⟨f, fd, ps, a.imp h, b⟩
theorem pe_cl {X : Cx} {CX : CXT} {k : Nat} {sp : Sp} {E : XK} {x : Str} {p pos : Pos} {e : Expr} {es : List Expr} {t : TA}
    (c : Cl ⟨X.prog, X.w, X.K, X.mg, X.base⟩ CX k x sp) (hr : Room k X.A) (hg : Gl X x) (hx : Passes CX X E) (ha : PA X (e :: es) t)
    (hd : (x == Str.ofString "__debug__") = false := by rfl)
    (he : starEach (e :: es) X.env = (false, eval e X.env) :: starEach es X.env := by rfl)
    (hn : ((backTo pos (starEach es X.env)).any fun x => x.fst) = false := by rfl) :
    PE X (.Call (.Name x p) (e :: es) [] pos) (tCall sp [] E t) := by
  obtain ⟨f, fd, ps, F, m, kp, b⟩ := c
  exact pe_call F hr hg m kp b .nil hx ha hd he hn
/-- a def of the text -/
def Fn (Z : Wd) (x qual : Str) (st : Stmt) : Prop := ∃ f fd, Fun Z.K x qual st f fd ∧ Z.mg x = some (.ref f)
/-- a def of the text with a table of code objects -/
def FnT (Z : Wd) (x qual : Str) (st : Stmt) (P : Addr) : Prop :=
  ∃ f fd oc od kV doc pm an c ct osl, fd = W.fnOf x qual (defArgs st) (defBody st) (defScope st) Value.none kV doc pm an (.ref c) ct ∧
    List.lookup f Z.K = some { cls := oc, dict := od, data := Data.func fd, slots := osl } ∧ W.codeIn Z.K (.ref c) qual = true ∧ W.keepIn Z.K (.ref f) = true ∧
    GxR.TabB Z.base Z.mg c P ∧ Z.mg x = some (.ref f)
abbrev Xn (Z : Wd) (N : List Str) (qual : Str) (sc : Scope) (f : Addr) (cdv : Value) (A : Around) (outer : List Env) (s : Shared) (H : Hp) (E : XK) : Cx :=
  (cxOf CX0 Z.P Z.w Z.K Z.mg Z.base N qual sc f cdv A outer s H E).nox
abbrev Xe (Z : Wd) (N : List Str) (qual : Str) (sc : Scope) (f : Addr) (cdv : Value) (A : Around) (outer : List Env) (s : Shared) (H : Hp) (E : XK) : Cx :=
  cxOf (L2.CX Z.P Z.w) Z.P Z.w Z.K Z.mg Z.base N qual sc f cdv A outer s H E
def Bnd (x qual : Str) (st : Stmt) (ps : List Str) : Prop := ∀ (kV doc pm : Value) (an : Option Addr) (cdv ct : Value) (us : List Value),
  us.length = ps.length → bindArgs (W.fnOf x qual (defArgs st) (defBody st) (defScope st) Value.none kV doc pm an cdv ct) { pos := us } = pure (ps.zip us)
theorem Fn.cl {Z : Wd} {x qual : Str} {st : Stmt} {N ps : List Str} {k : Nat} {sp : Sp} (F : Fn Z x qual st) (S : FnScope N ps (defScope st)) (B : Bnd x qual st ps)
    (len : ∀ (vs : List V) (H : Hp) (Q : VK) (E : XK), sp vs H Q E → vs.length = ps.length)
    (walk : ∀ (f : Addr) (cdv : Value) (A : Around) (outer : List Env) (s : Shared) (H : Hp) (vs : List V) (Q : VK) (E : XK), Room k (A.deeper (envOfC qual (defScope st) s.heap.objs.size f cdv)) → sp vs H Q E →
      ∃ t, PSs (Xn Z N qual (defScope st) f cdv A outer s H E) (defBody st) t ∧ t ⟨fun _ H' => Q V.non H', Q, fun _ _ => False, fun _ _ => False⟩ (L2.start N vs) H) : Cl Z CX0 (k + 1) x sp := by
  obtain ⟨f, fd, F, m⟩ := F
  exact ⟨f, fd, ps, F.ok S len (fun cdv A outer s H vs Q E hr h => walk f cdv A outer s H vs Q E hr h), m, F.kp, F.binds B⟩
theorem Fn.clX {Z : Wd} {x qual : Str} {st : Stmt} {N ps : List Str} {k : Nat} {sp : Sp} (F : Fn Z x qual st) (S : FnScope N ps (defScope st)) (B : Bnd x qual st ps)
    (len : ∀ (vs : List V) (H : Hp) (Q : VK) (E : XK), sp vs H Q E → vs.length = ps.length)
    (walk : ∀ (f : Addr) (cdv : Value) (A : Around) (outer : List Env) (s : Shared) (H : Hp) (vs : List V) (Q : VK) (E : XK), Room k (A.deeper (envOfC qual (defScope st) s.heap.objs.size f cdv)) → sp vs H Q E →
      ∃ t, PSs (Xe Z N qual (defScope st) f cdv A outer s H E) (defBody st) t ∧ t ⟨fun _ H' => Q V.non H', Q, fun _ _ => False, fun _ _ => False⟩ (L2.start N vs) H) : Cl Z (L2.CX Z.P Z.w) (k + 1) x sp := by
  obtain ⟨f, fd, F, m⟩ := F
  exact ⟨f, fd, ps, F.okX S len (fun cdv A outer s H vs Q E hr h => walk f cdv A outer s H vs Q E hr h), m, F.kp, F.binds B⟩
theorem FnT.cl {Z : Wd} {x qual : Str} {st : Stmt} {T : Addr} {N ps : List Str} {k : Nat} {sp : Sp} (F : FnT Z x qual st T) (S : FnScope N ps (defScope st)) (B : Bnd x qual st ps)
    (len : ∀ (vs : List V) (H : Hp) (Q : VK) (E : XK), sp vs H Q E → vs.length = ps.length)
    (walk : ∀ (f c : Addr) (A : Around) (outer : List Env) (s : Shared) (H : Hp) (vs : List V) (Q : VK) (E : XK), GxR.TabB Z.base Z.mg c T → Room k (A.deeper (envOfC qual (defScope st) s.heap.objs.size f (.ref c))) → sp vs H Q E →
      ∃ t, PSs (Xn Z N qual (defScope st) f (.ref c) A outer s H E) (defBody st) t ∧ t ⟨fun _ H' => Q V.non H', Q, fun _ _ => False, fun _ _ => False⟩ (L2.start N vs) H) : Cl Z CX0 (k + 1) x sp := by
  obtain ⟨f, fd, oc, od, kV, doc, pm, an, c, ct, osl, rfl, lk, hcd, kp, TB, m⟩ := F
  have F0 : Fun Z.K x qual st f (W.fnOf x qual (defArgs st) (defBody st) (defScope st) Value.none kV doc pm an (.ref c) ct) := ⟨⟨oc, od, kV, doc, pm, an, _, ct, osl, rfl, lk, hcd⟩, kp⟩
  refine ⟨f, _, ps, fn_of (CX := CX0) lk hcd S len fun A outer s H vs Q E hr h => ?_, m, kp, F0.binds B⟩
  obtain ⟨t, a, b⟩ := walk f c A outer s H vs Q E TB hr h
  exact ⟨t, PSs.nox a, b⟩
theorem FnT.clX {Z : Wd} {x qual : Str} {st : Stmt} {T : Addr} {N ps : List Str} {k : Nat} {sp : Sp} (F : FnT Z x qual st T) (S : FnScope N ps (defScope st)) (B : Bnd x qual st ps)
    (len : ∀ (vs : List V) (H : Hp) (Q : VK) (E : XK), sp vs H Q E → vs.length = ps.length)
    (walk : ∀ (f c : Addr) (A : Around) (outer : List Env) (s : Shared) (H : Hp) (vs : List V) (Q : VK) (E : XK), GxR.TabB Z.base Z.mg c T → Room k (A.deeper (envOfC qual (defScope st) s.heap.objs.size f (.ref c))) → sp vs H Q E →
      ∃ t, PSs (Xe Z N qual (defScope st) f (.ref c) A outer s H E) (defBody st) t ∧ t ⟨fun _ H' => Q V.non H', Q, fun _ _ => False, fun _ _ => False⟩ (L2.start N vs) H) : Cl Z (L2.CX Z.P Z.w) (k + 1) x sp := by
  obtain ⟨f, fd, oc, od, kV, doc, pm, an, c, ct, osl, rfl, lk, hcd, kp, TB, m⟩ := F
  have F0 : Fun Z.K x qual st f (W.fnOf x qual (defArgs st) (defBody st) (defScope st) Value.none kV doc pm an (.ref c) ct) := ⟨⟨oc, od, kV, doc, pm, an, _, ct, osl, rfl, lk, hcd⟩, kp⟩
  refine ⟨f, _, ps, fn_of (CX := L2.CX Z.P Z.w) lk hcd S len fun A outer s H vs Q E hr h => ?_, m, kp, F0.binds B⟩
  exact walk f c A outer s H vs Q E TB hr h
/-! ### promises by the number of arguments -/
def sp1 (f : V → Hp → VK → XK → Prop) : Sp := fun vs H Q E => ∃ a, vs = [a] ∧ f a H Q E
def sp2 (f : V → V → Hp → VK → XK → Prop) : Sp := fun vs H Q E => ∃ a b, vs = [a, b] ∧ f a b H Q E
def sp3 (f : V → V → V → Hp → VK → XK → Prop) : Sp := fun vs H Q E => ∃ a b c, vs = [a, b, c] ∧ f a b c H Q E
def sp4 (f : V → V → V → V → Hp → VK → XK → Prop) : Sp := fun vs H Q E => ∃ a b c d, vs = [a, b, c, d] ∧ f a b c d H Q E
def sp5 (f : V → V → V → V → V → Hp → VK → XK → Prop) : Sp := fun vs H Q E => ∃ a b c d e, vs = [a, b, c, d, e] ∧ f a b c d e H Q E
theorem len1 {f} {p : Str} : ∀ (vs : List V) (H : Hp) (Q : VK) (E : XK), sp1 f vs H Q E → vs.length = [p].length := fun _ _ _ _ ⟨_, e, _⟩ => by rw [e]; rfl
theorem len2 {f} {p q : Str} : ∀ (vs : List V) (H : Hp) (Q : VK) (E : XK), sp2 f vs H Q E → vs.length = [p, q].length := fun _ _ _ _ ⟨_, _, e, _⟩ => by rw [e]; rfl
theorem len3 {f} {p q r : Str} : ∀ (vs : List V) (H : Hp) (Q : VK) (E : XK), sp3 f vs H Q E → vs.length = [p, q, r].length := fun _ _ _ _ ⟨_, _, _, e, _⟩ => by rw [e]; rfl
theorem len4 {f} {p q r u : Str} : ∀ (vs : List V) (H : Hp) (Q : VK) (E : XK), sp4 f vs H Q E → vs.length = [p, q, r, u].length := fun _ _ _ _ ⟨_, _, _, _, e, _⟩ => by rw [e]; rfl
theorem len5 {f} {p q r u v : Str} : ∀ (vs : List V) (H : Hp) (Q : VK) (E : XK), sp5 f vs H Q E → vs.length = [p, q, r, u, v].length := fun _ _ _ _ ⟨_, _, _, _, _, e, _⟩ => by rw [e]; rfl
/-! ### the readings, step by step -/
section
variable {σ σ' : L2.St} {H : Hp} {Qe : VK} {n b c : L2.St → Hp → Prop} {r : VK}
theorem w_seq {t u : TS} (k : t ⟨u ⟨n, r, b, c⟩, r, b, c⟩ σ H) : tSeq t u ⟨n, r, b, c⟩ σ H := k
theorem w_next (k : n σ H) : tNext ⟨n, r, b, c⟩ σ H := k
theorem w_ret {te : TE} (k : te σ H r) : tRet te ⟨n, r, b, c⟩ σ H := k
theorem w_ifs {tc : TT} {t u : TS} (k : tc σ H fun q H1 => if q = true then t ⟨n, r, b, c⟩ σ H1 else u ⟨n, r, b, c⟩ σ H1) : tIfS tc t u ⟨n, r, b, c⟩ σ H := k
theorem w_asg {te : TE} {g : TG} (k : te σ H fun x H1 => g x σ H1 n) : tAsg te g ⟨n, r, b, c⟩ σ H := k
theorem w_drop {te : TE} (k : te σ H fun _ H1 => n σ H1) : tDrop te ⟨n, r, b, c⟩ σ H := k
theorem w_name {i : Nat} {v : V} (e : σ.set i (some v) = σ') (k : n σ' H) : gName i v σ H n := by subst e; exact k
theorem w_var {i : Nat} {v : V} (e : σ[i]? = some (some v)) (k : Qe v H) : tVar i σ H Qe := ⟨v, e, k⟩
theorem w_c {v : V} (k : Qe v H) : tC v σ H Qe := k
theorem w_op {R : R2} {ta tb : TE} (k : ta σ H fun x H1 => tb σ H1 fun y H2 => R x y H2 Qe) : tOp R ta tb σ H Qe := k
theorem w_un {R} {ta : TE} (k : ta σ H fun x H1 => R x H1 Qe) : tUn R ta σ H Qe := k
theorem w_cons {ta : TE} {tr : TA} {q : List V → Hp → Prop} (k : ta σ H fun x H1 => tr σ H1 fun xs H2 => q (x :: xs) H2) : tCons ta tr σ H q := k
theorem w_nil {q : List V → Hp → Prop} (k : q [] H) : tNil σ H q := k
theorem w_cb {R : List V → Hp → VK → Prop} {t : TA} (k : t σ H fun vs H1 => R vs H1 Qe) : tCB R t σ H Qe := k
theorem w_call {sp : Sp} {E : XK} {t : TA} (k : t σ H fun vs H1 => sp (vs ++ []) H1 Qe E) : tCall sp [] E t σ H Qe := k
theorem w_and {ta tb : TE} (k : ta σ H fun x H1 => ∃ q, x = .bl q ∧ if q = true then tb σ H1 Qe else Qe (.bl false) H1) : tAndV ta tb σ H Qe := k
theorem w_or {ta tb : TE} (k : ta σ H fun x H1 => ∃ q, x = .bl q ∧ if q = true then Qe (.bl true) H1 else tb σ H1 Qe) : tOrV ta tb σ H Qe := k
theorem w_not {ta : TE} (k : ta σ H fun x H1 => ∃ q, x = .bl q ∧ Qe (.bl (!q)) H1) : tNotV ta σ H Qe := k
theorem w_tb {te : TE} {q : Bool → Hp → Prop} (k : te σ H fun x H1 => ∃ z, x = .bl z ∧ q z H1) : tB te σ H q := k
theorem w_tt {te : TE} {q : Bool → Hp → Prop} (k : te σ H fun x H1 => ∃ z, x = .bl z ∧ q z H1) : tTest te σ H q := k
theorem w_bl {z : Bool} {q : Bool → Prop} (k : q z) : ∃ y, V.bl z = .bl y ∧ q y := ⟨z, rfl, k⟩
theorem w_tand {t u : TT} {q : Bool → Hp → Prop} (k : t σ H fun z H1 => if z = true then u σ H1 q else q false H1) : tAnd t u σ H q := k
theorem w_tor {t u : TT} {q : Bool → Hp → Prop} (k : t σ H fun z H1 => if z = true then q true H1 else u σ H1 q) : tOr t u σ H q := k
theorem w_tnot {t : TT} {q : Bool → Hp → Prop} (k : t σ H fun z H1 => q (!z) H1) : tNot t σ H q := k
theorem w_yes {q : Bool → Hp → Prop} (k : q true H) : tYes σ H q := k
theorem w_chain {R R' : R2} {ta tb tc : TE} (k : ta σ H fun x H1 => tb σ H1 fun y H2 => R x y H2 fun z H3 => ∃ k, z = .bl k ∧ (if k = true then tc σ H3 fun w' H4 => R' y w' H4 Qe else Qe (.bl false) H3)) : tChain R R' ta tb tc σ H Qe := k
theorem w_I0 {g : Int → Int → V} {i j : Int} (k : Qe (g i j) H) : rI0 g (.int i) (.int j) H Qe := ⟨i, j, rfl, rfl, k⟩
theorem w_I {C : Int → Int → Prop} {g : Int → Int → V} {i j : Int} (h : C i j) (k : Qe (g i j) H) : rI C g (.int i) (.int j) H Qe := ⟨i, j, rfl, rfl, h, k⟩
theorem w_eqI {i j : Int} (k : Qe (.bl (decide (i = j))) H) : rEq (.int i) (.int j) H Qe := ⟨rfl, by rw [show decide (V.int i = V.int j) = decide (i = j) from by simp]; exact k⟩
theorem w_neI {i j : Int} (k : Qe (.bl (!decide (i = j))) H) : rNe (.int i) (.int j) H Qe := ⟨rfl, by rw [show decide (V.int i = V.int j) = decide (i = j) from by simp]; exact k⟩
theorem w_eqB {i j : Bool} (k : Qe (.bl (i == j)) H) : rEq (.bl i) (.bl j) H Qe := ⟨rfl, by rw [show decide (V.bl i = V.bl j) = (i == j) from by cases i <;> cases j <;> decide]; exact k⟩
theorem w_neB {i j : Bool} (k : Qe (.bl (i != j)) H) : rNe (.bl i) (.bl j) H Qe := ⟨rfl, by rw [show (!decide (V.bl i = V.bl j)) = (i != j) from by cases i <;> cases j <;> decide]; exact k⟩
theorem w_fld {K : W.Frag} {ta : TE} {f : Str} (k : ta σ H fun x H1 => ∃ a C dx fs v, x = .ref a ∧ H1 a = some (.ins C dx fs) ∧ Cls K C ∧ NoAttr K C f ∧ fs.lookup f = some v ∧ Qe v H1) : tFld K ta f σ H Qe := k
theorem w_rng {ta : TA} {R : It → Hp → Prop} (k : ta σ H fun vs H1 => ∃ j, vs = [V.int j] ∧ -2 ^ 62 ≤ j ∧ j < 2 ^ 62 ∧ R (Itr 0 j.toNat) H1) : iRng1 ta σ H R := k
theorem w_lst {t : TA} (k : t σ H fun xs H1 => xs.length ≤ sizeLine ∧ ∀ p, H1 p = none → Qe (.ref p) (upd H1 p (.lst xs))) : tLst t σ H Qe := k
theorem w_tup {t : TA} (k : t σ H fun xs H1 => xs.length ≤ sizeLine ∧ ∀ p, H1 p = none → Qe (.ref p) (upd H1 p (.tup xs))) : tTup t σ H Qe := k
theorem w_ixl {K : W.Frag} {p : Addr} {xs : List V} {i : Int} {v : V} (h : SqL K H p xs) (e : atI xs i = some v) (k : Qe v H) : rIx K (.ref p) (.int i) H Qe := .inl ⟨p, xs, i, v, rfl, rfl, h, e, k⟩
theorem w_ixt {K : W.Frag} {p : Addr} {xs : List V} {i : Int} {v : V} (h : SqT K H p xs) (e : atI xs i = some v) (k : Qe v H) : rIx K (.ref p) (.int i) H Qe := .inr (.inl ⟨p, xs, i, v, rfl, rfl, h, e, k⟩)
theorem w_1 {f : V → Hp → VK → XK → Prop} {a : V} {E : XK} (k : f a H Qe E) : sp1 f ([a] ++ []) H Qe E := ⟨a, rfl, k⟩
theorem w_2 {f : V → V → Hp → VK → XK → Prop} {a b : V} {E : XK} (k : f a b H Qe E) : sp2 f ([a, b] ++ []) H Qe E := ⟨a, b, rfl, k⟩
theorem w_3 {f : V → V → V → Hp → VK → XK → Prop} {a b c : V} {E : XK} (k : f a b c H Qe E) : sp3 f ([a, b, c] ++ []) H Qe E := ⟨a, b, c, rfl, k⟩
theorem w_4 {f : V → V → V → V → Hp → VK → XK → Prop} {a b c d : V} {E : XK} (k : f a b c d H Qe E) : sp4 f ([a, b, c, d] ++ []) H Qe E := ⟨a, b, c, d, rfl, k⟩
theorem w_5 {f : V → V → V → V → V → Hp → VK → XK → Prop} {a b c d e : V} {E : XK} (k : f a b c d e H Qe E) : sp5 f ([a, b, c, d, e] ++ []) H Qe E := ⟨a, b, c, d, e, rfl, k⟩
end
end Q
set_option Elab.async false
set_option linter.all false
set_option maxRecDepth 100000
set_option maxHeartbeats 1000000
namespace Q
open PySem PySem.Spec PyProof.Rows L2
section
variable {J : It} {n : Nat} {G : Hp → Prop} {Y : Nat → Hp → V → Hp → Prop} {g : TG} {tt : TT} {te : TE} {vs : List Nat} {σ : L2.St} {H1 : Hp} {Qe : VK}
theorem rmap_succ {α : Type} (f : Nat → α) (i : Nat) : (List.range (i + 1)).map f = (List.range i).map f ++ [f i] := by rw [List.range_succ, List.map_append]; rfl
theorem rfil_succ {α : Type} (p : Nat → Bool) (f : Nat → α) (i : Nat) : ((List.range (i + 1)).filter p).map f = ((List.range i).filter p).map f ++ (if p i = true then [f i] else []) := by
  rw [List.range_succ, List.filter_append, List.map_append]
  congr 1
  cases h : p i <;> simp [h]
abbrev LcGoal (J : It) (g : TG) (tt : TT) (te : TE) (vs : List Nat) (σ : L2.St) (H1 : Hp) (D : Addr) (Qe : VK) : Prop :=
  ∃ W : Nat → Nat → Hp → Prop, (∃ m, W 0 m (upd H1 D (HO.lst []))) ∧ ∀ (i m : Nat) (H : Hp), W i m H → J.stop i H ∧ Qe (V.ref D) H ∨ J.go i H ∧ ∃ Nx : Hp → Prop, (∀ (H' : Hp), Nx H' → ∃ m', m' < m ∧ W (i + 1) m' H') ∧
    ∀ (x : V) (H' : Hp), J.yld i H x H' → g x (wipe σ vs) H' fun σ2 H2 => wipe σ2 vs = wipe σ vs ∧ tt σ2 H2 fun b H3 => if b = true then te σ2 H3 fun y H4 => ∃ acc, H4 D = some (HO.lst acc) ∧ acc.length < sizeLine ∧ Nx (upd H4 D (HO.lst (acc ++ [y]))) else Nx H3
/-- [f(i) for .. if p(i)], the heap only grows -/
theorem lc_fil (w : Walk J n G Y) (p : Nat → Bool) (f : Nat → V) {D : Addr} (hD : H1 D = none) (hn : n < sizeLine) (hG : ∀ H, XT H1 H → G H)
    (hs : ∀ (i : Nat) (x : V) (H H' : Hp), i < n → XT H1 H → Y i H x H' → ∀ (K1 : V → Hp → Prop) (K0 : Hp → Prop), (p i = true → ∀ H4, XT H H4 → K1 (f i) H4) → (p i = false → ∀ H4, XT H H4 → K0 H4) →
      g x (wipe σ vs) H' fun σ2 H2 => wipe σ2 vs = wipe σ vs ∧ tt σ2 H2 fun b H3 => if b = true then te σ2 H3 K1 else K0 H3)
    (hd : ∀ H, XT H1 H → H D = some (.lst (((List.range n).filter p).map f)) → Qe (.ref D) H) : LcGoal J g tt te vs σ H1 D Qe := by
  refine lc_it w (fun i H => XT H1 H ∧ H D = some (.lst (((List.range i).filter p).map f))) ⟨XT.new hD, upd_same⟩ (fun i H _ h => hG H h.1) (fun i x H H' hi ⟨h1, h2⟩ hy => ?_) fun H h => hd H h.1 h.2
  refine hs i x H H' hi h1 hy _ _ (fun hp H4 h4 => ?_) (fun hp H4 h4 => ?_)
  · refine ⟨_, h4.lst h2, ?_, (h1.trans h4).put hD (.inr ⟨_, h4.lst h2, fun t z => by cases z⟩), ?_⟩
    · rw [List.length_map]
      exact Nat.lt_of_le_of_lt (Nat.le_trans (List.length_filter_le _ _) (by rw [List.length_range]; exact Nat.le_of_lt hi)) hn
    · rw [upd_same, rfil_succ, if_pos hp]
  · exact ⟨h1.trans h4, by rw [rfil_succ, hp, h4.lst h2]; simp⟩
/-- [f(i) for ..] -/
theorem lc_map (w : Walk J n G Y) (f : Nat → V) {D : Addr} (hD : H1 D = none) (hn : n < sizeLine) (hG : ∀ H, XT H1 H → G H)
    (hs : ∀ (i : Nat) (x : V) (H H' : Hp), i < n → XT H1 H → Y i H x H' → ∀ (K1 : V → Hp → Prop), (∀ H4, XT H H4 → K1 (f i) H4) → g x (wipe σ vs) H' fun σ2 H2 => wipe σ2 vs = wipe σ vs ∧ te σ2 H2 K1)
    (hd : ∀ H, XT H1 H → H D = some (.lst ((List.range n).map f)) → Qe (.ref D) H) : LcGoal J g tYes te vs σ H1 D Qe := by
  refine lc_it w (fun i H => XT H1 H ∧ H D = some (.lst ((List.range i).map f))) ⟨XT.new hD, upd_same⟩ (fun i H _ h => hG H h.1) (fun i x H H' hi ⟨h1, h2⟩ hy => ?_) fun H h => hd H h.1 h.2
  refine hs i x H H' hi h1 hy _ (fun H4 h4 => ?_)
  refine ⟨_, h4.lst h2, ?_, (h1.trans h4).put hD (.inr ⟨_, h4.lst h2, fun t z => by cases z⟩), ?_⟩
  · rw [List.length_map, List.length_range]; omega
  · rw [upd_same, rmap_succ]
/-- [.. for ..] whose elements are drawn: the state at s changes -/
theorem lc_drawn {s : Addr} {I : Hp → Prop} {R : V → Prop} (w : Walk J n G Y) {D : Addr} (hD : H1 D = none) (hn : n < sizeLine) (hG : ∀ H, XS s H1 H → I H → G H) (hDs : D ≠ s)
    (hI : ∀ H o, I H → I (upd H D o)) (h0 : I H1)
    (hs : ∀ (i : Nat) (x : V) (H H' : Hp), i < n → XS s H1 H → I H → Y i H x H' → ∀ (K1 : V → Hp → Prop), (∀ v H4, R v → XS s H H4 → I H4 → K1 v H4) → g x (wipe σ vs) H' fun σ2 H2 => wipe σ2 vs = wipe σ vs ∧ te σ2 H2 K1)
    (hd : ∀ H l, XS s H1 H → I H → l.length = n → (∀ v ∈ l, R v) → H D = some (.lst l) → Qe (.ref D) H) : LcGoal J g tYes te vs σ H1 D Qe := by
  refine lc_it w (fun i H => XS s H1 H ∧ I H ∧ ∃ l, l.length = i ∧ (∀ v ∈ l, R v) ∧ H D = some (.lst l)) ⟨XS.rfl'.add hD, hI _ _ h0, [], rfl, fun v h => (by cases h), upd_same⟩ (fun i H _ h => hG H h.1 h.2.1) (fun i x H H' hi ⟨h1, h2, l, e, r, h3⟩ hy => ?_) fun H ⟨h1, h2, l, e, r, h3⟩ => hd H l h1 h2 e r h3
  refine hs i x H H' hi h1 h2 hy _ (fun v H4 hv h4 i4 => ?_)
  have h5 := h4.lst hDs h3
  refine ⟨_, h5, by omega, (h1.trans h4).put (.inl hD) (.inr ⟨_, h5, fun t z => by cases z⟩), hI _ _ i4, l ++ [v], by rw [List.length_append, e]; rfl, fun u hu => ?_, upd_same⟩
  rcases List.mem_append.mp hu with hu | hu
  · exact r u hu
  · rw [List.mem_singleton.mp hu]; exact hv
/-! generator expressions -/
variable {con : Gx.Con} {fin : Gx.Fin1} {P : Addr}
theorem gx_it (w : Walk J n G Y) (Pv : Nat → List V → Hp → Prop) {H2 : Hp} (h0 : Pv 0 [] H2) (hG : ∀ i acc H, i ≤ n → Pv i acc H → G H)
    (hs : ∀ (i : Nat) (acc : List V) (x : V) (H H' : Hp), i < n → Pv i acc H → Y i H x H' → g x (wipe σ vs) H' fun σ2 H2 => wipe σ2 vs = wipe σ vs ∧ tt σ2 H2 fun b H3 => if b = true then te σ2 H3 fun y H4 => con acc y H4 (Pv (i + 1)) Qe else Pv (i + 1) acc H3)
    (hd : ∀ acc H, Pv n acc H → fin acc H Qe) (mono : ∀ acc y H (N N' : List V → Hp → Prop), (∀ a H, N a H → N' a H) → con acc y H N Qe → con acc y H N' Qe) : ∃ W m0, W 0 m0 [] H2 ∧ Gx.Turns J g tt te vs σ con fin Qe W := by
  refine ⟨fun i m acc H => i ≤ n ∧ m = n - i ∧ Pv i acc H, n, ⟨Nat.zero_le _, rfl, h0⟩, fun i m acc H ⟨hi, hm, h⟩ => ?_⟩
  by_cases c : i = n
  · subst c
    exact .inl ⟨w.stops H (hG _ _ _ (Nat.le_refl _) h), hd _ _ h⟩
  · have hlt : i < n := by omega
    refine .inr ⟨w.goes i H hlt (hG _ _ _ hi h), Pv (i + 1), fun acc' H' h' => ⟨n - (i + 1), by omega, by omega, rfl, h'⟩, fun x H' hy => ?_⟩
    exact hs i acc x H H' hlt h (w.yields i H x H' hlt (hG _ _ _ hi h) hy)
theorem gx_all (w : Walk J n G Y) (p : Nat → Bool) (ht : GxR.TabG H1 P) (hG : ∀ H, XT H1 H → G H)
    (hs : ∀ (i : Nat) (x : V) (H H' : Hp), i < n → XT H1 H → Y i H x H' → ∀ (K1 : V → Hp → Prop), (∀ H4, XT H H4 → K1 (.bl (p i)) H4) → g x (wipe σ vs) H' fun σ2 H2 => wipe σ2 vs = wipe σ vs ∧ te σ2 H2 K1)
    (hd : ∀ H, XT H1 H → Qe (.bl ((List.range n).all p)) H) :
    GxR.TabG H1 P ∧ ∀ H2, GxR.Tabbed P H1 H2 → ∃ W m0, W 0 m0 [] H2 ∧ Gx.Turns J g tYes te vs σ Gx.conAll Gx.finAll Qe W := by
  refine ⟨ht, fun H2 h2 => gx_it w (fun i acc H => XT H1 H ∧ (List.range i).all p = true) ⟨XT.tbd ht h2, rfl⟩ (fun i acc H _ h => hG H h.1) (fun i acc x H H' hi ⟨h1, hp⟩ hy => ?_) (fun acc H ⟨h1, hp⟩ => by have := hd H h1; rw [hp] at this; exact this) fun acc y H N N' hN ⟨c, e, k⟩ => ⟨c, e, ?_⟩⟩
  · refine hs i x H H' hi h1 hy _ fun H4 h4 => ⟨p i, rfl, ?_⟩
    cases e : p i with
    | true =>
      rw [if_pos rfl]
      refine ⟨h1.trans h4, ?_⟩
      rw [List.range_succ, List.all_append, hp, Bool.true_and]
      simp [e]
    | false =>
      rw [if_neg (by decide)]
      have := hd H4 (h1.trans h4)
      rw [show (List.range n).all p = false from by
        rw [List.all_eq_false]
        exact ⟨i, List.mem_range.mpr hi, by rw [e]; decide⟩] at this
      exact this
  · cases c with
    | true => rw [if_pos rfl] at k ⊢; exact hN _ _ k
    | false => rw [if_neg (by decide)] at k ⊢; exact k
theorem sumV_map (f : Nat → Int) : ∀ n, Gx.sumV ((List.range n).map fun i => V.int (f i)) = ((List.range n).map f).sum
  | 0 => rfl
  | n + 1 => by
    rw [rmap_succ, Gx.sumV_app, sumV_map f n, rmap_succ, List.sum_append]
    simp
theorem sum_bound (f : Nat → Int) (B : Int) : ∀ n, (∀ i, i < n → -B ≤ f i ∧ f i ≤ B) → -(n * B) ≤ ((List.range n).map f).sum ∧ ((List.range n).map f).sum ≤ n * B
  | 0, _ => by simp
  | n + 1, h => by
    have a := sum_bound f B n fun i hi => h i (by omega)
    have b := h n (by omega)
    rw [rmap_succ, List.sum_append]
    have e : ((n + 1 : Nat) : Int) * B = n * B + B := by rw [Int.natCast_add, Int.add_mul]; simp
    rw [e]
    simp
    omega
theorem gx_sum (w : Walk J n G Y) (f : Nat → Int) (B : Int) (hB : ∀ i, i < n → -B ≤ f i ∧ f i ≤ B) (hB0 : 0 ≤ B) (hBn : (n : Int) * B + B < 2 ^ 63) (ht : GxR.TabG H1 P) (hG : ∀ H, XT H1 H → G H)
    (hs : ∀ (i : Nat) (x : V) (H H' : Hp), i < n → XT H1 H → Y i H x H' → ∀ (K1 : V → Hp → Prop), (∀ H4, XT H H4 → K1 (.int (f i)) H4) → g x (wipe σ vs) H' fun σ2 H2 => wipe σ2 vs = wipe σ vs ∧ te σ2 H2 K1)
    (hd : ∀ H, XT H1 H → Qe (.int ((List.range n).map f).sum) H) :
    GxR.TabG H1 P ∧ ∀ H2, GxR.Tabbed P H1 H2 → ∃ W m0, W 0 m0 [] H2 ∧ Gx.Turns J g tYes te vs σ Gx.conSum Gx.finSum Qe W := by
  refine ⟨ht, fun H2 h2 => gx_it w (fun i acc H => XT H1 H ∧ acc = (List.range i).map fun i => V.int (f i)) ⟨XT.tbd ht h2, rfl⟩ (fun i acc H _ h => hG H h.1) (fun i acc x H H' hi ⟨h1, ha⟩ hy => ?_) (fun acc H ⟨h1, ha⟩ => by subst ha; have := hd H h1; rw [← sumV_map] at this; exact this) fun acc y H N N' hN ⟨k, e, a, b, k'⟩ => ⟨k, e, a, b, hN _ _ k'⟩⟩
  refine hs i x H H' hi h1 hy _ fun H4 h4 => ?_
  have b1 := hB i hi
  have b2 := sum_bound f B i fun j hj => hB j (by omega)
  have b3 : (i : Int) * B ≤ (n : Int) * B := Int.mul_le_mul_of_nonneg_right (by omega) hB0
  have b4 : 0 ≤ (i : Int) * B := Int.mul_nonneg (by omega) hB0
  refine ⟨_, rfl, ⟨by omega, by omega⟩, ?_, h1.trans h4, ?_⟩
  · rw [ha, sumV_map]; omega
  · rw [ha, rmap_succ]
theorem maxV_map (f : Nat → Int) : ∀ n, (∃ i, i < n + 1 ∧ f i = Gx.maxV ((List.range (n + 1)).map fun i => V.int (f i))) ∧ ∀ i, i < n + 1 → f i ≤ Gx.maxV ((List.range (n + 1)).map fun i => V.int (f i))
  | 0 => ⟨⟨0, by omega, rfl⟩, fun i hi => by have : i = 0 := by omega
                                             subst this; exact Int.le_refl _⟩
  | n + 1 => by
    obtain ⟨⟨j, hj, ej⟩, h⟩ := maxV_map f n
    have e : Gx.maxV ((List.range (n + 1 + 1)).map fun i => V.int (f i)) = if f (n + 1) > Gx.maxV ((List.range (n + 1)).map fun i => V.int (f i)) then f (n + 1) else Gx.maxV ((List.range (n + 1)).map fun i => V.int (f i)) := by
      rw [rmap_succ (fun i => V.int (f i)) (n + 1)]
      have : ∃ x r, (List.range (n + 1)).map (fun i => V.int (f i)) = x :: r := by rw [List.range_succ_eq_map]; exact ⟨_, _, rfl⟩
      obtain ⟨x, r, e⟩ := this
      rw [e]
      exact Gx.maxV_app _ _ _
    rw [e]
    by_cases c : f (n + 1) > Gx.maxV ((List.range (n + 1)).map fun i => V.int (f i))
    · rw [if_pos c]
      refine ⟨⟨n + 1, by omega, rfl⟩, fun i hi => ?_⟩
      by_cases ci : i = n + 1
      · subst ci; exact Int.le_refl _
      · have := h i (by omega); omega
    · rw [if_neg c]
      refine ⟨⟨j, by omega, ej⟩, fun i hi => ?_⟩
      by_cases ci : i = n + 1
      · subst ci; omega
      · exact h i (by omega)
theorem gx_max (w : Walk J n G Y) (f : Nat → Int) (hn : 0 < n) (ht : GxR.TabG H1 P) (hG : ∀ H, XT H1 H → G H)
    (hs : ∀ (i : Nat) (x : V) (H H' : Hp), i < n → XT H1 H → Y i H x H' → ∀ (K1 : V → Hp → Prop), (∀ H4, XT H H4 → K1 (.int (f i)) H4) → g x (wipe σ vs) H' fun σ2 H2 => wipe σ2 vs = wipe σ vs ∧ te σ2 H2 K1)
    (hd : ∀ H m, XT H1 H → (∃ i, i < n ∧ f i = m) → (∀ i, i < n → f i ≤ m) → Qe (.int m) H) :
    GxR.TabG H1 P ∧ ∀ H2, GxR.Tabbed P H1 H2 → ∃ W m0, W 0 m0 [] H2 ∧ Gx.Turns J g tYes te vs σ Gx.conMax Gx.finMax Qe W := by
  refine ⟨ht, fun H2 h2 => gx_it w (fun i acc H => XT H1 H ∧ acc = (List.range i).map fun i => V.int (f i)) ⟨XT.tbd ht h2, rfl⟩ (fun i acc H _ h => hG H h.1) (fun i acc x H H' hi ⟨h1, ha⟩ hy => ?_) (fun acc H ⟨h1, ha⟩ => ?_) fun acc y H N N' hN ⟨k, e, k'⟩ => ⟨k, e, hN _ _ k'⟩⟩
  · refine hs i x H H' hi h1 hy _ fun H4 h4 => ?_
    exact ⟨_, rfl, h1.trans h4, by rw [ha, rmap_succ]⟩
  · subst ha
    obtain ⟨k, rfl⟩ : ∃ k, n = k + 1 := ⟨n - 1, by omega⟩
    have m := maxV_map f k
    refine ⟨?_, hd H _ h1 m.1 m.2⟩
    rw [List.range_succ_eq_map]
    exact fun z => by cases z
/-- item by item -/
inductive A2 (R : Nat → V → Prop) : List Nat → List V → Prop
  | nil : A2 R [] []
  | cons {i v is vs} : R i v → A2 R is vs → A2 R (i :: is) (v :: vs)
theorem A2.snoc {R : Nat → V → Prop} {is vs} (h : A2 R is vs) {i v} (r : R i v) : A2 R (is ++ [i]) (vs ++ [v]) := by
  induction h with
  | nil => exact .cons r .nil
  | cons a _ ih => exact .cons a ih
theorem A2.imp {R R' : Nat → V → Prop} {is vs} (h : A2 R is vs) (f : ∀ i v, R i v → R' i v) : A2 R' is vs := by
  induction h with
  | nil => exact .nil
  | cons a _ ih => exact .cons (f _ _ a) ih
theorem A2.len {R : Nat → V → Prop} {is vs} (h : A2 R is vs) : is.length = vs.length := by
  induction h with
  | nil => rfl
  | cons a _ ih => simp [ih]
theorem A2.get {R : Nat → V → Prop} {is vs} (h : A2 R is vs) : ∀ {k i : Nat}, is[k]? = some i → ∃ v, vs[k]? = some v ∧ R i v := by
  induction h with
  | nil => intro k i e; simp at e
  | cons a _ ih =>
    intro k i e
    cases k with
    | zero => simp at e; subst e; exact ⟨_, rfl, a⟩
    | succ k => simp at e; obtain ⟨v, e2, r⟩ := ih e; exact ⟨v, by simpa using e2, r⟩
theorem A2.mem {R : Nat → V → Prop} {is vs} (h : A2 R is vs) : ∀ v ∈ vs, ∃ i ∈ is, R i v := by
  induction h with
  | nil => intro v hv; cases hv
  | cons a _ ih =>
    intro v hv
    rcases List.mem_cons.mp hv with e | hv
    · exact ⟨_, List.mem_cons_self, e ▸ a⟩
    · obtain ⟨i, hi, r⟩ := ih v hv; exact ⟨i, List.mem_cons_of_mem _ hi, r⟩
theorem fil_succ (p : Nat → Bool) (i : Nat) : (List.range (i + 1)).filter p = (List.range i).filter p ++ (if p i = true then [i] else []) := by
  rw [List.range_succ, List.filter_append]
  congr 1
  cases h : p i <;> simp [h]
/-- tuple(e for .. if p(i)), whose items are new objects -/
theorem gx_tupF (w : Walk J n G Y) (p : Nat → Bool) (R : Nat → V → Hp → Prop) (hR : ∀ i v H H', R i v H → XT H H' → R i v H') (hn : n < sizeLine) (ht : GxR.TabG H1 P) (hG : ∀ H, XT H1 H → G H)
    (hs : ∀ (i : Nat) (x : V) (H H' : Hp), i < n → XT H1 H → Y i H x H' → ∀ (K1 : V → Hp → Prop) (K0 : Hp → Prop), (p i = true → ∀ H4 v, XT H H4 → R i v H4 → K1 v H4) → (p i = false → ∀ H4, XT H H4 → K0 H4) →
      g x (wipe σ vs) H' fun σ2 H2 => wipe σ2 vs = wipe σ vs ∧ tt σ2 H2 fun b H3 => if b = true then te σ2 H3 K1 else K0 H3)
    (hd : ∀ H q l, XT H1 H → H q = some (.tup l) → A2 (fun i v => R i v H) ((List.range n).filter p) l → Qe (.ref q) H) :
    GxR.TabG H1 P ∧ ∀ H2, GxR.Tabbed P H1 H2 → ∃ W m0, W 0 m0 [] H2 ∧ Gx.Turns J g tt te vs σ Gx.conTup Gx.finTup Qe W := by
  have hl : ∀ {i l} {R : Nat → V → Prop}, i ≤ n → A2 R ((List.range i).filter p) l → l.length ≤ n := fun {i l R} hi h => by
    rw [← h.len]
    exact Nat.le_trans (List.length_filter_le _ _) (by rw [List.length_range]; exact hi)
  refine ⟨ht, fun H2 h2 => gx_it w (fun i acc H => i ≤ n ∧ XT H1 H ∧ A2 (fun i v => R i v H) ((List.range i).filter p) acc) ⟨Nat.zero_le _, XT.tbd ht h2, .nil⟩ (fun i acc H _ h => hG H h.2.1) (fun i acc x H H' hi ⟨_, h1, ha⟩ hy => ?_) (fun acc H ⟨_, h1, ha⟩ => ⟨Nat.le_of_lt (Nat.lt_of_le_of_lt (hl (Nat.le_refl _) ha) hn), fun q hq => hd _ q acc (h1.add hq) upd_same (ha.imp fun i v r => hR i v _ _ r (XT.new hq))⟩) fun acc y H N N' hN ⟨k, k'⟩ => ⟨k, hN _ _ k'⟩⟩
  refine hs i x H H' hi h1 hy _ _ (fun hp H4 v h4 r4 => ⟨Nat.lt_of_le_of_lt (hl (Nat.le_of_lt hi) ha) hn, hi, h1.trans h4, ?_⟩) fun hp H4 h4 => ⟨hi, h1.trans h4, ?_⟩
  · rw [fil_succ, if_pos hp]
    exact (ha.imp fun i v r => hR i v _ _ r h4).snoc r4
  · rw [fil_succ, hp]
    simp only [Bool.false_eq_true, if_false, List.append_nil]
    exact ha.imp fun i v r => hR i v _ _ r h4
/-- tuple(f(i) for ..) -/
theorem gx_tup (w : Walk J n G Y) (f : Nat → V) (hn : n < sizeLine) (ht : GxR.TabG H1 P) (hG : ∀ H, XT H1 H → G H)
    (hs : ∀ (i : Nat) (x : V) (H H' : Hp), i < n → XT H1 H → Y i H x H' → ∀ (K1 : V → Hp → Prop), (∀ H4, XT H H4 → K1 (f i) H4) → g x (wipe σ vs) H' fun σ2 H2 => wipe σ2 vs = wipe σ vs ∧ te σ2 H2 K1)
    (hd : ∀ H q, H1 q = none → XT H1 H → H q = some (.tup ((List.range n).map f)) → Qe (.ref q) H) :
    GxR.TabG H1 P ∧ ∀ H2, GxR.Tabbed P H1 H2 → ∃ W m0, W 0 m0 [] H2 ∧ Gx.Turns J g tYes te vs σ Gx.conTup Gx.finTup Qe W := by
  refine ⟨ht, fun H2 h2 => gx_it w (fun i acc H => XT H1 H ∧ acc = (List.range i).map f) ⟨XT.tbd ht h2, rfl⟩ (fun i acc H _ h => hG H h.1) (fun i acc x H H' hi ⟨h1, ha⟩ hy => ?_) (fun acc H ⟨h1, ha⟩ => ?_) fun acc y H N N' hN ⟨k, k'⟩ => ⟨k, hN _ _ k'⟩⟩
  · refine hs i x H H' hi h1 hy _ fun H4 h4 => ⟨?_, h1.trans h4, by rw [ha, rmap_succ]⟩
    rw [ha, List.length_map, List.length_range]; omega
  · subst ha
    exact ⟨by rw [List.length_map, List.length_range]; omega, fun q hq => hd _ q (h1.dom q hq) (h1.add hq) upd_same⟩
end
/-! rules with the written part named (inside comprehensions) -/
section
variable {X : Cx} {K : W.Frag}
theorem pg_tupK {pos : Pos} {es : List Expr} {k : Nat} {t : TGs} {n : Nat} (hc : X.calm = true) (h : PGs X es t) (hK : X.K = K := by rfl) (hl : (assignEach es X.env).length = n := by rfl) (hst : List.findIdx? (fun x => x.fst) (assignEach es X.env) = none := by rfl) : PG X (Expr.Tuple es k pos) (gTup K n t) := by
  subst hK; exact pg_tup hc h hl hst
theorem pe_fldK {e : Expr} {f : Str} {pos : Pos} {ta : TE} (h : PE X e ta) (hb : attributeBase e f X.env (eval e X.env) = eval e X.env) (hK : X.K = K := by rfl) : PE X (e.Attribute f pos) (tFld K ta f) := by
  subst hK; exact pe_fld h hb
theorem ix_seqK (hK : X.K = K := by rfl) : IxR X (rIx K) := by subst hK; exact ix_seq
theorem call_isiK (hK : X.K = K := by rfl) : CallR X (Value.builtin "isinstance") (rIsi K) := by subst hK; exact call_isi
theorem call_isiTK (hK : X.K = K := by rfl) : CallR X (Value.builtin "isinstance") (rIsiT K) := by subst hK; exact call_isiT
def rLn (K : W.Frag) : List V → Hp → VK → Prop := fun xs H Q => ∃ p ys, xs = [V.ref p] ∧ (SqL K H p ys ∨ SqT K H p ys) ∧ Q (V.int (ys.length : Nat)) H
theorem call_lenK (hK : X.K = K := by rfl) : CallR X (Value.builtin "len") (rLn K) := by subst hK; exact call_len_seq
def rLo (K : W.Frag) : List V → Hp → VK → Prop := fun xs H Q => ∃ p ys, xs = [V.ref p] ∧ (SqL K H p ys ∨ SqT K H p ys) ∧ ∀ (l : Addr), H l = none → Q (V.ref l) (upd H l (HO.lst ys))
theorem call_listK (hK : X.K = K := by rfl) : CallR X (Value.type "list") (rLo K) := by subst hK; exact call_list_of
def rTo (K : W.Frag) : List V → Hp → VK → Prop := fun xs H Q => ∃ p ys, xs = [V.ref p] ∧ ((SqL K H p ys ∧ ∀ (l : Addr), H l = none → Q (V.ref l) (upd H l (HO.tup ys))) ∨ SqT K H p ys ∧ Q (V.ref p) H)
theorem call_tupleK (hK : X.K = K := by rfl) : CallR X (Value.type "tuple") (rTo K) := by subst hK; exact call_tuple_of
def rInt : List V → Hp → VK → Prop := fun xs H Q => (∃ i, xs = [V.int i] ∧ Q (V.int i) H) ∨ ∃ k, xs = [V.bl k] ∧ Q (V.int (if k = true then 1 else 0)) H
theorem call_intN : CallR X (Value.type "int") rInt := call_int1
theorem w_int {H : Hp} {i : Int} {Qe : VK} (k : Qe (.int i) H) : rInt [.int i] H Qe := .inl ⟨i, rfl, k⟩
theorem w_intB {H : Hp} {b : Bool} {Qe : VK} (k : Qe (.int (if b = true then 1 else 0)) H) : rInt [.bl b] H Qe := .inr ⟨b, rfl, k⟩
def rAbs : List V → Hp → VK → Prop := fun xs H Q => ∃ i, xs = [V.int i] ∧ Q (V.int (if i < 0 then -i else i)) H
theorem call_absN : CallR X (Value.builtin "abs") rAbs := call_abs
theorem w_abs {H : Hp} {i : Int} {Qe : VK} (k : Qe (.int (if i < 0 then -i else i)) H) : rAbs [.int i] H Qe := ⟨i, rfl, k⟩
theorem cr_sumK (hc : X.calm = true) (hK : X.K = K := by rfl) : CallR X (Value.builtin "sum") (rSum K) := by subst hK; exact cr_sum hc
theorem cr_maxK (hc : X.calm = true) (hK : X.K = K := by rfl) : CallR X (Value.builtin "max") (rMax K) := by subst hK; exact cr_max hc
theorem sl_tupAK (hK : X.K = K := by rfl) : SlR X (rSlA K) := by subst hK; exact sl_tupA
theorem sl_listK (hK : X.K = K := by rfl) : SlR X (rSlL K) := by subst hK; exact sl_list
theorem op_eqDK (hu : X.A.units + 64 < cLine) (hK : X.K = K := by rfl) : OpR X (compareOp CmpOp.Eq) (rEqD K) := by subst hK; exact op_eqD hu
theorem op_neDK (hu : X.A.units + 64 < cLine) (hK : X.K = K := by rfl) : OpR X (compareOp CmpOp.NotEq) (rNeD K) := by subst hK; exact op_neD hu
theorem pi_tupK {tg l : Expr} {tl : TE} (h : PE X l tl) (hK : X.K = K := by rfl) : PI X tg l (iTup K tl) := by subst hK; exact pi_tup h
theorem pi_listK {tg l : Expr} {tl : TE} (h : PE X l tl) (hK : X.K = K := by rfl) : PI X tg l (iList K tl) := by subst hK; exact pi_list h
end
end Q
set_option Elab.async false
set_option linter.all false
set_option maxRecDepth 100000
set_option maxHeartbeats 1000000
namespace Q
open PySem PySem.Spec PyProof.Rows L2
/-! ### what the walk asks of the text's top -/
structure Tx (Z : Wd) (TC SC : Addr) : Prop where
  b_isinstance : Z.mg "isinstance" = none
  b_int : Z.mg "int" = none
  b_bool : Z.mg "bool" = none
  b_tuple : Z.mg "tuple" = none
  b_list : Z.mg "list" = none
  b_str : Z.mg "str" = none
  b_all : Z.mg "all" = none
  b_len : Z.mg "len" = none
  b_range : Z.mg "range" = none
  b_sum : Z.mg "sum" = none
  b_zip : Z.mg "zip" = none
  b_abs : Z.mg "abs" = none
  b_max : Z.mg "max" = none
  b_ValueError : Z.mg "ValueError" = none
  m_gcd : Z.mg "gcd" = some (.builtin "math.gcd")
  m_LONGEST : ∃ t, Z.mg "LONGEST" = some (.int 12 t)
  m_LARGEST : ∃ t, Z.mg "LARGEST" = some (.int 10 t)
  m_Table : Z.mg "Table" = some (.ref TC)
  m_Share : Z.mg "Share" = some (.ref SC)
  cT : Cls Z.K TC
  cS : Cls Z.K SC
  nTn : NoAttr Z.K TC "n"
  nTb : NoAttr Z.K TC "bits"
  nSo : NoAttr Z.K SC "over"
  nSu : NoAttr Z.K SC "under"
  iT : ∀ {H : Hp} {a dx : Addr} {fs : List (Str × V)}, H a = some (.ins TC dx fs) → TyX Z.K H (.ref a) (.ref TC)
  iS : ∀ {H : Hp} {a dx : Addr} {fs : List (Str × V)}, H a = some (.ins SC dx fs) → TyX Z.K H (.ref a) (.ref SC)
  kTT : W.kitOne Z.K (.ref TC) (.ref TC) = some true
  kSS : W.kitOne Z.K (.ref SC) (.ref SC) = some true
  kS : ∀ n ∈ ["NoneType", "bool", "int", "str", "list", "tuple"], W.kitOne Z.K (.type n) (.ref SC) = some false
theorem pe_gi {X : Cx} {x : Str} {i : Int} {pos : Pos} (hg : Gl X x) (hm : ∃ t, X.mg x = some (.int i t)) (hd : (x == Str.ofString "__debug__") = false := by rfl) : PE X (.Name x pos) (tC (.int i)) := by
  obtain ⟨t, h⟩ := hm
  exact pe_glob hg h ⟨t, rfl⟩ hd
/-! ### values -/
def Nice (H : Hp) : V → Prop
  | .non => True
  | .bl _ => True
  | .int _ => True
  | .str _ => True
  | .ref a => (∃ xs, H a = some (.lst xs)) ∨ ∃ xs, H a = some (.tup xs)
  | _ => False
def isI : V → Bool
  | .int _ => true
  | _ => false
def btw (v : V) (i j : Int) : Bool := match v with
  | .int k => decide (i ≤ k ∧ k ≤ j)
  | _ => false
theorem isi {K : W.Frag} {H : Hp} {Qe : VK} {x : V} {t : Value} {a : String} {z : Bool} (ty : TyX K H x t) (k : W.kitOne K t (.type a) = some z) (q : Qe (.bl z) H) : rIsi K [x, .ty a] H Qe :=
  ⟨x, _, t, _, z, rfl, .ty a, ty, k, q⟩
theorem isC {K : W.Frag} {H : Hp} {Qe : VK} {x : V} {t : Value} {C : Addr} {z : Bool} (ty : TyX K H x t) (k : W.kitOne K t (.ref C) = some z) (q : Qe (.bl z) H) : rIsi K [x, .ref C] H Qe :=
  ⟨x, _, t, _, z, rfl, .own C, ty, k, q⟩
local macro_rules | `(tactic| walk_at "st") => `(tactic| first
  | with_reducible refine w_seq ?_ | with_reducible refine w_next ?_ | with_reducible refine w_ret ?_ | with_reducible refine w_ifs ?_ | with_reducible refine w_asg ?_ | with_reducible refine w_drop ?_
  | with_reducible refine w_name (by simp only [List.set_cons_zero, List.set_cons_succ]; rfl) ?_
  | with_reducible refine w_var (by with_unfolding_all rfl) ?_
  | with_reducible refine w_c ?_ | with_reducible refine w_op ?_ | with_reducible refine w_un ?_ | with_reducible refine w_cons ?_ | with_reducible refine w_nil ?_ | with_reducible refine w_cb ?_ | with_reducible refine w_call ?_
  | with_reducible refine w_and ?_ | with_reducible refine w_or ?_ | with_reducible refine w_not ?_ | with_reducible refine w_tb ?_ | with_reducible refine w_tt ?_ | with_reducible refine w_bl ?_
  | with_reducible refine w_tand ?_ | with_reducible refine w_tor ?_ | with_reducible refine w_tnot ?_ | with_reducible refine w_yes ?_ | with_reducible refine w_chain ?_
  | with_reducible refine w_I0 ?_ | with_reducible refine w_eqI ?_ | with_reducible refine w_neI ?_ | with_reducible refine w_eqB ?_ | with_reducible refine w_neB ?_
  | with_reducible refine w_fl ?_ | with_reducible refine w_rng ?_ | with_reducible refine w_lst ?_ | with_reducible refine w_tup ?_
  | with_reducible refine w_sfld ?_ | with_reducible refine w_tmk ?_ | with_reducible refine w_gsub ?_ | with_reducible refine w_for ?_ | with_reducible refine w_tlc ?_ | with_reducible refine w_gx ?_ | with_reducible refine w_itup ?_ | with_reducible refine w_ilst ?_ | with_reducible refine w_izp ?_
  | with_reducible refine w_sl ?_ | with_reducible refine w_part ?_ | with_reducible refine w_pint ?_ | with_reducible refine w_nopart ?_
  | with_reducible refine w_rz ?_ | with_reducible refine w_callS ?_ | with_reducible refine w_callNS ?_ | with_reducible refine w_callD ?_ | with_reducible refine w_2d ?_ | with_reducible refine w_par ?_
  | with_reducible refine w_1 ?_ | with_reducible refine w_2 ?_ | with_reducible refine w_3 ?_ | with_reducible refine w_4 ?_ | with_reducible refine w_5 ?_)
section
variable {Z : Wd} {TC SC : Addr}
abbrev N_is_integer : List Str := ["value"]
theorem S_is_integer : FnScope N_is_integer ["value"] (defScope s_is_integer) := ⟨rfl, rfl, rfl, by decide +kernel, rfl, by decide +kernel, by decide +kernel⟩
theorem B_is_integer : Bnd "is_integer" "is_integer" s_is_integer ["value"] := fun _ _ _ _ _ _ us hl => match us, hl with | [_], _ => rfl
abbrev p_is_integer : Sp := sp1 fun a H Q _ => Nice H a ∧ Q (.bl (isI a)) H
theorem c_is_integer (T : Tx Z TC SC) (F : Fn Z "is_integer" "is_integer" s_is_integer) : Cl Z CX0 1 "is_integer" p_is_integer := by
  refine F.cl S_is_integer B_is_integer len1 fun f cdv A outer s H vs Q E hr h => ?_
  obtain ⟨a, rfl, hn, k⟩ := h
  refine ⟨_, (pss_one (ps_ret (pe_and (pe_callB (call_isiK (K := Z.K)) rfl T.b_isinstance (by decide +kernel) (pa_cons (pv 0) (pa_cons (pe_bltn rfl T.b_int (by decide +kernel) (show RelV (.ty "int") (.type "int") from rfl)) pa_nil))) (pe_one (pe_not (pe_callB (call_isiK (K := Z.K)) rfl T.b_isinstance (by decide +kernel) (pa_cons (pv 0) (pa_cons (pe_bltn rfl T.b_bool (by decide +kernel) (show RelV (.ty "bool") (.type "bool") from rfl)) pa_nil)))))))), ?_⟩
  show tRet _ _ [some a] H
  repeat walk_at "st"
  have key : ∀ (t : String) (z1 z2 : Bool), TyX Z.K H a (.type t) → kitB t "int" = some z1 → kitB t "bool" = some z2 → isI a = (z1 && !z2) → rIsi Z.K [a, .ty "int"] H fun x H1 => ∃ q, x = .bl q ∧ if q = true then tNotV (tCB (rIsi Z.K) (tCons (tVar 0) (tCons (tC (.ty "bool")) tNil))) [some a] H1 Q else Q (.bl false) H1 := by
    intro t z1 z2 ty k1 k2 e
    refine isi ty (kit_ty k1) ⟨z1, rfl, ?_⟩
    cases z1 with
    | false => rw [if_neg (by decide)]; rw [e] at k; exact k
    | true =>
      rw [if_pos rfl]
      repeat walk_at "st"
      refine isi ty (kit_ty k2) ⟨z2, rfl, ?_⟩
      rw [e] at k; exact k
  cases a with
  | non => exact key "NoneType" false false (.base .non) (by decide +kernel) (by decide +kernel) rfl
  | bl b => exact key "bool" true true (.base (.bl b)) (by decide +kernel) (by decide +kernel) rfl
  | int i => exact key "int" true false (.base (.int i)) (by decide +kernel) (by decide +kernel) rfl
  | str x => exact key "str" false false (.base (.str x)) (by decide +kernel) (by decide +kernel) rfl
  | ref p =>
    rcases hn with ⟨xs, e⟩ | ⟨xs, e⟩
    · exact key "list" false false (.base (.lst e)) (by decide +kernel) (by decide +kernel) rfl
    · exact key "tuple" false false (.base (.tup e)) (by decide +kernel) (by decide +kernel) rfl
  | byt _ => exact hn.elim
  | flt _ => exact hn.elim
  | ty _ => exact hn.elim
abbrev N_is_between : List Str := ["value", "low", "high"]
theorem S_is_between : FnScope N_is_between ["value", "low", "high"] (defScope s_is_between) := ⟨rfl, rfl, rfl, by decide +kernel, rfl, by decide +kernel, by decide +kernel⟩
theorem B_is_between : Bnd "is_between" "is_between" s_is_between ["value", "low", "high"] := fun _ _ _ _ _ _ us hl => match us, hl with | [_, _, _], _ => rfl
abbrev p_is_between : Sp := sp3 fun a l h H Q _ => ∃ i j, l = .int i ∧ h = .int j ∧ Nice H a ∧ Q (.bl (btw a i j)) H
theorem c_is_between (T : Tx Z TC SC) (F : Fn Z "is_between" "is_between" s_is_between) (c_is_integer : Cl Z CX0 1 "is_integer" p_is_integer) : Cl Z CX0 2 "is_between" p_is_between := by
  refine F.cl S_is_between B_is_between len3 fun f cdv A outer s H vs Q E hr h => ?_
  obtain ⟨a, _, _, rfl, i, j, rfl, rfl, hn, k⟩ := h
  refine ⟨_, (pss_one (ps_ret (pe_and (pe_cl c_is_integer (hr.mono (by decide)) rfl pass0 (pa_cons (pv 0) pa_nil)) (pe_one (pe_chain op_le op_le (pv 1) (pv 0) (pv 2)))))), ?_⟩
  show tRet _ _ [some a, some (.int i), some (.int j)] H
  repeat walk_at "st"
  refine ⟨hn, w_bl ?_⟩
  cases a with
  | int v =>
    refine iteT ?_
    repeat walk_at "st"
    by_cases c1 : i ≤ v
    · rw [decide_eq_true c1]
      refine iteT ?_
      repeat walk_at "st"
      by_cases c2 : v ≤ j
      · rw [decide_eq_true c2]; rw [show btw (.int v) i j = true from decide_eq_true ⟨c1, c2⟩] at k; exact k
      · rw [decide_eq_false c2]; rw [show btw (.int v) i j = false from decide_eq_false fun z => c2 z.2] at k; exact k
    · rw [decide_eq_false c1]
      refine iteF ?_
      rw [show btw (.int v) i j = false from decide_eq_false fun z => c1 z.1] at k; exact k
  | non => exact k
  | bl _ => exact k
  | str _ => exact k
  | ref _ => exact k
  | byt _ => exact hn.elim
  | flt _ => exact hn.elim
  | ty _ => exact hn.elim
abbrev N_is_bit : List Str := ["value"]
theorem S_is_bit : FnScope N_is_bit ["value"] (defScope s_is_bit) := ⟨rfl, rfl, rfl, by decide +kernel, rfl, by decide +kernel, by decide +kernel⟩
theorem B_is_bit : Bnd "is_bit" "is_bit" s_is_bit ["value"] := fun _ _ _ _ _ _ us hl => match us, hl with | [_], _ => rfl
abbrev p_is_bit : Sp := sp1 fun a H Q _ => Nice H a ∧ Q (.bl (btw a 0 1)) H
theorem c_is_bit (T : Tx Z TC SC) (F : Fn Z "is_bit" "is_bit" s_is_bit) (c_is_between : Cl Z CX0 2 "is_between" p_is_between) : Cl Z CX0 3 "is_bit" p_is_bit := by
  refine F.cl S_is_bit B_is_bit len1 fun f cdv A outer s H vs Q E hr h => ?_
  obtain ⟨a, rfl, hn, k⟩ := h
  refine ⟨_, (pss_one (ps_ret (pe_cl c_is_between (hr.mono (by decide)) rfl pass0 (pa_cons (pv 0) (pa_cons pe_int (pa_cons pe_int pa_nil)))))), ?_⟩
  show tRet _ _ [some a] H
  repeat walk_at "st"
  exact ⟨0, 1, rfl, rfl, hn, k⟩
theorem btw01 {i : Int} : btw (.int i) 0 1 = true ↔ i = 0 ∨ i = 1 := by
  show decide (0 ≤ i ∧ i ≤ 1) = true ↔ _
  rw [decide_eq_true_iff]; omega
abbrev N_is_bits : List Str := ["value", "one"]
theorem S_is_bits : FnScope N_is_bits ["value"] (defScope s_is_bits) := ⟨rfl, rfl, rfl, by decide +kernel, rfl, by decide +kernel, by decide +kernel⟩
theorem B_is_bits : Bnd "is_bits" "is_bits" s_is_bits ["value"] := fun _ _ _ _ _ _ us hl => match us, hl with | [_], _ => rfl
/-- a row of bits at p -/
abbrev Bts (H : Hp) (p : Addr) (l : List Int) : Prop := H p = some (.tup (l.map V.int)) ∧ ∀ x ∈ l, x = 0 ∨ x = 1
abbrev p_is_bits (TA : Addr) : Sp := sp1 fun a H Q _ => ∃ p l, a = .ref p ∧ Bts H p l ∧ GxR.TabG H TA ∧ ∀ H', XT H H' → Q (.bl true) H'
theorem all_range_true {n : Nat} {p : Nat → Bool} (h : ∀ i, i < n → p i = true) : (List.range n).all p = true := by
  rw [List.all_eq_true]
  exact fun i hi => h i (List.mem_range.mp hi)
theorem w_itup {K : W.Frag} {tl : TE} {σ : L2.St} {H : Hp} {R : It → Hp → Prop} (k : tl σ H fun x H1 => ∃ a, x = V.ref a ∧ (∃ xs, SqT K H1 a xs) ∧ R (Itt K a) H1) : iTup K tl σ H R := k
theorem w_ilst {K : W.Frag} {tl : TE} {σ : L2.St} {H : Hp} {R : It → Hp → Prop} (k : tl σ H fun x H1 => ∃ a, x = V.ref a ∧ (∃ xs, SqL K H1 a xs) ∧ R (Itl K a) H1) : iList K tl σ H R := k
theorem w_gx {P : Addr} {con : Gx.Con} {fin : Gx.Fin1} {wi : TI} {g : TG} {tt : TT} {te : TE} {vs : List Nat} {σ : L2.St} {H : Hp} {Q : VK} (k : wi σ H fun J H1 => GxR.TabG H1 P ∧ ∀ (H2 : Hp), GxR.Tabbed P H1 H2 → ∃ W m0, W 0 m0 [] H2 ∧ Gx.Turns J g tt te vs σ con fin Q W) : Gx.tGx P con fin wi g tt te vs σ H Q := k
theorem c_is_bits (T : Tx Z TC SC) {TA : Addr} (F : FnT Z "is_bits" "is_bits" s_is_bits TA) (c_is_bit : Cl Z CX0 3 "is_bit" p_is_bit) : Cl Z CX0 8 "is_bits" (p_is_bits TA) := by
  refine F.cl S_is_bits B_is_bits len1 fun f c A outer s H vs Q E TB hr h => ?_
  obtain ⟨_, rfl, p, l, rfl, ⟨hp, hl⟩, ht, k⟩ := h
  have nd := S_is_bits.nd
  refine ⟨_, (pss_one (ps_ret (pe_and (pe_callB (call_isiK (K := Z.K)) rfl T.b_isinstance (by decide +kernel) (pa_cons (pv 0) (pa_cons (pe_bltn rfl T.b_tuple (by decide +kernel) (show RelV (.ty "tuple") (.type "tuple") from rfl)) pa_nil))) (pe_one (Gx.pe_gxAll (k := 3) (own := [("one", 1)]) (hr.mono (by decide)) ⟨rfl, TB, rfl, ⟨rfl, by decide +kernel, by rfl⟩, blkOk_by (N := N_is_bits) (sc := defScope s_is_bits) (by decide +kernel), nd, (pi_tupK (K := Z.K) (pv 0)), (fun _ _ _ _ _ _ _ hr => (pg_name (i := 1) nd rfl (Or.inl rfl))), (fun _ _ _ _ _ _ _ hr => pts_nil), (fun _ _ _ _ _ _ _ hr => (pe_cl c_is_bit (hr.mono (by decide)) rfl pass0 (pa_cons (pv 1) pa_nil)))⟩ rfl T.b_all))))), ?_⟩
  show tRet _ _ [some (.ref p), none] H
  repeat walk_at "st"
  refine isi (.base (.tup hp)) (kit_ty (r := true) (by decide +kernel)) (w_bl ?_)
  refine iteT ?_
  refine w_gx (w_itup ?_)
  repeat walk_at "st"
  refine ⟨p, rfl, ⟨_, SqT.of hp⟩, ?_⟩
  refine gx_all (walk_tup (K := Z.K) (a := p) (xs := l.map V.int)) (fun i => btw ((l.map V.int).getD i .non) 0 1) ht (fun H1 x => SqT.of (x.tup hp)) (fun i x H1 H' hi x1 hy K1 hk => ?_) fun H1 x1 => ?_
  · obtain ⟨rfl, hx⟩ := hy
    show gName 1 x (wipe [some (.ref p), none] [1]) _ _
    refine w_name (σ' := [some (.ref p), some x]) rfl ⟨rfl, ?_⟩
    repeat walk_at "st"
    rw [List.getElem?_map] at hx
    obtain ⟨y, _, rfl⟩ := Option.map_eq_some_iff.mp hx
    refine ⟨trivial, ?_⟩
    have := hk _ XT.rfl'
    rw [List.getD_eq_getElem?_getD, List.getElem?_map, hx] at this
    exact this
  · rw [all_range_true]
    · exact k H1 x1
    · intro i hi
      rw [List.length_map] at hi
      rw [List.getD_eq_getElem?_getD, List.getElem?_map, List.getElem?_eq_getElem hi]
      exact btw01.mpr (hl _ (List.getElem_mem hi))
abbrev N_is_some_word : List Str := ["value"]
theorem S_is_some_word : FnScope N_is_some_word ["value"] (defScope s_is_some_word) := ⟨rfl, rfl, rfl, by decide +kernel, rfl, by decide +kernel, by decide +kernel⟩
theorem B_is_some_word : Bnd "is_some_word" "is_some_word" s_is_some_word ["value"] := fun _ _ _ _ _ _ us hl => match us, hl with | [_], _ => rfl
abbrev p_is_some_word (TA : Addr) : Sp := sp1 fun a H Q _ => ∃ p l, a = .ref p ∧ Bts H p l ∧ 1 ≤ l.length ∧ l.length ≤ 10 ∧ GxR.TabG H TA ∧ ∀ H', XT H H' → Q (.bl true) H'
theorem c_is_some_word (T : Tx Z TC SC) {TA : Addr} (F : Fn Z "is_some_word" "is_some_word" s_is_some_word) (c_is_bits : Cl Z CX0 8 "is_bits" (p_is_bits TA)) : Cl Z CX0 9 "is_some_word" (p_is_some_word TA) := by
  refine F.cl S_is_some_word B_is_some_word len1 fun f cdv A outer s H vs Q E hr h => ?_
  obtain ⟨_, rfl, p, l, rfl, hb, h1, h2, ht, k⟩ := h
  refine ⟨_, (pss_one (ps_ret (pe_and (pe_cl c_is_bits (hr.mono (by decide)) rfl pass0 (pa_cons (pv 0) pa_nil)) (pe_one (pe_chain op_le op_le pe_int (pe_callB (call_lenK (K := Z.K)) rfl T.b_len (by decide +kernel) (pa_cons (pv 0) pa_nil)) (pe_gi rfl T.m_LONGEST)))))), ?_⟩
  show tRet _ _ [some (.ref p)] H
  repeat walk_at "st"
  refine ⟨p, l, rfl, hb, ht, fun H' x => w_bl (iteT ?_)⟩
  repeat walk_at "st"
  refine ⟨p, _, rfl, .inr (SqT.of (x.tup hb.1)), ?_⟩
  repeat walk_at "st"
  rw [List.length_map, decide_eq_true (by omega)]
  refine iteT ?_
  repeat walk_at "st"
  rw [decide_eq_true (by omega)]
  exact k H' x
abbrev N_is_word : List Str := ["value", "n"]
theorem S_is_word : FnScope N_is_word ["value", "n"] (defScope s_is_word) := ⟨rfl, rfl, rfl, by decide +kernel, rfl, by decide +kernel, by decide +kernel⟩
theorem B_is_word : Bnd "is_word" "is_word" s_is_word ["value", "n"] := fun _ _ _ _ _ _ us hl => match us, hl with | [_, _], _ => rfl
abbrev p_is_word (TA : Addr) : Sp := sp2 fun a b H Q _ => ∃ p l, a = .ref p ∧ b = .int (l.length : Nat) ∧ Bts H p l ∧ 1 ≤ l.length ∧ l.length ≤ 10 ∧ GxR.TabG H TA ∧ ∀ H', XT H H' → Q (.bl true) H'
theorem c_is_word (T : Tx Z TC SC) {TA : Addr} (F : Fn Z "is_word" "is_word" s_is_word) (c_is_some_word : Cl Z CX0 9 "is_some_word" (p_is_some_word TA)) : Cl Z CX0 10 "is_word" (p_is_word TA) := by
  refine F.cl S_is_word B_is_word len2 fun f cdv A outer s H vs Q E hr h => ?_
  obtain ⟨_, _, rfl, p, l, rfl, rfl, hb, h1, h2, ht, k⟩ := h
  refine ⟨_, (pss_one (ps_ret (pe_and (pe_cl c_is_some_word (hr.mono (by decide)) rfl pass0 (pa_cons (pv 0) pa_nil)) (pe_one (pe_cmpR op_eq (pe_callB (call_lenK (K := Z.K)) rfl T.b_len (by decide +kernel) (pa_cons (pv 0) pa_nil)) (pv 1) (nomark _)))))), ?_⟩
  show tRet _ _ [some (.ref p), some (.int (l.length : Nat))] H
  repeat walk_at "st"
  refine ⟨p, l, rfl, hb, h1, h2, ht, fun H' x => w_bl (iteT ?_)⟩
  repeat walk_at "st"
  refine ⟨p, _, rfl, .inr (SqT.of (x.tup hb.1)), ?_⟩
  repeat walk_at "st"
  rw [List.length_map, decide_eq_true rfl]
  exact k H' x
end
end Q
set_option Elab.async false
set_option linter.all false
set_option maxRecDepth 100000
set_option maxHeartbeats 1000000
namespace Q
open PySem PySem.Spec PyProof.Rows L2
local macro_rules | `(tactic| walk_at "st") => `(tactic| first
  | with_reducible refine w_seq ?_ | with_reducible refine w_next ?_ | with_reducible refine w_ret ?_ | with_reducible refine w_ifs ?_ | with_reducible refine w_asg ?_ | with_reducible refine w_drop ?_
  | with_reducible refine w_name (by simp only [List.set_cons_zero, List.set_cons_succ]; rfl) ?_
  | with_reducible refine w_var (by with_unfolding_all rfl) ?_
  | with_reducible refine w_c ?_ | with_reducible refine w_op ?_ | with_reducible refine w_un ?_ | with_reducible refine w_cons ?_ | with_reducible refine w_nil ?_ | with_reducible refine w_cb ?_ | with_reducible refine w_call ?_
  | with_reducible refine w_and ?_ | with_reducible refine w_or ?_ | with_reducible refine w_not ?_ | with_reducible refine w_tb ?_ | with_reducible refine w_tt ?_ | with_reducible refine w_bl ?_
  | with_reducible refine w_tand ?_ | with_reducible refine w_tor ?_ | with_reducible refine w_tnot ?_ | with_reducible refine w_yes ?_ | with_reducible refine w_chain ?_
  | with_reducible refine w_I0 ?_ | with_reducible refine w_eqI ?_ | with_reducible refine w_neI ?_ | with_reducible refine w_eqB ?_ | with_reducible refine w_neB ?_
  | with_reducible refine w_fl ?_ | with_reducible refine w_rng ?_ | with_reducible refine w_lst ?_ | with_reducible refine w_tup ?_
  | with_reducible refine w_sfld ?_ | with_reducible refine w_tmk ?_ | with_reducible refine w_gsub ?_ | with_reducible refine w_for ?_ | with_reducible refine w_tlc ?_ | with_reducible refine w_gx ?_ | with_reducible refine w_itup ?_ | with_reducible refine w_ilst ?_ | with_reducible refine w_izp ?_
  | with_reducible refine w_sl ?_ | with_reducible refine w_part ?_ | with_reducible refine w_pint ?_ | with_reducible refine w_nopart ?_
  | with_reducible refine w_rz ?_ | with_reducible refine w_callS ?_ | with_reducible refine w_callNS ?_ | with_reducible refine w_callD ?_ | with_reducible refine w_2d ?_ | with_reducible refine w_par ?_
  | with_reducible refine w_1 ?_ | with_reducible refine w_2 ?_ | with_reducible refine w_3 ?_ | with_reducible refine w_4 ?_ | with_reducible refine w_5 ?_)
section
variable {σ : L2.St} {H : Hp} {nx bk ct : L2.St → Hp → Prop} {rt : VK}
abbrev ForGoal (J : It) (g : TG) (tb : TS) (nx : L2.St → Hp → Prop) (rt : VK) (σ : L2.St) (H : Hp) : Prop :=
  ∃ W : Nat → Nat → L2.St → Hp → Prop, (∃ m, W 0 m σ H) ∧ ∀ i m σ H, W i m σ H → (J.stop i H ∧ nx σ H) ∨ (J.go i H ∧ ∃ N : L2.St → Hp → Prop, (∀ σ' H', N σ' H' → ∃ m', m' < m ∧ W (i + 1) m' σ' H') ∧ ∀ x H', J.yld i H x H' → g x σ H' fun σ2 H2 => tb ⟨N, rt, nx, N⟩ σ2 H2)
theorem w_for {wi : TI} {g : TG} {tb : TS} (k : wi σ H fun J H1 => ForGoal J g tb nx rt σ H1) : tFor wi g tb ⟨nx, rt, bk, ct⟩ σ H := k
theorem for_lit {J : It} {n : Nat} {G : Hp → Prop} {Y : Nat → Hp → V → Hp → Prop} (w : Walk J n G Y) {g : TG} {tb : TS} (Pv : Nat → L2.St → Hp → Prop) (h0 : Pv 0 σ H) (hG : ∀ i σ H, i ≤ n → Pv i σ H → G H)
    (hs : ∀ i x σ H H', i < n → Pv i σ H → Y i H x H' → g x σ H' fun σ2 H2 => tb ⟨Pv (i + 1), rt, nx, Pv (i + 1)⟩ σ2 H2) (hd : ∀ σ H, Pv n σ H → nx σ H) : ForGoal J g tb nx rt σ H :=
  for_it w (D := ⟨nx, rt, fun _ _ => False, fun _ _ => False⟩) Pv h0 hG hs hd
theorem walk_zipT {K : W.Frag} {a b : Addr} {xs ys : List V} {n : Nat} (hn : n = min xs.length ys.length) : Walk (RZ.ItzT K a b) n (fun H => SqT K H a xs ∧ SqT K H b ys) (YPair (fun i => xs[i]?) (fun i => ys[i]?)) :=
  ⟨fun i H hi ⟨h1, h2⟩ => ⟨xs, ys, _, _, h1, h2, List.getElem?_eq_getElem (by omega), List.getElem?_eq_getElem (by omega)⟩,
   fun H ⟨h1, h2⟩ => ⟨xs, ys, h1, h2, by omega⟩,
   fun i H x H' hi ⟨h1, h2⟩ ⟨T, u, v, e, hT, e2, k1, k2⟩ => ⟨T, u, v, e, hT, e2, k1 _ h1, k2 _ h2⟩⟩
theorem w_pair {K : W.Frag} {i j : Nat} {T : Addr} {x y : V} {q : L2.St → Hp → Prop} {σ' : L2.St} (hT : H T = some (.tup [x, y])) (e : (σ.set i (some x)).set j (some y) = σ') (k : q σ' H) : gTup K 2 (gCons (gName i) (gCons (gName j) gNil)) (.ref T) σ H q :=
  ⟨T, [x, y], rfl, SqT.of hT, rfl, x, [y], rfl, y, [], rfl, by subst e; exact ⟨rfl, k⟩⟩
end
/-- the word of number a (n bits) stands at p -/
abbrev Wo (H : Hp) (p : Addr) (n a : Nat) : Prop := H p = some (.tup ((M.wd n a).map V.int))
theorem Wo.bts {H : Hp} {p : Addr} {n a : Nat} (h : Wo H p n a) : Bts H p (M.wd n a) := ⟨h, M.wd_01⟩
section
variable {Z : Wd} {TC SC : Addr}
abbrev N_word_at : List Str := ["n", "number", "place"]
theorem S_word_at : FnScope N_word_at ["n", "number"] (defScope s_word_at) := ⟨rfl, rfl, rfl, by decide +kernel, rfl, by decide +kernel, by decide +kernel⟩
theorem B_word_at : Bnd "word_at" "word_at" s_word_at ["n", "number"] := fun _ _ _ _ _ _ us hl => match us, hl with | [_, _], _ => rfl
abbrev p_word_at (TW : Addr) : Sp := sp2 fun a b H Q _ => ∃ n x : Nat, a = .int n ∧ b = .int x ∧ n ≤ 62 ∧ GxR.TabG H TW ∧ ∀ p H', H p = none → XT H H' → Wo H' p n x → Q (.ref p) H'
theorem c_word_at (T : Tx Z TC SC) {TW : Addr} (F : FnT Z "word_at" "word_at" s_word_at TW) : Cl Z CX0 5 "word_at" (p_word_at TW) := by
  refine F.cl S_word_at B_word_at len2 fun f c A outer s H vs Q E TB hr h => ?_
  obtain ⟨_, _, rfl, n, a, rfl, rfl, hn, ht, k⟩ := h
  have nd := S_word_at.nd
  refine ⟨_, (pss_one (ps_ret (Gx.pe_gxTup (k := 0) (own := [("place", 2)]) (hr.mono (by decide)) ⟨rfl, TB, rfl, ⟨rfl, by decide +kernel, by rfl⟩, blkOk_by (N := N_word_at) (sc := defScope s_word_at) (by decide +kernel), nd, (pi_range1 rfl T.b_range (pa_cons (pv 0) pa_nil)), (fun _ _ _ _ _ _ _ hr => (pg_name (i := 2) nd rfl (Or.inl rfl))), (fun _ _ _ _ _ _ _ hr => pts_nil), (fun _ _ _ _ _ _ _ hr => (pe_op op_and (pe_op op_shr (pv 1) (pe_op op_sub (pe_op op_sub (pv 0) pe_int) (pv 2))) pe_int))⟩ rfl T.b_tuple))), ?_⟩
  show tRet _ _ [some (.int n), some (.int a), none] H
  repeat walk_at "st"
  refine ⟨n, rfl, by omega, by omega, ?_⟩
  refine gx_tup walk_range (fun i => .int ((a / 2 ^ (n - 1 - i) % 2 : Nat) : Int)) (Nat.lt_of_le_of_lt (by omega : (n : Int).toNat ≤ 62) (by decide)) ht (fun _ _ => trivial) (fun i x H1 H' hi x1 hy K1 hk => ?_) fun H1 q hq x1 hh => ?_
  · obtain ⟨rfl, rfl⟩ := hy
    refine w_name (σ' := [some (.int n), some (.int a), some (.int (0 + (i : Int)))]) rfl ⟨rfl, ?_⟩
    repeat walk_at "st"
    refine w_I (by omega) ?_
    repeat walk_at "st"
    rw [PyProof.Rows.bitAnd_m1]
    have e : ((a : Int) / 2 ^ ((n : Int) - 1 - (0 + (i : Int))).toNat) % 2 = ((a / 2 ^ (n - 1 - i) % 2 : Nat) : Int) := by
      rw [show ((n : Int) - 1 - (0 + (i : Int))).toNat = n - 1 - i by omega]
      simp
    rw [e]
    exact hk _ XT.rfl'
  · refine k q H1 hq x1 ?_
    show H1 q = _
    rw [hh]
    simp only [M.wd, List.map_map, Int.toNat_natCast]
    rfl
abbrev N_bits_number : List Str := ["bits", "number", "bit"]
theorem S_bits_number : FnScope N_bits_number ["bits"] (defScope s_bits_number) := ⟨rfl, rfl, rfl, by decide +kernel, rfl, by decide +kernel, by decide +kernel⟩
theorem B_bits_number : Bnd "bits_number" "bits_number" s_bits_number ["bits"] := fun _ _ _ _ _ _ us hl => match us, hl with | [_], _ => rfl
abbrev p_bits_number : Sp := sp1 fun a H Q _ => ∃ p l, a = .ref p ∧ H p = some (.tup (l.map V.int)) ∧ Q (.int (M.num l)) H
theorem take_succ {l : List Int} {i : Nat} {y : Int} (h : l[i]? = some y) : l.take (i + 1) = l.take i ++ [y] := by
  rw [List.take_add_one, h]; rfl
theorem c_bits_number (F : Fn Z "bits_number" "bits_number" s_bits_number) : Cl Z CX0 1 "bits_number" p_bits_number := by
  refine F.cl S_bits_number B_bits_number len1 fun f cdv A outer s H vs Q E hr h => ?_
  obtain ⟨_, rfl, p, l, rfl, hp, k⟩ := h
  have nd := S_bits_number.nd
  refine ⟨_, (pss_cons (ps_set (i := 1) nd rfl (Or.inl rfl) pe_int)
  (pss_cons (ps_for PassesOwn.never rfl (pi_tupK (K := Z.K) (pv 0)) (pg_name (i := 2) nd rfl (Or.inl rfl))
  (pss_one (ps_set (i := 1) nd rfl (Or.inl rfl) (pe_op op_add (pe_op op_mul pe_int (pv 1)) (pv 2)))))
  (pss_one (ps_ret (pv 1))))), ?_⟩
  show tSeq _ _ _ [some (.ref p), none, none] H
  repeat walk_at "st"
  refine w_for (w_itup ?_)
  repeat walk_at "st"
  refine ⟨p, rfl, ⟨_, SqT.of hp⟩, for_lit (walk_tup (K := Z.K) (xs := l.map V.int)) (fun i σ H1 => H1 = H ∧ ∃ z, σ = [some (.ref p), some (.int (M.num (l.take i))), z]) ⟨rfl, none, rfl⟩ (fun i σ H1 _ h => by rw [h.1]; exact SqT.of hp) ?_ ?_⟩
  · rintro i x σ H1 H' hi ⟨rfl, z, rfl⟩ ⟨rfl, hx⟩
    rw [List.getElem?_map] at hx
    obtain ⟨y, hy, rfl⟩ := Option.map_eq_some_iff.mp hx
    refine w_name (σ' := [some (.ref p), some (.int (M.num (l.take i))), some (.int y)]) rfl ?_
    repeat walk_at "st"
    refine w_I (.inl (by decide)) ?_
    repeat walk_at "st"
    refine ⟨rfl, some (.int y), ?_⟩
    rw [take_succ hy, M.num_snoc]
  · rintro σ H1 ⟨rfl, z, rfl⟩
    repeat walk_at "st"
    rw [List.length_map, List.take_length]
    exact k
abbrev N_parity_of : List Str := ["one", "other", "first", "second"]
theorem S_parity_of : FnScope N_parity_of ["one", "other"] (defScope s_parity_of) := ⟨rfl, rfl, rfl, by decide +kernel, rfl, by decide +kernel, by decide +kernel⟩
theorem B_parity_of : Bnd "parity_of" "parity_of" s_parity_of ["one", "other"] := fun _ _ _ _ _ _ us hl => match us, hl with | [_, _], _ => rfl
abbrev p_parity_of (TP : Addr) : Sp := sp2 fun a b H Q _ => ∃ p q n x y, a = .ref p ∧ b = .ref q ∧ Wo H p n x ∧ Wo H q n y ∧ n ≤ 62 ∧ GxR.TabG H TP ∧ ∀ H', XT H H' → Q (.int (M.b2 (M.dot n x y))) H'
theorem and01 {x y : Nat} (hx : x < 2) (hy : y < 2) : Builtin.bitAnd (x : Int) (y : Int) = (x : Int) * y := by
  rcases (by omega : x = 0 ∨ x = 1) with rfl | rfl <;> rcases (by omega : y = 0 ∨ y = 1) with rfl | rfl <;> decide
theorem c_parity_of (T : Tx Z TC SC) {TP : Addr} (F : FnT Z "parity_of" "parity_of" s_parity_of TP) : Cl Z CX0 5 "parity_of" (p_parity_of TP) := by
  refine F.cl S_parity_of B_parity_of len2 fun f c A outer s H vs Q E TB hr h => ?_
  obtain ⟨_, _, rfl, p, q, n, x, y, rfl, rfl, hp, hq, hn, ht, k⟩ := h
  have nd := S_parity_of.nd
  refine ⟨_, (pss_one (ps_ret (pe_op op_modN (Gx.pe_gxSum (k := 0) (own := [("first", 2), ("second", 3)]) (hr.mono (by decide)) ⟨rfl, TB, rfl, ⟨rfl, by decide +kernel, by rfl⟩, blkOk_by (N := N_parity_of) (sc := defScope s_parity_of) (by decide +kernel), nd, (RZ.pi_zipA rfl T.b_zip (pa_cons (pv 0) (pa_cons (pv 1) pa_nil))), (fun _ _ _ _ _ _ _ hr => (pg_tupK (K := Z.K) (n := 2) rfl (pgs_cons (pg_name (i := 2) nd rfl (Or.inl rfl)) (pgs_cons (pg_name (i := 3) nd rfl (Or.inl rfl)) pgs_nil)))), (fun _ _ _ _ _ _ _ hr => pts_nil), (fun _ _ _ _ _ _ _ hr => (pe_op op_and (pv 2) (pv 3)))⟩ rfl T.b_sum) pe_int))), ?_⟩
  show tRet _ _ [some (.ref p), some (.ref q), none, none] H
  repeat walk_at "st"
  show RZ.iZipA _ _ _ _ _
  unfold RZ.iZipA
  repeat walk_at "st"
  refine ⟨p, q, _, _, rfl, .inr ⟨SqT.of hp, SqT.of hq, ?_⟩⟩
  have hlen : n = min ((M.wd n x).map V.int).length ((M.wd n y).map V.int).length := by simp [M.wd_len]
  refine gx_sum (walk_zipT (K := Z.K) (a := p) (b := q) hlen) (fun i => ((x / 2 ^ (n - 1 - i) % 2 : Nat) : Int) * ((y / 2 ^ (n - 1 - i) % 2 : Nat) : Int)) 1 (fun i hi => ?_) (by decide) (by omega) ht (fun H1 x1 => ⟨SqT.of (x1.tup hp), SqT.of (x1.tup hq)⟩) (fun i v H1 H' hi x1 hy K1 hk => ?_) fun H1 x1 => ?_
  · rcases (by omega : x / 2 ^ (n - 1 - i) % 2 = 0 ∨ x / 2 ^ (n - 1 - i) % 2 = 1) with h1 | h1 <;> rcases (by omega : y / 2 ^ (n - 1 - i) % 2 = 0 ∨ y / 2 ^ (n - 1 - i) % 2 = 1) with h2 | h2 <;> rw [h1, h2] <;> decide
  · obtain ⟨u, a, b, rfl, hu, rfl, ha, hb⟩ := hy
    have ha := (List.getElem?_map (f := V.int) (l := M.wd n x) (i := i)).symm.trans ha
    have hb := (List.getElem?_map (f := V.int) (l := M.wd n y) (i := i)).symm.trans hb
    rw [M.wd_get hi] at ha hb
    cases ha
    cases hb
    refine w_pair upd_same (σ' := [some (.ref p), some (.ref q), some (.int _), some (.int _)]) rfl ⟨rfl, ?_⟩
    repeat walk_at "st"
    rw [and01 (by omega) (by omega)]
    exact hk _ (XT.new hu)
  · repeat walk_at "st"
    refine w_I (by decide) ?_
    have e : ((List.range n).map fun i => ((x / 2 ^ (n - 1 - i) % 2 : Nat) : Int) * ((y / 2 ^ (n - 1 - i) % 2 : Nat) : Int)).sum.fmod 2 = M.b2 (M.dot n x y) := by
      rw [Int.fmod_eq_emod_of_nonneg _ (by decide)]
      exact M.dot_sum x y n
    rw [e]
    exact k H1 x1
end
end Q
set_option Elab.async false
set_option linter.all false
set_option maxRecDepth 100000
set_option maxHeartbeats 1000000
namespace Q
open PySem PySem.Spec PyProof.Rows L2
section
variable {σ : L2.St} {H : Hp} {Qe : VK} {n b c : L2.St → Hp → Prop} {r : VK}
def rFld (K : W.Frag) (f : Str) (x : V) (H : Hp) (Q : VK) : Prop := ∃ a C dx fs v, x = .ref a ∧ H a = some (.ins C dx fs) ∧ Cls K C ∧ NoAttr K C f ∧ fs.lookup f = some v ∧ Q v H
theorem w_fl {K : W.Frag} {ta : TE} {f : Str} (k : ta σ H fun x H1 => rFld K f x H1 Qe) : tFld K ta f σ H Qe := k
theorem w_sfld {K : W.Frag} {ta tv : TE} {f : Str} (k : tv σ H fun y H1 => ta σ H1 fun x H2 => ∃ a C dx fs, x = V.ref a ∧ H2 a = some (HO.ins C dx fs) ∧ Cls K C ∧ NoAttr K C f ∧ fs.length < 1000 ∧ n σ (upd H2 a (HO.ins C dx (putF f y fs)))) : sFld K ta tv f ⟨n, r, b, c⟩ σ H := k
def rMk (C : Addr) (sp : Sp) (E : XK) (vs : List V) (H1 : Hp) (Qe : VK) : Prop := ∀ (x dx : Addr), H1 x = none → H1 dx = none → dx ≠ x → sp (V.ref x :: (vs ++ [])) (upd (upd H1 dx (HO.own x)) x (HO.ins C dx [])) (fun v H2 => v = V.non ∧ Qe (V.ref x) H2) E
theorem w_tmk {C : Addr} {sp : Sp} {E : XK} {t : TA} (k : t σ H fun vs H1 => rMk C sp E vs H1 Qe) : tMake C sp [] E t σ H Qe := k
theorem w_gsub {to ti : TE} {t : TSet} {v : V} (k : to σ H fun o H1 => ti σ H1 fun i H2 => t o i v H2 fun H3 => n σ H3) : gSub to ti t v σ H n := k
theorem w_setl {p : Addr} {xs : List V} {i : Int} {j : Nat} {v : V} {q : Hp → Prop} (h : H p = some (.lst xs)) (e : ixN xs.length i = some j) (k : q (upd H p (.lst (xs.set j v)))) : rSetL (.ref p) (.int i) v H q := ⟨p, xs, i, j, rfl, rfl, h, e, k⟩
theorem ixN_nat {m i : Nat} (h : i < m) : ixN m (i : Int) = some i := by
  unfold ixN
  rw [if_pos (by omega), if_pos (by omega), Int.toNat_natCast]
theorem w_izp {K : W.Frag} {ta : TA} {R : It → Hp → Prop} (k : ta σ H fun vs H1 => ∃ a b xs ys, vs = [V.ref a, V.ref b] ∧ (SqL K H1 a xs ∧ SqL K H1 b ys ∧ R (Itz K a b) H1 ∨ SqT K H1 a xs ∧ SqT K H1 b ys ∧ R (RZ.ItzT K a b) H1)) : RZ.iZipA K ta σ H R := k
theorem w_sl {R : V → Option Int → Option Int → Hp → VK → Prop} {te : TE} {tl th : TO} (k : te σ H fun x H1 => tl σ H1 fun l H2 => th σ H2 fun u H3 => R x l u H3 Qe) : tSl R te tl th σ H Qe := k
theorem w_part {te : TE} {q : Option Int → Hp → Prop} (k : te σ H fun x H1 => ∃ i, x = V.int i ∧ q (some i) H1) : tPart te σ H q := k
theorem w_pint {i : Int} {q : Int → Prop} (k : q i) : ∃ j, V.int i = .int j ∧ q j := ⟨i, rfl, k⟩
theorem w_nopart {q : Option Int → Hp → Prop} (k : q none H) : tNoPart σ H q := k
theorem w_tlc {wi : TI} {g : TG} {tt : TT} {te : TE} {vs : List Nat} (k : wi σ H fun J H1 => ∀ D, H1 D = none → LcGoal J g tt te vs σ H1 D Qe) : tLc wi g tt te vs σ H Qe := k
end
local macro_rules | `(tactic| walk_at "st") => `(tactic| first
  | with_reducible refine w_seq ?_ | with_reducible refine w_next ?_ | with_reducible refine w_ret ?_ | with_reducible refine w_ifs ?_ | with_reducible refine w_asg ?_ | with_reducible refine w_drop ?_
  | with_reducible refine w_name (by simp only [List.set_cons_zero, List.set_cons_succ]; rfl) ?_
  | with_reducible refine w_var (by with_unfolding_all rfl) ?_
  | with_reducible refine w_c ?_ | with_reducible refine w_op ?_ | with_reducible refine w_un ?_ | with_reducible refine w_cons ?_ | with_reducible refine w_nil ?_ | with_reducible refine w_cb ?_ | with_reducible refine w_call ?_
  | with_reducible refine w_and ?_ | with_reducible refine w_or ?_ | with_reducible refine w_not ?_ | with_reducible refine w_tb ?_ | with_reducible refine w_tt ?_ | with_reducible refine w_bl ?_
  | with_reducible refine w_tand ?_ | with_reducible refine w_tor ?_ | with_reducible refine w_tnot ?_ | with_reducible refine w_yes ?_ | with_reducible refine w_chain ?_
  | with_reducible refine w_I0 ?_ | with_reducible refine w_eqI ?_ | with_reducible refine w_neI ?_ | with_reducible refine w_eqB ?_ | with_reducible refine w_neB ?_
  | with_reducible refine w_fl ?_ | with_reducible refine w_rng ?_ | with_reducible refine w_lst ?_ | with_reducible refine w_tup ?_
  | with_reducible refine w_sfld ?_ | with_reducible refine w_tmk ?_ | with_reducible refine w_gsub ?_ | with_reducible refine w_for ?_ | with_reducible refine w_tlc ?_ | with_reducible refine w_gx ?_ | with_reducible refine w_itup ?_ | with_reducible refine w_ilst ?_ | with_reducible refine w_izp ?_
  | with_reducible refine w_sl ?_ | with_reducible refine w_part ?_ | with_reducible refine w_pint ?_ | with_reducible refine w_nopart ?_
  | with_reducible refine w_rz ?_ | with_reducible refine w_callS ?_ | with_reducible refine w_callNS ?_ | with_reducible refine w_callD ?_ | with_reducible refine w_2d ?_ | with_reducible refine w_par ?_
  | with_reducible refine w_1 ?_ | with_reducible refine w_2 ?_ | with_reducible refine w_3 ?_ | with_reducible refine w_4 ?_ | with_reducible refine w_5 ?_)
/-! ### own classes with __init__ -/
def Mkr (Z : Wd) (k : Nat) (C : Addr) (x : Str) (sp : Sp) : Prop := ∃ f fd ps, Mk Z.K C f ∧ FnOk Z.P Z.w Z.K Z.mg Z.base CX0 k f fd ps sp ∧ Z.mg x = some (.ref C) ∧ L2.Binds Z.K fd ps []
theorem pe_mk {X : Cx} {k : Nat} {C : Addr} {sp : Sp} {E : XK} {x : Str} {p pos : Pos} {e : Expr} {es : List Expr} {t : TA}
    (c : Mkr ⟨X.prog, X.w, X.K, X.mg, X.base⟩ k C x sp) (hr : Room (k + 1) X.A) (hg : Gl X x) (hx : Passes CX0 X E) (ha : PA X (e :: es) t)
    (hd : (x == Str.ofString "__debug__") = false := by rfl)
    (he : starEach (e :: es) X.env = (false, eval e X.env) :: starEach es X.env := by rfl)
    (hn : ((backTo pos (starEach es X.env)).any fun x => x.fst) = false := by rfl) :
    PE X (.Call (.Name x p) (e :: es) [] pos) (tMake C sp [] E t) := by
  obtain ⟨f, fd, ps, M, F, m, b⟩ := c
  exact pe_make M F hr hg m b .nil hx ha hd he hn
def MFn (Z : Wd) (C : Addr) (x qual : Str) (st : Stmt) : Prop := ∃ f fd, Fun Z.K "__init__" qual st f fd ∧ Mk Z.K C f ∧ Z.mg x = some (.ref C)
def MFnT (Z : Wd) (C : Addr) (x qual : Str) (st : Stmt) (P : Addr) : Prop :=
  ∃ f fd oc od kV doc pm an c ct osl, fd = W.fnOf "__init__" qual (defArgs st) (defBody st) (defScope st) Value.none kV doc pm an (.ref c) ct ∧
    List.lookup f Z.K = some { cls := oc, dict := od, data := Data.func fd, slots := osl } ∧ W.codeIn Z.K (.ref c) qual = true ∧ W.keepIn Z.K (.ref f) = true ∧
    GxR.TabB Z.base Z.mg c P ∧ Mk Z.K C f ∧ Z.mg x = some (.ref C)
theorem MFn.mk {Z : Wd} {C : Addr} {x qual : Str} {st : Stmt} {N ps : List Str} {k : Nat} {sp : Sp} (F : MFn Z C x qual st) (S : FnScope N ps (defScope st)) (B : Bnd "__init__" qual st ps)
    (len : ∀ (vs : List V) (H : Hp) (Q : VK) (E : XK), sp vs H Q E → vs.length = ps.length)
    (walk : ∀ (f : Addr) (cdv : Value) (A : Around) (outer : List Env) (s : Shared) (H : Hp) (vs : List V) (Q : VK) (E : XK), Room k (A.deeper (envOfC qual (defScope st) s.heap.objs.size f cdv)) → sp vs H Q E →
      ∃ t, PSs (Xn Z N qual (defScope st) f cdv A outer s H E) (defBody st) t ∧ t ⟨fun _ H' => Q V.non H', Q, fun _ _ => False, fun _ _ => False⟩ (L2.start N vs) H) : Mkr Z (k + 1) C x sp := by
  obtain ⟨f, fd, F, M, m⟩ := F
  exact ⟨f, fd, ps, M, F.ok S len (fun cdv A outer s H vs Q E hr h => walk f cdv A outer s H vs Q E hr h), m, F.binds B⟩
theorem MFnT.mk {Z : Wd} {C : Addr} {x qual : Str} {st : Stmt} {T : Addr} {N ps : List Str} {k : Nat} {sp : Sp} (F : MFnT Z C x qual st T) (S : FnScope N ps (defScope st)) (B : Bnd "__init__" qual st ps)
    (len : ∀ (vs : List V) (H : Hp) (Q : VK) (E : XK), sp vs H Q E → vs.length = ps.length)
    (walk : ∀ (f c : Addr) (A : Around) (outer : List Env) (s : Shared) (H : Hp) (vs : List V) (Q : VK) (E : XK), GxR.TabB Z.base Z.mg c T → Room k (A.deeper (envOfC qual (defScope st) s.heap.objs.size f (.ref c))) → sp vs H Q E →
      ∃ t, PSs (Xn Z N qual (defScope st) f (.ref c) A outer s H E) (defBody st) t ∧ t ⟨fun _ H' => Q V.non H', Q, fun _ _ => False, fun _ _ => False⟩ (L2.start N vs) H) : Mkr Z (k + 1) C x sp := by
  obtain ⟨f, fd, oc, od, kV, doc, pm, an, c, ct, osl, rfl, lk, hcd, kp, TB, M, m⟩ := F
  have F0 : Fun Z.K "__init__" qual st f (W.fnOf "__init__" qual (defArgs st) (defBody st) (defScope st) Value.none kV doc pm an (.ref c) ct) := ⟨⟨oc, od, kV, doc, pm, an, _, ct, osl, rfl, lk, hcd⟩, kp⟩
  refine ⟨f, _, ps, M, fn_of (CX := CX0) lk hcd S len fun A outer s H vs Q E hr h => ?_, m, F0.binds B⟩
  obtain ⟨t, a, b⟩ := walk f c A outer s H vs Q E TB hr h
  exact ⟨t, PSs.nox a, b⟩
/-! ### tables -/
abbrev iv (n : Nat) (g : Nat → Int) : List V := M.tab n fun x => V.int (g x)
abbrev cells (n : Nat) (F : Nat → Bool) : List V := iv n fun x => M.b2 (F x)
abbrev tfl (n : Nat) (q : Addr) : List (Str × V) := [("n", .int n), ("bits", .ref q)]
structure Tbl (TC : Addr) (H : Hp) (t : Addr) (n : Nat) (F : Nat → Bool) : Prop where
  ob : ∃ dx q, H t = some (.ins TC dx (tfl n q)) ∧ H q = some (.tup (cells n F))
  n1 : 1 ≤ n
  n6 : n ≤ 6
theorem Tbl.ext {TC : Addr} {H H' : Hp} {t : Addr} {n : Nat} {F : Nat → Bool} (h : Tbl TC H t n F) (x : XT H H') : Tbl TC H' t n F := by
  obtain ⟨⟨dx, q, a, b⟩, n1, n6⟩ := h
  exact ⟨⟨dx, q, x.ins a, x.tup b⟩, n1, n6⟩
theorem putF_n {n : Nat} : putF "n" (.int n) [] = [(("n" : Str), V.int n)] := rfl
theorem putF_b {n : Nat} {q : Addr} : putF "bits" (.ref q) [(("n" : Str), V.int n)] = tfl n q := by
  show (if ("n" : Str) = "bits" then _ else _) = _
  rw [if_neg (by decide +kernel)]
  rfl
theorem look_n {n : Nat} {q : Addr} : (tfl n q).lookup ("n" : Str) = some (V.int n) := rfl
theorem look_b {n : Nat} {q : Addr} : (tfl n q).lookup ("bits" : Str) = some (V.ref q) := by
  unfold tfl
  rw [List.lookup_cons, show (("bits" : Str) == ("n" : Str)) = false from by decide +kernel]
  rw [List.lookup_cons, show (("bits" : Str) == ("bits" : Str)) = true from by decide +kernel]
theorem XS.xt {x : Addr} {H0 H H' : Hp} (b : XS x H H') (a : XT H0 H) (h0 : H0 x = none) : XT H0 H' :=
  ⟨fun p o h n => b.keep p o (fun e => by subst e; rw [h0] at h; cases h) (a.keep p o h n) n, fun p h => a.dom p (b.dom p h), fun P h => b.tab P (a.tab P h)⟩
theorem new2 {H : Hp} {x dx : Addr} {o u : HO} (nx : H x = none) (nd : H dx = none) (ne : dx ≠ x) : XT H (upd (upd H dx o) x u) :=
  (XT.new nd).put nx (.inl (by rw [upd_ne (fun e => ne e.symm)]; exact nx))
section
variable {Z : Wd} {TC SC : Addr}
abbrev N_Tinit : List Str := ["self", "n", "bits", "bit"]
theorem S_Tinit : FnScope N_Tinit ["self", "n", "bits"] (defScope s_Tinit) := ⟨rfl, rfl, rfl, by decide +kernel, rfl, by decide +kernel, by decide +kernel⟩
theorem B_Tinit : Bnd "__init__" "Table.__init__" s_Tinit ["self", "n", "bits"] := fun _ _ _ _ _ _ us hl => match us, hl with | [_, _, _], _ => rfl
abbrev p_Tinit (TC TI : Addr) : Sp := sp3 fun a b c H Q _ => ∃ x dx n b' F, a = .ref x ∧ b = .int (n : Nat) ∧ c = .ref b' ∧ H x = some (.ins TC dx []) ∧ H b' = some (.lst (cells n F)) ∧ 1 ≤ n ∧ n ≤ 6 ∧ GxR.TabG H TI ∧
  ∀ H' q, XS x H H' → H' x = some (.ins TC dx (tfl n q)) → H' q = some (.tup (cells n F)) → Q .non H'
theorem pow6 {n : Nat} (h : n ≤ 6) : 2 ^ n ≤ 64 := by
  have := Nat.pow_le_pow_right (show 0 < 2 by decide) h
  simpa using this
theorem shl1 (n : Nat) : (1 : Int) * 2 ^ (n : Int).toNat = ((2 ^ n : Nat) : Int) := by simp
theorem c_Tinit (T : Tx Z TC SC) {TI : Addr} (F : MFnT Z TC "Table" "Table.__init__" s_Tinit TI) (c_is_between : Cl Z CX0 2 "is_between" p_is_between) (c_is_bit : Cl Z CX0 3 "is_bit" p_is_bit) : Mkr Z 8 TC "Table" (p_Tinit TC TI) := by
  refine F.mk S_Tinit B_Tinit len3 fun f c A outer s H vs Q E TB hr h => ?_
  obtain ⟨_, _, _, rfl, x, dx, n, b, G, rfl, rfl, rfl, hx, hb, n1, n6, ht, k⟩ := h
  have nd := S_Tinit.nd
  have hp6 := pow6 n6
  refine ⟨_, (pss_cons (ps_if (pt_not (pt_val (pe_cl c_is_between (hr.mono (by decide)) rfl pass0 (pa_cons (pv 1) (pa_cons pe_int (pa_cons (pe_gi rfl T.m_LARGEST) pa_nil)))))) (pss_one ps_never) pss_nil)
  (pss_cons (ps_if (PW.pt (pw_or (pt_not (pt_val (pe_callB (call_isiTK (K := Z.K)) rfl T.b_isinstance (by decide +kernel) (pa_cons (pv 2) (pa_cons (pe_tup (pa_cons (pe_bltn rfl T.b_list (by decide +kernel) (show RelV (.ty "list") (.type "list") from rfl)) (pa_cons (pe_bltn rfl T.b_tuple (by decide +kernel) (show RelV (.ty "tuple") (.type "tuple") from rfl)) pa_nil))) pa_nil))))) (pw_or (pt_cmpR op_ne (pe_callB (call_lenK (K := Z.K)) rfl T.b_len (by decide +kernel) (pa_cons (pv 2) pa_nil)) (pe_op op_shl pe_int (pv 1)) (nomark _)) (pw_or1 (pt_not (pt_val (Gx.pe_gxAll (k := 3) (own := [("bit", 3)]) (hr.mono (by decide)) ⟨rfl, TB, rfl, ⟨rfl, by decide +kernel, by rfl⟩, blkOk_by (N := N_Tinit) (sc := defScope s_Tinit) (by decide +kernel), nd, (pi_listK (K := Z.K) (pv 2)), (fun _ _ _ _ _ _ _ hr => (pg_name (i := 3) nd rfl (Or.inl rfl))), (fun _ _ _ _ _ _ _ hr => pts_nil), (fun _ _ _ _ _ _ _ hr => (pe_cl c_is_bit (hr.mono (by decide)) rfl pass0 (pa_cons (pv 3) pa_nil)))⟩ rfl T.b_all))))))) (pss_one ps_never) pss_nil)
  (pss_cons (ps_fld (pv 0) (pv 1) rfl)
  (pss_one (ps_fld (pv 0) (pe_callTy (call_tupleK (K := Z.K)) rfl T.b_tuple (by decide +kernel) (pa_cons (pv 2) pa_nil)) rfl))))), ?_⟩
  show tSeq _ _ _ [some (.ref x), some (.int n), some (.ref b), none] H
  repeat walk_at "st"
  refine ⟨1, 10, rfl, rfl, trivial, ?_⟩
  repeat walk_at "st"
  rw [show btw (.int n) 1 10 = true from decide_eq_true ⟨by omega, by omega⟩]
  refine iteF ?_
  repeat walk_at "st"
  refine ⟨by show 2 ≤ sizeLine; decide, fun tp htp => ?_⟩
  repeat walk_at "st"
  have x1 : XT H (upd H tp (.tup [.ty "list", .ty "tuple"])) := XT.new htp
  have hb1 := x1.lst hb
  refine ⟨_, tp, _, _, _, true, rfl, upd_same, .cons (.ty "list") (.cons (.ty "tuple") .nil), .base (.lst hb1), by rfl, ?_⟩
  repeat walk_at "st"
  refine iteF ?_
  repeat walk_at "st"
  refine ⟨b, _, rfl, .inl (SqL.of hb1), ?_⟩
  repeat walk_at "st"
  refine w_I (by refine ⟨by omega, by omega, by decide⟩) ?_
  repeat walk_at "st"
  rw [shl1, M.tab_len, decide_eq_true rfl]
  refine iteF ?_
  repeat walk_at "st"
  refine ⟨b, rfl, ⟨_, SqL.of hb1⟩, ?_⟩
  refine gx_all (walk_list (K := Z.K) (a := b) (xs := cells n G)) (fun i => btw ((cells n G).getD i .non) 0 1) (x1.tab _ ht) (fun H2 x2 => SqL.of (x2.lst hb1)) (fun i y H2 H' hi x2 hy K1 hk => ?_) fun H2 x2 => ?_
  · obtain ⟨rfl, hx⟩ := hy
    refine w_name (σ' := [some (.ref x), some (.int n), some (.ref b), some y]) rfl ⟨rfl, ?_⟩
    repeat walk_at "st"
    rw [M.tab_len] at hi
    rw [M.tab_get hi] at hx
    cases hx
    refine ⟨trivial, ?_⟩
    have := hk _ XT.rfl'
    rw [List.getD_eq_getElem?_getD, M.tab_get hi] at this
    exact this
  · rw [all_range_true]
    · repeat walk_at "st"
      refine iteF ?_
      repeat walk_at "st"
      have hx2 := (x1.trans x2).ins hx
      refine ⟨x, TC, dx, [], rfl, hx2, T.cT, T.nTn, by decide, ?_⟩
      have hb2 : (upd H2 x (.ins TC dx (putF "n" (.int n) []))) b = some (.lst (cells n G)) := by
        rw [upd_ne (ne_of (x2.lst hb1) hx2 (by intro z; cases z))]; exact x2.lst hb1
      repeat walk_at "st"
      refine ⟨b, _, rfl, .inl ⟨SqL.of hb2, fun q hq => ?_⟩⟩
      repeat walk_at "st"
      have nqx : x ≠ q := ne_of_none upd_same hq
      refine ⟨x, TC, dx, _, rfl, by rw [upd_ne nqx]; exact upd_same, T.cT, T.nTb, by show 1 < 1000; decide, ?_⟩
      have y1 : XS x H (upd H2 x (.ins TC dx (putF "n" (.int n) []))) := (x1.trans x2).xs.put (.inr rfl) (.inr ⟨_, hx2, fun t z => by cases z⟩)
      refine k _ q ((y1.add hq).put (.inr rfl) (.inr ⟨_, by rw [upd_ne nqx]; exact upd_same, fun t z => by cases z⟩)) ?_ ?_
      · rw [upd_same, putF_n, putF_b]
      · rw [upd_ne nqx.symm, upd_same]
    · intro i hi
      rw [M.tab_len] at hi
      rw [List.getD_eq_getElem?_getD, M.tab_get hi]
      show btw (.int (M.b2 (G i))) 0 1 = true
      exact btw01.mpr (by unfold M.b2; cases G i <;> simp)
/-- Table(n, cells) -/
theorem w_mkT {TI : Addr} {H : Hp} {Qe : VK} {E : XK} {n : Nat} {b : Addr} {F : Nat → Bool} (hb : H b = some (.lst (cells n F))) (n1 : 1 ≤ n) (n6 : n ≤ 6) (ht : GxR.TabG H TI)
    (k : ∀ H' x, XT H H' → Tbl TC H' x n F → Qe (.ref x) H') :
    rMk TC (p_Tinit TC TI) E [.int n, .ref b] H Qe := by
  intro x dx nx ndx ne
  have x1 : XT H (upd (upd H dx (HO.own x)) x (HO.ins TC dx [])) := new2 nx ndx ne
  refine ⟨_, _, _, rfl, x, dx, n, b, F, rfl, rfl, rfl, upd_same, x1.lst hb, n1, n6, x1.tab _ ht, fun H' q y a b => ⟨rfl, ?_⟩⟩
  exact k H' x (y.xt x1 nx) ⟨⟨dx, q, a, b⟩, n1, n6⟩
end
end Q
set_option Elab.async false
set_option linter.all false
set_option maxRecDepth 100000
set_option maxHeartbeats 1000000
namespace Q
open PySem PySem.Spec PyProof.Rows L2
local macro_rules | `(tactic| walk_at "st") => `(tactic| first
  | with_reducible refine w_seq ?_ | with_reducible refine w_next ?_ | with_reducible refine w_ret ?_ | with_reducible refine w_ifs ?_ | with_reducible refine w_asg ?_ | with_reducible refine w_drop ?_
  | with_reducible refine w_name (by simp only [List.set_cons_zero, List.set_cons_succ]; rfl) ?_
  | with_reducible refine w_var (by with_unfolding_all rfl) ?_
  | with_reducible refine w_c ?_ | with_reducible refine w_op ?_ | with_reducible refine w_un ?_ | with_reducible refine w_cons ?_ | with_reducible refine w_nil ?_ | with_reducible refine w_cb ?_ | with_reducible refine w_call ?_
  | with_reducible refine w_and ?_ | with_reducible refine w_or ?_ | with_reducible refine w_not ?_ | with_reducible refine w_tb ?_ | with_reducible refine w_tt ?_ | with_reducible refine w_bl ?_
  | with_reducible refine w_tand ?_ | with_reducible refine w_tor ?_ | with_reducible refine w_tnot ?_ | with_reducible refine w_yes ?_ | with_reducible refine w_chain ?_
  | with_reducible refine w_I0 ?_ | with_reducible refine w_eqI ?_ | with_reducible refine w_neI ?_ | with_reducible refine w_eqB ?_ | with_reducible refine w_neB ?_
  | with_reducible refine w_fl ?_ | with_reducible refine w_rng ?_ | with_reducible refine w_lst ?_ | with_reducible refine w_tup ?_
  | with_reducible refine w_sfld ?_ | with_reducible refine w_tmk ?_ | with_reducible refine w_gsub ?_ | with_reducible refine w_for ?_ | with_reducible refine w_tlc ?_ | with_reducible refine w_gx ?_ | with_reducible refine w_itup ?_ | with_reducible refine w_ilst ?_ | with_reducible refine w_izp ?_
  | with_reducible refine w_sl ?_ | with_reducible refine w_part ?_ | with_reducible refine w_pint ?_ | with_reducible refine w_nopart ?_
  | with_reducible refine w_rz ?_ | with_reducible refine w_callS ?_ | with_reducible refine w_callNS ?_ | with_reducible refine w_callD ?_ | with_reducible refine w_2d ?_ | with_reducible refine w_par ?_
  | with_reducible refine w_1 ?_ | with_reducible refine w_2 ?_ | with_reducible refine w_3 ?_ | with_reducible refine w_4 ?_ | with_reducible refine w_5 ?_)
section
variable {Z : Wd} {TC SC : Addr}
theorem rT_n {H : Hp} {Qe : VK} {t dx q : Addr} {n : Nat} (T : Tx Z TC SC) (h : H t = some (.ins TC dx (tfl n q))) (k : Qe (.int n) H) : rFld Z.K "n" (.ref t) H Qe :=
  ⟨t, TC, dx, _, _, rfl, h, T.cT, T.nTn, look_n, k⟩
theorem rT_b {H : Hp} {Qe : VK} {t dx q : Addr} {n : Nat} (T : Tx Z TC SC) (h : H t = some (.ins TC dx (tfl n q))) (k : Qe (.ref q) H) : rFld Z.K "bits" (.ref t) H Qe :=
  ⟨t, TC, dx, _, _, rfl, h, T.cT, T.nTb, look_b, k⟩
theorem pow6i {n : Nat} (h : n ≤ 6) : (1 : Int) ≤ ((2 ^ n : Nat) : Int) ∧ ((2 ^ n : Nat) : Int) ≤ 64 := by
  have := pow6 h
  have := Nat.pow_pos (n := n) (show 0 < 2 by decide)
  generalize 2 ^ n = m at *
  omega
abbrev N_sum_table : List Str := ["word", "n", "number"]
theorem S_sum_table : FnScope N_sum_table ["word"] (defScope s_sum_table) := ⟨rfl, rfl, rfl, by decide +kernel, rfl, by decide +kernel, by decide +kernel⟩
theorem B_sum_table : Bnd "sum_table" "sum_table" s_sum_table ["word"] := fun _ _ _ _ _ _ us hl => match us, hl with | [_], _ => rfl
abbrev p_sum_table (TC TA TW TP TI : Addr) : Sp := sp1 fun a H Q _ => ∃ p n x, a = .ref p ∧ Wo H p n x ∧ 1 ≤ n ∧ n ≤ 6 ∧ GxR.TabG H TA ∧ GxR.TabG H TW ∧ GxR.TabG H TP ∧ GxR.TabG H TI ∧ ∀ H' t, XT H H' → Tbl TC H' t n (fun y => M.dot n x y) → Q (.ref t) H'
theorem c_sum_table (T : Tx Z TC SC) {TA TW TP TI : Addr} (F : Fn Z "sum_table" "sum_table" s_sum_table) (c_is_some_word : Cl Z CX0 9 "is_some_word" (p_is_some_word TA)) (c_word_at : Cl Z CX0 5 "word_at" (p_word_at TW)) (c_parity_of : Cl Z CX0 5 "parity_of" (p_parity_of TP))
    (c_mkTable : Mkr Z 8 TC "Table" (p_Tinit TC TI)) : Cl Z CX0 10 "sum_table" (p_sum_table TC TA TW TP TI) := by
  refine F.cl S_sum_table B_sum_table len1 fun f cdv A outer s H vs Q E hr h => ?_
  obtain ⟨_, rfl, p, n, a, rfl, hp, n1, n6, hA, hW, hP, hI, k⟩ := h
  have nd := S_sum_table.nd
  have p6 := pow6 n6
  obtain ⟨q6, r6⟩ := pow6i n6
  refine ⟨_, (pss_cons (ps_if (PW.pt (pw_or (pt_not (pt_val (pe_cl c_is_some_word (hr.mono (by decide)) rfl pass0 (pa_cons (pv 0) pa_nil)))) (pw_or1 (pt_cmpR op_gt (pe_callB (call_lenK (K := Z.K)) rfl T.b_len (by decide +kernel) (pa_cons (pv 0) pa_nil)) (pe_gi rfl T.m_LARGEST) (nomark _))))) (pss_one ps_never) pss_nil)
  (pss_cons (ps_set (i := 1) nd rfl (Or.inr rfl) (pe_callB (call_lenK (K := Z.K)) rfl T.b_len (by decide +kernel) (pa_cons (pv 0) pa_nil)))
  (pss_one (ps_ret (pe_mk c_mkTable (hr.mono (by decide)) rfl pass0 (pa_cons (pv 1) (pa_cons (pe_lc (own := [("number", 2)]) rfl nd (pi_range1 rfl T.b_range (pa_cons (pe_op op_shl pe_int (pv 1)) pa_nil)) (blkOk_by (N := N_sum_table) (sc := defScope s_sum_table) (by decide +kernel)) (fun _ _ _ _ _ => (pg_name (i := 2) nd rfl (Or.inl rfl))) (fun _ _ _ _ _ => pts_nil) (fun _ _ _ _ _ => (pe_cl c_parity_of (hr.mono (by decide)) rfl pass0 (pa_cons (pv 0) (pa_cons (pe_cl c_word_at (hr.mono (by decide)) rfl pass0 (pa_cons (pv 1) (pa_cons (pv 2) pa_nil))) pa_nil))))) pa_nil))))))), ?_⟩
  show tSeq _ _ _ [some (.ref p), none, none] H
  repeat walk_at "st"
  refine ⟨p, _, rfl, hp.bts, by rw [M.wd_len]; omega, by rw [M.wd_len]; omega, hA, fun H1 x1 => ?_⟩
  repeat walk_at "st"
  refine iteF ?_
  repeat walk_at "st"
  refine ⟨p, _, rfl, .inr (SqT.of (x1.tup hp)), ?_⟩
  repeat walk_at "st"
  rw [List.length_map, M.wd_len, decide_eq_false (by omega)]
  refine iteF ?_
  repeat walk_at "st"
  refine ⟨p, _, rfl, .inr (SqT.of (x1.tup hp)), ?_⟩
  rw [List.length_map, M.wd_len]
  repeat walk_at "st"
  refine w_I (by refine ⟨by omega, by omega, by decide⟩) ?_
  repeat walk_at "st"
  rw [shl1]
  refine ⟨_, rfl, by omega, by omega, fun D hD => ?_⟩
  refine lc_map walk_range (fun i => .int (M.b2 (M.dot n a i))) hD (Nat.lt_of_le_of_lt (by omega : (((2 ^ n : Nat) : Int)).toNat ≤ 64) (by decide)) (fun _ _ => trivial) (fun i x H2 H3 hi x2 hy K1 hk => ?_) fun H2 x2 hh => ?_
  · obtain ⟨rfl, rfl⟩ := hy
    have x12 := x1.trans x2
    refine w_name (σ' := [some (.ref p), some (.int n), some (.int (0 + (i : Int)))]) rfl ⟨rfl, ?_⟩
    repeat walk_at "st"
    refine ⟨n, i, rfl, by rw [Int.zero_add], by omega, x12.tab _ hW, fun q H4 hq x4 hw => ?_⟩
    repeat walk_at "st"
    exact ⟨p, q, n, a, i, rfl, rfl, (x12.trans x4).tup hp, hw, by omega, (x12.trans x4).tab _ hP, fun H5 x5 => hk _ (x4.trans x5)⟩
  · repeat walk_at "st"
    rw [Int.toNat_natCast] at hh
    exact w_mkT hh n1 n6 ((x1.trans x2).tab _ hI) fun H3 t x3 ht => k H3 t ((x1.trans x2).trans x3) ht
abbrev N_distance : List Str := ["one", "other", "first", "second"]
theorem S_distance : FnScope N_distance ["one", "other"] (defScope s_distance) := ⟨rfl, rfl, rfl, by decide +kernel, rfl, by decide +kernel, by decide +kernel⟩
theorem B_distance : Bnd "distance" "distance" s_distance ["one", "other"] := fun _ _ _ _ _ _ us hl => match us, hl with | [_, _], _ => rfl
theorem xor01 {a b : Bool} : Builtin.bitXor (M.b2 a) (M.b2 b) = M.b2 (a ^^ b) := by cases a <;> cases b <;> decide
theorem b2_01 (a : Bool) : 0 ≤ M.b2 a ∧ M.b2 a ≤ 1 := by cases a <;> decide
abbrev p_distance (TC TD : Addr) : Sp := sp2 fun a b H Q _ => ∃ t u n F G, a = .ref t ∧ b = .ref u ∧ Tbl TC H t n F ∧ Tbl TC H u n G ∧ GxR.TabG H TD ∧ ∀ H', XT H H' → Q (.int (M.S n fun x => M.b2 (F x ^^ G x))) H'
theorem c_distance (T : Tx Z TC SC) {TD : Addr} (F : FnT Z "distance" "distance" s_distance TD) : Cl Z CX0 5 "distance" (p_distance TC TD) := by
  refine F.cl S_distance B_distance len2 fun f c A outer s H vs Q E TB hr h => ?_
  obtain ⟨_, _, rfl, t, u, n, F, G, rfl, rfl, ⟨⟨dt, qt, ht, bt⟩, n1, n6⟩, ⟨⟨du, qu, hu, bu⟩, _, _⟩, hD, k⟩ := h
  have nd := S_distance.nd
  have p6 := pow6 n6
  obtain ⟨q6, r6⟩ := pow6i n6
  refine ⟨_, (pss_cons (ps_if (PW.pt (pw_or (pt_not (pt_val (pe_callB (call_isiK (K := Z.K)) rfl T.b_isinstance (by decide +kernel) (pa_cons (pv 1) (pa_cons (pe_glob rfl T.m_Table (show RelV (.ref _) (.ref _) from rfl)) pa_nil))))) (pw_or1 (pt_cmpR op_ne (pe_fldK (K := Z.K) (pv 1) rfl) (pe_fldK (K := Z.K) (pv 0) rfl) (nomark _))))) (pss_one ps_never) pss_nil)
  (pss_one (ps_ret (Gx.pe_gxSum (k := 0) (own := [("first", 2), ("second", 3)]) (hr.mono (by decide)) ⟨rfl, TB, rfl, ⟨rfl, by decide +kernel, by rfl⟩, blkOk_by (N := N_distance) (sc := defScope s_distance) (by decide +kernel), nd, (RZ.pi_zipA rfl T.b_zip (pa_cons (pe_fldK (K := Z.K) (pv 0) rfl) (pa_cons (pe_fldK (K := Z.K) (pv 1) rfl) pa_nil))), (fun _ _ _ _ _ _ _ hr => (pg_tupK (K := Z.K) (n := 2) rfl (pgs_cons (pg_name (i := 2) nd rfl (Or.inl rfl)) (pgs_cons (pg_name (i := 3) nd rfl (Or.inl rfl)) pgs_nil)))), (fun _ _ _ _ _ _ _ hr => pts_nil), (fun _ _ _ _ _ _ _ hr => (pe_op op_xor (pv 2) (pv 3)))⟩ rfl T.b_sum)))), ?_⟩
  show tSeq _ _ _ [some (.ref t), some (.ref u), none, none] H
  repeat walk_at "st"
  refine isC (T.iT hu) T.kTT (w_bl ?_)
  refine iteF ?_
  repeat walk_at "st"
  refine rT_n T hu ?_
  repeat walk_at "st"
  refine rT_n T ht ?_
  repeat walk_at "st"
  rw [decide_eq_true rfl]
  refine iteF ?_
  repeat walk_at "st"
  refine rT_b T ht ?_
  repeat walk_at "st"
  refine rT_b T hu ?_
  repeat walk_at "st"
  refine ⟨qt, qu, _, _, rfl, .inr ⟨SqT.of bt, SqT.of bu, ?_⟩⟩
  have hlen : 2 ^ n = min (cells n F).length (cells n G).length := by simp [M.tab_len]
  refine gx_sum (walk_zipT (K := Z.K) (a := qt) (b := qu) hlen) (fun i => M.b2 (F i ^^ G i)) 1 (fun i hi => by have := b2_01 (F i ^^ G i); omega) (by decide) (by omega) hD (fun H1 x1 => ⟨SqT.of (x1.tup bt), SqT.of (x1.tup bu)⟩) (fun i v H1 H' hi x1 hy K1 hk => ?_) fun H1 x1 => ?_
  · obtain ⟨w, a, b, rfl, hw, rfl, ha, hb⟩ := hy
    have ha := (M.tab_get (g := fun x => V.int (M.b2 (F x))) hi).symm.trans ha
    have hb := (M.tab_get (g := fun x => V.int (M.b2 (G x))) hi).symm.trans hb
    cases ha
    cases hb
    refine w_pair upd_same (σ' := [some (.ref t), some (.ref u), some (.int _), some (.int _)]) rfl ⟨rfl, ?_⟩
    repeat walk_at "st"
    rw [xor01]
    exact hk _ (XT.new hw)
  · rw [← M.S_list]
    exact k H1 x1
abbrev N_signed_sum : List Str := ["table", "word", "total", "number", "unlike"]
theorem S_signed_sum : FnScope N_signed_sum ["table", "word"] (defScope s_signed_sum) := ⟨rfl, rfl, rfl, by decide +kernel, rfl, by decide +kernel, by decide +kernel⟩
theorem B_signed_sum : Bnd "signed_sum" "signed_sum" s_signed_sum ["table", "word"] := fun _ _ _ _ _ _ us hl => match us, hl with | [_, _], _ => rfl
abbrev fs (F : Nat → Bool) : Nat → Int := fun x => M.sg (F x)
abbrev p_signed_sum (TC TA TW TP : Addr) : Sp := sp2 fun a b H Q _ => ∃ t p n F x, a = .ref t ∧ b = .ref p ∧ Tbl TC H t n F ∧ Wo H p n x ∧ GxR.TabG H TA ∧ GxR.TabG H TW ∧ GxR.TabG H TP ∧ ∀ H', XT H H' → Q (.int (M.W n (fs F) x)) H'
theorem S_partial (n : Nat) (f : Nat → Int) : M.S n f = ((List.range (2 ^ n)).map f).sum := M.S_list n f
theorem sgstep (a b : Bool) (c : Int) : c + 1 - 2 * M.b2 (a ^^ b) = c + M.sg b * M.sg a := by cases a <;> cases b <;> simp [M.b2, M.sg] <;> omega
theorem c_signed_sum (T : Tx Z TC SC) {TA TW TP : Addr} (F : Fn Z "signed_sum" "signed_sum" s_signed_sum) (c_is_word : Cl Z CX0 10 "is_word" (p_is_word TA)) (c_word_at : Cl Z CX0 5 "word_at" (p_word_at TW)) (c_parity_of : Cl Z CX0 5 "parity_of" (p_parity_of TP)) : Cl Z CX0 11 "signed_sum" (p_signed_sum TC TA TW TP) := by
  refine F.cl S_signed_sum B_signed_sum len2 fun f cdv A outer s H vs Q E hr h => ?_
  obtain ⟨_, _, rfl, t, p, n, F, a, rfl, rfl, ⟨⟨dt, qt, ht, bt⟩, n1, n6⟩, hp, hA, hW, hP, k⟩ := h
  have nd := S_signed_sum.nd
  have p6 := pow6 n6
  obtain ⟨q6, r6⟩ := pow6i n6
  refine ⟨_, (pss_cons (ps_if (pt_not (pt_val (pe_cl c_is_word (hr.mono (by decide)) rfl pass0 (pa_cons (pv 1) (pa_cons (pe_fldK (K := Z.K) (pv 0) rfl) pa_nil))))) (pss_one ps_never) pss_nil)
  (pss_cons (ps_set (i := 2) nd rfl (Or.inl rfl) pe_int)
  (pss_cons (ps_for PassesOwn.never rfl (pi_range1 rfl T.b_range (pa_cons (pe_op op_shl pe_int (pe_fldK (K := Z.K) (pv 0) rfl)) pa_nil)) (pg_name (i := 3) nd rfl (Or.inl rfl))
  (pss_cons (ps_set (i := 4) nd rfl (Or.inl rfl) (pe_op op_xor (pe_ix (ix_seqK (K := Z.K)) (pe_fldK (K := Z.K) (pv 0) rfl) (pv 3) (fun _ _ => rfl)) (pe_cl c_parity_of (hr.mono (by decide)) rfl pass0 (pa_cons (pv 1) (pa_cons (pe_cl c_word_at (hr.mono (by decide)) rfl pass0 (pa_cons (pe_fldK (K := Z.K) (pv 0) rfl) (pa_cons (pv 3) pa_nil))) pa_nil)))))
  (pss_one (ps_set (i := 2) nd rfl (Or.inl rfl) (pe_op op_sub (pe_op op_add (pv 2) pe_int) (pe_op op_mul pe_int (pv 4)))))))
  (pss_one (ps_ret (pv 2)))))), ?_⟩
  show tSeq _ _ _ [some (.ref t), some (.ref p), none, none, none] H
  repeat walk_at "st"
  refine rT_n T ht ?_
  repeat walk_at "st"
  refine ⟨p, _, rfl, by rw [M.wd_len], hp.bts, by rw [M.wd_len]; omega, by rw [M.wd_len]; omega, hA, fun H1 x1 => ?_⟩
  repeat walk_at "st"
  refine iteF ?_
  repeat walk_at "st"
  refine rT_n T (x1.ins ht) ?_
  repeat walk_at "st"
  refine w_I (by refine ⟨by omega, by omega, by decide⟩) ?_
  repeat walk_at "st"
  rw [shl1]
  refine ⟨_, rfl, by omega, by omega, ?_⟩
  rw [Int.toNat_natCast]
  refine for_lit walk_range (fun i σ H2 => XT H H2 ∧ ∃ z1 z2, σ = [some (.ref t), some (.ref p), some (.int ((List.range i).map fun y => M.chi n a y * fs F y).sum), z1, z2]) ⟨x1, none, none, rfl⟩ (fun _ _ _ _ _ => trivial) ?_ ?_
  · rintro i v σ H2 H3 hi ⟨x2, z1, z2, rfl⟩ ⟨rfl, rfl⟩
    refine w_name (σ' := [some (.ref t), some (.ref p), some (.int ((List.range i).map fun y => M.chi n a y * fs F y).sum), some (.int (0 + (i : Int))), z2]) rfl ?_
    repeat walk_at "st"
    refine rT_b T (x2.ins ht) ?_
    repeat walk_at "st"
    refine w_ixt (SqT.of (x2.tup bt)) (v := .int (M.b2 (F i))) (by rw [Int.zero_add]; exact atI_nat (M.tab_get hi)) ?_
    repeat walk_at "st"
    refine rT_n T (x2.ins ht) ?_
    repeat walk_at "st"
    refine ⟨n, i, rfl, by rw [Int.zero_add], by omega, x2.tab _ hW, fun q H4 hq x4 hw => ?_⟩
    repeat walk_at "st"
    refine ⟨p, q, n, a, i, rfl, rfl, (x2.trans x4).tup hp, hw, by omega, (x2.trans x4).tab _ hP, fun H5 x5 => ?_⟩
    repeat walk_at "st"
    refine w_I (.inl (by decide)) ?_
    repeat walk_at "st"
    rw [xor01, sgstep]
    refine ⟨(x2.trans x4).trans x5, some (.int (0 + (i : Int))), some (.int (M.b2 (F i ^^ M.dot n a i))), ?_⟩
    rw [List.range_succ, List.map_append, List.sum_append]
    simp only [List.map_cons, List.map_nil, List.sum_cons, List.sum_nil, Int.add_zero]
    rfl
  · rintro σ H2 ⟨x2, z1, z2, rfl⟩
    repeat walk_at "st"
    rw [← M.S_list]
    exact k H2 x2
end
end Q
set_option Elab.async false
set_option linter.all false
set_option maxRecDepth 100000
set_option maxHeartbeats 1000000
namespace Q
open PySem PySem.Spec PyProof.Rows L2
local macro_rules | `(tactic| walk_at "st") => `(tactic| first
  | with_reducible refine w_seq ?_ | with_reducible refine w_next ?_ | with_reducible refine w_ret ?_ | with_reducible refine w_ifs ?_ | with_reducible refine w_asg ?_ | with_reducible refine w_drop ?_
  | with_reducible refine w_name (by simp only [List.set_cons_zero, List.set_cons_succ]; rfl) ?_
  | with_reducible refine w_var (by with_unfolding_all rfl) ?_
  | with_reducible refine w_c ?_ | with_reducible refine w_op ?_ | with_reducible refine w_un ?_ | with_reducible refine w_cons ?_ | with_reducible refine w_nil ?_ | with_reducible refine w_cb ?_ | with_reducible refine w_call ?_
  | with_reducible refine w_and ?_ | with_reducible refine w_or ?_ | with_reducible refine w_not ?_ | with_reducible refine w_tb ?_ | with_reducible refine w_tt ?_ | with_reducible refine w_bl ?_
  | with_reducible refine w_tand ?_ | with_reducible refine w_tor ?_ | with_reducible refine w_tnot ?_ | with_reducible refine w_yes ?_ | with_reducible refine w_chain ?_
  | with_reducible refine w_I0 ?_ | with_reducible refine w_eqI ?_ | with_reducible refine w_neI ?_ | with_reducible refine w_eqB ?_ | with_reducible refine w_neB ?_
  | with_reducible refine w_fl ?_ | with_reducible refine w_rng ?_ | with_reducible refine w_lst ?_ | with_reducible refine w_tup ?_
  | with_reducible refine w_sfld ?_ | with_reducible refine w_tmk ?_ | with_reducible refine w_gsub ?_ | with_reducible refine w_for ?_ | with_reducible refine w_tlc ?_ | with_reducible refine w_gx ?_ | with_reducible refine w_itup ?_ | with_reducible refine w_ilst ?_ | with_reducible refine w_izp ?_
  | with_reducible refine w_sl ?_ | with_reducible refine w_part ?_ | with_reducible refine w_pint ?_ | with_reducible refine w_nopart ?_
  | with_reducible refine w_rz ?_ | with_reducible refine w_callS ?_ | with_reducible refine w_callNS ?_ | with_reducible refine w_callD ?_ | with_reducible refine w_2d ?_ | with_reducible refine w_par ?_
  | with_reducible refine w_1 ?_ | with_reducible refine w_2 ?_ | with_reducible refine w_3 ?_ | with_reducible refine w_4 ?_ | with_reducible refine w_5 ?_)
section
variable {σ : L2.St} {H : Hp} {nx bk ct : L2.St → Hp → Prop} {rt : VK}
/-- while, by the number of turns that are left at most -/
theorem while_lit {c : TT} {tb : TS} (Pv : Nat → L2.St → Hp → Prop) (m : Nat) (h0 : Pv m σ H)
    (hs : ∀ m σ H, Pv m σ H → c σ H fun b H1 => if b = true then 0 < m ∧ tb ⟨Pv (m - 1), rt, nx, Pv (m - 1)⟩ σ H1 else nx σ H1)
    (mono : ∀ σ H (Q Q' : Bool → Hp → Prop), (∀ b H1, Q b H1 → Q' b H1) → c σ H Q → c σ H Q') : tWhile c tb ⟨nx, rt, bk, ct⟩ σ H := by
  refine ⟨Pv, ⟨m, h0⟩, fun m σ H h => mono σ H _ _ (fun b H1 hb => ?_) (hs m σ H h)⟩
  cases b with
  | true =>
    rw [if_pos rfl] at hb ⊢
    exact ⟨Pv (m - 1), fun σ' H' h' => ⟨m - 1, by omega, h'⟩, hb.2⟩
  | false => exact hb
end
theorem iv_set {n i : Nat} {h : Nat → Int} {v : Int} : (iv n h).set i (.int v) = iv n fun q => if q = i then v else h q := by
  rw [M.tab_set]
  refine M.tab_congr fun x _ => ?_
  show (if x = i then V.int v else V.int (h x)) = V.int (if x = i then v else h x)
  split <;> rfl
theorem walk_rng {n : Nat} : Walk (Itr 0 n) n (fun _ => True) (fun i H x H' => H' = H ∧ x = .int (i : Nat)) :=
  ⟨fun _ _ h _ => h, fun _ _ => Nat.le_refl n, fun i H x H' _ _ h => ⟨h.1, by rw [h.2, Int.zero_add]⟩⟩
theorem iv_len (n : Nat) (h : Nat → Int) : (iv n h).length = 2 ^ n := M.tab_len _ _
theorem iv_at {n i : Nat} {h : Nat → Int} (hi : i < 2 ^ n) : atI (iv n h) (i : Int) = some (.int (h i)) := atI_nat (M.tab_get hi)
theorem and_step (i j : Nat) : decide (Builtin.bitAnd (i : Int) ((2 ^ j : Nat) : Int) = 0) = !i.testBit j := by
  rw [PyProof.Rows.bitAnd_pp (Int.natCast_nonneg _) (Int.natCast_nonneg _), Int.toNat_natCast, Int.toNat_natCast, M.and_pow]
  have := M.pow_pos2 j
  generalize 2 ^ j = m at *
  cases i.testBit j with
  | true => rw [if_pos rfl]; exact decide_eq_false (by omega)
  | false => rfl
theorem iv_congr {n : Nat} {g h : Nat → Int} (e : ∀ x, x < 2 ^ n → g x = h x) : iv n g = iv n h := M.tab_congr fun x hx => by rw [e x hx]
theorem iv_mix {n j i : Nat} {g : Nat → Int} (h : i.testBit j = false) :
    ((iv n (M.mix j i g)).set i (.int (g i + g (i + 2 ^ j)))).set (i + 2 ^ j) (.int (g i - g (i + 2 ^ j))) = iv n (M.mix j (i + 1) g) := by
  rw [iv_set, iv_set]
  exact iv_congr fun x _ => (M.mix_step h x).symm
section
variable {Z : Wd} {TC SC : Addr}
abbrev N_sums_and_differences : List Str := ["numbers", "found", "step", "place", "first", "second"]
theorem S_sums_and_differences : FnScope N_sums_and_differences ["numbers"] (defScope s_sums_and_differences) := ⟨rfl, rfl, rfl, by decide +kernel, rfl, by decide +kernel, by decide +kernel⟩
theorem B_sums_and_differences : Bnd "sums_and_differences" "sums_and_differences" s_sums_and_differences ["numbers"] := fun _ _ _ _ _ _ us hl => match us, hl with | [_], _ => rfl
abbrev p_sad : Sp := sp1 fun a H Q _ => ∃ p n g, a = .ref p ∧ H p = some (.lst (iv n g)) ∧ n ≤ 6 ∧ ∀ H' l, H l = none → XT H H' → H' l = some (.lst (iv n (M.T n g))) → Q (.ref l) H'
theorem c_sums_and_differences (T : Tx Z TC SC) (F : Fn Z "sums_and_differences" "sums_and_differences" s_sums_and_differences) : Cl Z CX0 1 "sums_and_differences" p_sad := by
  refine F.cl S_sums_and_differences B_sums_and_differences len1 fun f cdv A outer s H vs Q E hr h => ?_
  obtain ⟨_, rfl, p, n, g, rfl, hp, n6, k⟩ := h
  have nd := S_sums_and_differences.nd
  have p6 := pow6 n6
  obtain ⟨q6, r6⟩ := pow6i n6
  refine ⟨_, (pss_cons (ps_set (i := 1) nd rfl (Or.inl rfl) (pe_callTy (call_listK (K := Z.K)) rfl T.b_list (by decide +kernel) (pa_cons (pv 0) pa_nil)))
  (pss_cons (ps_set (i := 2) nd rfl (Or.inl rfl) pe_int)
  (pss_cons (ps_while PassesOwn.never (pt_cmpR op_lt (pv 2) (pe_callB (call_lenK (K := Z.K)) rfl T.b_len (by decide +kernel) (pa_cons (pv 1) pa_nil)) (nomark _)) (pss_cons (ps_for PassesOwn.never rfl (pi_range1 rfl T.b_range (pa_cons (pe_callB (call_lenK (K := Z.K)) rfl T.b_len (by decide +kernel) (pa_cons (pv 1) pa_nil)) pa_nil)) (pg_name (i := 3) nd rfl (Or.inl rfl))
  (pss_one (ps_if (pt_cmpR op_eq (pe_op op_and (pv 3) (pv 2)) pe_int (nomark _)) (pss_cons (ps_set (i := 4) nd rfl (Or.inl rfl) (pe_ix (ix_seqK (K := Z.K)) (pv 1) (pv 3) (fun _ _ => rfl)))
  (pss_cons (ps_set (i := 5) nd rfl (Or.inl rfl) (pe_ix (ix_seqK (K := Z.K)) (pv 1) (pe_op op_add (pv 3) (pv 2)) (fun _ _ => rfl)))
  (pss_cons (ps_asg (pe_op op_add (pv 4) (pv 5)) (pg_sub (pv 1) (pv 3) set_list))
  (pss_one (ps_asg (pe_op op_sub (pv 4) (pv 5)) (pg_sub (pv 1) (pe_op op_add (pv 3) (pv 2)) set_list)))))) pss_nil)))
  (pss_one (ps_set (i := 2) nd rfl (Or.inl rfl) (pe_op op_mul pe_int (pv 2))))))
  (pss_one (ps_ret (pv 1)))))), ?_⟩
  show tSeq _ _ _ [some (.ref p), none, none, none, none, none] H
  repeat walk_at "st"
  refine ⟨p, _, rfl, .inl (SqL.of hp), fun l hl => ?_⟩
  repeat walk_at "st"
  refine while_lit (fun m σ H2 => ∃ j z1 z2 z3, m = n - j ∧ j ≤ n ∧ XT H H2 ∧ H2 l = some (.lst (iv n (M.T j g))) ∧ σ = [some (.ref p), some (.ref l), some (.int ((2 ^ j : Nat) : Int)), z1, z2, z3]) n ⟨0, none, none, none, rfl, Nat.zero_le _, XT.new hl, upd_same, rfl⟩ ?_ ?_
  · rintro m σ H2 ⟨j, z1, z2, z3, rfl, hj, x2, hl2, rfl⟩
    repeat walk_at "st"
    refine ⟨l, _, rfl, .inl (SqL.of hl2), ?_⟩
    repeat walk_at "st"
    rw [iv_len]
    by_cases hjn : j = n
    · subst hjn
      rw [decide_eq_false (by omega)]
      refine iteF ?_
      repeat walk_at "st"
      exact k H2 l hl x2 hl2
    · have hj2 : j < n := by omega
      have hlt : ((2 ^ j : Nat) : Int) < ((2 ^ n : Nat) : Int) := by
        have := Nat.pow_lt_pow_right (show 1 < 2 by decide) hj2
        omega
      rw [decide_eq_true hlt]
      refine iteT ⟨by omega, ?_⟩
      repeat walk_at "st"
      refine ⟨l, _, rfl, .inl (SqL.of hl2), ?_⟩
      repeat walk_at "st"
      rw [iv_len]
      refine ⟨_, rfl, by omega, by omega, ?_⟩
      rw [Int.toNat_natCast]
      refine for_lit walk_rng (fun i σ H3 => XT H H3 ∧ H3 l = some (.lst (iv n (M.mix j i (M.T j g)))) ∧ ∃ z1 z2 z3, σ = [some (.ref p), some (.ref l), some (.int ((2 ^ j : Nat) : Int)), z1, z2, z3]) ⟨x2, by rw [hl2, iv_congr fun x _ => (M.mix_zero j (M.T j g) x).symm], z1, z2, z3, rfl⟩ (fun _ _ _ _ _ => trivial) ?_ ?_
      · rintro i v σ H3 H4 hi ⟨x3, hl3, y1, y2, y3, rfl⟩ ⟨rfl, rfl⟩
        refine w_name (σ' := [some (.ref p), some (.ref l), some (.int ((2 ^ j : Nat) : Int)), some (.int (i : Int)), y2, y3]) rfl ?_
        repeat walk_at "st"
        rw [and_step]
        cases hb : i.testBit j with
        | true =>
          refine iteF ?_
          repeat walk_at "st"
          refine ⟨x3, ?_, some (.int (i : Int)), y2, y3, rfl⟩
          rw [hl3]; congr 2; exact iv_congr fun x _ => (M.mix_skip hb x).symm
        | false =>
          have hlt2 := M.tb_lt hj2 hi hb
          have e2 : (i : Int) + ((2 ^ j : Nat) : Int) = ((i + 2 ^ j : Nat) : Int) := by simp
          refine iteT ?_
          repeat walk_at "st"
          refine w_ixl (SqL.of hl3) (iv_at hi) ?_
          repeat walk_at "st"
          rw [e2]
          refine w_ixl (SqL.of hl3) (iv_at hlt2) ?_
          repeat walk_at "st"
          rw [M.mix_at hb, M.mix_at2 hb]
          refine w_setl hl3 (by rw [iv_len]; exact ixN_nat hi) ?_
          repeat walk_at "st"
          rw [e2]
          refine w_setl upd_same (by rw [List.length_set, iv_len]; exact ixN_nat hlt2) ?_
          rw [upd_upd, iv_mix hb]
          refine ⟨x3.put hl (.inr ⟨_, hl3, fun t z => by cases z⟩), upd_same, some (.int (i : Int)), some (.int _), some (.int _), rfl⟩
      · rintro σ H3 ⟨x3, hl3, y1, y2, y3, rfl⟩
        repeat walk_at "st"
        refine w_I (.inl (by decide)) ?_
        repeat walk_at "st"
        refine ⟨j + 1, y1, y2, y3, by omega, by omega, x3, ?_, ?_⟩
        · rw [hl3]; congr 2; exact iv_congr fun x hx => by rw [M.mix_all hx]; rfl
        · congr 4
          rw [Nat.pow_succ]; simp [Int.mul_comm]
  · intro σ' H' Q1 Q2 hQ hc
    obtain ⟨v, e, v2, e9, p', ys, e2, hs, i, j, e3, e4, z, e5, hq⟩ := hc
    exact ⟨v, e, v2, e9, p', ys, e2, hs, i, j, e3, e4, z, e5, hQ _ _ hq⟩
abbrev N_signed_sums : List Str := ["table", "bit"]
theorem S_signed_sums : FnScope N_signed_sums ["table"] (defScope s_signed_sums) := ⟨rfl, rfl, rfl, by decide +kernel, rfl, by decide +kernel, by decide +kernel⟩
theorem B_signed_sums : Bnd "signed_sums" "signed_sums" s_signed_sums ["table"] := fun _ _ _ _ _ _ us hl => match us, hl with | [_], _ => rfl
abbrev Wf (n : Nat) (F : Nat → Bool) : Nat → Int := M.W n (fs F)
abbrev p_signed_sums (TC : Addr) : Sp := sp1 fun a H Q _ => ∃ t n F, a = .ref t ∧ Tbl TC H t n F ∧ ∀ H' p, H p = none → XT H H' → H' p = some (.tup (iv n (Wf n F))) → Q (.ref p) H'
theorem b2sg (b : Bool) : 1 - 2 * M.b2 b = M.sg b := by cases b <;> rfl
theorem c_signed_sums (T : Tx Z TC SC) (F : Fn Z "signed_sums" "signed_sums" s_signed_sums) (c_sums_and_differences : Cl Z CX0 1 "sums_and_differences" p_sad) : Cl Z CX0 2 "signed_sums" (p_signed_sums TC) := by
  refine F.cl S_signed_sums B_signed_sums len1 fun f cdv A outer s H vs Q E hr h => ?_
  obtain ⟨_, rfl, t, n, F, rfl, ⟨⟨dt, qt, ht, bt⟩, n1, n6⟩, k⟩ := h
  have nd := S_signed_sums.nd
  have p6 := pow6 n6
  refine ⟨_, (pss_one (ps_ret (pe_callTy (call_tupleK (K := Z.K)) rfl T.b_tuple (by decide +kernel) (pa_cons (pe_cl c_sums_and_differences (hr.mono (by decide)) rfl pass0 (pa_cons (pe_lc (own := [("bit", 1)]) rfl nd (pi_tupK (K := Z.K) (pe_fldK (K := Z.K) (pv 0) rfl)) (blkOk_by (N := N_signed_sums) (sc := defScope s_signed_sums) (by decide +kernel)) (fun _ _ _ _ _ => (pg_name (i := 1) nd rfl (Or.inl rfl))) (fun _ _ _ _ _ => pts_nil) (fun _ _ _ _ _ => (pe_op op_sub pe_int (pe_op op_mul pe_int (pv 1))))) pa_nil)) pa_nil)))), ?_⟩
  show tRet _ _ [some (.ref t), none] H
  repeat walk_at "st"
  refine rT_b T ht ?_
  refine ⟨qt, rfl, ⟨_, SqT.of bt⟩, fun D hD => ?_⟩
  refine lc_map (walk_tup (K := Z.K) (a := qt) (xs := cells n F)) (fun i => .int (fs F i)) hD (by rw [iv_len]; exact Nat.lt_of_le_of_lt p6 (by decide)) (fun H2 x2 => SqT.of (x2.tup bt)) (fun i x H2 H3 hi x2 hy K1 hk => ?_) fun H2 x2 hh => ?_
  · obtain ⟨rfl, hx⟩ := hy
    rw [iv_len] at hi
    rw [M.tab_get hi] at hx
    cases hx
    refine w_name (σ' := [some (.ref t), some (.int (M.b2 (F i)))]) rfl ⟨rfl, ?_⟩
    repeat walk_at "st"
    refine w_I (.inl (by decide)) ?_
    repeat walk_at "st"
    rw [b2sg]
    exact hk _ XT.rfl'
  · repeat walk_at "st"
    rw [iv_len] at hh
    refine ⟨D, n, fs F, rfl, hh, n6, fun H4 l hl x4 h4 => ?_⟩
    repeat walk_at "st"
    refine ⟨l, _, rfl, .inl ⟨SqL.of h4, fun q hq => ?_⟩⟩
    refine k _ q ((x2.trans x4).dom _ hq) ((x2.trans x4).add hq) ?_
    rw [upd_same]
    congr 2
    exact iv_congr fun x hx => M.T_W hx
end
end Q
set_option Elab.async false
set_option linter.all false
set_option maxRecDepth 100000
set_option maxHeartbeats 1000000
namespace Q
open PySem PySem.Spec PyProof.Rows L2
local macro_rules | `(tactic| walk_at "st") => `(tactic| first
  | with_reducible refine w_seq ?_ | with_reducible refine w_next ?_ | with_reducible refine w_ret ?_ | with_reducible refine w_ifs ?_ | with_reducible refine w_asg ?_ | with_reducible refine w_drop ?_
  | with_reducible refine w_name (by simp only [List.set_cons_zero, List.set_cons_succ]; rfl) ?_
  | with_reducible refine w_var (by with_unfolding_all rfl) ?_
  | with_reducible refine w_c ?_ | with_reducible refine w_op ?_ | with_reducible refine w_un ?_ | with_reducible refine w_cons ?_ | with_reducible refine w_nil ?_ | with_reducible refine w_cb ?_ | with_reducible refine w_call ?_
  | with_reducible refine w_and ?_ | with_reducible refine w_or ?_ | with_reducible refine w_not ?_ | with_reducible refine w_tb ?_ | with_reducible refine w_tt ?_ | with_reducible refine w_bl ?_
  | with_reducible refine w_tand ?_ | with_reducible refine w_tor ?_ | with_reducible refine w_tnot ?_ | with_reducible refine w_yes ?_ | with_reducible refine w_chain ?_
  | with_reducible refine w_I0 ?_ | with_reducible refine w_eqI ?_ | with_reducible refine w_neI ?_ | with_reducible refine w_eqB ?_ | with_reducible refine w_neB ?_
  | with_reducible refine w_fl ?_ | with_reducible refine w_rng ?_ | with_reducible refine w_lst ?_ | with_reducible refine w_tup ?_
  | with_reducible refine w_sfld ?_ | with_reducible refine w_tmk ?_ | with_reducible refine w_gsub ?_ | with_reducible refine w_for ?_ | with_reducible refine w_tlc ?_ | with_reducible refine w_gx ?_ | with_reducible refine w_itup ?_ | with_reducible refine w_ilst ?_ | with_reducible refine w_izp ?_
  | with_reducible refine w_sl ?_ | with_reducible refine w_part ?_ | with_reducible refine w_pint ?_ | with_reducible refine w_nopart ?_
  | with_reducible refine w_rz ?_ | with_reducible refine w_callS ?_ | with_reducible refine w_callNS ?_ | with_reducible refine w_callD ?_ | with_reducible refine w_2d ?_ | with_reducible refine w_par ?_
  | with_reducible refine w_1 ?_ | with_reducible refine w_2 ?_ | with_reducible refine w_3 ?_ | with_reducible refine w_4 ?_ | with_reducible refine w_5 ?_)
/-! ### shares -/
abbrev sfl (a b : Int) : List (Str × V) := [("over", .int a), ("under", .int b)]
theorem putF_o {a : Int} : putF "over" (.int a) [] = [(("over" : Str), V.int a)] := rfl
theorem putF_u {a b : Int} : putF "under" (.int b) [(("over" : Str), V.int a)] = sfl a b := by
  show (if ("over" : Str) = "under" then _ else _) = _
  rw [if_neg (by decide +kernel)]
  rfl
theorem look_o {a b : Int} : (sfl a b).lookup ("over" : Str) = some (V.int a) := rfl
theorem look_u {a b : Int} : (sfl a b).lookup ("under" : Str) = some (V.int b) := by
  unfold sfl
  rw [List.lookup_cons, show (("under" : Str) == ("over" : Str)) = false from by decide +kernel]
  rw [List.lookup_cons, show (("under" : Str) == ("under" : Str)) = true from by decide +kernel]
abbrev Shr (SC : Addr) (H : Hp) (p : Addr) (a b : Int) : Prop := ∃ dx, H p = some (.ins SC dx (sfl a b))
theorem Shr.ext {SC : Addr} {H H' : Hp} {p : Addr} {a b : Int} (h : Shr SC H p a b) (x : XT H H') : Shr SC H' p a b := by
  obtain ⟨dx, h⟩ := h
  exact ⟨dx, x.ins h⟩
abbrev gd (o u : Int) : Int := ((o.natAbs.gcd u.natAbs : Nat) : Int)
theorem log_lt {m k : Nat} (h : m < 2 ^ k) (hk : 0 < k) : m.log2 < k := by
  by_cases c : m = 0
  · subst c; simpa using hk
  · exact (Nat.log2_lt c).mpr h
theorem log60 {j : Int} (h : 0 < j) (h2 : j ≤ 2 ^ 60) : j.natAbs.log2 < 9000 := Nat.lt_trans (log_lt (k := 61) (by omega) (by decide)) (by decide)
section
variable {Z : Wd} {TC SC : Addr}
abbrev N_Sinit : List Str := ["self", "over", "under", "common"]
theorem S_Sinit : FnScope N_Sinit ["self", "over", "under"] (defScope s_Sinit) := ⟨rfl, rfl, rfl, by decide +kernel, rfl, by decide +kernel, by decide +kernel⟩
theorem B_Sinit : Bnd "__init__" "Share.__init__" s_Sinit ["self", "over", "under"] := fun _ _ _ _ _ _ us hl => match us, hl with | [_, _, _], _ => rfl
abbrev p_Sinit (SC : Addr) : Sp := sp3 fun a b c H Q _ => ∃ x dx o u, a = .ref x ∧ b = .int o ∧ c = .int u ∧ H x = some (.ins SC dx []) ∧ 0 < u ∧ u ≤ 2 ^ 60 ∧
  ∀ H', XS x H H' → H' x = some (.ins SC dx (sfl (o / gd o u) (u / gd o u))) → Q .non H'
theorem gd_pos {o u : Int} (h : 0 < u) : 0 < gd o u := by
  have : 0 < o.natAbs.gcd u.natAbs := Nat.gcd_pos_of_pos_right _ (by omega)
  unfold gd; omega
theorem gd_le {o u : Int} (h : 0 < u) : gd o u ≤ u := by
  have : o.natAbs.gcd u.natAbs ≤ u.natAbs := Nat.gcd_le_right _ (by omega)
  unfold gd; omega
theorem c_Sinit (T : Tx Z TC SC) (F : MFn Z SC "Share" "Share.__init__" s_Sinit) (c_is_integer : Cl Z CX0 1 "is_integer" p_is_integer) : Mkr Z 2 SC "Share" (p_Sinit SC) := by
  refine F.mk S_Sinit B_Sinit len3 fun f cdv A outer s H vs Q E hr h => ?_
  obtain ⟨_, _, _, rfl, x, dx, o, u, rfl, rfl, rfl, hx, u0, u60, k⟩ := h
  have nd := S_Sinit.nd
  have gp := gd_pos (o := o) u0
  have gl := gd_le (o := o) u0
  have gl2 : gd o u ≤ 2 ^ 60 := Int.le_trans gl u60
  refine ⟨_, (pss_cons (ps_if (pt_not (pt_val (pe_cl c_is_integer (hr.mono (by decide)) rfl pass0 (pa_cons (pv 1) pa_nil)))) (pss_one ps_never) pss_nil)
  (pss_cons (ps_if (PW.pt (pw_or (pt_not (pt_val (pe_cl c_is_integer (hr.mono (by decide)) rfl pass0 (pa_cons (pv 2) pa_nil)))) (pw_or1 (pt_cmpR op_eq (pv 2) pe_int (nomark _))))) (pss_one ps_never) pss_nil)
  (pss_cons (ps_set (i := 3) nd rfl (Or.inl rfl) (pe_callBfun cr_gcd rfl T.m_gcd (pa_cons (pv 1) (pa_cons (pv 2) pa_nil))))
  (pss_cons (ps_if (pt_cmpR op_lt (pv 2) pe_int (nomark _)) (pss_one (ps_set (i := 3) nd rfl (Or.inl rfl) (pe_un un_neg (pv 3)))) pss_nil)
  (pss_cons (ps_fld (pv 0) (pe_op op_fdivW (pv 1) (pv 3)) rfl)
  (pss_one (ps_fld (pv 0) (pe_op op_fdivW (pv 2) (pv 3)) rfl))))))), ?_⟩
  show tSeq _ _ _ [some (.ref x), some (.int o), some (.int u), none] H
  repeat walk_at "st"
  refine ⟨trivial, ?_⟩
  repeat walk_at "st"
  refine iteF ?_
  repeat walk_at "st"
  refine ⟨trivial, ?_⟩
  repeat walk_at "st"
  refine iteF ?_
  repeat walk_at "st"
  rw [decide_eq_false (by omega)]
  refine iteF ?_
  repeat walk_at "st"
  refine ⟨o, u, rfl, ?_⟩
  repeat walk_at "st"
  rw [decide_eq_false (by omega)]
  refine iteF ?_
  repeat walk_at "st"
  refine w_I ⟨gp, log60 gp gl2⟩ ?_
  repeat walk_at "st"
  refine ⟨x, SC, dx, [], rfl, hx, T.cS, T.nSo, by decide, ?_⟩
  repeat walk_at "st"
  refine w_I ⟨gp, log60 gp gl2⟩ ?_
  repeat walk_at "st"
  refine ⟨x, SC, dx, _, rfl, upd_same, T.cS, T.nSu, by show 1 < 1000; decide, ?_⟩
  rw [upd_upd]
  refine k _ (XS.rfl'.put (.inr rfl) (.inr ⟨_, hx, fun t z => by cases z⟩)) ?_
  rw [upd_same, putF_o, putF_u]
/-- Share(o, u) -/
theorem w_mkS {H : Hp} {Qe : VK} {E : XK} {o u : Int} (u0 : 0 < u) (u60 : u ≤ 2 ^ 60)
    (k : ∀ H' x, H x = none → XT H H' → Shr SC H' x (o / gd o u) (u / gd o u) → Qe (.ref x) H') :
    rMk SC (p_Sinit SC) E [.int o, .int u] H Qe := by
  intro x dx nx ndx ne
  have x1 : XT H (upd (upd H dx (HO.own x)) x (HO.ins SC dx [])) := new2 nx ndx ne
  refine ⟨_, _, _, rfl, x, dx, o, u, rfl, rfl, rfl, upd_same, u0, u60, fun H' y a => ⟨rfl, ?_⟩⟩
  exact k H' x nx (y.xt x1 nx) ⟨dx, a⟩
/-! ### mending -/
theorem xor_nat (a b : Nat) : Builtin.bitXor (a : Int) (b : Int) = ((a ^^^ b : Nat) : Int) := by
  rw [Bits.bitXor_pp (Int.natCast_nonneg _) (Int.natCast_nonneg _), Int.toNat_natCast, Int.toNat_natCast]
theorem num_of {n x : Nat} (h : x < 2 ^ n) : M.num (M.wd n x) = (x : Int) := by rw [M.num_wd, Nat.mod_eq_of_lt h]
abbrev N_mended : List Str := ["table", "word", "by", "one", "other"]
theorem S_mended : FnScope N_mended ["table", "word", "by"] (defScope s_mended) := ⟨rfl, rfl, rfl, by decide +kernel, rfl, by decide +kernel, by decide +kernel⟩
theorem B_mended : Bnd "mended" "mended" s_mended ["table", "word", "by"] := fun _ _ _ _ _ _ us hl => match us, hl with | [_, _, _], _ => rfl
abbrev p_mended (TC TA : Addr) : Sp := sp3 fun a b c H Q _ => ∃ t p q n F x y, a = .ref t ∧ b = .ref p ∧ c = .ref q ∧ Tbl TC H t n F ∧ Wo H p n x ∧ Wo H q n y ∧ x < 2 ^ n ∧ y < 2 ^ n ∧ GxR.TabG H TA ∧ ∀ H', XT H H' → Q (.int (M.b2 (F (x ^^^ y) ^^ F y))) H'
theorem c_mended (T : Tx Z TC SC) {TA : Addr} (F : Fn Z "mended" "mended" s_mended) (c_is_word : Cl Z CX0 10 "is_word" (p_is_word TA)) (c_bits_number : Cl Z CX0 1 "bits_number" p_bits_number) : Cl Z CX0 11 "mended" (p_mended TC TA) := by
  refine F.cl S_mended B_mended len3 fun f cdv A outer s H vs Q E hr h => ?_
  obtain ⟨_, _, _, rfl, t, p, q, n, F, x, y, rfl, rfl, rfl, ⟨⟨dt, qt, ht, bt⟩, n1, n6⟩, hp, hq, hx, hy, hA, k⟩ := h
  have nd := S_mended.nd
  refine ⟨_, (pss_cons (ps_for PassesOwn.never rfl (pi_tupK (K := Z.K) (pe_tup (pa_cons (pv 1) (pa_cons (pv 2) pa_nil)))) (pg_name (i := 3) nd rfl (Or.inl rfl))
  (pss_one (ps_if (pt_not (pt_val (pe_cl c_is_word (hr.mono (by decide)) rfl pass0 (pa_cons (pv 3) (pa_cons (pe_fldK (K := Z.K) (pv 0) rfl) pa_nil))))) (pss_one ps_never) pss_nil)))
  (pss_cons (ps_set (i := 4) nd rfl (Or.inl rfl) (pe_cl c_bits_number (hr.mono (by decide)) rfl pass0 (pa_cons (pv 2) pa_nil)))
  (pss_one (ps_ret (pe_op op_xor (pe_ix (ix_seqK (K := Z.K)) (pe_fldK (K := Z.K) (pv 0) rfl) (pe_op op_xor (pe_cl c_bits_number (hr.mono (by decide)) rfl pass0 (pa_cons (pv 1) pa_nil)) (pv 4)) (fun _ _ => rfl)) (pe_ix (ix_seqK (K := Z.K)) (pe_fldK (K := Z.K) (pv 0) rfl) (pv 4) (fun _ _ => rfl))))))), ?_⟩
  show tSeq _ _ _ [some (.ref t), some (.ref p), some (.ref q), none, none] H
  repeat walk_at "st"
  refine ⟨by show 2 ≤ sizeLine; decide, fun u hu => ?_⟩
  refine ⟨u, rfl, ⟨_, SqT.of upd_same⟩, ?_⟩
  have x0 : XT H (upd H u (.tup [.ref p, .ref q])) := XT.new hu
  refine for_lit (walk_tup (K := Z.K) (a := u) (xs := [.ref p, .ref q])) (fun i σ H2 => XT (upd H u (.tup [.ref p, .ref q])) H2 ∧ ∃ z, σ = [some (.ref t), some (.ref p), some (.ref q), z, none]) ⟨XT.rfl', none, rfl⟩ (fun i σ H2 _ h2 => SqT.of (h2.1.tup upd_same)) ?_ ?_
  · rintro i v σ H2 H3 hi ⟨x2, z, rfl⟩ ⟨rfl, hv⟩
    have x02 := x0.trans x2
    obtain ⟨r, w, rfl, hr2⟩ : ∃ r w, v = .ref r ∧ Wo H3 r n w := by
      match i, hi, hv with
      | 0, _, hv => cases hv; exact ⟨p, x, rfl, x02.tup hp⟩
      | 1, _, hv => cases hv; exact ⟨q, y, rfl, x02.tup hq⟩
      | i + 2, hi, _ => exact absurd hi (by show ¬ (i + 2 < 2); omega)
    refine w_name (σ' := [some (.ref t), some (.ref p), some (.ref q), some (.ref r), none]) rfl ?_
    repeat walk_at "st"
    refine rT_n T (x02.ins ht) ?_
    repeat walk_at "st"
    refine ⟨r, _, rfl, by rw [M.wd_len], hr2.bts, by rw [M.wd_len]; omega, by rw [M.wd_len]; omega, x02.tab _ hA, fun H1 x1 => ?_⟩
    repeat walk_at "st"
    refine iteF ?_
    repeat walk_at "st"
    exact ⟨x2.trans x1, some (.ref r), rfl⟩
  · rintro σ H2 ⟨x2, z, rfl⟩
    have x02 := x0.trans x2
    repeat walk_at "st"
    refine ⟨q, _, rfl, x02.tup hq, ?_⟩
    repeat walk_at "st"
    refine rT_b T (x02.ins ht) ?_
    repeat walk_at "st"
    refine ⟨p, _, rfl, x02.tup hp, ?_⟩
    repeat walk_at "st"
    rw [num_of hx, num_of hy, xor_nat]
    refine w_ixt (SqT.of (x02.tup bt)) (iv_at (Nat.xor_lt_two_pow hx hy)) ?_
    repeat walk_at "st"
    refine rT_b T (x02.ins ht) ?_
    repeat walk_at "st"
    refine w_ixt (SqT.of (x02.tup bt)) (iv_at hy) ?_
    repeat walk_at "st"
    rw [xor01]
    exact k H2 x02
abbrev N_ones_of : List Str := ["table", "word", "place", "other"]
theorem S_ones_of : FnScope N_ones_of ["table", "word"] (defScope s_ones_of) := ⟨rfl, rfl, rfl, by decide +kernel, rfl, by decide +kernel, by decide +kernel⟩
theorem B_ones_of : Bnd "ones_of" "ones_of" s_ones_of ["table", "word"] := fun _ _ _ _ _ _ us hl => match us, hl with | [_, _], _ => rfl
abbrev onesN (n : Nat) (F : Nat → Bool) (x : Nat) : Int := M.S n fun y => M.b2 (F (x ^^^ y) ^^ F y)
abbrev p_ones_of (TC TA TO : Addr) : Sp := sp2 fun a b H Q _ => ∃ t p n F x, a = .ref t ∧ b = .ref p ∧ Tbl TC H t n F ∧ Wo H p n x ∧ x < 2 ^ n ∧ GxR.TabG H TA ∧ GxR.TabG H TO ∧ ∀ H', XT H H' → Q (.int (onesN n F x)) H'
theorem c_ones_of (T : Tx Z TC SC) {TA TO : Addr} (F : FnT Z "ones_of" "ones_of" s_ones_of TO) (c_is_word : Cl Z CX0 10 "is_word" (p_is_word TA)) (c_bits_number : Cl Z CX0 1 "bits_number" p_bits_number) : Cl Z CX0 11 "ones_of" (p_ones_of TC TA TO) := by
  refine F.cl S_ones_of B_ones_of len2 fun f c A outer s H vs Q E TB hr h => ?_
  obtain ⟨_, _, rfl, t, p, n, F, x, rfl, rfl, ⟨⟨dt, qt, ht, bt⟩, n1, n6⟩, hp, hx, hA, hO, k⟩ := h
  have nd := S_ones_of.nd
  have p6 := pow6 n6
  obtain ⟨q6, r6⟩ := pow6i n6
  refine ⟨_, (pss_cons (ps_if (pt_not (pt_val (pe_cl c_is_word (hr.mono (by decide)) rfl pass0 (pa_cons (pv 1) (pa_cons (pe_fldK (K := Z.K) (pv 0) rfl) pa_nil))))) (pss_one ps_never) pss_nil)
  (pss_cons (ps_set (i := 2) nd rfl (Or.inr rfl) (pe_cl c_bits_number (hr.mono (by decide)) rfl pass0 (pa_cons (pv 1) pa_nil)))
  (pss_one (ps_ret (Gx.pe_gxSum (k := 0) (own := [("other", 3)]) (hr.mono (by decide)) ⟨rfl, TB, rfl, ⟨rfl, by decide +kernel, by rfl⟩, blkOk_by (N := N_ones_of) (sc := defScope s_ones_of) (by decide +kernel), nd, (pi_range1 rfl T.b_range (pa_cons (pe_callB (call_lenK (K := Z.K)) rfl T.b_len (by decide +kernel) (pa_cons (pe_fldK (K := Z.K) (pv 0) rfl) pa_nil)) pa_nil)), (fun _ _ _ _ _ _ _ hr => (pg_name (i := 3) nd rfl (Or.inl rfl))), (fun _ _ _ _ _ _ _ hr => pts_nil), (fun _ _ _ _ _ _ _ hr => (pe_op op_xor (pe_ix (ix_seqK (K := Z.K)) (pe_fldK (K := Z.K) (pv 0) rfl) (pe_op op_xor (pv 2) (pv 3)) (fun _ _ => rfl)) (pe_ix (ix_seqK (K := Z.K)) (pe_fldK (K := Z.K) (pv 0) rfl) (pv 3) (fun _ _ => rfl))))⟩ rfl T.b_sum))))), ?_⟩
  show tSeq _ _ _ [some (.ref t), some (.ref p), none, none] H
  repeat walk_at "st"
  refine rT_n T ht ?_
  repeat walk_at "st"
  refine ⟨p, _, rfl, by rw [M.wd_len], hp.bts, by rw [M.wd_len]; omega, by rw [M.wd_len]; omega, hA, fun H1 x1 => ?_⟩
  repeat walk_at "st"
  refine iteF ?_
  repeat walk_at "st"
  refine ⟨p, _, rfl, x1.tup hp, ?_⟩
  rw [num_of hx]
  repeat walk_at "st"
  refine rT_b T (x1.ins ht) ?_
  repeat walk_at "st"
  refine ⟨qt, _, rfl, .inr (SqT.of (x1.tup bt)), ?_⟩
  repeat walk_at "st"
  rw [iv_len]
  refine ⟨_, rfl, by omega, by omega, ?_⟩
  rw [Int.toNat_natCast]
  refine gx_sum walk_rng (fun y => M.b2 (F (x ^^^ y) ^^ F y)) 1 (fun i hi => by have := b2_01 (F (x ^^^ i) ^^ F i); omega) (by decide) (by omega) (x1.tab _ hO) (fun _ _ => trivial) (fun i v H2 H3 hi x2 hy K1 hk => ?_) fun H2 x2 => ?_
  · obtain ⟨rfl, rfl⟩ := hy
    have x12 := x1.trans x2
    refine w_name (σ' := [some (.ref t), some (.ref p), some (.int (x : Int)), some (.int (i : Int))]) rfl ⟨rfl, ?_⟩
    repeat walk_at "st"
    refine rT_b T (x12.ins ht) ?_
    repeat walk_at "st"
    rw [xor_nat]
    refine w_ixt (SqT.of (x12.tup bt)) (iv_at (Nat.xor_lt_two_pow hx hi)) ?_
    repeat walk_at "st"
    refine rT_b T (x12.ins ht) ?_
    repeat walk_at "st"
    refine w_ixt (SqT.of (x12.tup bt)) (iv_at hi) ?_
    repeat walk_at "st"
    rw [xor01]
    exact hk _ XT.rfl'
  · rw [← M.S_list]
    exact k H2 (x1.trans x2)
abbrev N_one_share : List Str := ["table", "word"]
theorem S_one_share : FnScope N_one_share ["table", "word"] (defScope s_one_share) := ⟨rfl, rfl, rfl, by decide +kernel, rfl, by decide +kernel, by decide +kernel⟩
theorem B_one_share : Bnd "one_share" "one_share" s_one_share ["table", "word"] := fun _ _ _ _ _ _ us hl => match us, hl with | [_, _], _ => rfl
abbrev p_one_share (TC SC TA TO : Addr) : Sp := sp2 fun a b H Q _ => ∃ t p n F x, a = .ref t ∧ b = .ref p ∧ Tbl TC H t n F ∧ Wo H p n x ∧ x < 2 ^ n ∧ GxR.TabG H TA ∧ GxR.TabG H TO ∧ ∀ H' r, XT H H' → Shr SC H' r (onesN n F x / gd (onesN n F x) ((2 ^ n : Nat) : Int)) (((2 ^ n : Nat) : Int) / gd (onesN n F x) ((2 ^ n : Nat) : Int)) → Q (.ref r) H'
theorem c_one_share (T : Tx Z TC SC) {TA TO : Addr} (F : Fn Z "one_share" "one_share" s_one_share) (c_ones_of : Cl Z CX0 11 "ones_of" (p_ones_of TC TA TO)) (c_mkShare : Mkr Z 2 SC "Share" (p_Sinit SC)) : Cl Z CX0 12 "one_share" (p_one_share TC SC TA TO) := by
  refine F.cl S_one_share B_one_share len2 fun f cdv A outer s H vs Q E hr h => ?_
  obtain ⟨_, _, rfl, t, p, n, F, x, rfl, rfl, tb, hp, hx, hA, hO, k⟩ := h
  obtain ⟨⟨dt, qt, ht, bt⟩, n1, n6⟩ := id tb
  have nd := S_one_share.nd
  obtain ⟨q6, r6⟩ := pow6i n6
  refine ⟨_, (pss_one (ps_ret (pe_mk c_mkShare (hr.mono (by decide)) rfl pass0 (pa_cons (pe_cl c_ones_of (hr.mono (by decide)) rfl pass0 (pa_cons (pv 0) (pa_cons (pv 1) pa_nil))) (pa_cons (pe_callB (call_lenK (K := Z.K)) rfl T.b_len (by decide +kernel) (pa_cons (pe_fldK (K := Z.K) (pv 0) rfl) pa_nil)) pa_nil))))), ?_⟩
  show tRet _ _ [some (.ref t), some (.ref p)] H
  repeat walk_at "st"
  refine ⟨t, p, n, F, x, rfl, rfl, tb, hp, hx, hA, hO, fun H1 x1 => ?_⟩
  repeat walk_at "st"
  refine rT_b T (x1.ins ht) ?_
  repeat walk_at "st"
  refine ⟨qt, _, rfl, .inr (SqT.of (x1.tup bt)), ?_⟩
  repeat walk_at "st"
  rw [iv_len]
  exact w_mkS (by omega) (by omega) fun H2 r _ x2 hs => k H2 r (x1.trans x2) hs
/-! ### nearest -/
abbrev N_greatest_of : List Str := ["numbers", "number"]
theorem S_greatest_of : FnScope N_greatest_of ["numbers"] (defScope s_greatest_of) := ⟨rfl, rfl, rfl, by decide +kernel, rfl, by decide +kernel, by decide +kernel⟩
theorem B_greatest_of : Bnd "greatest_of" "greatest_of" s_greatest_of ["numbers"] := fun _ _ _ _ _ _ us hl => match us, hl with | [_], _ => rfl
abbrev IsMax (n : Nat) (g : Nat → Int) (m : Int) : Prop := (∃ i, i < 2 ^ n ∧ g i = m) ∧ ∀ i, i < 2 ^ n → g i ≤ m
abbrev p_greatest_of (TG : Addr) : Sp := sp1 fun a H Q _ => ∃ p n g, a = .ref p ∧ H p = some (.tup (iv n g)) ∧ GxR.TabG H TG ∧ ∀ H' m, XT H H' → IsMax n g m → Q (.int m) H'
theorem c_greatest_of (T : Tx Z TC SC) {TG : Addr} (F : FnT Z "greatest_of" "greatest_of" s_greatest_of TG) : Cl Z CX0 5 "greatest_of" (p_greatest_of TG) := by
  refine F.cl S_greatest_of B_greatest_of len1 fun f c A outer s H vs Q E TB hr h => ?_
  obtain ⟨_, rfl, p, n, g, rfl, hp, hG, k⟩ := h
  have nd := S_greatest_of.nd
  refine ⟨_, (pss_one (ps_ret (Gx.pe_gxMax (k := 0) (own := [("number", 1)]) (hr.mono (by decide)) ⟨rfl, TB, rfl, ⟨rfl, by decide +kernel, by rfl⟩, blkOk_by (N := N_greatest_of) (sc := defScope s_greatest_of) (by decide +kernel), nd, (pi_tupK (K := Z.K) (pv 0)), (fun _ _ _ _ _ _ _ hr => (pg_name (i := 1) nd rfl (Or.inl rfl))), (fun _ _ _ _ _ _ _ hr => pts_nil), (fun _ _ _ _ _ _ _ hr => (pe_callTy call_intN rfl T.b_int (by decide +kernel) (pa_cons (pv 1) pa_nil)))⟩ rfl T.b_max))), ?_⟩
  show tRet _ _ [some (.ref p), none] H
  repeat walk_at "st"
  refine ⟨p, rfl, ⟨_, SqT.of hp⟩, ?_⟩
  refine gx_max (walk_tup (K := Z.K) (a := p) (xs := iv n g)) g (by rw [iv_len]; exact M.pow_pos2 n) hG (fun H1 x1 => SqT.of (x1.tup hp)) (fun i v H2 H3 hi x2 hy K1 hk => ?_) fun H2 m x2 h1 h2 => ?_
  · obtain ⟨rfl, hx⟩ := hy
    rw [iv_len] at hi
    rw [M.tab_get hi] at hx
    cases hx
    refine w_name (σ' := [some (.ref p), some (.int (g i))]) rfl ⟨rfl, ?_⟩
    repeat walk_at "st"
    exact w_int (hk _ XT.rfl')
  · rw [iv_len] at h1 h2
    exact k H2 m x2 ⟨h1, h2⟩
abbrev N_least_distance : List Str := ["table"]
theorem S_least_distance : FnScope N_least_distance ["table"] (defScope s_least_distance) := ⟨rfl, rfl, rfl, by decide +kernel, rfl, by decide +kernel, by decide +kernel⟩
theorem B_least_distance : Bnd "least_distance" "least_distance" s_least_distance ["table"] := fun _ _ _ _ _ _ us hl => match us, hl with | [_], _ => rfl
abbrev p_least_distance (TC TG : Addr) : Sp := sp1 fun a H Q _ => ∃ t n F, a = .ref t ∧ Tbl TC H t n F ∧ GxR.TabG H TG ∧ ∀ H' m, XT H H' → IsMax n (Wf n F) m → Q (.int ((((2 ^ n : Nat) : Int) - m).fdiv 2)) H'
theorem c_least_distance (T : Tx Z TC SC) {TG : Addr} (F : Fn Z "least_distance" "least_distance" s_least_distance) (c_signed_sums : Cl Z CX0 2 "signed_sums" (p_signed_sums TC)) (c_greatest_of : Cl Z CX0 5 "greatest_of" (p_greatest_of TG)) : Cl Z CX0 6 "least_distance" (p_least_distance TC TG) := by
  refine F.cl S_least_distance B_least_distance len1 fun f cdv A outer s H vs Q E hr h => ?_
  obtain ⟨_, rfl, t, n, F, rfl, tb, hG, k⟩ := h
  obtain ⟨⟨dt, qt, ht, bt⟩, n1, n6⟩ := id tb
  have nd := S_least_distance.nd
  refine ⟨_, (pss_one (ps_ret (pe_op op_fdivN (pe_op op_sub (pe_callB (call_lenK (K := Z.K)) rfl T.b_len (by decide +kernel) (pa_cons (pe_fldK (K := Z.K) (pv 0) rfl) pa_nil)) (pe_cl c_greatest_of (hr.mono (by decide)) rfl pass0 (pa_cons (pe_cl c_signed_sums (hr.mono (by decide)) rfl pass0 (pa_cons (pv 0) pa_nil)) pa_nil))) pe_int))), ?_⟩
  show tRet _ _ [some (.ref t)] H
  repeat walk_at "st"
  refine rT_b T ht ?_
  repeat walk_at "st"
  refine ⟨qt, _, rfl, .inr (SqT.of bt), ?_⟩
  repeat walk_at "st"
  rw [iv_len]
  refine ⟨t, n, F, rfl, tb, fun H1 p hp x1 h1 => ?_⟩
  repeat walk_at "st"
  refine ⟨p, n, _, rfl, h1, x1.tab _ hG, fun H2 m x2 hm => ?_⟩
  repeat walk_at "st"
  refine w_I (show CDivN _ _ from ⟨by decide, by decide⟩) ?_
  exact k H2 m (x1.trans x2) hm
abbrev N_nearest_sums : List Str := ["table", "greatest", "sums", "number"]
theorem S_nearest_sums : FnScope N_nearest_sums ["table"] (defScope s_nearest_sums) := ⟨rfl, rfl, rfl, by decide +kernel, rfl, by decide +kernel, by decide +kernel⟩
theorem B_nearest_sums : Bnd "nearest_sums" "nearest_sums" s_nearest_sums ["table"] := fun _ _ _ _ _ _ us hl => match us, hl with | [_], _ => rfl
/-- the words of the numbers that p takes, in order -/
abbrev Rows (H : Hp) (n : Nat) (p : Nat → Bool) (l : List V) : Prop := A2 (fun i v => ∃ q, v = .ref q ∧ Wo H q n i) ((List.range (2 ^ n)).filter p) l
abbrev p_nearest_sums (TC TG TW TN : Addr) : Sp := sp1 fun a H Q _ => ∃ t n F, a = .ref t ∧ Tbl TC H t n F ∧ GxR.TabG H TG ∧ GxR.TabG H TW ∧ GxR.TabG H TN ∧ ∀ H' q l m, XT H H' → H' q = some (.tup l) → IsMax n (Wf n F) m → Rows H' n (fun i => decide (Wf n F i = m)) l → Q (.ref q) H'
theorem c_nearest_sums (T : Tx Z TC SC) {TG TW TN : Addr} (F : FnT Z "nearest_sums" "nearest_sums" s_nearest_sums TN) (c_signed_sums : Cl Z CX0 2 "signed_sums" (p_signed_sums TC)) (c_greatest_of : Cl Z CX0 5 "greatest_of" (p_greatest_of TG)) (c_word_at : Cl Z CX0 5 "word_at" (p_word_at TW)) : Cl Z CX0 10 "nearest_sums" (p_nearest_sums TC TG TW TN) := by
  refine F.cl S_nearest_sums B_nearest_sums len1 fun f c A outer s H vs Q E TB hr h => ?_
  obtain ⟨_, rfl, t, n, F, rfl, tb, hG, hW, hN, k⟩ := h
  obtain ⟨⟨dt, qt, ht, bt⟩, n1, n6⟩ := id tb
  have nd := S_nearest_sums.nd
  have p6 := pow6 n6
  obtain ⟨q6, r6⟩ := pow6i n6
  refine ⟨_, (pss_cons (ps_set (i := 2) nd rfl (Or.inr rfl) (pe_cl c_signed_sums (hr.mono (by decide)) rfl pass0 (pa_cons (pv 0) pa_nil)))
  (pss_cons (ps_set (i := 1) nd rfl (Or.inr rfl) (pe_cl c_greatest_of (hr.mono (by decide)) rfl pass0 (pa_cons (pv 2) pa_nil)))
  (pss_one (ps_ret (Gx.pe_gxTup (k := 5) (own := [("number", 3)]) (hr.mono (by decide)) ⟨rfl, TB, rfl, ⟨rfl, by decide +kernel, by rfl⟩, blkOk_by (N := N_nearest_sums) (sc := defScope s_nearest_sums) (by decide +kernel), nd, (pi_range1 rfl T.b_range (pa_cons (pe_callB (call_lenK (K := Z.K)) rfl T.b_len (by decide +kernel) (pa_cons (pv 2) pa_nil)) pa_nil)), (fun _ _ _ _ _ _ _ hr => (pg_name (i := 3) nd rfl (Or.inl rfl))), (fun _ _ _ _ _ _ _ hr => (pts_one (pt_cmpR op_eq (pe_ix (ix_seqK (K := Z.K)) (pv 2) (pv 3) (fun _ _ => rfl)) (pv 1) (nomark _)))), (fun _ _ _ _ _ _ _ hr => (pe_cl c_word_at (hr.mono (by decide)) rfl pass0 (pa_cons (pe_fldK (K := Z.K) (pv 0) rfl) (pa_cons (pv 3) pa_nil))))⟩ rfl T.b_tuple))))), ?_⟩
  show tSeq _ _ _ [some (.ref t), none, none, none] H
  repeat walk_at "st"
  refine ⟨t, n, F, rfl, tb, fun H1 p hp x1 h1 => ?_⟩
  repeat walk_at "st"
  refine ⟨p, n, _, rfl, h1, x1.tab _ hG, fun H2 m x2 hm => ?_⟩
  repeat walk_at "st"
  have x12 := x1.trans x2
  refine ⟨p, _, rfl, .inr (SqT.of (x2.tup h1)), ?_⟩
  repeat walk_at "st"
  rw [iv_len]
  refine ⟨_, rfl, by omega, by omega, ?_⟩
  rw [Int.toNat_natCast]
  refine gx_tupF walk_rng (fun i => decide (Wf n F i = m)) (fun i v H => ∃ q, v = .ref q ∧ Wo H q n i) (fun i v H H' ⟨q, e, h⟩ x => ⟨q, e, x.tup h⟩) (Nat.lt_of_le_of_lt p6 (by decide)) (x12.tab _ hN) (fun _ _ => trivial) (fun i v H3 H4 hi x3 hy K1 K0 hk1 hk0 => ?_) fun H3 q l x3 hq hl => ?_
  · obtain ⟨rfl, rfl⟩ := hy
    have x13 := x12.trans x3
    refine w_name (σ' := [some (.ref t), some (.int m), some (.ref p), some (.int (i : Int))]) rfl ⟨rfl, ?_⟩
    repeat walk_at "st"
    refine w_ixt (SqT.of ((x2.trans x3).tup h1)) (iv_at hi) ?_
    repeat walk_at "st"
    by_cases c : Wf n F i = m
    · rw [decide_eq_true c] at hk1 ⊢
      refine iteT ?_
      repeat walk_at "st"
      refine rT_n T (x13.ins ht) ?_
      repeat walk_at "st"
      exact ⟨n, i, rfl, rfl, by omega, x13.tab _ hW, fun w H5 hw x5 hh => hk1 rfl _ _ x5 ⟨w, rfl, hh⟩⟩
    · rw [decide_eq_false c] at hk0 ⊢
      refine iteF ?_
      exact hk0 rfl _ XT.rfl'
  · exact k H3 q l m (x12.trans x3) hq hm hl
theorem w_slA {K : W.Frag} {a : Addr} {xs : List V} {lo hi : Option Int} {H : Hp} {Qe : VK} (h : H a = some (.tup xs)) (k : ∀ q H', XT H H' → H' q = some (.tup (cutV xs lo hi)) → Qe (.ref q) H') : rSlA K (.ref a) lo hi H Qe := by
  refine ⟨a, xs, rfl, SqT.of h, fun ⟨e1, e2⟩ => k a H XT.rfl' ?_, fun _ p hp => k p _ (XT.new hp) upd_same⟩
  rw [h]
  unfold cutV
  rw [e1, e2]
  simp
theorem cut_iv {n a m : Nat} {g : Nat → Int} (h : a + m ≤ 2 ^ n) : cutV (iv n g) (some ((a : Nat) : Int)) (some ((a + m : Nat) : Int)) = (List.range m).map fun i => V.int (g (a + i)) := by
  unfold cutV
  rw [HT.sIx_nat, HT.sIx_nat, iv_len, Nat.min_eq_left h, Nat.min_eq_left (by omega)]
  apply List.ext_getElem?
  intro i
  rw [show a + m - a = m by omega, List.getElem?_take]
  by_cases c : i < m
  · rw [if_pos c, List.getElem?_drop, M.tab_get (by omega)]
    simp [c]
  · rw [if_neg c, List.getElem?_eq_none (by rw [List.length_map, List.length_range]; omega)]
abbrev N_beginning_weight : List Str := ["table", "beginning", "many", "first", "number"]
theorem S_beginning_weight : FnScope N_beginning_weight ["table", "beginning"] (defScope s_beginning_weight) := ⟨rfl, rfl, rfl, by decide +kernel, rfl, by decide +kernel, by decide +kernel⟩
theorem B_beginning_weight : Bnd "beginning_weight" "beginning_weight" s_beginning_weight ["table", "beginning"] := fun _ _ _ _ _ _ us hl => match us, hl with | [_, _], _ => rfl
/-- the numbers whose word begins with the word of b (k bits) -/
abbrev wgt (n k b : Nat) (g : Nat → Int) : Int := ((List.range (2 ^ (n - k))).map fun i => g (b * 2 ^ (n - k) + i) * g (b * 2 ^ (n - k) + i)).sum
abbrev p_beginning_weight (TC TA TB : Addr) : Sp := sp2 fun a b' H Q _ => ∃ t p n F k b, a = .ref t ∧ b' = .ref p ∧ Tbl TC H t n F ∧ Wo H p k b ∧ k ≤ n ∧ b < 2 ^ k ∧ GxR.TabG H TA ∧ GxR.TabG H TB ∧ ∀ H', XT H H' → Q (.int (wgt n k b (Wf n F))) H'
theorem fs_1 (F : Nat → Bool) (x : Nat) : fs F x = 1 ∨ fs F x = -1 := by unfold fs M.sg; cases F x <;> simp
theorem Wf_b {n : Nat} (n6 : n ≤ 6) (F : Nat → Bool) (a : Nat) : -64 ≤ Wf n F a ∧ Wf n F a ≤ 64 := by
  have h : -2 ^ n ≤ Wf n F a ∧ Wf n F a ≤ 2 ^ n := M.W_bound (n := n) (f := fs F) (fun x _ => fs_1 F x) a
  have := pow6i n6
  rw [show ((2 ^ n : Nat) : Int) = (2 : Int) ^ n from by simp] at this
  omega
theorem c_beginning_weight (T : Tx Z TC SC) {TA TB' : Addr} (F : FnT Z "beginning_weight" "beginning_weight" s_beginning_weight TB') (c_is_bits : Cl Z CX0 8 "is_bits" (p_is_bits TA)) (c_bits_number : Cl Z CX0 1 "bits_number" p_bits_number) (c_signed_sums : Cl Z CX0 2 "signed_sums" (p_signed_sums TC)) : Cl Z CX0 9 "beginning_weight" (p_beginning_weight TC TA TB') := by
  refine F.cl S_beginning_weight B_beginning_weight len2 fun f c A outer s H vs Q E TB hr h => ?_
  obtain ⟨_, _, rfl, t, p, n, F, k, b, rfl, rfl, tb, hp, hk, hb, hA, hB, kk⟩ := h
  obtain ⟨⟨dt, qt, ht, bt⟩, n1, n6⟩ := id tb
  have nd := S_beginning_weight.nd
  have p6 := pow6 n6
  have pk := pow6i (n := n - k) (by omega)
  have pk2 := pow6 (n := n - k) (by omega)
  have pn : 2 ^ k * 2 ^ (n - k) = 2 ^ n := by rw [← Nat.pow_add]; congr 1; omega
  have hlt : b * 2 ^ (n - k) + 2 ^ (n - k) ≤ 2 ^ n := by
    rw [← pn, ← Nat.succ_mul]
    exact Nat.mul_le_mul_right _ hb
  refine ⟨_, (pss_cons (ps_if (PW.pt (pw_or (pt_not (pt_val (pe_cl c_is_bits (hr.mono (by decide)) rfl pass0 (pa_cons (pv 1) pa_nil)))) (pw_or1 (pt_cmpR op_gt (pe_callB (call_lenK (K := Z.K)) rfl T.b_len (by decide +kernel) (pa_cons (pv 1) pa_nil)) (pe_fldK (K := Z.K) (pv 0) rfl) (nomark _))))) (pss_one ps_never) pss_nil)
  (pss_cons (ps_set (i := 2) nd rfl (Or.inl rfl) (pe_op op_shl pe_int (pe_op op_sub (pe_fldK (K := Z.K) (pv 0) rfl) (pe_callB (call_lenK (K := Z.K)) rfl T.b_len (by decide +kernel) (pa_cons (pv 1) pa_nil)))))
  (pss_cons (ps_set (i := 3) nd rfl (Or.inl rfl) (pe_op op_mul (pe_cl c_bits_number (hr.mono (by decide)) rfl pass0 (pa_cons (pv 1) pa_nil)) (pv 2)))
  (pss_one (ps_ret (Gx.pe_gxSum (k := 0) (own := [("number", 4)]) (hr.mono (by decide)) ⟨rfl, TB, rfl, ⟨rfl, by decide +kernel, by rfl⟩, blkOk_by (N := N_beginning_weight) (sc := defScope s_beginning_weight) (by decide +kernel), nd, (pi_tupK (K := Z.K) (pe_slice (sl_tupAK (K := Z.K)) (pe_cl c_signed_sums (hr.mono (by decide)) rfl pass0 (pa_cons (pv 0) pa_nil)) (po_some (pv 3)) (po_some (pe_op op_add (pv 3) (pv 2))))), (fun _ _ _ _ _ _ _ hr => (pg_name (i := 4) nd rfl (Or.inl rfl))), (fun _ _ _ _ _ _ _ hr => pts_nil), (fun _ _ _ _ _ _ _ hr => (pe_op op_mul (pv 4) (pv 4)))⟩ rfl T.b_sum)))))), ?_⟩
  show tSeq _ _ _ [some (.ref t), some (.ref p), none, none, none] H
  repeat walk_at "st"
  refine ⟨p, _, rfl, hp.bts, hA, fun H1 x1 => ?_⟩
  repeat walk_at "st"
  refine iteF ?_
  repeat walk_at "st"
  refine ⟨p, _, rfl, .inr (SqT.of (x1.tup hp)), ?_⟩
  repeat walk_at "st"
  refine rT_n T (x1.ins ht) ?_
  repeat walk_at "st"
  rw [List.length_map, M.wd_len, decide_eq_false (by omega)]
  refine iteF ?_
  repeat walk_at "st"
  refine rT_n T (x1.ins ht) ?_
  repeat walk_at "st"
  refine ⟨p, _, rfl, .inr (SqT.of (x1.tup hp)), ?_⟩
  repeat walk_at "st"
  rw [List.length_map, M.wd_len]
  refine w_I (by refine ⟨by omega, by omega, by decide⟩) ?_
  repeat walk_at "st"
  refine ⟨p, _, rfl, x1.tup hp, ?_⟩
  rw [num_of hb, show ((n : Nat) : Int) - ((k : Nat) : Int) = ((n - k : Nat) : Int) by omega, shl1]
  repeat walk_at "st"
  refine w_I (.inr ⟨by omega, by omega⟩) ?_
  repeat walk_at "st"
  refine ⟨t, n, F, rfl, tb.ext x1, fun H2 w hw x2 h2 => ?_⟩
  repeat walk_at "st"
  have x12 := x1.trans x2
  rw [show ((b : Nat) : Int) * ((2 ^ (n - k) : Nat) : Int) = ((b * 2 ^ (n - k) : Nat) : Int) by simp]
  repeat walk_at "st"
  rw [show ((b * 2 ^ (n - k) : Nat) : Int) + ((2 ^ (n - k) : Nat) : Int) = ((b * 2 ^ (n - k) + 2 ^ (n - k) : Nat) : Int) by rw [Int.natCast_add]]
  refine w_slA h2 fun v H3 x3 h3 => ?_
  rw [cut_iv hlt] at h3
  refine ⟨v, rfl, ⟨_, SqT.of h3⟩, ?_⟩
  have bd : ∀ a, 0 ≤ Wf n F a * Wf n F a ∧ Wf n F a * Wf n F a ≤ 4096 := fun a => by
    have h := Wf_b n6 F a
    generalize Wf n F a = z at *
    have h1 : z.natAbs ≤ 64 := by omega
    have h2 : z.natAbs * z.natAbs ≤ 64 * 64 := Nat.mul_le_mul h1 h1
    rw [← Int.natAbs_mul_self' z]
    omega
  refine gx_sum (walk_tup (K := Z.K) (a := v) (xs := (List.range (2 ^ (n - k))).map fun i => V.int (Wf n F (b * 2 ^ (n - k) + i)))) (fun i => Wf n F (b * 2 ^ (n - k) + i) * Wf n F (b * 2 ^ (n - k) + i)) 4096 (fun i hi => by have := bd (b * 2 ^ (n - k) + i); omega) (by decide) (by rw [List.length_map, List.length_range]; omega) ((x12.trans x3).tab _ hB) (fun H4 x4 => SqT.of (x4.tup h3)) (fun i y H4 H5 hi x4 hy K1 hk => ?_) fun H4 x4 => ?_
  · obtain ⟨rfl, hx⟩ := hy
    rw [List.length_map, List.length_range] at hi
    rw [List.getElem?_map, List.getElem?_range hi] at hx
    cases hx
    refine w_name (σ' := [some (.ref t), some (.ref p), some (.int ((2 ^ (n - k) : Nat) : Int)), some (.int ((b * 2 ^ (n - k) : Nat) : Int)), some (.int (Wf n F (b * 2 ^ (n - k) + i)))]) rfl ⟨rfl, ?_⟩
    repeat walk_at "st"
    refine w_I (.inl ?_) ?_
    · have := Wf_b n6 F (b * 2 ^ (n - k) + i); omega
    · exact hk _ XT.rfl'
  · rw [List.length_map, List.length_range]
    exact kk H4 ((x12.trans x3).trans x4)
abbrev N_passes_sum : List Str := ["table", "words", "place", "total", "word", "number"]
theorem S_passes_sum : FnScope N_passes_sum ["table", "words"] (defScope s_passes_sum) := ⟨rfl, rfl, rfl, by decide +kernel, rfl, by decide +kernel, by decide +kernel⟩
theorem B_passes_sum : Bnd "passes_sum" "passes_sum" s_passes_sum ["table", "words"] := fun _ _ _ _ _ _ us hl => match us, hl with | [_, _], _ => rfl
/-- words: the tuple at q holds words of the numbers xs -/
inductive Ws (H : Hp) (n : Nat) : List V → List Nat → Prop
  | nil : Ws H n [] []
  | cons {p x l xs} : Wo H p n x → x < 2 ^ n → Ws H n l xs → Ws H n (.ref p :: l) (x :: xs)
theorem Ws.ext {H H' : Hp} {n : Nat} {l xs} (h : Ws H n l xs) (x : XT H H') : Ws H' n l xs := by
  induction h with
  | nil => exact .nil
  | cons a b _ ih => exact .cons (x.tup a) b ih
theorem Ws.len {H : Hp} {n : Nat} {l xs} (h : Ws H n l xs) : l.length = xs.length := by
  induction h with
  | nil => rfl
  | cons a b _ ih => simp [ih]
theorem Ws.nth {H : Hp} {n : Nat} {l : List V} {xs : List Nat} (h : Ws H n l xs) : ∀ {i : Nat} {v : V}, l[i]? = some v → ∃ (p : Addr) (x : Nat), v = .ref p ∧ xs[i]? = some x ∧ Wo H p n x ∧ x < 2 ^ n := by
  induction h with
  | nil => intro i v e; simp at e
  | cons a b _ ih =>
    intro i v e
    cases i with
    | zero => simp at e; subst e; exact ⟨_, _, rfl, rfl, a, b⟩
    | succ i => simp at e; obtain ⟨p, x, e1, e2, e3⟩ := ih e; exact ⟨p, x, e1, by simpa using e2, e3⟩
abbrev xorF (xs : List Nat) : Nat := xs.foldl (· ^^^ ·) 0
abbrev xorB (F : Nat → Bool) (xs : List Nat) : Bool := xs.foldl (fun t x => t ^^ F x) false
abbrev p_passes_sum (TC TA TS : Addr) : Sp := sp2 fun a b H Q _ => ∃ t q n F l xs, a = .ref t ∧ b = .ref q ∧ Tbl TC H t n F ∧ H q = some (.tup l) ∧ Ws H n l xs ∧ 0 < xs.length ∧ GxR.TabG H TA ∧ GxR.TabG H TS ∧ ∀ H', XT H H' → Q (.bl (xorB F xs == F (xorF xs))) H'
theorem xor_lt {n : Nat} : ∀ {xs : List Nat} {a : Nat}, a < 2 ^ n → (∀ x ∈ xs, x < 2 ^ n) → xs.foldl (· ^^^ ·) a < 2 ^ n := by
  intro xs
  induction xs with
  | nil => intro a h _; exact h
  | cons x r ih => intro a h hx; exact ih (Nat.xor_lt_two_pow h (hx x List.mem_cons_self)) fun y hy => hx y (List.mem_cons_of_mem _ hy)
theorem Ws.lt {H : Hp} {n : Nat} {l xs} (h : Ws H n l xs) : ∀ x ∈ xs, x < 2 ^ n := by
  induction h with
  | nil => intro x hx; cases hx
  | cons a b _ ih =>
    intro x hx
    rcases List.mem_cons.mp hx with rfl | hx
    · exact b
    · exact ih x hx
theorem takeS {α : Type} {l : List α} {i : Nat} {y : α} (h : l[i]? = some y) : l.take (i + 1) = l.take i ++ [y] := by
  rw [List.take_add_one, h]; rfl
theorem b2_eq {a b : Bool} : decide (M.b2 a = M.b2 b) = (a == b) := by cases a <;> cases b <;> decide
theorem c_passes_sum (T : Tx Z TC SC) {TA TS : Addr} (F : FnT Z "passes_sum" "passes_sum" s_passes_sum TS) (c_is_word : Cl Z CX0 10 "is_word" (p_is_word TA)) (c_bits_number : Cl Z CX0 1 "bits_number" p_bits_number) : Cl Z CX0 15 "passes_sum" (p_passes_sum TC TA TS) := by
  refine F.cl S_passes_sum B_passes_sum len2 fun f c A outer s H vs Q E TB hr h => ?_
  obtain ⟨_, _, rfl, t, q, n, F, l, xs, rfl, rfl, tb, hq, hl, h0, hA, hS, k⟩ := h
  obtain ⟨⟨dt, qt, ht, bt⟩, n1, n6⟩ := id tb
  have nd := S_passes_sum.nd
  have hlen := hl.len
  refine ⟨_, (pss_cons (ps_if (PW.pt (pw_or (pt_not (pt_val (pe_callB (call_isiK (K := Z.K)) rfl T.b_isinstance (by decide +kernel) (pa_cons (pv 1) (pa_cons (pe_bltn rfl T.b_tuple (by decide +kernel) (show RelV (.ty "tuple") (.type "tuple") from rfl)) pa_nil))))) (pw_or (pt_cmpR op_eq (pe_callB (call_lenK (K := Z.K)) rfl T.b_len (by decide +kernel) (pa_cons (pv 1) pa_nil)) pe_int (nomark _)) (pw_or1 (pt_not (pt_val (Gx.pe_gxAll (k := 10) (own := [("word", 4)]) (hr.mono (by decide)) ⟨rfl, TB, rfl, ⟨rfl, by decide +kernel, by rfl⟩, blkOk_by (N := N_passes_sum) (sc := defScope s_passes_sum) (by decide +kernel), nd, (pi_tupK (K := Z.K) (pv 1)), (fun _ _ _ _ _ _ _ hr => (pg_name (i := 4) nd rfl (Or.inl rfl))), (fun _ _ _ _ _ _ _ hr => pts_nil), (fun _ _ _ _ _ _ _ hr => (pe_cl c_is_word (hr.mono (by decide)) rfl pass0 (pa_cons (pv 4) (pa_cons (pe_fldK (K := Z.K) (pv 0) rfl) pa_nil))))⟩ rfl T.b_all))))))) (pss_one ps_never) pss_nil)
  (pss_cons (ps_set (i := 2) nd rfl (Or.inl rfl) pe_int)
  (pss_cons (ps_set (i := 3) nd rfl (Or.inl rfl) pe_int)
  (pss_cons (ps_for PassesOwn.never rfl (pi_tupK (K := Z.K) (pv 1)) (pg_name (i := 4) nd rfl (Or.inl rfl))
  (pss_cons (ps_set (i := 5) nd rfl (Or.inl rfl) (pe_cl c_bits_number (hr.mono (by decide)) rfl pass0 (pa_cons (pv 4) pa_nil)))
  (pss_cons (ps_set (i := 2) nd rfl (Or.inl rfl) (pe_op op_xor (pv 2) (pv 5)))
  (pss_one (ps_set (i := 3) nd rfl (Or.inl rfl) (pe_op op_xor (pv 3) (pe_ix (ix_seqK (K := Z.K)) (pe_fldK (K := Z.K) (pv 0) rfl) (pv 5) (fun _ _ => rfl))))))))
  (pss_one (ps_ret (pe_cmpR op_eq (pv 3) (pe_ix (ix_seqK (K := Z.K)) (pe_fldK (K := Z.K) (pv 0) rfl) (pv 2) (fun _ _ => rfl)) (nomark _)))))))), ?_⟩
  show tSeq _ _ _ [some (.ref t), some (.ref q), none, none, none, none] H
  repeat walk_at "st"
  refine isi (.base (.tup hq)) (kit_ty (r := true) (by decide +kernel)) (w_bl ?_)
  refine iteF ?_
  repeat walk_at "st"
  refine ⟨q, _, rfl, .inr (SqT.of hq), ?_⟩
  repeat walk_at "st"
  rw [decide_eq_false (by omega)]
  refine iteF ?_
  repeat walk_at "st"
  refine ⟨q, rfl, ⟨_, SqT.of hq⟩, ?_⟩
  refine gx_all (walk_tup (K := Z.K) (a := q) (xs := l)) (fun _ => true) hS (fun H1 x => SqT.of (x.tup hq)) (fun i v H1 H' hi x1 hy K1 hk => ?_) fun H1 x1 => ?_
  · obtain ⟨rfl, hx⟩ := hy
    obtain ⟨p, x, rfl, _, hw, hlt⟩ := (hl.ext x1).nth hx
    refine w_name (σ' := [some (.ref t), some (.ref q), none, none, some (.ref p), none]) rfl ⟨rfl, ?_⟩
    repeat walk_at "st"
    refine rT_n T (x1.ins ht) ?_
    repeat walk_at "st"
    exact ⟨p, _, rfl, by rw [M.wd_len], hw.bts, by rw [M.wd_len]; omega, by rw [M.wd_len]; omega, x1.tab _ hA, fun H2 x2 => hk _ x2⟩
  · rw [all_range_true fun _ _ => rfl]
    repeat walk_at "st"
    refine iteF ?_
    repeat walk_at "st"
    refine ⟨q, rfl, ⟨_, SqT.of (x1.tup hq)⟩, ?_⟩
    refine for_lit (walk_tup (K := Z.K) (a := q) (xs := l)) (fun i σ H2 => H2 = H1 ∧ ∃ z1 z2, σ = [some (.ref t), some (.ref q), some (.int ((xorF (xs.take i) : Nat) : Int)), some (.int (M.b2 (xorB F (xs.take i)))), z1, z2]) ⟨rfl, none, none, rfl⟩ (fun i σ H2 _ h => by rw [h.1]; exact SqT.of (x1.tup hq)) ?_ ?_
    · rintro i v σ H2 H3 hi ⟨rfl, z1, z2, rfl⟩ ⟨rfl, hv⟩
      obtain ⟨p, x, rfl, hx, hw, hlt⟩ := (hl.ext x1).nth hv
      refine w_name (σ' := [some (.ref t), some (.ref q), some (.int ((xorF (xs.take i) : Nat) : Int)), some (.int (M.b2 (xorB F (xs.take i)))), some (.ref p), z2]) rfl ?_
      repeat walk_at "st"
      refine ⟨p, _, rfl, hw, ?_⟩
      rw [num_of hlt]
      repeat walk_at "st"
      refine rT_b T (x1.ins ht) ?_
      repeat walk_at "st"
      refine w_ixt (SqT.of (x1.tup bt)) (iv_at hlt) ?_
      repeat walk_at "st"
      refine ⟨rfl, some (.ref p), some (.int (x : Int)), ?_⟩
      rw [xor_nat, xor01, takeS hx, show xorF (xs.take i ++ [x]) = xorF (xs.take i) ^^^ x from by unfold xorF; rw [List.foldl_append]; rfl, show xorB F (xs.take i ++ [x]) = (xorB F (xs.take i) ^^ F x) from by unfold xorB; rw [List.foldl_append]; rfl]
    · rintro σ H2 ⟨rfl, z1, z2, rfl⟩
      rw [hlen, List.take_length]
      repeat walk_at "st"
      refine rT_b T (x1.ins ht) ?_
      repeat walk_at "st"
      refine w_ixt (SqT.of (x1.tup bt)) (iv_at (xor_lt (M.pow_pos2 n) hl.lt)) ?_
      repeat walk_at "st"
      rw [b2_eq]
      exact k H2 x1
abbrev N_power_of : List Str := ["number", "many", "found", "_"]
theorem S_power_of : FnScope N_power_of ["number", "many"] (defScope s_power_of) := ⟨rfl, rfl, rfl, by decide +kernel, rfl, by decide +kernel, by decide +kernel⟩
theorem B_power_of : Bnd "power_of" "power_of" s_power_of ["number", "many"] := fun _ _ _ _ _ _ us hl => match us, hl with | [_, _], _ => rfl
abbrev p_power_of : Sp := sp2 fun a b H Q _ => ∃ (x : Int) (m : Nat), a = .int x ∧ b = .int (m : Nat) ∧ -64 ≤ x ∧ x ≤ 64 ∧ m ≤ 62 ∧ Q (.int (x ^ m)) H
theorem c_power_of (T : Tx Z TC SC) (F : Fn Z "power_of" "power_of" s_power_of) : Cl Z CX0 1 "power_of" p_power_of := by
  refine F.cl S_power_of B_power_of len2 fun f cdv A outer s H vs Q E hr h => ?_
  obtain ⟨_, _, rfl, x, m, rfl, rfl, x1, x2, hm, k⟩ := h
  have nd := S_power_of.nd
  refine ⟨_, (pss_cons (ps_set (i := 2) nd rfl (Or.inl rfl) pe_int)
  (pss_cons (ps_for PassesOwn.never rfl (pi_range1 rfl T.b_range (pa_cons (pv 1) pa_nil)) (pg_name (i := 3) nd rfl (Or.inl rfl))
  (pss_one (ps_set (i := 2) nd rfl (Or.inl rfl) (pe_op op_mul (pv 2) (pv 0)))))
  (pss_one (ps_ret (pv 2))))), ?_⟩
  show tSeq _ _ _ [some (.int x), some (.int m), none, none] H
  repeat walk_at "st"
  refine ⟨_, rfl, by omega, by omega, ?_⟩
  rw [Int.toNat_natCast]
  refine for_lit walk_rng (fun i σ H2 => H2 = H ∧ ∃ z, σ = [some (.int x), some (.int m), some (.int (x ^ i)), z]) ⟨rfl, none, by rw [Int.pow_zero]⟩ (fun _ _ _ _ _ => trivial) ?_ ?_
  · rintro i v σ H2 H3 hi ⟨rfl, z, rfl⟩ ⟨rfl, rfl⟩
    refine w_name (σ' := [some (.int x), some (.int m), some (.int (x ^ i)), some (.int (i : Nat))]) rfl ?_
    repeat walk_at "st"
    refine w_I (.inr ⟨by omega, by omega⟩) ?_
    exact ⟨rfl, some (.int (i : Nat)), by rw [Int.pow_succ]; rfl⟩
  · rintro σ H2 ⟨rfl, z, rfl⟩
    repeat walk_at "st"
    exact k
end
end Q
set_option Elab.async false
set_option linter.all false
set_option maxRecDepth 100000
set_option maxHeartbeats 1000000
namespace Q
open PySem PySem.Spec PyProof.Rows L2
local macro_rules | `(tactic| walk_at "st") => `(tactic| first
  | with_reducible refine w_seq ?_ | with_reducible refine w_next ?_ | with_reducible refine w_ret ?_ | with_reducible refine w_ifs ?_ | with_reducible refine w_asg ?_ | with_reducible refine w_drop ?_
  | with_reducible refine w_name (by simp only [List.set_cons_zero, List.set_cons_succ]; rfl) ?_
  | with_reducible refine w_var (by with_unfolding_all rfl) ?_
  | with_reducible refine w_c ?_ | with_reducible refine w_op ?_ | with_reducible refine w_un ?_ | with_reducible refine w_cons ?_ | with_reducible refine w_nil ?_ | with_reducible refine w_cb ?_ | with_reducible refine w_call ?_
  | with_reducible refine w_and ?_ | with_reducible refine w_or ?_ | with_reducible refine w_not ?_ | with_reducible refine w_tb ?_ | with_reducible refine w_tt ?_ | with_reducible refine w_bl ?_
  | with_reducible refine w_tand ?_ | with_reducible refine w_tor ?_ | with_reducible refine w_tnot ?_ | with_reducible refine w_yes ?_ | with_reducible refine w_chain ?_
  | with_reducible refine w_I0 ?_ | with_reducible refine w_eqI ?_ | with_reducible refine w_neI ?_ | with_reducible refine w_eqB ?_ | with_reducible refine w_neB ?_
  | with_reducible refine w_fl ?_ | with_reducible refine w_rng ?_ | with_reducible refine w_lst ?_ | with_reducible refine w_tup ?_
  | with_reducible refine w_sfld ?_ | with_reducible refine w_tmk ?_ | with_reducible refine w_gsub ?_ | with_reducible refine w_for ?_ | with_reducible refine w_tlc ?_ | with_reducible refine w_gx ?_ | with_reducible refine w_itup ?_ | with_reducible refine w_ilst ?_ | with_reducible refine w_izp ?_
  | with_reducible refine w_sl ?_ | with_reducible refine w_part ?_ | with_reducible refine w_pint ?_ | with_reducible refine w_nopart ?_
  | with_reducible refine w_rz ?_ | with_reducible refine w_callS ?_ | with_reducible refine w_callNS ?_ | with_reducible refine w_callD ?_ | with_reducible refine w_2d ?_ | with_reducible refine w_par ?_
  | with_reducible refine w_1 ?_ | with_reducible refine w_2 ?_ | with_reducible refine w_3 ?_ | with_reducible refine w_4 ?_ | with_reducible refine w_5 ?_)
theorem w_cut {t u : TS} {n b c : L2.St → Hp → Prop} {r : VK} {σ : L2.St} {H : Hp} (Mid : L2.St → Hp → Prop) (h : t ⟨Mid, r, b, c⟩ σ H) (k : ∀ σ' H', Mid σ' H' → u ⟨n, r, b, c⟩ σ' H') : Evl.tCut t u ⟨n, r, b, c⟩ σ H := ⟨Mid, h, k⟩
section
variable {Z : Wd} {TC SC : Addr}
theorem upd_self' {H : Hp} {a : Addr} {o : HO} (h : H a = some o) : upd H a o = H := by
  funext b
  by_cases e : b = a
  · subst e; rw [upd_same, h]
  · rw [upd_ne e]
abbrev N_law_integer : List Str := ["_law_value"]
theorem S_law_integer : FnScope N_law_integer ["_law_value"] (defScope s_law_integer) := ⟨rfl, rfl, rfl, by decide +kernel, rfl, by decide +kernel, by decide +kernel⟩
theorem B_law_integer : Bnd "_law_integer" "_law_integer" s_law_integer ["_law_value"] := fun _ _ _ _ _ _ us hl => match us, hl with | [_], _ => rfl
theorem c_law_integer (T : Tx Z TC SC) (F : Fn Z "_law_integer" "_law_integer" s_law_integer) : Cl Z CX0 1 "_law_integer" p_is_integer := by
  refine F.cl S_law_integer B_law_integer len1 fun f cdv A outer s H vs Q E hr h => ?_
  obtain ⟨a, rfl, hn, k⟩ := h
  refine ⟨_, (pss_one (ps_ret (pe_and (pe_callB (call_isiK (K := Z.K)) rfl T.b_isinstance (by decide +kernel) (pa_cons (pv 0) (pa_cons (pe_bltn rfl T.b_int (by decide +kernel) (show RelV (.ty "int") (.type "int") from rfl)) pa_nil))) (pe_one (pe_not (pe_callB (call_isiK (K := Z.K)) rfl T.b_isinstance (by decide +kernel) (pa_cons (pv 0) (pa_cons (pe_bltn rfl T.b_bool (by decide +kernel) (show RelV (.ty "bool") (.type "bool") from rfl)) pa_nil)))))))), ?_⟩
  show tRet _ _ [some a] H
  repeat walk_at "st"
  have key : ∀ (t : String) (z1 z2 : Bool), TyX Z.K H a (.type t) → kitB t "int" = some z1 → kitB t "bool" = some z2 → isI a = (z1 && !z2) → rIsi Z.K [a, .ty "int"] H fun x H1 => ∃ q, x = .bl q ∧ if q = true then tNotV (tCB (rIsi Z.K) (tCons (tVar 0) (tCons (tC (.ty "bool")) tNil))) [some a] H1 Q else Q (.bl false) H1 := by
    intro t z1 z2 ty k1 k2 e
    refine isi ty (kit_ty k1) ⟨z1, rfl, ?_⟩
    cases z1 with
    | false => rw [if_neg (by decide)]; rw [e] at k; exact k
    | true =>
      rw [if_pos rfl]
      repeat walk_at "st"
      refine isi ty (kit_ty k2) ⟨z2, rfl, ?_⟩
      rw [e] at k; exact k
  cases a with
  | non => exact key "NoneType" false false (.base .non) (by decide +kernel) (by decide +kernel) rfl
  | bl b => exact key "bool" true true (.base (.bl b)) (by decide +kernel) (by decide +kernel) rfl
  | int i => exact key "int" true false (.base (.int i)) (by decide +kernel) (by decide +kernel) rfl
  | str x => exact key "str" false false (.base (.str x)) (by decide +kernel) (by decide +kernel) rfl
  | ref p =>
    rcases hn with ⟨xs, e⟩ | ⟨xs, e⟩
    · exact key "list" false false (.base (.lst e)) (by decide +kernel) (by decide +kernel) rfl
    · exact key "tuple" false false (.base (.tup e)) (by decide +kernel) (by decide +kernel) rfl
  | byt _ => exact hn.elim
  | flt _ => exact hn.elim
  | ty _ => exact hn.elim
/-! ### the draws -/
/-- the law's state at s -/
abbrev stv (c : Addr) (i : Nat) (big cnt seed : Int) : List V := [.ref c, .int i, .int big, .int cnt, .int seed]
structure St (H : Hp) (s c : Addr) : Prop where
  ex : ∃ (ns : List Int) (i : Nat) (big cnt seed : Int), H s = some (.lst (stv c i big cnt seed)) ∧ H c = some (.lst (ns.map V.int)) ∧ c ≠ s ∧ 0 ≤ big ∧ 0 ≤ seed ∧ seed < 2147483647
abbrev N_law_start : List Str := ["_law_script"]
theorem S_law_start : FnScope N_law_start ["_law_script"] (defScope s_law_start) := ⟨rfl, rfl, rfl, by decide +kernel, rfl, by decide +kernel, by decide +kernel⟩
theorem B_law_start : Bnd "_law_start" "_law_start" s_law_start ["_law_script"] := fun _ _ _ _ _ _ us hl => match us, hl with | [_], _ => rfl
abbrev p_law_start (K : W.Frag) : Sp := sp1 fun a H Q _ => ∃ (p : Addr) (ns : List Int), a = .ref p ∧ SqL K H p (ns.map V.int) ∧ ∀ H' s c, XT H H' → St H' s c → Q (.ref s) H'
theorem c_law_start (T : Tx Z TC SC) (F : Fn Z "_law_start" "_law_start" s_law_start) : Cl Z CX0 1 "_law_start" (p_law_start Z.K) := by
  refine F.cl S_law_start B_law_start len1 fun f cdv A outer s H vs Q E hr h => ?_
  obtain ⟨_, rfl, p, ns, rfl, hp, k⟩ := h
  refine ⟨_, (pss_one (ps_ret (pe_lst (pa_cons (pe_callTy (call_listK (K := Z.K)) rfl T.b_list (by decide +kernel) (pa_cons (pv 0) pa_nil)) (pa_cons pe_int (pa_cons pe_int (pa_cons pe_int (pa_cons pe_int pa_nil)))))))), ?_⟩
  show tRet _ _ [some (.ref p)] H
  repeat walk_at "st"
  refine ⟨p, _, rfl, .inl hp, fun l hl => ?_⟩
  repeat walk_at "st"
  refine ⟨by show 5 ≤ sizeLine; decide, fun q hq => ?_⟩
  refine k _ q l ((XT.new hl).add hq) ⟨ns, 0, 0, 0, 7, upd_same, ?_, ne_of_none upd_same hq, by decide, by decide, by decide⟩
  rw [upd_ne (ne_of_none upd_same hq), upd_same]
abbrev N_law_draw : List Str := ["_law_state", "_law_limit", "_law_cell", "_law_got"]
theorem S_law_draw : FnScope N_law_draw ["_law_state", "_law_limit"] (defScope s_law_draw) := ⟨rfl, rfl, rfl, by decide +kernel, rfl, by decide +kernel, by decide +kernel⟩
theorem B_law_draw : Bnd "_law_draw" "_law_draw" s_law_draw ["_law_state", "_law_limit"] := fun _ _ _ _ _ _ us hl => match us, hl with | [_, _], _ => rfl
abbrev p_law_draw : Sp := sp2 fun a b H Q _ => ∃ s c lim, a = .ref s ∧ b = .int lim ∧ St H s c ∧ lim ≤ 1000000000 ∧ ∀ H' (r : Nat), XS s H H' → St H' s c → (r : Int) < max lim 1 → Q (.int r) H'
theorem w_set0 {H : Hp} {s : Addr} {xs : List V} {i : Nat} {v : V} {q : Hp → Prop} (hi : i < xs.length) (k : q (upd H s (.lst (xs.set i v)))) : rSetL (.ref s) (.int (i : Nat)) v (upd H s (.lst xs)) q :=
  w_setl upd_same (ixN_nat hi) (by rw [upd_upd]; exact k)
theorem fmod_rng {a b : Int} (h : 0 < b) : ∃ r : Nat, a.fmod b = (r : Int) ∧ (r : Int) < b := by
  refine ⟨(a.fmod b).toNat, ?_, ?_⟩
  · rw [Int.toNat_of_nonneg (Int.fmod_nonneg_of_pos _ h)]
  · rw [Int.toNat_of_nonneg (Int.fmod_nonneg_of_pos _ h)]; exact Int.fmod_lt_of_pos _ h
theorem c_law_draw (T : Tx Z TC SC) (F : Fn Z "_law_draw" "_law_draw" s_law_draw) : Cl Z CX0 1 "_law_draw" p_law_draw := by
  refine F.cl S_law_draw B_law_draw len2 fun f cdv A outer sh H vs Q E hr h => ?_
  obtain ⟨_, _, rfl, s, c, lim, rfl, rfl, ⟨ns, i, big, cnt, seed, hs, hc, ncs, b0, s0, s1⟩, hlim, k⟩ := h
  have nd := S_law_draw.nd
  have k' : ∀ (i : Nat) (big cnt seed : Int) (r : Nat), 0 ≤ big → 0 ≤ seed → seed < 2147483647 → (r : Int) < max lim 1 → Q (.int r) (upd H s (.lst (stv c i big cnt seed))) := by
    intro i big cnt seed r b0 s0 s1 hr
    exact k _ r (XS.rfl'.put (.inr rfl) (.inr ⟨_, hs, fun t z => by cases z⟩)) ⟨ns, i, big, cnt, seed, upd_same, by rw [upd_ne ncs]; exact hc, ncs, b0, s0, s1⟩ hr
  have hc' : ∀ o, (upd H s o) c = some (.lst (ns.map V.int)) := fun o => by rw [upd_ne ncs]; exact hc
  refine ⟨_, (Evl.pss_cut (ps_if (pt_cmpR op_lt (pv 1) pe_int (nomark _)) (pss_one (ps_set (i := 1) nd rfl (Or.inl rfl) pe_int)) pss_nil)
  (Evl.pss_cut (ps_if (PW.pt (pw_and (pt_cmpR op_eq (pe_ix (ix_seqK (K := Z.K)) (pv 0) pe_int (fun _ _ => rfl)) pe_int (nomark _)) (pw_and1 (pt_cmpR op_lt (pe_ix (ix_seqK (K := Z.K)) (pv 0) pe_int (fun _ _ => rfl)) (pe_callB (call_lenK (K := Z.K)) rfl T.b_len (by decide +kernel) (pa_cons (pe_ix (ix_seqK (K := Z.K)) (pv 0) pe_int (fun _ _ => rfl)) pa_nil)) (nomark _))))) (pss_cons (ps_set (i := 2) nd rfl (Or.inl rfl) (pe_callB call_absN rfl T.b_abs (by decide +kernel) (pa_cons (pe_callTy call_intN rfl T.b_int (by decide +kernel) (pa_cons (pe_ix (ix_seqK (K := Z.K)) (pe_ix (ix_seqK (K := Z.K)) (pv 0) pe_int (fun _ _ => rfl)) (pe_ix (ix_seqK (K := Z.K)) (pv 0) pe_int (fun _ _ => rfl)) (fun _ _ => rfl)) pa_nil)) pa_nil)))
  (pss_cons (ps_asg (pe_op op_add (pe_ix (ix_seqK (K := Z.K)) (pv 0) pe_int (fun _ _ => rfl)) pe_int) (pg_sub (pv 0) pe_int set_list))
  (pss_cons (ps_asg pe_int (pg_sub (pv 0) pe_int set_list))
  (pss_one (ps_if (pt_cmpR op_ge (pv 2) (pe_op op_pow pe_int pe_int) (nomark _)) (pss_cons (ps_asg (pv 2) (pg_sub (pv 0) pe_int set_list))
  (pss_one (ps_asg pe_int (pg_sub (pv 0) pe_int set_list)))) (pss_one (ps_asg (pe_op op_modN (pe_callTy call_intN rfl T.b_int (by decide +kernel) (pa_cons (pe_op op_add (pe_op op_add (pe_op op_mul (pe_ix (ix_seqK (K := Z.K)) (pv 0) pe_int (fun _ _ => rfl)) pe_int) (pv 2)) (pe_ix (ix_seqK (K := Z.K)) (pv 0) pe_int (fun _ _ => rfl))) pa_nil)) pe_int) (pg_sub (pv 0) pe_int set_list)))))))) pss_nil)
  (pss_cons (ps_if (pt_cmpR op_gt (pe_ix (ix_seqK (K := Z.K)) (pv 0) pe_int (fun _ _ => rfl)) pe_int (nomark _)) (pss_cons (ps_set (i := 3) nd rfl (Or.inl rfl) (pe_op op_modN (pe_callTy call_intN rfl T.b_int (by decide +kernel) (pa_cons (pe_ix (ix_seqK (K := Z.K)) (pv 0) pe_int (fun _ _ => rfl)) pa_nil)) (pv 1)))
  (pss_cons (ps_asg (pe_op op_fdivN (pe_ix (ix_seqK (K := Z.K)) (pv 0) pe_int (fun _ _ => rfl)) (pv 1)) (pg_sub (pv 0) pe_int set_list))
  (pss_cons (ps_asg (pe_op op_sub (pe_ix (ix_seqK (K := Z.K)) (pv 0) pe_int (fun _ _ => rfl)) pe_int) (pg_sub (pv 0) pe_int set_list))
  (Evl.pss_cut (ps_if (PW.pt (pw_or (pt_cmpR op_eq (pe_ix (ix_seqK (K := Z.K)) (pv 0) pe_int (fun _ _ => rfl)) pe_int (nomark _)) (pw_or1 (pt_cmpR op_eq (pe_ix (ix_seqK (K := Z.K)) (pv 0) pe_int (fun _ _ => rfl)) pe_int (nomark _))))) (pss_cons (ps_asg pe_int (pg_sub (pv 0) pe_int set_list))
  (pss_one (ps_asg pe_int (pg_sub (pv 0) pe_int set_list)))) pss_nil)
  (pss_one (ps_ret (pv 3))))))) pss_nil)
  (pss_cons (ps_asg (pe_callB (call_max2 rfl) rfl T.b_max (by decide +kernel) (pa_cons pe_int (pa_cons (pe_op op_sub (pe_ix (ix_seqK (K := Z.K)) (pv 0) pe_int (fun _ _ => rfl)) pe_int) pa_nil))) (pg_sub (pv 0) pe_int set_list))
  (pss_cons (ps_asg (pe_op op_modN (pe_callTy call_intN rfl T.b_int (by decide +kernel) (pa_cons (pe_op op_add (pe_op op_mul (pe_ix (ix_seqK (K := Z.K)) (pv 0) pe_int (fun _ _ => rfl)) pe_int) pe_int) pa_nil)) pe_int) (pg_sub (pv 0) pe_int set_list))
  (pss_one (ps_ret (pe_op op_modN (pe_callTy call_intN rfl T.b_int (by decide +kernel) (pa_cons (pe_op op_modN (pe_callTy call_intN rfl T.b_int (by decide +kernel) (pa_cons (pe_op op_add (pe_op op_mul (pe_ix (ix_seqK (K := Z.K)) (pv 0) pe_int (fun _ _ => rfl)) pe_int) pe_int) pa_nil)) pe_int) pa_nil)) (pv 1))))))))), ?_⟩
  show Evl.tCut _ _ _ [some (.ref s), some (.int lim), none, none] H
  have eH : H = upd H s (.lst (stv c i big cnt seed)) := (upd_self' hs).symm
  rw [eH]
  refine w_cut (fun σ' H' => H' = upd H s (.lst (stv c i big cnt seed)) ∧ ∃ m : Int, 1 ≤ m ∧ m ≤ 1000000000 ∧ m ≤ max lim 1 ∧ σ' = [some (.ref s), some (.int m), none, none]) ?_ ?_
  · repeat walk_at "st"
    refine ite2 (fun h => ?_) (fun h => ?_)
    · repeat walk_at "st"
      exact ⟨rfl, 1, by decide, by decide, by omega, rfl⟩
    · have := of_decide_eq_false (by simpa using h : decide (lim < 2) = false)
      repeat walk_at "st"
      exact ⟨rfl, lim, by omega, hlim, by omega, rfl⟩
  rintro σ H' ⟨rfl, m, m1, m2, m3, rfl⟩
  refine w_cut (fun σ' H' => ∃ (i : Nat) (big cnt seed : Int) (z : Option V), 0 ≤ big ∧ 0 ≤ seed ∧ seed < 2147483647 ∧ H' = upd H s (.lst (stv c i big cnt seed)) ∧ σ' = [some (.ref s), some (.int m), z, none]) ?_ ?_
  · repeat walk_at "st"
    refine w_ixl (SqL.of upd_same) (i := 3) rfl ?_
    repeat walk_at "st"
    have skip : ∃ (i' : Nat) (big' cnt' seed' : Int) (z : Option V), 0 ≤ big' ∧ 0 ≤ seed' ∧ seed' < 2147483647 ∧ upd H s (.lst (stv c i big cnt seed)) = upd H s (.lst (stv c i' big' cnt' seed')) ∧ [some (V.ref s), some (V.int m), none, none] = [some (.ref s), some (.int m), z, none] := ⟨i, big, cnt, seed, none, b0, s0, s1, rfl, rfl⟩
    refine ite2 (fun h => ?_) (fun h => iteF ?_)
    · repeat walk_at "st"
      refine w_ixl (SqL.of upd_same) (i := 1) rfl ?_
      repeat walk_at "st"
      refine w_ixl (SqL.of upd_same) (i := 0) rfl ?_
      repeat walk_at "st"
      refine ⟨c, _, rfl, .inl (SqL.of (hc' _)), ?_⟩
      repeat walk_at "st"
      refine ite2 (fun h => ?_) (fun h => ?_)
      · have hi : i < ns.length := by
          have := of_decide_eq_true h
          rw [List.length_map] at this
          omega
        repeat walk_at "st"
        refine w_ixl (SqL.of upd_same) (i := 0) rfl ?_
        repeat walk_at "st"
        refine w_ixl (SqL.of upd_same) (i := 1) rfl ?_
        refine w_ixl (SqL.of (hc' _)) (v := .int ns[i]) (atI_nat (by rw [List.getElem?_map, List.getElem?_eq_getElem hi]; rfl)) ?_
        repeat walk_at "st"
        refine w_int ?_
        repeat walk_at "st"
        refine w_abs ?_
        repeat walk_at "st"
        have hcell : ∃ cell : Int, 0 ≤ cell ∧ (if ns[i] < 0 then -ns[i] else ns[i]) = cell := ⟨_, by split <;> omega, rfl⟩
        obtain ⟨cell, c0, ec⟩ := hcell
        rw [ec]
        refine w_ixl (SqL.of upd_same) (i := 1) rfl ?_
        repeat walk_at "st"
        refine w_set0 (i := 1) (show 1 < 5 from by decide) ?_
        repeat walk_at "st"
        refine w_set0 (i := 3) (show 3 < 5 from by decide) ?_
        repeat walk_at "st"
        refine w_I (by refine ⟨by decide, by decide, by decide⟩) ?_
        repeat walk_at "st"
        refine ite2 (fun h => ?_) (fun h => ?_)
        · repeat walk_at "st"
          refine w_set0 (i := 2) (show 2 < 5 from by decide) ?_
          repeat walk_at "st"
          refine w_set0 (i := 3) (show 3 < 5 from by decide) ?_
          exact ⟨i + 1, cell, 60, seed, _, c0, s0, s1, rfl, rfl⟩
        · repeat walk_at "st"
          refine w_ixl (SqL.of upd_same) (i := 4) rfl ?_
          repeat walk_at "st"
          refine w_I (.inr ⟨by decide, by decide⟩) ?_
          repeat walk_at "st"
          refine w_ixl (SqL.of upd_same) (i := 1) rfl ?_
          repeat walk_at "st"
          refine w_int ?_
          repeat walk_at "st"
          refine w_I (by decide) ?_
          repeat walk_at "st"
          refine w_set0 (i := 4) (show 4 < 5 from by decide) ?_
          obtain ⟨r, er, hr⟩ := fmod_rng (a := seed * 48271 + cell + ((i : Int) + 1)) (b := 2147483647) (by decide)
          exact ⟨i + 1, big, 4, _, _, b0, by rw [er]; omega, by rw [er]; exact hr, rfl, rfl⟩
      · repeat walk_at "st"
        exact skip
    · repeat walk_at "st"
      exact skip
  rintro σ H' ⟨i, big, cnt, seed, z, b0, s0, s1, rfl, rfl⟩
  repeat walk_at "st"
  refine w_ixl (SqL.of upd_same) (i := 2) rfl ?_
  repeat walk_at "st"
  refine ite2 (fun h => ?_) (fun h => ?_)
  · have hb : 0 < big := of_decide_eq_true h
    repeat walk_at "st"
    refine w_ixl (SqL.of upd_same) (i := 2) rfl ?_
    repeat walk_at "st"
    refine w_int ?_
    repeat walk_at "st"
    refine w_I (by omega) ?_
    repeat walk_at "st"
    obtain ⟨r, er, hr⟩ := fmod_rng (a := big) (b := m) (by omega)
    rw [er]
    refine w_ixl (SqL.of upd_same) (i := 2) rfl ?_
    repeat walk_at "st"
    refine w_I (show CDivN _ _ from ⟨by omega, by omega⟩) ?_
    repeat walk_at "st"
    refine w_set0 (i := 2) (show 2 < 5 from by decide) ?_
    have hd : 0 ≤ big.fdiv m := Int.fdiv_nonneg b0 (by omega)
    generalize big.fdiv m = big2 at *
    repeat walk_at "st"
    refine w_ixl (SqL.of upd_same) (i := 3) rfl ?_
    repeat walk_at "st"
    refine w_set0 (i := 3) (show 3 < 5 from by decide) ?_
    refine w_cut (fun σ' H' => ∃ (i : Nat) (big cnt seed : Int), 0 ≤ big ∧ 0 ≤ seed ∧ seed < 2147483647 ∧ H' = upd H s (.lst (stv c i big cnt seed)) ∧ σ' = [some (.ref s), some (.int m), z, some (.int r)]) ?_ ?_
    · have skip : ∀ (cnt2 : Int), ∃ (i' : Nat) (big' cnt' seed' : Int), 0 ≤ big' ∧ 0 ≤ seed' ∧ seed' < 2147483647 ∧ upd H s (.lst (stv c i big2 cnt2 seed)) = upd H s (.lst (stv c i' big' cnt' seed')) ∧ [some (V.ref s), some (V.int m), z, some (.int r)] = [some (.ref s), some (.int m), z, some (.int r)] := fun cnt2 => ⟨i, big2, cnt2, seed, hd, s0, s1, rfl, rfl⟩
      have zero : ∀ (cnt2 : Int), (tSeq (tAsg (tC (.int 0)) (gSub (tVar 0) (tC (.int 2)) rSetL)) (tAsg (tC (.int 0)) (gSub (tVar 0) (tC (.int 3)) rSetL))) ⟨fun σ' H' => ∃ (i : Nat) (big cnt seed : Int), 0 ≤ big ∧ 0 ≤ seed ∧ seed < 2147483647 ∧ H' = upd H s (.lst (stv c i big cnt seed)) ∧ σ' = [some (.ref s), some (.int m), z, some (.int r)], Q, fun _ _ => False, fun _ _ => False⟩ [some (.ref s), some (.int m), z, some (.int r)] (upd H s (.lst (stv c i big2 cnt2 seed))) := by
        intro cnt2
        repeat walk_at "st"
        refine w_set0 (i := 2) (show 2 < 5 from by decide) ?_
        repeat walk_at "st"
        refine w_set0 (i := 3) (show 3 < 5 from by decide) ?_
        exact ⟨i, 0, 0, seed, by decide, s0, s1, rfl, rfl⟩
      repeat walk_at "st"
      refine w_ixl (SqL.of upd_same) (i := 2) rfl ?_
      repeat walk_at "st"
      refine ite2 (fun h => iteT ?_) (fun h => ?_)
      · exact zero _
      · repeat walk_at "st"
        refine w_ixl (SqL.of upd_same) (i := 3) rfl ?_
        repeat walk_at "st"
        refine ite2 (fun h => ?_) (fun h => ?_)
        · exact zero _
        · repeat walk_at "st"
          exact skip _
    · rintro σ H' ⟨i, big, cnt, seed, b0, s0, s1, rfl, rfl⟩
      repeat walk_at "st"
      exact k' i big cnt seed r b0 s0 s1 (by omega)
  · repeat walk_at "st"
    refine w_ixl (SqL.of upd_same) (i := 3) rfl ?_
    repeat walk_at "st"
    refine ⟨_, _, rfl, ?_⟩
    repeat walk_at "st"
    refine w_set0 (i := 3) (show 3 < 5 from by decide) ?_
    repeat walk_at "st"
    refine w_ixl (SqL.of upd_same) (i := 4) rfl ?_
    repeat walk_at "st"
    refine w_I (.inr ⟨by decide, by decide⟩) ?_
    repeat walk_at "st"
    refine w_int ?_
    repeat walk_at "st"
    refine w_I (by decide) ?_
    repeat walk_at "st"
    refine w_set0 (i := 4) (show 4 < 5 from by decide) ?_
    obtain ⟨r, er, hr⟩ := fmod_rng (a := seed * 48271 + 12345) (b := 2147483647) (by decide)
    rw [er]
    repeat walk_at "st"
    refine w_ixl (SqL.of upd_same) (i := 4) rfl ?_
    repeat walk_at "st"
    refine w_I (.inr ⟨by decide, by decide⟩) ?_
    repeat walk_at "st"
    refine w_int ?_
    repeat walk_at "st"
    refine w_I (by decide) ?_
    repeat walk_at "st"
    refine w_int ?_
    repeat walk_at "st"
    refine w_I (by omega) ?_
    obtain ⟨r2, er2, hr2⟩ := fmod_rng (a := ((r : Int) * 40692 + 3791).fmod 2147483399) (b := m) (by omega)
    rw [er2]
    exact k' i big _ r r2 b0 (by omega) hr (by omega)
end
end Q
set_option Elab.async false
set_option linter.all false
set_option maxRecDepth 100000
set_option maxHeartbeats 1000000
namespace Q
open PySem PySem.Spec PyProof.Rows L2
local macro_rules | `(tactic| walk_at "st") => `(tactic| first
  | with_reducible refine w_seq ?_ | with_reducible refine w_next ?_ | with_reducible refine w_ret ?_ | with_reducible refine w_ifs ?_ | with_reducible refine w_asg ?_ | with_reducible refine w_drop ?_
  | with_reducible refine w_name (by simp only [List.set_cons_zero, List.set_cons_succ]; rfl) ?_
  | with_reducible refine w_var (by with_unfolding_all rfl) ?_
  | with_reducible refine w_c ?_ | with_reducible refine w_op ?_ | with_reducible refine w_un ?_ | with_reducible refine w_cons ?_ | with_reducible refine w_nil ?_ | with_reducible refine w_cb ?_ | with_reducible refine w_call ?_
  | with_reducible refine w_and ?_ | with_reducible refine w_or ?_ | with_reducible refine w_not ?_ | with_reducible refine w_tb ?_ | with_reducible refine w_tt ?_ | with_reducible refine w_bl ?_
  | with_reducible refine w_tand ?_ | with_reducible refine w_tor ?_ | with_reducible refine w_tnot ?_ | with_reducible refine w_yes ?_ | with_reducible refine w_chain ?_
  | with_reducible refine w_I0 ?_ | with_reducible refine w_eqI ?_ | with_reducible refine w_neI ?_ | with_reducible refine w_eqB ?_ | with_reducible refine w_neB ?_
  | with_reducible refine w_fl ?_ | with_reducible refine w_rng ?_ | with_reducible refine w_lst ?_ | with_reducible refine w_tup ?_
  | with_reducible refine w_sfld ?_ | with_reducible refine w_tmk ?_ | with_reducible refine w_gsub ?_ | with_reducible refine w_for ?_ | with_reducible refine w_tlc ?_ | with_reducible refine w_gx ?_ | with_reducible refine w_itup ?_ | with_reducible refine w_ilst ?_ | with_reducible refine w_izp ?_
  | with_reducible refine w_sl ?_ | with_reducible refine w_part ?_ | with_reducible refine w_pint ?_ | with_reducible refine w_nopart ?_
  | with_reducible refine w_rz ?_ | with_reducible refine w_callS ?_ | with_reducible refine w_callNS ?_ | with_reducible refine w_callD ?_ | with_reducible refine w_2d ?_ | with_reducible refine w_par ?_
  | with_reducible refine w_1 ?_ | with_reducible refine w_2 ?_ | with_reducible refine w_3 ?_ | with_reducible refine w_4 ?_ | with_reducible refine w_5 ?_)
def rBits (x : V) (H : Hp) (Qe : VK) : Prop := ∃ i, x = V.int i ∧ Qe (V.int (Builtin.Int.intBits i : Nat)) H
theorem w_bits {to : TE} {σ : L2.St} {H : Hp} {Qe : VK} (k : to σ H fun x H1 => rBits x H1 Qe) : tBits to σ H Qe := k
theorem w_bitsI {H : Hp} {i : Int} {Qe : VK} (k : Qe (V.int (Builtin.Int.intBits i : Nat)) H) : rBits (.int i) H Qe := ⟨i, rfl, k⟩
theorem w_par {i j : Nat} {ta : TA} {n b c : L2.St → Hp → Prop} {r : VK} {σ : L2.St} {H : Hp} (k : ta σ H fun vs H1 => ∃ v w, vs = [v, w] ∧ n ((σ.set i (some v)).set j (some w)) H1) : tPar i j ta ⟨n, r, b, c⟩ σ H := k
theorem St.lst {s c : Addr} {H : Hp} (S : St H s c) : ∃ l, H s = some (.lst l) := by
  obtain ⟨ns, i, big, cnt, seed, hs, _⟩ := S.ex
  exact ⟨_, hs⟩
theorem XS.tup {s c : Addr} {H H' : Hp} (x : XS s H H') (S : St H s c) {a : Addr} {xs : List V} (h : H a = some (.tup xs)) : H' a = some (.tup xs) := by
  obtain ⟨l, hs⟩ := S.lst
  exact x.keep _ _ (ne_lst h hs fun l z => by cases z) h fun t z => by cases z
theorem XS.ins {s c : Addr} {H H' : Hp} (x : XS s H H') (S : St H s c) {a C dx : Addr} {fs : List (Str × V)} (h : H a = some (.ins C dx fs)) : H' a = some (.ins C dx fs) := by
  obtain ⟨l, hs⟩ := S.lst
  exact x.keep _ _ (ne_lst h hs fun l z => by cases z) h fun t z => by cases z
/-- growth keeps the state -/
theorem St.ext {s c : Addr} {H H' : Hp} (S : St H s c) (x : XT H H') : St H' s c := by
  obtain ⟨ns, i, big, cnt, seed, hs, hc, r⟩ := S.ex
  exact ⟨ns, i, big, cnt, seed, x.lst hs, x.lst hc, r⟩
theorem St.put {s c p : Addr} {H : Hp} {o : HO} (S : St H s c) (h : H p = none) : St (upd H p o) s c := S.ext (XT.new h)
/-- a store elsewhere keeps the state -/
theorem St.upd {s c p : Addr} {H : Hp} {o : HO} (S : St H s c) (n1 : p ≠ s) (n2 : p ≠ c) : St (upd H p o) s c := by
  obtain ⟨ns, i, big, cnt, seed, hs, hc, r⟩ := S.ex
  exact ⟨ns, i, big, cnt, seed, by rw [upd_ne n1.symm]; exact hs, by rw [upd_ne n2.symm]; exact hc, r⟩
theorem St.ne {s c : Addr} {H : Hp} (S : St H s c) {p : Addr} (h : H p = none) : p ≠ s ∧ p ≠ c := by
  obtain ⟨ns, i, big, cnt, seed, hs, hc, _⟩ := S.ex
  exact ⟨(ne_of_none hs h).symm, (ne_of_none hc h).symm⟩
section
variable {Z : Wd} {TC SC : Addr}
abbrev N_law_wide : List Str := ["_law_state", "_law_number_here", "_law_k", "_law_limit"]
theorem S_law_wide : FnScope N_law_wide ["_law_state"] (defScope s_law_wide) := ⟨rfl, rfl, rfl, by decide +kernel, rfl, by decide +kernel, by decide +kernel⟩
theorem B_law_wide : Bnd "_law_wide" "_law_wide" s_law_wide ["_law_state"] := fun _ _ _ _ _ _ us hl => match us, hl with | [_], _ => rfl
abbrev p_law_wide : Sp := sp1 fun a H Q _ => ∃ s c, a = .ref s ∧ St H s c ∧ ∀ H' (r : Nat), XS s H H' → St H' s c → Q (.int r) H'
theorem c_law_wide (T : Tx Z TC SC) (F : Fn Z "_law_wide" "_law_wide" s_law_wide) (c__law_draw : Cl Z CX0 1 "_law_draw" p_law_draw) : Cl Z CX0 2 "_law_wide" p_law_wide := by
  refine F.cl S_law_wide B_law_wide len1 fun f cdv A outer sh H vs Q E hr h => ?_
  obtain ⟨_, rfl, s, c, rfl, S, k⟩ := h
  have nd := S_law_wide.nd
  refine ⟨_, (pss_cons (ps_set (i := 1) nd rfl (Or.inl rfl) pe_int)
  (pss_cons (ps_for PassesOwn.never rfl (pi_range1 rfl T.b_range (pa_cons pe_int pa_nil)) (pg_name (i := 2) nd rfl (Or.inl rfl))
  (pss_one (ps_set (i := 1) nd rfl (Or.inl rfl) (pe_op op_add (pe_op op_mul (pv 1) (pe_op op_pow pe_int pe_int)) (pe_cl c__law_draw (hr.mono (by decide)) rfl pass0 (pa_cons (pv 0) (pa_cons (pe_op op_pow pe_int pe_int) pa_nil)))))))
  (pss_cons (ps_set (i := 3) nd rfl (Or.inl rfl) pe_int)
  (pss_cons (ps_for PassesOwn.never rfl (pi_range1 rfl T.b_range (pa_cons (pe_cl c__law_draw (hr.mono (by decide)) rfl pass0 (pa_cons (pv 0) (pa_cons pe_int pa_nil))) pa_nil)) (pg_name (i := 2) nd rfl (Or.inl rfl))
  (pss_one (ps_set (i := 3) nd rfl (Or.inl rfl) (pe_op op_mul (pv 3) pe_int))))
  (pss_one (ps_ret (pe_op op_modN (pe_callTy call_intN rfl T.b_int (by decide +kernel) (pa_cons (pv 1) pa_nil)) (pv 3)))))))), ?_⟩
  show tSeq _ _ _ [some (.ref s), none, none, none] H
  repeat walk_at "st"
  refine ⟨_, rfl, by decide, by decide, ?_⟩
  refine for_lit (n := 5) walk_rng (fun i σ H2 => XS s H H2 ∧ St H2 s c ∧ ∃ (r : Nat) (z : Option V), σ = [some (.ref s), some (.int r), z, none]) ⟨XS.rfl', S, 0, none, rfl⟩ (fun _ _ _ _ _ => trivial) ?_ ?_
  · rintro i v σ H2 H3 hi ⟨x2, S2, r, z, rfl⟩ ⟨rfl, rfl⟩
    refine w_name (σ' := [some (.ref s), some (.int r), some (.int (i : Nat)), none]) rfl ?_
    repeat walk_at "st"
    refine w_I (by refine ⟨by decide, by decide, by decide⟩) ?_
    repeat walk_at "st"
    refine w_I (.inr ⟨by decide, by decide⟩) ?_
    repeat walk_at "st"
    refine w_I (by refine ⟨by decide, by decide, by decide⟩) ?_
    repeat walk_at "st"
    refine ⟨s, c, _, rfl, rfl, S2, by decide, fun H4 q x4 S4 hq => ?_⟩
    repeat walk_at "st"
    refine ⟨x2.trans x4, S4, r * 10 ^ 9 + q, some (.int (i : Nat)), ?_⟩
    rw [show ((r * 10 ^ 9 + q : Nat) : Int) = (r : Int) * 10 ^ (9 : Int).toNat + (q : Int) from by simp]
  · rintro σ H2 ⟨x2, S2, r, z, rfl⟩
    repeat walk_at "st"
    refine ⟨s, c, 41, rfl, rfl, S2, by decide, fun H4 q x4 S4 hq => ?_⟩
    refine ⟨_, rfl, by omega, by omega, ?_⟩
    rw [Int.toNat_natCast]
    refine for_lit walk_rng (fun i σ H5 => H5 = H4 ∧ ∃ (z : Option V), σ = [some (.ref s), some (.int r), z, some (.int ((10 ^ i : Nat) : Int))]) ⟨rfl, z, rfl⟩ (fun _ _ _ _ _ => trivial) ?_ ?_
    · rintro i v σ H2 H3 hi ⟨rfl, z, rfl⟩ ⟨rfl, rfl⟩
      refine w_name (σ' := [some (.ref s), some (.int r), some (.int (i : Nat)), some (.int ((10 ^ i : Nat) : Int))]) rfl ?_
      repeat walk_at "st"
      refine w_I (.inr ⟨by decide, by decide⟩) ?_
      repeat walk_at "st"
      refine ⟨rfl, some (.int (i : Nat)), ?_⟩
      rw [show ((10 ^ (i + 1) : Nat) : Int) = ((10 ^ i : Nat) : Int) * 10 from by rw [Nat.pow_succ]; simp]
    · rintro σ H2 ⟨rfl, z, rfl⟩
      have h10 : 0 < 10 ^ q := Nat.pow_pos (by decide)
      repeat walk_at "st"
      refine w_int ?_
      repeat walk_at "st"
      refine w_I (by omega) ?_
      obtain ⟨r2, er, hr2⟩ := fmod_rng (a := (r : Int)) (b := ((10 ^ q : Nat) : Int)) (by omega)
      rw [er]
      exact k H2 r2 (x2.trans x4) S4
abbrev N_law_gcd : List Str := ["_law_one", "_law_other", "_law_k"]
theorem S_law_gcd : FnScope N_law_gcd ["_law_one", "_law_other"] (defScope s_law_gcd) := ⟨rfl, rfl, rfl, by decide +kernel, rfl, by decide +kernel, by decide +kernel⟩
theorem B_law_gcd : Bnd "_law_gcd" "_law_gcd" s_law_gcd ["_law_one", "_law_other"] := fun _ _ _ _ _ _ us hl => match us, hl with | [_, _], _ => rfl
abbrev p_law_gcd : Sp := sp2 fun a b H Q _ => ∃ x y : Nat, a = .int x ∧ b = .int y ∧ x ≤ 2 ^ 60 ∧ y ≤ 2 ^ 60 ∧ Q (.int (x.gcd y : Nat)) H
theorem bits_lt (x : Nat) : x < 2 ^ Builtin.Int.intBits (x : Int) := by
  unfold Builtin.Int.intBits
  by_cases h : x = 0
  · subst h; decide
  · rw [if_neg (by simp; omega), Int.natAbs_natCast]
    exact Nat.lt_log2_self
theorem bits_le {x : Nat} (h : x ≤ 2 ^ 60) : Builtin.Int.intBits (x : Int) ≤ 62 := by
  unfold Builtin.Int.intBits
  split
  · decide
  · rw [Int.natAbs_natCast]
    have := log_lt (m := x) (k := 61) (by omega) (by decide)
    omega
/-- one turn of Euclid's rule, as a bound -/
structure Euc (a b i x y : Nat) : Prop where
  g : x.gcd y = a.gcd b
  m : i = 0 ∧ x = a ∧ y = b ∨ 0 < i ∧ y < x ∧ 2 ^ (i - 1) * (x * y) ≤ a * b
theorem Euc.step {a b i x y : Nat} (h : Euc a b i x y) (hy : 0 < y) : Euc a b (i + 1) y (x % y) := by
  have hlt := Nat.mod_lt x hy
  refine ⟨by rw [← h.g, Nat.gcd_comm x y, Nat.gcd_rec y x, Nat.gcd_comm], .inr ⟨by omega, hlt, ?_⟩⟩
  rcases h.m with ⟨rfl, rfl, rfl⟩ | ⟨hi, hyx, hb⟩
  · simp
    rw [Nat.mul_comm]
    exact Nat.mul_le_mul_right _ (Nat.mod_le _ _)
  · obtain ⟨j, rfl⟩ : ∃ j, i = j + 1 := ⟨i - 1, by omega⟩
    simp only [Nat.add_sub_cancel] at hb ⊢
    have h2 : 2 * (x % y) ≤ x := by
      have e := Nat.div_add_mod x y
      have q1 : 1 ≤ x / y := (Nat.le_div_iff_mul_le hy).mpr (by omega)
      have : y * 1 ≤ y * (x / y) := Nat.mul_le_mul_left _ q1
      omega
    have h3 : 2 ^ (j + 1) * (y * (x % y)) = 2 ^ j * (y * (2 * (x % y))) := by
      rw [Nat.pow_succ, Nat.mul_assoc]; congr 1
      rw [Nat.mul_left_comm]
    rw [h3]
    refine Nat.le_trans (Nat.mul_le_mul_left _ ?_) hb
    rw [Nat.mul_comm x y]
    exact Nat.mul_le_mul_left _ h2
theorem Euc.done {a b i x y : Nat} (h : Euc a b i x y) (hi : Builtin.Int.intBits (a : Int) + Builtin.Int.intBits (b : Int) < i) : y = 0 := by
  rcases h.m with ⟨rfl, _, _⟩ | ⟨_, hyx, hb⟩
  · omega
  · by_cases hy : y = 0
    · exact hy
    exfalso
    have ha := bits_lt a
    have hb' := bits_lt b
    have h1 : a * b < 2 ^ (Builtin.Int.intBits (a : Int) + Builtin.Int.intBits (b : Int)) := by
      rw [Nat.pow_add]
      exact Nat.mul_lt_mul'' ha hb'
    have h2 : 2 ^ (Builtin.Int.intBits (a : Int) + Builtin.Int.intBits (b : Int)) ≤ 2 ^ (i - 1) := Nat.pow_le_pow_right (by decide) (by omega)
    have h3 : 1 ≤ x * y := Nat.mul_pos (by omega) (by omega)
    have h4 : 2 ^ (i - 1) * 1 ≤ 2 ^ (i - 1) * (x * y) := Nat.mul_le_mul_left _ h3
    omega
theorem c_law_gcd (T : Tx Z TC SC) (F : Fn Z "_law_gcd" "_law_gcd" s_law_gcd) : Cl Z CX0 1 "_law_gcd" p_law_gcd := by
  refine F.cl S_law_gcd B_law_gcd len2 fun f cdv A outer sh H vs Q E hr h => ?_
  obtain ⟨_, _, rfl, a, b, rfl, rfl, ha, hb, k⟩ := h
  have nd := S_law_gcd.nd
  have l1 := bits_le ha
  have l2 := bits_le hb
  refine ⟨_, (pss_cons (ps_for PassesOwn.never rfl (pi_range1 rfl T.b_range (pa_cons (pe_op op_add (pe_op op_mul pe_int (pe_op op_add (pe_bits (pv 0)) (pe_bits (pv 1)))) pe_int) pa_nil)) (pg_name (i := 2) nd rfl (Or.inl rfl))
  (pss_cons (ps_if (pt_cmpR op_eq (pv 1) pe_int (nomark _)) (pss_one (ps_ret (pv 0))) pss_nil)
  (pss_one (ps_par (i := 0) (j := 1) rfl nd rfl rfl (by decide) rfl rfl (pa_cons (pv 1) (pa_cons (pe_op op_modN (pe_callTy call_intN rfl T.b_int (by decide +kernel) (pa_cons (pv 0) pa_nil)) (pv 1)) pa_nil)) (by rfl)))))
  (pss_one (ps_ret (pv 0)))), ?_⟩
  show tSeq _ _ _ [some (.int a), some (.int b), none] H
  repeat walk_at "st"
  refine w_bits ?_
  repeat walk_at "st"
  refine w_bitsI ?_
  repeat walk_at "st"
  refine w_bits ?_
  repeat walk_at "st"
  refine w_bitsI ?_
  repeat walk_at "st"
  refine w_I (.inl ⟨by decide, by decide⟩) ?_
  repeat walk_at "st"
  refine ⟨_, rfl, by omega, by omega, ?_⟩
  refine for_lit walk_rng (fun i σ H2 => H2 = H ∧ ∃ (x y : Nat) (z : Option V), Euc a b i x y ∧ σ = [some (.int x), some (.int y), z]) ⟨rfl, a, b, none, ⟨rfl, .inl ⟨rfl, rfl, rfl⟩⟩, rfl⟩ (fun _ _ _ _ _ => trivial) ?_ ?_
  · rintro i v σ H2 H3 hi ⟨rfl, x, y, z, he, rfl⟩ ⟨rfl, rfl⟩
    refine w_name (σ' := [some (.int x), some (.int y), some (.int (i : Nat))]) rfl ?_
    repeat walk_at "st"
    refine ite2 (fun h => ?_) (fun h => ?_)
    · have hy : y = 0 := by have := of_decide_eq_true h; omega
      subst hy
      repeat walk_at "st"
      have := he.g
      rw [Nat.gcd_zero_right] at this
      rw [this]
      exact k
    · have hy : 0 < y := by
        have := of_decide_eq_false (by simpa using h : decide ((y : Int) = 0) = false)
        omega
      repeat walk_at "st"
      refine w_par ?_
      repeat walk_at "st"
      refine w_int ?_
      repeat walk_at "st"
      refine w_I (by omega) ?_
      repeat walk_at "st"
      refine ⟨_, _, rfl, rfl, y, x % y, some (.int (i : Nat)), he.step hy, ?_⟩
      rw [show (x : Int).fmod (y : Int) = ((x % y : Nat) : Int) from by rw [Int.fmod_eq_emod_of_nonneg _ (by omega)]; simp]
      rfl
  · rintro σ H2 ⟨rfl, x, y, z, he, rfl⟩
    have hy := he.done (by omega)
    subst hy
    repeat walk_at "st"
    have := he.g
    rw [Nat.gcd_zero_right] at this
    rw [this]
    exact k
theorem rS_o {H : Hp} {Qe : VK} {t dx : Addr} {a b : Int} (T : Tx Z TC SC) (h : H t = some (.ins SC dx (sfl a b))) (k : Qe (.int a) H) : rFld Z.K "over" (.ref t) H Qe :=
  ⟨t, SC, dx, _, _, rfl, h, T.cS, T.nSo, look_o, k⟩
theorem rS_u {H : Hp} {Qe : VK} {t dx : Addr} {a b : Int} (T : Tx Z TC SC) (h : H t = some (.ins SC dx (sfl a b))) (k : Qe (.int b) H) : rFld Z.K "under" (.ref t) H Qe :=
  ⟨t, SC, dx, _, _, rfl, h, T.cS, T.nSu, look_u, k⟩
abbrev N_law_is : List Str := ["_law_got", "_law_over", "_law_under", "_law_common"]
theorem S_law_is : FnScope N_law_is ["_law_got", "_law_over", "_law_under"] (defScope s_law_is) := ⟨rfl, rfl, rfl, by decide +kernel, rfl, by decide +kernel, by decide +kernel⟩
theorem B_law_is : Bnd "_law_is" "_law_is" s_law_is ["_law_got", "_law_over", "_law_under"] := fun _ _ _ _ _ _ us hl => match us, hl with | [_, _, _], _ => rfl
abbrev p_law_is (SC : Addr) : Sp := sp3 fun a b c H Q _ => ∃ p o u, a = .ref p ∧ b = .int o ∧ c = .int u ∧ 0 < u ∧ u ≤ 2 ^ 60 ∧ -(2 ^ 60) ≤ o ∧ o ≤ 2 ^ 60 ∧ Shr SC H p (o / gd o u) (u / gd o u) ∧ Q (.bl true) H
theorem gd_l {o u : Int} : o / gd o u * gd o u = o := Int.ediv_mul_cancel (by
  have : ((o.natAbs.gcd u.natAbs : Nat) : Int) ∣ o := Int.ofNat_dvd_left.mpr (Nat.gcd_dvd_left _ _)
  exact this)
theorem gd_r {o u : Int} : u / gd o u * gd o u = u := Int.ediv_mul_cancel (by
  have : ((o.natAbs.gcd u.natAbs : Nat) : Int) ∣ u := Int.ofNat_dvd_left.mpr (Nat.gcd_dvd_right _ _)
  exact this)
theorem c_law_is (T : Tx Z TC SC) (F : Fn Z "_law_is" "_law_is" s_law_is) (c__law_integer : Cl Z CX0 1 "_law_integer" p_is_integer) (c__law_gcd : Cl Z CX0 1 "_law_gcd" p_law_gcd) : Cl Z CX0 2 "_law_is" (p_law_is SC) := by
  refine F.cl S_law_is B_law_is len3 fun f cdv A outer sh H vs Q E hr h => ?_
  obtain ⟨_, _, _, rfl, p, o, u, rfl, rfl, rfl, u0, u60, o0, o60, ⟨dx, hp⟩, k⟩ := h
  have nd := S_law_is.nd
  have gp := gd_pos (o := o) u0
  have gl : gd o u ≤ 2 ^ 60 := Int.le_trans (gd_le (o := o) u0) u60
  refine ⟨_, (pss_cons (ps_if (PW.pt (pw_or (pt_not (pt_val (pe_callB (call_isiK (K := Z.K)) rfl T.b_isinstance (by decide +kernel) (pa_cons (pv 0) (pa_cons (pe_glob rfl T.m_Share (show RelV (.ref _) (.ref _) from rfl)) pa_nil))))) (pw_or (pt_not (pt_val (pe_cl c__law_integer (hr.mono (by decide)) rfl pass0 (pa_cons (pe_fldK (K := Z.K) (pv 0) rfl) pa_nil)))) (pw_or1 (pt_not (pt_val (pe_cl c__law_integer (hr.mono (by decide)) rfl pass0 (pa_cons (pe_fldK (K := Z.K) (pv 0) rfl) pa_nil)))))))) (pss_one (ps_ret pe_bl)) pss_nil)
  (pss_cons (ps_set (i := 3) nd rfl (Or.inl rfl) (pe_cl c__law_gcd (hr.mono (by decide)) rfl pass0 (pa_cons (pe_callB call_absN rfl T.b_abs (by decide +kernel) (pa_cons (pv 1) pa_nil)) (pa_cons (pv 2) pa_nil))))
  (pss_one (ps_ret (pe_and (pe_cmpR op_eq (pe_op op_mul (pe_fldK (K := Z.K) (pv 0) rfl) (pv 3)) (pv 1) (nomark _)) (pe_one (pe_cmpR op_eq (pe_op op_mul (pe_fldK (K := Z.K) (pv 0) rfl) (pv 3)) (pv 2) (nomark _)))))))), ?_⟩
  show tSeq _ _ _ [some (.ref p), some (.int o), some (.int u), none] H
  repeat walk_at "st"
  refine isC (T.iS hp) T.kSS (w_bl ?_)
  refine iteF ?_
  repeat walk_at "st"
  refine rS_o T hp ?_
  repeat walk_at "st"
  refine ⟨trivial, ?_⟩
  repeat walk_at "st"
  refine iteF ?_
  repeat walk_at "st"
  refine rS_u T hp ?_
  repeat walk_at "st"
  refine ⟨trivial, ?_⟩
  repeat walk_at "st"
  refine iteF ?_
  repeat walk_at "st"
  refine w_abs ?_
  repeat walk_at "st"
  refine ⟨o.natAbs, u.natAbs, by congr 1; split <;> omega, by congr 1; omega, by omega, by omega, ?_⟩
  repeat walk_at "st"
  refine rS_o T hp ?_
  repeat walk_at "st"
  have e1 : ((o.natAbs.gcd u.natAbs : Nat) : Int) = gd o u := rfl
  rw [e1]
  refine w_I (.inr ⟨by omega, by omega⟩) ?_
  repeat walk_at "st"
  rw [gd_l, decide_eq_true rfl]
  refine iteT ?_
  repeat walk_at "st"
  refine rS_u T hp ?_
  repeat walk_at "st"
  refine w_I (.inr ⟨by omega, by omega⟩) ?_
  repeat walk_at "st"
  rw [gd_r, decide_eq_true rfl]
  exact k
abbrev N_law_bits : List Str := ["_law_number_here", "_law_n", "_law_found", "_law_rest", "_law_k"]
theorem S_law_bits : FnScope N_law_bits ["_law_number_here", "_law_n"] (defScope s_law_bits) := ⟨rfl, rfl, rfl, by decide +kernel, rfl, by decide +kernel, by decide +kernel⟩
theorem B_law_bits : Bnd "_law_bits" "_law_bits" s_law_bits ["_law_number_here", "_law_n"] := fun _ _ _ _ _ _ us hl => match us, hl with | [_, _], _ => rfl
abbrev p_law_bits : Sp := sp2 fun a b H Q _ => ∃ x n : Nat, a = .int x ∧ b = .int n ∧ n ≤ 62 ∧ ∀ H' q, H q = none → XT H H' → Wo H' q n x → Q (.ref q) H'
theorem fdiv_pow (x i : Nat) : ((x / 2 ^ i : Nat) : Int).fdiv 2 = ((x / 2 ^ (i + 1) : Nat) : Int) := by
  rw [Int.fdiv_eq_ediv_of_nonneg _ (by decide), Nat.pow_succ, ← Nat.div_div_eq_div_mul]
  omega
theorem fmod_pow (x i : Nat) : ((x / 2 ^ i : Nat) : Int).fmod 2 = ((x / 2 ^ i % 2 : Nat) : Int) := by
  rw [Int.fmod_eq_emod_of_nonneg _ (by decide)]
  omega
theorem c_law_bits (T : Tx Z TC SC) (F : Fn Z "_law_bits" "_law_bits" s_law_bits) : Cl Z CX0 1 "_law_bits" p_law_bits := by
  refine F.cl S_law_bits B_law_bits len2 fun f cdv A outer sh H vs Q E hr h => ?_
  obtain ⟨_, _, rfl, x, n, rfl, rfl, hn, k⟩ := h
  have nd := S_law_bits.nd
  refine ⟨_, (pss_cons (ps_set (i := 2) nd rfl (Or.inl rfl) (pe_lst pa_nil))
  (pss_cons (ps_set (i := 3) nd rfl (Or.inl rfl) (pv 0))
  (pss_cons (ps_for PassesOwn.never rfl (pi_range1 rfl T.b_range (pa_cons (pv 1) pa_nil)) (pg_name (i := 4) nd rfl (Or.inl rfl))
  (pss_cons (ps_set (i := 2) nd rfl (Or.inl rfl) (pe_op op_cat (pe_lst (pa_cons (pe_op op_modN (pe_callTy call_intN rfl T.b_int (by decide +kernel) (pa_cons (pv 3) pa_nil)) pe_int) pa_nil)) (pv 2)))
  (pss_one (ps_set (i := 3) nd rfl (Or.inl rfl) (pe_op op_fdivN (pv 3) pe_int)))))
  (pss_one (ps_ret (pe_callTy (call_tupleK (K := Z.K)) rfl T.b_tuple (by decide +kernel) (pa_cons (pv 2) pa_nil))))))), ?_⟩
  show tSeq _ _ _ [some (.int x), some (.int n), none, none, none] H
  repeat walk_at "st"
  refine ⟨by show 0 ≤ sizeLine; decide, fun l hl => ?_⟩
  repeat walk_at "st"
  refine ⟨_, rfl, by omega, by omega, ?_⟩
  rw [Int.toNat_natCast]
  refine for_lit walk_rng (fun i σ H2 => XT H H2 ∧ ∃ (p : Addr) (z : Option V), H2 p = some (.lst ((M.wd i x).map V.int)) ∧ σ = [some (.int x), some (.int n), some (.ref p), some (.int ((x / 2 ^ i : Nat) : Int)), z]) ⟨XT.new hl, l, none, upd_same, by rw [Nat.pow_zero, Nat.div_one]⟩ (fun _ _ _ _ _ => trivial) ?_ ?_
  · rintro i v σ H2 H3 hi ⟨x2, p, z, hp, rfl⟩ ⟨rfl, rfl⟩
    refine w_name (σ' := [some (.int x), some (.int n), some (.ref p), some (.int ((x / 2 ^ i : Nat) : Int)), some (.int (i : Nat))]) rfl ?_
    repeat walk_at "st"
    refine w_int ?_
    repeat walk_at "st"
    refine w_I (by decide) ?_
    repeat walk_at "st"
    refine ⟨by show 1 ≤ sizeLine; decide, fun q hq => ?_⟩
    repeat walk_at "st"
    refine ⟨q, p, _, _, rfl, rfl, upd_same, (XT.new hq).lst hp, ?_, fun w hw => ?_⟩
    · have h1 := M.wd_len i x
      have : (63 : Nat) ≤ sizeLine := by decide
      simp only [List.length_cons, List.length_nil, List.length_map]
      omega
    · repeat walk_at "st"
      refine w_I (show CDivN _ _ from ⟨by decide, by decide⟩) ?_
      repeat walk_at "st"
      refine ⟨(x2.add hq).add hw, w, some (.int (i : Nat)), ?_, by rw [fdiv_pow]⟩
      rw [upd_same, M.wd_cons, fmod_pow]
      rfl
  · rintro σ H2 ⟨x2, p, z, hp, rfl⟩
    repeat walk_at "st"
    refine ⟨p, _, rfl, .inl ⟨SqL.of hp, fun q hq => ?_⟩⟩
    exact k _ q (x2.dom _ hq) (x2.add hq) upd_same
abbrev N_law_word : List Str := ["_law_state", "_law_n", "_law_k"]
theorem S_law_word : FnScope N_law_word ["_law_state", "_law_n"] (defScope s_law_word) := ⟨rfl, rfl, rfl, by decide +kernel, rfl, by decide +kernel, by decide +kernel⟩
theorem B_law_word : Bnd "_law_word" "_law_word" s_law_word ["_law_state", "_law_n"] := fun _ _ _ _ _ _ us hl => match us, hl with | [_, _], _ => rfl
abbrev p_law_word : Sp := sp2 fun a b H Q _ => ∃ (s c : Addr) (n : Nat), a = .ref s ∧ b = .int n ∧ n ≤ 62 ∧ St H s c ∧ ∀ H' q x, H q = none → XS s H H' → St H' s c → x < 2 ^ n → Wo H' q n x → Q (.ref q) H'
theorem ints_of {l : List V} (h : ∀ v ∈ l, ∃ r : Nat, r < 2 ∧ v = .int r) : ∃ k : List Int, (∀ x ∈ k, x = 0 ∨ x = 1) ∧ l = k.map V.int := by
  induction l with
  | nil => exact ⟨[], (fun x hx => nomatch hx), rfl⟩
  | cons v r ih =>
    obtain ⟨k, hk, e⟩ := ih fun u hu => h u (List.mem_cons_of_mem _ hu)
    obtain ⟨q, hq, rfl⟩ := h v List.mem_cons_self
    refine ⟨(q : Int) :: k, fun x hx => ?_, by rw [e]; rfl⟩
    rcases List.mem_cons.mp hx with rfl | hx
    · omega
    · exact hk x hx
theorem c_law_word (T : Tx Z TC SC) (F : Fn Z "_law_word" "_law_word" s_law_word) (c__law_draw : Cl Z CX0 1 "_law_draw" p_law_draw) : Cl Z CX0 2 "_law_word" p_law_word := by
  refine F.cl S_law_word B_law_word len2 fun f cdv A outer sh H vs Q E hr h => ?_
  obtain ⟨_, _, rfl, s, c, n, rfl, rfl, hn, S, k⟩ := h
  have nd := S_law_word.nd
  refine ⟨_, (pss_one (ps_ret (pe_callTy (call_tupleK (K := Z.K)) rfl T.b_tuple (by decide +kernel) (pa_cons (pe_lc (own := [("_law_k", 2)]) rfl nd (pi_range1 rfl T.b_range (pa_cons (pv 1) pa_nil)) (blkOk_by (N := N_law_word) (sc := defScope s_law_word) (by decide +kernel)) (fun _ _ _ _ _ => (pg_name (i := 2) nd rfl (Or.inl rfl))) (fun _ _ _ _ _ => pts_nil) (fun _ _ _ _ _ => (pe_cl c__law_draw (hr.mono (by decide)) rfl pass0 (pa_cons (pv 0) (pa_cons pe_int pa_nil))))) pa_nil)))), ?_⟩
  show tRet _ _ [some (.ref s), some (.int n), none] H
  repeat walk_at "st"
  refine ⟨_, rfl, by omega, by omega, fun D hD => ?_⟩
  rw [Int.toNat_natCast]
  refine lc_drawn (s := s) (I := fun H => St H s c) (R := fun v => ∃ r : Nat, r < 2 ∧ v = .int r) walk_rng hD (Nat.lt_of_le_of_lt hn (by decide)) (fun _ _ _ => trivial) (S.ne hD).1 (fun H2 o S2 => S2.upd (S.ne hD).1 (S.ne hD).2) S (fun i v H2 H3 hi x2 S2 hy K1 hk => ?_) fun H2 l x2 S2 hl hR h2 => ?_
  · obtain ⟨rfl, rfl⟩ := hy
    refine w_name (σ' := [some (.ref s), some (.int n), some (.int (i : Nat))]) rfl ⟨rfl, ?_⟩
    repeat walk_at "st"
    exact ⟨s, c, 2, rfl, rfl, S2, by decide, fun H4 r x4 S4 hr => hk _ _ ⟨r, by omega, rfl⟩ x4 S4⟩
  · obtain ⟨w, hw, rfl⟩ := ints_of hR
    rw [List.length_map] at hl
    obtain ⟨a, ha, e⟩ := M.wd_of w hw
    repeat walk_at "st"
    refine ⟨D, _, rfl, .inl ⟨SqL.of h2, fun q hq => ?_⟩⟩
    refine k _ q a (x2.dom _ hq) (x2.add hq) (S2.put hq) (by rw [← hl]; exact ha) ?_
    show (upd H2 q _) q = _
    rw [upd_same, e, hl]
end
end Q
set_option Elab.async false
set_option linter.all false
set_option maxRecDepth 100000
set_option maxHeartbeats 1000000
namespace Q
open PySem PySem.Spec PyProof.Rows L2
local macro_rules | `(tactic| walk_at "st") => `(tactic| first
  | with_reducible refine w_seq ?_ | with_reducible refine w_next ?_ | with_reducible refine w_ret ?_ | with_reducible refine w_ifs ?_ | with_reducible refine w_asg ?_ | with_reducible refine w_drop ?_
  | with_reducible refine w_name (by simp only [List.set_cons_zero, List.set_cons_succ]; rfl) ?_
  | with_reducible refine w_var (by with_unfolding_all rfl) ?_
  | with_reducible refine w_c ?_ | with_reducible refine w_op ?_ | with_reducible refine w_un ?_ | with_reducible refine w_cons ?_ | with_reducible refine w_nil ?_ | with_reducible refine w_cb ?_ | with_reducible refine w_call ?_
  | with_reducible refine w_and ?_ | with_reducible refine w_or ?_ | with_reducible refine w_not ?_ | with_reducible refine w_tb ?_ | with_reducible refine w_tt ?_ | with_reducible refine w_bl ?_
  | with_reducible refine w_tand ?_ | with_reducible refine w_tor ?_ | with_reducible refine w_tnot ?_ | with_reducible refine w_yes ?_ | with_reducible refine w_chain ?_
  | with_reducible refine w_I0 ?_ | with_reducible refine w_eqI ?_ | with_reducible refine w_neI ?_ | with_reducible refine w_eqB ?_ | with_reducible refine w_neB ?_
  | with_reducible refine w_fl ?_ | with_reducible refine w_rng ?_ | with_reducible refine w_lst ?_ | with_reducible refine w_tup ?_
  | with_reducible refine w_sfld ?_ | with_reducible refine w_tmk ?_ | with_reducible refine w_gsub ?_ | with_reducible refine w_for ?_ | with_reducible refine w_tlc ?_ | with_reducible refine w_gx ?_ | with_reducible refine w_itup ?_ | with_reducible refine w_ilst ?_ | with_reducible refine w_izp ?_
  | with_reducible refine w_sl ?_ | with_reducible refine w_part ?_ | with_reducible refine w_pint ?_ | with_reducible refine w_nopart ?_
  | with_reducible refine w_rz ?_ | with_reducible refine w_callS ?_ | with_reducible refine w_callNS ?_ | with_reducible refine w_callD ?_ | with_reducible refine w_2d ?_ | with_reducible refine w_par ?_
  | with_reducible refine w_1 ?_ | with_reducible refine w_2 ?_ | with_reducible refine w_3 ?_ | with_reducible refine w_4 ?_ | with_reducible refine w_5 ?_)
section
variable {Z : Wd} {TC SC : Addr}
abbrev N_law_dot : List Str := ["_law_one", "_law_other", "_law_a", "_law_b"]
theorem S_law_dot : FnScope N_law_dot ["_law_one", "_law_other"] (defScope s_law_dot) := ⟨rfl, rfl, rfl, by decide +kernel, rfl, by decide +kernel, by decide +kernel⟩
theorem B_law_dot : Bnd "_law_dot" "_law_dot" s_law_dot ["_law_one", "_law_other"] := fun _ _ _ _ _ _ us hl => match us, hl with | [_, _], _ => rfl
abbrev p_law_dot : Sp := sp2 fun a b H Q _ => ∃ p q n x y, a = .ref p ∧ b = .ref q ∧ Wo H p n x ∧ Wo H q n y ∧ n ≤ 62 ∧ ∀ H', XT H H' → Q (.int (M.b2 (M.dot n x y))) H'
theorem hlenW (n x y : Nat) : n = min ((M.wd n x).map V.int).length ((M.wd n y).map V.int).length := by simp [M.wd_len]
theorem wd_at {n x i : Nat} {a : V} (hi : i < n) (h : ((M.wd n x).map V.int)[i]? = some a) : a = .int ((x / 2 ^ (n - 1 - i) % 2 : Nat) : Int) := by
  rw [List.getElem?_map, M.wd_get hi] at h
  exact (Option.some.inj h).symm
theorem c_law_dot (T : Tx Z TC SC) (F : Fn Z "_law_dot" "_law_dot" s_law_dot) : Cl Z CX0 1 "_law_dot" p_law_dot := by
  refine F.cl S_law_dot B_law_dot len2 fun f cdv A outer sh H vs Q E hr h => ?_
  obtain ⟨_, _, rfl, p, q, n, x, y, rfl, rfl, hp, hq, hn, k⟩ := h
  have nd := S_law_dot.nd
  refine ⟨_, (pss_one (ps_ret (pe_op op_modN (pe_callTy call_intN rfl T.b_int (by decide +kernel) (pa_cons (pe_callB (cr_sumK (K := Z.K) rfl) rfl T.b_sum (by decide +kernel) (pa_cons (pe_lc (own := [("_law_a", 2), ("_law_b", 3)]) rfl nd (RZ.pi_zipA rfl T.b_zip (pa_cons (pv 0) (pa_cons (pv 1) pa_nil))) (blkOk_by (N := N_law_dot) (sc := defScope s_law_dot) (by decide +kernel)) (fun _ _ _ _ _ => (pg_tupK (K := Z.K) (n := 2) rfl (pgs_cons (pg_name (i := 2) nd rfl (Or.inl rfl)) (pgs_cons (pg_name (i := 3) nd rfl (Or.inl rfl)) pgs_nil)))) (fun _ _ _ _ _ => pts_nil) (fun _ _ _ _ _ => (pe_op op_mul (pv 2) (pv 3)))) pa_nil)) pa_nil)) pe_int))), ?_⟩
  show tRet _ _ [some (.ref p), some (.ref q), none, none] H
  repeat walk_at "st"
  refine ⟨p, q, _, _, rfl, .inr ⟨SqT.of hp, SqT.of hq, fun D hD => ?_⟩⟩
  refine lc_map (walk_zipT (K := Z.K) (a := p) (b := q) (hlenW n x y)) (fun i => .int (((x / 2 ^ (n - 1 - i) % 2 : Nat) : Int) * ((y / 2 ^ (n - 1 - i) % 2 : Nat) : Int))) hD (Nat.lt_of_le_of_lt hn (by decide)) (fun H1 x1 => ⟨SqT.of (x1.tup hp), SqT.of (x1.tup hq)⟩) (fun i v H1 H' hi x1 hy K1 hk => ?_) fun H1 x1 hh => ?_
  · obtain ⟨u, a, b, rfl, hu, rfl, ha, hb⟩ := hy
    cases wd_at hi ha
    cases wd_at hi hb
    refine w_pair upd_same (σ' := [some (.ref p), some (.ref q), some (.int _), some (.int _)]) rfl ⟨rfl, ?_⟩
    repeat walk_at "st"
    refine w_I (.inl (by constructor <;> omega)) ?_
    exact hk _ (XT.new hu)
  · repeat walk_at "st"
    refine ⟨D, (List.range n).map fun i => ((x / 2 ^ (n - 1 - i) % 2 : Nat) : Int) * ((y / 2 ^ (n - 1 - i) % 2 : Nat) : Int), rfl, SqL.of (by rw [hh, List.map_map]; rfl), ?_⟩
    repeat walk_at "st"
    refine w_int ?_
    repeat walk_at "st"
    refine w_I (by decide) ?_
    rw [Int.fmod_eq_emod_of_nonneg _ (by decide), M.dot_sum]
    exact k H1 x1
abbrev N_law_plus : List Str := ["_law_one", "_law_other", "_law_a", "_law_b"]
theorem S_law_plus : FnScope N_law_plus ["_law_one", "_law_other"] (defScope s_law_plus) := ⟨rfl, rfl, rfl, by decide +kernel, rfl, by decide +kernel, by decide +kernel⟩
theorem B_law_plus : Bnd "_law_plus" "_law_plus" s_law_plus ["_law_one", "_law_other"] := fun _ _ _ _ _ _ us hl => match us, hl with | [_, _], _ => rfl
abbrev p_law_plus : Sp := sp2 fun a b H Q _ => ∃ p q n x y, a = .ref p ∧ b = .ref q ∧ Wo H p n x ∧ Wo H q n y ∧ n ≤ 62 ∧ ∀ H' r, H r = none → XT H H' → Wo H' r n (x ^^^ y) → Q (.ref r) H'
theorem c_law_plus (T : Tx Z TC SC) (F : Fn Z "_law_plus" "_law_plus" s_law_plus) : Cl Z CX0 1 "_law_plus" p_law_plus := by
  refine F.cl S_law_plus B_law_plus len2 fun f cdv A outer sh H vs Q E hr h => ?_
  obtain ⟨_, _, rfl, p, q, n, x, y, rfl, rfl, hp, hq, hn, k⟩ := h
  have nd := S_law_plus.nd
  refine ⟨_, (pss_one (ps_ret (pe_callTy (call_tupleK (K := Z.K)) rfl T.b_tuple (by decide +kernel) (pa_cons (pe_lc (own := [("_law_a", 2), ("_law_b", 3)]) rfl nd (RZ.pi_zipA rfl T.b_zip (pa_cons (pv 0) (pa_cons (pv 1) pa_nil))) (blkOk_by (N := N_law_plus) (sc := defScope s_law_plus) (by decide +kernel)) (fun _ _ _ _ _ => (pg_tupK (K := Z.K) (n := 2) rfl (pgs_cons (pg_name (i := 2) nd rfl (Or.inl rfl)) (pgs_cons (pg_name (i := 3) nd rfl (Or.inl rfl)) pgs_nil)))) (fun _ _ _ _ _ => pts_nil) (fun _ _ _ _ _ => (pe_op op_modN (pe_callTy call_intN rfl T.b_int (by decide +kernel) (pa_cons (pe_op op_add (pv 2) (pv 3)) pa_nil)) pe_int))) pa_nil)))), ?_⟩
  show tRet _ _ [some (.ref p), some (.ref q), none, none] H
  repeat walk_at "st"
  refine ⟨p, q, _, _, rfl, .inr ⟨SqT.of hp, SqT.of hq, fun D hD => ?_⟩⟩
  refine lc_map (walk_zipT (K := Z.K) (a := p) (b := q) (hlenW n x y)) (fun i => .int (((x ^^^ y) / 2 ^ (n - 1 - i) % 2 : Nat) : Int)) hD (Nat.lt_of_le_of_lt hn (by decide)) (fun H1 x1 => ⟨SqT.of (x1.tup hp), SqT.of (x1.tup hq)⟩) (fun i v H1 H' hi x1 hy K1 hk => ?_) fun H1 x1 hh => ?_
  · obtain ⟨u, a, b, rfl, hu, rfl, ha, hb⟩ := hy
    cases wd_at hi ha
    cases wd_at hi hb
    refine w_pair upd_same (σ' := [some (.ref p), some (.ref q), some (.int _), some (.int _)]) rfl ⟨rfl, ?_⟩
    repeat walk_at "st"
    refine w_int ?_
    repeat walk_at "st"
    refine w_I (by decide) ?_
    rw [Int.fmod_eq_emod_of_nonneg _ (by decide), ← M.xor_bit]
    exact hk _ (XT.new hu)
  · repeat walk_at "st"
    refine ⟨D, _, rfl, .inl ⟨SqL.of hh, fun r hr => ?_⟩⟩
    refine k _ r (x1.dom _ hr) (x1.add hr) ?_
    show (upd H1 r _) r = _
    rw [upd_same]
    simp only [M.wd, List.map_map]
    rfl
abbrev N_law_number : List Str := ["_law_bits_here", "_law_number_here", "_law_bit"]
theorem S_law_number : FnScope N_law_number ["_law_bits_here"] (defScope s_law_number) := ⟨rfl, rfl, rfl, by decide +kernel, rfl, by decide +kernel, by decide +kernel⟩
theorem B_law_number : Bnd "_law_number" "_law_number" s_law_number ["_law_bits_here"] := fun _ _ _ _ _ _ us hl => match us, hl with | [_], _ => rfl
theorem c_law_number (F : Fn Z "_law_number" "_law_number" s_law_number) : Cl Z CX0 1 "_law_number" p_bits_number := by
  refine F.cl S_law_number B_law_number len1 fun f cdv A outer s H vs Q E hr h => ?_
  obtain ⟨_, rfl, p, l, rfl, hp, k⟩ := h
  have nd := S_law_number.nd
  refine ⟨_, (pss_cons (ps_set (i := 1) nd rfl (Or.inl rfl) pe_int)
  (pss_cons (ps_for PassesOwn.never rfl (pi_tupK (K := Z.K) (pv 0)) (pg_name (i := 2) nd rfl (Or.inl rfl))
  (pss_one (ps_set (i := 1) nd rfl (Or.inl rfl) (pe_op op_add (pe_op op_mul pe_int (pv 1)) (pv 2)))))
  (pss_one (ps_ret (pv 1))))), ?_⟩
  show tSeq _ _ _ [some (.ref p), none, none] H
  repeat walk_at "st"
  refine ⟨p, rfl, ⟨_, SqT.of hp⟩, for_lit (walk_tup (K := Z.K) (xs := l.map V.int)) (fun i σ H1 => H1 = H ∧ ∃ z, σ = [some (.ref p), some (.int (M.num (l.take i))), z]) ⟨rfl, none, rfl⟩ (fun i σ H1 _ h => by rw [h.1]; exact SqT.of hp) ?_ ?_⟩
  · rintro i x σ H1 H' hi ⟨rfl, z, rfl⟩ ⟨rfl, hx⟩
    rw [List.getElem?_map] at hx
    obtain ⟨y, hy, rfl⟩ := Option.map_eq_some_iff.mp hx
    refine w_name (σ' := [some (.ref p), some (.int (M.num (l.take i))), some (.int y)]) rfl ?_
    repeat walk_at "st"
    refine w_I (.inl (by decide)) ?_
    repeat walk_at "st"
    refine ⟨rfl, some (.int y), ?_⟩
    rw [take_succ hy, M.num_snoc]
  · rintro σ H1 ⟨rfl, z, rfl⟩
    repeat walk_at "st"
    rw [List.length_map, List.take_length]
    exact k
abbrev N_law_odd : List Str := ["_law_state", "_law_kind"]
theorem S_law_odd : FnScope N_law_odd ["_law_state"] (defScope s_law_odd) := ⟨rfl, rfl, rfl, by decide +kernel, rfl, by decide +kernel, by decide +kernel⟩
theorem B_law_odd : Bnd "_law_odd" "_law_odd" s_law_odd ["_law_state"] := fun _ _ _ _ _ _ us hl => match us, hl with | [_], _ => rfl
abbrev p_law_odd : Sp := sp1 fun a H Q _ => ∃ s c, a = .ref s ∧ St H s c ∧ ∀ H' v, XS s H H' → St H' s c → Nice H' v → Q v H'
theorem c_law_odd (T : Tx Z TC SC) (F : Fn Z "_law_odd" "_law_odd" s_law_odd) (c__law_draw : Cl Z CX0 1 "_law_draw" p_law_draw) (c__law_wide : Cl Z CX0 2 "_law_wide" p_law_wide) : Cl Z CX0 3 "_law_odd" p_law_odd := by
  refine F.cl S_law_odd B_law_odd len1 fun f cdv A outer sh H vs Q E hr h => ?_
  obtain ⟨_, rfl, s, c, rfl, S, k⟩ := h
  have nd := S_law_odd.nd
  refine ⟨_, (pss_cons (ps_set (i := 1) nd rfl (Or.inl rfl) (pe_cl c__law_draw (hr.mono (by decide)) rfl pass0 (pa_cons (pv 0) (pa_cons pe_int pa_nil))))
  (pss_cons (ps_if (pt_cmpR op_eq (pv 1) pe_int (nomark _)) (pss_one (ps_ret pe_non)) pss_nil)
  (pss_cons (ps_if (pt_cmpR op_eq (pv 1) pe_int (nomark _)) (pss_one (ps_ret (pe_cmpR op_eq (pe_cl c__law_draw (hr.mono (by decide)) rfl pass0 (pa_cons (pv 0) (pa_cons pe_int pa_nil))) pe_int (nomark _)))) pss_nil)
  (pss_cons (ps_if (pt_cmpR op_eq (pv 1) pe_int (nomark _)) (pss_one (ps_ret (pe_op op_sub (pe_op op_sub pe_int pe_int) (pe_op op_mul (pe_cl c__law_draw (hr.mono (by decide)) rfl pass0 (pa_cons (pv 0) (pa_cons pe_int pa_nil))) (pe_cl c__law_wide (hr.mono (by decide)) rfl pass0 (pa_cons (pv 0) pa_nil)))))) pss_nil)
  (pss_cons (ps_if (pt_cmpR op_eq (pv 1) pe_int (nomark _)) (pss_one (ps_ret (pe_callTy call_str_int rfl T.b_str (by decide +kernel) (pa_cons (pe_cl c__law_draw (hr.mono (by decide)) rfl pass0 (pa_cons (pv 0) (pa_cons pe_int pa_nil))) pa_nil)))) pss_nil)
  (pss_cons (ps_if (pt_cmpR op_eq (pv 1) pe_int (nomark _)) (pss_one (ps_ret (pe_lst (pa_cons (pe_cl c__law_draw (hr.mono (by decide)) rfl pass0 (pa_cons (pv 0) (pa_cons pe_int pa_nil))) pa_nil)))) pss_nil)
  (pss_cons (ps_if (pt_cmpR op_eq (pv 1) pe_int (nomark _)) (pss_one (ps_ret (pe_op op_add pe_int (pe_op op_mul (pe_cl c__law_draw (hr.mono (by decide)) rfl pass0 (pa_cons (pv 0) (pa_cons pe_int pa_nil))) (pe_cl c__law_wide (hr.mono (by decide)) rfl pass0 (pa_cons (pv 0) pa_nil)))))) pss_nil)
  (pss_cons (ps_if (pt_cmpR op_eq (pv 1) pe_int (nomark _)) (pss_one (ps_ret (pe_tup (pa_cons (pe_cl c__law_draw (hr.mono (by decide)) rfl pass0 (pa_cons (pv 0) (pa_cons pe_int pa_nil))) pa_nil)))) pss_nil)
  (pss_cons (ps_if (pt_cmpR op_eq (pv 1) pe_int (nomark _)) (pss_one (ps_ret (pe_tup pa_nil))) pss_nil)
  (pss_cons (ps_if (pt_cmpR op_eq (pv 1) pe_int (nomark _)) (pss_one (ps_ret (pe_tup (pa_cons (pe_tup (pa_cons pe_int (pa_cons pe_int pa_nil))) (pa_cons (pe_lst (pa_cons pe_non (pa_cons pe_str pa_nil))) pa_nil))))) pss_nil)
  (pss_one (ps_ret pe_str)))))))))))), ?_⟩
  show tSeq _ _ _ [some (.ref s), none] H
  repeat walk_at "st"
  refine ⟨s, c, _, rfl, rfl, S, by decide, fun H1 r x1 S1 hr1 => ?_⟩
  repeat walk_at "st"
  refine ite2 (fun _ => ?_) (fun _ => ?_)
  · repeat walk_at "st"
    exact k H1 _ x1 S1 trivial
  repeat walk_at "st"
  refine ite2 (fun _ => ?_) (fun _ => ?_)
  · repeat walk_at "st"
    refine ⟨s, c, _, rfl, rfl, S1, by decide, fun H2 r2 x2 S2 _ => ?_⟩
    repeat walk_at "st"
    exact k H2 _ (x1.trans x2) S2 trivial
  repeat walk_at "st"
  refine ite2 (fun _ => ?_) (fun _ => ?_)
  · repeat walk_at "st"
    refine ⟨s, c, _, rfl, rfl, S1, by decide, fun H2 r2 x2 S2 h2 => ?_⟩
    repeat walk_at "st"
    refine ⟨s, c, rfl, S2, fun H3 r3 x3 S3 => ?_⟩
    refine w_I (.inl ⟨by omega, by omega⟩) ?_
    repeat walk_at "st"
    exact k H3 _ ((x1.trans x2).trans x3) S3 trivial
  repeat walk_at "st"
  refine ite2 (fun _ => ?_) (fun _ => ?_)
  · repeat walk_at "st"
    refine ⟨s, c, _, rfl, rfl, S1, by decide, fun H2 r2 x2 S2 h2 => ?_⟩
    refine ⟨_, rfl, Nat.lt_trans (log_lt (k := 2) (by omega) (by decide)) (by decide), ?_⟩
    exact k H2 _ (x1.trans x2) S2 trivial
  repeat walk_at "st"
  refine ite2 (fun _ => ?_) (fun _ => ?_)
  · repeat walk_at "st"
    refine ⟨s, c, _, rfl, rfl, S1, by decide, fun H2 r2 x2 S2 h2 => ?_⟩
    refine ⟨by show 1 ≤ sizeLine; decide, fun p hp => ?_⟩
    exact k _ _ ((x1.trans x2).add hp) (S2.put hp) (.inl ⟨_, upd_same⟩)
  repeat walk_at "st"
  refine ite2 (fun _ => ?_) (fun _ => ?_)
  · repeat walk_at "st"
    refine ⟨s, c, _, rfl, rfl, S1, by decide, fun H2 r2 x2 S2 h2 => ?_⟩
    repeat walk_at "st"
    refine ⟨s, c, rfl, S2, fun H3 r3 x3 S3 => ?_⟩
    refine w_I (.inl ⟨by omega, by omega⟩) ?_
    repeat walk_at "st"
    exact k H3 _ ((x1.trans x2).trans x3) S3 trivial
  repeat walk_at "st"
  refine ite2 (fun _ => ?_) (fun _ => ?_)
  · repeat walk_at "st"
    refine ⟨s, c, _, rfl, rfl, S1, by decide, fun H2 r2 x2 S2 h2 => ?_⟩
    refine ⟨by show 1 ≤ sizeLine; decide, fun p hp => ?_⟩
    exact k _ _ ((x1.trans x2).add hp) (S2.put hp) (.inr ⟨_, upd_same⟩)
  repeat walk_at "st"
  refine ite2 (fun _ => ?_) (fun _ => ?_)
  · repeat walk_at "st"
    refine ⟨by show 0 ≤ sizeLine; decide, fun p hp => ?_⟩
    exact k _ _ (x1.add hp) (S1.put hp) (.inr ⟨_, upd_same⟩)
  repeat walk_at "st"
  refine ite2 (fun _ => ?_) (fun _ => ?_)
  · repeat walk_at "st"
    refine ⟨by show 2 ≤ sizeLine; decide, fun p hp => ?_⟩
    repeat walk_at "st"
    refine ⟨by show 2 ≤ sizeLine; decide, fun p2 hp2 => ?_⟩
    repeat walk_at "st"
    refine ⟨by show 2 ≤ sizeLine; decide, fun p3 hp3 => ?_⟩
    exact k _ _ (((x1.add hp).add hp2).add hp3) (((S1.put hp).put hp2).put hp3) (.inr ⟨_, upd_same⟩)
  repeat walk_at "st"
  exact k H1 _ x1 S1 trivial
abbrev N_law_halves : List Str := ["_law_values", "_law_n", "_law_found", "_law_place", "_law_step", "_law_at", "_law_low", "_law_high"]
theorem S_law_halves : FnScope N_law_halves ["_law_values", "_law_n"] (defScope s_law_halves) := ⟨rfl, rfl, rfl, by decide +kernel, rfl, by decide +kernel, by decide +kernel⟩
theorem B_law_halves : Bnd "_law_halves" "_law_halves" s_law_halves ["_law_values", "_law_n"] := fun _ _ _ _ _ _ us hl => match us, hl with | [_, _], _ => rfl
abbrev p_law_halves : Sp := sp2 fun a b H Q _ => ∃ p n g, a = .ref p ∧ b = .int (n : Nat) ∧ H p = some (.lst (iv n g)) ∧ n ≤ 6 ∧ ∀ H' l, H l = none → XT H H' → H' l = some (.lst (iv n (M.T n g))) → Q (.ref l) H'
theorem div_step (i j : Nat) : decide ((((i : Nat) : Int).fdiv ((2 ^ j : Nat) : Int)).fmod 2 = 0) = !i.testBit j := by
  rw [Int.fdiv_eq_ediv_of_nonneg _ (Int.natCast_nonneg _), Int.fmod_eq_emod_of_nonneg _ (by decide), M.tb_div]
  have e : ((i : Nat) : Int) / ((2 ^ j : Nat) : Int) = ((i / 2 ^ j : Nat) : Int) := by simp
  rw [e]
  generalize i / 2 ^ j = m
  by_cases c : m % 2 = 1
  · rw [decide_eq_true c, decide_eq_false (by omega)]; rfl
  · rw [decide_eq_false c, decide_eq_true (by omega)]; rfl
theorem c_law_halves (T : Tx Z TC SC) (F : Fn Z "_law_halves" "_law_halves" s_law_halves) : Cl Z CX0 1 "_law_halves" p_law_halves := by
  refine F.cl S_law_halves B_law_halves len2 fun f cdv A outer s H vs Q E hr h => ?_
  obtain ⟨_, _, rfl, p, n, g, rfl, rfl, hp, n6, k⟩ := h
  have nd := S_law_halves.nd
  have p6 := pow6 n6
  obtain ⟨q6, r6⟩ := pow6i n6
  refine ⟨_, (pss_cons (ps_set (i := 2) nd rfl (Or.inl rfl) (pe_callTy (call_listK (K := Z.K)) rfl T.b_list (by decide +kernel) (pa_cons (pv 0) pa_nil)))
  (pss_cons (ps_for PassesOwn.never rfl (pi_range1 rfl T.b_range (pa_cons (pv 1) pa_nil)) (pg_name (i := 3) nd rfl (Or.inl rfl))
  (pss_cons (ps_set (i := 4) nd rfl (Or.inl rfl) (pe_op op_shl pe_int (pv 3)))
  (pss_one (ps_for PassesOwn.never rfl (pi_range1 rfl T.b_range (pa_cons (pe_callB (call_lenK (K := Z.K)) rfl T.b_len (by decide +kernel) (pa_cons (pv 2) pa_nil)) pa_nil)) (pg_name (i := 5) nd rfl (Or.inl rfl))
  (pss_one (ps_if (pt_cmpR op_eq (pe_op op_modN (pe_op op_fdivN (pv 5) (pv 4)) pe_int) pe_int (nomark _)) (pss_cons (ps_set (i := 6) nd rfl (Or.inl rfl) (pe_ix (ix_seqK (K := Z.K)) (pv 2) (pv 5) (fun _ _ => rfl)))
  (pss_cons (ps_set (i := 7) nd rfl (Or.inl rfl) (pe_ix (ix_seqK (K := Z.K)) (pv 2) (pe_op op_add (pv 5) (pv 4)) (fun _ _ => rfl)))
  (pss_cons (ps_asg (pe_op op_add (pv 6) (pv 7)) (pg_sub (pv 2) (pv 5) set_list))
  (pss_one (ps_asg (pe_op op_sub (pv 6) (pv 7)) (pg_sub (pv 2) (pe_op op_add (pv 5) (pv 4)) set_list)))))) pss_nil))))))
  (pss_one (ps_ret (pv 2))))), ?_⟩
  show tSeq _ _ _ [some (.ref p), some (.int n), none, none, none, none, none, none] H
  repeat walk_at "st"
  refine ⟨p, _, rfl, .inl (SqL.of hp), fun l hl => ?_⟩
  repeat walk_at "st"
  refine ⟨_, rfl, by omega, by omega, ?_⟩
  rw [Int.toNat_natCast]
  refine for_lit walk_rng (fun j σ H2 => XT H H2 ∧ H2 l = some (.lst (iv n (M.T j g))) ∧ ∃ z0 z1 z2 z3 z4, σ = [some (.ref p), some (.int n), some (.ref l), z0, z1, z2, z3, z4]) ⟨XT.new hl, upd_same, none, none, none, none, none, rfl⟩ (fun _ _ _ _ _ => trivial) ?_ ?_
  · rintro j v σ H2 H3 hj ⟨x2, hl2, z0, z1, z2, z3, z4, rfl⟩ ⟨rfl, rfl⟩
    refine w_name (σ' := [some (.ref p), some (.int n), some (.ref l), some (.int (j : Nat)), z1, z2, z3, z4]) rfl ?_
    repeat walk_at "st"
    refine w_I (by refine ⟨by omega, by omega, by decide⟩) ?_
    rw [shl1]
    repeat walk_at "st"
    refine ⟨l, _, rfl, .inl (SqL.of hl2), ?_⟩
    repeat walk_at "st"
    rw [iv_len]
    refine ⟨_, rfl, by omega, by omega, ?_⟩
    rw [Int.toNat_natCast]
    have j6 := pow6 (n := j) (by omega)
    have jp := M.pow_pos2 j
    refine for_lit walk_rng (fun i σ H3 => XT H H3 ∧ H3 l = some (.lst (iv n (M.mix j i (M.T j g)))) ∧ ∃ z2 z3 z4, σ = [some (.ref p), some (.int n), some (.ref l), some (.int (j : Nat)), some (.int ((2 ^ j : Nat) : Int)), z2, z3, z4]) ⟨x2, by rw [hl2, iv_congr fun x _ => (M.mix_zero j (M.T j g) x).symm], z2, z3, z4, rfl⟩ (fun _ _ _ _ _ => trivial) ?_ ?_
    · rintro i v σ H3 H4 hi ⟨x3, hl3, y1, y2, y3, rfl⟩ ⟨rfl, rfl⟩
      refine w_name (σ' := [some (.ref p), some (.int n), some (.ref l), some (.int (j : Nat)), some (.int ((2 ^ j : Nat) : Int)), some (.int (i : Int)), y2, y3]) rfl ?_
      repeat walk_at "st"
      refine w_I (show CDivN _ _ from ⟨by omega, by omega⟩) ?_
      repeat walk_at "st"
      refine w_I (by decide) ?_
      repeat walk_at "st"
      rw [div_step]
      cases hb : i.testBit j with
      | true =>
        refine iteF ?_
        repeat walk_at "st"
        refine ⟨x3, ?_, some (.int (i : Int)), y2, y3, rfl⟩
        rw [hl3]; congr 2; exact iv_congr fun x _ => (M.mix_skip hb x).symm
      | false =>
        have hlt2 := M.tb_lt hj hi hb
        have e2 : (i : Int) + ((2 ^ j : Nat) : Int) = ((i + 2 ^ j : Nat) : Int) := by simp
        refine iteT ?_
        repeat walk_at "st"
        refine w_ixl (SqL.of hl3) (iv_at hi) ?_
        repeat walk_at "st"
        rw [e2]
        refine w_ixl (SqL.of hl3) (iv_at hlt2) ?_
        repeat walk_at "st"
        rw [M.mix_at hb, M.mix_at2 hb]
        refine w_setl hl3 (by rw [iv_len]; exact ixN_nat hi) ?_
        repeat walk_at "st"
        rw [e2]
        refine w_setl upd_same (by rw [List.length_set, iv_len]; exact ixN_nat hlt2) ?_
        rw [upd_upd, iv_mix hb]
        refine ⟨x3.put hl (.inr ⟨_, hl3, fun t z => by cases z⟩), upd_same, some (.int (i : Int)), some (.int _), some (.int _), rfl⟩
    · rintro σ H3 ⟨x3, hl3, y1, y2, y3, rfl⟩
      refine ⟨x3, ?_, _, _, y1, y2, y3, rfl⟩
      rw [hl3]; congr 2; exact iv_congr fun x hx => by rw [M.mix_all hx]; rfl
  · rintro σ H2 ⟨x2, hl2, z0, z1, z2, z3, z4, rfl⟩
    repeat walk_at "st"
    exact k H2 l hl x2 hl2
end
end Q
set_option Elab.async false
set_option linter.all false
set_option maxRecDepth 100000
set_option maxHeartbeats 1000000
namespace Q
open PySem PySem.Spec PyProof.Rows L2
local macro_rules | `(tactic| walk_at "st") => `(tactic| first
  | with_reducible refine w_seq ?_ | with_reducible refine w_next ?_ | with_reducible refine w_ret ?_ | with_reducible refine w_ifs ?_ | with_reducible refine w_asg ?_ | with_reducible refine w_drop ?_
  | with_reducible refine w_name (by simp only [List.set_cons_zero, List.set_cons_succ]; rfl) ?_
  | with_reducible refine w_var (by with_unfolding_all rfl) ?_
  | with_reducible refine w_c ?_ | with_reducible refine w_op ?_ | with_reducible refine w_un ?_ | with_reducible refine w_cons ?_ | with_reducible refine w_nil ?_ | with_reducible refine w_cb ?_ | with_reducible refine w_call ?_
  | with_reducible refine w_and ?_ | with_reducible refine w_or ?_ | with_reducible refine w_not ?_ | with_reducible refine w_tb ?_ | with_reducible refine w_tt ?_ | with_reducible refine w_bl ?_
  | with_reducible refine w_tand ?_ | with_reducible refine w_tor ?_ | with_reducible refine w_tnot ?_ | with_reducible refine w_yes ?_ | with_reducible refine w_chain ?_
  | with_reducible refine w_I0 ?_ | with_reducible refine w_eqI ?_ | with_reducible refine w_neI ?_ | with_reducible refine w_eqB ?_ | with_reducible refine w_neB ?_
  | with_reducible refine w_fl ?_ | with_reducible refine w_rng ?_ | with_reducible refine w_lst ?_ | with_reducible refine w_tup ?_
  | with_reducible refine w_sfld ?_ | with_reducible refine w_tmk ?_ | with_reducible refine w_gsub ?_ | with_reducible refine w_for ?_ | with_reducible refine w_tlc ?_ | with_reducible refine w_gx ?_ | with_reducible refine w_itup ?_ | with_reducible refine w_ilst ?_ | with_reducible refine w_izp ?_
  | with_reducible refine w_sl ?_ | with_reducible refine w_part ?_ | with_reducible refine w_pint ?_ | with_reducible refine w_nopart ?_
  | with_reducible refine w_rz ?_ | with_reducible refine w_callS ?_ | with_reducible refine w_callNS ?_ | with_reducible refine w_callD ?_ | with_reducible refine w_2d ?_ | with_reducible refine w_par ?_
  | with_reducible refine w_1 ?_ | with_reducible refine w_2 ?_ | with_reducible refine w_3 ?_ | with_reducible refine w_4 ?_ | with_reducible refine w_5 ?_)
section
variable {Z : Wd} {TC SC : Addr}
abbrev N_law_cells : List Str := ["_law_state", "_law_n", "_law_size", "_law_cells_here", "_law_word_here", "_law_k", "_law_at", "_law_number_here"]
theorem S_law_cells : FnScope N_law_cells ["_law_state", "_law_n"] (defScope s_law_cells) := ⟨rfl, rfl, rfl, by decide +kernel, rfl, by decide +kernel, by decide +kernel⟩
theorem B_law_cells : Bnd "_law_cells" "_law_cells" s_law_cells ["_law_state", "_law_n"] := fun _ _ _ _ _ _ us hl => match us, hl with | [_, _], _ => rfl
abbrev p_law_cells : Sp := sp2 fun a b H Q _ => ∃ s c n, a = .ref s ∧ b = .int (n : Nat) ∧ n ≤ 6 ∧ St H s c ∧ ∀ H' l F, H l = none → XS s H H' → St H' s c → H' l = some (.lst (cells n F)) → Q (.ref l) H'
theorem cells_of {n : Nat} {l : List V} (hl : l.length = 2 ^ n) (h : ∀ v ∈ l, ∃ r : Nat, r < 2 ∧ v = .int r) : ∃ F, l = cells n F := by
  refine ⟨fun i => decide (l[i]? = some (.int 1)), ?_⟩
  apply List.ext_getElem?
  intro i
  by_cases hi : i < 2 ^ n
  · obtain ⟨r, hr, e⟩ := h _ (List.getElem_mem (by omega : i < l.length))
    have e2 : l[i]? = some (.int r) := by rw [List.getElem?_eq_getElem (by omega), e]
    rw [M.tab_get hi, e2]
    show _ = some (V.int (M.b2 (decide (l[i]? = some (.int 1)))))
    rw [e2]
    rcases (by omega : r = 0 ∨ r = 1) with rfl | rfl
    · rw [decide_eq_false (by simp)]; rfl
    · rw [decide_eq_true (by simp)]; rfl
  · rw [List.getElem?_eq_none (by omega), List.getElem?_eq_none (by rw [iv_len]; omega)]
theorem b2_not (b : Bool) : 1 - M.b2 b = M.b2 (!b) := by cases b <;> rfl
theorem c_law_cells (T : Tx Z TC SC) (F : Fn Z "_law_cells" "_law_cells" s_law_cells) (c__law_draw : Cl Z CX0 1 "_law_draw" p_law_draw) (c__law_word : Cl Z CX0 2 "_law_word" p_law_word) (c__law_dot : Cl Z CX0 1 "_law_dot" p_law_dot) (c__law_bits : Cl Z CX0 1 "_law_bits" p_law_bits) : Cl Z CX0 3 "_law_cells" p_law_cells := by
  refine F.cl S_law_cells B_law_cells len2 fun f cdv A outer sh H vs Q E hr h => ?_
  obtain ⟨_, _, rfl, s, c, n, rfl, rfl, n6, S, k⟩ := h
  have nd := S_law_cells.nd
  have p6 := pow6 n6
  obtain ⟨q6, r6⟩ := pow6i n6
  refine ⟨_, (pss_cons (ps_set (i := 2) nd rfl (Or.inl rfl) (pe_op op_shl pe_int (pv 1)))
  (pss_cons (ps_setLc (i := 3) (own := [("_law_number_here", 7)]) rfl nd rfl rfl (sw_true rfl rfl rfl (by decide +kernel))  (pi_range1 rfl T.b_range (pa_cons (pv 2) pa_nil)) (blkOk_by (N := N_law_cells) (sc := defScope s_law_cells) (by decide +kernel)) (fun _ _ _ _ _ => (pg_name (i := 7) nd rfl (Or.inl rfl))) (fun _ _ _ _ _ => pts_nil) (fun _ _ _ _ _ => (pe_cl c__law_draw (hr.mono (by decide)) rfl pass0 (pa_cons (pv 0) (pa_cons pe_int pa_nil)))))
  (pss_cons (ps_if (pt_cmpR op_gt (pe_cl c__law_draw (hr.mono (by decide)) rfl pass0 (pa_cons (pv 0) (pa_cons pe_int pa_nil))) pe_int (nomark _)) (pss_cons (ps_set (i := 4) nd rfl (Or.inr rfl) (pe_cl c__law_word (hr.mono (by decide)) rfl pass0 (pa_cons (pv 0) (pa_cons (pv 1) pa_nil))))
  (pss_cons (ps_setLc (i := 3) (own := [("_law_number_here", 7)]) rfl nd rfl rfl (sw_true rfl rfl rfl (by decide +kernel))  (pi_range1 rfl T.b_range (pa_cons (pv 2) pa_nil)) (blkOk_by (N := N_law_cells) (sc := defScope s_law_cells) (by decide +kernel)) (fun _ _ _ _ _ => (pg_name (i := 7) nd rfl (Or.inl rfl))) (fun _ _ _ _ _ => pts_nil) (fun _ _ _ _ _ => (pe_cl c__law_dot (hr.mono (by decide)) rfl pass0 (pa_cons (pv 4) (pa_cons (pe_cl c__law_bits (hr.mono (by decide)) rfl pass0 (pa_cons (pv 7) (pa_cons (pv 1) pa_nil))) pa_nil)))))
  (pss_one (ps_for PassesOwn.never rfl (pi_range1 rfl T.b_range (pa_cons (pe_cl c__law_draw (hr.mono (by decide)) rfl pass0 (pa_cons (pv 0) (pa_cons (pe_op op_add pe_int (pe_op op_fdivN (pv 2) pe_int)) pa_nil))) pa_nil)) (pg_name (i := 5) nd rfl (Or.inl rfl))
  (pss_cons (ps_set (i := 6) nd rfl (Or.inl rfl) (pe_cl c__law_draw (hr.mono (by decide)) rfl pass0 (pa_cons (pv 0) (pa_cons (pv 2) pa_nil))))
  (pss_one (ps_asg (pe_op op_sub pe_int (pe_ix (ix_seqK (K := Z.K)) (pv 3) (pv 6) (fun _ _ => rfl))) (pg_sub (pv 3) (pv 6) set_list)))))))) pss_nil)
  (pss_one (ps_ret (pv 3)))))), ?_⟩
  show tSeq _ _ _ [some (.ref s), some (.int n), none, none, none, none, none, none] H
  repeat walk_at "st"
  refine w_I (by refine ⟨by omega, by omega, by decide⟩) ?_
  rw [shl1]
  repeat walk_at "st"
  refine ⟨_, rfl, by omega, by omega, fun D hD => ?_⟩
  rw [Int.toNat_natCast]
  refine lc_drawn (s := s) (I := fun H => St H s c) (R := fun v => ∃ r : Nat, r < 2 ∧ v = .int r) walk_rng hD (Nat.lt_of_le_of_lt p6 (by decide)) (fun _ _ _ => trivial) (S.ne hD).1 (fun H2 o S2 => S2.upd (S.ne hD).1 (S.ne hD).2) S (fun i v H2 H3 hi x2 S2 hy K1 hk => ?_) fun H2 l x2 S2 hl hR h2 => ?_
  · obtain ⟨rfl, rfl⟩ := hy
    refine w_name (σ' := [some (.ref s), some (.int n), some (.int ((2 ^ n : Nat) : Int)), none, none, none, none, some (.int (i : Nat))]) rfl ⟨rfl, ?_⟩
    repeat walk_at "st"
    exact ⟨s, c, 2, rfl, rfl, S2, by decide, fun H4 r x4 S4 hr => hk _ _ ⟨r, by omega, rfl⟩ x4 S4⟩
  · obtain ⟨F0, rfl⟩ := cells_of hl hR
    repeat walk_at "st"
    refine ⟨s, c, _, rfl, rfl, S2, by decide, fun H3 r x3 S3 _ => ?_⟩
    have x23 := x2.trans x3
    have h3 := x3.lst (S.ne hD).1 h2
    repeat walk_at "st"
    refine ite2 (fun _ => ?_) (fun _ => ?_)
    · repeat walk_at "st"
      refine ⟨s, c, n, rfl, rfl, by omega, S3, fun H4 q a hq x4 S4 ha hw => ?_⟩
      repeat walk_at "st"
      refine ⟨_, rfl, by omega, by omega, fun D2 hD2 => ?_⟩
      rw [Int.toNat_natCast]
      refine lc_map walk_rng (fun i => .int (M.b2 (M.dot n a i))) hD2 (Nat.lt_of_le_of_lt p6 (by decide)) (fun _ _ => trivial) (fun i x H5 H6 hi x5 hy K1 hk => ?_) fun H5 x5 hh => ?_
      · obtain ⟨rfl, rfl⟩ := hy
        refine w_name (σ' := [some (.ref s), some (.int n), some (.int ((2 ^ n : Nat) : Int)), some (.ref D), some (.ref q), none, none, some (.int (i : Nat))]) rfl ⟨rfl, ?_⟩
        repeat walk_at "st"
        refine ⟨i, n, rfl, rfl, by omega, fun H7 w hw2 x7 hb => ?_⟩
        repeat walk_at "st"
        exact ⟨q, w, n, a, i, rfl, rfl, (x5.trans x7).tup hw, hb, by omega, fun H8 x8 => hk _ (x7.trans x8)⟩
      · repeat walk_at "st"
        have S5 := S4.ext x5
        have n1 := (S4.ne hD2).1
        have n2 := (S4.ne hD2).2
        refine w_I (show CDivN _ _ from ⟨by decide, by decide⟩) ?_
        repeat walk_at "st"
        have hq4 : (((2 ^ n : Nat) : Int)).fdiv 4 ≤ 64 := by
          rw [Int.fdiv_eq_ediv_of_nonneg _ (by decide)]; omega
        refine ⟨s, c, _, rfl, rfl, S5, by omega, fun H6 m x6 S6 hm => ?_⟩
        refine ⟨_, rfl, by omega, by omega, ?_⟩
        rw [Int.toNat_natCast]
        have x46 : XS s H H6 := ((x23.trans x4).trans x5.xs).trans x6
        have hl6 := x6.lst n1 hh
        refine for_lit walk_rng (fun i σ H7 => XS s H H7 ∧ St H7 s c ∧ ∃ (F : Nat → Bool) (z1 z2 : Option V), H7 D2 = some (.lst (cells n F)) ∧ σ = [some (.ref s), some (.int n), some (.int ((2 ^ n : Nat) : Int)), some (.ref D2), some (.ref q), z1, z2, none]) ⟨x46, S6, fun i => M.dot n a i, none, none, hl6, rfl⟩ (fun _ _ _ _ _ => trivial) ?_ ?_
        · rintro i v σ H7 H8 hi ⟨x7, S7, F, z1, z2, h7, rfl⟩ ⟨rfl, rfl⟩
          refine w_name (σ' := [some (.ref s), some (.int n), some (.int ((2 ^ n : Nat) : Int)), some (.ref D2), some (.ref q), some (.int (i : Nat)), z2, none]) rfl ?_
          repeat walk_at "st"
          refine ⟨s, c, _, rfl, rfl, S7, by omega, fun H9 b x9 S9 hb => ?_⟩
          have hb2 : b < 2 ^ n := by omega
          have h9 := x9.lst n1 h7
          repeat walk_at "st"
          refine w_ixl (SqL.of h9) (iv_at hb2) ?_
          repeat walk_at "st"
          rw [b2_not]
          refine w_setl h9 (by rw [iv_len]; exact ixN_nat hb2) ?_
          rw [iv_set]
          refine ⟨(x7.trans x9).put (.inl ((x23.trans x4).dom _ hD2)) (.inr ⟨_, h9, fun t z => by cases z⟩), S9.upd n1 n2, fun i => if i = b then !F b else F i, some (.int (i : Nat)), some (.int (b : Nat)), ?_, rfl⟩
          rw [upd_same, iv_congr fun x _ => ?_]
          show (if x = b then M.b2 (!F b) else M.b2 (F x)) = M.b2 (if x = b then !F b else F x)
          split <;> rfl
        · rintro σ H7 ⟨x7, S7, F, z1, z2, h7, rfl⟩
          repeat walk_at "st"
          exact k H7 D2 F ((x23.trans x4).dom _ hD2) x7 S7 h7
    · repeat walk_at "st"
      exact k H3 D F0 hD x23 S3 h3
abbrev N_law_numbers_are : List Str := ["_law_got", "_law_due", "_law_k"]
theorem S_law_numbers_are : FnScope N_law_numbers_are ["_law_got", "_law_due"] (defScope s_law_numbers_are) := ⟨rfl, rfl, rfl, by decide +kernel, rfl, by decide +kernel, by decide +kernel⟩
theorem B_law_numbers_are : Bnd "_law_numbers_are" "_law_numbers_are" s_law_numbers_are ["_law_got", "_law_due"] := fun _ _ _ _ _ _ us hl => match us, hl with | [_, _], _ => rfl
abbrev p_law_numbers_are : Sp := sp2 fun a b H Q _ => ∃ p q n g, a = .ref p ∧ b = .ref q ∧ n ≤ 6 ∧ H p = some (.tup (iv n g)) ∧ H q = some (.lst (iv n g)) ∧ ∀ H', XT H H' → Q (.bl true) H'
theorem fil_none {α : Type} (n : Nat) (f : Nat → α) : ((List.range n).filter fun _ => false).map f = [] := by simp
theorem c_law_numbers_are (T : Tx Z TC SC) (F : Fn Z "_law_numbers_are" "_law_numbers_are" s_law_numbers_are) (c__law_integer : Cl Z CX0 1 "_law_integer" p_is_integer) : Cl Z CX0 2 "_law_numbers_are" p_law_numbers_are := by
  refine F.cl S_law_numbers_are B_law_numbers_are len2 fun f cdv A outer sh H vs Q E hr h => ?_
  obtain ⟨_, _, rfl, p, q, n, g, rfl, rfl, n6, hp, hq, k⟩ := h
  have nd := S_law_numbers_are.nd
  have p6 := pow6 n6
  obtain ⟨q6, r6⟩ := pow6i n6
  refine ⟨_, (pss_cons (ps_if (PW.pt (pw_or (pt_not (pt_val (pe_callB (call_isiK (K := Z.K)) rfl T.b_isinstance (by decide +kernel) (pa_cons (pv 0) (pa_cons (pe_bltn rfl T.b_tuple (by decide +kernel) (show RelV (.ty "tuple") (.type "tuple") from rfl)) pa_nil))))) (pw_or1 (pt_cmpR op_ne (pe_callB (call_lenK (K := Z.K)) rfl T.b_len (by decide +kernel) (pa_cons (pv 0) pa_nil)) (pe_callB (call_lenK (K := Z.K)) rfl T.b_len (by decide +kernel) (pa_cons (pv 1) pa_nil)) (nomark _))))) (pss_one (ps_ret pe_bl)) pss_nil)
  (pss_one (ps_ret (pe_cmpR op_eq (pe_callB (call_lenK (K := Z.K)) rfl T.b_len (by decide +kernel) (pa_cons (pe_lc (own := [("_law_k", 2)]) rfl nd (pi_range1 rfl T.b_range (pa_cons (pe_callB (call_lenK (K := Z.K)) rfl T.b_len (by decide +kernel) (pa_cons (pv 1) pa_nil)) pa_nil)) (blkOk_by (N := N_law_numbers_are) (sc := defScope s_law_numbers_are) (by decide +kernel)) (fun _ _ _ _ _ => (pg_name (i := 2) nd rfl (Or.inl rfl))) (fun _ _ _ _ _ => (pts_one (PW.pt (pw_or (pt_not (pt_val (pe_cl c__law_integer (hr.mono (by decide)) rfl pass0 (pa_cons (pe_ix (ix_seqK (K := Z.K)) (pv 0) (pv 2) (fun _ _ => rfl)) pa_nil)))) (pw_or1 (pt_cmpR op_ne (pe_ix (ix_seqK (K := Z.K)) (pv 0) (pv 2) (fun _ _ => rfl)) (pe_ix (ix_seqK (K := Z.K)) (pv 1) (pv 2) (fun _ _ => rfl)) (nomark _))))))) (fun _ _ _ _ _ => (pv 2))) pa_nil)) pe_int (nomark _))))), ?_⟩
  show tSeq _ _ _ [some (.ref p), some (.ref q), none] H
  repeat walk_at "st"
  refine isi (.base (.tup hp)) (kit_ty (r := true) (by decide +kernel)) (w_bl ?_)
  refine iteF ?_
  repeat walk_at "st"
  refine ⟨p, _, rfl, .inr (SqT.of hp), ?_⟩
  repeat walk_at "st"
  refine ⟨q, _, rfl, .inl (SqL.of hq), ?_⟩
  repeat walk_at "st"
  rw [decide_eq_true rfl]
  refine iteF ?_
  repeat walk_at "st"
  refine ⟨q, _, rfl, .inl (SqL.of hq), ?_⟩
  repeat walk_at "st"
  rw [iv_len]
  refine ⟨_, rfl, by omega, by omega, fun D hD => ?_⟩
  rw [Int.toNat_natCast]
  refine lc_fil walk_rng (fun _ => false) (fun _ => .non) hD (Nat.lt_of_le_of_lt p6 (by decide)) (fun _ _ => trivial) (fun i x H2 H3 hi x2 hy K1 K0 hk1 hk0 => ?_) fun H2 x2 hh => ?_
  · obtain ⟨rfl, rfl⟩ := hy
    refine w_name (σ' := [some (.ref p), some (.ref q), some (.int (i : Nat))]) rfl ⟨rfl, ?_⟩
    repeat walk_at "st"
    refine w_ixt (SqT.of (x2.tup hp)) (iv_at hi) ?_
    repeat walk_at "st"
    refine ⟨trivial, ?_⟩
    repeat walk_at "st"
    refine iteF ?_
    repeat walk_at "st"
    refine w_ixt (SqT.of (x2.tup hp)) (iv_at hi) ?_
    repeat walk_at "st"
    refine w_ixl (SqL.of (x2.lst hq)) (iv_at hi) ?_
    repeat walk_at "st"
    rw [decide_eq_true rfl]
    exact iteF (hk0 rfl _ XT.rfl')
  · rw [fil_none] at hh
    repeat walk_at "st"
    refine ⟨D, _, rfl, .inl (SqL.of hh), ?_⟩
    repeat walk_at "st"
    exact k H2 x2
abbrev N_law_rows_are : List Str := ["_law_got", "_law_due", "_law_row"]
theorem S_law_rows_are : FnScope N_law_rows_are ["_law_got", "_law_due"] (defScope s_law_rows_are) := ⟨rfl, rfl, rfl, by decide +kernel, rfl, by decide +kernel, by decide +kernel⟩
theorem B_law_rows_are : Bnd "_law_rows_are" "_law_rows_are" s_law_rows_are ["_law_got", "_law_due"] := fun _ _ _ _ _ _ us hl => match us, hl with | [_, _], _ => rfl
abbrev p_law_rows_are : Sp := sp2 fun a b H Q _ => ∃ p q n pr l1 l2, a = .ref p ∧ b = .ref q ∧ n ≤ 6 ∧ H p = some (.tup l1) ∧ H q = some (.lst l2) ∧ Rows H n pr l1 ∧ Rows H n pr l2 ∧ ∀ H', XT H H' → Q (.bl true) H'
theorem dp_ints {K : W.Frag} {H : Hp} : ∀ (k : List Int), DpAll K H (k.map V.int) (k.map PyData.int)
  | [] => .nil
  | i :: k => .cons (.int i) (dp_ints k)
theorem dp_rows {K : W.Frag} {H : Hp} {n : Nat} {is : List Nat} {l : List V} (h : A2 (fun i v => ∃ q, v = .ref q ∧ Wo H q n i) is l) : DpAll K H l (is.map fun i => PyData.tuple ((M.wd n i).map PyData.int)) := by
  induction h with
  | nil => exact .nil
  | cons a _ ih =>
    obtain ⟨q, rfl, hw⟩ := a
    exact .cons (.tup (SqT.of hw) (dp_ints _)) ih
end
end Q
set_option Elab.async false
set_option linter.all false
set_option maxRecDepth 100000
set_option maxHeartbeats 1000000
namespace Q
open PySem PySem.Spec PyProof.Rows L2
section
variable {prog : Program} {w : World} {A : Around} {E : Value → Shared → Prop} {s : Shared} {K : W.Frag} {x D : Addr} {ox od : Obj} {Qe : Option Value → Shared → Prop}
/-- type(e).__class__ of an error that has a dict -/
theorem kin_classS (C : ExcC K D) (X : K.In s.heap) (I : W.InstAt s.heap x ox D (some od)) (h : Qe (some (.ref D)) { s with toks := s.toks + 1 }) : wpAny (model prog w) A (getAttr? (.ref x) (Str.ofString "__class__")) Qe E s := by
  have hf : W.findObj K D (some od) (Str.ofString "__class__") = some (Builtin.ObjectAttr.Found.bind (.builtin "getset_descriptor.__get__") (.builtin "object.__class__")) := W.findObj_data (by
    obtain ⟨cd, hc, _⟩ := W.any_some C.hd
    rw [hc]; rfl) C.ha C.hn C.ht
  obtain ⟨hp, g, d, t, os⟩ := s
  have L0 := fun (M : Model) => W.InstAt.type (M := M) I
  have L1 := fun (M : Model) => W.looks_findIn (M := M) X C.hg
  have L2' := fun (M : Model) => W.looks_findIn (M := M) X C.hk
  have L3 := fun (M : Model) => W.looks_find (M := M) X I hf
  have sub : ∀ M : Model, W.Looks M hp (isInstance (.ref x) (.type "BaseException")) true := fun (M : Model) => W.Looks.andThen (f := fun t => isSubtype t (.type "BaseException")) (L0 M) (W.looks_subIn (M := M) X C.hs)
  have hx2 : (Value.builtin "BaseException.__getattribute__" == Value.builtin "object.__getattribute__") = false := by decide
  have hx1 : (onTheHeap (Value.ref D) && (Value.builtin "BaseException.__getattribute__" == Value.builtin "object.__getattribute__")) = false := by rw [hx2]; rfl
  unfold getAttr?
  refine wpAny_bind (wpAny_mkText ?_)
  unfold getAttrBy?
  refine wpAny_bind (wpAny_attempt ?_)
  unfold getAttrBy
  refine wpAny_holding ?_
  refine wpAny_bind (W.Looks.at (L0 _) ?_)
  refine wpAny_bind (W.Looks.at (L1 _) ?_)
  show wpAny _ _ (if (onTheHeap (Value.ref D) && (Value.builtin "BaseException.__getattribute__" == Value.builtin "object.__getattribute__")) = true then _ else _) _ _ _
  rw [hx1, if_neg Bool.false_ne_true]
  unfold getAttrByItsOwn
  refine wpAny_bind ?_
  unfold hookBefore
  rw [if_pos (show onTheHeap (Value.ref D) = true from rfl)]
  refine W.Looks.at (L2' _) ?_
  refine wpAny_bind (wpAny_attempt (wpAny_holding ?_))
  unfold callGetattribute
  show wpAny _ _ (if (false && onTheHeap (Value.builtin "BaseException.__getattribute__")) = true then _ else _) _ _ _
  rw [if_neg (by simp)]
  unfold boundAndCalled
  rw [F.excAttr_ValueError.ga.bind (Value.ref x)]
  refine wpAny_bind (wpAny_pure ?_)
  show wpAny _ _ (call (Value.builtin "BaseException.__getattribute__") [Value.ref x, _]) _ _ _
  refine wpAny_call ?_
  refine codeAny_call_builtin (id := "BaseException.__getattribute__") F.excAttr_ValueError.ga.plain F.entry_bexc_ga ?_
  refine W.check_slot (i := "BaseException.__getattribute__") (owner := "BaseException") (n := "__getattribute__") (self := Value.ref x) (rest := [Value.str (Str.ofString "__class__") t]) (kw := []) ?_ ?_ ?_ ?_ ?_
  · exact W.kin_classE._proof_2
  · exact W.kin_classE._proof_3
  · exact sub _
  · exact F.args_bexc_ga (Value.ref x) (Value.str (Str.ofString "__class__") t)
  unfold «PySem».Builtin.«object.__getattribute__»
  refine wpAny_bind (wpAny_of_eq (Eq.refl (slotArgs "__getattribute__" 1 ⟨[Value.ref x, Value.str (Str.ofString "__class__") t], []⟩)) ?_)
  refine wpAny_bind (wpAny_pure ?_)
  refine wpAny_bind (W.Looks.at (L0 _) ?_)
  refine wpAny_bind (W.Looks.at (L3 _) ?_)
  refine wpAny_bind (wpAny_holding (wpAny_call (W.class_get X I C.hm ?_)))
  refine wpAny_pure ?_
  show wpAny _ _ (handedOut (Value.ref D)) _ _ _
  rw [W.handedOut_of (v := Value.ref D) rfl]
  exact wpAny_pure (wpAny_pure h)
theorem cls_of (hd : W.hasDictIn K D = true) : ∃ cls dict cd slots, K.lookup D = some { cls := cls, dict := dict, data := Data.cls cd, slots := slots } := by
  obtain ⟨cd, hc, _⟩ := W.any_some hd
  unfold W.clsIn at hc
  split at hc
  · rename_i cls dict cd' slots e
    exact ⟨_, _, _, _, e⟩
  · cases hc
theorem kitx_excS (C : ExcC K D) : W.KitX K (.ref x) (.ref D) fun h => W.InstAt h x ox D (some od) := by
  obtain ⟨cls, dict, cd, slots, e⟩ := cls_of C.hd
  refine ⟨fun M h _ I => W.InstAt.type I, fun M h X _ => ?_, fun h tp dd its n sl X htp => ?_, fun X I k => kin_classS C X I k⟩
  · intro A' Q' E' s' k q
    show wpAny _ _ (isType (.ref D)) _ _ _
    refine wpAny_bind (wpAny_loadPart (k D _ (X D _ e)) (wpAny_pure q))
  · refine Bool.eq_false_iff.mpr fun q => ?_
    have e1 := Value.ref.inj (beq_iff_eq.mp q)
    subst e1
    have z := (X _ _ e).symm.trans htp
    have z2 := congrArg Obj.data (Option.some.inj z)
    cases z2
end
section
variable {K : W.Frag} {X : Cx} {a : Addr} {oe : Obj} {cls : Value} {d : Option Addr} {pn : List (Addr × Obj)}
/-- isinstance(e, C) of an error that is being handled and has a dict -/
def rIsX (K : W.Frag) (a : Addr) (cls : Value) (d : Option Addr) : List V → Hp → VK → Prop := fun xs H Q =>
  ∃ (D dd : Addr) (fs : List (Str × V)) (c : V) (cv : Value) (b : Bool), cls = .ref D ∧ d = some dd ∧ H dd = some (.xd fs) ∧ ExcC K D ∧ xs = [.ref a, c] ∧ (∀ u, RelV c u → u = cv) ∧ W.kitOne K (.ref D) cv = some b ∧ Q (.bl b) H
theorem inst_at {pins : List (Addr × Obj)} {σ : L2.St} {H : Hp} {s : Shared} {D dd : Addr} {fs : List (Str × V)} (hz : Zc (.ref D) (some dd) oe) (hf : ∃ vs, oe.data = Data.fields vs) (I : L2.Inv (X.suite a ((a, oe) :: pn)) pins σ H s) (hd : H dd = some (.xd fs)) :
    ∃ od, W.InstAt s.heap a oe D (some od) := by
  obtain ⟨ha, _⟩ := I.pin (a, oe) (List.mem_append_left _ List.mem_cons_self)
  have hx : ObjOk X.prog X.w H s.heap dd (.xd fs) := I.hok dd _ hd
  obtain ⟨mA, hns, hr⟩ := hx
  obtain ⟨od, ho, hl⟩ := lookIn_ns hns
  obtain ⟨vs, hv⟩ := hf
  refine ⟨od, ha, hz.1, ?_, ?_⟩
  · unfold W.notCls
    rw [hv]
  · rw [hz.2]
    exact ho
theorem call_isX (hz : Zc cls d oe) (hf : ∃ vs, oe.data = Data.fields vs) (hK : X.K = K := by rfl) : CallR (X.suite a ((a, oe) :: pn)) (Value.builtin "isinstance") (rIsX K a cls d) := by
  subst hK
  intro pins s σ H xs us Q I r h
  obtain ⟨D, dd, fs, c, cv, b, rfl, rfl, hd, C, rfl, hcv, e, q⟩ := h
  obtain ⟨u1, u2, rfl, r1, r2⟩ := L2.vals2 r
  obtain rfl : u1 = Value.ref a := r1
  have := hcv _ r2
  subst this
  obtain ⟨od, J⟩ := inst_at hz hf I hd
  have kI : X.K.In s.heap := Inv.kIn (X := X.suite a ((a, oe) :: pn)) I
  exact W.kia_one (kitx_excS C) kI J e (fun z => nomatch z) fun tk => ⟨.bl b, H, Inv.kept I fun _ _ z => z, rfl, q⟩
/-- isinstance(e, (C, ..)) -/
def rIsXT (K : W.Frag) (a : Addr) (cls : Value) (d : Option Addr) : List V → Hp → VK → Prop := fun xs H Q =>
  ∃ (D dd tp : Addr) (fs : List (Str × V)) (cs : List V) (us : List Value) (b : Bool), cls = .ref D ∧ d = some dd ∧ H dd = some (.xd fs) ∧ ExcC K D ∧ xs = [.ref a, .ref tp] ∧ H tp = some (.tup cs) ∧ Paired ClsV cs us ∧ W.kitAny K (.ref D) us = some b ∧ Q (.bl b) H
theorem call_isXT (hz : Zc cls d oe) (hf : ∃ vs, oe.data = Data.fields vs) (hK : X.K = K := by rfl) : CallR (X.suite a ((a, oe) :: pn)) (Value.builtin "isinstance") (rIsXT K a cls d) := by
  subst hK
  intro pins s σ H xs us Q I r h
  obtain ⟨D, dd, tp, fs, cs, ws, b, rfl, rfl, hd, C, rfl, htp, k, e, q⟩ := h
  obtain ⟨u1, u2, rfl, r1, r2⟩ := L2.vals2 r
  obtain rfl : u1 = Value.ref a := r1
  obtain rfl : u2 = Value.ref tp := r2
  obtain ⟨od, J⟩ := inst_at hz hf I hd
  have ht : ObjOk X.prog X.w H s.heap tp (.tup cs) := I.hok tp _ htp
  obtain ⟨_, its, hv, ht⟩ := ht
  have kI : X.K.In s.heap := Inv.kIn (X := X.suite a ((a, oe) :: pn)) I
  obtain rfl := ClsV.all k hv
  obtain ⟨dd2, n, sl, hg⟩ : ∃ (dd2 : Option Addr) (n : Nat) (sl : Array (Option Value)), s.heap.get? tp = some { cls := .type "tuple", dict := dd2, data := .seq its.toArray n, slots := sl } := by
    obtain ⟨o, h1, h2, h3⟩ := ht
    obtain ⟨n, h3⟩ := h3
    obtain ⟨oc, od2, dat, sl⟩ := o
    cases h2
    cases h3
    exact ⟨od2, n, sl, h1⟩
  exact W.kia_tup (kitx_excS C) kI J hg e (fun z => nomatch z) fun tk => ⟨.bl b, H, Inv.kept I fun _ _ z => z, rfl, q⟩
end
end Q
set_option Elab.async false
set_option linter.all false
set_option maxRecDepth 100000
set_option maxHeartbeats 1000000
namespace Q
open PySem PySem.Spec PyProof.Rows L2
/-- a def called while an error is handled (it raises nothing) -/
theorem fn_ofW {P : Program} {w : World} {K : W.Frag} {mg : Str → Option Value} {base : Heap} {k : Nat} {f : Addr} {name qual : Str} {params : Arguments} {body : List Stmt} {scope : Scope}
    {dV kV doc pm cdv ct oc : Value} {an od : Option Addr} {osl : Array (Option Value)} {N ps : List Str} {sp : Sp}
    (lk : List.lookup f K = some { cls := oc, dict := od, data := Data.func (W.fnOf name qual params body scope dV kV doc pm an cdv ct), slots := osl })
    (hcd : W.codeIn K cdv qual = true) (S : FnScope N ps scope) (len : ∀ (vs : List V) (H : Hp) (Q : VK) (E : XK), sp vs H Q E → vs.length = ps.length)
    (hbody : ∀ (A : Around) (outer : List Env) (s : Shared) (H : Hp) (vs : List V) (Q : VK) (E : XK) (p : Addr × Obj), L2H.RoomH k (A.deeper (envOfC qual scope s.heap.objs.size f cdv)) → sp vs H Q E →
      ∃ t, PSs (L2H.cxH CX0 P w K mg base N qual scope f cdv A outer s H E p).nox body t ∧ t { nx := fun _ H' => Q V.non H', rt := Q } (L2.start N vs) H)
    {A : Around} {outer : List Env} {s : Shared} {H : Hp} {args : Args} {us : List Value} {vs : List V} {Q : VK} {E : XK} {p : Addr × Obj}
    (hr : L2H.RoomH (k + 1) A) (hpin : L2H.PinOk outer H s p) (e0 : Env0 P w K mg base A outer s H)
    (hb : BindsTo s (W.fnOf name qual params body scope dV kV doc pm an cdv ct) args (ps.zip us)) (r : Vals vs us) (hsp : sp vs H Q E) :
    codeAny (model P w) A (Code.call (Value.ref f) args) (CR CX0 outer P w H s Q E) s := by
  have hl := len vs H Q E hsp
  have KX : K.In s.heap := W.Frag.In.keeps e0.mod.kin fun b o e => (e0.bs b o e).left
  have lim := Heap.NoLimit.keeps e0.mod.nolimit fun b o e => (e0.bs b o e).left
  refine codeAny_call_function (L2H.RoomH.depth hr) (KX f _ lk) rfl S.co S.gen rfl (W.codeRec_of KX hcd) ?_
  refine hb (model P w) A.in1 _ _ ?_
  refine wpAny_newFunctionEnv_cells S.kind (fun x hy => ?_) fun env he s1 x => ?_
  · obtain ⟨n, v⟩ := x
    rcases S.par n (List.of_mem_zip hy).left with q | q
    · exact Or.inl q
    · exact Or.inr ⟨q, W.cellsFrom_some scope.names (s.heap.objs.size + 1) [] (Or.inl q)⟩
  subst he
  refine ⟨Heap.NoLimit.keeps lim x.toInCall.keep, codeAny_func ?_⟩
  obtain ⟨t, ht, hq⟩ := hbody A outer s H vs Q E p (L2H.RoomH.deeper hr (envOfC qual scope s.heap.objs.size f cdv)) hsp
  have ht := PSs.nox ht
  have I := L2H.inv_startH (CX := CX0) (E := E) S hpin e0 hl r x
  refine wpAny_mono (ht.run [] s1 (L2.start N vs) H { nx := fun x H' => Q V.non H', rt := Q } I hq) (fun fl s' hs => ?_) fun e s' hs => hs
  have fin : ∀ {σ' : L2.St} {H' : Hp} {v : V} {u : Value}, L2.Inv (L2H.cxH CX0 P w K mg base N qual scope f cdv A outer s H E p) [] σ' H' s' → L2.RelV v u → Q v H' → CE outer P w H s Q u s' := fun {σ'} {H'} {v} {u} J rv q => ⟨v, H', J.os, J.bare, J.base, J.hok, rv, q⟩
  cases fl with
  | next => obtain ⟨σ', H', J, q⟩ := hs; exact fin (v := .non) J rfl q
  | ret u => obtain ⟨v, σ', H', J, rv, q⟩ := hs; exact fin J rv q
  | brk => obtain ⟨_, _, _, q⟩ := hs; exact q.elim
  | cont => obtain ⟨_, _, _, q⟩ := hs; exact q.elim
local macro_rules | `(tactic| walk_at "st") => `(tactic| first
  | with_reducible refine w_seq ?_ | with_reducible refine w_next ?_ | with_reducible refine w_ret ?_ | with_reducible refine w_ifs ?_ | with_reducible refine w_asg ?_ | with_reducible refine w_drop ?_
  | with_reducible refine w_name (by simp only [List.set_cons_zero, List.set_cons_succ]; rfl) ?_
  | with_reducible refine w_var (by with_unfolding_all rfl) ?_
  | with_reducible refine w_c ?_ | with_reducible refine w_op ?_ | with_reducible refine w_un ?_ | with_reducible refine w_cons ?_ | with_reducible refine w_nil ?_ | with_reducible refine w_cb ?_ | with_reducible refine w_call ?_
  | with_reducible refine w_and ?_ | with_reducible refine w_or ?_ | with_reducible refine w_not ?_ | with_reducible refine w_tb ?_ | with_reducible refine w_tt ?_ | with_reducible refine w_bl ?_
  | with_reducible refine w_tand ?_ | with_reducible refine w_tor ?_ | with_reducible refine w_tnot ?_ | with_reducible refine w_yes ?_ | with_reducible refine w_chain ?_
  | with_reducible refine w_I0 ?_ | with_reducible refine w_eqI ?_ | with_reducible refine w_neI ?_ | with_reducible refine w_eqB ?_ | with_reducible refine w_neB ?_
  | with_reducible refine w_fl ?_ | with_reducible refine w_rng ?_ | with_reducible refine w_lst ?_ | with_reducible refine w_tup ?_
  | with_reducible refine w_sfld ?_ | with_reducible refine w_tmk ?_ | with_reducible refine w_gsub ?_ | with_reducible refine w_for ?_ | with_reducible refine w_tlc ?_ | with_reducible refine w_gx ?_ | with_reducible refine w_itup ?_ | with_reducible refine w_ilst ?_ | with_reducible refine w_izp ?_
  | with_reducible refine w_sl ?_ | with_reducible refine w_part ?_ | with_reducible refine w_pint ?_ | with_reducible refine w_nopart ?_
  | with_reducible refine w_rz ?_ | with_reducible refine w_callS ?_ | with_reducible refine w_callNS ?_ | with_reducible refine w_callD ?_ | with_reducible refine w_2d ?_ | with_reducible refine w_par ?_
  | with_reducible refine w_1 ?_ | with_reducible refine w_2 ?_ | with_reducible refine w_3 ?_ | with_reducible refine w_4 ?_ | with_reducible refine w_5 ?_)
section
variable {Z : Wd} {TC SC : Addr}
abbrev N_Seq : List Str := ["self", "other"]
theorem S_Seq : FnScope N_Seq ["self", "other"] (defScope s_Seq) := ⟨rfl, rfl, rfl, by decide +kernel, rfl, by decide +kernel, by decide +kernel⟩
theorem B_Seq : Bnd "__eq__" "Share.__eq__" s_Seq ["self", "other"] := fun _ _ _ _ _ _ us hl => match us, hl with | [_, _], _ => rfl
def MEq (Z : Wd) (C : Addr) : Prop := ∃ f fd, Fun Z.K "__eq__" "Share.__eq__" s_Seq f fd ∧ W.findIn Z.K (.ref C) "__eq__" = some (some (.ref f)) ∧ W.isFn Z.K (.ref f) = true
abbrev p_Seq (SC : Addr) : Sp := sp2 fun a b H Q _ => ∃ p o u, a = .ref p ∧ b = .ref p ∧ Shr SC H p o u ∧ Q (.bl true) H
/-- a share is equal to itself, asked while an error is handled -/
def rEqS (SC : Addr) : R2 := fun x y H Q => ∃ p o u, x = .ref p ∧ y = .ref p ∧ Shr SC H p o u ∧ Q (.bl true) H
theorem op_eqS {X : Cx} {a : Addr} {oe : Obj} {pn : List (Addr × Obj)} (T : Tx ⟨X.prog, X.w, X.K, X.mg, X.base⟩ TC SC) (F : MEq ⟨X.prog, X.w, X.K, X.mg, X.base⟩ SC) (hr : Room 2 X.A) : OpR (X.suite a ((a, oe) :: pn)) (compareOp CmpOp.Eq) (rEqS SC) := by
  intro pins s σ H x y v u Q I rx ry h
  obtain ⟨p, o, uu, rfl, rfl, ⟨dx, hp⟩, q⟩ := h
  obtain rfl : v = Value.ref p := rx
  obtain rfl : u = Value.ref p := ry
  obtain ⟨f, fd, Fu, hs, hfn⟩ := F
  obtain ⟨oc, od0, kV, doc, pm, an, cdv, ct, osl, rfl, lk, hcd⟩ := Fu.ex
  have hb := Fu.binds (ps := ["self", "other"]) B_Seq
  obtain ⟨mA, J, _⟩ := ins_get I.hok hp
  obtain ⟨od, J', _⟩ := ObjM.look J
  obtain ⟨m, hF⟩ := Inv.fr I
  show wpAny _ _ (richCompare .Eq (.ref p) (.ref p)) _ _ _
  refine W.cmp_K (op := .Eq) (by have := hr.un; show X.A.units < cLine; omega) hF I.ok.mod.kin J' (W.InstAt.type J') (by unfold W.notFirst; simp) hs hfn ?_
  have pin := I.pin (a, oe) (List.mem_append_left _ List.mem_cons_self)
  have hpin : L2H.PinOk (X.suite a ((a, oe) :: pn)).stack H s (a, oe) := ⟨pin.1, pin.2.1, fun hm => Or.elim (List.mem_cons.mp (Inv.stkSub I a hm)) pin.2.2.1 pin.2.2.2.1, pin.2.2.2.2⟩
  have e0 := Inv.env0 I
  have r2 : Vals [V.ref p, V.ref p] [Value.ref p, Value.ref p] := .cons rfl (.cons rfl .nil)
  refine wpAny_mono (Q := EP (X.suite a ((a, oe) :: pn)) pins σ fun v H' => v = .bl true ∧ Q (.bl true) H') (E := fun _ _ => False) ?_ (fun v s' hv => ?_) fun _ _ hf => hf.elim
  · refine wpAny_call (codeAny_mono (fn_ofW (k := 0) (N := N_Seq) (ps := ["self", "other"]) (sp := p_Seq SC) (E := fun _ _ _ => False) lk hcd S_Seq len2 (fun A outer s H vs Q E pz hr h => ?_) ⟨by have := hr.dp; show X.A.depth + 3 * 1 + 5 < recursionLimit; omega, by have := hr.un; show X.A.units + 16 * 1 + 200 < cLine; omega⟩ hpin e0 (hb s [.ref p, .ref p] (Inv.kIn (X := X.suite a ((a, oe) :: pn)) I) rfl) r2 (show p_Seq SC [V.ref p, V.ref p] H (fun v H' => v = .bl true ∧ Q (.bl true) H') (fun _ _ _ => False) from ⟨_, _, rfl, p, o, uu, rfl, rfl, ⟨dx, hp⟩, rfl, q⟩)) fun r s' hh => ?_)
    · obtain ⟨_, _, rfl, p, o, uu, rfl, rfl, ⟨dx, hp⟩, k⟩ := h
      let Z : Wd := ⟨X.prog, X.w, X.K, X.mg, X.base⟩
      refine ⟨_, (pss_one (ps_ret (pe_and (pe_callB (call_isiK (K := Z.K)) rfl T.b_isinstance (by decide +kernel) (pa_cons (pv 1) (pa_cons (pe_glob rfl T.m_Share (show RelV (.ref _) (.ref _) from rfl)) pa_nil))) (pe_and (pe_cmpR op_eq (pe_fldK (K := Z.K) (pv 0) rfl) (pe_fldK (K := Z.K) (pv 1) rfl) (nomark _)) (pe_one (pe_cmpR op_eq (pe_fldK (K := Z.K) (pv 0) rfl) (pe_fldK (K := Z.K) (pv 1) rfl) (nomark _))))))), ?_⟩
      show tRet _ _ [some (.ref p), some (.ref p)] H
      repeat walk_at "st"
      refine isC (T.iS hp) T.kSS (w_bl ?_)
      refine iteT ?_
      repeat walk_at "st"
      refine rS_o T hp ?_
      repeat walk_at "st"
      refine rS_o T hp ?_
      repeat walk_at "st"
      rw [decide_eq_true rfl]
      refine iteT ?_
      repeat walk_at "st"
      refine rS_u T hp ?_
      repeat walk_at "st"
      refine rS_u T hp ?_
      repeat walk_at "st"
      rw [decide_eq_true rfl]
      exact k
    · match r, hh with
      | .ok (.ret u), hq => exact Inv.after I hq
      | .error e, hq => exact hq
  · obtain ⟨w, H', I', rv, rfl, q'⟩ := hv
    obtain rfl : v = Value.bool true := rv
    exact ⟨.bl true, H', I', rfl, q'⟩
end
end Q
set_option Elab.async false
set_option linter.all false
set_option maxRecDepth 100000
set_option maxHeartbeats 1000000
namespace Q
open PySem PySem.Spec PyProof.Rows L2
local macro_rules | `(tactic| walk_at "st") => `(tactic| first
  | with_reducible refine w_seq ?_ | with_reducible refine w_next ?_ | with_reducible refine w_ret ?_ | with_reducible refine w_ifs ?_ | with_reducible refine w_asg ?_ | with_reducible refine w_drop ?_
  | with_reducible refine w_name (by simp only [List.set_cons_zero, List.set_cons_succ]; rfl) ?_
  | with_reducible refine w_var (by with_unfolding_all rfl) ?_
  | with_reducible refine w_c ?_ | with_reducible refine w_op ?_ | with_reducible refine w_un ?_ | with_reducible refine w_cons ?_ | with_reducible refine w_nil ?_ | with_reducible refine w_cb ?_ | with_reducible refine w_call ?_
  | with_reducible refine w_and ?_ | with_reducible refine w_or ?_ | with_reducible refine w_not ?_ | with_reducible refine w_tb ?_ | with_reducible refine w_tt ?_ | with_reducible refine w_bl ?_
  | with_reducible refine w_tand ?_ | with_reducible refine w_tor ?_ | with_reducible refine w_tnot ?_ | with_reducible refine w_yes ?_ | with_reducible refine w_chain ?_
  | with_reducible refine w_I0 ?_ | with_reducible refine w_eqI ?_ | with_reducible refine w_neI ?_ | with_reducible refine w_eqB ?_ | with_reducible refine w_neB ?_
  | with_reducible refine w_fl ?_ | with_reducible refine w_rng ?_ | with_reducible refine w_lst ?_ | with_reducible refine w_tup ?_
  | with_reducible refine w_sfld ?_ | with_reducible refine w_tmk ?_ | with_reducible refine w_gsub ?_ | with_reducible refine w_for ?_ | with_reducible refine w_tlc ?_ | with_reducible refine w_gx ?_ | with_reducible refine w_itup ?_ | with_reducible refine w_ilst ?_ | with_reducible refine w_izp ?_
  | with_reducible refine w_sl ?_ | with_reducible refine w_part ?_ | with_reducible refine w_pint ?_ | with_reducible refine w_nopart ?_
  | with_reducible refine w_rz ?_ | with_reducible refine w_callS ?_ | with_reducible refine w_callNS ?_ | with_reducible refine w_callD ?_ | with_reducible refine w_2d ?_ | with_reducible refine w_par ?_
  | with_reducible refine w_1 ?_ | with_reducible refine w_2 ?_ | with_reducible refine w_3 ?_ | with_reducible refine w_4 ?_ | with_reducible refine w_5 ?_)
abbrev p_xi (C : Addr) (f : Str) : Sp := sp2 fun a v H Q _ => ∃ e, a = .ref e ∧ H e = some (exo e C none) ∧ ∀ dx, H dx = none → dx ≠ e → Q .non (upd (upd H dx (exd dx [(f, v)])) e (exo e C (some dx)))
/-- an error class of the program whose __init__ keeps one value -/
structure XCls (Z : Wd) (C : Addr) (x f : Str) : Prop where
  ox : OexC Z.K C
  xf : XfC Z.K C
  ec : ExcC Z.K C
  no : W.findIn Z.K (.ref C) f = some none
  m : Z.mg x = some (.ref C)
  me : W.exmOne Z.K (.ref C) (.ref C) = some true
  ve : W.kitOne Z.K (.ref C) (.type "ValueError") = some true
  init : ∃ fI fd ps, W.findIn Z.K (.ref C) "__init__" = some (some (.ref fI)) ∧ W.typeIn Z.K (.ref fI) = some (.type "function") ∧ FnOk Z.P Z.w Z.K Z.mg Z.base CX0 1 fI fd ps (p_xi C f) ∧ L2.Binds Z.K fd ps []
def rMkO (C : Addr) (f : Str) (Qx : XK) (vs : List V) (H1 : Hp) : Prop := vs.length ≤ 1000 ∧ ∀ (a : Addr), H1 a = none → p_xi C f (V.ref a :: (vs ++ [])) (upd H1 a (exo a C none)) (fun v H2 => v = V.non ∧ ∃ d fs, H2 a = some (exo a C (some d)) ∧ H2 d = some (exd d fs) ∧ H1 d = none ∧ Qx (Value.ref C) (some d) (upd (del H2 a) d (HO.xd fs))) fun _ _ _ => False
theorem w_mkO {C : Addr} {f : Str} {Qx : XK} {v : V} {H1 : Hp} (k : ∀ d, H1 d = none → Qx (.ref C) (some d) (upd H1 d (.xd [(f, v)]))) : rMkO C f Qx [v] H1 := by
  refine ⟨by show 1 ≤ 1000; decide, fun a ha => ⟨.ref a, v, rfl, a, rfl, upd_same, fun dx hdx ne => ⟨rfl, dx, [(f, v)], upd_same, by rw [upd_ne ne, upd_same], dom_upd hdx, ?_⟩⟩⟩
  have e : upd (del (upd (upd (upd H1 a (exo a C none)) dx (exd dx [(f, v)])) a (exo a C (some dx))) a) dx (HO.xd [(f, v)]) = upd H1 dx (HO.xd [(f, v)]) := by
    funext b
    by_cases c : b = dx
    · subst c; rw [upd_same, upd_same]
    · rw [upd_ne c, upd_ne c]
      unfold del
      by_cases c2 : b = a
      · rw [if_pos c2, c2, ha]
      · rw [if_neg c2, upd_ne c2, upd_ne c, upd_ne c2]
  rw [e]
  exact k dx (dom_upd hdx)
def tRz (C : Addr) (f : Str) (W : WX) (ta : TA) : TS := fun _ σ H => ta σ H fun vs H1 => rMkO C f (fun cls d H' => W cls d σ H') vs H1
theorem w_rz {C : Addr} {f : Str} {W : WX} {ta : TA} {n b c : L2.St → Hp → Prop} {r : VK} {σ : L2.St} {H : Hp} (k : ta σ H fun vs H1 => rMkO C f (fun cls d H' => W cls d σ H') vs H1) : tRz C f W ta ⟨n, r, b, c⟩ σ H := k
theorem ps_rz {X : Cx} {C : Addr} {x f : Str} {W : WX} {e : Expr} {es : List Expr} {ta : TA} {p pos pos2 : Pos} (c : XCls ⟨X.prog, X.w, X.K, X.mg, X.base⟩ C x f) (hr : Room 2 X.A) (hc : X.calm = true) (tk : Takes X W) (hg : Gl X x) (ha : PA X (e :: es) ta)
    (hd : (x == Str.ofString "__debug__") = false := by rfl) (he : starEach (e :: es) X.env = (false, eval e X.env) :: starEach es X.env := by rfl) (hn : ((backTo pos (starEach es X.env)).any fun x => x.fst) = false := by rfl) :
    PS X (.Raise (some (.Call (.Name x p) (e :: es) [] pos)) none pos2) (tRz C f W ta) := by
  obtain ⟨fI, fd, ps, iC, tI, F, b⟩ := c.init
  exact ps_raise (pos := pos2) hc tk (pmk_oex (p := p) (pos := pos) c.ox iC tI F hr b .nil pass0 hg c.m ha hd he hn)
/-- the class's __init__ as the top has made it -/
def XFn (Z : Wd) (C : Addr) (qual : Str) (st : Stmt) : Prop := ∃ f fd, Fun Z.K "__init__" qual st f fd ∧ W.findIn Z.K (.ref C) "__init__" = some (some (.ref f)) ∧ W.typeIn Z.K (.ref f) = some (.type "function")
section
variable {Z : Wd} {TC SC : Addr}
abbrev N_InvalidNumber___init__ : List Str := ["self", "value"]
theorem S_InvalidNumber___init__ : FnScope N_InvalidNumber___init__ ["self", "value"] (defScope s_InvalidNumber___init__) := ⟨rfl, rfl, rfl, by decide +kernel, rfl, by decide +kernel, by decide +kernel⟩
theorem B_InvalidNumber___init__ : Bnd "__init__" "InvalidNumber.__init__" s_InvalidNumber___init__ ["self", "value"] := fun _ _ _ _ _ _ us hl => match us, hl with | [_, _], _ => rfl
theorem c_xNumber {C : Addr} (F : XFn Z C "InvalidNumber.__init__" s_InvalidNumber___init__) (ox : OexC Z.K C) (no : W.findIn Z.K (.ref C) "value" = some none) :
    ∃ fI fd ps, W.findIn Z.K (.ref C) "__init__" = some (some (.ref fI)) ∧ W.typeIn Z.K (.ref fI) = some (.type "function") ∧ FnOk Z.P Z.w Z.K Z.mg Z.base CX0 1 fI fd ps (p_xi C "value") ∧ L2.Binds Z.K fd ps [] := by
  obtain ⟨f, fd, F, h1, h2⟩ := F
  refine ⟨f, fd, ["self", "value"], h1, h2, F.ok S_InvalidNumber___init__ len2 (fun cdv A outer s H vs Q E hr h => ?_), F.binds B_InvalidNumber___init__⟩
  obtain ⟨_, v, rfl, e, rfl, he, k⟩ := h
  refine ⟨_, pss_one (ps_ost (pv 0) (pv 1)), ?_⟩
  exact ⟨v, rfl, _, rfl, e, C, rfl, ox, no, .inl ⟨he, k⟩⟩
abbrev N_InvalidShare___init__ : List Str := ["self", "value"]
theorem S_InvalidShare___init__ : FnScope N_InvalidShare___init__ ["self", "value"] (defScope s_InvalidShare___init__) := ⟨rfl, rfl, rfl, by decide +kernel, rfl, by decide +kernel, by decide +kernel⟩
theorem B_InvalidShare___init__ : Bnd "__init__" "InvalidShare.__init__" s_InvalidShare___init__ ["self", "value"] := fun _ _ _ _ _ _ us hl => match us, hl with | [_, _], _ => rfl
theorem c_xShare {C : Addr} (F : XFn Z C "InvalidShare.__init__" s_InvalidShare___init__) (ox : OexC Z.K C) (no : W.findIn Z.K (.ref C) "value" = some none) :
    ∃ fI fd ps, W.findIn Z.K (.ref C) "__init__" = some (some (.ref fI)) ∧ W.typeIn Z.K (.ref fI) = some (.type "function") ∧ FnOk Z.P Z.w Z.K Z.mg Z.base CX0 1 fI fd ps (p_xi C "value") ∧ L2.Binds Z.K fd ps [] := by
  obtain ⟨f, fd, F, h1, h2⟩ := F
  refine ⟨f, fd, ["self", "value"], h1, h2, F.ok S_InvalidShare___init__ len2 (fun cdv A outer s H vs Q E hr h => ?_), F.binds B_InvalidShare___init__⟩
  obtain ⟨_, v, rfl, e, rfl, he, k⟩ := h
  refine ⟨_, pss_one (ps_ost (pv 0) (pv 1)), ?_⟩
  exact ⟨v, rfl, _, rfl, e, C, rfl, ox, no, .inl ⟨he, k⟩⟩
abbrev N_Undefined___init__ : List Str := ["self", "what"]
theorem S_Undefined___init__ : FnScope N_Undefined___init__ ["self", "what"] (defScope s_Undefined___init__) := ⟨rfl, rfl, rfl, by decide +kernel, rfl, by decide +kernel, by decide +kernel⟩
theorem B_Undefined___init__ : Bnd "__init__" "Undefined.__init__" s_Undefined___init__ ["self", "what"] := fun _ _ _ _ _ _ us hl => match us, hl with | [_, _], _ => rfl
theorem c_xUndefined {C : Addr} (F : XFn Z C "Undefined.__init__" s_Undefined___init__) (ox : OexC Z.K C) (no : W.findIn Z.K (.ref C) "what" = some none) :
    ∃ fI fd ps, W.findIn Z.K (.ref C) "__init__" = some (some (.ref fI)) ∧ W.typeIn Z.K (.ref fI) = some (.type "function") ∧ FnOk Z.P Z.w Z.K Z.mg Z.base CX0 1 fI fd ps (p_xi C "what") ∧ L2.Binds Z.K fd ps [] := by
  obtain ⟨f, fd, F, h1, h2⟩ := F
  refine ⟨f, fd, ["self", "what"], h1, h2, F.ok S_Undefined___init__ len2 (fun cdv A outer s H vs Q E hr h => ?_), F.binds B_Undefined___init__⟩
  obtain ⟨_, v, rfl, e, rfl, he, k⟩ := h
  refine ⟨_, pss_one (ps_ost (pv 0) (pv 1)), ?_⟩
  exact ⟨v, rfl, _, rfl, e, C, rfl, ox, no, .inl ⟨he, k⟩⟩
end
end Q
set_option Elab.async false
set_option linter.all false
set_option maxRecDepth 100000
set_option maxHeartbeats 1000000
namespace Q
open PySem PySem.Spec PyProof.Rows L2
local macro_rules | `(tactic| walk_at "st") => `(tactic| first
  | with_reducible refine w_seq ?_ | with_reducible refine w_next ?_ | with_reducible refine w_ret ?_ | with_reducible refine w_ifs ?_ | with_reducible refine w_asg ?_ | with_reducible refine w_drop ?_
  | with_reducible refine w_name (by simp only [List.set_cons_zero, List.set_cons_succ]; rfl) ?_
  | with_reducible refine w_var (by with_unfolding_all rfl) ?_
  | with_reducible refine w_c ?_ | with_reducible refine w_op ?_ | with_reducible refine w_un ?_ | with_reducible refine w_cons ?_ | with_reducible refine w_nil ?_ | with_reducible refine w_cb ?_ | with_reducible refine w_call ?_
  | with_reducible refine w_and ?_ | with_reducible refine w_or ?_ | with_reducible refine w_not ?_ | with_reducible refine w_tb ?_ | with_reducible refine w_tt ?_ | with_reducible refine w_bl ?_
  | with_reducible refine w_tand ?_ | with_reducible refine w_tor ?_ | with_reducible refine w_tnot ?_ | with_reducible refine w_yes ?_ | with_reducible refine w_chain ?_
  | with_reducible refine w_I0 ?_ | with_reducible refine w_eqI ?_ | with_reducible refine w_neI ?_ | with_reducible refine w_eqB ?_ | with_reducible refine w_neB ?_
  | with_reducible refine w_fl ?_ | with_reducible refine w_rng ?_ | with_reducible refine w_lst ?_ | with_reducible refine w_tup ?_
  | with_reducible refine w_sfld ?_ | with_reducible refine w_tmk ?_ | with_reducible refine w_gsub ?_ | with_reducible refine w_for ?_ | with_reducible refine w_tlc ?_ | with_reducible refine w_gx ?_ | with_reducible refine w_itup ?_ | with_reducible refine w_ilst ?_ | with_reducible refine w_izp ?_
  | with_reducible refine w_sl ?_ | with_reducible refine w_part ?_ | with_reducible refine w_pint ?_ | with_reducible refine w_nopart ?_
  | with_reducible refine w_rz ?_ | with_reducible refine w_callS ?_ | with_reducible refine w_callNS ?_ | with_reducible refine w_callD ?_ | with_reducible refine w_2d ?_ | with_reducible refine w_par ?_
  | with_reducible refine w_1 ?_ | with_reducible refine w_2 ?_ | with_reducible refine w_3 ?_ | with_reducible refine w_4 ?_ | with_reducible refine w_5 ?_)
section
variable {Z : Wd} {TC SC : Addr}
abbrev N_mended_bit : List Str := ["table", "word", "ones"]
theorem S_mended_bit : FnScope N_mended_bit ["table", "word"] (defScope s_mended_bit) := ⟨rfl, rfl, rfl, by decide +kernel, rfl, by decide +kernel, by decide +kernel⟩
theorem B_mended_bit : Bnd "mended_bit" "mended_bit" s_mended_bit ["table", "word"] := fun _ _ _ _ _ _ us hl => match us, hl with | [_, _], _ => rfl
abbrev p_mended_bit (TC TA TO XU : Addr) : Sp := sp2 fun a b H Q E => ∃ t p n F x, a = .ref t ∧ b = .ref p ∧ Tbl TC H t n F ∧ Wo H p n x ∧ x < 2 ^ n ∧ GxR.TabG H TA ∧ GxR.TabG H TO ∧
  (2 * onesN n F x ≠ ((2 ^ n : Nat) : Int) → ∀ H', XT H H' → Q (.int (M.b2 (decide (2 * onesN n F x > ((2 ^ n : Nat) : Int))))) H') ∧
  (2 * onesN n F x = ((2 ^ n : Nat) : Int) → ∀ H' d, XT H H' → H' d = some (.xd [("what", .str "bit")]) → E (.ref XU) (some d) H')
theorem c_mended_bit (T : Tx Z TC SC) {TA TO XU : Addr} (F : Fn Z "mended_bit" "mended_bit" s_mended_bit) (c_ones_of : Cl Z CX0 11 "ones_of" (p_ones_of TC TA TO)) (x_Undefined : XCls Z XU "Undefined" "what") : Cl Z (L2.CX Z.P Z.w) 12 "mended_bit" (p_mended_bit TC TA TO XU) := by
  refine F.clX S_mended_bit B_mended_bit len2 fun f cdv A outer s H vs Q E hr h => ?_
  obtain ⟨_, _, rfl, t, p, n, F, x, rfl, rfl, tb, hp, hx, hA, hO, k1, k2⟩ := h
  obtain ⟨⟨dt, qt, ht, bt⟩, n1, n6⟩ := id tb
  have nd := S_mended_bit.nd
  refine ⟨_, (pss_cons (ps_set (i := 2) nd rfl (Or.inl rfl) (pe_cl c_ones_of (hr.mono (by decide)) rfl pass0 (pa_cons (pv 0) (pa_cons (pv 1) pa_nil))))
  (pss_cons (ps_if (pt_cmpR op_eq (pe_op op_mul pe_int (pv 2)) (pe_callB (call_lenK (K := Z.K)) rfl T.b_len (by decide +kernel) (pa_cons (pe_fldK (K := Z.K) (pv 0) rfl) pa_nil)) (nomark _)) (pss_one (ps_rz x_Undefined (hr.mono (by decide)) rfl (takes_of rfl rfl rfl rfl) rfl (pa_cons pe_str pa_nil))) pss_nil)
  (pss_one (ps_ret (pe_callTy call_intN rfl T.b_int (by decide +kernel) (pa_cons (pe_cmpR op_gt (pe_op op_mul pe_int (pv 2)) (pe_callB (call_lenK (K := Z.K)) rfl T.b_len (by decide +kernel) (pa_cons (pe_fldK (K := Z.K) (pv 0) rfl) pa_nil)) (nomark _)) pa_nil)))))), ?_⟩
  show tSeq _ _ _ [some (.ref t), some (.ref p), none] H
  repeat walk_at "st"
  refine ⟨t, p, n, F, x, rfl, rfl, tb, hp, hx, hA, hO, fun H1 x1 => ?_⟩
  repeat walk_at "st"
  refine w_I (.inl (by decide)) ?_
  repeat walk_at "st"
  refine rT_b T (x1.ins ht) ?_
  repeat walk_at "st"
  refine ⟨qt, _, rfl, .inr (SqT.of (x1.tup bt)), ?_⟩
  repeat walk_at "st"
  rw [iv_len]
  by_cases c : 2 * onesN n F x = ((2 ^ n : Nat) : Int)
  · rw [decide_eq_true c]
    refine iteT ?_
    repeat walk_at "st"
    refine w_mkO fun d hd => ?_
    exact k2 c _ d (x1.add hd) upd_same
  · rw [decide_eq_false c]
    refine iteF ?_
    repeat walk_at "st"
    refine w_I (.inl (by decide)) ?_
    repeat walk_at "st"
    refine rT_b T (x1.ins ht) ?_
    repeat walk_at "st"
    refine ⟨qt, _, rfl, .inr (SqT.of (x1.tup bt)), ?_⟩
    repeat walk_at "st"
    rw [iv_len]
    refine w_intB ?_
    exact k1 c H1 x1
abbrev N_near_sums : List Str := ["table", "share", "least", "sums", "number"]
theorem S_near_sums : FnScope N_near_sums ["table", "share"] (defScope s_near_sums) := ⟨rfl, rfl, rfl, by decide +kernel, rfl, by decide +kernel, by decide +kernel⟩
theorem B_near_sums : Bnd "near_sums" "near_sums" s_near_sums ["table", "share"] := fun _ _ _ _ _ _ us hl => match us, hl with | [_, _], _ => rfl
/-- what near_sums takes for no share -/
abbrev NoShr (SC : Addr) (H : Hp) (v : V) : Prop := v = .non ∨ (∃ i, v = .int i) ∨ (∃ p xs, v = .ref p ∧ H p = some (.tup xs)) ∨ ∃ p o u, v = .ref p ∧ Shr SC H p o u ∧ (o ≤ 0 ∨ o > u)
abbrev p_near_sums (TC SC TW TN XS' : Addr) : Sp := sp2 fun a b H Q E => ∃ t n F, a = .ref t ∧ Tbl TC H t n F ∧
  ((∃ p o u, b = .ref p ∧ Shr SC H p o u ∧ 0 < o ∧ o ≤ u ∧ u ≤ 1000 ∧ GxR.TabG H TW ∧ GxR.TabG H TN ∧ ∀ H' q l, XT H H' → H' q = some (.tup l) → Rows H' n (fun i => decide (Wf n F i * u ≥ o * ((2 ^ n : Nat) : Int))) l → Q (.ref q) H') ∨
   (NoShr SC H b ∧ ∀ H' d, XT H H' → H' d = some (.xd [("value", b)]) → E (.ref XS') (some d) H'))
theorem c_near_sums (T : Tx Z TC SC) {TW TN XS' : Addr} (F : FnT Z "near_sums" "near_sums" s_near_sums TN) (c_signed_sums : Cl Z CX0 2 "signed_sums" (p_signed_sums TC)) (c_word_at : Cl Z CX0 5 "word_at" (p_word_at TW)) (x_InvalidShare : XCls Z XS' "InvalidShare" "value") : Cl Z (L2.CX Z.P Z.w) 10 "near_sums" (p_near_sums TC SC TW TN XS') := by
  refine F.clX S_near_sums B_near_sums len2 fun f c A outer s H vs Q E TB hr h => ?_
  obtain ⟨_, b, rfl, t, n, F, rfl, tb, h⟩ := h
  obtain ⟨⟨dt, qt, ht, bt⟩, n1, n6⟩ := id tb
  have nd := S_near_sums.nd
  have p6 := pow6 n6
  obtain ⟨q6, r6⟩ := pow6i n6
  refine ⟨_, (pss_cons (ps_if (PW.pt (pw_or (pt_not (pt_val (pe_callB (call_isiK (K := Z.K)) rfl T.b_isinstance (by decide +kernel) (pa_cons (pv 1) (pa_cons (pe_glob rfl T.m_Share (show RelV (.ref _) (.ref _) from rfl)) pa_nil))))) (pw_or (pt_cmpR op_le (pe_fldK (K := Z.K) (pv 1) rfl) pe_int (nomark _)) (pw_or1 (pt_cmpR op_gt (pe_fldK (K := Z.K) (pv 1) rfl) (pe_fldK (K := Z.K) (pv 1) rfl) (nomark _)))))) (pss_one (ps_rz x_InvalidShare (hr.mono (by decide)) rfl (takes_of rfl rfl rfl rfl) rfl (pa_cons (pv 1) pa_nil))) pss_nil)
  (pss_cons (ps_set (i := 3) nd rfl (Or.inr rfl) (pe_cl c_signed_sums (hr.mono (by decide)) rfl pass0 (pa_cons (pv 0) pa_nil)))
  (pss_cons (ps_set (i := 2) nd rfl (Or.inr rfl) (pe_op op_mul (pe_fldK (K := Z.K) (pv 1) rfl) (pe_callB (call_lenK (K := Z.K)) rfl T.b_len (by decide +kernel) (pa_cons (pv 3) pa_nil))))
  (pss_one (ps_ret (Gx.pe_gxTup (k := 5) (own := [("number", 4)]) (hr.mono (by decide)) ⟨rfl, TB, rfl, ⟨rfl, by decide +kernel, by rfl⟩, blkOk_by (N := N_near_sums) (sc := defScope s_near_sums) (by decide +kernel), nd, (pi_range1 rfl T.b_range (pa_cons (pe_callB (call_lenK (K := Z.K)) rfl T.b_len (by decide +kernel) (pa_cons (pv 3) pa_nil)) pa_nil)), (fun _ _ _ _ _ _ _ hr => (pg_name (i := 4) nd rfl (Or.inl rfl))), (fun _ _ _ _ _ _ _ hr => (pts_one (pt_cmpR op_ge (pe_op op_mul (pe_ix (ix_seqK (K := Z.K)) (pv 3) (pv 4) (fun _ _ => rfl)) (pe_fldK (K := Z.K) (pv 1) rfl)) (pv 2) (nomark _)))), (fun _ _ _ _ _ _ _ hr => (pe_cl c_word_at (hr.mono (by decide)) rfl pass0 (pa_cons (pe_fldK (K := Z.K) (pv 0) rfl) (pa_cons (pv 4) pa_nil))))⟩ rfl T.b_tuple)))))), ?_⟩
  show tSeq _ _ _ [some (.ref t), some b, none, none, none] H
  rcases h with ⟨p, o, u, rfl, ⟨dx, hp⟩, o0, ou, u9, hW, hN, k⟩ | ⟨hb, k⟩
  · repeat walk_at "st"
    refine isC (T.iS hp) T.kSS (w_bl ?_)
    refine iteF ?_
    repeat walk_at "st"
    refine rS_o T hp ?_
    repeat walk_at "st"
    rw [decide_eq_false (by omega)]
    refine iteF ?_
    repeat walk_at "st"
    refine rS_o T hp ?_
    repeat walk_at "st"
    refine rS_u T hp ?_
    repeat walk_at "st"
    rw [decide_eq_false (by omega)]
    refine iteF ?_
    repeat walk_at "st"
    refine ⟨t, n, F, rfl, tb, fun H1 w hw x1 h1 => ?_⟩
    repeat walk_at "st"
    refine rS_o T (x1.ins hp) ?_
    repeat walk_at "st"
    refine ⟨w, _, rfl, .inr (SqT.of h1), ?_⟩
    repeat walk_at "st"
    rw [iv_len]
    refine w_I (.inl ⟨by omega, by omega⟩) ?_
    repeat walk_at "st"
    refine ⟨w, _, rfl, .inr (SqT.of h1), ?_⟩
    repeat walk_at "st"
    rw [iv_len]
    refine ⟨_, rfl, by omega, by omega, ?_⟩
    rw [Int.toNat_natCast]
    refine gx_tupF walk_rng (fun i => decide (Wf n F i * u ≥ o * ((2 ^ n : Nat) : Int))) (fun i v H => ∃ q, v = .ref q ∧ Wo H q n i) (fun i v H H' ⟨q, e, h⟩ x => ⟨q, e, x.tup h⟩) (Nat.lt_of_le_of_lt p6 (by decide)) (x1.tab _ hN) (fun _ _ => trivial) (fun i v H3 H4 hi x3 hy K1 K0 hk1 hk0 => ?_) fun H3 q l x3 hq hl => ?_
    · obtain ⟨rfl, rfl⟩ := hy
      have x13 := x1.trans x3
      refine w_name (σ' := [some (.ref t), some (.ref p), some (.int (o * ((2 ^ n : Nat) : Int))), some (.ref w), some (.int (i : Int))]) rfl ⟨rfl, ?_⟩
      repeat walk_at "st"
      refine w_ixt (SqT.of (x3.tup h1)) (iv_at hi) ?_
      repeat walk_at "st"
      refine rS_u T (x13.ins hp) ?_
      repeat walk_at "st"
      refine w_I (.inr ⟨by omega, by omega⟩) ?_
      repeat walk_at "st"
      by_cases c : Wf n F i * u ≥ o * ((2 ^ n : Nat) : Int)
      · have c' : o * ((2 ^ n : Nat) : Int) ≤ Wf n F i * u := c
        rw [decide_eq_true c]
        rw [decide_eq_true c] at hk1
        refine iteT ?_
        repeat walk_at "st"
        refine rT_n T (x13.ins ht) ?_
        repeat walk_at "st"
        exact ⟨n, i, rfl, rfl, by omega, x13.tab _ hW, fun w H5 hw x5 hh => hk1 rfl _ _ x5 ⟨w, rfl, hh⟩⟩
      · rw [decide_eq_false c]
        rw [decide_eq_false c] at hk0
        exact iteF (hk0 rfl _ XT.rfl')
    · exact k H3 q l (x1.trans x3) hq hl
  · have fin : (tRz XS' "value" (fun cls d x H => E cls d H) (tCons (tVar 1) tNil)) ⟨fun _ _ => False, Q, fun _ _ => False, fun _ _ => False⟩ [some (.ref t), some b, none, none, none] H := by
      repeat walk_at "st"
      exact w_mkO fun d hd => k _ d (XT.new hd) upd_same
    repeat walk_at "st"
    rcases hb with rfl | ⟨i, rfl⟩ | ⟨p, xs, rfl, hp⟩ | ⟨p, o, u, rfl, ⟨dx, hp⟩, ho⟩
    · refine isC (.base .non) (T.kS "NoneType" (by simp)) (w_bl ?_)
      exact iteT fin
    · refine isC (.base (.int i)) (T.kS "int" (by simp)) (w_bl ?_)
      exact iteT fin
    · refine isC (.base (.tup hp)) (T.kS "tuple" (by simp)) (w_bl ?_)
      exact iteT fin
    · refine isC (T.iS hp) T.kSS (w_bl ?_)
      refine iteF ?_
      repeat walk_at "st"
      refine rS_o T hp ?_
      repeat walk_at "st"
      refine ite2 (fun h => iteT fin) (fun h => ?_)
      have ho2 : ¬ o ≤ 0 := of_decide_eq_false (by simpa using h)
      repeat walk_at "st"
      refine rS_o T hp ?_
      repeat walk_at "st"
      refine rS_u T hp ?_
      repeat walk_at "st"
      rw [decide_eq_true (by omega)]
      exact iteT fin
end
end Q
set_option Elab.async false
set_option linter.all false
set_option maxRecDepth 100000
set_option maxHeartbeats 1000000
namespace Q
open PySem PySem.Spec PyProof.Rows L2
local macro_rules | `(tactic| walk_at "st") => `(tactic| first
  | with_reducible refine w_seq ?_ | with_reducible refine w_next ?_ | with_reducible refine w_ret ?_ | with_reducible refine w_ifs ?_ | with_reducible refine w_asg ?_ | with_reducible refine w_drop ?_
  | with_reducible refine w_name (by simp only [List.set_cons_zero, List.set_cons_succ]; rfl) ?_
  | with_reducible refine w_var (by with_unfolding_all rfl) ?_
  | with_reducible refine w_c ?_ | with_reducible refine w_op ?_ | with_reducible refine w_un ?_ | with_reducible refine w_cons ?_ | with_reducible refine w_nil ?_ | with_reducible refine w_cb ?_ | with_reducible refine w_call ?_
  | with_reducible refine w_and ?_ | with_reducible refine w_or ?_ | with_reducible refine w_not ?_ | with_reducible refine w_tb ?_ | with_reducible refine w_tt ?_ | with_reducible refine w_bl ?_
  | with_reducible refine w_tand ?_ | with_reducible refine w_tor ?_ | with_reducible refine w_tnot ?_ | with_reducible refine w_yes ?_ | with_reducible refine w_chain ?_
  | with_reducible refine w_I0 ?_ | with_reducible refine w_eqI ?_ | with_reducible refine w_neI ?_ | with_reducible refine w_eqB ?_ | with_reducible refine w_neB ?_
  | with_reducible refine w_fl ?_ | with_reducible refine w_rng ?_ | with_reducible refine w_lst ?_ | with_reducible refine w_tup ?_
  | with_reducible refine w_sfld ?_ | with_reducible refine w_tmk ?_ | with_reducible refine w_gsub ?_ | with_reducible refine w_for ?_ | with_reducible refine w_tlc ?_ | with_reducible refine w_gx ?_ | with_reducible refine w_itup ?_ | with_reducible refine w_ilst ?_ | with_reducible refine w_izp ?_
  | with_reducible refine w_sl ?_ | with_reducible refine w_part ?_ | with_reducible refine w_pint ?_ | with_reducible refine w_nopart ?_
  | with_reducible refine w_rz ?_ | with_reducible refine w_callS ?_ | with_reducible refine w_callNS ?_ | with_reducible refine w_callD ?_ | with_reducible refine w_2d ?_ | with_reducible refine w_par ?_
  | with_reducible refine w_1 ?_ | with_reducible refine w_2 ?_ | with_reducible refine w_3 ?_ | with_reducible refine w_4 ?_ | with_reducible refine w_5 ?_)
theorem run_fnNS {X : Cx} {CX : CXT} {k n : Nat} {f : Addr} {fd : FuncData} {ps ks : List Str} {sp : Sp} {E : XK} {g : List Value → List Value → List Value} {gV : List V → List V → List V} {pins : List (Addr × Obj)} {σ : L2.St} {H : Hp} {s : Shared} {Q : VK} {us ws : List Value} {vs zs : List V}
    (F : FnOk X.prog X.w X.K X.mg X.base CX k f fd ps sp) (hr : Room k X.A) (hb : KBn X.K fd ps n ks g gV) (hx : PassesAt CX X σ E) (I : L2.Inv X pins σ H s) (r : Vals vs us) (rz : Vals zs ws) (l1 : vs.length = n) (l2 : zs.length = ks.length) (h : sp (gV vs zs) H Q E) :
    wpAny (model X.prog X.w) X.A (call (Value.ref f) us (ks.zip ws)) (EP X pins σ Q) X.xe s := by
  refine wpAny_call (codeAny_mono (F.run X.A X.stack s H ⟨us, ks.zip ws⟩ (g us ws) (gV vs zs) Q E hr (Inv.env0 I) (hb.to s us ws (Inv.kIn I) (by rw [← r.length]; exact l1) (by rw [← rz.length]; exact l2)) (hb.rel r rz) h) fun r s' hq => ?_)
  match r, hq with
  | .ok (.ret u), hq => exact Inv.after I hq
  | .error e, hq => exact hx pins H s e s' I hq
def tCallNS (n m : Nat) (sp : Sp) (gV : List V → List V → List V) (E : L2.St → XK) (t tk : TA) : TE := fun σ H Q => t σ H fun vs H1 => tk σ H1 fun zs H2 => vs.length = n ∧ zs.length = m ∧ sp (gV vs zs) H2 Q (E σ)
/-- passing_share: its second parameter is given by keyword or left out -/
def Ck (Z : Wd) (CX : CXT) (k : Nat) (x : Str) (sp : Sp) : Prop := ∃ f fd, FnOk Z.P Z.w Z.K Z.mg Z.base CX k f fd ["table", "many"] sp ∧ Z.mg x = some (.ref f) ∧ W.keepIn Z.K (.ref f) = true ∧
  (∃ ds, Vals [.int 2] ds ∧ L2.Binds Z.K fd ["table", "many"] ds) ∧ KBn Z.K fd ["table", "many"] 1 ["many"] (fun us ws => us ++ ws) (fun us ws => us ++ ws)
theorem pe_ckD {X : Cx} {CX : CXT} {k : Nat} {sp : Sp} {E : XK} {x : Str} {p pos : Pos} {e : Expr} {es : List Expr} {t : TA}
    (c : Ck ⟨X.prog, X.w, X.K, X.mg, X.base⟩ CX k x sp) (hr : Room k X.A) (hg : Gl X x) (hx : Passes CX X E) (ha : PA X (e :: es) t)
    (hd : (x == Str.ofString "__debug__") = false := by rfl) (he : starEach (e :: es) X.env = (false, eval e X.env) :: starEach es X.env := by rfl) (hn : ((backTo pos (starEach es X.env)).any fun x => x.fst) = false := by rfl) :
    PE X (.Call (.Name x p) (e :: es) [] pos) (tCall sp [.int 2] E t) := by
  obtain ⟨f, fd, F, m, kp, ⟨ds, hds, b⟩, _⟩ := c
  exact pe_call F hr hg m kp b hds hx ha hd he hn
theorem pe_ckK {X : Cx} {CX : CXT} {k : Nat} {sp : Sp} {E : L2.St → XK} {x : Str} {p pos : Pos} {e : Expr} {es : List Expr} {kws : List Keyword} {t tk : TA}
    (c : Ck ⟨X.prog, X.w, X.K, X.mg, X.base⟩ CX k x sp) (hr : Room k X.A) (hg : Gl X x) (hx : ∀ σ, PassesAt CX X σ (E σ)) (ha : PA X (e :: es) t) (hkw : PK X kws tk)
    (hall : ((backToKw pos (keywordEach kws X.env)).all fun x => x.fst.isSome) = true := by rfl)
    (hks : List.filterMap (fun x => x.fst) (backToKw pos (keywordEach kws X.env)) = [("many" : Str)] := by rfl)
    (hd : (x == Str.ofString "__debug__") = false := by rfl) (he : starEach (e :: es) X.env = (false, eval e X.env) :: starEach es X.env := by rfl)
    (hpl : (((backTo pos (starEach (e :: es) X.env)).any fun x => x.fst) || (backToKw pos (keywordEach kws X.env)).any fun x => x.fst.isNone) = false := by rfl) :
    PE X (.Call (.Name x p) (e :: es) kws pos) (tCallNS 1 1 sp (fun us ws => us ++ ws) E t tk) := by
  obtain ⟨f, fd, F, m, kp, _, hb⟩ := c
  refine ⟨fun pins s σ H Q I h => ?_⟩
  refine wpAny_Call_Name_kw (ld_glob I hg m (W.callWith_KW I.ok.mod.kin kp hall (thn (ha.run pos pins s σ H _ I h) fun us s1 x => ?_) hpl he) hd)
  obtain ⟨vs, H1, I1, r, q⟩ := x
  refine thn (hkw.run pos pins s1 σ H1 _ I1 q) fun ws s2 x => ?_
  obtain ⟨zs, H2, I2, rz, l1, l2, q2⟩ := x
  refine ⟨Inv.kIn I2, ?_⟩
  rw [hks]
  exact run_fnNS F hr hb (hx σ) I2 r rz l1 l2 q2
theorem w_neg {g : Int → V} {i : Int} {H : Hp} {Qe : VK} (k : Qe (g i) H) : rU g (.int i) H Qe := ⟨i, rfl, k⟩
section
variable {Z : Wd} {TC SC : Addr}
abbrev N_passing_share : List Str := ["table", "many", "total", "found", "number"]
theorem S_passing_share : FnScope N_passing_share ["table", "many"] (defScope s_passing_share) := ⟨rfl, rfl, rfl, by decide +kernel, rfl, by decide +kernel, by decide +kernel⟩
def PFn (Z : Wd) : Prop := ∃ f fd oc od kV doc pm an cdv ct osl, fd = W.fnOf "passing_share" "passing_share" (defArgs s_passing_share) (defBody s_passing_share) (defScope s_passing_share) Value.none kV doc pm an cdv ct ∧
  List.lookup f Z.K = some { cls := oc, dict := od, data := Data.func fd, slots := osl } ∧ W.codeIn Z.K cdv "passing_share" = true ∧ KwdV Z.K kV [("many", .int 2)] ∧ W.keepIn Z.K (.ref f) = true ∧ Z.mg "passing_share" = some (.ref f)
abbrev psT (n m : Nat) : Int := ((2 ^ n : Nat) : Int) ^ (m + 1)
abbrev psF (n m : Nat) (F : Nat → Bool) : Int := M.S n fun a => Wf n F a ^ (m + 1)
abbrev p_passing_share (TC SC TQ XN : Addr) : Sp := sp2 fun a b H Q E => ∃ t n F, a = .ref t ∧ Tbl TC H t n F ∧
  ((∃ m : Nat, b = .int m ∧ 1 ≤ m ∧ m ≤ 6 ∧ GxR.TabG H TQ ∧ ∀ H' r, XT H H' → Shr SC H' r ((psT n m + psF n m F) / gd (psT n m + psF n m F) (2 * psT n m)) (2 * psT n m / gd (psT n m + psF n m F) (2 * psT n m)) → Q (.ref r) H') ∨
   (Nice H b ∧ btw b 1 6 = false ∧ ∀ H' d, XT H H' → H' d = some (.xd [("value", b)]) → E (.ref XN) (some d) H'))
theorem pow_bnd {x : Int} {k : Nat} (h1 : -64 ≤ x) (h2 : x ≤ 64) (hk : k ≤ 7) : -(2 ^ 42) ≤ x ^ k ∧ x ^ k ≤ 2 ^ 42 := by
  have h3 : x.natAbs ≤ 64 := by omega
  have h4 : (x ^ k).natAbs ≤ 2 ^ 42 := by
    rw [Int.natAbs_pow]
    refine Nat.le_trans (Nat.pow_le_pow_left h3 k) ?_
    exact Nat.le_trans (Nat.pow_le_pow_right (by decide) hk) (by decide)
  omega
theorem psT_b {n m : Nat} (n6 : n ≤ 6) (hm : m ≤ 6) : 1 ≤ psT n m ∧ psT n m ≤ 2 ^ 42 := by
  have h := pow6i n6
  have h2 := (pow_bnd (x := ((2 ^ n : Nat) : Int)) (k := m + 1) (by omega) h.2 (by omega)).2
  have h3 : 0 < psT n m := Int.pow_pos (by omega)
  exact ⟨h3, h2⟩
theorem c_passing_share (T : Tx Z TC SC) {TQ XN : Addr} (F : ∃ c, GxR.TabB Z.base Z.mg c TQ ∧ ∃ f fd oc od kV doc pm an ct osl, fd = W.fnOf "passing_share" "passing_share" (defArgs s_passing_share) (defBody s_passing_share) (defScope s_passing_share) Value.none kV doc pm an (.ref c) ct ∧
      List.lookup f Z.K = some { cls := oc, dict := od, data := Data.func fd, slots := osl } ∧ W.codeIn Z.K (.ref c) "passing_share" = true ∧ KwdV Z.K kV [("many", .int 2)] ∧ W.keepIn Z.K (.ref f) = true ∧ Z.mg "passing_share" = some (.ref f))
    (c_is_between : Cl Z CX0 2 "is_between" p_is_between) (c_power_of : Cl Z CX0 1 "power_of" p_power_of) (c_signed_sums : Cl Z CX0 2 "signed_sums" (p_signed_sums TC)) (c_mkShare : Mkr Z 2 SC "Share" (p_Sinit SC)) (x_InvalidNumber : XCls Z XN "InvalidNumber" "value") : Ck Z (L2.CX Z.P Z.w) 7 "passing_share" (p_passing_share TC SC TQ XN) := by
  obtain ⟨c, TB, f, fd, oc, od, kV, doc, pm, an, ct, osl, rfl, lk, hcd, hkw, kp, m⟩ := F
  have FD : FunD Z.K "passing_share" "passing_share" (defArgs s_passing_share) (defBody s_passing_share) (defScope s_passing_share) [] [("many", .int 2)] f (W.fnOf "passing_share" "passing_share" (defArgs s_passing_share) (defBody s_passing_share) (defScope s_passing_share) Value.none kV doc pm an (.ref c) ct) :=
    ⟨⟨oc, od, _, kV, doc, pm, an, _, ct, osl, rfl, lk, hcd, .inl ⟨rfl, rfl⟩, hkw⟩, kp⟩
  refine ⟨f, _, fn_of (CX := L2.CX Z.P Z.w) lk hcd S_passing_share len2 (fun A outer s H vs Q E hr h => ?_), m, kp, FD.binds0 (ps := ["table", "many"]) 1 (by simp) rfl (fun D doc pm an cdv ct us ks h1 h2 => ?_), ⟨fun s us ws _ h1 h2 => ?_, fun r rz => ?_⟩⟩
  · obtain ⟨_, b, rfl, t, n, F, rfl, tb, h⟩ := h
    obtain ⟨⟨dt, qt, ht, bt⟩, n1, n6⟩ := id tb
    have nd := S_passing_share.nd
    have p6 := pow6 n6
    obtain ⟨q6, r6⟩ := pow6i n6
    refine ⟨_, (pss_cons (ps_if (pt_not (pt_val (pe_cl c_is_between (hr.mono (by decide)) rfl pass0 (pa_cons (pv 1) (pa_cons pe_int (pa_cons pe_int pa_nil)))))) (pss_one (ps_rz x_InvalidNumber (hr.mono (by decide)) rfl (takes_of rfl rfl rfl rfl) rfl (pa_cons (pv 1) pa_nil))) pss_nil)
  (pss_cons (ps_set (i := 2) nd rfl (Or.inl rfl) (pe_cl c_power_of (hr.mono (by decide)) rfl pass0 (pa_cons (pe_callB (call_lenK (K := Z.K)) rfl T.b_len (by decide +kernel) (pa_cons (pe_fldK (K := Z.K) (pv 0) rfl) pa_nil)) (pa_cons (pe_op op_add (pv 1) pe_int) pa_nil))))
  (pss_cons (ps_set (i := 3) nd rfl (Or.inl rfl) (Gx.pe_gxSum (k := 1) (own := [("number", 4)]) (hr.mono (by decide)) ⟨rfl, TB, rfl, ⟨rfl, by decide +kernel, by rfl⟩, blkOk_by (N := N_passing_share) (sc := defScope s_passing_share) (by decide +kernel), nd, (pi_tupK (K := Z.K) (pe_cl c_signed_sums (hr.mono (by decide)) rfl pass0 (pa_cons (pv 0) pa_nil))), (fun _ _ _ _ _ _ _ hr => (pg_name (i := 4) nd rfl (Or.inl rfl))), (fun _ _ _ _ _ _ _ hr => pts_nil), (fun _ _ _ _ _ _ _ hr => (pe_cl c_power_of (hr.mono (by decide)) rfl pass0 (pa_cons (pv 4) (pa_cons (pe_op op_add (pv 1) pe_int) pa_nil))))⟩ rfl T.b_sum))
  (pss_one (ps_ret (pe_mk c_mkShare (hr.mono (by decide)) rfl pass0 (pa_cons (pe_op op_add (pv 2) (pv 3)) (pa_cons (pe_op op_mul pe_int (pv 2)) pa_nil)))))))), ?_⟩
    show tSeq _ _ _ [some (.ref t), some b, none, none, none] H
    rcases h with ⟨m, rfl, m1, m6, hQ, k⟩ | ⟨hn, hb, k⟩
    · obtain ⟨t1, t2⟩ := psT_b n6 m6
      have t1' : 1 ≤ ((2 ^ n : Nat) : Int) ^ (m + 1) := t1
      have t2' : ((2 ^ n : Nat) : Int) ^ (m + 1) ≤ 2 ^ 42 := t2
      repeat walk_at "st"
      refine ⟨1, 6, rfl, rfl, trivial, ?_⟩
      repeat walk_at "st"
      rw [show btw (.int (m : Nat)) 1 6 = true from decide_eq_true ⟨by omega, by omega⟩]
      refine iteF ?_
      repeat walk_at "st"
      refine rT_b T ht ?_
      repeat walk_at "st"
      refine ⟨qt, _, rfl, .inr (SqT.of bt), ?_⟩
      repeat walk_at "st"
      rw [iv_len]
      refine ⟨_, m + 1, rfl, rfl, by omega, by omega, by omega, ?_⟩
      repeat walk_at "st"
      refine ⟨t, n, F, rfl, tb, fun H1 w hw x1 h1 => ?_⟩
      refine ⟨w, rfl, ⟨_, SqT.of h1⟩, ?_⟩
      refine gx_sum (walk_tup (K := Z.K) (a := w) (xs := iv n (Wf n F))) (fun a => Wf n F a ^ (m + 1)) (2 ^ 42) (fun i _ => pow_bnd (Wf_b n6 F i).1 (Wf_b n6 F i).2 (by omega)) (by decide) (by rw [iv_len]; omega) (x1.tab _ hQ) (fun H2 x2 => SqT.of (x2.tup h1)) (fun i v H2 H3 hi x2 hy K1 hk => ?_) fun H2 x2 => ?_
      · obtain ⟨rfl, hx⟩ := hy
        rw [iv_len] at hi
        rw [M.tab_get hi] at hx
        cases hx
        refine w_name (σ' := [some (.ref t), some (.int m), some (.int (psT n m)), none, some (.int (Wf n F i))]) rfl ⟨rfl, ?_⟩
        repeat walk_at "st"
        exact ⟨_, m + 1, rfl, rfl, (Wf_b n6 F i).1, (Wf_b n6 F i).2, by omega, hk _ XT.rfl'⟩
      · rw [iv_len, ← M.S_list]
        repeat walk_at "st"
        refine w_I (.inl (by decide)) ?_
        repeat walk_at "st"
        exact w_mkS (by omega) (by omega) fun H3 r _ x3 hs => k H3 r ((x1.trans x2).trans x3) hs
    · repeat walk_at "st"
      refine ⟨1, 6, rfl, rfl, hn, ?_⟩
      repeat walk_at "st"
      rw [hb]
      refine iteT ?_
      repeat walk_at "st"
      exact w_mkO fun d hd => k _ d (XT.new hd) upd_same
  · match us, ks, h1, h2 with
    | [u], [v], _, _ =>
      exact ⟨_, _, _, _, _, _, rfl, rfl, rfl⟩
  · match us, ws, h1, h2 with
    | [u], [v], _, _ => exact BindsTo.of_eq rfl
  · exact r.append rz
end
end Q
set_option Elab.async false
set_option linter.all false
set_option maxRecDepth 100000
set_option maxHeartbeats 1000000
namespace Q
open PySem PySem.Spec PyProof.Rows L2
local macro_rules | `(tactic| walk_at "st") => `(tactic| first
  | with_reducible refine w_seq ?_ | with_reducible refine w_next ?_ | with_reducible refine w_ret ?_ | with_reducible refine w_ifs ?_ | with_reducible refine w_asg ?_ | with_reducible refine w_drop ?_
  | with_reducible refine w_name (by simp only [List.set_cons_zero, List.set_cons_succ]; rfl) ?_
  | with_reducible refine w_var (by with_unfolding_all rfl) ?_
  | with_reducible refine w_c ?_ | with_reducible refine w_op ?_ | with_reducible refine w_un ?_ | with_reducible refine w_cons ?_ | with_reducible refine w_nil ?_ | with_reducible refine w_cb ?_ | with_reducible refine w_call ?_
  | with_reducible refine w_and ?_ | with_reducible refine w_or ?_ | with_reducible refine w_not ?_ | with_reducible refine w_tb ?_ | with_reducible refine w_tt ?_ | with_reducible refine w_bl ?_
  | with_reducible refine w_tand ?_ | with_reducible refine w_tor ?_ | with_reducible refine w_tnot ?_ | with_reducible refine w_yes ?_ | with_reducible refine w_chain ?_
  | with_reducible refine w_I0 ?_ | with_reducible refine w_eqI ?_ | with_reducible refine w_neI ?_ | with_reducible refine w_eqB ?_ | with_reducible refine w_neB ?_
  | with_reducible refine w_fl ?_ | with_reducible refine w_rng ?_ | with_reducible refine w_lst ?_ | with_reducible refine w_tup ?_
  | with_reducible refine w_sfld ?_ | with_reducible refine w_tmk ?_ | with_reducible refine w_gsub ?_ | with_reducible refine w_for ?_ | with_reducible refine w_tlc ?_ | with_reducible refine w_gx ?_ | with_reducible refine w_itup ?_ | with_reducible refine w_ilst ?_ | with_reducible refine w_izp ?_
  | with_reducible refine w_sl ?_ | with_reducible refine w_part ?_ | with_reducible refine w_pint ?_ | with_reducible refine w_nopart ?_
  | with_reducible refine w_rz ?_ | with_reducible refine w_callS ?_ | with_reducible refine w_callNS ?_ | with_reducible refine w_callD ?_ | with_reducible refine w_2d ?_ | with_reducible refine w_par ?_
  | with_reducible refine w_1 ?_ | with_reducible refine w_2 ?_ | with_reducible refine w_3 ?_ | with_reducible refine w_4 ?_ | with_reducible refine w_5 ?_)
section
variable {Z : Wd} {TC SC : Addr}
abbrev N_table_from : List Str := ["n", "numbers", "signs", "many", "number", "sign"]
theorem S_table_from : FnScope N_table_from ["n", "numbers"] (defScope s_table_from) := ⟨rfl, rfl, rfl, by decide +kernel, rfl, by decide +kernel, by decide +kernel⟩
theorem B_table_from : Bnd "table_from" "table_from" s_table_from ["n", "numbers"] := fun _ _ _ _ _ _ us hl => match us, hl with | [_, _], _ => rfl
/-- the row of numbers is that of a table's signed sums -/
abbrev Good (n : Nat) (g : Nat → Int) : Prop := ∀ a, a < 2 ^ n → M.T n g a = ((2 ^ n : Nat) : Int) ∨ M.T n g a = -((2 ^ n : Nat) : Int)
abbrev p_table_from (TC TI TF XU : Addr) : Sp := sp2 fun a b H Q E => ∃ (n : Nat) (p : Addr) (vs : List V), a = .int n ∧ b = .ref p ∧ 1 ≤ n ∧ n ≤ 6 ∧ H p = some (.lst vs) ∧ (∀ v ∈ vs, Nice H v) ∧ vs.length ≤ 200 ∧ GxR.TabG H TI ∧ GxR.TabG H TF ∧
  (∀ g, vs = iv n g → Good n g → ∀ H' t, XT H H' → Tbl TC H' t n (fun a => decide (M.T n g a < 0)) → Q (.ref t) H') ∧
  ((∀ g, vs = iv n g → ¬ Good n g) → ∀ H' d, XT H H' → H' d = some (.xd [("what", .str "table")]) → E (.ref XU) (some d) H')
theorem Nice.ext {H H' : Hp} {v : V} (h : Nice H v) (x : XT H H') : Nice H' v := by
  cases v with
  | ref a =>
    rcases h with ⟨xs, h⟩ | ⟨xs, h⟩
    · exact .inl ⟨xs, x.lst h⟩
    · exact .inr ⟨xs, x.tup h⟩
  | _ => exact h
theorem ints_iv {n : Nat} {vs : List V} (h : vs.length = 2 ^ n) (hi : ∀ v ∈ vs, isI v = true) : ∃ g, vs = iv n g := by
  refine ⟨fun i => match vs.getD i .non with | .int k => k | _ => 0, ?_⟩
  apply List.ext_getElem?
  intro i
  by_cases c : i < 2 ^ n
  · have e : vs[i]? = some vs[i] := List.getElem?_eq_getElem (by omega)
    have := hi _ (List.getElem_mem (by omega : i < vs.length))
    rw [M.tab_get c, e]
    show _ = some (V.int (match vs.getD i .non with | .int k => k | _ => 0))
    rw [List.getD_eq_getElem?_getD, e]
    cases hv : vs[i] with
    | int k => rfl
    | _ => rw [hv] at this; cases this
  · rw [List.getElem?_eq_none (by omega), List.getElem?_eq_none (by rw [iv_len]; omega)]
theorem all_false_of {n : Nat} {p : Nat → Bool} (i : Nat) (hi : i < n) (h : p i = false) : (List.range n).all p = false := by
  rw [List.all_eq_false]
  exact ⟨i, List.mem_range.mpr hi, by rw [h]; decide⟩
theorem c_table_from (T : Tx Z TC SC) {TI TF XU : Addr} (F : FnT Z "table_from" "table_from" s_table_from TF) (c_is_between : Cl Z CX0 2 "is_between" p_is_between) (c_is_integer : Cl Z CX0 1 "is_integer" p_is_integer) (c_sums_and_differences : Cl Z CX0 1 "sums_and_differences" p_sad)
    (c_mkTable : Mkr Z 8 TC "Table" (p_Tinit TC TI)) (x_Undefined : XCls Z XU "Undefined" "what") : Cl Z (L2.CX Z.P Z.w) 10 "table_from" (p_table_from TC TI TF XU) := by
  refine F.clX S_table_from B_table_from len2 fun f c A outer s H vs Q E TB hr h => ?_
  obtain ⟨_, _, rfl, n, p, vs, rfl, rfl, n1, n6, hp, hnice, hlen, hI, hF, k1, k2⟩ := h
  have nd := S_table_from.nd
  have p6 := pow6 n6
  obtain ⟨q6, r6⟩ := pow6i n6
  refine ⟨_, (pss_cons (ps_if (pt_not (pt_val (pe_cl c_is_between (hr.mono (by decide)) rfl pass0 (pa_cons (pv 0) (pa_cons pe_int (pa_cons (pe_gi rfl T.m_LARGEST) pa_nil)))))) (pss_one ps_never) pss_nil)
  (pss_cons (ps_set (i := 3) nd rfl (Or.inr rfl) (pe_op op_shl pe_int (pv 0)))
  (pss_cons (ps_if (PW.pt (pw_or (pt_not (pt_val (pe_callB (call_isiTK (K := Z.K)) rfl T.b_isinstance (by decide +kernel) (pa_cons (pv 1) (pa_cons (pe_tup (pa_cons (pe_bltn rfl T.b_list (by decide +kernel) (show RelV (.ty "list") (.type "list") from rfl)) (pa_cons (pe_bltn rfl T.b_tuple (by decide +kernel) (show RelV (.ty "tuple") (.type "tuple") from rfl)) pa_nil))) pa_nil))))) (pw_or1 (pt_cmpR op_ne (pe_callB (call_lenK (K := Z.K)) rfl T.b_len (by decide +kernel) (pa_cons (pv 1) pa_nil)) (pv 3) (nomark _))))) (pss_one (ps_rz x_Undefined (hr.mono (by decide)) rfl (takes_of rfl rfl rfl rfl) rfl (pa_cons pe_str pa_nil))) pss_nil)
  (pss_cons (ps_if (pt_not (pt_val (Gx.pe_gxAll (k := 1) (own := [("number", 4)]) (hr.mono (by decide)) ⟨rfl, TB, rfl, ⟨rfl, by decide +kernel, by rfl⟩, blkOk_by (N := N_table_from) (sc := defScope s_table_from) (by decide +kernel), nd, (pi_listK (K := Z.K) (pv 1)), (fun _ _ _ _ _ _ _ hr => (pg_name (i := 4) nd rfl (Or.inl rfl))), (fun _ _ _ _ _ _ _ hr => pts_nil), (fun _ _ _ _ _ _ _ hr => (pe_cl c_is_integer (hr.mono (by decide)) rfl pass0 (pa_cons (pv 4) pa_nil)))⟩ rfl T.b_all))) (pss_one (ps_rz x_Undefined (hr.mono (by decide)) rfl (takes_of rfl rfl rfl rfl) rfl (pa_cons pe_str pa_nil))) pss_nil)
  (pss_cons (ps_set (i := 2) nd rfl (Or.inl rfl) (pe_cl c_sums_and_differences (hr.mono (by decide)) rfl pass0 (pa_cons (pv 1) pa_nil)))
  (pss_cons (ps_if (pt_not (pt_val (Gx.pe_gxAll (k := 1) (own := [("sign", 5)]) (hr.mono (by decide)) ⟨rfl, TB, rfl, ⟨rfl, by decide +kernel, by rfl⟩, blkOk_by (N := N_table_from) (sc := defScope s_table_from) (by decide +kernel), nd, (pi_listK (K := Z.K) (pv 2)), (fun _ _ _ _ _ _ _ hr => (pg_name (i := 5) nd rfl (Or.inl rfl))), (fun _ _ _ _ _ _ _ hr => pts_nil), (fun _ _ _ _ _ _ _ hr => (pe_or (pe_cmpR op_eq (pv 5) (pv 3) (nomark _)) (pe_one (pe_cmpR op_eq (pv 5) (pe_un un_neg (pv 3)) (nomark _)))))⟩ rfl T.b_all))) (pss_one (ps_rz x_Undefined (hr.mono (by decide)) rfl (takes_of rfl rfl rfl rfl) rfl (pa_cons pe_str pa_nil))) pss_nil)
  (pss_one (ps_ret (pe_mk c_mkTable (hr.mono (by decide)) rfl pass0 (pa_cons (pv 0) (pa_cons (pe_lc (own := [("sign", 5)]) rfl nd (pi_listK (K := Z.K) (pv 2)) (blkOk_by (N := N_table_from) (sc := defScope s_table_from) (by decide +kernel)) (fun _ _ _ _ _ => (pg_name (i := 5) nd rfl (Or.inl rfl))) (fun _ _ _ _ _ => pts_nil) (fun _ _ _ _ _ => (pe_callTy call_intN rfl T.b_int (by decide +kernel) (pa_cons (pe_cmpR op_lt (pv 5) pe_int (nomark _)) pa_nil)))) pa_nil))))))))))), ?_⟩
  show tSeq _ _ _ [some (.int n), some (.ref p), none, none, none, none] H
  repeat walk_at "st"
  refine ⟨1, 10, rfl, rfl, trivial, ?_⟩
  repeat walk_at "st"
  rw [show btw (.int n) 1 10 = true from decide_eq_true ⟨by omega, by omega⟩]
  refine iteF ?_
  repeat walk_at "st"
  refine w_I (by refine ⟨by omega, by omega, by decide⟩) ?_
  rw [shl1]
  repeat walk_at "st"
  refine ⟨by show 2 ≤ sizeLine; decide, fun tp htp => ?_⟩
  repeat walk_at "st"
  have x1 : XT H (upd H tp (.tup [.ty "list", .ty "tuple"])) := XT.new htp
  have hp1 := x1.lst hp
  refine ⟨_, tp, _, _, _, true, rfl, upd_same, .cons (.ty "list") (.cons (.ty "tuple") .nil), .base (.lst hp1), by rfl, ?_⟩
  repeat walk_at "st"
  refine iteF ?_
  repeat walk_at "st"
  refine ⟨p, _, rfl, .inl (SqL.of hp1), ?_⟩
  repeat walk_at "st"
  have fin : ∀ (σ : L2.St) (H1 : Hp), XT H H1 → (∀ g, vs = iv n g → ¬ Good n g) → (tRz XU "what" (fun cls d x H => E cls d H) (tCons (tC (.str "table")) tNil)) ⟨fun _ _ => False, Q, fun _ _ => False, fun _ _ => False⟩ σ H1 := fun σ H1 x hb => by
    repeat walk_at "st"
    exact w_mkO fun d hd => k2 hb _ d (x.add hd) upd_same
  by_cases hl : vs.length = 2 ^ n
  · rw [decide_eq_true (by rw [hl])]
    refine iteF ?_
    repeat walk_at "st"
    refine ⟨p, rfl, ⟨_, SqL.of hp1⟩, ?_⟩
    refine gx_all (walk_list (K := Z.K) (a := p) (xs := vs)) (fun i => isI (vs.getD i .non)) (x1.tab _ hF) (fun H2 x2 => SqL.of (x2.lst hp1)) (fun i y H2 H' hi x2 hy K1 hk => ?_) fun H2 x2 => ?_
    · obtain ⟨rfl, hx⟩ := hy
      refine w_name (σ' := [some (.int n), some (.ref p), none, some (.int ((2 ^ n : Nat) : Int)), some y, none]) rfl ⟨rfl, ?_⟩
      repeat walk_at "st"
      refine ⟨(hnice y (List.mem_of_getElem? hx)).ext (x1.trans x2), ?_⟩
      have := hk _ XT.rfl'
      rw [List.getD_eq_getElem?_getD, hx] at this
      exact this
    · by_cases hi : ∀ v ∈ vs, isI v = true
      · obtain ⟨g, rfl⟩ := ints_iv hl hi
        rw [all_range_true fun i hi' => by
          rw [List.getD_eq_getElem?_getD, List.getElem?_eq_getElem hi']
          exact hi _ (List.getElem_mem hi')]
        repeat walk_at "st"
        refine iteF ?_
        repeat walk_at "st"
        refine ⟨p, n, g, rfl, x2.lst hp1, n6, fun H3 l hl3 x3 h3 => ?_⟩
        have x13 := (x1.trans x2).trans x3
        repeat walk_at "st"
        refine ⟨l, rfl, ⟨_, SqL.of h3⟩, ?_⟩
        refine gx_all (walk_list (K := Z.K) (a := l) (xs := iv n (M.T n g))) (fun i => decide (M.T n g i = ((2 ^ n : Nat) : Int)) || decide (M.T n g i = -((2 ^ n : Nat) : Int))) (x13.tab _ hF) (fun H4 x4 => SqL.of (x4.lst h3)) (fun i y H4 H' hi x4 hy K1 hk => ?_) fun H4 x4 => ?_
        · obtain ⟨rfl, hx⟩ := hy
          rw [iv_len] at hi
          rw [M.tab_get hi] at hx
          cases hx
          refine w_name (σ' := [some (.int n), some (.ref p), some (.ref l), some (.int ((2 ^ n : Nat) : Int)), none, some (.int (M.T n g i))]) rfl ⟨rfl, ?_⟩
          repeat walk_at "st"
          have hk' := hk _ XT.rfl'
          refine ite2 (fun h => ?_) (fun h => ?_)
          · have e := of_decide_eq_true h
            rw [decide_eq_true e, Bool.true_or] at hk'
            exact hk'
          · have e := of_decide_eq_false (by simpa using h : decide (M.T n g i = ((2 ^ n : Nat) : Int)) = false)
            rw [decide_eq_false e, Bool.false_or] at hk'
            repeat walk_at "st"
            refine w_neg ?_
            repeat walk_at "st"
            exact hk'
        · rw [iv_len]
          by_cases hg : Good n g
          · rw [all_range_true fun i hi' => by rcases hg i hi' with e | e <;> rw [e] <;> simp]
            repeat walk_at "st"
            refine iteF ?_
            repeat walk_at "st"
            refine ⟨l, rfl, ⟨_, SqL.of (x4.lst h3)⟩, fun D hD => ?_⟩
            refine lc_map (walk_list (K := Z.K) (a := l) (xs := iv n (M.T n g))) (fun i => .int (M.b2 (decide (M.T n g i < 0)))) hD (by rw [iv_len]; exact Nat.lt_of_le_of_lt p6 (by decide)) (fun H5 x5 => SqL.of ((x4.trans x5).lst h3)) (fun i y H5 H6 hi x5 hy K1 hk => ?_) fun H5 x5 hh => ?_
            · obtain ⟨rfl, hx⟩ := hy
              rw [iv_len] at hi
              rw [M.tab_get hi] at hx
              cases hx
              refine w_name (σ' := [some (.int n), some (.ref p), some (.ref l), some (.int ((2 ^ n : Nat) : Int)), none, some (.int (M.T n g i))]) rfl ⟨rfl, ?_⟩
              repeat walk_at "st"
              exact w_intB (hk _ XT.rfl')
            · rw [iv_len] at hh
              repeat walk_at "st"
              exact w_mkT (F := fun a => decide (M.T n g a < 0)) hh n1 n6 (((x13.trans x4).trans x5).tab _ hI) fun H6 t x6 ht => k1 g rfl hg H6 t (((x13.trans x4).trans x5).trans x6) ht
          · obtain ⟨a, ha, hna⟩ : ∃ a, a < 2 ^ n ∧ ¬ (M.T n g a = ((2 ^ n : Nat) : Int) ∨ M.T n g a = -((2 ^ n : Nat) : Int)) := by
              refine Classical.byContradiction fun hc => hg fun a ha => Classical.byContradiction fun hn => hc ⟨a, ha, hn⟩
            rw [all_false_of a ha (by rw [decide_eq_false fun e => hna (.inl e), decide_eq_false fun e => hna (.inr e)]; rfl)]
            repeat walk_at "st"
            refine iteT ?_
            exact fin _ H4 (x13.trans x4) fun g' e hg' => hg (by
              intro a ha
              have := hg' a ha
              rw [show M.T n g a = M.T n g' a from ?_]
              · exact this
              · rw [M.T_W ha, M.T_W ha]
                exact M.W_congr fun x hx => by
                  have e2 := congrArg (fun l => l[x]?) e
                  simp only [M.tab_get hx] at e2
                  exact V.int.inj (Option.some.inj e2))
      · obtain ⟨v, hv, hnv⟩ : ∃ v, v ∈ vs ∧ ¬ isI v = true := Classical.byContradiction fun hc => hi fun v hv => Classical.byContradiction fun hn => hc ⟨v, hv, hn⟩
        obtain ⟨i, hi2, e⟩ := List.mem_iff_getElem.mp hv
        rw [all_false_of i hi2 (by rw [List.getD_eq_getElem?_getD, List.getElem?_eq_getElem hi2, e]; simpa using hnv)]
        repeat walk_at "st"
        refine iteT ?_
        exact fin _ H2 (x1.trans x2) fun g e2 _ => hnv (by
          rw [e2] at hv
          obtain ⟨x, _, rfl⟩ := List.mem_map.mp hv
          rfl)
  · rw [decide_eq_false (by omega)]
    refine iteT ?_
    exact fin _ _ x1 fun g e _ => hl (by rw [e, iv_len])
end
end Q
set_option Elab.async false
set_option linter.all false
set_option maxRecDepth 100000
set_option maxHeartbeats 1000000
namespace Q
open PySem PySem.Spec PyProof.Rows L2
local macro_rules | `(tactic| walk_at "st") => `(tactic| first
  | with_reducible refine w_seq ?_ | with_reducible refine w_next ?_ | with_reducible refine w_ret ?_ | with_reducible refine w_ifs ?_ | with_reducible refine w_asg ?_ | with_reducible refine w_drop ?_
  | with_reducible refine w_name (by simp only [List.set_cons_zero, List.set_cons_succ]; rfl) ?_
  | with_reducible refine w_var (by with_unfolding_all rfl) ?_
  | with_reducible refine w_c ?_ | with_reducible refine w_op ?_ | with_reducible refine w_un ?_ | with_reducible refine w_cons ?_ | with_reducible refine w_nil ?_ | with_reducible refine w_cb ?_ | with_reducible refine w_call ?_
  | with_reducible refine w_and ?_ | with_reducible refine w_or ?_ | with_reducible refine w_not ?_ | with_reducible refine w_tb ?_ | with_reducible refine w_tt ?_ | with_reducible refine w_bl ?_
  | with_reducible refine w_tand ?_ | with_reducible refine w_tor ?_ | with_reducible refine w_tnot ?_ | with_reducible refine w_yes ?_ | with_reducible refine w_chain ?_
  | with_reducible refine w_I0 ?_ | with_reducible refine w_eqI ?_ | with_reducible refine w_neI ?_ | with_reducible refine w_eqB ?_ | with_reducible refine w_neB ?_
  | with_reducible refine w_fl ?_ | with_reducible refine w_rng ?_ | with_reducible refine w_lst ?_ | with_reducible refine w_tup ?_
  | with_reducible refine w_sfld ?_ | with_reducible refine w_tmk ?_ | with_reducible refine w_gsub ?_ | with_reducible refine w_for ?_ | with_reducible refine w_tlc ?_ | with_reducible refine w_gx ?_ | with_reducible refine w_itup ?_ | with_reducible refine w_ilst ?_ | with_reducible refine w_izp ?_
  | with_reducible refine w_sl ?_ | with_reducible refine w_part ?_ | with_reducible refine w_pint ?_ | with_reducible refine w_nopart ?_
  | with_reducible refine w_rz ?_ | with_reducible refine w_callS ?_ | with_reducible refine w_callNS ?_ | with_reducible refine w_callD ?_ | with_reducible refine w_2d ?_ | with_reducible refine w_par ?_
  | with_reducible refine w_1 ?_ | with_reducible refine w_2 ?_ | with_reducible refine w_3 ?_ | with_reducible refine w_4 ?_ | with_reducible refine w_5 ?_)
/-! ### deep equality of data -/
theorem lay_ints : ∀ k : List Int, PyData.canLayAll0 (k.map PyData.int) = true
  | [] => rfl
  | i :: k => by rw [List.map_cons, PyData.canLayAll0]; rw [lay_ints k]; rfl
theorem dep_ints : ∀ k : List Int, PyData.depthAll (k.map PyData.int) = 0
  | [] => rfl
  | i :: k => by rw [List.map_cons, PyData.depthAll, dep_ints k]; rfl
theorem shp_lst (k : List Int) : SeqAt.shaped (.list (k.map PyData.int)) = true := by
  unfold SeqAt.shaped
  rw [PyData.canLay0, PyData.depth, lay_ints, dep_ints]; rfl
theorem shp_tup (k : List Int) : SeqAt.shaped (.tuple (k.map PyData.int)) = true := by
  unfold SeqAt.shaped
  rw [PyData.canLay0, PyData.depth, lay_ints, dep_ints]; rfl
theorem lay_rows (f : Nat → List Int) : ∀ is : List Nat, PyData.canLayAll0 (is.map fun i => PyData.tuple ((f i).map PyData.int)) = true
  | [] => rfl
  | i :: k => by rw [List.map_cons, PyData.canLayAll0, lay_rows f k, PyData.canLay0, lay_ints]; rfl
theorem dep_rows (f : Nat → List Int) : ∀ is : List Nat, PyData.depthAll (is.map fun i => PyData.tuple ((f i).map PyData.int)) ≤ 1
  | [] => by rw [List.map_nil, PyData.depthAll]; decide
  | i :: k => by
    rw [List.map_cons, PyData.depthAll, PyData.depth, dep_ints]
    have := dep_rows f k
    omega
theorem shp_rows (f : Nat → List Int) (is : List Nat) : SeqAt.shaped (.list (is.map fun i => PyData.tuple ((f i).map PyData.int))) = true := by
  unfold SeqAt.shaped
  rw [PyData.canLay0, PyData.depth, lay_rows]
  have := dep_rows f is
  rw [Bool.true_and, decide_eq_true_iff]; omega
theorem w_eqRefl {K : W.Frag} {H : Hp} {x y : V} {d : PyData} {Qe : VK} (h1 : Dp K H x d) (h2 : Dp K H y d) (hs : SeqAt.shaped d = true) (k : Qe (.bl true) H) : rEqD K x y H Qe := by
  refine ⟨d, d, h1, h2, hs, hs, ?_⟩
  rw [SeqAt.eqv_refl d (by unfold SeqAt.shaped at hs; exact (Bool.and_eq_true _ _ ▸ hs).1)]
  exact k
theorem w_neRefl {K : W.Frag} {H : Hp} {x y : V} {d : PyData} {Qe : VK} (h1 : Dp K H x d) (h2 : Dp K H y d) (hs : SeqAt.shaped d = true) (k : Qe (.bl false) H) : rNeD K x y H Qe := by
  refine ⟨d, d, h1, h2, hs, hs, ?_⟩
  rw [SeqAt.eqv_refl d (by unfold SeqAt.shaped at hs; exact (Bool.and_eq_true _ _ ▸ hs).1)]
  exact k
theorem iv_map (n : Nat) (g : Nat → Int) : iv n g = (M.tab n g).map V.int := by simp [M.tab]
theorem dp_iv {K : W.Frag} {H : Hp} {p : Addr} {n : Nat} {g : Nat → Int} (h : H p = some (.lst (iv n g))) : Dp K H (.ref p) (.list ((M.tab n g).map PyData.int)) := by
  rw [iv_map] at h
  exact .lst (SqL.of h) (dp_ints _)
/-! ### the tables of code objects, the law's own state -/
structure Ta where
  A : Addr
  W : Addr
  P : Addr
  I : Addr
  D : Addr
  O : Addr
  G : Addr
  N : Addr
  M : Addr
  B : Addr
  S : Addr
  Q : Addr
  F : Addr
structure AllT (τ : Ta) (H : Hp) : Prop where
  a : GxR.TabG H τ.A
  w : GxR.TabG H τ.W
  p : GxR.TabG H τ.P
  i : GxR.TabG H τ.I
  d : GxR.TabG H τ.D
  o : GxR.TabG H τ.O
  g : GxR.TabG H τ.G
  n : GxR.TabG H τ.N
  m : GxR.TabG H τ.M
  b : GxR.TabG H τ.B
  s : GxR.TabG H τ.S
  q : GxR.TabG H τ.Q
  f : GxR.TabG H τ.F
theorem AllT.ext {τ : Ta} {H H' : Hp} (h : AllT τ H) (x : ∀ P, GxR.TabG H P → GxR.TabG H' P) : AllT τ H' := by
  obtain ⟨a, w, p, i, d, o, g, n, m, b, s, q, f⟩ := h
  exact ⟨x _ a, x _ w, x _ p, x _ i, x _ d, x _ o, x _ g, x _ n, x _ m, x _ b, x _ s, x _ q, x _ f⟩
/-- what stands while the law asks: its state at s, the table at t, its cells at cl, its sums at sl -/
structure LawH (τ : Ta) (TC : Addr) (H : Hp) (s c t cl sl : Addr) (n : Nat) (F : Nat → Bool) : Prop where
  st : St H s c
  tb : Tbl TC H t n F
  hc : H cl = some (.lst (cells n F))
  hs : H sl = some (.lst (iv n (Wf n F)))
  n1 : cl ≠ s
  n2 : sl ≠ s
  al : AllT τ H
theorem LawH.ext {τ : Ta} {TC : Addr} {H H' : Hp} {s c t cl sl : Addr} {n : Nat} {F : Nat → Bool} (L : LawH τ TC H s c t cl sl n F) (x : XS s H H') (S : St H' s c) : LawH τ TC H' s c t cl sl n F := by
  obtain ⟨st, ⟨⟨dx, q, a, b⟩, n1, n6⟩, hc, hs, m1, m2, al⟩ := L
  exact ⟨S, ⟨⟨dx, q, x.ins st a, x.tup st b⟩, n1, n6⟩, x.lst m1 hc, x.lst m2 hs, m1, m2, al.ext x.tab⟩
theorem LawH.grow {τ : Ta} {TC : Addr} {H H' : Hp} {s c t cl sl : Addr} {n : Nat} {F : Nat → Bool} (L : LawH τ TC H s c t cl sl n F) (x : XT H H') : LawH τ TC H' s c t cl sl n F := L.ext x.xs (L.st.ext x)
section
variable {Z : Wd} {TC SC : Addr}
theorem c_law_rows_are (T : Tx Z TC SC) (F : Fn Z "_law_rows_are" "_law_rows_are" s_law_rows_are) : Cl Z CX0 2 "_law_rows_are" p_law_rows_are := by
  refine F.cl S_law_rows_are B_law_rows_are len2 fun f cdv A outer sh H vs Q E hr h => ?_
  obtain ⟨_, _, rfl, p, q, n, pr, l1, l2, rfl, rfl, n6, hp, hq, r1, r2, k⟩ := h
  have nd := S_law_rows_are.nd
  have p6 := pow6 n6
  have hl1 : l1.length ≤ 64 := by
    rw [← r1.len]
    exact Nat.le_trans (List.length_filter_le _ _) (by rw [List.length_range]; exact p6)
  refine ⟨_, (pss_cons (ps_if (PW.pt (pw_or (pt_not (pt_val (pe_callB (call_isiK (K := Z.K)) rfl T.b_isinstance (by decide +kernel) (pa_cons (pv 0) (pa_cons (pe_bltn rfl T.b_tuple (by decide +kernel) (show RelV (.ty "tuple") (.type "tuple") from rfl)) pa_nil))))) (pw_or1 (pt_cmpR (op_neDK (K := Z.K) hr.units) (pe_callTy (call_listK (K := Z.K)) rfl T.b_list (by decide +kernel) (pa_cons (pv 0) pa_nil)) (pv 1) (nomark _))))) (pss_one (ps_ret pe_bl)) pss_nil)
  (pss_one (ps_ret (pe_cmpR op_eq (pe_callB (call_lenK (K := Z.K)) rfl T.b_len (by decide +kernel) (pa_cons (pe_lc (own := [("_law_row", 2)]) rfl nd (pi_tupK (K := Z.K) (pv 0)) (blkOk_by (N := N_law_rows_are) (sc := defScope s_law_rows_are) (by decide +kernel)) (fun _ _ _ _ _ => (pg_name (i := 2) nd rfl (Or.inl rfl))) (fun _ _ _ _ _ => (pts_one (pt_not (pt_val (pe_callB (call_isiK (K := Z.K)) rfl T.b_isinstance (by decide +kernel) (pa_cons (pv 2) (pa_cons (pe_bltn rfl T.b_tuple (by decide +kernel) (show RelV (.ty "tuple") (.type "tuple") from rfl)) pa_nil))))))) (fun _ _ _ _ _ => (pv 2))) pa_nil)) pe_int (nomark _))))), ?_⟩
  show tSeq _ _ _ [some (.ref p), some (.ref q), none] H
  repeat walk_at "st"
  refine isi (.base (.tup hp)) (kit_ty (r := true) (by decide +kernel)) (w_bl ?_)
  refine iteF ?_
  repeat walk_at "st"
  refine ⟨p, _, rfl, .inr (SqT.of hp), fun w hw => ?_⟩
  have x1 : XT H (upd H w (.lst l1)) := XT.new hw
  have up : ∀ {pr l}, Rows H n pr l → Rows (upd H w (.lst l1)) n pr l := fun r => r.imp fun i v ⟨q, e, h⟩ => ⟨q, e, x1.tup h⟩
  repeat walk_at "st"
  refine w_neRefl (.lst (SqL.of upd_same) (dp_rows (up r1))) (.lst (SqL.of (x1.lst hq)) (dp_rows (up r2))) (shp_rows _ _) ?_
  repeat walk_at "st"
  refine iteF ?_
  repeat walk_at "st"
  refine ⟨p, rfl, ⟨_, SqT.of (x1.tup hp)⟩, fun D hD => ?_⟩
  refine lc_fil (walk_tup (K := Z.K) (a := p) (xs := l1)) (fun _ => false) (fun _ => .non) hD (Nat.lt_of_le_of_lt hl1 (by decide)) (fun H2 x2 => SqT.of ((x1.trans x2).tup hp)) (fun i x H2 H3 hi x2 hy K1 K0 hk1 hk0 => ?_) fun H2 x2 hh => ?_
  · obtain ⟨rfl, hx⟩ := hy
    obtain ⟨j, _, w2, rfl, hw2⟩ := r1.mem x (List.mem_of_getElem? hx)
    refine w_name (σ' := [some (.ref p), some (.ref q), some (.ref w2)]) rfl ⟨rfl, ?_⟩
    repeat walk_at "st"
    refine isi (.base (.tup ((x1.trans x2).tup hw2))) (kit_ty (r := true) (by decide +kernel)) (w_bl ?_)
    exact iteF (hk0 rfl _ XT.rfl')
  · rw [fil_none] at hh
    repeat walk_at "st"
    refine ⟨D, _, rfl, .inl (SqL.of hh), ?_⟩
    repeat walk_at "st"
    exact k H2 (x1.trans x2)
abbrev N_law_signed : List Str := ["_law_state", "_law_table", "_law_n", "_law_cells_here", "_law_sums", "_law_size", "_law_k", "_law_word_here", "_law_due", "_law_got", "_law_far", "_law_back", "_law_one"]
theorem S_law_signed : FnScope N_law_signed ["_law_state", "_law_table", "_law_n", "_law_cells_here", "_law_sums"] (defScope s_law_signed) := ⟨rfl, rfl, rfl, by decide +kernel, rfl, by decide +kernel, by decide +kernel⟩
theorem B_law_signed : Bnd "_law_signed" "_law_signed" s_law_signed ["_law_state", "_law_table", "_law_n", "_law_cells_here", "_law_sums"] := fun _ _ _ _ _ _ us hl => match us, hl with | [_, _, _, _, _], _ => rfl
abbrev p_law_signed (τ : Ta) (TC : Addr) : Sp := sp5 fun a b c' d e H Q _ => ∃ s c t cl sl n F, a = .ref s ∧ b = .ref t ∧ c' = .int (n : Nat) ∧ d = .ref cl ∧ e = .ref sl ∧ LawH τ TC H s c t cl sl n F ∧ ∀ H', XS s H H' → St H' s c → Q (.bl true) H'
theorem c_law_signed (T : Tx Z TC SC) {τ : Ta} {XU : Addr} (F : Fn Z "_law_signed" "_law_signed" s_law_signed) (c__law_numbers_are : Cl Z CX0 2 "_law_numbers_are" p_law_numbers_are) (c_signed_sums : Cl Z CX0 2 "signed_sums" (p_signed_sums TC)) (c__law_word : Cl Z CX0 2 "_law_word" p_law_word)
    (c__law_number : Cl Z CX0 1 "_law_number" p_bits_number) (c_signed_sum : Cl Z CX0 11 "signed_sum" (p_signed_sum TC τ.A τ.W τ.P)) (c_distance : Cl Z CX0 5 "distance" (p_distance TC τ.D)) (c_sum_table : Cl Z CX0 10 "sum_table" (p_sum_table TC τ.A τ.W τ.P τ.I))
    (c__law_integer : Cl Z CX0 1 "_law_integer" p_is_integer) (c_table_from : Cl Z (L2.CX Z.P Z.w) 10 "table_from" (p_table_from TC τ.I τ.F XU)) : Cl Z CX0 12 "_law_signed" (p_law_signed τ TC) := by
  refine F.cl S_law_signed B_law_signed len5 fun f cdv A outer sh H vs Q E hr h => ?_
  obtain ⟨_, _, _, _, _, rfl, s, c, t, cl, sl, n, F, rfl, rfl, rfl, rfl, rfl, L, k⟩ := h
  have nd := S_law_signed.nd
  have n1 := L.tb.n1
  have n6 := L.tb.n6
  have p6 := pow6 n6
  obtain ⟨q6, r6⟩ := pow6i n6
  refine ⟨_, (pss_cons (ps_set (i := 5) nd rfl (Or.inl rfl) (pe_callB (call_lenK (K := Z.K)) rfl T.b_len (by decide +kernel) (pa_cons (pv 3) pa_nil)))
  (pss_cons (ps_if (PW.pt (pw_or (pt_not (pt_val (pe_cl c__law_numbers_are (hr.mono (by decide)) rfl pass0 (pa_cons (pe_cl c_signed_sums (hr.mono (by decide)) rfl pass0 (pa_cons (pv 1) pa_nil)) (pa_cons (pv 4) pa_nil))))) (pw_or1 (pt_cmpR op_ne (pe_callB (cr_sumK (K := Z.K) rfl) rfl T.b_sum (by decide +kernel) (pa_cons (pe_lc (own := [("_law_one", 12)]) rfl nd (pi_tupK (K := Z.K) (pe_cl c_signed_sums (hr.mono (by decide)) rfl pass0 (pa_cons (pv 1) pa_nil))) (blkOk_by (N := N_law_signed) (sc := defScope s_law_signed) (by decide +kernel)) (fun _ _ _ _ _ => (pg_name (i := 12) nd rfl (Or.inl rfl))) (fun _ _ _ _ _ => pts_nil) (fun _ _ _ _ _ => (pe_op op_mul (pv 12) (pv 12)))) pa_nil)) (pe_op op_mul (pv 5) (pv 5)) (nomark _))))) (pss_one (ps_ret pe_bl)) pss_nil)
  (pss_cons (ps_for PassesOwn.never rfl (pi_range1 rfl T.b_range (pa_cons pe_int pa_nil)) (pg_name (i := 6) nd rfl (Or.inl rfl))
  (pss_cons (ps_set (i := 7) nd rfl (Or.inl rfl) (pe_cl c__law_word (hr.mono (by decide)) rfl pass0 (pa_cons (pv 0) (pa_cons (pv 2) pa_nil))))
  (pss_cons (ps_set (i := 8) nd rfl (Or.inl rfl) (pe_ix (ix_seqK (K := Z.K)) (pv 4) (pe_cl c__law_number (hr.mono (by decide)) rfl pass0 (pa_cons (pv 7) pa_nil)) (fun _ _ => rfl)))
  (pss_cons (ps_set (i := 9) nd rfl (Or.inl rfl) (pe_cl c_signed_sum (hr.mono (by decide)) rfl pass0 (pa_cons (pv 1) (pa_cons (pv 7) pa_nil))))
  (pss_cons (ps_set (i := 10) nd rfl (Or.inl rfl) (pe_cl c_distance (hr.mono (by decide)) rfl pass0 (pa_cons (pv 1) (pa_cons (pe_cl c_sum_table (hr.mono (by decide)) rfl pass0 (pa_cons (pv 7) pa_nil)) pa_nil))))
  (pss_one (ps_if (PW.pt (pw_or (pt_not (pt_val (pe_cl c__law_integer (hr.mono (by decide)) rfl pass0 (pa_cons (pv 9) pa_nil)))) (pw_or (pt_cmpR op_ne (pv 9) (pv 8) (nomark _)) (pw_or (pt_not (pt_val (pe_cl c__law_integer (hr.mono (by decide)) rfl pass0 (pa_cons (pv 10) pa_nil)))) (pw_or1 (pt_cmpR op_ne (pe_op op_mul pe_int (pv 10)) (pe_op op_sub (pv 5) (pv 8)) (nomark _))))))) (pss_one (ps_ret pe_bl)) pss_nil)))))))
  (pss_cons (ps_set (i := 11) nd rfl (Or.inl rfl) (pe_cl c_table_from (hr.mono (by decide)) rfl passL (pa_cons (pv 2) (pa_cons (pe_callTy (call_listK (K := Z.K)) rfl T.b_list (by decide +kernel) (pa_cons (pv 4) pa_nil)) pa_nil))))
  (pss_one (ps_ret (pe_and (pe_callB (call_isiK (K := Z.K)) rfl T.b_isinstance (by decide +kernel) (pa_cons (pv 11) (pa_cons (pe_glob rfl T.m_Table (show RelV (.ref _) (.ref _) from rfl)) pa_nil))) (pe_and (pe_cmpR (op_eqDK (K := Z.K) hr.units) (pe_callTy (call_listK (K := Z.K)) rfl T.b_list (by decide +kernel) (pa_cons (pe_fldK (K := Z.K) (pv 11) rfl) pa_nil)) (pv 3) (nomark _)) (pe_one (pe_cmpR op_eq (pe_fldK (K := Z.K) (pv 11) rfl) (pv 2) (nomark _))))))))))), ?_⟩
  show tSeq _ _ _ [some (.ref s), some (.ref t), some (.int n), some (.ref cl), some (.ref sl), none, none, none, none, none, none, none, none] H
  repeat walk_at "st"
  refine ⟨cl, _, rfl, .inl (SqL.of L.hc), ?_⟩
  rw [iv_len]
  repeat walk_at "st"
  refine ⟨t, n, F, rfl, L.tb, fun H1 p hp x1 h1 => ?_⟩
  have L1 := L.grow x1
  repeat walk_at "st"
  refine ⟨p, sl, n, _, rfl, rfl, n6, h1, L1.hs, fun H2 x2 => ?_⟩
  have L2' := L1.grow x2
  repeat walk_at "st"
  refine iteF ?_
  repeat walk_at "st"
  refine ⟨t, n, F, rfl, L2'.tb, fun H3 p3 hp3 x3 h3 => ?_⟩
  have L3 := L2'.grow x3
  refine ⟨p3, rfl, ⟨_, SqT.of h3⟩, fun D hD => ?_⟩
  refine lc_map (walk_tup (K := Z.K) (a := p3) (xs := iv n (Wf n F))) (fun a => .int (Wf n F a * Wf n F a)) hD (by rw [iv_len]; exact Nat.lt_of_le_of_lt p6 (by decide)) (fun H4 x4 => SqT.of (x4.tup h3)) (fun i y H4 H5 hi x4 hy K1 hk => ?_) fun H4 x4 hh => ?_
  · obtain ⟨rfl, hx⟩ := hy
    rw [iv_len] at hi
    rw [M.tab_get hi] at hx
    cases hx
    refine w_name (σ' := [some (.ref s), some (.ref t), some (.int n), some (.ref cl), some (.ref sl), some (.int ((2 ^ n : Nat) : Int)), none, none, none, none, none, none, some (.int (Wf n F i))]) rfl ⟨rfl, ?_⟩
    repeat walk_at "st"
    refine w_I (.inl ?_) ?_
    · have := Wf_b n6 F i; omega
    · exact hk _ XT.rfl'
  · have L4 := L3.grow x4
    rw [iv_len] at hh
    repeat walk_at "st"
    refine ⟨D, M.tab n fun a => Wf n F a * Wf n F a, rfl, SqL.of (by rw [hh]; simp [M.tab]), ?_⟩
    have e1 : (M.tab n fun a => Wf n F a * Wf n F a).sum = ((2 ^ n : Nat) : Int) * ((2 ^ n : Nat) : Int) := by
      unfold M.tab
      rw [← M.S_list]
      have := M.sq_sum n F
      rw [show ((2 ^ n : Nat) : Int) = (2 : Int) ^ n from by simp]
      exact this
    rw [e1]
    repeat walk_at "st"
    refine w_I (.inl ⟨by omega, by omega⟩) ?_
    repeat walk_at "st"
    rw [decide_eq_true rfl]
    refine iteF ?_
    repeat walk_at "st"
    refine ⟨_, rfl, by decide, by decide, ?_⟩
    have x04 := (x1.trans x2).trans (x3.trans x4)
    refine for_lit (n := 3) walk_rng (fun i σ H2 => XS s H H2 ∧ St H2 s c ∧ ∃ z1 z2 z3 z4 z5, σ = [some (.ref s), some (.ref t), some (.int n), some (.ref cl), some (.ref sl), some (.int ((2 ^ n : Nat) : Int)), z1, z2, z3, z4, z5, none, none]) ⟨x04.xs, L4.st, none, none, none, none, none, rfl⟩ (fun _ _ _ _ _ => trivial) ?_ ?_
    · rintro i v σ H5 H6 hi ⟨x5, S5, z1, z2, z3, z4, z5, rfl⟩ ⟨rfl, rfl⟩
      have L5 := L.ext x5 S5
      refine w_name (σ' := [some (.ref s), some (.ref t), some (.int n), some (.ref cl), some (.ref sl), some (.int ((2 ^ n : Nat) : Int)), some (.int (i : Nat)), z2, z3, z4, z5, none, none]) rfl ?_
      repeat walk_at "st"
      refine ⟨s, c, n, rfl, rfl, by omega, S5, fun H7 w a hw x7 S7 ha hwo => ?_⟩
      have L7 := L5.ext x7 S7
      repeat walk_at "st"
      refine ⟨w, _, rfl, hwo, ?_⟩
      rw [num_of ha]
      refine w_ixl (SqL.of L7.hs) (iv_at ha) ?_
      repeat walk_at "st"
      refine ⟨t, w, n, F, a, rfl, rfl, L7.tb, hwo, L7.al.a, L7.al.w, L7.al.p, fun H8 x8 => ?_⟩
      have L8 := L7.grow x8
      repeat walk_at "st"
      refine ⟨w, n, a, rfl, x8.tup hwo, n1, n6, L8.al.a, L8.al.w, L8.al.p, L8.al.i, fun H9 t2 x9 h9 => ?_⟩
      have L9 := L8.grow x9
      repeat walk_at "st"
      refine ⟨t, t2, n, F, _, rfl, rfl, L9.tb, h9, L9.al.d, fun H10 x10 => ?_⟩
      have L10 := L9.grow x10
      repeat walk_at "st"
      refine ⟨trivial, ?_⟩
      repeat walk_at "st"
      refine iteF ?_
      repeat walk_at "st"
      rw [decide_eq_true rfl]
      refine iteF ?_
      repeat walk_at "st"
      refine ⟨trivial, ?_⟩
      repeat walk_at "st"
      refine iteF ?_
      repeat walk_at "st"
      refine w_I (.inl (by decide)) ?_
      repeat walk_at "st"
      have e2 := M.dist_eq n F a
      rw [decide_eq_true (by rw [e2]; simp)]
      refine iteF ?_
      repeat walk_at "st"
      exact ⟨(x5.trans x7).trans ((x8.trans x9).trans x10).xs, L10.st, _, _, _, _, _, rfl⟩
    · rintro σ H5 ⟨x5, S5, z1, z2, z3, z4, z5, rfl⟩
      have L5 := L.ext x5 S5
      repeat walk_at "st"
      refine ⟨sl, _, rfl, .inl (SqL.of L5.hs), fun l hl => ?_⟩
      have L6 := L5.grow (XT.new (o := .lst (iv n (Wf n F))) hl)
      repeat walk_at "st"
      have gT : ∀ a, a < 2 ^ n → M.T n (Wf n F) a = ((2 ^ n : Nat) : Int) * fs F a := fun a ha => by
        rw [M.T_W ha, M.W_W ha]; simp
      refine ⟨n, l, _, rfl, rfl, n1, n6, upd_same, fun v hv => ?_, by rw [iv_len]; omega, L6.al.i, L6.al.f, fun g e hg H7 t2 x7 h7 => ?_, fun hb => ?_⟩
      · obtain ⟨x, _, rfl⟩ := List.mem_map.mp hv
        trivial
      · obtain ⟨⟨dx, q, ha, hb⟩, _, _⟩ := h7
        have L7 := L6.grow x7
        repeat walk_at "st"
        refine isC (T.iT ha) T.kTT (w_bl ?_)
        refine iteT ?_
        repeat walk_at "st"
        refine rT_b T ha ?_
        repeat walk_at "st"
        refine ⟨q, _, rfl, .inr (SqT.of hb), fun w hw => ?_⟩
        have L8 := L7.grow (XT.new (o := .lst (cells n fun a => decide (M.T n g a < 0))) hw)
        repeat walk_at "st"
        have eF : cells n (fun a => decide (M.T n g a < 0)) = cells n F := iv_congr fun x hx => by
          have e3 : M.T n g x = M.T n (Wf n F) x := by
            rw [M.T_W hx, M.T_W hx]
            exact M.W_congr fun y hy => by
              have e4 := congrArg (fun l => l[y]?) e
              simp only [M.tab_get hy] at e4
              exact (V.int.inj (Option.some.inj e4)).symm
          show M.b2 (decide (M.T n g x < 0)) = M.b2 (F x)
          rw [e3, gT x hx]
          unfold fs M.sg
          congr 1
          cases F x with
          | false => rw [if_neg (by decide)]; exact decide_eq_false (by omega)
          | true => rw [if_pos rfl]; exact decide_eq_true (by omega)
        refine w_eqRefl (dp_iv (n := n) (g := fun a => M.b2 (F a)) (by rw [upd_same]; exact congrArg (fun l => some (HO.lst l)) eF)) (dp_iv L8.hc) (shp_lst _) ?_
        refine w_bl (iteT ?_)
        repeat walk_at "st"
        refine rT_n T ((XT.new hw).ins ha) ?_
        repeat walk_at "st"
        rw [decide_eq_true rfl]
        exact k _ (x5.trans (((XT.new hl).trans x7).add hw).xs) L8.st
      · exfalso
        refine hb _ rfl fun a ha => ?_
        rw [gT a ha]
        rcases fs_1 F a with e | e <;> rw [e]
        · left; omega
        · right; omega
end
end Q
set_option Elab.async false
set_option linter.all false
set_option maxRecDepth 100000
set_option maxHeartbeats 1000000
namespace Q
open PySem PySem.Spec PyProof.Rows L2
theorem pe_clS {X : Cx} {CX : CXT} {k : Nat} {sp : Sp} {E : L2.St → XK} {x : Str} {p pos : Pos} {e : Expr} {es : List Expr} {t : TA}
    (c : Cl ⟨X.prog, X.w, X.K, X.mg, X.base⟩ CX k x sp) (hr : Room k X.A) (hg : Gl X x) (hx : ∀ σ, PassesAt CX X σ (E σ)) (ha : PA X (e :: es) t)
    (hd : (x == Str.ofString "__debug__") = false := by rfl) (he : starEach (e :: es) X.env = (false, eval e X.env) :: starEach es X.env := by rfl) (hn : ((backTo pos (starEach es X.env)).any fun x => x.fst) = false := by rfl) :
    PE X (.Call (.Name x p) (e :: es) [] pos) (tCallS sp E t) := by
  obtain ⟨f, fd, ps, F, m, kp, b⟩ := c
  exact pe_callS F hr hg m kp b hx ha hd he hn
theorem passLA {X : Cx} : ∀ σ : L2.St, PassesAt (L2.CX X.prog X.w) X σ E0 := fun σ pins H s e s' I h => passL pins σ H s e s' I h
section
variable {σ : L2.St} {H : Hp} {Qe : VK}
theorem w_callS {sp : Sp} {E : L2.St → XK} {t : TA} (k : t σ H fun vs H1 => sp (vs ++ []) H1 Qe (E σ)) : tCallS sp E t σ H Qe := by
  have e : (fun (vs : List V) (H1 : Hp) => sp (vs ++ []) H1 Qe (E σ)) = fun vs H1 => sp vs H1 Qe (E σ) := by funext vs H1; rw [List.append_nil]
  rw [e] at k; exact k
theorem w_callNS {n m : Nat} {sp : Sp} {gV : List V → List V → List V} {E : L2.St → XK} {t tk : TA} (k : t σ H fun vs H1 => tk σ H1 fun zs H2 => vs.length = n ∧ zs.length = m ∧ sp (gV vs zs) H2 Qe (E σ)) : tCallNS n m sp gV E t tk σ H Qe := k
theorem w_callD {sp : Sp} {dvs : List V} {E : XK} {t : TA} (k : t σ H fun vs H1 => sp (vs ++ dvs) H1 Qe E) : tCall sp dvs E t σ H Qe := k
theorem w_2d {f : V → V → Hp → VK → XK → Prop} {a b : V} {E : XK} (k : f a b H Qe E) : sp2 f ([a] ++ [b]) H Qe E := ⟨a, b, rfl, k⟩
theorem w_xf {a C : Addr} {cls : Value} {d : Option Addr} {f : Str} {te : TE} (k : te σ H fun x H1 => x = .ref a ∧ cls = .ref C ∧ ∃ dd fs v, d = some dd ∧ H1 dd = some (.xd fs) ∧ List.lookup f fs = some v ∧ Qe v H1) : tXf a cls d C f te σ H Qe := k
end
local macro_rules | `(tactic| walk_at "st") => `(tactic| first
  | with_reducible refine w_seq ?_ | with_reducible refine w_next ?_ | with_reducible refine w_ret ?_ | with_reducible refine w_ifs ?_ | with_reducible refine w_asg ?_ | with_reducible refine w_drop ?_
  | with_reducible refine w_name (by simp only [List.set_cons_zero, List.set_cons_succ]; rfl) ?_
  | with_reducible refine w_var (by with_unfolding_all rfl) ?_
  | with_reducible refine w_c ?_ | with_reducible refine w_op ?_ | with_reducible refine w_un ?_ | with_reducible refine w_cons ?_ | with_reducible refine w_nil ?_ | with_reducible refine w_cb ?_ | with_reducible refine w_call ?_
  | with_reducible refine w_and ?_ | with_reducible refine w_or ?_ | with_reducible refine w_not ?_ | with_reducible refine w_tb ?_ | with_reducible refine w_tt ?_ | with_reducible refine w_bl ?_
  | with_reducible refine w_tand ?_ | with_reducible refine w_tor ?_ | with_reducible refine w_tnot ?_ | with_reducible refine w_yes ?_ | with_reducible refine w_chain ?_
  | with_reducible refine w_I0 ?_ | with_reducible refine w_eqI ?_ | with_reducible refine w_neI ?_ | with_reducible refine w_eqB ?_ | with_reducible refine w_neB ?_
  | with_reducible refine w_fl ?_ | with_reducible refine w_rng ?_ | with_reducible refine w_lst ?_ | with_reducible refine w_tup ?_
  | with_reducible refine w_sfld ?_ | with_reducible refine w_tmk ?_ | with_reducible refine w_gsub ?_ | with_reducible refine w_for ?_ | with_reducible refine w_tlc ?_ | with_reducible refine w_gx ?_ | with_reducible refine w_itup ?_ | with_reducible refine w_ilst ?_ | with_reducible refine w_izp ?_
  | with_reducible refine w_sl ?_ | with_reducible refine w_part ?_ | with_reducible refine w_pint ?_ | with_reducible refine w_nopart ?_
  | with_reducible refine w_rz ?_ | with_reducible refine w_callS ?_ | with_reducible refine w_callNS ?_ | with_reducible refine w_callD ?_ | with_reducible refine w_2d ?_ | with_reducible refine w_par ?_
  | with_reducible refine w_1 ?_ | with_reducible refine w_2 ?_ | with_reducible refine w_3 ?_ | with_reducible refine w_4 ?_ | with_reducible refine w_5 ?_)
section
variable {Z : Wd} {TC SC : Addr}
abbrev N_law_no_share : List Str := ["_law_table", "_law_value", "e"]
theorem S_law_no_share : FnScope N_law_no_share ["_law_table", "_law_value"] (defScope s_law_no_share) := ⟨rfl, rfl, rfl, by decide +kernel, rfl, by decide +kernel, by decide +kernel⟩
theorem B_law_no_share : Bnd "_law_no_share" "_law_no_share" s_law_no_share ["_law_table", "_law_value"] := fun _ _ _ _ _ _ us hl => match us, hl with | [_, _], _ => rfl
abbrev NoSh (SC : Addr) (H : Hp) (v : V) : Prop := v = .non ∨ (∃ i, v = .int i) ∨ (∃ (p : Addr) (k : List Int), v = .ref p ∧ H p = some (.tup (k.map V.int))) ∨ ∃ p o u, v = .ref p ∧ Shr SC H p o u ∧ (o ≤ 0 ∨ o > u)
abbrev p_law_no_share (TC SC : Addr) : Sp := sp2 fun a b H Q _ => ∃ t n F, a = .ref t ∧ Tbl TC H t n F ∧ NoSh SC H b ∧ ∀ H', XT H H' → Q (.bl true) H'
theorem c_law_no_share (T : Tx Z TC SC) {TW TN XS' XN : Addr} (F : Fn Z "_law_no_share" "_law_no_share" s_law_no_share) (c_near_sums : Cl Z (L2.CX Z.P Z.w) 10 "near_sums" (p_near_sums TC SC TW TN XS')) (x_InvalidShare : XCls Z XS' "InvalidShare" "value") (x_InvalidNumber : XCls Z XN "InvalidNumber" "value") (kSN : W.kitOne Z.K (.ref XS') (.ref XN) = some false) (F_eq : MEq Z SC) :
    Cl Z CX0 11 "_law_no_share" (p_law_no_share TC SC) := by
  refine F.cl S_law_no_share B_law_no_share len2 fun f cdv A outer sh H vs Q E hr h => ?_
  obtain ⟨_, b, rfl, t, n, F, rfl, tb, hb, k⟩ := h
  have nd := S_law_no_share.nd
  refine ⟨_, (pss_cons (ps_try_as (i := 2) rfl rfl nd rfl rfl ⟨rfl, by decide, .inl x_InvalidShare.m⟩ takes0 (fun W pn xe tk _ => (pss_one (ps_expr (pe_clS c_near_sums (hr.mono (by decide)) rfl (fun σ => passAt tk σ) (pa_cons (pv 0) (pa_cons (pv 1) pa_nil))))))
  (fun a oe cls d pn hz hf => (pss_one (ps_ret (pe_and (pe_callB (call_isX (K := Z.K) hz hf) rfl T.b_isinstance (by decide +kernel) (pa_cons (pv 2) (pa_cons (pe_bltn rfl T.b_ValueError (by decide +kernel) (show RelV (.ty "ValueError") (.type "ValueError") from rfl)) pa_nil))) (pe_and (pe_not (pe_callB (call_isX (K := Z.K) hz hf) rfl T.b_isinstance (by decide +kernel) (pa_cons (pv 2) (pa_cons (pe_glob rfl x_InvalidNumber.m (show RelV (.ref _) (.ref _) from rfl)) pa_nil)))) (pe_one (pe_cmpR (OpR.or (op_eqDK (K := Z.K) hr.units) (op_eqS T F_eq (hr.mono (by decide)))) (pe_xf x_InvalidShare.xf x_InvalidShare.no hz hf (pv 2)) (pv 1) (nomark _)))))))))
  (pss_one (ps_ret pe_bl))), ?_⟩
  show tSeq _ _ _ [some (.ref t), some b, none] H
  repeat walk_at "st"
  refine ⟨t, n, F, rfl, tb, .inr ⟨?_, fun H1 d x1 hd => ?_⟩⟩
  · rcases hb with h | h | ⟨p, k, h, h2⟩ | h
    · exact .inl h
    · exact .inr (.inl h)
    · exact .inr (.inr (.inl ⟨p, _, h, h2⟩))
    · exact .inr (.inr (.inr h))
  · refine ⟨true, x_InvalidShare.me, fun _ a ha => ?_, fun q => nomatch q⟩
    show tRet _ _ [some (.ref t), some b, some (.ref a)] H1
    repeat walk_at "st"
    refine ⟨_, _, _, _, _, true, rfl, rfl, hd, x_InvalidShare.ec, rfl, fun u h => h, x_InvalidShare.ve, w_bl (iteT ?_)⟩
    repeat walk_at "st"
    refine ⟨_, _, _, _, _, false, rfl, rfl, hd, x_InvalidShare.ec, rfl, fun u h => h, kSN, w_bl (w_bl (iteT ?_))⟩
    repeat walk_at "st"
    refine w_xf ?_
    repeat walk_at "st"
    refine ⟨rfl, rfl, d, _, b, rfl, hd, by rfl, ?_⟩
    repeat walk_at "st"
    rcases hb with rfl | ⟨i, rfl⟩ | ⟨p, l, rfl, hp⟩ | ⟨p, o, u, rfl, hp, _⟩
    · exact .inl (w_eqRefl .non .non (by rfl) (k H1 x1))
    · exact .inl (w_eqRefl (.int i) (.int i) (by rfl) (k H1 x1))
    · exact .inl (w_eqRefl (.tup (SqT.of (x1.tup hp)) (dp_ints l)) (.tup (SqT.of (x1.tup hp)) (dp_ints l)) (shp_tup l) (k H1 x1))
    · exact .inr ⟨p, o, u, rfl, rfl, hp.ext x1, k H1 x1⟩
abbrev N_law_no_many : List Str := ["_law_table", "_law_value", "e"]
theorem S_law_no_many : FnScope N_law_no_many ["_law_table", "_law_value"] (defScope s_law_no_many) := ⟨rfl, rfl, rfl, by decide +kernel, rfl, by decide +kernel, by decide +kernel⟩
theorem B_law_no_many : Bnd "_law_no_many" "_law_no_many" s_law_no_many ["_law_table", "_law_value"] := fun _ _ _ _ _ _ us hl => match us, hl with | [_, _], _ => rfl
abbrev p_law_no_many (TC : Addr) : Sp := sp2 fun a b H Q _ => ∃ t n F, a = .ref t ∧ Tbl TC H t n F ∧ scal b b = true ∧ Nice H b ∧ btw b 1 6 = false ∧ ∀ H', XT H H' → Q (.bl true) H'
theorem c_law_no_many (T : Tx Z TC SC) {TQ XU XN : Addr} (F : Fn Z "_law_no_many" "_law_no_many" s_law_no_many) (c_passing_share : Ck Z (L2.CX Z.P Z.w) 7 "passing_share" (p_passing_share TC SC TQ XN)) (x_Undefined : XCls Z XU "Undefined" "what") (x_InvalidNumber : XCls Z XN "InvalidNumber" "value") (kNU : W.kitOne Z.K (.ref XN) (.ref XU) = some false) :
    Cl Z CX0 8 "_law_no_many" (p_law_no_many TC) := by
  refine F.cl S_law_no_many B_law_no_many len2 fun f cdv A outer sh H vs Q E hr h => ?_
  obtain ⟨_, b, rfl, t, n, F, rfl, tb, hs, hn, hb, k⟩ := h
  have nd := S_law_no_many.nd
  refine ⟨_, (pss_cons (ps_try_as (i := 2) rfl rfl nd rfl rfl ⟨rfl, by decide, .inl x_InvalidNumber.m⟩ takes0 (fun W pn xe tk _ => (pss_one (ps_expr (pe_ckK c_passing_share (hr.mono (by decide)) rfl (fun σ => passAt tk σ) (pa_cons (pv 0) pa_nil) (pk_cons (pv 1) pk_nil)))))
  (fun a oe cls d pn hz hf => (pss_one (ps_ret (pe_and (pe_callB (call_isX (K := Z.K) hz hf) rfl T.b_isinstance (by decide +kernel) (pa_cons (pv 2) (pa_cons (pe_bltn rfl T.b_ValueError (by decide +kernel) (show RelV (.ty "ValueError") (.type "ValueError") from rfl)) pa_nil))) (pe_and (pe_not (pe_callB (call_isX (K := Z.K) hz hf) rfl T.b_isinstance (by decide +kernel) (pa_cons (pv 2) (pa_cons (pe_glob rfl x_Undefined.m (show RelV (.ref _) (.ref _) from rfl)) pa_nil)))) (pe_one (pe_cmpR op_eq (pe_xf x_InvalidNumber.xf x_InvalidNumber.no hz hf (pv 2)) (pv 1) (nomark _)))))))))
  (pss_one (ps_ret pe_bl))), ?_⟩
  show tSeq _ _ _ [some (.ref t), some b, none] H
  repeat walk_at "st"
  refine ⟨rfl, rfl, ⟨_, _, rfl, t, n, F, rfl, tb, .inr ⟨hn, hb, fun H1 d x1 hd => ?_⟩⟩⟩
  refine ⟨true, x_InvalidNumber.me, fun _ a ha => ?_, fun q => nomatch q⟩
  show tRet _ _ [some (.ref t), some b, some (.ref a)] H1
  repeat walk_at "st"
  refine ⟨_, _, _, _, _, true, rfl, rfl, hd, x_InvalidNumber.ec, rfl, fun u h => h, x_InvalidNumber.ve, w_bl (iteT ?_)⟩
  repeat walk_at "st"
  refine ⟨_, _, _, _, _, false, rfl, rfl, hd, x_InvalidNumber.ec, rfl, fun u h => h, kNU, w_bl (w_bl (iteT ?_))⟩
  repeat walk_at "st"
  refine w_xf ?_
  repeat walk_at "st"
  refine ⟨rfl, rfl, d, _, b, rfl, hd, by rfl, ?_⟩
  repeat walk_at "st"
  refine ⟨hs, ?_⟩
  rw [decide_eq_true rfl]
  exact k H1 x1
end
end Q
set_option Elab.async false
set_option linter.all false
set_option maxRecDepth 100000
set_option maxHeartbeats 1000000
namespace Q
open PySem PySem.Spec PyProof.Rows L2
local macro_rules | `(tactic| walk_at "st") => `(tactic| first
  | with_reducible refine w_seq ?_ | with_reducible refine w_next ?_ | with_reducible refine w_ret ?_ | with_reducible refine w_ifs ?_ | with_reducible refine w_asg ?_ | with_reducible refine w_drop ?_
  | with_reducible refine w_name (by simp only [List.set_cons_zero, List.set_cons_succ]; rfl) ?_
  | with_reducible refine w_var (by with_unfolding_all rfl) ?_
  | with_reducible refine w_c ?_ | with_reducible refine w_op ?_ | with_reducible refine w_un ?_ | with_reducible refine w_cons ?_ | with_reducible refine w_nil ?_ | with_reducible refine w_cb ?_ | with_reducible refine w_call ?_
  | with_reducible refine w_and ?_ | with_reducible refine w_or ?_ | with_reducible refine w_not ?_ | with_reducible refine w_tb ?_ | with_reducible refine w_tt ?_ | with_reducible refine w_bl ?_
  | with_reducible refine w_tand ?_ | with_reducible refine w_tor ?_ | with_reducible refine w_tnot ?_ | with_reducible refine w_yes ?_ | with_reducible refine w_chain ?_
  | with_reducible refine w_I0 ?_ | with_reducible refine w_eqI ?_ | with_reducible refine w_neI ?_ | with_reducible refine w_eqB ?_ | with_reducible refine w_neB ?_
  | with_reducible refine w_fl ?_ | with_reducible refine w_rng ?_ | with_reducible refine w_lst ?_ | with_reducible refine w_tup ?_
  | with_reducible refine w_sfld ?_ | with_reducible refine w_tmk ?_ | with_reducible refine w_gsub ?_ | with_reducible refine w_for ?_ | with_reducible refine w_tlc ?_ | with_reducible refine w_gx ?_ | with_reducible refine w_itup ?_ | with_reducible refine w_ilst ?_ | with_reducible refine w_izp ?_
  | with_reducible refine w_sl ?_ | with_reducible refine w_part ?_ | with_reducible refine w_pint ?_ | with_reducible refine w_nopart ?_
  | with_reducible refine w_rz ?_ | with_reducible refine w_callS ?_ | with_reducible refine w_callNS ?_ | with_reducible refine w_callD ?_ | with_reducible refine w_2d ?_ | with_reducible refine w_par ?_
  | with_reducible refine w_1 ?_ | with_reducible refine w_2 ?_ | with_reducible refine w_3 ?_ | with_reducible refine w_4 ?_ | with_reducible refine w_5 ?_)
theorem Nice.upd {H : Hp} {l : Addr} {xs : List V} {v : V} (h : Nice H v) : Nice (L2.upd H l (.lst xs)) v := by
  cases v with
  | ref a =>
    by_cases e : a = l
    · subst e; exact .inl ⟨xs, upd_same⟩
    · rcases h with ⟨ys, h⟩ | ⟨ys, h⟩
      · exact .inl ⟨ys, by rw [upd_ne e]; exact h⟩
      · exact .inr ⟨ys, by rw [upd_ne e]; exact h⟩
  | _ => exact h
theorem Nice.xs {s c : Addr} {H H' : Hp} {v : V} (h : Nice H v) (x : XS s H H') (S : St H' s c) : Nice H' v := by
  cases v with
  | ref a =>
    by_cases e : a = s
    · subst e
      obtain ⟨l, hl⟩ := S.lst
      exact .inl ⟨l, hl⟩
    · rcases h with ⟨ys, h⟩ | ⟨ys, h⟩
      · exact .inl ⟨ys, x.lst e h⟩
      · exact .inr ⟨ys, x.keep _ _ e h fun t z => by cases z⟩
  | _ => exact h
theorem nice_iv {H : Hp} {n : Nat} {g : Nat → Int} : ∀ v ∈ iv n g, Nice H v := fun v hv => by
  obtain ⟨x, _, rfl⟩ := List.mem_map.mp hv
  trivial
theorem nice_set {H : Hp} {xs : List V} {i : Nat} {v : V} (h : ∀ v ∈ xs, Nice H v) (hv : Nice H v) : ∀ u ∈ xs.set i v, Nice H u := fun u hu => by
  rcases List.mem_or_eq_of_mem_set hu with hu | rfl
  · exact h u hu
  · exact hv
theorem cutV_mem {xs : List V} {lo hi : Option Int} {v : V} (h : v ∈ cutV xs lo hi) : v ∈ xs := List.mem_of_mem_drop (List.mem_of_mem_take h)
theorem w_slL {K : W.Frag} {a : Addr} {xs : List V} {lo hi : Option Int} {H : Hp} {Qe : VK} (h : H a = some (.lst xs)) (k : ∀ q, H q = none → Qe (.ref q) (upd H q (.lst (cutV xs lo hi)))) : rSlL K (.ref a) lo hi H Qe := ⟨a, xs, rfl, SqL.of h, k⟩
theorem w_cat {l b : Addr} {xs zs : List V} {H : Hp} {Qe : VK} (h1 : H l = some (.lst xs)) (h2 : H b = some (.lst zs)) (hl : xs.length + zs.length ≤ 1000) (k : ∀ p, H p = none → Qe (.ref p) (upd H p (.lst (xs ++ zs)))) : rCat (.ref l) (.ref b) H Qe :=
  ⟨l, b, xs, zs, rfl, rfl, h1, h2, Nat.le_trans hl (by decide), k⟩
theorem w_eqS {a b : Str} {H : Hp} {Qe : VK} (k : Qe (.bl (decide (V.str a = V.str b))) H) : rEq (.str a) (.str b) H Qe := ⟨rfl, k⟩
theorem w_neS {a b : Str} {H : Hp} {Qe : VK} (k : Qe (.bl (!decide (V.str a = V.str b))) H) : rNe (.str a) (.str b) H Qe := ⟨rfl, k⟩
theorem iv_inj {n : Nat} {g h : Nat → Int} (e : iv n g = iv n h) : ∀ x, x < 2 ^ n → g x = h x := fun x hx => by
  have e2 := congrArg (fun l => l[x]?) e
  simp only [M.tab_get hx] at e2
  exact V.int.inj (Option.some.inj e2)
theorem T_inj {n : Nat} {g h : Nat → Int} (e : iv n g = iv n h) : ∀ x, x < 2 ^ n → M.T n g x = M.T n h x := fun x hx => by
  rw [M.T_W hx, M.T_W hx]
  exact M.W_congr fun y hy => iv_inj e y hy
theorem not_all {α : Type} {p : α → Prop} {l : List α} (h : ¬ ∀ v ∈ l, p v) : ∃ v, v ∈ l ∧ ¬ p v := Classical.byContradiction fun hc => h fun v hv => Classical.byContradiction fun hn => hc ⟨v, hv, hn⟩
section
variable {Z : Wd} {TC SC : Addr}
abbrev N_law_from : List Str := ["_law_state", "_law_n", "_law_sums", "_law_made", "_law_kind", "_law_at", "_law_good", "_law_bits_here", "_law_got", "e", "_law_one"]
theorem S_law_from : FnScope N_law_from ["_law_state", "_law_n", "_law_sums"] (defScope s_law_from) := ⟨rfl, rfl, rfl, by decide +kernel, rfl, by decide +kernel, by decide +kernel⟩
theorem B_law_from : Bnd "_law_from" "_law_from" s_law_from ["_law_state", "_law_n", "_law_sums"] := fun _ _ _ _ _ _ us hl => match us, hl with | [_, _, _], _ => rfl
abbrev p_law_from (τ : Ta) : Sp := sp3 fun a b d H Q _ => ∃ s c sl n F, a = .ref s ∧ b = .int (n : Nat) ∧ d = .ref sl ∧ St H s c ∧ H sl = some (.lst (iv n (Wf n F))) ∧ sl ≠ s ∧ 1 ≤ n ∧ n ≤ 6 ∧ AllT τ H ∧ ∀ H', XS s H H' → St H' s c → Q (.bl true) H'
theorem c_law_from (T : Tx Z TC SC) {τ : Ta} {XU XN XT' : Addr} (F : Fn Z "_law_from" "_law_from" s_law_from) (c__law_draw : Cl Z CX0 1 "_law_draw" p_law_draw) (c__law_odd : Cl Z CX0 3 "_law_odd" p_law_odd) (c__law_integer : Cl Z CX0 1 "_law_integer" p_is_integer)
    (c__law_halves : Cl Z CX0 1 "_law_halves" p_law_halves) (c_table_from : Cl Z (L2.CX Z.P Z.w) 10 "table_from" (p_table_from TC τ.I τ.F XU)) (x_Undefined : XCls Z XU "Undefined" "what") (x_InvalidNumber : XCls Z XN "InvalidNumber" "value") (m_InvalidTable : Z.mg "InvalidTable" = some (.ref XT'))
    (kU : W.kitAny Z.K (.ref XU) [.ref XT', .ref XN] = some false) : Cl Z CX0 11 "_law_from" (p_law_from τ) := by
  refine F.cl S_law_from B_law_from len3 fun f cdv A outer sh H vs Q E hr h => ?_
  obtain ⟨_, _, _, rfl, s, c, sl, n, F, rfl, rfl, rfl, S, hsl, nsl, n1, n6, al, k⟩ := h
  have nd := S_law_from.nd
  have p6 := pow6 n6
  obtain ⟨q6, r6⟩ := pow6i n6
  refine ⟨_, (pss_cons (ps_set (i := 3) nd rfl (Or.inl rfl) (pe_callTy (call_listK (K := Z.K)) rfl T.b_list (by decide +kernel) (pa_cons (pv 2) pa_nil)))
  (pss_cons (ps_set (i := 4) nd rfl (Or.inl rfl) (pe_cl c__law_draw (hr.mono (by decide)) rfl pass0 (pa_cons (pv 0) (pa_cons pe_int pa_nil))))
  (pss_cons (ps_set (i := 5) nd rfl (Or.inl rfl) (pe_cl c__law_draw (hr.mono (by decide)) rfl pass0 (pa_cons (pv 0) (pa_cons (pe_callB (call_lenK (K := Z.K)) rfl T.b_len (by decide +kernel) (pa_cons (pv 3) pa_nil)) pa_nil))))
  (Evl.pss_cut (ps_if (pt_cmpR op_eq (pv 4) pe_int (nomark _)) (pss_one (ps_asg (pe_op op_add (pe_ix (ix_seqK (K := Z.K)) (pv 3) (pv 5) (fun _ _ => rfl)) pe_int) (pg_sub (pv 3) (pv 5) set_list))) (pss_one (ps_if (pt_cmpR op_eq (pv 4) pe_int (nomark _)) (pss_one (ps_asg (pe_op op_sub pe_int (pe_ix (ix_seqK (K := Z.K)) (pv 3) (pv 5) (fun _ _ => rfl))) (pg_sub (pv 3) (pv 5) set_list))) (pss_one (ps_if (pt_cmpR op_eq (pv 4) pe_int (nomark _)) (pss_one (ps_set (i := 3) nd rfl (Or.inl rfl) (pe_op op_cat (pe_slice (sl_listK (K := Z.K)) (pv 3) po_none (po_some (pv 5))) (pe_slice (sl_listK (K := Z.K)) (pv 3) (po_some (pe_op op_add (pv 5) pe_int)) po_none)))) (pss_one (ps_if (pt_cmpR op_eq (pv 4) pe_int (nomark _)) (pss_one (ps_setLc (i := 3) (own := [("_law_one", 10)]) rfl nd rfl rfl (sw_true rfl rfl rfl (by decide +kernel))  (pi_listK (K := Z.K) (pv 3)) (blkOk_by (N := N_law_from) (sc := defScope s_law_from) (by decide +kernel)) (fun _ _ _ _ _ => (pg_name (i := 10) nd rfl (Or.inl rfl))) (fun _ _ _ _ _ => pts_nil) (fun _ _ _ _ _ => (pe_op op_sub pe_int (pv 10))))) (pss_one (ps_asg (pe_cl c__law_odd (hr.mono (by decide)) rfl pass0 (pa_cons (pv 0) pa_nil)) (pg_sub (pv 3) (pv 5) set_list))))))))))
  (Evl.pss_cut (ps_set (i := 6) nd rfl (Or.inl rfl) (pe_and (pe_cmpR op_eq (pe_callB (call_lenK (K := Z.K)) rfl T.b_len (by decide +kernel) (pa_cons (pv 3) pa_nil)) (pe_op op_shl pe_int (pv 1)) (nomark _)) (pe_one (pe_cmpR op_eq (pe_callB (call_lenK (K := Z.K)) rfl T.b_len (by decide +kernel) (pa_cons (pe_lc (own := [("_law_one", 10)]) rfl nd (pi_listK (K := Z.K) (pv 3)) (blkOk_by (N := N_law_from) (sc := defScope s_law_from) (by decide +kernel)) (fun _ _ _ _ _ => (pg_name (i := 10) nd rfl (Or.inl rfl))) (fun _ _ _ _ _ => (pts_one (pt_not (pt_val (pe_cl c__law_integer (hr.mono (by decide)) rfl pass0 (pa_cons (pv 10) pa_nil)))))) (fun _ _ _ _ _ => (pv 10))) pa_nil)) pe_int (nomark _)))))
  (pss_cons (ps_set (i := 7) nd rfl (Or.inl rfl) (pe_lst pa_nil))
  (Evl.pss_cut (ps_if (pt_val (pv 6)) (pss_cons (ps_set (i := 7) nd rfl (Or.inl rfl) (pe_cl c__law_halves (hr.mono (by decide)) rfl pass0 (pa_cons (pv 3) (pa_cons (pv 1) pa_nil))))
  (pss_one (ps_set (i := 6) nd rfl (Or.inl rfl) (pe_cmpR op_eq (pe_callB (call_lenK (K := Z.K)) rfl T.b_len (by decide +kernel) (pa_cons (pe_lc (own := [("_law_one", 10)]) rfl nd (pi_listK (K := Z.K) (pv 7)) (blkOk_by (N := N_law_from) (sc := defScope s_law_from) (by decide +kernel)) (fun _ _ _ _ _ => (pg_name (i := 10) nd rfl (Or.inl rfl))) (fun _ _ _ _ _ => (pts_one (pt_cmpR op_ne (pe_callB call_absN rfl T.b_abs (by decide +kernel) (pa_cons (pv 10) pa_nil)) (pe_op op_shl pe_int (pv 1)) (nomark _)))) (fun _ _ _ _ _ => (pv 10))) pa_nil)) pe_int (nomark _))))) pss_nil)
  (pss_cons (ps_try_as (i := 9) rfl rfl nd rfl rfl ⟨rfl, by decide, .inl x_Undefined.m⟩ takes0 (fun W pn xe tk _ => (pss_one (ps_set (i := 8) nd rfl (Or.inl rfl) (pe_clS c_table_from (hr.mono (by decide)) rfl (fun σ => passAt tk σ) (pa_cons (pv 1) (pa_cons (pv 3) pa_nil))))))
  (fun a oe cls d pn hz hf => (pss_cons (ps_if (PW.pt (pw_or (pt_val (pv 6)) (pw_or (pt_not (pt_val (pe_callB (call_isX (K := Z.K) hz hf) rfl T.b_isinstance (by decide +kernel) (pa_cons (pv 9) (pa_cons (pe_bltn rfl T.b_ValueError (by decide +kernel) (show RelV (.ty "ValueError") (.type "ValueError") from rfl)) pa_nil))))) (pw_or1 (pt_val (pe_callB (call_isXT (K := Z.K) hz hf) rfl T.b_isinstance (by decide +kernel) (pa_cons (pv 9) (pa_cons (pe_tup (pa_cons (pe_glob rfl m_InvalidTable (show RelV (.ref _) (.ref _) from rfl)) (pa_cons (pe_glob rfl x_InvalidNumber.m (show RelV (.ref _) (.ref _) from rfl)) pa_nil))) pa_nil)))))))) (pss_one (ps_ret pe_bl)) pss_nil)
  (pss_one (ps_ret (pe_cmpR op_eq (pe_xf x_Undefined.xf x_Undefined.no hz hf (pv 9)) pe_str (nomark _)))))))
  (pss_one (ps_ret (pe_and (pv 6) (pe_and (pe_callB (call_isiK (K := Z.K)) rfl T.b_isinstance (by decide +kernel) (pa_cons (pv 8) (pa_cons (pe_glob rfl T.m_Table (show RelV (.ref _) (.ref _) from rfl)) pa_nil))) (pe_one (pe_cmpR (op_eqDK (K := Z.K) hr.units) (pe_callTy (call_listK (K := Z.K)) rfl T.b_list (by decide +kernel) (pa_cons (pe_fldK (K := Z.K) (pv 8) rfl) pa_nil)) (pe_lc (own := [("_law_one", 10)]) rfl nd (pi_listK (K := Z.K) (pv 7)) (blkOk_by (N := N_law_from) (sc := defScope s_law_from) (by decide +kernel)) (fun _ _ _ _ _ => (pg_name (i := 10) nd rfl (Or.inl rfl))) (fun _ _ _ _ _ => pts_nil) (fun _ _ _ _ _ => (pe_callTy call_intN rfl T.b_int (by decide +kernel) (pa_cons (pe_cmpR op_lt (pv 10) pe_int (nomark _)) pa_nil)))) (nomark _))))))))))))))), ?_⟩
  show tSeq _ _ _ [some (.ref s), some (.int n), some (.ref sl), none, none, none, none, none, none, none, none] H
  repeat walk_at "st"
  refine ⟨sl, _, rfl, .inl (SqL.of hsl), fun l hl => ?_⟩
  have x0 : XT H (upd H l (.lst (iv n (Wf n F)))) := XT.new hl
  have S0 := S.put (o := .lst (iv n (Wf n F))) hl
  have nl := S.ne hl
  repeat walk_at "st"
  refine ⟨s, c, _, rfl, rfl, S0, by decide, fun H1 kd x1 S1 hkd => ?_⟩
  have h1 := x1.lst nl.1 (upd_same : (upd H l (.lst (iv n (Wf n F)))) l = _)
  repeat walk_at "st"
  refine ⟨l, _, rfl, .inl (SqL.of h1), ?_⟩
  rw [iv_len]
  repeat walk_at "st"
  refine ⟨s, c, _, rfl, rfl, S1, by omega, fun H2 at' x2 S2 hat => ?_⟩
  have hat : at' < 2 ^ n := by omega
  have h2 := x2.lst nl.1 h1
  have x02 : XS s H H2 := (x0.xs.trans x1).trans x2
  repeat walk_at "st"
  refine w_cut (fun σ' H' => XS s H H' ∧ St H' s c ∧ ∃ (l' : Addr) (vs : List V) (z : Option V), H' l' = some (.lst vs) ∧ (∀ v ∈ vs, Nice H' v) ∧ vs.length ≤ 200 ∧ l' ≠ s ∧ σ' = [some (.ref s), some (.int n), some (.ref sl), some (.ref l'), some (.int (kd : Nat)), some (.int (at' : Nat)), none, none, none, none, z]) ?_ ?_
  · have put : ∀ {H3 : Hp} (v : V), XS s H H3 → St H3 s c → H3 l = some (.lst (iv n (Wf n F))) → Nice H3 v → XS s H (upd H3 l (.lst ((iv n (Wf n F)).set at' v))) ∧ St (upd H3 l (.lst ((iv n (Wf n F)).set at' v))) s c ∧ ∃ (l' : Addr) (vs : List V) (z : Option V), (upd H3 l (.lst ((iv n (Wf n F)).set at' v))) l' = some (.lst vs) ∧ (∀ u ∈ vs, Nice (upd H3 l (.lst ((iv n (Wf n F)).set at' v))) u) ∧ vs.length ≤ 200 ∧ l' ≠ s ∧
        [some (V.ref s), some (V.int n), some (.ref sl), some (.ref l), some (.int (kd : Nat)), some (.int (at' : Nat)), none, none, none, none, none] = [some (.ref s), some (.int n), some (.ref sl), some (.ref l'), some (.int (kd : Nat)), some (.int (at' : Nat)), none, none, none, none, z] :=
      fun {H3} v x3 S3 h3 hv => ⟨x3.put (.inl hl) (.inr ⟨_, h3, fun t z => by cases z⟩), S3.upd nl.1 nl.2, l, _, none, upd_same, nice_set (fun u hu => (nice_iv u hu).upd) hv.upd, by rw [List.length_set, iv_len]; omega, nl.1, rfl⟩
    repeat walk_at "st"
    refine ite2 (fun _ => ?_) (fun _ => ?_)
    · repeat walk_at "st"
      refine w_ixl (SqL.of h2) (iv_at hat) ?_
      repeat walk_at "st"
      exact w_setl h2 (by rw [iv_len]; exact ixN_nat hat) (put _ x02 S2 h2 trivial)
    repeat walk_at "st"
    refine ite2 (fun _ => ?_) (fun _ => ?_)
    · repeat walk_at "st"
      refine w_ixl (SqL.of h2) (iv_at hat) ?_
      repeat walk_at "st"
      exact w_setl h2 (by rw [iv_len]; exact ixN_nat hat) (put _ x02 S2 h2 trivial)
    repeat walk_at "st"
    refine ite2 (fun _ => ?_) (fun _ => ?_)
    · repeat walk_at "st"
      refine w_slL h2 fun p1 hp1 => ?_
      repeat walk_at "st"
      refine w_slL ((XT.new hp1).lst h2) fun p2 hp2 => ?_
      repeat walk_at "st"
      have b1 := cutV_length (iv n (Wf n F)) none (some ((at' : Nat) : Int))
      have b2 := cutV_length (iv n (Wf n F)) (some (((at' : Nat) : Int) + 1)) none
      rw [iv_len] at b1 b2
      refine w_cat ((XT.new hp2).lst upd_same) upd_same (by omega) fun p3 hp3 => ?_
      repeat walk_at "st"
      refine ⟨((x02.add hp1).add hp2).add hp3, ((S2.put hp1).put hp2).put hp3, p3, _, none, upd_same, fun v hv => ?_, by rw [List.length_append]; omega, (((S2.put hp1).put hp2).ne hp3).1, rfl⟩
      rcases List.mem_append.mp hv with hv | hv
      · exact nice_iv v (cutV_mem hv)
      · exact nice_iv v (cutV_mem hv)
    repeat walk_at "st"
    refine ite2 (fun _ => ?_) (fun _ => ?_)
    · repeat walk_at "st"
      refine ⟨l, rfl, ⟨_, SqL.of h2⟩, fun D hD => ?_⟩
      refine lc_map (walk_list (K := Z.K) (a := l) (xs := iv n (Wf n F))) (fun a => .int (0 - Wf n F a)) hD (by rw [iv_len]; exact Nat.lt_of_le_of_lt p6 (by decide)) (fun H4 x4 => SqL.of (x4.lst h2)) (fun i y H4 H5 hi x4 hy K1 hk => ?_) fun H4 x4 hh => ?_
      · obtain ⟨rfl, hx⟩ := hy
        rw [iv_len] at hi
        rw [M.tab_get hi] at hx
        cases hx
        refine w_name (σ' := [some (.ref s), some (.int n), some (.ref sl), some (.ref l), some (.int (kd : Nat)), some (.int (at' : Nat)), none, none, none, none, some (.int (Wf n F i))]) rfl ⟨rfl, ?_⟩
        repeat walk_at "st"
        exact hk _ XT.rfl'
      · rw [iv_len] at hh
        repeat walk_at "st"
        refine ⟨x02.trans x4.xs, S2.ext x4, D, _, none, hh, nice_iv (n := n) (g := fun a => 0 - Wf n F a), by rw [List.length_map, List.length_range]; omega, (S2.ne hD).1, rfl⟩
    · repeat walk_at "st"
      refine ⟨s, c, rfl, S2, fun H3 v x3 S3 hv => ?_⟩
      repeat walk_at "st"
      have h3 := x3.lst nl.1 h2
      exact w_setl h3 (by rw [iv_len]; exact ixN_nat hat) (put v (x02.trans x3) S3 h3 hv)
  rintro σ H3 ⟨x3, S3, l', vs, z, h3, hn3, hl3, nl', rfl⟩
  have al3 := al.ext x3.tab
  refine w_cut (fun σ' H' => ∃ (good : Bool) (z : Option V), XS s H H' ∧ St H' s c ∧ H' l' = some (.lst vs) ∧ (∀ v ∈ vs, Nice H' v) ∧ (good = true ↔ vs.length = 2 ^ n ∧ ∀ v ∈ vs, isI v = true) ∧ σ' = [some (.ref s), some (.int n), some (.ref sl), some (.ref l'), some (.int (kd : Nat)), some (.int (at' : Nat)), some (.bl good), none, none, none, z]) ?_ ?_
  · repeat walk_at "st"
    refine ⟨l', _, rfl, .inl (SqL.of h3), ?_⟩
    repeat walk_at "st"
    refine w_I (by refine ⟨by omega, by omega, by decide⟩) ?_
    rw [shl1]
    repeat walk_at "st"
    by_cases hl : vs.length = 2 ^ n
    · rw [decide_eq_true (by rw [hl])]
      refine iteT ?_
      repeat walk_at "st"
      refine ⟨l', rfl, ⟨_, SqL.of h3⟩, fun D hD => ?_⟩
      refine lc_fil (walk_list (K := Z.K) (a := l') (xs := vs)) (fun i => !isI (vs.getD i .non)) (fun i => vs.getD i .non) hD (Nat.lt_of_le_of_lt hl3 (by decide)) (fun H4 x4 => SqL.of (x4.lst h3)) (fun i y H4 H5 hi x4 hy K1 K0 hk1 hk0 => ?_) fun H4 x4 hh => ?_
      · obtain ⟨rfl, hx⟩ := hy
        have e : vs.getD i .non = y := by rw [List.getD_eq_getElem?_getD, hx]; rfl
        rw [e] at hk1 hk0
        refine w_name (σ' := [some (.ref s), some (.int n), some (.ref sl), some (.ref l'), some (.int (kd : Nat)), some (.int (at' : Nat)), none, none, none, none, some y]) rfl ⟨rfl, ?_⟩
        repeat walk_at "st"
        refine ⟨(hn3 y (List.mem_of_getElem? hx)).ext x4, w_bl ?_⟩
        cases h : isI y with
        | true => exact iteF (hk0 (by rw [h]; rfl) _ XT.rfl')
        | false =>
          refine iteT ?_
          repeat walk_at "st"
          exact hk1 (by rw [h]; rfl) _ XT.rfl'
      · repeat walk_at "st"
        refine ⟨D, _, rfl, .inl (SqL.of hh), ?_⟩
        repeat walk_at "st"
        refine ⟨_, z, x3.trans x4.xs, S3.ext x4, x4.lst h3, fun v hv => (hn3 v hv).ext x4, ?_, rfl⟩
        rw [decide_eq_true_iff, List.length_map]
        constructor
        · intro h0
          refine ⟨hl, fun v hv => ?_⟩
          have h1 : (List.range vs.length).filter (fun i => !isI (vs.getD i .non)) = [] := List.length_eq_zero_iff.mp (by omega)
          rw [List.filter_eq_nil_iff] at h1
          obtain ⟨i, hi, e⟩ := List.mem_iff_getElem.mp hv
          have := h1 i (List.mem_range.mpr hi)
          rw [List.getD_eq_getElem?_getD, List.getElem?_eq_getElem hi, e] at this
          simpa using this
        · rintro ⟨_, h0⟩
          have h1 : (List.range vs.length).filter (fun i => !isI (vs.getD i .non)) = [] := by
            rw [List.filter_eq_nil_iff]
            intro i hi
            have hi := List.mem_range.mp hi
            rw [List.getD_eq_getElem?_getD, List.getElem?_eq_getElem hi]
            have := h0 _ (List.getElem_mem hi)
            simp [this]
          rw [h1]; rfl
    · rw [decide_eq_false (by omega)]
      refine iteF ?_
      refine ⟨false, z, x3, S3, h3, hn3, ⟨(fun h => nomatch h), fun h => absurd h.1 hl⟩, rfl⟩
  rintro σ H4 ⟨good, z, x4, S4, h4, hn4, hg, rfl⟩
  have al4 := al.ext x4.tab
  repeat walk_at "st"
  refine ⟨by show 0 ≤ sizeLine; decide, fun lb hlb => ?_⟩
  have y5 := XT.new (o := .lst []) hlb
  have x5 := x4.trans y5.xs
  have S5 := S4.ext y5
  have h5 := y5.lst h4
  repeat walk_at "st"
  refine w_cut (fun σ' H' => ∃ (good : Bool) (lb : Addr) (z : Option V), XS s H H' ∧ St H' s c ∧ H' l' = some (.lst vs) ∧ (∀ v ∈ vs, Nice H' v) ∧ (good = true → ∃ g, vs = iv n g ∧ Good n g ∧ H' lb = some (.lst (iv n (M.T n g)))) ∧ (good = false → ∀ g, vs = iv n g → ¬ Good n g) ∧
    σ' = [some (.ref s), some (.int n), some (.ref sl), some (.ref l'), some (.int (kd : Nat)), some (.int (at' : Nat)), some (.bl good), some (.ref lb), none, none, z]) ?_ ?_
  · repeat walk_at "st"
    cases good with
    | false =>
      refine iteF ?_
      repeat walk_at "st"
      refine ⟨false, lb, z, x5, S5, h5, fun v hv => (hn4 v hv).ext y5, (fun h => nomatch h), fun _ g e _ => ?_, rfl⟩
      have := hg.mpr ⟨by rw [e, iv_len], fun v hv => by
        rw [e] at hv
        obtain ⟨x, _, rfl⟩ := List.mem_map.mp hv
        rfl⟩
      cases this
    | true =>
      obtain ⟨hl, hi⟩ := hg.mp rfl
      obtain ⟨g, rfl⟩ := ints_iv hl hi
      refine iteT ?_
      repeat walk_at "st"
      refine ⟨l', n, g, rfl, rfl, h5, n6, fun H6 l6 hl6 x6 h6 => ?_⟩
      repeat walk_at "st"
      refine ⟨l6, rfl, ⟨_, SqL.of h6⟩, fun D hD => ?_⟩
      refine lc_fil (walk_list (K := Z.K) (a := l6) (xs := iv n (M.T n g))) (fun i => !decide ((if M.T n g i < 0 then -M.T n g i else M.T n g i) = ((2 ^ n : Nat) : Int))) (fun i => .int (M.T n g i)) hD (by rw [iv_len]; exact Nat.lt_of_le_of_lt p6 (by decide)) (fun H7 x7 => SqL.of (x7.lst h6)) (fun i y H7 H8 hi x7 hy K1 K0 hk1 hk0 => ?_) fun H7 x7 hh => ?_
      · obtain ⟨rfl, hx⟩ := hy
        rw [iv_len] at hi
        rw [M.tab_get hi] at hx
        cases hx
        refine w_name (σ' := [some (.ref s), some (.int n), some (.ref sl), some (.ref l'), some (.int (kd : Nat)), some (.int (at' : Nat)), some (.bl true), some (.ref l6), none, none, some (.int (M.T n g i))]) rfl ⟨rfl, ?_⟩
        repeat walk_at "st"
        refine w_abs ?_
        repeat walk_at "st"
        refine w_I (by refine ⟨by omega, by omega, by decide⟩) ?_
        rw [shl1]
        repeat walk_at "st"
        refine ite2 (fun h => ?_) (fun h => ?_)
        · repeat walk_at "st"
          exact hk1 h _ XT.rfl'
        · exact hk0 (by simpa using h) _ XT.rfl'
      · repeat walk_at "st"
        refine ⟨D, _, rfl, .inl (SqL.of hh), ?_⟩
        repeat walk_at "st"
        have iff : decide ((((List.map (fun i => V.int (M.T n g i)) (List.filter (fun i => !decide ((if M.T n g i < 0 then -M.T n g i else M.T n g i) = ((2 ^ n : Nat) : Int))) (List.range (iv n (M.T n g)).length))).length : Nat) : Int) = 0) = true ↔ Good n g := by
          rw [decide_eq_true_iff, List.length_map, iv_len]
          constructor
          · intro h0 a ha
            have h1 := List.length_eq_zero_iff.mp (by omega : (List.filter (fun i => !decide ((if M.T n g i < 0 then -M.T n g i else M.T n g i) = ((2 ^ n : Nat) : Int))) (List.range (2 ^ n))).length = 0)
            rw [List.filter_eq_nil_iff] at h1
            have h2 := h1 a (List.mem_range.mpr ha)
            have h3 : (if M.T n g a < 0 then -M.T n g a else M.T n g a) = ((2 ^ n : Nat) : Int) := by
              refine Classical.byContradiction fun hc => h2 ?_
              rw [decide_eq_false hc]; rfl
            split at h3 <;> omega
          · intro h0
            have h1 : (List.filter (fun i => !decide ((if M.T n g i < 0 then -M.T n g i else M.T n g i) = ((2 ^ n : Nat) : Int))) (List.range (2 ^ n))) = [] := by
              rw [List.filter_eq_nil_iff]
              intro a ha
              have e : (if M.T n g a < 0 then -M.T n g a else M.T n g a) = ((2 ^ n : Nat) : Int) := by
                rcases h0 a (List.mem_range.mp ha) with e | e <;> rw [e] <;> split <;> omega
              rw [decide_eq_true e]; decide
            rw [h1]; rfl
        have x67 := y5.trans (x6.trans x7)
        refine ⟨_, l6, z, x4.trans x67.xs, S4.ext x67, x67.lst h4, fun v hv => (hn4 v hv).ext x67, fun h => ⟨g, rfl, iff.mp h, x7.lst h6⟩, fun h g' e hg' => ?_, rfl⟩
        have h2 : Good n g := fun a ha => by rw [T_inj e a ha]; exact hg' a ha
        rw [iff.mpr h2] at h
        cases h
  clear hlb y5 x5 S5 h5
  rintro σ H5 ⟨good, lb, z, x5, S5, h5, hn5, hg1, hg0, rfl⟩
  have al5 := al.ext x5.tab
  repeat walk_at "st"
  refine ⟨n, l', vs, rfl, rfl, n1, n6, h5, hn5, hl3, al5.i, al5.f, fun g e hgd H6 t x6 ht => ?_, fun hb H6 d x6 hd => ?_⟩
  · repeat walk_at "st"
    cases good with
    | false => exact absurd hgd (hg0 rfl g e)
    | true =>
      obtain ⟨g', e', hgd', hlb⟩ := hg1 rfl
      obtain ⟨⟨dx, q, ha, hb⟩, _, _⟩ := ht
      refine iteT ?_
      repeat walk_at "st"
      refine isC (T.iT ha) T.kTT (w_bl (iteT ?_))
      repeat walk_at "st"
      refine rT_b T ha ?_
      repeat walk_at "st"
      refine ⟨q, _, rfl, .inr (SqT.of hb), fun w hw => ?_⟩
      repeat walk_at "st"
      have x7 := XT.new (o := .lst (cells n fun a => decide (M.T n g a < 0))) hw
      have h7 := (x6.trans x7).lst hlb
      refine ⟨lb, rfl, ⟨_, SqL.of h7⟩, fun D hD => ?_⟩
      refine lc_map (walk_list (K := Z.K) (a := lb) (xs := iv n (M.T n g'))) (fun i => .int (M.b2 (decide (M.T n g' i < 0)))) hD (by rw [iv_len]; exact Nat.lt_of_le_of_lt p6 (by decide)) (fun H8 x8 => SqL.of (x8.lst h7)) (fun i y H8 H9 hi x8 hy K1 hk => ?_) fun H8 x8 hh => ?_
      · obtain ⟨rfl, hx⟩ := hy
        rw [iv_len] at hi
        rw [M.tab_get hi] at hx
        cases hx
        refine w_name (σ' := [some (.ref s), some (.int n), some (.ref sl), some (.ref l'), some (.int (kd : Nat)), some (.int (at' : Nat)), some (.bl true), some (.ref lb), some (.ref t), none, some (.int (M.T n g' i))]) rfl ⟨rfl, ?_⟩
        repeat walk_at "st"
        exact w_intB (hk _ XT.rfl')
      · rw [iv_len] at hh
        repeat walk_at "st"
        have e8 : cells n (fun a => decide (M.T n g a < 0)) = cells n (fun a => decide (M.T n g' a < 0)) := iv_congr fun x hx => by
          show M.b2 (decide (M.T n g x < 0)) = M.b2 (decide (M.T n g' x < 0))
          rw [T_inj (e.symm.trans e') x hx]
        have xx := (x6.trans x7).trans x8
        refine w_eqRefl (dp_iv (n := n) (g := fun a => M.b2 (decide (M.T n g a < 0))) (x8.lst upd_same)) (dp_iv (n := n) (g := fun a => M.b2 (decide (M.T n g a < 0))) (by rw [hh]; exact congrArg (fun l => some (HO.lst l)) e8.symm)) (shp_lst _) ?_
        exact k _ (x5.trans xx.xs) (S5.ext xx)
  · have hgf : good = false := by
      cases good with
      | false => rfl
      | true =>
        obtain ⟨g, e, h, _⟩ := hg1 rfl
        exact absurd h (hb g e)
    subst hgf
    refine ⟨true, x_Undefined.me, fun _ a ha => ?_, fun q => nomatch q⟩
    show tSeq _ _ _ [some (.ref s), some (.int n), some (.ref sl), some (.ref l'), some (.int (kd : Nat)), some (.int (at' : Nat)), some (.bl false), some (.ref lb), none, some (.ref a), z] H6
    repeat walk_at "st"
    refine iteF ?_
    repeat walk_at "st"
    refine ⟨_, _, _, _, _, true, rfl, rfl, hd, x_Undefined.ec, rfl, fun u h => h, x_Undefined.ve, w_bl (iteF ?_)⟩
    repeat walk_at "st"
    refine ⟨by show 2 ≤ sizeLine; decide, fun tp htp => ?_⟩
    have x7 := XT.new (o := .tup [.ref XT', .ref XN]) htp
    repeat walk_at "st"
    refine ⟨_, _, tp, _, _, _, false, rfl, rfl, x7.xd hd, x_Undefined.ec, rfl, upd_same, .cons (.own XT') (.cons (.own XN) .nil), kU, w_bl (iteF ?_)⟩
    repeat walk_at "st"
    refine w_xf ?_
    repeat walk_at "st"
    refine ⟨rfl, rfl, d, _, _, rfl, x7.xd hd, by rfl, ?_⟩
    repeat walk_at "st"
    refine w_eqS ?_
    rw [decide_eq_true rfl]
    exact k _ (x5.trans (x6.trans x7).xs) (S5.ext (x6.trans x7))
end
end Q
set_option Elab.async false
set_option linter.all false
set_option maxRecDepth 100000
set_option maxHeartbeats 1000000
namespace Q
open PySem PySem.Spec PyProof.Rows L2
local macro_rules | `(tactic| walk_at "st") => `(tactic| first
  | with_reducible refine w_seq ?_ | with_reducible refine w_next ?_ | with_reducible refine w_ret ?_ | with_reducible refine w_ifs ?_ | with_reducible refine w_asg ?_ | with_reducible refine w_drop ?_
  | with_reducible refine w_name (by simp only [List.set_cons_zero, List.set_cons_succ]; rfl) ?_
  | with_reducible refine w_var (by with_unfolding_all rfl) ?_
  | with_reducible refine w_c ?_ | with_reducible refine w_op ?_ | with_reducible refine w_un ?_ | with_reducible refine w_cons ?_ | with_reducible refine w_nil ?_ | with_reducible refine w_cb ?_ | with_reducible refine w_call ?_
  | with_reducible refine w_and ?_ | with_reducible refine w_or ?_ | with_reducible refine w_not ?_ | with_reducible refine w_tb ?_ | with_reducible refine w_tt ?_ | with_reducible refine w_bl ?_
  | with_reducible refine w_tand ?_ | with_reducible refine w_tor ?_ | with_reducible refine w_tnot ?_ | with_reducible refine w_yes ?_ | with_reducible refine w_chain ?_
  | with_reducible refine w_I0 ?_ | with_reducible refine w_eqI ?_ | with_reducible refine w_neI ?_ | with_reducible refine w_eqB ?_ | with_reducible refine w_neB ?_
  | with_reducible refine w_fl ?_ | with_reducible refine w_rng ?_ | with_reducible refine w_lst ?_ | with_reducible refine w_tup ?_
  | with_reducible refine w_sfld ?_ | with_reducible refine w_tmk ?_ | with_reducible refine w_gsub ?_ | with_reducible refine w_for ?_ | with_reducible refine w_tlc ?_ | with_reducible refine w_gx ?_ | with_reducible refine w_itup ?_ | with_reducible refine w_ilst ?_ | with_reducible refine w_izp ?_
  | with_reducible refine w_sl ?_ | with_reducible refine w_part ?_ | with_reducible refine w_pint ?_ | with_reducible refine w_nopart ?_
  | with_reducible refine w_rz ?_ | with_reducible refine w_callS ?_ | with_reducible refine w_callNS ?_ | with_reducible refine w_callD ?_ | with_reducible refine w_2d ?_ | with_reducible refine w_par ?_
  | with_reducible refine w_1 ?_ | with_reducible refine w_2 ?_ | with_reducible refine w_3 ?_ | with_reducible refine w_4 ?_ | with_reducible refine w_5 ?_)
section
variable {J : It} {n : Nat} {G : Hp → Prop} {Y : Nat → Hp → V → Hp → Prop} {g : TG} {tt : TT} {te : TE} {vs : List Nat} {σ : L2.St} {H1 : Hp} {Qe : VK}
/-- [.. for ..] whose items are new objects -/
theorem lc_rel (w : Walk J n G Y) (R : Nat → V → Hp → Prop) (hR : ∀ i v H H', R i v H → XT H H' → R i v H') {D : Addr} (hD : H1 D = none) (hn : n < sizeLine) (hG : ∀ H, XT H1 H → G H)
    (hs : ∀ (i : Nat) (x : V) (H H' : Hp), i < n → XT H1 H → Y i H x H' → ∀ (K1 : V → Hp → Prop), (∀ H4 v, XT H H4 → R i v H4 → K1 v H4) → g x (wipe σ vs) H' fun σ2 H2 => wipe σ2 vs = wipe σ vs ∧ te σ2 H2 K1)
    (hst : ∀ i v H o, R i v H → (∃ l, H D = some (.lst l)) → R i v (L2.upd H D o))
    (hd : ∀ H l, XT H1 H → H D = some (.lst l) → A2 (fun i v => R i v H) (List.range n) l → Qe (.ref D) H) : LcGoal J g tYes te vs σ H1 D Qe := by
  refine lc_it w (fun i H => XT H1 H ∧ ∃ l, H D = some (.lst l) ∧ A2 (fun i v => R i v H) (List.range i) l) ⟨XT.new hD, [], upd_same, .nil⟩ (fun i H _ h => hG H h.1) (fun i x H H' hi ⟨h1, l, h2, h3⟩ hy => ?_) fun H ⟨h1, l, h2, h3⟩ => hd H l h1 h2 h3
  refine hs i x H H' hi h1 hy _ (fun H4 v h4 r4 => ?_)
  refine ⟨_, h4.lst h2, ?_, (h1.trans h4).put hD (.inr ⟨_, h4.lst h2, fun t z => by cases z⟩), _, upd_same, ?_⟩
  · rw [← h3.len, List.length_range]; omega
  · rw [List.range_succ]
    refine A2.imp (R := fun i v => R i v H4) ((h3.imp fun i v r => hR i v _ _ r h4).snoc r4) fun i v r => hst i v _ _ r ⟨_, h4.lst h2⟩
end
theorem A2.sub {R : Nat → V → Prop} {N : Nat} {l : List V} (h : A2 R (List.range N) l) : ∀ is : List Nat, (∀ i ∈ is, i < N) → A2 R is (is.map fun i => l.getD i .non)
  | [], _ => .nil
  | i :: is, hi => by
    have hiN := hi i List.mem_cons_self
    obtain ⟨v, e, r⟩ := h.get (k := i) (i := i) (by simp [hiN])
    refine .cons ?_ (h.sub is fun j hj => hi j (List.mem_cons_of_mem _ hj))
    show R i (l.getD i .non)
    rw [List.getD_eq_getElem?_getD, e]
    exact r
theorem eqv_ints : ∀ a b : List Int, PyData.eqvAll (a.map PyData.int) (b.map PyData.int) = decide (a = b)
  | [], [] => by simp [PyData.eqvAll]
  | [], _ :: _ => by simp [PyData.eqvAll]
  | _ :: _, [] => by simp [PyData.eqvAll]
  | i :: a, j :: b => by
    rw [List.map_cons, List.map_cons, PyData.eqvAll, eqv_ints a b, PyData.eqv]
    by_cases c : i = j
    · subst c; simp
    · have : (i == j) = false := by simpa using c
      rw [this]; simp [c]
theorem w_eqTup {K : W.Frag} {H : Hp} {p q : Addr} {a b : List Int} {Qe : VK} (h1 : H p = some (.tup (a.map V.int))) (h2 : H q = some (.tup (b.map V.int))) (k : Qe (.bl (decide (a = b))) H) : rEqD K (.ref p) (.ref q) H Qe := by
  refine ⟨_, _, .tup (SqT.of h1) (dp_ints a), .tup (SqT.of h2) (dp_ints b), shp_tup a, shp_tup b, ?_⟩
  rw [PyData.eqv, eqv_ints]
  exact k
theorem max_uniq {n : Nat} {g : Nat → Int} {m m' : Int} (h : IsMax n g m) (h1 : m' ∈ M.tab n g) (h2 : ∀ y ∈ M.tab n g, y ≤ m') : m' = m := by
  obtain ⟨⟨i, hi, e⟩, hl⟩ := h
  obtain ⟨j, hj, e'⟩ := List.mem_map.mp h1
  have a := hl j (List.mem_range.mp hj)
  have b := h2 (g i) (List.mem_map.mpr ⟨i, List.mem_range.mpr hi, rfl⟩)
  omega
/-- max(sums) -/
theorem w_max {K : W.Frag} {H : Hp} {sl : Addr} {n : Nat} {g : Nat → Int} {Qe : VK} (h : H sl = some (.lst (iv n g))) (k : ∀ m, IsMax n g m → Qe (.int m) H) : rMax K [.ref sl] H Qe := by
  refine ⟨sl, M.tab n g, rfl, SqL.of (by rw [h, iv_map]), by rw [M.tab_len]; exact M.pow_pos2 n, fun m hm hle => k m ⟨?_, fun i hi => hle _ (List.mem_map.mpr ⟨i, List.mem_range.mpr hi, rfl⟩)⟩⟩
  obtain ⟨j, hj, e⟩ := List.mem_map.mp hm
  exact ⟨j, List.mem_range.mp hj, e⟩
theorem IsMax.uniq {n : Nat} {g : Nat → Int} {m m' : Int} (h : IsMax n g m) (h' : IsMax n g m') : m' = m := by
  obtain ⟨⟨i, hi, e⟩, hl⟩ := h
  obtain ⟨⟨j, hj, e'⟩, hl'⟩ := h'
  have := hl j hj
  have := hl' i hi
  omega
/-- N less the greatest sum is even -/
theorem max_even {n : Nat} {F : Nat → Bool} {m : Int} (h : IsMax n (Wf n F) m) : 2 * (((2 ^ n : Nat) : Int) - m).fdiv 2 = ((2 ^ n : Nat) : Int) - m := by
  obtain ⟨⟨i, hi, e⟩, _⟩ := h
  have := M.dist_eq n F i
  rw [Int.fdiv_eq_ediv_of_nonneg _ (by decide), ← e, show ((2 ^ n : Nat) : Int) = (2 : Int) ^ n from by simp]
  show 2 * ((2 ^ n - M.W n (fun x => M.sg (F x)) i) / 2) = 2 ^ n - M.W n (fun x => M.sg (F x)) i
  omega
/-- the rows of the law: one word for each number -/
abbrev AllRows (H : Hp) (n : Nat) (l : List V) : Prop := A2 (fun i v => ∃ q, v = .ref q ∧ Wo H q n i) (List.range (2 ^ n)) l
theorem rows_xt {H H' : Hp} {n : Nat} {is : List Nat} {l : List V} (h : A2 (fun i v => ∃ q, v = .ref q ∧ Wo H q n i) is l) (x : XT H H') : A2 (fun i v => ∃ q, v = .ref q ∧ Wo H' q n i) is l := h.imp fun i v ⟨q, e, w⟩ => ⟨q, e, x.tup w⟩
theorem rows_xs {s c : Addr} {H H' : Hp} {n : Nat} {is : List Nat} {l : List V} (h : A2 (fun i v => ∃ q, v = .ref q ∧ Wo H q n i) is l) (S : St H s c) (x : XS s H H') : A2 (fun i v => ∃ q, v = .ref q ∧ Wo H' q n i) is l := h.imp fun i v ⟨q, e, w⟩ => ⟨q, e, x.tup S w⟩
theorem rows_fil {H : Hp} {n : Nat} {l : List V} (h : AllRows H n l) (p : Nat → Bool) : Rows H n p (((List.range (2 ^ n)).filter p).map fun i => l.getD i .non) := h.sub _ fun i hi => List.mem_range.mp (List.mem_filter.mp hi).1
theorem rows_at {H : Hp} {n : Nat} {l : List V} (h : AllRows H n l) {i : Nat} {v : V} (e : l[i]? = some v) : l.getD i .non = v ∧ i < 2 ^ n ∧ ∃ q, v = .ref q ∧ Wo H q n i := by
  have hi : i < 2 ^ n := by
    have := (List.getElem?_eq_some_iff.mp e).1
    rw [← h.len, List.length_range] at this
    exact this
  obtain ⟨u, e2, r⟩ := h.get (k := i) (i := i) (by simp [hi])
  rw [e] at e2
  cases e2
  exact ⟨by rw [List.getD_eq_getElem?_getD, e]; rfl, hi, r⟩
theorem zl {n : Nat} {l : List V} {g : Nat → Int} {H : Hp} (h : AllRows H n l) : 2 ^ n = min l.length (iv n g).length := by
  rw [iv_len, ← h.len, List.length_range, Nat.min_self]
section
variable {Z : Wd} {TC SC : Addr}
abbrev N_law_near : List Str := ["_law_state", "_law_table", "_law_n", "_law_sums", "_law_size", "_law_rows", "_law_least", "_law_under", "_law_over", "_law_got", "_law_beginning", "_law_due", "_law_weight", "_law_number_here", "_law_row", "_law_one"]
theorem S_law_near : FnScope N_law_near ["_law_state", "_law_table", "_law_n", "_law_sums"] (defScope s_law_near) := ⟨rfl, rfl, rfl, by decide +kernel, rfl, by decide +kernel, by decide +kernel⟩
theorem B_law_near : Bnd "_law_near" "_law_near" s_law_near ["_law_state", "_law_table", "_law_n", "_law_sums"] := fun _ _ _ _ _ _ us hl => match us, hl with | [_, _, _, _], _ => rfl
abbrev p_law_near (τ : Ta) (TC : Addr) : Sp := sp4 fun a b c' e H Q _ => ∃ s c t cl sl n F, a = .ref s ∧ b = .ref t ∧ c' = .int (n : Nat) ∧ e = .ref sl ∧ LawH τ TC H s c t cl sl n F ∧ ∀ H', XS s H H' → St H' s c → Q (.bl true) H'
theorem c_law_near (T : Tx Z TC SC) {τ : Ta} {XS' : Addr} (F : Fn Z "_law_near" "_law_near" s_law_near) (c__law_bits : Cl Z CX0 1 "_law_bits" p_law_bits) (c_least_distance : Cl Z CX0 6 "least_distance" (p_least_distance TC τ.G)) (c__law_integer : Cl Z CX0 1 "_law_integer" p_is_integer)
    (c__law_rows_are : Cl Z CX0 2 "_law_rows_are" p_law_rows_are) (c_nearest_sums : Cl Z CX0 10 "nearest_sums" (p_nearest_sums TC τ.G τ.W τ.N)) (c__law_draw : Cl Z CX0 1 "_law_draw" p_law_draw) (c_near_sums : Cl Z (L2.CX Z.P Z.w) 10 "near_sums" (p_near_sums TC SC τ.W τ.M XS'))
    (c_mkShare : Mkr Z 2 SC "Share" (p_Sinit SC)) (c__law_word : Cl Z CX0 2 "_law_word" p_law_word) (c_beginning_weight : Cl Z CX0 9 "beginning_weight" (p_beginning_weight TC τ.A τ.B)) : Cl Z CX0 11 "_law_near" (p_law_near τ TC) := by
  refine F.cl S_law_near B_law_near len4 fun f cdv A outer sh H vs Q E hr h => ?_
  obtain ⟨_, _, _, _, rfl, s, c, t, cl, sl, n, F, rfl, rfl, rfl, rfl, L, k⟩ := h
  have nd := S_law_near.nd
  have n1 := L.tb.n1
  have n6 := L.tb.n6
  have p6 := pow6 n6
  obtain ⟨q6, r6⟩ := pow6i n6
  refine ⟨_, (pss_cons (ps_set (i := 4) nd rfl (Or.inr rfl) (pe_op op_shl pe_int (pv 2)))
  (pss_cons (ps_setLc (i := 5) (own := [("_law_number_here", 13)]) rfl nd rfl rfl (sw_true rfl rfl rfl (by decide +kernel))  (pi_range1 rfl T.b_range (pa_cons (pv 4) pa_nil)) (blkOk_by (N := N_law_near) (sc := defScope s_law_near) (by decide +kernel)) (fun _ _ _ _ _ => (pg_name (i := 13) nd rfl (Or.inl rfl))) (fun _ _ _ _ _ => pts_nil) (fun _ _ _ _ _ => (pe_cl c__law_bits (hr.mono (by decide)) rfl pass0 (pa_cons (pv 13) (pa_cons (pv 2) pa_nil)))))
  (pss_cons (ps_set (i := 6) nd rfl (Or.inl rfl) (pe_cl c_least_distance (hr.mono (by decide)) rfl pass0 (pa_cons (pv 1) pa_nil)))
  (pss_cons (ps_if (PW.pt (pw_or (pt_not (pt_val (pe_cl c__law_integer (hr.mono (by decide)) rfl pass0 (pa_cons (pv 6) pa_nil)))) (pw_or1 (pt_cmpR op_ne (pe_op op_mul pe_int (pv 6)) (pe_op op_sub (pv 4) (pe_callB (cr_maxK (K := Z.K) rfl) rfl T.b_max (by decide +kernel) (pa_cons (pv 3) pa_nil))) (nomark _))))) (pss_one (ps_ret pe_bl)) pss_nil)
  (pss_cons (ps_if (pt_not (pt_val (pe_cl c__law_rows_are (hr.mono (by decide)) rfl pass0 (pa_cons (pe_cl c_nearest_sums (hr.mono (by decide)) rfl pass0 (pa_cons (pv 1) pa_nil)) (pa_cons (pe_lc (own := [("_law_row", 14), ("_law_one", 15)]) rfl nd (RZ.pi_zipA rfl T.b_zip (pa_cons (pv 5) (pa_cons (pv 3) pa_nil))) (blkOk_by (N := N_law_near) (sc := defScope s_law_near) (by decide +kernel)) (fun _ _ _ _ _ => (pg_tupK (K := Z.K) (n := 2) rfl (pgs_cons (pg_name (i := 14) nd rfl (Or.inl rfl)) (pgs_cons (pg_name (i := 15) nd rfl (Or.inl rfl)) pgs_nil)))) (fun _ _ _ _ _ => (pts_one (pt_cmpR op_eq (pv 15) (pe_callB (cr_maxK (K := Z.K) rfl) rfl T.b_max (by decide +kernel) (pa_cons (pv 3) pa_nil)) (nomark _)))) (fun _ _ _ _ _ => (pv 14))) pa_nil))))) (pss_one (ps_ret pe_bl)) pss_nil)
  (pss_cons (ps_set (i := 7) nd rfl (Or.inr rfl) (pe_op op_add pe_int (pe_cl c__law_draw (hr.mono (by decide)) rfl pass0 (pa_cons (pv 0) (pa_cons pe_int pa_nil)))))
  (pss_cons (ps_set (i := 8) nd rfl (Or.inr rfl) (pe_op op_add pe_int (pe_cl c__law_draw (hr.mono (by decide)) rfl pass0 (pa_cons (pv 0) (pa_cons (pv 7) pa_nil)))))
  (Evl.pss_cut (ps_if (pt_cmpR op_eq (pe_cl c__law_draw (hr.mono (by decide)) rfl pass0 (pa_cons (pv 0) (pa_cons pe_int pa_nil))) pe_int (nomark _)) (pss_one (ps_asg (pe_tup (pa_cons (pe_callB (call_max2 rfl) rfl T.b_max (by decide +kernel) (pa_cons pe_int (pa_cons (pe_callB call_absN rfl T.b_abs (by decide +kernel) (pa_cons (pe_ix (ix_seqK (K := Z.K)) (pv 3) (pe_cl c__law_draw (hr.mono (by decide)) rfl pass0 (pa_cons (pv 0) (pa_cons (pv 4) pa_nil))) (fun _ _ => rfl)) pa_nil)) pa_nil))) (pa_cons (pv 4) pa_nil))) (pg_tupK (K := Z.K) (n := 2) rfl (pgs_cons (pg_name (i := 8) nd rfl (Or.inr rfl)) (pgs_cons (pg_name (i := 7) nd rfl (Or.inr rfl)) pgs_nil))))) pss_nil)
  (pss_cons (ps_set (i := 9) nd rfl (Or.inl rfl) (pe_cl c_near_sums (hr.mono (by decide)) rfl passL (pa_cons (pv 1) (pa_cons (pe_mk c_mkShare (hr.mono (by decide)) rfl pass0 (pa_cons (pv 8) (pa_cons (pv 7) pa_nil))) pa_nil))))
  (pss_cons (ps_if (pt_not (pt_val (pe_cl c__law_rows_are (hr.mono (by decide)) rfl pass0 (pa_cons (pv 9) (pa_cons (pe_lc (own := [("_law_row", 14), ("_law_one", 15)]) rfl nd (RZ.pi_zipA rfl T.b_zip (pa_cons (pv 5) (pa_cons (pv 3) pa_nil))) (blkOk_by (N := N_law_near) (sc := defScope s_law_near) (by decide +kernel)) (fun _ _ _ _ _ => (pg_tupK (K := Z.K) (n := 2) rfl (pgs_cons (pg_name (i := 14) nd rfl (Or.inl rfl)) (pgs_cons (pg_name (i := 15) nd rfl (Or.inl rfl)) pgs_nil)))) (fun _ _ _ _ _ => (pts_one (pt_cmpR op_ge (pe_op op_mul (pv 15) (pv 7)) (pe_op op_mul (pv 8) (pv 4)) (nomark _)))) (fun _ _ _ _ _ => (pv 14))) pa_nil))))) (pss_one (ps_ret pe_bl)) pss_nil)
  (pss_cons (ps_set (i := 10) nd rfl (Or.inr rfl) (pe_cl c__law_word (hr.mono (by decide)) rfl pass0 (pa_cons (pv 0) (pa_cons (pe_cl c__law_draw (hr.mono (by decide)) rfl pass0 (pa_cons (pv 0) (pa_cons (pe_op op_add (pv 2) pe_int) pa_nil))) pa_nil))))
  (pss_cons (ps_set (i := 11) nd rfl (Or.inl rfl) (pe_callB (cr_sumK (K := Z.K) rfl) rfl T.b_sum (by decide +kernel) (pa_cons (pe_lc (own := [("_law_row", 14), ("_law_one", 15)]) rfl nd (RZ.pi_zipA rfl T.b_zip (pa_cons (pv 5) (pa_cons (pv 3) pa_nil))) (blkOk_by (N := N_law_near) (sc := defScope s_law_near) (by decide +kernel)) (fun _ _ _ _ _ => (pg_tupK (K := Z.K) (n := 2) rfl (pgs_cons (pg_name (i := 14) nd rfl (Or.inl rfl)) (pgs_cons (pg_name (i := 15) nd rfl (Or.inl rfl)) pgs_nil)))) (fun _ _ _ _ _ => (pts_one (pt_cmpR (op_eqDK (K := Z.K) hr.units) (pe_slice (sl_tupAK (K := Z.K)) (pv 14) po_none (po_some (pe_callB (call_lenK (K := Z.K)) rfl T.b_len (by decide +kernel) (pa_cons (pv 10) pa_nil)))) (pv 10) (nomark _)))) (fun _ _ _ _ _ => (pe_op op_mul (pv 15) (pv 15)))) pa_nil)))
  (pss_cons (ps_set (i := 12) nd rfl (Or.inl rfl) (pe_cl c_beginning_weight (hr.mono (by decide)) rfl pass0 (pa_cons (pv 1) (pa_cons (pv 10) pa_nil))))
  (pss_one (ps_ret (pe_and (pe_cmpR op_le (pe_op op_mul (pe_op op_mul (pe_callB (call_lenK (K := Z.K)) rfl T.b_len (by decide +kernel) (pa_cons (pv 9) pa_nil)) (pv 8)) (pv 8)) (pe_op op_mul (pv 7) (pv 7)) (nomark _)) (pe_and (pe_cl c__law_integer (hr.mono (by decide)) rfl pass0 (pa_cons (pv 12) pa_nil)) (pe_one (pe_cmpR op_eq (pv 12) (pv 11) (nomark _)))))))))))))))))))), ?_⟩
  show tSeq _ _ _ [some (.ref s), some (.ref t), some (.int n), some (.ref sl), none, none, none, none, none, none, none, none, none, none, none, none] H
  repeat walk_at "st"
  refine w_I (by refine ⟨by omega, by omega, by decide⟩) ?_
  rw [shl1]
  repeat walk_at "st"
  refine ⟨_, rfl, by omega, by omega, fun lr hlr => ?_⟩
  rw [Int.toNat_natCast]
  refine lc_rel walk_rng (fun i v H => ∃ q, v = .ref q ∧ Wo H q n i) (fun i v H H' ⟨q, e, h⟩ x => ⟨q, e, x.tup h⟩) hlr (Nat.lt_of_le_of_lt p6 (by decide)) (fun _ _ => trivial) (fun i x H2 H3 hi x2 hy K1 hk => ?_) (fun i v H o ⟨q, e, h⟩ ⟨l, hl⟩ => ⟨q, e, by show (L2.upd H lr o) q = _; rw [upd_ne (ne_of h hl fun z => by cases z)]; exact h⟩) fun H1 lrs x1 h1 hA => ?_
  · obtain ⟨rfl, rfl⟩ := hy
    refine w_name (σ' := [some (.ref s), some (.ref t), some (.int n), some (.ref sl), some (.int ((2 ^ n : Nat) : Int)), none, none, none, none, none, none, none, none, some (.int (i : Nat)), none, none]) rfl ⟨rfl, ?_⟩
    repeat walk_at "st"
    exact ⟨i, n, rfl, rfl, by omega, fun H4 q hq x4 hw => hk _ _ x4 ⟨q, rfl, hw⟩⟩
  have nlr := (L.st.ne hlr).1
  have L1 := L.grow x1
  repeat walk_at "st"
  refine ⟨t, n, F, rfl, L1.tb, L1.al.g, fun H2 m x2 hm => ?_⟩
  have L2' := L1.grow x2
  repeat walk_at "st"
  refine ⟨trivial, ?_⟩
  repeat walk_at "st"
  refine iteF ?_
  repeat walk_at "st"
  refine w_I (.inl (by decide)) ?_
  repeat walk_at "st"
  refine w_max L2'.hs fun m' hm' => ?_
  rw [hm.uniq hm']
  repeat walk_at "st"
  rw [decide_eq_true (max_even hm)]
  refine iteF ?_
  repeat walk_at "st"
  refine ⟨t, n, F, rfl, L2'.tb, L2'.al.g, L2'.al.w, L2'.al.n, fun H3 q l3 m3 x3 h3 hm3 hr3 => ?_⟩
  rw [hm.uniq hm3] at hr3
  have L3 := L2'.grow x3
  have A3 := rows_xt hA (x2.trans x3)
  have hlr3 := (x2.trans x3).lst h1
  repeat walk_at "st"
  refine ⟨lr, sl, _, _, rfl, .inl ⟨SqL.of hlr3, SqL.of L3.hs, fun D hD => ?_⟩⟩
  refine lc_fil (walk_zip (K := Z.K) (a := lr) (b := sl) (zl A3 (g := Wf n F))) (fun i => decide (Wf n F i = m)) (fun i => lrs.getD i .non) hD (Nat.lt_of_le_of_lt p6 (by decide)) (fun H4 x4 => ⟨SqL.of (x4.lst hlr3), SqL.of (x4.lst L3.hs)⟩) (fun i y H4 H5 hi x4 hy K1 K0 hk1 hk0 => ?_) fun H4 x4 hh => ?_
  · obtain ⟨u, a, b, rfl, hu, rfl, ha, hb⟩ := hy
    obtain ⟨e, hi', w, rfl, hw⟩ := rows_at A3 ha
    have hb := (M.tab_get (g := fun x => V.int (Wf n F x)) hi').symm.trans hb
    cases hb
    refine w_pair upd_same (σ' := [some (.ref s), some (.ref t), some (.int n), some (.ref sl), some (.int ((2 ^ n : Nat) : Int)), some (.ref lr), some (.int ((((2 ^ n : Nat) : Int) - m).fdiv 2)), none, none, none, none, none, none, none, some (.ref w), some (.int (Wf n F i))]) rfl ⟨rfl, ?_⟩
    have x5 := XT.new (o := .tup [.ref w, .int (Wf n F i)]) hu
    repeat walk_at "st"
    refine w_max ((x4.trans x5).lst L3.hs) fun m' hm' => ?_
    rw [hm.uniq hm']
    repeat walk_at "st"
    refine ite2 (fun h => ?_) (fun h => ?_)
    · repeat walk_at "st"
      have := hk1 h _ x5
      rw [e] at this
      exact this
    · exact hk0 (by simpa using h) _ x5
  have L4 := L3.grow x4
  repeat walk_at "st"
  refine ⟨q, D, n, _, l3, _, rfl, rfl, n6, x4.tup h3, hh, rows_xt hr3 x4, rows_xt (rows_fil A3 _) x4, fun H5 x5 => ?_⟩
  have L5 := L4.grow x5
  repeat walk_at "st"
  refine iteF ?_
  repeat walk_at "st"
  have A5 := rows_xt A3 (x4.trans x5)
  have hlr5 := (x4.trans x5).lst hlr3
  have x05 : XT H H5 := (x1.trans (x2.trans x3)).trans (x4.trans x5)
  refine ⟨s, c, _, rfl, rfl, L5.st, by decide, fun H6 un x6 S6 hun => ?_⟩
  have L6 := L5.ext x6 S6
  repeat walk_at "st"
  refine ⟨s, c, _, rfl, rfl, S6, by omega, fun H7 ov x7 S7 hov => ?_⟩
  have L7 := L6.ext x7 S7
  repeat walk_at "st"
  refine w_cut (fun σ' H' => ∃ (o u : Int), 0 < o ∧ o ≤ u ∧ u ≤ 64 ∧ XS s H5 H' ∧ St H' s c ∧ σ' = [some (.ref s), some (.ref t), some (.int n), some (.ref sl), some (.int ((2 ^ n : Nat) : Int)), some (.ref lr), some (.int ((((2 ^ n : Nat) : Int) - m).fdiv 2)), some (.int u), some (.int o), none, none, none, none, none, none, none]) ?_ ?_
  · repeat walk_at "st"
    refine ⟨s, c, _, rfl, rfl, S7, by decide, fun H8 kd x8 S8 _ => ?_⟩
    have L8 := L7.ext x8 S8
    repeat walk_at "st"
    refine ite2 (fun h => ?_) (fun h => ?_)
    · repeat walk_at "st"
      refine ⟨s, c, _, rfl, rfl, S8, by omega, fun H9 at' x9 S9 hat => ?_⟩
      have L9 := L8.ext x9 S9
      have hat : at' < 2 ^ n := by omega
      refine w_ixl (SqL.of L9.hs) (iv_at hat) ?_
      repeat walk_at "st"
      refine w_abs ?_
      repeat walk_at "st"
      refine ⟨_, _, rfl, ?_⟩
      repeat walk_at "st"
      refine ⟨by show 2 ≤ sizeLine; decide, fun p hp => ?_⟩
      refine w_pair upd_same (σ' := [some (.ref s), some (.ref t), some (.int n), some (.ref sl), some (.int ((2 ^ n : Nat) : Int)), some (.ref lr), some (.int ((((2 ^ n : Nat) : Int) - m).fdiv 2)), some (.int ((2 ^ n : Nat) : Int)), some (.int _), none, none, none, none, none, none, none]) rfl ?_
      have hb := M.W_bound (n := n) (f := fs F) (fun x _ => fs_1 F x) at'
      rw [show (2 : Int) ^ n = ((2 ^ n : Nat) : Int) from by simp] at hb
      have hb : -((2 ^ n : Nat) : Int) ≤ Wf n F at' ∧ Wf n F at' ≤ ((2 ^ n : Nat) : Int) := hb
      refine ⟨_, _, ?_, ?_, r6, ((x6.trans x7).trans (x8.trans x9)).add hp, S9.put hp, rfl⟩
      · split <;> split at * <;> omega
      · split <;> split at * <;> omega
    · repeat walk_at "st"
      exact ⟨_, _, by omega, by omega, by omega, (x6.trans x7).trans x8, S8, rfl⟩
  clear hun hov L6 L7 x6 x7 S6 S7
  rintro σ H6 ⟨o, u, o0, ou, u64, x6, S6, rfl⟩
  have L6 := L5.ext x6 S6
  have A6 := rows_xs A5 L5.st x6
  have hlr6 := x6.lst nlr hlr5
  repeat walk_at "st"
  refine w_mkS (o := o) (u := u) (by omega) (by omega) fun H7 r hr7 x7 hsh => ?_
  have L7 := L6.grow x7
  have gp := gd_pos (o := o) (u := u) (by omega)
  have e1 := gd_l (o := o) (u := u)
  have e2 := gd_r (o := o) (u := u)
  generalize gd o u = g at *
  have a0 : 0 < o / g := by
    refine Classical.byContradiction fun hc => ?_
    have : o / g * g ≤ 0 := Int.mul_nonpos_of_nonpos_of_nonneg (by omega) (by omega)
    omega
  have a1 : o / g ≤ u / g := Int.ediv_le_ediv gp ou
  have a2 : u / g ≤ u := Int.ediv_le_self _ (by omega)
  repeat walk_at "st"
  refine ⟨t, n, F, rfl, L7.tb, .inl ⟨r, o / g, u / g, rfl, hsh, a0, a1, by omega, L7.al.w, L7.al.m, fun H8 q8 l8 x8 h8 hr8 => ?_⟩⟩
  have L8 := L7.grow x8
  have A8 := rows_xt A6 (x7.trans x8)
  have hlr8 := (x7.trans x8).lst hlr6
  have eP : ∀ i, decide (Wf n F i * (u / g) ≥ o / g * ((2 ^ n : Nat) : Int)) = decide (Wf n F i * u ≥ o * ((2 ^ n : Nat) : Int)) := fun i => by
    have h1 : Wf n F i * u = (Wf n F i * (u / g)) * g := by rw [Int.mul_assoc, e2]
    have h2 : o * ((2 ^ n : Nat) : Int) = (o / g * ((2 ^ n : Nat) : Int)) * g := by rw [Int.mul_right_comm, e1]
    rw [h1, h2]
    refine decide_eq_decide.mpr ⟨fun h => Int.mul_le_mul_of_nonneg_right h (by omega), fun h => Int.le_of_mul_le_mul_right h gp⟩
  have hr8' : Rows H8 n (fun i => decide (Wf n F i * u ≥ o * ((2 ^ n : Nat) : Int))) l8 := by
    have : (fun i => decide (Wf n F i * (u / g) ≥ o / g * ((2 ^ n : Nat) : Int))) = fun i => decide (Wf n F i * u ≥ o * ((2 ^ n : Nat) : Int)) := funext eP
    rw [← this]; exact hr8
  repeat walk_at "st"
  refine ⟨lr, sl, _, _, rfl, .inl ⟨SqL.of hlr8, SqL.of L8.hs, fun D hD => ?_⟩⟩
  refine lc_fil (walk_zip (K := Z.K) (a := lr) (b := sl) (zl A8 (g := Wf n F))) (fun i => decide (Wf n F i * u ≥ o * ((2 ^ n : Nat) : Int))) (fun i => lrs.getD i .non) hD (Nat.lt_of_le_of_lt p6 (by decide)) (fun H4 x4 => ⟨SqL.of (x4.lst hlr8), SqL.of (x4.lst L8.hs)⟩) (fun i y H4 H5 hi x4 hy K1 K0 hk1 hk0 => ?_) fun H9 x9 hh9 => ?_
  · obtain ⟨v, a, b, rfl, hu, rfl, ha, hb⟩ := hy
    obtain ⟨e, hi', w, rfl, hw⟩ := rows_at A8 ha
    have hb := (M.tab_get (g := fun x => V.int (Wf n F x)) hi').symm.trans hb
    cases hb
    refine w_pair upd_same (σ' := [some (.ref s), some (.ref t), some (.int n), some (.ref sl), some (.int ((2 ^ n : Nat) : Int)), some (.ref lr), some (.int ((((2 ^ n : Nat) : Int) - m).fdiv 2)), some (.int u), some (.int o), some (.ref q8), none, none, none, none, some (.ref w), some (.int (Wf n F i))]) rfl ⟨rfl, ?_⟩
    have x5 := XT.new (o := .tup [.ref w, .int (Wf n F i)]) hu
    repeat walk_at "st"
    refine w_I (.inr ⟨by omega, by omega⟩) ?_
    repeat walk_at "st"
    refine w_I (.inl ⟨by omega, by omega⟩) ?_
    repeat walk_at "st"
    refine ite2 (fun h => ?_) (fun h => ?_)
    · repeat walk_at "st"
      have := hk1 h _ x5
      rw [e] at this
      exact this
    · exact hk0 (by simpa using h) _ x5
  have L9 := L8.grow x9
  repeat walk_at "st"
  refine ⟨q8, D, n, _, l8, _, rfl, rfl, n6, x9.tup h8, hh9, rows_xt hr8' x9, rows_xt (rows_fil A8 _) x9, fun H10 x10 => ?_⟩
  have L10 := L9.grow x10
  repeat walk_at "st"
  refine iteF ?_
  repeat walk_at "st"
  have x910 := x9.trans x10
  refine ⟨s, c, _, rfl, rfl, L10.st, by omega, fun H11 kk x11 S11 hkk => ?_⟩
  have L11 := L10.ext x11 S11
  repeat walk_at "st"
  refine ⟨s, c, kk, rfl, rfl, by omega, S11, fun H12 qb b hqb x12 S12 hb hwb => ?_⟩
  have L12 := L11.ext x12 S12
  have x1012 := x11.trans x12
  have hkn : kk ≤ n := by omega
  have A12 := rows_xs (rows_xt A8 x910) L10.st x1012
  have hlr12 := x1012.lst nlr (x910.lst hlr8)
  repeat walk_at "st"
  refine ⟨lr, sl, _, _, rfl, .inl ⟨SqL.of hlr12, SqL.of L12.hs, fun D hD => ?_⟩⟩
  refine lc_fil (walk_zip (K := Z.K) (a := lr) (b := sl) (zl A12 (g := Wf n F))) (fun i => decide (i / 2 ^ (n - kk) = b)) (fun i => .int (Wf n F i * Wf n F i)) hD (Nat.lt_of_le_of_lt p6 (by decide)) (fun H4 x4 => ⟨SqL.of (x4.lst hlr12), SqL.of (x4.lst L12.hs)⟩) (fun i y H4 H5 hi x4 hy K1 K0 hk1 hk0 => ?_) fun H13 x13 hh13 => ?_
  · obtain ⟨v, a', b', rfl, hu, rfl, ha, hb'⟩ := hy
    obtain ⟨e, hi', w, rfl, hw⟩ := rows_at A12 ha
    have hb' := (M.tab_get (g := fun x => V.int (Wf n F x)) hi').symm.trans hb'
    cases hb'
    refine w_pair upd_same (σ' := [some (.ref s), some (.ref t), some (.int n), some (.ref sl), some (.int ((2 ^ n : Nat) : Int)), some (.ref lr), some (.int ((((2 ^ n : Nat) : Int) - m).fdiv 2)), some (.int u), some (.int o), some (.ref q8), some (.ref qb), none, none, none, some (.ref w), some (.int (Wf n F i))]) rfl ⟨rfl, ?_⟩
    have x5 := XT.new (o := .tup [.ref w, .int (Wf n F i)]) hu
    have x45 := x4.trans x5
    repeat walk_at "st"
    refine ⟨qb, _, rfl, .inr (SqT.of (x45.tup hwb)), ?_⟩
    rw [List.length_map, M.wd_len]
    repeat walk_at "st"
    refine w_slA (x45.tup hw) fun z H6 x6 h6 => ?_
    have ec : cutV ((M.wd n i).map V.int) none (some ((kk : Nat) : Int)) = (M.wd kk (i / 2 ^ (n - kk))).map V.int := by
      unfold cutV
      rw [HT.sIx_nat, List.length_map, M.wd_len, Nat.min_eq_left hkn]
      show ((List.map V.int (M.wd n i)).drop 0).take (kk - 0) = _
      rw [List.drop_zero, Nat.sub_zero, ← List.map_take, M.wd_take hkn]
    rw [ec] at h6
    repeat walk_at "st"
    refine w_eqTup h6 ((x45.trans x6).tup hwb) ?_
    have pn : 2 ^ (n - kk) * 2 ^ kk = 2 ^ n := by rw [← Nat.pow_add]; congr 1; omega
    have hlt : i / 2 ^ (n - kk) < 2 ^ kk := (Nat.div_lt_iff_lt_mul (M.pow_pos2 _)).mpr (by rw [Nat.mul_comm, pn]; exact hi')
    have ed : decide (M.wd kk (i / 2 ^ (n - kk)) = M.wd kk b) = decide (i / 2 ^ (n - kk) = b) := decide_eq_decide.mpr ⟨fun h => M.wd_inj hlt hb h, fun h => by rw [h]⟩
    rw [ed]
    repeat walk_at "st"
    refine ite2 (fun h => ?_) (fun h => ?_)
    · repeat walk_at "st"
      refine w_I (.inl ?_) ?_
      · have := Wf_b n6 F i; omega
      · exact hk1 h _ (x5.trans x6)
    · exact hk0 (by simpa using h) _ (x5.trans x6)
  have L13 := L12.grow x13
  repeat walk_at "st"
  refine ⟨D, ((List.range (2 ^ n)).filter fun i => decide (i / 2 ^ (n - kk) = b)).map fun i => Wf n F i * Wf n F i, rfl, SqL.of (by rw [hh13, List.map_map]; rfl), ?_⟩
  have pn : 2 ^ kk * 2 ^ (n - kk) = 2 ^ n := by rw [← Nat.pow_add]; congr 1; omega
  have es := M.fil_sum (2 ^ (n - kk)) b (fun i => Wf n F i * Wf n F i) (M.pow_pos2 _) (2 ^ kk)
  rw [pn, if_pos hb] at es
  rw [es]
  repeat walk_at "st"
  refine ⟨t, qb, n, F, kk, b, rfl, rfl, L13.tb, x13.tup hwb, hkn, hb, L13.al.a, L13.al.b, fun H14 x14 => ?_⟩
  have L14 := L13.grow x14
  repeat walk_at "st"
  have h814 : H14 q8 = some (.tup l8) := (x13.trans x14).tup (x1012.tup L10.st (x910.tup h8))
  refine ⟨q8, _, rfl, .inr (SqT.of h814), ?_⟩
  repeat walk_at "st"
  refine w_I (.inr ⟨by omega, by omega⟩) ?_
  repeat walk_at "st"
  refine w_I (.inr ⟨by omega, by omega⟩) ?_
  repeat walk_at "st"
  refine w_I (.inr ⟨by omega, by omega⟩) ?_
  repeat walk_at "st"
  have hc := M.near_count n F o u o0
  have hl8 : l8.length = ((List.range (2 ^ n)).filter fun i => decide (Wf n F i * u ≥ o * ((2 ^ n : Nat) : Int))).length := hr8'.len.symm
  rw [hl8, decide_eq_true hc]
  refine iteT ?_
  repeat walk_at "st"
  refine ⟨trivial, w_bl (iteT ?_)⟩
  repeat walk_at "st"
  rw [decide_eq_true rfl]
  refine k _ (((x05.xs.trans x6).trans (x7.trans (x8.trans x910)).xs).trans (x1012.trans (x13.trans x14).xs)) L14.st
end
end Q
set_option Elab.async false
set_option linter.all false
set_option maxRecDepth 100000
set_option maxHeartbeats 1000000
namespace Q
open PySem PySem.Spec PyProof.Rows L2
local macro_rules | `(tactic| walk_at "st") => `(tactic| first
  | with_reducible refine w_seq ?_ | with_reducible refine w_next ?_ | with_reducible refine w_ret ?_ | with_reducible refine w_ifs ?_ | with_reducible refine w_asg ?_ | with_reducible refine w_drop ?_
  | with_reducible refine w_name (by simp only [List.set_cons_zero, List.set_cons_succ]; rfl) ?_
  | with_reducible refine w_var (by with_unfolding_all rfl) ?_
  | with_reducible refine w_c ?_ | with_reducible refine w_op ?_ | with_reducible refine w_un ?_ | with_reducible refine w_cons ?_ | with_reducible refine w_nil ?_ | with_reducible refine w_cb ?_ | with_reducible refine w_call ?_
  | with_reducible refine w_and ?_ | with_reducible refine w_or ?_ | with_reducible refine w_not ?_ | with_reducible refine w_tb ?_ | with_reducible refine w_tt ?_ | with_reducible refine w_bl ?_
  | with_reducible refine w_tand ?_ | with_reducible refine w_tor ?_ | with_reducible refine w_tnot ?_ | with_reducible refine w_yes ?_ | with_reducible refine w_chain ?_
  | with_reducible refine w_I0 ?_ | with_reducible refine w_eqI ?_ | with_reducible refine w_neI ?_ | with_reducible refine w_eqB ?_ | with_reducible refine w_neB ?_
  | with_reducible refine w_fl ?_ | with_reducible refine w_rng ?_ | with_reducible refine w_lst ?_ | with_reducible refine w_tup ?_
  | with_reducible refine w_sfld ?_ | with_reducible refine w_tmk ?_ | with_reducible refine w_gsub ?_ | with_reducible refine w_for ?_ | with_reducible refine w_tlc ?_ | with_reducible refine w_gx ?_ | with_reducible refine w_itup ?_ | with_reducible refine w_ilst ?_ | with_reducible refine w_izp ?_
  | with_reducible refine w_sl ?_ | with_reducible refine w_part ?_ | with_reducible refine w_pint ?_ | with_reducible refine w_nopart ?_
  | with_reducible refine w_rz ?_ | with_reducible refine w_callS ?_ | with_reducible refine w_callNS ?_ | with_reducible refine w_callD ?_ | with_reducible refine w_2d ?_ | with_reducible refine w_par ?_
  | with_reducible refine w_1 ?_ | with_reducible refine w_2 ?_ | with_reducible refine w_3 ?_ | with_reducible refine w_4 ?_ | with_reducible refine w_5 ?_)
section
variable {J : It} {n : Nat} {G : Hp → Prop} {Y : Nat → Hp → V → Hp → Prop} {g : TG} {tt : TT} {te : TE} {vs : List Nat} {σ : L2.St} {H1 : Hp} {Qe : VK}
/-- [.. for ..] whose items are drawn and new -/
theorem lc_drawnR {s : Addr} {I : Hp → Prop} {R : V → Hp → Prop} (w : Walk J n G Y) {D : Addr} (hD : H1 D = none) (hn : n < sizeLine) (hG : ∀ H, XS s H1 H → I H → G H) (hDs : D ≠ s)
    (hI : ∀ H o, I H → I (upd H D o)) (h0 : I H1) (hR : ∀ v H H', I H → R v H → XS s H H' → R v H') (hRu : ∀ v H o, (∃ l, H D = some (.lst l)) → R v H → R v (upd H D o))
    (hs : ∀ (i : Nat) (x : V) (H H' : Hp), i < n → XS s H1 H → I H → Y i H x H' → ∀ (K1 : V → Hp → Prop), (∀ v H4, R v H4 → XS s H H4 → I H4 → K1 v H4) → g x (wipe σ vs) H' fun σ2 H2 => wipe σ2 vs = wipe σ vs ∧ te σ2 H2 K1)
    (hd : ∀ H l, XS s H1 H → I H → l.length = n → (∀ v ∈ l, R v H) → H D = some (.lst l) → Qe (.ref D) H) : LcGoal J g tYes te vs σ H1 D Qe := by
  refine lc_it w (fun i H => XS s H1 H ∧ I H ∧ ∃ l, l.length = i ∧ (∀ v ∈ l, R v H) ∧ H D = some (.lst l)) ⟨XS.rfl'.add hD, hI _ _ h0, [], rfl, fun v h => (by cases h), upd_same⟩ (fun i H _ h => hG H h.1 h.2.1) (fun i x H H' hi ⟨h1, h2, l, e, r, h3⟩ hy => ?_) fun H ⟨h1, h2, l, e, r, h3⟩ => hd H l h1 h2 e r h3
  refine hs i x H H' hi h1 h2 hy _ (fun v H4 hv h4 i4 => ?_)
  have h5 := h4.lst hDs h3
  refine ⟨_, h5, by omega, (h1.trans h4).put (.inl hD) (.inr ⟨_, h5, fun t z => by cases z⟩), hI _ _ i4, l ++ [v], by rw [List.length_append, e]; rfl, fun u hu => ?_, upd_same⟩
  rcases List.mem_append.mp hu with hu | hu
  · exact hRu _ _ _ ⟨_, h5⟩ (hR _ _ _ h2 (r u hu) h4)
  · rw [List.mem_singleton.mp hu]; exact hRu _ _ _ ⟨_, h5⟩ hv
end
theorem ws_of {H : Hp} {n : Nat} : ∀ {l : List V}, (∀ v ∈ l, ∃ q x, v = .ref q ∧ Wo H q n x ∧ x < 2 ^ n) → ∃ xs, Ws H n l xs
  | [], _ => ⟨[], .nil⟩
  | v :: l, h => by
    obtain ⟨q, x, rfl, a, b⟩ := h v List.mem_cons_self
    obtain ⟨xs, hx⟩ := ws_of (l := l) fun u hu => h u (List.mem_cons_of_mem _ hu)
    exact ⟨x :: xs, .cons a b hx⟩
theorem Ws.xs {H H' : Hp} {s c : Addr} {n : Nat} {l xs} (h : Ws H n l xs) (S : St H s c) (x : XS s H H') : Ws H' n l xs := by
  induction h with
  | nil => exact .nil
  | cons a b _ ih => exact .cons (x.tup S a) b ih
theorem wd_zero (n : Nat) : (List.range n).map (fun _ => V.int 0) = (M.wd n 0).map V.int := by
  simp only [M.wd, List.map_map]
  apply List.map_congr_left
  intro i _
  simp
theorem xorF_lt {n : Nat} {xs : List Nat} (h : ∀ x ∈ xs, x < 2 ^ n) (i : Nat) : xorF (xs.take i) < 2 ^ n := xor_lt (M.pow_pos2 n) fun x hx => h x (List.mem_of_mem_take hx)
/-- the sum of the bits, mod 2 -/
theorem sum_par (F : Nat → Bool) : ∀ (xs : List Nat) (b : Bool) (z : Int), z % 2 = M.b2 b → (z + (xs.map fun x => M.b2 (F x)).sum) % 2 = M.b2 (xs.foldl (fun t x => t ^^ F x) b)
  | [], b, z, h => by simpa using h
  | x :: xs, b, z, h => by
    rw [List.map_cons, List.sum_cons, List.foldl_cons, ← Int.add_assoc]
    refine sum_par F xs (b ^^ F x) (z + M.b2 (F x)) ?_
    cases b <;> cases F x <;> simp [M.b2] at * <;> omega
section
variable {Z : Wd} {TC SC : Addr}
abbrev N_law_tested : List Str := ["_law_state", "_law_table", "_law_n", "_law_cells_here", "_law_sums", "_law_size", "_law_k", "_law_row", "_law_total", "_law_bits_here", "_law_word_here", "_law_passed", "_law_many", "_law_power", "_law_over", "_law_one", "_law_part", "_law_far", "_law_third"]
theorem S_law_tested : FnScope N_law_tested ["_law_state", "_law_table", "_law_n", "_law_cells_here", "_law_sums"] (defScope s_law_tested) := ⟨rfl, rfl, rfl, by decide +kernel, rfl, by decide +kernel, by decide +kernel⟩
theorem B_law_tested : Bnd "_law_tested" "_law_tested" s_law_tested ["_law_state", "_law_table", "_law_n", "_law_cells_here", "_law_sums"] := fun _ _ _ _ _ _ us hl => match us, hl with | [_, _, _, _, _], _ => rfl
abbrev p_law_tested (τ : Ta) (TC : Addr) : Sp := sp5 fun a b c' d e H Q _ => ∃ s c t cl sl n F, a = .ref s ∧ b = .ref t ∧ c' = .int (n : Nat) ∧ d = .ref cl ∧ e = .ref sl ∧ LawH τ TC H s c t cl sl n F ∧ ∀ H', XS s H H' → St H' s c → Q (.bl true) H'
theorem c_law_tested (T : Tx Z TC SC) {τ : Ta} {XN : Addr} (F : Fn Z "_law_tested" "_law_tested" s_law_tested) (c__law_word : Cl Z CX0 2 "_law_word" p_law_word) (c__law_draw : Cl Z CX0 1 "_law_draw" p_law_draw) (c__law_plus : Cl Z CX0 1 "_law_plus" p_law_plus) (c__law_number : Cl Z CX0 1 "_law_number" p_bits_number)
    (c_passes_sum : Cl Z CX0 15 "passes_sum" (p_passes_sum TC τ.A τ.S)) (c_passing_share : Ck Z (L2.CX Z.P Z.w) 7 "passing_share" (p_passing_share TC SC τ.Q XN)) (c__law_is : Cl Z CX0 2 "_law_is" (p_law_is SC)) : Cl Z CX0 16 "_law_tested" (p_law_tested τ TC) := by
  refine F.cl S_law_tested B_law_tested len5 fun f cdv A outer sh H vs Q E hr h => ?_
  obtain ⟨_, _, _, _, _, rfl, s, c, t, cl, sl, n, F, rfl, rfl, rfl, rfl, rfl, L, k⟩ := h
  have nd := S_law_tested.nd
  have n1 := L.tb.n1
  have n6 := L.tb.n6
  have p6 := pow6 n6
  obtain ⟨q6, r6⟩ := pow6i n6
  refine ⟨_, (pss_cons (ps_set (i := 5) nd rfl (Or.inl rfl) (pe_callB (call_lenK (K := Z.K)) rfl T.b_len (by decide +kernel) (pa_cons (pv 3) pa_nil)))
  (pss_cons (ps_set (i := 7) nd rfl (Or.inl rfl) (pe_callTy (call_tupleK (K := Z.K)) rfl T.b_tuple (by decide +kernel) (pa_cons (pe_lc (own := [("_law_k", 6)]) rfl nd (pi_range1 rfl T.b_range (pa_cons (pe_op op_add pe_int (pe_cl c__law_draw (hr.mono (by decide)) rfl pass0 (pa_cons (pv 0) (pa_cons pe_int pa_nil)))) pa_nil)) (blkOk_by (N := N_law_tested) (sc := defScope s_law_tested) (by decide +kernel)) (fun _ _ _ _ _ => (pg_name (i := 6) nd rfl (Or.inl rfl))) (fun _ _ _ _ _ => pts_nil) (fun _ _ _ _ _ => (pe_cl c__law_word (hr.mono (by decide)) rfl pass0 (pa_cons (pv 0) (pa_cons (pv 2) pa_nil))))) pa_nil)))
  (pss_cons (ps_set (i := 8) nd rfl (Or.inl rfl) (pe_callTy (call_tupleK (K := Z.K)) rfl T.b_tuple (by decide +kernel) (pa_cons (pe_lc (own := [("_law_k", 6)]) rfl nd (pi_range1 rfl T.b_range (pa_cons (pv 2) pa_nil)) (blkOk_by (N := N_law_tested) (sc := defScope s_law_tested) (by decide +kernel)) (fun _ _ _ _ _ => (pg_name (i := 6) nd rfl (Or.inl rfl))) (fun _ _ _ _ _ => pts_nil) (fun _ _ _ _ _ => pe_int)) pa_nil)))
  (pss_cons (ps_set (i := 9) nd rfl (Or.inl rfl) pe_int)
  (pss_cons (ps_for PassesOwn.never rfl (pi_tupK (K := Z.K) (pv 7)) (pg_name (i := 10) nd rfl (Or.inl rfl))
  (pss_cons (ps_set (i := 8) nd rfl (Or.inl rfl) (pe_cl c__law_plus (hr.mono (by decide)) rfl pass0 (pa_cons (pv 8) (pa_cons (pv 10) pa_nil))))
  (pss_one (ps_set (i := 9) nd rfl (Or.inl rfl) (pe_op op_add (pv 9) (pe_ix (ix_seqK (K := Z.K)) (pv 3) (pe_cl c__law_number (hr.mono (by decide)) rfl pass0 (pa_cons (pv 10) pa_nil)) (fun _ _ => rfl)))))))
  (pss_cons (ps_set (i := 11) nd rfl (Or.inl rfl) (pe_cl c_passes_sum (hr.mono (by decide)) rfl pass0 (pa_cons (pv 1) (pa_cons (pv 7) pa_nil))))
  (pss_cons (ps_if (PW.pt (pw_or (pt_not (pt_val (pe_callB (call_isiK (K := Z.K)) rfl T.b_isinstance (by decide +kernel) (pa_cons (pv 11) (pa_cons (pe_bltn rfl T.b_bool (by decide +kernel) (show RelV (.ty "bool") (.type "bool") from rfl)) pa_nil))))) (pw_or1 (pt_cmpR op_ne (pv 11) (pe_cmpR op_eq (pe_op op_modN (pe_callTy call_intN rfl T.b_int (by decide +kernel) (pa_cons (pv 9) pa_nil)) pe_int) (pe_ix (ix_seqK (K := Z.K)) (pv 3) (pe_cl c__law_number (hr.mono (by decide)) rfl pass0 (pa_cons (pv 8) pa_nil)) (fun _ _ => rfl)) (nomark _)) (nomark _))))) (pss_one (ps_ret pe_bl)) pss_nil)
  (pss_cons (ps_for PassesOwn.never rfl (pi_listK (K := Z.K) (pe_lst (pa_cons pe_int (pa_cons (pe_op op_add pe_int (pe_cl c__law_draw (hr.mono (by decide)) rfl pass0 (pa_cons (pv 0) (pa_cons pe_int pa_nil)))) pa_nil)))) (pg_name (i := 12) nd rfl (Or.inl rfl))
  (pss_cons (ps_set (i := 13) nd rfl (Or.inl rfl) pe_int)
  (pss_cons (ps_for PassesOwn.never rfl (pi_range1 rfl T.b_range (pa_cons (pe_op op_add (pv 12) pe_int) pa_nil)) (pg_name (i := 6) nd rfl (Or.inl rfl))
  (pss_one (ps_set (i := 13) nd rfl (Or.inl rfl) (pe_op op_mul (pv 13) (pv 5)))))
  (pss_cons (ps_set (i := 14) nd rfl (Or.inl rfl) (pv 13))
  (pss_cons (ps_for PassesOwn.never rfl (pi_listK (K := Z.K) (pv 4)) (pg_name (i := 15) nd rfl (Or.inl rfl))
  (pss_cons (ps_set (i := 16) nd rfl (Or.inl rfl) pe_int)
  (pss_cons (ps_for PassesOwn.never rfl (pi_range1 rfl T.b_range (pa_cons (pe_op op_add (pv 12) pe_int) pa_nil)) (pg_name (i := 6) nd rfl (Or.inl rfl))
  (pss_one (ps_set (i := 16) nd rfl (Or.inl rfl) (pe_op op_mul (pv 16) (pv 15)))))
  (pss_one (ps_set (i := 14) nd rfl (Or.inl rfl) (pe_op op_add (pv 14) (pv 16)))))))
  (pss_one (ps_if (pt_not (pt_val (pe_cl c__law_is (hr.mono (by decide)) rfl pass0 (pa_cons (pe_ckK c_passing_share (hr.mono (by decide)) rfl (fun σ => passLA σ) (pa_cons (pv 1) pa_nil) (pk_cons (pv 12) pk_nil)) (pa_cons (pv 14) (pa_cons (pe_op op_mul pe_int (pv 13)) pa_nil)))))) (pss_one (ps_ret pe_bl)) pss_nil)))))))
  (pss_cons (ps_set (i := 17) nd rfl (Or.inl rfl) (pe_op op_fdivN (pe_op op_sub (pv 5) (pe_callB (cr_maxK (K := Z.K) rfl) rfl T.b_max (by decide +kernel) (pa_cons (pv 4) pa_nil))) pe_int))
  (pss_cons (ps_set (i := 18) nd rfl (Or.inl rfl) (pe_callB (cr_sumK (K := Z.K) rfl) rfl T.b_sum (by decide +kernel) (pa_cons (pe_lc (own := [("_law_one", 15)]) rfl nd (pi_listK (K := Z.K) (pv 4)) (blkOk_by (N := N_law_tested) (sc := defScope s_law_tested) (by decide +kernel)) (fun _ _ _ _ _ => (pg_name (i := 15) nd rfl (Or.inl rfl))) (fun _ _ _ _ _ => pts_nil) (fun _ _ _ _ _ => (pe_op op_mul (pe_op op_mul (pv 15) (pv 15)) (pv 15)))) pa_nil)))
  (pss_cons (ps_if (pt_cmpR op_gt (pe_op op_add (pe_op op_pow (pv 5) pe_int) (pv 18)) (pe_op op_mul (pe_op op_mul (pe_op op_mul pe_int (pv 5)) (pv 5)) (pe_op op_sub (pv 5) (pv 17))) (nomark _)) (pss_one (ps_ret pe_bl)) pss_nil)
  (pss_cons (ps_if (pt_cmpR op_gt (pe_op op_add (pe_op op_pow (pv 5) pe_int) (pv 18)) (pe_op op_mul (pe_op op_mul pe_int (pv 5)) (pe_op op_add (pe_op op_sub (pe_op op_mul (pv 5) (pv 5)) (pe_op op_mul (pe_op op_mul pe_int (pv 17)) (pv 5))) (pe_op op_mul (pe_op op_mul pe_int (pv 17)) (pv 17)))) (nomark _)) (pss_one (ps_ret pe_bl)) pss_nil)
  (pss_one (ps_ret (pe_cl c__law_is (hr.mono (by decide)) rfl pass0 (pa_cons (pe_ckD c_passing_share (hr.mono (by decide)) rfl passL (pa_cons (pv 1) pa_nil)) (pa_cons (pe_op op_add (pe_op op_pow (pv 5) pe_int) (pv 18)) (pa_cons (pe_op op_mul pe_int (pe_op op_pow (pv 5) pe_int)) pa_nil)))))))))))))))))), ?_⟩
  show tSeq _ _ _ [some (.ref s), some (.ref t), some (.int n), some (.ref cl), some (.ref sl), none, none, none, none, none, none, none, none, none, none, none, none, none, none] H
  repeat walk_at "st"
  refine ⟨cl, _, rfl, .inl (SqL.of L.hc), ?_⟩
  rw [iv_len]
  repeat walk_at "st"
  refine ⟨s, c, 4, rfl, rfl, L.st, by decide, fun H1 d x1 S1 hd => ?_⟩
  have L1 := L.ext x1 S1
  repeat walk_at "st"
  refine ⟨_, rfl, by omega, by omega, fun D hD => ?_⟩
  rw [show ((1 : Int) + (d : Int)).toNat = d + 1 by omega]
  have nD := S1.ne hD
  refine lc_drawnR (s := s) (I := fun H => St H s c) (R := fun v H => ∃ q x, v = .ref q ∧ Wo H q n x ∧ x < 2 ^ n) walk_rng hD (Nat.lt_of_lt_of_le (by omega : d + 1 < 10) (by decide)) (fun _ _ _ => trivial) nD.1 (fun H2 o S2 => S2.upd nD.1 nD.2) S1 (fun v H2 H3 S2 ⟨q, x, e, h, hx⟩ x3 => ⟨q, x, e, x3.tup S2 h, hx⟩) (fun v H2 o ⟨l, hl⟩ ⟨q, x, e, h, hx⟩ => ⟨q, x, e, by show (L2.upd H2 D o) q = _; rw [upd_ne (ne_of h hl fun z => by cases z)]; exact h, hx⟩) (fun i v H2 H3 hi x2 S2 hy K1 hk => ?_) fun H2 l x2 S2 hl hR h2 => ?_
  · obtain ⟨rfl, rfl⟩ := hy
    refine w_name (σ' := [some (.ref s), some (.ref t), some (.int n), some (.ref cl), some (.ref sl), some (.int ((2 ^ n : Nat) : Int)), some (.int (i : Nat)), none, none, none, none, none, none, none, none, none, none, none, none]) rfl ⟨rfl, ?_⟩
    repeat walk_at "st"
    exact ⟨s, c, n, rfl, rfl, by omega, S2, fun H4 q x hq x4 S4 hx hw => hk _ _ ⟨q, x, rfl, hw, hx⟩ x4 S4⟩
  obtain ⟨xs, hws⟩ := ws_of hR
  have L2' := L1.ext x2 S2
  repeat walk_at "st"
  refine ⟨D, _, rfl, .inl ⟨SqL.of h2, fun q hq => ?_⟩⟩
  have y3 := XT.new (o := .tup l) hq
  have L3 := L2'.grow y3
  have hws3 := hws.ext y3
  have hlen : xs.length = d + 1 := by rw [← hws.len, hl]
  repeat walk_at "st"
  refine ⟨_, rfl, by omega, by omega, fun D2 hD2 => ?_⟩
  rw [Int.toNat_natCast]
  refine lc_map walk_rng (fun _ => .int 0) hD2 (Nat.lt_of_le_of_lt n6 (by decide)) (fun _ _ => trivial) (fun i x H4 H5 hi x4 hy K1 hk => ?_) fun H4 x4 hh => ?_
  · obtain ⟨rfl, rfl⟩ := hy
    refine w_name (σ' := [some (.ref s), some (.ref t), some (.int n), some (.ref cl), some (.ref sl), some (.int ((2 ^ n : Nat) : Int)), some (.int (i : Nat)), some (.ref q), none, none, none, none, none, none, none, none, none, none, none]) rfl ⟨rfl, ?_⟩
    repeat walk_at "st"
    exact hk _ XT.rfl'
  rw [wd_zero] at hh
  have L4 := L3.grow x4
  repeat walk_at "st"
  refine ⟨D2, _, rfl, .inl ⟨SqL.of hh, fun q2 hq2 => ?_⟩⟩
  have y5 := XT.new (o := .tup ((M.wd n 0).map V.int)) hq2
  have L5 := L4.grow y5
  have x45 := x4.trans y5
  have hq5 : (upd H4 q2 (.tup ((M.wd n 0).map V.int))) q = some (.tup l) := x45.tup upd_same
  have hws5 := hws3.ext x45
  have x05 : XS s H (upd H4 q2 (.tup ((M.wd n 0).map V.int))) := (x1.trans x2).trans (y3.trans x45).xs
  have hq25 : Wo (upd H4 q2 (.tup ((M.wd n 0).map V.int))) q2 n 0 := upd_same
  generalize (upd H4 q2 (.tup ((M.wd n 0).map V.int))) = H5 at *
  repeat walk_at "st"
  refine ⟨q, rfl, ⟨_, SqT.of hq5⟩, ?_⟩
  refine for_lit (walk_tup (K := Z.K) (a := q) (xs := l)) (fun i σ H2 => XT H5 H2 ∧ ∃ (tt : Addr) (z1 : Option V), Wo H2 tt n (xorF (xs.take i)) ∧ σ = [some (.ref s), some (.ref t), some (.int n), some (.ref cl), some (.ref sl), some (.int ((2 ^ n : Nat) : Int)), none, some (.ref q), some (.ref tt), some (.int ((xs.take i).map fun x => M.b2 (F x)).sum), z1, none, none, none, none, none, none, none, none]) ⟨XT.rfl', q2, none, hq25, rfl⟩ (fun i σ H2 _ h2 => SqT.of (h2.1.tup hq5)) ?_ ?_
  · rintro i v σ H6 H7 hi ⟨x6, tt, z1, htt, rfl⟩ ⟨rfl, hv⟩
    obtain ⟨p, x, rfl, hx, hw, hlt⟩ := (hws5.ext x6).nth hv
    have L6 := L5.grow x6
    refine w_name (σ' := [some (.ref s), some (.ref t), some (.int n), some (.ref cl), some (.ref sl), some (.int ((2 ^ n : Nat) : Int)), none, some (.ref q), some (.ref tt), some (.int ((xs.take i).map fun x => M.b2 (F x)).sum), some (.ref p), none, none, none, none, none, none, none, none]) rfl ?_
    repeat walk_at "st"
    refine ⟨tt, p, n, _, x, rfl, rfl, htt, hw, by omega, fun H8 r hr8 x8 hr => ?_⟩
    have L8 := L6.grow x8
    repeat walk_at "st"
    refine ⟨p, _, rfl, x8.tup hw, ?_⟩
    rw [num_of hlt]
    refine w_ixl (SqL.of L8.hc) (iv_at hlt) ?_
    repeat walk_at "st"
    refine ⟨x6.trans x8, r, some (.ref p), ?_, ?_⟩
    · rw [takeS hx, show xorF (xs.take i ++ [x]) = xorF (xs.take i) ^^^ x from by unfold xorF; rw [List.foldl_append]; rfl]
      exact hr
    · rw [takeS hx, List.map_append, List.sum_append]
      simp
  rintro σ H6 ⟨x6, tt, z1, htt, rfl⟩
  have L6 := L5.grow x6
  rw [hws.len, List.take_length] at htt
  rw [hws.len, List.take_length]
  repeat walk_at "st"
  refine ⟨t, q, n, F, l, xs, rfl, rfl, L6.tb, x6.tup hq5, hws5.ext x6, by omega, L6.al.a, L6.al.s, fun H7 x7 => ?_⟩
  have L7 := L6.grow x7
  repeat walk_at "st"
  refine isi (.base (.bl _)) (kit_ty (r := true) (by decide +kernel)) (w_bl ?_)
  refine iteF ?_
  repeat walk_at "st"
  refine w_int ?_
  repeat walk_at "st"
  refine w_I (by decide) ?_
  repeat walk_at "st"
  refine ⟨tt, _, rfl, x7.tup htt, ?_⟩
  have hxl : xorF xs < 2 ^ n := xor_lt (M.pow_pos2 n) hws.lt
  rw [num_of hxl]
  refine w_ixl (SqL.of L7.hc) (iv_at hxl) ?_
  repeat walk_at "st"
  have hpar := sum_par F xs false 0 rfl
  rw [Int.zero_add] at hpar
  rw [Int.fmod_eq_emod_of_nonneg _ (by decide), hpar, b2_eq]
  have hne : ∀ b : Bool, (b != b) = false := by decide
  rw [hne]
  refine iteF ?_
  repeat walk_at "st"
  refine ⟨s, c, 6, rfl, rfl, L7.st, by decide, fun H8 d2 x8 S8 hd2 => ?_⟩
  have L8 := L7.ext x8 S8
  repeat walk_at "st"
  refine ⟨by show 2 ≤ sizeLine; decide, fun lm hlm => ?_⟩
  have L9 := L8.grow (XT.new (o := .lst [.int 2, .int (1 + (d2 : Int))]) hlm)
  have hlm9 : (upd H8 lm (.lst [.int 2, .int (1 + (d2 : Int))])) lm = some (.lst [.int 2, .int (1 + (d2 : Int))]) := upd_same
  have x09 : XS s H (upd H8 lm (.lst [.int 2, .int (1 + (d2 : Int))])) := (x05.trans (x6.trans x7).xs).trans (x8.add hlm)
  generalize (upd H8 lm (.lst [.int 2, .int (1 + (d2 : Int))])) = H9 at *
  refine ⟨lm, rfl, ⟨_, SqL.of hlm9⟩, ?_⟩
  have big : ∀ m, m ≤ 6 → -(2 ^ 42) * 64 ≤ psF n m F ∧ psF n m F ≤ 2 ^ 42 * 64 := fun m hm => by
    have h := sum_bound (fun a => Wf n F a ^ (m + 1)) (2 ^ 42) (2 ^ n) fun i _ => pow_bnd (Wf_b n6 F i).1 (Wf_b n6 F i).2 (by omega)
    rw [← M.S_list] at h
    have h2 : ((2 ^ n : Nat) : Int) * 2 ^ 42 ≤ 64 * 2 ^ 42 := Int.mul_le_mul_of_nonneg_right r6 (by decide)
    have h3 : psF n m F = M.S n fun a => Wf n F a ^ (m + 1) := rfl
    omega
  refine for_lit (walk_list (K := Z.K) (a := lm) (xs := [.int 2, .int (1 + (d2 : Int))])) (fun i σ H2 => XT H9 H2 ∧ ∃ (z0 z1 z2 z3 z4 z5 z6 z7 z8 z9 z10 : Option V), σ = [some (.ref s), some (.ref t), some (.int n), some (.ref cl), some (.ref sl), some (.int ((2 ^ n : Nat) : Int)), z0, z1, z2, z3, z4, z5, z6, z7, z8, z9, z10, none, none]) ⟨XT.rfl', _, _, _, _, _, _, _, _, _, _, _, rfl⟩ (fun i σ H2 _ h2 => SqL.of (h2.1.lst hlm9)) ?_ ?_
  · rintro i v σ H10 H11 hi ⟨x10, z0, z1, z2, z3, z4, z5, z6, z7, z8, z9, z10, rfl⟩ ⟨rfl, hv⟩
    have L10 := L9.grow x10
    obtain ⟨m, rfl, m1, m6⟩ : ∃ m : Nat, v = .int (m : Nat) ∧ 1 ≤ m ∧ m ≤ 6 := by
      match i, hi, hv with
      | 0, _, hv => cases hv; exact ⟨2, rfl, by decide, by decide⟩
      | 1, _, hv => cases hv; exact ⟨1 + d2, by simp, by omega, by omega⟩
      | i + 2, hi, _ => exact absurd hi (by show ¬ (i + 2 < 2); omega)
    obtain ⟨t1, t2⟩ := psT_b n6 m6
    obtain ⟨f1, f2⟩ := big m m6
    refine w_name (σ' := [some (.ref s), some (.ref t), some (.int n), some (.ref cl), some (.ref sl), some (.int ((2 ^ n : Nat) : Int)), z0, z1, z2, z3, z4, z5, some (.int (m : Nat)), z7, z8, z9, z10, none, none]) rfl ?_
    repeat walk_at "st"
    refine ⟨_, rfl, by omega, by omega, ?_⟩
    rw [show ((m : Int) + 1).toNat = m + 1 by omega]
    refine for_lit walk_rng (fun i σ H2 => H2 = H11 ∧ ∃ (z0 : Option V), σ = [some (.ref s), some (.ref t), some (.int n), some (.ref cl), some (.ref sl), some (.int ((2 ^ n : Nat) : Int)), z0, z1, z2, z3, z4, z5, some (.int (m : Nat)), some (.int (((2 ^ n : Nat) : Int) ^ i)), z8, z9, z10, none, none]) ⟨rfl, z0, by rw [Int.pow_zero]⟩ (fun _ _ _ _ _ => trivial) ?_ ?_
    · rintro i v σ H12 H13 hi ⟨rfl, z0, rfl⟩ ⟨rfl, rfl⟩
      refine w_name (σ' := [some (.ref s), some (.ref t), some (.int n), some (.ref cl), some (.ref sl), some (.int ((2 ^ n : Nat) : Int)), some (.int (i : Nat)), z1, z2, z3, z4, z5, some (.int (m : Nat)), some (.int (((2 ^ n : Nat) : Int) ^ i)), z8, z9, z10, none, none]) rfl ?_
      repeat walk_at "st"
      refine w_I (.inr ⟨by omega, by omega⟩) ?_
      repeat walk_at "st"
      exact ⟨rfl, some (.int (i : Nat)), by rw [Int.pow_succ]⟩
    rintro σ H12 ⟨rfl, z0, rfl⟩
    have rename : True := trivial
    repeat walk_at "st"
    refine ⟨sl, rfl, ⟨_, SqL.of L10.hs⟩, ?_⟩
    refine for_lit (walk_list (K := Z.K) (a := sl) (xs := iv n (Wf n F))) (fun j σ H2 => H2 = H12 ∧ ∃ (w0 w1 w2 : Option V), σ = [some (.ref s), some (.ref t), some (.int n), some (.ref cl), some (.ref sl), some (.int ((2 ^ n : Nat) : Int)), w0, z1, z2, z3, z4, z5, some (.int (m : Nat)), some (.int (psT n m)), some (.int (psT n m + ((List.range j).map fun a => Wf n F a ^ (m + 1)).sum)), w1, w2, none, none]) ⟨rfl, z0, z9, z10, by rw [List.range_zero, List.map_nil, List.sum_nil, Int.add_zero]⟩ (fun i σ H2 _ h2 => by rw [h2.1]; exact SqL.of L10.hs) ?_ ?_
    · rintro j v σ H13 H14 hj ⟨rfl, w0, w1, w2, rfl⟩ ⟨rfl, hv⟩
      rw [iv_len] at hj
      rw [M.tab_get hj] at hv
      cases hv
      have hWb := Wf_b n6 F j
      refine w_name (σ' := [some (.ref s), some (.ref t), some (.int n), some (.ref cl), some (.ref sl), some (.int ((2 ^ n : Nat) : Int)), w0, z1, z2, z3, z4, z5, some (.int (m : Nat)), some (.int (psT n m)), some (.int (psT n m + ((List.range j).map fun a => Wf n F a ^ (m + 1)).sum)), some (.int (Wf n F j)), w2, none, none]) rfl ?_
      repeat walk_at "st"
      refine ⟨_, rfl, by omega, by omega, ?_⟩
      rw [show ((m : Int) + 1).toNat = m + 1 by omega]
      refine for_lit walk_rng (fun i σ H2 => H2 = H14 ∧ ∃ (w0 : Option V), σ = [some (.ref s), some (.ref t), some (.int n), some (.ref cl), some (.ref sl), some (.int ((2 ^ n : Nat) : Int)), w0, z1, z2, z3, z4, z5, some (.int (m : Nat)), some (.int (psT n m)), some (.int (psT n m + ((List.range j).map fun a => Wf n F a ^ (m + 1)).sum)), some (.int (Wf n F j)), some (.int (Wf n F j ^ i)), none, none]) ⟨rfl, w0, by rw [Int.pow_zero]⟩ (fun _ _ _ _ _ => trivial) ?_ ?_
      · rintro i v σ H15 H16 hi ⟨rfl, w0, rfl⟩ ⟨rfl, rfl⟩
        refine w_name (σ' := [some (.ref s), some (.ref t), some (.int n), some (.ref cl), some (.ref sl), some (.int ((2 ^ n : Nat) : Int)), some (.int (i : Nat)), z1, z2, z3, z4, z5, some (.int (m : Nat)), some (.int (psT n m)), some (.int (psT n m + ((List.range j).map fun a => Wf n F a ^ (m + 1)).sum)), some (.int (Wf n F j)), some (.int (Wf n F j ^ i)), none, none]) rfl ?_
        repeat walk_at "st"
        refine w_I (.inr ⟨by omega, by omega⟩) ?_
        repeat walk_at "st"
        exact ⟨rfl, some (.int (i : Nat)), by rw [Int.pow_succ]⟩
      rintro σ H15 ⟨rfl, w0, rfl⟩
      repeat walk_at "st"
      refine ⟨rfl, w0, some (.int (Wf n F j)), some (.int (Wf n F j ^ (m + 1))), ?_⟩
      rw [List.range_succ, List.map_append, List.sum_append]
      simp [Int.add_assoc]
    rintro σ H13 ⟨rfl, w0, w1, w2, rfl⟩
    rw [iv_len, ← M.S_list]
    repeat walk_at "st"
    refine ⟨rfl, rfl, ⟨_, _, rfl, t, n, F, rfl, L10.tb, .inl ⟨m, rfl, m1, m6, L10.al.q, fun H14 r x14 hs => ?_⟩⟩⟩
    repeat walk_at "st"
    refine w_I (.inl (by decide)) ?_
    repeat walk_at "st"
    refine ⟨r, psT n m + psF n m F, 2 * psT n m, rfl, rfl, rfl, by omega, by omega, by omega, by omega, hs, ?_⟩
    repeat walk_at "st"
    refine iteF ?_
    repeat walk_at "st"
    exact ⟨x10.trans x14, _, _, _, _, _, _, _, _, _, _, _, rfl⟩
  rintro σ H10 ⟨x10, z0, z1, z2, z3, z4, z5, z6, z7, z8, z9, z10, rfl⟩
  have L10 := L9.grow x10
  repeat walk_at "st"
  refine w_max L10.hs fun m hm => ?_
  repeat walk_at "st"
  refine w_I (show CDivN _ _ from ⟨by decide, by decide⟩) ?_
  repeat walk_at "st"
  refine ⟨sl, rfl, ⟨_, SqL.of L10.hs⟩, fun D3 hD3 => ?_⟩
  refine lc_map (walk_list (K := Z.K) (a := sl) (xs := iv n (Wf n F))) (fun a => .int (Wf n F a * Wf n F a * Wf n F a)) hD3 (by rw [iv_len]; exact Nat.lt_of_le_of_lt p6 (by decide)) (fun H4 x4 => SqL.of (x4.lst L10.hs)) (fun i y H4 H5 hi x4 hy K1 hk => ?_) fun H11 x11 hh11 => ?_
  · obtain ⟨rfl, hx⟩ := hy
    rw [iv_len] at hi
    rw [M.tab_get hi] at hx
    cases hx
    have hWb := Wf_b n6 F i
    refine w_name (σ' := [some (.ref s), some (.ref t), some (.int n), some (.ref cl), some (.ref sl), some (.int ((2 ^ n : Nat) : Int)), z0, z1, z2, z3, z4, z5, z6, z7, z8, some (.int (Wf n F i)), z10, some (.int ((((2 ^ n : Nat) : Int) - m).fdiv 2)), none]) rfl ⟨rfl, ?_⟩
    repeat walk_at "st"
    refine w_I (.inr ⟨by omega, by omega⟩) ?_
    repeat walk_at "st"
    refine w_I (.inr ⟨by omega, by omega⟩) ?_
    exact hk _ XT.rfl'
  rw [iv_len] at hh11
  have L11 := L10.grow x11
  repeat walk_at "st"
  refine ⟨D3, M.tab n fun a => Wf n F a * Wf n F a * Wf n F a, rfl, SqL.of (by rw [hh11]; simp [M.tab]), ?_⟩
  have e3 : (M.tab n fun a => Wf n F a * Wf n F a * Wf n F a).sum = M.S n fun a => Wf n F a * Wf n F a * Wf n F a := by rw [M.S_list]; rfl
  rw [e3]
  have e3' : (M.S n fun a => Wf n F a * Wf n F a * Wf n F a) = psF n 2 F := M.S_congr fun a _ => by
    rw [Int.pow_succ, Int.pow_succ, Int.pow_succ, Int.pow_zero, Int.one_mul]
  have hev := max_even hm
  have hb1 : (M.S n fun a => Wf n F a * Wf n F a * Wf n F a) ≤ m * (((2 ^ n : Nat) : Int) * ((2 ^ n : Nat) : Int)) := by
    have := M.S_pow_bound (n := n) (F := F) (m := m) hm.2
    rw [show ((2 ^ n : Nat) : Int) = (2 : Int) ^ n from by simp]
    exact this
  have hb2 : (M.S n fun a => Wf n F a * Wf n F a * Wf n F a) ≤ ((2 ^ n : Nat) : Int) * (((2 ^ n : Nat) : Int) * ((2 ^ n : Nat) : Int) - 6 * ((2 ^ n : Nat) : Int) * (((2 ^ n : Nat) : Int) - m).fdiv 2 + 12 * ((((2 ^ n : Nat) : Int) - m).fdiv 2 * (((2 ^ n : Nat) : Int) - m).fdiv 2)) := by
    obtain ⟨a0, ha0, ea0⟩ := hm.1
    have h := M.cube_bound (F := F) ha0
    have h2 := M.dist_eq n F a0
    have ed : (M.S n fun y => M.b2 (F y ^^ M.dot n a0 y)) = (((2 ^ n : Nat) : Int) - m).fdiv 2 := by
      have h3 : M.W n (fun x => M.sg (F x)) a0 = m := ea0
      rw [h3, show (2 : Int) ^ n = ((2 ^ n : Nat) : Int) from by simp] at h2
      omega
    rw [show ((2 ^ n : Nat) : Int) = (2 : Int) ^ n from by simp] at ed ⊢
    rw [← ed]
    exact h
  generalize hfar : (((2 ^ n : Nat) : Int) - m).fdiv 2 = far at *
  generalize hth : (M.S n fun a => Wf n F a * Wf n F a * Wf n F a) = th at *
  have hNN : 0 ≤ far ∧ far ≤ 64 := by
    obtain ⟨a0, ha0, ea0⟩ := hm.1
    have := M.W_bound (n := n) (f := fs F) (fun x _ => fs_1 F x) a0
    rw [show (2 : Int) ^ n = ((2 ^ n : Nat) : Int) from by simp] at this
    have h2 : M.W n (fs F) a0 = m := ea0
    omega
  have hc3 : ((2 ^ n : Nat) : Int) ^ (3 : Int).toNat = ((2 ^ n : Nat) : Int) * ((2 ^ n : Nat) : Int) * ((2 ^ n : Nat) : Int) := by
    show ((2 ^ n : Nat) : Int) ^ 3 = _
    rw [Int.pow_succ, Int.pow_succ, Int.pow_succ, Int.pow_zero, Int.one_mul]
  have hps : psT n 2 = ((2 ^ n : Nat) : Int) * ((2 ^ n : Nat) : Int) * ((2 ^ n : Nat) : Int) := by
    show ((2 ^ n : Nat) : Int) ^ 3 = _
    rw [Int.pow_succ, Int.pow_succ, Int.pow_succ, Int.pow_zero, Int.one_mul]
  obtain ⟨t1, t2⟩ := psT_b n6 (show 2 ≤ 6 by decide)
  obtain ⟨f1, f2⟩ := big 2 (by decide)
  rw [hps] at t1 t2
  repeat walk_at "st"
  refine w_I (by refine ⟨by decide, by decide, by omega⟩) ?_
  rw [hc3]
  repeat walk_at "st"
  refine w_I (.inl (by decide)) ?_
  repeat walk_at "st"
  refine w_I (.inl ⟨by omega, by omega⟩) ?_
  repeat walk_at "st"
  refine w_I (.inr ⟨by omega, by omega⟩) ?_
  repeat walk_at "st"
  rw [decide_eq_false (by
    have : 2 * ((2 ^ n : Nat) : Int) * ((2 ^ n : Nat) : Int) * (((2 ^ n : Nat) : Int) - far) = ((2 ^ n : Nat) : Int) * ((2 ^ n : Nat) : Int) * ((2 ^ n : Nat) : Int) + m * (((2 ^ n : Nat) : Int) * ((2 ^ n : Nat) : Int)) := by
      have hmm : m = ((2 ^ n : Nat) : Int) - 2 * far := by omega
      rw [hmm]
      generalize ((2 ^ n : Nat) : Int) = N
      grind
    rw [this]
    omega)]
  refine iteF ?_
  repeat walk_at "st"
  refine w_I (by refine ⟨by decide, by decide, by omega⟩) ?_
  rw [hc3]
  repeat walk_at "st"
  refine w_I (.inl (by decide)) ?_
  repeat walk_at "st"
  refine w_I (.inl ⟨by omega, by omega⟩) ?_
  repeat walk_at "st"
  refine w_I (.inl (by decide)) ?_
  repeat walk_at "st"
  refine w_I (.inl ⟨by omega, by omega⟩) ?_
  repeat walk_at "st"
  refine w_I (.inl (by decide)) ?_
  repeat walk_at "st"
  refine w_I (.inl ⟨by omega, by omega⟩) ?_
  repeat walk_at "st"
  refine w_I (.inl ⟨by omega, by omega⟩) ?_
  repeat walk_at "st"
  rw [decide_eq_false (by
    have : 2 * ((2 ^ n : Nat) : Int) * (((2 ^ n : Nat) : Int) * ((2 ^ n : Nat) : Int) - 3 * far * ((2 ^ n : Nat) : Int) + 6 * far * far) = ((2 ^ n : Nat) : Int) * ((2 ^ n : Nat) : Int) * ((2 ^ n : Nat) : Int) + ((2 ^ n : Nat) : Int) * (((2 ^ n : Nat) : Int) * ((2 ^ n : Nat) : Int) - 6 * ((2 ^ n : Nat) : Int) * far + 12 * (far * far)) := by
      generalize ((2 ^ n : Nat) : Int) = N
      grind
    rw [this]
    omega)]
  refine iteF ?_
  repeat walk_at "st"
  refine ⟨t, n, F, rfl, L11.tb, .inl ⟨2, rfl, by decide, by decide, L11.al.q, fun H12 r x12 hs => ?_⟩⟩
  have L12 := L11.grow x12
  repeat walk_at "st"
  refine w_I (by refine ⟨by decide, by decide, by omega⟩) ?_
  rw [hc3]
  repeat walk_at "st"
  refine w_I (by refine ⟨by decide, by decide, by omega⟩) ?_
  rw [hc3]
  repeat walk_at "st"
  refine w_I (.inl (by decide)) ?_
  repeat walk_at "st"
  rw [hps, ← e3'] at hs
  refine ⟨r, _, _, rfl, rfl, rfl, by omega, by omega, by omega, by omega, hs, ?_⟩
  exact k _ (x09.trans ((x10.trans x11).trans x12).xs) L12.st
end
end Q
set_option Elab.async false
set_option linter.all false
set_option maxRecDepth 100000
set_option maxHeartbeats 1000000
namespace Q
open PySem PySem.Spec PyProof.Rows L2
local macro_rules | `(tactic| walk_at "st") => `(tactic| first
  | with_reducible refine w_seq ?_ | with_reducible refine w_next ?_ | with_reducible refine w_ret ?_ | with_reducible refine w_ifs ?_ | with_reducible refine w_asg ?_ | with_reducible refine w_drop ?_
  | with_reducible refine w_name (by simp only [List.set_cons_zero, List.set_cons_succ]; rfl) ?_
  | with_reducible refine w_var (by with_unfolding_all rfl) ?_
  | with_reducible refine w_c ?_ | with_reducible refine w_op ?_ | with_reducible refine w_un ?_ | with_reducible refine w_cons ?_ | with_reducible refine w_nil ?_ | with_reducible refine w_cb ?_ | with_reducible refine w_call ?_
  | with_reducible refine w_and ?_ | with_reducible refine w_or ?_ | with_reducible refine w_not ?_ | with_reducible refine w_tb ?_ | with_reducible refine w_tt ?_ | with_reducible refine w_bl ?_
  | with_reducible refine w_tand ?_ | with_reducible refine w_tor ?_ | with_reducible refine w_tnot ?_ | with_reducible refine w_yes ?_ | with_reducible refine w_chain ?_
  | with_reducible refine w_I0 ?_ | with_reducible refine w_eqI ?_ | with_reducible refine w_neI ?_ | with_reducible refine w_eqB ?_ | with_reducible refine w_neB ?_
  | with_reducible refine w_fl ?_ | with_reducible refine w_rng ?_ | with_reducible refine w_lst ?_ | with_reducible refine w_tup ?_
  | with_reducible refine w_sfld ?_ | with_reducible refine w_tmk ?_ | with_reducible refine w_gsub ?_ | with_reducible refine w_for ?_ | with_reducible refine w_tlc ?_ | with_reducible refine w_gx ?_ | with_reducible refine w_itup ?_ | with_reducible refine w_ilst ?_ | with_reducible refine w_izp ?_
  | with_reducible refine w_sl ?_ | with_reducible refine w_part ?_ | with_reducible refine w_pint ?_ | with_reducible refine w_nopart ?_
  | with_reducible refine w_rz ?_ | with_reducible refine w_callS ?_ | with_reducible refine w_callNS ?_ | with_reducible refine w_callD ?_ | with_reducible refine w_2d ?_ | with_reducible refine w_par ?_
  | with_reducible refine w_1 ?_ | with_reducible refine w_2 ?_ | with_reducible refine w_3 ?_ | with_reducible refine w_4 ?_ | with_reducible refine w_5 ?_)
theorem w_bm {K : W.Frag} {T : String} {r : V → List V → Hp → VK → Prop} {to : TE} {t : TA} {σ : L2.St} {H : Hp} {Qe : VK} (k : to σ H fun x H1 => tyV K T x H1 ∧ t σ H1 fun xs H2 => r x xs H2 Qe) : tBM K T r to t σ H Qe := k
theorem least_of {n : Nat} {g : Nat → Int} {m : Int} (h : ∃ i, i < 2 ^ n ∧ g i = m) : ∃ j, j < 2 ^ n ∧ g j = m ∧ ∀ i, i < j → g i ≠ m := by
  obtain ⟨i, hi, e⟩ := h
  induction i using Nat.strongRecOn with
  | _ i ih =>
    by_cases c : ∃ k, k < i ∧ g k = m
    · obtain ⟨k, hk, ek⟩ := c
      exact ih k hk (by omega) ek
    · exact ⟨i, hi, e, fun k hk ek => c ⟨k, hk, ek⟩⟩
/-- sums.index(m) -/
theorem w_index {K : W.Frag} {H : Hp} {sl : Addr} {n : Nat} {g : Nat → Int} {m : Int} {Qe : VK} (h : H sl = some (.lst (iv n g))) (hm : ∃ i, i < 2 ^ n ∧ g i = m) (k : ∀ j, j < 2 ^ n → g j = m → Qe (.int (j : Nat)) H) : rIndex K (.ref sl) [.int m] H Qe := by
  obtain ⟨j, hj, e, hl⟩ := least_of hm
  refine ⟨sl, iv n g, .int m, j, .int (g j), rfl, rfl, SqL.of h, rfl, ?_, M.tab_get hj, ?_, fun i z' hi hz => ?_, k j hj e⟩
  · rw [List.all_eq_true]
    intro v hv
    obtain ⟨x, _, rfl⟩ := List.mem_map.mp hv
    rfl
  · rw [e]; simp [eqV]
  · rw [M.tab_get (by omega)] at hz
    cases hz
    have := hl i hi
    simp [eqV, this]
theorem b2_add (a b : Bool) : (M.b2 a + M.b2 b).fmod 2 = M.b2 (b ^^ a) := by cases a <;> cases b <;> decide
theorem b2_add' (a b : Bool) : (M.b2 a + M.b2 b).fmod 2 = M.b2 (a ^^ b) := by cases a <;> cases b <;> decide
section
variable {Z : Wd} {TC SC : Addr}
abbrev N_law_mended : List Str := ["_law_state", "_law_table", "_law_n", "_law_cells_here", "_law_sums", "_law_size", "_law_k", "_law_word_here", "_law_at", "_law_by", "_law_one", "_law_due", "_law_many", "_law_number_here", "_law_other", "_law_raised", "_law_bit", "e", "_law_nearest"]
theorem S_law_mended : FnScope N_law_mended ["_law_state", "_law_table", "_law_n", "_law_cells_here", "_law_sums"] (defScope s_law_mended) := ⟨rfl, rfl, rfl, by decide +kernel, rfl, by decide +kernel, by decide +kernel⟩
theorem B_law_mended : Bnd "_law_mended" "_law_mended" s_law_mended ["_law_state", "_law_table", "_law_n", "_law_cells_here", "_law_sums"] := fun _ _ _ _ _ _ us hl => match us, hl with | [_, _, _, _, _], _ => rfl
abbrev p_law_mended (τ : Ta) (TC : Addr) : Sp := sp5 fun a b c' d e H Q _ => ∃ s c t cl sl n F, a = .ref s ∧ b = .ref t ∧ c' = .int (n : Nat) ∧ d = .ref cl ∧ e = .ref sl ∧ LawH τ TC H s c t cl sl n F ∧ ∀ H', XS s H H' → St H' s c → Q (.bl true) H'
theorem c_law_mended (T : Tx Z TC SC) {τ : Ta} {XU : Addr} (F : Fn Z "_law_mended" "_law_mended" s_law_mended) (c__law_word : Cl Z CX0 2 "_law_word" p_law_word) (c__law_number : Cl Z CX0 1 "_law_number" p_bits_number) (c_mended : Cl Z CX0 11 "mended" (p_mended TC τ.A)) (c__law_plus : Cl Z CX0 1 "_law_plus" p_law_plus)
    (c__law_integer : Cl Z CX0 1 "_law_integer" p_is_integer) (c__law_bits : Cl Z CX0 1 "_law_bits" p_law_bits) (c__law_is : Cl Z CX0 2 "_law_is" (p_law_is SC)) (c_one_share : Cl Z CX0 12 "one_share" (p_one_share TC SC τ.A τ.O)) (x_Undefined : XCls Z XU "Undefined" "what")
    (c_mended_bit : Cl Z (L2.CX Z.P Z.w) 12 "mended_bit" (p_mended_bit TC τ.A τ.O XU)) (c__law_dot : Cl Z CX0 1 "_law_dot" p_law_dot) : Cl Z CX0 13 "_law_mended" (p_law_mended τ TC) := by
  refine F.cl S_law_mended B_law_mended len5 fun f cdv A outer sh H vs Q E hr h => ?_
  obtain ⟨_, _, _, _, _, rfl, s, c, t, cl, sl, n, F, rfl, rfl, rfl, rfl, rfl, L, k⟩ := h
  have nd := S_law_mended.nd
  have n1 := L.tb.n1
  have n6 := L.tb.n6
  have p6 := pow6 n6
  obtain ⟨q6, r6⟩ := pow6i n6
  refine ⟨_, (pss_cons (ps_set (i := 5) nd rfl (Or.inl rfl) (pe_callB (call_lenK (K := Z.K)) rfl T.b_len (by decide +kernel) (pa_cons (pv 3) pa_nil)))
  (pss_cons (ps_for PassesOwn.never rfl (pi_range1 rfl T.b_range (pa_cons pe_int pa_nil)) (pg_name (i := 6) nd rfl (Or.inl rfl))
  (pss_cons (ps_set (i := 7) nd rfl (Or.inl rfl) (pe_cl c__law_word (hr.mono (by decide)) rfl pass0 (pa_cons (pv 0) (pa_cons (pv 2) pa_nil))))
  (pss_cons (ps_set (i := 8) nd rfl (Or.inl rfl) (pe_cl c__law_number (hr.mono (by decide)) rfl pass0 (pa_cons (pv 7) pa_nil)))
  (pss_cons (ps_set (i := 9) nd rfl (Or.inl rfl) (pe_cl c__law_word (hr.mono (by decide)) rfl pass0 (pa_cons (pv 0) (pa_cons (pv 2) pa_nil))))
  (pss_cons (ps_set (i := 10) nd rfl (Or.inl rfl) (pe_cl c_mended (hr.mono (by decide)) rfl pass0 (pa_cons (pv 1) (pa_cons (pv 7) (pa_cons (pv 9) pa_nil)))))
  (pss_cons (ps_set (i := 11) nd rfl (Or.inl rfl) (pe_op op_modN (pe_callTy call_intN rfl T.b_int (by decide +kernel) (pa_cons (pe_op op_add (pe_ix (ix_seqK (K := Z.K)) (pv 3) (pe_cl c__law_number (hr.mono (by decide)) rfl pass0 (pa_cons (pe_cl c__law_plus (hr.mono (by decide)) rfl pass0 (pa_cons (pv 7) (pa_cons (pv 9) pa_nil))) pa_nil)) (fun _ _ => rfl)) (pe_ix (ix_seqK (K := Z.K)) (pv 3) (pe_cl c__law_number (hr.mono (by decide)) rfl pass0 (pa_cons (pv 9) pa_nil)) (fun _ _ => rfl))) pa_nil)) pe_int))
  (pss_cons (ps_if (PW.pt (pw_or (pt_not (pt_val (pe_cl c__law_integer (hr.mono (by decide)) rfl pass0 (pa_cons (pv 10) pa_nil)))) (pw_or1 (pt_cmpR op_ne (pv 10) (pv 11) (nomark _))))) (pss_one (ps_ret pe_bl)) pss_nil)
  (pss_cons (ps_set (i := 12) nd rfl (Or.inl rfl) pe_int)
  (pss_cons (ps_for PassesOwn.never rfl (pi_range1 rfl T.b_range (pa_cons (pv 5) pa_nil)) (pg_name (i := 13) nd rfl (Or.inl rfl))
  (pss_cons (ps_set (i := 14) nd rfl (Or.inl rfl) (pe_cl c__law_number (hr.mono (by decide)) rfl pass0 (pa_cons (pe_cl c__law_plus (hr.mono (by decide)) rfl pass0 (pa_cons (pv 7) (pa_cons (pe_cl c__law_bits (hr.mono (by decide)) rfl pass0 (pa_cons (pv 13) (pa_cons (pv 2) pa_nil))) pa_nil))) pa_nil)))
  (pss_one (ps_set (i := 12) nd rfl (Or.inl rfl) (pe_op op_add (pv 12) (pe_op op_modN (pe_callTy call_intN rfl T.b_int (by decide +kernel) (pa_cons (pe_op op_add (pe_ix (ix_seqK (K := Z.K)) (pv 3) (pv 13) (fun _ _ => rfl)) (pe_ix (ix_seqK (K := Z.K)) (pv 3) (pv 14) (fun _ _ => rfl))) pa_nil)) pe_int))))))
  (pss_cons (ps_if (pt_not (pt_val (pe_cl c__law_is (hr.mono (by decide)) rfl pass0 (pa_cons (pe_cl c_one_share (hr.mono (by decide)) rfl pass0 (pa_cons (pv 1) (pa_cons (pv 7) pa_nil))) (pa_cons (pv 12) (pa_cons (pv 5) pa_nil)))))) (pss_one (ps_ret pe_bl)) pss_nil)
  (pss_cons (ps_set (i := 15) nd rfl (Or.inl rfl) pe_bl)
  (pss_cons (ps_set (i := 16) nd rfl (Or.inl rfl) pe_int)
  (Evl.pss_cut (ps_try_as (i := 17) rfl rfl nd rfl rfl ⟨rfl, by decide, .inl x_Undefined.m⟩ takes0 (fun W pn xe tk _ => (pss_one (ps_set (i := 16) nd rfl (Or.inl rfl) (pe_clS c_mended_bit (hr.mono (by decide)) rfl (fun σ => passAt tk σ) (pa_cons (pv 1) (pa_cons (pv 7) pa_nil))))))
  (fun a oe cls d pn hz hf => (pss_cons (ps_if (pt_cmpR op_ne (pe_xf x_Undefined.xf x_Undefined.no hz hf (pv 17)) pe_str (nomark _)) (pss_one (ps_ret pe_bl)) pss_nil)
  (pss_one (ps_set (i := 15) nd rfl (Or.inl rfl) pe_bl)))))
  (pss_cons (ps_if (pt_cmpR op_ne (pv 15) (pe_cmpR op_eq (pe_op op_mul pe_int (pv 12)) (pv 5) (nomark _)) (nomark _)) (pss_one (ps_ret pe_bl)) pss_nil)
  (pss_cons (ps_if (PW.pt (pw_and (pt_not (pt_val (pv 15))) (pw_and1 (PW.pt (pw_or (pt_not (pt_val (pe_cl c__law_integer (hr.mono (by decide)) rfl pass0 (pa_cons (pv 16) pa_nil)))) (pw_or1 (pt_cmpR op_ne (pv 16) (pe_callTy call_intN rfl T.b_int (by decide +kernel) (pa_cons (pe_cmpR op_gt (pe_op op_mul pe_int (pv 12)) (pv 5) (nomark _)) pa_nil)) (nomark _)))))))) (pss_one (ps_ret pe_bl)) pss_nil)
  (pss_cons (ps_set (i := 18) nd rfl (Or.inl rfl) (pe_cl c__law_bits (hr.mono (by decide)) rfl pass0 (pa_cons (pe_bm PySem.F.plainAttrs_list PySem.F.slot_list_index PySem.F.type_list_index mt_index (pv 4) (pa_cons (pe_callB (cr_maxK (K := Z.K) rfl) rfl T.b_max (by decide +kernel) (pa_cons (pv 4) pa_nil)) pa_nil)) (pa_cons (pv 2) pa_nil))))
  (pss_one (ps_if (PW.pt (pw_and (pt_cmpR op_lt (pe_op op_mul pe_int (pe_op op_sub (pv 5) (pe_callB (cr_maxK (K := Z.K) rfl) rfl T.b_max (by decide +kernel) (pa_cons (pv 4) pa_nil)))) (pv 5) (nomark _)) (pw_and1 (PW.pt (pw_or (pt_val (pv 15)) (pw_or1 (pt_cmpR op_ne (pv 16) (pe_cl c__law_dot (hr.mono (by decide)) rfl pass0 (pa_cons (pv 7) (pa_cons (pv 18) pa_nil))) (nomark _)))))))) (pss_one (ps_ret pe_bl)) pss_nil))))))))))))))))))
  (pss_one (ps_ret pe_bl)))), ?_⟩
  show tSeq _ _ _ [some (.ref s), some (.ref t), some (.int n), some (.ref cl), some (.ref sl), none, none, none, none, none, none, none, none, none, none, none, none, none, none] H
  repeat walk_at "st"
  refine ⟨cl, _, rfl, .inl (SqL.of L.hc), ?_⟩
  rw [iv_len]
  repeat walk_at "st"
  refine ⟨_, rfl, by decide, by decide, ?_⟩
  refine for_lit (n := 3) walk_rng (fun i σ H2 => XS s H H2 ∧ St H2 s c ∧ ∃ (z0 z1 z2 z3 z4 z5 z6 z7 z8 z9 z10 z11 z12 : Option V), σ = [some (.ref s), some (.ref t), some (.int n), some (.ref cl), some (.ref sl), some (.int ((2 ^ n : Nat) : Int)), z0, z1, z2, z3, z4, z5, z6, z7, z8, z9, z10, z11, z12]) ⟨XS.rfl', L.st, none, none, none, none, none, none, none, none, none, none, none, none, none, rfl⟩ (fun _ _ _ _ _ => trivial) ?_ ?_
  · rintro i v σ H1 H1' hi ⟨x1, S1, z0, z1, z2, z3, z4, z5, z6, z7, z8, z9, z10, z11, z12, rfl⟩ ⟨rfl, rfl⟩
    have L1 := L.ext x1 S1
    refine w_name (σ' := [some (.ref s), some (.ref t), some (.int n), some (.ref cl), some (.ref sl), some (.int ((2 ^ n : Nat) : Int)), some (.int (i : Nat)), z1, z2, z3, z4, z5, z6, z7, z8, z9, z10, z11, z12]) rfl ?_
    repeat walk_at "st"
    refine ⟨s, c, n, rfl, rfl, by omega, S1, fun H2 w x hw x2 S2 hx hwx => ?_⟩
    have L2' := L1.ext x2 S2
    repeat walk_at "st"
    refine ⟨w, _, rfl, hwx, ?_⟩
    rw [num_of hx]
    repeat walk_at "st"
    refine ⟨s, c, n, rfl, rfl, by omega, S2, fun H3 wy y hwy x3 S3 hy hwo => ?_⟩
    have L3 := L2'.ext x3 S3
    have hwx3 := x3.tup S2 hwx
    repeat walk_at "st"
    refine ⟨t, w, wy, n, F, x, y, rfl, rfl, rfl, L3.tb, hwx3, hwo, hx, hy, L3.al.a, fun H4 x4 => ?_⟩
    have L4 := L3.grow x4
    repeat walk_at "st"
    refine ⟨w, wy, n, x, y, rfl, rfl, x4.tup hwx3, x4.tup hwo, by omega, fun H5 r hr5 x5 hr => ?_⟩
    have L5 := L4.grow x5
    have x45 := x4.trans x5
    repeat walk_at "st"
    refine ⟨r, _, rfl, hr, ?_⟩
    rw [num_of (Nat.xor_lt_two_pow hx hy)]
    refine w_ixl (SqL.of L5.hc) (iv_at (Nat.xor_lt_two_pow hx hy)) ?_
    repeat walk_at "st"
    refine ⟨wy, _, rfl, x45.tup hwo, ?_⟩
    rw [num_of hy]
    refine w_ixl (SqL.of L5.hc) (iv_at hy) ?_
    repeat walk_at "st"
    refine w_int ?_
    repeat walk_at "st"
    refine w_I (by decide) ?_
    rw [b2_add']
    repeat walk_at "st"
    refine ⟨trivial, ?_⟩
    repeat walk_at "st"
    refine iteF ?_
    repeat walk_at "st"
    rw [decide_eq_true rfl]
    refine iteF ?_
    repeat walk_at "st"
    refine ⟨_, rfl, by omega, by omega, ?_⟩
    rw [Int.toNat_natCast]
    refine for_lit walk_rng (fun j σ H2 => XT H5 H2 ∧ ∃ (y7 y8 : Option V), σ = [some (.ref s), some (.ref t), some (.int n), some (.ref cl), some (.ref sl), some (.int ((2 ^ n : Nat) : Int)), some (.int (i : Nat)), some (.ref w), some (.int (x : Nat)), some (.ref wy), some (.int (M.b2 (F (x ^^^ y) ^^ F y))), some (.int (M.b2 (F (x ^^^ y) ^^ F y))), some (.int ((List.range j).map fun y => M.b2 (F (x ^^^ y) ^^ F y)).sum), y7, y8, z9, z10, z11, z12]) ⟨XT.rfl', _, _, rfl⟩ (fun _ _ _ _ _ => trivial) ?_ ?_
    · rintro j v σ H6 H7 hj ⟨x6, y7, y8, rfl⟩ ⟨rfl, rfl⟩
      have L6 := L5.grow x6
      refine w_name (σ' := [some (.ref s), some (.ref t), some (.int n), some (.ref cl), some (.ref sl), some (.int ((2 ^ n : Nat) : Int)), some (.int (i : Nat)), some (.ref w), some (.int (x : Nat)), some (.ref wy), some (.int (M.b2 (F (x ^^^ y) ^^ F y))), some (.int (M.b2 (F (x ^^^ y) ^^ F y))), some (.int ((List.range j).map fun y => M.b2 (F (x ^^^ y) ^^ F y)).sum), some (.int (j : Nat)), y8, z9, z10, z11, z12]) rfl ?_
      repeat walk_at "st"
      refine ⟨j, n, rfl, rfl, by omega, fun H8 q hq x8 hw8 => ?_⟩
      repeat walk_at "st"
      refine ⟨w, q, n, x, j, rfl, rfl, ((x45.trans x6).trans x8).tup hwx3, hw8, by omega, fun H9 q9 hq9 x9 hw9 => ?_⟩
      have L9 := L6.grow (x8.trans x9)
      repeat walk_at "st"
      refine ⟨q9, _, rfl, hw9, ?_⟩
      rw [num_of (Nat.xor_lt_two_pow hx hj)]
      repeat walk_at "st"
      refine w_ixl (SqL.of L9.hc) (iv_at hj) ?_
      repeat walk_at "st"
      refine w_ixl (SqL.of L9.hc) (iv_at (Nat.xor_lt_two_pow hx hj)) ?_
      repeat walk_at "st"
      refine w_int ?_
      repeat walk_at "st"
      refine w_I (by decide) ?_
      rw [b2_add]
      repeat walk_at "st"
      refine ⟨x6.trans (x8.trans x9), some (.int (j : Nat)), some (.int ((x ^^^ j : Nat) : Int)), ?_⟩
      rw [List.range_succ, List.map_append, List.sum_append]
      simp
    rintro σ H6 ⟨x6, y7, y8, rfl⟩
    have L6 := L5.grow x6
    rw [← M.S_list]
    repeat walk_at "st"
    have hwx6 := (x45.trans x6).tup hwx3
    have ho : -(64 : Int) ≤ onesN n F x ∧ onesN n F x ≤ 64 := by
      have h := sum_bound (fun y => M.b2 (F (x ^^^ y) ^^ F y)) 1 (2 ^ n) fun i _ => by have := b2_01 (F (x ^^^ i) ^^ F i); omega
      rw [← M.S_list] at h
      have h3 : onesN n F x = M.S n fun y => M.b2 (F (x ^^^ y) ^^ F y) := rfl
      omega
    refine ⟨t, w, n, F, x, rfl, rfl, L6.tb, hwx6, hx, L6.al.a, L6.al.o, fun H7 r7 x7 hs7 => ?_⟩
    have L7 := L6.grow x7
    repeat walk_at "st"
    refine ⟨r7, onesN n F x, ((2 ^ n : Nat) : Int), rfl, rfl, rfl, by omega, by omega, by omega, by omega, hs7, ?_⟩
    repeat walk_at "st"
    refine iteF ?_
    repeat walk_at "st"
    refine w_cut (fun σ' H' => ∃ (rz : Bool) (bt : Int) (y11 : Option V), XT H7 H' ∧ rz = decide (2 * onesN n F x = ((2 ^ n : Nat) : Int)) ∧ (rz = false → bt = M.b2 (decide (2 * onesN n F x > ((2 ^ n : Nat) : Int)))) ∧ σ' = [some (.ref s), some (.ref t), some (.int n), some (.ref cl), some (.ref sl), some (.int ((2 ^ n : Nat) : Int)), some (.int (i : Nat)), some (.ref w), some (.int (x : Nat)), some (.ref wy), some (.int (M.b2 (F (x ^^^ y) ^^ F y))), some (.int (M.b2 (F (x ^^^ y) ^^ F y))), some (.int (onesN n F x)), y7, y8, some (.bl rz), some (.int bt), y11, z12]) ?_ ?_
    · repeat walk_at "st"
      refine ⟨t, w, n, F, x, rfl, rfl, L7.tb, x7.tup hwx6, hx, L7.al.a, L7.al.o, fun hne H8 x8 => ?_, fun he H8 d x8 hd => ?_⟩
      · repeat walk_at "st"
        exact ⟨false, _, _, x8, by rw [decide_eq_false hne], fun _ => rfl, rfl⟩
      · refine ⟨true, x_Undefined.me, fun _ a ha => ?_, fun q => nomatch q⟩
        show tSeq _ _ _ [some (.ref s), some (.ref t), some (.int n), some (.ref cl), some (.ref sl), some (.int ((2 ^ n : Nat) : Int)), some (.int (i : Nat)), some (.ref w), some (.int (x : Nat)), some (.ref wy), some (.int (M.b2 (F (x ^^^ y) ^^ F y))), some (.int (M.b2 (F (x ^^^ y) ^^ F y))), some (.int (onesN n F x)), y7, y8, some (.bl false), some (.int 0), some (.ref a), z12] H8
        repeat walk_at "st"
        refine w_xf ?_
        repeat walk_at "st"
        refine ⟨rfl, rfl, d, _, _, rfl, hd, by rfl, ?_⟩
        repeat walk_at "st"
        refine w_neS ?_
        rw [decide_eq_true rfl]
        refine w_bl (iteF ?_)
        repeat walk_at "st"
        exact ⟨true, 0, none, x8, by rw [decide_eq_true he], (fun h => nomatch h), rfl⟩
    rintro σ H8 ⟨rz, bt, y11, x8, hrz, hbt, rfl⟩
    have L8 := L7.grow x8
    repeat walk_at "st"
    refine w_I (.inl (by decide)) ?_
    repeat walk_at "st"
    have hne : ∀ b : Bool, (b != b) = false := by decide
    rw [← hrz, hne]
    refine iteF ?_
    repeat walk_at "st"
    have x08 : XS s H H8 := (x1.trans x2).trans (x3.trans (((x45.trans x6).trans x7).trans x8).xs)
    cases rz with
    | true =>
      repeat walk_at "st"
      refine iteF (iteF ?_)
      repeat walk_at "st"
      refine w_bm ?_
      repeat walk_at "st"
      refine ⟨.inl ⟨rfl, _, SqL.of L8.hs⟩, ?_⟩
      repeat walk_at "st"
      refine w_max L8.hs fun m hm => ?_
      repeat walk_at "st"
      refine w_index L8.hs hm.1 fun j hj ej => ?_
      repeat walk_at "st"
      refine ⟨j, n, rfl, rfl, by omega, fun H9 q hq x9 hw9 => ?_⟩
      have L9 := L8.grow x9
      repeat walk_at "st"
      refine w_max L9.hs fun m' hm' => ?_
      rw [hm.uniq hm']
      repeat walk_at "st"
      refine w_I (.inl (by decide)) ?_
      repeat walk_at "st"
      have hfar : ¬ 2 * (((2 ^ n : Nat) : Int) - m) < ((2 ^ n : Nat) : Int) := fun hc => by
        have h2 := M.dist_eq n F j
        have h3 : M.W n (fun x => M.sg (F x)) j = m := ej
        rw [h3, show (2 : Int) ^ n = ((2 ^ n : Nat) : Int) from by simp] at h2
        have h4 := (M.mend (F := F) (a := j) hx (by rw [show (2 : Int) ^ n = ((2 ^ n : Nat) : Int) from by simp]; omega)).1
        rw [show (2 : Int) ^ n = ((2 ^ n : Nat) : Int) from by simp] at h4
        exact h4 (of_decide_eq_true hrz.symm)
      rw [decide_eq_false hfar]
      refine iteF (iteF ?_)
      repeat walk_at "st"
      exact ⟨x08.trans x9.xs, L9.st, _, _, _, _, _, _, _, _, _, _, _, _, _, rfl⟩
    | false =>
      have hbt := hbt rfl
      repeat walk_at "st"
      refine iteT ?_
      repeat walk_at "st"
      refine ⟨trivial, ?_⟩
      repeat walk_at "st"
      refine iteF ?_
      repeat walk_at "st"
      refine w_I (.inl (by decide)) ?_
      repeat walk_at "st"
      refine w_intB ?_
      repeat walk_at "st"
      have hbt' : bt = if decide (((2 ^ n : Nat) : Int) < 2 * onesN n F x) = true then 1 else 0 := hbt
      rw [decide_eq_true hbt']
      refine iteF ?_
      repeat walk_at "st"
      refine w_bm ?_
      repeat walk_at "st"
      refine ⟨.inl ⟨rfl, _, SqL.of L8.hs⟩, ?_⟩
      repeat walk_at "st"
      refine w_max L8.hs fun m hm => ?_
      repeat walk_at "st"
      refine w_index L8.hs hm.1 fun j hj ej => ?_
      repeat walk_at "st"
      refine ⟨j, n, rfl, rfl, by omega, fun H9 q hq x9 hw9 => ?_⟩
      have L9 := L8.grow x9
      repeat walk_at "st"
      refine w_max L9.hs fun m' hm' => ?_
      rw [hm.uniq hm']
      repeat walk_at "st"
      refine w_I (.inl (by decide)) ?_
      repeat walk_at "st"
      refine ite2 (fun hc => ?_) (fun hc => iteF ?_)
      · have hc := of_decide_eq_true hc
        have hd : bt = M.b2 (M.dot n x j) := by
          have h2 := M.dist_eq n F j
          have h3 : M.W n (fun x => M.sg (F x)) j = m := ej
          rw [h3, show (2 : Int) ^ n = ((2 ^ n : Nat) : Int) from by simp] at h2
          have h4 := (M.mend (F := F) (a := j) hx (by rw [show (2 : Int) ^ n = ((2 ^ n : Nat) : Int) from by simp]; omega)).2
          rw [show (2 : Int) ^ n = ((2 ^ n : Nat) : Int) from by simp] at h4
          rw [hbt, ← h4]
        repeat walk_at "st"
        refine iteF ?_
        repeat walk_at "st"
        refine ⟨w, q, n, x, j, rfl, rfl, ((x7.trans x8).trans x9).tup hwx6, hw9, by omega, fun H10 x10 => ?_⟩
        have L10 := L9.grow x10
        repeat walk_at "st"
        rw [decide_eq_true hd]
        refine iteF ?_
        repeat walk_at "st"
        exact ⟨x08.trans (x9.trans x10).xs, L10.st, _, _, _, _, _, _, _, _, _, _, _, _, _, rfl⟩
      · repeat walk_at "st"
        exact ⟨x08.trans x9.xs, L9.st, _, _, _, _, _, _, _, _, _, _, _, _, _, rfl⟩
  · rintro σ H1 ⟨x1, S1, z0, z1, z2, z3, z4, z5, z6, z7, z8, z9, z10, z11, z12, rfl⟩
    repeat walk_at "st"
    exact k H1 x1 S1
end
end Q
set_option Elab.async false
set_option linter.all false
set_option maxRecDepth 100000
set_option maxHeartbeats 1000000
namespace Q
open PySem PySem.Spec PyProof.Rows L2
local macro_rules | `(tactic| walk_at "st") => `(tactic| first
  | with_reducible refine w_seq ?_ | with_reducible refine w_next ?_ | with_reducible refine w_ret ?_ | with_reducible refine w_ifs ?_ | with_reducible refine w_asg ?_ | with_reducible refine w_drop ?_
  | with_reducible refine w_name (by simp only [List.set_cons_zero, List.set_cons_succ]; rfl) ?_
  | with_reducible refine w_var (by with_unfolding_all rfl) ?_
  | with_reducible refine w_c ?_ | with_reducible refine w_op ?_ | with_reducible refine w_un ?_ | with_reducible refine w_cons ?_ | with_reducible refine w_nil ?_ | with_reducible refine w_cb ?_ | with_reducible refine w_call ?_
  | with_reducible refine w_and ?_ | with_reducible refine w_or ?_ | with_reducible refine w_not ?_ | with_reducible refine w_tb ?_ | with_reducible refine w_tt ?_ | with_reducible refine w_bl ?_
  | with_reducible refine w_tand ?_ | with_reducible refine w_tor ?_ | with_reducible refine w_tnot ?_ | with_reducible refine w_yes ?_ | with_reducible refine w_chain ?_
  | with_reducible refine w_I0 ?_ | with_reducible refine w_eqI ?_ | with_reducible refine w_neI ?_ | with_reducible refine w_eqB ?_ | with_reducible refine w_neB ?_
  | with_reducible refine w_fl ?_ | with_reducible refine w_rng ?_ | with_reducible refine w_lst ?_ | with_reducible refine w_tup ?_
  | with_reducible refine w_sfld ?_ | with_reducible refine w_tmk ?_ | with_reducible refine w_gsub ?_ | with_reducible refine w_for ?_ | with_reducible refine w_tlc ?_ | with_reducible refine w_gx ?_ | with_reducible refine w_itup ?_ | with_reducible refine w_ilst ?_ | with_reducible refine w_izp ?_
  | with_reducible refine w_sl ?_ | with_reducible refine w_part ?_ | with_reducible refine w_pint ?_ | with_reducible refine w_nopart ?_
  | with_reducible refine w_rz ?_ | with_reducible refine w_callS ?_ | with_reducible refine w_callNS ?_ | with_reducible refine w_callD ?_ | with_reducible refine w_2d ?_ | with_reducible refine w_par ?_
  | with_reducible refine w_1 ?_ | with_reducible refine w_2 ?_ | with_reducible refine w_3 ?_ | with_reducible refine w_4 ?_ | with_reducible refine w_5 ?_)
theorem NoSh.ext {SC : Addr} {H H' : Hp} {v : V} (h : NoSh SC H v) (x : XT H H') : NoSh SC H' v := by
  rcases h with h | h | ⟨p, k, h, h2⟩ | ⟨p, o, u, h, h2, h3⟩
  · exact .inl h
  · exact .inr (.inl h)
  · exact .inr (.inr (.inl ⟨p, k, h, x.tup h2⟩))
  · exact .inr (.inr (.inr ⟨p, o, u, h, h2.ext x, h3⟩))
section
variable {Z : Wd} {TC SC : Addr}
abbrev N_law_body : List Str := ["_law_script", "_law_state", "_law_n", "_law_cells_here", "_law_sums", "_law_table", "_law_value", "_law_bit"]
theorem S_law_body : FnScope N_law_body ["_law_script"] (defScope s_law_body) := ⟨rfl, rfl, rfl, by decide +kernel, rfl, by decide +kernel, by decide +kernel⟩
theorem B_law_body : Bnd "_law_body" "_law_body" s_law_body ["_law_script"] := fun _ _ _ _ _ _ us hl => match us, hl with | [_], _ => rfl
abbrev p_law_body (K : W.Frag) (τ : Ta) : Sp := sp1 fun a H Q _ => ∃ (p : Addr) (ns : List Int), a = .ref p ∧ SqL K H p (ns.map V.int) ∧ AllT τ H ∧ ∀ H', Q (.bl true) H'
theorem c_law_body (T : Tx Z TC SC) {τ : Ta} (F : Fn Z "_law_body" "_law_body" s_law_body) (c__law_start : Cl Z CX0 1 "_law_start" (p_law_start Z.K)) (c__law_draw : Cl Z CX0 1 "_law_draw" p_law_draw) (c__law_cells : Cl Z CX0 3 "_law_cells" p_law_cells) (c__law_halves : Cl Z CX0 1 "_law_halves" p_law_halves)
    (c_mkTable : Mkr Z 8 TC "Table" (p_Tinit TC τ.I)) (c_mkShare : Mkr Z 2 SC "Share" (p_Sinit SC)) (c__law_signed : Cl Z CX0 12 "_law_signed" (p_law_signed τ TC)) (c__law_from : Cl Z CX0 11 "_law_from" (p_law_from τ)) (c__law_near : Cl Z CX0 11 "_law_near" (p_law_near τ TC)) (c__law_tested : Cl Z CX0 16 "_law_tested" (p_law_tested τ TC))
    (c__law_no_share : Cl Z CX0 11 "_law_no_share" (p_law_no_share TC SC)) (c__law_no_many : Cl Z CX0 8 "_law_no_many" (p_law_no_many TC)) (c__law_mended : Cl Z CX0 13 "_law_mended" (p_law_mended τ TC)) : Cl Z CX0 17 "_law_body" (p_law_body Z.K τ) := by
  refine F.cl S_law_body B_law_body len1 fun f cdv A outer sh H vs Q E hr h => ?_
  obtain ⟨_, rfl, p, ns, rfl, hp, al, k⟩ := h
  have nd := S_law_body.nd
  refine ⟨_, (pss_cons (ps_set (i := 1) nd rfl (Or.inl rfl) (pe_cl c__law_start (hr.mono (by decide)) rfl pass0 (pa_cons (pv 0) pa_nil)))
  (pss_cons (ps_set (i := 2) nd rfl (Or.inl rfl) (pe_op op_add pe_int (pe_cl c__law_draw (hr.mono (by decide)) rfl pass0 (pa_cons (pv 1) (pa_cons pe_int pa_nil)))))
  (Evl.pss_cut (ps_if (pt_cmpR op_eq (pe_cl c__law_draw (hr.mono (by decide)) rfl pass0 (pa_cons (pv 1) (pa_cons pe_int pa_nil))) pe_int (nomark _)) (pss_one (ps_set (i := 2) nd rfl (Or.inl rfl) pe_int)) pss_nil)
  (pss_cons (ps_set (i := 3) nd rfl (Or.inl rfl) (pe_cl c__law_cells (hr.mono (by decide)) rfl pass0 (pa_cons (pv 1) (pa_cons (pv 2) pa_nil))))
  (pss_cons (ps_set (i := 4) nd rfl (Or.inl rfl) (pe_cl c__law_halves (hr.mono (by decide)) rfl pass0 (pa_cons (pe_lc (own := [("_law_bit", 7)]) rfl nd (pi_listK (K := Z.K) (pv 3)) (blkOk_by (N := N_law_body) (sc := defScope s_law_body) (by decide +kernel)) (fun _ _ _ _ _ => (pg_name (i := 7) nd rfl (Or.inl rfl))) (fun _ _ _ _ _ => pts_nil) (fun _ _ _ _ _ => (pe_op op_sub pe_int (pe_op op_mul pe_int (pv 7))))) (pa_cons (pv 2) pa_nil))))
  (pss_cons (ps_set (i := 5) nd rfl (Or.inl rfl) (pe_mk c_mkTable (hr.mono (by decide)) rfl pass0 (pa_cons (pv 2) (pa_cons (pv 3) pa_nil))))
  (pss_cons (ps_if (PW.pt (pw_or (pt_not (pt_val (pe_cl c__law_signed (hr.mono (by decide)) rfl pass0 (pa_cons (pv 1) (pa_cons (pv 5) (pa_cons (pv 2) (pa_cons (pv 3) (pa_cons (pv 4) pa_nil)))))))) (pw_or1 (pt_not (pt_val (pe_cl c__law_from (hr.mono (by decide)) rfl pass0 (pa_cons (pv 1) (pa_cons (pv 2) (pa_cons (pv 4) pa_nil))))))))) (pss_one (ps_ret pe_bl)) pss_nil)
  (pss_cons (ps_if (PW.pt (pw_or (pt_not (pt_val (pe_cl c__law_near (hr.mono (by decide)) rfl pass0 (pa_cons (pv 1) (pa_cons (pv 5) (pa_cons (pv 2) (pa_cons (pv 4) pa_nil))))))) (pw_or1 (pt_not (pt_val (pe_cl c__law_tested (hr.mono (by decide)) rfl pass0 (pa_cons (pv 1) (pa_cons (pv 5) (pa_cons (pv 2) (pa_cons (pv 3) (pa_cons (pv 4) pa_nil))))))))))) (pss_one (ps_ret pe_bl)) pss_nil)
  (pss_cons (ps_for PassesOwn.never rfl (pi_listK (K := Z.K) (pe_lst (pa_cons (pe_mk c_mkShare (hr.mono (by decide)) rfl pass0 (pa_cons pe_int (pa_cons pe_int pa_nil))) (pa_cons (pe_mk c_mkShare (hr.mono (by decide)) rfl pass0 (pa_cons pe_int (pa_cons pe_int pa_nil))) (pa_cons (pe_mk c_mkShare (hr.mono (by decide)) rfl pass0 (pa_cons (pe_op op_sub pe_int pe_int) (pa_cons pe_int pa_nil))) (pa_cons pe_int (pa_cons pe_non (pa_cons (pe_tup (pa_cons pe_int (pa_cons pe_int pa_nil))) pa_nil)))))))) (pg_name (i := 6) nd rfl (Or.inl rfl))
  (pss_one (ps_if (pt_not (pt_val (pe_cl c__law_no_share (hr.mono (by decide)) rfl pass0 (pa_cons (pv 5) (pa_cons (pv 6) pa_nil))))) (pss_one (ps_ret pe_bl)) pss_nil)))
  (pss_cons (ps_for PassesOwn.never rfl (pi_listK (K := Z.K) (pe_lst (pa_cons pe_int (pa_cons pe_int (pa_cons pe_non (pa_cons pe_bl (pa_cons pe_str (pa_cons (pe_op op_sub pe_int pe_int) pa_nil)))))))) (pg_name (i := 6) nd rfl (Or.inl rfl))
  (pss_one (ps_if (pt_not (pt_val (pe_cl c__law_no_many (hr.mono (by decide)) rfl pass0 (pa_cons (pv 5) (pa_cons (pv 6) pa_nil))))) (pss_one (ps_ret pe_bl)) pss_nil)))
  (pss_cons (ps_if (PW.pt (pw_or (pt_not (pt_val (pe_cl c__law_mended (hr.mono (by decide)) rfl pass0 (pa_cons (pv 1) (pa_cons (pv 5) (pa_cons (pv 2) (pa_cons (pv 3) (pa_cons (pv 4) pa_nil)))))))) (pw_or1 (pt_cmpR (op_neDK (K := Z.K) hr.units) (pe_callTy (call_listK (K := Z.K)) rfl T.b_list (by decide +kernel) (pa_cons (pe_fldK (K := Z.K) (pv 5) rfl) pa_nil)) (pv 3) (nomark _))))) (pss_one (ps_ret pe_bl)) pss_nil)
  (pss_one (ps_ret (pe_cl c__law_signed (hr.mono (by decide)) rfl pass0 (pa_cons (pv 1) (pa_cons (pv 5) (pa_cons (pv 2) (pa_cons (pv 3) (pa_cons (pv 4) pa_nil))))))))))))))))))), ?_⟩
  show tSeq _ _ _ [some (.ref p), none, none, none, none, none, none, none] H
  repeat walk_at "st"
  refine ⟨p, ns, rfl, hp, fun H1 s c x1 S1 => ?_⟩
  have al1 := al.ext x1.tab
  repeat walk_at "st"
  refine ⟨s, c, 5, rfl, rfl, S1, by decide, fun H2 r x2 S2 hr2 => ?_⟩
  repeat walk_at "st"
  refine w_cut (fun σ' H' => ∃ n : Nat, 1 ≤ n ∧ n ≤ 6 ∧ XS s H1 H' ∧ St H' s c ∧ σ' = [some (.ref p), some (.ref s), some (.int (n : Nat)), none, none, none, none, none]) ?_ ?_
  · repeat walk_at "st"
    refine ⟨s, c, 10, rfl, rfl, S2, by decide, fun H3 r3 x3 S3 _ => ?_⟩
    repeat walk_at "st"
    refine ite2 (fun _ => ?_) (fun _ => ?_)
    · repeat walk_at "st"
      exact ⟨6, by decide, by decide, x2.trans x3, S3, rfl⟩
    · repeat walk_at "st"
      exact ⟨1 + r, by omega, by omega, x2.trans x3, S3, by simp⟩
  rintro σ H3 ⟨n, n1, n6, x3, S3, rfl⟩
  have p6 := pow6 n6
  obtain ⟨q6, r6⟩ := pow6i n6
  have al3 := al1.ext x3.tab
  repeat walk_at "st"
  refine ⟨s, c, n, rfl, rfl, n6, S3, fun H4 cl F hcl0 x4 S4 hcl => ?_⟩
  have al4 := al3.ext x4.tab
  have ncl := (S3.ne hcl0).1
  repeat walk_at "st"
  refine ⟨cl, rfl, ⟨_, SqL.of hcl⟩, fun D hD => ?_⟩
  refine lc_map (walk_list (K := Z.K) (a := cl) (xs := cells n F)) (fun i => .int (fs F i)) hD (by rw [iv_len]; exact Nat.lt_of_le_of_lt p6 (by decide)) (fun H5 x5 => SqL.of (x5.lst hcl)) (fun i y H5 H6 hi x5 hy K1 hk => ?_) fun H5 x5 hh => ?_
  · obtain ⟨rfl, hx⟩ := hy
    rw [iv_len] at hi
    rw [M.tab_get hi] at hx
    cases hx
    refine w_name (σ' := [some (.ref p), some (.ref s), some (.int n), some (.ref cl), none, none, none, some (.int (M.b2 (F i)))]) rfl ⟨rfl, ?_⟩
    repeat walk_at "st"
    refine w_I (.inl (by decide)) ?_
    repeat walk_at "st"
    rw [b2sg]
    exact hk _ XT.rfl'
  rw [iv_len] at hh
  repeat walk_at "st"
  refine ⟨D, n, fs F, rfl, rfl, hh, n6, fun H6 sl hsl0 x6 hsl => ?_⟩
  have hsl : H6 sl = some (.lst (iv n (Wf n F))) := by rw [hsl]; congr 2; exact iv_congr fun x hx => M.T_W hx
  have x46 := x5.trans x6
  have nsl := ((S4.ext x5).ne hsl0).1
  repeat walk_at "st"
  refine w_mkT (F := F) (x46.lst hcl) n1 n6 (al4.ext x46.tab).i fun H7 t x7 ht => ?_
  have L7 : LawH τ TC H7 s c t cl sl n F := ⟨S4.ext (x46.trans x7), ht, (x46.trans x7).lst hcl, x7.lst hsl, ncl, nsl, al4.ext (x46.trans x7).tab⟩
  clear hh hD x5 hsl x46 hsl0 hcl hcl0 S4 x4 S3 x3 al3 al4
  repeat walk_at "st"
  refine ⟨s, c, t, cl, sl, n, F, rfl, rfl, rfl, rfl, rfl, L7, fun H8 x8 S8 => ?_⟩
  have L8 := L7.ext x8 S8
  repeat walk_at "st"
  refine iteF ?_
  repeat walk_at "st"
  refine ⟨s, c, sl, n, F, rfl, rfl, rfl, S8, L8.hs, L8.n2, n1, n6, L8.al, fun H9 x9 S9 => ?_⟩
  have L9 := L8.ext x9 S9
  repeat walk_at "st"
  refine iteF ?_
  repeat walk_at "st"
  refine ⟨s, c, t, cl, sl, n, F, rfl, rfl, rfl, rfl, L9, fun H10 x10 S10 => ?_⟩
  have L10 := L9.ext x10 S10
  repeat walk_at "st"
  refine iteF ?_
  repeat walk_at "st"
  refine ⟨s, c, t, cl, sl, n, F, rfl, rfl, rfl, rfl, rfl, L10, fun H11 x11 S11 => ?_⟩
  have L11 := L10.ext x11 S11
  clear x8 S8 L8 x9 S9 L9 x10 S10 L10 L7
  repeat walk_at "st"
  refine iteF ?_
  repeat walk_at "st"
  refine w_mkS (o := 0) (u := 1) (by decide) (by decide) fun H12 v1 _ x12 s1 => ?_
  repeat walk_at "st"
  refine w_mkS (o := 9) (u := 8) (by decide) (by decide) fun H13 v2 _ x13 s2 => ?_
  repeat walk_at "st"
  refine w_mkS (o := 0 - 1) (u := 2) (by decide) (by decide) fun H14 v3 _ x14 s3 => ?_
  repeat walk_at "st"
  refine ⟨by show 2 ≤ sizeLine; decide, fun tp htp => ?_⟩
  repeat walk_at "st"
  refine ⟨by show 6 ≤ sizeLine; decide, fun lv hlv => ?_⟩
  have y15 := XT.new (o := .tup [.int 1, .int 2]) htp
  have y16 := XT.new (o := .lst [.ref v1, .ref v2, .ref v3, .int 1, .non, .ref tp]) hlv
  have x1116 := (x12.trans (x13.trans x14)).trans (y15.trans y16)
  have L16 := L11.grow x1116
  have hlv16 : (upd (upd H14 tp (.tup [.int 1, .int 2])) lv (.lst [.ref v1, .ref v2, .ref v3, .int 1, .non, .ref tp])) lv = some (.lst [.ref v1, .ref v2, .ref v3, .int 1, .non, .ref tp]) := upd_same
  have hno : ∀ v ∈ ([.ref v1, .ref v2, .ref v3, .int 1, .non, .ref tp] : List V), NoSh SC (upd (upd H14 tp (.tup [.int 1, .int 2])) lv (.lst [.ref v1, .ref v2, .ref v3, .int 1, .non, .ref tp])) v := by
    intro v hv
    rcases List.mem_cons.mp hv with rfl | hv
    · exact .inr (.inr (.inr ⟨v1, _, _, rfl, s1.ext (x13.trans (x14.trans (y15.trans y16))), .inl (by decide)⟩))
    rcases List.mem_cons.mp hv with rfl | hv
    · exact .inr (.inr (.inr ⟨v2, _, _, rfl, s2.ext (x14.trans (y15.trans y16)), .inr (by decide)⟩))
    rcases List.mem_cons.mp hv with rfl | hv
    · exact .inr (.inr (.inr ⟨v3, _, _, rfl, s3.ext (y15.trans y16), .inl (by decide)⟩))
    rcases List.mem_cons.mp hv with rfl | hv
    · exact .inr (.inl ⟨1, rfl⟩)
    rcases List.mem_cons.mp hv with rfl | hv
    · exact .inl rfl
    · rw [List.mem_singleton.mp hv]
      exact .inr (.inr (.inl ⟨tp, [1, 2], rfl, y16.tup upd_same⟩))
  generalize (upd (upd H14 tp (.tup [.int 1, .int 2])) lv (.lst [.ref v1, .ref v2, .ref v3, .int 1, .non, .ref tp])) = H16 at *
  refine ⟨lv, rfl, ⟨_, SqL.of hlv16⟩, ?_⟩
  refine for_lit (walk_list (K := Z.K) (a := lv) (xs := [.ref v1, .ref v2, .ref v3, .int 1, .non, .ref tp])) (fun i σ H2 => XT H16 H2 ∧ ∃ z : Option V, σ = [some (.ref p), some (.ref s), some (.int n), some (.ref cl), some (.ref sl), some (.ref t), z, none]) ⟨XT.rfl', none, rfl⟩ (fun i σ H2 _ h2 => SqL.of (h2.1.lst hlv16)) ?_ ?_
  · rintro i v σ H17 H18 hi ⟨x17, z, rfl⟩ ⟨rfl, hv⟩
    refine w_name (σ' := [some (.ref p), some (.ref s), some (.int n), some (.ref cl), some (.ref sl), some (.ref t), some v, none]) rfl ?_
    repeat walk_at "st"
    refine ⟨t, n, F, rfl, (L16.grow x17).tb, (hno v (List.mem_of_getElem? hv)).ext x17, fun H19 x19 => ?_⟩
    repeat walk_at "st"
    refine iteF ?_
    repeat walk_at "st"
    exact ⟨x17.trans x19, _, rfl⟩
  rintro σ H17 ⟨x17, z, rfl⟩
  have L17 := L16.grow x17
  repeat walk_at "st"
  refine ⟨by show 6 ≤ sizeLine; decide, fun lw hlw => ?_⟩
  have y18 := XT.new (o := .lst [.int 0, .int 7, .non, .bl true, .str "2", .int (0 - 1)]) hlw
  have L18 := L17.grow y18
  have hlw18 : (upd H17 lw (.lst [.int 0, .int 7, .non, .bl true, .str "2", .int (0 - 1)])) lw = some (.lst [.int 0, .int 7, .non, .bl true, .str "2", .int (0 - 1)]) := upd_same
  generalize (upd H17 lw (.lst [.int 0, .int 7, .non, .bl true, .str "2", .int (0 - 1)])) = H18 at *
  refine ⟨lw, rfl, ⟨_, SqL.of hlw18⟩, ?_⟩
  refine for_lit (walk_list (K := Z.K) (a := lw) (xs := [.int 0, .int 7, .non, .bl true, .str "2", .int (0 - 1)])) (fun i σ H2 => XT H18 H2 ∧ ∃ z : Option V, σ = [some (.ref p), some (.ref s), some (.int n), some (.ref cl), some (.ref sl), some (.ref t), z, none]) ⟨XT.rfl', _, rfl⟩ (fun i σ H2 _ h2 => SqL.of (h2.1.lst hlw18)) ?_ ?_
  · rintro i v σ H19 H20 hi ⟨x19, z, rfl⟩ ⟨rfl, hv⟩
    refine w_name (σ' := [some (.ref p), some (.ref s), some (.int n), some (.ref cl), some (.ref sl), some (.ref t), some v, none]) rfl ?_
    repeat walk_at "st"
    have hv3 : ∀ H : Hp, scal v v = true ∧ Nice H v ∧ btw v 1 6 = false := by
      intro H
      have := List.mem_of_getElem? hv
      rcases List.mem_cons.mp this with rfl | this
      · exact ⟨rfl, trivial, by decide⟩
      rcases List.mem_cons.mp this with rfl | this
      · exact ⟨rfl, trivial, by decide⟩
      rcases List.mem_cons.mp this with rfl | this
      · exact ⟨rfl, trivial, rfl⟩
      rcases List.mem_cons.mp this with rfl | this
      · exact ⟨rfl, trivial, rfl⟩
      rcases List.mem_cons.mp this with rfl | this
      · exact ⟨rfl, trivial, rfl⟩
      · rw [List.mem_singleton.mp this]; exact ⟨rfl, trivial, by decide⟩
    obtain ⟨a1, a2, a3⟩ := hv3 H20
    refine ⟨t, n, F, rfl, (L18.grow x19).tb, a1, a2, a3, fun H21 x21 => ?_⟩
    repeat walk_at "st"
    refine iteF ?_
    repeat walk_at "st"
    exact ⟨x19.trans x21, _, rfl⟩
  rintro σ H19 ⟨x19, z, rfl⟩
  have L19 := L18.grow x19
  repeat walk_at "st"
  refine ⟨s, c, t, cl, sl, n, F, rfl, rfl, rfl, rfl, rfl, L19, fun H20 x20 S20 => ?_⟩
  have L20 := L19.ext x20 S20
  repeat walk_at "st"
  refine iteF ?_
  obtain ⟨⟨dx, q, ha, hb⟩, _, _⟩ := id L20.tb
  repeat walk_at "st"
  refine rT_b T ha ?_
  repeat walk_at "st"
  refine ⟨q, _, rfl, .inr (SqT.of hb), fun w hw => ?_⟩
  have L21 := L20.grow (XT.new (o := .lst (cells n F)) hw)
  repeat walk_at "st"
  refine w_neRefl (dp_iv (n := n) (g := fun x => M.b2 (F x)) upd_same) (dp_iv L21.hc) (shp_lst _) ?_
  refine w_bl (iteF ?_)
  repeat walk_at "st"
  refine ⟨s, c, t, cl, sl, n, F, rfl, rfl, rfl, rfl, rfl, L21, fun H22 x22 S22 => ?_⟩
  exact k H22
abbrev N_law : List Str := ["_law_script"]
theorem S_law : FnScope N_law ["_law_script"] (defScope s_law) := ⟨rfl, rfl, rfl, by decide +kernel, rfl, by decide +kernel, by decide +kernel⟩
theorem B_law : Bnd "law" "law" s_law ["_law_script"] := fun _ _ _ _ _ _ us hl => match us, hl with | [_], _ => rfl
theorem ok_law {f : Addr} {fd : FuncData} (F : Fun Z.K "law" "law" s_law f fd) {τ : Ta} (c__law_body : Cl Z CX0 17 "_law_body" (p_law_body Z.K τ)) : FnOk Z.P Z.w Z.K Z.mg Z.base CX0 18 f fd ["_law_script"] (p_law_body Z.K τ) := by
  refine F.ok S_law len1 fun cdv A outer sh H vs Q E hr h => ?_
  obtain ⟨_, rfl, p, ns, rfl, hp, al, k⟩ := h
  have nd := S_law.nd
  refine ⟨_, (pss_one (ps_try_thru0 (pss_one (ps_ret (pe_cl c__law_body (hr.mono (by decide)) rfl pass0 (pa_cons (pv 0) pa_nil)))))), ?_⟩
  show tRet _ _ [some (.ref p)] H
  repeat walk_at "st"
  exact ⟨p, ns, rfl, hp, al, k⟩
end
end Q
set_option Elab.async false
set_option linter.all false
set_option maxRecDepth 100000
set_option maxHeartbeats 0
namespace Q
open PySem PySem.Spec PyProof.Rows L2
theorem fun_of {K : W.Frag} {x qual : Str} {st : Stmt} {kws : List (Str × V)} {f : Addr} {fd : FuncData} (F : FunD K x qual (defArgs st) (defBody st) (defScope st) [] kws f fd) : Fun K x qual st f fd := by
  obtain ⟨oc, od, dV, kV, doc, pm, an, cdv, ct, osl, rfl, lk, hcd, hD, _⟩ := F.ex
  rcases hD with ⟨_, rfl⟩ | ⟨e, _⟩
  · exact ⟨⟨oc, od, kV, doc, pm, an, cdv, ct, osl, rfl, lk, hcd⟩, F.kp⟩
  · exact absurd rfl e
theorem tab_of {Z : Wd} {x qual : Str} {st : Stmt} {kws : List (Str × V)} {p : He.Defn} {fd : FuncData} (F : FunD Z.K x qual (defArgs st) (defBody st) (defScope st) [] kws (He.fAd Z.K p) fd) (TB : GxR.TabB Z.base Z.mg (He.cT Z.K p).1 (He.cT Z.K p).2) :
    ∃ c, GxR.TabB Z.base Z.mg c (He.cT Z.K p).2 ∧ ∃ fd oc od kV doc pm an ct osl, fd = W.fnOf x qual (defArgs st) (defBody st) (defScope st) Value.none kV doc pm an (.ref c) ct ∧
      List.lookup (He.fAd Z.K p) Z.K = some { cls := oc, dict := od, data := Data.func fd, slots := osl } ∧ W.codeIn Z.K (.ref c) qual = true ∧ KwdV Z.K kV kws ∧ W.keepIn Z.K (.ref (He.fAd Z.K p)) = true := by
  obtain ⟨oc, od, dV, kV, doc, pm, an, cdv, ct, osl, rfl, lk, hcd, hD, hK⟩ := F.ex
  obtain ⟨c, rfl⟩ := He.codeIn_ref hcd
  have e := He.codeOf_eq lk rfl
  refine ⟨c, ?_, ?_⟩
  · have T := TB
    unfold He.cT at T ⊢
    rw [e] at T ⊢
    exact T
  · rcases hD with ⟨_, rfl⟩ | ⟨z, _⟩
    · exact ⟨_, oc, od, kV, doc, pm, an, ct, osl, rfl, lk, hcd, hK, F.kp⟩
    · exact absurd rfl z
theorem fnT_of {Z : Wd} {x qual : Str} {st : Stmt} {kws : List (Str × V)} {p : He.Defn} {fd : FuncData} (F : FunD Z.K x qual (defArgs st) (defBody st) (defScope st) [] kws (He.fAd Z.K p) fd) (TB : GxR.TabB Z.base Z.mg (He.cT Z.K p).1 (He.cT Z.K p).2)
    (m : Z.mg x = some (.ref (He.fAd Z.K p))) : FnT Z x qual st (He.cT Z.K p).2 := by
  obtain ⟨c, T, fd, oc, od, kV, doc, pm, an, ct, osl, e, lk, hcd, _, kp⟩ := tab_of F TB
  exact ⟨_, fd, oc, od, kV, doc, pm, an, c, ct, osl, e, lk, hcd, kp, T, m⟩
def tau (K : W.Frag) : Ta where
  A := (He.cT K ("is_bits", none)).2
  W := (He.cT K ("word_at", none)).2
  P := (He.cT K ("parity_of", none)).2
  I := (He.cT K ("Table", some "__init__")).2
  D := (He.cT K ("distance", none)).2
  O := (He.cT K ("ones_of", none)).2
  G := (He.cT K ("greatest_of", none)).2
  N := (He.cT K ("nearest_sums", none)).2
  M := (He.cT K ("near_sums", none)).2
  B := (He.cT K ("beginning_weight", none)).2
  S := (He.cT K ("passes_sum", none)).2
  Q := (He.cT K ("passing_share", none)).2
  F := (He.cT K ("table_from", none)).2
section
variable {Z : Wd} {h : Heap}
theorem tx_of (KX : Z.K.In h) (G : h.Ns mainGlobals Z.mg) (c : He.SaysX hfa hfn [] htf hex Z.w h Z.K) : Tx Z (He.ga Z.K "Table") (He.ga Z.K "Share") := by
  have D := c.t.d
  obtain ⟨e1, _⟩ := He.ba c.more
  obtain ⟨g1, e1⟩ := He.ba e1
  obtain ⟨g2, e1⟩ := He.ba e1
  obtain ⟨g3, e1⟩ := He.ba e1
  obtain ⟨g4, e1⟩ := He.ba e1
  obtain ⟨g5, g6⟩ := He.ba e1
  have cT := He.cls_ok (D.fact 78 (f := .cls "Table") rfl)
  have cS := He.cls_ok (D.fact 79 (f := .cls "Share") rfl)
  exact {
    b_isinstance := He.free_ok KX G (D.fact 62 (f := .free "isinstance") rfl)
    b_int := He.free_ok KX G (D.fact 63 (f := .free "int") rfl)
    b_bool := He.free_ok KX G (D.fact 64 (f := .free "bool") rfl)
    b_tuple := He.free_ok KX G (D.fact 65 (f := .free "tuple") rfl)
    b_all := He.free_ok KX G (D.fact 66 (f := .free "all") rfl)
    b_len := He.free_ok KX G (D.fact 67 (f := .free "len") rfl)
    b_range := He.free_ok KX G (D.fact 68 (f := .free "range") rfl)
    b_sum := He.free_ok KX G (D.fact 69 (f := .free "sum") rfl)
    b_zip := He.free_ok KX G (D.fact 70 (f := .free "zip") rfl)
    b_list := He.free_ok KX G (D.fact 71 (f := .free "list") rfl)
    b_str := He.free_ok KX G (D.fact 72 (f := .free "str") rfl)
    b_abs := He.free_ok KX G (D.fact 73 (f := .free "abs") rfl)
    b_max := He.free_ok KX G (D.fact 74 (f := .free "max") rfl)
    b_ValueError := He.free_ok KX G (D.fact 75 (f := .free "ValueError") rfl)
    m_gcd := W.mg_of KX G (of_decide_eq_true g1)
    m_LONGEST := He.int_ok KX G (D.fact 76 (f := .int "LONGEST" 12) rfl)
    m_LARGEST := He.int_ok KX G (D.fact 77 (f := .int "LARGEST" 10) rfl)
    m_Table := He.glo_ok KX G (D.fact 17 (f := .glo "Table") rfl)
    m_Share := He.glo_ok KX G (D.fact 24 (f := .glo "Share") rfl)
    cT := cT
    cS := cS
    nTn := He.noat_ok (D.fact 80 (f := .noat "Table" "n") rfl)
    nTb := He.noat_ok (D.fact 81 (f := .noat "Table" "bits") rfl)
    nSo := He.noat_ok (D.fact 82 (f := .noat "Share" "over") rfl)
    nSu := He.noat_ok (D.fact 83 (f := .noat "Share" "under") rfl)
    iT := fun e => clsB_ok g2 cT e
    iS := fun e => clsB_ok g3 cS e
    kTT := of_decide_eq_true g4
    kSS := of_decide_eq_true g5
    kS := fun n hn => of_decide_eq_true (List.all_eq_true.mp g6 n hn) }
theorem x_of (KX : Z.K.In h) (G : h.Ns mainGlobals Z.mg) (c : He.SaysX hfa hfn [] htf hex Z.w h Z.K) : XCls Z (He.ga Z.K "InvalidNumber") "InvalidNumber" "value" ∧ XCls Z (He.ga Z.K "InvalidShare") "InvalidShare" "value" ∧ XCls Z (He.ga Z.K "Undefined") "Undefined" "what" := by
  have D := c.t.d
  obtain ⟨_, e1⟩ := He.ba c.more
  obtain ⟨e2, _⟩ := He.ba e1
  obtain ⟨g1, e2⟩ := He.ba e2
  obtain ⟨g2, g3⟩ := He.ba e2
  refine ⟨?_, ?_, ?_⟩
  · have B := xcB_ok g1
    obtain ⟨fd, F⟩ := D.def_ 55 (d := d_m_InvalidNumber) rfl
    exact ⟨B.ox, B.xf, B.ec, B.no, He.glo_ok KX G (D.fact 2 (f := .glo "InvalidNumber") rfl), B.me, B.ve, c_xNumber ⟨_, fd, fun_of F, B.fi, B.ti⟩ B.ox B.no⟩
  · have B := xcB_ok g2
    obtain ⟨fd, F⟩ := D.def_ 56 (d := d_m_InvalidShare) rfl
    exact ⟨B.ox, B.xf, B.ec, B.no, He.glo_ok KX G (D.fact 6 (f := .glo "InvalidShare") rfl), B.me, B.ve, c_xShare ⟨_, fd, fun_of F, B.fi, B.ti⟩ B.ox B.no⟩
  · have B := xcB_ok g3
    obtain ⟨fd, F⟩ := D.def_ 57 (d := d_m_Undefined) rfl
    exact ⟨B.ox, B.xf, B.ec, B.no, He.glo_ok KX G (D.fact 7 (f := .glo "Undefined") rfl), B.me, B.ve, c_xUndefined ⟨_, fd, fun_of F, B.fi, B.ti⟩ B.ox B.no⟩
theorem law_of {fd : FuncData} (FL : Fun Z.K "law" "law" s_law (He.ga Z.K "law") fd) (KX : Z.K.In h) (G : h.Ns mainGlobals Z.mg) (c : He.SaysX hfa hfn [] htf hex Z.w h Z.K) (TB : ∀ p ∈ htf, GxR.TabB Z.base Z.mg (He.cT Z.K p).1 (He.cT Z.K p).2) :
    FnOk Z.P Z.w Z.K Z.mg Z.base CX0 18 (He.ga Z.K "law") fd ["_law_script"] (p_law_body Z.K (tau Z.K)) := by
  have D := c.t.d
  have T := tx_of KX G c
  obtain ⟨xN, xS, xU⟩ := x_of KX G c
  obtain ⟨_, e1⟩ := He.ba c.more
  obtain ⟨_, e2⟩ := He.ba e1
  obtain ⟨h1, e2⟩ := He.ba e2
  obtain ⟨h2, e2⟩ := He.ba e2
  obtain ⟨h3, e2⟩ := He.ba e2
  obtain ⟨h4, h5⟩ := He.ba e2
  have kSN := of_decide_eq_true h3
  have kNU := of_decide_eq_true h4
  have kU := of_decide_eq_true h5
  have mIT := He.glo_ok KX G (D.fact 5 (f := .glo "InvalidTable") rfl)
  have F_eq : MEq Z (He.ga Z.K "Share") := by
    obtain ⟨fd, F⟩ := D.def_ 54 (d := d_m_Seq) rfl
    exact ⟨_, fd, fun_of F, of_decide_eq_true h1, h2⟩
  have F_is_integer : Fn Z "is_integer" "is_integer" s_is_integer := by
    obtain ⟨fd, F⟩ := D.def_ 0 (d := d_is_integer) rfl
    exact ⟨_, fd, fun_of (kws := []) F, He.glo_ok KX G (D.fact 8 (f := .glo "is_integer") rfl)⟩
  have F_is_between : Fn Z "is_between" "is_between" s_is_between := by
    obtain ⟨fd, F⟩ := D.def_ 1 (d := d_is_between) rfl
    exact ⟨_, fd, fun_of (kws := []) F, He.glo_ok KX G (D.fact 9 (f := .glo "is_between") rfl)⟩
  have F_is_bit : Fn Z "is_bit" "is_bit" s_is_bit := by
    obtain ⟨fd, F⟩ := D.def_ 2 (d := d_is_bit) rfl
    exact ⟨_, fd, fun_of (kws := []) F, He.glo_ok KX G (D.fact 10 (f := .glo "is_bit") rfl)⟩
  have F_is_bits : FnT Z "is_bits" "is_bits" s_is_bits (tau Z.K).A := by
    obtain ⟨fd, F⟩ := D.def_ 3 (d := d_is_bits) rfl
    exact fnT_of (kws := []) (p := ("is_bits", none)) F (TB _ (List.mem_of_getElem? (i := 0) rfl)) (He.glo_ok KX G (D.fact 11 (f := .glo "is_bits") rfl))
  have F_is_some_word : Fn Z "is_some_word" "is_some_word" s_is_some_word := by
    obtain ⟨fd, F⟩ := D.def_ 4 (d := d_is_some_word) rfl
    exact ⟨_, fd, fun_of (kws := []) F, He.glo_ok KX G (D.fact 12 (f := .glo "is_some_word") rfl)⟩
  have F_is_word : Fn Z "is_word" "is_word" s_is_word := by
    obtain ⟨fd, F⟩ := D.def_ 5 (d := d_is_word) rfl
    exact ⟨_, fd, fun_of (kws := []) F, He.glo_ok KX G (D.fact 13 (f := .glo "is_word") rfl)⟩
  have F_word_at : FnT Z "word_at" "word_at" s_word_at (tau Z.K).W := by
    obtain ⟨fd, F⟩ := D.def_ 6 (d := d_word_at) rfl
    exact fnT_of (kws := []) (p := ("word_at", none)) F (TB _ (List.mem_of_getElem? (i := 1) rfl)) (He.glo_ok KX G (D.fact 14 (f := .glo "word_at") rfl))
  have F_bits_number : Fn Z "bits_number" "bits_number" s_bits_number := by
    obtain ⟨fd, F⟩ := D.def_ 7 (d := d_bits_number) rfl
    exact ⟨_, fd, fun_of (kws := []) F, He.glo_ok KX G (D.fact 15 (f := .glo "bits_number") rfl)⟩
  have F_parity_of : FnT Z "parity_of" "parity_of" s_parity_of (tau Z.K).P := by
    obtain ⟨fd, F⟩ := D.def_ 8 (d := d_parity_of) rfl
    exact fnT_of (kws := []) (p := ("parity_of", none)) F (TB _ (List.mem_of_getElem? (i := 2) rfl)) (He.glo_ok KX G (D.fact 16 (f := .glo "parity_of") rfl))
  have F_sum_table : Fn Z "sum_table" "sum_table" s_sum_table := by
    obtain ⟨fd, F⟩ := D.def_ 9 (d := d_sum_table) rfl
    exact ⟨_, fd, fun_of (kws := []) F, He.glo_ok KX G (D.fact 18 (f := .glo "sum_table") rfl)⟩
  have F_distance : FnT Z "distance" "distance" s_distance (tau Z.K).D := by
    obtain ⟨fd, F⟩ := D.def_ 10 (d := d_distance) rfl
    exact fnT_of (kws := []) (p := ("distance", none)) F (TB _ (List.mem_of_getElem? (i := 4) rfl)) (He.glo_ok KX G (D.fact 19 (f := .glo "distance") rfl))
  have F_signed_sum : Fn Z "signed_sum" "signed_sum" s_signed_sum := by
    obtain ⟨fd, F⟩ := D.def_ 11 (d := d_signed_sum) rfl
    exact ⟨_, fd, fun_of (kws := []) F, He.glo_ok KX G (D.fact 20 (f := .glo "signed_sum") rfl)⟩
  have F_sums_and_differences : Fn Z "sums_and_differences" "sums_and_differences" s_sums_and_differences := by
    obtain ⟨fd, F⟩ := D.def_ 12 (d := d_sums_and_differences) rfl
    exact ⟨_, fd, fun_of (kws := []) F, He.glo_ok KX G (D.fact 21 (f := .glo "sums_and_differences") rfl)⟩
  have F_signed_sums : Fn Z "signed_sums" "signed_sums" s_signed_sums := by
    obtain ⟨fd, F⟩ := D.def_ 13 (d := d_signed_sums) rfl
    exact ⟨_, fd, fun_of (kws := []) F, He.glo_ok KX G (D.fact 22 (f := .glo "signed_sums") rfl)⟩
  have F_table_from : FnT Z "table_from" "table_from" s_table_from (tau Z.K).F := by
    obtain ⟨fd, F⟩ := D.def_ 14 (d := d_table_from) rfl
    exact fnT_of (kws := []) (p := ("table_from", none)) F (TB _ (List.mem_of_getElem? (i := 12) rfl)) (He.glo_ok KX G (D.fact 23 (f := .glo "table_from") rfl))
  have F_mended : Fn Z "mended" "mended" s_mended := by
    obtain ⟨fd, F⟩ := D.def_ 15 (d := d_mended) rfl
    exact ⟨_, fd, fun_of (kws := []) F, He.glo_ok KX G (D.fact 25 (f := .glo "mended") rfl)⟩
  have F_ones_of : FnT Z "ones_of" "ones_of" s_ones_of (tau Z.K).O := by
    obtain ⟨fd, F⟩ := D.def_ 16 (d := d_ones_of) rfl
    exact fnT_of (kws := []) (p := ("ones_of", none)) F (TB _ (List.mem_of_getElem? (i := 5) rfl)) (He.glo_ok KX G (D.fact 26 (f := .glo "ones_of") rfl))
  have F_one_share : Fn Z "one_share" "one_share" s_one_share := by
    obtain ⟨fd, F⟩ := D.def_ 17 (d := d_one_share) rfl
    exact ⟨_, fd, fun_of (kws := []) F, He.glo_ok KX G (D.fact 27 (f := .glo "one_share") rfl)⟩
  have F_mended_bit : Fn Z "mended_bit" "mended_bit" s_mended_bit := by
    obtain ⟨fd, F⟩ := D.def_ 18 (d := d_mended_bit) rfl
    exact ⟨_, fd, fun_of (kws := []) F, He.glo_ok KX G (D.fact 28 (f := .glo "mended_bit") rfl)⟩
  have F_greatest_of : FnT Z "greatest_of" "greatest_of" s_greatest_of (tau Z.K).G := by
    obtain ⟨fd, F⟩ := D.def_ 19 (d := d_greatest_of) rfl
    exact fnT_of (kws := []) (p := ("greatest_of", none)) F (TB _ (List.mem_of_getElem? (i := 6) rfl)) (He.glo_ok KX G (D.fact 29 (f := .glo "greatest_of") rfl))
  have F_least_distance : Fn Z "least_distance" "least_distance" s_least_distance := by
    obtain ⟨fd, F⟩ := D.def_ 20 (d := d_least_distance) rfl
    exact ⟨_, fd, fun_of (kws := []) F, He.glo_ok KX G (D.fact 30 (f := .glo "least_distance") rfl)⟩
  have F_nearest_sums : FnT Z "nearest_sums" "nearest_sums" s_nearest_sums (tau Z.K).N := by
    obtain ⟨fd, F⟩ := D.def_ 21 (d := d_nearest_sums) rfl
    exact fnT_of (kws := []) (p := ("nearest_sums", none)) F (TB _ (List.mem_of_getElem? (i := 7) rfl)) (He.glo_ok KX G (D.fact 31 (f := .glo "nearest_sums") rfl))
  have F_near_sums : FnT Z "near_sums" "near_sums" s_near_sums (tau Z.K).M := by
    obtain ⟨fd, F⟩ := D.def_ 22 (d := d_near_sums) rfl
    exact fnT_of (kws := []) (p := ("near_sums", none)) F (TB _ (List.mem_of_getElem? (i := 8) rfl)) (He.glo_ok KX G (D.fact 32 (f := .glo "near_sums") rfl))
  have F_beginning_weight : FnT Z "beginning_weight" "beginning_weight" s_beginning_weight (tau Z.K).B := by
    obtain ⟨fd, F⟩ := D.def_ 23 (d := d_beginning_weight) rfl
    exact fnT_of (kws := []) (p := ("beginning_weight", none)) F (TB _ (List.mem_of_getElem? (i := 9) rfl)) (He.glo_ok KX G (D.fact 33 (f := .glo "beginning_weight") rfl))
  have F_passes_sum : FnT Z "passes_sum" "passes_sum" s_passes_sum (tau Z.K).S := by
    obtain ⟨fd, F⟩ := D.def_ 24 (d := d_passes_sum) rfl
    exact fnT_of (kws := []) (p := ("passes_sum", none)) F (TB _ (List.mem_of_getElem? (i := 10) rfl)) (He.glo_ok KX G (D.fact 34 (f := .glo "passes_sum") rfl))
  have F_power_of : Fn Z "power_of" "power_of" s_power_of := by
    obtain ⟨fd, F⟩ := D.def_ 25 (d := d_power_of) rfl
    exact ⟨_, fd, fun_of (kws := []) F, He.glo_ok KX G (D.fact 35 (f := .glo "power_of") rfl)⟩
  have F_passing_share : ∃ c, GxR.TabB Z.base Z.mg c (tau Z.K).Q ∧ ∃ f fd oc od kV doc pm an ct osl, fd = W.fnOf "passing_share" "passing_share" (defArgs s_passing_share) (defBody s_passing_share) (defScope s_passing_share) Value.none kV doc pm an (.ref c) ct ∧
      List.lookup f Z.K = some { cls := oc, dict := od, data := Data.func fd, slots := osl } ∧ W.codeIn Z.K (.ref c) "passing_share" = true ∧ KwdV Z.K kV [("many", .int 2)] ∧ W.keepIn Z.K (.ref f) = true ∧ Z.mg "passing_share" = some (.ref f) := by
    obtain ⟨fd, F⟩ := D.def_ 26 (d := d_passing_share) rfl
    obtain ⟨c, T, fd, oc, od, kV, doc, pm, an, ct, osl, e, lk, hcd, hK, kp⟩ := tab_of (x := "passing_share") (qual := "passing_share") (st := s_passing_share) (kws := [("many", .int 2)]) (p := ("passing_share", none)) F (TB _ (List.mem_of_getElem? (i := 11) rfl))
    exact ⟨c, T, _, fd, oc, od, kV, doc, pm, an, ct, osl, e, lk, hcd, hK, kp, He.glo_ok KX G (D.fact 36 (f := .glo "passing_share") rfl)⟩
  have F__law_integer : Fn Z "_law_integer" "_law_integer" s_law_integer := by
    obtain ⟨fd, F⟩ := D.def_ 27 (d := d__law_integer) rfl
    exact ⟨_, fd, fun_of (kws := []) F, He.glo_ok KX G (D.fact 37 (f := .glo "_law_integer") rfl)⟩
  have F__law_start : Fn Z "_law_start" "_law_start" s_law_start := by
    obtain ⟨fd, F⟩ := D.def_ 28 (d := d__law_start) rfl
    exact ⟨_, fd, fun_of (kws := []) F, He.glo_ok KX G (D.fact 38 (f := .glo "_law_start") rfl)⟩
  have F__law_draw : Fn Z "_law_draw" "_law_draw" s_law_draw := by
    obtain ⟨fd, F⟩ := D.def_ 29 (d := d__law_draw) rfl
    exact ⟨_, fd, fun_of (kws := []) F, He.glo_ok KX G (D.fact 39 (f := .glo "_law_draw") rfl)⟩
  have F__law_wide : Fn Z "_law_wide" "_law_wide" s_law_wide := by
    obtain ⟨fd, F⟩ := D.def_ 30 (d := d__law_wide) rfl
    exact ⟨_, fd, fun_of (kws := []) F, He.glo_ok KX G (D.fact 40 (f := .glo "_law_wide") rfl)⟩
  have F__law_gcd : Fn Z "_law_gcd" "_law_gcd" s_law_gcd := by
    obtain ⟨fd, F⟩ := D.def_ 31 (d := d__law_gcd) rfl
    exact ⟨_, fd, fun_of (kws := []) F, He.glo_ok KX G (D.fact 41 (f := .glo "_law_gcd") rfl)⟩
  have F__law_is : Fn Z "_law_is" "_law_is" s_law_is := by
    obtain ⟨fd, F⟩ := D.def_ 32 (d := d__law_is) rfl
    exact ⟨_, fd, fun_of (kws := []) F, He.glo_ok KX G (D.fact 42 (f := .glo "_law_is") rfl)⟩
  have F__law_bits : Fn Z "_law_bits" "_law_bits" s_law_bits := by
    obtain ⟨fd, F⟩ := D.def_ 33 (d := d__law_bits) rfl
    exact ⟨_, fd, fun_of (kws := []) F, He.glo_ok KX G (D.fact 43 (f := .glo "_law_bits") rfl)⟩
  have F__law_word : Fn Z "_law_word" "_law_word" s_law_word := by
    obtain ⟨fd, F⟩ := D.def_ 34 (d := d__law_word) rfl
    exact ⟨_, fd, fun_of (kws := []) F, He.glo_ok KX G (D.fact 44 (f := .glo "_law_word") rfl)⟩
  have F__law_dot : Fn Z "_law_dot" "_law_dot" s_law_dot := by
    obtain ⟨fd, F⟩ := D.def_ 35 (d := d__law_dot) rfl
    exact ⟨_, fd, fun_of (kws := []) F, He.glo_ok KX G (D.fact 45 (f := .glo "_law_dot") rfl)⟩
  have F__law_plus : Fn Z "_law_plus" "_law_plus" s_law_plus := by
    obtain ⟨fd, F⟩ := D.def_ 36 (d := d__law_plus) rfl
    exact ⟨_, fd, fun_of (kws := []) F, He.glo_ok KX G (D.fact 46 (f := .glo "_law_plus") rfl)⟩
  have F__law_odd : Fn Z "_law_odd" "_law_odd" s_law_odd := by
    obtain ⟨fd, F⟩ := D.def_ 37 (d := d__law_odd) rfl
    exact ⟨_, fd, fun_of (kws := []) F, He.glo_ok KX G (D.fact 47 (f := .glo "_law_odd") rfl)⟩
  have F__law_cells : Fn Z "_law_cells" "_law_cells" s_law_cells := by
    obtain ⟨fd, F⟩ := D.def_ 38 (d := d__law_cells) rfl
    exact ⟨_, fd, fun_of (kws := []) F, He.glo_ok KX G (D.fact 48 (f := .glo "_law_cells") rfl)⟩
  have F__law_halves : Fn Z "_law_halves" "_law_halves" s_law_halves := by
    obtain ⟨fd, F⟩ := D.def_ 39 (d := d__law_halves) rfl
    exact ⟨_, fd, fun_of (kws := []) F, He.glo_ok KX G (D.fact 49 (f := .glo "_law_halves") rfl)⟩
  have F__law_number : Fn Z "_law_number" "_law_number" s_law_number := by
    obtain ⟨fd, F⟩ := D.def_ 40 (d := d__law_number) rfl
    exact ⟨_, fd, fun_of (kws := []) F, He.glo_ok KX G (D.fact 50 (f := .glo "_law_number") rfl)⟩
  have F__law_numbers_are : Fn Z "_law_numbers_are" "_law_numbers_are" s_law_numbers_are := by
    obtain ⟨fd, F⟩ := D.def_ 41 (d := d__law_numbers_are) rfl
    exact ⟨_, fd, fun_of (kws := []) F, He.glo_ok KX G (D.fact 51 (f := .glo "_law_numbers_are") rfl)⟩
  have F__law_rows_are : Fn Z "_law_rows_are" "_law_rows_are" s_law_rows_are := by
    obtain ⟨fd, F⟩ := D.def_ 42 (d := d__law_rows_are) rfl
    exact ⟨_, fd, fun_of (kws := []) F, He.glo_ok KX G (D.fact 52 (f := .glo "_law_rows_are") rfl)⟩
  have F__law_signed : Fn Z "_law_signed" "_law_signed" s_law_signed := by
    obtain ⟨fd, F⟩ := D.def_ 43 (d := d__law_signed) rfl
    exact ⟨_, fd, fun_of (kws := []) F, He.glo_ok KX G (D.fact 53 (f := .glo "_law_signed") rfl)⟩
  have F__law_from : Fn Z "_law_from" "_law_from" s_law_from := by
    obtain ⟨fd, F⟩ := D.def_ 44 (d := d__law_from) rfl
    exact ⟨_, fd, fun_of (kws := []) F, He.glo_ok KX G (D.fact 54 (f := .glo "_law_from") rfl)⟩
  have F__law_near : Fn Z "_law_near" "_law_near" s_law_near := by
    obtain ⟨fd, F⟩ := D.def_ 45 (d := d__law_near) rfl
    exact ⟨_, fd, fun_of (kws := []) F, He.glo_ok KX G (D.fact 55 (f := .glo "_law_near") rfl)⟩
  have F__law_no_share : Fn Z "_law_no_share" "_law_no_share" s_law_no_share := by
    obtain ⟨fd, F⟩ := D.def_ 46 (d := d__law_no_share) rfl
    exact ⟨_, fd, fun_of (kws := []) F, He.glo_ok KX G (D.fact 56 (f := .glo "_law_no_share") rfl)⟩
  have F__law_tested : Fn Z "_law_tested" "_law_tested" s_law_tested := by
    obtain ⟨fd, F⟩ := D.def_ 47 (d := d__law_tested) rfl
    exact ⟨_, fd, fun_of (kws := []) F, He.glo_ok KX G (D.fact 57 (f := .glo "_law_tested") rfl)⟩
  have F__law_no_many : Fn Z "_law_no_many" "_law_no_many" s_law_no_many := by
    obtain ⟨fd, F⟩ := D.def_ 48 (d := d__law_no_many) rfl
    exact ⟨_, fd, fun_of (kws := []) F, He.glo_ok KX G (D.fact 58 (f := .glo "_law_no_many") rfl)⟩
  have F__law_mended : Fn Z "_law_mended" "_law_mended" s_law_mended := by
    obtain ⟨fd, F⟩ := D.def_ 49 (d := d__law_mended) rfl
    exact ⟨_, fd, fun_of (kws := []) F, He.glo_ok KX G (D.fact 59 (f := .glo "_law_mended") rfl)⟩
  have F__law_body : Fn Z "_law_body" "_law_body" s_law_body := by
    obtain ⟨fd, F⟩ := D.def_ 50 (d := d__law_body) rfl
    exact ⟨_, fd, fun_of (kws := []) F, He.glo_ok KX G (D.fact 60 (f := .glo "_law_body") rfl)⟩
  have F_Tinit : MFnT Z (He.ga Z.K "Table") "Table" "Table.__init__" s_Tinit (tau Z.K).I := by
    obtain ⟨fd, F⟩ := D.def_ 52 (d := d_m_Tinit) rfl
    obtain ⟨c, T, fd, oc, od, kV, doc, pm, an, ct, osl, e, lk, hcd, _, kp⟩ := tab_of (x := "__init__") (qual := "Table.__init__") (st := s_Tinit) (kws := []) (p := ("Table", some "__init__")) F (TB _ (List.mem_of_getElem? (i := 3) rfl))
    exact ⟨_, fd, oc, od, kV, doc, pm, an, c, ct, osl, e, lk, hcd, kp, T, He.mkr_ok (D.fact 84 (f := .mkr "Table") rfl), He.glo_ok KX G (D.fact 17 (f := .glo "Table") rfl)⟩
  have F_Sinit : MFn Z (He.ga Z.K "Share") "Share" "Share.__init__" s_Sinit := by
    obtain ⟨fd, F⟩ := D.def_ 53 (d := d_m_Sinit) rfl
    exact ⟨_, fd, fun_of (kws := []) F, He.mkr_ok (D.fact 85 (f := .mkr "Share") rfl), He.glo_ok KX G (D.fact 24 (f := .glo "Share") rfl)⟩
  have q_is_integer := c_is_integer T F_is_integer
  have q_is_between := c_is_between T F_is_between q_is_integer
  have q_is_bit := c_is_bit T F_is_bit q_is_between
  have q_is_bits := c_is_bits T F_is_bits q_is_bit
  have q_is_some_word := c_is_some_word T F_is_some_word q_is_bits
  have q_is_word := c_is_word T F_is_word q_is_some_word
  have q_word_at := c_word_at T F_word_at
  have q_bits_number := c_bits_number F_bits_number
  have q_parity_of := c_parity_of T F_parity_of
  have q_Tinit := c_Tinit T F_Tinit q_is_between q_is_bit
  have q_sum_table := c_sum_table T F_sum_table q_is_some_word q_word_at q_parity_of q_Tinit
  have q_distance := c_distance T F_distance
  have q_signed_sum := c_signed_sum T F_signed_sum q_is_word q_word_at q_parity_of
  have q_sums_and_differences := c_sums_and_differences T F_sums_and_differences
  have q_signed_sums := c_signed_sums T F_signed_sums q_sums_and_differences
  have q_Sinit := c_Sinit T F_Sinit q_is_integer
  have q_mended := c_mended T F_mended q_is_word q_bits_number
  have q_ones_of := c_ones_of T F_ones_of q_is_word q_bits_number
  have q_one_share := c_one_share T F_one_share q_ones_of q_Sinit
  have q_greatest_of := c_greatest_of T F_greatest_of
  have q_least_distance := c_least_distance T F_least_distance q_signed_sums q_greatest_of
  have q_nearest_sums := c_nearest_sums T F_nearest_sums q_signed_sums q_greatest_of q_word_at
  have q_beginning_weight := c_beginning_weight T F_beginning_weight q_is_bits q_bits_number q_signed_sums
  have q_passes_sum := c_passes_sum T F_passes_sum q_is_word q_bits_number
  have q_power_of := c_power_of T F_power_of
  have q_mended_bit := c_mended_bit T F_mended_bit q_ones_of xU
  have q_near_sums := c_near_sums T F_near_sums q_signed_sums q_word_at xS
  have q_passing_share := c_passing_share T F_passing_share q_is_between q_power_of q_signed_sums q_Sinit xN
  have q_table_from := c_table_from T F_table_from q_is_between q_is_integer q_sums_and_differences q_Tinit xU
  have q__law_integer := c_law_integer T F__law_integer
  have q__law_start := c_law_start T F__law_start
  have q__law_draw := c_law_draw T F__law_draw
  have q__law_wide := c_law_wide T F__law_wide q__law_draw
  have q__law_gcd := c_law_gcd T F__law_gcd
  have q__law_is := c_law_is T F__law_is q__law_integer q__law_gcd
  have q__law_bits := c_law_bits T F__law_bits
  have q__law_word := c_law_word T F__law_word q__law_draw
  have q__law_dot := c_law_dot T F__law_dot
  have q__law_plus := c_law_plus T F__law_plus
  have q__law_odd := c_law_odd T F__law_odd q__law_draw q__law_wide
  have q__law_cells := c_law_cells T F__law_cells q__law_draw q__law_word q__law_dot q__law_bits
  have q__law_halves := c_law_halves T F__law_halves
  have q__law_number := c_law_number F__law_number
  have q__law_numbers_are := c_law_numbers_are T F__law_numbers_are q__law_integer
  have q__law_rows_are := c_law_rows_are T F__law_rows_are
  have q__law_signed := c_law_signed (τ := tau Z.K) T F__law_signed q__law_numbers_are q_signed_sums q__law_word q__law_number q_signed_sum q_distance q_sum_table q__law_integer q_table_from
  have q__law_from := c_law_from (τ := tau Z.K) T F__law_from q__law_draw q__law_odd q__law_integer q__law_halves q_table_from xU xN mIT kU
  have q__law_near := c_law_near (τ := tau Z.K) T F__law_near q__law_bits q_least_distance q__law_integer q__law_rows_are q_nearest_sums q__law_draw q_near_sums q_Sinit q__law_word q_beginning_weight
  have q__law_no_share := c_law_no_share T F__law_no_share q_near_sums xS xN kSN F_eq
  have q__law_tested := c_law_tested (τ := tau Z.K) T F__law_tested q__law_word q__law_draw q__law_plus q__law_number q_passes_sum q_passing_share q__law_is
  have q__law_no_many := c_law_no_many T F__law_no_many q_passing_share xU xN kNU
  have q__law_mended := c_law_mended (τ := tau Z.K) T F__law_mended q__law_word q__law_number q_mended q__law_plus q__law_integer q__law_bits q__law_is q_one_share xU q_mended_bit q__law_dot
  have q__law_body := c_law_body (τ := tau Z.K) T F__law_body q__law_start q__law_draw q__law_cells q__law_halves q_Tinit q_Sinit q__law_signed q__law_from q__law_near q__law_tested q__law_no_share q__law_no_many q__law_mended
  exact ok_law FL q__law_body
end
theorem tabE {H : Hp} {P : Addr} (h : H P = some (.tbl #[])) : GxR.TabG H P := ⟨#[], h, trivial⟩
theorem lawAt (w : World) (mg : Str → Option Value) (fa : Addr) (h : Heap) (Y : hookL.says w h) (G : h.Ns mainGlobals mg) (hmg : mg ("law" : Str) = some (.ref fa)) :
    ∃ K : W.Frag, K.In h ∧ LamX.LawAtS PySem.Challenge.rw_fourread_k71_whole_any_table w K CX0 18 63 "_law_script" mg fa h := by
  obtain ⟨K, KX, c⟩ := Y
  refine ⟨K, KX, ?_⟩
  have D := c.t.d
  obtain ⟨fd, F⟩ := D.def_ 51 (d := d_law) rfl
  have e := hmg.symm.trans (He.glo_ok KX G (D.fact 61 (f := .glo "law") rfl))
  cases e
  have b := FunD.bindsA (x := "law") (qual := "law") (kws := []) (ps := ["_law_script"]) F B_law
  refine ⟨fd, htf.map (He.cT K), p_law_body K (tau K), ?_, ?_, ?_, fun s v => b s [v] rfl, ?_, ?_⟩
  · intro p hp
    obtain ⟨q, hq, rfl⟩ := List.mem_map.mp hp
    exact c.empty q hq
  · intro p hp
    obtain ⟨q, hq, rfl⟩ := List.mem_map.mp hp
    exact c.out q hq
  · intro p hp
    obtain ⟨q, hq, rfl⟩ := List.mem_map.mp hp
    exact W.codeHd_of_K KX (c.hd q hq)
  · intro H a ns _ _ ht hs
    have t : ∀ p ∈ htf, GxR.TabG H (He.cT K p).2 := fun p hp => tabE (ht _ (List.mem_map.mpr ⟨p, hp, rfl⟩))
    have al : AllT (tau K) H := ⟨t _ (List.mem_of_getElem? (i := 0) rfl), t _ (List.mem_of_getElem? (i := 1) rfl), t _ (List.mem_of_getElem? (i := 2) rfl), t _ (List.mem_of_getElem? (i := 3) rfl), t _ (List.mem_of_getElem? (i := 4) rfl), t _ (List.mem_of_getElem? (i := 5) rfl), t _ (List.mem_of_getElem? (i := 6) rfl), t _ (List.mem_of_getElem? (i := 7) rfl), t _ (List.mem_of_getElem? (i := 8) rfl), t _ (List.mem_of_getElem? (i := 9) rfl), t _ (List.mem_of_getElem? (i := 10) rfl), t _ (List.mem_of_getElem? (i := 11) rfl), t _ (List.mem_of_getElem? (i := 12) rfl)⟩
    exact ⟨_, rfl, a, ns, rfl, hs, al, fun _ => rfl⟩
  · intro base KB GB TB
    exact law_of (Z := ⟨_, w, K, mg, base⟩) (fun_of (kws := []) F) KX G c fun p hp => by
      obtain ⟨x1, x2, x3⟩ := TB _ (List.mem_map.mpr ⟨p, hp, rfl⟩)
      exact ⟨x1, x2, x3⟩
end Q
open PySem PySem.W PySem.Calls PyProof.Rows
theorem PySem.Challenge.cw_fourread_k71_whole_any_table_holds : PySem.Challenge.rw_fourread_k71_whole_any_table.Holds := by
  w_on; o_law
  refine HandSHeadRun.head_imp (r := OpenLaw.row PySem.Challenge.rw_fourread_k71_whole_any_table) (q := view (OpenLaw.row PySem.Challenge.rw_fourread_k71_whole_any_table).prog [0, 73]) (H := Q.hookL) (ob := Q.obL) (M := 9000) (loose := Q.hlo) (d := HandSHeadRun.topDef (OpenLaw.row PySem.Challenge.rw_fourread_k71_whole_any_table).prog 73) (kwd := []) Q.obL_eq Q.hrun
    (by kernel_rfl) (by kernel_rfl) (by kernel_rfl) (by rfl) (by first | assumption | decide +kernel) (by decide +kernel) ⟨rfl, rfl, rfl, rfl, rfl, by decide +kernel⟩ ?hw ?hc
  case hw => w_witness2
  case hc =>
    refine LamX.walk_ofTsE (l := PySem.Challenge.rw_fourread_k71_whole_any_table) (n := 63) (k := 18) (x := "_law_script") (CX := fun _ => L2.CX0) rfl (by decide) (by kernel_rfl) ⟨rfl, by decide, by decide⟩ ?F (fun _ _ _ _ _ z => z)
    intro w mg fa h Y G hmg0
    have hmg : mg ("law" : PySem.Str) = some (.ref fa) := by
      have e : (HandSHeadRun.topDef (OpenLaw.row PySem.Challenge.rw_fourread_k71_whole_any_table).prog 73).name = ("law" : PySem.Str) := by kernel_rfl
      rw [← e]
      exact hmg0
    exact Q.lawAt w mg fa h Y G hmg
