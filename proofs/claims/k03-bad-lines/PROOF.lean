import PyProof.Rows.All
import Wide.All
import OpenK.AllK
import Wide.FinOn
import PyProof.EqAt
import PyProof.EqKinds
import PyProof.TupleCall
import KE.KStateDown
import KE.KExcIs
import HandS.Base
import HandS.Call
import HandS.List
import HandS.Comp
import HandS.Ends
import HandS.Dict
import HandS.Iter
import HandS.Text
import HandS.More
import HandS.Words
import HandS.WordsList
import HandS.WordsExc
import HandS.Walk
import HandS.Zip
import HandS.NoneIn
import HandS.TupLe
import HandS.IsInst
import HandS.Defaults
import HandS.Exc
import HandS.ExcOwn
import HandS.ExcCtx
import HandS.ExcInit
import HandS.ExcInitHot
import HandS.ExcField
import HandS.ExcIs
import HandS.SuiteRaise
import HandS.RaiseFrom
import HandS.Finally
import HandS.Head0
import HandS.Head1
import HandS.Head2
import HandS.HeadEnd
import HandS.HeadHook1
import HandS.HeadHook2
import PySem.Challenge.RW_afterwise_k03_whole_bad_lines
import KE.IntTextLaws
set_option Elab.async false
set_option linter.all false
set_option maxRecDepth 100000
set_option maxHeartbeats 4000000
/-! The tables: the defs of the text, the facts of the top, by names. -/
namespace Aw
open PySem PySem.Spec PyProof.Rows L2
def top (i : Nat) : Stmt := PySem.Challenge.pw_afterwise_k03_whole_bad_lines.main.body.getD i (.Pass ⟨0, 0, 0, 0⟩)
abbrev s_WrongThing_init : Stmt := inClass (top 2) 0
abbrev s_BadLine_init : Stmt := inClass (top 9) 0
abbrev s_is_integer : Stmt := top 12
abbrev s_is_listed : Stmt := top 14
abbrev s_deep : Stmt := top 15
abbrev s_is_asks : Stmt := top 16
abbrev s_check_asks : Stmt := top 17
abbrev s_integers : Stmt := top 19
abbrev s_is_table : Stmt := top 22
abbrev s_are_costs : Stmt := top 23
abbrev s_Store_init : Stmt := inClass (top 24) 0
abbrev s_is_price : Stmt := top 31
abbrev s_words_of : Stmt := top 32
abbrev s_heads_read : Stmt := top 33
abbrev s_prices_read : Stmt := top 34
abbrev s_asks_read : Stmt := top 35
abbrev s_read_store : Stmt := top 36
abbrev s_l_cell : Stmt := top 38
abbrev s_l_source : Stmt := top 39
abbrev s_l_draw : Stmt := top 40
abbrev s_l_is_int : Stmt := top 41
abbrev s_l_exact : Stmt := top 42
abbrev s_l_deep : Stmt := top 43
abbrev s_l_asks : Stmt := top 44
abbrev s_l_prices : Stmt := top 45
abbrev s_l_any_table : Stmt := top 46
abbrev s_l_change : Stmt := top 47
abbrev s_l_changes : Stmt := top 48
abbrev s_l_served : Stmt := top 49
abbrev s_l_world : Stmt := top 50
abbrev s_l_raised : Stmt := top 51
abbrev s_l_moved : Stmt := top 52
abbrev s_l_store_is : Stmt := top 53
abbrev s_l_lines : Stmt := top 54
abbrev s_l_good_asks : Stmt := top 55
abbrev s_l_good_price : Stmt := top 56
abbrev s_l_line_of : Stmt := top 57
abbrev s_l_judged : Stmt := top 58
abbrev s_l_word : Stmt := top 59
abbrev s_l_spoilt_line : Stmt := top 60
abbrev s_l_spoilt : Stmt := top 61
abbrev s_l_read : Stmt := top 62
abbrev s_law : Stmt := top 63
def d_WrongThing_init : He.DefD := ⟨("WrongThing", some "__init__"), "__init__", "WrongThing.__init__", defArgs s_WrongThing_init, defBody s_WrongThing_init, defScope s_WrongThing_init, [], []⟩
def d_BadLine_init : He.DefD := ⟨("BadLine", some "__init__"), "__init__", "BadLine.__init__", defArgs s_BadLine_init, defBody s_BadLine_init, defScope s_BadLine_init, [], []⟩
def d_is_integer : He.DefD := ⟨("is_integer", none), "is_integer", "is_integer", defArgs s_is_integer, defBody s_is_integer, defScope s_is_integer, [], []⟩
def d_is_listed : He.DefD := ⟨("is_listed", none), "is_listed", "is_listed", defArgs s_is_listed, defBody s_is_listed, defScope s_is_listed, [], []⟩
def d_deep : He.DefD := ⟨("deep", none), "deep", "deep", defArgs s_deep, defBody s_deep, defScope s_deep, [], []⟩
def d_is_asks : He.DefD := ⟨("is_asks", none), "is_asks", "is_asks", defArgs s_is_asks, defBody s_is_asks, defScope s_is_asks, [], []⟩
def d_check_asks : He.DefD := ⟨("check_asks", none), "check_asks", "check_asks", defArgs s_check_asks, defBody s_check_asks, defScope s_check_asks, [], []⟩
def d_integers : He.DefD := ⟨("integers", none), "integers", "integers", defArgs s_integers, defBody s_integers, defScope s_integers, [], []⟩
def d_is_table : He.DefD := ⟨("is_table", none), "is_table", "is_table", defArgs s_is_table, defBody s_is_table, defScope s_is_table, [], []⟩
def d_are_costs : He.DefD := ⟨("are_costs", none), "are_costs", "are_costs", defArgs s_are_costs, defBody s_are_costs, defScope s_are_costs, [], []⟩
def d_Store_init : He.DefD := ⟨("Store", some "__init__"), "__init__", "Store.__init__", defArgs s_Store_init, defBody s_Store_init, defScope s_Store_init, [], []⟩
def d_is_price : He.DefD := ⟨("is_price", none), "is_price", "is_price", defArgs s_is_price, defBody s_is_price, defScope s_is_price, [], []⟩
def d_words_of : He.DefD := ⟨("words_of", none), "words_of", "words_of", defArgs s_words_of, defBody s_words_of, defScope s_words_of, [], []⟩
def d_heads_read : He.DefD := ⟨("heads_read", none), "heads_read", "heads_read", defArgs s_heads_read, defBody s_heads_read, defScope s_heads_read, [], []⟩
def d_prices_read : He.DefD := ⟨("prices_read", none), "prices_read", "prices_read", defArgs s_prices_read, defBody s_prices_read, defScope s_prices_read, [], []⟩
def d_asks_read : He.DefD := ⟨("asks_read", none), "asks_read", "asks_read", defArgs s_asks_read, defBody s_asks_read, defScope s_asks_read, [], []⟩
def d_read_store : He.DefD := ⟨("read_store", none), "read_store", "read_store", defArgs s_read_store, defBody s_read_store, defScope s_read_store, [], []⟩
def d_l_cell : He.DefD := ⟨("_law_cell", none), "_law_cell", "_law_cell", defArgs s_l_cell, defBody s_l_cell, defScope s_l_cell, [], []⟩
def d_l_source : He.DefD := ⟨("_law_source", none), "_law_source", "_law_source", defArgs s_l_source, defBody s_l_source, defScope s_l_source, [], []⟩
def d_l_draw : He.DefD := ⟨("_law_draw", none), "_law_draw", "_law_draw", defArgs s_l_draw, defBody s_l_draw, defScope s_l_draw, [], []⟩
def d_l_is_int : He.DefD := ⟨("_law_is_int", none), "_law_is_int", "_law_is_int", defArgs s_l_is_int, defBody s_l_is_int, defScope s_l_is_int, [], []⟩
def d_l_exact : He.DefD := ⟨("_law_exact", none), "_law_exact", "_law_exact", defArgs s_l_exact, defBody s_l_exact, defScope s_l_exact, [], []⟩
def d_l_deep : He.DefD := ⟨("_law_deep", none), "_law_deep", "_law_deep", defArgs s_l_deep, defBody s_l_deep, defScope s_l_deep, [], []⟩
def d_l_asks : He.DefD := ⟨("_law_asks", none), "_law_asks", "_law_asks", defArgs s_l_asks, defBody s_l_asks, defScope s_l_asks, [], []⟩
def d_l_prices : He.DefD := ⟨("_law_prices", none), "_law_prices", "_law_prices", defArgs s_l_prices, defBody s_l_prices, defScope s_l_prices, [], []⟩
def d_l_any_table : He.DefD := ⟨("_law_any_table", none), "_law_any_table", "_law_any_table", defArgs s_l_any_table, defBody s_l_any_table, defScope s_l_any_table, [], []⟩
def d_l_change : He.DefD := ⟨("_law_change", none), "_law_change", "_law_change", defArgs s_l_change, defBody s_l_change, defScope s_l_change, [], []⟩
def d_l_changes : He.DefD := ⟨("_law_changes", none), "_law_changes", "_law_changes", defArgs s_l_changes, defBody s_l_changes, defScope s_l_changes, [], []⟩
def d_l_served : He.DefD := ⟨("_law_served", none), "_law_served", "_law_served", defArgs s_l_served, defBody s_l_served, defScope s_l_served, [], []⟩
def d_l_world : He.DefD := ⟨("_law_world", none), "_law_world", "_law_world", defArgs s_l_world, defBody s_l_world, defScope s_l_world, [], []⟩
def d_l_raised : He.DefD := ⟨("_law_raised", none), "_law_raised", "_law_raised", defArgs s_l_raised, defBody s_l_raised, defScope s_l_raised, [], []⟩
def d_l_moved : He.DefD := ⟨("_law_moved", none), "_law_moved", "_law_moved", defArgs s_l_moved, defBody s_l_moved, defScope s_l_moved, [], []⟩
def d_l_store_is : He.DefD := ⟨("_law_store_is", none), "_law_store_is", "_law_store_is", defArgs s_l_store_is, defBody s_l_store_is, defScope s_l_store_is, [], []⟩
def d_l_lines : He.DefD := ⟨("_law_lines", none), "_law_lines", "_law_lines", defArgs s_l_lines, defBody s_l_lines, defScope s_l_lines, [], []⟩
def d_l_good_asks : He.DefD := ⟨("_law_good_asks", none), "_law_good_asks", "_law_good_asks", defArgs s_l_good_asks, defBody s_l_good_asks, defScope s_l_good_asks, [], []⟩
def d_l_good_price : He.DefD := ⟨("_law_good_price", none), "_law_good_price", "_law_good_price", defArgs s_l_good_price, defBody s_l_good_price, defScope s_l_good_price, [], []⟩
def d_l_line_of : He.DefD := ⟨("_law_line_of", none), "_law_line_of", "_law_line_of", defArgs s_l_line_of, defBody s_l_line_of, defScope s_l_line_of, [], []⟩
def d_l_judged : He.DefD := ⟨("_law_judged", none), "_law_judged", "_law_judged", defArgs s_l_judged, defBody s_l_judged, defScope s_l_judged, [], []⟩
def d_l_word : He.DefD := ⟨("_law_word", none), "_law_word", "_law_word", defArgs s_l_word, defBody s_l_word, defScope s_l_word, [], []⟩
def d_l_spoilt_line : He.DefD := ⟨("_law_spoilt_line", none), "_law_spoilt_line", "_law_spoilt_line", defArgs s_l_spoilt_line, defBody s_l_spoilt_line, defScope s_l_spoilt_line, [], []⟩
def d_l_spoilt : He.DefD := ⟨("_law_spoilt", none), "_law_spoilt", "_law_spoilt", defArgs s_l_spoilt, defBody s_l_spoilt, defScope s_l_spoilt, [], []⟩
def d_l_read : He.DefD := ⟨("_law_read", none), "_law_read", "_law_read", defArgs s_l_read, defBody s_l_read, defScope s_l_read, [], []⟩
def d_law : He.DefD := ⟨("law", none), "law", "law", defArgs s_law, defBody s_law, defScope s_law, [], []⟩
def fnA : List He.DefD := [d_WrongThing_init, d_BadLine_init, d_is_integer, d_is_listed, d_deep, d_is_asks, d_check_asks, d_integers, d_is_table, d_are_costs, d_Store_init, d_is_price, d_words_of, d_heads_read, d_prices_read, d_asks_read, d_read_store, d_l_cell, d_l_source, d_l_draw, d_l_is_int, d_l_exact, d_l_deep, d_l_asks, d_l_prices]
def fnB : List He.DefD := [d_l_any_table, d_l_change, d_l_changes, d_l_served, d_l_world, d_l_raised, d_l_moved, d_l_store_is, d_l_lines, d_l_good_asks, d_l_good_price, d_l_line_of, d_l_judged, d_l_word, d_l_spoilt_line, d_l_spoilt, d_l_read, d_law]
def fn : List He.DefD := fnA ++ fnB
def faA : List He.Fa := [.glo "is_integer", .glo "is_listed", .glo "deep", .glo "is_asks", .glo "check_asks", .glo "integers", .glo "is_table", .glo "are_costs", .glo "is_price", .glo "words_of", .glo "heads_read", .glo "prices_read", .glo "asks_read", .glo "read_store", .glo "_law_cell", .glo "_law_source", .glo "_law_draw", .glo "_law_is_int", .glo "_law_exact", .glo "_law_deep", .glo "_law_asks", .glo "_law_prices", .glo "_law_any_table", .glo "_law_change", .glo "_law_changes", .glo "_law_served", .glo "_law_world", .glo "_law_raised", .glo "_law_moved", .glo "_law_store_is"]
def faB : List He.Fa := [.glo "_law_lines", .glo "_law_good_asks", .glo "_law_good_price", .glo "_law_line_of", .glo "_law_judged", .glo "_law_word", .glo "_law_spoilt_line", .glo "_law_spoilt", .glo "_law_read", .glo "law", .glo "Store", .glo "BadAsks", .glo "BadLine", .glo "AfterError", .glo "WrongThing"]
def faC : List He.Fa := [.free "isinstance", .free "int", .free "bool", .free "tuple", .free "list", .free "str", .free "len", .free "range", .free "enumerate", .free "zip", .free "max", .free "abs", .free "sum", .free "ValueError", .int "MOST_STATES" 1000, .str "LETTERS" "abcdefgh", .str "FIGURES" "0123456789", .cls "Store", .mkr "Store", .noat "Store" "asks", .noat "Store" "begins", .noat "Store" "costs", .noat "Store" "ends"]
def fa : List He.Fa := faA ++ (faB ++ faC)
def looseA : List PySem.Str := [PySem.Str.ofString "AfterError", PySem.Str.ofString "WrongThing", PySem.Str.ofString "BadAsks", PySem.Str.ofString "BadAsk", PySem.Str.ofString "BadState", PySem.Str.ofString "BadStore", PySem.Str.ofString "Unlike", PySem.Str.ofString "TooMany", PySem.Str.ofString "BadLine", PySem.Str.ofString "LETTERS", PySem.Str.ofString "is_integer", PySem.Str.ofString "is_count", PySem.Str.ofString "is_listed", PySem.Str.ofString "deep", PySem.Str.ofString "is_asks", PySem.Str.ofString "check_asks", PySem.Str.ofString "check_ask", PySem.Str.ofString "integers", PySem.Str.ofString "MOST_STATES", PySem.Str.ofString "is_table", PySem.Str.ofString "are_costs", PySem.Str.ofString "Store", PySem.Str.ofString "check_state", PySem.Str.ofString "pair_sums", PySem.Str.ofString "sum_store", PySem.Str.ofString "turned_store", PySem.Str.ofString "FIGURES", PySem.Str.ofString "is_price", PySem.Str.ofString "words_of", PySem.Str.ofString "heads_read", PySem.Str.ofString "prices_read", PySem.Str.ofString "asks_read", PySem.Str.ofString "read_store", PySem.Str.ofString "_law_cell", PySem.Str.ofString "_law_source"]
def looseB : List PySem.Str := [PySem.Str.ofString "_law_draw", PySem.Str.ofString "_law_is_int", PySem.Str.ofString "_law_exact", PySem.Str.ofString "_law_deep", PySem.Str.ofString "_law_asks", PySem.Str.ofString "_law_prices", PySem.Str.ofString "_law_any_table", PySem.Str.ofString "_law_change", PySem.Str.ofString "_law_changes", PySem.Str.ofString "_law_served", PySem.Str.ofString "_law_world", PySem.Str.ofString "_law_raised", PySem.Str.ofString "_law_moved", PySem.Str.ofString "_law_store_is", PySem.Str.ofString "_law_lines", PySem.Str.ofString "_law_good_asks", PySem.Str.ofString "_law_good_price", PySem.Str.ofString "_law_line_of", PySem.Str.ofString "_law_judged", PySem.Str.ofString "_law_word", PySem.Str.ofString "_law_spoilt_line", PySem.Str.ofString "_law_spoilt", PySem.Str.ofString "_law_read"]
def loose : List PySem.Str := looseA ++ looseB
/-! ### the two error classes, in one Bool -/
def oexB (K : PySem.W.Frag) (C : Addr) : Bool := (match K.lookup C with
  | some ⟨.type t, _, .cls cd, sl⟩ => decide (t = "type") && (match cd.mro, sl.toList with
    | .ref C' :: bm, [_, _, _, _, some (.builtin n), _] => decide (C' = C) && (decide (n = "ValueError.__new__") && (!cd.hasDel && (cd.hasDict && PySem.HandSPX.refsVE bm)))
    | _, _ => false)
  | _ => false) && (eqA (PySem.W.findIn K (.ref C) "__setattr__") "object.__setattr__" && (decide (PySem.W.subIn K (.ref C) (.type "BaseException") = some true) && (decide (PySem.W.typeIn K (.ref C) = some (.type "type")) && PySem.W.keepIn K (.ref C))))
where eqA (a : Option (Option Value)) (b : String) : Bool := decide (a = some (some (.builtin b)))
theorem oexB_ok {K : PySem.W.Frag} {C : Addr} (h : oexB K C = true) : OexC K C := by
  unfold oexB at h
  obtain ⟨h1, h⟩ := Bool.and_eq_true_iff.mp h
  obtain ⟨h2, h⟩ := Bool.and_eq_true_iff.mp h
  obtain ⟨h3, h⟩ := Bool.and_eq_true_iff.mp h
  obtain ⟨h4, h5⟩ := Bool.and_eq_true_iff.mp h
  refine ⟨?_, of_decide_eq_true h2, of_decide_eq_true h3, of_decide_eq_true h4, h5⟩
  split at h1
  · rename_i t dd cd sl ho
    split at h1
    · rename_i C' bm k0 k1 k2 k3 n k5 hm hs
      simp only [Bool.and_eq_true, decide_eq_true_eq, Bool.not_eq_true'] at h1
      obtain ⟨et, e1, e2, e3, e4, e5⟩ := h1
      subst et e1 e2
      obtain ⟨nm, bs, mro, ns, qn, hd, sn, sub, ab, col, del⟩ := cd
      dsimp only at hm e3 e4
      subst hm e3 e4
      have hsl : sl = #[k0, k1, k2, k3, some (.builtin "ValueError.__new__"), k5] := by
        obtain ⟨l⟩ := sl
        simp only at hs
        rw [hs]
      subst hsl
      exact ⟨nm, qn, ns, bs, bm, sn, sub, ab, col, dd, k0, k1, k2, k3, k5, ho, e5⟩
    · simp at h1
  · cases h1
/-- all that is asked of an error class beyond -/
def xB (K : PySem.W.Frag) : Bool :=
  oexB K (He.ga K "BadAsks") && (oexB K (He.ga K "BadLine") &&
  (decide (PySem.W.findIn K (.ref (He.ga K "BadAsks")) "__init__" = some (some (.ref (He.ma K (He.ga K "WrongThing") "__init__")))) &&
  (decide (PySem.W.typeIn K (.ref (He.ma K (He.ga K "WrongThing") "__init__")) = some (.type "function")) &&
  (decide (PySem.W.findIn K (.ref (He.ga K "BadLine")) "__init__" = some (some (.ref (He.ma K (He.ga K "BadLine") "__init__")))) &&
  (decide (PySem.W.typeIn K (.ref (He.ma K (He.ga K "BadLine") "__init__")) = some (.type "function")) &&
  (decide (PySem.W.findIn K (.ref (He.ga K "BadAsks")) "thing" = some none) &&
  (decide (PySem.W.findIn K (.ref (He.ga K "BadLine")) "line" = some none) &&
  (decide (PySem.W.findIn K (.ref (He.ga K "BadLine")) "word" = some none) &&
  (xfB K (He.ga K "BadLine") &&
  ((PySem.W.clsIn K (He.ga K "BadLine")).isSome &&
  (decide (PySem.W.findIn K (.ref (He.ga K "BadLine")) "__class__" = some (some (.builtin "object.__class__"))) &&
  (decide (PySem.W.specialIn K (.builtin "object.__class__") "__get__" = some (some (.builtin "getset_descriptor.__get__"))) &&
  (decide (PySem.W.takesIn K (.builtin "object.__class__") = some true) &&
  (decide (PySem.W.mroIn K (He.ga K "BadLine") (.type "object") = some true) &&
  (decide (PySem.W.kitOne K (.ref (He.ga K "BadLine")) (.ref (He.ga K "AfterError")) = some true) &&
  (decide (PySem.W.kitOne K (.ref (He.ga K "BadLine")) (.type "ValueError") = some true) &&
  (decide (PySem.W.kitOne K (.ref (He.ga K "BadLine")) (.ref (He.ga K "WrongThing")) = some false) &&
  (decide (PySem.W.exmOne K (.ref (He.ga K "BadLine")) (.ref (He.ga K "BadLine")) = some true) &&
  decide (PySem.W.exmOne K (.ref (He.ga K "BadAsks")) (.ref (He.ga K "BadAsks")) = some true)))))))))))))))))))
/-- what the top has written -/
structure Txt (K : PySem.W.Frag) (mg : Str → Option Value) : Prop where
  says : He.SaysD fa fn K
  x : xB K = true
  hp : ∃ h : Heap, K.In h ∧ h.Ns mainGlobals mg
section
variable {K : PySem.W.Frag} {mg : Str → Option Value}
theorem Txt.g (T : Txt K mg) (i : Nat) {x : Str} (h : fa[i]? = some (.glo x) := by rfl) : mg x = some (.ref (He.ga K x)) := by
  obtain ⟨hh, X, G⟩ := T.hp
  exact He.glo_ok X G (T.says.fact i h)
theorem Txt.fr (T : Txt K mg) (i : Nat) {x : Str} (h : fa[i]? = some (.free x) := by rfl) : mg x = none := by
  obtain ⟨hh, X, G⟩ := T.hp
  exact He.free_ok X G (T.says.fact i h)
theorem Txt.ci (T : Txt K mg) (i : Nat) {x : Str} {z : Int} (h : fa[i]? = some (.int x z) := by rfl) : ∃ t, mg x = some (.int z t) := by
  obtain ⟨hh, X, G⟩ := T.hp
  exact He.int_ok X G (T.says.fact i h)
theorem Txt.cs (T : Txt K mg) (i : Nat) {x z : Str} (h : fa[i]? = some (.str x z) := by rfl) : ∃ t, mg x = some (.str z t) := by
  obtain ⟨hh, X, G⟩ := T.hp
  exact He.str_ok X G (T.says.fact i h)
theorem Txt.g_is_integer (T : Txt K mg) : mg "is_integer" = some (.ref (He.ga K "is_integer")) := T.g 0
theorem Txt.g_is_listed (T : Txt K mg) : mg "is_listed" = some (.ref (He.ga K "is_listed")) := T.g 1
theorem Txt.g_deep (T : Txt K mg) : mg "deep" = some (.ref (He.ga K "deep")) := T.g 2
theorem Txt.g_is_asks (T : Txt K mg) : mg "is_asks" = some (.ref (He.ga K "is_asks")) := T.g 3
theorem Txt.g_check_asks (T : Txt K mg) : mg "check_asks" = some (.ref (He.ga K "check_asks")) := T.g 4
theorem Txt.g_integers (T : Txt K mg) : mg "integers" = some (.ref (He.ga K "integers")) := T.g 5
theorem Txt.g_is_table (T : Txt K mg) : mg "is_table" = some (.ref (He.ga K "is_table")) := T.g 6
theorem Txt.g_are_costs (T : Txt K mg) : mg "are_costs" = some (.ref (He.ga K "are_costs")) := T.g 7
theorem Txt.g_is_price (T : Txt K mg) : mg "is_price" = some (.ref (He.ga K "is_price")) := T.g 8
theorem Txt.g_words_of (T : Txt K mg) : mg "words_of" = some (.ref (He.ga K "words_of")) := T.g 9
theorem Txt.g_heads_read (T : Txt K mg) : mg "heads_read" = some (.ref (He.ga K "heads_read")) := T.g 10
theorem Txt.g_prices_read (T : Txt K mg) : mg "prices_read" = some (.ref (He.ga K "prices_read")) := T.g 11
theorem Txt.g_asks_read (T : Txt K mg) : mg "asks_read" = some (.ref (He.ga K "asks_read")) := T.g 12
theorem Txt.g_read_store (T : Txt K mg) : mg "read_store" = some (.ref (He.ga K "read_store")) := T.g 13
theorem Txt.g_l_cell (T : Txt K mg) : mg "_law_cell" = some (.ref (He.ga K "_law_cell")) := T.g 14
theorem Txt.g_l_source (T : Txt K mg) : mg "_law_source" = some (.ref (He.ga K "_law_source")) := T.g 15
theorem Txt.g_l_draw (T : Txt K mg) : mg "_law_draw" = some (.ref (He.ga K "_law_draw")) := T.g 16
theorem Txt.g_l_is_int (T : Txt K mg) : mg "_law_is_int" = some (.ref (He.ga K "_law_is_int")) := T.g 17
theorem Txt.g_l_exact (T : Txt K mg) : mg "_law_exact" = some (.ref (He.ga K "_law_exact")) := T.g 18
theorem Txt.g_l_deep (T : Txt K mg) : mg "_law_deep" = some (.ref (He.ga K "_law_deep")) := T.g 19
theorem Txt.g_l_asks (T : Txt K mg) : mg "_law_asks" = some (.ref (He.ga K "_law_asks")) := T.g 20
theorem Txt.g_l_prices (T : Txt K mg) : mg "_law_prices" = some (.ref (He.ga K "_law_prices")) := T.g 21
theorem Txt.g_l_any_table (T : Txt K mg) : mg "_law_any_table" = some (.ref (He.ga K "_law_any_table")) := T.g 22
theorem Txt.g_l_change (T : Txt K mg) : mg "_law_change" = some (.ref (He.ga K "_law_change")) := T.g 23
theorem Txt.g_l_changes (T : Txt K mg) : mg "_law_changes" = some (.ref (He.ga K "_law_changes")) := T.g 24
theorem Txt.g_l_served (T : Txt K mg) : mg "_law_served" = some (.ref (He.ga K "_law_served")) := T.g 25
theorem Txt.g_l_world (T : Txt K mg) : mg "_law_world" = some (.ref (He.ga K "_law_world")) := T.g 26
theorem Txt.g_l_raised (T : Txt K mg) : mg "_law_raised" = some (.ref (He.ga K "_law_raised")) := T.g 27
theorem Txt.g_l_moved (T : Txt K mg) : mg "_law_moved" = some (.ref (He.ga K "_law_moved")) := T.g 28
theorem Txt.g_l_store_is (T : Txt K mg) : mg "_law_store_is" = some (.ref (He.ga K "_law_store_is")) := T.g 29
theorem Txt.g_l_lines (T : Txt K mg) : mg "_law_lines" = some (.ref (He.ga K "_law_lines")) := T.g 30
theorem Txt.g_l_good_asks (T : Txt K mg) : mg "_law_good_asks" = some (.ref (He.ga K "_law_good_asks")) := T.g 31
theorem Txt.g_l_good_price (T : Txt K mg) : mg "_law_good_price" = some (.ref (He.ga K "_law_good_price")) := T.g 32
theorem Txt.g_l_line_of (T : Txt K mg) : mg "_law_line_of" = some (.ref (He.ga K "_law_line_of")) := T.g 33
theorem Txt.g_l_judged (T : Txt K mg) : mg "_law_judged" = some (.ref (He.ga K "_law_judged")) := T.g 34
theorem Txt.g_l_word (T : Txt K mg) : mg "_law_word" = some (.ref (He.ga K "_law_word")) := T.g 35
theorem Txt.g_l_spoilt_line (T : Txt K mg) : mg "_law_spoilt_line" = some (.ref (He.ga K "_law_spoilt_line")) := T.g 36
theorem Txt.g_l_spoilt (T : Txt K mg) : mg "_law_spoilt" = some (.ref (He.ga K "_law_spoilt")) := T.g 37
theorem Txt.g_l_read (T : Txt K mg) : mg "_law_read" = some (.ref (He.ga K "_law_read")) := T.g 38
theorem Txt.g_law (T : Txt K mg) : mg "law" = some (.ref (He.ga K "law")) := T.g 39
theorem Txt.g_Store (T : Txt K mg) : mg "Store" = some (.ref (He.ga K "Store")) := T.g 40
theorem Txt.g_BadAsks (T : Txt K mg) : mg "BadAsks" = some (.ref (He.ga K "BadAsks")) := T.g 41
theorem Txt.g_BadLine (T : Txt K mg) : mg "BadLine" = some (.ref (He.ga K "BadLine")) := T.g 42
theorem Txt.g_AfterError (T : Txt K mg) : mg "AfterError" = some (.ref (He.ga K "AfterError")) := T.g 43
theorem Txt.g_WrongThing (T : Txt K mg) : mg "WrongThing" = some (.ref (He.ga K "WrongThing")) := T.g 44
theorem Txt.f_isinstance (T : Txt K mg) : mg "isinstance" = none := T.fr 45
theorem Txt.f_int (T : Txt K mg) : mg "int" = none := T.fr 46
theorem Txt.f_bool (T : Txt K mg) : mg "bool" = none := T.fr 47
theorem Txt.f_tuple (T : Txt K mg) : mg "tuple" = none := T.fr 48
theorem Txt.f_list (T : Txt K mg) : mg "list" = none := T.fr 49
theorem Txt.f_str (T : Txt K mg) : mg "str" = none := T.fr 50
theorem Txt.f_len (T : Txt K mg) : mg "len" = none := T.fr 51
theorem Txt.f_range (T : Txt K mg) : mg "range" = none := T.fr 52
theorem Txt.f_enumerate (T : Txt K mg) : mg "enumerate" = none := T.fr 53
theorem Txt.f_zip (T : Txt K mg) : mg "zip" = none := T.fr 54
theorem Txt.f_max (T : Txt K mg) : mg "max" = none := T.fr 55
theorem Txt.f_abs (T : Txt K mg) : mg "abs" = none := T.fr 56
theorem Txt.f_sum (T : Txt K mg) : mg "sum" = none := T.fr 57
theorem Txt.f_ValueError (T : Txt K mg) : mg "ValueError" = none := T.fr 58
theorem Txt.c_MOST_STATES (T : Txt K mg) : ∃ t, mg "MOST_STATES" = some (.int 1000 t) := T.ci 59
theorem Txt.c_LETTERS (T : Txt K mg) : ∃ t, mg "LETTERS" = some (.str "abcdefgh" t) := T.cs 60
theorem Txt.c_FIGURES (T : Txt K mg) : ∃ t, mg "FIGURES" = some (.str "0123456789" t) := T.cs 61
theorem Txt.cls (T : Txt K mg) : Cls K (He.ga K "Store") := He.cls_ok (T.says.fact 62)
theorem Txt.mkr (T : Txt K mg) : Mk K (He.ga K "Store") (He.ma K (He.ga K "Store") "__init__") := He.mkr_ok (T.says.fact 63)
theorem Txt.no_asks (T : Txt K mg) : NoAttr K (He.ga K "Store") "asks" := He.noat_ok (T.says.fact 64)
theorem Txt.no_begins (T : Txt K mg) : NoAttr K (He.ga K "Store") "begins" := He.noat_ok (T.says.fact 65)
theorem Txt.no_costs (T : Txt K mg) : NoAttr K (He.ga K "Store") "costs" := He.noat_ok (T.says.fact 66)
theorem Txt.no_ends (T : Txt K mg) : NoAttr K (He.ga K "Store") "ends" := He.noat_ok (T.says.fact 67)
theorem Txt.fn_WrongThing_init (T : Txt K mg) : ∃ fd, FunD K "__init__" "WrongThing.__init__" (defArgs s_WrongThing_init) (defBody s_WrongThing_init) (defScope s_WrongThing_init) [] [] (He.ma K (He.ga K "WrongThing") "__init__") fd := T.says.def_ 0 (d := d_WrongThing_init) rfl
theorem Txt.fn_BadLine_init (T : Txt K mg) : ∃ fd, FunD K "__init__" "BadLine.__init__" (defArgs s_BadLine_init) (defBody s_BadLine_init) (defScope s_BadLine_init) [] [] (He.ma K (He.ga K "BadLine") "__init__") fd := T.says.def_ 1 (d := d_BadLine_init) rfl
theorem Txt.fn_is_integer (T : Txt K mg) : ∃ fd, FunD K "is_integer" "is_integer" (defArgs s_is_integer) (defBody s_is_integer) (defScope s_is_integer) [] [] (He.ga K "is_integer") fd := T.says.def_ 2 (d := d_is_integer) rfl
theorem Txt.fn_is_listed (T : Txt K mg) : ∃ fd, FunD K "is_listed" "is_listed" (defArgs s_is_listed) (defBody s_is_listed) (defScope s_is_listed) [] [] (He.ga K "is_listed") fd := T.says.def_ 3 (d := d_is_listed) rfl
theorem Txt.fn_deep (T : Txt K mg) : ∃ fd, FunD K "deep" "deep" (defArgs s_deep) (defBody s_deep) (defScope s_deep) [] [] (He.ga K "deep") fd := T.says.def_ 4 (d := d_deep) rfl
theorem Txt.fn_is_asks (T : Txt K mg) : ∃ fd, FunD K "is_asks" "is_asks" (defArgs s_is_asks) (defBody s_is_asks) (defScope s_is_asks) [] [] (He.ga K "is_asks") fd := T.says.def_ 5 (d := d_is_asks) rfl
theorem Txt.fn_check_asks (T : Txt K mg) : ∃ fd, FunD K "check_asks" "check_asks" (defArgs s_check_asks) (defBody s_check_asks) (defScope s_check_asks) [] [] (He.ga K "check_asks") fd := T.says.def_ 6 (d := d_check_asks) rfl
theorem Txt.fn_integers (T : Txt K mg) : ∃ fd, FunD K "integers" "integers" (defArgs s_integers) (defBody s_integers) (defScope s_integers) [] [] (He.ga K "integers") fd := T.says.def_ 7 (d := d_integers) rfl
theorem Txt.fn_is_table (T : Txt K mg) : ∃ fd, FunD K "is_table" "is_table" (defArgs s_is_table) (defBody s_is_table) (defScope s_is_table) [] [] (He.ga K "is_table") fd := T.says.def_ 8 (d := d_is_table) rfl
theorem Txt.fn_are_costs (T : Txt K mg) : ∃ fd, FunD K "are_costs" "are_costs" (defArgs s_are_costs) (defBody s_are_costs) (defScope s_are_costs) [] [] (He.ga K "are_costs") fd := T.says.def_ 9 (d := d_are_costs) rfl
theorem Txt.fn_Store_init (T : Txt K mg) : ∃ fd, FunD K "__init__" "Store.__init__" (defArgs s_Store_init) (defBody s_Store_init) (defScope s_Store_init) [] [] (He.ma K (He.ga K "Store") "__init__") fd := T.says.def_ 10 (d := d_Store_init) rfl
theorem Txt.fn_is_price (T : Txt K mg) : ∃ fd, FunD K "is_price" "is_price" (defArgs s_is_price) (defBody s_is_price) (defScope s_is_price) [] [] (He.ga K "is_price") fd := T.says.def_ 11 (d := d_is_price) rfl
theorem Txt.fn_words_of (T : Txt K mg) : ∃ fd, FunD K "words_of" "words_of" (defArgs s_words_of) (defBody s_words_of) (defScope s_words_of) [] [] (He.ga K "words_of") fd := T.says.def_ 12 (d := d_words_of) rfl
theorem Txt.fn_heads_read (T : Txt K mg) : ∃ fd, FunD K "heads_read" "heads_read" (defArgs s_heads_read) (defBody s_heads_read) (defScope s_heads_read) [] [] (He.ga K "heads_read") fd := T.says.def_ 13 (d := d_heads_read) rfl
theorem Txt.fn_prices_read (T : Txt K mg) : ∃ fd, FunD K "prices_read" "prices_read" (defArgs s_prices_read) (defBody s_prices_read) (defScope s_prices_read) [] [] (He.ga K "prices_read") fd := T.says.def_ 14 (d := d_prices_read) rfl
theorem Txt.fn_asks_read (T : Txt K mg) : ∃ fd, FunD K "asks_read" "asks_read" (defArgs s_asks_read) (defBody s_asks_read) (defScope s_asks_read) [] [] (He.ga K "asks_read") fd := T.says.def_ 15 (d := d_asks_read) rfl
theorem Txt.fn_read_store (T : Txt K mg) : ∃ fd, FunD K "read_store" "read_store" (defArgs s_read_store) (defBody s_read_store) (defScope s_read_store) [] [] (He.ga K "read_store") fd := T.says.def_ 16 (d := d_read_store) rfl
theorem Txt.fn_l_cell (T : Txt K mg) : ∃ fd, FunD K "_law_cell" "_law_cell" (defArgs s_l_cell) (defBody s_l_cell) (defScope s_l_cell) [] [] (He.ga K "_law_cell") fd := T.says.def_ 17 (d := d_l_cell) rfl
theorem Txt.fn_l_source (T : Txt K mg) : ∃ fd, FunD K "_law_source" "_law_source" (defArgs s_l_source) (defBody s_l_source) (defScope s_l_source) [] [] (He.ga K "_law_source") fd := T.says.def_ 18 (d := d_l_source) rfl
theorem Txt.fn_l_draw (T : Txt K mg) : ∃ fd, FunD K "_law_draw" "_law_draw" (defArgs s_l_draw) (defBody s_l_draw) (defScope s_l_draw) [] [] (He.ga K "_law_draw") fd := T.says.def_ 19 (d := d_l_draw) rfl
theorem Txt.fn_l_is_int (T : Txt K mg) : ∃ fd, FunD K "_law_is_int" "_law_is_int" (defArgs s_l_is_int) (defBody s_l_is_int) (defScope s_l_is_int) [] [] (He.ga K "_law_is_int") fd := T.says.def_ 20 (d := d_l_is_int) rfl
theorem Txt.fn_l_exact (T : Txt K mg) : ∃ fd, FunD K "_law_exact" "_law_exact" (defArgs s_l_exact) (defBody s_l_exact) (defScope s_l_exact) [] [] (He.ga K "_law_exact") fd := T.says.def_ 21 (d := d_l_exact) rfl
theorem Txt.fn_l_deep (T : Txt K mg) : ∃ fd, FunD K "_law_deep" "_law_deep" (defArgs s_l_deep) (defBody s_l_deep) (defScope s_l_deep) [] [] (He.ga K "_law_deep") fd := T.says.def_ 22 (d := d_l_deep) rfl
theorem Txt.fn_l_asks (T : Txt K mg) : ∃ fd, FunD K "_law_asks" "_law_asks" (defArgs s_l_asks) (defBody s_l_asks) (defScope s_l_asks) [] [] (He.ga K "_law_asks") fd := T.says.def_ 23 (d := d_l_asks) rfl
theorem Txt.fn_l_prices (T : Txt K mg) : ∃ fd, FunD K "_law_prices" "_law_prices" (defArgs s_l_prices) (defBody s_l_prices) (defScope s_l_prices) [] [] (He.ga K "_law_prices") fd := T.says.def_ 24 (d := d_l_prices) rfl
theorem Txt.fn_l_any_table (T : Txt K mg) : ∃ fd, FunD K "_law_any_table" "_law_any_table" (defArgs s_l_any_table) (defBody s_l_any_table) (defScope s_l_any_table) [] [] (He.ga K "_law_any_table") fd := T.says.def_ 25 (d := d_l_any_table) rfl
theorem Txt.fn_l_change (T : Txt K mg) : ∃ fd, FunD K "_law_change" "_law_change" (defArgs s_l_change) (defBody s_l_change) (defScope s_l_change) [] [] (He.ga K "_law_change") fd := T.says.def_ 26 (d := d_l_change) rfl
theorem Txt.fn_l_changes (T : Txt K mg) : ∃ fd, FunD K "_law_changes" "_law_changes" (defArgs s_l_changes) (defBody s_l_changes) (defScope s_l_changes) [] [] (He.ga K "_law_changes") fd := T.says.def_ 27 (d := d_l_changes) rfl
theorem Txt.fn_l_served (T : Txt K mg) : ∃ fd, FunD K "_law_served" "_law_served" (defArgs s_l_served) (defBody s_l_served) (defScope s_l_served) [] [] (He.ga K "_law_served") fd := T.says.def_ 28 (d := d_l_served) rfl
theorem Txt.fn_l_world (T : Txt K mg) : ∃ fd, FunD K "_law_world" "_law_world" (defArgs s_l_world) (defBody s_l_world) (defScope s_l_world) [] [] (He.ga K "_law_world") fd := T.says.def_ 29 (d := d_l_world) rfl
theorem Txt.fn_l_raised (T : Txt K mg) : ∃ fd, FunD K "_law_raised" "_law_raised" (defArgs s_l_raised) (defBody s_l_raised) (defScope s_l_raised) [] [] (He.ga K "_law_raised") fd := T.says.def_ 30 (d := d_l_raised) rfl
theorem Txt.fn_l_moved (T : Txt K mg) : ∃ fd, FunD K "_law_moved" "_law_moved" (defArgs s_l_moved) (defBody s_l_moved) (defScope s_l_moved) [] [] (He.ga K "_law_moved") fd := T.says.def_ 31 (d := d_l_moved) rfl
theorem Txt.fn_l_store_is (T : Txt K mg) : ∃ fd, FunD K "_law_store_is" "_law_store_is" (defArgs s_l_store_is) (defBody s_l_store_is) (defScope s_l_store_is) [] [] (He.ga K "_law_store_is") fd := T.says.def_ 32 (d := d_l_store_is) rfl
theorem Txt.fn_l_lines (T : Txt K mg) : ∃ fd, FunD K "_law_lines" "_law_lines" (defArgs s_l_lines) (defBody s_l_lines) (defScope s_l_lines) [] [] (He.ga K "_law_lines") fd := T.says.def_ 33 (d := d_l_lines) rfl
theorem Txt.fn_l_good_asks (T : Txt K mg) : ∃ fd, FunD K "_law_good_asks" "_law_good_asks" (defArgs s_l_good_asks) (defBody s_l_good_asks) (defScope s_l_good_asks) [] [] (He.ga K "_law_good_asks") fd := T.says.def_ 34 (d := d_l_good_asks) rfl
theorem Txt.fn_l_good_price (T : Txt K mg) : ∃ fd, FunD K "_law_good_price" "_law_good_price" (defArgs s_l_good_price) (defBody s_l_good_price) (defScope s_l_good_price) [] [] (He.ga K "_law_good_price") fd := T.says.def_ 35 (d := d_l_good_price) rfl
theorem Txt.fn_l_line_of (T : Txt K mg) : ∃ fd, FunD K "_law_line_of" "_law_line_of" (defArgs s_l_line_of) (defBody s_l_line_of) (defScope s_l_line_of) [] [] (He.ga K "_law_line_of") fd := T.says.def_ 36 (d := d_l_line_of) rfl
theorem Txt.fn_l_judged (T : Txt K mg) : ∃ fd, FunD K "_law_judged" "_law_judged" (defArgs s_l_judged) (defBody s_l_judged) (defScope s_l_judged) [] [] (He.ga K "_law_judged") fd := T.says.def_ 37 (d := d_l_judged) rfl
theorem Txt.fn_l_word (T : Txt K mg) : ∃ fd, FunD K "_law_word" "_law_word" (defArgs s_l_word) (defBody s_l_word) (defScope s_l_word) [] [] (He.ga K "_law_word") fd := T.says.def_ 38 (d := d_l_word) rfl
theorem Txt.fn_l_spoilt_line (T : Txt K mg) : ∃ fd, FunD K "_law_spoilt_line" "_law_spoilt_line" (defArgs s_l_spoilt_line) (defBody s_l_spoilt_line) (defScope s_l_spoilt_line) [] [] (He.ga K "_law_spoilt_line") fd := T.says.def_ 39 (d := d_l_spoilt_line) rfl
theorem Txt.fn_l_spoilt (T : Txt K mg) : ∃ fd, FunD K "_law_spoilt" "_law_spoilt" (defArgs s_l_spoilt) (defBody s_l_spoilt) (defScope s_l_spoilt) [] [] (He.ga K "_law_spoilt") fd := T.says.def_ 40 (d := d_l_spoilt) rfl
theorem Txt.fn_l_read (T : Txt K mg) : ∃ fd, FunD K "_law_read" "_law_read" (defArgs s_l_read) (defBody s_l_read) (defScope s_l_read) [] [] (He.ga K "_law_read") fd := T.says.def_ 41 (d := d_l_read) rfl
theorem Txt.fn_law (T : Txt K mg) : ∃ fd, FunD K "law" "law" (defArgs s_law) (defBody s_law) (defScope s_law) [] [] (He.ga K "law") fd := T.says.def_ 42 (d := d_law) rfl
end
end Aw
set_option maxHeartbeats 4000000
/-! The head: the run of the top. -/
namespace Aw
open PySem PySem.Spec PyProof.Rows L2
/-! ### the hook -/
abbrev AlX : Type := He.AlD × Bool
def obsX (n : Nat) (g : Addr → Option Obj) : AlX := (He.obsDG n fa fn g, xB (He.frG g (He.asD g n)))
abbrev hk : PySem.W.Hook where
  α := AlX
  obs := fun s => obsX 5 s.heap.get?
  val := fun _ => (He.valD fn, true)
  says := fun _ h => ∃ K : PySem.W.Frag, K.In h ∧ He.SaysD fa fn K ∧ xB K = true
  of := fun _ _ e => ⟨_, He.frG_in, congrArg (fun z : AlX => z.1) e, congrArg (fun z : AlX => z.2) e⟩
  keeps := fun _ _ _ ⟨K, hK, c⟩ k => ⟨K, PySem.W.Frag.In.keeps hK k, c⟩
abbrev R : PySem.W.OpenRow := PySem.W.OpenLaw.row PySem.Challenge.rw_afterwise_k03_whole_bad_lines
def ob (s : PySem.W.SharedT) : AlX := obsX 5 (HandSHeadRun.getT s)
theorem ob_eq (s : PySem.W.SharedT) : ob s = hk.obs s.abs := by
  have e : HandSHeadRun.getT s = s.abs.heap.get? := funext (HandSHeadRun.getT_eq s)
  unfold ob
  rw [e] <;> rfl
theorem run (w : World) : HandSHeadRun.RunEq R (PySem.W.view R.prog [63]) hk ob 4000 loose w := by
  intro os
  kernel_rfl
end Aw
set_option maxHeartbeats 4000000
/-! Rules for errors that the hand layer lacks: «raise C(..) from e» in an except suite, «except C as n» whose suite raises, isinstance of an error that has fields. -/
namespace Aw
open PySem PySem.Spec PyProof.Rows L2
/-! ### 1. raise .. from the error in hand -/
section
variable {prog : Program} {w : World} {A : Around} {E : Value → Shared → Prop}
/-- the heap behind «from x»: field 3 is x, field 4 is True -/
def causeOf (h : Heap) (a x : Addr) : Heap := (h.update a (Obj.mapFields (·.setIfInBounds 3 (.ref x)))).update a (Obj.mapFields (·.setIfInBounds 4 (.bool true)))
theorem causeOf_at {h : Heap} {a x : Addr} {ob : Obj} {fs : Array Value} (ga : h.get? a = some ob) (df : ob.data = .fields fs) :
    (causeOf h a x).get? a = some ((ob.mapFields (·.setIfInBounds 3 (.ref x))).mapFields (·.setIfInBounds 4 (.bool true))) ∧
      ((ob.mapFields (·.setIfInBounds 3 (.ref x))).mapFields (·.setIfInBounds 4 (.bool true))).data = .fields ((fs.setIfInBounds 3 (.ref x)).setIfInBounds 4 (.bool true)) := by
  have d3 := Obj.data_mapFields df (·.setIfInBounds 3 (.ref x))
  have g3 := Heap.get?_update_self (Obj.mapFields (·.setIfInBounds 3 (.ref x))) ga (Obj.isFreed_of_fields d3)
  have d4 := Obj.data_mapFields d3 (·.setIfInBounds 4 (.bool true))
  exact ⟨Heap.get?_update_self (Obj.mapFields (·.setIfInBounds 4 (.bool true))) g3 (Obj.isFreed_of_fields d4), d4⟩
theorem causeOf_ne {h : Heap} {a b x : Addr} (hab : a ≠ b) : (causeOf h a x).get? b = h.get? b := by
  unfold causeOf
  rw [Heap.get?_update_other _ _ hab, Heap.get?_update_other _ _ hab]
theorem no_type {h : Heap} {a : Addr} {ob : Obj} {fs : Array Value} {s : Shared} (hs : s.heap = h) (ga : h.get? a = some ob) (df : ob.data = .fields fs) {Q : Bool → Shared → Prop} (q : Q false s) :
    wpAny (model prog w) A (isType (.ref a)) Q E s := by
  subst hs
  simp only [isType, loadHead]
  refine wpAny_bind (wpAny_loadPart ga ?_)
  rw [df]
  exact wpAny_pure q
theorem from_value {s : Shared} {a : Addr} {ob : Obj} {fs : Array Value} {msg : String} {Q : Value → Shared → Prop} (ga : s.heap.get? a = some ob) (df : ob.data = .fields fs)
    (L : PySem.W.Looks (model prog w) s.heap (isInstance (.ref a) (.type "BaseException")) true) (q : Q (.ref a) s) : wpAny (model prog w) A (excFromValue (.ref a) msg) Q E s := by
  unfold excFromValue isExcClass
  refine wpAny_bind (wpAny_bind (no_type rfl ga df ?_))
  simp only [Bool.false_eq_true, if_false]
  refine wpAny_pure ?_
  simp only [Bool.false_eq_true, if_false]
  refine wpAny_bind (L.here ?_)
  simp only [if_true]
  exact wpAny_pure q
theorem raise_from {env : Env} {s : Shared} {x c : Sem Value} {Q : Flow → Shared → Prop} {x1 : Addr} {o1 : Obj} {f1 : Array Value}
    (h : wpAny (model prog w) A x (fun v s1 => ∃ a ob fs cls, v = .ref a ∧ s1.heap.get? a = some ob ∧ ob.cls = cls ∧ ob.data = .fields fs ∧ fs[1]? = some .none ∧ 4 < fs.size ∧ x1 ≠ a ∧ HotX.HotAt A x1 s1.heap ∧
      PySem.W.Looks (model prog w) s1.heap (isSubtype cls (.type "BaseException")) true ∧ PySem.W.Looks (model prog w) (causeOf s1.heap a x1) (typeOf cls) (.type "type") ∧
      s1.heap.get? x1 = some o1 ∧ o1.data = .fields f1 ∧ PySem.W.Looks (model prog w) s1.heap (isSubtype o1.cls (.type "BaseException")) true ∧
      (∀ Q' : Value → Shared → Prop, Q' (.ref x1) s1 → wpAny (model prog w) A c Q' E s1) ∧
      E (.ref a) { s1 with heap := (causeOf s1.heap a x1).update a (Obj.mapFields (·.setIfInBounds 2 (.ref x1))) }) E s) :
    wpAny (model prog w) A (raiseStmt env (some x) (some c)) Q E s := by
  unfold raiseStmt
  dsimp only
  refine wpAny_bind (wpAny_mono h (fun v s1 h1 => ?_) fun _ _ z => z)
  obtain ⟨a, ob, fs, cls, rfl, ga, ec, df, n1, sz, ne, hot, S1, S2, gx, dx, S3, hc, hE⟩ := h1
  have TA : PySem.W.Looks (model prog w) s1.heap (typeOf (.ref a)) cls := fun A Q E s k q => wpAny_typeOf_ref (k _ _ ga) (by rw [ec]; exact q)
  have TX : PySem.W.Looks (model prog w) s1.heap (typeOf (.ref x1)) o1.cls := fun A Q E s k q => wpAny_typeOf_ref (k _ _ gx) q
  have IA : PySem.W.Looks (model prog w) s1.heap (isInstance (.ref a) (.type "BaseException")) true := TA.andThen S1
  have IX : PySem.W.Looks (model prog w) s1.heap (isInstance (.ref x1) (.type "BaseException")) true := TX.andThen S3
  have d3 := Obj.data_mapFields df (·.setIfInBounds 3 (.ref x1))
  have g3 := Heap.get?_update_self (Obj.mapFields (·.setIfInBounds 3 (.ref x1))) ga (Obj.isFreed_of_fields d3)
  obtain ⟨g4, d4⟩ := causeOf_at (x := x1) ga df
  have z3 : 3 < fs.size := by omega
  have z4 : 4 < (fs.setIfInBounds 3 (Value.ref x1)).size := by rw [HotX.set_size]; exact sz
  have z2 : 2 < ((fs.setIfInBounds 3 (Value.ref x1)).setIfInBounds 4 (Value.bool true)).size := by rw [HotX.set_size, HotX.set_size]; omega
  have n4 : ((fs.setIfInBounds 3 (Value.ref x1)).setIfInBounds 4 (Value.bool true))[1]? = some Value.none := HotX.set_other (by decide) (HotX.set_other (by decide) n1)
  have c4 : ((ob.mapFields (·.setIfInBounds 3 (.ref x1))).mapFields (·.setIfInBounds 4 (.bool true))).cls = cls := by rw [Obj.cls_mapFields, Obj.cls_mapFields]; exact ec
  have T4 : PySem.W.Looks (model prog w) (causeOf s1.heap a x1) (typeOf (.ref a)) cls := fun A Q E s k q => wpAny_typeOf_ref (k _ _ g4) (by rw [c4]; exact q)
  have hot4 : HotX.HotAt A x1 (causeOf s1.heap a x1) := by
    obtain ⟨q1, o, vs', q2, q3, q4⟩ := hot
    exact ⟨q1, o, vs', (causeOf_ne (Ne.symm ne)).trans q2, q3, q4⟩
  have rest : wpAny (model prog w) A (do
      let b ← isType (.ref a)
      if b = true then do
        let e ← holding [.ref a] (raisedFor (.ref a) (.ref a))
        setFlight e none
        raiseNew e
      else do
        let e ← raisedInstance (.ref a)
        setFlight e none
        raiseNew e : Sem Flow) Q E { s1 with heap := causeOf s1.heap a x1 } := by
    refine wpAny_bind (no_type rfl g4 d4 ?_)
    simp only [Bool.false_eq_true, if_false]
    unfold raisedInstance
    refine wpAny_bind (wpAny_bind (T4.here (wpAny_bind (S2.here ?_))))
    rw [if_pos (beq_self_eq_true _)]
    refine wpAny_pure ?_
    unfold setFlight
    refine wpAny_bind (wpAny_bind (wpAny_field g4 d4 n4 ?_))
    rw [if_neg (by decide)]
    refine wpAny_pure ?_
    exact HotX.raiseNew_hot hot4 ne g4 d4 z2 hE
  refine wpAny_bind (wpAny_holding (hc _ (wpAny_bind (wpAny_pure ?_))))
  dsimp only
  refine wpAny_bind (wpAny_holding (from_value ga df IA ?_))
  rw [if_neg (show ¬ ((Value.ref x1 == Value.none) = true) from by simp)]
  refine wpAny_bind (wpAny_holding (from_value gx dx IX ?_))
  refine wpAny_bind (wpAny_setField ga df z3 (wpAny_bind (wpAny_setField g3 d3 z4 ?_)))
  exact rest
end
/-- raise C(..) from n, in an except suite; n is the error that the suite holds -/
theorem ps_raise_from {X : Cx} {W : WX} {e : Expr} {t : L2.St → Hp → XK → Prop} {n : Str} {i : Nat} {C1 : Addr} {p : Addr × Obj} {cpos pos : Pos} (hot : L2H.Hot1 X.A p) (hp : p ∈ X.pn) (ec : p.2.cls = .ref C1) (sb : PySem.W.subIn X.K (.ref C1) (.type "BaseException") = some true)
    (hN : X.N[i]? = some n) (hk : X.env.kindOf n = some .local) (tk : L2.Takes X W) (he : L2H.PMk5 X e t) (hdb : (n == ("__debug__" : Str)) = false := by decide) :
    PS X (.Raise (some e) (some (.Name n cpos)) pos) (fun _ σ H => t σ H fun cls d H' => σ[i]? = some (some (.ref p.1)) ∧ W cls d σ H') := by
  refine ⟨fun pins s σ H D I h => ?_⟩
  obtain ⟨hh, v1, e1, c1⟩ := hot
  show wpAny _ _ (do standAt pos; raiseStmt X.env (some (do let v ← eval e X.env; standAt pos; pure v)) (some (do let v ← eval (.Name n cpos) X.env; standAt pos; pure v))) _ _ _
  refine wpAny_bind (wpAny_standAt (raise_from (x1 := p.1) (o1 := p.2) (f1 := v1) (wpAny_bind (wpAny_mono (he pins s σ H _ I h) (fun u s1 hu => wpAny_bind (wpAny_standAt (wpAny_pure ?_))) fun _ _ z => z))))
  obtain ⟨⟨a, ob, vs, sI, H', cls, d, rfl, J, k, hne, ga, hz, hd, h1, na, os, ag, r, hsl, q⟩, h5⟩ := hu
  have hi : 4 < vs.size := h5 a ob vs rfl ga hd
  have k4 : ∀ b u, sI.heap.get? b = some u → (causeOf s1.heap a p.1).get? b = some u := fun b u z => by
    have nab : a ≠ b := fun y => by
      rw [← y, hne] at z
      cases z
    rw [causeOf_ne nab]
    exact k b u z
  obtain ⟨r1, _⟩ := r (model X.prog X.w) s1.heap (J.kIn.keeps k)
  obtain ⟨_, r2⟩ := r (model X.prog X.w) (causeOf s1.heap a p.1) (J.kIn.keeps k4)
  have P1 := (J.pin p (List.mem_append_left _ hp)).1
  have nap : p.1 ≠ a := fun z => by
    rw [z, hne] at P1
    cases P1
  obtain ⟨g4, d4⟩ := causeOf_at (x := p.1) ga hd
  have n12 : (((vs.setIfInBounds 3 (Value.ref p.1)).setIfInBounds 4 (Value.bool true)).setIfInBounds 2 (Value.ref p.1))[1]? = some Value.none := HotX.set_other (by decide) (HotX.set_other (by decide) (HotX.set_other (by decide) h1))
  refine ⟨a, ob, vs, cls, rfl, ga, hz.1, hd, h1, hi, nap, ⟨hh, p.2, v1, k _ _ P1, e1, c1⟩, r1, r2, k _ _ P1, e1, ?_, fun Q' q' => ?_, tk _ _ (XE.new J (fun b u z => ?_) hne (Heap.get?_update_self _ g4 (Obj.isFreed_of_fields (Obj.data_mapFields d4 _)))
    ⟨by rw [Obj.cls_mapFields, Obj.cls_mapFields, Obj.cls_mapFields]; exact hz.1, by rw [HandSPX.dict_mapFields, HandSPX.dict_mapFields, HandSPX.dict_mapFields]; exact hz.2.1⟩ (Obj.data_mapFields d4 _) n12 na os ag q)⟩
  · rw [ec]
    exact PySem.W.looks_subIn (J.kIn.keeps k) sb
  · obtain ⟨m, ⟨oL, es, ep, hoL, hr⟩, hl⟩ := J.loc
    obtain ⟨u, ru, lk⟩ := hl i n (.ref p.1) hN hsl (.inl hk)
    obtain rfl : u = Value.ref p.1 := ru
    rcases lk with ⟨_, hm⟩ | ⟨hk2, _⟩
    · exact wpAny_bind (wpAny_Name (wpAny_loadName_local J.ok.kind hk ⟨oL, es, ep, k _ _ hoL, hr⟩ hm (wpAny_bind (wpAny_standAt (wpAny_pure q')))) hdb)
    · rcases hk2 with z | z <;> (rw [hk] at z; cases z)
  · have nab : a ≠ b := fun y => by
      rw [← y, hne] at z
      cases z
    show ((causeOf s1.heap a p.1).update a (Obj.mapFields (·.setIfInBounds 2 (.ref p.1)))).get? b = some u
    rw [Heap.get?_update_other _ _ nab]
    exact k4 b u z
/-! ### 2. except C as n: a suite that raises -/
section
variable {X : Cx} {pins : List (Addr × Obj)} {σ : L2.St} {H : Hp} {s s' : Shared}
/-- the frame's object is another, the name n gone; all else as it was -/
theorem gone_inv {i : Nat} {n : Str} {m : Str → Option Value} {v : Option Value} {h' : Heap} {t' : Nat} (I : Inv X pins σ H s) (hN : X.N.Nodup) (hi : X.N[i]? = some n)
    (hlk : ∀ (j : Nat) (x : Str) (y : V), X.N[j]? = some x → σ[j]? = some (some y) → Vis X.env.scope x → ∃ u, RelV y u ∧ Look X.env s.heap m x u)
    (hn : h'.Ns X.env.locals (fun x => if x = n then v else m x)) (same : ∀ b, b ≠ X.env.locals → h'.get? b = s.heap.get? b) : Inv X pins (σ.set i none) H { s with heap := h', toks := t' } := by
  have nL : ∀ b o, X.s_0.heap.get? b = some o → b ≠ X.env.locals := fun b o e => Nat.ne_of_lt (Nat.lt_of_lt_of_le (Heap.lt_size e) I.ok.above)
  have cellK : ∀ (c : Addr) (y : Option Value), c ≠ X.env.locals → s.heap.IsCell c y → h'.IsCell c y := fun c y ne ⟨o, e, dd⟩ => ⟨o, (same c ne).trans e, dd⟩
  refine ⟨I.ok, I.os, I.bare, ⟨fun b o e f hb hx => (same b (nL b o e)).trans (I.base.keep b o e f hb hx), fun b o e f hb hx => ?_, I.base.free, fun b o e hx => ?_, I.base.tups, I.base.frzs, I.base.tbls⟩,
    ⟨_, hn, fun j y w e1 e2 e3 => ?_⟩, fun y c e => ?_, I.free, I.freeC, fun p hp => ?_, fun b ob e => ?_, by simpa using I.len⟩
  · obtain ⟨sl, e1⟩ := I.base.slot b o e f hb hx
    exact ⟨sl, (same b (nL b o e)).trans e1⟩
  · obtain ⟨o', e1⟩ := I.base.there b o e hx
    exact ⟨o', (same b (nL b o e)).trans e1⟩
  · by_cases hj : j = i
    · subst hj
      by_cases lt : j < σ.length
      · rw [List.getElem?_set_self lt] at e2
        cases e2
      · rw [List.getElem?_eq_none (by simpa using lt)] at e2
        cases e2
    · rw [List.getElem?_set_ne (Ne.symm hj)] at e2
      obtain ⟨u, ru, q⟩ := hlk j y w e1 e2 e3
      refine ⟨u, ru, ?_⟩
      rcases q with ⟨k, q⟩ | ⟨k, c, ec, z⟩
      · have ny : y ≠ n := fun z => hj (nodup_ix hN e1 (z ▸ hi))
        exact .inl ⟨k, (if_neg ny).trans q⟩
      · exact .inr ⟨k, c, ec, cellK c _ (I.cne y c ec) z⟩
  · obtain ⟨y', z⟩ := I.cell y c e
    exact ⟨y', cellK c _ (I.cne y c e) z⟩
  · obtain ⟨e, f, ne, nf, dd⟩ := I.pin p hp
    exact ⟨(same p.1 ne).trans e, f, ne, nf, dd⟩
  · refine (I.hok b ob e).stay (fun c u hc q => (same c ?_).trans q) (fun _ q => q) fun _ _ q => q
    rintro rfl
    rcases hc with hc | hc
    · rw [← hc, I.free] at e
      cases e
    · rw [I.free] at hc
      cases hc
theorem frames_put {h h' B : Heap} {L : Addr} (same : ∀ b, b ≠ L → h'.get? b = h.get? b) (put : ∃ o, h'.get? L = some o ∧ ∀ vs, o.data ≠ .fields vs) : ∀ {l : List Env}, h.FunFrames B l → h'.FunFrames B l
  | [], _ => trivial
  | env :: r, ⟨k, ⟨M, o, f, nb, e, dd⟩, hr⟩ => by
    refine ⟨k, ?_, frames_put same put hr⟩
    by_cases z : M = L
    · obtain ⟨o2, e2, d2⟩ := put
      exact ⟨M, o2, f, nb, by rw [z]; exact e2, d2⟩
    · exact ⟨M, o, f, nb, (same M z).trans e, dd⟩
/-- the error that the suite raised flies on; the name of the clause goes -/
theorem as_fly {W : WX} {i : Nat} {n : Str} {pos : Pos} {what : String} {hd : Option Value} {a : Addr} {B : Heap} {sI : Shared} {cls : Value} {d : Option Addr} {E1 E2 R : Value → Shared → Prop} (hs : X.stack = X.env :: X.outer) (hf : X.env.frame = some X.env.locals)
    (hN : X.N.Nodup) (hi : X.N[i]? = some n) (hln : X.env.kindOf n = some .local) (tk : L2.Takes X W) (I : Inv X pins σ H sI) (nb : ∀ b o, sI.heap.get? b = some o → b ∉ frs X.stack → B.get? b = some o) (up : sI.heap.UpToSlots s'.heap)
    (sky : Sky B X.stack a (Zc cls d) X.env.locals s'.heap) (na : H a = none) (os : s'.os = sI.os) (ag : AllBare s'.gens) (w : W cls d (σ.set i none) H) (hR : ∀ e s2, X.xe e s2 → R e s2) :
    wpAny (model X.prog X.w) (X.A.mark hd) (noteFrame (.ref a) X.env) (fun _ s3 => wpAny (model X.prog X.w) (X.A.mark hd) (do bindName X.env n .none; unbindBehindTheSuite X.env n pos)
      (fun _ s4 => wpAny (model X.prog X.w) (X.A.mark hd) (passOn what (.ref a) X.env : Sem Flow) (fun _ _ => False) R s4) E2 s3) E1 s' := by
  have hfr : (X.A.mark hd).frames = some (X.env :: X.outer) := by
    show X.A.frames = _
    rw [I.ok.frames, hs]
  have inL : X.env.locals ∈ frs X.stack := by
    rw [hs]
    exact List.mem_filterMap.mpr ⟨X.env, List.mem_cons_self, hf⟩
  have fin : ∀ h3, HandSPX.HeldZ B (X.env :: X.outer) a (Zc cls d) X.env.locals h3 → s'.heap.UpToSlots h3 → wpAny (model X.prog X.w) (X.A.mark hd) (do bindName X.env n .none; unbindBehindTheSuite X.env n pos)
      (fun _ s4 => wpAny (model X.prog X.w) (X.A.mark hd) (passOn what (.ref a) X.env : Sem Flow) (fun _ _ => False) R s4) E2 { s' with heap := h3 } := by
    intro h3 held up3
    obtain ⟨st3, na3, ff3, oe, vs, T, oT, ts, he, hz, hdt, h1, hnT, hTe, hT, hdT, h3f⟩ := held
    obtain ⟨G0, g1, g2⟩ := restrict h3 fun b => (B.get? b).isSome || decide (b ∈ frs X.stack)
    have gB : ∀ b o, B.get? b = some o → G0.get? b = some o := fun b o e => by
      rw [g1 b (by simp [e])]
      exact st3 b o e
    have gF : ∀ b, b ∈ frs X.stack → G0.get? b = h3.get? b := fun b hb => g1 b (by simp [hb])
    have upA := up.trans up3
    have nf : ∀ b ∈ frs X.stack, ∀ o, sI.heap.get? b = some o → ∃ sl, h3.get? b = some { o with slots := sl } := fun b hb o e => by
      obtain ⟨_, o', e', dd⟩ := I.stack.mem hb
      rw [e] at e'
      cases e'
      exact upA b o e dd
    have I0 : Inv X pins σ H { sI with heap := G0, gens := s'.gens, drawn := s'.drawn, toks := s'.toks } := by
      refine I.call (ch := []) ⟨fun b o e _ hb _ => gB b o (nb b o e hb), fun b o e _ hb _ => ?_, fun _ _ _ f _ => f, fun b o e _ => ?_, fun _ _ e => e, fun _ _ _ e => e, fun b ps e => ⟨#[], by rw [e]; simp⟩⟩ ((I.inGround nb).kept gB) ag (fun _ z => nomatch z)
      · obtain ⟨sl, q⟩ := nf b hb o e
        exact ⟨sl, (gF b hb).trans q⟩
      · by_cases hb : b ∈ frs X.stack
        · obtain ⟨sl, q⟩ := nf b hb o e
          exact ⟨_, (gF b hb).trans q⟩
        · exact ⟨o, gB b o (nb b o e hb)⟩
    obtain ⟨m, hn0, hlk⟩ := I0.loc
    have hn3 : h3.Ns X.env.locals m := by
      obtain ⟨o, es, ep, e, r⟩ := hn0
      exact ⟨o, es, ep, (gF _ inL).symm.trans e, r⟩
    have hcls : (X.env.scope.kind == .class || (X.env.scope.kind == .module && X.env.locals != X.env.globals)) = false := by rw [I.ok.kind]; rfl
    refine wpAny_nameGoes_keeps hln hn3 hcls fun h7 v hn7 hs7 => ?_
    obtain ⟨oL, esL, epL, eL, dL, rL⟩ := id hn3
    have nL : ∀ {b : Addr} {o : Obj} {fs : Array Value}, h3.get? b = some o → o.data = .fields fs → b ≠ X.env.locals := fun {b o fs} e dd z => by
      rw [z, eL] at e
      cases e
      rw [dL] at dd
      cases dd
    have put : ∃ o, h7.get? X.env.locals = some o ∧ ∀ vs, o.data ≠ .fields vs := by
      obtain ⟨o, _, _, e, dd, _⟩ := hn7
      exact ⟨o, e, fun vs z => by rw [dd] at z; cases z⟩
    have bL : B.get? X.env.locals = none := (ff3.mem (List.mem_filterMap.mpr ⟨X.env, List.mem_cons_self, hf⟩)).1
    have st7 : B.StaysIn h7 := fun b o e => by
      have ne : b ≠ X.env.locals := fun z => by
        rw [z, bL] at e
        cases e
      exact (hs7.2 b ne).trans (st3 b o e)
    have held7 : HandSPX.HeldZ B (X.env :: X.outer) a (Zc cls d) X.env.locals h7 :=
      ⟨st7, na3, frames_put hs7.2 put ff3, oe, vs, T, oT, ts, (hs7.2 a (nL he hdt)).trans he, hz, hdt, h1, hnT, hTe, (hs7.2 T (nL hT hdT)).trans hT, hdT, h3f⟩
    obtain ⟨G7, k1, k2⟩ := restrict h7 fun b => (B.get? b).isSome || decide (b ∈ frs X.stack)
    have pL : ((B.get? X.env.locals).isSome || decide (X.env.locals ∈ frs X.stack)) = true := by simp [inL]
    have I7 : Inv X pins (σ.set i none) H { sI with heap := G7, gens := s'.gens, drawn := s'.drawn, toks := s'.toks } := by
      refine gone_inv (h' := G7) (v := v) (t' := s'.toks) I0 hN hi hlk ?_ fun b ne => ?_
      · obtain ⟨o, es, ep, e, r⟩ := hn7
        exact ⟨o, es, ep, (k1 _ pL).trans e, r⟩
      · show G7.get? b = G0.get? b
        cases q : ((B.get? b).isSome || decide (b ∈ frs X.stack)) with
        | true => rw [k1 b q, g1 b q, hs7.2 b ne]
        | false => rw [k2 b q, g2 b q]
    have in7 : ∀ b o, G7.get? b = some o → h7.get? b = some o := fun b o e => by
      cases q : ((B.get? b).isSome || decide (b ∈ frs X.stack)) with
      | true => rw [← k1 b q]; exact e
      | false => rw [k2 b q] at e; cases e
    have nb7 : ∀ b o, G7.get? b = some o → b ∉ frs X.stack → B.get? b = some o := fun b o e hb => by
      cases q : ((B.get? b).isSome || decide (b ∈ frs X.stack)) with
      | false => rw [k2 b q] at e; cases e
      | true =>
        have q2 : (B.get? b).isSome = true := by simpa [hb] using q
        obtain ⟨o', e'⟩ := Option.isSome_iff_exists.mp q2
        have z := st7 b o' e'
        rw [in7 b o e] at z
        cases z
        exact e'
    unfold PySem.passOn
    refine wpAny_bind (wpAny_field ((hs7.2 a (nL he hdt)).trans he) hdt h1 ?_)
    rw [if_neg (show ¬ ((Value.ref T == Value.none) = true) from by simp)]
    have last : wpAny (model X.prog X.w) (X.A.mark hd) (setFlight (.ref a) X.env.frame) (fun _ s4 => wpAny (model X.prog X.w) (X.A.mark hd) (throw (.ref a) : Sem Flow) (fun _ _ => False) R s4) R { s' with heap := h7, toks := s'.toks + 1 } := by
      rw [hf]
      refine HandSPX.setFlight_onZ held7 fun h8 held8 up8 => wpAny_throw (hR _ _ (tk _ _ ?_))
      exact ⟨a, B, _, pins, σ.set i none, H, cls, d, rfl, I7, nb7, (Heap.UpToSlots.of_keeps in7).trans up8, .inr (.inr (by rw [hs]; exact held8)), na, os, ag, w⟩
    first
      | exact wpAny_bind (wpAny_pure (wpAny_bind last))
      | exact wpAny_bind last
  rw [hs] at sky
  rcases sky with ⟨hB, hn, hl, oe, vs, he, hz, hdt, h1⟩ | fl | hh
  · exact HandSPX.look_newZ Zc.steady hfr hl hf he hB hn hdt h1 hz fin
  · exact HandSPX.looks_onZ Zc.steady hfr hf fl fin
  · exact HandSPX.againZ hf hh.2.2.2 (fin s'.heap hh (Heap.UpToSlots.refl _))
end
/-- the context of such a suite: what it raises is wished for by xe -/
abbrev suiteR (X : Cx) (a : Addr) (pn : List (Addr × Obj)) (xe : Value → Shared → Prop) : Cx := { X with A := X.A.mark (some (.ref a)), calm := false, pn := pn, xe := xe }
/-- the wish of «except c as n» (slot i), an error of the class c0 in hand: ts reads the suite -/
def wAsR (K : PySem.W.Frag) (c c0 : Value) (i : Nat) (ts : Addr → Option Addr → TS) (Wout : WX) (D : Ends) : WX := fun cls d σ H => ∃ b, PySem.W.exmOne K cls c = some b ∧
  (b = true → cls = c0 ∧ ∀ a, H a = none → ts a d { nx := fun σ2 H2 => D.nx (σ2.set i none) H2, rt := D.rt, bk := fun σ2 H2 => D.bk (σ2.set i none) H2, ct := fun σ2 H2 => D.ct (σ2.set i none) H2 } (σ.set i (some (.ref a))) H) ∧ (b = false → Wout cls d σ H)
section
variable {X : Cx} {x n : Str} {c c0 : Value} {i : Nat} {body suite : List Stmt} {b0 : Stmt} {np pos pos2 : Pos} {tb : WX → TS} {ts : Addr → Option Addr → TS} {Wout : WX}
theorem ps_try_asR (hs : X.stack = X.env :: X.outer) (hf : X.env.frame = some X.env.locals) (hN : X.N.Nodup) (hi : X.N[i]? = some n) (hln : X.env.kindOf n = some .local) (hc : Names X x c) (hpa : ∀ hd : Option Value, PassesOwnAt (model X.prog X.w) (X.A.mark hd) X.A X.env X.xe) (tk : L2.Takes X Wout)
    (hb : ∀ (W : WX) (pn : List (Addr × Obj)) (xe : Value → Shared → Prop), L2N.Takes (X.tr pn xe) W → PassesOwn (model X.prog X.w) X.A X.env xe → PSs (X.tr pn xe) body (tb W))
    (hsu : ∀ (a : Addr) (oe : Obj) (d : Option Addr) (pn : List (Addr × Obj)) (xe : Value → Shared → Prop), L2N.Zn c0 d oe → L2H.Hot1 (X.A.mark (some (.ref a))) (a, oe) → L2.Takes (suiteR X a ((a, oe) :: pn) xe) (fun cls d σ H => Wout cls d (σ.set i none) H) →
      PSs (suiteR X a ((a, oe) :: pn) xe) (b0 :: suite) (ts a d)) :
    PS X (.Try body [.ExceptHandler (some (.Name x np)) (some n) (b0 :: suite) pos2] [] [] pos) (fun D σ H => tb (wAsR X.K c c0 i ts Wout D) D σ H) := by
  refine ⟨fun pins s σ H D I h => ?_⟩
  have ok := I.ok
  have hfr : X.A.frames = some (X.env :: X.outer) := by rw [ok.frames, hs]
  have hloc : Loc X.env.scope n := .inl hln
  refine wpAny_Try_except ?_
  refine wpAny_mono ((hb (wAsR X.K c c0 i ts Wout D) (X.pn ++ pins) (fun e s1 => wpAny (model X.prog X.w) X.A (noteFrame e X.env) (fun _ s2 => wpAny (model X.prog X.w) X.A (setFlight e none) (fun _ s3 =>
    wpAny (model X.prog X.w) X.A (handleBy e X.env [.ExceptHandler (some (.Name x np)) (some n) (b0 :: suite) pos2]) (SP X pins D) X.xe s3) X.xe s2) X.xe s1) (fun u s' xx => ?_) PassesOwn.looking).run [] s σ H D (I.toTry _) h) (fun f s1 hsp => ?_) (fun e s1 he => he)
  · obtain ⟨a, B, sI, pins', σ', H', cls, d, rfl, J', nb, up, sky, na, os, ag, b, hb1, hyes, hno⟩ := xx
    have J : Inv X pins σ' H' sI := J'.ofTry ok
    have sky2 : Sky B (X.env :: X.outer) a (L2N.Zn cls d) X.env.locals s'.heap := by rw [← hs]; exact sky
    show wpAny (model X.prog X.w) X.A (noteFrame (.ref a) X.env) _ _ _
    refine L2N.Sky.land L2N.Zn.steady hfr hf sky2 fun h3 fl3 up3 => ?_
    have J3 : Inv X pins σ' H' { s' with heap := h3 } := J.landed nb fl3.1 (up.trans up3) os ag
    obtain ⟨oe3, vs3, he3, hz3, hd3⟩ := fl3.there
    have nfr : a ∉ frs (X.env :: X.outer) := fun hm => by
      obtain ⟨_, o', e', hnf⟩ := fl3.2.2.1.mem hm
      rw [he3] at e'
      cases e'
      exact hnf _ hd3
    have nL : a ≠ X.env.locals := fun z => nfr (List.mem_filterMap.mpr ⟨X.env, List.mem_cons_self, by rw [hf, z]⟩)
    have nF : a ∉ X.fs := fun hm => by
      obtain ⟨e, he, q⟩ := List.mem_filterMap.mp hm
      exact nfr (List.mem_filterMap.mpr ⟨e, List.mem_cons_of_mem _ he, q⟩)
    have S3 := J3.suite he3 hd3 na nL nF
    refine wpAny_handleBy_cons (codeAny_handlers_test ?_) (by intro q; cases q)
    have LT : PySem.W.Looks (model X.prog X.w) h3 (typeOf (.ref a)) cls := fun A Q E s k q => wpAny_typeOf_ref (k _ _ he3) (by rw [hz3.1]; exact q)
    have LM := PySem.W.exm_one (M := model X.prog X.w) (J3.kIn) LT hb1
    have test : ∀ {Q : Value → Shared → Prop} {E : Value → Shared → Prop}, Q c { s' with heap := h3 } → wpAny (model X.prog X.w) (X.A.mark (some (.ref a))) (eval (.Name x np) X.env) Q E { s' with heap := h3 } := fun {Q E} q => by
      obtain ⟨hg, hdbg, hm | ⟨hm, hv, hnn⟩⟩ := hc
      · exact ld_glob (X := X.suite a ((a, oe3) :: (X.pn ++ pins))) S3 hg hm q hdbg
      · exact ld_blt (X := X.suite a ((a, oe3) :: (X.pn ++ pins))) S3 hg hm hv q hnn hdbg
    refine test (LM.here ?_)
    cases b with
    | true =>
      obtain ⟨ecls, hy2⟩ := hyes rfl
      subst ecls
      refine codeAny_handlers_suite_as ?_
      refine HandSPX.lands_againZ fl3 fun h4 fl4 up4 => ?_
      have J4 : Inv X pins σ' H' { s' with heap := h4 } := J.landed nb fl4.1 ((up.trans up3).trans up4) os ag
      obtain ⟨oe4, vs4, he4, hz4, hd4⟩ := fl4.there
      have S4 := J4.suite he4 hd4 na nL nF
      refine store_ok (X := X.suite a ((a, oe4) :: (X.pn ++ pins))) (v := .ref a) S4 hN hi hloc rfl (fun s5 S5 => ?_) (.inr hln)
      have hot : L2H.Hot1 (X.A.mark (some (.ref a))) (a, oe4) := ⟨rfl, vs4, hd4, hz4.2.2 vs4 hd4⟩
      have back : ∀ {xe : Value → Shared → Prop} {pn2 : List (Addr × Obj)} {σ2 : L2.St} {H2 : Hp} {s2 : Shared}, Inv (suiteR X a ((a, oe4) :: (X.pn ++ pins)) xe) pn2 σ2 H2 s2 → Inv X pins σ2 H2 s2 := fun {xe pn2 σ2 H2 s2} I2 =>
        ⟨ok, I2.os, I2.bare, I2.base, I2.loc, I2.cell, I2.free, I2.freeC, fun p hp => I2.pin p (List.mem_append_left _ (List.mem_cons_of_mem _ hp)), I2.hok, I2.len⟩
      have S5' : ∀ xe : Value → Shared → Prop, Inv (suiteR X a ((a, oe4) :: (X.pn ++ pins)) xe) [] (σ'.set i (some (.ref a))) H' s5 := fun xe =>
        ⟨⟨S5.ok.mod, S5.ok.kind, S5.ok.glob, S5.ok.blt, S5.ok.above, S5.ok.inj, S5.ok.has, S5.ok.cab, S5.ok.hd, S5.ok.frames, S5.ok.stk, S5.ok.exf, S5.ok.bs, S5.ok.bsz, S5.ok.noex, S5.ok.exfs, S5.ok.funs, S5.ok.frf⟩, S5.os, S5.bare, S5.base, S5.loc, S5.cell, S5.free, S5.freeC, S5.pin, S5.hok, S5.len⟩
      have end_ : ∀ {σ6 : L2.St} {H6 : Hp} {s6 : Shared} {E : Value → Shared → Prop} {Q : Shared → Prop}, Inv X pins σ6 H6 s6 → (∀ s7, Inv X pins (σ6.set i none) H6 s7 → Q s7) →
          wpAny (model X.prog X.w) X.A (do bindName X.env n .none; unbindBehindTheSuite X.env n pos2) (fun _ s7 => Q s7) E s6 := fun {σ6 H6 s6 E Q} S6 hq => gone_ok S6 hN hi hln hq
      refine wpAny_mono ((hsu a oe4 d (X.pn ++ pins) _ hz4 hot (fun u2 s2 x2 => ?_)).run [] s5 _ H' _ (S5' _) (hy2 a na)) (fun f s6 hsp => ?_) (fun _ _ z => z)
      · obtain ⟨a2, B2, sI2, pn2, σ2, H2, cls2, d2, e2, I2, nb2, up2, sky3, na2, os2, ag2, w2⟩ := x2
        subst e2
        exact as_fly hs hf hN hi hln tk (back I2) nb2 up2 sky3 na2 os2 ag2 w2 fun e s z => hpa (some (.ref a)) e s z
      · cases f with
        | next =>
          obtain ⟨σ6, H6, S6, q6⟩ := hsp
          exact end_ (back S6) fun s7 J7 => ⟨_, _, J7, q6⟩
        | brk =>
          obtain ⟨σ6, H6, S6, q6⟩ := hsp
          exact end_ (back S6) fun s7 J7 => ⟨_, _, J7, q6⟩
        | cont =>
          obtain ⟨σ6, H6, S6, q6⟩ := hsp
          exact end_ (back S6) fun s7 J7 => ⟨_, _, J7, q6⟩
        | ret u =>
          obtain ⟨v6, σ6, H6, S6, r6, q6⟩ := hsp
          exact end_ (back S6) fun s7 J7 => ⟨_, _, _, J7, r6, q6⟩
    | false =>
      show wpAny _ X.A (handleBy (.ref a) X.env []) _ _ _
      refine wpAny_handleBy_nil ?_
      obtain ⟨k1, k2, k3, oe, vs, T, oT, ts', he, hz, hd, h1, hr⟩ := id fl3
      unfold PySem.passOn
      refine wpAny_bind (wpAny_field he hd h1 ?_)
      rw [if_neg (show ¬ ((Value.ref T == Value.none) = true) from by simp)]
      have fin : wpAny (model X.prog X.w) X.A (setFlight (.ref a) X.env.frame) (fun _ s4 => wpAny (model X.prog X.w) X.A (throw (.ref a) : Sem Flow) (SP X pins D) X.xe s4) X.xe { s' with heap := h3 } := by
        rw [hf]
        refine HandSPX.setFlight_upZ (L2H.flyingZ_imp (fun o z => z.zc) fl3) fun h4 hh4 up4 => wpAny_throw (tk _ _ ?_)
        exact ⟨a, B, sI, pins, σ', H', cls, d, rfl, J, nb, (up.trans up3).trans up4, .inr (.inr (by rw [hs]; exact hh4)), na, os, ag, hno rfl⟩
      first
        | exact wpAny_bind (wpAny_pure (wpAny_bind fin))
        | exact wpAny_bind fin
  · cases f with
    | next =>
      obtain ⟨σ', H', J', q⟩ := hsp
      exact wpAny_execs_nil ⟨σ', H', J'.ofTry ok, q⟩
    | brk =>
      obtain ⟨σ', H', J', q⟩ := hsp
      exact ⟨σ', H', J'.ofTry ok, q⟩
    | cont =>
      obtain ⟨σ', H', J', q⟩ := hsp
      exact ⟨σ', H', J'.ofTry ok, q⟩
    | ret u =>
      obtain ⟨v, σ', H', J', r, q⟩ := hsp
      exact ⟨v, σ', H', J'.ofTry ok, r, q⟩
end
end Aw
set_option maxHeartbeats 4000000
/-! Defs that keep a promise, by their names; the two error classes raised; small rules. -/
namespace Aw
open PySem PySem.Spec PyProof.Rows L2
/-! ### a def by its name -/
structure DefOk (P : Program) (w : World) (K : PySem.W.Frag) (mg : Str → Option Value) (base : Heap) (CX : CXT) (k : Nat) (x : Str) (ps : List Str) (sp : Sp) : Prop where
  ok : ∃ fd, FnOk P w K mg base CX k (He.ga K x) fd ps sp ∧ Binds K fd ps []
  kp : PySem.W.keepIn K (.ref (He.ga K x)) = true
  gl : mg x = some (.ref (He.ga K x))
section
variable {P : Program} {w : World} {K : PySem.W.Frag} {mg : Str → Option Value} {base : Heap} {CX : CXT} {k j : Nat} {x : Str} {ps N : List Str} {sp : Sp}
theorem DefOk.mono (D : DefOk P w K mg base CX j x ps sp) (h : j ≤ k) : DefOk P w K mg base CX k x ps sp := by
  obtain ⟨fd, F, b⟩ := D.ok
  exact ⟨⟨fd, F.mono h, b⟩, D.kp, D.gl⟩
theorem DefOk.imp {sp' : Sp} (D : DefOk P w K mg base CX k x ps sp) (h : ∀ vs H Q E, sp' vs H Q E → sp vs H Q E) : DefOk P w K mg base CX k x ps sp' := by
  obtain ⟨fd, F, b⟩ := D.ok
  exact ⟨⟨fd, F.imp h, b⟩, D.kp, D.gl⟩
theorem def_mk {params : Arguments} {body : List Stmt} {scope : Scope} (F : ∃ fd, FunD K x x params body scope [] [] (He.ga K x) fd) (gl : mg x = some (.ref (He.ga K x))) (S : FnScope N ps scope)
    (hb : ∀ (kV doc pm : Value) (an : Option Addr) (cdv ct : Value) (us : List Value), us.length = ps.length → bindArgs (PySem.W.fnOf x x params body scope .none kV doc pm an cdv ct) ⟨us, []⟩ = pure (ps.zip us))
    (len : ∀ vs H Q E, sp vs H Q E → vs.length = ps.length)
    (hbody : ∀ (cdv : Value) (A : Around) (outer : List Env) (s : Shared) (H : Hp) (vs : List V) (Q : VK) (E : XK), Room k (A.deeper (envOfC x scope s.heap.objs.size (He.ga K x) cdv)) → sp vs H Q E →
      ∃ t, PSs (cxOf CX P w K mg base N x scope (He.ga K x) cdv A outer s H E) body t ∧ t { nx := fun _ H' => Q .non H', rt := Q } (start N vs) H) : DefOk P w K mg base CX (k + 1) x ps sp := by
  obtain ⟨fd, F⟩ := F
  exact ⟨⟨fd, F.ok S len hbody, F.bindsN hb⟩, F.kp, gl⟩
end
section
variable {X : Cx} {CX : CXT} {k : Nat} {x : Str} {ps : List Str} {sp : Sp} {E : XK} {p pos : Pos} {e : Expr} {es : List Expr} {t : TA}
theorem pe_d (D : DefOk X.prog X.w X.K X.mg X.base CX k x ps sp) (hr : Room k X.A) (hx : Passes CX X E) (ha : PA X (e :: es) t) (hg : Gl X x := by rfl) (hdb : (x == ("__debug__" : Str)) = false := by decide)
    (he : starEach (e :: es) X.env = (false, eval e X.env) :: starEach es X.env := by rfl) (hpl : (backTo pos (starEach es X.env)).any (·.1) = false := by rfl) : PE X (.Call (.Name x p) (e :: es) [] pos) (tCall sp [] E t) := by
  obtain ⟨fd, F, b⟩ := D.ok
  exact pe_call F hr hg D.gl D.kp b .nil hx ha hdb he hpl
/-- a def that lets nothing out -/
theorem pe_dn (D : DefOk X.prog X.w X.K X.mg X.base (L2.CX X.prog X.w) k x ps sp) (hr : Room k X.A) (ha : PA X (e :: es) t) (hg : Gl X x := by rfl) (hdb : (x == ("__debug__" : Str)) = false := by decide)
    (he : starEach (e :: es) X.env = (false, eval e X.env) :: starEach es X.env := by rfl) (hpl : (backTo pos (starEach es X.env)).any (·.1) = false := by rfl) : PE X (.Call (.Name x p) (e :: es) [] pos) (tCall sp [] E0 t) := pe_d D hr passL ha hg hdb he hpl
end
theorem passLN {X : Cx} : Passes (L2N.CX X.prog X.w) X E0 := fun _ _ _ _ _ _ _ h => by
  obtain ⟨_, _, _, _, _, _, _, _, _, _, _, _, z⟩ := h
  exact z.elim
theorem ps_imp {X : Cx} {st : Stmt} {t t' : TS} (h : PS X st t) (i : ∀ D σ H, t' D σ H → t D σ H) : PS X st t' := ⟨fun pins s σ H D I q => h.run pins s σ H D I (i D σ H q)⟩
theorem pe_imp {X : Cx} {e : Expr} {t t' : TE} (h : PE X e t) (i : ∀ σ H Q, t' σ H Q → t σ H Q) : PE X e t' := ⟨fun pins s σ H Q I q => h.run pins s σ H Q I (i σ H Q q)⟩
theorem itT {c : Bool} {A B : Prop} (hc : c = true) (h : A) : if c = true then A else B := by
  rw [if_pos hc]
  exact h
theorem itF {c : Bool} {A B : Prop} (hc : c = false) (h : B) : if c = true then A else B := by
  rw [hc, if_neg Bool.false_ne_true]
  exact h
theorem it2 {c : Bool} {A B : Prop} (h1 : c = true → A) (h2 : c = false → B) : if c = true then A else B := by
  cases c with
  | true => exact itT rfl (h1 rfl)
  | false => exact itF rfl (h2 rfl)
theorem same_new {H : Hp} {p : Addr} {o : HO} (h : H p = none) : Same H (upd H p o) := fun b u e => by
  rw [upd_ne (ne_of_none e h)]
  exact e
theorem map_int_at {ns : List Int} {i : Nat} {x : V} (h : (ns.map V.int)[i]? = some x) : ∃ z, ns[i]? = some z ∧ x = V.int z := by
  rw [List.getElem?_map] at h
  obtain ⟨z, h1, h2⟩ := Option.map_eq_some_iff.mp h
  exact ⟨z, h1, h2.symm⟩
theorem pe_never {X : Cx} (e : Expr) : PE X e (fun _ _ _ => False) := ⟨fun _ _ _ _ _ _ h => h.elim⟩
/-! ### built-ins by their names -/
section
variable {X : Cx} {e e1 e2 : Expr} {te : TE} {ta : TA} {p pos : Pos}
theorem t_int (T : Txt X.K X.mg) (hg : Gl X "int" := by rfl) : PE X (.Name "int" p) (tC (.ty "int")) := pe_bltn hg T.f_int boot_int rfl
theorem t_bool (T : Txt X.K X.mg) (hg : Gl X "bool" := by rfl) : PE X (.Name "bool" p) (tC (.ty "bool")) := pe_bltn hg T.f_bool boot_bool rfl
theorem t_str (T : Txt X.K X.mg) (hg : Gl X "str" := by rfl) : PE X (.Name "str" p) (tC (.ty "str")) := pe_bltn hg T.f_str boot_str rfl
theorem t_tuple (T : Txt X.K X.mg) (hg : Gl X "tuple" := by rfl) : PE X (.Name "tuple" p) (tC (.ty "tuple")) := pe_bltn hg T.f_tuple boot_tuple rfl
theorem t_list (T : Txt X.K X.mg) (hg : Gl X "list" := by rfl) : PE X (.Name "list" p) (tC (.ty "list")) := pe_bltn hg T.f_list boot_list rfl
theorem c_LETTERS (T : Txt X.K X.mg) (hg : Gl X "LETTERS" := by rfl) : PE X (.Name "LETTERS" p) (tC (.str "abcdefgh")) := by
  obtain ⟨t, h⟩ := T.c_LETTERS
  exact pe_glob hg h ⟨t, rfl⟩
theorem c_FIGURES (T : Txt X.K X.mg) (hg : Gl X "FIGURES" := by rfl) : PE X (.Name "FIGURES" p) (tC (.str "0123456789")) := by
  obtain ⟨t, h⟩ := T.c_FIGURES
  exact pe_glob hg h ⟨t, rfl⟩
theorem c_MOST_STATES (T : Txt X.K X.mg) (hg : Gl X "MOST_STATES" := by rfl) : PE X (.Name "MOST_STATES" p) (tC (.int 1000)) := by
  obtain ⟨t, h⟩ := T.c_MOST_STATES
  exact pe_glob hg h ⟨t, rfl⟩
end
/-! ### the two error classes -/
/-- behind C.__init__ of one field, of two -/
def spF1 (C : Addr) (f : Str) : Sp := fun vs H Q _ => ∃ (a : Addr) (x : V), vs = [.ref a, x] ∧ H a = some (exo a C none) ∧ ∀ dx, H dx = none → dx ≠ a → Q .non (upd (upd H dx (exd dx [(f, x)])) a (exo a C (some dx)))
def spF2 (C : Addr) (f g : Str) : Sp := fun vs H Q _ => ∃ (a : Addr) (x y : V), vs = [.ref a, x, y] ∧ H a = some (exo a C none) ∧
  ∀ dx, H dx = none → dx ≠ a → Q .non (upd (upd (upd H dx (exd dx [(f, x)])) a (exo a C (some dx))) dx (exd dx [(g, y), (f, x)]))
theorem sc_WT : FnScope ["self", "thing"] ["self", "thing"] (defScope s_WrongThing_init) := ⟨rfl, rfl, rfl, by decide +kernel, rfl, by decide +kernel, by decide +kernel⟩
theorem sc_BL : FnScope ["self", "line", "word"] ["self", "line", "word"] (defScope s_BadLine_init) := ⟨rfl, rfl, rfl, by decide +kernel, rfl, by decide +kernel, by decide +kernel⟩
section
variable {K : PySem.W.Frag} {mg : Str → Option Value}
theorem Txt.xs (T : Txt K mg) : oexB K (He.ga K "BadAsks") = true ∧ oexB K (He.ga K "BadLine") = true ∧
  PySem.W.findIn K (.ref (He.ga K "BadAsks")) "__init__" = some (some (.ref (He.ma K (He.ga K "WrongThing") "__init__"))) ∧ PySem.W.typeIn K (.ref (He.ma K (He.ga K "WrongThing") "__init__")) = some (.type "function") ∧
  PySem.W.findIn K (.ref (He.ga K "BadLine")) "__init__" = some (some (.ref (He.ma K (He.ga K "BadLine") "__init__"))) ∧ PySem.W.typeIn K (.ref (He.ma K (He.ga K "BadLine") "__init__")) = some (.type "function") ∧
  PySem.W.findIn K (.ref (He.ga K "BadAsks")) "thing" = some none ∧ PySem.W.findIn K (.ref (He.ga K "BadLine")) "line" = some none ∧ PySem.W.findIn K (.ref (He.ga K "BadLine")) "word" = some none ∧
  xfB K (He.ga K "BadLine") = true ∧ (PySem.W.clsIn K (He.ga K "BadLine")).isSome = true ∧ PySem.W.findIn K (.ref (He.ga K "BadLine")) "__class__" = some (some (.builtin "object.__class__")) ∧
  PySem.W.specialIn K (.builtin "object.__class__") "__get__" = some (some (.builtin "getset_descriptor.__get__")) ∧ PySem.W.takesIn K (.builtin "object.__class__") = some true ∧ PySem.W.mroIn K (He.ga K "BadLine") (.type "object") = some true ∧
  PySem.W.kitOne K (.ref (He.ga K "BadLine")) (.ref (He.ga K "AfterError")) = some true ∧ PySem.W.kitOne K (.ref (He.ga K "BadLine")) (.type "ValueError") = some true ∧ PySem.W.kitOne K (.ref (He.ga K "BadLine")) (.ref (He.ga K "WrongThing")) = some false ∧
  PySem.W.exmOne K (.ref (He.ga K "BadLine")) (.ref (He.ga K "BadLine")) = some true ∧ PySem.W.exmOne K (.ref (He.ga K "BadAsks")) (.ref (He.ga K "BadAsks")) = some true := by
  have h := T.x
  unfold xB at h
  simpa only [Bool.and_eq_true, decide_eq_true_eq] using h
theorem Txt.oBA (T : Txt K mg) : OexC K (He.ga K "BadAsks") := oexB_ok T.xs.1
theorem Txt.oBL (T : Txt K mg) : OexC K (He.ga K "BadLine") := oexB_ok T.xs.2.1
theorem Txt.noThing (T : Txt K mg) : PySem.W.findIn K (.ref (He.ga K "BadAsks")) "thing" = some none := T.xs.2.2.2.2.2.2.1
theorem Txt.noLine (T : Txt K mg) : PySem.W.findIn K (.ref (He.ga K "BadLine")) "line" = some none := T.xs.2.2.2.2.2.2.2.1
theorem Txt.noWord (T : Txt K mg) : PySem.W.findIn K (.ref (He.ga K "BadLine")) "word" = some none := T.xs.2.2.2.2.2.2.2.2.1
theorem Txt.exLL (T : Txt K mg) : PySem.W.exmOne K (.ref (He.ga K "BadLine")) (.ref (He.ga K "BadLine")) = some true := T.xs.2.2.2.2.2.2.2.2.2.2.2.2.2.2.2.2.2.2.1
theorem Txt.exAA (T : Txt K mg) : PySem.W.exmOne K (.ref (He.ga K "BadAsks")) (.ref (He.ga K "BadAsks")) = some true := T.xs.2.2.2.2.2.2.2.2.2.2.2.2.2.2.2.2.2.2.2
end
section
variable {P : Program} {w : World} {K : PySem.W.Frag} {mg : Str → Option Value} {base : Heap} {CX : CXT}
theorem ne_exo {H : Hp} {a C dx : Addr} {d : Option Addr} {o : HO} (h : upd H dx o a = some (exo a C d)) : True := trivial
theorem read_F1 {C : Addr} {f : Str} (T : OexC K C) (no : PySem.W.findIn K (.ref C) f = some none) {vs : List V} {H : Hp} {Q : VK} {E : XK} {N : List Str} (hN : N.length = 2) (h : spF1 C f vs H Q E) :
    tOst K f (tVar 0) (tVar 1) { nx := fun _ H' => Q .non H', rt := Q } (start N vs) H := by
  obtain ⟨a, x, rfl, e, k⟩ := h
  refine ⟨x, rfl, .ref a, rfl, a, C, rfl, T, no, .inl ⟨e, fun dx n ne => k dx n ne⟩⟩
theorem read_F2 {C : Addr} {f g : Str} (T : OexC K C) (no : PySem.W.findIn K (.ref C) f = some none) (no2 : PySem.W.findIn K (.ref C) g = some none) {vs : List V} {H : Hp} {Q : VK} {E : XK} {N : List Str} (hN : N.length = 3) (h : spF2 C f g vs H Q E) :
    tSeq (tOst K f (tVar 0) (tVar 1)) (tOst K g (tVar 0) (tVar 2)) { nx := fun _ H' => Q .non H', rt := Q } (start N vs) H := by
  obtain ⟨a, x, y, rfl, e, k⟩ := h
  refine ⟨x, rfl, .ref a, rfl, a, C, rfl, T, no, .inl ⟨e, fun dx n ne => ?_⟩⟩
  refine ⟨y, rfl, .ref a, rfl, a, C, rfl, T, no2, .inr ⟨dx, [(f, x)], upd_same, ?_, by show 1 ≤ 900; decide, k dx n ne⟩⟩
  rw [upd_ne ne]
  exact upd_same
theorem fn_WT (T : Txt K mg) : ∃ fd, FnOk P w K mg base CX 1 (He.ma K (He.ga K "WrongThing") "__init__") fd ["self", "thing"] (spF1 (He.ga K "BadAsks") "thing") ∧ Binds K fd ["self", "thing"] [] := by
  obtain ⟨fd, F⟩ := T.fn_WrongThing_init
  refine ⟨fd, F.ok sc_WT (fun vs H Q E h => ?_) (fun cdv A outer s H vs Q E hr h => ⟨_, pss_one (ps_ost (pv 0) (pv 1)), ?_⟩), F.bindsN fun _ _ _ _ _ _ us hl => match us, hl with | [_, _], _ => rfl⟩
  · obtain ⟨a, x, rfl, _⟩ := h
    rfl
  · exact read_F1 T.oBA T.noThing rfl h
theorem fn_BL (T : Txt K mg) : ∃ fd, FnOk P w K mg base CX 1 (He.ma K (He.ga K "BadLine") "__init__") fd ["self", "line", "word"] (spF2 (He.ga K "BadLine") "line" "word") ∧ Binds K fd ["self", "line", "word"] [] := by
  obtain ⟨fd, F⟩ := T.fn_BadLine_init
  refine ⟨fd, F.ok sc_BL (fun vs H Q E h => ?_) (fun cdv A outer s H vs Q E hr h => ⟨_, pss_cons (ps_ost (pv 0) (pv 1)) (pss_one (ps_ost (pv 0) (pv 2))), ?_⟩), F.bindsN fun _ _ _ _ _ _ us hl => match us, hl with | [_, _, _], _ => rfl⟩
  · obtain ⟨a, x, y, rfl, _⟩ := h
    rfl
  · exact read_F2 T.oBL T.noLine T.noWord rfl h
/-- the same, called where an error is handled -/
theorem fnH_BL (T : Txt K mg) : ∃ fd, L2H.FnH P w K mg base CX 1 (He.ma K (He.ga K "BadLine") "__init__") fd ["self", "line", "word"] (spF2 (He.ga K "BadLine") "line" "word") ∧ Binds K fd ["self", "line", "word"] [] := by
  obtain ⟨fd, F⟩ := T.fn_BadLine_init
  have b : Binds K fd ["self", "line", "word"] [] := F.bindsN fun _ _ _ _ _ _ us hl => match us, hl with | [_, _, _], _ => rfl
  obtain ⟨oc, od, dV, kV, doc, pm, an, cdv, ct, osl, rfl, lk, hcd, _, _⟩ := F.ex
  refine ⟨_, L2H.fn_ofH lk hcd sc_BL (fun vs H Q E h => ?_) (fun A outer s H vs Q E p hot hr h => ⟨_, pss_cons (ps_ost (pv 0) (pv 1)) (pss_one (ps_ost (pv 0) (pv 2))), ?_⟩), b⟩
  · obtain ⟨a, x, y, rfl, _⟩ := h
    rfl
  · exact read_F2 T.oBL T.noLine T.noWord rfl h
end
/-- the error with two fields is made: its dict d is new, all else is as it was -/
theorem made_F2 {C : Addr} {f g : Str} {vs : List V} {H1 : Hp} {Q : XK} (h : ∃ x y, vs = [x, y] ∧ ∀ d H', H1 d = none → Same H1 H' → H' d = some (.xd [(g, y), (f, x)]) → Q (.ref C) (some d) H') :
    vs.length ≤ 1000 ∧ ∀ a, H1 a = none → spF2 C f g (.ref a :: (vs ++ [])) (upd H1 a (exo a C none))
      (fun v H2 => v = .non ∧ ∃ (d : Addr) (fs : List (Str × V)), H2 a = some (exo a C (some d)) ∧ H2 d = some (exd d fs) ∧ H1 d = none ∧ Q (.ref C) (some d) (upd (del H2 a) d (.xd fs))) (fun _ _ _ => False) := by
  obtain ⟨x, y, rfl, k⟩ := h
  refine ⟨by show 2 ≤ 1000; decide, fun a ha => ⟨a, x, y, rfl, upd_same, fun dx n ne => ⟨rfl, dx, _, ?_, upd_same, ?_, k dx _ ?_ (fun b o e => ?_) upd_same⟩⟩⟩
  · rw [upd_ne (Ne.symm ne)]
    exact upd_same
  · rw [upd_ne ne] at n
    exact n
  · rw [upd_ne ne] at n
    exact n
  · have ba : b ≠ a := ne_of_none e ha
    rw [upd_ne ne] at n
    have bd : b ≠ dx := ne_of_none e n
    rw [upd_ne bd, del_ne ba, upd_ne bd, upd_ne ba, upd_ne bd, upd_ne ba]
    exact e
theorem made_F1 {C : Addr} {f : Str} {vs : List V} {H1 : Hp} {Q : XK} (h : ∃ x, vs = [x] ∧ ∀ d H', H1 d = none → Same H1 H' → H' d = some (.xd [(f, x)]) → Q (.ref C) (some d) H') :
    vs.length ≤ 1000 ∧ ∀ a, H1 a = none → spF1 C f (.ref a :: (vs ++ [])) (upd H1 a (exo a C none))
      (fun v H2 => v = .non ∧ ∃ (d : Addr) (fs : List (Str × V)), H2 a = some (exo a C (some d)) ∧ H2 d = some (exd d fs) ∧ H1 d = none ∧ Q (.ref C) (some d) (upd (del H2 a) d (.xd fs))) (fun _ _ _ => False) := by
  obtain ⟨x, rfl, k⟩ := h
  refine ⟨by show 1 ≤ 1000; decide, fun a ha => ⟨a, x, rfl, upd_same, fun dx n ne => ⟨rfl, dx, [(f, x)], upd_same, ?_, ?_, k dx _ ?_ (fun b o e => ?_) upd_same⟩⟩⟩
  · rw [upd_ne ne]
    exact upd_same
  · rw [upd_ne ne] at n
    exact n
  · rw [upd_ne ne] at n
    exact n
  · have ba : b ≠ a := ne_of_none e ha
    rw [upd_ne ne] at n
    have bd : b ≠ dx := ne_of_none e n
    rw [upd_ne bd, del_ne ba, upd_ne ba, upd_ne bd, upd_ne ba]
    exact e
/-- a reading made monotone -/
def clo (ta : TA) : TA := fun σ H Q => ∃ R : List V → Hp → Prop, ta σ H R ∧ ∀ vs H1, R vs H1 → Q vs H1
theorem pa_clo {X : Cx} {es : List Expr} {ta : TA} (h : PA X es ta) : PA X es (clo ta) := ⟨fun pos pins s σ H Q I ⟨R, q, imp⟩ => thn (h.run pos pins s σ H R I q) fun us s1 ⟨vs, H1, I1, r, z⟩ => ⟨vs, H1, I1, r, imp vs H1 z⟩⟩
/-- raise BadLine(e1, e2) -/
def tBL (C : Addr) (W : WX) (ta : TA) : TS := fun _ σ H => ta σ H fun vs H1 => ∃ x y, vs = [x, y] ∧ ∀ d H', H1 d = none → Same H1 H' → H' d = some (.xd [(("word" : Str), y), (("line" : Str), x)]) → W (.ref C) (some d) σ H'
def tBA (C : Addr) (W : WX) (ta : TA) : TS := fun _ σ H => ta σ H fun vs H1 => ∃ x, vs = [x] ∧ ∀ d H', H1 d = none → Same H1 H' → H' d = some (.xd [(("thing" : Str), x)]) → W (.ref C) (some d) σ H'
section
variable {X : Cx} {W : WX} {e e2 : Expr} {es : List Expr} {ta : TA} {k : Nat} {p pos pos2 : Pos}
theorem raisesBL (T : Txt X.K X.mg) : Raises X (.ref (He.ga X.K "BadLine")) := raises_own T.oBL.exC T.oBL.tyC
theorem raisesBA (T : Txt X.K X.mg) : Raises X (.ref (He.ga X.K "BadAsks")) := raises_own T.oBA.exC T.oBA.tyC
theorem ps_BL (T : Txt X.K X.mg) (hc : X.calm = true) (hr : Room 2 X.A) (tk : L2.Takes X W) (ha : PA X [e, e2] ta) (hg : Gl X "BadLine" := by rfl)
    (he : starEach [e, e2] X.env = (false, eval e X.env) :: starEach [e2] X.env := by rfl) (hpl : (backTo pos (starEach [e2] X.env)).any (·.1) = false := by rfl) :
    PS X (.Raise (some (.Call (.Name "BadLine" p) [e, e2] [] pos)) none pos2) (tBL (He.ga X.K "BadLine") W ta) := by
  obtain ⟨fd, F, b⟩ := fn_BL (P := X.prog) (w := X.w) (base := X.base) (CX := L2.CX X.prog X.w) T
  refine ps_imp (ps_raise hc tk (pmk_oex T.oBL T.xs.2.2.2.2.1 T.xs.2.2.2.2.2.1 F hr b .nil passL hg T.g_BadLine (pa_clo ha) (by decide) he hpl)) fun D σ H h => ?_
  exact ⟨_, h, fun vs H1 q => made_F2 (Q := fun cls d H' => W cls d σ H') q⟩
/-- .. from the error that the suite holds in slot i -/
theorem ps_BLf (T : Txt X.K X.mg) {n : Str} {i : Nat} {C1 : Addr} {q : Addr × Obj} {cpos : Pos} (hot : L2H.Hot1 X.A q) (hq : q ∈ X.pn) (ec : q.2.cls = .ref C1) (sb : PySem.W.subIn X.K (.ref C1) (.type "BaseException") = some true)
    (hN : X.N[i]? = some n) (hk : X.env.kindOf n = some .local) (hr : L2H.RoomH 2 X.A) (tk : L2.Takes X W) (ha : PA X [e, e2] ta) (hdb : (n == ("__debug__" : Str)) = false := by decide) (hg : Gl X "BadLine" := by rfl)
    (he : starEach [e, e2] X.env = (false, eval e X.env) :: starEach [e2] X.env := by rfl) (hpl : (backTo pos (starEach [e2] X.env)).any (·.1) = false := by rfl) :
    PS X (.Raise (some (.Call (.Name "BadLine" p) [e, e2] [] pos)) (some (.Name n cpos)) pos2) (tBL (He.ga X.K "BadLine") (fun cls d σ H => σ[i]? = some (some (.ref q.1)) ∧ W cls d σ H) ta) := by
  obtain ⟨fd, F, b⟩ := fnH_BL (P := X.prog) (w := X.w) (base := X.base) (CX := L2.CX X.prog X.w) T
  refine ps_imp (ps_raise_from hot hq ec sb hN hk tk (L2H.pmk5_oexH T.oBL T.xs.2.2.2.2.1 T.xs.2.2.2.2.2.1 F hr ⟨q, hot, hq⟩ b passL hg T.g_BadLine (pa_clo ha) (by decide) he hpl) hdb) fun D σ H h => ?_
  exact ⟨_, h, fun vs H1 z => made_F2 (Q := fun cls d H' => σ[i]? = some (some (.ref q.1)) ∧ W cls d σ H') z⟩
/-- BadAsks(e), told that its context is None -/
theorem pmkN_BA (T : Txt X.K X.mg) (hr : Room 2 X.A) (ha : PA X [e] ta) (hg : Gl X "BadAsks" := by rfl)
    (he : starEach [e] X.env = (false, eval e X.env) :: starEach [] X.env := by rfl) (hpl : (backTo pos (starEach [] X.env)).any (·.1) = false := by rfl) :
    L2N.PMk X (.Call (.Name "BadAsks" p) [e] [] pos) (tMkO (He.ga X.K "BadAsks") (spF1 (He.ga X.K "BadAsks") "thing") [] ta) := by
  obtain ⟨fd, F1, b⟩ := fn_WT (P := X.prog) (w := X.w) (base := X.base) (CX := L2.CX X.prog X.w) T
  intro pins s σ H Q I h
  have O := T.oBA
  obtain ⟨nm, q, N, bs, bm, sn, sub, ab, col, dd, k0, k1, k2, k3, k5, hC, hbm⟩ := O.cls
  refine wpAny_Call_Name_kw (ld_glob I hg T.g_BadAsks ?_ (by decide))
  refine PySem.W.callWith_K (h₀ := X.base) I.ok.mod.kin O.kC (thn (ha.run pos pins s σ H _ I h) fun us s1 ⟨vs, H1, I1, r1, hz, q1⟩ => ⟨I1.kIn, ?_⟩) he hpl
  show wpAny _ _ (call (.ref (He.ga X.K "BadAsks")) us) _ _ _
  obtain ⟨hp, g, dr, tk, os⟩ := s1
  obtain ⟨x, hx⟩ : ∃ x, x = hp.objs.size + 1 := ⟨_, rfl⟩
  have sz : hp.objs.size ≤ x := by omega
  have hn : H1 x = none := I1.hok.fresh sz
  have hq := q1 x hn
  obtain ⟨hp2, e2⟩ : ∃ hp2, hp2 = (hp.push (PySem.W.kdv_tup us)).push (PySem.HandSPX.excO (He.ga X.K "BadAsks") hp.objs.size) := ⟨_, rfl⟩
  have kk : ∀ b o, hp.get? b = some o → hp2.get? b = some o := fun b o z => by
    rw [e2]
    exact Heap.get?_push_of_some _ (Heap.get?_push_of_some _ z)
  have hget : hp2.get? x = some (PySem.HandSPX.excO (He.ga X.K "BadAsks") hp.objs.size) := by
    rw [e2, hx]
    heap_get
  have I2 : Inv X pins σ (upd H1 x (exo x (He.ga X.K "BadAsks") none)) ⟨hp2, g, dr, tk, os⟩ := I1.laid (t' := tk) (a := x) (o := exo x (He.ga X.K "BadAsks") none) (h' := hp2) kk sz (exo_ok hget)
  have r2 : Vals (V.ref x :: vs) (Value.ref x :: us) := .cons rfl r1
  have lv : (V.ref x :: vs).length = (["self", "thing"] : List Str).length := by
    have z := F1.len _ _ _ _ hq
    rw [List.append_nil] at z
    exact z
  have hl : ((Value.ref x :: us) ++ []).length = (["self", "thing"] : List Str).length := by
    rw [List.append_nil, ← r2.length]
    exact lv
  have hus : us.length ≤ sizeLine := by
    rw [← Paired.length r1, sizeLine_eq]
    omega
  have b2 := b ⟨hp2, g, dr, tk, os⟩ (Value.ref x :: us) I2.kIn hl
  rw [List.append_nil] at b2
  rw [List.append_nil] at hq
  refine wpAny_call (PySem.HandSPX.call_own F.excBase_ValueError (fun Y => PySem.HandSPX.refsVE_contains Y bm hbm) (I1.kIn _ _ hC) (PySem.W.looks_findIn I1.kIn T.xs.2.2.1) (fun self => PySem.W.bind_fn I1.kIn self T.xs.2.2.2.1) hus ?_)
  rw [← hx, ← e2]
  refine codeAny_mono (F1.run _ X.stack _ _ ⟨Value.ref x :: us, []⟩ (Value.ref x :: us) _ _ (fun _ _ _ => False) (hr.make (He.ga X.K "BadAsks") us []) (I2.env0.make (He.ga X.K "BadAsks") us []) b2 r2 hq) fun r s' hq2 => ?_
  cases r with
  | error er => exact passL pins σ _ _ er s' I2 hq2
  | ok fl =>
    cases fl with
    | ret u =>
      obtain ⟨v, H2, os2, bare2, un2, hok2, rv, ev, d, fs, ea, ed, hd1, q2⟩ := hq2
      subst ev
      obtain ⟨h2, g2, d2, t2, os'⟩ := s'
      obtain ⟨t0, G, J, kG, ge, hoe, na⟩ := mk_end0 (d2 := d2) (t2 := t2) I1 sz kk un2 hok2 os2 bare2 ea ed hd1
      exact ⟨rv, ⟨x, _, _, ⟨G, g2, d2, t2, os'⟩, _, .ref (He.ga X.K "BadAsks"), some d, rfl, J, kG, ge, hoe, ⟨rfl, rfl, fun vs hv => by cases hv; rfl⟩, rfl, rfl, na, rfl, bare2, raisesBA T, q2⟩⟩
    | next => exact False.elim hq2
    | brk => exact False.elim hq2
    | cont => exact False.elim hq2
theorem ps_BA (T : Txt X.K X.mg) (hc : X.calm = true) (hr : Room 2 X.A) (tk : L2N.Takes X W) (ha : PA X [e] ta) (hg : Gl X "BadAsks" := by rfl)
    (he : starEach [e] X.env = (false, eval e X.env) :: starEach [] X.env := by rfl) (hpl : (backTo pos (starEach [] X.env)).any (·.1) = false := by rfl) :
    PS X (.Raise (some (.Call (.Name "BadAsks" p) [e] [] pos)) none pos2) (tBA (He.ga X.K "BadAsks") W ta) := by
  refine ps_imp (L2N.ps_raise hc tk (pmkN_BA T hr (pa_clo ha) hg he hpl)) fun D σ H h => ?_
  exact ⟨_, h, fun vs H1 q => made_F1 (Q := fun cls d H' => W cls d σ H') q⟩
end
/-! ### isinstance of an error that has fields -/
def rIsX (K : PySem.W.Frag) (C a : Addr) : List V → Hp → VK → Prop := fun xs H Q => ∃ (c : V) (cv : Value) (b : Bool), xs = [.ref a, c] ∧ (∀ u, RelV c u → u = cv) ∧ PySem.W.kitOne K (.ref C) cv = some b ∧ Q (.bl b) H
theorem call_isX {X : Cx} {a d : Addr} {oe : Obj} {pn : List (Addr × Obj)} {fs : List (Str × V)} (T : Txt X.K X.mg) (hz : Zc (.ref (He.ga X.K "BadLine")) (some d) oe) (hf : ∃ vs, oe.data = .fields vs) :
    CallR (X.suite a ((a, oe) :: pn)) (.builtin "isinstance") (fun xs H Q => H d = some (.xd fs) ∧ rIsX X.K (He.ga X.K "BadLine") a xs H Q) := by
  intro pins s σ H xs us Q I r h
  obtain ⟨hd, c, cv, b, rfl, hcv, ek, q⟩ := h
  cases r with
  | cons rx rr =>
    cases rr with
    | cons rt rr =>
      cases rr
      cases rx
      have ec := hcv _ rt
      subst ec
      obtain ⟨hget, _⟩ := I.pin (a, oe) (List.mem_append.mpr (.inl List.mem_cons_self))
      obtain ⟨vs, hv⟩ := hf
      obtain ⟨mA, ⟨od, es, ep, hod, hr⟩, rel⟩ := (show ObjOk X.prog X.w H s.heap d (.xd fs) from I.hok d _ hd)
      have J : PySem.W.InstAt s.heap a oe (He.ga X.K "BadLine") (some od) := by
        obtain ⟨oc, odd, oda, osl⟩ := oe
        obtain ⟨h1, h2⟩ := hz
        dsimp only at h1 h2 hv
        subst h1 h2 hv
        exact ⟨hget, rfl, rfl, hod⟩
      have Y := T.xs
      have xf := xfB_ok Y.2.2.2.2.2.2.2.2.2.1
      exact PySem.W.kia_one (PySem.W.kitx_exc Y.2.2.2.2.2.2.2.2.2.2.1 xf.ga xf.gg xf.exC Y.2.2.2.2.2.2.2.2.2.2.2.1 Y.2.2.2.2.2.2.2.2.2.2.2.2.1 Y.2.2.2.2.2.2.2.2.2.2.2.2.2.1 Y.2.2.2.2.2.2.2.2.2.2.2.2.2.2.1) I.kIn J ek (fun z => nomatch z) fun tk => ⟨.bl b, H, I.tok tk, rfl, q⟩
end Aw
set_option maxHeartbeats 4000000
/-! What the defs reckon, as plain functions; data of nested lists. -/
namespace Aw
open PySem PyProof.Rows L2
/-- nested lists of ints, n deep -/
def Dn : Nat → Type
  | 0 => Int
  | n + 1 => List (Dn n)
/-- at v stand lists | tuples that hold d -/
def LD (H : Hp) : (n : Nat) → Dn n → V → Prop
  | 0, i, v => v = .int i
  | n + 1, l, v => ∃ (p : Addr) (vs : List V), v = .ref p ∧ H p = some (.lst vs) ∧ Paired (LD H n) l vs
def TD (H : Hp) : (n : Nat) → Dn n → V → Prop
  | 0, i, v => v = .int i
  | n + 1, l, v => ∃ (p : Addr) (vs : List V), v = .ref p ∧ H p = some (.tup vs) ∧ Paired (TD H n) l vs
theorem LD.same {H H' : Hp} (e : Same H H') : ∀ {n : Nat} {d : Dn n} {v : V}, LD H n d v → LD H' n d v
  | 0, _, _, h => h
  | n + 1, _, _, ⟨p, vs, hv, hp, r⟩ => ⟨p, vs, hv, e _ _ hp, Paired.mapP r fun _ _ h => LD.same e h⟩
theorem TD.same {H H' : Hp} (e : Same H H') : ∀ {n : Nat} {d : Dn n} {v : V}, TD H n d v → TD H' n d v
  | 0, _, _, h => h
  | n + 1, _, _, ⟨p, vs, hv, hp, r⟩ => ⟨p, vs, hv, e _ _ hp, Paired.mapP r fun _ _ h => TD.same e h⟩
theorem paired_at {α β : Type} {F : α → β → Prop} : ∀ {l : List α} {m : List β} {i : Nat} {b : β}, Paired F l m → m[i]? = some b → ∃ a, l[i]? = some a ∧ F a b
  | _, _, i, b, .nil, h => by simp at h
  | a :: l, c :: m, 0, b, .cons r t, h => ⟨a, rfl, by simp at h; rw [← h]; exact r⟩
  | a :: l, c :: m, i + 1, b, .cons r t, h => by
    obtain ⟨x, h1, h2⟩ := paired_at (i := i) t (by simpa using h)
    exact ⟨x, by simpa using h1, h2⟩
theorem paired_to {α β : Type} {F : α → β → Prop} : ∀ {l : List α} {m : List β} {i : Nat} {a : α}, Paired F l m → l[i]? = some a → ∃ b, m[i]? = some b ∧ F a b
  | _, _, i, b, .nil, h => by simp at h
  | a :: l, c :: m, 0, b, .cons r t, h => ⟨c, rfl, by simp at h; rw [← h]; exact r⟩
  | a :: l, c :: m, i + 1, b, .cons r t, h => by
    obtain ⟨x, h1, h2⟩ := paired_to (i := i) t (by simpa using h)
    exact ⟨x, by simpa using h1, h2⟩
theorem ints_of {H : Hp} {ns : List Int} {vs : List V} (h : Paired (LD H 0) ns vs) : vs = ns.map V.int := by
  induction h with
  | nil => rfl
  | cons r _ ih => rw [show _ = V.int _ from r, ih]; rfl
theorem of_ints {H : Hp} : ∀ ns : List Int, Paired (LD H 0) ns (ns.map V.int)
  | [] => .nil
  | _ :: r => .cons rfl (of_ints r)
theorem take_succ_at {α : Type} {l : List α} {i : Nat} {x : α} (h : l[i]? = some x) : l.take (i + 1) = l.take i ++ [x] := by
  rw [List.take_succ, h]
  rfl
theorem drop_at {α : Type} {l : List α} {i : Nat} {x : α} (h : l[i]? = some x) : l.drop i = x :: l.drop (i + 1) := by
  obtain ⟨h1, h2⟩ := List.getElem?_eq_some_iff.mp h
  rw [List.drop_eq_getElem_cons h1, h2]
/-! ### the asks -/
def place (c : Nat) : Int := Txt.find (PySem.Str.ofString "abcdefgh") ⟨#[c]⟩
def ascF : Int → List Nat → Bool
  | _, [] => true
  | l, c :: r => if place c ≤ l then false else ascF (place c) r
theorem ascF_cons (l : Int) (c : Nat) (r : List Nat) : ascF l (c :: r) = if place c ≤ l then false else ascF (place c) r := rfl
def isAsks (s : Str) : Bool := (decide (1 ≤ s.length) && decide (s.length ≤ 4)) && ascF (-1) s.cps.toList
/-! ### a price -/
def dig (c : Nat) : Bool := decide (c ∈ (PySem.Str.ofString "0123456789").cps.toList)
def figP (s : Str) : Str := if V.str (cutS s none (some 1)) = V.str "-" then cutS s (some 1) none else s
def isPrice (s : Str) : Bool :=
  if figP s = Str.empty ∨ 60 < (figP s).length then false else if (figP s).cps.toList.all dig then (if (figP s).cps.toList.head? = some 48 then decide (s = PySem.Str.ofString "0") else true) else false
theorem sign_eq (c : Nat) (k : Nat) (z : Str) (h : z = ⟨#[k]⟩) : decide (V.str ⟨#[c]⟩ = V.str z) = decide (c = k) := by
  subst h
  by_cases e : c = k
  · subst e
    simp
  · rw [decide_eq_false e]
    refine decide_eq_false fun h => e ?_
    have h2 := V.str.inj h
    injection h2 with h3
    have h4 := congrArg (fun a : Array Nat => a.toList) h3
    simpa using h4
theorem empty_of {z : Str} : (z = Str.empty) ↔ z.cps.toList = [] := by
  constructor
  · intro h
    rw [h]
    rfl
  · intro h
    obtain ⟨⟨l⟩⟩ := z
    simp only at h
    subst h
    rfl
theorem TD.upd {H : Hp} {D : Addr} {xs ys : List V} (hD : H D = some (.lst xs)) : ∀ {n : Nat} {d : Dn n} {v : V}, TD H n d v → TD (upd H D (.lst ys)) n d v
  | 0, _, _, h => h
  | n + 1, _, _, ⟨p, vs, hv, hp, r⟩ => by
    refine ⟨p, vs, hv, ?_, Paired.mapP r fun _ _ h => TD.upd hD h⟩
    rw [upd_ne (fun z => by rw [z, hD] at hp; cases hp)]
    exact hp
theorem same_put {H H' : Hp} {D : Addr} {o : HO} (s : Same H H') (hD : H D = none) : Same H (L2.upd H' D o) := fun b u e => by
  rw [upd_ne (ne_of_none e hD)]
  exact s b u e
/-- no list is longer than 1,000 -/
def Dsz : (n : Nat) → Dn n → Prop
  | 0, _ => True
  | n + 1, l => List.length (α := Dn n) l ≤ 1000 ∧ ∀ x : Dn n, List.Mem (α := Dn n) x l → Dsz n x
/-- all but what stands at a -/
def KeepBut (a : Addr) (H H' : Hp) : Prop := ∀ b o, b ≠ a → H b = some o → H' b = some o
theorem KeepBut.trans {a : Addr} {H H1 H2 : Hp} (x : KeepBut a H H1) (y : KeepBut a H1 H2) : KeepBut a H H2 := fun c o n h => y c o n (x c o n h)
theorem KeepBut.of {a : Addr} {H H' : Hp} (x : Same H H') : KeepBut a H H' := fun c o _ h => x c o h
theorem KeepBut.put (a : Addr) (H : Hp) (o : HO) : KeepBut a H (L2.upd H a o) := fun c u n h => by
  rw [upd_ne n]
  exact h
theorem LD.but {a : Addr} {H H' : Hp} (k : KeepBut a H H') (na : ∀ xs, H a ≠ some (.lst xs)) : ∀ {n : Nat} {d : Dn n} {v : V}, LD H n d v → LD H' n d v
  | 0, _, _, h => h
  | n + 1, _, _, ⟨p, vs, hv, hp, r⟩ => ⟨p, vs, hv, k _ _ (fun z => na vs (by rw [← z]; exact hp)) hp, Paired.mapP r fun _ _ h => LD.but k na h⟩
theorem TD.but {a : Addr} {H H' : Hp} (k : KeepBut a H H') (na : ∀ xs, H a ≠ some (.tup xs)) : ∀ {n : Nat} {d : Dn n} {v : V}, TD H n d v → TD H' n d v
  | 0, _, _, h => h
  | n + 1, _, _, ⟨p, vs, hv, hp, r⟩ => ⟨p, vs, hv, k _ _ (fun z => na vs (by rw [← z]; exact hp)) hp, Paired.mapP r fun _ _ h => TD.but k na h⟩
end Aw
set_option maxHeartbeats 4000000
/-! The lines of a store, as plain functions. -/
namespace Aw
open PySem PyProof.Rows L2
abbrev SP : Str := PySem.Str.ofString " "
/-- a line: a text, or no text -/
abbrev Ln := Option Str
abbrev Res (α : Type) := Except (Nat × Nat) α
def intOf (s : Str) : Int := (PySem.intText? s).getD 0
/-- the words of a line -/
def wordsOf (lns : List Ln) (at_ : Nat) : Option (List Str) := match lns[at_]? with
  | some (some s) => some (Txt.split s SP)
  | _ => none
/-- the first head that is not there -/
def hb : List Str → List Str → Nat → Option Nat
  | _, [], _ => none
  | [], _ :: _, k => some k
  | w :: r, h :: hs, k => if w = h then hb r hs (k + 1) else some k
def headsR (lns : List Ln) (at_ : Nat) (heads : List Str) : Res (List Str) := match wordsOf lns at_ with
  | none => .error (at_, 0)
  | some ws => match hb ws heads 0 with
    | some k => .error (at_, k)
    | none => .ok ws
/-- the prices from the k-th word on; the first bad word -/
def prs (cap : Nat) : List Str → Nat → List Int → Except Nat (List Int)
  | [], _, acc => .ok acc
  | w :: r, k, acc => if acc.length = cap ∨ isPrice w = false then .error k else prs cap r (k + 1) (acc ++ [intOf w])
def lineR (lns : List Ln) (at_ : Nat) (heads : List Str) (cap mn : Nat) : Res (List Int) := match headsR lns at_ heads with
  | .error e => .error e
  | .ok ws => match prs cap (ws.drop heads.length) heads.length [] with
    | .error k => .error (at_, k)
    | .ok ns => if ns.length < mn then .error (at_, ws.length) else .ok ns
def asksR (lns : List Ln) : Res Str := match headsR lns 0 [PySem.Str.ofString "store"] with
  | .error e => .error e
  | .ok ws => match ws[1]? with
    | none => .error (0, 1)
    | some a => if isAsks a = true then (if 2 < ws.length then .error (0, 2) else .ok a) else .error (0, 1)
/-- one after the other, to the first error -/
def runE {ε α : Type} (f : Nat → Except ε α) : Nat → Nat → Except ε (List α)
  | _, 0 => .ok []
  | i, n + 1 => match f i with
    | .error e => .error e
    | .ok a => match runE f (i + 1) n with
      | .error e => .error e
      | .ok r => .ok (a :: r)
theorem runE_succ {ε α : Type} (f : Nat → Except ε α) (i n : Nat) : runE f i (n + 1) = match f i with
    | .error e => .error e
    | .ok a => match runE f (i + 1) n with
      | .error e => .error e
      | .ok r => .ok (a :: r) := rfl
/-- what is made so far, then the rest -/
def pre {ε α : Type} (acc : List α) : Except ε (List α) → Except ε (List α)
  | .error e => .error e
  | .ok r => .ok (acc ++ r)
theorem pre_nil {ε α : Type} (x : Except ε (List α)) : pre [] x = x := by cases x <;> rfl
theorem pre_err {ε α : Type} {f : Nat → Except ε α} {i n : Nat} {e : ε} (acc : List α) (h : f i = .error e) : pre acc (runE f i (n + 1)) = .error e := by
  rw [runE_succ, h]
  rfl
theorem pre_ok {ε α : Type} {f : Nat → Except ε α} {i n : Nat} {a : α} (acc : List α) (h : f i = .ok a) : pre acc (runE f i (n + 1)) = pre (acc ++ [a]) (runE f (i + 1) n) := by
  rw [runE_succ, h]
  cases runE f (i + 1) n with
  | error e => rfl
  | ok r =>
    show Except.ok (acc ++ (a :: r)) = Except.ok ((acc ++ [a]) ++ r)
    rw [List.append_assoc]
    rfl
abbrev CO (c : Nat) : List Str := [PySem.Str.ofString "cost", ⟨#[c]⟩]
def tableR (lns : List Ln) (n at_ c : Nat) : Res (List (List Int)) := runE (fun s => lineR lns (at_ + s) (CO c) n n) 0 n
def costsR (lns : List Ln) (n : Nat) (asks : Str) : Res (List (List (List Int))) := runE (fun k => tableR lns n (2 + k * n) (asks.cps.toList.getD k 0)) 0 asks.length
/-- the store that the lines tell: asks, begins, costs, ends -/
abbrev Sto := Str × List Int × List (List (List Int)) × List Int
def readR (lns : List Ln) : Res Sto := match asksR lns with
  | .error e => .error e
  | .ok asks => match lineR lns 1 [PySem.Str.ofString "begins"] 1000 1 with
    | .error e => .error e
    | .ok b => match costsR lns b.length asks with
      | .error e => .error e
      | .ok c => match lineR lns (2 + asks.length * b.length) [PySem.Str.ofString "ends"] b.length b.length with
        | .error e => .error e
        | .ok e => if 3 + asks.length * b.length < lns.length then .error (3 + asks.length * b.length, 0) else .ok (asks, b, c, e)
/-! ### a price reads as an int -/
theorem dig_iff (c : Nat) : dig c = true ↔ 48 ≤ c ∧ c ≤ 57 := by
  have e : (PySem.Str.ofString "0123456789").cps.toList = [48, 49, 50, 51, 52, 53, 54, 55, 56, 57] := by decide +kernel
  unfold dig
  rw [e]
  simp
  omega
theorem cut1_minus (s : Str) : (V.str (cutS s none (some 1)) = V.str (PySem.Str.ofString "-")) ↔ s.cps.toList.head? = some 45 := by
  have e : (PySem.Str.ofString "-") = ⟨#[45]⟩ := by decide +kernel
  rw [e]
  have hx : (cutS s none (some 1)).cps.toList = s.cps.toList.take 1 := by
    show (((s.cps.toList.drop 0).take (HT.sIx s.length s.length (some ((1 : Nat) : Int)) - 0)).toArray).toList = _
    rw [HT.sIx_nat]
    simp only [List.drop_zero, Nat.sub_zero]
    have hl : s.cps.toList.length = s.length := by simp [Str.length]
    cases q : s.cps.toList with
    | nil => simp
    | cons a r =>
      have : 1 ≤ s.length := by rw [← hl, q]; simp
      rw [Nat.min_eq_left this]
  constructor
  · intro h
    have h2 := congrArg (fun z : Str => z.cps.toList) (V.str.inj h)
    simp only at h2
    rw [hx] at h2
    cases q : s.cps.toList with
    | nil => rw [q] at h2; simp at h2
    | cons a r => rw [q] at h2; simp at h2; rw [h2]; rfl
  · intro h
    refine congrArg V.str ?_
    refine ext_toList ?_
    rw [hx]
    cases q : s.cps.toList with
    | nil => rw [q] at h; simp at h
    | cons a r => rw [q] at h; simp at h; rw [h]; rfl
theorem cut_rest (s : Str) : (cutS s (some 1) none).cps.toList = s.cps.toList.drop 1 := by
  show (((s.cps.toList.drop (HT.sIx s.length 0 (some ((1 : Nat) : Int)))).take (s.length - HT.sIx s.length 0 (some ((1 : Nat) : Int)))).toArray).toList = _
  rw [HT.sIx_nat]
  have hl : s.cps.toList.length = s.length := by simp [Str.length]
  have : (s.cps.toList.drop (min 1 s.length)).take (s.length - min 1 s.length) = s.cps.toList.drop (min 1 s.length) := List.take_of_length_le (by simp [List.length_drop, hl])
  show (List.take (s.length - min 1 s.length) (List.drop (min 1 s.length) s.cps.toList)) = _
  rw [this]
  by_cases h : 1 ≤ s.length
  · rw [Nat.min_eq_left h]
  · have h0 : s.length = 0 := by omega
    have : s.cps.toList = [] := List.eq_nil_of_length_eq_zero (by rw [hl, h0])
    rw [this]
    simp
theorem price_int {s : Str} (h : isPrice s = true) : ∃ n, PySem.intText? s = some n ∧ s.length ≤ 640 := by
  unfold isPrice at h
  split at h
  · cases h
  · rename_i h1
    split at h
    · rename_i h2
      have hd : ∀ c ∈ (figP s).cps.toList, 48 ≤ c ∧ c ≤ 57 := fun c hc => (dig_iff c).mp (List.all_eq_true.mp h2 c hc)
      have hne : (figP s).cps.toList ≠ [] := fun q => h1 (.inl (empty_of.mpr q))
      have hlen : ¬ 60 < (figP s).length := fun q => h1 (.inr q)
      by_cases hm : V.str (cutS s none (some 1)) = V.str (PySem.Str.ofString "-")
      · have ef : figP s = cutS s (some 1) none := if_pos hm
        have h45 := (cut1_minus s).mp hm
        rw [ef, cut_rest] at hd hne
        obtain ⟨a, r, q⟩ : ∃ a r, s.cps.toList = a :: r := by
          cases q : s.cps.toList with
          | nil => rw [q] at h45; simp at h45
          | cons a r => exact ⟨a, r, rfl⟩
        rw [q] at h45 hd hne
        simp at h45
        subst h45
        have hl : s.length = r.length + 1 := by
          have : s.cps.toList.length = s.length := by simp [Str.length]
          rw [← this, q]
          rfl
        have hr : (figP s).length = r.length := by
          have : (figP s).cps.toList.length = (figP s).length := by simp [Str.length]
          rw [← this, ef, cut_rest, q]
          rfl
        exact ⟨_, intText_neg q (fun c hc => hd c hc) (by simpa using hne) (by omega), by omega⟩
      · have ef : figP s = s := if_neg hm
        rw [ef] at hd hne hlen
        exact ⟨_, intText_digits (fun c hc => hd c hc) hne (by omega), by omega⟩
    · cases h
/-! ### the lines in the heap -/
/-- what stands at addresses of Z stays -/
def Keep (Z : Addr → Prop) (H H' : Hp) : Prop := ∀ b o, Z b → H b = some o → H' b = some o
theorem Keep.refl (Z : Addr → Prop) (H : Hp) : Keep Z H H := fun _ _ _ h => h
theorem Keep.trans {Z : Addr → Prop} {H H1 H2 : Hp} (a : Keep Z H H1) (b : Keep Z H1 H2) : Keep Z H H2 := fun c o z h => b c o z (a c o z h)
theorem Keep.of {Z : Addr → Prop} {H H' : Hp} (a : Same H H') : Keep Z H H' := fun c o _ h => a c o h
theorem Keep.mono {Z Z' : Addr → Prop} {H H' : Hp} (a : Keep Z H H') (h : ∀ b, Z' b → Z b) : Keep Z' H H' := fun c o z => a c o (h c z)
def LnV (Z : Addr → Prop) (H : Hp) : Ln → V → Prop
  | some s, v => v = .str s
  | none, v => v = .non ∨ v = .int 5 ∨ v = .bl true ∨ ∃ (a : Addr) (xs : List V), v = .ref a ∧ Z a ∧ (H a = some (.lst xs) ∨ H a = some (.tup xs))
theorem LnV.keep {Z : Addr → Prop} {H H' : Hp} (k : Keep Z H H') : ∀ {ln : Ln} {v : V}, LnV Z H ln v → LnV Z H' ln v
  | some s, v, h => h
  | none, v, h => by
    rcases h with h | h | h | ⟨a, xs, e, z, h⟩
    · exact .inl h
    · exact .inr (.inl h)
    · exact .inr (.inr (.inl h))
    · refine .inr (.inr (.inr ⟨a, xs, e, z, ?_⟩))
      rcases h with h | h
      · exact .inl (k _ _ z h)
      · exact .inr (k _ _ z h)
theorem LnV.mono {Z Z' : Addr → Prop} {H : Hp} (k : ∀ b, Z b → Z' b) : ∀ {ln : Ln} {v : V}, LnV Z H ln v → LnV Z' H ln v
  | some s, v, h => h
  | none, v, h => by
    rcases h with h | h | h | ⟨a, xs, e, z, h⟩
    · exact .inl h
    · exact .inr (.inl h)
    · exact .inr (.inr (.inl h))
    · exact .inr (.inr (.inr ⟨a, xs, e, k _ z, h⟩))
def Lines (Z : Addr → Prop) (H : Hp) (l : Addr) (lns : List Ln) : Prop := ∃ xs, H l = some (.lst xs) ∧ Paired (LnV Z H) lns xs
abbrev Any : Addr → Prop := fun _ => True
theorem Lines.same {H H' : Hp} {l : Addr} {lns : List Ln} (k : Same H H') (h : Lines Any H l lns) : Lines Any H' l lns := by
  obtain ⟨xs, hl, pr⟩ := h
  exact ⟨xs, k _ _ hl, Paired.mapP pr fun _ _ h => LnV.keep (Keep.of k) h⟩
def Small (lns : List Ln) : Prop := lns.length ≤ 100 ∧ ∀ s, some s ∈ lns → s.length ≤ 10000
/-! ### how long the words are -/
def wl (ws : List Str) : Nat := (ws.map (·.length)).sum + ws.length
theorem wl_cons (w : Str) (ws : List Str) : wl (w :: ws) = w.length + 1 + wl ws := by
  unfold wl
  rw [List.map_cons, List.sum_cons, List.length_cons]
  omega
theorem wl_app (a b : List Str) : wl (a ++ b) = wl a + wl b := by
  unfold wl
  rw [List.map_append, List.sum_append, List.length_append]
  omega
theorem spl_wl (c : Nat) : ∀ (l acc : List Nat), ((TL.spl [c] 0 acc l).map List.length).sum + (TL.spl [c] 0 acc l).length = acc.length + l.length + 1
  | [], acc => by
    rw [TL.spl_nil]
    simp
  | d :: r, acc => by
    cases h : TL.pre [c] (d :: r) with
    | true =>
      rw [TL.spl_hit h]
      have ih := spl_wl c r []
      show ((acc :: TL.spl [c] 0 [] r).map List.length).sum + (acc :: TL.spl [c] 0 [] r).length = _
      rw [List.map_cons, List.sum_cons, List.length_cons, List.length_cons]
      simp only [List.length_nil] at ih
      omega
    | false =>
      rw [TL.spl_miss h]
      have ih := spl_wl c r (acc ++ [d])
      rw [List.length_append, List.length_singleton] at ih
      rw [List.length_cons]
      omega
theorem split_wl (s : Str) : wl (Txt.split s SP) = s.length + 1 := by
  have e := TL.split_spl s SP (by decide +kernel) (TL.kind_ok (by decide +kernel))
  have e2 : TL.tl SP = [32] := by decide +kernel
  rw [e2] at e
  have h := spl_wl 32 (TL.tl s) []
  rw [← e, List.map_map, List.length_map] at h
  have e3 : (List.map (List.length ∘ TL.tl) (Txt.split s SP)) = (Txt.split s SP).map (·.length) := by
    refine List.map_congr_left fun z _ => ?_
    exact (TL.len_tl z).symm
  rw [e3] at h
  unfold wl
  rw [h, ← TL.len_tl]
  simp
theorem wl_mem {w : Str} : ∀ {ws : List Str}, w ∈ ws → w.length + 1 ≤ wl ws
  | [], h => by cases h
  | a :: r, h => by
    rw [wl_cons]
    rcases List.mem_cons.mp h with rfl | h
    · omega
    · have := wl_mem h
      omega
theorem wl_len (ws : List Str) : ws.length ≤ wl ws := by
  unfold wl
  omega
theorem split_pos (s : Str) : 1 ≤ (Txt.split s SP).length := by
  have e := TL.split_spl s SP (by decide +kernel) (TL.kind_ok (by decide +kernel))
  have e2 : TL.tl SP = [32] := by decide +kernel
  rw [e2] at e
  have h : (Txt.split s SP).length = (TL.spl [32] 0 [] (TL.tl s)).length := by rw [← e, List.length_map]
  have pos : ∀ (l acc : List Nat), 1 ≤ (TL.spl [32] 0 acc l).length := by
    intro l
    induction l with
    | nil =>
      intro acc
      rw [TL.spl_nil]
      exact Nat.le_refl _
    | cons d r ih =>
      intro acc
      cases h : TL.pre [32] (d :: r) with
      | true =>
        rw [TL.spl_hit h]
        simp
      | false =>
        rw [TL.spl_miss h]
        exact ih _
  rw [h]
  exact pos _ _
theorem hb_len : ∀ {ws heads : List Str} {k : Nat}, hb ws heads k = none → heads.length ≤ ws.length
  | _, [], _, _ => Nat.zero_le _
  | [], _ :: _, _, h => by cases h
  | w :: r, x :: hs, k, h => by
    have h2 : (if w = x then hb r hs (k + 1) else some k) = none := h
    by_cases e : w = x
    · rw [if_pos e] at h2
      have := hb_len h2
      simp only [List.length_cons]
      omega
    · rw [if_neg e] at h2
      cases h2
theorem prs_len {cap : Nat} : ∀ {ws : List Str} {k : Nat} {acc ns : List Int}, prs cap ws k acc = .ok ns → ns.length = acc.length + ws.length
  | [], k, acc, ns, h => by
    have h2 : (Except.ok acc : Except Nat (List Int)) = .ok ns := h
    cases h2
    rfl
  | w :: r, k, acc, ns, h => by
    have h2 : (if acc.length = cap ∨ isPrice w = false then Except.error k else prs cap r (k + 1) (acc ++ [intOf w])) = .ok ns := h
    by_cases e : acc.length = cap ∨ isPrice w = false
    · rw [if_pos e] at h2
      cases h2
    · rw [if_neg e] at h2
      have := prs_len h2
      rw [List.length_append, List.length_singleton] at this
      rw [List.length_cons]
      omega
theorem prs_cons (cap : Nat) (w : Str) (r : List Str) (k : Nat) (acc : List Int) : prs cap (w :: r) k acc = if acc.length = cap ∨ isPrice w = false then Except.error k else prs cap r (k + 1) (acc ++ [intOf w]) := rfl
theorem int_price {s : Str} (h : isPrice s = true) : PySem.intText? s = some (intOf s) ∧ s.length ≤ 640 := by
  obtain ⟨n, h1, h2⟩ := price_int h
  refine ⟨?_, h2⟩
  unfold intOf
  rw [h1]
  rfl
/-! ### a heap without what stands at a -/
def hid (a : Addr) (H : Hp) : Hp := fun b => if b = a then none else H b
theorem hid_ne {a b : Addr} {H : Hp} (h : b ≠ a) : hid a H b = H b := if_neg h
theorem hid_some {a b : Addr} {H : Hp} {o : HO} (h : hid a H b = some o) : b ≠ a ∧ H b = some o := by
  unfold hid at h
  by_cases e : b = a
  · rw [if_pos e] at h
    cases h
  · rw [if_neg e] at h
    exact ⟨e, h⟩
theorem hid_le (a : Addr) (H : Hp) : Same (hid a H) H := fun _ _ h => (hid_some h).2
theorem hid_same {a : Addr} {H H' : Hp} (s : Same H H') : Same (hid a H) (hid a H') := fun b o h => by
  obtain ⟨ne, e⟩ := hid_some h
  rw [hid_ne ne]
  exact s b o e
theorem hid_put {a : Addr} {H : Hp} {o : HO} : Same (hid a H) (hid a (L2.upd H a o)) := fun b u h => by
  obtain ⟨ne, e⟩ := hid_some h
  rw [hid_ne ne, upd_ne ne]
  exact e
theorem hid_new {a : Addr} {H : Hp} {o : HO} (n : H a = none) : Same H (hid a (L2.upd H a o)) := fun b u h => by
  have ne := ne_of_none h n
  rw [hid_ne ne, upd_ne ne]
  exact h
theorem hid_swap {a b : Addr} {H : Hp} : Same (hid a (hid b H)) (hid b (hid a H)) := fun c u h => by
  obtain ⟨n1, h1⟩ := hid_some h
  obtain ⟨n2, h2⟩ := hid_some h1
  rw [hid_ne n2, hid_ne n1]
  exact h2
theorem prs_cap {cap : Nat} : ∀ {ws : List Str} {k : Nat} {acc ns : List Int}, acc.length ≤ cap → prs cap ws k acc = .ok ns → ns.length ≤ cap
  | [], k, acc, ns, ha, h => by
    have h2 : (Except.ok acc : Except Nat (List Int)) = .ok ns := h
    cases h2
    exact ha
  | w :: r, k, acc, ns, ha, h => by
    rw [prs_cons] at h
    by_cases e : acc.length = cap ∨ isPrice w = false
    · rw [if_pos e] at h
      cases h
    · rw [if_neg e] at h
      refine prs_cap ?_ h
      rw [List.length_append, List.length_singleton]
      have : ¬ acc.length = cap := fun z => e (.inl z)
      omega
theorem lineR_len {lns : List Ln} {at_ : Nat} {heads : List Str} {cap mn : Nat} {ns : List Int} (h : lineR lns at_ heads cap mn = .ok ns) : mn ≤ ns.length ∧ ns.length ≤ cap := by
  unfold lineR at h
  cases q : headsR lns at_ heads with
  | error e => rw [q] at h; cases h
  | ok ws =>
    rw [q] at h
    have h2 : (match prs cap (ws.drop heads.length) heads.length [] with
      | .error k => (Except.error (at_, k) : Res (List Int))
      | .ok ns => if ns.length < mn then .error (at_, ws.length) else .ok ns) = .ok ns := h
    cases q2 : prs cap (ws.drop heads.length) heads.length [] with
    | error k => rw [q2] at h2; cases h2
    | ok ms =>
      rw [q2] at h2
      have h3 : (if ms.length < mn then (Except.error (at_, ws.length) : Res (List Int)) else .ok ms) = .ok ns := h2
      by_cases e : ms.length < mn
      · rw [if_pos e] at h3
        cases h3
      · rw [if_neg e] at h3
        cases h3
        exact ⟨by omega, prs_cap (Nat.zero_le _) q2⟩
theorem runE_ok {ε α : Type} {f : Nat → Except ε α} : ∀ {n i : Nat} {l : List α}, runE f i n = .ok l → l.length = n ∧ ∀ x ∈ l, ∃ j, f j = .ok x
  | 0, i, l, h => by
    have h2 : (Except.ok [] : Except ε (List α)) = .ok l := h
    cases h2
    exact ⟨rfl, fun x hx => by cases hx⟩
  | n + 1, i, l, h => by
    rw [runE_succ] at h
    cases q : f i with
    | error e => rw [q] at h; cases h
    | ok a =>
      rw [q] at h
      cases q2 : runE f (i + 1) n with
      | error e => rw [q2] at h; cases h
      | ok r =>
        rw [q2] at h
        cases h
        obtain ⟨h1, h2⟩ := runE_ok q2
        refine ⟨by rw [List.length_cons, h1], fun x hx => ?_⟩
        rcases List.mem_cons.mp hx with rfl | hx
        · exact ⟨i, q⟩
        · exact h2 x hx
theorem asksR_ok {lns : List Ln} {a : Str} (h : asksR lns = .ok a) : isAsks a = true ∧ 1 ≤ a.length ∧ a.length ≤ 4 := by
  unfold asksR at h
  cases q : headsR lns 0 [PySem.Str.ofString "store"] with
  | error e => rw [q] at h; cases h
  | ok ws =>
    rw [q] at h
    have h2 : (match ws[1]? with
      | none => (Except.error (0, 1) : Res Str)
      | some a => if isAsks a = true then (if 2 < ws.length then .error (0, 2) else .ok a) else .error (0, 1)) = .ok a := h
    cases q2 : ws[1]? with
    | none => rw [q2] at h2; cases h2
    | some b =>
      rw [q2] at h2
      have h3 : (if isAsks b = true then (if 2 < ws.length then (Except.error (0, 2) : Res Str) else .ok b) else .error (0, 1)) = .ok a := h2
      by_cases e : isAsks b = true
      · rw [if_pos e] at h3
        by_cases e2 : 2 < ws.length
        · rw [if_pos e2] at h3
          cases h3
        · rw [if_neg e2] at h3
          cases h3
          refine ⟨e, ?_⟩
          unfold isAsks at e
          simp only [Bool.and_eq_true, decide_eq_true_eq] at e
          exact e.1
      · rw [if_neg e] at h3
        cases h3
end Aw
set_option maxHeartbeats 4000000
/-! The package's small defs. -/
namespace Aw
open PySem PySem.Spec PyProof.Rows L2
variable {P : Program} {w : World} {K : PySem.W.Frag} {mg : Str → Option Value} {base : Heap}
/-! ### is_integer, is_listed, integers -/
def spIsInt (K : PySem.W.Frag) : Sp := fun vs H Q _ => ∃ i : Int, vs = [.int i] ∧ Q (.bl true) H
theorem sc_is_integer : FnScope ["thing"] ["thing"] (defScope s_is_integer) := ⟨rfl, rfl, rfl, by decide +kernel, rfl, by decide +kernel, by decide +kernel⟩
theorem ok_is_integer (T : Txt K mg) : DefOk P w K mg base (L2.CX P w) 1 "is_integer" ["thing"] (spIsInt K) := by
  refine def_mk T.fn_is_integer T.g_is_integer sc_is_integer (fun _ _ _ _ _ _ us hl => match us, hl with | [_], _ => rfl) (fun vs H Q E h => ?_) fun cdv A outer s H vs Q E hr h => ⟨_, (pss_one (ps_ret (pe_and (pe_callB call_isi rfl T.f_isinstance boot_isinstance (pa_cons (pv 0) (pa_cons (t_int T) pa_nil))) (pe_one (pe_not (pe_callB call_isi rfl T.f_isinstance boot_isinstance (pa_cons (pv 0) (pa_cons (t_bool T) pa_nil)))))))), ?_⟩
  · obtain ⟨i, rfl, _⟩ := h
    rfl
  · obtain ⟨i, rfl, k⟩ := h
    refine ⟨_, rfl, _, _, _, _, true, rfl, .ty "int", .base (.int i), kit_ty (by decide +kernel), ?_⟩
    refine ⟨_, rfl, ?_⟩
    refine ⟨_, rfl, _, _, _, _, false, rfl, .ty "bool", .base (.int i), kit_ty (by decide +kernel), ?_⟩
    exact ⟨_, rfl, k⟩
/-- what is_listed answers of a value of this type -/
def listedT (t : Value) : Option Bool := if t = .type "tuple" ∨ t = .type "list" then some true else if t = .type "str" ∨ t = .type "NoneType" ∨ t = .type "int" ∨ t = .type "bool" ∨ t = .type "dict" then some false else none
def spListed (K : PySem.W.Frag) : Sp := fun vs H Q _ => ∃ (v : V) (t : Value) (b : Bool), vs = [v] ∧ TyX K H v t ∧ listedT t = some b ∧ ∀ H', Same H H' → Q (.bl b) H'
theorem TyX.same {H H' : Hp} {v : V} {t : Value} (e : Same H H') (h : TyX K H v t) : TyX K H' v t := by
  cases h with
  | base b =>
    refine .base ?_
    cases b with
    | non => exact .non
    | bl x => exact .bl x
    | int i => exact .int i
    | str x => exact .str x
    | flt x => exact .flt x
    | lst h => exact .lst (e _ _ h)
    | frz h => exact .frz (e _ _ h)
    | tup h => exact .tup (e _ _ h)
    | dK h => exact .dK (e _ _ h)
    | dT h => exact .dT (e _ _ h)
    | ins h c a n t m => exact .ins (e _ _ h) c a n t m
  | byt b => exact .byt b
  | set h => exact .set (e _ _ h)
  | kList h c => exact .kList h c
  | kTuple h c => exact .kTuple h c
  | kDict h c => exact .kDict h c
  | fTuple h => exact .fTuple (e _ _ h)
  | fDict h => exact .fDict (e _ _ h)
theorem kit_listed {t : Value} {b : Bool} (h : listedT t = some b) : PySem.W.kitAny K t [.type "tuple", .type "list"] = some b := by
  unfold listedT at h
  by_cases h1 : t = .type "tuple" ∨ t = .type "list"
  · rw [if_pos h1] at h
    cases h
    rcases h1 with rfl | rfl
    · exact kitAny_cons (b := true) (kit_ty (by decide +kernel)) (fun z => nomatch z) (fun _ => rfl)
    · exact kitAny_cons (b := false) (kit_ty (by decide +kernel)) (fun _ => kitAny_cons (b := true) (kit_ty (by decide +kernel)) (fun z => nomatch z) (fun _ => rfl)) (fun z => nomatch z)
  · rw [if_neg h1] at h
    by_cases h2 : t = .type "str" ∨ t = .type "NoneType" ∨ t = .type "int" ∨ t = .type "bool" ∨ t = .type "dict"
    · rw [if_pos h2] at h
      cases h
      rcases h2 with rfl | rfl | rfl | rfl | rfl <;>
        exact kitAny_cons (b := false) (kit_ty (by decide +kernel)) (fun _ => kitAny_cons (b := false) (kit_ty (by decide +kernel)) (fun _ => kitAny_nil) (fun z => nomatch z)) (fun z => nomatch z)
    · rw [if_neg h2] at h
      cases h
theorem sc_is_listed : FnScope ["thing"] ["thing"] (defScope s_is_listed) := ⟨rfl, rfl, rfl, by decide +kernel, rfl, by decide +kernel, by decide +kernel⟩
theorem ok_is_listed (T : Txt K mg) : DefOk P w K mg base (L2.CX P w) 1 "is_listed" ["thing"] (spListed K) := by
  refine def_mk T.fn_is_listed T.g_is_listed sc_is_listed (fun _ _ _ _ _ _ us hl => match us, hl with | [_], _ => rfl) (fun vs H Q E h => ?_) fun cdv A outer s H vs Q E hr h => ⟨_, (pss_one (ps_ret (pe_callB call_isiT rfl T.f_isinstance boot_isinstance (pa_cons (pv 0) (pa_cons (pe_tup (pa_cons (t_tuple T) (pa_cons (t_list T) pa_nil))) pa_nil))))), ?_⟩
  · obtain ⟨v, t, b, rfl, _⟩ := h
    rfl
  · obtain ⟨v, t, b, rfl, ty, e, k⟩ := h
    refine ⟨_, rfl, by show 2 ≤ sizeLine; decide, fun p hp => ?_⟩
    have sm := same_new (o := .tup [.ty "tuple", .ty "list"]) hp
    exact ⟨v, p, _, t, _, b, rfl, upd_same, .cons (.ty "tuple") (.cons (.ty "list") .nil), TyX.same sm ty, kit_listed e, k _ sm⟩
/-- a list of ints, of a known length -/
def spInts (K : PySem.W.Frag) : Sp := fun vs H Q _ => ∃ (a : Addr) (ns : List Int), vs = [.ref a, .int ns.length] ∧ H a = some (.lst (ns.map V.int)) ∧ ∀ H', Same H H' → Q (.bl true) H'
theorem sc_integers : FnScope ["thing", "many", "part"] ["thing", "many"] (defScope s_integers) := ⟨rfl, rfl, rfl, by decide +kernel, rfl, by decide +kernel, by decide +kernel⟩
theorem ok_integers (T : Txt K mg) : DefOk P w K mg base (L2.CX P w) 2 "integers" ["thing", "many"] (spInts K) := by
  refine def_mk T.fn_integers T.g_integers sc_integers (fun _ _ _ _ _ _ us hl => match us, hl with | [_, _], _ => rfl) (fun vs H Q E h => ?_) fun cdv A outer s H vs Q E hr h => ⟨_, (pss_cons (ps_if (PW.pt (pw_or (pt_not (pt_val (pe_dn (ok_is_listed T) (hr.mono (by decide)) (pa_cons (pv 0) pa_nil)))) (pw_or1 (pt_cmpR op_ne (pe_callB call_len_seq rfl T.f_len boot_len (pa_cons (pv 0) pa_nil)) (pv 1) (nomark _)))))
      (pss_one (ps_ret pe_bl))
      pss_nil)
    (pss_cons (ps_for (passes_of rfl) rfl (pi_list (pv 0)) (pg_name (i := 2) sc_integers.nd rfl (.inl rfl))
      (pss_one (ps_if (pt_not (pt_val (pe_dn (ok_is_integer T) (hr.mono (by decide)) (pa_cons (pv 2) pa_nil))))
        (pss_one (ps_ret pe_bl))
        pss_nil)))
    (pss_one (ps_ret pe_bl)))), ?_⟩
  · obtain ⟨a, ns, rfl, _⟩ := h
    rfl
  · obtain ⟨a, ns, rfl, ha, k⟩ := h
    -- if not is_listed(thing) or len(thing) != many: return False
    refine ⟨_, rfl, .ref a, _, true, rfl, .base (.lst ha), rfl, fun H1 s1 => ?_⟩
    refine ⟨_, rfl, ?_⟩
    refine iteF ?_
    refine ⟨_, rfl, a, _, rfl, .inl (SqL.of (s1 _ _ ha)), ?_⟩
    refine ⟨_, rfl, rfl, _, rfl, ?_⟩
    rw [List.length_map]
    refine itF (by simp) ?_
    -- for part in thing
    refine ⟨_, rfl, a, rfl, ⟨_, SqL.of (s1 _ _ ha)⟩, for_list (xs := ns.map V.int) (fun i σ H' => (∃ v, σ = [some (.ref a), some (.int ns.length), v]) ∧ Same H H') ⟨⟨none, rfl⟩, s1⟩ (fun i σ H' _ ⟨_, s2⟩ => SqL.of (s2 _ _ ha)) ?_ ?_⟩
    · rintro i x σ H' hi ⟨⟨v, rfl⟩, s2⟩
      obtain ⟨z, hz, rfl⟩ := map_int_at hi
      refine ⟨_, rfl, z, rfl, ?_⟩
      refine ⟨_, rfl, iteF ?_⟩
      exact ⟨⟨_, rfl⟩, s2⟩
    · rintro σ H' ⟨⟨v, rfl⟩, s2⟩
      exact k H' s2
end Aw
set_option maxHeartbeats 4000000
/-! Tables, asks, deep. -/
namespace Aw
open PySem PySem.Spec PyProof.Rows L2
variable {P : Program} {w : World} {K : PySem.W.Frag} {mg : Str → Option Value} {base : Heap}
/-- a table: so many rows of so many ints -/
def Tab (n : Nat) (d : List (List Int)) : Prop := d.length = n ∧ ∀ r ∈ d, r.length = n
def spTable : Sp := fun vs H Q _ => ∃ (v : V) (n : Nat) (d : List (List Int)), vs = [v, .int n] ∧ LD H 2 d v ∧ Tab n d ∧ ∀ H', Same H H' → Q (.bl true) H'
theorem sc_is_table : FnScope ["thing", "many", "line"] ["thing", "many"] (defScope s_is_table) := ⟨rfl, rfl, rfl, by decide +kernel, rfl, by decide +kernel, by decide +kernel⟩
theorem ok_is_table (T : Txt K mg) : DefOk P w K mg base (L2.CX P w) 3 "is_table" ["thing", "many"] spTable := by
  refine def_mk T.fn_is_table T.g_is_table sc_is_table (fun _ _ _ _ _ _ us hl => match us, hl with | [_, _], _ => rfl) (fun vs H Q E h => ?_) fun cdv A outer s H vs Q E hr h => ⟨_, (pss_cons (ps_if (PW.pt (pw_or (pt_not (pt_val (pe_dn (ok_is_listed T) (hr.mono (by decide)) (pa_cons (pv 0) pa_nil)))) (pw_or1 (pt_cmpR op_ne (pe_callB call_len_seq rfl T.f_len boot_len (pa_cons (pv 0) pa_nil)) (pv 1) (nomark _)))))
      (pss_one (ps_ret pe_bl))
      pss_nil)
    (pss_cons (ps_for (passes_of rfl) rfl (pi_list (pv 0)) (pg_name (i := 2) sc_is_table.nd rfl (.inl rfl))
      (pss_one (ps_if (pt_not (pt_val (pe_dn (ok_integers T) (hr.mono (by decide)) (pa_cons (pv 2) (pa_cons (pv 1) pa_nil)))))
        (pss_one (ps_ret pe_bl))
        pss_nil)))
    (pss_one (ps_ret pe_bl)))), ?_⟩
  · obtain ⟨v, n, d, rfl, _⟩ := h
    rfl
  · obtain ⟨v, n, d, rfl, ⟨a, xs, rfl, ha, pr⟩, ⟨hn, hrow⟩, k⟩ := h
    have hlen : xs.length = n := by rw [← pr.length]; exact hn
    refine ⟨_, rfl, .ref a, _, true, rfl, .base (.lst ha), rfl, fun H1 s1 => ?_⟩
    refine ⟨_, rfl, ?_⟩
    refine iteF ?_
    refine ⟨_, rfl, a, _, rfl, .inl (SqL.of (s1 _ _ ha)), ?_⟩
    refine ⟨_, rfl, rfl, _, rfl, ?_⟩
    rw [hlen]
    refine itF (by simp) ?_
    refine ⟨_, rfl, a, rfl, ⟨_, SqL.of (s1 _ _ ha)⟩, for_list (xs := xs) (fun i σ H' => (∃ v, σ = [some (.ref a), some (.int n), v]) ∧ Same H H') ⟨⟨none, rfl⟩, s1⟩ (fun i σ H' _ ⟨_, s2⟩ => SqL.of (s2 _ _ ha)) ?_ ?_⟩
    · rintro i x σ H' hi ⟨⟨v, rfl⟩, s2⟩
      obtain ⟨row, hrow1, b, ys, rfl, hb, pr2⟩ := paired_at pr hi
      have e := ints_of pr2
      subst e
      have hl := hrow row (List.mem_of_getElem? hrow1)
      refine ⟨_, rfl, _, rfl, b, row, by rw [hl]; rfl, s2 _ _ hb, fun H2 s3 => ?_⟩
      refine ⟨_, rfl, iteF ?_⟩
      exact ⟨⟨_, rfl⟩, s2.trans s3⟩
    · rintro σ H' ⟨⟨v, rfl⟩, s2⟩
      exact k H' s2
def spCosts : Sp := fun vs H Q _ => ∃ (v : V) (s : Str) (n : Nat) (d : List (List (List Int))), vs = [v, .str s, .int n] ∧ s.length ≤ 4 ∧ LD H 3 d v ∧ d.length = s.length ∧ (∀ t ∈ d, Tab n t) ∧ ∀ H', Same H H' → Q (.bl true) H'
theorem sc_are_costs : FnScope ["thing", "asks", "many", "table"] ["thing", "asks", "many"] (defScope s_are_costs) := ⟨rfl, rfl, rfl, by decide +kernel, rfl, by decide +kernel, by decide +kernel⟩
theorem ok_are_costs (T : Txt K mg) : DefOk P w K mg base (L2.CX P w) 4 "are_costs" ["thing", "asks", "many"] spCosts := by
  refine def_mk T.fn_are_costs T.g_are_costs sc_are_costs (fun _ _ _ _ _ _ us hl => match us, hl with | [_, _, _], _ => rfl) (fun vs H Q E h => ?_) fun cdv A outer s H vs Q E hr h => ⟨_, (pss_cons (ps_if (PW.pt (pw_or (pt_not (pt_val (pe_dn (ok_is_listed T) (hr.mono (by decide)) (pa_cons (pv 0) pa_nil)))) (pw_or1 (pt_cmpR op_ne (pe_callB call_len_seq rfl T.f_len boot_len (pa_cons (pv 0) pa_nil)) (pe_callB call_len_str rfl T.f_len boot_len (pa_cons (pv 1) pa_nil)) (nomark _)))))
      (pss_one (ps_ret pe_bl))
      pss_nil)
    (pss_cons (ps_for (passes_of rfl) rfl (pi_list (pv 0)) (pg_name (i := 3) sc_are_costs.nd rfl (.inl rfl))
      (pss_one (ps_if (pt_not (pt_val (pe_dn (ok_is_table T) (hr.mono (by decide)) (pa_cons (pv 3) (pa_cons (pv 2) pa_nil)))))
        (pss_one (ps_ret pe_bl))
        pss_nil)))
    (pss_one (ps_ret pe_bl)))), ?_⟩
  · obtain ⟨v, z, n, d, rfl, _⟩ := h
    rfl
  · obtain ⟨v, z, n, d, rfl, hz, ⟨a, xs, rfl, ha, pr⟩, hn, htab, k⟩ := h
    have hlen : xs.length = z.length := by rw [← pr.length]; exact hn
    refine ⟨_, rfl, .ref a, _, true, rfl, .base (.lst ha), rfl, fun H1 s1 => ?_⟩
    refine ⟨_, rfl, ?_⟩
    refine iteF ?_
    refine ⟨_, rfl, a, _, rfl, .inl (SqL.of (s1 _ _ ha)), ?_⟩
    refine ⟨_, rfl, z, rfl, Nat.le_trans hz (by decide), ?_⟩
    refine ⟨rfl, _, rfl, ?_⟩
    rw [hlen]
    refine itF (by simp) ?_
    refine ⟨_, rfl, a, rfl, ⟨_, SqL.of (s1 _ _ ha)⟩, for_list (xs := xs) (fun i σ H' => (∃ v, σ = [some (.ref a), some (.str z), some (.int n), v]) ∧ Same H H') ⟨⟨none, rfl⟩, s1⟩ (fun i σ H' _ ⟨_, s2⟩ => SqL.of (s2 _ _ ha)) ?_ ?_⟩
    · rintro i x σ H' hi ⟨⟨v, rfl⟩, s2⟩
      obtain ⟨tab, ht1, ht2⟩ := paired_at pr hi
      refine ⟨_, rfl, _, rfl, x, n, tab, rfl, LD.same s2 ht2, htab tab (List.mem_of_getElem? ht1), fun H2 s3 => ?_⟩
      refine ⟨_, rfl, iteF ?_⟩
      exact ⟨⟨_, rfl⟩, s2.trans s3⟩
    · rintro σ H' ⟨⟨v, rfl⟩, s2⟩
      exact k H' s2
/-! ### is_asks, check_asks -/
def spIsAsks : Sp := fun vs H Q _ => ∃ s : Str, vs = [.str s] ∧ s.length ≤ 100000 ∧ Q (.bl (isAsks s)) H
theorem sc_is_asks : FnScope ["thing", "last", "letter", "place"] ["thing"] (defScope s_is_asks) := ⟨rfl, rfl, rfl, by decide +kernel, rfl, by decide +kernel, by decide +kernel⟩
theorem ok_is_asks (T : Txt K mg) : DefOk P w K mg base (L2.CX P w) 1 "is_asks" ["thing"] spIsAsks := by
  refine def_mk T.fn_is_asks T.g_is_asks sc_is_asks (fun _ _ _ _ _ _ us hl => match us, hl with | [_], _ => rfl) (fun vs H Q E h => ?_) fun cdv A outer s H vs Q E hr h => ⟨_, (pss_cons (ps_if (PW.pt (pw_or (pt_not (pt_val (pe_callB call_isi rfl T.f_isinstance boot_isinstance (pa_cons (pv 0) (pa_cons (t_str T) pa_nil))))) (pw_or1 (pt_not (pt_chain op_le op_le pe_int (pe_callB call_len_str rfl T.f_len boot_len (pa_cons (pv 0) pa_nil)) pe_int)))))
      (pss_one (ps_ret pe_bl))
      pss_nil)
    (pss_cons (ps_set (i := 1) sc_is_asks.nd rfl (Or.inl rfl) (pe_un un_neg pe_int))
    (pss_cons (ps_for (passes_of rfl) rfl (pi_str (pv 0)) (pg_name (i := 2) sc_is_asks.nd rfl (.inl rfl))
      (pss_cons (ps_set (i := 3) sc_is_asks.nd rfl (Or.inl rfl) (pe_m1 PySem.F.slot_str_find PySem.F.type_str_find mt_find (c_LETTERS T) (pv 2)))
      (pss_cons (ps_if (pt_cmpR op_le (pv 3) (pv 1) (nomark _))
        (pss_one (ps_ret pe_bl))
        pss_nil)
      (pss_one (ps_set (i := 1) sc_is_asks.nd rfl (Or.inl rfl) (pv 3))))))
    (pss_one (ps_ret pe_bl))))), ?_⟩
  · obtain ⟨z, rfl, _⟩ := h
    rfl
  · obtain ⟨z, rfl, hz, k⟩ := h
    refine ⟨_, rfl, _, _, _, _, true, rfl, .ty "str", .base (.str z), kit_ty (by decide +kernel), ?_⟩
    refine ⟨_, rfl, iteF ?_⟩
    have hz2 : z.length ≤ sizeLine := Nat.le_trans hz (by decide)
    refine ⟨_, rfl, z, rfl, hz2, _, _, rfl, rfl, _, rfl, it2 (fun h1 => ?_) (fun h1 => ?_)⟩
    · refine ⟨_, _, rfl, rfl, _, rfl, it2 (fun h2 => ?_) (fun h2 => ?_)⟩
      · -- not in form
        have e : isAsks z = false := by
          unfold isAsks
          have : ¬ z.length ≤ 4 := by simp at h2; omega
          simp [this]
        rw [e] at k
        exact k
      · refine ⟨_, rfl, ?_⟩
        have hall : isAsks z = ascF (-1) z.cps.toList := by
          unfold isAsks
          have h3 : 1 ≤ z.length := by simp at h1; omega
          have h4 : z.length ≤ 4 := by simp at h2; omega
          simp [h3, h4]
        rw [hall] at k
        refine ⟨_, rfl, z, rfl, for_it walk_str (fun i σ H' => H' = H ∧ ∃ (l : Int) (v1 v2 : Option V), σ = [some (.str z), some (.int l), v1, v2] ∧ ascF (-1) z.cps.toList = ascF l (z.cps.toList.drop i)) ⟨rfl, -1, none, none, rfl, rfl⟩ (fun _ _ _ _ _ => trivial) ?_ ?_⟩
        · rintro i x σ H1 H2 hi ⟨rfl, l, v1, v2, rfl, e⟩ ⟨rfl, c, hc, rfl⟩
          have hc2 : z.cps.toList[i]? = some c := by rw [Array.getElem?_toList]; exact hc
          rw [drop_at hc2] at e
          refine ⟨⟨_, rfl⟩, _, rfl, _, _, rfl, rfl, ?_⟩
          refine ⟨_, rfl, _, rfl, _, _, rfl, rfl, _, rfl, it2 (fun h3 => ?_) (fun h3 => ?_)⟩
          · have h4 : place c ≤ l := of_decide_eq_true h3
            rw [ascF_cons, if_pos h4] at e
            rw [e] at k
            exact k
          · have h4 : ¬ place c ≤ l := of_decide_eq_false h3
            rw [ascF_cons, if_neg h4] at e
            exact ⟨_, rfl, rfl, place c, _, _, rfl, e⟩
        · rintro σ H1 ⟨rfl, l, v1, v2, rfl, e⟩
          rw [List.drop_of_length_le (by simp)] at e
          rw [e] at k
          exact k
    · refine ⟨_, rfl, ?_⟩
      have e : isAsks z = false := by
        unfold isAsks
        have : ¬ 1 ≤ z.length := by simp at h1; omega
        simp [this]
      rw [e] at k
      exact k
/-- or BadAsks -/
def spCheckAsks (K : PySem.W.Frag) : Sp := fun vs H Q E => ∃ s : Str, vs = [.str s] ∧ s.length ≤ 100000 ∧ (isAsks s = true → Q .non H) ∧ (isAsks s = false → ∀ d H', H d = none → Same H H' → E (.ref (He.ga K "BadAsks")) (some d) H')
theorem sc_check_asks : FnScope ["thing"] ["thing"] (defScope s_check_asks) := ⟨rfl, rfl, rfl, by decide +kernel, rfl, by decide +kernel, by decide +kernel⟩
theorem ok_check_asks (T : Txt K mg) : DefOk P w K mg base (L2N.CX P w) 4 "check_asks" ["thing"] (spCheckAsks K) := by
  refine def_mk T.fn_check_asks T.g_check_asks sc_check_asks (fun _ _ _ _ _ _ us hl => match us, hl with | [_], _ => rfl) (fun vs H Q E h => ?_) fun cdv A outer s H vs Q E hr h => ⟨_, (pss_one (ps_if (pt_not (pt_val (pe_dn (ok_is_asks T) (hr.mono (by decide)) (pa_cons (pv 0) pa_nil))))
      (pss_one (ps_BA T rfl (hr.mono (by decide)) (L2N.takes_of rfl rfl rfl rfl) (pa_cons (pv 0) pa_nil)))
      pss_nil)), ?_⟩
  · obtain ⟨z, rfl, _⟩ := h
    rfl
  · obtain ⟨z, rfl, hz, k1, k2⟩ := h
    refine ⟨_, rfl, z, rfl, hz, ?_⟩
    refine ⟨_, rfl, ?_⟩
    cases e : isAsks z with
    | true => exact iteF (k1 e)
    | false => exact iteT ⟨_, rfl, _, rfl, fun d H' hd sm _ => k2 e d H' hd sm⟩
/-! ### is_price -/
def spIsPrice : Sp := fun vs H Q _ => ∃ s : Str, vs = [.str s] ∧ s.length ≤ 100000 ∧ Q (.bl (isPrice s)) H
theorem sc_is_price : FnScope ["word", "figures", "sign"] ["word"] (defScope s_is_price) := ⟨rfl, rfl, rfl, by decide +kernel, rfl, by decide +kernel, by decide +kernel⟩
theorem ok_is_price (T : Txt K mg) : DefOk P w K mg base (L2.CX P w) 1 "is_price" ["word"] spIsPrice := by
  refine def_mk T.fn_is_price T.g_is_price sc_is_price (fun _ _ _ _ _ _ us hl => match us, hl with | [_], _ => rfl) (fun vs H Q E h => ?_) fun cdv A outer s H vs Q E hr h => ⟨_, (pss_cons (ps_set (i := 1) sc_is_price.nd rfl (Or.inl rfl) (pe_ifExp (pt_cmpR op_eq (pe_slice sl_str (pv 0) po_none (po_some pe_int)) pe_str (nomark _)) (pe_slice sl_str (pv 0) (po_some pe_int) po_none) (pv 0)))
    (pss_cons (ps_if (PW.pt (pw_or (pt_cmpR op_eq (pv 1) pe_str (nomark _)) (pw_or1 (pt_cmpR op_gt (pe_callB call_len_str rfl T.f_len boot_len (pa_cons (pv 1) pa_nil)) pe_int (nomark _)))))
      (pss_one (ps_ret pe_bl))
      pss_nil)
    (pss_cons (ps_for (passes_of rfl) rfl (pi_str (pv 1)) (pg_name (i := 2) sc_is_price.nd rfl (.inl rfl))
      (pss_one (ps_if (pt_cmpR op_notIn_sign (pv 2) (c_FIGURES T) rfl)
        (pss_one (ps_ret pe_bl))
        pss_nil)))
    (pss_cons (ps_if (pt_cmpR op_eq (pe_ix ix_str (pv 1) pe_int (fun _ _ => rfl)) pe_str (nomark _))
      (pss_one (ps_ret (pe_cmpR op_eq (pv 0) pe_str (nomark _))))
      pss_nil)
    (pss_one (ps_ret pe_bl)))))), ?_⟩
  · obtain ⟨z, rfl, _⟩ := h
    rfl
  · obtain ⟨z, rfl, hz, k⟩ := h
    have hz2 : z.length ≤ sizeLine := Nat.le_trans hz (by decide)
    -- figures
    have main : ∀ y : Str, y = figP z → y.length ≤ z.length → (tSeq (tIfS (tOr (tTest (tOp rEq (tVar 1) (tC (.str (PySem.Str.ofString ""))))) (tTest (tOp (rI0 fun i j => .bl (decide (j < i))) (tCB (fun xs H Q => ∃ z, xs = [V.str z] ∧ z.length ≤ sizeLine ∧ Q (.int z.length) H) (tCons (tVar 1) tNil)) (tC (.int 60)))))
        (tRet (tC (.bl false))) tNext) (tSeq (tFor (iStr (tVar 1)) (gName 2) (tIfS (tTest (tOp (fun x y H Q => ∃ (c : Nat) (z : Str), x = .str ⟨#[c]⟩ ∧ y = .str z ∧ Q (.bl (!decide (c ∈ z.cps.toList))) H) (tVar 2) (tC (.str (PySem.Str.ofString "0123456789"))))) (tRet (tC (.bl false))) tNext))
        (tSeq (tIfS (tTest (tOp rEq (tOp rIxS (tVar 1) (tC (.int 0))) (tC (.str (PySem.Str.ofString "0"))))) (tRet (tOp rEq (tVar 0) (tC (.str (PySem.Str.ofString "0"))))) tNext) (tRet (tC (.bl true))))))
        { nx := fun _ H' => Q .non H', rt := Q } [some (.str z), some (.str y), none] H := by
      rintro y rfl hy
      have hy2 : (figP z).length ≤ sizeLine := Nat.le_trans hy hz2
      refine ⟨_, rfl, rfl, _, rfl, it2 (fun h1 => ?_) (fun h1 => ?_)⟩
      · have h2 : figP z = Str.empty := V.str.inj (of_decide_eq_true h1)
        rw [show isPrice z = false from if_pos (.inl h2)] at k
        exact k
      · have h2 : ¬ figP z = Str.empty := fun e => of_decide_eq_false h1 (congrArg V.str e)
        refine ⟨_, rfl, _, rfl, hy2, _, _, rfl, rfl, _, rfl, it2 (fun h3 => ?_) (fun h3 => ?_)⟩
        · have h4 : 60 < (figP z).length := by
            have := of_decide_eq_true h3
            omega
          rw [show isPrice z = false from if_pos (.inr h4)] at k
          exact k
        · have h4 : ¬ 60 < (figP z).length := by
            have := of_decide_eq_false h3
            omega
          have e : isPrice z = if (figP z).cps.toList.all dig then (if (figP z).cps.toList.head? = some 48 then decide (z = PySem.Str.ofString "0") else true) else false := if_neg (fun h => h.elim h2 h4)
          refine ⟨_, rfl, _, rfl, for_it walk_str (fun i σ H' => H' = H ∧ (∃ v, σ = [some (.str z), some (.str (figP z)), v]) ∧ ((figP z).cps.toList.take i).all dig = true) ⟨rfl, ⟨none, rfl⟩, rfl⟩ (fun _ _ _ _ _ => trivial) ?_ ?_⟩
          · rintro i x σ H1 H2 hi ⟨rfl, ⟨v, rfl⟩, ha⟩ ⟨rfl, c, hc, rfl⟩
            have hc2 : (figP z).cps.toList[i]? = some c := by rw [Array.getElem?_toList]; exact hc
            refine ⟨_, rfl, c, _, rfl, rfl, _, rfl, it2 (fun h5 => ?_) (fun h5 => ?_)⟩
            · have h6 : dig c = false := by simpa [dig] using h5
              have h7 : (figP z).cps.toList.all dig = false := by
                rw [List.all_eq_false]
                exact ⟨c, List.mem_of_getElem? hc2, by rw [h6]; decide⟩
              rw [e, h7] at k
              exact k
            · have h6 : dig c = true := by simpa [dig] using h5
              refine ⟨rfl, ⟨_, rfl⟩, ?_⟩
              rw [take_succ_at hc2, List.all_append, ha]
              simp [h6]
          · rintro σ H1 ⟨rfl, ⟨v, rfl⟩, ha⟩
            rw [List.take_of_length_le (by simp)] at ha
            rw [ha, if_pos rfl] at e
            obtain ⟨c, r, ec⟩ : ∃ c r, (figP z).cps.toList = c :: r := by
              cases q : (figP z).cps.toList with
              | nil => exact absurd (empty_of.mpr q) h2
              | cons c r => exact ⟨c, r, rfl⟩
            refine ⟨_, rfl, _, _, c, rfl, rfl, hy2, by rw [ec]; exact atI_nat (j := 0) rfl, rfl, _, rfl, ?_⟩
            have es := sign_eq c 48 (PySem.Str.ofString "0") (by decide +kernel)
            rw [ec] at e
            refine it2 (fun h5 => ?_) (fun h5 => ?_)
            · rw [es] at h5
              have h6 : c = 48 := of_decide_eq_true h5
              subst h6
              rw [e] at k
              refine ⟨_, rfl, rfl, ?_⟩
              have e3 : decide (V.str z = V.str (PySem.Str.ofString "0")) = decide (z = PySem.Str.ofString "0") := by
                by_cases q : z = PySem.Str.ofString "0"
                · subst q
                  rfl
                · rw [decide_eq_false q, decide_eq_false (fun x => q (V.str.inj x))]
              show Q (.bl (decide (V.str z = V.str (PySem.Str.ofString "0")))) _
              rw [e3]
              exact k
            · rw [es] at h5
              have h6 : ¬ c = 48 := of_decide_eq_false h5
              have h7 : ¬ ((c :: r).head? = some 48) := by simpa using h6
              rw [if_neg h7] at e
              rw [e] at k
              exact k
    refine ⟨_, rfl, _, rfl, z, rfl, hz2, rfl, _, rfl, it2 (fun h1 => ?_) (fun h1 => ?_)⟩
    · refine ⟨_, rfl, _, rfl, z, rfl, hz2, ?_⟩
      exact main _ (if_pos (of_decide_eq_true h1)).symm (cutS_length _ _ _)
    · refine ⟨_, rfl, ?_⟩
      exact main _ (if_neg (of_decide_eq_false h1)).symm (Nat.le_refl _)
end Aw
set_option maxHeartbeats 4000000
/-! The package's readers of lines. -/
namespace Aw
open PySem PySem.Spec PyProof.Rows L2
variable {P : Program} {w : World} {K : PySem.W.Frag} {mg : Str → Option Value} {base : Heap}
/-- the wish of a BadLine(i, j) -/
def ErrBL (K : PySem.W.Frag) (E : XK) (H : Hp) (i j : Nat) : Prop := ∀ d H', H d = none → Same H H' → H' d = some (.xd [(("word" : Str), V.int j), (("line" : Str), V.int i)]) → E (.ref (He.ga K "BadLine")) (some d) H'
theorem ErrBL.same {E : XK} {H H' : Hp} {i j : Nat} (h : ErrBL K E H i j) (s : Same H H') : ErrBL K E H' i j := fun d H2 hd s2 e => h d H2 (s.free hd) (s.trans s2) e
/-- the wish of a new list -/
def RetNew (Q : VK) (H : Hp) (xs : List V) : Prop := ∀ p H', H p = none → Same H H' → H' p = some (.lst xs) → Q (.ref p) H'
theorem RetNew.same {Q : VK} {H H' : Hp} {xs : List V} (h : RetNew Q H xs) (s : Same H H') : RetNew Q H' xs := fun d H2 hd s2 e => h d H2 (s.free hd) (s.trans s2) e
/-- is a line no text -/
theorem ln_ty {Z : Addr → Prop} {H : Hp} {ln : Ln} {v : V} (h : LnV Z H ln v) : ∃ t, TyX K H v t ∧ PySem.W.kitOne K t (.type "str") = some ln.isSome := by
  cases ln with
  | some s =>
    obtain rfl : v = .str s := h
    exact ⟨_, .base (.str s), kit_ty (show kitB "str" "str" = some true by decide +kernel)⟩
  | none =>
    rcases h with rfl | rfl | rfl | ⟨a, xs, rfl, _, h | h⟩
    · exact ⟨_, .base .non, kit_ty (by decide +kernel)⟩
    · exact ⟨_, .base (.int 5), kit_ty (by decide +kernel)⟩
    · exact ⟨_, .base (.bl true), kit_ty (by decide +kernel)⟩
    · exact ⟨_, .base (.lst h), kit_ty (by decide +kernel)⟩
    · exact ⟨_, .base (.tup h), kit_ty (by decide +kernel)⟩
def spWordsOf (K : PySem.W.Frag) : Sp := fun vs H Q E => ∃ (l : Addr) (at_ : Nat) (lns : List Ln), vs = [.ref l, .int at_] ∧ at_ ≤ 1000000 ∧ Lines Any H l lns ∧ Small lns ∧
  (wordsOf lns at_ = none → ErrBL K E H at_ 0) ∧ ∀ ws, wordsOf lns at_ = some ws → RetNew Q H (ws.map V.str)
theorem sc_words_of : FnScope ["lines", "at"] ["lines", "at"] (defScope s_words_of) := ⟨rfl, rfl, rfl, by decide +kernel, rfl, by decide +kernel, by decide +kernel⟩
theorem ok_words_of (T : Txt K mg) : DefOk P w K mg base (L2.CX P w) 4 "words_of" ["lines", "at"] (spWordsOf K) := by
  refine def_mk T.fn_words_of T.g_words_of sc_words_of (fun _ _ _ _ _ _ us hl => match us, hl with | [_, _], _ => rfl) (fun vs H Q E h => ?_) fun cdv A outer s H vs Q E hr h => ⟨_, (pss_cons (ps_if (PW.pt (pw_or (pt_cmpR op_ge (pv 1) (pe_callB call_len_seq rfl T.f_len boot_len (pa_cons (pv 0) pa_nil)) (nomark _)) (pw_or1 (pt_not (pt_val (pe_callB call_isi rfl T.f_isinstance boot_isinstance (pa_cons (pe_ix ix_list (pv 0) (pv 1) (fun _ _ => rfl)) (pa_cons (t_str T) pa_nil))))))))
      (pss_one (ps_BL T rfl (hr.mono (by decide)) (takes_of rfl rfl rfl rfl) (pa_cons (pv 1) (pa_cons pe_int pa_nil))))
      pss_nil)
    (pss_one (ps_ret (pe_split (pe_ix ix_list (pv 0) (pv 1) (fun _ _ => rfl)) pe_str)))), ?_⟩
  · obtain ⟨l, at_, lns, rfl, _⟩ := h
    rfl
  · obtain ⟨l, at_, lns, rfl, hat, ⟨xs, hl, pr⟩, ⟨hs1, hs2⟩, k1, k2⟩ := h
    have hlen := pr.length
    have err : wordsOf lns at_ = none → tBL (He.ga K "BadLine") (fun cls d _ H => E cls d H) (tCons (tVar 1) (tCons (tC (.int 0)) tNil)) { nx := fun _ H' => Q .non H', rt := Q } (start ["lines", "at"] [.ref l, .int at_]) H := fun e =>
      ⟨_, rfl, _, _, rfl, fun d H' hd sm hx => k1 e d H' hd sm hx⟩
    refine ⟨_, rfl, _, rfl, l, xs, rfl, .inl (SqL.of hl), _, _, rfl, rfl, _, rfl, it2 (fun h1 => ?_) (fun h1 => ?_)⟩
    · have h2 : lns[at_]? = none := List.getElem?_eq_none (by have := of_decide_eq_true h1; omega)
      exact err (by unfold wordsOf; rw [h2])
    · have h2 : at_ < xs.length := by have := of_decide_eq_false h1; omega
      obtain ⟨v, hv⟩ : ∃ v, xs[at_]? = some v := ⟨xs[at_], by simp [h2]⟩
      obtain ⟨ln, hln, lv⟩ := paired_at pr hv
      obtain ⟨t, ty, kit⟩ := ln_ty (K := K) lv
      refine ⟨_, rfl, _, rfl, l, xs, _, v, rfl, rfl, SqL.of hl, atI_nat hv, v, _, t, _, ln.isSome, rfl, .ty "str", ty, kit, ?_⟩
      refine ⟨_, rfl, ?_⟩
      cases ln with
      | none => exact iteT (err (by unfold wordsOf; rw [hln]))
      | some z =>
        obtain rfl : v = .str z := lv
        have hz := hs2 z (List.mem_of_getElem? hln)
        refine iteF ⟨_, rfl, _, rfl, l, xs, _, _, rfl, rfl, SqL.of hl, atI_nat hv, ⟨z, rfl⟩, z, SP, rfl, rfl, by decide +kernel, ?_, fun p hp => ?_⟩
        · rw [sizeLine_eq]
          omega
        · exact k2 (Txt.split z SP) (by unfold wordsOf; rw [hln]) p _ hp (same_new hp) upd_same
theorem words_small {lns : List Ln} {at_ : Nat} {ws : List Str} (hs : Small lns) (h : wordsOf lns at_ = some ws) : wl ws ≤ 10001 ∧ 1 ≤ ws.length := by
  unfold wordsOf at h
  split at h
  · rename_i z hz
    cases h
    rw [split_wl]
    have := hs.2 z (List.mem_of_getElem? hz)
    exact ⟨by omega, split_pos z⟩
  · cases h
def spHeads (K : PySem.W.Frag) : Sp := fun vs H Q E => ∃ (l hd : Addr) (at_ : Nat) (lns : List Ln) (heads : List Str), vs = [.ref l, .int at_, .ref hd] ∧ at_ ≤ 1000000 ∧ Lines Any H l lns ∧ Small lns ∧ H hd = some (.lst (heads.map V.str)) ∧
  (∀ i j, headsR lns at_ heads = .error (i, j) → ErrBL K E H i j) ∧ ∀ ws, headsR lns at_ heads = .ok ws → RetNew Q H (ws.map V.str)
theorem dec_strs (a b : Str) : decide (V.str a = V.str b) = decide (a = b) := by
  by_cases e : a = b
  · subst e
    simp
  · rw [decide_eq_false e, decide_eq_false (fun h => e (V.str.inj h))]
theorem sc_heads_read : FnScope ["lines", "at", "heads", "words", "k", "head"] ["lines", "at", "heads"] (defScope s_heads_read) := ⟨rfl, rfl, rfl, by decide +kernel, rfl, by decide +kernel, by decide +kernel⟩
theorem ok_heads_read (T : Txt K mg) : DefOk P w K mg base (L2.CX P w) 6 "heads_read" ["lines", "at", "heads"] (spHeads K) := by
  refine def_mk T.fn_heads_read T.g_heads_read sc_heads_read (fun _ _ _ _ _ _ us hl => match us, hl with | [_, _, _], _ => rfl) (fun vs H Q E h => ?_) fun cdv A outer s H vs Q E hr h => ⟨_, (pss_cons (ps_set (i := 3) sc_heads_read.nd rfl (Or.inl rfl) (pe_d (ok_words_of T) (hr.mono (by decide)) (passes_call (takes_of rfl rfl rfl rfl) (fun _ _ _ _ h => h)) (pa_cons (pv 0) (pa_cons (pv 1) pa_nil))))
    (pss_cons (ps_for (passes_of rfl) rfl (pi_enum rfl T.f_enumerate (pa_cons (pv 2) pa_nil)) (pg_tup rfl (pgs_cons (pg_name (i := 4) sc_heads_read.nd rfl (.inl rfl)) (pgs_cons (pg_name (i := 5) sc_heads_read.nd rfl (.inl rfl)) pgs_nil)))
      (pss_one (ps_if (PW.pt (pw_or (pt_cmpR op_ge (pv 4) (pe_callB call_len_seq rfl T.f_len boot_len (pa_cons (pv 3) pa_nil)) (nomark _)) (pw_or1 (pt_cmpR op_ne (pe_ix ix_list (pv 3) (pv 4) (fun _ _ => rfl)) (pv 5) (nomark _)))))
        (pss_one (ps_BL T rfl (hr.mono (by decide)) (takes_of rfl rfl rfl rfl) (pa_cons (pv 1) (pa_cons (pv 4) pa_nil))))
        pss_nil)))
    (pss_one (ps_ret (pv 3))))), ?_⟩
  · obtain ⟨l, hd, at_, lns, heads, rfl, _⟩ := h
    rfl
  · obtain ⟨l, hd, at_, lns, heads, rfl, hat, hL, hS, hh, k1, k2⟩ := h
    refine ⟨_, rfl, _, rfl, l, at_, lns, rfl, hat, hL, hS, fun e => ?_, fun ws e => ?_⟩
    · refine k1 at_ 0 ?_
      unfold headsR
      rw [e]
    intro p H1 hp s1 hp1
    obtain ⟨wz, wz1⟩ := words_small hS e
    have e2 : headsR lns at_ heads = match hb ws heads 0 with | some k => .error (at_, k) | none => .ok ws := by
      unfold headsR
      rw [e] <;> rfl
    rw [e2] at k1 k2
    have hx : (heads.map V.str).length = heads.length := List.length_map ..
    refine ⟨_, rfl, hd, _, rfl, SqL.of (s1 _ _ hh), for_it (walk_enum (xs := heads.map V.str)) (fun i σ H' => (∃ v1 v2, σ = [some (.ref l), some (.int at_), some (.ref hd), some (.ref p), v1, v2]) ∧ Same H1 H' ∧ hb ws heads 0 = hb (ws.drop i) (heads.drop i) i) ⟨⟨none, none, rfl⟩, Same.refl _, rfl⟩ (fun i σ H' _ ⟨_, s2, _⟩ => SqL.of (s2 _ _ (s1 _ _ hh))) ?_ ?_⟩
    · rintro i x σ H2 H3 hi ⟨⟨v1, v2, rfl⟩, s2, inv⟩ ⟨T', x1, x2, rfl, hT, rfl, e3, e4⟩
      cases e3
      obtain ⟨h, hh1, rfl⟩ : ∃ h, heads[i]? = some h ∧ x2 = V.str h := by
        have e5 : (heads.map V.str)[i]? = some x2 := e4
        rw [List.getElem?_map] at e5
        obtain ⟨z, z1, z2⟩ := Option.map_eq_some_iff.mp e5
        exact ⟨z, z1, z2.symm⟩
      have s3 := s2.trans (same_new (o := .tup [.int (i : Nat), V.str h]) hT)
      have hp3 := s3 _ _ hp1
      rw [drop_at hh1] at inv
      refine ⟨T', _, rfl, SqT.of upd_same, rfl, _, _, rfl, _, _, rfl, rfl, ?_⟩
      have bad : hb ws heads 0 = some i → tBL (He.ga K "BadLine") (fun cls d _ H => E cls d H) (tCons (tVar 1) (tCons (tVar 4) tNil)) { nx := fun _ _ => True, rt := Q } [some (.ref l), some (.int at_), some (.ref hd), some (.ref p), some (.int (i : Nat)), some (.str h)] (upd H2 T' (.tup [.int (i : Nat), V.str h])) := fun q =>
        ⟨_, rfl, _, rfl, _, _, rfl, fun d H' hd2 sm hx2 => by
          refine (ErrBL.same (k1 at_ i ?_) (s1.trans s3)) d H' hd2 sm hx2
          rw [q]⟩
      refine ⟨_, rfl, _, rfl, p, _, rfl, .inl (SqL.of hp3), _, _, rfl, rfl, _, rfl, it2 (fun h1 => ?_) (fun h1 => ?_)⟩
      · have h2 : ws.length ≤ i := by
          have := of_decide_eq_true h1
          rw [List.length_map] at this
          omega
        rw [List.drop_of_length_le h2] at inv
        exact bad inv
      · have h2 : i < ws.length := by
          have := of_decide_eq_false h1
          rw [List.length_map] at this
          omega
        obtain ⟨wd, hw⟩ : ∃ wd, ws[i]? = some wd := ⟨ws[i], by simp [h2]⟩
        rw [drop_at hw] at inv
        refine ⟨_, rfl, _, rfl, p, _, _, V.str wd, rfl, rfl, SqL.of hp3, atI_nat (by rw [List.getElem?_map, hw]; rfl), _, rfl, rfl, _, rfl, ?_⟩
        rw [dec_strs]
        by_cases q : wd = h
        · refine itF (by simp [q]) ?_
          refine ⟨⟨_, _, rfl⟩, s3, ?_⟩
          rw [inv]
          show (if wd = h then hb (ws.drop (i + 1)) (heads.drop (i + 1)) (i + 1) else some i) = _
          rw [if_pos q]
        · refine itT (by simp [q]) (bad ?_)
          rw [inv]
          show (if wd = h then hb (ws.drop (i + 1)) (heads.drop (i + 1)) (i + 1) else some i) = _
          rw [if_neg q]
    · rintro σ H2 ⟨⟨v1, v2, rfl⟩, s2, inv⟩
      rw [hx, List.drop_of_length_le (Nat.le_refl heads.length)] at inv
      have inv2 : hb ws heads 0 = none := by
        rw [inv]
        cases ws.drop heads.length <;> rfl
      rw [inv2] at k2
      exact ⟨_, rfl, k2 ws rfl p H2 hp (s1.trans s2) (s2 _ _ hp1)⟩
/-! ### prices_read -/
def Many (v : V) (cap mn : Nat) : Prop := (v = .non ∧ cap = 1000 ∧ mn = 1) ∨ (v = .int cap ∧ mn = cap ∧ cap ≤ 1000)
theorem many_val {v : V} {cap mn c : Nat} {σ : L2.St} {H : Hp} {Q : VK} (hm : Many v cap mn) (hσ : σ[3]? = some (some v)) (hc : v = .non → c = cap) (q : Q (.int cap) H) :
    tIf (tTest (tOp (fun x y H Q => y = V.non ∧ Q (.bl (decide (x = .non))) H) (tVar 3) (tC .non))) (tC (.int c)) (tVar 3) σ H Q := by
  rcases hm with ⟨rfl, h1, h2⟩ | ⟨rfl, h1, h2⟩
  · rw [← hc rfl] at q
    exact ⟨_, hσ, rfl, _, rfl, itT (by simp) q⟩
  · exact ⟨_, hσ, rfl, _, rfl, itF (by simp) ⟨_, hσ, q⟩⟩
theorem many_val2 {v : V} {cap mn c : Nat} {σ : L2.St} {H : Hp} {Q : VK} (hm : Many v cap mn) (hσ : σ[3]? = some (some v)) (hc : v = .non → c = mn) (q : Q (.int mn) H) :
    tIf (tTest (tOp (fun x y H Q => y = V.non ∧ Q (.bl (decide (x = .non))) H) (tVar 3) (tC .non))) (tC (.int c)) (tVar 3) σ H Q := by
  rcases hm with ⟨rfl, h1, h2⟩ | ⟨rfl, h1, h2⟩
  · rw [← hc rfl] at q
    exact ⟨_, hσ, rfl, _, rfl, itT (by simp) q⟩
  · rw [h1] at q
    exact ⟨_, hσ, rfl, _, rfl, itF (by simp) ⟨_, hσ, q⟩⟩
def spPrices (K : PySem.W.Frag) : Sp := fun vs H Q E => ∃ (l hd : Addr) (at_ : Nat) (lns : List Ln) (heads : List Str) (m : V) (cap mn : Nat), vs = [.ref l, .int at_, .ref hd, m] ∧ at_ ≤ 1000000 ∧ Lines Any H l lns ∧ Small lns ∧ H hd = some (.lst (heads.map V.str)) ∧ Many m cap mn ∧
  (∀ i j, lineR lns at_ heads cap mn = .error (i, j) → ErrBL K E H i j) ∧ ∀ ns, lineR lns at_ heads cap mn = .ok ns → RetNew Q H (ns.map V.int)
theorem sc_prices_read : FnScope ["lines", "at", "heads", "many", "words", "most", "prices", "k"] ["lines", "at", "heads", "many"] (defScope s_prices_read) := ⟨rfl, rfl, rfl, by decide +kernel, rfl, by decide +kernel, by decide +kernel⟩
theorem ok_prices_read (T : Txt K mg) : DefOk P w K mg base (L2.CX P w) 8 "prices_read" ["lines", "at", "heads", "many"] (spPrices K) := by
  refine def_mk T.fn_prices_read T.g_prices_read sc_prices_read (fun _ _ _ _ _ _ us hl => match us, hl with | [_, _, _, _], _ => rfl) (fun vs H Q E h => ?_) fun cdv A outer s H vs Q E hr h => ⟨_, (pss_cons (ps_set (i := 4) sc_prices_read.nd rfl (Or.inl rfl) (pe_d (ok_heads_read T) (hr.mono (by decide)) (passes_call (takes_of rfl rfl rfl rfl) (fun _ _ _ _ h => h)) (pa_cons (pv 0) (pa_cons (pv 1) (pa_cons (pv 2) pa_nil)))))
    (pss_cons (ps_set (i := 5) sc_prices_read.nd rfl (Or.inl rfl) (pe_ifExp (pt_cmpR op_isN (pv 3) pe_non (nomark _)) (c_MOST_STATES T) (pv 3)))
    (pss_cons (ps_set (i := 6) sc_prices_read.nd rfl (Or.inl rfl) (pe_lst pa_nil))
    (pss_cons (ps_for (passes_of rfl) rfl (pi_range2 rfl T.f_range (pa_cons (pe_callB call_len_seq rfl T.f_len boot_len (pa_cons (pv 2) pa_nil)) (pa_cons (pe_callB call_len_seq rfl T.f_len boot_len (pa_cons (pv 4) pa_nil)) pa_nil))) (pg_name (i := 7) sc_prices_read.nd rfl (.inl rfl))
      (pss_cons (ps_if (PW.pt (pw_or (pt_cmpR op_eq (pe_callB call_len_seq rfl T.f_len boot_len (pa_cons (pv 6) pa_nil)) (pv 5) (nomark _)) (pw_or1 (pt_not (pt_val (pe_dn (ok_is_price T) (hr.mono (by decide)) (pa_cons (pe_ix ix_list (pv 4) (pv 7) (fun _ _ => rfl)) pa_nil)))))))
        (pss_one (ps_BL T rfl (hr.mono (by decide)) (takes_of rfl rfl rfl rfl) (pa_cons (pv 1) (pa_cons (pv 7) pa_nil))))
        pss_nil)
      (pss_one (ps_expr (pe_bm PySem.F.plainAttrs_list PySem.F.slot_list_append PySem.F.type_list_append mt_append (pv 6) (pa_cons (pe_callTy call_int_str rfl T.f_int boot_int (pa_cons (pe_ix ix_list (pv 4) (pv 7) (fun _ _ => rfl)) pa_nil)) pa_nil))))))
    (pss_cons (ps_if (pt_cmpR op_lt (pe_callB call_len_seq rfl T.f_len boot_len (pa_cons (pv 6) pa_nil)) (pe_ifExp (pt_cmpR op_isN (pv 3) pe_non (nomark _)) pe_int (pv 3)) (nomark _))
      (pss_one (ps_BL T rfl (hr.mono (by decide)) (takes_of rfl rfl rfl rfl) (pa_cons (pv 1) (pa_cons (pe_callB call_len_seq rfl T.f_len boot_len (pa_cons (pv 4) pa_nil)) pa_nil))))
      pss_nil)
    (pss_one (ps_ret (pv 6)))))))), ?_⟩
  · obtain ⟨l, hd, at_, lns, heads, m, cap, mn, rfl, _⟩ := h
    rfl
  · obtain ⟨l, hd, at_, lns, heads, m, cap, mn, rfl, hat, hL, hS, hh, hm, k1, k2⟩ := h
    -- words = heads_read(lines, at, heads)
    refine ⟨_, rfl, _, rfl, _, rfl, l, hd, at_, lns, heads, rfl, hat, hL, hS, hh, fun i j e => ?_, fun ws e => ?_⟩
    · refine k1 i j ?_
      unfold lineR
      rw [e] <;> rfl
    intro p H1 hp s1 hp1
    have ew : ∃ wz, wordsOf lns at_ = some wz := by
      unfold headsR at e
      cases q : wordsOf lns at_ with
      | none => rw [q] at e; cases e
      | some wz => exact ⟨wz, rfl⟩
    obtain ⟨wz, ew⟩ := ew
    have ewz : wz = ws ∧ hb ws heads 0 = none := by
      unfold headsR at e
      rw [ew] at e
      have e3 : (match hb wz heads 0 with | some k => (Except.error (at_, k) : Res (List Str)) | none => .ok wz) = .ok ws := e
      cases q : hb wz heads 0 with
      | some k => rw [q] at e3; cases e3
      | none =>
        rw [q] at e3
        cases e3
        exact ⟨rfl, q⟩
    obtain ⟨rfl, hnone⟩ := ewz
    have hle := hb_len hnone
    obtain ⟨wz1, wz2⟩ := words_small hS ew
    have wlen : wz.length ≤ 10001 := Nat.le_trans (wl_len wz) wz1
    have eL : lineR lns at_ heads cap mn = match prs cap (wz.drop heads.length) heads.length [] with
      | .error k => .error (at_, k)
      | .ok ns => if ns.length < mn then .error (at_, wz.length) else .ok ns := by
      unfold lineR
      rw [e] <;> rfl
    rw [eL] at k1 k2
    -- most = ..
    refine many_val hm rfl (fun z => by rcases hm with ⟨_, h1, _⟩ | ⟨h0, _, _⟩; exact h1.symm; rw [z] at h0; cases h0) ?_
    -- prices = []
    refine ⟨Nat.zero_le _, fun q hq => ?_⟩
    have sq := same_new (o := .lst []) hq
    have nqp : q ≠ p := fun z => by rw [z, hp1] at hq; cases hq
    -- for k in range(len(heads), len(words))
    refine ⟨_, rfl, hd, _, rfl, .inl (SqL.of (sq _ _ (s1 _ _ hh))), _, rfl, p, _, rfl, .inl (SqL.of (sq _ _ hp1)), _, _, rfl, ?_, ?_⟩
    · rw [List.length_map, List.length_map]
      omega
    rw [List.length_map, List.length_map]
    refine for_range (lo := (heads.length : Int)) (n := ((wz.length : Int) - heads.length).toNat) (fun i σ H' => ∃ (ns : List Int) (v : Option V), σ = [some (.ref l), some (.int at_), some (.ref hd), some m, some (.ref p), some (.int cap), some (.ref q), v] ∧ Same H1 H' ∧ H' q = some (.lst (ns.map V.int)) ∧
      prs cap (wz.drop heads.length) heads.length [] = prs cap (wz.drop (heads.length + i)) (heads.length + i) ns ∧ ns.length = i) ⟨[], none, rfl, sq, upd_same, rfl, rfl⟩ ?_ ?_
    · rintro i σ H' hi ⟨ns, v, rfl, s2, hq2, inv, hns⟩
      have hi2 : heads.length + i < wz.length := by omega
      obtain ⟨wd, hw⟩ : ∃ wd, wz[heads.length + i]? = some wd := ⟨wz[heads.length + i], by simp [hi2]⟩
      rw [drop_at hw, prs_cons] at inv
      have hp2 := s2 _ _ hp1
      have hwd : wd.length ≤ 10001 := by
        have := wl_mem (List.mem_of_getElem? hw)
        omega
      have ek : ((heads.length : Int) + (i : Nat)) = ((heads.length + i : Nat) : Int) := by omega
      rw [ek]
      have bad : prs cap (wz.drop heads.length) heads.length [] = .error (heads.length + i) → tBL (He.ga K "BadLine") (fun cls d _ H => E cls d H) (tCons (tVar 1) (tCons (tVar 7) tNil)) { nx := fun _ _ => True, rt := Q } [some (.ref l), some (.int at_), some (.ref hd), some m, some (.ref p), some (.int cap), some (.ref q), some (.int ((heads.length + i : Nat) : Int))] H' := fun z =>
        ⟨_, rfl, _, rfl, _, _, rfl, (ErrBL.same (k1 at_ (heads.length + i) (by rw [z])) (s1.trans s2))⟩
      refine ⟨_, rfl, q, _, rfl, .inl (SqL.of hq2), _, rfl, rfl, _, rfl, it2 (fun h1 => ?_) (fun h1 => ?_)⟩
      · have h2 : ns.length = cap := by
          have := V.int.inj (of_decide_eq_true h1)
          rw [List.length_map] at this
          omega
        exact bad (by rw [inv, if_pos (.inl h2)])
      · have h2 : ¬ ns.length = cap := fun z => of_decide_eq_false h1 (by rw [List.length_map, z])
        have hwx : (wz.map V.str)[heads.length + i]? = some (V.str wd) := by rw [List.getElem?_map, hw]; rfl
        refine ⟨_, rfl, _, rfl, p, _, _, V.str wd, rfl, rfl, SqL.of hp2, atI_nat hwx, wd, rfl, by omega, ?_⟩
        refine ⟨_, rfl, ?_⟩
        cases hpr : isPrice wd with
        | false => exact iteT (bad (by rw [inv, if_pos (.inr hpr)]))
        | true =>
          have h3 : ¬ (ns.length = cap ∨ isPrice wd = false) := fun z => z.elim h2 (fun y => by rw [hpr] at y; cases y)
          rw [if_neg h3] at inv
          obtain ⟨i1, i2⟩ := int_price hpr
          refine iteF ⟨_, rfl, .inl ⟨rfl, _, SqL.of hq2⟩, _, rfl, _, rfl, p, _, _, V.str wd, rfl, rfl, SqL.of hp2, atI_nat hwx, wd, intOf wd, rfl, i1, i2, q, _, _, rfl, rfl, hq2, ?_, ?_⟩
          · rw [List.length_map, sizeLine_eq]
            omega
          · refine ⟨ns ++ [intOf wd], _, rfl, fun b o z => ?_, ?_, inv, ?_⟩
            · have nb : b ≠ q := fun y => by
                rw [y] at z
                have := s1.free hq
                rw [hq] at z
                cases z
              rw [upd_ne nb]
              exact s2 b o z
            · rw [upd_same, List.map_append]
              rfl
            · rw [List.length_append, List.length_singleton, hns]
    · rintro σ H' ⟨ns, v, rfl, s2, hq2, inv, hns⟩
      have e0 : heads.length + ((wz.length : Int) - heads.length).toNat = wz.length := by omega
      rw [e0, List.drop_of_length_le (Nat.le_refl _)] at inv
      have inv2 : prs cap (wz.drop heads.length) heads.length [] = .ok ns := inv
      rw [inv2] at k1 k2
      have k1' : ns.length < mn → ErrBL K E H at_ wz.length := fun z => k1 _ _ (if_pos z)
      have k2' : ¬ ns.length < mn → RetNew Q H (ns.map V.int) := fun z => k2 ns (if_neg z)
      refine ⟨_, rfl, q, _, rfl, .inl (SqL.of hq2), ?_⟩
      refine many_val2 hm rfl (c := 1) (fun z => by rcases hm with ⟨_, _, h1⟩ | ⟨h0, _, _⟩; exact h1.symm; rw [z] at h0; cases h0) ?_
      refine ⟨_, _, rfl, rfl, _, rfl, ?_⟩
      rw [List.length_map]
      refine it2 (fun h1 => ?_) (fun h1 => ?_)
      · have h2 : ns.length < mn := by
          have := of_decide_eq_true h1
          omega
        refine ⟨_, rfl, _, rfl, p, _, rfl, .inl (SqL.of (s2 _ _ hp1)), _, _, rfl, ?_⟩
        rw [List.length_map]
        exact ErrBL.same (k1' h2) (s1.trans s2)
      · have h2 : ¬ ns.length < mn := by
          have := of_decide_eq_false h1
          omega
        exact ⟨_, rfl, k2' h2 q H' (s1.free hq) (s1.trans s2) hq2⟩
end Aw
set_option maxHeartbeats 4000000
/-! asks_read, read_store. -/
namespace Aw
open PySem PySem.Spec PyProof.Rows L2
section
variable {X : Cx} {CX : CXT} {k : Nat} {x : Str} {ps : List Str} {sp : Sp} {E : L2.St → XK} {p pos : Pos} {e : Expr} {es : List Expr} {t : TA}
theorem pe_dS (D : DefOk X.prog X.w X.K X.mg X.base CX k x ps sp) (hr : Room k X.A) (hx : ∀ σ, PassesAt CX X σ (E σ)) (ha : PA X (e :: es) t) (hg : Gl X x := by rfl) (hdb : (x == ("__debug__" : Str)) = false := by decide)
    (he : starEach (e :: es) X.env = (false, eval e X.env) :: starEach es X.env := by rfl) (hpl : (backTo pos (starEach es X.env)).any (·.1) = false := by rfl) : PE X (.Call (.Name x p) (e :: es) [] pos) (tCallS sp E t) := by
  obtain ⟨fd, F, b⟩ := D.ok
  exact pe_callS F hr hg D.gl D.kp b hx ha hdb he hpl
end
variable {P : Program} {w : World} {K : PySem.W.Frag} {mg : Str → Option Value} {base : Heap}
def spAsksRead (K : PySem.W.Frag) : Sp := fun vs H Q E => ∃ (l : Addr) (lns : List Ln), vs = [.ref l] ∧ Lines Any H l lns ∧ Small lns ∧ (∀ i j, asksR lns = .error (i, j) → ErrBL K E H i j) ∧ ∀ a, asksR lns = .ok a → ∀ H', Same H H' → Q (.str a) H'
theorem sc_asks_read : FnScope ["lines", "words", "error"] ["lines"] (defScope s_asks_read) := ⟨rfl, rfl, rfl, by decide +kernel, rfl, by decide +kernel, by decide +kernel⟩
theorem ok_asks_read (T : Txt K mg) : DefOk P w K mg base (L2.CX P w) 8 "asks_read" ["lines"] (spAsksRead K) := by
  refine def_mk T.fn_asks_read T.g_asks_read sc_asks_read (fun _ _ _ _ _ _ us hl => match us, hl with | [_], _ => rfl) (fun vs H Q E h => ?_) fun cdv A outer s H vs Q E hr h => ⟨_,
    (pss_cons (ps_set (i := 1) sc_asks_read.nd rfl (Or.inl rfl) (pe_d (ok_heads_read T) (hr.mono (by decide)) (passes_call (takes_of rfl rfl rfl rfl) (fun _ _ _ _ h => h)) (pa_cons (pv 0) (pa_cons pe_int (pa_cons (pe_lst (pa_cons pe_str pa_nil)) pa_nil)))))
    (pss_cons (ps_if (pt_cmpR op_eq (pe_callB call_len_seq rfl T.f_len boot_len (pa_cons (pv 1) pa_nil)) pe_int (nomark _))
      (pss_one (ps_BL T rfl (hr.mono (by decide)) (takes_of rfl rfl rfl rfl) (pa_cons pe_int (pa_cons pe_int pa_nil)))) pss_nil)
    (pss_cons (ps_try_asR (i := 2) (c0 := .ref (He.ga K "BadAsks")) (tb := fun W => tDrop (tCallS (spCheckAsks K) (WE W) (tCons (tOp (rIxL K) (tVar 1) (tC (.int 1))) tNil)))
        (ts := fun a d => tBL (He.ga K "BadLine") (fun cls d σ H => σ[2]? = some (some (.ref a)) ∧ E cls d H) (tCons (tC (.int 0)) (tCons (tC (.int 1)) tNil))) (Wout := fun cls d _ H => E cls d H)
        rfl rfl sc_asks_read.nd rfl rfl ⟨rfl, by decide, .inl T.g_BadAsks⟩ (fun hd => L2H.passesAt_of rfl hd) (takes_of rfl rfl rfl rfl)
        (fun W pn xe tk _ => pss_one (ps_expr (pe_dS (ok_check_asks T) (hr.mono (by decide)) (fun σ => L2N.passAt tk σ) (pa_cons (pe_ix ix_list (pv 1) pe_int (fun _ _ => rfl)) pa_nil))))
        (fun a oe d pn xe hz hot tk => pss_one (ps_BLf T hot List.mem_cons_self hz.1 T.oBA.exC rfl rfl (L2H.roomH_mark (hr.mono (by decide)) _) tk (pa_cons pe_int (pa_cons pe_int pa_nil)))))
    (pss_cons (ps_if (pt_cmpR op_gt (pe_callB call_len_seq rfl T.f_len boot_len (pa_cons (pv 1) pa_nil)) pe_int (nomark _))
      (pss_one (ps_BL T rfl (hr.mono (by decide)) (takes_of rfl rfl rfl rfl) (pa_cons pe_int (pa_cons pe_int pa_nil)))) pss_nil)
    (pss_one (ps_ret (pe_ix ix_list (pv 1) pe_int (fun _ _ => rfl)))))))), ?_⟩
  · obtain ⟨l, lns, rfl, _⟩ := h
    rfl
  · obtain ⟨l, lns, rfl, hL, hS, k1, k2⟩ := h
    refine ⟨_, rfl, by show 1 ≤ sizeLine; decide, fun hd hhd => ?_⟩
    have sh := same_new (o := .lst [.str (PySem.Str.ofString "store")]) hhd
    refine ⟨l, hd, 0, lns, [PySem.Str.ofString "store"], rfl, by decide, Lines.same sh hL, hS, upd_same, fun i j e => ?_, fun ws e => ?_⟩
    · exact ErrBL.same (k1 i j (by unfold asksR; rw [e] <;> rfl)) sh
    intro p H1 hp s1 hp1
    have s0 := sh.trans s1
    obtain ⟨wz, ew, hnone⟩ : ∃ wz, wordsOf lns 0 = some wz ∧ wz = ws := by
      unfold headsR at e
      cases q : wordsOf lns 0 with
      | none => rw [q] at e; cases e
      | some wz =>
        rw [q] at e
        have e3 : (match hb wz [PySem.Str.ofString "store"] 0 with | some k => (Except.error (0, k) : Res (List Str)) | none => .ok wz) = .ok ws := e
        cases q2 : hb wz [PySem.Str.ofString "store"] 0 with
        | some k => rw [q2] at e3; cases e3
        | none =>
          rw [q2] at e3
          cases e3
          exact ⟨_, rfl, rfl⟩
    subst hnone
    obtain ⟨wz1, wz2⟩ := words_small hS ew
    have eA : asksR lns = match wz[1]? with
      | none => .error (0, 1)
      | some a => if isAsks a = true then (if 2 < wz.length then .error (0, 2) else .ok a) else .error (0, 1) := by
      unfold asksR
      rw [e] <;> rfl
    rw [eA] at k1 k2
    refine ⟨_, rfl, p, _, rfl, .inl (SqL.of hp1), rfl, _, rfl, ?_⟩
    rw [List.length_map]
    refine it2 (fun h1 => ?_) (fun h1 => ?_)
    · have h2 : wz.length = 1 := by
        have := V.int.inj (of_decide_eq_true h1)
        omega
      have h3 : wz[1]? = none := List.getElem?_eq_none (by omega)
      rw [h3] at k1
      exact ⟨_, _, rfl, ErrBL.same (k1 0 1 rfl) s0⟩
    · have h2 : 1 < wz.length := by
        have : ¬ (wz.length : Int) = 1 := fun z => of_decide_eq_false h1 (congrArg V.int z)
        omega
      obtain ⟨a, ha⟩ : ∃ a, wz[1]? = some a := ⟨wz[1], by simp [h2]⟩
      rw [ha] at k1 k2
      have hal : a.length ≤ 100000 := by
        have := wl_mem (List.mem_of_getElem? ha)
        omega
      have hax : (wz.map V.str)[1]? = some (V.str a) := by rw [List.getElem?_map, ha]; rfl
      refine ⟨_, rfl, p, _, _, V.str a, rfl, rfl, SqL.of hp1, atI_nat (j := 1) hax, a, rfl, hal, fun hok => ?_, fun hbad d H' hd2 sm => ?_⟩
      · -- the asks are good
        have k1' : 2 < wz.length → ErrBL K E H 0 2 := fun z => k1 0 2 (by show (if isAsks a = true then _ else _) = _; rw [if_pos hok, if_pos z])
        have k2' : ¬ 2 < wz.length → ∀ H', Same H H' → Q (.str a) H' := fun z => k2 a (by show (if isAsks a = true then _ else _) = _; rw [if_pos hok, if_neg z])
        refine ⟨_, rfl, p, _, rfl, .inl (SqL.of hp1), _, _, rfl, rfl, _, rfl, ?_⟩
        rw [List.length_map]
        refine it2 (fun h3 => ?_) (fun h3 => ?_)
        · have h4 : 2 < wz.length := by
            have := of_decide_eq_true h3
            omega
          exact ⟨_, _, rfl, ErrBL.same (k1' h4) s0⟩
        · have h4 : ¬ 2 < wz.length := by
            have := of_decide_eq_false h3
            omega
          exact ⟨_, rfl, p, _, _, V.str a, rfl, rfl, SqL.of hp1, atI_nat (j := 1) hax, k2' h4 H1 s0⟩
      · -- they are not: BadLine(0, 1) from it
        have k1' : ErrBL K E H 0 1 := k1 0 1 (by show (if isAsks a = true then _ else _) = _; rw [if_neg (by rw [hbad]; decide)])
        refine ⟨true, T.exAA, fun _ => ⟨rfl, fun ax hax2 => ?_⟩, fun z => by cases z⟩
        exact ⟨_, _, rfl, fun d2 H2 hd3 sm2 hx => ⟨rfl, ErrBL.same k1' (s0.trans sm) d2 H2 hd3 sm2 hx⟩⟩
end Aw
set_option maxHeartbeats 4000000
/-! deep, Store. -/
namespace Aw
open PySem PySem.Spec PyProof.Rows L2
variable {P : Program} {w : World} {K : PySem.W.Frag} {mg : Str → Option Value} {base : Heap}
def spDeep (n : Nat) : Sp := fun vs H Q _ => ∃ (v : V) (d : Dn n), vs = [v] ∧ Dsz n d ∧ LD H n d v ∧ ∀ v' H', Same H H' → TD H' n d v' → Q v' H'
/-- a comprehension that makes the items of new tuples one by one -/
theorem map_turn {n : Nat} {l : List (Dn n)} {i : Nat} {a : Dn n} {H0 H' H2 : Hp} {D : Addr} {v' : V} {ys : List V} (hD0 : H0 D = none) (ha : l[i]? = some a) (s : Same H0 H') (hD : H' D = some (.lst ys)) (pr : Paired (TD H' n) (l.take i) ys)
    (s2 : Same H' H2) (td : TD H2 n a v') (hl : ys.length < sizeLine) : ∃ acc, H2 D = some (.lst acc) ∧ acc.length < sizeLine ∧ (Same H0 (upd H2 D (.lst (acc ++ [v']))) ∧ ∃ ys, upd H2 D (.lst (acc ++ [v'])) D = some (.lst ys) ∧ Paired (TD (upd H2 D (.lst (acc ++ [v']))) n) (l.take (i + 1)) ys) := by
  refine ⟨ys, s2 _ _ hD, hl, same_put (s.trans s2) hD0, _, upd_same, ?_⟩
  rw [take_succ_at ha]
  exact Paired.snoc (Paired.mapP pr fun _ _ h => TD.upd (s2 _ _ hD) (TD.same s2 h)) (TD.upd (s2 _ _ hD) td)
theorem sc_deep : FnScope ["thing", "part"] ["thing"] (defScope s_deep) := ⟨rfl, rfl, rfl, by decide +kernel, rfl, by decide +kernel, by decide +kernel⟩
theorem ok_deep (T : Txt K mg) : ∀ n : Nat, DefOk P w K mg base (L2.CX P w) (n + 2) "deep" ["thing"] (spDeep n)
  | 0 => by
    refine def_mk T.fn_deep T.g_deep sc_deep (fun _ _ _ _ _ _ us hl => match us, hl with | [_], _ => rfl) (fun vs H Q E h => ?_) fun cdv A outer s H vs Q E hr h => ⟨_, (pss_cons (ps_if (pt_val (pe_dn (ok_is_listed T) (hr.mono (by decide)) (pa_cons (pv 0) pa_nil)))
      (pss_one (ps_ret (pe_callTy call_tuple_of rfl T.f_tuple boot_tuple (pa_cons (pe_lc (own := [("part", 1)]) (g := gName 1) (tt := tYes) rfl sc_deep.nd (pi_list (pv 0)) (blkOk_by (N := ["thing", "part"]) (sc := defScope s_deep) (by decide +kernel)) (fun _ _ _ _ _ => (pg_name (i := 1) sc_deep.nd rfl (.inl rfl))) (fun _ _ _ _ _ => pts_nil) (fun _ _ _ _ _ => (pe_never _))) pa_nil))))
      pss_nil)
    (pss_one (ps_ret (pv 0)))), ?_⟩
    · obtain ⟨v, d, rfl, _⟩ := h
      rfl
    · obtain ⟨v, d, rfl, _, hv, k⟩ := h
      obtain rfl : v = .int d := hv
      refine ⟨_, rfl, .int d, _, false, rfl, .base (.int d), rfl, fun H1 s1 => ?_⟩
      refine ⟨_, rfl, iteF ?_⟩
      exact ⟨_, rfl, k _ H1 s1 rfl⟩
  | n + 1 => by
    have ih := ok_deep T n
    refine def_mk T.fn_deep T.g_deep sc_deep (fun _ _ _ _ _ _ us hl => match us, hl with | [_], _ => rfl) (fun vs H Q E h => ?_) fun cdv A outer s H vs Q E hr h => ⟨_, (pss_cons (ps_if (pt_val (pe_dn (ok_is_listed T) (hr.mono (by omega)) (pa_cons (pv 0) pa_nil)))
      (pss_one (ps_ret (pe_callTy call_tuple_of rfl T.f_tuple boot_tuple (pa_cons (pe_lc (own := [("part", 1)]) (g := gName 1) (tt := tYes) rfl sc_deep.nd (pi_list (pv 0)) (blkOk_by (N := ["thing", "part"]) (sc := defScope s_deep) (by decide +kernel)) (fun _ _ _ _ _ => (pg_name (i := 1) sc_deep.nd rfl (.inl rfl))) (fun _ _ _ _ _ => pts_nil) (fun _ _ _ _ _ => (pe_dn ih (hr.mono (by omega)) (pa_cons (pv 1) pa_nil)))) pa_nil))))
      pss_nil)
    (pss_one (ps_ret (pv 0)))), ?_⟩
    · obtain ⟨v, d, rfl, _⟩ := h
      rfl
    · obtain ⟨v, d, rfl, ⟨z1, z2⟩, ⟨p, xs, rfl, hp, pr⟩, k⟩ := h
      refine ⟨_, rfl, .ref p, _, true, rfl, .base (.lst hp), rfl, fun H1 s1 => ?_⟩
      refine ⟨_, rfl, iteT ?_⟩
      refine ⟨_, rfl, p, rfl, ⟨_, SqL.of (s1 _ _ hp)⟩, fun D hD => ?_⟩
      have sD := same_new (o := .lst []) hD
      refine lc_list (xs := xs) (fun i H' => Same H1 H' ∧ ∃ ys, H' D = some (.lst ys) ∧ Paired (TD H' n) (List.take i (show List (Dn n) from d)) ys) ⟨sD, [], upd_same, .nil⟩ (fun i H' _ ⟨s2, _⟩ => SqL.of (s2 _ _ (s1 _ _ hp))) ?_ ?_
      · rintro i x H' hi ⟨s2, ys, hys, py⟩
        obtain ⟨a, ha, lv⟩ := paired_at pr hi
        refine ⟨rfl, ?_⟩
        refine ⟨_, rfl, x, a, rfl, z2 a (List.mem_of_getElem? ha), LD.same (s1.trans s2) lv, fun v' H2 s3 td => ?_⟩
        refine map_turn hD ha s2 hys py s3 td ?_
        have e1 := py.length
        have e2 := List.length_take_le i (show List (Dn n) from d)
        have e3 : i < xs.length := (List.getElem?_eq_some_iff.mp hi).1
        have e4 := pr.length
        rw [sizeLine_eq]
        have z3 : List.length (α := Dn n) d ≤ 1000 := z1
        omega
      · rintro H' ⟨s2, ys, hys, py⟩
        rw [List.take_of_length_le (by rw [pr.length]; exact Nat.le_refl _)] at py
        refine ⟨D, ys, rfl, .inl ⟨SqL.of hys, fun q hq => ?_⟩⟩
        have s3 := same_new (o := .tup ys) hq
        exact k _ _ ((s1.trans s2).trans s3) ⟨q, ys, rfl, upd_same, Paired.mapP py fun _ _ h => TD.same s3 h⟩
/-! ### Store -/
/-- the parts of a store fit -/
def Fit (d : List Int × List (List (List Int)) × List Int) (s : Str) : Prop := 1 ≤ d.1.length ∧ d.1.length ≤ 1000 ∧ d.2.1.length = s.length ∧ (∀ t ∈ d.2.1, Tab d.1.length t) ∧ d.2.2.length = d.1.length
def StoreAt (K : PySem.W.Frag) (H : Hp) (a : Addr) (s : Str) (b : List Int) (c : List (List (List Int))) (e : List Int) : Prop := ∃ (dx : Addr) (x1 x2 x3 : V), H a = some (.ins (He.ga K "Store") dx [("asks", .str s), ("begins", x1), ("costs", x2), ("ends", x3)]) ∧ TD H 1 b x1 ∧ TD H 3 c x2 ∧ TD H 1 e x3
def spStoreInit (K : PySem.W.Frag) : Sp := fun vs H Q _ => ∃ (a dx : Addr) (s : Str) (vb vc ve : V) (b : List Int) (c : List (List (List Int))) (e : List Int), vs = [.ref a, .str s, vb, vc, ve] ∧ H a = some (.ins (He.ga K "Store") dx []) ∧ isAsks s = true ∧ s.length ≤ 4 ∧
  LD H 1 b vb ∧ LD H 3 c vc ∧ LD H 1 e ve ∧ Fit (b, c, e) s ∧ ∀ H', KeepBut a H H' → StoreAt K H' a s b c e → Q .non H'
theorem dsz1 {l : List Int} (h : l.length ≤ 1000) : Dsz 1 l := ⟨h, fun _ _ => trivial⟩
theorem dsz3 {n : Nat} {c : List (List (List Int))} (h0 : c.length ≤ 1000) (hn : n ≤ 1000) (h : ∀ t ∈ c, Tab n t) : Dsz 3 c :=
  ⟨h0, fun t ht => ⟨by
    have := (h t ht).1
    show List.length (α := List Int) t ≤ 1000
    omega, fun r hr => dsz1 (by
    have := (h t ht).2 r hr
    omega)⟩⟩
theorem sc_Store_init : FnScope ["self", "asks", "begins", "costs", "ends"] ["self", "asks", "begins", "costs", "ends"] (defScope s_Store_init) := ⟨rfl, rfl, rfl, by decide +kernel, rfl, by decide +kernel, by decide +kernel⟩
theorem fn_Store (T : Txt K mg) : ∃ fd, FnOk P w K mg base (L2.CX P w) 6 (He.ma K (He.ga K "Store") "__init__") fd ["self", "asks", "begins", "costs", "ends"] (spStoreInit K) ∧ Binds K fd ["self", "asks", "begins", "costs", "ends"] [] := by
  obtain ⟨fd, F⟩ := T.fn_Store_init
  refine ⟨fd, F.ok sc_Store_init (fun vs H Q E h => ?_) (fun cdv A outer s H vs Q E hr h => ⟨_, (pss_cons (ps_expr (pe_d (ok_check_asks T) (hr.mono (by decide)) passLN (pa_cons (pv 1) pa_nil)))
    (pss_cons (ps_if (PW.pt (pw_or (pt_not (pt_val (pe_dn (ok_is_listed T) (hr.mono (by decide)) (pa_cons (pv 2) pa_nil)))) (pw_or (pt_not (pt_chain op_le op_le pe_int (pe_callB call_len_seq rfl T.f_len boot_len (pa_cons (pv 2) pa_nil)) (c_MOST_STATES T))) (pw_or1 (pt_not (pt_val (pe_dn (ok_integers T) (hr.mono (by decide)) (pa_cons (pv 2) (pa_cons (pe_callB call_len_seq rfl T.f_len boot_len (pa_cons (pv 2) pa_nil)) pa_nil)))))))))
      (pss_one ps_never)
      pss_nil)
    (pss_cons (ps_if (pt_not (pt_val (pe_dn (ok_are_costs T) (hr.mono (by decide)) (pa_cons (pv 3) (pa_cons (pv 1) (pa_cons (pe_callB call_len_seq rfl T.f_len boot_len (pa_cons (pv 2) pa_nil)) pa_nil))))))
      (pss_one ps_never)
      pss_nil)
    (pss_cons (ps_if (pt_not (pt_val (pe_dn (ok_integers T) (hr.mono (by decide)) (pa_cons (pv 4) (pa_cons (pe_callB call_len_seq rfl T.f_len boot_len (pa_cons (pv 2) pa_nil)) pa_nil)))))
      (pss_one ps_never)
      pss_nil)
    (pss_cons (ps_fld (pv 0) (pv 1) rfl)
    (pss_cons (ps_fld (pv 0) (pe_dn (ok_deep T 1) (hr.mono (by decide)) (pa_cons (pv 2) pa_nil)) rfl)
    (pss_cons (ps_fld (pv 0) (pe_dn (ok_deep T 3) (hr.mono (by decide)) (pa_cons (pv 3) pa_nil)) rfl)
    (pss_one (ps_fld (pv 0) (pe_dn (ok_deep T 1) (hr.mono (by decide)) (pa_cons (pv 4) pa_nil)) rfl))))))))), ?_⟩), F.bindsN (fun _ _ _ _ _ _ us hl => match us, hl with | [_, _, _, _, _], _ => rfl)⟩
  · obtain ⟨a, dx, z, vb, vc, ve, b, c, e, rfl, _⟩ := h
    rfl
  · obtain ⟨a, dx, z, vb, vc, ve, b, c, e, rfl, ha, hok, hz, lb, lc, le, ⟨f1, f2, f3, f4, f5⟩, k⟩ := h
    dsimp only at f1 f2 f3 f4 f5
    have nl : ∀ {H' : Hp} {fs : List (Str × V)}, H' a = some (.ins (He.ga K "Store") dx fs) → ∀ xs, H' a ≠ some (.lst xs) := fun {H' fs} h xs z => by rw [h] at z; cases z
    have nt : ∀ {H' : Hp} {fs : List (Str × V)}, H' a = some (.ins (He.ga K "Store") dx fs) → ∀ xs, H' a ≠ some (.tup xs) := fun {H' fs} h xs z => by rw [h] at z; cases z
    -- check_asks(asks)
    refine ⟨_, rfl, z, rfl, by omega, fun _ => ?_, fun q => by rw [hok] at q; cases q⟩
    obtain ⟨pb, xb, rfl, hpb, prb⟩ := id lb
    obtain ⟨pe, xe, rfl, hpe, pre⟩ := id le
    have eb := ints_of prb
    have ee := ints_of pre
    subst eb ee
    -- begins
    refine ⟨_, rfl, .ref pb, _, true, rfl, .base (.lst hpb), rfl, fun H1 s1 => ?_⟩
    refine ⟨_, rfl, iteF ?_⟩
    refine ⟨_, rfl, pb, _, rfl, .inl (SqL.of (s1 _ _ hpb)), _, _, rfl, rfl, _, rfl, ?_⟩
    rw [List.length_map]
    refine itT (by simp; omega) ⟨_, _, rfl, rfl, _, rfl, ?_⟩
    refine itF (by simp; omega) ?_
    refine ⟨_, rfl, _, rfl, pb, _, rfl, .inl (SqL.of (s1 _ _ hpb)), ?_⟩
    rw [List.length_map]
    refine ⟨pb, b, rfl, s1 _ _ hpb, fun H2 s2 => ?_⟩
    refine ⟨_, rfl, iteF ?_⟩
    have t2 := s1.trans s2
    -- costs
    refine ⟨_, rfl, _, rfl, _, rfl, pb, _, rfl, .inl (SqL.of (t2 _ _ hpb)), ?_⟩
    rw [List.length_map]
    refine ⟨vc, z, b.length, c, rfl, hz, LD.same t2 lc, f3, f4, fun H3 s3 => ?_⟩
    refine ⟨_, rfl, iteF ?_⟩
    have t3 := t2.trans s3
    -- ends
    refine ⟨_, rfl, _, rfl, pb, _, rfl, .inl (SqL.of (t3 _ _ hpb)), ?_⟩
    rw [List.length_map]
    refine ⟨pe, e, by rw [f5]; rfl, t3 _ _ hpe, fun H4 s4 => ?_⟩
    refine ⟨_, rfl, iteF ?_⟩
    have t4 := t3.trans s4
    have ha4 := t4 _ _ ha
    -- self.asks = asks
    refine ⟨_, rfl, _, rfl, a, _, dx, _, rfl, ha4, T.cls, T.no_asks, by show 0 < 1000; decide, ?_⟩
    have k5 := (KeepBut.of (a := a) t4).trans (KeepBut.put a H4 (.ins (He.ga K "Store") dx (putF "asks" (.str z) [])))
    -- self.begins = deep(begins)
    refine ⟨_, rfl, _, b, rfl, dsz1 f2, LD.but k5 (nl ha) lb, fun v1 H6 s6 td1 => ?_⟩
    have ha6 := s6 _ _ (upd_same (H := H4) (a := a) (o := .ins (He.ga K "Store") dx (putF "asks" (.str z) [])))
    refine ⟨_, rfl, a, _, dx, _, rfl, ha6, T.cls, T.no_begins, by show 1 < 1000; decide, ?_⟩
    have k7 := (k5.trans (KeepBut.of s6)).trans (KeepBut.put a H6 (.ins (He.ga K "Store") dx (putF "begins" v1 (putF "asks" (.str z) []))))
    have td1' := TD.but (KeepBut.put a H6 (.ins (He.ga K "Store") dx (putF "begins" v1 (putF "asks" (.str z) [])))) (nt ha6) td1
    -- self.costs = deep(costs)
    refine ⟨_, rfl, _, c, rfl, dsz3 (by omega) f2 f4, LD.but k7 (nl ha) lc, fun v2 H8 s8 td2 => ?_⟩
    have ha8 := s8 _ _ (upd_same (H := H6) (a := a) (o := .ins (He.ga K "Store") dx (putF "begins" v1 (putF "asks" (.str z) []))))
    have td1'' := TD.same s8 td1'
    refine ⟨_, rfl, a, _, dx, _, rfl, ha8, T.cls, T.no_costs, by show 2 < 1000; decide, ?_⟩
    have p8 := KeepBut.put a H8 (.ins (He.ga K "Store") dx (putF "costs" v2 (putF "begins" v1 (putF "asks" (.str z) []))))
    have k9 := (k7.trans (KeepBut.of s8)).trans p8
    have td13 := TD.but p8 (nt ha8) td1''
    have td23 := TD.but p8 (nt ha8) td2
    -- self.ends = deep(ends)
    refine ⟨_, rfl, _, e, rfl, dsz1 (by omega), LD.but k9 (nl ha) le, fun v3 H10 s10 td3 => ?_⟩
    have ha10 := s10 _ _ (upd_same (H := H8) (a := a) (o := .ins (He.ga K "Store") dx (putF "costs" v2 (putF "begins" v1 (putF "asks" (.str z) [])))))
    refine ⟨_, rfl, a, _, dx, _, rfl, ha10, T.cls, T.no_ends, by show 3 < 1000; decide, ?_⟩
    have p10 := KeepBut.put a H10 (.ins (He.ga K "Store") dx (putF "ends" v3 (putF "costs" v2 (putF "begins" v1 (putF "asks" (.str z) [])))))
    refine k _ ((k9.trans (KeepBut.of s10)).trans p10) ⟨dx, v1, v2, v3, ?_, TD.but p10 (nt ha10) (TD.same s10 td13), TD.but p10 (nt ha10) (TD.same s10 td23), TD.but p10 (nt ha10) td3⟩
    rw [upd_same]
    rfl
end Aw
set_option maxHeartbeats 4000000
/-! read_store. -/
namespace Aw
open PySem PySem.Spec PyProof.Rows L2
variable {P : Program} {w : World} {K : PySem.W.Frag} {mg : Str → Option Value} {base : Heap}
def spRead (K : PySem.W.Frag) : Sp := fun vs H Q E => ∃ (l : Addr) (lns : List Ln), vs = [.ref l] ∧ Lines Any H l lns ∧ Small lns ∧ (∀ i j, readR lns = .error (i, j) → ErrBL K E H i j) ∧
  ∀ s b c e, readR lns = .ok (s, b, c, e) → ∀ p H', Same H H' → StoreAt K H' p s b c e → Q (.ref p) H'
/-- a thing that is no list -/
def spReadOdd (K : PySem.W.Frag) : Sp := fun vs H Q E => ∃ (v : V) (t : Value), vs = [v] ∧ TyX K H v t ∧ listedT t = some false ∧
  ∀ d H', H d = none → Same H H' → H' d = some (.xd [(("word" : Str), V.int 0), (("line" : Str), V.int (-1))]) → E (.ref (He.ga K "BadLine")) (some d) H'
theorem sc_read_store : FnScope ["lines", "asks", "begins", "many", "at", "costs", "ask", "table", "state", "ends"] ["lines"] (defScope s_read_store) := ⟨rfl, rfl, rfl, by decide +kernel, rfl, by decide +kernel, by decide +kernel⟩
theorem ok_read_odd (T : Txt K mg) : DefOk P w K mg base (L2.CX P w) 10 "read_store" ["lines"] (spReadOdd K) := by
  obtain ⟨fS, GS, bS⟩ := fn_Store (P := P) (w := w) (base := base) T
  refine def_mk T.fn_read_store T.g_read_store sc_read_store (fun _ _ _ _ _ _ us hl => match us, hl with | [_], _ => rfl) (fun vs H Q E h => ?_) fun cdv A outer s H vs Q E hr h => ⟨_, (pss_cons (ps_if (pt_not (pt_val (pe_dn (ok_is_listed T) (hr.mono (by decide)) (pa_cons (pv 0) pa_nil))))
      (pss_one (ps_BL T rfl (hr.mono (by decide)) (takes_of rfl rfl rfl rfl) (pa_cons (pe_un un_neg pe_int) (pa_cons pe_int pa_nil))))
      pss_nil)
    (pss_cons (ps_set (i := 1) sc_read_store.nd rfl (Or.inl rfl) (pe_d (ok_asks_read T) (hr.mono (by decide)) (passes_call (takes_of rfl rfl rfl rfl) (fun _ _ _ _ h => h)) (pa_cons (pv 0) pa_nil)))
    (pss_cons (ps_set (i := 2) sc_read_store.nd rfl (Or.inl rfl) (pe_d (ok_prices_read T) (hr.mono (by decide)) (passes_call (takes_of rfl rfl rfl rfl) (fun _ _ _ _ h => h)) (pa_cons (pv 0) (pa_cons pe_int (pa_cons (pe_lst (pa_cons pe_str pa_nil)) (pa_cons pe_non pa_nil))))))
    (pss_cons (ps_set (i := 3) sc_read_store.nd rfl (Or.inl rfl) (pe_callB call_len_seq rfl T.f_len boot_len (pa_cons (pv 2) pa_nil)))
    (pss_cons (ps_set (i := 4) sc_read_store.nd rfl (Or.inl rfl) pe_int)
    (pss_cons (ps_set (i := 5) sc_read_store.nd rfl (Or.inl rfl) (pe_lst pa_nil))
    (pss_cons (ps_for (passes_of rfl) rfl (pi_str (pv 1)) (pg_name (i := 6) sc_read_store.nd rfl (.inl rfl))
      (pss_cons (ps_set (i := 7) sc_read_store.nd rfl (Or.inl rfl) (pe_lst pa_nil))
      (pss_cons (ps_for (passes_of rfl) rfl (pi_list (pv 2)) (pg_name (i := 8) sc_read_store.nd rfl (.inl rfl))
        (pss_cons (ps_expr (pe_bm PySem.F.plainAttrs_list PySem.F.slot_list_append PySem.F.type_list_append mt_append (pv 7) (pa_cons (pe_d (ok_prices_read T) (hr.mono (by decide)) (passes_call (takes_of rfl rfl rfl rfl) (fun _ _ _ _ h => h)) (pa_cons (pv 0) (pa_cons (pv 4) (pa_cons (pe_lst (pa_cons pe_str (pa_cons (pv 6) pa_nil))) (pa_cons (pv 3) pa_nil))))) pa_nil)))
        (pss_one (ps_set (i := 4) sc_read_store.nd rfl (Or.inl rfl) (pe_op op_add (pv 4) pe_int)))))
      (pss_one (ps_expr (pe_bm PySem.F.plainAttrs_list PySem.F.slot_list_append PySem.F.type_list_append mt_append (pv 5) (pa_cons (pv 7) pa_nil)))))))
    (pss_cons (ps_set (i := 9) sc_read_store.nd rfl (Or.inl rfl) (pe_d (ok_prices_read T) (hr.mono (by decide)) (passes_call (takes_of rfl rfl rfl rfl) (fun _ _ _ _ h => h)) (pa_cons (pv 0) (pa_cons (pv 4) (pa_cons (pe_lst (pa_cons pe_str pa_nil)) (pa_cons (pv 3) pa_nil))))))
    (pss_cons (ps_if (pt_cmpR op_gt (pe_callB call_len_seq rfl T.f_len boot_len (pa_cons (pv 0) pa_nil)) (pe_op op_add (pv 4) pe_int) (nomark _))
      (pss_one (ps_BL T rfl (hr.mono (by decide)) (takes_of rfl rfl rfl rfl) (pa_cons (pe_op op_add (pv 4) pe_int) (pa_cons pe_int pa_nil))))
      pss_nil)
    (pss_one (ps_ret (pe_make T.mkr GS (hr.mono (by decide)) rfl T.g_Store bS .nil passL (pa_cons (pv 1) (pa_cons (pv 2) (pa_cons (pv 5) (pa_cons (pv 9) pa_nil)))))))))))))))), ?_⟩
  · obtain ⟨v, t, rfl, _⟩ := h
    rfl
  · obtain ⟨v, t, rfl, ty, nl, k⟩ := h
    refine ⟨_, rfl, v, t, false, rfl, ty, nl, fun H1 s1 => ?_⟩
    refine ⟨_, rfl, iteT ?_⟩
    exact ⟨_, rfl, _, _, rfl, fun d H' hd sm hx => k d H' (s1.free hd) (s1.trans sm) hx⟩
/-- a new list of ints, beside lists that are being made -/
theorem row_new {H0 H' H2 : Hp} {a b q : Addr} {ns : List Int} {oa ob : HO} (ha : H' a = some oa) (hb : H' b = some ob) (hq : H' q = none) (h2 : H2 q = some (.lst (ns.map V.int))) : LD (hid a (hid b H2)) 1 ns (.ref q) := by
  have na : q ≠ a := fun z => by rw [z, ha] at hq; cases hq
  have nb : q ≠ b := fun z => by rw [z, hb] at hq; cases hq
  exact ⟨q, _, rfl, by rw [hid_ne na, hid_ne nb]; exact h2, of_ints ns⟩
theorem ok_read_store (T : Txt K mg) : DefOk P w K mg base (L2.CX P w) 10 "read_store" ["lines"] (spRead K) := by
  obtain ⟨fS, GS, bS⟩ := fn_Store (P := P) (w := w) (base := base) T
  refine def_mk T.fn_read_store T.g_read_store sc_read_store (fun _ _ _ _ _ _ us hl => match us, hl with | [_], _ => rfl) (fun vs H Q E h => ?_) fun cdv A outer s H vs Q E hr h => ⟨_, (pss_cons (ps_if (pt_not (pt_val (pe_dn (ok_is_listed T) (hr.mono (by decide)) (pa_cons (pv 0) pa_nil))))
      (pss_one (ps_BL T rfl (hr.mono (by decide)) (takes_of rfl rfl rfl rfl) (pa_cons (pe_un un_neg pe_int) (pa_cons pe_int pa_nil))))
      pss_nil)
    (pss_cons (ps_set (i := 1) sc_read_store.nd rfl (Or.inl rfl) (pe_d (ok_asks_read T) (hr.mono (by decide)) (passes_call (takes_of rfl rfl rfl rfl) (fun _ _ _ _ h => h)) (pa_cons (pv 0) pa_nil)))
    (pss_cons (ps_set (i := 2) sc_read_store.nd rfl (Or.inl rfl) (pe_d (ok_prices_read T) (hr.mono (by decide)) (passes_call (takes_of rfl rfl rfl rfl) (fun _ _ _ _ h => h)) (pa_cons (pv 0) (pa_cons pe_int (pa_cons (pe_lst (pa_cons pe_str pa_nil)) (pa_cons pe_non pa_nil))))))
    (pss_cons (ps_set (i := 3) sc_read_store.nd rfl (Or.inl rfl) (pe_callB call_len_seq rfl T.f_len boot_len (pa_cons (pv 2) pa_nil)))
    (pss_cons (ps_set (i := 4) sc_read_store.nd rfl (Or.inl rfl) pe_int)
    (pss_cons (ps_set (i := 5) sc_read_store.nd rfl (Or.inl rfl) (pe_lst pa_nil))
    (pss_cons (ps_for (passes_of rfl) rfl (pi_str (pv 1)) (pg_name (i := 6) sc_read_store.nd rfl (.inl rfl))
      (pss_cons (ps_set (i := 7) sc_read_store.nd rfl (Or.inl rfl) (pe_lst pa_nil))
      (pss_cons (ps_for (passes_of rfl) rfl (pi_list (pv 2)) (pg_name (i := 8) sc_read_store.nd rfl (.inl rfl))
        (pss_cons (ps_expr (pe_bm PySem.F.plainAttrs_list PySem.F.slot_list_append PySem.F.type_list_append mt_append (pv 7) (pa_cons (pe_d (ok_prices_read T) (hr.mono (by decide)) (passes_call (takes_of rfl rfl rfl rfl) (fun _ _ _ _ h => h)) (pa_cons (pv 0) (pa_cons (pv 4) (pa_cons (pe_lst (pa_cons pe_str (pa_cons (pv 6) pa_nil))) (pa_cons (pv 3) pa_nil))))) pa_nil)))
        (pss_one (ps_set (i := 4) sc_read_store.nd rfl (Or.inl rfl) (pe_op op_add (pv 4) pe_int)))))
      (pss_one (ps_expr (pe_bm PySem.F.plainAttrs_list PySem.F.slot_list_append PySem.F.type_list_append mt_append (pv 5) (pa_cons (pv 7) pa_nil)))))))
    (pss_cons (ps_set (i := 9) sc_read_store.nd rfl (Or.inl rfl) (pe_d (ok_prices_read T) (hr.mono (by decide)) (passes_call (takes_of rfl rfl rfl rfl) (fun _ _ _ _ h => h)) (pa_cons (pv 0) (pa_cons (pv 4) (pa_cons (pe_lst (pa_cons pe_str pa_nil)) (pa_cons (pv 3) pa_nil))))))
    (pss_cons (ps_if (pt_cmpR op_gt (pe_callB call_len_seq rfl T.f_len boot_len (pa_cons (pv 0) pa_nil)) (pe_op op_add (pv 4) pe_int) (nomark _))
      (pss_one (ps_BL T rfl (hr.mono (by decide)) (takes_of rfl rfl rfl rfl) (pa_cons (pe_op op_add (pv 4) pe_int) (pa_cons pe_int pa_nil))))
      pss_nil)
    (pss_one (ps_ret (pe_make T.mkr GS (hr.mono (by decide)) rfl T.g_Store bS .nil passL (pa_cons (pv 1) (pa_cons (pv 2) (pa_cons (pv 5) (pa_cons (pv 9) pa_nil)))))))))))))))), ?_⟩
  · obtain ⟨l, lns, rfl, _⟩ := h
    rfl
  · obtain ⟨l, lns, rfl, hL, hS, k1, k2⟩ := h
    obtain ⟨xl, hxl, prl⟩ := id hL
    -- if not is_listed(lines)
    refine ⟨_, rfl, .ref l, _, true, rfl, .base (.lst hxl), rfl, fun H1 s1 => ?_⟩
    refine ⟨_, rfl, iteF ?_⟩
    -- asks = asks_read(lines)
    refine ⟨_, rfl, l, lns, rfl, Lines.same s1 hL, hS, fun i j e => ErrBL.same (k1 i j (by unfold readR; rw [e] <;> rfl)) s1, fun z ez H2 s2 => ?_⟩
    obtain ⟨zok, zpos, zlen⟩ := asksR_ok ez
    have t2 := s1.trans s2
    -- begins = prices_read(lines, 1, ["begins"], None)
    refine ⟨_, rfl, by show 1 ≤ sizeLine; decide, fun hd hhd => ?_⟩
    have sh := same_new (o := .lst [.str (PySem.Str.ofString "begins")]) hhd
    have t3 := t2.trans sh
    refine ⟨l, hd, 1, lns, [PySem.Str.ofString "begins"], .non, 1000, 1, rfl, by decide, Lines.same t3 hL, hS, upd_same, .inl ⟨rfl, rfl, rfl⟩, fun i j e => ErrBL.same (k1 i j (by unfold readR; rw [ez]; show (match lineR lns 1 [PySem.Str.ofString "begins"] 1000 1 with | .error e => _ | .ok b => _) = _; rw [e] <;> rfl)) t3, fun b eb => ?_⟩
    intro pb H4 hpb s4 hb4
    have t4 := t3.trans s4
    obtain ⟨bl1, bl2⟩ := lineR_len eb
    -- many = len(begins); at = 2; costs = []
    refine ⟨_, rfl, pb, _, rfl, .inl (SqL.of hb4), ?_⟩
    rw [List.length_map]
    refine ⟨Nat.zero_le _, fun pc hpc => ?_⟩
    have s5 := same_new (o := .lst []) hpc
    have eR : readR lns = match costsR lns b.length z with
      | .error e => .error e
      | .ok c => match lineR lns (2 + z.length * b.length) [PySem.Str.ofString "ends"] b.length b.length with
        | .error e => .error e
        | .ok e => if 3 + z.length * b.length < lns.length then .error (3 + z.length * b.length, 0) else .ok (z, b, c, e) := by
      unfold readR
      rw [ez]
      show (match lineR lns 1 [PySem.Str.ofString "begins"] 1000 1 with | .error e => _ | .ok b => _) = _
      rw [eb] <;> rfl
    have kE : ∀ {H'} i j, Same H H' → costsR lns b.length z = .error (i, j) → ErrBL K E H' i j := fun {H'} i j s e => ErrBL.same (k1 i j (by rw [eR, e] <;> rfl)) s
    -- for ask in asks
    refine ⟨_, rfl, z, rfl, for_it walk_str (fun i σ H' => ∃ (ts : List V) (done : List (List (List Int))) (v6 v7 v8 v9 : Option V), σ = [some (.ref l), some (.str z), some (.ref pb), some (.int b.length), some (.int ((2 + i * b.length : Nat) : Int)), some (.ref pc), v6, v7, v8, v9] ∧
      Same H4 H' ∧ H' pc = some (.lst ts) ∧ Paired (LD (hid pc H') 2) done ts ∧ done.length = i ∧ costsR lns b.length z = pre done (runE (fun k => tableR lns b.length (2 + k * b.length) (z.cps.toList.getD k 0)) i (z.length - i))) ?_ (fun _ _ _ _ _ => trivial) ?_ ?_⟩
    · exact ⟨[], [], none, none, none, none, by simp; rfl, s5, upd_same, .nil, rfl, by rw [pre_nil]; rfl⟩
    · -- one ask
      rintro i x σ H5 H5' hi ⟨ts, done, v6, v7, v8, v9, rfl, s6, hpc6, pd, hdl, inv⟩ ⟨rfl, c, hc, rfl⟩
      have hi' : i < z.length := hi
      have hc2 : z.cps.toList.getD i 0 = c := by
        have : z.cps.toList[i]? = some c := by rw [Array.getElem?_toList]; exact hc
        rw [List.getD_eq_getElem?_getD, this]
        rfl
      have ez1 : z.length - i = (z.length - (i + 1)) + 1 := by omega
      rw [ez1] at inv
      -- table = []
      refine ⟨Nat.zero_le _, fun pt hpt => ?_⟩
      have ntc : pt ≠ pc := fun y => by rw [y, hpc6] at hpt; cases hpt
      have s7 := same_new (o := .lst []) hpt
      obtain ⟨a0, ha0⟩ : ∃ a0, a0 = 2 + i * b.length := ⟨_, rfl⟩
      have ha0b : a0 ≤ 5000 := by
        have : i * b.length ≤ 4 * 1000 := Nat.mul_le_mul (by omega) bl2
        omega
      have pd7 : Paired (LD (hid pt (hid pc (upd H5' pt (.lst [])))) 2) done ts := Paired.mapP pd fun _ _ h => LD.same (fun b o e => by
        obtain ⟨n1, e1⟩ := hid_some e
        have n2 : b ≠ pt := ne_of_none e1 hpt
        rw [hid_ne n2, hid_ne n1, upd_ne n2]
        exact e1) h
      have hb7 : upd H5' pt (.lst []) pb = some (.lst (b.map V.int)) := s7 _ _ (s6 _ _ hb4)
      have hpc7 : upd H5' pt (.lst []) pc = some (.lst ts) := s7 _ _ hpc6
      rw [← ha0]
      refine ⟨_, rfl, pb, rfl, ⟨_, SqL.of hb7⟩, ?_⟩
      refine for_list (xs := b.map V.int) (fun j σ H' => ∃ (vs : List V) (rows : List (List Int)) (v8 : Option V), σ = [some (.ref l), some (.str z), some (.ref pb), some (.int b.length), some (.int ((a0 + j : Nat) : Int)), some (.ref pc), some (.str ⟨#[c]⟩), some (.ref pt), v8, v9] ∧
        Same H4 H' ∧ H' pc = some (.lst ts) ∧ H' pt = some (.lst vs) ∧ Paired (LD (hid pt (hid pc H')) 2) done ts ∧ Paired (LD (hid pt (hid pc H')) 1) rows vs ∧ rows.length = j ∧ tableR lns b.length a0 c = pre rows (runE (fun s => lineR lns (a0 + s) (CO c) b.length b.length) j (b.length - j)))
        ⟨[], [], v8, rfl, s6.trans s7, hpc7, upd_same, pd7, .nil, rfl, by rw [pre_nil]; rfl⟩ (fun j σ H' _ ⟨_, _, _, _, s8, _⟩ => SqL.of (s8 _ _ hb4)) ?_ ?_
      · -- one state
        rintro j x σ H8 hj ⟨vs, rows, v8', rfl, s8, hpc8, hpt8, pd8, pr8, hrl, inv2⟩
        have hj2 : j < b.length := by
          have := (List.getElem?_eq_some_iff.mp hj).1
          rw [List.length_map] at this
          exact this
        have ej1 : b.length - j = (b.length - (j + 1)) + 1 := by omega
        rw [ej1] at inv2
        have t8 := t4.trans s8
        refine ⟨_, rfl, .inl ⟨rfl, _, SqL.of hpt8⟩, _, rfl, _, rfl, _, rfl, by show 2 ≤ sizeLine; decide, fun hd2 hhd2 => ?_⟩
        have s9 := same_new (o := .lst [.str (PySem.Str.ofString "cost"), .str ⟨#[c]⟩]) hhd2
        have t9 := t8.trans s9
        refine ⟨_, rfl, l, hd2, a0 + j, lns, CO c, .int b.length, b.length, b.length, rfl, by omega, Lines.same t9 hL, hS, upd_same, .inr ⟨rfl, rfl, bl2⟩, fun i2 j2 e => ?_, fun ns en => ?_⟩
        · refine kE i2 j2 t9 ?_
          rw [inv]
          refine pre_err done ?_
          show tableR lns b.length (2 + i * b.length) (z.cps.toList.getD i 0) = _
          rw [← ha0, hc2, inv2]
          exact pre_err rows e
        intro q H10 hq s10 hq10
        have hpt10 := s10 _ _ (s9 _ _ hpt8)
        have hpc10 := s10 _ _ (s9 _ _ hpc8)
        have s11 := s9.trans s10
        have hq8 : H8 q = none := s9.free hq
        refine ⟨pt, vs, _, rfl, rfl, hpt10, ?_, ?_⟩
        · have e5 : rows.length = vs.length := pr8.length
          rw [sizeLine_eq]
          omega
        refine ⟨_, rfl, _, _, rfl, rfl, ?_⟩
        have gr : Same (hid pt (hid pc H8)) (hid pt (hid pc (upd H10 pt (.lst (vs ++ [.ref q]))))) := fun b o e => by
          obtain ⟨n1, e1⟩ := hid_some e
          obtain ⟨n2, e2⟩ := hid_some e1
          rw [hid_ne n1, hid_ne n2, upd_ne n1]
          exact s11 b o e2
        have nqt : q ≠ pt := fun y => by rw [y, hpt8] at hq8; cases hq8
        have nqc : q ≠ pc := fun y => by rw [y, hpc8] at hq8; cases hq8
        refine ⟨vs ++ [.ref q], rows ++ [ns], some x, ?_, same_put (s8.trans s11) ?_, ?_, upd_same, Paired.mapP pd8 fun _ _ h => LD.same gr h, Paired.snoc (Paired.mapP pr8 fun _ _ h => LD.same gr h) ?_, ?_, ?_⟩
        · have e1 : ((a0 + j : Nat) : Int) + 1 = ((a0 + (j + 1) : Nat) : Int) := by omega
          show ([some (V.ref l), some (V.str z), some (V.ref pb), some (V.int b.length), some (V.int (((a0 + j : Nat) : Int) + 1)), some (V.ref pc), some (V.str ⟨#[c]⟩), some (V.ref pt), some x, v9] : L2.St) = _
          rw [e1]
        · exact s6.free hpt
        · rw [upd_ne (Ne.symm ntc)]
          exact hpc10
        · refine ⟨q, _, rfl, ?_, of_ints ns⟩
          rw [hid_ne nqt, hid_ne nqc, upd_ne nqt]
          exact hq10
        · rw [List.length_append, List.length_singleton, hrl]
        · rw [inv2]
          exact pre_ok rows en
      · -- costs.append(table)
        rintro σ H8 ⟨vs, rows, v8', rfl, s8, hpc8, hpt8, pd8, pr8, hrl, inv2⟩
        rw [List.length_map] at hrl inv2
        rw [Nat.sub_self] at inv2
        have et : tableR lns b.length a0 c = .ok rows := by
          rw [inv2]
          show Except.ok (rows ++ []) = _
          rw [List.append_nil]
        refine ⟨_, rfl, .inl ⟨rfl, _, SqL.of hpc8⟩, _, rfl, pc, ts, _, rfl, rfl, hpc8, ?_, ?_⟩
        · have e5 : done.length = ts.length := pd8.length
          rw [sizeLine_eq]
          omega
        have gr : Same (hid pt (hid pc H8)) (hid pc (upd H8 pc (.lst (ts ++ [.ref pt])))) := fun b o e => by
          obtain ⟨n1, e1⟩ := hid_some e
          obtain ⟨n2, e2⟩ := hid_some e1
          rw [hid_ne n2, upd_ne n2]
          exact e2
        refine ⟨ts ++ [.ref pt], done ++ [rows], some (.str ⟨#[c]⟩), some (.ref pt), v8', v9, ?_, same_put s8 hpc, upd_same, Paired.snoc (Paired.mapP pd8 fun _ _ h => LD.same gr h) ?_, ?_, ?_⟩
        · have e1 : ((a0 + (b.map V.int).length : Nat) : Int) = ((2 + (i + 1) * b.length : Nat) : Int) := by
            rw [List.length_map, ha0, Nat.succ_mul]
            omega
          rw [e1]
        · refine ⟨pt, vs, rfl, ?_, Paired.mapP pr8 fun _ _ h => LD.same gr h⟩
          rw [hid_ne ntc, upd_ne ntc]
          exact hpt8
        · rw [List.length_append, List.length_singleton, hdl]
        · rw [inv]
          refine pre_ok done ?_
          show tableR lns b.length (2 + i * b.length) (z.cps.toList.getD i 0) = _
          rw [← ha0, hc2, et]
    · -- behind the loop
      rintro σ H8 ⟨ts, done, v6, v7, v8, v9, rfl, s8, hpc8, pd, hdl, inv⟩
      have hzs : z.cps.size = z.length := rfl
      rw [hzs] at hdl inv ⊢
      rw [Nat.sub_self] at inv
      have ec : costsR lns b.length z = .ok done := by
        rw [inv]
        show Except.ok (done ++ []) = _
        rw [List.append_nil]
      have t8 := t4.trans s8
      have hab : 2 + z.length * b.length ≤ 5000 := by
        have : z.length * b.length ≤ 4 * 1000 := Nat.mul_le_mul zlen bl2
        omega
      rw [ec] at eR
      -- ends = prices_read(lines, at, ["ends"], many)
      refine ⟨_, rfl, _, rfl, by show 1 ≤ sizeLine; decide, fun hd2 hhd2 => ?_⟩
      have s9 := same_new (o := .lst [.str (PySem.Str.ofString "ends")]) hhd2
      have t9 := t8.trans s9
      refine ⟨_, rfl, l, hd2, 2 + z.length * b.length, lns, [PySem.Str.ofString "ends"], .int b.length, b.length, b.length, rfl, by omega, Lines.same t9 hL, hS, upd_same, .inr ⟨rfl, rfl, bl2⟩, fun i2 j2 e => ?_, fun e ee => ?_⟩
      · refine ErrBL.same (k1 i2 j2 ?_) t9
        rw [eR]
        show (match lineR lns (2 + z.length * b.length) [PySem.Str.ofString "ends"] b.length b.length with | .error e => _ | .ok e => _) = _
        rw [e] <;> rfl
      intro q H10 hq s10 hq10
      have s11 := s9.trans s10
      have t11 := t8.trans s11
      obtain ⟨el1, el2⟩ := lineR_len ee
      have eR2 : readR lns = if 3 + z.length * b.length < lns.length then .error (3 + z.length * b.length, 0) else .ok (z, b, done, e) := by
        rw [eR]
        show (match lineR lns (2 + z.length * b.length) [PySem.Str.ofString "ends"] b.length b.length with | .error e => _ | .ok e => _) = _
        rw [ee] <;> rfl
      refine ⟨_, rfl, l, _, rfl, .inl (SqL.of (t11 _ _ hxl)), _, rfl, _, _, rfl, rfl, ?_⟩
      refine ⟨_, _, rfl, rfl, _, rfl, it2 (fun h1 => ?_) (fun h1 => ?_)⟩
      · have h2 : 3 + z.length * b.length < lns.length := by
          have h3 := of_decide_eq_true h1
          have h4 := prl.length
          omega
        refine ⟨_, rfl, _, _, rfl, rfl, _, _, rfl, ?_⟩
        have e1 : (((2 + z.length * b.length : Nat) : Int) + 1) = ((3 + z.length * b.length : Nat) : Int) := by omega
        have kk := ErrBL.same (k1 (3 + z.length * b.length) 0 (by rw [eR2, if_pos h2])) t11
        exact fun d H' hd sm hx => kk d H' hd sm (hx.trans (by
          show some (HO.xd [(("word" : Str), V.int 0), (("line" : Str), V.int (((2 + z.length * b.length : Nat) : Int) + 1))]) = _
          rw [e1] <;> rfl))
      · have h2 : ¬ 3 + z.length * b.length < lns.length := by
          have h3 := of_decide_eq_false h1
          have h4 := prl.length
          omega
        have kk := k2 z b done e (by rw [eR2, if_neg h2])
        obtain ⟨rl1, rl2⟩ := runE_ok ec
        -- Store(..)
        refine ⟨_, rfl, _, rfl, _, rfl, _, rfl, fun x dx hx hdx ne => ?_⟩
        have sx := (same_new (o := .own x) hdx).trans (same_new (H := upd H10 dx (.own x)) (p := x) (o := .ins (He.ga K "Store") dx []) (by rw [upd_ne (Ne.symm ne)]; exact hx))
        refine ⟨x, dx, z, _, _, _, b, done, e, rfl, upd_same, zok, zlen, ?_, ?_, ?_, ⟨bl1, bl2, rl1, fun t ht => ?_, by show e.length = b.length; omega⟩, fun H' kb st => ⟨rfl, ?_⟩⟩
        · exact LD.same ((s8.trans s11).trans sx) ⟨pb, _, rfl, hb4, of_ints b⟩
        · exact ⟨pc, ts, rfl, sx _ _ (s11 _ _ hpc8), Paired.mapP pd fun _ _ h => LD.same (((hid_le pc H8).trans s11).trans sx) h⟩
        · exact LD.same sx ⟨q, _, rfl, hq10, of_ints e⟩
        · obtain ⟨j, hj⟩ := rl2 t ht
          obtain ⟨r1, r2⟩ := runE_ok hj
          refine ⟨r1, fun r hr => ?_⟩
          obtain ⟨j2, hj2⟩ := r2 r hr
          obtain ⟨l1, l2⟩ := lineR_len hj2
          show r.length = b.length
          omega
        · refine kk x H' (fun b o hbo => ?_) st
          have h10 := t11 b o hbo
          have nb : b ≠ x := ne_of_none h10 hx
          exact kb b o nb (sx b o h10)
end Aw
set_option maxHeartbeats 4000000
/-! The law's cells, its source, the draws. -/
namespace Aw
open PySem PySem.Spec PyProof.Rows L2
section
variable {X : Cx}
/-- a text times an int -/
theorem op_mul_str : OpR X (binaryOp .Mult) (fun x y H Q => ∃ (a : Str) (n : Int), x = .str a ∧ y = .int n ∧ PySem.MulOk a n ∧ Q (.str (PySem.Txt.mul a n)) H) := by
  intro pins s σ H x y v u Q I rx ry h
  obtain ⟨a, n, rfl, rfl, hok, q⟩ := h
  obtain ⟨t, rfl⟩ := rx
  obtain ⟨t', rfl⟩ := ry
  exact PySem.SB.mul hok fun t' k => ⟨.str (PySem.Txt.mul a n), H, I.tok _, ⟨t', rfl⟩, q⟩
/-- a thing that is no bool, is True | False -/
def noBl : V → Bool
  | .int _ => true
  | .str _ => true
  | .ref _ => true
  | _ => false
theorem op_isB : OpR X (compareOp .Is) (fun x y H Q => (∃ b, y = .bl b) ∧ noBl x = true ∧ Q (.bl false) H) := by
  intro pins s σ H x y v u Q I rx ry h
  obtain ⟨⟨b, rfl⟩, nb, q⟩ := h
  cases (show u = Value.bool b from ry)
  cases x <;> first | (cases nb; done) | skip
  · obtain ⟨t, rfl⟩ := rx
    exact wpAny_is_other rfl (fun z => nomatch z) ⟨.bl false, H, I, rfl, q⟩
  · obtain ⟨t, rfl⟩ := rx
    exact wpAny_is_other rfl (fun z => nomatch z) ⟨.bl false, H, I, rfl, q⟩
  · cases rx
    exact wpAny_is_other rfl (fun z => nomatch z) ⟨.bl false, H, I, rfl, q⟩
end
variable {P : Program} {w : World} {K : PySem.W.Frag} {mg : Str → Option Value} {base : Heap}
def spCellL (K : PySem.W.Frag) : Sp := fun vs H Q _ => ∃ (a : Addr) (ns : List Int) (k : Nat), vs = [.ref a, .int k] ∧ SqL K H a (ns.map V.int) ∧ ∀ i H', Same H H' → Q (.int i) H'
theorem cut_ints (ns : List Int) : ∃ ms : List Int, cutV (ns.map V.int) none (some 1) = ms.map V.int := by
  refine ⟨(ns.drop (HT.sIx (ns.map V.int).length 0 none)).take (HT.sIx (ns.map V.int).length (ns.map V.int).length (some 1) - HT.sIx (ns.map V.int).length 0 none), ?_⟩
  rw [List.map_take, List.map_drop]
  rfl
theorem sc_l_cell : FnScope ["_law_script", "_law_k"] ["_law_script", "_law_k"] (defScope s_l_cell) := ⟨rfl, rfl, rfl, by decide +kernel, rfl, by decide +kernel, by decide +kernel⟩
theorem ok_l_cell (T : Txt K mg) : DefOk P w K mg base (L2.CX P w) 1 "_law_cell" ["_law_script", "_law_k"] (spCellL K) := by
  refine def_mk T.fn_l_cell T.g_l_cell sc_l_cell (fun _ _ _ _ _ _ us hl => match us, hl with | [_, _], _ => rfl) (fun vs H Q E h => ?_) fun cdv A outer s H vs Q E hr h => ⟨_, (pss_cons (ps_if (pt_cmpR op_lt (pv 1) (pe_callB call_len_seq rfl T.f_len boot_len (pa_cons (pv 0) pa_nil)) (nomark _))
      (pss_one (ps_ret (pe_ix ix_list (pv 0) (pv 1) (fun _ _ => rfl))))
      pss_nil)
    (pss_one (ps_ret (pe_op op_add (pe_op op_mul pe_int (pe_op op_add (pv 1) pe_int)) (pe_op op_mul pe_int (pe_op op_mod (pe_callTy call_int1 rfl T.f_int boot_int (pa_cons (pe_callB (cr_sum rfl) rfl T.f_sum boot_sum (pa_cons (pe_slice sl_list (pv 0) po_none (po_some pe_int)) pa_nil)) pa_nil)) pe_int)))))), ?_⟩
  · obtain ⟨a, ns, k, rfl, _⟩ := h
    rfl
  · obtain ⟨a, ns, k, rfl, hs, q⟩ := h
    refine ⟨_, rfl, _, rfl, a, _, rfl, .inl hs, _, _, rfl, rfl, _, rfl, it2 (fun h1 => ?_) (fun h1 => ?_)⟩
    · have h2 : k < ns.length := by
        have := of_decide_eq_true h1
        rw [List.length_map] at this
        omega
      have h3 : (ns.map V.int)[k]? = some (V.int ns[k]) := by rw [List.getElem?_map, List.getElem?_eq_getElem h2]; rfl
      exact ⟨_, rfl, _, rfl, a, _, _, _, rfl, rfl, hs, atI_nat h3, q _ H (Same.refl _)⟩
    · obtain ⟨ms, em⟩ := cut_ints ns
      refine ⟨_, rfl, _, _, rfl, rfl, _, _, rfl, rfl, .inl ⟨by decide, by decide⟩, ?_⟩
      refine ⟨_, rfl, _, rfl, a, _, rfl, hs, fun p hp => ⟨p, ms, rfl, SqL.of (by rw [em]; exact upd_same), ?_⟩⟩
      refine .inl ⟨_, rfl, _, _, rfl, rfl, (by decide : (0 : Int) < 1000003), _, _, rfl, rfl, .inl ⟨by decide, by decide⟩, _, _, rfl, rfl, q _ _ (same_new hp)⟩
/-- a source of draws at a -/
def Src (H : Hp) (a : Addr) : Prop := ∃ n m c : Int, H a = some (.lst [.int n, .int m, .int c]) ∧ 0 ≤ n ∧ 0 ≤ m ∧ m < 2147483647
/-- draws: only what stands at a is new, and it is a source -/
def Drawn (a : Addr) (H H' : Hp) : Prop := Same (hid a H) (hid a H') ∧ Src H' a
def spSource (K : PySem.W.Frag) : Sp := fun vs H Q _ => ∃ (a : Addr) (ns : List Int) (k : Nat), vs = [.ref a, .int k] ∧ SqL K H a (ns.map V.int) ∧ ∀ p H', Same H H' → H p = none → Src H' p → Q (.ref p) H'
theorem sc_l_source : FnScope ["_law_script", "_law_k", "_law_cell_here", "_law_number", "_law_mixed"] ["_law_script", "_law_k"] (defScope s_l_source) := ⟨rfl, rfl, rfl, by decide +kernel, rfl, by decide +kernel, by decide +kernel⟩
theorem ok_l_source (T : Txt K mg) : DefOk P w K mg base (L2.CX P w) 2 "_law_source" ["_law_script", "_law_k"] (spSource K) := by
  refine def_mk T.fn_l_source T.g_l_source sc_l_source (fun _ _ _ _ _ _ us hl => match us, hl with | [_, _], _ => rfl) (fun vs H Q E h => ?_) fun cdv A outer s H vs Q E hr h => ⟨_, (pss_cons (ps_set (i := 2) sc_l_source.nd rfl (Or.inl rfl) (pe_dn (ok_l_cell T) (hr.mono (by decide)) (pa_cons (pv 0) (pa_cons (pv 1) pa_nil))))
    (pss_cons (ps_set (i := 3) sc_l_source.nd rfl (Or.inl rfl) (pe_callB call_abs rfl T.f_abs boot_abs (pa_cons (pv 2) pa_nil)))
    (pss_cons (ps_if (pt_cmpR op_ne (pe_op op_shr (pv 3) pe_int) pe_int (nomark _))
      (pss_one (ps_set (i := 3) sc_l_source.nd rfl (Or.inl rfl) (pe_op op_mod (pe_callTy call_int1 rfl T.f_int boot_int (pa_cons (pv 3) pa_nil)) (pe_op op_pow pe_int pe_int))))
      pss_nil)
    (pss_cons (ps_set (i := 4) sc_l_source.nd rfl (Or.inl rfl) (pe_op op_mod (pe_callTy call_int1 rfl T.f_int boot_int (pa_cons (pe_op op_add (pe_op op_add (pe_op op_add (pe_op op_mul (pe_op op_mod (pe_callTy call_int1 rfl T.f_int boot_int (pa_cons (pv 3) pa_nil)) pe_int) pe_int) (pe_op op_mul pe_int (pv 1))) pe_int) (pe_callTy call_int1 rfl T.f_int boot_int (pa_cons (pe_cmpR op_lt (pv 2) pe_int (nomark _)) pa_nil))) pa_nil)) pe_int))
    (pss_cons (ps_if (pt_cmpR op_ge (pv 3) (pe_op op_pow pe_int pe_int) (nomark _))
      (pss_one (ps_ret (pe_lst (pa_cons (pv 3) (pa_cons (pv 4) (pa_cons pe_int pa_nil))))))
      pss_nil)
    (pss_one (ps_ret (pe_lst (pa_cons pe_int (pa_cons (pv 4) (pa_cons pe_int pa_nil))))))))))), ?_⟩
  · obtain ⟨a, ns, k, rfl, _⟩ := h
    rfl
  · obtain ⟨a, ns, k, rfl, hs, q⟩ := h
    refine ⟨_, rfl, _, rfl, a, ns, k, rfl, hs, fun i H1 s1 => ?_⟩
    refine ⟨_, rfl, i, rfl, ?_⟩
    obtain ⟨j, hj, hj0⟩ : ∃ j : Int, j = (if i < 0 then -i else i) ∧ 0 ≤ j := ⟨_, rfl, by split <;> omega⟩
    rw [← hj]
    refine ⟨_, rfl, _, _, rfl, rfl, (by decide : (0 : Int) ≤ 36000), rfl, _, rfl, it2 (fun h1 => ?_) (fun h1 => ?_)⟩
    · obtain ⟨j2, e2, h2⟩ : ∃ j2 : Int, j2 = j % (10 : Int) ^ (60 : Int).toNat ∧ 0 ≤ j2 := ⟨_, rfl, Int.emod_nonneg _ (by decide)⟩
      refine ⟨_, rfl, .inl ⟨_, rfl, _, _, rfl, rfl, ⟨by decide, by decide, by decide⟩, _, _, rfl, rfl, (by decide : (0 : Int) < (10 : Int) ^ (60 : Int).toNat), ?_⟩⟩
      show gName 3 (V.int (j % (10 : Int) ^ (60 : Int).toNat)) _ _ _
      rw [← e2]
      refine ⟨_, rfl, .inl ⟨_, rfl, _, _, rfl, rfl, (by decide : (0 : Int) < 2147483629), _, _, rfl, rfl, .inr ⟨by decide, by decide⟩, _, rfl, _, _, rfl, rfl, .inl ⟨by decide, by decide⟩, _, _, rfl, rfl, _, _, rfl, rfl, ?_⟩⟩
      refine ⟨_, rfl, _, _, rfl, rfl, .inr ⟨_, rfl, _, _, rfl, rfl, .inl ⟨_, rfl, _, _, rfl, rfl, (by decide : (0 : Int) < 2147483647), ?_⟩⟩⟩
      refine ⟨_, rfl, _, _, rfl, rfl, ⟨by decide, by decide, by decide⟩, _, _, rfl, rfl, _, rfl, it2 (fun h3 => ?_) (fun h3 => ?_)⟩
      · refine ⟨_, rfl, _, rfl, by show 3 ≤ sizeLine; decide, fun p hp => ?_⟩
        exact q p _ (s1.trans (same_new hp)) (s1.free hp) ⟨_, _, _, upd_same, h2, Int.emod_nonneg _ (by decide), Int.emod_lt_of_pos _ (by decide)⟩
      · refine ⟨_, rfl, by show 3 ≤ sizeLine; decide, fun p hp => ?_⟩
        exact q p _ (s1.trans (same_new hp)) (s1.free hp) ⟨_, _, _, upd_same, Int.le_refl _, Int.emod_nonneg _ (by decide), Int.emod_lt_of_pos _ (by decide)⟩
    · skip
      refine ⟨_, rfl, .inl ⟨_, rfl, _, _, rfl, rfl, (by decide : (0 : Int) < 2147483629), _, _, rfl, rfl, .inr ⟨by decide, by decide⟩, _, rfl, _, _, rfl, rfl, .inl ⟨by decide, by decide⟩, _, _, rfl, rfl, _, _, rfl, rfl, ?_⟩⟩
      refine ⟨_, rfl, _, _, rfl, rfl, .inr ⟨_, rfl, _, _, rfl, rfl, .inl ⟨_, rfl, _, _, rfl, rfl, (by decide : (0 : Int) < 2147483647), ?_⟩⟩⟩
      refine ⟨_, rfl, _, _, rfl, rfl, ⟨by decide, by decide, by decide⟩, _, _, rfl, rfl, _, rfl, it2 (fun h3 => ?_) (fun h3 => ?_)⟩
      · refine ⟨_, rfl, _, rfl, by show 3 ≤ sizeLine; decide, fun p hp => ?_⟩
        exact q p _ (s1.trans (same_new hp)) (s1.free hp) ⟨_, _, _, upd_same, hj0, Int.emod_nonneg _ (by decide), Int.emod_lt_of_pos _ (by decide)⟩
      · refine ⟨_, rfl, by show 3 ≤ sizeLine; decide, fun p hp => ?_⟩
        exact q p _ (s1.trans (same_new hp)) (s1.free hp) ⟨_, _, _, upd_same, Int.le_refl _, Int.emod_nonneg _ (by decide), Int.emod_lt_of_pos _ (by decide)⟩
end Aw
set_option maxHeartbeats 4000000
/-! Draws; the tables that are drawn. -/
namespace Aw
open PySem PySem.Spec PyProof.Rows L2
variable {P : Program} {w : World} {K : PySem.W.Frag} {mg : Str → Option Value} {base : Heap}
theorem Drawn.refl {a : Addr} {H : Hp} (s : Src H a) : Drawn a H H := ⟨Same.refl _, s⟩
theorem Drawn.trans {a : Addr} {H H1 H2 : Hp} (x : Drawn a H H1) (y : Drawn a H1 H2) : Drawn a H H2 := ⟨x.1.trans y.1, y.2⟩
theorem Src.at {a : Addr} {H : Hp} (s : Src H a) : ∃ o, H a = some o := by
  obtain ⟨n, m, c, h, _⟩ := s
  exact ⟨_, h⟩
theorem Src.ne {a D : Addr} {H : Hp} (s : Src H a) (h : H D = none) : D ≠ a := fun z => by
  obtain ⟨o, e⟩ := s.at
  rw [← z, h] at e
  cases e
theorem Src.same {a : Addr} {H H' : Hp} (s : Src H a) (e : Same H H') : Src H' a := by
  obtain ⟨n, m, c, h, r⟩ := s
  exact ⟨n, m, c, e _ _ h, r⟩
theorem Drawn.more {a : Addr} {H H1 H2 : Hp} (x : Drawn a H H1) (e : Same H1 H2) : Drawn a H H2 := ⟨x.1.trans (hid_same e), x.2.same e⟩
/-- D was new at H: what is put there leaves H's things be -/
theorem Drawn.put {a D : Addr} {H H1 : Hp} {o : HO} (x : Drawn a H H1) (s : Src H a) (hD : H D = none) : Drawn a H (upd H1 D o) := by
  have nD := s.ne hD
  refine ⟨fun b u h => ?_, ?_⟩
  · obtain ⟨n1, h1⟩ := hid_some h
    have nb : b ≠ D := ne_of_none h1 hD
    rw [hid_ne n1, upd_ne nb]
    have h2 := x.1 b u h
    rw [hid_ne n1] at h2
    exact h2
  · obtain ⟨n, m, c, h, r⟩ := x.2
    exact ⟨n, m, c, by rw [upd_ne (Ne.symm nD)]; exact h, r⟩
theorem Drawn.keep {a D : Addr} {H H1 : Hp} {o : HO} (x : Drawn a H H1) (n : D ≠ a) (h : H D = some o) : H1 D = some o := by
  have h2 := x.1 D o (by rw [hid_ne n]; exact h)
  rw [hid_ne n] at h2
  exact h2
def spDraw : Sp := fun vs H Q _ => ∃ (a : Addr) (n : Int), vs = [.ref a, .int n] ∧ 0 < n ∧ n < 1073741824 ∧ Src H a ∧ ∀ d H', 0 ≤ d → d < n → Drawn a H H' → Q (.int d) H'
theorem src_put {a : Addr} {H : Hp} (n m c : Int) (h0 : 0 ≤ n) (h1 : 0 ≤ m) (h2 : m < 2147483647) : Drawn a H (upd H a (.lst [.int n, .int m, .int c])) := ⟨hid_put, n, m, c, upd_same, h0, h1, h2⟩
theorem sc_l_draw : FnScope ["_law_source_here", "_law_many", "_law_digit", "_law_mixed"] ["_law_source_here", "_law_many"] (defScope s_l_draw) := ⟨rfl, rfl, rfl, by decide +kernel, rfl, by decide +kernel, by decide +kernel⟩
theorem ok_l_draw (T : Txt K mg) : DefOk P w K mg base (L2.CX P w) 1 "_law_draw" ["_law_source_here", "_law_many"] spDraw := by
  refine def_mk T.fn_l_draw T.g_l_draw sc_l_draw (fun _ _ _ _ _ _ us hl => match us, hl with | [_, _], _ => rfl) (fun vs H Q E h => ?_) fun cdv A outer s H vs Q E hr h => ⟨_, (pss_cons (ps_if (pt_cmpR op_gt (pe_ix ix_list (pv 0) pe_int (fun _ _ => rfl)) pe_int (nomark _))
      (pss_cons (ps_set (i := 2) sc_l_draw.nd rfl (Or.inl rfl) (pe_op op_mod (pe_callTy call_int1 rfl T.f_int boot_int (pa_cons (pe_ix ix_list (pv 0) pe_int (fun _ _ => rfl)) pa_nil)) (pv 1)))
      (pss_cons (ps_asg (pe_op op_fdiv (pe_ix ix_list (pv 0) pe_int (fun _ _ => rfl)) (pv 1)) (pg_sub (pv 0) pe_int set_list))
      (pss_one (ps_ret (pv 2)))))
      pss_nil)
    (pss_cons (ps_asg (pe_op op_add (pe_ix ix_list (pv 0) pe_int (fun _ _ => rfl)) pe_int) (pg_sub (pv 0) pe_int set_list))
    (pss_cons (ps_asg (pe_op op_mod (pe_callTy call_int1 rfl T.f_int boot_int (pa_cons (pe_op op_add (pe_op op_add (pe_op op_mul (pe_ix ix_list (pv 0) pe_int (fun _ _ => rfl)) pe_int) (pe_op op_mul (pe_ix ix_list (pv 0) pe_int (fun _ _ => rfl)) pe_int)) pe_int) pa_nil)) pe_int) (pg_sub (pv 0) pe_int set_list))
    (pss_cons (ps_set (i := 3) sc_l_draw.nd rfl (Or.inl rfl) (pe_op op_mod (pe_callTy call_int1 rfl T.f_int boot_int (pa_cons (pe_op op_add (pe_op op_mul (pe_ix ix_list (pv 0) pe_int (fun _ _ => rfl)) (pe_op op_add (pe_ix ix_list (pv 0) pe_int (fun _ _ => rfl)) pe_int)) (pe_op op_mul (pe_ix ix_list (pv 0) pe_int (fun _ _ => rfl)) pe_int)) pa_nil)) pe_int))
    (pss_one (ps_ret (pe_op op_mod (pe_callTy call_int1 rfl T.f_int boot_int (pa_cons (pe_op op_fdiv (pv 3) pe_int) pa_nil)) (pv 1)))))))), ?_⟩
  · obtain ⟨a, n, rfl, _⟩ := h
    rfl
  · obtain ⟨a, n, rfl, n0, n1, ⟨x, m, c, ha, hx, hm, hm2⟩, q⟩ := h
    refine ⟨_, rfl, a, _, _, _, rfl, rfl, SqL.of ha, atI_nat (j := 0) rfl, _, _, rfl, rfl, _, rfl, it2 (fun h1 => ?_) (fun h1 => ?_)⟩
    · refine ⟨_, rfl, a, _, _, _, rfl, rfl, SqL.of ha, atI_nat (j := 0) rfl, .inl ⟨_, rfl, _, rfl, _, _, rfl, rfl, n0, ?_⟩⟩
      refine ⟨_, rfl, a, _, _, _, rfl, rfl, SqL.of ha, atI_nat (j := 0) rfl, _, rfl, _, _, rfl, rfl, ⟨n0, n1⟩, _, rfl, a, _, _, 0, rfl, rfl, ha, rfl, ?_⟩
      exact ⟨_, rfl, q _ _ (Int.emod_nonneg _ (Int.ne_of_gt n0)) (Int.emod_lt_of_pos _ n0) (src_put _ _ _ (Int.ediv_nonneg hx (Int.le_of_lt n0)) hm hm2)⟩
    · refine ⟨_, rfl, a, _, _, _, rfl, rfl, SqL.of ha, atI_nat (j := 2) rfl, _, _, rfl, rfl, _, rfl, a, _, _, 2, rfl, rfl, ha, rfl, ?_⟩
      have h2 : upd H a (.lst (List.set [V.int x, .int m, .int c] 2 (.int (c + 1)))) a = some (.lst [.int x, .int m, .int (c + 1)]) := upd_same
      refine ⟨_, rfl, a, _, _, _, rfl, rfl, SqL.of h2, atI_nat (j := 1) rfl, _, _, rfl, rfl, .inr ⟨by decide, by decide⟩, _, rfl, a, _, _, _, rfl, rfl, SqL.of h2, atI_nat (j := 2) rfl, _, _, rfl, rfl, .inr ⟨by decide, by decide⟩, _, _, rfl, rfl, _, _, rfl, rfl, ?_⟩
      refine .inl ⟨_, rfl, _, _, rfl, rfl, (by decide : (0 : Int) < 2147483647), _, rfl, a, _, _, 1, rfl, rfl, h2, rfl, ?_⟩
      obtain ⟨m2, e2, hm3, hm4⟩ : ∃ m2 : Int, m2 = (m * 48271 + (c + 1) * 69621 + 11) % 2147483647 ∧ 0 ≤ m2 ∧ m2 < 2147483647 := ⟨_, rfl, Int.emod_nonneg _ (by decide), Int.emod_lt_of_pos _ (by decide)⟩
      show Ends.nx _ _ (upd (upd H a (.lst (List.set [V.int x, .int m, .int c] 2 (.int (c + 1))))) a (.lst (List.set [V.int x, .int m, .int (c + 1)] 1 (.int ((m * 48271 + (c + 1) * 69621 + 11) % 2147483647)))))
      rw [← e2]
      obtain ⟨H2, e3⟩ : ∃ H2, H2 = upd (upd H a (.lst (List.set [V.int x, .int m, .int c] 2 (.int (c + 1))))) a (.lst (List.set [V.int x, .int m, .int (c + 1)] 1 (.int m2))) := ⟨_, rfl⟩
      have h4 : H2 a = some (.lst [.int x, .int m2, .int (c + 1)]) := by rw [e3]; exact upd_same
      have d4 : Drawn a H H2 := by
        rw [e3]
        exact (src_put x m (c + 1) hx hm hm2).trans (src_put x m2 (c + 1) hx hm3 hm4)
      rw [← e3]
      refine ⟨_, rfl, a, _, _, _, rfl, rfl, SqL.of h4, atI_nat (j := 1) rfl, _, rfl, a, _, _, _, rfl, rfl, SqL.of h4, atI_nat (j := 1) rfl, _, _, rfl, rfl, _, _, rfl, rfl, .inl ⟨by omega, by omega⟩, ?_⟩
      refine ⟨_, rfl, a, _, _, _, rfl, rfl, SqL.of h4, atI_nat (j := 2) rfl, _, _, rfl, rfl, .inr ⟨by decide, by decide⟩, _, _, rfl, rfl, .inl ⟨_, rfl, _, _, rfl, rfl, (by decide : (0 : Int) < 2147483629), ?_⟩⟩
      refine ⟨_, rfl, _, _, rfl, rfl, ⟨by decide, by decide⟩, .inl ⟨_, rfl, _, rfl, _, _, rfl, rfl, n0, ?_⟩⟩
      exact q _ _ (Int.emod_nonneg _ (Int.ne_of_gt n0)) (Int.emod_lt_of_pos _ n0) d4
/-! ### nested lists, no longer than m, of ints no greater than B -/
def Bx (H : Hp) (m : Nat) (B : Int) : Nat → V → Prop
  | 0, v => ∃ i : Int, v = .int i ∧ -B ≤ i ∧ i ≤ B
  | n + 1, v => ∃ (p : Addr) (vs : List V), v = .ref p ∧ H p = some (.lst vs) ∧ vs.length ≤ m ∧ ∀ x ∈ vs, Bx H m B n x
theorem Bx.same {H H' : Hp} {m : Nat} {B : Int} (e : Same H H') : ∀ {n : Nat} {v : V}, Bx H m B n v → Bx H' m B n v
  | 0, _, h => h
  | n + 1, _, ⟨p, vs, hv, hp, hl, r⟩ => ⟨p, vs, hv, e _ _ hp, hl, fun x hx => Bx.same e (r x hx)⟩
theorem Bx.mono {H : Hp} {m : Nat} {B C : Int} (h : B ≤ C) : ∀ {n : Nat} {v : V}, Bx H m B n v → Bx H m C n v
  | 0, _, ⟨i, e, h1, h2⟩ => ⟨i, e, by omega, by omega⟩
  | n + 1, _, ⟨p, vs, hv, hp, hl, r⟩ => ⟨p, vs, hv, hp, hl, fun x hx => Bx.mono h (r x hx)⟩
/-- what is new -/
def New (H H' : Hp) : Hp := fun b => match H b with
  | none => H' b
  | some _ => none
theorem new_some {H H' : Hp} {b : Addr} {o : HO} (h : New H H' b = some o) : H b = none ∧ H' b = some o := by
  unfold New at h
  cases e : H b with
  | none => rw [e] at h; exact ⟨rfl, h⟩
  | some u => rw [e] at h; cases h
theorem new_of {H H' : Hp} {b : Addr} (h : H b = none) : New H H' b = H' b := by
  unfold New
  rw [h]
theorem new_le {H H' : Hp} : Same (New H H') H' := fun _ _ h => (new_some h).2
theorem new_hid {a : Addr} {H H' : Hp} (s : Src H a) : Same (New H H') (hid a H') := fun b o h => by
  obtain ⟨h1, h2⟩ := new_some h
  rw [hid_ne (s.ne h1)]
  exact h2
theorem Drawn.old {a b : Addr} {H H' : Hp} (d : Drawn a H H') (h : H' b = none) : H b = none := by
  cases e : H b with
  | none => rfl
  | some o =>
    have nb : b ≠ a := d.2.ne h
    rw [d.keep nb e] at h
    cases h
theorem new_first {a : Addr} {H H1 H2 : Hp} (d : Drawn a H H1) : Same (New H1 H2) (New H H2) := fun b o h => by
  obtain ⟨h1, h2⟩ := new_some h
  rw [new_of (d.old h1)]
  exact h2
theorem new_more {a : Addr} {H H1 H2 : Hp} (s : Src H a) (d : Drawn a H1 H2) : Same (New H H1) (New H H2) := fun b o h => by
  obtain ⟨h1, h2⟩ := new_some h
  rw [new_of h1]
  exact d.keep (s.ne h1) h2
/-- a comprehension | a loop that makes things with draws: the list is being made at D -/
def Making (a D : Addr) (F : Hp → V → Prop) (i : Nat) (H0 H : Hp) : Prop := Drawn a H0 H ∧ ∃ ys, H D = some (.lst ys) ∧ ys.length = i ∧ ∀ y ∈ ys, F (hid D (New H0 H)) y
theorem Making.start {a D : Addr} {F : Hp → V → Prop} {H0 : Hp} (s : Src H0 a) (hD : H0 D = none) : Making a D F 0 H0 (upd H0 D (.lst [])) := ⟨(Drawn.refl s).put s hD, [], upd_same, rfl, fun y hy => by cases hy⟩
/-- what is drawn anew while the list is being made -/
theorem Making.step {a D : Addr} {F : Hp → V → Prop} {i : Nat} {H0 H H2 : Hp} {y : V} (mono : ∀ H H' v, Same H H' → F H v → F H' v) (s : Src H0 a) (hD : H0 D = none) (k : Making a D F i H0 H) (d : Drawn a H H2) (hi : i < 1000) (hy : F (New H H2) y) :
    ∃ acc, H2 D = some (.lst acc) ∧ acc.length < sizeLine ∧ Making a D F (i + 1) H0 (upd H2 D (.lst (acc ++ [y]))) := by
  obtain ⟨dr, ys, hys, hl, hF⟩ := k
  have nD := s.ne hD
  have h2 := d.keep nD hys
  have gr : Same (hid D (New H0 H)) (hid D (New H0 (upd H2 D (.lst (ys ++ [y]))))) := fun b o e => by
    obtain ⟨n1, e1⟩ := hid_some e
    obtain ⟨n2, e2⟩ := new_some e1
    rw [hid_ne n1, new_of n2, upd_ne n1]
    exact d.keep (s.ne n2) e2
  have gr2 : Same (New H H2) (hid D (New H0 (upd H2 D (.lst (ys ++ [y]))))) := fun b o e => by
    obtain ⟨n2, e2⟩ := new_some e
    have n1 : b ≠ D := fun z => by rw [z, hys] at n2; cases n2
    rw [hid_ne n1, new_of (dr.old n2), upd_ne n1]
    exact e2
  refine ⟨ys, h2, by rw [sizeLine_eq]; omega, (dr.trans d).put s hD, ys ++ [y], upd_same, by rw [List.length_append, List.length_singleton, hl], fun z hz => ?_⟩
  rcases List.mem_append.mp hz with hz | hz
  · exact mono _ _ _ gr (hF z hz)
  · rw [List.mem_singleton.mp hz]
    exact mono _ _ _ gr2 hy
/-- the list that was made -/
theorem Making.done {a D : Addr} {m i n : Nat} {B : Int} {H0 H : Hp} (hD : H0 D = none) (k : Making a D (fun H v => Bx H m B n v) i H0 H) (hi : i ≤ m) : Drawn a H0 H ∧ Bx (New H0 H) m B (n + 1) (.ref D) := by
  obtain ⟨dr, ys, hys, hl, hF⟩ := k
  exact ⟨dr, D, ys, rfl, by rw [new_of hD]; exact hys, by omega, fun x hx => Bx.same (hid_le D _) (hF x hx)⟩
def spAsks : Sp := fun vs H Q _ => ∃ a, vs = [.ref a] ∧ Src H a ∧ ∀ s H', 1 ≤ s.length → s.length ≤ 3 → Drawn a H H' → Q (.str s) H'
theorem atI_of {α : Type} {xs : List α} {d : Int} (h0 : 0 ≤ d) (h1 : d < xs.length) : ∃ x, x ∈ xs ∧ atI xs d = some x ∧ xs[d.toNat]? = some x := by
  have h2 : d.toNat < xs.length := by omega
  refine ⟨xs[d.toNat], List.getElem_mem h2, ?_, List.getElem?_eq_getElem h2⟩
  have := atI_nat (xs := xs) (j := d.toNat) (List.getElem?_eq_getElem h2)
  rwa [Int.toNat_of_nonneg h0] at this
theorem sc_l_asks : FnScope ["_law_source_here"] ["_law_source_here"] (defScope s_l_asks) := ⟨rfl, rfl, rfl, by decide +kernel, rfl, by decide +kernel, by decide +kernel⟩
theorem ok_l_asks (T : Txt K mg) : DefOk P w K mg base (L2.CX P w) 2 "_law_asks" ["_law_source_here"] spAsks := by
  refine def_mk T.fn_l_asks T.g_l_asks sc_l_asks (fun _ _ _ _ _ _ us hl => match us, hl with | [_], _ => rfl) (fun vs H Q E h => ?_) fun cdv A outer s H vs Q E hr h => ⟨_, (pss_one (ps_ret (pe_ix ix_list (pe_lst (pa_cons pe_str (pa_cons pe_str (pa_cons pe_str (pa_cons pe_str (pa_cons pe_str (pa_cons pe_str (pa_cons pe_str (pa_cons pe_str pa_nil))))))))) (pe_dn (ok_l_draw T) (hr.mono (by decide)) (pa_cons (pv 0) (pa_cons pe_int pa_nil))) (fun _ _ => rfl)))), ?_⟩
  · obtain ⟨a, rfl, _⟩ := h
    rfl
  · obtain ⟨a, rfl, hs, q⟩ := h
    refine ⟨by show 8 ≤ sizeLine; decide, fun p hp => ?_⟩
    have sp := same_new (o := .lst (["ab", "ab", "bf", "acd", "ah", "a", "ab", "ce"].map fun z => V.str (PySem.Str.ofString z))) hp
    refine ⟨_, rfl, a, 8, rfl, by decide, by decide, hs.same sp, fun d H' d0 d8 dr => ?_⟩
    have hp2 := dr.keep (hs.ne hp) upd_same
    obtain ⟨x, hx, hat, _⟩ := atI_of (xs := ["ab", "ab", "bf", "acd", "ah", "a", "ab", "ce"].map fun z => V.str (PySem.Str.ofString z)) d0 d8
    obtain ⟨z, hz, rfl⟩ := List.mem_map.mp hx
    refine ⟨p, _, d, _, rfl, rfl, SqL.of hp2, hat, ?_⟩
    have hl : ∀ z ∈ ["ab", "ab", "bf", "acd", "ah", "a", "ab", "ce"], 1 ≤ (PySem.Str.ofString z).length ∧ (PySem.Str.ofString z).length ≤ 3 := by decide +kernel
    exact q _ _ (hl z hz).1 (hl z hz).2 ⟨(hid_same sp).trans dr.1, dr.2⟩
/-- a list of so many -/
def Long (H : Hp) (v : V) (n : Nat) : Prop := ∃ p ys, v = .ref p ∧ H p = some (.lst ys) ∧ ys.length = n
theorem Making.long {a D : Addr} {F : Hp → V → Prop} {i : Nat} {H0 H : Hp} (k : Making a D F i H0 H) : Long H (.ref D) i := by
  obtain ⟨_, ys, h1, h2, _⟩ := k
  exact ⟨D, ys, rfl, h1, h2⟩
/-- prices: so many draws -/
def spPricesL (n : Nat) : Sp := fun vs H Q _ => ∃ (a : Addr) (many : Nat), vs = [.ref a, .int many, .int 4] ∧ many ≤ 3 ∧ Src H a ∧ ∀ v H', Drawn a H H' → Bx (New H H') 3 4 n v → Long H' v many → Q v H'
theorem bx_mono (m : Nat) (B : Int) (n : Nat) : ∀ H H' v, Same H H' → Bx H m B n v → Bx H' m B n v := fun _ _ _ e h => Bx.same e h
theorem sc_l_prices : FnScope ["_law_source_here", "_law_many", "_law_most", "_law_k"] ["_law_source_here", "_law_many", "_law_most"] (defScope s_l_prices) := ⟨rfl, rfl, rfl, by decide +kernel, rfl, by decide +kernel, by decide +kernel⟩
theorem ok_l_prices (T : Txt K mg) : DefOk P w K mg base (L2.CX P w) 2 "_law_prices" ["_law_source_here", "_law_many", "_law_most"] (spPricesL 1) := by
  refine def_mk T.fn_l_prices T.g_l_prices sc_l_prices (fun _ _ _ _ _ _ us hl => match us, hl with | [_, _, _], _ => rfl) (fun vs H Q E h => ?_) fun cdv A outer s H vs Q E hr h => ⟨_, (pss_one (ps_ret (pe_lc (own := [("_law_k", 3)]) (g := gName 3) (tt := tYes) rfl sc_l_prices.nd (pi_range1 rfl T.f_range (pa_cons (pv 1) pa_nil)) (blkOk_by (N := ["_law_source_here", "_law_many", "_law_most", "_law_k"]) (sc := defScope s_l_prices) (by decide +kernel)) (fun _ _ _ _ _ => (pg_name (i := 3) sc_l_prices.nd rfl (.inl rfl))) (fun _ _ _ _ _ => pts_nil) (fun _ _ _ _ _ => (pe_dn (ok_l_draw T) (hr.mono (by decide)) (pa_cons (pv 0) (pa_cons (pe_op op_add (pv 2) pe_int) pa_nil))))))), ?_⟩
  · obtain ⟨a, many, rfl, _⟩ := h
    rfl
  · obtain ⟨a, many, rfl, hm, hs, q⟩ := h
    refine ⟨_, rfl, many, rfl, by omega, by omega, fun D hD => ?_⟩
    refine lc_range (n := many) (fun i H' => Making a D (fun H v => Bx H 3 4 0 v) i H H') (Making.start hs hD) ?_ ?_
    · rintro i H' hi mk
      refine ⟨rfl, _, rfl, _, rfl, _, _, rfl, rfl, ?_⟩
      refine ⟨a, _, rfl, by decide, by decide, mk.1.2, fun d H2 d0 d1 dr => ?_⟩
      exact mk.step (bx_mono _ _ _) hs hD dr (by omega) ⟨d, rfl, by omega, by omega⟩
    · rintro H' mk
      obtain ⟨dr, bx⟩ := mk.done hD hm
      exact q _ _ dr bx mk.long
theorem sc_l_any_table : FnScope ["_law_source_here", "_law_many", "_law_most", "_law_s"] ["_law_source_here", "_law_many", "_law_most"] (defScope s_l_any_table) := ⟨rfl, rfl, rfl, by decide +kernel, rfl, by decide +kernel, by decide +kernel⟩
theorem ok_l_any_table (T : Txt K mg) : DefOk P w K mg base (L2.CX P w) 3 "_law_any_table" ["_law_source_here", "_law_many", "_law_most"] (spPricesL 2) := by
  refine def_mk T.fn_l_any_table T.g_l_any_table sc_l_any_table (fun _ _ _ _ _ _ us hl => match us, hl with | [_, _, _], _ => rfl) (fun vs H Q E h => ?_) fun cdv A outer s H vs Q E hr h => ⟨_, (pss_one (ps_ret (pe_lc (own := [("_law_s", 3)]) (g := gName 3) (tt := tYes) rfl sc_l_any_table.nd (pi_range1 rfl T.f_range (pa_cons (pv 1) pa_nil)) (blkOk_by (N := ["_law_source_here", "_law_many", "_law_most", "_law_s"]) (sc := defScope s_l_any_table) (by decide +kernel)) (fun _ _ _ _ _ => (pg_name (i := 3) sc_l_any_table.nd rfl (.inl rfl))) (fun _ _ _ _ _ => pts_nil) (fun _ _ _ _ _ => (pe_dn (ok_l_prices T) (hr.mono (by decide)) (pa_cons (pv 0) (pa_cons (pv 1) (pa_cons (pv 2) pa_nil)))))))), ?_⟩
  · obtain ⟨a, many, rfl, _⟩ := h
    rfl
  · obtain ⟨a, many, rfl, hm, hs, q⟩ := h
    refine ⟨_, rfl, many, rfl, by omega, by omega, fun D hD => ?_⟩
    refine lc_range (n := many) (fun i H' => Making a D (fun H v => Bx H 3 4 1 v) i H H') (Making.start hs hD) ?_ ?_
    · rintro i H' hi mk
      refine ⟨rfl, _, rfl, _, rfl, _, rfl, a, many, rfl, hm, mk.1.2, fun v H2 dr bx _ => ?_⟩
      exact mk.step (bx_mono _ _ _) hs hD dr (by omega) bx
    · rintro H' mk
      obtain ⟨dr, bx⟩ := mk.done hD hm
      exact q _ _ dr bx mk.long
def spChange : Sp := fun vs H Q _ => ∃ (a : Addr) (i j : Int), vs = [.ref a, .int i, .int j, .int 4] ∧ Src H a ∧ ∀ d H', 0 ≤ d → d ≤ 4 → Drawn a H H' → Q (.int d) H'
theorem sc_l_change : FnScope ["_law_source_here", "_law_s", "_law_t", "_law_most"] ["_law_source_here", "_law_s", "_law_t", "_law_most"] (defScope s_l_change) := ⟨rfl, rfl, rfl, by decide +kernel, rfl, by decide +kernel, by decide +kernel⟩
theorem ok_l_change (T : Txt K mg) : DefOk P w K mg base (L2.CX P w) 2 "_law_change" ["_law_source_here", "_law_s", "_law_t", "_law_most"] spChange := by
  refine def_mk T.fn_l_change T.g_l_change sc_l_change (fun _ _ _ _ _ _ us hl => match us, hl with | [_, _, _, _], _ => rfl) (fun vs H Q E h => ?_) fun cdv A outer s H vs Q E hr h => ⟨_, (pss_cons (ps_if (pt_cmpR op_eq (pv 1) (pv 2) (nomark _))
      (pss_one (ps_ret pe_int))
      pss_nil)
    (pss_one (ps_ret (pe_op op_add pe_int (pe_dn (ok_l_draw T) (hr.mono (by decide)) (pa_cons (pv 0) (pa_cons (pv 3) pa_nil))))))), ?_⟩
  · obtain ⟨a, i, j, rfl, _⟩ := h
    rfl
  · obtain ⟨a, i, j, rfl, hs, q⟩ := h
    refine ⟨_, rfl, _, rfl, rfl, _, rfl, it2 (fun h1 => ?_) (fun h1 => ?_)⟩
    · exact q 0 H (by decide) (by decide) (Drawn.refl hs)
    · refine ⟨_, rfl, _, rfl, a, 4, rfl, by decide, by decide, hs, fun d H2 d0 d1 dr => ?_⟩
      exact ⟨_, _, rfl, rfl, q _ _ (by omega) (by omega) dr⟩
theorem sc_l_changes : FnScope ["_law_source_here", "_law_many", "_law_most", "_law_found", "_law_s", "_law_t"] ["_law_source_here", "_law_many", "_law_most"] (defScope s_l_changes) := ⟨rfl, rfl, rfl, by decide +kernel, rfl, by decide +kernel, by decide +kernel⟩
theorem ok_l_changes (T : Txt K mg) : DefOk P w K mg base (L2.CX P w) 3 "_law_changes" ["_law_source_here", "_law_many", "_law_most"] (spPricesL 2) := by
  refine def_mk T.fn_l_changes T.g_l_changes sc_l_changes (fun _ _ _ _ _ _ us hl => match us, hl with | [_, _, _], _ => rfl) (fun vs H Q E h => ?_) fun cdv A outer s H vs Q E hr h => ⟨_, (pss_cons (ps_set (i := 3) sc_l_changes.nd rfl (Or.inl rfl) (pe_lst pa_nil))
    (pss_cons (ps_for (passes_of rfl) rfl (pi_range1 rfl T.f_range (pa_cons (pv 1) pa_nil)) (pg_name (i := 4) sc_l_changes.nd rfl (.inr rfl))
      (pss_one (ps_expr (pe_bm PySem.F.plainAttrs_list PySem.F.slot_list_append PySem.F.type_list_append mt_append (pv 3) (pa_cons (pe_lc (own := [("_law_t", 5)]) (g := gName 5) (tt := tYes) rfl sc_l_changes.nd (pi_range1 rfl T.f_range (pa_cons (pv 1) pa_nil)) (blkOk_by (N := ["_law_source_here", "_law_many", "_law_most", "_law_found", "_law_s", "_law_t"]) (sc := defScope s_l_changes) (by decide +kernel)) (fun _ _ _ _ _ => (pg_name (i := 5) sc_l_changes.nd rfl (.inl rfl))) (fun _ _ _ _ _ => pts_nil) (fun _ _ _ _ _ => (pe_dn (ok_l_change T) (hr.mono (by decide)) (pa_cons (pv 0) (pa_cons (pv 4) (pa_cons (pv 5) (pa_cons (pv 2) pa_nil))))))) pa_nil)))))
    (pss_one (ps_ret (pv 3))))), ?_⟩
  · obtain ⟨a, many, rfl, _⟩ := h
    rfl
  · obtain ⟨a, many, rfl, hm, hs, q⟩ := h
    refine ⟨Nat.zero_le _, fun D hD => ?_⟩
    refine ⟨_, rfl, many, rfl, by omega, by omega, ?_⟩
    refine for_range (lo := 0) (n := many) (fun i σ H' => (∃ v4 v5, σ = [some (.ref a), some (.int many), some (.int 4), some (.ref D), v4, v5]) ∧ Making a D (fun H v => Bx H 3 4 1 v) i H H') ⟨⟨none, none, rfl⟩, Making.start hs hD⟩ ?_ ?_
    · rintro i σ H1 hi ⟨⟨v4, v5, rfl⟩, mk⟩
      have hl : ∃ ys, H1 D = some (.lst ys) := by
        obtain ⟨_, ys, e, _⟩ := mk
        exact ⟨ys, e⟩
      obtain ⟨ys, hys⟩ := hl
      refine ⟨_, rfl, .inl ⟨rfl, _, SqL.of hys⟩, _, rfl, many, rfl, by omega, by omega, fun D2 hD2 => ?_⟩
      refine lc_range (n := many) (fun i H' => Making a D2 (fun H v => Bx H 3 4 0 v) i H1 H') (Making.start mk.1.2 hD2) ?_ ?_
      · rintro j H' hj mk2
        refine ⟨rfl, _, rfl, _, rfl, _, rfl, _, rfl, a, _, _, rfl, mk2.1.2, fun d H2 d0 d1 dr => ?_⟩
        exact mk2.step (bx_mono _ _ _) mk.1.2 hD2 dr (by omega) ⟨d, rfl, by omega, by omega⟩
      · rintro H' mk2
        obtain ⟨dr, bx⟩ := mk2.done hD2 hm
        obtain ⟨acc, h1, h2, h3⟩ := mk.step (bx_mono _ _ _) hs hD dr (by omega) bx
        exact ⟨D, acc, _, rfl, rfl, h1, h2, ⟨_, _, rfl⟩, h3⟩
    · rintro σ H1 ⟨⟨v4, v5, rfl⟩, mk⟩
      obtain ⟨dr, bx⟩ := mk.done hD hm
      exact ⟨_, rfl, q _ _ dr bx mk.long⟩
end Aw
set_option maxHeartbeats 4000000
/-! The law's world. -/
namespace Aw
open PySem PySem.Spec PyProof.Rows L2
variable {P : Program} {w : World} {K : PySem.W.Frag} {mg : Str → Option Value} {base : Heap}
/-- two roads that meet: what holds where they do -/
theorem seq_join {A B : TS} {D : Ends} {σ : L2.St} {H : Hp} (M : L2.St → Hp → Prop) (h : ∀ N : L2.St → Hp → Prop, (∀ σ' H', M σ' H' → N σ' H') → A { D with nx := N } σ H) (k : ∀ σ' H', M σ' H' → B D σ' H') : tSeq A B D σ H := h _ k
/-- .. behind name = value -/
theorem set_join {A B : TS} {D : Ends} {i : Nat} {x : V} {σ : L2.St} {H : Hp} (M : L2.St → Hp → Prop) (h : ∀ N : L2.St → Hp → Prop, (∀ σ' H', M σ' H' → N σ' H') → A { D with nx := N } (σ.set i (some x)) H) (k : ∀ σ' H', M σ' H' → B D σ' H') : gName i x σ H (tSeq A B D) := h _ k
/-! ### rules within a comprehension's block, where K is the same -/
theorem ix_listK {X : Cx} (K : PySem.W.Frag) (h : X.K = K) : IxR X (rIxL K) := by
  subst h
  exact ix_list
theorem pi_listK {X : Cx} {tg e : Expr} {te : TE} (K : PySem.W.Frag) (h : X.K = K) (he : PE X e te) : PI X tg e (iList K te) := by
  subst h
  exact pi_list he
theorem pi_zipK {X : Cx} {e e2 : Expr} {ta : TA} {p pos tpos : Pos} {elts : List Expr} {kk : Nat} (K : PySem.W.Frag) (h : X.K = K) (hg : Gl X "zip") (hm : X.mg "zip" = none) (ha : PA X [e, e2] ta)
    (hs : starEach [e, e2] X.env = (false, eval e X.env) :: starEach [e2] X.env := by rfl) (hpl : (backTo pos (starEach [e2] X.env)).any (·.1) = false := by rfl) :
    PI X (.Tuple elts kk tpos) (.Call (.Name "zip" p) [e, e2] [] pos) (iZip K ta) := by
  subst h
  exact pi_zip hg hm ha hs hpl
theorem pg_tupK {X : Cx} {pos : Pos} {es : List Expr} {k : Nat} {t : TGs} {n : Nat} (K : PySem.W.Frag) (hK : X.K = K) (hc : X.calm = true) (h : PGs X es t)
    (hn : (assignEach es X.env).length = n := by rfl) (hst : (assignEach es X.env).findIdx? (·.1) = none := by rfl) : PG X (.Tuple es k pos) (gTup K n t) := by
  subst hK
  exact pg_tup hc h hn hst
/-! ### lists that are made without draws -/
def Mk (D : Addr) (F : Hp → V → Prop) (i : Nat) (H0 H : Hp) : Prop := Same H0 H ∧ ∃ ys, H D = some (.lst ys) ∧ ys.length = i ∧ ∀ y ∈ ys, F (hid D (New H0 H)) y
theorem Mk.start {D : Addr} {F : Hp → V → Prop} {H0 : Hp} (hD : H0 D = none) : Mk D F 0 H0 (upd H0 D (.lst [])) := ⟨same_new hD, [], upd_same, rfl, fun y hy => by cases hy⟩
theorem new_old {H H' : Hp} {b : Addr} (s : Same H H') (h : H' b = none) : H b = none := by
  cases e : H b with
  | none => rfl
  | some o =>
    rw [s _ _ e] at h
    cases h
theorem new_second {H H1 H2 : Hp} (s : Same H1 H2) : Same (New H H1) (New H H2) := fun b o h => by
  obtain ⟨h1, h2⟩ := new_some h
  rw [new_of h1]
  exact s _ _ h2
theorem new_firstS {H H1 H2 : Hp} (s : Same H H1) : Same (New H1 H2) (New H H2) := fun b o h => by
  obtain ⟨h1, h2⟩ := new_some h
  rw [new_of (new_old s h1)]
  exact h2
theorem Mk.step {D : Addr} {F : Hp → V → Prop} {i : Nat} {H0 H H2 : Hp} {y : V} (mono : ∀ H H' v, Same H H' → F H v → F H' v) (hD : H0 D = none) (k : Mk D F i H0 H) (d : Same H H2) (hi : i < 1000) (hy : F (New H H2) y) :
    ∃ acc, H2 D = some (.lst acc) ∧ acc.length < sizeLine ∧ Mk D F (i + 1) H0 (upd H2 D (.lst (acc ++ [y]))) := by
  obtain ⟨dr, ys, hys, hl, hF⟩ := k
  have h2 := d _ _ hys
  have gr : Same (hid D (New H0 H)) (hid D (New H0 (upd H2 D (.lst (ys ++ [y]))))) := fun b o e => by
    obtain ⟨n1, e1⟩ := hid_some e
    obtain ⟨n2, e2⟩ := new_some e1
    rw [hid_ne n1, new_of n2, upd_ne n1]
    exact d _ _ e2
  have gr2 : Same (New H H2) (hid D (New H0 (upd H2 D (.lst (ys ++ [y]))))) := fun b o e => by
    obtain ⟨n2, e2⟩ := new_some e
    have n1 : b ≠ D := fun z => by rw [z, hys] at n2; cases n2
    rw [hid_ne n1, new_of (new_old dr n2), upd_ne n1]
    exact e2
  refine ⟨ys, h2, by rw [sizeLine_eq]; omega, same_put (dr.trans d) hD, ys ++ [y], upd_same, by rw [List.length_append, List.length_singleton, hl], fun z hz => ?_⟩
  rcases List.mem_append.mp hz with hz | hz
  · exact mono _ _ _ gr (hF z hz)
  · rw [List.mem_singleton.mp hz]
    exact mono _ _ _ gr2 hy
theorem Mk.end_ {D : Addr} {F : Hp → V → Prop} {i : Nat} {H0 H : Hp} (mono : ∀ H H' v, Same H H' → F H v → F H' v) (hD : H0 D = none) (k : Mk D F i H0 H) : Same H0 H ∧ ∃ ys, New H0 H D = some (.lst ys) ∧ ys.length = i ∧ ∀ y ∈ ys, F (New H0 H) y := by
  obtain ⟨dr, ys, hys, hl, hF⟩ := k
  exact ⟨dr, ys, by rw [new_of hD]; exact hys, hl, fun y hy => mono _ _ _ (hid_le D _) (hF y hy)⟩
theorem Making.end_ {a D : Addr} {F : Hp → V → Prop} {i : Nat} {H0 H : Hp} (mono : ∀ H H' v, Same H H' → F H v → F H' v) (hD : H0 D = none) (k : Making a D F i H0 H) : Drawn a H0 H ∧ ∃ ys, New H0 H D = some (.lst ys) ∧ ys.length = i ∧ ∀ y ∈ ys, F (New H0 H) y := by
  obtain ⟨dr, ys, hys, hl, hF⟩ := k
  exact ⟨dr, ys, by rw [new_of hD]; exact hys, hl, fun y hy => mono _ _ _ (hid_le D _) (hF y hy)⟩
theorem Mk.done {D : Addr} {m i n : Nat} {B : Int} {H0 H : Hp} (hD : H0 D = none) (k : Mk D (fun H v => Bx H m B n v) i H0 H) (hi : i ≤ m) : Same H0 H ∧ Bx (New H0 H) m B (n + 1) (.ref D) := by
  obtain ⟨dr, ys, h1, h2, h3⟩ := k.end_ (bx_mono _ _ _) hD
  exact ⟨dr, D, ys, rfl, h1, by omega, h3⟩
theorem Src.drawn {a : Addr} {H H' : Hp} (s : Src H a) (e : Same H H') : Drawn a H H' := ⟨hid_same e, s.same e⟩
/-! ### _law_served -/
/-- the scope of the comprehension that is given back -/
def retLc : List Stmt → Scope
  | [.Return (some (.ListComp _ _ sc _)) _] => sc
  | _ => defScope s_l_cell
def spServed : Sp := fun vs H Q _ => ∃ v1 v2, vs = [v1, v2] ∧ Bx H 3 4 2 v1 ∧ Bx H 3 4 1 v2 ∧ ∀ v H', Same H H' → Bx (New H H') 3 8 2 v → Q v H'
theorem sc_l_served : FnScope ["_law_changes_here", "_law_serves", "_law_line", "_law_price", "_law_serve"] ["_law_changes_here", "_law_serves"] (defScope s_l_served) := ⟨rfl, rfl, rfl, by decide +kernel, rfl, by decide +kernel, by decide +kernel⟩
theorem ok_l_served (T : Txt K mg) : DefOk P w K mg base (L2.CX P w) 1 "_law_served" ["_law_changes_here", "_law_serves"] spServed := by
  refine def_mk T.fn_l_served T.g_l_served sc_l_served (fun _ _ _ _ _ _ us hl => match us, hl with | [_, _], _ => rfl) (fun vs H Q E h => ?_) fun cdv A outer s H vs Q E hr h => ⟨_, (pss_one (ps_ret (pe_lc (own := [("_law_line", 2)]) (g := gName 2) (tt := tYes) rfl sc_l_served.nd (pi_list (pv 0)) (blkOk_by (N := ["_law_changes_here", "_law_serves", "_law_line", "_law_price", "_law_serve"]) (sc := defScope s_l_served) (by decide +kernel)) (fun _ _ _ _ _ => (pg_name (i := 2) sc_l_served.nd rfl (.inl rfl))) (fun _ _ _ _ _ => pts_nil) (fun _ _ _ _ _ => (pe_lc (own := [("_law_price", 3), ("_law_serve", 4)]) (tt := tYes) rfl sc_l_served.nd (pi_zipK K rfl rfl T.f_zip (pa_cons (pv 2) (pa_cons (pv 1) pa_nil))) (blkOk_by (N := ["_law_changes_here", "_law_serves", "_law_line", "_law_price", "_law_serve"]) (sc := relS (retLc (defBody s_l_served)) (defScope s_l_served)) (by decide +kernel)) (fun _ _ _ _ _ => (pg_tupK (n := 2) K rfl rfl (pgs_cons (pg_name (i := 3) sc_l_served.nd rfl (.inl rfl)) (pgs_cons (pg_name (i := 4) sc_l_served.nd rfl (.inl rfl)) pgs_nil)))) (fun _ _ _ _ _ => pts_nil) (fun _ _ _ _ _ => (pe_op op_add (pv 3) (pv 4)))))))), ?_⟩
  · obtain ⟨v1, v2, rfl, _⟩ := h
    rfl
  · obtain ⟨v1, v2, rfl, ⟨p1, xs, rfl, hp1, hx1, hx⟩, ⟨p2, ys, rfl, hp2, hy1, hy⟩, q⟩ := h
    refine ⟨_, rfl, p1, rfl, ⟨_, SqL.of hp1⟩, fun D hD => ?_⟩
    refine lc_list (xs := xs) (fun i H' => Mk D (fun H v => Bx H 3 8 1 v) i H H') (Mk.start hD) (fun i H' _ mk => SqL.of (mk.1 _ _ hp1)) ?_ ?_
    · rintro i x H1 hi mk
      have hi3 : i < 3 := by
        have := (List.getElem?_eq_some_iff.mp hi).1
        omega
      obtain ⟨r, zs, rfl, hr1, hz1, hz⟩ := hx x (List.mem_of_getElem? hi)
      refine ⟨rfl, ?_⟩
      have hr2 := mk.1 _ _ hr1
      have hp3 := mk.1 _ _ hp2
      refine ⟨_, rfl, _, rfl, r, p2, _, _, rfl, SqL.of hr2, SqL.of hp3, fun D2 hD2 => ?_⟩
      refine lc_it (walk_zip (xs := zs) (ys := ys) rfl) (fun i H' => Mk D2 (fun H v => Bx H 3 8 0 v) i H1 H') (Mk.start hD2) (fun i H' _ mk2 => ⟨SqL.of (mk2.1 _ _ hr2), SqL.of (mk2.1 _ _ hp3)⟩) ?_ ?_
      · rintro j x H2 H3 hj mk2 ⟨T', x1, x2, rfl, hT, rfl, e3, e4⟩
        obtain ⟨i1, rfl, a1, a2⟩ := hz x1 (List.mem_of_getElem? e3)
        obtain ⟨i2, rfl, b1, b2⟩ := hy x2 (List.mem_of_getElem? e4)
        refine ⟨T', _, rfl, SqT.of upd_same, rfl, _, _, rfl, _, _, rfl, rfl, rfl, ?_⟩
        refine ⟨_, rfl, _, rfl, _, _, rfl, rfl, ?_⟩
        exact mk2.step (bx_mono _ _ _) hD2 (same_new hT) (by omega) ⟨_, rfl, by omega, by omega⟩
      · rintro H2 mk2
        obtain ⟨dr, bx⟩ := mk2.done hD2 (by omega)
        exact mk.step (bx_mono _ _ _) hD dr (by omega) bx
    · rintro H1 mk
      obtain ⟨dr, bx⟩ := mk.done hD hx1
      exact q _ _ dr bx
end Aw
set_option maxHeartbeats 4000000
/-! The law's world: drawn. -/
namespace Aw
open PySem PySem.Spec PyProof.Rows L2
variable {P : Program} {w : World} {K : PySem.W.Frag} {mg : Str → Option Value} {base : Heap}
theorem ixN_in {n : Nat} {d : Int} (h0 : 0 ≤ d) (h1 : d < n) : ixN n d = some d.toNat := by
  unfold ixN
  rw [if_pos h0, if_pos h1]
/-- a world: the asks, the begins, a table for each ask, the ends -/
def Wrd (H : Hp) (B : Int) (s : Str) (v : V) : Prop := ∃ (p pc : Addr) (vb ve : V) (cs : List V), v = .ref p ∧ H p = some (.lst [.str s, vb, .ref pc, ve]) ∧ Bx H 3 B 1 vb ∧ H pc = some (.lst cs) ∧ cs.length = s.length ∧ (∀ x ∈ cs, Bx H 3 B 2 x) ∧ Bx H 3 B 1 ve
theorem Wrd.same {H H' : Hp} {B : Int} {s : Str} {v : V} (e : Same H H') (h : Wrd H B s v) : Wrd H' B s v := by
  obtain ⟨p, pc, vb, ve, cs, rfl, h1, h2, h3, h4, h5, h6⟩ := h
  exact ⟨p, pc, vb, ve, cs, rfl, e _ _ h1, h2.same e, e _ _ h3, h4, fun x hx => (h5 x hx).same e, h6.same e⟩
theorem Wrd.mono {H : Hp} {B C : Int} {s : Str} {v : V} (e : B ≤ C) (h : Wrd H B s v) : Wrd H C s v := by
  obtain ⟨p, pc, vb, ve, cs, rfl, h1, h2, h3, h4, h5, h6⟩ := h
  exact ⟨p, pc, vb, ve, cs, rfl, h1, h2.mono e, h3, h4, fun x hx => (h5 x hx).mono e, h6.mono e⟩
def spWorld : Sp := fun vs H Q _ => ∃ (a : Addr) (many : Nat) (s : Str), vs = [.ref a, .int many, .str s, .int 4] ∧ 1 ≤ many ∧ many ≤ 3 ∧ s.length ≤ 3 ∧ Src H a ∧ ∀ v H', Drawn a H H' → Wrd (New H H') 8 s v → Q v H'
theorem sc_l_world : FnScope ["_law_source_here", "_law_many", "_law_asks_here", "_law_most", "_law_manner", "_law_begins", "_law_ends", "_law_changes_here", "_law_costs", "_law_k", "_law_serves", "_law_price"] ["_law_source_here", "_law_many", "_law_asks_here", "_law_most"] (defScope s_l_world) := ⟨rfl, rfl, rfl, by decide +kernel, rfl, by decide +kernel, by decide +kernel⟩
theorem ok_l_world (T : Txt K mg) : DefOk P w K mg base (L2.CX P w) 4 "_law_world" ["_law_source_here", "_law_many", "_law_asks_here", "_law_most"] spWorld := by
  refine def_mk T.fn_l_world T.g_l_world sc_l_world (fun _ _ _ _ _ _ us hl => match us, hl with | [_, _, _, _], _ => rfl) (fun vs H Q E h => ?_) fun cdv A outer s H vs Q E hr h => ⟨_, (pss_cons (ps_set (i := 4) sc_l_world.nd rfl (Or.inl rfl) (pe_dn (ok_l_draw T) (hr.mono (by decide)) (pa_cons (pv 0) (pa_cons pe_int pa_nil))))
    (pss_cons (ps_set (i := 5) sc_l_world.nd rfl (Or.inl rfl) (pe_dn (ok_l_prices T) (hr.mono (by decide)) (pa_cons (pv 0) (pa_cons (pv 1) (pa_cons (pv 3) pa_nil)))))
    (pss_cons (ps_set (i := 6) sc_l_world.nd rfl (Or.inl rfl) (pe_dn (ok_l_prices T) (hr.mono (by decide)) (pa_cons (pv 0) (pa_cons (pv 1) (pa_cons (pv 3) pa_nil)))))
    (pss_cons (ps_if (pt_cmpR op_eq (pe_dn (ok_l_draw T) (hr.mono (by decide)) (pa_cons (pv 0) (pa_cons pe_int pa_nil))) pe_int (nomark _))
      (pss_one (ps_set (i := 6) sc_l_world.nd rfl (Or.inl rfl) (pe_op op_rep (pe_lst (pa_cons pe_int pa_nil)) (pv 1))))
      pss_nil)
    (pss_cons (ps_set (i := 7) sc_l_world.nd rfl (Or.inl rfl) (pe_dn (ok_l_changes T) (hr.mono (by decide)) (pa_cons (pv 0) (pa_cons (pv 1) (pa_cons (pv 3) pa_nil)))))
    (pss_cons (ps_set (i := 8) sc_l_world.nd rfl (Or.inl rfl) (pe_lst pa_nil))
    (pss_cons (ps_for (passes_of rfl) rfl (pi_range1 rfl T.f_range (pa_cons (pe_callB call_len_str rfl T.f_len boot_len (pa_cons (pv 2) pa_nil)) pa_nil)) (pg_name (i := 9) sc_l_world.nd rfl (.inl rfl))
      (pss_one (ps_if (pt_cmpR op_eq (pv 4) pe_int (nomark _))
        (pss_one (ps_expr (pe_bm PySem.F.plainAttrs_list PySem.F.slot_list_append PySem.F.type_list_append mt_append (pv 8) (pa_cons (pe_dn (ok_l_any_table T) (hr.mono (by decide)) (pa_cons (pv 0) (pa_cons (pv 1) (pa_cons (pv 3) pa_nil)))) pa_nil))))
        (pss_cons (ps_set (i := 10) sc_l_world.nd rfl (Or.inl rfl) (pe_dn (ok_l_prices T) (hr.mono (by decide)) (pa_cons (pv 0) (pa_cons (pv 1) (pa_cons (pv 3) pa_nil)))))
        (pss_cons (ps_if (pt_cmpR op_gt (pv 4) pe_int (nomark _))
          (pss_cons (ps_setLc (i := 10) (own := [("_law_price", 11)]) (g := gName 11) (tt := tYes) rfl sc_l_world.nd rfl rfl (sw_true rfl rfl rfl (by decide +kernel)) (pi_list (pv 10)) (blkOk_by (N := ["_law_source_here", "_law_many", "_law_asks_here", "_law_most", "_law_manner", "_law_begins", "_law_ends", "_law_changes_here", "_law_costs", "_law_k", "_law_serves", "_law_price"]) (sc := defScope s_l_world) (by decide +kernel)) (fun _ _ _ _ _ => (pg_name (i := 11) sc_l_world.nd rfl (.inl rfl))) (fun _ _ _ _ _ => pts_nil) (fun _ _ _ _ _ => (pe_callB (call_max2 rfl) rfl T.f_max boot_max (pa_cons (pv 11) (pa_cons pe_int pa_nil)))))
          (pss_one (ps_asg pe_int (pg_sub (pv 10) (pe_op op_mod (pe_callTy call_int1 rfl T.f_int boot_int (pa_cons (pv 9) pa_nil)) (pv 1)) set_list))))
          pss_nil)
        (pss_one (ps_expr (pe_bm PySem.F.plainAttrs_list PySem.F.slot_list_append PySem.F.type_list_append mt_append (pv 8) (pa_cons (pe_dn (ok_l_served T) (hr.mono (by decide)) (pa_cons (pv 7) (pa_cons (pv 10) pa_nil))) pa_nil)))))))))
    (pss_one (ps_ret (pe_lst (pa_cons (pv 2) (pa_cons (pv 5) (pa_cons (pv 8) (pa_cons (pv 6) pa_nil)))))))))))))), ?_⟩
  · obtain ⟨a, many, z, rfl, _⟩ := h
    rfl
  · obtain ⟨a, many, z, rfl, hm1, hm2, hz, hs, q⟩ := h
    refine ⟨_, rfl, a, 7, rfl, by decide, by decide, hs, fun mn H1 m0 m1 d1 => ?_⟩
    refine ⟨_, rfl, _, rfl, _, rfl, a, many, rfl, hm2, d1.2, fun vb H2 d2 bb lb => ?_⟩
    refine ⟨_, rfl, _, rfl, _, rfl, a, many, rfl, hm2, d2.2, fun ve0 H3 d3 be le => ?_⟩
    have t2 := d1.trans d2
    have t3 := t2.trans d3
    have nn : (none : Option V) = none := rfl
    dsimp only
    refine set_join (fun σ' H' => ∃ ve, σ' = [some (.ref a), some (.int many), some (.str z), some (.int 4), some (.int mn), some vb, some ve, none, none, none, none, none] ∧ Drawn a H3 H' ∧ Bx (New H H') 3 4 1 ve) (fun N kN => ?_) ?_
    · refine ⟨_, rfl, a, 2, rfl, by decide, by decide, d3.2, fun d H4 d40 d41 d4 => ?_⟩
      refine ⟨rfl, _, rfl, it2 (fun h => ?_) (fun h => ?_)⟩
      · refine ⟨by show 1 ≤ sizeLine; decide, fun p hp => ⟨_, rfl, p, many, _, rfl, rfl, upd_same, by omega, by omega, ?_, fun p2 hp2 => ?_⟩⟩
        · rw [sizeLine_eq]
          show 1 * (many : Int).toNat ≤ _
          omega
        · have s4 := (same_new (o := .lst [.int 0]) hp).trans (same_new (o := .lst (List.replicate (many : Int).toNat [V.int 0]).flatten) hp2)
          have hn2 : H p2 = none := t3.old (d4.old ((same_new hp).free hp2))
          refine kN _ _ ⟨.ref p2, rfl, d4.more s4, p2, _, rfl, by rw [new_of hn2]; exact upd_same, ?_, fun x hx => ?_⟩
          · rw [List.length_flatten, List.map_replicate, List.sum_replicate_nat]
            show (many : Int).toNat * 1 ≤ 3
            omega
          · obtain ⟨l, hl, hx2⟩ := List.mem_flatten.mp hx
            obtain ⟨_, rfl⟩ := List.mem_replicate.mp hl
            rw [List.mem_singleton.mp hx2]
            exact ⟨0, rfl, by decide, by decide⟩
      · refine kN _ _ ⟨ve0, rfl, d4, ?_⟩
        exact ((be.same (new_first t2)).same (new_more hs d4))
    · rintro σ' H5 ⟨ve, rfl, d5, be5⟩
      have t5 := t3.trans d5
      -- changes
      refine ⟨_, rfl, _, rfl, _, rfl, a, many, rfl, hm2, d5.2, fun vch H6 d6 bch lch => ?_⟩
      have t6 := t5.trans d6
      -- costs = []
      refine ⟨Nat.zero_le _, fun Dc hDc => ?_⟩
      refine ⟨_, rfl, z, rfl, by rw [sizeLine_eq]; omega, (z.length : Int), rfl, by omega, by omega, ?_⟩
      refine for_range (lo := 0) (n := z.length) (fun i σ H' => (∃ v9 v10 v11, σ = [some (.ref a), some (.int many), some (.str z), some (.int 4), some (.int mn), some vb, some ve, some vch, some (.ref Dc), v9, v10, v11]) ∧ Making a Dc (fun H v => Bx H 3 8 2 v) i H6 H') ⟨⟨none, none, none, rfl⟩, Making.start t6.2 hDc⟩ ?_ ?_
      · rintro i σ H7 hi ⟨⟨v9, v10, v11, rfl⟩, mk⟩
        have hl : ∃ ys, H7 Dc = some (.lst ys) := by
          obtain ⟨_, ys, e, _⟩ := mk
          exact ⟨ys, e⟩
        obtain ⟨ys, hys⟩ := hl
        refine ⟨_, rfl, rfl, _, rfl, it2 (fun h => ?_) (fun h => ?_)⟩
        · refine ⟨_, rfl, .inl ⟨rfl, _, SqL.of hys⟩, _, rfl, _, rfl, _, rfl, a, many, rfl, hm2, mk.1.2, fun v H8 dr bx _ => ?_⟩
          obtain ⟨acc, h1, h2, h3⟩ := mk.step (bx_mono _ _ _) t6.2 hDc dr (by omega) (bx.mono (by decide))
          exact ⟨Dc, acc, _, rfl, rfl, h1, h2, ⟨_, _, _, rfl⟩, h3⟩
        · refine ⟨_, rfl, _, rfl, _, rfl, a, many, rfl, hm2, mk.1.2, fun sv0 H8 d8 b8 l8 => ?_⟩
          dsimp only
          refine set_join (fun σ' H' => ∃ sv v11', σ' = [some (.ref a), some (.int many), some (.str z), some (.int 4), some (.int mn), some vb, some ve, some vch, some (.ref Dc), some (.int (0 + (i : Nat))), some sv, v11'] ∧ Drawn a H7 H' ∧ Bx (New H7 H') 3 4 1 sv) (fun N kN => ?_) ?_
          · refine ⟨_, rfl, _, _, rfl, rfl, _, rfl, it2 (fun h => ?_) (fun h => ?_)⟩
            · obtain ⟨p8, ys8, rfl, hp8, hl8⟩ := l8
              obtain ⟨p8', ys8', e8, hp8', hl8', hx8⟩ := b8
              cases e8
              have hp9 := (new_some hp8').2
              rw [hp8] at hp9
              cases hp9
              refine ⟨_, rfl, p8, rfl, ⟨_, SqL.of hp8⟩, fun D3 hD3 => ?_⟩
              refine lc_list (xs := ys8) (fun i H' => Mk D3 (fun H v => Bx H 3 4 0 v) i H8 H') (Mk.start hD3) (fun i H' _ m3 => SqL.of (m3.1 _ _ hp8)) ?_ ?_
              · rintro j x H9 hj m3
                have hj3 := (List.getElem?_eq_some_iff.mp hj).1
                obtain ⟨y, rfl, y1, y2⟩ := hx8 x (List.mem_of_getElem? hj)
                refine ⟨rfl, _, rfl, y, 1, rfl, ?_⟩
                exact m3.step (bx_mono _ _ _) hD3 (Same.refl _) (by omega) ⟨_, rfl, by split <;> omega, by split <;> omega⟩
              · rintro H9 m3
                obtain ⟨s9, ys9, hp10, hl9, hx9⟩ := m3.end_ (bx_mono _ _ _) hD3
                have hp11 := (new_some hp10).2
                have i0 : 0 ≤ (0 + (i : Int)) % (many : Int) := Int.emod_nonneg _ (by omega)
                have i1 : (0 + (i : Int)) % (many : Int) < (ys9.length : Int) := by
                  rw [hl9, hl8]
                  exact Int.emod_lt_of_pos _ (by omega)
                refine ⟨_, rfl, _, rfl, .inl ⟨_, rfl, _, rfl, _, _, rfl, rfl, (by omega : (0 : Int) < (many : Int)), D3, _, _, _, rfl, rfl, hp11, ixN_in i0 i1, ?_⟩⟩
                have hn3 := d8.old hD3
                refine kN _ _ ⟨.ref D3, _, rfl, (d8.more s9).put mk.1.2 hn3, D3, _, rfl, by rw [new_of hn3]; exact upd_same, ?_, fun x hx => ?_⟩
                · rw [List.length_set]
                  omega
                · rcases List.mem_or_eq_of_mem_set hx with hx | rfl
                  · exact hx9 x hx
                  · exact ⟨0, rfl, by decide, by decide⟩
            · exact kN _ _ ⟨sv0, _, rfl, d8, b8⟩
          · rintro σ' H9 ⟨sv, v11', rfl, d9, b9⟩
            have nD := t6.2.ne hDc
            refine ⟨_, rfl, .inl ⟨rfl, _, SqL.of (d9.keep nD hys)⟩, _, rfl, _, rfl, vch, sv, rfl, ?_, b9.same new_le, fun v H10 s10 bx => ?_⟩
            · exact ((bch.same (new_first t5)).same (new_more hs (mk.1.trans d9))).same new_le
            · obtain ⟨acc, h1, h2, h3⟩ := mk.step (bx_mono _ _ _) t6.2 hDc (d9.more s10) (by omega) (bx.same (new_first d9))
              exact ⟨Dc, acc, _, rfl, rfl, h1, h2, ⟨_, _, _, rfl⟩, h3⟩
      · rintro σ H7 ⟨⟨v9, v10, v11, rfl⟩, mk⟩
        obtain ⟨d7, ys, h1, h2, h3⟩ := mk.end_ (bx_mono _ _ _) hDc
        have t7 := t6.trans d7
        refine ⟨_, rfl, _, rfl, _, rfl, _, rfl, by show 4 ≤ sizeLine; decide, fun p hp => ?_⟩
        have s8 := same_new (o := .lst [.str z, vb, .ref Dc, ve]) hp
        have hn := t7.old hp
        have g7 : Same (New H H7) (New H (upd H7 p (.lst [.str z, vb, .ref Dc, ve]))) := new_second s8
        have g6 : Same (New H6 H7) (New H H7) := new_first t6
        refine q _ _ (t7.more s8) ⟨p, Dc, vb, ve, ys, rfl, by rw [new_of hn]; exact upd_same, ?_, g7 _ _ (g6 _ _ h1), h2, fun x hx => ((h3 x hx).same g6).same g7, ?_⟩
        · exact (((bb.same (new_first d1)).same (new_more hs ((d3.trans d5).trans (d6.trans d7)))).same g7).mono (by decide)
        · exact ((be5.same (new_more hs (d6.trans d7))).same g7).mono (by decide)
end Aw
set_option maxHeartbeats 4000000
/-! The world, moved; its lines. -/
namespace Aw
open PySem PySem.Spec PyProof.Rows L2
variable {P : Program} {w : World} {K : PySem.W.Frag} {mg : Str → Option Value} {base : Heap}
/-- an item from the end -/
theorem atI_back {α : Type} {xs : List α} {k : Nat} (h0 : 1 ≤ k) (h1 : k ≤ xs.length) : ∃ x, x ∈ xs ∧ atI xs (-(k : Int)) = some x := by
  have h2 : xs.length - k < xs.length := by omega
  refine ⟨xs[xs.length - k], List.getElem_mem h2, ?_⟩
  unfold atI ixN
  rw [if_neg (by omega), if_pos (by omega)]
  have e : (-(k : Int) + (xs.length : Int)).toNat = xs.length - k := by omega
  show xs[(-(k : Int) + (xs.length : Int)).toNat]? = _
  rw [e, List.getElem?_eq_getElem h2]
theorem bx0 {H : Hp} {m : Nat} {B : Int} {i : Int} (h1 : -B ≤ i) (h2 : i ≤ B) : Bx H m B 0 (.int i) := ⟨i, rfl, h1, h2⟩
abbrev CM : Int := 4000000000000000
abbrev CW : Int := 4000000000000008
def forLc : List Stmt → Scope
  | [_, _, .For _ _ [.Expr (.Call _ [.ListComp _ _ sc _] _ _) _] _ _, _] => sc
  | _ => defScope s_l_cell
def spRaised : Sp := fun vs H Q _ => ∃ (v : V) (pm : Addr) (ms : List V) (s : Str), vs = [v, .ref pm] ∧ Wrd H 8 s v ∧ s.length ≤ 3 ∧ H pm = some (.lst ms) ∧ ms.length = s.length + 2 ∧ (∀ x ∈ ms, ∃ i : Int, x = .int i ∧ -CM ≤ i ∧ i ≤ CM) ∧
  ∀ v' H', Same H H' → Wrd (New H H') CW s v' → Q v' H'
theorem sc_l_raised : FnScope ["_law_world_here", "_law_more", "_law_asks_here", "_law_begins", "_law_costs", "_law_ends", "_law_found", "_law_k", "_law_price", "_law_line"] ["_law_world_here", "_law_more"] (defScope s_l_raised) := ⟨rfl, rfl, rfl, by decide +kernel, rfl, by decide +kernel, by decide +kernel⟩
theorem ok_l_raised (T : Txt K mg) : DefOk P w K mg base (L2.CX P w) 1 "_law_raised" ["_law_world_here", "_law_more"] spRaised := by
  refine def_mk T.fn_l_raised T.g_l_raised sc_l_raised (fun _ _ _ _ _ _ us hl => match us, hl with | [_, _], _ => rfl) (fun vs H Q E h => ?_) fun cdv A outer s H vs Q E hr h => ⟨_, (pss_cons (ps_asg (pv 0) (pg_unl rfl (pgs_cons (pg_name (i := 2) sc_l_raised.nd rfl (.inl rfl)) (pgs_cons (pg_name (i := 3) sc_l_raised.nd rfl (.inl rfl)) (pgs_cons (pg_name (i := 4) sc_l_raised.nd rfl (.inl rfl)) (pgs_cons (pg_name (i := 5) sc_l_raised.nd rfl (.inl rfl)) pgs_nil))))))
    (pss_cons (ps_set (i := 6) sc_l_raised.nd rfl (Or.inl rfl) (pe_lst pa_nil))
    (pss_cons (ps_for (passes_of rfl) rfl (pi_range1 rfl T.f_range (pa_cons (pe_callB call_len_str rfl T.f_len boot_len (pa_cons (pv 2) pa_nil)) pa_nil)) (pg_name (i := 7) sc_l_raised.nd rfl (.inr rfl))
      (pss_one (ps_expr (pe_bm PySem.F.plainAttrs_list PySem.F.slot_list_append PySem.F.type_list_append mt_append (pv 6) (pa_cons (pe_lc (own := [("_law_line", 9)]) (g := gName 9) (tt := tYes) rfl sc_l_raised.nd (pi_list (pe_ix ix_list (pv 4) (pv 7) (fun _ _ => rfl))) (blkOk_by (N := ["_law_world_here", "_law_more", "_law_asks_here", "_law_begins", "_law_costs", "_law_ends", "_law_found", "_law_k", "_law_price", "_law_line"]) (sc := defScope s_l_raised) (by decide +kernel)) (fun _ _ _ _ _ => (pg_name (i := 9) sc_l_raised.nd rfl (.inl rfl))) (fun _ _ _ _ _ => pts_nil) (fun _ _ _ _ _ => (pe_lc (own := [("_law_price", 8)]) (g := gName 8) (tt := tYes) rfl sc_l_raised.nd (pi_listK K rfl (pv 9)) (blkOk_by (N := ["_law_world_here", "_law_more", "_law_asks_here", "_law_begins", "_law_costs", "_law_ends", "_law_found", "_law_k", "_law_price", "_law_line"]) (sc := relS (forLc (defBody s_l_raised)) (defScope s_l_raised)) (by decide +kernel)) (fun _ _ _ _ _ => (pg_name (i := 8) sc_l_raised.nd rfl (.inl rfl))) (fun _ _ _ _ _ => pts_nil) (fun _ _ _ _ _ => (pe_op op_add (pv 8) (pe_ix (ix_listK K rfl) (pv 1) (pv 7) (fun _ _ => rfl))))))) pa_nil)))))
    (pss_one (ps_ret (pe_lst (pa_cons (pv 2) (pa_cons (pe_lc (own := [("_law_price", 8)]) (g := gName 8) (tt := tYes) rfl sc_l_raised.nd (pi_list (pv 3)) (blkOk_by (N := ["_law_world_here", "_law_more", "_law_asks_here", "_law_begins", "_law_costs", "_law_ends", "_law_found", "_law_k", "_law_price", "_law_line"]) (sc := defScope s_l_raised) (by decide +kernel)) (fun _ _ _ _ _ => (pg_name (i := 8) sc_l_raised.nd rfl (.inl rfl))) (fun _ _ _ _ _ => pts_nil) (fun _ _ _ _ _ => (pe_op op_add (pv 8) (pe_ix (ix_listK K rfl) (pv 1) (pe_un un_neg pe_int) (fun _ _ => rfl))))) (pa_cons (pv 6) (pa_cons (pe_lc (own := [("_law_price", 8)]) (g := gName 8) (tt := tYes) rfl sc_l_raised.nd (pi_list (pv 5)) (blkOk_by (N := ["_law_world_here", "_law_more", "_law_asks_here", "_law_begins", "_law_costs", "_law_ends", "_law_found", "_law_k", "_law_price", "_law_line"]) (sc := defScope s_l_raised) (by decide +kernel)) (fun _ _ _ _ _ => (pg_name (i := 8) sc_l_raised.nd rfl (.inl rfl))) (fun _ _ _ _ _ => pts_nil) (fun _ _ _ _ _ => (pe_op op_sub (pv 8) (pe_ix (ix_listK K rfl) (pv 1) (pe_un un_neg pe_int) (fun _ _ => rfl))))) pa_nil)))))))))), ?_⟩
  · obtain ⟨v, pm, ms, z, rfl, _⟩ := h
    rfl
  · obtain ⟨v, pm, ms, z, rfl, ⟨p, pc, vb, ve, cs, rfl, h1, h2, h3, h4, h5, h6⟩, hz, hpm, hml, hm, q⟩ := h
    have cm : CM = 4000000000000000 := rfl
    have cw : CW = 4000000000000008 := rfl
    refine ⟨_, rfl, p, _, rfl, SqL.of h1, rfl, _, _, rfl, _, _, rfl, _, _, rfl, _, _, rfl, rfl, ?_⟩
    refine ⟨Nat.zero_le _, fun D hD => ?_⟩
    refine ⟨_, rfl, z, rfl, by rw [sizeLine_eq]; omega, (z.length : Int), rfl, by omega, by omega, ?_⟩
    refine for_range (lo := 0) (n := z.length) (fun i σ H' => (∃ v7 v8 v9, σ = [some (.ref p), some (.ref pm), some (.str z), some vb, some (.ref pc), some ve, some (.ref D), v7, v8, v9]) ∧ Mk D (fun H v => Bx H 3 CW 2 v) i H H') ⟨⟨none, none, none, rfl⟩, Mk.start hD⟩ ?_ ?_
    · rintro i σ H1 hi ⟨⟨v7, v8, v9, rfl⟩, mk⟩
      have hl : ∃ ys, H1 D = some (.lst ys) := by
        obtain ⟨_, ys, e, _⟩ := mk
        exact ⟨ys, e⟩
      obtain ⟨ys, hys⟩ := hl
      obtain ⟨c, hc, hat, _⟩ := atI_of (xs := cs) (d := 0 + (i : Int)) (by omega) (by omega)
      obtain ⟨m, hmm, hatm, _⟩ := atI_of (xs := ms) (d := 0 + (i : Int)) (by omega) (by omega)
      obtain ⟨mi, rfl, m1, m2⟩ := hm m hmm
      obtain ⟨pt, rs, rfl, hpt, hrl, hr3⟩ := h5 c hc
      refine ⟨_, rfl, .inl ⟨rfl, _, SqL.of hys⟩, _, rfl, _, rfl, pc, _, _, _, rfl, rfl, SqL.of (mk.1 _ _ h3), hat, pt, rfl, ⟨_, SqL.of (mk.1 _ _ hpt)⟩, fun D2 hD2 => ?_⟩
      refine lc_list (xs := rs) (fun i H' => Mk D2 (fun H v => Bx H 3 CW 1 v) i H1 H') (Mk.start hD2) (fun i H' _ mk2 => SqL.of (mk2.1 _ _ (mk.1 _ _ hpt))) ?_ ?_
      · rintro j x H2 hj mk2
        have hj3 := (List.getElem?_eq_some_iff.mp hj).1
        obtain ⟨pr, xs, rfl, hpr, hxl, hx⟩ := hr3 x (List.mem_of_getElem? hj)
        have g2 := mk.1.trans mk2.1
        refine ⟨rfl, _, rfl, pr, rfl, ⟨_, SqL.of (g2 _ _ hpr)⟩, fun D3 hD3 => ?_⟩
        refine lc_list (xs := xs) (fun i H' => Mk D3 (fun H v => Bx H 3 CW 0 v) i H2 H') (Mk.start hD3) (fun i H' _ mk3 => SqL.of (mk3.1 _ _ (g2 _ _ hpr))) ?_ ?_
        · rintro t y H3 ht mk3
          have ht3 := (List.getElem?_eq_some_iff.mp ht).1
          obtain ⟨yi, rfl, y1, y2⟩ := hx y (List.mem_of_getElem? ht)
          refine ⟨rfl, _, rfl, _, rfl, _, rfl, pm, _, _, _, rfl, rfl, SqL.of (mk3.1 _ _ (g2 _ _ hpm)), hatm, _, _, rfl, rfl, ?_⟩
          exact mk3.step (bx_mono _ _ _) hD3 (Same.refl _) (by omega) (bx0 (by omega) (by omega))
        · rintro H3 mk3
          obtain ⟨dr, bx⟩ := mk3.done hD3 hxl
          exact mk2.step (bx_mono _ _ _) hD2 dr (by omega) bx
      · rintro H2 mk2
        obtain ⟨dr, bx⟩ := mk2.done hD2 hrl
        obtain ⟨acc, a1, a2, a3⟩ := mk.step (bx_mono _ _ _) hD dr (by omega) bx
        exact ⟨D, acc, _, rfl, rfl, a1, a2, ⟨_, _, _, rfl⟩, a3⟩
    · rintro σ H1 ⟨⟨v7, v8, v9, rfl⟩, mk⟩
      obtain ⟨pb, bs, rfl, hpb, hbl, hb⟩ := h2
      obtain ⟨pe, es, rfl, hpe, hel, he⟩ := h6
      obtain ⟨s1, ys, d1, d2, d3⟩ := mk.end_ (bx_mono _ _ _) hD
      obtain ⟨n1, hn1, ha1⟩ := atI_back (xs := ms) (k := 1) (by omega) (by omega)
      obtain ⟨n1, rfl, a11, a12⟩ := hm _ hn1
      obtain ⟨n2, hn2, ha2⟩ := atI_back (xs := ms) (k := 2) (by omega) (by omega)
      obtain ⟨n2, rfl, a21, a22⟩ := hm _ hn2
      refine ⟨_, rfl, _, rfl, pb, rfl, ⟨_, SqL.of (s1 _ _ hpb)⟩, fun D2 hD2 => ?_⟩
      refine lc_list (xs := bs) (fun i H' => Mk D2 (fun H v => Bx H 3 CW 0 v) i H1 H') (Mk.start hD2) (fun i H' _ mk2 => SqL.of (mk2.1 _ _ (s1 _ _ hpb))) ?_ ?_
      · rintro t y H3 ht mk3
        have ht3 := (List.getElem?_eq_some_iff.mp ht).1
        obtain ⟨yi, rfl, y1, y2⟩ := hb y (List.mem_of_getElem? ht)
        refine ⟨rfl, _, rfl, _, rfl, 1, rfl, pm, _, _, _, rfl, rfl, SqL.of (mk3.1 _ _ (s1 _ _ hpm)), ha1, _, _, rfl, rfl, ?_⟩
        exact mk3.step (bx_mono _ _ _) hD2 (Same.refl _) (by omega) (bx0 (by omega) (by omega))
      · rintro H2 mk2
        obtain ⟨s2, bx2⟩ := mk2.done hD2 hbl
        have t2 := s1.trans s2
        refine ⟨_, rfl, _, rfl, pe, rfl, ⟨_, SqL.of (t2 _ _ hpe)⟩, fun D3 hD3 => ?_⟩
        refine lc_list (xs := es) (fun i H' => Mk D3 (fun H v => Bx H 3 CW 0 v) i H2 H') (Mk.start hD3) (fun i H' _ mk2 => SqL.of (mk2.1 _ _ (t2 _ _ hpe))) ?_ ?_
        · rintro t y H3 ht mk3
          have ht3 := (List.getElem?_eq_some_iff.mp ht).1
          obtain ⟨yi, rfl, y1, y2⟩ := he y (List.mem_of_getElem? ht)
          refine ⟨rfl, _, rfl, _, rfl, 2, rfl, pm, _, _, _, rfl, rfl, SqL.of (mk3.1 _ _ (t2 _ _ hpm)), ha2, _, _, rfl, rfl, ?_⟩
          exact mk3.step (bx_mono _ _ _) hD3 (Same.refl _) (by omega) (bx0 (by omega) (by omega))
        · rintro H3 mk3
          obtain ⟨s3, bx3⟩ := mk3.done hD3 hel
          refine ⟨by show 4 ≤ sizeLine; decide, fun pn hpn => ?_⟩
          have s4 := same_new (o := .lst [.str z, .ref D2, .ref D, .ref D3]) hpn
          have t3 := t2.trans s3
          have hn := new_old t3 hpn
          have g4 := new_second (H := H) s4
          have g3 := (new_second (H := H) s3).trans g4
          have g2 := (new_second (H := H) s2).trans g3
          refine q _ _ (t3.trans s4) ⟨pn, D, .ref D2, .ref D3, ys, rfl, by rw [new_of hn]; exact upd_same, (bx2.same (new_firstS s1)).same g3, g2 _ _ d1, by omega, fun x hx => (d3 x hx).same g2, (bx3.same (new_firstS t2)).same g4⟩
/-! ### _law_moved -/
def spMoved : Sp := fun vs H Q _ => ∃ (a : Addr) (v : V) (s : Str), vs = [.ref a, v] ∧ Src H a ∧ Wrd (hid a H) 8 s v ∧ s.length ≤ 3 ∧ ∀ v' H', Drawn a H H' → Wrd (hid a H') CW s v' → Q v' H'
theorem sc_l_moved : FnScope ["_law_source_here", "_law_world_here", "_law_more", "_law_k", "_law_number"] ["_law_source_here", "_law_world_here"] (defScope s_l_moved) := ⟨rfl, rfl, rfl, by decide +kernel, rfl, by decide +kernel, by decide +kernel⟩
theorem ok_l_moved (T : Txt K mg) : DefOk P w K mg base (L2.CX P w) 2 "_law_moved" ["_law_source_here", "_law_world_here"] spMoved := by
  refine def_mk T.fn_l_moved T.g_l_moved sc_l_moved (fun _ _ _ _ _ _ us hl => match us, hl with | [_, _], _ => rfl) (fun vs H Q E h => ?_) fun cdv A outer s H vs Q E hr h => ⟨_, (pss_cons (ps_if (pt_cmpR op_eq (pe_dn (ok_l_draw T) (hr.mono (by decide)) (pa_cons (pv 0) (pa_cons pe_int pa_nil))) pe_int (nomark _))
      (pss_one (ps_ret (pv 1)))
      pss_nil)
    (pss_cons (ps_setLc (i := 2) (own := [("_law_k", 3)]) (g := gName 3) (tt := tYes) rfl sc_l_moved.nd rfl rfl (sw_true rfl rfl rfl (by decide +kernel)) (pi_range1 rfl T.f_range (pa_cons (pe_op op_add (pe_callB call_len_str rfl T.f_len boot_len (pa_cons (pe_ix ix_list (pv 1) pe_int (fun _ _ => rfl)) pa_nil)) pe_int) pa_nil)) (blkOk_by (N := ["_law_source_here", "_law_world_here", "_law_more", "_law_k", "_law_number"]) (sc := defScope s_l_moved) (by decide +kernel)) (fun _ _ _ _ _ => (pg_name (i := 3) sc_l_moved.nd rfl (.inl rfl))) (fun _ _ _ _ _ => pts_nil) (fun _ _ _ _ _ => (pe_op op_sub (pe_dn (ok_l_draw T) (hr.mono (by decide)) (pa_cons (pv 0) (pa_cons pe_int pa_nil))) pe_int)))
    (pss_cons (ps_if (pt_cmpR op_eq (pe_dn (ok_l_draw T) (hr.mono (by decide)) (pa_cons (pv 0) (pa_cons pe_int pa_nil))) pe_int (nomark _))
      (pss_one (ps_setLc (i := 2) (own := [("_law_number", 4)]) (g := gName 4) (tt := tYes) rfl sc_l_moved.nd rfl rfl (sw_true rfl rfl rfl (by decide +kernel)) (pi_list (pv 2)) (blkOk_by (N := ["_law_source_here", "_law_world_here", "_law_more", "_law_k", "_law_number"]) (sc := defScope s_l_moved) (by decide +kernel)) (fun _ _ _ _ _ => (pg_name (i := 4) sc_l_moved.nd rfl (.inl rfl))) (fun _ _ _ _ _ => pts_nil) (fun _ _ _ _ _ => (pe_op op_mul (pv 4) (pe_op op_pow pe_int pe_int)))))
      pss_nil)
    (pss_one (ps_ret (pe_dn (ok_l_raised T) (hr.mono (by decide)) (pa_cons (pv 1) (pa_cons (pv 2) pa_nil)))))))), ?_⟩
  · obtain ⟨a, v, z, rfl, _⟩ := h
    rfl
  · obtain ⟨a, v, z, rfl, hs, hw, hz, q⟩ := h
    obtain ⟨p, pc, vb, ve, cs, rfl, h1, _⟩ := id hw
    have cm : CM = 4000000000000000 := rfl
    have cw : CW = 4000000000000008 := rfl
    refine ⟨_, rfl, a, 3, rfl, by decide, by decide, hs, fun d H1 d0 dl d1 => ?_⟩
    refine ⟨rfl, _, rfl, it2 (fun h => ?_) (fun h => ?_)⟩
    · exact ⟨_, rfl, q _ _ d1 ((hw.same d1.1).mono (by decide))⟩
    · have h11 := hid_le a H1 _ _ (d1.1 _ _ h1)
      refine ⟨_, rfl, p, _, _, _, rfl, rfl, SqL.of h11, atI_nat (j := 0) rfl, z, rfl, by rw [sizeLine_eq]; omega, _, _, rfl, rfl, ((z.length : Int) + 2), rfl, by omega, by omega, fun D hD => ?_⟩
      have en : ((z.length : Int) + 2).toNat = z.length + 2 := by omega
      show ∃ W : Nat → Nat → Hp → Prop, _
      refine lc_range (n := z.length + 2) (fun i H' => Making a D (fun H v => Bx H 5 4 0 v) i H1 H') (Making.start d1.2 hD) ?_ ?_
      · rintro i H' hi mk
        refine ⟨rfl, _, rfl, a, 9, rfl, by decide, by decide, mk.1.2, fun d H2 d0 d1' dr => ⟨_, _, rfl, rfl, ?_⟩⟩
        exact mk.step (bx_mono _ _ _) d1.2 hD dr (by omega) (bx0 (by omega) (by omega))
      · rintro H2 mk
        obtain ⟨d2, ys, e1, e2, e3⟩ := mk.end_ (bx_mono _ _ _) hD
        dsimp only
        refine set_join (fun σ' H' => ∃ pm ms v3 v4, σ' = [some (.ref a), some (.ref p), some (.ref pm), v3, v4] ∧ Drawn a H2 H' ∧ H' pm = some (.lst ms) ∧ ms.length = z.length + 2 ∧ (∀ x ∈ ms, ∃ i : Int, x = .int i ∧ -CM ≤ i ∧ i ≤ CM)) (fun N kN => ?_) ?_
        · refine ⟨_, rfl, a, 8, rfl, by decide, by decide, d2.2, fun d H3 d0 dl d3 => ?_⟩
          have e1' := d3.keep (d1.2.ne hD) (new_some e1).2
          refine ⟨rfl, _, rfl, it2 (fun h => ?_) (fun h => ?_)⟩
          · refine ⟨_, rfl, D, rfl, ⟨_, SqL.of e1'⟩, fun D3 hD3 => ?_⟩
            refine lc_list (xs := ys) (fun i H' => Mk D3 (fun H v => Bx H 5 CM 0 v) i H3 H') (Mk.start hD3) (fun i H' _ mk2 => SqL.of (mk2.1 _ _ e1')) ?_ ?_
            · rintro t y H4 ht mk3
              have ht3 := (List.getElem?_eq_some_iff.mp ht).1
              obtain ⟨yi, rfl, y1, y2⟩ := e3 y (List.mem_of_getElem? ht)
              refine ⟨rfl, _, rfl, _, _, rfl, rfl, ⟨by decide, by decide, by decide⟩, _, _, rfl, rfl, .inr ⟨by decide, by decide⟩, ?_⟩
              have e15 : (10 : Int) ^ (15 : Int).toNat = 1000000000000000 := by decide
              exact mk3.step (bx_mono _ _ _) hD3 (Same.refl _) (by omega) (bx0 (by rw [e15]; omega) (by rw [e15]; omega))
            · rintro H4 mk3
              obtain ⟨s3, zs, f1, f2, f3⟩ := mk3.end_ (bx_mono _ _ _) hD3
              exact kN _ _ ⟨D3, zs, _, _, rfl, d3.more s3, (new_some f1).2, by omega, fun x hx => f3 x hx⟩
          · refine kN _ _ ⟨D, ys, _, _, rfl, d3, e1', e2, fun x hx => ?_⟩
            obtain ⟨i, e, i1, i2⟩ := e3 x hx
            exact ⟨i, e, by omega, by omega⟩
        · rintro σ' H3 ⟨pm, ms, v3, v4, rfl, d3, g1, g2, g3⟩
          have t3 := d1.trans (d2.trans d3)
          refine ⟨_, rfl, _, rfl, _, pm, ms, z, rfl, (hw.same t3.1).same (hid_le _ _), hz, g1, g2, g3, fun v' H4 s4 hw4 => ?_⟩
          exact q _ _ (t3.more s4) (hw4.same (new_hid t3.2))
end Aw
set_option maxHeartbeats 4000000
/-! The lines of the world; a word; a spoilt line; spoilt lines. -/
namespace Aw
open PySem PySem.Spec PyProof.Rows L2
variable {P : Program} {w : World} {K : PySem.W.Frag} {mg : Str → Option Value} {base : Heap}
theorem num_len {i : Int} {k : Nat} (hk : 1 ≤ k) (h : i.natAbs < 10 ^ k) : (PySem.Str.ofString (toString i)).length ≤ k + 1 := by
  rw [PyProof.Rows.ofString_len]
  cases i with
  | ofNat m =>
    show (Nat.repr m).length ≤ k + 1
    have := PySem.Flt.repr_len hk (show m < 10 ^ k from h)
    rw [String.length_toList] at this
    omega
  | negSucc m =>
    show ("-" ++ Nat.repr (m + 1)).length ≤ k + 1
    have := PySem.Flt.repr_len hk (show m + 1 < 10 ^ k from h)
    rw [String.length_toList] at this
    rw [String.length_append]
    have e : ("-" : String).length = 1 := by decide
    omega
theorem strs_of {vs : List V} {B : Nat} (h : ∀ v ∈ vs, ∃ s : Str, v = .str s ∧ s.length ≤ B) : ∃ ss : List Str, vs = ss.map V.str ∧ ∀ s ∈ ss, s.length ≤ B := by
  induction vs with
  | nil => exact ⟨[], rfl, fun s hs => by cases hs⟩
  | cons v r ih =>
    obtain ⟨s, rfl, hs⟩ := h v List.mem_cons_self
    obtain ⟨ss, rfl, h2⟩ := ih fun x hx => h x (List.mem_cons_of_mem _ hx)
    refine ⟨s :: ss, rfl, fun x hx => ?_⟩
    rcases List.mem_cons.mp hx with rfl | hx
    · exact hs
    · exact h2 x hx
theorem wl_le {ss : List Str} {B : Nat} (h : ∀ s ∈ ss, s.length ≤ B) : wl ss ≤ (B + 1) * ss.length := by
  induction ss with
  | nil => exact Nat.zero_le _
  | cons s r ih =>
    rw [wl_cons, List.length_cons, Nat.mul_succ]
    have := h s List.mem_cons_self
    have := ih fun x hx => h x (List.mem_cons_of_mem _ hx)
    omega
theorem join_wl (ss : List Str) : (PySem.Txt.join SP ss).length ≤ wl ss ∧ (ss.map (·.length)).sum + ss.length * SP.length = wl ss := by
  have e : SP.length = 1 := by decide +kernel
  constructor
  · rw [TL.join_eq]
    have := StrLaws.join_length_le SP ss
    rw [e] at this
    unfold wl
    omega
  · rw [e]
    unfold wl
    omega
theorem app_len (a b : Str) : (a ++ b).length = a.length + b.length := PySem.Str.length_append a b
/-- str(x) for each -/
def spText : Nat → V → Prop := fun B v => ∃ s : Str, v = .str s ∧ s.length ≤ B
theorem text_cell {H : Hp} {x : V} (h : Bx H 3 CW 0 x) : ∃ i : Int, x = .int i ∧ i.natAbs.log2 < 1920 ∧ (PySem.Str.ofString (toString i)).length ≤ 17 := by
  have cw : CW = 4000000000000008 := rfl
  obtain ⟨i, rfl, h1, h2⟩ := h
  have h3 : i.natAbs < 10 ^ 16 := by omega
  refine ⟨i, rfl, ?_, num_len (by decide) h3⟩
  exact Nat.lt_trans (PySem.Flt.log2_lt_of (k := 60) (by decide) (Nat.lt_trans h3 (by decide))) (by decide)
def spLinesL : Sp := fun vs H Q _ => ∃ (v : V) (s : Str), vs = [v] ∧ Wrd H CW s v ∧ s.length ≤ 3 ∧ ∀ l (zs : List Str) H', Same H H' → H l = none → H' l = some (.lst (zs.map V.str)) → zs.length ≤ 12 → (∀ z ∈ zs, z.length ≤ 64) → Q (.ref l) H'
theorem sc_l_lines : FnScope ["_law_world_here", "_law_asks_here", "_law_begins", "_law_costs", "_law_ends", "_law_lines_here", "_law_k", "_law_line", "_law_x"] ["_law_world_here"] (defScope s_l_lines) := ⟨rfl, rfl, rfl, by decide +kernel, rfl, by decide +kernel, by decide +kernel⟩
theorem ok_l_lines (T : Txt K mg) : DefOk P w K mg base (L2.CX P w) 1 "_law_lines" ["_law_world_here"] spLinesL := by
  refine def_mk T.fn_l_lines T.g_l_lines sc_l_lines (fun _ _ _ _ _ _ us hl => match us, hl with | [_], _ => rfl) (fun vs H Q E h => ?_) fun cdv A outer s H vs Q E hr h => ⟨_, (pss_cons (ps_asg (pv 0) (pg_unl rfl (pgs_cons (pg_name (i := 1) sc_l_lines.nd rfl (.inl rfl)) (pgs_cons (pg_name (i := 2) sc_l_lines.nd rfl (.inl rfl)) (pgs_cons (pg_name (i := 3) sc_l_lines.nd rfl (.inl rfl)) (pgs_cons (pg_name (i := 4) sc_l_lines.nd rfl (.inl rfl)) pgs_nil))))))
    (pss_cons (ps_set (i := 5) sc_l_lines.nd rfl (Or.inl rfl) (pe_lst (pa_cons (pe_op op_add_str pe_str (pv 1)) (pa_cons (pe_join pe_str (pe_op op_cat (pe_lst (pa_cons pe_str pa_nil)) (pe_lc (own := [("_law_x", 8)]) (g := gName 8) (tt := tYes) rfl sc_l_lines.nd (pi_list (pv 2)) (blkOk_by (N := ["_law_world_here", "_law_asks_here", "_law_begins", "_law_costs", "_law_ends", "_law_lines_here", "_law_k", "_law_line", "_law_x"]) (sc := defScope s_l_lines) (by decide +kernel)) (fun _ _ _ _ _ => (pg_name (i := 8) sc_l_lines.nd rfl (.inl rfl))) (fun _ _ _ _ _ => pts_nil) (fun _ _ _ _ _ => (pe_callTy call_str_int rfl T.f_str boot_str (pa_cons (pv 8) pa_nil)))))) pa_nil))))
    (pss_cons (ps_for (passes_of rfl) rfl (pi_range1 rfl T.f_range (pa_cons (pe_callB call_len_str rfl T.f_len boot_len (pa_cons (pv 1) pa_nil)) pa_nil)) (pg_name (i := 6) sc_l_lines.nd rfl (.inl rfl))
      (pss_one (ps_for (passes_of rfl) rfl (pi_list (pe_ix ix_list (pv 3) (pv 6) (fun _ _ => rfl))) (pg_name (i := 7) sc_l_lines.nd rfl (.inl rfl))
        (pss_one (ps_expr (pe_bm PySem.F.plainAttrs_list PySem.F.slot_list_append PySem.F.type_list_append mt_append (pv 5) (pa_cons (pe_op op_add_str (pe_op op_add_str (pe_op op_add_str pe_str (pe_ix ix_str (pv 1) (pv 6) (fun _ _ => rfl))) pe_str) (pe_join pe_str (pe_lc (own := [("_law_x", 8)]) (g := gName 8) (tt := tYes) rfl sc_l_lines.nd (pi_list (pv 7)) (blkOk_by (N := ["_law_world_here", "_law_asks_here", "_law_begins", "_law_costs", "_law_ends", "_law_lines_here", "_law_k", "_law_line", "_law_x"]) (sc := defScope s_l_lines) (by decide +kernel)) (fun _ _ _ _ _ => (pg_name (i := 8) sc_l_lines.nd rfl (.inl rfl))) (fun _ _ _ _ _ => pts_nil) (fun _ _ _ _ _ => (pe_callTy call_str_int rfl T.f_str boot_str (pa_cons (pv 8) pa_nil)))))) pa_nil)))))))
    (pss_cons (ps_expr (pe_bm PySem.F.plainAttrs_list PySem.F.slot_list_append PySem.F.type_list_append mt_append (pv 5) (pa_cons (pe_join pe_str (pe_op op_cat (pe_lst (pa_cons pe_str pa_nil)) (pe_lc (own := [("_law_x", 8)]) (g := gName 8) (tt := tYes) rfl sc_l_lines.nd (pi_list (pv 4)) (blkOk_by (N := ["_law_world_here", "_law_asks_here", "_law_begins", "_law_costs", "_law_ends", "_law_lines_here", "_law_k", "_law_line", "_law_x"]) (sc := defScope s_l_lines) (by decide +kernel)) (fun _ _ _ _ _ => (pg_name (i := 8) sc_l_lines.nd rfl (.inl rfl))) (fun _ _ _ _ _ => pts_nil) (fun _ _ _ _ _ => (pe_callTy call_str_int rfl T.f_str boot_str (pa_cons (pv 8) pa_nil)))))) pa_nil)))
    (pss_one (ps_ret (pv 5))))))), ?_⟩
  · obtain ⟨v, z, rfl, _⟩ := h
    rfl
  · obtain ⟨v, z, rfl, ⟨p, pc, vb, ve, cs, rfl, h1, ⟨pb, bs, rfl, hpb, hbl, hb⟩, h3, h4, h5, ⟨pe, es, rfl, hpe, hel, he⟩⟩, hz, q⟩ := h
    have e7 : (PySem.Str.ofString "store ").length = 6 := by decide +kernel
    have e8 : (PySem.Str.ofString "begins").length = 6 := by decide +kernel
    have e9 : (PySem.Str.ofString "cost ").length = 5 := by decide +kernel
    have e10 : (PySem.Str.ofString "ends").length = 4 := by decide +kernel
    have e11 : SP.length = 1 := by decide +kernel
    refine ⟨_, rfl, p, _, rfl, SqL.of h1, rfl, _, _, rfl, _, _, rfl, _, _, rfl, _, _, rfl, rfl, ?_⟩
    -- the first two lines
    refine ⟨_, rfl, _, _, rfl, rfl, by rw [sizeLine_eq]; omega, ⟨SP, rfl⟩, by show 1 ≤ sizeLine; decide, fun p1 hp1 => ?_⟩
    have s1 := same_new (o := .lst [.str (PySem.Str.ofString "begins")]) hp1
    refine ⟨_, rfl, pb, rfl, ⟨_, SqL.of (s1 _ _ hpb)⟩, fun D hD => ?_⟩
    refine lc_list (xs := bs) (fun i H' => Mk D (fun _ v => spText 17 v) i (upd H p1 (.lst [.str (PySem.Str.ofString "begins")])) H') (Mk.start hD) (fun i H' _ mk => SqL.of (mk.1 _ _ (s1 _ _ hpb))) ?_ ?_
    · rintro t y H3 ht mk3
      have ht3 := (List.getElem?_eq_some_iff.mp ht).1
      obtain ⟨i, rfl, i1, i2⟩ := text_cell (hb y (List.mem_of_getElem? ht))
      refine ⟨rfl, _, rfl, i, rfl, i1, ?_⟩
      exact mk3.step (fun _ _ _ _ h => h) hD (Same.refl _) (by omega) ⟨_, rfl, i2⟩
    rintro H2 mk
    obtain ⟨s2, ys, f1, f2, f3⟩ := mk.end_ (fun _ _ _ _ h => h) hD
    obtain ⟨ss, rfl, g3⟩ := strs_of f3
    rw [List.length_map] at f2
    have w1 := wl_le g3
    refine ⟨p1, D, _, _, rfl, rfl, s2 _ _ upd_same, (new_some f1).2, by rw [sizeLine_eq, List.length_map]; show 1 + ss.length ≤ _; omega, fun p3 hp3 => ?_⟩
    obtain ⟨j1, j2⟩ := join_wl (PySem.Str.ofString "begins" :: ss)
    rw [wl_cons] at j1 j2
    have t2 := s1.trans s2
    have s3 := same_new (o := .lst ([V.str (PySem.Str.ofString "begins")] ++ ss.map V.str)) hp3
    refine ⟨SP, p3, PySem.Str.ofString "begins" :: ss, rfl, rfl, .inl (SqL.of upd_same), by rw [j2]; omega, by show 2 ≤ sizeLine; decide, fun L hL => ?_⟩
    have t3 := t2.trans s3
    obtain ⟨H4, e4⟩ : ∃ H4, H4 = upd (upd H2 p3 (.lst ([V.str (PySem.Str.ofString "begins")] ++ ss.map V.str))) L (.lst [.str (PySem.Str.ofString "store " ++ z), .str (PySem.Txt.join SP (PySem.Str.ofString "begins" :: ss))]) := ⟨_, rfl⟩
    rw [← e4]
    have hL0 := new_old t3 hL
    have t4 : Same H H4 := by rw [e4]; exact t3.trans (same_new hL)
    have hL4 : H4 L = some (.lst (List.map V.str [PySem.Str.ofString "store " ++ z, PySem.Txt.join SP (PySem.Str.ofString "begins" :: ss)])) := by rw [e4]; exact upd_same
    have z1 : (PySem.Str.ofString "store " ++ z).length ≤ 64 := by rw [app_len]; omega
    have z2 : (PySem.Txt.join SP (PySem.Str.ofString "begins" :: ss)).length ≤ 64 := by omega
    -- the tables
    refine ⟨_, rfl, z, rfl, by rw [sizeLine_eq]; omega, (z.length : Int), rfl, by omega, by omega, ?_⟩
    refine for_range (lo := 0) (n := z.length) (fun i σ H' => (∃ v6 v7 v8, σ = [some (.ref p), some (.str z), some (.ref pb), some (.ref pc), some (.ref pe), some (.ref L), v6, v7, v8]) ∧ Same H H' ∧ ∃ zs : List Str, H' L = some (.lst (zs.map V.str)) ∧ zs.length ≤ 2 + 3 * i ∧ ∀ z ∈ zs, z.length ≤ 64)
      ⟨⟨none, none, none, rfl⟩, t4, _, hL4, Nat.le_refl _, fun y hy => ?_⟩ ?_ ?_
    · rcases List.mem_cons.mp hy with rfl | hy
      · exact z1
      · rw [List.mem_singleton.mp hy]
        exact z2
    · rintro i σ H5 hi ⟨⟨v6, v7, v8, rfl⟩, s5, zs, hzs, hzl, hzz⟩
      obtain ⟨c, hc, hat, _⟩ := atI_of (xs := cs) (d := 0 + (i : Int)) (by omega) (by omega)
      have hzl2 : z.cps.toList.length = z.length := by simp [Str.length]
      obtain ⟨sg, hsg, hatz, _⟩ := atI_of (xs := z.cps.toList) (d := 0 + (i : Int)) (by omega) (by omega)
      obtain ⟨pt, rs, rfl, hpt, hrl, hr3⟩ := h5 c hc
      refine ⟨_, rfl, _, rfl, pc, _, _, _, rfl, rfl, SqL.of (s5 _ _ h3), hat, pt, rfl, ⟨_, SqL.of (s5 _ _ hpt)⟩, ?_⟩
      refine for_list (xs := rs) (fun j σ H' => (∃ v7 v8, σ = [some (.ref p), some (.str z), some (.ref pb), some (.ref pc), some (.ref pe), some (.ref L), some (.int (0 + (i : Nat))), v7, v8]) ∧ Same H H' ∧ ∃ zs : List Str, H' L = some (.lst (zs.map V.str)) ∧ zs.length ≤ 2 + 3 * i + j ∧ ∀ z ∈ zs, z.length ≤ 64)
        ⟨⟨_, _, rfl⟩, s5, zs, hzs, hzl, hzz⟩ (fun j σ H' _ h => SqL.of (h.2.1 _ _ hpt)) ?_ ?_
      · rintro j x σ H6 hj ⟨⟨v7, v8, rfl⟩, s6, zs, hzs, hzl, hzz⟩
        have hj3 := (List.getElem?_eq_some_iff.mp hj).1
        obtain ⟨pr, xs, rfl, hpr, hxl, hx⟩ := hr3 x (List.mem_of_getElem? hj)
        refine ⟨_, rfl, .inl ⟨rfl, _, SqL.of hzs⟩, _, rfl, _, rfl, z, _, sg, rfl, rfl, by rw [sizeLine_eq]; omega, hatz, _, _, rfl, rfl, by rw [sizeLine_eq, e9]; show 5 + 1 ≤ _; omega, _, _, rfl, rfl, by rw [sizeLine_eq, app_len, e9]; show 5 + 1 + SP.length ≤ _; omega, ⟨SP, rfl⟩, ?_⟩
        refine ⟨_, rfl, pr, rfl, ⟨_, SqL.of (s6 _ _ hpr)⟩, fun D3 hD3 => ?_⟩
        refine lc_list (xs := xs) (fun i H' => Mk D3 (fun _ v => spText 17 v) i H6 H') (Mk.start hD3) (fun i H' _ mk => SqL.of (mk.1 _ _ (s6 _ _ hpr))) ?_ ?_
        · rintro t y H3 ht mk3
          have ht3 := (List.getElem?_eq_some_iff.mp ht).1
          obtain ⟨i, rfl, i1, i2⟩ := text_cell (hx y (List.mem_of_getElem? ht))
          refine ⟨rfl, _, rfl, i, rfl, i1, ?_⟩
          exact mk3.step (fun _ _ _ _ h => h) hD3 (Same.refl _) (by omega) ⟨_, rfl, i2⟩
        rintro H7 mk
        obtain ⟨s7, ys, f1, f2, f3⟩ := mk.end_ (fun _ _ _ _ h => h) hD3
        obtain ⟨ss, rfl, g3⟩ := strs_of f3
        rw [List.length_map] at f2
        have w1 := wl_le g3
        obtain ⟨j1, j2⟩ := join_wl ss
        have l1 : (((PySem.Str.ofString "cost " ++ (⟨#[sg]⟩ : Str)) ++ SP) ++ PySem.Txt.join SP ss).length ≤ 64 := by
          rw [app_len, app_len, app_len, e9, e11]
          show 5 + 1 + 1 + _ ≤ _
          omega
        refine ⟨SP, D3, ss, rfl, rfl, .inl (SqL.of (new_some f1).2), by rw [j2]; omega, _, _, rfl, rfl, by rw [sizeLine_eq, app_len, app_len, e9, e11]; show 5 + 1 + 1 + _ ≤ _; omega, L, _, _, rfl, rfl, s7 _ _ hzs, by rw [sizeLine_eq, List.length_map]; omega, ?_⟩
        refine ⟨⟨_, _, rfl⟩, same_put (s6.trans s7) hL0, zs ++ [_], by rw [upd_same, List.map_append]; rfl, by rw [List.length_append, List.length_singleton]; omega, fun y hy => ?_⟩
        rcases List.mem_append.mp hy with hy | hy
        · exact hzz y hy
        · rw [List.mem_singleton.mp hy]
          exact l1
      · rintro σ H6 ⟨⟨v7, v8, rfl⟩, s6, zs, hzs, hzl, hzz⟩
        exact ⟨⟨_, _, _, rfl⟩, s6, zs, hzs, by omega, hzz⟩
    · rintro σ H6 ⟨⟨v6, v7, v8, rfl⟩, s6, zs, hzs, hzl, hzz⟩
      -- the last line
      refine ⟨_, rfl, .inl ⟨rfl, _, SqL.of hzs⟩, ⟨SP, rfl⟩, by show 1 ≤ sizeLine; decide, fun p4 hp4 => ?_⟩
      have s7 := same_new (o := .lst [.str (PySem.Str.ofString "ends")]) hp4
      have t7 := s6.trans s7
      refine ⟨_, rfl, pe, rfl, ⟨_, SqL.of (t7 _ _ hpe)⟩, fun D3 hD3 => ?_⟩
      refine lc_list (xs := es) (fun i H' => Mk D3 (fun _ v => spText 17 v) i (upd H6 p4 (.lst [.str (PySem.Str.ofString "ends")])) H') (Mk.start hD3) (fun i H' _ mk => SqL.of (mk.1 _ _ (t7 _ _ hpe))) ?_ ?_
      · rintro t y H3 ht mk3
        have ht3 := (List.getElem?_eq_some_iff.mp ht).1
        obtain ⟨i, rfl, i1, i2⟩ := text_cell (he y (List.mem_of_getElem? ht))
        refine ⟨rfl, _, rfl, i, rfl, i1, ?_⟩
        exact mk3.step (fun _ _ _ _ h => h) hD3 (Same.refl _) (by omega) ⟨_, rfl, i2⟩
      rintro H7 mk
      obtain ⟨s8, ys, f1, f2, f3⟩ := mk.end_ (fun _ _ _ _ h => h) hD3
      obtain ⟨ss, rfl, g3⟩ := strs_of f3
      rw [List.length_map] at f2
      have w1 := wl_le g3
      obtain ⟨j1, j2⟩ := join_wl (PySem.Str.ofString "ends" :: ss)
      rw [wl_cons] at j1 j2
      refine ⟨p4, D3, _, _, rfl, rfl, s8 _ _ upd_same, (new_some f1).2, by rw [sizeLine_eq, List.length_map]; show 1 + ss.length ≤ _; omega, fun p5 hp5 => ?_⟩
      have s9 := same_new (o := .lst ([V.str (PySem.Str.ofString "ends")] ++ ss.map V.str)) hp5
      have t9 := (s7.trans s8).trans s9
      refine ⟨SP, p5, PySem.Str.ofString "ends" :: ss, rfl, rfl, .inl (SqL.of upd_same), by rw [j2]; omega, L, _, _, rfl, rfl, t9 _ _ hzs, by rw [sizeLine_eq, List.length_map]; omega, ?_⟩
      refine ⟨_, rfl, q L (zs ++ [_]) _ (same_put (s6.trans t9) hL0) hL0 (by rw [upd_same, List.map_append]; rfl) (by rw [List.length_append, List.length_singleton]; omega) fun y hy => ?_⟩
      rcases List.mem_append.mp hy with hy | hy
      · exact hzz y hy
      · rw [List.mem_singleton.mp hy]
        omega
end Aw
set_option maxHeartbeats 4000000
/-! A word; a spoilt line; spoilt lines. -/
namespace Aw
open PySem PySem.Spec PyProof.Rows L2
variable {P : Program} {w : World} {K : PySem.W.Frag} {mg : Str → Option Value} {base : Heap}
theorem wl_set {z : Str} : ∀ {ws : List Str} {k : Nat}, wl (ws.set k z) ≤ wl ws + z.length
  | [], _ => by simp [wl]
  | a :: r, 0 => by
    rw [List.set_cons_zero, wl_cons, wl_cons]
    omega
  | a :: r, k + 1 => by
    rw [List.set_cons_succ, wl_cons, wl_cons]
    have := wl_set (z := z) (ws := r) (k := k)
    omega
theorem wl_erase : ∀ {ws : List Str} {k : Nat}, wl (ws.eraseIdx k) ≤ wl ws
  | [], _ => by simp [wl]
  | a :: r, 0 => by
    rw [List.eraseIdx_cons_zero, wl_cons]
    omega
  | a :: r, k + 1 => by
    rw [List.eraseIdx_cons_succ, wl_cons, wl_cons]
    have := wl_erase (ws := r) (k := k)
    omega
theorem wl_insert {ws : List Str} {k : Nat} {z : Str} : wl (ws.take k ++ [z] ++ ws.drop k) = wl ws + z.length + 1 := by
  have h := wl_app (ws.take k) (ws.drop k)
  rw [List.take_append_drop] at h
  rw [wl_app, wl_app, h]
  have e : wl [z] = z.length + 1 := by simp [wl]
  omega
theorem wl_snoc {ws : List Str} {z : Str} : wl (ws ++ [z]) = wl ws + z.length + 1 := by
  rw [wl_app]
  have e : wl [z] = z.length + 1 := by simp [wl]
  omega
theorem ixN_k {n k : Nat} (h : k < n) : ixN n (k : Int) = some k := ixN_in (by omega) (by omega)
theorem erase_map : ∀ {ws : List Str} {k : Nat}, (ws.map V.str).eraseIdx k = (ws.eraseIdx k).map V.str
  | [], _ => rfl
  | a :: r, 0 => rfl
  | a :: r, k + 1 => by
    rw [List.map_cons, List.eraseIdx_cons_succ, List.eraseIdx_cons_succ, List.map_cons, erase_map]
/-! ### _law_word -/
abbrev SO (x : String) : Str := PySem.Str.ofString x
def menuW : List Str := [SO "", SO "0", SO "-0", SO "00", SO "07", SO "-5", SO "--5", SO "+5", SO "1a", SO "store", SO "cost", SO "begins", SO "ends", SO "a", SO "ab", SO "ba", SO "12", PySem.Txt.mul (SO "9") 60, PySem.Txt.mul (SO "9") 61, SO "-" ++ PySem.Txt.mul (SO "1") 60, SO "-" ++ PySem.Txt.mul (SO "1") 61, SO "-", SO "1.0", SO "1_0"]
theorem menuW_len : ∀ s ∈ menuW, s.length ≤ 62 := by decide +kernel
def spWord : Sp := fun vs H Q _ => ∃ a, vs = [.ref a] ∧ Src H a ∧ ∀ s H', s.length ≤ 62 → Drawn a H H' → Q (.str s) H'
theorem mul_ok {z : Str} {n : Int} (hz : z.length ≤ 1) (h0 : 0 ≤ n) (h1 : n ≤ 2000) : PySem.MulOk z n := PyProof.Rows.mulOk_of 1 2000 hz h1 (by omega) (by decide) (by decide)
theorem sc_l_word : FnScope ["_law_source_here", "_law_menu"] ["_law_source_here"] (defScope s_l_word) := ⟨rfl, rfl, rfl, by decide +kernel, rfl, by decide +kernel, by decide +kernel⟩
theorem ok_l_word (T : Txt K mg) : DefOk P w K mg base (L2.CX P w) 2 "_law_word" ["_law_source_here"] spWord := by
  refine def_mk T.fn_l_word T.g_l_word sc_l_word (fun _ _ _ _ _ _ us hl => match us, hl with | [_], _ => rfl) (fun vs H Q E h => ?_) fun cdv A outer s H vs Q E hr h => ⟨_, (pss_cons (ps_set (i := 1) sc_l_word.nd rfl (Or.inl rfl) (pe_lst (pa_cons pe_str (pa_cons pe_str (pa_cons pe_str (pa_cons pe_str (pa_cons pe_str (pa_cons pe_str (pa_cons pe_str (pa_cons pe_str (pa_cons pe_str (pa_cons pe_str (pa_cons pe_str (pa_cons pe_str (pa_cons pe_str (pa_cons pe_str (pa_cons pe_str (pa_cons pe_str (pa_cons pe_str pa_nil)))))))))))))))))))
    (pss_cons (ps_set (i := 1) sc_l_word.nd rfl (Or.inl rfl) (pe_op op_cat (pv 1) (pe_lst (pa_cons (pe_op op_mul_str pe_str pe_int) (pa_cons (pe_op op_mul_str pe_str pe_int) (pa_cons (pe_op op_add_str pe_str (pe_op op_mul_str pe_str pe_int)) (pa_cons (pe_op op_add_str pe_str (pe_op op_mul_str pe_str pe_int)) (pa_cons pe_str (pa_cons pe_str (pa_cons pe_str pa_nil))))))))))
    (pss_one (ps_ret (pe_ix ix_list (pv 1) (pe_dn (ok_l_draw T) (hr.mono (by decide)) (pa_cons (pv 0) (pa_cons (pe_callB call_len_seq rfl T.f_len boot_len (pa_cons (pv 1) pa_nil)) pa_nil))) (fun _ _ => rfl)))))), ?_⟩
  · obtain ⟨a, rfl, _⟩ := h
    rfl
  · obtain ⟨a, rfl, hs, q⟩ := h
    have o9 : (SO "9").length ≤ 1 := by decide +kernel
    have o1 : (SO "1").length ≤ 1 := by decide +kernel
    refine ⟨by show 17 ≤ sizeLine; decide, fun p1 hp1 => ?_⟩
    refine ⟨_, rfl, _, _, rfl, rfl, mul_ok o9 (by decide) (by decide), _, _, rfl, rfl, mul_ok o9 (by decide) (by decide), _, _, rfl, rfl, mul_ok o1 (by decide) (by decide), _, _, rfl, rfl, ?_, _, _, rfl, rfl, mul_ok o1 (by decide) (by decide), _, _, rfl, rfl, ?_, by show 7 ≤ sizeLine; decide, fun p2 hp2 => ?_⟩
    · exact Nat.le_trans (by decide +kernel : (SO "-").length + (PySem.Txt.mul (SO "1") 60).length ≤ 100) (by decide)
    · exact Nat.le_trans (by decide +kernel : (SO "-").length + (PySem.Txt.mul (SO "1") 61).length ≤ 100) (by decide)
    have s1 := same_new (H := H) (o := .lst [.str (SO ""), .str (SO "0"), .str (SO "-0"), .str (SO "00"), .str (SO "07"), .str (SO "-5"), .str (SO "--5"), .str (SO "+5"), .str (SO "1a"), .str (SO "store"), .str (SO "cost"), .str (SO "begins"), .str (SO "ends"), .str (SO "a"), .str (SO "ab"), .str (SO "ba"), .str (SO "12")]) hp1
    have ne : p2 ≠ p1 := fun z => by
      rw [z] at hp2
      have e := upd_same (H := H) (a := p1) (o := .lst [.str (SO ""), .str (SO "0"), .str (SO "-0"), .str (SO "00"), .str (SO "07"), .str (SO "-5"), .str (SO "--5"), .str (SO "+5"), .str (SO "1a"), .str (SO "store"), .str (SO "cost"), .str (SO "begins"), .str (SO "ends"), .str (SO "a"), .str (SO "ab"), .str (SO "ba"), .str (SO "12")])
      rw [e] at hp2
      cases hp2
    refine ⟨p1, p2, _, _, rfl, rfl, (upd_ne (Ne.symm ne)).trans upd_same, upd_same, by show 17 + 7 ≤ sizeLine; decide, fun p3 hp3 => ?_⟩
    have s2 := s1.trans (same_new (o := .lst [.str (PySem.Txt.mul (SO "9") 60), .str (PySem.Txt.mul (SO "9") 61), .str (SO "-" ++ PySem.Txt.mul (SO "1") 60), .str (SO "-" ++ PySem.Txt.mul (SO "1") 61), .str (SO "-"), .str (SO "1.0"), .str (SO "1_0")]) hp2)
    have s3 := s2.trans (same_new (o := .lst (menuW.map V.str)) hp3)
    have hn3 := new_old s2 hp3
    refine ⟨_, rfl, _, rfl, _, rfl, p3, menuW.map V.str, rfl, .inl (SqL.of upd_same), a, 24, rfl, by decide, by decide, hs.same s3, fun d H' d0 d1 dr => ?_⟩
    obtain ⟨x, hx, hat, _⟩ := atI_of (xs := menuW.map V.str) d0 d1
    obtain ⟨z, hz, rfl⟩ := List.mem_map.mp hx
    refine ⟨p3, menuW.map V.str, d, _, rfl, rfl, SqL.of (dr.keep (hs.ne hn3) upd_same), hat, ?_⟩
    exact q z H' (menuW_len z hz) ((hs.drawn s3).trans dr)
/-! ### _law_spoilt_line -/
def spSpoiltLine : Sp := fun vs H Q _ => ∃ (a : Addr) (s : Str), vs = [.ref a, .str s] ∧ s.length ≤ 10000 ∧ Src H a ∧ ∀ s' H', s'.length ≤ 2 * s.length + 64 → Drawn a H H' → Q (.str s') H'
theorem sc_l_spoilt_line : FnScope ["_law_source_here", "_law_line", "_law_words", "_law_at", "_law_way"] ["_law_source_here", "_law_line"] (defScope s_l_spoilt_line) := ⟨rfl, rfl, rfl, by decide +kernel, rfl, by decide +kernel, by decide +kernel⟩
theorem ok_l_spoilt_line (T : Txt K mg) : DefOk P w K mg base (L2.CX P w) 3 "_law_spoilt_line" ["_law_source_here", "_law_line"] spSpoiltLine := by
  refine def_mk T.fn_l_spoilt_line T.g_l_spoilt_line sc_l_spoilt_line (fun _ _ _ _ _ _ us hl => match us, hl with | [_, _], _ => rfl) (fun vs H Q E h => ?_) fun cdv A outer s H vs Q E hr h => ⟨_, (pss_cons (ps_set (i := 2) sc_l_spoilt_line.nd rfl (Or.inl rfl) (pe_split (pv 1) pe_str))
    (pss_cons (ps_set (i := 3) sc_l_spoilt_line.nd rfl (Or.inl rfl) (pe_dn (ok_l_draw T) (hr.mono (by decide)) (pa_cons (pv 0) (pa_cons (pe_callB call_len_seq rfl T.f_len boot_len (pa_cons (pv 2) pa_nil)) pa_nil))))
    (pss_cons (ps_set (i := 4) sc_l_spoilt_line.nd rfl (Or.inl rfl) (pe_dn (ok_l_draw T) (hr.mono (by decide)) (pa_cons (pv 0) (pa_cons pe_int pa_nil))))
    (pss_cons (ps_if (pt_cmpR op_lt (pv 4) pe_int (nomark _))
      (pss_one (ps_asg (pe_dn (ok_l_word T) (hr.mono (by decide)) (pa_cons (pv 0) pa_nil)) (pg_sub (pv 2) (pv 3) set_list)))
      pss_nil)
    (pss_cons (ps_if (pt_cmpR op_eq (pv 4) pe_int (nomark _))
      (pss_one (ps_expr (pe_bm PySem.F.plainAttrs_list PySem.F.slot_list_pop PySem.F.type_list_pop mt_popAt (pv 2) (pa_cons (pv 3) pa_nil))))
      pss_nil)
    (pss_cons (ps_if (pt_cmpR op_eq (pv 4) pe_int (nomark _))
      (pss_one (ps_expr (pe_bm PySem.F.plainAttrs_list PySem.F.slot_list_insert PySem.F.type_list_insert mt_insert (pv 2) (pa_cons (pv 3) (pa_cons (pe_dn (ok_l_word T) (hr.mono (by decide)) (pa_cons (pv 0) pa_nil)) pa_nil)))))
      pss_nil)
    (pss_cons (ps_if (pt_cmpR op_eq (pv 4) pe_int (nomark _))
      (pss_one (ps_expr (pe_bm PySem.F.plainAttrs_list PySem.F.slot_list_append PySem.F.type_list_append mt_append (pv 2) (pa_cons (pe_dn (ok_l_word T) (hr.mono (by decide)) (pa_cons (pv 0) pa_nil)) pa_nil))))
      pss_nil)
    (pss_cons (ps_if (pt_cmpR op_eq (pv 4) pe_int (nomark _))
      (pss_one (ps_expr (pe_bm PySem.F.plainAttrs_list PySem.F.slot_list_insert PySem.F.type_list_insert mt_insert (pv 2) (pa_cons (pv 3) (pa_cons (pe_ix ix_list (pv 2) (pv 3) (fun _ _ => rfl)) pa_nil)))))
      pss_nil)
    (pss_cons (ps_if (pt_cmpR op_eq (pv 4) pe_int (nomark _))
      (pss_one (ps_expr (pe_bm PySem.F.plainAttrs_list PySem.F.slot_list_insert PySem.F.type_list_insert mt_insert (pv 2) (pa_cons (pe_op op_mul (pe_dn (ok_l_draw T) (hr.mono (by decide)) (pa_cons (pv 0) (pa_cons pe_int pa_nil))) (pe_callB call_len_seq rfl T.f_len boot_len (pa_cons (pv 2) pa_nil))) (pa_cons pe_str pa_nil)))))
      pss_nil)
    (pss_one (ps_ret (pe_join pe_str (pv 2))))))))))))), ?_⟩
  · obtain ⟨a, z, rfl, _⟩ := h
    rfl
  · obtain ⟨a, z, rfl, hz, hs, q⟩ := h
    refine ⟨_, rfl, ⟨z, rfl⟩, z, SP, rfl, rfl, by decide +kernel, by rw [sizeLine_eq]; omega, fun p hp => ?_⟩
    obtain ⟨ws, ews⟩ : ∃ ws, ws = PySem.Txt.split z SP := ⟨_, rfl⟩
    have hwl := split_wl z
    have hpos := split_pos z
    rw [← ews] at hwl hpos ⊢
    have hlen := wl_len ws
    have s1 := same_new (o := .lst (ws.map V.str)) hp
    have e1 : upd H p (.lst (ws.map V.str)) p = some (.lst (ws.map V.str)) := upd_same
    have eL : (ws.map V.str).length = ws.length := List.length_map ..
    refine ⟨_, rfl, _, rfl, p, _, rfl, .inl (SqL.of e1), a, _, rfl, by omega, by omega, hs.same s1, fun at_ H1 a0 a1 d1 => ?_⟩
    rw [eL] at a1
    refine ⟨_, rfl, a, 7, rfl, by decide, by decide, d1.2, fun way H2 w0 w1 d2 => ?_⟩
    have np := hs.ne hp
    have d12 := d1.trans d2
    have e2 := d12.keep np e1
    have t2 : Drawn a H H2 := (hs.drawn s1).trans d12
    obtain ⟨k, rfl⟩ : ∃ k : Nat, at_ = k := ⟨at_.toNat, by omega⟩
    have hk : k < ws.length := by omega
    obtain ⟨wd, hwd⟩ : ∃ wd, ws[k]? = some wd := ⟨ws[k], by simp [hk]⟩
    have hwx : (ws.map V.str)[k]? = some (V.str wd) := by rw [List.getElem?_map, hwd]; rfl
    have hwdl := wl_mem (List.mem_of_getElem? hwd)
    -- ' '.join(words)
    have fin : ∀ (ws' : List Str) (H' : Hp), Drawn a H H' → H' p = some (.lst (ws'.map V.str)) → wl ws' ≤ 2 * z.length + 64 → (tRet (tM1 (fun x xs H Q => ∃ (a : Str) (p : Addr) (ys : List Str), x = .str a ∧ xs = [.ref p] ∧ (SqL K H p (ys.map V.str) ∨ SqT K H p (ys.map V.str)) ∧
        (ys.map (·.length)).sum + ys.length * a.length ≤ 16777216 ∧ Q (.str (PySem.Txt.join a ys)) H) (tC (.str SP)) (tVar 2))) { nx := fun _ H' => Q .non H', rt := Q } [some (.ref a), some (.str z), some (.ref p), some (.int k), some (.int way)] H' := fun ws' H' dr e hl => by
      obtain ⟨j1, j2⟩ := join_wl ws'
      exact ⟨⟨SP, rfl⟩, _, rfl, SP, p, ws', rfl, rfl, .inl (SqL.of e), by rw [j2]; omega, q _ _ (by omega) dr⟩
    have put : ∀ (ws' : List Str) (H' : Hp), Drawn a H H' → Drawn a H (upd H' p (.lst (ws'.map V.str))) := fun ws' H' dr => dr.put hs hp
    obtain hw | rfl | rfl | rfl | rfl | rfl : way < 2 ∨ way = 2 ∨ way = 3 ∨ way = 4 ∨ way = 5 ∨ way = 6 := by omega
    · refine ⟨_, rfl, _, _, rfl, rfl, _, rfl, itT (decide_eq_true hw) ?_⟩
      refine ⟨_, rfl, a, rfl, d2.2, fun y H3 hy d3 => ?_⟩
      have e3 := d3.keep np e2
      refine ⟨_, rfl, _, rfl, p, _, _, k, rfl, rfl, e3, ixN_k (by omega), ?_⟩
      have n : ∀ m : Int, 2 ≤ m → decide (V.int way = V.int m) = false := fun m hm => decide_eq_false fun e => by have := V.int.inj e; omega
      refine ⟨_, rfl, rfl, _, rfl, itF (n 2 (by decide)) ⟨_, rfl, rfl, _, rfl, itF (n 3 (by decide)) ⟨_, rfl, rfl, _, rfl, itF (n 4 (by decide)) ⟨_, rfl, rfl, _, rfl, itF (n 5 (by decide)) ⟨_, rfl, rfl, _, rfl, itF (n 6 (by decide)) ?_⟩⟩⟩⟩⟩
      have es : (ws.map V.str).set k (V.str y) = (ws.set k y).map V.str := List.map_set.symm
      rw [es]
      have := wl_set (z := y) (ws := ws) (k := k)
      exact fin _ _ (put _ _ (t2.trans d3)) upd_same (by omega)
    · refine ⟨_, rfl, _, _, rfl, rfl, _, rfl, itF (by decide) ⟨_, rfl, rfl, _, rfl, itT (by decide) ?_⟩⟩
      refine ⟨_, rfl, .inl ⟨rfl, _, SqL.of e2⟩, _, rfl, p, _, _, k, _, rfl, rfl, e2, by omega, by omega, (ixN_seq (ixN_k (by omega))).1, hwx, ?_⟩
      refine ⟨_, rfl, rfl, _, rfl, itF (by decide) ⟨_, rfl, rfl, _, rfl, itF (by decide) ⟨_, rfl, rfl, _, rfl, itF (by decide) ⟨_, rfl, rfl, _, rfl, itF (by decide) ?_⟩⟩⟩⟩
      have es : (ws.map V.str).eraseIdx k = (ws.eraseIdx k).map V.str := erase_map
      rw [es]
      have := wl_erase (ws := ws) (k := k)
      exact fin _ _ (put _ _ t2) upd_same (by omega)
    · refine ⟨_, rfl, _, _, rfl, rfl, _, rfl, itF (by decide) ⟨_, rfl, rfl, _, rfl, itF (by decide) ⟨_, rfl, rfl, _, rfl, itT (by decide) ?_⟩⟩⟩
      refine ⟨_, rfl, .inl ⟨rfl, _, SqL.of e2⟩, _, rfl, _, rfl, a, rfl, d2.2, fun y H3 hy d3 => ?_⟩
      refine ⟨p, _, _, _, rfl, rfl, d3.keep np e2, by rw [sizeLine_eq, eL]; omega, by omega, by omega, ?_⟩
      refine ⟨_, rfl, rfl, _, rfl, itF (by decide) ⟨_, rfl, rfl, _, rfl, itF (by decide) ⟨_, rfl, rfl, _, rfl, itF (by decide) ?_⟩⟩⟩
      have es : (ws.map V.str).take (k : Int).toNat ++ [V.str y] ++ (ws.map V.str).drop (k : Int).toNat = (ws.take k ++ [y] ++ ws.drop k).map V.str := by
        rw [List.map_append, List.map_append, List.map_take, List.map_drop]
        rfl
      rw [es]
      exact fin _ _ (put _ _ (t2.trans d3)) upd_same (by rw [wl_insert]; omega)
    · refine ⟨_, rfl, _, _, rfl, rfl, _, rfl, itF (by decide) ⟨_, rfl, rfl, _, rfl, itF (by decide) ⟨_, rfl, rfl, _, rfl, itF (by decide) ⟨_, rfl, rfl, _, rfl, itT (by decide) ?_⟩⟩⟩⟩
      refine ⟨_, rfl, .inl ⟨rfl, _, SqL.of e2⟩, _, rfl, a, rfl, d2.2, fun y H3 hy d3 => ?_⟩
      refine ⟨p, _, _, rfl, rfl, d3.keep np e2, by rw [sizeLine_eq, eL]; omega, ?_⟩
      refine ⟨_, rfl, rfl, _, rfl, itF (by decide) ⟨_, rfl, rfl, _, rfl, itF (by decide) ?_⟩⟩
      have es : ws.map V.str ++ [V.str y] = (ws ++ [y]).map V.str := by
        rw [List.map_append]
        rfl
      rw [es]
      exact fin _ _ (put _ _ (t2.trans d3)) upd_same (by rw [wl_snoc]; omega)
    · refine ⟨_, rfl, _, _, rfl, rfl, _, rfl, itF (by decide) ⟨_, rfl, rfl, _, rfl, itF (by decide) ⟨_, rfl, rfl, _, rfl, itF (by decide) ⟨_, rfl, rfl, _, rfl, itF (by decide) ⟨_, rfl, rfl, _, rfl, itT (by decide) ?_⟩⟩⟩⟩⟩
      refine ⟨_, rfl, .inl ⟨rfl, _, SqL.of e2⟩, _, rfl, _, rfl, _, rfl, p, _, _, _, rfl, rfl, SqL.of e2, atI_nat hwx, ?_⟩
      refine ⟨p, _, _, _, rfl, rfl, e2, by rw [sizeLine_eq, eL]; omega, by omega, by omega, ?_⟩
      refine ⟨_, rfl, rfl, _, rfl, itF (by decide) ?_⟩
      have es : (ws.map V.str).take (k : Int).toNat ++ [V.str wd] ++ (ws.map V.str).drop (k : Int).toNat = (ws.take k ++ [wd] ++ ws.drop k).map V.str := by
        rw [List.map_append, List.map_append, List.map_take, List.map_drop]
        rfl
      rw [es]
      exact fin _ _ (put _ _ t2) upd_same (by rw [wl_insert]; omega)
    · refine ⟨_, rfl, _, _, rfl, rfl, _, rfl, itF (by decide) ⟨_, rfl, rfl, _, rfl, itF (by decide) ⟨_, rfl, rfl, _, rfl, itF (by decide) ⟨_, rfl, rfl, _, rfl, itF (by decide) ⟨_, rfl, rfl, _, rfl, itF (by decide) ⟨_, rfl, rfl, _, rfl, itT (by decide) ?_⟩⟩⟩⟩⟩⟩
      refine ⟨_, rfl, .inl ⟨rfl, _, SqL.of e2⟩, _, rfl, a, 2, rfl, by decide, by decide, d2.2, fun d H3 h0 h1 d3 => ?_⟩
      have e3 := d3.keep np e2
      refine ⟨_, rfl, p, _, rfl, .inl (SqL.of e3), _, _, rfl, rfl, .inl ⟨by omega, by omega⟩, ?_⟩
      have e0 : (PySem.Str.ofString "").length = 0 := by decide +kernel
      obtain ⟨j, hj⟩ : ∃ j : Nat, d * ((ws.map V.str).length : Int) = j := by
        refine ⟨(d * ((ws.map V.str).length : Int)).toNat, ?_⟩
        have : 0 ≤ d * ((ws.map V.str).length : Int) := Int.mul_nonneg h0 (by omega)
        omega
      have hj2 : (j : Int) ≤ ((ws.map V.str).length : Int) := by
        rw [← hj]
        have : d = 0 ∨ d = 1 := by omega
        rcases this with rfl | rfl <;> omega
      rw [eL] at hj2
      refine ⟨p, _, j, _, rfl, by show [V.int (d * ((ws.map V.str).length : Int)), V.str _] = _; rw [hj], e3, by rw [sizeLine_eq, eL]; omega, by omega, by omega, ?_⟩
      have es : (ws.map V.str).take (j : Int).toNat ++ [V.str (PySem.Str.ofString "")] ++ (ws.map V.str).drop (j : Int).toNat = (ws.take j ++ [PySem.Str.ofString ""] ++ ws.drop j).map V.str := by
        rw [List.map_append, List.map_append, List.map_take, List.map_drop]
        rfl
      rw [es]
      exact fin _ _ (put _ _ (t2.trans d3)) upd_same (by rw [wl_insert, e0]; omega)
end Aw
set_option maxHeartbeats 4000000
/-! Spoilt lines. -/
namespace Aw
open PySem PySem.Spec PyProof.Rows L2
variable {P : Program} {w : World} {K : PySem.W.Frag} {mg : Str → Option Value} {base : Heap}
/-- each is a line: no text longer than B -/
def AllLn (H : Hp) (B : Nat) (xs : List V) : Prop := ∀ v ∈ xs, ∃ ln, LnV Any H ln v ∧ ∀ s, ln = some s → s.length ≤ B
def LnsAt (H : Hp) (l : Addr) (N B : Nat) : Prop := ∃ xs, H l = some (.lst xs) ∧ xs.length ≤ N ∧ AllLn H B xs
theorem AllLn.same {H H' : Hp} {B : Nat} {xs : List V} (h : AllLn H B xs) (e : Same H H') : AllLn H' B xs := fun v hv => by
  obtain ⟨ln, h1, h2⟩ := h v hv
  exact ⟨ln, h1.keep (Keep.of e), h2⟩
theorem AllLn.mono {H : Hp} {B C : Nat} {xs : List V} (h : AllLn H B xs) (e : B ≤ C) : AllLn H C xs := fun v hv => by
  obtain ⟨ln, h1, h2⟩ := h v hv
  exact ⟨ln, h1, fun s q => Nat.le_trans (h2 s q) e⟩
theorem AllLn.app {H : Hp} {B : Nat} {xs ys : List V} (h : AllLn H B xs) (k : AllLn H B ys) : AllLn H B (xs ++ ys) := fun v hv => by
  rcases List.mem_append.mp hv with hv | hv
  · exact h v hv
  · exact k v hv
theorem AllLn.cut {H : Hp} {B : Nat} {xs : List V} {lo hi : Option Int} (h : AllLn H B xs) : AllLn H B (cutV xs lo hi) := fun v hv => h v (List.mem_of_mem_drop (List.mem_of_mem_take hv))
theorem AllLn.one {H : Hp} {B : Nat} {v : V} (h : ∃ ln, LnV Any H ln v ∧ ∀ s, ln = some s → s.length ≤ B) : AllLn H B [v] := fun x hx => by
  rw [List.mem_singleton.mp hx]
  exact h
theorem cut_len1 {xs : List V} {i : Int} (h : 0 ≤ i) : (cutV xs none (some i)).length ≤ i.toNat := by
  obtain ⟨k, rfl⟩ : ∃ k : Nat, i = k := ⟨i.toNat, by omega⟩
  unfold cutV
  rw [HT.sIx_nat, HT.sIx_none, List.length_take]
  omega
theorem cut_len2 {xs : List V} {i : Int} (h : 0 ≤ i) : (cutV xs (some i) none).length ≤ xs.length - i.toNat := by
  obtain ⟨k, rfl⟩ : ∃ k : Nat, i = k := ⟨i.toNat, by omega⟩
  unfold cutV
  rw [HT.sIx_nat, HT.sIx_none, List.length_take]
  omega
/-- the lines, as data -/
theorem LnsAt.lines {H : Hp} {l : Addr} {N B : Nat} (h : LnsAt H l N B) : ∃ lns : List Ln, Lines Any H l lns ∧ lns.length ≤ N ∧ ∀ s, some s ∈ lns → s.length ≤ B := by
  obtain ⟨xs, hl, hn, hx⟩ := h
  have go : ∀ xs : List V, AllLn H B xs → ∃ lns : List Ln, Paired (LnV Any H) lns xs ∧ ∀ s, some s ∈ lns → s.length ≤ B := by
    intro xs
    induction xs with
    | nil => exact fun _ => ⟨[], .nil, fun s hs => by cases hs⟩
    | cons v r ih =>
      intro hx
      obtain ⟨ln, h1, h2⟩ := hx v List.mem_cons_self
      obtain ⟨lns, h3, h4⟩ := ih fun x h => hx x (List.mem_cons_of_mem _ h)
      refine ⟨ln :: lns, .cons h1 h3, fun s hs => ?_⟩
      rcases List.mem_cons.mp hs with e | hs
      · exact h2 s e.symm
      · exact h4 s hs
  obtain ⟨lns, h1, h2⟩ := go xs hx
  exact ⟨lns, ⟨xs, hl, h1⟩, by rw [h1.length]; exact hn, h2⟩
/-- a new list of lines -/
theorem LnsAt.new {a p : Addr} {H : Hp} {N B : Nat} {ys : List V} (s : Src H a) (hp : H p = none) (hn : ys.length ≤ N) (h : AllLn (hid a H) B ys) : LnsAt (hid a (upd H p (.lst ys))) p N B :=
  ⟨ys, by rw [hid_ne (s.ne hp)]; exact upd_same, hn, h.same (hid_same (same_new hp))⟩
def spSpoilt : Sp := fun vs H Q _ => ∃ (a l : Addr) (N B : Nat), vs = [.ref a, .ref l] ∧ N ≤ 50 ∧ B ≤ 1000 ∧ Src H a ∧ LnsAt (hid a H) l N B ∧ ∀ l' H', Drawn a H H' → LnsAt (hid a H') l' (N + 1) (2 * B + 64) → Q (.ref l') H'
theorem ln_isi {Z : Addr → Prop} {H : Hp} {ln : Ln} {v : V} (K : PySem.W.Frag) (h : LnV Z H ln v) : ∃ t, TyX K H v t ∧ PySem.W.kitOne K t (.type "str") = some ln.isSome := ln_ty h
theorem sc_l_spoilt : FnScope ["_law_source_here", "_law_lines_here", "_law_at", "_law_way", "_law_odd"] ["_law_source_here", "_law_lines_here"] (defScope s_l_spoilt) := ⟨rfl, rfl, rfl, by decide +kernel, rfl, by decide +kernel, by decide +kernel⟩
theorem ok_l_spoilt (T : Txt K mg) : DefOk P w K mg base (L2.CX P w) 4 "_law_spoilt" ["_law_source_here", "_law_lines_here"] spSpoilt := by
  refine def_mk T.fn_l_spoilt T.g_l_spoilt sc_l_spoilt (fun _ _ _ _ _ _ us hl => match us, hl with | [_, _], _ => rfl) (fun vs H Q E h => ?_) fun cdv A outer s H vs Q E hr h => ⟨_, (pss_cons (ps_if (pt_cmpR op_eq (pe_callB call_len_seq rfl T.f_len boot_len (pa_cons (pv 1) pa_nil)) pe_int (nomark _))
      (pss_one (ps_ret (pe_lst (pa_cons pe_str pa_nil))))
      pss_nil)
    (pss_cons (ps_set (i := 2) sc_l_spoilt.nd rfl (Or.inl rfl) (pe_dn (ok_l_draw T) (hr.mono (by decide)) (pa_cons (pv 0) (pa_cons (pe_callB call_len_seq rfl T.f_len boot_len (pa_cons (pv 1) pa_nil)) pa_nil))))
    (pss_cons (ps_set (i := 3) sc_l_spoilt.nd rfl (Or.inl rfl) (pe_dn (ok_l_draw T) (hr.mono (by decide)) (pa_cons (pv 0) (pa_cons pe_int pa_nil))))
    (pss_cons (ps_if (PW.pt (pw_and (pt_cmpR op_lt (pv 3) pe_int (nomark _)) (pw_and1 (pt_val (pe_callB call_isi rfl T.f_isinstance boot_isinstance (pa_cons (pe_ix ix_list (pv 1) (pv 2) (fun _ _ => rfl)) (pa_cons (t_str T) pa_nil)))))))
      (pss_one (ps_ret (pe_op op_cat (pe_op op_cat (pe_slice sl_list (pv 1) po_none (po_some (pv 2))) (pe_lst (pa_cons (pe_dn (ok_l_spoilt_line T) (hr.mono (by decide)) (pa_cons (pv 0) (pa_cons (pe_ix ix_list (pv 1) (pv 2) (fun _ _ => rfl)) pa_nil))) pa_nil))) (pe_slice sl_list (pv 1) (po_some (pe_op op_add (pv 2) pe_int)) po_none))))
      pss_nil)
    (pss_cons (ps_if (pt_cmpR op_eq (pv 3) pe_int (nomark _))
      (pss_one (ps_ret (pe_op op_cat (pe_slice sl_list (pv 1) po_none (po_some (pv 2))) (pe_slice sl_list (pv 1) (po_some (pe_op op_add (pv 2) pe_int)) po_none))))
      pss_nil)
    (pss_cons (ps_if (pt_cmpR op_eq (pv 3) pe_int (nomark _))
      (pss_one (ps_ret (pe_op op_cat (pe_op op_cat (pe_slice sl_list (pv 1) po_none (po_some (pv 2))) (pe_lst (pa_cons (pe_ix ix_list (pv 1) (pv 2) (fun _ _ => rfl)) pa_nil))) (pe_slice sl_list (pv 1) (po_some (pv 2)) po_none))))
      pss_nil)
    (pss_cons (ps_if (pt_cmpR op_eq (pv 3) pe_int (nomark _))
      (pss_one (ps_ret (pe_slice sl_list (pv 1) po_none (po_some (pv 2)))))
      pss_nil)
    (pss_cons (ps_set (i := 4) sc_l_spoilt.nd rfl (Or.inl rfl) (pe_ix ix_list (pe_lst (pa_cons pe_non (pa_cons pe_int (pa_cons (pe_lst (pa_cons pe_str pa_nil)) (pa_cons pe_bl (pa_cons pe_str (pa_cons (pe_tup (pa_cons pe_str (pa_cons pe_int pa_nil))) pa_nil))))))) (pe_dn (ok_l_draw T) (hr.mono (by decide)) (pa_cons (pv 0) (pa_cons pe_int pa_nil))) (fun _ _ => rfl)))
    (pss_one (ps_ret (pe_op op_cat (pe_op op_cat (pe_slice sl_list (pv 1) po_none (po_some (pv 2))) (pe_lst (pa_cons (pv 4) pa_nil))) (pe_slice sl_list (pv 1) (po_some (pe_op op_add (pv 2) (pe_dn (ok_l_draw T) (hr.mono (by decide)) (pa_cons (pv 0) (pa_cons pe_int pa_nil))))) po_none)))))))))))), ?_⟩
  · obtain ⟨a, l, N, B, rfl, _⟩ := h
    rfl
  · obtain ⟨a, l, N, B, rfl, hN, hB, hs, ⟨xs, hlh, hxn, hx⟩, q⟩ := h
    have nl := (hid_some hlh).1
    have hl := (hid_some hlh).2
    refine ⟨_, rfl, l, _, rfl, .inl (SqL.of hl), rfl, _, rfl, it2 (fun h1 => ?_) (fun h1 => ?_)⟩
    · refine ⟨by show 1 ≤ sizeLine; decide, fun p hp => q p _ (hs.drawn (same_new hp)) (LnsAt.new hs hp (by show 1 ≤ _; omega) (AllLn.one ⟨some (PySem.Str.ofString "store ab"), rfl, fun s e => ?_⟩))⟩
      cases e
      exact Nat.le_trans (by decide +kernel : (PySem.Str.ofString "store ab").length ≤ 64) (by omega)
    have hpos : 0 < xs.length := by
      have : ¬ (xs.length : Int) = 0 := fun z => of_decide_eq_false h1 (congrArg V.int z)
      omega
    refine ⟨_, rfl, _, rfl, l, _, rfl, .inl (SqL.of hl), a, _, rfl, by omega, by omega, hs, fun at_ H1 a0 a1 d1 => ?_⟩
    refine ⟨_, rfl, a, 9, rfl, by decide, by decide, d1.2, fun way H2 w0 w1 d2 => ?_⟩
    have t2 := d1.trans d2
    have s2 := t2.2
    have hl2 := t2.keep nl hl
    have hx2 := hx.same t2.1
    have hxm := hx2.mono (show B ≤ 2 * B + 64 by omega)
    obtain ⟨v, hv, hat, _⟩ := atI_of (xs := xs) a0 a1
    -- lines[:at] + [y] + lines[at + d:]
    have three : ∀ (H' : Hp) (p1 p2 : Addr) (y : V) (d : Int) (dd : Nat), Drawn a H H' → True := fun _ _ _ _ _ _ _ => trivial
    dsimp only
    refine set_join (fun σ' H' => σ' = [some (.ref a), some (.ref l), some (.int at_), some (.int way), none] ∧ H' = H2) (fun N0 kN => ?_) ?_
    · refine ⟨_, rfl, _, _, rfl, rfl, _, rfl, it2 (fun h2 => ?_) (fun h2 => kN _ _ ⟨rfl, rfl⟩)⟩
      obtain ⟨ln, lv, lb⟩ := hx2 v hv
      obtain ⟨t, ty, kit⟩ := ln_ty (K := K) (lv.keep (Keep.of (hid_le a H2)))
      refine ⟨_, rfl, _, rfl, l, xs, _, v, rfl, rfl, SqL.of hl2, hat, v, _, t, _, ln.isSome, rfl, .ty "str", ty, kit, ?_⟩
      refine ⟨_, rfl, ?_⟩
      cases ln with
      | none => exact itF rfl (kN _ _ ⟨rfl, rfl⟩)
      | some z =>
        obtain rfl : v = .str z := lv
        have hz := lb z rfl
        refine itT rfl ?_
        refine ⟨_, rfl, _, rfl, at_, rfl, l, xs, rfl, SqL.of hl2, fun p1 hp1 => ?_⟩
        have g1 := same_new (o := .lst (cutV xs none (some at_))) hp1
        refine ⟨_, rfl, _, rfl, _, rfl, l, xs, _, _, rfl, rfl, SqL.of (g1 _ _ hl2), hat, a, z, rfl, by omega, s2.same g1, fun y H4 hy d4 => ?_⟩
        have t4 := (t2.more g1).trans d4
        refine ⟨by show 1 ≤ sizeLine; decide, fun p2 hp2 => ?_⟩
        have g5 := same_new (o := .lst [.str y]) hp2
        have n1 := s2.ne hp1
        refine ⟨p1, p2, _, _, rfl, rfl, g5 _ _ (d4.keep n1 upd_same), upd_same, ?_, fun p3 hp3 => ?_⟩
        · have := cut_len1 (xs := xs) a0
          rw [sizeLine_eq]
          show (cutV xs none (some at_)).length + 1 ≤ _
          omega
        have g6 := g5.trans (same_new (o := .lst (cutV xs none (some at_) ++ [.str y])) hp3)
        have t6 := t4.more g6
        refine ⟨_, rfl, _, rfl, _, _, rfl, rfl, _, rfl, l, xs, rfl, SqL.of (t6.keep nl hl), fun p4 hp4 => ?_⟩
        have g7 := same_new (o := .lst (cutV xs (some (at_ + 1)) none)) hp4
        have hb := cut_len1 (xs := xs) a0
        have hc := cut_len2 (xs := xs) (i := at_ + 1) (by omega)
        have hlen : ((cutV xs none (some at_) ++ [V.str y]) ++ cutV xs (some (at_ + 1)) none).length ≤ N + 1 := by
          rw [List.length_append, List.length_append]
          show _ + 1 + _ ≤ _
          omega
        refine ⟨p3, p4, _, _, rfl, rfl, g7 _ _ upd_same, upd_same, ?_, fun p5 hp5 => ?_⟩
        · rw [sizeLine_eq, ← List.length_append]
          omega
        have t7 := t6.more g7
        refine q p5 _ (t7.more (same_new hp5)) (LnsAt.new t7.2 hp5 hlen ?_)
        have hx7 := (hx.mono (show B ≤ 2 * B + 64 by omega)).same t7.1
        exact (hx7.cut.app (AllLn.one ⟨some y, rfl, fun s e => by cases e; omega⟩)).app hx7.cut
    · rintro σ' H' ⟨rfl, rfl⟩
      refine ⟨_, rfl, rfl, _, rfl, it2 (fun h2 => ?_) (fun h2 => ?_)⟩
      · -- one is left out
        refine ⟨_, rfl, _, rfl, at_, rfl, l, xs, rfl, SqL.of hl2, fun p1 hp1 => ?_⟩
        have g1 := same_new (o := .lst (cutV xs none (some at_))) hp1
        refine ⟨_, rfl, _, rfl, _, _, rfl, rfl, _, rfl, l, xs, rfl, SqL.of (g1 _ _ hl2), fun p4 hp4 => ?_⟩
        have g2 := same_new (o := .lst (cutV xs (some (at_ + 1)) none)) hp4
        have g7 := g1.trans g2
        have hb := cut_len1 (xs := xs) a0
        have hc := cut_len2 (xs := xs) (i := at_ + 1) (by omega)
        have hlen : (cutV xs none (some at_) ++ cutV xs (some (at_ + 1)) none).length ≤ N + 1 := by
          rw [List.length_append]
          omega
        refine ⟨p1, p4, _, _, rfl, rfl, g2 _ _ upd_same, upd_same, ?_, fun p5 hp5 => ?_⟩
        · rw [sizeLine_eq, ← List.length_append]
          omega
        have t7 := t2.more g7
        exact q p5 _ (t7.more (same_new hp5)) (LnsAt.new t7.2 hp5 hlen ((hxm.same (hid_same g7)).cut.app (hxm.same (hid_same g7)).cut))
      refine ⟨_, rfl, rfl, _, rfl, it2 (fun h3 => ?_) (fun h3 => ?_)⟩
      · -- one is doubled
        refine ⟨_, rfl, _, rfl, at_, rfl, l, xs, rfl, SqL.of hl2, fun p1 hp1 => ?_⟩
        have g1 := same_new (o := .lst (cutV xs none (some at_))) hp1
        refine ⟨_, rfl, _, rfl, l, xs, _, _, rfl, rfl, SqL.of (g1 _ _ hl2), hat, by show 1 ≤ sizeLine; decide, fun p2 hp2 => ?_⟩
        have g5 := same_new (o := .lst [v]) hp2
        refine ⟨p1, p2, _, _, rfl, rfl, g5 _ _ upd_same, upd_same, ?_, fun p3 hp3 => ?_⟩
        · have := cut_len1 (xs := xs) a0
          rw [sizeLine_eq]
          show (cutV xs none (some at_)).length + 1 ≤ _
          omega
        have g6 := (g1.trans g5).trans (same_new (o := .lst (cutV xs none (some at_) ++ [v])) hp3)
        have t6 := t2.more g6
        refine ⟨_, rfl, _, rfl, _, rfl, l, xs, rfl, SqL.of (g6 _ _ hl2), fun p4 hp4 => ?_⟩
        have g7 := same_new (o := .lst (cutV xs (some at_) none)) hp4
        have hb := cut_len1 (xs := xs) a0
        have hc := cut_len2 (xs := xs) (i := at_) (by omega)
        have hlen : ((cutV xs none (some at_) ++ [v]) ++ cutV xs (some at_) none).length ≤ N + 1 := by
          rw [List.length_append, List.length_append]
          show _ + 1 + _ ≤ _
          omega
        refine ⟨p3, p4, _, _, rfl, rfl, g7 _ _ upd_same, upd_same, ?_, fun p5 hp5 => ?_⟩
        · rw [sizeLine_eq, ← List.length_append]
          omega
        have t7 := t6.more g7
        have hx7 := hxm.same (hid_same (g6.trans g7))
        exact q p5 _ (t7.more (same_new hp5)) (LnsAt.new t7.2 hp5 hlen ((hx7.cut.app (AllLn.one (hx7 v hv))).app hx7.cut))
      refine ⟨_, rfl, rfl, _, rfl, it2 (fun h4 => ?_) (fun h4 => ?_)⟩
      · -- cut
        refine ⟨_, rfl, _, rfl, at_, rfl, l, xs, rfl, SqL.of hl2, fun p1 hp1 => ?_⟩
        have hb := cut_len1 (xs := xs) a0
        exact q p1 _ (t2.more (same_new hp1)) (LnsAt.new s2 hp1 (by omega) hxm.cut)
      -- no text
      refine ⟨by show 1 ≤ sizeLine; decide, fun p1 hp1 => ?_⟩
      have g1 := same_new (o := .lst [.str (PySem.Str.ofString "store ab")]) hp1
      refine ⟨by show 2 ≤ sizeLine; decide, fun p2 hp2 => ?_⟩
      have g2 := same_new (o := .tup [.str (PySem.Str.ofString "ends"), .int 0]) hp2
      refine ⟨by show 6 ≤ sizeLine; decide, fun p3 hp3 => ?_⟩
      have g3 := same_new (o := .lst [.non, .int 5, .ref p1, .bl true, .str (PySem.Str.ofString ""), .ref p2]) hp3
      have gg := (g1.trans g2).trans g3
      have hp30 := new_old (g1.trans g2) hp3
      refine ⟨_, rfl, a, 6, rfl, by decide, by decide, s2.same gg, fun d H4 e0 e1 d4 => ?_⟩
      have t4 := (t2.more gg).trans d4
      have hp34 := d4.keep (s2.ne hp30) (upd_same (o := .lst [.non, .int 5, .ref p1, .bl true, .str (PySem.Str.ofString ""), .ref p2]))
      have hp14 := d4.keep (s2.ne hp1) (g3 _ _ (g2 _ _ (upd_same (o := .lst [.str (PySem.Str.ofString "store ab")]))))
      have hp24 := d4.keep (s2.ne (new_old g1 hp2)) (g3 _ _ (upd_same (o := .tup [.str (PySem.Str.ofString "ends"), .int 0])))
      obtain ⟨od, hod, hatd, _⟩ := atI_of (xs := [V.non, .int 5, .ref p1, .bl true, .str (PySem.Str.ofString ""), .ref p2]) e0 e1
      have lno : ∃ ln, LnV Any (hid a H4) ln od ∧ ∀ s, ln = some s → s.length ≤ 2 * B + 64 := by
        simp only [List.mem_cons, List.not_mem_nil, or_false] at hod
        rcases hod with rfl | rfl | rfl | rfl | rfl | rfl
        · exact ⟨none, .inl rfl, fun s e => by cases e⟩
        · exact ⟨none, .inr (.inl rfl), fun s e => by cases e⟩
        · exact ⟨none, .inr (.inr (.inr ⟨p1, _, rfl, trivial, .inl (by rw [hid_ne (s2.ne hp1)]; exact hp14)⟩)), fun s e => by cases e⟩
        · exact ⟨none, .inr (.inr (.inl rfl)), fun s e => by cases e⟩
        · refine ⟨some (PySem.Str.ofString ""), rfl, fun s e => ?_⟩
          cases e
          exact Nat.le_trans (by decide +kernel : (PySem.Str.ofString "").length ≤ 0) (Nat.zero_le _)
        · exact ⟨none, .inr (.inr (.inr ⟨p2, _, rfl, trivial, .inr (by rw [hid_ne (s2.ne (new_old g1 hp2))]; exact hp24)⟩)), fun s e => by cases e⟩
      refine ⟨p3, _, d, od, rfl, rfl, SqL.of hp34, hatd, ?_⟩
      have hl4 := t4.keep nl hl
      refine ⟨_, rfl, _, rfl, at_, rfl, l, xs, rfl, SqL.of hl4, fun p4 hp4 => ?_⟩
      have g4 := same_new (o := .lst (cutV xs none (some at_))) hp4
      refine ⟨_, rfl, by show 1 ≤ sizeLine; decide, fun p5 hp5 => ?_⟩
      have g5 := same_new (o := .lst [od]) hp5
      refine ⟨p4, p5, _, _, rfl, rfl, g5 _ _ upd_same, upd_same, ?_, fun p6 hp6 => ?_⟩
      · have := cut_len1 (xs := xs) a0
        rw [sizeLine_eq]
        show (cutV xs none (some at_)).length + 1 ≤ _
        omega
      have g6 := (g4.trans g5).trans (same_new (o := .lst (cutV xs none (some at_) ++ [od])) hp6)
      have t6 := t4.more g6
      have n6 := t4.2.ne (new_old (g4.trans g5) hp6)
      refine ⟨_, rfl, _, rfl, _, rfl, a, 2, rfl, by decide, by decide, t6.2, fun d2 H7 f0 f1 d7 => ?_⟩
      have t7 := t6.trans d7
      refine ⟨_, _, rfl, rfl, _, rfl, l, xs, rfl, SqL.of (t7.keep nl hl), fun p7 hp7 => ?_⟩
      have g7 := same_new (o := .lst (cutV xs (some (at_ + d2)) none)) hp7
      have hb := cut_len1 (xs := xs) a0
      have hc := cut_len2 (xs := xs) (i := at_ + d2) (by omega)
      have hlen : ((cutV xs none (some at_) ++ [od]) ++ cutV xs (some (at_ + d2)) none).length ≤ N + 1 := by
        rw [List.length_append, List.length_append]
        show _ + 1 + _ ≤ _
        omega
      refine ⟨p6, p7, _, _, rfl, rfl, g7 _ _ (d7.keep n6 upd_same), upd_same, ?_, fun p8 hp8 => ?_⟩
      · rw [sizeLine_eq, ← List.length_append]
        omega
      have t8 := t7.more g7
      have hx8 := (hx.mono (show B ≤ 2 * B + 64 by omega)).same t8.1
      have lo8 := (AllLn.one lno).same (((hid_same g6).trans d7.1).trans (hid_same g7))
      exact q p8 _ (t8.more (same_new hp8)) (LnsAt.new t8.2 hp8 hlen ((hx8.cut.app lo8).app hx8.cut))
end Aw
set_option maxHeartbeats 4000000
/-! The law's readers of asks, of a price. -/
namespace Aw
open PySem PySem.Spec PyProof.Rows L2
variable {P : Program} {w : World} {K : PySem.W.Frag} {mg : Str → Option Value} {base : Heap}
theorem ab_eq : (PySem.Str.ofString "abcdefgh").cps.toList = [97, 98, 99, 100, 101, 102, 103, 104] := by decide +kernel
theorem place_no {c : Nat} (h : ¬ c ∈ (PySem.Str.ofString "abcdefgh").cps.toList) : place c = -1 := by
  have e := StrLaws.found_one (PySem.Str.ofString "abcdefgh") c
  rw [decide_eq_false h] at e
  unfold place PySem.Txt.find
  cases q : PySem.Builtin.Str.occurrences (PySem.Str.ofString "abcdefgh") ⟨#[c]⟩ 0 (PySem.Str.ofString "abcdefgh").length 1 with
  | nil => rfl
  | cons i r =>
    rw [q] at e
    cases e
theorem place_yes {c : Nat} (h : c ∈ (PySem.Str.ofString "abcdefgh").cps.toList) : place c = (c : Int) - 97 ∧ 97 ≤ c := by
  rw [ab_eq] at h
  simp only [List.mem_cons, List.not_mem_nil, or_false] at h
  rcases h with rfl | rfl | rfl | rfl | rfl | rfl | rfl | rfl <;> exact ⟨by decide +kernel, by decide⟩
def spGoodAsks : Sp := fun vs H Q _ => ∃ s : Str, vs = [.str s] ∧ s.length ≤ 100000 ∧ Q (.bl (isAsks s)) H
/-- the place of the ask before -/
def lastP (l : List Nat) : Nat → Int
  | 0 => -1
  | i + 1 => place (l.getD i 0)
theorem getD_at {l : List Nat} {i c : Nat} (h : l[i]? = some c) : l.getD i 0 = c := by
  rw [List.getD_eq_getElem?_getD, h]
  rfl
theorem lt_one (a b : Nat) : decide (([a] : List Nat) < [b]) = decide (a < b) := by
  by_cases h : a < b
  · rw [decide_eq_true h]
    exact decide_eq_true (List.cons_lt_cons_iff.mpr (.inl h))
  · rw [decide_eq_false h]
    refine decide_eq_false fun q => ?_
    rcases List.cons_lt_cons_iff.mp q with q | ⟨_, q⟩
    · exact h q
    · exact absurd q (List.lt_irrefl _)
theorem sc_l_good_asks : FnScope ["_law_word_here", "_law_k"] ["_law_word_here"] (defScope s_l_good_asks) := ⟨rfl, rfl, rfl, by decide +kernel, rfl, by decide +kernel, by decide +kernel⟩
theorem ok_l_good_asks (T : Txt K mg) : DefOk P w K mg base (L2.CX P w) 1 "_law_good_asks" ["_law_word_here"] spGoodAsks := by
  refine def_mk T.fn_l_good_asks T.g_l_good_asks sc_l_good_asks (fun _ _ _ _ _ _ us hl => match us, hl with | [_], _ => rfl) (fun vs H Q E h => ?_) fun cdv A outer s H vs Q E hr h => ⟨_, (pss_cons (ps_if (pt_not (pt_chain op_le op_le pe_int (pe_callB call_len_str rfl T.f_len boot_len (pa_cons (pv 0) pa_nil)) pe_int))
      (pss_one (ps_ret pe_bl))
      pss_nil)
    (pss_cons (ps_for (passes_of rfl) rfl (pi_range1 rfl T.f_range (pa_cons (pe_callB call_len_str rfl T.f_len boot_len (pa_cons (pv 0) pa_nil)) pa_nil)) (pg_name (i := 1) sc_l_good_asks.nd rfl (.inl rfl))
      (pss_one (ps_if (PW.pt (pw_or (pt_cmpR op_notIn_sign (pe_ix ix_str (pv 0) (pv 1) (fun _ _ => rfl)) pe_str rfl) (pw_or1 (PW.pt (pw_and (pt_cmpR op_gt (pv 1) pe_int (nomark _)) (pw_and1 (pt_cmpR op_le_str (pe_ix ix_str (pv 0) (pv 1) (fun _ _ => rfl)) (pe_ix ix_str (pv 0) (pe_op op_sub (pv 1) pe_int) (fun _ _ => rfl)) (nomark _))))))))
        (pss_one (ps_ret pe_bl))
        pss_nil)))
    (pss_one (ps_ret pe_bl)))), ?_⟩
  · obtain ⟨z, rfl, _⟩ := h
    rfl
  · obtain ⟨z, rfl, hz, k⟩ := h
    have hz2 : z.length ≤ sizeLine := Nat.le_trans hz (by decide)
    have hzl : z.cps.toList.length = z.length := by simp [Str.length]
    refine ⟨_, rfl, z, rfl, hz2, _, _, rfl, rfl, _, rfl, it2 (fun h1 => ?_) (fun h1 => ?_)⟩
    · refine ⟨_, _, rfl, rfl, _, rfl, it2 (fun h2 => ?_) (fun h2 => ?_)⟩
      · have e : isAsks z = false := by
          unfold isAsks
          have : ¬ z.length ≤ 4 := by simp at h2; omega
          simp [this]
        rw [e] at k
        exact k
      · have hall : isAsks z = ascF (-1) z.cps.toList := by
          unfold isAsks
          have h3 : 1 ≤ z.length := by simp at h1; omega
          have h4 : z.length ≤ 4 := by simp at h2; omega
          simp [h3, h4]
        rw [hall] at k
        refine ⟨_, rfl, z, rfl, hz2, (z.length : Int), rfl, by omega, by omega, ?_⟩
        refine for_range (lo := 0) (n := z.length) (fun i σ H' => H' = H ∧ (∃ v1, σ = [some (.str z), v1]) ∧ (i = 0 ∨ z.cps.toList.getD (i - 1) 0 ∈ (PySem.Str.ofString "abcdefgh").cps.toList) ∧ ascF (-1) z.cps.toList = ascF (lastP z.cps.toList i) (z.cps.toList.drop i)) ⟨rfl, ⟨none, rfl⟩, .inl rfl, rfl⟩ ?_ ?_
        · rintro i σ H1 hi ⟨rfl, ⟨v1, rfl⟩, hb, e⟩
          obtain ⟨c, hc⟩ : ∃ c, z.cps.toList[i]? = some c := ⟨z.cps.toList[i]'(by omega), by simp⟩
          have hat : atI z.cps.toList (0 + (i : Int)) = some c := by
            rw [Int.zero_add]
            exact atI_nat hc
          rw [drop_at hc, ascF_cons] at e
          refine ⟨_, rfl, _, rfl, z, _, c, rfl, rfl, hz2, hat, c, _, rfl, rfl, _, rfl, it2 (fun h3 => ?_) (fun h3 => ?_)⟩
          · have h4 : ¬ c ∈ (PySem.Str.ofString "abcdefgh").cps.toList := by simpa using h3
            have h5 : place c ≤ lastP z.cps.toList i := by
              rw [place_no h4]
              cases i with
              | zero => exact Int.le_refl _
              | succ j =>
                rcases hb with hb | hb
                · cases hb
                · show -1 ≤ place (z.cps.toList.getD j 0)
                  have := place_yes hb
                  have e0 : j + 1 - 1 = j := by omega
                  rw [e0] at this
                  omega
            rw [if_pos h5] at e
            rw [e] at k
            exact k
          · have h4 : c ∈ (PySem.Str.ofString "abcdefgh").cps.toList := by simpa using h3
            obtain ⟨p1, p2⟩ := place_yes h4
            have next : ¬ place c ≤ lastP z.cps.toList i → ascF (-1) z.cps.toList = ascF (lastP z.cps.toList (i + 1)) (z.cps.toList.drop (i + 1)) := fun n => by
              rw [if_neg n] at e
              rw [e]
              show _ = ascF (place (z.cps.toList.getD i 0)) _
              rw [getD_at hc]
            have hbn : i + 1 = 0 ∨ z.cps.toList.getD (i + 1 - 1) 0 ∈ (PySem.Str.ofString "abcdefgh").cps.toList := .inr (by
              have e0 : i + 1 - 1 = i := by omega
              rw [e0, getD_at hc]
              exact h4)
            refine ⟨_, rfl, _, _, rfl, rfl, _, rfl, it2 (fun h5 => ?_) (fun h5 => ?_)⟩
            · have hi0 : 0 < i := by
                have := of_decide_eq_true h5
                omega
              obtain ⟨pc, hpm, hpat, hpc⟩ := atI_of (xs := z.cps.toList) (d := 0 + (i : Int) - 1) (by omega) (by omega)
              have e1 : (0 + (i : Int) - 1).toNat = i - 1 := by omega
              rw [e1] at hpc
              refine ⟨_, rfl, _, rfl, z, _, c, rfl, rfl, hz2, hat, _, rfl, _, rfl, _, _, rfl, rfl, z, _, pc, rfl, rfl, hz2, hpat, _, _, rfl, rfl, ?_⟩
              have hb2 : pc ∈ (PySem.Str.ofString "abcdefgh").cps.toList := by
                rcases hb with hb | hb
                · omega
                · rwa [getD_at hpc] at hb
              obtain ⟨q1, q2⟩ := place_yes hb2
              have el : lastP z.cps.toList i = place pc := by
                obtain ⟨j, rfl⟩ : ∃ j, i = j + 1 := ⟨i - 1, by omega⟩
                have e0 : j + 1 - 1 = j := by omega
                rw [e0] at hpc
                show place (z.cps.toList.getD j 0) = _
                rw [getD_at hpc]
              refine ⟨_, rfl, ?_⟩
              show if (!decide (([pc] : List Nat) < [c])) = true then _ else _
              rw [lt_one]
              refine it2 (fun h6 => ?_) (fun h6 => ?_)
              · have h7 : ¬ pc < c := by simpa using h6
                rw [el, if_pos (by omega)] at e
                rw [e] at k
                exact k
              · have h7 : pc < c := by simpa using h6
                exact ⟨rfl, ⟨_, rfl⟩, hbn, next (by rw [el]; omega)⟩
            · have hi0 : i = 0 := by
                have := of_decide_eq_false h5
                omega
              subst hi0
              exact ⟨rfl, ⟨_, rfl⟩, hbn, next (by show ¬ place c ≤ -1; omega)⟩
        · rintro σ H1 ⟨rfl, ⟨v1, rfl⟩, hb, e⟩
          rw [List.drop_of_length_le (by omega)] at e
          rw [e] at k
          exact k
    · have e : isAsks z = false := by
        unfold isAsks
        have : ¬ 1 ≤ z.length := by simp at h1; omega
        simp [this]
      rw [e] at k
      exact ⟨_, rfl, k⟩
/-! ### _law_good_price -/
def spGoodPrice : Sp := fun vs H Q _ => ∃ s : Str, vs = [.str s] ∧ s.length ≤ 100000 ∧ Q (.bl (isPrice s)) H
theorem len0 {z : Str} : z = Str.empty ↔ z.length = 0 := by
  rw [empty_of]
  have hzl : z.cps.toList.length = z.length := by simp [Str.length]
  constructor
  · intro h
    rw [← hzl, h]
    rfl
  · intro h
    exact List.eq_nil_of_length_eq_zero (by omega)
theorem zero_str : PySem.Str.ofString "0" = ⟨#[48]⟩ := by decide +kernel
theorem sc_l_good_price : FnScope ["_law_word_here", "_law_figures", "_law_sign"] ["_law_word_here"] (defScope s_l_good_price) := ⟨rfl, rfl, rfl, by decide +kernel, rfl, by decide +kernel, by decide +kernel⟩
theorem ok_l_good_price (T : Txt K mg) : DefOk P w K mg base (L2.CX P w) 1 "_law_good_price" ["_law_word_here"] spGoodPrice := by
  refine def_mk T.fn_l_good_price T.g_l_good_price sc_l_good_price (fun _ _ _ _ _ _ us hl => match us, hl with | [_], _ => rfl) (fun vs H Q E h => ?_) fun cdv A outer s H vs Q E hr h => ⟨_, (pss_cons (ps_set (i := 1) sc_l_good_price.nd rfl (Or.inl rfl) (pv 0))
    (pss_cons (ps_if (pt_cmpR op_eq (pe_slice sl_str (pv 0) po_none (po_some pe_int)) pe_str (nomark _))
      (pss_cons (ps_set (i := 1) sc_l_good_price.nd rfl (Or.inl rfl) (pe_slice sl_str (pv 0) (po_some pe_int) po_none))
      (pss_one (ps_if (pt_cmpR op_eq (pv 1) pe_str (nomark _))
        (pss_one (ps_ret pe_bl))
        pss_nil)))
      pss_nil)
    (pss_cons (ps_if (pt_not (pt_chain op_le op_le pe_int (pe_callB call_len_str rfl T.f_len boot_len (pa_cons (pv 1) pa_nil)) pe_int))
      (pss_one (ps_ret pe_bl))
      pss_nil)
    (pss_cons (ps_for (passes_of rfl) rfl (pi_str (pv 1)) (pg_name (i := 2) sc_l_good_price.nd rfl (.inl rfl))
      (pss_one (ps_if (pt_cmpR op_notIn_sign (pv 2) pe_str rfl)
        (pss_one (ps_ret pe_bl))
        pss_nil)))
    (pss_one (ps_ret (pe_or (pe_cmpR op_eq (pv 1) pe_str (nomark _)) (pe_one (pe_cmpR op_ne (pe_ix ix_str (pv 1) pe_int (fun _ _ => rfl)) pe_str (nomark _)))))))))), ?_⟩
  · obtain ⟨z, rfl, _⟩ := h
    rfl
  · obtain ⟨z, rfl, hz, k⟩ := h
    have hz2 : z.length ≤ sizeLine := Nat.le_trans hz (by decide)
    refine ⟨_, rfl, ?_⟩
    dsimp only
    refine set_join (fun σ' H' => σ' = [some (.str z), some (.str (figP z)), none] ∧ H' = H ∧ (figP z).length ≤ z.length ∧ (figP z = PySem.Str.ofString "0" ↔ z = PySem.Str.ofString "0")) (fun N kN => ?_) ?_
    · refine ⟨_, rfl, _, rfl, z, rfl, hz2, rfl, _, rfl, it2 (fun h1 => ?_) (fun h1 => ?_)⟩
      · have hm := of_decide_eq_true h1
        have ef : figP z = cutS z (some 1) none := if_pos hm
        have hne : z ≠ PySem.Str.ofString "0" := fun e => by
          have := (cut1_minus z).mp hm
          rw [e, zero_str] at this
          cases this
        have hll : (figP z).length ≤ z.length := by rw [ef]; exact cutS_length _ _ _
        refine ⟨_, rfl, _, rfl, z, rfl, hz2, ?_⟩
        rw [← ef]
        refine ⟨_, rfl, rfl, _, rfl, it2 (fun h2 => ?_) (fun h2 => ?_)⟩
        · have h3 : figP z = PySem.Str.ofString "0" := V.str.inj (of_decide_eq_true h2)
          have e : isPrice z = false := by
            have hl : (figP z).length = 1 := by rw [h3]; decide +kernel
            have n1 : ¬ (figP z = Str.empty ∨ 60 < (figP z).length) := fun h => by
              rcases h with h | h
              · rw [len0] at h
                omega
              · omega
            have h48 : (figP z).cps.toList.head? = some 48 := by rw [h3, zero_str]; rfl
            unfold isPrice
            rw [if_neg n1, if_pos h48]
            split
            · exact decide_eq_false hne
            · rfl
          rw [e] at k
          exact k
        · have h3 : ¬ figP z = PySem.Str.ofString "0" := fun e => of_decide_eq_false h2 (congrArg V.str e)
          exact kN _ _ ⟨rfl, rfl, hll, ⟨fun e => absurd e h3, fun e => absurd e hne⟩⟩
      · have ef : figP z = z := if_neg (of_decide_eq_false h1)
        have eσ : (List.set (L2.start ["_law_word_here", "_law_figures", "_law_sign"] [V.str z]) 1 (some (V.str z)) : L2.St) = [some (.str z), some (.str (figP z)), none] := by rw [ef]; rfl
        exact kN _ _ ⟨eσ, rfl, by rw [ef]; exact Nat.le_refl _, by rw [ef]⟩
    · rintro σ' H' ⟨rfl, rfl, hll, hiff⟩
      have hl2 : (figP z).length ≤ sizeLine := Nat.le_trans hll hz2
      refine ⟨_, rfl, _, rfl, hl2, _, _, rfl, rfl, _, rfl, it2 (fun h1 => ?_) (fun h1 => ?_)⟩
      · have p1 : 1 ≤ (figP z).length := by have := of_decide_eq_true h1; omega
        refine ⟨_, _, rfl, rfl, _, rfl, it2 (fun h2 => ?_) (fun h2 => ?_)⟩
        · have e : isPrice z = false := if_pos (.inr (by simp at h2; omega))
          rw [e] at k
          exact k
        · have p2 : (figP z).length ≤ 60 := by simp at h2; omega
          have n1 : ¬ (figP z = Str.empty ∨ 60 < (figP z).length) := fun h => by
            rcases h with h | h
            · rw [len0] at h
              omega
            · omega
          have e : isPrice z = if (figP z).cps.toList.all dig then (if (figP z).cps.toList.head? = some 48 then decide (z = PySem.Str.ofString "0") else true) else false := if_neg n1
          refine ⟨_, rfl, _, rfl, for_it walk_str (fun i σ H1 => H1 = H' ∧ (∃ v, σ = [some (.str z), some (.str (figP z)), v]) ∧ ((figP z).cps.toList.take i).all dig = true) ⟨rfl, ⟨none, rfl⟩, rfl⟩ (fun _ _ _ _ _ => trivial) ?_ ?_⟩
          · rintro i x σ H1 H2 hi ⟨rfl, ⟨v, rfl⟩, ha⟩ ⟨rfl, c, hc, rfl⟩
            have hc2 : (figP z).cps.toList[i]? = some c := by rw [Array.getElem?_toList]; exact hc
            refine ⟨_, rfl, c, _, rfl, rfl, _, rfl, it2 (fun h5 => ?_) (fun h5 => ?_)⟩
            · have h6 : dig c = false := by simpa [dig] using h5
              have h7 : (figP z).cps.toList.all dig = false := by
                rw [List.all_eq_false]
                exact ⟨c, List.mem_of_getElem? hc2, by rw [h6]; decide⟩
              rw [e, h7] at k
              exact k
            · have h6 : dig c = true := by simpa [dig] using h5
              refine ⟨rfl, ⟨_, rfl⟩, ?_⟩
              rw [take_succ_at hc2, List.all_append, ha]
              simp [h6]
          · rintro σ H1 ⟨rfl, ⟨v, rfl⟩, ha⟩
            rw [List.take_of_length_le (by simp)] at ha
            rw [ha, if_pos rfl] at e
            obtain ⟨c, r, ec⟩ : ∃ c r, (figP z).cps.toList = c :: r := by
              cases q : (figP z).cps.toList with
              | nil => exact absurd (.inl (empty_of.mpr q)) n1
              | cons c r => exact ⟨c, r, rfl⟩
            refine ⟨_, rfl, rfl, _, rfl, it2 (fun h3 => ?_) (fun h3 => ?_)⟩
            · have h4 : figP z = PySem.Str.ofString "0" := V.str.inj (of_decide_eq_true h3)
              have h5 : isPrice z = true := by
                rw [e]
                split
                · exact decide_eq_true (hiff.mp h4)
                · rfl
              rw [h5] at k
              exact k
            · have h4 : ¬ z = PySem.Str.ofString "0" := fun q => of_decide_eq_false h3 (congrArg V.str (hiff.mpr q))
              refine ⟨_, rfl, _, _, c, rfl, rfl, hl2, by rw [ec]; exact atI_nat (j := 0) rfl, rfl, ?_⟩
              have es := sign_eq c 48 (PySem.Str.ofString "0") (by decide +kernel)
              rw [ec] at e
              show Q (.bl (!decide (V.str ⟨#[c]⟩ = V.str (PySem.Str.ofString "0")))) _
              rw [es]
              have h5 : isPrice z = !decide (c = 48) := by
                rw [e]
                by_cases q : c = 48
                · subst q
                  rw [if_pos (show (48 :: r).head? = some 48 from rfl), decide_eq_false h4]
                  rfl
                · rw [if_neg (by simpa using q), decide_eq_false q]
                  rfl
              rw [h5] at k
              exact k
      · have e : isPrice z = false := if_pos (.inl (len0.mpr (by have := of_decide_eq_false h1; omega)))
        rw [e] at k
        exact ⟨_, rfl, k⟩
end Aw
set_option maxHeartbeats 4000000
/-! The law's reader of a line. -/
namespace Aw
open PySem PySem.Spec PyProof.Rows L2
variable {P : Program} {w : World} {K : PySem.W.Frag} {mg : Str → Option Value} {base : Heap}
/-- (a and b) or c -/
theorem ao {b b2 : Bool} {A C D : Prop} (hD : (if b2 = true then A else C) → D) (x : b = true → b2 = true → A) (y : ¬ (b = true ∧ b2 = true) → C) : if b = true then D else C := by
  cases b with
  | false => exact itF rfl (y (fun h => by cases h.1))
  | true =>
    refine itT rfl (hD ?_)
    cases b2 with
    | false => exact itF rfl (y (fun h => by cases h.2))
    | true => exact itT rfl (x rfl rfl)
/-- the wish of a new (i, j) -/
def RetTup (Q : VK) (H : Hp) (i j : Nat) : Prop := ∀ p H', H p = none → Same H H' → H' p = some (.tup [.int i, .int j]) → Q (.ref p) H'
theorem RetTup.same {Q : VK} {H H' : Hp} {i j : Nat} (h : RetTup Q H i j) (s : Same H H') : RetTup Q H' i j := fun d H2 hd s2 e => h d H2 (s.free hd) (s.trans s2) e
theorem RetTup.here {Q : VK} {H : Hp} {i j : Nat} (h : RetTup Q H i j) : ∀ p, H p = none → Q (.ref p) (upd H p (.tup [.int i, .int j])) := fun p hp => h p _ hp (same_new hp) upd_same
/-- no more than 100 lines, of less than 999 signs -/
def Less (lns : List Ln) : Prop := lns.length ≤ 100 ∧ ∀ s, some s ∈ lns → s.length ≤ 998
theorem Less.small {lns : List Ln} (h : Less lns) : Small lns := ⟨h.1, fun s hs => Nat.le_trans (h.2 s hs) (by decide)⟩
theorem words_less {lns : List Ln} {at_ : Nat} {ws : List Str} (hs : Less lns) (h : wordsOf lns at_ = some ws) : wl ws ≤ 999 ∧ 1 ≤ ws.length := by
  unfold wordsOf at h
  split at h
  · rename_i z hz
    cases h
    rw [split_wl]
    have := hs.2 z (List.mem_of_getElem? hz)
    exact ⟨by omega, split_pos z⟩
  · cases h
def Lim (many cap mn : Nat) : Prop := (many = 0 ∧ cap = 1000 ∧ mn = 1) ∨ (1 ≤ many ∧ many ≤ 1000 ∧ cap = many ∧ mn = many)
def spLineOf (K : PySem.W.Frag) : Sp := fun vs H Q _ => ∃ (l hd : Addr) (at_ : Nat) (lns : List Ln) (heads : List Str) (many cap mn : Nat), vs = [.ref l, .int at_, .ref hd, .int many] ∧ at_ ≤ 1000000 ∧ Lines Any H l lns ∧ Less lns ∧ H hd = some (.lst (heads.map V.str)) ∧ heads.length ≤ 10 ∧ Lim many cap mn ∧
  (∀ i j, lineR lns at_ heads cap mn = .error (i, j) → RetTup Q H i j) ∧ ∀ ns, lineR lns at_ heads cap mn = .ok ns → RetNew Q H (ns.map V.int)
theorem sc_l_line_of : FnScope ["_law_lines_here", "_law_at", "_law_heads", "_law_many", "_law_words", "_law_k", "_law_prices_here"] ["_law_lines_here", "_law_at", "_law_heads", "_law_many"] (defScope s_l_line_of) := ⟨rfl, rfl, rfl, by decide +kernel, rfl, by decide +kernel, by decide +kernel⟩
theorem ok_l_line_of (T : Txt K mg) : DefOk P w K mg base (L2.CX P w) 2 "_law_line_of" ["_law_lines_here", "_law_at", "_law_heads", "_law_many"] (spLineOf K) := by
  refine def_mk T.fn_l_line_of T.g_l_line_of sc_l_line_of (fun _ _ _ _ _ _ us hl => match us, hl with | [_, _, _, _], _ => rfl) (fun vs H Q E h => ?_) fun cdv A outer s H vs Q E hr h => ⟨_, (pss_cons (ps_if (PW.pt (pw_or (pt_cmpR op_ge (pv 1) (pe_callB call_len_seq rfl T.f_len boot_len (pa_cons (pv 0) pa_nil)) (nomark _)) (pw_or1 (pt_not (pt_val (pe_callB call_isi rfl T.f_isinstance boot_isinstance (pa_cons (pe_ix ix_list (pv 0) (pv 1) (fun _ _ => rfl)) (pa_cons (t_str T) pa_nil))))))))
      (pss_one (ps_ret (pe_tup (pa_cons (pv 1) (pa_cons pe_int pa_nil)))))
      pss_nil)
    (pss_cons (ps_set (i := 4) sc_l_line_of.nd rfl (Or.inl rfl) (pe_split (pe_ix ix_list (pv 0) (pv 1) (fun _ _ => rfl)) pe_str))
    (pss_cons (ps_for (passes_of rfl) rfl (pi_range1 rfl T.f_range (pa_cons (pe_callB call_len_seq rfl T.f_len boot_len (pa_cons (pv 2) pa_nil)) pa_nil)) (pg_name (i := 5) sc_l_line_of.nd rfl (.inl rfl))
      (pss_one (ps_if (PW.pt (pw_or (pt_cmpR op_ge (pv 5) (pe_callB call_len_seq rfl T.f_len boot_len (pa_cons (pv 4) pa_nil)) (nomark _)) (pw_or1 (pt_cmpR op_ne (pe_ix ix_list (pv 4) (pv 5) (fun _ _ => rfl)) (pe_ix ix_list (pv 2) (pv 5) (fun _ _ => rfl)) (nomark _)))))
        (pss_one (ps_ret (pe_tup (pa_cons (pv 1) (pa_cons (pv 5) pa_nil)))))
        pss_nil)))
    (pss_cons (ps_set (i := 6) sc_l_line_of.nd rfl (Or.inl rfl) (pe_lst pa_nil))
    (pss_cons (ps_for (passes_of rfl) rfl (pi_range2 rfl T.f_range (pa_cons (pe_callB call_len_seq rfl T.f_len boot_len (pa_cons (pv 2) pa_nil)) (pa_cons (pe_callB call_len_seq rfl T.f_len boot_len (pa_cons (pv 4) pa_nil)) pa_nil))) (pg_name (i := 5) sc_l_line_of.nd rfl (.inl rfl))
      (pss_cons (ps_if (PW.pt (pw_or (PW.pt (pw_and (pt_cmpR op_gt (pv 3) pe_int (nomark _)) (pw_and1 (pt_cmpR op_eq (pe_callB call_len_seq rfl T.f_len boot_len (pa_cons (pv 6) pa_nil)) (pv 3) (nomark _))))) (pw_or1 (pt_not (pt_val (pe_dn (ok_l_good_price T) (hr.mono (by decide)) (pa_cons (pe_ix ix_list (pv 4) (pv 5) (fun _ _ => rfl)) pa_nil)))))))
        (pss_one (ps_ret (pe_tup (pa_cons (pv 1) (pa_cons (pv 5) pa_nil)))))
        pss_nil)
      (pss_one (ps_expr (pe_bm PySem.F.plainAttrs_list PySem.F.slot_list_append PySem.F.type_list_append mt_append (pv 6) (pa_cons (pe_callTy call_int_str rfl T.f_int boot_int (pa_cons (pe_ix ix_list (pv 4) (pv 5) (fun _ _ => rfl)) pa_nil)) pa_nil))))))
    (pss_cons (ps_if (pt_cmpR op_lt (pe_callB call_len_seq rfl T.f_len boot_len (pa_cons (pv 6) pa_nil)) (pe_callB (call_max2 rfl) rfl T.f_max boot_max (pa_cons pe_int (pa_cons (pv 3) pa_nil))) (nomark _))
      (pss_one (ps_ret (pe_tup (pa_cons (pv 1) (pa_cons (pe_callB call_len_seq rfl T.f_len boot_len (pa_cons (pv 4) pa_nil)) pa_nil)))))
      pss_nil)
    (pss_one (ps_ret (pv 6))))))))), ?_⟩
  · obtain ⟨l, hd, at_, lns, heads, many, cap, mn, rfl, _⟩ := h
    rfl
  · obtain ⟨l, hd, at_, lns, heads, many, cap, mn, rfl, hat, hL, hS, hh, hhl, hm, k1, k2⟩ := h
    obtain ⟨xs, hl, pr⟩ := id hL
    have hlen := pr.length
    have bad : wordsOf lns at_ = none → RetTup Q H at_ 0 := fun e => k1 at_ 0 (by unfold lineR headsR; rw [e] <;> rfl)
    have two : 2 ≤ sizeLine := by decide
    refine ⟨_, rfl, _, rfl, l, xs, rfl, .inl (SqL.of hl), _, _, rfl, rfl, _, rfl, it2 (fun h1 => ?_) (fun h1 => ?_)⟩
    · have h2 : lns[at_]? = none := List.getElem?_eq_none (by have := of_decide_eq_true h1; omega)
      exact ⟨_, rfl, two, (bad (by unfold wordsOf; rw [h2])).here⟩
    have h2 : at_ < xs.length := by have := of_decide_eq_false h1; omega
    obtain ⟨v, hv⟩ : ∃ v, xs[at_]? = some v := ⟨xs[at_], by simp [h2]⟩
    obtain ⟨ln, hln, lv⟩ := paired_at pr hv
    obtain ⟨t, ty, kit⟩ := ln_ty (K := K) lv
    refine ⟨_, rfl, _, rfl, l, xs, _, v, rfl, rfl, SqL.of hl, atI_nat hv, v, _, t, _, ln.isSome, rfl, .ty "str", ty, kit, ?_⟩
    refine ⟨_, rfl, ?_⟩
    cases ln with
    | none => exact iteT ⟨_, rfl, two, (bad (by unfold wordsOf; rw [hln])).here⟩
    | some z =>
      obtain rfl : v = .str z := lv
      have hz := hS.2 z (List.mem_of_getElem? hln)
      have ew : wordsOf lns at_ = some (PySem.Txt.split z SP) := by unfold wordsOf; rw [hln]
      refine iteF ⟨_, rfl, _, rfl, l, xs, _, _, rfl, rfl, SqL.of hl, atI_nat hv, ⟨z, rfl⟩, z, SP, rfl, rfl, by decide +kernel, by rw [sizeLine_eq]; omega, fun p hp => ?_⟩
      obtain ⟨ws, ews⟩ : ∃ ws, ws = PySem.Txt.split z SP := ⟨_, rfl⟩
      rw [← ews] at ew ⊢
      obtain ⟨wz1, wz2⟩ := words_less hS ew
      have wlen : ws.length ≤ 999 := Nat.le_trans (wl_len ws) wz1
      have s1 := same_new (o := .lst (ws.map V.str)) hp
      obtain ⟨H1, e1⟩ : ∃ H1, H1 = upd H p (.lst (ws.map V.str)) := ⟨_, rfl⟩
      have hp1 : H1 p = some (.lst (ws.map V.str)) := by rw [e1]; exact upd_same
      rw [← e1] at s1 ⊢
      have eL : (ws.map V.str).length = ws.length := List.length_map ..
      have eH : (heads.map V.str).length = heads.length := List.length_map ..
      -- the heads
      refine ⟨_, rfl, hd, _, rfl, .inl (SqL.of (s1 _ _ hh)), (heads.length : Int), by rw [eH], by omega, by omega, ?_⟩
      refine for_range (lo := 0) (n := heads.length) (fun i σ H' => H' = H1 ∧ (∃ v5, σ = [some (.ref l), some (.int at_), some (.ref hd), some (.int many), some (.ref p), v5, none]) ∧ hb ws heads 0 = hb (ws.drop i) (heads.drop i) i) ⟨rfl, ⟨none, rfl⟩, rfl⟩ ?_ ?_
      · rintro i σ H2 hi ⟨rfl, ⟨v5, rfl⟩, inv⟩
        obtain ⟨h, hh1⟩ : ∃ h, heads[i]? = some h := ⟨heads[i], by simp [hi]⟩
        rw [drop_at hh1] at inv
        rw [Int.zero_add]
        have bad2 : hb ws heads 0 = some i → RetTup Q H2 at_ i := fun e => (k1 at_ i (by unfold lineR headsR; rw [ew]; show (match (match hb ws heads 0 with | some k => (Except.error (at_, k) : Res (List Str)) | none => .ok ws) with | .error e => _ | .ok ws => _) = _; rw [e] <;> rfl)).same s1
        refine ⟨_, rfl, _, rfl, p, _, rfl, .inl (SqL.of hp1), _, _, rfl, rfl, _, rfl, it2 (fun h1 => ?_) (fun h1 => ?_)⟩
        · have h3 : ws.length ≤ i := by
            have := of_decide_eq_true h1
            rw [eL] at this
            omega
          rw [List.drop_of_length_le h3] at inv
          exact ⟨_, rfl, _, rfl, two, (bad2 inv).here⟩
        · have h3 : i < ws.length := by
            have := of_decide_eq_false h1
            rw [eL] at this
            omega
          obtain ⟨wd, hw⟩ : ∃ wd, ws[i]? = some wd := ⟨ws[i], by simp [h3]⟩
          rw [drop_at hw] at inv
          have hhd := s1 _ _ hh
          refine ⟨_, rfl, _, rfl, p, _, _, V.str wd, rfl, rfl, SqL.of hp1, atI_nat (by rw [List.getElem?_map, hw]; rfl), _, rfl, _, rfl, hd, _, _, V.str h, rfl, rfl, SqL.of hhd, atI_nat (by rw [List.getElem?_map, hh1]; rfl), rfl, _, rfl, ?_⟩
          rw [dec_strs]
          by_cases q : wd = h
          · refine itF (by simp [q]) ?_
            refine ⟨rfl, ⟨_, rfl⟩, ?_⟩
            rw [inv]
            show (if wd = h then hb (ws.drop (i + 1)) (heads.drop (i + 1)) (i + 1) else some i) = _
            rw [if_pos q]
          · refine itT (by simp [q]) ⟨_, rfl, _, rfl, two, (bad2 ?_).here⟩
            rw [inv]
            show (if wd = h then hb (ws.drop (i + 1)) (heads.drop (i + 1)) (i + 1) else some i) = _
            rw [if_neg q]
      · rintro σ H2 ⟨rfl, ⟨v5, rfl⟩, inv⟩
        rw [List.drop_of_length_le (Nat.le_refl heads.length)] at inv
        have hnone : hb ws heads 0 = none := by
          rw [inv]
          cases ws.drop heads.length <;> rfl
        have hle := hb_len hnone
        have eL2 : lineR lns at_ heads cap mn = match prs cap (ws.drop heads.length) heads.length [] with
          | .error k => .error (at_, k)
          | .ok ns => if ns.length < mn then .error (at_, ws.length) else .ok ns := by
          unfold lineR headsR
          rw [ew]
          show (match (match hb ws heads 0 with | some k => (Except.error (at_, k) : Res (List Str)) | none => .ok ws) with | .error e => _ | .ok ws => _) = _
          rw [hnone] <;> rfl
        rw [eL2] at k1 k2
        -- prices = []
        refine ⟨Nat.zero_le _, fun q hq => ?_⟩
        have sq := same_new (o := .lst []) hq
        have nqp : q ≠ p := fun z => by rw [z, hp1] at hq; cases hq
        refine ⟨_, rfl, hd, _, rfl, .inl (SqL.of (sq _ _ (s1 _ _ hh))), _, rfl, p, _, rfl, .inl (SqL.of (sq _ _ hp1)), _, _, rfl, ?_, ?_⟩
        · rw [eH, eL]
          omega
        rw [eH, eL]
        refine for_range (lo := (heads.length : Int)) (n := ((ws.length : Int) - heads.length).toNat) (fun i σ H' => ∃ (ns : List Int) (v : Option V), σ = [some (.ref l), some (.int at_), some (.ref hd), some (.int many), some (.ref p), v, some (.ref q)] ∧ Same H2 H' ∧ H' q = some (.lst (ns.map V.int)) ∧
          prs cap (ws.drop heads.length) heads.length [] = prs cap (ws.drop (heads.length + i)) (heads.length + i) ns ∧ ns.length = i) ⟨[], v5, rfl, sq, upd_same, rfl, rfl⟩ ?_ ?_
        · rintro i σ H' hi ⟨ns, v, rfl, s2, hq2, inv, hns⟩
          have hi2 : heads.length + i < ws.length := by omega
          obtain ⟨wd, hw⟩ : ∃ wd, ws[heads.length + i]? = some wd := ⟨ws[heads.length + i], by simp [hi2]⟩
          rw [drop_at hw, prs_cons] at inv
          have hp2 := s2 _ _ hp1
          have hwd : wd.length ≤ 999 := by
            have := wl_mem (List.mem_of_getElem? hw)
            omega
          have ek : ((heads.length : Int) + (i : Nat)) = ((heads.length + i : Nat) : Int) := by omega
          rw [ek]
          have bad3 : prs cap (ws.drop heads.length) heads.length [] = .error (heads.length + i) → RetTup Q H' at_ (heads.length + i) := fun z => (k1 at_ (heads.length + i) (by rw [z])).same (s1.trans s2)
          have eN : (ns.map V.int).length = ns.length := List.length_map ..
          have hwx : (ws.map V.str)[heads.length + i]? = some (V.str wd) := by rw [List.getElem?_map, hw]; rfl
          refine ⟨_, rfl, _, _, rfl, rfl, _, rfl, ao (b2 := decide (V.int ((ns.map V.int).length : Int) = V.int (many : Int))) (fun h => ⟨_, rfl, q, _, rfl, .inl (SqL.of hq2), _, rfl, rfl, _, rfl, h⟩) (fun h1 h2 => ?_) (fun h1 => ?_)⟩
          · have h3 : ns.length = cap := by
              have a1 := of_decide_eq_true h1
              have a2 := V.int.inj (of_decide_eq_true h2)
              rw [eN] at a2
              rcases hm with ⟨m1, _⟩ | ⟨_, _, m2, _⟩ <;> omega
            exact ⟨_, rfl, _, rfl, two, (bad3 (by rw [inv, if_pos (.inl h3)])).here⟩
          · have h3 : ¬ ns.length = cap := fun z => by
              rcases hm with ⟨_, m1, _⟩ | ⟨m0, _, m2, _⟩
              · omega
              · refine h1 ⟨decide_eq_true (by omega), decide_eq_true (congrArg V.int ?_)⟩
                rw [eN]
                omega
            refine ⟨_, rfl, _, rfl, p, _, _, V.str wd, rfl, rfl, SqL.of hp2, atI_nat hwx, wd, rfl, by omega, ?_⟩
            refine ⟨_, rfl, ?_⟩
            cases hpr : isPrice wd with
            | false => exact iteT ⟨_, rfl, _, rfl, two, (bad3 (by rw [inv, if_pos (.inr hpr)])).here⟩
            | true =>
              have h4 : ¬ (ns.length = cap ∨ isPrice wd = false) := fun z => z.elim h3 (fun y => by rw [hpr] at y; cases y)
              rw [if_neg h4] at inv
              obtain ⟨i1, i2⟩ := int_price hpr
              refine iteF ⟨_, rfl, .inl ⟨rfl, _, SqL.of hq2⟩, _, rfl, _, rfl, p, _, _, V.str wd, rfl, rfl, SqL.of hp2, atI_nat hwx, wd, intOf wd, rfl, i1, i2, q, _, _, rfl, rfl, hq2, ?_, ?_⟩
              · rw [List.length_map, sizeLine_eq]
                omega
              · refine ⟨ns ++ [intOf wd], _, rfl, same_put s2 hq, ?_, inv, ?_⟩
                · rw [upd_same, List.map_append]
                  rfl
                · rw [List.length_append, List.length_singleton, hns]
        · rintro σ H' ⟨ns, v, rfl, s2, hq2, inv, hns⟩
          have e0 : heads.length + ((ws.length : Int) - heads.length).toNat = ws.length := by omega
          rw [e0, List.drop_of_length_le (Nat.le_refl _)] at inv
          have inv2 : prs cap (ws.drop heads.length) heads.length [] = .ok ns := inv
          rw [inv2] at k1 k2
          have k1' : ns.length < mn → RetTup Q H at_ ws.length := fun z => k1 _ _ (if_pos z)
          have k2' : ¬ ns.length < mn → RetNew Q H (ns.map V.int) := fun z => k2 ns (if_neg z)
          have emx : (if (many : Int) > 1 then (many : Int) else 1) = (mn : Int) := by
            rcases hm with ⟨m1, _, m2⟩ | ⟨m0, _, _, m2⟩
            · rw [if_neg (by omega)]
              omega
            · by_cases h : (many : Int) > 1
              · rw [if_pos h]
                omega
              · rw [if_neg h]
                omega
          refine ⟨_, rfl, q, _, rfl, .inl (SqL.of hq2), _, rfl, 1, (many : Int), rfl, _, _, rfl, rfl, _, rfl, ?_⟩
          rw [emx, List.length_map]
          refine it2 (fun h1 => ?_) (fun h1 => ?_)
          · have h2 : ns.length < mn := by
              have := of_decide_eq_true h1
              omega
            refine ⟨_, rfl, _, rfl, p, _, rfl, .inl (SqL.of (s2 _ _ hp1)), two, ?_⟩
            rw [eL]
            exact ((k1' h2).same (s1.trans s2)).here
          · have h2 : ¬ ns.length < mn := by
              have := of_decide_eq_false h1
              omega
            exact ⟨_, rfl, k2' h2 q H' (s1.free hq) (s1.trans s2) hq2⟩
end Aw
set_option maxHeartbeats 4000000
/-! The law's reader of lines. -/
namespace Aw
open PySem PySem.Spec PyProof.Rows L2
variable {P : Program} {w : World} {K : PySem.W.Frag} {mg : Str → Option Value} {base : Heap}
def RetSto (Q : VK) (H : Hp) (s : Str) (b : List Int) (c : List (List (List Int))) (e : List Int) : Prop := ∀ p vb vc ve H', Same H H' → H' p = some (.lst [.str s, vb, vc, ve]) → LD H' 1 b vb → LD H' 3 c vc → LD H' 1 e ve → Q (.ref p) H'
def spJudged (K : PySem.W.Frag) : Sp := fun vs H Q _ => ∃ (l : Addr) (lns : List Ln), vs = [.ref l] ∧ Lines Any H l lns ∧ Less lns ∧ (∀ i j, readR lns = .error (i, j) → RetTup Q H i j) ∧ ∀ s b c e, readR lns = .ok (s, b, c, e) → RetSto Q H s b c e
theorem atI_first {α : Type} {xs : List α} {v : α} (h : xs[0]? = some v) : atI xs 0 = some v := atI_nat (j := 0) h
theorem atI_second {α : Type} {xs : List α} {v : α} (h : xs[1]? = some v) : atI xs 1 = some v := atI_nat (j := 1) h
theorem sc_l_judged : FnScope ["_law_lines_here", "_law_words", "_law_begins", "_law_costs", "_law_k", "_law_table", "_law_s", "_law_line", "_law_ends"] ["_law_lines_here"] (defScope s_l_judged) := ⟨rfl, rfl, rfl, by decide +kernel, rfl, by decide +kernel, by decide +kernel⟩
theorem ok_l_judged (T : Txt K mg) : DefOk P w K mg base (L2.CX P w) 4 "_law_judged" ["_law_lines_here"] (spJudged K) := by
  refine def_mk T.fn_l_judged T.g_l_judged sc_l_judged (fun _ _ _ _ _ _ us hl => match us, hl with | [_], _ => rfl) (fun vs H Q E h => ?_) fun cdv A outer s H vs Q E hr h => ⟨_, (pss_cons (ps_if (PW.pt (pw_or (pt_cmpR op_eq (pe_callB call_len_seq rfl T.f_len boot_len (pa_cons (pv 0) pa_nil)) pe_int (nomark _)) (pw_or1 (pt_not (pt_val (pe_callB call_isi rfl T.f_isinstance boot_isinstance (pa_cons (pe_ix ix_list (pv 0) pe_int (fun _ _ => rfl)) (pa_cons (t_str T) pa_nil))))))))
      (pss_one (ps_ret (pe_tup (pa_cons pe_int (pa_cons pe_int pa_nil)))))
      pss_nil)
    (pss_cons (ps_set (i := 1) sc_l_judged.nd rfl (Or.inl rfl) (pe_split (pe_ix ix_list (pv 0) pe_int (fun _ _ => rfl)) pe_str))
    (pss_cons (ps_if (pt_cmpR op_ne (pe_ix ix_list (pv 1) pe_int (fun _ _ => rfl)) pe_str (nomark _))
      (pss_one (ps_ret (pe_tup (pa_cons pe_int (pa_cons pe_int pa_nil)))))
      pss_nil)
    (pss_cons (ps_if (PW.pt (pw_or (pt_cmpR op_eq (pe_callB call_len_seq rfl T.f_len boot_len (pa_cons (pv 1) pa_nil)) pe_int (nomark _)) (pw_or1 (pt_not (pt_val (pe_dn (ok_l_good_asks T) (hr.mono (by decide)) (pa_cons (pe_ix ix_list (pv 1) pe_int (fun _ _ => rfl)) pa_nil)))))))
      (pss_one (ps_ret (pe_tup (pa_cons pe_int (pa_cons pe_int pa_nil)))))
      pss_nil)
    (pss_cons (ps_if (pt_cmpR op_gt (pe_callB call_len_seq rfl T.f_len boot_len (pa_cons (pv 1) pa_nil)) pe_int (nomark _))
      (pss_one (ps_ret (pe_tup (pa_cons pe_int (pa_cons pe_int pa_nil)))))
      pss_nil)
    (pss_cons (ps_set (i := 2) sc_l_judged.nd rfl (Or.inl rfl) (pe_dn (ok_l_line_of T) (hr.mono (by decide)) (pa_cons (pv 0) (pa_cons pe_int (pa_cons (pe_lst (pa_cons pe_str pa_nil)) (pa_cons pe_int pa_nil))))))
    (pss_cons (ps_if (pt_val (pe_callB call_isi rfl T.f_isinstance boot_isinstance (pa_cons (pv 2) (pa_cons (t_tuple T) pa_nil))))
      (pss_one (ps_ret (pv 2)))
      pss_nil)
    (pss_cons (ps_set (i := 3) sc_l_judged.nd rfl (Or.inl rfl) (pe_lst pa_nil))
    (pss_cons (ps_for (passes_of rfl) rfl (pi_range1 rfl T.f_range (pa_cons (pe_callB call_len_str rfl T.f_len boot_len (pa_cons (pe_ix ix_list (pv 1) pe_int (fun _ _ => rfl)) pa_nil)) pa_nil)) (pg_name (i := 4) sc_l_judged.nd rfl (.inl rfl))
      (pss_cons (ps_set (i := 5) sc_l_judged.nd rfl (Or.inl rfl) (pe_lst pa_nil))
      (pss_cons (ps_for (passes_of rfl) rfl (pi_range1 rfl T.f_range (pa_cons (pe_callB call_len_seq rfl T.f_len boot_len (pa_cons (pv 2) pa_nil)) pa_nil)) (pg_name (i := 6) sc_l_judged.nd rfl (.inl rfl))
        (pss_cons (ps_set (i := 7) sc_l_judged.nd rfl (Or.inl rfl) (pe_dn (ok_l_line_of T) (hr.mono (by decide)) (pa_cons (pv 0) (pa_cons (pe_op op_add (pe_op op_add pe_int (pe_op op_mul (pv 4) (pe_callB call_len_seq rfl T.f_len boot_len (pa_cons (pv 2) pa_nil)))) (pv 6)) (pa_cons (pe_lst (pa_cons pe_str (pa_cons (pe_ix ix_str (pe_ix ix_list (pv 1) pe_int (fun _ _ => rfl)) (pv 4) (fun _ _ => rfl)) pa_nil))) (pa_cons (pe_callB call_len_seq rfl T.f_len boot_len (pa_cons (pv 2) pa_nil)) pa_nil))))))
        (pss_cons (ps_if (pt_val (pe_callB call_isi rfl T.f_isinstance boot_isinstance (pa_cons (pv 7) (pa_cons (t_tuple T) pa_nil))))
          (pss_one (ps_ret (pv 7)))
          pss_nil)
        (pss_one (ps_expr (pe_bm PySem.F.plainAttrs_list PySem.F.slot_list_append PySem.F.type_list_append mt_append (pv 5) (pa_cons (pv 7) pa_nil)))))))
      (pss_one (ps_expr (pe_bm PySem.F.plainAttrs_list PySem.F.slot_list_append PySem.F.type_list_append mt_append (pv 3) (pa_cons (pv 5) pa_nil)))))))
    (pss_cons (ps_set (i := 8) sc_l_judged.nd rfl (Or.inl rfl) (pe_dn (ok_l_line_of T) (hr.mono (by decide)) (pa_cons (pv 0) (pa_cons (pe_op op_add pe_int (pe_op op_mul (pe_callB call_len_str rfl T.f_len boot_len (pa_cons (pe_ix ix_list (pv 1) pe_int (fun _ _ => rfl)) pa_nil)) (pe_callB call_len_seq rfl T.f_len boot_len (pa_cons (pv 2) pa_nil)))) (pa_cons (pe_lst (pa_cons pe_str pa_nil)) (pa_cons (pe_callB call_len_seq rfl T.f_len boot_len (pa_cons (pv 2) pa_nil)) pa_nil))))))
    (pss_cons (ps_if (pt_val (pe_callB call_isi rfl T.f_isinstance boot_isinstance (pa_cons (pv 8) (pa_cons (t_tuple T) pa_nil))))
      (pss_one (ps_ret (pv 8)))
      pss_nil)
    (pss_cons (ps_if (pt_cmpR op_gt (pe_callB call_len_seq rfl T.f_len boot_len (pa_cons (pv 0) pa_nil)) (pe_op op_add pe_int (pe_op op_mul (pe_callB call_len_str rfl T.f_len boot_len (pa_cons (pe_ix ix_list (pv 1) pe_int (fun _ _ => rfl)) pa_nil)) (pe_callB call_len_seq rfl T.f_len boot_len (pa_cons (pv 2) pa_nil)))) (nomark _))
      (pss_one (ps_ret (pe_tup (pa_cons (pe_op op_add pe_int (pe_op op_mul (pe_callB call_len_str rfl T.f_len boot_len (pa_cons (pe_ix ix_list (pv 1) pe_int (fun _ _ => rfl)) pa_nil)) (pe_callB call_len_seq rfl T.f_len boot_len (pa_cons (pv 2) pa_nil)))) (pa_cons pe_int pa_nil)))))
      pss_nil)
    (pss_one (ps_ret (pe_lst (pa_cons (pe_ix ix_list (pv 1) pe_int (fun _ _ => rfl)) (pa_cons (pv 2) (pa_cons (pv 3) (pa_cons (pv 8) pa_nil))))))))))))))))))), ?_⟩
  · obtain ⟨l, lns, rfl, _⟩ := h
    rfl
  · obtain ⟨l, lns, rfl, hL, hS, k1, k2⟩ := h
    obtain ⟨xs, hl, pr⟩ := id hL
    have hlen := pr.length
    have two : 2 ≤ sizeLine := by decide
    have kA : ∀ i j, asksR lns = .error (i, j) → RetTup Q H i j := fun i j e => k1 i j (by unfold readR; rw [e])
    have bad : wordsOf lns 0 = none → RetTup Q H 0 0 := fun e => kA 0 0 (by unfold asksR headsR; rw [e] <;> rfl)
    refine ⟨_, rfl, l, xs, rfl, .inl (SqL.of hl), rfl, _, rfl, it2 (fun h1 => ?_) (fun h1 => ?_)⟩
    · have h2 : lns[0]? = none := List.getElem?_eq_none (by have := V.int.inj (of_decide_eq_true h1); omega)
      exact ⟨two, (bad (by unfold wordsOf; rw [h2])).here⟩
    have h2 : 0 < xs.length := by
      have : ¬ (xs.length : Int) = 0 := fun z => of_decide_eq_false h1 (congrArg V.int z)
      omega
    obtain ⟨v, hv⟩ : ∃ v, xs[0]? = some v := ⟨xs[0], by simp [h2]⟩
    obtain ⟨ln, hln, lv⟩ := paired_at pr hv
    obtain ⟨t, ty, kit⟩ := ln_ty (K := K) lv
    refine ⟨_, rfl, l, xs, _, v, rfl, rfl, SqL.of hl, atI_first hv, v, _, t, _, ln.isSome, rfl, .ty "str", ty, kit, ?_⟩
    refine ⟨_, rfl, ?_⟩
    cases ln with
    | none => exact iteT ⟨two, (bad (by unfold wordsOf; rw [hln])).here⟩
    | some z0 =>
      obtain rfl : v = .str z0 := lv
      have hz := hS.2 z0 (List.mem_of_getElem? hln)
      have ew : wordsOf lns 0 = some (PySem.Txt.split z0 SP) := by unfold wordsOf; rw [hln]
      refine iteF ⟨_, rfl, l, xs, _, _, rfl, rfl, SqL.of hl, atI_first hv, ⟨z0, rfl⟩, z0, SP, rfl, rfl, by decide +kernel, by rw [sizeLine_eq]; omega, fun p hp => ?_⟩
      obtain ⟨ws, ews⟩ : ∃ ws, ws = PySem.Txt.split z0 SP := ⟨_, rfl⟩
      rw [← ews] at ew ⊢
      obtain ⟨wz1, wz2⟩ := words_less hS ew
      have s1 := same_new (o := .lst (ws.map V.str)) hp
      obtain ⟨H1, e1⟩ : ∃ H1, H1 = upd H p (.lst (ws.map V.str)) := ⟨_, rfl⟩
      have hp1 : H1 p = some (.lst (ws.map V.str)) := by rw [e1]; exact upd_same
      rw [← e1] at s1 ⊢
      have eL : (ws.map V.str).length = ws.length := List.length_map ..
      obtain ⟨w0, wr, ew0⟩ : ∃ w0 wr, ws = w0 :: wr := by
        cases ws with
        | nil => exact absurd wz2 (by decide)
        | cons a r => exact ⟨a, r, rfl⟩
      have eA : asksR lns = match (if w0 = PySem.Str.ofString "store" then (Except.ok ws : Res (List Str)) else .error (0, 0)) with
        | .error e => .error e
        | .ok ws => match ws[1]? with
          | none => .error (0, 1)
          | some a => if isAsks a = true then (if 2 < ws.length then .error (0, 2) else .ok a) else .error (0, 1) := by
        unfold asksR headsR
        rw [ew, ew0]
        show (match (match (if w0 = PySem.Str.ofString "store" then hb wr [] 1 else some 0) with | some k => (Except.error (0, k) : Res (List Str)) | none => .ok (w0 :: wr)) with | .error e => _ | .ok ws => _) = _
        by_cases q : w0 = PySem.Str.ofString "store"
        · rw [if_pos q, if_pos q]
          cases wr <;> rfl
        · rw [if_neg q, if_neg q]
      have hw0 : (ws.map V.str)[0]? = some (V.str w0) := by rw [ew0]; rfl
      -- words[0] != 'store'
      refine ⟨_, rfl, p, _, _, V.str w0, rfl, rfl, SqL.of hp1, atI_first hw0, rfl, _, rfl, ?_⟩
      rw [dec_strs]
      by_cases q : w0 = PySem.Str.ofString "store"
      · refine itF (by simp [q]) ?_
        rw [if_pos q] at eA
        have eA2 : asksR lns = match ws[1]? with
          | none => .error (0, 1)
          | some a => if isAsks a = true then (if 2 < ws.length then .error (0, 2) else .ok a) else .error (0, 1) := eA
        rw [eA2] at kA
        refine ⟨_, rfl, p, _, rfl, .inl (SqL.of hp1), rfl, _, rfl, ?_⟩
        rw [eL]
        refine it2 (fun h3 => ?_) (fun h3 => ?_)
        · have h4 : ws[1]? = none := List.getElem?_eq_none (by have := V.int.inj (of_decide_eq_true h3); omega)
          rw [h4] at kA
          exact ⟨two, ((kA 0 1 rfl).same s1).here⟩
        have h4 : 1 < ws.length := by
          have : ¬ (ws.length : Int) = 1 := fun z => of_decide_eq_false h3 (congrArg V.int z)
          omega
        obtain ⟨z, hz1⟩ : ∃ a, ws[1]? = some a := ⟨ws[1], by simp [h4]⟩
        rw [hz1] at kA eA2
        have hzx : (ws.map V.str)[1]? = some (V.str z) := by rw [List.getElem?_map, hz1]; rfl
        have hzl0 := wl_mem (List.mem_of_getElem? hz1)
        refine ⟨_, rfl, p, _, _, V.str z, rfl, rfl, SqL.of hp1, atI_second hzx, z, rfl, by omega, ?_⟩
        refine ⟨_, rfl, ?_⟩
        cases hok : isAsks z with
        | false => exact iteT ⟨two, ((kA 0 1 (by show (if isAsks z = true then _ else _) = _; rw [if_neg (by rw [hok]; decide)])).same s1).here⟩
        | true =>
          refine iteF ?_
          refine ⟨_, rfl, p, _, rfl, .inl (SqL.of hp1), _, _, rfl, rfl, _, rfl, ?_⟩
          rw [eL]
          refine it2 (fun h5 => ?_) (fun h5 => ?_)
          · have h6 : 2 < ws.length := by
              have := of_decide_eq_true h5
              omega
            exact ⟨two, ((kA 0 2 (by show (if isAsks z = true then _ else _) = _; rw [if_pos hok, if_pos h6])).same s1).here⟩
          have h6 : ¬ 2 < ws.length := by
            have := of_decide_eq_false h5
            omega
          have ea : asksR lns = .ok z := by
            rw [eA2]
            show (if isAsks z = true then _ else _) = _
            rw [if_pos hok, if_neg h6]
          obtain ⟨_, zl1, zlen⟩ := asksR_ok ea
          have hz2 : z.length ≤ sizeLine := by rw [sizeLine_eq]; omega
          -- begins
          refine ⟨_, rfl, by show 1 ≤ sizeLine; decide, fun hd hhd => ?_⟩
          have sh := s1.trans (same_new (o := .lst [.str (PySem.Str.ofString "begins")]) hhd)
          have eR1 : readR lns = match lineR lns 1 [PySem.Str.ofString "begins"] 1000 1 with
            | .error e => .error e
            | .ok b => match costsR lns b.length z with
              | .error e => .error e
              | .ok c => match lineR lns (2 + z.length * b.length) [PySem.Str.ofString "ends"] b.length b.length with
                | .error e => .error e
                | .ok e => if 3 + z.length * b.length < lns.length then .error (3 + z.length * b.length, 0) else .ok (z, b, c, e) := by
            unfold readR
            rw [ea] <;> rfl
          refine ⟨l, hd, 1, lns, [PySem.Str.ofString "begins"], 0, 1000, 1, rfl, by decide, Lines.same sh hL, hS, upd_same, by decide, .inl ⟨rfl, rfl, rfl⟩, fun i j e pq Hq hq0 sq hpq => ?_, fun b eb pb Hb hpb0 sb hpb => ?_⟩
          · refine ⟨_, rfl, .ref pq, _, _, _, true, rfl, .ty "tuple", .base (.tup hpq), kit_ty (by decide +kernel), ?_⟩
            refine ⟨_, rfl, iteT ⟨_, rfl, ?_⟩⟩
            exact (k1 i j (by rw [eR1, e] <;> rfl)) pq Hq (sh.free hq0) (sh.trans sq) hpq
          refine ⟨_, rfl, .ref pb, _, _, _, false, rfl, .ty "tuple", .base (.lst hpb), kit_ty (by decide +kernel), ?_⟩
          refine ⟨_, rfl, iteF ?_⟩
          obtain ⟨bl1, bl2⟩ := lineR_len eb
          have t4 := sh.trans sb
          have eR : readR lns = match costsR lns b.length z with
              | .error e => .error e
              | .ok c => match lineR lns (2 + z.length * b.length) [PySem.Str.ofString "ends"] b.length b.length with
                | .error e => .error e
                | .ok e => if 3 + z.length * b.length < lns.length then .error (3 + z.length * b.length, 0) else .ok (z, b, c, e) := by
            rw [eR1, eb] <;> rfl
          have eB : (b.map V.int).length = b.length := List.length_map ..
          have hp4 := sb _ _ (same_new hhd _ _ hp1)
          -- costs = []
          refine ⟨Nat.zero_le _, fun pc hpc => ?_⟩
          have s5 := same_new (o := .lst []) hpc
          have kE : ∀ i j {H'}, Same Hb H' → costsR lns b.length z = .error (i, j) → RetTup Q H' i j := fun i j H' sH e => (k1 i j (by rw [eR, e] <;> rfl)).same (t4.trans sH)
          have hp5 := s5 _ _ hp4
          refine ⟨_, rfl, p, _, _, V.str z, rfl, rfl, SqL.of hp5, atI_second hzx, z, rfl, hz2, (z.length : Int), rfl, by omega, by omega, ?_⟩
          refine for_range (lo := 0) (n := z.length) (fun i σ H' => ∃ (ts : List V) (done : List (List (List Int))) (v4 v5 v6 v7 : Option V), σ = [some (.ref l), some (.ref p), some (.ref pb), some (.ref pc), v4, v5, v6, v7, none] ∧
            Same Hb H' ∧ H' pc = some (.lst ts) ∧ Paired (LD (hid pc H') 2) done ts ∧ done.length = i ∧ costsR lns b.length z = pre done (runE (fun k => tableR lns b.length (2 + k * b.length) (z.cps.toList.getD k 0)) i (z.length - i)))
            ⟨[], [], none, none, none, none, rfl, s5, upd_same, .nil, rfl, by rw [pre_nil]; rfl⟩ ?_ ?_
          · rintro i σ H6 hi ⟨ts, done, v4, v5, v6, v7, rfl, s6, hpc6, pd, hdl, inv⟩
            rw [Int.zero_add]
            have hzl3 : z.cps.toList.length = z.length := by simp [Str.length]
            obtain ⟨c, hc⟩ : ∃ c, z.cps.toList[i]? = some c := ⟨z.cps.toList[i]'(by omega), by simp⟩
            have hc2 : z.cps.toList.getD i 0 = c := getD_at hc
            have ei : z.length - i = (z.length - (i + 1)) + 1 := by omega
            rw [ei] at inv
            -- table = []
            refine ⟨Nat.zero_le _, fun pt hpt => ?_⟩
            have s7 := same_new (o := .lst []) hpt
            have hpc7 : upd H6 pt (.lst []) pc = some (.lst ts) := s7 _ _ hpc6
            have ntc : pt ≠ pc := fun y => by rw [y, hpc6] at hpt; cases hpt
            have pd7 : Paired (LD (hid pt (hid pc (upd H6 pt (.lst [])))) 2) done ts := Paired.mapP pd fun _ _ h => LD.same (fun x o e => by
              obtain ⟨n1, e1⟩ := hid_some e
              have n2 : x ≠ pt := fun y => by rw [y, hpt] at e1; cases e1
              rw [hid_ne n2, hid_ne n1, upd_ne n2]
              exact e1) h
            have hb6 := s6 _ _ hpb
            refine ⟨_, rfl, pb, _, rfl, .inl (SqL.of (s7 _ _ hb6)), (b.length : Int), by rw [eB], by omega, by omega, ?_⟩
            refine for_range (lo := 0) (n := b.length) (fun j σ H' => ∃ (vs : List V) (rows : List (List Int)) (v6 v7 : Option V), σ = [some (.ref l), some (.ref p), some (.ref pb), some (.ref pc), some (.int (i : Nat)), some (.ref pt), v6, v7, none] ∧
              Same H6 H' ∧ H' pc = some (.lst ts) ∧ H' pt = some (.lst vs) ∧ Paired (LD (hid pt (hid pc H')) 2) done ts ∧ Paired (LD (hid pt (hid pc H')) 1) rows vs ∧ rows.length = j ∧ tableR lns b.length (2 + i * b.length) c = pre rows (runE (fun s => lineR lns (2 + i * b.length + s) (CO c) b.length b.length) j (b.length - j)))
              ⟨[], [], v6, v7, rfl, s7, hpc7, upd_same, pd7, .nil, rfl, by rw [pre_nil]; rfl⟩ ?_ ?_
            · rintro j σ H8 hj ⟨vs, rows, v6', v7', rfl, s8, hpc8, hpt8, pd8, pr8, hrl, inv2⟩
              rw [Int.zero_add]
              have ej1 : b.length - j = (b.length - (j + 1)) + 1 := by omega
              rw [ej1] at inv2
              have t8 := s6.trans s8
              have hb8 := t8 _ _ hpb
              have hp8 := t8 _ _ hp4
              have hij : 2 + i * b.length + j ≤ 1000000 := by
                have : i * b.length ≤ 4 * 1000 := Nat.mul_le_mul (by omega) bl2
                omega
              have eij : (2 : Int) + (i : Int) * (b.length : Int) + (j : Int) = ((2 + i * b.length + j : Nat) : Int) := by
                rw [Int.natCast_add, Int.natCast_add, Int.natCast_mul]
                rfl
              refine ⟨_, rfl, _, rfl, _, rfl, pb, _, rfl, .inl (SqL.of hb8), _, _, rfl, rfl, .inl ⟨by omega, by omega⟩, _, _, rfl, rfl, _, rfl, _, _, rfl, rfl, ?_⟩
              refine ⟨_, rfl, p, _, _, V.str z, rfl, rfl, SqL.of hp8, atI_second hzx, _, rfl, z, _, c, rfl, rfl, hz2, atI_nat hc, by show 2 ≤ sizeLine; decide, fun hd2 hhd2 => ?_⟩
              have s9 := same_new (o := .lst [.str (PySem.Str.ofString "cost"), .str ⟨#[c]⟩]) hhd2
              have t9 := t8.trans s9
              refine ⟨_, rfl, pb, _, rfl, .inl (SqL.of (s9 _ _ hb8)), l, hd2, 2 + i * b.length + j, lns, CO c, b.length, b.length, b.length, ?_, hij, Lines.same (t4.trans t9) hL, hS, upd_same, by show 2 ≤ 10; decide, .inr ⟨bl1, bl2, rfl, rfl⟩, fun i2 j2 e pq Hq hq0 sq hpq => ?_, fun ns en q Hq hq sq hpq => ?_⟩
              · rw [← eij, eB]
                rfl
              · refine ⟨_, rfl, .ref pq, _, _, _, true, rfl, .ty "tuple", .base (.tup hpq), kit_ty (by decide +kernel), ?_⟩
                refine ⟨_, rfl, iteT ⟨_, rfl, ?_⟩⟩
                refine (kE i2 j2 t9 ?_) pq Hq hq0 sq hpq
                rw [inv]
                refine pre_err done ?_
                show tableR lns b.length (2 + i * b.length) (z.cps.toList.getD i 0) = _
                rw [hc2, inv2]
                exact pre_err rows e
              · refine ⟨_, rfl, .ref q, _, _, _, false, rfl, .ty "tuple", .base (.lst hpq), kit_ty (by decide +kernel), ?_⟩
                refine ⟨_, rfl, iteF ?_⟩
                have hpt10 := sq _ _ (s9 _ _ hpt8)
                have hpc10 := sq _ _ (s9 _ _ hpc8)
                have s11 := s9.trans sq
                have hq8 : H8 q = none := s9.free hq
                refine ⟨_, rfl, .inl ⟨rfl, _, SqL.of hpt10⟩, _, rfl, pt, vs, _, rfl, rfl, hpt10, ?_, ?_⟩
                · have e5 : rows.length = vs.length := pr8.length
                  rw [sizeLine_eq]
                  omega
                have gr : Same (hid pt (hid pc H8)) (hid pt (hid pc (upd Hq pt (.lst (vs ++ [.ref q]))))) := fun x o e => by
                  obtain ⟨n1, e1⟩ := hid_some e
                  obtain ⟨n2, e2⟩ := hid_some e1
                  rw [hid_ne n1, hid_ne n2, upd_ne n1]
                  exact s11 x o e2
                have nqt : q ≠ pt := fun y => by rw [y, hpt8] at hq8; cases hq8
                have nqc : q ≠ pc := fun y => by rw [y, hpc8] at hq8; cases hq8
                refine ⟨vs ++ [.ref q], rows ++ [ns], _, _, rfl, same_put (s8.trans s11) hpt, ?_, upd_same, Paired.mapP pd8 fun _ _ h => LD.same gr h, Paired.snoc (Paired.mapP pr8 fun _ _ h => LD.same gr h) ?_, ?_, ?_⟩
                · rw [upd_ne (Ne.symm ntc)]
                  exact hpc10
                · refine ⟨q, _, rfl, ?_, of_ints ns⟩
                  rw [hid_ne nqt, hid_ne nqc, upd_ne nqt]
                  exact hpq
                · rw [List.length_append, List.length_singleton, hrl]
                · rw [inv2]
                  exact pre_ok rows en
            · rintro σ H8 ⟨vs, rows, v6', v7', rfl, s8, hpc8, hpt8, pd8, pr8, hrl, inv2⟩
              rw [Nat.sub_self] at inv2
              have et : tableR lns b.length (2 + i * b.length) c = .ok rows := by
                rw [inv2]
                show Except.ok (rows ++ []) = _
                rw [List.append_nil]
              refine ⟨_, rfl, .inl ⟨rfl, _, SqL.of hpc8⟩, _, rfl, pc, ts, _, rfl, rfl, hpc8, ?_, ?_⟩
              · have e5 : done.length = ts.length := pd8.length
                rw [sizeLine_eq]
                omega
              have gr : Same (hid pt (hid pc H8)) (hid pc (upd H8 pc (.lst (ts ++ [.ref pt])))) := fun x o e => by
                obtain ⟨n1, e1⟩ := hid_some e
                obtain ⟨n2, e2⟩ := hid_some e1
                rw [hid_ne n2, upd_ne n2]
                exact e2
              refine ⟨ts ++ [.ref pt], done ++ [rows], _, _, _, _, rfl, same_put (s6.trans s8) hpc, upd_same, Paired.snoc (Paired.mapP pd8 fun _ _ h => LD.same gr h) ?_, ?_, ?_⟩
              · refine ⟨pt, vs, rfl, ?_, Paired.mapP pr8 fun _ _ h => LD.same gr h⟩
                rw [hid_ne ntc, upd_ne ntc]
                exact hpt8
              · rw [List.length_append, List.length_singleton, hdl]
              · rw [inv]
                refine pre_ok done ?_
                show tableR lns b.length (2 + i * b.length) (z.cps.toList.getD i 0) = _
                rw [hc2, et]
          · rintro σ H8 ⟨ts, done, v4, v5, v6, v7, rfl, s8, hpc8, pd, hdl, inv⟩
            rw [Nat.sub_self] at inv
            have ec : costsR lns b.length z = .ok done := by
              rw [inv]
              show Except.ok (done ++ []) = _
              rw [List.append_nil]
            have t8 := t4.trans s8
            have hab : 2 + z.length * b.length ≤ 5000 := by
              have : z.length * b.length ≤ 4 * 1000 := Nat.mul_le_mul zlen bl2
              omega
            rw [ec] at eR
            have eab : (z.length : Int) * (b.length : Int) = ((z.length * b.length : Nat) : Int) := (Int.natCast_mul _ _).symm
            have hb8 := s8 _ _ hpb
            have hp8 := s8 _ _ hp4
            -- ends
            refine ⟨_, rfl, _, rfl, p, _, _, V.str z, rfl, rfl, SqL.of hp8, atI_second hzx, z, rfl, hz2, _, rfl, pb, _, rfl, .inl (SqL.of hb8), _, _, rfl, rfl, .inl ⟨by omega, by omega⟩, _, _, rfl, rfl, by show 1 ≤ sizeLine; decide, fun hd2 hhd2 => ?_⟩
            have s9 := same_new (o := .lst [.str (PySem.Str.ofString "ends")]) hhd2
            have t9 := t8.trans s9
            refine ⟨_, rfl, pb, _, rfl, .inl (SqL.of (s9 _ _ hb8)), l, hd2, 2 + z.length * b.length, lns, [PySem.Str.ofString "ends"], b.length, b.length, b.length, ?_, by omega, Lines.same t9 hL, hS, upd_same, by decide, .inr ⟨bl1, bl2, rfl, rfl⟩, fun i2 j2 e pq Hq hq0 sq hpq => ?_, fun e ee q H10 hq s10 hq10 => ?_⟩
            · rw [eB, Int.natCast_add, Int.natCast_mul]
              rfl
            · refine ⟨_, rfl, .ref pq, _, _, _, true, rfl, .ty "tuple", .base (.tup hpq), kit_ty (by decide +kernel), ?_⟩
              refine ⟨_, rfl, iteT ⟨_, rfl, ?_⟩⟩
              refine (k1 i2 j2 ?_) pq Hq (t9.free hq0) (t9.trans sq) hpq
              rw [eR]
              show (match lineR lns (2 + z.length * b.length) [PySem.Str.ofString "ends"] b.length b.length with | .error e => _ | .ok e => _) = _
              rw [e] <;> rfl
            refine ⟨_, rfl, .ref q, _, _, _, false, rfl, .ty "tuple", .base (.lst hq10), kit_ty (by decide +kernel), ?_⟩
            refine ⟨_, rfl, iteF ?_⟩
            have s11 := s9.trans s10
            have t11 := t8.trans s11
            have eR2 : readR lns = if 3 + z.length * b.length < lns.length then .error (3 + z.length * b.length, 0) else .ok (z, b, done, e) := by
              rw [eR]
              show (match lineR lns (2 + z.length * b.length) [PySem.Str.ofString "ends"] b.length b.length with | .error e => _ | .ok e => _) = _
              rw [ee] <;> rfl
            have hp11 := s11 _ _ hp8
            have hb11 := s11 _ _ hb8
            refine ⟨_, rfl, l, xs, rfl, .inl (SqL.of (t11 _ _ hl)), _, rfl, p, _, _, V.str z, rfl, rfl, SqL.of hp11, atI_second hzx, z, rfl, hz2, _, rfl, pb, _, rfl, .inl (SqL.of hb11), _, _, rfl, rfl, .inl ⟨by omega, by omega⟩, _, _, rfl, rfl, _, _, rfl, rfl, _, rfl, ?_⟩
            rw [eB, eab]
            have e3 : (3 : Int) + ((z.length * b.length : Nat) : Int) = ((3 + z.length * b.length : Nat) : Int) := (Int.natCast_add 3 _).symm
            refine it2 (fun h1 => ?_) (fun h1 => ?_)
            · have h2 : 3 + z.length * b.length < lns.length := by
                have := of_decide_eq_true h1
                rw [e3] at this
                omega
              refine ⟨_, rfl, p, _, _, V.str z, rfl, rfl, SqL.of hp11, atI_second hzx, z, rfl, hz2, _, rfl, pb, _, rfl, .inl (SqL.of hb11), _, _, rfl, rfl, .inl ⟨by omega, by omega⟩, _, _, rfl, rfl, two, fun pq hpq => ?_⟩
              have e4 : (3 : Int) + (z.length : Int) * ((b.map V.int).length : Int) = ((3 + z.length * b.length : Nat) : Int) := by rw [eB, eab, e3]
              refine (k1 (3 + z.length * b.length) 0 (by rw [eR2, if_pos h2])) pq _ (t11.free hpq) (t11.trans (same_new hpq)) ?_
              rw [upd_same]
              show some (HO.tup [V.int ((3 : Int) + (z.length : Int) * ((b.map V.int).length : Int)), V.int 0]) = _
              rw [e4] <;> rfl
            · have h2 : ¬ 3 + z.length * b.length < lns.length := by
                have := of_decide_eq_false h1
                rw [e3] at this
                omega
              refine ⟨_, rfl, p, _, _, V.str z, rfl, rfl, SqL.of hp11, atI_second hzx, _, rfl, _, rfl, _, rfl, by show 4 ≤ sizeLine; decide, fun pn hpn => ?_⟩
              have s12 := same_new (o := .lst [.str z, .ref pb, .ref pc, .ref q]) hpn
              refine k2 z b done e (by rw [eR2, if_neg h2]) pn _ _ _ _ (t11.trans s12) upd_same ?_ ?_ ?_
              · exact ⟨pb, _, rfl, s12 _ _ hb11, of_ints b⟩
              · exact ⟨pc, ts, rfl, s12 _ _ (s11 _ _ hpc8), Paired.mapP pd fun _ _ h => LD.same (((hid_le pc H8).trans s11).trans s12) h⟩
              · exact ⟨q, _, rfl, s12 _ _ hq10, of_ints e⟩
      · refine itT (by simp [q]) ?_
        rw [if_neg q] at eA
        have eA2 : asksR lns = .error (0, 0) := eA
        exact ⟨two, ((kA 0 0 eA2).same s1).here⟩
end Aw
set_option maxHeartbeats 4000000
/-! exact, deep, store_is. -/
namespace Aw
open PySem PySem.Spec PyProof.Rows L2 RZ
variable {P : Program} {w : World} {K : PySem.W.Frag} {mg : Str → Option Value} {base : Heap}
theorem sc_l_is_int : FnScope ["_law_thing"] ["_law_thing"] (defScope s_l_is_int) := ⟨rfl, rfl, rfl, by decide +kernel, rfl, by decide +kernel, by decide +kernel⟩
theorem ok_l_is_int (T : Txt K mg) : DefOk P w K mg base (L2.CX P w) 1 "_law_is_int" ["_law_thing"] (spIsInt K) := by
  refine def_mk T.fn_l_is_int T.g_l_is_int sc_l_is_int (fun _ _ _ _ _ _ us hl => match us, hl with | [_], _ => rfl) (fun vs H Q E h => ?_) fun cdv A outer s H vs Q E hr h => ⟨_, (pss_one (ps_ret (pe_and (pe_callB call_isi rfl T.f_isinstance boot_isinstance (pa_cons (pv 0) (pa_cons (t_int T) pa_nil))) (pe_one (pe_not (pe_callB call_isi rfl T.f_isinstance boot_isinstance (pa_cons (pv 0) (pa_cons (t_bool T) pa_nil)))))))), ?_⟩
  · obtain ⟨i, rfl, _⟩ := h
    rfl
  · obtain ⟨i, rfl, k⟩ := h
    refine ⟨_, rfl, _, _, _, _, true, rfl, .ty "int", .base (.int i), kit_ty (by decide +kernel), ?_⟩
    refine ⟨_, rfl, ?_⟩
    refine ⟨_, rfl, _, _, _, _, false, rfl, .ty "bool", .base (.int i), kit_ty (by decide +kernel), ?_⟩
    exact ⟨_, rfl, k⟩
theorem kit_any2 {t : Value} {b : Bool} (h : listedT t = some b) : PySem.W.kitAny K t [.type "list", .type "tuple"] = some b := by
  unfold listedT at h
  by_cases h1 : t = .type "tuple" ∨ t = .type "list"
  · rw [if_pos h1] at h
    cases h
    rcases h1 with rfl | rfl
    · exact kitAny_cons (b := false) (kit_ty (by decide +kernel)) (fun _ => kitAny_cons (b := true) (kit_ty (by decide +kernel)) (fun z => nomatch z) (fun _ => rfl)) (fun z => nomatch z)
    · exact kitAny_cons (b := true) (kit_ty (by decide +kernel)) (fun z => nomatch z) (fun _ => rfl)
  · rw [if_neg h1] at h
    by_cases h2 : t = .type "str" ∨ t = .type "NoneType" ∨ t = .type "int" ∨ t = .type "bool" ∨ t = .type "dict"
    · rw [if_pos h2] at h
      cases h
      rcases h2 with rfl | rfl | rfl | rfl | rfl <;>
        exact kitAny_cons (b := false) (kit_ty (by decide +kernel)) (fun _ => kitAny_cons (b := false) (kit_ty (by decide +kernel)) (fun _ => kitAny_nil) (fun z => nomatch z)) (fun z => nomatch z)
    · rw [if_neg h2] at h
      cases h
theorem sc_l_deep : FnScope ["_law_thing", "_law_part"] ["_law_thing"] (defScope s_l_deep) := ⟨rfl, rfl, rfl, by decide +kernel, rfl, by decide +kernel, by decide +kernel⟩
theorem ok_l_deep (T : Txt K mg) : ∀ n : Nat, DefOk P w K mg base (L2.CX P w) (n + 1) "_law_deep" ["_law_thing"] (spDeep n)
  | 0 => by
    refine def_mk T.fn_l_deep T.g_l_deep sc_l_deep (fun _ _ _ _ _ _ us hl => match us, hl with | [_], _ => rfl) (fun vs H Q E h => ?_) fun cdv A outer s H vs Q E hr h => ⟨_, (pss_cons (ps_if (pt_val (pe_callB call_isiT rfl T.f_isinstance boot_isinstance (pa_cons (pv 0) (pa_cons (pe_tup (pa_cons (t_list T) (pa_cons (t_tuple T) pa_nil))) pa_nil))))
      (pss_one (ps_ret (pe_callTy call_tuple_of rfl T.f_tuple boot_tuple (pa_cons (pe_lc (own := [("_law_part", 1)]) (g := gName 1) (tt := tYes) rfl sc_l_deep.nd (pi_list (pv 0)) (blkOk_by (N := ["_law_thing", "_law_part"]) (sc := defScope s_l_deep) (by decide +kernel)) (fun _ _ _ _ _ => (pg_name (i := 1) sc_l_deep.nd rfl (.inl rfl))) (fun _ _ _ _ _ => pts_nil) (fun _ _ _ _ _ => (pe_never _))) pa_nil))))
      pss_nil)
    (pss_one (ps_ret (pv 0)))), ?_⟩
    · obtain ⟨v, d, rfl, _⟩ := h
      rfl
    · obtain ⟨v, d, rfl, _, hv, k⟩ := h
      obtain rfl : v = .int d := hv
      refine ⟨_, rfl, by show 2 ≤ sizeLine; decide, fun p hp => ?_⟩
      have sm := same_new (o := .tup [.ty "list", .ty "tuple"]) hp
      refine ⟨.int d, p, _, .type "int", _, false, rfl, upd_same, .cons (.ty "list") (.cons (.ty "tuple") .nil), .base (.int d), kit_any2 rfl, ?_⟩
      refine ⟨_, rfl, iteF ?_⟩
      exact ⟨_, rfl, k _ _ sm rfl⟩
  | n + 1 => by
    have ih := ok_l_deep T n
    refine def_mk T.fn_l_deep T.g_l_deep sc_l_deep (fun _ _ _ _ _ _ us hl => match us, hl with | [_], _ => rfl) (fun vs H Q E h => ?_) fun cdv A outer s H vs Q E hr h => ⟨_, (pss_cons (ps_if (pt_val (pe_callB call_isiT rfl T.f_isinstance boot_isinstance (pa_cons (pv 0) (pa_cons (pe_tup (pa_cons (t_list T) (pa_cons (t_tuple T) pa_nil))) pa_nil))))
      (pss_one (ps_ret (pe_callTy call_tuple_of rfl T.f_tuple boot_tuple (pa_cons (pe_lc (own := [("_law_part", 1)]) (g := gName 1) (tt := tYes) rfl sc_l_deep.nd (pi_list (pv 0)) (blkOk_by (N := ["_law_thing", "_law_part"]) (sc := defScope s_l_deep) (by decide +kernel)) (fun _ _ _ _ _ => (pg_name (i := 1) sc_l_deep.nd rfl (.inl rfl))) (fun _ _ _ _ _ => pts_nil) (fun _ _ _ _ _ => (pe_dn ih (hr.mono (by omega)) (pa_cons (pv 1) pa_nil)))) pa_nil))))
      pss_nil)
    (pss_one (ps_ret (pv 0)))), ?_⟩
    · obtain ⟨v, d, rfl, _⟩ := h
      rfl
    · obtain ⟨v, d, rfl, ⟨z1, z2⟩, ⟨p0, xs, rfl, hp0, pr⟩, k⟩ := h
      refine ⟨_, rfl, by show 2 ≤ sizeLine; decide, fun p hp => ?_⟩
      have s1 := same_new (o := .tup [.ty "list", .ty "tuple"]) hp
      refine ⟨.ref p0, p, _, .type "list", _, true, rfl, upd_same, .cons (.ty "list") (.cons (.ty "tuple") .nil), .base (.lst (s1 _ _ hp0)), kit_any2 rfl, ?_⟩
      refine ⟨_, rfl, iteT ?_⟩
      refine ⟨_, rfl, p0, rfl, ⟨_, SqL.of (s1 _ _ hp0)⟩, fun D hD => ?_⟩
      have sD := same_new (o := .lst []) hD
      refine lc_list (xs := xs) (fun i H' => Same (upd H p (.tup [.ty "list", .ty "tuple"])) H' ∧ ∃ ys, H' D = some (.lst ys) ∧ Paired (TD H' n) (List.take i (show List (Dn n) from d)) ys) ⟨sD, [], upd_same, .nil⟩ (fun i H' _ ⟨s2, _⟩ => SqL.of (s2 _ _ (s1 _ _ hp0))) ?_ ?_
      · rintro i x H' hi ⟨s2, ys, hys, py⟩
        obtain ⟨a, ha, lv⟩ := paired_at pr hi
        refine ⟨rfl, ?_⟩
        refine ⟨_, rfl, x, a, rfl, z2 a (List.mem_of_getElem? ha), LD.same (s1.trans s2) lv, fun v' H2 s3 td => ?_⟩
        refine map_turn hD ha s2 hys py s3 td ?_
        have e1 := py.length
        have e2 := List.length_take_le i (show List (Dn n) from d)
        have e3 : i < xs.length := (List.getElem?_eq_some_iff.mp hi).1
        have e4 := pr.length
        rw [sizeLine_eq]
        have z3 : List.length (α := Dn n) d ≤ 1000 := z1
        omega
      · rintro H' ⟨s2, ys, hys, py⟩
        rw [List.take_of_length_le (by rw [pr.length]; exact Nat.le_refl _)] at py
        refine ⟨D, ys, rfl, .inl ⟨SqL.of hys, fun q hq => ?_⟩⟩
        have s3 := same_new (o := .tup ys) hq
        exact k _ _ ((s1.trans s2).trans s3) ⟨q, ys, rfl, upd_same, Paired.mapP py fun _ _ h => TD.same s3 h⟩
/-! ### _law_exact -/
def spExact (n : Nat) : Sp := fun vs H Q _ => ∃ (v1 v2 : V) (d : Dn n), vs = [v1, v2] ∧ TD H n d v1 ∧ TD H n d v2 ∧ ∀ H', Same H H' → Q (.bl true) H'
def spExactS : Sp := fun vs H Q _ => ∃ s : Str, vs = [.str s, .str s] ∧ Q (.bl true) H
theorem sc_l_exact : FnScope ["_law_told", "_law_due", "_law_one", "_law_other"] ["_law_told", "_law_due"] (defScope s_l_exact) := ⟨rfl, rfl, rfl, by decide +kernel, rfl, by decide +kernel, by decide +kernel⟩
theorem ok_l_exact_s (T : Txt K mg) : DefOk P w K mg base (L2.CX P w) 2 "_law_exact" ["_law_told", "_law_due"] spExactS := by
  refine def_mk T.fn_l_exact T.g_l_exact sc_l_exact (fun _ _ _ _ _ _ us hl => match us, hl with | [_, _], _ => rfl) (fun vs H Q E h => ?_) fun cdv A outer s H vs Q E hr h => ⟨_, (pss_cons (ps_if (pt_val (pe_callB call_isi rfl T.f_isinstance boot_isinstance (pa_cons (pv 1) (pa_cons (t_tuple T) pa_nil))))
      (pss_cons (ps_if (PW.pt (pw_or (pt_not (pt_val (pe_callB call_isi rfl T.f_isinstance boot_isinstance (pa_cons (pv 0) (pa_cons (t_tuple T) pa_nil))))) (pw_or1 (pt_cmpR op_ne (pe_callB call_len_seq rfl T.f_len boot_len (pa_cons (pv 0) pa_nil)) (pe_callB call_len_seq rfl T.f_len boot_len (pa_cons (pv 1) pa_nil)) (nomark _)))))
        (pss_one (ps_ret pe_bl))
        pss_nil)
      (pss_cons (ps_for (passes_of rfl) rfl (pi_zipA rfl T.f_zip (pa_cons (pv 0) (pa_cons (pv 1) pa_nil))) (pg_tup rfl (pgs_cons (pg_name (i := 2) sc_l_exact.nd rfl (.inl rfl)) (pgs_cons (pg_name (i := 3) sc_l_exact.nd rfl (.inl rfl)) pgs_nil)))
        (pss_one (ps_if (pt_not (pt_val (pe_never _)))
          (pss_one (ps_ret pe_bl))
          pss_nil)))
      (pss_one (ps_ret pe_bl))))
      pss_nil)
    (pss_cons (ps_if (pt_cmpR op_isN (pv 1) pe_non (nomark _))
      (pss_one (ps_ret (pe_cmpR op_isN (pv 0) pe_non (nomark _))))
      pss_nil)
    (pss_cons (ps_if (pt_cmpR op_isB (pv 1) pe_bl (nomark _))
      (pss_one (ps_ret (pe_cmpR op_isB (pv 0) pe_bl (nomark _))))
      pss_nil)
    (pss_cons (ps_if (pt_cmpR op_isB (pv 1) pe_bl (nomark _))
      (pss_one (ps_ret (pe_cmpR op_isB (pv 0) pe_bl (nomark _))))
      pss_nil)
    (pss_cons (ps_if (pt_val (pe_callB call_isi rfl T.f_isinstance boot_isinstance (pa_cons (pv 1) (pa_cons (t_str T) pa_nil))))
      (pss_one (ps_ret (pe_and (pe_callB call_isi rfl T.f_isinstance boot_isinstance (pa_cons (pv 0) (pa_cons (t_str T) pa_nil))) (pe_one (pe_cmpR op_eq (pv 0) (pv 1) (nomark _))))))
      pss_nil)
    (pss_one (ps_ret (pe_and (pe_dn (ok_l_is_int T) (hr.mono (by decide)) (pa_cons (pv 0) pa_nil)) (pe_one (pe_cmpR op_eq (pv 0) (pv 1) (nomark _))))))))))), ?_⟩
  · obtain ⟨z, rfl, _⟩ := h
    rfl
  · obtain ⟨z, rfl, k⟩ := h
    refine ⟨_, rfl, .str z, _, _, _, false, rfl, .ty "tuple", .base (.str z), kit_ty (by decide +kernel), ?_⟩
    refine ⟨_, rfl, iteF ⟨_, rfl, rfl, _, rfl, itF rfl ⟨_, rfl, ⟨_, rfl⟩, rfl, _, rfl, iteF ⟨_, rfl, ⟨_, rfl⟩, rfl, _, rfl, iteF ?_⟩⟩⟩⟩
    refine ⟨_, rfl, .str z, _, _, _, true, rfl, .ty "str", .base (.str z), kit_ty (by decide +kernel), ?_⟩
    refine ⟨_, rfl, iteT ?_⟩
    refine ⟨_, rfl, .str z, _, _, _, true, rfl, .ty "str", .base (.str z), kit_ty (by decide +kernel), ?_⟩
    refine ⟨_, rfl, iteT ⟨_, rfl, _, rfl, rfl, ?_⟩⟩
    have e : decide (V.str z = V.str z) = true := by simp
    show Q (.bl (decide (V.str z = V.str z))) H
    rw [e]
    exact k
theorem ok_l_exact (T : Txt K mg) : ∀ n : Nat, DefOk P w K mg base (L2.CX P w) (n + 2) "_law_exact" ["_law_told", "_law_due"] (spExact n)
  | 0 => by
    refine def_mk T.fn_l_exact T.g_l_exact sc_l_exact (fun _ _ _ _ _ _ us hl => match us, hl with | [_, _], _ => rfl) (fun vs H Q E h => ?_) fun cdv A outer s H vs Q E hr h => ⟨_, (pss_cons (ps_if (pt_val (pe_callB call_isi rfl T.f_isinstance boot_isinstance (pa_cons (pv 1) (pa_cons (t_tuple T) pa_nil))))
      (pss_cons (ps_if (PW.pt (pw_or (pt_not (pt_val (pe_callB call_isi rfl T.f_isinstance boot_isinstance (pa_cons (pv 0) (pa_cons (t_tuple T) pa_nil))))) (pw_or1 (pt_cmpR op_ne (pe_callB call_len_seq rfl T.f_len boot_len (pa_cons (pv 0) pa_nil)) (pe_callB call_len_seq rfl T.f_len boot_len (pa_cons (pv 1) pa_nil)) (nomark _)))))
        (pss_one (ps_ret pe_bl))
        pss_nil)
      (pss_cons (ps_for (passes_of rfl) rfl (pi_zipA rfl T.f_zip (pa_cons (pv 0) (pa_cons (pv 1) pa_nil))) (pg_tup rfl (pgs_cons (pg_name (i := 2) sc_l_exact.nd rfl (.inl rfl)) (pgs_cons (pg_name (i := 3) sc_l_exact.nd rfl (.inl rfl)) pgs_nil)))
        (pss_one (ps_if (pt_not (pt_val (pe_never _)))
          (pss_one (ps_ret pe_bl))
          pss_nil)))
      (pss_one (ps_ret pe_bl))))
      pss_nil)
    (pss_cons (ps_if (pt_cmpR op_isN (pv 1) pe_non (nomark _))
      (pss_one (ps_ret (pe_cmpR op_isN (pv 0) pe_non (nomark _))))
      pss_nil)
    (pss_cons (ps_if (pt_cmpR op_isB (pv 1) pe_bl (nomark _))
      (pss_one (ps_ret (pe_cmpR op_isB (pv 0) pe_bl (nomark _))))
      pss_nil)
    (pss_cons (ps_if (pt_cmpR op_isB (pv 1) pe_bl (nomark _))
      (pss_one (ps_ret (pe_cmpR op_isB (pv 0) pe_bl (nomark _))))
      pss_nil)
    (pss_cons (ps_if (pt_val (pe_callB call_isi rfl T.f_isinstance boot_isinstance (pa_cons (pv 1) (pa_cons (t_str T) pa_nil))))
      (pss_one (ps_ret (pe_and (pe_callB call_isi rfl T.f_isinstance boot_isinstance (pa_cons (pv 0) (pa_cons (t_str T) pa_nil))) (pe_one (pe_cmpR op_eq (pv 0) (pv 1) (nomark _))))))
      pss_nil)
    (pss_one (ps_ret (pe_and (pe_dn (ok_l_is_int T) (hr.mono (by decide)) (pa_cons (pv 0) pa_nil)) (pe_one (pe_cmpR op_eq (pv 0) (pv 1) (nomark _))))))))))), ?_⟩
    · obtain ⟨v1, v2, d, rfl, _⟩ := h
      rfl
    · obtain ⟨v1, v2, d, rfl, h1, h2, k⟩ := h
      obtain rfl : v1 = .int d := h1
      obtain rfl : v2 = .int d := h2
      refine ⟨_, rfl, .int d, _, _, _, false, rfl, .ty "tuple", .base (.int d), kit_ty (by decide +kernel), ?_⟩
      refine ⟨_, rfl, iteF ⟨_, rfl, rfl, _, rfl, itF rfl ⟨_, rfl, ⟨_, rfl⟩, rfl, _, rfl, iteF ⟨_, rfl, ⟨_, rfl⟩, rfl, _, rfl, iteF ?_⟩⟩⟩⟩
      refine ⟨_, rfl, .int d, _, _, _, false, rfl, .ty "str", .base (.int d), kit_ty (by decide +kernel), ?_⟩
      refine ⟨_, rfl, iteF ?_⟩
      refine ⟨_, rfl, d, rfl, _, rfl, iteT ⟨_, rfl, _, rfl, rfl, ?_⟩⟩
      have e : decide (V.int d = V.int d) = true := by simp
      show Q (.bl (decide (V.int d = V.int d))) H
      rw [e]
      exact k H (Same.refl _)
  | n + 1 => by
    have ih := ok_l_exact T n
    refine def_mk T.fn_l_exact T.g_l_exact sc_l_exact (fun _ _ _ _ _ _ us hl => match us, hl with | [_, _], _ => rfl) (fun vs H Q E h => ?_) fun cdv A outer s H vs Q E hr h => ⟨_, (pss_cons (ps_if (pt_val (pe_callB call_isi rfl T.f_isinstance boot_isinstance (pa_cons (pv 1) (pa_cons (t_tuple T) pa_nil))))
      (pss_cons (ps_if (PW.pt (pw_or (pt_not (pt_val (pe_callB call_isi rfl T.f_isinstance boot_isinstance (pa_cons (pv 0) (pa_cons (t_tuple T) pa_nil))))) (pw_or1 (pt_cmpR op_ne (pe_callB call_len_seq rfl T.f_len boot_len (pa_cons (pv 0) pa_nil)) (pe_callB call_len_seq rfl T.f_len boot_len (pa_cons (pv 1) pa_nil)) (nomark _)))))
        (pss_one (ps_ret pe_bl))
        pss_nil)
      (pss_cons (ps_for (passes_of rfl) rfl (pi_zipA rfl T.f_zip (pa_cons (pv 0) (pa_cons (pv 1) pa_nil))) (pg_tup rfl (pgs_cons (pg_name (i := 2) sc_l_exact.nd rfl (.inl rfl)) (pgs_cons (pg_name (i := 3) sc_l_exact.nd rfl (.inl rfl)) pgs_nil)))
        (pss_one (ps_if (pt_not (pt_val (pe_dn ih (hr.mono (by omega)) (pa_cons (pv 2) (pa_cons (pv 3) pa_nil)))))
          (pss_one (ps_ret pe_bl))
          pss_nil)))
      (pss_one (ps_ret pe_bl))))
      pss_nil)
    (pss_cons (ps_if (pt_cmpR op_isN (pv 1) pe_non (nomark _))
      (pss_one (ps_ret (pe_cmpR op_isN (pv 0) pe_non (nomark _))))
      pss_nil)
    (pss_cons (ps_if (pt_cmpR op_isB (pv 1) pe_bl (nomark _))
      (pss_one (ps_ret (pe_cmpR op_isB (pv 0) pe_bl (nomark _))))
      pss_nil)
    (pss_cons (ps_if (pt_cmpR op_isB (pv 1) pe_bl (nomark _))
      (pss_one (ps_ret (pe_cmpR op_isB (pv 0) pe_bl (nomark _))))
      pss_nil)
    (pss_cons (ps_if (pt_val (pe_callB call_isi rfl T.f_isinstance boot_isinstance (pa_cons (pv 1) (pa_cons (t_str T) pa_nil))))
      (pss_one (ps_ret (pe_and (pe_callB call_isi rfl T.f_isinstance boot_isinstance (pa_cons (pv 0) (pa_cons (t_str T) pa_nil))) (pe_one (pe_cmpR op_eq (pv 0) (pv 1) (nomark _))))))
      pss_nil)
    (pss_one (ps_ret (pe_and (pe_dn (ok_l_is_int T) (hr.mono (by omega)) (pa_cons (pv 0) pa_nil)) (pe_one (pe_cmpR op_eq (pv 0) (pv 1) (nomark _))))))))))), ?_⟩
    · obtain ⟨v1, v2, d, rfl, _⟩ := h
      rfl
    · obtain ⟨v1, v2, d, rfl, ⟨p1, xs, rfl, hp1, pr1⟩, ⟨p2, ys, rfl, hp2, pr2⟩, k⟩ := h
      have l1 := pr1.length
      have l2 := pr2.length
      refine ⟨_, rfl, .ref p2, _, _, _, true, rfl, .ty "tuple", .base (.tup hp2), kit_ty (by decide +kernel), ?_⟩
      refine ⟨_, rfl, iteT ?_⟩
      refine ⟨_, rfl, .ref p1, _, _, _, true, rfl, .ty "tuple", .base (.tup hp1), kit_ty (by decide +kernel), ?_⟩
      refine ⟨_, rfl, iteF ?_⟩
      refine ⟨_, rfl, p1, xs, rfl, .inr (SqT.of hp1), _, rfl, p2, ys, rfl, .inr (SqT.of hp2), rfl, _, rfl, itF ?_ ?_⟩
      · have : xs.length = ys.length := by omega
        simp [this]
      refine ⟨_, rfl, _, rfl, p1, p2, xs, ys, rfl, .inr ⟨SqT.of hp1, SqT.of hp2, ?_⟩⟩
      refine for_zipT (by omega) (fun i σ H' => (∃ v2 v3, σ = [some (.ref p1), some (.ref p2), v2, v3]) ∧ Same H H') ⟨⟨none, none, rfl⟩, Same.refl _⟩ (fun i σ H' h => ⟨SqT.of (h.2 _ _ hp1), SqT.of (h.2 _ _ hp2)⟩) ?_ ?_
      · rintro i x y T' σ H' hx hy ⟨⟨v2, v3, rfl⟩, s1⟩ hT
        obtain ⟨a, ha, ta⟩ := paired_at pr1 hx
        obtain ⟨b, hb, tb⟩ := paired_at pr2 hy
        rw [ha] at hb
        cases hb
        have s2 := s1.trans (same_new (o := .tup [x, y]) hT)
        refine ⟨T', _, rfl, SqT.of upd_same, rfl, _, _, rfl, _, _, rfl, rfl, ?_⟩
        refine ⟨_, rfl, _, rfl, x, y, a, rfl, TD.same s2 ta, TD.same s2 tb, fun H2 s3 => ?_⟩
        exact ⟨_, rfl, iteF ⟨⟨_, _, rfl⟩, s2.trans s3⟩⟩
      · rintro σ H' ⟨_, s1⟩
        exact k H' s1
/-! ### _law_store_is -/
def spStoreIs (K : PySem.W.Frag) : Sp := fun vs H Q _ => ∃ (p q : Addr) (vb vc ve : V) (s : Str) (b : List Int) (c : List (List (List Int))) (e : List Int), vs = [.ref p, .ref q] ∧ StoreAt K H p s b c e ∧ H q = some (.lst [.str s, vb, vc, ve]) ∧ LD H 1 b vb ∧ LD H 3 c vc ∧ LD H 1 e ve ∧
  Dsz 1 b ∧ Dsz 3 c ∧ Dsz 1 e ∧ ∀ H', Same H H' → Q (.bl true) H'
theorem atI_i {α : Type} {xs : List α} (k : Nat) {v : α} (h : xs[k]? = some v) : atI xs (k : Int) = some v := atI_nat h
theorem sc_l_store_is : FnScope ["_law_store", "_law_world_here"] ["_law_store", "_law_world_here"] (defScope s_l_store_is) := ⟨rfl, rfl, rfl, by decide +kernel, rfl, by decide +kernel, by decide +kernel⟩
theorem ok_l_store_is (T : Txt K mg) : DefOk P w K mg base (L2.CX P w) 6 "_law_store_is" ["_law_store", "_law_world_here"] (spStoreIs K) := by
  refine def_mk T.fn_l_store_is T.g_l_store_is sc_l_store_is (fun _ _ _ _ _ _ us hl => match us, hl with | [_, _], _ => rfl) (fun vs H Q E h => ?_) fun cdv A outer s H vs Q E hr h => ⟨_,
    (pss_cons (ps_if (PW.pt (pw_or (pt_not (pt_val (pe_dn (ok_l_exact_s T) (hr.mono (by decide)) (pa_cons (pe_fld (pv 0) rfl) (pa_cons (pe_ix ix_list (pv 1) pe_int (fun _ _ => rfl)) pa_nil))))) (pw_or1 (pt_not (pt_val (pe_dn (ok_l_exact T 1) (hr.mono (by decide)) (pa_cons (pe_fld (pv 0) rfl) (pa_cons (pe_dn (ok_l_deep T 1) (hr.mono (by decide)) (pa_cons (pe_ix ix_list (pv 1) pe_int (fun _ _ => rfl)) pa_nil)) pa_nil))))))))
      (pss_one (ps_ret pe_bl))
      pss_nil)
    (pss_one (ps_ret (pe_and (pe_dn (ok_l_exact T 3) (hr.mono (by decide)) (pa_cons (pe_fld (pv 0) rfl) (pa_cons (pe_dn (ok_l_deep T 3) (hr.mono (by decide)) (pa_cons (pe_ix ix_list (pv 1) pe_int (fun _ _ => rfl)) pa_nil)) pa_nil))) (pe_one (pe_dn (ok_l_exact T 1) (hr.mono (by decide)) (pa_cons (pe_fld (pv 0) rfl) (pa_cons (pe_dn (ok_l_deep T 1) (hr.mono (by decide)) (pa_cons (pe_ix ix_list (pv 1) pe_int (fun _ _ => rfl)) pa_nil)) pa_nil)))))))), ?_⟩
  · obtain ⟨p, q, vb, vc, ve, z, b, c, e, rfl, _⟩ := h
    rfl
  · obtain ⟨p, q, vb, vc, ve, z, b, c, e, rfl, ⟨dx, x1, x2, x3, hp, t1, t2, t3⟩, hq, lb, lc, le, zb, zc, ze, k⟩ := h
    refine ⟨_, rfl, p, _, dx, _, _, rfl, hp, T.cls, T.no_asks, rfl, _, rfl, q, _, _, _, rfl, rfl, SqL.of hq, atI_nat (j := 0) rfl, z, rfl, ?_⟩
    refine ⟨_, rfl, iteF ?_⟩
    refine ⟨_, rfl, p, _, dx, _, _, rfl, hp, T.cls, T.no_begins, rfl, _, rfl, q, _, _, _, rfl, rfl, SqL.of hq, atI_nat (j := 1) rfl, vb, b, rfl, zb, lb, fun v1 H1 s1 td1 => ?_⟩
    refine ⟨x1, v1, b, rfl, TD.same s1 t1, td1, fun H2 s2 => ?_⟩
    have g2 := s1.trans s2
    refine ⟨_, rfl, iteF ?_⟩
    refine ⟨_, rfl, p, _, dx, _, _, rfl, g2 _ _ hp, T.cls, T.no_costs, rfl, _, rfl, q, _, _, _, rfl, rfl, SqL.of (g2 _ _ hq), atI_nat (j := 2) rfl, vc, c, rfl, zc, LD.same g2 lc, fun v2 H3 s3 td2 => ?_⟩
    have g3 := g2.trans s3
    refine ⟨x2, v2, c, rfl, TD.same g3 t2, td2, fun H4 s4 => ?_⟩
    have g4 := g3.trans s4
    refine ⟨_, rfl, iteT ?_⟩
    refine ⟨_, rfl, p, _, dx, _, _, rfl, g4 _ _ hp, T.cls, T.no_ends, rfl, _, rfl, q, _, _, _, rfl, rfl, SqL.of (g4 _ _ hq), atI_nat (j := 3) rfl, ve, e, rfl, ze, LD.same g4 le, fun v3 H5 s5 td3 => ?_⟩
    have g5 := g4.trans s5
    exact ⟨x3, v3, e, rfl, TD.same g5 t3, td3, fun H6 s6 => k H6 (g5.trans s6)⟩
end Aw
set_option maxHeartbeats 4000000
/-! _law_read. -/
namespace Aw
open PySem PySem.Spec PyProof.Rows L2
theorem pss_imp {X : Cx} {b : List Stmt} {t t' : TS} (h : PSs X b t) (i : ∀ D σ H, t' D σ H → t D σ H) : PSs X b t' := ⟨fun pins s σ H D I q => h.run pins s σ H D I (i D σ H q)⟩
theorem pss_case {X : Cx} {b : List Stmt} {t : Addr → TS} {p : Prop} {d : Option Addr} (h : ∀ dd, p → d = some dd → PSs X b (t dd)) : PSs X b (fun D σ H => ∃ dd, p ∧ d = some dd ∧ t dd D σ H) := ⟨fun pins s σ H D I q => by
  obtain ⟨dd, hp, hd, q⟩ := q
  exact (h dd hp hd).run pins s σ H D I q⟩
theorem call_isXe {X : Cx} {a d : Addr} {oe : Obj} {pn : List (Addr × Obj)} (T : Txt X.K X.mg) (hz : Zc (.ref (He.ga X.K "BadLine")) (some d) oe) (hf : ∃ vs, oe.data = .fields vs) :
    CallR (X.suite a ((a, oe) :: pn)) (.builtin "isinstance") (fun xs H Q => ∃ fs, H d = some (.xd fs) ∧ rIsX X.K (He.ga X.K "BadLine") a xs H Q) := by
  intro pins s σ H xs us Q I r h
  obtain ⟨fs, h⟩ := h
  exact call_isX (fs := fs) T hz hf pins s σ H xs us Q I r h
theorem boot_VE : bootBuiltins "ValueError" = some (.type "ValueError") := by decide +kernel
variable {P : Program} {w : World} {K : PySem.W.Frag} {mg : Str → Option Value} {base : Heap}
def MonoSp (sp : Sp) : Prop := ∀ vs H Q Q' E E', (∀ v H, Q v H → Q' v H) → (∀ c d H, E c d H → E' c d H) → sp vs H Q E → sp vs H Q' E'
theorem mono_read : MonoSp (spRead K) := by
  rintro vs H Q Q' E E' hQ hE ⟨l, lns, rfl, hL, hS, k1, k2⟩
  exact ⟨l, lns, rfl, hL, hS, fun i j e d H' a b c => hE _ _ _ (k1 i j e d H' a b c), fun s b c e q p H' sm st => hQ _ _ (k2 s b c e q p H' sm st)⟩
theorem mono_readOdd : MonoSp (spReadOdd K) := by
  rintro vs H Q Q' E E' hQ hE ⟨v, t, rfl, ty, e, k⟩
  exact ⟨v, t, rfl, ty, e, fun d H' a b c => hE _ _ _ (k d H' a b c)⟩
def okEnd (Q : VK) : VK := fun v H' => ∀ p, H' p = none → Q (.ref p) (upd H' p (.tup [.str "good", v]))
def badEnd (K : PySem.W.Frag) (Q : VK) : XK := fun cls d H' => ∃ (dd : Addr) (i j : Int), cls = .ref (He.ga K "BadLine") ∧ d = some dd ∧ H' dd = some (.xd [(("word" : Str), V.int j), (("line" : Str), V.int i)]) ∧ ∀ p, H' p = none → Q (.ref p) (upd H' p (.tup [.str "bad", .int i, .int j]))
def spReadBy (K : PySem.W.Frag) (sp : Sp) : Sp := fun vs H Q _ => ∃ v, vs = [v] ∧ sp [v] H (okEnd Q) (badEnd K Q)
/-- the suite, read -/
def tRd (dd a : Addr) : TS := fun D σ H => ∃ (i j : Int) (v0 v1 : Option V), H dd = some (.xd [(("word" : Str), V.int j), (("line" : Str), V.int i)]) ∧ σ = [v0, v1, some (.ref a)] ∧ ∀ p, H p = none → D.rt (.ref p) (upd H p (.tup [.str "bad", .int i, .int j]))
theorem sc_l_read : FnScope ["_law_lines_here", "_law_back", "error"] ["_law_lines_here"] (defScope s_l_read) := ⟨rfl, rfl, rfl, by decide +kernel, rfl, by decide +kernel, by decide +kernel⟩
theorem ok_l_read (T : Txt K mg) {sp : Sp} (hm : MonoSp sp) (D0 : DefOk P w K mg base (L2.CX P w) 10 "read_store" ["lines"] sp) : DefOk P w K mg base (L2.CX P w) 12 "_law_read" ["_law_lines_here"] (spReadBy K sp) := by
  refine def_mk T.fn_l_read T.g_l_read sc_l_read (fun _ _ _ _ _ _ us hl => match us, hl with | [_], _ => rfl) (fun vs H Q E h => ?_) fun cdv A outer s H vs Q E hr h => ⟨_,
    (pss_cons (ps_try_as (i := 2) (tb := fun W => tAsg (tCallS sp (WE W) (tCons (tVar 0) tNil)) (gName 1)) (ts := fun a cls d D σ H => ∃ dd, (cls = .ref (He.ga K "BadLine")) ∧ d = some dd ∧ tRd dd a D σ H) (Wout := fun cls d _ H => E cls d H)
        rfl rfl sc_l_read.nd rfl rfl ⟨rfl, by decide, .inl T.g_BadLine⟩ (takes_of rfl rfl rfl rfl)
        (fun W pn xe tk _ => pss_one (ps_set (i := 1) sc_l_read.nd rfl (Or.inl rfl) (pe_dS D0 (hr.mono (by decide)) (fun σ => passAt tk σ) (pa_cons (pv 0) pa_nil))))
        (fun a oe cls d pn hz hf => pss_case fun dd hc hd => ?suite))
    (pss_one (ps_ret (pe_tup (pa_cons pe_str (pa_cons (pv 1) pa_nil)))))), ?_⟩
  · obtain ⟨v, rfl, _⟩ := h
    rfl
  case suite =>
    subst hc hd
    have Y := T.xs
    have XF := xfB_ok Y.2.2.2.2.2.2.2.2.2.1
    refine pss_imp
      (pss_cons (ps_if (PW.pt (pw_or (pt_not (pt_val (pe_callB (call_isXe T hz hf) rfl T.f_isinstance boot_isinstance (pa_cons (pv 2) (pa_cons (pe_glob (v := .ref (He.ga K "AfterError")) rfl T.g_AfterError rfl) pa_nil)))))
          (pw_or (pt_not (pt_val (pe_callB (call_isXe T hz hf) rfl T.f_isinstance boot_isinstance (pa_cons (pv 2) (pa_cons (pe_bltn (v := .ty "ValueError") rfl T.f_ValueError boot_VE rfl) pa_nil)))))
            (pw_or1 (pt_val (pe_callB (call_isXe T hz hf) rfl T.f_isinstance boot_isinstance (pa_cons (pv 2) (pa_cons (pe_glob (v := .ref (He.ga K "WrongThing")) rfl T.g_WrongThing rfl) pa_nil))))))))
        (pss_one (ps_ret (pe_tup (pa_cons pe_str pa_nil)))) pss_nil)
      (pss_cons (ps_if (PW.pt (pw_or (pt_not (pt_val (pe_callB call_isi rfl T.f_isinstance boot_isinstance (pa_cons (pe_xf XF T.noLine hz hf (pv 2)) (pa_cons (t_int T) pa_nil)))))
          (pw_or1 (pt_not (pt_val (pe_callB call_isi rfl T.f_isinstance boot_isinstance (pa_cons (pe_xf XF T.noWord hz hf (pv 2)) (pa_cons (t_int T) pa_nil))))))))
        (pss_one (ps_ret (pe_tup (pa_cons pe_str pa_nil)))) pss_nil)
      (pss_one (ps_ret (pe_tup (pa_cons pe_str (pa_cons (pe_xf XF T.noLine hz hf (pv 2)) (pa_cons (pe_xf XF T.noWord hz hf (pv 2)) pa_nil)))))))) ?_
    rintro D σ H ⟨i, j, v0, v1, hx, rfl, k⟩
    refine ⟨_, rfl, _, hx, .ref (He.ga K "AfterError"), _, true, rfl, fun _ h => h, Y.2.2.2.2.2.2.2.2.2.2.2.2.2.2.2.1, ?_⟩
    refine ⟨_, rfl, iteF ?_⟩
    refine ⟨_, rfl, _, hx, .ty "ValueError", _, true, rfl, fun _ h => h, Y.2.2.2.2.2.2.2.2.2.2.2.2.2.2.2.2.1, ?_⟩
    refine ⟨_, rfl, iteF ?_⟩
    refine ⟨_, rfl, _, hx, .ref (He.ga K "WrongThing"), _, false, rfl, fun _ h => h, Y.2.2.2.2.2.2.2.2.2.2.2.2.2.2.2.2.2.1, ?_⟩
    refine ⟨_, rfl, iteF ?_⟩
    refine ⟨_, rfl, rfl, rfl, dd, _, .int i, rfl, hx, rfl, .int i, _, _, _, true, rfl, .ty "int", .base (.int i), kit_ty (by decide +kernel), ?_⟩
    refine ⟨_, rfl, iteF ?_⟩
    refine ⟨_, rfl, rfl, rfl, dd, _, .int j, rfl, hx, rfl, .int j, _, _, _, true, rfl, .ty "int", .base (.int j), kit_ty (by decide +kernel), ?_⟩
    refine ⟨_, rfl, iteF ?_⟩
    exact ⟨_, rfl, rfl, rfl, dd, _, .int i, rfl, hx, rfl, _, rfl, rfl, rfl, dd, _, .int j, rfl, hx, rfl, by show 3 ≤ sizeLine; decide, k⟩
  · obtain ⟨v, rfl, h⟩ := h
    refine ⟨_, rfl, hm _ _ _ _ _ _ (fun u H' q => ?_) (fun c d H' q => ?_) h⟩
    · exact ⟨_, rfl, by show 2 ≤ sizeLine; decide, q⟩
    · obtain ⟨dd, i, j, rfl, rfl, hx, k⟩ := q
      exact ⟨true, T.exLL, fun _ a _ => ⟨dd, rfl, rfl, i, j, _, _, hx, rfl, k⟩, fun z => by cases z⟩
end Aw
set_option maxHeartbeats 4000000
/-! The wide lines; the law. -/
namespace Aw
open PySem PySem.Spec PyProof.Rows L2
/-! ### 'begins' and so many 0 -/
theorem foldl_app (c : Array Nat) : ∀ (k : Nat) (acc : Array Nat), ((List.replicate k c).foldl (· ++ ·) acc).toList = acc.toList ++ (List.replicate k c.toList).flatten
  | 0, acc => by simp
  | k + 1, acc => by
    rw [List.replicate_succ, List.foldl_cons, foldl_app c k, List.replicate_succ, List.flatten_cons, Array.toList_append, List.append_assoc]
theorem mul_tl {x : Str} {n : Int} (h : 2 ≤ n) (hx : x.length ≠ 0) : TL.tl (PySem.Txt.mul x n) = (List.replicate n.toNat (TL.tl x)).flatten := by
  unfold PySem.Txt.mul
  have h2 : ¬ (n == 1 || x.length == 0) = true := by
    rw [Bool.or_eq_true, beq_iff_eq, beq_iff_eq]
    intro q
    rcases q with q | q
    · omega
    · exact hx q
  rw [if_neg (by omega), if_neg h2]
  show ((List.replicate n.toNat x.cps).foldl (· ++ ·) #[]).toList = _
  rw [foldl_app]
  rfl
theorem spl_pre : ∀ (l acc rest : List Nat), (∀ c ∈ l, c ≠ 32) → TL.spl [32] 0 acc (l ++ rest) = TL.spl [32] 0 (acc ++ l) rest
  | [], acc, rest, _ => by rw [List.nil_append, List.append_nil]
  | c :: r, acc, rest, h => by
    rw [List.cons_append, TL.spl_miss (TL.pre_of_head [] _ (h c List.mem_cons_self)), spl_pre r _ _ fun x hx => h x (List.mem_cons_of_mem _ hx), List.append_assoc]
    rfl
theorem spl_rep : ∀ (k : Nat) (acc : List Nat), TL.spl [32] 0 acc (List.replicate k [32, 48]).flatten = acc :: List.replicate k [48]
  | 0, acc => by
    show TL.spl [32] 0 acc [] = _
    rw [TL.spl_nil]
    rfl
  | k + 1, acc => by
    rw [List.replicate_succ, List.flatten_cons]
    show TL.spl [32] 0 acc (32 :: 48 :: (List.replicate k [32, 48]).flatten) = _
    rw [TL.spl_hit rfl]
    show acc :: TL.spl [32] 0 [] (48 :: (List.replicate k [32, 48]).flatten) = _
    rw [TL.spl_miss rfl]
    show acc :: TL.spl [32] 0 [48] (List.replicate k [32, 48]).flatten = _
    rw [spl_rep k, List.replicate_succ]
abbrev WB (n : Int) : Str := SO "begins" ++ PySem.Txt.mul (SO " 0") n
theorem split_WB {n : Int} (h : 2 ≤ n) : PySem.Txt.split (WB n) SP = SO "begins" :: List.replicate n.toNat (SO "0") := by
  refine TL.map_tl_inj ?_
  have e := TL.split_spl (WB n) SP (by decide +kernel) (TL.kind_ok (by decide +kernel))
  have e2 : TL.tl SP = [32] := by decide +kernel
  have e3 : TL.tl (SO " 0") = [32, 48] := by decide +kernel
  have e4 : TL.tl (SO "begins") = [98, 101, 103, 105, 110, 115] := by decide +kernel
  have e5 : TL.tl (SO "0") = [48] := by decide +kernel
  have e6 : (SO " 0").length ≠ 0 := by decide +kernel
  rw [e, e2, TL.tl_append, mul_tl h e6, e3, spl_pre _ _ _ (by rw [e4]; decide), List.nil_append, spl_rep, List.map_cons, List.map_replicate, e5]
theorem price0 : isPrice (SO "0") = true := by decide +kernel
theorem prs_rep {cap : Nat} : ∀ (m k : Nat) (acc : List Int), acc.length ≤ cap → prs cap (List.replicate m (SO "0")) k acc = if acc.length + m ≤ cap then .ok (acc ++ List.replicate m (intOf (SO "0"))) else .error (k + (cap - acc.length))
  | 0, k, acc, h => by
    rw [if_pos (by omega)]
    show Except.ok acc = _
    rw [List.replicate_zero, List.append_nil]
  | m + 1, k, acc, h => by
    rw [List.replicate_succ, prs_cons]
    by_cases q : acc.length = cap
    · rw [if_pos (.inl q), if_neg (by omega)]
      have : k + (cap - acc.length) = k := by omega
      rw [this]
    · have n1 : ¬ (acc.length = cap ∨ isPrice (SO "0") = false) := fun z => z.elim q (fun y => by rw [price0] at y; cases y)
      have hl : (acc ++ [intOf (SO "0")]).length = acc.length + 1 := by rw [List.length_append, List.length_singleton]
      rw [if_neg n1, prs_rep m (k + 1) _ (by omega), hl]
      by_cases q2 : acc.length + (m + 1) ≤ cap
      · rw [if_pos q2, if_pos (by omega), List.append_assoc]
        rfl
      · rw [if_neg q2, if_neg (by omega)]
        have : k + 1 + (cap - (acc.length + 1)) = k + (cap - acc.length) := by omega
        rw [this]
abbrev LW (n : Int) : List Ln := [some (SO "store a"), some (WB n)]
theorem asks_LW (n : Int) : asksR (LW n) = .ok (SO "a") := by
  have e : (match asksR [some (SO "store a")] with | .ok a => decide (a = SO "a") | .error _ => false) = true := by decide +kernel
  have e2 : asksR (LW n) = asksR [some (SO "store a")] := rfl
  rw [e2]
  cases q : asksR [some (SO "store a")] with
  | error x => rw [q] at e; cases e
  | ok a =>
    rw [q] at e
    rw [of_decide_eq_true e]
theorem line_LW {n : Int} (h : 2 ≤ n) : lineR (LW n) 1 [SO "begins"] 1000 1 = match prs 1000 (List.replicate n.toNat (SO "0")) 1 [] with
    | .error k => .error (1, k)
    | .ok ns => if ns.length < 1 then .error (1, n.toNat + 1) else .ok ns := by
  unfold lineR headsR
  have e : wordsOf (LW n) 1 = some (SO "begins" :: List.replicate n.toNat (SO "0")) := by
    show some (PySem.Txt.split (WB n) SP) = _
    rw [split_WB h]
  rw [e]
  show (match (match (if SO "begins" = SO "begins" then hb (List.replicate n.toNat (SO "0")) [] 1 else some 0) with | some k => (Except.error (1, k) : Res (List Str)) | none => .ok (SO "begins" :: List.replicate n.toNat (SO "0"))) with | .error e => _ | .ok ws => _) = _
  rw [if_pos rfl]
  have e2 : hb (List.replicate n.toNat (SO "0")) [] 1 = none := by cases List.replicate n.toNat (SO "0") <;> rfl
  rw [e2]
  show (match prs 1000 (List.replicate n.toNat (SO "0")) 1 [] with | .error k => (Except.error (1, k) : Res (List Int)) | .ok ns => if ns.length < 1 then .error (1, (SO "begins" :: List.replicate n.toNat (SO "0")).length) else .ok ns) = _
  rw [List.length_cons, List.length_replicate]
theorem line_N {N : Nat} (h : 2 ≤ N) : lineR (LW (N : Int)) 1 [SO "begins"] 1000 1 = if N ≤ 1000 then .ok (List.replicate N (intOf (SO "0"))) else .error (1, 1001) := by
  rw [line_LW (by omega), Int.toNat_natCast, prs_rep N 1 [] (Nat.zero_le _)]
  by_cases q : N ≤ 1000
  · rw [if_pos (show ([] : List Int).length + N ≤ 1000 by rw [List.length_nil]; omega), if_pos q]
    dsimp only
    rw [List.nil_append, List.length_replicate, if_neg (by omega)]
  · rw [if_neg (show ¬ ([] : List Int).length + N ≤ 1000 by rw [List.length_nil]; omega), if_neg q]
    dsimp only
    rw [List.length_nil]
theorem costs_N {N M : Nat} (h : 1 ≤ M) : costsR (LW (N : Int)) M (SO "a") = .error (2, 0) := by
  have l1 : (SO "a").length = 1 := by decide +kernel
  obtain ⟨m, rfl⟩ : ∃ m, M = m + 1 := ⟨M - 1, by omega⟩
  unfold costsR
  rw [l1, runE_succ]
  have et : tableR (LW (N : Int)) (m + 1) (2 + 0 * (m + 1)) ((SO "a").cps.toList.getD 0 0) = .error (2, 0) := by
    rw [Nat.zero_mul]
    unfold tableR
    rw [runE_succ]
    rfl
  rw [et]
theorem read_N {N : Nat} (h : 2 ≤ N) : readR (LW (N : Int)) = if N ≤ 1000 then .error (2, 0) else .error (1, 1001) := by
  unfold readR
  rw [asks_LW]
  dsimp only
  rw [line_N h]
  by_cases q : N ≤ 1000
  · rw [if_pos q, if_pos q]
    dsimp only
    rw [List.length_replicate, costs_N (by omega)]
  · rw [if_neg q, if_neg q]
/-! ### what was read is no longer than 1,000 -/
theorem readR_sz {lns : List Ln} {s : Str} {b : List Int} {c : List (List (List Int))} {e : List Int} (h : readR lns = .ok (s, b, c, e)) : Dsz 1 b ∧ Dsz 3 c ∧ Dsz 1 e := by
  unfold readR at h
  cases q1 : asksR lns with
  | error x => rw [q1] at h; cases h
  | ok a =>
    rw [q1] at h
    dsimp only at h
    cases q2 : lineR lns 1 [PySem.Str.ofString "begins"] 1000 1 with
    | error x => rw [q2] at h; cases h
    | ok b' =>
      rw [q2] at h
      dsimp only at h
      cases q3 : costsR lns b'.length a with
      | error x => rw [q3] at h; cases h
      | ok c' =>
        rw [q3] at h
        dsimp only at h
        cases q4 : lineR lns (2 + a.length * b'.length) [PySem.Str.ofString "ends"] b'.length b'.length with
        | error x => rw [q4] at h; cases h
        | ok e' =>
          rw [q4] at h
          dsimp only at h
          split at h
          · cases h
          · cases h
            obtain ⟨_, _, za⟩ := asksR_ok q1
            obtain ⟨_, zb⟩ := lineR_len q2
            obtain ⟨_, ze⟩ := lineR_len q4
            obtain ⟨c1, c2⟩ := runE_ok q3
            refine ⟨dsz1 zb, dsz3 (n := b.length) (by omega) zb fun t ht => ?_, dsz1 (by omega)⟩
            obtain ⟨j, hj⟩ := c2 t ht
            obtain ⟨r1, r2⟩ := runE_ok hj
            refine ⟨r1, fun r hr => ?_⟩
            obtain ⟨j2, hj2⟩ := r2 r hr
            obtain ⟨l1, l2⟩ := lineR_len hj2
            show r.length = b.length
            omega
/-! ### a source that is new -/
theorem drawn_new {a : Addr} {H H' H2 : Hp} (s : Same H H') (n : H a = none) (d : Drawn a H' H2) : Same H H2 := fun _ _ e => d.keep (ne_of_none e n) (s _ _ e)
theorem sq_same {K : PySem.W.Frag} {H H' : Hp} {a : Addr} {xs : List V} (h : SqL K H a xs) (s : Same H H') : SqL K H' a xs := by
  rcases h with h | h
  · rcases h with h | ⟨o, h⟩
    · exact .inl (.inl (s _ _ h))
    · exact .inl (.inr ⟨o, s _ _ h⟩)
  · exact .inr h
end Aw
set_option maxHeartbeats 4000000
/-! The law. -/
namespace Aw
open PySem PySem.Spec PyProof.Rows L2
variable {P : Program} {w : World} {K : PySem.W.Frag} {mg : Str → Option Value} {base : Heap}
/-- how long the texts are behind so many turns -/
def Bn : Nat → Nat
  | 0 => 64
  | i + 1 => 2 * Bn i + 64
theorem bn_le : Bn 0 = 64 ∧ Bn 1 = 192 ∧ Bn 2 = 448 ∧ Bn 3 = 960 := by decide
theorem bn3 {i : Nat} (h : i < 3) : Bn i ≤ 448 ∧ 2 * Bn i + 64 ≤ 998 := by
  obtain ⟨h0, h1, h2, _⟩ := bn_le
  have : i = 0 ∨ i = 1 ∨ i = 2 := by omega
  rcases this with rfl | rfl | rfl <;> omega
def spLaw (K : PySem.W.Frag) : Sp := fun vs H Q _ => ∃ (a : Addr) (ns : List Int), vs = [.ref a] ∧ SqL K H a (ns.map V.int) ∧ ∀ H', Q (.bl true) H'
/-- ('bad', i, j), laid | read -/
theorem dp_bad {K : PySem.W.Frag} {H : Hp} {p : Addr} {i j : Int} (h : H p = some (.tup [.str "bad", .int i, .int j])) : Dp K H (.ref p) (.tuple [.str "bad", .int i, .int j]) :=
  .tup (SqT.of h) (.cons (.str _) (.cons (.int i) (.cons (.int j) .nil)))
def Bad3 (i j : Int) : Prop := SeqAt.shaped (.tuple [.str "bad", .int i, .int j]) = true ∧ PyData.eqv (.tuple [.str "bad", .int i, .int j]) (.tuple [.str "bad", .int i, .int j]) = true
theorem bad_20 : Bad3 2 0 := ⟨by decide +kernel, by decide +kernel⟩
theorem bad_11 : Bad3 1 1001 := ⟨by decide +kernel, by decide +kernel⟩
theorem bad_m1 : Bad3 (-1) 0 := ⟨by decide +kernel, by decide +kernel⟩
/-- isinstance of a list | a tuple -/
theorem mul_ok2 {z : Str} {n : Int} (hz : z.length ≤ 2) (h0 : 0 ≤ n) (h1 : n ≤ 2000) : PySem.MulOk z n := PyProof.Rows.mulOk_of 2 2000 hz h1 (by omega) (by decide) (by decide)
theorem sc_law : FnScope ["_law_script", "_law_source_here", "_law_asks_here", "_law_many", "_law_world_here", "_law_lines_here", "_law_turn", "_law_due", "_law_told", "_law_wide", "_law_odd"] ["_law_script"] (defScope s_law) := ⟨rfl, rfl, rfl, by decide +kernel, rfl, by decide +kernel, by decide +kernel⟩
theorem law_body (T : Txt K mg) (cdv : Value) (A : Around) (outer : List Env) (s : Shared) (H : Hp) (vs : List V) (Q : VK) (E : XK) (hr : Room 13 (A.deeper (envOfC "law" (defScope s_law) s.heap.objs.size (He.ga K "law") cdv))) (h : spLaw K vs H Q E) :
    ∃ t, PSs (cxOf (L2.CX P w) P w K mg base ["_law_script", "_law_source_here", "_law_asks_here", "_law_many", "_law_world_here", "_law_lines_here", "_law_turn", "_law_due", "_law_told", "_law_wide", "_law_odd"] "law" (defScope s_law) (He.ga K "law") cdv A outer s H E) (defBody s_law) t ∧ t { nx := fun _ H' => Q .non H', rt := Q } (start ["_law_script", "_law_source_here", "_law_asks_here", "_law_many", "_law_world_here", "_law_lines_here", "_law_turn", "_law_due", "_law_told", "_law_wide", "_law_odd"] vs) H := by
  refine ⟨_, (pss_cons (ps_set (i := 1) sc_law.nd rfl (Or.inl rfl) (pe_dn (ok_l_source T) (hr.mono (by decide)) (pa_cons (pv 0) (pa_cons pe_int pa_nil))))
    (pss_cons (ps_set (i := 2) sc_law.nd rfl (Or.inl rfl) (pe_dn (ok_l_asks T) (hr.mono (by decide)) (pa_cons (pv 1) pa_nil)))
    (pss_cons (ps_set (i := 3) sc_law.nd rfl (Or.inl rfl) (pe_op op_add pe_int (pe_dn (ok_l_draw T) (hr.mono (by decide)) (pa_cons (pv 1) (pa_cons pe_int pa_nil)))))
    (pss_cons (ps_set (i := 4) sc_law.nd rfl (Or.inl rfl) (pe_dn (ok_l_moved T) (hr.mono (by decide)) (pa_cons (pe_dn (ok_l_source T) (hr.mono (by decide)) (pa_cons (pv 0) (pa_cons pe_int pa_nil))) (pa_cons (pe_dn (ok_l_world T) (hr.mono (by decide)) (pa_cons (pe_dn (ok_l_source T) (hr.mono (by decide)) (pa_cons (pv 0) (pa_cons pe_int pa_nil))) (pa_cons (pv 3) (pa_cons (pv 2) (pa_cons pe_int pa_nil))))) pa_nil))))
    (pss_cons (ps_set (i := 5) sc_law.nd rfl (Or.inl rfl) (pe_dn (ok_l_lines T) (hr.mono (by decide)) (pa_cons (pv 4) pa_nil)))
    (pss_cons (ps_for (passes_of rfl) rfl (pi_range1 rfl T.f_range (pa_cons (pe_op op_add pe_int (pe_dn (ok_l_draw T) (hr.mono (by decide)) (pa_cons (pv 1) (pa_cons pe_int pa_nil)))) pa_nil)) (pg_name (i := 6) sc_law.nd rfl (.inl rfl))
      (pss_cons (ps_set (i := 5) sc_law.nd rfl (Or.inl rfl) (pe_dn (ok_l_spoilt T) (hr.mono (by decide)) (pa_cons (pv 1) (pa_cons (pv 5) pa_nil))))
      (pss_cons (ps_set (i := 7) sc_law.nd rfl (Or.inl rfl) (pe_dn (ok_l_judged T) (hr.mono (by decide)) (pa_cons (pv 5) pa_nil)))
      (pss_cons (ps_set (i := 8) sc_law.nd rfl (Or.inl rfl) (pe_dn (ok_l_read T mono_read (ok_read_store T)) (hr.mono (by decide)) (pa_cons (pe_callTy call_list_of rfl T.f_list boot_list (pa_cons (pv 5) pa_nil)) pa_nil)))
      (pss_one (ps_if (pt_val (pe_callB call_isi rfl T.f_isinstance boot_isinstance (pa_cons (pv 7) (pa_cons (t_list T) pa_nil))))
        (pss_one (ps_if (PW.pt (pw_or (pt_cmpR op_ne (pe_ix ix_tup (pv 8) pe_int (fun _ _ => rfl)) pe_str (nomark _)) (pw_or1 (pt_not (pt_val (pe_dn (ok_l_store_is T) (hr.mono (by decide)) (pa_cons (pe_ix ix_tup (pv 8) pe_int (fun _ _ => rfl)) (pa_cons (pv 7) pa_nil))))))))
          (pss_one (ps_ret pe_bl))
          pss_nil))
        (pss_one (ps_if (PW.pt (pw_or (pt_cmpR op_ne (pe_ix ix_tup (pv 8) pe_int (fun _ _ => rfl)) pe_str (nomark _)) (pw_or (pt_cmpR op_ne (pe_ix ix_tup (pv 8) pe_int (fun _ _ => rfl)) (pe_ix ix_tup (pv 7) pe_int (fun _ _ => rfl)) (nomark _)) (pw_or1 (pt_cmpR op_ne (pe_ix ix_tup (pv 8) pe_int (fun _ _ => rfl)) (pe_ix ix_tup (pv 7) pe_int (fun _ _ => rfl)) (nomark _))))))
          (pss_one (ps_ret pe_bl))
          pss_nil))))))))
    (pss_cons (ps_if (pt_cmpR op_eq (pe_dn (ok_l_draw T) (hr.mono (by decide)) (pa_cons (pv 1) (pa_cons pe_int pa_nil))) pe_int (nomark _))
      (pss_cons (ps_set (i := 9) sc_law.nd rfl (Or.inl rfl) (pe_op op_add pe_int (pe_dn (ok_l_draw T) (hr.mono (by decide)) (pa_cons (pv 1) (pa_cons pe_int pa_nil)))))
      (pss_cons (ps_set (i := 7) sc_law.nd rfl (Or.inl rfl) (pe_tup (pa_cons pe_str (pa_cons (pe_op op_sub pe_int (pe_callTy call_int1 rfl T.f_int boot_int (pa_cons (pe_cmpR op_gt (pv 9) pe_int (nomark _)) pa_nil))) (pa_cons (pe_op op_mul pe_int (pe_callTy call_int1 rfl T.f_int boot_int (pa_cons (pe_cmpR op_gt (pv 9) pe_int (nomark _)) pa_nil))) pa_nil)))))
      (pss_one (ps_if (pt_cmpR (op_neD hr.units) (pe_dn (ok_l_read T mono_read (ok_read_store T)) (hr.mono (by decide)) (pa_cons (pe_lst (pa_cons pe_str (pa_cons (pe_op op_add_str pe_str (pe_op op_mul_str pe_str (pv 9))) pa_nil))) pa_nil)) (pv 7) (nomark _))
        (pss_one (ps_ret pe_bl))
        pss_nil))))
      pss_nil)
    (pss_cons (ps_set (i := 10) sc_law.nd rfl (Or.inl rfl) (pe_ix ix_list (pe_lst (pa_cons pe_str (pa_cons pe_non (pa_cons pe_int (pa_cons pe_dnewK (pa_cons pe_str (pa_cons pe_bl pa_nil))))))) (pe_dn (ok_l_draw T) (hr.mono (by decide)) (pa_cons (pv 1) (pa_cons pe_int pa_nil))) (fun _ _ => rfl)))
    (pss_one (ps_ret (pe_cmpR (op_eqD hr.units) (pe_dn (ok_l_read T mono_readOdd (ok_read_odd T)) (hr.mono (by decide)) (pa_cons (pv 10) pa_nil)) (pe_tup (pa_cons pe_str (pa_cons (pe_un un_neg pe_int) (pa_cons pe_int pa_nil)))) (nomark _)))))))))))), ?_⟩
  · obtain ⟨a, ns, rfl, hs, q⟩ := h
    -- the source
    refine ⟨_, rfl, a, ns, 0, rfl, hs, fun a0 H1 s1 n0 src0 => ?_⟩
    have keep0 : ∀ {H'}, Drawn a0 H1 H' → Same H H' := fun d => drawn_new s1 n0 d
    refine ⟨_, rfl, a0, rfl, src0, fun z H2 z1 z3 d2 => ?_⟩
    refine ⟨_, rfl, a0, 3, rfl, by decide, by decide, d2.2, fun m H3 m0 m1 d3 => ⟨_, _, rfl, rfl, ?_⟩⟩
    obtain ⟨mn, rfl⟩ : ∃ k : Nat, m = k := ⟨m.toNat, by omega⟩
    have t3 := d2.trans d3
    -- the world
    refine ⟨_, rfl, a, ns, 1, rfl, sq_same hs (keep0 t3), fun a1 H4 s4 n4 src1 => ?_⟩
    refine ⟨_, rfl, a, ns, 2, rfl, sq_same hs ((keep0 t3).trans s4), fun a2 H5 s5 n5 src2 => ?_⟩
    refine ⟨_, rfl, _, rfl, a2, 1 + mn, z, rfl, by omega, by omega, z3, src2, fun v H6 d6 w6 => ?_⟩
    have s56 := drawn_new s5 n5 d6
    have src16 := src1.same s56
    refine ⟨a1, v, z, rfl, src16, ?_, z3, fun v' H7 d7 w7 => ?_⟩
    · exact w6.same fun b o e => by
        obtain ⟨e1, e2⟩ := new_some e
        have nb : b ≠ a1 := (src1.same s5).ne e1
        rw [hid_ne nb]
        exact e2
    have s37 : Same H3 H7 := drawn_new (s4.trans s56) n4 d7
    -- the lines
    refine ⟨_, rfl, v', z, rfl, w7.same (hid_le _ _), z3, fun l zs H8 s8 nl hl zl zz => ?_⟩
    have t8 := t3.more (s37.trans s8)
    have nl0 : l ≠ a0 := (t3.2.same s37).ne nl
    have L0 : LnsAt (hid a0 H8) l 12 (Bn 0) := ⟨zs.map V.str, by rw [hid_ne nl0]; exact hl, by rw [List.length_map]; exact zl, fun x hx => by
      obtain ⟨y, hy, rfl⟩ := List.mem_map.mp hx
      exact ⟨some y, rfl, fun s e => by cases e; exact zz y hy⟩⟩
    -- the turns
    refine ⟨_, rfl, a0, 3, rfl, by decide, by decide, t8.2, fun r H9 r0 r1 d9 => ⟨_, _, rfl, rfl, ?_⟩⟩
    obtain ⟨rn, rfl⟩ : ∃ k : Nat, r = k := ⟨r.toNat, by omega⟩
    have L9 : LnsAt (hid a0 H9) l 12 (Bn 0) := by
      obtain ⟨xs, e1, e2, e3⟩ := L0
      exact ⟨xs, d9.1 _ _ e1, e2, e3.same d9.1⟩
    refine ⟨(1 + (rn : Int)), rfl, by omega, by omega, ?_⟩
    have en : (1 + (rn : Int)).toNat = 1 + rn := by omega
    refine for_range (lo := 0) (n := (1 + (rn : Int)).toNat) (fun i σ H' => ∃ (l : Addr) (v6 v7 v8 : Option V), σ = [some (.ref a), some (.ref a0), some (.str z), some (.int (1 + (mn : Int))), some v', some (.ref l), v6, v7, v8, none, none] ∧ Src H' a0 ∧ LnsAt (hid a0 H') l (12 + i) (Bn i))
      ⟨l, none, none, none, rfl, d9.2, L9⟩ ?_ ?_
    · rintro i σ H10 hi ⟨l, v6, v7, v8, rfl, src, Li⟩
      rw [en] at hi
      obtain ⟨b1, b2⟩ := bn3 (i := i) (by omega)
      refine ⟨_, rfl, _, rfl, a0, l, 12 + i, Bn i, rfl, by omega, by omega, src, Li, fun l2 H11 d11 L11 => ?_⟩
      obtain ⟨lns, hL, hn, hb⟩ := L11.lines
      have hL' : Lines Any H11 l2 lns := Lines.same (hid_le a0 H11) hL
      have less : Less lns := ⟨by omega, fun s hs => Nat.le_trans (hb s hs) b2⟩
      have next : ∀ {H' : Hp} {v6 v7 v8 : Option V}, Same H11 H' → ∃ (l : Addr) (v6' v7' v8' : Option V), ([some (.ref a), some (.ref a0), some (.str z), some (.int (1 + (mn : Int))), some v', some (.ref l2), v6, v7, v8, none, none] : L2.St) = [some (.ref a), some (.ref a0), some (.str z), some (.int (1 + (mn : Int))), some v', some (.ref l), v6', v7', v8', none, none] ∧
          Src H' a0 ∧ LnsAt (hid a0 H') l (12 + (i + 1)) (Bn (i + 1)) := fun {H' v6 v7 v8} sm => by
        obtain ⟨xs, e1, e2, e3⟩ := L11
        exact ⟨l2, v6, v7, v8, rfl, d11.2.same sm, xs, hid_same sm _ _ e1, by omega, e3.same (hid_same sm)⟩
      obtain ⟨ys, hys, pry⟩ := id hL'
      refine ⟨_, rfl, l2, lns, rfl, hL', less, fun ei ej er pj H12 hj0 s12 hpj => ?_, fun zs2 bs cs es er pj vb vc ve H12 s12 hpj lb lc le => ?_⟩
      · -- a bad line is due
        refine ⟨_, rfl, l2, ys, rfl, .inl (SqL.of (s12 _ _ hys)), fun lc hlc => ?_⟩
        have s13 := same_new (o := .lst ys) hlc
        have g13 := s12.trans s13
        have hLc : Lines Any (upd H12 lc (.lst ys)) lc lns := ⟨ys, upd_same, Paired.mapP pry fun _ _ h => h.keep (Keep.of g13)⟩
        refine ⟨.ref lc, rfl, lc, lns, rfl, hLc, less.small, fun i2 j2 er2 dd H14 hd0 s14 hdd => ?_, fun s b c e er2 => by rw [er] at er2; cases er2⟩
        rw [er] at er2
        cases er2
        refine ⟨dd, _, _, rfl, rfl, hdd, fun pt hpt => ?_⟩
        have s15 := same_new (o := .tup [.str "bad", .int (ei : Nat), .int (ej : Nat)]) hpt
        have g15 := (s13.trans s14).trans s15
        have hpj2 := g15 _ _ hpj
        have hpt2 : upd H14 pt (.tup [.str "bad", .int (ei : Nat), .int (ej : Nat)]) pt = some (.tup [.str "bad", .int (ei : Nat), .int (ej : Nat)]) := upd_same
        refine ⟨_, rfl, .ref pj, _, _, _, false, rfl, .ty "list", .base (.tup hpj2), kit_ty (by decide +kernel), ?_⟩
        refine ⟨_, rfl, iteF ?_⟩
        refine ⟨_, rfl, pt, _, _, _, rfl, rfl, SqT.of hpt2, atI_nat (j := 0) rfl, rfl, _, rfl, itF (by simp) ?_⟩
        refine ⟨_, rfl, pt, _, _, _, rfl, rfl, SqT.of hpt2, atI_nat (j := 1) rfl, _, rfl, pj, _, _, _, rfl, rfl, SqT.of hpj2, atI_nat (j := 0) rfl, rfl, _, rfl, itF (by simp) ?_⟩
        refine ⟨_, rfl, pt, _, _, _, rfl, rfl, SqT.of hpt2, atI_nat (j := 2) rfl, _, rfl, pj, _, _, _, rfl, rfl, SqT.of hpj2, atI_nat (j := 1) rfl, rfl, _, rfl, itF (by simp) ?_⟩
        exact next (s12.trans g15)
      · -- a store is due
        refine ⟨_, rfl, l2, ys, rfl, .inl (SqL.of (s12 _ _ hys)), fun lc2 hlc => ?_⟩
        have s13 := same_new (o := .lst ys) hlc
        have g13 := s12.trans s13
        have hLc : Lines Any (upd H12 lc2 (.lst ys)) lc2 lns := ⟨ys, upd_same, Paired.mapP pry fun _ _ h => h.keep (Keep.of g13)⟩
        refine ⟨.ref lc2, rfl, lc2, lns, rfl, hLc, less.small, fun i2 j2 er2 => (by rw [er] at er2; cases er2), fun s b c e er2 ps H14 s14 st => ?_⟩
        rw [er] at er2
        cases er2
        refine fun pt hpt => ?_
        have s15 := same_new (o := .tup [.str "good", .ref ps]) hpt
        have g15 := (s13.trans s14).trans s15
        have hpj2 := g15 _ _ hpj
        have hpt2 : upd H14 pt (.tup [.str "good", .ref ps]) pt = some (.tup [.str "good", .ref ps]) := upd_same
        refine ⟨_, rfl, .ref pj, _, _, _, true, rfl, .ty "list", .base (.lst hpj2), kit_ty (by decide +kernel), ?_⟩
        refine ⟨_, rfl, iteT ?_⟩
        refine ⟨_, rfl, pt, _, _, _, rfl, rfl, SqT.of hpt2, atI_nat (j := 0) rfl, rfl, _, rfl, itF (by simp) ?_⟩
        obtain ⟨dx, x1, x2, x3, e1, e2, e3, e4⟩ := st
        obtain ⟨y1, y2, y3⟩ := readR_sz er
        refine ⟨_, rfl, pt, _, _, _, rfl, rfl, SqT.of hpt2, atI_nat (j := 1) rfl, _, rfl, ps, pj, vb, vc, ve, zs2, bs, cs, es, rfl, ⟨dx, x1, x2, x3, s15 _ _ e1, TD.same s15 e2, TD.same s15 e3, TD.same s15 e4⟩, hpj2, LD.same g15 lb, LD.same g15 lc, LD.same g15 le, y1, y2, y3, fun H16 s16 => ?_⟩
        refine ⟨_, rfl, iteF ?_⟩
        exact next ((s12.trans g15).trans s16)
    · rintro σ H10 ⟨l, v6, v7, v8, rfl, src, _⟩
      dsimp only
      refine seq_join (fun σ' H' => ∃ (l : Addr) (v6 v7 v8 v9 : Option V), σ' = [some (.ref a), some (.ref a0), some (.str z), some (.int (1 + (mn : Int))), some v', some (.ref l), v6, v7, v8, v9, none] ∧ Src H' a0) (fun N kN => ?_) ?_
      · refine ⟨_, rfl, a0, 8, rfl, by decide, by decide, src, fun d H11 d0 d1 d11 => ?_⟩
        refine ⟨rfl, _, rfl, it2 (fun h1 => ?_) (fun h1 => kN _ _ ⟨l, v6, v7, v8, none, rfl, d11.2⟩)⟩
        have wide : ∀ (n : Nat) (b : Bool) (i j : Nat), decide ((n : Int) > 1000) = b → 2 ≤ n → n ≤ 1001 → (2 : Int) - (if b = true then 1 else 0) = i → (1001 : Int) * (if b = true then 1 else 0) = j → readR (LW (n : Int)) = .error (i, j) → Bad3 i j → True := fun _ _ _ _ _ _ _ _ _ _ _ => trivial
        refine ⟨_, rfl, a0, 2, rfl, by decide, by decide, d11.2, fun u H12 u0 u1 d12 => ⟨_, _, rfl, rfl, ?_⟩⟩
        obtain ⟨n, en2, n0, n1⟩ : ∃ n : Nat, (1000 : Int) + u = n ∧ 1000 ≤ n ∧ n ≤ 1001 := ⟨((1000 : Int) + u).toNat, by omega, by omega, by omega⟩
        show gName 9 (V.int ((1000 : Int) + u)) _ _ _
        rw [en2]
        obtain ⟨i, j, ei, ej, er, hb3⟩ : ∃ i j : Nat, (2 : Int) - (if decide (1000 < (n : Int)) = true then 1 else 0) = i ∧ (1001 : Int) * (if decide (1000 < (n : Int)) = true then 1 else 0) = j ∧ readR (LW (n : Int)) = .error (i, j) ∧ Bad3 i j := by
          have hr := read_N (N := n) (by omega)
          by_cases h : n ≤ 1000
          · rw [if_pos h] at hr
            have hd : ¬ (decide (1000 < (n : Int)) = true) := fun z => by have := of_decide_eq_true z; omega
            exact ⟨2, 0, by rw [if_neg hd]; rfl, by rw [if_neg hd]; rfl, hr, bad_20⟩
          · rw [if_neg h] at hr
            have hd : decide (1000 < (n : Int)) = true := decide_eq_true (by omega)
            exact ⟨1, 1001, by rw [if_pos hd]; rfl, by rw [if_pos hd]; rfl, hr, bad_11⟩
        refine ⟨_, rfl, _, _, rfl, rfl, .inr ⟨_, rfl, _, _, rfl, rfl, _, rfl, _, _, rfl, rfl, .inr ⟨_, rfl, _, _, rfl, rfl, .inl ⟨by decide, by decide⟩, by show 3 ≤ sizeLine; decide, fun pd hpd => ?_⟩⟩⟩
        have hpd2 : upd H12 pd (.tup [.str "bad", .int ((2 : Int) - (if decide (1000 < (n : Int)) = true then 1 else 0)), .int ((1001 : Int) * (if decide (1000 < (n : Int)) = true then 1 else 0))]) pd = some (.tup [.str "bad", .int i, .int j]) := by
          rw [ei, ej]
          exact upd_same
        have sd := same_new (o := .tup [.str "bad", .int ((2 : Int) - (if decide (1000 < (n : Int)) = true then 1 else 0)), .int ((1001 : Int) * (if decide (1000 < (n : Int)) = true then 1 else 0))]) hpd
        obtain ⟨H13, e13⟩ : ∃ H13, H13 = upd H12 pd (.tup [.str "bad", .int ((2 : Int) - (if decide (1000 < (n : Int)) = true then 1 else 0)), .int ((1001 : Int) * (if decide (1000 < (n : Int)) = true then 1 else 0))]) := ⟨_, rfl⟩
        have hpd3 : H13 pd = some (.tup [.str "bad", .int i, .int j]) := by rw [e13]; exact hpd2
        have sd3 : Same H12 H13 := by rw [e13]; exact sd
        show Ends.nx _ _ (upd H12 pd (.tup [.str "bad", .int ((2 : Int) - (if decide (1000 < (n : Int)) = true then 1 else 0)), .int ((1001 : Int) * (if decide (1000 < (n : Int)) = true then 1 else 0))]))
        rw [← e13]
        have o2 : (SO " 0").length ≤ 2 := by decide +kernel
        have lw : (SO "begins").length + (PySem.Txt.mul (SO " 0") (n : Int)).length ≤ 2008 := by
          have e1 : (SO "begins").length = 6 := by decide +kernel
          have e2 := PyProof.Rows.len_mul_leN (n := (n : Int)) (N := 1001) o2 (by omega)
          omega
        refine ⟨_, rfl, _, _, rfl, rfl, mul_ok2 o2 (by omega) (by omega), _, _, rfl, rfl, by rw [sizeLine_eq]; exact Nat.le_trans lw (by decide), by show 2 ≤ sizeLine; decide, fun pl hpl => ?_⟩
        have s14 := same_new (o := .lst [.str (SO "store a"), .str (WB (n : Int))]) hpl
        refine ⟨.ref pl, rfl, pl, LW (n : Int), rfl, ⟨_, upd_same, .cons rfl (.cons rfl .nil)⟩, ⟨by show 2 ≤ 100; decide, fun s hs => ?_⟩, fun i2 j2 er2 dd H15 hd0 s15 hdd => ?_, fun s b c e er2 => by rw [er] at er2; cases er2⟩
        · rcases List.mem_cons.mp hs with e | hs
          · cases e
            exact Nat.le_trans (by decide +kernel : (SO "store a").length ≤ 10) (by decide)
          · have e := List.mem_singleton.mp hs
            cases e
            rw [app_len]
            omega
        rw [er] at er2
        cases er2
        refine ⟨dd, _, _, rfl, rfl, hdd, fun pt hpt => ?_⟩
        have s16 := same_new (o := .tup [.str "bad", .int (i : Nat), .int (j : Nat)]) hpt
        have g16 := (s14.trans s15).trans s16
        refine ⟨_, rfl, _, _, dp_bad upd_same, dp_bad (g16 _ _ hpd3), hb3.1, hb3.1, _, rfl, itF (by rw [hb3.2]; rfl) ?_⟩
        exact kN _ _ ⟨l, v6, _, v8, _, rfl, d12.2.same (sd3.trans g16)⟩
      · rintro σ' H11 ⟨l, v6, v7, v8, v9, rfl, src⟩
        -- no tuple, no list
        refine fun pd hpd => ⟨by show 6 ≤ sizeLine; decide, fun pl hpl => ?_⟩
        have g1 := same_new (o := .dK []) hpd
        have g2 := g1.trans (same_new (o := .lst [.str (SO "store ab"), .non, .int 7, .ref pd, .str (SO ""), .bl true]) hpl)
        have hpl0 := new_old g1 hpl
        refine ⟨_, rfl, a0, 6, rfl, by decide, by decide, src.same g2, fun d H12 d0 d1 d12 => ?_⟩
        have hpl2 := d12.keep (src.ne hpl0) (upd_same (o := .lst [.str (SO "store ab"), .non, .int 7, .ref pd, .str (SO ""), .bl true]))
        have hpd2 := d12.keep (src.ne hpd) ((same_new (o := .lst [.str (SO "store ab"), .non, .int 7, .ref pd, .str (SO ""), .bl true]) hpl) _ _ (upd_same (o := .dK [])))
        obtain ⟨od, hod, hat, _⟩ := atI_of (xs := [V.str (SO "store ab"), .non, .int 7, .ref pd, .str (SO ""), .bl true]) d0 d1
        refine ⟨pl, _, d, od, rfl, rfl, SqL.of hpl2, hat, ?_⟩
        obtain ⟨t, ty, lt⟩ : ∃ t, TyX K H12 od t ∧ listedT t = some false := by
          simp only [List.mem_cons, List.not_mem_nil, or_false] at hod
          rcases hod with rfl | rfl | rfl | rfl | rfl | rfl
          · exact ⟨_, .base (.str _), rfl⟩
          · exact ⟨_, .base .non, rfl⟩
          · exact ⟨_, .base (.int 7), rfl⟩
          · exact ⟨_, .base (.dK hpd2), rfl⟩
          · exact ⟨_, .base (.str _), rfl⟩
          · exact ⟨_, .base (.bl true), rfl⟩
        refine ⟨_, rfl, od, rfl, od, t, rfl, ty, lt, fun dd H15 hd0 s15 hdd => ?_⟩
        refine ⟨dd, -1, 0, rfl, rfl, hdd, fun pt hpt => ?_⟩
        refine ⟨1, rfl, by show 3 ≤ sizeLine; decide, fun pu hpu => ?_⟩
        have s16 := same_new (o := .tup [.str "bad", .int (-1), .int 0]) hpu
        refine ⟨_, _, dp_bad (s16 _ _ upd_same), dp_bad upd_same, bad_m1.1, bad_m1.1, ?_⟩
        rw [bad_m1.2]
        exact q _
theorem law_fn (T : Txt K mg) : ∃ fd : FuncData, (∀ (s : Shared) (v : Value), BindsTo s fd ⟨[v], []⟩ [(("_law_script" : Str), v)]) ∧ ∀ base : Heap, FnOk P w K mg base (L2.CX P w) 14 (He.ga K "law") fd ["_law_script"] (spLaw K) := by
  obtain ⟨fd, F⟩ := T.fn_law
  have b := FunD.bindsA (ps := ["_law_script"]) F fun _ _ _ _ _ _ us hl => match us, hl with | [_], _ => rfl
  refine ⟨fd, fun s v => b s [v] rfl, fun base => F.ok sc_law (fun vs H Q E h => ?_) fun cdv A outer s H vs Q E hr h => law_body T cdv A outer s H vs Q E hr h⟩
  obtain ⟨a, ns, rfl, _⟩ := h
  rfl
end Aw
set_option maxHeartbeats 0
namespace Aw
open PySem PySem.Spec PyProof.Rows L2
/-- more may fly out -/
theorem fn_air {P : Program} {w : World} {K : PySem.W.Frag} {mg : Str → Option Value} {base : Heap} {C1 C2 : CXT} {k : Nat} {f : Addr} {fd : FuncData} {ps : List Str} {sp : Sp} (F : FnOk P w K mg base C1 k f fd ps sp)
    (h : ∀ o H s E e s', C1 o H s E e s' → C2 o H s E e s') : FnOk P w K mg base C2 k f fd ps sp :=
  ⟨F.len, fun A outer s H args us vs Q E hr e0 hb hv hs => codeAny_mono (F.run A outer s H args us vs Q E hr e0 hb hv hs) fun r s' z => by
    cases r with
    | ok fl => cases fl <;> exact z
    | error e => exact h _ _ _ _ _ _ z⟩
/-- the air, of whatever world -/
def airAny : CXT := fun o H s E e s' => ∃ (P : Program) (w : World), L2.CX P w o H s E e s'
theorem facts {P : Program} {w : World} {K : PySem.W.Frag} {h : Heap} {mg : Str → Option Value} {f : Addr} (X : K.In h) (G : h.Ns mainGlobals mg) (hfa : mg ("law" : Str) = some (.ref f)) (c : He.SaysD fa fn K) (hx : xB K = true) :
    ∃ fd : FuncData, (∀ (s : Shared) (v : Value), BindsTo s fd ⟨[v], []⟩ [("_law_script", v)]) ∧ ∀ base : Heap, K.In base → base.Ns mainGlobals mg → FnOk P w K mg base airAny 14 f fd ["_law_script"] (spLaw K) := by
  have T : Txt K mg := ⟨c, hx, h, X, G⟩
  have e := hfa.symm.trans T.g_law
  cases e
  obtain ⟨fd, b, F⟩ := law_fn (P := P) (w := w) T
  exact ⟨fd, b, fun base _ _ => fn_air (F base) fun _ _ _ _ _ _ z => ⟨P, w, z⟩⟩
end Aw
open PySem PySem.W PySem.Calls PyProof.Rows
theorem PySem.Challenge.cw_afterwise_k03_whole_bad_lines_holds : PySem.Challenge.rw_afterwise_k03_whole_bad_lines.Holds := by
  w_on; o_law
  refine HandSHeadRun.head_any (r := Aw.R) (q := view Aw.R.prog [63]) (H := Aw.hk) (ob := Aw.ob) (M := 4000) (loose := Aw.loose) (d := HandSHeadRun.topDef Aw.R.prog 63) (kwd := []) Aw.ob_eq
    (by kernel_rfl) (fun s => by kernel_rfl) Aw.run (by kernel_rfl) (by kernel_rfl) (by kernel_rfl) (by rfl) (by first | assumption | decide +kernel) (by decide +kernel) ⟨rfl, rfl, rfl, rfl, rfl, by decide +kernel⟩ ?hw ?hc
  case hw => w_witness2
  case hc =>
    refine L2.walk_ofE (l := PySem.Challenge.rw_afterwise_k03_whole_bad_lines) (n := 63) (k := 14) (x := "_law_script") (CX := Aw.airAny) rfl (by decide) (by kernel_rfl) ⟨rfl, by decide, by decide⟩ ?F ?C
    case C =>
      rintro H s e s' ⟨P, w, _, _, _, _, _, _, _, _, _, _, _, _, z⟩
      exact z
    case F =>
      intro w mg fa h Y G hmg0
      obtain ⟨K, KX, c, hx⟩ := Y
      have hmg : mg ("law" : PySem.Str) = some (.ref fa) := by
        have e : (HandSHeadRun.topDef Aw.R.prog 63).name = ("law" : PySem.Str) := by kernel_rfl
        rw [← e]
        exact hmg0
      obtain ⟨fd, hb, hF⟩ := Aw.facts (P := (PySem.Challenge.rw_afterwise_k03_whole_bad_lines).prog) (w := w) KX G hmg c hx
      exact ⟨K, fd, Aw.spLaw K, KX, hb, fun H a ns hl _ hS => ⟨a, ns, rfl, hS, fun _ => rfl⟩, hF⟩
