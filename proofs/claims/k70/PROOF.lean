import PyProof.Rows.All
import Wide.All
import OpenK.AllK
import Wide.FinOn
import HandS.Base
import HandS.Call
import PySem.Challenge.RW_blendmarks_k70_whole_what_is_no_statemen
import HandS.Property
import HandS.ExcInit
import HandS.ExcField
import HandS.Defaults
import KE.KStateDown
import HandS.More
import HandS.Words
import HandS.Head0
import HandS.Head1
import HandS.Head2
import HandS.HeadEnd
import HandS.HeadHook1
import HandS.HeadHook2
import HandS.HeadHook3
import HandS.HeadHook4
import HandS.ForMost
import HandS.Exc
import HandS.Deep
import HandS.IsInst
import HandS.Style
import HandS.TupAny
import HandS.Zip
import PyProof.P3In
import KE.GoesEnumKw
import HandS.Set
import KE.SortCalls
import KE.SortData
import KE.LtSeq
import HandS.TupSets
import HandS.SetTxt0
import HandS.SetFor
import HandS.Strs
import HandS.SetBool
import HandS.Dict
import HandS.GenOver
import PyProof.GenRules
import PyProof.GenQ
import HandS.GenList
import HandS.GenCall
import HandS.Nested
import HandS.Keys
import KE.KLam
import KE.KMinKey
import HandS.Iter
import HandS.SortKw
import HandS.DictComp
import HandS.Conv
import HandS.ExcOwn
import HandS.WordsExc
import PyProof.ReprRoads
import PyProof.ReprLen
import PyProof.StrBlock2
import HandS.EndTab
set_option Elab.async false
set_option linter.all false
set_option maxRecDepth 100000
set_option maxHeartbeats 2000000
/-! the program's statements by their place -/
namespace Bl
open PySem PySem.Spec PyProof.Rows L2
def top (i : Nat) : Stmt := PySem.Challenge.pw_blendmarks_k70_whole_what_is_no_statemen.main.body.getD i (.Pass ⟨0, 0, 0, 0⟩)
/-- the statements of the class -/
def bstm (i : Nat) : Stmt := match top 61 with
  | .ClassDef (body := body) .. => body.getD i (.Pass ⟨0, 0, 0, 0⟩)
  | _ => .Pass ⟨0, 0, 0, 0⟩
/-- NotSaid.__init__ -/
def nst : Stmt := match top 5 with
  | .ClassDef (body := body) .. => body.getD 0 (.Pass ⟨0, 0, 0, 0⟩)
  | _ => .Pass ⟨0, 0, 0, 0⟩
end Bl
set_option Elab.async false
set_option linter.all false
set_option maxRecDepth 100000
set_option maxHeartbeats 0
/-! written by genhead2.py: the facts of the program's top, told by a Hook -/
namespace Bl
open PySem PySem.Spec PyProof.Rows L2
def dd_is_ascending_part : He.DefD := ⟨("is_ascending_part", none), "is_ascending_part", "is_ascending_part", defArgs (top 11), defBody (top 11), defScope (top 11), [], []⟩
def dd_marks_of : He.DefD := ⟨("marks_of", none), "marks_of", "marks_of", defArgs (top 12), defBody (top 12), defScope (top 12), [], []⟩
def dd_meets : He.DefD := ⟨("meets", none), "meets", "meets", defArgs (top 14), defBody (top 14), defScope (top 14), [], []⟩
def dd_holders_with : He.DefD := ⟨("holders_with", none), "holders_with", "holders_with", defArgs (top 15), defBody (top 15), defScope (top 15), [], []⟩
def dd_holders_without : He.DefD := ⟨("holders_without", none), "holders_without", "holders_without", defArgs (top 16), defBody (top 16), defScope (top 16), [], []⟩
def dd_entry_clauses : He.DefD := ⟨("entry_clauses", none), "entry_clauses", "entry_clauses", defArgs (top 17), defBody (top 17), defScope (top 17), [], []⟩
def dd_find_clauses : He.DefD := ⟨("find_clauses", none), "find_clauses", "find_clauses", defArgs (top 18), defBody (top 18), defScope (top 18), [], []⟩
def dd_clauses : He.DefD := ⟨("clauses", none), "clauses", "clauses", defArgs (top 19), defBody (top 19), defScope (top 19), [], []⟩
def dd_parts_of : He.DefD := ⟨("parts_of", none), "parts_of", "parts_of", defArgs (top 21), defBody (top 21), defScope (top 21), [], []⟩
def dd_is_part_of : He.DefD := ⟨("is_part_of", none), "is_part_of", "is_part_of", defArgs (top 22), defBody (top 22), defScope (top 22), [], []⟩
def dd_meets_all : He.DefD := ⟨("meets_all", none), "meets_all", "meets_all", defArgs (top 23), defBody (top 23), defScope (top 23), [], []⟩
def dd_fits : He.DefD := ⟨("fits", none), "fits", "fits", defArgs (top 24), defBody (top 24), defScope (top 24), [], []⟩
def dd_each_group : He.DefD := ⟨("each_group", none), "each_group", "each_group", defArgs (top 25), defBody (top 25), defScope (top 25), [], []⟩
def dd_least_groups : He.DefD := ⟨("least_groups", none), "least_groups", "least_groups", defArgs (top 26), defBody (top 26), defScope (top 26), [], []⟩
def dd_outside : He.DefD := ⟨("outside", none), "outside", "outside", defArgs (top 29), defBody (top 29), defScope (top 29), [], []⟩
def dd_tree_by : He.DefD := ⟨("tree_by", none), "tree_by", "tree_by", defArgs (top 30), defBody (top 30), defScope (top 30), [], []⟩
def dd_is_pair : He.DefD := ⟨("is_pair", none), "is_pair", "is_pair", defArgs (top 31), defBody (top 31), defScope (top 31), [], []⟩
def dd_is_branch : He.DefD := ⟨("is_branch", none), "is_branch", "is_branch", defArgs (top 32), defBody (top 32), defScope (top 32), [], []⟩
def dd_is_tree : He.DefD := ⟨("is_tree", none), "is_tree", "is_tree", defArgs (top 33), defBody (top 33), defScope (top 33), [], []⟩
def dd_tree_for : He.DefD := ⟨("tree_for", none), "tree_for", "tree_for", defArgs (top 34), defBody (top 34), defScope (top 34), [], []⟩
def dd_tree_holds : He.DefD := ⟨("tree_holds", none), "tree_holds", "tree_holds", defArgs (top 35), defBody (top 35), defScope (top 35), [], []⟩
def dd_is_word : He.DefD := ⟨("is_word", none), "is_word", "is_word", defArgs (top 40), defBody (top 40), defScope (top 40), [], []⟩
def dd_are_rising : He.DefD := ⟨("are_rising", none), "are_rising", "are_rising", defArgs (top 41), defBody (top 41), defScope (top 41), [], []⟩
def dd_fits_places : He.DefD := ⟨("fits_places", none), "fits_places", "fits_places", defArgs (top 42), defBody (top 42), defScope (top 42), [], []⟩
def dd_is_name : He.DefD := ⟨("is_name", none), "is_name", "is_name", defArgs (top 54), defBody (top 54), defScope (top 54), [], []⟩
def dd_is_mark : He.DefD := ⟨("is_mark", none), "is_mark", "is_mark", defArgs (top 55), defBody (top 55), defScope (top 55), [], []⟩
def dd_is_place : He.DefD := ⟨("is_place", none), "is_place", "is_place", defArgs (top 56), defBody (top 56), defScope (top 56), [], []⟩
def dd_are_places : He.DefD := ⟨("are_places", none), "are_places", "are_places", defArgs (top 57), defBody (top 57), defScope (top 57), [], []⟩
def dd_is_row : He.DefD := ⟨("is_row", none), "is_row", "is_row", defArgs (top 58), defBody (top 58), defScope (top 58), [], []⟩
def dd_is_copy : He.DefD := ⟨("is_copy", none), "is_copy", "is_copy", defArgs (top 59), defBody (top 59), defScope (top 59), [], []⟩
def dd_are_copies : He.DefD := ⟨("are_copies", none), "are_copies", "are_copies", defArgs (top 60), defBody (top 60), defScope (top 60), [], []⟩
def dd_is_smaller_part : He.DefD := ⟨("is_smaller_part", none), "is_smaller_part", "is_smaller_part", defArgs (top 63), defBody (top 63), defScope (top 63), [], []⟩
def dd_least_ones : He.DefD := ⟨("least_ones", none), "least_ones", "least_ones", defArgs (top 64), defBody (top 64), defScope (top 64), [], []⟩
def dd_least_meeting : He.DefD := ⟨("least_meeting", none), "least_meeting", "least_meeting", defArgs (top 65), defBody (top 65), defScope (top 65), [], []⟩
def dd_is_statement : He.DefD := ⟨("is_statement", none), "is_statement", "is_statement", defArgs (top 66), defBody (top 66), defScope (top 66), [], []⟩
def dd_statements : He.DefD := ⟨("statements", none), "statements", "statements", defArgs (top 67), defBody (top 67), defScope (top 67), [], []⟩
def dd__law_deck : He.DefD := ⟨("_law_deck", none), "_law_deck", "_law_deck", defArgs (top 69), defBody (top 69), defScope (top 69), [], []⟩
def dd__law_draw : He.DefD := ⟨("_law_draw", none), "_law_draw", "_law_draw", defArgs (top 70), defBody (top 70), defScope (top 70), [], []⟩
def dd__law_pick : He.DefD := ⟨("_law_pick", none), "_law_pick", "_law_pick", defArgs (top 71), defBody (top 71), defScope (top 71), [], []⟩
def dd__law_people : He.DefD := ⟨("_law_people", none), "_law_people", "_law_people", defArgs (top 72), defBody (top 72), defScope (top 72), [], []⟩
def dd__law_spots : He.DefD := ⟨("_law_spots", none), "_law_spots", "_law_spots", defArgs (top 73), defBody (top 73), defScope (top 73), [], []⟩
def dd__law_copies : He.DefD := ⟨("_law_copies", none), "_law_copies", "_law_copies", defArgs (top 74), defBody (top 74), defScope (top 74), [], []⟩
def dd__law_marks : He.DefD := ⟨("_law_marks", none), "_law_marks", "_law_marks", defArgs (top 75), defBody (top 75), defScope (top 75), [], []⟩
def dd__law_mixed : He.DefD := ⟨("_law_mixed", none), "_law_mixed", "_law_mixed", defArgs (top 76), defBody (top 76), defScope (top 76), [], []⟩
def dd__law_case : He.DefD := ⟨("_law_case", none), "_law_case", "_law_case", defArgs (top 77), defBody (top 77), defScope (top 77), [], []⟩
def dd__law_can : He.DefD := ⟨("_law_can", none), "_law_can", "_law_can", defArgs (top 78), defBody (top 78), defScope (top 78), [], []⟩
def dd__law_sets : He.DefD := ⟨("_law_sets", none), "_law_sets", "_law_sets", defArgs (top 79), defBody (top 79), defScope (top 79), [], []⟩
def dd__law_meets : He.DefD := ⟨("_law_meets", none), "_law_meets", "_law_meets", defArgs (top 81), defBody (top 81), defScope (top 81), [], []⟩
def dd__law_within : He.DefD := ⟨("_law_within", none), "_law_within", "_law_within", defArgs (top 82), defBody (top 82), defScope (top 82), [], []⟩
def dd__law_least : He.DefD := ⟨("_law_least", none), "_law_least", "_law_least", defArgs (top 83), defBody (top 83), defScope (top 83), [], []⟩
def dd__law_rows : He.DefD := ⟨("_law_rows", none), "_law_rows", "_law_rows", defArgs (top 84), defBody (top 84), defScope (top 84), [], []⟩
def dd__law_tree_right : He.DefD := ⟨("_law_tree_right", none), "_law_tree_right", "_law_tree_right", defArgs (top 85), defBody (top 85), defScope (top 85), [], []⟩
def dd__law_heard : He.DefD := ⟨("_law_heard", none), "_law_heard", "_law_heard", defArgs (top 86), defBody (top 86), defScope (top 86), [], []⟩
def dd__law_set_right : He.DefD := ⟨("_law_set_right", none), "_law_set_right", "_law_set_right", defArgs (top 87), defBody (top 87), defScope (top 87), [], []⟩
def dd_law : He.DefD := ⟨("law", none), "law", "law", defArgs (top 88), defBody (top 88), defScope (top 88), [], []⟩
def dd_Book_init : He.DefD := ⟨("Book", some "__init__"), "__init__", "Book.__init__", defArgs (bstm 2), defBody (bstm 2), defScope (bstm 2), [], []⟩
def dd_Book_row : He.DefD := ⟨("Book", some "row_of"), "row_of", "Book.row_of", defArgs (bstm 8), defBody (bstm 8), defScope (bstm 8), [], []⟩
def dd_NS_init : He.DefD := ⟨("NotSaid", some "__init__"), "__init__", "NotSaid.__init__", defArgs nst, defBody nst, defScope nst, [], []⟩
/-- the getter, at an address of its own -/
def dd_hold : He.DefD := ⟨("holders", none), "holders", "Book.holders", defArgs (bstm 6), defBody (bstm 6), defScope (bstm 6), [], []⟩
def fnL : List He.DefD := [dd_is_ascending_part, dd_marks_of, dd_meets, dd_holders_with, dd_holders_without, dd_entry_clauses, dd_find_clauses, dd_clauses, dd_parts_of, dd_is_part_of, dd_meets_all, dd_fits, dd_each_group, dd_least_groups, dd_outside, dd_tree_by, dd_is_pair, dd_is_branch, dd_is_tree, dd_tree_for, dd_tree_holds, dd_is_word, dd_are_rising, dd_fits_places, dd_is_name, dd_is_mark, dd_is_place, dd_are_places, dd_is_row, dd_is_copy, dd_are_copies, dd_is_smaller_part, dd_least_ones, dd_least_meeting, dd_is_statement, dd_statements, dd__law_deck, dd__law_draw, dd__law_pick, dd__law_people, dd__law_spots, dd__law_copies, dd__law_marks, dd__law_mixed, dd__law_case, dd__law_can, dd__law_sets, dd__law_meets, dd__law_within, dd__law_least, dd__law_rows, dd__law_tree_right, dd__law_heard, dd__law_set_right, dd_law, dd_Book_init, dd_Book_row, dd_NS_init]
def faL : List He.Fa := [.glo "is_ascending_part", .glo "marks_of", .glo "meets", .glo "holders_with", .glo "holders_without", .glo "entry_clauses", .glo "find_clauses", .glo "clauses", .glo "parts_of", .glo "is_part_of", .glo "meets_all", .glo "fits", .glo "each_group", .glo "least_groups", .glo "outside", .glo "tree_by", .glo "is_pair", .glo "is_branch", .glo "is_tree", .glo "tree_for", .glo "tree_holds", .glo "is_word", .glo "are_rising", .glo "fits_places", .glo "is_name", .glo "is_mark", .glo "is_place", .glo "are_places", .glo "is_row", .glo "is_copy", .glo "are_copies", .glo "is_smaller_part", .glo "least_ones", .glo "least_meeting", .glo "is_statement", .glo "statements", .glo "_law_deck", .glo "_law_draw", .glo "_law_pick", .glo "_law_people", .glo "_law_spots", .glo "_law_copies", .glo "_law_marks", .glo "_law_mixed", .glo "_law_case", .glo "_law_can", .glo "_law_sets", .glo "_law_meets", .glo "_law_within", .glo "_law_least", .glo "_law_rows", .glo "_law_tree_right", .glo "_law_heard", .glo "_law_set_right", .glo "law", .free "isinstance", .free "tuple", .free "all", .free "zip", .free "str", .free "any", .free "sorted", .free "set", .free "enumerate", .free "len", .free "range", .free "min", .free "list", .free "repr", .str "PICK" "pick", .str "FREE" "free", .str "UNREADABLE" "?", .int "PARTS" 2, .str "LOWER_CASE" "abcdefghijklmnopqrstuvwxyz", .str "UPPER_CASE" "ABCDEFGHIJKLMNOPQRSTUVWXYZ", .int "MOST_LETTERS" 8, .str "PLACES" "places", .str "COPIES" "copies", .int "COPY_PARTS" 2, .glo "Book", .cls "Book", .noat "Book" "places", .noat "Book" "copies", .mkr "Book", .meth "Book" "row_of", .glo "NotSaid", .glo "BlendError", .noat "NotSaid" "group", .exm "NotSaid" "NotSaid" true]
def nm0 : List Str := ["_wall", "__name__", "BlendError", "InvalidBook", "InvalidText", "NotSaid", "UnknownHolder", "PICK", "FREE", "UNREADABLE", "is_ascending_part", "marks_of", "meets", "holders_with", "holders_without", "entry_clauses", "find_clauses", "clauses", "parts_of", "is_part_of", "meets_all", "fits", "each_group", "least_groups", "PARTS", "outside", "tree_by", "is_pair", "is_branch", "is_tree"]
def nm1 : List Str := ["tree_for", "tree_holds", "LOWER_CASE", "UPPER_CASE", "MOST_LETTERS", "is_word", "are_rising", "fits_places", "PLACE", "COPY", "book_text", "are_place_words", "are_copy_words", "read_book", "PLACES", "COPIES", "COPY_PARTS", "is_name", "is_mark", "is_place", "are_places", "is_row", "is_copy", "are_copies", "Book", "is_smaller_part", "least_ones", "least_meeting", "is_statement", "statements"]
def nm2 : List Str := ["_law_deck", "_law_draw", "_law_pick", "_law_people", "_law_spots", "_law_copies", "_law_marks", "_law_mixed", "_law_case", "_law_can", "_law_sets", "_law_fitting", "_law_meets", "_law_within", "_law_least", "_law_rows", "_law_tree_right", "_law_heard", "_law_set_right"]
def looseL : List Str := nm0 ++ nm1 ++ nm2
abbrev RR : PySem.W.OpenRow := PySem.W.OpenLaw.row PySem.Challenge.rw_blendmarks_k70_whole_what_is_no_statemen
/-! what the kit's facts do not tell -/
def oexB (K : PySem.W.Frag) (C : Addr) : Bool := (match K.lookup C with
  | some ⟨.type "type", _, .cls cd, sl⟩ => (match cd.mro, sl.toList with
    | .ref C' :: bm, [_, _, _, _, some (.builtin n), _] => C' == C && n == "ValueError.__new__" && !cd.hasDel && cd.hasDict && PySem.HandSPX.refsVE bm
    | _, _ => false)
  | _ => false) && (He.eqO (PySem.W.findIn K (.ref C) "__setattr__") (some (some (.builtin "object.__setattr__"))) && (decide (PySem.W.subIn K (.ref C) (.type "BaseException") = some true) && (decide (PySem.W.typeIn K (.ref C) = some (.type "type")) && PySem.W.keepIn K (.ref C))))
theorem oexB_ok {K : PySem.W.Frag} {C : Addr} (h : oexB K C = true) : OexC K C := by
  obtain ⟨q, h⟩ := He.ba h
  obtain ⟨h1, h⟩ := He.ba h
  obtain ⟨h2, h⟩ := He.ba h
  obtain ⟨h3, h4⟩ := He.ba h
  refine ⟨?_, He.eqO_ok h1, of_decide_eq_true h2, of_decide_eq_true h3, h4⟩
  split at q
  · rename_i dd cd sl ho
    split at q
    · rename_i C' bm k0 k1 k2 k3 n k5 hm hs
      simp only [Bool.and_eq_true, beq_iff_eq, Bool.not_eq_true'] at q
      obtain ⟨⟨⟨⟨rfl, rfl⟩, hdel⟩, hdic⟩, ht⟩ := q
      obtain ⟨nm, bs, mro, ns, qn, hd, sn, sub, ab, col, del⟩ := cd
      dsimp only at hm hdel hdic
      subst hm hdel hdic
      have hsl : sl = #[k0, k1, k2, k3, some (.builtin "ValueError.__new__"), k5] := by
        obtain ⟨l⟩ := sl
        simp only at hs
        rw [hs]
      subst hsl
      exact ⟨nm, qn, ns, bs, bm, sn, sub, ab, col, dd, k0, k1, k2, k3, k5, ho, ht⟩
    · cases q
  · cases q
def prA (K : PySem.W.Frag) : Addr := He.ma K (He.ga K "Book") "holders"
def gtA (K : PySem.W.Frag) : Addr := match PySem.W.recIn K (prA K) "property" with
  | some (.ref g :: _) => g
  | _ => 0
def propB (K : PySem.W.Frag) : Bool := He.eqO (PySem.W.findIn K (.ref (He.ga K "Book")) "holders") (some (some (.ref (prA K)))) && (He.eqO (PySem.W.specialIn K (.ref (prA K)) "__get__") (some (some (.builtin "property.__get__"))) && (decide (PySem.W.takesIn K (.ref (prA K)) = some true) && (match PySem.W.recIn K (prA K) "property" with
  | some (.ref _ :: _) => true
  | _ => false)))
theorem propB_ok {K : PySem.W.Frag} (h : propB K = true) : PropOf K (He.ga K "Book") "holders" (prA K) (gtA K) := by
  obtain ⟨h1, h⟩ := He.ba h
  obtain ⟨h2, h⟩ := He.ba h
  obtain ⟨h3, h4⟩ := He.ba h
  refine ⟨He.eqO_ok h1, He.eqO_ok h2, of_decide_eq_true h3, ?_⟩
  unfold gtA
  split at h4
  · rename_i g rest e
    rw [e]
    exact ⟨rest, rfl⟩
  · cases h4
/-- a def at an address -/
def fnA (K : PySem.W.Frag) (a : Addr) : He.FnW := match K.lookup a with
  | some ⟨_, _, .func fd, _⟩ => some (fd.name, fd.qualname, fd.params, fd.body, fd.scope, fd.globals, fd.closure, fd.builtins)
  | _ => none
def isNon : Value → Bool
  | .none => true
  | _ => false
def okA (K : PySem.W.Frag) (a : Addr) (q : Str) : Bool := PySem.W.keepIn K (.ref a) && (match K.lookup a with
  | some ⟨_, _, .func fd, _⟩ => PySem.W.codeIn K fd.code q && isNon fd.defaults
  | _ => false)
theorem funA {K : PySem.W.Frag} {a : Addr} {d : He.DefD} (e : fnA K a = d.val) (c : okA K a d.qual = true) : ∃ fd, FunD K d.name d.qual d.params d.body d.scope [] [] a fd := by
  obtain ⟨kp, c2⟩ := He.ba c
  unfold fnA at e
  cases q : K.lookup a with
  | none =>
    rw [q] at c2
    cases c2
  | some o =>
    obtain ⟨oc, od, dt, osl⟩ := o
    rw [q] at c2 e
    cases dt with
    | func fd =>
      obtain ⟨n1, n2, n3, n4, n5, n6, n7, n8, n9, n10, n11, n12, n13, n14, n15⟩ := fd
      have e2 : (some (n1, n2, n3, n4, n5, n6, n7, n15) : He.FnW) = some (d.name, d.qual, d.params, .stmts d.body, d.scope, mainGlobals, [], builtinsNs) := e
      simp only [Option.some.injEq, Prod.mk.injEq] at e2
      obtain ⟨h1, h2, h3, h4, h5, h6, h7, h8⟩ := e2
      subst h1 h2 h3 h4 h5 h6 h7 h8
      have c3 : (PySem.W.codeIn K n13 d.qual && isNon n8) = true := c2
      obtain ⟨k1, k2⟩ := He.ba c3
      cases n8 with
      | none => exact ⟨_, ⟨oc, od, .none, n9, n10, n11, n12, n13, n14, osl, rfl, q, k1, .inl ⟨rfl, rfl⟩, .inl rfl⟩, kp⟩
      | _ => cases k2
    | _ => cases c2
def nsB (K : PySem.W.Frag) : Bool := oexB K (He.ga K "NotSaid") && (xfB K (He.ga K "NotSaid") && (He.eqO (PySem.W.findIn K (.ref (He.ga K "NotSaid")) "__init__") (some (some (.ref (He.ma K (He.ga K "NotSaid") "__init__")))) && (decide (PySem.W.typeIn K (.ref (He.ma K (He.ga K "NotSaid") "__init__")) = some (.type "function")) &&
  (PySem.W.readsIn K (He.ga K "BlendError") (.type "type") && (He.eqO (PySem.W.specialIn K (.ref (He.ga K "BlendError")) "__getattribute__") (some (some (.builtin "type.__getattribute__"))) && (match PySem.W.findCls K (.ref (He.ga K "BlendError")) (.type "type") "__init__" with
  | some (.val (.builtin n)) => n == "ValueError.__init__"
  | _ => false))))))
def exL (K : PySem.W.Frag) : Bool := nsB K && (propB K && okA K (gtA K) "Book.holders")
/-! the Hook -/
def asL (g : Addr → Option Obj) : List Addr := cStatics :: He.asD g 6
def KL (g : Addr → Option Obj) : PySem.W.Frag := He.frT g (asL g)
abbrev AlL : Type := (He.AlD × He.FnW) × Bool
def tfL : List He.Defn := [("tree_by", none)]
def obsL (g : Addr → Option Obj) : AlL := ((He.obsD faL fnL (KL g), fnA (KL g) (gtA (KL g))), exL (KL g) && He.tabsB g tfL (KL g))
def valL : AlL := ((He.valD fnL, dd_hold.val), true)
structure SaysL (h : Heap) (K : PySem.W.Frag) : Prop where
  d : He.SaysD faL fnL K
  g : fnA K (gtA K) = dd_hold.val
  ex : exL K = true
  hd : PySem.W.codeHdIn K (He.cT K ("tree_by", none)).1 (He.cT K ("tree_by", none)).2 = true
  out : K.lookup (He.cT K ("tree_by", none)).2 = none
  emp : h.get? (He.cT K ("tree_by", none)).2 = some { cls := .none, data := .fields #[] }
theorem saysL_of {h : Heap} (e : obsL h.get? = valL) : SaysL h (KL h.get?) := by
  have e1 : He.obsD faL fnL (KL h.get?) = He.valD fnL := congrArg (fun z : AlL => z.1.1) e
  have e2 : fnA (KL h.get?) (gtA (KL h.get?)) = dd_hold.val := congrArg (fun z : AlL => z.1.2) e
  have e3 : (exL (KL h.get?) && He.tabsB h.get? tfL (KL h.get?)) = true := congrArg (fun z : AlL => z.2) e
  obtain ⟨h1, h2⟩ := He.ba e3
  obtain ⟨h3, h4⟩ := He.ba (List.all_eq_true.mp h2 ("tree_by", none) (List.mem_cons_self ..))
  cases q : h.get? (He.cT (KL h.get?) ("tree_by", none)).2 with
  | none =>
    rw [q] at h4
    cases h4
  | some o =>
    rw [q] at h4
    exact ⟨e1, e2, h1, h3, He.frT_none q h4, by rw [q, He.emptyTab_eq h4]⟩
def hkL : PySem.W.Hook where
  α := AlL
  obs := fun s => obsL s.heap.get?
  val := fun _ => valL
  says := fun _ h => ∃ K : PySem.W.Frag, K.In h ∧ SaysL h K
  of := fun _ _ e => ⟨_, He.frT_in, saysL_of e⟩
  keeps := fun _ _ _ ⟨K, hK, c⟩ k => ⟨K, PySem.W.Frag.In.keeps hK k, ⟨c.d, c.g, c.ex, c.hd, c.out, k _ _ c.emp⟩⟩
def obL (s : PySem.W.SharedT) : AlL := obsL (HandSHeadRun.getT s)
theorem obL_eq (s : PySem.W.SharedT) : obL s = hkL.obs s.abs := by
  have e : HandSHeadRun.getT s = s.abs.heap.get? := funext (HandSHeadRun.getT_eq s)
  unfold obL
  rw [e]
  rfl
theorem runL (w : World) : HandSHeadRun.RunEq RR (PySem.W.view RR.prog [88]) hkL obL 4000 looseL w := by
  intro os
  kernel_rfl

end Bl
section
open PySem PySem.W PySem.Calls PyProof.Rows
/-- the law holds if its call does from the top's facts -/
theorem Bl.endL (call : WalkO (view Bl.RR.prog [88]) Bl.looseL (XL (view Bl.RR.prog [88]) []) Bl.hkL.says Bl.RR.toRowW (HandSHeadRun.topDef Bl.RR.prog 88) [] (fun f vs => PySem.call f vs)) : PySem.Challenge.rw_blendmarks_k70_whole_what_is_no_statemen.Holds := by
  w_on; o_law
  refine HandSHeadRun.head_any (r := Bl.RR) (q := view Bl.RR.prog [88]) (H := Bl.hkL) (ob := Bl.obL) (M := 4000) (loose := Bl.looseL) (d := HandSHeadRun.topDef Bl.RR.prog 88) (kwd := []) Bl.obL_eq
    (by kernel_rfl) (fun s => by kernel_rfl) Bl.runL (by kernel_rfl) (by kernel_rfl) (by kernel_rfl) (by rfl) (by first | assumption | decide +kernel) (by decide +kernel) ⟨rfl, rfl, rfl, rfl, rfl, by decide +kernel⟩ ?hw ?hc
  case hw => w_witness2
  case hc => exact call
end
set_option Elab.async false
set_option linter.all false
set_option maxRecDepth 100000
set_option maxHeartbeats 2000000
/-! what an expression, a statement gives, over data: judgements without the heap -/
namespace Bl
open PySem PySem.Spec PyProof.Rows L2

/-! ### data stand while the heap grows -/
theorem sqt_same {K : PySem.W.Frag} {H H' : Hp} {a : Addr} {xs : List V} (e : Same H H') (h : SqT K H a xs) : SqT K H' a xs := by
  rcases h with (h | ⟨o, h⟩) | h
  · exact .inl (.inl (e _ _ h))
  · exact .inl (.inr ⟨o, e _ _ h⟩)
  · exact .inr h
mutual
theorem dp_same {K : PySem.W.Frag} {H H' : Hp} (e : Same H H') : ∀ {v : V} {d : PyData}, Dp K H v d → Dp K H' v d
  | _, _, .non => .non
  | _, _, .bl b => .bl b
  | _, _, .int i => .int i
  | _, _, .str x => .str x
  | _, _, .lst s a => .lst (e.seq s) (dps_same e a)
  | _, _, .tup s a => .tup (sqt_same e s) (dps_same e a)
theorem dps_same {K : PySem.W.Frag} {H H' : Hp} (e : Same H H') : ∀ {vs : List V} {ds : List PyData}, DpAll K H vs ds → DpAll K H' vs ds
  | _, _, .nil => .nil
  | _, _, .cons h t => .cons (dp_same e h) (dps_same e t)
end
theorem dps_len {K : PySem.W.Frag} {H : Hp} : ∀ {vs : List V} {ds : List PyData}, DpAll K H vs ds → vs.length = ds.length
  | _, _, .nil => rfl
  | _, _, .cons _ t => congrArg Nat.succ (dps_len t)
theorem dps_get {K : PySem.W.Frag} {H : Hp} : ∀ {vs : List V} {ds : List PyData} {i : Nat} {d : PyData}, DpAll K H vs ds → ds[i]? = some d → ∃ v, vs[i]? = some v ∧ Dp K H v d
  | _, _, _, _, .nil, e => by simp at e
  | _, _, 0, _, .cons h t, e => by simp at e; subst e; exact ⟨_, rfl, h⟩
  | _, _, i + 1, d, .cons h t, e => by
    obtain ⟨v, h1, h2⟩ := dps_get (i := i) (d := d) t (by simpa using e)
    exact ⟨v, by simpa using h1, h2⟩
theorem dps_get' {K : PySem.W.Frag} {H : Hp} : ∀ {vs : List V} {ds : List PyData} {i : Nat} {v : V}, DpAll K H vs ds → vs[i]? = some v → ∃ d, ds[i]? = some d ∧ Dp K H v d
  | _, _, _, _, .nil, e => by simp at e
  | _, _, 0, _, .cons h t, e => by simp at e; subst e; exact ⟨_, rfl, h⟩
  | _, _, i + 1, v, .cons h t, e => by
    obtain ⟨d, h1, h2⟩ := dps_get' (i := i) (v := v) t (by simpa using e)
    exact ⟨d, by simpa using h1, h2⟩
theorem dps_app {K : PySem.W.Frag} {H : Hp} : ∀ {vs ws : List V} {ds es : List PyData}, DpAll K H vs ds → DpAll K H ws es → DpAll K H (vs ++ ws) (ds ++ es)
  | _, _, _, _, .nil, s => s
  | _, _, _, _, .cons h t, s => .cons h (dps_app t s)
theorem dps_snoc {K : PySem.W.Frag} {H : Hp} {vs : List V} {ds : List PyData} {v : V} {d : PyData} (h : DpAll K H vs ds) (k : Dp K H v d) : DpAll K H (vs ++ [v]) (ds ++ [d]) := dps_app h (.cons k .nil)
theorem dps_strs {K : PySem.W.Frag} {H : Hp} : ∀ {xs : List Str} {vs : List V}, DpAll K H vs (xs.map PyData.str) → vs = xs.map V.str
  | [], _, .nil => rfl
  | x :: xs, _, .cons h t => by cases h; rw [dps_strs t]; rfl
theorem strs_dps {K : PySem.W.Frag} {H : Hp} : ∀ xs : List Str, DpAll K H (xs.map V.str) (xs.map PyData.str)
  | [] => .nil
  | x :: xs => .cons (.str x) (strs_dps xs)
theorem dps_bls {K : PySem.W.Frag} {H : Hp} : ∀ {xs : List Bool} {vs : List V}, DpAll K H vs (xs.map PyData.bool) → vs = xs.map V.bl
  | [], _, .nil => rfl
  | x :: xs, _, .cons h t => by cases h; rw [dps_bls t]; rfl

/-! ### what a value stands for -/
structure SV where
  P : V → Hp → Prop
  mono : ∀ {v : V} {H H' : Hp}, Same H H' → P v H → P v H'
/-- data, all its texts of plain signs, no dict within -/
def D (K : PySem.W.Frag) (d : PyData) : SV := ⟨fun v H => Dp K H v d ∧ d.canLay0 = true, fun e h => ⟨dp_same e h.1, h.2⟩⟩
theorem ok_bl {b : Bool} : (PyData.bool b).canLay0 = true := by simp only [PyData.canLay0]
theorem ok_int {b : Int} : (PyData.int b).canLay0 = true := by simp only [PyData.canLay0]
theorem ok_non : PyData.none.canLay0 = true := by simp only [PyData.canLay0]
theorem ok_str {x : Str} (h : PyData.strOk x = true) : (PyData.str x).canLay0 = true := by simp only [PyData.canLay0]; exact h
theorem str_ok {x : Str} (h : (PyData.str x).canLay0 = true) : PyData.strOk x = true := by simpa only [PyData.canLay0] using h
theorem all_ok : ∀ {ds : List PyData}, PyData.canLayAll0 ds = true ↔ ∀ d ∈ ds, d.canLay0 = true
  | [] => by simp [PyData.canLayAll0]
  | d :: ds => by
    rw [PyData.canLayAll0, Bool.and_eq_true, all_ok (ds := ds)]
    simp
theorem tup_ok {ds : List PyData} : (PyData.tuple ds).canLay0 = true ↔ ∀ d ∈ ds, d.canLay0 = true := by rw [← all_ok]; simp only [PyData.canLay0]
theorem lst_ok {ds : List PyData} : (PyData.list ds).canLay0 = true ↔ ∀ d ∈ ds, d.canLay0 = true := by rw [← all_ok]; simp only [PyData.canLay0]
theorem d_bl {K : PySem.W.Frag} {H : Hp} (b : Bool) : (D K (.bool b)).P (.bl b) H := ⟨.bl b, ok_bl⟩
theorem d_int {K : PySem.W.Frag} {H : Hp} (b : Int) : (D K (.int b)).P (.int b) H := ⟨.int b, ok_int⟩
theorem d_non {K : PySem.W.Frag} {H : Hp} : (D K .none).P .non H := ⟨.non, ok_non⟩
theorem d_str {K : PySem.W.Frag} {H : Hp} {x : Str} (h : PyData.strOk x = true) : (D K (.str x)).P (.str x) H := ⟨.str x, ok_str h⟩
def VV (v : V) : SV := ⟨fun u _ => u = v, fun _ h => h⟩
abbrev Gm := List (Option SV)
/-- the slots stand for these -/
structure Sl (σ : L2.St) (H : Hp) (Γ : Gm) : Prop where
  len : Γ.length ≤ σ.length
  at_ : ∀ (i : Nat) (r : SV), Γ[i]? = some (some r) → ∃ v, σ[i]? = some (some v) ∧ r.P v H
theorem Sl.mono {σ : L2.St} {H H' : Hp} {Γ : Gm} (e : Same H H') (h : Sl σ H Γ) : Sl σ H' Γ := ⟨h.len, fun i r g => by
  obtain ⟨v, h1, h2⟩ := h.at_ i r g
  exact ⟨v, h1, r.mono e h2⟩⟩
theorem Sl.set {σ : L2.St} {H : Hp} {Γ : Gm} {i : Nat} {v : V} {r : SV} (h : Sl σ H Γ) (p : r.P v H) : Sl (σ.set i (some v)) H (Γ.set i (some r)) := ⟨by rw [List.length_set, List.length_set]; exact h.len, fun j q g => by
  by_cases e : i = j
  · subst e
    by_cases l : i < Γ.length
    · rw [List.getElem?_set_self l] at g
      cases g
      exact ⟨v, List.getElem?_set_self (Nat.lt_of_lt_of_le l h.len), p⟩
    · rw [List.getElem?_eq_none (by simpa using l)] at g
      cases g
  · rw [List.getElem?_set_ne e] at g ⊢
    exact h.at_ j q g⟩
def wipeG (Γ : Gm) : List Nat → Gm
  | [] => Γ
  | v :: vs => (wipeG Γ vs).set v none
theorem wipeG_len (Γ : Gm) : ∀ vs : List Nat, (wipeG Γ vs).length = Γ.length
  | [] => rfl
  | v :: vs => by unfold wipeG; rw [List.length_set, wipeG_len Γ vs]
theorem Sl.wipe {σ : L2.St} {H : Hp} {Γ : Gm} (h : Sl σ H Γ) (ws : List Nat) : Sl (L2.wipe σ ws) H (wipeG Γ ws) := by
  refine ⟨by rw [wipeG_len, wipe_length]; exact h.len, ?_⟩
  induction ws with
  | nil => exact h.at_
  | cons w vs ih =>
    intro j q g
    unfold wipeG at g
    unfold L2.wipe
    by_cases e : w = j
    · subst e
      by_cases l : w < (wipeG Γ vs).length
      · rw [List.getElem?_set_self l] at g; cases g
      · rw [List.getElem?_eq_none (by simpa using l)] at g; cases g
    · rw [List.getElem?_set_ne e] at g ⊢
      exact ih j q g
theorem wipe_set {σ : L2.St} {j : Nat} {x : Option V} : ∀ {vs : List Nat}, j ∈ vs → L2.wipe (σ.set j x) vs = L2.wipe σ vs
  | [], h => by cases h
  | w :: vs, h => by
    unfold L2.wipe
    by_cases hj : j ∈ vs
    · rw [wipe_set hj]
    · obtain rfl : j = w := by
        rcases List.mem_cons.mp h with e | e
        · exact e
        · exact absurd e hj
      have key : ∀ (vs : List Nat) (τ : L2.St), j ∉ vs → L2.wipe (τ.set j x) vs = (L2.wipe τ vs).set j x := by
        intro vs
        induction vs with
        | nil => intro τ _; rfl
        | cons a vs ih =>
          intro τ hn
          rw [List.mem_cons, not_or] at hn
          show (L2.wipe (τ.set j x) vs).set a none = ((L2.wipe τ vs).set a none).set j x
          rw [ih τ hn.2, List.set_comm _ _ hn.1]
      rw [key vs σ hj, List.set_set]
theorem wipe_wipe {σ : L2.St} (us : List Nat) : ∀ vs : List Nat, (∀ v ∈ vs, v ∈ us) → L2.wipe (L2.wipe σ vs) us = L2.wipe σ us
  | [], _ => rfl
  | v :: vs, h => by
    show L2.wipe ((L2.wipe σ vs).set v none) us = _
    rw [wipe_set (h v (List.mem_cons_self ..)), wipe_wipe us vs fun w hw => h w (List.mem_cons_of_mem _ hw)]


/-! ### cells: objects that change; the heap without them -/
structure Cl where
  P : Hp → HO → Prop
  mono : ∀ {G G' : Hp} {o : HO}, Same G G' → P G o → P G' o
abbrev Cs := List (Addr × Cl)
abbrev dom (Δ : Cs) : List Addr := Δ.map Prod.fst
structure Hs (Δ : Cs) (G H : Hp) : Prop where
  sub : Same G H
  cell : ∀ q ∈ Δ, G q.1 = none ∧ ∃ o, H q.1 = some o ∧ q.2.P G o
  nd : (dom Δ).Nodup
structure Tr (Δ : Cs) (G H : Hp) (Δ' : Cs) (G' H' : Hp) : Prop where
  hs : Hs Δ' G' H'
  up : Same G G'
  fr : ∀ a u, a ∉ dom Δ → H a = some u → H' a = some u ∧ (G a = none → G' a = none)
  nw : ∀ a ∈ dom Δ', a ∈ dom Δ ∨ H a = none
abbrev Up (G H G' H' : Hp) : Prop := Tr [] G H [] G' H'
theorem Tr.refl {Δ : Cs} {G H : Hp} (h : Hs Δ G H) : Tr Δ G H Δ G H := ⟨h, Same.refl G, fun _ _ _ e => ⟨e, id⟩, fun _ h => .inl h⟩
theorem Tr.trans {Δ Δ1 Δ2 : Cs} {G H G1 H1 G2 H2 : Hp} (t : Tr Δ G H Δ1 G1 H1) (u : Tr Δ1 G1 H1 Δ2 G2 H2) : Tr Δ G H Δ2 G2 H2 := by
  refine ⟨u.hs, t.up.trans u.up, fun a o ha e => ?_, fun a ha => ?_⟩
  · have h1 : a ∉ dom Δ1 := fun h => (t.nw a h).elim ha fun z => by rw [z] at e; cases e
    obtain ⟨e1, k1⟩ := t.fr a o ha e
    obtain ⟨e2, k2⟩ := u.fr a o h1 e1
    exact ⟨e2, fun z => k2 (k1 z)⟩
  · rcases u.nw a ha with h | h
    · exact t.nw a h
    · by_cases z : a ∈ dom Δ
      · exact .inl z
      · refine .inr ?_
        cases e : H a with
        | none => rfl
        | some o => rw [(t.fr a o z e).1] at h; cases h
theorem Hs.nil {G H : Hp} (h : Same G H) : Hs [] G H := ⟨h, fun q hq => (by cases hq), List.nodup_nil⟩
theorem Up.refl {G H : Hp} (h : Same G H) : Up G H G H := Tr.refl (Hs.nil h)
theorem none_of_sub {G H : Hp} {p : Addr} (h : Same G H) (hp : H p = none) : G p = none := by
  cases e : G p with
  | none => rfl
  | some o => rw [h _ _ e] at hp; cases hp
theorem sub_upd {G H : Hp} {p : Addr} {o : HO} (h : Same G H) : Same (upd G p o) (upd H p o) := fun a u e => by
  by_cases z : a = p
  · subst z; rw [upd_same] at e ⊢; exact e
  · rw [upd_ne z] at e ⊢; exact h _ _ e
theorem same_new {H : Hp} {p : Addr} {o : HO} (h : H p = none) : Same H (upd H p o) := fun a u e => by rw [upd_ne (ne_of_none e h)]; exact e
theorem Up.new {G H : Hp} {p : Addr} {o : HO} (h : Same G H) (hp : H p = none) : Up G H (upd G p o) (upd H p o) := by
  refine ⟨Hs.nil (sub_upd h), same_new (none_of_sub h hp), fun a u _ e => ⟨same_new hp _ _ e, fun z => ?_⟩, fun a ha => (by cases ha)⟩
  rw [upd_ne (ne_of_none e hp)]; exact z
/-- a new object that is not looked at -/
theorem Up.hid {G H : Hp} {p : Addr} {o : HO} (h : Same G H) (hp : H p = none) : Up G H G (upd H p o) :=
  ⟨Hs.nil (h.trans (same_new hp)), Same.refl G, fun a u _ e => ⟨same_new hp _ _ e, id⟩, fun a ha => (by cases ha)⟩
theorem Tr.frame {Δ0 Δ0' Δr : Cs} {G H G' H' : Hp} (t : Tr Δ0 G H Δ0' G' H') (h : Hs (Δ0 ++ Δr) G H) : Tr (Δ0 ++ Δr) G H (Δ0' ++ Δr) G' H' := by
  have nd := h.nd
  unfold dom at nd
  rw [List.map_append, List.nodup_append] at nd
  have hr : ∀ q ∈ Δr, q.1 ∉ dom Δ0 := fun q hq z => nd.2.2 q.1 z q.1 (List.mem_map_of_mem hq) rfl
  refine ⟨⟨t.hs.sub, fun q hq => ?_, ?_⟩, t.up, fun a u ha e => t.fr a u (fun z => ha (by unfold dom; rw [List.map_append]; exact List.mem_append_left _ z)) e, fun a ha => ?_⟩
  · rcases List.mem_append.mp hq with m | m
    · exact t.hs.cell q m
    · obtain ⟨g, o, e, p⟩ := h.cell q (List.mem_append_right _ m)
      obtain ⟨e', k⟩ := t.fr q.1 o (hr q m) e
      exact ⟨k g, o, e', q.2.mono t.up p⟩
  · unfold dom
    rw [List.map_append, List.nodup_append]
    refine ⟨t.hs.nd, nd.2.1, fun a ha b hb e => ?_⟩
    subst e
    obtain ⟨q, hq, rfl⟩ := List.mem_map.mp hb
    rcases t.nw q.1 ha with z | z
    · exact hr q hq z
    · obtain ⟨_, o, e, _⟩ := h.cell q (List.mem_append_right _ hq)
      rw [z] at e; cases e
  · unfold dom at ha ⊢
    rw [List.map_append] at ha ⊢
    rcases List.mem_append.mp ha with m | m
    · rcases t.nw a m with z | z
      · exact .inl (List.mem_append_left _ z)
      · exact .inr z
    · exact .inl (List.mem_append_right _ m)
theorem Tr.up0 {Δ : Cs} {G H G' H' : Hp} (t : Up G H G' H') (h : Hs Δ G H) : Tr Δ G H Δ G' H' := t.frame (Δ0 := []) (Δr := Δ) h

/-! ### expressions -/
structure JE (X : Cx) (Δ : Cs) (Γ : Gm) (e : Expr) (r : SV) (Δ' : Cs) : Prop where
  run : ∀ (pins : List (Addr × Obj)) (s : Shared) (σ : L2.St) (G H : Hp), Inv X pins σ H s → Hs Δ G H → Sl σ G Γ → wpAny (model X.prog X.w) X.A (eval e X.env) (EP X pins σ fun v H' => ∃ G', Tr Δ G H Δ' G' H' ∧ r.P v G') X.xe s
structure JB (X : Cx) (Δ : Cs) (Γ : Gm) (e : Expr) (O : Bool → Cs → Prop) : Prop where
  run : ∀ (pins : List (Addr × Obj)) (s : Shared) (σ : L2.St) (G H : Hp), Inv X pins σ H s → Hs Δ G H → Sl σ G Γ → wpAny (model X.prog X.w) X.A (isTrue e X.env (eval e X.env)) (TP X pins σ fun c H' => ∃ G' Δ', O c Δ' ∧ Tr Δ G H Δ' G' H') X.xe s
structure JW (X : Cx) (Δ : Cs) (Γ : Gm) (e : Expr) (O : Bool → Cs → Prop) : Prop where
  run : ∀ (whole : Sem Value) (pins : List (Addr × Obj)) (s : Shared) (σ : L2.St) (G H : Hp), Inv X pins σ H s → Hs Δ G H → Sl σ G Γ → wpAny (model X.prog X.w) X.A (isTrue e X.env whole) (TP X pins σ fun c H' => ∃ G' Δ', O c Δ' ∧ Tr Δ G H Δ' G' H') X.xe s
abbrev PR (G : Hp) (vs : List V) (rs : List SV) : Prop := Paired (fun (v : V) (r : SV) => r.P v G) vs rs
structure JA (X : Cx) (Δ : Cs) (Γ : Gm) (es : List Expr) (rs : List SV) (Δ' : Cs) : Prop where
  run : ∀ (pos : Pos) (pins : List (Addr × Obj)) (s : Shared) (σ : L2.St) (G H : Hp), Inv X pins σ H s → Hs Δ G H → Sl σ G Γ →
    wpAny (model X.prog X.w) X.A (spliced (backTo pos (starEach es X.env))) (AP X pins σ fun vs H' => ∃ G', Tr Δ G H Δ' G' H' ∧ PR G' vs rs) X.xe s
/-- the answer b, the cells as they are -/
abbrev dB (b : Bool) (Δ : Cs) : Bool → Cs → Prop := fun c Δ' => c = b ∧ Δ' = Δ
def tJ (Δ : Cs) (Γ : Gm) (r : SV) (Δ' : Cs) : TE := fun σ H Q => ∃ G, Hs Δ G H ∧ Sl σ G Γ ∧ ∀ v G' H', Tr Δ G H Δ' G' H' → r.P v G' → Q v H'
def tJB (Δ : Cs) (Γ : Gm) (O : Bool → Cs → Prop) : TT := fun σ H Q => ∃ G, Hs Δ G H ∧ Sl σ G Γ ∧ ∀ c G' Δ' H', O c Δ' → Tr Δ G H Δ' G' H' → Q c H'
def tJA (Δ : Cs) (Γ : Gm) (rs : List SV) (Δ' : Cs) : TA := fun σ H Q => ∃ G, Hs Δ G H ∧ Sl σ G Γ ∧ ∀ vs G' H', Tr Δ G H Δ' G' H' → PR G' vs rs → Q vs H'
theorem paired_mono {rs : List SV} {H H' : Hp} (e : Same H H') {vs : List V} (h : PR H vs rs) : PR H' vs rs := Paired.mapP h fun _ r p => r.mono e p
section
variable {X : Cx} {e a b c : Expr} {es : List Expr} {Γ : Gm} {Δ Δ1 Δ2 Δ' : Cs} {r ra rb rc : SV} {rs : List SV} {pos : Pos} {t : TE} {tt : TT} {ta : TA} {bb : Bool} {O O1 O2 : Bool → Cs → Prop}
theorem JE.use (h : JE X Δ Γ e r Δ') : PE X e (tJ Δ Γ r Δ') := ⟨fun pins s σ H Q I ⟨G, hs, sl, k⟩ => thn (h.run pins s σ G H I hs sl) fun u s' ⟨v, H', I', rv, G', t, p⟩ => ⟨v, H', I', rv, k v G' H' t p⟩⟩
theorem JB.use (h : JB X Δ Γ e O) : PT X e (tJB Δ Γ O) := ⟨fun pins s σ H Q I ⟨G, hs, sl, k⟩ => thn (h.run pins s σ G H I hs sl) fun c s' ⟨H', I', G', Δ', o, t⟩ => ⟨H', I', k c G' Δ' H' o t⟩⟩
theorem JW.use (h : JW X Δ Γ e O) : PW X e (tJB Δ Γ O) := ⟨fun wh pins s σ H Q I ⟨G, hs, sl, k⟩ => thn (h.run wh pins s σ G H I hs sl) fun c s' ⟨H', I', G', Δ', o, t⟩ => ⟨H', I', k c G' Δ' H' o t⟩⟩
theorem JA.use (h : JA X Δ Γ es rs Δ') : PA X es (tJA Δ Γ rs Δ') := ⟨fun pos pins s σ H Q I ⟨G, hs, sl, k⟩ => thn (h.run pos pins s σ G H I hs sl) fun us s' ⟨vs, H', I', rv, G', t, p⟩ => ⟨vs, H', I', rv, k vs G' H' t p⟩⟩
theorem je_of (h : PE X e t) (k : ∀ (σ : L2.St) (G H : Hp) (Q : VK), Hs Δ G H → Sl σ G Γ → (∀ v G' H', Tr Δ G H Δ' G' H' → r.P v G' → Q v H') → t σ H Q) : JE X Δ Γ e r Δ' :=
  ⟨fun pins s σ G H I hs sl => h.run pins s σ H _ I (k σ G H _ hs sl fun v G' H' t p => ⟨G', t, p⟩)⟩
theorem jb_of (h : PT X e tt) (k : ∀ (σ : L2.St) (G H : Hp) (Q : Bool → Hp → Prop), Hs Δ G H → Sl σ G Γ → (∀ c G' Δ' H', O c Δ' → Tr Δ G H Δ' G' H' → Q c H') → tt σ H Q) : JB X Δ Γ e O :=
  ⟨fun pins s σ G H I hs sl => h.run pins s σ H _ I (k σ G H _ hs sl fun c G' Δ' H' o t => ⟨G', Δ', o, t⟩)⟩
theorem jw_of (h : PW X e tt) (k : ∀ (σ : L2.St) (G H : Hp) (Q : Bool → Hp → Prop), Hs Δ G H → Sl σ G Γ → (∀ c G' Δ' H', O c Δ' → Tr Δ G H Δ' G' H' → Q c H') → tt σ H Q) : JW X Δ Γ e O :=
  ⟨fun wh pins s σ G H I hs sl => h.run wh pins s σ H _ I (k σ G H _ hs sl fun c G' Δ' H' o t => ⟨G', Δ', o, t⟩)⟩
theorem ja_of (h : PA X es ta) (k : ∀ (σ : L2.St) (G H : Hp) (Q : List V → Hp → Prop), Hs Δ G H → Sl σ G Γ → (∀ vs G' H', Tr Δ G H Δ' G' H' → PR G' vs rs → Q vs H') → ta σ H Q) : JA X Δ Γ es rs Δ' :=
  ⟨fun pos pins s σ G H I hs sl => h.run pos pins s σ H _ I (k σ G H _ hs sl fun vs G' H' t p => ⟨G', t, p⟩)⟩
/-- the same, told otherwise -/
theorem JE.to {r' : SV} (h : JE X Δ Γ e r Δ') (k : ∀ v G, r.P v G → r'.P v G) : JE X Δ Γ e r' Δ' := je_of h.use fun σ G H Q hs sl q => ⟨G, hs, sl, fun v G' H' t p => q v G' H' t (k v G' p)⟩
theorem JE.eq {d d' : PyData} (h : JE X Δ Γ e (D X.K d) Δ') (k : d = d') : JE X Δ Γ e (D X.K d') Δ' := by rw [← k]; exact h
theorem JB.eq {b b' : Bool} (h : JB X Δ Γ e (dB b Δ')) (k : b = b') : JB X Δ Γ e (dB b' Δ') := by rw [← k]; exact h
theorem JB.to (h : JB X Δ Γ e O) (k : ∀ c Δ', O c Δ' → O2 c Δ') : JB X Δ Γ e O2 := jb_of h.use fun σ G H Q hs sl q => ⟨G, hs, sl, fun c G' Δ' H' o t => q c G' Δ' H' (k c Δ' o) t⟩
/-- what holds of a value: by cases on what it stands for -/
def SV.ex {ι : Type} (C : ι → Prop) (f : ι → SV) : SV := ⟨fun v G => ∃ i, C i ∧ (f i).P v G, fun e ⟨i, c, p⟩ => ⟨i, c, (f i).mono e p⟩⟩

/-! names, constants -/
theorem je_var (i : Nat) {x : Str} (hg : Γ[i]? = some (some r) := by rfl) (hN : X.N[i]? = some x := by rfl) (hv : Vis X.env.scope x := by first | exact Or.inl rfl | exact Or.inr (Or.inl rfl) | exact Or.inr (Or.inr rfl))
    (hd : (x == ("__debug__" : Str)) = false := by decide) (hcd : (x == ("__classdict__" : Str)) = false := by decide) : JE X Δ Γ (.Name x pos) r Δ :=
  je_of (pe_var hN hv hd hcd) fun σ G H Q hs sl q => by
    obtain ⟨v, h1, h2⟩ := sl.at_ i r hg
    exact ⟨v, h1, q v G H (Tr.refl hs) h2⟩
theorem je_int {i : Int} {j : Nat} : JE X Δ Γ (.Constant (.int i) j pos) (D X.K (.int i)) Δ := je_of pe_int fun σ G H Q hs sl q => q _ G H (Tr.refl hs) (d_int i)
theorem je_str {x : Str} {j : Nat} (hs : PyData.strOk x = true := by decide +kernel) : JE X Δ Γ (.Constant (.str x) j pos) (D X.K (.str x)) Δ := je_of pe_str fun σ G H Q h sl q => q _ G H (Tr.refl h) (d_str hs)
theorem je_bl {x : Bool} {j : Nat} : JE X Δ Γ (.Constant (.bool x) j pos) (D X.K (.bool x)) Δ := je_of pe_bl fun σ G H Q hs sl q => q _ G H (Tr.refl hs) (d_bl x)
theorem je_non {j : Nat} : JE X Δ Γ (.Constant .none j pos) (D X.K .none) Δ := je_of pe_non fun σ G H Q hs sl q => q _ G H (Tr.refl hs) d_non
theorem je_gstr {x z : Str} (h : ∃ t, X.mg x = some (.str z t)) (hz : PyData.strOk z = true := by decide +kernel) (hg : Gl X x := by rfl) (hd : (x == ("__debug__" : Str)) = false := by decide) : JE X Δ Γ (.Name x pos) (D X.K (.str z)) Δ := by
  obtain ⟨t, h⟩ := h
  exact je_of (pe_glob (v := .str z) hg h ⟨t, rfl⟩ hd) fun σ G H Q hs sl q => q _ G H (Tr.refl hs) (d_str hz)
theorem je_gint {x : Str} {z : Int} (h : ∃ t, X.mg x = some (.int z t)) (hg : Gl X x := by rfl) (hd : (x == ("__debug__" : Str)) = false := by decide) : JE X Δ Γ (.Name x pos) (D X.K (.int z)) Δ := by
  obtain ⟨t, h⟩ := h
  exact je_of (pe_glob (v := .int z) hg h ⟨t, rfl⟩ hd) fun σ G H Q hs sl q => q _ G H (Tr.refl hs) (d_int z)
theorem je_gval {x : Str} {v : V} {u : Value} (h : X.mg x = some u) (hr : RelV v u) (hg : Gl X x := by rfl) (hd : (x == ("__debug__" : Str)) = false := by decide) : JE X Δ Γ (.Name x pos) (VV v) Δ :=
  je_of (pe_glob hg h hr hd) fun σ G H Q hs sl q => q _ G H (Tr.refl hs) rfl
theorem je_bty {x : Str} {n : String} (hm : X.mg x = none) (hv : bootBuiltins x = some (.type n)) (hg : Gl X x := by rfl) (hn : x ≠ "__name__" := by decide) (hd : (x == ("__debug__" : Str)) = false := by decide) : JE X Δ Γ (.Name x pos) (VV (.ty n)) Δ :=
  je_of (pe_bltn (v := .ty n) hg hm hv rfl hn hd) fun σ G H Q hs sl q => q _ G H (Tr.refl hs) rfl

/-! two-place operations by values -/
def RVs (o : R2) (ra rb r : SV) : Prop := ∀ (x y : V) (G H : Hp) (Q : VK), Same G H → ra.P x G → rb.P y G → (∀ v G' H', Up G H G' H' → r.P v G' → Q v H') → o x y H Q
theorem ev_bin {o : R2} {σ : L2.St} {G H : Hp} {Q : VK} (k : RVs o ra rb r) (hs : Hs Δ G H) (sl : Sl σ G Γ) (q : ∀ v G' H', Tr Δ G H Δ2 G' H' → r.P v G' → Q v H') : tOp o (tJ Δ Γ ra Δ1) (tJ Δ1 Γ rb Δ2) σ H Q :=
  ⟨G, hs, sl, fun x G1 H1 t1 p1 => ⟨G1, t1.hs, sl.mono t1.up, fun y G2 H2 t2 p2 => k x y G2 H2 Q t2.hs.sub (ra.mono t2.up p1) p2 fun v G' H' t3 p => q v G' H' ((t1.trans t2).trans (t3.up0 t2.hs)) p⟩⟩
theorem je_op {op : Operator} {o : R2} (ho : OpR X (binaryOp op) o) (ha : JE X Δ Γ a ra Δ1) (hb : JE X Δ1 Γ b rb Δ2) (k : RVs o ra rb r) : JE X Δ Γ (.BinOp a op b pos) r Δ2 :=
  je_of (pe_op ho ha.use hb.use) fun σ G H Q hs sl q => ev_bin k hs sl q
theorem je_cmp {op : CmpOp} {o : R2} (ho : OpR X (compareOp op) o) (ha : JE X Δ Γ a ra Δ1) (hb : JE X Δ1 Γ b rb Δ2) (k : RVs o ra rb r) (hm : behindInMarks op b = false := by first | exact nomark _ | rfl | with_unfolding_all rfl) : JE X Δ Γ (.Compare a [op] [b] pos) r Δ2 :=
  je_of (pe_cmpR ho ha.use hb.use hm) fun σ G H Q hs sl q => ev_bin k hs sl q
theorem jb_cmp {op : CmpOp} {o : R2} (ho : OpR X (compareOp op) o) (ha : JE X Δ Γ a ra Δ1) (hb : JE X Δ1 Γ b rb Δ2) (k : RVs o ra rb (D X.K (.bool bb))) (hm : behindInMarks op b = false := by first | exact nomark _ | rfl | with_unfolding_all rfl) : JB X Δ Γ (.Compare a [op] [b] pos) (dB bb Δ2) :=
  jb_of (pt_cmpR ho ha.use hb.use hm) fun σ G H Q hs sl q => ev_bin (Δ2 := Δ2) (Q := fun x H' => ∃ k, x = .bl k ∧ Q k H') k hs sl fun v G' H' t p => by
    cases p.1
    exact ⟨bb, rfl, q _ G' Δ2 H' ⟨rfl, rfl⟩ t⟩
/-- a value that is a bool, as a test -/
theorem jb_val (h : JE X Δ Γ e (D X.K (.bool bb)) Δ') (he : ∀ whole, isTrue e X.env whole = (do let v ← whole; standAt e.pos; holding [v] (truthy v)) := by intro _; rfl) : JB X Δ Γ e (dB bb Δ') :=
  jb_of (pt_val h.use he) fun σ G H Q hs sl q => ⟨G, hs, sl, fun v G' H' t p => by
    cases p.1
    exact ⟨bb, rfl, q _ G' Δ' H' ⟨rfl, rfl⟩ t⟩⟩
/-- whatever bool it is -/
def sB : SV := ⟨fun v _ => ∃ b, v = .bl b, fun _ h => h⟩
theorem jb_any (h : JE X Δ Γ e sB Δ') (he : ∀ whole, isTrue e X.env whole = (do let v ← whole; standAt e.pos; holding [v] (truthy v)) := by intro _; rfl) : JB X Δ Γ e (fun _ Δ2 => Δ2 = Δ') :=
  jb_of (pt_val h.use he) fun σ G H Q hs sl q => ⟨G, hs, sl, fun v G' H' t p => by
    obtain ⟨b, rfl⟩ := p
    exact ⟨b, rfl, q _ G' Δ' H' rfl t⟩⟩

/-! and, or, not -/
theorem jw_and1 (h : JB X Δ Γ a O) : JW X Δ Γ (.BoolOp .And [a] pos) O := jw_of (pw_and1 h.use) fun σ G H Q hs sl q => ⟨G, hs, sl, q⟩
theorem jw_or1 (h : JB X Δ Γ a O) : JW X Δ Γ (.BoolOp .Or [a] pos) O := jw_of (pw_or1 h.use) fun σ G H Q hs sl q => ⟨G, hs, sl, q⟩
theorem jw_andO {rest : List Expr} (h1 : JB X Δ Γ a O1) (h2 : ∀ Δ1, O1 true Δ1 → JW X Δ1 Γ (.BoolOp .And (b :: rest) pos) O) (h3 : ∀ Δ1, O1 false Δ1 → O false Δ1) : JW X Δ Γ (.BoolOp .And (a :: b :: rest) pos) O :=
  jw_of (pw_and h1.use (tB' := fun σ H Q => ∃ Δ1, O1 true Δ1 ∧ tJB Δ1 Γ O σ H Q) ⟨fun wh pins s σ H Q I ⟨Δ1, o, h⟩ => (h2 Δ1 o).use.run wh pins s σ H Q I h⟩) fun σ G H Q hs sl q => ⟨G, hs, sl, fun c G1 Δ1 H1 o t => by
    cases c with
    | true => exact ⟨Δ1, o, G1, t.hs, sl.mono t.up, fun c G2 Δ2 H2 o2 t2 => q c G2 Δ2 H2 o2 (t.trans t2)⟩
    | false => exact q _ G1 Δ1 H1 (h3 _ o) t⟩
theorem jw_orO {rest : List Expr} (h1 : JB X Δ Γ a O1) (h2 : ∀ Δ1, O1 false Δ1 → JW X Δ1 Γ (.BoolOp .Or (b :: rest) pos) O) (h3 : ∀ Δ1, O1 true Δ1 → O true Δ1) : JW X Δ Γ (.BoolOp .Or (a :: b :: rest) pos) O :=
  jw_of (pw_or h1.use (tB' := fun σ H Q => ∃ Δ1, O1 false Δ1 ∧ tJB Δ1 Γ O σ H Q) ⟨fun wh pins s σ H Q I ⟨Δ1, o, h⟩ => (h2 Δ1 o).use.run wh pins s σ H Q I h⟩) fun σ G H Q hs sl q => ⟨G, hs, sl, fun c G1 Δ1 H1 o t => by
    cases c with
    | true => exact q _ G1 Δ1 H1 (h3 _ o) t
    | false => exact ⟨Δ1, o, G1, t.hs, sl.mono t.up, fun c G2 Δ2 H2 o2 t2 => q c G2 Δ2 H2 o2 (t.trans t2)⟩⟩
theorem jw_and {rest : List Expr} {b1 b2 : Bool} (h1 : JB X Δ Γ a (dB b1 Δ)) (h2 : b1 = true → JW X Δ Γ (.BoolOp .And (b :: rest) pos) (dB b2 Δ)) : JW X Δ Γ (.BoolOp .And (a :: b :: rest) pos) (dB (b1 && b2) Δ) := by
  refine jw_andO h1 (fun Δ1 ⟨e1, e2⟩ => ?_) fun Δ1 ⟨e1, e2⟩ => ⟨by rw [← e1]; rfl, e2⟩
  subst e2
  have := h2 e1.symm
  rw [← e1]; exact this
theorem jw_or {rest : List Expr} {b1 b2 : Bool} (h1 : JB X Δ Γ a (dB b1 Δ)) (h2 : b1 = false → JW X Δ Γ (.BoolOp .Or (b :: rest) pos) (dB b2 Δ)) : JW X Δ Γ (.BoolOp .Or (a :: b :: rest) pos) (dB (b1 || b2) Δ) := by
  refine jw_orO h1 (fun Δ1 ⟨e1, e2⟩ => ?_) fun Δ1 ⟨e1, e2⟩ => ⟨by rw [← e1]; rfl, e2⟩
  subst e2
  have := h2 e1.symm
  rw [← e1]; exact this
theorem JW.jb (h : JW X Δ Γ e O) : JB X Δ Γ e O := ⟨fun pins s σ G H I hs sl => h.run _ pins s σ G H I hs sl⟩
theorem jb_not (h : JB X Δ Γ a (dB bb Δ')) : JB X Δ Γ (.UnaryOp .Not a pos) (dB (!bb) Δ') := jb_of (pt_not h.use) fun σ G H Q hs sl q => ⟨G, hs, sl, fun c G1 Δ1 H1 ⟨e1, e2⟩ t => q _ G1 Δ1 H1 ⟨by rw [e1], e2⟩ t⟩
/-- as values -/
theorem je_one {op : PySem.BoolOp} (h : JE X Δ Γ a r Δ') : JE X Δ Γ (.BoolOp op [a] pos) r Δ' := je_of (pe_one h.use) fun σ G H Q hs sl q => ⟨G, hs, sl, q⟩
theorem je_and {rest : List Expr} {b1 b2 : Bool} (h1 : JE X Δ Γ a (D X.K (.bool b1)) Δ) (h2 : b1 = true → JE X Δ Γ (.BoolOp .And (b :: rest) pos) (D X.K (.bool b2)) Δ) : JE X Δ Γ (.BoolOp .And (a :: b :: rest) pos) (D X.K (.bool (b1 && b2))) Δ :=
  je_of (pe_and h1.use (tb := fun σ H Q => b1 = true ∧ tJ Δ Γ (D X.K (.bool b2)) Δ σ H Q) ⟨fun pins s σ H Q I h => (h2 h.1).use.run pins s σ H Q I h.2⟩) fun σ G H Q hs sl q => ⟨G, hs, sl, fun v G1 H1 t p => by
    cases p.1
    refine ⟨b1, rfl, ?_⟩
    cases b1 with
    | true => exact ⟨rfl, G1, t.hs, sl.mono t.up, fun v G2 H2 t2 p => q v G2 H2 (t.trans t2) p⟩
    | false => exact q _ G1 H1 t (d_bl false)⟩
theorem je_or {rest : List Expr} {b1 b2 : Bool} (h1 : JE X Δ Γ a (D X.K (.bool b1)) Δ) (h2 : b1 = false → JE X Δ Γ (.BoolOp .Or (b :: rest) pos) (D X.K (.bool b2)) Δ) : JE X Δ Γ (.BoolOp .Or (a :: b :: rest) pos) (D X.K (.bool (b1 || b2))) Δ :=
  je_of (pe_or h1.use (tb := fun σ H Q => b1 = false ∧ tJ Δ Γ (D X.K (.bool b2)) Δ σ H Q) ⟨fun pins s σ H Q I h => (h2 h.1).use.run pins s σ H Q I h.2⟩) fun σ G H Q hs sl q => ⟨G, hs, sl, fun v G1 H1 t p => by
    cases p.1
    refine ⟨b1, rfl, ?_⟩
    cases b1 with
    | true => exact q _ G1 H1 t (d_bl true)
    | false => exact ⟨rfl, G1, t.hs, sl.mono t.up, fun v G2 H2 t2 p => q v G2 H2 (t.trans t2) p⟩⟩
theorem je_not {b1 : Bool} (h : JE X Δ Γ a (D X.K (.bool b1)) Δ') : JE X Δ Γ (.UnaryOp .Not a pos) (D X.K (.bool (!b1))) Δ' :=
  je_of (pe_not h.use) fun σ G H Q hs sl q => ⟨G, hs, sl, fun v G1 H1 t p => by
    cases p.1
    exact ⟨b1, rfl, q _ G1 H1 t (d_bl _)⟩⟩
theorem je_ifO (hc : JB X Δ Γ c O) (h1 : ∀ Δ1, O true Δ1 → JE X Δ1 Γ a r Δ') (h2 : ∀ Δ1, O false Δ1 → JE X Δ1 Γ b r Δ') : JE X Δ Γ (.IfExp c a b pos) r Δ' :=
  je_of (pe_ifExp hc.use (ta := fun σ H Q => ∃ Δ1, O true Δ1 ∧ tJ Δ1 Γ r Δ' σ H Q) (tb := fun σ H Q => ∃ Δ1, O false Δ1 ∧ tJ Δ1 Γ r Δ' σ H Q) ⟨fun pins s σ H Q I ⟨Δ1, o, h⟩ => (h1 Δ1 o).use.run pins s σ H Q I h⟩ ⟨fun pins s σ H Q I ⟨Δ1, o, h⟩ => (h2 Δ1 o).use.run pins s σ H Q I h⟩) fun σ G H Q hs sl q => ⟨G, hs, sl, fun c G1 Δ1 H1 o t => by
    cases c with
    | true => exact ⟨Δ1, o, G1, t.hs, sl.mono t.up, fun v G2 H2 t2 p => q v G2 H2 (t.trans t2) p⟩
    | false => exact ⟨Δ1, o, G1, t.hs, sl.mono t.up, fun v G2 H2 t2 p => q v G2 H2 (t.trans t2) p⟩⟩
theorem je_if (hc : JB X Δ Γ c (dB bb Δ1)) (h1 : bb = true → JE X Δ1 Γ a r Δ') (h2 : bb = false → JE X Δ1 Γ b r Δ') : JE X Δ Γ (.IfExp c a b pos) r Δ' :=
  je_ifO hc (fun _ ⟨e1, e2⟩ => by rw [e2]; exact h1 e1.symm) fun _ ⟨e1, e2⟩ => by rw [e2]; exact h2 e1.symm

/-! arguments -/
theorem ja_nil : JA X Δ Γ [] [] Δ := ja_of pa_nil fun σ G H Q hs sl q => q [] G H (Tr.refl hs) .nil
theorem ja_cons (h : JE X Δ Γ e r Δ1) (hr : JA X Δ1 Γ es rs Δ2) (hs : starEach (e :: es) X.env = (false, eval e X.env) :: starEach es X.env := by rfl) : JA X Δ Γ (e :: es) (r :: rs) Δ2 :=
  ja_of (pa_cons h.use hr.use hs) fun σ G H Q hs sl q => ⟨G, hs, sl, fun v G1 H1 t p => ⟨G1, t.hs, sl.mono t.up, fun vs G2 H2 t2 ps => q (v :: vs) G2 H2 (t.trans t2) (.cons (r.mono t2.up p) ps)⟩⟩
end
end Bl
set_option Elab.async false
set_option linter.all false
set_option maxRecDepth 100000
set_option maxHeartbeats 2000000
namespace Bl
open PySem PySem.Spec PyProof.Rows L2

/-! ### lists that stand by themselves -/
def AllOk (ds : List PyData) : Prop := ∀ d ∈ ds, d.canLay0 = true
theorem allok_app {ds es : List PyData} (h1 : AllOk ds) (h2 : AllOk es) : AllOk (ds ++ es) := fun d hd => (List.mem_append.mp hd).elim (h1 d) (h2 d)
theorem allok_nil : AllOk [] := fun d hd => by cases hd
theorem allok_cons {d : PyData} {ds : List PyData} (h1 : d.canLay0 = true) (h2 : AllOk ds) : AllOk (d :: ds) := fun e he => (List.mem_cons.mp he).elim (fun q => q ▸ h1) (h2 e)
def L (K : PySem.W.Frag) (ds : List PyData) : SV := ⟨fun v H => ∃ a xs, v = .ref a ∧ H a = some (.lst xs) ∧ DpAll K H xs ds ∧ AllOk ds, fun e ⟨a, xs, h1, h2, h3, h4⟩ => ⟨a, xs, h1, e _ _ h2, dps_same e h3, h4⟩⟩
theorem L.d {K : PySem.W.Frag} {ds : List PyData} {v : V} {H : Hp} (h : (L K ds).P v H) : (D K (.list ds)).P v H := by
  obtain ⟨a, xs, rfl, h2, h3, h4⟩ := h
  exact ⟨.lst (SqL.of h2) h3, lst_ok.mpr h4⟩
theorem d_tup {K : PySem.W.Frag} {ds : List PyData} {v : V} {H : Hp} (h : (D K (.tuple ds)).P v H) : ∃ a xs, v = .ref a ∧ SqT K H a xs ∧ DpAll K H xs ds ∧ AllOk ds := by
  obtain ⟨h, k⟩ := h
  cases h with
  | tup s a => exact ⟨_, _, rfl, s, a, tup_ok.mp k⟩
theorem d_lst {K : PySem.W.Frag} {ds : List PyData} {v : V} {H : Hp} (h : (D K (.list ds)).P v H) : ∃ a xs, v = .ref a ∧ SqL K H a xs ∧ DpAll K H xs ds ∧ AllOk ds := by
  obtain ⟨h, k⟩ := h
  cases h with
  | lst s a => exact ⟨_, _, rfl, s, a, lst_ok.mp k⟩
theorem mk_tup {K : PySem.W.Frag} {ds : List PyData} {a : Addr} {xs : List V} {H : Hp} (s : SqT K H a xs) (h : DpAll K H xs ds) (k : AllOk ds) : (D K (.tuple ds)).P (.ref a) H := ⟨.tup s h, tup_ok.mpr k⟩
theorem mk_lst {K : PySem.W.Frag} {ds : List PyData} {a : Addr} {xs : List V} {H : Hp} (s : SqL K H a xs) (h : DpAll K H xs ds) (k : AllOk ds) : (D K (.list ds)).P (.ref a) H := ⟨.lst s h, lst_ok.mpr k⟩
/-- a new tuple, a new list -/
theorem new_tup {K : PySem.W.Frag} {ds : List PyData} {xs : List V} {H : Hp} {p : Addr} (hp : H p = none) (h : DpAll K H xs ds) (k : AllOk ds) : (D K (.tuple ds)).P (.ref p) (upd H p (.tup xs)) :=
  mk_tup (SqT.of upd_same) (dps_same (same_new hp) h) k
theorem new_lst {K : PySem.W.Frag} {ds : List PyData} {xs : List V} {H : Hp} {p : Addr} (hp : H p = none) (h : DpAll K H xs ds) (k : AllOk ds) : (L K ds).P (.ref p) (upd H p (.lst xs)) :=
  ⟨p, xs, rfl, upd_same, dps_same (same_new hp) h, k⟩
/-- what the arguments' values stand for -/
theorem paired_dps {K : PySem.W.Frag} {H : Hp} : ∀ {ds : List PyData} {vs : List V}, Paired (fun (v : V) (r : SV) => r.P v H) vs (ds.map (D K)) → DpAll K H vs ds ∧ AllOk ds
  | [], _, h => by cases h; exact ⟨.nil, allok_nil⟩
  | d :: ds, _, h => by
    have h' : Paired (fun (v : V) (r : SV) => r.P v H) _ (D K d :: ds.map (D K)) := h
    cases h' with
    | cons p t =>
      obtain ⟨q1, q2⟩ := paired_dps t
      exact ⟨.cons p.1 q1, allok_cons p.2 q2⟩

/-! ### data of a kind -/
structure Enc {α : Type} [DecidableEq α] (n : Nat) (enc : α → PyData) : Prop where
  dep : ∀ x, (enc x).depth ≤ n
  eqv : ∀ x y, PyData.eqv (enc x) (enc y) = decide (x = y)
theorem enc_str : Enc 0 PyData.str := ⟨fun x => by simp [PyData.depth], fun x y => by simp [PyData.eqv, Bool.beq_eq_decide_eq]⟩
theorem depth_map {α : Type} {n : Nat} {enc : α → PyData} (h : ∀ x, (enc x).depth ≤ n) : ∀ l : List α, PyData.depthAll (l.map enc) ≤ n
  | [] => by simp [PyData.depthAll]
  | x :: l => by
    have := depth_map h l
    have := h x
    simp only [List.map_cons, PyData.depthAll]
    omega
theorem eqv_map {α : Type} [DecidableEq α] {enc : α → PyData} (h : ∀ x y, PyData.eqv (enc x) (enc y) = decide (x = y)) : ∀ l m : List α, PyData.eqvAll (l.map enc) (m.map enc) = decide (l = m)
  | [], [] => by simp [PyData.eqvAll]
  | [], y :: m => by simp [PyData.eqvAll]
  | x :: l, [] => by simp [PyData.eqvAll]
  | x :: l, y :: m => by
    simp only [List.map_cons, PyData.eqvAll, h, eqv_map h l m, List.cons.injEq, Bool.decide_and]
theorem enc_tup {α : Type} [DecidableEq α] {n : Nat} {enc : α → PyData} (E : Enc n enc) : Enc (n + 1) fun l : List α => .tuple (l.map enc) :=
  ⟨fun l => by have := depth_map E.dep l; simp only [PyData.depth]; omega, fun l m => by simp only [PyData.eqv]; exact eqv_map E.eqv l m⟩
theorem enc_lst {α : Type} [DecidableEq α] {n : Nat} {enc : α → PyData} (E : Enc n enc) : Enc (n + 1) fun l : List α => .list (l.map enc) :=
  ⟨fun l => by have := depth_map E.dep l; simp only [PyData.depth]; omega, fun l m => by simp only [PyData.eqv]; exact eqv_map E.eqv l m⟩
/-- a tuple of texts; tuples of these -/
def eS (l : List Str) : PyData := .tuple (l.map .str)
theorem enc_eS : Enc 1 eS := enc_tup enc_str
def eO : Option Str → PyData
  | none => .none
  | some x => .str x
theorem enc_eO : Enc 0 eO := ⟨fun x => by cases x <;> simp [eO, PyData.depth], fun x y => by cases x <;> cases y <;> simp [eO, PyData.eqv, Bool.beq_eq_decide_eq]⟩
/-- a copy, a find -/
def eC (c : Str × List Str) : PyData := .tuple [.str c.1, eS c.2]
def eF (f : Str × List (Option Str)) : PyData := .tuple [.str f.1, .tuple (f.2.map eO)]
theorem enc_eC : Enc 2 eC := by
  refine ⟨fun c => ?_, fun c d => ?_⟩
  · have := enc_eS.dep c.2
    simp only [eC, PyData.depth, PyData.depthAll]
    omega
  · obtain ⟨a, b⟩ := c
    obtain ⟨a', b'⟩ := d
    simp only [eC, PyData.eqv, PyData.eqvAll, enc_eS.eqv, Bool.and_true, Prod.mk.injEq, Bool.decide_and, Bool.beq_eq_decide_eq]
theorem enc_eF : Enc 2 eF := by
  refine ⟨fun c => ?_, fun c d => ?_⟩
  · have := (enc_tup enc_eO).dep c.2
    simp only [eF, PyData.depth, PyData.depthAll] at *
    omega
  · obtain ⟨a, b⟩ := c
    obtain ⟨a', b'⟩ := d
    have := (enc_tup enc_eO).eqv b b'
    simp only [eF, PyData.eqv, PyData.eqvAll, Bool.and_true, Prod.mk.injEq, Bool.decide_and, Bool.beq_eq_decide_eq] at *
    rw [this]

section
variable {X : Cx} {e a b c : Expr} {es : List Expr} {Γ : Gm} {Δ Δ1 Δ2 Δ3 : Cs} {r ra rb rc : SV} {rs : List SV} {pos : Pos} {d d1 d2 : PyData} {ds ds1 ds2 : List PyData}
theorem JE.lst (h : JE X Δ Γ e (L X.K ds) Δ1) : JE X Δ Γ e (D X.K (.list ds)) Δ1 := h.to fun _ _ => L.d
theorem JE.leq {ds' : List PyData} (h : JE X Δ Γ e (L X.K ds) Δ1) (k : ds = ds') : JE X Δ Γ e (L X.K ds') Δ1 := by rw [← k]; exact h

/-! ### equality -/
theorem shaped_of (h1 : d.canLay0 = true) (h2 : d.depth ≤ 64) : SeqAt.shaped d = true := by
  show (d.canLay0 && decide (d.depth ≤ 64)) = true
  rw [h1, decide_eq_true h2]; rfl
theorem rv_eqD (h1 : d1.depth ≤ 64) (h2 : d2.depth ≤ 64) : RVs (rEqD X.K) (D X.K d1) (D X.K d2) (D X.K (.bool (PyData.eqv d1 d2))) := fun x y G H Q sg p1 p2 q =>
  ⟨d1, d2, dp_same sg p1.1, dp_same sg p2.1, shaped_of p1.2 h1, shaped_of p2.2 h2, q _ G H (Up.refl sg) (d_bl _)⟩
theorem rv_neD (h1 : d1.depth ≤ 64) (h2 : d2.depth ≤ 64) : RVs (rNeD X.K) (D X.K d1) (D X.K d2) (D X.K (.bool (!PyData.eqv d1 d2))) := fun x y G H Q sg p1 p2 q =>
  ⟨d1, d2, dp_same sg p1.1, dp_same sg p2.1, shaped_of p1.2 h1, shaped_of p2.2 h2, q _ G H (Up.refl sg) (d_bl _)⟩
theorem rv_eqE {α : Type} [DecidableEq α] {n : Nat} {enc : α → PyData} (E : Enc n enc) {x y : α} (hn : n ≤ 64 := by decide) : RVs (rEqD X.K) (D X.K (enc x)) (D X.K (enc y)) (D X.K (.bool (decide (x = y)))) := by
  rw [← E.eqv]
  exact rv_eqD (Nat.le_trans (E.dep x) hn) (Nat.le_trans (E.dep y) hn)
theorem rv_neE {α : Type} [DecidableEq α] {n : Nat} {enc : α → PyData} (E : Enc n enc) {x y : α} (hn : n ≤ 64 := by decide) : RVs (rNeD X.K) (D X.K (enc x)) (D X.K (enc y)) (D X.K (.bool (!decide (x = y)))) := by
  rw [← E.eqv]
  exact rv_neD (Nat.le_trans (E.dep x) hn) (Nat.le_trans (E.dep y) hn)
theorem eqv_nilL : PyData.eqv (.list ds) (.list []) = ds.isEmpty := by cases ds <;> simp [PyData.eqv, PyData.eqvAll]
theorem eqv_nilT : PyData.eqv (.tuple ds) (.tuple []) = ds.isEmpty := by cases ds <;> simp [PyData.eqv, PyData.eqvAll]
theorem dep_nilL : PyData.depth (.list []) ≤ 64 := by simp [PyData.depth, PyData.depthAll]
theorem dep_nilT : PyData.depth (.tuple []) ≤ 64 := by simp [PyData.depth, PyData.depthAll]
theorem je_eqD (hr : X.A.units + 64 < cLine) (ha : JE X Δ Γ a (D X.K d1) Δ1) (hb : JE X Δ1 Γ b (D X.K d2) Δ2) (h1 : d1.depth ≤ 64) (h2 : d2.depth ≤ 64) : JE X Δ Γ (.Compare a [.Eq] [b] pos) (D X.K (.bool (PyData.eqv d1 d2))) Δ2 := je_cmp (op_eqD hr) ha hb (rv_eqD h1 h2)
theorem je_neD (hr : X.A.units + 64 < cLine) (ha : JE X Δ Γ a (D X.K d1) Δ1) (hb : JE X Δ1 Γ b (D X.K d2) Δ2) (h1 : d1.depth ≤ 64) (h2 : d2.depth ≤ 64) : JE X Δ Γ (.Compare a [.NotEq] [b] pos) (D X.K (.bool (!PyData.eqv d1 d2))) Δ2 := je_cmp (op_neD hr) ha hb (rv_neD h1 h2)
theorem je_eqE {α : Type} [DecidableEq α] {n : Nat} {enc : α → PyData} (E : Enc n enc) {x y : α} (hr : X.A.units + 64 < cLine) (ha : JE X Δ Γ a (D X.K (enc x)) Δ1) (hb : JE X Δ1 Γ b (D X.K (enc y)) Δ2) (hn : n ≤ 64 := by decide) : JE X Δ Γ (.Compare a [.Eq] [b] pos) (D X.K (.bool (decide (x = y)))) Δ2 := je_cmp (op_eqD hr) ha hb (rv_eqE E hn)
theorem je_neE {α : Type} [DecidableEq α] {n : Nat} {enc : α → PyData} (E : Enc n enc) {x y : α} (hr : X.A.units + 64 < cLine) (ha : JE X Δ Γ a (D X.K (enc x)) Δ1) (hb : JE X Δ1 Γ b (D X.K (enc y)) Δ2) (hn : n ≤ 64 := by decide) : JE X Δ Γ (.Compare a [.NotEq] [b] pos) (D X.K (.bool (!decide (x = y)))) Δ2 := je_cmp (op_neD hr) ha hb (rv_neE E hn)
theorem rv_eqS {x y : Str} : RVs rEq (D X.K (.str x)) (D X.K (.str y)) (D X.K (.bool (decide (x = y)))) := fun u v G H Q sg p1 p2 q => by
  cases p1.1
  cases p2.1
  refine ⟨rfl, ?_⟩
  have e : decide (V.str x = V.str y) = decide (x = y) := by simp
  rw [e]
  exact q _ G H (Up.refl sg) (d_bl _)
theorem rv_neS {x y : Str} : RVs rNe (D X.K (.str x)) (D X.K (.str y)) (D X.K (.bool (!decide (x = y)))) := fun u v G H Q sg p1 p2 q => by
  cases p1.1
  cases p2.1
  refine ⟨rfl, ?_⟩
  have e : decide (V.str x = V.str y) = decide (x = y) := by simp
  rw [e]
  exact q _ G H (Up.refl sg) (d_bl _)
theorem je_eqS {x y : Str} (ha : JE X Δ Γ a (D X.K (.str x)) Δ1) (hb : JE X Δ1 Γ b (D X.K (.str y)) Δ2) : JE X Δ Γ (.Compare a [.Eq] [b] pos) (D X.K (.bool (decide (x = y)))) Δ2 := je_cmp op_eq ha hb rv_eqS
theorem je_neS {x y : Str} (ha : JE X Δ Γ a (D X.K (.str x)) Δ1) (hb : JE X Δ1 Γ b (D X.K (.str y)) Δ2) : JE X Δ Γ (.Compare a [.NotEq] [b] pos) (D X.K (.bool (!decide (x = y)))) Δ2 := je_cmp op_ne ha hb rv_neS
theorem jb_eqS {x y : Str} (ha : JE X Δ Γ a (D X.K (.str x)) Δ1) (hb : JE X Δ1 Γ b (D X.K (.str y)) Δ2) : JB X Δ Γ (.Compare a [.Eq] [b] pos) (dB (decide (x = y)) Δ2) := jb_cmp op_eq ha hb rv_eqS
theorem jb_neS {x y : Str} (ha : JE X Δ Γ a (D X.K (.str x)) Δ1) (hb : JE X Δ1 Γ b (D X.K (.str y)) Δ2) : JB X Δ Γ (.Compare a [.NotEq] [b] pos) (dB (!decide (x = y)) Δ2) := jb_cmp op_ne ha hb rv_neS
theorem je_nilEqT (hr : X.A.units + 64 < cLine) (ha : JE X Δ Γ a (D X.K (.tuple ds)) Δ1) (hb : JE X Δ1 Γ b (D X.K (.tuple [])) Δ2) (hd : (PyData.tuple ds).depth ≤ 64) : JE X Δ Γ (.Compare a [.Eq] [b] pos) (D X.K (.bool ds.isEmpty)) Δ2 := (je_eqD hr ha hb hd dep_nilT).eq (by rw [eqv_nilT])
theorem je_nilNeT (hr : X.A.units + 64 < cLine) (ha : JE X Δ Γ a (D X.K (.tuple ds)) Δ1) (hb : JE X Δ1 Γ b (D X.K (.tuple [])) Δ2) (hd : (PyData.tuple ds).depth ≤ 64) : JE X Δ Γ (.Compare a [.NotEq] [b] pos) (D X.K (.bool (!ds.isEmpty))) Δ2 := (je_neD hr ha hb hd dep_nilT).eq (by rw [eqv_nilT])
theorem je_nilEqL (hr : X.A.units + 64 < cLine) (ha : JE X Δ Γ a (L X.K ds) Δ1) (hb : JE X Δ1 Γ b (L X.K []) Δ2) (hd : (PyData.list ds).depth ≤ 64) : JE X Δ Γ (.Compare a [.Eq] [b] pos) (D X.K (.bool ds.isEmpty)) Δ2 := (je_eqD hr ha.lst hb.lst hd dep_nilL).eq (by rw [eqv_nilL])
theorem je_nilNeL (hr : X.A.units + 64 < cLine) (ha : JE X Δ Γ a (L X.K ds) Δ1) (hb : JE X Δ1 Γ b (L X.K []) Δ2) (hd : (PyData.list ds).depth ≤ 64) : JE X Δ Γ (.Compare a [.NotEq] [b] pos) (D X.K (.bool (!ds.isEmpty))) Δ2 := (je_neD hr ha.lst hb.lst hd dep_nilL).eq (by rw [eqv_nilL])

/-! ### in -/
def rInT (K : PySem.W.Frag) (neg : Bool) : R2 := fun x y H Q => ∃ d ds, Dp K H x d ∧ Dp K H y (.tuple ds) ∧ SeqAt.shaped d = true ∧ SeqAt.shaped (.tuple ds) = true ∧ Q (.bl (if neg then !ds.any (fun z => PyData.eqv z d) else ds.any fun z => PyData.eqv z d)) H
theorem op_inT (hu : X.A.units + 65 < cLine) : OpR X (compareOp .In) (rInT X.K false) := by
  intro pins s σ H x y v u Q I rx ry h
  obtain ⟨d, ds, hd, he, sd, se, q⟩ := h
  obtain ⟨as, r1⟩ := Dp.reads I d x v hd rx
  obtain ⟨bs, r2⟩ := Dp.reads I (.tuple ds) y u he ry
  exact SeqAt.in_tuple_reads r2 r1 (SeqAt.canLay_of_shaped se) (SeqAt.canLay_of_shaped sd) (room_in_shaped sd hu) ⟨.bl _, H, I, rfl, q⟩
theorem op_notInT (hu : X.A.units + 65 < cLine) : OpR X (compareOp .NotIn) (rInT X.K true) := by
  intro pins s σ H x y v u Q I rx ry h
  obtain ⟨d, ds, hd, he, sd, se, q⟩ := h
  obtain ⟨as, r1⟩ := Dp.reads I d x v hd rx
  obtain ⟨bs, r2⟩ := Dp.reads I (.tuple ds) y u he ry
  exact SeqAt.notIn_tuple_reads r2 r1 (SeqAt.canLay_of_shaped se) (SeqAt.canLay_of_shaped sd) (room_in_shaped sd hu) ⟨.bl _, H, I, rfl, q⟩
theorem any_enc {α : Type} [DecidableEq α] {n : Nat} {enc : α → PyData} (E : Enc n enc) (x : α) : ∀ l : List α, ((l.map enc).any fun z => PyData.eqv z (enc x)) = decide (x ∈ l)
  | [] => by simp
  | y :: l => by
    rw [List.map_cons, List.any_cons, any_enc E x l, E.eqv]
    by_cases h : y = x
    · simp [h]
    · have : x ≠ y := fun e => h e.symm
      simp [h, this]
variable {α : Type} [DecidableEq α] {n : Nat} {enc : α → PyData} {x : α} {l : List α}
theorem rv_inT (E : Enc n enc) (hn : n ≤ 63) : RVs (rInT X.K false) (D X.K (enc x)) (D X.K (.tuple (l.map enc))) (D X.K (.bool (decide (x ∈ l)))) := fun u v G H Q sg p1 p2 q =>
  ⟨enc x, l.map enc, dp_same sg p1.1, dp_same sg p2.1, shaped_of p1.2 (Nat.le_trans (E.dep x) (by omega)), shaped_of p2.2 (by have := depth_map E.dep l; simp only [PyData.depth]; omega), by
    show Q (.bl ((l.map enc).any fun z => PyData.eqv z (enc x))) H
    rw [any_enc E]; exact q _ G H (Up.refl sg) (d_bl _)⟩
theorem rv_notInT (E : Enc n enc) (hn : n ≤ 63) : RVs (rInT X.K true) (D X.K (enc x)) (D X.K (.tuple (l.map enc))) (D X.K (.bool (!decide (x ∈ l)))) := fun u v G H Q sg p1 p2 q =>
  ⟨enc x, l.map enc, dp_same sg p1.1, dp_same sg p2.1, shaped_of p1.2 (Nat.le_trans (E.dep x) (by omega)), shaped_of p2.2 (by have := depth_map E.dep l; simp only [PyData.depth]; omega), by
    show Q (.bl (!(l.map enc).any fun z => PyData.eqv z (enc x))) H
    rw [any_enc E]; exact q _ G H (Up.refl sg) (d_bl _)⟩
theorem rv_inL (E : Enc n enc) (hn : n ≤ 63) : RVs (rInD X.K) (D X.K (enc x)) (L X.K (l.map enc)) (D X.K (.bool (decide (x ∈ l)))) := fun u v G H Q sg p1 p2 q =>
  ⟨enc x, l.map enc, dp_same sg p1.1, dp_same sg (L.d p2).1, shaped_of p1.2 (Nat.le_trans (E.dep x) (by omega)), shaped_of (L.d p2).2 (by have := depth_map E.dep l; simp only [PyData.depth]; omega), by
    rw [any_enc E]; exact q _ G H (Up.refl sg) (d_bl _)⟩
theorem rv_notInL (E : Enc n enc) (hn : n ≤ 63) : RVs (rNotInD X.K) (D X.K (enc x)) (L X.K (l.map enc)) (D X.K (.bool (!decide (x ∈ l)))) := fun u v G H Q sg p1 p2 q =>
  ⟨enc x, l.map enc, dp_same sg p1.1, dp_same sg (L.d p2).1, shaped_of p1.2 (Nat.le_trans (E.dep x) (by omega)), shaped_of (L.d p2).2 (by have := depth_map E.dep l; simp only [PyData.depth]; omega), by
    rw [any_enc E]; exact q _ G H (Up.refl sg) (d_bl _)⟩
theorem je_inT (E : Enc n enc) (hr : X.A.units + 65 < cLine) (ha : JE X Δ Γ a (D X.K (enc x)) Δ1) (hb : JE X Δ1 Γ b (D X.K (.tuple (l.map enc))) Δ2) (hn : n ≤ 63 := by decide) (hm : behindInMarks .In b = false := by first | rfl | with_unfolding_all rfl) : JE X Δ Γ (.Compare a [.In] [b] pos) (D X.K (.bool (decide (x ∈ l)))) Δ2 := je_cmp (op_inT hr) ha hb (rv_inT E hn) hm
theorem je_notInT (E : Enc n enc) (hr : X.A.units + 65 < cLine) (ha : JE X Δ Γ a (D X.K (enc x)) Δ1) (hb : JE X Δ1 Γ b (D X.K (.tuple (l.map enc))) Δ2) (hn : n ≤ 63 := by decide) (hm : behindInMarks .NotIn b = false := by first | rfl | with_unfolding_all rfl) : JE X Δ Γ (.Compare a [.NotIn] [b] pos) (D X.K (.bool (!decide (x ∈ l)))) Δ2 := je_cmp (op_notInT hr) ha hb (rv_notInT E hn) hm
theorem je_inL (E : Enc n enc) (hr : X.A.units + 65 < cLine) (ha : JE X Δ Γ a (D X.K (enc x)) Δ1) (hb : JE X Δ1 Γ b (L X.K (l.map enc)) Δ2) (hn : n ≤ 63 := by decide) (hm : behindInMarks .In b = false := by first | rfl | with_unfolding_all rfl) : JE X Δ Γ (.Compare a [.In] [b] pos) (D X.K (.bool (decide (x ∈ l)))) Δ2 := je_cmp (op_inD hr) ha hb (rv_inL E hn) hm
theorem je_notInL (E : Enc n enc) (hr : X.A.units + 65 < cLine) (ha : JE X Δ Γ a (D X.K (enc x)) Δ1) (hb : JE X Δ1 Γ b (L X.K (l.map enc)) Δ2) (hn : n ≤ 63 := by decide) (hm : behindInMarks .NotIn b = false := by first | rfl | with_unfolding_all rfl) : JE X Δ Γ (.Compare a [.NotIn] [b] pos) (D X.K (.bool (!decide (x ∈ l)))) Δ2 := je_cmp (op_notInD hr) ha hb (rv_notInL E hn) hm
/-- one sign in a text -/
theorem je_sign {k : Nat} {z : Str} (ha : JE X Δ Γ a (D X.K (.str ⟨#[k]⟩)) Δ1) (hb : JE X Δ1 Γ b (D X.K (.str z)) Δ2) (hm : behindInMarks .In b = false := by first | rfl | with_unfolding_all rfl) : JE X Δ Γ (.Compare a [.In] [b] pos) (D X.K (.bool (decide (k ∈ z.cps.toList)))) Δ2 :=
  je_cmp op_in_sign ha hb (fun u v G H Q sg p1 p2 q => by
    cases p1.1
    cases p2.1
    exact ⟨k, z, rfl, rfl, q _ G H (Up.refl sg) (d_bl _)⟩) hm

/-! ### numbers -/
theorem rv_i {f : Int → Int → Int} {i j : Int} : RVs (rI0 fun i j => .int (f i j)) (D X.K (.int i)) (D X.K (.int j)) (D X.K (.int (f i j))) := fun u v G H Q sg p1 p2 q => by
  cases p1.1; cases p2.1
  exact ⟨i, j, rfl, rfl, q _ G H (Up.refl sg) (d_int _)⟩
theorem rv_ic {f : Int → Int → Int} {C : Int → Int → Prop} {i j : Int} (hc : C i j) : RVs (rI C fun i j => .int (f i j)) (D X.K (.int i)) (D X.K (.int j)) (D X.K (.int (f i j))) := fun u v G H Q sg p1 p2 q => by
  cases p1.1; cases p2.1
  exact ⟨i, j, rfl, rfl, hc, q _ G H (Up.refl sg) (d_int _)⟩
theorem rv_b {f : Int → Int → Bool} {i j : Int} : RVs (rI0 fun i j => .bl (f i j)) (D X.K (.int i)) (D X.K (.int j)) (D X.K (.bool (f i j))) := fun u v G H Q sg p1 p2 q => by
  cases p1.1; cases p2.1
  exact ⟨i, j, rfl, rfl, q _ G H (Up.refl sg) (d_bl _)⟩
theorem je_add {i j : Int} (ha : JE X Δ Γ a (D X.K (.int i)) Δ1) (hb : JE X Δ1 Γ b (D X.K (.int j)) Δ2) : JE X Δ Γ (.BinOp a .Add b pos) (D X.K (.int (i + j))) Δ2 := je_op op_add ha hb rv_i
theorem rv_eqI {i j : Int} : RVs rEq (D X.K (.int i)) (D X.K (.int j)) (D X.K (.bool (decide (i = j)))) := fun u v G H Q sg p1 p2 q => by
  cases p1.1
  cases p2.1
  refine ⟨rfl, ?_⟩
  have e : decide (V.int i = V.int j) = decide (i = j) := by simp
  rw [e]
  exact q _ G H (Up.refl sg) (d_bl _)
theorem rv_neI {i j : Int} : RVs rNe (D X.K (.int i)) (D X.K (.int j)) (D X.K (.bool (!decide (i = j)))) := fun u v G H Q sg p1 p2 q => by
  cases p1.1
  cases p2.1
  refine ⟨rfl, ?_⟩
  have e : decide (V.int i = V.int j) = decide (i = j) := by simp
  rw [e]
  exact q _ G H (Up.refl sg) (d_bl _)
theorem je_le {i j : Int} (ha : JE X Δ Γ a (D X.K (.int i)) Δ1) (hb : JE X Δ1 Γ b (D X.K (.int j)) Δ2) : JE X Δ Γ (.Compare a [.LtE] [b] pos) (D X.K (.bool (decide (i ≤ j)))) Δ2 := je_cmp op_le ha hb rv_b
theorem je_lt {i j : Int} (ha : JE X Δ Γ a (D X.K (.int i)) Δ1) (hb : JE X Δ1 Γ b (D X.K (.int j)) Δ2) : JE X Δ Γ (.Compare a [.Lt] [b] pos) (D X.K (.bool (decide (i < j)))) Δ2 := je_cmp op_lt ha hb rv_b
theorem je_eqI {i j : Int} (ha : JE X Δ Γ a (D X.K (.int i)) Δ1) (hb : JE X Δ1 Γ b (D X.K (.int j)) Δ2) : JE X Δ Γ (.Compare a [.Eq] [b] pos) (D X.K (.bool (decide (i = j)))) Δ2 := je_cmp op_eq ha hb rv_eqI
theorem je_neI {i j : Int} (ha : JE X Δ Γ a (D X.K (.int i)) Δ1) (hb : JE X Δ1 Γ b (D X.K (.int j)) Δ2) : JE X Δ Γ (.Compare a [.NotEq] [b] pos) (D X.K (.bool (!decide (i = j)))) Δ2 := je_cmp op_ne ha hb rv_neI
/-- the order of texts -/
def sLt (x y : Str) : Bool := decide (x.cps.toList < y.cps.toList)
theorem je_ltS {x y : Str} (ha : JE X Δ Γ a (D X.K (.str x)) Δ1) (hb : JE X Δ1 Γ b (D X.K (.str y)) Δ2) : JE X Δ Γ (.Compare a [.Lt] [b] pos) (D X.K (.bool (sLt x y))) Δ2 := je_cmp op_lt_str ha hb fun u v G H Q sg p1 p2 q => by
  cases p1.1
  cases p2.1
  exact ⟨x, y, rfl, rfl, q _ G H (Up.refl sg) (d_bl _)⟩

theorem je_neg {i : Int} (ha : JE X Δ Γ a (D X.K (.int i)) Δ1) : JE X Δ Γ (.UnaryOp .USub a pos) (D X.K (.int (-i))) Δ1 :=
  je_of (pe_un un_neg ha.use) fun σ G H Q hs sl q => ⟨G, hs, sl, fun v G1 H1 t p => by
    cases p.1
    exact ⟨i, rfl, q _ G1 H1 t (d_int _)⟩⟩
/-! ### is -/
theorem je_isTrue {bb : Bool} {j : Nat} {p' : Pos} (ha : JE X Δ Γ a (D X.K (.bool bb)) Δ1) : JE X Δ Γ (.Compare a [.Is] [.Constant (.bool true) j p'] pos) (D X.K (.bool bb)) Δ1 := je_cmp op_isBl ha je_bl fun u v G H Q sg p1 p2 q => by
  cases p1.1
  cases p2.1
  refine ⟨bb, true, rfl, rfl, ?_⟩
  have e : decide (bb = true) = bb := by cases bb <;> rfl
  rw [e]
  exact q _ G H (Up.refl sg) (d_bl _)
theorem je_notFalse {bb : Bool} {j : Nat} {p' : Pos} (ha : JE X Δ Γ a (D X.K (.bool bb)) Δ1) : JE X Δ Γ (.Compare a [.IsNot] [.Constant (.bool false) j p'] pos) (D X.K (.bool bb)) Δ1 := je_cmp op_notBl ha je_bl fun u v G H Q sg p1 p2 q => by
  cases p1.1
  cases p2.1
  refine ⟨bb, false, rfl, rfl, ?_⟩
  have e : (!decide (bb = false)) = bb := by cases bb <;> rfl
  rw [e]
  exact q _ G H (Up.refl sg) (d_bl _)
theorem eO_non {o : Option Str} {v : V} {H : Hp} (p : (D X.K (eO o)).P v H) : decide (v = .non) = o.isNone := by
  obtain ⟨p, _⟩ := p
  cases o with
  | none => cases p; rfl
  | some x => cases p; rfl
theorem je_isN {o : Option Str} {j : Nat} {p' : Pos} (ha : JE X Δ Γ a (D X.K (eO o)) Δ1) : JE X Δ Γ (.Compare a [.Is] [.Constant .none j p'] pos) (D X.K (.bool o.isNone)) Δ1 := je_cmp op_isN ha je_non fun u v G H Q sg p1 p2 q => by
  cases p2.1
  refine ⟨rfl, ?_⟩
  rw [eO_non p1]
  exact q _ G H (Up.refl sg) (d_bl _)
theorem je_notN {o : Option Str} {j : Nat} {p' : Pos} (ha : JE X Δ Γ a (D X.K (eO o)) Δ1) : JE X Δ Γ (.Compare a [.IsNot] [.Constant .none j p'] pos) (D X.K (.bool o.isSome)) Δ1 := je_cmp op_notN ha je_non fun u v G H Q sg p1 p2 q => by
  cases p2.1
  refine ⟨rfl, ?_⟩
  rw [eO_non p1]
  have e : (!o.isNone) = o.isSome := by cases o <;> rfl
  rw [e]
  exact q _ G H (Up.refl sg) (d_bl _)

/-! ### displays -/
theorem je_tup {k : Nat} (h : JA X Δ Γ es (ds.map (D X.K)) Δ1) (hz : ds.length ≤ sizeLine := by show _ ≤ 16777216; first | decide | simp) : JE X Δ Γ (.Tuple es k pos) (D X.K (.tuple ds)) Δ1 :=
  je_of (pe_tup h.use) fun σ G H Q hs sl q => ⟨G, hs, sl, fun vs G1 H1 t ps => by
    obtain ⟨q1, q2⟩ := paired_dps ps
    exact ⟨by rw [dps_len q1]; exact hz, fun p hp => q _ _ _ (t.trans ((Up.new t.hs.sub hp).up0 t.hs)) (new_tup (none_of_sub t.hs.sub hp) q1 q2)⟩⟩
theorem je_lst (h : JA X Δ Γ es (ds.map (D X.K)) Δ1) (hz : ds.length ≤ sizeLine := by show _ ≤ 16777216; first | decide | simp) : JE X Δ Γ (.List es pos) (L X.K ds) Δ1 :=
  je_of (pe_lst h.use) fun σ G H Q hs sl q => ⟨G, hs, sl, fun vs G1 H1 t ps => by
    obtain ⟨q1, q2⟩ := paired_dps ps
    exact ⟨by rw [dps_len q1]; exact hz, fun p hp => q _ _ _ (t.trans ((Up.new t.hs.sub hp).up0 t.hs)) (new_lst (none_of_sub t.hs.sub hp) q1 q2)⟩⟩
theorem je_tup0 {k : Nat} : JE X Δ Γ (.Tuple [] k pos) (D X.K (.tuple [])) Δ := je_tup (ds := []) ja_nil
theorem je_lst0 : JE X Δ Γ (.List [] pos) (L X.K []) Δ := je_lst (ds := []) ja_nil

/-! ### calls of built-ins by values -/
def RCs (o : List V → Hp → VK → Prop) (rs : List SV) (r : SV) : Prop := ∀ (xs : List V) (G H : Hp) (Q : VK), Same G H → PR G xs rs → (∀ v G' H', Up G H G' H' → r.P v G' → Q v H') → o xs H Q
theorem je_callB {f : Str} {id : String} {p : Pos} {o : List V → Hp → VK → Prop} (hc : CallR X (.builtin id) o) (hm : X.mg f = none) (hv : bootBuiltins f = some (.builtin id)) (ha : JA X Δ Γ (e :: es) rs Δ1) (k : RCs o rs r) (hg : Gl X f := by rfl) (hn : f ≠ "__name__" := by decide) (hdb : (f == ("__debug__" : Str)) = false := by decide)
    (he : starEach (e :: es) X.env = (false, eval e X.env) :: starEach es X.env := by rfl) (hpl : (backTo pos (starEach es X.env)).any (·.1) = false := by rfl) : JE X Δ Γ (.Call (.Name f p) (e :: es) [] pos) r Δ1 :=
  je_of (pe_callB hc hg hm hv ha.use hn hdb he hpl) fun σ G H Q hs sl q => ⟨G, hs, sl, fun vs G1 H1 t ps => k vs G1 H1 Q t.hs.sub ps fun v G2 H2 t2 p => q v G2 H2 (t.trans (t2.up0 t.hs)) p⟩
theorem je_callTy {f : Str} {id : String} {p : Pos} {o : List V → Hp → VK → Prop} (hc : CallR X (.type id) o) (hm : X.mg f = none) (hv : bootBuiltins f = some (.type id)) (ha : JA X Δ Γ (e :: es) rs Δ1) (k : RCs o rs r) (hg : Gl X f := by rfl) (hn : f ≠ "__name__" := by decide) (hdb : (f == ("__debug__" : Str)) = false := by decide)
    (he : starEach (e :: es) X.env = (false, eval e X.env) :: starEach es X.env := by rfl) (hpl : (backTo pos (starEach es X.env)).any (·.1) = false := by rfl) : JE X Δ Γ (.Call (.Name f p) (e :: es) [] pos) r Δ1 :=
  je_of (pe_callTy hc hg hm hv ha.use hn hdb he hpl) fun σ G H Q hs sl q => ⟨G, hs, sl, fun vs G1 H1 t ps => k vs G1 H1 Q t.hs.sub ps fun v G2 H2 t2 p => q v G2 H2 (t.trans (t2.up0 t.hs)) p⟩
theorem paired1 {H : Hp} {xs : List V} (h : Paired (fun (v : V) (r : SV) => r.P v H) xs [r]) : ∃ v, xs = [v] ∧ r.P v H := by
  cases h with
  | cons p t => cases t; exact ⟨_, rfl, p⟩
theorem paired2 {H : Hp} {xs : List V} (h : Paired (fun (v : V) (r : SV) => r.P v H) xs [ra, rb]) : ∃ u v, xs = [u, v] ∧ ra.P u H ∧ rb.P v H := by
  cases h with
  | cons p t =>
    obtain ⟨v, rfl, q⟩ := paired1 t
    exact ⟨_, _, rfl, p, q⟩
theorem boot_isinstance : bootBuiltins "isinstance" = some (.builtin "isinstance") := by decide +kernel
theorem boot_any : bootBuiltins "any" = some (.builtin "any") := by decide +kernel
theorem boot_all : bootBuiltins "all" = some (.builtin "all") := by decide +kernel
theorem boot_lenB : bootBuiltins "len" = some (.builtin "len") := by decide +kernel
theorem boot_minB : bootBuiltins "min" = some (.builtin "min") := by decide +kernel
theorem boot_sortedB : bootBuiltins "sorted" = some (.builtin "sorted") := by decide +kernel
theorem boot_reprB : bootBuiltins "repr" = some (.builtin "repr") := by decide +kernel
theorem boot_tupleT : bootBuiltins "tuple" = some (.type "tuple") := by decide +kernel
theorem boot_listT : bootBuiltins "list" = some (.type "list") := by decide +kernel
theorem boot_strT : bootBuiltins "str" = some (.type "str") := by decide +kernel
theorem boot_setT : bootBuiltins "set" = some (.type "set") := by decide +kernel
theorem boot_zipT : bootBuiltins "zip" = some (.type "zip") := by decide +kernel
theorem boot_enumT : bootBuiltins "enumerate" = some (.type "enumerate") := by decide +kernel
variable {p : Pos}
theorem je_len {v : Nat} (hm : X.mg "len" = none) (ha : JE X Δ Γ e r Δ1) (k : ∀ u H, r.P u H → LenV X.K u H v) (hg : Gl X "len" := by rfl) (he : starEach (e :: []) X.env = (false, eval e X.env) :: starEach [] X.env := by rfl) : JE X Δ Γ (.Call (.Name "len" p) [e] [] pos) (D X.K (.int v)) Δ1 :=
  je_callB call_len hm boot_lenB (ja_cons ha ja_nil he) (fun xs G H Q sg ps q => by
    obtain ⟨u, rfl, p⟩ := paired1 ps
    exact ⟨u, v, rfl, k u H (r.mono sg p), q _ G H (Up.refl sg) (d_int _)⟩) hg (he := he)
theorem je_lenT (hm : X.mg "len" = none) (ha : JE X Δ Γ e (D X.K (.tuple ds)) Δ1) (hg : Gl X "len" := by rfl) (he : starEach (e :: []) X.env = (false, eval e X.env) :: starEach [] X.env := by rfl) : JE X Δ Γ (.Call (.Name "len" p) [e] [] pos) (D X.K (.int ds.length)) Δ1 :=
  je_len hm ha (fun u H p => by
    obtain ⟨a, xs, rfl, s, h, _⟩ := d_tup p
    exact .inr ⟨xs, s, (dps_len h).symm⟩) hg he
theorem je_lenL (hm : X.mg "len" = none) (ha : JE X Δ Γ e (L X.K ds) Δ1) (hg : Gl X "len" := by rfl) (he : starEach (e :: []) X.env = (false, eval e X.env) :: starEach [] X.env := by rfl) : JE X Δ Γ (.Call (.Name "len" p) [e] [] pos) (D X.K (.int ds.length)) Δ1 :=
  je_len hm ha (fun u H p => by
    obtain ⟨a, xs, rfl, s, h, _⟩ := p
    exact .inl ⟨xs, SqL.of s, (dps_len h).symm⟩) hg he
theorem je_lenS {z : Str} (hm : X.mg "len" = none) (ha : JE X Δ Γ e (D X.K (.str z)) Δ1) (hz : z.length ≤ sizeLine) (hg : Gl X "len" := by rfl) (he : starEach (e :: []) X.env = (false, eval e X.env) :: starEach [] X.env := by rfl) : JE X Δ Γ (.Call (.Name "len" p) [e] [] pos) (D X.K (.int z.length)) Δ1 :=
  je_len hm ha (fun u H p => by
    cases p.1
    exact ⟨hz, rfl⟩) hg he
theorem je_any {bs : List Bool} (hc : X.calm = true) (hm : X.mg "any" = none) (ha : JE X Δ Γ e (L X.K (bs.map .bool)) Δ1) (hg : Gl X "any" := by rfl) (he : starEach (e :: []) X.env = (false, eval e X.env) :: starEach [] X.env := by rfl) : JE X Δ Γ (.Call (.Name "any" p) [e] [] pos) (D X.K (.bool (bs.any id))) Δ1 :=
  je_callB (cr_any hc) hm boot_any (ja_cons ha ja_nil he) (fun xs G H Q sg ps q => by
    obtain ⟨u, rfl, a, ys, rfl, h, h2, _⟩ := paired1 ps
    exact ⟨a, bs, rfl, by rw [← dps_bls h2]; exact SqL.of (sg _ _ h), q _ G H (Up.refl sg) (d_bl _)⟩) hg (he := he)
theorem je_all {bs : List Bool} (hc : X.calm = true) (hm : X.mg "all" = none) (ha : JE X Δ Γ e (L X.K (bs.map .bool)) Δ1) (hg : Gl X "all" := by rfl) (he : starEach (e :: []) X.env = (false, eval e X.env) :: starEach [] X.env := by rfl) : JE X Δ Γ (.Call (.Name "all" p) [e] [] pos) (D X.K (.bool (bs.all id))) Δ1 :=
  je_callB (cr_all hc) hm boot_all (ja_cons ha ja_nil he) (fun xs G H Q sg ps q => by
    obtain ⟨u, rfl, a, ys, rfl, h, h2, _⟩ := paired1 ps
    exact ⟨a, bs, rfl, by rw [← dps_bls h2]; exact SqL.of (sg _ _ h), q _ G H (Up.refl sg) (d_bl _)⟩) hg (he := he)
theorem je_tupleL (hm : X.mg "tuple" = none) (ha : JE X Δ Γ e (L X.K ds) Δ1) (hg : Gl X "tuple" := by rfl) (he : starEach (e :: []) X.env = (false, eval e X.env) :: starEach [] X.env := by rfl) : JE X Δ Γ (.Call (.Name "tuple" p) [e] [] pos) (D X.K (.tuple ds)) Δ1 :=
  je_callTy call_tuple_of hm boot_tupleT (ja_cons ha ja_nil he) (fun xs G H Q sg ps q => by
    obtain ⟨u, rfl, a, ys, rfl, h, h2, h3⟩ := paired1 ps
    exact ⟨a, ys, rfl, .inl ⟨SqL.of (sg _ _ h), fun l hl => q _ _ _ (Up.new sg hl) (new_tup (none_of_sub sg hl) h2 h3)⟩⟩) hg (he := he)
theorem je_listT (hm : X.mg "list" = none) (ha : JE X Δ Γ e (D X.K (.tuple ds)) Δ1) (hg : Gl X "list" := by rfl) (he : starEach (e :: []) X.env = (false, eval e X.env) :: starEach [] X.env := by rfl) : JE X Δ Γ (.Call (.Name "list" p) [e] [] pos) (L X.K ds) Δ1 :=
  je_callTy call_list_of hm boot_listT (ja_cons ha ja_nil he) (fun xs G H Q sg ps q => by
    obtain ⟨u, rfl, pu⟩ := paired1 ps
    obtain ⟨a, ys, rfl, h, h2, h3⟩ := d_tup pu
    exact ⟨a, ys, rfl, .inr (sqt_same sg h), fun l hl => q _ _ _ (Up.new sg hl) (new_lst (none_of_sub sg hl) h2 h3)⟩) hg (he := he)
/-- isinstance, the answer yes -/
theorem tyx_tup {a : Addr} {xs : List V} {H : Hp} (h : SqT X.K H a xs) : TyX X.K H (.ref a) (.type "tuple") := by
  rcases h with (h | ⟨o, h⟩) | ⟨o, its, n, h1, h2, _⟩
  · exact .base (.tup h)
  · exact .fTuple h
  · exact .kTuple h1 h2
theorem je_isi {T : String} {x : Str} {p' : Pos} (hm : X.mg "isinstance" = none) (hx : X.mg x = none) (hv : bootBuiltins x = some (.type T)) (ha : JE X Δ Γ e r Δ1) (k : ∀ u H, r.P u H → TyX X.K H u (.type T)) (hk : kitB T T = some true) (hg : Gl X "isinstance" := by rfl) (hgx : Gl X x := by rfl) (hnx : x ≠ "__name__" := by decide) (hdx : (x == ("__debug__" : Str)) = false := by decide)
    (he : starEach (e :: [.Name x p']) X.env = (false, eval e X.env) :: starEach [.Name x p'] X.env := by rfl) (he2 : starEach (.Name x p' :: []) X.env = (false, eval (.Name x p') X.env) :: starEach [] X.env := by rfl) (hpl : (backTo pos (starEach [.Name x p'] X.env)).any (·.1) = false := by rfl) :
    JE X Δ Γ (.Call (.Name "isinstance" p) [e, .Name x p'] [] pos) (D X.K (.bool true)) Δ1 :=
  je_callB call_isi hm boot_isinstance (ja_cons ha (ja_cons (je_bty hx hv hgx hnx hdx) ja_nil he2) he) (fun xs G H Q sg ps q => by
    obtain ⟨u, v, rfl, pu, pv⟩ := paired2 ps
    have pv : v = .ty T := pv
    subst pv
    exact ⟨u, .ty T, .type T, .type T, true, rfl, .ty T, k u H (r.mono sg pu), kit_ty hk, q _ G H (Up.refl sg) (d_bl _)⟩) hg (he := he) (hpl := hpl)
theorem kit_tuple : kitB "tuple" "tuple" = some true := by decide +kernel
theorem kit_str : kitB "str" "str" = some true := by decide +kernel
theorem je_isiT {p' : Pos} (hm : X.mg "isinstance" = none) (hx : X.mg "tuple" = none) (ha : JE X Δ Γ e (D X.K (.tuple ds)) Δ1) (hg : Gl X "isinstance" := by rfl) (hgx : Gl X "tuple" := by rfl) (he : starEach (e :: [.Name "tuple" p']) X.env = (false, eval e X.env) :: starEach [.Name "tuple" p'] X.env := by rfl) (he2 : starEach (.Name "tuple" p' :: []) X.env = (false, eval (.Name "tuple" p') X.env) :: starEach [] X.env := by rfl) (hpl : (backTo pos (starEach [.Name "tuple" p'] X.env)).any (·.1) = false := by rfl) :
    JE X Δ Γ (.Call (.Name "isinstance" p) [e, .Name "tuple" p'] [] pos) (D X.K (.bool true)) Δ1 :=
  je_isi hm hx boot_tupleT ha (fun u H p => by
    obtain ⟨a, xs, rfl, s, _⟩ := d_tup p
    exact tyx_tup s) kit_tuple hg hgx (he := he) (he2 := he2) (hpl := hpl)
theorem je_isiS {z : Str} {p' : Pos} (hm : X.mg "isinstance" = none) (hx : X.mg "str" = none) (ha : JE X Δ Γ e (D X.K (.str z)) Δ1) (hg : Gl X "isinstance" := by rfl) (hgx : Gl X "str" := by rfl) (he : starEach (e :: [.Name "str" p']) X.env = (false, eval e X.env) :: starEach [.Name "str" p'] X.env := by rfl) (he2 : starEach (.Name "str" p' :: []) X.env = (false, eval (.Name "str" p') X.env) :: starEach [] X.env := by rfl) (hpl : (backTo pos (starEach [.Name "str" p'] X.env)).any (·.1) = false := by rfl) :
    JE X Δ Γ (.Call (.Name "isinstance" p) [e, .Name "str" p'] [] pos) (D X.K (.bool true)) Δ1 :=
  je_isi hm hx boot_strT ha (fun u H p => by
    cases p.1
    exact .base (.str z)) kit_str hg hgx (he := he) (he2 := he2) (hpl := hpl)

/-! ### items, slices, + -/
theorem rv_ixT {i : Int} (h : atI ds i = some d) : RVs (rIxT X.K) (D X.K (.tuple ds)) (D X.K (.int i)) (D X.K d) := fun u v G H Q sg p1 p2 q => by
  obtain ⟨a, xs, rfl, s, hd, ok⟩ := d_tup p1
  cases p2.1
  have hl := dps_len hd
  unfold atI at h
  rw [← hl] at h
  cases e : ixN xs.length i with
  | none => rw [e] at h; cases h
  | some j =>
    rw [e] at h
    have h : ds[j]? = some d := h
    obtain ⟨y, hy, py⟩ := dps_get hd h
    refine ⟨a, xs, i, y, rfl, rfl, sqt_same sg s, by unfold atI; rw [e]; exact hy, q y G H (Up.refl sg) ⟨py, ok d (List.mem_of_getElem? h)⟩⟩
theorem rv_ixL {i : Int} (h : atI ds i = some d) : RVs (rIxL X.K) (L X.K ds) (D X.K (.int i)) (D X.K d) := fun u v G H Q sg p1 p2 q => by
  obtain ⟨a, xs, rfl, s, hd, ok⟩ := p1
  cases p2.1
  have hl := dps_len hd
  unfold atI at h
  rw [← hl] at h
  cases e : ixN xs.length i with
  | none => rw [e] at h; cases h
  | some j =>
    rw [e] at h
    have h : ds[j]? = some d := h
    obtain ⟨y, hy, py⟩ := dps_get hd h
    refine ⟨a, xs, i, y, rfl, rfl, SqL.of (sg _ _ s), by unfold atI; rw [e]; exact hy, q y G H (Up.refl sg) ⟨py, ok d (List.mem_of_getElem? h)⟩⟩
theorem je_ix {o : R2} (hi : IxR X o) (ha : JE X Δ Γ a ra Δ1) (hb : JE X Δ1 Γ b rb Δ2) (k : RVs o ra rb r) (hs : PlainIx b := by intro _ _; rfl) : JE X Δ Γ (.Subscript a b pos) r Δ2 := je_of (pe_ix hi ha.use hb.use hs) fun σ G H Q hs sl q => ev_bin k hs sl q
theorem je_ixT {i : Int} (ha : JE X Δ Γ a (D X.K (.tuple ds)) Δ1) (hb : JE X Δ1 Γ b (D X.K (.int i)) Δ2) (h : atI ds i = some d) (hs : PlainIx b := by intro _ _; rfl) : JE X Δ Γ (.Subscript a b pos) (D X.K d) Δ2 := je_ix ix_tup ha hb (rv_ixT h) hs
theorem je_ixL {i : Int} (ha : JE X Δ Γ a (L X.K ds) Δ1) (hb : JE X Δ1 Γ b (D X.K (.int i)) Δ2) (h : atI ds i = some d) (hs : PlainIx b := by intro _ _; rfl) : JE X Δ Γ (.Subscript a b pos) (D X.K d) Δ2 := je_ix ix_list ha hb (rv_ixL h) hs
/-- t + u of tuples -/
theorem je_catT (ha : JE X Δ Γ a (D X.K (.tuple ds1)) Δ1) (hb : JE X Δ1 Γ b (D X.K (.tuple ds2)) Δ2) (hz : ds1.length + ds2.length ≤ sizeLine) : JE X Δ Γ (.BinOp a .Add b pos) (D X.K (.tuple (ds1 ++ ds2))) Δ2 :=
  je_op op_catA ha hb fun u v G H Q sg p1 p2 q => by
    obtain ⟨a1, xs, rfl, s1, h1, k1⟩ := d_tup p1
    obtain ⟨a2, ys, rfl, s2, h2, k2⟩ := d_tup p2
    have l1 := dps_len h1
    have l2 := dps_len h2
    refine ⟨a1, a2, xs, ys, rfl, rfl, sqt_same sg s1, sqt_same sg s2, by omega, fun e => ?_, fun _ e => ?_, fun _ _ p hp => ?_⟩
    · subst e
      have : ds1 = [] := List.length_eq_zero_iff.mp l1.symm
      subst this
      exact q _ G H (Up.refl sg) p2
    · subst e
      have : ds2 = [] := List.length_eq_zero_iff.mp l2.symm
      subst this
      exact q _ G H (Up.refl sg) (by rw [List.append_nil]; exact p1)
    · exact q _ _ _ (Up.new sg hp) (new_tup (none_of_sub sg hp) (dps_app h1 h2) (allok_app k1 k2))
/-- xs + ys of lists -/
theorem je_catL (ha : JE X Δ Γ a (L X.K ds1) Δ1) (hb : JE X Δ1 Γ b (L X.K ds2) Δ2) (hz : ds1.length + ds2.length ≤ sizeLine) : JE X Δ Γ (.BinOp a .Add b pos) (L X.K (ds1 ++ ds2)) Δ2 :=
  je_op op_cat ha hb fun u v G H Q sg p1 p2 q => by
    obtain ⟨a1, xs, rfl, s1, h1, k1⟩ := p1
    obtain ⟨a2, ys, rfl, s2, h2, k2⟩ := p2
    have l1 := dps_len h1
    have l2 := dps_len h2
    exact ⟨a1, a2, xs, ys, rfl, rfl, sg _ _ s1, sg _ _ s2, by omega, fun p hp => q _ _ _ (Up.new sg hp) (new_lst (none_of_sub sg hp) (dps_app h1 h2) (allok_app k1 k2))⟩
/-- slices -/
def cutD (ds : List PyData) (lo hi : Option Int) : List PyData := (ds.drop (HT.sIx ds.length 0 lo)).take (HT.sIx ds.length ds.length hi - HT.sIx ds.length 0 lo)
theorem dps_take {K : PySem.W.Frag} {H : Hp} : ∀ {xs : List V} {ds : List PyData} (k : Nat), DpAll K H xs ds → DpAll K H (xs.take k) (ds.take k)
  | _, _, 0, _ => .nil
  | _, _, _ + 1, .nil => .nil
  | _, _, k + 1, .cons h t => .cons h (dps_take k t)
theorem dps_drop {K : PySem.W.Frag} {H : Hp} : ∀ {xs : List V} {ds : List PyData} (k : Nat), DpAll K H xs ds → DpAll K H (xs.drop k) (ds.drop k)
  | _, _, 0, h => h
  | _, _, _ + 1, .nil => .nil
  | _, _, k + 1, .cons h t => dps_drop k t
theorem dps_cut {K : PySem.W.Frag} {H : Hp} {xs : List V} {ds : List PyData} (h : DpAll K H xs ds) (lo hi : Option Int) : DpAll K H (cutV xs lo hi) (cutD ds lo hi) := by
  unfold cutV cutD
  rw [dps_len h]
  exact dps_take _ (dps_drop _ h)
theorem allok_cut {lo hi : Option Int} (h : AllOk ds) : AllOk (cutD ds lo hi) := fun d hd => h d (List.mem_of_mem_drop (List.mem_of_mem_take hd))
structure JO (X : Cx) (Δ : Cs) (Γ : Gm) (e : Option Expr) (C : Option Int → Prop) (Δ' : Cs) : Prop where
  run : ∃ t : TO, PO X e t ∧ ∀ (σ : L2.St) (G H : Hp) (Q : Option Int → Hp → Prop), Hs Δ G H → Sl σ G Γ → (∀ i G' H', C i → Tr Δ G H Δ' G' H' → Q i H') → t σ H Q
theorem jo_none : JO X Δ Γ none (fun i => i = none) Δ := ⟨tNoPart, po_none, fun σ G H Q hs sl q => q none G H rfl (Tr.refl hs)⟩
theorem jo_some {i : Int} (h : JE X Δ Γ e (D X.K (.int i)) Δ1) : JO X Δ Γ (some e) (fun j => j = some i) Δ1 := ⟨_, po_some h.use, fun σ G H Q hs sl q => ⟨G, hs, sl, fun v G' H' t p => by
  cases p.1
  exact ⟨i, rfl, q _ G' H' rfl t⟩⟩⟩
theorem jo_ex {C : Int → Prop} (h : JE X Δ Γ e (SV.ex C fun i => D X.K (.int i)) Δ1) : JO X Δ Γ (some e) (fun j => ∃ i, j = some i ∧ C i) Δ1 := ⟨_, po_some h.use, fun σ G H Q hs sl q => ⟨G, hs, sl, fun v G' H' t p => by
  obtain ⟨i, c, p⟩ := p
  cases p.1
  exact ⟨i, rfl, q _ G' H' ⟨i, rfl, c⟩ t⟩⟩⟩
theorem je_slTx {lo hi : Option Expr} {Ca Cb : Option Int → Prop} {p2 : Pos} (ha : JE X Δ Γ a (D X.K (.tuple ds)) Δ1) (hl : JO X Δ1 Γ lo Ca Δ2) (hh : JO X Δ2 Γ hi Cb Δ3) (k : ∀ i j, Ca i → Cb j → ∀ v G, (D X.K (.tuple (cutD ds i j))).P v G → r.P v G) : JE X Δ Γ (.Subscript a (.Slice lo hi none p2) pos) r Δ3 := by
  obtain ⟨tl, hl, kl⟩ := hl
  obtain ⟨th, hh, kh⟩ := hh
  refine je_of (pe_slice sl_tupA ha.use hl hh) fun σ G H Q hs sl q => ⟨G, hs, sl, fun v G1 H1 t1 p1 => kl σ G1 H1 _ t1.hs (sl.mono t1.up) fun il G2 H2 ci t2 => kh σ G2 H2 _ t2.hs (sl.mono (t1.up.trans t2.up)) fun ih G3 H3 cj t3 => ?_⟩
  obtain ⟨b, xs, rfl, s, h, kk⟩ := d_tup ((D X.K _).mono (t2.up.trans t3.up) p1)
  have hlen := dps_len h
  have t13 := t1.trans (t2.trans t3)
  refine ⟨b, xs, rfl, sqt_same t3.hs.sub s, fun hw => ?_, fun hw p hp => ?_⟩
  · refine q _ G3 H3 t13 (k _ _ ci cj _ _ ?_)
    have : cutD ds il ih = ds := by
      unfold cutD
      rw [← hlen, hw.1, hw.2, List.drop_zero, hlen, Nat.sub_zero, List.take_length]
    rw [this]
    exact mk_tup s h kk
  · exact q _ _ _ (t13.trans ((Up.new t3.hs.sub hp).up0 t3.hs)) (k _ _ ci cj _ _ (new_tup (none_of_sub t3.hs.sub hp) (dps_cut h il ih) (allok_cut kk)))
theorem je_slLx {lo hi : Option Expr} {Ca Cb : Option Int → Prop} {p2 : Pos} (ha : JE X Δ Γ a (L X.K ds) Δ1) (hl : JO X Δ1 Γ lo Ca Δ2) (hh : JO X Δ2 Γ hi Cb Δ3) (k : ∀ i j, Ca i → Cb j → ∀ v G, (L X.K (cutD ds i j)).P v G → r.P v G) : JE X Δ Γ (.Subscript a (.Slice lo hi none p2) pos) r Δ3 := by
  obtain ⟨tl, hl, kl⟩ := hl
  obtain ⟨th, hh, kh⟩ := hh
  refine je_of (pe_slice sl_list ha.use hl hh) fun σ G H Q hs sl q => ⟨G, hs, sl, fun v G1 H1 t1 p1 => kl σ G1 H1 _ t1.hs (sl.mono t1.up) fun il G2 H2 ci t2 => kh σ G2 H2 _ t2.hs (sl.mono (t1.up.trans t2.up)) fun ih G3 H3 cj t3 => ?_⟩
  obtain ⟨b, xs, rfl, s, h, kk⟩ := (L X.K _).mono (t2.up.trans t3.up) p1
  have t13 := t1.trans (t2.trans t3)
  exact ⟨b, xs, rfl, SqL.of (t3.hs.sub _ _ s), fun p hp => q _ _ _ (t13.trans ((Up.new t3.hs.sub hp).up0 t3.hs)) (k _ _ ci cj _ _ (new_lst (none_of_sub t3.hs.sub hp) (dps_cut h il ih) (allok_cut kk)))⟩
theorem je_slT {lo hi : Option Expr} {il ih : Option Int} {p2 : Pos} (ha : JE X Δ Γ a (D X.K (.tuple ds)) Δ1) (hl : JO X Δ1 Γ lo (fun j => j = il) Δ2) (hh : JO X Δ2 Γ hi (fun j => j = ih) Δ3) : JE X Δ Γ (.Subscript a (.Slice lo hi none p2) pos) (D X.K (.tuple (cutD ds il ih))) Δ3 := je_slTx ha hl hh fun i j e1 e2 v G p => by subst e1 e2; exact p
theorem je_slL {lo hi : Option Expr} {il ih : Option Int} {p2 : Pos} (ha : JE X Δ Γ a (L X.K ds) Δ1) (hl : JO X Δ1 Γ lo (fun j => j = il) Δ2) (hh : JO X Δ2 Γ hi (fun j => j = ih) Δ3) : JE X Δ Γ (.Subscript a (.Slice lo hi none p2) pos) (L X.K (cutD ds il ih)) Δ3 := je_slLx ha hl hh fun i j e1 e2 v G p => by subst e1 e2; exact p
end
end Bl
set_option Elab.async false
set_option linter.all false
set_option maxRecDepth 100000
set_option maxHeartbeats 2000000
namespace Bl
open PySem PySem.Spec PyProof.Rows L2

section
variable {X : Cx} {e a b c : Expr} {es : List Expr} {Γ Γ' : Gm} {Δ Δ1 Δ2 Δ3 Δ' : Cs} {r ra rb rc : SV} {rs : List SV} {pos : Pos} {d d1 d2 : PyData} {ds ds1 ds2 : List PyData}

theorem set_self {α : Type} : ∀ {l : List α} {i : Nat} {x : α}, l[i]? = some x → l.set i x = l
  | [], _, _, h => rfl
  | a :: l, 0, x, h => by simp at h; subst h; rfl
  | a :: l, i + 1, x, h => by rw [List.set_cons_succ, set_self (by simpa using h)]
/-! ### sizes -/
theorem L.size {pins : List (Addr × Obj)} {σ : L2.St} {G H : Hp} {s : Shared} {v : V} (I : Inv X pins σ H s) (sg : Same G H) (p : (L X.K ds).P v G) : ds.length ≤ sizeLine := by
  obtain ⟨a, xs, rfl, h1, h2, _⟩ := p
  obtain ⟨its, _, _, hz⟩ := I.list (SqL.of (sg _ _ h1))
  rw [← dps_len h2]; exact hz
theorem T.size {pins : List (Addr × Obj)} {σ : L2.St} {G H : Hp} {s : Shared} {v : V} (I : Inv X pins σ H s) (sg : Same G H) (p : (D X.K (.tuple ds)).P v G) : ds.length ≤ sizeLine := by
  obtain ⟨a, xs, rfl, h1, h2, _⟩ := d_tup p
  obtain ⟨its, _, _, hz⟩ := I.tuple (sqt_same sg h1)
  rw [← dps_len h2]; exact hz

/-! ### expressions with several ends -/
structure JX (X : Cx) (Δ : Cs) (Γ : Gm) (e : Expr) (O : SV → Cs → Prop) : Prop where
  run : ∀ (pins : List (Addr × Obj)) (s : Shared) (σ : L2.St) (G H : Hp), Inv X pins σ H s → Hs Δ G H → Sl σ G Γ → wpAny (model X.prog X.w) X.A (eval e X.env) (EP X pins σ fun v H' => ∃ G' Δ' r, O r Δ' ∧ Tr Δ G H Δ' G' H' ∧ r.P v G') X.xe s
def tX (Δ : Cs) (Γ : Gm) (O : SV → Cs → Prop) : TE := fun σ H Q => ∃ G, Hs Δ G H ∧ Sl σ G Γ ∧ ∀ v G' H' Δ' r, O r Δ' → Tr Δ G H Δ' G' H' → r.P v G' → Q v H'
theorem JX.use {O : SV → Cs → Prop} (h : JX X Δ Γ e O) : PE X e (tX Δ Γ O) := ⟨fun pins s σ H Q I ⟨G, hs, sl, k⟩ => thn (h.run pins s σ G H I hs sl) fun u s' ⟨v, H', I', rv, G', Δ', r, o, t, p⟩ => ⟨v, H', I', rv, k v G' H' Δ' r o t p⟩⟩
theorem jx_of {t : TE} {O : SV → Cs → Prop} (h : PE X e t) (k : ∀ (σ : L2.St) (G H : Hp) (Q : VK), Hs Δ G H → Sl σ G Γ → (∀ v G' H' Δ' r, O r Δ' → Tr Δ G H Δ' G' H' → r.P v G' → Q v H') → t σ H Q) : JX X Δ Γ e O :=
  ⟨fun pins s σ G H I hs sl => h.run pins s σ H _ I (k σ G H _ hs sl fun v G' H' Δ' r o t p => ⟨G', Δ', r, o, t, p⟩)⟩
abbrev oE (r : SV) (Δ' : Cs) : SV → Cs → Prop := fun r2 Δ2 => r2 = r ∧ Δ2 = Δ'
theorem JE.x (h : JE X Δ Γ e r Δ') : JX X Δ Γ e (oE r Δ') := jx_of h.use fun σ G H Q hs sl q => ⟨G, hs, sl, fun v G' H' t p => q v G' H' Δ' r ⟨rfl, rfl⟩ t p⟩
theorem JE.xx {ι : Type} {C : ι → Prop} {f : ι → SV} (h : JE X Δ Γ e (SV.ex C f) Δ') : JX X Δ Γ e (fun r Δ2 => ∃ i, C i ∧ r = f i ∧ Δ2 = Δ') := jx_of h.use fun σ G H Q hs sl q => ⟨G, hs, sl, fun v G' H' t ⟨i, c, p⟩ => q v G' H' Δ' (f i) ⟨i, c, rfl, rfl⟩ t p⟩
/-- a list, its length within the line -/
theorem JE.xL (h : JE X Δ Γ e (L X.K ds) Δ') : JX X Δ Γ e (fun r Δ2 => ds.length ≤ sizeLine ∧ r = L X.K ds ∧ Δ2 = Δ') := ⟨fun pins s σ G H I hs sl => thn (h.run pins s σ G H I hs sl) fun u s' ⟨v, H', I', rv, G', t, p⟩ => ⟨v, H', I', rv, G', Δ', _, ⟨L.size I' t.hs.sub p, rfl, rfl⟩, t, p⟩⟩
theorem JE.xT (h : JE X Δ Γ e (D X.K (.tuple ds)) Δ') : JX X Δ Γ e (fun r Δ2 => ds.length ≤ sizeLine ∧ r = D X.K (.tuple ds) ∧ Δ2 = Δ') := ⟨fun pins s σ G H I hs sl => thn (h.run pins s σ G H I hs sl) fun u s' ⟨v, H', I', rv, G', t, p⟩ => ⟨v, H', I', rv, G', Δ', _, ⟨T.size I' t.hs.sub p, rfl, rfl⟩, t, p⟩⟩
/-- by cases on what a part stands for -/
theorem JE.bind {ι : Type} {C : ι → Prop} {f : ι → SV} {i : Nat} (hg : Γ[i]? = some (some (SV.ex C f))) (h : ∀ k, C k → JE X Δ (Γ.set i (some (f k))) e r Δ') : JE X Δ Γ e r Δ' := ⟨fun pins s σ G H I hs sl => by
  obtain ⟨v, h1, k, ck, p⟩ := sl.at_ i _ hg
  have sl' : Sl σ G (Γ.set i (some (f k))) := by
    have := sl.set (i := i) p
    rwa [set_self h1] at this
  exact (h k ck).run pins s σ G H I hs sl'⟩

/-! ### statements -/
inductive En where
  | nx (Δ : Cs) (Γ : Gm)
  | rt (Δ : Cs) (r : SV)
  | ct (Δ : Cs) (Γ : Gm)
  | bk (Δ : Cs) (Γ : Gm)
structure Srv (O : En → Prop) (Δ : Cs) (G H : Hp) (D : Ends) : Prop where
  nx : ∀ σ' G' H' Δ' Γ', O (.nx Δ' Γ') → Tr Δ G H Δ' G' H' → Sl σ' G' Γ' → D.nx σ' H'
  rt : ∀ v G' H' Δ' r, O (.rt Δ' r) → Tr Δ G H Δ' G' H' → r.P v G' → D.rt v H'
  ct : ∀ σ' G' H' Δ' Γ', O (.ct Δ' Γ') → Tr Δ G H Δ' G' H' → Sl σ' G' Γ' → D.ct σ' H'
  bk : ∀ σ' G' H' Δ' Γ', O (.bk Δ' Γ') → Tr Δ G H Δ' G' H' → Sl σ' G' Γ' → D.bk σ' H'
theorem Srv.trans {O : En → Prop} {G H G1 H1 : Hp} {D : Ends} (v : Srv O Δ G H D) (t : Tr Δ G H Δ1 G1 H1) : Srv O Δ1 G1 H1 D :=
  ⟨fun σ' G' H' Δ' Γ' o u s => v.nx σ' G' H' Δ' Γ' o (t.trans u) s, fun x G' H' Δ' r o u p => v.rt x G' H' Δ' r o (t.trans u) p, fun σ' G' H' Δ' Γ' o u s => v.ct σ' G' H' Δ' Γ' o (t.trans u) s, fun σ' G' H' Δ' Γ' o u s => v.bk σ' G' H' Δ' Γ' o (t.trans u) s⟩
def ends (O : En → Prop) (Δ : Cs) (G H : Hp) : Ends where
  nx := fun σ' H' => ∃ G' Δ' Γ', O (.nx Δ' Γ') ∧ Tr Δ G H Δ' G' H' ∧ Sl σ' G' Γ'
  rt := fun v H' => ∃ G' Δ' r, O (.rt Δ' r) ∧ Tr Δ G H Δ' G' H' ∧ r.P v G'
  ct := fun σ' H' => ∃ G' Δ' Γ', O (.ct Δ' Γ') ∧ Tr Δ G H Δ' G' H' ∧ Sl σ' G' Γ'
  bk := fun σ' H' => ∃ G' Δ' Γ', O (.bk Δ' Γ') ∧ Tr Δ G H Δ' G' H' ∧ Sl σ' G' Γ'
theorem srv_ends {O : En → Prop} {G H : Hp} : Srv O Δ G H (ends O Δ G H) :=
  ⟨fun _ G' _ Δ' Γ' o u s => ⟨G', Δ', Γ', o, u, s⟩, fun _ G' _ Δ' r o u p => ⟨G', Δ', r, o, u, p⟩, fun _ G' _ Δ' Γ' o u s => ⟨G', Δ', Γ', o, u, s⟩, fun _ G' _ Δ' Γ' o u s => ⟨G', Δ', Γ', o, u, s⟩⟩
theorem sp_mono {pins : List (Addr × Obj)} {D D' : Ends} {f : Flow} {s : Shared} (h : SP X pins D f s) (h1 : ∀ σ H, D.nx σ H → D'.nx σ H) (h2 : ∀ v H, D.rt v H → D'.rt v H) (h3 : ∀ σ H, D.ct σ H → D'.ct σ H) (h4 : ∀ σ H, D.bk σ H → D'.bk σ H) : SP X pins D' f s := by
  cases f with
  | next => obtain ⟨σ, H, I, q⟩ := h; exact ⟨σ, H, I, h1 _ _ q⟩
  | brk => obtain ⟨σ, H, I, q⟩ := h; exact ⟨σ, H, I, h4 _ _ q⟩
  | cont => obtain ⟨σ, H, I, q⟩ := h; exact ⟨σ, H, I, h3 _ _ q⟩
  | ret u => obtain ⟨v, σ, H, I, rv, q⟩ := h; exact ⟨v, σ, H, I, rv, h2 _ _ q⟩
theorem sp_srv {O : En → Prop} {G H : Hp} {pins : List (Addr × Obj)} {D : Ends} {f : Flow} {s : Shared} (h : SP X pins (ends O Δ G H) f s) (v : Srv O Δ G H D) : SP X pins D f s :=
  sp_mono h (fun σ H ⟨G', Δ', Γ', o, u, s⟩ => v.nx σ G' H Δ' Γ' o u s) (fun x H ⟨G', Δ', r, o, u, p⟩ => v.rt x G' H Δ' r o u p) (fun σ H ⟨G', Δ', Γ', o, u, s⟩ => v.ct σ G' H Δ' Γ' o u s) fun σ H ⟨G', Δ', Γ', o, u, s⟩ => v.bk σ G' H Δ' Γ' o u s
structure JSs (X : Cx) (Δ : Cs) (Γ : Gm) (sts : List Stmt) (O : En → Prop) : Prop where
  run : ∀ (pins : List (Addr × Obj)) (s : Shared) (σ : L2.St) (G H : Hp), Inv X pins σ H s → Hs Δ G H → Sl σ G Γ → wpAny (model X.prog X.w) X.A (execs sts X.env) (SP X pins (ends O Δ G H)) X.xe s
variable {O O' : En → Prop} {sts rest body els : List Stmt} {st : Stmt}
def tSs (Δ : Cs) (Γ : Gm) (O : En → Prop) : TS := fun D σ H => ∃ G, Hs Δ G H ∧ Sl σ G Γ ∧ Srv O Δ G H D
theorem JSs.use (h : JSs X Δ Γ sts O) : PSs X sts (tSs Δ Γ O) := ⟨fun pins s σ H D I ⟨G, hs, sl, v⟩ => thn (h.run pins s σ G H I hs sl) fun f s' q => sp_srv q v⟩
def tSU (X : Cx) (sts : List Stmt) (O : En → Prop) : TS := fun D σ H => ∃ Δ Γ, JSs X Δ Γ sts O ∧ tSs Δ Γ O D σ H
theorem pss_U : PSs X sts (tSU X sts O) := ⟨fun pins s σ H D I ⟨Δ, Γ, h, q⟩ => h.use.run pins s σ H D I q⟩
theorem jss_of {t : TS} (h : PSs X sts t) (k : ∀ (σ : L2.St) (G H : Hp) (D : Ends), Hs Δ G H → Sl σ G Γ → Srv O Δ G H D → t D σ H) : JSs X Δ Γ sts O :=
  ⟨fun pins s σ G H I hs sl => h.run pins s σ H _ I (k σ G H _ hs sl srv_ends)⟩
theorem JSs.nox (h : JSs X.nox Δ Γ sts O) : JSs X Δ Γ sts O := jss_of h.use.nox fun σ G H D hs sl v => ⟨G, hs, sl, v⟩
theorem JSs.to (h : JSs X Δ Γ sts O) (k : ∀ e, O e → O' e) : JSs X Δ Γ sts O' := jss_of h.use fun σ G H D hs sl v => ⟨G, hs, sl, ⟨fun σ' G' H' Δ' Γ' o => v.nx σ' G' H' Δ' Γ' (k _ o), fun x G' H' Δ' r o => v.rt x G' H' Δ' r (k _ o), fun σ' G' H' Δ' Γ' o => v.ct σ' G' H' Δ' Γ' (k _ o), fun σ' G' H' Δ' Γ' o => v.bk σ' G' H' Δ' Γ' (k _ o)⟩⟩
/-- what is known of the slots, weaker -/
inductive GLe : Gm → Gm → Prop
  | nil : GLe [] []
  | drop {x : Option SV} {Γ Γ' : Gm} : GLe Γ Γ' → GLe (x :: Γ) (none :: Γ')
  | keep {x : Option SV} {Γ Γ' : Gm} : GLe Γ Γ' → GLe (x :: Γ) (x :: Γ')
  | wk {x y : SV} {Γ Γ' : Gm} : (∀ v G, x.P v G → y.P v G) → GLe Γ Γ' → GLe (some x :: Γ) (some y :: Γ')
theorem GLe.refl : ∀ Γ : Gm, GLe Γ Γ
  | [] => .nil
  | _ :: Γ => .keep (GLe.refl Γ)
theorem GLe.len {Γ Γ' : Gm} (h : GLe Γ Γ') : Γ'.length = Γ.length := by
  induction h with
  | nil => rfl
  | drop _ ih => simp [ih]
  | keep _ ih => simp [ih]
  | wk _ _ ih => simp [ih]
theorem GLe.at_ {Γ Γ' : Gm} (h : GLe Γ Γ') : ∀ {i : Nat} {r : SV}, Γ'[i]? = some (some r) → ∃ r0, Γ[i]? = some (some r0) ∧ ∀ v G, r0.P v G → r.P v G := by
  induction h with
  | nil => intro i r q; simp at q
  | drop _ ih =>
    intro i r q
    cases i with
    | zero => simp at q
    | succ i => simpa using ih (i := i) (r := r) (by simpa using q)
  | keep _ ih =>
    intro i r q
    cases i with
    | zero => exact ⟨r, by simpa using q, fun _ _ h => h⟩
    | succ i => simpa using ih (i := i) (r := r) (by simpa using q)
  | wk k _ ih =>
    intro i r q
    cases i with
    | zero => simp at q; subst q; exact ⟨_, rfl, k⟩
    | succ i => simpa using ih (i := i) (r := r) (by simpa using q)
theorem Sl.le {σ : L2.St} {G : Hp} {Γ Γ' : Gm} (h : Sl σ G Γ) (l : GLe Γ Γ') : Sl σ G Γ' := ⟨by rw [l.len]; exact h.len, fun i r q => by
  obtain ⟨r0, q0, k⟩ := l.at_ q
  obtain ⟨v, h1, h2⟩ := h.at_ i r0 q0
  exact ⟨v, h1, k v G h2⟩⟩
theorem JSs.le (h : JSs X Δ Γ' sts O) (l : GLe Γ Γ') : JSs X Δ Γ sts O := ⟨fun pins s σ G H I hs sl => h.run pins s σ G H I hs (sl.le l)⟩
theorem JE.le (h : JE X Δ Γ' e r Δ') (l : GLe Γ Γ') : JE X Δ Γ e r Δ' := ⟨fun pins s σ G H I hs sl => h.run pins s σ G H I hs (sl.le l)⟩

/-! the rules -/
theorem jss_nil (h : O (.nx Δ Γ)) : JSs X Δ Γ [] O := jss_of pss_nil fun σ G H D hs sl v => v.nx σ G H Δ Γ h (Tr.refl hs) sl
/-- a statement that gives the slot i a value -/
structure JAs (X : Cx) (i : Nat) (st : Stmt) (Δ : Cs) (Γ : Gm) (Oe : SV → Cs → Prop) : Prop where
  ex : ∃ te : TE, PS X st (tAsg te (gName i)) ∧ ∀ (σ : L2.St) (G H : Hp) (Q : VK), Hs Δ G H → Sl σ G Γ → (∀ v G' H' Δ' r, Oe r Δ' → Tr Δ G H Δ' G' H' → r.P v G' → Q v H') → te σ H Q
theorem jas_e {Oe : SV → Cs → Prop} {i : Nat} {x : Str} {pos' : Pos} (he : JX X Δ Γ e Oe) (hN : X.N.Nodup) (hi : X.N[i]? = some x := by rfl) (hx : Loc X.env.scope x := by first | exact Or.inl rfl | exact Or.inr rfl) (hs : swapsWith e (some (.Name x pos')) pos.line X.env = pure false := by rfl)
    (hf : X.fn x = true ∨ X.env.scope.names.lookup x = some .local := by first | exact .inl rfl | exact .inr rfl) : JAs X i (.Assign [.Name x pos'] e pos) Δ Γ Oe := ⟨_, ps_set hN hi hx he.use hs hf, fun σ G H Q hs sl q => ⟨G, hs, sl, q⟩⟩
theorem jss_set {Oe : SV → Cs → Prop} {i : Nat} (ha : JAs X i st Δ Γ Oe) (hr : ∀ r Δ1, Oe r Δ1 → JSs X Δ1 (Γ.set i (some r)) rest O) : JSs X Δ Γ (st :: rest) O := by
  obtain ⟨te, hp, k⟩ := ha
  exact jss_of (pss_cons hp pss_U) fun σ G H D hs sl sv => k σ G H _ hs sl fun v G1 H1 Δ1 r o t p => ⟨Δ1, _, hr r Δ1 o, G1, t.hs, (sl.mono t.up).set p, sv.trans t⟩
theorem jss_setE {i : Nat} {x : Str} {pos' : Pos} (he : JE X Δ Γ e r Δ1) (hN : X.N.Nodup) (hr : JSs X Δ1 (Γ.set i (some r)) rest O) (hi : X.N[i]? = some x := by rfl) (hx : Loc X.env.scope x := by first | exact Or.inl rfl | exact Or.inr rfl) (hs : swapsWith e (some (.Name x pos')) pos.line X.env = pure false := by rfl)
    (hf : X.fn x = true ∨ X.env.scope.names.lookup x = some .local := by first | exact .inl rfl | exact .inr rfl) : JSs X Δ Γ (.Assign [.Name x pos'] e pos :: rest) O := jss_set (jas_e he.x hN hi hx hs hf) fun r2 Δ2 ⟨e1, e2⟩ => by rw [e1, e2]; exact hr
theorem jss_ret (he : JE X Δ Γ e r Δ1) (h : O (.rt Δ1 r)) : JSs X Δ Γ (.Return (some e) pos :: rest) O := jss_of (pss_cons (ps_ret he.use) pss_never) fun σ G H D hs sl sv => ⟨G, hs, sl, fun v G1 H1 t p => sv.rt v G1 H1 Δ1 r h t p⟩
theorem jss_retX {Oe : SV → Cs → Prop} (he : JX X Δ Γ e Oe) (h : ∀ r Δ1, Oe r Δ1 → O (.rt Δ1 r)) : JSs X Δ Γ (.Return (some e) pos :: rest) O := jss_of (pss_cons (ps_ret he.use) pss_never) fun σ G H D hs sl sv => ⟨G, hs, sl, fun v G1 H1 Δ1 r o t p => sv.rt v G1 H1 Δ1 r (h r Δ1 o) t p⟩
theorem jss_cont (h : O (.ct Δ Γ)) : JSs X Δ Γ (.Continue pos :: rest) O := jss_of (pss_cons ps_continue pss_never) fun σ G H D hs sl sv => sv.ct σ G H Δ Γ h (Tr.refl hs) sl
theorem jss_expr {Oe : SV → Cs → Prop} (he : JX X Δ Γ e Oe) (hr : ∀ r Δ1, Oe r Δ1 → JSs X Δ1 Γ rest O) (hw : swapsWith e none pos.line X.env = pure false := by rfl) : JSs X Δ Γ (.Expr e pos :: rest) O :=
  jss_of (pss_cons (ps_expr he.use hw) pss_U) fun σ G H D hs sl sv => ⟨G, hs, sl, fun v G1 H1 Δ1 r o t p => ⟨Δ1, Γ, hr r Δ1 o, G1, t.hs, sl.mono t.up, sv.trans t⟩⟩
/-- behind it the rest -/
def thenO (X : Cx) (rest : List Stmt) (O : En → Prop) : En → Prop
  | .nx Δ Γ => JSs X Δ Γ rest O
  | e => O e
theorem srv_then {G H : Hp} {D : Ends} (v : Srv O Δ G H D) : Srv (thenO X rest O) Δ G H { D with nx := tSU X rest O D } :=
  ⟨fun σ' G' H' Δ' Γ' o t s => ⟨Δ', Γ', o, G', t.hs, s, v.trans t⟩, v.rt, v.ct, v.bk⟩
theorem jss_if {Oc : Bool → Cs → Prop} (hc : JB X Δ Γ c Oc) (h1 : ∀ Δ1, Oc true Δ1 → JSs X Δ1 Γ body (thenO X rest O)) (h2 : ∀ Δ1, Oc false Δ1 → JSs X Δ1 Γ els (thenO X rest O)) : JSs X Δ Γ (.If c body els pos :: rest) O :=
  jss_of (pss_cons (ps_if hc.use pss_U pss_U) pss_U) fun σ G H D hs sl sv => ⟨G, hs, sl, fun b G1 Δ1 H1 o t => by
    cases b with
    | true => exact ⟨Δ1, Γ, h1 Δ1 o, G1, t.hs, sl.mono t.up, srv_then (sv.trans t)⟩
    | false => exact ⟨Δ1, Γ, h2 Δ1 o, G1, t.hs, sl.mono t.up, srv_then (sv.trans t)⟩⟩
theorem jss_ifB {bb : Bool} (hc : JB X Δ Γ c (dB bb Δ1)) (h1 : bb = true → JSs X Δ1 Γ body (thenO X rest O)) (h2 : bb = false → JSs X Δ1 Γ els (thenO X rest O)) : JSs X Δ Γ (.If c body els pos :: rest) O :=
  jss_if hc (fun _ ⟨e1, e2⟩ => by rw [e2]; exact h1 e1.symm) fun _ ⟨e1, e2⟩ => by rw [e2]; exact h2 e1.symm
/-- if c: (ends); rest -/
theorem jss_if0 {bb : Bool} (hc : JB X Δ Γ c (dB bb Δ1)) (h1 : bb = true → JSs X Δ1 Γ body (thenO X rest O)) (h2 : bb = false → JSs X Δ1 Γ rest O) : JSs X Δ Γ (.If c body [] pos :: rest) O :=
  jss_ifB hc h1 fun e => jss_nil (h2 e)
/-- a slot's list, tuple: its size -/
theorem jss_szL {i : Nat} (hg : Γ[i]? = some (some (L X.K ds))) (h : ds.length ≤ sizeLine → JSs X Δ Γ sts O) : JSs X Δ Γ sts O := ⟨fun pins s σ G H I hs sl => by
  obtain ⟨v, h1, p⟩ := sl.at_ i _ hg
  exact (h (L.size I hs.sub p)).run pins s σ G H I hs sl⟩
theorem jss_szT {i : Nat} (hg : Γ[i]? = some (some (D X.K (.tuple ds)))) (h : ds.length ≤ sizeLine → JSs X Δ Γ sts O) : JSs X Δ Γ sts O := ⟨fun pins s σ G H I hs sl => by
  obtain ⟨v, h1, p⟩ := sl.at_ i _ hg
  exact (h (T.size I hs.sub p)).run pins s σ G H I hs sl⟩
/-- by cases on what a slot stands for -/
theorem jss_ex {ι : Type} {C : ι → Prop} {f : ι → SV} (i : Nat) (hg : Γ[i]? = some (some (SV.ex C f))) (h : ∀ k, C k → JSs X Δ (Γ.set i (some (f k))) sts O) : JSs X Δ Γ sts O := ⟨fun pins s σ G H I hs sl => by
  obtain ⟨v, h1, k, ck, p⟩ := sl.at_ i _ hg
  have sl' : Sl σ G (Γ.set i (some (f k))) := by
    have := sl.set (i := i) p
    rwa [set_self h1] at this
  exact (h k ck).run pins s σ G H I hs sl'⟩

/-! ### targets -/
def TgOk (g : TG) (js : List Nat) (r : SV) (Γ Γ' : Gm) : Prop := ∀ (v : V) (σ : L2.St) (G H : Hp) (Q : L2.St → Hp → Prop), Same G H → r.P v G → Sl σ G Γ → (∀ σ', Sl σ' G Γ' → (∀ vs : List Nat, (∀ j ∈ js, j ∈ vs) → L2.wipe σ' vs = L2.wipe σ vs) → Q σ' H) → g v σ H Q
theorem tg_name (i : Nat) : TgOk (gName i) [i] r Γ (Γ.set i (some r)) := fun v σ G H Q sg p sl q => q _ (sl.set p) fun vs hv => wipe_set (hv i (by simp))
theorem tg_pair {K : PySem.W.Frag} (i j : Nat) : TgOk (gTup K 2 (gCons (gName i) (gCons (gName j) gNil))) [i, j] (D K (.tuple [d1, d2])) Γ ((Γ.set i (some (D K d1))).set j (some (D K d2))) := fun v σ G H Q sg p sl q => by
  obtain ⟨a, xs, rfl, s, h, ok⟩ := d_tup p
  cases h with
  | cons p1 t =>
    cases t with
    | cons p2 t =>
      cases t
      refine ⟨a, _, rfl, sqt_same sg s, rfl, _, _, rfl, _, _, rfl, rfl, ?_⟩
      refine q _ ((sl.set (r := D K d1) ⟨p1, ok _ (by simp)⟩).set (r := D K d2) ⟨p2, ok _ (by simp)⟩) fun vs hv => ?_
      rw [wipe_set (hv j (by simp)), wipe_set (hv i (by simp))]

/-! ### what is walked -/
structure Wk (J : It) (G0 : Hp) (ds : List SV) : Prop where
  go : ∀ (i : Nat) (G H : Hp), Same G0 G → Same G H → i < ds.length → J.go i H
  stop : ∀ (i : Nat) (G H : Hp), Same G0 G → Same G H → i = ds.length → J.stop i H
  yld : ∀ (i : Nat) (G H : Hp) (x : V) (H' : Hp) (r : SV), Same G0 G → Same G H → ds[i]? = some r → J.yld i H x H' → ∃ G', Up G H G' H' ∧ r.P x G'
structure JI (X : Cx) (tg : Expr) (Δ : Cs) (Γ : Gm) (iter : Expr) (ds : List SV) (Δ' : Cs) : Prop where
  run : ∀ (pins : List (Addr × Obj)) (s : Shared) (σ : L2.St) (G H : Hp), Inv X pins σ H s → Hs Δ G H → Sl σ G Γ →
    wpAny (model X.prog X.w) X.A (eval iter X.env) (fun v s1 => wpAny (model X.prog X.w) X.A (pyIter v) (PIE X pins σ tg fun J H' => ∃ G', Tr Δ G H Δ' G' H' ∧ Wk J G' ds ∧ ds.length ≤ sizeLine) X.xe s1) X.xe s
def tI (Δ : Cs) (Γ : Gm) (ds : List SV) (Δ' : Cs) : TI := fun σ H R => ∃ G, Hs Δ G H ∧ Sl σ G Γ ∧ ∀ J G' H', Tr Δ G H Δ' G' H' → Wk J G' ds → ds.length ≤ sizeLine → R J H'
theorem pie_mono {pins : List (Addr × Obj)} {σ : L2.St} {tg : Expr} {R R' : It → Hp → Prop} {u : Value} {s : Shared} (h : PIE X pins σ tg R u s) (k : ∀ J H, R J H → R' J H) : PIE X pins σ tg R' u s := by
  obtain ⟨it, fp, tn, J, H', e, I, T, st, f, r⟩ := h
  exact ⟨it, fp, tn, J, H', e, I, T, st, f, k _ _ r⟩
variable {tg iter : Expr} {vs : List SV}
theorem JI.use (h : JI X tg Δ Γ iter vs Δ') : PI X tg iter (tI Δ Γ vs Δ') := ⟨fun pins s σ H R I ⟨G, hs, sl, k⟩ => thn (h.run pins s σ G H I hs sl) fun v s1 q => thn q fun u s2 q2 => pie_mono q2 fun J H' ⟨G', t, w, z⟩ => k J G' H' t w z⟩
theorem ji_of {wi : TI} (h : PI X tg iter wi) (k : ∀ (σ : L2.St) (G H : Hp) (R : It → Hp → Prop), Hs Δ G H → Sl σ G Γ → (∀ J G' H', Tr Δ G H Δ' G' H' → Wk J G' vs → vs.length ≤ sizeLine → R J H') → wi σ H R) : JI X tg Δ Γ iter vs Δ' :=
  ⟨fun pins s σ G H I hs sl => h.run pins s σ H _ I (k σ G H _ hs sl fun J G' H' t w z => ⟨G', t, w, z⟩)⟩
theorem JI.eq {vs' : List SV} (h : JI X tg Δ Γ iter vs Δ') (k : vs = vs') : JI X tg Δ Γ iter vs' Δ' := by rw [← k]; exact h
theorem sql_list {K : PySem.W.Frag} {H : Hp} {a : Addr} {xs : List V} {G0 G : Hp} (s1 : Same G0 G) (s2 : Same G H) (h : G0 a = some (.lst xs)) : SqL K H a xs := SqL.of (s2 _ _ (s1 _ _ h))
theorem wk_list {K : PySem.W.Frag} {a : Addr} {xs : List V} {G0 : Hp} (h : G0 a = some (.lst xs)) (hd : DpAll K G0 xs ds) (ok : AllOk ds) : Wk (Itl K a) G0 (ds.map (D K)) := by
  have hl := dps_len hd
  refine ⟨fun i G H s1 s2 hi => ?_, fun i G H s1 s2 hi => ?_, fun i G H x H' r s1 s2 hr y => ?_⟩
  · rw [List.length_map, ← hl] at hi
    exact ⟨xs, xs[i], sql_list s1 s2 h, by simp [hi]⟩
  · rw [List.length_map, ← hl] at hi
    exact ⟨xs, sql_list s1 s2 h, Nat.le_of_eq hi.symm⟩
  · obtain ⟨e, y⟩ := y
    subst e
    have hx := y xs (sql_list s1 s2 h)
    obtain ⟨d, hd1, hd2⟩ := dps_get' hd hx
    rw [List.getElem?_map, hd1] at hr
    cases hr
    exact ⟨G, Up.refl s2, dp_same s1 hd2, ok d (List.mem_of_getElem? hd1)⟩
theorem wk_tup {K : PySem.W.Frag} {a : Addr} {xs : List V} {G0 : Hp} (h : SqT K G0 a xs) (hd : DpAll K G0 xs ds) (ok : AllOk ds) : Wk (Itt K a) G0 (ds.map (D K)) := by
  have hl := dps_len hd
  refine ⟨fun i G H s1 s2 hi => ?_, fun i G H s1 s2 hi => ?_, fun i G H x H' r s1 s2 hr y => ?_⟩
  · rw [List.length_map, ← hl] at hi
    exact ⟨xs, xs[i], sqt_same s2 (sqt_same s1 h), by simp [hi]⟩
  · rw [List.length_map, ← hl] at hi
    exact ⟨xs, sqt_same s2 (sqt_same s1 h), Nat.le_of_eq hi.symm⟩
  · obtain ⟨e, y⟩ := y
    subst e
    have hx := y xs (sqt_same s2 (sqt_same s1 h))
    obtain ⟨d, hd1, hd2⟩ := dps_get' hd hx
    rw [List.getElem?_map, hd1] at hr
    cases hr
    exact ⟨G, Up.refl s2, dp_same s1 hd2, ok d (List.mem_of_getElem? hd1)⟩
theorem ji_L (h : JE X Δ Γ e (L X.K ds) Δ') : JI X tg Δ Γ e (ds.map (D X.K)) Δ' :=
  ji_of (pi_list h.xL.use) fun σ G H R hs sl q => ⟨G, hs, sl, fun v G1 H1 Δ2 r ⟨z, e1, e2⟩ t p => by
    subst e1 e2
    obtain ⟨a, xs, rfl, h1, h2, h3⟩ := p
    exact ⟨a, rfl, ⟨xs, SqL.of (t.hs.sub _ _ h1)⟩, q _ G1 H1 t (wk_list h1 h2 h3) (by rw [List.length_map]; exact z)⟩⟩
theorem ji_T (h : JE X Δ Γ e (D X.K (.tuple ds)) Δ') : JI X tg Δ Γ e (ds.map (D X.K)) Δ' :=
  ji_of (pi_tup h.xT.use) fun σ G H R hs sl q => ⟨G, hs, sl, fun v G1 H1 Δ2 r ⟨z, e1, e2⟩ t p => by
    subst e1 e2
    obtain ⟨a, xs, rfl, h1, h2, h3⟩ := d_tup p
    exact ⟨a, rfl, ⟨xs, sqt_same t.hs.sub h1⟩, q _ G1 H1 t (wk_tup h1 h2 h3) (by rw [List.length_map]; exact z)⟩⟩
theorem wk_rng {K : PySem.W.Frag} {lo : Int} {n : Nat} {G0 : Hp} : Wk (Itr lo n) G0 ((List.range n).map fun k : Nat => D K (.int (lo + (k : Int)))) := by
  refine ⟨fun i G H s1 s2 hi => ?_, fun i G H s1 s2 hi => ?_, fun i G H x H' r s1 s2 hr y => ?_⟩
  · rw [List.length_map, List.length_range] at hi; exact hi
  · rw [List.length_map, List.length_range] at hi; exact Nat.le_of_eq hi.symm
  · obtain ⟨e, y⟩ := y
    subst e y
    rw [List.getElem?_map] at hr
    cases hq : (List.range n)[i]? with
    | none => rw [hq] at hr; cases hr
    | some k =>
      rw [hq] at hr
      cases hr
      obtain ⟨_, e⟩ := List.getElem?_eq_some_iff.mp hq
      rw [List.getElem_range] at e
      subst e
      exact ⟨G, Up.refl s2, d_int _⟩
theorem ji_rng1 {p : Pos} {n : Nat} (hm : X.mg "range" = none) (ha : JE X Δ Γ e (D X.K (.int n)) Δ') (hn : n ≤ sizeLine) (hg : Gl X "range" := by rfl) (hs : starEach [e] X.env = [(false, eval e X.env)] := by rfl) : JI X tg Δ Γ (.Call (.Name "range" p) [e] [] pos) ((List.range n).map fun k : Nat => D X.K (.int (k : Int))) Δ' :=
  ji_of (pi_range1 hg hm (ja_cons ha ja_nil hs).use hs) fun σ G H R hs sl q => ⟨G, hs, sl, fun vs G1 H1 t ps => by
    obtain ⟨v, rfl, p⟩ := paired1 ps
    cases p.1
    have hz : (sizeLine : Nat) < 2 ^ 62 := by rw [sizeLine_eq]; decide
    refine ⟨n, rfl, by omega, by omega, ?_⟩
    have w := wk_rng (K := X.K) (lo := 0) (n := n) (G0 := G1)
    have e : ((List.range n).map fun k : Nat => D X.K (.int (0 + (k : Int)))) = ((List.range n).map fun k : Nat => D X.K (.int (k : Int))) := by
      refine List.map_congr_left fun k _ => ?_
      rw [Int.zero_add]
    rw [e] at w
    exact q _ G1 H1 t w (by simpa using hn)⟩
/-! ### for -/
def loopO (X : Cx) (I : Nat → Cs → Gm → Prop) (i : Nat) (rest : List Stmt) (O : En → Prop) : En → Prop
  | .nx Δ Γ => ∃ Γ', GLe Γ Γ' ∧ I (i + 1) Δ Γ'
  | .ct Δ Γ => ∃ Γ', GLe Γ Γ' ∧ I (i + 1) Δ Γ'
  | .bk Δ Γ => JSs X Δ Γ rest O
  | .rt Δ r => O (.rt Δ r)
theorem jss_for {g : TG} {js : List Nat} (hp : PassesOwn (model X.prog X.w) X.A X.env X.xe) (hc : X.calm = true) (hi : JI X tg Δ Γ iter vs Δ1) (hg : PG X tg g) (I : Nat → Cs → Gm → Prop) (h0 : I 0 Δ1 Γ)
    (hb : ∀ i r Δ Γ, vs[i]? = some r → I i Δ Γ → ∃ Γ', TgOk g js r Γ Γ' ∧ JSs X Δ Γ' body (loopO X I i rest O)) (hd : ∀ Δ Γ, I vs.length Δ Γ → JSs X Δ Γ rest O)
    (hs : ∀ x, foldedSetIterable iter X.env x = pure x := by intro _; rfl) : JSs X Δ Γ (.For tg iter body [] pos :: rest) O := by
  refine jss_of (pss_cons (ps_for hp hc hi.use hg (tb := fun D σ H => ∃ i, tSU X body (loopO X I i rest O) D σ H) ⟨fun pins s σ H D J ⟨i, q⟩ => pss_U.run pins s σ H D J q⟩ hs) (pss_U (O := O))) fun σ G H D hs sl sv => ⟨G, hs, sl, fun J G1 H1 t w z => ?_⟩
  refine ⟨fun i m σ H => m = vs.length - i ∧ i ≤ vs.length ∧ ∃ Δ2 Γ2 G2, I i Δ2 Γ2 ∧ Tr Δ1 G1 H1 Δ2 G2 H ∧ Sl σ G2 Γ2, ⟨vs.length, rfl, Nat.zero_le _, Δ1, Γ, G1, h0, Tr.refl t.hs, sl.mono t.up⟩, ?_⟩
  rintro i m σ2 H2 ⟨rfl, hle, Δ2, Γ2, G2, i2, t2, sl2⟩
  by_cases hlt : i < vs.length
  · refine .inr ⟨w.go i G2 H2 t2.up t2.hs.sub hlt, fun σ' H' => i + 1 ≤ vs.length ∧ ∃ Δ2 Γ2 G2, I (i + 1) Δ2 Γ2 ∧ Tr Δ1 G1 H1 Δ2 G2 H' ∧ Sl σ' G2 Γ2, fun σ' H' q => ⟨vs.length - (i + 1), by omega, rfl, q⟩, fun x H' y => ?_⟩
    have hr : vs[i]? = some vs[i] := List.getElem?_eq_getElem hlt
    obtain ⟨G3, u3, p3⟩ := w.yld i G2 H2 x H' _ t2.up t2.hs.sub hr y
    have t3 : Tr Δ1 G1 H1 Δ2 G3 H' := t2.trans (u3.up0 t2.hs)
    obtain ⟨Γ3, tk, hbody⟩ := hb i _ Δ2 Γ2 hr i2
    refine tk x σ2 G3 H' _ t3.hs.sub p3 (sl2.mono u3.up) fun σ4 sl4 _ => ⟨i, Δ2, Γ3, hbody, G3, t3.hs, sl4, ?_⟩
    refine ⟨fun σ5 G5 H5 Δ5 Γ5 ⟨Γ6, l6, i6⟩ t5 s5 => ⟨hlt, Δ5, Γ6, G5, i6, t3.trans t5, s5.le l6⟩, fun v G5 H5 Δ5 r o t5 p5 => sv.rt v G5 H5 Δ5 r o (t.trans (t3.trans t5)) p5, fun σ5 G5 H5 Δ5 Γ5 ⟨Γ6, l6, i6⟩ t5 s5 => ⟨hlt, Δ5, Γ6, G5, i6, t3.trans t5, s5.le l6⟩, fun σ5 G5 H5 Δ5 Γ5 o t5 s5 => ⟨Δ5, Γ5, o, G5, t5.hs, s5, sv.trans (t.trans (t3.trans t5))⟩⟩
  · have e : i = vs.length := by omega
    subst e
    exact .inl ⟨w.stop _ G2 H2 t2.up t2.hs.sub rfl, Δ2, Γ2, hd Δ2 Γ2 i2, G2, t2.hs, sl2, sv.trans (t.trans t2)⟩

/-! ### comprehensions -/
def JBs (X : Cx) (Δ : Cs) (Γ : Gm) (ifs : List Expr) (O : Bool → Cs → Prop) : Prop := PTs X ifs (tJB Δ Γ O)
theorem jbs_nil : JBs X Δ Γ [] (dB true Δ) := ⟨fun pins s σ H Q I ⟨G, hs, sl, k⟩ => pts_nil.run pins s σ H Q I (k true G Δ H ⟨rfl, rfl⟩ (Tr.refl hs))⟩
theorem jbs_one {Oc : Bool → Cs → Prop} (h : JB X Δ Γ c Oc) : JBs X Δ Γ [c] Oc := pts_one h.use
/-- the block of a comprehension -/
def tJU (F : Cs → Gm → SV → Cs → Prop) : TE := fun σ H Q => ∃ Δ Γ r Δ', F Δ Γ r Δ' ∧ tJ Δ Γ r Δ' σ H Q
def tBU (F : Cs → Gm → (Bool → Cs → Prop) → Prop) : TT := fun σ H Q => ∃ Δ Γ O, F Δ Γ O ∧ tJB Δ Γ O σ H Q
/-- in every block -/
def AllJ (X : Cx) (scope : Scope) (e : Expr) (Δ : Cs) (Γ : Gm) (r : SV) (Δ' : Cs) : Prop := ∀ (s : Shared) (H : Hp) (C : Addr) (cl : List (Str × Addr)) (fp : List Addr), JE (X.blk s H scope (compEnvC scope cl C X.env) fp) Δ Γ e r Δ'
def AllB (X : Cx) (scope : Scope) (ifs : List Expr) (Δ : Cs) (Γ : Gm) (O : Bool → Cs → Prop) : Prop := ∀ (s : Shared) (H : Hp) (C : Addr) (cl : List (Str × Addr)) (fp : List Addr), JBs (X.blk s H scope (compEnvC scope cl C X.env) fp) Δ Γ ifs O
theorem all_pe {scope : Scope} (s : Shared) (H : Hp) (C : Addr) (cl : List (Str × Addr)) (fp : List Addr) : PE (X.blk s H scope (compEnvC scope cl C X.env) fp) e (tJU (AllJ X scope e)) :=
  ⟨fun pins s1 σ H1 Q I ⟨Δ, Γ, r, Δ', h, q⟩ => (h s H C cl fp).use.run pins s1 σ H1 Q I q⟩
theorem all_pt {scope : Scope} {ifs : List Expr} (s : Shared) (H : Hp) (C : Addr) (cl : List (Str × Addr)) (fp : List Addr) : PTs (X.blk s H scope (compEnvC scope cl C X.env) fp) ifs (tBU (AllB X scope ifs)) :=
  ⟨fun pins s1 σ H1 Q I ⟨Δ, Γ, O, h, q⟩ => (h s H C cl fp).run pins s1 σ H1 Q I q⟩
/-- what a turn of a comprehension does: Δi by the turn, J by the turn and what is made so far -/
structure LcStep (X : Cx) (scope : Scope) (elt : Expr) (ifs : List Expr) (g : TG) (vs : List Nat) (Γ : Gm) (items : List SV) (Δi : Nat → Cs) (J : Nat → List PyData → Prop) : Prop where
  step : ∀ i r acc, items[i]? = some r → J i acc → ∃ Γ' js Oc, TgOk g js r (wipeG Γ vs) Γ' ∧ (∀ j ∈ js, j ∈ vs) ∧ AllB X scope ifs (Δi i) Γ' Oc ∧ (∀ Δ2, Oc false Δ2 → J (i + 1) acc ∧ Δ2 = Δi (i + 1)) ∧
    ∀ Δ2, Oc true Δ2 → AllJ X scope elt Δ2 Γ' (SV.ex (fun d => J (i + 1) (acc ++ [d])) (D X.K)) (Δi (i + 1))
theorem Tr.poke {G H G' H' : Hp} {p : Addr} {o : HO} (t : Tr Δ G H Δ' G' H') (h : H p = none) (g : G' p = none) (n : p ∉ dom Δ') : Tr Δ G H Δ' G' (upd H' p o) := by
  refine ⟨⟨fun a u e => ?_, fun q hq => ?_, t.hs.nd⟩, t.up, fun a u ha e => ?_, t.nw⟩
  · rw [upd_ne (ne_of_none e g)]; exact t.hs.sub _ _ e
  · obtain ⟨g1, o1, e1, p1⟩ := t.hs.cell q hq
    refine ⟨g1, o1, ?_, p1⟩
    rw [upd_ne (a := p) (b := q.1) fun z => n (by rw [← z]; exact List.mem_map_of_mem hq)]; exact e1
  · rw [upd_ne (ne_of_none e h)]; exact t.fr a u ha e
theorem Tr.show {G H G' H' : Hp} {p : Addr} {o : HO} (t : Tr Δ G H Δ' G' H') (h : H p = none) (g : G' p = none) (n : p ∉ dom Δ') (ho : H' p = some o) : Tr Δ G H Δ' (upd G' p o) H' := by
  refine ⟨⟨fun a u e => ?_, fun q hq => ?_, t.hs.nd⟩, t.up.trans (same_new g), fun a u ha e => ⟨(t.fr a u ha e).1, fun z => ?_⟩, t.nw⟩
  · by_cases z : a = p
    · subst z; rw [upd_same] at e; rw [← e]; exact ho
    · rw [upd_ne z] at e; exact t.hs.sub _ _ e
  · obtain ⟨g1, o1, e1, p1⟩ := t.hs.cell q hq
    refine ⟨?_, o1, e1, q.2.mono (same_new g) p1⟩
    rw [upd_ne (a := p) (b := q.1) fun z => n (by rw [← z]; exact List.mem_map_of_mem hq)]; exact g1
  · rw [upd_ne (ne_of_none e h)]; exact (t.fr a u ha e).2 z
theorem Hs.out {G H : Hp} {p : Addr} (h : Hs Δ G H) (hp : H p = none) : p ∉ dom Δ := fun hm => by
  obtain ⟨q, hq, e⟩ := List.mem_map.mp hm
  obtain ⟨_, o, e2, _⟩ := h.cell q hq
  rw [e, hp] at e2; cases e2
theorem Tr.out {G H G' H' : Hp} {p : Addr} {o : HO} (t : Tr Δ G H Δ' G' H') (n : p ∉ dom Δ) (h : H p = some o) : p ∉ dom Δ' := fun hm => (t.nw p hm).elim n fun z => by rw [z] at h; cases h
theorem lc_read {scope : Scope} {elt : Expr} {ifs : List Expr} {g : TG} {vs : List Nat} {items : List SV} {Δi : Nat → Cs} {J : Nat → List PyData → Prop} (S : LcStep X scope elt ifs g vs Γ items Δi J) (h0 : J 0 []) (hΔ : Δ1 = Δi 0)
    {σ : L2.St} {G H : Hp} {Q : VK} (hs : Hs Δ G H) (sl : Sl σ G Γ) (q : ∀ v G' H', Tr Δ G H (Δi items.length) G' H' → (SV.ex (fun acc => acc.length ≤ items.length ∧ J items.length acc) (L X.K)).P v G' → Q v H') :
    tLc (tI Δ Γ items Δ1) g (tBU (AllB X scope ifs)) (tJU (AllJ X scope elt)) vs σ H Q := by
  subst hΔ
  refine ⟨G, hs, sl, fun It G1 H1 t w z => fun D0 hD => ?_⟩
  refine ⟨fun i m H => m = items.length - i ∧ i ≤ items.length ∧ ∃ G2 xs acc, H D0 = some (.lst xs) ∧ G2 D0 = none ∧ D0 ∉ dom (Δi i) ∧ DpAll X.K G2 xs acc ∧ AllOk acc ∧ acc.length ≤ i ∧ J i acc ∧ Tr (Δi 0) G1 H1 (Δi i) G2 H ∧ Sl σ G2 Γ,
    ⟨items.length, rfl, Nat.zero_le _, G1, [], [], upd_same, none_of_sub t.hs.sub hD, t.hs.out hD, .nil, allok_nil, Nat.le_refl _, h0, (Up.hid t.hs.sub hD).up0 t.hs, sl.mono t.up⟩, ?_⟩
  rintro i m H2 ⟨rfl, hle, G2, xs, acc, hx, hG, hn, hd, ok, hal, hj, t2, sl2⟩
  by_cases hlt : i < items.length
  · refine .inr ⟨w.go i G2 H2 t2.up t2.hs.sub hlt, fun H' => i + 1 ≤ items.length ∧ ∃ G2 xs acc, H' D0 = some (.lst xs) ∧ G2 D0 = none ∧ D0 ∉ dom (Δi (i + 1)) ∧ DpAll X.K G2 xs acc ∧ AllOk acc ∧ acc.length ≤ i + 1 ∧ J (i + 1) acc ∧ Tr (Δi 0) G1 H1 (Δi (i + 1)) G2 H' ∧ Sl σ G2 Γ, fun H' q => ⟨items.length - (i + 1), by omega, rfl, q⟩, fun x H3 y => ?_⟩
    have hr : items[i]? = some items[i] := List.getElem?_eq_getElem hlt
    obtain ⟨G3, u3, p3⟩ := w.yld i G2 H2 x H3 _ t2.up t2.hs.sub hr y
    have t3 : Tr (Δi 0) G1 H1 (Δi i) G3 H3 := t2.trans (u3.up0 t2.hs)
    have hx3 := u3.fr D0 _ (by simp [dom]) hx
    obtain ⟨Γ', js, Oc, tk, hjs, hB, hF, hT⟩ := S.step i _ acc hr hj
    refine tk x (L2.wipe σ vs) G3 H3 _ t3.hs.sub p3 ((sl2.mono u3.up).wipe vs) fun σ4 sl4 hw => ⟨?_, ?_⟩
    · rw [hw vs hjs]
      exact wipe_wipe vs vs fun _ h => h
    · refine ⟨Δi i, Γ', Oc, hB, G3, t3.hs, sl4, fun c G5 Δ5 H5 o t5 => ?_⟩
      have hx5 := t5.fr D0 _ hn hx3.1
      have hn5 := t5.out hn hx3.1
      cases c with
      | false =>
        obtain ⟨hj5, e5⟩ := hF Δ5 o
        subst e5
        exact ⟨hlt, G5, xs, acc, hx5.1, hx5.2 (hx3.2 hG), hn5, dps_same (u3.up.trans t5.up) hd, ok, by omega, hj5, t3.trans t5, sl2.mono (u3.up.trans t5.up)⟩
      | true =>
        refine ⟨Δ5, Γ', _, Δi (i + 1), hT Δ5 o, G5, t5.hs, sl4.mono t5.up, fun v G6 H6 t6 p6 => ?_⟩
        obtain ⟨d, hjd, pd⟩ := p6
        have hx6 := t6.fr D0 _ hn5 hx5.1
        have hn6 := t6.out hn5 hx5.1
        have hg6 := hx6.2 (hx5.2 (hx3.2 hG))
        have lx := dps_len hd
        have s6 := u3.up.trans (t5.up.trans t6.up)
        refine ⟨xs, hx6.1, by omega, hlt, G6, xs ++ [v], acc ++ [d], upd_same, hg6, hn6, dps_snoc (dps_same s6 hd) pd.1, allok_app ok (allok_cons pd.2 allok_nil), by simp; omega, hjd, (t3.trans (t5.trans t6)).poke hD hg6 hn6, sl2.mono s6⟩
  · have e : i = items.length := by omega
    subst e
    refine .inl ⟨w.stop _ G2 H2 t2.up t2.hs.sub rfl, q _ _ H2 (t.trans (t2.show hD hG hn hx)) ⟨acc, ⟨hal, hj⟩, D0, xs, rfl, upd_same, dps_same (same_new hG) hd, ok⟩⟩
variable {scope : Scope} {own : List (Str × Nat)} {elt : Expr} {ifs : List Expr} {g : TG} {Δi : Nat → Cs} {J : Nat → List PyData → Prop}
/-- [elt for tg in iter if ..]: what is made so far by J -/
theorem je_lcO (hc : X.calm = true) (hN : X.N.Nodup) (hi : JI X tg Δ Γ iter vs Δ1) (ok : BlkOk X.N X.env.scope scope own) (hg : ∀ (s : Shared) (H : Hp) (C : Addr) (cl : List (Str × Addr)) (fp : List Addr), PG (X.blk s H scope (compEnvC scope cl C X.env) fp) tg g)
    (S : LcStep X scope elt ifs g (own.map (·.2)) Γ vs Δi J) (h0 : J 0 []) (hΔ : Δ1 = Δi 0) (hs : ∀ x, foldedSetIterable iter X.env x = pure x := by intro _; rfl) : JE X Δ Γ (.ListComp elt [⟨tg, iter, ifs, 0⟩] scope pos) (SV.ex (fun acc => acc.length ≤ vs.length ∧ J vs.length acc) (L X.K)) (Δi vs.length) :=
  je_of (pe_lc hc hN hi.use ok hg all_pt all_pe hs) fun σ G H Q hh sl q => lc_read S h0 hΔ hh sl q
/-- the same, assigned on one line -/
theorem jas_lcO {i : Nat} {y : Str} {py spos : Pos} (hc : X.calm = true) (hN : X.N.Nodup) (hi : JI X tg Δ Γ iter vs Δ1) (ok : BlkOk X.N X.env.scope scope own) (hg : ∀ (s : Shared) (H : Hp) (C : Addr) (cl : List (Str × Addr)) (fp : List Addr), PG (X.blk s H scope (compEnvC scope cl C X.env) fp) tg g)
    (S : LcStep X scope elt ifs g (own.map (·.2)) Γ vs Δi J) (h0 : J 0 []) (hΔ : Δ1 = Δi 0) (hsw : swapsWith (.ListComp elt [⟨tg, iter, ifs, 0⟩] scope pos) (some (.Name y py)) spos.line X.env = pure true) (hy : X.N[i]? = some y := by rfl) (hyl : X.env.scope.names.lookup y = some .local := by rfl) (hs : ∀ x, foldedSetIterable iter X.env x = pure x := by intro _; rfl) :
    JAs X i (.Assign [.Name y py] (.ListComp elt [⟨tg, iter, ifs, 0⟩] scope pos) spos) Δ Γ (fun r Δ2 => ∃ acc, (acc.length ≤ vs.length ∧ J vs.length acc) ∧ r = L X.K acc ∧ Δ2 = Δi vs.length) :=
  ⟨_, ps_setLc hc hN hy hyl hsw hi.use ok hg all_pt all_pe hs, fun σ G H Q hh sl q => lc_read S h0 hΔ hh sl fun v G' H' t ⟨acc, k, p⟩ => q v G' H' _ _ ⟨acc, k, rfl, rfl⟩ t p⟩
/-- over data: the items that pass, each told by f -/
theorem lc_step {α : Type} {l : List α} {ra : α → SV} {p : α → Bool} {f : α → PyData} {vs : List Nat} {Γa : α → Gm} {js : List Nat} (ht : ∀ a ∈ l, TgOk g js (ra a) (wipeG Γ vs) (Γa a)) (hjs : ∀ j ∈ js, j ∈ vs)
    (hB : ∀ a ∈ l, AllB X scope ifs Δ (Γa a) (dB (p a) Δ)) (hT : ∀ a ∈ l, p a = true → AllJ X scope elt Δ (Γa a) (D X.K (f a)) Δ) : LcStep X scope elt ifs g vs Γ (l.map ra) (fun _ => Δ) (fun i acc => acc = ((l.take i).filter p).map f) := by
  refine ⟨fun i r acc hr hj => ?_⟩
  rw [List.getElem?_map] at hr
  cases hq : l[i]? with
  | none => rw [hq] at hr; cases hr
  | some a =>
    rw [hq] at hr
    cases hr
    have ha := List.mem_of_getElem? hq
    have htk : l.take (i + 1) = l.take i ++ [a] := by rw [List.take_add_one, hq]; rfl
    refine ⟨Γa a, js, dB (p a) Δ, ht a ha, hjs, hB a ha, fun Δ2 ⟨e1, e2⟩ => ⟨?_, e2⟩, fun Δ2 ⟨e1, e2⟩ => ?_⟩
    · rw [htk, List.filter_append, List.filter_cons, ← e1]
      simpa using hj
    · subst e2
      intro s H C cl fp
      refine (hT a ha e1.symm s H C cl fp).to fun v G pv => ⟨f a, ?_, pv⟩
      rw [htk, List.filter_append, List.filter_cons, ← e1, hj]
      simp
theorem je_lc {α : Type} {l : List α} {ra : α → SV} {p : α → Bool} {f : α → PyData} {Γa : α → Gm} {js : List Nat} (hc : X.calm = true) (hN : X.N.Nodup) (hi : JI X tg Δ Γ iter (l.map ra) Δ1) (ok : BlkOk X.N X.env.scope scope own) (hg : ∀ (s : Shared) (H : Hp) (C : Addr) (cl : List (Str × Addr)) (fp : List Addr), PG (X.blk s H scope (compEnvC scope cl C X.env) fp) tg g)
    (ht : ∀ a ∈ l, TgOk g js (ra a) (wipeG Γ (own.map (·.2))) (Γa a)) (hjs : ∀ j ∈ js, j ∈ own.map (·.2)) (hB : ∀ a ∈ l, AllB X scope ifs Δ1 (Γa a) (dB (p a) Δ1)) (hT : ∀ a ∈ l, p a = true → AllJ X scope elt Δ1 (Γa a) (D X.K (f a)) Δ1)
    (hs : ∀ x, foldedSetIterable iter X.env x = pure x := by intro _; rfl) : JE X Δ Γ (.ListComp elt [⟨tg, iter, ifs, 0⟩] scope pos) (L X.K ((l.filter p).map f)) Δ1 :=
  (je_lcO hc hN hi ok hg (lc_step ht hjs hB hT) rfl rfl hs).to fun v G ⟨acc, ⟨_, e⟩, pv⟩ => by
    have e : acc = _ := e
    rw [List.length_map, List.take_length] at e
    rw [← e]; exact pv
theorem jas_lc {α : Type} {l : List α} {ra : α → SV} {p : α → Bool} {f : α → PyData} {Γa : α → Gm} {js : List Nat} {i : Nat} {y : Str} {py spos : Pos} (hc : X.calm = true) (hN : X.N.Nodup) (hi : JI X tg Δ Γ iter (l.map ra) Δ1) (ok : BlkOk X.N X.env.scope scope own) (hg : ∀ (s : Shared) (H : Hp) (C : Addr) (cl : List (Str × Addr)) (fp : List Addr), PG (X.blk s H scope (compEnvC scope cl C X.env) fp) tg g)
    (ht : ∀ a ∈ l, TgOk g js (ra a) (wipeG Γ (own.map (·.2))) (Γa a)) (hjs : ∀ j ∈ js, j ∈ own.map (·.2)) (hB : ∀ a ∈ l, AllB X scope ifs Δ1 (Γa a) (dB (p a) Δ1)) (hT : ∀ a ∈ l, p a = true → AllJ X scope elt Δ1 (Γa a) (D X.K (f a)) Δ1)
    (hsw : swapsWith (.ListComp elt [⟨tg, iter, ifs, 0⟩] scope pos) (some (.Name y py)) spos.line X.env = pure true) (hy : X.N[i]? = some y := by rfl) (hyl : X.env.scope.names.lookup y = some .local := by rfl) (hs : ∀ x, foldedSetIterable iter X.env x = pure x := by intro _; rfl) :
    JAs X i (.Assign [.Name y py] (.ListComp elt [⟨tg, iter, ifs, 0⟩] scope pos) spos) Δ Γ (fun r Δ2 => ((l.filter p).map f).length ≤ l.length ∧ r = L X.K ((l.filter p).map f) ∧ Δ2 = Δ1) := by
  obtain ⟨te, h1, h2⟩ := jas_lcO hc hN hi ok hg (lc_step ht hjs hB hT) rfl rfl hsw hy hyl hs
  refine ⟨te, h1, fun σ G H Q hh sl q => h2 σ G H Q hh sl fun v G' H' Δ' r ⟨acc, ⟨h3, e⟩, e1, e2⟩ t pv => q v G' H' Δ' r ⟨?_, ?_, e2⟩ t pv⟩
  · rw [List.length_map] at h3 e
    rw [List.take_length] at e
    rw [← e]; exact h3
  · rw [List.length_map, List.take_length] at e
    rw [← e]; exact e1
end
end Bl
set_option Elab.async false
set_option linter.all false
set_option maxRecDepth 100000
set_option maxHeartbeats 2000000
namespace Bl
open PySem PySem.Spec PyProof.Rows L2

/-! ### lists that change -/
def LC (K : PySem.W.Frag) (ds : List PyData) : Cl := ⟨fun G o => ∃ xs, o = .lst xs ∧ DpAll K G xs ds ∧ AllOk ds, fun e ⟨xs, h1, h2, h3⟩ => ⟨xs, h1, dps_same e h2, h3⟩⟩
theorem nodup_at {α : Type} : ∀ {l : List α} {i j : Nat} {x : α}, l.Nodup → l[i]? = some x → l[j]? = some x → i = j
  | [], _, _, _, _, h, _ => by simp at h
  | a :: l, 0, 0, _, _, _, _ => rfl
  | a :: l, 0, j + 1, x, n, h1, h2 => by
    simp at h1; subst h1
    exact absurd (List.mem_of_getElem? (by simpa using h2)) (List.nodup_cons.mp n).1
  | a :: l, i + 1, 0, x, n, h1, h2 => by
    simp at h2; subst h2
    exact absurd (List.mem_of_getElem? (by simpa using h1)) (List.nodup_cons.mp n).1
  | a :: l, i + 1, j + 1, x, n, h1, h2 => congrArg Nat.succ (nodup_at (x := x) (List.nodup_cons.mp n).2 (by simpa using h1) (by simpa using h2))
theorem Hs.other {Δ : Cs} {G H : Hp} {p : Addr} {C : Cl} {i j : Nat} {q : Addr × Cl} (h : Hs Δ G H) (hi : Δ[i]? = some (p, C)) (hj : Δ[j]? = some q) (n : j ≠ i) : q.1 ≠ p := fun e => by
  refine n (nodup_at h.nd (x := p) ?_ ?_)
  · unfold dom; rw [List.getElem?_map, hj]; simp [e]
  · unfold dom; rw [List.getElem?_map, hi]; rfl
theorem Tr.put {Δ : Cs} {G H : Hp} {p : Addr} {C C' : Cl} {o : HO} {j : Nat} (h : Hs Δ G H) (hj : Δ[j]? = some (p, C)) (ho : C'.P G o) : Tr Δ G H (Δ.set j (p, C')) G (upd H p o) := by
  have hp := h.cell _ (List.mem_of_getElem? hj)
  have hd : dom (Δ.set j (p, C')) = dom Δ := by
    unfold dom
    rw [List.map_set]
    exact set_self (by rw [List.getElem?_map, hj]; rfl)
  have hm : p ∈ dom Δ := List.mem_map.mpr ⟨_, List.mem_of_getElem? hj, rfl⟩
  refine ⟨⟨fun a u e => ?_, fun q hq => ?_, by rw [hd]; exact h.nd⟩, Same.refl G, fun a u ha e => ⟨?_, id⟩, fun a ha => .inl (by rw [hd] at ha; exact ha)⟩
  · rw [upd_ne (ne_of_none e hp.1)]; exact h.sub _ _ e
  · obtain ⟨k, hk⟩ := List.getElem?_of_mem hq
    by_cases e : k = j
    · subst e
      rw [List.getElem?_set_self (List.getElem?_eq_some_iff.mp hj).1] at hk
      cases hk
      exact ⟨hp.1, o, upd_same, ho⟩
    · rw [List.getElem?_set_ne (Ne.symm e)] at hk
      obtain ⟨g, o1, e1, p1⟩ := h.cell q (List.mem_of_getElem? hk)
      exact ⟨g, o1, by rw [upd_ne (h.other hj hk e)]; exact e1, p1⟩
  · rw [upd_ne (a := p) (b := a) fun z => ha (by rw [z]; exact hm)]; exact e
theorem Tr.pub {Δ : Cs} {G H : Hp} {p : Addr} {C : Cl} {o : HO} {j : Nat} (h : Hs Δ G H) (hj : Δ[j]? = some (p, C)) (ho : H p = some o) : Tr Δ G H (Δ.eraseIdx j) (upd G p o) H := by
  have hp := h.cell _ (List.mem_of_getElem? hj)
  have hm : p ∈ dom Δ := List.mem_map.mpr ⟨_, List.mem_of_getElem? hj, rfl⟩
  have hsub : ∀ a ∈ dom (Δ.eraseIdx j), a ∈ dom Δ := fun a ha => (List.Sublist.map Prod.fst (List.eraseIdx_sublist Δ j)).subset ha
  refine ⟨⟨fun a u e => ?_, fun q hq => ?_, List.Pairwise.sublist (List.Sublist.map Prod.fst (List.eraseIdx_sublist Δ j)) h.nd⟩, same_new hp.1, fun a u ha e => ⟨e, fun z => ?_⟩, fun a ha => .inl (hsub a ha)⟩
  · by_cases z : a = p
    · subst z; rw [upd_same] at e; rw [← e]; exact ho
    · rw [upd_ne z] at e; exact h.sub _ _ e
  · obtain ⟨k, hk, e⟩ := List.mem_eraseIdx_iff_getElem?.mp hq
    obtain ⟨g, o1, e1, p1⟩ := h.cell q (List.mem_of_getElem? e)
    exact ⟨by rw [upd_ne (h.other hj e hk)]; exact g, o1, e1, q.2.mono (same_new hp.1) p1⟩
  · rw [upd_ne (a := p) (b := a) fun y => ha (by rw [y]; exact hm)]; exact z
theorem Tr.cell {Δ : Cs} {G H : Hp} {p : Addr} {C : Cl} {o : HO} (h : Hs Δ G H) (hp : H p = none) (ho : C.P G o) : Tr Δ G H (Δ ++ [(p, C)]) G (upd H p o) := by
  have hn := h.out hp
  refine ⟨⟨h.sub.trans (same_new hp), fun q hq => ?_, ?_⟩, Same.refl G, fun a u ha e => ⟨same_new hp _ _ e, id⟩, fun a ha => ?_⟩
  · rcases List.mem_append.mp hq with m | m
    · obtain ⟨g, o1, e1, p1⟩ := h.cell q m
      exact ⟨g, o1, same_new hp _ _ e1, p1⟩
    · obtain rfl : q = (p, C) := by simpa using m
      exact ⟨none_of_sub h.sub hp, o, upd_same, ho⟩
  · unfold dom
    rw [List.map_append, List.nodup_append]
    refine ⟨h.nd, by simp, fun a ha b hb e => ?_⟩
    obtain rfl : b = p := by simpa using hb
    subst e
    exact hn ha
  · unfold dom at ha
    rw [List.map_append] at ha
    rcases List.mem_append.mp ha with m | m
    · exact .inl m
    · obtain rfl : a = p := by simpa using m
      exact .inr hp
section
variable {X : Cx} {e a b c : Expr} {es : List Expr} {Γ Γ' : Gm} {Δ Δ1 Δ2 Δ3 Δ' : Cs} {r ra rb rc : SV} {rs : List SV} {pos : Pos} {d d1 d2 : PyData} {ds ds1 ds2 : List PyData} {O O' : En → Prop} {sts rest body els : List Stmt} {st : Stmt} {p : Addr}
/-- [e, ..] that will change -/
theorem jx_newl (h : JA X Δ Γ es (ds.map (D X.K)) Δ1) (hz : ds.length ≤ sizeLine := by show _ ≤ 16777216; first | decide | simp) : JX X Δ Γ (.List es pos) (fun r Δ2 => ∃ p, r = VV (.ref p) ∧ Δ2 = Δ1 ++ [(p, LC X.K ds)]) :=
  jx_of (pe_lst h.use) fun σ G H Q hs sl q => ⟨G, hs, sl, fun vs G1 H1 t ps => by
    obtain ⟨q1, q2⟩ := paired_dps ps
    refine ⟨by rw [dps_len q1]; exact hz, fun p hp => q _ G1 _ _ _ ⟨p, rfl, rfl⟩ (t.trans (Tr.cell t.hs hp ⟨vs, rfl, q1, q2⟩)) rfl⟩⟩
theorem sl_cell {σ : L2.St} {G H : Hp} {i j : Nat} (hs : Hs Δ G H) (hj : Δ[j]? = some (p, LC X.K ds)) : ∃ xs, H p = some (.lst xs) ∧ DpAll X.K G xs ds ∧ AllOk ds := by
  obtain ⟨_, o, e, xs, rfl, h⟩ := hs.cell _ (List.mem_of_getElem? hj)
  exact ⟨xs, e, h⟩
/-- xs.append(e) -/
theorem jx_app {i j j0 : Nat} {ds0 : List PyData} {x : Str} {px apos cpos : Pos} (hv : JE X Δ Γ (.Name x px) (VV (.ref p)) Δ) (hj0 : Δ[j0]? = some (p, LC X.K ds0)) {C : PyData → Prop} (he : JE X Δ Γ e (SV.ex C (D X.K)) Δ1) (hj : Δ1[j]? = some (p, LC X.K ds)) (hz : ds.length < sizeLine)
    (hfew : ((backTo cpos (starEach (e :: []) X.env)).all (fun x => !x.1) && (backToKw cpos (keywordEach [] X.env)).all (fun x => x.1.isSome) && decide ((e :: []).length + ([] : List Keyword).length + (if ([] : List Keyword).isEmpty then 0 else 1) < 30)) = true := by rfl)
    (hline : (apos.endLine == cpos.line) = true := by rfl) (hse : starEach (e :: []) X.env = (false, eval e X.env) :: starEach [] X.env := by rfl) (hplain : (backTo cpos (starEach [] X.env)).any (·.1) = false := by rfl) :
    JX X Δ Γ (.Call (.Attribute (.Name x px) "append" apos) [e] [] cpos) (fun r Δ2 => ∃ d, C d ∧ r = VV .non ∧ Δ2 = Δ1.set j (p, LC X.K (ds ++ [d]))) :=
  jx_of (pe_bm PySem.F.plainAttrs_list PySem.F.slot_list_append PySem.F.type_list_append mt_append hv.use (ja_cons he ja_nil hse).use (hbase := by rfl) (hfew := hfew) (hline := hline) (hs := hse) (hplain := hplain)) fun σ G H Q hs sl q => ⟨G, hs, sl, fun v G1 H1 t1 p1 => by
    have e1 : v = .ref p := p1
    subst e1
    obtain ⟨xs0, h0, _⟩ := sl_cell (X := X) (σ := σ) (i := i) t1.hs hj0
    refine ⟨.inl ⟨rfl, _, SqL.of h0⟩, G1, t1.hs, sl.mono t1.up, fun vs G2 H2 t2 ps => ?_⟩
    obtain ⟨y, rfl, d, cd, pd⟩ := paired1 ps
    obtain ⟨xs, h1, h2, h3⟩ := sl_cell (X := X) (σ := σ) (i := i) t2.hs hj
    refine ⟨p, xs, y, rfl, rfl, h1, by rw [dps_len h2]; exact hz, q _ G2 _ _ _ ⟨d, cd, rfl, rfl⟩ ((t1.trans t2).trans (Tr.put t2.hs hj ⟨_, rfl, dps_snoc h2 pd.1, allok_app h3 (allok_cons pd.2 allok_nil)⟩)) rfl⟩⟩
theorem je_one_ex (h : JE X Δ Γ e (D X.K d) Δ1) : JE X Δ Γ e (SV.ex (fun x => x = d) (D X.K)) Δ1 := h.to fun v G p => ⟨d, rfl, p⟩
/-- xs.extend(ys), ys a list -/
theorem jx_ext {i j j0 : Nat} {ds0 : List PyData} {x : Str} {px apos cpos : Pos} (hv : JE X Δ Γ (.Name x px) (VV (.ref p)) Δ) (hj0 : Δ[j0]? = some (p, LC X.K ds0)) (he : JE X Δ Γ e (L X.K ds1) Δ1) (hj : Δ1[j]? = some (p, LC X.K ds)) (hz : ds.length + ds1.length ≤ sizeLine)
    (hfew : ((backTo cpos (starEach (e :: []) X.env)).all (fun x => !x.1) && (backToKw cpos (keywordEach [] X.env)).all (fun x => x.1.isSome) && decide ((e :: []).length + ([] : List Keyword).length + (if ([] : List Keyword).isEmpty then 0 else 1) < 30)) = true := by rfl)
    (hline : (apos.endLine == cpos.line) = true := by rfl) (hse : starEach (e :: []) X.env = (false, eval e X.env) :: starEach [] X.env := by rfl) (hplain : (backTo cpos (starEach [] X.env)).any (·.1) = false := by rfl) :
    JX X Δ Γ (.Call (.Attribute (.Name x px) "extend" apos) [e] [] cpos) (fun r Δ2 => r = VV .non ∧ Δ2 = Δ1.set j (p, LC X.K (ds ++ ds1))) :=
  jx_of (pe_bm PySem.F.plainAttrs_list PySem.F.slot_list_extend PySem.F.type_list_extend mt_extend hv.use (ja_cons he ja_nil hse).use (hbase := by rfl) (hfew := hfew) (hline := hline) (hs := hse) (hplain := hplain)) fun σ G H Q hs sl q => ⟨G, hs, sl, fun v G1 H1 t1 p1 => by
    have e1 : v = .ref p := p1
    subst e1
    obtain ⟨xs0, h0, _⟩ := sl_cell (X := X) (σ := σ) (i := i) t1.hs hj0
    refine ⟨.inl ⟨rfl, _, SqL.of h0⟩, G1, t1.hs, sl.mono t1.up, fun vs G2 H2 t2 ps => ?_⟩
    obtain ⟨y, rfl, a, ys, rfl, hy, hd, hok⟩ := paired1 ps
    obtain ⟨xs, h1, h2, h3⟩ := sl_cell (X := X) (σ := σ) (i := i) t2.hs hj
    refine ⟨p, a, xs, ys, rfl, rfl, h1, t2.hs.sub _ _ hy, by rw [dps_len h2, dps_len hd]; exact hz, q _ G2 _ _ _ ⟨rfl, rfl⟩ ((t1.trans t2).trans (Tr.put t2.hs hj ⟨_, rfl, dps_app h2 hd, allok_app h3 hok⟩)) rfl⟩⟩
/-- from here on it does not change -/
theorem jss_pub (i j : Nat) (hg : Γ[i]? = some (some (VV (.ref p)))) (hj : Δ[j]? = some (p, LC X.K ds)) (h : JSs X (Δ.eraseIdx j) (Γ.set i (some (L X.K ds))) sts O) : JSs X Δ Γ sts O := ⟨fun pins s σ G H I hs sl => by
  obtain ⟨xs, h1, h2, h3⟩ := sl_cell (X := X) (σ := σ) (i := i) hs hj
  have t := Tr.pub hs hj h1
  obtain ⟨v, q1, q2⟩ := sl.at_ i _ hg
  have e1 : v = .ref p := q2
  subst e1
  have hp : G p = none := (hs.cell _ (List.mem_of_getElem? hj)).1
  have sl' : Sl σ (upd G p (.lst xs)) (Γ.set i (some (L X.K ds))) := by
    have := (sl.mono t.up).set (i := i) (v := .ref p) (r := L X.K ds) ⟨p, xs, rfl, upd_same, dps_same t.up h2, h3⟩
    rwa [set_self q1] at this
  exact thn (h.run pins s σ _ H I t.hs sl') fun f s' q => sp_srv q (srv_ends.trans t)⟩
/-- read in an expression that needs no cell and gives a bool -/
theorem je_pub (i j : Nat) (hg : Γ[i]? = some (some (VV (.ref p)))) (hj : Δ[j]? = some (p, LC X.K ds)) {bb : Bool} (h : JE X [] (Γ.set i (some (L X.K ds))) e (D X.K (.bool bb)) []) : JE X Δ Γ e (D X.K (.bool bb)) Δ := ⟨fun pins s σ G H I hs sl => by
  obtain ⟨xs, h1, h2, h3⟩ := sl_cell (X := X) (σ := σ) (i := i) hs hj
  have t := Tr.pub hs hj h1
  obtain ⟨v, q1, q2⟩ := sl.at_ i _ hg
  have e1 : v = .ref p := q2
  subst e1
  have hp : G p = none := (hs.cell _ (List.mem_of_getElem? hj)).1
  have sl' : Sl σ (upd G p (.lst xs)) (Γ.set i (some (L X.K ds))) := by
    have := (sl.mono t.up).set (i := i) (v := .ref p) (r := L X.K ds) ⟨p, xs, rfl, upd_same, dps_same t.up h2, h3⟩
    rwa [set_self q1] at this
  refine thn (h.run pins s σ _ H I (Hs.nil t.hs.sub) sl') fun u s' ⟨v, H', I', rv, G', t', pv⟩ => ⟨v, H', I', rv, fun a => if a = p then none else G' a, ?_, ?_⟩
  · have k1 : Same G fun a => if a = p then none else G' a := fun a u e => by
      have n := ne_of_none e hp
      show (if a = p then none else G' a) = some u
      rw [if_neg n]
      exact t'.up _ _ (same_new hp _ _ e)
    have k2 : Same (fun a => if a = p then none else G' a) H' := fun a u e => by
      have e : (if a = p then none else G' a) = some u := e
      by_cases z : a = p
      · rw [if_pos z] at e; cases e
      · rw [if_neg z] at e; exact t'.hs.sub _ _ e
    refine ⟨⟨k2, fun q hq => ?_, hs.nd⟩, k1, fun a u ha e => ?_, fun a ha => .inl ha⟩
    · obtain ⟨g, o, e, po⟩ := hs.cell q hq
      obtain ⟨e', k⟩ := t'.fr q.1 o (by simp [dom]) e
      refine ⟨?_, o, e', q.2.mono k1 po⟩
      show (if q.1 = p then none else G' q.1) = none
      by_cases z : q.1 = p
      · rw [if_pos z]
      · rw [if_neg z]; exact k (by rw [upd_ne z]; exact g)
    · obtain ⟨e', k⟩ := t'.fr a u (by simp [dom]) e
      refine ⟨e', fun g => ?_⟩
      show (if a = p then none else G' a) = none
      by_cases z : a = p
      · rw [if_pos z]
      · rw [if_neg z]; exact k (by rw [upd_ne z]; exact g)
  · cases pv.1
    exact d_bl bb⟩
theorem jss_app {i j j0 : Nat} {ds0 : List PyData} {x : Str} {px apos cpos : Pos} (hv : JE X Δ Γ (.Name x px) (VV (.ref p)) Δ) (hj0 : Δ[j0]? = some (p, LC X.K ds0)) (he : JE X Δ Γ e (D X.K d) Δ1) (hj : Δ1[j]? = some (p, LC X.K ds)) (hz : ds.length < sizeLine)
    (hr : JSs X (Δ1.set j (p, LC X.K (ds ++ [d]))) Γ rest O)
    (hfew : ((backTo cpos (starEach (e :: []) X.env)).all (fun x => !x.1) && (backToKw cpos (keywordEach [] X.env)).all (fun x => x.1.isSome) && decide ((e :: []).length + ([] : List Keyword).length + (if ([] : List Keyword).isEmpty then 0 else 1) < 30)) = true := by rfl)
    (hline : (apos.endLine == cpos.line) = true := by rfl) (hse : starEach (e :: []) X.env = (false, eval e X.env) :: starEach [] X.env := by rfl) (hplain : (backTo cpos (starEach [] X.env)).any (·.1) = false := by rfl) (hw : swapsWith (.Call (.Attribute (.Name x px) "append" apos) [e] [] cpos) none pos.line X.env = pure false := by rfl) :
    JSs X Δ Γ (.Expr (.Call (.Attribute (.Name x px) "append" apos) [e] [] cpos) pos :: rest) O :=
  jss_expr (jx_app (i := i) hv hj0 (je_one_ex he) hj hz hfew hline hse hplain) (fun r Δ2 ⟨d', e1, _, e2⟩ => by rw [e2, e1]; exact hr) hw
theorem jss_ext {i j j0 : Nat} {ds0 : List PyData} {x : Str} {px apos cpos : Pos} (hv : JE X Δ Γ (.Name x px) (VV (.ref p)) Δ) (hj0 : Δ[j0]? = some (p, LC X.K ds0)) (he : JE X Δ Γ e (L X.K ds1) Δ1) (hj : Δ1[j]? = some (p, LC X.K ds)) (hz : ds.length + ds1.length ≤ sizeLine)
    (hr : JSs X (Δ1.set j (p, LC X.K (ds ++ ds1))) Γ rest O)
    (hfew : ((backTo cpos (starEach (e :: []) X.env)).all (fun x => !x.1) && (backToKw cpos (keywordEach [] X.env)).all (fun x => x.1.isSome) && decide ((e :: []).length + ([] : List Keyword).length + (if ([] : List Keyword).isEmpty then 0 else 1) < 30)) = true := by rfl)
    (hline : (apos.endLine == cpos.line) = true := by rfl) (hse : starEach (e :: []) X.env = (false, eval e X.env) :: starEach [] X.env := by rfl) (hplain : (backTo cpos (starEach [] X.env)).any (·.1) = false := by rfl) (hw : swapsWith (.Call (.Attribute (.Name x px) "extend" apos) [e] [] cpos) none pos.line X.env = pure false := by rfl) :
    JSs X Δ Γ (.Expr (.Call (.Attribute (.Name x px) "extend" apos) [e] [] cpos) pos :: rest) O :=
  jss_expr (jx_ext (i := i) hv hj0 he hj hz hfew hline hse hplain) (fun r Δ2 ⟨_, e2⟩ => by rw [e2]; exact hr) hw
end

/-! ### defs -/
/-- a def's promise: what the arguments stand for, the cells, what is given, the cells behind it -/
abbrev Prm := List SV → Cs → SV → Cs → Prop
def spJ (Pre : Prm) : Sp := fun vs H Q E => ∃ G rs Δ r Δ', Pre rs Δ r Δ' ∧ Hs Δ G H ∧ PR G vs rs ∧ ∀ v G' H', Tr Δ G H Δ' G' H' → r.P v G' → Q v H'
/-- no cells -/
def pure0 (F : List SV → SV → Prop) : Prm := fun rs Δ r Δ' => Δ = [] ∧ Δ' = [] ∧ F rs r
def fnO (r : SV) (Δ' : Cs) : En → Prop
  | .rt Δ2 r2 => Δ2 = Δ' ∧ ∀ v G, r2.P v G → r.P v G
  | .nx Δ2 _ => Δ2 = Δ' ∧ ∀ G, r.P .non G
  | _ => False
theorem fnO_rt {r : SV} {Δ : Cs} : fnO r Δ (.rt Δ r) := ⟨rfl, fun _ _ h => h⟩
def start0 (N : List Str) (rs : List SV) : Gm := rs.map some ++ List.replicate (N.length - rs.length) none
theorem sl_start {N : List Str} {G : Hp} : ∀ {rs : List SV} {vs : List V}, PR G vs rs → Sl (L2.start N vs) G (start0 N rs) := by
  intro rs vs h
  have hl := Paired.length h
  refine ⟨by simp [L2.start, start0, hl], fun i r q => ?_⟩
  unfold start0 at q
  by_cases hi : i < rs.length
  · rw [List.getElem?_append_left (by simpa using hi), List.getElem?_map] at q
    have hv : i < vs.length := by omega
    refine ⟨vs[i], ?_, ?_⟩
    · unfold L2.start
      rw [List.getElem?_append_left (by simpa using hv)]
      simp [hv]
    · rw [List.getElem?_eq_getElem hi] at q
      have q : rs[i] = r := by simpa using q
      have : ∀ {rs : List SV} {vs : List V} (h : PR G vs rs) (i : Nat) (h1 : i < rs.length) (h2 : i < vs.length), (rs[i]).P (vs[i]) G := by
        intro rs vs h
        induction h with
        | nil => intro i h1; simp at h1
        | cons p t ih =>
          intro i h1 h2
          cases i with
          | zero => exact p
          | succ i => exact ih i _ _
      rw [← q]
      exact this h i hi hv
  · rw [List.getElem?_append_right (by simpa using hi)] at q
    rw [List.getElem?_replicate] at q
    split at q
    · cases q
    · cases q
section
variable {P : Program} {w : World} {K : PySem.W.Frag} {mg : Str → Option Value} {base : Heap} {x qual : Str} {params : Arguments} {body : List Stmt} {scope : Scope} {dvs : List V} {kws : List (Str × V)} {f : Addr} {fd : FuncData}
theorem fn_ok {CX : CXT} {N ps : List Str} {k : Nat} {Pre : Prm} (F : FunD K x qual params body scope dvs kws f fd) (S : FnScope N ps scope) (hlen : ∀ rs Δ r Δ', Pre rs Δ r Δ' → rs.length = ps.length)
    (hb : ∀ (cdv : Value) (A : Around) (outer : List Env) (s : Shared) (H : Hp) (E : XK) (rs : List SV) (Δ : Cs) (r : SV) (Δ' : Cs), Room k (A.deeper (envOfC qual scope s.heap.objs.size f cdv)) → Pre rs Δ r Δ' →
      JSs (cxOf CX P w K mg base N qual scope f cdv A outer s H E).nox Δ (start0 N rs) body (fnO r Δ')) : FnOk P w K mg base CX (k + 1) f fd ps (spJ Pre) :=
  F.ok S (fun vs H Q E ⟨G, rs, Δ, r, Δ', hp, _, pr, _⟩ => by rw [Paired.length pr]; exact hlen rs Δ r Δ' hp) fun cdv A outer s H vs Q E hr ⟨G, rs, Δ, r, Δ', hp, hs, pr, q⟩ =>
    ⟨_, (hb cdv A outer s H E rs Δ r Δ' hr hp).use.nox, G, hs, sl_start pr, ⟨fun σ' G' H' Δ2 Γ' ⟨e, k⟩ t sl => by subst e; exact q _ G' H' t (k G'), fun v G' H' Δ2 r2 ⟨e, k⟩ t p => by subst e; exact q v G' H' t (k v G' p), fun _ _ _ _ _ o => o.elim, fun _ _ _ _ _ o => o.elim⟩⟩
/-- a def that may be called: its promise -/
structure Ok (P : Program) (w : World) (K : PySem.W.Frag) (mg : Str → Option Value) (base : Heap) (k : Nat) (x : Str) (ps : List Str) (Pre : Prm) : Prop where
  ex : ∃ f fd, FnOk P w K mg base CX0 k f fd ps (spJ Pre) ∧ mg x = some (.ref f) ∧ PySem.W.keepIn K (.ref f) = true ∧ Binds K fd ps []
theorem Ok.mono {j k : Nat} {x : Str} {ps : List Str} {Pre : Prm} (h : Ok P w K mg base j x ps Pre) (l : j ≤ k) : Ok P w K mg base k x ps Pre := by
  obtain ⟨f, fd, F, a, b, c⟩ := h
  exact ⟨f, fd, F.mono l, a, b, c⟩
end
section
variable {X : Cx} {e a b c : Expr} {es : List Expr} {Γ Γ' : Gm} {Δ Δ0 Δ0' Δr Δ1 Δ2 Δ3 Δ' : Cs} {r ra rb rc : SV} {rs : List SV} {pos : Pos}
theorem je_call {k : Nat} {x : Str} {ps : List Str} {Pre : Prm} {p : Pos} (h : Ok X.prog X.w X.K X.mg X.base k x ps Pre) (hr : Room k X.A) (ha : JA X Δ Γ (e :: es) rs (Δ0 ++ Δr)) (hp : Pre rs Δ0 r Δ0') (hg : Gl X x := by rfl) (hdb : (x == ("__debug__" : Str)) = false := by decide) (he : starEach (e :: es) X.env = (false, eval e X.env) :: starEach es X.env := by rfl) (hpl : (backTo pos (starEach es X.env)).any (·.1) = false := by rfl) :
    JE X Δ Γ (.Call (.Name x p) (e :: es) [] pos) r (Δ0' ++ Δr) := by
  obtain ⟨f, fd, F, hm, hk, hb⟩ := h
  refine je_of (pe_call F hr hg hm hk hb .nil pass0 ha.use hdb he hpl) fun σ G H Q hs sl q => ⟨G, hs, sl, fun vs G1 H1 t ps => ?_⟩
  show spJ Pre (vs ++ []) H1 Q E0
  rw [List.append_nil]
  have hs0 : Hs Δ0 G1 H1 := ⟨t.hs.sub, fun q hq => t.hs.cell q (List.mem_append_left _ hq), by have := t.hs.nd; unfold dom at this ⊢; rw [List.map_append, List.nodup_append] at this; exact this.1⟩
  exact ⟨G1, rs, Δ0, r, Δ0', hp, hs0, ps, fun v G' H' t' pv => q v G' H' (t.trans (t'.frame t.hs)) pv⟩
theorem je_callP {k : Nat} {x : Str} {ps : List Str} {F : List SV → SV → Prop} {p : Pos} (h : Ok X.prog X.w X.K X.mg X.base k x ps (pure0 F)) (hr : Room k X.A) (ha : JA X Δ Γ (e :: es) rs Δ1) (hp : F rs r) (hg : Gl X x := by rfl) (hdb : (x == ("__debug__" : Str)) = false := by decide) (he : starEach (e :: es) X.env = (false, eval e X.env) :: starEach es X.env := by rfl) (hpl : (backTo pos (starEach es X.env)).any (·.1) = false := by rfl) :
    JE X Δ Γ (.Call (.Name x p) (e :: es) [] pos) r Δ1 := je_call (Δ0 := []) (Δr := Δ1) (Δ0' := []) h hr ha ⟨rfl, rfl, hp⟩ hg hdb he hpl
end
end Bl
set_option Elab.async false
set_option linter.all false
set_option maxRecDepth 100000
set_option maxHeartbeats 2000000
/-! written by gentop.py: the defs by their place, the facts that the proofs take of the top -/
namespace Bl
open PySem PySem.Spec PyProof.Rows L2
def DefAt (K : PySem.W.Frag) (mg : Str → Option Value) (x : Str) (i : Nat) : Prop := ∃ f fd, FunD K x x (defArgs (top i)) (defBody (top i)) (defScope (top i)) [] [] f fd ∧ mg x = some (.ref f)
structure Tx (K : PySem.W.Frag) (mg : Str → Option Value) : Prop where
  d_is_ascending_part : DefAt K mg "is_ascending_part" 11
  d_marks_of : DefAt K mg "marks_of" 12
  d_meets : DefAt K mg "meets" 14
  d_holders_with : DefAt K mg "holders_with" 15
  d_holders_without : DefAt K mg "holders_without" 16
  d_entry_clauses : DefAt K mg "entry_clauses" 17
  d_find_clauses : DefAt K mg "find_clauses" 18
  d_clauses : DefAt K mg "clauses" 19
  d_parts_of : DefAt K mg "parts_of" 21
  d_is_part_of : DefAt K mg "is_part_of" 22
  d_meets_all : DefAt K mg "meets_all" 23
  d_fits : DefAt K mg "fits" 24
  d_each_group : DefAt K mg "each_group" 25
  d_least_groups : DefAt K mg "least_groups" 26
  d_outside : DefAt K mg "outside" 29
  d_tree_by : DefAt K mg "tree_by" 30
  d_is_pair : DefAt K mg "is_pair" 31
  d_is_branch : DefAt K mg "is_branch" 32
  d_is_tree : DefAt K mg "is_tree" 33
  d_tree_for : DefAt K mg "tree_for" 34
  d_tree_holds : DefAt K mg "tree_holds" 35
  d_is_word : DefAt K mg "is_word" 40
  d_are_rising : DefAt K mg "are_rising" 41
  d_fits_places : DefAt K mg "fits_places" 42
  d_is_name : DefAt K mg "is_name" 54
  d_is_mark : DefAt K mg "is_mark" 55
  d_is_place : DefAt K mg "is_place" 56
  d_are_places : DefAt K mg "are_places" 57
  d_is_row : DefAt K mg "is_row" 58
  d_is_copy : DefAt K mg "is_copy" 59
  d_are_copies : DefAt K mg "are_copies" 60
  d_is_smaller_part : DefAt K mg "is_smaller_part" 63
  d_least_ones : DefAt K mg "least_ones" 64
  d_least_meeting : DefAt K mg "least_meeting" 65
  d_is_statement : DefAt K mg "is_statement" 66
  d_statements : DefAt K mg "statements" 67
  d__law_deck : DefAt K mg "_law_deck" 69
  d__law_draw : DefAt K mg "_law_draw" 70
  d__law_pick : DefAt K mg "_law_pick" 71
  d__law_people : DefAt K mg "_law_people" 72
  d__law_spots : DefAt K mg "_law_spots" 73
  d__law_copies : DefAt K mg "_law_copies" 74
  d__law_marks : DefAt K mg "_law_marks" 75
  d__law_mixed : DefAt K mg "_law_mixed" 76
  d__law_case : DefAt K mg "_law_case" 77
  d__law_can : DefAt K mg "_law_can" 78
  d__law_sets : DefAt K mg "_law_sets" 79
  d__law_meets : DefAt K mg "_law_meets" 81
  d__law_within : DefAt K mg "_law_within" 82
  d__law_least : DefAt K mg "_law_least" 83
  d__law_rows : DefAt K mg "_law_rows" 84
  d__law_tree_right : DefAt K mg "_law_tree_right" 85
  d__law_heard : DefAt K mg "_law_heard" 86
  d__law_set_right : DefAt K mg "_law_set_right" 87
  d_law : DefAt K mg "law" 88
  f_isinstance : mg "isinstance" = none
  f_tuple : mg "tuple" = none
  f_all : mg "all" = none
  f_zip : mg "zip" = none
  f_str : mg "str" = none
  f_any : mg "any" = none
  f_sorted : mg "sorted" = none
  f_set : mg "set" = none
  f_enumerate : mg "enumerate" = none
  f_len : mg "len" = none
  f_range : mg "range" = none
  f_min : mg "min" = none
  f_list : mg "list" = none
  f_repr : mg "repr" = none
  c_PICK : ∃ t, mg "PICK" = some (.str "pick" t)
  c_FREE : ∃ t, mg "FREE" = some (.str "free" t)
  c_UNREADABLE : ∃ t, mg "UNREADABLE" = some (.str "?" t)
  c_PARTS : ∃ t, mg "PARTS" = some (.int 2 t)
  c_LOWER_CASE : ∃ t, mg "LOWER_CASE" = some (.str "abcdefghijklmnopqrstuvwxyz" t)
  c_UPPER_CASE : ∃ t, mg "UPPER_CASE" = some (.str "ABCDEFGHIJKLMNOPQRSTUVWXYZ" t)
  c_MOST_LETTERS : ∃ t, mg "MOST_LETTERS" = some (.int 8 t)
  c_PLACES : ∃ t, mg "PLACES" = some (.str "places" t)
  c_COPIES : ∃ t, mg "COPIES" = some (.str "copies" t)
  c_COPY_PARTS : ∃ t, mg "COPY_PARTS" = some (.int 2 t)
section
variable {P : Program} {w : World} {K : PySem.W.Frag} {mg : Str → Option Value} {base : Heap}
abbrev cxN (P : Program) (w : World) (K : PySem.W.Frag) (mg : Str → Option Value) (base : Heap) (N : List Str) (x : Str) (i : Nat) (f : Addr) (cdv : Value) (A : Around) (outer : List Env) (s : Shared) (H : Hp) (E : XK) : Cx := (cxOf CX0 P w K mg base N x (defScope (top i)) f cdv A outer s H E).nox
/-- a def of the top, its promise by its body -/
theorem ok_of {x : Str} {i : Nat} {N ps : List Str} {k : Nat} {Pre : Prm} (d : DefAt K mg x i) (S : FnScope N ps (defScope (top i)))
    (hbind : ∀ (kV doc pm : Value) (an : Option Addr) (cdv ct : Value) (us : List Value), us.length = ps.length → bindArgs (PySem.W.fnOf x x (defArgs (top i)) (defBody (top i)) (defScope (top i)) .none kV doc pm an cdv ct) ⟨us, []⟩ = pure (ps.zip us))
    (hlen : ∀ rs Δ r Δ', Pre rs Δ r Δ' → rs.length = ps.length)
    (hb : ∀ (f : Addr) (cdv : Value) (A : Around) (outer : List Env) (s : Shared) (H : Hp) (E : XK) (rs : List SV) (Δ : Cs) (r : SV) (Δ' : Cs), Room k (A.deeper (envOfC x (defScope (top i)) s.heap.objs.size f cdv)) → Pre rs Δ r Δ' →
      JSs (cxN P w K mg base N x i f cdv A outer s H E) Δ (start0 N rs) (defBody (top i)) (fnO r Δ')) : Ok P w K mg base (k + 1) x ps Pre := by
  obtain ⟨f, fd, F, hm⟩ := d
  exact ⟨f, fd, fn_ok F S hlen fun cdv A outer s H E rs Δ r Δ' hr hp => hb f cdv A outer s H E rs Δ r Δ' hr hp, hm, F.kp, F.bindsN hbind⟩
end
end Bl
set_option Elab.async false
set_option linter.all false
set_option maxRecDepth 100000
set_option maxHeartbeats 2000000
namespace Bl
open PySem PySem.Spec PyProof.Rows L2
section
variable {X : Cx} {e a b c : Expr} {es : List Expr} {Γ Γ' : Gm} {Δ Δ1 Δ2 Δ3 Δ' : Cs} {r ra rb rc : SV} {rs : List SV} {pos : Pos} {d d1 d2 : PyData} {ds ds1 ds2 : List PyData} {tg iter elt : Expr} {ifs : List Expr} {scope : Scope} {own : List (Str × Nat)} {g : TG}
  {α : Type} {l : List α} {enc : α → PyData} {f : α → PyData} {p : α → Bool} {Γa : α → Gm} {js : List Nat}
theorem ji_Te (h : JE X Δ Γ e (D X.K (.tuple (l.map enc))) Δ') : JI X tg Δ Γ e (l.map fun x => D X.K (enc x)) Δ' := (ji_T h).eq (by rw [List.map_map]; rfl)
theorem ji_Le (h : JE X Δ Γ e (L X.K (l.map enc)) Δ') : JI X tg Δ Γ e (l.map fun x => D X.K (enc x)) Δ' := (ji_L h).eq (by rw [List.map_map]; rfl)
theorem filter_yes : l.filter (fun _ => true) = l := List.filter_eq_self.mpr fun _ _ => rfl
/-- [elt for tg in iter] -/
theorem je_map {ra : α → SV} (hc : X.calm = true) (hN : X.N.Nodup) (hi : JI X tg Δ Γ iter (l.map ra) Δ1) (ok : BlkOk X.N X.env.scope scope own) (hg : ∀ (s : Shared) (H : Hp) (C : Addr) (cl : List (Str × Addr)) (fp : List Addr), PG (X.blk s H scope (compEnvC scope cl C X.env) fp) tg g)
    (ht : ∀ a ∈ l, TgOk g js (ra a) (wipeG Γ (own.map (·.2))) (Γa a)) (hjs : ∀ j ∈ js, j ∈ own.map (·.2)) (hT : ∀ a ∈ l, AllJ X scope elt Δ1 (Γa a) (D X.K (f a)) Δ1)
    (hs : ∀ x, foldedSetIterable iter X.env x = pure x := by intro _; rfl) : JE X Δ Γ (.ListComp elt [⟨tg, iter, [], 0⟩] scope pos) (L X.K (l.map f)) Δ1 :=
  (je_lc (p := fun _ => true) hc hN hi ok hg ht hjs (fun a ha _ _ _ _ _ => jbs_nil) (fun a ha _ => hT a ha) hs).leq (by rw [filter_yes])
/-- [elt for tg in iter if c] -/
theorem je_flt {ra : α → SV} (hc : X.calm = true) (hN : X.N.Nodup) (hi : JI X tg Δ Γ iter (l.map ra) Δ1) (ok : BlkOk X.N X.env.scope scope own) (hg : ∀ (s : Shared) (H : Hp) (C : Addr) (cl : List (Str × Addr)) (fp : List Addr), PG (X.blk s H scope (compEnvC scope cl C X.env) fp) tg g)
    (ht : ∀ a ∈ l, TgOk g js (ra a) (wipeG Γ (own.map (·.2))) (Γa a)) (hjs : ∀ j ∈ js, j ∈ own.map (·.2))
    (hB : ∀ a ∈ l, ∀ (s : Shared) (H : Hp) (C : Addr) (cl : List (Str × Addr)) (fp : List Addr), JB (X.blk s H scope (compEnvC scope cl C X.env) fp) Δ1 (Γa a) c (dB (p a) Δ1)) (hT : ∀ a ∈ l, p a = true → AllJ X scope elt Δ1 (Γa a) (D X.K (f a)) Δ1)
    (hs : ∀ x, foldedSetIterable iter X.env x = pure x := by intro _; rfl) : JE X Δ Γ (.ListComp elt [⟨tg, iter, [c], 0⟩] scope pos) (L X.K ((l.filter p).map f)) Δ1 :=
  je_lc hc hN hi ok hg ht hjs (fun a ha s H C cl fp => jbs_one (hB a ha s H C cl fp)) hT hs
theorem jas_map {ra : α → SV} {i : Nat} {y : Str} {py spos : Pos} (hc : X.calm = true) (hN : X.N.Nodup) (hi : JI X tg Δ Γ iter (l.map ra) Δ1) (ok : BlkOk X.N X.env.scope scope own) (hg : ∀ (s : Shared) (H : Hp) (C : Addr) (cl : List (Str × Addr)) (fp : List Addr), PG (X.blk s H scope (compEnvC scope cl C X.env) fp) tg g)
    (ht : ∀ a ∈ l, TgOk g js (ra a) (wipeG Γ (own.map (·.2))) (Γa a)) (hjs : ∀ j ∈ js, j ∈ own.map (·.2)) (hT : ∀ a ∈ l, AllJ X scope elt Δ1 (Γa a) (D X.K (f a)) Δ1)
    (hsw : swapsWith (.ListComp elt [⟨tg, iter, [], 0⟩] scope pos) (some (.Name y py)) spos.line X.env = pure true) (hy : X.N[i]? = some y := by rfl) (hyl : X.env.scope.names.lookup y = some .local := by rfl) (hs : ∀ x, foldedSetIterable iter X.env x = pure x := by intro _; rfl) :
    JAs X i (.Assign [.Name y py] (.ListComp elt [⟨tg, iter, [], 0⟩] scope pos) spos) Δ Γ (oE (L X.K (l.map f)) Δ1) := by
  obtain ⟨te, h1, h2⟩ := jas_lc (p := fun _ => true) hc hN hi ok hg ht hjs (fun a ha _ _ _ _ _ => jbs_nil) (fun a ha _ => hT a ha) hsw hy hyl hs
  exact ⟨te, h1, fun σ G H Q hh sl q => h2 σ G H Q hh sl fun v G' H' Δ' r ⟨_, e1, e2⟩ t pv => q v G' H' Δ' r ⟨by rw [e1, filter_yes], e2⟩ t pv⟩
theorem jas_flt {ra : α → SV} {i : Nat} {y : Str} {py spos : Pos} (hc : X.calm = true) (hN : X.N.Nodup) (hi : JI X tg Δ Γ iter (l.map ra) Δ1) (ok : BlkOk X.N X.env.scope scope own) (hg : ∀ (s : Shared) (H : Hp) (C : Addr) (cl : List (Str × Addr)) (fp : List Addr), PG (X.blk s H scope (compEnvC scope cl C X.env) fp) tg g)
    (ht : ∀ a ∈ l, TgOk g js (ra a) (wipeG Γ (own.map (·.2))) (Γa a)) (hjs : ∀ j ∈ js, j ∈ own.map (·.2))
    (hB : ∀ a ∈ l, ∀ (s : Shared) (H : Hp) (C : Addr) (cl : List (Str × Addr)) (fp : List Addr), JB (X.blk s H scope (compEnvC scope cl C X.env) fp) Δ1 (Γa a) c (dB (p a) Δ1)) (hT : ∀ a ∈ l, p a = true → AllJ X scope elt Δ1 (Γa a) (D X.K (f a)) Δ1)
    (hsw : swapsWith (.ListComp elt [⟨tg, iter, [c], 0⟩] scope pos) (some (.Name y py)) spos.line X.env = pure true) (hy : X.N[i]? = some y := by rfl) (hyl : X.env.scope.names.lookup y = some .local := by rfl) (hs : ∀ x, foldedSetIterable iter X.env x = pure x := by intro _; rfl) :
    JAs X i (.Assign [.Name y py] (.ListComp elt [⟨tg, iter, [c], 0⟩] scope pos) spos) Δ Γ (oE (L X.K ((l.filter p).map f)) Δ1) := by
  obtain ⟨te, h1, h2⟩ := jas_lc hc hN hi ok hg ht hjs (fun a ha s H C cl fp => jbs_one (hB a ha s H C cl fp)) hT hsw hy hyl hs
  exact ⟨te, h1, fun σ G H Q hh sl q => h2 σ G H Q hh sl fun v G' H' Δ' r ⟨_, e1, e2⟩ t pv => q v G' H' Δ' r ⟨e1, e2⟩ t pv⟩
theorem je_anyF {q : α → Bool} {p : Pos} (hc : X.calm = true) (hm : X.mg "any" = none) (ha : JE X Δ Γ e (L X.K (l.map fun x => .bool (q x))) Δ1) (hg : Gl X "any" := by rfl) (he : starEach (e :: []) X.env = (false, eval e X.env) :: starEach [] X.env := by rfl) : JE X Δ Γ (.Call (.Name "any" p) [e] [] pos) (D X.K (.bool (l.any q))) Δ1 :=
  (je_any (bs := l.map q) hc hm (ha.leq (by rw [List.map_map]; rfl)) hg he).eq (by rw [List.any_map]; rfl)
theorem je_allF {q : α → Bool} {p : Pos} (hc : X.calm = true) (hm : X.mg "all" = none) (ha : JE X Δ Γ e (L X.K (l.map fun x => .bool (q x))) Δ1) (hg : Gl X "all" := by rfl) (he : starEach (e :: []) X.env = (false, eval e X.env) :: starEach [] X.env := by rfl) : JE X Δ Γ (.Call (.Name "all" p) [e] [] pos) (D X.K (.bool (l.all q))) Δ1 :=
  (je_all (bs := l.map q) hc hm (ha.leq (by rw [List.map_map]; rfl)) hg he).eq (by rw [List.all_map]; rfl)
/-! the comparisons as tests -/
theorem rv_nilEqT (hd : (PyData.tuple ds).depth ≤ 64) : RVs (rEqD X.K) (D X.K (.tuple ds)) (D X.K (.tuple [])) (D X.K (.bool ds.isEmpty)) := by rw [← eqv_nilT]; exact rv_eqD hd dep_nilT
theorem rv_nilNeT (hd : (PyData.tuple ds).depth ≤ 64) : RVs (rNeD X.K) (D X.K (.tuple ds)) (D X.K (.tuple [])) (D X.K (.bool (!ds.isEmpty))) := by rw [← eqv_nilT]; exact rv_neD hd dep_nilT
theorem rv_nilEqL (hd : (PyData.list ds).depth ≤ 64) : RVs (rEqD X.K) (L X.K ds) (L X.K []) (D X.K (.bool ds.isEmpty)) := by rw [← eqv_nilL]; exact fun x y G H Q sg p1 p2 q => rv_eqD hd dep_nilL x y G H Q sg (L.d p1) (L.d p2) q
theorem rv_nilNeL (hd : (PyData.list ds).depth ≤ 64) : RVs (rNeD X.K) (L X.K ds) (L X.K []) (D X.K (.bool (!ds.isEmpty))) := by rw [← eqv_nilL]; exact fun x y G H Q sg p1 p2 q => rv_neD hd dep_nilL x y G H Q sg (L.d p1) (L.d p2) q
theorem jb_nilEqT (hr : X.A.units + 64 < cLine) (ha : JE X Δ Γ a (D X.K (.tuple ds)) Δ1) (hb : JE X Δ1 Γ b (D X.K (.tuple [])) Δ2) (hd : (PyData.tuple ds).depth ≤ 64) : JB X Δ Γ (.Compare a [.Eq] [b] pos) (dB ds.isEmpty Δ2) := jb_cmp (op_eqD hr) ha hb (rv_nilEqT hd)
theorem jb_nilNeT (hr : X.A.units + 64 < cLine) (ha : JE X Δ Γ a (D X.K (.tuple ds)) Δ1) (hb : JE X Δ1 Γ b (D X.K (.tuple [])) Δ2) (hd : (PyData.tuple ds).depth ≤ 64) : JB X Δ Γ (.Compare a [.NotEq] [b] pos) (dB (!ds.isEmpty) Δ2) := jb_cmp (op_neD hr) ha hb (rv_nilNeT hd)
theorem jb_nilEqL (hr : X.A.units + 64 < cLine) (ha : JE X Δ Γ a (L X.K ds) Δ1) (hb : JE X Δ1 Γ b (L X.K []) Δ2) (hd : (PyData.list ds).depth ≤ 64) : JB X Δ Γ (.Compare a [.Eq] [b] pos) (dB ds.isEmpty Δ2) := jb_cmp (op_eqD hr) ha hb (rv_nilEqL hd)
theorem jb_nilNeL (hr : X.A.units + 64 < cLine) (ha : JE X Δ Γ a (L X.K ds) Δ1) (hb : JE X Δ1 Γ b (L X.K []) Δ2) (hd : (PyData.list ds).depth ≤ 64) : JB X Δ Γ (.Compare a [.NotEq] [b] pos) (dB (!ds.isEmpty) Δ2) := jb_cmp (op_neD hr) ha hb (rv_nilNeL hd)
section
variable {β : Type} [DecidableEq β] {n : Nat} {eb : β → PyData} {x y : β} {m : List β} {i j : Int}
theorem jb_eqE (E : Enc n eb) (hr : X.A.units + 64 < cLine) (ha : JE X Δ Γ a (D X.K (eb x)) Δ1) (hb : JE X Δ1 Γ b (D X.K (eb y)) Δ2) (hn : n ≤ 64 := by decide) : JB X Δ Γ (.Compare a [.Eq] [b] pos) (dB (decide (x = y)) Δ2) := jb_cmp (op_eqD hr) ha hb (rv_eqE E hn)
theorem jb_neE (E : Enc n eb) (hr : X.A.units + 64 < cLine) (ha : JE X Δ Γ a (D X.K (eb x)) Δ1) (hb : JE X Δ1 Γ b (D X.K (eb y)) Δ2) (hn : n ≤ 64 := by decide) : JB X Δ Γ (.Compare a [.NotEq] [b] pos) (dB (!decide (x = y)) Δ2) := jb_cmp (op_neD hr) ha hb (rv_neE E hn)
theorem jb_inT (E : Enc n eb) (hr : X.A.units + 65 < cLine) (ha : JE X Δ Γ a (D X.K (eb x)) Δ1) (hb : JE X Δ1 Γ b (D X.K (.tuple (m.map eb))) Δ2) (hn : n ≤ 63 := by decide) (hm : behindInMarks .In b = false := by first | rfl | with_unfolding_all rfl) : JB X Δ Γ (.Compare a [.In] [b] pos) (dB (decide (x ∈ m)) Δ2) := jb_cmp (op_inT hr) ha hb (rv_inT E hn) hm
theorem jb_notInT (E : Enc n eb) (hr : X.A.units + 65 < cLine) (ha : JE X Δ Γ a (D X.K (eb x)) Δ1) (hb : JE X Δ1 Γ b (D X.K (.tuple (m.map eb))) Δ2) (hn : n ≤ 63 := by decide) (hm : behindInMarks .NotIn b = false := by first | rfl | with_unfolding_all rfl) : JB X Δ Γ (.Compare a [.NotIn] [b] pos) (dB (!decide (x ∈ m)) Δ2) := jb_cmp (op_notInT hr) ha hb (rv_notInT E hn) hm
theorem jb_inL (E : Enc n eb) (hr : X.A.units + 65 < cLine) (ha : JE X Δ Γ a (D X.K (eb x)) Δ1) (hb : JE X Δ1 Γ b (L X.K (m.map eb)) Δ2) (hn : n ≤ 63 := by decide) (hm : behindInMarks .In b = false := by first | rfl | with_unfolding_all rfl) : JB X Δ Γ (.Compare a [.In] [b] pos) (dB (decide (x ∈ m)) Δ2) := jb_cmp (op_inD hr) ha hb (rv_inL E hn) hm
theorem jb_notInL (E : Enc n eb) (hr : X.A.units + 65 < cLine) (ha : JE X Δ Γ a (D X.K (eb x)) Δ1) (hb : JE X Δ1 Γ b (L X.K (m.map eb)) Δ2) (hn : n ≤ 63 := by decide) (hm : behindInMarks .NotIn b = false := by first | rfl | with_unfolding_all rfl) : JB X Δ Γ (.Compare a [.NotIn] [b] pos) (dB (!decide (x ∈ m)) Δ2) := jb_cmp (op_notInD hr) ha hb (rv_notInL E hn) hm
theorem rv_ltS {x y : Str} : RVs (fun x y H Q => ∃ i j, x = .str i ∧ y = .str j ∧ Q (.bl (decide (i.cps.toList < j.cps.toList))) H) (D X.K (.str x)) (D X.K (.str y)) (D X.K (.bool (sLt x y))) := fun u v G H Q sg p1 p2 q => by
  cases p1.1
  cases p2.1
  exact ⟨x, y, rfl, rfl, q _ G H (Up.refl sg) (d_bl _)⟩
theorem jb_ltS {x y : Str} (ha : JE X Δ Γ a (D X.K (.str x)) Δ1) (hb : JE X Δ1 Γ b (D X.K (.str y)) Δ2) : JB X Δ Γ (.Compare a [.Lt] [b] pos) (dB (sLt x y) Δ2) := jb_cmp op_lt_str ha hb rv_ltS
theorem jb_le (ha : JE X Δ Γ a (D X.K (.int i)) Δ1) (hb : JE X Δ1 Γ b (D X.K (.int j)) Δ2) : JB X Δ Γ (.Compare a [.LtE] [b] pos) (dB (decide (i ≤ j)) Δ2) := jb_cmp op_le ha hb rv_b
theorem jb_lt (ha : JE X Δ Γ a (D X.K (.int i)) Δ1) (hb : JE X Δ1 Γ b (D X.K (.int j)) Δ2) : JB X Δ Γ (.Compare a [.Lt] [b] pos) (dB (decide (i < j)) Δ2) := jb_cmp op_lt ha hb rv_b
theorem jb_gt (ha : JE X Δ Γ a (D X.K (.int i)) Δ1) (hb : JE X Δ1 Γ b (D X.K (.int j)) Δ2) : JB X Δ Γ (.Compare a [.Gt] [b] pos) (dB (decide (j < i)) Δ2) := jb_cmp op_gt ha hb (rv_b (f := fun i j => decide (j < i)))
theorem jb_ge (ha : JE X Δ Γ a (D X.K (.int i)) Δ1) (hb : JE X Δ1 Γ b (D X.K (.int j)) Δ2) : JB X Δ Γ (.Compare a [.GtE] [b] pos) (dB (decide (j ≤ i)) Δ2) := jb_cmp op_ge ha hb (rv_b (f := fun i j => decide (j ≤ i)))
theorem jb_eqI (ha : JE X Δ Γ a (D X.K (.int i)) Δ1) (hb : JE X Δ1 Γ b (D X.K (.int j)) Δ2) : JB X Δ Γ (.Compare a [.Eq] [b] pos) (dB (decide (i = j)) Δ2) := jb_cmp op_eq ha hb rv_eqI
theorem jb_neI (ha : JE X Δ Γ a (D X.K (.int i)) Δ1) (hb : JE X Δ1 Γ b (D X.K (.int j)) Δ2) : JB X Δ Γ (.Compare a [.NotEq] [b] pos) (dB (!decide (i = j)) Δ2) := jb_cmp op_ne ha hb rv_neI
theorem jb_isTrue {bb : Bool} {k : Nat} {p' : Pos} (ha : JE X Δ Γ a (D X.K (.bool bb)) Δ1) : JB X Δ Γ (.Compare a [.Is] [.Constant (.bool true) k p'] pos) (dB bb Δ1) := jb_cmp op_isBl ha je_bl fun u v G H Q sg p1 p2 q => by
  cases p1.1
  cases p2.1
  refine ⟨bb, true, rfl, rfl, ?_⟩
  have e : decide (bb = true) = bb := by cases bb <;> rfl
  rw [e]
  exact q _ G H (Up.refl sg) (d_bl _)
theorem jb_notFalse {bb : Bool} {k : Nat} {p' : Pos} (ha : JE X Δ Γ a (D X.K (.bool bb)) Δ1) : JB X Δ Γ (.Compare a [.IsNot] [.Constant (.bool false) k p'] pos) (dB bb Δ1) := jb_cmp op_notBl ha je_bl fun u v G H Q sg p1 p2 q => by
  cases p1.1
  cases p2.1
  refine ⟨bb, false, rfl, rfl, ?_⟩
  have e : (!decide (bb = false)) = bb := by cases bb <;> rfl
  rw [e]
  exact q _ G H (Up.refl sg) (d_bl _)
theorem jb_isN {o : Option Str} {k : Nat} {p' : Pos} (ha : JE X Δ Γ a (D X.K (eO o)) Δ1) : JB X Δ Γ (.Compare a [.Is] [.Constant .none k p'] pos) (dB o.isNone Δ1) := jb_cmp op_isN ha je_non fun u v G H Q sg p1 p2 q => by
  cases p2.1
  refine ⟨rfl, ?_⟩
  rw [eO_non p1]
  exact q _ G H (Up.refl sg) (d_bl _)
theorem jb_notN {o : Option Str} {k : Nat} {p' : Pos} (ha : JE X Δ Γ a (D X.K (eO o)) Δ1) : JB X Δ Γ (.Compare a [.IsNot] [.Constant .none k p'] pos) (dB o.isSome Δ1) := jb_cmp op_notN ha je_non fun u v G H Q sg p1 p2 q => by
  cases p2.1
  refine ⟨rfl, ?_⟩
  rw [eO_non p1]
  have e : (!o.isNone) = o.isSome := by cases o <;> rfl
  rw [e]
  exact q _ G H (Up.refl sg) (d_bl _)
end
theorem dep_map {β : Type} {n : Nat} {eb : β → PyData} (h : ∀ x, (eb x).depth ≤ n) (hn : n ≤ 63) (m : List β) : (PyData.list (m.map eb)).depth ≤ 64 := by have := depth_map h m; simp only [PyData.depth]; omega
theorem dep_mapT {β : Type} {n : Nat} {eb : β → PyData} (h : ∀ x, (eb x).depth ≤ n) (hn : n ≤ 63) (m : List β) : (PyData.tuple (m.map eb)).depth ≤ 64 := by have := depth_map h m; simp only [PyData.depth]; omega
theorem atI_map {β : Type} {eb : β → PyData} {m : List β} {i : Nat} {x : β} (h : m[i]? = some x) : atI (m.map eb) (i : Int) = some (eb x) := atI_nat (by rw [List.getElem?_map, h]; rfl)
theorem atI_last {β : Type} {m : List β} {x : β} (h : m.getLast? = some x) : atI m (-1) = some x := by
  have h := h
  rw [List.getLast?_eq_getElem?] at h
  have hl : 0 < m.length := by
    cases m with
    | nil => simp at h
    | cons _ _ => simp
  unfold atI ixN
  rw [if_neg (by decide), if_pos (by omega)]
  have e : ((m.length : Int) + -1).toNat = m.length - 1 := by omega
  have e2 : (-1 + (m.length : Int)).toNat = m.length - 1 := by omega
  simp only [Option.bind_some]
  rw [e2]; exact h
theorem isEmpty_map {β γ : Type} {f : β → γ} {m : List β} : (m.map f).isEmpty = m.isEmpty := by cases m <;> rfl
theorem hu65 {A : Around} {k : Nat} (hr : Room k A) : A.units + 65 < cLine := by have := hr.un; omega
theorem hu64 {A : Around} {k : Nat} (hr : Room k A) : A.units + 64 < cLine := hr.units
theorem one_in : ∀ j ∈ ([j0] : List Nat), j ∈ [j0] := fun _ h => h
end
end Bl
set_option Elab.async false
set_option linter.all false
set_option maxRecDepth 100000
set_option maxHeartbeats 2000000
namespace Bl
open PySem PySem.Spec PyProof.Rows L2
section
variable {X : Cx} {e a b c : Expr} {es : List Expr} {Γ Γ' : Gm} {Δ Δ1 Δ2 Δ3 Δ' : Cs} {pos : Pos} {tg iter tg1 iter1 elt : Expr} {ifs1 : List Expr} {scope : Scope} {own : List (Str × Nat)} {g g1 : TG}
def AllI (X : Cx) (scope : Scope) (tg e : Expr) (Δ : Cs) (Γ : Gm) (vs : List SV) (Δ' : Cs) : Prop := ∀ (s : Shared) (H : Hp) (C : Addr) (cl : List (Str × Addr)) (fp : List Addr), JI (X.blk s H scope (compEnvC scope cl C X.env) fp) tg Δ Γ e vs Δ'
def tIU (F : Cs → Gm → List SV → Cs → Prop) : TI := fun σ H R => ∃ Δ Γ vs Δ', F Δ Γ vs Δ' ∧ tI Δ Γ vs Δ' σ H R
theorem all_pi (s : Shared) (H : Hp) (C : Addr) (cl : List (Str × Addr)) (fp : List Addr) : PI (X.blk s H scope (compEnvC scope cl C X.env) fp) tg e (tIU (AllI X scope tg e)) :=
  ⟨fun pins s1 σ H1 R I ⟨Δ, Γ, vs, Δ', h, q⟩ => (h s H C cl fp).use.run pins s1 σ H1 R I q⟩
structure Lc2 {α β : Type} (X : Cx) (scope : Scope) (elt tg1 iter1 : Expr) (ifs1 : List Expr) (g g1 : TG) (vs vs1 : List Nat) (Δ : Cs) (Γ : Gm) (l : List α) (ra : α → SV) (m : List β) (rb : β → SV) (p : α → β → Bool) (f : α → β → PyData) (Γa : α → Gm) (Γb : α → β → Gm) (js js1 : List Nat) : Prop where
  hta : ∀ a ∈ l, TgOk g js (ra a) (wipeG Γ vs) (Γa a)
  hjs : ∀ j ∈ js, j ∈ vs
  hi1 : ∀ a ∈ l, AllI X scope tg1 iter1 Δ (Γa a) (m.map rb) Δ
  htb : ∀ a ∈ l, ∀ b ∈ m, TgOk g1 js1 (rb b) (wipeG (Γa a) vs1) (Γb a b)
  hjs1 : ∀ j ∈ js1, j ∈ vs1
  hB : ∀ a ∈ l, ∀ b ∈ m, AllB X scope ifs1 Δ (Γb a b) (dB (p a b) Δ)
  hT : ∀ a ∈ l, ∀ b ∈ m, p a b = true → AllJ X scope elt Δ (Γb a b) (D X.K (f a b)) Δ
  hz : l.length * m.length ≤ sizeLine
variable {α β : Type} {l : List α} {ra : α → SV} {m : List β} {rb : β → SV} {p : α → β → Bool} {f : α → β → PyData} {Γa : α → Gm} {Γb : α → β → Gm} {js js1 : List Nat} {vs vs1 : List Nat}
theorem flat_len {α β : Type} {m : List β} {p : α → β → Bool} {f : α → β → PyData} : ∀ l : List α, (l.flatMap fun a => (m.filter (p a)).map (f a)).length ≤ l.length * m.length
  | [] => by simp
  | a :: l => by
    have h1 := flat_len (m := m) (p := p) (f := f) l
    have h2 := List.length_filter_le (p a) m
    rw [List.flatMap_cons, List.length_append, List.length_map, List.length_cons, Nat.succ_mul]
    omega
theorem take_succ {α : Type} {l : List α} {i : Nat} {a : α} (h : l[i]? = some a) : l.take (i + 1) = l.take i ++ [a] := by rw [List.take_add_one, h]; rfl
theorem lc2_read (S : Lc2 X scope elt tg1 iter1 ifs1 g g1 vs vs1 Δ1 Γ l ra m rb p f Γa Γb js js1) {σ : L2.St} {G H : Hp} {Q : VK} (hs : Hs Δ G H) (sl : Sl σ G Γ)
    (q : ∀ v G' H', Tr Δ G H Δ1 G' H' → (L X.K (l.flatMap fun a => (m.filter (p a)).map (f a))).P v G' → Q v H') :
    tLc2 (tI Δ Γ (l.map ra) Δ1) g (tBU (AllB X scope [])) (tIU (AllI X scope tg1 iter1)) g1 (tBU (AllB X scope ifs1)) (tJU (AllJ X scope elt)) vs vs1 σ H Q := by
  refine ⟨G, hs, sl, fun It G1 H1 t w z => fun D0 hD => ?_⟩
  have hn0 := t.hs.out hD
  -- made: what stands in the list, G the visible heap
  let St := fun (acc : List PyData) (H : Hp) => ∃ G2 xs, H D0 = some (.lst xs) ∧ G2 D0 = none ∧ DpAll X.K G2 xs acc ∧ AllOk acc ∧ Tr Δ1 G1 H1 Δ1 G2 H
  let A := fun i => (l.take i).flatMap fun a => (m.filter (p a)).map (f a)
  refine ⟨fun i k H => k = (l.map ra).length - i ∧ i ≤ (l.map ra).length ∧ St (A i) H, ⟨_, rfl, Nat.zero_le _, G1, [], upd_same, none_of_sub t.hs.sub hD, .nil, allok_nil, (Up.hid t.hs.sub hD).up0 t.hs⟩, ?_⟩
  rintro i k H2 ⟨rfl, hle, G2, xs, hx, hG, hd, ok, t2⟩
  rw [List.length_map] at hle
  by_cases hlt : i < l.length
  · obtain ⟨a, ha⟩ : ∃ a, l[i]? = some a := ⟨_, List.getElem?_eq_getElem hlt⟩
    have ham := List.mem_of_getElem? ha
    have hr : (l.map ra)[i]? = some (ra a) := by rw [List.getElem?_map, ha]; rfl
    refine .inr ⟨w.go i G2 H2 t2.up t2.hs.sub (by rw [List.length_map]; exact hlt), fun H' => i + 1 ≤ (l.map ra).length ∧ St (A (i + 1)) H', fun H' q => ⟨(l.map ra).length - (i + 1), by rw [List.length_map]; omega, rfl, q⟩, fun x H3 y => ?_⟩
    obtain ⟨G3, u3, p3⟩ := w.yld i G2 H2 x H3 _ t2.up t2.hs.sub hr y
    have t3 : Tr Δ1 G1 H1 Δ1 G3 H3 := t2.trans (u3.up0 t2.hs)
    have hx3 := u3.fr D0 _ (by simp [dom]) hx
    refine S.hta a ham x (L2.wipe σ vs) G3 H3 _ t3.hs.sub p3 ((sl.mono (t.up.trans t3.up)).wipe vs) fun σ4 sl4 hw => ⟨by rw [hw vs S.hjs]; exact wipe_wipe vs vs fun _ h => h, ?_⟩
    refine ⟨Δ1, Γa a, dB true Δ1, fun _ _ _ _ _ => jbs_nil, G3, t3.hs, sl4, fun c G5 Δ5 H5 o t5 => ?_⟩
    obtain ⟨rfl, e5⟩ := o
    subst e5
    have hx5 := t5.fr D0 _ hn0 hx3.1
    show tIU (AllI X scope tg1 iter1) σ4 H5 _
    refine ⟨Δ5, Γa a, m.map rb, Δ5, S.hi1 a ham, G5, t5.hs, sl4.mono t5.up, fun It1 G6 H6 t6 w1 z1 => ?_⟩
    have hx6 := t6.fr D0 _ hn0 hx5.1
    let B := fun j => A i ++ ((m.take j).filter (p a)).map (f a)
    refine ⟨fun j k H => k = (m.map rb).length - j ∧ j ≤ (m.map rb).length ∧ ∃ G7 xs, H D0 = some (.lst xs) ∧ G7 D0 = none ∧ DpAll X.K G7 xs (B j) ∧ AllOk (B j) ∧ Same G6 G7 ∧ Tr Δ5 G1 H1 Δ5 G7 H, ⟨_, rfl, Nat.zero_le _, G6, xs, hx6.1, hx6.2 (hx5.2 (hx3.2 hG)), ?_, ?_, Same.refl G6, t3.trans (t5.trans t6)⟩, ?_⟩
    · show DpAll X.K G6 xs (A i ++ _)
      simp only [List.take_zero, List.filter_nil, List.map_nil, List.append_nil]
      exact dps_same (u3.up.trans (t5.up.trans t6.up)) hd
    · show AllOk (A i ++ _)
      simp only [List.take_zero, List.filter_nil, List.map_nil, List.append_nil]
      exact ok
    · rintro j k H7 ⟨rfl, hle7, G7, ys, hy, hG7, hd7, ok7, s7, t7⟩
      rw [List.length_map] at hle7
      by_cases hlt7 : j < m.length
      · obtain ⟨b, hb⟩ : ∃ b, m[j]? = some b := ⟨_, List.getElem?_eq_getElem hlt7⟩
        have hbm := List.mem_of_getElem? hb
        have hr7 : (m.map rb)[j]? = some (rb b) := by rw [List.getElem?_map, hb]; rfl
        refine .inr ⟨w1.go j G7 H7 s7 t7.hs.sub (by rw [List.length_map]; exact hlt7), fun H' => j + 1 ≤ (m.map rb).length ∧ ∃ G7 xs, H' D0 = some (.lst xs) ∧ G7 D0 = none ∧ DpAll X.K G7 xs (B (j + 1)) ∧ AllOk (B (j + 1)) ∧ Same G6 G7 ∧ Tr Δ5 G1 H1 Δ5 G7 H', fun H' q => ⟨(m.map rb).length - (j + 1), by rw [List.length_map]; omega, rfl, q⟩, fun y H8 yl => ?_⟩
        obtain ⟨G8, u8, p8⟩ := w1.yld j G7 H7 y H8 _ s7 t7.hs.sub hr7 yl
        have t8 : Tr Δ5 G1 H1 Δ5 G8 H8 := t7.trans (u8.up0 t7.hs)
        have hx8 := u8.fr D0 _ (by simp [dom]) hy
        refine S.htb a ham b hbm y (L2.wipe σ4 vs1) G8 H8 _ t8.hs.sub p8 ((sl4.mono (t5.up.trans (t6.up.trans (s7.trans u8.up)))).wipe vs1) fun σ9 sl9 hw9 => ⟨by rw [hw9 vs1 S.hjs1]; exact wipe_wipe vs1 vs1 fun _ h => h, ?_⟩
        refine ⟨Δ5, Γb a b, dB (p a b) Δ5, S.hB a ham b hbm, G8, t8.hs, sl9, fun c G10 Δ10 H10 o t10 => ?_⟩
        obtain ⟨ec, e10⟩ := o
        subst e10
        have hx10 := t10.fr D0 _ hn0 hx8.1
        have hBs : B (j + 1) = B j ++ if p a b then [f a b] else [] := by
          show A i ++ ((m.take (j + 1)).filter (p a)).map (f a) = (A i ++ ((m.take j).filter (p a)).map (f a)) ++ _
          rw [take_succ hb, List.filter_append, List.map_append, List.filter_cons]
          cases p a b <;> simp
        cases hc : p a b with
        | false =>
          rw [hc] at ec
          subst ec
          rw [hc] at hBs
          have hBs : B (j + 1) = B j := by rw [hBs]; simp
          show _ ∧ ∃ G7 xs, _
          rw [hBs]
          exact ⟨by rw [List.length_map]; exact hlt7, G10, ys, hx10.1, hx10.2 (hx8.2 hG7), dps_same (u8.up.trans t10.up) hd7, ok7, s7.trans (u8.up.trans t10.up), t8.trans t10⟩
        | true =>
          rw [hc] at ec
          subst ec
          rw [hc] at hBs
          have hBs : B (j + 1) = B j ++ [f a b] := by rw [hBs]; simp
          refine ⟨Δ10, Γb a b, _, Δ10, S.hT a ham b hbm hc, G10, t10.hs, sl9.mono t10.up, fun v G11 H11 t11 p11 => ?_⟩
          have hx11 := t11.fr D0 _ hn0 hx10.1
          have hg11 := hx11.2 (hx10.2 (hx8.2 hG7))
          have s11 := u8.up.trans (t10.up.trans t11.up)
          have hlen : (B j).length < sizeLine := by
            have h3 : (l.take i).length = i := by rw [List.length_take]; omega
            have h1 : (A i).length ≤ i * m.length := by
              have h1 := flat_len (m := m) (p := p) (f := f) (l.take i)
              rw [h3] at h1; exact h1
            have h2 : (((m.take j).filter (p a)).map (f a)).length ≤ j := by
              rw [List.length_map]
              refine Nat.le_trans (List.length_filter_le _ _) ?_
              rw [List.length_take]; omega
            have h4 := S.hz
            have h5 : (i + 1) * m.length ≤ l.length * m.length := Nat.mul_le_mul_right _ hlt
            rw [Nat.succ_mul] at h5
            have h6 : (B j).length = (A i).length + (((m.take j).filter (p a)).map (f a)).length := List.length_append
            rw [h6]
            omega
          refine ⟨ys, hx11.1, by rw [dps_len hd7]; exact hlen, by rw [List.length_map]; exact hlt7, G11, ys ++ [v], upd_same, hg11, ?_, ?_, s7.trans s11, (t8.trans (t10.trans t11)).poke hD hg11 hn0⟩
          · rw [hBs]; exact dps_snoc (dps_same s11 hd7) p11.1
          · rw [hBs]; exact allok_app ok7 (allok_cons p11.2 allok_nil)
      · have e : j = m.length := by omega
        subst e
        refine .inl ⟨w1.stop _ G7 H7 s7 t7.hs.sub (by rw [List.length_map]), by rw [List.length_map]; exact hlt, G7, ys, hy, hG7, ?_, ?_, t7⟩
        · show DpAll X.K G7 ys (A (i + 1))
          have : A (i + 1) = B m.length := by
            show (l.take (i + 1)).flatMap _ = (l.take i).flatMap _ ++ _
            rw [take_succ ha, List.flatMap_append, List.take_length]
            simp
          rw [this]; exact hd7
        · have : A (i + 1) = B m.length := by
            show (l.take (i + 1)).flatMap _ = (l.take i).flatMap _ ++ _
            rw [take_succ ha, List.flatMap_append, List.take_length]
            simp
          rw [this]; exact ok7
  · have e : i = l.length := by omega
    subst e
    refine .inl ⟨w.stop _ G2 H2 t2.up t2.hs.sub (by rw [List.length_map]), q _ _ H2 (t.trans (t2.show hD hG hn0 hx)) ⟨D0, xs, rfl, upd_same, ?_, ?_⟩⟩
    · have : A l.length = l.flatMap fun a => (m.filter (p a)).map (f a) := by
        show (l.take l.length).flatMap _ = _
        rw [List.take_length]
      rw [← this]; exact dps_same (same_new hG) hd
    · have : A l.length = l.flatMap fun a => (m.filter (p a)).map (f a) := by
        show (l.take l.length).flatMap _ = _
        rw [List.take_length]
      rw [← this]; exact ok
theorem je_lc2 (hc : X.calm = true) (hN : X.N.Nodup) (hi : JI X tg Δ Γ iter (l.map ra) Δ1) (ok : BlkOk X.N X.env.scope scope own) (hv : ∀ i ∈ vs1, i ∈ own.map (·.2))
    (hg : ∀ (s : Shared) (H : Hp) (C : Addr) (cl : List (Str × Addr)) (fp : List Addr), PG (X.blk s H scope (compEnvC scope cl C X.env) fp) tg g) (hg1 : ∀ (s : Shared) (H : Hp) (C : Addr) (cl : List (Str × Addr)) (fp : List Addr), PG (X.blk s H scope (compEnvC scope cl C X.env) fp) tg1 g1)
    (S : Lc2 X scope elt tg1 iter1 ifs1 g g1 (own.map (·.2)) vs1 Δ1 Γ l ra m rb p f Γa Γb js js1) (hs : ∀ x, foldedSetIterable iter X.env x = pure x := by intro _; rfl) (hs1 : ∀ env x, foldedSetIterable iter1 env x = pure x := by intro _ _; rfl) :
    JE X Δ Γ (.ListComp elt [⟨tg, iter, [], 0⟩, ⟨tg1, iter1, ifs1, 0⟩] scope pos) (L X.K (l.flatMap fun a => (m.filter (p a)).map (f a))) Δ1 :=
  je_of (pe_lc2 hc hN hi.use ok hv hg all_pt all_pi hg1 all_pt all_pe hs hs1) fun σ G H Q hh sl q => lc2_read S hh sl q
theorem jas_lc2 {i : Nat} {y : Str} {py spos : Pos} (hc : X.calm = true) (hN : X.N.Nodup) (hi : JI X tg Δ Γ iter (l.map ra) Δ1) (ok : BlkOk X.N X.env.scope scope own) (hv : ∀ i ∈ vs1, i ∈ own.map (·.2))
    (hg : ∀ (s : Shared) (H : Hp) (C : Addr) (cl : List (Str × Addr)) (fp : List Addr), PG (X.blk s H scope (compEnvC scope cl C X.env) fp) tg g) (hg1 : ∀ (s : Shared) (H : Hp) (C : Addr) (cl : List (Str × Addr)) (fp : List Addr), PG (X.blk s H scope (compEnvC scope cl C X.env) fp) tg1 g1)
    (S : Lc2 X scope elt tg1 iter1 ifs1 g g1 (own.map (·.2)) vs1 Δ1 Γ l ra m rb p f Γa Γb js js1)
    (hsw : swapsWith (.ListComp elt [⟨tg, iter, [], 0⟩, ⟨tg1, iter1, ifs1, 0⟩] scope pos) (some (.Name y py)) spos.line X.env = pure true) (hy : X.N[i]? = some y := by rfl) (hyl : X.env.scope.names.lookup y = some .local := by rfl)
    (hs : ∀ x, foldedSetIterable iter X.env x = pure x := by intro _; rfl) (hs1 : ∀ env x, foldedSetIterable iter1 env x = pure x := by intro _ _; rfl) :
    JAs X i (.Assign [.Name y py] (.ListComp elt [⟨tg, iter, [], 0⟩, ⟨tg1, iter1, ifs1, 0⟩] scope pos) spos) Δ Γ (oE (L X.K (l.flatMap fun a => (m.filter (p a)).map (f a))) Δ1) :=
  ⟨_, ps_setLc2 hc hN hy hyl hsw hi.use ok hv hg all_pt all_pi hg1 all_pt all_pe hs hs1, fun σ G H Q hh sl q => lc2_read S hh sl fun v G' H' t pv => q v G' H' _ _ ⟨rfl, rfl⟩ t pv⟩
end
end Bl
set_option linter.all false
/-! the plain law, generic: sets of holders as ascending lists -/
namespace BM
variable {α : Type} [DecidableEq α]

/-- a strict total order -/
structure SO (lt : α → α → Bool) : Prop where
  irr : ∀ a, lt a a = false
  tr : ∀ {a b c}, lt a b = true → lt b c = true → lt a c = true
  tot : ∀ {a b}, a ≠ b → lt a b = true ∨ lt b a = true
theorem SO.asym {lt : α → α → Bool} (o : SO lt) {a b : α} (h : lt a b = true) : lt b a = false := by
  cases e : lt b a with
  | false => rfl
  | true => have := o.tr h e; rw [o.irr] at this; cases this
theorem SO.ne {lt : α → α → Bool} (o : SO lt) {a b : α} (h : lt a b = true) : a ≠ b := by
  intro e; subst e; rw [o.irr] at h; cases h

def Asc (lt : α → α → Bool) (l : List α) : Prop := l.Pairwise fun a b => lt a b = true
theorem Asc.nodup {lt : α → α → Bool} (o : SO lt) {l : List α} (h : Asc lt l) : l.Nodup :=
  List.Pairwise.imp (fun {a b} h => o.ne h) h
theorem asc_ext {lt : α → α → Bool} (o : SO lt) : ∀ {l1 l2 : List α}, Asc lt l1 → Asc lt l2 → (∀ x, x ∈ l1 ↔ x ∈ l2) → l1 = l2
  | [], [], _, _, _ => rfl
  | [], b :: l2, _, _, h => by have := (h b).2 (List.mem_cons_self ..); cases this
  | a :: l1, [], _, _, h => by have := (h a).1 (List.mem_cons_self ..); cases this
  | a :: l1, b :: l2, h1, h2, h => by
    obtain ⟨ha, p1⟩ := List.pairwise_cons.mp h1
    obtain ⟨hb, p2⟩ := List.pairwise_cons.mp h2
    have e : a = b := by
      by_cases e : a = b
      · exact e
      · have m1 : a ∈ l2 := by
          rcases List.mem_cons.mp ((h a).1 (List.mem_cons_self ..)) with z | z
          · exact absurd z e
          · exact z
        have m2 : b ∈ l1 := by
          rcases List.mem_cons.mp ((h b).2 (List.mem_cons_self ..)) with z | z
          · exact absurd z.symm e
          · exact z
        have := o.tr (ha b m2) (hb a m1)
        rw [o.irr] at this; cases this
    subst e
    have : l1 = l2 := asc_ext o p1 p2 fun x => by
      constructor
      · intro m
        rcases List.mem_cons.mp ((h x).1 (List.mem_cons_of_mem _ m)) with z | z
        · subst z; have := ha x m; rw [o.irr] at this; cases this
        · exact z
      · intro m
        rcases List.mem_cons.mp ((h x).2 (List.mem_cons_of_mem _ m)) with z | z
        · subst z; have := hb x m; rw [o.irr] at this; cases this
        · exact z
    rw [this]

/-! ### sorting -/
def srt (lt : α → α → Bool) (l : List α) : List α := l.mergeSort fun a b => !lt b a
theorem srt_perm (lt : α → α → Bool) (l : List α) : (srt lt l).Perm l := List.mergeSort_perm l _
theorem srt_mem {lt : α → α → Bool} {l : List α} {x : α} : x ∈ srt lt l ↔ x ∈ l := (srt_perm lt l).mem_iff
theorem srt_len {lt : α → α → Bool} {l : List α} : (srt lt l).length = l.length := (srt_perm lt l).length_eq
theorem srt_le {lt : α → α → Bool} (o : SO lt) (l : List α) : (srt lt l).Pairwise fun a b => (!lt b a) = true := by
  refine List.pairwise_mergeSort (le := fun a b => !lt b a) (fun a b c h1 h2 => ?_) (fun a b => ?_) l
  · simp only [Bool.not_eq_true'] at h1 h2 ⊢
    cases e : lt c a with
    | false => rfl
    | true =>
      by_cases hab : a = b
      · subst hab; rw [h2] at e; cases e
      · rcases o.tot hab with z | z
        · have := o.tr e z; rw [h2] at this; cases this
        · rw [h1] at z; cases z
  · cases e1 : lt b a with
    | false => simp
    | true => simp [o.asym e1]
theorem srt_asc {lt : α → α → Bool} (o : SO lt) {l : List α} (h : l.Nodup) : Asc lt (srt lt l) := by
  have h1 := srt_le o l
  have h2 : (srt lt l).Nodup := (srt_perm lt l).nodup_iff.mpr h
  refine List.Pairwise.imp₂ (R := fun a b => (!lt b a) = true) (S := fun a b => a ≠ b) (fun a b x y => ?_) h1 h2
  rcases o.tot y with z | z
  · exact z
  · rw [z] at x; cases x
theorem srt_eq {lt : α → α → Bool} (o : SO lt) {l1 l2 : List α} (h1 : l1.Nodup) (h2 : l2.Nodup) (h : ∀ x, x ∈ l1 ↔ x ∈ l2) : srt lt l1 = srt lt l2 :=
  asc_ext o (srt_asc o h1) (srt_asc o h2) fun x => by rw [srt_mem, srt_mem]; exact h x

/-- the order of tuples -/
def ltL (lt : α → α → Bool) : List α → List α → Bool
  | [], [] => false
  | [], _ :: _ => true
  | _ :: _, [] => false
  | a :: as, b :: bs => if a = b then ltL lt as bs else lt a b
theorem so_ltL {lt : α → α → Bool} (o : SO lt) : SO (ltL lt) where
  irr := by
    intro a
    induction a with
    | nil => rfl
    | cons a r ih => simp [ltL, ih]
  tr := by
    intro a
    induction a with
    | nil =>
      intro b c h1 h2
      cases c with
      | nil => cases b <;> simp [ltL] at h1 h2
      | cons _ _ => rfl
    | cons a r ih =>
      intro b c h1 h2
      cases b with
      | nil => simp [ltL] at h1
      | cons b s =>
        cases c with
        | nil => simp [ltL] at h2
        | cons c t =>
          simp only [ltL] at h1 h2 ⊢
          by_cases hab : a = b
          · subst hab
            simp only [if_true] at h1
            by_cases hac : a = c
            · subst hac; simp only [if_true] at h2 ⊢; exact ih h1 h2
            · simp only [if_neg hac] at h2 ⊢; exact h2
          · simp only [if_neg hab] at h1
            by_cases hbc : b = c
            · subst hbc; simp only [if_neg hab]; exact h1
            · simp only [if_neg hbc] at h2
              have h3 := o.tr h1 h2
              rw [if_neg (o.ne h3)]; exact h3
  tot := by
    intro a
    induction a with
    | nil =>
      intro b h
      cases b with
      | nil => exact absurd rfl h
      | cons _ _ => exact Or.inl rfl
    | cons a r ih =>
      intro b h
      cases b with
      | nil => exact Or.inr rfl
      | cons b s =>
        simp only [ltL]
        by_cases hab : a = b
        · subst hab
          simp only [if_true]
          exact ih fun e => h (by rw [e])
        · rw [if_neg hab, if_neg (Ne.symm hab)]
          exact o.tot hab

/-! ### distinct ones -/
def dd : List α → List α
  | [] => []
  | a :: r => a :: (dd r).filter fun x => decide (x ≠ a)
theorem dd_mem {x : α} : ∀ {l : List α}, x ∈ dd l ↔ x ∈ l
  | [] => Iff.rfl
  | a :: r => by
    unfold dd
    rw [List.mem_cons, List.mem_cons, List.mem_filter, dd_mem (l := r)]
    by_cases e : x = a
    · simp [e]
    · simp [e]
theorem dd_nodup : ∀ l : List α, (dd l).Nodup
  | [] => List.nodup_nil
  | a :: r => by
    unfold dd
    refine List.nodup_cons.mpr ⟨?_, (dd_nodup r).sublist List.filter_sublist⟩
    intro h
    have := (List.mem_filter.mp h).2
    simp at this
theorem dd_len : ∀ l : List α, (dd l).length ≤ l.length
  | [] => Nat.le_refl _
  | a :: r => by
    unfold dd
    have h1 := List.length_filter_le (fun x => decide (x ≠ a)) (dd r)
    have h2 := dd_len r
    rw [List.length_cons, List.length_cons]; omega
theorem nodup_sub_len : ∀ {l h : List α}, l.Nodup → (∀ x ∈ l, x ∈ h) → l.length ≤ h.length
  | [], _, _, _ => Nat.zero_le _
  | a :: r, h, n, s => by
    obtain ⟨na, n⟩ := List.nodup_cons.mp n
    have ha : a ∈ h := s a (List.mem_cons_self ..)
    have := nodup_sub_len (l := r) (h := h.erase a) n fun x hx => (List.mem_erase_of_ne (fun e => by subst e; exact na hx)).mpr (s x (List.mem_cons_of_mem _ hx))
    rw [List.length_erase_of_mem ha] at this
    have : 0 < h.length := List.length_pos_of_mem ha
    rw [List.length_cons]; omega
/-- sorted(set(l)) -/
def ss (lt : α → α → Bool) (l : List α) : List α := srt lt (dd l)
theorem ss_mem {lt : α → α → Bool} {l : List α} {x : α} : x ∈ ss lt l ↔ x ∈ l := by unfold ss; rw [srt_mem, dd_mem]
theorem ss_asc {lt : α → α → Bool} (o : SO lt) (l : List α) : Asc lt (ss lt l) := srt_asc o (dd_nodup l)

/-! ### meeting -/
def meets (a b : List α) : Bool := a.any fun h => decide (h ∈ b)
theorem meets_iff {a b : List α} : meets a b = true ↔ ∃ h, h ∈ a ∧ h ∈ b := by simp [meets]
theorem meets_comm (a b : List α) : meets a b = meets b a := by
  rw [Bool.eq_iff_iff, meets_iff, meets_iff]
  constructor <;> (rintro ⟨h, x, y⟩; exact ⟨h, y, x⟩)
def meetsAll (a : List α) (rows : List (List α)) : Bool := rows.all fun r => meets a r
theorem meetsAll_iff {a : List α} {rows : List (List α)} : meetsAll a rows = true ↔ ∀ r ∈ rows, meets a r = true := by simp [meetsAll]
def isPart (a b : List α) : Bool := a.all fun h => decide (h ∈ b)
theorem isPart_iff {a b : List α} : isPart a b = true ↔ ∀ h ∈ a, h ∈ b := by simp [isPart]

/-! ### parts, groups -/
def lastLt (lt : α → α → Bool) (part : List α) (h : α) : Bool := match part.getLast? with
  | some z => lt z h
  | none => true
def partsStep (lt : α → α → Bool) (hs : List α) (found : List (List α)) : List (List α) := found.flatMap fun part => (hs.filter fun h => lastLt lt part h).map fun h => part ++ [h]
def partsOf (lt : α → α → Bool) (hs : List α) : Nat → List (List α)
  | 0 => [[]]
  | n + 1 => partsStep lt hs (partsOf lt hs n)
theorem asc_snoc {lt : α → α → Bool} (o : SO lt) {p : List α} {h : α} (hp : Asc lt p) : Asc lt (p ++ [h]) ↔ lastLt lt p h = true := by
  unfold Asc lastLt at *
  rw [List.pairwise_append]
  cases e : p.getLast? with
  | none =>
    have : p = [] := by simpa using e
    subst this; simp
  | some z =>
    obtain ⟨q, rfl⟩ : ∃ q, p = q ++ [z] := List.getLast?_eq_some_iff.mp e
    constructor
    · intro ⟨_, _, k⟩
      exact k z (by simp) h (by simp)
    · intro k
      refine ⟨hp, by simp, fun a ha b hb => ?_⟩
      obtain rfl : b = h := by simpa using hb
      rcases List.mem_append.mp ha with m | m
      · rw [List.pairwise_append] at hp
        exact o.tr (hp.2.2 a m z (by simp)) k
      · obtain rfl : a = z := by simpa using m
        exact k
theorem parts_mem {lt : α → α → Bool} (o : SO lt) {hs : List α} : ∀ {n : Nat} {g : List α}, g ∈ partsOf lt hs n ↔ Asc lt g ∧ g.length = n ∧ ∀ x ∈ g, x ∈ hs
  | 0, g => by
    unfold partsOf
    constructor
    · intro h
      obtain rfl : g = [] := by simpa using h
      exact ⟨List.Pairwise.nil, rfl, fun x hx => by cases hx⟩
    · rintro ⟨_, h, _⟩
      have : g = [] := List.length_eq_zero_iff.mp h
      simp [this]
  | n + 1, g => by
    unfold partsOf partsStep
    rw [List.mem_flatMap]
    constructor
    · rintro ⟨p, hp, hg⟩
      obtain ⟨h, hh, rfl⟩ := List.mem_map.mp hg
      obtain ⟨h1, h2⟩ := List.mem_filter.mp hh
      obtain ⟨a1, a2, a3⟩ := (parts_mem o).mp hp
      refine ⟨(asc_snoc o a1).mpr h2, by simp [a2], fun x hx => ?_⟩
      rcases List.mem_append.mp hx with m | m
      · exact a3 x m
      · obtain rfl : x = h := by simpa using m
        exact h1
    · rintro ⟨a1, a2, a3⟩
      have hne : g ≠ [] := fun e => by subst e; simp at a2
      have hg : g = g.dropLast ++ [g.getLast hne] := (List.dropLast_concat_getLast hne).symm
      have ap : Asc lt g.dropLast := a1.sublist (List.dropLast_sublist g)
      refine ⟨g.dropLast, (parts_mem o).mpr ⟨ap, by simp [a2], fun x hx => a3 x (List.dropLast_subset g hx)⟩, ?_⟩
      refine List.mem_map.mpr ⟨g.getLast hne, List.mem_filter.mpr ⟨a3 _ (List.getLast_mem hne), ?_⟩, hg.symm⟩
      exact (asc_snoc o ap).mp (by rw [← hg]; exact a1)
def eachGroup (lt : α → α → Bool) (hs : List α) (rows : List (List α)) (most : Nat) : List (List α) :=
  (List.range (min most hs.length)).flatMap fun i => (partsOf lt hs (i + 1)).filter fun g => meetsAll g rows
theorem each_mem {lt : α → α → Bool} (o : SO lt) {hs : List α} {rows : List (List α)} {most : Nat} {g : List α} :
    g ∈ eachGroup lt hs rows most ↔ Asc lt g ∧ (∀ x ∈ g, x ∈ hs) ∧ (1 ≤ g.length ∧ g.length ≤ most ∧ g.length ≤ hs.length) ∧ meetsAll g rows = true := by
  unfold eachGroup
  rw [List.mem_flatMap]
  constructor
  · rintro ⟨i, hi, hg⟩
    have hi : i < min most hs.length := List.mem_range.mp hi
    obtain ⟨h1, h2⟩ := List.mem_filter.mp hg
    obtain ⟨a1, a2, a3⟩ := (parts_mem o).mp h1
    exact ⟨a1, a3, by omega, h2⟩
  · rintro ⟨a1, a2, a3, a4⟩
    exact ⟨g.length - 1, List.mem_range.mpr (by omega), List.mem_filter.mpr ⟨(parts_mem o).mpr ⟨a1, by omega, a2⟩, a4⟩⟩
def leastStep (found : List (List α)) (g : List α) : List (List α) := if found.any (fun f => isPart f g) then found else found ++ [g]
def leastFold (gs : List (List α)) : List (List α) := gs.foldl leastStep []
theorem least_sub : ∀ (gs acc : List (List α)) (f : List α), f ∈ gs.foldl leastStep acc → f ∈ acc ∨ f ∈ gs
  | [], acc, f, h => .inl h
  | g :: gs, acc, f, h => by
    rcases least_sub gs (leastStep acc g) f h with m | m
    · unfold leastStep at m
      split at m
      · exact .inl m
      · rcases List.mem_append.mp m with z | z
        · exact .inl z
        · exact .inr (by simp at z; simp [z])
    · exact .inr (List.mem_cons_of_mem _ m)
theorem least_keep : ∀ (gs acc : List (List α)) (f : List α), f ∈ acc → f ∈ gs.foldl leastStep acc
  | [], acc, f, h => h
  | g :: gs, acc, f, h => by
    refine least_keep gs (leastStep acc g) f ?_
    unfold leastStep
    split
    · exact h
    · exact List.mem_append_left _ h
theorem least_has : ∀ (gs acc : List (List α)) (g : List α), g ∈ gs → ∃ f ∈ gs.foldl leastStep acc, ∀ x ∈ f, x ∈ g
  | [], acc, g, h => by cases h
  | g0 :: gs, acc, g, h => by
    rcases List.mem_cons.mp h with e | h
    · subst e
      cases q : acc.any (fun f => isPart f g) with
      | true =>
        obtain ⟨f, hf, hp⟩ := List.any_eq_true.mp q
        refine ⟨f, least_keep gs _ f ?_, isPart_iff.mp hp⟩
        unfold leastStep
        rw [if_pos q]; exact hf
      | false =>
        refine ⟨g, least_keep gs _ g ?_, fun x hx => hx⟩
        unfold leastStep
        rw [if_neg (by rw [q]; decide)]; simp
    · exact least_has gs _ g h
def leastGroups (lt : α → α → Bool) (hs : List α) (rows : List (List α)) (most : Nat) : List (List α) := srt (ltL lt) (leastFold (eachGroup lt hs rows most))
theorem lg_good {lt : α → α → Bool} (o : SO lt) {hs : List α} {rows : List (List α)} {most : Nat} {g : List α} (h : g ∈ leastGroups lt hs rows most) :
    Asc lt g ∧ (∀ x ∈ g, x ∈ hs) ∧ g ≠ [] ∧ g.length ≤ most ∧ meetsAll g rows = true := by
  unfold leastGroups at h
  rw [srt_mem] at h
  rcases least_sub _ _ _ h with m | m
  · cases m
  · obtain ⟨a1, a2, a3, a4⟩ := (each_mem o).mp m
    exact ⟨a1, a2, fun e => by subst e; simp at a3, a3.2.1, a4⟩
/-- any fitting set has a least group within -/
theorem lg_within {lt : α → α → Bool} (o : SO lt) {hs : List α} {rows : List (List α)} {most : Nat} {W : List α} (hn : W.Nodup) (hs' : ∀ x ∈ W, x ∈ hs) (hne : W ≠ []) (hl : W.length ≤ most) (hm : meetsAll W rows = true) :
    ∃ g ∈ leastGroups lt hs rows most, ∀ x ∈ g, x ∈ W := by
  have hg : srt lt W ∈ eachGroup lt hs rows most := by
    refine (each_mem o).mpr ⟨srt_asc o hn, fun x hx => hs' x (srt_mem.mp hx), ⟨?_, ?_, ?_⟩, meetsAll_iff.mpr fun r hr => ?_⟩
    · rw [srt_len]; cases W with
      | nil => exact absurd rfl hne
      | cons _ _ => simp
    · rw [srt_len]; exact hl
    · rw [srt_len]; exact nodup_sub_len hn hs'
    · obtain ⟨h, h1, h2⟩ := meets_iff.mp (meetsAll_iff.mp hm r hr)
      exact meets_iff.mpr ⟨h, srt_mem.mpr h1, h2⟩
  obtain ⟨f, hf, hp⟩ := least_has _ [] _ hg
  exact ⟨f, srt_mem.mpr hf, fun x hx => srt_mem.mp (hp x hx)⟩

/-! ### least sets that meet all (Berge) -/
def smaller (a b : List α) : Bool := decide (a.length < b.length) && isPart a b
def leastOnes (sets : List (List α)) : List (List α) := (dd sets).filter fun one => !(dd sets).any fun other => smaller other one
def longer (lt : α → α → Bool) (found : List (List α)) (one : List α) : List (List α) := found.flatMap fun s => if meets s one then [s] else one.map fun h => srt lt (s ++ [h])
def bergeStep (lt : α → α → Bool) (found : List (List α)) (one : List α) : List (List α) := leastOnes (longer lt found one)
def leastMeeting (lt : α → α → Bool) (gs : List (List α)) : List (List α) := srt (ltL lt) (gs.foldl (bergeStep lt) [[]])
/-- x meets all of gs -/
structure Hit (lt : α → α → Bool) (hs : List α) (gs : List (List α)) (x : List α) : Prop where
  asc : Asc lt x
  sub : ∀ h ∈ x, h ∈ hs
  hit : ∀ g ∈ gs, meets x g = true
structure MinHit (lt : α → α → Bool) (hs : List α) (gs : List (List α)) (x : List α) : Prop extends Hit lt hs gs x where
  min : ∀ y, Hit lt hs gs y → (∀ h ∈ y, h ∈ x) → y = x
theorem smaller_iff {lt : α → α → Bool} (o : SO lt) {a b : List α} (ha : Asc lt a) (hb : Asc lt b) : smaller a b = true ↔ (∀ h ∈ a, h ∈ b) ∧ a ≠ b := by
  unfold smaller
  rw [Bool.and_eq_true, decide_eq_true_eq, isPart_iff]
  constructor
  · rintro ⟨h1, h2⟩
    exact ⟨h2, fun e => by subst e; omega⟩
  · rintro ⟨h1, h2⟩
    refine ⟨?_, h1⟩
    have hle := nodup_sub_len (ha.nodup o) h1
    rcases Nat.lt_or_ge a.length b.length with z | z
    · exact z
    · exfalso
      refine h2 (asc_ext o ha hb fun x => ⟨h1 x, fun hx => ?_⟩)
      by_cases hxa : x ∈ a
      · exact hxa
      · have := nodup_sub_len (l := x :: a) (h := b) (List.nodup_cons.mpr ⟨hxa, ha.nodup o⟩) fun y hy => by
          rcases List.mem_cons.mp hy with e | m
          · rw [e]; exact hx
          · exact h1 y m
        rw [List.length_cons] at this; omega
theorem min_within {lt : α → α → Bool} (o : SO lt) {hs : List α} {gs : List (List α)} : ∀ (n : Nat) (y : List α), y.length ≤ n → Hit lt hs gs y → ∃ x, MinHit lt hs gs x ∧ ∀ h ∈ x, h ∈ y := by
  intro n
  induction n with
  | zero =>
    intro y hl hy
    have : y = [] := List.length_eq_zero_iff.mp (by omega)
    subst this
    exact ⟨[], ⟨hy, fun z hz hs => by cases z with | nil => rfl | cons a _ => cases hs a (List.mem_cons_self ..)⟩, fun h hh => hh⟩
  | succ n ih =>
    intro y hl hy
    by_cases q : ∃ z, Hit lt hs gs z ∧ (∀ h ∈ z, h ∈ y) ∧ z ≠ y
    · obtain ⟨z, hz, hs1, hne⟩ := q
      have hlt : z.length < y.length := by
        have := (smaller_iff o hz.asc hy.asc).mpr ⟨hs1, hne⟩
        unfold smaller at this
        rw [Bool.and_eq_true, decide_eq_true_eq] at this
        exact this.1
      obtain ⟨x, hx, hs2⟩ := ih z (by omega) hz
      exact ⟨x, hx, fun h hh => hs1 h (hs2 h hh)⟩
    · refine ⟨y, ⟨hy, fun z hz hs1 => ?_⟩, fun h hh => hh⟩
      by_cases e : z = y
      · exact e
      · exact absurd ⟨z, hz, hs1, e⟩ q
theorem hit_mono {lt : α → α → Bool} {hs : List α} {gs gs' : List (List α)} {x : List α} (h : Hit lt hs gs' x) (k : ∀ g ∈ gs, g ∈ gs') : Hit lt hs gs x := ⟨h.asc, h.sub, fun g hg => h.hit g (k g hg)⟩
theorem snoc_nodup {s : List α} {h : α} (n : s.Nodup) (k : h ∉ s) : (s ++ [h]).Nodup := by
  rw [List.nodup_append]
  refine ⟨n, by simp, fun a ha b hb => ?_⟩
  obtain rfl : b = h := by simpa using hb
  intro e; subst e; exact k ha
theorem longer_hit {lt : α → α → Bool} (o : SO lt) {hs : List α} {P : List (List α)} {one : List α} {F : List (List α)} (hF : ∀ x ∈ F, Hit lt hs P x) (hone : ∀ h ∈ one, h ∈ hs) : ∀ z ∈ longer lt F one, Hit lt hs (P ++ [one]) z := by
  intro z hz
  obtain ⟨s, hsF, hz⟩ := List.mem_flatMap.mp hz
  have hs1 := hF s hsF
  split at hz
  · rename_i hm
    obtain rfl : z = s := by simpa using hz
    refine ⟨hs1.asc, hs1.sub, fun g hg => ?_⟩
    rcases List.mem_append.mp hg with m | m
    · exact hs1.hit g m
    · obtain rfl : g = one := by simpa using m
      exact hm
  · rename_i hm
    obtain ⟨h, hh, rfl⟩ := List.mem_map.mp hz
    have hns : h ∉ s := fun k => hm (meets_iff.mpr ⟨h, k, hh⟩)
    refine ⟨srt_asc o (snoc_nodup (hs1.asc.nodup o) hns), fun x hx => ?_, fun g hg => ?_⟩
    · rcases List.mem_append.mp (srt_mem.mp hx) with m | m
      · exact hs1.sub x m
      · obtain rfl : x = h := by simpa using m
        exact hone x hh
    · rcases List.mem_append.mp hg with m | m
      · obtain ⟨y, hy1, hy2⟩ := meets_iff.mp (hs1.hit g m)
        exact meets_iff.mpr ⟨y, srt_mem.mpr (List.mem_append_left _ hy1), hy2⟩
      · obtain rfl : g = one := by simpa using m
        exact meets_iff.mpr ⟨h, srt_mem.mpr (by simp), hh⟩
theorem longer_has {lt : α → α → Bool} (o : SO lt) {hs : List α} {P : List (List α)} {one : List α} {F : List (List α)} (hF : ∀ x, x ∈ F ↔ MinHit lt hs P x) {y : List α} (hy : Hit lt hs (P ++ [one]) y) : ∃ z ∈ longer lt F one, ∀ h ∈ z, h ∈ y := by
  obtain ⟨x, hx, hxy⟩ := min_within o y.length y (Nat.le_refl _) (hit_mono (gs := P) hy fun g hg => List.mem_append_left _ hg)
  have hxF := (hF x).mpr hx
  by_cases hm : meets x one = true
  · exact ⟨x, List.mem_flatMap.mpr ⟨x, hxF, by rw [if_pos hm]; simp⟩, hxy⟩
  · obtain ⟨h, h1, h2⟩ := meets_iff.mp (hy.hit one (by simp))
    refine ⟨srt lt (x ++ [h]), List.mem_flatMap.mpr ⟨x, hxF, by rw [if_neg hm]; exact List.mem_map.mpr ⟨h, h2, rfl⟩⟩, fun k hk => ?_⟩
    rcases List.mem_append.mp (srt_mem.mp hk) with m | m
    · exact hxy k m
    · obtain rfl : k = h := by simpa using m
      exact h1
theorem berge_step {lt : α → α → Bool} (o : SO lt) {hs : List α} {P : List (List α)} {one : List α} {F : List (List α)} (hF : ∀ x, x ∈ F ↔ MinHit lt hs P x) (hone : ∀ h ∈ one, h ∈ hs) : ∀ x, x ∈ bergeStep lt F one ↔ MinHit lt hs (P ++ [one]) x := by
  have hL := longer_hit (lt := lt) o (P := P) (F := F) (one := one) (hs := hs) (fun x hx => ((hF x).mp hx).toHit) hone
  intro x
  unfold bergeStep leastOnes
  rw [List.mem_filter, dd_mem]
  constructor
  · rintro ⟨hx, hmin⟩
    have hx1 := hL x hx
    refine ⟨hx1, fun y hy hyx => ?_⟩
    obtain ⟨z, hz, hzy⟩ := longer_has o hF hy
    by_cases e : z = x
    · subst e
      exact asc_ext o hy.asc hx1.asc fun k => ⟨hyx k, hzy k⟩
    · exfalso
      rw [Bool.not_eq_true'] at hmin
      have := List.any_eq_false.mp hmin z (dd_mem.mpr hz)
      exact this ((smaller_iff o (hL z hz).asc hx1.asc).mpr ⟨fun k hk => hyx k (hzy k hk), e⟩)
  · intro hx
    obtain ⟨z, hz, hzx⟩ := longer_has o hF hx.toHit
    have e := hx.min z (hL z hz) hzx
    subst e
    refine ⟨hz, ?_⟩
    rw [Bool.not_eq_true']
    refine List.any_eq_false.mpr fun y hy hsm => ?_
    have hy := dd_mem.mp hy
    obtain ⟨h1, h2⟩ := (smaller_iff o (hL y hy).asc hx.asc).mp hsm
    exact h2 (hx.min y (hL y hy) h1)
theorem berge_nodup {lt : α → α → Bool} (F : List (List α)) (one : List α) : (bergeStep lt F one).Nodup := (dd_nodup _).sublist List.filter_sublist
theorem berge_fold {lt : α → α → Bool} (o : SO lt) {hs : List α} : ∀ (gs P F : List (List α)), (∀ x, x ∈ F ↔ MinHit lt hs P x) → F.Nodup → (∀ g ∈ gs, ∀ h ∈ g, h ∈ hs) →
    (∀ x, x ∈ gs.foldl (bergeStep lt) F ↔ MinHit lt hs (P ++ gs) x) ∧ (gs.foldl (bergeStep lt) F).Nodup
  | [], P, F, hF, hn, _ => by rw [List.append_nil]; exact ⟨hF, hn⟩
  | g :: gs, P, F, hF, hn, hg => by
    have := berge_fold o gs (P ++ [g]) (bergeStep lt F g) (berge_step o hF (hg g (List.mem_cons_self ..))) (berge_nodup F g) fun k hk => hg k (List.mem_cons_of_mem _ hk)
    rw [List.append_assoc] at this
    exact this
theorem min_nil {lt : α → α → Bool} {hs : List α} (x : List α) : x ∈ ([[]] : List (List α)) ↔ MinHit lt hs [] x := by
  constructor
  · intro h
    obtain rfl : x = [] := by simpa using h
    exact ⟨⟨List.Pairwise.nil, fun h hh => (by cases hh), fun g hg => (by cases hg)⟩, fun y _ hs => by cases y with | nil => rfl | cons a _ => cases hs a (List.mem_cons_self ..)⟩
  · intro h
    have := h.min [] ⟨List.Pairwise.nil, fun h hh => (by cases hh), fun g hg => (by cases hg)⟩ fun h hh => by cases hh
    simp [← this]
theorem told_mem {lt : α → α → Bool} (o : SO lt) {hs : List α} {gs : List (List α)} (hg : ∀ g ∈ gs, ∀ h ∈ g, h ∈ hs) (x : List α) : x ∈ leastMeeting lt gs ↔ MinHit lt hs gs x := by
  unfold leastMeeting
  rw [srt_mem]
  have := (berge_fold o gs [] [[]] min_nil (by simp) hg).1 x
  rw [List.nil_append] at this
  exact this

/-! ### the law's side -/
def lawSets (hs : List α) : List (List α) := hs.foldl (fun found one => found ++ found.map fun s => s ++ [one]) [[]]
theorem lawSets_fold {lt : α → α → Bool} (o : SO lt) : ∀ (hs P F : List (α)) , True := fun _ _ _ => trivial
theorem sets_fold {lt : α → α → Bool} (o : SO lt) : ∀ (r P : List α) (F : List (List α)), Asc lt (P ++ r) → (∀ x, x ∈ F ↔ Asc lt x ∧ ∀ h ∈ x, h ∈ P) → F.Nodup →
    (∀ x, x ∈ r.foldl (fun found one => found ++ found.map fun s => s ++ [one]) F ↔ Asc lt x ∧ ∀ h ∈ x, h ∈ P ++ r) ∧ (r.foldl (fun found one => found ++ found.map fun s => s ++ [one]) F).Nodup
  | [], P, F, _, hF, hn => by rw [List.append_nil]; exact ⟨hF, hn⟩
  | a :: r, P, F, hA, hF, hn => by
    have hPa : ∀ p ∈ P, lt p a = true := fun p hp => (List.pairwise_append.mp hA).2.2 p hp a (List.mem_cons_self ..)
    have haP : a ∉ P := fun h => by have := hPa a h; rw [o.irr] at this; cases this
    have key := sets_fold o r (P ++ [a]) (F ++ F.map fun s => s ++ [a]) (by rw [List.append_assoc]; exact hA) (fun x => ?_) ?_
    · rw [List.append_assoc] at key
      exact key
    · rw [List.mem_append, hF, List.mem_map]
      constructor
      · rintro (⟨h1, h2⟩ | ⟨s, hs, rfl⟩)
        · exact ⟨h1, fun h hh => List.mem_append_left _ (h2 h hh)⟩
        · obtain ⟨h1, h2⟩ := (hF s).mp hs
          refine ⟨(asc_snoc o h1).mpr ?_, fun h hh => ?_⟩
          · unfold lastLt
            cases e : s.getLast? with
            | none => rfl
            | some z => exact hPa z (h2 z (List.mem_of_getLast? e))
          · rcases List.mem_append.mp hh with m | m
            · exact List.mem_append_left _ (h2 h m)
            · exact List.mem_append_right _ m
      · rintro ⟨h1, h2⟩
        by_cases hax : a ∈ x
        · right
          have hne : x ≠ [] := fun e => by subst e; cases hax
          have hx := (List.dropLast_concat_getLast hne).symm
          have hlast : x.getLast hne = a := by
            by_cases e : x.getLast hne = a
            · exact e
            · exfalso
              have had : a ∈ x.dropLast := by
                rw [hx] at hax
                rcases List.mem_append.mp hax with m | m
                · exact m
                · exact absurd (by simpa using m) (Ne.symm e)
              have h3 : lt a (x.getLast hne) = true := by
                have h1' := h1
                rw [hx] at h1'
                exact (List.pairwise_append.mp h1').2.2 a had _ (by simp)
              have hl : x.getLast hne ∈ P := by
                rcases List.mem_append.mp (h2 _ (List.getLast_mem hne)) with m | m
                · exact m
                · exact absurd (by simpa using m) e
              have := o.tr (hPa _ hl) h3
              rw [o.irr] at this; cases this
          refine ⟨x.dropLast, (hF _).mpr ⟨h1.sublist (List.dropLast_sublist x), fun h hh => ?_⟩, by rw [← hlast]; exact hx.symm⟩
          rcases List.mem_append.mp (h2 h (List.dropLast_subset x hh)) with m | m
          · exact m
          · exfalso
            obtain rfl : h = a := by simpa using m
            have h1' := h1
            rw [hx, hlast] at h1'
            have := (List.pairwise_append.mp h1').2.2 h hh h (by simp)
            rw [o.irr] at this; cases this
        · left
          refine ⟨h1, fun h hh => ?_⟩
          rcases List.mem_append.mp (h2 h hh) with m | m
          · exact m
          · obtain rfl : h = a := by simpa using m
            exact absurd hh hax
    · rw [List.nodup_append]
      refine ⟨hn, ?_, fun x hx y hy e => ?_⟩
      · unfold List.Nodup
        rw [List.pairwise_map]
        exact List.Pairwise.imp (fun {s t} h e => h (List.append_inj_left' e rfl)) hn
      · obtain ⟨s, hs, rfl⟩ := List.mem_map.mp hy
        subst e
        exact haP (((hF _).mp hx).2 a (by simp))
theorem sets_mem {lt : α → α → Bool} (o : SO lt) {hs : List α} (h : Asc lt hs) (x : List α) : x ∈ lawSets hs ↔ Asc lt x ∧ ∀ h ∈ x, h ∈ hs :=
  (sets_fold o hs [] [[]] h (fun x => by
    constructor
    · intro h
      obtain rfl : x = [] := by simpa using h
      exact ⟨List.Pairwise.nil, fun h hh => hh⟩
    · rintro ⟨_, h⟩
      cases x with
      | nil => simp
      | cons a _ => cases h a (List.mem_cons_self ..)) (by simp)).1 x
theorem sets_nodup {lt : α → α → Bool} (o : SO lt) {hs : List α} (h : Asc lt hs) : (lawSets hs).Nodup :=
  (sets_fold o hs [] [[]] h (fun x => by
    constructor
    · intro h
      obtain rfl : x = [] := by simpa using h
      exact ⟨List.Pairwise.nil, fun h hh => hh⟩
    · rintro ⟨_, h⟩
      cases x with
      | nil => simp
      | cons a _ => cases h a (List.mem_cons_self ..)) (by simp)).2
def isStmt (gs : List (List α)) (x : List α) : Bool := gs.all fun g => meets x g
def held (gs sets : List (List α)) : List (List α) := sets.filter (isStmt gs)
def within (a b : List α) : Bool := (a.filter fun h => !decide (h ∈ b)).isEmpty
theorem within_iff {a b : List α} : within a b = true ↔ ∀ h ∈ a, h ∈ b := by simp [within]
def lawLeast (sets : List (List α)) : List (List α) := sets.filter fun one => (sets.filter fun other => !decide (other = one) && within other one).isEmpty
theorem held_mem {lt : α → α → Bool} (o : SO lt) {hs : List α} (h : Asc lt hs) {gs : List (List α)} (x : List α) : x ∈ held gs (lawSets hs) ↔ Hit lt hs gs x := by
  unfold held isStmt
  rw [List.mem_filter, sets_mem o h, List.all_eq_true]
  exact ⟨fun ⟨⟨a, b⟩, c⟩ => ⟨a, b, c⟩, fun q => ⟨⟨q.asc, q.sub⟩, q.hit⟩⟩
theorem lawLeast_mem {lt : α → α → Bool} (o : SO lt) {hs : List α} (h : Asc lt hs) {gs : List (List α)} (x : List α) : x ∈ lawLeast (held gs (lawSets hs)) ↔ MinHit lt hs gs x := by
  unfold lawLeast
  rw [List.mem_filter, held_mem o h]
  have e : ∀ y, ((held gs (lawSets hs)).filter fun other => !decide (other = y) && within other y).isEmpty = true ↔ ∀ z, Hit lt hs gs z → (∀ k ∈ z, k ∈ y) → z = y := by
    intro y
    rw [List.isEmpty_iff, List.filter_eq_nil_iff]
    constructor
    · intro q z hz hs1
      by_cases e : z = y
      · exact e
      · exact absurd (by rw [Bool.and_eq_true]; exact ⟨by simpa using e, within_iff.mpr hs1⟩) (q z ((held_mem o h z).mpr hz))
    · intro q z hz hb
      rw [Bool.and_eq_true] at hb
      have := q z ((held_mem o h z).mp hz) (within_iff.mp hb.2)
      rw [this] at hb
      simp at hb
  rw [e]
  exact ⟨fun ⟨a, b⟩ => ⟨a, b⟩, fun q => ⟨q.toHit, q.min⟩⟩
/-- the least statements are the least of all sets that are statements -/
theorem told_eq {lt : α → α → Bool} (o : SO lt) {hs : List α} (h : Asc lt hs) {gs : List (List α)} (hg : ∀ g ∈ gs, ∀ k ∈ g, k ∈ hs) : leastMeeting lt gs = srt (ltL lt) (lawLeast (held gs (lawSets hs))) := by
  unfold leastMeeting
  refine srt_eq (so_ltL o) (berge_fold o gs [] [[]] min_nil (by simp) hg).2 (((sets_nodup o h).sublist List.filter_sublist).sublist List.filter_sublist) fun x => ?_
  rw [lawLeast_mem o h]
  have := (berge_fold o gs [] [[]] min_nil (by simp) hg).1 x
  rw [List.nil_append] at this
  exact this
/-- each larger set is one, too -/
theorem held_larger {lt : α → α → Bool} (o : SO lt) {hs : List α} (h : Asc lt hs) {gs : List (List α)} (hg : ∀ g ∈ gs, ∀ k ∈ g, k ∈ hs) {s : List α} (hs1 : s ∈ lawSets hs) :
    decide (s ∈ held gs (lawSets hs)) = !((leastMeeting lt gs).filter fun one => within one s).isEmpty := by
  rw [Bool.eq_iff_iff, decide_eq_true_eq, held_mem o h, Bool.not_eq_true', ← Bool.not_eq_true, List.isEmpty_iff, List.filter_eq_nil_iff]
  constructor
  · intro q hall
    obtain ⟨x, hx, hxs⟩ := min_within o s.length s (Nat.le_refl _) q
    exact hall x ((told_mem o hg x).mpr hx) (within_iff.mpr hxs)
  · intro q
    obtain ⟨x, hx, hw⟩ : ∃ x, x ∈ leastMeeting lt gs ∧ within x s = true := by
      by_cases e : ∃ x, x ∈ leastMeeting lt gs ∧ within x s = true
      · exact e
      · exact absurd (fun x hx hw => e ⟨x, hx, hw⟩) q
    have hm := (told_mem o hg x).mp hx
    obtain ⟨a1, a2⟩ := (sets_mem o h s).mp hs1
    refine ⟨a1, a2, fun g hgg => ?_⟩
    obtain ⟨k, k1, k2⟩ := meets_iff.mp (hm.hit g hgg)
    exact meets_iff.mpr ⟨k, within_iff.mp hw k k1, k2⟩
/-- a statement of one holder -/
theorem named_iff {lt : α → α → Bool} (o : SO lt) {hs : List α} {gs : List (List α)} (hg : ∀ g ∈ gs, ∀ k ∈ g, k ∈ hs) {a : α} (ha : a ∈ hs) :
    decide ([a] ∈ leastMeeting lt gs) = (!gs.isEmpty && (gs.filter fun g => !decide (a ∈ g)).isEmpty) := by
  rw [Bool.eq_iff_iff, decide_eq_true_eq, told_mem o hg, Bool.and_eq_true, Bool.not_eq_true', ← Bool.not_eq_true, List.isEmpty_iff, List.isEmpty_iff, List.filter_eq_nil_iff]
  have one : ∀ g : List α, meets [a] g = true ↔ a ∈ g := fun g => by
    rw [meets_iff]
    constructor
    · rintro ⟨h, h1, h2⟩
      obtain rfl : h = a := by simpa using h1
      exact h2
    · intro h
      exact ⟨a, by simp, h⟩
  constructor
  · intro q
    refine ⟨fun e => ?_, fun g hgg => ?_⟩
    · subst e
      have := q.min [] ⟨List.Pairwise.nil, fun h hh => (by cases hh), fun g hg => (by cases hg)⟩ fun h hh => by cases hh
      cases this
    · have := (one g).mp (q.hit g hgg)
      simpa using this
  · rintro ⟨hne, hall⟩
    refine ⟨⟨by simp [Asc], fun h hh => ?_, fun g hgg => (one g).mpr (by simpa using hall g hgg)⟩, fun y hy hs1 => ?_⟩
    · obtain rfl : h = a := by simpa using hh
      exact ha
    · cases gs with
      | nil => exact absurd rfl hne
      | cons g gs =>
        obtain ⟨k, k1, _⟩ := meets_iff.mp (hy.hit g (List.mem_cons_self ..))
        obtain rfl : k = a := by simpa using hs1 k k1
        refine asc_ext o hy.asc (by simp [Asc]) fun z => ⟨fun hz => hs1 z hz, fun hz => ?_⟩
        obtain rfl : z = k := by simpa using hz
        exact k1

/-! ### trees -/
/-- while S is a statement, a way outside it leaves a clause unmet -/
theorem unmet_some {lt : α → α → Bool} (o : SO lt) {hs : List α} {rows : List (List α)} {most : Nat} {S way : List α} (hhs : hs ∈ rows) (hS : ∀ g ∈ leastGroups lt hs rows most, meets g S = true)
    (hn : way.Nodup) (hw : ∀ x ∈ way, x ∈ hs ∧ x ∉ S) (hl : way.length ≤ most) : (rows.filter fun r => !meets r way) ≠ [] := by
  intro e
  rw [List.filter_eq_nil_iff] at e
  have all : ∀ r ∈ rows, meets way r = true := fun r hr => by
    have := e r hr
    rw [meets_comm]
    simpa using this
  have hne : way ≠ [] := fun q => by
    subst q
    obtain ⟨h, h1, _⟩ := meets_iff.mp (all hs hhs)
    cases h1
  obtain ⟨g, hg, hgw⟩ := lg_within o hn (fun x hx => (hw x hx).1) hne hl (meetsAll_iff.mpr all)
  obtain ⟨h, h1, h2⟩ := meets_iff.mp (hS g hg)
  exact (hw h (hgw h h1)).2 h2
end BM
set_option Elab.async false
set_option linter.all false
set_option maxRecDepth 100000
set_option maxHeartbeats 2000000
namespace Bl
open PySem PySem.Spec PyProof.Rows L2
def eR (rows : List (List Str)) : PyData := .tuple (rows.map eS)
theorem enc_eR : Enc 2 eR := enc_tup enc_eS
def outs (a b : List Str) : List Str := a.filter fun h => !decide (h ∈ b)
section
variable {P : Program} {w : World} {K : PySem.W.Frag} {mg : Str → Option Value} {base : Heap}

/-! meets -/
abbrev N_meets : List Str := ["some", "clause", "holder"]
theorem sc_meets : FnScope N_meets ["some", "clause"] (defScope (top 14)) := ⟨rfl, rfl, rfl, by decide +kernel, rfl, by decide +kernel, by decide +kernel⟩
def pm_meets (K : PySem.W.Frag) (rs : List SV) (r : SV) : Prop := ∃ a b : List Str, rs = [D K (eS a), D K (eS b)] ∧ r = D K (.bool (BM.meets a b))
theorem ok_meets (T : Tx K mg) : Ok P w K mg base 1 "meets" ["some", "clause"] (pure0 (pm_meets K)) :=
  ok_of T.d_meets sc_meets (fun _ _ _ _ _ _ us hl => match us, hl with | [_, _], _ => rfl) (fun rs Δ r Δ' ⟨_, _, a, b, e, _⟩ => by rw [e]; rfl) fun f cdv A outer s H E rs Δ r Δ' hr hp => by
    obtain ⟨rfl, rfl, a, b, rfl, rfl⟩ := hp
    refine jss_ret ?_ fnO_rt
    refine je_anyF (l := a) (q := fun h => decide (h ∈ b)) rfl T.f_any ?_
    refine je_map (js := [2]) (own := [("holder", 2)]) rfl sc_meets.nd (ji_Te (je_var 0)) (blkOk_by (N := N_meets) (sc := defScope (top 14)) (by decide +kernel)) (fun _ _ _ _ _ => pg_name (i := 2) sc_meets.nd rfl (Or.inl rfl)) (fun a _ => tg_name 2) (fun _ h => h) fun a _ _ _ _ _ _ => ?_
    exact je_inT enc_str (hu65 hr) (je_var 2) (je_var 1)

/-! is_part_of -/
abbrev N_ipo : List Str := ["some", "others", "holder"]
theorem sc_ipo : FnScope N_ipo ["some", "others"] (defScope (top 22)) := ⟨rfl, rfl, rfl, by decide +kernel, rfl, by decide +kernel, by decide +kernel⟩
def pm_ipo (K : PySem.W.Frag) (rs : List SV) (r : SV) : Prop := ∃ a b : List Str, rs = [D K (eS a), D K (eS b)] ∧ r = D K (.bool (BM.isPart a b))
theorem ok_ipo (T : Tx K mg) : Ok P w K mg base 1 "is_part_of" ["some", "others"] (pure0 (pm_ipo K)) :=
  ok_of T.d_is_part_of sc_ipo (fun _ _ _ _ _ _ us hl => match us, hl with | [_, _], _ => rfl) (fun rs Δ r Δ' ⟨_, _, a, b, e, _⟩ => by rw [e]; rfl) fun f cdv A outer s H E rs Δ r Δ' hr hp => by
    obtain ⟨rfl, rfl, a, b, rfl, rfl⟩ := hp
    refine jss_ret ?_ fnO_rt
    refine je_allF (l := a) (q := fun h => decide (h ∈ b)) rfl T.f_all ?_
    refine je_map (js := [2]) (own := [("holder", 2)]) rfl sc_ipo.nd (ji_Te (je_var 0)) (blkOk_by (N := N_ipo) (sc := defScope (top 22)) (by decide +kernel)) (fun _ _ _ _ _ => pg_name (i := 2) sc_ipo.nd rfl (Or.inl rfl)) (fun a _ => tg_name 2) (fun _ h => h) fun a _ _ _ _ _ _ => ?_
    exact je_inT enc_str (hu65 hr) (je_var 2) (je_var 1)

/-! meets_all -/
abbrev N_mall : List Str := ["some", "rows", "clause"]
theorem sc_mall : FnScope N_mall ["some", "rows"] (defScope (top 23)) := ⟨rfl, rfl, rfl, by decide +kernel, rfl, by decide +kernel, by decide +kernel⟩
def pm_mall (K : PySem.W.Frag) (rs : List SV) (r : SV) : Prop := ∃ (a : List Str) (b : List (List Str)), rs = [D K (eS a), D K (eR b)] ∧ r = D K (.bool (BM.meetsAll a b))
theorem ok_mall (T : Tx K mg) : Ok P w K mg base 2 "meets_all" ["some", "rows"] (pure0 (pm_mall K)) :=
  ok_of T.d_meets_all sc_mall (fun _ _ _ _ _ _ us hl => match us, hl with | [_, _], _ => rfl) (fun rs Δ r Δ' ⟨_, _, a, b, e, _⟩ => by rw [e]; rfl) fun f cdv A outer s H E rs Δ r Δ' hr hp => by
    obtain ⟨rfl, rfl, a, b, rfl, rfl⟩ := hp
    refine jss_ret ?_ fnO_rt
    refine je_allF (l := b) (q := fun r => BM.meets a r) rfl T.f_all ?_
    refine je_map (js := [2]) (own := [("clause", 2)]) rfl sc_mall.nd (ji_Te (je_var 1)) (blkOk_by (N := N_mall) (sc := defScope (top 23)) (by decide +kernel)) (fun _ _ _ _ _ => pg_name (i := 2) sc_mall.nd rfl (Or.inl rfl)) (fun a _ => tg_name 2) (fun _ h => h) fun c _ _ _ _ _ _ => ?_
    exact je_callP (ok_meets T) hr (ja_cons (je_var 0) (ja_cons (je_var 2) ja_nil)) ⟨a, c, rfl, rfl⟩

/-! outside -/
abbrev N_out : List Str := ["clause", "statement", "holder"]
theorem sc_out : FnScope N_out ["clause", "statement"] (defScope (top 29)) := ⟨rfl, rfl, rfl, by decide +kernel, rfl, by decide +kernel, by decide +kernel⟩
def pm_out (K : PySem.W.Frag) (rs : List SV) (r : SV) : Prop := ∃ (a b : List Str), rs = [D K (eS a), D K (eS b)] ∧ r = L K ((outs a b).map .str)
theorem ok_out (T : Tx K mg) : Ok P w K mg base 1 "outside" ["clause", "statement"] (pure0 (pm_out K)) :=
  ok_of T.d_outside sc_out (fun _ _ _ _ _ _ us hl => match us, hl with | [_, _], _ => rfl) (fun rs Δ r Δ' ⟨_, _, a, b, e, _⟩ => by rw [e]; rfl) fun f cdv A outer s H E rs Δ r Δ' hr hp => by
    obtain ⟨rfl, rfl, a, b, rfl, rfl⟩ := hp
    refine jss_ret ?_ fnO_rt
    refine je_flt (l := a) (js := [2]) (own := [("holder", 2)]) rfl sc_out.nd (ji_Te (je_var 0)) (blkOk_by (N := N_out) (sc := defScope (top 29)) (by decide +kernel)) (fun _ _ _ _ _ => pg_name (i := 2) sc_out.nd rfl (Or.inl rfl)) (fun a _ => tg_name 2) (fun _ h => h) (fun c _ _ _ _ _ _ => ?_) fun c _ _ _ _ _ _ _ => ?_
    · exact jb_notInT enc_str (hu65 hr) (je_var 2) (je_var 1)
    · exact je_var 2

/-! is_smaller_part -/
abbrev N_smp : List Str := ["some", "other", "holder"]
theorem sc_smp : FnScope N_smp ["some", "other"] (defScope (top 63)) := ⟨rfl, rfl, rfl, by decide +kernel, rfl, by decide +kernel, by decide +kernel⟩
def pm_smp (K : PySem.W.Frag) (rs : List SV) (r : SV) : Prop := ∃ (a b : List Str), rs = [D K (eS a), D K (eS b)] ∧ r = D K (.bool (BM.smaller a b))
theorem ok_smp (T : Tx K mg) : Ok P w K mg base 1 "is_smaller_part" ["some", "other"] (pure0 (pm_smp K)) :=
  ok_of T.d_is_smaller_part sc_smp (fun _ _ _ _ _ _ us hl => match us, hl with | [_, _], _ => rfl) (fun rs Δ r Δ' ⟨_, _, a, b, e, _⟩ => by rw [e]; rfl) fun f cdv A outer s H E rs Δ r Δ' hr hp => by
    obtain ⟨rfl, rfl, a, b, rfl, rfl⟩ := hp
    refine jss_ret (je_and (b1 := decide ((a.length : Int) < b.length)) (b2 := BM.isPart a b) ?_ fun _ => je_one ?_) (Δ1 := []) ?_
    · exact (je_lt (je_lenT T.f_len (je_var 0)) (je_lenT T.f_len (je_var 1))).eq (by simp)
    · refine je_allF (l := a) (q := fun h => decide (h ∈ b)) rfl T.f_all ?_
      refine je_map (js := [2]) (own := [("holder", 2)]) rfl sc_smp.nd (ji_Te (je_var 0)) (blkOk_by (N := N_smp) (sc := defScope (top 63)) (by decide +kernel)) (fun _ _ _ _ _ => pg_name (i := 2) sc_smp.nd rfl (Or.inl rfl)) (fun a _ => tg_name 2) (fun _ h => h) fun a _ _ _ _ _ _ => ?_
      exact je_inT enc_str (hu65 hr) (je_var 2) (je_var 1)
    · have e : (decide ((a.length : Int) < b.length) && BM.isPart a b) = BM.smaller a b := by unfold BM.smaller; simp
      rw [e]; exact fnO_rt

/-! _law_meets, _law_within -/
abbrev N_lm : List Str := ["_law_some", "_law_other", "_law_one"]
theorem sc_lm : FnScope N_lm ["_law_some", "_law_other"] (defScope (top 81)) := ⟨rfl, rfl, rfl, by decide +kernel, rfl, by decide +kernel, by decide +kernel⟩
theorem flt_meets (a b : List Str) : (!((a.filter fun h => decide (h ∈ b)).map PyData.str).isEmpty) = BM.meets a b := by
  rw [isEmpty_map]
  unfold BM.meets
  induction a with
  | nil => rfl
  | cons x a ih =>
    by_cases h : x ∈ b
    · simp [h]
    · simp only [List.filter_cons, h, decide_false, List.any_cons, Bool.false_or]
      exact ih
theorem ok_lmeets (T : Tx K mg) : Ok P w K mg base 1 "_law_meets" ["_law_some", "_law_other"] (pure0 (pm_meets K)) :=
  ok_of T.d__law_meets sc_lm (fun _ _ _ _ _ _ us hl => match us, hl with | [_, _], _ => rfl) (fun rs Δ r Δ' ⟨_, _, a, b, e, _⟩ => by rw [e]; rfl) fun f cdv A outer s H E rs Δ r Δ' hr hp => by
    obtain ⟨rfl, rfl, a, b, rfl, rfl⟩ := hp
    refine jss_ret ((je_nilNeL (ds := (a.filter fun h => decide (h ∈ b)).map .str) (hu64 hr) ?_ je_lst0 (dep_map enc_str.dep (by decide) _)).eq (flt_meets a b ▸ rfl)) fnO_rt
    refine je_flt (l := a) (js := [2]) (own := [("_law_one", 2)]) rfl sc_lm.nd (ji_Te (je_var 0)) (blkOk_by (N := N_lm) (sc := defScope (top 81)) (by decide +kernel)) (fun _ _ _ _ _ => pg_name (i := 2) sc_lm.nd rfl (Or.inl rfl)) (fun a _ => tg_name 2) (fun _ h => h) (fun c _ _ _ _ _ _ => ?_) fun c _ _ _ _ _ _ _ => ?_
    · exact jb_inT enc_str (hu65 hr) (je_var 2) (je_var 1)
    · exact je_var 2
theorem sc_lw : FnScope N_lm ["_law_some", "_law_other"] (defScope (top 82)) := ⟨rfl, rfl, rfl, by decide +kernel, rfl, by decide +kernel, by decide +kernel⟩
/-- the second is a tuple or a list -/
def pm_lw (K : PySem.W.Frag) (rs : List SV) (r : SV) : Prop := ∃ a b : List Str, (rs = [D K (eS a), D K (eS b)] ∨ rs = [D K (eS a), L K (b.map .str)]) ∧ r = D K (.bool (BM.within a b))
theorem ok_lwithin (T : Tx K mg) : Ok P w K mg base 1 "_law_within" ["_law_some", "_law_other"] (pure0 (pm_lw K)) :=
  ok_of T.d__law_within sc_lw (fun _ _ _ _ _ _ us hl => match us, hl with | [_, _], _ => rfl) (fun rs Δ r Δ' ⟨_, _, a, b, e, _⟩ => by rcases e with e | e <;> rw [e] <;> rfl) fun f cdv A outer s H E rs Δ r Δ' hr hp => by
    obtain ⟨rfl, rfl, a, b, e, rfl⟩ := hp
    rcases e with rfl | rfl
    · refine jss_ret ((je_nilEqL (ds := (a.filter fun h => !decide (h ∈ b)).map .str) (hu64 hr) ?_ je_lst0 (dep_map enc_str.dep (by decide) _)).eq (by rw [isEmpty_map]; rfl)) fnO_rt
      refine je_flt (l := a) (js := [2]) (own := [("_law_one", 2)]) rfl sc_lw.nd (ji_Te (je_var 0)) (blkOk_by (N := N_lm) (sc := defScope (top 82)) (by decide +kernel)) (fun _ _ _ _ _ => pg_name (i := 2) sc_lw.nd rfl (Or.inl rfl)) (fun a _ => tg_name 2) (fun _ h => h) (fun c _ _ _ _ _ _ => ?_) fun c _ _ _ _ _ _ _ => ?_
      · exact jb_notInT enc_str (hu65 hr) (je_var 2) (je_var 1)
      · exact je_var 2
    · refine jss_ret ((je_nilEqL (ds := (a.filter fun h => !decide (h ∈ b)).map .str) (hu64 hr) ?_ je_lst0 (dep_map enc_str.dep (by decide) _)).eq (by rw [isEmpty_map]; rfl)) fnO_rt
      refine je_flt (l := a) (js := [2]) (own := [("_law_one", 2)]) rfl sc_lw.nd (ji_Te (je_var 0)) (blkOk_by (N := N_lm) (sc := defScope (top 82)) (by decide +kernel)) (fun _ _ _ _ _ => pg_name (i := 2) sc_lw.nd rfl (Or.inl rfl)) (fun a _ => tg_name 2) (fun _ h => h) (fun c _ _ _ _ _ _ => ?_) fun c _ _ _ _ _ _ _ => ?_
      · exact jb_notInL enc_str (hu65 hr) (je_var 2) (je_var 1)
      · exact je_var 2

/-! _law_least -/
abbrev N_ll : List Str := ["_law_sets_here", "_law_one", "_law_other"]
theorem sc_ll : FnScope N_ll ["_law_sets_here"] (defScope (top 83)) := ⟨rfl, rfl, rfl, by decide +kernel, rfl, by decide +kernel, by decide +kernel⟩
def pm_ll (K : PySem.W.Frag) (rs : List SV) (r : SV) : Prop := ∃ a : List (List Str), rs = [L K (a.map eS)] ∧ r = L K ((BM.lawLeast a).map eS)
theorem ok_lleast (T : Tx K mg) : Ok P w K mg base 2 "_law_least" ["_law_sets_here"] (pure0 (pm_ll K)) :=
  ok_of T.d__law_least sc_ll (fun _ _ _ _ _ _ us hl => match us, hl with | [_], _ => rfl) (fun rs Δ r Δ' ⟨_, _, a, e, _⟩ => by rw [e]; rfl) fun f cdv A outer s H E rs Δ r Δ' hr hp => by
    obtain ⟨rfl, rfl, a, rfl, rfl⟩ := hp
    refine jss_ret ?_ fnO_rt
    refine je_flt (l := a) (js := [1]) (own := [("_law_one", 1)]) rfl sc_ll.nd (ji_Le (je_var 0)) (blkOk_by (N := N_ll) (sc := defScope (top 83)) (by decide +kernel)) (fun _ _ _ _ _ => pg_name (i := 1) sc_ll.nd rfl (Or.inr rfl)) (fun a _ => tg_name 1) (fun _ h => h) (fun c _ s1 H1 C1 cl1 fp1 => ?_) fun c _ _ _ _ _ _ _ => ?_
    · refine (jb_nilEqL (ds := (a.filter fun other => !decide (other = c) && BM.within other c).map eS) (hu64 hr) ?_ je_lst0 (dep_map enc_eS.dep (by decide) _)).eq (by rw [isEmpty_map])
      refine je_flt (l := a) (js := [2]) (own := [("_law_other", 2)]) rfl sc_ll.nd (ji_Le (je_var 0)) (blkOk_by (by first | decide +kernel | rfl)) (fun _ _ _ _ _ => pg_name (i := 2) sc_ll.nd rfl (Or.inl rfl)) (fun a _ => tg_name 2) (fun _ h => h) (fun d _ _ _ _ _ _ => ?_) fun d _ _ _ _ _ _ _ => ?_
      · refine (jw_and ?_ fun _ => jw_and1 ?_).jb
        · exact jb_neE enc_eS (hu64 hr) (je_var 2) (je_var 1)
        · exact jb_val (je_callP (ok_lwithin T) hr (ja_cons (je_var 2) (ja_cons (je_var 1) ja_nil)) ⟨d, c, .inl rfl, rfl⟩)
      · exact je_var 2
    · exact je_var 1
end
end Bl
set_option Elab.async false
set_option linter.all false
set_option maxRecDepth 100000
set_option maxHeartbeats 2000000
namespace Bl
open PySem PySem.Spec PyProof.Rows L2
section
variable {P : Program} {w : World} {K : PySem.W.Frag} {mg : Str → Option Value} {base : Heap}
theorem line_eq : (sizeLine : Nat) = 16777216 := sizeLine_eq
/-! parts_of -/
abbrev N_po : List Str := ["holders", "size", "found", "turn", "part", "holder"]
theorem sc_po : FnScope N_po ["holders", "size"] (defScope (top 21)) := ⟨rfl, rfl, rfl, by decide +kernel, rfl, by decide +kernel, by decide +kernel⟩
def pm_po (K : PySem.W.Frag) (rs : List SV) (r : SV) : Prop := ∃ (hs : List Str) (n : Nat), hs.length ≤ 8 ∧ n ≤ 8 ∧ rs = [D K (eS hs), D K (.int n)] ∧ r = L K ((BM.partsOf sLt hs n).map eS)
theorem parts_len (hs : List Str) (h : hs.length ≤ 8) : ∀ n, (BM.partsOf sLt hs n).length ≤ 8 ^ n
  | 0 => by simp [BM.partsOf]
  | n + 1 => by
    have ih := parts_len hs h n
    unfold BM.partsOf BM.partsStep
    have k := flat_len (m := hs) (p := fun part h => BM.lastLt sLt part h) (f := fun part h => PyData.str h) (BM.partsOf sLt hs n)
    rw [List.length_flatMap] at k ⊢
    simp only [List.length_map] at k ⊢
    refine Nat.le_trans k ?_
    rw [Nat.pow_succ]
    exact Nat.mul_le_mul ih h
theorem lastLt_eq (part : List Str) (h : Str) : BM.lastLt sLt part h = (part.isEmpty || match part.getLast? with | some z => sLt z h | none => true) := by
  unfold BM.lastLt
  cases part with
  | nil => rfl
  | cons a r => rfl
theorem parts_at {hs : List Str} : ∀ {n : Nat} {a : List Str}, a ∈ BM.partsOf sLt hs n → a.length = n
  | 0, a, h => by simp [BM.partsOf] at h; simp [h]
  | n + 1, a, h => by
    unfold BM.partsOf BM.partsStep at h
    obtain ⟨p, hp, hm⟩ := List.mem_flatMap.mp h
    obtain ⟨x, _, rfl⟩ := List.mem_map.mp hm
    simp [parts_at hp]
theorem ok_po (T : Tx K mg) : Ok P w K mg base 1 "parts_of" ["holders", "size"] (pure0 (pm_po K)) :=
  ok_of T.d_parts_of sc_po (fun _ _ _ _ _ _ us hl => match us, hl with | [_, _], _ => rfl) (fun rs Δ r Δ' ⟨_, _, a, b, _, _, e, _⟩ => by rw [e]; rfl) fun f cdv A outer s H E rs Δ r Δ' hr hp => by
    obtain ⟨rfl, rfl, hs, n, hl, hn, rfl, rfl⟩ := hp
    refine jss_setE (i := 2) (je_lst (ds := [eS []]) (ja_cons je_tup0 ja_nil)) sc_po.nd ?_
    refine jss_for (js := [3]) PassesOwn.never rfl (ji_rng1 (n := n) T.f_range (je_var 1) (by rw [line_eq]; omega)) (pg_name (i := 3) sc_po.nd rfl (Or.inl rfl))
      (fun i Δ Γ => Δ = [] ∧ Γ = [some (D K (eS hs)), some (D K (.int n)), some (L K ((BM.partsOf sLt hs i).map eS)), none, none, none]) ⟨rfl, rfl⟩ (fun i r Δ Γ hi hI => ?_) fun Δ Γ hI => ?_
    · obtain ⟨rfl, rfl⟩ := hI
      have hin : i < n := by have := (List.getElem?_eq_some_iff.mp hi).1; simpa using this
      have hz : (BM.partsOf sLt hs i).length * hs.length ≤ sizeLine := by
        rw [line_eq]
        have h1 := parts_len hs hl i
        have h2 : 8 ^ i ≤ 8 ^ 7 := Nat.pow_le_pow_right (by decide) (by omega)
        have h3 := Nat.mul_le_mul (Nat.le_trans h1 h2) hl
        exact h3
      refine ⟨_, tg_name 3, ?_⟩
      refine jss_set (i := 2) (jas_lc2 (l := BM.partsOf sLt hs i) (m := hs) (rb := fun h => D K (.str h)) (ra := fun p => D K (eS p)) (p := fun part h => BM.lastLt sLt part h) (f := fun part h => eS (part ++ [h])) (js := [4]) (js1 := [5]) (vs1 := [5]) (own := [("part", 4), ("holder", 5)]) rfl sc_po.nd (ji_Le (je_var 2)) (blkOk_by (N := N_po) (sc := defScope (top 21)) (by decide +kernel)) (by decide)
        (fun _ _ _ _ _ => pg_name (i := 4) sc_po.nd rfl (Or.inl rfl)) (fun _ _ _ _ _ => pg_name (i := 5) sc_po.nd rfl (Or.inl rfl)) ⟨fun a _ => tg_name 4, by decide, fun a _ _ _ _ _ _ => ji_Te (je_var 0), fun a _ b _ => tg_name 5, by decide, fun a _ b _ s1 H1 C1 cl1 fp1 => jbs_one ?_, fun a ha b _ _ _ _ _ _ _ => ?_, hz⟩ (sw_true rfl rfl rfl (by decide +kernel))) ?_
      · rw [lastLt_eq]
        refine (jw_or (b1 := a.isEmpty) ?_ fun hne => jw_or1 ?_).jb
        · exact (jb_nilEqT (hu64 hr) (je_var 4) je_tup0 (dep_mapT enc_str.dep (by decide) _)).eq isEmpty_map
        · cases hz : a.getLast? with
          | none =>
            have : a = [] := by simpa using hz
            subst this; cases hne
          | some z =>
            refine jb_ltS (je_ixT (d := .str z) (ds := a.map .str) (i := -1) (je_var 4) (je_neg je_int) (atI_last (by rw [List.getLast?_map, hz]; rfl))) (je_var 5)
      · exact (je_catT (ds1 := a.map .str) (ds2 := [.str b]) (je_var 4) (je_tup (ds := [.str b]) (ja_cons (je_var 5) ja_nil)) (by have := parts_at ‹a ∈ _›; rw [line_eq, List.length_map, this]; simp; omega)).eq (by simp [eS])
      · rintro r Δ1 ⟨rfl, rfl⟩
        refine jss_nil ⟨[_, _, _, none, none, none], .keep (.keep (.keep (.drop (.drop (.drop .nil))))), rfl, ?_⟩
        show [_, _, some (L K _), none, none, none] = _
        rw [show (BM.partsOf sLt hs i).flatMap (fun a => (hs.filter fun h => BM.lastLt sLt a h).map fun h => eS (a ++ [h])) = (BM.partsOf sLt hs (i + 1)).map eS from ?_]
        rw [show BM.partsOf sLt hs (i + 1) = BM.partsStep sLt hs (BM.partsOf sLt hs i) from rfl]
        unfold BM.partsStep
        rw [List.map_flatMap]
        simp only [List.map_map]
        rfl
    · obtain ⟨rfl, rfl⟩ := hI
      refine jss_ret (je_var 2) ?_
      rw [List.length_map, List.length_range]
      exact fnO_rt
/-! _law_sets -/
abbrev N_ls : List Str := ["_law_people_here", "_law_found", "_law_one", "_law_some"]
theorem sc_ls : FnScope N_ls ["_law_people_here"] (defScope (top 79)) := ⟨rfl, rfl, rfl, by decide +kernel, rfl, by decide +kernel, by decide +kernel⟩
def pm_ls (K : PySem.W.Frag) (rs : List SV) (r : SV) : Prop := ∃ hs : List Str, hs.length ≤ 8 ∧ rs = [L K (hs.map .str)] ∧ r = L K ((BM.lawSets hs).map eS)
abbrev setStep (found : List (List Str)) (one : Str) : List (List Str) := found ++ found.map fun s => s ++ [one]
theorem sets_at : ∀ (l : List Str) (F : List (List Str)) (n : Nat), (∀ s ∈ F, s.length ≤ n) → (l.foldl setStep F).length = 2 ^ l.length * F.length ∧ ∀ s ∈ l.foldl setStep F, s.length ≤ n + l.length
  | [], F, n, h => ⟨by simp, by simpa using h⟩
  | a :: l, F, n, h => by
    obtain ⟨h1, h2⟩ := sets_at l (setStep F a) (n + 1) (fun s hs => by
      rcases List.mem_append.mp hs with m | m
      · exact Nat.le_succ_of_le (h s m)
      · obtain ⟨t, ht, rfl⟩ := List.mem_map.mp m
        have := h t ht
        simp; omega)
    refine ⟨?_, fun s hs => by have := h2 s hs; simp; omega⟩
    rw [List.foldl_cons, h1]
    simp [setStep, Nat.pow_succ]
    rw [← Nat.two_mul, Nat.mul_assoc]
theorem ok_ls (T : Tx K mg) : Ok P w K mg base 1 "_law_sets" ["_law_people_here"] (pure0 (pm_ls K)) :=
  ok_of T.d__law_sets sc_ls (fun _ _ _ _ _ _ us hl => match us, hl with | [_], _ => rfl) (fun rs Δ r Δ' ⟨_, _, a, _, e, _⟩ => by rw [e]; rfl) fun f cdv A outer s H E rs Δ r Δ' hr hp => by
    obtain ⟨rfl, rfl, hs, hl, rfl, rfl⟩ := hp
    refine jss_setE (i := 1) (je_lst (ds := [eS []]) (ja_cons je_tup0 ja_nil)) sc_ls.nd ?_
    refine jss_for (js := [2]) PassesOwn.never rfl (ji_Le (je_var 0)) (pg_name (i := 2) sc_ls.nd rfl (Or.inr rfl))
      (fun i Δ Γ => Δ = [] ∧ Γ = [some (L K (hs.map .str)), some (L K (((hs.take i).foldl setStep [[]]).map eS)), none, none]) ⟨rfl, rfl⟩ (fun i r Δ Γ hi hI => ?_) fun Δ Γ hI => ?_
    · obtain ⟨rfl, rfl⟩ := hI
      rw [List.getElem?_map] at hi
      cases hq : hs[i]? with
      | none => rw [hq] at hi; cases hi
      | some a =>
        rw [hq] at hi
        cases hi
        obtain ⟨b1, b2⟩ := sets_at (hs.take i) [[]] 0 (by simp)
        have hlt : (hs.take i).length ≤ 7 := by
          have := (List.getElem?_eq_some_iff.mp hq).1
          rw [List.length_take]; omega
        have hp : 2 ^ (hs.take i).length ≤ 2 ^ 7 := Nat.pow_le_pow_right (by decide) hlt
        refine ⟨_, tg_name 2, jss_setE (i := 1) (je_catL (je_var 1) (je_map (l := (hs.take i).foldl setStep [[]]) (f := fun s => eS (s ++ [a])) (js := [3]) (own := [("_law_some", 3)]) rfl sc_ls.nd (ji_Le (je_var 1)) (blkOk_by (N := N_ls) (sc := defScope (top 79)) (by decide +kernel)) (fun _ _ _ _ _ => pg_name (i := 3) sc_ls.nd rfl (Or.inl rfl)) (fun a _ => tg_name 3) (fun _ h => h) fun b hb _ _ _ _ _ => ?_) ?_) sc_ls.nd (jss_nil ⟨[_, _, none, none], .keep (.keep (.drop (.drop .nil))), rfl, ?_⟩)⟩
        · refine (je_catT (ds1 := b.map .str) (ds2 := [.str a]) (je_var 3) (je_tup (ds := [.str a]) (ja_cons (je_var 2) ja_nil)) ?_).eq (by simp [eS])
          have := b2 b hb
          rw [line_eq, List.length_map]; simp at this ⊢; omega
        · rw [line_eq, List.length_map, List.length_map, b1]; simp at hp ⊢; omega
        · have e : (hs.take (i + 1)).foldl setStep [[]] = setStep ((hs.take i).foldl setStep [[]]) a := by rw [take_succ hq, List.foldl_append]; rfl
          rw [e]
          show [_, some (L K _), none, none] = _
          simp [setStep, List.map_map, Function.comp_def]
    · obtain ⟨rfl, rfl⟩ := hI
      refine jss_ret (je_var 1) ?_
      rw [List.length_map, List.take_length]
      exact fnO_rt

/-! _law_marks: the copies a tuple; the group a tuple or a list -/
abbrev N_lk : List Str := ["_law_copies_here", "_law_group", "_law_at", "_law_one", "_law_row"]
theorem sc_lk : FnScope N_lk ["_law_copies_here", "_law_group", "_law_at"] (defScope (top 75)) := ⟨rfl, rfl, rfl, by decide +kernel, rfl, by decide +kernel, by decide +kernel⟩
abbrev Copies := List (Str × List Str)
def eCs (cs : Copies) : PyData := .tuple (cs.map eC)
def markAt (row : List Str) (i : Nat) : Str := row.getD i ⟨#[]⟩
def marksOf (cs : Copies) (g : List Str) (i : Nat) : List Str := (cs.filter fun c => decide (c.1 ∈ g)).map fun c => markAt c.2 i
def pm_lk (K : PySem.W.Frag) (rs : List SV) (r : SV) : Prop := ∃ (cs : Copies) (g : List Str) (i : Nat), (∀ c ∈ cs, i < c.2.length) ∧ (rs = [D K (eCs cs), D K (eS g), D K (.int i)] ∨ rs = [D K (eCs cs), L K (g.map .str), D K (.int i)]) ∧ r = L K ((marksOf cs g i).map .str)
theorem mark_at {row : List Str} {i : Nat} (h : i < row.length) : row[i]? = some (markAt row i) := by
  unfold markAt
  rw [List.getD_eq_getElem?_getD, List.getElem?_eq_getElem h]; rfl
theorem ok_lk (T : Tx K mg) : Ok P w K mg base 1 "_law_marks" ["_law_copies_here", "_law_group", "_law_at"] (pure0 (pm_lk K)) :=
  ok_of T.d__law_marks sc_lk (fun _ _ _ _ _ _ us hl => match us, hl with | [_, _, _], _ => rfl) (fun rs Δ r Δ' ⟨_, _, a, b, c, _, e, _⟩ => by rcases e with e | e <;> rw [e] <;> rfl) fun f cdv A outer s H E rs Δ r Δ' hr hp => by
    obtain ⟨rfl, rfl, cs, g, i, hi, e, rfl⟩ := hp
    have key : ∀ {r1 : SV}, (∀ (s1 : Shared) (H1 : Hp) (C1 : Addr) (cl1 : List (Str × Addr)) (fp1 : List Addr) (c : Str × List Str) (Γ : Gm) (e1 e2 : Expr) (pos : Pos), True) → True := fun _ => trivial
    rcases e with rfl | rfl
    · refine jss_ret ((je_flt (l := cs) (ra := fun c => D K (eC c)) (p := fun c => decide (c.1 ∈ g)) (f := fun c => .str (markAt c.2 i)) (js := [3, 4]) (own := [("_law_one", 3), ("_law_row", 4)]) rfl sc_lk.nd (ji_Te (je_var 0)) (blkOk_by (N := N_lk) (sc := defScope (top 75)) (by decide +kernel))
        (fun _ _ _ _ _ => pg_tup rfl (pgs_cons (pg_name (i := 3) sc_lk.nd rfl (Or.inl rfl)) (pgs_cons (pg_name (i := 4) sc_lk.nd rfl (Or.inl rfl)) pgs_nil))) (fun c _ => tg_pair (d1 := .str c.1) (d2 := eS c.2) 3 4) (by decide) (fun c _ _ _ _ _ _ => ?_) fun c hc _ _ _ _ _ _ => ?_).leq (by unfold marksOf; rw [List.map_map]; rfl)) fnO_rt
      · exact jb_inT enc_str (hu65 hr) (je_var 3) (je_var 1)
      · exact je_ixT (je_var 4) (je_var 2) (atI_map (mark_at (hi c hc)))
    · refine jss_ret ((je_flt (l := cs) (ra := fun c => D K (eC c)) (p := fun c => decide (c.1 ∈ g)) (f := fun c => .str (markAt c.2 i)) (js := [3, 4]) (own := [("_law_one", 3), ("_law_row", 4)]) rfl sc_lk.nd (ji_Te (je_var 0)) (blkOk_by (N := N_lk) (sc := defScope (top 75)) (by decide +kernel))
        (fun _ _ _ _ _ => pg_tup rfl (pgs_cons (pg_name (i := 3) sc_lk.nd rfl (Or.inl rfl)) (pgs_cons (pg_name (i := 4) sc_lk.nd rfl (Or.inl rfl)) pgs_nil))) (fun c _ => tg_pair (d1 := .str c.1) (d2 := eS c.2) 3 4) (by decide) (fun c _ _ _ _ _ _ => ?_) fun c hc _ _ _ _ _ _ => ?_).leq (by unfold marksOf; rw [List.map_map]; rfl)) fnO_rt
      · exact jb_inL enc_str (hu65 hr) (je_var 3) (je_var 1)
      · exact je_ixT (je_var 4) (je_var 2) (atI_map (mark_at (hi c hc)))
end
end Bl
set_option Elab.async false
set_option linter.all false
set_option maxRecDepth 100000
set_option maxHeartbeats 2000000
/-! enumerate of a tuple; zip(.., strict=True) of two of one length: at the library's level -/
namespace PySem
open Sem (wp)
open AutoSeq1 (wpAny_loadPart')
set_option maxHeartbeats 1000000 in
theorem bm_meets_enum {v : Value} {o : Obj} {H : Heap → Prop} (B : Begins v o H) :
    Meets (Builtin.«enumerate.__new__» ⟨[.type "enumerate", v], []⟩) (fun _ R s => H s.heap ∧
      R (.ok (.ret (.ref (s.heap.push o).objs.size))) { s with heap := (s.heap.push o).push { cls := .type "enumerate", data := .fields #[.none, .bool false, .ref s.heap.objs.size, rawInt 0, .none, .none] } }) :=
  .of_wp fun prog w A R s h => by
    obtain ⟨hp, g, d, tk, os⟩ := s; obtain ⟨h1, h⟩ := h
    have hsub := sub_enumerate
    have q1 : ∀ {A' : Around} {E : Value → Shared → Prop} {Q : Value → Shared → Prop}, Q (.ref hp.objs.size) ⟨hp.push o, g, d, tk, os⟩ → wpAny (model prog w) A' (pyIter v) Q E ⟨hp, g, d, tk, os⟩ :=
      fun q => B.iter prog w _ _ ⟨hp, g, d, tk, os⟩ _ h1 q
    wp_walk using q1
    refine wpAny_stack_any fun st => wpAny_pure ?_
    split
    · rename_i c _ _ _ _ _
      cases (c == Value.type "enumerate")
      · wp_walk using q1
        exact ⟨_, rfl, h⟩
      · wp_walk using q1
        exact ⟨_, rfl, h⟩
    · wp_walk using q1
      exact ⟨_, rfl, h⟩
abbrev BmZip (h : Heap) (z TI TO : Addr) (f0 : Value) : Prop := h.get? z = some { cls := .type "zip", dict := none, data := .fields #[f0, .bool false, .bool true, .ref TI, .ref TO], slots := #[] }
section
variable {prog : Program} {w : World} {A : Around} {E : Value → Shared → Prop} {s : Shared}
theorem bm_enum {v : Value} {o : Obj} {H : Heap → Prop} {Q : Value → Shared → Prop} (B : Begins v o H) (h1 : H s.heap)
    (h : ∀ h', IsEnum h' (s.heap.objs.size + 1) s.heap.objs.size 0 .none → h'.get? s.heap.objs.size = some o → h'.objs.size = s.heap.objs.size + 2 →
      (∀ b o, s.heap.get? b = some o → h'.get? b = some o) → Q (.ref (s.heap.objs.size + 1)) { s with heap := h' }) :
    wpAny (model prog w) A (call (.type "enumerate") [v]) Q E s := by
  refine callType_new F.called_enumerate (by decide) (F.typeCall_enumerate_1 _) (F.newCall_enumerate_1 _) (fun obj => F.args_object_init_2 obj _) F.entry_enumerate_new (bm_meets_enum B) ⟨h1, ?_⟩
  have hz : (s.heap.push o).objs.size = s.heap.objs.size + 1 := Heap.size_push ..
  show _ ∧ _
  rw [hz]
  have he : IsEnum ((s.heap.push o).push { cls := .type "enumerate", data := .fields #[.none, .bool false, .ref s.heap.objs.size, rawInt 0, .none, .none] }) (s.heap.objs.size + 1) s.heap.objs.size 0 .none := by
    have := Heap.get?_push_size (s.heap.push o) (o := { cls := .type "enumerate", data := .fields #[.none, .bool false, .ref s.heap.objs.size, rawInt 0, .none, .none] }) rfl
    rw [hz] at this; exact this
  exact ⟨⟨_, he, rfl⟩, h _ he (Heap.get?_push_of_some _ (Heap.get?_push_size _ B.free)) (by rw [Heap.size_push, hz]) fun b o x => Heap.get?_push_of_some _ (Heap.get?_push_of_some _ x)⟩

theorem bm_nextOrEnd_item {it : Addr} {fp : List Addr} {n i : Nat} {P : Nat → Value → Prop} {St : Nat → Heap → Prop} {Q : Option Value → Shared → Prop} (D : Draws prog w A it fp n P St) (hi : i < n) (st : St i s.heap)
    (hQ : ∀ x h' tk, P i x → St (i + 1) h' → Heap.SameBut it s.heap h' → Q (some x) { s with heap := h', toks := tk }) : wpAny (model prog w) A (Builtin.SmallTypes.nextOrEnd (.ref it)) Q E s := by
  unfold Builtin.SmallTypes.nextOrEnd
  exact wpAny_bind (wpAny_attempt (D.item i s _ _ hi st fun x h' tk p st' sb => wpAny_pure (hQ x h' tk p st' sb)))
theorem bm_nextOrEnd_end {it : Addr} {fp : List Addr} {n : Nat} {P : Nat → Value → Prop} {St : Nat → Heap → Prop} {Q : Option Value → Shared → Prop} (D : Draws prog w A it fp n P St) (st : St n s.heap)
    (hQ : ∀ h', Heap.ExtBut it s.heap h' → Q none { s with heap := h' }) : wpAny (model prog w) A (Builtin.SmallTypes.nextOrEnd (.ref it)) Q E s := by
  unfold Builtin.SmallTypes.nextOrEnd
  refine wpAny_bind (wpAny_attempt (D.done s _ _ st fun h' e hx he => ?_))
  obtain ⟨o, ho, hc⟩ := he
  refine wpAny_bind (wpAny_isInstance (T := "StopIteration") (b := true) ⟨o, ho, hc⟩ isSubtype_stop ?_)
  exact wpAny_pure (hQ h' hx)
variable {z TI TO i1 i2 : Addr} {fp1 fp2 : List Addr} {n i : Nat} {P1 P2 : Nat → Value → Prop} {St1 St2 : Nat → Heap → Prop} {a1 a2 : Value}
theorem bm_zip_item {Q : Value → Shared → Prop} (S : ZipSep2 z TI TO i1 i2 fp1 fp2) (D1 : Draws prog w A i1 fp1 n P1 St1) (D2 : Draws prog w A i2 fp2 n P2 St2)
    (hz : BmZip s.heap z TI TO .none) (hTI : IsTupOf2 s.heap TI (.ref i1) (.ref i2)) (hTO : IsTupOf2 s.heap TO a1 a2) (st1 : St1 i s.heap) (st2 : St2 i s.heap) (hlt : i < n)
    (hQ : ∀ x1 x2 h' tk, P1 i x1 → P2 i x2 → BmZip h' z TI TO (rawInt s.heap.objs.size) → IsTupOf2 h' TO x1 x2 → St1 (i + 1) h' → St2 (i + 1) h' → IsTupOf2 h' s.heap.objs.size x1 x2 → h'.objs.size = s.heap.objs.size + 1 →
      (∀ c o, c ≠ z → c ≠ TO → c ≠ i1 → c ≠ i2 → s.heap.get? c = some o → h'.get? c = some o) → Q (.ref s.heap.objs.size) { s with heap := h', toks := tk }) :
    wpAny (model prog w) A (Builtin.«zip.__next__» ⟨[.ref z], []⟩) (fun fin s' => ∃ v, fin = .done (.ret v) ∧ Q v s') E s := by
  obtain ⟨hp, g, d, tk0, os⟩ := s
  have zi1 : z ≠ i1 := fun e => S.zf1 (by rw [e]; exact S.mem1)
  have zi2 : z ≠ i2 := fun e => S.zf2 (by rw [e]; exact S.mem2)
  have Ti1 : TO ≠ i1 := fun e => S.Tf1 (by rw [e]; exact S.mem1)
  have Ti2 : TO ≠ i2 := fun e => S.Tf2 (by rw [e]; exact S.mem2)
  show wpAny _ _ (field (.ref z) 2 >>= _) _ _ _
  refine wpAny_bind (wpAny_field hz rfl (x := .bool true) rfl ?_)
  show wpAny _ _ (field (.ref z) 3 >>= _) _ _ _
  refine wpAny_bind (wpAny_field hz rfl (x := .ref TI) rfl ?_)
  refine wpAny_bind (wpAny_seqItems hTI rfl ?_)
  show wpAny _ _ (Builtin.SmallTypes.ownedTupleIsFree (.ref z) >>= _) _ _ _
  refine wpAny_bind ?_
  unfold Builtin.SmallTypes.ownedTupleIsFree
  refine wpAny_bind (wpAny_field hz rfl (x := .none) rfl (wpAny_pure ?_))
  simp only [if_true]
  refine wpAny_bind (wpAny_rule ?_)
  refine wpAny_bind (wpAny_field hz rfl (x := .ref TO) rfl ?_)
  refine wpAny_bind (wpAny_setField_rec hz (by simp) fun g0 hz0 hs0 => ?_)
  replace hz0 : BmZip g0 z TI TO .ellipsis := hz0
  replace hs0 : Heap.SameBut z hp g0 := hs0
  refine wpAny_bind ?_
  simp only [List.zipIdx_cons, List.zipIdx_nil, List.forIn_cons, List.forIn_nil]
  refine wpAny_bind (wpAny_bind (wpAny_onRaise ?_))
  show wpAny _ _ (Builtin.SmallTypes.nextOrEnd (.ref i1)) _ _ ⟨g0, g, d, tk0, os⟩
  refine bm_nextOrEnd_item D1 hlt (D1.over st1 hs0 S.zf1) fun x1 p1 tk1 hx1 sn1 hp1 => ?_
  replace hp1 : Heap.SameBut i1 g0 p1 := hp1
  have hU1 : IsTupOf2 p1 TO a1 a2 := hp1.extBut _ _ Ti1 (hs0.extBut _ _ S.TOz hTO)
  refine wpAny_bind (wpAny_seqItems (s := ⟨p1, g, d, tk1, os⟩) hU1 rfl ?_)
  refine wpAny_bind (updateSeq_IsTupOf2 (s := ⟨p1, g, d, tk1, os⟩) hU1 fun g1 hT1 hs1 => ?_)
  replace hT1 : IsTupOf2 g1 TO x1 a2 := hT1
  replace hs1 : Heap.SameBut TO p1 g1 := hs1
  refine wpAny_bind (wpAny_letGo (wpAny_pure ?_))
  refine wpAny_bind (wpAny_bind (wpAny_onRaise ?_))
  show wpAny _ _ (Builtin.SmallTypes.nextOrEnd (.ref i2)) _ _ ⟨g1, g, d, tk1, os⟩
  refine bm_nextOrEnd_item D2 hlt (D2.over (D2.over (D2.over st2 hs0 S.zf2) hp1 S.sep1_2) hs1 S.Tf2) fun x2 p2 tk2 hx2 sn2 hp2 => ?_
  replace hp2 : Heap.SameBut i2 g1 p2 := hp2
  have hU2 : IsTupOf2 p2 TO x1 a2 := hp2.extBut _ _ Ti2 hT1
  refine wpAny_bind (wpAny_seqItems (s := ⟨p2, g, d, tk2, os⟩) hU2 rfl ?_)
  refine wpAny_bind (updateSeq_IsTupOf2 (s := ⟨p2, g, d, tk2, os⟩) hU2 fun g2 hT2 hs2 => ?_)
  replace hT2 : IsTupOf2 g2 TO x1 x2 := hT2
  replace hs2 : Heap.SameBut TO p2 g2 := hs2
  refine wpAny_bind (wpAny_letGo (wpAny_pure (wpAny_pure ?_)))
  refine wpAny_bind (wpAny_seqItems (s := ⟨g2, g, d, tk2, os⟩) hT2 rfl ?_)
  refine wpAny_bind (wpAny_newTuple ?_)
  have hsz : g2.objs.size = hp.objs.size := by rw [hs2.1, hp2.1, hs1.1, hp1.1, hs0.1]
  have hz2 : BmZip g2 z TI TO .ellipsis := hs2.extBut _ _ S.TOz.symm (hp2.extBut _ _ zi2 (hs1.extBut _ _ S.TOz.symm (hp1.extBut _ _ zi1 hz0)))
  have hk : ∀ c o, c ≠ z → c ≠ TO → c ≠ i1 → c ≠ i2 → hp.get? c = some o → g2.get? c = some o := fun c o c1 c2 c3 c4 e =>
    hs2.extBut _ _ c2 (hp2.extBut _ _ c4 (hs1.extBut _ _ c2 (hp1.extBut _ _ c3 (hs0.extBut _ _ c1 e))))
  have s1 : St1 (i + 1) g2 := D1.over (D1.over (D1.over sn1 hs1 S.Tf1) hp2 S.sep2_1) hs2 S.Tf1
  have s2 : St2 (i + 1) g2 := D2.over sn2 hs2 S.Tf2
  have hzlt : z < g2.objs.size := Heap.lt_size hz2
  show wpAny _ _ (Builtin.SmallTypes.ownedTupleHandOut (.ref z) (.ref g2.objs.size) >>= _) _ _ _
  refine wpAny_bind ?_
  unfold Builtin.SmallTypes.ownedTupleHandOut
  have hz3 : BmZip (g2.push { cls := .type "tuple", data := .seq #[x1, x2] }) z TI TO .ellipsis := Heap.get?_push_of_some _ hz2
  have t1 : St1 (i + 1) (g2.push { cls := .type "tuple", data := .seq #[x1, x2] }) := D1.frame _ _ _ s1 fun b _ o e => Heap.get?_push_of_some _ e
  have t2 : St2 (i + 1) (g2.push { cls := .type "tuple", data := .seq #[x1, x2] }) := D2.frame _ _ _ s2 fun b _ o e => Heap.get?_push_of_some _ e
  refine wpAny_bind (wpAny_setField_rec hz3 (by simp) fun g4 hz4 hs4 => ?_)
  replace hz4 : BmZip g4 z TI TO (rawInt g2.objs.size) := hz4
  replace hs4 : Heap.SameBut z (g2.push { cls := .type "tuple", data := .seq #[x1, x2] }) g4 := hs4
  refine wpAny_setField_rec hz4 (by simp) fun g5 hz5 hs5 => ?_
  replace hz5 : BmZip g5 z TI TO (rawInt g2.objs.size) := hz5
  replace hs5 : Heap.SameBut z g4 g5 := hs5
  have up : ∀ c o, c ≠ z → g2.get? c = some o → g5.get? c = some o := fun c o c1 e => hs5.extBut _ _ c1 (hs4.extBut _ _ c1 (Heap.get?_push_of_some _ e))
  have hT5 : IsTupOf2 g5 g2.objs.size x1 x2 := hs5.extBut _ _ (Nat.ne_of_gt hzlt) (hs4.extBut _ _ (Nat.ne_of_gt hzlt) (Heap.get?_push_size _ rfl))
  have hz5s : g5.objs.size = g2.objs.size + 1 := by rw [hs5.1, hs4.1, Heap.size_push]
  rw [hsz] at hz5 hT5 hz5s
  refine wpAny_pure ⟨_, rfl, ?_⟩
  show Q (.ref g2.objs.size) _
  rw [hsz]
  exact hQ x1 x2 g5 tk2 hx1 hx2 hz5 (up _ _ S.TOz hT2) (D1.over (D1.over t1 hs4 S.zf1) hs5 S.zf1) (D2.over (D2.over t2 hs4 S.zf2) hs5 S.zf2) hT5 hz5s fun c o c1 c2 c3 c4 e => up c o c1 (hk c o c1 c2 c3 c4 e)
theorem bm_zip_end {Q : Fin → Shared → Prop} (hh : A.handled = none) (S : ZipSep2 z TI TO i1 i2 fp1 fp2) (D1 : Draws prog w A i1 fp1 n P1 St1) (D2 : Draws prog w A i2 fp2 n P2 St2)
    (hz : BmZip s.heap z TI TO .none) (hTI : IsTupOf2 s.heap TI (.ref i1) (.ref i2)) (hTO : IsTupOf2 s.heap TO a1 a2) (st1 : St1 n s.heap) (st2 : St2 n s.heap)
    (hE : ∀ h' e, (∀ c o, c ≠ z → c ≠ TO → c ≠ i1 → c ≠ i2 → s.heap.get? c = some o → h'.get? c = some o) → (∃ o, h'.get? e = some o ∧ o.cls = .type "StopIteration") → E (.ref e) { s with heap := h' }) :
    wpAny (model prog w) A (Builtin.«zip.__next__» ⟨[.ref z], []⟩) Q E s := by
  have zi1 : z ≠ i1 := fun e => S.zf1 (by rw [e]; exact S.mem1)
  have zi2 : z ≠ i2 := fun e => S.zf2 (by rw [e]; exact S.mem2)
  show wpAny _ _ (field (.ref z) 2 >>= _) _ _ _
  refine wpAny_bind (wpAny_field hz rfl (x := .bool true) rfl ?_)
  show wpAny _ _ (field (.ref z) 3 >>= _) _ _ _
  refine wpAny_bind (wpAny_field hz rfl (x := .ref TI) rfl ?_)
  refine wpAny_bind (wpAny_seqItems hTI rfl ?_)
  show wpAny _ _ (Builtin.SmallTypes.ownedTupleIsFree (.ref z) >>= _) _ _ _
  refine wpAny_bind ?_
  unfold Builtin.SmallTypes.ownedTupleIsFree
  refine wpAny_bind (wpAny_field hz rfl (x := .none) rfl (wpAny_pure ?_))
  simp only [if_true]
  refine wpAny_bind (wpAny_rule ?_)
  refine wpAny_bind (wpAny_field hz rfl (x := .ref TO) rfl ?_)
  refine wpAny_bind (wpAny_setField_rec hz (by simp) fun g0 hz0 hs0 => ?_)
  replace hz0 : BmZip g0 z TI TO .ellipsis := hz0
  refine wpAny_bind ?_
  simp only [List.zipIdx_cons, List.zipIdx_nil, List.forIn_cons, List.forIn_nil]
  refine wpAny_bind (wpAny_bind (wpAny_onRaise ?_))
  show wpAny _ _ (Builtin.SmallTypes.nextOrEnd (.ref i1)) _ _ _
  refine bm_nextOrEnd_end D1 (D1.over st1 hs0 S.zf1) fun g1 hs1 => ?_
  have hz1 : BmZip g1 z TI TO .ellipsis := hs1 _ _ zi1 hz0
  refine wpAny_bind (wpAny_setField_rec hz1 (by simp) fun g2 hz2 hs2 => ?_)
  have st2' : St2 n g2 := D2.over (D2.frame _ _ _ (D2.over st2 hs0 S.zf2) fun b hb o e => hs1 b o (fun q => S.sep1_2 (by rw [← q]; exact hb)) e) hs2 S.zf2
  refine wpAny_bind ?_
  show wpAny _ _ (forIn [((Value.ref i2 : Value), (1 : Nat))] PUnit.unit _ >>= _) _ _ _
  refine wpAny_bind ?_
  rw [List.forIn_cons]
  refine wpAny_bind ?_
  show wpAny _ _ (Builtin.SmallTypes.nextOrEnd (.ref i2) >>= _) _ _ _
  refine wpAny_bind (bm_nextOrEnd_end D2 st2' fun g3 hs3 => ?_)
  simp only [Option.isSome_none, Bool.false_eq_true, if_false]
  refine wpAny_pure ?_
  simp only [List.forIn_nil]
  refine wpAny_pure ?_
  refine wpAny_bind (wpAny_rule ?_)
  show wpAny _ _ (newExc (.type "StopIteration") [] >>= _) _ _ _
  refine wpAny_bind ?_
  simp only [newExc, newTuple]
  refine wpAny_bind (wpAny_newObj_type ?_ (by size_fits))
  refine wpAny_bind (m := firstArgMember _ _) (wpAny_of_eq (a := Value.none) (by first | rfl | (simp only [firstArgMember]; rfl)) ?_)
  refine wpAny_newObj_type ?_ (by size_fits)
  simp only [raiseNew]
  refine wpAny_bind (wpAny_handled ?_)
  first | rw [show A.in1.handled = none from hh] | rw [hh]
  first
    | refine wpAny_throw ?_
    | refine wpAny_bind (wpAny_pure (wpAny_throw ?_))
  refine hE _ _ (fun c o c1 c2 c3 c4 e => Heap.get?_push_of_some _ (Heap.get?_push_of_some _ (hs3 _ _ c4 (hs2.extBut _ _ c1 (hs1 _ _ c3 (hs0.extBut _ _ c1 e)))))) ⟨_, Heap.get?_push_size _ rfl, rfl⟩
end
end PySem
set_option Elab.async false
set_option linter.all false
set_option maxRecDepth 100000
set_option maxHeartbeats 2000000
namespace PySem
open Sem (wp)
open AutoSeq1 (wpAny_loadPart')
namespace F
theorem bm_typeCall_zip (a b c : Value) : checkTypeCall "zip" ⟨[a, b], [(Str.ofString "strict", c)]⟩ = pure () := by kernel_rfl
theorem bm_newCall_zip (a b c : Value) : checkBuiltinCall "zip.__new__" ⟨[.type "zip", a, b], [(Str.ofString "strict", c)]⟩ = pure () := by kernel_rfl
theorem bm_args_object_init (obj a b c : Value) : argsOk "object.__init__" ⟨[obj, a, b], [(Str.ofString "strict", c)]⟩ := by unfold argsOk; kernel_rfl
end F
abbrev bmZ2 (h : Heap) (o1 o2 : Obj) : Heap := (gzO2 h o1 o2).push { cls := .type "zip", data := .fields #[.none, .bool false, .bool true, .ref ((h.push o1).push o2).objs.size, .ref (gzT2 h o1 o2).objs.size] }
set_option maxHeartbeats 4000000 in
theorem bm_meets_zip {v1 v2 : Value} {o1 o2 : Obj} {H1 H2 : Heap → Prop} (B1 : Begins v1 o1 H1) (B2 : Begins v2 o2 H2) :
    Meets (Builtin.«zip.__new__» ⟨[.type "zip", v1, v2], [(Str.ofString "strict", .bool true)]⟩) (fun _ R s => (H1 s.heap ∧ H2 s.heap) ∧
      R (.ok (.ret (.ref (gzO2 s.heap o1 o2).objs.size))) { s with heap := bmZ2 s.heap o1 o2 }) :=
  .of_wp fun prog w A R s h => by
    obtain ⟨hp, g, d, tk, os⟩ := s; obtain ⟨⟨h1, h2⟩, h⟩ := h
    have hsub := sub_zip
    have q1 : ∀ {A' : Around} {E : Value → Shared → Prop} {Q : Value → Shared → Prop}, Q (.ref hp.objs.size) ⟨(hp.push o1), g, d, tk, os⟩ → wpAny (model prog w) A' (pyIter v1) Q E ⟨hp, g, d, tk, os⟩ :=
      fun q => B1.iter prog w _ _ ⟨hp, g, d, tk, os⟩ _ (B1.keeps _ _ h1 fun b o' e => e) q
    have q2 : ∀ {A' : Around} {E : Value → Shared → Prop} {Q : Value → Shared → Prop}, Q (.ref (hp.push o1).objs.size) ⟨((hp.push o1).push o2), g, d, tk, os⟩ → wpAny (model prog w) A' (pyIter v2) Q E ⟨(hp.push o1), g, d, tk, os⟩ :=
      fun q => B2.iter prog w _ _ ⟨(hp.push o1), g, d, tk, os⟩ _ (B2.keeps _ _ h2 fun b o' e => (Heap.get?_push_of_some _ e)) q
    have e1 : (Str.ofString "strict" == ("strict" : Str)) = true := by decide +kernel
    have e2 : (Str.ofString "strict" != ("strict" : Str)) = false := by decide +kernel
    wp_walk using q1, q2
    exact ⟨_, rfl, h⟩
section
variable {prog : Program} {w : World} {A : Around} {E : Value → Shared → Prop} {s : Shared}
theorem bm_zip {v1 v2 : Value} {o1 o2 : Obj} {H1 H2 : Heap → Prop} {Q : Value → Shared → Prop} (B1 : Begins v1 o1 H1) (B2 : Begins v2 o2 H2) (h1 : H1 s.heap) (h2 : H2 s.heap)
    (h : ∀ h', BmZip h' (s.heap.objs.size + 4) (s.heap.objs.size + 2) (s.heap.objs.size + 3) .none → IsTupOf2 h' (s.heap.objs.size + 2) (.ref s.heap.objs.size) (.ref (s.heap.objs.size + 1)) →
      IsTupOf2 h' (s.heap.objs.size + 3) .none .none → h'.get? s.heap.objs.size = some o1 → h'.get? (s.heap.objs.size + 1) = some o2 → h'.objs.size = s.heap.objs.size + 5 →
      (∀ c o, s.heap.get? c = some o → h'.get? c = some o) → Q (.ref (s.heap.objs.size + 4)) { s with heap := h' }) :
    wpAny (model prog w) A (call (.type "zip") [v1, v2] [(Str.ofString "strict", .bool true)]) Q E s := by
  refine callType_newKw F.called_zip (by decide) (F.bm_typeCall_zip _ _ _) (F.bm_newCall_zip _ _ _) (fun obj => F.bm_args_object_init obj _ _ _) F.entry_zip_new (bm_meets_zip B1 B2) ⟨⟨h1, h2⟩, ?_⟩
  have z1 : (s.heap.push o1).objs.size = s.heap.objs.size + 1 := by rw [Heap.size_push]
  have z2 : ((s.heap.push o1).push o2).objs.size = s.heap.objs.size + 2 := by rw [Heap.size_push, z1]
  have zT : (gzT2 s.heap o1 o2).objs.size = s.heap.objs.size + 3 := by rw [Heap.size_push, z2]
  have zO : (gzO2 s.heap o1 o2).objs.size = s.heap.objs.size + 4 := by rw [Heap.size_push, zT]
  have zZ : (bmZ2 s.heap o1 o2).objs.size = s.heap.objs.size + 5 := by rw [Heap.size_push, zO]
  have gZ : (bmZ2 s.heap o1 o2).get? (gzO2 s.heap o1 o2).objs.size = some { cls := .type "zip", data := .fields #[.none, .bool false, .bool true, .ref ((s.heap.push o1).push o2).objs.size, .ref (gzT2 s.heap o1 o2).objs.size] } := Heap.get?_push_size _ rfl
  have gO : (bmZ2 s.heap o1 o2).get? (gzT2 s.heap o1 o2).objs.size = some { cls := .type "tuple", data := .seq #[.none, .none] } := Heap.get?_push_of_some _ (Heap.get?_push_size _ rfl)
  have gT : (bmZ2 s.heap o1 o2).get? ((s.heap.push o1).push o2).objs.size = some { cls := .type "tuple", data := .seq #[.ref s.heap.objs.size, .ref (s.heap.push o1).objs.size] } := Heap.get?_push_of_some _ (Heap.get?_push_of_some _ (Heap.get?_push_size _ rfl))
  have g1 : (bmZ2 s.heap o1 o2).get? s.heap.objs.size = some o1 := Heap.get?_push_of_some _ (Heap.get?_push_of_some _ (Heap.get?_push_of_some _ (Heap.get?_push_of_some _ (Heap.get?_push_size _ B1.free))))
  have g2 : (bmZ2 s.heap o1 o2).get? (s.heap.push o1).objs.size = some o2 := Heap.get?_push_of_some _ (Heap.get?_push_of_some _ (Heap.get?_push_of_some _ (Heap.get?_push_size _ B2.free)))
  rw [zO, zT, z2] at gZ
  rw [zT] at gO
  rw [z2, z1] at gT
  rw [z1] at g2
  show _ ∧ _
  rw [zO]
  exact ⟨⟨_, gZ, rfl⟩, h _ gZ gT gO g1 g2 zZ fun c o e => Heap.get?_push_of_some _ (Heap.get?_push_of_some _ (Heap.get?_push_of_some _ (Heap.get?_push_of_some _ (Heap.get?_push_of_some _ e))))⟩
variable {z TI TO i1 i2 : Addr} {fp1 fp2 : List Addr} {n i : Nat} {P1 P2 : Nat → Value → Prop} {St1 St2 : Nat → Heap → Prop} {a1 a2 : Value}
theorem bm_next_zip {Q : Option Value → Shared → Prop} (S : ZipSep2 z TI TO i1 i2 fp1 fp2) (D1 : Draws prog w A.in1 i1 fp1 n P1 St1) (D2 : Draws prog w A.in1 i2 fp2 n P2 St2)
    (hz : BmZip s.heap z TI TO .none) (hTI : IsTupOf2 s.heap TI (.ref i1) (.ref i2)) (hTO : IsTupOf2 s.heap TO a1 a2) (st1 : St1 i s.heap) (st2 : St2 i s.heap) (hlt : i < n)
    (hQ : ∀ x1 x2 h' tk, P1 i x1 → P2 i x2 → BmZip h' z TI TO (rawInt s.heap.objs.size) → IsTupOf2 h' TO x1 x2 → St1 (i + 1) h' → St2 (i + 1) h' → IsTupOf2 h' s.heap.objs.size x1 x2 → h'.objs.size = s.heap.objs.size + 1 →
      (∀ c o, c ≠ z → c ≠ TO → c ≠ i1 → c ≠ i2 → s.heap.get? c = some o → h'.get? c = some o) → Q (some (.ref s.heap.objs.size)) { s with heap := h', toks := tk }) :
    wpAny (model prog w) A (pyNext (.ref z)) Q E s := by
  have hT : s.TypeIs (.ref z) "zip" := ⟨_, hz, rfl⟩
  unfold pyNext
  exact wpAny_bind (wpAny_attempt (wpAny_callSpecial?_slot (name := Str.ofString "__next__") hT F.slot_zip_next
    (wpAny_call_entry F.slot_zip_next hT F.entry_zip_next
      (bm_zip_item S D1 D2 hz hTI hTO st1 st2 hlt fun x1 x2 h' tk b1 b2 b3 b4 b5 b6 b7 b8 b9 => wpAny_pure (hQ x1 x2 h' tk b1 b2 b3 b4 b5 b6 b7 b8 b9)) (F.args_zip_next_1 _))))
theorem bm_next_zip_end {Q : Option Value → Shared → Prop} (hh : A.handled = none) (S : ZipSep2 z TI TO i1 i2 fp1 fp2) (D1 : Draws prog w A.in1 i1 fp1 n P1 St1) (D2 : Draws prog w A.in1 i2 fp2 n P2 St2)
    (hz : BmZip s.heap z TI TO .none) (hTI : IsTupOf2 s.heap TI (.ref i1) (.ref i2)) (hTO : IsTupOf2 s.heap TO a1 a2) (st1 : St1 n s.heap) (st2 : St2 n s.heap)
    (hQ : ∀ h', (∀ c o, c ≠ z → c ≠ TO → c ≠ i1 → c ≠ i2 → s.heap.get? c = some o → h'.get? c = some o) → Q none { s with heap := h' }) : wpAny (model prog w) A (pyNext (.ref z)) Q E s := by
  have hT : s.TypeIs (.ref z) "zip" := ⟨_, hz, rfl⟩
  unfold pyNext
  refine wpAny_bind (wpAny_attempt (wpAny_callSpecial?_slot (name := Str.ofString "__next__") hT F.slot_zip_next
    (wpAny_call_entry F.slot_zip_next hT F.entry_zip_next (bm_zip_end hh S D1 D2 hz hTI hTO st1 st2 fun h' e hk he => ?_) (F.args_zip_next_1 _))))
  obtain ⟨o, ho, hc⟩ := he
  refine wpAny_bind (wpAny_isInstance (T := "StopIteration") (b := true) ⟨o, ho, hc⟩ isSubtype_stop ?_)
  exact wpAny_pure (hQ _ hk)
theorem bm_letGo_zip {elts : List Expr} {x1} {pos : Pos} {T : Addr} {Q : Unit → Shared → Prop} (hz : BmZip s.heap z TI TO (rawInt T))
    (hQ : ∀ h', BmZip h' z TI TO .none → Heap.SameBut z s.heap h' → Q () { s with heap := h' }) :
    wpAny (model prog w) A (letOwnedTupleGo (.Tuple elts x1 pos) (.ref z) (.ref T)) Q E s := by
  unfold letOwnedTupleGo
  refine wpAny_bind (wpAny_load hz ?_)
  show wpAny _ _ (if (["enumerate", "zip", "dict_itemiterator", "dict_reverseitemiterator", "odict_iterator", "itertools.zip_longest", "itertools.pairwise"].contains "zip" &&
      (#[rawInt T, .bool false, .bool true, .ref TI, .ref TO] : Array Value)[0]? == some (rawInt T)) = true then _ else _) Q E s
  rw [if_pos (by simp)]
  refine wpAny_bind (wpAny_rule ?_)
  show wpAny _ _ (setField (.ref z) 0 .none) Q E s
  exact wpAny_setField_rec hz (by simp) fun h' hz' hs' => hQ h' hz' hs'
theorem bm_iter_zip {f0 : Value} {Q : Value → Shared → Prop} (hz : BmZip s.heap z TI TO f0) (h : Q (.ref z) s) : wpAny (model prog w) A (pyIter (.ref z)) Q E s := by
  have hT : s.TypeIs (.ref z) "zip" := ⟨_, hz, rfl⟩
  refine wpAny_pyIter_slot hT F.slot_zip_iter (wpAny_call_entry F.slot_zip_iter hT F.entry_zip_iter ?_ (F.args_zip_iter_1 _))
  show wpAny _ _ (ret (.ref z)) _ _ s
  exact wpAny_pure ⟨_, rfl, "zip", _, hT, F.slot_zip_next.lookup, h⟩
end
end PySem
set_option Elab.async false
set_option linter.all false
set_option maxRecDepth 100000
set_option maxHeartbeats 2000000
namespace Bl
open PySem PySem.Spec PyProof.Rows L2
/-! lists (false) and tuples (true) alike -/
def SeqIt : Bool → Heap → Addr → Addr → Nat → Prop
  | true, h, it, l, i => h.IsTupleIter it l i
  | false, h, it, l, i => h.IsListIter it l i
def SeqOb : Bool → Heap → Addr → Array Value → Prop
  | true, h, l, its => h.IsTuple l its
  | false, h, l, its => h.IsList l its
def SqB : Bool → PySem.W.Frag → Hp → Addr → List V → Prop
  | true, K, H, a, xs => SqT K H a xs
  | false, K, H, a, xs => SqL K H a xs
def itObj : Bool → Addr → Obj
  | true, l => { cls := .type "tuple_iterator", data := .fields #[.ref l, .int 0 0] }
  | false, l => { cls := .type "list_iterator", data := .fields #[.ref l, .int 0 0] }
theorem SeqIt.at {b : Bool} {h h' : Heap} {it l : Addr} {i : Nat} (x : SeqIt b h it l i) (k : ∀ o, h.get? it = some o → h'.get? it = some o) : SeqIt b h' it l i := by
  cases b with
  | true => exact Heap.IsTupleIter.at x k
  | false => exact Heap.IsListIter.at x k
theorem SeqIt.ob {b : Bool} {h : Heap} {it l : Addr} {i : Nat} (x : SeqIt b h it l i) : ∃ o, h.get? it = some o ∧ ∀ v, o.data ≠ .cell v := by
  cases b with
  | true => obtain ⟨o, e, _, d⟩ := x; exact ⟨o, e, fun v q => by rw [d] at q; cases q⟩
  | false => obtain ⟨o, e, _, d⟩ := x; exact ⟨o, e, fun v q => by rw [d] at q; cases q⟩
theorem SeqIt.new {b : Bool} {h : Heap} {it l : Addr} (e : h.get? it = some (itObj b l)) : SeqIt b h it l 0 := by
  cases b with
  | true => exact ⟨_, e, rfl, rfl⟩
  | false => exact ⟨_, e, rfl, rfl⟩
theorem SeqOb.lt {b : Bool} {h : Heap} {l : Addr} {its : Array Value} (x : SeqOb b h l its) : l < h.objs.size := by
  cases b with
  | true => obtain ⟨o, e, _⟩ := x; exact Heap.lt_size e
  | false => obtain ⟨o, e, _⟩ := x; exact Heap.lt_size e
theorem seq_draws {prog : Program} {w : World} {A : Around} (hh : A.handled = none) (b : Bool) (it l : Addr) (hne : l ≠ it) (items : Array Value) : Draws prog w A it [it, l] items.size (fun i v => items[i]? = some v) (fun i h => SeqIt b h it l i ∧ SeqOb b h l items) := by
  cases b with
  | true => exact Draws.tuple hh it l hne items
  | false => exact Draws.list hh it l hne items
theorem seq_begins (b : Bool) (l : Addr) (items : Array Value) : Begins (.ref l) (itObj b l) fun h => SeqOb b h l items := by
  cases b with
  | true => exact begins_tuple l items
  | false => exact begins_list l items
section
variable {X : Cx} {pins : List (Addr × Obj)} {σ : L2.St} {H : Hp} {s : Shared}
theorem inv_seq (I : Inv X pins σ H s) {b : Bool} {a : Addr} {xs : List V} (h : SqB b X.K H a xs) : ∃ its : List Value, Vals xs its ∧ SeqOb b s.heap a its.toArray ∧ xs.length ≤ sizeLine := by
  cases b with
  | true => obtain ⟨its, r, p, z⟩ := I.tuple h; exact ⟨its, r, p, z⟩
  | false => obtain ⟨its, r, p, z⟩ := I.list h; exact ⟨its, r, p.isList, z⟩
theorem inv_inj (I : Inv X pins σ H s) {b : Bool} {a : Addr} {xs ys : List V} (h : SqB b X.K H a xs) (h' : SqB b X.K H a ys) : xs = ys := by
  cases b with
  | true => exact I.tuple_inj h h'
  | false => exact I.list_inj h h'
end
/-! ### enumerate -/
def IteB (b : Bool) (K : PySem.W.Frag) (a : Addr) : It :=
  ⟨fun i H => ∃ (xs : List V) (x : V), SqB b K H a xs ∧ xs[i]? = some x, fun i H v H' => ∃ T x, v = .ref T ∧ H T = none ∧ H' = upd H T (.tup [.int (i : Nat), x]) ∧ ∀ xs, SqB b K H a xs → xs[i]? = some x, fun i H => ∃ xs : List V, SqB b K H a xs ∧ xs.length = i⟩
theorem turn_enumB {P : Program} {w : World} {K : PySem.W.Frag} {elts : List Expr} {kk : Nat} {tpos : Pos} (b : Bool) (a e it : Addr) :
    Turn P w K (.Tuple elts kk tpos) (IteB b K a) [e, it] e (fun i h => (∃ old, IsEnum h e it ((i : Nat) : Int) old) ∧ SeqIt b h it a i ∧ e ≠ it ∧ a ≠ it ∧ a ≠ e) where
  mem := by simp
  obj := fun i h st c hc => by
    obtain ⟨⟨old, he⟩, hi, _⟩ := st
    have e' : c = e ∨ c = it := by simpa using hc
    rcases e' with z | z
    · rw [z]; exact ⟨_, he, fun v q => nomatch q⟩
    · rw [z]; exact hi.ob
  keep := fun i h h' st k => let ⟨⟨old, he⟩, hi, hne⟩ := st; ⟨⟨old, k e (by simp) _ he⟩, hi.at fun o q => k it (by simp) o q, hne⟩
  item := by
    intro X hP hw hK hc i pins s σ H E I hf st hg
    subst hP hw hK
    obtain ⟨⟨old, he⟩, hit, hne, hai, hae⟩ := st
    obtain ⟨xs, x, hq, hx⟩ := hg
    obtain ⟨its, rv, p, hz⟩ := inv_seq I hq
    obtain ⟨u, hu, ru⟩ := rv.get hx
    have hel : e < s.heap.objs.size := Heap.lt_size he
    have hil : it < s.heap.objs.size := by obtain ⟨_, q, _⟩ := hit.ob; exact Heap.lt_size q
    have D := seq_draws (prog := X.prog) (w := X.w) (A := X.A.in1) (I.ok.hd hc) b it a hai its.toArray
    have hlt : i < its.toArray.size := by
      have := (List.getElem?_eq_some_iff.mp hu).1
      simpa using this
    refine wpAny_pyNext_enum_itemC (c := ((i : Nat) : Int)) D he ⟨hit, p⟩ hlt hne (by simp [hne, Ne.symm hae]) fun y h' tk hP ho hst hT hsz hk => ?_
    have ey : y = u := by
      have : its.toArray[i]? = some u := by simpa using hu
      rw [this] at hP; exact (Option.some.inj hP).symm
    subst ey
    refine ⟨_, rfl, wpAny_letOwnedTupleGo_enum (s := { s with heap := h', toks := tk + 1 }) ho fun h'' he' sb => ?_⟩
    have hT2 : h''.get? s.heap.objs.size = some { cls := .type "tuple", data := .seq #[.int i tk, y] } := (sb.2 _ (Nat.ne_of_gt hel)).trans hT
    have new : ObjOk X.prog X.w (upd H s.heap.objs.size (.tup [.int (i : Nat), x])) h'' s.heap.objs.size (.tup [.int (i : Nat), x]) :=
      ⟨by show 2 ≤ sizeLine; decide, [.int i tk, y], .cons ⟨_, rfl⟩ (.cons ru .nil), ⟨_, hT2, rfl, _, rfl⟩⟩
    have I1 : Inv X pins σ (upd H s.heap.objs.size (.tup [.int (i : Nat), x])) { s with heap := h'', toks := tk + 1 } :=
      I.turnedNew (ch := [e, it]) (fun c o hb q => (sb.2 c (fun z => hb (by simp [z]))).trans (hk c o (fun z => hb (by simp [z])) (fun z => hb (by simp [z])) q)) hf (Nat.le_refl _) new
    refine ⟨.ref s.heap.objs.size, _, I1, rfl, ⟨_, x, rfl, I.hok.fresh (Nat.le_refl _), rfl, fun ys hy => by rw [inv_inj I hy hq]; exact hx⟩, ⟨⟨y, ?_⟩, hst.1.at fun o q => (sb.2 it (Ne.symm hne)).trans q, hne, hai, hae⟩, fun c hc => ?_⟩
    · have e1 : ((i + 1 : Nat) : Int) = (i : Int) + 1 := by omega
      rw [e1]; exact he'
    · have hb' : c < s.heap.objs.size := by
        have e' : c = e ∨ c = it := by simpa using hc
        rcases e' with z | z
        · rw [z]; exact hel
        · rw [z]; exact hil
      rw [upd_ne (Nat.ne_of_lt hb')]
      exact (hf c hc).1
  done := by
    intro X hP hw hK hc i pins s σ H E I hf st hg
    subst hP hw hK
    obtain ⟨⟨old, he⟩, hit, hne, hai, hae⟩ := st
    obtain ⟨xs, hq, hx⟩ := hg
    obtain ⟨its, rv, p, hz⟩ := inv_seq I hq
    obtain ⟨f0, f1, f2, f3, f4, f5⟩ := hf it (by simp)
    have hl := rv.length
    have D := seq_draws (prog := X.prog) (w := X.w) (A := X.A.in1) (I.ok.hd hc) b it a hai its.toArray
    have hsz : i = its.toArray.size := by simp; omega
    have st2 : SeqIt b s.heap it a its.toArray.size := by rw [← hsz]; exact hit
    exact wpAny_pyNext_enum_endD D he ⟨st2, p⟩ fun h' eb => ⟨rfl, I.turned (t' := s.toks) (fun c o hb q => eb c o hb q) f0 f1 f3 f4 f5⟩
  self := fun A i s Q E st h => let ⟨⟨_, he⟩, _⟩ := st; wpAny_pyIter_enum he h
def iEnumB (b : Bool) (K : PySem.W.Frag) (ta : TA) : TI := fun σ H R => ta σ H fun vs H1 => ∃ a xs, vs = [.ref a] ∧ SqB b K H1 a xs ∧ R (IteB b K a) H1
theorem pi_enumB {X : Cx} (b : Bool) {e : Expr} {ta : TA} {p pos tpos : Pos} {elts : List Expr} {kk : Nat} (hg : Gl X "enumerate") (hm : X.mg "enumerate" = none) (ha : PA X [e] ta) (hs : starEach [e] X.env = [(false, eval e X.env)] := by rfl) :
    PI X (.Tuple elts kk tpos) (.Call (.Name "enumerate" p) [e] [] pos) (iEnumB b X.K ta) := by
  refine ⟨fun pins s σ H R I h => ?_⟩
  refine Call_ (ld_blt I hg hm boot_enumerate (PyProof.Rows.callWith_type1 (thn (ha.run pos pins s σ H _ I h) fun us s1 ⟨vs, H1, I1, r1, q1⟩ => ?_) hs rfl))
  obtain ⟨a, xs, ex, hq, q⟩ := q1
  subst ex
  cases r1 with
  | cons r rr =>
    cases rr
    cases r
    obtain ⟨its, rv, p', hz⟩ := inv_seq I1 hq
    refine bm_enum (seq_begins b a its.toArray) p' fun h' he hit hsz hk => wpAny_pyIter_enum he ?_
    have I2 : Inv X pins σ H1 { s1 with heap := h' } := I1.kept (t' := s1.toks) hk
    have hal := p'.lt
    refine ⟨s1.heap.objs.size + 1, [s1.heap.objs.size + 1, s1.heap.objs.size], _, _, H1, rfl, I2, turn_enumB b a (s1.heap.objs.size + 1) s1.heap.objs.size, ⟨⟨.none, he⟩, SeqIt.new hit, Nat.succ_ne_self _, Nat.ne_of_lt hal, Nat.ne_of_lt (Nat.lt_succ_of_lt hal)⟩, fun c hc => ?_, q⟩
    have e' : c = s1.heap.objs.size + 1 ∨ c = s1.heap.objs.size := by simpa using hc
    have hle : s1.heap.objs.size ≤ c := by
      rcases e' with z | z
      · rw [z]; exact Nat.le_add_right _ _
      · rw [z]; exact Nat.le_refl _
    exact I1.fpOk hle (I1.hok.fresh hle)
/-! ### zip, strict -/
def IzB (b1 b2 : Bool) (K : PySem.W.Frag) (a b : Addr) : It :=
  ⟨fun i H => ∃ (xs ys : List V) (x y : V), SqB b1 K H a xs ∧ SqB b2 K H b ys ∧ xs.length = ys.length ∧ xs[i]? = some x ∧ ys[i]? = some y,
    fun i H v H' => ∃ T x y, v = .ref T ∧ H T = none ∧ H' = upd H T (.tup [x, y]) ∧ (∀ xs, SqB b1 K H a xs → xs[i]? = some x) ∧ ∀ ys, SqB b2 K H b ys → ys[i]? = some y,
    fun i H => ∃ xs ys : List V, SqB b1 K H a xs ∧ SqB b2 K H b ys ∧ xs.length = ys.length ∧ xs.length = i⟩
theorem turn_zipB {P : Program} {w : World} {K : PySem.W.Frag} {elts : List Expr} {kk : Nat} {tpos : Pos} (b1 b2 : Bool) {a b z TI TO i1 i2 : Addr} (S : ZipSep2 z TI TO i1 i2 [i1, a] [i2, b]) :
    Turn P w K (.Tuple elts kk tpos) (IzB b1 b2 K a b) [z, TI, TO, i1, i2] z (fun i h => BmZip h z TI TO .none ∧ IsTupOf2 h TI (.ref i1) (.ref i2) ∧ (∃ x y, IsTupOf2 h TO x y) ∧ SeqIt b1 h i1 a i ∧ SeqIt b2 h i2 b i) where
  mem := by simp
  obj := fun i h st c hc => by
    obtain ⟨hz, hTI, ⟨x, y, hTO⟩, h1, h2⟩ := st
    have e' : c = z ∨ c = TI ∨ c = TO ∨ c = i1 ∨ c = i2 := by simpa using hc
    rcases e' with q | q | q | q | q
    · rw [q]; exact ⟨_, hz, fun v q => nomatch q⟩
    · rw [q]; exact ⟨_, hTI, fun v q => nomatch q⟩
    · rw [q]; exact ⟨_, hTO, fun v q => nomatch q⟩
    · rw [q]; exact h1.ob
    · rw [q]; exact h2.ob
  keep := fun i h h' st k => by
    obtain ⟨hz, hTI, ⟨x, y, hTO⟩, h1, h2⟩ := st
    exact ⟨k z (by simp) _ hz, k TI (by simp) _ hTI, ⟨x, y, k TO (by simp) _ hTO⟩, h1.at fun o q => k i1 (by simp) o q, h2.at fun o q => k i2 (by simp) o q⟩
  item := by
    intro X hP hw hK hc i pins s σ H E I hf st hg
    subst hP hw hK
    obtain ⟨hz, hTI, ⟨x0, y0, hTO⟩, h1, h2⟩ := st
    obtain ⟨xs, ys, x, y, hqx, hqy, hlen, hx, hy⟩ := hg
    obtain ⟨its, rv, p, _⟩ := inv_seq I hqx
    obtain ⟨its2, rv2, p2, _⟩ := inv_seq I hqy
    obtain ⟨u, hu, ru⟩ := rv.get hx
    obtain ⟨u2, hu2, ru2⟩ := rv2.get hy
    have hzl : z < s.heap.objs.size := Heap.lt_size hz
    have ne1 : a ≠ i1 := fun e => by
      obtain ⟨o, e1, _⟩ := h1.ob
      cases b1 with
      | true => obtain ⟨o2, q1, q2, _⟩ := p; obtain ⟨o3, w1, w2, _⟩ := h1; rw [e, w1] at q1; cases q1; rw [w2] at q2; exact absurd q2 (by decide)
      | false => obtain ⟨o2, q1, q2, _⟩ := p; obtain ⟨o3, w1, w2, _⟩ := h1; rw [e, w1] at q1; cases q1; rw [w2] at q2; exact absurd q2 (by decide)
    have ne2 : b ≠ i2 := fun e => by
      cases b2 with
      | true => obtain ⟨o2, q1, q2, _⟩ := p2; obtain ⟨o3, w1, w2, _⟩ := h2; rw [e, w1] at q1; cases q1; rw [w2] at q2; exact absurd q2 (by decide)
      | false => obtain ⟨o2, q1, q2, _⟩ := p2; obtain ⟨o3, w1, w2, _⟩ := h2; rw [e, w1] at q1; cases q1; rw [w2] at q2; exact absurd q2 (by decide)
    have hl1 := rv.length
    have hl2 := rv2.length
    have D1 := seq_draws (prog := X.prog) (w := X.w) (A := X.A.in1) (I.ok.hd hc) b1 i1 a ne1 its.toArray
    have hse : its2.toArray.size = its.toArray.size := by simp; omega
    have D2 := seq_draws (prog := X.prog) (w := X.w) (A := X.A.in1) (I.ok.hd hc) b2 i2 b ne2 its2.toArray
    rw [hse] at D2
    have hlt : i < its.toArray.size := by
      have := (List.getElem?_eq_some_iff.mp hu).1
      simpa using this
    refine bm_next_zip S D1 D2 hz hTI hTO ⟨h1, p⟩ ⟨h2, p2⟩ hlt fun v1 v2 h' tk e1 e2 z' TO' s1' s2' hT hsz hk => ?_
    have ev1 : v1 = u := by
      have : its.toArray[i]? = some u := by simpa using hu
      rw [this] at e1; exact (Option.some.inj e1).symm
    have ev2 : v2 = u2 := by
      have : its2.toArray[i]? = some u2 := by simpa using hu2
      rw [this] at e2; exact (Option.some.inj e2).symm
    subst ev1 ev2
    refine ⟨_, rfl, bm_letGo_zip (s := { s with heap := h', toks := tk }) z' fun h'' z'' sb => ?_⟩
    have hT2 : h''.get? s.heap.objs.size = some { cls := .type "tuple", data := .seq #[v1, v2] } := (sb.2 _ (Nat.ne_of_gt hzl)).trans hT
    have new : ObjOk X.prog X.w (upd H s.heap.objs.size (.tup [x, y])) h'' s.heap.objs.size (.tup [x, y]) :=
      ⟨by show 2 ≤ sizeLine; decide, [v1, v2], .cons ru (.cons ru2 .nil), ⟨_, hT2, rfl, _, rfl⟩⟩
    have I1 : Inv X pins σ (upd H s.heap.objs.size (.tup [x, y])) { s with heap := h'', toks := tk } :=
      I.turnedNew (t' := tk) (ch := [z, TI, TO, i1, i2]) (fun c o hb q => (sb.2 c (fun q' => hb (by simp [q']))).trans (hk c o (fun q' => hb (by simp [q'])) (fun q' => hb (by simp [q'])) (fun q' => hb (by simp [q'])) (fun q' => hb (by simp [q'])) q)) hf (Nat.le_refl _) new
    have zi1 : z ≠ i1 := fun e => S.zf1 (by rw [e]; exact S.mem1)
    have zi2 : z ≠ i2 := fun e => S.zf2 (by rw [e]; exact S.mem2)
    refine ⟨.ref s.heap.objs.size, _, I1, rfl, ⟨_, x, y, rfl, I.hok.fresh (Nat.le_refl _), rfl, fun l hl => by rw [inv_inj I hl hqx]; exact hx, fun l hl => by rw [inv_inj I hl hqy]; exact hy⟩, ⟨z'', ?_, ⟨v1, v2, ?_⟩, ?_, ?_⟩, fun c hcm => ?_⟩
    · exact (sb.2 _ S.TIz).trans (hk _ _ S.TIz S.TITO S.TIi1 S.TIi2 hTI)
    · exact (sb.2 _ S.TOz).trans TO'
    · exact s1'.1.at fun o q => (sb.2 _ (Ne.symm zi1)).trans q
    · exact s2'.1.at fun o q => (sb.2 _ (Ne.symm zi2)).trans q
    · have hlt : c < s.heap.objs.size := by
        have e' : c = z ∨ c = TI ∨ c = TO ∨ c = i1 ∨ c = i2 := by simpa using hcm
        rcases e' with q | q | q | q | q
        · rw [q]; exact hzl
        · rw [q]; exact Heap.lt_size hTI
        · rw [q]; exact Heap.lt_size hTO
        · rw [q]; obtain ⟨_, e1, _⟩ := h1.ob; exact Heap.lt_size e1
        · rw [q]; obtain ⟨_, e2, _⟩ := h2.ob; exact Heap.lt_size e2
      rw [upd_ne (Nat.ne_of_lt hlt)]
      exact (hf c hcm).1
  done := by
    intro X hP hw hK hc i pins s σ H E I hf st hg
    subst hP hw hK
    obtain ⟨hz, hTI, ⟨x0, y0, hTO⟩, h1, h2⟩ := st
    obtain ⟨xs, ys, hqx, hqy, hlen, hend⟩ := hg
    obtain ⟨its, rv, p, _⟩ := inv_seq I hqx
    obtain ⟨its2, rv2, p2, _⟩ := inv_seq I hqy
    have ne1 : a ≠ i1 := fun e => by
      cases b1 with
      | true => obtain ⟨o2, q1, q2, _⟩ := p; obtain ⟨o3, w1, w2, _⟩ := h1; rw [e, w1] at q1; cases q1; rw [w2] at q2; exact absurd q2 (by decide)
      | false => obtain ⟨o2, q1, q2, _⟩ := p; obtain ⟨o3, w1, w2, _⟩ := h1; rw [e, w1] at q1; cases q1; rw [w2] at q2; exact absurd q2 (by decide)
    have ne2 : b ≠ i2 := fun e => by
      cases b2 with
      | true => obtain ⟨o2, q1, q2, _⟩ := p2; obtain ⟨o3, w1, w2, _⟩ := h2; rw [e, w1] at q1; cases q1; rw [w2] at q2; exact absurd q2 (by decide)
      | false => obtain ⟨o2, q1, q2, _⟩ := p2; obtain ⟨o3, w1, w2, _⟩ := h2; rw [e, w1] at q1; cases q1; rw [w2] at q2; exact absurd q2 (by decide)
    have l1 := rv.length
    have l2 := rv2.length
    have D1 := seq_draws (prog := X.prog) (w := X.w) (A := X.A.in1) (I.ok.hd hc) b1 i1 a ne1 its.toArray
    have hse : its2.toArray.size = its.toArray.size := by simp; omega
    have D2 := seq_draws (prog := X.prog) (w := X.w) (A := X.A.in1) (I.ok.hd hc) b2 i2 b ne2 its2.toArray
    rw [hse] at D2
    have hsz : i = its.toArray.size := by simp; omega
    have q1 : SeqIt b1 s.heap i1 a its.toArray.size := by rw [← hsz]; exact h1
    have q2 : SeqIt b2 s.heap i2 b its.toArray.size := by rw [← hsz]; exact h2
    exact bm_next_zip_end (I.ok.hd hc) S D1 D2 hz hTI hTO ⟨q1, p⟩ ⟨q2, p2⟩ fun h' hk => ⟨rfl, I.turnedL (t' := s.toks) (ch := [z, TI, TO, i1, i2]) (fun c o hb q =>
      hk c o (fun q' => hb (by simp [q'])) (fun q' => hb (by simp [q'])) (fun q' => hb (by simp [q'])) (fun q' => hb (by simp [q'])) q) hf⟩
  self := fun A i s Q E st h => bm_iter_zip st.1 h
end Bl
set_option Elab.async false
set_option linter.all false
set_option maxRecDepth 100000
set_option maxHeartbeats 2000000
namespace Bl
open PySem PySem.Spec PyProof.Rows L2
section
variable {M : Model} {A : Around} {E : Value → Shared → Prop} {s : Shared} {env : Env}
theorem cw_type_kw {pos : Pos} {T : String} {first : List Value} {args : List (Bool × Sem Value)} {keywords : List (Option Str × Sem Value)} {Q : Value → Shared → Prop}
    (hplain : args.any (·.1) = false) (hkw : keywords.any (·.1.isNone) = false)
    (h : wpAny M A (evalArgs (.type T) true args keywords) (fun a s₁ => wpAny M A (call (.type T) (first ++ a.pos) a.kw) Q E s₁) E s) :
    wpAny M A (callWith pos (.type T) first args keywords) Q E s := by
  unfold callWith
  refine wpAny_bind (wpAny_holding (wpAny_mono h (fun a s₁ h₁ => wpAny_bind (wpAny_standAt ?_)) fun _ _ x => x))
  simp only [hplain, hkw, Bool.or_false]
  refine wpAny_bind (wpAny_pure ?_)
  exact wpAny_bind (wpAny_mono h₁ (fun r s₂ hr => wpAny_bind (wpAny_holding (wpAny_point (wpAny_pure hr)))) fun _ _ x => x)
theorem cw_type_kw1 {pos : Pos} {T : String} {e : Expr} {rest : List Expr} {kws : List Keyword} {Q : Value → Shared → Prop}
    (h : wpAny M A (spliced (backTo pos (starEach (e :: rest) env))) (fun vs s₁ => wpAny M A (evalAll ((backToKw pos (keywordEach kws env)).map (·.2)))
      (fun kvs s₂ => wpAny M A (call (.type T) vs (((backToKw pos (keywordEach kws env)).filterMap (·.1)).zip kvs)) Q E s₂) E s₁) E s)
    (he : backTo pos (starEach (e :: rest) env) = (false, eval e env) :: backTo pos (starEach rest env) := by rfl)
    (hplain : (backTo pos (starEach (e :: rest) env)).any (·.1) = false := by rfl)
    (hall : (backToKw pos (keywordEach kws env)).all (·.1.isSome) = true := by rfl)
    (hkw : (backToKw pos (keywordEach kws env)).any (·.1.isNone) = false := by rfl) :
    wpAny M A (callWith pos (.type T) [] (backTo pos (starEach (e :: rest) env)) (backToKw pos (keywordEach kws env))) Q E s := by
  refine cw_type_kw hplain hkw ?_
  rw [he] at h ⊢
  exact evalArgs_kwB hall h
end
def iZipB (b1 b2 : Bool) (K : PySem.W.Frag) (ta : TA) : TI := fun σ H R => ta σ H fun vs H1 => ∃ a b xs ys, vs = [.ref a, .ref b] ∧ SqB b1 K H1 a xs ∧ SqB b2 K H1 b ys ∧ R (IzB b1 b2 K a b) H1
theorem pi_zipB {X : Cx} (b1 b2 : Bool) {e e2 : Expr} {ta : TA} {p pos tpos kp cp : Pos} {j : Nat} {elts : List Expr} {kk : Nat} (hg : Gl X "zip") (hm : X.mg "zip" = none) (ha : PA X [e, e2] ta)
    (he : backTo pos (starEach [e, e2] X.env) = (false, eval e X.env) :: backTo pos (starEach [e2] X.env) := by rfl) (hpl : (backTo pos (starEach [e, e2] X.env)).any (·.1) = false := by rfl) :
    PI X (.Tuple elts kk tpos) (.Call (.Name "zip" p) [e, e2] [⟨some "strict", .Constant (.bool true) j cp, kp⟩] pos) (iZipB b1 b2 X.K ta) := by
  refine ⟨fun pins s σ H R I h => ?_⟩
  refine wpAny_Call_Name_kw (ld_blt I hg hm PyProof.Rows.boot_zip ?_)
  refine cw_type_kw1 (thn (ha.run pos pins s σ H _ I h) fun us s1 ⟨vs, H1, I1, r1, q1⟩ => ?_) he hpl rfl rfl
  obtain ⟨a, b, xs, ys, ex, hqx, hqy, q⟩ := q1
  subst ex
  cases r1 with
  | cons r rr =>
    cases rr with
    | cons r' rr =>
      cases rr
      cases r
      cases r'
      refine kws_cons (PyProof.Rows.Constant_bool (kws_nil ?_))
      obtain ⟨its, rv, p1, _⟩ := inv_seq I1 hqx
      obtain ⟨its2, rv2, p2, _⟩ := inv_seq I1 hqy
      show wpAny _ _ (call (.type "zip") [.ref a, .ref b] [(Str.ofString "strict", .bool true)]) _ _ _
      refine bm_zip (seq_begins b1 a its.toArray) (seq_begins b2 b its2.toArray) p1 p2 fun h' hz hTI hTO h1 h2 hsz hk => bm_iter_zip hz ?_
      have I2 : Inv X pins σ H1 { s1 with heap := h' } := I1.kept (t' := s1.toks) hk
      refine ⟨s1.heap.objs.size + 4, [s1.heap.objs.size + 4, s1.heap.objs.size + 2, s1.heap.objs.size + 3, s1.heap.objs.size, s1.heap.objs.size + 1], _, _, H1, rfl, I2, turn_zipB b1 b2 (zip_sep2 (N := s1.heap.objs.size) (fp1 := [a]) (fp2 := [b]) (fun c hc => ?_) (fun c hc => ?_)), ⟨hz, hTI, ⟨_, _, hTO⟩, SeqIt.new h1, SeqIt.new h2⟩, fun c hcm => ?_, q⟩
      · obtain rfl : c = a := by simpa using hc
        exact p1.lt
      · obtain rfl : c = b := by simpa using hc
        exact p2.lt
      have e' : c = s1.heap.objs.size + 4 ∨ c = s1.heap.objs.size + 2 ∨ c = s1.heap.objs.size + 3 ∨ c = s1.heap.objs.size ∨ c = s1.heap.objs.size + 1 := by simpa using hcm
      have hle : s1.heap.objs.size ≤ c := by
        rcases e' with z | z | z | z | z
        · rw [z]; exact Nat.le_add_right _ _
        · rw [z]; exact Nat.le_add_right _ _
        · rw [z]; exact Nat.le_add_right _ _
        · rw [z]; exact Nat.le_refl _
        · rw [z]; exact Nat.le_add_right _ _
      exact I1.fpOk hle (I1.hok.fresh hle)
/-! ### as judgements -/
/-- a list or a tuple, told by a flag -/
def SQ (b : Bool) (K : PySem.W.Frag) (ds : List PyData) : SV := if b then D K (.tuple ds) else L K ds
theorem sq_open {b : Bool} {K : PySem.W.Frag} {ds : List PyData} {v : V} {G : Hp} (h : (SQ b K ds).P v G) : ∃ a xs, v = .ref a ∧ (∀ G', Same G G' → SqB b K G' a xs) ∧ DpAll K G xs ds ∧ AllOk ds := by
  cases b with
  | true =>
    obtain ⟨a, xs, e, s, h, k⟩ := d_tup (show (D K (.tuple ds)).P v G from h)
    exact ⟨a, xs, e, fun G' e => sqt_same e s, h, k⟩
  | false =>
    obtain ⟨a, xs, e, s, h, k⟩ := (show (L K ds).P v G from h)
    exact ⟨a, xs, e, fun G' e => SqL.of (e _ _ s), h, k⟩
section
variable {X : Cx} {e a b c : Expr} {es : List Expr} {Γ Γ' : Gm} {Δ Δ1 Δ2 Δ3 Δ' : Cs} {pos p tpos kp cp : Pos} {tg iter elt : Expr} {ds ds1 ds2 : List PyData} {elts : List Expr} {kk j : Nat}
theorem je_szSQ {bb : Bool} (h : JE X Δ Γ e (SQ bb X.K ds) Δ') : JX X Δ Γ e (fun r Δ2 => ds.length ≤ sizeLine ∧ r = SQ bb X.K ds ∧ Δ2 = Δ') := by
  cases bb with
  | true => exact JE.xT h
  | false => exact JE.xL h
theorem wk_enum {K : PySem.W.Frag} {bb : Bool} {a : Addr} {xs : List V} {G0 : Hp} (h : ∀ G', Same G0 G' → SqB bb K G' a xs) (hd : DpAll K G0 xs ds) (ok : AllOk ds) : Wk (IteB bb K a) G0 (ds.zipIdx.map fun q => D K (.tuple [.int (q.2 : Int), q.1])) := by
  have hl := dps_len hd
  refine ⟨fun i G H s1 s2 hi => ?_, fun i G H s1 s2 hi => ?_, fun i G H x H' r s1 s2 hr y => ?_⟩
  · rw [List.length_map, List.length_zipIdx, ← hl] at hi
    exact ⟨xs, xs[i], h H (s1.trans s2), by simp [hi]⟩
  · rw [List.length_map, List.length_zipIdx, ← hl] at hi
    exact ⟨xs, h H (s1.trans s2), hi.symm⟩
  · obtain ⟨T, v, rfl, hT, rfl, hx⟩ := y
    have hx := hx xs (h H (s1.trans s2))
    obtain ⟨d, hd1, hd2⟩ := dps_get' hd hx
    rw [List.getElem?_map, List.getElem?_zipIdx, hd1] at hr
    simp at hr
    subst hr
    exact ⟨_, Up.new s2 hT, new_tup (none_of_sub s2 hT) (.cons (.int _) (.cons (dp_same s1 hd2) .nil)) (allok_cons ok_int (allok_cons (ok d (List.mem_of_getElem? hd1)) allok_nil))⟩
/-- enumerate(e) -/
theorem ji_enum {bb : Bool} (hm : X.mg "enumerate" = none) (h : JE X Δ Γ e (SQ bb X.K ds) Δ') (hg : Gl X "enumerate" := by rfl) (hs : starEach [e] X.env = [(false, eval e X.env)] := by rfl) :
    JI X (.Tuple elts kk tpos) Δ Γ (.Call (.Name "enumerate" p) [e] [] pos) (ds.zipIdx.map fun q => D X.K (.tuple [.int (q.2 : Int), q.1])) Δ' := by
  have ha : PA X [e] _ := pa_cons (je_szSQ h).use pa_nil hs
  exact ji_of (pi_enumB bb hg hm ha hs) fun σ G H R hh sl q => ⟨G, hh, sl, fun v G1 H1 Δ2 r ⟨z, e1, e2⟩ t pv => by
    subst e1 e2
    obtain ⟨a, xs, rfl, s, hd, ok⟩ := sq_open pv
    exact ⟨a, xs, rfl, s H1 t.hs.sub, q _ G1 H1 t (wk_enum s hd ok) (by rw [List.length_map, List.length_zipIdx]; exact z)⟩⟩
theorem wk_zip {K : PySem.W.Frag} {b1 b2 : Bool} {a b : Addr} {xs ys : List V} {G0 : Hp} (h1 : ∀ G', Same G0 G' → SqB b1 K G' a xs) (h2 : ∀ G', Same G0 G' → SqB b2 K G' b ys) (hd1 : DpAll K G0 xs ds1) (hd2 : DpAll K G0 ys ds2) (ok1 : AllOk ds1) (ok2 : AllOk ds2) (hlen : ds1.length = ds2.length) :
    Wk (IzB b1 b2 K a b) G0 ((ds1.zip ds2).map fun q => D K (.tuple [q.1, q.2])) := by
  have l1 := dps_len hd1
  have l2 := dps_len hd2
  refine ⟨fun i G H s1 s2 hi => ?_, fun i G H s1 s2 hi => ?_, fun i G H x H' r s1 s2 hr y => ?_⟩
  · rw [List.length_map, List.length_zip] at hi
    have i1 : i < xs.length := by omega
    have i2 : i < ys.length := by omega
    exact ⟨xs, ys, xs[i], ys[i], h1 H (s1.trans s2), h2 H (s1.trans s2), by omega, by simp [i1], by simp [i2]⟩
  · rw [List.length_map, List.length_zip] at hi
    exact ⟨xs, ys, h1 H (s1.trans s2), h2 H (s1.trans s2), by omega, by omega⟩
  · obtain ⟨T, v, u, rfl, hT, rfl, hx, hy⟩ := y
    have hx := hx xs (h1 H (s1.trans s2))
    have hy := hy ys (h2 H (s1.trans s2))
    obtain ⟨d, e1, e2⟩ := dps_get' hd1 hx
    obtain ⟨d', e3, e4⟩ := dps_get' hd2 hy
    have hz : (ds1.zip ds2)[i]? = some (d, d') := by rw [List.getElem?_zip_eq_some]; exact ⟨e1, e3⟩
    rw [List.getElem?_map, hz] at hr
    cases hr
    exact ⟨_, Up.new s2 hT, new_tup (none_of_sub s2 hT) (.cons (dp_same s1 e2) (.cons (dp_same s1 e4) .nil)) (allok_cons (ok1 d (List.mem_of_getElem? e1)) (allok_cons (ok2 d' (List.mem_of_getElem? e3)) allok_nil))⟩
/-- zip(a, b, strict=True) -/
theorem ji_zip {b1 b2 : Bool} (hm : X.mg "zip" = none) (ha : JE X Δ Γ a (SQ b1 X.K ds1) Δ1) (hb : JE X Δ1 Γ b (SQ b2 X.K ds2) Δ2) (hlen : ds1.length = ds2.length) (hg : Gl X "zip" := by rfl) (hs : starEach [a, b] X.env = (false, eval a X.env) :: starEach [b] X.env := by rfl) (hs2 : starEach [b] X.env = (false, eval b X.env) :: starEach [] X.env := by rfl)
    (he : backTo pos (starEach [a, b] X.env) = (false, eval a X.env) :: backTo pos (starEach [b] X.env) := by rfl) (hpl : (backTo pos (starEach [a, b] X.env)).any (·.1) = false := by rfl) :
    JI X (.Tuple elts kk tpos) Δ Γ (.Call (.Name "zip" p) [a, b] [⟨some "strict", .Constant (.bool true) j cp, kp⟩] pos) ((ds1.zip ds2).map fun q => D X.K (.tuple [q.1, q.2])) Δ2 := by
  have hP : PA X [a, b] _ := pa_cons (je_szSQ ha).use (pa_cons (je_szSQ hb).use pa_nil hs2) hs
  refine ji_of (pi_zipB b1 b2 hg hm hP he hpl) fun σ G H R hh sl q => ⟨G, hh, sl, fun v G1 H1 Δx r ⟨z1, e1, e2⟩ t1 p1 => ?_⟩
  subst e1 e2
  refine ⟨G1, t1.hs, sl.mono t1.up, fun u G2 H2 Δy r ⟨z2, e1, e2⟩ t2 p2 => ?_⟩
  subst e1 e2
  obtain ⟨a', xs, rfl, s1, d1, k1⟩ := sq_open ((SQ b1 X.K ds1).mono t2.up p1)
  obtain ⟨b', ys, rfl, s2, d2, k2⟩ := sq_open p2
  exact ⟨a', b', xs, ys, rfl, s1 H2 t2.hs.sub, s2 H2 t2.hs.sub, q _ G2 H2 (t1.trans t2) (wk_zip s1 s2 d1 d2 k1 k2 hlen) (by rw [List.length_map, List.length_zip]; omega)⟩
end
end Bl
set_option Elab.async false
set_option linter.all false
set_option maxRecDepth 100000
set_option maxHeartbeats 2000000
namespace Bl
open PySem PySem.Spec PyProof.Rows L2
section
variable {X : Cx} {e a b c : Expr} {es : List Expr} {Γ Γ' : Gm} {Δ Δ1 Δ2 Δ3 Δ' : Cs} {pos p tpos kp cp : Pos} {tg iter elt : Expr} {ds ds1 ds2 : List PyData} {elts : List Expr} {kk j : Nat}
theorem sign_ok {z : Str} {c : Nat} (h : PyData.strOk z = true) (hc : c ∈ z.cps.toList) : PyData.strOk ⟨#[c]⟩ = true := by
  unfold PyData.strOk at h ⊢
  simp only [Array.all_eq_true'] at h
  simp
  exact of_decide_eq_true (h c (by simpa using hc))
theorem wk_str {K : PySem.W.Frag} {z : Str} {G0 : Hp} (hz : PyData.strOk z = true) : Wk (Its z) G0 (z.cps.toList.map fun c => D K (.str ⟨#[c]⟩)) := by
  refine ⟨fun i G H s1 s2 hi => ?_, fun i G H s1 s2 hi => ?_, fun i G H x H' r s1 s2 hr y => ?_⟩
  · rw [List.length_map, Array.length_toList] at hi; exact hi
  · rw [List.length_map, Array.length_toList] at hi; exact Nat.le_of_eq hi.symm
  · obtain ⟨e, c, hc, rfl⟩ := y
    subst e
    rw [List.getElem?_map, Array.getElem?_toList, hc] at hr
    cases hr
    exact ⟨G, Up.refl s2, d_str (sign_ok hz (by simpa using Array.mem_of_getElem? hc))⟩
theorem ji_S {z : Str} (h : JE X Δ Γ e (D X.K (.str z)) Δ') (hl : z.length ≤ sizeLine) : JI X tg Δ Γ e (z.cps.toList.map fun c => D X.K (.str ⟨#[c]⟩)) Δ' :=
  ji_of (pi_str h.use) fun σ G H R hs sl q => ⟨G, hs, sl, fun v G1 H1 t p => by
    obtain ⟨p1, p2⟩ := p
    cases p1
    exact ⟨z, rfl, q _ G1 H1 t (wk_str (str_ok p2)) (by rw [List.length_map, Array.length_toList]; exact hl)⟩⟩
/-- a <= b <= c of numbers -/
theorem jb_le2 {i k m : Int} (ha : JE X Δ Γ a (D X.K (.int i)) Δ) (hb : JE X Δ Γ b (D X.K (.int k)) Δ) (hc : JE X Δ Γ c (D X.K (.int m)) Δ) (hm : lastMarks [.LtE, .LtE] [b, c] = false := by with_unfolding_all rfl) : JB X Δ Γ (.Compare a [.LtE, .LtE] [b, c] pos) (dB (decide (i ≤ k) && decide (k ≤ m)) Δ) :=
  jb_of (pt_chain op_le op_le ha.use hb.use hc.use hm) fun σ G H Q hs sl q => ⟨G, hs, sl, fun x G1 H1 t1 p1 => ⟨G1, t1.hs, sl.mono t1.up, fun y G2 H2 t2 p2 => by
    cases p1.1
    cases p2.1
    refine ⟨i, k, rfl, rfl, decide (i ≤ k), rfl, ?_⟩
    by_cases h : i ≤ k
    · rw [if_pos (by simpa using h)]
      refine ⟨G2, t2.hs, sl.mono (t1.up.trans t2.up), fun z G3 H3 t3 p3 => ?_⟩
      cases p3.1
      exact ⟨k, m, rfl, rfl, _, rfl, q _ G3 Δ H3 ⟨by simp [h], rfl⟩ (t1.trans (t2.trans t3))⟩
    · rw [if_neg (by simpa using h)]
      exact ⟨false, rfl, q _ G2 Δ H2 ⟨by simp [h], rfl⟩ (t1.trans t2)⟩⟩⟩
theorem je_alt {d : PyData} {r : SV} (h : JE X Δ Γ e r Δ') (k : r = D X.K d) : JE X Δ Γ e (D X.K d) Δ' := by rw [← k]; exact h
end
def lowS : Str := "abcdefghijklmnopqrstuvwxyz"
def upS : Str := "ABCDEFGHIJKLMNOPQRSTUVWXYZ"
def wordOk (letters z : Str) : Prop := 1 ≤ z.length ∧ z.length ≤ 8 ∧ ∀ c ∈ z.cps.toList, c ∈ letters.cps.toList
section
variable {P : Program} {w : World} {K : PySem.W.Frag} {mg : Str → Option Value} {base : Heap}
theorem all_true {α : Type} {l : List α} {p : α → Bool} (h : ∀ x ∈ l, p x = true) : l.all p = true := List.all_eq_true.mpr h
/-! is_word -/
abbrev N_iw : List Str := ["thing", "letters", "letter"]
theorem sc_iw : FnScope N_iw ["thing", "letters"] (defScope (top 40)) := ⟨rfl, rfl, rfl, by decide +kernel, rfl, by decide +kernel, by decide +kernel⟩
def pm_iw (K : PySem.W.Frag) (rs : List SV) (r : SV) : Prop := ∃ z l : Str, wordOk l z ∧ rs = [D K (.str z), D K (.str l)] ∧ r = D K (.bool true)
theorem ok_iw (T : Tx K mg) : Ok P w K mg base 1 "is_word" ["thing", "letters"] (pure0 (pm_iw K)) :=
  ok_of T.d_is_word sc_iw (fun _ _ _ _ _ _ us hl => match us, hl with | [_, _], _ => rfl) (fun rs Δ r Δ' ⟨_, _, a, b, _, e, _⟩ => by rw [e]; rfl) fun f cdv A outer s H E rs Δ r Δ' hr hp => by
    obtain ⟨rfl, rfl, z, l, ⟨h1, h2, h3⟩, rfl, rfl⟩ := hp
    have hz : z.length ≤ sizeLine := by rw [line_eq]; omega
    refine jss_if0 (Δ1 := []) (bb := false) ?_ (fun h => by cases h) fun _ => ?_
    · refine ((jw_or (b1 := false) (b2 := false) ?_ fun _ => jw_or1 ?_).jb).eq rfl
      · exact (jb_not (jb_val (je_isiS T.f_isinstance T.f_str (je_var 0)))).eq rfl
      · refine (jb_not (jb_le2 je_int (je_lenS T.f_len (je_var 0) hz) (je_gint T.c_MOST_LETTERS))).eq ?_
        simp; omega
    · refine jss_ret ?_ fnO_rt
      refine (je_allF (l := z.cps.toList) (q := fun c => decide (c ∈ l.cps.toList)) rfl T.f_all ?_).eq (by rw [all_true fun c hc => by simpa using h3 c hc])
      refine je_map (js := [2]) (own := [("letter", 2)]) rfl sc_iw.nd (ji_S (je_var 0) hz) (blkOk_by (N := N_iw) (sc := defScope (top 40)) (by decide +kernel)) (fun _ _ _ _ _ => pg_name (i := 2) sc_iw.nd rfl (Or.inl rfl)) (fun a _ => tg_name 2) (fun _ h => h) fun a _ _ _ _ _ _ => ?_
      exact je_sign (je_var 2) (je_var 1)
/-! is_name, is_mark -/
abbrev N_in : List Str := ["thing"]
theorem sc_in : FnScope N_in ["thing"] (defScope (top 54)) := ⟨rfl, rfl, rfl, by decide +kernel, rfl, by decide +kernel, by decide +kernel⟩
theorem sc_im : FnScope N_in ["thing"] (defScope (top 55)) := ⟨rfl, rfl, rfl, by decide +kernel, rfl, by decide +kernel, by decide +kernel⟩
def pm_wd (l : Str) (K : PySem.W.Frag) (rs : List SV) (r : SV) : Prop := ∃ z : Str, wordOk l z ∧ rs = [D K (.str z)] ∧ r = D K (.bool true)
theorem ok_in (T : Tx K mg) : Ok P w K mg base 2 "is_name" ["thing"] (pure0 (pm_wd lowS K)) :=
  ok_of T.d_is_name sc_in (fun _ _ _ _ _ _ us hl => match us, hl with | [_], _ => rfl) (fun rs Δ r Δ' ⟨_, _, a, _, e, _⟩ => by rw [e]; rfl) fun f cdv A outer s H E rs Δ r Δ' hr hp => by
    obtain ⟨rfl, rfl, z, h, rfl, rfl⟩ := hp
    exact jss_ret (je_callP (ok_iw T) hr (ja_cons (je_var 0) (ja_cons (je_gstr T.c_LOWER_CASE) ja_nil)) ⟨z, lowS, h, rfl, rfl⟩) fnO_rt
theorem ok_im (T : Tx K mg) : Ok P w K mg base 2 "is_mark" ["thing"] (pure0 (pm_wd upS K)) :=
  ok_of T.d_is_mark sc_im (fun _ _ _ _ _ _ us hl => match us, hl with | [_], _ => rfl) (fun rs Δ r Δ' ⟨_, _, a, _, e, _⟩ => by rw [e]; rfl) fun f cdv A outer s H E rs Δ r Δ' hr hp => by
    obtain ⟨rfl, rfl, z, h, rfl, rfl⟩ := hp
    exact jss_ret (je_callP (ok_iw T) hr (ja_cons (je_var 0) (ja_cons (je_gstr T.c_UPPER_CASE) ja_nil)) ⟨z, upS, h, rfl, rfl⟩) fnO_rt
/-! are_rising -/
abbrev N_ar : List Str := ["items", "lower", "upper"]
theorem sc_ar : FnScope N_ar ["items"] (defScope (top 41)) := ⟨rfl, rfl, rfl, by decide +kernel, rfl, by decide +kernel, by decide +kernel⟩
def pm_ar (K : PySem.W.Frag) (rs : List SV) (r : SV) : Prop := ∃ (bb : Bool) (l : List Str), BM.Asc sLt l ∧ rs = [SQ bb K (l.map .str)] ∧ r = D K (.bool true)
theorem cut_init {β : Type} {f : β → PyData} (l : List β) : cutD (l.map f) none (some (-1)) = l.dropLast.map f := by
  have e : HT.sIx (l.map f).length (l.map f).length (some (-1)) = l.length - 1 := by
    show (if (-1 : Int) < 0 then (-1 + ((l.map f).length : Int)).toNat else min (-1 : Int).toNat (l.map f).length) = _
    rw [if_pos (by decide), List.length_map]; omega
  unfold cutD
  rw [e]
  show ((l.map f).drop 0).take (l.length - 1 - 0) = _
  rw [List.drop_zero, Nat.sub_zero, List.dropLast_eq_take, List.map_take]
theorem cut_tail {β : Type} {f : β → PyData} (l : List β) : cutD (l.map f) (some 1) none = (l.drop 1).map f := by
  have e : HT.sIx (l.map f).length 0 (some 1) = min 1 l.length := by rw [List.length_map]; exact HT.sIx_nat l.length 0 1
  unfold cutD
  rw [e]
  show ((l.map f).drop (min 1 l.length)).take ((l.map f).length - min 1 l.length) = _
  rw [List.take_of_length_le (by rw [List.length_drop]; exact Nat.le_refl _), List.map_drop]
  cases l with
  | nil => simp
  | cons a l => simp
section
variable {X : Cx} {e a b c : Expr} {es : List Expr} {Γ Γ' : Gm} {Δ Δ1 Δ2 Δ3 Δ' : Cs} {pos p tpos kp cp : Pos} {tg iter elt : Expr} {ds ds1 ds2 : List PyData} {elts : List Expr} {kk j : Nat}
theorem je_slSQ {bb : Bool} {lo hi : Option Expr} {il ih : Option Int} {p2 : Pos} (ha : JE X Δ Γ a (SQ bb X.K ds) Δ1) (hl : JO X Δ1 Γ lo (fun j => j = il) Δ2) (hh : JO X Δ2 Γ hi (fun j => j = ih) Δ3) : JE X Δ Γ (.Subscript a (.Slice lo hi none p2) pos) (SQ bb X.K (cutD ds il ih)) Δ3 := by
  cases bb with
  | true => exact je_slT ha hl hh
  | false => exact je_slL ha hl hh
/-- zip(a, b, strict=True) of texts' lists -/
theorem ji_zipE {b1 b2 : Bool} {α β : Type} {la : List α} {lb : List β} {fa : α → PyData} {fb : β → PyData} (hm : X.mg "zip" = none) (ha : JE X Δ Γ a (SQ b1 X.K (la.map fa)) Δ1) (hb : JE X Δ1 Γ b (SQ b2 X.K (lb.map fb)) Δ2) (hlen : la.length = lb.length) (hg : Gl X "zip" := by rfl) (hs : starEach [a, b] X.env = (false, eval a X.env) :: starEach [b] X.env := by rfl) (hs2 : starEach [b] X.env = (false, eval b X.env) :: starEach [] X.env := by rfl)
    (he : backTo pos (starEach [a, b] X.env) = (false, eval a X.env) :: backTo pos (starEach [b] X.env) := by rfl) (hpl : (backTo pos (starEach [a, b] X.env)).any (·.1) = false := by rfl) :
    JI X (.Tuple elts kk tpos) Δ Γ (.Call (.Name "zip" p) [a, b] [⟨some "strict", .Constant (.bool true) j cp, kp⟩] pos) ((la.zip lb).map fun q => D X.K (.tuple [fa q.1, fb q.2])) Δ2 :=
  (ji_zip hm ha hb (by rw [List.length_map, List.length_map]; exact hlen) hg hs hs2 he hpl).eq (by rw [List.zip_map, List.map_map]; rfl)
end
theorem asc_pairs {l : List Str} (h : BM.Asc sLt l) : ∀ q ∈ l.dropLast.zip (l.drop 1), sLt q.1 q.2 = true := by
  induction l with
  | nil => intro q hq; simp at hq
  | cons a l ih =>
    cases l with
    | nil => intro q hq; simp at hq
    | cons b l =>
      intro q hq
      obtain ⟨ha, h2⟩ := List.pairwise_cons.mp h
      have hq : q ∈ (a, b) :: ((b :: l).dropLast.zip ((b :: l).drop 1)) := by simpa using hq
      rcases List.mem_cons.mp hq with e | m
      · rw [e]; exact ha b (by simp)
      · exact ih h2 q m
theorem sq_true {K : PySem.W.Frag} {ds : List PyData} : SQ true K ds = D K (.tuple ds) := rfl
theorem ok_ar (T : Tx K mg) : Ok P w K mg base 1 "are_rising" ["items"] (pure0 (pm_ar K)) :=
  ok_of T.d_are_rising sc_ar (fun _ _ _ _ _ _ us hl => match us, hl with | [_], _ => rfl) (fun rs Δ r Δ' ⟨_, _, b, a, _, e, _⟩ => by rw [e]; rfl) fun f cdv A outer s H E rs Δ r Δ' hr hp => by
    obtain ⟨rfl, rfl, bb, l, hl, rfl, rfl⟩ := hp
    refine jss_ret ((je_allF (l := l.dropLast.zip (l.drop 1)) (q := fun q => sLt q.1 q.2) rfl T.f_all ?_).eq (by rw [all_true (asc_pairs hl)])) fnO_rt
    refine je_map (ra := fun q => D K (.tuple [.str q.1, .str q.2])) (js := [1, 2]) (own := [("lower", 1), ("upper", 2)]) rfl sc_ar.nd (ji_zipE (Δ1 := []) (la := l.dropLast) (lb := l.drop 1) (fa := PyData.str) (fb := PyData.str) (b1 := bb) (b2 := bb) T.f_zip ?_ ?_ (by simp)) (blkOk_by (N := N_ar) (sc := defScope (top 41)) (by decide +kernel))
      (fun _ _ _ _ _ => pg_tup rfl (pgs_cons (pg_name (i := 1) sc_ar.nd rfl (Or.inl rfl)) (pgs_cons (pg_name (i := 2) sc_ar.nd rfl (Or.inl rfl)) pgs_nil))) (fun q _ => tg_pair 1 2) (by decide) fun q _ _ _ _ _ _ => ?_
    · rw [← cut_init]; exact je_slSQ (je_var 0) jo_none (jo_some (je_neg je_int))
    · rw [← cut_tail]; exact je_slSQ (je_var 0) (jo_some je_int) jo_none
    · exact je_ltS (je_var 1) (je_var 2)

/-! fits_places -/
abbrev N_fp : List Str := ["places", "row", "mark", "place"]
theorem sc_fp : FnScope N_fp ["places", "row"] (defScope (top 42)) := ⟨rfl, rfl, rfl, by decide +kernel, rfl, by decide +kernel, by decide +kernel⟩
def rowFits (places : List (List Str)) (row : List Str) : Prop := row.length = places.length ∧ ∀ q ∈ row.zip places, q.1 ∈ q.2
def pm_fp (K : PySem.W.Frag) (rs : List SV) (r : SV) : Prop := ∃ (places : List (List Str)) (row : List Str), rowFits places row ∧ rs = [D K (eR places), D K (eS row)] ∧ r = D K (.bool true)
theorem ok_fp (T : Tx K mg) : Ok P w K mg base 1 "fits_places" ["places", "row"] (pure0 (pm_fp K)) :=
  ok_of T.d_fits_places sc_fp (fun _ _ _ _ _ _ us hl => match us, hl with | [_, _], _ => rfl) (fun rs Δ r Δ' ⟨_, _, b, a, _, e, _⟩ => by rw [e]; rfl) fun f cdv A outer s H E rs Δ r Δ' hr hp => by
    obtain ⟨rfl, rfl, places, row, ⟨h1, h2⟩, rfl, rfl⟩ := hp
    refine jss_if0 (Δ1 := []) (bb := false) ?_ (fun h => by cases h) fun _ => ?_
    · refine (jb_neI (je_lenT T.f_len (je_var 1)) (je_lenT T.f_len (je_var 0))).eq ?_
      simp [h1]
    · refine jss_ret ((je_allF (l := row.zip places) (q := fun q => true && decide (q.1 ∈ q.2)) rfl T.f_all ?_).eq (by rw [all_true fun q hq => by simpa using h2 q hq])) fnO_rt
      refine je_map (ra := fun q => D K (.tuple [.str q.1, eS q.2])) (js := [2, 3]) (own := [("mark", 2), ("place", 3)]) rfl sc_fp.nd (ji_zipE (la := row) (lb := places) (fa := PyData.str) (fb := eS) (b1 := true) (b2 := true) T.f_zip (je_var 1) (je_var 0) h1) (blkOk_by (N := N_fp) (sc := defScope (top 42)) (by decide +kernel))
        (fun _ _ _ _ _ => pg_tup rfl (pgs_cons (pg_name (i := 2) sc_fp.nd rfl (Or.inl rfl)) (pgs_cons (pg_name (i := 3) sc_fp.nd rfl (Or.inl rfl)) pgs_nil))) (fun q _ => tg_pair 2 3) (by decide) fun q _ _ _ _ _ _ => ?_
      exact je_and (je_isiS T.f_isinstance T.f_str (je_var 2)) fun _ => je_one (je_inT enc_str (hu65 hr) (je_var 2) (je_var 3))

/-! is_place, are_places, is_row, is_copy, are_copies -/
abbrev N_ip : List Str := ["thing", "mark"]
theorem sc_ip : FnScope N_ip ["thing"] (defScope (top 56)) := ⟨rfl, rfl, rfl, by decide +kernel, rfl, by decide +kernel, by decide +kernel⟩
def placeOk (p : List Str) : Prop := p ≠ [] ∧ (∀ m ∈ p, wordOk upS m) ∧ BM.Asc sLt p
def pm_ip (K : PySem.W.Frag) (rs : List SV) (r : SV) : Prop := ∃ p : List Str, placeOk p ∧ rs = [D K (eS p)] ∧ r = D K (.bool true)
theorem ok_ip (T : Tx K mg) : Ok P w K mg base 3 "is_place" ["thing"] (pure0 (pm_ip K)) :=
  ok_of T.d_is_place sc_ip (fun _ _ _ _ _ _ us hl => match us, hl with | [_], _ => rfl) (fun rs Δ r Δ' ⟨_, _, a, _, e, _⟩ => by rw [e]; rfl) fun f cdv A outer s H E rs Δ r Δ' hr hp => by
    obtain ⟨rfl, rfl, p, ⟨h1, h2, h3⟩, rfl, rfl⟩ := hp
    refine jss_if0 (Δ1 := []) (bb := false) ?_ (fun h => by cases h) fun _ => ?_
    · refine ((jw_or (b1 := false) (b2 := false) ?_ fun _ => jw_or1 ?_).jb).eq rfl
      · exact (jb_not (jb_val (je_isiT (ds := p.map .str) T.f_isinstance T.f_tuple (je_var 0)))).eq rfl
      · refine (jb_nilEqT (hu64 hr) (je_var 0) je_tup0 (dep_mapT enc_str.dep (by decide) _)).eq ?_
        rw [isEmpty_map]
        cases p with
        | nil => exact absurd rfl h1
        | cons _ _ => rfl
    · refine jss_ret (je_and (b1 := true) (b2 := true) ?_ fun _ => je_one ?_) fnO_rt
      · refine (je_allF (l := p) (q := fun _ => true) rfl T.f_all ?_).eq (by rw [all_true fun _ _ => rfl])
        refine je_map (js := [1]) (own := [("mark", 1)]) rfl sc_ip.nd (ji_Te (je_var 0)) (blkOk_by (N := N_ip) (sc := defScope (top 56)) (by decide +kernel)) (fun _ _ _ _ _ => pg_name (i := 1) sc_ip.nd rfl (Or.inl rfl)) (fun a _ => tg_name 1) (fun _ h => h) fun m hm _ _ _ _ _ => ?_
        exact je_callP (ok_im T) hr (ja_cons (je_var 1) ja_nil) ⟨m, h2 m hm, rfl, rfl⟩
      · exact je_callP (ok_ar T) (hr.mono (by decide)) (ja_cons (je_var 0) ja_nil) ⟨true, p, h3, rfl, rfl⟩
abbrev N_ap : List Str := ["thing", "place"]
theorem sc_ap : FnScope N_ap ["thing"] (defScope (top 57)) := ⟨rfl, rfl, rfl, by decide +kernel, rfl, by decide +kernel, by decide +kernel⟩
def pm_ap (K : PySem.W.Frag) (rs : List SV) (r : SV) : Prop := ∃ ps : List (List Str), (∀ p ∈ ps, placeOk p) ∧ rs = [D K (eR ps)] ∧ r = D K (.bool true)
theorem ok_ap (T : Tx K mg) : Ok P w K mg base 4 "are_places" ["thing"] (pure0 (pm_ap K)) :=
  ok_of T.d_are_places sc_ap (fun _ _ _ _ _ _ us hl => match us, hl with | [_], _ => rfl) (fun rs Δ r Δ' ⟨_, _, a, _, e, _⟩ => by rw [e]; rfl) fun f cdv A outer s H E rs Δ r Δ' hr hp => by
    obtain ⟨rfl, rfl, ps, h, rfl, rfl⟩ := hp
    refine jss_ret (je_and (b1 := true) (b2 := true) (je_isiT (ds := ps.map eS) T.f_isinstance T.f_tuple (je_var 0)) fun _ => je_one ?_) fnO_rt
    refine (je_allF (l := ps) (q := fun _ => true) rfl T.f_all ?_).eq (by rw [all_true fun _ _ => rfl])
    refine je_map (js := [1]) (own := [("place", 1)]) rfl sc_ap.nd (ji_Te (je_var 0)) (blkOk_by (N := N_ap) (sc := defScope (top 57)) (by decide +kernel)) (fun _ _ _ _ _ => pg_name (i := 1) sc_ap.nd rfl (Or.inl rfl)) (fun a _ => tg_name 1) (fun _ h => h) fun m hm _ _ _ _ _ => ?_
    exact je_callP (ok_ip T) hr (ja_cons (je_var 1) ja_nil) ⟨m, h m hm, rfl, rfl⟩
abbrev N_ir : List Str := ["places", "thing"]
theorem sc_ir : FnScope N_ir ["places", "thing"] (defScope (top 58)) := ⟨rfl, rfl, rfl, by decide +kernel, rfl, by decide +kernel, by decide +kernel⟩
theorem ok_ir (T : Tx K mg) : Ok P w K mg base 2 "is_row" ["places", "thing"] (pure0 (pm_fp K)) :=
  ok_of T.d_is_row sc_ir (fun _ _ _ _ _ _ us hl => match us, hl with | [_, _], _ => rfl) (fun rs Δ r Δ' ⟨_, _, b, a, _, e, _⟩ => by rw [e]; rfl) fun f cdv A outer s H E rs Δ r Δ' hr hp => by
    obtain ⟨rfl, rfl, places, row, h, rfl, rfl⟩ := hp
    exact jss_ret (je_and (b1 := true) (b2 := true) (je_isiT (ds := row.map .str) T.f_isinstance T.f_tuple (je_var 1)) fun _ => je_one (je_callP (ok_fp T) hr (ja_cons (je_var 0) (ja_cons (je_var 1) ja_nil)) ⟨places, row, h, rfl, rfl⟩)) fnO_rt
theorem sc_ic : FnScope N_ir ["places", "thing"] (defScope (top 59)) := ⟨rfl, rfl, rfl, by decide +kernel, rfl, by decide +kernel, by decide +kernel⟩
def copyOk (places : List (List Str)) (c : Str × List Str) : Prop := wordOk lowS c.1 ∧ rowFits places c.2
def pm_ic (K : PySem.W.Frag) (rs : List SV) (r : SV) : Prop := ∃ (places : List (List Str)) (c : Str × List Str), copyOk places c ∧ rs = [D K (eR places), D K (eC c)] ∧ r = D K (.bool true)
theorem ok_ic (T : Tx K mg) : Ok P w K mg base 3 "is_copy" ["places", "thing"] (pure0 (pm_ic K)) :=
  ok_of T.d_is_copy sc_ic (fun _ _ _ _ _ _ us hl => match us, hl with | [_, _], _ => rfl) (fun rs Δ r Δ' ⟨_, _, b, a, _, e, _⟩ => by rw [e]; rfl) fun f cdv A outer s H E rs Δ r Δ' hr hp => by
    obtain ⟨rfl, rfl, places, c, ⟨h1, h2⟩, rfl, rfl⟩ := hp
    refine jss_if0 (Δ1 := []) (bb := false) ?_ (fun h => by cases h) fun _ => ?_
    · refine ((jw_or (b1 := false) (b2 := false) ?_ fun _ => jw_or1 ?_).jb).eq rfl
      · exact (jb_not (jb_val (je_isiT (ds := [.str c.1, eS c.2]) T.f_isinstance T.f_tuple (je_var 1)))).eq rfl
      · exact (jb_neI (je_lenT (ds := [.str c.1, eS c.2]) T.f_len (je_var 1)) (je_gint T.c_COPY_PARTS)).eq rfl
    · refine jss_ret (je_and (b1 := true) (b2 := true) ?_ fun _ => je_one ?_) fnO_rt
      · exact je_callP (ok_in T) hr (ja_cons (je_ixT (d := .str c.1) (ds := [.str c.1, eS c.2]) (i := 0) (je_var 1) je_int rfl) ja_nil) ⟨c.1, h1, rfl, rfl⟩
      · exact je_callP (ok_ir T) hr (ja_cons (je_var 0) (ja_cons (je_ixT (d := eS c.2) (ds := [.str c.1, eS c.2]) (i := 1) (je_var 1) je_int rfl) ja_nil)) ⟨places, c.2, h2, rfl, rfl⟩
abbrev N_ac : List Str := ["places", "thing", "one", "holder", "row"]
theorem sc_ac : FnScope N_ac ["places", "thing"] (defScope (top 60)) := ⟨rfl, rfl, rfl, by decide +kernel, rfl, by decide +kernel, by decide +kernel⟩
def copiesOk (places : List (List Str)) (cs : Copies) : Prop := (∀ c ∈ cs, copyOk places c) ∧ BM.Asc sLt (cs.map (·.1))
def pm_ac (K : PySem.W.Frag) (rs : List SV) (r : SV) : Prop := ∃ (places : List (List Str)) (cs : Copies), copiesOk places cs ∧ rs = [D K (eR places), D K (eCs cs)] ∧ r = D K (.bool true)
theorem ok_ac (T : Tx K mg) : Ok P w K mg base 4 "are_copies" ["places", "thing"] (pure0 (pm_ac K)) :=
  ok_of T.d_are_copies sc_ac (fun _ _ _ _ _ _ us hl => match us, hl with | [_, _], _ => rfl) (fun rs Δ r Δ' ⟨_, _, b, a, _, e, _⟩ => by rw [e]; rfl) fun f cdv A outer s H E rs Δ r Δ' hr hp => by
    obtain ⟨rfl, rfl, places, cs, ⟨h1, h2⟩, rfl, rfl⟩ := hp
    refine jss_if0 (Δ1 := []) (bb := false) ?_ (fun h => by cases h) fun _ => ?_
    · refine ((jw_or (b1 := false) (b2 := false) ?_ fun _ => jw_or1 ?_).jb).eq rfl
      · exact (jb_not (jb_val (je_isiT (ds := cs.map eC) T.f_isinstance T.f_tuple (je_var 1)))).eq rfl
      · refine (jb_not (jb_val ((je_allF (l := cs) (q := fun _ => true) rfl T.f_all ?_).eq (d' := .bool true) (by rw [all_true fun _ _ => rfl])))).eq rfl
        refine je_map (js := [2]) (own := [("one", 2)]) rfl sc_ac.nd (ji_Te (je_var 1)) (blkOk_by (N := N_ac) (sc := defScope (top 60)) (by decide +kernel)) (fun _ _ _ _ _ => pg_name (i := 2) sc_ac.nd rfl (Or.inl rfl)) (fun a _ => tg_name 2) (fun _ h => h) fun c hc _ _ _ _ _ => ?_
        exact je_callP (ok_ic T) hr (ja_cons (je_var 0) (ja_cons (je_var 2) ja_nil)) ⟨places, c, h1 c hc, rfl, rfl⟩
    · refine jss_ret (je_callP (ok_ar T) (hr.mono (by decide)) (ja_cons ?_ ja_nil) ⟨false, cs.map (·.1), h2, rfl, rfl⟩) fnO_rt
      refine (je_map (l := cs) (f := fun c => .str c.1) (js := [3, 4]) (own := [("holder", 3), ("row", 4)]) rfl sc_ac.nd (ji_Te (je_var 1)) (blkOk_by (N := N_ac) (sc := defScope (top 60)) (by decide +kernel))
        (fun _ _ _ _ _ => pg_tup rfl (pgs_cons (pg_name (i := 3) sc_ac.nd rfl (Or.inl rfl)) (pgs_cons (pg_name (i := 4) sc_ac.nd rfl (Or.inl rfl)) pgs_nil))) (fun c _ => tg_pair (d1 := .str c.1) (d2 := eS c.2) 3 4) (by decide) fun c _ _ _ _ _ _ => je_var 3).leq (by rw [List.map_map]; rfl)
end
end Bl
set_option Elab.async false
set_option linter.all false
set_option maxRecDepth 100000
set_option maxHeartbeats 2000000
/-! sorted: of texts, of tuples of texts (the empty tuple among them) -/
namespace Bl
open PySem PySem.Spec PyProof.Rows L2
open PySem.SeqAt
open PySem.W (EachIs SortsAt dataKind dataLe dataLt AllAlike sortVals)

/-! ### the orders -/
theorem so_sLt : BM.SO sLt where
  irr a := by simp [sLt, List.lt_irrefl]
  tr {a b c} h1 h2 := by
    simp only [sLt, decide_eq_true_eq] at *
    exact List.lt_trans h1 h2
  tot {a b} h := by
    simp only [sLt, decide_eq_true_eq]
    have e : a.cps.toList ≠ b.cps.toList := fun e => h (by
      obtain ⟨a⟩ := a
      obtain ⟨b⟩ := b
      exact congrArg Str.mk (Array.ext' e))
    rcases List.le_total a.cps.toList b.cps.toList with q | q
    · exact .inl ((List.le_iff_lt_or_eq.mp q).resolve_right e)
    · exact .inr ((List.le_iff_lt_or_eq.mp q).resolve_right fun z => e z.symm)
def cLt : List Str → List Str → Bool := BM.ltL sLt
theorem so_cLt : BM.SO cLt := BM.so_ltL so_sLt
theorem alike_strs : ∀ xs ys : List Str, PySem.W.alikeAll (xs.map .str) (ys.map .str) = true
  | [], _ => by simp [PySem.W.alikeAll]
  | _ :: _, [] => by simp [PySem.W.alikeAll]
  | x :: xs, y :: ys => by
    show PySem.W.alikeAll (.str x :: xs.map .str) (.str y :: ys.map .str) = true
    rw [PySem.W.alikeAll, alike_strs xs ys]
    simp [PySem.W.alike]
theorem alike_eS (a b : List Str) : PySem.W.alike (eS a) (eS b) = true := by
  show PySem.W.alike (.tuple _) (.tuple _) = true
  rw [PySem.W.alike]
  exact alike_strs a b
theorem rows_lt : ∀ xs ys : List Str, PyProof.Rows.lexLt itemOrd (PySem.W.keyToksAll (xs.map .str)) (PySem.W.keyToksAll (ys.map .str)) = cLt xs ys
  | [], [] => lex_irrefl _
  | [], y :: ys => by
    show PyProof.Rows.lexLt itemOrd (PySem.W.keyToksAll []) (PySem.W.keyToksAll (.str y :: ys.map .str)) = true
    rw [PySem.W.toks_all_cons]
    simp only [PySem.W.keyToksAll]
    rw [lex_diff (O := itemOrd) (by simp)]
    rfl
  | x :: xs, [] => by
    show PyProof.Rows.lexLt itemOrd (PySem.W.keyToksAll (.str x :: xs.map .str)) (PySem.W.keyToksAll []) = false
    rw [PySem.W.toks_all_cons]
    simp only [PySem.W.keyToksAll]
    rw [lex_diff (O := itemOrd) (by simp)]
    rfl
  | x :: xs, y :: ys => by
    show PyProof.Rows.lexLt itemOrd (PySem.W.keyToksAll (.str x :: xs.map .str)) (PySem.W.keyToksAll (.str y :: ys.map .str)) = _
    rw [PySem.W.dataLt_cons (by simp [PySem.W.alike]), PySem.W.dataLt_str, rows_lt xs ys]
    simp only [PyData.eqv, beq_iff_eq]
    rfl
theorem lt_eS (a b : List Str) : dataLt (eS a) (eS b) = cLt a b := by
  show dataLt (.tuple _) (.tuple _) = _
  rw [PySem.W.dataLt_tuple]
  exact rows_lt a b
theorem le_eS : dataLe false eS = fun a b => !cLt b a := by
  funext a b
  show (!dataLt (eS b) (eS a)) = _
  rw [lt_eS]
theorem le_str : dataLe false PyData.str = fun a b => !sLt b a := by
  funext a b
  show (!dataLt (.str b) (.str a)) = _
  rw [PySem.W.dataLt_str]; rfl

/-! ### the keys can be sorted -/
def Rds (h : Heap) (v : Value) (d : PyData) : Prop := ∃ as, Reads h v d as
section
variable {prog : Program} {w : World} {A : Around} {s : Shared}
theorem each_enc {β : Type} {enc : β → PyData} {h : Heap} : ∀ {vs : List Value} {bs : List β}, EachIs (fun v b => Rds h v (enc b)) vs bs → EachIs (fun v d => ∃ as, Reads h v d as) vs (bs.map enc)
  | _, _, .nil => .nil
  | _, _, .cons p t => .cons p (each_enc t)
theorem firsts_any {E : Value → Shared → Prop} {M : Model} : ∀ {vs : List Value} {cs : List (List Str)} {Q : List (Option Value) → Shared → Prop}, EachIs (fun v c => Rds s.heap v (eS c)) vs cs →
    (∀ fs : List (Option Value), fs.map (·.isSome) = cs.map (fun c => !c.isEmpty) → Q fs s) → wpAny M A (vs.mapM firstOfTuple') Q E s
  | _, _, _, .nil, h => by rw [List.mapM_nil]; exact wpAny_pure (h [] rfl)
  | _, _, Q, .cons (b := c) (as := vs) (bs := cs) ⟨as, r⟩ t, h => by
    have r' : Reads s.heap _ (.tuple (c.map .str)) as := r
    cases r' with
    | @tuple a o xs n _ _ ho hc hd hr =>
      rw [List.mapM_cons]
      refine wpAny_bind ?_
      rw [PySem.W.kas_first_eq]
      refine wpAny_bind (PySem.W.Looks.here (show PySem.W.Looks M s.heap (typeOf (.ref a)) o.cls from (PySem.W.Looks.ld ho).andThen .now) ?_)
      rw [hc, if_neg (by first | decide | simp)]
      refine wpAny_bind (listItems_at ho hd (wpAny_pure ?_))
      refine wpAny_bind (firsts_any t fun fs hf => wpAny_pure (h _ ?_))
      rw [List.map_cons, List.map_cons, hf]
      congr 1
      have hl := SeqAt.ReadsAll.length _ _ _ hr
      rw [List.length_map, Array.length_toList] at hl
      cases c with
      | nil =>
        have : xs.size = 0 := by simpa using hl
        simp [this]
      | cons x r =>
        have : 0 < xs.size := by simp at hl; omega
        simp [this]
theorem type_tups {E : Value → Shared → Prop} {M : Model} {vs : List Value} {cs : List (List Str)} {Q : Option Value → Shared → Prop} (e : EachIs (fun v c => Rds s.heap v (eS c)) vs cs) (h2 : 2 ≤ vs.length) (h : Q (some (.type "tuple")) s) :
    wpAny M A (oneTypeOnly' vs.toArray) Q E s := by
  rw [oneTypeOnly'_eq, List.mapM_toArray, map_eq_pure_bind]
  refine wpAny_bind (wpAny_bind (PySem.W.kas_mapM (r := Value.type "tuple") _ (fun v hv Q' hq => ?_) (wpAny_pure ?_)))
  · obtain ⟨c, _, as, r⟩ := e.left v hv
    exact (PySem.W.looks_reads r).here hq
  · obtain ⟨v, r, rfl⟩ : ∃ v r, vs = v :: r := by
      cases vs with
      | nil => simp at h2
      | cons v r => exact ⟨v, r, rfl⟩
    have hall : ((List.map (fun _ => Value.type "tuple") (v :: r)).toArray.all fun x => x == Value.type "tuple") = true := by
      simp only [List.all_toArray, List.all_map, List.all_eq_true]
      intro _ _
      rfl
    have h0 : (List.map (fun _ => Value.type "tuple") (v :: r)).toArray[0]? = some (Value.type "tuple") := by simp
    rw [h0]
    simp only [hall, if_true]
    exact wpAny_pure h
theorem tup_rc {a b : Value} {x y : List Str} (ra : Rds s.heap a (eS x)) (rb : Rds s.heap b (eS y)) (hu : A.units + 2 < cLine) : PySem.SeqAt.RcLt A s a b (cLt x y) := by
  obtain ⟨as, ra⟩ := ra
  obtain ⟨bs, rb⟩ := rb
  rw [← lt_eS]
  exact PySem.W.rcLt_alike _ _ A s a b as bs ra rb (alike_eS x y) (fun e => by cases e) (by have := enc_eS.dep x; have := Nat.min_le_left (eS x).depth (eS y).depth; omega)
theorem call_tuple_lt {E : Value → Shared → Prop} {Q : Value → Shared → Prop} {l b : Addr} {items items2 : Array Value} {e r : Nat → Bool} (hl : s.heap.IsTuple l items) (hb : s.heap.IsTuple b items2)
    (he : ∀ j (h1 : j < items.size) (h2 : j < items2.size), PySem.SeqAt.EqAt A.in1 s items[j] items2[j] (e j)) (hr : ∀ j (h1 : j < items.size) (h2 : j < items2.size), e j = false → PySem.SeqAt.RcLt A.in1 s items[j] items2[j] (r j))
    (h : Q (.bool (PySem.SeqAt.firstLt e r (decide (items.size < items2.size)) (List.range (min items.size items2.size)))) s) : wpAny (model prog w) A (call (.builtin "tuple.__lt__") [.ref l, .ref b]) Q E s := by
  obtain ⟨⟨cls, dd, data, sl⟩, ho, hc, n, hd⟩ := id hl
  obtain ⟨⟨cls2, dd2, data2, sl2⟩, ho2, hc2, n2, hd2⟩ := id hb
  simp only at hc hd hc2 hd2
  subst hc hd hc2 hd2
  exact call_meets F.slot_tuple_lt ⟨_, ho, rfl⟩ F.entry_tuple_lt (F.args_tuple_lt_2 _ _) (PySem.SeqAt.tuple_ltAt l b items items2 n n2 dd dd2 sl sl2 e r) ⟨ho, ho2, he, hr, h⟩
theorem tup_one {f : Bool} {a b : Value} {x y : List Str} {E : Value → Shared → Prop} {Q : Bool → Shared → Prop} (ra : Rds s.heap a (eS x)) (rb : Rds s.heap b (eS y)) (hu : A.units + 2 < cLine) (hq : Q (cLt x y) s) : wpAny (model prog w) A (oneLt' f a b) Q E s := by
  cases f with
  | false =>
    rw [oneLt'_eq]
    simp only [Bool.false_eq_true, if_false]
    exact wpAny_bind (tup_rc ra rb hu prog w E _ (wpAny_truthy_bool hq))
  | true =>
    obtain ⟨as, ra⟩ := ra
    obtain ⟨bs, rb⟩ := rb
    have ra' : Reads s.heap a (.tuple (x.map .str)) as := ra
    have rb' : Reads s.heap b (.tuple (y.map .str)) bs := rb
    have hal := alike_strs x y
    have hd := depth_map (n := 0) (enc := PyData.str) enc_str.dep x
    rw [← lt_eS] at hq
    cases ra' with
    | @tuple l o vs n _ as₁ h1 h2 h3 h4 =>
      cases rb' with
      | @tuple l' o' vs' n' _ bs₁ k1 k2 k3 k4 =>
        have n1 : vs.size = (x.map PyData.str).length := by simpa using SeqAt.ReadsAll.length _ _ _ h4
        have n2 : vs'.size = (y.map PyData.str).length := by simpa using SeqAt.ReadsAll.length _ _ _ k4
        have hq' : Q (dataLt (.tuple (x.map .str)) (.tuple (y.map .str))) s := hq
        rw [PySem.W.dataLt_tuple, ← PySem.W.firstLt_toks (x.map PyData.str) (y.map PyData.str) hal, ← n1, ← n2] at hq'
        rw [oneLt'_eq]
        simp only [if_true]
        have hm := Nat.min_le_left (PyData.depthAll (x.map PyData.str)) (PyData.depthAll (y.map PyData.str))
        have hu1 : A.in1.units = A.units + 1 := rfl
        refine wpAny_bind (wpAny_cRoomFor (by omega) ?_)
        refine wpAny_bind (wpAny_callSpecialIfBound?_slot (T := "tuple") ⟨_, h1, h2⟩ F.slot_tuple_lt (call_tuple_lt (e := PySem.SeqAt.pairEq (x.map .str) (y.map .str)) (r := fun j => dataLt ((x.map PyData.str).getD j .none) ((y.map PyData.str).getD j .none)) ⟨_, h1, h2, _, h3⟩ ⟨_, k1, k2, _, k3⟩ (fun j j1 j2 => ?_) (fun j j1 j2 hj => ?_) ?_))
        · have := PySem.W.eqAt_alikeAll (x.map .str) (y.map .str) A.in1 s vs.toList vs'.toList _ _ h4 k4 hal (by rw [hu1]; omega) j (by simpa using j1) (by simpa using j2)
          simpa using this
        · have := PySem.W.rcLt_alikeAll (x.map .str) (y.map .str) A.in1 s vs.toList vs'.toList _ _ h4 k4 hal (by rw [hu1]; omega) j (by simpa using j1) (by simpa using j2) hj
          simpa using this
        · exact wpAny_truthy_bool hq'
theorem alike_all {β : Type} {enc : β → PyData} (h : ∀ a b, PySem.W.alike (enc a) (enc b) = true) (bs : List β) : AllAlike (bs.map enc) := AllAlike.of h
def SortOk {β : Type} (prog : Program) (w : World) (A : Around) (enc : β → PyData) : Prop := (∀ a b, PySem.W.alike (enc a) (enc b) = true) ∧ ∀ (s : Shared) (vs : List Value) (bs : List β), EachIs (fun v b => Rds s.heap v (enc b)) vs bs → SortsAt prog w A s (dataKind s.heap (bs.map enc)) vs
theorem sortOk_eS (hu : A.units + 2 < cLine) : SortOk prog w A eS := by
  refine ⟨alike_eS, fun s vs cs e => ?_⟩
  by_cases hall : ∀ c ∈ cs, c ≠ []
  · refine SortsAt.data (each_enc e) (alike_all alike_eS cs) (.inl fun d hd => ?_) fun d hd => ?_
    · obtain ⟨c, hc, rfl⟩ := List.mem_map.mp hd
      cases c with
      | nil => exact absurd rfl (hall _ hc)
      | cons x r => exact ⟨.str x, r.map .str, rfl⟩
    · obtain ⟨c, hc, rfl⟩ := List.mem_map.mp hd
      have := enc_eS.dep c
      omega
  · have hne : (cs.all fun c => !c.isEmpty) = false := by
      rw [Bool.eq_false_iff]
      intro h
      refine hall fun c hc z => ?_
      have := List.all_eq_true.mp h c hc
      rw [z] at this
      cases this
    refine ⟨fun v hv => ?_, ?_⟩
    · obtain ⟨d, hd, as, r⟩ := (each_enc e).left v hv
      exact ⟨_, PySem.W.dataKind_some (alike_all alike_eS cs) hd r⟩
    · have key : ∀ (f : Bool) (E : Value → Shared → Prop) (x y : Value) (a b : (dataKind s.heap (cs.map eS)).α) {Q : Bool → Shared → Prop}, (dataKind s.heap (cs.map eS)).keyOf x = some a → (dataKind s.heap (cs.map eS)).keyOf y = some b →
          Q ((dataKind s.heap (cs.map eS)).blt a b) s → wpAny (model prog w) A (oneLt' f x y) Q E s := by
        intro f E x y a b Q ha hb hq
        obtain ⟨d, as, hd, ra, rfl⟩ := PySem.W.dataKind_inv ha
        obtain ⟨d', as', hd', rb, rfl⟩ := PySem.W.dataKind_inv hb
        obtain ⟨c, _, rfl⟩ := List.mem_map.mp hd
        obtain ⟨c', _, rfl⟩ := List.mem_map.mp hd'
        have hq' : Q (dataLt (eS c) (eS c')) s := hq
        rw [lt_eS] at hq'
        exact tup_one ⟨_, ra⟩ ⟨_, rb⟩ hu hq'
      have hall2 : ∀ fs : List (Option Value), fs.map (·.isSome) = cs.map (fun c => !c.isEmpty) → (fs.toArray.all fun x => x.isSome) = false := fun fs hf => by
        rw [List.all_toArray]
        have : (fs.all fun x => x.isSome) = (fs.map (·.isSome)).all id := by rw [List.all_map]; rfl
        rw [this, hf, List.all_map]
        exact hne
      cases cs with
      | nil => exact absurd (fun c hc => by cases hc) hall
      | cons c r =>
        by_cases hc : c = []
        · subst hc
          refine ⟨oneType', fun E x y a b Q ha hb hq => by rw [keyLt'_oneType]; exact key true E x y a b ha hb hq, fun h2 E Q hq => ?_⟩
          rw [keyKind'_eq, List.mapM_toArray, map_eq_pure_bind]
          refine wpAny_bind (wpAny_bind (firsts_any e fun fs hf => wpAny_pure ?_))
          rw [if_neg (by rw [hall2 fs hf]; exact Bool.false_ne_true)]
          have h0 : (fs.toArray[0]?.bind id).isSome = false := by
            cases fs with
            | nil => cases hf
            | cons f fr =>
              have : f.isSome = false := (List.cons.inj hf).1
              simpa using this
          rw [if_neg (by rw [h0]; exact Bool.false_ne_true)]
          refine wpAny_bind (type_tups e h2 ?_)
          exact wpAny_pure hq
        · refine ⟨general', fun E x y a b Q ha hb hq => key false E x y a b ha hb hq, fun h2 E Q hq => ?_⟩
          rw [keyKind'_eq, List.mapM_toArray, map_eq_pure_bind]
          refine wpAny_bind (wpAny_bind (firsts_any e fun fs hf => wpAny_pure ?_))
          rw [if_neg (by rw [hall2 fs hf]; exact Bool.false_ne_true)]
          have h0 : (fs.toArray[0]?.bind id).isSome = true := by
            cases fs with
            | nil => cases hf
            | cons f fr =>
              have q : f.isSome = !c.isEmpty := (List.cons.inj hf).1
              have q2 : c.isEmpty = false := by cases c with
                | nil => exact absurd rfl hc
                | cons _ _ => rfl
              rw [q2] at q
              simpa using q
          rw [if_pos h0]
          exact wpAny_pure hq
theorem sortOk_str (hu : A.units < cLine) : SortOk prog w A PyData.str := by
  refine ⟨fun a b => by simp [PySem.W.alike], fun s vs cs e => SortsAt.data (each_enc e) (alike_all (fun a b => by simp [PySem.W.alike]) cs) (PySem.W.Sortable.others fun b => ⟨fun h => PyData.noConfusion h, fun xs h => PyData.noConfusion h⟩) fun d hd => ?_⟩
  obtain ⟨c, _, rfl⟩ := List.mem_map.mp hd
  simp only [PyData.depth]
  omega
end

/-! ### sorted of whatever can be gathered -/
theorem each_mono2 {α β : Type} {R R' : α → β → Prop} (h : ∀ a b, R a b → R' a b) {as : List α} {bs : List β} (e : EachIs R as bs) : EachIs R' as bs := e.mono h
theorem sorted_gen {prog : Program} {w : World} {A : Around} {E : Value → Shared → Prop} {s : Shared} {a : Value} {β : Type} {enc : β → PyData} {R : Value → β → Prop} {Good : List β → Prop} {Q : Value → Shared → Prop}
    (hcol : ∀ (E' : Value → Shared → Prop) (Q' : List Value → Shared → Prop), (∀ s' vs bs, (∀ b o, s.heap.get? b = some o → s'.heap.get? b = some o) → s.heap.objs.size ≤ s'.heap.objs.size → s'.gens = s.gens → s'.os = s.os → EachIs R vs bs → bs.length ≤ sizeLine → Good bs → Q' vs s') → wpAny (model prog w) A.in1 (collect a) Q' E' s)
    (hR : ∀ v b, R v b → Rds s.heap v (enc b)) (hS : SortOk prog w A.in1.in1 enc)
    (h : ∀ s' p (out : List Value) (c : Nat) bs, (∀ b o, s.heap.get? b = some o → s'.heap.get? b = some o) → s'.gens = s.gens → s'.os = s.os → s.heap.objs.size ≤ p →
      s'.heap.get? p = some (seqObj "list" out.toArray c) → Good bs → bs.length ≤ sizeLine → EachIs R out (bs.mergeSort (dataLe false enc)) → Q (.ref p) s') :
    wpAny (model prog w) A (call (.builtin "sorted") [a]) Q E s := by
  refine Calls.call_function_entry kind_sorted plain_sorted entry_sorted (args_sorted1 _) ?_
  unfold Builtin.«sorted»
  refine wpAny_bind (m := checkCount "sorted" 1 1 _) (wpAny_pure ?_)
  refine wpAny_bind (hcol _ _ fun s1 vs bs k1 hz g1 o1 e hl hg => ?_)
  refine wpAny_bind (wpAny_newList ?_ (by show vs.length ≤ _; rw [e.length]; exact hl))
  have hoL : (s1.heap.push (seqObj "list" vs.toArray 0)).get? s1.heap.objs.size = some (seqObj "list" vs.toArray 0) := Heap.get?_push_size _ rfl
  have k2 : ∀ b o, s.heap.get? b = some o → (PySem.W.sortingHeap (s1.heap.push (seqObj "list" vs.toArray 0)) s1.heap.objs.size vs).get? b = some o := fun b o q => by
    have q1 := k1 b o q
    exact PySem.W.sortingHeap_old (Nat.ne_of_lt (Heap.lt_size q1)) (Heap.get?_push_of_some _ q1)
  have er : ∀ h', (∀ b o, s.heap.get? b = some o → h'.get? b = some o) → EachIs (fun v b => Rds h' v (enc b)) vs bs := fun h' k => e.mono fun v b q => by
    obtain ⟨as, r⟩ := hR v b q
    exact ⟨as, PyProof.Rows.Reads.keeps k r⟩
  refine wpAny_bind (wpAny_holding (wpAny_call_entry slot_list_sort ⟨_, hoL, rfl⟩ entry_list_sort
    (PySem.W.list_sort_vals (s := { s1 with heap := s1.heap.push (seqObj "list" vs.toArray 0) }) (κ := dataKind (PySem.W.sortingHeap (s1.heap.push (seqObj "list" vs.toArray 0)) s1.heap.objs.size vs) (bs.map enc)) hoL
      (hS.2 { s1 with heap := PySem.W.sortingHeap (s1.heap.push (seqObj "list" vs.toArray 0)) s1.heap.objs.size vs } vs bs (er _ k2)) (by rw [e.length]; exact hl) ⟨.none, rfl, ?_⟩) (args_list_sort _)))
  obtain ⟨c, hc⟩ := sortedHeap_at (vs := vs) (out := (sortVals (dataKind (PySem.W.sortingHeap (s1.heap.push (seqObj "list" vs.toArray 0)) s1.heap.objs.size vs) (bs.map enc)) false vs vs).toArray) hoL
  refine wpAny_pure ⟨_, rfl, h _ s1.heap.objs.size _ c bs (fun b u q => ?_) g1 o1 hz hc hg hl (PySem.W.sortVals_data false e (er _ k2) (alike_all hS.1 bs))⟩
  have q1 := k1 b u q
  have hlt := Heap.lt_size q1
  show (sortedHeap (s1.heap.push (seqObj "list" vs.toArray 0)) s1.heap.objs.size vs _).get? b = some u
  rw [sortedHeap_old (Nat.ne_of_lt hlt) (by rw [size_push']; exact Nat.lt_succ_of_lt hlt)]
  exact Heap.get?_push_of_some _ q1

/-! ### of a list, of a tuple -/
section
variable {prog : Program} {w : World} {A : Around} {E : Value → Shared → Prop} {s : Shared}
theorem collect_sq {l : Addr} {T : String} {vs : List Value} {Q : List Value → Shared → Prop} (hT : T = "list" ∨ T = "tuple") (ho : ∃ o, s.heap.get? l = some o ∧ o.cls = .type T ∧ ∃ n, o.data = .seq vs.toArray n) (hz : vs.length ≤ sizeLine)
    (h : ∀ s' : Shared, (∀ b o, s.heap.get? b = some o → s'.heap.get? b = some o) → s.heap.objs.size ≤ s'.heap.objs.size → s'.gens = s.gens → s'.os = s.os → Q vs s') : wpAny (model prog w) A (collect (.ref l)) Q E s := by
  obtain ⟨o, ho, hc, n, hd⟩ := ho
  have k : ∀ b o, s.heap.get? b = some o → ((s.heap.push (seqObj "list" #[] 0)).update s.heap.objs.size (Obj.mapSeq (· ++ vs.toArray))).get? b = some o := fun b o q => by
    rw [Heap.get?_update_ne _ _ _ _ (Nat.ne_of_lt (Heap.lt_size q))]
    exact Heap.get?_push_of_some _ q
  have fin : Q vs { s with heap := (s.heap.push (seqObj "list" #[] 0)).update s.heap.objs.size (Obj.mapSeq (· ++ vs.toArray)) } := h _ k (by rw [Heap.size_update, size_push']; exact Nat.le_succ _) rfl rfl
  unfold collect
  refine wpAny_bind (wpAny_runValue (codeAny_builtin F.entry_proto_collect ?_))
  rw [Around.under_plainId F.plain_proto_collect _]
  show wpAny _ A.in1 (newList [] >>= fun l' => again (.builtin "list.__iadd__" ⟨[l', .ref l], []⟩)) _ _ s
  refine wpAny_bind (wpAny_newList (wpAny_pure ⟨plainId_quiet F.plain_list_iadd _, codeAny_builtin F.entry_list_iadd ?_⟩))
  rw [Around.under_plainId F.plain_list_iadd _]
  have hn := Heap.get?_push_size (h := s.heap) (o := seqObj "list" #[] 0) rfl
  have ho' := Heap.get?_push_of_some (seqObj "list" #[] 0) ho
  show wpAny _ A.in1 (Builtin.List.listExtendWith (.ref s.heap.objs.size) (.ref l) (.ref s.heap.objs.size)) _ _ { s with heap := s.heap.push (seqObj "list" #[] 0) }
  unfold Builtin.List.listExtendWith
  refine wpAny_bind (wpAny_typeOf (T := T) ⟨o, ho', hc⟩ ?_)
  rw [if_pos (by rcases hT with e | e <;> subst e <;> simp)]
  refine wpAny_bind (listItems_at ho' hd (wpAny_bind (listItems_at (xs := #[]) (n := 0) hn rfl ?_)))
  rw [if_neg (by simp)]
  refine wpAny_bind (listUpdate_at (xs := #[]) (n := 0) hn rfl (wpAny_pure ?_) (Nat.zero_le _) (by
    show (#[] ++ vs.toArray).size ≤ sizeLine + 1
    simp only [Array.size_append, List.size_toArray, List.length_nil]
    omega))
  show wpAny _ A (load s.heap.objs.size >>= _) _ _ _
  refine wpAny_bind (wpAny_load (get?_update_seq hn _) ?_)
  show wpAny _ _ (pure ((#[] : Array Value) ++ vs.toArray).toList) Q E _
  rw [show ((#[] : Array Value) ++ vs.toArray).toList = vs by simp]
  exact wpAny_pure fin
end
section
variable {X : Cx}
def Stands (K : PySem.W.Frag) (H : Hp) {β : Type} (enc : β → PyData) (u : Value) (b : β) : Prop := ∃ v, RelV v u ∧ Dp K H v (enc b)
theorem stands_of {K : PySem.W.Frag} {H : Hp} {β : Type} {enc : β → PyData} : ∀ {bs : List β} {xs : List V} {us : List Value}, Vals xs us → DpAll K H xs (bs.map enc) → EachIs (Stands K H enc) us bs
  | [], _, _, r, h => by
    have h' : DpAll K H _ [] := h
    cases h'
    cases r
    exact .nil
  | b :: bs, _, _, r, h => by
    have h' : DpAll K H _ (enc b :: bs.map enc) := h
    cases h' with
    | cons p t =>
      cases r with
      | cons q r => exact .cons ⟨_, q, p⟩ (stands_of r t)
theorem of_stands {K : PySem.W.Frag} {H : Hp} {β : Type} {enc : β → PyData} : ∀ {bs : List β} {us : List Value}, EachIs (Stands K H enc) us bs → ∃ xs, Vals xs us ∧ DpAll K H xs (bs.map enc)
  | _, _, .nil => ⟨[], .nil, .nil⟩
  | _, _, .cons ⟨v, r, d⟩ t => by
    obtain ⟨xs, h1, h2⟩ := of_stands t
    exact ⟨v :: xs, .cons r h1, .cons d h2⟩
/-- sorted(xs), xs a list or a tuple -/
def rSortD (K : PySem.W.Frag) {β : Type} (enc : β → PyData) : List V → Hp → VK → Prop := fun vs H Q => ∃ (a : Addr) (xs : List V) (bs : List β) (G : Hp), vs = [V.ref a] ∧ (SqL K H a xs ∨ SqT K H a xs) ∧ Same G H ∧ DpAll K G xs (bs.map enc) ∧
  ∀ (ys : List V) (p : Addr), DpAll K G ys ((bs.mergeSort (dataLe false enc)).map enc) → H p = none → Q (.ref p) (upd H p (.lst ys))
/-- behind sorted: a new list of these -/
theorem sorted_end {pins : List (Addr × Obj)} {σ : L2.St} {H : Hp} {s s' : Shared} {p : Addr} {out : List Value} {c : Nat} {β : Type} {enc : β → PyData} {bs : List β} {G : Hp} {Q : VK} (I : Inv X pins σ H s)
    (k : ∀ b o, s.heap.get? b = some o → s'.heap.get? b = some o) (g : s'.gens = s.gens) (o : s'.os = s.os) (hp : s.heap.objs.size ≤ p) (hg : s'.heap.get? p = some (seqObj "list" out.toArray c)) (hz : bs.length ≤ sizeLine)
    (e : EachIs (Stands X.K G enc) out bs) (q : ∀ ys, DpAll X.K G ys (bs.map enc) → H p = none → Q (.ref p) (upd H p (.lst ys))) : EP X pins σ Q (.ref p) s' := by
  obtain ⟨ys, rv, dp⟩ := of_stands e
  have hn : H p = none := I.hok.fresh hp
  have hlen : ys.length ≤ sizeLine := by rw [rv.length, e.length]; exact hz
  have J : Inv X pins σ (upd H p (.lst ys)) { s with heap := s'.heap, gens := s'.gens, drawn := s'.drawn, toks := s'.toks } :=
    I.call (ch := []) (Un.laid k hp hn) (I.hok.laid k hp ⟨hlen, out, c, rv, hg⟩) (by rw [g]; exact I.bare) (fun _ z => nomatch z)
  have e : s' = { s with heap := s'.heap, gens := s'.gens, drawn := s'.drawn, toks := s'.toks } := by
    cases s'
    cases s
    cases o
    rfl
  rw [e]
  exact ⟨.ref p, _, J, rfl, q ys dp hn⟩
theorem stands_rds {pins : List (Addr × Obj)} {σ : L2.St} {H : Hp} {s : Shared} {β : Type} {enc : β → PyData} {G : Hp} (I : Inv X pins σ H s) (sg : Same G H) (v : Value) (b : β) (h : Stands X.K G enc v b) : Rds s.heap v (enc b) := by
  obtain ⟨u, r, d⟩ := h
  exact Dp.reads I _ u v (dp_same sg d) r
theorem cr_sortD {β : Type} {enc : β → PyData} (hS : SortOk X.prog X.w X.A.in1.in1 enc) : CallR X (.builtin "sorted") (rSortD X.K enc) := by
  intro pins s σ H vs us Q I r h
  obtain ⟨a, xs, bs, G, rfl, hs, sg, dp, q⟩ := h
  rw [Vals.ref1 r]
  obtain ⟨its, T, hT, rv, ho, hz⟩ : ∃ its T, (T = "list" ∨ T = "tuple") ∧ Vals xs its ∧ (∃ o, s.heap.get? a = some o ∧ o.cls = .type T ∧ ∃ n, o.data = .seq its.toArray n) ∧ xs.length ≤ sizeLine := by
    rcases hs with hs | hs
    · obtain ⟨its, rv, hl, hz⟩ := I.list hs
      exact ⟨its, "list", .inl rfl, rv, hl.isList, hz⟩
    · obtain ⟨its, rv, hl, hz⟩ := I.tuple hs
      exact ⟨its, "tuple", .inr rfl, rv, hl, hz⟩
  have hlen : its.length = bs.length := by rw [← rv.length, dps_len dp, List.length_map]
  refine sorted_gen (R := Stands X.K G enc) (enc := enc) (Good := fun b => b = bs) (fun E' Q' h' => collect_sq hT ho (by rw [← rv.length]; exact hz) fun s' k z g o => h' s' its bs k z g o (stands_of rv dp) (by rw [← hlen, ← rv.length]; exact hz) rfl) (stands_rds I sg) hS
    fun s' p out c bs' k g o hp hg hb hl e => ?_
  subst hb
  exact sorted_end I k g o hp hg (by rw [List.length_mergeSort]; exact hl) e fun ys dp' hn => q ys p dp' hn
end
section
variable {X : Cx} {e : Expr} {Γ : Gm} {Δ Δ1 : Cs} {p pos : Pos}
theorem sql_same {K : PySem.W.Frag} {H H' : Hp} {a : Addr} {xs : List V} (e : Same H H') (h : SqL K H a xs) : SqL K H' a xs := e.seq h
theorem ok_perm {ds es : List PyData} (h : ds.Perm es) (k : AllOk es) : AllOk ds := fun d hd => k d (h.mem_iff.mp hd)
theorem je_sortG {β : Type} {enc : β → PyData} {bs : List β} {r : SV} (hS : SortOk X.prog X.w X.A.in1.in1 enc) (hm : X.mg "sorted" = none) (ha : JE X Δ Γ e r Δ1)
    (hr : ∀ v G, r.P v G → ∃ a xs, v = .ref a ∧ (SqL X.K G a xs ∨ SqT X.K G a xs) ∧ DpAll X.K G xs (bs.map enc) ∧ AllOk (bs.map enc)) (hg : Gl X "sorted" := by rfl) (he : starEach (e :: []) X.env = (false, eval e X.env) :: starEach [] X.env := by rfl) :
    JE X Δ Γ (.Call (.Name "sorted" p) [e] [] pos) (L X.K ((bs.mergeSort (dataLe false enc)).map enc)) Δ1 :=
  je_callB (cr_sortD hS) hm boot_sortedB (ja_cons ha ja_nil he) (fun xs G H Q sg ps q => by
    obtain ⟨u, rfl, pu⟩ := paired1 ps
    obtain ⟨a, ys, rfl, h1, h2, h3⟩ := hr _ G pu
    exact ⟨a, ys, bs, G, rfl, h1.elim (fun z => .inl (sql_same sg z)) fun z => .inr (sqt_same sg z), sg, h2, fun zs p dp hn => q _ _ _ (Up.new sg hn) (new_lst (none_of_sub sg hn) dp (ok_perm ((List.mergeSort_perm bs _).map enc) h3))⟩) hg (he := he)
theorem je_sortL {β : Type} {enc : β → PyData} {bs : List β} (hS : SortOk X.prog X.w X.A.in1.in1 enc) (hm : X.mg "sorted" = none) (ha : JE X Δ Γ e (L X.K (bs.map enc)) Δ1) (hg : Gl X "sorted" := by rfl) (he : starEach (e :: []) X.env = (false, eval e X.env) :: starEach [] X.env := by rfl) :
    JE X Δ Γ (.Call (.Name "sorted" p) [e] [] pos) (L X.K ((bs.mergeSort (dataLe false enc)).map enc)) Δ1 :=
  je_sortG hS hm ha (fun v G ⟨a, xs, h1, h2, h3, h4⟩ => ⟨a, xs, h1, .inl (SqL.of h2), h3, h4⟩) hg he
theorem je_sortT {β : Type} {enc : β → PyData} {bs : List β} (hS : SortOk X.prog X.w X.A.in1.in1 enc) (hm : X.mg "sorted" = none) (ha : JE X Δ Γ e (D X.K (.tuple (bs.map enc))) Δ1) (hg : Gl X "sorted" := by rfl) (he : starEach (e :: []) X.env = (false, eval e X.env) :: starEach [] X.env := by rfl) :
    JE X Δ Γ (.Call (.Name "sorted" p) [e] [] pos) (L X.K ((bs.mergeSort (dataLe false enc)).map enc)) Δ1 :=
  je_sortG hS hm ha (fun v G h => by
    obtain ⟨a, xs, h1, h2, h3, h4⟩ := d_tup h
    exact ⟨a, xs, h1, .inr h2, h3, h4⟩) hg he
/-- sorted(xs) of texts, of tuples of texts -/
theorem je_sortS {l : List Str} (hu : X.A.units + 2 < cLine) (hm : X.mg "sorted" = none) (ha : JE X Δ Γ e (L X.K (l.map .str)) Δ1) (hg : Gl X "sorted" := by rfl) (he : starEach (e :: []) X.env = (false, eval e X.env) :: starEach [] X.env := by rfl) :
    JE X Δ Γ (.Call (.Name "sorted" p) [e] [] pos) (L X.K ((BM.srt sLt l).map .str)) Δ1 :=
  (je_sortL (sortOk_str (by show X.A.units + 1 + 1 < _; omega)) hm ha hg he).leq (by rw [le_str]; rfl)
theorem je_sortST {l : List Str} (hu : X.A.units + 2 < cLine) (hm : X.mg "sorted" = none) (ha : JE X Δ Γ e (D X.K (eS l)) Δ1) (hg : Gl X "sorted" := by rfl) (he : starEach (e :: []) X.env = (false, eval e X.env) :: starEach [] X.env := by rfl) :
    JE X Δ Γ (.Call (.Name "sorted" p) [e] [] pos) (L X.K ((BM.srt sLt l).map .str)) Δ1 :=
  (je_sortT (enc := PyData.str) (sortOk_str (by show X.A.units + 1 + 1 < _; omega)) hm ha hg he).leq (by rw [le_str]; rfl)
theorem je_sortC {l : List (List Str)} (hu : X.A.units + 4 < cLine) (hm : X.mg "sorted" = none) (ha : JE X Δ Γ e (L X.K (l.map eS)) Δ1) (hg : Gl X "sorted" := by rfl) (he : starEach (e :: []) X.env = (false, eval e X.env) :: starEach [] X.env := by rfl) :
    JE X Δ Γ (.Call (.Name "sorted" p) [e] [] pos) (L X.K ((BM.srt cLt l).map eS)) Δ1 :=
  (je_sortL (sortOk_eS (by show X.A.units + 1 + 1 + 2 < _; omega)) hm ha hg he).leq (by rw [le_eS]; rfl)
end
end Bl
set_option Elab.async false
set_option linter.all false
set_option maxRecDepth 100000
set_option maxHeartbeats 2000000
/-! the class Book: its instances, fields, property, method, making; calls with one keyword -/
namespace Bl
open PySem PySem.Spec PyProof.Rows L2

structure BkF (K : PySem.W.Frag) (mg : Str → Option Value) (C : Addr) : Prop where
  glo : mg "Book" = some (.ref C)
  cls : Cls K C
  nP : NoAttr K C "places"
  nC : NoAttr K C "copies"
  init : ∃ f fd, Mk K C f ∧ FunD K "__init__" "Book.__init__" (defArgs (bstm 2)) (defBody (bstm 2)) (defScope (bstm 2)) [] [] f fd
  hold : ∃ p g fd, PropOf K C "holders" p g ∧ FunD K "holders" "Book.holders" (defArgs (bstm 6)) (defBody (bstm 6)) (defScope (bstm 6)) [] [] g fd
  row : ∃ f fd, Meth K C "row_of" f ∧ FunD K "row_of" "Book.row_of" (defArgs (bstm 8)) (defBody (bstm 8)) (defScope (bstm 8)) [] [] f fd

/-- an instance that changes no more -/
def Bk (K : PySem.W.Frag) (C : Addr) (ps : List (List Str)) (cs : Copies) : SV := ⟨fun v H => ∃ a dx vp vc, v = .ref a ∧ H a = some (.ins C dx [("places", vp), ("copies", vc)]) ∧ (D K (eR ps)).P vp H ∧ (D K (eCs cs)).P vc H,
  fun e ⟨a, dx, vp, vc, h1, h2, h3, h4⟩ => ⟨a, dx, vp, vc, h1, e _ _ h2, (D K _).mono e h3, (D K _).mono e h4⟩⟩
/-- an instance while it is made -/
def IC (C : Addr) (l : List (Str × SV)) : Cl := ⟨fun G o => ∃ dx fs, o = .ins C dx fs ∧ Paired (fun (f : Str × V) (q : Str × SV) => f.1 = q.1 ∧ q.2.P f.2 G) fs l, fun e ⟨dx, fs, h1, h2⟩ => ⟨dx, fs, h1, Paired.mapP h2 fun _ q p => ⟨p.1, q.2.mono e p.2⟩⟩⟩
theorem putF_new {f : Str} {v : V} : ∀ {fs : List (Str × V)}, f ∉ fs.map (·.1) → putF f v fs = fs ++ [(f, v)]
  | [], _ => rfl
  | (k, x) :: r, h => by
    rw [List.map_cons, List.mem_cons, not_or] at h
    rw [show putF f v ((k, x) :: r) = (if k = f then (k, v) :: r else (k, x) :: putF f v r) from rfl, if_neg (fun e => h.1 e.symm), putF_new h.2]
    rfl
theorem paired_keys {G : Hp} : ∀ {fs : List (Str × V)} {l : List (Str × SV)}, Paired (fun (f : Str × V) (q : Str × SV) => f.1 = q.1 ∧ q.2.P f.2 G) fs l → fs.map (·.1) = l.map (·.1)
  | _, _, .nil => rfl
  | _, _, .cons p t => by rw [List.map_cons, List.map_cons, p.1, paired_keys t]
theorem paired_app {α β : Type} {R : α → β → Prop} : ∀ {as as' : List α} {bs bs' : List β}, Paired R as bs → Paired R as' bs' → Paired R (as ++ as') (bs ++ bs')
  | _, _, _, _, .nil, h => h
  | _, _, _, _, .cons p t, h => .cons p (paired_app t h)
section
variable {X : Cx} {e o a b c : Expr} {es : List Expr} {Γ Γ' : Gm} {Δ Δ0 Δ0' Δr Δ1 Δ2 Δ3 Δ' : Cs} {r ra rb rc : SV} {rs : List SV} {pos apos : Pos} {C : Addr} {ps : List (List Str)} {cs : Copies} {O : En → Prop} {rest : List Stmt} {f : Str}
/-- self.f = e -/
theorem jss_fld {j : Nat} {x : Addr} {l : List (Str × SV)} {p' : Pos} (he : JE X Δ Γ e r Δ1) (ho : JE X Δ1 Γ o (VV (.ref x)) Δ1) (hj : Δ1[j]? = some (x, IC C l)) (c : Cls X.K C) (n : NoAttr X.K C f) (hf : f ∉ l.map (·.1)) (hl : l.length < 1000)
    (hr : JSs X (Δ1.set j (x, IC C (l ++ [(f, r)]))) Γ rest O) (hs : swapsWith e (some (.Attribute o f p')) pos.line X.env = pure false := by rfl) : JSs X Δ Γ (.Assign [.Attribute o f p'] e pos :: rest) O :=
  jss_of (pss_cons (ps_fld ho.use he.use hs) pss_U) fun σ G H D hs sl sv => ⟨G, hs, sl, fun y G1 H1 t1 py => ⟨G1, t1.hs, sl.mono t1.up, fun v G2 H2 t2 pv => by
    have e1 : v = .ref x := pv
    subst e1
    obtain ⟨g, ob, e2, dx, fs, e3, pr⟩ := t2.hs.cell _ (List.mem_of_getElem? hj)
    have hk := paired_keys pr
    refine ⟨x, C, dx, fs, rfl, by rw [e2, e3], c, n, by rw [Paired.length pr]; exact hl, ?_⟩
    have hf' : f ∉ fs.map (·.1) := by rw [hk]; exact hf
    rw [putF_new hf']
    have t3 := Tr.put (C' := IC C (l ++ [(f, r)])) t2.hs hj (o := .ins C dx (fs ++ [(f, y)])) ⟨dx, _, rfl, paired_app pr (.cons ⟨rfl, r.mono t2.up py⟩ .nil)⟩
    have t := (t1.trans t2).trans t3
    exact ⟨_, Γ, hr, G2, t3.hs, sl.mono t.up, sv.trans t⟩⟩⟩
theorem je_places (F : BkF X.K X.mg C) (he : JE X Δ Γ e (Bk X.K C ps cs) Δ1) (hb : attributeBase e "places" X.env (eval e X.env) = eval e X.env := by rfl) : JE X Δ Γ (.Attribute e "places" pos) (D X.K (eR ps)) Δ1 :=
  je_of (pe_fld he.use hb) fun σ G H Q hs sl q => ⟨G, hs, sl, fun v G1 H1 t ⟨a, dx, vp, vc, e1, e2, e3, e4⟩ => ⟨a, C, dx, _, vp, e1, t.hs.sub _ _ e2, F.cls, F.nP, by first | rfl | (simp [List.lookup]), q _ _ _ t e3⟩⟩
theorem je_copies (F : BkF X.K X.mg C) (he : JE X Δ Γ e (Bk X.K C ps cs) Δ1) (hb : attributeBase e "copies" X.env (eval e X.env) = eval e X.env := by rfl) : JE X Δ Γ (.Attribute e "copies" pos) (D X.K (eCs cs)) Δ1 :=
  je_of (pe_fld he.use hb) fun σ G H Q hs sl q => ⟨G, hs, sl, fun v G1 H1 t ⟨a, dx, vp, vc, e1, e2, e3, e4⟩ => ⟨a, C, dx, _, vc, e1, t.hs.sub _ _ e2, F.cls, F.nC, by first | rfl | decide, q _ _ _ t e4⟩⟩
end
/-- a method, a property's getter: the promise of its def -/
structure OkM (P : Program) (w : World) (K : PySem.W.Frag) (mg : Str → Option Value) (base : Heap) (k : Nat) (f : Addr) (ps : List Str) (Pre : Prm) : Prop where
  ex : ∃ fd, FnOk P w K mg base CX0 k f fd ps (spJ Pre) ∧ Binds K fd ps []
theorem OkM.mono {P : Program} {w : World} {K : PySem.W.Frag} {mg : Str → Option Value} {base : Heap} {j k : Nat} {f : Addr} {ps : List Str} {Pre : Prm} (h : OkM P w K mg base j f ps Pre) (l : j ≤ k) : OkM P w K mg base k f ps Pre := by
  obtain ⟨fd, F, c⟩ := h
  exact ⟨fd, F.mono l, c⟩
section
variable {P : Program} {w : World} {K : PySem.W.Frag} {mg : Str → Option Value} {base : Heap} {x qual : Str} {st : Stmt} {f : Addr} {fd : FuncData}
abbrev cxM (P : Program) (w : World) (K : PySem.W.Frag) (mg : Str → Option Value) (base : Heap) (N : List Str) (qual : Str) (st : Stmt) (f : Addr) (cdv : Value) (A : Around) (outer : List Env) (s : Shared) (H : Hp) (E : XK) : Cx := (cxOf CX0 P w K mg base N qual (defScope st) f cdv A outer s H E).nox
theorem okm_of {N ps : List Str} {k : Nat} {Pre : Prm} (F : FunD K x qual (defArgs st) (defBody st) (defScope st) [] [] f fd) (S : FnScope N ps (defScope st))
    (hbind : ∀ (kV doc pm : Value) (an : Option Addr) (cdv ct : Value) (us : List Value), us.length = ps.length → bindArgs (PySem.W.fnOf x qual (defArgs st) (defBody st) (defScope st) .none kV doc pm an cdv ct) ⟨us, []⟩ = pure (ps.zip us))
    (hlen : ∀ rs Δ r Δ', Pre rs Δ r Δ' → rs.length = ps.length)
    (hb : ∀ (cdv : Value) (A : Around) (outer : List Env) (s : Shared) (H : Hp) (E : XK) (rs : List SV) (Δ : Cs) (r : SV) (Δ' : Cs), Room k (A.deeper (envOfC qual (defScope st) s.heap.objs.size f cdv)) → Pre rs Δ r Δ' →
      JSs (cxM P w K mg base N qual st f cdv A outer s H E) Δ (start0 N rs) (defBody st) (fnO r Δ')) : OkM P w K mg base (k + 1) f ps Pre :=
  ⟨fd, fn_ok F S hlen fun cdv A outer s H E rs Δ r Δ' hr hp => hb cdv A outer s H E rs Δ r Δ' hr hp, F.bindsN hbind⟩
end
section
variable {X : Cx} {e o a b c : Expr} {es : List Expr} {Γ Γ' : Gm} {Δ Δ0 Δ0' Δr Δ1 Δ2 Δ3 Δ' : Cs} {r ra rb rc : SV} {rs : List SV} {pos apos p : Pos} {C g pa fI : Addr} {ps : List (List Str)} {cs : Copies} {k : Nat} {f m : Str} {ns : List Str}
theorem nox_id : X.nox.nox = X.nox := rfl
/-- book.f, a property -/
theorem je_prop {F : List SV → SV → Prop} (he : JE X Δ Γ e (Bk X.K C ps cs) Δ1) (c : Cls X.K C) (hp : PropOf X.K C f pa g) (h : OkM X.prog X.w X.K X.mg X.base k g ns (pure0 F)) (hr : Room (k + 1) X.A) (hF : F [Bk X.K C ps cs] r)
    (hb : attributeBase e f X.env (eval e X.env) = eval e X.env := by rfl) : JE X Δ Γ (.Attribute e f pos) r Δ1 := by
  obtain ⟨fd, FO, bd⟩ := h
  refine je_of (pe_prop he.use c hp FO hr bd .nil pass0 hb) fun σ G H Q hs sl q => ⟨G, hs, sl, fun v G1 H1 t pv => ?_⟩
  obtain ⟨a, dx, vp, vc, e1, e2, e3⟩ := id pv
  refine ⟨a, dx, _, e1, t.hs.sub _ _ e2, ?_⟩
  show spJ (pure0 F) [.ref a] H1 Q E0
  refine ⟨G1, [Bk X.K C ps cs], [], r, [], ⟨rfl, rfl, hF⟩, Hs.nil t.hs.sub, .cons (by rw [← e1]; exact pv) .nil, fun v G' H' t' p => q v G' H' (t.trans (t'.up0 t.hs)) p⟩
/-- book.m(e, ..) -/
theorem je_meth {pl : Sem Bool} {F : List SV → SV → Prop} (he : JE X Δ Γ o (Bk X.K C ps cs) Δ1) (c : Cls X.K C) (hm : Meth X.K C m g) (h : OkM X.prog X.w X.K X.mg X.base k g ns (pure0 F)) (hr : Room k X.A) (ha : JA X Δ1 Γ (e :: es) rs Δ2) (hF : F (Bk X.K C ps cs :: rs) r) (hn : m ≠ "places" ∧ m ≠ "copies")
    (hst : starEach (e :: es) X.env = (false, eval e X.env) :: starEach es X.env := by rfl) (hpl : (backTo pos (starEach es X.env)).any (·.1) = false := by rfl)
    (ht : eval (.Call (.Attribute o m apos) (e :: es) [] pos) X.env = (do
      let ov ← eval o X.env
      standAt apos.atName
      let (f, first) ← holding [ov] (getMethod ov m pl)
      callWith pos f first (backTo pos (starEach (e :: es) X.env)) (backToKw pos (keywordEach [] X.env))) := by rfl) : JE X Δ Γ (.Call (.Attribute o m apos) (e :: es) [] pos) r Δ2 := by
  obtain ⟨fd, FO, bd⟩ := h
  refine je_of (pe_meth he.use c hm FO hr bd .nil pass0 ha.use hst hpl ht) fun σ G H Q hs sl q => ⟨G, hs, sl, fun v G1 H1 t pv => ?_⟩
  obtain ⟨a, dx, vp, vc, e1, e2, e3⟩ := id pv
  refine ⟨a, dx, _, e1, t.hs.sub _ _ e2, ?_, G1, t.hs, sl.mono t.up, fun vs G2 H2 t2 pr => ?_⟩
  · have h1 : (m == ("places" : Str)) = false := by rw [beq_eq_false_iff_ne]; exact hn.1
    have h2 : (m == ("copies" : Str)) = false := by rw [beq_eq_false_iff_ne]; exact hn.2
    simp [List.lookup, h1, h2]
  · show spJ (pure0 F) (v :: (vs ++ [])) H2 Q E0
    rw [List.append_nil]
    exact ⟨G2, _, [], r, [], ⟨rfl, rfl, hF⟩, Hs.nil t2.hs.sub, .cons ((Bk X.K C ps cs).mono t2.up pv) pr, fun v G' H' t' p => q v G' H' ((t.trans t2).trans (t'.up0 t2.hs)) p⟩
/-- C(e, ..) -/
def pm_init (K : PySem.W.Frag) (C : Addr) : Prm := fun rs Δ r Δ' => ∃ (x : Addr) (ps : List (List Str)) (cs : Copies), (∀ p ∈ ps, placeOk p) ∧ copiesOk ps cs ∧ rs = [VV (.ref x), D K (eR ps), D K (eCs cs)] ∧ Δ = [(x, IC C [])] ∧ r = VV .non ∧ Δ' = [(x, IC C [("places", D K (eR ps)), ("copies", D K (eCs cs))])]
theorem je_make (M : Mk X.K C fI) (h : OkM X.prog X.w X.K X.mg X.base k fI ns (pm_init X.K C)) (hm : X.mg f = some (.ref C)) (hr : Room (k + 1) X.A) (ha : JA X Δ Γ (e :: es) [D X.K (eR ps), D X.K (eCs cs)] Δ1) (v1 : ∀ p ∈ ps, placeOk p) (v2 : copiesOk ps cs)
    (hg : Gl X f := by rfl) (hdb : (f == ("__debug__" : Str)) = false := by decide) (he : starEach (e :: es) X.env = (false, eval e X.env) :: starEach es X.env := by rfl) (hpl : (backTo pos (starEach es X.env)).any (·.1) = false := by rfl) : JE X Δ Γ (.Call (.Name f p) (e :: es) [] pos) (Bk X.K C ps cs) Δ1 := by
  obtain ⟨fd, FO, bd⟩ := h
  refine je_of (pe_make M FO hr hg hm bd .nil pass0 ha.use hdb he hpl) fun σ G H Q hs sl q => ⟨G, hs, sl, fun vs G1 H1 t pr => fun x dx hx hdx hne => ?_⟩
  show spJ (pm_init X.K C) (.ref x :: (vs ++ [])) _ _ E0
  rw [List.append_nil]
  have hx2 : (upd H1 dx (.own x)) x = none := by rw [upd_ne (fun e => hne e.symm)]; exact hx
  have ta : Tr Δ1 G1 H1 Δ1 G1 (upd H1 dx (.own x)) := (Up.hid t.hs.sub hdx).up0 t.hs
  have tb := Tr.cell (C := IC C []) (o := .ins C dx []) ta.hs hx2 ⟨dx, [], rfl, .nil⟩
  have hs2 : Hs ([(x, IC C [])] ++ Δ1) G1 (upd (upd H1 dx (.own x)) x (.ins C dx [])) := ⟨tb.hs.sub, fun q hq => tb.hs.cell q (by
    rcases List.mem_append.mp hq with m | m
    · exact List.mem_append_right _ m
    · exact List.mem_append_left _ m), by
    have := tb.hs.nd
    unfold dom at this ⊢
    rw [List.map_append] at this ⊢
    exact (List.perm_append_comm.nodup_iff).mp this⟩
  refine ⟨G1, _, [(x, IC C [])], VV .non, _, ⟨x, ps, cs, v1, v2, rfl, rfl, rfl, rfl⟩, ⟨tb.hs.sub, fun q hq => hs2.cell q (List.mem_append_left _ hq), by simp [dom]⟩, .cons rfl pr, fun v G' H' t' pv => ⟨pv, ?_⟩⟩
  have t2 := t'.frame hs2
  have hj : ([(x, IC C [("places", D X.K (eR ps)), ("copies", D X.K (eCs cs))])] ++ Δ1)[0]? = some (x, IC C [("places", D X.K (eR ps)), ("copies", D X.K (eCs cs))]) := rfl
  obtain ⟨g, ob, e2, dx', fs, e3, pr'⟩ := t2.hs.cell _ (List.mem_of_getElem? hj)
  cases pr' with
  | @cons f1 _ fs1 _ p1 pr1 =>
    cases pr1 with
    | @cons f2 _ fs2 _ p2 pr2 =>
      cases pr2
      obtain ⟨n1, w1⟩ := f1
      obtain ⟨n2, w2⟩ := f2
      obtain ⟨q1, q1'⟩ := p1
      obtain ⟨q2, q2'⟩ := p2
      simp only at q1 q2 q1' q2'
      subst q1 q2 e3
      have t3 := Tr.pub t2.hs hj e2
      have tall : Tr Δ1 G1 H1 Δ1 (upd G' x (.ins C dx' [("places", w1), ("copies", w2)])) H' := by
        refine ⟨t3.hs, t2.up.trans t3.up, fun a u ha e => ?_, fun a ha => .inl ha⟩
        have ne : a ≠ x := ne_of_none e hx
        obtain ⟨e5, k5⟩ := ta.fr a u ha e
        have e6 : (upd (upd H1 dx (.own x)) x (.ins C dx [])) a = some u := by rw [upd_ne ne]; exact e5
        obtain ⟨e7, k7⟩ := t2.fr a u (by
          unfold dom
          rw [List.map_append, List.mem_append, not_or]
          exact ⟨by simpa using ne, ha⟩) e6
        exact ⟨e7, fun z => by rw [upd_ne ne]; exact k7 z⟩
      exact q _ _ _ (t.trans tall) ⟨x, dx', w1, w2, rfl, upd_same, (D X.K _).mono t3.up q1', (D X.K _).mono t3.up q2'⟩
end
end Bl
set_option Elab.async false
set_option linter.all false
set_option maxRecDepth 100000
set_option maxHeartbeats 2000000
/-! calls with the keyword; the class Book's defs; holders_with, holders_without -/
namespace Bl
open PySem PySem.Spec PyProof.Rows L2

/-! ### f(e, .., most = e) -/
section
variable {K : PySem.W.Frag} {x qual : Str} {params : Arguments} {body : List Stmt} {scope : Scope} {f : Addr} {fd : FuncData} {ps ks : List Str}
theorem kbn_of (F : FunD K x qual params body scope [] [] f fd) (n : Nat)
    (h : ∀ (kV doc pm : Value) (an : Option Addr) (cdv ct : Value) (us ws : List Value), us.length = n → ws.length = ks.length → bindArgs (PySem.W.fnOf x qual params body scope .none kV doc pm an cdv ct) ⟨us, ks.zip ws⟩ = pure (ps.zip (us ++ ws))) :
    KBn K fd ps n ks (fun us ws => us ++ ws) (fun vs zs => vs ++ zs) := by
  obtain ⟨oc, od, dV, kV, doc, pm, an, cdv, ct, osl, rfl, lk, hcd, hD, hK⟩ := F.ex
  rcases hD with ⟨_, rfl⟩ | ⟨e, _⟩
  · exact ⟨fun s us ws _ l1 l2 => .of_eq (h kV doc pm an cdv ct us ws l1 l2), fun r1 r2 => r1.append r2⟩
  · exact absurd rfl e
end
structure OkK (P : Program) (w : World) (K : PySem.W.Frag) (mg : Str → Option Value) (base : Heap) (k : Nat) (x : Str) (ps : List Str) (n : Nat) (Pre : Prm) : Prop where
  ex : ∃ f fd, FnOk P w K mg base CX0 k f fd ps (spJ Pre) ∧ mg x = some (.ref f) ∧ PySem.W.keepIn K (.ref f) = true ∧ KBn K fd ps n (["most"] : List Str) (fun us ws => us ++ ws) (fun vs zs => vs ++ zs)
theorem OkK.mono {P : Program} {w : World} {K : PySem.W.Frag} {mg : Str → Option Value} {base : Heap} {j k n : Nat} {x : Str} {ps : List Str} {Pre : Prm} (h : OkK P w K mg base j x ps n Pre) (l : j ≤ k) : OkK P w K mg base k x ps n Pre := by
  obtain ⟨f, fd, F, c⟩ := h
  exact ⟨f, fd, F.mono l, c⟩
section
variable {P : Program} {w : World} {K : PySem.W.Frag} {mg : Str → Option Value} {base : Heap}
theorem okk_of {x : Str} {i : Nat} {N ps : List Str} {k n : Nat} {Pre : Prm} (d : DefAt K mg x i) (S : FnScope N ps (defScope (top i)))
    (hbind : ∀ (kV doc pm : Value) (an : Option Addr) (cdv ct : Value) (us ws : List Value), us.length = n → ws.length = 1 → bindArgs (PySem.W.fnOf x x (defArgs (top i)) (defBody (top i)) (defScope (top i)) .none kV doc pm an cdv ct) ⟨us, (["most"] : List Str).zip ws⟩ = pure (ps.zip (us ++ ws)))
    (hlen : ∀ rs Δ r Δ', Pre rs Δ r Δ' → rs.length = ps.length)
    (hb : ∀ (f : Addr) (cdv : Value) (A : Around) (outer : List Env) (s : Shared) (H : Hp) (E : XK) (rs : List SV) (Δ : Cs) (r : SV) (Δ' : Cs), Room k (A.deeper (envOfC x (defScope (top i)) s.heap.objs.size f cdv)) → Pre rs Δ r Δ' →
      JSs (cxN P w K mg base N x i f cdv A outer s H E) Δ (start0 N rs) (defBody (top i)) (fnO r Δ')) : OkK P w K mg base (k + 1) x ps n Pre := by
  obtain ⟨f, fd, F, hm⟩ := d
  exact ⟨f, fd, fn_ok F S hlen fun cdv A outer s H E rs Δ r Δ' hr hp => hb f cdv A outer s H E rs Δ r Δ' hr hp, hm, F.kp, kbn_of F n hbind⟩
end
section
variable {X : Cx} {e e2 : Expr} {es : List Expr} {Γ : Gm} {Δ Δ1 Δ2 : Cs} {r r2 : SV} {rs : List SV} {pos p kpos : Pos}
theorem je_callK {k n : Nat} {x : Str} {ps : List Str} {F : List SV → SV → Prop} (h : OkK X.prog X.w X.K X.mg X.base k x ps n (pure0 F)) (hr : Room k X.A) (ha : JA X Δ Γ (e :: es) rs Δ1) (hk : JE X Δ1 Γ e2 r2 Δ2) (hp : F (rs ++ [r2]) r) (hl : rs.length = n := by rfl) (hg : Gl X x := by rfl)
    (hall : (backToKw pos (keywordEach [⟨some "most", e2, kpos⟩] X.env)).all (·.1.isSome) = true := by rfl) (hks : (backToKw pos (keywordEach [⟨some "most", e2, kpos⟩] X.env)).filterMap (·.1) = (["most"] : List Str) := by rfl)
    (hdb : (x == ("__debug__" : Str)) = false := by decide) (he : starEach (e :: es) X.env = (false, eval e X.env) :: starEach es X.env := by rfl)
    (hpl : ((backTo pos (starEach (e :: es) X.env)).any (·.1) || (backToKw pos (keywordEach [⟨some "most", e2, kpos⟩] X.env)).any (·.1.isNone)) = false := by rfl) : JE X Δ Γ (.Call (.Name x p) (e :: es) [⟨some "most", e2, kpos⟩] pos) r Δ2 := by
  obtain ⟨f, fd, FO, hm, hkp, hb⟩ := h
  refine je_of (pe_callN FO hr hg hm hkp hb pass0 ha.use (pk_cons hk.use pk_nil) hall hks hdb he hpl) fun σ G H Q hs sl q => ⟨G, hs, sl, fun vs G1 H1 t1 ps1 => ⟨G1, t1.hs, sl.mono t1.up, fun v G2 H2 t2 pv => ?_⟩⟩
  refine ⟨by rw [Paired.length ps1]; exact hl, rfl, ?_⟩
  exact ⟨G2, rs ++ [r2], [], r, [], ⟨rfl, rfl, hp⟩, Hs.nil t2.hs.sub, paired_app (paired_mono t2.up ps1) (.cons pv .nil), fun v' G' H' t' pv' => q v' G' H' ((t1.trans t2).trans (t'.up0 t2.hs)) pv'⟩
end

/-! ### the class's defs -/
section
variable {P : Program} {w : World} {K : PySem.W.Frag} {mg : Str → Option Value} {base : Heap} {C : Addr}
abbrev N_bi : List Str := ["self", "places", "copies"]
theorem sc_bi : FnScope N_bi ["self", "places", "copies"] (defScope (bstm 2)) := ⟨rfl, rfl, rfl, by decide +kernel, rfl, by decide +kernel, by decide +kernel⟩
theorem ok_bi (T : Tx K mg) (B : BkF K mg C) : ∃ f, Mk K C f ∧ OkM P w K mg base 5 f ["self", "places", "copies"] (pm_init K C) := by
  obtain ⟨f, fd, M, F⟩ := B.init
  refine ⟨f, M, okm_of F sc_bi (fun _ _ _ _ _ _ us hl => match us, hl with | [_, _, _], _ => rfl) (fun rs Δ r Δ' ⟨_, _, _, _, _, e, _⟩ => by rw [e]; rfl) fun cdv A outer s H E rs Δ r Δ' hr hp => ?_⟩
  obtain ⟨x, ps, cs, h1, h2, rfl, rfl, rfl, rfl⟩ := hp
  refine jss_if0 (Δ1 := [(x, IC C [])]) (bb := false) ?_ (fun h => by cases h) fun _ => ?_
  · exact (jb_not (jb_val (je_callP (ok_ap T) hr (ja_cons (je_var 1) ja_nil) ⟨ps, h1, rfl, rfl⟩))).eq rfl
  refine jss_if0 (Δ1 := [(x, IC C [])]) (bb := false) ?_ (fun h => by cases h) fun _ => ?_
  · exact (jb_not (jb_val (je_callP (ok_ac T) hr (ja_cons (je_var 1) (ja_cons (je_var 2) ja_nil)) ⟨ps, cs, h2, rfl, rfl⟩))).eq rfl
  refine jss_fld (j := 0) (l := []) (je_var 1) (je_var 0) rfl B.cls B.nP (by simp) (by decide) ?_
  refine jss_fld (j := 0) (l := [("places", D K (eR ps))]) (je_var 2) (je_var 0) rfl B.cls B.nC (by simp only [List.map_cons, List.map_nil]; decide) (by simp) ?_
  exact jss_nil ⟨rfl, fun _ => rfl⟩
def holders (cs : Copies) : List Str := cs.map (·.1)
def pm_bh (K : PySem.W.Frag) (C : Addr) (rs : List SV) (r : SV) : Prop := ∃ (ps : List (List Str)) (cs : Copies), rs = [Bk K C ps cs] ∧ r = D K (eS (holders cs))
abbrev N_bh : List Str := ["self", "holder", "row"]
theorem sc_bh : FnScope N_bh ["self"] (defScope (bstm 6)) := ⟨rfl, rfl, rfl, by decide +kernel, rfl, by decide +kernel, by decide +kernel⟩
theorem ok_bh (T : Tx K mg) (B : BkF K mg C) : ∃ p g, PropOf K C "holders" p g ∧ OkM P w K mg base 1 g ["self"] (pure0 (pm_bh K C)) := by
  obtain ⟨p, g, fd, M, F⟩ := B.hold
  refine ⟨p, g, M, okm_of F sc_bh (fun _ _ _ _ _ _ us hl => match us, hl with | [_], _ => rfl) (fun rs Δ r Δ' ⟨_, _, _, _, e, _⟩ => by rw [e]; rfl) fun cdv A outer s H E rs Δ r Δ' hr hp => ?_⟩
  obtain ⟨rfl, rfl, ps, cs, rfl, rfl⟩ := hp
  refine jss_ret ((je_tupleL (ds := cs.map fun c => .str c.1) T.f_tuple ?_).eq (by unfold eS holders; rw [List.map_map]; rfl)) fnO_rt
  exact je_map (l := cs) (f := fun c => .str c.1) (js := [1, 2]) (own := [("holder", 1), ("row", 2)]) rfl sc_bh.nd (ji_Te (je_copies B (je_var 0))) (blkOk_by (N := N_bh) (sc := defScope (bstm 6)) (by decide +kernel))
        (fun _ _ _ _ _ => pg_tup rfl (pgs_cons (pg_name (i := 1) sc_bh.nd rfl (Or.inl rfl)) (pgs_cons (pg_name (i := 2) sc_bh.nd rfl (Or.inl rfl)) pgs_nil))) (fun c _ => tg_pair (d1 := .str c.1) (d2 := eS c.2) 1 2) (by decide) fun c _ _ _ _ _ _ => je_var 1
/-- book.row_of(holder), the holder is one -/
def pm_br (K : PySem.W.Frag) (C : Addr) (rs : List SV) (r : SV) : Prop := ∃ (ps : List (List Str)) (cs : Copies) (c : Str × List Str), (holders cs).Nodup ∧ c ∈ cs ∧ rs = [Bk K C ps cs, D K (.str c.1)] ∧ r = D K (eS c.2)
abbrev N_br : List Str := ["self", "holder", "name", "row"]
theorem sc_br : FnScope N_br ["self", "holder"] (defScope (bstm 8)) := ⟨rfl, rfl, rfl, by decide +kernel, rfl, by decide +kernel, by decide +kernel⟩
theorem at_map {α β : Type} {l : List α} {g : α → β} {i : Nat} {r : β} (h : (l.map g)[i]? = some r) : ∃ a, l[i]? = some a ∧ r = g a := by
  rw [List.getElem?_map] at h
  cases q : l[i]? with
  | none => rw [q] at h; cases h
  | some a => rw [q] at h; exact ⟨a, rfl, (Option.some.inj h).symm⟩
theorem ok_br (T : Tx K mg) (B : BkF K mg C) : ∃ g, Meth K C "row_of" g ∧ OkM P w K mg base 1 g ["self", "holder"] (pure0 (pm_br K C)) := by
  obtain ⟨g, fd, M, F⟩ := B.row
  refine ⟨g, M, okm_of F sc_br (fun _ _ _ _ _ _ us hl => match us, hl with | [_, _], _ => rfl) (fun rs Δ r Δ' ⟨_, _, _, _, _, _, _, e, _⟩ => by rw [e]; rfl) fun cdv A outer s H E rs Δ r Δ' hr hp => ?_⟩
  obtain ⟨rfl, rfl, ps, cs, c, hnd, hc, rfl, rfl⟩ := hp
  obtain ⟨j, hj⟩ := List.getElem?_of_mem hc
  refine jss_for (js := [2, 3]) (g := gTup K 2 (gCons (gName 2) (gCons (gName 3) gNil))) PassesOwn.never rfl (ji_Te (l := cs) (je_copies B (je_var 0))) (pg_tup rfl (pgs_cons (pg_name (i := 2) sc_br.nd rfl (Or.inl rfl)) (pgs_cons (pg_name (i := 3) sc_br.nd rfl (Or.inl rfl)) pgs_nil)))
    (fun i Δ Γ => i ≤ j ∧ Δ = [] ∧ Γ = [some (Bk K C ps cs), some (D K (.str c.1)), none, none]) ⟨Nat.zero_le _, rfl, rfl⟩ (fun i r Δ Γ hi hI => ?_) fun Δ Γ hI => ?_
  · obtain ⟨hij, rfl, rfl⟩ := hI
    obtain ⟨a, ha, rfl⟩ := at_map hi
    refine ⟨_, tg_pair (d1 := .str a.1) (d2 := eS a.2) 2 3, ?_⟩
    by_cases e : i = j
    · subst e
      rw [hj] at ha
      cases ha
      refine jss_if0 (Δ1 := []) (bb := true) ?_ (fun _ => ?_) fun h => by cases h
      · refine (jw_and (b1 := true) (b2 := true) (jb_val (je_isiS T.f_isinstance T.f_str (je_var 1))) fun _ => jw_and1 ?_).jb.eq rfl
        exact (jb_eqS (je_var 2) (je_var 1)).eq (by simp)
      · exact jss_ret (je_var 3) fnO_rt
    · have hne : a.1 ≠ c.1 := fun z => by
        have h1 : (holders cs)[i]? = some a.1 := by unfold holders; rw [List.getElem?_map, ha]; rfl
        have h2 : (holders cs)[j]? = some c.1 := by unfold holders; rw [List.getElem?_map, hj]; rfl
        rw [z] at h1
        exact e (nodup_at hnd h1 h2)
      refine jss_if0 (Δ1 := []) (bb := false) ?_ (fun h => by cases h) fun _ => jss_nil ⟨[_, _, none, none], .keep (.keep (.drop (.drop .nil))), by omega, rfl, rfl⟩
      refine (jw_and (b1 := true) (b2 := false) (jb_val (je_isiS T.f_isinstance T.f_str (je_var 1))) fun _ => jw_and1 ?_).jb.eq rfl
      exact (jb_eqS (je_var 2) (je_var 1)).eq (by simp [hne])
  · obtain ⟨hij, _⟩ := hI
    have := (List.getElem?_eq_some_iff.mp hj).1
    rw [List.length_map] at hij
    omega
/-! holders_with, holders_without -/
def hWith (cs : Copies) (i : Nat) (m : Str) : List Str := (cs.filter fun c => decide (markAt c.2 i = m)).map (·.1)
def hWithout (cs : Copies) (i : Nat) (m : Str) : List Str := (cs.filter fun c => !decide (markAt c.2 i = m)).map (·.1)
abbrev N_hw : List Str := ["book", "index", "mark", "holder", "row"]
theorem sc_hw : FnScope N_hw ["book", "index", "mark"] (defScope (top 15)) := ⟨rfl, rfl, rfl, by decide +kernel, rfl, by decide +kernel, by decide +kernel⟩
theorem sc_ho : FnScope N_hw ["book", "index", "mark"] (defScope (top 16)) := ⟨rfl, rfl, rfl, by decide +kernel, rfl, by decide +kernel, by decide +kernel⟩
def pm_hw (K : PySem.W.Frag) (C : Addr) (g : Copies → Nat → Str → List Str) (rs : List SV) (r : SV) : Prop := ∃ (ps : List (List Str)) (cs : Copies) (i : Nat) (m : Str), (∀ c ∈ cs, i < c.2.length) ∧ rs = [Bk K C ps cs, D K (.int i), D K (.str m)] ∧ r = D K (eS (g cs i m))
theorem ok_hw (T : Tx K mg) (B : BkF K mg C) : Ok P w K mg base 1 "holders_with" ["book", "index", "mark"] (pure0 (pm_hw K C hWith)) :=
  ok_of T.d_holders_with sc_hw (fun _ _ _ _ _ _ us hl => match us, hl with | [_, _, _], _ => rfl) (fun rs Δ r Δ' ⟨_, _, _, _, _, _, _, e, _⟩ => by rw [e]; rfl) fun f cdv A outer s H E rs Δ r Δ' hr hp => by
    obtain ⟨rfl, rfl, ps, cs, i, m, hi, rfl, rfl⟩ := hp
    refine jss_ret ((je_tupleL T.f_tuple (je_flt (l := cs) (ra := fun c => D K (eC c)) (p := fun c => decide (markAt c.2 i = m)) (f := fun c => .str c.1) (js := [3, 4]) (own := [("holder", 3), ("row", 4)]) rfl sc_hw.nd (ji_Te (je_copies B (je_var 0))) (blkOk_by (N := N_hw) (sc := defScope (top 15)) (by decide +kernel))
        (fun _ _ _ _ _ => pg_tup rfl (pgs_cons (pg_name (i := 3) sc_hw.nd rfl (Or.inl rfl)) (pgs_cons (pg_name (i := 4) sc_hw.nd rfl (Or.inl rfl)) pgs_nil))) (fun c _ => tg_pair (d1 := .str c.1) (d2 := eS c.2) 3 4) (by decide) (fun c hc _ _ _ _ _ => ?_) fun c hc _ _ _ _ _ _ => je_var 3)).eq (by unfold eS hWith; rw [List.map_map]; rfl)) fnO_rt
    exact jb_eqS (je_ixT (je_var 4) (je_var 1) (atI_map (mark_at (hi c hc)))) (je_var 2)
theorem ok_ho (T : Tx K mg) (B : BkF K mg C) : Ok P w K mg base 1 "holders_without" ["book", "index", "mark"] (pure0 (pm_hw K C hWithout)) :=
  ok_of T.d_holders_without sc_ho (fun _ _ _ _ _ _ us hl => match us, hl with | [_, _, _], _ => rfl) (fun rs Δ r Δ' ⟨_, _, _, _, _, _, _, e, _⟩ => by rw [e]; rfl) fun f cdv A outer s H E rs Δ r Δ' hr hp => by
    obtain ⟨rfl, rfl, ps, cs, i, m, hi, rfl, rfl⟩ := hp
    refine jss_ret ((je_tupleL T.f_tuple (je_flt (l := cs) (ra := fun c => D K (eC c)) (p := fun c => !decide (markAt c.2 i = m)) (f := fun c => .str c.1) (js := [3, 4]) (own := [("holder", 3), ("row", 4)]) rfl sc_ho.nd (ji_Te (je_copies B (je_var 0))) (blkOk_by (N := N_hw) (sc := defScope (top 16)) (by decide +kernel))
        (fun _ _ _ _ _ => pg_tup rfl (pgs_cons (pg_name (i := 3) sc_ho.nd rfl (Or.inl rfl)) (pgs_cons (pg_name (i := 4) sc_ho.nd rfl (Or.inl rfl)) pgs_nil))) (fun c _ => tg_pair (d1 := .str c.1) (d2 := eS c.2) 3 4) (by decide) (fun c hc _ _ _ _ _ => ?_) fun c hc _ _ _ _ _ _ => je_var 3)).eq (by unfold eS hWithout; rw [List.map_map]; rfl)) fnO_rt
    exact jb_neS (je_ixT (je_var 4) (je_var 1) (atI_map (mark_at (hi c hc)))) (je_var 2)
end
end Bl
set_option Elab.async false
set_option linter.all false
set_option maxRecDepth 100000
set_option maxHeartbeats 2000000
/-! written by gen_set.py: sets over a kind of item (texts; tuples of texts): set(xs), len, sorted -/
namespace Bl
open PySem PySem.Spec PyProof.Rows L2
open PySem.W (EachIs)

theorem each_at {α β : Type} {R : α → β → Prop} : ∀ {as : List α} {bs : List β} {i : Nat} {a : α}, EachIs R as bs → as[i]? = some a → ∃ b, bs[i]? = some b ∧ R a b
  | _, _, i, a, .nil, h => by simp at h
  | _, _, 0, a, .cons p t, h => by simp at h; subst h; exact ⟨_, rfl, p⟩
  | _, _, i + 1, a, .cons p t, h => by
    obtain ⟨b, h1, h2⟩ := each_at (i := i) t (by simpa using h)
    exact ⟨b, by simpa using h1, h2⟩
/-- the distinct ones of xs -/
structure Dd {α : Type} (ms xs : List α) : Prop where
  nd : ms.Nodup
  mem : ∀ x, x ∈ ms ↔ x ∈ xs
theorem Dd.zero {α : Type} {xs : List α} : Dd [] (xs.take 0) := ⟨List.nodup_nil, fun x => by simp⟩
theorem Dd.len {α : Type} [DecidableEq α] {ms xs : List α} (h : Dd ms xs) : ms.length ≤ xs.length := BM.nodup_sub_len h.nd fun x hx => (h.mem x).mp hx
theorem Dd.next {α : Type} [DecidableEq α] {ms ms' xs : List α} {i : Nat} {x : α} (h : Dd ms (xs.take i)) (hx : xs[i]? = some x) (p : ms'.Perm (if x ∈ ms then ms else x :: ms)) : Dd ms' (xs.take (i + 1)) := by
  have e : xs.take (i + 1) = xs.take i ++ [x] := by rw [List.take_succ, hx]; rfl
  by_cases c : x ∈ ms
  · rw [if_pos c] at p
    refine ⟨p.nodup_iff.mpr h.nd, fun y => ?_⟩
    rw [p.mem_iff, h.mem, e, List.mem_append, List.mem_singleton]
    exact ⟨.inl, fun z => z.elim id fun z => by rw [z]; exact (h.mem x).mp c⟩
  · rw [if_neg c] at p
    refine ⟨p.nodup_iff.mpr (List.nodup_cons.mpr ⟨c, h.nd⟩), fun y => ?_⟩
    rw [p.mem_iff, List.mem_cons, h.mem, e, List.mem_append, List.mem_singleton]
    exact Or.comm
theorem Dd.dd {α : Type} [DecidableEq α] (xs : List α) : Dd (BM.dd xs) xs := ⟨BM.dd_nodup xs, fun x => BM.dd_mem⟩
theorem Dd.perm {α : Type} [DecidableEq α] {ms ns xs : List α} (h : Dd ms xs) (k : Dd ns xs) : ms.Perm ns := (List.perm_ext_iff_of_nodup h.nd k.nd).mpr fun x => (h.mem x).trans (k.mem x).symm
abbrev Sub (h h' : Heap) : Prop := ∀ b o, h.get? b = some o → h'.get? b = some o
/-- sets of items of a kind: h0 the heap in which the items stand -/
structure SetK (P : Program) (w : World) (α : Type) [DecidableEq α] where
  is : Heap → α → Value → Prop
  St : Heap → Heap → Addr → List α → Prop
  keep : ∀ {h0 h h' : Heap} {a : Addr} {l : List α}, St h0 h a l → (∀ o, h.get? a = some o → h'.get? a = some o) → St h0 h' a l
  fresh : ∀ {h0 h : Heap} {a : Addr}, h.get? a = some { cls := .type "set", dict := none, data := .set #[] 0 (.fresh 0 0 (!w.params.followText "set-order")) } → St h0 h a []
  add : ∀ {A : Around} {E : Value → Shared → Prop} {s : Shared} {h0 : Heap} {a : Addr} {l : List α} {x : α} {v : Value} {Q : Bool → Shared → Prop}, A.units < cLine → Sub h0 s.heap → h0.get? a = none → is h0 x v → St h0 s.heap a l → l.length + 1 < 64 →
    (∀ b h' tk l', Heap.SameBut a s.heap h' → St h0 h' a l' → l'.Perm (if x ∈ l then l else x :: l) → s.toks ≤ tk → Q b { s with heap := h', toks := tk }) → wpAny (model P w) A (setAdd a v) Q E s
  walk : ∀ {h0 h : Heap} {a : Addr} {l : List α}, St h0 h a l → ∃ o es ep t bs, h.get? a = some o ∧ o.ExactSet ∧ o.data = .set es ep t ∧ t.fits es.size = true ∧ es.size = l.length ∧ Ris t.place.toList ∧ (w.params.followText "set-order" = true ∨ t.led = true) ∧
    bs.Perm l ∧ EachIs (fun v x => is h0 x v) (es.toList.map (·.2)) bs
section
variable {P : Program} {w : World} {α : Type} [DecidableEq α] {A : Around} {E : Value → Shared → Prop} {s : Shared}
theorem set_loop (κ : SetK P w α) {I : Addr} {fp wr : List Addr} {G : Array GenState → Array GenState → Prop} {n : Nat} {Pv : Nat → Value → Prop} {St : Nat → Shared → Prop} {R : Result → Shared → Prop} (W : WalksS P w A.in1 I fp wr G n Pv St) (S : Addr) (hSf : S ∉ fp)
    (xs : List α) (hn : n = xs.length) (hfew : xs.length < 64) (h0 : Heap) (hval : ∀ i v, Pv i v → ∃ x, xs[i]? = some x ∧ κ.is h0 x v) (hS0 : h0.get? S = none) (hw0 : ∀ b ∈ wr, h0.get? b = none) (hu : A.in1.units < cLine) :
    ∀ (k i : Nat) (s : Shared), n - i = k → i ≤ n → St i s → Sub h0 s.heap → (∃ ms, κ.St h0 s.heap S ms ∧ Dd ms (xs.take i)) →
      (∀ s' ms, Moved (S :: wr) G s s' → κ.St h0 s'.heap S ms → Dd ms (xs.take n) → Sub h0 s'.heap → R (.ok (.ret .none)) s') → codeAny (model P w) A (.builtin "set.update.loop" ⟨[.ref S, .ref I], []⟩) R s := by
  have hSw : S ∉ wr := fun h => hSf (W.sub _ h)
  have mv : ∀ {s s' : Shared}, Moved wr G s s' → Sub h0 s.heap → Sub h0 s'.heap := fun hm hk b o e => hm.heap b o (fun hb => by rw [hw0 b hb] at e; cases e) (hk b o e)
  have wide : ∀ {s s' : Shared}, Moved wr G s s' → Moved (S :: wr) G s s' := fun hm => hm.mono fun b hb => List.mem_cons_of_mem _ hb
  intro k
  induction k with
  | zero =>
    intro i s hk hi hst hsub ⟨ms, hS, g⟩ hR
    obtain rfl : i = n := by omega
    refine codeAny_builtin F.entry_set_update_loop ?_
    rw [Around.under_plainId F.plain_set_update_loop _]
    show wpAny _ A.in1 (pyNext (.ref I) >>= _) _ _ s
    exact wpAny_bind (W.done s _ _ hst fun s' hm => wpAny_pure (hR s' ms (wide hm) (κ.keep hS fun o e => hm.heap S o hSw e) g (mv hm hsub)))
  | succ k ih =>
    intro i s hk hi hst hsub ⟨ms, hS, g⟩ hR
    refine codeAny_builtin F.entry_set_update_loop ?_
    rw [Around.under_plainId F.plain_set_update_loop _]
    show wpAny _ A.in1 (pyNext (.ref I) >>= _) _ _ s
    refine wpAny_bind (W.item i s _ _ (by omega) hst fun v s' hP hst' hm => ?_)
    obtain ⟨x, hx, hv⟩ := hval i v hP
    have hl := g.len
    rw [List.length_take] at hl
    show wpAny _ A.in1 (holding [v] (setAdd S v) >>= _) _ _ s'
    refine wpAny_bind (wpAny_holding (κ.add hu (mv hm hsub) hS0 hv (κ.keep hS fun o e => hm.heap S o hSw e) (by omega) fun b h' tk ms' hsb hS2 hp ht => ?_))
    have oth : ∀ b, b ≠ S → h'.get? b = s'.heap.get? b := fun b hb => hsb.2 b hb
    refine wpAny_pure ⟨plainId_quiet F.plain_set_update_loop _, ih (i + 1) _ (by omega) (by omega) (W.frame _ s' _ _ hst' ht fun b hb o e => ?_) (fun b o e => ?_) ⟨ms', hS2, g.next hx hp⟩ fun s'' ms2 hm'' hS'' g'' hk'' => ?_⟩
    · rw [oth b fun h => hSf (by rw [← h]; exact hb)]; exact e
    · rw [oth b fun h => by rw [h, hS0] at e; cases e]; exact mv hm hsub b o e
    · refine hR s'' ms2 (Moved.trans W.gtrans ((wide hm).then_heap ht fun b o hb e => ?_) hm'') hS'' g'' hk''
      rw [oth b fun h => hb (by rw [h]; exact List.mem_cons_self)]; exact e
set_option maxHeartbeats 4000000 in
theorem call_set_by {x : Value} {Q : Value → Shared → Prop} {F0 : Obj} (hF : F0 = { cls := .type "set", dict := none, data := .set #[] 0 (.fresh 0 0 (!w.params.followText "set-order")) })
    (hi : wpAny (model P w) A.in1.in1 (Builtin.«set.__init__» ⟨[.ref s.heap.objs.size, x], []⟩)
        (fun fin s' => match fin with | .done f => wants (fun r s₂ => r = .none ∧ Q (.ref s.heap.objs.size) s₂) E (.ok f) s' | .again c' => c'.quiet = true ∧ codeAny (model P w) A.in1 c' (wants (fun r s₂ => r = .none ∧ Q (.ref s.heap.objs.size) s₂) E) s')
        (fun e s' => wants (fun r s₂ => r = .none ∧ Q (.ref s.heap.objs.size) s₂) E (.error e) s') { s with heap := s.heap.push F0 }) :
    wpAny (model P w) A (call (.type "set") [x]) Q E s := by
  obtain ⟨c, tl, hmro⟩ := PySem.F.called_set.mro
  have hmade := PySem.F.called_set.made
  have hsub := PySem.F.called_set.sub
  have h1 := PySem.F.called_set.notType
  have h2 := PySem.F.called_set.canCreate
  have hct := PySem.F.typeCall_set_1 x
  refine wpAny_call (codeAny_of_tree ?_)
  show wpAny _ _ (callAny (.type "set") _) _ _ _
  refine wpAny_pure ⟨Code.quiet_builtin _ (by decide +kernel), codeAny_builtin PySem.F.entry_type_call ?_⟩
  rw [Around.under_plain (weight_type_call_type "set" [x] []) rfl]
  repeat (any_goals (first | assumption | wp_step))
  clear h1 h2 hct hmade hmro
  refine codeAny_mono (code_set_led1 x (E := E) (Q₁ := fun obj s₁ => obj = .ref s.heap.objs.size ∧ s₁ = { s with heap := s.heap.push F0 }) ⟨rfl, by rw [hF]⟩) fun r s₁ hr => ?_
  cases r with
  | error e => exact hr
  | ok fl =>
    cases fl with
    | ret obj =>
      obtain ⟨rfl, rfl⟩ := hr
      have hS : (s.heap.push F0).get? s.heap.objs.size = some F0 := Heap.get?_push_size _ (by rw [hF]; rfl)
      have hT : Shared.TypeIs { s with heap := s.heap.push F0 } (.ref s.heap.objs.size) "set" := ⟨_, hS, by rw [hF]⟩
      have hli := PySem.F.called_set.init.lookup
      have hbi := PySem.F.called_set.init.bind (.ref s.heap.objs.size)
      clear hF hS
      repeat (any_goals (first | assumption | wp_step))
      refine codeAny_mono (codeAny_call_builtin PySem.F.called_set.init.plain PySem.F.entry_set_init (check_set_init_1 hT hi)) fun r₂ s₂ hr₂ => ?_
      cases r₂ with
      | error e => exact hr₂
      | ok fl₂ =>
        cases fl₂ with
        | ret r =>
          obtain ⟨rfl, hq⟩ := hr₂
          repeat (any_goals (first | assumption | wp_step))
        | _ => exact hr₂.elim
    | _ => exact hr.elim

theorem init_list {A' : Around} {l S : Addr} {items : Array Value} {R : Result → Shared → Prop} (hS : s.heap.get? S = some { cls := .type "set", dict := none, data := .set #[] 0 (.fresh 0 0 (!w.params.followText "set-order")) }) (hl1 : s.heap.IsList l items)
    (h : codeAny (model P w) A (.builtin "set.update.loop" ⟨[.ref S, .ref s.heap.objs.size], []⟩) (wants (fun r s' => R (.ok (.ret .none)) s') fun e s' => R (.error e) s') { s with heap := s.heap.push { cls := .type "list_iterator", data := .fields #[.ref l, .int 0 0] } }) :
    wpAny (model P w) A (Builtin.«set.__init__» ⟨[.ref S, .ref l], []⟩)
      (fun fin s' => match fin with | .done f => R (.ok f) s' | .again c' => c'.quiet = true ∧ codeAny (model P w) A' c' R s') (fun e s' => R (.error e) s') s := by
  obtain ⟨⟨ocls, odict, odata, oslots⟩, hl, hcl, n, hdl⟩ := id hl1
  simp only at hcl hdl
  subst hcl; subst hdl
  have hsls := PySem.F.sub_list_set
  have hslf := PySem.F.sub_list_frozenset
  have hne : (Value.type "list" == Value.type "dict") = false := by decide
  unfold Builtin.«set.__init__» noKeywords Builtin.Frozenset.updateFrom
  generalize hPI : pyIter = PI
  wp_walk
  subst hPI
  refine wpAny_pyIter_list hl1 ?_
  refine wpAny_bind (wpAny_runValue ?_)
  refine codeAny_mono h fun r s' hr => ?_
  cases r with
  | error e => exact hr
  | ok f =>
    cases f with
    | ret v => exact wpAny_pure (wpAny_pure hr)
    | _ => exact hr.elim
/-- set(xs), xs a list -/
theorem call_set_list (κ : SetK P w α) {l : Addr} {items : Array Value} {xs : List α} {Q : Value → Shared → Prop} (hh : A.handled = none) (hl : s.heap.IsList l items) (hit : EachIs (fun v x => κ.is s.heap x v) items.toList xs) (hfew : xs.length < 64) (hu : A.units + 3 < cLine)
    (h : ∀ (h' : Heap) (tk : Nat) ms, κ.St s.heap h' s.heap.objs.size ms → Dd ms xs → (∀ b o, s.heap.get? b = some o → h'.get? b = some o) → Q (.ref s.heap.objs.size) { s with heap := h', toks := tk }) :
    wpAny (model P w) A (call (.type "set") [.ref l]) Q E s := by
  have hisz : items.size = xs.length := by rw [← Array.length_toList]; exact hit.length
  have hl1 : (s.heap.push { cls := .type "set", dict := none, data := .set #[] 0 (.fresh 0 0 (!w.params.followText "set-order")) }).IsList l items := hl.push _
  have hS : (s.heap.push { cls := .type "set", dict := none, data := .set #[] 0 (.fresh 0 0 (!w.params.followText "set-order")) }).get? s.heap.objs.size = some { cls := .type "set", dict := none, data := .set #[] 0 (.fresh 0 0 (!w.params.followText "set-order")) } := Heap.get?_push_size _ rfl
  obtain ⟨o, hol, hcl, nl, hdl⟩ := id hl
  have hlS : l < s.heap.objs.size := Heap.lt_size hol
  have hh3 : A.in1.in1.in1.handled = none := by simp [hh]
  have hsz : (s.heap.push { cls := .type "set", dict := none, data := .set #[] 0 (.fresh 0 0 (!w.params.followText "set-order")) }).objs.size = s.heap.objs.size + 1 := Heap.size_push ..
  have hneI : l ≠ (s.heap.push { cls := .type "set", dict := none, data := .set #[] 0 (.fresh 0 0 (!w.params.followText "set-order")) }).objs.size := by rw [hsz]; exact Nat.ne_of_lt (Nat.lt_succ_of_lt hlS)
  have hSf : s.heap.objs.size ∉ [(s.heap.push { cls := .type "set", dict := none, data := .set #[] 0 (.fresh 0 0 (!w.params.followText "set-order")) }).objs.size, l] := by
    rw [hsz]
    simp only [List.mem_cons, List.mem_singleton, List.not_mem_nil, or_false, not_or]
    exact ⟨Nat.ne_of_lt (Nat.lt_succ_self _), Nat.ne_of_gt hlS⟩
  have nn : ∀ b, s.heap.objs.size ≤ b → s.heap.get? b = none := fun b hb => by
    cases q : s.heap.get? b with
    | none => rfl
    | some o => exact absurd (Nat.lt_of_lt_of_le (Heap.lt_size q) hb) (Nat.lt_irrefl _)
  refine call_set_by (F0 := { cls := .type "set", dict := none, data := .set #[] 0 (.fresh 0 0 (!w.params.followText "set-order")) }) rfl (init_list (P := P) (A := A.in1.in1) (A' := A.in1) (R := wants (fun r s₂ => r = .none ∧ Q (.ref s.heap.objs.size) s₂) E) (s := { s with heap := s.heap.push { cls := .type "set", dict := none, data := .set #[] 0 (.fresh 0 0 (!w.params.followText "set-order")) } }) hS hl1 ?_)
  refine set_loop κ ((Walks.list hh3 _ l hneI items).toS) s.heap.objs.size hSf xs hisz hfew s.heap (fun i v hv => each_at hit (by rw [Array.getElem?_toList]; exact hv)) (nn _ (Nat.le_refl _)) (fun b hb => nn b (by
            rw [List.mem_singleton.mp hb, hsz]
            exact Nat.le_succ _)) (by show A.units + 1 + 1 + 1 < cLine; omega) (items.size - 0) 0 _ (by omega) (Nat.zero_le _)
          ⟨⟨_, Heap.get?_push_size _ rfl, rfl, rfl⟩, (hl1.push _)⟩ (fun b o e => Heap.get?_push_of_some _ (Heap.get?_push_of_some _ e)) ⟨[], κ.fresh (Heap.get?_push_of_some _ hS), .zero⟩ fun s' ms hm hS' g' hkp => ?_
  obtain ⟨h', g2, d', tk', os'⟩ := s'
  have eg : g2 = s.gens := hm.gens
  have ed : d' = s.drawn := hm.drawn
  have eo : os' = s.os := hm.os
  subst eg; subst ed; subst eo
  rw [hisz, List.take_length] at g'
  exact ⟨rfl, h h' tk' ms hS' g' hkp⟩

theorem init_tuple {A' : Around} {l S : Addr} {items : Array Value} {R : Result → Shared → Prop} (hS : s.heap.get? S = some { cls := .type "set", dict := none, data := .set #[] 0 (.fresh 0 0 (!w.params.followText "set-order")) }) (hl1 : s.heap.IsTuple l items)
    (h : codeAny (model P w) A (.builtin "set.update.loop" ⟨[.ref S, .ref s.heap.objs.size], []⟩) (wants (fun r s' => R (.ok (.ret .none)) s') fun e s' => R (.error e) s') { s with heap := s.heap.push { cls := .type "tuple_iterator", data := .fields #[.ref l, .int 0 0] } }) :
    wpAny (model P w) A (Builtin.«set.__init__» ⟨[.ref S, .ref l], []⟩)
      (fun fin s' => match fin with | .done f => R (.ok f) s' | .again c' => c'.quiet = true ∧ codeAny (model P w) A' c' R s') (fun e s' => R (.error e) s') s := by
  obtain ⟨⟨ocls, odict, odata, oslots⟩, hl, hcl, n, hdl⟩ := id hl1
  simp only at hcl hdl
  subst hcl; subst hdl
  have hsls := PySem.F.sub_tuple_set
  have hslf := PySem.F.sub_tuple_frozenset
  have hne : (Value.type "tuple" == Value.type "dict") = false := by decide
  unfold Builtin.«set.__init__» noKeywords Builtin.Frozenset.updateFrom
  generalize hPI : pyIter = PI
  wp_walk
  subst hPI
  refine wpAny_pyIter_tuple hl1 ?_
  refine wpAny_bind (wpAny_runValue ?_)
  refine codeAny_mono h fun r s' hr => ?_
  cases r with
  | error e => exact hr
  | ok f =>
    cases f with
    | ret v => exact wpAny_pure (wpAny_pure hr)
    | _ => exact hr.elim
/-- set(xs), xs a tuple -/
theorem call_set_tuple (κ : SetK P w α) {l : Addr} {items : Array Value} {xs : List α} {Q : Value → Shared → Prop} (hh : A.handled = none) (hl : s.heap.IsTuple l items) (hit : EachIs (fun v x => κ.is s.heap x v) items.toList xs) (hfew : xs.length < 64) (hu : A.units + 3 < cLine)
    (h : ∀ (h' : Heap) (tk : Nat) ms, κ.St s.heap h' s.heap.objs.size ms → Dd ms xs → (∀ b o, s.heap.get? b = some o → h'.get? b = some o) → Q (.ref s.heap.objs.size) { s with heap := h', toks := tk }) :
    wpAny (model P w) A (call (.type "set") [.ref l]) Q E s := by
  have hisz : items.size = xs.length := by rw [← Array.length_toList]; exact hit.length
  have hl1 : (s.heap.push { cls := .type "set", dict := none, data := .set #[] 0 (.fresh 0 0 (!w.params.followText "set-order")) }).IsTuple l items := hl.push _
  have hS : (s.heap.push { cls := .type "set", dict := none, data := .set #[] 0 (.fresh 0 0 (!w.params.followText "set-order")) }).get? s.heap.objs.size = some { cls := .type "set", dict := none, data := .set #[] 0 (.fresh 0 0 (!w.params.followText "set-order")) } := Heap.get?_push_size _ rfl
  obtain ⟨o, hol, hcl, nl, hdl⟩ := id hl
  have hlS : l < s.heap.objs.size := Heap.lt_size hol
  have hh3 : A.in1.in1.in1.handled = none := by simp [hh]
  have hsz : (s.heap.push { cls := .type "set", dict := none, data := .set #[] 0 (.fresh 0 0 (!w.params.followText "set-order")) }).objs.size = s.heap.objs.size + 1 := Heap.size_push ..
  have hneI : l ≠ (s.heap.push { cls := .type "set", dict := none, data := .set #[] 0 (.fresh 0 0 (!w.params.followText "set-order")) }).objs.size := by rw [hsz]; exact Nat.ne_of_lt (Nat.lt_succ_of_lt hlS)
  have hSf : s.heap.objs.size ∉ [(s.heap.push { cls := .type "set", dict := none, data := .set #[] 0 (.fresh 0 0 (!w.params.followText "set-order")) }).objs.size, l] := by
    rw [hsz]
    simp only [List.mem_cons, List.mem_singleton, List.not_mem_nil, or_false, not_or]
    exact ⟨Nat.ne_of_lt (Nat.lt_succ_self _), Nat.ne_of_gt hlS⟩
  have nn : ∀ b, s.heap.objs.size ≤ b → s.heap.get? b = none := fun b hb => by
    cases q : s.heap.get? b with
    | none => rfl
    | some o => exact absurd (Nat.lt_of_lt_of_le (Heap.lt_size q) hb) (Nat.lt_irrefl _)
  refine call_set_by (F0 := { cls := .type "set", dict := none, data := .set #[] 0 (.fresh 0 0 (!w.params.followText "set-order")) }) rfl (init_tuple (P := P) (A := A.in1.in1) (A' := A.in1) (R := wants (fun r s₂ => r = .none ∧ Q (.ref s.heap.objs.size) s₂) E) (s := { s with heap := s.heap.push { cls := .type "set", dict := none, data := .set #[] 0 (.fresh 0 0 (!w.params.followText "set-order")) } }) hS hl1 ?_)
  refine set_loop κ ((Walks.tuple hh3 _ l hneI items).toS) s.heap.objs.size hSf xs hisz hfew s.heap (fun i v hv => each_at hit (by rw [Array.getElem?_toList]; exact hv)) (nn _ (Nat.le_refl _)) (fun b hb => nn b (by
            rw [List.mem_singleton.mp hb, hsz]
            exact Nat.le_succ _)) (by show A.units + 1 + 1 + 1 < cLine; omega) (items.size - 0) 0 _ (by omega) (Nat.zero_le _)
          ⟨⟨_, Heap.get?_push_size _ rfl, rfl, rfl⟩, (hl1.push _)⟩ (fun b o e => Heap.get?_push_of_some _ (Heap.get?_push_of_some _ e)) ⟨[], κ.fresh (Heap.get?_push_of_some _ hS), .zero⟩ fun s' ms hm hS' g' hkp => ?_
  obtain ⟨h', g2, d', tk', os'⟩ := s'
  have eg : g2 = s.gens := hm.gens
  have ed : d' = s.drawn := hm.drawn
  have eo : os' = s.os := hm.os
  subst eg; subst ed; subst eo
  rw [hisz, List.take_length] at g'
  exact ⟨rfl, h h' tk' ms hS' g' hkp⟩
theorem each_perm {α β : Type} {R : α → β → Prop} : ∀ {as as' : List α} {bs : List β}, EachIs R as bs → as'.Perm as → ∃ bs' : List β, bs'.Perm bs ∧ EachIs R as' bs' := by
  have key : ∀ (as as' : List α), as'.Perm as → ∀ (bs : List β), EachIs R as bs → ∃ bs' : List β, bs'.Perm bs ∧ EachIs R as' bs' := by
    intro as as' p
    induction p with
    | nil => exact fun bs e => ⟨bs, List.Perm.refl _, e⟩
    | cons x _ ih =>
      intro bs e
      cases e with
      | cons r t =>
        obtain ⟨bs', p', e'⟩ := ih _ t
        exact ⟨_ :: bs', p'.cons _, .cons r e'⟩
    | swap x y l =>
      intro bs e
      cases e with
      | cons r1 t =>
        cases t with
        | cons r2 t => exact ⟨_, List.Perm.swap _ _ _, .cons r2 (.cons r1 t)⟩
    | trans _ _ ih1 ih2 =>
      intro bs e
      obtain ⟨b1, p1, e1⟩ := ih2 _ e
      obtain ⟨b2, p2, e2⟩ := ih1 _ e1
      exact ⟨b2, p2.trans p1, e2⟩
  intro as as' bs e p
  exact key _ _ p _ e

/-- sorted(set), len(set) -/
theorem sorted_setK (κ : SetK P w α) {h0 : Heap} {a : Addr} {ms : List α} {enc : α → PyData} {Q : Value → Shared → Prop} (hh : A.handled = none) (hS : κ.St h0 s.heap a ms) (h0s : Sub h0 s.heap) (hz : ms.length < 64) (hR : ∀ v x, κ.is h0 x v → Rds h0 v (enc x)) (hO : SortOk P w A.in1.in1 enc)
    (h : ∀ s' p (out : List Value) (c : Nat) (bs : List α), Sub s.heap s'.heap → s'.gens = s.gens → s'.os = s.os → s.heap.objs.size ≤ p → s'.heap.get? p = some (seqObj "list" out.toArray c) → bs.Perm ms → EachIs (fun v x => κ.is h0 x v) out (bs.mergeSort (PySem.W.dataLe false enc)) → Q (.ref p) s') :
    wpAny (model P w) A (call (.builtin "sorted") [.ref a]) Q E s := by
  obtain ⟨o, es, ep, t, bs0, ho, hex, hd, hf, hn, hr, hl, hp, he⟩ := κ.walk hS
  refine sorted_gen (R := fun v x => κ.is h0 x v) (enc := enc) (Good := fun bs => bs.Perm ms) (fun E' Q' h' => ?_) (fun v x q => ?_) hO fun s' p out c bs k g o hp' hg hb _ e => h s' p out c bs k g o hp' hg hb e
  · refine collect_set (A := A.in1) hh ⟨o, ho, hex.1, hd⟩ hf (by unfold scanBound; omega) hr hl fun s1 vs k1 hz1 g1 o1 pm => ?_
    obtain ⟨bs, hb1, hb2⟩ := each_perm he pm
    exact h' s1 vs bs k1 hz1 g1 o1 hb2 (by rw [hb1.length_eq, hp.length_eq, sizeLine_eq]; omega) (hb1.trans hp)
  · obtain ⟨as, r⟩ := hR v x q
    exact ⟨as, PyProof.Rows.Reads.keeps h0s r⟩
theorem len_setK (κ : SetK P w α) {h0 : Heap} {a : Addr} {ms : List α} {Q : Value → Shared → Prop} (hS : κ.St h0 s.heap a ms) (hz : ms.length < 64) (h : ∀ tk tk', Q (.int ms.length tk) { s with toks := tk' }) : wpAny (model P w) A (call (.builtin "len") [.ref a]) Q E s := by
  obtain ⟨o, es, ep, t, bs0, ho, hex, hd, hf, hn, hr, hl, hp, he⟩ := κ.walk hS
  refine call_len_set ho hex hd hf (by rw [hn]; omega) ?_
  rw [hn]
  exact h _ _
end
end Bl
set_option Elab.async false
set_option linter.all false
set_option maxRecDepth 100000
set_option maxHeartbeats 2000000
/-! sets of texts -/
namespace Bl
open PySem PySem.Spec PyProof.Rows L2
open PySem.W (EachIs)
open PySem.Froz (SD sObj TxOk addTx tailTx)
section
variable {P : Program} {w : World} {A : Around} {E : Value → Shared → Prop} {s : Shared}
/-- the table can be walked -/
def TbW (w : World) (t : SetTable) : Prop := Ris t.place.toList ∧ (w.params.followText "set-order" = true ∨ t.led = true)
theorem wk_tail {ep : Nat} {es1 : Array (Int × Value)} {t2 : SetTable} {b : Bool} (h : TbW w t2) : TbW w (tailTx ep es1 t2 b).2.2 := by
  unfold tailTx
  split
  · exact ⟨relayAll_ris t2 es1 _, by rw [relayAll_led]; exact h.2⟩
  · exact h
theorem wk_add {D : SD} {k : Str} {u : Tok} (h : TbW w D.2.2) : TbW w (addTx (hashStr w k) (.str k u) D).2.2 := by
  obtain ⟨es, ep, t⟩ := D
  have h1 := layNew_ris t es (hashStr w k) (.str k u) h.1
  have h2 := layNew_led t es (hashStr w k) (.str k u)
  unfold addTx
  refine wk_tail ?_
  split
  · exact ⟨h1, by rw [show ({ (layNew t es (hashStr w k) (.str k u)).2.1 with plain := false } : SetTable).led = (layNew t es (hashStr w k) (.str k u)).2.1.led from rfl, h2]; exact h.2⟩
  · exact ⟨h1, by rw [h2]; exact h.2⟩
theorem add_old {a : Addr} {D : SD} {l : List Str} {k : Str} {u : Tok} {Q : Bool → Shared → Prop} (ho : s.heap.get? a = some (sObj "set" D)) (F : TxOk P w D l) (hk : k ∈ l) (hb : l.length < scanBound) (h : Q false s) : wpAny (model P w) A (setAddHashed a (.str k u) (hashStr w k)) Q E s := by
  obtain ⟨es, ep, t⟩ := D
  have hsz : es.size = l.length := F.sz
  have hkey : (strKind P w).is k (.str k u) = true := PySem.Froz.is_str k u
  unfold setAddHashed setAddHashedIn
  refine wpAny_holding (wpAny_bind (wpAny_setState_of ho (show (sObj "set" (es, ep, t)).data = .set es ep t from rfl) F.fit ?_))
  dsimp only
  rw [byScan_of rfl (by rw [hsz]; exact hb) F.el]
  simp only [↓reduceIte]
  unfold setAddByScan
  refine wpAny_bind (wpAny_bind (wpAny_rule (wpAny_bind (wpAny_setScan_of (knd := strKind P w) (k := k) hkey ho rfl F.fit F.el ?_))))
  obtain ⟨e, he, hp⟩ := (F.mem k).mp hk
  have q : (List.findIdx? (fun e => (strKind P w).is k e.2) es.toList).isSome = true := by
    rw [List.findIdx?_isSome, List.any_eq_true]
    exact ⟨e, he, hp⟩
  obtain ⟨j, hj⟩ := Option.isSome_iff_exists.mp q
  rw [hj]
  exact wpAny_pure (wpAny_pure h)
/-- a list without repeats that stands within one no longer -/
theorem perm_of_sub {α : Type} [DecidableEq α] : ∀ {l m : List α}, l.Nodup → (∀ x ∈ l, x ∈ m) → m.length ≤ l.length → m.Perm l
  | [], m, _, _, h => by
    obtain rfl : m = [] := List.length_eq_zero_iff.mp (Nat.le_zero.mp h)
    exact List.Perm.refl _
  | a :: r, m, n, s, h => by
    have ha := s a (List.mem_cons_self ..)
    obtain ⟨n1, n2⟩ := List.nodup_cons.mp n
    refine (List.perm_cons_erase ha).trans ((perm_of_sub n2 (fun x hx => ?_) ?_).cons a)
    · exact (List.mem_erase_of_ne fun e : x = a => n1 (by rw [← e]; exact hx)).mpr (s x (List.mem_cons_of_mem _ hx))
    · rw [List.length_erase_of_mem ha]
      simp at h
      omega
def strOf : Value → Str
  | .str x _ => x
  | _ => ⟨#[]⟩
theorem tx_walk {D : SD} {l : List Str} (F : TxOk P w D l) (n : l.Nodup) : ∃ bs : List Str, bs.Perm l ∧ EachIs (fun v x => ∃ t, v = Value.str x t) (D.1.toList.map (·.2)) bs := by
  have key : ∀ es : List (Int × Value), ElemsOf (strKind P w) es → EachIs (fun v x => ∃ t, v = Value.str x t) (es.map (·.2)) (es.map fun e => strOf e.2) := by
    intro es
    induction es with
    | nil => exact fun _ => .nil
    | cons e es ih =>
      intro h
      obtain ⟨⟨k, hk, _⟩, _⟩ := h e (List.mem_cons_self ..)
      obtain ⟨t, q⟩ := Value.isStrOf_shape hk
      exact .cons ⟨t, by show e.2 = Value.str (strOf e.2) t; rw [q]; rfl⟩ (ih fun x hx => h x (List.mem_cons_of_mem _ hx))
  refine ⟨D.1.toList.map fun e => strOf e.2, perm_of_sub n (fun x hx => ?_) ?_, key _ F.el⟩
  · obtain ⟨e, he, hk⟩ := (F.mem x).mp hx
    obtain ⟨t, q⟩ := Value.isStrOf_shape hk
    exact List.mem_map.mpr ⟨e, he, by rw [q]; rfl⟩
  · rw [List.length_map, Array.length_toList, F.sz]
    exact Nat.le_refl _
/-- the set at a has the texts l -/
def TxSt (P : Program) (w : World) (h : Heap) (a : Addr) (l : List Str) : Prop := ∃ D : SD, h.get? a = some (sObj "set" D) ∧ TxOk P w D l ∧ TbW w D.2.2 ∧ l.Nodup
theorem tx_fresh {h : Heap} {a : Addr} (e : h.get? a = some { cls := .type "set", dict := none, data := .set #[] 0 (.fresh 0 0 (!w.params.followText "set-order")) }) : TxSt P w h a [] :=
  ⟨(#[], 0, .fresh 0 0 (!w.params.followText "set-order")), e, TxOk.nil rfl, ⟨List.Pairwise.nil, by
    show _ ∨ (!w.params.followText "set-order") = true
    cases w.params.followText "set-order"
    · exact .inr rfl
    · exact .inl rfl⟩, List.nodup_nil⟩
theorem tx_add {a : Addr} {l : List Str} {k : Str} {u : Tok} {Q : Bool → Shared → Prop} (F : TxSt P w s.heap a l) (hb : l.length + 1 < 64)
    (h : ∀ b h', Heap.SameBut a s.heap h' → TxSt P w h' a (if k ∈ l then l else k :: l) → Q b { s with heap := h', toks := s.toks + 1 }) : wpAny (model P w) A (setAdd a (.str k u)) Q E s := by
  obtain ⟨D, ho, T, W, n⟩ := F
  unfold setAdd
  refine wpAny_holding (wpAny_bind ((strKind P w).pyHash (k := k) (PySem.Froz.is_str k u) ?_))
  by_cases c : k ∈ l
  · refine add_old (s := { s with toks := s.toks + 1 }) ho T c (by unfold scanBound; omega) ?_
    exact h false s.heap (Heap.SameBut.refl a s.heap) (by rw [if_pos c]; exact ⟨D, ho, T, W, n⟩)
  · refine PySem.Froz.add_x (s := { s with toks := s.toks + 1 }) ho T c (by unfold scanBound; omega) ?_
    exact h true _ (Heap.SameBut.update ..) (by rw [if_neg c]; exact ⟨_, PySem.Froz.get_upd _ ho rfl, PySem.Froz.add_ok u T, wk_add W, List.nodup_cons.mpr ⟨c, n⟩⟩)
def txK (P : Program) (w : World) : SetK P w Str where
  is _ x v := ∃ t, v = Value.str x t
  St _ h a l := TxSt P w h a l
  keep := fun ⟨D, ho, r⟩ k => ⟨D, k _ ho, r⟩
  fresh := tx_fresh
  add := fun {A E s h0 a l x v Q} _ _ _ ⟨t, e⟩ F hb h => by
    rw [e]
    exact tx_add F hb fun b h' sb F' => h b h' _ _ sb F' (List.Perm.refl _) (Nat.le_succ _)
  walk := fun {h0 h a l} ⟨D, ho, T, W, n⟩ => by
    obtain ⟨bs, h1, h2⟩ := tx_walk T n
    obtain ⟨es, ep, t⟩ := D
    exact ⟨_, es, ep, t, bs, ho, ⟨rfl, rfl, rfl⟩, rfl, T.fit, T.sz, W.1, W.2, h1, h2⟩
end
end Bl
set_option Elab.async false
set_option linter.all false
set_option maxRecDepth 100000
set_option maxHeartbeats 2000000
/-! sets of tuples of texts: found by their hashes -/
namespace Bl
open PySem PySem.Spec PyProof.Rows L2
open PySem.W (EachIs)
abbrev IsS (P : Program) (w : World) (h : Heap) (k : List Str) (a : Addr) : Prop := IsTupleKey (strKind P w) h k a
abbrev hS (P : Program) (w : World) (k : List Str) : Int := tupleKeyHash (strKind P w) k
section
variable {P : Program} {w : World} {A : Around} {E : Value → Shared → Prop} {s : Shared}
theorem isS_sub {h h' : Heap} {k : List Str} {b : Addr} (x : IsS P w h k b) (q : Sub h h') : IsS P w h' k b := by
  obtain ⟨o, items, n, ho, r⟩ := x
  exact ⟨o, items, n, q b o ho, r⟩
theorem items_str {k : List Str} {vs : List Value} (h : ItemsAre (strKind P w) k vs) : ∀ v ∈ vs, ∃ x t, v = Value.str x t := by
  induction h with
  | nil => intro v hv; cases hv
  | cons h1 _ ih =>
    intro v hv
    rcases List.mem_cons.mp hv with e | hv
    · obtain ⟨t, e2⟩ := Value.isStrOf_shape h1
      exact ⟨_, t, e.trans e2⟩
    · exact ih v hv
/-- no class statement's object is among the items -/
theorem cls_tup {k : List Str} {b : Addr} {Q : Bool → Shared → Prop} (hk : IsS P w s.heap k b) (h : Q false s) : wpAny (model P w) A (ofAClassStatement 8 (.ref b)) Q E s := by
  have hT := hk.typeIs
  obtain ⟨o, items, n, ho, _, hd, hi⟩ := hk
  unfold ofAClassStatement
  refine wpAny_bind (wpAny_typeOf hT ?_)
  dsimp only
  simp only [show (("tuple" : String) == "tuple") = true by decide, if_true, Bool.not_true, Bool.false_eq_true, if_false]
  try refine wpAny_bind (wpAny_pure ?_)
  try simp only [Bool.not_true, Bool.false_eq_true, if_false]
  show wpAny _ _ (seqItems? (.ref b) >>= _) _ _ s
  refine wpAny_bind (wpAny_seqItems ho hd ?_)
  dsimp only
  refine wpAny_bind ?_
  show wpAny _ _ (forIn items _ _) _ _ s
  rw [← Array.forIn_toList]
  refine wpAny_forIn_list _ (fun rest r s' => r.1 = none ∧ s' = s ∧ ∀ v ∈ rest, ∃ x t, v = Value.str x t) _ ?_ ?_ _ _ ⟨rfl, rfl, items_str hi⟩
  · rintro v rest r s' ⟨hr, rfl, hall⟩
    obtain ⟨x, t, rfl⟩ := hall v List.mem_cons_self
    rw [show ofAClassStatement 7 (.str x t) = pure false from rfl]
    refine wpAny_bind (wpAny_pure ?_)
    simp only [Bool.false_eq_true, if_false]
    exact wpAny_pure ⟨rfl, rfl, fun u hu => hall u (List.mem_cons_of_mem _ hu)⟩
  · rintro ⟨r1, r2⟩ s' ⟨hr, rfl, _⟩
    simp only at hr
    subst hr
    exact wpAny_pure h
/-- the empty tuple's hash is by value, any other's is not -/
theorem byv_tup {k : List Str} {b : Addr} {Q : Bool → Shared → Prop} (hk : IsS P w s.heap k b) (h : ∀ c, Q c s) : wpAny (model P w) A (hashByValue 8 (.ref b)) Q E s := by
  have hT := hk.typeIs
  obtain ⟨o, items, n, ho, _, hd, hi⟩ := hk
  unfold hashByValue
  refine wpAny_bind (wpAny_specialOf hT F.slot_tuple_hash.lookup ?_)
  show wpAny _ _ (seqItems? (.ref b) >>= _) _ _ s
  refine wpAny_bind (wpAny_seqItems ho hd ?_)
  refine wpAny_bind ?_
  show wpAny _ _ (forIn items _ _) _ _ s
  rw [← Array.forIn_toList]
  refine wpAny_forIn_list _ (fun rest r s' => r.1 = none ∧ s' = s ∧ ∀ v ∈ rest, ∃ x t, v = Value.str x t) _ ?_ ?_ _ _ ⟨rfl, rfl, items_str hi⟩
  · rintro v rest r s' ⟨hr, rfl, hall⟩
    obtain ⟨x, t, rfl⟩ := hall v List.mem_cons_self
    rw [hashByValue_scannable 7 (x := Value.str x t) rfl]
    refine wpAny_bind (wpAny_pure ?_)
    first
      | (simp only [Bool.not_true, Bool.not_false, Bool.false_eq_true, if_false, if_true]; exact wpAny_pure (wpAny_pure (h _)))
      | (simp only [Bool.not_true, Bool.not_false, Bool.false_eq_true, if_false, if_true, carriedByValue]; exact wpAny_pure (wpAny_pure (h _)))
      | (dsimp only; split <;> first | exact wpAny_pure (wpAny_pure (h _)) | exact wpAny_pure ⟨rfl, rfl, fun u hu => hall u (List.mem_cons_of_mem _ hu)⟩)
  · rintro ⟨r1, r2⟩ s' ⟨hr, rfl, _⟩
    simp only at hr
    subst hr
    exact wpAny_pure (h _)
/-- a search among tuples shows nothing -/
theorem hid_tup {k : List Str} {b : Addr} {Q : Bool → Shared → Prop} (hk : IsS P w s.heap k b) {ys : List Value} (hy : ∀ y ∈ ys, ∃ k' c, y = Value.ref c ∧ IsS P w s.heap k' c) (h : Q false s) : wpAny (model P w) A (searchCouldBeSeen (.ref b) ys) Q E s := by
  unfold searchCouldBeSeen
  refine wpAny_bind (wpAny_forIn_list _ (fun rest r s' => r.1 = none ∧ s' = s ∧ ∀ y ∈ rest, ∃ k' c, y = Value.ref c ∧ IsS P w s.heap k' c) _ ?_ ?_ _ _ ⟨rfl, rfl, hy⟩)
  · rintro v rest r s' ⟨hr, rfl, hall⟩
    obtain ⟨k', c, rfl, hc⟩ := hall v List.mem_cons_self
    have next : ∀ y ∈ rest, ∃ k' c, y = Value.ref c ∧ IsS P w s'.heap k' c := fun u hu => hall u (List.mem_cons_of_mem _ hu)
    dsimp only
    by_cases hv : (b == c || (carriedByValue (.ref b) && carriedByValue (.ref c))) = true
    · exact wp_if_pos hv (wpAny_pure ⟨rfl, rfl, next⟩)
    · refine wp_if_neg hv (wpAny_bind (wpAny_eqIsQuiet_tuple hk ?_))
      simp only [Bool.not_true, Bool.false_eq_true, if_false]
      refine wpAny_bind (wpAny_eqIsQuiet_tuple hc ?_)
      simp only [Bool.not_true, Bool.false_eq_true, if_false]
      refine wpAny_bind (cls_tup hk ?_)
      simp only [Bool.false_eq_true, if_false]
      refine wpAny_bind (cls_tup hc ?_)
      simp only [Bool.false_eq_true, if_false]
      exact wpAny_pure ⟨rfl, rfl, next⟩
  · rintro ⟨r1, r2⟩ s' ⟨hr, rfl, _⟩
    simp only at hr
    subst hr
    exact wpAny_pure h
end

/-! ### the set: L the tuples with their addresses, as they stand in its table -/
abbrev TL := List (Addr × List Str)
def rowsS (P : Program) (w : World) (L : TL) : List (Int × Value) := L.map fun p => (hS P w p.2, Value.ref p.1)
abbrev hashS (P : Program) (w : World) (L : TL) : List Int := L.map fun p => hS P w p.2
structure TuSt (P : Program) (w : World) (Gd : Addr × List Str → Prop) (h0 h : Heap) (a : Addr) (L : TL) (es : Array (Int × Value)) (ep : Nat) (t : SetTable) : Prop where
  ob : ∃ o, h.get? a = some o ∧ o.ExactSet ∧ o.data = .set es ep t
  rows : es.toList = rowsS P w L
  tab : TabOk t (hashS P w L)
  nd : (L.map (·.2)).Nodup
  tup : ∀ p ∈ L, IsS P w h0 p.2 p.1
  gd : ∀ p ∈ L, Gd p
  led : w.params.followText "set-order" = true ∨ t.led = true
  room : L.length * 5 < t.mask * 3
  few : L.length < 64
section
variable {P : Program} {w : World} {A : Around} {E : Value → Shared → Prop} {s : Shared} {Gd : Addr × List Str → Prop} {h0 : Heap} {a : Addr} {L : TL} {es : Array (Int × Value)} {ep : Nat} {t : SetTable}
theorem rows_len (h : es.toList = rowsS P w L) : es.size = L.length := by
  have := congrArg List.length h
  rwa [Array.length_toList, rowsS, List.length_map] at this
theorem rows_at (h : es.toList = rowsS P w L) {i : Nat} {p : Addr × List Str} (e : L[i]? = some p) : es[i]? = some (hS P w p.2, Value.ref p.1) := by
  rw [← Array.getElem?_toList, h, rowsS, List.getElem?_map, e]; rfl
theorem TuSt.places {h : Heap} (R : TuSt P w Gd h0 h a L es ep t) : t.place.size = L.length := by
  have := R.tab.sz
  rwa [List.length_map] at this
theorem TuSt.fits {h : Heap} (R : TuSt P w Gd h0 h a L es ep t) : t.fits es.size = true := by
  have h1 := R.places
  have h2 := rows_len R.rows
  have h3 := R.room
  unfold SetTable.fits SetTable.fill
  rw [R.tab.dm, Bool.and_eq_true, beq_iff_eq, decide_eq_true_eq]
  show t.place.size = es.size ∧ t.place.size + 0 ≤ t.mask
  omega
abbrev prb (t : SetTable) (h : Int) (c : Nat) : SetTable.Probe := nth t.mask (runAt t.mask (SetTable.bits h % (t.mask + 1)) (SetTable.bits h)) c
theorem prb_dummy {t : SetTable} {h : Int} (c : Nat) : (prb t h c).dummy = none := by
  have key : ∀ (n : Nat) (p : SetTable.Probe), p.dummy = none → (nth t.mask p n).dummy = none := by
    intro n
    induction n with
    | zero => exact fun p h => h
    | succ n ih => exact fun p h => ih (adv t.mask p) (by unfold adv; split <;> exact h)
  exact key c _ rfl
theorem prb_add {t : SetTable} {h : Int} (c q : Nat) : nth t.mask (prb t h c) q = prb t h (c + q) := (nth_add t.mask c _ q).symm
/-- from the c-th step of the way on, K the first empty slot -/
theorem find_from (R : TuSt P w Gd h0 s.heap a L es ep t) (h0s : Sub h0 s.heap) {x : Addr} {k : List Str} (hx : IsS P w s.heap k x) (hu : A.units < cLine) {K : Nat} (hKf : K < 10 * SetTable.turns t.mask)
    (hK : way t.mask (hS P w k) K ∉ t.place.toList) (hKb : ∀ c, c < K → way t.mask (hS P w k) c ∈ t.place.toList) {Q : SetFound → Shared → Prop}
    (hin : k ∈ L.map (·.2) → Q (.there none) s) (hout : k ∉ L.map (·.2) → Q (.free (way t.mask (hS P w k) K) false) s) :
    ∀ (f c : Nat) (stand : Option SetTable.Probe), stand.getD (t.probeStart (hS P w k)) = prb t (hS P w k) c → c ≤ K → K - c < f →
      (∀ (i : Nat) p, L[i]? = some p → p.2 = k → ∃ c', c ≤ c' ∧ c' < K ∧ t.place.toList[i]? = some (way t.mask (hS P w k) c')) →
      wpAny (model P w) A (setSearchFrom a (.ref x) (hS P w k) true f stand) Q E s
  | 0, c, stand, _, _, hf, _ => absurd hf (Nat.not_lt_zero _)
  | f + 1, c, stand, hst, hc, hf, ahead => by
    obtain ⟨o, ho, hex, hd⟩ := R.ob
    have tupS : ∀ p ∈ L, IsS P w s.heap p.2 p.1 := fun p hp => isS_sub (R.tup p hp) h0s
    have hA : ∀ (i : Nat) p, L[i]? = some p → (es[i]?.map (·.1)).getD 0 = hS P w p.2 := fun i p hp => by rw [rows_at R.rows hp]; rfl
    have wj : ∀ q, (nth t.mask (prb t (hS P w k) c) q).j = way t.mask (hS P w k) (c + q) := fun q => congrArg SetTable.Probe.j (prb_add c q)
    have wK : way t.mask (hS P w k) K = (nth t.mask (prb t (hS P w k) c) (K - c)).j := by rw [wj, show c + (K - c) = K by omega]
    rw [setSearchFrom_succ]
    refine wpAny_bind (wpAny_setState_of ho hd R.fits ?_)
    dsimp only
    refine wp_if_neg (by unfold SetTable.gaveWay; rw [mask_odd R.tab.mok]; decide) ?_
    try refine wpAny_bind (wpAny_pure ?_)
    rcases go_spec t R.tab.ris R.tab.dm (fun i => (es[i]?.map (·.1)).getD 0) (hS P w k) (10 * SetTable.turns t.mask) (K - c) _ (prb_dummy c) (by omega) (fun q hq => by rw [wj]; exact hKb (c + q) (by omega)) (by rw [← wK]; exact hK) with ⟨q, i, hq, hi, hh, hno, hpr⟩ | ⟨hno, hpr⟩
    · have hpr' : t.probe (fun i => (es[i]?.map (·.1)).getD 0) (hS P w k) (stand.getD (t.probeStart (hS P w k))) = some (.candidate (way t.mask (hS P w k) (c + q)) i (prb t (hS P w k) (c + (q + 1)))) := by
        rw [hst, ← wj, ← prb_add]
        exact hpr
      rw [hpr']
      dsimp only
      rw [wj] at hi
      obtain ⟨p, hp⟩ : ∃ p, L[i]? = some p := by
        have h1 := (List.getElem?_eq_some_iff.mp hi).1
        rw [Array.length_toList, R.places] at h1
        exact ⟨_, List.getElem?_eq_getElem h1⟩
      have hsl : t.slot (way t.mask (hS P w k) (c + q)) = .live i := slot_live R.tab.ris hi
      have rest : wpAny (model P w) A (searchRest a (.ref x) (hS P w k) true f es t (way t.mask (hS P w k) (c + q)) i (prb t (hS P w k) (c + (q + 1)))) Q E s := by
        unfold searchRest
        rw [rows_at R.rows hp]
        dsimp only
        refine wpAny_bind (wpAny_holding (wpAny_eqBool_tuple hu (tupS p (List.mem_of_getElem? hp)) hx ?_))
        refine wpAny_bind (wpAny_setState_of ho hd R.fits ?_)
        dsimp only
        by_cases hkk : p.2 = k
        · exact wp_if_pos (by simp [hkk]) (wpAny_pure (hin (List.mem_map.mpr ⟨p, List.mem_of_getElem? hp, hkk⟩)))
        · refine wp_if_neg (by simp [hkk]) ?_
          try refine wpAny_bind (wpAny_pure ?_)
          rw [sameMem]
          dsimp only
          simp only [if_true, hsl, rows_at R.rows hp]
          refine wpAny_bind (wpAny_isSame_ref_self (wpAny_bind (wpAny_pure ?_)))
          simp only [if_true]
          refine wp_if_neg (by simp [hkk]) ?_
          refine find_from R h0s hx hu hKf hK hKb hin hout f (c + (q + 1)) _ rfl (by omega) (by omega) fun i0 p0 e0 hk0 => ?_
          obtain ⟨c', a1, a2, a3⟩ := ahead i0 p0 e0 hk0
          refine ⟨c', ?_, a2, a3⟩
          have n1 : ¬ c' < c + q := fun z => hno (c' - c) i0 (by omega) (by rw [wj, show c + (c' - c) = c' by omega]; exact a3) ((hA i0 p0 e0).trans (congrArg (hS P w) hk0))
          have n2 : c' ≠ c + q := fun z => by
            rw [z] at a3
            have q0 := slot_live R.tab.ris a3
            rw [hsl] at q0
            injection q0 with q0
            rw [← q0, hp] at e0
            exact hkk ((congrArg Prod.snd (Option.some.inj e0)).trans hk0)
          omega
      by_cases hl : t.led = true
      · refine wp_if_neg (by simp [hl]) ?_
        try refine wpAny_bind (wpAny_pure ?_)
        exact rest
      · refine wp_if_pos (by simp [hl]) ?_
        refine wpAny_bind (hid_tup hx (fun y hy => ?_) ?_)
        · obtain ⟨e, he, rfl⟩ := List.mem_map.mp hy
          have he1 : e ∈ es.toList := by
            have : e ∈ es ∧ e.1 = hS P w k := by simpa using he
            simpa using this.1
          rw [R.rows] at he1
          obtain ⟨p2, hp2, rfl⟩ := List.mem_map.mp he1
          exact ⟨p2.2, p2.1, rfl, tupS p2 hp2⟩
        · refine wp_if_neg (by decide) ?_
          try refine wpAny_bind (wpAny_pure ?_)
          exact rest
    · have hpr' : t.probe (fun i => (es[i]?.map (·.1)).getD 0) (hS P w k) (stand.getD (t.probeStart (hS P w k))) = some (.empty (way t.mask (hS P w k) K) none) := by
        rw [hst, wK]
        exact hpr
      rw [hpr']
      dsimp only
      refine wpAny_pure (hout fun hm => ?_)
      obtain ⟨p0, m0, hk0⟩ := List.mem_map.mp hm
      obtain ⟨i0, e0⟩ := List.getElem?_of_mem m0
      obtain ⟨c', a1, a2, a3⟩ := ahead i0 p0 e0 hk0
      exact hno (c' - c) i0 (by omega) (by rw [wj, show c + (c' - c) = c' by omega]; exact a3) ((hA i0 p0 e0).trans (congrArg (hS P w) hk0))
theorem find_at (R : TuSt P w Gd h0 s.heap a L es ep t) (h0s : Sub h0 s.heap) {x : Addr} {k : List Str} (hx : IsS P w s.heap k x) (hu : A.units < cLine) {Q : SetFound → Shared → Prop} (hin : k ∈ L.map (·.2) → Q (.there none) s)
    (hout : ∀ K, k ∉ L.map (·.2) → way t.mask (hS P w k) K ∉ t.place.toList → (∀ c, c < K → way t.mask (hS P w k) c ∈ t.place.toList) → Q (.free (way t.mask (hS P w k) K) false) s) : wpAny (model P w) A (setSearch a (.ref x) (hS P w k) true) Q E s := by
  have hroom := R.room
  obtain ⟨K, hKf, hK, hKb⟩ := R.tab.first (by rw [List.length_map]; omega) (hS P w k)
  have hbig : 10 * SetTable.turns t.mask ≤ 1420 := by
    unfold SetTable.turns
    rcases R.tab.mok with e | e | e <;> omega
  unfold setSearch
  refine find_from R h0s hx hu hKf hK hKb hin (fun hn => hout K hn hK hKb) 100000 0 none rfl (Nat.zero_le _) (by omega) fun i p hp hk => ?_
  have hi : (hashS P w L)[i]? = some (hS P w k) := by rw [List.getElem?_map, hp, ← hk]; rfl
  have hil : i < t.place.toList.length := by
    rw [Array.length_toList, R.places]
    exact (List.getElem?_eq_some_iff.mp hp).1
  obtain ⟨c, hc, e⟩ := R.tab.before hK hi (List.getElem?_eq_getElem hil)
  exact ⟨c, Nat.zero_le _, hc, by rw [List.getElem?_eq_getElem hil, e]⟩

/-! ### laid anew -/
theorem fm_map {α β : Type} {f : α → Option β} {g : α → β} : ∀ {l : List α}, (∀ i ∈ l, f i = some (g i)) → l.filterMap f = l.map g
  | [], _ => rfl
  | i :: l, h => by rw [List.filterMap_cons_some (h i (List.mem_cons_self ..)), List.map_cons, fm_map fun j hj => h j (List.mem_cons_of_mem _ hj)]
theorem fm_range {α : Type} (L : List α) : ∀ n, n ≤ L.length → (List.range n).filterMap (fun i => L[i]?) = L.take n
  | 0, _ => rfl
  | n + 1, h => by
    rw [List.range_succ, List.filterMap_append, fm_range L n (Nat.le_of_lt h), List.take_succ, List.getElem?_eq_getElem h, List.filterMap_cons_some (List.getElem?_eq_getElem h)]
    rfl
theorem reorder {order : Array Nat} (hr : es.toList = rowsS P w L) (hp : order.toList.Perm (List.range L.length)) :
    ∃ L2 : TL, (order.filterMap (es[·]?)).toList = rowsS P w L2 ∧ L2.Perm L ∧ hashS P w L2 = order.toList.map fun i => (es.map (·.1)).getD i 0 := by
  have e1 : ∀ i : Nat, es[i]? = (L[i]?).map fun p => (hS P w p.2, Value.ref p.1) := fun i => by rw [← Array.getElem?_toList, hr, rowsS, List.getElem?_map]
  refine ⟨order.toList.filterMap fun i => L[i]?, ?_, ?_, ?_⟩
  · rw [Array.toList_filterMap, rowsS, List.map_filterMap]
    exact congrArg (fun f => List.filterMap f order.toList) (funext e1)
  · have q := hp.filterMap fun i => L[i]?
    rwa [fm_range L _ (Nat.le_refl _), List.take_length] at q
  · rw [hashS, List.map_filterMap]
    refine fm_map fun i hi => ?_
    have hl : i < L.length := List.mem_range.mp (hp.mem_iff.mp hi)
    have e2 : (es.map (·.1))[i]? = some (hS P w (L[i]).2) := by rw [Array.getElem?_map, e1, List.getElem?_eq_getElem hl]; rfl
    rw [List.getElem?_eq_getElem hl, Array.getD_eq_getD_getElem?, e2]
    rfl
theorem relay_tup {o : Obj} (ho : s.heap.get? a = some o) (hex : o.ExactSet) (hd : o.data = .set es ep t) (hrows : es.toList = rowsS P w L) (hsz : t.place.size = es.size) (hdm : t.dummies = #[]) (hfl : es.size ≤ t.mask) (nd : (L.map (·.2)).Nodup) (tup : ∀ p ∈ L, IsS P w h0 p.2 p.1) (gd : ∀ p ∈ L, Gd p)
    (ld : w.params.followText "set-order" = true ∨ t.led = true) (few : L.length < 64) {wanted M : Nat} (hw : SetTable.sizeAbove wanted - 1 = M) (hM : MaskOk M) (hw2 : SetTable.sizeAbove wanted ≤ 128) (hn : L.length * 5 < M * 3) {Q : Unit → Shared → Prop}
    (hQ : ∀ h' L' es' ep' t', Heap.SameBut a s.heap h' → TuSt P w Gd h0 h' a L' es' ep' t' → L'.Perm L → Q () { s with heap := h' }) : wpAny (model P w) A (setRelay a wanted) Q E s := by
  have hsl := rows_len hrows
  have hfits : t.fits es.size = true := by
    unfold SetTable.fits SetTable.fill
    rw [hdm, Bool.and_eq_true, beq_iff_eq, decide_eq_true_eq]
    show t.place.size = es.size ∧ t.place.size + 0 ≤ t.mask
    omega
  obtain ⟨t', order, e, hp, T, em, el, ep', ed⟩ := relaid_ok t (hs := es.map (·.1)) (wanted := wanted) hw hM (by rw [Array.size_map, hsl]; omega)
  rw [Array.size_map, hsl] at hp
  obtain ⟨L2, r1, r2, r3⟩ := reorder hrows hp
  rw [← r3] at T
  have hs2 : (order.filterMap (es[·]?)).size = es.size := by rw [rows_len r1, r2.length_eq, hsl]
  rw [setRelay_eq]
  refine wpAny_bind (wpAny_setState_of ho hd hfits ?_)
  dsimp only
  refine wp_if_neg (by rw [sizeLine_eq]; omega) ?_
  try refine wpAny_bind (wpAny_pure ?_)
  rw [e]
  dsimp only
  refine wpAny_bind (wp_if_neg (by rw [hs2]; simp) ?_)
  try refine wpAny_bind (wpAny_pure ?_)
  refine wpAny_pure ?_
  dsimp only
  refine wpAny_storeSet_of ho hd ?_ (by rw [hs2, hsl, sizeLine_eq]; omega)
  exact hQ _ L2 (order.filterMap (es[·]?)) (ep + 1) t' (Heap.SameBut.update ..) ⟨⟨_, store_at ho hd, ⟨hex.1, hex.2.1, hex.2.2⟩, rfl⟩, r1, T, (r2.map (·.2)).nodup_iff.mpr nd, fun p hpm => tup p (r2.mem_iff.mp hpm), fun p hpm => gd p (r2.mem_iff.mp hpm), by rw [el]; exact ld, by rw [r2.length_eq, em]; exact hn, by rw [r2.length_eq]; exact few⟩ r2
/-- adding -/
theorem put_tup (R : TuSt P w Gd h0 s.heap a L es ep t) (h0s : Sub h0 s.heap) {x : Addr} {k : List Str} (hx0 : IsS P w h0 k x) (hg0 : Gd (x, k)) (hu : A.units < cLine) (hfew : L.length + 1 < 64) {Q : Bool → Shared → Prop}
    (hQ : ∀ b h' L' es' ep' t', Heap.SameBut a s.heap h' → TuSt P w Gd h0 h' a L' es' ep' t' → (L'.map (·.2)).Perm (if k ∈ L.map (·.2) then L.map (·.2) else k :: L.map (·.2)) → Q b { s with heap := h' }) : wpAny (model P w) A (setAddHashed a (.ref x) (hS P w k)) Q E s := by
  have hx := isS_sub hx0 h0s
  obtain ⟨o, ho, hex, hd⟩ := R.ob
  have hsl := rows_len R.rows
  have hroom := R.room
  unfold setAddHashed
  refine wpAny_holding ?_
  rw [show (100000 : Nat) = 99999 + 1 from rfl, setAddHashedIn_succ]
  refine wpAny_bind (wpAny_setState_of ho hd R.fits ?_)
  dsimp only
  refine wp_if_neg (by simp [byScan, Value.scannable]) ?_
  try refine wpAny_bind (wpAny_pure ?_)
  refine wpAny_bind (find_at R h0s hx hu (fun hm => ?_) fun K hm hK hb => ?_)
  · exact wpAny_pure (hQ false s.heap L es ep t (Heap.SameBut.refl a s.heap) R (by rw [if_pos hm]))
  · dsimp only
    refine wpAny_bind (wpAny_setState_of ho hd R.fits ?_)
    dsimp only
    obtain ⟨q1, q2, q3, q4, q5, _, _, _, q9⟩ := R.tab.put hK hb
    generalize hpt : t.put (way t.mask (hS P w k) K) = pt at q1 q3 q4 q5 q9 ⊢
    obtain ⟨t1, p⟩ := pt
    dsimp only at q1 q3 q4 q5 q9 ⊢
    subst q1
    -- whether its hash is by value does not matter
    have go : ∀ t2 : SetTable, t2.place = t1.place → t2.dummies = t1.dummies → t2.mask = t1.mask → t2.led = t1.led → wpAny (model P w) A (do
          storeSet a (SetTable.insertAt es (SetTable.below t.place (way t.mask (hS P w k) K)) (hS P w k, Value.ref x)) t2
          if (!false && t2.tooFull) = true then do
            setRelay a (SetTable.grown (es.size + 1))
            return true
          else return true) Q E s := by
      intro t2 g1 g2 g3 g4
      have T2 : TabOk t2 ((hashS P w L).take (SetTable.below t.place (way t.mask (hS P w k) K)) ++ hS P w k :: (hashS P w L).drop (SetTable.below t.place (way t.mask (hS P w k) K))) :=
        ⟨by rw [g1]; exact q3.ris, by rw [g2]; exact q3.dm, by rw [g1]; exact q3.sz, by rw [g3]; exact q3.mok, by rw [g1, g3]; exact q3.bd, by rw [g1, g3]; exact q3.reach⟩
      have f2 : t2.fill = (hashS P w L).length + 1 := by
        rw [← q9]
        unfold SetTable.fill
        rw [g1, g2]
      generalize SetTable.below t.place (way t.mask (hS P w k) K) = p at q2 T2 ⊢
      have pm : (L.take p ++ (x, k) :: L.drop p).Perm ((x, k) :: L) := by
        have h : (L.take p ++ (x, k) :: L.drop p).Perm ((x, k) :: (L.take p ++ L.drop p)) := List.perm_middle
        rwa [List.take_append_drop] at h
      have hin : (SetTable.insertAt es p (hS P w k, Value.ref x)).toList = rowsS P w (L.take p ++ (x, k) :: L.drop p) := by
        rw [SetTable.toList_insertAt, R.rows, rowsS, rowsS, List.map_append, List.map_cons, List.map_take, List.map_drop]
      have T3 : TabOk t2 (hashS P w (L.take p ++ (x, k) :: L.drop p)) := by
        rw [hashS, List.map_append, List.map_cons, List.map_take, List.map_drop]
        exact T2
      have hlen : (L.take p ++ (x, k) :: L.drop p).length = L.length + 1 := pm.length_eq
      have nd1 : ((L.take p ++ (x, k) :: L.drop p).map (·.2)).Nodup := (pm.map (·.2)).nodup_iff.mpr (List.nodup_cons.mpr ⟨hm, R.nd⟩)
      have tup1 : ∀ q ∈ L.take p ++ (x, k) :: L.drop p, IsS P w h0 q.2 q.1 := fun q hq => by
        rcases List.mem_cons.mp (pm.mem_iff.mp hq) with e | hq
        · rw [e]; exact hx0
        · exact R.tup q hq
      have gd1 : ∀ q ∈ L.take p ++ (x, k) :: L.drop p, Gd q := fun q hq => by
        rcases List.mem_cons.mp (pm.mem_iff.mp hq) with e | hq
        · rw [e]; exact hg0
        · exact R.gd q hq
      have fin : ((L.take p ++ (x, k) :: L.drop p).map (·.2)).Perm (if k ∈ L.map (·.2) then L.map (·.2) else k :: L.map (·.2)) := by rw [if_neg hm]; exact pm.map (·.2)
      have hes := rows_len hin
      generalize SetTable.insertAt es p (hS P w k, Value.ref x) = es1 at hin hes ⊢
      generalize L.take p ++ (x, k) :: L.drop p = L1 at hin T3 hlen nd1 tup1 gd1 fin hes
      rw [hlen] at hes
      refine wpAny_bind (wpAny_storeSet_of ho hd ?_ (by rw [hes, sizeLine_eq]; omega))
      have sb : Heap.SameBut a s.heap (s.heap.update a (Obj.putSet es1 t2)) := Heap.SameBut.update ..
      have ho1 := store_at (es' := es1) (t' := t2) ho hd
      have ld1 : w.params.followText "set-order" = true ∨ t2.led = true := by rw [g4, q5]; exact R.led
      have hfull := f2
      rw [List.length_map] at hfull
      by_cases hf : t2.tooFull = true
      · refine wp_if_pos (by simp [hf]) (wpAny_bind ?_)
        have hge : (L.length + 1) * 5 ≥ t2.mask * 3 := by
          have h := hf
          unfold SetTable.tooFull at h
          rwa [decide_eq_true_eq, hfull] at h
        rw [g3, q4] at hge
        rw [hsl]
        have hpl : t2.place.size = es1.size := by
          have := T3.sz
          rw [List.length_map, hlen] at this
          rw [this, hes]
        have two : (t.mask = 7 ∧ L.length = 4) ∨ (t.mask = 31 ∧ L.length = 18) := by
          rcases R.tab.mok with e | e | e
          · left; rw [e] at hge hroom; exact ⟨e, by omega⟩
          · right; rw [e] at hge hroom; exact ⟨e, by omega⟩
          · exfalso; rw [e] at hge; omega
        have big : ∀ M, SetTable.sizeAbove (SetTable.grown (L.length + 1)) - 1 = M → MaskOk M → SetTable.sizeAbove (SetTable.grown (L.length + 1)) ≤ 128 → (L.length + 1) * 5 < M * 3 →
            wpAny (model P w) A (setRelay a (SetTable.grown (L.length + 1))) (fun _ s' => wpAny (model P w) A (pure true) Q E s') E { s with heap := s.heap.update a (Obj.putSet es1 t2) } := fun M b1 b2 b3 b4 =>
          relay_tup (s := { s with heap := s.heap.update a (Obj.putSet es1 t2) }) ho1 ⟨hex.1, hex.2.1, hex.2.2⟩ rfl hin hpl T3.dm (by rw [hes, g3, q4]; rcases two with ⟨e, e2⟩ | ⟨e, e2⟩ <;> omega) nd1 tup1 gd1 ld1 (by rw [hlen]; exact hfew) b1 b2 b3 (by rw [hlen]; exact b4)
            fun h2 L2 es2 ep2 t3 sb2 R2 pm2 => wpAny_pure (hQ true h2 L2 es2 ep2 t3 (sb.trans sb2) R2 ((pm2.map (·.2)).trans fin))
        rcases two with ⟨_, e2⟩ | ⟨_, e2⟩
        · exact big 31 (by rw [e2, size_20]) (.inr (.inl rfl)) (by rw [e2, size_20]; decide) (by omega)
        · exact big 127 (by rw [e2, size_76]) (.inr (.inr rfl)) (by rw [e2, size_76]; decide) (by omega)
      · refine wp_if_neg (by simp [hf]) (wpAny_pure (hQ true _ L1 es1 (ep + 1) t2 sb ⟨⟨_, ho1, ⟨hex.1, hex.2.1, hex.2.2⟩, rfl⟩, hin, T3, nd1, tup1, gd1, ld1, ?_, by rw [hlen]; exact hfew⟩ fin))
        have h := hf
        unfold SetTable.tooFull at h
        rw [decide_eq_true_eq, hfull] at h
        rw [hlen]
        omega
    by_cases hpl : t1.plain = true
    · refine wp_if_pos hpl (wpAny_bind (byv_tup hx fun c => ?_))
      cases c with
      | true => exact go t1 rfl rfl rfl rfl
      | false => exact go { t1 with plain := false } rfl rfl rfl rfl
    · refine wp_if_neg hpl ?_
      try refine wpAny_bind (wpAny_pure ?_)
      exact go t1 rfl rfl rfl rfl
def tuK (P : Program) (w : World) (Gd : Addr × List Str → Prop) : SetK P w (List Str) where
  is h x v := ∃ b, v = Value.ref b ∧ IsS P w h x b ∧ Gd (b, x)
  St h0 h a l := ∃ L es ep t, TuSt P w Gd h0 h a L es ep t ∧ (L.map (·.2)).Perm l
  keep := fun ⟨L, es, ep, t, R, p⟩ k => by
    obtain ⟨o, ho, r⟩ := R.ob
    exact ⟨L, es, ep, t, ⟨⟨o, k o ho, r⟩, R.rows, R.tab, R.nd, R.tup, R.gd, R.led, R.room, R.few⟩, p⟩
  fresh := fun {h0 h a} ho => ⟨[], #[], 0, _, ⟨⟨_, ho, ⟨rfl, rfl, rfl⟩, rfl⟩, rfl, ⟨List.Pairwise.nil, rfl, rfl, .inl rfl, fun x hx => (by cases hx), fun i h j hi => (by simp at hi)⟩, List.nodup_nil, fun p hp => (by cases hp), fun p hp => (by cases hp), by
      show _ ∨ (!w.params.followText "set-order") = true
      cases w.params.followText "set-order"
      · exact .inr rfl
      · exact .inl rfl, by show 0 * 5 < 7 * 3; decide, by show 0 < 64; decide⟩, List.Perm.refl _⟩
  add := fun {A E s h0 a l x v Q} hu h0s ha0 ⟨b, e, hx, hg⟩ ⟨L, es, ep, t, R, p⟩ hb h => by
    rw [e]
    unfold setAdd
    refine wpAny_holding (wpAny_bind (wpAny_pyHash_tuple hu (isS_sub hx h0s) ?_))
    have hl : L.length = l.length := by rw [← p.length_eq, List.length_map]
    refine put_tup (s := { s with toks := s.toks + (x.length + 1) }) R h0s hx hg hu (by omega) fun b h' L' es' ep' t' sb R' pm => h b h' _ (L'.map (·.2)) sb ⟨L', es', ep', t', R', List.Perm.refl _⟩ ?_ (Nat.le_add_right _ _)
    by_cases c : x ∈ L.map (·.2)
    · rw [if_pos c] at pm
      rw [if_pos (p.mem_iff.mp c)]
      exact pm.trans p
    · rw [if_neg c] at pm
      rw [if_neg fun z => c (p.mem_iff.mpr z)]
      exact pm.trans (p.cons x)
  walk := fun {h0 h a l} ⟨L, es, ep, t, R, p⟩ => by
    obtain ⟨o, ho, hex, hd⟩ := R.ob
    have hl : L.length = l.length := by rw [← p.length_eq, List.length_map]
    have hf : t.fits es.size = true := R.fits
    refine ⟨o, es, ep, t, L.map (·.2), ho, hex, hd, hf, by rw [rows_len R.rows, hl], R.tab.ris, R.led, p, ?_⟩
    rw [R.rows, rowsS, List.map_map]
    have key : ∀ M : TL, (∀ q ∈ M, IsS P w h0 q.2 q.1 ∧ Gd q) → EachIs (fun v x => ∃ b, v = Value.ref b ∧ IsS P w h0 x b ∧ Gd (b, x)) (M.map ((fun x => x.2) ∘ fun p => (hS P w p.2, Value.ref p.1))) (M.map (·.2)) := by
      intro M
      induction M with
      | nil => exact fun _ => .nil
      | cons q M ih => exact fun k => .cons ⟨q.1, rfl, k q (List.mem_cons_self ..)⟩ (ih fun r hr => k r (List.mem_cons_of_mem _ hr))
    exact key L fun q hq => ⟨R.tup q hq, R.gd q hq⟩
end
end Bl
set_option Elab.async false
set_option linter.all false
set_option maxRecDepth 100000
set_option maxHeartbeats 2000000
/-! sorted(set(xs)), len(set(xs)) as expressions -/
namespace Bl
open PySem PySem.Spec PyProof.Rows L2
open PySem.W (EachIs)
/-- a kind of item as data: G the heap that shows them -/
structure KindOk (X : Cx) {α : Type} [DecidableEq α] (enc : α → PyData) (κ : Hp → SetK X.prog X.w α) : Prop where
  to : ∀ {pins : List (Addr × Obj)} {σ : L2.St} {G H : Hp} {s : Shared} {v : V} {u : Value} {x : α}, Inv X pins σ H s → Same G H → RelV v u → Dp X.K G v (enc x) → (κ G).is s.heap x u
  of : ∀ {G : Hp} {h : Heap} {u : Value} {x : α}, (κ G).is h x u → ∃ v, RelV v u ∧ Dp X.K G v (enc x)
  rds : ∀ {G : Hp} {h : Heap} {u : Value} {x : α}, (κ G).is h x u → Rds h u (enc x)
section
variable {X : Cx}
theorem kind_str : KindOk X PyData.str fun _ => txK X.prog X.w where
  to := fun _ _ r d => by
    cases d
    obtain ⟨t, e⟩ := r
    exact ⟨t, e⟩
  of := fun {G h u x} ⟨t, e⟩ => ⟨.str x, ⟨t, e⟩, .str x⟩
  rds := fun {G h u x} ⟨t, e⟩ => by
    subst e
    exact ⟨_, Reads.str x t⟩
theorem items_of {P : Program} {w : World} : ∀ {x : List Str} {us : List Value}, Vals (x.map V.str) us → ItemsAre (PySem.strKind P w) x us
  | [], _, .nil => .nil
  | a :: x, _, .cons r t => by
    obtain ⟨k, rfl⟩ := r
    exact .cons (PySem.Froz.is_str a k) (items_of t)
theorem reads_items {P : Program} {w : World} {h : Heap} : ∀ {x : List Str} {us : List Value}, ItemsAre (PySem.strKind P w) x us → ∃ as, ReadsAll h us (x.map PyData.str) as
  | [], _, .nil => ⟨_, .nil⟩
  | a :: x, _, .cons r t => by
    obtain ⟨k, rfl⟩ := Value.isStrOf_shape r
    obtain ⟨as, q⟩ := reads_items t
    exact ⟨_, .cons (.str a k) q⟩
theorem kind_eS : KindOk X eS fun G => tuK X.prog X.w fun p => Dp X.K G (.ref p.1) (eS p.2) where
  to := fun {pins σ G H s v u x} I sg r d => by
    have d0 := d
    have d' : Dp X.K G v (.tuple (x.map .str)) := d
    cases d' with
    | @tup a xs ds sq al =>
      cases r
      obtain ⟨its, rv, pl, _⟩ := I.tuple (sqt_same sg sq)
      rw [dps_strs al] at rv
      obtain ⟨o, ho, hc, n, hd⟩ := pl
      exact ⟨a, rfl, ⟨o, _, n, ho, hc, hd, items_of rv⟩, d0⟩
  of := fun {G h u x} ⟨b, e, _, d⟩ => ⟨.ref b, by rw [e]; rfl, d⟩
  rds := fun {G h u x} ⟨b, e, ⟨o, items, n, ho, hc, hd, hi⟩, _⟩ => by
    obtain ⟨as, q⟩ := reads_items (h := h) hi
    subst e
    exact ⟨_, Reads.tuple ho hc hd q⟩
variable {α : Type} [DecidableEq α] {enc : α → PyData} {κ : Hp → SetK X.prog X.w α} {e a : Expr} {ta : TE} {p p2 q pos : Pos} {Γ : Gm} {Δ Δ1 : Cs} {r : SV} {bs : List α}
theorem each_kind (k : KindOk X enc κ) {pins : List (Addr × Obj)} {σ : L2.St} {G H : Hp} {s : Shared} (I : Inv X pins σ H s) (sg : Same G H) : ∀ {bs : List α} {xs : List V} {us : List Value}, Vals xs us → DpAll X.K G xs (bs.map enc) → EachIs (fun v x => (κ G).is s.heap x v) us bs
  | [], _, _, r, h => by
    have h' : DpAll X.K G _ [] := h
    cases h'
    cases r
    exact .nil
  | b :: bs, _, _, r, h => by
    have h' : DpAll X.K G _ (enc b :: bs.map enc) := h
    cases h' with
    | cons d t =>
      cases r with
      | cons u r => exact .cons (k.to I sg u d) (each_kind k I sg r t)
/-- what a value is whose set is made -/
def SeqD (K : PySem.W.Frag) {β : Type} (enc : β → PyData) (bs : List β) (x : V) (G : Hp) : Prop := ∃ l xs, x = .ref l ∧ (SqL K G l xs ∨ SqT K G l xs) ∧ DpAll K G xs (bs.map enc)
/-- set(e) -/
theorem call_setD (k : KindOk X enc κ) (hc : X.calm = true) {pins : List (Addr × Obj)} {σ : L2.St} {G H : Hp} {s : Shared} {x : V} {u : Value} {E : Value → Shared → Prop} {Q : Value → Shared → Prop} (I : Inv X pins σ H s) (sg : Same G H) (rx : RelV x u) (sq : SeqD X.K enc bs x G) (hz : bs.length < 64) (hu : X.A.units + 3 < cLine)
    (h : ∀ (h' : Heap) (tk : Nat) ms, (κ G).St s.heap h' s.heap.objs.size ms → Dd ms bs → Sub s.heap h' → Q (.ref s.heap.objs.size) { s with heap := h', toks := tk }) : wpAny (model X.prog X.w) X.A (call (.type "set") [u]) Q E s := by
  obtain ⟨l, xs, rfl, hq, dp⟩ := sq
  cases rx
  rcases hq with hq | hq
  · obtain ⟨its, rv, pl, _⟩ := I.list (sql_same sg hq)
    exact call_set_list (κ G) (I.ok.hd hc) pl.isList (by simpa using each_kind k I sg rv dp) hz hu h
  · obtain ⟨its, rv, pl, _⟩ := I.tuple (sqt_same sg hq)
    exact call_set_tuple (κ G) (I.ok.hd hc) pl (by simpa using each_kind k I sg rv dp) hz hu h
theorem je_sset (k : KindOk X enc κ) (hc : X.calm = true) (hO : SortOk X.prog X.w X.A.in1.in1 enc) (hu : X.A.units + 3 < cLine) (hm : X.mg "sorted" = none) (hm2 : X.mg "set" = none) (ha : JE X Δ Γ a r Δ1) (hr : ∀ v G, r.P v G → SeqD X.K enc bs v G ∧ AllOk (bs.map enc)) (hz : bs.length < 64)
    (hg : Gl X "sorted" := by rfl) (hg2 : Gl X "set" := by rfl) (na : starEach [a] X.env = (false, eval a X.env) :: starEach [] X.env := by rfl) :
    JE X Δ Γ (.Call (.Name "sorted" p) [.Call (.Name "set" p2) [a] [] q] [] pos) (SV.ex (fun ds => ∃ bs' : List α, Dd bs' bs ∧ ds = (bs'.mergeSort (PySem.W.dataLe false enc)).map enc) (L X.K)) Δ1 := by
  refine ⟨fun pins s σ G H I hs sl => ?_⟩
  refine Call_ (ld_blt I hg hm boot_sortedB ?_)
  refine PyProof.Rows.callWith_builtin1 (PyProof.Rows.args_cons ?_ rfl) rfl rfl
  refine Call_ (ld_blt I hg2 hm2 boot_setT ?_)
  refine PyProof.Rows.callWith_type1 (PyProof.Rows.args_cons (thn (ha.run pins s σ G H I hs sl) fun u s1 ⟨v, H1, I1, r1, G1, t1, p1⟩ => PyProof.Rows.args_nil ?_) na) na rfl
  obtain ⟨sq, ok⟩ := hr v G1 p1
  refine call_setD k hc I1 t1.hs.sub r1 sq hz hu fun h' tk ms S g sb => PyProof.Rows.args_nil ?_
  have I2 : Inv X pins σ H1 { s1 with heap := h', toks := tk } := I1.kept sb
  have hl := g.len
  refine sorted_setK (s := { s1 with heap := h', toks := tk }) (κ G1) (I1.ok.hd hc) S sb (by omega) (fun u x q => k.rds q) hO fun s' pp out c bs' kk gg oo hp hgg pm e => ?_
  have e2 : EachIs (Stands X.K G1 enc) out (bs'.mergeSort (PySem.W.dataLe false enc)) := e.mono fun u x q => k.of q
  have dd : Dd bs' bs := ⟨pm.nodup_iff.mpr g.nd, fun x => pm.mem_iff.trans (g.mem x)⟩
  refine sorted_end I2 kk gg oo hp hgg (by rw [List.length_mergeSort, pm.length_eq, sizeLine_eq]; omega) e2 fun ys dp hn => ⟨_, t1.trans ((Up.new t1.hs.sub hn).up0 t1.hs), _, ⟨bs', dd, rfl⟩, new_lst (none_of_sub t1.hs.sub hn) dp fun d hd => ?_⟩
  obtain ⟨x, hx, rfl⟩ := List.mem_map.mp hd
  exact ok _ (List.mem_map.mpr ⟨x, (dd.mem x).mp ((List.mergeSort_perm bs' _).mem_iff.mp hx), rfl⟩)
theorem je_lset (k : KindOk X enc κ) (hc : X.calm = true) (hu : X.A.units + 3 < cLine) (hm : X.mg "len" = none) (hm2 : X.mg "set" = none) (ha : JE X Δ Γ a r Δ1) (hr : ∀ v G, r.P v G → SeqD X.K enc bs v G) (hz : bs.length < 64)
    (hg : Gl X "len" := by rfl) (hg2 : Gl X "set" := by rfl) (na : starEach [a] X.env = (false, eval a X.env) :: starEach [] X.env := by rfl) :
    JE X Δ Γ (.Call (.Name "len" p) [.Call (.Name "set" p2) [a] [] q] [] pos) (D X.K (.int (BM.dd bs).length)) Δ1 := by
  refine ⟨fun pins s σ G H I hs sl => ?_⟩
  refine Call_ (ld_blt I hg hm boot_lenB ?_)
  refine PyProof.Rows.callWith_builtin1 (PyProof.Rows.args_cons ?_ rfl) rfl rfl
  refine Call_ (ld_blt I hg2 hm2 boot_setT ?_)
  refine PyProof.Rows.callWith_type1 (PyProof.Rows.args_cons (thn (ha.run pins s σ G H I hs sl) fun u s1 ⟨v, H1, I1, r1, G1, t1, p1⟩ => PyProof.Rows.args_nil ?_) na) na rfl
  refine call_setD k hc I1 t1.hs.sub r1 (hr v G1 p1) hz hu fun h' tk ms S g sb => PyProof.Rows.args_nil ?_
  have hl := g.len
  refine len_setK (s := { s1 with heap := h', toks := tk }) (κ G1) S (by omega) fun tk1 tk2 => ?_
  rw [(g.perm (.dd bs)).length_eq]
  exact ⟨.int _, H1, I1.kept (t' := tk2) sb, ⟨_, rfl⟩, G1, t1, d_int _⟩
theorem je_sset2 (k : KindOk X enc κ) {lt : α → α → Bool} (o : BM.SO lt) (hle : PySem.W.dataLe false enc = fun a b => !lt b a) (hc : X.calm = true) (hO : SortOk X.prog X.w X.A.in1.in1 enc) (hu : X.A.units + 3 < cLine) (hm : X.mg "sorted" = none) (hm2 : X.mg "set" = none) (ha : JE X Δ Γ a r Δ1) (hr : ∀ v G, r.P v G → SeqD X.K enc bs v G ∧ AllOk (bs.map enc)) (hz : bs.length < 64)
    (hg : Gl X "sorted" := by rfl) (hg2 : Gl X "set" := by rfl) (na : starEach [a] X.env = (false, eval a X.env) :: starEach [] X.env := by rfl) :
    JE X Δ Γ (.Call (.Name "sorted" p) [.Call (.Name "set" p2) [a] [] q] [] pos) (L X.K ((BM.ss lt bs).map enc)) Δ1 :=
  (je_sset k hc hO hu hm hm2 ha hr hz hg hg2 na).to fun v G ⟨ds, ⟨bs', dd, e⟩, pv⟩ => by
    have e2 : bs'.mergeSort (PySem.W.dataLe false enc) = BM.ss lt bs := by
      rw [hle]
      show BM.srt lt bs' = BM.srt lt (BM.dd bs)
      exact BM.srt_eq o dd.nd (BM.dd_nodup bs) fun x => (dd.mem x).trans BM.dd_mem.symm
    rw [e, e2] at pv
    exact pv
variable {l : List Str} {m : List (List Str)}
theorem seqL {β : Type} {enc : β → PyData} {bs : List β} {v : V} {G : Hp} (h : (L X.K (bs.map enc)).P v G) : SeqD X.K enc bs v G ∧ AllOk (bs.map enc) := by
  obtain ⟨a, xs, h1, h2, h3, h4⟩ := h
  exact ⟨⟨a, xs, h1, .inl (SqL.of h2), h3⟩, h4⟩
theorem seqT {β : Type} {enc : β → PyData} {bs : List β} {v : V} {G : Hp} (h : (D X.K (.tuple (bs.map enc))).P v G) : SeqD X.K enc bs v G ∧ AllOk (bs.map enc) := by
  obtain ⟨a, xs, h1, h2, h3, h4⟩ := d_tup h
  exact ⟨⟨a, xs, h1, .inr h2, h3⟩, h4⟩
/-- sorted(set(xs)): texts in a list, in a tuple; tuples of texts in a list; len(set(xs)) -/
theorem je_ssL (hc : X.calm = true) (hu : X.A.units + 5 < cLine) (hm : X.mg "sorted" = none) (hm2 : X.mg "set" = none) (ha : JE X Δ Γ a (L X.K (l.map .str)) Δ1) (hz : l.length < 64) (hg : Gl X "sorted" := by rfl) (hg2 : Gl X "set" := by rfl) (na : starEach [a] X.env = (false, eval a X.env) :: starEach [] X.env := by rfl) :
    JE X Δ Γ (.Call (.Name "sorted" p) [.Call (.Name "set" p2) [a] [] q] [] pos) (L X.K ((BM.ss sLt l).map .str)) Δ1 :=
  je_sset2 kind_str so_sLt le_str hc (sortOk_str (by show X.A.units + 1 + 1 < _; omega)) (by omega) hm hm2 ha (fun v G h => seqL h) hz hg hg2 na
theorem je_ssT (hc : X.calm = true) (hu : X.A.units + 5 < cLine) (hm : X.mg "sorted" = none) (hm2 : X.mg "set" = none) (ha : JE X Δ Γ a (D X.K (eS l)) Δ1) (hz : l.length < 64) (hg : Gl X "sorted" := by rfl) (hg2 : Gl X "set" := by rfl) (na : starEach [a] X.env = (false, eval a X.env) :: starEach [] X.env := by rfl) :
    JE X Δ Γ (.Call (.Name "sorted" p) [.Call (.Name "set" p2) [a] [] q] [] pos) (L X.K ((BM.ss sLt l).map .str)) Δ1 :=
  je_sset2 kind_str so_sLt le_str hc (sortOk_str (by show X.A.units + 1 + 1 < _; omega)) (by omega) hm hm2 ha (fun v G h => seqT h) hz hg hg2 na
theorem je_ssC (hc : X.calm = true) (hu : X.A.units + 5 < cLine) (hm : X.mg "sorted" = none) (hm2 : X.mg "set" = none) (ha : JE X Δ Γ a (L X.K (m.map eS)) Δ1) (hz : m.length < 64) (hg : Gl X "sorted" := by rfl) (hg2 : Gl X "set" := by rfl) (na : starEach [a] X.env = (false, eval a X.env) :: starEach [] X.env := by rfl) :
    JE X Δ Γ (.Call (.Name "sorted" p) [.Call (.Name "set" p2) [a] [] q] [] pos) (L X.K ((BM.ss cLt m).map eS)) Δ1 :=
  je_sset2 kind_eS so_cLt le_eS hc (sortOk_eS (by show X.A.units + 1 + 1 + 2 < _; omega)) (by omega) hm hm2 ha (fun v G h => seqL h) hz hg hg2 na
theorem je_lsL (hc : X.calm = true) (hu : X.A.units + 5 < cLine) (hm : X.mg "len" = none) (hm2 : X.mg "set" = none) (ha : JE X Δ Γ a (L X.K (l.map .str)) Δ1) (hz : l.length < 64) (hg : Gl X "len" := by rfl) (hg2 : Gl X "set" := by rfl) (na : starEach [a] X.env = (false, eval a X.env) :: starEach [] X.env := by rfl) :
    JE X Δ Γ (.Call (.Name "len" p) [.Call (.Name "set" p2) [a] [] q] [] pos) (D X.K (.int (BM.dd l).length)) Δ1 :=
  je_lset kind_str hc (by omega) hm hm2 ha (fun v G h => (seqL h).1) hz hg hg2 na
end
end Bl
set_option Elab.async false
set_option linter.all false
set_option maxRecDepth 100000
set_option maxHeartbeats 2000000
/-! sorted({e for x in xs}), e a text -/
namespace Bl
open PySem PySem.Spec PyProof.Rows L2
open PySem.W (EachIs)
/-- a set of texts, while it is made -/
def TxO (P : Program) (w : World) (a : Addr) (l : List Str) : HO := .ext fun h => TxSt P w h a l
theorem txO_new {P : Program} {w : World} {H : Hp} {h : Heap} {a : Addr} {l : List Str} (R : TxSt P w h a l) : ObjOk P w H h a (TxO P w a l) := by
  obtain ⟨D, ho, r⟩ := id R
  exact ⟨R, ⟨_, ho⟩, fun h1 h2 p k => by
    obtain ⟨D', ho', r'⟩ := p
    exact ⟨D', k _ ho', r'⟩⟩
section
variable {X : Cx}
theorem txO_get {pins : List (Addr × Obj)} {σ : L2.St} {H : Hp} {s : Shared} {a : Addr} {l : List Str} (I : Inv X pins σ H s) (ha : H a = some (TxO X.prog X.w a l)) : TxSt X.prog X.w s.heap a l := (I.hok a _ ha).1
theorem txO_add {pins : List (Addr × Obj)} {σ : L2.St} {H : Hp} {s : Shared} {E : Value → Shared → Prop} {a : Addr} {l : List Str} {k : Str} {u : Tok} {Q : Value → Shared → Prop} (I : Inv X pins σ H s) (ha : H a = some (TxO X.prog X.w a l)) (hb : l.length + 1 < 64)
    (h : ∀ s', Inv X pins σ (upd H a (TxO X.prog X.w a (if k ∈ l then l else k :: l))) s' → Q .none s') : wpAny (model X.prog X.w) X.A (call (.builtin "set.add") [.ref a, .str k u]) Q E s := by
  have R := txO_get I ha
  obtain ⟨D, ho, _⟩ := id R
  refine wpAny_call_entry F.slot_set_add ⟨_, ho, rfl⟩ F.entry_set_add ?_ (F.args_set_add_2 _ _)
  unfold Builtin.«set.add» Builtin.Frozenset.oneOther
  simp only [List.isEmpty_nil, bind_assoc]
  unfold Builtin.Frozenset.addrOf
  refine wpAny_bind (wpAny_pure ?_)
  try dsimp only
  refine wpAny_bind (wpAny_pure ?_)
  try dsimp only
  refine wpAny_bind (tx_add R hb fun b h' sb new => ?_)
  obtain ⟨D', ho', _⟩ := id new
  exact wpAny_pure ⟨_, rfl, h _ (I.write (e := a) (t' := s.toks + 1) (by rw [ha]; trivial) (.inl rfl) (fun b u hb hu => (sb.2 b hb).trans hu) ⟨_, ho'⟩ (txO_new new))⟩
/-- {elt for tg in iter if ..}, elt a text: D the new set -/
def tSx (P : Program) (w : World) (wi : TI) (g : TG) (tt : TT) (te : TE) (vs : List Nat) : TE := fun σ H Q => wi σ H fun J H1 => ∀ D, H1 D = none → ∃ W : Nat → Nat → Hp → Prop, (∃ m, W 0 m (upd H1 D (TxO P w D []))) ∧ ∀ i m H, W i m H →
  (J.stop i H ∧ Q (.ref D) H) ∨ (J.go i H ∧ ∃ Nx : Hp → Prop, (∀ H', Nx H' → ∃ m', m' < m ∧ W (i + 1) m' H') ∧ ∀ x H', J.yld i H x H' → g x (L2.wipe σ vs) H' fun σ2 H2 => L2.wipe σ2 vs = L2.wipe σ vs ∧ tt σ2 H2 fun b H3 =>
    if b = true then te σ2 H3 fun y H4 => ∃ (k : Str) (l : List Str), y = .str k ∧ H4 D = some (TxO P w D l) ∧ l.length + 1 < 64 ∧ Nx (upd H4 D (TxO P w D (if k ∈ l then l else k :: l))) else Nx H3)
theorem sx_core {pins : List (Addr × Obj)} {s : Shared} {σ : L2.St} {H : Hp} {Q : VK} {elt tg iter : Expr} {ifs : List Expr} {scope : Scope} {own : List (PySem.Str × Nat)} {pos pos' : Pos} {wi : TI} {g : TG} {tt : TT} {te : TE} {use : Option (Value → Sem Unit)} {Qf : Value → Shared → Prop}
    (hc : X.calm = true) (hN : X.N.Nodup) (I : Inv X pins σ H s) (hi : PI X tg iter wi) (ok : BlkOk X.N X.env.scope scope own)
    (hg : ∀ (s : Shared) (H : Hp) (C : Addr) (cl : List (PySem.Str × Addr)) (fp : List Addr), PG (X.blk s H scope (compEnvC scope cl C X.env) fp) tg g) (ht : ∀ (s : Shared) (H : Hp) (C : Addr) (cl : List (PySem.Str × Addr)) (fp : List Addr), PTs (X.blk s H scope (compEnvC scope cl C X.env) fp) ifs tt)
    (he : ∀ (s : Shared) (H : Hp) (C : Addr) (cl : List (PySem.Str × Addr)) (fp : List Addr), PE (X.blk s H scope (compEnvC scope cl C X.env) fp) elt te) (hs : ∀ x, foldedSetIterable iter X.env x = pure x)
    (h : tSx X.prog X.w wi g tt te (own.map (·.2)) σ H Q)
    (hRR : ∀ D C s' m H', Inv X pins σ H' s' → Q (.ref D) H' → s'.heap.Ns C m → FpOk X pins H' C → compPost (model X.prog X.w) X.A X.xe use Qf (.ref D) C (.ok .next) s') :
    wpAny (model X.prog X.w) X.A (comprehension (.SetComp elt [⟨tg, iter, ifs, 0⟩] scope pos) scope X.env pos' (newSet (.type "set")) false (eval iter X.env) use) Qf X.xe s := by
  have hfree : ∀ y ∈ scope.names, y.2 = .free → ∃ c, X.env.cells.lookup y.1 = some c := fun y hy e => (ok.free y hy e).elim (fun k => I.ok.has _ (.inl k)) fun k => I.ok.has _ (.inr k)
  refine wpAny_comprehension_free (use := use) rfl hs (closure_ok hfree) ok.kind (fun y hy e => by rw [ok.uniq y hy, e])
    (thn (hi.run pins s σ H _ I h) fun xv s1 hx => thn hx fun itv s2 ⟨it, fp, tn, J, H2, e, I2, T, st2, f2, q⟩ => ?_)
  subst e
  refine PpSet.newSet_ok (newEnv_comp ?_)
  generalize hD : s2.heap.objs.size = D
  obtain ⟨W, ⟨m0, w0⟩, turn⟩ := q D (I2.hok.fresh (Nat.le_of_eq hD))
  generalize hs3 : ({ s2 with heap := s2.heap.push { cls := .type "set", dict := none, data := .set #[] 0 (.fresh 0 0 (!X.w.params.followText "set-order")) } } : Shared) = s3
  have old3 : ∀ b o, s2.heap.get? b = some o → s3.heap.get? b = some o := fun b o e => by rw [← hs3]; exact Heap.get?_push_of_some _ e
  generalize hH3 : upd H2 D (TxO X.prog X.w D []) = H3 at w0
  have I3 : Inv X pins σ H3 s3 := by
    rw [← hs3, ← hH3]
    refine I2.laid (t' := s2.toks) (fun b o e => Heap.get?_push_of_some _ e) (Nat.le_of_eq hD) (txO_new (tx_fresh ?_))
    rw [← hD]
    exact Heap.get?_push_size _ rfl
  have f3 : ∀ b ∈ fp, FpOk X pins H3 b ∧ b < s3.heap.objs.size := fun b hb => by
    obtain ⟨o, e, _⟩ := T.obj _ _ st2 b hb
    have hlt := Heap.lt_size e
    refine ⟨⟨?_, (f2 b hb).2⟩, Heap.lt_size (old3 b o e)⟩
    rw [← hH3, upd_ne (by rw [← hD]; exact Nat.ne_of_lt hlt)]
    exact (f2 b hb).1
  have st3 : tn 0 s3.heap := T.keep _ _ _ st2 fun b _ o e => old3 b o e
  have nfp : ∀ b ∈ fp, H3 b = none := fun b hb => (f3 b hb).1.1
  have I4 := block_start I3 ok hN f3
  show codeAny _ _ (.compStart (.SetComp elt [⟨tg, iter, ifs, 0⟩] scope pos) 0 (.ref it) (.ref D) (compEnvC scope (cellsFrom (s3.heap.objs.size + 1) scope.names (cloFrom X.env.cells scope.names [])) s3.heap.objs.size X.env)) (compPost (model X.prog X.w) X.A X.xe use Qf (.ref D) s3.heap.objs.size) { s3 with heap := pushCells (s3.heap.push { cls := .type "dict", data := .dict #[] }) scope.names }
  have pg := hg s3 H3 s3.heap.objs.size (cellsFrom (s3.heap.objs.size + 1) scope.names (cloFrom X.env.cells scope.names [])) fp
  have pt := ht s3 H3 s3.heap.objs.size (cellsFrom (s3.heap.objs.size + 1) scope.names (cloFrom X.env.cells scope.names [])) fp
  have pe := he s3 H3 s3.heap.objs.size (cellsFrom (s3.heap.objs.size + 1) scope.names (cloFrom X.env.cells scope.names [])) fp
  generalize hce : compEnvC scope (cellsFrom (s3.heap.objs.size + 1) scope.names (cloFrom X.env.cells scope.names [])) s3.heap.objs.size X.env = ce at I4 pg pt pe ⊢
  have cL : ce.locals = s3.heap.objs.size := by subst hce; rfl
  generalize hs4 : ({ s3 with heap := pushCells (s3.heap.push { cls := .type "dict", data := .dict #[] }) scope.names } : Shared) = s4 at I4 ⊢
  have st4 : tn 0 s4.heap := T.keep _ _ _ st3 fun b _ o e => by rw [← hs4]; exact pushCells_keeps _ _ _ _ (Heap.get?_push_of_some _ e)
  have stat : ∀ {σ' : L2.St} {H' : Hp} {s' : Shared}, Inv (X.blk s3 H3 scope ce fp) [] σ' H' s' → (∀ b ∈ fp, H' b = none) → ∀ b ∈ fp, FpOk (X.blk s3 H3 scope ce fp) [] H' b := fun {σ' H' s'} I' hn b hb =>
    ⟨hn b hb, (I'.ok.exf b hb).1, I'.ok.exfs b hb, .inl hb, fun x c e => (I'.ok.exf b hb).2 x c e, fun p hp => absurd (show p ∈ ([] : List (Addr × Obj)) ++ [] from hp) (by simp)⟩
  have loop : codeAny (model X.prog X.w) X.A (.compLoop (.SetComp elt [⟨tg, iter, ifs, 0⟩] scope pos) 0 (.ref it) (.ref D) ce) (compPost (model X.prog X.w) X.A X.xe use Qf (.ref D) s3.heap.objs.size) s4 := by
    refine PpSet.compLoopS_any (fun n s' => ∃ i H', Inv (X.blk s3 H3 scope ce fp) [] (L2.wipe σ (own.map (·.2))) H' s' ∧ tn i s'.heap ∧ (∀ b ∈ fp, H' b = none) ∧ W i n H') ?_ m0 ⟨0, H3, I4, st4, nfp, w0⟩
    rintro n s5 ⟨i, H5, I5, st5, n5, w5⟩
    rcases turn i n H5 w5 with ⟨stop, qq⟩ | ⟨go, Nx, hNx, step⟩
    · refine thnF (T.done (X.blk s3 H3 scope ce fp) rfl rfl rfl hc i [] s5 _ H5 (fun _ _ => False) I5 (stat I5 n5) st5 stop) fun r s6 ⟨hr, I6⟩ => ?_
      subst hr
      have nC : H5 s3.heap.objs.size = none := by rw [← cL]; exact I6.free
      obtain ⟨m, hn, _⟩ := I6.loc
      have hn : s6.heap.Ns ce.locals m := hn
      rw [cL] at hn
      exact hRR D s3.heap.objs.size s6 m H5 (I3.call' (ch := fp) I6.os I6.base I6.hok I6.bare fun b hb => ⟨(f3 b hb).1.2.2.2.1, (f3 b hb).1.2.1, (f3 b hb).1.2.2.2.2.1, (f3 b hb).1.2.2.2.2.2⟩) qq hn (I3.fpOk (Nat.le_refl _) nC)
    · refine thnF (T.item (X.blk s3 H3 scope ce fp) rfl rfl rfl hc i [] s5 _ H5 (fun _ _ => False) I5 (stat I5 n5) st5 go) fun r s6 ⟨u, hr, h6⟩ => ?_
      subst hr
      refine thnF h6 fun _ s7 ⟨x, H7, I7, r7, y7, st7, n7⟩ => ?_
      refine thnF (pg.run _ s7 _ H7 x u _ (I7.pinned (stat I7 n7) (T.obj _ _ st7)) r7 (step x H7 y7)) fun _ s8 ⟨σ8, H8, I8, hw8, q8⟩ => ?_
      refine thnF (pt.run _ s8 σ8 H8 _ I8 q8) fun b s9 ⟨H9, I9, q9⟩ => ?_
      have fin : ∀ {s' : Shared} {H' : Hp}, Inv (X.blk s3 H3 scope ce fp) ([] ++ pinsAt fp s7.heap) σ8 H' s' → Nx H' → ∃ m, m < n ∧ ∃ i H', Inv (X.blk s3 H3 scope ce fp) [] (L2.wipe σ (own.map (·.2))) H' s' ∧ tn i s'.heap ∧ (∀ b ∈ fp, H' b = none) ∧ W i m H' := fun {s' H'} I' nx => by
        obtain ⟨m', hm, w'⟩ := hNx H' nx
        have pin' : ∀ b ∈ fp, ∀ o, s7.heap.get? b = some o → s'.heap.get? b = some o ∧ H' b = none := fun b hb o e =>
          let z := I'.pin (b, o) (List.mem_append_right _ (List.mem_append_right _ (mem_pinsAt hb e)))
          ⟨z.1, z.2.1⟩
        refine ⟨m', hm, i + 1, H', (I'.unpinned (pins := [])).weak (by rw [← hw8, wipe_length]) (fun j v e => ?_), T.keep _ _ _ st7 fun b hb o e => (pin' b hb o e).1, fun b hb => ?_, w'⟩
        · rw [← hw8] at e
          exact (wipe_some e).1
        · obtain ⟨o, e, _⟩ := T.obj _ _ st7 b hb
          exact (pin' b hb o e).2
      cases b with
      | false =>
        simp only [Bool.false_eq_true, if_false] at q9 ⊢
        exact fin I9 q9
      | true =>
        simp only [if_true] at q9 ⊢
        refine thnF (pe.run _ s9 σ8 H9 _ I9 q9) fun z s10 ⟨yv, H10, I10, r10, k, l, ey, hD10, hz10, nx⟩ => ?_
        subst ey
        obtain ⟨tk, rfl⟩ := (show ∃ t, z = Value.str k t from r10)
        exact txO_add (X := X.blk s3 H3 scope ce fp) I10 hD10 hz10 fun s11 I11 => fin I11 nx
  exact PpSet.codeAny_compStart_set loop (T.self X.A 0 _ _ _ st4 loop)
theorem pe_sx {elt tg iter : Expr} {ifs : List Expr} {scope : Scope} {own : List (PySem.Str × Nat)} {pos : Pos} {wi : TI} {g : TG} {tt : TT} {te : TE} (hc : X.calm = true) (hN : X.N.Nodup) (hi : PI X tg iter wi) (ok : BlkOk X.N X.env.scope scope own)
    (hg : ∀ (s : Shared) (H : Hp) (C : Addr) (cl : List (PySem.Str × Addr)) (fp : List Addr), PG (X.blk s H scope (compEnvC scope cl C X.env) fp) tg g) (ht : ∀ (s : Shared) (H : Hp) (C : Addr) (cl : List (PySem.Str × Addr)) (fp : List Addr), PTs (X.blk s H scope (compEnvC scope cl C X.env) fp) ifs tt)
    (he : ∀ (s : Shared) (H : Hp) (C : Addr) (cl : List (PySem.Str × Addr)) (fp : List Addr), PE (X.blk s H scope (compEnvC scope cl C X.env) fp) elt te) (hs : ∀ x, foldedSetIterable iter X.env x = pure x := by intro _; rfl) :
    PE X (.SetComp elt [⟨tg, iter, ifs, 0⟩] scope pos) (tSx X.prog X.w wi g tt te (own.map (·.2))) := by
  refine ⟨fun pins s σ H Q I h => ?_⟩
  rw [PpSet.eval_SetComp]
  refine sx_core hc hN I hi ok hg ht he hs h fun D C s' m H' I' q hn f => ⟨m, hn, fun h'' sb => ?_⟩
  obtain ⟨f0, f1, f2, f3, f4, f5⟩ := f
  exact ⟨.ref D, H', I'.turned (t' := s'.toks) (fun b o hb e => (sb.2 b hb).trans e) f0 f1 f3 f4 f5, rfl, q⟩
variable {elt tg iter : Expr} {scope : Scope} {own : List (PySem.Str × Nat)} {g : TG} {Γ : Gm} {Δ Δ1 : Cs} {p pos pos' : Pos}
/-- sorted({elt for tg in iter}) -/
theorem je_sortC' {α : Type} {l : List α} {ra : α → SV} {f : α → Str} {Γa : α → Gm} {js : List Nat} (hc : X.calm = true) (hN : X.N.Nodup) (hu : X.A.units + 2 < cLine) (hm : X.mg "sorted" = none) (hi : JI X tg Δ Γ iter (l.map ra) Δ1) (ok : BlkOk X.N X.env.scope scope own)
    (hg : ∀ (s : Shared) (H : Hp) (C : Addr) (cl : List (PySem.Str × Addr)) (fp : List Addr), PG (X.blk s H scope (compEnvC scope cl C X.env) fp) tg g) (ht : ∀ a ∈ l, TgOk g js (ra a) (wipeG Γ (own.map (·.2))) (Γa a)) (hjs : ∀ j ∈ js, j ∈ own.map (·.2)) (hT : ∀ a ∈ l, AllJ X scope elt Δ1 (Γa a) (D X.K (.str (f a))) Δ1)
    (hz : l.length < 63) (hgl : Gl X "sorted" := by rfl) (hs : ∀ x, foldedSetIterable iter X.env x = pure x := by intro _; rfl) (na : starEach [(.SetComp elt [⟨tg, iter, [], 0⟩] scope pos')] X.env = (false, eval (.SetComp elt [⟨tg, iter, [], 0⟩] scope pos') X.env) :: starEach [] X.env := by rfl) :
    JE X Δ Γ (.Call (.Name "sorted" p) [.SetComp elt [⟨tg, iter, [], 0⟩] scope pos'] [] pos) (L X.K ((BM.ss sLt (l.map f)).map .str)) Δ1 := by
  refine ⟨fun pins s σ G H I hs0 sl => ?_⟩
  refine Call_ (ld_blt I hgl hm boot_sortedB ?_)
  refine PyProof.Rows.callWith_builtin1 (PyProof.Rows.args_cons ?_ na) na rfl
  refine thn ((pe_sx (ifs := []) (tt := tBU (AllB X scope [])) (te := tJU (AllJ X scope elt)) hc hN hi.use ok hg all_pt all_pe hs).run pins s σ H (fun v H' => ∃ (D : Addr) (ms : List Str) (G' : Hp), v = .ref D ∧ H' D = some (TxO X.prog X.w D ms) ∧ Dd ms (l.map f) ∧ (∀ x ∈ ms, PyData.strOk x = true) ∧ Tr Δ G H Δ1 G' H') I ?_) fun u s1 ⟨v, H1, I1, r1, D, ms, G1, ev, hD, dd, okm, t1⟩ => PyProof.Rows.args_nil ?_
  · refine ⟨G, hs0, sl, fun It G1 H1 t w z => fun D0 hD => ?_⟩
    refine ⟨fun i m H => m = l.length - i ∧ i ≤ l.length ∧ ∃ G2 ms, H D0 = some (TxO X.prog X.w D0 ms) ∧ G2 D0 = none ∧ D0 ∉ dom Δ1 ∧ Dd ms ((l.map f).take i) ∧ (∀ x ∈ ms, PyData.strOk x = true) ∧ Tr Δ1 G1 H1 Δ1 G2 H ∧ Sl σ G2 Γ,
      ⟨l.length, rfl, Nat.zero_le _, G1, [], upd_same, none_of_sub t.hs.sub hD, t.hs.out hD, .zero, (fun x hx => by cases hx), (Up.hid t.hs.sub hD).up0 t.hs, sl.mono t.up⟩, ?_⟩
    rintro i m H2 ⟨rfl, hle, G2, ms, hx, hG, hn, dd, okm, t2, sl2⟩
    have hlen : (l.map ra).length = l.length := List.length_map ..
    by_cases hlt : i < l.length
    · have hla : l[i]? = some l[i] := List.getElem?_eq_getElem hlt
      generalize l[i] = a at hla
      have hr : (l.map ra)[i]? = some (ra a) := by rw [List.getElem?_map, hla]; rfl
      have ha := List.mem_of_getElem? hla
      refine .inr ⟨w.go i G2 H2 t2.up t2.hs.sub (by rw [hlen]; exact hlt), fun H' => i + 1 ≤ l.length ∧ ∃ G2 ms, H' D0 = some (TxO X.prog X.w D0 ms) ∧ G2 D0 = none ∧ D0 ∉ dom Δ1 ∧ Dd ms ((l.map f).take (i + 1)) ∧ (∀ x ∈ ms, PyData.strOk x = true) ∧ Tr Δ1 G1 H1 Δ1 G2 H' ∧ Sl σ G2 Γ, fun H' q => ⟨l.length - (i + 1), by omega, rfl, q⟩, fun x H3 y => ?_⟩
      obtain ⟨G3, u3, p3⟩ := w.yld i G2 H2 x H3 _ t2.up t2.hs.sub hr y
      have t3 : Tr Δ1 G1 H1 Δ1 G3 H3 := t2.trans (u3.up0 t2.hs)
      have hx3 := u3.fr D0 _ (by simp [dom]) hx
      have tk := ht a ha
      refine tk x (L2.wipe σ (own.map (·.2))) G3 H3 _ t3.hs.sub p3 ((sl2.mono u3.up).wipe (own.map (·.2))) ?_
      intro σ4 sl4 hw
      refine ⟨?_, ?_⟩
      · rw [hw _ hjs]
        exact wipe_wipe _ _ fun _ h => h
      · refine ⟨Δ1, Γa a, dB true Δ1, fun _ _ _ _ _ => jbs_nil, G3, t3.hs, sl4, fun c G5 Δ5 H5 o t5 => ?_⟩
        obtain ⟨rfl, rfl⟩ := o
        have hx5 := t5.fr D0 _ hn hx3.1
        refine ⟨Δ5, Γa a, _, Δ5, hT a ha, G5, t5.hs, sl4.mono t5.up, fun v G6 H6 t6 p6 => ?_⟩
        have hx6 := t6.fr D0 _ hn hx5.1
        have hg6 := hx6.2 (hx5.2 (hx3.2 hG))
        obtain ⟨p6, ok6⟩ := p6
        cases p6
        have hml := dd.len
        rw [List.length_take, List.length_map] at hml
        refine ⟨f a, ms, rfl, hx6.1, by omega, hlt, G6, _, upd_same, hg6, hn, dd.next (by rw [List.getElem?_map, hla]; rfl) (List.Perm.refl _), fun x hx => ?_, (t3.trans (t5.trans t6)).poke hD hg6 hn, sl2.mono (u3.up.trans (t5.up.trans t6.up))⟩
        by_cases c : f a ∈ ms
        · rw [if_pos c] at hx; exact okm x hx
        · rw [if_neg c] at hx
          rcases List.mem_cons.mp hx with e | hx
          · rw [e]; exact str_ok ok6
          · exact okm x hx
    · have e : i = l.length := by omega
      subst e
      refine .inl ⟨w.stop _ G2 H2 t2.up t2.hs.sub hlen.symm, D0, ms, G2, rfl, hx, ?_, okm, t.trans t2⟩
      rwa [show l.length = (l.map f).length from (List.length_map ..).symm, List.take_length] at dd
  · subst ev
    cases r1
    have S : (txK X.prog X.w).St s1.heap s1.heap D ms := txO_get I1 hD
    have hml := dd.len
    rw [List.length_map] at hml
    refine sorted_setK (κ := txK X.prog X.w) (enc := PyData.str) (I1.ok.hd hc) S (fun _ _ e => e) (by omega) (fun u x ⟨t, e⟩ => by subst e; exact ⟨_, Reads.str x t⟩) (sortOk_str (by show X.A.units + 1 + 1 < _; omega)) fun s' pp out c bs' kk gg oo hp hgg pm e => ?_
    have e2 : EachIs (Stands X.K G1 PyData.str) out (bs'.mergeSort (PySem.W.dataLe false PyData.str)) := e.mono fun u x ⟨t, q⟩ => ⟨.str x, ⟨t, q⟩, .str x⟩
    have dd2 : Dd bs' (l.map f) := ⟨pm.nodup_iff.mpr dd.nd, fun x => pm.mem_iff.trans (dd.mem x)⟩
    have e3 : bs'.mergeSort (PySem.W.dataLe false PyData.str) = BM.ss sLt (l.map f) := by
      rw [le_str]
      exact BM.srt_eq so_sLt dd2.nd (BM.dd_nodup _) fun x => (dd2.mem x).trans BM.dd_mem.symm
    rw [e3] at e2
    refine sorted_end I1 kk gg oo hp hgg (by rw [BM.ss, BM.srt_len]; have := BM.dd_len (l.map f); rw [List.length_map] at this; rw [sizeLine_eq]; omega) e2 fun ys dp hn => ⟨_, t1.trans ((Up.new t1.hs.sub hn).up0 t1.hs), new_lst (none_of_sub t1.hs.sub hn) dp fun d hd => ?_⟩
    obtain ⟨x, hx, rfl⟩ := List.mem_map.mp hd
    exact ok_str (okm x ((dd.mem x).mpr (BM.ss_mem.mp hx)))
end
end Bl
set_option Elab.async false
set_option linter.all false
set_option maxRecDepth 100000
set_option maxHeartbeats 2000000
/-! marks_of, entry_clauses, find_clauses, clauses -/
namespace Bl
open PySem PySem.Spec PyProof.Rows L2
section
variable {X : Cx} {e tg : Expr} {Γ Γ' : Gm} {Δ Δ1 : Cs} {r : SV} {pos : Pos} {O : En → Prop} {rest : List Stmt} {g : TG} {js : List Nat}
/-- (a, b) = e -/
theorem jss_asg (he : JE X Δ Γ e r Δ1) (hg : PG X tg g) (tk : TgOk g js r Γ Γ') (hr : JSs X Δ1 Γ' rest O) (hs : swapsWithSole [tg] e pos.line X.env = pure false := by rfl) (hw : swappedStores [tg] e X.env = pure none := by rfl)
    (h1 : (assignEach [tg] X.env).map (·.2) = [assign tg X.env] := by rfl) : JSs X Δ Γ (.Assign [tg] e pos :: rest) O :=
  jss_of (pss_cons (ps_asg he.use hg hs hw h1) pss_U) fun σ G H D hh sl sv => ⟨G, hh, sl, fun v G1 H1 t p => by
    refine tk v σ G1 H1 _ t.hs.sub p (sl.mono t.up) ?_
    intro σ4 sl4 _
    exact ⟨Δ1, Γ', hr, G1, t.hs, sl4, sv.trans t⟩⟩
end
section
variable {P : Program} {w : World} {K : PySem.W.Frag} {mg : Str → Option Value} {base : Heap} {C : Addr}
theorem hu2 {A : Around} {k : Nat} (hr : Room k A) : A.units + 2 < cLine := by have := hr.un; omega
theorem hu4 {A : Around} {k : Nat} (hr : Room k A) : A.units + 4 < cLine := by have := hr.un; omega
theorem hu5 {A : Around} {k : Nat} (hr : Room k A) : A.units + 5 < cLine := by have := hr.un; omega
/-- the marks at a place, sorted -/
def marksAt (cs : Copies) (i : Nat) : List Str := BM.ss sLt (cs.map fun c => markAt c.2 i)
abbrev N_mk : List Str := ["book", "group", "index", "holder"]
theorem sc_mk : FnScope N_mk ["book", "group", "index"] (defScope (top 12)) := ⟨rfl, rfl, rfl, by decide +kernel, rfl, by decide +kernel, by decide +kernel⟩
def pm_mk (K : PySem.W.Frag) (C : Addr) (rs : List SV) (r : SV) : Prop := ∃ (ps : List (List Str)) (cs : Copies) (i : Nat), (holders cs).Nodup ∧ cs.length < 63 ∧ (∀ c ∈ cs, i < c.2.length) ∧ rs = [Bk K C ps cs, D K (eS (holders cs)), D K (.int i)] ∧ r = D K (eS (marksAt cs i))
theorem ok_mk (T : Tx K mg) (B : BkF K mg C) : Ok P w K mg base 2 "marks_of" ["book", "group", "index"] (pure0 (pm_mk K C)) :=
  ok_of T.d_marks_of sc_mk (fun _ _ _ _ _ _ us hl => match us, hl with | [_, _, _], _ => rfl) (fun rs Δ r Δ' ⟨_, _, _, _, _, _, _, _, e, _⟩ => by rw [e]; rfl) fun f cdv A outer s H E rs Δ r Δ' hr hp => by
    obtain ⟨rfl, rfl, ps, cs, i, hnd, hlen, hi, rfl, rfl⟩ := hp
    obtain ⟨g, M, okg⟩ := ok_br (P := P) (w := w) (base := base) T B
    refine jss_ret ((je_tupleL T.f_tuple (je_sortC' (l := cs) (ra := fun c => D K (.str c.1)) (f := fun c => markAt c.2 i) (js := [3]) (own := [("holder", 3)]) rfl sc_mk.nd (hu2 hr) T.f_sorted
      (ji_Te (l := cs) (enc := fun c => .str c.1) ((je_var 1 (r := D K (eS (holders cs)))).eq (by unfold eS holders; rw [List.map_map]; rfl))) (blkOk_by (N := N_mk) (sc := defScope (top 12)) (by decide +kernel)) (fun _ _ _ _ _ => pg_name (i := 3) sc_mk.nd rfl (Or.inl rfl)) (fun a _ => tg_name 3) (fun _ h => h) (fun c hc _ _ _ _ _ => ?_) hlen)).eq rfl) fnO_rt
    refine je_ixT (ds := c.2.map .str) (d := .str (markAt c.2 i)) ?_ (je_var 2) (atI_map (mark_at (hi c hc)))
    exact je_meth (F := pm_br K C) (ps := ps) (cs := cs) (je_var 0) B.cls M okg hr (ja_cons (je_var 3) ja_nil) ⟨ps, cs, c, hnd, hc, rfl, rfl⟩ (by decide)
/-! entry_clauses -/
def sPick : Str := "pick"
def sFree : Str := "free"
def sSmear : Str := "smear"
def sUn : Str := "?"
def entryClauses (cs : Copies) (kind : Str) (i : Nat) (e : Str) : List (List Str) :=
  if e = sUn ∧ kind = sPick then [[]] else if e ≠ sUn ∧ kind ≠ sFree then [hWith cs i e] else ((marksAt cs i).filter fun m => !decide (m = e)).map fun m => hWithout cs i m
abbrev N_ec : List Str := ["book", "kind", "index", "entry", "others", "mark"]
theorem sc_ec : FnScope N_ec ["book", "kind", "index", "entry"] (defScope (top 17)) := ⟨rfl, rfl, rfl, by decide +kernel, rfl, by decide +kernel, by decide +kernel⟩
def pm_ec (K : PySem.W.Frag) (C : Addr) (rs : List SV) (r : SV) : Prop := ∃ (ps : List (List Str)) (cs : Copies) (kind : Str) (i : Nat) (e : Str), (holders cs).Nodup ∧ cs.length < 63 ∧ (∀ c ∈ cs, i < c.2.length) ∧ rs = [Bk K C ps cs, D K (.str kind), D K (.int i), D K (.str e)] ∧ r = L K ((entryClauses cs kind i e).map eS)
theorem ok_ec (T : Tx K mg) (B : BkF K mg C) : Ok P w K mg base 3 "entry_clauses" ["book", "kind", "index", "entry"] (pure0 (pm_ec K C)) :=
  ok_of T.d_entry_clauses sc_ec (fun _ _ _ _ _ _ us hl => match us, hl with | [_, _, _, _], _ => rfl) (fun rs Δ r Δ' ⟨_, _, _, _, _, _, _, _, _, _, e, _⟩ => by rw [e]; rfl) fun f cdv A outer s H E rs Δ r Δ' hr hp => by
    obtain ⟨rfl, rfl, ps, cs, kind, i, e, hnd, hlen, hi, rfl, rfl⟩ := hp
    obtain ⟨pa, g, M, okg⟩ := ok_bh (P := P) (w := w) (base := base) T B
    have hrl : ∀ {r' : SV}, r' = L K ((entryClauses cs kind i e).map eS) → fnO (L K ((entryClauses cs kind i e).map eS)) [] (.rt [] r') := fun e => by rw [e]; exact fnO_rt
    refine jss_if0 (Δ1 := []) (bb := decide (e = sUn) && decide (kind = sPick)) ?_ (fun hb => ?_) fun h1 => ?_
    · exact (jw_and (jb_eqS (je_var 3) (je_gstr T.c_UNREADABLE)) fun _ => jw_and1 (jb_eqS (je_var 1) (je_gstr T.c_PICK))).jb
    · have hb' : e = sUn ∧ kind = sPick := by simpa using hb
      exact jss_ret (je_lst (ds := [eS []]) (ja_cons je_tup0 ja_nil)) (hrl (by unfold entryClauses; rw [if_pos hb']; rfl))
    have n1 : ¬ (e = sUn ∧ kind = sPick) := by simpa using h1
    refine jss_if0 (Δ1 := []) (bb := !decide (e = sUn) && !decide (kind = sFree)) ?_ (fun hb => ?_) fun h2 => ?_
    · exact (jw_and (jb_neS (je_var 3) (je_gstr T.c_UNREADABLE)) fun _ => jw_and1 (jb_neS (je_var 1) (je_gstr T.c_FREE))).jb
    · have hb' : e ≠ sUn ∧ kind ≠ sFree := by simpa using hb
      refine jss_ret (je_lst (ds := [eS (hWith cs i e)]) (ja_cons (je_callP (ok_hw T B) (hr.mono (by decide)) (ja_cons (je_var 0) (ja_cons (je_var 2) (ja_cons (je_var 3) ja_nil))) ⟨ps, cs, i, e, hi, rfl, rfl⟩) ja_nil)) (hrl ?_)
      unfold entryClauses; rw [if_neg n1, if_pos hb']; rfl
    have n2 : ¬ (e ≠ sUn ∧ kind ≠ sFree) := by simpa using h2
    refine jss_set (i := 4) (jas_flt (l := marksAt cs i) (ra := fun m => D K (.str m)) (p := fun m => !decide (m = e)) (f := fun m => .str m) (js := [5]) (own := [("mark", 5)]) rfl sc_ec.nd (ji_Te (l := marksAt cs i) (enc := PyData.str) (je_callP (ok_mk T B) hr (ja_cons (je_var 0) (ja_cons (je_prop (F := pm_bh K C) (ps := ps) (cs := cs) (je_var 0) B.cls M okg hr ⟨ps, cs, rfl, rfl⟩) (ja_cons (je_var 2) ja_nil))) ⟨ps, cs, i, hnd, hlen, hi, rfl, rfl⟩)) (blkOk_by (N := N_ec) (sc := defScope (top 17)) (by decide +kernel)) (fun _ _ _ _ _ => pg_name (i := 5) sc_ec.nd rfl (Or.inl rfl)) (fun a _ => tg_name 5) (fun _ h => h)
      (fun m _ _ _ _ _ _ => jb_neS (je_var 5) (je_var 3)) (fun m _ _ _ _ _ _ _ => je_var 5) (sw_true rfl rfl rfl (by decide +kernel))) ?_
    rintro r Δ1 ⟨rfl, rfl⟩
    refine jss_ret (je_map (l := (marksAt cs i).filter fun m => !decide (m = e)) (ra := fun m => D K (.str m)) (f := fun m => eS (hWithout cs i m)) (js := [5]) (own := [("mark", 5)]) rfl sc_ec.nd (ji_Le (je_var 4)) (blkOk_by (N := N_ec) (sc := defScope (top 17)) (by decide +kernel)) (fun _ _ _ _ _ => pg_name (i := 5) sc_ec.nd rfl (Or.inl rfl)) (fun a _ => tg_name 5) (fun _ h => h) fun m _ _ _ _ _ _ => ?_) (hrl ?_)
    · exact je_callP (ok_ho T B) (hr.mono (by decide)) (ja_cons (je_var 0) (ja_cons (je_var 2) (ja_cons (je_var 5) ja_nil))) ⟨ps, cs, i, m, hi, rfl, rfl⟩
    · unfold entryClauses; rw [if_neg n1, if_neg n2, List.map_map]; rfl
/-! find_clauses: what the first entries give -/
abbrev Find := Str × List (Option Str)
def entry1 (cs : Copies) (kind : Str) (q : Option Str × Nat) : List (List Str) := match q.1 with
  | none => []
  | some e => entryClauses cs kind q.2 e
def findClauses (cs : Copies) (f : Find) : List (List Str) := f.2.zipIdx.flatMap (entry1 cs f.1)
theorem entry1_len (cs : Copies) (kind : Str) (q : Option Str × Nat) : (entry1 cs kind q).length ≤ cs.length + 1 := by
  unfold entry1
  split
  · exact Nat.zero_le _
  · unfold entryClauses
    split
    · simp
    · split
      · simp
      · rw [List.length_map]
        refine Nat.le_trans (List.length_filter_le _ _) ?_
        rw [marksAt, BM.ss, BM.srt_len]
        have := BM.dd_len (cs.map fun c => markAt c.2 q.2)
        rw [List.length_map] at this
        omega
theorem flatMap_le {α β : Type} {f : α → List β} {n : Nat} : ∀ {l : List α}, (∀ a ∈ l, (f a).length ≤ n) → (l.flatMap f).length ≤ l.length * n
  | [], _ => by simp
  | a :: l, h => by
    rw [List.flatMap_cons, List.length_append, List.length_cons, Nat.succ_mul]
    have h1 := h a (List.mem_cons_self ..)
    have h2 := flatMap_le (l := l) fun b hb => h b (List.mem_cons_of_mem _ hb)
    omega
theorem findClauses_len (cs : Copies) (f : Find) : (findClauses cs f).length ≤ f.2.length * (cs.length + 1) := by
  have := flatMap_le (f := entry1 cs f.1) (n := cs.length + 1) (l := f.2.zipIdx) fun q _ => entry1_len cs f.1 q
  rwa [List.length_zipIdx] at this
theorem eF_pair (f : Find) : eF f = .tuple [.str f.1, .tuple (f.2.map eO)] := rfl
abbrev N_fc : List Str := ["book", "find", "kind", "marks", "found", "index", "entry"]
theorem sc_fc : FnScope N_fc ["book", "find"] (defScope (top 18)) := ⟨rfl, rfl, rfl, by decide +kernel, rfl, by decide +kernel, by decide +kernel⟩
def pm_fc (K : PySem.W.Frag) (C : Addr) (rs : List SV) (r : SV) : Prop := ∃ (ps : List (List Str)) (cs : Copies) (f : Find), (holders cs).Nodup ∧ cs.length < 63 ∧ f.2.length ≤ 63 ∧ (∀ c ∈ cs, f.2.length ≤ c.2.length) ∧ rs = [Bk K C ps cs, D K (eF f)] ∧ r = L K ((findClauses cs f).map eS)
theorem ok_fc (T : Tx K mg) (B : BkF K mg C) : Ok P w K mg base 4 "find_clauses" ["book", "find"] (pure0 (pm_fc K C)) :=
  ok_of T.d_find_clauses sc_fc (fun _ _ _ _ _ _ us hl => match us, hl with | [_, _], _ => rfl) (fun rs Δ r Δ' ⟨_, _, _, _, _, _, _, _, _, e, _⟩ => by rw [e]; rfl) fun f cdv A outer s H E rs Δ r Δ' hr hp => by
    obtain ⟨rfl, rfl, ps, cs, fd, hnd, hlen, hfl, hi, rfl, rfl⟩ := hp
    refine jss_asg (g := gTup K 2 (gCons (gName 2) (gCons (gName 3) gNil))) (js := [2, 3]) (je_var 1) (pg_tup rfl (pgs_cons (pg_name (i := 2) sc_fc.nd rfl (Or.inl rfl)) (pgs_cons (pg_name (i := 3) sc_fc.nd rfl (Or.inl rfl)) pgs_nil))) (tg_pair (d1 := .str fd.1) (d2 := .tuple (fd.2.map eO)) 2 3) ?_
    refine jss_set (i := 4) (jas_e (jx_newl (ds := []) ja_nil) sc_fc.nd) ?_
    rintro r1 Δ1 ⟨p, rfl, rfl⟩
    have hall : ∀ i, i ≤ fd.2.length → ((fd.2.zipIdx.take i).flatMap (entry1 cs fd.1)).length ≤ 63 * 64 := fun i _ => by
      have := flatMap_le (f := entry1 cs fd.1) (n := cs.length + 1) (l := fd.2.zipIdx.take i) fun q _ => entry1_len cs fd.1 q
      refine Nat.le_trans this (Nat.mul_le_mul ?_ (by omega))
      rw [List.length_take, List.length_zipIdx]
      omega
    refine jss_for (js := [5, 6]) (g := gTup K 2 (gCons (gName 5) (gCons (gName 6) gNil))) PassesOwn.never rfl (ji_enum (bb := true) (ds := fd.2.map eO) T.f_enumerate (je_var 3)) (pg_tup rfl (pgs_cons (pg_name (i := 5) sc_fc.nd rfl (Or.inl rfl)) (pgs_cons (pg_name (i := 6) sc_fc.nd rfl (Or.inl rfl)) pgs_nil)))
      (fun i Δ Γ => i ≤ fd.2.length ∧ Δ = [(p, LC K (((fd.2.zipIdx.take i).flatMap (entry1 cs fd.1)).map eS))] ∧ Γ = [some (Bk K C ps cs), some (D K (eF fd)), some (D K (.str fd.1)), some (D K (.tuple (fd.2.map eO))), some (VV (.ref p)), none, none]) ⟨Nat.zero_le _, rfl, rfl⟩ (fun i r Δ Γ hr' hI => ?_) fun Δ Γ hI => ?_
    · obtain ⟨hle, rfl, rfl⟩ := hI
      obtain ⟨q, hq, rfl⟩ := at_map hr'
      rw [List.zipIdx_map] at hq
      have hq' : ∃ m, fd.2[i]? = some m ∧ q = (eO m, i) := by
        rw [List.getElem?_map, List.getElem?_zipIdx] at hq
        cases hm : fd.2[i]? with
        | none => rw [hm] at hq; cases hq
        | some m =>
          rw [hm] at hq
          refine ⟨m, rfl, ?_⟩
          have := Option.some.inj hq
          rw [← this]
          simp [Prod.map]
      obtain ⟨m, hm, rfl⟩ := hq'
      have hil : i < fd.2.length := (List.getElem?_eq_some_iff.mp hm).1
      have htk : (fd.2.zipIdx.take (i + 1)).flatMap (entry1 cs fd.1) = (fd.2.zipIdx.take i).flatMap (entry1 cs fd.1) ++ entry1 cs fd.1 (m, i) := by
        have e : fd.2.zipIdx[i]? = some (m, i) := by rw [List.getElem?_zipIdx, hm]; simp
        rw [List.take_succ, e]
        simp
      have hlt := hall (i + 1) hil
      rw [htk, List.length_append] at hlt
      refine ⟨_, tg_pair (d1 := .int (i : Int)) (d2 := eO m) 5 6, ?_⟩
      cases m with
      | none =>
        refine jss_if0 (Δ1 := [(p, LC K (((fd.2.zipIdx.take i).flatMap (entry1 cs fd.1)).map eS))]) (bb := false) (jb_notN (o := none) (je_var 6)) (fun h => by cases h) fun _ => jss_nil ?_
        refine ⟨[_, _, _, _, _, none, none], .keep (.keep (.keep (.keep (.keep (.drop (.drop .nil)))))), hil, ?_, rfl⟩
        rw [htk]
        simp [entry1]
      | some e =>
        refine jss_ifB (Δ1 := [(p, LC K (((fd.2.zipIdx.take i).flatMap (entry1 cs fd.1)).map eS))]) (bb := true) (jb_notN (o := some e) (je_var 6)) (fun _ => ?_) fun h => by cases h
        refine jss_ext (i := 0) (j := 0) (j0 := 0) (p := p) (ds0 := ((fd.2.zipIdx.take i).flatMap (entry1 cs fd.1)).map eS) (ds := ((fd.2.zipIdx.take i).flatMap (entry1 cs fd.1)).map eS) (je_var 4) rfl
          (je_callP (ok_ec T B) hr (ja_cons (je_var 0) (ja_cons (je_var 2) (ja_cons (je_var 5) (ja_cons (je_var 6) ja_nil)))) ⟨ps, cs, fd.1, i, e, hnd, hlen, fun c hc => Nat.lt_of_lt_of_le hil (hi c hc), rfl, rfl⟩) rfl ?_ (jss_nil (jss_nil ?_))
        · rw [List.length_map, List.length_map, line_eq]
          exact Nat.le_trans hlt (by decide)
        · refine ⟨[_, _, _, _, _, none, none], .keep (.keep (.keep (.keep (.keep (.drop (.drop .nil)))))), hil, ?_, rfl⟩
          rw [htk, List.map_append]
          rfl
    · obtain ⟨hle, rfl, rfl⟩ := hI
      refine jss_pub (p := p) 4 0 rfl rfl (jss_ret (je_var 4) ⟨rfl, fun v G pv => ?_⟩)
      rw [List.take_of_length_le (by simp)] at pv
      exact pv
/-! clauses -/
def eFs (fs : List Find) : PyData := .tuple (fs.map eF)
def rowsOf (cs : Copies) (fs : List Find) : List (List Str) := holders cs :: fs.flatMap (findClauses cs)
def clauses (cs : Copies) (fs : List Find) : List (List Str) := BM.ss cLt (rowsOf cs fs)
/-- a book and finds as the law's cases have them -/
structure CaseOk (cs : Copies) (fs : List Find) : Prop where
  asc : BM.Asc sLt (holders cs)
  few : cs.length ≤ 5
  nfs : fs.length ≤ 3
  wid : ∀ f ∈ fs, f.2.length ≤ 4 ∧ ∀ c ∈ cs, f.2.length ≤ c.2.length
theorem CaseOk.nd {cs : Copies} {fs : List Find} (h : CaseOk cs fs) : (holders cs).Nodup := h.asc.nodup so_sLt
theorem find_le {cs : Copies} {fs : List Find} (h : CaseOk cs fs) {f : Find} (hf : f ∈ fs) : (findClauses cs f).length ≤ 20 := by
  refine Nat.le_trans (flatMap_le (f := entry1 cs f.1) (n := 5) fun q _ => ?_) ?_
  · have := entry1_len cs f.1 q
    have h5 := h.few
    unfold entry1 at this ⊢
    split
    · exact Nat.zero_le _
    · unfold entryClauses at this ⊢
      split
      · simp
      · split
        · simp
        · rw [List.length_map]
          refine Nat.le_trans (List.length_filter_le _ _) ?_
          rw [marksAt, BM.ss, BM.srt_len]
          have := BM.dd_len (cs.map fun c => markAt c.2 q.2)
          rw [List.length_map] at this
          omega
  · rw [List.length_zipIdx]
    have := (h.wid f hf).1
    omega
theorem rows_le {cs : Copies} {fs : List Find} (h : CaseOk cs fs) : (rowsOf cs fs).length ≤ 61 := by
  have h1 := flatMap_le (f := findClauses cs) (n := 20) (l := fs) fun f hf => find_le h hf
  have h2 := h.nfs
  simp only [rowsOf, List.length_cons]
  omega
abbrev N_cl : List Str := ["book", "finds", "found", "find"]
theorem sc_cl : FnScope N_cl ["book", "finds"] (defScope (top 19)) := ⟨rfl, rfl, rfl, by decide +kernel, rfl, by decide +kernel, by decide +kernel⟩
def pm_cl (K : PySem.W.Frag) (C : Addr) (rs : List SV) (r : SV) : Prop := ∃ (ps : List (List Str)) (cs : Copies) (fs : List Find), CaseOk cs fs ∧ rs = [Bk K C ps cs, D K (eFs fs)] ∧ r = D K (.tuple ((clauses cs fs).map eS))
theorem ok_cl (T : Tx K mg) (B : BkF K mg C) : Ok P w K mg base 5 "clauses" ["book", "finds"] (pure0 (pm_cl K C)) :=
  ok_of T.d_clauses sc_cl (fun _ _ _ _ _ _ us hl => match us, hl with | [_, _], _ => rfl) (fun rs Δ r Δ' ⟨_, _, _, _, _, _, e, _⟩ => by rw [e]; rfl) fun f cdv A outer s H E rs Δ r Δ' hr hp => by
    obtain ⟨rfl, rfl, ps, cs, fs, hc, rfl, rfl⟩ := hp
    obtain ⟨pa, g, M, okg⟩ := ok_bh (P := P) (w := w) (base := base) T B
    have hrows := rows_le hc
    have hall : ∀ i, (holders cs :: (fs.take i).flatMap (findClauses cs)).length ≤ 61 := fun i => by
      have h1 := flatMap_le (f := findClauses cs) (n := 20) (l := fs.take i) fun f hf => find_le hc (List.mem_of_mem_take hf)
      have h2 := hc.nfs
      rw [List.length_take] at h1
      simp only [List.length_cons]
      omega
    refine jss_set (i := 2) (jas_e (jx_newl (ds := [eS (holders cs)]) (ja_cons (je_prop (F := pm_bh K C) (ps := ps) (cs := cs) (je_var 0) B.cls M okg (hr.mono (by decide)) ⟨ps, cs, rfl, rfl⟩) ja_nil)) sc_cl.nd) ?_
    rintro r1 Δ1 ⟨p, rfl, rfl⟩
    refine jss_for (js := [3]) PassesOwn.never rfl (ji_Te (l := fs) (je_var 1)) (pg_name (i := 3) sc_cl.nd rfl (Or.inl rfl))
      (fun i Δ Γ => Δ = [(p, LC K ((holders cs :: (fs.take i).flatMap (findClauses cs)).map eS))] ∧ Γ = [some (Bk K C ps cs), some (D K (eFs fs)), some (VV (.ref p)), none]) ⟨rfl, rfl⟩ (fun i r Δ Γ hr' hI => ?_) fun Δ Γ hI => ?_
    · obtain ⟨rfl, rfl⟩ := hI
      obtain ⟨a, ha, rfl⟩ := at_map hr'
      have hm := List.mem_of_getElem? ha
      have htk : (fs.take (i + 1)).flatMap (findClauses cs) = (fs.take i).flatMap (findClauses cs) ++ findClauses cs a := by rw [List.take_succ, ha]; simp
      have hlt := hall (i + 1)
      rw [htk, List.length_cons, List.length_append] at hlt
      refine ⟨_, tg_name 3, ?_⟩
      refine jss_ext (i := 0) (j := 0) (j0 := 0) (p := p) (ds0 := (holders cs :: (fs.take i).flatMap (findClauses cs)).map eS) (ds := (holders cs :: (fs.take i).flatMap (findClauses cs)).map eS) (je_var 2) rfl
          (je_callP (ok_fc T B) hr (ja_cons (je_var 0) (ja_cons (je_var 3) ja_nil)) ⟨ps, cs, a, hc.nd, by have := hc.few; omega, by have := (hc.wid a hm).1; omega, (hc.wid a hm).2, rfl, rfl⟩) rfl ?_ (jss_nil ?_)
      · rw [List.length_map, List.length_map, line_eq, List.length_cons]
        exact Nat.le_trans (by omega) (show 61 ≤ _ by decide)
      · refine ⟨[_, _, _, none], .keep (.keep (.keep (.drop .nil))), ?_, rfl⟩
        rw [htk, ← List.cons_append, List.map_append]
        rfl
    · obtain ⟨rfl, rfl⟩ := hI
      refine jss_pub (p := p) 2 0 rfl rfl ?_
      rw [List.length_map, List.take_length]
      exact jss_ret ((je_tupleL (ds := (clauses cs fs).map eS) T.f_tuple (je_ssC (m := rowsOf cs fs) rfl (hu5 hr) T.f_sorted T.f_set (je_var 2) (by omega)))) fnO_rt
end
end Bl
set_option Elab.async false
set_option linter.all false
set_option maxRecDepth 100000
set_option maxHeartbeats 2000000
/-! is_pair, is_branch, is_tree, tree_holds, fits, is_ascending_part -/
namespace Bl
open PySem PySem.Spec PyProof.Rows L2
section
variable {P : Program} {w : World} {K : PySem.W.Frag} {mg : Str → Option Value} {base : Heap} {C : Addr}
/-! trees -/
def eB (b : Str × PyData) : PyData := .tuple [.str b.1, b.2]
def eT (c : List Str) (bs : List (Str × PyData)) : PyData := .tuple [eS c, .tuple (bs.map eB)]
inductive TreeOk (rows : List (List Str)) (S : List Str) (most : Nat) : Nat → List Str → PyData → Prop
  | mk {n : Nat} {way c : List Str} {bs : List (Str × PyData)} : c ∈ rows → BM.meets c way = false → bs.map (·.1) = (if way.length < most then outs c S else []) → (bs ≠ [] → 0 < n) → (∀ b ∈ bs, TreeOk rows S most (n - 1) (way ++ [b.1]) b.2) → TreeOk rows S most n way (eT c bs)

abbrev N_pr : List Str := ["thing"]
theorem sc_pr : FnScope N_pr ["thing"] (defScope (top 31)) := ⟨rfl, rfl, rfl, by decide +kernel, rfl, by decide +kernel, by decide +kernel⟩
def pm_pr (K : PySem.W.Frag) (rs : List SV) (r : SV) : Prop := ∃ a b : PyData, rs = [D K (.tuple [a, b])] ∧ r = D K (.bool true)
theorem ok_pr (T : Tx K mg) : Ok P w K mg base 1 "is_pair" ["thing"] (pure0 (pm_pr K)) :=
  ok_of T.d_is_pair sc_pr (fun _ _ _ _ _ _ us hl => match us, hl with | [_], _ => rfl) (fun rs Δ r Δ' ⟨_, _, _, _, e, _⟩ => by rw [e]; rfl) fun f cdv A outer s H E rs Δ r Δ' hr hp => by
    obtain ⟨rfl, rfl, a, b, rfl, rfl⟩ := hp
    exact jss_ret (je_and (b1 := true) (b2 := true) (je_isiT (ds := [a, b]) T.f_isinstance T.f_tuple (je_var 0)) fun _ => je_one ((je_eqI (je_lenT (ds := [a, b]) T.f_len (je_var 0)) (je_gint T.c_PARTS)).eq rfl)) fnO_rt
abbrev N_bc : List Str := ["thing", "holder"]
theorem sc_bc : FnScope N_bc ["thing", "holder"] (defScope (top 32)) := ⟨rfl, rfl, rfl, by decide +kernel, rfl, by decide +kernel, by decide +kernel⟩
def pm_bc (K : PySem.W.Frag) (rs : List SV) (r : SV) : Prop := ∃ (x : Str) (b : PyData), rs = [D K (.tuple [.str x, b]), D K (.str x)] ∧ r = D K (.bool true)
theorem ok_bc (T : Tx K mg) : Ok P w K mg base 2 "is_branch" ["thing", "holder"] (pure0 (pm_bc K)) :=
  ok_of T.d_is_branch sc_bc (fun _ _ _ _ _ _ us hl => match us, hl with | [_, _], _ => rfl) (fun rs Δ r Δ' ⟨_, _, _, _, e, _⟩ => by rw [e]; rfl) fun f cdv A outer s H E rs Δ r Δ' hr hp => by
    obtain ⟨rfl, rfl, x, b, rfl, rfl⟩ := hp
    refine jss_ret (je_and (b1 := true) (b2 := true) (je_callP (ok_pr T) hr (ja_cons (je_var 0) ja_nil) ⟨.str x, b, rfl, rfl⟩) fun _ => je_and (b1 := true) (b2 := true) ?_ fun _ => je_one ?_) fnO_rt
    · exact je_isiS T.f_isinstance T.f_str (je_ixT (ds := [.str x, b]) (d := .str x) (i := 0) (je_var 0) je_int rfl)
    · exact (je_eqS (je_ixT (ds := [.str x, b]) (d := .str x) (i := 0) (je_var 0) je_int rfl) (je_var 1)).eq (by simp)
abbrev N_it : List Str := ["rows", "statement", "thing", "most", "way", "clause", "branches", "wanted", "branch", "holder"]
theorem sc_it : FnScope N_it ["rows", "statement", "thing", "most", "way"] (defScope (top 33)) := ⟨rfl, rfl, rfl, by decide +kernel, rfl, by decide +kernel, by decide +kernel⟩
def pm_it (n : Nat) (K : PySem.W.Frag) (rs : List SV) (r : SV) : Prop := ∃ (rows : List (List Str)) (S : List Str) (t : PyData) (most : Nat) (way : List Str), way.length + n ≤ 60 ∧ TreeOk rows S most n way t ∧ rs = [D K (eR rows), D K (eS S), D K t, D K (.int most), D K (eS way)] ∧ r = D K (.bool true)
theorem ok_it (T : Tx K mg) : ∀ n, Ok P w K mg base (n + 3) "is_tree" ["rows", "statement", "thing", "most", "way"] (pure0 (pm_it n K)) := by
  intro n
  induction n using Nat.strongRecOn with
  | ind n ih =>
  refine ok_of T.d_is_tree sc_it (fun _ _ _ _ _ _ us hl => match us, hl with | [_, _, _, _, _], _ => rfl) (fun rs Δ r Δ' ⟨_, _, _, _, _, _, _, _, _, e, _⟩ => by rw [e]; rfl) fun f cdv A outer s H E rs Δ r Δ' hr hp => ?_
  obtain ⟨rfl, rfl, rows, S, t, most, way, hz, ht, rfl, rfl⟩ := hp
  cases ht with
  | @mk _ _ c bs h1 h2 h3 h4 h5 =>
    have hlen : bs.length = (if way.length < most then outs c S else []).length := by rw [← h3, List.length_map]
    refine jss_if0 (Δ1 := []) (bb := false) ?_ (fun h => by cases h) fun _ => ?_
    · refine ((jw_or (b1 := false) (b2 := false) ?_ fun _ => jw_or (b1 := false) (b2 := false) ?_ fun _ => jw_or1 ?_).jb).eq rfl
      · exact (jb_not (jb_val (je_callP (ok_pr T) (hr.mono (by omega)) (ja_cons (je_var 2) ja_nil) ⟨eS c, .tuple (bs.map eB), rfl, rfl⟩))).eq rfl
      · exact (jb_notInT enc_eS (hu65 hr) (je_ixT (ds := [eS c, .tuple (bs.map eB)]) (d := eS c) (i := 0) (je_var 2) je_int rfl) (je_var 0)).eq (by simp [h1])
      · exact (jb_not (jb_val (je_isiT (ds := bs.map eB) T.f_isinstance T.f_tuple (je_ixT (ds := [eS c, .tuple (bs.map eB)]) (d := .tuple (bs.map eB)) (i := 1) (je_var 2) je_int rfl)))).eq rfl
    refine jss_asg (g := gTup K 2 (gCons (gName 5) (gCons (gName 6) gNil))) (js := [5, 6]) (je_var 2) (pg_tup rfl (pgs_cons (pg_name (i := 5) sc_it.nd rfl (Or.inl rfl)) (pgs_cons (pg_name (i := 6) sc_it.nd rfl (Or.inl rfl)) pgs_nil))) (tg_pair (d1 := eS c) (d2 := .tuple (bs.map eB)) 5 6) ?_
    refine jss_if0 (Δ1 := []) (bb := BM.meets c way) (jb_val (je_callP (ok_meets T) (hr.mono (by omega)) (ja_cons (je_var 5) (ja_cons (je_var 4) ja_nil)) ⟨c, way, rfl, rfl⟩)) (fun h => by rw [h2] at h; cases h) fun _ => ?_
    refine jss_setE (i := 7) (r := L K ((if way.length < most then outs c S else []).map .str)) (Δ1 := []) ?_ sc_it.nd ?_
    · refine je_if (bb := decide (way.length < most)) ((jb_lt (je_lenT (ds := way.map .str) T.f_len (je_var 4)) (je_var 3)).eq (by rw [List.length_map]; simp)) (fun h => ?_) fun h => ?_
      · rw [if_pos (by simpa using h)]
        exact je_callP (ok_out T) (hr.mono (by omega)) (ja_cons (je_var 5) (ja_cons (je_var 1) ja_nil)) ⟨c, S, rfl, rfl⟩
      · rw [if_neg (by simpa using h)]
        exact je_lst0
    refine jss_if0 (Δ1 := []) (bb := false) ?_ (fun h => by cases h) fun _ => ?_
    · exact (jb_neI (je_lenT (ds := bs.map eB) T.f_len (je_var 6)) (je_lenL T.f_len (je_var 7))).eq (by rw [List.length_map, List.length_map, hlen]; simp)
    refine jss_for (js := [8, 9]) (g := gTup K 2 (gCons (gName 8) (gCons (gName 9) gNil))) PassesOwn.never rfl (ji_zipE (la := bs) (lb := if way.length < most then outs c S else []) (fa := eB) (fb := PyData.str) (b1 := true) (b2 := false) T.f_zip (je_var 6) (je_var 7) hlen)
      (pg_tup rfl (pgs_cons (pg_name (i := 8) sc_it.nd rfl (Or.inl rfl)) (pgs_cons (pg_name (i := 9) sc_it.nd rfl (Or.inl rfl)) pgs_nil)))
      (fun i Δ Γ => Δ = [] ∧ Γ = [some (D K (eR rows)), some (D K (eS S)), some (D K (eT c bs)), some (D K (.int most)), some (D K (eS way)), some (D K (eS c)), some (D K (.tuple (bs.map eB))), some (L K ((if way.length < most then outs c S else []).map .str)), none, none]) ⟨rfl, rfl⟩ (fun i r Δ Γ hr' hI => ?_) fun Δ Γ hI => ?_
    · obtain ⟨rfl, rfl⟩ := hI
      obtain ⟨q, hq, rfl⟩ := at_map hr'
      rw [← h3] at hq
      obtain ⟨b, hb, rfl⟩ : ∃ b ∈ bs, q = (b, b.1) := by
        rw [List.getElem?_zip_eq_some] at hq
        obtain ⟨q1, q2⟩ := hq
        obtain ⟨b, e1, e2⟩ := at_map q2
        rw [q1] at e1
        cases e1
        exact ⟨q.1, List.mem_of_getElem? q1, Prod.ext rfl e2⟩
      have hn : 0 < n := h4 (List.ne_nil_of_mem hb)
      refine ⟨_, tg_pair (d1 := eB b) (d2 := .str b.1) 8 9, ?_⟩
      refine jss_if0 (Δ1 := []) (bb := false) ?_ (fun h => by cases h) fun _ => jss_nil ⟨[_, _, _, _, _, _, _, _, none, none], .keep (.keep (.keep (.keep (.keep (.keep (.keep (.keep (.drop (.drop .nil))))))))), rfl, rfl⟩
      refine ((jw_or (b1 := false) (b2 := false) ?_ fun _ => jw_or1 ?_).jb).eq rfl
      · exact (jb_not (jb_val (je_callP (ok_bc T) (hr.mono (by omega)) (ja_cons (je_var 8) (ja_cons (je_var 9) ja_nil)) ⟨b.1, b.2, rfl, rfl⟩))).eq rfl
      · refine (jb_not (jb_val (je_callP (ih (n - 1) (by omega)) (hr.mono (by omega)) (ja_cons (je_var 0) (ja_cons (je_var 1) (ja_cons (je_ixT (ds := [.str b.1, b.2]) (d := b.2) (i := 1) (je_var 8) je_int rfl) (ja_cons (je_var 3) (ja_cons (je_catT (ds1 := way.map .str) (ds2 := [.str b.1]) (je_var 4) (je_tup (ds := [.str b.1]) (ja_cons (je_var 9) ja_nil)) (by rw [line_eq, List.length_map]; simp; omega)) ja_nil)))))
          ⟨rows, S, b.2, most, way ++ [b.1], by simp; omega, h5 b hb, by simp only [eS, List.map_append, List.map_cons, List.map_nil]; rfl, rfl⟩))).eq rfl
    · obtain ⟨rfl, rfl⟩ := hI
      exact jss_ret je_bl fnO_rt
/-! tree_holds, fits -/
abbrev N_th : List Str := ["book", "finds", "statement", "thing", "most"]
theorem sc_th : FnScope N_th ["book", "finds", "statement", "thing", "most"] (defScope (top 35)) := ⟨rfl, rfl, rfl, by decide +kernel, rfl, by decide +kernel, by decide +kernel⟩
def pm_th (K : PySem.W.Frag) (C : Addr) (rs : List SV) (r : SV) : Prop := ∃ (ps : List (List Str)) (cs : Copies) (fs : List Find) (S : List Str) (t : PyData) (most : Nat), CaseOk cs fs ∧ TreeOk (clauses cs fs) S most 6 [] t ∧ rs = [Bk K C ps cs, D K (eFs fs), D K (eS S), D K t, D K (.int most)] ∧ r = D K (.bool true)
theorem ok_th (T : Tx K mg) (B : BkF K mg C) : OkK P w K mg base 10 "tree_holds" ["book", "finds", "statement", "thing", "most"] 4 (pure0 (pm_th K C)) :=
  okk_of T.d_tree_holds sc_th (fun _ _ _ _ _ _ us ws h1 h2 => match us, ws, h1, h2 with | [_, _, _, _], [_], _, _ => rfl) (fun rs Δ r Δ' ⟨_, _, _, _, _, _, _, _, _, _, e, _⟩ => by rw [e]; rfl) fun f cdv A outer s H E rs Δ r Δ' hr hp => by
    obtain ⟨rfl, rfl, ps, cs, fs, S, t, most, hc, ht, rfl, rfl⟩ := hp
    refine jss_ret (je_callP (ok_it T 6) hr (ja_cons (je_callP (ok_cl T B) (hr.mono (by decide)) (ja_cons (je_var 0) (ja_cons (je_var 1) ja_nil)) ⟨ps, cs, fs, hc, rfl, rfl⟩) (ja_cons (je_var 2) (ja_cons (je_var 3) (ja_cons (je_var 4) (ja_cons (je_tup0) ja_nil))))) ⟨clauses cs fs, S, t, most, [], by simp, ht, rfl, rfl⟩) fnO_rt
abbrev N_ft : List Str := ["book", "group", "finds", "most"]
theorem sc_ft : FnScope N_ft ["book", "group", "finds", "most"] (defScope (top 24)) := ⟨rfl, rfl, rfl, by decide +kernel, rfl, by decide +kernel, by decide +kernel⟩
def pm_ft (K : PySem.W.Frag) (C : Addr) (rs : List SV) (r : SV) : Prop := ∃ (ps : List (List Str)) (cs : Copies) (fs : List Find) (g : List Str) (most : Nat), CaseOk cs fs ∧ rs = [Bk K C ps cs, D K (eS g), D K (eFs fs), D K (.int most)] ∧ r = D K (.bool (decide (g.length ≤ most) && BM.meetsAll g (clauses cs fs)))
theorem ok_ft (T : Tx K mg) (B : BkF K mg C) : OkK P w K mg base 6 "fits" ["book", "group", "finds", "most"] 3 (pure0 (pm_ft K C)) :=
  okk_of T.d_fits sc_ft (fun _ _ _ _ _ _ us ws h1 h2 => match us, ws, h1, h2 with | [_, _, _], [_], _, _ => rfl) (fun rs Δ r Δ' ⟨_, _, _, _, _, _, _, _, e, _⟩ => by rw [e]; rfl) fun f cdv A outer s H E rs Δ r Δ' hr hp => by
    obtain ⟨rfl, rfl, ps, cs, fs, g, most, hc, rfl, rfl⟩ := hp
    refine jss_ret (je_and ((je_le (je_lenT (ds := g.map .str) T.f_len (je_var 1)) (je_var 3)).eq (by rw [List.length_map]; simp)) fun _ => je_one ?_) fnO_rt
    exact je_callP (ok_mall T) (hr.mono (by decide)) (ja_cons (je_var 1) (ja_cons (je_callP (ok_cl T B) hr (ja_cons (je_var 0) (ja_cons (je_var 2) ja_nil)) ⟨ps, cs, fs, hc, rfl, rfl⟩) ja_nil)) ⟨g, clauses cs fs, rfl, rfl⟩
/-! is_ascending_part: of what is one -/
abbrev N_ap2 : List Str := ["book", "thing", "known", "one", "other"]
theorem sc_ap2 : FnScope N_ap2 ["book", "thing"] (defScope (top 11)) := ⟨rfl, rfl, rfl, by decide +kernel, rfl, by decide +kernel, by decide +kernel⟩
def pm_asc (K : PySem.W.Frag) (C : Addr) (rs : List SV) (r : SV) : Prop := ∃ (ps : List (List Str)) (cs : Copies) (t : List Str), BM.Asc sLt t ∧ (∀ h ∈ t, h ∈ holders cs) ∧ rs = [Bk K C ps cs, D K (eS t)] ∧ r = D K (.bool true)
theorem ok_asc (T : Tx K mg) (B : BkF K mg C) : Ok P w K mg base 3 "is_ascending_part" ["book", "thing"] (pure0 (pm_asc K C)) :=
  ok_of T.d_is_ascending_part sc_ap2 (fun _ _ _ _ _ _ us hl => match us, hl with | [_, _], _ => rfl) (fun rs Δ r Δ' ⟨_, _, _, _, _, _, _, e, _⟩ => by rw [e]; rfl) fun f cdv A outer s H E rs Δ r Δ' hr hp => by
    obtain ⟨rfl, rfl, ps, cs, t, ha, hs, rfl, rfl⟩ := hp
    obtain ⟨pa, g, M, okg⟩ := ok_bh (P := P) (w := w) (base := base) T B
    refine jss_if0 (Δ1 := []) (bb := false) ((jb_not (jb_val (je_isiT (ds := t.map .str) T.f_isinstance T.f_tuple (je_var 1)))).eq rfl) (fun h => by cases h) fun _ => ?_
    refine jss_setE (i := 2) (je_prop (F := pm_bh K C) (ps := ps) (cs := cs) (je_var 0) B.cls M okg hr ⟨ps, cs, rfl, rfl⟩) sc_ap2.nd ?_
    refine jss_if0 (Δ1 := []) (bb := false) ?_ (fun h => by cases h) fun _ => ?_
    · refine (jb_not (jb_val ((je_allF (l := t) (q := fun _ => true) rfl T.f_all ?_).eq (d' := .bool true) (by rw [all_true fun _ _ => rfl])))).eq rfl
      refine je_map (js := [3]) (own := [("one", 3)]) rfl sc_ap2.nd (ji_Te (je_var 1)) (blkOk_by (N := N_ap2) (sc := defScope (top 11)) (by decide +kernel)) (fun _ _ _ _ _ => pg_name (i := 3) sc_ap2.nd rfl (Or.inl rfl)) (fun a _ => tg_name 3) (by decide) fun h hh _ _ _ _ _ => ?_
      exact (je_and (b1 := true) (b2 := true) (je_isiS T.f_isinstance T.f_str (je_var 3)) fun _ => je_one ((je_inT enc_str (hu65 hr) (je_var 3) (je_var 2)).eq (by simp [hs h hh]))).eq rfl
    · refine jss_ret ((je_allF (l := t.dropLast.zip (t.drop 1)) (q := fun _ => true) rfl T.f_all ?_).eq (by rw [all_true fun _ _ => rfl])) fnO_rt
      refine (je_map (l := t.dropLast.zip (t.drop 1)) (f := fun q : Str × Str => .bool (sLt q.1 q.2)) (ra := fun q : Str × Str => D K (.tuple [.str q.1, .str q.2])) (js := [3, 4]) (own := [("one", 3), ("other", 4)]) rfl sc_ap2.nd (ji_zipE (Δ1 := []) (la := t.dropLast) (lb := t.drop 1) (fa := PyData.str) (fb := PyData.str) (b1 := true) (b2 := true) T.f_zip ?_ ?_ (by simp)) (blkOk_by (N := N_ap2) (sc := defScope (top 11)) (by decide +kernel))
        (fun _ _ _ _ _ => pg_tup rfl (pgs_cons (pg_name (i := 3) sc_ap2.nd rfl (Or.inl rfl)) (pgs_cons (pg_name (i := 4) sc_ap2.nd rfl (Or.inl rfl)) pgs_nil))) (fun q _ => tg_pair 3 4) (by decide) fun q _ _ _ _ _ _ => ?_).leq ?_
      · rw [← cut_init]; exact je_slSQ (bb := true) (je_var 1) jo_none (jo_some (je_neg je_int))
      · rw [← cut_tail]; exact je_slSQ (bb := true) (je_var 1) (jo_some je_int) jo_none
      · exact je_ltS (je_var 3) (je_var 4)
      · exact List.map_congr_left fun q hq => by rw [asc_pairs ha q hq]
end
end Bl
set_option Elab.async false
set_option linter.all false
set_option maxRecDepth 100000
set_option maxHeartbeats 2000000
/-! the law's cases (a dict); _law_can, _law_rows -/
namespace Bl
open PySem PySem.Spec PyProof.Rows L2
section
variable {X : Cx} {a b : Expr} {Γ : Gm} {Δ Δ1 Δ2 : Cs} {r ra : SV} {pos : Pos}
/-- d[text] of a dict that does not change -/
theorem je_dget {z : Str} (hu : X.A.units + 1 < cLine) (ha : JE X Δ Γ a ra Δ1) (hb : JE X Δ1 Γ b (D X.K (.str z)) Δ2) (k : ∀ v G, ra.P v G → ∃ p kvs u, v = .ref p ∧ G p = some (.dK kvs) ∧ valV kvs (.inr z) = some u ∧ r.P u G) (hs : NoSl b := by intro _ _; rfl) : JE X Δ Γ (.Subscript a b pos) r Δ2 :=
  je_of (pe_dget hu ha.use hb.use hs) fun σ G H Q hs sl q => ⟨G, hs, sl, fun v G1 H1 t1 p1 => ⟨G1, t1.hs, sl.mono t1.up, fun y G2 H2 t2 p2 => by
    cases p2.1
    obtain ⟨p, kvs, u, rfl, e, hv, pu⟩ := k v G2 (ra.mono t2.up p1)
    refine ⟨p, u, rfl, ?_, q u G2 H2 (t1.trans t2) pu⟩
    have := DGet.k (k := .inr z) (t2.hs.sub _ _ e)
    rw [hv] at this
    exact this⟩⟩
end
/-- a case -/
structure CaseD where
  hs : List Str
  ps : List (List Str)
  cs : Copies
  fs : List Find
  m : Nat
def CaseV (K : PySem.W.Frag) (c : CaseD) : SV := ⟨fun v H => ∃ a v1 v2 v3 v4 v5, v = .ref a ∧ H a = some (.dK [(.inr "people", v1), (.inr "places", v2), (.inr "copies", v3), (.inr "blends", v4), (.inr "bound", v5)]) ∧
    (L K (c.hs.map .str)).P v1 H ∧ (D K (eR c.ps)).P v2 H ∧ (D K (eCs c.cs)).P v3 H ∧ (D K (eFs c.fs)).P v4 H ∧ (D K (.int c.m)).P v5 H,
  fun e ⟨a, v1, v2, v3, v4, v5, h1, h2, p1, p2, p3, p4, p5⟩ => ⟨a, v1, v2, v3, v4, v5, h1, e _ _ h2, (L K _).mono e p1, (D K _).mono e p2, (D K _).mono e p3, (D K _).mono e p4, (D K _).mono e p5⟩⟩
section
variable {X : Cx} {e : Expr} {Γ : Gm} {Δ Δ1 : Cs} {pos p : Pos} {c : CaseD} {k : Nat}
theorem je_people (hu : X.A.units + 1 < cLine) (h : JE X Δ Γ e (CaseV X.K c) Δ1) : JE X Δ Γ (.Subscript e (.Constant (.str "people") k p) pos) (L X.K (c.hs.map .str)) Δ1 :=
  je_dget hu h je_str fun v G ⟨a, v1, v2, v3, v4, v5, h1, h2, p1, p2, p3, p4, p5⟩ => ⟨a, _, v1, h1, h2, rfl, p1⟩
theorem je_cplaces (hu : X.A.units + 1 < cLine) (h : JE X Δ Γ e (CaseV X.K c) Δ1) : JE X Δ Γ (.Subscript e (.Constant (.str "places") k p) pos) (D X.K (eR c.ps)) Δ1 :=
  je_dget hu h je_str fun v G ⟨a, v1, v2, v3, v4, v5, h1, h2, p1, p2, p3, p4, p5⟩ => ⟨a, _, v2, h1, h2, rfl, p2⟩
theorem je_ccopies (hu : X.A.units + 1 < cLine) (h : JE X Δ Γ e (CaseV X.K c) Δ1) : JE X Δ Γ (.Subscript e (.Constant (.str "copies") k p) pos) (D X.K (eCs c.cs)) Δ1 :=
  je_dget hu h je_str fun v G ⟨a, v1, v2, v3, v4, v5, h1, h2, p1, p2, p3, p4, p5⟩ => ⟨a, _, v3, h1, h2, rfl, p3⟩
theorem je_blends (hu : X.A.units + 1 < cLine) (h : JE X Δ Γ e (CaseV X.K c) Δ1) : JE X Δ Γ (.Subscript e (.Constant (.str "blends") k p) pos) (D X.K (eFs c.fs)) Δ1 :=
  je_dget hu h je_str fun v G ⟨a, v1, v2, v3, v4, v5, h1, h2, p1, p2, p3, p4, p5⟩ => ⟨a, _, v4, h1, h2, rfl, p4⟩
theorem je_bound (hu : X.A.units + 1 < cLine) (h : JE X Δ Γ e (CaseV X.K c) Δ1) : JE X Δ Γ (.Subscript e (.Constant (.str "bound") k p) pos) (D X.K (.int c.m)) Δ1 :=
  je_dget hu h je_str fun v G ⟨a, v1, v2, v3, v4, v5, h1, h2, p1, p2, p3, p4, p5⟩ => ⟨a, _, v5, h1, h2, rfl, p5⟩
end
section
variable {P : Program} {w : World} {K : PySem.W.Frag} {mg : Str → Option Value} {base : Heap} {C : Addr}
theorem hu1 {A : Around} {k : Nat} (hr : Room k A) : A.units + 1 < cLine := by have := hr.un; omega
/-! _law_can -/
def can1 (cs : Copies) (g : List Str) (kind : Str) (q : Option Str × Nat) : Bool := match q.1 with
  | none => true
  | some e => decide (e ∈ marksOf cs g q.2) || ((decide (kind = sFree) || (decide (kind = sSmear) && decide (e = sUn))) && !decide ((BM.dd (marksOf cs g q.2)).length < 2))
def lawCan (cs : Copies) (g : List Str) (f : Find) : Bool := f.2.zipIdx.all (can1 cs g f.1)
theorem enum_at {f : List (Option Str)} {i : Nat} {r : SV} (h : (((f.map eO).zipIdx).map fun q => D K (.tuple [.int (q.2 : Int), q.1]))[i]? = some r) : ∃ m, f[i]? = some m ∧ r = D K (.tuple [.int (i : Int), eO m]) := by
  obtain ⟨q, hq, rfl⟩ := at_map h
  rw [List.zipIdx_map, List.getElem?_map, List.getElem?_zipIdx] at hq
  cases hm : f[i]? with
  | none => rw [hm] at hq; cases hq
  | some m =>
    rw [hm] at hq
    refine ⟨m, rfl, ?_⟩
    have := Option.some.inj hq
    rw [← this]
    simp [Prod.map]
theorem zip_at {f : List (Option Str)} {i : Nat} {m : Option Str} (h : f[i]? = some m) : f.zipIdx[i]? = some (m, i) := by rw [List.getElem?_zipIdx, h]; simp
abbrev N_cn : List Str := ["_law_case_here", "_law_group", "_law_blend", "_law_manner", "_law_entries", "_law_at", "_law_entry", "_law_have", "_law_is_loose"]
theorem sc_cn : FnScope N_cn ["_law_case_here", "_law_group", "_law_blend"] (defScope (top 78)) := ⟨rfl, rfl, rfl, by decide +kernel, rfl, by decide +kernel, by decide +kernel⟩
def pm_cn (K : PySem.W.Frag) (rs : List SV) (r : SV) : Prop := ∃ (c : CaseD) (g : List Str) (f : Find), c.cs.length < 63 ∧ (∀ x ∈ c.cs, f.2.length ≤ x.2.length) ∧ rs = [CaseV K c, D K (eS g), D K (eF f)] ∧ r = D K (.bool (lawCan c.cs g f))
theorem ok_cn (T : Tx K mg) : Ok P w K mg base 2 "_law_can" ["_law_case_here", "_law_group", "_law_blend"] (pure0 (pm_cn K)) :=
  ok_of T.d__law_can sc_cn (fun _ _ _ _ _ _ us hl => match us, hl with | [_, _, _], _ => rfl) (fun rs Δ r Δ' ⟨_, _, _, _, _, _, _, e, _⟩ => by rw [e]; rfl) fun f cdv A outer s H E rs Δ r Δ' hr hp => by
    obtain ⟨rfl, rfl, c, g, fd, hlen, hi, rfl, rfl⟩ := hp
    refine jss_asg (g := gTup K 2 (gCons (gName 3) (gCons (gName 4) gNil))) (js := [3, 4]) (je_var 2) (pg_tup rfl (pgs_cons (pg_name (i := 3) sc_cn.nd rfl (Or.inl rfl)) (pgs_cons (pg_name (i := 4) sc_cn.nd rfl (Or.inl rfl)) pgs_nil))) (tg_pair (d1 := .str fd.1) (d2 := .tuple (fd.2.map eO)) 3 4) ?_
    refine jss_for (js := [5, 6]) (g := gTup K 2 (gCons (gName 5) (gCons (gName 6) gNil))) PassesOwn.never rfl (ji_enum (bb := true) (ds := fd.2.map eO) T.f_enumerate (je_var 4)) (pg_tup rfl (pgs_cons (pg_name (i := 5) sc_cn.nd rfl (Or.inl rfl)) (pgs_cons (pg_name (i := 6) sc_cn.nd rfl (Or.inl rfl)) pgs_nil)))
      (fun i Δ Γ => Δ = [] ∧ (fd.2.zipIdx.take i).all (can1 c.cs g fd.1) = true ∧ Γ = [some (CaseV K c), some (D K (eS g)), some (D K (eF fd)), some (D K (.str fd.1)), some (D K (.tuple (fd.2.map eO))), none, none, none, none]) ⟨rfl, rfl, rfl⟩ (fun i r Δ Γ hr' hI => ?_) fun Δ Γ hI => ?_
    · obtain ⟨rfl, hall, rfl⟩ := hI
      obtain ⟨m, hm, rfl⟩ := enum_at hr'
      have hil : i < fd.2.length := (List.getElem?_eq_some_iff.mp hm).1
      have hnext : can1 c.cs g fd.1 (m, i) = true → (fd.2.zipIdx.take (i + 1)).all (can1 c.cs g fd.1) = true := fun h => by
        rw [List.take_succ, zip_at hm, List.all_append, hall]
        simpa using h
      have hbad : can1 c.cs g fd.1 (m, i) = false → lawCan c.cs g fd = false := fun h => by
        unfold lawCan
        rw [List.all_eq_false]
        exact ⟨(m, i), List.mem_of_getElem? (zip_at hm), by rw [h]; exact Bool.false_ne_true⟩
      refine ⟨_, tg_pair (d1 := .int (i : Int)) (d2 := eO m) 5 6, ?_⟩
      refine jss_setE (i := 7) (r := L K ((marksOf c.cs g i).map .str)) (je_callP (ok_lk T) hr (ja_cons (je_ccopies (hu1 hr) (je_var 0)) (ja_cons (je_var 1) (ja_cons (je_var 5) ja_nil))) ⟨c.cs, g, i, fun x hx => Nat.lt_of_lt_of_le hil (hi x hx), .inl rfl, rfl⟩) sc_cn.nd ?_
      cases m with
      | none =>
        refine jss_if0 (Δ1 := []) (bb := true) (jw_or (b1 := true) (b2 := true) (jb_isN (o := none) (je_var 6)) fun h => by cases h).jb (fun _ => jss_cont ⟨[_, _, _, _, _, none, none, none, none], .keep (.keep (.keep (.keep (.keep (.drop (.drop (.drop (.keep .nil)))))))), rfl, hnext rfl, rfl⟩) fun h => by cases h
      | some e =>
        refine jss_if0 (Δ1 := []) (bb := decide (e ∈ marksOf c.cs g i)) ((jw_or (b1 := false) (jb_isN (o := some e) (je_var 6)) fun _ => jw_or1 (jb_inL (x := e) (m := marksOf c.cs g i) enc_str (hu65 hr) (je_var 6) (je_var 7))).jb.eq (by simp)) (fun h => ?_) fun h1 => ?_
        · exact jss_cont ⟨[_, _, _, _, _, none, none, none, none], .keep (.keep (.keep (.keep (.keep (.drop (.drop (.drop (.keep .nil)))))))), rfl, hnext (by simp [can1, h]), rfl⟩
        refine jss_setE (i := 8) (r := D K (.bool (decide (fd.1 = sFree) || (decide (fd.1 = sSmear) && decide (e = sUn))))) (Δ1 := []) (je_or (je_eqS (je_var 3) je_str) fun _ => je_one (je_and (je_eqS (je_var 3) je_str) fun _ => je_one (je_eqS (x := e) (je_var 6) je_str))) sc_cn.nd ?_
        have hml : (marksOf c.cs g i).length < 64 := by
          unfold marksOf
          rw [List.length_map]
          have := List.length_filter_le (fun x : Str × List Str => decide (x.1 ∈ g)) c.cs
          omega
        refine jss_if0 (Δ1 := []) (bb := !(decide (fd.1 = sFree) || (decide (fd.1 = sSmear) && decide (e = sUn))) || decide (((BM.dd (marksOf c.cs g i)).length : Int) < 2)) ((jw_or (jb_not (jb_val (je_var 8))) fun _ => jw_or1 (jb_lt (je_lsL (l := marksOf c.cs g i) rfl (hu5 hr) T.f_len T.f_set (je_var 7) hml) je_int)).jb) (fun h2 => ?_) fun h2 => ?_
        · refine jss_ret je_bl ?_
          rw [hbad (by
            simp only [can1, h1, Bool.false_or]
            revert h2
            generalize (decide (fd.1 = sFree) || (decide (fd.1 = sSmear) && decide (e = sUn))) = b
            intro h2
            cases b with
            | false => rfl
            | true =>
              simp at h2 ⊢
              omega)]
          exact fnO_rt
        · refine jss_nil ⟨[_, _, _, _, _, none, none, none, none], .keep (.keep (.keep (.keep (.keep (.drop (.drop (.drop (.drop .nil)))))))), rfl, hnext ?_, rfl⟩
          simp only [can1, h1, Bool.false_or]
          revert h2
          generalize (decide (fd.1 = sFree) || (decide (fd.1 = sSmear) && decide (e = sUn))) = b
          intro h2
          cases b with
          | false => cases h2
          | true =>
            simp at h2 ⊢
            omega
    · obtain ⟨rfl, hall, rfl⟩ := hI
      refine jss_ret je_bl ?_
      rw [List.take_of_length_le (by simp)] at hall
      rw [show lawCan c.cs g fd = true from hall]
      exact fnO_rt
end
end Bl
set_option Elab.async false
set_option linter.all false
set_option maxRecDepth 100000
set_option maxHeartbeats 2000000
/-! a, b = e, f; _law_rows -/
namespace Bl
open PySem PySem.Spec PyProof.Rows L2
section
variable {X : Cx} {a b : Expr} {Γ : Gm} {Δ Δ1 : Cs} {ra : SV} {pos : Pos} {O : En → Prop} {rest : List Stmt} {i j : Nat} {x y : Str}
/-- a, b = e, f: the second may be a new list that will change -/
theorem jss_par {px py pt : Pos} {kt k2 : Nat} {pt2 : Pos} {Ob : SV → Cs → Prop} (ha : JE X Δ Γ a ra Δ1) (hb : JX X Δ1 Γ b Ob) (hr : ∀ r Δ2, Ob r Δ2 → JSs X Δ2 ((Γ.set i (some ra)).set j (some r)) rest O) (hc : X.calm = true) (hN : X.N.Nodup) (hi : X.N[i]? = some x) (hj : X.N[j]? = some y) (hij : i ≠ j)
    (hx : X.env.scope.names.lookup x = some .local := by rfl) (hy : X.env.scope.names.lookup y = some .local := by rfl) (h1 : starEach [a, b] X.env = (false, eval a X.env) :: starEach [b] X.env := by rfl) (h2 : starEach [b] X.env = (false, eval b X.env) :: starEach [] X.env := by rfl)
    (hw : swappedStores [.Tuple [.Name x px, .Name y py] kt pt] (.Tuple [a, b] k2 pt2) X.env = pure (some [x, y]) := by rfl) (hs : swapsWithSole [.Tuple [.Name x px, .Name y py] kt pt] (.Tuple [a, b] k2 pt2) pos.line X.env = pure false := by rfl) :
    JSs X Δ Γ (.Assign [.Tuple [.Name x px, .Name y py] kt pt] (.Tuple [a, b] k2 pt2) pos :: rest) O :=
  jss_of (pss_cons (ps_par hc hN hi hj hij hx hy (pa_cons ha.use (pa_cons hb.use pa_nil h2) h1) hw hs) pss_U) fun σ G H D hh sl sv => ⟨G, hh, sl, fun v G1 H1 t1 p1 => ⟨G1, t1.hs, sl.mono t1.up, fun w G2 H2 Δ2 r o t2 p2 => by
    refine ⟨v, w, rfl, ?_⟩
    have t := t1.trans t2
    exact ⟨Δ2, _, hr r Δ2 o, G2, t.hs, ((sl.mono t.up).set (ra.mono t2.up p1)).set p2, sv.trans t⟩⟩⟩
end
section
variable {P : Program} {w : World} {K : PySem.W.Frag} {mg : Str → Option Value} {base : Heap} {C : Addr}
def lawEntry (cs : Copies) (kind : Str) (q : Option Str × Nat) : List (List Str) := match q.1 with
  | none => []
  | some e => if kind = sPick ∨ (kind = sSmear ∧ e ≠ sUn) then [hWith cs q.2 e] else ((marksAt cs q.2).filter fun m => !decide (m = e)).map fun m => hWithout cs q.2 m
def lawFind (cs : Copies) (f : Find) : List (List Str) := f.2.zipIdx.flatMap (lawEntry cs f.1)
def lawRows (cs : Copies) (hs : List Str) (fs : List Find) : List (List Str) := hs :: fs.flatMap (lawFind cs)
theorem marksAt_le (cs : Copies) (i : Nat) : (marksAt cs i).length ≤ cs.length := by
  rw [marksAt, BM.ss, BM.srt_len]
  have := BM.dd_len (cs.map fun c => markAt c.2 i)
  rwa [List.length_map] at this
theorem lawEntry_le {cs : Copies} (h : cs.length ≤ 5) (kind : Str) (q : Option Str × Nat) : (lawEntry cs kind q).length ≤ 5 := by
  unfold lawEntry
  split
  · exact Nat.zero_le _
  · split
    · simp
    · rw [List.length_map]
      exact Nat.le_trans (List.length_filter_le _ _) (Nat.le_trans (marksAt_le cs _) h)
theorem lawFind_le {cs : Copies} {fs : List Find} (h : CaseOk cs fs) {f : Find} (hf : f ∈ fs) : (lawFind cs f).length ≤ 20 := by
  refine Nat.le_trans (flatMap_le (f := lawEntry cs f.1) (n := 5) fun q _ => lawEntry_le h.few f.1 q) ?_
  rw [List.length_zipIdx]
  have := (h.wid f hf).1
  omega
theorem lawRows_le {cs : Copies} {fs : List Find} (h : CaseOk cs fs) (hs : List Str) : (lawRows cs hs fs).length ≤ 61 := by
  have h1 := flatMap_le (f := lawFind cs) (n := 20) (l := fs) fun f hf => lawFind_le h hf
  have h2 := h.nfs
  simp only [lawRows, List.length_cons]
  omega
abbrev N_lr : List Str := ["_law_case_here", "_law_copies_here", "_law_found", "_law_manner", "_law_entries", "_law_at", "_law_entry", "_law_there", "_law_mark", "_law_one", "_law_row"]
theorem sc_lr : FnScope N_lr ["_law_case_here"] (defScope (top 84)) := ⟨rfl, rfl, rfl, by decide +kernel, rfl, by decide +kernel, by decide +kernel⟩
def pm_lr (K : PySem.W.Frag) (rs : List SV) (r : SV) : Prop := ∃ c : CaseD, CaseOk c.cs c.fs ∧ rs = [CaseV K c] ∧ r = L K ((BM.ss cLt (lawRows c.cs c.hs c.fs)).map eS)
theorem ok_lr (T : Tx K mg) : Ok P w K mg base 1 "_law_rows" ["_law_case_here"] (pure0 (pm_lr K)) :=
  ok_of T.d__law_rows sc_lr (fun _ _ _ _ _ _ us hl => match us, hl with | [_], _ => rfl) (fun rs Δ r Δ' ⟨_, _, _, _, e, _⟩ => by rw [e]; rfl) fun f cdv A outer s H E rs Δ r Δ' hr hp => by
    obtain ⟨rfl, rfl, c, hc, rfl, rfl⟩ := hp
    have hfew := hc.few
    refine jss_par (i := 1) (j := 2) (je_ccopies (hu1 hr) (je_var 0)) (jx_newl (ds := [eS c.hs]) (ja_cons (je_tupleL (ds := c.hs.map .str) T.f_tuple (je_people (hu1 hr) (je_var 0))) ja_nil)) ?_ rfl sc_lr.nd rfl rfl (by decide)
    rintro r1 Δ1 ⟨p, rfl, rfl⟩
    have hall : ∀ i, (c.hs :: (c.fs.take i).flatMap (lawFind c.cs)).length ≤ 61 := fun i => by
      have h1 := flatMap_le (f := lawFind c.cs) (n := 20) (l := c.fs.take i) fun f hf => lawFind_le hc (List.mem_of_mem_take hf)
      have h2 := hc.nfs
      rw [List.length_take] at h1
      simp only [List.length_cons]
      omega
    refine jss_for (js := [3, 4]) (g := gTup K 2 (gCons (gName 3) (gCons (gName 4) gNil))) PassesOwn.never rfl (ji_Te (l := c.fs) (enc := eF) (je_blends (hu1 hr) (je_var 0))) (pg_tup rfl (pgs_cons (pg_name (i := 3) sc_lr.nd rfl (Or.inl rfl)) (pgs_cons (pg_name (i := 4) sc_lr.nd rfl (Or.inl rfl)) pgs_nil)))
      (fun i Δ Γ => Δ = [(p, LC K ((c.hs :: (c.fs.take i).flatMap (lawFind c.cs)).map eS))] ∧ Γ = [some (CaseV K c), some (D K (eCs c.cs)), some (VV (.ref p)), none, none, none, none, none, none, none, none]) ⟨rfl, rfl⟩ (fun i r Δ Γ hr' hI => ?_) fun Δ Γ hI => ?_
    · obtain ⟨rfl, rfl⟩ := hI
      obtain ⟨fd, hfd, rfl⟩ := at_map hr'
      have hm := List.mem_of_getElem? hfd
      have hw := (hc.wid fd hm).2
      have hb := hall i
      have hb2 := hall (i + 1)
      have htk : (c.fs.take (i + 1)).flatMap (lawFind c.cs) = (c.fs.take i).flatMap (lawFind c.cs) ++ lawFind c.cs fd := by rw [List.take_succ, hfd]; simp
      generalize hbase : (c.hs :: (c.fs.take i).flatMap (lawFind c.cs)) = B at hb ⊢
      refine ⟨_, tg_pair (d1 := .str fd.1) (d2 := .tuple (fd.2.map eO)) 3 4, ?_⟩
      have h20 : ∀ k, ((fd.2.zipIdx.take k).flatMap (lawEntry c.cs fd.1)).length ≤ 20 := fun k => by
        refine Nat.le_trans (flatMap_le (f := lawEntry c.cs fd.1) (n := 5) fun q _ => lawEntry_le hfew fd.1 q) ?_
        rw [List.length_take, List.length_zipIdx]
        have := (hc.wid fd hm).1
        omega
      refine jss_for (js := [5, 6]) (g := gTup K 2 (gCons (gName 5) (gCons (gName 6) gNil))) PassesOwn.never rfl (ji_enum (bb := true) (ds := fd.2.map eO) T.f_enumerate (je_var 4)) (pg_tup rfl (pgs_cons (pg_name (i := 5) sc_lr.nd rfl (Or.inr rfl)) (pgs_cons (pg_name (i := 6) sc_lr.nd rfl (Or.inr rfl)) pgs_nil)))
        (fun k Δ Γ => Δ = [(p, LC K ((B ++ (fd.2.zipIdx.take k).flatMap (lawEntry c.cs fd.1)).map eS))] ∧ Γ = [some (CaseV K c), some (D K (eCs c.cs)), some (VV (.ref p)), some (D K (.str fd.1)), some (D K (.tuple (fd.2.map eO))), none, none, none, none, none, none]) ⟨by simp, rfl⟩ (fun k r Δ Γ hr2 hI => ?_) fun Δ Γ hI => ?_
      · obtain ⟨rfl, rfl⟩ := hI
        obtain ⟨m, hm2, rfl⟩ := enum_at hr2
        have hil : k < fd.2.length := (List.getElem?_eq_some_iff.mp hm2).1
        have hi : ∀ x ∈ c.cs, k < x.2.length := fun x hx => Nat.lt_of_lt_of_le hil (hw x hx)
        have hk20 := h20 k
        have htk2 : (fd.2.zipIdx.take (k + 1)).flatMap (lawEntry c.cs fd.1) = (fd.2.zipIdx.take k).flatMap (lawEntry c.cs fd.1) ++ lawEntry c.cs fd.1 (m, k) := by rw [List.take_succ, zip_at hm2]; simp
        generalize (fd.2.zipIdx.take k).flatMap (lawEntry c.cs fd.1) = F at hk20 htk2 ⊢
        refine ⟨_, tg_pair (d1 := .int (k : Int)) (d2 := eO m) 5 6, ?_⟩
        refine jss_setE (i := 7) (r := L K ((marksAt c.cs k).map .str)) (Δ1 := [(p, LC K ((B ++ F).map eS))]) (je_ssL (l := c.cs.map fun x => markAt x.2 k) rfl (hu5 hr) T.f_sorted T.f_set ?_ (by rw [List.length_map]; omega)) sc_lr.nd ?_
        · refine (je_map (l := c.cs) (ra := fun x => D K (eC x)) (f := fun x => .str (markAt x.2 k)) (js := [9, 10]) (own := [("_law_one", 9), ("_law_row", 10)]) rfl sc_lr.nd (ji_Te (je_var 1)) (blkOk_by (N := N_lr) (sc := defScope (top 84)) (by decide +kernel))
            (fun _ _ _ _ _ => pg_tup rfl (pgs_cons (pg_name (i := 9) sc_lr.nd rfl (Or.inl rfl)) (pgs_cons (pg_name (i := 10) sc_lr.nd rfl (Or.inl rfl)) pgs_nil))) (fun x _ => tg_pair (d1 := .str x.1) (d2 := eS x.2) 9 10) (by decide) fun x hx _ _ _ _ _ => ?_).leq (by rw [List.map_map]; rfl)
          exact je_ixT (je_var 10) (je_var 5) (atI_map (mark_at (hi x hx)))
        cases m with
        | none =>
          refine jss_if0 (Δ1 := [(p, LC K ((B ++ F).map eS))]) (bb := true) (jb_isN (o := none) (je_var 6)) (fun _ => jss_cont ⟨[_, _, _, _, _, none, none, none, none, none, none], .keep (.keep (.keep (.keep (.keep (.drop (.drop (.drop (.keep (.keep (.keep .nil)))))))))), ?_, rfl⟩) fun h => by cases h
          rw [htk2]
          simp [lawEntry]
        | some e =>
          refine jss_if0 (Δ1 := [(p, LC K ((B ++ F).map eS))]) (bb := false) (jb_isN (o := some e) (je_var 6)) (fun h => by cases h) fun _ => ?_
          refine jss_if0 (Δ1 := [(p, LC K ((B ++ F).map eS))]) (bb := decide (fd.1 = sPick) || (decide (fd.1 = sSmear) && !decide (e = sUn))) ((jw_or (jb_eqS (je_var 3) je_str) fun _ => jw_or1 (jw_and (jb_eqS (je_var 3) je_str) fun _ => jw_and1 (jb_neS (x := e) (je_var 6) je_str)).jb).jb) (fun hb1 => ?_) fun hb1 => ?_
          · have hb1' : fd.1 = sPick ∨ (fd.1 = sSmear ∧ e ≠ sUn) := by simpa using hb1
            refine jss_app (Δ1 := [(p, LC K ((B ++ F).map eS))]) (i := 0) (j := 0) (j0 := 0) (p := p) (d := eS (hWith c.cs k e)) (ds0 := (B ++ F).map eS) (ds := (B ++ F).map eS) (je_var 2) rfl ?_ rfl ?_ (jss_cont ⟨[_, _, _, _, _, none, none, none, none, none, none], .keep (.keep (.keep (.keep (.keep (.drop (.drop (.drop (.keep (.keep (.keep .nil)))))))))), ?_, rfl⟩)
            · refine (je_tupleL T.f_tuple (je_flt (l := c.cs) (ra := fun x => D K (eC x)) (p := fun x => decide (markAt x.2 k = e)) (f := fun x => .str x.1) (js := [9, 10]) (own := [("_law_one", 9), ("_law_row", 10)]) rfl sc_lr.nd (ji_Te (je_var 1)) (blkOk_by (N := N_lr) (sc := defScope (top 84)) (by decide +kernel))
                (fun _ _ _ _ _ => pg_tup rfl (pgs_cons (pg_name (i := 9) sc_lr.nd rfl (Or.inl rfl)) (pgs_cons (pg_name (i := 10) sc_lr.nd rfl (Or.inl rfl)) pgs_nil))) (fun x _ => tg_pair (d1 := .str x.1) (d2 := eS x.2) 9 10) (by decide) (fun x hx _ _ _ _ _ => ?_) fun x _ _ _ _ _ _ _ => je_var 9)).eq (by unfold eS hWith; rw [List.map_map]; rfl)
              exact jb_eqS (y := e) (je_ixT (je_var 10) (je_var 5) (atI_map (mark_at (hi x hx)))) (je_var 6)
            · rw [List.length_map, List.length_append, line_eq]
              exact Nat.lt_of_le_of_lt (show _ ≤ 81 by omega) (by decide)
            · have e1 : lawEntry c.cs fd.1 (some e, k) = [hWith c.cs k e] := by simp only [lawEntry]; rw [if_pos hb1']
              rw [htk2, e1, ← List.append_assoc, List.map_append (l₂ := [_])]
              rfl
          · have hb1' : ¬ (fd.1 = sPick ∨ (fd.1 = sSmear ∧ e ≠ sUn)) := by simpa using hb1
            have hle : lawEntry c.cs fd.1 (some e, k) = ((marksAt c.cs k).filter fun m => !decide (m = e)).map fun m => hWithout c.cs k m := by simp only [lawEntry]; rw [if_neg hb1']
            refine jss_for (js := [8]) PassesOwn.never rfl (ji_Le (l := marksAt c.cs k) (enc := PyData.str) (je_var 7)) (pg_name (i := 8) sc_lr.nd rfl (Or.inr rfl))
              (fun j Δ Γ => Δ = [(p, LC K ((B ++ F ++ (((marksAt c.cs k).take j).filter fun m => !decide (m = e)).map fun m => hWithout c.cs k m).map eS))] ∧ Γ = [some (CaseV K c), some (D K (eCs c.cs)), some (VV (.ref p)), some (D K (.str fd.1)), some (D K (.tuple (fd.2.map eO))), some (D K (.int (k : Int))), some (D K (.str e)), some (L K ((marksAt c.cs k).map .str)), none, none, none]) ⟨by simp, rfl⟩ (fun j r Δ Γ hr3 hI => ?_) fun Δ Γ hI => ?_
            · obtain ⟨rfl, rfl⟩ := hI
              obtain ⟨mk, hmk, rfl⟩ := at_map hr3
              have htk3 : (marksAt c.cs k).take (j + 1) = (marksAt c.cs k).take j ++ [mk] := by rw [List.take_succ, hmk]; rfl
              have h5 : ((((marksAt c.cs k).take j).filter fun m => !decide (m = e)).map fun m => hWithout c.cs k m).length ≤ 5 := by
                rw [List.length_map]
                have q1 := List.length_filter_le (fun m : Str => !decide (m = e)) ((marksAt c.cs k).take j)
                have q2 := marksAt_le c.cs k
                rw [List.length_take] at q1
                omega
              refine ⟨_, tg_name 8, ?_⟩
              refine jss_ifB (Δ1 := [(p, LC K ((B ++ F ++ (((marksAt c.cs k).take j).filter fun m => !decide (m = e)).map fun m => hWithout c.cs k m).map eS))]) (bb := !decide (mk = e)) (jb_neS (y := e) (je_var 8) (je_var 6)) (fun hne => ?_) fun hne => ?_
              · refine jss_app (Δ1 := [(p, LC K ((B ++ F ++ (((marksAt c.cs k).take j).filter fun m => !decide (m = e)).map fun m => hWithout c.cs k m).map eS))]) (i := 0) (j := 0) (j0 := 0) (p := p) (d := eS (hWithout c.cs k mk)) (ds0 := (B ++ F ++ (((marksAt c.cs k).take j).filter fun m => !decide (m = e)).map fun m => hWithout c.cs k m).map eS) (ds := (B ++ F ++ (((marksAt c.cs k).take j).filter fun m => !decide (m = e)).map fun m => hWithout c.cs k m).map eS) (je_var 2) rfl ?_ rfl ?_ (jss_nil (jss_nil ⟨[_, _, _, _, _, _, _, _, none, none, none], .keep (.keep (.keep (.keep (.keep (.keep (.keep (.keep (.drop (.keep (.keep .nil)))))))))), ?_, rfl⟩))
                · refine (je_tupleL T.f_tuple (je_flt (l := c.cs) (ra := fun x => D K (eC x)) (p := fun x => !decide (markAt x.2 k = mk)) (f := fun x => .str x.1) (js := [9, 10]) (own := [("_law_one", 9), ("_law_row", 10)]) rfl sc_lr.nd (ji_Te (je_var 1)) (blkOk_by (N := N_lr) (sc := defScope (top 84)) (by decide +kernel))
                    (fun _ _ _ _ _ => pg_tup rfl (pgs_cons (pg_name (i := 9) sc_lr.nd rfl (Or.inl rfl)) (pgs_cons (pg_name (i := 10) sc_lr.nd rfl (Or.inl rfl)) pgs_nil))) (fun x _ => tg_pair (d1 := .str x.1) (d2 := eS x.2) 9 10) (by decide) (fun x hx _ _ _ _ _ => ?_) fun x _ _ _ _ _ _ _ => je_var 9)).eq (by unfold eS hWithout; rw [List.map_map]; rfl)
                  exact jb_neS (je_ixT (je_var 10) (je_var 5) (atI_map (mark_at (hi x hx)))) (je_var 8)
                · rw [List.length_map, List.length_append, List.length_append, line_eq]
                  exact Nat.lt_of_le_of_lt (show _ ≤ 86 by omega) (by decide)
                · have hne' : ¬ mk = e := by simpa using hne
                  have e1 : ([mk].filter fun m => !decide (m = e)) = [mk] := by simp [hne']
                  rw [htk3, List.filter_append, e1, List.map_append (l₂ := [mk]), ← List.append_assoc, List.map_append (l₂ := List.map _ [mk])]
                  rfl
              · refine jss_nil (jss_nil ⟨[_, _, _, _, _, _, _, _, none, none, none], .keep (.keep (.keep (.keep (.keep (.keep (.keep (.keep (.drop (.keep (.keep .nil)))))))))), ?_, rfl⟩)
                rw [htk3, List.filter_append]
                have hne' : mk = e := by simpa using hne
                simp [hne']
            · obtain ⟨rfl, rfl⟩ := hI
              refine jss_nil ⟨[_, _, _, _, _, none, none, none, none, none, none], .keep (.keep (.keep (.keep (.keep (.drop (.drop (.drop (.keep (.keep (.keep .nil)))))))))), ?_, rfl⟩
              rw [htk2, hle, List.take_of_length_le (by simp), List.append_assoc]
      · obtain ⟨rfl, rfl⟩ := hI
        refine jss_nil ⟨[_, _, _, none, none, none, none, none, none, none, none], .keep (.keep (.keep (.drop (.drop (.keep (.keep (.keep (.keep (.keep (.keep .nil)))))))))), ?_, rfl⟩
        rw [htk, ← List.cons_append, hbase, List.take_of_length_le (by simp)]
        rfl
    · obtain ⟨rfl, rfl⟩ := hI
      refine jss_pub (p := p) 2 0 rfl rfl ?_
      rw [List.length_map, List.take_length]
      exact jss_ret (je_ssC (m := lawRows c.cs c.hs c.fs) rfl (hu5 hr) T.f_sorted T.f_set (je_var 2) (by have := lawRows_le hc c.hs; omega)) fnO_rt
end
end Bl
set_option Elab.async false
set_option linter.all false
set_option maxRecDepth 100000
set_option maxHeartbeats 2000000
/-! is_statement, by the promise of least_groups -/
namespace Bl
open PySem PySem.Spec PyProof.Rows L2
section
variable {P : Program} {w : World} {K : PySem.W.Frag} {mg : Str → Option Value} {base : Heap} {C : Addr}
def groupsOf (cs : Copies) (fs : List Find) (most : Nat) : List (List Str) := BM.leastGroups sLt (holders cs) (clauses cs fs) most
def pm_lg (K : PySem.W.Frag) (C : Addr) (rs : List SV) (r : SV) : Prop := ∃ (ps : List (List Str)) (cs : Copies) (fs : List Find) (most : Nat), CaseOk cs fs ∧ rs = [Bk K C ps cs, D K (eFs fs), D K (.int most)] ∧ r = D K (eR (groupsOf cs fs most))
abbrev OkLg (P : Program) (w : World) (K : PySem.W.Frag) (mg : Str → Option Value) (base : Heap) (C : Addr) : Prop := OkK P w K mg base 9 "least_groups" ["book", "finds", "most"] 2 (pure0 (pm_lg K C))
abbrev N_is : List Str := ["book", "finds", "thing", "most", "group"]
theorem sc_is : FnScope N_is ["book", "finds", "thing", "most"] (defScope (top 66)) := ⟨rfl, rfl, rfl, by decide +kernel, rfl, by decide +kernel, by decide +kernel⟩
def pm_is (K : PySem.W.Frag) (C : Addr) (rs : List SV) (r : SV) : Prop := ∃ (ps : List (List Str)) (cs : Copies) (fs : List Find) (t : List Str) (most : Nat), CaseOk cs fs ∧ BM.Asc sLt t ∧ (∀ h ∈ t, h ∈ holders cs) ∧ rs = [Bk K C ps cs, D K (eFs fs), D K (eS t), D K (.int most)] ∧ r = D K (.bool (BM.isStmt (groupsOf cs fs most) t))
theorem ok_is (T : Tx K mg) (B : BkF K mg C) (LG : OkLg P w K mg base C) : OkK P w K mg base 10 "is_statement" ["book", "finds", "thing", "most"] 3 (pure0 (pm_is K C)) :=
  okk_of T.d_is_statement sc_is (fun _ _ _ _ _ _ us ws h1 h2 => match us, ws, h1, h2 with | [_, _, _], [_], _, _ => rfl) (fun rs Δ r Δ' ⟨_, _, _, _, _, _, _, _, _, _, e, _⟩ => by rw [e]; rfl) fun f cdv A outer s H E rs Δ r Δ' hr hp => by
    obtain ⟨rfl, rfl, ps, cs, fs, t, most, hc, h1, h2, rfl, rfl⟩ := hp
    refine jss_if0 (Δ1 := []) (bb := false) ((jb_not (jb_val (je_callP (ok_asc T B) (hr.mono (by decide)) (ja_cons (je_var 0) (ja_cons (je_var 2) ja_nil)) ⟨ps, cs, t, h1, h2, rfl, rfl⟩))).eq rfl) (fun h => by cases h) fun _ => ?_
    refine jss_ret (je_allF (l := groupsOf cs fs most) (q := fun g => BM.meets t g) rfl T.f_all ?_) fnO_rt
    refine je_map (js := [4]) (own := [("group", 4)]) rfl sc_is.nd (ji_Te (je_callK LG hr (ja_cons (je_var 0) (ja_cons (je_var 1) ja_nil)) (je_var 3) ⟨ps, cs, fs, most, hc, rfl, rfl⟩)) (blkOk_by (N := N_is) (sc := defScope (top 66)) (by decide +kernel)) (fun _ _ _ _ _ => pg_name (i := 4) sc_is.nd rfl (Or.inl rfl)) (fun a _ => tg_name 4) (by decide) fun g hg _ _ _ _ _ => ?_
    exact je_callP (ok_meets T) (hr.mono (by decide)) (ja_cons (je_var 2) (ja_cons (je_var 4) ja_nil)) ⟨t, g, rfl, rfl⟩
end
end Bl
set_option Elab.async false
set_option linter.all false
set_option maxRecDepth 100000
set_option maxHeartbeats 2000000
/-! sleeping generators stay as they are while code runs that was proved for every table of generators -/
namespace Bl
open PySem
open Sem (wp)
def Asleep : GenState → Prop
  | .suspended .. => True
  | _ => False
/-- the same to look at, but nobody wakes it -/
def numb : GenState → GenState
  | .suspended _ l c p fs cl => .suspended (fun _ => .unsupported "") l c p fs cl
  | x => x
theorem numb_seen (x : GenState) : (numb x).seen = x.seen := by cases x <;> rfl
theorem numb_bare (x : GenState) : (numb x).bare = x.bare := by cases x <;> rfl
theorem numb_awake {x : GenState} (h : ¬ Asleep x) : numb x = x := by
  cases x with
  | suspended _ _ _ _ _ _ => exact absurd trivial h
  | _ => rfl
def FlatG (x : GenState) : Prop := ∀ k l c p fs cl, x = .suspended k l c p fs cl → splitAtGen fs = none
/-- a: the table with the numb ones, b: with the true ones; Z: the true ones at the beginning -/
structure Numb (Z a b : Array GenState) : Prop where
  sz : a.size = b.size
  old : Z.size ≤ a.size
  at_ : ∀ i : Nat, (∃ z : GenState, Z[i]? = some z ∧ Asleep z ∧ a[i]? = some (numb z) ∧ b[i]? = some z) ∨ (a[i]? = b[i]? ∧ (∀ z, Z[i]? = some z → ¬ Asleep z) ∧ ∀ x, a[i]? = some x → FlatG x)
theorem Numb.start (Z : Array GenState) : Numb Z (Z.map numb) Z := by
  refine ⟨by simp, by simp, fun i => ?_⟩
  cases h : Z[i]? with
  | none => exact .inr ⟨by simp [h], fun z e => (by cases e), fun x e => by simp [h] at e⟩
  | some z =>
    by_cases k : Asleep z
    · exact .inl ⟨z, rfl, k, by simp [h], rfl⟩
    · refine .inr ⟨by simp [h, numb_awake k], fun y e => by cases e; exact k, fun x e => ?_⟩
      simp [h, numb_awake k] at e
      subst e
      intro k' l c p fs cl e
      subst e
      exact absurd trivial k
theorem Numb.set {Z a b : Array GenState} {g : Nat} {x : GenState} (h : Numb Z a b) (hg : ∀ z, Z[g]? = some z → ¬ Asleep z) (hx : FlatG x) : Numb Z (a.setIfInBounds g x) (b.setIfInBounds g x) := by
  refine ⟨by simp [h.sz], by simpa using h.old, fun i => ?_⟩
  by_cases e : i = g
  · subst e
    refine .inr ⟨?_, hg, fun y hy => ?_⟩
    · simp [Array.getElem?_setIfInBounds, h.sz]
    · rw [Array.getElem?_setIfInBounds] at hy
      simp only [if_true] at hy
      split at hy
      · cases hy; exact hx
      · cases hy
  · rw [Array.getElem?_setIfInBounds_ne (Ne.symm e), Array.getElem?_setIfInBounds_ne (Ne.symm e)]
    exact h.at_ i
theorem Numb.push {Z a b : Array GenState} {x : GenState} (h : Numb Z a b) (hx : FlatG x) : Numb Z (a.push x) (b.push x) := by
  refine ⟨by simp [h.sz], by have := h.old; simp; omega, fun i => ?_⟩
  by_cases e : i = a.size
  · subst e
    refine .inr ⟨by rw [Array.getElem?_push_size, h.sz, Array.getElem?_push_size], fun z hz => ?_, fun y hy => ?_⟩
    · have := (Array.getElem?_eq_some_iff.mp hz).1
      have := h.old
      omega
    · rw [Array.getElem?_push_size] at hy
      cases hy; exact hx
  · have e1 : (a.push x)[i]? = a[i]? := by rw [Array.getElem?_push, if_neg e]
    have e2 : (b.push x)[i]? = b[i]? := by rw [Array.getElem?_push, if_neg (by rw [← h.sz]; exact e)]
    rw [e1, e2]
    exact h.at_ i
/-- one that does not sleep -/
theorem Numb.awake {Z a b : Array GenState} {g : Nat} {x : GenState} (h : Numb Z a b) (ha : a[g]? = some x) (k : ∀ z, Asleep z → numb z ≠ x) : b[g]? = some x ∧ (∀ z, Z[g]? = some z → ¬ Asleep z) ∧ FlatG x := by
  rcases h.at_ g with ⟨z, _, hz, e, _⟩ | ⟨e, hz, hf⟩
  · rw [ha] at e
    exact absurd (Option.some.inj e).symm (k z hz)
  · exact ⟨by rw [← e]; exact ha, hz, hf x ha⟩
theorem Numb.seen {Z a b : Array GenState} {g : Nat} {x : GenState} (h : Numb Z a b) (ha : a[g]? = some x) : ∃ y, b[g]? = some y ∧ y.seen = x.seen := by
  rcases h.at_ g with ⟨z, _, _, e1, e2⟩ | ⟨e1, _⟩
  · rw [ha] at e1
    obtain rfl := Option.some.inj e1
    exact ⟨z, e2, (numb_seen z).symm⟩
  · exact ⟨x, by rw [← ha, e1], rfl⟩
variable {M : Model}
theorem no_run {Γ : Ctx} {p : Pos} {what : String} {fs : List Frame} {s s' : Shared} {e : End} (h : Runs M Γ p (.unsupported what) fs s e s') : False := by
  cases h with
  | segRet a _ => cases a
  | segGen a _ => cases a
  | segSuspOut _ a => cases a
  | segSuspGen _ a _ _ => cases a
def EndFlat : End → Prop
  | .ret _ => True
  | .susp _ _ _ _ _ _ fs => splitAtGen fs = none
theorem EndFlat.gen {e : End} (h : EndFlat e) : FlatG e.genState := by
  cases e with
  | ret _ => intro k l c p fs cl e; cases e
  | susp _ _ _ _ _ _ _ =>
    intro k l c p fs cl e
    have e : GenState.suspended _ _ _ _ _ _ = GenState.suspended k l c p fs cl := e
    cases e
    exact h
theorem flat_tail {F : Frame} {fs : List Frame} (h : splitAtGen (F :: fs) = none) : splitAtGen fs = none := by
  cases F with
  | ret k h2 g l c p kp => rw [splitAtGen_ret] at h; simpa using h
  | gen g k l c p => rw [splitAtGen_gen] at h; cases h
theorem flat_app {a b : List Frame} (h1 : splitAtGen a = none) (h2 : splitAtGen b = none) : splitAtGen (a ++ b) = none := by
  rw [splitAtGen_append_none b h1, h2]; rfl
theorem runs_numb {Z : Array GenState} {Γ : Ctx} {p : Pos} {t : Sem PySem.Fin} {fs : List Frame} {s s' : Shared} {e : End} (h : Runs M Γ p t fs s e s') :
    splitAtGen fs = none → ∀ b, Numb Z s.gens b → ∃ b', Numb Z s'.gens b' ∧ Runs M Γ p t fs { s with gens := b } e { s' with gens := b' } ∧ EndFlat e := by
  induction h with
  | done => exact fun _ b hb => ⟨b, hb, .done, trivial⟩
  | raise => exact fun _ b hb => ⟨b, hb, .raise, trivial⟩
  | again hq _ ih => intro hf b hb; obtain ⟨b', h1, h2, h3⟩ := ih hf b hb; exact ⟨b', h1, .again hq h2, h3⟩
  | rule _ ih => intro hf b hb; obtain ⟨b', h1, h2, h3⟩ := ih hf b hb; exact ⟨b', h1, .rule h2, h3⟩
  | «at» _ ih => intro hf b hb; obtain ⟨b', h1, h2, h3⟩ := ih hf b hb; exact ⟨b', h1, .at h2, h3⟩
  | load ho _ ih => intro hf b hb; obtain ⟨b', h1, h2, h3⟩ := ih hf b hb; exact ⟨b', h1, .load ho h2, h3⟩
  | update ho _ ih => intro hf b hb; obtain ⟨b', h1, h2, h3⟩ := ih hf b hb; exact ⟨b', h1, .update ho h2, h3⟩
  | loadIfAlive _ ih => intro hf b hb; obtain ⟨b', h1, h2, h3⟩ := ih hf b hb; exact ⟨b', h1, .loadIfAlive h2, h3⟩
  | point _ ih => intro hf b hb; obtain ⟨b', h1, h2, h3⟩ := ih hf b hb; exact ⟨b', h1, .point h2, h3⟩
  | alloc _ ih => intro hf b hb; obtain ⟨b', h1, h2, h3⟩ := ih hf b hb; exact ⟨b', h1, .alloc h2, h3⟩
  | fresh _ ih => intro hf b hb; obtain ⟨b', h1, h2, h3⟩ := ih hf b hb; exact ⟨b', h1, .fresh h2, h3⟩
  | ask _ ih => intro hf b hb; obtain ⟨b', h1, h2, h3⟩ := ih hf b hb; exact ⟨b', h1, .ask h2, h3⟩
  | choose hn _ ih => intro hf b hb; obtain ⟨b', h1, h2, h3⟩ := ih hf b hb; exact ⟨b', h1, .choose hn h2, h3⟩
  | os _ ih => intro hf b hb; obtain ⟨b', h1, h2, h3⟩ := ih hf b hb; exact ⟨b', h1, .os h2, h3⟩
  | handled _ ih => intro hf b hb; obtain ⟨b', h1, h2, h3⟩ := ih hf b hb; exact ⟨b', h1, .handled h2, h3⟩
  | stack _ ih => intro hf b hb; obtain ⟨b', h1, h2, h3⟩ := ih hf b hb; exact ⟨b', h1, .stack h2, h3⟩
  | thread _ ih => intro hf b hb; obtain ⟨b', h1, h2, h3⟩ := ih hf b hb; exact ⟨b', h1, .thread h2, h3⟩
  | genState hg _ ih =>
    intro hf b hb
    obtain ⟨b', h1, h2, h3⟩ := ih hf b hb
    obtain ⟨z, e1, e2⟩ := hb.seen hg
    rw [← e2] at h2
    exact ⟨b', h1, .genState e1 h2, h3⟩
  | newGen _ ih =>
    intro hf b hb
    obtain ⟨b', h1, h2, h3⟩ := ih hf _ (hb.push (x := .fresh _) fun _ _ _ _ _ _ e => (by cases e))
    rw [hb.sz] at h2
    exact ⟨b', h1, .newGen h2, h3⟩
  | call _ _ ih1 ih2 =>
    intro hf b hb
    obtain ⟨b1, h1, h2, _⟩ := ih1 rfl b hb
    obtain ⟨b', k1, k2, k3⟩ := ih2 rfl b1 h1
    exact ⟨b', k1, .call h2 k2, k3⟩
  | callSusp _ ih =>
    intro hf b hb
    obtain ⟨b1, h1, h2, h3⟩ := ih rfl b hb
    exact ⟨b1, h1, .callSusp h2, flat_app h3 rfl⟩
  | yield => exact fun _ b hb => ⟨b, hb, .yield, rfl⟩
  | resumeFresh hg _ hq _ ih1 ih2 =>
    intro hf b hb
    obtain ⟨e1, hz, _⟩ := hb.awake hg fun z hz e => by cases z <;> first | (exact hz.elim) | cases e
    obtain ⟨b1, h1, h2, h3⟩ := ih1 rfl _ (hb.set (x := .running) hz fun _ _ _ _ _ _ e => (by cases e))
    obtain ⟨b', k1, k2, k3⟩ := ih2 rfl _ (h1.set hz h3.gen)
    exact ⟨b', k1, .resumeFresh e1 h2 hq k2, k3⟩
  | resumeSuspended hg hr hq _ ih1 ih2 =>
    intro hf b hb
    rcases hb.at_ _ with ⟨z, _, hz, e, _⟩ | ⟨e, hz, hfl⟩
    · rw [hg] at e
      cases z with
      | suspended _ _ _ _ _ _ =>
        have e := Option.some.inj e
        unfold numb at e
        cases e
        exact (no_run hr).elim
      | _ => exact hz.elim
    · obtain ⟨b1, h1, h2, h3⟩ := ih1 (hfl _ hg _ _ _ _ _ _ rfl) _ (hb.set (x := .running) hz fun _ _ _ _ _ _ e => (by cases e))
      obtain ⟨b', k1, k2, k3⟩ := ih2 rfl _ (h1.set hz h3.gen)
      exact ⟨b', k1, .resumeSuspended (e.symm.trans hg) h2 hq k2, k3⟩
  | resumeJustStarted hg hv _ ih =>
    intro hf b hb
    obtain ⟨e1, _⟩ := hb.awake hg fun z hz e => by cases z <;> first | (exact hz.elim) | cases e
    obtain ⟨b', h1, h2, h3⟩ := ih rfl b hb
    exact ⟨b', h1, .resumeJustStarted e1 hv h2, h3⟩
  | resumeThrowFresh hg _ ih =>
    intro hf b hb
    obtain ⟨e1, hz, _⟩ := hb.awake hg fun z hz e => by cases z <;> first | (exact hz.elim) | cases e
    obtain ⟨b', h1, h2, h3⟩ := ih rfl _ (hb.set (x := .finished) hz fun _ _ _ _ _ _ e => (by cases e))
    exact ⟨b', h1, .resumeThrowFresh e1 h2, h3⟩
  | resumeRunning hg _ ih =>
    intro hf b hb
    obtain ⟨e1, _⟩ := hb.awake hg fun z hz e => by cases z <;> first | (exact hz.elim) | cases e
    obtain ⟨b', h1, h2, h3⟩ := ih rfl b hb
    exact ⟨b', h1, .resumeRunning e1 h2, h3⟩
  | resumeFinished hg _ ih =>
    intro hf b hb
    obtain ⟨e1, _⟩ := hb.awake hg fun z hz e => by cases z <;> first | (exact hz.elim) | cases e
    obtain ⟨b', h1, h2, h3⟩ := ih rfl b hb
    exact ⟨b', h1, .resumeFinished e1 h2, h3⟩
  | segRet _ _ ih1 ih2 =>
    intro hf b hb
    obtain ⟨b1, h1, h2, _⟩ := ih1 rfl b hb
    obtain ⟨b', k1, k2, k3⟩ := ih2 (flat_tail hf) b1 h1
    exact ⟨b', k1, .segRet h2 k2, k3⟩
  | segGen _ _ _ _ => intro hf; rw [splitAtGen_gen] at hf; cases hf
  | segSuspOut hs _ ih =>
    intro hf b hb
    obtain ⟨b1, h1, h2, h3⟩ := ih rfl b hb
    exact ⟨b1, h1, .segSuspOut hs h2, flat_app h3 hf⟩
  | segSuspGen hs _ _ _ _ _ => intro hf; rw [hs] at hf; cases hf

theorem returns_numb {Z b : Array GenState} {Γ : Ctx} {p : Pos} {s s' : Shared} {r : Result} (h : Returns M Γ p s r s') (hb : Numb Z s.gens b) : ∃ b', Numb Z s'.gens b' ∧ Returns M Γ p { s with gens := b } r { s' with gens := b' } := by
  obtain ⟨b', h1, h2, _⟩ := runs_numb h rfl b hb
  exact ⟨b', h1, h2⟩
theorem wakes_numb {Z b : Array GenState} {Γ : Ctx} {p : Pos} {g : Nat} {r : Resume} {s s' : Shared} {res : GenResult} (h : Wakes M Γ p g r s res s') (hb : Numb Z s.gens b) : ∃ b', Numb Z s'.gens b' ∧ Wakes M Γ p g r { s with gens := b } res { s' with gens := b' } := by
  unfold Wakes at h
  split at h
  · exact h.elim
  · rename_i c hg
    obtain ⟨e1, hz, _⟩ := hb.awake hg fun z hz e => by cases z <;> first | (exact hz.elim) | cases e
    split at h
    · obtain ⟨e₁, s₁, hr, hq, rfl, rfl⟩ := h
      obtain ⟨b1, h1, h2, h3⟩ := runs_numb hr rfl _ (hb.set (x := .running) hz fun _ _ _ _ _ _ e => (by cases e))
      refine ⟨_, h1.set hz h3.gen, ?_⟩
      unfold Wakes
      rw [show ({ s with gens := b } : Shared).gens[g]? = some (.fresh c) from e1]
      exact ⟨e₁, { s₁ with gens := b1 }, h2, hq, rfl, rfl⟩
    · obtain ⟨rfl, rfl⟩ := h
      rename_i hv
      exact ⟨b, hb, Sem.wakes_justStarted M Γ (s := { s' with gens := b }) e1 hv⟩
    · obtain ⟨rfl, rfl⟩ := h
      refine ⟨_, hb.set (x := .finished) hz fun _ _ _ _ _ _ e => (by cases e), ?_⟩
      unfold Wakes
      rw [show ({ s with gens := b } : Shared).gens[g]? = some (.fresh c) from e1]
      exact ⟨rfl, rfl⟩
  · rename_i k₀ l₀ c₀ p₀ fs cl hg
    obtain ⟨e₁, s₁, hr, hq, rfl, rfl⟩ := h
    rcases hb.at_ g with ⟨z, _, hz, e, _⟩ | ⟨e, hz, hfl⟩
    · rw [hg] at e
      cases z with
      | suspended _ _ _ _ _ _ =>
        have e := Option.some.inj e
        unfold numb at e
        cases e
        exact (no_run hr).elim
      | _ => exact hz.elim
    · obtain ⟨b1, h1, h2, h3⟩ := runs_numb hr (hfl _ hg _ _ _ _ _ _ rfl) _ (hb.set (x := .running) hz fun _ _ _ _ _ _ e => (by cases e))
      refine ⟨_, h1.set hz h3.gen, ?_⟩
      unfold Wakes
      rw [show ({ s with gens := b } : Shared).gens[g]? = some (.suspended k₀ l₀ c₀ p₀ fs cl) from e.symm.trans hg]
      exact ⟨e₁, { s₁ with gens := b1 }, h2, hq, rfl, rfl⟩
  · rename_i hg
    obtain ⟨e1, _⟩ := hb.awake hg fun z hz e => by cases z <;> first | (exact hz.elim) | cases e
    obtain ⟨rfl, rfl⟩ := h
    refine ⟨b, hb, ?_⟩
    unfold Wakes
    rw [show ({ s' with gens := b } : Shared).gens[g]? = some .running from e1]
    exact ⟨rfl, rfl⟩
  · rename_i hg
    obtain ⟨e1, _⟩ := hb.awake hg fun z hz e => by cases z <;> first | (exact hz.elim) | cases e
    obtain ⟨rfl, rfl⟩ := h
    refine ⟨b, hb, ?_⟩
    unfold Wakes
    rw [show ({ s' with gens := b } : Shared).gens[g]? = some .finished from e1]
    exact ⟨rfl, rfl⟩
theorem wp_numb {α : Type} {Z : Array GenState} {Γ : Ctx} (t : Sem α) : ∀ (Q : α → Pos → Shared → Prop) (E : Value → Pos → Shared → Prop) (p : Pos) (s : Shared) (b : Array GenState), Numb Z s.gens b → wp M Γ t Q E p s →
    wp M Γ t (fun a p' s' => ∃ s1, s' = { s1 with gens := s'.gens } ∧ Numb Z s1.gens s'.gens ∧ Q a p' s1) (fun e p' s' => ∃ s1, s' = { s1 with gens := s'.gens } ∧ Numb Z s1.gens s'.gens ∧ E e p' s1) p { s with gens := b } := by
  induction t with
  | pure a => intro Q E p s b hb h; exact ⟨s, rfl, hb, h⟩
  | raise e => intro Q E p s b hb h; exact ⟨s, rfl, hb, h⟩
  | unsupported _ => intro Q E p s b _ h; exact h
  | finish _ => intro Q E p s b _ h; exact h
  | rule _ k ih => intro Q E p s b hb h; exact ih () Q E p s b hb h
  | «at» p' k ih => intro Q E p s b hb h; exact ih () Q E p' s b hb h
  | load a _ k ih => intro Q E p s b hb h; obtain ⟨o, ho, h⟩ := h; exact ⟨o, ho, ih o Q E p s b hb h⟩
  | update a _ f k ih => intro Q E p s b hb h; exact ⟨h.1, ih () Q E p { s with heap := s.heap.update a f } b hb h.2⟩
  | loadIfAlive a k ih => intro Q E p s b hb h; exact ih _ Q E p s b hb h
  | point _ k ih => intro Q E p s b hb h; exact ih () Q E p s b hb h
  | register _ _ => intro Q E p s b _ h; exact h
  | alloc o k ih => intro Q E p s b hb h; exact ih _ Q E p { s with heap := s.heap.push o } b hb h
  | fresh k ih => intro Q E p s b hb h; exact ih _ Q E p { s with toks := s.toks + 1 } b hb h
  | ask k ih => intro Q E p s b hb h; exact ih _ Q E p s b hb h
  | choose src m k ih => intro Q E p s b hb h; exact ⟨h.1, ih _ Q E p { s with drawn := s.drawn.bump src } b hb h.2⟩
  | os q _ k ih => intro Q E p s b hb h; exact ih _ Q E p { s with os := (Os.step s.os q).1 } b hb h
  | call c hd _ _ k ih =>
    intro Q E p s b hb h
    obtain ⟨r, s', hr, h⟩ := h
    obtain ⟨b', h1, h2⟩ := returns_numb hr hb
    exact ⟨r, _, h2, ih r Q E p s' b' h1 h⟩
  | handled own k ih => intro Q E p s b hb h; exact ih _ Q E p s b hb h
  | genState g k ih =>
    intro Q E p s b hb h
    obtain ⟨st, hs, h⟩ := h
    obtain ⟨z, e1, e2⟩ := hb.seen hs
    rw [← e2] at h
    exact ⟨z, e1, ih _ Q E p s b hb h⟩
  | newGen c k ih =>
    intro Q E p s b hb h
    have := ih _ Q E p { s with gens := s.gens.push (.fresh c) } _ (hb.push (x := .fresh c) fun _ _ _ _ _ _ e => (by cases e)) h
    rw [hb.sz] at this
    exact this
  | resume g r _ k ih =>
    intro Q E p s b hb h
    obtain ⟨res, s', hw, h⟩ := h
    obtain ⟨b', h1, h2⟩ := wakes_numb hw hb
    exact ⟨res, _, h2, ih res Q E p s' b' h1 h⟩
  | yield _ _ _ _ => intro Q E p s b _ h; exact h
  | stack k ih => intro Q E p s b hb h; exact ih _ Q E p s b hb h
  | fork _ _ => intro Q E p s b _ h; exact h
  | thread k ih => intro Q E p s b hb h; exact ih _ Q E p s b hb h
  | await _ _ _ _ _ => intro Q E p s b _ h; exact h
/-- behind it the sleeping generators are the same -/
def Kept (Z G : Array GenState) : Prop := ∀ (i : Nat) (z : GenState), Z[i]? = some z → Asleep z → G[i]? = some z
theorem wpAny_numb {α : Type} {A : Around} {s : Shared} {t : Sem α} {Q : α → Shared → Prop} {E : Value → Shared → Prop} (h : wpAny M A t Q E { s with gens := s.gens.map numb }) :
    wpAny M A t (fun a s' => ∃ s1, s' = { s1 with gens := s'.gens } ∧ Kept s.gens s'.gens ∧ (∀ y ∈ s'.gens, ∃ x ∈ s1.gens, x.bare = y.bare) ∧ Q a s1) (fun e s' => ∃ s1, s' = { s1 with gens := s'.gens } ∧ Kept s.gens s'.gens ∧ (∀ y ∈ s'.gens, ∃ x ∈ s1.gens, x.bare = y.bare) ∧ E e s1) s := by
  have kept : ∀ {a b : Array GenState}, Numb s.gens a b → Kept s.gens b ∧ ∀ y ∈ b, ∃ x ∈ a, x.bare = y.bare := fun {a b} hb => by
    refine ⟨fun i z hz k => ?_, fun y hy => ?_⟩
    · rcases hb.at_ i with ⟨z', e1, _, _, e2⟩ | ⟨_, e, _⟩
      · rw [hz] at e1; cases e1; exact e2
      · exact absurd k (e z hz)
    · obtain ⟨i, hi, e⟩ := Array.mem_iff_getElem.mp hy
      have e : b[i]? = some y := by rw [Array.getElem?_eq_getElem hi, e]
      rcases hb.at_ i with ⟨z, _, _, e1, e2⟩ | ⟨e1, _⟩
      · rw [e] at e2
        cases e2
        exact ⟨_, Array.mem_of_getElem? e1, numb_bare y⟩
      · rw [e] at e1
        exact ⟨y, Array.mem_of_getElem? e1, rfl⟩
  intro Γ p hΓ
  refine Sem.wp_mono _ _ _ ?_ ?_ _ _ (wp_numb (Z := s.gens) t _ _ p { s with gens := s.gens.map numb } s.gens (Numb.start s.gens) (h Γ p hΓ))
  · rintro a p' s' ⟨s1, e, hb, q⟩
    exact ⟨s1, e, (kept hb).1, (kept hb).2, q⟩
  · rintro a p' s' ⟨s1, e, hb, q⟩
    exact ⟨s1, e, (kept hb).1, (kept hb).2, q⟩
end Bl
set_option Elab.async false
set_option linter.all false
set_option maxRecDepth 100000
set_option maxHeartbeats 2000000
/-! a generator's code from wake to yield, with a ghost that the waking hands over -/
namespace Bl
open PySem PyProof.Rows
open Sem (wp)
section
variable {T : Type}
abbrev GR' (T : Type) := T → Result → Shared → Prop
abbrev GY' (T : Type) := T → Value → Shared → (T → Shared → Prop) → Prop
def gEnd (R : GR' T) (Y : GY' T) (nx : T → Code → Sem PySem.Fin → List Frame → Shared → Prop) (γ : T) (e : End) (s' : Shared) : Prop :=
  match e with
  | .ret r => R γ r s'
  | .susp v g l k c p fs => (End.susp v g l k c p fs).quiet = true ∧ Y γ v s' fun γ2 s2 => nx γ2 c (k (.send .none)) fs s2
def gSeg (M : Model) (A : Around) (R : GR' T) (Y : GY' T) : Nat → T → Code → Sem PySem.Fin → List Frame → Shared → Prop
  | 0 => fun γ c t fs s => ∀ Γ p, Γ.code = c → Γ.Woken A → ∃ e s', Runs M Γ p t fs s e s' ∧ gEnd R Y (fun _ _ _ _ _ => False) γ e s'
  | n + 1 => fun γ c t fs s => ∀ Γ p, Γ.code = c → Γ.Woken A → ∃ e s', Runs M Γ p t fs s e s' ∧ gEnd R Y (gSeg M A R Y n) γ e s'
def gNx (M : Model) (A : Around) (R : GR' T) (Y : GY' T) : Nat → T → Code → Sem PySem.Fin → List Frame → Shared → Prop
  | 0 => fun _ _ _ _ _ => False
  | n + 1 => gSeg M A R Y n
theorem gseg_iff {M : Model} {A : Around} {R : GR' T} {Y : GY' T} {n : Nat} {γ : T} {c : Code} {t : Sem PySem.Fin} {fs : List Frame} {s : Shared} :
    gSeg M A R Y n γ c t fs s ↔ ∀ Γ p, Γ.code = c → Γ.Woken A → ∃ e s', Runs M Γ p t fs s e s' ∧ gEnd R Y (gNx M A R Y n) γ e s' := by
  cases n <;> rfl
section
variable {M : Model} {A : Around} {R : GR' T} {Y : GY' T} {n : Nat} {γ : T} {c : Code} {fs : List Frame} {s : Shared} {env : Env}
theorem gseg_wrap {α : Type} {m : Sem α} {K : α → Sem PySem.Fin} {J : Value → Sem PySem.Fin} {gd : Bool → Bool} {lv : List Value → List Value}
    (h : wpAny M (A.over c fs) m (fun a s' => gSeg M A R Y n γ c (K a) fs s') (fun x s' => gSeg M A R Y n γ c (J x) fs s') s) : gSeg M A R Y n γ c (m.wrap K J gd lv) fs s := by
  rw [gseg_iff]
  intro Γ p hc hΓ
  subst hc
  exact runs_wrap_of_wp K J gd lv m (h (Γ.over fs) p (hΓ.over fs)) (fun a p' s' q => gseg_iff.mp q Γ p' rfl hΓ) fun x p' s' q => gseg_iff.mp q Γ p' rfl hΓ
theorem gseg_at {p' : Pos} {k : Unit → Sem PySem.Fin} (h : gSeg M A R Y n γ c (k ()) fs s) : gSeg M A R Y n γ c (.at p' k) fs s :=
  gseg_wrap (m := standAt p') (K := k) (J := .raise) (gd := id) (lv := id) (wpAny_standAt h)
theorem gseg_point {l : List Value} {k : Unit → Sem PySem.Fin} (h : gSeg M A R Y n γ c (k ()) fs s) : gSeg M A R Y n γ c (.point l k) fs s :=
  gseg_wrap (m := point) (K := k) (J := .raise) (gd := id) (lv := fun _ => l) (wpAny_point h)
theorem gseg_call {c' : Code} {h : Option Value} {g : Bool} {l : List Value} {k : Result → Sem PySem.Fin} (hc : ∀ p, gSeg M A R Y n γ c' (M.den c') (.ret k h g l c p [] :: fs) s) : gSeg M A R Y n γ c (.call c' h g l k) fs s := by
  rw [gseg_iff]
  intro Γ p hcc hΓ
  subst hcc
  obtain ⟨e, s', hr, he⟩ := gseg_iff.mp (hc p) (Γ.goto c') p rfl (hΓ.goto c')
  exact ⟨e, s', runs_call_seg hr, he⟩
theorem gseg_leaf {k : Result → Sem PySem.Fin} {h : Option Value} {g : Bool} {l kp : List Value} {c₁ : Code} {p₁ : Pos} (r : Result) (hk : gSeg M A R Y n γ c₁ (k r) fs s) : gSeg M A R Y n γ c (leafOf r) (.ret k h g l c₁ p₁ kp :: fs) s := by
  rw [gseg_iff]
  intro Γ p hcc hΓ
  subst hcc
  obtain ⟨e, s', hr, he⟩ := gseg_iff.mp hk (Γ.goto c₁) p₁ rfl (hΓ.goto c₁)
  exact ⟨e, s', Runs.pop r hr, he⟩
theorem gseg_again {c' : Code} (hq : c'.quiet = true) (hc : gSeg M A R Y n γ c' (M.den c') fs s) : gSeg M A R Y n γ c (.pure (.again c')) fs s := by
  rw [gseg_iff]
  intro Γ p hcc hΓ
  subst hcc
  obtain ⟨e, s', hr, he⟩ := gseg_iff.mp hc (Γ.goto c') p rfl (hΓ.goto c')
  exact ⟨e, s', Runs.head (c₁ := c') (fun _ _ x => .again hq x) hr, he⟩
theorem gseg_end (r : Result) (h : R γ r s) : gSeg M A R Y n γ c (leafOf r) [] s := by
  rw [gseg_iff]
  intro Γ p hcc hΓ
  subst hcc
  exact ⟨.ret r, s, Runs.leaf r, h⟩
theorem gseg_yield {v : Value} {g : Bool} {l : List Value} {k : Resume → Sem PySem.Fin} (hfs : splitAtGen fs = none) (hg : g = false) (hfg : fs.any Frame.guarded = false)
    (h : Y γ v s fun γ2 s2 => gSeg M A R Y n γ2 c (k (.send .none)) fs s2) : gSeg M A R Y (n + 1) γ c (.yield v g l k) fs s := by
  rw [gseg_iff]
  intro Γ p hcc hΓ
  subst hcc
  exact ⟨_, s, Runs.yield' fs hfs, And.intro (by simp [End.quiet, hg, hfg]) h⟩
theorem bind_wrap {α β γ : Type} (m : Sem α) (f : α → Sem β) (K : β → Sem γ) (J : Value → Sem γ) (gd : Bool → Bool) (lv : List Value → List Value) : (m >>= f).wrap K J gd lv = m.wrap (fun a => (f a).wrap K J gd lv) J gd lv := by
  rw [Sem.bind_eq_wrap', Sem.wrap_wrap]
  rfl
theorem gseg_bind {α β : Type} {m : Sem α} {f : α → Sem β} {K : β → Sem PySem.Fin} {J : Value → Sem PySem.Fin} {gd : Bool → Bool} {lv : List Value → List Value}
    (h : wpAny M (A.over c fs) m (fun a s' => gSeg M A R Y n γ c ((f a).wrap K J gd lv) fs s') (fun _ _ => False) s) : gSeg M A R Y n γ c ((m >>= f).wrap K J gd lv) fs s := by
  rw [bind_wrap]
  exact gseg_wrap (wpAny_mono h (fun _ _ q => q) fun _ _ q => q.elim)
/-! statements -/
variable {K : Flow → Sem PySem.Fin} {J : Value → Sem PySem.Fin} {gd : Bool → Bool} {lv : List Value → List Value}
theorem gseg_nil (h : gSeg M A R Y n γ c (K .next) fs s) : gSeg M A R Y n γ c ((execs [] env).wrap K J gd lv) fs s := h
theorem gseg_cons {st : Stmt} {rest : List Stmt} (h : gSeg M A R Y n γ c ((exec st env).wrap (fun f => match f with | .next => (execs rest env).wrap K J gd lv | f => K f) J gd lv) fs s) :
    gSeg M A R Y n γ c ((execs (st :: rest) env).wrap K J gd lv) fs s := by
  rw [execs_cons_wrap]; exact h
theorem gseg_Yield {e : Expr} {yp pos : Pos} (hfs : splitAtGen fs = none) (hgd : gd false = false) (hfg : fs.any Frame.guarded = false)
    (h : wpAny M (A.over c fs) (eval e env) (fun v s' => Y γ v s' fun γ2 s2 => gSeg M A R Y n γ2 c (K .next) fs s2) (fun _ _ => False) s) (hco : env.scope.isCoroutine = false) (hi : interactive env = false) :
    gSeg M A R Y (n + 1) γ c ((exec (.Expr (.Yield (some e) yp) pos) env).wrap K J gd lv) fs s := by
  rw [exec_Expr env _ pos hi rfl]
  have hy : ∀ v, yieldOut env v = yieldValue v := fun v => by simp only [yieldOut, hco, Bool.false_eq_true, if_false]
  show gSeg M A R Y (n + 1) γ c (.at pos fun _ => ((eval e env >>= fun v => (standAt yp >>= fun _ => yieldOut env v)) >>= fun x => dropValue (.Yield (some e) yp) pos x).wrap K J gd lv) fs s
  simp only [hy]
  refine gseg_at ?_
  rw [bind_wrap, bind_wrap]
  refine gseg_wrap (wpAny_mono h (fun v s' q => ?_) fun _ _ q => q.elim)
  exact gseg_at (gseg_yield hfs hgd hfg q)
/-- what a loop's code comes back with -/
abbrev loopK (env : Env) (K : Flow → Sem PySem.Fin) (J : Value → Sem PySem.Fin) (gd : Bool → Bool) (lv : List Value → List Value) : Result → Sem PySem.Fin := fun r => ((match r with | .ok f => (.pure f : Sem Flow) | .error e => .raise e).onRaise fun x => do
    if (← field x 1) == Value.none then unsupported "frame.own-activation:exception-without-traceback"
    setFlight x env.frame).wrap K J gd lv
theorem gseg_For {tg iter : Expr} {body : List Stmt} {pos : Pos}
    (h : wpAny M (A.over c fs) (eval iter env) (fun v s1 => wpAny M (A.over c fs) (pyIter v) (fun it s2 => ∀ p, gSeg M A R Y n γ (.forLoop tg it body [] env) (M.den (.forLoop tg it body [] env)) (.ret (loopK env K J gd lv) none (gd false) (lv []) c p [] :: fs) s2) (fun _ _ => False) s1) (fun _ _ => False) s)
    (hs : ∀ x, foldedSetIterable iter env x = pure x) : gSeg M A R Y n γ c ((exec (.For tg iter body [] pos) env).wrap K J gd lv) fs s := by
  rw [exec_For]
  refine gseg_bind (wpAny_standAt ?_)
  refine gseg_bind (wpAny_mono h (fun v s1 h1 => ?_) fun _ _ q => q)
  refine gseg_bind (wpAny_of_eq (hs v) ?_)
  refine gseg_bind (wpAny_standAt ?_)
  refine gseg_bind (wpAny_holding (wpAny_mono h1 (fun it s2 h2 => ?_) fun _ _ q => q))
  exact gseg_call h2
end
section
variable {prog : Program} {w : World} {A : Around} {R : GR' T} {Y : GY' T} {n : Nat} {γ : T} {fs : List Frame} {s : Shared} {env : Env}
abbrev turnK (tg : Expr) (it : Value) (body : List Stmt) (env : Env) : Flow → Sem PySem.Fin := fun f => match f with
  | .next | .cont => again (.forLoop tg it body [] env)
  | .brk => pure (.done .next)
  | .ret v => pure (.done (.ret v))
theorem gseg_forLoop {tg : Expr} {it : Value} {body : List Stmt}
    (h : wpAny (model prog w) (A.over (.forLoop tg it body [] env) fs) (pyNext it) (fun r s1 => match r with
        | none => gSeg (model prog w) A R Y n γ (.forLoop tg it body [] env) (again (.block [] env)) fs s1
        | some v => wpAny (model prog w) (A.over (.forLoop tg it body [] env) fs) (letOwnedTupleGo tg it v) (fun _ s2 => wpAny (model prog w) (A.over (.forLoop tg it body [] env) fs) (assign tg env v)
            (fun _ s3 => ∀ J, gSeg (model prog w) A R Y n γ (.forLoop tg it body [] env) ((execs body env).wrap (turnK tg it body env) J id id) fs s3) (fun _ _ => False) s2) (fun _ _ => False) s1) (fun _ _ => False) s) :
    gSeg (model prog w) A R Y n γ (.forLoop tg it body [] env) ((model prog w).den (.forLoop tg it body [] env)) fs s := by
  show gSeg _ A R Y n γ _ ((forTurn tg it body [] env).onRaise fun x => do noteFrame x env; theTreesLotGoes x) fs s
  rw [Sem.onRaise_eq_wrap]
  unfold forTurn
  refine gseg_bind (wpAny_standAt ?_)
  refine gseg_bind (wpAny_onRaise (wpAny_mono h (fun r s1 h1 => ?_) fun _ _ q => q.elim))
  cases r with
  | none => exact h1
  | some v =>
    refine gseg_bind (wpAny_mono h1 (fun _ s2 h2 => ?_) fun _ _ q => q)
    refine gseg_bind (wpAny_mono h2 (fun _ s3 h3 => ?_) fun _ _ q => q)
    rw [bind_wrap]
    have e : ∀ J, (execs body env).wrap (fun f => (match f with
        | .next | .cont => again (.forLoop tg it body [] env)
        | .brk => pure (.done .next)
        | .ret v => pure (.done (.ret v)) : Sem PySem.Fin).wrap .pure J id id) J id id = (execs body env).wrap (turnK tg it body env) J id id := fun J => Sem.wrap_congr _ _ _ (fun f => by cases f <;> rfl) fun _ => rfl
    refine (e _) ▸ h3 _
theorem gseg_block {k : Result → Sem PySem.Fin} {h : Option Value} {g : Bool} {l kp : List Value} {c c₁ : Code} {p₁ : Pos} (hk : gSeg (model prog w) A R Y n γ c₁ (k (.ok .next)) fs s) : gSeg (model prog w) A R Y n γ c (again (.block [] env)) (.ret k h g l c₁ p₁ kp :: fs) s :=
  gseg_again (c' := .block [] env) rfl (gseg_leaf (c := .block [] env) (.ok .next) hk)
theorem gseg_func {body : List Stmt} (h : ∀ J, gSeg (model prog w) A R Y n γ (.func body env) ((execs body env).wrap (fun f => .pure (.done (.ret (match f with | .ret v => v | _ => .none)))) J id id) fs s) :
    gSeg (model prog w) A R Y n γ (.func body env) ((model prog w).den (.func body env)) fs s := by
  show gSeg _ A R Y n γ _ (.point [] fun _ => ((execs body env).onRaise (leaving env)) >>= _) fs s
  refine gseg_point ?_
  rw [Sem.onRaise_eq_wrap, Sem.bind_eq_wrap', Sem.wrap_wrap]
  rw [Sem.wrap_congr (execs body env) _ _ (K' := fun f => .pure (.done (.ret (match f with | .ret v => v | _ => .none)))) (H' := fun e => (leaving env e).wrap (fun _ => .raise e) .raise id id) (fun f => by cases f <;> rfl) fun e => by rw [Sem.bind_eq_wrap, Sem.wrap_wrap]; rfl]
  exact h _
end
/-! ### waking -/
def gGoes (M : Model) (A : Around) (R : GR' T) (Y : GY' T) (n : Nat) (γ : T) (gs : GenState) (s : Shared) : Prop :=
  match gs with
  | .fresh c => gSeg M A R Y n γ c (M.den c) [] s
  | .suspended k _ c _ fs _ => gSeg M A R Y n γ c (k (.send .none)) fs s
  | _ => False
def gGoesNx (M : Model) (A : Around) (R : GR' T) (Y : GY' T) (n : Nat) (gs : GenState) : T → Shared → Prop := match n with
  | 0 => fun _ _ => False
  | m + 1 => fun γ s => gGoes M A R Y m γ gs s
theorem wpAny_wake {M : Model} {A : Around} {R : GR' T} {Y : GY' T} {n : Nat} {γ : T} {E : Value → Shared → Prop} {s : Shared} {g : Nat} {gs : GenState} {l : List Value} {α : Type} {k : GenResult → Sem α} {Q : α → Shared → Prop} (hg : s.gens[g]? = some gs)
    (hgo : gGoes M A R Y n γ gs (s.setGen g .running)) (hR : ∀ x s₁, R γ x s₁ → wpAny M A (k (End.ret x).result) Q E (s₁.setGen g .finished))
    (hY : ∀ v s₁ gs', gs'.bare = true → Asleep gs' → Y γ v s₁ (gGoesNx M A R Y n gs') → wpAny M A (k (.yielded v)) Q E (s₁.setGen g gs')) : wpAny M A (.resume g (.send .none) l k) Q E s := by
  intro Γ p hΓ
  rw [Sem.wp_resume]
  have fin : ∀ e₁ s₁, gEnd R Y (gNx M A R Y n) γ e₁ s₁ → e₁.quiet = true ∧ wp M Γ (k e₁.result) (fun a _ s' => Q a s') (fun e _ s' => E e s') p (s₁.setGen g e₁.genState) := by
    intro e₁ s₁ he
    cases e₁ with
    | ret x => exact ⟨rfl, hR x s₁ he Γ p hΓ⟩
    | susp v g₀ l₀ k₀ c₀ p₀ fs₀ =>
      refine ⟨he.1, hY v s₁ _ (End.bare_of_quiet he.1) trivial ?_ Γ p hΓ⟩
      cases n with
      | zero => exact he.2
      | succ m => exact he.2
  cases gs with
  | fresh c =>
    obtain ⟨e₁, s₁, hr, he⟩ := gseg_iff.mp hgo (Γ.wake c p) p rfl (hΓ.wake c p)
    exact ⟨_, _, by unfold Wakes; rw [hg]; exact ⟨e₁, s₁, hr, (fin e₁ s₁ he).1, rfl, rfl⟩, (fin e₁ s₁ he).2⟩
  | suspended k₀ l₀ c₀ p₀ fs₀ cl =>
    obtain ⟨e₁, s₁, hr, he⟩ := gseg_iff.mp hgo (Γ.wake c₀ p) p₀ rfl (hΓ.wake c₀ p)
    exact ⟨_, _, by unfold Wakes; rw [hg]; exact ⟨e₁, s₁, hr, (fin e₁ s₁ he).1, rfl, rfl⟩, (fin e₁ s₁ he).2⟩
  | running => exact hgo.elim
  | finished => exact hgo.elim
theorem next_wake {prog : Program} {w : World} {A : Around} {E : Value → Shared → Prop} {s : Shared} {a : Addr} {g n : Nat} {gs : GenState} {R : GR' T} {Y : GY' T} {γ : T} {Q : Option Value → Shared → Prop} (hh : A.handled = none) (hl : s.heap.NoLimit) (hroom : A.depth < recursionLimit) (hg : s.heap.IsGen a g) (hgs : s.gens[g]? = some gs)
    (hgo : gGoes (model prog w) A.in1 R Y n γ gs (s.setGen g .running)) (hR : ∀ r s₁, R γ r s₁ → r = .ok (.ret .none))
    (hP : ∀ r s₁, R γ r s₁ → ∀ h', (∀ b o, s₁.heap.get? b = some o → h'.get? b = some o) → Q none { s₁.setGen g .finished with heap := h' })
    (hY : ∀ v s₁ gs', gs'.bare = true → Asleep gs' → Y γ v s₁ (gGoesNx (model prog w) A.in1 R Y n gs') → Q (some v) (s₁.setGen g gs')) : wpAny (model prog w) A (pyNext (.ref a)) Q E s := by
  unfold pyNext
  refine wpAny_bind (wpAny_attempt (wpAny_callSpecial?_slot (name := Str.ofString "__next__") hg.typeIs slot_gen_next (wpAny_call_entry slot_gen_next hg.typeIs entry_gen_next ?_ (args_gen_next _))))
  show wpAny _ A.in1 (Builtin.Generator.genWake (.ref a) (.send .none)) _ _ s
  unfold Builtin.Generator.genWake
  refine wpAny_bind (wpAny_holding (wpAny_genNumber hg (wpAny_bind (wpAny_genState hgs ?_))))
  cases gs with
  | running => exact hgo.elim
  | finished => exact hgo.elim
  | _ =>
    refine wpAny_bind (wpAny_roomToWake hl hroom ?_)
    show wpAny _ A.in1 (.resume g (.send .none) [] _) _ _ s
    refine wpAny_wake hgs hgo (fun r s₁ hx => ?_) fun v s₁ gs' hb hs hv => wpAny_pure ⟨v, rfl, wpAny_pure (hY v s₁ gs' hb hs hv)⟩
    obtain rfl := hR r s₁ hx
    show wpAny _ A.in1 (newExc (.type "StopIteration") [] >>= _) _ _ _
    refine wpAny_bind ?_
    simp only [newExc, newTuple]
    refine wpAny_bind (wpAny_newObj_type ?_ (by size_fits))
    refine wpAny_bind (m := firstArgMember _ _) (wpAny_of_eq (a := Value.none) (by first | rfl | (simp only [firstArgMember]; rfl)) ?_)
    refine wpAny_newObj_type ?_ (by size_fits)
    simp only [raiseNew]
    refine wpAny_bind (wpAny_bind (wpAny_handled ?_))
    first | rw [show A.in1.handled = none from hh] | rw [hh]
    refine wpAny_throw ?_
    refine wpAny_bind (wpAny_isInstance (T := "StopIteration") (b := true) ⟨_, Heap.get?_push_size _ rfl, rfl⟩ isSubtype_stop ?_)
    exact wpAny_pure (hP _ s₁ hx _ fun b o hb => Heap.get?_push_of_some _ (Heap.get?_push_of_some _ hb))
end
end Bl
set_option Elab.async false
set_option linter.all false
set_option maxRecDepth 100000
set_option maxHeartbeats 2000000
/-! a generator's body as judgements: the context is laid anew at each wake -/
namespace Bl
open PySem PySem.Spec PyProof.Rows L2 GenW

/-- the heap below n -/
def cut (h : Heap) (n : Nat) : Heap := ⟨h.objs.take n, h.life⟩
theorem cut_get (h : Heap) (n a : Nat) : (cut h n).get? a = if a < n then h.get? a else none := by
  unfold cut Heap.get?
  by_cases ha : a < n
  · rw [if_pos ha]
    have e : (h.objs.take n)[a]? = h.objs[a]? := by
      simp [Array.getElem?_extract, ha]
      try omega
    simp only [e]
  · rw [if_neg ha]
    have e : (h.objs.take n)[a]? = none := by
      simp [Array.getElem?_extract, ha]
      try omega
    simp only [e]
theorem cut_size {h : Heap} {n : Nat} (hn : n ≤ h.objs.size) : (cut h n).objs.size = n := by
  unfold cut
  simp
  omega
theorem cut_sub {h : Heap} {n : Nat} : ∀ b o, (cut h n).get? b = some o → h.get? b = some o := fun b o e => by
  rw [cut_get] at e
  split at e
  · exact e
  · cases e
theorem cut_lt {h : Heap} {n : Nat} {b : Addr} {o : Obj} (e : (cut h n).get? b = some o) : b < n := by
  rw [cut_get] at e
  split at e
  · assumption
  · cases e
theorem cut_of {h : Heap} {n : Nat} {b : Addr} {o : Obj} (e : h.get? b = some o) (l : b < n) : (cut h n).get? b = some o := by
  rw [cut_get, if_pos l]; exact e

/-- a generator that was made: its frame, the frames below it, its own object (pn), what it will hand out -/
structure GB where
  P : Program
  w : World
  K : PySem.W.Frag
  mg : Str → Option Value
  base : Heap
  N : List Str
  env : Env
  A : Around
  outer : List Env
  pn : List (Addr × Obj)
  items : List SV
/-- the waking: what is seen, the heap, the state, how many are out -/
structure Gh where
  G : Hp
  H : Hp
  s : Shared
  i : Nat
def gX (B : GB) (γ : Gh) : Cx where
  prog := B.P
  w := B.w
  K := B.K
  mg := B.mg
  base := B.base
  A := B.A
  N := B.N
  s_0 := { γ.s with heap := cut γ.s.heap B.env.locals }
  H_0 := γ.H
  env := B.env
  outer := B.outer
  stack := B.env :: B.outer
  ex := []
  fn := fun _ => true
  calm := true
  pn := B.pn
  xe := fun _ _ => False
/-- while it slept: gp, its own objects, stand as they stood -/
structure Awake (B : GB) (γ : Gh) (G1 : Hp) (gp : List (Addr × Obj)) : Prop where
  same : Same G1 γ.G
  sub : Same γ.G γ.H
  pin : ∀ p ∈ gp, γ.s.heap.get? p.1 = some p.2 ∧ γ.H p.1 = none
  bs : ∀ b o, B.base.get? b = some o → γ.s.heap.get? b = some o ∧ γ.H b = none
  funs : γ.s.heap.FunFrames B.base B.outer
  frf : ∀ b ∈ frs B.outer, γ.H b = none
  hok : HOk B.P B.w γ.H γ.s.heap
  bare : AllBare γ.s.gens
theorem funs_cut {h base : Heap} {n : Nat} : ∀ {l : List Env}, h.FunFrames base l → (∀ b ∈ frs l, b < n) → (cut h n).FunFrames base l
  | [], _, _ => trivial
  | env :: r, ⟨hk, ⟨L, o, hf, hn, ho, hd⟩, hr⟩, hl => by
    have e : frs (env :: r) = L :: frs r := by unfold frs; rw [List.filterMap_cons, hf]
    exact ⟨hk, ⟨L, o, hf, hn, cut_of ho (hl L (by rw [e]; exact List.mem_cons_self)), hd⟩, funs_cut hr fun b hb => hl b (by rw [e]; exact List.mem_cons_of_mem _ hb)⟩
theorem inv_wake {B : GB} {γ γ' : Gh} {ip : List (Addr × Obj)} {σ : L2.St} {H1 G1 : Hp} {s1 : Shared} {oL : Obj} (I : Inv (gX B γ) ip σ H1 s1) (hL : s1.heap.get? B.env.locals = some oL) (hcl : ∀ x, B.env.cells.lookup x = none)
    (W : Awake B γ' G1 ((B.env.locals, oL) :: (B.pn ++ ip))) : Inv (gX B γ') ip σ γ'.H γ'.s := by
  have hn : B.env.locals < γ'.s.heap.objs.size := Heap.lt_size (W.pin _ List.mem_cons_self).1
  have hz : (cut γ'.s.heap B.env.locals).objs.size = B.env.locals := cut_size (Nat.le_of_lt hn)
  have hcn : ∀ {x : Str} {c : Addr}, (gX B γ').env.cells.lookup x = some c → False := fun {x c} e => by
    have e : B.env.cells.lookup x = some c := e
    rw [hcl x] at e; cases e
  have hfl : ∀ b ∈ frs B.outer, b < B.env.locals := fun b hb => by
    obtain ⟨_, o, e, _⟩ := I.ok.funs.mem hb
    exact cut_lt e
  have hbz : B.base.objs.size ≤ B.env.locals := Nat.le_trans I.ok.bsz I.ok.above
  have keep : ∀ b o, (cut γ'.s.heap B.env.locals).get? b = some o → γ'.s.heap.get? b = some o := cut_sub
  refine ⟨⟨I.ok.mod, I.ok.kind, I.ok.glob, I.ok.blt, Nat.le_of_eq hz, I.ok.inj, I.ok.has, fun x c _ e => (hcn e).elim, I.ok.hd, I.ok.frames, I.ok.stk, fun b hb => (by cases hb), fun b o e => ?_, ?_, fun b _ _ hb => (by cases hb), fun b hb => (by cases hb), ?_, W.frf⟩,
    rfl, W.bare, Un.kept keep, ?_, fun x c e => (hcn e).elim, (W.pin _ List.mem_cons_self).2, fun x c e => (hcn e).elim, fun p hp => ?_, W.hok, I.len⟩
  · exact ⟨cut_of (W.bs b o e).1 (Nat.lt_of_lt_of_le (Heap.lt_size e) hbz), (W.bs b o e).2⟩
  · show B.base.objs.size ≤ (cut γ'.s.heap B.env.locals).objs.size
    rw [hz]; exact hbz
  · exact funs_cut W.funs hfl
  · obtain ⟨m, ⟨o, es, ep, ho, r⟩, hl⟩ := I.loc
    have ho : s1.heap.get? B.env.locals = some o := ho
    rw [hL] at ho
    cases ho
    refine ⟨m, ⟨oL, es, ep, (W.pin _ List.mem_cons_self).1, r⟩, fun i x v e1 e2 e3 => ?_⟩
    obtain ⟨u, ru, l⟩ := hl i x v e1 e2 e3
    refine ⟨u, ru, ?_⟩
    rcases l with l | ⟨_, c, e, _⟩
    · exact .inl l
    · exact (hcn e).elim
  · obtain ⟨h1, h2, h3, h4, h5⟩ := I.pin p hp
    exact ⟨(W.pin p (List.mem_cons_of_mem _ hp)).1, (W.pin p (List.mem_cons_of_mem _ hp)).2, h3, h4, h5⟩

/-! ### the protocol -/
def Yp (B : GB) : GY' Gh := fun γ v s1 kap => s1.os = γ.s.os ∧ AllBare s1.gens ∧ ∃ (x : V) (r : SV) (G1 H1 : Hp) (gp : List (Addr × Obj)), B.items[γ.i]? = some r ∧ RelV x v ∧ r.P x G1 ∧ Tr [] γ.G γ.H [] G1 H1 ∧
  Un (frs B.outer) [] γ.H H1 (cut γ.s.heap B.env.locals) s1.heap ∧ HOk B.P B.w H1 s1.heap ∧ (∀ p ∈ gp, B.env.locals ≤ p.1 ∧ s1.heap.get? p.1 = some p.2 ∧ H1 p.1 = none ∧ ∀ v, p.2.data ≠ .cell v) ∧ (∀ p ∈ B.pn, p ∈ gp) ∧
  ∀ γ2 : Gh, γ2.i = γ.i + 1 → Awake B γ2 G1 gp → kap γ2 γ2.s
def Rp (B : GB) : GR' Gh := fun γ r s1 => r = .ok (.ret .none) ∧ s1.os = γ.s.os ∧ AllBare s1.gens ∧ γ.i = B.items.length ∧ ∃ (G1 H1 : Hp), Tr [] γ.G γ.H [] G1 H1 ∧ Un (frs B.outer) [] γ.H H1 (cut γ.s.heap B.env.locals) s1.heap ∧ HOk B.P B.w H1 s1.heap
/-- where its code stands -/
structure GLoc (B : GB) (A0 : Around) (ip : List (Addr × Obj)) (c : Code) (fs : List Frame) (gd : Bool → Bool) : Prop where
  ipn : ∀ p ∈ ip, B.env.locals ≤ p.1
  over : A0.over c fs = B.A
  split : splitAtGen fs = none
  guard : fs.any Frame.guarded = false
  gd : gd false = false
structure GBok (B : GB) : Prop where
  pnn : ∀ p ∈ B.pn, B.env.locals ≤ p.1
  hcl : ∀ x, B.env.cells.lookup x = none
  co : B.env.scope.isCoroutine = false
  kind : B.env.scope.kind = .function
/-- what stands where the code runs -/
structure Run (B : GB) (γ : Gh) (ip : List (Addr × Obj)) (σ : L2.St) (G H : Hp) (s : Shared) (Γ : Gm) (n i : Nat) : Prop where
  inv : Inv (gX B γ) ip σ H s
  tr : Tr [] γ.G γ.H [] G H
  sl : Sl σ G Γ
  num : n + i = B.items.length
  at_ : γ.i = i
  big : B.env.locals ≤ γ.s.heap.objs.size
def Go (B : GB) (A0 : Around) (ip : List (Addr × Obj)) (c : Code) (fs : List Frame) (t : Sem PySem.Fin) (G : Hp) (O : Nat → Gm → Prop) : Prop :=
  ∀ n γ s σ G' H' i Γ, O i Γ → Same G G' → Run B γ ip σ G' H' s Γ n i → gSeg (model B.P B.w) A0 (Rp B) (Yp B) n γ c t fs s
structure YJ (B : GB) (sts : List Stmt) (i : Nat) (Γ : Gm) (O : Nat → Gm → Prop) : Prop where
  run : ∀ (A0 : Around) (n : Nat) (γ : Gh) (c : Code) (fs : List Frame) (K : Flow → Sem PySem.Fin) (J : Value → Sem PySem.Fin) (gd : Bool → Bool) (lv : List Value → List Value) (s : Shared) (σ : L2.St) (G H : Hp) (ip : List (Addr × Obj)),
    GLoc B A0 ip c fs gd → Run B γ ip σ G H s Γ n i → Go B A0 ip c fs (K .next) G O → gSeg (model B.P B.w) A0 (Rp B) (Yp B) n γ c ((execs sts B.env).wrap K J gd lv) fs s
section
variable {B : GB} {sts rest body els : List Stmt} {st : Stmt} {i : Nat} {Γ : Gm} {O O' : Nat → Gm → Prop} {e c iter tg : Expr} {r : SV} {pos yp : Pos}
theorem YJ.to (h : YJ B sts i Γ O) (k : ∀ i Γ, O i Γ → O' i Γ) : YJ B sts i Γ O' := ⟨fun A0 n γ c fs K J gd lv s σ G H ip L R g => h.run A0 n γ c fs K J gd lv s σ G H ip L R fun n γ s σ G' H' i Γ o => g n γ s σ G' H' i Γ (k i Γ o)⟩
theorem yj_nil (h : O i Γ) : YJ B [] i Γ O := ⟨fun A0 n γ c fs K J gd lv s σ G H ip L R g => gseg_nil (g n γ s σ G H i Γ h (Same.refl G) R)⟩
/-- only on to the next statement -/
def nxO (C : Gm → Prop) : En → Prop
  | .nx Δ Γ => Δ = [] ∧ C Γ
  | _ => False
theorem execs_one (st : Stmt) (env : Env) : execs [st] env = exec st env := by
  rw [execs_cons]
  show (exec st env).bind _ = _
  refine Eq.trans ?_ (Sem.bind_pure (exec st env))
  congr 1
  funext f
  cases f <;> rfl
theorem yj_plain {C : Gm → Prop} (h : ∀ γ, JSs (gX B γ) [] Γ [st] (nxO C)) (hr : ∀ Γ', C Γ' → YJ B rest i Γ' O) : YJ B (st :: rest) i Γ O := ⟨fun A0 n γ c fs K J gd lv s σ G H ip L R g => by
  refine gseg_cons (gseg_wrap ?_)
  rw [L.over]
  have q := (h γ).run ip s σ G H R.inv (Hs.nil R.tr.hs.sub) R.sl
  rw [execs_one] at q
  refine wpAny_mono q (fun f s' hf => ?_) fun _ _ q => q.elim
  cases f with
  | next =>
    obtain ⟨σ', H', I', G', Δ', Γ', ⟨rfl, hC⟩, t, sl⟩ := hf
    exact (hr Γ' hC).run A0 n γ c fs K J gd lv s' σ' G' H' ip L ⟨I', R.tr.trans t, sl, R.num, R.at_, R.big⟩ fun n2 γ2 s2 σ2 G2 H2 i2 Γ2 o sm => g n2 γ2 s2 σ2 G2 H2 i2 Γ2 o (t.up.trans sm)
  | brk => obtain ⟨σ', H', I', G', Δ', Γ', o, _⟩ := hf; exact o.elim
  | cont => obtain ⟨σ', H', I', G', Δ', Γ', o, _⟩ := hf; exact o.elim
  | ret v => obtain ⟨_, σ', H', I', _, G', Δ', Γ', o, _⟩ := hf; exact o.elim⟩
theorem yj_if {bb : Bool} (hc : ∀ γ, JB (gX B γ) [] Γ c (dB bb [])) (h1 : bb = true → YJ B body i Γ fun i' Γ' => YJ B rest i' Γ' O) (h2 : bb = false → YJ B els i Γ fun i' Γ' => YJ B rest i' Γ' O) : YJ B (.If c body els pos :: rest) i Γ O := ⟨fun A0 n γ c fs K J gd lv s σ G H ip L R g => by
  refine gseg_cons ?_
  rw [exec_If]
  refine gseg_bind (wpAny_standAt ?_)
  refine gseg_bind ?_
  rw [L.over]
  refine wpAny_mono ((hc γ).run ip s σ G H R.inv (Hs.nil R.tr.hs.sub) R.sl) (fun b s' ⟨H', I', G', Δ', ⟨e1, e2⟩, t⟩ => ?_) fun _ _ q => q.elim
  subst e2
  have R' : Run B γ ip σ G' H' s' Γ n i := ⟨I', R.tr.trans t, R.sl.mono t.up, R.num, R.at_, R.big⟩
  have go : Go B A0 ip _ fs ((execs rest B.env).wrap K J gd lv) G' fun i' Γ' => YJ B rest i' Γ' O := fun n2 γ2 s2 σ2 G2 H2 i2 Γ2 o sm R2 => o.run A0 n2 γ2 _ fs K J gd lv s2 σ2 G2 H2 ip L R2 fun n3 γ3 s3 σ3 G3 H3 i3 Γ3 o3 sm3 => g n3 γ3 s3 σ3 G3 H3 i3 Γ3 o3 (t.up.trans (sm.trans sm3))
  cases b with
  | true => exact (h1 e1.symm).run A0 n γ _ fs _ J gd lv s' σ G' H' ip L R' go
  | false => exact (h2 e1.symm).run A0 n γ _ fs _ J gd lv s' σ G' H' ip L R' go⟩
theorem yj_yield (ok : GBok B) (he : ∀ γ, JE (gX B γ) [] Γ e r []) (hi : B.items[i]? = some r) (hr : YJ B rest (i + 1) Γ O) : YJ B (.Expr (.Yield (some e) yp) pos :: rest) i Γ O := ⟨fun A0 n γ c fs K J gd lv s σ G H ip L R g => by
  refine gseg_cons ?_
  have hlt : i < B.items.length := (List.getElem?_eq_some_iff.mp hi).1
  obtain ⟨m, rfl⟩ : ∃ m, n = m + 1 := ⟨n - 1, by have := R.num; omega⟩
  refine gseg_Yield L.split L.gd L.guard ?_ ok.co (by simp [interactive, ok.kind])
  rw [L.over]
  refine wpAny_mono ((he γ).run ip s σ G H R.inv (Hs.nil R.tr.hs.sub) R.sl) (fun u s' ⟨x, H', I', rv, G', t, p⟩ => ?_) fun _ _ q => q.elim
  obtain ⟨ml, ⟨oL, es, ep, hL, hd⟩, _⟩ := id I'.loc
  refine ⟨I'.os, I'.bare, x, r, G', H', (B.env.locals, oL) :: (B.pn ++ ip), by rw [R.at_]; exact hi, rv, p, R.tr.trans t, I'.base, I'.hok, fun q hq => ?_, fun q hq => List.mem_cons_of_mem _ (List.mem_append_left _ hq), fun γ2 hγ W => ?_⟩
  · rcases List.mem_cons.mp hq with z | z
    · subst z
      exact ⟨Nat.le_refl _, hL, I'.free, fun v z => by rw [hd.1] at z; cases z⟩
    · obtain ⟨q1, q2, _, _, q5⟩ := I'.pin q z
      exact ⟨(List.mem_append.mp z).elim (ok.pnn q) (L.ipn q), q1, q2, q5⟩
  · have I2 := inv_wake I' hL ok.hcl W
    have hb : B.env.locals < γ2.s.heap.objs.size := Heap.lt_size (W.pin _ List.mem_cons_self).1
    exact hr.run A0 m γ2 c fs K J gd lv γ2.s σ γ2.G γ2.H ip L ⟨I2, Tr.refl (Hs.nil W.sub), (R.sl.mono t.up).mono W.same, by have := R.num; omega, by rw [hγ, R.at_], Nat.le_of_lt hb⟩ fun n3 γ3 s3 σ3 G3 H3 i3 Γ3 o3 sm3 => g n3 γ3 s3 σ3 G3 H3 i3 Γ3 o3 (t.up.trans (W.same.trans sm3))⟩
theorem yj_for {vs : List SV} {g : TG} {js : List Nat} (ok : GBok B) (hi : ∀ γ, JI (gX B γ) tg [] Γ iter vs []) (hg : ∀ γ, PG (gX B γ) tg g) (I : Nat → Nat → Gm → Prop) (h0 : I 0 i Γ)
    (hb : ∀ k r i Γ, vs[k]? = some r → I k i Γ → ∃ Γ', TgOk g js r Γ Γ' ∧ YJ B body i Γ' fun i' Γ2 => ∃ Γ3, GLe Γ2 Γ3 ∧ I (k + 1) i' Γ3) (hd : ∀ i Γ, I vs.length i Γ → YJ B rest i Γ O)
    (hs : ∀ x, foldedSetIterable iter B.env x = pure x) : YJ B (.For tg iter body [] pos :: rest) i Γ O := ⟨fun A0 n γ c fs K J gd lv s σ G H ip L R g0 => by
  refine gseg_cons (gseg_For ?_ hs)
  rw [L.over]
  refine wpAny_mono ((hi γ).run ip s σ G H R.inv (Hs.nil R.tr.hs.sub) R.sl) (fun v s1 h1 => wpAny_mono h1 (fun itv s2 h2 => ?_) fun _ _ q => q.elim) fun _ _ q => q.elim
  obtain ⟨it, fp, tn, Jt, H2, rfl, I2, T, st2, f2, G2, t2, w, z⟩ := h2
  intro p
  have fpn : ∀ b ∈ fp, B.env.locals ≤ b := fun b hb => by
    obtain ⟨_, _, _, h, _⟩ := f2 b hb
    rcases h with h | h
    · cases h
    · have h : (cut γ.s.heap B.env.locals).objs.size ≤ b := h
      rw [cut_size R.big] at h
      exact h
  have stat : ∀ {γ' : Gh} {H' : Hp}, B.env.locals ≤ γ'.s.heap.objs.size → (∀ b ∈ fp, H' b = none) → ∀ b ∈ fp, FpOk (gX B γ') ip H' b := fun {γ' H'} hz hn b hb => by
    obtain ⟨_, h2, h3, _, h5, h6⟩ := f2 b hb
    refine ⟨hn b hb, h2, h3, .inr ?_, h5, h6⟩
    show (cut γ'.s.heap B.env.locals).objs.size ≤ b
    rw [cut_size hz]
    exact fpn b hb
  have ovr : A0.over (.forLoop tg (.ref it) body [] B.env) (.ret (loopK B.env (fun f => match f with | .next => (execs rest B.env).wrap K J gd lv | f => K f) J gd lv) none (gd false) (lv []) c p [] :: fs) = B.A := (over_loop rfl rfl).trans L.over
  have LL : ∀ {h : Heap}, GLoc B A0 (ip ++ pinsAt fp h) (.forLoop tg (.ref it) body [] B.env) (.ret (loopK B.env (fun f => match f with | .next => (execs rest B.env).wrap K J gd lv | f => K f) J gd lv) none (gd false) (lv []) c p [] :: fs) id := fun {h} =>
    ⟨fun q hq => (List.mem_append.mp hq).elim (L.ipn q) fun zq => fpn _ (of_pinsAt zq).1, ovr, by
      rw [splitAtGen_ret, L.split]; rfl, by
      rw [List.any_cons, L.guard, show (Frame.ret _ none (gd false) (lv []) c p []).guarded = gd false from rfl, L.gd]; rfl, rfl⟩
  have loop : ∀ (m k n : Nat) (γ : Gh) (s : Shared) (σ : L2.St) (G H : Hp) (i : Nat) (Γ : Gm), m = vs.length - k → k ≤ vs.length → I k i Γ → Run B γ ip σ G H s Γ n i → Same G2 G → tn k s.heap → (∀ b ∈ fp, H b = none) →
      gSeg (model B.P B.w) A0 (Rp B) (Yp B) n γ (.forLoop tg (.ref it) body [] B.env) ((model B.P B.w).den (.forLoop tg (.ref it) body [] B.env)) (.ret (loopK B.env (fun f => match f with | .next => (execs rest B.env).wrap K J gd lv | f => K f) J gd lv) none (gd false) (lv []) c p [] :: fs) s := by
    intro m
    induction m with
    | zero =>
      intro k n γ s σ G H i Γ hm hk hI R sm st fr
      obtain rfl : k = vs.length := by omega
      refine gseg_forLoop ?_
      rw [ovr]
      refine wpAny_mono (T.done (gX B γ) rfl rfl rfl rfl _ ip s σ H (fun _ _ => False) R.inv (stat R.big fr) st (w.stop _ G H sm R.tr.hs.sub rfl)) (fun r s4 ⟨hr, I4⟩ => ?_) fun _ _ q => q
      subst hr
      refine gseg_block ?_
      exact (hd i Γ hI).run A0 n γ c fs K J gd lv s4 σ G H ip L ⟨I4, R.tr, R.sl, R.num, R.at_, R.big⟩ fun n3 γ3 s3 σ3 G3 H3 i3 Γ3 o3 sm3 => g0 n3 γ3 s3 σ3 G3 H3 i3 Γ3 o3 (t2.up.trans (sm.trans sm3))
    | succ m ih =>
      intro k n γ s σ G H i Γ hm hk hI R sm st fr
      have hlt : k < vs.length := by omega
      have hr : vs[k]? = some vs[k] := List.getElem?_eq_getElem hlt
      refine gseg_forLoop ?_
      rw [ovr]
      refine wpAny_mono (T.item (gX B γ) rfl rfl rfl rfl k ip s σ H (fun _ _ => False) R.inv (stat R.big fr) st (w.go k G H sm R.tr.hs.sub hlt)) (fun r s4 ⟨u, hu, h4⟩ => ?_) fun _ _ q => q
      subst hu
      refine wpAny_mono h4 (fun _ s5 ⟨x, H5, I5, r5, y5, st5, fr5⟩ => ?_) fun _ _ q => q
      obtain ⟨G5, u5, p5⟩ := w.yld k G H x H5 _ sm R.tr.hs.sub hr y5
      obtain ⟨Γ6, tk, hbody⟩ := hb k _ i Γ hr hI
      have I5' := I5.pinned (stat R.big fr5) (T.obj _ _ st5)
      refine wpAny_mono ((hg γ).run _ s5 σ H5 x u _ I5' r5 (tk x σ G5 H5 (fun σ6 H6 => H6 = H5 ∧ Sl σ6 G5 Γ6) u5.hs.sub p5 (R.sl.mono u5.up) fun σ6 sl6 _ => ⟨rfl, sl6⟩)) (fun _ s6 ⟨σ6, H6, I6, e6, sl6⟩ => ?_) fun _ _ q => q
      subst e6
      intro J'
      refine hbody.run A0 n γ _ _ _ J' id id s6 σ6 G5 H6 _ LL ⟨I6, R.tr.trans u5, sl6, R.num, R.at_, R.big⟩ fun n7 γ7 s7 σ7 G7 H7 i7 Γ7 ⟨Γ8, l8, hI8⟩ sm7 R7 => ?_
      refine gseg_again rfl (ih (k + 1) n7 γ7 s7 σ7 G7 H7 i7 Γ8 (by omega) hlt hI8 ⟨R7.inv.unpinned, R7.tr, R7.sl.le l8, R7.num, R7.at_, R7.big⟩ (sm.trans (u5.up.trans sm7)) ?_ fun b hb => ?_)
      · exact T.keep _ _ _ st5 fun b hb o e => (R7.inv.pin (b, o) (List.mem_append_right _ (List.mem_append_right _ (mem_pinsAt hb e)))).1
      · obtain ⟨o, e, d⟩ := T.obj _ _ st5 b hb
        exact (R7.inv.pin (b, o) (List.mem_append_right _ (List.mem_append_right _ (mem_pinsAt hb e)))).2.1
  exact loop _ 0 n γ s2 σ G2 H2 i Γ rfl (Nat.zero_le _) h0 ⟨I2, R.tr.trans t2, R.sl.mono t2.up, R.num, R.at_, R.big⟩ (Same.refl G2) st2 fun b hb => (f2 b hb).1⟩
end
end Bl
set_option Elab.async false
set_option linter.all false
set_option maxRecDepth 100000
set_option maxHeartbeats 2000000
/-! for x in a generator def's call -/
namespace Bl
open PySem PySem.Spec PyProof.Rows L2 GenW

theorem inv_gens {X : Cx} {pins : List (Addr × Obj)} {σ : L2.St} {H : Hp} {s : Shared} {g : Array GenState} (I : Inv X pins σ H s) (hg : AllBare g) : Inv X pins σ H { s with gens := g } :=
  ⟨I.ok, I.os, hg, I.base, I.loc, I.cell, I.free, I.freeC, I.pin, I.hok, I.len⟩
theorem bare_of {a b : Array GenState} (ha : AllBare a) (h : ∀ y ∈ b, ∃ x ∈ a, x.bare = y.bare) : AllBare b := fun y hy => by
  obtain ⟨x, hx, e⟩ := h y hy
  rw [← e]; exact ha x hx
theorem bare_numb {a : Array GenState} (ha : AllBare a) : AllBare (a.map numb) := fun y hy => by
  obtain ⟨x, hx, rfl⟩ := Array.mem_map.mp hy
  rw [numb_bare]; exact ha x hx
/-- a run that the sleeping generators do not notice -/
theorem kept_run {α : Type} {M : Model} {A : Around} {s : Shared} {t : Sem α} {Q : α → Shared → Prop} {R : α → Shared → Prop} {E : Value → Shared → Prop} (h : wpAny M A t Q (fun _ _ => False) { s with gens := s.gens.map numb })
    (k : ∀ a s1 g', Q a s1 → Kept s.gens g' → (AllBare s1.gens → AllBare g') → R a { s1 with gens := g' }) : wpAny M A t R E s :=
  wpAny_mono (wpAny_numb h) (fun a s' ⟨s1, e, h1, h2, q⟩ => by rw [e]; exact k a s1 s'.gens q h1 fun hb => bare_of hb h2) fun _ s' ⟨_, _, _, _, q⟩ => q.elim

/-- what the loop knows of the generator that sleeps: Gy: what was seen when it fell asleep; gp: its objects -/
structure GenSt (X : Cx) (pins : List (Addr × Obj)) (B : GB) (a g i : Nat) (gs : GenState) (Gy H : Hp) (gp : List (Addr × Obj)) (s : Shared) : Prop where
  eP : B.P = X.prog
  ew : B.w = X.w
  eb : B.base = X.base
  eo : B.outer = X.stack
  gen : ∃ go, (a, go) ∈ B.pn ∧ ∀ h : Heap, h.get? a = some go → h.IsGen a g
  hgs : s.gens[g]? = some gs
  lo : X.env.locals < B.env.locals
  lc : ∀ x c, X.env.cells.lookup x = some c → c < B.env.locals
  lp : ∀ p ∈ X.pn ++ pins, p.1 < B.env.locals
  lf : ∀ b ∈ X.fs, b < B.env.locals
  pn : ∀ p ∈ B.pn, p ∈ gp
  gpp : ∀ p ∈ gp, B.env.locals ≤ p.1 ∧ s.heap.get? p.1 = some p.2 ∧ H p.1 = none
  wake : ∀ γ2 : Gh, γ2.i = i → Awake B γ2 Gy gp → gGoes (model B.P B.w) X.A.in1 (Rp B) (Yp B) (B.items.length - i) γ2 gs γ2.s
structure JG (X : Cx) (Δ : Cs) (Γ : Gm) (iter : Expr) (items : List SV) (Δ' : Cs) : Prop where
  run : ∀ (pins : List (Addr × Obj)) (s : Shared) (σ : L2.St) (G H : Hp), Inv X pins σ H s → Hs Δ G H → Sl σ G Γ →
    wpAny (model X.prog X.w) X.A (eval iter X.env) (fun u s1 => ∃ (B : GB) (a g : Nat) (gs : GenState) (G1 H1 : Hp) (gp : List (Addr × Obj)), u = .ref a ∧ B.items = items ∧ Inv X pins σ H1 s1 ∧ Tr Δ G H Δ' G1 H1 ∧ GenSt X pins B a g 0 gs G1 H1 gp s1) X.xe s
/-- behind a run of the generator the loop's state stands -/
theorem inv_ran {X : Cx} {pins : List (Addr × Obj)} {σ : L2.St} {H H' : Hp} {s s' : Shared} {n0 : Nat} (I : Inv X pins σ H s) (lo : X.env.locals < n0) (lc : ∀ x c, X.env.cells.lookup x = some c → c < n0) (lp : ∀ p ∈ X.pn ++ pins, p.1 < n0)
    (hos : s'.os = s.os) (hb : AllBare s'.gens) (un : Un (frs X.stack) [] H H' (cut s.heap n0) s'.heap) (hok : HOk X.prog X.w H' s'.heap) : Inv X pins σ H' s' := by
  have hz : X.s_0.heap.objs.size ≤ n0 := Nat.le_trans I.ok.above (Nat.le_of_lt lo)
  have old : ∀ b o, s.heap.get? b = some o → b ∉ List.range' n0 s.heap.objs.size → (cut s.heap n0).get? b = some o := fun b o e hb => by
    refine cut_of e (Nat.lt_of_not_le fun hn => hb ?_)
    have := Heap.lt_size e
    rw [List.mem_range'_1]
    exact ⟨hn, Nat.lt_of_lt_of_le this (Nat.le_add_left _ _)⟩
  refine I.call' (ch := List.range' n0 s.heap.objs.size) hos ⟨fun b o e n hf hx => un.keep b o (old b o e hx) n hf (by simp), fun b o e n hf hx => un.slot b o (old b o e hx) n hf (by simp), fun b o e n hx => un.free b o (old b o e hx) n (by simp), fun b o e hx => un.there b o (old b o e hx) (by simp), un.tups, un.frzs, un.tbls⟩ hok hb fun b hb => ?_
  have hb : n0 ≤ b := by rw [List.mem_range'_1] at hb; exact hb.1
  exact ⟨.inr (Nat.le_trans hz hb), fun e => by rw [e] at hb; exact absurd (Nat.lt_of_lt_of_le lo hb) (Nat.lt_irrefl _), fun x c e z => by rw [← z] at hb; exact absurd (Nat.lt_of_lt_of_le (lc x c e) hb) (Nat.lt_irrefl _), fun p hp z => by rw [← z] at hb; exact absurd (Nat.lt_of_lt_of_le (lp p hp) hb) (Nat.lt_irrefl _)⟩
theorem awake_of {X : Cx} {pins : List (Addr × Obj)} {B : GB} {a g i : Nat} {gs : GenState} {Gy G H : Hp} {gp : List (Addr × Obj)} {s : Shared} {σ : L2.St} (S : GenSt X pins B a g i gs Gy H gp s) (I : Inv X pins σ H s) (sm : Same Gy G) (sub : Same G H) (j : Nat) : Awake B ⟨G, H, s.setGen g .running, j⟩ Gy gp where
  same := sm
  sub := sub
  pin := fun p hp => ⟨(S.gpp p hp).2.1, (S.gpp p hp).2.2⟩
  bs := fun b o e => by rw [S.eb] at e; exact I.bs b o e
  funs := by rw [S.eb, S.eo]; exact I.stack
  frf := fun b hb => by rw [S.eo] at hb; exact I.stkFree b hb
  hok := by rw [S.eP, S.ew]; exact I.hok
  bare := allBare_setGen I.bare rfl
section
variable {X : Cx} {Δ Δ1 : Cs} {Γ : Gm} {iter : Expr} {body rest : List Stmt} {items : List SV} {O : En → Prop} {pos px : Pos} {x : Str} {g : TG} {js : List Nat}
def forO (X : Cx) (rest : List Stmt) (O : En → Prop) : En → Prop
  | .nx Δ Γ => JSs X Δ Γ rest O
  | .rt Δ r => O (.rt Δ r)
  | _ => False
theorem jss_forG (hc : X.calm = true) (hroom : X.A.depth < recursionLimit) (hxe : X.xe = fun _ _ => False) (hi : JG X Δ Γ iter items Δ1) (hg : PG X (.Name x px) g) (I : Nat → Cs → Gm → Prop) (h0 : I 0 Δ1 Γ)
    (hb : ∀ i r Δ Γ, items[i]? = some r → I i Δ Γ → ∃ Γ', TgOk g js r Γ Γ' ∧ JSs X Δ Γ' body (loopO X I i rest O)) (hd : ∀ Δ Γ, I items.length Δ Γ → JSs X Δ Γ rest O)
    (hs : ∀ x, foldedSetIterable iter X.env x = pure x := by intro _; rfl) : JSs X Δ Γ (.For (.Name x px) iter body [] pos :: rest) O := by
  have never : ∀ {v s}, X.xe v s → False := fun {v s} h => by rw [hxe] at h; exact h
  have main : PS X (.For (.Name x px) iter body [] pos) fun D σ H => ∃ G, Hs Δ G H ∧ Sl σ G Γ ∧ Srv (forO X rest O) Δ G H D := by
    refine ⟨fun pins s σ H D J ⟨G, hh, sl, sv⟩ => ?_⟩
    refine wpAny_For (wpAny_mono (hi.run pins s σ G H J hh sl) (fun u s1 ⟨B, a, gn, gs, G1, H1, gp, e1, e2, I1, t1, S1⟩ => ?_) fun _ _ h => h) hs
    subst e1 e2
    have isg : ∀ {i : Nat} {gs : GenState} {Gy H : Hp} {gp : List (Addr × Obj)} {s : Shared}, GenSt X pins B a gn i gs Gy H gp s → s.heap.IsGen a gn := fun {i gs Gy H gp s} S => by
      obtain ⟨go, hgo, k⟩ := S.gen
      exact k _ (S.gpp _ (S.pn _ hgo)).2.1
    refine wpAny_pyIter_gen (isg S1) ?_
    refine codeAny_forLoop_any (fun n s' => ∃ (i : Nat) (Δ2 : Cs) (Γ2 : Gm) (σ2 : L2.St) (Gy G2 H2 : Hp) (gs : GenState) (gp : List (Addr × Obj)), n = B.items.length - i ∧ i ≤ B.items.length ∧ I i Δ2 Γ2 ∧ Inv X pins σ2 H2 s' ∧ Tr Δ G H Δ2 G2 H2 ∧ Sl σ2 G2 Γ2 ∧ Same Gy G2 ∧ GenSt X pins B a gn i gs Gy H2 gp s') ?_ B.items.length ⟨0, Δ1, Γ, σ, G1, G1, H1, gs, gp, rfl, Nat.zero_le _, h0, I1, t1, sl.mono t1.up, Same.refl G1, S1⟩
    rintro n s2 ⟨i, Δ2, Γ2, σ2, Gy, G2, H2, gs, gp, rfl, hle, hI, I2, t2, sl2, sm, S⟩
    have W := awake_of S I2 sm t2.hs.sub i
    have hgz : gn < s2.gens.size := (Array.getElem?_eq_some_iff.mp S.hgs).1
    have go := S.wake _ rfl W
    rw [S.eP, S.ew] at go
    refine wpAny_gsz (n := s2.gens.size) (Nat.le_refl _) ?_
    refine next_wake (I1.ok.hd hc) I2.nolimit hroom (isg S) S.hgs go (fun r s3 h => h.1) (fun r s3 h h' hk => ?_) fun v s3 gs' hbr has hy => ?_
    · obtain ⟨_, hos, hbare, hn, G3, H3, t3, un3, hok3⟩ := h
      intro _
      have hn : i = B.items.length := hn
      subst hn
      rw [S.eP, S.ew] at hok3
      rw [S.eo] at un3
      have I3 : Inv X pins σ2 H3 s3 := inv_ran I2 S.lo S.lc S.lp hos hbare un3 hok3
      have I4 : Inv X pins σ2 H3 { s3.setGen gn .finished with heap := h' } := (inv_gens (I3.kept (t' := s3.toks) hk) (allBare_setGen (s := s3) (x := .finished) hbare rfl))
      have t3' := t2.trans (t3.up0 t2.hs)
      refine wpAny_execs_nil ⟨σ2, H3, I4, ?_⟩
      exact sv.nx σ2 G3 H3 Δ2 Γ2 (hd Δ2 Γ2 hI) t3' (sl2.mono t3.up)
    · obtain ⟨hos, hbare, xv, r, G3, H3, gp3, hr, rv, pr, t3, un3, hok3, hgp3, hpn3, hnext⟩ := hy
      intro hsz
      rw [setGen_size] at hsz
      have hr : B.items[i]? = some r := hr
      have hlt : i < B.items.length := (List.getElem?_eq_some_iff.mp hr).1
      rw [S.eP, S.ew] at hok3
      rw [S.eo] at un3
      have I3 : Inv X pins σ2 H3 s3 := inv_ran I2 S.lo S.lc S.lp hos hbare un3 hok3
      have hgb : AllBare (s3.setGen gn gs').gens := allBare_setGen hbare hbr
      have I4 : Inv X pins σ2 H3 (s3.setGen gn gs') := inv_gens I3 hgb
      have I5 : Inv X (pins ++ gp3) σ2 H3 (s3.setGen gn gs') := I4.pins_of fun p hp => by
        rcases List.mem_append.mp hp with z | z
        · exact I4.pin p (List.mem_append_right _ z)
        · obtain ⟨q1, q2, q3, q4⟩ := hgp3 p z
          exact ⟨q2, q3, fun e => by rw [e] at q1; exact absurd (Nat.lt_of_lt_of_le S.lo q1) (Nat.lt_irrefl _), fun e => absurd (Nat.lt_of_lt_of_le (S.lf _ e) q1) (Nat.lt_irrefl _), q4⟩
      have t3' := t2.trans (t3.up0 t2.hs)
      obtain ⟨Γ6, tk, hbody⟩ := hb i r Δ2 Γ2 hr hI
      have hat : (s3.setGen gn gs').gens[gn]? = some gs' := setGen_at (Nat.lt_of_lt_of_le hgz hsz)
      show wpAny _ _ (pure ()) _ _ _
      refine wpAny_pure ?_
      have ha := hg.run _ { (s3.setGen gn gs') with gens := (s3.setGen gn gs').gens.map numb } σ2 H3 xv v (fun σ6 H6 => H6 = H3 ∧ Sl σ6 G3 Γ6) (inv_gens I5 (bare_numb hgb)) rv (tk xv σ2 G3 H3 _ t3'.hs.sub pr (sl2.mono t3.up) fun σ6 sl6 _ => ⟨rfl, sl6⟩)
      refine kept_run (wpAny_mono ha (fun _ _ h => h) fun _ _ h => never h) fun _ s6 g6 ⟨σ6, H6, I6, e6, sl6⟩ k6 b6 => ?_
      subst e6
      have I6' : Inv X (pins ++ gp3) σ6 H6 { s6 with gens := g6 } := inv_gens I6 (b6 I6.bare)
      have hbd := hbody.run (pins ++ gp3) { s6 with gens := g6.map numb } σ6 G3 H6 (inv_gens (s := { s6 with gens := g6 }) I6' (bare_numb (b6 I6.bare))) t3'.hs sl6
      refine kept_run (s := { s6 with gens := g6 }) (wpAny_mono hbd (fun _ _ h => h) fun _ _ h => never h) fun f s7 g7 q7 k7 b7 => ?_
      have again : ∀ {σ7 : L2.St} {H7 G7 : Hp} {Δ7 : Cs} {Γ7 : Gm}, Inv X (pins ++ gp3) σ7 H7 s7 → I (i + 1) Δ7 Γ7 → Tr Δ2 G3 H6 Δ7 G7 H7 → Sl σ7 G7 Γ7 → ∃ m, m < B.items.length - i ∧ ∃ (i : Nat) (Δ2 : Cs) (Γ2 : Gm) (σ2 : L2.St) (Gy G2 H2 : Hp) (gs : GenState) (gp : List (Addr × Obj)), m = B.items.length - i ∧ i ≤ B.items.length ∧ I i Δ2 Γ2 ∧ Inv X pins σ2 H2 { s7 with gens := g7 } ∧ Tr Δ G H Δ2 G2 H2 ∧ Sl σ2 G2 Γ2 ∧ Same Gy G2 ∧ GenSt X pins B a gn i gs Gy H2 gp { s7 with gens := g7 } := fun {σ7 H7 G7 Δ7 Γ7} J7 hI7 t7 sl7 => by
        refine ⟨B.items.length - (i + 1), by omega, i + 1, Δ7, Γ7, σ7, G3, G7, H7, gs', gp3, rfl, hlt, hI7, inv_gens J7.unpinned (b7 J7.bare), t3'.trans t7, sl7, t7.up, ⟨S.eP, S.ew, S.eb, S.eo, S.gen, ?_, S.lo, S.lc, S.lp, S.lf, hpn3, fun p hp => ?_, fun γ2 e2 W2 => ?_⟩⟩
        · exact k7 gn gs' (k6 gn gs' hat has) has
        · obtain ⟨q1, q2, _⟩ := J7.pin p (List.mem_append_right _ (List.mem_append_right _ hp))
          exact ⟨(hgp3 p hp).1, q1, q2⟩
        · have hk := hnext γ2 e2 W2
          obtain ⟨m, hm⟩ : ∃ m, B.items.length - i = m + 1 := ⟨B.items.length - i - 1, by omega⟩
          rw [hm] at hk
          rw [show B.items.length - (i + 1) = m by omega, S.eP, S.ew]
          exact hk
      cases f with
      | next => obtain ⟨σ7, H7, J7, G7, Δ7, Γ7, ⟨Γ8, l8, i8⟩, t7, sl7⟩ := q7; exact again J7 i8 t7 (sl7.le l8)
      | cont => obtain ⟨σ7, H7, J7, G7, Δ7, Γ7, ⟨Γ8, l8, i8⟩, t7, sl7⟩ := q7; exact again J7 i8 t7 (sl7.le l8)
      | brk =>
        obtain ⟨σ7, H7, J7, G7, Δ7, Γ7, o, t7, sl7⟩ := q7
        exact ⟨σ7, H7, inv_gens J7.unpinned (b7 J7.bare), sv.nx σ7 G7 H7 Δ7 Γ7 o (t3'.trans t7) sl7⟩
      | ret u =>
        obtain ⟨xr, σ7, H7, J7, rr, G7, Δ7, r7, o, t7, p7⟩ := q7
        exact ⟨xr, σ7, H7, inv_gens J7.unpinned (b7 J7.bare), rr, sv.rt xr G7 H7 Δ7 r7 o (t3'.trans t7) p7⟩
  refine jss_of (pss_cons main (pss_U (O := O))) fun σ G H D hh sl sv => ⟨G, hh, sl, ?_⟩
  have sv2 := srv_then (X := X) (rest := rest) sv
  exact ⟨fun σ' G' H' Δ' Γ' o => sv2.nx σ' G' H' Δ' Γ' o, fun v G' H' Δ' r o => sv2.rt v G' H' Δ' r o, fun _ _ _ _ _ o => o.elim, fun _ _ _ _ _ o => o.elim⟩
end
end Bl
set_option Elab.async false
set_option linter.all false
set_option maxRecDepth 100000
set_option maxHeartbeats 2000000
/-! a call that makes a generator -/
namespace Bl
open PySem PySem.Spec PyProof.Rows L2 GenW
/-- the generator's frame, as it is made -/
def gB (X : Cx) (N : List Str) (x : Str) (sc : Scope) (n0 f : Addr) (cdv : Value) (pn : List (Addr × Obj)) (items : List SV) : GB :=
  ⟨X.prog, X.w, X.K, X.mg, X.base, N, envOfC x sc n0 f cdv, X.A.in1.deeper (envOfC x sc n0 f cdv), X.stack, pn, items⟩
section
variable {X : Cx} {e e2 : Expr} {es : List Expr} {Γ : Gm} {Δ Δ1 Δ2 : Cs} {r2 : SV} {rs items : List SV} {pos p kpos : Pos}
theorem jg_callK {k n i0 : Nat} {x : Str} {N ps : List Str} (d : DefAt X.K X.mg x i0) (S : GScope N ps (defScope (top i0))) (hcl : ∀ m y, (cellsFrom m (defScope (top i0)).names []).lookup y = none)
    (hbind : ∀ (kV doc pm : Value) (an : Option Addr) (cdv ct : Value) (us ws : List Value), us.length = n → ws.length = 1 → bindArgs (PySem.W.fnOf x x (defArgs (top i0)) (defBody (top i0)) (defScope (top i0)) .none kV doc pm an cdv ct) ⟨us, (["most"] : List Str).zip ws⟩ = pure (ps.zip (us ++ ws)))
    (hbody : ∀ (f : Addr) (cdv : Value) (n0 : Addr) (pn : List (Addr × Obj)), Room k (gB X N x (defScope (top i0)) n0 f cdv pn items).A → (∀ p ∈ pn, n0 ≤ p.1) → YJ (gB X N x (defScope (top i0)) n0 f cdv pn items) (defBody (top i0)) 0 (start0 N (rs ++ [r2])) fun i _ => i = items.length)
    (hr : Room (k + 2) X.A) (ha : JA X Δ Γ (e :: es) rs Δ1) (hk : JE X Δ1 Γ e2 r2 Δ2) (hl : rs.length = n := by rfl) (hps : ps.length = n + 1 := by rfl) (hg : Gl X x := by rfl)
    (hall : (backToKw pos (keywordEach [⟨some "most", e2, kpos⟩] X.env)).all (·.1.isSome) = true := by rfl) (hks : (backToKw pos (keywordEach [⟨some "most", e2, kpos⟩] X.env)).filterMap (·.1) = (["most"] : List Str) := by rfl)
    (hdb : (x == ("__debug__" : Str)) = false := by decide) (he : starEach (e :: es) X.env = (false, eval e X.env) :: starEach es X.env := by rfl)
    (hpl : ((backTo pos (starEach (e :: es) X.env)).any (·.1) || (backToKw pos (keywordEach [⟨some "most", e2, kpos⟩] X.env)).any (·.1.isNone)) = false := by rfl) : JG X Δ Γ (.Call (.Name x p) (e :: es) [⟨some "most", e2, kpos⟩] pos) items Δ2 := by
  obtain ⟨f, fd, F, hm⟩ := d
  have hb := kbn_of (ps := ps) (ks := (["most"] : List Str)) F n hbind
  refine ⟨fun pins s σ G H I hs sl => ?_⟩
  refine wpAny_Call_Name_kw (ld_glob I hg hm ?_ hdb)
  refine PySem.W.callWith_KW (h₀ := X.base) I.ok.mod.kin F.kp hall (thn (ha.run pos pins s σ G H I hs sl) fun us s1 ⟨vs, H1, I1, rv, G1, t1, pr1⟩ => ?_) hpl he
  refine thn ((pk_cons hk.use pk_nil).run pos pins s1 σ H1 (fun zs H2 => ∃ v G2, zs = [v] ∧ Tr Δ G H Δ2 G2 H2 ∧ PR G2 (vs ++ [v]) (rs ++ [r2])) I1 ⟨G1, t1.hs, sl.mono t1.up, fun v G2 H2 t2 pv => ⟨v, G2, rfl, t1.trans t2, paired_app (paired_mono t2.up pr1) (.cons pv .nil)⟩⟩) fun ws s2 ⟨zs, H2, I2, rz, v, G2, ez, t2, pr2⟩ => ⟨I2.kIn, ?_⟩
  subst ez
  rw [hks]
  have lv : vs.length = n := by rw [Paired.length pr1]; exact hl
  have r2' := hb.rel rv rz
  have hbt := hb.to s2 us ws I2.kIn (rv.length.symm.trans lv) rz.length.symm
  obtain ⟨oc, od, dV, kV, doc, pm, an, cdv, ct, osl, rfl, lk, hcd, _, _⟩ := F.ex
  have hlu : (vs ++ [v]).length = ps.length := by rw [List.length_append, lv, hps]; rfl
  have e0 : Env0 X.prog X.w X.K X.mg X.base X.A X.stack s2 H2 := I2.env0
  have e1 : Env0 X.prog X.w X.K X.mg X.base X.A.in1 X.stack s2 H2 := e0.in1
  have KX : X.K.In s2.heap := I2.kIn
  have lim : s2.heap.NoLimit := I2.nolimit
  have r1 : Room (k + 1) X.A.in1 := hr.in1
  have hkind : ∀ y ∈ ps.zip (us ++ ws), (defScope (top i0)).names.lookup y.1 = some .local ∨ ((defScope (top i0)).names.lookup y.1 = some .cell ∧ ((cellsFrom (s2.heap.objs.size + 1) (defScope (top i0)).names []).lookup y.1).isSome = true) := fun ⟨m, u⟩ hy => by
    rcases S.par m (List.of_mem_zip hy).1 with q | q
    · exact .inl q
    · exact .inr ⟨q, PySem.W.cellsFrom_some _ _ _ (.inl q)⟩
  refine wpAny_call (codeAny_call_generator hr.depth (KX _ _ lk) rfl S.co S.gen rfl (PySem.W.codeRec_of KX hcd) (hbt _ _ _ _ ?_))
  refine wpAny_newFunctionEnv_cells S.kind hkind fun env he s3 x3 => ?_
  subst he
  have lim3 : s3.heap.NoLimit := lim.keeps x3.toInCall.keep
  refine ⟨lim3, ?_⟩
  obtain ⟨h3, tk3, es3, hk3⟩ := x3.done
  have os3 : s3.os = s2.os := by rw [es3]
  have gen3 : s3.gens = s2.gens := by rw [es3]
  have lt3 : s2.heap.objs.size < s3.heap.objs.size := x3.toInCall.ns.lt
  have kp3 : ∀ b o, s2.heap.get? b = some o → s3.heap.get? b = some o := x3.toInCall.keep
  have main : ∀ (go : Obj) (nm qn : Value) (tk : Nat), go.cls = .type "generator" → go.data = .fields #[.int s3.gens.size 0, nm, qn] → go.slots = #[] → (∀ h : Heap, (h.push go).get? h.objs.size = some go) →
      ∃ (B : GB) (a g : Nat) (gs : GenState) (G1 H1 : Hp) (gp : List (Addr × Obj)), Value.ref s3.heap.objs.size = .ref a ∧ B.items = items ∧ Inv X pins σ H1 { s3 with gens := s3.gens.push (.fresh (.func (defBody (top i0)) (envOfC x (defScope (top i0)) s2.heap.objs.size f cdv))), toks := tk, heap := s3.heap.push go } ∧ Tr Δ G H Δ2 G1 H1 ∧ GenSt X pins B a g 0 gs G1 H1 gp { s3 with gens := s3.gens.push (.fresh (.func (defBody (top i0)) (envOfC x (defScope (top i0)) s2.heap.objs.size f cdv))), toks := tk, heap := s3.heap.push go } := by
    intro go nm qn tk hgc hgd hgs hgp
    have kp4 : ∀ b o, s2.heap.get? b = some o → (s3.heap.push go).get? b = some o := fun b o e => Heap.get?_push_of_some _ (kp3 b o e)
    have hbare : AllBare (s3.gens.push (.fresh (.func (defBody (top i0)) (envOfC x (defScope (top i0)) s2.heap.objs.size f cdv)))) := AllBare.push (by rw [gen3]; exact I2.bare) rfl
    have J2 : Inv X pins σ H2 { s3 with gens := s3.gens.push (.fresh (.func (defBody (top i0)) (envOfC x (defScope (top i0)) s2.heap.objs.size f cdv))), toks := tk, heap := s3.heap.push go } :=
      I2.call' (ch := []) os3 (Un.kept kp4) (I2.hok.kept kp4) hbare fun b z => by simp at z
    -- the generator's own view
    have K1 : Inv (gcxOf X.prog X.w X.K X.mg X.base N x (defScope (top i0)) f cdv X.A.in1 X.stack s2 H2 E0 []) [] (L2.start N (vs ++ [v])) H2 s3 := inv_startG S r1.hd e1 hlu r2' x3
    let B : GB := gB X N x (defScope (top i0)) s2.heap.objs.size f cdv [(s3.heap.objs.size, go)] items
    have young : s2.heap.objs.size < s3.heap.objs.size := lt3
    have hL3 : ∃ oL, s3.heap.get? s2.heap.objs.size = some oL ∧ ∀ v, oL.data ≠ .cell v := by
      obtain ⟨m, ⟨oL, es, ep, hL, hd, _⟩, _⟩ := K1.loc
      exact ⟨oL, hL, fun v z => by rw [hd] at z; cases z⟩
    obtain ⟨oL, hL, hLc⟩ := hL3
    have hcl' : ∀ y, (cellsFrom (s2.heap.objs.size + 1) (defScope (top i0)).names []).lookup y = none := fun y => hcl _ y
    have hcn : ∀ {y : Str} {c : Addr}, B.env.cells.lookup y = some c → False := fun {y c} e => by
      have e : (cellsFrom (s2.heap.objs.size + 1) (defScope (top i0)).names []).lookup y = some c := e
      rw [hcl'] at e; cases e
    let γ0 : Gh := ⟨G2, H2, s2, 0⟩
    have hz : (cut s2.heap s2.heap.objs.size).objs.size = s2.heap.objs.size := cut_size (Nat.le_refl _)
    have hga : H2 s3.heap.objs.size = none := K1.hok.fresh (Nat.le_refl _)
    have hnf : s3.heap.objs.size ∉ frs X.stack := K1.nofs (Nat.le_refl _)
    have K2 : Inv (gX B γ0) [] (L2.start N (vs ++ [v])) H2 { s3 with heap := s3.heap.push go } := by
      have kpp : ∀ b o, s3.heap.get? b = some o → (s3.heap.push go).get? b = some o := fun b o e => Heap.get?_push_of_some _ e
      have K1' := K1.kept (t' := s3.toks) kpp
      refine ⟨⟨K1.ok.mod, K1.ok.kind, K1.ok.glob, K1.ok.blt, Nat.le_of_eq hz, K1.ok.inj, K1.ok.has, fun y c _ e => (hcn e).elim, fun _ => r1.hd, K1.ok.frames, K1.ok.stk, fun b hb => (by cases hb), fun b o e => ?_, ?_, fun b _ _ hb => (by cases hb), fun b hb => (by cases hb), ?_, K1.ok.frf⟩,
        K1.os, K1.bare, ?_, K1'.loc, fun y c e => (hcn e).elim, K1.free, fun y c e => (hcn e).elim, fun p hp => ?_, K1'.hok, K1.len⟩
      · exact ⟨cut_of (e1.bs b o e).1 (Nat.lt_of_lt_of_le (Heap.lt_size e) e1.bsz), (e1.bs b o e).2⟩
      · show X.base.objs.size ≤ (cut s2.heap s2.heap.objs.size).objs.size
        rw [hz]; exact e1.bsz
      · refine funs_cut e1.funs fun b hb => ?_
        obtain ⟨_, o, e, _⟩ := e1.funs.mem hb
        exact Heap.lt_size e
      · exact Un.kept fun b o e => kpp b o (kp3 b o (cut_sub b o e))
      · have hp : p ∈ [(s3.heap.objs.size, go)] ++ [] := hp
        have hp : p = (s3.heap.objs.size, go) := by simpa using hp
        subst hp
        exact ⟨hgp _, hga, Nat.ne_of_gt young, hnf, fun v z => by rw [hgd] at z; cases z⟩
    have okB : GBok B := ⟨fun p hp => by
      have hp : p ∈ [(s3.heap.objs.size, go)] := hp
      have hp : p = (s3.heap.objs.size, go) := by simpa using hp
      subst hp
      exact Nat.le_of_lt young, hcl', S.co, S.kind⟩
    have hL4 : (s3.heap.push go).get? s2.heap.objs.size = some oL := Heap.get?_push_of_some _ hL
    have hYJ := hbody f cdv s2.heap.objs.size [(s3.heap.objs.size, go)] (r1.deeper _) okB.pnn
    refine ⟨B, s3.heap.objs.size, s3.gens.size, _, G2, H2, (s2.heap.objs.size, oL) :: [(s3.heap.objs.size, go)], rfl, rfl, J2, t2, ⟨rfl, rfl, rfl, rfl, ⟨go, List.mem_singleton.mpr rfl, fun h e => ⟨go, nm, qn, e, hgc, hgd, hgs⟩⟩, Array.getElem?_push_size .., I2.lt, fun y c e => ?_, fun p hp => Heap.lt_size (I2.pin p hp).1, fun b hb => ?_, fun p hp => List.mem_cons_of_mem _ hp, fun p hp => ?_, fun γ2 hγ W => ?_⟩⟩
    · obtain ⟨u, q⟩ := I2.cell y c e
      exact q.lt
    · obtain ⟨_, o, e, _⟩ := I2.funs.mem hb
      exact Heap.lt_size e
    · rcases List.mem_cons.mp hp with z | z
      · subst z
        exact ⟨Nat.le_refl _, hL4, K1.free⟩
      · have z : p = (s3.heap.objs.size, go) := by simpa using z
        subst z
        exact ⟨Nat.le_of_lt young, hgp _, hga⟩
    · have I5 := inv_wake K2 hL4 hcl' W
      have hb : s2.heap.objs.size < γ2.s.heap.objs.size := Heap.lt_size (W.pin _ List.mem_cons_self).1
      refine gseg_func fun Jf => ?_
      refine hYJ.run X.A.in1 _ γ2 _ [] _ Jf id id γ2.s _ γ2.G γ2.H [] ⟨fun p hp => (by cases hp), over_func, rfl, rfl, rfl⟩ ⟨I5, Tr.refl (Hs.nil W.sub), (sl_start pr2).mono W.same, rfl, hγ, Nat.le_of_lt hb⟩ fun n6 γ6 s6 σ6 G6 H6 i6 Γ6 e6 sm6 R6 => ?_
      refine gseg_end (.ok (.ret .none)) ⟨rfl, R6.inv.os, R6.inv.bare, by rw [R6.at_]; exact e6, G6, H6, R6.tr, R6.inv.base, R6.inv.hok⟩
  exact main _ _ _ _ rfl rfl rfl fun h => Heap.get?_push_size _ rfl
end
end Bl
set_option Elab.async false
set_option linter.all false
set_option maxRecDepth 100000
set_option maxHeartbeats 2000000
/-! each_group, least_groups -/
namespace Bl
open PySem PySem.Spec PyProof.Rows L2
section
variable {X : Cx} {a b e tg : Expr} {Γ : Gm} {Δ Δ1 Δ2 Δ' : Cs} {pos p : Pos} {i j : Int}
theorem je_min2 (hc : X.calm = true) (hm : X.mg "min" = none) (ha : JE X Δ Γ a (D X.K (.int i)) Δ1) (hb : JE X Δ1 Γ b (D X.K (.int j)) Δ2) (hg : Gl X "min" := by rfl) (he : starEach [a, b] X.env = (false, eval a X.env) :: starEach [b] X.env := by rfl) (he2 : starEach [b] X.env = (false, eval b X.env) :: starEach [] X.env := by rfl)
    (hpl : (backTo pos (starEach [b] X.env)).any (·.1) = false := by rfl) : JE X Δ Γ (.Call (.Name "min" p) [a, b] [] pos) (D X.K (.int (if j < i then j else i))) Δ2 :=
  je_callB (call_min2 hc) hm boot_minB (ja_cons ha (ja_cons hb ja_nil he2) he) (fun xs G H Q sg ps q => by
    obtain ⟨u, v, rfl, pu, pv⟩ := paired2 ps
    cases pu.1
    cases pv.1
    exact ⟨i, j, rfl, q _ G H (Up.refl sg) (d_int _)⟩) hg (he := he) (hpl := hpl)
theorem ji_rng2 {n : Nat} {lo : Nat} (hm : X.mg "range" = none) (ha : JE X Δ Γ a (D X.K (.int lo)) Δ1) (hb : JE X Δ1 Γ b (D X.K (.int ((lo : Int) + n))) Δ2) (hn : lo + n ≤ sizeLine) (hg : Gl X "range" := by rfl) (hs : starEach [a, b] X.env = (false, eval a X.env) :: starEach [b] X.env := by rfl) (hs2 : starEach [b] X.env = [(false, eval b X.env)] := by rfl) :
    JI X tg Δ Γ (.Call (.Name "range" p) [a, b] [] pos) ((List.range n).map fun k : Nat => D X.K (.int ((lo : Int) + (k : Int)))) Δ2 :=
  ji_of (pi_range2 hg hm (ja_cons ha (ja_cons hb ja_nil hs2) hs).use (by rw [hs, hs2]) hs2) fun σ G H R h0 sl q => ⟨G, h0, sl, fun vs G1 H1 t ps => by
    obtain ⟨u, v, rfl, pu, pv⟩ := paired2 ps
    cases pu.1
    cases pv.1
    have hz : (sizeLine : Nat) < 2 ^ 62 := by rw [sizeLine_eq]; decide
    refine ⟨lo, (lo : Int) + n, rfl, by omega, ?_⟩
    have e : (((lo : Int) + n) - lo).toNat = n := by omega
    rw [e]
    exact q _ G1 H1 t (wk_rng (K := X.K) (lo := lo) (n := n) (G0 := G1)) (by simp; omega)⟩
end
theorem at_mid {α : Type} {A B C E : List α} {g : α} : (A ++ (B ++ g :: C) ++ E)[A.length + B.length]? = some g := by
  rw [List.append_assoc, List.append_assoc, List.getElem?_append_right (by omega), show A.length + B.length - A.length = B.length by omega, List.getElem?_append_right (by omega)]
  simp
theorem flat_split {α : Type} {f : Nat → List α} {n k : Nat} (hk : k < n) : ∃ E, (List.range n).flatMap f = (List.range k).flatMap f ++ f k ++ E := by
  obtain ⟨m, rfl⟩ : ∃ m, n = k + 1 + m := ⟨n - (k + 1), by omega⟩
  refine ⟨((List.range m).map (k + 1 + ·)).flatMap f, ?_⟩
  rw [List.range_add, List.range_succ, List.flatMap_append, List.flatMap_append]
  simp
section
variable {P : Program} {w : World} {K : PySem.W.Frag} {mg : Str → Option Value} {base : Heap} {C : Addr}
/-! the generator -/
abbrev N_eg : List Str := ["book", "finds", "most", "rows", "size", "group"]
theorem gs_eg : GScope N_eg ["book", "finds", "most"] (defScope (top 25)) := ⟨rfl, rfl, rfl, by decide +kernel, rfl, by decide +kernel, by decide +kernel⟩
theorem nc_eg : ∀ m y, (cellsFrom m (defScope (top 25)).names []).lookup y = none := fun m y => by
  rw [show cellsFrom m (defScope (top 25)).names [] = [] from rfl]; rfl
abbrev partsK (cs : Copies) (fs : List Find) (k : Nat) : List (List Str) := (BM.partsOf sLt (holders cs) (k + 1)).filter fun g => BM.meetsAll g (clauses cs fs)
def eachG (cs : Copies) (fs : List Find) (most : Nat) : List (List Str) := BM.eachGroup sLt (holders cs) (clauses cs fs) most
theorem eachG_at {cs : Copies} {fs : List Find} {most k j : Nat} {g : List Str} (hk : k < min most (holders cs).length) (hg : (BM.partsOf sLt (holders cs) (k + 1))[j]? = some g) (hp : BM.meetsAll g (clauses cs fs) = true) :
    (eachG cs fs most)[((List.range k).flatMap (partsK cs fs)).length + (((BM.partsOf sLt (holders cs) (k + 1)).take j).filter fun g => BM.meetsAll g (clauses cs fs)).length]? = some g := by
  obtain ⟨E, hE⟩ := flat_split (f := partsK cs fs) hk
  have e : eachG cs fs most = (List.range (min most (holders cs).length)).flatMap (partsK cs fs) := rfl
  rw [e, hE]
  have h1 : BM.partsOf sLt (holders cs) (k + 1) = (BM.partsOf sLt (holders cs) (k + 1)).take j ++ g :: (BM.partsOf sLt (holders cs) (k + 1)).drop (j + 1) := by
    obtain ⟨hj, e⟩ := List.getElem?_eq_some_iff.mp hg
    rw [← e, List.getElem_cons_drop, List.take_append_drop]
  have h2 : partsK cs fs k = ((BM.partsOf sLt (holders cs) (k + 1)).take j).filter (fun g => BM.meetsAll g (clauses cs fs)) ++ g :: ((BM.partsOf sLt (holders cs) (k + 1)).drop (j + 1)).filter (fun g => BM.meetsAll g (clauses cs fs)) := by
    conv => lhs; unfold partsK; rw [h1]
    rw [List.filter_append, List.filter_cons, if_pos hp]
  rw [h2]
  exact at_mid
theorem eg_body (T : Tx K mg) (F : BkF K mg C) {B : GB} (eP : B.P = P) (ew : B.w = w) (eK : B.K = K) (em : B.mg = mg) (eb : B.base = base) (eN : B.N = N_eg) (ok : GBok B) (hr : Room 5 B.A) {ps : List (List Str)} {cs : Copies} {fs : List Find} {most : Nat} (hc : CaseOk cs fs)
    (f : Addr) (cdv : Value) (n0 : Addr) (ee : B.env = envOfC "each_group" (defScope (top 25)) n0 f cdv) (ei : B.items = (eachG cs fs most).map fun g => D K (eS g)) :
    YJ B (defBody (top 25)) 0 [some (Bk K C ps cs), some (D K (eFs fs)), some (D K (.int most)), none, none, none] fun i _ => i = B.items.length := by
  obtain ⟨P', w', K', mg', base', N', env', A', outer', pn', items'⟩ := B
  simp only at eP ew eK em eb eN ee ei hr
  subst eP ew eK em eb eN ee ei
  obtain ⟨pa, g, M, okg⟩ := ok_bh (P := P') (w := w') (base := base') T F
  have hlen : (holders cs).length ≤ 5 := by unfold holders; rw [List.length_map]; exact hc.few
  refine yj_plain (C := fun Γ => Γ = [some (Bk K' C ps cs), some (D K' (eFs fs)), some (D K' (.int most)), some (D K' (eR (clauses cs fs))), none, none]) (fun γ => ?_) fun Γ' e => ?_
  · exact jss_setE (i := 3) (je_callP (ok_cl T F) hr (ja_cons (je_var 0) (ja_cons (je_var 1) ja_nil)) ⟨ps, cs, fs, hc, rfl, rfl⟩) gs_eg.nd (jss_nil ⟨rfl, rfl⟩)
  subst e
  refine yj_for (js := [4]) (vs := (List.range (min most (holders cs).length)).map fun k : Nat => D K' (.int ((1 : Nat) + (k : Int)))) ok (fun γ => ?_) (fun γ => pg_name (i := 4) gs_eg.nd rfl (Or.inl rfl))
    (fun k i Γ => k ≤ min most (holders cs).length ∧ i = ((List.range k).flatMap (partsK cs fs)).length ∧ Γ = [some (Bk K' C ps cs), some (D K' (eFs fs)), some (D K' (.int most)), some (D K' (eR (clauses cs fs))), none, none]) ⟨Nat.zero_le _, rfl, rfl⟩ (fun k r i Γ hk hI => ?_) (fun i Γ hI => ?_) (by intro _; rfl)
  · refine ji_rng2 (lo := 1) (n := min most (holders cs).length) T.f_range je_int ((je_add (je_min2 rfl T.f_min (je_var 2) (je_lenT (ds := (holders cs).map .str) T.f_len (je_prop (F := pm_bh K' C) (ps := ps) (cs := cs) (je_var 0) F.cls M okg (hr.mono (by decide)) ⟨ps, cs, rfl, rfl⟩))) je_int).eq ?_) (by rw [line_eq]; omega)
    rw [List.length_map]
    congr 1
    split <;> omega
  · obtain ⟨hkn, rfl, rfl⟩ := hI
    obtain ⟨k', hk', rfl⟩ := at_map hk
    obtain ⟨hlt, e⟩ := List.getElem?_eq_some_iff.mp hk'
    rw [List.length_range] at hlt
    rw [List.getElem_range] at e
    subst e
    refine ⟨_, tg_name 4, ?_⟩
    refine yj_for (js := [5]) (vs := (BM.partsOf sLt (holders cs) (k + 1)).map fun g => D K' (eS g)) ok (fun γ => ?_) (fun γ => pg_name (i := 5) gs_eg.nd rfl (Or.inl rfl))
      (fun j i Γ => i = ((List.range k).flatMap (partsK cs fs)).length + (((BM.partsOf sLt (holders cs) (k + 1)).take j).filter fun g => BM.meetsAll g (clauses cs fs)).length ∧ Γ = [some (Bk K' C ps cs), some (D K' (eFs fs)), some (D K' (.int most)), some (D K' (eR (clauses cs fs))), some (D K' (.int ((1 : Nat) + (k : Int)))), none]) ⟨by simp, rfl⟩ (fun j r i Γ hj hI => ?_) (fun i Γ hI => ?_) (by intro _; rfl)
    · refine ji_Le (je_callP (ok_po T) (hr.mono (by decide)) (ja_cons (je_prop (F := pm_bh K' C) (ps := ps) (cs := cs) (je_var 0) F.cls M okg (hr.mono (by decide)) ⟨ps, cs, rfl, rfl⟩) (ja_cons ((je_var 4 (r := D K' (.int ((1 : Nat) + (k : Int))))).eq ?_) ja_nil)) ⟨holders cs, k + 1, by omega, by omega, rfl, rfl⟩)
      congr 1
      omega
    · obtain ⟨rfl, rfl⟩ := hI
      obtain ⟨g, hg, rfl⟩ := at_map hj
      have htk := take_succ hg
      refine ⟨_, tg_name 5, yj_if (bb := BM.meetsAll g (clauses cs fs)) (fun γ => jb_val (je_callP (ok_mall T) (hr.mono (by decide)) (ja_cons (je_var 5) (ja_cons (je_var 3) ja_nil)) ⟨g, clauses cs fs, rfl, rfl⟩)) (fun hb => ?_) fun hb => ?_⟩
      · refine yj_yield ok (r := D K' (eS g)) (fun γ => je_var 5) ?_ (yj_nil (yj_nil ⟨[_, _, _, _, _, none], .keep (.keep (.keep (.keep (.keep (.drop .nil))))), ?_, rfl⟩))
        · show (List.map _ _)[_]? = _
          rw [List.getElem?_map, eachG_at hlt hg hb]
          rfl
        · rw [htk, List.filter_append, List.length_append]
          simp [hb]
          omega
      · refine yj_nil (yj_nil ⟨[_, _, _, _, _, none], .keep (.keep (.keep (.keep (.keep (.drop .nil))))), ?_, rfl⟩)
        rw [htk, List.filter_append, List.length_append]
        simp [hb]
    · obtain ⟨rfl, rfl⟩ := hI
      refine yj_nil ⟨[_, _, _, _, none, none], .keep (.keep (.keep (.keep (.drop (.keep .nil))))), hlt, ?_, rfl⟩
      rw [List.length_map, List.take_length, List.range_succ, List.flatMap_append, List.length_append]
      simp
  · obtain ⟨_, rfl, rfl⟩ := hI
    refine yj_nil ?_
    rw [List.length_map, List.length_range]
    show _ = (List.map _ (eachG cs fs most)).length
    rw [List.length_map]
    rfl
/-! least_groups -/
abbrev N_lg : List Str := ["book", "finds", "most", "found", "group", "one"]
theorem sc_lg : FnScope N_lg ["book", "finds", "most"] (defScope (top 26)) := ⟨rfl, rfl, rfl, by decide +kernel, rfl, by decide +kernel, by decide +kernel⟩
theorem leastStep_len {α : Type} [DecidableEq α] (F : List (List α)) (g : List α) : (BM.leastStep F g).length ≤ F.length + 1 := by
  unfold BM.leastStep
  split
  · omega
  · simp
theorem leastFold_len {α : Type} [DecidableEq α] : ∀ (gs F : List (List α)), (gs.foldl BM.leastStep F).length ≤ F.length + gs.length
  | [], F => by simp
  | g :: gs, F => by
    have h1 := leastFold_len gs (BM.leastStep F g)
    have h2 := leastStep_len F g
    rw [List.foldl_cons, List.length_cons]
    omega
theorem each_len {cs : Copies} {fs : List Find} (hc : CaseOk cs fs) (most : Nat) : (eachG cs fs most).length ≤ 163840 := by
  have hlen : (holders cs).length ≤ 5 := by unfold holders; rw [List.length_map]; exact hc.few
  have h := flatMap_le (f := partsK cs fs) (n := 32768) (l := List.range (min most (holders cs).length)) fun k hk => by
    have hk := List.mem_range.mp hk
    refine Nat.le_trans (List.length_filter_le _ _) (Nat.le_trans (parts_len (holders cs) (by omega) (k + 1)) ?_)
    exact Nat.le_trans (Nat.pow_le_pow_right (by decide) (show k + 1 ≤ 5 by omega)) (by decide)
  rw [List.length_range] at h
  exact Nat.le_trans h (by omega)
theorem ok_lg (T : Tx K mg) (F : BkF K mg C) : OkLg P w K mg base C :=
  okk_of T.d_least_groups sc_lg (fun _ _ _ _ _ _ us ws h1 h2 => match us, ws, h1, h2 with | [_, _], [_], _, _ => rfl) (fun rs Δ r Δ' ⟨_, _, _, _, _, _, _, e, _⟩ => by rw [e]; rfl) fun f cdv A outer s H E rs Δ r Δ' hr hp => by
    obtain ⟨rfl, rfl, ps, cs, fs, most, hc, rfl, rfl⟩ := hp
    have hE := each_len hc most
    refine jss_set (i := 3) (jas_e (jx_newl (ds := []) ja_nil) sc_lg.nd) ?_
    rintro r1 Δ1 ⟨p, rfl, rfl⟩
    refine jss_forG (js := [4]) rfl hr.depth rfl
      (jg_callK (k := 5) (n := 2) (rs := [Bk K C ps cs, D K (eFs fs)]) (r2 := D K (.int most)) (items := (eachG cs fs most).map fun g => D K (eS g)) T.d_each_group gs_eg nc_eg (fun _ _ _ _ _ _ us ws h1 h2 => match us, ws, h1, h2 with | [_, _], [_], _, _ => rfl) (fun f2 cdv2 n2 pn hr2 hpn => ?_) (hr.mono (by decide)) (ja_cons (je_var 0) (ja_cons (je_var 1) ja_nil)) (je_var 2))
      (pg_name (i := 4) sc_lg.nd rfl (by first | exact Or.inl rfl | exact Or.inr rfl))
      (fun i Δ Γ => Δ = [(p, LC K ((((eachG cs fs most).take i).foldl BM.leastStep []).map eS))] ∧ Γ = [some (Bk K C ps cs), some (D K (eFs fs)), some (D K (.int most)), some (VV (.ref p)), none, none]) ⟨rfl, rfl⟩ (fun i r Δ Γ hr' hI => ?_) fun Δ Γ hI => ?_
    · exact eg_body T F rfl rfl rfl rfl rfl rfl ⟨hpn, fun y => nc_eg (n2 + 1) y, rfl, rfl⟩ hr2 hc f2 cdv2 n2 rfl rfl
    · obtain ⟨rfl, rfl⟩ := hI
      obtain ⟨g, hg, rfl⟩ := at_map hr'
      have htk := take_succ hg
      have hil := (List.getElem?_eq_some_iff.mp hg).1
      have hfl := leastFold_len ((eachG cs fs most).take i) []
      rw [List.length_take] at hfl
      have hnx : ((eachG cs fs most).take (i + 1)).foldl BM.leastStep [] = BM.leastStep (((eachG cs fs most).take i).foldl BM.leastStep []) g := by rw [htk, List.foldl_append]; rfl
      generalize ((eachG cs fs most).take i).foldl BM.leastStep [] = Fd at hfl hnx ⊢
      refine ⟨_, tg_name 4, ?_⟩
      refine jss_ifB (Δ1 := [(p, LC K (Fd.map eS))]) (bb := !(Fd.any fun f => BM.isPart f g)) (jb_not (jb_val (je_pub (p := p) 3 0 rfl rfl (je_anyF (l := Fd) (q := fun f => BM.isPart f g) rfl T.f_any
        (je_map (js := [5]) (own := [("one", 5)]) rfl sc_lg.nd (ji_Le (je_var 3)) (blkOk_by (N := N_lg) (sc := defScope (top 26)) (by decide +kernel)) (fun _ _ _ _ _ => pg_name (i := 5) sc_lg.nd rfl (Or.inl rfl)) (fun a _ => tg_name 5) (fun _ h => h) fun f _ _ _ _ _ _ =>
          je_callP (ok_ipo T) (hr.mono (by decide)) (ja_cons (je_var 5) (ja_cons (je_var 4) ja_nil)) ⟨f, g, rfl, rfl⟩))))) (fun hb => ?_) fun hb => ?_
      · refine jss_app (Δ1 := [(p, LC K (Fd.map eS))]) (i := 0) (j := 0) (j0 := 0) (p := p) (d := eS g) (ds0 := Fd.map eS) (ds := Fd.map eS) (je_var 3) rfl (je_var 4) rfl ?_ (jss_nil (jss_nil ⟨[_, _, _, _, none, none], .keep (.keep (.keep (.keep (.drop (.keep .nil))))), ?_, rfl⟩))
        · rw [List.length_map, line_eq]
          simp at hfl
          omega
        · have e : BM.leastStep Fd g = Fd ++ [g] := by
            unfold BM.leastStep
            rw [if_neg (by simpa using hb)]
          rw [hnx, e, List.map_append]
          rfl
      · refine jss_nil (jss_nil ⟨[_, _, _, _, none, none], .keep (.keep (.keep (.keep (.drop (.keep .nil))))), ?_, rfl⟩)
        have e : BM.leastStep Fd g = Fd := by
          unfold BM.leastStep
          rw [if_pos (by simpa using hb)]
        rw [hnx, e]
    · obtain ⟨rfl, rfl⟩ := hI
      refine jss_pub (p := p) 3 0 rfl rfl ?_
      rw [List.length_map, List.take_length]
      exact jss_ret ((je_tupleL (ds := (groupsOf cs fs most).map eS) T.f_tuple (je_sortC (l := (eachG cs fs most).foldl BM.leastStep []) (hu4 hr) T.f_sorted (je_var 3)))) fnO_rt
end
end Bl
set_option Elab.async false
set_option linter.all false
set_option maxRecDepth 100000
set_option maxHeartbeats 2000000
/-! a lambda with parameters: made, called; min(xs, key = it) -/
namespace Bl
open PySem PySem.Spec PyProof.Rows L2 LamX NdefX
/-- the lambda's object at f (F's body is not looked at) -/
def LmO (f : Addr) (F : NF) (be : Expr) : HO := .ext fun h => ∃ (od : Option Addr) (sl : Array (Option Value)) (pm ctv : Value), h.get? f = some (⟨.type "function", od, .func (PySem.W.kla_fn F.name F.qual F.params be F.scope F.cl pm (.ref F.c) ctv), sl⟩ : Obj)
theorem lmO_at {P : Program} {w : World} {H : Hp} {h : Heap} {f : Addr} {F : NF} {be : Expr} (hok : HOk P w H h) (e : H f = some (LmO f F be)) : ∃ (od : Option Addr) (sl : Array (Option Value)) (pm ctv : Value), h.get? f = some (⟨.type "function", od, .func (PySem.W.kla_fn F.name F.qual F.params be F.scope F.cl pm (.ref F.c) ctv), sl⟩ : Obj) := (hok f _ e).1
theorem lmO_new {P : Program} {w : World} {H : Hp} {h : Heap} {f : Addr} {F : NF} {be : Expr} (q : ∃ (od : Option Addr) (sl : Array (Option Value)) (pm ctv : Value), h.get? f = some (⟨.type "function", od, .func (PySem.W.kla_fn F.name F.qual F.params be F.scope F.cl pm (.ref F.c) ctv), sl⟩ : Obj)) : ObjOk P w H h f (LmO f F be) := by
  obtain ⟨od, sl, pm, ctv, ho⟩ := id q
  exact ⟨q, ⟨_, ho⟩, fun h1 h2 ⟨od, sl, pm, ctv, e⟩ k => ⟨od, sl, pm, ctv, k _ e⟩⟩
section
variable {P : Program} {w : World} {K : PySem.W.Frag} {mg : Str → Option Value} {base : Heap} {N ps fr : List Str} {F : NF} {f : Addr} {be : Expr} {k : Nat} {A : Around} {outer : List Env} {s : Shared} {H : Hp} {E : XK} {us : List Value} {vs : List V} {ws : List (Option V)} {Q : VK}
theorem lam_run (S : NScope N ps fr F.scope) (hb : ∀ (pm ctv : Value) (us : List Value), us.length = ps.length → bindArgs (PySem.W.kla_fn F.name F.qual F.params be F.scope F.cl pm (.ref F.c) ctv) ⟨us, []⟩ = pure (ps.zip us))
    (hr : Room (k + 1) A) (e0 : Env0 P w K mg base A outer s H) (hf : H f = some (LmO f F be)) (hc : H F.c = some (CodeO F.c F.qual)) (C : CellsAt F.cl fr ws s.heap H) (r : Vals vs us) (hl : vs.length = ps.length)
    (hbody : Room k (A.deeper (envF F f s.heap.objs.size)) → ∃ te, PE (ncx CX0 P w K mg base N F f A outer s H E) be te ∧ te (startF N vs ws) H Q) :
    codeAny (model P w) A (.call (.ref f) ⟨us, []⟩) (CR CX0 outer P w H s Q E) s := by
  have lim : s.heap.NoLimit := e0.mod.nolimit.keeps fun b o e => (e0.bs b o e).1
  obtain ⟨od, sl, pm, ctv, ho⟩ := lmO_at e0.hok hf
  refine PySem.W.kla_callFunE hr.depth ho rfl S.co S.gen rfl (codeO_at e0.hok hc) ?_
  rw [hb pm ctv us (by rw [← r.length]; exact hl)]
  refine wpAny_pure (wpAny_newFunctionEnv S.nocell (fun ⟨n, _⟩ hy => S.par n (List.of_mem_zip hy).1) (fun h₁ hns hsb => ⟨lim.fresh _ hsb, ?_⟩) S.kind)
  show codeAny _ _ (.expr be (envF F f s.heap.objs.size)) _ _
  refine PySem.W.kla_codeExpr ?_
  have kp : ∀ b o, s.heap.get? b = some o → h₁.get? b = some o := fun b o e => hsb.extBut b o (Nat.ne_of_lt (Heap.lt_size e)) (Heap.get?_push_of_some _ e)
  obtain ⟨te, ht, hq⟩ := hbody (hr.deeper _)
  have I : Inv (ncx CX0 P w K mg base N F f A outer s H E) [] (startF N vs ws) H { s with heap := h₁, toks := s.toks + (ps.zip us).length } := inv_startN S hr.hd e0 hl r C hns kp
  refine wpAny_mono (ht.run [] _ (startF N vs ws) H _ I hq) (fun u s' ⟨v, H', J, rv, q⟩ => ?_) fun e s' hs => hs
  exact ⟨v, H', J.os, J.bare, J.base, J.hok, rv, q⟩
end
/-! ### its making: the table of the maker's code object is a cell -/
def TbC (q : Str) : Cl := ⟨fun G o => ∃ ps : Array Value, o = .tbl ps ∧ TriplesOk ps.toList ∧ ∀ (pos : Pos) (cv : Value), codeAmong pos ps.toList = some cv → ∃ c, cv = .ref c ∧ G c = some (CodeO c q), fun e ⟨ps, h1, h2, h3⟩ => ⟨ps, h1, h2, fun pos cv h => by
  obtain ⟨c, e1, e2⟩ := h3 pos cv h
  exact ⟨c, e1, e _ _ e2⟩⟩⟩
/-- a value that is such a lambda -/
def LamV (mk : Addr → NF) (be : Expr) : SV := ⟨fun v H => ∃ f c', v = .ref f ∧ H f = some (LmO f (mk c') be) ∧ H c' = some (CodeO c' (mk c').qual), fun e ⟨f, c', h1, h2, h3⟩ => ⟨f, c', h1, e _ _ h2, e _ _ h3⟩⟩
theorem upd_comm {H : Hp} {a b : Addr} {o u : HO} (h : a ≠ b) : upd (upd H a o) b u = upd (upd H b u) a o := by
  funext x
  unfold upd
  by_cases e1 : x = b
  · subst e1
    rw [if_pos rfl, if_neg (fun z => h z.symm), if_pos rfl]
  · rw [if_neg e1]
    by_cases e2 : x = a
    · rw [if_pos e2, if_pos e2]
    · rw [if_neg e2, if_neg e2, if_neg e1]
section
variable {X : Cx} {Γ : Gm} {Δ : Cs}
def lamNF (X : Cx) (params : Arguments) (scope : Scope) (c' : Addr) : NF := ⟨"<lambda>", X.env.qual ++ "<lambda>", params, [], scope, cloFrom X.env.cells scope.names [], c'⟩
theorem je_lam {params : Arguments} {be : Expr} {scope : Scope} {pos : Pos} {j : Nat} {c P : Addr} (TB : TabB X.base X.mg c P) (hcode : X.env.code = .ref c) (hj : Δ[j]? = some (P, TbC (X.env.qual ++ "<lambda>"))) (hdef : defaultsOf params X.env = ([], []))
    (hfree : ∀ y ∈ scope.names, y.2 = .free → X.env.scope.names.lookup y.1 = some .cell ∨ X.env.scope.names.lookup y.1 = some .free) : JE X Δ Γ (.Lambda params be scope pos) (LamV (lamNF X params scope) be) Δ := ⟨fun pins s σ G H I hs sl => by
  obtain ⟨hG, o, hP, ps, rfl, ht, ha⟩ := hs.cell _ (List.mem_of_getElem? hj)
  have hfr : ∀ y ∈ scope.names, y.2 = .free → ∃ c, X.env.cells.lookup y.1 = some c := fun y hy e => (hfree y hy e).elim (fun z => I.ok.has _ (.inl z)) fun z => I.ok.has _ (.inr z)
  refine PySem.W.kla_eval hdef ?_
  have bP : s.heap.BuiltinsAt X.mg P := TB.bm.keeps I.bk
  have hP' : s.heap.get? P = some { cls := .none, data := .fields ps } := I.hok P _ hP
  cases hc : codeAmong pos ps.toList with
  | none =>
    refine PySem.W.kla_makeFunction (mg := X.mg) (c := c) (P := P) (ps := ps) (closure_ok hfr) I.ok.glob (I.mod.glob.keeps I.bk) hcode (TB.code.keeps I.bk) hP' ht hc TB.gP bP fun c' ctv h' tk hx hge hlt hrec htb => ?_
    obtain ⟨c2, oc, vs, t, e2, hoc, hd, hv⟩ := hrec
    cases e2
    have hsz : s.heap.objs.size ≤ h'.objs.size := Nat.le_trans hge (Nat.le_of_lt hlt)
    have nC : H c' = none := I.hok.fresh hge
    have nF : H h'.objs.size = none := I.hok.fresh hsz
    have n1 : h'.objs.size ≠ c' := Nat.ne_of_gt hlt
    have n2 : h'.objs.size ≠ P := Nat.ne_of_gt (Nat.lt_of_lt_of_le (Heap.lt_size hP') hsz)
    have n3 : P ≠ c' := ne_of_none hP nC
    have I1 := inv_table (t' := tk) (more := #[rawInt pos.line, rawInt pos.col, .ref c']) (h' := h'.push (PySem.W.kla_obj "<lambda>" (X.env.qual ++ "<lambda>") params be scope (cloFrom X.env.cells scope.names []) ((X.mg "__name__").getD .none) c' ctv)) I hP
      (fun b o hb e => Heap.get?_push_of_some _ (hx b o hb e)) (Heap.get?_push_of_some _ htb) hge ⟨oc, vs, t, Heap.get?_push_of_some _ hoc, hd, hv⟩
    have nF1 : (upd (upd H P (.tbl (ps ++ #[rawInt pos.line, rawInt pos.col, .ref c']))) c' (CodeO c' (X.env.qual ++ "<lambda>"))) h'.objs.size = none := by rw [upd_ne n1, upd_ne n2]; exact nF
    have I2 := I1.take (o := LmO h'.objs.size (lamNF X params scope c') be) (t' := tk) (fun b ob _ e => e) (I.fpOk hsz nF1) (lmO_new ⟨none, #[], (X.mg "__name__").getD .none, ctv, Heap.get?_push_size _ rfl⟩)
    have t1 := (Up.new (o := CodeO c' (X.env.qual ++ "<lambda>")) hs.sub nC).up0 hs
    have eL : (ps ++ #[rawInt pos.line, rawInt pos.col, .ref c']).toList = ps.toList ++ [rawInt pos.line, rawInt pos.col, .ref c'] := by simp
    have t2 := Tr.put (C' := TbC (X.env.qual ++ "<lambda>")) (o := .tbl (ps ++ #[rawInt pos.line, rawInt pos.col, .ref c'])) t1.hs hj ⟨_, rfl, by rw [eL]; exact PySem.TriplesOk_snoc _ _ _ _ ht, fun p' cv hcv => by
      rw [eL] at hcv
      rcases among_app _ ht hcv with z | z
      · obtain ⟨c0, e1, e2⟩ := ha p' cv z
        exact ⟨c0, e1, t1.up _ _ e2⟩
      · exact ⟨c', z, upd_same⟩⟩
    rw [set_self hj, upd_comm (fun z => n3 z.symm)] at t2
    have t3 := (Up.new (o := LmO h'.objs.size (lamNF X params scope c') be) t2.hs.sub nF1).up0 t2.hs
    exact ⟨.ref h'.objs.size, _, I2, rfl, _, (t1.trans t2).trans t3, h'.objs.size, c', rfl, upd_same, by rw [upd_ne (fun z => n1 z.symm)]; exact upd_same⟩
  | some cv =>
    obtain ⟨c', e, hco⟩ := ha pos cv hc
    subst e
    refine PySem.W.kla_makeFunctionHit (mg := X.mg) (c := c) (P := P) (ps := ps) (closure_ok hfr) I.ok.glob (I.mod.glob.keeps I.bk) hcode (TB.code.keeps I.bk) hP' ht hc bP fun ctv h' tk hx hsz => ?_
    have nF : H h'.objs.size = none := I.hok.fresh hsz
    have I2 := I.laid (t' := tk) (o := LmO h'.objs.size (lamNF X params scope c') be) (fun b o e => Heap.get?_push_of_some _ (hx b o e)) hsz (lmO_new ⟨none, #[], (X.mg "__name__").getD .none, ctv, Heap.get?_push_size _ rfl⟩)
    have t3 := (Up.new (o := LmO h'.objs.size (lamNF X params scope c') be) hs.sub nF).up0 hs
    exact ⟨.ref h'.objs.size, _, I2, rfl, _, t3, h'.objs.size, c', rfl, upd_same, by rw [upd_ne (ne_of_none hco (none_of_sub hs.sub nF))]; exact hco⟩⟩
end
end Bl
set_option Elab.async false
set_option linter.all false
set_option maxRecDepth 100000
set_option maxHeartbeats 2000000
/-! min(xs, key = f): some item of xs -/
namespace Bl
open PySem PySem.Spec PyProof.Rows L2
section
variable {X : Cx} {pins : List (Addr × Obj)} {σ : L2.St} {Δ : Cs} {G H : Hp} {S I l q : Addr} {xs : List V} {f : Value} {kd : Nat → PyData}
/-- the key function's promise at the i-th item -/
def MinTurn (X : Cx) (pins : List (Addr × Obj)) (σ : L2.St) (Δ : Cs) (G H : Hp) (xs : List V) (f : Value) (kd : Nat → PyData) : Prop :=
  ∀ (i : Nat) (x : V) (u : Value) (s1 : Shared) (H1 G1 : Hp) (Q : Value → Shared → Prop) (E : Value → Shared → Prop), xs[i]? = some x → RelV x u → Inv X pins σ H1 s1 → Tr Δ G H Δ G1 H1 →
    (∀ k s2 H2 G2 kv, Inv X pins σ H2 s2 → Tr Δ G H Δ G2 H2 → Same G1 G2 → Un (frs X.stack) [] H1 H2 s1.heap s2.heap → RelV kv k → Dp X.K G2 kv (kd i) → Q k s2) → wpAny (model X.prog X.w) X.A.in1 (call f [u]) Q E s1
theorem fp_un {s1 s2 : Shared} {H1 H2 : Hp} {b : Addr} {o : Obj} (J : Inv X pins σ H1 s1) (F : FpOk X pins H1 b) (hb : s1.heap.get? b = some o) (un : Un (frs X.stack) [] H1 H2 s1.heap s2.heap) : FpOk X pins H2 b ∧ s2.heap.get? b = some o :=
  ⟨⟨un.free b o hb F.1 (by simp), F.2⟩, un.keep b o hb F.1 (fun z => (List.mem_cons.mp (J.stkSub b z)).elim F.2.1 F.2.2.1) (by simp)⟩
theorem min_loop (hh : X.A.handled = none) (hu : ∀ i j, i < xs.length → j < xs.length → PySem.W.alike (kd i) (kd j) = true ∧ kd i ≠ .none ∧ X.A.units + 1 + (kd i).depth < cLine) (hl : SqL X.K G l xs) (hSI : S ≠ I) (hlI : l ≠ I) (hlS : l ≠ S) (turn : MinTurn X pins σ Δ G H xs (.ref q) kd)
    {R : Result → Shared → Prop} (hR : ∀ (i : Nat) (x : V) (u : Value) (s2 : Shared) (H2 G2 : Hp), xs[i]? = some x → RelV x u → Inv X pins σ H2 s2 → Tr Δ G H Δ G2 H2 → R (.ok (.ret u)) s2) :
    ∀ (r j i : Nat) (s1 : Shared) (H1 G1 : Hp) (vb kb : Value) (xb kv : V) (c : Nat), xs.length - j = r → j ≤ xs.length → Inv X pins σ H1 s1 → Tr Δ G H Δ G1 H1 → FpOk X pins H1 S → FpOk X pins H1 I → s1.heap.get? S = some (seqObj "list" #[vb, kb] c) → s1.heap.IsListIter I l j →
      xs[i]? = some xb → RelV xb vb → RelV kv kb → Dp X.K G1 kv (kd i) → codeAny (model X.prog X.w) X.A (.builtin "min.loop" ⟨[.ref I, .ref q, .ref S], []⟩) R s1 := by
  have hname : (toString "min" ++ toString ".loop" : String) = "min.loop" := by decide
  intro r
  induction r with
  | zero =>
    intro j i s1 H1 G1 vb kb xb kv c hr hj J t fS fI hS hit hxi rb rk dk
    obtain rfl : j = xs.length := by omega
    obtain ⟨its, rv, pl, hz⟩ := J.list (sql_same t.hs.sub (sql_same t.up hl))
    have hn : its.toArray.size = xs.length := by rw [List.size_toArray, rv.length]
    have W := Walks.list (prog := X.prog) (w := X.w) (A := X.A.in1) hh I l hlI its.toArray
    refine codeAny_builtin PySem.F.entry_min_loop ?_
    rw [Around.under_plainId PySem.F.plain_min_loop _]
    show wpAny _ X.A.in1 (seqItems? (.ref S) >>= _) _ _ _
    refine wpAny_bind (wpAny_seqItems hS rfl ?_)
    show wpAny _ X.A.in1 (tryCatch (pyNext (.ref I)) _ >>= _) _ _ _
    refine wpAny_bind (wpAny_tryCatch (W.done _ _ _ ⟨by rw [hn]; exact hit, pl.isList⟩ fun h' tk' hk' => ?_))
    have J1 := J.turned (h' := h') (t' := tk') (fun b o hb e => hk' b o (by simpa using hb) e) fI.1 fI.2.1 fI.2.2.2.1 fI.2.2.2.2.1 fI.2.2.2.2.2
    have hS' := hk' S _ (by simpa using hSI) hS
    show wpAny _ X.A.in1 (updateSeq S (fun _ => #[]) >>= _) _ _ _
    refine wpAny_bind (wpAny_updateSeq hS' rfl (wpAny_bind (wpAny_letGo (wpAny_pure ?_))))
    have sb := Heap.SameBut.update h' S (Obj.mapSeq fun _ => (#[] : Array Value))
    exact hR i xb vb _ H1 G1 hxi rb (J1.turned (t' := tk') (fun b o hb e => (sb.2 b hb).trans e) fS.1 fS.2.1 fS.2.2.2.1 fS.2.2.2.2.1 fS.2.2.2.2.2) t
  | succ r ih =>
    intro j i s1 H1 G1 vb kb xb kv c hr hj J t fS fI hS hit hxi rb rk dk
    have hlt : j < xs.length := by omega
    obtain ⟨its, rv, pl, hz⟩ := J.list (sql_same t.hs.sub (sql_same t.up hl))
    have hn : its.toArray.size = xs.length := by rw [List.size_toArray, rv.length]
    have W := Walks.list (prog := X.prog) (w := X.w) (A := X.A.in1) hh I l hlI its.toArray
    refine codeAny_builtin PySem.F.entry_min_loop ?_
    rw [Around.under_plainId PySem.F.plain_min_loop _]
    show wpAny _ X.A.in1 (seqItems? (.ref S) >>= _) _ _ _
    refine wpAny_bind (wpAny_seqItems hS rfl ?_)
    show wpAny _ X.A.in1 (tryCatch (pyNext (.ref I)) _ >>= _) _ _ _
    refine wpAny_bind (wpAny_tryCatch (W.item j _ _ _ (by rw [hn]; exact hlt) ⟨hit, pl.isList⟩ fun v h' tk' hP hst' hk' => ?_))
    have hxj : xs[j]? = some xs[j] := List.getElem?_eq_getElem hlt
    obtain ⟨u, hu1, ru⟩ := rv.get hxj
    have hv : v = u := by
      have e : its[j]? = some v := by simpa using hP
      rw [hu1] at e
      exact (Option.some.inj e).symm
    subst hv
    have J1 := J.turned (h' := h') (t' := tk') (fun b o hb e => hk' b o (by simpa using hb) e) fI.1 fI.2.1 fI.2.2.2.1 fI.2.2.2.2.1 fI.2.2.2.2.2
    have hS' := hk' S _ (by simpa using hSI) hS
    obtain ⟨oI, hoI, hoc, hod⟩ := id hst'.1
    show wpAny _ X.A.in1 (tryCatch (holding [v] (call (.ref q) [v])) _ >>= _) _ _ _
    refine wpAny_bind (wpAny_tryCatch (wpAny_holding (turn j xs[j] v _ H1 G1 _ _ hxj ru J1 t fun k s2 H2 G2 kv2 J2 t2 sg un rk2 dk2 => ?_)))
    obtain ⟨fS2, hS2⟩ := fp_un J1 fS hS' un
    obtain ⟨fI2, hI2⟩ := fp_un J1 fI hoI un
    have hit2 : s2.heap.IsListIter I l (j + 1) := ⟨oI, hI2, hoc, hod⟩
    have hil := (List.getElem?_eq_some_iff.mp hxi).1
    obtain ⟨al, nn, hd⟩ := hu j i hlt hil
    obtain ⟨as, ra⟩ := Dp.reads J2 _ kv2 k (dp_same t2.hs.sub dk2) rk2
    obtain ⟨bs, rb'⟩ := Dp.reads J2 _ kv kb (dp_same (sg.trans t2.hs.sub) dk) rk
    show wpAny _ X.A.in1 (tryCatch (holding [v, k] (richCompare .Lt k kb >>= _)) _ >>= _) _ _ _
    refine wpAny_bind (wpAny_tryCatch (wpAny_holding (wpAny_bind (PySem.W.rcLt_alike (kd j) (kd i) X.A.in1 s2 k kb as bs ra rb' al nn (by have := Nat.min_le_left (kd j).depth (kd i).depth; show X.A.units + 1 + _ < _; omega) _ _ _ _ ?_))))
    refine wpAny_bind (wpAny_holding (wpAny_truthy_bool ?_))
    refine wpAny_bind (wpAny_letGo (wpAny_pure ?_))
    cases hb : PySem.W.dataLt (kd j) (kd i) with
    | true =>
      simp only [if_true]
      have sb := Heap.SameBut.update s2.heap S (Obj.mapSeq fun _ => #[v, k])
      obtain ⟨c2, hc2⟩ : ∃ c2, (s2.heap.update S (Obj.mapSeq fun _ => #[v, k])).get? S = some (seqObj "list" #[v, k] c2) := ⟨_, get?_update_seq hS2 fun _ => #[v, k]⟩
      refine wpAny_bind (wpAny_updateSeq hS2 rfl (wpAny_bind (wpAny_letGo ?_)))
      rw [hname]
      exact wpAny_pure ⟨plainId_quiet PySem.F.plain_min_loop _, ih (j + 1) j _ H2 G2 v k xs[j] kv2 c2 (by omega) hlt (J2.turned (t' := s2.toks) (fun b o hb e => (sb.2 b hb).trans e) fS2.1 fS2.2.1 fS2.2.2.2.1 fS2.2.2.2.2.1 fS2.2.2.2.2.2) t2 fS2 fI2 hc2 ⟨oI, (sb.2 I hSI.symm).trans hI2, hoc, hod⟩ hxj ru rk2 dk2⟩
    | false =>
      simp only [Bool.false_eq_true, if_false]
      refine wpAny_bind (wpAny_letGo ?_)
      rw [hname]
      exact wpAny_pure ⟨plainId_quiet PySem.F.plain_min_loop _, ih (j + 1) i s2 H2 G2 vb kb xb kv c (by omega) hlt J2 t2 fS2 fI2 hS2 hit2 hxi rb rk (dp_same sg dk)⟩
/-- the call -/
theorem min_call (hh : X.A.handled = none) (hu : ∀ i j, i < xs.length → j < xs.length → PySem.W.alike (kd i) (kd j) = true ∧ kd i ≠ .none ∧ X.A.units + 1 + (kd i).depth < cLine) (hl : SqL X.K G l xs) (hne : 0 < xs.length)
    {s : Shared} {E : Value → Shared → Prop} {Q : Value → Shared → Prop} (J : Inv X pins σ H s) (hs : Hs Δ G H) (turn : MinTurn X pins σ Δ G H xs (.ref q) kd)
    (hR : ∀ (i : Nat) (x : V) (u : Value) (s2 : Shared) (H2 G2 : Hp), xs[i]? = some x → RelV x u → Inv X pins σ H2 s2 → Tr Δ G H Δ G2 H2 → Q u s2) : wpAny (model X.prog X.w) X.A (call (.builtin "min") [.ref l] [(Str.ofString "key", .ref q)]) Q E s := by
  have hname : (toString "min" ++ toString ".loop" : String) = "min.loop" := by decide
  obtain ⟨its, rv, pl, hz⟩ := J.list (sql_same hs.sub hl)
  have hn : its.toArray.size = xs.length := by rw [List.size_toArray, rv.length]
  have hls := pl.isList
  obtain ⟨ol, hol, _⟩ := id hls
  have hll : l < s.heap.objs.size := Heap.lt_size hol
  refine kmk_tree PySem.F.kind_min PySem.F.plain_min PySem.F.entry_min (kmk_min_key _ _) ?_
  show wpAny _ X.A.in1 (Builtin.Builtins.bindParams "min" ["key", "default"] 0 ⟨[], [(Str.ofString "key", .ref q)]⟩ >>= _) _ _ s
  refine wpAny_bind (wpAny_of_eq (show Builtin.Builtins.bindParams "min" ["key", "default"] 0 ⟨[], [(Str.ofString "key", .ref q)]⟩ = pure [some (.ref q), none] from rfl) ?_)
  refine wpAny_bind (wpAny_pure ?_)
  refine wpAny_bind (wpAny_pyIter_list hls ?_)
  refine wpAny_bind (wpAny_newList ?_ (Nat.zero_le _))
  rw [hname]
  generalize hIo : ({ cls := .type "list_iterator", data := .fields #[.ref l, .int 0 0] } : Obj) = oI0
  have hSz : (s.heap.push oI0).objs.size = s.heap.objs.size + 1 := size_push' ..
  generalize hS0 : (s.heap.push oI0).objs.size = S at hSz ⊢
  have hlI : l ≠ s.heap.objs.size := Nat.ne_of_lt hll
  have hSI : S ≠ s.heap.objs.size := by omega
  have hlS : l ≠ S := by rw [hSz]; exact Nat.ne_of_lt (Nat.lt_succ_of_lt hll)
  have gI : ((s.heap.push oI0).push (seqObj "list" #[] 0)).get? s.heap.objs.size = some oI0 := Heap.get?_push_of_some _ (Heap.get?_push_size _ (by rw [← hIo]; rfl))
  have gS : ((s.heap.push oI0).push (seqObj "list" #[] 0)).get? S = some (seqObj "list" #[] 0) := by rw [← hS0]; exact Heap.get?_push_size _ rfl
  have J0 : Inv X pins σ H { s with heap := (s.heap.push oI0).push (seqObj "list" #[] 0) } := J.kept (t' := s.toks) fun b o e => Heap.get?_push_of_some _ (Heap.get?_push_of_some _ e)
  have fI : FpOk X pins H s.heap.objs.size := J.fpOk (Nat.le_refl _) (J.hok.fresh (Nat.le_refl _))
  have fS : FpOk X pins H S := J.fpOk (by omega) (J.hok.fresh (by omega))
  have W := Walks.list (prog := X.prog) (w := X.w) (A := X.A.in1) hh s.heap.objs.size l hlI its.toArray
  refine wpAny_pure ⟨plainId_quiet PySem.F.plain_min_loop _, ?_⟩
  refine codeAny_builtin PySem.F.entry_min_loop ?_
  rw [Around.under_plainId PySem.F.plain_min_loop _]
  show wpAny _ X.A.in1 (seqItems? (.ref S) >>= _) _ _ _
  refine wpAny_bind (wpAny_seqItems gS rfl ?_)
  show wpAny _ X.A.in1 (tryCatch (pyNext (.ref s.heap.objs.size)) _ >>= _) _ _ _
  refine wpAny_bind (wpAny_tryCatch (W.item 0 _ _ _ (by rw [hn]; exact hne) ⟨⟨_, gI, by rw [← hIo], by rw [← hIo]; rfl⟩, (hls.push _).push _⟩ fun v h' tk' hP hst' hk' => ?_))
  have hx0 : xs[0]? = some xs[0] := List.getElem?_eq_getElem hne
  obtain ⟨u, hu1, ru⟩ := rv.get hx0
  have hv : v = u := by
    have e : its[0]? = some v := by simpa using hP
    rw [hu1] at e
    exact (Option.some.inj e).symm
  subst hv
  have J1 := J0.turned (h' := h') (t' := tk') (fun b o hb e => hk' b o (by simpa using hb) e) fI.1 fI.2.1 fI.2.2.2.1 fI.2.2.2.2.1 fI.2.2.2.2.2
  have hS' := hk' S _ (by simpa using hSI) gS
  obtain ⟨oI, hoI, hoc, hod⟩ := id hst'.1
  show wpAny _ X.A.in1 (tryCatch (holding [v] (call (.ref q) [v])) _ >>= _) _ _ _
  refine wpAny_bind (wpAny_tryCatch (wpAny_holding (turn 0 xs[0] v _ H G _ _ hx0 ru J1 (Tr.refl hs) fun k s2 H2 G2 kv2 J2 t2 sg un rk2 dk2 => ?_)))
  obtain ⟨fS2, hS2⟩ := fp_un J1 fS hS' un
  obtain ⟨fI2, hI2⟩ := fp_un J1 fI hoI un
  have sb := Heap.SameBut.update s2.heap S (Obj.mapSeq fun _ => #[v, k])
  obtain ⟨c2, hc2⟩ : ∃ c2, (s2.heap.update S (Obj.mapSeq fun _ => #[v, k])).get? S = some (seqObj "list" #[v, k] c2) := ⟨_, get?_update_seq hS2 fun _ => #[v, k]⟩
  show wpAny _ X.A.in1 (updateSeq S (fun _ => #[v, k]) >>= _) _ _ _
  refine wpAny_bind (wpAny_updateSeq hS2 rfl ?_)
  rw [hname]
  refine wpAny_pure ⟨plainId_quiet PySem.F.plain_min_loop _, min_loop hh hu hl hSI hlI hlS turn (fun i x u s2 H2 G2 e1 e2 e3 e4 => hR i x u s2 H2 G2 e1 e2 e3 e4) _ 1 0 _ H2 G2 v k xs[0] kv2 c2 rfl hne (J2.turned (t' := s2.toks) (fun b o hb e => (sb.2 b hb).trans e) fS2.1 fS2.2.1 fS2.2.2.2.1 fS2.2.2.2.2.1 fS2.2.2.2.2.2) t2 fS2 fI2 hc2 ⟨oI, (sb.2 _ hSI.symm).trans hI2, hoc, hod⟩ hx0 ru rk2 dk2⟩
end
end Bl
set_option Elab.async false
set_option linter.all false
set_option maxRecDepth 100000
set_option maxHeartbeats 2000000
/-! min(xs, key = lambda row: ..), the lambda reads one name of the def -/
namespace Bl
open PySem PySem.Spec PyProof.Rows L2 LamX NdefX
/-- the lambda's frame -/
abbrev lcx (X : Cx) (NL : List Str) (params : Arguments) (scope : Scope) (c' f : Addr) (s : Shared) (H : Hp) : Cx := (ncx CX0 X.prog X.w X.K X.mg X.base NL (lamNF X params scope c') f X.A.in1 X.stack s H E0).nox
section
variable {X : Cx} {e be : Expr} {Γ : Gm} {Δ Δ1 : Cs} {pos p lpos kpos : Pos} {β : Type} {enc kd : β → PyData} {bs : List β}
theorem je_minLam {params : Arguments} {scope : Scope} {c P : Addr} {j iy k : Nat} {x y : Str} {NL : List Str} {rY : SV} (hc : X.calm = true) (hm : X.mg "min" = none) (ha : JE X Δ Γ e (L X.K (bs.map enc)) Δ1) (hne : bs ≠ [])
    (TB : TabB X.base X.mg c P) (hcode : X.env.code = .ref c) (hj : Δ1[j]? = some (P, TbC (X.env.qual ++ "<lambda>"))) (hdef : defaultsOf params X.env = ([], []))
    (hfree : ∀ z ∈ scope.names, z.2 = .free → X.env.scope.names.lookup z.1 = some .cell ∨ X.env.scope.names.lookup z.1 = some .free) (S : NScope NL [x] [y] scope) (hfr : (y, NameKind.free) ∈ scope.names) (hN : X.N[iy]? = some y) (hΓ : Γ[iy]? = some (some rY))
    (hbind : ∀ (c' : Addr) (pm ctv : Value) (us : List Value), us.length = ([x] : List Str).length → bindArgs (PySem.W.kla_fn (lamNF X params scope c').name (lamNF X params scope c').qual (lamNF X params scope c').params be (lamNF X params scope c').scope (lamNF X params scope c').cl pm (.ref (lamNF X params scope c').c) ctv) ⟨us, []⟩ = pure (([x] : List Str).zip us))
    (hr : Room (k + 2) X.A) (hal : ∀ a ∈ bs, ∀ b ∈ bs, PySem.W.alike (kd a) (kd b) = true ∧ kd a ≠ .none ∧ X.A.units + 1 + (kd a).depth < cLine)
    (hbody : ∀ b ∈ bs, ∀ (f c' : Addr) (s : Shared) (H : Hp), Room k (lcx X NL params scope c' f s H).A → JE (lcx X NL params scope c' f s H) [] [some (D X.K (enc b)), some rY] be (D X.K (kd b)) [])
    (hg : Gl X "min" := by rfl) (he : starEach (e :: []) X.env = (false, eval e X.env) :: starEach [] X.env := by rfl) (he2 : backTo pos (starEach (e :: []) X.env) = (false, eval e X.env) :: backTo pos (starEach [] X.env) := by rfl) (hpl : (backTo pos (starEach (e :: []) X.env)).any (·.1) = false := by rfl)
    (hall : (backToKw pos (keywordEach [⟨some "key", .Lambda params be scope lpos, kpos⟩] X.env)).all (·.1.isSome) = true := by rfl) (hnone : (backToKw pos (keywordEach [⟨some "key", .Lambda params be scope lpos, kpos⟩] X.env)).any (·.1.isNone) = false := by rfl)
    (hks : (backToKw pos (keywordEach [⟨some "key", .Lambda params be scope lpos, kpos⟩] X.env)).filterMap (·.1) = [(Str.ofString "key")] := by rfl) :
    JE X Δ Γ (.Call (.Name "min" p) [e] [⟨some "key", .Lambda params be scope lpos, kpos⟩] pos) (SV.ex (fun b => b ∈ bs) fun b => D X.K (enc b)) Δ1 := by
  refine ⟨fun pins s σ G H I hs sl => ?_⟩
  refine wpAny_Call_Name_kw (ld_blt I hg hm boot_minB ?_ (by decide) (by decide))
  refine PyProof.Rows.callWith_kw (thn ((ja_cons ha ja_nil he).run pos pins s σ G H I hs sl) fun us s1 ⟨vs, H1, I1, rv, G1, t1, ps1⟩ => ?_) he2 hpl hall hnone
  refine thn ((pk_cons (je_lam TB hcode hj hdef hfree).use pk_nil).run pos pins s1 σ H1 (fun zs H2 => ∃ v G2, zs = [v] ∧ Tr Δ1 G1 H1 Δ1 G2 H2 ∧ (LamV (lamNF X params scope) be).P v G2) I1 ⟨G1, t1.hs, sl.mono t1.up, fun v G2 H2 t2 pv => ⟨v, G2, rfl, t2, pv⟩⟩) fun ws s2 ⟨zs, H2, I2, rz, v2, G2, ez, t2, q, c', eq, hq, hc'⟩ => ?_
  subst ez eq
  obtain ⟨v1, rfl, a, xs, rfl, h1, h2, h3⟩ := paired1 ps1
  rw [hks]
  cases rv with
  | cons r1 rr =>
    cases rr
    cases rz with
    | cons r2 rr2 =>
      cases rr2
      obtain rfl := r1
      obtain rfl := r2
      have hlen : xs.length = bs.length := by rw [dps_len h2, List.length_map]
      have h2' : DpAll X.K G2 xs (bs.map enc) := dps_same t2.up h2
      have item : ∀ (i : Nat) (xv : V), xs[i]? = some xv → ∃ b, bs[i]? = some b ∧ Dp X.K G2 xv (enc b) ∧ (enc b).canLay0 = true := fun i xv e1 => by
        obtain ⟨d, e2, dp⟩ := dps_get' h2' e1
        obtain ⟨b, e3, rfl⟩ := Bl.at_map e2
        exact ⟨b, e3, dp, h3 _ (List.mem_of_getElem? e2)⟩
      let kd' : Nat → PyData := fun i => match bs[i]? with
        | some b => kd b
        | none => .none
      have kdAt : ∀ {i : Nat} {b : β}, bs[i]? = some b → kd' i = kd b := fun {i b} e => by show (match bs[i]? with | some b => kd b | none => PyData.none) = _; rw [e]
      have hbs : ∀ i, i < xs.length → ∃ b, bs[i]? = some b := fun i hi => ⟨bs[i]'(by omega), List.getElem?_eq_getElem _⟩
      have sl2 : Sl σ G2 Γ := (sl.mono t1.up).mono t2.up
      refine min_call (G := G2) (H := H2) (xs := xs) (kd := kd') (l := a) (q := q) hr.hd (fun i i' hi hi' => ?_) (SqL.of (t2.up _ _ h1)) (by rw [hlen]; exact List.length_pos_iff.mpr hne) I2 t2.hs (fun i xv u s3 H3 G3 Q E hx ru J3 t3 kont => ?_) fun i xv u s3 H3 G3 hx ru J3 t3 => ?_
      · obtain ⟨b, eb⟩ := hbs i hi
        obtain ⟨b', eb'⟩ := hbs i' hi'
        rw [kdAt eb, kdAt eb']
        exact hal b (List.mem_of_getElem? eb) b' (List.mem_of_getElem? eb')
      · obtain ⟨b, eb, dp, ok⟩ := item i xv hx
        rw [kdAt eb] at kont
        have hb := hbody b (List.mem_of_getElem? eb) q c' s3 H3
        obtain ⟨vy, ey, py⟩ := sl2.at_ iy rY hΓ
        have C : CellsAt (lamNF X params scope c').cl [y] ([iy].map (slotAt σ)) s3.heap H3 := cells_of J3 (Caps.made J3.ok hfree (fun z hz => by rw [List.mem_singleton.mp hz]; exact hfr) (by simp [hN]))
        have hq3 : H3 q = some (LmO q (lamNF X params scope c') be) := t3.hs.sub _ _ (t3.up _ _ hq)
        have hc3 : H3 c' = some (CodeO c' (lamNF X params scope c').qual) := t3.hs.sub _ _ (t3.up _ _ hc')
        have e0 : Env0 X.prog X.w X.K X.mg X.base X.A.in1 X.stack s3 H3 := J3.env0.in1
        refine wpAny_call (codeAny_mono (lam_run (k := k) (Q := fun kv H4 => ∃ G4, Tr [] G3 H3 [] G4 H4 ∧ (D X.K (kd b)).P kv G4) (E := E0) S (hbind c') hr.in1 e0 hq3 hc3 C (us := [u]) (vs := [xv]) (.cons ru .nil) rfl fun hr2 => ?_) fun r s4 hq4 => ?_)
        · refine ⟨_, (hb hr2).use.nox, G3, Hs.nil t3.hs.sub, ⟨?_, fun m r e => ?_⟩, fun v G4 H4 t4 p4 => ⟨G4, t4, p4⟩⟩
          · show 2 ≤ _
            unfold startF
            simp
            try omega
          · have hsy : slotAt σ iy = some vy := slotAt_of ey
            match m, e with
            | 0, e =>
              cases e
              exact ⟨xv, rfl, dp_same t3.up dp, ok⟩
            | 1, e =>
              cases e
              refine ⟨vy, ?_, rY.mono t3.up py⟩
              show ([some xv] ++ ([slotAt σ iy] ++ _))[1]? = _
              rw [hsy]; rfl
            | m + 2, e => simp at e
        · cases r with
          | error e => exact hq4.elim
          | ok fl =>
            cases fl with
            | next => exact hq4.elim
            | brk => exact hq4.elim
            | cont => exact hq4.elim
            | ret uu =>
              obtain ⟨kv, H4, os, bare, un, hok, rk, G4, t4, p4⟩ := hq4
              have J4 : Inv X pins σ H4 s4 := J3.call' (ch := []) os un hok bare fun b z => by simp at z
              exact kont uu s4 H4 G4 kv J4 (t3.trans (t4.up0 t3.hs)) t4.up un rk p4.1
      · obtain ⟨b, eb, dp, ok⟩ := item i xv hx
        exact ⟨xv, H3, J3, ru, G3, (t1.trans t2).trans t3, b, List.mem_of_getElem? eb, dp_same t3.up dp, ok⟩
end
end Bl
set_option Elab.async false
set_option linter.all false
set_option maxRecDepth 100000
set_option maxHeartbeats 2000000
/-! tree_by -/
namespace Bl
open PySem PySem.Spec PyProof.Rows L2 LamX NdefX
section
variable {X : Cx} {a b : Expr} {Γ : Gm} {Δ Δ1 Δ2 : Cs} {pos : Pos} {d1 : PyData} {C : PyData → Prop}
theorem je_tupX {k : Nat} (ha : JE X Δ Γ a (D X.K d1) Δ1) (hb : JE X Δ1 Γ b (SV.ex C (D X.K)) Δ2) (he : starEach [a, b] X.env = (false, eval a X.env) :: starEach [b] X.env := by rfl) (he2 : starEach [b] X.env = (false, eval b X.env) :: starEach [] X.env := by rfl) :
    JE X Δ Γ (.Tuple [a, b] k pos) (SV.ex (fun d => ∃ d2, C d2 ∧ d = .tuple [d1, d2]) (D X.K)) Δ2 :=
  je_of (pe_tup (ja_cons ha (ja_cons hb ja_nil he2) he).use) fun σ G H Q hs sl q => ⟨G, hs, sl, fun vs G1 H1 t ps => by
    obtain ⟨u, v, rfl, pu, d2, cd, pv⟩ := paired2 ps
    refine ⟨by rw [sizeLine_eq]; show 2 ≤ _; decide, fun p hp => q _ _ _ (t.trans ((Up.new t.hs.sub hp).up0 t.hs)) ⟨.tuple [d1, d2], ⟨d2, cd, rfl⟩, ?_⟩⟩
    exact new_tup (none_of_sub t.hs.sub hp) (.cons pu.1 (.cons pv.1 .nil)) (allok_cons pu.2 (allok_cons pv.2 allok_nil))⟩
end
/-- tree_by's code object at c, its table at P -/
structure TbF (K : PySem.W.Frag) (mg : Str → Option Value) (base : Heap) (c P : Addr) : Prop where
  ex : ∃ f fd, FunD K "tree_by" "tree_by" (defArgs (top 30)) (defBody (top 30)) (defScope (top 30)) [] [] f fd ∧ mg "tree_by" = some (.ref f) ∧ fd.code = .ref c
  tb : TabB base mg c P
section
variable {P : Program} {w : World} {K : PySem.W.Frag} {mg : Str → Option Value} {base : Heap} {C : Addr} {c Pt : Addr}
def qLam : Str := ("tree_by" : Str) ++ ".<locals>." ++ "<lambda>"
theorem ok_tbC {N ps : List Str} {k : Nat} {Pre : Prm} (T : TbF K mg base c Pt) (S : FnScope N ps (defScope (top 30)))
    (hbind : ∀ (kV doc pm : Value) (an : Option Addr) (cdv ct : Value) (us : List Value), us.length = ps.length → bindArgs (PySem.W.fnOf "tree_by" "tree_by" (defArgs (top 30)) (defBody (top 30)) (defScope (top 30)) .none kV doc pm an cdv ct) ⟨us, []⟩ = pure (ps.zip us))
    (hlen : ∀ rs Δ r Δ', Pre rs Δ r Δ' → rs.length = ps.length)
    (hb : ∀ (f : Addr) (A : Around) (outer : List Env) (s : Shared) (H : Hp) (E : XK) (rs : List SV) (Δ : Cs) (r : SV) (Δ' : Cs), Room k (A.deeper (envOfC "tree_by" (defScope (top 30)) s.heap.objs.size f (.ref c))) → Pre rs Δ r Δ' →
      JSs (cxN P w K mg base N "tree_by" 30 f (.ref c) A outer s H E) Δ (start0 N rs) (defBody (top 30)) (fnO r Δ')) : Ok P w K mg base (k + 1) "tree_by" ps Pre := by
  obtain ⟨f, fd, F, hm, hcd⟩ := T.ex
  refine ⟨f, fd, ?_, hm, F.kp, F.bindsN hbind⟩
  obtain ⟨oc, od, dV, kV, doc, pm, an, cdv, ct, osl, rfl, lk, hci, _, _⟩ := F.ex
  obtain rfl : cdv = .ref c := hcd
  exact fn_of lk hci S (fun vs H Q E ⟨G, rs, Δ, r, Δ', hp, _, pr, _⟩ => by rw [Paired.length pr]; exact hlen rs Δ r Δ' hp) fun A outer s H vs Q E hr ⟨G, rs, Δ, r, Δ', hp, hs, pr, q⟩ =>
    ⟨_, (hb f A outer s H E rs Δ r Δ' hr hp).use.nox, G, hs, sl_start pr, ⟨fun σ' G' H' Δ2 Γ' ⟨e, k⟩ t sl => by subst e; exact q _ G' H' t (k G'), fun v G' H' Δ2 r2 ⟨e, k⟩ t p => by subst e; exact q v G' H' t (k v G' p), fun _ _ _ _ _ o => o.elim, fun _ _ _ _ _ o => o.elim⟩⟩
structure TbPre (hs : List Str) (rows : List (List Str)) (S : List Str) (most : Nat) (way : List Str) : Prop where
  sub : ∀ r ∈ rows, ∀ h ∈ r, h ∈ hs
  some_ : ∀ W : List Str, W.Nodup → (∀ h ∈ W, h ∈ hs ∧ h ∉ S) → W.length ≤ most → (rows.filter fun r => !BM.meets r W) ≠ []
  nd : way.Nodup
  out : ∀ h ∈ way, h ∈ hs ∧ h ∉ S
  len : way.length ≤ most
theorem TbPre.next {hs : List Str} {rows : List (List Str)} {S : List Str} {most : Nat} {way cl : List Str} {h : Str} (T : TbPre hs rows S most way) (hc : cl ∈ rows) (hm : BM.meets cl way = false) (hh : h ∈ outs cl S) (hl : way.length ≠ most) : TbPre hs rows S most (way ++ [h]) ∧ way.length < hs.length := by
  obtain ⟨h1, h2⟩ := List.mem_filter.mp hh
  have h2 : h ∉ S := by simpa using h2
  have hw : h ∉ way := fun z => by
    have : BM.meets cl way = true := BM.meets_iff.mpr ⟨h, h1, z⟩
    rw [hm] at this; cases this
  have hhs := T.sub cl hc h h1
  have nd : (way ++ [h]).Nodup := BM.snoc_nodup T.nd hw
  refine ⟨⟨T.sub, T.some_, nd, fun x hx => ?_, by have := T.len; simp; omega⟩, ?_⟩
  · rcases List.mem_append.mp hx with z | z
    · exact T.out x z
    · obtain rfl : x = h := by simpa using z
      exact ⟨hhs, h2⟩
  · have := BM.nodup_sub_len nd (h := hs) fun x hx => by
      rcases List.mem_append.mp hx with z | z
      · exact (T.out x z).1
      · obtain rfl : x = h := by simpa using z
        exact hhs
    simp at this
    omega
abbrev N_tb : List Str := ["rows", "statement", "most", "way", "unmet", "clause", "branches", "holder", "row"]
theorem sc_tb : FnScope N_tb ["rows", "statement", "most", "way"] (defScope (top 30)) := ⟨rfl, rfl, rfl, by decide +kernel, rfl, by decide +kernel, by decide +kernel⟩
def tbR (K : PySem.W.Frag) (rows : List (List Str)) (S : List Str) (most n : Nat) (way : List Str) : SV := SV.ex (fun t : PyData => TreeOk rows S most n way t) (D K)
def pm_tb (K : PySem.W.Frag) (Pt : Addr) (n : Nat) : Prm := fun rs Δ r Δ' => ∃ (hs : List Str) (rows : List (List Str)) (S : List Str) (most : Nat) (way : List Str), TbPre hs rows S most way ∧ way.length + n = hs.length ∧ hs.length ≤ 5 ∧ rs = [D K (eR rows), D K (eS S), D K (.int most), D K (eS way)] ∧ Δ = [(Pt, TbC qLam)] ∧ r = tbR K rows S most n way ∧ Δ' = [(Pt, TbC qLam)]
theorem key_alike (S a b : List Str) : PySem.W.alike (.tuple [.int ((outs a S).length : Int), eS a]) (.tuple [.int ((outs b S).length : Int), eS b]) = true := by
  rw [PySem.W.alike, PySem.W.alikeAll, PySem.W.alikeAll, alike_eS, PySem.W.alikeAll]
  rfl
theorem key_depth (S a : List Str) : (PyData.tuple [.int ((outs a S).length : Int), eS a]).depth ≤ 2 := by
  have := enc_eS.dep a
  simp [PyData.depth, PyData.depthAll]
  omega
theorem lam_free : ∀ z ∈ ([("row", .local), ("statement", .free), ("len", .globalImplicit), ("outside", .globalImplicit)] : List (Str × NameKind)), z.2 = NameKind.free → (defScope (top 30)).names.lookup z.1 = some .cell ∨ (defScope (top 30)).names.lookup z.1 = some .free := by decide +kernel
theorem ok_tb (T : Tx K mg) (TB : TbF K mg base c Pt) : ∀ n, Ok P w K mg base (n + 4) "tree_by" ["rows", "statement", "most", "way"] (pm_tb K Pt n) := by
  intro n
  induction n using Nat.strongRecOn with
  | ind n ih =>
  refine ok_tbC TB sc_tb (fun _ _ _ _ _ _ us hl => match us, hl with | [_, _, _, _], _ => rfl) (fun rs Δ r Δ' ⟨_, _, _, _, _, _, _, _, e, _⟩ => by rw [e]; rfl) fun f A outer s H E rs Δ r Δ' hr hp => ?_
  obtain ⟨hs, rows, S, most, way, hT, hn, h5, rfl, rfl, rfl, rfl⟩ := hp
  have hal : ∀ a ∈ rows.filter (fun r => !BM.meets r way), ∀ b ∈ rows.filter (fun r => !BM.meets r way), PySem.W.alike (.tuple [.int ((outs a S).length : Int), eS a]) (.tuple [.int ((outs b S).length : Int), eS b]) = true ∧ PyData.tuple [.int ((outs a S).length : Int), eS a] ≠ .none ∧ (cxN P w K mg base N_tb "tree_by" 30 f (.ref c) A outer s H E).A.units + 1 + (PyData.tuple [.int ((outs a S).length : Int), eS a]).depth < cLine := fun a _ b _ => by
    refine ⟨key_alike S a b, fun z => (by cases z), ?_⟩
    have h1 := key_depth S a
    have h2 := hr.un
    show (A.deeper (envOfC "tree_by" (defScope (top 30)) s.heap.objs.size f (.ref c))).units + 1 + _ < cLine
    omega
  refine jss_set (i := 4) (jas_flt (l := rows) (ra := fun r => D K (eS r)) (p := fun r => !BM.meets r way) (f := eS) (js := [8]) (own := [("row", 8)]) rfl sc_tb.nd (ji_Te (je_var 0)) (blkOk_by (N := N_tb) (sc := defScope (top 30)) (by decide +kernel)) (fun _ _ _ _ _ => pg_name (i := 8) sc_tb.nd rfl (Or.inl rfl)) (fun a _ => tg_name 8) (fun _ h => h)
    (fun a _ _ _ _ _ _ => jb_not (jb_val (je_callP (ok_meets T) (hr.mono (by omega)) (ja_cons (je_var 8) (ja_cons (je_var 3) ja_nil)) ⟨a, way, rfl, rfl⟩))) (fun a _ _ _ _ _ _ _ => je_var 8) (sw_true rfl rfl rfl (by decide +kernel))) ?_
  rintro r1 Δ1 ⟨rfl, rfl⟩
  refine jss_set (i := 5) (jas_e (JE.xx (je_minLam (bs := rows.filter fun r => !BM.meets r way) (enc := eS) (kd := fun r => .tuple [.int ((outs r S).length : Int), eS r]) (j := 0) (iy := 1) (k := 1) (x := "row") (y := "statement") (NL := ["row", "statement"]) (rY := D K (eS S)) rfl T.f_min (je_var 4) (hT.some_ way hT.nd hT.out hT.len) TB.tb rfl rfl rfl lam_free (nscope_by (by decide +kernel)) (by decide +kernel) rfl rfl
    (fun c' pm ctv us hl => match us, hl with | [_], _ => rfl) (hr.mono (by omega)) hal (fun b _ f2 c' s2 H2 hr2 => ?_))) sc_tb.nd) ?_
  · exact je_tup (ds := [.int ((outs b S).length : Int), eS b]) (ja_cons ((je_lenL (ds := (outs b S).map .str) T.f_len (je_callP (ok_out T) hr2 (ja_cons (je_var 0) (ja_cons (je_var 1) ja_nil)) ⟨b, S, rfl, rfl⟩)).eq (by rw [List.length_map])) (ja_cons (je_var 0) ja_nil))
  rintro r2 Δ2 ⟨cl, hcl, rfl, rfl⟩
  obtain ⟨hc1, hc2⟩ := List.mem_filter.mp hcl
  have hc2 : BM.meets cl way = false := by simpa using hc2
  refine jss_if0 (Δ1 := [(Pt, TbC qLam)]) (bb := decide (way.length = most)) ((jb_eqI (je_lenT (ds := way.map .str) T.f_len (je_var 3)) (je_var 2)).eq (by rw [List.length_map]; exact decide_eq_decide.mpr (by omega))) (fun hb => ?_) fun hb => ?_
  · have hb : way.length = most := by simpa using hb
    refine jss_ret (je_tup (ds := [eS cl, .tuple []]) (ja_cons (je_var 5) (ja_cons je_tup0 ja_nil))) ⟨rfl, fun v G pv => ⟨eT cl [], .mk hc1 hc2 ?_ (fun h => absurd rfl h) (fun b hb => by cases hb), pv⟩⟩
    rw [if_neg (by omega)]; rfl
  have hb : way.length ≠ most := by simpa using hb
  have hlt : way.length < most := by have := hT.len; omega
  refine jss_set (i := 6) (jas_e (jx_newl (ds := []) ja_nil) sc_tb.nd) ?_
  rintro r3 Δ3 ⟨p, rfl, rfl⟩
  have hol : (outs cl S).length ≤ rows.length + 100000 ∨ True := .inr trivial
  refine jss_szT (i := 5) (ds := cl.map .str) rfl fun hsz => ?_
  rw [List.length_map] at hsz
  refine jss_for (js := [7]) PassesOwn.never rfl (ji_Le (l := outs cl S) (enc := PyData.str) (je_callP (ok_out T) (hr.mono (by omega)) (ja_cons (je_var 5) (ja_cons (je_var 1) ja_nil)) ⟨cl, S, rfl, rfl⟩)) (pg_name (i := 7) sc_tb.nd rfl (Or.inl rfl))
    (fun i Δ Γ => ∃ bs : List (Str × PyData), bs.map (·.1) = (outs cl S).take i ∧ (∀ b ∈ bs, TreeOk rows S most (n - 1) (way ++ [b.1]) b.2) ∧ Δ = [(Pt, TbC qLam), (p, LC K (bs.map eB))] ∧ Γ = [some (D K (eR rows)), some (D K (eS S)), some (D K (.int most)), some (D K (eS way)), some (L K ((rows.filter fun r => !BM.meets r way).map eS)), some (D K (eS cl)), some (VV (.ref p)), none, none]) ⟨[], rfl, fun b hb => (by cases hb), rfl, rfl⟩ (fun i r Δ Γ hr' hI => ?_) fun Δ Γ hI => ?_
  · obtain ⟨bs, e1, e2, rfl, rfl⟩ := hI
    obtain ⟨h, hh, rfl⟩ := at_map hr'
    have hm := List.mem_of_getElem? hh
    obtain ⟨hT2, hlen⟩ := hT.next hc1 hc2 hm hb
    have hil : i < (outs cl S).length := (List.getElem?_eq_some_iff.mp hh).1
    have hol : (outs cl S).length ≤ cl.length := List.length_filter_le _ _
    have hbl : bs.length = i := by
      have := congrArg List.length e1
      rw [List.length_map, List.length_take] at this
      omega
    refine ⟨_, tg_name 7, ?_⟩
    refine jss_expr (jx_app (Δ1 := [(Pt, TbC qLam), (p, LC K (bs.map eB))]) (C := fun d => ∃ d2, TreeOk rows S most (n - 1) (way ++ [h]) d2 ∧ d = .tuple [.str h, d2]) (i := 0) (j := 1) (j0 := 1) (p := p) (ds0 := bs.map eB) (ds := bs.map eB) (je_var 6) rfl (je_tupX (je_var 7) (je_call (Δ0 := [(Pt, TbC qLam)]) (Δr := [(p, LC K (bs.map eB))]) (Δ0' := [(Pt, TbC qLam)]) (ih (n - 1) (by omega)) (hr.mono (by omega)) (ja_cons (je_var 0) (ja_cons (je_var 1) (ja_cons (je_var 2) (ja_cons (je_catT (ds1 := way.map .str) (ds2 := [.str h]) (je_var 3) (je_tup (ds := [.str h]) (ja_cons (je_var 7) ja_nil)) (by rw [line_eq, List.length_map]; simp; omega)) ja_nil))))
      ⟨hs, rows, S, most, way ++ [h], hT2, by simp; omega, h5, by simp only [eS, List.map_append, List.map_cons, List.map_nil]; rfl, rfl, rfl, rfl⟩)) rfl (by rw [List.length_map, line_eq]; rw [line_eq] at hsz; omega)) ?_
    rintro r4 Δ4 ⟨d, ⟨d2, hd2, rfl⟩, rfl, rfl⟩
    refine jss_nil ⟨[_, _, _, _, _, _, _, none, none], .keep (.keep (.keep (.keep (.keep (.keep (.keep (.drop (.keep .nil)))))))), bs ++ [(h, d2)], ?_, fun b hb => ?_, ?_, rfl⟩
    · rw [List.map_append, e1, take_succ hh]; rfl
    · rcases List.mem_append.mp hb with z | z
      · exact e2 b z
      · obtain rfl : b = (h, d2) := by simpa using z
        exact hd2
    · rw [List.map_append]; rfl
  · obtain ⟨bs, e1, e2, rfl, rfl⟩ := hI
    rw [List.length_map, List.take_length] at e1
    refine jss_pub (p := p) 6 1 rfl rfl ?_
    refine jss_ret (je_tup (ds := [eS cl, .tuple (bs.map eB)]) (ja_cons (je_var 5) (ja_cons (je_tupleL T.f_tuple (je_var 6)) ja_nil))) ⟨rfl, fun v G pv => ⟨eT cl bs, .mk hc1 hc2 ?_ (fun hne => ?_) e2, pv⟩⟩
    · rw [if_pos hlt]; exact e1
    · obtain ⟨b, hb1⟩ := List.exists_mem_of_ne_nil _ hne
      have hm : b.1 ∈ outs cl S := by rw [← e1]; exact List.mem_map_of_mem hb1
      have := (hT.next hc1 hc2 hm hb).2
      omega
end
end Bl
set_option Elab.async false
set_option linter.all false
set_option maxRecDepth 100000
set_option maxHeartbeats 2000000
/-! written by gen_dic.py: list({k: v for x in xs}), k a tuple of texts -/
namespace Bl
open PySem PySem.Spec PyProof.Rows L2
abbrev kT (P : Program) (w : World) : HeapKind P w (List Str) := tupleKind (strKind P w)
abbrev DL := List (List Str × Addr × Value)
def DkE (P : Program) (w : World) (h : Heap) (a : Addr) (l : DL) : Prop := (a == sysModules) = false ∧ ∃ o es ep, h.get? a = some o ∧ o.ExactDict ∧ o.data = .dict es ep ∧ es.toList = l.map (entryOfKey (kT P w)) ∧ (l.map (·.1)).Nodup
/-- such a dict, while it is made -/
def DkO (P : Program) (w : World) (a : Addr) (l : DL) : HO := .ext fun h => DkE P w h a l
theorem dkO_new {P : Program} {w : World} {H : Hp} {h : Heap} {a : Addr} {l : DL} (R : DkE P w h a l) : ObjOk P w H h a (DkO P w a l) := by
  obtain ⟨z, o, es, ep, ho, r⟩ := id R
  exact ⟨R, ⟨_, ho⟩, fun h1 h2 p k => by
    obtain ⟨z', o', es', ep', ho', r'⟩ := p
    exact ⟨z', o', es', ep', k _ ho', r'⟩⟩
theorem dkE_new {P : Program} {w : World} (h : Heap) (hb : sysModules < h.objs.size) : DkE P w (h.push { cls := .type "dict", data := .dict #[] }) h.objs.size [] :=
  ⟨beq_eq_false_iff_ne.mpr (Ne.symm (Nat.ne_of_lt hb)), _, #[], 0, Heap.get?_push_size _ rfl, ⟨rfl, rfl, rfl⟩, rfl, rfl, List.nodup_nil⟩
section
variable {X : Cx}
theorem key_is {pins : List (Addr × Obj)} {σ : L2.St} {G H : Hp} {s : Shared} {v : V} {u : Value} {k : List Str} (I : Inv X pins σ H s) (sg : Same G H) (r : RelV v u) (d : Dp X.K G v (eS k)) : ∃ b, v = .ref b ∧ u = .ref b ∧ (kT X.prog X.w).is s.heap k b := by
  obtain ⟨b, e, hb, _⟩ := kind_eS.to I sg r d
  subst e
  have d' : Dp X.K G v (.tuple (k.map .str)) := d
  cases d' with
  | @tup a xs ds sq al =>
    cases r
    exact ⟨_, rfl, rfl, hb⟩
theorem dkO_put {pins : List (Addr × Obj)} {σ : L2.St} {G H : Hp} {s : Shared} {E : Value → Shared → Prop} {a : Addr} {l : DL} {k : List Str} {yk : V} {u vv : Value} {Q : Unit → Shared → Prop} (I : Inv X pins σ H s) (sg : Same G H) (ru : RelV yk u) (dk : Dp X.K G yk (eS k)) (dl : ∀ x ∈ l, Dp X.K G (.ref x.2.1) (eS x.1))
    (ha : H a = some (DkO X.prog X.w a l)) (hz : l.length < sizeLine) (hu : X.A.units < cLine) (h : ∀ b s', yk = .ref b → Inv X pins σ (upd H a (DkO X.prog X.w a (storedH l k b vv))) s' → Q () s') : wpAny (model X.prog X.w) X.A (dictSet a u vv) Q E s := by
  obtain ⟨b, e1, e2, hk⟩ := key_is I sg ru dk
  subst e2
  obtain ⟨z, o, es, ep, ho, hx, hd, he, hn⟩ := (I.hok a _ ha).1
  refine wpAny_dictSet_heap (knd := kT X.prog X.w) (k := k) (xs := l) hu hk ⟨o, es, ep, ho, hx, hd, he, fun x hx => ?_, hn⟩ (fun h' dd sb => ?_) (Nat.le_of_lt hz)
  · obtain ⟨b', e3, e4, hk'⟩ := key_is (v := .ref x.2.1) (u := .ref x.2.1) I sg rfl (dl x hx)
    cases e3
    exact hk'
  · obtain ⟨o', es', ep', ho', hx', hd', he', _, hn'⟩ := dd
    exact h b _ e1 (I.write (e := a) (t' := s.toks + (kT X.prog X.w).draws k) (by rw [ha]; trivial) (.inl rfl) (fun c u hc e => (sb.2 c hc).trans e) ⟨_, ho'⟩ (dkO_new ⟨z, o', es', ep', ho', hx', hd', he', hn'⟩))
/-- {kx: vx for tg in iter if ..}, kx a tuple of texts: D the new dict -/
def tDx (X : Cx) (wi : TI) (g : TG) (tt : TT) (te tv : TE) (vs : List Nat) : TE := fun σ H Q => wi σ H fun J H1 => ∀ D, H1 D = none → ∃ W : Nat → Nat → Hp → Prop, (∃ m, W 0 m (upd H1 D (DkO X.prog X.w D []))) ∧ ∀ i m H, W i m H →
  (J.stop i H ∧ Q (.ref D) H) ∨ (J.go i H ∧ ∃ Nx : Hp → Prop, (∀ H', Nx H' → ∃ m', m' < m ∧ W (i + 1) m' H') ∧ ∀ x H', J.yld i H x H' → g x (L2.wipe σ vs) H' fun σ2 H2 => L2.wipe σ2 vs = L2.wipe σ vs ∧ tt σ2 H2 fun b H3 =>
    if b = true then te σ2 H3 fun y H4 => tv σ2 H4 fun y2 H5 => ∃ (k : List Str) (l : DL) (G5 : Hp), Same G5 H5 ∧ Dp X.K G5 y (eS k) ∧ (∀ x ∈ l, Dp X.K G5 (.ref x.2.1) (eS x.1)) ∧ H5 D = some (DkO X.prog X.w D l) ∧ l.length < sizeLine ∧ ∀ b vv, y = .ref b → Nx (upd H5 D (DkO X.prog X.w D (storedH l k b vv))) else Nx H3)
theorem dx_core {pins : List (Addr × Obj)} {s : Shared} {σ : L2.St} {H : Hp} {Q : VK} {kx vx tg iter : Expr} {ifs : List Expr} {scope : Scope} {own : List (PySem.Str × Nat)} {pos pos' : Pos} {wi : TI} {g : TG} {tt : TT} {te tv : TE} {use : Option (Value → Sem Unit)} {Qf : Value → Shared → Prop}
    (hc : X.calm = true) (hN : X.N.Nodup) (I : Inv X pins σ H s) (hi : PI X tg iter wi) (ok : BlkOk X.N X.env.scope scope own)
    (hg : ∀ (s : Shared) (H : Hp) (C : Addr) (cl : List (PySem.Str × Addr)) (fp : List Addr), PG (X.blk s H scope (compEnvC scope cl C X.env) fp) tg g) (ht : ∀ (s : Shared) (H : Hp) (C : Addr) (cl : List (PySem.Str × Addr)) (fp : List Addr), PTs (X.blk s H scope (compEnvC scope cl C X.env) fp) ifs tt)
    (he : ∀ (s : Shared) (H : Hp) (C : Addr) (cl : List (PySem.Str × Addr)) (fp : List Addr), PE (X.blk s H scope (compEnvC scope cl C X.env) fp) kx te) (hv : ∀ (s : Shared) (H : Hp) (C : Addr) (cl : List (PySem.Str × Addr)) (fp : List Addr), PE (X.blk s H scope (compEnvC scope cl C X.env) fp) vx tv) (hs : ∀ x, foldedSetIterable iter X.env x = pure x)
    (h : tDx X wi g tt te tv (own.map (·.2)) σ H Q)
    (hu : X.A.units < cLine) (hRR : ∀ D C s' m H', Inv X pins σ H' s' → Q (.ref D) H' → s'.heap.Ns C m → FpOk X pins H' C → compPost (model X.prog X.w) X.A X.xe use Qf (.ref D) C (.ok .next) s') :
    wpAny (model X.prog X.w) X.A (comprehension (.DictComp kx vx [⟨tg, iter, ifs, 0⟩] scope pos) scope X.env pos' newDict false (eval iter X.env) use) Qf X.xe s := by
  have hfree : ∀ y ∈ scope.names, y.2 = .free → ∃ c, X.env.cells.lookup y.1 = some c := fun y hy e => (ok.free y hy e).elim (fun k => I.ok.has _ (.inl k)) fun k => I.ok.has _ (.inr k)
  refine wpAny_comprehension_free (use := use) rfl hs (closure_ok hfree) ok.kind (fun y hy e => by rw [ok.uniq y hy, e])
    (thn (hi.run pins s σ H _ I h) fun xv s1 hx => thn hx fun itv s2 ⟨it, fp, tn, J, H2, e, I2, T, st2, f2, q⟩ => ?_)
  subst e
  refine wpAny_newObj_type (newEnv_comp ?_)
  generalize hD : s2.heap.objs.size = D
  obtain ⟨W, ⟨m0, w0⟩, turn⟩ := q D (I2.hok.fresh (Nat.le_of_eq hD))
  generalize hs3 : ({ s2 with heap := s2.heap.push { cls := .type "dict", data := .dict #[] } } : Shared) = s3
  have old3 : ∀ b o, s2.heap.get? b = some o → s3.heap.get? b = some o := fun b o e => by rw [← hs3]; exact Heap.get?_push_of_some _ e
  generalize hH3 : upd H2 D (DkO X.prog X.w D []) = H3 at w0
  have I3 : Inv X pins σ H3 s3 := by
    rw [← hs3, ← hH3]
    refine I2.laid (t' := s2.toks) (fun b o e => Heap.get?_push_of_some _ e) (Nat.le_of_eq hD) (dkO_new ?_)
    rw [← hD]
    exact dkE_new s2.heap I2.big
  have f3 : ∀ b ∈ fp, FpOk X pins H3 b ∧ b < s3.heap.objs.size := fun b hb => by
    obtain ⟨o, e, _⟩ := T.obj _ _ st2 b hb
    have hlt := Heap.lt_size e
    refine ⟨⟨?_, (f2 b hb).2⟩, Heap.lt_size (old3 b o e)⟩
    rw [← hH3, upd_ne (by rw [← hD]; exact Nat.ne_of_lt hlt)]
    exact (f2 b hb).1
  have st3 : tn 0 s3.heap := T.keep _ _ _ st2 fun b _ o e => old3 b o e
  have nfp : ∀ b ∈ fp, H3 b = none := fun b hb => (f3 b hb).1.1
  have I4 := block_start I3 ok hN f3
  show codeAny _ _ (.compStart (.DictComp kx vx [⟨tg, iter, ifs, 0⟩] scope pos) 0 (.ref it) (.ref D) (compEnvC scope (cellsFrom (s3.heap.objs.size + 1) scope.names (cloFrom X.env.cells scope.names [])) s3.heap.objs.size X.env)) (compPost (model X.prog X.w) X.A X.xe use Qf (.ref D) s3.heap.objs.size) { s3 with heap := pushCells (s3.heap.push { cls := .type "dict", data := .dict #[] }) scope.names }
  have pg := hg s3 H3 s3.heap.objs.size (cellsFrom (s3.heap.objs.size + 1) scope.names (cloFrom X.env.cells scope.names [])) fp
  have pt := ht s3 H3 s3.heap.objs.size (cellsFrom (s3.heap.objs.size + 1) scope.names (cloFrom X.env.cells scope.names [])) fp
  have pv := hv s3 H3 s3.heap.objs.size (cellsFrom (s3.heap.objs.size + 1) scope.names (cloFrom X.env.cells scope.names [])) fp
  have pe := he s3 H3 s3.heap.objs.size (cellsFrom (s3.heap.objs.size + 1) scope.names (cloFrom X.env.cells scope.names [])) fp
  generalize hce : compEnvC scope (cellsFrom (s3.heap.objs.size + 1) scope.names (cloFrom X.env.cells scope.names [])) s3.heap.objs.size X.env = ce at I4 pg pt pe pv ⊢
  have cL : ce.locals = s3.heap.objs.size := by subst hce; rfl
  generalize hs4 : ({ s3 with heap := pushCells (s3.heap.push { cls := .type "dict", data := .dict #[] }) scope.names } : Shared) = s4 at I4 ⊢
  have st4 : tn 0 s4.heap := T.keep _ _ _ st3 fun b _ o e => by rw [← hs4]; exact pushCells_keeps _ _ _ _ (Heap.get?_push_of_some _ e)
  have stat : ∀ {σ' : L2.St} {H' : Hp} {s' : Shared}, Inv (X.blk s3 H3 scope ce fp) [] σ' H' s' → (∀ b ∈ fp, H' b = none) → ∀ b ∈ fp, FpOk (X.blk s3 H3 scope ce fp) [] H' b := fun {σ' H' s'} I' hn b hb =>
    ⟨hn b hb, (I'.ok.exf b hb).1, I'.ok.exfs b hb, .inl hb, fun x c e => (I'.ok.exf b hb).2 x c e, fun p hp => absurd (show p ∈ ([] : List (Addr × Obj)) ++ [] from hp) (by simp)⟩
  have loop : codeAny (model X.prog X.w) X.A (.compLoop (.DictComp kx vx [⟨tg, iter, ifs, 0⟩] scope pos) 0 (.ref it) (.ref D) ce) (compPost (model X.prog X.w) X.A X.xe use Qf (.ref D) s3.heap.objs.size) s4 := by
    refine compLoop_anyD (fun n s' => ∃ i H', Inv (X.blk s3 H3 scope ce fp) [] (L2.wipe σ (own.map (·.2))) H' s' ∧ tn i s'.heap ∧ (∀ b ∈ fp, H' b = none) ∧ W i n H') ?_ m0 ⟨0, H3, I4, st4, nfp, w0⟩
    rintro n s5 ⟨i, H5, I5, st5, n5, w5⟩
    rcases turn i n H5 w5 with ⟨stop, qq⟩ | ⟨go, Nx, hNx, step⟩
    · refine thnF (T.done (X.blk s3 H3 scope ce fp) rfl rfl rfl hc i [] s5 _ H5 (fun _ _ => False) I5 (stat I5 n5) st5 stop) fun r s6 ⟨hr, I6⟩ => ?_
      subst hr
      have nC : H5 s3.heap.objs.size = none := by rw [← cL]; exact I6.free
      obtain ⟨m, hn, _⟩ := I6.loc
      have hn : s6.heap.Ns ce.locals m := hn
      rw [cL] at hn
      exact hRR D s3.heap.objs.size s6 m H5 (I3.call' (ch := fp) I6.os I6.base I6.hok I6.bare fun b hb => ⟨(f3 b hb).1.2.2.2.1, (f3 b hb).1.2.1, (f3 b hb).1.2.2.2.2.1, (f3 b hb).1.2.2.2.2.2⟩) qq hn (I3.fpOk (Nat.le_refl _) nC)
    · refine thnF (T.item (X.blk s3 H3 scope ce fp) rfl rfl rfl hc i [] s5 _ H5 (fun _ _ => False) I5 (stat I5 n5) st5 go) fun r s6 ⟨u, hr, h6⟩ => ?_
      subst hr
      refine thnF h6 fun _ s7 ⟨x, H7, I7, r7, y7, st7, n7⟩ => ?_
      refine thnF (pg.run _ s7 _ H7 x u _ (I7.pinned (stat I7 n7) (T.obj _ _ st7)) r7 (step x H7 y7)) fun _ s8 ⟨σ8, H8, I8, hw8, q8⟩ => ?_
      refine thnF (pt.run _ s8 σ8 H8 _ I8 q8) fun b s9 ⟨H9, I9, q9⟩ => ?_
      have fin : ∀ {s' : Shared} {H' : Hp}, Inv (X.blk s3 H3 scope ce fp) ([] ++ pinsAt fp s7.heap) σ8 H' s' → Nx H' → ∃ m, m < n ∧ ∃ i H', Inv (X.blk s3 H3 scope ce fp) [] (L2.wipe σ (own.map (·.2))) H' s' ∧ tn i s'.heap ∧ (∀ b ∈ fp, H' b = none) ∧ W i m H' := fun {s' H'} I' nx => by
        obtain ⟨m', hm, w'⟩ := hNx H' nx
        have pin' : ∀ b ∈ fp, ∀ o, s7.heap.get? b = some o → s'.heap.get? b = some o ∧ H' b = none := fun b hb o e =>
          let z := I'.pin (b, o) (List.mem_append_right _ (List.mem_append_right _ (mem_pinsAt hb e)))
          ⟨z.1, z.2.1⟩
        refine ⟨m', hm, i + 1, H', (I'.unpinned (pins := [])).weak (by rw [← hw8, wipe_length]) (fun j v e => ?_), T.keep _ _ _ st7 fun b hb o e => (pin' b hb o e).1, fun b hb => ?_, w'⟩
        · rw [← hw8] at e
          exact (wipe_some e).1
        · obtain ⟨o, e, _⟩ := T.obj _ _ st7 b hb
          exact (pin' b hb o e).2
      cases b with
      | false =>
        simp only [Bool.false_eq_true, if_false] at q9 ⊢
        exact fin I9 q9
      | true =>
        simp only [if_true] at q9 ⊢
        refine thnF (pe.run _ s9 σ8 H9 _ I9 q9) fun z s10 ⟨yk, H10, I10, r10, q10⟩ => ?_
        refine thnF (pv.run _ s10 σ8 H10 _ I10 q10) fun z2 s11 ⟨yv, H11, I11, r11, k, l, G11, sg, dk, dl, hD11, hz11, nx⟩ => ?_
        exact dkO_put (X := X.blk s3 H3 scope ce fp) I11 sg r10 dk dl hD11 hz11 hu fun b s12 eb I12 => fin I12 (nx b z2 eb)
  exact codeAny_compStart_dict loop (T.self X.A 0 _ _ _ st4 loop)
theorem pe_dx {kx vx tg iter : Expr} {ifs : List Expr} {scope : Scope} {own : List (PySem.Str × Nat)} {pos : Pos} {wi : TI} {g : TG} {tt : TT} {te tv : TE} (hc : X.calm = true) (hN : X.N.Nodup) (hi : PI X tg iter wi) (ok : BlkOk X.N X.env.scope scope own)
    (hg : ∀ (s : Shared) (H : Hp) (C : Addr) (cl : List (PySem.Str × Addr)) (fp : List Addr), PG (X.blk s H scope (compEnvC scope cl C X.env) fp) tg g) (ht : ∀ (s : Shared) (H : Hp) (C : Addr) (cl : List (PySem.Str × Addr)) (fp : List Addr), PTs (X.blk s H scope (compEnvC scope cl C X.env) fp) ifs tt)
    (he : ∀ (s : Shared) (H : Hp) (C : Addr) (cl : List (PySem.Str × Addr)) (fp : List Addr), PE (X.blk s H scope (compEnvC scope cl C X.env) fp) kx te) (hv : ∀ (s : Shared) (H : Hp) (C : Addr) (cl : List (PySem.Str × Addr)) (fp : List Addr), PE (X.blk s H scope (compEnvC scope cl C X.env) fp) vx tv) (hu : X.A.units < cLine) (hs : ∀ x, foldedSetIterable iter X.env x = pure x := by intro _; rfl) :
    PE X (.DictComp kx vx [⟨tg, iter, ifs, 0⟩] scope pos) (tDx X wi g tt te tv (own.map (·.2))) := by
  refine ⟨fun pins s σ H Q I h => ?_⟩
  rw [arm_eval_DictComp]
  refine dx_core hc hN I hi ok hg ht he hv hs h hu fun D C s' m H' I' q hn f => ⟨m, hn, fun h'' sb => ?_⟩
  obtain ⟨f0, f1, f2, f3, f4, f5⟩ := f
  exact ⟨.ref D, H', I'.turned (t' := s'.toks) (fun b o hb e => (sb.2 b hb).trans e) f0 f1 f3 f4 f5, rfl, q⟩
/-- list(d) -/
theorem call_list_dk (hc : X.calm = true) : CallR X (.type "list") (fun xs H Q => ∃ (d : Addr) (l : DL), xs = [V.ref d] ∧ H d = some (DkO X.prog X.w d l) ∧ l.length ≤ sizeLine ∧ ∀ p, H p = none → Q (.ref p) (upd H p (.lst (l.map fun x => V.ref x.2.1)))) := by
  intro pins s σ H xs us Q I r h
  obtain ⟨d, l, rfl, hd, hz, q⟩ := h
  obtain ⟨u, rfl, rx⟩ := r.one
  cases rx
  obtain ⟨hs, o, es, ep, ho, hx, hdt, he, hn⟩ := (I.hok d _ hd).1
  have l1 : es.size = l.length := size_of_entries he
  refine PySem.W.kdl_call (kdl_raw hs hx hdt) (I.ok.hd hc) ho (by omega) fun h' tk acc' c' kp e it => ?_
  have ea : acc'.toList = (l.map fun x => x.2.1).map Value.ref := by
    have hl : acc'.toList.length = l.length := by rw [Array.length_toList, it.1]; exact l1
    refine List.ext_getElem? fun j => ?_
    rw [List.getElem?_map, List.getElem?_map]
    cases hb : l[j]? with
    | none =>
      have h1 := List.getElem?_eq_none_iff.mp hb
      rw [List.getElem?_eq_none (by omega)]
      rfl
    | some b =>
      have hlt := (List.getElem?_eq_some_iff.mp hb).1
      cases hj : acc'.toList[j]? with
      | none =>
        have h1 := List.getElem?_eq_none_iff.mp hj
        omega
      | some v =>
        obtain ⟨en, hen, hv⟩ := it.2 j v (by rw [← Array.getElem?_toList]; exact hj)
        have qe := entry_at he j
        rw [hen, hb] at qe
        have e2 : en = entryOfKey (kT X.prog X.w) b := Option.some.inj qe
        rw [hv, e2]
        rfl
  have rv : Vals (l.map fun x => V.ref x.2.1) acc'.toList := by
    rw [ea, show (l.map fun x => V.ref x.2.1) = (l.map fun x => x.2.1).map V.ref by rw [List.map_map]; rfl]
    exact vals_refs _
  have hz' : (l.map fun x => V.ref x.2.1).length ≤ sizeLine := by rw [List.length_map]; exact hz
  refine ⟨.ref s.heap.objs.size, _, I.laid (t' := tk) (o := .lst (l.map fun x => V.ref x.2.1)) kp (Nat.le_refl _) ?_, rfl, q _ (I.hok.fresh (Nat.le_refl _))⟩
  exact ⟨hz', acc'.toList, c', rv, by rw [Array.toArray_toList]; exact e⟩
theorem dd_snoc {α : Type} [DecidableEq α] (l : List α) (k : α) : BM.dd (l ++ [k]) = if k ∈ l then BM.dd l else BM.dd l ++ [k] := by
  induction l with
  | nil => simp [BM.dd]
  | cons a l ih =>
    rw [List.cons_append]
    unfold BM.dd
    rw [ih]
    by_cases e : k = a
    · subst e
      by_cases c : k ∈ l
      · simp [c]
      · simp [c, List.filter_append]
    · by_cases c : k ∈ l
      · simp [c]
      · simp [c, e, List.filter_append]
theorem stored_keys {l : DL} {k : List Str} {b : Addr} {vv : Value} : (storedH l k b vv).map (·.1) = if k ∈ l.map (·.1) then l.map (·.1) else l.map (·.1) ++ [k] := by
  by_cases c : k ∈ l.map (·.1)
  · rw [if_pos c]
    unfold storedH
    split
    · exact keys_map_putAt l k vv
    · rename_i h
      exfalso
      apply h
      obtain ⟨x, hx, e⟩ := List.mem_map.mp c
      unfold atKey
      rw [Option.isSome_map, List.find?_isSome]
      exact ⟨x, hx, by simpa using e⟩
  · rw [if_neg c]
    unfold storedH
    split
    · rename_i h
      exfalso
      apply c
      unfold atKey at h
      rw [Option.isSome_map, List.find?_isSome] at h
      obtain ⟨x, hx, e⟩ := h
      exact List.mem_map.mpr ⟨x, hx, by simpa using e⟩
    · rw [List.map_append]; rfl
theorem stored_mem {l : DL} {k : List Str} {b : Addr} {vv : Value} {x : List Str × Addr × Value} (h : x ∈ storedH l k b vv) : (∃ y ∈ l, y.1 = x.1 ∧ y.2.1 = x.2.1) ∨ (x.1 = k ∧ x.2.1 = b) := by
  unfold storedH at h
  split at h
  · obtain ⟨y, hy, rfl⟩ := List.mem_map.mp h
    refine .inl ⟨y, hy, ?_⟩
    unfold putAt
    split <;> exact ⟨rfl, rfl⟩
  · rcases List.mem_append.mp h with z | z
    · exact .inl ⟨x, z, rfl, rfl⟩
    · obtain rfl : x = (k, b, vv) := by simpa using z
      exact .inr ⟨rfl, rfl⟩
variable {kx vx tg iter : Expr} {scope : Scope} {own : List (PySem.Str × Nat)} {g : TG} {Γ : Gm} {Δ Δ1 : Cs} {p pos pos' : Pos}
/-- list({kx: vx for tg in iter}) -/
theorem je_listDc {α : Type} {l : List α} {ra : α → SV} {f : α → List Str} {dv : PyData} {Γa : α → Gm} {js : List Nat} (hc : X.calm = true) (hN : X.N.Nodup) (hu : X.A.units < cLine) (hm : X.mg "list" = none) (hi : JI X tg Δ Γ iter (l.map ra) Δ1) (ok : BlkOk X.N X.env.scope scope own)
    (hg : ∀ (s : Shared) (H : Hp) (C : Addr) (cl : List (PySem.Str × Addr)) (fp : List Addr), PG (X.blk s H scope (compEnvC scope cl C X.env) fp) tg g) (ht : ∀ a ∈ l, TgOk g js (ra a) (wipeG Γ (own.map (·.2))) (Γa a)) (hjs : ∀ j ∈ js, j ∈ own.map (·.2)) (hT : ∀ a ∈ l, AllJ X scope kx Δ1 (Γa a) (D X.K (eS (f a))) Δ1) (hV : ∀ a ∈ l, AllJ X scope vx Δ1 (Γa a) (D X.K dv) Δ1)
    (hz : l.length < sizeLine) (hgl : Gl X "list" := by rfl) (hs : ∀ x, foldedSetIterable iter X.env x = pure x := by intro _; rfl) (na : starEach [(.DictComp kx vx [⟨tg, iter, [], 0⟩] scope pos')] X.env = (false, eval (.DictComp kx vx [⟨tg, iter, [], 0⟩] scope pos') X.env) :: starEach [] X.env := by rfl) :
    JE X Δ Γ (.Call (.Name "list" p) [.DictComp kx vx [⟨tg, iter, [], 0⟩] scope pos'] [] pos) (L X.K ((BM.dd (l.map f)).map eS)) Δ1 := by
  refine je_of (pe_callTy (call_list_dk hc) hgl hm boot_listT (pa_cons (pe_dx (ifs := []) (tt := tBU (AllB X scope [])) (te := tJU (AllJ X scope kx)) (tv := tJU (AllJ X scope vx)) hc hN hi.use ok hg all_pt all_pe all_pe hu hs) pa_nil na) (by decide) (by decide) na rfl) fun σ G H Q hs0 sl q => ?_
  refine ⟨G, hs0, sl, fun It G1 H1 t w z => fun D0 hD => ?_⟩
  refine ⟨fun i m H => m = l.length - i ∧ i ≤ l.length ∧ ∃ G2 ms, H D0 = some (DkO X.prog X.w D0 ms) ∧ G2 D0 = none ∧ D0 ∉ dom Δ1 ∧ ms.map (·.1) = BM.dd ((l.map f).take i) ∧ (∀ x ∈ ms, (D X.K (eS x.1)).P (.ref x.2.1) G2) ∧ Tr Δ1 G1 H1 Δ1 G2 H ∧ Sl σ G2 Γ,
    ⟨l.length, rfl, Nat.zero_le _, G1, [], upd_same, none_of_sub t.hs.sub hD, t.hs.out hD, rfl, (fun x hx => by cases hx), (Up.hid t.hs.sub hD).up0 t.hs, sl.mono t.up⟩, ?_⟩
  rintro i m H2 ⟨rfl, hle, G2, ms, hx, hG, hn, dd, okm, t2, sl2⟩
  have hlen : (l.map ra).length = l.length := List.length_map ..
  have hml : ms.length ≤ i := by
    have h1 := congrArg List.length dd
    have h2 := BM.dd_len ((l.map f).take i)
    rw [List.length_map] at h1
    rw [List.length_take] at h2
    omega
  by_cases hlt : i < l.length
  · have hla : l[i]? = some l[i] := List.getElem?_eq_getElem hlt
    generalize l[i] = a at hla
    have hr : (l.map ra)[i]? = some (ra a) := by rw [List.getElem?_map, hla]; rfl
    have ha := List.mem_of_getElem? hla
    refine .inr ⟨w.go i G2 H2 t2.up t2.hs.sub (by rw [hlen]; exact hlt), fun H' => i + 1 ≤ l.length ∧ ∃ G2 ms, H' D0 = some (DkO X.prog X.w D0 ms) ∧ G2 D0 = none ∧ D0 ∉ dom Δ1 ∧ ms.map (·.1) = BM.dd ((l.map f).take (i + 1)) ∧ (∀ x ∈ ms, (D X.K (eS x.1)).P (.ref x.2.1) G2) ∧ Tr Δ1 G1 H1 Δ1 G2 H' ∧ Sl σ G2 Γ, fun H' q => ⟨l.length - (i + 1), by omega, rfl, q⟩, fun x H3 y => ?_⟩
    obtain ⟨G3, u3, p3⟩ := w.yld i G2 H2 x H3 _ t2.up t2.hs.sub hr y
    have t3 : Tr Δ1 G1 H1 Δ1 G3 H3 := t2.trans (u3.up0 t2.hs)
    have hx3 := u3.fr D0 _ (by simp [dom]) hx
    have tk := ht a ha
    refine tk x (L2.wipe σ (own.map (·.2))) G3 H3 _ t3.hs.sub p3 ((sl2.mono u3.up).wipe (own.map (·.2))) ?_
    intro σ4 sl4 hw
    refine ⟨?_, ?_⟩
    · rw [hw _ hjs]
      exact wipe_wipe _ _ fun _ h => h
    · refine ⟨Δ1, Γa a, dB true Δ1, fun _ _ _ _ _ => jbs_nil, G3, t3.hs, sl4, fun c G5 Δ5 H5 o t5 => ?_⟩
      obtain ⟨rfl, rfl⟩ := o
      have hx5 := t5.fr D0 _ hn hx3.1
      refine ⟨Δ5, Γa a, _, Δ5, hT a ha, G5, t5.hs, sl4.mono t5.up, fun v G6 H6 t6 p6 => ?_⟩
      have hx6 := t6.fr D0 _ hn hx5.1
      refine ⟨Δ5, Γa a, _, Δ5, hV a ha, G6, t6.hs, (sl4.mono t5.up).mono t6.up, fun v7 G7 H7 t7 p7 => ?_⟩
      have hx7 := t7.fr D0 _ hn hx6.1
      have hg7 := hx7.2 (hx6.2 (hx5.2 (hx3.2 hG)))
      have up7 : Same G2 G7 := u3.up.trans (t5.up.trans (t6.up.trans t7.up))
      have pk := (D X.K (eS (f a))).mono t7.up p6
      have okm7 : ∀ x ∈ ms, (D X.K (eS x.1)).P (.ref x.2.1) G7 := fun x hx => (D X.K _).mono up7 (okm x hx)
      refine ⟨f a, ms, G7, t7.hs.sub, pk.1, fun x hx => (okm7 x hx).1, hx7.1, by omega, fun b vv eb => ⟨hlt, G7, _, upd_same, hg7, hn, ?_, fun x hx => ?_, (t3.trans (t5.trans (t6.trans t7))).poke hD hg7 hn, sl2.mono up7⟩⟩
      · have e1 : (l.map f).take (i + 1) = (l.map f).take i ++ [f a] := by rw [List.take_succ, List.getElem?_map, hla]; rfl
        rw [stored_keys, dd, e1, dd_snoc]
        simp only [BM.dd_mem]
        split <;> rfl
      · rcases stored_mem hx with ⟨y, hy, e1, e2⟩ | ⟨e1, e2⟩
        · rw [← e1, ← e2]; exact okm7 y hy
        · rw [e1, e2, ← eb]; exact pk
  · have e : i = l.length := by omega
    subst e
    refine .inl ⟨w.stop _ G2 H2 t2.up t2.hs.sub hlen.symm, ⟨D0, ms, rfl, hx, by omega, fun p2 hp2 => ?_⟩⟩
    rw [show l.length = (l.map f).length from (List.length_map ..).symm, List.take_length] at dd
    have tt := t.trans t2
    refine q _ _ _ (tt.trans ((Up.new tt.hs.sub hp2).up0 tt.hs)) (new_lst (none_of_sub tt.hs.sub hp2) ?_ fun d hd => ?_)
    · rw [← dd]
      have key : ∀ ms : DL, (∀ x ∈ ms, (D X.K (eS x.1)).P (.ref x.2.1) G2) → DpAll X.K G2 (ms.map fun x => V.ref x.2.1) ((ms.map (·.1)).map eS) := fun ms => by
        induction ms with
        | nil => exact fun _ => .nil
        | cons x ms ih => exact fun k => .cons (k x (List.mem_cons_self ..)).1 (ih fun y hy => k y (List.mem_cons_of_mem _ hy))
      exact key ms okm
    · rw [← dd] at hd
      obtain ⟨x, hx, rfl⟩ := List.mem_map.mp hd
      obtain ⟨y, hy, rfl⟩ := List.mem_map.mp hx
      exact (okm y hy).2
end
end Bl
set_option Elab.async false
set_option linter.all false
set_option maxRecDepth 100000
set_option maxHeartbeats 2000000
/-! least_ones, least_meeting, statements -/
namespace Bl
open PySem PySem.Spec PyProof.Rows L2
section
variable {P : Program} {w : World} {K : PySem.W.Frag} {mg : Str → Option Value} {base : Heap} {C : Addr}
theorem hu0 {A : Around} {k : Nat} (hr : Room k A) : A.units < cLine := by have := hr.un; omega
abbrev N_lo : List Str := ["sets", "distinct", "one", "other"]
theorem sc_lo : FnScope N_lo ["sets"] (defScope (top 64)) := ⟨rfl, rfl, rfl, by decide +kernel, rfl, by decide +kernel, by decide +kernel⟩
def pm_lo (K : PySem.W.Frag) (rs : List SV) (r : SV) : Prop := ∃ a : List (List Str), a.length < 16777216 ∧ rs = [L K (a.map eS)] ∧ r = L K ((BM.leastOnes a).map eS)
theorem ok_lo (T : Tx K mg) : Ok P w K mg base 2 "least_ones" ["sets"] (pure0 (pm_lo K)) :=
  ok_of T.d_least_ones sc_lo (fun _ _ _ _ _ _ us hl => match us, hl with | [_], _ => rfl) (fun rs Δ r Δ' ⟨_, _, a, _, e, _⟩ => by rw [e]; rfl) fun f cdv A outer s H E rs Δ r Δ' hr hp => by
    obtain ⟨rfl, rfl, a, hz, rfl, rfl⟩ := hp
    refine jss_setE (i := 1) (je_listDc (l := a) (ra := fun x => D K (eS x)) (f := fun x => x) (dv := .bool true) (js := [2]) (own := [("one", 2)]) rfl sc_lo.nd (hu0 hr) T.f_list (ji_Le (je_var 0)) (blkOk_by (N := N_lo) (sc := defScope (top 64)) (by decide +kernel)) (fun _ _ _ _ _ => pg_name (i := 2) sc_lo.nd rfl (by first | exact Or.inl rfl | exact Or.inr rfl)) (fun a _ => tg_name 2) (fun _ h => h) (fun x _ _ _ _ _ _ => je_var 2) (fun x _ _ _ _ _ _ => je_bl) (by rw [line_eq]; exact hz)) sc_lo.nd ?_
    rw [List.map_id']
    refine jss_ret ?_ fnO_rt
    refine je_flt (l := BM.dd a) (js := [2]) (own := [("one", 2)]) rfl sc_lo.nd (ji_Le (je_var 1)) (blkOk_by (N := N_lo) (sc := defScope (top 64)) (by decide +kernel)) (fun _ _ _ _ _ => pg_name (i := 2) sc_lo.nd rfl (by first | exact Or.inl rfl | exact Or.inr rfl)) (fun a _ => tg_name 2) (fun _ h => h) (fun c _ s1 H1 C1 cl1 fp1 => ?_) fun c _ _ _ _ _ _ _ => ?_
    · refine jb_not (jb_val (je_anyF (l := BM.dd a) (q := fun other => BM.smaller other c) rfl T.f_any ?_))
      refine je_map (js := [3]) (own := [("other", 3)]) rfl sc_lo.nd (ji_Le (je_var 1)) (blkOk_by (by first | decide +kernel | rfl)) (fun _ _ _ _ _ => pg_name (i := 3) sc_lo.nd rfl (Or.inl rfl)) (fun a _ => tg_name 3) (fun _ h => h) fun d _ _ _ _ _ _ => ?_
      exact je_callP (ok_smp T) hr (ja_cons (je_var 3) (ja_cons (je_var 2) ja_nil)) ⟨d, c, rfl, rfl⟩
    · exact je_var 2
/-! least_meeting -/
abbrev N_lm2 : List Str := ["sets", "found", "one", "longer", "some", "holder"]
theorem sc_lm2 : FnScope N_lm2 ["sets"] (defScope (top 65)) := ⟨rfl, rfl, rfl, by decide +kernel, rfl, by decide +kernel, by decide +kernel⟩
def pm_lm2 (K : PySem.W.Frag) (rs : List SV) (r : SV) : Prop := ∃ (hs : List Str) (gs : List (List Str)), BM.Asc sLt hs ∧ hs.length ≤ 5 ∧ (∀ g ∈ gs, g.length ≤ 5 ∧ ∀ h ∈ g, h ∈ hs) ∧ rs = [D K (eR gs)] ∧ r = D K (eR (BM.leastMeeting sLt gs))
abbrev bergeF (gs : List (List Str)) (i : Nat) : List (List Str) := (gs.take i).foldl (BM.bergeStep sLt) [[]]
theorem berge_few {hs : List Str} {gs : List (List Str)} (ha : BM.Asc sLt hs) (h5 : hs.length ≤ 5) (hg : ∀ g ∈ gs, ∀ h ∈ g, h ∈ hs) (i : Nat) : (bergeF gs i).length ≤ 32 ∧ ∀ x ∈ bergeF gs i, x.length ≤ 5 := by
  have hb := BM.berge_fold so_sLt (gs.take i) [] [[]] (BM.min_nil (hs := hs)) (by simp) fun g hm => hg g (List.mem_of_mem_take hm)
  have sub : ∀ x ∈ bergeF gs i, x ∈ BM.lawSets hs := fun x hx => by
    have hm := (hb.1 x).mp hx
    exact (BM.sets_mem so_sLt ha x).mpr ⟨hm.asc, hm.sub⟩
  have h1 : (bergeF gs i).length ≤ _ := BM.nodup_sub_len hb.2 sub
  have h2 := (sets_at hs [[]] 0 (by simp)).1
  have h3 : (BM.lawSets hs).length = 2 ^ hs.length * 1 := h2
  rw [h3] at h1
  have h4 : 2 ^ hs.length ≤ 2 ^ 5 := Nat.pow_le_pow_right (by decide) h5
  refine ⟨by omega, fun x hx => ?_⟩
  have hm := (hb.1 x).mp hx
  have := BM.nodup_sub_len (hm.asc.nodup so_sLt) hm.sub
  omega
def longer1 (one : List Str) (s : List Str) : List (List Str) := if BM.meets s one then [s] else one.map fun h => BM.srt sLt (s ++ [h])
theorem ok_lm2 (T : Tx K mg) : Ok P w K mg base 3 "least_meeting" ["sets"] (pure0 (pm_lm2 K)) :=
  ok_of T.d_least_meeting sc_lm2 (fun _ _ _ _ _ _ us hl => match us, hl with | [_], _ => rfl) (fun rs Δ r Δ' ⟨_, _, _, _, _, _, _, e, _⟩ => by rw [e]; rfl) fun f cdv A outer s H E rs Δ r Δ' hr hp => by
    obtain ⟨rfl, rfl, hs, gs, ha, h5, hg, rfl, rfl⟩ := hp
    have few := berge_few ha h5 fun g hm => (hg g hm).2
    refine jss_setE (i := 1) (je_lst (ds := [eS []]) (ja_cons je_tup0 ja_nil)) sc_lm2.nd ?_
    refine jss_for (js := [2]) PassesOwn.never rfl (ji_Te (l := gs) (enc := eS) (je_var 0)) (pg_name (i := 2) sc_lm2.nd rfl (by first | exact Or.inl rfl | exact Or.inr rfl))
      (fun i Δ Γ => Δ = [] ∧ Γ = [some (D K (eR gs)), some (L K ((bergeF gs i).map eS)), none, none, none, none]) ⟨rfl, rfl⟩ (fun i r Δ Γ hr' hI => ?_) fun Δ Γ hI => ?_
    · obtain ⟨rfl, rfl⟩ := hI
      obtain ⟨g, hgi, rfl⟩ := at_map hr'
      obtain ⟨f1, f2⟩ := few i
      obtain ⟨g1, g2⟩ := hg g (List.mem_of_getElem? hgi)
      have hnx : bergeF gs (i + 1) = BM.leastOnes ((bergeF gs i).flatMap (longer1 g)) := by
        unfold bergeF
        rw [take_succ hgi, List.foldl_append]
        rfl
      generalize bergeF gs i = Fd at f1 f2 hnx ⊢
      refine ⟨_, tg_name 2, ?_⟩
      refine jss_set (i := 3) (jas_e (jx_newl (ds := []) ja_nil) sc_lm2.nd) ?_
      rintro r1 Δ1 ⟨p, rfl, rfl⟩
      have hlen : ∀ j, ((Fd.take j).flatMap (longer1 g)).length ≤ 160 := fun j => by
        have h1 := flatMap_le (f := longer1 g) (n := 5) (l := Fd.take j) fun x _ => by
          unfold longer1
          split
          · simp
          · rw [List.length_map]; exact g1
        rw [List.length_take] at h1
        omega
      refine jss_for (js := [4]) PassesOwn.never rfl (ji_Le (l := Fd) (enc := eS) (je_var 1)) (pg_name (i := 4) sc_lm2.nd rfl (by first | exact Or.inl rfl | exact Or.inr rfl))
        (fun j Δ Γ => Δ = [(p, LC K (((Fd.take j).flatMap (longer1 g)).map eS))] ∧ Γ = [some (D K (eR gs)), some (L K (Fd.map eS)), some (D K (eS g)), some (VV (.ref p)), none, none]) ⟨rfl, rfl⟩ (fun j r Δ Γ hr2 hI => ?_) fun Δ Γ hI => ?_
      · obtain ⟨rfl, rfl⟩ := hI
        obtain ⟨x, hx, rfl⟩ := at_map hr2
        have hxl := f2 x (List.mem_of_getElem? hx)
        have h1 := hlen j
        have h2 := hlen (j + 1)
        have htk : (Fd.take (j + 1)).flatMap (longer1 g) = (Fd.take j).flatMap (longer1 g) ++ longer1 g x := by rw [take_succ hx, List.flatMap_append]; simp
        generalize (Fd.take j).flatMap (longer1 g) = B at h1 htk ⊢
        refine ⟨_, tg_name 4, ?_⟩
        refine jss_ifB (Δ1 := [(p, LC K (B.map eS))]) (bb := BM.meets x g) (jb_val (je_callP (ok_meets T) (hr.mono (by decide)) (ja_cons (je_var 4) (ja_cons (je_var 2) ja_nil)) ⟨x, g, rfl, rfl⟩)) (fun hb => ?_) fun hb => ?_
        · refine jss_app (Δ1 := [(p, LC K (B.map eS))]) (i := 0) (j := 0) (j0 := 0) (p := p) (d := eS x) (ds0 := B.map eS) (ds := B.map eS) (je_var 3) rfl (je_var 4) rfl (by rw [List.length_map, line_eq]; omega) (jss_nil (jss_nil ⟨[_, _, _, _, none, none], .keep (.keep (.keep (.keep (.drop (.keep .nil))))), ?_, rfl⟩))
          have e : longer1 g x = [x] := by unfold longer1; rw [if_pos hb]
          rw [htk, e, List.map_append]
          rfl
        · have e : longer1 g x = g.map fun h => BM.srt sLt (x ++ [h]) := by unfold longer1; rw [if_neg (by rw [hb]; decide)]
          rw [htk, e, List.length_append, List.length_map] at h2
          refine jss_ext (Δ1 := [(p, LC K (B.map eS))]) (i := 0) (j := 0) (j0 := 0) (p := p) (ds0 := B.map eS) (ds := B.map eS) (ds1 := (g.map fun h => BM.srt sLt (x ++ [h])).map eS) (je_var 3) rfl ?_ rfl (by rw [List.length_map, List.length_map, List.length_map, line_eq]; omega) (jss_nil (jss_nil ⟨[_, _, _, _, none, none], .keep (.keep (.keep (.keep (.drop (.keep .nil))))), ?_, rfl⟩))
          · refine (je_map (l := g) (f := fun h => eS (BM.srt sLt (x ++ [h]))) (js := [5]) (own := [("holder", 5)]) rfl sc_lm2.nd (ji_Te (l := g) (enc := PyData.str) (je_var 2)) (blkOk_by (N := N_lm2) (sc := defScope (top 65)) (by decide +kernel)) (fun _ _ _ _ _ => pg_name (i := 5) sc_lm2.nd rfl (Or.inl rfl)) (fun a _ => tg_name 5) (fun _ h => h) fun h _ _ _ _ _ _ => ?_).leq (by rw [List.map_map]; rfl)
            refine je_tupleL (ds := (BM.srt sLt (x ++ [h])).map .str) T.f_tuple (je_sortST (l := x ++ [h]) (hu2 hr) T.f_sorted ((je_catT (ds1 := x.map .str) (ds2 := [.str h]) (je_var 4) (je_tup (ds := [.str h]) (ja_cons (je_var 5) ja_nil)) (by rw [line_eq, List.length_map]; simp; omega)).eq (by simp [eS])))
          · rw [htk, e, List.map_append]
            rfl
      · obtain ⟨rfl, rfl⟩ := hI
        have h1 := hlen Fd.length
        rw [List.length_map]
        rw [List.take_length] at h1 ⊢
        refine jss_pub (p := p) 3 0 rfl rfl ?_
        refine jss_setE (i := 1) (r := L K ((BM.leastOnes (Fd.flatMap (longer1 g))).map eS)) (je_callP (ok_lo T) hr (ja_cons (je_var 3) ja_nil) ⟨_, by omega, rfl, rfl⟩) sc_lm2.nd (jss_nil ⟨[_, _, none, none, none, none], .keep (.keep (.drop (.drop (.keep (.keep .nil))))), rfl, ?_⟩)
        rw [hnx]
    · obtain ⟨rfl, rfl⟩ := hI
      refine jss_ret (je_tupleL (ds := (BM.leastMeeting sLt gs).map eS) T.f_tuple (je_sortC (l := bergeF gs gs.length) (hu4 hr) T.f_sorted ((je_var 1).leq (by rw [List.length_map])) |>.leq ?_)) fnO_rt
      unfold bergeF BM.leastMeeting
      rw [List.take_length]
      rfl
/-! statements -/
abbrev N_st : List Str := ["book", "finds", "most"]
theorem sc_st : FnScope N_st ["book", "finds", "most"] (defScope (top 67)) := ⟨rfl, rfl, rfl, by decide +kernel, rfl, by decide +kernel, by decide +kernel⟩
theorem groups_good {cs : Copies} {fs : List Find} {most : Nat} (hc : CaseOk cs fs) : ∀ g ∈ groupsOf cs fs most, g.length ≤ 5 ∧ ∀ h ∈ g, h ∈ holders cs := fun g hg => by
  obtain ⟨h1, h2, h3, h4, h5⟩ := BM.lg_good so_sLt hg
  have := BM.nodup_sub_len (h1.nodup so_sLt) h2
  have h6 : (holders cs).length = cs.length := by unfold holders; rw [List.length_map]
  have := hc.few
  exact ⟨by omega, h2⟩
def pm_st (K : PySem.W.Frag) (C : Addr) (rs : List SV) (r : SV) : Prop := ∃ (ps : List (List Str)) (cs : Copies) (fs : List Find) (most : Nat), CaseOk cs fs ∧ rs = [Bk K C ps cs, D K (eFs fs), D K (.int most)] ∧ r = D K (eR (BM.leastMeeting sLt (groupsOf cs fs most)))
theorem ok_st (T : Tx K mg) (F : BkF K mg C) : OkK P w K mg base 10 "statements" ["book", "finds", "most"] 2 (pure0 (pm_st K C)) :=
  okk_of T.d_statements sc_st (fun _ _ _ _ _ _ us ws h1 h2 => match us, ws, h1, h2 with | [_, _], [_], _, _ => rfl) (fun rs Δ r Δ' ⟨_, _, _, _, _, _, _, e, _⟩ => by rw [e]; rfl) fun f cdv A outer s H E rs Δ r Δ' hr hp => by
    obtain ⟨rfl, rfl, ps, cs, fs, most, hc, rfl, rfl⟩ := hp
    exact jss_ret (je_callP (ok_lm2 T) (hr.mono (by decide)) (ja_cons (je_callK (ok_lg T F) hr (ja_cons (je_var 0) (ja_cons (je_var 1) ja_nil)) (je_var 2) ⟨ps, cs, fs, most, hc, rfl, rfl⟩) ja_nil) ⟨holders cs, groupsOf cs fs most, hc.asc, by have := hc.few; unfold holders; rw [List.length_map]; exact this, groups_good hc, rfl, rfl⟩) fnO_rt
end
end Bl
set_option Elab.async false
set_option linter.all false
set_option maxRecDepth 100000
set_option maxHeartbeats 2000000
/-! raise NotSaid(group), a def that may raise it, except NotSaid as e -/
namespace Bl
open PySem PySem.Spec PyProof.Rows L2
structure NsF (K : PySem.W.Frag) (mg : Str → Option Value) (Cn Cb : Addr) : Prop where
  gN : mg "NotSaid" = some (.ref Cn)
  gB : mg "BlendError" = some (.ref Cb)
  ox : OexC K Cn
  xf : XfC K Cn
  no : PySem.W.findIn K (.ref Cn) "group" = some none
  em : PySem.W.exmOne K (.ref Cn) (.ref Cn) = some true
  init : ∃ f fd, PySem.W.findIn K (.ref Cn) "__init__" = some (some (.ref f)) ∧ PySem.W.typeIn K (.ref f) = some (.type "function") ∧ FunD K "__init__" "NotSaid.__init__" (defArgs nst) (defBody nst) (defScope nst) [] [] f fd
  br : PySem.W.readsIn K Cb (.type "type") = true
  bg : PySem.W.specialIn K (.ref Cb) "__getattribute__" = some (some (.builtin "type.__getattribute__"))
  bi : PySem.W.findCls K (.ref Cb) (.type "type") "__init__" = some (.val (.builtin "ValueError.__init__"))
section
variable {X : Cx} {e : Expr} {es : List Expr} {ta : TA} {p p1 p2 pos : Pos} {Cb : Addr} {x : Str}
/-- B.__init__(self, ..), B an own class whose __init__ is ValueError's -/
theorem pe_beinit {pl : Sem Bool} (hg : Gl X x) (hm : X.mg x = some (.ref Cb)) (br : PySem.W.readsIn X.K Cb (.type "type") = true) (bg : PySem.W.specialIn X.K (.ref Cb) "__getattribute__" = some (some (.builtin "type.__getattribute__")))
    (bi : PySem.W.findCls X.K (.ref Cb) (.type "type") "__init__" = some (.val (.builtin "ValueError.__init__"))) (ha : PA X (e :: es) ta) (hd : (x == ("__debug__" : Str)) = false)
    (hc : eval (.Call (.Attribute (.Name x p1) "__init__" p2) (e :: es) [] pos) X.env = (do
      let ov ← eval (.Name x p1) X.env
      standAt p2.atName
      let (f, first) ← holding [ov] (getMethod ov "__init__" pl)
      callWith pos f first (backTo pos (starEach (e :: es) X.env)) (backToKw pos (keywordEach [] X.env))) := by rfl)
    (he : starEach (e :: es) X.env = (false, eval e X.env) :: starEach es X.env := by rfl) (hpl : (backTo pos (starEach es X.env)).any (·.1) = false := by rfl) :
    PE X (.Call (.Attribute (.Name x p1) "__init__" p2) (e :: es) [] pos) (tVeI X.K ta) := by
  refine ⟨fun pins s σ H Q I h => ?_⟩
  refine PySem.W.methodCall_KW (ld_glob I hg hm ?_ hd) hc
  refine PySem.W.method_cls I.kIn bg (PySem.W.cls_value I.kIn br bi (by decide +kernel) ?_)
  show wpAny _ _ (callWith pos (Value.builtin "ValueError.__init__") [] (backTo pos (starEach (e :: es) X.env)) []) _ _ _
  refine PyProof.Rows.callWith_method1 (thn (ha.run pos pins _ σ H _ (I.tok _) h) fun us s1 ⟨vs, H1, I1, r1, a, C, ws, ev, hl, T, ea, q⟩ => ?_) he hpl
  subst ev
  cases r1 with
  | @cons _ u0 _ ur ra rw' =>
    obtain rfl : u0 = Value.ref a := ra
    exact oinit_ok T I1 ea (by rw [← Paired.length rw', sizeLine_eq]; omega) fun s' J => ⟨.non, H1, J, rfl, q⟩
end
section
variable {P : Program} {w : World} {K : PySem.W.Frag} {mg : Str → Option Value} {base : Heap} {Cn Cb : Addr}
theorem sc_ns : FnScope ["self", "group"] ["self", "group"] (defScope nst) := ⟨rfl, rfl, rfl, by decide +kernel, rfl, by decide +kernel, by decide +kernel⟩
def spNS (Cn : Addr) : Sp := fun vs H Q _ => ∃ (a : Addr) (v : V), vs = [.ref a, v] ∧ H a = some (exo a Cn none) ∧ ∀ d, H d = none → d ≠ a → Q .non (upd (upd H d (exd d [("group", v)])) a (exo a Cn (some d)))
theorem ok_ns (N : NsF K mg Cn Cb) : ∃ f fd, PySem.W.findIn K (.ref Cn) "__init__" = some (some (.ref f)) ∧ PySem.W.typeIn K (.ref f) = some (.type "function") ∧ FnOk P w K mg base CX0 1 f fd ["self", "group"] (spNS Cn) ∧ Binds K fd ["self", "group"] [] := by
  obtain ⟨f, fd, h1, h2, F⟩ := N.init
  refine ⟨f, fd, h1, h2, F.ok (k := 0) sc_ns (fun vs H Q E ⟨_, _, e, _⟩ => by rw [e]; rfl) fun cdv A outer s H vs Q E hr ⟨a, v, ev, ha, q⟩ => ?_, F.bindsN fun _ _ _ _ _ _ us hl => match us, hl with | [_, _], _ => rfl⟩
  refine ⟨_, pss_cons (ps_expr (pe_beinit (Cb := Cb) rfl N.gB N.br N.bg N.bi (pa_cons (pe_var (i := 0) rfl (Or.inl rfl) (by decide) (by decide)) (pa_cons pe_str pa_nil)) (by decide))) (pss_one (ps_ost (pe_var (i := 0) rfl (Or.inl rfl) (by decide) (by decide)) (pe_var (i := 1) rfl (Or.inl rfl) (by decide) (by decide)))), ?_⟩
  subst ev
  refine ⟨_, rfl, a, Cn, _, rfl, ?_, N.ox, ha, _, rfl, _, rfl, a, Cn, rfl, N.ox, N.no, .inl ⟨ha, fun d hd hne => q d hd hne⟩⟩
  decide
/-! ### statements that may raise -/
abbrev Xpt := Value → Option Addr → Hp → Hp → Prop
structure JSr (X : Cx) (W : WX) (Δ : Cs) (Γ : Gm) (sts : List Stmt) (O : En → Prop) (Xp : Xpt) : Prop where
  run : ∀ (pins : List (Addr × Obj)) (s : Shared) (σ : L2.St) (G H : Hp), Inv X pins σ H s → Hs Δ G H → Sl σ G Γ → (∀ cls d σ' G' H', Tr Δ G H Δ G' H' → Xp cls d G' H' → W cls d σ' H') → wpAny (model X.prog X.w) X.A (execs sts X.env) (SP X pins (ends O Δ G H)) X.xe s
section
variable {X : Cx} {W : WX} {Δ Δ1 : Cs} {Γ : Gm} {sts rest body : List Stmt} {O : En → Prop} {Xp : Xpt} {c e tg iter : Expr} {pos pos' p : Pos}
theorem JSs.r (h : JSs X.nox Δ Γ sts O) : JSr X W Δ Γ sts O Xp := ⟨fun pins s σ G H I hs sl _ => h.nox.run pins s σ G H I hs sl⟩
theorem jsr_if {bb : Bool} (hc : JB X Δ Γ c (dB bb Δ)) (h1 : bb = true → JSr X W Δ Γ body O Xp) (h2 : bb = false → O (.nx Δ Γ)) : JSr X W Δ Γ [.If c body [] pos] O Xp := ⟨fun pins s σ G H I hs sl hW => by
  rw [execs_one]
  refine wpAny_If (thn (hc.run pins s σ G H I hs sl) fun b s1 ⟨H1, I1, G1, Δ1, ⟨e1, e2⟩, t⟩ => ?_)
  subst e2
  cases b with
  | true => exact thn ((h1 e1.symm).run pins s1 σ G1 H1 I1 t.hs (sl.mono t.up) fun cls d σ' G' H' t' x => hW cls d σ' G' H' (t.trans t') x) fun f s2 q => sp_srv q (srv_ends.trans t)
  | false => exact wpAny_execs_nil ⟨σ, H1, I1, G1, _, Γ, h2 e1.symm, t, sl.mono t.up⟩⟩
theorem jsr_for {g : TG} {js : List Nat} {vs : List SV} (hp : PassesOwn (model X.prog X.w) X.A X.env X.xe) (hc : X.calm = true) (hi : JI X tg Δ Γ iter vs Δ) (hg : PG X tg g) (I : Nat → Gm → Prop) (h0 : I 0 Γ)
    (hb : ∀ i r Γ, vs[i]? = some r → I i Γ → ∃ Γ', TgOk g js r Γ Γ' ∧ JSr X W Δ Γ' body (fun e => match e with | .nx Δ2 Γ2 => Δ2 = Δ ∧ ∃ Γ3, GLe Γ2 Γ3 ∧ I (i + 1) Γ3 | _ => False) Xp) (hd : ∀ Γ, I vs.length Γ → JSr X W Δ Γ rest O Xp)
    (hs : ∀ x, foldedSetIterable iter X.env x = pure x := by intro _; rfl) : JSr X W Δ Γ (.For tg iter body [] pos :: rest) O Xp := ⟨fun pins s σ G H J hs0 sl hW => by
  have hp2 : PSs X (.For tg iter body [] pos :: rest) _ := pss_cons (ps_for hp hc hi.use hg (tb := fun D σ H => ∃ (G2 : Hp) (Γ2 : Gm) (i : Nat), JSr X W Δ Γ2 body (fun e => match e with | .nx Δ2 Γ2 => Δ2 = Δ ∧ ∃ Γ3, GLe Γ2 Γ3 ∧ I (i + 1) Γ3 | _ => False) Xp ∧ Hs Δ G2 H ∧ Sl σ G2 Γ2 ∧ (∀ cls d σ' G' H', Tr Δ G2 H Δ G' H' → Xp cls d G' H' → W cls d σ' H') ∧ ∀ σ3 G3 H3 Γ3, I (i + 1) Γ3 → Tr Δ G2 H Δ G3 H3 → Sl σ3 G3 Γ3 → D.nx σ3 H3)
    ⟨fun pins s σ H D J ⟨G2, Γ2, i, hj, h1, h2, h3, h4⟩ => thn (hj.run pins s σ G2 H J h1 h2 h3) fun f s' q => sp_mono q (fun σ3 H3 ⟨G3, Δ3, Γ3, ⟨e, Γ4, l4, i4⟩, t3, s3⟩ => by subst e; exact h4 σ3 G3 H3 Γ4 i4 t3 (s3.le l4)) (fun _ _ ⟨_, _, _, o, _⟩ => o.elim) (fun _ _ ⟨_, _, _, o, _⟩ => o.elim) fun _ _ ⟨_, _, _, o, _⟩ => o.elim⟩ hs)
    (u := fun D σ H => ∃ (G2 : Hp) (Γ2 : Gm), I vs.length Γ2 ∧ Hs Δ G2 H ∧ Sl σ G2 Γ2 ∧ (∀ cls d σ' G' H', Tr Δ G2 H Δ G' H' → Xp cls d G' H' → W cls d σ' H') ∧ Srv O Δ G2 H D)
    ⟨fun pins s σ H D J ⟨G2, Γ2, i2, h1, h2, h3, h4⟩ => thn ((hd Γ2 i2).run pins s σ G2 H J h1 h2 h3) fun f s' q => sp_srv q h4⟩
  refine hp2.run pins s σ H _ J ⟨G, hs0, sl, fun It G1 H1 t w z => ?_⟩
  refine ⟨fun i m σ H => m = vs.length - i ∧ i ≤ vs.length ∧ ∃ Γ2 G2, I i Γ2 ∧ Tr Δ G1 H1 Δ G2 H ∧ Sl σ G2 Γ2, ⟨vs.length, rfl, Nat.zero_le _, Γ, G1, h0, Tr.refl t.hs, sl.mono t.up⟩, ?_⟩
  rintro i m σ2 H2 ⟨rfl, hle, Γ2, G2, i2, t2, sl2⟩
  by_cases hlt : i < vs.length
  · refine .inr ⟨w.go i G2 H2 t2.up t2.hs.sub hlt, fun σ' H' => i + 1 ≤ vs.length ∧ ∃ Γ2 G2, I (i + 1) Γ2 ∧ Tr Δ G1 H1 Δ G2 H' ∧ Sl σ' G2 Γ2, fun σ' H' q => ⟨vs.length - (i + 1), by omega, rfl, q⟩, fun x H' y => ?_⟩
    have hr : vs[i]? = some vs[i] := List.getElem?_eq_getElem hlt
    obtain ⟨G3, u3, p3⟩ := w.yld i G2 H2 x H' _ t2.up t2.hs.sub hr y
    have t3 : Tr Δ G1 H1 Δ G3 H' := t2.trans (u3.up0 t2.hs)
    obtain ⟨Γ3, tk, hbody⟩ := hb i _ Γ2 hr i2
    refine tk x σ2 G3 H' _ t3.hs.sub p3 (sl2.mono u3.up) fun σ4 sl4 _ => ⟨G3, Γ3, i, hbody, t3.hs, sl4, fun cls d σ' G' H' t' x => hW cls d σ' G' H' ((t.trans t3).trans t') x, fun σ5 G5 H5 Γ5 i5 t5 s5 => ⟨hlt, Γ5, G5, i5, t3.trans t5, s5⟩⟩
  · have e : i = vs.length := by omega
    subst e
    exact .inl ⟨w.stop _ G2 H2 t2.up t2.hs.sub rfl, G2, Γ2, i2, t2.hs, sl2, fun cls d σ' G' H' t' x => hW cls d σ' G' H' ((t.trans t2).trans t') x, srv_ends.trans (t.trans t2)⟩⟩
/-- raise NotSaid(e) -/
theorem jsr_raise {x : Str} {d0 : PyData} {k : Nat} (N : NsF X.K X.mg Cn Cb) (hx : x = "NotSaid") (hc : X.calm = true) (tk : Takes X W) (hr : Room (k + 2) X.A) (he : JE X Δ Γ e (D X.K d0) Δ)
    (hX : ∀ dd v G' H', H' dd = some (.xd [("group", v)]) → (D X.K d0).P v G' → Xp (.ref Cn) (some dd) G' H') (hg : Gl X x := by rfl) (hs : starEach (e :: []) X.env = (false, eval e X.env) :: starEach [] X.env := by rfl) (hpl : (backTo pos (starEach [] X.env)).any (·.1) = false := by rfl) :
    JSr X W Δ Γ [.Raise (some (.Call (.Name x p) [e] [] pos)) none pos'] O Xp := ⟨fun pins s σ G H I hs0 sl hW => by
  subst hx
  obtain ⟨f, fd, h1, h2, F, hb⟩ := ok_ns (P := X.prog) (w := X.w) (base := X.base) N
  have hp : PSs X [.Raise (some (.Call (.Name "NotSaid" p) [e] [] pos)) none pos'] _ := pss_one (ps_raise (W := W) hc tk (pmk_oex N.ox h1 h2 F (hr.mono (by omega)) hb .nil pass0 hg N.gN (ja_cons he ja_nil hs).use (by decide) hs hpl))
  refine hp.run pins s σ H _ I ⟨G, hs0, sl, fun vs G1 H1 t ps => ?_⟩
  obtain ⟨v, rfl, pv⟩ := paired1 ps
  refine ⟨by show 1 ≤ 1000; decide, fun a ha => ⟨a, v, rfl, upd_same, fun dd hdd hne => ⟨rfl, dd, _, upd_same, by rw [upd_ne hne]; exact upd_same, ?_, ?_⟩⟩⟩
  · rw [upd_ne hne] at hdd; exact hdd
  · have hdd1 : H1 dd = none := by rw [upd_ne hne] at hdd; exact hdd
    have eH : (upd (L2.del (upd (upd (upd H1 a (exo a Cn none)) dd (exd dd [("group", v)])) a (exo a Cn (some dd))) a) dd (.xd [("group", v)])) = upd H1 dd (.xd [("group", v)]) := by
      funext b
      by_cases hb : b = dd
      · subst hb; rw [upd_same, upd_same]
      · rw [upd_ne hb, upd_ne hb]
        by_cases hba : b = a
        · subst hba; rw [del_same]; exact ha.symm
        · rw [del_ne hba, upd_ne hba, upd_ne hb, upd_ne hba]
    rw [eH]
    exact hW _ _ σ G1 _ (t.trans ((Up.hid t.hs.sub hdd1).up0 t.hs)) (hX dd v G1 _ upd_same pv)⟩
end
/-! ### a def that may raise -/
abbrev PrmX := List SV → Cs → SV → Cs → Xpt → Prop
def spX (Pre : PrmX) : Sp := fun vs H Q E => ∃ G rs Δ r Δ' Xp, Pre rs Δ r Δ' Xp ∧ Hs Δ G H ∧ PR G vs rs ∧ (∀ v G' H', Tr Δ G H Δ' G' H' → r.P v G' → Q v H') ∧ ∀ cls d G' H', Tr Δ G H Δ G' H' → Xp cls d G' H' → E cls d H'
abbrev cxX (P : Program) (w : World) (K : PySem.W.Frag) (mg : Str → Option Value) (base : Heap) (N : List Str) (x : Str) (i : Nat) (f : Addr) (cdv : Value) (A : Around) (outer : List Env) (s : Shared) (H : Hp) (E : XK) : Cx := cxOf (L2.CX P w) P w K mg base N x (defScope (top i)) f cdv A outer s H E
structure OkKX (P : Program) (w : World) (K : PySem.W.Frag) (mg : Str → Option Value) (base : Heap) (k : Nat) (x : Str) (ps : List Str) (n : Nat) (Pre : PrmX) : Prop where
  ex : ∃ f fd, FnOk P w K mg base (L2.CX P w) k f fd ps (spX Pre) ∧ mg x = some (.ref f) ∧ PySem.W.keepIn K (.ref f) = true ∧ KBn K fd ps n (["most"] : List Str) (fun us ws => us ++ ws) (fun vs zs => vs ++ zs)
theorem okkx_of {x : Str} {i : Nat} {N ps : List Str} {k n : Nat} {Pre : PrmX} (d : DefAt K mg x i) (S : FnScope N ps (defScope (top i)))
    (hbind : ∀ (kV doc pm : Value) (an : Option Addr) (cdv ct : Value) (us ws : List Value), us.length = n → ws.length = 1 → bindArgs (PySem.W.fnOf x x (defArgs (top i)) (defBody (top i)) (defScope (top i)) .none kV doc pm an cdv ct) ⟨us, (["most"] : List Str).zip ws⟩ = pure (ps.zip (us ++ ws)))
    (hlen : ∀ rs Δ r Δ' Xp, Pre rs Δ r Δ' Xp → rs.length = ps.length)
    (hb : ∀ (f : Addr) (cdv : Value) (A : Around) (outer : List Env) (s : Shared) (H : Hp) (E : XK) (rs : List SV) (Δ : Cs) (r : SV) (Δ' : Cs) (Xp : Xpt), Room k (A.deeper (envOfC x (defScope (top i)) s.heap.objs.size f cdv)) → Pre rs Δ r Δ' Xp →
      Takes (cxX P w K mg base N x i f cdv A outer s H E) (fun cls d _ H => E cls d H) → PassesOwn (model P w) (A.deeper (envOfC x (defScope (top i)) s.heap.objs.size f cdv)) (envOfC x (defScope (top i)) s.heap.objs.size f cdv) (cxX P w K mg base N x i f cdv A outer s H E).xe →
      JSr (cxX P w K mg base N x i f cdv A outer s H E) (fun cls d _ H => E cls d H) Δ (start0 N rs) (defBody (top i)) (fnO r Δ') Xp) : OkKX P w K mg base (k + 1) x ps n Pre := by
  obtain ⟨f, fd, F, hm⟩ := d
  refine ⟨f, fd, F.ok S (fun vs H Q E ⟨G, rs, Δ, r, Δ', Xp, hp, _, pr, _⟩ => by rw [Paired.length pr]; exact hlen rs Δ r Δ' Xp hp) fun cdv A outer s H vs Q E hr ⟨G, rs, Δ, r, Δ', Xp, hp, hs, pr, q, qx⟩ => ?_, hm, F.kp, kbn_of F n hbind⟩
  have hJ := hb f cdv A outer s H E rs Δ r Δ' Xp hr hp (takes_of rfl rfl rfl rfl) (passes_of (X := cxX P w K mg base N x i f cdv A outer s H E) (K := fun e s'' => L2.CX P w outer H s E e s'') (E₁ := fun e s'' => L2.CX P w outer H s E e s'') rfl)
  refine ⟨fun D σ H1 => ∃ (G1 : Hp), Hs Δ G1 H1 ∧ Sl σ G1 (start0 N rs) ∧ (∀ cls d G' H', Tr Δ G1 H1 Δ G' H' → Xp cls d G' H' → E cls d H') ∧ Srv (fnO r Δ') Δ G1 H1 D, ⟨fun pins s1 σ H1 D I ⟨G1, h1, h2, h3, h4⟩ => thn (hJ.run pins s1 σ G1 H1 I h1 h2 fun cls d _ G' H' => h3 cls d G' H') fun f s' q => sp_srv q h4⟩, G, hs, sl_start pr, qx, ?_⟩
  exact ⟨fun σ' G' H' Δ2 Γ' ⟨e, k⟩ t sl => by subst e; exact q _ G' H' t (k G'), fun v G' H' Δ2 r2 ⟨e, k⟩ t p => by subst e; exact q v G' H' t (k v G' p), fun _ _ _ _ _ o => o.elim, fun _ _ _ _ _ o => o.elim⟩
end
end Bl
set_option Elab.async false
set_option linter.all false
set_option maxRecDepth 100000
set_option maxHeartbeats 2000000
/-! tree_for -/
namespace Bl
open PySem PySem.Spec PyProof.Rows L2
theorem TreeOk.mono {rows : List (List Str)} {S : List Str} {most n : Nat} {way : List Str} {t : PyData} (h : TreeOk rows S most n way t) : ∀ {m : Nat}, n ≤ m → TreeOk rows S most m way t := by
  induction h with
  | @mk n way c bs h1 h2 h3 h4 h5 ih =>
    intro m hm
    exact .mk h1 h2 h3 (fun hne => Nat.lt_of_lt_of_le (h4 hne) hm) fun b hb => ih b hb (by omega)
section
variable {P : Program} {w : World} {K : PySem.W.Frag} {mg : Str → Option Value} {base : Heap} {C : Addr} {c Pt Cn Cb : Addr}
theorem fc_sub {cs : Copies} {f : Find} : ∀ r ∈ findClauses cs f, ∀ h ∈ r, h ∈ holders cs := by
  intro r hr h hh
  unfold findClauses at hr
  obtain ⟨q, _, hr⟩ := List.mem_flatMap.mp hr
  have sub : ∀ (p : Str × List Str → Bool) (x : Str), x ∈ (cs.filter p).map (·.1) → x ∈ holders cs := fun p x hx => by
    obtain ⟨a, ha, rfl⟩ := List.mem_map.mp hx
    exact List.mem_map_of_mem (List.mem_filter.mp ha).1
  unfold entry1 at hr
  split at hr
  · cases hr
  · unfold entryClauses at hr
    split at hr
    · obtain rfl := List.mem_singleton.mp hr
      cases hh
    · split at hr
      · obtain rfl := List.mem_singleton.mp hr
        exact sub _ _ hh
      · obtain ⟨m, _, rfl⟩ := List.mem_map.mp hr
        exact sub _ _ hh
theorem clauses_sub {cs : Copies} {fs : List Find} : ∀ r ∈ clauses cs fs, ∀ h ∈ r, h ∈ holders cs := fun r hr h hh => by
  have hr := BM.ss_mem.mp hr
  rcases List.mem_cons.mp hr with rfl | hr
  · exact hh
  · obtain ⟨f, _, hr⟩ := List.mem_flatMap.mp hr
    exact fc_sub r hr h hh
theorem holders_in {cs : Copies} {fs : List Find} : holders cs ∈ clauses cs fs := BM.ss_mem.mpr (List.mem_cons_self ..)
abbrev N_tf : List Str := ["book", "finds", "statement", "most", "group"]
theorem sc_tf : FnScope N_tf ["book", "finds", "statement", "most"] (defScope (top 34)) := ⟨rfl, rfl, rfl, by decide +kernel, rfl, by decide +kernel, by decide +kernel⟩
/-- the raise of NotSaid(g), its fields at dd -/
def xpNS (K : PySem.W.Frag) (Cn : Addr) (gs : List (List Str)) (S : List Str) : Xpt := fun cls d G' H' => cls = .ref Cn ∧ ∃ dd v g, d = some dd ∧ H' dd = some (.xd [("group", v)]) ∧ (D K (eS g)).P v G' ∧ g ∈ gs ∧ BM.meets g S = false
def tfR (K : PySem.W.Frag) (cs : Copies) (fs : List Find) (S : List Str) (most : Nat) : SV := SV.ex (fun t : PyData => (∀ g ∈ groupsOf cs fs most, BM.meets g S = true) ∧ TreeOk (clauses cs fs) S most 6 [] t) (D K)
def pm_tf (K : PySem.W.Frag) (C Pt Cn : Addr) : PrmX := fun rs Δ r Δ' Xp => ∃ (ps : List (List Str)) (cs : Copies) (fs : List Find) (S : List Str) (most : Nat), CaseOk cs fs ∧ rs = [Bk K C ps cs, D K (eFs fs), D K (eS S), D K (.int most)] ∧ Δ = [(Pt, TbC qLam)] ∧ r = tfR K cs fs S most ∧ Δ' = [(Pt, TbC qLam)] ∧ Xp = xpNS K Cn (groupsOf cs fs most) S
theorem ok_tf (T : Tx K mg) (F : BkF K mg C) (TB : TbF K mg base c Pt) (N : NsF K mg Cn Cb) : OkKX P w K mg base 10 "tree_for" ["book", "finds", "statement", "most"] 3 (pm_tf K C Pt Cn) :=
  okkx_of T.d_tree_for sc_tf (fun _ _ _ _ _ _ us ws h1 h2 => match us, ws, h1, h2 with | [_, _, _], [_], _, _ => rfl) (fun rs Δ r Δ' Xp ⟨_, _, _, _, _, _, e, _⟩ => by rw [e]; rfl) fun f cdv A outer s H E rs Δ r Δ' Xp hr hp tk po => by
    obtain ⟨ps, cs, fs, S, most, hc, rfl, rfl, rfl, rfl, rfl⟩ := hp
    refine jsr_for (js := [4]) po rfl (ji_Te (l := groupsOf cs fs most) (enc := eS) (je_callK (ok_lg T F) hr (ja_cons (je_var 0) (ja_cons (je_var 1) ja_nil)) (je_var 3) ⟨ps, cs, fs, most, hc, rfl, rfl⟩)) (pg_name (i := 4) sc_tf.nd rfl (by first | exact Or.inl rfl | exact Or.inr rfl))
      (fun i Γ => (∀ g ∈ (groupsOf cs fs most).take i, BM.meets g S = true) ∧ Γ = [some (Bk K C ps cs), some (D K (eFs fs)), some (D K (eS S)), some (D K (.int most)), none]) ⟨by simp, rfl⟩ (fun i r Γ hr' hI => ?_) fun Γ hI => ?_
    · obtain ⟨h1, rfl⟩ := hI
      obtain ⟨g, hg, rfl⟩ := at_map hr'
      refine ⟨_, tg_name 4, ?_⟩
      refine jsr_if (bb := !BM.meets g S) (jb_not (jb_val (je_callP (ok_meets T) (hr.mono (by decide)) (ja_cons (je_var 4) (ja_cons (je_var 2) ja_nil)) ⟨g, S, rfl, rfl⟩))) (fun hb => ?_) fun hb => ?_
      · refine jsr_raise (k := 7) (d0 := eS g) N rfl rfl tk hr (je_var 4) fun dd v G' H' h2 h3 => ⟨rfl, dd, v, g, rfl, h2, h3, List.mem_of_getElem? hg, by simpa using hb⟩
      · refine ⟨rfl, [_, _, _, _, none], .keep (.keep (.keep (.keep (.drop .nil)))), ?_, rfl⟩
        rw [take_succ hg]
        intro x hx
        rcases List.mem_append.mp hx with z | z
        · exact h1 x z
        · obtain rfl : x = g := by simpa using z
          simpa using hb
    · obtain ⟨h1, rfl⟩ := hI
      rw [List.length_map, List.take_length] at h1
      refine JSs.r ?_
      have hlen : (holders cs).length ≤ 5 := by unfold holders; rw [List.length_map]; exact hc.few
      refine jss_retX (je_call (Δ0 := [(Pt, TbC qLam)]) (Δr := []) (Δ0' := [(Pt, TbC qLam)]) (ok_tb T TB (holders cs).length) (hr.mono (by omega)) (ja_cons (je_callP (ok_cl T F) (hr.mono (by decide)) (ja_cons (je_var 0) (ja_cons (je_var 1) ja_nil)) ⟨ps, cs, fs, hc, rfl, rfl⟩) (ja_cons (je_var 2) (ja_cons (je_var 3) (ja_cons je_tup0 ja_nil))))
        ⟨holders cs, clauses cs fs, S, most, [], ⟨clauses_sub, fun W h2 h3 h4 => BM.unmet_some so_sLt holders_in h1 h2 h3 h4, List.nodup_nil, by simp, Nat.zero_le _⟩, by simp, hlen, rfl, rfl, rfl, rfl⟩).x fun r Δ1 ⟨e1, e2⟩ => ?_
      subst e1 e2
      exact ⟨rfl, fun v G ⟨t, ht, pv⟩ => ⟨t, ⟨h1, ht.mono (by omega)⟩, pv⟩⟩
end
end Bl
set_option Elab.async false
set_option linter.all false
set_option maxRecDepth 100000
set_option maxHeartbeats 2000000
/-! _law_heard -/
namespace Bl
open PySem PySem.Spec PyProof.Rows L2
theorem Sl.unset {σ : L2.St} {G : Hp} {Γ : Gm} {i : Nat} (h : Sl σ G Γ) : Sl (σ.set i none) G (Γ.set i none) := ⟨by simpa using h.len, fun j r q => by
  by_cases hj : i = j
  · subst hj
    rw [List.getElem?_set_self'] at q
    cases hg : Γ[i]? with
    | none => rw [hg] at q; cases q
    | some x => rw [hg] at q; cases q
  · rw [List.getElem?_set_ne hj] at q ⊢
    exact h.at_ j r q⟩
section
variable {X : Cx} {CX : CXT} {k n : Nat} {f : Addr} {fd : FuncData} {ps ks : List Str} {sp : Sp} {E : L2.St → XK} {x : Str} {p pos : Pos} {e : Expr} {es : List Expr} {kws : List Keyword} {t tk : TA} {g : List Value → List Value → List Value} {gV : List V → List V → List V}
theorem run_fnNS {pins : List (Addr × Obj)} {σ : L2.St} {H : Hp} {s : Shared} {Q : VK} {us ws : List Value} {vs zs : List V} (F : FnOk X.prog X.w X.K X.mg X.base CX k f fd ps sp) (hr : Room k X.A) (hb : KBn X.K fd ps n ks g gV) (hx : PassesAt CX X σ (E σ))
    (I : Inv X pins σ H s) (r : Vals vs us) (rz : Vals zs ws) (l1 : vs.length = n) (l2 : zs.length = ks.length) (h : sp (gV vs zs) H Q (E σ)) : wpAny (model X.prog X.w) X.A (call (.ref f) us (ks.zip ws)) (EP X pins σ Q) X.xe s := by
  have r2 := hb.rel r rz
  refine wpAny_call (codeAny_mono (F.run X.A X.stack s H ⟨us, ks.zip ws⟩ (g us ws) (gV vs zs) Q (E σ) hr I.env0 (hb.to s us ws I.kIn (r.length.symm.trans l1) (rz.length.symm.trans l2)) r2 h) fun r s' hq => ?_)
  cases r with
  | error e => exact hx pins H s e s' I hq
  | ok fl =>
    cases fl with
    | ret u => exact I.after hq
    | next => exact False.elim hq
    | brk => exact False.elim hq
    | cont => exact False.elim hq
def tCallNS (n m : Nat) (sp : Sp) (gV : List V → List V → List V) (E : L2.St → XK) (t tk : TA) : TE := fun σ H Q => t σ H fun vs H1 => tk σ H1 fun zs H2 => vs.length = n ∧ zs.length = m ∧ sp (gV vs zs) H2 Q (E σ)
/-- f(e, .., k = v, ..), it may raise -/
theorem pe_callNS (F : FnOk X.prog X.w X.K X.mg X.base CX k f fd ps sp) (hr : Room k X.A) (hg : Gl X x) (hm : X.mg x = some (.ref f)) (hk : PySem.W.keepIn X.K (.ref f) = true) (hb : KBn X.K fd ps n ks g gV) (hx : ∀ σ, PassesAt CX X σ (E σ))
    (ha : PA X (e :: es) t) (hkw : PK X kws tk) (hall : (backToKw pos (keywordEach kws X.env)).all (·.1.isSome) = true := by rfl) (hks : (backToKw pos (keywordEach kws X.env)).filterMap (·.1) = ks := by rfl)
    (hdb : (x == ("__debug__" : Str)) = false := by decide) (he : starEach (e :: es) X.env = (false, eval e X.env) :: starEach es X.env := by rfl)
    (hpl : ((backTo pos (starEach (e :: es) X.env)).any (·.1) || (backToKw pos (keywordEach kws X.env)).any (·.1.isNone)) = false := by rfl) :
    PE X (.Call (.Name x p) (e :: es) kws pos) (tCallNS n ks.length sp gV E t tk) := by
  refine ⟨fun pins s σ H Q I h => ?_⟩
  refine wpAny_Call_Name_kw (ld_glob I hg hm ?_ hdb)
  refine PySem.W.callWith_KW (h₀ := X.base) I.ok.mod.kin hk hall (thn (ha.run pos pins s σ H _ I h) fun us s1 ⟨vs, H1, I1, r, q⟩ => ?_) hpl he
  refine thn (hkw.run pos pins s1 σ H1 _ I1 q) fun ws s2 ⟨zs, H2, I2, rz, l1, l2, q2⟩ => ⟨I2.kIn, ?_⟩
  rw [hks]
  exact run_fnNS F hr hb (hx σ) I2 r rz l1 l2 q2
end
section
variable {X : Cx} {W : WX} {Δ Δ' Δ0 Δ1 : Cs} {Γ : Gm} {e e2 : Expr} {es : List Expr} {r r2 : SV} {rs : List SV} {pos p kpos : Pos} {Xp : Xpt}
def tJr (Δ : Cs) (Γ : Gm) (r : SV) (Δ' : Cs) (Xp : Xpt) (W : WX) : TE := fun σ H Q => ∃ G, Hs Δ G H ∧ Sl σ G Γ ∧ (∀ cls d G' H', Tr Δ G H Δ G' H' → Xp cls d G' H' → W cls d σ H') ∧ ∀ v G' H', Tr Δ G H Δ' G' H' → r.P v G' → Q v H'
theorem pe_callKX {k n : Nat} {x : Str} {ps : List Str} {Pre : PrmX} (h : OkKX X.prog X.w X.K X.mg X.base k x ps n Pre) (hr : Room k X.A) (tk : Takes X W) (ha : JA X Δ Γ (e :: es) rs Δ) (hk : JE X Δ Γ e2 r2 Δ) (hp : Pre (rs ++ [r2]) Δ r Δ' Xp) (hl : rs.length = n := by rfl) (hg : Gl X x := by rfl)
    (hall : (backToKw pos (keywordEach [⟨some "most", e2, kpos⟩] X.env)).all (·.1.isSome) = true := by rfl) (hks : (backToKw pos (keywordEach [⟨some "most", e2, kpos⟩] X.env)).filterMap (·.1) = (["most"] : List Str) := by rfl)
    (hdb : (x == ("__debug__" : Str)) = false := by decide) (he : starEach (e :: es) X.env = (false, eval e X.env) :: starEach es X.env := by rfl)
    (hpl : ((backTo pos (starEach (e :: es) X.env)).any (·.1) || (backToKw pos (keywordEach [⟨some "most", e2, kpos⟩] X.env)).any (·.1.isNone)) = false := by rfl) : PE X (.Call (.Name x p) (e :: es) [⟨some "most", e2, kpos⟩] pos) (tJr Δ Γ r Δ' Xp W) := by
  obtain ⟨f, fd, FO, hm, hkp, hb⟩ := h
  refine ⟨fun pins s σ H Q I ⟨G, hs, sl, hW, q⟩ => ?_⟩
  refine (pe_callNS (E := WE W) FO hr hg hm hkp hb (fun σ => passAt tk σ) ha.use (pk_cons hk.use pk_nil) hall hks hdb he hpl).run pins s σ H Q I ⟨G, hs, sl, fun vs G1 H1 t1 ps1 => ⟨G1, t1.hs, sl.mono t1.up, fun v G2 H2 t2 pv => ?_⟩⟩
  refine ⟨by rw [Paired.length ps1]; exact hl, rfl, ?_⟩
  have t12 := t1.trans t2
  exact ⟨G2, rs ++ [r2], Δ, r, Δ', Xp, hp, t12.hs, paired_app (paired_mono t2.up ps1) (.cons pv .nil), fun v' G' H' t' pv' => q v' G' H' (t12.trans t') pv', fun cls d G' H' t' x => hW cls d G' H' (t12.trans t') x⟩
end
section
variable {P : Program} {w : World} {K : PySem.W.Frag} {mg : Str → Option Value} {base : Heap} {C : Addr} {c Pt Cn Cb : Addr}
abbrev N_lh : List Str := ["_law_made", "_law_case_here", "_law_said", "_law_found", "e"]
theorem sc_lh : FnScope N_lh ["_law_made", "_law_case_here", "_law_said"] (defScope (top 86)) := ⟨rfl, rfl, rfl, by decide +kernel, rfl, by decide +kernel, by decide +kernel⟩
def Heard (cs : Copies) (fs : List Find) (S : List Str) (most : Nat) (d : PyData) : Prop := (∃ t, d = .tuple [.str "tree", t] ∧ (∀ g ∈ groupsOf cs fs most, BM.meets g S = true) ∧ TreeOk (clauses cs fs) S most 6 [] t) ∨ ∃ g, d = .tuple [.str "not said", eS g] ∧ g ∈ groupsOf cs fs most ∧ BM.meets g S = false
def heardR (K : PySem.W.Frag) (cs : Copies) (fs : List Find) (S : List Str) (most : Nat) : SV := SV.ex (Heard cs fs S most) (D K)
def pm_lh (K : PySem.W.Frag) (C Pt : Addr) : Prm := fun rs Δ r Δ' => ∃ (ps : List (List Str)) (cd : CaseD) (S : List Str), CaseOk cd.cs cd.fs ∧ rs = [Bk K C ps cd.cs, CaseV K cd, D K (eS S)] ∧ Δ = [(Pt, TbC qLam)] ∧ r = heardR K cd.cs cd.fs S cd.m ∧ Δ' = [(Pt, TbC qLam)]
theorem ok_lh (T : Tx K mg) (F : BkF K mg C) (TB : TbF K mg base c Pt) (N : NsF K mg Cn Cb) : Ok P w K mg base 11 "_law_heard" ["_law_made", "_law_case_here", "_law_said"] (pm_lh K C Pt) :=
  ok_of T.d__law_heard sc_lh (fun _ _ _ _ _ _ us hl => match us, hl with | [_, _, _], _ => rfl) (fun rs Δ r Δ' ⟨_, _, _, _, e, _⟩ => by rw [e]; rfl) fun f cdv A outer s H0 E rs Δ r Δ' hr hp => by
    obtain ⟨ps, cd, S, hc, rfl, rfl, rfl, rfl⟩ := hp
    refine jss_setE (i := 3) (je_tup (ds := [.str "odd", .none]) (ja_cons je_str (ja_cons je_non ja_nil))) sc_lh.nd ?_
    refine jss_of (pss_cons (ps_try_as (X := cxN P w K mg base N_lh "_law_heard" 86 f cdv A outer s H0 E) (i := 4)
      (tb := fun W => tAsg (tTup (tCons (tC (.str "tree")) (tCons (tJr [(Pt, TbC qLam)] [some (Bk K C ps cd.cs), some (CaseV K cd), some (D K (eS S)), none, none] (tfR K cd.cs cd.fs S cd.m) [(Pt, TbC qLam)] (xpNS K Cn (groupsOf cd.cs cd.fs cd.m) S) W) tNil))) (gName 3))
      (ts := fun a cls d => tAsg (tTup (tCons (tC (.str "not said")) (tCons (tXf a cls d Cn "group" (tVar 4)) tNil))) (gName 3)) (Wout := fun _ _ _ _ => False) rfl rfl sc_lh.nd rfl rfl ⟨rfl, by decide, Or.inl N.gN⟩ takes0
      (fun W pn xe tk _ => pss_one (ps_set (i := 3) sc_lh.nd rfl (Or.inl rfl) (pe_tup (pa_cons pe_str (pa_cons ?_ pa_nil)))))
      (fun a oe cls d pn hz hf => pss_one (ps_set (i := 3) sc_lh.nd rfl (Or.inl rfl) (pe_tup (pa_cons pe_str (pa_cons (pe_xf N.xf N.no hz hf (pe_var (i := 4) rfl (Or.inl rfl))) pa_nil)))))) (pss_U (O := fnO (heardR K cd.cs cd.fs S cd.m) [(Pt, TbC qLam)]))) ?_
    · exact pe_callKX (ok_tf T F TB N) hr tk (ja_cons (je_var 0) (ja_cons (je_blends (hu1 hr) (je_var 1)) (ja_cons (je_var 2) ja_nil))) (je_bound (hu1 hr) (je_var 1)) ⟨ps, cd.cs, cd.fs, S, cd.m, hc, rfl, rfl, rfl, rfl, rfl⟩
    intro σ G H Dn hs sl sv
    have fin : ∀ (σ1 : L2.St) (G1 H1 : Hp) (v : V) (d : PyData), Tr [(Pt, TbC qLam)] G H [(Pt, TbC qLam)] G1 H1 → Sl σ1 G1 [some (Bk K C ps cd.cs), some (CaseV K cd), some (D K (eS S)), none, none] → (D K d).P v G1 → Heard cd.cs cd.fs S cd.m d →
        tSU (cxN P w K mg base N_lh "_law_heard" 86 f cdv A outer s H0 E) ((defBody (top 86)).drop 2) (fnO (heardR K cd.cs cd.fs S cd.m) [(Pt, TbC qLam)]) Dn (σ1.set 3 (some v)) H1 := fun σ1 G1 H1 v d t sl1 pv hd =>
      ⟨[(Pt, TbC qLam)], [some (Bk K C ps cd.cs), some (CaseV K cd), some (D K (eS S)), some (heardR K cd.cs cd.fs S cd.m), none], jss_ret (je_var 3) fnO_rt, G1, t.hs, sl1.set ⟨d, hd, pv⟩, sv.trans t⟩
    refine ⟨G, hs, sl.le (.keep (.keep (.keep (.drop (.keep .nil))))), fun cls d G1 H1 t x => ?_, fun v G1 H1 t ⟨tr, ht, pv⟩ => ?_⟩
    · obtain ⟨rfl, dd, v, g, rfl, hdd, pv, hg, hm⟩ := x
      refine ⟨true, N.em, fun _ a ha => ?_, fun h => by cases h⟩
      have hlen : 5 ≤ σ.length := sl.len
      refine ⟨.ref a, List.getElem?_set_self (by omega), rfl, rfl, dd, [("group", v)], v, rfl, hdd, rfl, by rw [sizeLine_eq]; show 2 ≤ _; decide, fun p hp => ?_⟩
      have e : ((σ.set 4 (some (V.ref a))).set 3 (some (V.ref p))).set 4 none = (σ.set 4 none).set 3 (some (V.ref p)) := by
        rw [List.set_comm _ _ (by decide : (3 : Nat) ≠ 4), List.set_set]
      show tSU _ _ _ Dn (((σ.set 4 (some (V.ref a))).set 3 (some (V.ref p))).set 4 none) _
      rw [e]
      refine fin _ _ _ _ (.tuple [.str "not said", eS g]) (t.trans ((Up.new t.hs.sub hp).up0 t.hs)) ?_ (new_tup (none_of_sub t.hs.sub hp) (.cons (d_str (K := K) (by decide +kernel)).1 (.cons pv.1 .nil)) (allok_cons (d_str (K := K) (H := G1) (by decide +kernel)).2 (allok_cons pv.2 allok_nil))) (.inr ⟨g, rfl, hg, hm⟩)
      exact ((sl.mono (t.trans ((Up.new t.hs.sub hp).up0 t.hs)).up).unset (i := 4)).le (.keep (.keep (.keep (.drop (.keep .nil)))))
    · refine ⟨by rw [sizeLine_eq]; show 2 ≤ _; decide, fun p hp => ?_⟩
      refine fin _ _ _ _ (.tuple [.str "tree", tr]) (t.trans ((Up.new t.hs.sub hp).up0 t.hs)) ?_ (new_tup (none_of_sub t.hs.sub hp) (.cons (d_str (K := K) (by decide +kernel)).1 (.cons pv.1 .nil)) (allok_cons (d_str (K := K) (H := G1) (by decide +kernel)).2 (allok_cons pv.2 allok_nil))) (.inl ⟨tr, rfl, ht⟩)
      exact (sl.mono (t.trans ((Up.new t.hs.sub hp).up0 t.hs)).up).le (.keep (.keep (.keep (.drop (.keep .nil)))))
end
end Bl
set_option Elab.async false
set_option linter.all false
set_option maxRecDepth 100000
set_option maxHeartbeats 2000000
/-! promises under no repr (the guards), repr -/
namespace Bl
open PySem PySem.Spec PyProof.Rows L2
/-- a def's promise where no repr is under way -/
structure FnG (P : Program) (w : World) (K : PySem.W.Frag) (mg : Str → Option Value) (base : Heap) (k : Nat) (f : Addr) (fd : FuncData) (ps : List Str) (sp : Sp) : Prop where
  len : ∀ vs H Q E, sp vs H Q E → vs.length = ps.length
  run : ∀ (A : Around) (outer : List Env) (s : Shared) (H : Hp) (args : Args) (us : List Value) (vs : List V) (Q : VK) (E : XK), Room k A → A.guards = some [] → Env0 P w K mg base A outer s H → BindsTo s fd args (ps.zip us) → Vals vs us → sp vs H Q E →
    codeAny (model P w) A (.call (.ref f) args) (CR CX0 outer P w H s Q E) s
theorem fnG_of {P : Program} {w : World} {K : PySem.W.Frag} {mg : Str → Option Value} {base : Heap} {k : Nat} {f : Addr} {name qual : Str} {params : Arguments} {body : List Stmt} {scope : Scope} {dV kV doc pm cdv ct oc : Value} {an od : Option Addr}
    {osl : Array (Option Value)} {N ps : List Str} {sp : Sp} (lk : K.lookup f = some ⟨oc, od, .func (PySem.W.fnOf name qual params body scope dV kV doc pm an cdv ct), osl⟩) (hcd : PySem.W.codeIn K cdv qual = true) (S : FnScope N ps scope)
    (len : ∀ vs H Q E, sp vs H Q E → vs.length = ps.length)
    (hbody : ∀ (A : Around) (outer : List Env) (s : Shared) (H : Hp) (vs : List V) (Q : VK) (E : XK), Room k (A.deeper (envOfC qual scope s.heap.objs.size f cdv)) → A.guards = some [] → sp vs H Q E →
      ∃ t, PSs (cxOf CX0 P w K mg base N qual scope f cdv A outer s H E) body t ∧ t { nx := fun _ H' => Q .non H', rt := Q } (start N vs) H) :
    FnG P w K mg base (k + 1) f (PySem.W.fnOf name qual params body scope dV kV doc pm an cdv ct) ps sp := ⟨len, fun A outer s H args us vs Q E hr hg e0 hb r hsp => by
  have kin : K.In s.heap := e0.mod.kin.keeps fun b o e => (e0.bs b o e).1
  have par : ∀ y ∈ ps.zip us, scope.names.lookup y.1 = some .local ∨ (scope.names.lookup y.1 = some .cell ∧ ((cellsFrom (s.heap.objs.size + 1) scope.names []).lookup y.1).isSome = true) := fun y hy =>
    (S.par y.1 (List.of_mem_zip hy).1).imp id fun q => ⟨q, PySem.W.cellsFrom_some _ _ _ (.inl q)⟩
  refine codeAny_call_function hr.depth (kin _ _ lk) rfl S.co S.gen rfl (PySem.W.codeRec_of kin hcd) (hb _ _ _ _ (wpAny_newFunctionEnv_cells S.kind par fun env he s1 x => ?_))
  subst he
  refine ⟨(e0.mod.nolimit.keeps fun b o e => (e0.bs b o e).1).keeps x.toInCall.keep, codeAny_func ?_⟩
  obtain ⟨t, ht, hq⟩ := hbody A outer s H vs Q E (hr.deeper _) hg hsp
  refine wpAny_mono (ht.run [] s1 _ H _ (inv_start S hr.hd e0 (len _ _ _ _ hsp) r x) hq) (fun fl s' hs => ?_) fun _ _ hs => hs
  cases fl with
  | ret u =>
    obtain ⟨v, _, H', J, rv, q⟩ := hs
    exact ⟨v, H', J.os, J.bare, J.base, J.hok, rv, q⟩
  | next =>
    obtain ⟨_, H', J, q⟩ := hs
    exact ⟨.non, H', J.os, J.bare, J.base, J.hok, rfl, q⟩
  | brk => exact hs.elim fun _ ⟨_, _, q⟩ => q.elim
  | cont => exact hs.elim fun _ ⟨_, _, q⟩ => q.elim⟩
structure OkG (P : Program) (w : World) (K : PySem.W.Frag) (mg : Str → Option Value) (base : Heap) (k : Nat) (x : Str) (ps : List Str) (Pre : Prm) : Prop where
  ex : ∃ f fd, FnG P w K mg base k f fd ps (spJ Pre) ∧ mg x = some (.ref f) ∧ PySem.W.keepIn K (.ref f) = true ∧ Binds K fd ps []
section
variable {P : Program} {w : World} {K : PySem.W.Frag} {mg : Str → Option Value} {base : Heap}
theorem okg_of {x : Str} {i : Nat} {N ps : List Str} {k : Nat} {Pre : Prm} (d : DefAt K mg x i) (S : FnScope N ps (defScope (top i)))
    (hbind : ∀ (kV doc pm : Value) (an : Option Addr) (cdv ct : Value) (us : List Value), us.length = ps.length → bindArgs (PySem.W.fnOf x x (defArgs (top i)) (defBody (top i)) (defScope (top i)) .none kV doc pm an cdv ct) ⟨us, []⟩ = pure (ps.zip us))
    (hlen : ∀ rs Δ r Δ', Pre rs Δ r Δ' → rs.length = ps.length)
    (hb : ∀ (f : Addr) (cdv : Value) (A : Around) (outer : List Env) (s : Shared) (H : Hp) (E : XK) (rs : List SV) (Δ : Cs) (r : SV) (Δ' : Cs), Room k (A.deeper (envOfC x (defScope (top i)) s.heap.objs.size f cdv)) → A.guards = some [] → Pre rs Δ r Δ' →
      JSs (cxN P w K mg base N x i f cdv A outer s H E) Δ (start0 N rs) (defBody (top i)) (fnO r Δ')) : OkG P w K mg base (k + 1) x ps Pre := by
  obtain ⟨f, fd, F, hm⟩ := d
  refine ⟨f, fd, ?_, hm, F.kp, F.bindsN hbind⟩
  obtain ⟨oc, od, dV, kV, doc, pm, an, cdv, ct, osl, rfl, lk, hci, _, _⟩ := F.ex
  exact fnG_of lk hci S (fun vs H Q E ⟨G, rs, Δ, r, Δ', hp, _, pr, _⟩ => by rw [Paired.length pr]; exact hlen rs Δ r Δ' hp) fun A outer s H vs Q E hr hg ⟨G, rs, Δ, r, Δ', hp, hs, pr, q⟩ =>
    ⟨_, (hb f cdv A outer s H E rs Δ r Δ' hr hg hp).use.nox, G, hs, sl_start pr, ⟨fun σ' G' H' Δ2 Γ' ⟨e, k⟩ t sl => by subst e; exact q _ G' H' t (k G'), fun v G' H' Δ2 r2 ⟨e, k⟩ t p => by subst e; exact q v G' H' t (k v G' p), fun _ _ _ _ _ o => o.elim, fun _ _ _ _ _ o => o.elim⟩⟩
end
section
variable {X : Cx} {e a : Expr} {es : List Expr} {Γ : Gm} {Δ Δ0 Δ0' Δr Δ1 : Cs} {r : SV} {rs : List SV} {pos p : Pos} {ds : List PyData}
theorem pe_callG {k : Nat} {x : Str} {f : Addr} {fd : FuncData} {ps : List Str} {sp : Sp} {t : TA} (F : FnG X.prog X.w X.K X.mg X.base k f fd ps sp) (hr : Room k X.A) (hgd : X.A.guards = some []) (hg : Gl X x) (hm : X.mg x = some (.ref f)) (hk : PySem.W.keepIn X.K (.ref f) = true) (hb : Binds X.K fd ps [])
    (ha : PA X (e :: es) t) (hdb : (x == ("__debug__" : Str)) = false) (he : starEach (e :: es) X.env = (false, eval e X.env) :: starEach es X.env) (hpl : (backTo pos (starEach es X.env)).any (·.1) = false) :
    PE X (.Call (.Name x p) (e :: es) [] pos) (fun σ H Q => t σ H fun vs H1 => sp vs H1 Q E0) := by
  refine ⟨fun pins s σ H Q I h => wpAny_Call_Name_kw (ld_glob I hg hm ?_ hdb)⟩
  refine PySem.W.callWith_K (h₀ := X.base) I.ok.mod.kin hk (thn (ha.run pos pins s σ H _ I h) fun us s1 ⟨vs, H1, I1, r, q⟩ => ⟨I1.kIn, ?_⟩) he hpl
  have b := hb s1 us I1.kIn (by rw [List.append_nil, ← r.length]; exact F.len _ _ _ _ q)
  rw [List.append_nil] at b
  refine wpAny_call (codeAny_mono (F.run X.A X.stack s1 H1 ⟨us, []⟩ us vs Q E0 hr hgd I1.env0 b r q) fun r2 s' hq => ?_)
  cases r2 with
  | error e => exact hq.elim
  | ok fl =>
    cases fl with
    | ret u => exact I1.after hq
    | next => exact False.elim hq
    | brk => exact False.elim hq
    | cont => exact False.elim hq
theorem je_callG {k : Nat} {x : Str} {ps : List Str} {Pre : Prm} (h : OkG X.prog X.w X.K X.mg X.base k x ps Pre) (hr : Room k X.A) (hgd : X.A.guards = some []) (ha : JA X Δ Γ (e :: es) rs (Δ0 ++ Δr)) (hp : Pre rs Δ0 r Δ0') (hg : Gl X x := by rfl) (hdb : (x == ("__debug__" : Str)) = false := by decide) (he : starEach (e :: es) X.env = (false, eval e X.env) :: starEach es X.env := by rfl) (hpl : (backTo pos (starEach es X.env)).any (·.1) = false := by rfl) :
    JE X Δ Γ (.Call (.Name x p) (e :: es) [] pos) r (Δ0' ++ Δr) := by
  obtain ⟨f, fd, F, hm, hk, hb⟩ := h
  refine je_of (pe_callG F hr hgd hg hm hk hb ha.use hdb he hpl) fun σ G H Q hs sl q => ⟨G, hs, sl, fun vs G1 H1 t ps => ?_⟩
  have hs0 : Hs Δ0 G1 H1 := ⟨t.hs.sub, fun q hq => t.hs.cell q (List.mem_append_left _ hq), by have := t.hs.nd; unfold dom at this ⊢; rw [List.map_append, List.nodup_append] at this; exact this.1⟩
  exact ⟨G1, rs, Δ0, r, Δ0', hp, hs0, ps, fun v G' H' t' pv => q v G' H' (t.trans (t'.frame t.hs)) pv⟩
theorem je_callGP {k : Nat} {x : Str} {ps : List Str} {F : List SV → SV → Prop} (h : OkG X.prog X.w X.K X.mg X.base k x ps (pure0 F)) (hr : Room k X.A) (hgd : X.A.guards = some []) (ha : JA X Δ Γ (e :: es) rs Δ1) (hp : F rs r) (hg : Gl X x := by rfl) (hdb : (x == ("__debug__" : Str)) = false := by decide) (he : starEach (e :: es) X.env = (false, eval e X.env) :: starEach es X.env := by rfl) (hpl : (backTo pos (starEach es X.env)).any (·.1) = false := by rfl) :
    JE X Δ Γ (.Call (.Name x p) (e :: es) [] pos) r Δ1 := je_callG (Δ0 := []) (Δr := Δ1) (Δ0' := []) h hr hgd ha ⟨rfl, rfl, hp⟩ hg hdb he hpl
/-! ### repr -/
theorem call_reprD (hgd : X.A.guards = some []) : CallR X (.builtin "repr") (fun xs H Q => ∃ (a : Addr) (d : PyData), xs = [.ref a] ∧ Dp X.K H (.ref a) d ∧ d.showable = true ∧ d.hasDict = false ∧ X.A.units + (d.depth + 1) < cLine ∧ d.shown.length ≤ sizeLine ∧ Q (.str d.shown) H) := by
  intro pins s σ H xs us Q I r h
  obtain ⟨a, d, rfl, hd, h1, h2, h3, h4, q⟩ := h
  obtain ⟨u, rfl, ru⟩ := vals1 r
  obtain rfl : u = Value.ref a := ru
  obtain ⟨as, rd⟩ := Dp.reads I d _ _ hd rfl
  exact repr_of_reads' rd h1 (PyData.noDict_hsm h2) hgd h3 (fun _ _ e => e) (fun h' u tk hk => ⟨.str d.shown, H, I.kept hk, ⟨u, rfl⟩, q⟩) h4
/-- what repr shows within the line -/
structure Shw (d : PyData) : Prop where
  ref : (∃ ds, d = .tuple ds) ∨ ∃ ds, d = .list ds
  sh : d.showable = true
  si : d.intsShort 8 = true
  wt : d.weight ≤ 2 ^ 20
  dp : d.depth ≤ 64
theorem je_repr {d : PyData} (hgd : X.A.guards = some []) (hu : X.A.units + 65 < cLine) (hm : X.mg "repr" = none) (S : Shw d) (ha : JE X Δ Γ a (D X.K d) Δ1) (hg : Gl X "repr" := by rfl) (he : starEach [a] X.env = (false, eval a X.env) :: starEach [] X.env := by rfl) (hpl : (backTo pos (starEach [] X.env)).any (·.1) = false := by rfl) :
    JE X Δ Γ (.Call (.Name "repr" p) [a] [] pos) (VV (.str d.shown)) Δ1 :=
  je_callB (call_reprD hgd) hm boot_reprB (ja_cons ha ja_nil he) (fun xs G H Q sg ps q => by
    obtain ⟨v, rfl, pv⟩ := paired1 ps
    obtain ⟨b, rfl⟩ : ∃ b, v = .ref b := by
      rcases S.ref with ⟨ds, rfl⟩ | ⟨ds, rfl⟩
      · obtain ⟨b, _, e, _⟩ := d_tup pv
        exact ⟨b, e⟩
      · obtain ⟨b, _, e, _⟩ := d_lst pv
        exact ⟨b, e⟩
    exact ⟨b, d, rfl, dp_same sg pv.1, S.sh, PyData.hasDict_of_canLay d pv.2, by have := S.dp; omega, PyData.shown_fits (B := 8) (Nat.le_refl _) (by decide) (PyData.leavesShort_of_canLay0 8 d pv.2 S.si) S.wt, q _ G H (Up.refl sg) rfl⟩) hg (he := he) (hpl := hpl)
theorem jb_neVV {x y : Str} {b : Expr} {Δ2 : Cs} (ha : JE X Δ Γ a (VV (.str x)) Δ1) (hb : JE X Δ1 Γ b (VV (.str y)) Δ2) : JB X Δ Γ (.Compare a [.NotEq] [b] pos) (dB (!decide (x = y)) Δ2) := jb_cmp op_ne ha hb fun u v G H Q sg p1 p2 q => by
  cases p1
  cases p2
  refine ⟨rfl, ?_⟩
  have e : decide (V.str x = V.str y) = decide (x = y) := by simp
  rw [e]
  exact q _ G H (Up.refl sg) (d_bl _)
end
theorem shw_strs {l : List Str} (h : ∀ x ∈ l, x.cps.size ≤ 63) (hl : l.length ≤ 64) : PyData.showableAll (l.map .str) = true ∧ PyData.intsShortAll 8 (l.map .str) = true ∧ PyData.weightAll (l.map .str) ≤ 64 * l.length ∧ PyData.depthAll (l.map .str) = 0 := by
  clear hl
  induction l with
  | nil => exact ⟨rfl, rfl, Nat.le_refl _, rfl⟩
  | cons x l ih =>
    obtain ⟨h1, h2, h3, h4⟩ := ih fun y hy => h y (List.mem_cons_of_mem _ hy)
    have hx := h x (List.mem_cons_self ..)
    refine ⟨?_, ?_, ?_, ?_⟩
    · simp only [List.map_cons, PyData.showableAll, PyData.showable, h1, Bool.and_self]
    · simp only [List.map_cons, PyData.intsShortAll, PyData.intsShort, h2, Bool.and_self]
    · simp only [List.map_cons, PyData.weightAll, PyData.weight, List.length_cons]
      omega
    · simp only [List.map_cons, PyData.depthAll, PyData.depth, h4]
      rfl
theorem shw_L {l : List Str} (h : ∀ x ∈ l, x.cps.size ≤ 63) (hl : l.length ≤ 64) : Shw (.list (l.map .str)) := by
  obtain ⟨h1, h2, h3, h4⟩ := shw_strs h hl
  refine ⟨.inr ⟨_, rfl⟩, by simpa only [PyData.showable] using h1, by simpa only [PyData.intsShort] using h2, ?_, ?_⟩
  · simp only [PyData.weight]
    omega
  · simp only [PyData.depth, h4]
    omega
theorem shw_R {l : List (List Str)} (h : ∀ g ∈ l, g.length ≤ 64 ∧ ∀ x ∈ g, x.cps.size ≤ 63) (hl : l.length ≤ 64) : Shw (eR l) := by
  have key : PyData.showableAll (l.map eS) = true ∧ PyData.intsShortAll 8 (l.map eS) = true ∧ PyData.weightAll (l.map eS) ≤ 4097 * l.length ∧ PyData.depthAll (l.map eS) ≤ 1 := by
    clear hl
    induction l with
    | nil => exact ⟨rfl, rfl, Nat.le_refl _, Nat.zero_le _⟩
    | cons x l ih =>
      obtain ⟨h1, h2, h3, h4⟩ := ih fun y hy => h y (List.mem_cons_of_mem _ hy)
      obtain ⟨hx, hx2⟩ := h x (List.mem_cons_self ..)
      obtain ⟨k1, k2, k3, k4⟩ := shw_strs hx2 hx
      refine ⟨?_, ?_, ?_, ?_⟩
      · simp only [List.map_cons, PyData.showableAll, eS, PyData.showable, k1, Bool.true_and]; exact h1
      · simp only [List.map_cons, PyData.intsShortAll, eS, PyData.intsShort, k2, Bool.true_and]; exact h2
      · simp only [List.map_cons, PyData.weightAll, eS, PyData.weight, List.length_cons]
        omega
      · simp only [List.map_cons, PyData.depthAll, eS, PyData.depth, k4]
        omega
  obtain ⟨h1, h2, h3, h4⟩ := key
  refine ⟨.inl ⟨_, rfl⟩, by simpa only [eR, PyData.showable] using h1, by simpa only [eR, PyData.intsShort] using h2, ?_, ?_⟩
  · simp only [eR, PyData.weight]
    omega
  · simp only [eR, PyData.depth]
    omega
end Bl
set_option Elab.async false
set_option linter.all false
set_option maxRecDepth 100000
set_option maxHeartbeats 2000000
/-! _law_tree_right -/
namespace Bl
open PySem PySem.Spec PyProof.Rows L2
section
variable {P : Program} {w : World} {K : PySem.W.Frag} {mg : Str → Option Value} {base : Heap} {C : Addr}
abbrev N_tr : List Str := ["_law_rows_here", "_law_said", "_law_tree", "_law_bound", "_law_way", "_law_due", "_law_branch", "_law_one", "_law_below"]
theorem sc_tr : FnScope N_tr ["_law_rows_here", "_law_said", "_law_tree", "_law_bound", "_law_way"] (defScope (top 85)) := ⟨rfl, rfl, rfl, by decide +kernel, rfl, by decide +kernel, by decide +kernel⟩
def pm_tr (n : Nat) (K : PySem.W.Frag) (rs : List SV) (r : SV) : Prop := ∃ (rows : List (List Str)) (S : List Str) (t : PyData) (most : Nat) (way : List Str), way.length + n ≤ 60 ∧ (∀ r ∈ rows, r.length ≤ 5 ∧ ∀ x ∈ r, x.cps.size ≤ 63) ∧ TreeOk rows S most n way t ∧ rs = [L K (rows.map eS), D K (eS S), D K t, D K (.int most), D K (eS way)] ∧ r = D K (.bool true)
theorem ok_tr (T : Tx K mg) : ∀ n, OkG P w K mg base (n + 2) "_law_tree_right" ["_law_rows_here", "_law_said", "_law_tree", "_law_bound", "_law_way"] (pure0 (pm_tr n K)) := by
  intro n
  induction n using Nat.strongRecOn with
  | ind n ih =>
  refine okg_of T.d__law_tree_right sc_tr (fun _ _ _ _ _ _ us hl => match us, hl with | [_, _, _, _, _], _ => rfl) (fun rs Δ r Δ' ⟨_, _, _, _, _, _, _, _, _, _, e, _⟩ => by rw [e]; rfl) fun f cdv A outer s H E rs Δ r Δ' hr hgd hp => ?_
  obtain ⟨rfl, rfl, rows, S, t, most, way, hz, hsh, ht, rfl, rfl⟩ := hp
  cases ht with
  | @mk _ _ c bs h1 h2 h3 h4 h5 =>
    obtain ⟨c5, ctm⟩ := hsh c h1
    have due_len : (if way.length < most then outs c S else []).length ≤ 5 := by
      split
      · exact Nat.le_trans (List.length_filter_le _ _) c5
      · exact Nat.zero_le _
    have due_tm : ∀ x ∈ (if way.length < most then outs c S else []), x.cps.size ≤ 63 := by
      split
      · exact fun x hx => ctm x (List.mem_filter.mp hx).1
      · exact fun x hx => by cases hx
    have hlen : bs.length ≤ 5 := by rw [← List.length_map (f := (·.1)), h3]; exact due_len
    refine jss_if0 (Δ1 := []) (bb := false) ?_ (fun h => by cases h) fun _ => ?_
    · refine ((jw_or (b1 := false) (b2 := false) ?_ fun _ => jw_or (b1 := false) (b2 := false) ?_ fun _ => jw_or1 ?_).jb).eq rfl
      · exact (jb_not (jb_val (je_isiT (ds := [eS c, .tuple (bs.map eB)]) T.f_isinstance T.f_tuple (je_var 2)))).eq rfl
      · exact (jb_neI (je_lenT (ds := [eS c, .tuple (bs.map eB)]) T.f_len (je_var 2)) je_int).eq rfl
      · exact (jb_not (jb_val (je_isiT (ds := c.map .str) T.f_isinstance T.f_tuple (je_ixT (ds := [eS c, .tuple (bs.map eB)]) (d := eS c) (i := 0) (je_var 2) je_int rfl)))).eq rfl
    refine jss_if0 (Δ1 := []) (bb := false) ?_ (fun h => by cases h) fun _ => ?_
    · refine ((jw_or (b1 := false) (b2 := false) ?_ fun _ => jw_or (b1 := false) (b2 := false) ?_ fun _ => jw_or1 ?_).jb).eq rfl
      · exact (jb_not (jb_val (je_isiT (ds := bs.map eB) T.f_isinstance T.f_tuple (je_ixT (ds := [eS c, .tuple (bs.map eB)]) (d := .tuple (bs.map eB)) (i := 1) (je_var 2) je_int rfl)))).eq rfl
      · exact (jb_notInL enc_eS (hu65 hr) (je_ixT (ds := [eS c, .tuple (bs.map eB)]) (d := eS c) (i := 0) (je_var 2) je_int rfl) (je_var 0)).eq (by simp [h1])
      · exact (jb_val (je_callP (ok_lmeets T) (hr.mono (by omega)) (ja_cons (je_ixT (ds := [eS c, .tuple (bs.map eB)]) (d := eS c) (i := 0) (je_var 2) je_int rfl) (ja_cons (je_var 4) ja_nil)) ⟨c, way, rfl, rfl⟩)).eq h2
    refine jss_setE (i := 5) (r := L K ((if way.length < most then outs c S else []).map .str)) (Δ1 := []) ?_ sc_tr.nd ?_
    · refine je_if (bb := decide (way.length < most)) ((jb_lt (je_lenT (ds := way.map .str) T.f_len (je_var 4)) (je_var 3)).eq (by rw [List.length_map]; simp)) (fun h => ?_) fun h => ?_
      · rw [if_pos (by simpa using h)]
        exact je_flt (l := c) (ra := fun x => D K (.str x)) (p := fun x => !decide (x ∈ S)) (f := PyData.str) (js := [7]) (own := [("_law_one", 7)]) rfl sc_tr.nd (ji_Te (l := c) (enc := PyData.str) (je_ixT (ds := [eS c, .tuple (bs.map eB)]) (d := eS c) (i := 0) (je_var 2) je_int rfl)) (blkOk_by (N := N_tr) (sc := defScope (top 85)) (by decide +kernel)) (fun _ _ _ _ _ => pg_name (i := 7) sc_tr.nd rfl (Or.inl rfl)) (fun a _ => tg_name 7) (fun _ h => h)
          (fun x _ _ _ _ _ _ => jb_notInT enc_str (hu65 hr) (je_var 7) (je_var 1)) fun x _ _ _ _ _ _ _ => je_var 7
      · rw [if_neg (by simpa using h)]
        exact je_lst0
    refine jss_for (js := [6]) PassesOwn.never rfl (ji_Te (l := bs) (enc := eB) (je_ixT (ds := [eS c, .tuple (bs.map eB)]) (d := .tuple (bs.map eB)) (i := 1) (je_var 2) je_int rfl)) (pg_name (i := 6) sc_tr.nd rfl (Or.inl rfl))
      (fun i Δ Γ => Δ = [] ∧ Γ = [some (L K (rows.map eS)), some (D K (eS S)), some (D K (eT c bs)), some (D K (.int most)), some (D K (eS way)), some (L K ((if way.length < most then outs c S else []).map .str)), none, none, none]) ⟨rfl, rfl⟩ (fun i r Δ Γ hr' hI => ?_) fun Δ Γ hI => ?_
    · obtain ⟨rfl, rfl⟩ := hI
      obtain ⟨b, hb, rfl⟩ := at_map hr'
      refine ⟨_, tg_name 6, ?_⟩
      refine jss_if0 (Δ1 := []) (bb := false) ?_ (fun h => by cases h) fun _ => jss_nil ⟨[_, _, _, _, _, _, none, _, _], .keep (.keep (.keep (.keep (.keep (.keep (.drop (.keep (.keep .nil)))))))), rfl, rfl⟩
      refine ((jw_or (b1 := false) (b2 := false) ?_ fun _ => jw_or1 ?_).jb).eq rfl
      · exact (jb_not (jb_val (je_isiT (ds := [.str b.1, b.2]) T.f_isinstance T.f_tuple (je_var 6)))).eq rfl
      · exact (jb_neI (je_lenT (ds := [.str b.1, b.2]) T.f_len (je_var 6)) je_int).eq rfl
    obtain ⟨rfl, rfl⟩ := hI
    refine jss_if0 (Δ1 := []) (bb := false) ?_ (fun h => by cases h) fun _ => ?_
    · refine (jb_neVV (je_repr hgd (hu65 hr) T.f_repr (shw_L (l := if way.length < most then outs c S else []) due_tm (by omega)) (JE.lst ?_)) (je_repr hgd (hu65 hr) T.f_repr (shw_L due_tm (by omega)) (je_var 5).lst)).eq (by simp)
      refine (je_map (l := bs) (ra := fun b => D K (eB b)) (f := fun b => .str b.1) (js := [6]) (own := [("_law_branch", 6)]) rfl sc_tr.nd (ji_Te (l := bs) (enc := eB) (je_ixT (ds := [eS c, .tuple (bs.map eB)]) (d := .tuple (bs.map eB)) (i := 1) (je_var 2) je_int rfl)) (blkOk_by (N := N_tr) (sc := defScope (top 85)) (by decide +kernel)) (fun _ _ _ _ _ => pg_name (i := 6) sc_tr.nd rfl (Or.inl rfl)) (fun a _ => tg_name 6) (fun _ h => h) fun b _ _ _ _ _ _ => ?_).leq (by rw [← h3, List.map_map]; rfl)
      exact je_ixT (ds := [.str b.1, b.2]) (d := .str b.1) (i := 0) (je_var 6) je_int rfl
    refine jss_for (js := [7, 8]) (g := gTup K 2 (gCons (gName 7) (gCons (gName 8) gNil))) PassesOwn.never rfl (ji_Te (l := bs) (enc := eB) (je_ixT (ds := [eS c, .tuple (bs.map eB)]) (d := .tuple (bs.map eB)) (i := 1) (je_var 2) je_int rfl)) (pg_tup rfl (pgs_cons (pg_name (i := 7) sc_tr.nd rfl (Or.inl rfl)) (pgs_cons (pg_name (i := 8) sc_tr.nd rfl (Or.inl rfl)) pgs_nil)))
      (fun i Δ Γ => Δ = [] ∧ Γ = [some (L K (rows.map eS)), some (D K (eS S)), some (D K (eT c bs)), some (D K (.int most)), some (D K (eS way)), some (L K ((if way.length < most then outs c S else []).map .str)), none, none, none]) ⟨rfl, rfl⟩ (fun i r Δ Γ hr' hI => ?_) fun Δ Γ hI => ?_
    · obtain ⟨rfl, rfl⟩ := hI
      obtain ⟨b, hb, rfl⟩ := at_map hr'
      have hb := List.mem_of_getElem? hb
      have hn : 0 < n := h4 (List.ne_nil_of_mem hb)
      refine ⟨_, tg_pair (d1 := .str b.1) (d2 := b.2) 7 8, ?_⟩
      refine jss_if0 (Δ1 := []) (bb := false) ?_ (fun h => by cases h) fun _ => jss_nil ⟨[_, _, _, _, _, _, _, none, none], .keep (.keep (.keep (.keep (.keep (.keep (.keep (.drop (.drop .nil)))))))), rfl, rfl⟩
      refine (jb_not (jb_val (je_callGP (ih (n - 1) (by omega)) (hr.mono (by omega)) hgd (ja_cons (je_var 0) (ja_cons (je_var 1) (ja_cons (je_var 8) (ja_cons (je_var 3) (ja_cons (je_catT (ds1 := way.map .str) (ds2 := [.str b.1]) (je_var 4) (je_tup (ds := [.str b.1]) (ja_cons (je_var 7) ja_nil)) (by rw [line_eq, List.length_map]; simp; omega)) ja_nil)))))
          ⟨rows, S, b.2, most, way ++ [b.1], by simp; omega, hsh, h5 b hb, by simp only [eS, List.map_append, List.map_cons, List.map_nil]; rfl, rfl⟩))).eq rfl
    · obtain ⟨rfl, rfl⟩ := hI
      exact jss_ret je_bl fnO_rt
end
end Bl
set_option Elab.async false
set_option linter.all false
set_option maxRecDepth 100000
set_option maxHeartbeats 2000000
/-! the plain law: the law's rows are the clauses; a group can be had -/
namespace Bl
open PySem PySem.Spec PyProof.Rows L2
structure CdOk (cd : CaseD) : Prop where
  ok : CaseOk cd.cs cd.fs
  hs : cd.hs = holders cd.cs
  mark : ∀ c ∈ cd.cs, ∀ m ∈ c.2, m ≠ sUn
  kd : ∀ f ∈ cd.fs, f.1 = sPick ∨ f.1 = sSmear ∨ f.1 = sFree
  sh : ∀ h ∈ cd.hs, h.cps.size ≤ 63
theorem mark_in {row : List Str} {i : Nat} (h : i < row.length) : markAt row i ∈ row := List.mem_of_getElem? (mark_at h)
theorem hWith_un {cs : Copies} {i : Nat} (hi : ∀ c ∈ cs, i < c.2.length) (hm : ∀ c ∈ cs, ∀ m ∈ c.2, m ≠ sUn) : hWith cs i sUn = [] := by
  unfold hWith
  rw [List.map_eq_nil_iff, List.filter_eq_nil_iff]
  intro c hc q
  exact hm c hc _ (mark_in (hi c hc)) (by simpa using q)
theorem lawEntry_eq {cs : Copies} {kind : Str} {q : Option Str × Nat} (hi : ∀ c ∈ cs, q.2 < c.2.length) (hm : ∀ c ∈ cs, ∀ m ∈ c.2, m ≠ sUn) (hk : kind = sPick ∨ kind = sSmear ∨ kind = sFree) : lawEntry cs kind q = entry1 cs kind q := by
  obtain ⟨o, i⟩ := q
  cases o with
  | none => rfl
  | some e =>
    have n1 : sPick ≠ sFree := by decide
    have n2 : sSmear ≠ sFree := by decide
    have n3 : sSmear ≠ sPick := by decide
    have n4 : sFree ≠ sPick := by decide
    have n5 : sFree ≠ sSmear := by decide
    simp only [lawEntry, entry1, entryClauses]
    by_cases he : e = sUn
    · subst he
      rcases hk with rfl | rfl | rfl
      · rw [if_pos (Or.inl rfl), if_pos ⟨rfl, rfl⟩, hWith_un hi hm]
      · rw [if_neg (fun h => h.elim n3 fun h => h.2 rfl), if_neg (fun h => n3 h.2), if_neg (fun h => h.1 rfl)]
      · rw [if_neg (fun h => h.elim n4 fun h => h.2 rfl), if_neg (fun h => n4 h.2), if_neg (fun h => h.1 rfl)]
    · have z : ∀ k : Str, ¬(e = sUn ∧ k = sPick) := fun k h => he h.1
      rcases hk with rfl | rfl | rfl
      · rw [if_pos (Or.inl rfl), if_neg (z _), if_pos ⟨he, n1⟩]
      · rw [if_pos (Or.inr ⟨rfl, he⟩), if_neg (z _), if_pos ⟨he, n2⟩]
      · rw [if_neg (fun h => h.elim n4 fun h => n5 h.1), if_neg (z _), if_neg (fun h => h.2 rfl)]
theorem flatMap_eq {α β : Type} {f g : α → List β} : ∀ {l : List α}, (∀ a ∈ l, f a = g a) → l.flatMap f = l.flatMap g
  | [], _ => rfl
  | a :: l, h => by rw [List.flatMap_cons, List.flatMap_cons, h a (List.mem_cons_self ..), flatMap_eq fun b hb => h b (List.mem_cons_of_mem _ hb)]
theorem zipIdx_lt {α : Type} {l : List α} {q : α × Nat} (h : q ∈ l.zipIdx) : q.2 < l.length := by
  have := List.mem_zipIdx h
  omega
theorem rows_eq {cd : CaseD} (h : CdOk cd) : lawRows cd.cs cd.hs cd.fs = rowsOf cd.cs cd.fs := by
  unfold lawRows rowsOf
  rw [h.hs]
  congr 1
  refine flatMap_eq fun f hf => flatMap_eq fun q hq => lawEntry_eq (fun c hc => ?_) h.mark (h.kd f hf)
  have h1 := zipIdx_lt hq
  have h2 := (h.ok.wid f hf).2 c hc
  omega
theorem marks_mem {cs : Copies} {g : List Str} {i : Nat} {c : Str × List Str} (hc : c ∈ cs) (hg : c.1 ∈ g) : markAt c.2 i ∈ marksOf cs g i := List.mem_map.mpr ⟨c, List.mem_filter.mpr ⟨hc, by simpa using hg⟩, rfl⟩
theorem two_marks {l : List Str} {x y : Str} (hx : x ∈ l) (hy : y ∈ l) (hne : x ≠ y) : 2 ≤ (BM.dd l).length := by
  have h := BM.nodup_sub_len (l := [x, y]) (h := BM.dd l) (by simp [hne]) fun z hz => by
    rcases List.mem_cons.mp hz with rfl | hz
    · exact BM.dd_mem.mpr hx
    · obtain rfl := List.mem_singleton.mp hz
      exact BM.dd_mem.mpr hy
  exact h
theorem can_ok {cd : CaseD} (h : CdOk cd) {g : List Str} (hg : g ≠ []) (hs : ∀ x ∈ g, x ∈ holders cd.cs) (hm : BM.meetsAll g (clauses cd.cs cd.fs) = true) {f : Find} (hf : f ∈ cd.fs) : lawCan cd.cs g f = true := by
  have meet : ∀ r ∈ rowsOf cd.cs cd.fs, BM.meets g r = true := fun r hr => BM.meetsAll_iff.mp hm r (BM.ss_mem.mpr hr)
  unfold lawCan
  rw [List.all_eq_true]
  intro q hq
  have hw : ∀ c ∈ cd.cs, q.2 < c.2.length := fun c hc => by
    have h1 := zipIdx_lt hq
    have h2 := (h.ok.wid f hf).2 c hc
    omega
  have meet2 : ∀ r ∈ lawEntry cd.cs f.1 q, BM.meets g r = true := fun r hr => meet r (by
    rw [← rows_eq h]
    exact List.mem_cons_of_mem _ (List.mem_flatMap.mpr ⟨f, hf, List.mem_flatMap.mpr ⟨q, hq, hr⟩⟩))
  obtain ⟨o, i⟩ := q
  cases o with
  | none => rfl
  | some e =>
    simp only [can1]
    rw [Bool.or_eq_true]
    by_cases hin : e ∈ marksOf cd.cs g i
    · exact .inl (by simpa using hin)
    · refine .inr ?_
      by_cases hp : f.1 = sPick ∨ (f.1 = sSmear ∧ e ≠ sUn)
      · have hr := meet2 (hWith cd.cs i e) (by simp only [lawEntry]; rw [if_pos hp]; exact List.mem_singleton.mpr rfl)
        obtain ⟨x, hx, hx2⟩ := BM.meets_iff.mp hr
        obtain ⟨c, hc, rfl⟩ := List.mem_map.mp hx2
        obtain ⟨hc1, hc2⟩ := List.mem_filter.mp hc
        have hc2 : markAt c.2 i = e := by simpa using hc2
        exact absurd (hc2 ▸ marks_mem hc1 hx) hin
      · have hloose : (decide (f.1 = sFree) || (decide (f.1 = sSmear) && decide (e = sUn))) = true := by
          rcases h.kd f hf with k | k | k
          · exact absurd (Or.inl k) hp
          · by_cases he : e = sUn
            · simp [k, he]
            · exact absurd (Or.inr ⟨k, he⟩) hp
          · simp [k]
        rw [hloose, Bool.true_and]
        obtain ⟨x0, hx0⟩ := List.exists_mem_of_ne_nil g hg
        obtain ⟨c0, hc0, rfl⟩ := List.mem_map.mp (hs x0 hx0)
        have m0 := marks_mem (i := i) hc0 hx0
        have ne0 : markAt c0.2 i ≠ e := fun z => hin (z ▸ m0)
        have hr := meet2 (hWithout cd.cs i (markAt c0.2 i)) (by
          simp only [lawEntry]
          rw [if_neg hp]
          refine List.mem_map.mpr ⟨_, List.mem_filter.mpr ⟨BM.ss_mem.mpr (List.mem_map.mpr ⟨c0, hc0, rfl⟩), by simpa using ne0⟩, rfl⟩)
        obtain ⟨x1, hx1, hx2⟩ := BM.meets_iff.mp hr
        obtain ⟨c1, hc1, rfl⟩ := List.mem_map.mp hx2
        obtain ⟨hc1, hc2⟩ := List.mem_filter.mp hc1
        have hc2 : markAt c1.2 i ≠ markAt c0.2 i := by simpa using hc2
        have := two_marks (marks_mem (i := i) hc1 hx1) m0 hc2
        simp
        exact this
end Bl
set_option Elab.async false
set_option linter.all false
set_option maxRecDepth 100000
set_option maxHeartbeats 2000000
/-! _law_set_right -/
namespace Bl
open PySem PySem.Spec PyProof.Rows L2
section
variable {X : Cx} {e tg a b : Expr} {Γ Γ' : Gm} {Δ Δ1 Δ2 : Cs} {r : SV} {pos : Pos} {O : En → Prop} {rest : List Stmt} {g : TG} {x y : List Str}
theorem jss_asgX {Oe : SV → Cs → Prop} (he : JX X Δ Γ e Oe) (hg : PG X tg g) (hr : ∀ r Δ1, Oe r Δ1 → ∃ js Γ', TgOk g js r Γ Γ' ∧ JSs X Δ1 Γ' rest O) (hs : swapsWithSole [tg] e pos.line X.env = pure false := by rfl) (hw : swappedStores [tg] e X.env = pure none := by rfl)
    (h1 : (assignEach [tg] X.env).map (·.2) = [assign tg X.env] := by rfl) : JSs X Δ Γ (.Assign [tg] e pos :: rest) O :=
  jss_of (pss_cons (ps_asg he.use hg hs hw h1) pss_U) fun σ G H D hh sl sv => ⟨G, hh, sl, fun v G1 H1 Δ1 r o t p => by
    obtain ⟨js, Γ', tk, hj⟩ := hr r Δ1 o
    refine tk v σ G1 H1 _ t.hs.sub p (sl.mono t.up) ?_
    intro σ4 sl4 _
    exact ⟨Δ1, Γ', hj, G1, t.hs, sl4, sv.trans t⟩⟩
theorem eqv_strs (x y : List Str) : PyData.eqv (.list (x.map .str)) (.list (y.map .str)) = decide (x = y) :=
  (enc_lst enc_str).eqv x y
theorem jb_neL (hr : X.A.units + 64 < cLine) (ha : JE X Δ Γ a (L X.K (x.map .str)) Δ1) (hb : JE X Δ1 Γ b (L X.K (y.map .str)) Δ2) : JB X Δ Γ (.Compare a [.NotEq] [b] pos) (dB (!decide (x = y)) Δ2) :=
  jb_cmp (op_neD hr) ha.lst hb.lst (rv_neE (enc_lst enc_str))
end
section
variable {P : Program} {w : World} {K : PySem.W.Frag} {mg : Str → Option Value} {base : Heap} {C : Addr} {c Pt Cn Cb : Addr}
abbrev N_sr : List Str := ["_law_made", "_law_case_here", "_law_rows_here", "_law_said", "_law_word", "_law_it", "_law_is_due", "_law_blend"]
theorem sc_sr : FnScope N_sr ["_law_made", "_law_case_here", "_law_rows_here", "_law_said"] (defScope (top 87)) := ⟨rfl, rfl, rfl, by decide +kernel, rfl, by decide +kernel, by decide +kernel⟩
def pm_sr (K : PySem.W.Frag) (C Pt : Addr) : Prm := fun rs Δ r Δ' => ∃ (ps : List (List Str)) (cd : CaseD) (S : List Str), CdOk cd ∧ BM.Asc sLt S ∧ (∀ h ∈ S, h ∈ holders cd.cs) ∧ rs = [Bk K C ps cd.cs, CaseV K cd, L K ((clauses cd.cs cd.fs).map eS), D K (eS S)] ∧ Δ = [(Pt, TbC qLam)] ∧ r = D K (.bool true) ∧ Δ' = [(Pt, TbC qLam)]
theorem clauses_few {cd : CaseD} (h : CdOk cd) : ∀ r ∈ clauses cd.cs cd.fs, r.length ≤ 5 ∧ ∀ x ∈ r, x.cps.size ≤ 63 := by
  have hlen : (holders cd.cs).length ≤ 5 := by unfold holders; rw [List.length_map]; exact h.ok.few
  have sub : ∀ (p : Str × List Str → Bool), ((cd.cs.filter p).map (·.1)).length ≤ 5 := fun p => by
    rw [List.length_map]
    exact Nat.le_trans (List.length_filter_le _ _) h.ok.few
  intro r hr
  refine ⟨?_, fun x hx => h.sh x (by rw [h.hs]; exact clauses_sub r hr x hx)⟩
  have hr := BM.ss_mem.mp hr
  rcases List.mem_cons.mp hr with rfl | hr
  · exact hlen
  · obtain ⟨f, _, hr⟩ := List.mem_flatMap.mp hr
    unfold findClauses at hr
    obtain ⟨q, _, hr⟩ := List.mem_flatMap.mp hr
    unfold entry1 at hr
    split at hr
    · cases hr
    · unfold entryClauses at hr
      split at hr
      · obtain rfl := List.mem_singleton.mp hr
        exact Nat.zero_le _
      · split at hr
        · obtain rfl := List.mem_singleton.mp hr
          exact sub _
        · obtain ⟨m, _, rfl⟩ := List.mem_map.mp hr
          exact sub _
theorem ok_sr (T : Tx K mg) (F : BkF K mg C) (TB : TbF K mg base c Pt) (N : NsF K mg Cn Cb) : OkG P w K mg base 12 "_law_set_right" ["_law_made", "_law_case_here", "_law_rows_here", "_law_said"] (pm_sr K C Pt) :=
  okg_of T.d__law_set_right sc_sr (fun _ _ _ _ _ _ us hl => match us, hl with | [_, _, _, _], _ => rfl) (fun rs Δ r Δ' ⟨_, _, _, _, _, _, e, _⟩ => by rw [e]; rfl) fun f cdv A outer s H E rs Δ r Δ' hr hgd hp => by
    obtain ⟨ps, cd, S, hc, hS1, hS2, rfl, rfl, rfl, rfl⟩ := hp
    refine jss_asgX (g := gTup K 2 (gCons (gName 4) (gCons (gName 5) gNil))) (je_call (Δ0 := [(Pt, TbC qLam)]) (Δr := []) (Δ0' := [(Pt, TbC qLam)]) (ok_lh T F TB N) hr (ja_cons (je_var 0) (ja_cons (je_var 1) (ja_cons (je_var 3) ja_nil))) ⟨ps, cd, S, hc.ok, rfl, rfl, rfl, rfl⟩).xx (pg_tup rfl (pgs_cons (pg_name (i := 4) sc_sr.nd rfl (Or.inl rfl)) (pgs_cons (pg_name (i := 5) sc_sr.nd rfl (by first | exact Or.inl rfl | exact Or.inr rfl)) pgs_nil))) ?_
    rintro r1 Δ1 ⟨d, hd, rfl, rfl⟩
    have due : ∀ {Γ : Gm}, Γ[0]? = some (some (Bk K C ps cd.cs)) → Γ[1]? = some (some (CaseV K cd)) → Γ[3]? = some (some (D K (eS S))) → JE (cxN P w K mg base N_sr "_law_set_right" 87 f cdv A outer s H E) [(Pt, TbC qLam)] Γ
        (match (defBody (top 87)).getD 1 (.Pass ⟨0, 0, 0, 0⟩) with | .Assign _ e _ => e | _ => .Constant .none 0 ⟨0, 0, 0, 0⟩) (D K (.bool (BM.isStmt (groupsOf cd.cs cd.fs cd.m) S))) [(Pt, TbC qLam)] := fun h0 h1 h3 =>
      je_callK (ok_is T F (ok_lg T F)) (hr.mono (by decide)) (ja_cons (je_var 0 h0) (ja_cons (je_blends (hu1 hr) (je_var 1 h1)) (ja_cons (je_var 3 h3) ja_nil))) (je_bound (hu1 hr) (je_var 1 h1)) ⟨ps, cd.cs, cd.fs, S, cd.m, hc.ok, hS1, hS2, rfl, rfl⟩
    rcases hd with ⟨t, rfl, hall, ht⟩ | ⟨g, rfl, hg, hm⟩
    · have hst : BM.isStmt (groupsOf cd.cs cd.fs cd.m) S = true := by
        unfold BM.isStmt
        rw [List.all_eq_true]
        exact fun g hg => by rw [BM.meets_comm]; exact hall g hg
      refine ⟨_, _, tg_pair (d1 := .str "tree") (d2 := t) 4 5, ?_⟩
      refine jss_setE (i := 6) (due rfl rfl rfl) sc_sr.nd ?_
      rw [hst]
      refine jss_if0 (Δ1 := [(Pt, TbC qLam)]) (bb := true) ?_ (fun _ => ?_) fun h => by cases h
      · exact ((jw_and (b1 := true) (b2 := true) (jb_isTrue (je_var 6)) fun _ => jw_and1 ((jb_eqS (je_var 4) je_str).eq rfl)).jb).eq rfl
      refine jss_if0 (Δ1 := [(Pt, TbC qLam)]) (bb := false) ?_ (fun h => by cases h) fun _ => ?_
      · exact (jb_not (jb_val (je_callGP (ok_tr T 6) (hr.mono (by decide)) hgd (ja_cons (je_var 2) (ja_cons (je_var 3) (ja_cons (je_var 5) (ja_cons (je_bound (hu1 hr) (je_var 1)) (ja_cons je_tup0 ja_nil))))) ⟨clauses cd.cs cd.fs, S, t, cd.m, [], by simp, clauses_few hc, ht, rfl, rfl⟩))).eq rfl
      exact jss_ret (je_isTrue (je_callK (ok_th T F) (hr.mono (by decide)) (ja_cons (je_var 0) (ja_cons (je_blends (hu1 hr) (je_var 1)) (ja_cons (je_var 3) (ja_cons (je_var 5) ja_nil)))) (je_bound (hu1 hr) (je_var 1)) ⟨ps, cd.cs, cd.fs, S, t, cd.m, hc.ok, ht, rfl, rfl⟩)) fnO_rt
    · obtain ⟨g1, g2, g3, g4, g5⟩ := BM.lg_good so_sLt hg
      obtain ⟨k1, k2⟩ := groups_good hc.ok g hg
      have hst : BM.isStmt (groupsOf cd.cs cd.fs cd.m) S = false := by
        rw [← Bool.not_eq_true]
        unfold BM.isStmt
        rw [List.all_eq_true]
        intro h
        have := h g hg
        rw [BM.meets_comm, hm] at this
        cases this
      refine ⟨_, _, tg_pair (d1 := .str "not said") (d2 := eS g) 4 5, ?_⟩
      refine jss_setE (i := 6) (due rfl rfl rfl) sc_sr.nd ?_
      rw [hst]
      refine jss_if0 (Δ1 := [(Pt, TbC qLam)]) (bb := false) ?_ (fun h => by cases h) fun _ => ?_
      · exact ((jw_and (b1 := false) (b2 := false) (jb_isTrue (je_var 6)) fun h => by cases h).jb).eq rfl
      refine jss_if0 (Δ1 := [(Pt, TbC qLam)]) (bb := false) ?_ (fun h => by cases h) fun _ => ?_
      · refine ((jw_or (b1 := false) (b2 := false) (jb_notFalse (je_var 6)) fun _ => jw_or (b1 := false) (b2 := false) ((jb_neS (je_var 4) je_str).eq rfl) fun _ => jw_or (b1 := false) (b2 := false) ((jb_not (jb_val (je_isiT (ds := g.map .str) T.f_isinstance T.f_tuple (je_var 5)))).eq rfl) fun _ => jw_or1 ?_).jb).eq rfl
        exact (jb_val (je_callP (ok_lmeets T) (hr.mono (by decide)) (ja_cons (je_var 5) (ja_cons (je_var 3) ja_nil)) ⟨g, S, rfl, rfl⟩)).eq hm
      refine jss_if0 (Δ1 := [(Pt, TbC qLam)]) (bb := false) ?_ (fun h => by cases h) fun _ => ?_
      · refine ((jw_or (b1 := false) (b2 := false) ?_ fun _ => jw_or (b1 := false) (b2 := false) ?_ fun _ => jw_or (b1 := false) (b2 := false) ?_ fun _ => jw_or1 ?_).jb).eq rfl
        · refine (jb_nilEqT (ds := g.map .str) (hu64 hr) (je_var 5) je_tup0 (dep_map enc_str.dep (by decide) _)).eq ?_
          rw [isEmpty_map]
          cases g with
          | nil => exact absurd rfl g3
          | cons _ _ => rfl
        · refine (jb_gt (je_lenT (ds := g.map .str) T.f_len (je_var 5)) (je_bound (hu1 hr) (je_var 1))).eq ?_
          rw [List.length_map]
          simp
          omega
        · refine (jb_not (jb_val (je_callP (ok_lwithin T) (hr.mono (by decide)) (ja_cons (je_var 5) (ja_cons (je_people (hu1 hr) (je_var 1)) ja_nil)) ⟨g, cd.hs, Or.inr rfl, rfl⟩))).eq ?_
          rw [BM.within_iff.mpr (by rw [hc.hs]; exact k2)]
          rfl
        · refine (jb_neL (x := g) (y := BM.ss sLt g) (hu64 hr) (je_listT T.f_list (je_var 5)) (je_ssT rfl (hu5 hr) T.f_sorted T.f_set (je_var 5) (by omega))).eq ?_
          rw [← BM.asc_ext so_sLt g1 (BM.ss_asc so_sLt g) fun x => BM.ss_mem.symm]
          simp
      refine jss_if0 (Δ1 := [(Pt, TbC qLam)]) (bb := false) ?_ (fun h => by cases h) fun _ => ?_
      · refine (jb_nilNeL (ds := (cd.fs.filter fun f => !lawCan cd.cs g f).map eF) (hu64 hr) ?_ je_lst0 ?_).eq ?_
        · refine je_flt (l := cd.fs) (ra := fun f => D K (eF f)) (p := fun f => !lawCan cd.cs g f) (f := eF) (js := [7]) (own := [("_law_blend", 7)]) rfl sc_sr.nd (ji_Te (l := cd.fs) (enc := eF) (je_blends (hu1 hr) (je_var 1))) (blkOk_by (N := N_sr) (sc := defScope (top 87)) (by decide +kernel)) (fun _ _ _ _ _ => pg_name (i := 7) sc_sr.nd rfl (Or.inl rfl)) (fun a _ => tg_name 7) (fun _ h => h)
            (fun fd hfd _ _ _ _ _ => jb_not (jb_val (je_callP (ok_cn T) (hr.mono (by decide)) (ja_cons (je_var 1) (ja_cons (je_var 5) (ja_cons (je_var 7) ja_nil))) ⟨cd, g, fd, by have := hc.ok.few; omega, (hc.ok.wid fd hfd).2, rfl, rfl⟩))) fun x _ _ _ _ _ _ _ => je_var 7
        · exact dep_map enc_eF.dep (by decide) _
        · rw [isEmpty_map, List.filter_eq_nil_iff.mpr fun f hf => by rw [can_ok hc g3 g2 g5 hf]; decide]
          rfl
      refine jss_ret (je_isTrue ((je_callK (ok_ft T F) (hr.mono (by decide)) (ja_cons (je_var 0) (ja_cons (je_var 5) (ja_cons (je_blends (hu1 hr) (je_var 1)) ja_nil))) (je_bound (hu1 hr) (je_var 1)) ⟨ps, cd.cs, cd.fs, g, cd.m, hc.ok, rfl, rfl⟩).eq ?_)) fnO_rt
      rw [g5, decide_eq_true g4]
      rfl
end
end Bl
set_option Elab.async false
set_option linter.all false
set_option maxRecDepth 100000
set_option maxHeartbeats 2000000
/-! cells: weaker, opened; dict cells; _law_draw -/
namespace Bl
open PySem PySem.Spec PyProof.Rows L2
/-! ### weaker cells -/
inductive CLe : Cs → Cs → Prop
  | nil : CLe [] []
  | cons {p : Addr} {C C' : Cl} {Δ Δ' : Cs} : (∀ G o, C.P G o → C'.P G o) → CLe Δ Δ' → CLe ((p, C) :: Δ) ((p, C') :: Δ')
theorem CLe.refl : ∀ Δ : Cs, CLe Δ Δ
  | [] => .nil
  | _ :: Δ => .cons (fun _ _ h => h) (CLe.refl Δ)
theorem CLe.same {q : Addr × Cl} {Δ Δ' : Cs} (h : CLe Δ Δ') : CLe (q :: Δ) (q :: Δ') := .cons (fun _ _ h => h) h
theorem CLe.dom {Δ Δ' : Cs} (h : CLe Δ Δ') : dom Δ = dom Δ' := by
  induction h with
  | nil => rfl
  | cons _ _ ih => unfold Bl.dom at ih ⊢; rw [List.map_cons, List.map_cons, ih]
theorem CLe.hs {Δ Δ' : Cs} {G H : Hp} (l : CLe Δ Δ') (h : Hs Δ G H) : Hs Δ' G H := by
  refine ⟨h.sub, fun q hq => ?_, by rw [← l.dom]; exact h.nd⟩
  have key : ∀ {Δ Δ' : Cs}, CLe Δ Δ' → (∀ q ∈ Δ, G q.1 = none ∧ ∃ o, H q.1 = some o ∧ q.2.P G o) → ∀ q ∈ Δ', G q.1 = none ∧ ∃ o, H q.1 = some o ∧ q.2.P G o := by
    intro Δ Δ' l
    induction l with
    | nil => intro _ q hq; cases hq
    | cons k _ ih =>
      intro h q hq
      rcases List.mem_cons.mp hq with rfl | hq
      · obtain ⟨g, o, e, p⟩ := h _ (List.mem_cons_self ..)
        exact ⟨g, o, e, k _ _ p⟩
      · exact ih (fun q hq => h q (List.mem_cons_of_mem _ hq)) q hq
  exact key l h.cell q hq
theorem CLe.tr {Δ Δ1 Δ2 : Cs} {G H G' H' : Hp} (l : CLe Δ1 Δ2) (t : Tr Δ G H Δ1 G' H') : Tr Δ G H Δ2 G' H' := ⟨l.hs t.hs, t.up, t.fr, fun a ha => t.nw a (by rw [l.dom]; exact ha)⟩
theorem CLe.tr0 {Δ Δ1 Δ2 : Cs} {G H G' H' : Hp} (l : CLe Δ Δ1) (t : Tr Δ1 G H Δ2 G' H') : Tr Δ G H Δ2 G' H' := ⟨t.hs, t.up, fun a u ha => t.fr a u (by rw [← l.dom]; exact ha), fun a ha => by rw [l.dom]; exact t.nw a ha⟩
section
variable {X : Cx} {e a b o : Expr} {es : List Expr} {Γ Γ' : Gm} {Δ Δ1 Δ2 Δ3 Δ' : Cs} {r ra rb rc : SV} {rs : List SV} {pos pos' px : Pos} {d d1 d2 : PyData} {ds ds1 ds2 : List PyData} {O O' : En → Prop} {sts rest body els : List Stmt} {st : Stmt} {p : Addr}
theorem JE.ce (h : JE X Δ Γ e r Δ1) (l : CLe Δ1 Δ2) : JE X Δ Γ e r Δ2 := je_of h.use fun σ G H Q hs sl q => ⟨G, hs, sl, fun v G1 H1 t p => q v G1 H1 (l.tr t) p⟩
theorem JE.ce0 (h : JE X Δ1 Γ e r Δ2) (l : CLe Δ Δ1) : JE X Δ Γ e r Δ2 := je_of h.use fun σ G H Q hs sl q => ⟨G, l.hs hs, sl, fun v G1 H1 t p => q v G1 H1 (l.tr0 t) p⟩
theorem JSs.ce (h : JSs X Δ1 Γ sts O) (l : CLe Δ Δ1) : JSs X Δ Γ sts O := jss_of h.use fun σ G H Dn hs sl sv => ⟨G, l.hs hs, sl, ⟨fun σ' G' H' Δ' Γ' o t => sv.nx σ' G' H' Δ' Γ' o (l.tr0 t), fun v G' H' Δ' r o t => sv.rt v G' H' Δ' r o (l.tr0 t), fun σ' G' H' Δ' Γ' o t => sv.ct σ' G' H' Δ' Γ' o (l.tr0 t), fun σ' G' H' Δ' Γ' o t => sv.bk σ' G' H' Δ' Γ' o (l.tr0 t)⟩⟩
theorem Hs.at_ {G H : Hp} {C C' : Cl} {j : Nat} {u : HO} (h : Hs Δ G H) (hj : Δ[j]? = some (p, C)) (hp : H p = some u) (k : C'.P G u) : Hs (Δ.set j (p, C')) G H := by
  have t := Tr.put h hj (C' := C') k
  have e : upd H p u = H := by
    funext b
    by_cases z : b = p
    · subst z; rw [upd_same, hp]
    · rw [upd_ne z]
  rw [e] at t
  exact t.hs
theorem dom_set {C C' : Cl} {j : Nat} (hj : Δ[j]? = some (p, C)) : dom (Δ.set j (p, C')) = dom Δ := by
  unfold dom
  rw [List.map_set]
  exact set_self (by rw [List.getElem?_map, hj]; rfl)
theorem tr_set {Δ2 : Cs} {G H G' H' : Hp} {C C' : Cl} {j : Nat} (hj : Δ[j]? = some (p, C)) (t : Tr (Δ.set j (p, C')) G H Δ2 G' H') : Tr Δ G H Δ2 G' H' :=
  ⟨t.hs, t.up, fun a u ha => t.fr a u (by rw [dom_set hj]; exact ha), fun a ha => by rw [← dom_set (C' := C') hj]; exact t.nw a ha⟩
/-- by cases on what a cell holds -/
theorem jss_open {ι : Type} {W : ι → Prop} {Cf : ι → Cl} {C : Cl} {j : Nat} (hj : Δ[j]? = some (p, C)) (ho : ∀ G u, C.P G u → ∃ i, W i ∧ (Cf i).P G u) (h : ∀ i, W i → JSs X (Δ.set j (p, Cf i)) Γ sts O) : JSs X Δ Γ sts O := ⟨fun pins s σ G H I hs sl => by
  obtain ⟨_, u, e, pu⟩ := hs.cell _ (List.mem_of_getElem? hj)
  obtain ⟨i, wi, pi⟩ := ho G u pu
  refine thn ((h i wi).run pins s σ G H I (hs.at_ hj e pi) sl) fun f s' q => sp_mono q (fun σ' H' ⟨G', Δ', Γ', o, t, z⟩ => ⟨G', Δ', Γ', o, tr_set hj t, z⟩) (fun v H' ⟨G', Δ', r, o, t, z⟩ => ⟨G', Δ', r, o, tr_set hj t, z⟩) (fun σ' H' ⟨G', Δ', Γ', o, t, z⟩ => ⟨G', Δ', Γ', o, tr_set hj t, z⟩) fun σ' H' ⟨G', Δ', Γ', o, t, z⟩ => ⟨G', Δ', Γ', o, tr_set hj t, z⟩⟩
/-! ### dicts that change -/
def KC (kvs : List (Key × V)) : Cl := ⟨fun _ o => o = .dK kvs, fun _ h => h⟩
theorem sl_kc {kvs : List (Key × V)} {G H : Hp} {j : Nat} (hs : Hs Δ G H) (hj : Δ[j]? = some (p, KC kvs)) : H p = some (.dK kvs) := by
  obtain ⟨_, o, e, k⟩ := hs.cell _ (List.mem_of_getElem? hj)
  have k : o = .dK kvs := k
  rw [← k]; exact e
/-- o[text] -/
theorem je_kget {kvs : List (Key × V)} {u : V} {z : Str} {j k : Nat} (hu : X.A.units + 1 < cLine) (ho : JE X Δ Γ o (VV (.ref p)) Δ) (hj : Δ[j]? = some (p, KC kvs)) (hv : valV kvs (.inr z) = some u) : JE X Δ Γ (.Subscript o (.Constant (.str z) k px) pos) (VV u) Δ :=
  je_of (pe_dget hu ho.use pe_str (by intro _ _; rfl)) fun σ G H Q hs sl q => ⟨G, hs, sl, fun v G1 H1 t1 p1 => by
    have e1 : v = .ref p := p1
    subst e1
    have h1 := DGet.k (k := .inr z) (sl_kc t1.hs hj)
    rw [hv] at h1
    exact ⟨p, u, rfl, h1, q u G1 H1 t1 rfl⟩⟩
theorem VV.int {i : Int} (h : JE X Δ Γ e (VV (.int i)) Δ1) : JE X Δ Γ e (D X.K (.int i)) Δ1 := h.to fun v G q => by
  have q : v = .int i := q
  subst q
  exact d_int i
/-- o[text] = e, a number -/
theorem jss_kput {kvs : List (Key × V)} {i : Int} {z : Str} {j k : Nat} (hu : X.A.units + 1 < cLine) (hv : JE X Δ Γ e (D X.K (.int i)) Δ) (ho : JE X Δ Γ o (VV (.ref p)) Δ) (hj : Δ[j]? = some (p, KC kvs)) (hl : kvs.length < sizeLine)
    (hr : JSs X (Δ.set j (p, KC (putK kvs (.inr z) (.int i)))) Γ rest O) (hs : swapsWith e (some (.Subscript o (.Constant (.str z) k px) pos')) pos.line X.env = pure false := by rfl) :
    JSs X Δ Γ (.Assign [.Subscript o (.Constant (.str z) k px) pos'] e pos :: rest) O :=
  jss_of (pss_cons (ps_dput hu ho.use pe_str hv.use hs) pss_U) fun σ G H Dn hs sl sv => ⟨G, hs, sl, fun v G1 H1 t1 p1 => ⟨G1, t1.hs, sl.mono t1.up, fun x G2 H2 t2 p2 => by
    have e2 : x = .ref p := p2
    subst e2
    cases p1.1
    refine ⟨p, _, rfl, DPut.k (k := .inr z) (sl_kc t2.hs hj) hl, ?_⟩
    have t3 := Tr.put (C' := KC (putK kvs (.inr z) (.int i))) t2.hs hj (o := .dK (putK kvs (.inr z) (.int i))) rfl
    exact ⟨_, Γ, hr, G2, t3.hs, sl.mono (t1.trans t2).up, sv.trans ((t1.trans t2).trans t3)⟩⟩⟩
/-! ### a list of numbers that changes -/
theorem jb_neNilC {j : Nat} {ds : List PyData} (hr : X.A.units + 64 < cLine) (ho : JE X Δ Γ o (VV (.ref p)) Δ) (hj : Δ[j]? = some (p, LC X.K ds)) (hd : (PyData.list ds).depth ≤ 64) : JB X Δ Γ (.Compare o [.NotEq] [.List [] px] pos) (dB (!ds.isEmpty) Δ) :=
  jb_of (pt_cmpR (op_neD hr) ho.use je_lst0.lst.use (nomark _)) fun σ G H Q hs sl q => ⟨G, hs, sl, fun v G1 H1 t1 p1 => ⟨G1, t1.hs, sl.mono t1.up, fun y G2 H2 t2 p2 => by
    have e1 : v = .ref p := p1
    subst e1
    obtain ⟨xs, h1, h2, h3⟩ := sl_cell (X := X) (σ := σ) (i := 0) t2.hs hj
    refine ⟨.list ds, .list [], .lst (SqL.of h1) (dps_same t2.hs.sub h2), dp_same t2.hs.sub p2.1, shaped_of (lst_ok.mpr h3) hd, shaped_of p2.2 dep_nilL, ?_⟩
    rw [eqv_nilL]
    exact ⟨_, rfl, q _ G2 Δ H2 ⟨rfl, rfl⟩ (t1.trans t2)⟩⟩⟩
theorem dps_unsnoc {K : PySem.W.Frag} {H : Hp} : ∀ {ds : List PyData} {xs : List V} {d : PyData}, DpAll K H xs (ds ++ [d]) → ∃ ys y, xs = ys ++ [y] ∧ DpAll K H ys ds ∧ Dp K H y d
  | [], _, d, .cons h .nil => ⟨[], _, rfl, .nil, h⟩
  | a :: ds, _, d, .cons h t => by
    obtain ⟨ys, y, rfl, h1, h2⟩ := dps_unsnoc t
    exact ⟨_ :: ys, y, rfl, .cons h h1, h2⟩
/-- o.pop() -/
theorem je_popC {j : Nat} {ds : List PyData} {apos cpos : Pos} (ho : JE X Δ Γ o (VV (.ref p)) Δ) (hj : Δ[j]? = some (p, LC X.K (ds ++ [d]))) (hbase : attributeBase o "pop" X.env (eval o X.env) = eval o X.env := by rfl) (hline : (apos.endLine == cpos.line) = true := by rfl) :
    JE X Δ Γ (.Call (.Attribute o "pop" apos) [] [] cpos) (D X.K d) (Δ.set j (p, LC X.K ds)) :=
  je_of (pe_bm0 PySem.F.plainAttrs_list PySem.F.slot_list_pop PySem.F.type_list_pop mt_pop ho.use hbase hline) fun σ G H Q hs sl q => ⟨G, hs, sl, fun v G1 H1 t1 p1 => by
    have e1 : v = .ref p := p1
    subst e1
    obtain ⟨xs, h1, h2, h3⟩ := sl_cell (X := X) (σ := σ) (i := 0) t1.hs hj
    obtain ⟨ys, y, rfl, k1, k2⟩ := dps_unsnoc h2
    refine ⟨.inl ⟨rfl, _, SqL.of h1⟩, p, _, y, rfl, rfl, h1, by simp, ?_⟩
    have t2 := Tr.put (C' := LC X.K ds) t1.hs hj (o := .lst ys) ⟨ys, rfl, k1, fun e he => h3 e (List.mem_append_left _ he)⟩
    rw [List.dropLast_concat]
    exact q _ G1 _ (t1.trans t2) ⟨k2, h3 d (by simp)⟩⟩
/-- o.append(e), o any expression -/
theorem jss_appC {j j0 : Nat} {ds ds0 : List PyData} {apos cpos : Pos} (ho : JE X Δ Γ o (VV (.ref p)) Δ) (hj0 : Δ[j0]? = some (p, LC X.K ds0)) (he : JE X Δ Γ e (D X.K d) Δ1) (hj : Δ1[j]? = some (p, LC X.K ds)) (hz : ds.length < sizeLine)
    (hr : JSs X (Δ1.set j (p, LC X.K (ds ++ [d]))) Γ rest O) (hbase : attributeBase o "append" X.env (eval o X.env) = eval o X.env := by rfl)
    (hfew : ((backTo cpos (starEach (e :: []) X.env)).all (fun x => !x.1) && (backToKw cpos (keywordEach [] X.env)).all (fun x => x.1.isSome) && decide ((e :: []).length + ([] : List Keyword).length + (if ([] : List Keyword).isEmpty then 0 else 1) < 30)) = true := by rfl)
    (hline : (apos.endLine == cpos.line) = true := by rfl) (hse : starEach (e :: []) X.env = (false, eval e X.env) :: starEach [] X.env := by rfl) (hplain : (backTo cpos (starEach [] X.env)).any (·.1) = false := by rfl) (hw : swapsWith (.Call (.Attribute o "append" apos) [e] [] cpos) none pos.line X.env = pure false := by rfl) :
    JSs X Δ Γ (.Expr (.Call (.Attribute o "append" apos) [e] [] cpos) pos :: rest) O := by
  refine jss_expr (Oe := fun r Δ2 => r = VV .non ∧ Δ2 = Δ1.set j (p, LC X.K (ds ++ [d]))) (jx_of (pe_bm PySem.F.plainAttrs_list PySem.F.slot_list_append PySem.F.type_list_append mt_append ho.use (ja_cons he ja_nil hse).use hbase hfew hline hse hplain) fun σ G H Q hs sl q => ⟨G, hs, sl, fun v G1 H1 t1 p1 => ?_⟩) (fun r Δ2 ⟨_, e2⟩ => by rw [e2]; exact hr) hw
  have e1 : v = .ref p := p1
  subst e1
  obtain ⟨xs0, h0, _⟩ := sl_cell (X := X) (σ := σ) (i := 0) t1.hs hj0
  refine ⟨.inl ⟨rfl, _, SqL.of h0⟩, G1, t1.hs, sl.mono t1.up, fun vs G2 H2 t2 ps => ?_⟩
  obtain ⟨y, rfl, pd⟩ := paired1 ps
  obtain ⟨xs, h1, h2, h3⟩ := sl_cell (X := X) (σ := σ) (i := 0) t2.hs hj
  exact ⟨p, xs, y, rfl, rfl, h1, by rw [dps_len h2]; exact hz, q _ G2 _ _ _ ⟨rfl, rfl⟩ ((t1.trans t2).trans (Tr.put t2.hs hj ⟨_, rfl, dps_snoc h2 pd.1, allok_app h3 (allok_cons pd.2 allok_nil)⟩)) rfl⟩
/-! ### numbers -/
theorem je_mul {i j : Int} (hc : CMul i j) (ha : JE X Δ Γ a (D X.K (.int i)) Δ1) (hb : JE X Δ1 Γ b (D X.K (.int j)) Δ2) : JE X Δ Γ (.BinOp a .Mult b pos) (D X.K (.int (i * j))) Δ2 := je_op op_mul ha hb (rv_ic hc)
theorem je_mod {i j : Int} (hc : 0 < j) (ha : JE X Δ Γ a (D X.K (.int i)) Δ1) (hb : JE X Δ1 Γ b (D X.K (.int j)) Δ2) : JE X Δ Γ (.BinOp a .Mod b pos) (D X.K (.int (i % j))) Δ2 := je_op op_mod ha hb (rv_ic (C := fun _ j => 0 < j) hc)
theorem je_fdiv {i j : Int} (hc : CDiv i j) (ha : JE X Δ Γ a (D X.K (.int i)) Δ1) (hb : JE X Δ1 Γ b (D X.K (.int j)) Δ2) : JE X Δ Γ (.BinOp a .FloorDiv b pos) (D X.K (.int (i / j))) Δ2 := je_op op_fdiv ha hb (rv_ic hc)
theorem je_pow {i j : Int} (hc : CPow i j) (ha : JE X Δ Γ a (D X.K (.int i)) Δ1) (hb : JE X Δ1 Γ b (D X.K (.int j)) Δ2) : JE X Δ Γ (.BinOp a .Pow b pos) (D X.K (.int (i ^ j.toNat))) Δ2 := je_op op_pow ha hb (rv_ic (f := fun i j => i ^ j.toNat) hc)
end
/-! ### the deck -/
def kvD (pl : Addr) (m k : Int) : List (Key × V) := [(.inr "cells", .ref pl), (.inr "mixed", .int m), (.inr "draws", .int k)]
/-- the deck's dict, at most n draws so far; its list of cells -/
def DkC (pl : Addr) (n : Nat) : Cl := ⟨fun _ o => ∃ m k : Int, o = .dK (kvD pl m k) ∧ 0 ≤ k ∧ k ≤ n, fun _ h => h⟩
def NsC (K : PySem.W.Frag) : Cl := ⟨fun G o => ∃ ns : List Int, ns.length ≤ 63 ∧ (LC K (ns.map .int)).P G o, fun e ⟨ns, h, k⟩ => ⟨ns, h, (LC K _).mono e k⟩⟩
abbrev dkD (K : PySem.W.Frag) (dp pl : Addr) (n : Nat) : Cs := [(dp, DkC pl n), (pl, NsC K)]
theorem dkD_le {K : PySem.W.Frag} {dp pl : Addr} {n m : Nat} (h : n ≤ m) {Δr : Cs} : CLe (dkD K dp pl n ++ Δr) (dkD K dp pl m ++ Δr) :=
  .cons (fun _ _ ⟨a, b, h1, h2, h3⟩ => ⟨a, b, h1, h2, by omega⟩) (CLe.refl _)
section
variable {P : Program} {w : World} {K : PySem.W.Frag} {mg : Str → Option Value} {base : Heap} {C : Addr}
theorem dep_ints : ∀ ns : List Int, (PyData.list (ns.map .int)).depth ≤ 64 := fun ns => dep_map (n := 0) (fun _ => by simp [PyData.depth]) (by decide) _
abbrev N_dw : List Str := ["_law_deck_here", "_law_many", "_law_at", "_law_cell", "_law_stirred"]
theorem sc_dw : FnScope N_dw ["_law_deck_here", "_law_many"] (defScope (top 70)) := ⟨rfl, rfl, rfl, by decide +kernel, rfl, by decide +kernel, by decide +kernel⟩
/-- a number below n -/
def belowR (K : PySem.W.Frag) (n : Nat) : SV := SV.ex (fun i : Nat => i < n) (fun i => D K (.int (i : Int)))
def pm_dw (K : PySem.W.Frag) : Prm := fun rs Δ r Δ' => ∃ (dp pl : Addr) (n many : Nat), 0 < many ∧ many < 1000 ∧ n < 2 ^ 40 ∧ rs = [VV (.ref dp), D K (.int (many : Int))] ∧ Δ = dkD K dp pl n ∧ r = belowR K many ∧ Δ' = dkD K dp pl (n + 1)
theorem ok_dw (T : Tx K mg) : Ok P w K mg base 1 "_law_draw" ["_law_deck_here", "_law_many"] (pm_dw K) :=
  ok_of T.d__law_draw sc_dw (fun _ _ _ _ _ _ us hl => match us, hl with | [_, _], _ => rfl) (fun rs Δ r Δ' ⟨_, _, _, _, _, _, _, e, _⟩ => by rw [e]; rfl) fun f cdv A outer s H E rs Δ r Δ' hr hp => by
    obtain ⟨dp, pl, n, many, hm0, hm1, hn, rfl, rfl, rfl, rfl⟩ := hp
    refine jss_open (ι := Int × Int) (W := fun q => 0 ≤ q.2 ∧ q.2 ≤ n) (Cf := fun q => KC (kvD pl q.1 q.2)) (j := 0) rfl (fun G u ⟨m, k, e, h1, h2⟩ => ⟨(m, k), ⟨h1, h2⟩, e⟩) fun ⟨m, k⟩ ⟨hk0, hk1⟩ => ?_
    refine jss_open (ι := List Int) (W := fun ns => ns.length ≤ 63) (Cf := fun ns => LC K (ns.map .int)) (j := 1) rfl (fun G u ⟨ns, h1, h2⟩ => ⟨ns, h1, h2⟩) fun ns hns => ?_
    have hk0 : 0 ≤ k := hk0
    have hk1 : k ≤ n := hk1
    have fin : ∀ {j : Int}, 0 ≤ j → j < many → ∀ v G, (D K (.int j)).P v G → (belowR K many).P v G := fun {j} h1 h2 v G pv => ⟨j.toNat, by show j.toNat < many; omega, by show (D K (.int ((j.toNat : Nat) : Int))).P v G; rw [Int.toNat_of_nonneg h1]; exact pv⟩
    have le1 : ∀ ns : List Int, ns.length ≤ 63 → CLe [(dp, KC (kvD pl m (k + 1))), (pl, LC K (ns.map .int))] (dkD K dp pl (n + 1)) := fun ns h => .cons (fun _ _ e => ⟨m, k + 1, e, by omega, by omega⟩) (.cons (fun _ _ e => ⟨ns, h, e⟩) .nil)
    have tail : ∀ (c : Int) (ns : List Int), ns.length ≤ 63 → JSs (cxN P w K mg base N_dw "_law_draw" 70 f cdv A outer s H E) [(dp, KC (kvD pl m (k + 1))), (pl, LC K (ns.map .int))] [some (VV (.ref dp)), some (D K (.int (many : Int))), some (D K (.int (k + 1))), some (D K (.int c)), none] ((defBody (top 70)).drop 3) (fnO (belowR K many) (dkD K dp pl (n + 1))) := fun c ns h => by
      refine JSs.ce ?_ (le1 ns h)
      have hc1 : CMul (88469 * (k + 1)) (k + 1) := Or.inr ⟨by omega, by omega⟩
      refine jss_setE (i := 4) (je_mod (by decide) (je_mul (Or.inr ⟨by decide, by decide⟩) (je_add (je_add (je_mod (by decide) (je_var 3) je_int) (je_mul hc1 (je_mul (Or.inl ⟨by decide, by decide⟩) je_int (je_var 2)) (je_var 2))) je_int) je_int) je_int) sc_dw.nd ?_
      generalize hx : ((c % 2147483629 + 88469 * (k + 1) * (k + 1) + 17) * 48271 % 2147483647 : Int) = x
      have hx0 : 0 ≤ x := by rw [← hx]; exact Int.emod_nonneg _ (by decide)
      have hx1 : x < 2147483647 := by rw [← hx]; exact Int.emod_lt_of_pos _ (by decide)
      have hc2 : CMul x x := Or.inl ⟨by omega, by omega⟩
      refine jss_setE (i := 4) (je_mod (by decide) (je_add (je_add (je_mul hc2 (je_var 4) (je_var 4)) (je_mul (Or.inl ⟨by decide, by decide⟩) je_int (je_var 2))) je_int) je_int) sc_dw.nd ?_
      refine jss_ret (je_mod (by omega) (je_fdiv ⟨by decide, by decide⟩ (je_mod (by decide) (je_mul (Or.inr ⟨by decide, by decide⟩) (je_var 4) je_int) je_int) je_int) (je_var 1)) ⟨rfl, fin (Int.emod_nonneg _ (by omega)) (Int.emod_lt_of_pos _ (by omega))⟩
    refine jss_kput (i := k + 1) (j := 0) (hu1 hr) (je_add (VV.int (je_kget (j := 0) (hu1 hr) (je_var 0) rfl rfl)) je_int) (je_var 0) rfl (by rw [sizeLine_eq]; show 3 < _; decide) ?_
    show JSs _ [(dp, KC (kvD pl m (k + 1))), (pl, LC K (ns.map .int))] _ _ _
    refine jss_par (i := 2) (j := 3) (VV.int (je_kget (j := 0) (hu1 hr) (je_var 0) rfl rfl)) (VV.int (je_kget (j := 0) (hu1 hr) (je_var 0) rfl rfl)).x ?_ rfl sc_dw.nd rfl rfl (by decide)
    rintro r1 Δ1 ⟨rfl, rfl⟩
    refine jss_ifB (jb_neNilC (j := 1) (hu64 hr) (je_kget (j := 0) (hu1 hr) (je_var 0) rfl rfl) rfl (dep_ints ns)) (fun hb => ?_) fun hb => jss_nil (tail _ ns hns)
    obtain ⟨ns0, c, rfl⟩ : ∃ ns0 c, ns = ns0 ++ [c] := by
      rcases List.eq_nil_or_concat ns with rfl | ⟨l, c, rfl⟩
      · cases hb
      · exact ⟨l, c, by simp⟩
    rw [List.map_append]
    rw [List.length_append] at hns
    have hns : ns0.length + 1 ≤ 63 := hns
    refine jss_setE (i := 3) (je_popC (j := 1) (je_kget (j := 0) (hu1 hr) (je_var 0) rfl rfl) rfl) sc_dw.nd ?_
    show JSs _ [(dp, KC (kvD pl m (k + 1))), (pl, LC K (ns0.map .int))] _ _ _
    refine jss_if0 (Δ1 := [(dp, KC (kvD pl m (k + 1))), (pl, LC K (ns0.map .int))]) (jb_ge (je_var 3) (je_pow ⟨by decide, by decide, by decide⟩ je_int je_int)) (fun _ => ?_) fun _ => ?_
    · refine jss_appC (Δ1 := [(dp, KC (kvD pl m (k + 1))), (pl, LC K (ns0.map .int))]) (j := 1) (j0 := 1) (d := .int (c / many)) (je_kget (j := 0) (hu1 hr) (je_var 0) rfl rfl) rfl (je_fdiv ⟨by omega, by omega⟩ (je_var 3) (je_var 1)) rfl (by rw [List.length_map, sizeLine_eq]; omega) ?_
      have e : (ns0.map PyData.int ++ [.int (c / many)]) = (ns0 ++ [c / (many : Int)]).map .int := by simp
      show JSs _ [(dp, KC (kvD pl m (k + 1))), (pl, LC K (ns0.map PyData.int ++ [.int (c / many)]))] _ _ _
      rw [e]
      refine JSs.ce ?_ (le1 _ (by simp; omega))
      exact jss_ret (je_mod (by omega) (je_var 3) (je_var 1)) ⟨rfl, fin (Int.emod_nonneg _ (by omega)) (Int.emod_lt_of_pos _ (by omega))⟩
    · refine jss_setE (i := 3) (je_add (je_var 3) (VV.int (je_kget (j := 0) (hu1 hr) (je_var 0) rfl rfl))) sc_dw.nd (jss_nil (tail _ ns0 (by omega)))
end
end Bl
set_option Elab.async false
set_option linter.all false
set_option maxRecDepth 100000
set_option maxHeartbeats 2000000
/-! _law_pick -/
namespace Bl
open PySem PySem.Spec PyProof.Rows L2
section
variable {X : Cx} {e a b o : Expr} {es : List Expr} {Γ Γ' : Gm} {Δ Δ1 Δ2 Δ3 Δ' : Cs} {r ra rb rc : SV} {pos p' : Pos} {d : PyData} {ds : List PyData} {p : Addr}
/-- one of the items -/
def oneR (K : PySem.W.Frag) (ds : List PyData) : SV := SV.ex (fun d => d ∈ ds) (D K)
theorem je_ixSQx {bb : Bool} (ha : JE X Δ Γ a (SQ bb X.K ds) Δ1) (hb : JE X Δ1 Γ b (belowR X.K ds.length) Δ2) (hs : PlainIx b := by intro _ _; rfl) : JE X Δ Γ (.Subscript a b pos) (oneR X.K ds) Δ2 := by
  have hat : ∀ i : Nat, i < ds.length → ∃ d, d ∈ ds ∧ atI ds (i : Int) = some d := fun i hi => ⟨ds[i], List.getElem_mem hi, atI_nat (List.getElem?_eq_getElem hi)⟩
  cases bb with
  | true => exact je_ix ix_tup ha hb (fun u v G H Q sg p1 ⟨i, hi, p2⟩ q => by
      obtain ⟨d, hd, ha⟩ := hat i hi
      exact rv_ixT ha u v G H Q sg p1 p2 fun v' G' H' t p => q v' G' H' t ⟨d, hd, p⟩) hs
  | false => exact je_ix ix_list ha hb (fun u v G H Q sg p1 ⟨i, hi, p2⟩ q => by
      obtain ⟨d, hd, ha⟩ := hat i hi
      exact rv_ixL ha u v G H Q sg p1 p2 fun v' G' H' t p => q v' G' H' t ⟨d, hd, p⟩) hs
theorem je_lenSQ {bb : Bool} (hm : X.mg "len" = none) (ha : JE X Δ Γ e (SQ bb X.K ds) Δ1) (hg : Gl X "len" := by rfl) (he : starEach (e :: []) X.env = (false, eval e X.env) :: starEach [] X.env := by rfl) : JE X Δ Γ (.Call (.Name "len" p') [e] [] pos) (D X.K (.int ds.length)) Δ1 := by
  cases bb with
  | true => exact je_lenT hm ha hg he
  | false => exact je_lenL hm ha hg he
/-- len, an item of a list that changes -/
theorem je_lenC {j : Nat} (hm : X.mg "len" = none) (ho : JE X Δ Γ o (VV (.ref p)) Δ) (hj : Δ[j]? = some (p, LC X.K ds)) (hg : Gl X "len" := by rfl) (he : starEach (o :: []) X.env = (false, eval o X.env) :: starEach [] X.env := by rfl) (hpl : (backTo pos (starEach [] X.env)).any (·.1) = false := by rfl) :
    JE X Δ Γ (.Call (.Name "len" p') [o] [] pos) (D X.K (.int ds.length)) Δ :=
  je_of (pe_callB call_len hg hm boot_lenB (ja_cons ho ja_nil he).use (by decide) (by decide) he hpl) fun σ G H Q hs sl q => ⟨G, hs, sl, fun vs G1 H1 t ps => by
    obtain ⟨v, rfl, p1⟩ := paired1 ps
    have e1 : v = .ref p := p1
    subst e1
    obtain ⟨xs, h1, h2, h3⟩ := sl_cell (X := X) (σ := σ) (i := 0) t.hs hj
    exact ⟨_, ds.length, rfl, .inl ⟨xs, SqL.of h1, (dps_len h2).symm⟩, q _ G1 H1 t (d_int _)⟩⟩
theorem je_ixC {j : Nat} (ho : JE X Δ Γ o (VV (.ref p)) Δ) (hb : JE X Δ Γ b (belowR X.K ds.length) Δ2) (hj : Δ2[j]? = some (p, LC X.K ds)) (hs : PlainIx b := by intro _ _; rfl) : JE X Δ Γ (.Subscript o b pos) (oneR X.K ds) Δ2 :=
  je_of (pe_ix ix_list ho.use hb.use hs) fun σ G H Q hs0 sl q => ⟨G, hs0, sl, fun v G1 H1 t1 p1 => ⟨G1, t1.hs, sl.mono t1.up, fun y G2 H2 t2 ⟨i, hi, p2⟩ => by
    have e1 : v = .ref p := p1
    subst e1
    have p2 : (D X.K (.int (i : Int))).P y G2 := p2
    cases p2.1
    obtain ⟨xs, h1, h2, h3⟩ := sl_cell (X := X) (σ := σ) (i := 0) t2.hs hj
    have hi : i < ds.length := hi
    obtain ⟨z, hz, pz⟩ := dps_get h2 (List.getElem?_eq_getElem hi)
    exact ⟨p, xs, i, z, rfl, rfl, SqL.of h1, atI_nat hz, q z G2 H2 (t1.trans t2) ⟨_, List.getElem_mem hi, pz, h3 _ (List.getElem_mem hi)⟩⟩⟩⟩
end
section
variable {P : Program} {w : World} {K : PySem.W.Frag} {mg : Str → Option Value} {base : Heap} {C : Addr}
abbrev N_pk : List Str := ["_law_deck_here", "_law_some"]
theorem sc_pk : FnScope N_pk ["_law_deck_here", "_law_some"] (defScope (top 71)) := ⟨rfl, rfl, rfl, by decide +kernel, rfl, by decide +kernel, by decide +kernel⟩
def pm_pk (K : PySem.W.Frag) : Prm := fun rs Δ r Δ' => ∃ (dp pl : Addr) (n : Nat) (ds : List PyData), 0 < ds.length ∧ ds.length < 1000 ∧ n < 2 ^ 40 ∧ r = oneR K ds ∧
  ((∃ b, rs = [VV (.ref dp), SQ b K ds] ∧ Δ = dkD K dp pl n ∧ Δ' = dkD K dp pl (n + 1)) ∨ ∃ pf, rs = [VV (.ref dp), VV (.ref pf)] ∧ Δ = dkD K dp pl n ++ [(pf, LC K ds)] ∧ Δ' = dkD K dp pl (n + 1) ++ [(pf, LC K ds)])
theorem ok_pk (T : Tx K mg) : Ok P w K mg base 2 "_law_pick" ["_law_deck_here", "_law_some"] (pm_pk K) :=
  ok_of T.d__law_pick sc_pk (fun _ _ _ _ _ _ us hl => match us, hl with | [_, _], _ => rfl) (fun rs Δ r Δ' ⟨_, _, _, _, _, _, _, _, e⟩ => by rcases e with ⟨_, e, _⟩ | ⟨_, e, _⟩ <;> rw [e] <;> rfl) fun f cdv A outer s H E rs Δ r Δ' hr hp => by
    obtain ⟨dp, pl, n, ds, h0, h1, hn, rfl, hq⟩ := hp
    rcases hq with ⟨b, rfl, rfl, rfl⟩ | ⟨pf, rfl, rfl, rfl⟩
    · exact jss_ret (je_ixSQx (bb := b) (je_var 1) (je_call (Δ0 := dkD K dp pl n) (Δr := []) (Δ0' := dkD K dp pl (n + 1)) (ok_dw T) hr (ja_cons (je_var 0) (ja_cons (je_lenSQ (bb := b) T.f_len (je_var 1)) ja_nil)) ⟨dp, pl, n, ds.length, h0, h1, hn, rfl, rfl, rfl, rfl⟩)) fnO_rt
    · exact jss_ret (je_ixC (j := 2) (je_var 1) (je_call (Δ0 := dkD K dp pl n) (Δr := [(pf, LC K ds)]) (Δ0' := dkD K dp pl (n + 1)) (ok_dw T) hr (ja_cons (je_var 0) (ja_cons (je_lenC (j := 2) T.f_len (je_var 1) rfl) ja_nil)) ⟨dp, pl, n, ds.length, h0, h1, hn, rfl, rfl, rfl, rfl⟩) rfl) fnO_rt
end
end Bl
set_option Elab.async false
set_option linter.all false
set_option maxRecDepth 100000
set_option maxHeartbeats 2000000
/-! texts; a, b, c = ..; _law_people -/
namespace Bl
open PySem PySem.Spec PyProof.Rows L2
section
variable {X : Cx} {e a b c o : Expr} {es : List Expr} {Γ Γ' : Gm} {Δ Δ1 Δ2 Δ3 Δ' : Cs} {r ra rb rc : SV} {pos p' : Pos} {d : PyData} {ds : List PyData} {p : Addr} {O : En → Prop} {sts rest : List Stmt}
/-- by cases on what a slot stands for -/
theorem jss_bind {ι : Type} {C : ι → Prop} {f : ι → SV} {i : Nat} (hg : Γ[i]? = some (some (SV.ex C f))) (h : ∀ k, C k → JSs X Δ (Γ.set i (some (f k))) sts O) : JSs X Δ Γ sts O := ⟨fun pins s σ G H I hs sl => by
  obtain ⟨v, h1, k, ck, p⟩ := sl.at_ i _ hg
  have sl' : Sl σ G (Γ.set i (some (f k))) := by
    have := sl.set (i := i) p
    rwa [set_self h1] at this
  exact (h k ck).run pins s σ G H I hs sl'⟩
/-- a, b, c = e, f, g -/
theorem jss_par3 {i j l : Nat} {x y z : Str} {px py pz pt : Pos} {kt k2 : Nat} {pt2 : Pos} (ha : JE X Δ Γ a ra Δ1) (hb : JE X Δ1 Γ b rb Δ2) (hcc : JE X Δ2 Γ c rc Δ3) (hr : JSs X Δ3 (((Γ.set i (some ra)).set j (some rb)).set l (some rc)) rest O) (hc : X.calm = true) (hN : X.N.Nodup) (hi : X.N[i]? = some x) (hj : X.N[j]? = some y) (hl : X.N[l]? = some z) (hij : i ≠ j) (hil : i ≠ l) (hjl : j ≠ l)
    (hx : X.env.scope.names.lookup x = some .local := by rfl) (hy : X.env.scope.names.lookup y = some .local := by rfl) (hz : X.env.scope.names.lookup z = some .local := by rfl) (h1 : starEach [a, b, c] X.env = (false, eval a X.env) :: starEach [b, c] X.env := by rfl) (h2 : starEach [b, c] X.env = (false, eval b X.env) :: starEach [c] X.env := by rfl) (h3 : starEach [c] X.env = (false, eval c X.env) :: starEach [] X.env := by rfl)
    (hw : swappedStores [.Tuple [.Name x px, .Name y py, .Name z pz] kt pt] (.Tuple [a, b, c] k2 pt2) X.env = pure (some [x, y, z]) := by rfl) (hs : swapsWithSole [.Tuple [.Name x px, .Name y py, .Name z pz] kt pt] (.Tuple [a, b, c] k2 pt2) pos.line X.env = pure false := by rfl) :
    JSs X Δ Γ (.Assign [.Tuple [.Name x px, .Name y py, .Name z pz] kt pt] (.Tuple [a, b, c] k2 pt2) pos :: rest) O :=
  jss_of (pss_cons (ps_par3 hc hN hi hj hl hij hil hjl hx hy hz (pa_cons ha.use (pa_cons hb.use (pa_cons hcc.use pa_nil h3) h2) h1) hw hs) pss_U) fun σ G H D hh sl sv => ⟨G, hh, sl, fun v G1 H1 t1 p1 => ⟨G1, t1.hs, sl.mono t1.up, fun w G2 H2 t2 p2 => ⟨G2, t2.hs, sl.mono (t1.trans t2).up, fun u G3 H3 t3 p3 => by
    have t := (t1.trans t2).trans t3
    exact ⟨v, w, u, rfl, Δ3, _, hr, G3, t.hs, (((sl.mono t.up).set (ra.mono (t2.trans t3).up p1)).set (rb.mono t3.up p2)).set p3, sv.trans t⟩⟩⟩⟩
/-- one sign of a text -/
theorem je_ixS {z : Str} {i : Int} {k : Nat} (ha : JE X Δ Γ a (D X.K (.str z)) Δ1) (hb : JE X Δ1 Γ b (D X.K (.int i)) Δ2) (hz : z.length ≤ sizeLine) (h : atI z.cps.toList i = some k) (ok : PyData.strOk ⟨#[k]⟩ = true) (hs : PlainIx b := by intro _ _; rfl) : JE X Δ Γ (.Subscript a b pos) (D X.K (.str ⟨#[k]⟩)) Δ2 :=
  je_ix ix_str ha hb (fun u v G H Q sg p1 p2 q => by
    cases p1.1
    cases p2.1
    exact ⟨z, i, k, rfl, rfl, hz, h, q _ G H (Up.refl sg) (d_str ok)⟩) hs
theorem je_catS {x y : Str} (hz : x.length + y.length ≤ sizeLine) (ok : PyData.strOk (x ++ y) = true) (ha : JE X Δ Γ a (D X.K (.str x)) Δ1) (hb : JE X Δ1 Γ b (D X.K (.str y)) Δ2) : JE X Δ Γ (.BinOp a .Add b pos) (D X.K (.str (x ++ y))) Δ2 :=
  je_op op_add_str ha hb fun u v G H Q sg p1 p2 q => by
    cases p1.1
    cases p2.1
    exact ⟨x, y, rfl, rfl, hz, q _ G H (Up.refl sg) (d_str ok)⟩
theorem op_repS : OpR X (binaryOp .Mult) (fun x y H Q => ∃ z i, x = .str z ∧ y = .int i ∧ MulOk z i ∧ Q (.str (Txt.mul z i)) H) := by
  intro pins s σ H x y v u Q I rx ry h
  obtain ⟨z, i, rfl, rfl, hm, q⟩ := h
  obtain ⟨t, rfl⟩ := rx
  obtain ⟨t', rfl⟩ := ry
  exact SB.mul hm fun t'' k => ⟨.str _, H, I.tok _, ⟨_, rfl⟩, q⟩
theorem je_repS {x : Str} {i : Int} (hm : MulOk x i) (ok : PyData.strOk (Txt.mul x i) = true) (ha : JE X Δ Γ a (D X.K (.str x)) Δ1) (hb : JE X Δ1 Γ b (D X.K (.int i)) Δ2) : JE X Δ Γ (.BinOp a .Mult b pos) (D X.K (.str (Txt.mul x i))) Δ2 :=
  je_op op_repS ha hb fun u v G H Q sg p1 p2 q => by
    cases p1.1
    cases p2.1
    exact ⟨x, i, rfl, rfl, hm, q _ G H (Up.refl sg) (d_str ok)⟩
/-- x.split(y) -/
theorem je_split {x y : Str} {apos cpos : Pos} (h0 : (y.length == 0) = false) (hz : x.length + 2 ≤ sizeLine) (ok : AllOk ((Txt.split x y).map .str)) (ha : JE X Δ Γ o (D X.K (.str x)) Δ1) (hb : JE X Δ1 Γ e (D X.K (.str y)) Δ2) (hs : starEach [e] X.env = [(false, eval e X.env)] := by rfl) (hbase : attributeBase o "split" X.env (eval o X.env) = eval o X.env := by rfl) (hline : (apos.endLine == cpos.line) = true := by rfl) :
    JE X Δ Γ (.Call (.Attribute o "split" apos) [e] [] cpos) (L X.K ((Txt.split x y).map .str)) Δ2 :=
  je_of (pe_split ha.use hb.use hs hbase hline) fun σ G H Q hh sl q => ⟨G, hh, sl, fun v G1 H1 t1 p1 => by
    cases p1.1
    refine ⟨⟨x, rfl⟩, G1, t1.hs, sl.mono t1.up, fun u G2 H2 t2 p2 => ?_⟩
    cases p2.1
    exact ⟨x, y, rfl, rfl, h0, hz, fun p hp => q _ _ _ ((t1.trans t2).trans ((Up.new t2.hs.sub hp).up0 t2.hs)) (new_lst (none_of_sub t2.hs.sub hp) (strs_dps _) ok)⟩⟩
end
/-! ### the names -/
def wordsS : Str := "pick smear free ann anna an place copy make say who drop"
def wordsL : List Str := ["pick", "smear", "free", "ann", "anna", "an", "place", "copy", "make", "say", "who", "drop"]
def lett (j : Nat) : Str := ⟨#[97 + j]⟩
def pname (first way k : Nat) : Str := match way with
  | 0 => lett ((first + 3 * k) % 26)
  | 1 => Txt.mul (lett first) ((k : Int) + 1)
  | 2 => lett ((first + 3 * k) % 26) ++ ("holders" : Str)
  | _ => wordsL.getD ((first + k) % 12) ⟨#[]⟩
theorem words_split : Txt.split wordsS " " = wordsL := by decide +kernel
def wordB (l z : Str) : Bool := decide (1 ≤ z.length) && decide (z.length ≤ 8) && z.cps.toList.all fun c => decide (c ∈ l.cps.toList)
theorem wordB_ok {l z : Str} (h : wordB l z = true) : wordOk l z := by
  unfold wordB at h
  simp only [Bool.and_eq_true, decide_eq_true_eq, List.all_eq_true] at h
  exact ⟨h.1.1, h.1.2, h.2⟩
theorem names_good : ∀ first ∈ List.range 26, ∀ way ∈ List.range 4, (decide ((List.range 5).map (pname first way)).Nodup && ((List.range 5).map (pname first way)).all (wordB lowS)) = true := by decide +kernel
theorem names_nd {first way n : Nat} (h1 : first < 26) (h2 : way < 4) (h3 : n ≤ 5) : ((List.range n).map (pname first way)).Nodup ∧ ∀ x ∈ (List.range n).map (pname first way), wordOk lowS x := by
  have h := names_good first (List.mem_range.mpr h1) way (List.mem_range.mpr h2)
  rw [Bool.and_eq_true, decide_eq_true_eq, List.all_eq_true] at h
  have sub : ((List.range n).map (pname first way)).Sublist ((List.range 5).map (pname first way)) := (List.range_sublist.mpr h3).map _
  exact ⟨h.1.sublist sub, fun x hx => wordB_ok (h.2 x (sub.subset hx))⟩
theorem low_ok {x : Str} (h : wordOk lowS x) : PyData.strOk x = true := by
  have hl : ∀ c ∈ lowS.cps.toList, c < 0x110000 := by decide +kernel
  unfold PyData.strOk
  rw [Array.all_eq_true_iff_forall_mem]
  intro c hc
  exact decide_eq_true (hl c (h.2.2 c (Array.mem_toList_iff.mpr hc)))
section
variable {P : Program} {w : World} {K : PySem.W.Frag} {mg : Str → Option Value} {base : Heap} {C : Addr}
theorem lett_at {j : Nat} (h : j < 26) : atI lowS.cps.toList ((j : Nat) : Int) = some (97 + j) := by
  have : ∀ j ∈ List.range 26, atI lowS.cps.toList ((j : Nat) : Int) = some (97 + j) := by decide +kernel
  exact this j (List.mem_range.mpr h)
theorem lett_ok {j : Nat} (h : j < 26) : PyData.strOk (lett j) = true := by
  have : ∀ j ∈ List.range 26, PyData.strOk (lett j) = true := by decide +kernel
  exact this j (List.mem_range.mpr h)
theorem mod_nat (a b : Nat) : ((a : Int) % (b : Int)) = ((a % b : Nat) : Int) := by simp
theorem mul_ok {c k : Nat} (h : k < 5) : MulOk ⟨#[c]⟩ ((k : Int) + 1) := by
  have e : (⟨#[c]⟩ : Str).length = 1 := rfl
  unfold MulOk
  rw [e]
  have : ∀ k ∈ List.range 5, (decide (((k : Int) + 1) < -(2 ^ 63 : Int)) || decide (((k : Int) + 1) ≥ 2 ^ 63)) = false ∧ (¬ ((k : Int) + 1) < 1 → (((k : Int) + 1) == 1 || (1 : Nat) == 0) = false → ¬ (((1 : Nat) : Int) > (2 ^ 63 - 1) / ((k : Int) + 1))) ∧
      (¬ ((k : Int) + 1) < 1 → (((k : Int) + 1) == 1 || (1 : Nat) == 0) = false → Builtin.Str.tooLong (1 * ((k : Int) + 1).toNat) = false) := by decide +kernel
  exact this k (List.mem_range.mpr h)
theorem words_ok : AllOk (wordsL.map .str) := fun d hd => by
  obtain ⟨x, hx, rfl⟩ := List.mem_map.mp hd
  have : ∀ x ∈ wordsL, PyData.strOk x = true := by decide +kernel
  exact ok_str (this x hx)
theorem mul_strOk {j k : Nat} (h : j < 26) (hk : k < 5) : PyData.strOk (Txt.mul (lett j) ((k : Int) + 1)) = true := by
  have : ∀ j ∈ List.range 26, ∀ k ∈ List.range 5, PyData.strOk (Txt.mul (lett j) ((k : Int) + 1)) = true := by decide +kernel
  exact this j (List.mem_range.mpr h) k (List.mem_range.mpr hk)
theorem hold_ok {j : Nat} (h : j < 26) : PyData.strOk (lett j ++ ("holders" : Str)) = true := by
  have : ∀ j ∈ List.range 26, PyData.strOk (lett j ++ ("holders" : Str)) = true := by decide +kernel
  exact this j (List.mem_range.mpr h)
theorem words_at {j : Nat} (h : j < 12) : atI (wordsL.map PyData.str) ((j : Nat) : Int) = some (.str (wordsL.getD j ⟨#[]⟩)) := by
  refine atI_map ?_
  have h : j < wordsL.length := h
  rw [List.getD_eq_getElem?_getD, List.getElem?_eq_getElem h]; rfl
abbrev N_pl : List Str := ["_law_deck_here", "_law_count", "_law_letters", "_law_way", "_law_first", "_law_words", "_law_found", "_law_k", "_law_letter"]
theorem sc_pl : FnScope N_pl ["_law_deck_here", "_law_count"] (defScope (top 72)) := ⟨rfl, rfl, rfl, by decide +kernel, rfl, by decide +kernel, by decide +kernel⟩
def namesR (K : PySem.W.Frag) (n : Nat) : SV := SV.ex (fun hs : List Str => BM.Asc sLt hs ∧ hs.length = n ∧ ∀ h ∈ hs, wordOk lowS h) (fun hs => L K (hs.map .str))
def pm_pl (K : PySem.W.Frag) : Prm := fun rs Δ r Δ' => ∃ (dp pl : Addr) (n count : Nat), count ≤ 5 ∧ n < 2 ^ 39 ∧ rs = [VV (.ref dp), D K (.int (count : Int))] ∧ Δ = dkD K dp pl n ∧ r = namesR K count ∧ Δ' = dkD K dp pl (n + 2)
theorem ok_pl (T : Tx K mg) : Ok P w K mg base 2 "_law_people" ["_law_deck_here", "_law_count"] (pm_pl K) :=
  ok_of T.d__law_people sc_pl (fun _ _ _ _ _ _ us hl => match us, hl with | [_, _], _ => rfl) (fun rs Δ r Δ' ⟨_, _, _, _, _, _, e, _⟩ => by rw [e]; rfl) fun f cdv A outer s H E rs Δ r Δ' hr hp => by
    obtain ⟨dp, pl, n, count, hc, hn, rfl, rfl, rfl, rfl⟩ := hp
    refine jss_par3 (i := 2) (j := 3) (l := 4) (ra := D K (.str lowS)) je_str (je_call (Δ0 := dkD K dp pl n) (Δr := []) (Δ0' := dkD K dp pl (n + 1)) (ok_dw T) hr (ja_cons (je_var 0) (ja_cons (je_int (i := 4)) ja_nil)) ⟨dp, pl, n, 4, by omega, by omega, by omega, rfl, rfl, rfl, rfl⟩)
      (je_call (Δ0 := dkD K dp pl (n + 1)) (Δr := []) (Δ0' := dkD K dp pl (n + 2)) (ok_dw T) hr (ja_cons (je_var 0) (ja_cons (je_int (i := 26)) ja_nil)) ⟨dp, pl, n + 1, 26, by omega, by omega, by omega, rfl, rfl, rfl, rfl⟩) ?_ rfl sc_pl.nd rfl rfl rfl (by decide) (by decide) (by decide)
    refine jss_bind (i := 3) rfl fun way hway => ?_
    refine jss_bind (i := 4) rfl fun first hfirst => ?_
    have hway : way < 4 := hway
    have hfirst : first < 26 := hfirst
    obtain ⟨nd, good⟩ := names_nd (n := count) hfirst hway hc
    refine jss_setE (i := 5) (r := L K (wordsL.map .str)) ((je_split (x := wordsS) (y := " ") rfl (by decide +kernel) (by rw [words_split]; exact words_ok) je_str je_str).leq (by rw [words_split])) sc_pl.nd ?_
    refine jss_set (i := 6) (jas_e (jx_newl (ds := []) ja_nil) sc_pl.nd) ?_
    rintro r1 Δ1 ⟨p, rfl, rfl⟩
    refine jss_for (js := [7]) PassesOwn.never rfl (ji_rng1 (n := count) T.f_range (je_var 1) (by rw [sizeLine_eq]; omega)) (pg_name (i := 7) sc_pl.nd rfl (Or.inl rfl))
      (fun i Δ Γ => Δ = dkD K dp pl (n + 2) ++ [(p, LC K (((List.range i).map (pname first way)).map .str))] ∧ Γ = [some (VV (.ref dp)), some (D K (.int (count : Int))), some (D K (.str lowS)), some (D K (.int (way : Int))), some (D K (.int (first : Int))), some (L K (wordsL.map .str)), some (VV (.ref p)), none, none]) ⟨rfl, rfl⟩ (fun i r Δ Γ hr' hI => ?_) fun Δ Γ hI => ?_
    · obtain ⟨rfl, rfl⟩ := hI
      obtain ⟨k, hk, rfl⟩ := at_map hr'
      obtain ⟨hlt, e⟩ := List.getElem?_eq_some_iff.mp hk
      rw [List.length_range] at hlt
      rw [List.getElem_range] at e
      subst e
      have hj : (first + 3 * i) % 26 < 26 := Nat.mod_lt _ (by decide)
      have hpn : wordOk lowS (pname first way i) := good _ (List.mem_map_of_mem (List.mem_range.mpr hlt))
      refine ⟨_, tg_name 7, ?_⟩
      refine jss_setE (i := 8) (r := D K (.str (lett ((first + 3 * i) % 26)))) (je_ixS (i := (((first + 3 * i) % 26 : Nat) : Int)) (je_var 2) ((je_mod (by decide) (je_add (je_var 4) (je_mul (Or.inl ⟨by decide, by decide⟩) je_int (je_var 7))) je_int).eq (by rw [← mod_nat]; push_cast; rfl)) (by decide +kernel) (lett_at hj) (lett_ok hj)) sc_pl.nd ?_
      refine jss_app (Δ1 := dkD K dp pl (n + 2) ++ [(p, LC K (((List.range i).map (pname first way)).map .str))]) (i := 0) (j := 2) (j0 := 2) (p := p) (d := .str (pname first way i)) (ds0 := ((List.range i).map (pname first way)).map .str) (ds := ((List.range i).map (pname first way)).map .str) (je_var 6) rfl
        (je_ixL (ds := [.str (lett ((first + 3 * i) % 26)), .str (Txt.mul (lett first) ((i : Int) + 1)), .str (lett ((first + 3 * i) % 26) ++ ("holders" : Str)), .str (wordsL.getD ((first + i) % 12) ⟨#[]⟩)]) (i := (way : Int))
          (je_lst (ja_cons (je_var 8) (ja_cons (je_repS (mul_ok (by omega)) (mul_strOk hfirst (by omega)) (je_ixS (je_var 2) (je_var 4) (by decide +kernel) (lett_at hfirst) (lett_ok hfirst)) (je_add (je_var 7) je_int)) (ja_cons (je_catS (by show 1 + 7 ≤ _; rw [sizeLine_eq]; decide) (hold_ok hj) (je_var 8) je_str)
            (ja_cons (je_ixL (i := (((first + i) % 12 : Nat) : Int)) (je_var 5) ((je_mod (by decide) (je_add (je_var 4) (je_var 7)) je_int).eq (by rw [← mod_nat]; push_cast; rfl)) (words_at (Nat.mod_lt _ (by decide)))) ja_nil))))) (je_var 3) ?_) rfl ?_ ?_
      · match way, hway with
        | 0, _ => rfl
        | 1, _ => rfl
        | 2, _ => rfl
        | 3, _ => rfl
        | m + 4, h => exact absurd h (by omega)
      · rw [List.length_map, List.length_map, List.length_range, sizeLine_eq]
        omega
      · refine jss_nil ⟨[_, _, _, _, _, _, _, none, none], .keep (.keep (.keep (.keep (.keep (.keep (.keep (.drop (.drop .nil)))))))), ?_, rfl⟩
        rw [List.range_succ, List.map_append, List.map_append]
        rfl
    · obtain ⟨rfl, rfl⟩ := hI
      rw [List.length_map, List.length_range]
      refine jss_pub (p := p) 6 2 rfl rfl ?_
      refine jss_ret (je_sortS (l := (List.range count).map (pname first way)) (hu2 hr) T.f_sorted (je_var 6)) ⟨rfl, fun v G pv => ⟨BM.srt sLt ((List.range count).map (pname first way)), ⟨BM.srt_asc so_sLt nd, ?_, fun h hh => good h (BM.srt_mem.mp hh)⟩, pv⟩⟩
      rw [BM.srt_len, List.length_map, List.length_range]
end
end Bl
set_option Elab.async false
set_option linter.all false
set_option maxRecDepth 100000
set_option maxHeartbeats 2000000
/-! _law_spots -/
namespace Bl
open PySem PySem.Spec PyProof.Rows L2
section
variable {X : Cx} {e a b c o : Expr} {es : List Expr} {Γ Γ' : Gm} {Δ Δ1 Δ2 Δ3 Δ' : Cs} {r ra rb rc : SV} {pos p' : Pos} {d : PyData} {ds : List PyData} {p : Addr} {O : En → Prop} {sts rest : List Stmt}
theorem je_slDx {lo hi : Option Expr} {Ca Cb : Option Int → Prop} {p2 : Pos} (ha : JE X Δ Γ a (D X.K (.list ds)) Δ1) (hl : JO X Δ1 Γ lo Ca Δ2) (hh : JO X Δ2 Γ hi Cb Δ3) (k : ∀ i j, Ca i → Cb j → ∀ v G, (L X.K (cutD ds i j)).P v G → r.P v G) : JE X Δ Γ (.Subscript a (.Slice lo hi none p2) pos) r Δ3 := by
  obtain ⟨tl, hl, kl⟩ := hl
  obtain ⟨th, hh, kh⟩ := hh
  refine je_of (pe_slice sl_list ha.use hl hh) fun σ G H Q hs sl q => ⟨G, hs, sl, fun v G1 H1 t1 p1 => kl σ G1 H1 _ t1.hs (sl.mono t1.up) fun il G2 H2 ci t2 => kh σ G2 H2 _ t2.hs (sl.mono (t1.up.trans t2.up)) fun ih G3 H3 cj t3 => ?_⟩
  obtain ⟨b, xs, rfl, s, h, kk⟩ := d_lst ((D X.K _).mono (t2.up.trans t3.up) p1)
  have t13 := t1.trans (t2.trans t3)
  exact ⟨b, xs, rfl, sql_same t3.hs.sub s, fun p hp => q _ _ _ (t13.trans ((Up.new t3.hs.sub hp).up0 t3.hs)) (k _ _ ci cj _ _ (new_lst (none_of_sub t3.hs.sub hp) (dps_cut h il ih) (allok_cut kk)))⟩
/-- 1 + a number -/
theorem je_add1 {C : Int → Prop} {i : Int} (ha : JE X Δ Γ a (D X.K (.int i)) Δ1) (hb : JE X Δ1 Γ b (SV.ex C fun j => D X.K (.int j)) Δ2) : JE X Δ Γ (.BinOp a .Add b pos) (SV.ex (fun k => ∃ j, C j ∧ k = i + j) fun j => D X.K (.int j)) Δ2 :=
  je_op op_add ha hb fun u v G H Q sg p1 ⟨j, cj, p2⟩ q => by
    cases p1.1
    have p2 : (D X.K (.int j)).P v G := p2
    cases p2.1
    exact ⟨i, j, rfl, rfl, q _ G H (Up.refl sg) ⟨i + j, ⟨j, cj, rfl⟩, d_int _⟩⟩
theorem je_tupleLx {ι : Type} {C : ι → Prop} {g : ι → List PyData} (hm : X.mg "tuple" = none) (ha : JE X Δ Γ e (SV.ex C fun i => L X.K (g i)) Δ1) (hg : Gl X "tuple" := by rfl) (he : starEach (e :: []) X.env = (false, eval e X.env) :: starEach [] X.env := by rfl) : JE X Δ Γ (.Call (.Name "tuple" p') [e] [] pos) (SV.ex (fun d => ∃ i, C i ∧ d = .tuple (g i)) (D X.K)) Δ1 :=
  je_callTy call_tuple_of hm boot_tupleT (ja_cons ha ja_nil he) (fun xs G H Q sg ps q => by
    obtain ⟨u, rfl, i, ci, a, ys, rfl, h, h2, h3⟩ := paired1 ps
    exact ⟨a, ys, rfl, .inl ⟨SqL.of (sg _ _ h), fun l hl => q _ _ _ (Up.new sg hl) ⟨_, ⟨i, ci, rfl⟩, new_tup (none_of_sub sg hl) h2 h3⟩⟩⟩) hg (he := he)
end
def spotL : List (List Str) := [["A", "B", "C", "D"], ["X", "XX", "XXX", "Y"], ["MARK", "MARKS", "Z", "ZZZZZZZZ"]]
def spotN : List Int := [1, 2, 3, 1, 2, 0]
instance {α : Type} {lt : α → α → Bool} {l : List α} : Decidable (BM.Asc lt l) := inferInstanceAs (Decidable (List.Pairwise _ _))
def placeB (p : List Str) : Bool := !p.isEmpty && p.all (wordB upS) && decide (BM.Asc sLt p) && decide (p.length ≤ 4)
theorem placeB_ok {p : List Str} (h : placeB p = true) : placeOk p ∧ p.length ≤ 4 := by
  unfold placeB at h
  simp only [Bool.and_eq_true, decide_eq_true_eq, List.all_eq_true, Bool.not_eq_true', List.isEmpty_eq_false_iff] at h
  exact ⟨⟨h.1.1.1, fun m hm => wordB_ok (h.1.1.2 m hm), h.1.2⟩, h.2⟩
theorem spots_good : ∀ q ∈ spotL, ∀ x ∈ spotN, cutD (q.map .str) none (some (1 + x)) = (q.take (1 + x).toNat).map .str ∧ placeB (q.take (1 + x).toNat) = true := by
  have key : ∀ q ∈ spotL, ∀ x ∈ spotN, placeB (q.take (1 + x).toNat) = true := by decide +kernel
  intro q hq x hx
  refine ⟨?_, key q hq x hx⟩
  simp only [spotL, spotN, List.mem_cons, List.not_mem_nil, or_false] at hq hx
  rcases hq with rfl | rfl | rfl <;> rcases hx with rfl | rfl | rfl | rfl | rfl | rfl <;> rfl
section
variable {P : Program} {w : World} {K : PySem.W.Frag} {mg : Str → Option Value} {base : Heap} {C : Addr}
abbrev N_sp : List Str := ["_law_deck_here", "_law_count", "_law_found", "_law_k", "_law_some"]
theorem sc_sp : FnScope N_sp ["_law_deck_here", "_law_count"] (defScope (top 73)) := ⟨rfl, rfl, rfl, by decide +kernel, rfl, by decide +kernel, by decide +kernel⟩
def spotsR (K : PySem.W.Frag) (n : Nat) : SV := SV.ex (fun ps : List (List Str) => ps.length = n ∧ ∀ p ∈ ps, placeOk p ∧ p.length ≤ 4) (fun ps => D K (eR ps))
def pm_sp (K : PySem.W.Frag) : Prm := fun rs Δ r Δ' => ∃ (dp pl : Addr) (n count : Nat), count ≤ 4 ∧ n < 2 ^ 39 ∧ rs = [VV (.ref dp), D K (.int (count : Int))] ∧ Δ = dkD K dp pl n ∧ r = spotsR K count ∧ Δ' = dkD K dp pl (n + 2 * count)
def eLs (q : List Str) : PyData := .list (q.map .str)
theorem ok_sp (T : Tx K mg) : Ok P w K mg base 3 "_law_spots" ["_law_deck_here", "_law_count"] (pm_sp K) :=
  ok_of T.d__law_spots sc_sp (fun _ _ _ _ _ _ us hl => match us, hl with | [_, _], _ => rfl) (fun rs Δ r Δ' ⟨_, _, _, _, _, _, e, _⟩ => by rw [e]; rfl) fun f cdv A outer s H E rs Δ r Δ' hr hp => by
    obtain ⟨dp, pl, n, count, hc, hn, rfl, rfl, rfl, rfl⟩ := hp
    refine jss_set (i := 2) (jas_e (jx_newl (ds := []) ja_nil) sc_sp.nd) ?_
    rintro r1 Δ1 ⟨p, rfl, rfl⟩
    refine jss_for (js := [3]) PassesOwn.never rfl (ji_rng1 (n := count) T.f_range (je_var 1) (by rw [sizeLine_eq]; omega)) (pg_name (i := 3) sc_sp.nd rfl (Or.inl rfl))
      (fun i Δ Γ => ∃ ps : List (List Str), ps.length = i ∧ (∀ q ∈ ps, placeOk q ∧ q.length ≤ 4) ∧ Δ = dkD K dp pl (n + 2 * i) ++ [(p, LC K (ps.map eS))] ∧ Γ = [some (VV (.ref dp)), some (D K (.int (count : Int))), some (VV (.ref p)), none, none]) ⟨[], rfl, fun q hq => (by cases hq), rfl, rfl⟩ (fun i r Δ Γ hr' hI => ?_) fun Δ Γ hI => ?_
    · obtain ⟨ps, hps, good, rfl, rfl⟩ := hI
      obtain ⟨k, hk, rfl⟩ := at_map hr'
      obtain ⟨hlt, e⟩ := List.getElem?_eq_some_iff.mp hk
      rw [List.length_range] at hlt
      rw [List.getElem_range] at e
      subst e
      refine ⟨_, tg_name 3, ?_⟩
      refine jss_setE (i := 4) (r := oneR K (spotL.map eLs)) (je_call (Δ0 := dkD K dp pl (n + 2 * i)) (Δr := [(p, LC K (ps.map eS))]) (Δ0' := dkD K dp pl (n + 2 * i + 1)) (ok_pk T) hr (ja_cons (je_var 0) (ja_cons
        (je_lst (ds := spotL.map eLs) (ja_cons (je_lst (ds := (["A", "B", "C", "D"] : List Str).map .str) (ja_cons je_str (ja_cons je_str (ja_cons je_str (ja_cons je_str ja_nil))))).lst (ja_cons (je_lst (ds := (["X", "XX", "XXX", "Y"] : List Str).map .str) (ja_cons je_str (ja_cons je_str (ja_cons je_str (ja_cons je_str ja_nil))))).lst (ja_cons (je_lst (ds := (["MARK", "MARKS", "Z", "ZZZZZZZZ"] : List Str).map .str) (ja_cons je_str (ja_cons je_str (ja_cons je_str (ja_cons je_str ja_nil))))).lst ja_nil)))) ja_nil))
        ⟨dp, pl, n + 2 * i, spotL.map eLs, by decide, by decide, by omega, rfl, .inl ⟨false, rfl, rfl, rfl⟩⟩) sc_sp.nd ?_
      refine jss_bind (i := 4) rfl fun d hd => ?_
      obtain ⟨q, hq, rfl⟩ := List.mem_map.mp hd
      refine jss_expr (jx_app (Δ1 := dkD K dp pl (n + 2 * i + 1 + 1) ++ [(p, LC K (ps.map eS))]) (C := fun d => ∃ z : List Str, (placeOk z ∧ z.length ≤ 4) ∧ d = eS z) (i := 0) (j := 2) (j0 := 2) (p := p) (ds0 := ps.map eS) (ds := ps.map eS) (je_var 2) rfl ?_ rfl (by rw [List.length_map, sizeLine_eq]; omega)) ?_
      · refine (je_tupleLx (ι := List Str) (C := fun z => placeOk z ∧ z.length ≤ 4) (g := fun z => z.map .str) T.f_tuple (je_slDx (ds := q.map .str) (je_var 4) jo_none (jo_ex (je_add1 (C := fun x => x ∈ spotN) je_int ?_)) ?_))
        · exact (je_call (Δ0 := dkD K dp pl (n + 2 * i + 1)) (Δr := [(p, LC K (ps.map eS))]) (Δ0' := dkD K dp pl (n + 2 * i + 1 + 1)) (ok_pk T) hr (ja_cons (je_var 0) (ja_cons (je_lst (ds := spotN.map .int) (ja_cons je_int (ja_cons je_int (ja_cons je_int (ja_cons je_int (ja_cons je_int (ja_cons je_int ja_nil))))))) ja_nil))
            ⟨dp, pl, n + 2 * i + 1, spotN.map .int, by decide, by decide, by omega, rfl, .inl ⟨false, rfl, rfl, rfl⟩⟩).to fun v G ⟨d, hd, pv⟩ => by
              obtain ⟨x, hx, rfl⟩ := List.mem_map.mp hd
              exact ⟨x, hx, pv⟩
        · rintro i0 j0 rfl ⟨j1, rfl, x, hx, rfl⟩ v G pv
          obtain ⟨h1, h2⟩ := spots_good q hq x hx
          rw [h1] at pv
          exact ⟨q.take (1 + x).toNat, placeB_ok h2, pv⟩
      · rintro r2 Δ2 ⟨d, ⟨z, hz, rfl⟩, rfl, rfl⟩
        refine jss_nil ⟨[_, _, _, none, none], .keep (.keep (.keep (.drop (.drop .nil)))), ps ++ [z], by simp [hps], fun q hq => ?_, ?_, rfl⟩
        · rcases List.mem_append.mp hq with m | m
          · exact good q m
          · obtain rfl : q = z := by simpa using m
            exact hz
        · rw [List.map_append]
          rfl
    · obtain ⟨ps, hps, good, rfl, rfl⟩ := hI
      rw [List.length_map, List.length_range] at hps ⊢
      refine jss_pub (p := p) 2 2 rfl rfl ?_
      exact jss_ret (je_tupleL (ds := ps.map eS) T.f_tuple (je_var 2)) ⟨rfl, fun v G pv => ⟨ps, ⟨hps, good⟩, pv⟩⟩
end
end Bl
set_option Elab.async false
set_option linter.all false
set_option maxRecDepth 100000
set_option maxHeartbeats 2000000
/-! cells: dropped; xs[i] = e; comprehensions and list(..) as cells; a, b = [..], e -/
namespace Bl
open PySem PySem.Spec PyProof.Rows L2
section
variable {X : Cx} {e a b c o tg iter elt : Expr} {es : List Expr} {Γ Γ' : Gm} {Δ Δ1 Δ2 Δ3 Δ' : Cs} {r ra rb rc : SV} {pos p' : Pos} {d : PyData} {ds : List PyData} {p : Addr} {O : En → Prop} {sts rest : List Stmt} {vs : List SV}
theorem JB.ce {bb : Bool} (h : JB X Δ Γ e (dB bb Δ1)) (l : CLe Δ1 Δ2) : JB X Δ Γ e (dB bb Δ2) := jb_of h.use fun σ G H Q hs sl q => ⟨G, hs, sl, fun c G1 Δ3 H1 ⟨e1, e2⟩ t => q c G1 Δ2 H1 ⟨e1, rfl⟩ (by subst e2; exact l.tr t)⟩
theorem jss_drop (j : Nat) (h : JSs X (Δ.eraseIdx j) Γ sts O) : JSs X Δ Γ sts O := by
  have sub : ∀ a ∈ dom (Δ.eraseIdx j), a ∈ dom Δ := fun a ha => (List.Sublist.map Prod.fst (List.eraseIdx_sublist Δ j)).subset ha
  have tr : ∀ {G H G' H' : Hp} {Δ' : Cs}, Tr (Δ.eraseIdx j) G H Δ' G' H' → Tr Δ G H Δ' G' H' := fun t => ⟨t.hs, t.up, fun a u ha => t.fr a u fun z => ha (sub a z), fun a ha => (t.nw a ha).imp (sub a) id⟩
  refine jss_of h.use fun σ G H Dn hs sl sv => ⟨G, ⟨hs.sub, fun q hq => hs.cell q ((List.eraseIdx_sublist Δ j).subset hq), List.Pairwise.sublist (List.Sublist.map Prod.fst (List.eraseIdx_sublist Δ j)) hs.nd⟩, sl, ?_⟩
  exact ⟨fun σ' G' H' Δ' Γ' o t => sv.nx σ' G' H' Δ' Γ' o (tr t), fun v G' H' Δ' r o t => sv.rt v G' H' Δ' r o (tr t), fun σ' G' H' Δ' Γ' o t => sv.ct σ' G' H' Δ' Γ' o (tr t), fun σ' G' H' Δ' Γ' o t => sv.bk σ' G' H' Δ' Γ' o (tr t)⟩
theorem dps_set {K : PySem.W.Frag} {H : Hp} : ∀ {xs : List V} {ds : List PyData} {k : Nat} {v : V} {d : PyData}, DpAll K H xs ds → Dp K H v d → DpAll K H (xs.set k v) (ds.set k d)
  | _, _, _, _, _, .nil, _ => .nil
  | _, _, 0, _, _, .cons _ t, hd => .cons hd t
  | _, _, k + 1, _, _, .cons h t, hd => .cons h (dps_set (k := k) t hd)
theorem ixN_nat {n k : Nat} (h : k < n) : ixN n (k : Int) = some k := by
  unfold ixN
  rw [if_pos (by omega), if_pos (by omega)]
  rfl
/-- xs[i] = e -/
theorem jss_lset {i : Expr} {k j : Nat} {C : PyData → Prop} (he : JE X Δ Γ e (SV.ex C (D X.K)) Δ1) (ho : JE X Δ1 Γ o (VV (.ref p)) Δ1) (hi : JE X Δ1 Γ i (D X.K (.int (k : Int))) Δ1) (hj : Δ1[j]? = some (p, LC X.K ds)) (hk : k < ds.length)
    (hr : ∀ d, C d → JSs X (Δ1.set j (p, LC X.K (ds.set k d))) Γ rest O) (hs : swapsWithSole [.Subscript o i p'] e pos.line X.env = pure false := by rfl) (hw : swappedStores [.Subscript o i p'] e X.env = pure none := by rfl) (h1 : (assignEach [.Subscript o i p'] X.env).map (·.2) = [assign (.Subscript o i p') X.env] := by rfl)
    (ha : ∀ v, assign (.Subscript o i p') X.env v = (do
      let ov ← holding [v] (eval o X.env)
      let iv ← holding [v, ov] (eval i X.env)
      standAt p'
      holding [v, ov, iv] (setItem ov iv v)
      release [v, ov, iv] []) := by intro _; rfl) :
    JSs X Δ Γ (.Assign [.Subscript o i p'] e pos :: rest) O :=
  jss_of (pss_cons (ps_asg he.use (pg_sub ho.use hi.use set_list ha) hs hw h1) pss_U) fun σ G H Dn hh sl sv => ⟨G, hh, sl, fun v G1 H1 t1 ⟨d, cd, pd⟩ => ⟨G1, t1.hs, sl.mono t1.up, fun u G2 H2 t2 p2 => ⟨G2, t2.hs, sl.mono (t1.trans t2).up, fun w G3 H3 t3 p3 => by
    have e2 : u = .ref p := p2
    subst e2
    have p3 : (D X.K (.int (k : Int))).P w G3 := p3
    cases p3.1
    obtain ⟨xs, h1, h2, h3⟩ := sl_cell (X := X) (σ := σ) (i := 0) t3.hs hj
    have hl := dps_len h2
    have pd3 := (D X.K d).mono (t2.trans t3).up pd
    have t4 := Tr.put (C' := LC X.K (ds.set k d)) t3.hs hj (o := .lst (xs.set k v)) ⟨_, rfl, dps_set h2 pd3.1, fun x hx => (List.mem_or_eq_of_mem_set hx).elim (h3 x) fun z => by rw [z]; exact pd3.2⟩
    exact ⟨p, xs, k, k, rfl, rfl, h1, ixN_nat (by omega), _, Γ, hr d cd, G3, t4.hs, sl.mono ((t1.trans t2).trans t3).up, sv.trans (((t1.trans t2).trans t3).trans t4)⟩⟩⟩⟩
/-- a, b = e, f: both may be new lists that will change -/
theorem jss_parX {i j : Nat} {x y : Str} {px py pt : Pos} {kt k2 : Nat} {pt2 : Pos} {Oa : SV → Cs → Prop} {Ob : SV → Cs → SV → Cs → Prop} (ha : JX X Δ Γ a Oa) (hb : ∀ r Δ1, Oa r Δ1 → JX X Δ1 Γ b (Ob r Δ1)) (hr : ∀ r1 Δ1 r2 Δ2, Oa r1 Δ1 → Ob r1 Δ1 r2 Δ2 → JSs X Δ2 ((Γ.set i (some r1)).set j (some r2)) rest O) (hc : X.calm = true) (hN : X.N.Nodup) (hi : X.N[i]? = some x) (hj : X.N[j]? = some y) (hij : i ≠ j)
    (hx : X.env.scope.names.lookup x = some .local := by rfl) (hy : X.env.scope.names.lookup y = some .local := by rfl) (h1 : starEach [a, b] X.env = (false, eval a X.env) :: starEach [b] X.env := by rfl) (h2 : starEach [b] X.env = (false, eval b X.env) :: starEach [] X.env := by rfl)
    (hw : swappedStores [.Tuple [.Name x px, .Name y py] kt pt] (.Tuple [a, b] k2 pt2) X.env = pure (some [x, y]) := by rfl) (hs : swapsWithSole [.Tuple [.Name x px, .Name y py] kt pt] (.Tuple [a, b] k2 pt2) pos.line X.env = pure false := by rfl) :
    JSs X Δ Γ (.Assign [.Tuple [.Name x px, .Name y py] kt pt] (.Tuple [a, b] k2 pt2) pos :: rest) O := by
  have hbU : PE X b (fun σ H Q => ∃ Δ Ob, JX X Δ Γ b Ob ∧ tX Δ Γ Ob σ H Q) := ⟨fun pins s σ H Q I ⟨Δ, Ob, h, q⟩ => h.use.run pins s σ H Q I q⟩
  refine jss_of (pss_cons (ps_par hc hN hi hj hij hx hy (pa_cons ha.use (pa_cons hbU pa_nil h2) h1) hw hs) (pss_U (O := O))) fun σ G H D hh sl sv => ⟨G, hh, sl, fun v G1 H1 Δ1 r1 o1 t1 p1 => ⟨Δ1, Ob r1 Δ1, hb r1 Δ1 o1, G1, t1.hs, sl.mono t1.up, fun w G2 H2 Δ2 r2 o2 t2 p2 => ?_⟩⟩
  refine ⟨v, w, rfl, ?_⟩
  have t := t1.trans t2
  exact ⟨Δ2, _, hr r1 Δ1 r2 Δ2 o1 o2, G2, t.hs, ((sl.mono t.up).set (r1.mono t2.up p1)).set p2, sv.trans t⟩
/-- list(t), t a tuple, a new list that will change -/
theorem jx_listTx {ι : Type} {C : ι → Prop} {g : ι → List PyData} (hm : X.mg "list" = none) (ha : JE X Δ Γ e (SV.ex C fun i => D X.K (.tuple (g i))) Δ1) (hg : Gl X "list" := by rfl) (he : starEach (e :: []) X.env = (false, eval e X.env) :: starEach [] X.env := by rfl) (hpl : (backTo pos (starEach [] X.env)).any (·.1) = false := by rfl) :
    JX X Δ Γ (.Call (.Name "list" p') [e] [] pos) (fun r Δ2 => ∃ p i, C i ∧ r = VV (.ref p) ∧ Δ2 = Δ1 ++ [(p, LC X.K (g i))]) :=
  jx_of (pe_callTy call_list_of hg hm boot_listT (ja_cons ha ja_nil he).use (by decide) (by decide) he hpl) fun σ G H Q hs sl q => ⟨G, hs, sl, fun vs G1 H1 t ps => by
    obtain ⟨u, rfl, i, ci, pu⟩ := paired1 ps
    obtain ⟨a, ys, rfl, h, h2, h3⟩ := d_tup pu
    exact ⟨a, ys, rfl, .inr (sqt_same t.hs.sub h), fun l hl => q _ G1 _ _ _ ⟨l, i, ci, rfl, rfl⟩ (t.trans (Tr.cell t.hs hl ⟨ys, rfl, h2, h3⟩)) rfl⟩⟩
theorem Tr.hide {G H G' H' : Hp} {p : Addr} (t : Tr Δ G H Δ' G' H') (h : H p = none) (g : G' p = none) (n : p ∉ dom Δ') (ho : ∃ xs, H' p = some (.lst xs) ∧ DpAll X.K G' xs ds ∧ AllOk ds) : Tr Δ G H (Δ' ++ [(p, LC X.K ds)]) G' H' := by
  obtain ⟨xs, h1, h2, h3⟩ := ho
  refine ⟨⟨t.hs.sub, fun q hq => ?_, ?_⟩, t.up, t.fr, fun a ha => ?_⟩
  · rcases List.mem_append.mp hq with m | m
    · exact t.hs.cell q m
    · obtain rfl : q = (p, LC X.K ds) := by simpa using m
      exact ⟨g, .lst xs, h1, xs, rfl, h2, h3⟩
  · unfold dom at n ⊢
    rw [List.map_append, List.nodup_append]
    refine ⟨t.hs.nd, by simp, fun a ha b hb e => ?_⟩
    obtain rfl : b = p := by simpa using hb
    subst e
    exact n ha
  · unfold dom at ha
    rw [List.map_append] at ha
    rcases List.mem_append.mp ha with m | m
    · exact t.nw a m
    · obtain rfl : a = p := by simpa using m
      exact .inr h
theorem lc_readC {scope : Scope} {elt : Expr} {ifs : List Expr} {g : TG} {vs : List Nat} {items : List SV} {Δi : Nat → Cs} {J : Nat → List PyData → Prop} (S : LcStep X scope elt ifs g vs Γ items Δi J) (h0 : J 0 []) (hΔ : Δ1 = Δi 0)
    {σ : L2.St} {G H : Hp} {Q : VK} (hs : Hs Δ G H) (sl : Sl σ G Γ) (q : ∀ p acc G' H', acc.length ≤ items.length → J items.length acc → Tr Δ G H (Δi items.length ++ [(p, LC X.K acc)]) G' H' → Q (.ref p) H') :
    tLc (tI Δ Γ items Δ1) g (tBU (AllB X scope ifs)) (tJU (AllJ X scope elt)) vs σ H Q := by
  subst hΔ
  refine ⟨G, hs, sl, fun It G1 H1 t w z => fun D0 hD => ?_⟩
  refine ⟨fun i m H => m = items.length - i ∧ i ≤ items.length ∧ ∃ G2 xs acc, H D0 = some (.lst xs) ∧ G2 D0 = none ∧ D0 ∉ dom (Δi i) ∧ DpAll X.K G2 xs acc ∧ AllOk acc ∧ acc.length ≤ i ∧ J i acc ∧ Tr (Δi 0) G1 H1 (Δi i) G2 H ∧ Sl σ G2 Γ,
    ⟨items.length, rfl, Nat.zero_le _, G1, [], [], upd_same, none_of_sub t.hs.sub hD, t.hs.out hD, .nil, allok_nil, Nat.le_refl _, h0, (Up.hid t.hs.sub hD).up0 t.hs, sl.mono t.up⟩, ?_⟩
  rintro i m H2 ⟨rfl, hle, G2, xs, acc, hx, hG, hn, hd, ok, hal, hj, t2, sl2⟩
  by_cases hlt : i < items.length
  · refine .inr ⟨w.go i G2 H2 t2.up t2.hs.sub hlt, fun H' => i + 1 ≤ items.length ∧ ∃ G2 xs acc, H' D0 = some (.lst xs) ∧ G2 D0 = none ∧ D0 ∉ dom (Δi (i + 1)) ∧ DpAll X.K G2 xs acc ∧ AllOk acc ∧ acc.length ≤ i + 1 ∧ J (i + 1) acc ∧ Tr (Δi 0) G1 H1 (Δi (i + 1)) G2 H' ∧ Sl σ G2 Γ, fun H' q => ⟨items.length - (i + 1), by omega, rfl, q⟩, fun x H3 y => ?_⟩
    have hr : items[i]? = some items[i] := List.getElem?_eq_getElem hlt
    obtain ⟨G3, u3, p3⟩ := w.yld i G2 H2 x H3 _ t2.up t2.hs.sub hr y
    have t3 : Tr (Δi 0) G1 H1 (Δi i) G3 H3 := t2.trans (u3.up0 t2.hs)
    have hx3 := u3.fr D0 _ (by simp [dom]) hx
    obtain ⟨Γ', js, Oc, tk, hjs, hB, hF, hT⟩ := S.step i _ acc hr hj
    refine tk x (L2.wipe σ vs) G3 H3 _ t3.hs.sub p3 ((sl2.mono u3.up).wipe vs) fun σ4 sl4 hw => ⟨?_, ?_⟩
    · rw [hw vs hjs]
      exact wipe_wipe vs vs fun _ h => h
    · refine ⟨Δi i, Γ', Oc, hB, G3, t3.hs, sl4, fun c G5 Δ5 H5 o t5 => ?_⟩
      have hx5 := t5.fr D0 _ hn hx3.1
      have hn5 := t5.out hn hx3.1
      cases c with
      | false =>
        obtain ⟨hj5, e5⟩ := hF Δ5 o
        subst e5
        exact ⟨hlt, G5, xs, acc, hx5.1, hx5.2 (hx3.2 hG), hn5, dps_same (u3.up.trans t5.up) hd, ok, by omega, hj5, t3.trans t5, sl2.mono (u3.up.trans t5.up)⟩
      | true =>
        refine ⟨Δ5, Γ', _, Δi (i + 1), hT Δ5 o, G5, t5.hs, sl4.mono t5.up, fun v G6 H6 t6 p6 => ?_⟩
        obtain ⟨d, hjd, pd⟩ := p6
        have hx6 := t6.fr D0 _ hn5 hx5.1
        have hn6 := t6.out hn5 hx5.1
        have hg6 := hx6.2 (hx5.2 (hx3.2 hG))
        have lx := dps_len hd
        have s6 := u3.up.trans (t5.up.trans t6.up)
        refine ⟨xs, hx6.1, by omega, hlt, G6, xs ++ [v], acc ++ [d], upd_same, hg6, hn6, dps_snoc (dps_same s6 hd) pd.1, allok_app ok (allok_cons pd.2 allok_nil), by simp; omega, hjd, (t3.trans (t5.trans t6)).poke hD hg6 hn6, sl2.mono s6⟩
  · have e : i = items.length := by omega
    subst e
    exact .inl ⟨w.stop _ G2 H2 t2.up t2.hs.sub rfl, q D0 acc G2 H2 hal hj (t.trans (t2.hide hD hG hn ⟨xs, hx, hd, ok⟩))⟩
variable {scope : Scope} {own : List (Str × Nat)} {ifs : List Expr} {g : TG} {Δi : Nat → Cs} {J : Nat → List PyData → Prop}
/-- x = [elt for tg in iter if ..] on one line: a new list that will change -/
theorem jas_lcC {i : Nat} {y : Str} {py spos : Pos} (hc : X.calm = true) (hN : X.N.Nodup) (hi : JI X tg Δ Γ iter vs Δ1) (ok : BlkOk X.N X.env.scope scope own) (hg : ∀ (s : Shared) (H : Hp) (C : Addr) (cl : List (Str × Addr)) (fp : List Addr), PG (X.blk s H scope (compEnvC scope cl C X.env) fp) tg g)
    (S : LcStep X scope elt ifs g (own.map (·.2)) Γ vs Δi J) (h0 : J 0 []) (hΔ : Δ1 = Δi 0) (hsw : swapsWith (.ListComp elt [⟨tg, iter, ifs, 0⟩] scope pos) (some (.Name y py)) spos.line X.env = pure true) (hy : X.N[i]? = some y := by rfl) (hyl : X.env.scope.names.lookup y = some .local := by rfl) (hs : ∀ x, foldedSetIterable iter X.env x = pure x := by intro _; rfl) :
    JAs X i (.Assign [.Name y py] (.ListComp elt [⟨tg, iter, ifs, 0⟩] scope pos) spos) Δ Γ (fun r Δ2 => ∃ p acc, acc.length ≤ vs.length ∧ J vs.length acc ∧ r = VV (.ref p) ∧ Δ2 = Δi vs.length ++ [(p, LC X.K acc)]) :=
  ⟨_, ps_setLc hc hN hy hyl hsw hi.use ok hg all_pt all_pe hs, fun σ G H Q hh sl q => lc_readC S h0 hΔ hh sl fun p acc G' H' h1 h2 t => q (.ref p) G' H' _ _ ⟨p, acc, h1, h2, rfl, rfl⟩ t rfl⟩
end
end Bl
set_option Elab.async false
set_option linter.all false
set_option maxRecDepth 100000
set_option maxHeartbeats 2000000
/-! _law_copies -/
namespace Bl
open PySem PySem.Spec PyProof.Rows L2
theorem fits_snoc {ps : List (List Str)} {row q : List Str} {x : Str} (h : rowFits ps row) (hx : x ∈ q) : rowFits (ps ++ [q]) (row ++ [x]) := by
  refine ⟨by rw [List.length_append, List.length_append, h.1]; rfl, fun z hz => ?_⟩
  rw [List.zip_append h.1] at hz
  rcases List.mem_append.mp hz with m | m
  · exact h.2 z m
  · obtain rfl : z = (x, q) := by simpa using m
    exact hx
theorem fits_set {ps : List (List Str)} {row q : List Str} {x : Str} {k : Nat} (h : rowFits ps row) (hk : ps[k]? = some q) (hx : x ∈ q) : rowFits ps (row.set k x) := by
  refine ⟨by rw [List.length_set]; exact h.1, fun z hz => ?_⟩
  obtain ⟨i, hi⟩ := List.getElem?_of_mem hz
  rw [List.getElem?_zip_eq_some] at hi
  obtain ⟨h1, h2⟩ := hi
  by_cases e : k = i
  · subst e
    rw [hk] at h2
    have h3 : k < row.length := by rw [h.1]; exact (List.getElem?_eq_some_iff.mp hk).1
    rw [List.getElem?_set_self h3] at h1
    rw [← Option.some.inj h1, ← Option.some.inj h2]
    exact hx
  · rw [List.getElem?_set_ne e] at h1
    exact h.2 z (List.mem_of_getElem? (i := i) (by rw [List.getElem?_zip_eq_some]; exact ⟨h1, h2⟩))
section
variable {X : Cx} {e a b c o tg iter elt : Expr} {es : List Expr} {Γ Γ' : Gm} {Δ Δ1 Δ2 Δ3 Δ' : Cs} {pos p' p2 : Pos}
/-- the row of a drawn copy -/
theorem je_rowOf {cs : Copies} {k : Nat} (ha : JE X Δ Γ a (oneR X.K (cs.map eC)) Δ1) : JE X Δ Γ (.Subscript a (.Constant (.int 1) k p') pos) (SV.ex (fun row : List Str => ∃ c ∈ cs, c.2 = row) fun row => D X.K (.tuple (row.map .str))) Δ1 :=
  je_ix (rb := D X.K (.int 1)) ix_tup ha je_int (fun u v G H Q sg ⟨d, hd, p1⟩ p2 q => by
    obtain ⟨c, hc, rfl⟩ := List.mem_map.mp hd
    exact rv_ixT (ds := [.str c.1, eS c.2]) (d := eS c.2) (i := 1) rfl u v G H Q sg p1 p2 fun v' G' H' t p => q v' G' H' t ⟨c.2, ⟨c, hc, rfl⟩, p⟩) (by intro _ _; rfl)
/-- a drawn number == j, either answer -/
theorem jb_eqIx {C : Nat → Prop} {j : Int} (ha : JE X Δ Γ a (SV.ex C fun i : Nat => D X.K (.int (i : Int))) Δ1) (hb : JE X Δ1 Γ b (D X.K (.int j)) Δ2) (hm : behindInMarks .Eq b = false := by first | exact nomark _ | rfl) : JB X Δ Γ (.Compare a [.Eq] [b] pos) (fun _ Δ' => Δ' = Δ2) :=
  jb_of (pt_cmpR op_eq ha.use hb.use hm) fun σ G H Q hs sl q => ⟨G, hs, sl, fun v G1 H1 t1 ⟨i, ci, p1⟩ => ⟨G1, t1.hs, sl.mono t1.up, fun y G2 H2 t2 p2 => by
    have p1 : (D X.K (.int (i : Int))).P v G1 := p1
    cases p1.1
    cases p2.1
    exact ⟨rfl, _, rfl, q _ G2 Δ2 H2 rfl (t1.trans t2)⟩⟩⟩
end
section
variable {P : Program} {w : World} {K : PySem.W.Frag} {mg : Str → Option Value} {base : Heap} {C : Addr}
abbrev N_cp : List Str := ["_law_deck_here", "_law_people_here", "_law_spots_here", "_law_found", "_law_way", "_law_k", "_law_one", "_law_row", "_law_at", "_law_spot"]
theorem sc_cp : FnScope N_cp ["_law_deck_here", "_law_people_here", "_law_spots_here"] (defScope (top 74)) := ⟨rfl, rfl, rfl, by decide +kernel, rfl, by decide +kernel, by decide +kernel⟩
def copiesR (K : PySem.W.Frag) (hs : List Str) (ps : List (List Str)) : SV := SV.ex (fun cs : Copies => holders cs = hs ∧ ∀ c ∈ cs, rowFits ps c.2) (fun cs => D K (eCs cs))
def pm_cp (K : PySem.W.Frag) : Prm := fun rs Δ r Δ' => ∃ (dp pl : Addr) (n : Nat) (hs : List Str) (ps : List (List Str)), hs.length ≤ 5 ∧ ps.length ≤ 4 ∧ (∀ p ∈ ps, p ≠ [] ∧ p.length ≤ 4) ∧ n < 2 ^ 39 ∧ rs = [VV (.ref dp), L K (hs.map .str), D K (eR ps)] ∧ Δ = dkD K dp pl n ∧ r = copiesR K hs ps ∧ Δ' = dkD K dp pl (n + 60)
def cpBody : List Stmt := match (defBody (top 74)).getD 1 (.Pass ⟨0, 0, 0, 0⟩) with
  | .For _ _ b _ _ => b
  | _ => []
theorem cp_body (T : Tx K mg) {f : Addr} {cdv : Value} {A : Around} {outer : List Env} {s : Shared} {H : Hp} {E : XK} (hr : Room 2 (A.deeper (envOfC "_law_copies" (defScope (top 74)) s.heap.objs.size f cdv))) {dp pl p : Addr} {m i way : Nat} {hs : List Str} {ps : List (List Str)} {cs : Copies} {one : Str} {O : En → Prop}
    (h4 : ps.length ≤ 4) (hpp : ∀ p ∈ ps, p ≠ [] ∧ p.length ≤ 4) (hm : m < 2 ^ 39 + 100) (hc5 : cs.length ≤ 4) (good : ∀ c ∈ cs, rowFits ps c.2)
    (hO : ∀ row, rowFits ps row → O (.nx (dkD K dp pl (m + 10) ++ [(p, LC K ((cs ++ [(one, row)]).map eC))]) [some (VV (.ref dp)), some (L K (hs.map .str)), some (D K (eR ps)), some (VV (.ref p)), some (D K (.int (way : Int))), some (D K (.int (i : Int))), some (D K (.str one)), some (L K (row.map .str)), none, none])) :
    JSs (cxN P w K mg base N_cp "_law_copies" 74 f cdv A outer s H E) (dkD K dp pl m ++ [(p, LC K (cs.map eC))]) [some (VV (.ref dp)), some (L K (hs.map .str)), some (D K (eR ps)), some (VV (.ref p)), some (D K (.int (way : Int))), some (D K (.int (i : Int))), some (D K (.str one)), none, none, none] cpBody O := by
  have hcsd : (PyData.list (cs.map eC)).depth ≤ 64 := dep_map enc_eC.dep (by decide) _
  -- the end: append
  have fin : ∀ (pr : Addr) (row : List Str), rowFits ps row → JSs (cxN P w K mg base N_cp "_law_copies" 74 f cdv A outer s H E) (dkD K dp pl (m + 9) ++ [(p, LC K (cs.map eC)), (pr, LC K (row.map .str))]) [some (VV (.ref dp)), some (L K (hs.map .str)), some (D K (eR ps)), some (VV (.ref p)), some (D K (.int (way : Int))), some (D K (.int (i : Int))), some (D K (.str one)), some (VV (.ref pr)), none, none] (cpBody.drop 4) O := fun pr row hrow => by
    refine jss_pub (p := pr) 7 3 rfl rfl ?_
    refine JSs.ce ?_ (dkD_le (Δr := [(p, LC K (cs.map eC))]) (show m + 9 ≤ m + 10 by omega))
    refine jss_app (Δ1 := dkD K dp pl (m + 10) ++ [(p, LC K (cs.map eC))]) (i := 0) (j := 2) (j0 := 2) (p := p) (d := eC (one, row)) (ds0 := cs.map eC) (ds := cs.map eC) (je_var 3) rfl (je_tup (ds := [.str one, eS row]) (ja_cons (je_var 6) (ja_cons (je_tupleL T.f_tuple (je_var 7)) ja_nil))) rfl (by rw [List.length_map, sizeLine_eq]; omega) (jss_nil ?_)
    have e := hO row hrow
    rw [List.map_append] at e
    exact e
  -- way 3
  have st3 : ∀ (pr : Addr) (row : List Str), rowFits ps row → JSs (cxN P w K mg base N_cp "_law_copies" 74 f cdv A outer s H E) (dkD K dp pl (m + 9) ++ [(p, LC K (cs.map eC)), (pr, LC K (row.map .str))]) [some (VV (.ref dp)), some (L K (hs.map .str)), some (D K (eR ps)), some (VV (.ref p)), some (D K (.int (way : Int))), some (D K (.int (i : Int))), some (D K (.str one)), some (VV (.ref pr)), none, none] (cpBody.drop 3) O := fun pr row hrow => by
    refine jss_ifB (Δ1 := dkD K dp pl (m + 9) ++ [(p, LC K (cs.map eC)), (pr, LC K (row.map .str))]) (bb := decide ((way : Int) = 3) && !(ps.map eS).isEmpty) ((jw_and (jb_eqI (je_var 4) je_int) fun _ => jw_and1 (jb_nilNeT (ds := ps.map eS) (hu64 hr) (je_var 2) je_tup0 (dep_mapT enc_eS.dep (by decide) _))).jb) (fun hb => ?_) fun _ => jss_nil (fin pr row hrow)
    rw [Bool.and_eq_true] at hb
    obtain ⟨q, qs, rfl⟩ : ∃ q qs, ps = q :: qs := by
      cases ps with
      | nil => cases hb.2
      | cons q qs => exact ⟨q, qs, rfl⟩
    have hq := hpp q (List.mem_cons_self ..)
    have hq0 : 0 < q.length := List.length_pos_iff.mpr hq.1
    have hlt : i % q.length < q.length := Nat.mod_lt _ hq0
    have h0 : 0 < (row.map PyData.str).length := by rw [List.length_map, hrow.1]; exact Nat.succ_pos _
    refine jss_lset (k := 0) (j := 3) (p := pr) (C := fun d => d = .str q[i % q.length]) (je_one_ex (je_ixT (ds := q.map .str) (i := ((i % q.length : Nat) : Int)) (je_ixT (ds := (q :: qs).map eS) (d := eS q) (i := 0) (je_var 2) je_int (atI_map (m := q :: qs) (i := 0) rfl)) ((je_mod (show (0 : Int) < ((q.map PyData.str).length : Int) by rw [List.length_map]; omega) (je_var 5) (je_lenT (ds := q.map .str) T.f_len (je_ixT (ds := (q :: qs).map eS) (d := eS q) (i := 0) (je_var 2) je_int (atI_map (m := q :: qs) (i := 0) rfl)))).eq (by rw [List.length_map, mod_nat])) (atI_map (List.getElem?_eq_getElem hlt)))) (je_var 7) je_int rfl h0 fun d hd => ?_
    subst hd
    have e : (row.map PyData.str).set 0 (.str q[i % q.length]) = (row.set 0 q[i % q.length]).map .str := by rw [List.map_set]
    show JSs _ (dkD K dp pl (m + 9) ++ [(p, LC K (cs.map eC)), (pr, LC K ((row.map PyData.str).set 0 (.str q[i % q.length])))]) _ _ _
    rw [e]
    exact jss_nil (fin pr _ (fits_set hrow rfl (List.getElem_mem hlt)))
  -- way 2
  have st2 : ∀ (pr : Addr) (row : List Str), rowFits ps row → JSs (cxN P w K mg base N_cp "_law_copies" 74 f cdv A outer s H E) (dkD K dp pl (m + 7) ++ [(p, LC K (cs.map eC)), (pr, LC K (row.map .str))]) [some (VV (.ref dp)), some (L K (hs.map .str)), some (D K (eR ps)), some (VV (.ref p)), some (D K (.int (way : Int))), some (D K (.int (i : Int))), some (D K (.str one)), some (VV (.ref pr)), none, none] (cpBody.drop 2) O := fun pr row hrow => by
    refine jss_if (Oc := fun c Δ' => (c = false ∧ Δ' = dkD K dp pl (m + 7) ++ [(p, LC K (cs.map eC)), (pr, LC K (row.map .str))]) ∨ (Δ' = dkD K dp pl (m + 8) ++ [(p, LC K (cs.map eC)), (pr, LC K (row.map .str))] ∧ (c = true → cs ≠ []))) (JW.jb (jw_andO (O1 := dB (decide ((way : Int) = 2)) _) (jb_eqI (je_var 4) je_int) (fun Δ1 ⟨_, e⟩ => ?_) fun Δ1 ⟨_, e⟩ => .inl ⟨rfl, e⟩)) (fun Δ1 h => ?_) fun Δ1 h => ?_
    · subst e
      refine jw_andO (O1 := dB (!(cs.map eC).isEmpty) _) (jb_neNilC (j := 2) (p := p) (hu64 hr) (je_var 3) rfl hcsd) (fun Δ1 ⟨hne, e⟩ => ?_) fun Δ1 ⟨_, e⟩ => .inl ⟨rfl, e⟩
      subst e
      have hne : cs ≠ [] := fun z => by subst z; cases hne
      exact jw_and1 ((jb_eqIx (je_call (Δ0 := dkD K dp pl (m + 7)) (Δr := [(p, LC K (cs.map eC)), (pr, LC K (row.map .str))]) (Δ0' := dkD K dp pl (m + 8)) (ok_dw T) (hr.mono (by decide)) (ja_cons (je_var 0) (ja_cons (je_int (i := 3)) ja_nil)) ⟨dp, pl, m + 7, 3, by omega, by omega, by omega, rfl, rfl, rfl, rfl⟩) je_int).to fun c Δ' e => .inr ⟨e, fun _ => hne⟩)
    · rcases h with ⟨h, _⟩ | ⟨rfl, h⟩
      · cases h
      have hne := h rfl
      refine jss_set (i := 7) (jas_e (jx_listTx T.f_list (je_rowOf (je_call (Δ0 := dkD K dp pl (m + 8) ++ [(p, LC K (cs.map eC))]) (Δr := [(pr, LC K (row.map .str))]) (Δ0' := dkD K dp pl (m + 9) ++ [(p, LC K (cs.map eC))]) (ok_pk T) hr (ja_cons (je_var 0) (ja_cons (je_var 3) ja_nil))
        ⟨dp, pl, m + 8, cs.map eC, by rw [List.length_map]; exact List.length_pos_iff.mpr hne, by rw [List.length_map]; omega, by omega, rfl, .inr ⟨p, rfl, rfl, rfl⟩⟩))) sc_cp.nd) ?_
      rintro r3 Δ3 ⟨pn, row2, ⟨c, hc, rfl⟩, rfl, rfl⟩
      exact jss_nil (jss_drop 3 (st3 pn c.2 (good c hc)))
    · refine JSs.ce (Δ1 := dkD K dp pl (m + 9) ++ [(p, LC K (cs.map eC)), (pr, LC K (row.map .str))]) (jss_nil (st3 pr row hrow)) ?_
      rcases h with ⟨_, rfl⟩ | ⟨rfl, _⟩
      · exact dkD_le (by omega)
      · exact dkD_le (by omega)
  -- way 1
  have st1 : ∀ (pr : Addr) (row : List Str), rowFits ps row → JSs (cxN P w K mg base N_cp "_law_copies" 74 f cdv A outer s H E) (dkD K dp pl (m + 4) ++ [(p, LC K (cs.map eC)), (pr, LC K (row.map .str))]) [some (VV (.ref dp)), some (L K (hs.map .str)), some (D K (eR ps)), some (VV (.ref p)), some (D K (.int (way : Int))), some (D K (.int (i : Int))), some (D K (.str one)), some (VV (.ref pr)), none, none] (cpBody.drop 1) O := fun pr row hrow => by
    refine jss_ifB (Δ1 := dkD K dp pl (m + 4) ++ [(p, LC K (cs.map eC)), (pr, LC K (row.map .str))]) (bb := decide ((way : Int) = 1) && (!(cs.map eC).isEmpty && !(ps.map eS).isEmpty)) ((jw_and (jb_eqI (je_var 4) je_int) fun _ => jw_and (jb_neNilC (j := 2) (p := p) (hu64 hr) (je_var 3) rfl hcsd) fun _ => jw_and1 (jb_nilNeT (ds := ps.map eS) (hu64 hr) (je_var 2) je_tup0 (dep_mapT enc_eS.dep (by decide) _))).jb) (fun hb => ?_) fun _ => jss_nil ?_
    · rw [Bool.and_eq_true, Bool.and_eq_true] at hb
      have hne : cs ≠ [] := fun z => by subst z; cases hb.2.1
      have hp0 : 0 < ps.length := by
        cases ps with
        | nil => cases hb.2.2
        | cons q qs => exact Nat.succ_pos _
      refine jss_set (i := 7) (jas_e (jx_listTx T.f_list (je_rowOf (je_call (Δ0 := dkD K dp pl (m + 4) ++ [(p, LC K (cs.map eC))]) (Δr := [(pr, LC K (row.map .str))]) (Δ0' := dkD K dp pl (m + 5) ++ [(p, LC K (cs.map eC))]) (ok_pk T) hr (ja_cons (je_var 0) (ja_cons (je_var 3) ja_nil))
        ⟨dp, pl, m + 4, cs.map eC, by rw [List.length_map]; exact List.length_pos_iff.mpr hne, by rw [List.length_map]; omega, by omega, rfl, .inr ⟨p, rfl, rfl, rfl⟩⟩))) sc_cp.nd) ?_
      rintro r3 Δ3 ⟨pn, row2, ⟨c, hc, rfl⟩, rfl, rfl⟩
      have hrow2 := good c hc
      refine jss_drop 3 ?_
      refine jss_setE (i := 8) (je_call (Δ0 := dkD K dp pl (m + 5)) (Δr := [(p, LC K (cs.map eC)), (pn, LC K (c.2.map .str))]) (Δ0' := dkD K dp pl (m + 6)) (ok_dw T) (hr.mono (by decide)) (ja_cons (je_var 0) (ja_cons (je_lenT (ds := ps.map eS) T.f_len (je_var 2)) ja_nil)) ⟨dp, pl, m + 5, ps.length, hp0, by omega, by omega, by rw [List.length_map], rfl, rfl, rfl⟩) sc_cp.nd ?_
      refine jss_bind (i := 8) rfl fun k hk => ?_
      have hk : k < ps.length := hk
      have hq := hpp ps[k] (List.getElem_mem hk)
      have hkr : k < (c.2.map PyData.str).length := by rw [List.length_map, hrow2.1]; exact hk
      refine jss_lset (Δ1 := dkD K dp pl (m + 7) ++ [(p, LC K (cs.map eC)), (pn, LC K (c.2.map .str))]) (k := k) (j := 3) (p := pn) (C := fun d => d ∈ (ps[k]).map PyData.str) (je_call (Δ0 := dkD K dp pl (m + 6)) (Δr := [(p, LC K (cs.map eC)), (pn, LC K (c.2.map .str))]) (Δ0' := dkD K dp pl (m + 7)) (ok_pk T) hr (ja_cons (je_var 0) (ja_cons (je_ixT (ds := ps.map eS) (d := eS ps[k]) (i := (k : Int)) (je_var 2) (je_var 8) (atI_map (List.getElem?_eq_getElem hk))) ja_nil))
        ⟨dp, pl, m + 6, (ps[k]).map .str, by rw [List.length_map]; exact List.length_pos_iff.mpr hq.1, by rw [List.length_map]; omega, by omega, rfl, .inl ⟨true, rfl, rfl, rfl⟩⟩) (je_var 7) (je_var 8) rfl hkr fun d hd => ?_
      obtain ⟨x, hx, rfl⟩ := List.mem_map.mp hd
      have e : (c.2.map PyData.str).set k (.str x) = (c.2.set k x).map .str := by rw [List.map_set]
      show JSs _ (dkD K dp pl (m + 7) ++ [(p, LC K (cs.map eC)), (pn, LC K ((c.2.map PyData.str).set k (.str x)))]) _ _ _
      rw [e]
      exact jss_nil ((st2 pn _ (fits_set hrow2 (List.getElem?_eq_getElem hk) hx)).le (.keep (.keep (.keep (.keep (.keep (.keep (.keep (.keep (.drop (.keep .nil)))))))))))
    · exact JSs.ce (st2 pr row hrow) (dkD_le (by omega))
  have hΔ0 : dkD K dp pl m ++ [(p, LC K (cs.map eC))] = dkD K dp pl (m + 0) ++ [(p, LC K (cs.map eC))] := rfl
  refine jss_set (i := 7) (jas_lcC (Δi := fun j => dkD K dp pl (m + j) ++ [(p, LC K (cs.map eC))]) (J := fun j acc => ∃ row : List Str, acc = row.map .str ∧ rowFits (ps.take j) row) (own := [("_law_spot", 9)]) rfl sc_cp.nd (ji_Te (l := ps) (enc := eS) (je_var 2)) (blkOk_by (N := N_cp) (sc := defScope (top 74)) (by decide +kernel)) (fun _ _ _ _ _ => pg_name (i := 9) sc_cp.nd rfl (Or.inl rfl)) ⟨fun j r acc hj hJ => ?_⟩ ⟨[], rfl, rfl, fun z hz => by cases hz⟩ hΔ0 (sw_true rfl rfl rfl (by decide +kernel)) rfl rfl) ?_
  · obtain ⟨q, hq, rfl⟩ := at_map hj
    obtain ⟨row, rfl, hrow⟩ := hJ
    have hqm := hpp q (List.mem_of_getElem? hq)
    have hjl : j < ps.length := (List.getElem?_eq_some_iff.mp hq).1
    refine ⟨_, [9], dB true (dkD K dp pl (m + j) ++ [(p, LC K (cs.map eC))]), tg_name 9, fun _ h => h, fun _ _ _ _ _ => jbs_nil, fun Δ2 ⟨h, _⟩ => (by cases h), fun Δ2 ⟨_, e⟩ => ?_⟩
    subst e
    intro s' H' C' cl fp
    exact (je_call (Δ0 := dkD K dp pl (m + j)) (Δr := [(p, LC K (cs.map eC))]) (Δ0' := dkD K dp pl (m + j + 1)) (ok_pk T) hr (ja_cons (je_var 0) (ja_cons (je_var 9) ja_nil)) ⟨dp, pl, m + j, q.map .str, by rw [List.length_map]; exact List.length_pos_iff.mpr hqm.1, by rw [List.length_map]; omega, by omega, rfl, .inl ⟨true, rfl, rfl, rfl⟩⟩).to fun v G ⟨d, hd, pv⟩ => by
      obtain ⟨x, hx, rfl⟩ := List.mem_map.mp hd
      refine ⟨.str x, ⟨row ++ [x], by rw [List.map_append]; rfl, ?_⟩, pv⟩
      rw [take_succ hq]
      exact fits_snoc hrow hx
  · rintro r2 Δ2 ⟨pr, acc, hl, ⟨row, rfl, hrow⟩, rfl, rfl⟩
    rw [List.length_map, List.take_length] at hrow
    have e : dkD K dp pl (m + (ps.map fun q => D K (eS q)).length) ++ [(p, LC K (cs.map eC))] ++ [(pr, LC K (row.map .str))] = dkD K dp pl (m + ps.length) ++ [(p, LC K (cs.map eC)), (pr, LC K (row.map .str))] := by rw [List.length_map]; rfl
    show JSs _ (dkD K dp pl (m + (ps.map fun q => D K (eS q)).length) ++ [(p, LC K (cs.map eC))] ++ [(pr, LC K (row.map .str))]) _ _ _
    rw [e]
    exact JSs.ce (st1 pr row hrow) (dkD_le (by omega))
theorem ok_cp (T : Tx K mg) : Ok P w K mg base 3 "_law_copies" ["_law_deck_here", "_law_people_here", "_law_spots_here"] (pm_cp K) :=
  ok_of T.d__law_copies sc_cp (fun _ _ _ _ _ _ us hl => match us, hl with | [_, _, _], _ => rfl) (fun rs Δ r Δ' ⟨_, _, _, _, _, _, _, _, _, e, _⟩ => by rw [e]; rfl) fun f cdv A outer s H E rs Δ r Δ' hr hp => by
    obtain ⟨dp, pl, n, hs, ps, h5, h4, hpp, hn, rfl, rfl, rfl, rfl⟩ := hp
    refine jss_parX (i := 3) (j := 4) (Oa := fun r Δ2 => ∃ p, r = VV (.ref p) ∧ Δ2 = dkD K dp pl n ++ [(p, LC K ([] : List PyData))]) (Ob := fun r1 Δ1 r2 Δ2 => ∃ p, r1 = VV (.ref p) ∧ r2 = belowR K 4 ∧ Δ2 = dkD K dp pl (n + 1) ++ [(p, LC K ([] : List PyData))]) (jx_newl (ds := []) ja_nil) (fun r1 Δ1 h => ?_) ?_ rfl sc_cp.nd rfl rfl (by decide)
    · obtain ⟨p, rfl, rfl⟩ := h
      refine jx_of (je_call (Δ0 := dkD K dp pl n) (Δr := [(p, LC K ([] : List PyData))]) (Δ0' := dkD K dp pl (n + 1)) (ok_dw T) (hr.mono (by decide)) (ja_cons (je_var 0) (ja_cons (je_int (i := 4)) ja_nil)) ⟨dp, pl, n, 4, by omega, by omega, by omega, rfl, rfl, rfl, rfl⟩).use fun σ G H Q hs sl q => ⟨G, hs, sl, fun v G' H' t p => q v G' H' _ _ ⟨_, rfl, rfl, rfl⟩ t p⟩
    rintro r1 Δ1 r2 Δ2 ⟨p, rfl, rfl⟩ ⟨p2, e, rfl, rfl⟩
    obtain rfl : p = p2 := by
      have := congrArg (fun r : SV => r.P (.ref p) (fun _ => none)) e
      have h : (VV (.ref p2)).P (.ref p) (fun _ => none) := by rw [← e]; exact rfl
      cases h
      rfl
    refine jss_bind (i := 4) rfl fun way hway => ?_
    refine jss_for (js := [5, 6]) (g := gTup K 2 (gCons (gName 5) (gCons (gName 6) gNil))) PassesOwn.never rfl (ji_enum (bb := false) (ds := hs.map .str) T.f_enumerate (je_var 1)) (pg_tup rfl (pgs_cons (pg_name (i := 5) sc_cp.nd rfl (Or.inl rfl)) (pgs_cons (pg_name (i := 6) sc_cp.nd rfl (Or.inl rfl)) pgs_nil)))
      (fun i Δ Γ => ∃ cs : Copies, holders cs = hs.take i ∧ (∀ c ∈ cs, rowFits ps c.2) ∧ Δ = dkD K dp pl (n + 1 + 10 * i) ++ [(p, LC K (cs.map eC))] ∧ Γ = [some (VV (.ref dp)), some (L K (hs.map .str)), some (D K (eR ps)), some (VV (.ref p)), some (D K (.int (way : Int))), none, none, none, none, none]) ⟨[], rfl, fun c hc => (by cases hc), rfl, rfl⟩ (fun i r Δ Γ hr' hI => ?_) fun Δ Γ hI => ?_
    · obtain ⟨cs, hcs, good, rfl, rfl⟩ := hI
      obtain ⟨q, hq, rfl⟩ := at_map hr'
      rw [List.zipIdx_map, List.getElem?_map, List.getElem?_zipIdx] at hq
      obtain ⟨one, h1, rfl⟩ : ∃ one, hs[i]? = some one ∧ q = (.str one, i) := by
        cases hm : hs[i]? with
        | none => rw [hm] at hq; cases hq
        | some one =>
          rw [hm] at hq
          refine ⟨one, rfl, ?_⟩
          have := Option.some.inj hq
          rw [← this]
          simp [Prod.map]
      have hil : i < hs.length := (List.getElem?_eq_some_iff.mp h1).1
      have hcl : cs.length = i := by
        have := congrArg List.length hcs
        unfold holders at this
        rw [List.length_map, List.length_take] at this
        omega
      refine ⟨_, tg_pair (d1 := .int (i : Int)) (d2 := .str one) 5 6, ?_⟩
      refine cp_body (m := n + 1 + 10 * i) (cs := cs) (one := one) T hr h4 hpp (by omega) (by omega) good fun row hrow => ?_
      refine ⟨[_, _, _, _, _, none, none, none, none, none], .keep (.keep (.keep (.keep (.keep (.drop (.drop (.drop (.keep (.keep .nil))))))))), cs ++ [(one, row)], ?_, fun c hc => ?_, rfl, rfl⟩
      · rw [take_succ h1, ← hcs]
        unfold holders
        rw [List.map_append]
        rfl
      · rcases List.mem_append.mp hc with z | z
        · exact good c z
        · obtain rfl : c = (one, row) := by simpa using z
          exact hrow
    · obtain ⟨cs, hcs, good, rfl, rfl⟩ := hI
      rw [List.length_map, List.length_zipIdx, List.length_map] at hcs ⊢
      rw [List.take_length] at hcs
      refine jss_pub (p := p) 3 2 rfl rfl ?_
      refine JSs.ce ?_ (dkD_le (Δr := []) (show n + 1 + 10 * hs.length ≤ n + 60 by omega))
      exact jss_ret (je_tupleL (ds := cs.map eC) T.f_tuple (je_var 3)) ⟨rfl, fun v G pv => ⟨cs, ⟨hcs, good⟩, pv⟩⟩
end
end Bl
set_option Elab.async false
set_option linter.all false
set_option maxRecDepth 100000
set_option maxHeartbeats 2000000
/-! _law_mixed -/
namespace Bl
open PySem PySem.Spec PyProof.Rows L2
section
variable {X : Cx} {e a b c o tg iter elt : Expr} {es : List Expr} {Γ Γ' : Gm} {Δ Δ1 Δ2 Δ3 Δ' : Cs} {pos p' p2 : Pos}
theorem je_eqIx {C : Nat → Prop} {j : Int} (ha : JE X Δ Γ a (SV.ex C fun i : Nat => D X.K (.int (i : Int))) Δ1) (hb : JE X Δ1 Γ b (D X.K (.int j)) Δ2) : JE X Δ Γ (.Compare a [.Eq] [b] pos) (SV.ex (fun _ : Bool => True) fun bb => D X.K (.bool bb)) Δ2 :=
  je_cmp op_eq ha hb (fun u v G H Q sg ⟨i, ci, p1⟩ p2 q => by
    have p1 : (D X.K (.int (i : Int))).P u G := p1
    cases p1.1
    cases p2.1
    exact ⟨rfl, q _ G H (Up.refl sg) ⟨_, trivial, d_bl _⟩⟩)
end
theorem map_some (l : List Str) : l.map PyData.str = (l.map some).map eO := by rw [List.map_map]; rfl
theorem wipe_get {Γ : Gm} {vs : List Nat} {i : Nat} (h : i ∉ vs) : (wipeG Γ vs)[i]? = Γ[i]? := by
  induction vs with
  | nil => rfl
  | cons v vs ih =>
    unfold wipeG
    rw [List.getElem?_set_ne (fun z => h (by rw [z]; exact List.mem_cons_self ..))]
    exact ih fun z => h (List.mem_cons_of_mem _ z)
section
variable {P : Program} {w : World} {K : PySem.W.Frag} {mg : Str → Option Value} {base : Heap} {C : Addr}
abbrev N_mx : List Str := ["_law_deck_here", "_law_spots_here", "_law_copies_here", "_law_manner", "_law_group", "_law_found", "_law_wild", "_law_at", "_law_spot", "_law_have", "_law_some", "_law_entry", "_law_one", "_law_row"]
theorem sc_mx : FnScope N_mx ["_law_deck_here", "_law_spots_here", "_law_copies_here", "_law_manner"] (defScope (top 76)) := ⟨rfl, rfl, rfl, by decide +kernel, rfl, by decide +kernel, by decide +kernel⟩
def entriesR (K : PySem.W.Frag) (n : Nat) : SV := SV.ex (fun es : List (Option Str) => es.length = n) (fun es => D K (.tuple (es.map eO)))
def pm_mx (K : PySem.W.Frag) : Prm := fun rs Δ r Δ' => ∃ (dp pl : Addr) (n : Nat) (ps : List (List Str)) (cs : Copies) (manner : Str), cs.length ≤ 5 ∧ ps.length ≤ 4 ∧ (∀ c ∈ cs, c.2.length = ps.length) ∧ (∀ p ∈ ps, p.length ≤ 4) ∧ n < 2 ^ 39 ∧ rs = [VV (.ref dp), D K (eR ps), D K (eCs cs), D K (.str manner)] ∧ Δ = dkD K dp pl n ∧ r = entriesR K ps.length ∧ Δ' = dkD K dp pl (n + 20)
def mxBody : List Stmt := match (defBody (top 76)).getD 2 (.Pass ⟨0, 0, 0, 0⟩) with
  | .For _ _ b _ _ => b
  | _ => []
theorem mx_body (T : Tx K mg) {f : Addr} {cdv : Value} {A : Around} {outer : List Env} {s : Shared} {H : Hp} {E : XK} (hr : Room 2 (A.deeper (envOfC "_law_mixed" (defScope (top 76)) s.heap.objs.size f cdv))) {dp pl p : Addr} {m i : Nat} {ps : List (List Str)} {cs : Copies} {manner : Str} {g mk spot : List Str} {wild : Bool} {es : List (Option Str)} {O : En → Prop}
    (hm : m < 2 ^ 39 + 100) (hes : es.length ≤ 100) (hsp : spot.length ≤ 4) (hmk : mk.length ≤ 5)
    (hO : ∀ (o : Option Str) (Γ2 : Gm), GLe Γ2 [some (VV (.ref dp)), some (D K (eR ps)), some (D K (eCs cs)), some (D K (.str manner)), some (L K (g.map .str)), some (VV (.ref p)), some (D K (.bool wild)), none, none, none, none, none, none, none] → O (.nx (dkD K dp pl (m + 2) ++ [(p, LC K ((es ++ [o]).map eO))]) Γ2)) :
    JSs (cxN P w K mg base N_mx "_law_mixed" 76 f cdv A outer s H E) (dkD K dp pl m ++ [(p, LC K (es.map eO))]) [some (VV (.ref dp)), some (D K (eR ps)), some (D K (eCs cs)), some (D K (.str manner)), some (L K (g.map .str)), some (VV (.ref p)), some (D K (.bool wild)), some (D K (.int (i : Int))), some (D K (eS spot)), some (L K (mk.map .str)), some (L K (mk.map .str)), none, none, none] (mxBody.drop 2) O := by
  have fin : ∀ l : List (Option Str), l ≠ [] → l.length ≤ 10 → JSs (cxN P w K mg base N_mx "_law_mixed" 76 f cdv A outer s H E) (dkD K dp pl m ++ [(p, LC K (es.map eO))]) [some (VV (.ref dp)), some (D K (eR ps)), some (D K (eCs cs)), some (D K (.str manner)), some (L K (g.map .str)), some (VV (.ref p)), some (D K (.bool wild)), some (D K (.int (i : Int))), some (D K (eS spot)), some (L K (mk.map .str)), some (L K (l.map eO)), none, none, none] (mxBody.drop 4) O := fun l hne hl => by
    refine jss_setE (i := 11) (je_call (Δ0 := dkD K dp pl m) (Δr := [(p, LC K (es.map eO))]) (Δ0' := dkD K dp pl (m + 1)) (ok_pk T) hr (ja_cons (je_var 0) (ja_cons (je_var 10) ja_nil)) ⟨dp, pl, m, l.map eO, by rw [List.length_map]; exact List.length_pos_iff.mpr hne, by rw [List.length_map]; omega, by omega, rfl, .inl ⟨false, rfl, rfl, rfl⟩⟩) sc_mx.nd ?_
    refine jss_bind (i := 11) rfl fun d hd => ?_
    obtain ⟨o, ho, rfl⟩ := List.mem_map.mp hd
    refine jss_expr (jx_app (Δ1 := dkD K dp pl (m + 2) ++ [(p, LC K (es.map eO))]) (C := fun d => ∃ o, d = eO o) (i := 0) (j := 2) (j0 := 2) (p := p) (ds0 := es.map eO) (ds := es.map eO) (je_var 5) rfl
      (je_ifO (jb_eqIx (je_call (Δ0 := dkD K dp pl (m + 1)) (Δr := [(p, LC K (es.map eO))]) (Δ0' := dkD K dp pl (m + 2)) (ok_dw T) (hr.mono (by decide)) (ja_cons (je_var 0) (ja_cons (je_int (i := 5)) ja_nil)) ⟨dp, pl, m + 1, 5, by omega, by omega, by omega, rfl, rfl, rfl, rfl⟩) je_int)
        (fun Δ1 e => by subst e; exact je_non.to fun v G pv => ⟨eO none, ⟨none, rfl⟩, pv⟩) (fun Δ1 e => by subst e; exact (je_var (r := D K (eO o)) 11).to fun v G pv => ⟨eO o, ⟨o, rfl⟩, pv⟩)) rfl (by rw [List.length_map, sizeLine_eq]; omega)) ?_
    rintro r2 Δ2 ⟨d, ⟨o2, rfl⟩, rfl, rfl⟩
    refine jss_nil ?_
    have e1 : es.map eO ++ [eO o2] = (es ++ [o2]).map eO := by rw [List.map_append]; rfl
    show O (.nx (dkD K dp pl (m + 2) ++ [(p, LC K (es.map eO ++ [eO o2]))]) _)
    rw [e1]
    exact hO o2 _ (.keep (.keep (.keep (.keep (.keep (.keep (.keep (.drop (.drop (.drop (.drop (.drop (.drop (.drop .nil))))))))))))))
  have st2 : ∀ l : List (Option Str), (mk ≠ [] → l ≠ []) → l.length ≤ 10 → JSs (cxN P w K mg base N_mx "_law_mixed" 76 f cdv A outer s H E) (dkD K dp pl m ++ [(p, LC K (es.map eO))]) [some (VV (.ref dp)), some (D K (eR ps)), some (D K (eCs cs)), some (D K (.str manner)), some (L K (g.map .str)), some (VV (.ref p)), some (D K (.bool wild)), some (D K (.int (i : Int))), some (D K (eS spot)), some (L K (mk.map .str)), some (L K (l.map eO)), none, none, none] (mxBody.drop 3) O := fun l hne hl => by
    refine jss_ifB (Δ1 := dkD K dp pl m ++ [(p, LC K (es.map eO))]) (bb := wild || (mk.map PyData.str).isEmpty) ((jw_or (jb_val (je_var 6)) fun _ => jw_or1 (jb_nilEqL (hu64 hr) (je_var 9) je_lst0 (dep_map enc_str.dep (by decide) _))).jb) (fun _ => ?_) fun hb => ?_
    · refine jss_setE (i := 10) (r := L K ((spot.map some ++ [some sUn, none]).map eO)) ((je_catL (ds1 := spot.map .str) (ds2 := [.str sUn, .none]) (je_listT T.f_list (je_var 8)) (je_lst (ds := [.str sUn, .none]) (ja_cons je_str (ja_cons je_non ja_nil))) (by rw [List.length_map, sizeLine_eq]; simp; omega)).leq (by rw [List.map_append, map_some]; rfl)) sc_mx.nd ?_
      exact jss_nil (fin _ (by simp) (by simp; omega))
    · rw [Bool.or_eq_false_iff] at hb
      refine jss_nil (fin l (hne fun z => ?_) hl)
      subst z
      cases hb.2
  refine jss_ifB (Δ1 := dkD K dp pl m ++ [(p, LC K (es.map eO))]) (bb := decide ((1 : Int) < ((BM.dd mk).length : Int)) && !decide (manner = sPick)) ((jw_and (jb_gt (je_lsL rfl (hu5 hr) T.f_len T.f_set (je_var 9) (by omega)) je_int) fun _ => jw_and1 (jb_neS (je_var 3) je_str)).jb) (fun _ => ?_) fun _ => ?_
  · refine jss_setE (i := 10) (r := L K ((if manner = sSmear then mk.map some ++ [some sUn] else spot.map some ++ [some sUn]).map eO)) (je_if (bb := decide (manner = sSmear)) (jb_eqS (je_var 3) je_str) (fun h => ?_) fun h => ?_) sc_mx.nd (jss_nil (st2 _ (fun _ => by by_cases h : manner = sSmear <;> simp [h]) (by by_cases h : manner = sSmear <;> simp [h] <;> omega)))
    · rw [if_pos (by simpa using h)]
      exact (je_catL (ds1 := mk.map .str) (ds2 := [.str sUn]) (je_var 9) (je_lst (ds := [.str sUn]) (ja_cons je_str ja_nil)) (by rw [List.length_map, sizeLine_eq]; simp; omega)).leq (by rw [List.map_append, map_some]; rfl)
    · rw [if_neg (by simpa using h)]
      exact (je_catL (ds1 := spot.map .str) (ds2 := [.str sUn]) (je_listT T.f_list (je_var 8)) (je_lst (ds := [.str sUn]) (ja_cons je_str ja_nil)) (by rw [List.length_map, sizeLine_eq]; simp; omega)).leq (by rw [List.map_append, map_some]; rfl)
  · have h := st2 (mk.map some) (fun h => by simpa using h) (by rw [List.length_map]; omega)
    rw [← map_some] at h
    exact jss_nil h
theorem ok_mx (T : Tx K mg) : Ok P w K mg base 3 "_law_mixed" ["_law_deck_here", "_law_spots_here", "_law_copies_here", "_law_manner"] (pm_mx K) :=
  ok_of T.d__law_mixed sc_mx (fun _ _ _ _ _ _ us hl => match us, hl with | [_, _, _, _], _ => rfl) (fun rs Δ r Δ' ⟨_, _, _, _, _, _, _, _, _, _, _, e, _⟩ => by rw [e]; rfl) fun f cdv A outer s H E rs Δ r Δ' hr hp => by
    obtain ⟨dp, pl, n, ps, cs, manner, h5, h4, hw, hp4, hn, rfl, rfl, rfl, rfl⟩ := hp
    have hΔ0 : dkD K dp pl n = dkD K dp pl (n + 0) := rfl
    refine jss_set (i := 4) (jas_lcO (g := gTup K 2 (gCons (gName 12) (gCons (gName 13) gNil))) (Δi := fun j => dkD K dp pl (n + j)) (J := fun j acc => ∃ g : List Str, acc = g.map .str) (own := [("_law_one", 12), ("_law_row", 13)]) rfl sc_mx.nd (ji_Te (l := cs) (enc := eC) (je_var 2)) (blkOk_by (N := N_mx) (sc := defScope (top 76)) (by decide +kernel)) (fun _ _ _ _ _ => pg_tup rfl (pgs_cons (pg_name (i := 12) sc_mx.nd rfl (Or.inl rfl)) (pgs_cons (pg_name (i := 13) sc_mx.nd rfl (Or.inl rfl)) pgs_nil))) ⟨fun j r acc hj hJ => ?_⟩ ⟨[], rfl⟩ hΔ0 (sw_true rfl rfl rfl (by decide +kernel)) rfl rfl) ?_
    · obtain ⟨c, hc, rfl⟩ := at_map hj
      obtain ⟨g, rfl⟩ := hJ
      have hjl : j < cs.length := (List.getElem?_eq_some_iff.mp hc).1
      refine ⟨_, [12, 13], fun _ Δ' => Δ' = dkD K dp pl (n + (j + 1)), tg_pair (d1 := .str c.1) (d2 := eS c.2) 12 13, by decide, fun _ _ _ _ _ => jbs_one ?_, fun Δ2 e => ⟨⟨g, rfl⟩, e⟩, fun Δ2 e => ?_⟩
      · exact jb_eqIx (je_call (Δ0 := dkD K dp pl (n + j)) (Δr := []) (Δ0' := dkD K dp pl (n + (j + 1))) (ok_dw T) (hr.mono (by decide)) (ja_cons (je_var 0) (ja_cons (je_int (i := 2)) ja_nil)) ⟨dp, pl, n + j, 2, by omega, by omega, by omega, rfl, rfl, rfl, rfl⟩) je_int
      · subst e
        intro s' H' C' cl fp
        exact (je_var (r := D K (.str c.1)) 12).to fun v G pv => ⟨.str c.1, ⟨g ++ [c.1], by rw [List.map_append]; rfl⟩, pv⟩
    rintro r2 Δ2 ⟨acc, ⟨hl, g, rfl⟩, rfl, rfl⟩
    rw [List.length_map]
    refine JSs.ce (Δ1 := dkD K dp pl (n + 5)) ?_ (dkD_le (Δr := []) (by omega))
    refine jss_parX (i := 5) (j := 6) (Oa := fun r Δ2 => ∃ p, r = VV (.ref p) ∧ Δ2 = dkD K dp pl (n + 5) ++ [(p, LC K ([] : List PyData))]) (Ob := fun r1 Δ1 r2 Δ2 => r2 = SV.ex (fun _ : Bool => True) (fun bb => D K (.bool bb)) ∧ ∀ p, Δ1 = dkD K dp pl (n + 5) ++ [(p, LC K ([] : List PyData))] → Δ2 = dkD K dp pl (n + 6) ++ [(p, LC K ([] : List PyData))]) (jx_newl (ds := []) ja_nil) (fun r1 Δ1 h => ?_) ?_ rfl sc_mx.nd rfl rfl (by decide)
    · obtain ⟨p, rfl, rfl⟩ := h
      refine jx_of (je_eqIx (je_call (Δ0 := dkD K dp pl (n + 5)) (Δr := [(p, LC K ([] : List PyData))]) (Δ0' := dkD K dp pl (n + 6)) (ok_dw T) (hr.mono (by decide)) (ja_cons (je_var 0) (ja_cons (je_int (i := 4)) ja_nil)) ⟨dp, pl, n + 5, 4, by omega, by omega, by omega, rfl, rfl, rfl, rfl⟩) je_int).use fun σ G H Q hs sl q => ⟨G, hs, sl, fun v G' H' t pv => q v G' H' _ _ ⟨rfl, fun p' e => ?_⟩ t pv⟩
      have e2 := List.append_cancel_left e
      injection e2 with e3
      have e4 : p = p' := (Prod.mk.inj e3).1
      subst e4
      rfl
    rintro r1 Δ1 r2 Δ2 ⟨p, rfl, rfl⟩ ⟨rfl, e⟩
    obtain rfl := e p rfl
    refine jss_bind (i := 6) rfl fun wild _ => ?_
    refine jss_for (js := [7, 8]) (g := gTup K 2 (gCons (gName 7) (gCons (gName 8) gNil))) PassesOwn.never rfl (ji_enum (bb := true) (ds := ps.map eS) T.f_enumerate (je_var 1)) (pg_tup rfl (pgs_cons (pg_name (i := 7) sc_mx.nd rfl (Or.inl rfl)) (pgs_cons (pg_name (i := 8) sc_mx.nd rfl (Or.inl rfl)) pgs_nil)))
      (fun i Δ Γ => ∃ es : List (Option Str), es.length = i ∧ Δ = dkD K dp pl (n + 6 + 2 * i) ++ [(p, LC K (es.map eO))] ∧ Γ = [some (VV (.ref dp)), some (D K (eR ps)), some (D K (eCs cs)), some (D K (.str manner)), some (L K (g.map .str)), some (VV (.ref p)), some (D K (.bool wild)), none, none, none, none, none, none, none]) ⟨[], rfl, rfl, rfl⟩ (fun i r Δ Γ hr' hI => ?_) fun Δ Γ hI => ?_
    · obtain ⟨es, hes, rfl, rfl⟩ := hI
      obtain ⟨q, hq, rfl⟩ := at_map hr'
      rw [List.zipIdx_map, List.getElem?_map, List.getElem?_zipIdx] at hq
      obtain ⟨spot, h1, rfl⟩ : ∃ spot, ps[i]? = some spot ∧ q = (eS spot, i) := by
        cases hm : ps[i]? with
        | none => rw [hm] at hq; cases hq
        | some one =>
          rw [hm] at hq
          refine ⟨one, rfl, ?_⟩
          have := Option.some.inj hq
          rw [← this]
          simp [Prod.map]
      have hil : i < ps.length := (List.getElem?_eq_some_iff.mp h1).1
      have hsp := hp4 spot (List.mem_of_getElem? h1)
      have hmk : (marksOf cs g i).length ≤ 5 := by
        unfold marksOf
        rw [List.length_map]
        exact Nat.le_trans (List.length_filter_le _ _) h5
      refine ⟨_, tg_pair (d1 := .int (i : Int)) (d2 := eS spot) 7 8, ?_⟩
      refine jss_setE (i := 9) (je_callP (ok_lk T) (hr.mono (by decide)) (ja_cons (je_var 2) (ja_cons (je_var 4) (ja_cons (je_var 7) ja_nil))) ⟨cs, g, i, fun c hc => by rw [hw c hc]; exact hil, Or.inr rfl, rfl⟩) sc_mx.nd ?_
      generalize marksOf cs g i = mk at hmk ⊢
      refine jss_setE (i := 10) (je_var 9) sc_mx.nd ?_
      exact mx_body (m := n + 6 + 2 * i) T hr (by omega) (by omega) hsp hmk fun o Γ2 hle => ⟨_, hle, es ++ [o], by simp [hes], rfl, rfl⟩
    · obtain ⟨es, hes, rfl, rfl⟩ := hI
      rw [List.length_map, List.length_zipIdx, List.length_map] at hes ⊢
      refine jss_pub (p := p) 5 2 rfl rfl ?_
      refine JSs.ce ?_ (dkD_le (Δr := []) (show n + 6 + 2 * ps.length ≤ n + 20 by omega))
      exact jss_ret (je_tupleL (ds := es.map eO) T.f_tuple (je_var 5)) ⟨rfl, fun v G pv => ⟨es, hes, pv⟩⟩
end
end Bl
set_option Elab.async false
set_option linter.all false
set_option maxRecDepth 100000
set_option maxHeartbeats 2000000
/-! range of a drawn number; a call with a drawn argument; the case's dict -/
namespace Bl
open PySem PySem.Spec PyProof.Rows L2
section
variable {X : Cx} {e e1 e2 e3 e4 e5 a b c o tg iter elt : Expr} {es : List Expr} {Γ Γ' : Gm} {Δ Δ0 Δ0' Δr Δ1 Δ2 Δ3 Δ' : Cs} {r r1 r2 : SV} {pos p' p2 : Pos} {p : Addr} {O : En → Prop} {rest body sts : List Stmt}
/-- what is walked, by cases -/
structure JIx (X : Cx) (tg : Expr) (Δ : Cs) (Γ : Gm) (iter : Expr) (F : List SV → Prop) (Δ' : Cs) : Prop where
  ex : ∃ wi, PI X tg iter wi ∧ ∀ (σ : L2.St) (G H : Hp) (R : It → Hp → Prop), Hs Δ G H → Sl σ G Γ → (∀ J G' H' vs, F vs → Tr Δ G H Δ' G' H' → Wk J G' vs → vs.length ≤ sizeLine → R J H') → wi σ H R
theorem ji_rng1x {C : Int → Prop} {p : Pos} (hm : X.mg "range" = none) (ha : JE X Δ Γ e (SV.ex C fun i => D X.K (.int i)) Δ') (hC : ∀ i, C i → 0 ≤ i ∧ i ≤ 1000) (hg : Gl X "range" := by rfl) (hs : starEach [e] X.env = [(false, eval e X.env)] := by rfl) :
    JIx X tg Δ Γ (.Call (.Name "range" p) [e] [] pos) (fun vs => ∃ n : Nat, C (n : Int) ∧ vs = (List.range n).map fun k : Nat => D X.K (.int (k : Int))) Δ' :=
  ⟨_, pi_range1 hg hm (ja_cons ha ja_nil hs).use hs, fun σ G H R hs sl q => ⟨G, hs, sl, fun vs G1 H1 t ps => by
    obtain ⟨v, rfl, i, ci, p⟩ := paired1 ps
    have p : (D X.K (.int i)).P v G1 := p
    cases p.1
    obtain ⟨h0, h1⟩ := hC i ci
    obtain ⟨n, rfl⟩ : ∃ n : Nat, i = n := ⟨i.toNat, (Int.toNat_of_nonneg h0).symm⟩
    have hz : (sizeLine : Nat) < 2 ^ 62 := by rw [sizeLine_eq]; decide
    have hz2 : 1000 ≤ sizeLine := by rw [sizeLine_eq]; decide
    refine ⟨n, rfl, by omega, by omega, ?_⟩
    have w := wk_rng (K := X.K) (lo := 0) (n := n) (G0 := G1)
    have e : ((List.range n).map fun k : Nat => D X.K (.int (0 + (k : Int)))) = ((List.range n).map fun k : Nat => D X.K (.int (k : Int))) := by
      refine List.map_congr_left fun k _ => ?_
      rw [Int.zero_add]
    rw [e] at w
    exact q _ G1 H1 _ ⟨n, ci, rfl⟩ t w (by rw [List.length_map, List.length_range]; omega)⟩⟩
theorem jss_forX {g : TG} {js : List Nat} {F : List SV → Prop} (hp : PassesOwn (model X.prog X.w) X.A X.env X.xe) (hc : X.calm = true) (hi : JIx X tg Δ Γ iter F Δ1) (hg : PG X tg g) (I : List SV → Nat → Cs → Gm → Prop) (h0 : ∀ vs, F vs → I vs 0 Δ1 Γ)
    (hb : ∀ vs, F vs → ∀ i r Δ Γ, vs[i]? = some r → I vs i Δ Γ → ∃ Γ', TgOk g js r Γ Γ' ∧ JSs X Δ Γ' body (loopO X (I vs) i rest O)) (hd : ∀ vs, F vs → ∀ Δ Γ, I vs vs.length Δ Γ → JSs X Δ Γ rest O)
    (hs : ∀ x, foldedSetIterable iter X.env x = pure x := by intro _; rfl) : JSs X Δ Γ (.For tg iter body [] pos :: rest) O := by
  obtain ⟨wi, hw, kw⟩ := hi
  refine jss_of (pss_cons (ps_for hp hc hw hg (tb := fun D σ H => ∃ vs i, tSU X body (loopO X (I vs) i rest O) D σ H) ⟨fun pins s σ H D J ⟨vs, i, q⟩ => pss_U.run pins s σ H D J q⟩ hs) (pss_U (O := O))) fun σ G H D hs sl sv => kw σ G H _ hs sl fun J G1 H1 vs hF t w z => ?_
  refine ⟨fun i m σ H => m = vs.length - i ∧ i ≤ vs.length ∧ ∃ Δ2 Γ2 G2, I vs i Δ2 Γ2 ∧ Tr Δ1 G1 H1 Δ2 G2 H ∧ Sl σ G2 Γ2, ⟨vs.length, rfl, Nat.zero_le _, Δ1, Γ, G1, h0 vs hF, Tr.refl t.hs, sl.mono t.up⟩, ?_⟩
  rintro i m σ2 H2 ⟨rfl, hle, Δ2, Γ2, G2, i2, t2, sl2⟩
  by_cases hlt : i < vs.length
  · refine .inr ⟨w.go i G2 H2 t2.up t2.hs.sub hlt, fun σ' H' => i + 1 ≤ vs.length ∧ ∃ Δ2 Γ2 G2, I vs (i + 1) Δ2 Γ2 ∧ Tr Δ1 G1 H1 Δ2 G2 H' ∧ Sl σ' G2 Γ2, fun σ' H' q => ⟨vs.length - (i + 1), by omega, rfl, q⟩, fun x H' y => ?_⟩
    have hr : vs[i]? = some vs[i] := List.getElem?_eq_getElem hlt
    obtain ⟨G3, u3, p3⟩ := w.yld i G2 H2 x H' _ t2.up t2.hs.sub hr y
    have t3 : Tr Δ1 G1 H1 Δ2 G3 H' := t2.trans (u3.up0 t2.hs)
    obtain ⟨Γ3, tk, hbody⟩ := hb vs hF i _ Δ2 Γ2 hr i2
    refine tk x σ2 G3 H' _ t3.hs.sub p3 (sl2.mono u3.up) fun σ4 sl4 _ => ⟨vs, i, Δ2, Γ3, hbody, G3, t3.hs, sl4, ?_⟩
    refine ⟨fun σ5 G5 H5 Δ5 Γ5 ⟨Γ6, l6, i6⟩ t5 s5 => ⟨hlt, Δ5, Γ6, G5, i6, t3.trans t5, s5.le l6⟩, fun v G5 H5 Δ5 r o t5 p5 => sv.rt v G5 H5 Δ5 r o (t.trans (t3.trans t5)) p5, fun σ5 G5 H5 Δ5 Γ5 ⟨Γ6, l6, i6⟩ t5 s5 => ⟨hlt, Δ5, Γ6, G5, i6, t3.trans t5, s5.le l6⟩, fun σ5 G5 H5 Δ5 Γ5 o t5 s5 => ⟨Δ5, Γ5, o, G5, t5.hs, s5, sv.trans (t.trans (t3.trans t5))⟩⟩
  · have e : i = vs.length := by omega
    subst e
    exact .inl ⟨w.stop _ G2 H2 t2.up t2.hs.sub rfl, Δ2, Γ2, hd vs hF Δ2 Γ2 i2, G2, t2.hs, sl2, sv.trans (t.trans t2)⟩
/-- f(e1, e2), the second a drawn number -/
theorem je_call2x {ι : Type} {C : ι → Prop} {f : ι → SV} {k : Nat} {x : Str} {ps : List Str} {Pre : Prm} {p : Pos} (h : Ok X.prog X.w X.K X.mg X.base k x ps Pre) (hr : Room k X.A) (ha : JA X Δ Γ [e1, e2] [r1, SV.ex C f] (Δ0 ++ Δr)) (hp : ∀ i, C i → ∃ r' Δ', Pre [r1, f i] Δ0 r' Δ' ∧ (∀ v G, r'.P v G → r.P v G) ∧ CLe Δ' Δ0')
    (hg : Gl X x := by rfl) (hdb : (x == ("__debug__" : Str)) = false := by decide) (he : starEach [e1, e2] X.env = (false, eval e1 X.env) :: starEach [e2] X.env := by rfl) (hpl : (backTo pos (starEach [e2] X.env)).any (·.1) = false := by rfl) :
    JE X Δ Γ (.Call (.Name x p) [e1, e2] [] pos) r (Δ0' ++ Δr) := by
  obtain ⟨f', fd, F, hm, hk, hb⟩ := h
  refine je_of (pe_call F hr hg hm hk hb .nil pass0 ha.use hdb he hpl) fun σ G H Q hs sl q => ⟨G, hs, sl, fun vs G1 H1 t ps => ?_⟩
  show spJ Pre (vs ++ []) H1 Q E0
  rw [List.append_nil]
  have hs0 : Hs Δ0 G1 H1 := ⟨t.hs.sub, fun q hq => t.hs.cell q (List.mem_append_left _ hq), by have := t.hs.nd; unfold dom at this ⊢; rw [List.map_append, List.nodup_append] at this; exact this.1⟩
  obtain ⟨u, v, rfl, pu, i, ci, pv⟩ := paired2 ps
  obtain ⟨r', Δ', h1, h2, h3⟩ := hp i ci
  exact ⟨G1, _, Δ0, r', Δ', h1, hs0, .cons pu (.cons pv .nil), fun v G' H' t' pv => q v G' H' (t.trans ((h3.tr t').frame t.hs)) (h2 v G' pv)⟩
/-- {'people': .., 'places': .., 'copies': .., 'blends': .., 'bound': ..} -/
theorem je_case {cd : CaseD} {k1 k2 k3 k4 k5 : Nat} {q1 q2 q3 q4 q5 : Pos} (h1 : ∀ p, JE X (Δ ++ [(p, KC [])]) Γ e1 (L X.K (cd.hs.map .str)) (Δ ++ [(p, KC [])])) (h2 : ∀ p, JE X (Δ ++ [(p, KC [])]) Γ e2 (D X.K (eR cd.ps)) (Δ ++ [(p, KC [])])) (h3 : ∀ p, JE X (Δ ++ [(p, KC [])]) Γ e3 (D X.K (eCs cd.cs)) (Δ ++ [(p, KC [])]))
    (h4 : ∀ p, JE X (Δ ++ [(p, KC [])]) Γ e4 (D X.K (eFs cd.fs)) (Δ ++ [(p, KC [])])) (h5 : ∀ p, JE X (Δ ++ [(p, KC [])]) Γ e5 (D X.K (.int cd.m)) (Δ ++ [(p, KC [])])) :
    JE X Δ Γ (.Dict [some (.Constant (.str "people") k1 q1), some (.Constant (.str "places") k2 q2), some (.Constant (.str "copies") k3 q3), some (.Constant (.str "blends") k4 q4), some (.Constant (.str "bound") k5 q5)] [e1, e2, e3, e4, e5] pos) (CaseV X.K cd) Δ := by
  have U : ∀ {e : Expr} {r : SV}, (∀ p, JE X (Δ ++ [(p, KC [])]) Γ e r (Δ ++ [(p, KC [])])) → PE X e (fun σ H Q => ∃ p, tJ (Δ ++ [(p, KC [])]) Γ r (Δ ++ [(p, KC [])]) σ H Q) := fun h => ⟨fun pins s σ H Q I ⟨p, q⟩ => (h p).use.run pins s σ H Q I q⟩
  refine je_of (pe_disp (pps_cons pe_str (U h1) (pps_cons pe_str (U h2) (pps_cons pe_str (U h3) (pps_cons pe_str (U h4) (pps_cons pe_str (U h5) pps_nil))))) rfl rfl (by simp) (by simp)) fun σ G H Q hs sl q => fun p hp => ?_
  have t0 : Tr Δ G H (Δ ++ [(p, KC [])]) G (upd H p (.dK [])) := Tr.cell hs hp rfl
  have hj : (Δ ++ [(p, KC [])])[Δ.length]? = some (p, KC []) := by simp
  refine ⟨p, G, t0.hs, sl.mono t0.up, fun v1 G1 H1 t1 p1 => ⟨p, G1, t1.hs, sl.mono (t0.trans t1).up, fun v2 G2 H2 t2 p2 => ⟨p, G2, t2.hs, sl.mono ((t0.trans t1).trans t2).up, fun v3 G3 H3 t3 p3 => ⟨p, G3, t3.hs, sl.mono (((t0.trans t1).trans t2).trans t3).up, fun v4 G4 H4 t4 p4 => ⟨p, G4, t4.hs, sl.mono ((((t0.trans t1).trans t2).trans t3).trans t4).up, fun v5 G5 H5 t5 p5 => ?_⟩⟩⟩⟩⟩
  refine ⟨sl_kc t5.hs hj, [(.inr "people", v1), (.inr "places", v2), (.inr "copies", v3), (.inr "blends", v4), (.inr "bound", v5)], rfl, by simp, ?_⟩
  have t := ((((t0.trans t1).trans t2).trans t3).trans t4).trans t5
  have kk : mergeK [] [((.inr "people" : Key), v1), (.inr "places", v2), (.inr "copies", v3), (.inr "blends", v4), (.inr "bound", v5)] = [((.inr "people" : Key), v1), (.inr "places", v2), (.inr "copies", v3), (.inr "blends", v4), (.inr "bound", v5)] := rfl
  rw [kk]
  generalize hkv : [((.inr "people" : Key), v1), (.inr "places", v2), (.inr "copies", v3), (.inr "blends", v4), (.inr "bound", v5)] = kvs
  have tp := Tr.put (C' := KC kvs) t5.hs hj (o := .dK kvs) rfl
  rw [show (Δ ++ [(p, KC [])]).set Δ.length (p, KC kvs) = Δ ++ [(p, KC kvs)] by simp] at tp
  have tq := Tr.pub tp.hs (p := p) (C := KC kvs) (j := Δ.length) (by simp) (o := .dK kvs) upd_same
  rw [show (Δ ++ [(p, KC kvs)]).eraseIdx Δ.length = Δ by simp [List.eraseIdx_append_of_length_le]] at tq
  have u5 : Same G5 (upd G5 p (.dK kvs)) := same_new (t5.hs.cell _ (List.mem_of_getElem? hj)).1
  exact q _ _ _ ((t.trans tp).trans tq) ⟨p, v1, v2, v3, v4, v5, rfl, by rw [upd_same, hkv], (L X.K _).mono (t2.up.trans (t3.up.trans (t4.up.trans (t5.up.trans u5)))) p1, (D X.K _).mono (t3.up.trans (t4.up.trans (t5.up.trans u5))) p2, (D X.K _).mono (t4.up.trans (t5.up.trans u5)) p3, (D X.K _).mono (t5.up.trans u5) p4, (D X.K _).mono u5 p5⟩
end
end Bl
set_option Elab.async false
set_option linter.all false
set_option maxRecDepth 100000
set_option maxHeartbeats 2000000
/-! _law_case -/
namespace Bl
open PySem PySem.Spec PyProof.Rows L2
structure CdGood (cd : CaseD) : Prop where
  ok : CdOk cd
  pl : ∀ p ∈ cd.ps, placeOk p
  cp : copiesOk cd.ps cd.cs
theorem un_no : ¬ wordOk upS sUn := fun h => by
  have : ¬ ((63 : Nat) ∈ upS.cps.toList) := by decide +kernel
  exact this (h.2.2 63 (by decide +kernel))
theorem fits_mem {ps : List (List Str)} {row : List Str} (h : rowFits ps row) {m : Str} (hm : m ∈ row) : ∃ p ∈ ps, m ∈ p := by
  obtain ⟨i, hi⟩ := List.getElem?_of_mem hm
  have hl : i < ps.length := by rw [← h.1]; exact (List.getElem?_eq_some_iff.mp hi).1
  exact ⟨ps[i], List.getElem_mem hl, h.2 (m, ps[i]) (List.mem_of_getElem? (i := i) (by rw [List.getElem?_zip_eq_some]; exact ⟨hi, List.getElem?_eq_getElem hl⟩))⟩
theorem cd_good {hs : List Str} {ps : List (List Str)} {cs : Copies} {fs : List Find} {m : Nat} (h1 : BM.Asc sLt hs) (h2 : hs.length ≤ 5) (h3 : ∀ h ∈ hs, wordOk lowS h) (h4 : ps.length ≤ 4) (h5 : ∀ p ∈ ps, placeOk p) (h6 : holders cs = hs) (h7 : ∀ c ∈ cs, rowFits ps c.2) (h8 : fs.length ≤ 3)
    (h9 : ∀ f ∈ fs, (f.1 = sPick ∨ f.1 = sSmear ∨ f.1 = sFree) ∧ f.2.length = ps.length) : CdGood ⟨hs, ps, cs, fs, m⟩ := by
  subst h6
  have hcl : cs.length ≤ 5 := by unfold holders at h2; rwa [List.length_map] at h2
  have hw : ∀ c ∈ cs, wordOk lowS c.1 := fun c hc => h3 c.1 (List.mem_map_of_mem hc)
  refine ⟨⟨⟨h1, hcl, h8, fun f hf => ⟨by rw [(h9 f hf).2]; exact h4, fun c hc => by rw [(h9 f hf).2, (h7 c hc).1]; exact Nat.le_refl _⟩⟩, rfl, fun c hc x hx => ?_, fun f hf => (h9 f hf).1, fun h hh => Nat.le_trans (h3 h hh).2.1 (by decide)⟩, h5, fun c hc => ⟨hw c hc, h7 c hc⟩, h1⟩
  intro z
  subst z
  obtain ⟨p, hp, hm⟩ := fits_mem (h7 c hc) hx
  exact un_no ((h5 p hp).2.1 _ hm)
section
variable {P : Program} {w : World} {K : PySem.W.Frag} {mg : Str → Option Value} {base : Heap} {C : Addr}
abbrev N_ca : List Str := ["_law_deck_here", "_law_size", "_law_width", "_law_people_here", "_law_spots_here", "_law_copies_here", "_law_blends", "_law_k", "_law_manner", "_law_bound"]
theorem sc_ca : FnScope N_ca ["_law_deck_here", "_law_size", "_law_width"] (defScope (top 77)) := ⟨rfl, rfl, rfl, by decide +kernel, rfl, by decide +kernel, by decide +kernel⟩
def kindsL : List Str := [sPick, sPick, sSmear, sFree]
def timesL : List Int := [1, 1, 1, 2, 3, 0]
def pm_ca (K : PySem.W.Frag) : Prm := fun rs Δ r Δ' => ∃ (dp pl : Addr) (n : Nat), n < 2 ^ 38 ∧ rs = [VV (.ref dp), D K (.int 5), D K (.int 4)] ∧ Δ = dkD K dp pl n ∧ r = SV.ex CdGood (CaseV K) ∧ Δ' = dkD K dp pl (n + 300)
theorem ok_ca (T : Tx K mg) : Ok P w K mg base 4 "_law_case" ["_law_deck_here", "_law_size", "_law_width"] (pm_ca K) :=
  ok_of T.d__law_case sc_ca (fun _ _ _ _ _ _ us hl => match us, hl with | [_, _, _], _ => rfl) (fun rs Δ r Δ' ⟨_, _, _, _, e, _⟩ => by rw [e]; rfl) fun f cdv A outer s H E rs Δ r Δ' hr hp => by
    obtain ⟨dp, pl, n, hn, rfl, rfl, rfl, rfl⟩ := hp
    refine jss_setE (i := 3) (r := SV.ex (fun hs : List Str => BM.Asc sLt hs ∧ hs.length ≤ 5 ∧ ∀ h ∈ hs, wordOk lowS h) (fun hs => L K (hs.map .str))) (je_call2x (Δ0 := dkD K dp pl (n + 1)) (Δr := []) (Δ0' := dkD K dp pl (n + 3)) (ok_pl T) (hr.mono (by decide)) (ja_cons (je_var 0) (ja_cons (je_call (Δ0 := dkD K dp pl n) (Δr := []) (Δ0' := dkD K dp pl (n + 1)) (ok_dw T) (hr.mono (by decide)) (ja_cons (je_var 0) (ja_cons (je_add (je_var 1) je_int) ja_nil)) ⟨dp, pl, n, 6, by omega, by omega, by omega, rfl, rfl, rfl, rfl⟩) ja_nil))
      fun i hi => ⟨namesR K i, dkD K dp pl (n + 3), ⟨dp, pl, n + 1, i, by have : i < 6 := hi; omega, by omega, rfl, rfl, rfl, rfl⟩, fun v G ⟨hs, ⟨a, b, c⟩, p⟩ => ⟨hs, ⟨a, by have : i < 6 := hi; omega, c⟩, p⟩, CLe.refl _⟩) sc_ca.nd ?_
    refine jss_bind (i := 3) rfl fun hs ⟨a1, a2, a3⟩ => ?_
    refine jss_setE (i := 4) (r := SV.ex (fun ps : List (List Str) => ps.length ≤ 4 ∧ ∀ p ∈ ps, placeOk p ∧ p.length ≤ 4) (fun ps => D K (eR ps))) (je_call2x (Δ0 := dkD K dp pl (n + 4)) (Δr := []) (Δ0' := dkD K dp pl (n + 12)) (ok_sp T) hr (ja_cons (je_var 0) (ja_cons (je_call (Δ0 := dkD K dp pl (n + 3)) (Δr := []) (Δ0' := dkD K dp pl (n + 4)) (ok_dw T) (hr.mono (by decide)) (ja_cons (je_var 0) (ja_cons (je_add (je_var 2) je_int) ja_nil)) ⟨dp, pl, n + 3, 5, by omega, by omega, by omega, rfl, rfl, rfl, rfl⟩) ja_nil))
      fun i hi => ⟨spotsR K i, dkD K dp pl (n + 4 + 2 * i), ⟨dp, pl, n + 4, i, by have : i < 5 := hi; omega, by omega, rfl, rfl, rfl, rfl⟩, fun v G ⟨ps, ⟨b, c⟩, p⟩ => ⟨ps, ⟨by have : i < 5 := hi; omega, c⟩, p⟩, dkD_le (Δr := []) (by have : i < 5 := hi; omega)⟩) sc_ca.nd ?_
    refine jss_bind (i := 4) rfl fun ps ⟨b1, b2⟩ => ?_
    refine jss_par (i := 5) (j := 6) (je_call (Δ0 := dkD K dp pl (n + 12)) (Δr := []) (Δ0' := dkD K dp pl (n + 72)) (ok_cp T) hr (ja_cons (je_var 0) (ja_cons (je_var 3) (ja_cons (je_var 4) ja_nil))) ⟨dp, pl, n + 12, hs, ps, a2, b1, fun p hp => ⟨(b2 p hp).1.1, (b2 p hp).2⟩, by omega, rfl, rfl, rfl, rfl⟩) (jx_newl (ds := []) ja_nil) ?_ rfl sc_ca.nd rfl rfl (by decide)
    rintro r1 Δ1 ⟨p, rfl, rfl⟩
    refine jss_bind (i := 5) rfl fun cs ⟨c1, c2⟩ => ?_
    have hcs5 : cs.length ≤ 5 := by
      have := congrArg List.length c1
      unfold holders at this
      rw [List.length_map] at this
      omega
    refine jss_forX (js := [7]) (Δ1 := dkD K dp pl (n + 73) ++ [(p, LC K ([] : List PyData))]) PassesOwn.never rfl (ji_rng1x (C := fun i => i ∈ timesL) T.f_range ((je_call (Δ0 := dkD K dp pl (n + 72)) (Δr := [(p, LC K ([] : List PyData))]) (Δ0' := dkD K dp pl (n + 73)) (ok_pk T) (hr.mono (by decide)) (ja_cons (je_var 0) (ja_cons (je_lst (ds := timesL.map .int) (ja_cons je_int (ja_cons je_int (ja_cons je_int (ja_cons je_int (ja_cons je_int (ja_cons je_int ja_nil))))))) ja_nil))
        ⟨dp, pl, n + 72, timesL.map .int, by decide, by decide, by omega, rfl, .inl ⟨false, rfl, rfl, rfl⟩⟩).to fun v G ⟨d, hd, pv⟩ => by
          obtain ⟨x, hx, rfl⟩ := List.mem_map.mp hd
          exact ⟨x, hx, pv⟩) (by decide)) (pg_name (i := 7) sc_ca.nd rfl (Or.inl rfl))
      (fun vs i Δ Γ => ∃ fs : List Find, fs.length = i ∧ (∀ f ∈ fs, (f.1 = sPick ∨ f.1 = sSmear ∨ f.1 = sFree) ∧ f.2.length = ps.length) ∧ Δ = dkD K dp pl (n + 73 + 21 * i) ++ [(p, LC K (fs.map eF))] ∧ Γ = [some (VV (.ref dp)), some (D K (.int 5)), some (D K (.int 4)), some (L K (hs.map .str)), some (D K (eR ps)), some (D K (eCs cs)), some (VV (.ref p)), none, none, none]) (fun vs _ => ⟨[], rfl, fun f hf => (by cases hf), rfl, rfl⟩) (fun vs hF i r Δ Γ hr' hI => ?_) fun vs hF Δ Γ hI => ?_
    · obtain ⟨fs, hfs, f2, rfl, rfl⟩ := hI
      obtain ⟨nn, hnn, rfl⟩ := hF
      obtain ⟨k, hk, rfl⟩ := at_map hr'
      obtain ⟨hlt, e⟩ := List.getElem?_eq_some_iff.mp hk
      rw [List.length_range] at hlt
      rw [List.getElem_range] at e
      subst e
      have hn3 : nn ≤ 3 := by
        have : ∀ x ∈ timesL, x ≤ 3 := by decide
        have := this _ hnn
        omega
      refine ⟨_, tg_name 7, ?_⟩
      refine jss_setE (i := 8) (r := oneR K (kindsL.map .str)) (je_call (Δ0 := dkD K dp pl (n + 73 + 21 * i)) (Δr := [(p, LC K (fs.map eF))]) (Δ0' := dkD K dp pl (n + 74 + 21 * i)) (ok_pk T) (hr.mono (by decide)) (ja_cons (je_var 0) (ja_cons (je_lst (ds := kindsL.map .str) (ja_cons je_str (ja_cons je_str (ja_cons je_str (ja_cons je_str ja_nil))))) ja_nil))
        ⟨dp, pl, n + 73 + 21 * i, kindsL.map .str, by decide, by decide, by omega, rfl, .inl ⟨false, rfl, rfl, by rw [show n + 74 + 21 * i = n + 73 + 21 * i + 1 by omega]; rfl⟩⟩) sc_ca.nd ?_
      refine jss_bind (i := 8) rfl fun d hd => ?_
      obtain ⟨kind, hkind, rfl⟩ := List.mem_map.mp hd
      have hkind : kind = sPick ∨ kind = sSmear ∨ kind = sFree := by
        simp only [kindsL, List.mem_cons, List.not_mem_nil, or_false] at hkind
        rcases hkind with h | h | h | h
        · exact .inl h
        · exact .inl h
        · exact .inr (.inl h)
        · exact .inr (.inr h)
      refine jss_expr (jx_app (Δ1 := dkD K dp pl (n + 94 + 21 * i) ++ [(p, LC K (fs.map eF))]) (C := fun d => ∃ d2, (∃ es : List (Option Str), es.length = ps.length ∧ d2 = .tuple (es.map eO)) ∧ d = .tuple [.str kind, d2]) (i := 0) (j := 2) (j0 := 2) (p := p) (ds0 := fs.map eF) (ds := fs.map eF) (je_var 6) rfl
        (je_tupX (je_var 8) ((je_call (Δ0 := dkD K dp pl (n + 74 + 21 * i)) (Δr := [(p, LC K (fs.map eF))]) (Δ0' := dkD K dp pl (n + 94 + 21 * i)) (ok_mx T) hr (ja_cons (je_var 0) (ja_cons (je_var 4) (ja_cons (je_var 5) (ja_cons (je_var 8) ja_nil))))
          ⟨dp, pl, n + 74 + 21 * i, ps, cs, kind, hcs5, b1, fun c hc => (c2 c hc).1, fun p hp => (b2 p hp).2, by omega, rfl, rfl, rfl, by rw [show n + 94 + 21 * i = n + 74 + 21 * i + 20 by omega]; rfl⟩).to fun v G ⟨es, he, pv⟩ => ⟨_, ⟨es, he, rfl⟩, pv⟩)) rfl (by rw [List.length_map, sizeLine_eq]; omega)) ?_
      rintro r2 Δ2 ⟨d, ⟨d2, ⟨es, he, rfl⟩, rfl⟩, rfl, rfl⟩
      refine jss_nil ⟨[_, _, _, _, _, _, _, none, none, none], .keep (.keep (.keep (.keep (.keep (.keep (.keep (.drop (.drop (.drop .nil))))))))), fs ++ [(kind, es)], by simp [hfs], fun f hf => ?_, ?_, rfl⟩
      · rcases List.mem_append.mp hf with z | z
        · exact f2 f z
        · obtain rfl : f = (kind, es) := by simpa using z
          exact ⟨hkind, he⟩
      · rw [List.map_append, show n + 73 + 21 * (i + 1) = n + 94 + 21 * i by omega]
        rfl
    · obtain ⟨fs, hfs, f2, rfl, rfl⟩ := hI
      obtain ⟨nn, hnn, rfl⟩ := hF
      rw [List.length_map, List.length_range] at hfs ⊢
      have hn3 : nn ≤ 3 := by
        have : ∀ x ∈ timesL, x ≤ 3 := by decide
        have := this _ hnn
        omega
      refine jss_pub (p := p) 6 2 rfl rfl ?_
      refine JSs.ce (Δ1 := dkD K dp pl (n + 299)) ?_ (dkD_le (Δr := []) (by omega))
      refine jss_setE (i := 9) (r := oneR K [.int 1, .int 2, .int 2, .int 3, .int ((hs.length : Int) + 1), .int 99]) (je_call (Δ0 := dkD K dp pl (n + 299)) (Δr := []) (Δ0' := dkD K dp pl (n + 300)) (ok_pk T) (hr.mono (by decide)) (ja_cons (je_var 0) (ja_cons (je_lst (ds := [.int 1, .int 2, .int 2, .int 3, .int ((hs.length : Int) + 1), .int 99]) (ja_cons je_int (ja_cons je_int (ja_cons je_int (ja_cons je_int (ja_cons ((je_add (je_lenL T.f_len (je_var 3)) je_int).eq (by rw [List.length_map])) (ja_cons je_int ja_nil))))))) ja_nil))
        ⟨dp, pl, n + 299, [.int 1, .int 2, .int 2, .int 3, .int ((hs.length : Int) + 1), .int 99], by show 0 < 6; decide, by show 6 < 1000; decide, by omega, rfl, .inl ⟨false, rfl, rfl, rfl⟩⟩) sc_ca.nd ?_
      refine jss_bind (i := 9) rfl fun d hd => ?_
      obtain ⟨m, rfl⟩ : ∃ m : Nat, d = .int m := by
        simp only [List.mem_cons, List.not_mem_nil, or_false] at hd
        rcases hd with rfl | rfl | rfl | rfl | rfl | rfl
        · exact ⟨1, rfl⟩
        · exact ⟨2, rfl⟩
        · exact ⟨2, rfl⟩
        · exact ⟨3, rfl⟩
        · exact ⟨hs.length + 1, rfl⟩
        · exact ⟨99, rfl⟩
      exact jss_ret (je_case (cd := ⟨hs, ps, cs, fs, m⟩) (fun p => je_var 3) (fun p => je_var 4) (fun p => je_var 5) (fun p => je_tupleL (ds := fs.map eF) T.f_tuple (je_var 6)) (fun p => je_var 9)) ⟨rfl, fun v G pv => ⟨⟨hs, ps, cs, fs, m⟩, cd_good a1 a2 a3 b1 (fun p hp => (b2 p hp).1) c1 c2 (by omega) f2, pv⟩⟩
end
end Bl
set_option Elab.async false
set_option linter.all false
set_option maxRecDepth 100000
set_option maxHeartbeats 2000000
/-! _law_deck -/
namespace Bl
open PySem PySem.Spec PyProof.Rows L2
/-! ### a def that gives new cells -/
abbrev PrmE := List SV → Cs → (SV → Cs → Prop) → Prop
def spE (Pre : PrmE) : Sp := fun vs H Q E => ∃ G rs Δ O, Pre rs Δ O ∧ Hs Δ G H ∧ PR G vs rs ∧ ∀ v G' H' r Δ', O r Δ' → Tr Δ G H Δ' G' H' → r.P v G' → Q v H'
structure OkE (P : Program) (w : World) (K : PySem.W.Frag) (mg : Str → Option Value) (base : Heap) (k : Nat) (x : Str) (ps : List Str) (Pre : PrmE) : Prop where
  ex : ∃ f fd, FnOk P w K mg base CX0 k f fd ps (spE Pre) ∧ mg x = some (.ref f) ∧ PySem.W.keepIn K (.ref f) = true ∧ Binds K fd ps []
def fnE (Oe : SV → Cs → Prop) : En → Prop
  | .rt Δ r => Oe r Δ
  | _ => False
section
variable {P : Program} {w : World} {K : PySem.W.Frag} {mg : Str → Option Value} {base : Heap}
theorem oke_of {x : Str} {i : Nat} {N ps : List Str} {k : Nat} {Pre : PrmE} (d : DefAt K mg x i) (S : FnScope N ps (defScope (top i)))
    (hbind : ∀ (kV doc pm : Value) (an : Option Addr) (cdv ct : Value) (us : List Value), us.length = ps.length → bindArgs (PySem.W.fnOf x x (defArgs (top i)) (defBody (top i)) (defScope (top i)) .none kV doc pm an cdv ct) ⟨us, []⟩ = pure (ps.zip us))
    (hlen : ∀ rs Δ O, Pre rs Δ O → rs.length = ps.length)
    (hb : ∀ (f : Addr) (cdv : Value) (A : Around) (outer : List Env) (s : Shared) (H : Hp) (E : XK) (rs : List SV) (Δ : Cs) (O : SV → Cs → Prop), Room k (A.deeper (envOfC x (defScope (top i)) s.heap.objs.size f cdv)) → Pre rs Δ O →
      JSs (cxN P w K mg base N x i f cdv A outer s H E) Δ (start0 N rs) (defBody (top i)) (fnE O)) : OkE P w K mg base (k + 1) x ps Pre := by
  obtain ⟨f, fd, F, hm⟩ := d
  refine ⟨f, fd, F.ok S (fun vs H Q E ⟨G, rs, Δ, O, hp, _, pr, _⟩ => by rw [Paired.length pr]; exact hlen rs Δ O hp) fun cdv A outer s H vs Q E hr ⟨G, rs, Δ, O, hp, hs, pr, q⟩ =>
    ⟨_, (hb f cdv A outer s H E rs Δ O hr hp).use.nox, G, hs, sl_start pr, ⟨fun _ _ _ _ _ o => o.elim, fun v G' H' Δ2 r2 o t p => q v G' H' r2 Δ2 o t p, fun _ _ _ _ _ o => o.elim, fun _ _ _ _ _ o => o.elim⟩⟩, hm, F.kp, F.bindsN hbind⟩
end
section
variable {X : Cx} {e e1 e2 e3 a b c o tg iter elt : Expr} {es : List Expr} {Γ Γ' : Gm} {Δ Δ0 Δ0' Δr Δ1 Δ2 Δ3 Δ' : Cs} {r r1 r2 : SV} {rs : List SV} {pos p' p2 : Pos} {p : Addr} {O : En → Prop} {rest body sts : List Stmt} {ds : List PyData}
theorem jx_callE {k : Nat} {x : Str} {ps : List Str} {Pre : PrmE} {p : Pos} {Oe : SV → Cs → Prop} (h : OkE X.prog X.w X.K X.mg X.base k x ps Pre) (hr : Room k X.A) (ha : JA X Δ Γ (e :: es) rs (Δ0 ++ Δr)) (hp : Pre rs Δ0 Oe) (hg : Gl X x := by rfl) (hdb : (x == ("__debug__" : Str)) = false := by decide) (he : starEach (e :: es) X.env = (false, eval e X.env) :: starEach es X.env := by rfl) (hpl : (backTo pos (starEach es X.env)).any (·.1) = false := by rfl) :
    JX X Δ Γ (.Call (.Name x p) (e :: es) [] pos) (fun r Δ2 => ∃ Δ0', Oe r Δ0' ∧ Δ2 = Δ0' ++ Δr) := by
  obtain ⟨f, fd, F, hm, hk, hb⟩ := h
  refine jx_of (pe_call F hr hg hm hk hb .nil pass0 ha.use hdb he hpl) fun σ G H Q hs sl q => ⟨G, hs, sl, fun vs G1 H1 t ps => ?_⟩
  show spE Pre (vs ++ []) H1 Q E0
  rw [List.append_nil]
  have hs0 : Hs Δ0 G1 H1 := ⟨t.hs.sub, fun q hq => t.hs.cell q (List.mem_append_left _ hq), by have := t.hs.nd; unfold dom at this ⊢; rw [List.map_append, List.nodup_append] at this; exact this.1⟩
  exact ⟨G1, rs, Δ0, Oe, hp, hs0, ps, fun v G' H' r Δ0' o t' pv => q v G' H' _ r ⟨Δ0', o, rfl⟩ (t.trans (t'.frame t.hs)) pv⟩
/-- list(l) -/
theorem je_listLD (hm : X.mg "list" = none) (ha : JE X Δ Γ e (L X.K ds) Δ1) (hg : Gl X "list" := by rfl) (he : starEach (e :: []) X.env = (false, eval e X.env) :: starEach [] X.env := by rfl) : JE X Δ Γ (.Call (.Name "list" p') [e] [] pos) (L X.K ds) Δ1 :=
  je_callTy call_list_of hm boot_listT (ja_cons ha ja_nil he) (fun xs G H Q sg ps q => by
    obtain ⟨u, rfl, a, ys, rfl, h, h2, h3⟩ := paired1 ps
    exact ⟨a, ys, rfl, .inl (SqL.of (sg _ _ h)), fun l hl => q _ _ _ (Up.new sg hl) (new_lst (none_of_sub sg hl) h2 h3)⟩) hg (he := he)
theorem dps_rev {K : PySem.W.Frag} {H : Hp} : ∀ {xs : List V} {ds : List PyData}, DpAll K H xs ds → DpAll K H xs.reverse ds.reverse
  | _, _, .nil => .nil
  | _, _, .cons h t => by rw [List.reverse_cons, List.reverse_cons]; exact dps_snoc (dps_rev t) h
/-- {'cells': l[::-1], 'mixed': m, 'draws': 0}: the deck -/
theorem jx_deck {ns : List Int} {m : Int} {k1 k2 k3 k4 : Nat} {q1 q2 q3 q4 q5 q6 : Pos} (hns : ns.length ≤ 63) (h1 : ∀ Δ, JE X Δ Γ e1 (L X.K (ns.map .int)) Δ) (h2 : ∀ Δ, JE X Δ Γ e2 (D X.K (.int m)) Δ) (h3 : ∀ Δ, JE X Δ Γ e3 (D X.K (.int 0)) Δ) :
    JX X [] Γ (.Dict [some (.Constant (.str "cells") k1 q1), some (.Constant (.str "mixed") k2 q2), some (.Constant (.str "draws") k3 q3)] [.Subscript e1 (.Slice none none (some (.UnaryOp .USub (.Constant (.int 1) k4 q4) q5)) q6) p2, e2, e3] pos) (fun r Δ2 => ∃ dp pl, r = VV (.ref dp) ∧ Δ2 = dkD X.K dp pl 0) := by
  have U : ∀ {e : Expr} {r : SV}, (∀ Δ, JE X Δ Γ e r Δ) → PE X e (fun σ H Q => ∃ Δ, tJ Δ Γ r Δ σ H Q) := fun h => ⟨fun pins s σ H Q I ⟨Δ, q⟩ => (h Δ).use.run pins s σ H Q I q⟩
  refine jx_of (pe_disp (pps_cons pe_str (pe_revL (U h1)) (pps_cons pe_str (U h2) (pps_cons pe_str (U h3) pps_nil))) rfl rfl (by simp) (by simp)) fun σ G H Q hs sl q => fun p hp => ?_
  have t0 : Tr [] G H [(p, KC [])] G (upd H p (.dK [])) := Tr.cell (Δ := []) hs hp rfl
  refine ⟨[(p, KC [])], G, t0.hs, sl.mono t0.up, fun v1 G1 H1 t1 p1 => ?_⟩
  obtain ⟨a, xs, rfl, e1, hd, ok⟩ := p1
  refine ⟨a, xs, rfl, SqL.of (t1.hs.sub _ _ e1), fun pl hpl => ?_⟩
  have tc := Tr.cell (C := LC X.K ((ns.map PyData.int).reverse)) t1.hs hpl (o := .lst xs.reverse) ⟨_, rfl, dps_rev hd, fun d hd => ok d (List.mem_reverse.mp hd)⟩
  refine ⟨_, G1, tc.hs, sl.mono ((t0.trans t1).trans tc).up, fun v2 G2 H2 t2 p2 => ⟨_, G2, t2.hs, sl.mono (((t0.trans t1).trans tc).trans t2).up, fun v3 G3 H3 t3 p3 => ?_⟩⟩
  cases p2.1
  cases p3.1
  refine ⟨sl_kc t3.hs (j := 0) rfl, [(.inr "cells", .ref pl), (.inr "mixed", .int m), (.inr "draws", .int 0)], rfl, by simp, ?_⟩
  have kk : mergeK [] [((.inr "cells" : Key), V.ref pl), (.inr "mixed", .int m), (.inr "draws", .int 0)] = kvD pl m 0 := rfl
  rw [kk]
  have tp := Tr.put (C' := KC (kvD pl m 0)) t3.hs (j := 0) (p := p) rfl (o := .dK (kvD pl m 0)) rfl
  have l : CLe [(p, KC (kvD pl m 0)), (pl, LC X.K ((ns.map PyData.int).reverse))] (dkD X.K p pl 0) := .cons (fun _ _ e => ⟨m, 0, e, by omega, by omega⟩) (.cons (fun _ _ e => ⟨ns.reverse, by rw [List.length_reverse]; exact hns, by rw [List.map_reverse]; exact e⟩) .nil)
  exact q _ G3 _ _ _ ⟨p, pl, rfl, rfl⟩ (l.tr (((((t0.trans t1).trans tc).trans t2).trans t3).trans tp)) rfl
end
section
variable {P : Program} {w : World} {K : PySem.W.Frag} {mg : Str → Option Value} {base : Heap}
theorem cut_all {ds : List PyData} (h : ds.length ≤ 63) : cutD ds none (some 63) = ds := by
  have e : HT.sIx ds.length ds.length (some 63) = ds.length := by
    rw [show (some (63 : Int)) = some ((63 : Nat) : Int) from rfl, HT.sIx_nat]
    omega
  unfold cutD
  rw [e, HT.sIx_none, Nat.sub_zero, List.drop_zero, List.take_length]
abbrev N_dk : List Str := ["_law_script", "_law_cells", "_law_mixed_here", "_law_cell"]
theorem sc_dk : FnScope N_dk ["_law_script"] (defScope (top 69)) := ⟨rfl, rfl, rfl, by decide +kernel, rfl, by decide +kernel, by decide +kernel⟩
def pm_dk (K : PySem.W.Frag) : PrmE := fun rs Δ O => ∃ ns : List Int, ns.length ≤ 63 ∧ rs = [D K (.list (ns.map .int))] ∧ Δ = [] ∧ O = fun r Δ2 => ∃ dp pl, r = VV (.ref dp) ∧ Δ2 = dkD K dp pl 0
theorem ok_dk (T : Tx K mg) : OkE P w K mg base 1 "_law_deck" ["_law_script"] (pm_dk K) :=
  oke_of T.d__law_deck sc_dk (fun _ _ _ _ _ _ us hl => match us, hl with | [_], _ => rfl) (fun rs Δ O ⟨_, _, e, _⟩ => by rw [e]; rfl) fun f cdv A outer s H E rs Δ O hr hp => by
    obtain ⟨ns, hns, rfl, rfl, rfl⟩ := hp
    refine jss_par (i := 1) (j := 2) (ra := L K (ns.map .int)) (je_listLD T.f_list (je_slDx (ds := ns.map .int) (je_var 0) jo_none (jo_some (je_int (i := 63))) fun i j e1 e2 v G pv => ?_)) (je_int (i := 70013)).x ?_ rfl sc_dk.nd rfl rfl (by decide)
    · subst e1 e2
      rwa [cut_all (by rw [List.length_map]; exact hns)] at pv
    rintro r1 Δ1 ⟨rfl, rfl⟩
    refine jss_for (js := [3]) PassesOwn.never rfl (ji_Le (l := ns) (enc := PyData.int) (je_var 1)) (pg_name (i := 3) sc_dk.nd rfl (Or.inl rfl))
      (fun i Δ Γ => ∃ m : Int, Δ = [] ∧ Γ = [some (D K (.list (ns.map .int))), some (L K (ns.map .int)), some (D K (.int m)), none]) ⟨_, rfl, rfl⟩ (fun i r Δ Γ hr' hI => ?_) fun Δ Γ hI => ?_
    · obtain ⟨m, rfl, rfl⟩ := hI
      obtain ⟨c, hc, rfl⟩ := at_map hr'
      refine ⟨_, tg_name 3, ?_⟩
      exact jss_setE (i := 2) (je_mod (by decide) (je_add (je_add (je_mul (Or.inr ⟨by decide, by decide⟩) (je_var 2) je_int) (je_mod (by decide) (je_var 3) je_int)) je_int) je_int) sc_dk.nd (jss_nil ⟨[_, _, _, none], .keep (.keep (.keep (.drop .nil))), _, rfl, rfl⟩)
    · obtain ⟨m, rfl, rfl⟩ := hI
      exact jss_retX (jx_deck hns (fun Δ => je_var 1) (fun Δ => je_var 2) (fun Δ => je_int)) fun r Δ1 h => h
end
end Bl
set_option Elab.async false
set_option linter.all false
set_option maxRecDepth 100000
set_option maxHeartbeats 2000000
/-! law -/
namespace Bl
open PySem PySem.Spec PyProof.Rows L2
section
variable {X : Cx} {e a b : Expr} {Γ : Gm} {Δ Δ1 Δ2 Δa Δb : Cs} {r : SV} {pos : Pos}
theorem hs_perm {G H : Hp} (p : Δ.Perm Δ1) (h : Hs Δ G H) : Hs Δ1 G H := ⟨h.sub, fun q hq => h.cell q (p.mem_iff.mpr hq), (p.map Prod.fst).nodup_iff.mp h.nd⟩
theorem tr_perm {G H G' H' : Hp} (p : Δ.Perm Δa) (q : Δb.Perm Δ1) (t : Tr Δa G H Δb G' H') : Tr Δ G H Δ1 G' H' :=
  ⟨hs_perm q t.hs, t.up, fun a u ha => t.fr a u fun z => ha ((p.map Prod.fst).mem_iff.mpr z), fun a ha => (t.nw a ((q.map Prod.fst).mem_iff.mpr ha)).imp (p.map Prod.fst).mem_iff.mpr id⟩
theorem JE.perm (h : JE X Δa Γ e r Δb) (p : Δ.Perm Δa) (q : Δb.Perm Δ1) : JE X Δ Γ e r Δ1 := je_of h.use fun σ G H Q hs sl k => ⟨G, hs_perm p hs, sl, fun v G1 H1 t pv => k v G1 H1 (tr_perm p q t) pv⟩
theorem jb_neBl {x y : Bool} (ha : JE X Δ Γ a (D X.K (.bool x)) Δ1) (hb : JE X Δ1 Γ b (D X.K (.bool y)) Δ2) (hm : behindInMarks .NotEq b = false := by first | exact nomark _ | rfl | with_unfolding_all rfl) : JB X Δ Γ (.Compare a [.NotEq] [b] pos) (dB (!decide (x = y)) Δ2) := jb_cmp op_ne ha hb (fun u v G H Q sg p1 p2 q => by
  cases p1.1
  cases p2.1
  refine ⟨rfl, ?_⟩
  have e : decide (V.bl x = V.bl y) = decide (x = y) := by simp
  rw [e]
  exact q _ G H (Up.refl sg) (d_bl _)) hm
/-- a tuple of three values -/
def T3 (r1 r2 r3 : SV) : SV := ⟨fun v H => ∃ a x y z, v = .ref a ∧ H a = some (.tup [x, y, z]) ∧ r1.P x H ∧ r2.P y H ∧ r3.P z H, fun e ⟨a, x, y, z, h1, h2, h3, h4, h5⟩ => ⟨a, x, y, z, h1, e _ _ h2, r1.mono e h3, r2.mono e h4, r3.mono e h5⟩⟩
theorem je_tup3 {e1 e2 e3 : Expr} {r1 r2 r3 : SV} {k : Nat} (h : JA X Δ Γ [e1, e2, e3] [r1, r2, r3] Δ1) : JE X Δ Γ (.Tuple [e1, e2, e3] k pos) (T3 r1 r2 r3) Δ1 :=
  je_of (pe_tup h.use) fun σ G H Q hs sl q => ⟨G, hs, sl, fun vs G1 H1 t ps => by
    cases ps with
    | @cons x r0 vs0 rs0 p1 ps =>
      obtain ⟨y, z, rfl, p2, p3⟩ := paired2 ps
      refine ⟨by rw [sizeLine_eq]; show 3 ≤ _; decide, fun p hp => ?_⟩
      have u : Same G1 (upd G1 p (.tup [x, y, z])) := same_new (none_of_sub t.hs.sub hp)
      exact q _ _ _ (t.trans ((Up.new t.hs.sub hp).up0 t.hs)) ⟨p, x, y, z, rfl, upd_same, r1.mono u p1, r2.mono u p2, r3.mono u p3⟩⟩
theorem tg_tri {K : PySem.W.Frag} {r1 r2 r3 : SV} (i j l : Nat) : TgOk (gTup K 3 (gCons (gName i) (gCons (gName j) (gCons (gName l) gNil)))) [i, j, l] (T3 r1 r2 r3) Γ (((Γ.set i (some r1)).set j (some r2)).set l (some r3)) := fun v σ G H Q sg p sl q => by
  obtain ⟨a, x, y, z, rfl, h, p1, p2, p3⟩ := p
  refine ⟨a, _, rfl, SqT.of (sg _ _ h), rfl, _, _, rfl, _, _, rfl, _, _, rfl, rfl, ?_⟩
  refine q _ (((sl.set p1).set p2).set p3) fun vs hv => ?_
  rw [wipe_set (hv l (by simp)), wipe_set (hv j (by simp)), wipe_set (hv i (by simp))]
end
section
variable {P : Program} {w : World} {K : PySem.W.Frag} {mg : Str → Option Value} {base : Heap} {C : Addr} {c Pt Cn Cb : Addr}
theorem sets_len {hs : List Str} (h : hs.length ≤ 5) : (BM.lawSets hs).length ≤ 32 := by
  have h2 := (sets_at hs [[]] 0 (by simp)).1
  have h3 : (BM.lawSets hs).length = 2 ^ hs.length * 1 := h2
  have h4 : 2 ^ hs.length ≤ 2 ^ 5 := Nat.pow_le_pow_right (by decide) h
  omega
theorem told_few {cd : CaseD} (h : CdOk cd) (most : Nat) : (BM.leastMeeting sLt (groupsOf cd.cs cd.fs most)).length ≤ 32 ∧ ∀ g ∈ BM.leastMeeting sLt (groupsOf cd.cs cd.fs most), g.length ≤ 5 ∧ ∀ x ∈ g, x.cps.size ≤ 63 := by
  have hg := groups_good (most := most) h.ok
  have hlen : (holders cd.cs).length ≤ 5 := by unfold holders; rw [List.length_map]; exact h.ok.few
  obtain ⟨f1, f2⟩ := berge_few h.ok.asc hlen (fun g hm => (hg g hm).2) (groupsOf cd.cs cd.fs most).length
  unfold bergeF at f1 f2
  rw [List.take_length] at f1 f2
  refine ⟨by unfold BM.leastMeeting; rw [BM.srt_len]; exact f1, fun g hgm => ⟨?_, fun x hx => h.sh x ?_⟩⟩
  · unfold BM.leastMeeting at hgm
    exact f2 g (BM.srt_mem.mp hgm)
  · rw [h.hs]
    have := (BM.told_mem so_sLt (hs := holders cd.cs) (fun g hm => (hg g hm).2) g).mp hgm
    exact this.sub x hx
abbrev N_la : List Str := ["_law_script", "_law_deck_here", "_law_turn", "_law_case_here", "_law_made", "_law_rows_here", "_law_sets_here", "_law_said", "_law_held", "_law_some", "_law_told", "_law_one", "_law_groups_here", "_law_is_common", "_law_group"]
theorem sc_la : FnScope N_la ["_law_script"] (defScope (top 88)) := ⟨rfl, rfl, rfl, by decide +kernel, rfl, by decide +kernel, by decide +kernel⟩
def laBody : List Stmt := match (defBody (top 88)).getD 1 (.Pass ⟨0, 0, 0, 0⟩) with
  | .For _ _ b _ _ => b
  | _ => []
theorem la_body (T : Tx K mg) (F : BkF K mg C) (TB : TbF K mg base c Pt) (N : NsF K mg Cn Cb) {fI : Addr} (M : Mk K C fI) (okI : OkM P w K mg base 5 fI ["self", "places", "copies"] (pm_init K C)) {f : Addr} {cdv : Value} {A : Around} {outer : List Env} {s : Shared} {H : Hp} {E : XK} (hr : Room 12 (A.deeper (envOfC "law" (defScope (top 88)) s.heap.objs.size f cdv))) (hgd : A.guards = some [])
    {dp pl : Addr} {n : Nat} {S0 r2 : SV} {O : En → Prop} (hn : n < 2 ^ 38) (hO : ∀ Γ2 : Gm, GLe Γ2 [some S0, some (VV (.ref dp)), none, none, none, none, none, none, none, none, none, none, none, none, none] → O (.nx (dkD K dp pl (n + 300) ++ [(Pt, TbC qLam)]) Γ2)) :
    JSs (cxN P w K mg base N_la "law" 88 f cdv A outer s H E) (dkD K dp pl n ++ [(Pt, TbC qLam)]) [some S0, some (VV (.ref dp)), some r2, none, none, none, none, none, none, none, none, none, none, none, none] laBody O := by
  refine jss_setE (i := 3) (je_call (Δ0 := dkD K dp pl n) (Δr := [(Pt, TbC qLam)]) (Δ0' := dkD K dp pl (n + 300)) (ok_ca T) (hr.mono (by decide)) (ja_cons (je_var 1) (ja_cons (je_int (i := 5)) (ja_cons (je_int (i := 4)) ja_nil))) ⟨dp, pl, n, hn, rfl, rfl, rfl, rfl⟩) sc_la.nd ?_
  refine jss_bind (i := 3) rfl fun cd good => ?_
  have hc := good.ok
  have hcs := hc.ok
  have hh5 : cd.hs.length ≤ 5 := by rw [hc.hs]; unfold holders; rw [List.length_map]; exact hcs.few
  have hasc : BM.Asc sLt cd.hs := by rw [hc.hs]; exact hcs.asc
  have hgg : ∀ g ∈ groupsOf cd.cs cd.fs cd.m, ∀ k ∈ g, k ∈ cd.hs := fun g hg => by rw [hc.hs]; exact (groups_good hcs g hg).2
  refine jss_asg (js := [4, 5, 6]) (g := gTup K 3 (gCons (gName 4) (gCons (gName 5) (gCons (gName 6) gNil)))) (je_tup3 (ja_cons (je_make (k := 5) M okI F.glo (hr.mono (by decide)) (ja_cons (je_cplaces (hu1 hr) (je_var 3)) (ja_cons (je_ccopies (hu1 hr) (je_var 3)) ja_nil)) good.pl good.cp)
    (ja_cons ((je_callP (ok_lr T) (hr.mono (by decide)) (ja_cons (je_var 3) ja_nil) ⟨cd, hcs, rfl, rfl⟩).leq (by rw [rows_eq hc]))
      (ja_cons (je_callP (ok_ls T) (hr.mono (by decide)) (ja_cons (je_people (hu1 hr) (je_var 3)) ja_nil) ⟨cd.hs, by omega, rfl, rfl⟩) ja_nil))))
    (pg_tup rfl (pgs_cons (pg_name (i := 4) sc_la.nd rfl (by first | exact Or.inl rfl | exact Or.inr rfl)) (pgs_cons (pg_name (i := 5) sc_la.nd rfl (by first | exact Or.inl rfl | exact Or.inr rfl)) (pgs_cons (pg_name (i := 6) sc_la.nd rfl (by first | exact Or.inl rfl | exact Or.inr rfl)) pgs_nil)))) (tg_tri 4 5 6) ?_
  generalize hΔ : dkD K dp pl (n + 300) ++ [(Pt, TbC qLam)] = Δ at hO ⊢
  refine jss_for (js := [7]) PassesOwn.never rfl (ji_Le (l := BM.lawSets cd.hs) (enc := eS) (je_var 6)) (pg_name (i := 7) sc_la.nd rfl (by first | exact Or.inl rfl | exact Or.inr rfl))
    (fun i Δ' Γ => Δ' = Δ ∧ Γ = [some S0, some (VV (.ref dp)), some r2, some (CaseV K cd), some (Bk K C cd.ps cd.cs), some (L K ((clauses cd.cs cd.fs).map eS)), some (L K ((BM.lawSets cd.hs).map eS)), none, none, none, none, none, none, none, none]) ⟨rfl, rfl⟩ (fun i r Δ' Γ hr' hI => ?_) fun Δ' Γ hI => ?_
  · obtain ⟨rfl, rfl⟩ := hI
    obtain ⟨S, hS, rfl⟩ := at_map hr'
    obtain ⟨hS1, hS2⟩ := (BM.sets_mem so_sLt hasc S).mp (List.mem_of_getElem? hS)
    refine ⟨_, tg_name 7, ?_⟩
    refine jss_if0 (Δ1 := Δ') (bb := false) ?_ (fun h => by cases h) fun _ => jss_nil ⟨[_, _, _, _, _, _, _, none, _, _, _, _, _, _, _], .keep (.keep (.keep (.keep (.keep (.keep (.keep (.drop (.keep (.keep (.keep (.keep (.keep (.keep (.keep .nil)))))))))))))), rfl, rfl⟩
    refine (jb_not (jb_val (JE.perm (Δa := [(Pt, TbC qLam)] ++ dkD K dp pl (n + 300)) (Δb := [(Pt, TbC qLam)] ++ dkD K dp pl (n + 300)) (je_callG (Δ0 := [(Pt, TbC qLam)]) (Δr := dkD K dp pl (n + 300)) (Δ0' := [(Pt, TbC qLam)]) (ok_sr T F TB N) hr hgd (ja_cons (je_var 4) (ja_cons (je_var 3) (ja_cons (je_var 5) (ja_cons (je_var 7) ja_nil))))
      ⟨cd.ps, cd, S, hc, hS1, by rw [← hc.hs]; exact hS2, rfl, rfl, rfl, rfl⟩) ?_ ?_))).eq rfl
    · rw [← hΔ]; exact List.perm_append_comm
    · rw [← hΔ]; exact List.perm_append_comm
  obtain ⟨rfl, rfl⟩ := hI
  have eh : (BM.lawSets cd.hs).filter (BM.isStmt (groupsOf cd.cs cd.fs cd.m)) = BM.held (groupsOf cd.cs cd.fs cd.m) (BM.lawSets cd.hs) := rfl
  refine jss_set (i := 8) (jas_flt (l := BM.lawSets cd.hs) (ra := fun t => D K (eS t)) (p := BM.isStmt (groupsOf cd.cs cd.fs cd.m)) (f := eS) (js := [9]) (own := [("_law_some", 9)]) rfl sc_la.nd (ji_Le (je_var 6)) (blkOk_by (N := N_la) (sc := defScope (top 88)) (by decide +kernel)) (fun _ _ _ _ _ => pg_name (i := 9) sc_la.nd rfl (by first | exact Or.inl rfl | exact Or.inr rfl)) (fun a _ => tg_name 9) (fun _ h => h)
    (fun t ht _ _ _ _ _ => jb_val (je_callK (ok_is T F (ok_lg T F)) (hr.mono (by decide)) (ja_cons (je_var 4) (ja_cons (je_blends (hu1 hr) (je_var 3)) (ja_cons (je_var 9) ja_nil))) (je_bound (hu1 hr) (je_var 3)) ⟨cd.ps, cd.cs, cd.fs, t, cd.m, hcs, ((BM.sets_mem so_sLt hasc t).mp ht).1, by rw [← hc.hs]; exact ((BM.sets_mem so_sLt hasc t).mp ht).2, rfl, rfl⟩)) (fun a _ _ _ _ _ _ _ => je_var 9) (sw_true rfl rfl rfl (by decide +kernel))) ?_
  rintro r1 Δ1 ⟨rfl, rfl⟩
  rw [eh]
  obtain ⟨tf1, tf2⟩ := told_few hc cd.m
  have htold := BM.told_eq so_sLt hasc hgg
  refine jss_setE (i := 10) (je_callK (ok_st T F) (hr.mono (by decide)) (ja_cons (je_var 4) (ja_cons (je_blends (hu1 hr) (je_var 3)) ja_nil)) (je_bound (hu1 hr) (je_var 3)) ⟨cd.ps, cd.cs, cd.fs, cd.m, hcs, rfl, rfl⟩) sc_la.nd ?_
  generalize hgs : groupsOf cd.cs cd.fs cd.m = gs at hgg tf1 tf2 htold ⊢
  have shw : Shw (eR (BM.leastMeeting sLt gs)) := shw_R (fun g hg => ⟨by have := (tf2 g hg).1; omega, (tf2 g hg).2⟩) (by omega)
  refine jss_if0 (Δ1 := Δ1) (bb := false) ?_ (fun h => by cases h) fun _ => ?_
  · refine (jb_neVV (je_repr hgd (hu65 hr) T.f_repr shw (je_var 10)) (je_repr (d := eR (BM.leastMeeting sLt gs)) hgd (hu65 hr) T.f_repr shw ?_)).eq (by simp)
    refine (je_tupleL (ds := (BM.srt cLt (BM.lawLeast (BM.held gs (BM.lawSets cd.hs)))).map eS) T.f_tuple (je_sortC (l := BM.lawLeast (BM.held gs (BM.lawSets cd.hs))) (hu4 hr) T.f_sorted (je_callP (ok_lleast T) (hr.mono (by decide)) (ja_cons (je_var 8) ja_nil) ⟨_, rfl, rfl⟩))).eq ?_
    rw [htold]
    rfl
  refine jss_for (js := [9]) PassesOwn.never rfl (ji_Le (l := BM.lawSets cd.hs) (enc := eS) (je_var 6)) (pg_name (i := 9) sc_la.nd rfl (by first | exact Or.inl rfl | exact Or.inr rfl))
    (fun i Δ' Γ => Δ' = Δ1 ∧ Γ = [some S0, some (VV (.ref dp)), some r2, some (CaseV K cd), some (Bk K C cd.ps cd.cs), some (L K ((clauses cd.cs cd.fs).map eS)), some (L K ((BM.lawSets cd.hs).map eS)), none, some (L K ((BM.held gs (BM.lawSets cd.hs)).map eS)), none, some (D K (eR (BM.leastMeeting sLt gs))), none, none, none, none]) ⟨rfl, rfl⟩ (fun i r Δ' Γ hr' hI => ?_) fun Δ' Γ hI => ?_
  · obtain ⟨rfl, rfl⟩ := hI
    obtain ⟨S, hS, rfl⟩ := at_map hr'
    refine ⟨_, tg_name 9, ?_⟩
    refine jss_if0 (Δ1 := Δ') (bb := false) ?_ (fun h => by cases h) fun _ => jss_nil ⟨[_, _, _, _, _, _, _, _, _, none, _, _, _, _, _], .keep (.keep (.keep (.keep (.keep (.keep (.keep (.keep (.keep (.drop (.keep (.keep (.keep (.keep (.keep .nil)))))))))))))), rfl, rfl⟩
    refine JB.eq (jb_neBl (Δ1 := Δ') (y := !(((BM.leastMeeting sLt gs).filter fun one => BM.within one S).map eS).isEmpty) (je_inL (x := S) (l := BM.held gs (BM.lawSets cd.hs)) enc_eS (hu65 hr) (je_var 9) (je_var 8)) (je_nilNeL (hu64 hr) ?_ je_lst0 (dep_map enc_eS.dep (by decide) _))) ?_
    · refine je_flt (l := BM.leastMeeting sLt gs) (ra := fun g => D K (eS g)) (p := fun one => BM.within one S) (f := eS) (js := [11]) (own := [("_law_one", 11)]) rfl sc_la.nd (ji_Te (l := BM.leastMeeting sLt gs) (enc := eS) (je_var 10)) (blkOk_by (N := N_la) (sc := defScope (top 88)) (by decide +kernel)) (fun _ _ _ _ _ => pg_name (i := 11) sc_la.nd rfl (by first | exact Or.inl rfl | exact Or.inr rfl)) (fun a _ => tg_name 11) (fun _ h => h)
        (fun g _ _ _ _ _ _ => jb_val (je_callP (ok_lwithin T) (hr.mono (by decide)) (ja_cons (je_var 11) (ja_cons (je_var 9) ja_nil)) ⟨g, S, Or.inl rfl, rfl⟩)) fun g _ _ _ _ _ _ _ => je_var 11
    · rw [isEmpty_map, Bool.not_eq_false', decide_eq_true_eq]
      exact (decide_eq_decide.mpr Iff.rfl).trans (BM.held_larger so_sLt hasc hgg (List.mem_of_getElem? hS))
  obtain ⟨rfl, rfl⟩ := hI
  refine jss_setE (i := 12) (je_callK (ok_lg T F) (hr.mono (by decide)) (ja_cons (je_var 4) (ja_cons (je_blends (hu1 hr) (je_var 3)) ja_nil)) (je_bound (hu1 hr) (je_var 3)) ⟨cd.ps, cd.cs, cd.fs, cd.m, hcs, rfl, rfl⟩) sc_la.nd ?_
  rw [hgs]
  refine jss_for (js := [11]) PassesOwn.never rfl (ji_Le (l := cd.hs) (enc := PyData.str) (je_people (hu1 hr) (je_var 3))) (pg_name (i := 11) sc_la.nd rfl (by first | exact Or.inl rfl | exact Or.inr rfl))
    (fun i Δ2 Γ => Δ2 = Δ' ∧ Γ = [some S0, some (VV (.ref dp)), some r2, some (CaseV K cd), some (Bk K C cd.ps cd.cs), some (L K ((clauses cd.cs cd.fs).map eS)), some (L K ((BM.lawSets cd.hs).map eS)), none, some (L K ((BM.held gs (BM.lawSets cd.hs)).map eS)), none, some (D K (eR (BM.leastMeeting sLt gs))), none, some (D K (eR gs)), none, none]) ⟨rfl, rfl⟩ (fun i r Δ2 Γ hr' hI => ?_) fun Δ2 Γ hI => ?_
  · obtain ⟨rfl, rfl⟩ := hI
    obtain ⟨one, hone, rfl⟩ := at_map hr'
    refine ⟨_, tg_name 11, ?_⟩
    refine jss_setE (i := 13) (Δ1 := Δ2) (r := D K (.bool (!gs.isEmpty && (gs.filter fun g => !decide (one ∈ g)).isEmpty))) ?_ sc_la.nd ?_
    · refine (je_and (b1 := !(gs.map eS).isEmpty) (b2 := ((gs.filter fun g => !decide (one ∈ g)).map eS).isEmpty) (je_nilNeT (ds := gs.map eS) (hu64 hr) (je_var 12) je_tup0 (dep_mapT enc_eS.dep (by decide) _)) fun _ => je_one (je_nilEqL (hu64 hr) ?_ je_lst0 (dep_map enc_eS.dep (by decide) _))).eq (by rw [isEmpty_map, isEmpty_map])
      exact je_flt (l := gs) (ra := fun g => D K (eS g)) (p := fun g => !decide (one ∈ g)) (f := eS) (js := [14]) (own := [("_law_group", 14)]) rfl sc_la.nd (ji_Te (l := gs) (enc := eS) (je_var 12)) (blkOk_by (N := N_la) (sc := defScope (top 88)) (by decide +kernel)) (fun _ _ _ _ _ => pg_name (i := 14) sc_la.nd rfl (by first | exact Or.inl rfl | exact Or.inr rfl)) (fun a _ => tg_name 14) (fun _ h => h)
        (fun g _ _ _ _ _ _ => jb_notInT enc_str (hu65 hr) (je_var 11) (je_var 14)) fun g _ _ _ _ _ _ _ => je_var 14
    refine jss_if0 (Δ1 := Δ2) (bb := false) ?_ (fun h => by cases h) fun _ => jss_nil ⟨[_, _, _, _, _, _, _, _, _, _, _, none, _, none, _], .keep (.keep (.keep (.keep (.keep (.keep (.keep (.keep (.keep (.keep (.keep (.drop (.keep (.drop (.keep .nil)))))))))))))), rfl, rfl⟩
    refine JB.eq (jb_neBl (Δ1 := Δ2) (je_inT (x := [one]) (l := BM.leastMeeting sLt gs) enc_eS (hu65 hr) (je_tup (ds := [.str one]) (ja_cons (je_var 11) ja_nil)) (je_var 10)) (je_var 13)) ?_
    rw [Bool.not_eq_false', decide_eq_true_eq]
    exact (decide_eq_decide.mpr Iff.rfl).trans ((BM.named_iff so_sLt hgg (List.mem_of_getElem? hone)).trans (by simp))
  obtain ⟨rfl, rfl⟩ := hI
  exact jss_nil (hO _ (.keep (.keep (.drop (.drop (.drop (.drop (.drop (.drop (.drop (.drop (.drop (.drop (.drop (.drop (.drop .nil))))))))))))))))
def pm_la (K : PySem.W.Frag) (Pt : Addr) : Prm := fun rs Δ r Δ' => ∃ ns : List Int, ns.length ≤ 63 ∧ rs = [D K (.list (ns.map .int))] ∧ Δ = [(Pt, TbC qLam)] ∧ r = D K (.bool true) ∧ Δ' = [(Pt, TbC qLam)]
theorem la_js (T : Tx K mg) (F : BkF K mg C) (TB : TbF K mg base c Pt) (N : NsF K mg Cn Cb) (f : Addr) (cdv : Value) (A : Around) (outer : List Env) (s : Shared) (H : Hp) (E : XK) (rs : List SV) (Δ : Cs) (r : SV) (Δ' : Cs) (hr : Room 12 (A.deeper (envOfC "law" (defScope (top 88)) s.heap.objs.size f cdv))) (hgd : A.guards = some []) (hp : pm_la K Pt rs Δ r Δ') :
    JSs (cxN P w K mg base N_la "law" 88 f cdv A outer s H E) Δ (start0 N_la rs) (defBody (top 88)) (fnO r Δ') := by
    obtain ⟨ns, hns, rfl, rfl, rfl, rfl⟩ := hp
    obtain ⟨fI, M, okI⟩ := ok_bi (P := P) (w := w) (base := base) T F
    refine jss_set (i := 1) (jas_e (jx_callE (Δ0 := []) (Δr := [(Pt, TbC qLam)]) (ok_dk T) (hr.mono (by decide)) (ja_cons (je_var 0) ja_nil) ⟨ns, hns, rfl, rfl, rfl⟩) sc_la.nd) ?_
    rintro r1 Δ1 ⟨Δ0', ⟨dp, pl, rfl, rfl⟩, rfl⟩
    refine jss_for (js := [2]) PassesOwn.never rfl (ji_rng1 (n := 5) T.f_range je_int (by rw [sizeLine_eq]; decide)) (pg_name (i := 2) sc_la.nd rfl (Or.inl rfl))
      (fun i Δ Γ => Δ = dkD K dp pl (300 * i) ++ [(Pt, TbC qLam)] ∧ Γ = [some (D K (.list (ns.map .int))), some (VV (.ref dp)), none, none, none, none, none, none, none, none, none, none, none, none, none]) ⟨rfl, rfl⟩ (fun i r Δ Γ hr' hI => ?_) fun Δ Γ hI => ?_
    · obtain ⟨rfl, rfl⟩ := hI
      have hi5 : i < 5 := by
        have := (List.getElem?_eq_some_iff.mp hr').1
        rwa [List.length_map, List.length_range] at this
      refine ⟨_, tg_name 2, ?_⟩
      refine la_body (n := 300 * i) T F TB N M okI hr hgd (by omega) fun Γ2 hle => ⟨_, hle, ?_, rfl⟩
      rw [show 300 * (i + 1) = 300 * i + 300 by omega]
    · obtain ⟨rfl, rfl⟩ := hI
      refine jss_drop 0 (jss_drop 0 ?_)
      exact jss_ret je_bl fnO_rt
theorem ok_la (T : Tx K mg) (F : BkF K mg C) (TB : TbF K mg base c Pt) (N : NsF K mg Cn Cb) {f : Addr} {fd : FuncData} (D : FunD K "law" "law" (defArgs (top 88)) (defBody (top 88)) (defScope (top 88)) [] [] f fd) : FnG P w K mg base 13 f fd ["_law_script"] (spJ (pm_la K Pt)) := by
  obtain ⟨oc, od, dV, kV, doc, pm, an, cdv, ct, osl, rfl, lk, hci, _, _⟩ := D.ex
  exact fnG_of lk hci sc_la (fun vs H Q E ⟨G, rs, Δ, r, Δ', hp, _, pr, _⟩ => by obtain ⟨_, _, e, _⟩ := hp; rw [Paired.length pr, e]; rfl) fun A outer s H vs Q E hr hg ⟨G, rs, Δ, r, Δ', hp, hs, pr, q⟩ =>
    ⟨_, (la_js T F TB N f cdv A outer s H E rs Δ r Δ' hr hg hp).use.nox, G, hs, sl_start pr, ⟨fun σ' G' H' Δ2 Γ' ⟨e, k⟩ t sl => by subst e; exact q _ G' H' t (k G'), fun v G' H' Δ2 r2 ⟨e, k⟩ t p => by subst e; exact q v G' H' t (k v G' p), fun _ _ _ _ _ o => o.elim, fun _ _ _ _ _ o => o.elim⟩⟩
end
end Bl
set_option Elab.async false
set_option linter.all false
set_option maxRecDepth 100000
set_option maxHeartbeats 2000000
/-! the law's call from outside: no repr is under way there -/
namespace Bl
open PySem PySem.Spec PyProof.Rows L2 LamX
section
variable {P : Program} {w : World} {K : PySem.W.Frag} {mg mb : Str → Option Value} {k : Nat} {fa a c Pt : Addr} {fd : FuncData} {x : Str} {sp : Sp} {s₁ : Shared} {vs : List Value} {ns : List Int}
/-- the heap's account at the start: the table, the script -/
def Hst (K : PySem.W.Frag) (a Pt : Addr) (vs : List Value) (ns : List Int) : Hp := fun b => if b = Pt then some (.tbl #[]) else if b = a ∧ K.lookup a = none then some (.frz { cls := .type "list", data := .seq vs.toArray } (.lst (ns.map V.int))) else none
theorem hst_tab : Hst K a Pt vs ns Pt = some (.tbl #[]) := if_pos rfl
theorem hst_cases {b : Addr} {u : HO} (h : Hst K a Pt vs ns b = some u) : (b = Pt ∧ u = .tbl #[]) ∨ (b = a ∧ b ≠ Pt ∧ K.lookup a = none ∧ u = .frz { cls := .type "list", data := .seq vs.toArray } (.lst (ns.map V.int))) := by
  unfold Hst at h
  by_cases h1 : b = Pt
  · rw [if_pos h1] at h
    exact .inl ⟨h1, (Option.some.inj h).symm⟩
  · rw [if_neg h1] at h
    by_cases h2 : b = a ∧ K.lookup a = none
    · rw [if_pos h2] at h
      exact .inr ⟨h2.1, h1, h2.2, (Option.some.inj h).symm⟩
    · rw [if_neg h2] at h; cases h
theorem law_callG (KX : K.In s₁.heap) (hns : s₁.heap.Ns mainGlobals mg) (hb : s₁.heap.Ns builtinsNs mb) (hbb : ∀ x : Str, x ≠ "__name__" → mb x = bootBuiltins x) (hlim : s₁.heap.NoLimit) (hg : s₁.gens = #[])
    (hT : s₁.heap.get? Pt = some { cls := .none, data := .fields #[] }) (nT : K.lookup Pt = none) (CH : PySem.W.CodeHd s₁.heap c Pt)
    (hbm : ∃ (bm : Addr) (ob : Obj), mg "__builtins__" = some (.ref bm) ∧ bm ≠ builtinsNs ∧ s₁.heap.get? bm = some ob ∧ ob.cls = .type "module" ∧ ob.dict = some builtinsNs ∧ ob.data = .plain)
    (ha : s₁.heap.get? a = some { cls := .type "list", data := .seq vs.toArray }) (hi : IntsAre vs ns) (hl : ns.length ≤ sizeLine) (hr : Room k callerA)
    (F : ∀ base : Heap, K.In base → base.Ns mainGlobals mg → TabB base mg c Pt → FnG P w K mg base k fa fd [x] sp) (hbind : ∀ (s : Shared) (u : Value), BindsTo s fd ⟨[u], []⟩ [(x, u)])
    (hsp : ∀ H : Hp, H Pt = some (.tbl #[]) → SqL K H a (ns.map V.int) → sp [.ref a] H (fun v _ => v = .bl true) fun _ _ _ => False) :
    codeAny (model P w) callerA (.call (.ref fa) ⟨[.ref a], []⟩) (fun r s' => r = .ok (.ret (.bool true)) ∧ OldK s₁.heap s'.heap ∧ s'.os = s₁.os ∧ AllBare s'.gens) s₁ := by
  have rv := vals_ints hi
  have lenV := hi.length
  obtain ⟨H, hH⟩ : ∃ H, H = Hst K a Pt vs ns := ⟨_, rfl⟩
  have HP : H Pt = some (.tbl #[]) := by rw [hH]; exact hst_tab
  have hc : ∀ {b u}, H b = some u → (b = Pt ∧ u = .tbl #[]) ∨ (b = a ∧ b ≠ Pt ∧ K.lookup a = none ∧ u = .frz { cls := .type "list", data := .seq vs.toArray } (.lst (ns.map V.int))) := fun h => hst_cases (by rw [← hH]; exact h)
  have aP : a ≠ Pt := fun z => by
    rw [← z, ha] at hT
    have := congrArg Obj.data (Option.some.inj hT)
    cases this
  have HS : SqL K H a (ns.map V.int) := by
    cases hk : K.lookup a with
    | none => exact .inl (.inr ⟨_, by rw [hH]; unfold Hst; rw [if_neg aP, if_pos ⟨rfl, hk⟩]⟩)
    | some o =>
      have e := KX a o hk
      rw [ha] at e
      cases e
      exact .inr ⟨_, vs.toArray, _, hk, rfl, rfl, rfl, by rw [List.size_toArray, lenV]; exact hl, by simpa using rv⟩
  have noH : ∀ {b : Addr} {o : Obj}, s₁.heap.get? b = some o → (∀ vs n, o.data ≠ .seq vs n) → o.data ≠ .fields #[] → H b = none := fun {b o} e h1 h2 => by
    cases q : H b with
    | none => rfl
    | some u =>
      rcases hc q with ⟨rfl, _⟩ | ⟨rfl, _⟩
      · rw [hT] at e; cases e; exact absurd rfl h2
      · rw [ha] at e; cases e; exact absurd rfl (h1 _ _)
  have noD : ∀ {b : Addr} {o : Obj} {es : Array DictEntry} {ep : Nat}, s₁.heap.get? b = some o → o.data = .dict es ep → H b = none := fun e d => noH e (fun vs n z => by rw [d] at z; cases z) (fun z => by rw [d] at z; cases z)
  have nsK : ∀ {b : Addr} {m : Str → Option Value}, s₁.heap.Ns b m → (hidT s₁.heap H).Ns b m := fun ⟨o, es, ep, e, d, r⟩ => ⟨o, es, ep, hidT_get e (noD e d), d, r⟩
  have hKb : K.In (hidT s₁.heap H) := fun b o e => hidT_get (KX b o e) (by
    cases q : H b with
    | none => rfl
    | some u =>
      rcases hc q with ⟨rfl, _⟩ | ⟨rfl, _, n, _⟩
      · rw [nT] at e; cases e
      · rw [n] at e; cases e)
  have hM : L2.Mod K mg (hidT s₁.heap H) := ⟨hKb, nsK hns, ⟨mb, nsK hb, hbb⟩, let ⟨mc, h1, h2⟩ := hlim; ⟨mc, nsK h1, h2⟩⟩
  have TB : TabB (hidT s₁.heap H) mg c Pt := by
    refine ⟨?_, ?_, fun z => ?_⟩
    · obtain ⟨o, us, file, tf, flags, tg, inF, text, tt, e1, r1, r2, r3, r4, r5, r6, r7, r8, hne⟩ := CH
      refine ⟨o, us, file, tf, flags, tg, inF, text, tt, hidT_get e1 (noH e1 (fun vs n z => by rw [r2] at z; cases z) fun z => ?_), r1, r2, r3, r4, r5, r6, r7, r8, hne⟩
      rw [r2] at z
      cases z
      simp at r3
    · obtain ⟨bm, ob, b1, b2, b3, b4, b5, b6⟩ := hbm
      have nP : bm ≠ Pt := fun q => by rw [q, hT] at b3; cases b3; cases b6
      have nG : bm ≠ mainGlobals := fun q => by
        obtain ⟨o, es, ep, e, hd, _⟩ := hns
        rw [q, e] at b3
        cases b3
        rw [hd] at b6
        cases b6
      exact ⟨bm, ob, b1, b2, nG, nP, hidT_get b3 (noH b3 (fun vs n z => by rw [b6] at z; cases z) fun z => by rw [b6] at z; cases z), b4, b5, b6⟩
    · obtain ⟨o, es, ep, e, hd, _⟩ := hns
      rw [z, hT] at e
      cases e
      cases hd
  have hok : HOk P w H s₁.heap := fun b u z => by
    rcases hc z with ⟨rfl, rfl⟩ | ⟨rfl, _, _, rfl⟩
    · exact hT
    · exact ⟨ha, by rw [List.length_map]; exact hl, vs, _, rv, ha⟩
  have e0 : Env0 P w K mg (hidT s₁.heap H) callerA [] s₁ H := ⟨rfl, hM, fun b o e => of_hidT e, Nat.le_of_eq (hidT_size _ _), trivial, fun b hb => absurd (show b ∈ ([] : List Addr) from hb) (by simp), hok, .of_eq hg⟩
  refine codeAny_mono ((F _ hKb (nsK hns) TB).run callerA [] s₁ H ⟨[.ref a], []⟩ [.ref a] [.ref a] _ _ hr rfl e0 (hbind s₁ (.ref a)) (.cons rfl .nil) (hsp H HP HS)) fun r s' h => ?_
  cases r with
  | error e => exact h.elim
  | ok fl =>
    cases fl with
    | next => exact False.elim h
    | brk => exact False.elim h
    | cont => exact False.elim h
    | ret u =>
      obtain ⟨v, H', os, bare, un, hok', r', q⟩ := h
      have q' : v = .bl true := q
      subst q'
      obtain rfl : u = Value.bool true := r'
      have key : ∀ b o, b ≠ Pt → s₁.heap.get? b = some o → s'.heap.get? b = some o := fun b o nb e => by
        cases q : H b with
        | none => exact un.keep b o e q (fun z => absurd (show b ∈ ([] : List Addr) from z) (by simp)) (by simp)
        | some u =>
          rcases hc q with ⟨z, _⟩ | ⟨rfl, _, _, rfl⟩
          · exact absurd z nb
          · obtain ⟨e1, _⟩ := hok b _ q
            obtain ⟨e2, _⟩ := hok' b _ (un.frzs b _ _ q)
            rw [e] at e1; cases e1
            exact e2
      obtain ⟨more, z⟩ := un.tbls Pt #[] HP
      have grown := hok' Pt _ z
      refine ⟨rfl, ⟨fun b o e => ?_, fun b o e => ?_⟩, os, bare⟩
      · by_cases hb : b = Pt
        · subst hb
          rw [hT] at e
          cases e
          exact .inr (.inl ⟨(CH.tab hT).isCodeTable, rfl, #[], _, rfl, grown⟩)
        · exact .inl (key b o hb e)
      · by_cases hb : b = Pt
        · subst hb
          exact ⟨_, grown⟩
        · exact ⟨o, key b o hb e⟩
theorem walkG {l : PySem.W.OpenLaw} {n k : Nat} {q : Program} {loose : List Str} {XP : (Str → Option Value) → Heap → Prop} {YP : World → Heap → Prop} {d : DefRec} {x : Str}
    (hn : l.most = some n) (hn2 : n ≤ sizeLine) (hdf : d.params.defaults = []) (hr : Room k callerA)
    (F : ∀ (w : World) (mg : Str → Option Value) (fa : Addr) (h : Heap), YP w h → h.Ns mainGlobals mg → mg d.name = some (.ref fa) → ∃ (K : PySem.W.Frag) (fd : FuncData) (c Pt : Addr) (sp : Sp), K.In h ∧ h.get? Pt = some { cls := .none, data := .fields #[] } ∧ K.lookup Pt = none ∧ PySem.W.CodeHd h c Pt ∧ (∀ (s : Shared) (u : Value), BindsTo s fd ⟨[u], []⟩ [(x, u)]) ∧
      (∀ (H : Hp) (a : Addr) (ns : List Int), ns.length ≤ n → H Pt = some (.tbl #[]) → SqL K H a (ns.map V.int) → sp [.ref a] H (fun v _ => v = .bl true) fun _ _ _ => False) ∧
      ∀ base : Heap, K.In base → base.Ns mainGlobals mg → TabB base mg c Pt → FnG l.prog w K mg base k fa fd [x] sp) :
    PySem.W.WalkO q loose XP YP l.row.toRowW d [] (fun f vs => PySem.call f vs) := by
  refine Att.attach_callB hn hdf fun w s₀ s₁ mg mb fa o pm cd doc a vs ns G Y ho hd hcd hmg hobj hints hlen hbits hg => ?_
  obtain ⟨K, fd, c, Pt, sp, KX, hT, nT, CH, hbd, hsp, hF⟩ := F w mg fa _ Y G.T.g hmg
  exact law_callG KX G.T.g G.T.b G.T.builtins G.T.nolimit hg hT nT CH G.T.bmain hobj hints (Nat.le_trans hlen hn2) hr hF hbd fun H hH hS => hsp H a ns hlen hH hS
end
end Bl
set_option Elab.async false
set_option linter.all false
set_option maxRecDepth 100000
set_option maxHeartbeats 2000000
/-! written by genhead2.py: the facts -/
namespace Bl
open PySem PySem.Spec PyProof.Rows L2
theorem factsL {K : PySem.W.Frag} {h : Heap} {mg : Str → Option Value} (X : K.In h) (G : h.Ns mainGlobals mg) (c : SaysL h K) : Tx K mg ∧ BkF K mg (He.ga K "Book") ∧ NsF K mg (He.ga K "NotSaid") (He.ga K "BlendError") := by
  obtain ⟨x1, x2⟩ := He.ba c.ex
  obtain ⟨x2, x3⟩ := He.ba x2
  obtain ⟨n1, n2⟩ := He.ba x1
  obtain ⟨n2, n3⟩ := He.ba n2
  obtain ⟨n3, n4⟩ := He.ba n3
  obtain ⟨n4, n5⟩ := He.ba n4
  obtain ⟨n5, n6⟩ := He.ba n5
  obtain ⟨n6, n7⟩ := He.ba n6
  have hbi : PySem.W.findCls K (.ref (He.ga K "BlendError")) (.type "type") "__init__" = some (.val (.builtin "ValueError.__init__")) := by
    split at n7
    · rename_i n e
      rw [e, beq_iff_eq.mp n7]
    · cases n7
  refine ⟨{
    d_is_ascending_part := by obtain ⟨fd, F⟩ := c.d.def_ 0 (d := dd_is_ascending_part) rfl; exact ⟨_, fd, F, He.glo_ok X G (c.d.fact 0 (f := .glo "is_ascending_part") rfl)⟩
    d_marks_of := by obtain ⟨fd, F⟩ := c.d.def_ 1 (d := dd_marks_of) rfl; exact ⟨_, fd, F, He.glo_ok X G (c.d.fact 1 (f := .glo "marks_of") rfl)⟩
    d_meets := by obtain ⟨fd, F⟩ := c.d.def_ 2 (d := dd_meets) rfl; exact ⟨_, fd, F, He.glo_ok X G (c.d.fact 2 (f := .glo "meets") rfl)⟩
    d_holders_with := by obtain ⟨fd, F⟩ := c.d.def_ 3 (d := dd_holders_with) rfl; exact ⟨_, fd, F, He.glo_ok X G (c.d.fact 3 (f := .glo "holders_with") rfl)⟩
    d_holders_without := by obtain ⟨fd, F⟩ := c.d.def_ 4 (d := dd_holders_without) rfl; exact ⟨_, fd, F, He.glo_ok X G (c.d.fact 4 (f := .glo "holders_without") rfl)⟩
    d_entry_clauses := by obtain ⟨fd, F⟩ := c.d.def_ 5 (d := dd_entry_clauses) rfl; exact ⟨_, fd, F, He.glo_ok X G (c.d.fact 5 (f := .glo "entry_clauses") rfl)⟩
    d_find_clauses := by obtain ⟨fd, F⟩ := c.d.def_ 6 (d := dd_find_clauses) rfl; exact ⟨_, fd, F, He.glo_ok X G (c.d.fact 6 (f := .glo "find_clauses") rfl)⟩
    d_clauses := by obtain ⟨fd, F⟩ := c.d.def_ 7 (d := dd_clauses) rfl; exact ⟨_, fd, F, He.glo_ok X G (c.d.fact 7 (f := .glo "clauses") rfl)⟩
    d_parts_of := by obtain ⟨fd, F⟩ := c.d.def_ 8 (d := dd_parts_of) rfl; exact ⟨_, fd, F, He.glo_ok X G (c.d.fact 8 (f := .glo "parts_of") rfl)⟩
    d_is_part_of := by obtain ⟨fd, F⟩ := c.d.def_ 9 (d := dd_is_part_of) rfl; exact ⟨_, fd, F, He.glo_ok X G (c.d.fact 9 (f := .glo "is_part_of") rfl)⟩
    d_meets_all := by obtain ⟨fd, F⟩ := c.d.def_ 10 (d := dd_meets_all) rfl; exact ⟨_, fd, F, He.glo_ok X G (c.d.fact 10 (f := .glo "meets_all") rfl)⟩
    d_fits := by obtain ⟨fd, F⟩ := c.d.def_ 11 (d := dd_fits) rfl; exact ⟨_, fd, F, He.glo_ok X G (c.d.fact 11 (f := .glo "fits") rfl)⟩
    d_each_group := by obtain ⟨fd, F⟩ := c.d.def_ 12 (d := dd_each_group) rfl; exact ⟨_, fd, F, He.glo_ok X G (c.d.fact 12 (f := .glo "each_group") rfl)⟩
    d_least_groups := by obtain ⟨fd, F⟩ := c.d.def_ 13 (d := dd_least_groups) rfl; exact ⟨_, fd, F, He.glo_ok X G (c.d.fact 13 (f := .glo "least_groups") rfl)⟩
    d_outside := by obtain ⟨fd, F⟩ := c.d.def_ 14 (d := dd_outside) rfl; exact ⟨_, fd, F, He.glo_ok X G (c.d.fact 14 (f := .glo "outside") rfl)⟩
    d_tree_by := by obtain ⟨fd, F⟩ := c.d.def_ 15 (d := dd_tree_by) rfl; exact ⟨_, fd, F, He.glo_ok X G (c.d.fact 15 (f := .glo "tree_by") rfl)⟩
    d_is_pair := by obtain ⟨fd, F⟩ := c.d.def_ 16 (d := dd_is_pair) rfl; exact ⟨_, fd, F, He.glo_ok X G (c.d.fact 16 (f := .glo "is_pair") rfl)⟩
    d_is_branch := by obtain ⟨fd, F⟩ := c.d.def_ 17 (d := dd_is_branch) rfl; exact ⟨_, fd, F, He.glo_ok X G (c.d.fact 17 (f := .glo "is_branch") rfl)⟩
    d_is_tree := by obtain ⟨fd, F⟩ := c.d.def_ 18 (d := dd_is_tree) rfl; exact ⟨_, fd, F, He.glo_ok X G (c.d.fact 18 (f := .glo "is_tree") rfl)⟩
    d_tree_for := by obtain ⟨fd, F⟩ := c.d.def_ 19 (d := dd_tree_for) rfl; exact ⟨_, fd, F, He.glo_ok X G (c.d.fact 19 (f := .glo "tree_for") rfl)⟩
    d_tree_holds := by obtain ⟨fd, F⟩ := c.d.def_ 20 (d := dd_tree_holds) rfl; exact ⟨_, fd, F, He.glo_ok X G (c.d.fact 20 (f := .glo "tree_holds") rfl)⟩
    d_is_word := by obtain ⟨fd, F⟩ := c.d.def_ 21 (d := dd_is_word) rfl; exact ⟨_, fd, F, He.glo_ok X G (c.d.fact 21 (f := .glo "is_word") rfl)⟩
    d_are_rising := by obtain ⟨fd, F⟩ := c.d.def_ 22 (d := dd_are_rising) rfl; exact ⟨_, fd, F, He.glo_ok X G (c.d.fact 22 (f := .glo "are_rising") rfl)⟩
    d_fits_places := by obtain ⟨fd, F⟩ := c.d.def_ 23 (d := dd_fits_places) rfl; exact ⟨_, fd, F, He.glo_ok X G (c.d.fact 23 (f := .glo "fits_places") rfl)⟩
    d_is_name := by obtain ⟨fd, F⟩ := c.d.def_ 24 (d := dd_is_name) rfl; exact ⟨_, fd, F, He.glo_ok X G (c.d.fact 24 (f := .glo "is_name") rfl)⟩
    d_is_mark := by obtain ⟨fd, F⟩ := c.d.def_ 25 (d := dd_is_mark) rfl; exact ⟨_, fd, F, He.glo_ok X G (c.d.fact 25 (f := .glo "is_mark") rfl)⟩
    d_is_place := by obtain ⟨fd, F⟩ := c.d.def_ 26 (d := dd_is_place) rfl; exact ⟨_, fd, F, He.glo_ok X G (c.d.fact 26 (f := .glo "is_place") rfl)⟩
    d_are_places := by obtain ⟨fd, F⟩ := c.d.def_ 27 (d := dd_are_places) rfl; exact ⟨_, fd, F, He.glo_ok X G (c.d.fact 27 (f := .glo "are_places") rfl)⟩
    d_is_row := by obtain ⟨fd, F⟩ := c.d.def_ 28 (d := dd_is_row) rfl; exact ⟨_, fd, F, He.glo_ok X G (c.d.fact 28 (f := .glo "is_row") rfl)⟩
    d_is_copy := by obtain ⟨fd, F⟩ := c.d.def_ 29 (d := dd_is_copy) rfl; exact ⟨_, fd, F, He.glo_ok X G (c.d.fact 29 (f := .glo "is_copy") rfl)⟩
    d_are_copies := by obtain ⟨fd, F⟩ := c.d.def_ 30 (d := dd_are_copies) rfl; exact ⟨_, fd, F, He.glo_ok X G (c.d.fact 30 (f := .glo "are_copies") rfl)⟩
    d_is_smaller_part := by obtain ⟨fd, F⟩ := c.d.def_ 31 (d := dd_is_smaller_part) rfl; exact ⟨_, fd, F, He.glo_ok X G (c.d.fact 31 (f := .glo "is_smaller_part") rfl)⟩
    d_least_ones := by obtain ⟨fd, F⟩ := c.d.def_ 32 (d := dd_least_ones) rfl; exact ⟨_, fd, F, He.glo_ok X G (c.d.fact 32 (f := .glo "least_ones") rfl)⟩
    d_least_meeting := by obtain ⟨fd, F⟩ := c.d.def_ 33 (d := dd_least_meeting) rfl; exact ⟨_, fd, F, He.glo_ok X G (c.d.fact 33 (f := .glo "least_meeting") rfl)⟩
    d_is_statement := by obtain ⟨fd, F⟩ := c.d.def_ 34 (d := dd_is_statement) rfl; exact ⟨_, fd, F, He.glo_ok X G (c.d.fact 34 (f := .glo "is_statement") rfl)⟩
    d_statements := by obtain ⟨fd, F⟩ := c.d.def_ 35 (d := dd_statements) rfl; exact ⟨_, fd, F, He.glo_ok X G (c.d.fact 35 (f := .glo "statements") rfl)⟩
    d__law_deck := by obtain ⟨fd, F⟩ := c.d.def_ 36 (d := dd__law_deck) rfl; exact ⟨_, fd, F, He.glo_ok X G (c.d.fact 36 (f := .glo "_law_deck") rfl)⟩
    d__law_draw := by obtain ⟨fd, F⟩ := c.d.def_ 37 (d := dd__law_draw) rfl; exact ⟨_, fd, F, He.glo_ok X G (c.d.fact 37 (f := .glo "_law_draw") rfl)⟩
    d__law_pick := by obtain ⟨fd, F⟩ := c.d.def_ 38 (d := dd__law_pick) rfl; exact ⟨_, fd, F, He.glo_ok X G (c.d.fact 38 (f := .glo "_law_pick") rfl)⟩
    d__law_people := by obtain ⟨fd, F⟩ := c.d.def_ 39 (d := dd__law_people) rfl; exact ⟨_, fd, F, He.glo_ok X G (c.d.fact 39 (f := .glo "_law_people") rfl)⟩
    d__law_spots := by obtain ⟨fd, F⟩ := c.d.def_ 40 (d := dd__law_spots) rfl; exact ⟨_, fd, F, He.glo_ok X G (c.d.fact 40 (f := .glo "_law_spots") rfl)⟩
    d__law_copies := by obtain ⟨fd, F⟩ := c.d.def_ 41 (d := dd__law_copies) rfl; exact ⟨_, fd, F, He.glo_ok X G (c.d.fact 41 (f := .glo "_law_copies") rfl)⟩
    d__law_marks := by obtain ⟨fd, F⟩ := c.d.def_ 42 (d := dd__law_marks) rfl; exact ⟨_, fd, F, He.glo_ok X G (c.d.fact 42 (f := .glo "_law_marks") rfl)⟩
    d__law_mixed := by obtain ⟨fd, F⟩ := c.d.def_ 43 (d := dd__law_mixed) rfl; exact ⟨_, fd, F, He.glo_ok X G (c.d.fact 43 (f := .glo "_law_mixed") rfl)⟩
    d__law_case := by obtain ⟨fd, F⟩ := c.d.def_ 44 (d := dd__law_case) rfl; exact ⟨_, fd, F, He.glo_ok X G (c.d.fact 44 (f := .glo "_law_case") rfl)⟩
    d__law_can := by obtain ⟨fd, F⟩ := c.d.def_ 45 (d := dd__law_can) rfl; exact ⟨_, fd, F, He.glo_ok X G (c.d.fact 45 (f := .glo "_law_can") rfl)⟩
    d__law_sets := by obtain ⟨fd, F⟩ := c.d.def_ 46 (d := dd__law_sets) rfl; exact ⟨_, fd, F, He.glo_ok X G (c.d.fact 46 (f := .glo "_law_sets") rfl)⟩
    d__law_meets := by obtain ⟨fd, F⟩ := c.d.def_ 47 (d := dd__law_meets) rfl; exact ⟨_, fd, F, He.glo_ok X G (c.d.fact 47 (f := .glo "_law_meets") rfl)⟩
    d__law_within := by obtain ⟨fd, F⟩ := c.d.def_ 48 (d := dd__law_within) rfl; exact ⟨_, fd, F, He.glo_ok X G (c.d.fact 48 (f := .glo "_law_within") rfl)⟩
    d__law_least := by obtain ⟨fd, F⟩ := c.d.def_ 49 (d := dd__law_least) rfl; exact ⟨_, fd, F, He.glo_ok X G (c.d.fact 49 (f := .glo "_law_least") rfl)⟩
    d__law_rows := by obtain ⟨fd, F⟩ := c.d.def_ 50 (d := dd__law_rows) rfl; exact ⟨_, fd, F, He.glo_ok X G (c.d.fact 50 (f := .glo "_law_rows") rfl)⟩
    d__law_tree_right := by obtain ⟨fd, F⟩ := c.d.def_ 51 (d := dd__law_tree_right) rfl; exact ⟨_, fd, F, He.glo_ok X G (c.d.fact 51 (f := .glo "_law_tree_right") rfl)⟩
    d__law_heard := by obtain ⟨fd, F⟩ := c.d.def_ 52 (d := dd__law_heard) rfl; exact ⟨_, fd, F, He.glo_ok X G (c.d.fact 52 (f := .glo "_law_heard") rfl)⟩
    d__law_set_right := by obtain ⟨fd, F⟩ := c.d.def_ 53 (d := dd__law_set_right) rfl; exact ⟨_, fd, F, He.glo_ok X G (c.d.fact 53 (f := .glo "_law_set_right") rfl)⟩
    d_law := by obtain ⟨fd, F⟩ := c.d.def_ 54 (d := dd_law) rfl; exact ⟨_, fd, F, He.glo_ok X G (c.d.fact 54 (f := .glo "law") rfl)⟩
    f_isinstance := He.free_ok X G (c.d.fact 55 (f := .free "isinstance") rfl)
    f_tuple := He.free_ok X G (c.d.fact 56 (f := .free "tuple") rfl)
    f_all := He.free_ok X G (c.d.fact 57 (f := .free "all") rfl)
    f_zip := He.free_ok X G (c.d.fact 58 (f := .free "zip") rfl)
    f_str := He.free_ok X G (c.d.fact 59 (f := .free "str") rfl)
    f_any := He.free_ok X G (c.d.fact 60 (f := .free "any") rfl)
    f_sorted := He.free_ok X G (c.d.fact 61 (f := .free "sorted") rfl)
    f_set := He.free_ok X G (c.d.fact 62 (f := .free "set") rfl)
    f_enumerate := He.free_ok X G (c.d.fact 63 (f := .free "enumerate") rfl)
    f_len := He.free_ok X G (c.d.fact 64 (f := .free "len") rfl)
    f_range := He.free_ok X G (c.d.fact 65 (f := .free "range") rfl)
    f_min := He.free_ok X G (c.d.fact 66 (f := .free "min") rfl)
    f_list := He.free_ok X G (c.d.fact 67 (f := .free "list") rfl)
    f_repr := He.free_ok X G (c.d.fact 68 (f := .free "repr") rfl)
    c_PICK := He.str_ok X G (c.d.fact 69 (f := .str "PICK" "pick") rfl)
    c_FREE := He.str_ok X G (c.d.fact 70 (f := .str "FREE" "free") rfl)
    c_UNREADABLE := He.str_ok X G (c.d.fact 71 (f := .str "UNREADABLE" "?") rfl)
    c_PARTS := He.int_ok X G (c.d.fact 72 (f := .int "PARTS" 2) rfl)
    c_LOWER_CASE := He.str_ok X G (c.d.fact 73 (f := .str "LOWER_CASE" "abcdefghijklmnopqrstuvwxyz") rfl)
    c_UPPER_CASE := He.str_ok X G (c.d.fact 74 (f := .str "UPPER_CASE" "ABCDEFGHIJKLMNOPQRSTUVWXYZ") rfl)
    c_MOST_LETTERS := He.int_ok X G (c.d.fact 75 (f := .int "MOST_LETTERS" 8) rfl)
    c_PLACES := He.str_ok X G (c.d.fact 76 (f := .str "PLACES" "places") rfl)
    c_COPIES := He.str_ok X G (c.d.fact 77 (f := .str "COPIES" "copies") rfl)
    c_COPY_PARTS := He.int_ok X G (c.d.fact 78 (f := .int "COPY_PARTS" 2) rfl)
  }, ?_, ?_⟩
  · obtain ⟨fd1, F1⟩ := c.d.def_ 55 (d := dd_Book_init) rfl
    obtain ⟨fd2, F2⟩ := c.d.def_ 56 (d := dd_Book_row) rfl
    obtain ⟨fd3, F3⟩ := funA c.g x3
    exact { glo := He.glo_ok X G (c.d.fact 79 (f := .glo "Book") rfl), cls := He.cls_ok (c.d.fact 80 (f := .cls "Book") rfl), nP := He.noat_ok (c.d.fact 81 (f := .noat "Book" "places") rfl), nC := He.noat_ok (c.d.fact 82 (f := .noat "Book" "copies") rfl), init := ⟨_, fd1, He.mkr_ok (c.d.fact 83 (f := .mkr "Book") rfl), F1⟩, hold := ⟨_, _, fd3, propB_ok x2, F3⟩, row := ⟨_, fd2, He.meth_ok (c.d.fact 84 (f := .meth "Book" "row_of") rfl), F2⟩ }
  · obtain ⟨fd1, F1⟩ := c.d.def_ 57 (d := dd_NS_init) rfl
    exact { gN := He.glo_ok X G (c.d.fact 85 (f := .glo "NotSaid") rfl), gB := He.glo_ok X G (c.d.fact 86 (f := .glo "BlendError") rfl), ox := oexB_ok n1, xf := xfB_ok n2, no := He.noat_ok (c.d.fact 87 (f := .noat "NotSaid" "group") rfl), em := He.exm_ok (c.d.fact 88 (f := .exm "NotSaid" "NotSaid" true) rfl), init := ⟨_, fd1, He.eqO_ok n3, of_decide_eq_true n4, F1⟩, br := n5, bg := He.eqO_ok n6, bi := hbi }
theorem factsT {K : PySem.W.Frag} {h base : Heap} {mg : Str → Option Value} (X : K.In h) (G : h.Ns mainGlobals mg) (c : SaysL h K) (TB : LamX.TabB base mg (He.cT K ("tree_by", none)).1 (He.cT K ("tree_by", none)).2) : TbF K mg base (He.cT K ("tree_by", none)).1 (He.cT K ("tree_by", none)).2 := by
  obtain ⟨fd, F⟩ := c.d.def_ 15 (d := dd_tree_by) rfl
  refine ⟨⟨_, fd, F, He.glo_ok X G (c.d.fact 15 (f := .glo "tree_by") rfl), ?_⟩, TB⟩
  obtain ⟨oc, od, dV, kV, doc, pm, an, cdv, ct, osl, rfl, lk, hcd, _, _⟩ := F.ex
  obtain ⟨cc, rfl⟩ := He.codeIn_ref hcd
  exact congrArg Value.ref (He.codeOf_eq lk rfl).symm
end Bl
set_option Elab.async false
set_option linter.all false
set_option maxRecDepth 100000
set_option maxHeartbeats 0
/-! the end -/
namespace Bl
open PySem PySem.Spec PyProof.Rows L2
theorem dps_ints {K : PySem.W.Frag} {H : Hp} : ∀ ns : List Int, DpAll K H (ns.map V.int) (ns.map PyData.int)
  | [] => .nil
  | n :: ns => .cons (.int n) (dps_ints ns)
theorem sp_la {K : PySem.W.Frag} {Pt a : Addr} {H : Hp} {ns : List Int} (hn : ns.length ≤ 63) (hT : H Pt = some (.tbl #[])) (hS : SqL K H a (ns.map V.int)) : spJ (pm_la K Pt) [.ref a] H (fun v _ => v = .bl true) fun _ _ _ => False := by
  obtain ⟨G, hG⟩ : ∃ G : Hp, G = fun b => if b = Pt then none else H b := ⟨_, rfl⟩
  have g1 : G Pt = none := by rw [hG]; exact if_pos rfl
  have g2 : ∀ b, b ≠ Pt → G b = H b := fun b hb => by rw [hG]; exact if_neg hb
  have hSG : SqL K G a (ns.map V.int) := by
    rcases hS with h | h
    · refine .inl ?_
      have hne : a ≠ Pt := fun z => by
        subst z
        rcases h with h | ⟨o, h⟩ <;> rw [hT] at h <;> cases h
      rcases h with h | ⟨o, h⟩
      · exact .inl (by rw [g2 a hne]; exact h)
      · exact .inr ⟨o, by rw [g2 a hne]; exact h⟩
    · exact .inr h
  refine ⟨G, _, _, _, _, ⟨ns, hn, rfl, rfl, rfl, rfl⟩, ⟨fun b u e => ?_, fun q hq => ?_, by simp⟩, .cons ⟨.lst hSG (dps_ints ns), lst_ok.mpr fun d hd => ?_⟩ .nil, fun v G' H' _ p => ?_⟩
  · by_cases hb : b = Pt
    · subst hb
      rw [g1] at e
      cases e
    · rw [← g2 b hb]
      exact e
  · obtain rfl : q = (Pt, TbC qLam) := by simpa using hq
    refine ⟨g1, _, hT, ?_⟩
    exact ⟨#[], rfl, True.intro, fun pos cv h => by cases h⟩
  · obtain ⟨n, _, rfl⟩ := List.mem_map.mp hd
    exact ok_int
  · cases p.1
    rfl
end Bl
open PySem PySem.W PySem.Calls PyProof.Rows
theorem PySem.Challenge.cw_blendmarks_k70_whole_what_is_no_statemen_holds : PySem.Challenge.rw_blendmarks_k70_whole_what_is_no_statemen.Holds := by
  refine Bl.endL (Bl.walkG (l := PySem.Challenge.rw_blendmarks_k70_whole_what_is_no_statemen) (n := 63) (k := 13) (x := "_law_script") rfl (by decide) (by kernel_rfl) ⟨rfl, by decide, by decide⟩ ?F)
  intro w mg fa h Y G hmg0
  obtain ⟨K, KX, c⟩ := Y
  have hmg : mg ("law" : PySem.Str) = some (.ref fa) := by
    have e : (HandSHeadRun.topDef Bl.RR.prog 88).name = ("law" : PySem.Str) := by kernel_rfl
    rw [← e]
    exact hmg0
  obtain ⟨T, B, N⟩ := Bl.factsL KX G c
  obtain ⟨f, fd, F, hf⟩ := T.d_law
  have e := hmg.symm.trans hf
  cases e
  have b := L2.FunD.bindsA (ps := ["_law_script"]) F fun _ _ _ _ _ _ us hl => match us, hl with | [_], _ => rfl
  exact ⟨K, fd, _, _, _, KX, c.emp, c.out, codeHd_of_K KX c.hd, fun s v => b s [v] rfl, fun H a ns hl hT hS => Bl.sp_la hl hT hS, fun base hb hm TB => Bl.ok_la T B (Bl.factsT KX G c TB) N F⟩
