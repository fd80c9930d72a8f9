import PyProof.Rows.All
import Wide.All
import OpenK.AllK
import Wide.FinOn
import KE.KStateDown
import KE.KExcIs
import HandS.Base
import HandS.Call
import HandS.List
import HandS.Comp
import HandS.Ends
import HandS.More
import HandS.Words
import HandS.WordsList
import HandS.WordsExc
import HandS.Defaults
import HandS.ExcInit
import HandS.ExcField
import HandS.Head0
import HandS.Head1
import HandS.Head2
import HandS.HeadEnd
import HandS.HeadHook1
import HandS.HeadHook2
import HandS.Conv
import HandS.TupAny
import HandS.TupMul
import HandS.TupLe
import HandS.Flow
import HandS.IsInst
import HandS.Deep
import HandS.Codes
import HandS.Style
import HandS.ExcCtx
import HandS.SuiteRaise
import HandS.RaiseFrom
import HandS.ExcInitHot
import HandS.TryOnly
import HandS.TupSets
import PyProof.Rows.SetFrom
import HandS.SetFor
import KE.KSortTupG
import PyProof.Rows.SortWalk
import HandS.Iter
import HandS.IterVal
import HandS.OwnEq
import OpenK.KOps
import OpenK.KMeth
import KE.KOwnIter
import HandS.ExcIs
import PyProof.ReprRoads
import HandS.FStrTup
import PyProof.StrBlock2
import HandS.Rev
import HandS.RevTup
import PyProof.ListNew
import PySem.Challenge.RW_firmvalues_k10_whole_books_and_views
set_option Elab.async false
set_option linter.all false
set_option maxRecDepth 100000
set_option maxHeartbeats 4000000
/-! the defs of the text by their places; what the head tells of them, by names -/
namespace Kb
open PySem PySem.Spec PyProof.Rows L2
def top (i : Nat) : Stmt := PySem.Challenge.pw_firmvalues_k10_whole_books_and_views.main.body.getD i (.Pass ⟨0, 0, 0, 0⟩)
abbrev s_BadInput_init : Stmt := inClass (top 2) 0
abbrev s_BadView_init : Stmt := inClass (top 3) 0
abbrev s_BadBook_init : Stmt := inClass (top 4) 0
abbrev s_NotInBook_init : Stmt := inClass (top 5) 0
abbrev s_UnlikeBooks_init : Stmt := inClass (top 6) 0
abbrev s_is_whole : Stmt := top 8
abbrev s_check_entry : Stmt := top 9
abbrev s_check_view : Stmt := top 10
abbrev s_goes_on : Stmt := top 11
abbrev s_Book_init : Stmt := inClass (top 14) 0
abbrev s_Book_eq : Stmt := inClass (top 14) 1
abbrev s_Book_len : Stmt := inClass (top 14) 2
abbrev s_Book_iter : Stmt := inClass (top 14) 3
abbrev s_Book_contains : Stmt := inClass (top 14) 4
abbrev s_Book_going_on : Stmt := inClass (top 14) 5
abbrev s_Book_first_going_on : Stmt := inClass (top 14) 6
abbrev s_Book_with_entry : Stmt := inClass (top 14) 7
abbrev s_Book_without_entry : Stmt := inClass (top 14) 8
abbrev s_check_alike : Stmt := top 15
abbrev s_book_within : Stmt := top 16
abbrev s_joined_books : Stmt := top 17
abbrev s_shared_book : Stmt := top 18
abbrev s_book_less : Stmt := top 19
abbrev s_draw : Stmt := top 21
abbrev s_same : Stmt := top 22
abbrev s_marked : Stmt := top 23
abbrev s_spans : Stmt := top 24
abbrev s_goes : Stmt := top 25
abbrev s_way : Stmt := top 26
abbrev s_entry : Stmt := top 27
abbrev s_odd : Stmt := top 28
abbrev s_bad_entry : Stmt := top 29
abbrev s_pot : Stmt := top 30
abbrev s_many : Stmt := top 31
abbrev s_longer : Stmt := top 32
abbrev s_rows : Stmt := top 33
abbrev s_unlike : Stmt := top 34
abbrev s_truths : Stmt := top 35
abbrev s_members : Stmt := top 36
abbrev s_views : Stmt := top 37
abbrev s_told : Stmt := top 38
abbrev s_changed : Stmt := top 39
abbrev s_refused : Stmt := top 40
abbrev s_refusals : Stmt := top 41
abbrev s_unlike_books : Stmt := top 42
abbrev s_law : Stmt := top 43
def d_BadInput_init : He.DefD := ⟨("BadInput", some "__init__"), "__init__", "BadInput.__init__", defArgs s_BadInput_init, defBody s_BadInput_init, defScope s_BadInput_init, [], []⟩
def d_BadView_init : He.DefD := ⟨("BadView", some "__init__"), "__init__", "BadView.__init__", defArgs s_BadView_init, defBody s_BadView_init, defScope s_BadView_init, [], []⟩
def d_BadBook_init : He.DefD := ⟨("BadBook", some "__init__"), "__init__", "BadBook.__init__", defArgs s_BadBook_init, defBody s_BadBook_init, defScope s_BadBook_init, [], []⟩
def d_NotInBook_init : He.DefD := ⟨("NotInBook", some "__init__"), "__init__", "NotInBook.__init__", defArgs s_NotInBook_init, defBody s_NotInBook_init, defScope s_NotInBook_init, [], []⟩
def d_UnlikeBooks_init : He.DefD := ⟨("UnlikeBooks", some "__init__"), "__init__", "UnlikeBooks.__init__", defArgs s_UnlikeBooks_init, defBody s_UnlikeBooks_init, defScope s_UnlikeBooks_init, [], []⟩
def d_is_whole : He.DefD := ⟨("is_whole", none), "is_whole", "is_whole", defArgs s_is_whole, defBody s_is_whole, defScope s_is_whole, [.non, .non], []⟩
def d_check_entry : He.DefD := ⟨("check_entry", none), "check_entry", "check_entry", defArgs s_check_entry, defBody s_check_entry, defScope s_check_entry, [], []⟩
def d_check_view : He.DefD := ⟨("check_view", none), "check_view", "check_view", defArgs s_check_view, defBody s_check_view, defScope s_check_view, [], []⟩
def d_goes_on : He.DefD := ⟨("goes_on", none), "goes_on", "goes_on", defArgs s_goes_on, defBody s_goes_on, defScope s_goes_on, [], []⟩
def d_Book_init : He.DefD := ⟨("Book", some "__init__"), "__init__", "Book.__init__", defArgs s_Book_init, defBody s_Book_init, defScope s_Book_init, [], []⟩
def d_Book_eq : He.DefD := ⟨("Book", some "__eq__"), "__eq__", "Book.__eq__", defArgs s_Book_eq, defBody s_Book_eq, defScope s_Book_eq, [], []⟩
def d_Book_len : He.DefD := ⟨("Book", some "__len__"), "__len__", "Book.__len__", defArgs s_Book_len, defBody s_Book_len, defScope s_Book_len, [], []⟩
def d_Book_iter : He.DefD := ⟨("Book", some "__iter__"), "__iter__", "Book.__iter__", defArgs s_Book_iter, defBody s_Book_iter, defScope s_Book_iter, [], []⟩
def d_Book_contains : He.DefD := ⟨("Book", some "__contains__"), "__contains__", "Book.__contains__", defArgs s_Book_contains, defBody s_Book_contains, defScope s_Book_contains, [], []⟩
def d_Book_going_on : He.DefD := ⟨("Book", some "going_on"), "going_on", "Book.going_on", defArgs s_Book_going_on, defBody s_Book_going_on, defScope s_Book_going_on, [], []⟩
def d_Book_first_going_on : He.DefD := ⟨("Book", some "first_going_on"), "first_going_on", "Book.first_going_on", defArgs s_Book_first_going_on, defBody s_Book_first_going_on, defScope s_Book_first_going_on, [], []⟩
def d_Book_with_entry : He.DefD := ⟨("Book", some "with_entry"), "with_entry", "Book.with_entry", defArgs s_Book_with_entry, defBody s_Book_with_entry, defScope s_Book_with_entry, [], []⟩
def d_Book_without_entry : He.DefD := ⟨("Book", some "without_entry"), "without_entry", "Book.without_entry", defArgs s_Book_without_entry, defBody s_Book_without_entry, defScope s_Book_without_entry, [], []⟩
def d_check_alike : He.DefD := ⟨("check_alike", none), "check_alike", "check_alike", defArgs s_check_alike, defBody s_check_alike, defScope s_check_alike, [], []⟩
def d_book_within : He.DefD := ⟨("book_within", none), "book_within", "book_within", defArgs s_book_within, defBody s_book_within, defScope s_book_within, [], []⟩
def d_joined_books : He.DefD := ⟨("joined_books", none), "joined_books", "joined_books", defArgs s_joined_books, defBody s_joined_books, defScope s_joined_books, [], []⟩
def d_shared_book : He.DefD := ⟨("shared_book", none), "shared_book", "shared_book", defArgs s_shared_book, defBody s_shared_book, defScope s_shared_book, [], []⟩
def d_book_less : He.DefD := ⟨("book_less", none), "book_less", "book_less", defArgs s_book_less, defBody s_book_less, defScope s_book_less, [], []⟩
def d_draw : He.DefD := ⟨("_law_draw", none), "_law_draw", "_law_draw", defArgs s_draw, defBody s_draw, defScope s_draw, [], []⟩
def d_same : He.DefD := ⟨("_law_same", none), "_law_same", "_law_same", defArgs s_same, defBody s_same, defScope s_same, [], []⟩
def d_marked : He.DefD := ⟨("_law_marked", none), "_law_marked", "_law_marked", defArgs s_marked, defBody s_marked, defScope s_marked, [], []⟩
def d_spans : He.DefD := ⟨("_law_spans", none), "_law_spans", "_law_spans", defArgs s_spans, defBody s_spans, defScope s_spans, [], []⟩
def d_goes : He.DefD := ⟨("_law_goes", none), "_law_goes", "_law_goes", defArgs s_goes, defBody s_goes, defScope s_goes, [], []⟩
def d_way : He.DefD := ⟨("_law_way", none), "_law_way", "_law_way", defArgs s_way, defBody s_way, defScope s_way, [], []⟩
def d_entry : He.DefD := ⟨("_law_entry", none), "_law_entry", "_law_entry", defArgs s_entry, defBody s_entry, defScope s_entry, [], []⟩
def d_odd : He.DefD := ⟨("_law_odd", none), "_law_odd", "_law_odd", defArgs s_odd, defBody s_odd, defScope s_odd, [], []⟩
def d_bad_entry : He.DefD := ⟨("_law_bad_entry", none), "_law_bad_entry", "_law_bad_entry", defArgs s_bad_entry, defBody s_bad_entry, defScope s_bad_entry, [], []⟩
def d_pot : He.DefD := ⟨("_law_pot", none), "_law_pot", "_law_pot", defArgs s_pot, defBody s_pot, defScope s_pot, [], []⟩
def d_many : He.DefD := ⟨("_law_many", none), "_law_many", "_law_many", defArgs s_many, defBody s_many, defScope s_many, [], []⟩
def d_longer : He.DefD := ⟨("_law_longer", none), "_law_longer", "_law_longer", defArgs s_longer, defBody s_longer, defScope s_longer, [], []⟩
def d_rows : He.DefD := ⟨("_law_rows", none), "_law_rows", "_law_rows", defArgs s_rows, defBody s_rows, defScope s_rows, [], []⟩
def d_unlike : He.DefD := ⟨("_law_unlike", none), "_law_unlike", "_law_unlike", defArgs s_unlike, defBody s_unlike, defScope s_unlike, [], []⟩
def d_truths : He.DefD := ⟨("_law_truths", none), "_law_truths", "_law_truths", defArgs s_truths, defBody s_truths, defScope s_truths, [], []⟩
def d_members : He.DefD := ⟨("_law_members", none), "_law_members", "_law_members", defArgs s_members, defBody s_members, defScope s_members, [], []⟩
def d_views : He.DefD := ⟨("_law_views", none), "_law_views", "_law_views", defArgs s_views, defBody s_views, defScope s_views, [], []⟩
def d_told : He.DefD := ⟨("_law_told", none), "_law_told", "_law_told", defArgs s_told, defBody s_told, defScope s_told, [], []⟩
def d_changed : He.DefD := ⟨("_law_changed", none), "_law_changed", "_law_changed", defArgs s_changed, defBody s_changed, defScope s_changed, [], []⟩
def d_refused : He.DefD := ⟨("_law_refused", none), "_law_refused", "_law_refused", defArgs s_refused, defBody s_refused, defScope s_refused, [], []⟩
def d_refusals : He.DefD := ⟨("_law_refusals", none), "_law_refusals", "_law_refusals", defArgs s_refusals, defBody s_refusals, defScope s_refusals, [], []⟩
def d_unlike_books : He.DefD := ⟨("_law_unlike_books", none), "_law_unlike_books", "_law_unlike_books", defArgs s_unlike_books, defBody s_unlike_books, defScope s_unlike_books, [], []⟩
def d_law : He.DefD := ⟨("law", none), "law", "law", defArgs s_law, defBody s_law, defScope s_law, [], []⟩
def fn : List He.DefD := ([d_BadInput_init, d_BadView_init, d_BadBook_init, d_NotInBook_init, d_UnlikeBooks_init, d_is_whole, d_check_entry, d_check_view, d_goes_on, d_Book_init, d_Book_eq, d_Book_len, d_Book_iter, d_Book_contains, d_Book_going_on, d_Book_first_going_on] : List He.DefD) ++ (([d_Book_with_entry, d_Book_without_entry, d_check_alike, d_book_within, d_joined_books, d_shared_book, d_book_less, d_draw, d_same, d_marked, d_spans, d_goes, d_way, d_entry, d_odd, d_bad_entry] : List He.DefD) ++ (([d_pot, d_many, d_longer, d_rows, d_unlike, d_truths, d_members, d_views, d_told, d_changed, d_refused, d_refusals, d_unlike_books, d_law] : List He.DefD)))
def loose : List PySem.Str := (["FirmError", "BadInput", "BadView", "BadBook", "NotInBook", "UnlikeBooks", "is_whole", "check_entry", "check_view", "goes_on", "MOST_INPUTS", "Book", "check_alike", "book_within", "joined_books", "shared_book"] : List PySem.Str) ++ ((["book_less", "_law_draw", "_law_same", "_law_marked", "_law_spans", "_law_goes", "_law_way", "_law_entry", "_law_odd", "_law_bad_entry", "_law_pot", "_law_many", "_law_longer", "_law_rows", "_law_unlike", "_law_truths"] : List PySem.Str) ++ ((["_law_members", "_law_views", "_law_told", "_law_changed", "_law_refused", "_law_refusals", "_law_unlike_books"] : List PySem.Str)))
def fa : List He.Fa := ([.glo "FirmError", .glo "BadInput", .glo "BadView", .glo "BadBook", .glo "NotInBook", .glo "UnlikeBooks", .glo "is_whole", .glo "check_entry", .glo "check_view", .glo "goes_on", .glo "Book", .glo "check_alike", .glo "book_within", .glo "joined_books", .glo "shared_book", .glo "book_less"] : List He.Fa) ++ (([.glo "_law_draw", .glo "_law_same", .glo "_law_marked", .glo "_law_spans", .glo "_law_goes", .glo "_law_way", .glo "_law_entry", .glo "_law_odd", .glo "_law_bad_entry", .glo "_law_pot", .glo "_law_many", .glo "_law_longer", .glo "_law_rows", .glo "_law_unlike", .glo "_law_truths", .glo "_law_members"] : List He.Fa) ++ (([.glo "_law_views", .glo "_law_told", .glo "_law_changed", .glo "_law_refused", .glo "_law_refusals", .glo "_law_unlike_books", .glo "law", .free "ValueError", .free "all", .free "bool", .free "enumerate", .free "int", .free "isinstance", .free "iter", .free "len", .free "list"] : List He.Fa) ++ (([.free "range", .free "repr", .free "reversed", .free "set", .free "sorted", .free "str", .free "tuple", .int "MOST_INPUTS" 256, .cls "Book", .mkr "Book", .noat "Book" "n", .noat "Book" "m", .noat "Book" "inputs", .meth "Book" "__init__", .meth "Book" "__eq__", .meth "Book" "__len__"] : List He.Fa) ++ (([.meth "Book" "__iter__", .meth "Book" "__contains__", .meth "Book" "going_on", .meth "Book" "first_going_on", .meth "Book" "with_entry", .meth "Book" "without_entry", .noat "BadInput" "what", .noat "BadInput" "house", .meth "BadInput" "__init__", .exm "BadInput" "FirmError" true, .noat "BadView" "what", .noat "BadView" "house", .meth "BadView" "__init__", .exm "BadView" "FirmError" true, .noat "BadBook" "what", .noat "BadBook" "at"] : List He.Fa) ++ (([.meth "BadBook" "__init__", .exm "BadBook" "FirmError" true, .noat "NotInBook" "entry", .meth "NotInBook" "__init__", .exm "NotInBook" "FirmError" true, .meth "UnlikeBooks" "__init__", .exm "UnlikeBooks" "FirmError" true, .exm "BadInput" "BadInput" true] : List He.Fa))))))
def oexB (K : PySem.W.Frag) (C : Addr) : Bool := match K.lookup C with
  | some ⟨.type t, _, .cls cd, sl⟩ => decide (t = "type") && (match cd.mro, sl.toList with
    | .ref C' :: bm, [_, _, _, _, some (.builtin n), _] => decide (C' = C) && (decide (n = "ValueError.__new__") && (!cd.hasDel && (cd.hasDict && PySem.HandSPX.refsVE bm)))
    | _, _ => false) && (decide (PySem.W.findIn K (.ref C) "__setattr__" = some (some (.builtin "object.__setattr__"))) && (decide (PySem.W.subIn K (.ref C) (.type "BaseException") = some true) &&
      (decide (PySem.W.typeIn K (.ref C) = some (.type "type")) && PySem.W.keepIn K (.ref C))))
  | _ => false
/-- x.__class__ of an instance of the class at C, as the library's isinstance asks it -/
def clB (K : PySem.W.Frag) (C : Addr) : Bool := (PySem.W.clsIn K C).isSome && (decide (PySem.W.findIn K (.ref C) "__class__" = some (some (.builtin "object.__class__"))) &&
  (decide (PySem.W.specialIn K (.builtin "object.__class__") "__get__" = some (some (.builtin "getset_descriptor.__get__"))) && (decide (PySem.W.takesIn K (.builtin "object.__class__") = some true) && decide (PySem.W.mroIn K C (.type "object") = some true))))
structure ClC (K : PySem.W.Frag) (C : Addr) : Prop where
  some_ : (PySem.W.clsIn K C).isSome = true
  cl : PySem.W.findIn K (.ref C) "__class__" = some (some (.builtin "object.__class__"))
  gt : PySem.W.specialIn K (.builtin "object.__class__") "__get__" = some (some (.builtin "getset_descriptor.__get__"))
  tk : PySem.W.takesIn K (.builtin "object.__class__") = some true
  ob : PySem.W.mroIn K C (.type "object") = some true
theorem and2 {a b : Bool} (h : (a && b) = true) : a = true ∧ b = true := Bool.and_eq_true_iff.mp h
theorem clB_ok {K : PySem.W.Frag} {C : Addr} (h : clB K C = true) : ClC K C := by
  obtain ⟨h1, h⟩ := and2 h
  obtain ⟨h2, h⟩ := and2 h
  obtain ⟨h3, h⟩ := and2 h
  obtain ⟨h4, h5⟩ := and2 h
  exact ⟨h1, of_decide_eq_true h2, of_decide_eq_true h3, of_decide_eq_true h4, of_decide_eq_true h5⟩
theorem oexB_ok {K : PySem.W.Frag} {C : Addr} (h : oexB K C = true) : OexC K C := by
  unfold oexB at h
  split at h
  · rename_i t dd cd sl ho
    obtain ⟨h0, h⟩ := and2 h
    obtain ⟨h1, hm⟩ := and2 h0
    obtain ⟨s1, h⟩ := and2 h
    obtain ⟨s2, h⟩ := and2 h
    obtain ⟨s3, s4⟩ := and2 h
    have et : t = "type" := of_decide_eq_true h1
    subst et
    split at hm
    · rename_i C' bm k0 k1 k2 k3 n k5 em es
      obtain ⟨e1, hm⟩ := and2 hm
      obtain ⟨e2, hm⟩ := and2 hm
      obtain ⟨e3, hm⟩ := and2 hm
      obtain ⟨e4, e5⟩ := and2 hm
      have eC : C' = C := of_decide_eq_true e1
      have en : n = "ValueError.__new__" := of_decide_eq_true e2
      subst eC en
      obtain ⟨nm, bs, mro, ns, qn, hd, sn, sub, ab, col, del⟩ := cd
      dsimp only at em e3 e4
      subst em
      have ed : del = false := by cases del with
        | false => rfl
        | true => cases e3
      subst ed e4
      have hsl : sl = #[k0, k1, k2, k3, some (.builtin "ValueError.__new__"), k5] := by
        obtain ⟨l⟩ := sl
        simp only at es
        rw [es]
      subst hsl
      exact ⟨⟨nm, qn, ns, bs, bm, sn, sub, ab, col, dd, k0, k1, k2, k3, k5, ho, e5⟩, of_decide_eq_true s1, of_decide_eq_true s2, of_decide_eq_true s3, s4⟩
    · cases hm
  · cases h
def kitB (K : PySem.W.Frag) (t c : Value) (b : Bool) : Bool := decide (PySem.W.kitOne K t c = some b)
def exs (K : PySem.W.Frag) : List Bool := ([oexB K (He.ga K "BadInput"), xfB K (He.ga K "BadInput"), clB K (He.ga K "BadInput"), oexB K (He.ga K "BadView"), xfB K (He.ga K "BadView"), clB K (He.ga K "BadView"), oexB K (He.ga K "BadBook"), xfB K (He.ga K "BadBook"), clB K (He.ga K "BadBook"), oexB K (He.ga K "NotInBook"), xfB K (He.ga K "NotInBook"), clB K (He.ga K "NotInBook"), oexB K (He.ga K "UnlikeBooks"), xfB K (He.ga K "UnlikeBooks"), clB K (He.ga K "UnlikeBooks"), kitB K (.ref (He.ga K "BadInput")) (.ref (He.ga K "BadInput")) true] : List Bool) ++ (([kitB K (.ref (He.ga K "BadInput")) (.ref (He.ga K "BadView")) false, kitB K (.ref (He.ga K "BadInput")) (.ref (He.ga K "NotInBook")) false, kitB K (.ref (He.ga K "BadInput")) (.ref (He.ga K "BadBook")) false, kitB K (.ref (He.ga K "BadInput")) (.ref (He.ga K "UnlikeBooks")) false, kitB K (.ref (He.ga K "BadInput")) (.type "ValueError") true, kitB K (.ref (He.ga K "BadView")) (.ref (He.ga K "BadInput")) false, kitB K (.ref (He.ga K "BadView")) (.ref (He.ga K "BadView")) true, kitB K (.ref (He.ga K "BadView")) (.ref (He.ga K "NotInBook")) false, kitB K (.ref (He.ga K "BadView")) (.ref (He.ga K "BadBook")) false, kitB K (.ref (He.ga K "BadView")) (.ref (He.ga K "UnlikeBooks")) false, kitB K (.ref (He.ga K "BadView")) (.type "ValueError") true, kitB K (.ref (He.ga K "BadBook")) (.ref (He.ga K "BadInput")) false, kitB K (.ref (He.ga K "BadBook")) (.ref (He.ga K "BadView")) false, kitB K (.ref (He.ga K "BadBook")) (.ref (He.ga K "NotInBook")) false, kitB K (.ref (He.ga K "BadBook")) (.ref (He.ga K "BadBook")) true, kitB K (.ref (He.ga K "BadBook")) (.ref (He.ga K "UnlikeBooks")) false] : List Bool) ++ (([kitB K (.ref (He.ga K "BadBook")) (.type "ValueError") true, kitB K (.ref (He.ga K "NotInBook")) (.ref (He.ga K "BadInput")) false, kitB K (.ref (He.ga K "NotInBook")) (.ref (He.ga K "BadView")) false, kitB K (.ref (He.ga K "NotInBook")) (.ref (He.ga K "NotInBook")) true, kitB K (.ref (He.ga K "NotInBook")) (.ref (He.ga K "BadBook")) false, kitB K (.ref (He.ga K "NotInBook")) (.ref (He.ga K "UnlikeBooks")) false, kitB K (.ref (He.ga K "NotInBook")) (.type "ValueError") true, kitB K (.ref (He.ga K "UnlikeBooks")) (.ref (He.ga K "BadInput")) false, kitB K (.ref (He.ga K "UnlikeBooks")) (.ref (He.ga K "BadView")) false, kitB K (.ref (He.ga K "UnlikeBooks")) (.ref (He.ga K "NotInBook")) false, kitB K (.ref (He.ga K "UnlikeBooks")) (.ref (He.ga K "BadBook")) false, kitB K (.ref (He.ga K "UnlikeBooks")) (.ref (He.ga K "UnlikeBooks")) true, kitB K (.ref (He.ga K "UnlikeBooks")) (.type "ValueError") true, clB K (He.ga K "Book"), kitB K (.ref (He.ga K "Book")) (.ref (He.ga K "Book")) true, kitB K (.type "tuple") (.ref (He.ga K "Book")) false] : List Bool)))
def exB (K : PySem.W.Frag) : Bool := (exs K).all id
/-- what the head tells -/
structure Txt (K : PySem.W.Frag) (mg : Str → Option Value) : Prop where
  says : He.SaysD fa fn K
  more : exB K = true
  at_ : ∃ h : Heap, K.In h ∧ h.Ns mainGlobals mg
namespace Txt
variable {K : PySem.W.Frag} {mg : Str → Option Value}
theorem fact (T : Txt K mg) (i : Nat) {f : He.Fa} (h : fa[i]? = some f) : f.ok K = true := He.SaysD.fact T.says i h
theorem def_ (T : Txt K mg) (i : Nat) {d : He.DefD} (h : fn[i]? = some d) : ∃ fd, FunD K d.name d.qual d.params d.body d.scope (d.dvs K) (d.kws K) (He.fAd K d.at_) fd := He.SaysD.def_ T.says i h
theorem ext (T : Txt K mg) (i : Nat) {b : Bool} (h : (exs K)[i]? = some b) : b = true := List.all_eq_true.mp T.more b (List.mem_of_getElem? h)

theorem g_FirmError (T : Txt K mg) : mg "FirmError" = some (.ref (He.ga K "FirmError")) := He.glo_ok T.at_.choose_spec.1 T.at_.choose_spec.2 (T.fact 0 rfl)
theorem g_BadInput (T : Txt K mg) : mg "BadInput" = some (.ref (He.ga K "BadInput")) := He.glo_ok T.at_.choose_spec.1 T.at_.choose_spec.2 (T.fact 1 rfl)
theorem g_BadView (T : Txt K mg) : mg "BadView" = some (.ref (He.ga K "BadView")) := He.glo_ok T.at_.choose_spec.1 T.at_.choose_spec.2 (T.fact 2 rfl)
theorem g_BadBook (T : Txt K mg) : mg "BadBook" = some (.ref (He.ga K "BadBook")) := He.glo_ok T.at_.choose_spec.1 T.at_.choose_spec.2 (T.fact 3 rfl)
theorem g_NotInBook (T : Txt K mg) : mg "NotInBook" = some (.ref (He.ga K "NotInBook")) := He.glo_ok T.at_.choose_spec.1 T.at_.choose_spec.2 (T.fact 4 rfl)
theorem g_UnlikeBooks (T : Txt K mg) : mg "UnlikeBooks" = some (.ref (He.ga K "UnlikeBooks")) := He.glo_ok T.at_.choose_spec.1 T.at_.choose_spec.2 (T.fact 5 rfl)
theorem g_is_whole (T : Txt K mg) : mg "is_whole" = some (.ref (He.ga K "is_whole")) := He.glo_ok T.at_.choose_spec.1 T.at_.choose_spec.2 (T.fact 6 rfl)
theorem g_check_entry (T : Txt K mg) : mg "check_entry" = some (.ref (He.ga K "check_entry")) := He.glo_ok T.at_.choose_spec.1 T.at_.choose_spec.2 (T.fact 7 rfl)
theorem g_check_view (T : Txt K mg) : mg "check_view" = some (.ref (He.ga K "check_view")) := He.glo_ok T.at_.choose_spec.1 T.at_.choose_spec.2 (T.fact 8 rfl)
theorem g_goes_on (T : Txt K mg) : mg "goes_on" = some (.ref (He.ga K "goes_on")) := He.glo_ok T.at_.choose_spec.1 T.at_.choose_spec.2 (T.fact 9 rfl)
theorem g_Book (T : Txt K mg) : mg "Book" = some (.ref (He.ga K "Book")) := He.glo_ok T.at_.choose_spec.1 T.at_.choose_spec.2 (T.fact 10 rfl)
theorem g_check_alike (T : Txt K mg) : mg "check_alike" = some (.ref (He.ga K "check_alike")) := He.glo_ok T.at_.choose_spec.1 T.at_.choose_spec.2 (T.fact 11 rfl)
theorem g_book_within (T : Txt K mg) : mg "book_within" = some (.ref (He.ga K "book_within")) := He.glo_ok T.at_.choose_spec.1 T.at_.choose_spec.2 (T.fact 12 rfl)
theorem g_joined_books (T : Txt K mg) : mg "joined_books" = some (.ref (He.ga K "joined_books")) := He.glo_ok T.at_.choose_spec.1 T.at_.choose_spec.2 (T.fact 13 rfl)
theorem g_shared_book (T : Txt K mg) : mg "shared_book" = some (.ref (He.ga K "shared_book")) := He.glo_ok T.at_.choose_spec.1 T.at_.choose_spec.2 (T.fact 14 rfl)
theorem g_book_less (T : Txt K mg) : mg "book_less" = some (.ref (He.ga K "book_less")) := He.glo_ok T.at_.choose_spec.1 T.at_.choose_spec.2 (T.fact 15 rfl)
theorem g_draw (T : Txt K mg) : mg "_law_draw" = some (.ref (He.ga K "_law_draw")) := He.glo_ok T.at_.choose_spec.1 T.at_.choose_spec.2 (T.fact 16 rfl)
theorem g_same (T : Txt K mg) : mg "_law_same" = some (.ref (He.ga K "_law_same")) := He.glo_ok T.at_.choose_spec.1 T.at_.choose_spec.2 (T.fact 17 rfl)
theorem g_marked (T : Txt K mg) : mg "_law_marked" = some (.ref (He.ga K "_law_marked")) := He.glo_ok T.at_.choose_spec.1 T.at_.choose_spec.2 (T.fact 18 rfl)
theorem g_spans (T : Txt K mg) : mg "_law_spans" = some (.ref (He.ga K "_law_spans")) := He.glo_ok T.at_.choose_spec.1 T.at_.choose_spec.2 (T.fact 19 rfl)
theorem g_goes (T : Txt K mg) : mg "_law_goes" = some (.ref (He.ga K "_law_goes")) := He.glo_ok T.at_.choose_spec.1 T.at_.choose_spec.2 (T.fact 20 rfl)
theorem g_way (T : Txt K mg) : mg "_law_way" = some (.ref (He.ga K "_law_way")) := He.glo_ok T.at_.choose_spec.1 T.at_.choose_spec.2 (T.fact 21 rfl)
theorem g_entry (T : Txt K mg) : mg "_law_entry" = some (.ref (He.ga K "_law_entry")) := He.glo_ok T.at_.choose_spec.1 T.at_.choose_spec.2 (T.fact 22 rfl)
theorem g_odd (T : Txt K mg) : mg "_law_odd" = some (.ref (He.ga K "_law_odd")) := He.glo_ok T.at_.choose_spec.1 T.at_.choose_spec.2 (T.fact 23 rfl)
theorem g_bad_entry (T : Txt K mg) : mg "_law_bad_entry" = some (.ref (He.ga K "_law_bad_entry")) := He.glo_ok T.at_.choose_spec.1 T.at_.choose_spec.2 (T.fact 24 rfl)
theorem g_pot (T : Txt K mg) : mg "_law_pot" = some (.ref (He.ga K "_law_pot")) := He.glo_ok T.at_.choose_spec.1 T.at_.choose_spec.2 (T.fact 25 rfl)
theorem g_many (T : Txt K mg) : mg "_law_many" = some (.ref (He.ga K "_law_many")) := He.glo_ok T.at_.choose_spec.1 T.at_.choose_spec.2 (T.fact 26 rfl)
theorem g_longer (T : Txt K mg) : mg "_law_longer" = some (.ref (He.ga K "_law_longer")) := He.glo_ok T.at_.choose_spec.1 T.at_.choose_spec.2 (T.fact 27 rfl)
theorem g_rows (T : Txt K mg) : mg "_law_rows" = some (.ref (He.ga K "_law_rows")) := He.glo_ok T.at_.choose_spec.1 T.at_.choose_spec.2 (T.fact 28 rfl)
theorem g_unlike (T : Txt K mg) : mg "_law_unlike" = some (.ref (He.ga K "_law_unlike")) := He.glo_ok T.at_.choose_spec.1 T.at_.choose_spec.2 (T.fact 29 rfl)
theorem g_truths (T : Txt K mg) : mg "_law_truths" = some (.ref (He.ga K "_law_truths")) := He.glo_ok T.at_.choose_spec.1 T.at_.choose_spec.2 (T.fact 30 rfl)
theorem g_members (T : Txt K mg) : mg "_law_members" = some (.ref (He.ga K "_law_members")) := He.glo_ok T.at_.choose_spec.1 T.at_.choose_spec.2 (T.fact 31 rfl)
theorem g_views (T : Txt K mg) : mg "_law_views" = some (.ref (He.ga K "_law_views")) := He.glo_ok T.at_.choose_spec.1 T.at_.choose_spec.2 (T.fact 32 rfl)
theorem g_told (T : Txt K mg) : mg "_law_told" = some (.ref (He.ga K "_law_told")) := He.glo_ok T.at_.choose_spec.1 T.at_.choose_spec.2 (T.fact 33 rfl)
theorem g_changed (T : Txt K mg) : mg "_law_changed" = some (.ref (He.ga K "_law_changed")) := He.glo_ok T.at_.choose_spec.1 T.at_.choose_spec.2 (T.fact 34 rfl)
theorem g_refused (T : Txt K mg) : mg "_law_refused" = some (.ref (He.ga K "_law_refused")) := He.glo_ok T.at_.choose_spec.1 T.at_.choose_spec.2 (T.fact 35 rfl)
theorem g_refusals (T : Txt K mg) : mg "_law_refusals" = some (.ref (He.ga K "_law_refusals")) := He.glo_ok T.at_.choose_spec.1 T.at_.choose_spec.2 (T.fact 36 rfl)
theorem g_unlike_books (T : Txt K mg) : mg "_law_unlike_books" = some (.ref (He.ga K "_law_unlike_books")) := He.glo_ok T.at_.choose_spec.1 T.at_.choose_spec.2 (T.fact 37 rfl)
theorem g_law (T : Txt K mg) : mg "law" = some (.ref (He.ga K "law")) := He.glo_ok T.at_.choose_spec.1 T.at_.choose_spec.2 (T.fact 38 rfl)
theorem n_ValueError (T : Txt K mg) : mg "ValueError" = none := He.free_ok T.at_.choose_spec.1 T.at_.choose_spec.2 (T.fact 39 rfl)
theorem n_all (T : Txt K mg) : mg "all" = none := He.free_ok T.at_.choose_spec.1 T.at_.choose_spec.2 (T.fact 40 rfl)
theorem n_bool (T : Txt K mg) : mg "bool" = none := He.free_ok T.at_.choose_spec.1 T.at_.choose_spec.2 (T.fact 41 rfl)
theorem n_enumerate (T : Txt K mg) : mg "enumerate" = none := He.free_ok T.at_.choose_spec.1 T.at_.choose_spec.2 (T.fact 42 rfl)
theorem n_int (T : Txt K mg) : mg "int" = none := He.free_ok T.at_.choose_spec.1 T.at_.choose_spec.2 (T.fact 43 rfl)
theorem n_isinstance (T : Txt K mg) : mg "isinstance" = none := He.free_ok T.at_.choose_spec.1 T.at_.choose_spec.2 (T.fact 44 rfl)
theorem n_iter (T : Txt K mg) : mg "iter" = none := He.free_ok T.at_.choose_spec.1 T.at_.choose_spec.2 (T.fact 45 rfl)
theorem n_len (T : Txt K mg) : mg "len" = none := He.free_ok T.at_.choose_spec.1 T.at_.choose_spec.2 (T.fact 46 rfl)
theorem n_list (T : Txt K mg) : mg "list" = none := He.free_ok T.at_.choose_spec.1 T.at_.choose_spec.2 (T.fact 47 rfl)
theorem n_range (T : Txt K mg) : mg "range" = none := He.free_ok T.at_.choose_spec.1 T.at_.choose_spec.2 (T.fact 48 rfl)
theorem n_repr (T : Txt K mg) : mg "repr" = none := He.free_ok T.at_.choose_spec.1 T.at_.choose_spec.2 (T.fact 49 rfl)
theorem n_reversed (T : Txt K mg) : mg "reversed" = none := He.free_ok T.at_.choose_spec.1 T.at_.choose_spec.2 (T.fact 50 rfl)
theorem n_set (T : Txt K mg) : mg "set" = none := He.free_ok T.at_.choose_spec.1 T.at_.choose_spec.2 (T.fact 51 rfl)
theorem n_sorted (T : Txt K mg) : mg "sorted" = none := He.free_ok T.at_.choose_spec.1 T.at_.choose_spec.2 (T.fact 52 rfl)
theorem n_str (T : Txt K mg) : mg "str" = none := He.free_ok T.at_.choose_spec.1 T.at_.choose_spec.2 (T.fact 53 rfl)
theorem n_tuple (T : Txt K mg) : mg "tuple" = none := He.free_ok T.at_.choose_spec.1 T.at_.choose_spec.2 (T.fact 54 rfl)
theorem most (T : Txt K mg) : ∃ t, mg "MOST_INPUTS" = some (.int 256 t) := He.int_ok T.at_.choose_spec.1 T.at_.choose_spec.2 (T.fact 55 rfl)
theorem cBook (T : Txt K mg) : Cls K (He.ga K "Book") := He.cls_ok (T.fact 56 rfl)
theorem kBook (T : Txt K mg) : Mk K (He.ga K "Book") (He.ma K (He.ga K "Book") "__init__") := He.mkr_ok (T.fact 57 rfl)
theorem a_Book_n (T : Txt K mg) : NoAttr K (He.ga K "Book") "n" := He.noat_ok (T.fact 58 rfl)
theorem a_Book_m (T : Txt K mg) : NoAttr K (He.ga K "Book") "m" := He.noat_ok (T.fact 59 rfl)
theorem a_Book_inputs (T : Txt K mg) : NoAttr K (He.ga K "Book") "inputs" := He.noat_ok (T.fact 60 rfl)
theorem m_Book_init (T : Txt K mg) : Meth K (He.ga K "Book") "__init__" (He.ma K (He.ga K "Book") "__init__") := He.meth_ok (T.fact 61 rfl)
theorem m_Book_eq (T : Txt K mg) : Meth K (He.ga K "Book") "__eq__" (He.ma K (He.ga K "Book") "__eq__") := He.meth_ok (T.fact 62 rfl)
theorem m_Book_len (T : Txt K mg) : Meth K (He.ga K "Book") "__len__" (He.ma K (He.ga K "Book") "__len__") := He.meth_ok (T.fact 63 rfl)
theorem m_Book_iter (T : Txt K mg) : Meth K (He.ga K "Book") "__iter__" (He.ma K (He.ga K "Book") "__iter__") := He.meth_ok (T.fact 64 rfl)
theorem m_Book_contains (T : Txt K mg) : Meth K (He.ga K "Book") "__contains__" (He.ma K (He.ga K "Book") "__contains__") := He.meth_ok (T.fact 65 rfl)
theorem m_Book_going_on (T : Txt K mg) : Meth K (He.ga K "Book") "going_on" (He.ma K (He.ga K "Book") "going_on") := He.meth_ok (T.fact 66 rfl)
theorem m_Book_first_going_on (T : Txt K mg) : Meth K (He.ga K "Book") "first_going_on" (He.ma K (He.ga K "Book") "first_going_on") := He.meth_ok (T.fact 67 rfl)
theorem m_Book_with_entry (T : Txt K mg) : Meth K (He.ga K "Book") "with_entry" (He.ma K (He.ga K "Book") "with_entry") := He.meth_ok (T.fact 68 rfl)
theorem m_Book_without_entry (T : Txt K mg) : Meth K (He.ga K "Book") "without_entry" (He.ma K (He.ga K "Book") "without_entry") := He.meth_ok (T.fact 69 rfl)
theorem a_BadInput_what (T : Txt K mg) : NoAttr K (He.ga K "BadInput") "what" := He.noat_ok (T.fact 70 rfl)
theorem a_BadInput_house (T : Txt K mg) : NoAttr K (He.ga K "BadInput") "house" := He.noat_ok (T.fact 71 rfl)
theorem m_BadInput_init (T : Txt K mg) : Meth K (He.ga K "BadInput") "__init__" (He.ma K (He.ga K "BadInput") "__init__") := He.meth_ok (T.fact 72 rfl)
theorem x_BadInput_Firm (T : Txt K mg) : PySem.W.exmOne K (.ref (He.ga K "BadInput")) (.ref (He.ga K "FirmError")) = some true := He.exm_ok (T.fact 73 rfl)
theorem a_BadView_what (T : Txt K mg) : NoAttr K (He.ga K "BadView") "what" := He.noat_ok (T.fact 74 rfl)
theorem a_BadView_house (T : Txt K mg) : NoAttr K (He.ga K "BadView") "house" := He.noat_ok (T.fact 75 rfl)
theorem m_BadView_init (T : Txt K mg) : Meth K (He.ga K "BadView") "__init__" (He.ma K (He.ga K "BadView") "__init__") := He.meth_ok (T.fact 76 rfl)
theorem x_BadView_Firm (T : Txt K mg) : PySem.W.exmOne K (.ref (He.ga K "BadView")) (.ref (He.ga K "FirmError")) = some true := He.exm_ok (T.fact 77 rfl)
theorem a_BadBook_what (T : Txt K mg) : NoAttr K (He.ga K "BadBook") "what" := He.noat_ok (T.fact 78 rfl)
theorem a_BadBook_at (T : Txt K mg) : NoAttr K (He.ga K "BadBook") "at" := He.noat_ok (T.fact 79 rfl)
theorem m_BadBook_init (T : Txt K mg) : Meth K (He.ga K "BadBook") "__init__" (He.ma K (He.ga K "BadBook") "__init__") := He.meth_ok (T.fact 80 rfl)
theorem x_BadBook_Firm (T : Txt K mg) : PySem.W.exmOne K (.ref (He.ga K "BadBook")) (.ref (He.ga K "FirmError")) = some true := He.exm_ok (T.fact 81 rfl)
theorem a_NotInBook_entry (T : Txt K mg) : NoAttr K (He.ga K "NotInBook") "entry" := He.noat_ok (T.fact 82 rfl)
theorem m_NotInBook_init (T : Txt K mg) : Meth K (He.ga K "NotInBook") "__init__" (He.ma K (He.ga K "NotInBook") "__init__") := He.meth_ok (T.fact 83 rfl)
theorem x_NotInBook_Firm (T : Txt K mg) : PySem.W.exmOne K (.ref (He.ga K "NotInBook")) (.ref (He.ga K "FirmError")) = some true := He.exm_ok (T.fact 84 rfl)
theorem m_UnlikeBooks_init (T : Txt K mg) : Meth K (He.ga K "UnlikeBooks") "__init__" (He.ma K (He.ga K "UnlikeBooks") "__init__") := He.meth_ok (T.fact 85 rfl)
theorem x_UnlikeBooks_Firm (T : Txt K mg) : PySem.W.exmOne K (.ref (He.ga K "UnlikeBooks")) (.ref (He.ga K "FirmError")) = some true := He.exm_ok (T.fact 86 rfl)
theorem x_BadInput_BadInput (T : Txt K mg) : PySem.W.exmOne K (.ref (He.ga K "BadInput")) (.ref (He.ga K "BadInput")) = some true := He.exm_ok (T.fact 87 rfl)
theorem o_BadInput (T : Txt K mg) : OexC K (He.ga K "BadInput") := oexB_ok (T.ext 0 rfl)
theorem f_BadInput (T : Txt K mg) : XfC K (He.ga K "BadInput") := xfB_ok (T.ext 1 rfl)
theorem l_BadInput (T : Txt K mg) : ClC K (He.ga K "BadInput") := clB_ok (T.ext 2 rfl)
theorem o_BadView (T : Txt K mg) : OexC K (He.ga K "BadView") := oexB_ok (T.ext 3 rfl)
theorem f_BadView (T : Txt K mg) : XfC K (He.ga K "BadView") := xfB_ok (T.ext 4 rfl)
theorem l_BadView (T : Txt K mg) : ClC K (He.ga K "BadView") := clB_ok (T.ext 5 rfl)
theorem o_BadBook (T : Txt K mg) : OexC K (He.ga K "BadBook") := oexB_ok (T.ext 6 rfl)
theorem f_BadBook (T : Txt K mg) : XfC K (He.ga K "BadBook") := xfB_ok (T.ext 7 rfl)
theorem l_BadBook (T : Txt K mg) : ClC K (He.ga K "BadBook") := clB_ok (T.ext 8 rfl)
theorem o_NotInBook (T : Txt K mg) : OexC K (He.ga K "NotInBook") := oexB_ok (T.ext 9 rfl)
theorem f_NotInBook (T : Txt K mg) : XfC K (He.ga K "NotInBook") := xfB_ok (T.ext 10 rfl)
theorem l_NotInBook (T : Txt K mg) : ClC K (He.ga K "NotInBook") := clB_ok (T.ext 11 rfl)
theorem o_UnlikeBooks (T : Txt K mg) : OexC K (He.ga K "UnlikeBooks") := oexB_ok (T.ext 12 rfl)
theorem f_UnlikeBooks (T : Txt K mg) : XfC K (He.ga K "UnlikeBooks") := xfB_ok (T.ext 13 rfl)
theorem l_UnlikeBooks (T : Txt K mg) : ClC K (He.ga K "UnlikeBooks") := clB_ok (T.ext 14 rfl)
theorem i_BadInput_BadInput (T : Txt K mg) : PySem.W.kitOne K (.ref (He.ga K "BadInput")) (.ref (He.ga K "BadInput")) = some true := of_decide_eq_true (T.ext 15 rfl)
theorem i_BadInput_BadView (T : Txt K mg) : PySem.W.kitOne K (.ref (He.ga K "BadInput")) (.ref (He.ga K "BadView")) = some false := of_decide_eq_true (T.ext 16 rfl)
theorem i_BadInput_NotInBook (T : Txt K mg) : PySem.W.kitOne K (.ref (He.ga K "BadInput")) (.ref (He.ga K "NotInBook")) = some false := of_decide_eq_true (T.ext 17 rfl)
theorem i_BadInput_BadBook (T : Txt K mg) : PySem.W.kitOne K (.ref (He.ga K "BadInput")) (.ref (He.ga K "BadBook")) = some false := of_decide_eq_true (T.ext 18 rfl)
theorem i_BadInput_UnlikeBooks (T : Txt K mg) : PySem.W.kitOne K (.ref (He.ga K "BadInput")) (.ref (He.ga K "UnlikeBooks")) = some false := of_decide_eq_true (T.ext 19 rfl)
theorem i_BadInput_ValueError (T : Txt K mg) : PySem.W.kitOne K (.ref (He.ga K "BadInput")) (.type "ValueError") = some true := of_decide_eq_true (T.ext 20 rfl)
theorem i_BadView_BadInput (T : Txt K mg) : PySem.W.kitOne K (.ref (He.ga K "BadView")) (.ref (He.ga K "BadInput")) = some false := of_decide_eq_true (T.ext 21 rfl)
theorem i_BadView_BadView (T : Txt K mg) : PySem.W.kitOne K (.ref (He.ga K "BadView")) (.ref (He.ga K "BadView")) = some true := of_decide_eq_true (T.ext 22 rfl)
theorem i_BadView_NotInBook (T : Txt K mg) : PySem.W.kitOne K (.ref (He.ga K "BadView")) (.ref (He.ga K "NotInBook")) = some false := of_decide_eq_true (T.ext 23 rfl)
theorem i_BadView_BadBook (T : Txt K mg) : PySem.W.kitOne K (.ref (He.ga K "BadView")) (.ref (He.ga K "BadBook")) = some false := of_decide_eq_true (T.ext 24 rfl)
theorem i_BadView_UnlikeBooks (T : Txt K mg) : PySem.W.kitOne K (.ref (He.ga K "BadView")) (.ref (He.ga K "UnlikeBooks")) = some false := of_decide_eq_true (T.ext 25 rfl)
theorem i_BadView_ValueError (T : Txt K mg) : PySem.W.kitOne K (.ref (He.ga K "BadView")) (.type "ValueError") = some true := of_decide_eq_true (T.ext 26 rfl)
theorem i_BadBook_BadInput (T : Txt K mg) : PySem.W.kitOne K (.ref (He.ga K "BadBook")) (.ref (He.ga K "BadInput")) = some false := of_decide_eq_true (T.ext 27 rfl)
theorem i_BadBook_BadView (T : Txt K mg) : PySem.W.kitOne K (.ref (He.ga K "BadBook")) (.ref (He.ga K "BadView")) = some false := of_decide_eq_true (T.ext 28 rfl)
theorem i_BadBook_NotInBook (T : Txt K mg) : PySem.W.kitOne K (.ref (He.ga K "BadBook")) (.ref (He.ga K "NotInBook")) = some false := of_decide_eq_true (T.ext 29 rfl)
theorem i_BadBook_BadBook (T : Txt K mg) : PySem.W.kitOne K (.ref (He.ga K "BadBook")) (.ref (He.ga K "BadBook")) = some true := of_decide_eq_true (T.ext 30 rfl)
theorem i_BadBook_UnlikeBooks (T : Txt K mg) : PySem.W.kitOne K (.ref (He.ga K "BadBook")) (.ref (He.ga K "UnlikeBooks")) = some false := of_decide_eq_true (T.ext 31 rfl)
theorem i_BadBook_ValueError (T : Txt K mg) : PySem.W.kitOne K (.ref (He.ga K "BadBook")) (.type "ValueError") = some true := of_decide_eq_true (T.ext 32 rfl)
theorem i_NotInBook_BadInput (T : Txt K mg) : PySem.W.kitOne K (.ref (He.ga K "NotInBook")) (.ref (He.ga K "BadInput")) = some false := of_decide_eq_true (T.ext 33 rfl)
theorem i_NotInBook_BadView (T : Txt K mg) : PySem.W.kitOne K (.ref (He.ga K "NotInBook")) (.ref (He.ga K "BadView")) = some false := of_decide_eq_true (T.ext 34 rfl)
theorem i_NotInBook_NotInBook (T : Txt K mg) : PySem.W.kitOne K (.ref (He.ga K "NotInBook")) (.ref (He.ga K "NotInBook")) = some true := of_decide_eq_true (T.ext 35 rfl)
theorem i_NotInBook_BadBook (T : Txt K mg) : PySem.W.kitOne K (.ref (He.ga K "NotInBook")) (.ref (He.ga K "BadBook")) = some false := of_decide_eq_true (T.ext 36 rfl)
theorem i_NotInBook_UnlikeBooks (T : Txt K mg) : PySem.W.kitOne K (.ref (He.ga K "NotInBook")) (.ref (He.ga K "UnlikeBooks")) = some false := of_decide_eq_true (T.ext 37 rfl)
theorem i_NotInBook_ValueError (T : Txt K mg) : PySem.W.kitOne K (.ref (He.ga K "NotInBook")) (.type "ValueError") = some true := of_decide_eq_true (T.ext 38 rfl)
theorem i_UnlikeBooks_BadInput (T : Txt K mg) : PySem.W.kitOne K (.ref (He.ga K "UnlikeBooks")) (.ref (He.ga K "BadInput")) = some false := of_decide_eq_true (T.ext 39 rfl)
theorem i_UnlikeBooks_BadView (T : Txt K mg) : PySem.W.kitOne K (.ref (He.ga K "UnlikeBooks")) (.ref (He.ga K "BadView")) = some false := of_decide_eq_true (T.ext 40 rfl)
theorem i_UnlikeBooks_NotInBook (T : Txt K mg) : PySem.W.kitOne K (.ref (He.ga K "UnlikeBooks")) (.ref (He.ga K "NotInBook")) = some false := of_decide_eq_true (T.ext 41 rfl)
theorem i_UnlikeBooks_BadBook (T : Txt K mg) : PySem.W.kitOne K (.ref (He.ga K "UnlikeBooks")) (.ref (He.ga K "BadBook")) = some false := of_decide_eq_true (T.ext 42 rfl)
theorem i_UnlikeBooks_UnlikeBooks (T : Txt K mg) : PySem.W.kitOne K (.ref (He.ga K "UnlikeBooks")) (.ref (He.ga K "UnlikeBooks")) = some true := of_decide_eq_true (T.ext 43 rfl)
theorem i_UnlikeBooks_ValueError (T : Txt K mg) : PySem.W.kitOne K (.ref (He.ga K "UnlikeBooks")) (.type "ValueError") = some true := of_decide_eq_true (T.ext 44 rfl)
theorem l_Book (T : Txt K mg) : ClC K (He.ga K "Book") := clB_ok (T.ext 45 rfl)
theorem i_Book_Book (T : Txt K mg) : PySem.W.kitOne K (.ref (He.ga K "Book")) (.ref (He.ga K "Book")) = some true := of_decide_eq_true (T.ext 46 rfl)
theorem i_tuple_Book (T : Txt K mg) : PySem.W.kitOne K (.type "tuple") (.ref (He.ga K "Book")) = some false := of_decide_eq_true (T.ext 47 rfl)
theorem u_BadInput_init (T : Txt K mg) : ∃ fd, FunD K "__init__" "BadInput.__init__" (defArgs s_BadInput_init) (defBody s_BadInput_init) (defScope s_BadInput_init) [] [] (He.ma K (He.ga K "BadInput") "__init__") fd := T.def_ 0 (d := d_BadInput_init) rfl
theorem u_BadView_init (T : Txt K mg) : ∃ fd, FunD K "__init__" "BadView.__init__" (defArgs s_BadView_init) (defBody s_BadView_init) (defScope s_BadView_init) [] [] (He.ma K (He.ga K "BadView") "__init__") fd := T.def_ 1 (d := d_BadView_init) rfl
theorem u_BadBook_init (T : Txt K mg) : ∃ fd, FunD K "__init__" "BadBook.__init__" (defArgs s_BadBook_init) (defBody s_BadBook_init) (defScope s_BadBook_init) [] [] (He.ma K (He.ga K "BadBook") "__init__") fd := T.def_ 2 (d := d_BadBook_init) rfl
theorem u_NotInBook_init (T : Txt K mg) : ∃ fd, FunD K "__init__" "NotInBook.__init__" (defArgs s_NotInBook_init) (defBody s_NotInBook_init) (defScope s_NotInBook_init) [] [] (He.ma K (He.ga K "NotInBook") "__init__") fd := T.def_ 3 (d := d_NotInBook_init) rfl
theorem u_UnlikeBooks_init (T : Txt K mg) : ∃ fd, FunD K "__init__" "UnlikeBooks.__init__" (defArgs s_UnlikeBooks_init) (defBody s_UnlikeBooks_init) (defScope s_UnlikeBooks_init) [] [] (He.ma K (He.ga K "UnlikeBooks") "__init__") fd := T.def_ 4 (d := d_UnlikeBooks_init) rfl
theorem u_is_whole (T : Txt K mg) : ∃ fd, FunD K "is_whole" "is_whole" (defArgs s_is_whole) (defBody s_is_whole) (defScope s_is_whole) [V.non, V.non] [] (He.ga K "is_whole") fd := T.def_ 5 (d := d_is_whole) rfl
theorem u_check_entry (T : Txt K mg) : ∃ fd, FunD K "check_entry" "check_entry" (defArgs s_check_entry) (defBody s_check_entry) (defScope s_check_entry) [] [] (He.ga K "check_entry") fd := T.def_ 6 (d := d_check_entry) rfl
theorem u_check_view (T : Txt K mg) : ∃ fd, FunD K "check_view" "check_view" (defArgs s_check_view) (defBody s_check_view) (defScope s_check_view) [] [] (He.ga K "check_view") fd := T.def_ 7 (d := d_check_view) rfl
theorem u_goes_on (T : Txt K mg) : ∃ fd, FunD K "goes_on" "goes_on" (defArgs s_goes_on) (defBody s_goes_on) (defScope s_goes_on) [] [] (He.ga K "goes_on") fd := T.def_ 8 (d := d_goes_on) rfl
theorem u_Book_init (T : Txt K mg) : ∃ fd, FunD K "__init__" "Book.__init__" (defArgs s_Book_init) (defBody s_Book_init) (defScope s_Book_init) [] [] (He.ma K (He.ga K "Book") "__init__") fd := T.def_ 9 (d := d_Book_init) rfl
theorem u_Book_eq (T : Txt K mg) : ∃ fd, FunD K "__eq__" "Book.__eq__" (defArgs s_Book_eq) (defBody s_Book_eq) (defScope s_Book_eq) [] [] (He.ma K (He.ga K "Book") "__eq__") fd := T.def_ 10 (d := d_Book_eq) rfl
theorem u_Book_len (T : Txt K mg) : ∃ fd, FunD K "__len__" "Book.__len__" (defArgs s_Book_len) (defBody s_Book_len) (defScope s_Book_len) [] [] (He.ma K (He.ga K "Book") "__len__") fd := T.def_ 11 (d := d_Book_len) rfl
theorem u_Book_iter (T : Txt K mg) : ∃ fd, FunD K "__iter__" "Book.__iter__" (defArgs s_Book_iter) (defBody s_Book_iter) (defScope s_Book_iter) [] [] (He.ma K (He.ga K "Book") "__iter__") fd := T.def_ 12 (d := d_Book_iter) rfl
theorem u_Book_contains (T : Txt K mg) : ∃ fd, FunD K "__contains__" "Book.__contains__" (defArgs s_Book_contains) (defBody s_Book_contains) (defScope s_Book_contains) [] [] (He.ma K (He.ga K "Book") "__contains__") fd := T.def_ 13 (d := d_Book_contains) rfl
theorem u_Book_going_on (T : Txt K mg) : ∃ fd, FunD K "going_on" "Book.going_on" (defArgs s_Book_going_on) (defBody s_Book_going_on) (defScope s_Book_going_on) [] [] (He.ma K (He.ga K "Book") "going_on") fd := T.def_ 14 (d := d_Book_going_on) rfl
theorem u_Book_first_going_on (T : Txt K mg) : ∃ fd, FunD K "first_going_on" "Book.first_going_on" (defArgs s_Book_first_going_on) (defBody s_Book_first_going_on) (defScope s_Book_first_going_on) [] [] (He.ma K (He.ga K "Book") "first_going_on") fd := T.def_ 15 (d := d_Book_first_going_on) rfl
theorem u_Book_with_entry (T : Txt K mg) : ∃ fd, FunD K "with_entry" "Book.with_entry" (defArgs s_Book_with_entry) (defBody s_Book_with_entry) (defScope s_Book_with_entry) [] [] (He.ma K (He.ga K "Book") "with_entry") fd := T.def_ 16 (d := d_Book_with_entry) rfl
theorem u_Book_without_entry (T : Txt K mg) : ∃ fd, FunD K "without_entry" "Book.without_entry" (defArgs s_Book_without_entry) (defBody s_Book_without_entry) (defScope s_Book_without_entry) [] [] (He.ma K (He.ga K "Book") "without_entry") fd := T.def_ 17 (d := d_Book_without_entry) rfl
theorem u_check_alike (T : Txt K mg) : ∃ fd, FunD K "check_alike" "check_alike" (defArgs s_check_alike) (defBody s_check_alike) (defScope s_check_alike) [] [] (He.ga K "check_alike") fd := T.def_ 18 (d := d_check_alike) rfl
theorem u_book_within (T : Txt K mg) : ∃ fd, FunD K "book_within" "book_within" (defArgs s_book_within) (defBody s_book_within) (defScope s_book_within) [] [] (He.ga K "book_within") fd := T.def_ 19 (d := d_book_within) rfl
theorem u_joined_books (T : Txt K mg) : ∃ fd, FunD K "joined_books" "joined_books" (defArgs s_joined_books) (defBody s_joined_books) (defScope s_joined_books) [] [] (He.ga K "joined_books") fd := T.def_ 20 (d := d_joined_books) rfl
theorem u_shared_book (T : Txt K mg) : ∃ fd, FunD K "shared_book" "shared_book" (defArgs s_shared_book) (defBody s_shared_book) (defScope s_shared_book) [] [] (He.ga K "shared_book") fd := T.def_ 21 (d := d_shared_book) rfl
theorem u_book_less (T : Txt K mg) : ∃ fd, FunD K "book_less" "book_less" (defArgs s_book_less) (defBody s_book_less) (defScope s_book_less) [] [] (He.ga K "book_less") fd := T.def_ 22 (d := d_book_less) rfl
theorem u_draw (T : Txt K mg) : ∃ fd, FunD K "_law_draw" "_law_draw" (defArgs s_draw) (defBody s_draw) (defScope s_draw) [] [] (He.ga K "_law_draw") fd := T.def_ 23 (d := d_draw) rfl
theorem u_same (T : Txt K mg) : ∃ fd, FunD K "_law_same" "_law_same" (defArgs s_same) (defBody s_same) (defScope s_same) [] [] (He.ga K "_law_same") fd := T.def_ 24 (d := d_same) rfl
theorem u_marked (T : Txt K mg) : ∃ fd, FunD K "_law_marked" "_law_marked" (defArgs s_marked) (defBody s_marked) (defScope s_marked) [] [] (He.ga K "_law_marked") fd := T.def_ 25 (d := d_marked) rfl
theorem u_spans (T : Txt K mg) : ∃ fd, FunD K "_law_spans" "_law_spans" (defArgs s_spans) (defBody s_spans) (defScope s_spans) [] [] (He.ga K "_law_spans") fd := T.def_ 26 (d := d_spans) rfl
theorem u_goes (T : Txt K mg) : ∃ fd, FunD K "_law_goes" "_law_goes" (defArgs s_goes) (defBody s_goes) (defScope s_goes) [] [] (He.ga K "_law_goes") fd := T.def_ 27 (d := d_goes) rfl
theorem u_way (T : Txt K mg) : ∃ fd, FunD K "_law_way" "_law_way" (defArgs s_way) (defBody s_way) (defScope s_way) [] [] (He.ga K "_law_way") fd := T.def_ 28 (d := d_way) rfl
theorem u_entry (T : Txt K mg) : ∃ fd, FunD K "_law_entry" "_law_entry" (defArgs s_entry) (defBody s_entry) (defScope s_entry) [] [] (He.ga K "_law_entry") fd := T.def_ 29 (d := d_entry) rfl
theorem u_odd (T : Txt K mg) : ∃ fd, FunD K "_law_odd" "_law_odd" (defArgs s_odd) (defBody s_odd) (defScope s_odd) [] [] (He.ga K "_law_odd") fd := T.def_ 30 (d := d_odd) rfl
theorem u_bad_entry (T : Txt K mg) : ∃ fd, FunD K "_law_bad_entry" "_law_bad_entry" (defArgs s_bad_entry) (defBody s_bad_entry) (defScope s_bad_entry) [] [] (He.ga K "_law_bad_entry") fd := T.def_ 31 (d := d_bad_entry) rfl
theorem u_pot (T : Txt K mg) : ∃ fd, FunD K "_law_pot" "_law_pot" (defArgs s_pot) (defBody s_pot) (defScope s_pot) [] [] (He.ga K "_law_pot") fd := T.def_ 32 (d := d_pot) rfl
theorem u_many (T : Txt K mg) : ∃ fd, FunD K "_law_many" "_law_many" (defArgs s_many) (defBody s_many) (defScope s_many) [] [] (He.ga K "_law_many") fd := T.def_ 33 (d := d_many) rfl
theorem u_longer (T : Txt K mg) : ∃ fd, FunD K "_law_longer" "_law_longer" (defArgs s_longer) (defBody s_longer) (defScope s_longer) [] [] (He.ga K "_law_longer") fd := T.def_ 34 (d := d_longer) rfl
theorem u_rows (T : Txt K mg) : ∃ fd, FunD K "_law_rows" "_law_rows" (defArgs s_rows) (defBody s_rows) (defScope s_rows) [] [] (He.ga K "_law_rows") fd := T.def_ 35 (d := d_rows) rfl
theorem u_unlike (T : Txt K mg) : ∃ fd, FunD K "_law_unlike" "_law_unlike" (defArgs s_unlike) (defBody s_unlike) (defScope s_unlike) [] [] (He.ga K "_law_unlike") fd := T.def_ 36 (d := d_unlike) rfl
theorem u_truths (T : Txt K mg) : ∃ fd, FunD K "_law_truths" "_law_truths" (defArgs s_truths) (defBody s_truths) (defScope s_truths) [] [] (He.ga K "_law_truths") fd := T.def_ 37 (d := d_truths) rfl
theorem u_members (T : Txt K mg) : ∃ fd, FunD K "_law_members" "_law_members" (defArgs s_members) (defBody s_members) (defScope s_members) [] [] (He.ga K "_law_members") fd := T.def_ 38 (d := d_members) rfl
theorem u_views (T : Txt K mg) : ∃ fd, FunD K "_law_views" "_law_views" (defArgs s_views) (defBody s_views) (defScope s_views) [] [] (He.ga K "_law_views") fd := T.def_ 39 (d := d_views) rfl
theorem u_told (T : Txt K mg) : ∃ fd, FunD K "_law_told" "_law_told" (defArgs s_told) (defBody s_told) (defScope s_told) [] [] (He.ga K "_law_told") fd := T.def_ 40 (d := d_told) rfl
theorem u_changed (T : Txt K mg) : ∃ fd, FunD K "_law_changed" "_law_changed" (defArgs s_changed) (defBody s_changed) (defScope s_changed) [] [] (He.ga K "_law_changed") fd := T.def_ 41 (d := d_changed) rfl
theorem u_refused (T : Txt K mg) : ∃ fd, FunD K "_law_refused" "_law_refused" (defArgs s_refused) (defBody s_refused) (defScope s_refused) [] [] (He.ga K "_law_refused") fd := T.def_ 42 (d := d_refused) rfl
theorem u_refusals (T : Txt K mg) : ∃ fd, FunD K "_law_refusals" "_law_refusals" (defArgs s_refusals) (defBody s_refusals) (defScope s_refusals) [] [] (He.ga K "_law_refusals") fd := T.def_ 43 (d := d_refusals) rfl
theorem u_unlike_books (T : Txt K mg) : ∃ fd, FunD K "_law_unlike_books" "_law_unlike_books" (defArgs s_unlike_books) (defBody s_unlike_books) (defScope s_unlike_books) [] [] (He.ga K "_law_unlike_books") fd := T.def_ 44 (d := d_unlike_books) rfl
theorem u_law (T : Txt K mg) : ∃ fd, FunD K "law" "law" (defArgs s_law) (defBody s_law) (defScope s_law) [] [] (He.ga K "law") fd := T.def_ 45 (d := d_law) rfl
end Txt
end Kb
set_option Elab.async false
set_option linter.all false
set_option maxRecDepth 100000
set_option maxHeartbeats 0
namespace Kb
open PySem PySem.Spec PyProof.Rows L2
abbrev R : PySem.W.OpenRow := PySem.W.OpenLaw.row PySem.Challenge.rw_firmvalues_k10_whole_books_and_views
/-- the Hook: the facts by names and the further Bool -/
def obsK (g : Addr → Option Obj) : He.AlD × Bool := (He.obsD fa fn (He.frG g (He.asD g 6)), exB (He.frG g (He.asD g 6)))
def hookK : PySem.W.Hook where
  α := He.AlD × Bool
  obs := fun s => obsK s.heap.get?
  val := fun _ => (He.valD fn, true)
  says := fun _ h => ∃ K : PySem.W.Frag, K.In h ∧ He.SaysD fa fn K ∧ exB K = true
  of := fun _ _ e => ⟨_, He.frG_in, congrArg Prod.fst e, congrArg Prod.snd e⟩
  keeps := fun _ _ _ ⟨K, hK, c⟩ k => ⟨K, PySem.W.Frag.In.keeps hK k, c⟩
theorem obsK_eq {g : Addr → Option Obj} {s : Shared} (h : ∀ a, g a = s.heap.get? a) : obsK g = hookK.obs s := by
  have e : g = s.heap.get? := funext h
  rw [e] <;> rfl
def ob (s : PySem.W.SharedT) : He.AlD × Bool := obsK (HandSHeadRun.getT s)
theorem ob_eq (s : PySem.W.SharedT) : ob s = hookK.obs s.abs := obsK_eq (HandSHeadRun.getT_eq s)
theorem run (w : World) : HandSHeadRun.RunEq R (PySem.W.view R.prog [43]) hookK ob 3200 loose w := by
  intro os
  kernel_rfl
end Kb
set_option Elab.async false
set_option linter.all false
set_option maxRecDepth 100000
set_option maxHeartbeats 4000000
/-! calls by a global's name, with any CXT; what stands in the heap -/
namespace Kb
open PySem PySem.Spec PyProof.Rows L2
section
variable {P : Program} {w : World} {K : PySem.W.Frag} {mg : Str → Option Value} {base : Heap} {X : Cx} {CX : CXT}
structure CalX (P : Program) (w : World) (K : PySem.W.Frag) (mg : Str → Option Value) (base : Heap) (CX : CXT) (k : Nat) (x : Str) (sp : Sp) (dvs : List V) : Prop where
  ex : ∃ (f : Addr) (fd : FuncData) (ps : List Str) (ds : List Value), FnOk P w K mg base CX k f fd ps sp ∧ mg x = some (.ref f) ∧ PySem.W.keepIn K (.ref f) = true ∧ Binds K fd ps ds ∧ Vals dvs ds
theorem pcX {k j : Nat} {x : Str} {sp : Sp} {dvs : List V} {E : XK} {p pos : Pos} {e : Expr} {es : List Expr} {t : TA} (c : CalX X.prog X.w X.K X.mg X.base CX k x sp dvs) (hr : Room j X.A) (hk : k ≤ j) (hx : Passes CX X E) (ha : PA X (e :: es) t) (hg : Gl X x := by rfl)
    (hdb : (x == ("__debug__" : Str)) = false := by decide) (he : starEach (e :: es) X.env = (false, eval e X.env) :: starEach es X.env := by rfl) (hpl : (backTo pos (starEach es X.env)).any (·.1) = false := by rfl) :
    PE X (.Call (.Name x p) (e :: es) [] pos) (tCall sp dvs E t) := by
  obtain ⟨f, fd, ps, ds, F, m, kp, b, d⟩ := c.ex
  exact pe_call F (hr.mono hk) hg m kp b d hx ha hdb he hpl
/-- nothing is raised -/
theorem pc0 {k j : Nat} {x : Str} {sp : Sp} {dvs : List V} {p pos : Pos} {e : Expr} {es : List Expr} {t : TA} (c : CalX X.prog X.w X.K X.mg X.base CX0 k x sp dvs) (hr : Room j X.A) (hk : k ≤ j) (ha : PA X (e :: es) t) (hg : Gl X x := by rfl)
    (hdb : (x == ("__debug__" : Str)) = false := by decide) (he : starEach (e :: es) X.env = (false, eval e X.env) :: starEach es X.env := by rfl) (hpl : (backTo pos (starEach es X.env)).any (·.1) = false := by rfl) :
    PE X (.Call (.Name x p) (e :: es) [] pos) (tCall sp dvs E0 t) := pcX c hr hk pass0 ha hg hdb he hpl
/-- a def without defaults keeps its promise -/
theorem mkcal {x : Str} {st : Stmt} {N ps : List Str} {k : Nat} {sp : Sp} (u : ∃ fd, FunD K x x (defArgs st) (defBody st) (defScope st) [] [] (He.ga K x) fd) (g : mg x = some (.ref (He.ga K x))) (S : FnScope N ps (defScope st))
    (hb : ∀ (kV doc pm : Value) (an : Option Addr) (cdv ct : Value) (us : List Value), us.length = ps.length → bindArgs (PySem.W.fnOf x x (defArgs st) (defBody st) (defScope st) .none kV doc pm an cdv ct) ⟨us, []⟩ = pure (ps.zip us))
    (len : ∀ vs H Q E, sp vs H Q E → vs.length = ps.length)
    (body : ∀ (f : Addr) (cdv : Value) (A : Around) (outer : List Env) (s : Shared) (H : Hp) (vs : List V) (Q : VK) (E : XK), Room k (A.deeper (envOfC x (defScope st) s.heap.objs.size f cdv)) → sp vs H Q E →
      ∃ t, PSs (cxOf CX P w K mg base N x (defScope st) f cdv A outer s H E) (defBody st) t ∧ t { nx := fun _ H' => Q .non H', rt := Q } (start N vs) H) : CalX P w K mg base CX (k + 1) x sp [] := by
  obtain ⟨fd, F⟩ := u
  exact ⟨_, fd, ps, [], F.ok S len (body _), g, F.kp, F.bindsN hb, .nil⟩
end
/-! ### the heap -/
/-- all but p stands -/
def But (p : Addr) (H H' : Hp) : Prop := ∀ b o, H b = some o → b ≠ p → H' b = some o
theorem But.refl (p : Addr) (H : Hp) : But p H H := fun _ _ h _ => h
theorem But.trans {p : Addr} {H H1 H2 : Hp} (a : But p H H1) (b : But p H1 H2) : But p H H2 := fun c o h n => b c o (a c o h n) n
theorem But.same {p : Addr} {H H1 H2 : Hp} (a : But p H H1) (b : Same H1 H2) : But p H H2 := fun c o h n => b c o (a c o h n)
theorem Same.but {p : Addr} {H H1 : Hp} (a : Same H H1) : But p H H1 := fun c o h _ => a c o h
theorem Same.thenBut {p : Addr} {H H1 H2 : Hp} (a : Same H H1) (b : But p H1 H2) : But p H H2 := fun c o h n => b c o (a c o h) n
theorem Same.new {H : Hp} {p : Addr} {o : HO} (h : H p = none) : Same H (upd H p o) := fun a u e => by
  rw [upd_ne (ne_of_none e h)]
  exact e
theorem But.upd {H : Hp} {p : Addr} {o : HO} : But p H (upd H p o) := fun a u e n => by
  rw [upd_ne n]
  exact e
theorem But.fresh {H H' : Hp} {p D : Addr} {o : HO} (b : But p H H') (h : H D = none) : But p H (L2.upd H' D o) := fun a u e n => by
  rw [upd_ne (ne_of_none e h)]
  exact b a u e n
theorem Same.fresh {H H' : Hp} {D : Addr} {o : HO} (b : L2.Same H H') (h : H D = none) : L2.Same H (L2.upd H' D o) := fun a u e => by
  rw [upd_ne (ne_of_none e h)]
  exact b a u e
theorem But.free {p : Addr} {H H' : Hp} (e : But p H H') {l : Addr} (h : H' l = none) (hp : ∃ o, H' p = some o) : H l = none := by
  cases q : H l with
  | none => rfl
  | some o =>
    by_cases n : l = p
    · obtain ⟨u, hu⟩ := hp
      rw [n, hu] at h
      cases h
    · rw [e l o q n] at h
      cases h
/-- what draws change: four numbers in a list; the cells stand in another -/
def Pot (H : Hp) (p q : Addr) : Prop := ∃ (a b : Int) (c : Nat) (ns : List Int), H p = some (.lst [.int a, .int b, .int (c : Int), .ref q]) ∧ H q = some (.lst (ns.map V.int)) ∧ q ≠ p ∧ 0 ≤ a ∧ 0 ≤ b ∧ b < 2147483647
theorem Pot.there {H : Hp} {p q : Addr} (h : Pot H p q) : ∃ xs, H p = some (.lst xs) := by
  obtain ⟨a, b, c, _, h, _⟩ := h
  exact ⟨_, h⟩
theorem Pot.same {H H' : Hp} {p q : Addr} (h : Pot H p q) (s : L2.Same H H') : Pot H' p q := by
  obtain ⟨a, b, c, ns, h1, h2, h3⟩ := h
  exact ⟨a, b, c, ns, s _ _ h1, s _ _ h2, h3⟩
/-- another object is written -/
theorem Pot.put {H : Hp} {p q D : Addr} {o : HO} (h : Pot H p q) (n1 : p ≠ D) (n2 : q ≠ D) : Pot (L2.upd H D o) p q := by
  obtain ⟨a, b, c, ns, h1, h2, h3⟩ := h
  exact ⟨a, b, c, ns, by rw [upd_ne n1]; exact h1, by rw [upd_ne n2]; exact h2, h3⟩
theorem Pot.ne {H : Hp} {p q D : Addr} (h : Pot H p q) (hD : H D = none) : p ≠ D ∧ q ≠ D := by
  obtain ⟨a, b, c, ns, h1, h2, h3⟩ := h
  exact ⟨ne_of_none h1 hD, ne_of_none h2 hD⟩
/-- a draw keeps the tuples -/
theorem But.tup {p q : Addr} {H H' : Hp} (b : But p H H') (h : Pot H p q) {a : Addr} {xs : List V} (e : H a = some (.tup xs)) : H' a = some (.tup xs) := by
  obtain ⟨l, hl⟩ := h.there
  exact b a _ e (ne_of e hl (by intro z; cases z))
theorem But.ins {p q : Addr} {H H' : Hp} (b : But p H H') (h : Pot H p q) {a C dx : Addr} {fs : List (Str × V)} (e : H a = some (.ins C dx fs)) : H' a = some (.ins C dx fs) := by
  obtain ⟨l, hl⟩ := h.there
  exact b a _ e (ne_of e hl (by intro z; cases z))
/-! ### readings, one step each -/
section
variable {CX : CXT} {P : Program} {w : World} {K : PySem.W.Frag} {mg : Str → Option Value} {base : Heap} {N : List Str} {qual : Str} {scope : Scope} {f : Addr} {cd : Value} {A : Around} {outer : List Env} {s : Shared} {H : Hp} {E : XK}
theorem cxK : (cxOf CX P w K mg base N qual scope f cd A outer s H E).K = K := rfl
theorem cxKn : (cxOf CX P w K mg base N qual scope f cd A outer s H E).nox.K = K := rfl
theorem cxW : (cxOf CX P w K mg base N qual scope f cd A outer s H E).w = w := rfl
theorem cxWn : (cxOf CX P w K mg base N qual scope f cd A outer s H E).nox.w = w := rfl
theorem cxP : (cxOf CX P w K mg base N qual scope f cd A outer s H E).prog = P := rfl
theorem cxPn : (cxOf CX P w K mg base N qual scope f cd A outer s H E).nox.prog = P := rfl
end
section
variable {K : PySem.W.Frag} {σ : L2.St} {H : Hp} {Q : VK} {D : Ends} {t u : TS} {te ta tb to ti : TE} {tc td : TT} {g : TG} {v x y : V} {i : Nat} {al tr : TA} {R : List V → Hp → Prop} {QB : Bool → Hp → Prop} {QS : L2.St → Hp → Prop}
theorem r_seq (h : t { D with nx := u D } σ H) : tSeq t u D σ H := h
theorem r_cut (Mid : L2.St → Hp → Prop) (h : t { D with nx := Mid } σ H) (h2 : ∀ σ' H', Mid σ' H' → u D σ' H') : C8.tCut t u D σ H := ⟨Mid, h, h2⟩
theorem r_next (h : D.nx σ H) : tNext D σ H := h
theorem r_if (h : tc σ H fun b H1 => if b = true then t D σ H1 else u D σ H1) : tIfS tc t u D σ H := h
theorem r_ret (h : te σ H D.rt) : tRet te D σ H := h
theorem r_asg (h : te σ H fun x H1 => g x σ H1 D.nx) : tAsg te g D σ H := h
theorem r_drop (h : te σ H fun _ H1 => D.nx σ H1) : tDrop te D σ H := h
theorem r_name {σ' : L2.St} (e : σ.set i (some v) = σ') (h : QS σ' H) : gName i v σ H QS := by
  subst e
  exact h
theorem r_gsub {ts : TSet} (h : to σ H fun o H1 => ti σ H1 fun i H2 => ts o i v H2 fun H3 => QS σ H3) : gSub to ti ts v σ H QS := h
theorem r_setL {p : Addr} {xs : List V} {k : Int} {j : Nat} {QH : Hp → Prop} (h1 : H p = some (.lst xs)) (h2 : ixN xs.length k = some j) (h : QH (upd H p (.lst (xs.set j v)))) : rSetL (.ref p) (.int k) v H QH := ⟨p, xs, k, j, rfl, rfl, h1, h2, h⟩
theorem r_var (e : σ[i]? = some (some v)) (h : Q v H) : tVar i σ H Q := ⟨v, e, h⟩
theorem r_c (h : Q v H) : tC v σ H Q := h
theorem r_op {r : R2} (h : ta σ H fun x H1 => tb σ H1 fun y H2 => r x y H2 Q) : tOp r ta tb σ H Q := h
theorem r_un {r : V → Hp → VK → Prop} (h : ta σ H fun x H1 => r x H1 Q) : tUn r ta σ H Q := h
theorem r_cons (h : ta σ H fun x H1 => tr σ H1 fun xs H2 => R (x :: xs) H2) : tCons ta tr σ H R := h
theorem r_nil (h : R [] H) : tNil σ H R := h
theorem r_cb {r : List V → Hp → VK → Prop} (h : al σ H fun vs H1 => r vs H1 Q) : tCB r al σ H Q := h
theorem r_call {sp : Sp} {dvs : List V} {E : XK} (h : al σ H fun vs H1 => sp (vs ++ dvs) H1 Q E) : tCall sp dvs E al σ H Q := h
theorem r_test (h : te σ H fun x H' => ∃ k, x = .bl k ∧ QB k H') : tTest te σ H QB := h
theorem r_B (h : te σ H fun x H' => ∃ k, x = .bl k ∧ QB k H') : tB te σ H QB := h
theorem r_bl {b : Bool} (h : QB b H) : ∃ k, V.bl b = .bl k ∧ QB k H := ⟨b, rfl, h⟩
theorem r_and (h : tc σ H fun c H1 => if c = true then td σ H1 QB else QB false H1) : tAnd tc td σ H QB := h
theorem r_or (h : tc σ H fun c H1 => if c = true then QB true H1 else td σ H1 QB) : tOr tc td σ H QB := h
theorem r_not (h : tc σ H fun c H1 => QB (!c) H1) : tNot tc σ H QB := h
theorem r_ifE (h : tc σ H fun c H1 => if c = true then ta σ H1 Q else tb σ H1 Q) : tIf tc ta tb σ H Q := h
theorem r_andV (h : ta σ H fun x H1 => ∃ c, x = .bl c ∧ if c = true then tb σ H1 Q else Q (.bl false) H1) : tAndV ta tb σ H Q := h
theorem r_orV (h : ta σ H fun x H1 => ∃ c, x = .bl c ∧ if c = true then Q (.bl true) H1 else tb σ H1 Q) : tOrV ta tb σ H Q := h
theorem r_notV (h : ta σ H fun x H1 => ∃ c, x = .bl c ∧ Q (.bl (!c)) H1) : tNotV ta σ H Q := h
theorem r_blV {b : Bool} {F : Bool → Prop} (h : F b) : ∃ c, V.bl b = .bl c ∧ F c := ⟨b, rfl, h⟩
theorem r_T {F : Prop} {G : Prop} (h : F) : if true = true then F else G := iteT h
theorem r_F {F : Prop} {G : Prop} (h : G) : if false = true then F else G := iteF h
theorem r_nT {F : Prop} {G : Prop} (h : F) : if (!false) = true then F else G := iteT h
theorem r_nF {F : Prop} {G : Prop} (h : G) : if (!true) = true then F else G := iteF h
theorem r_I0 {f : Int → Int → V} {a b : Int} (h : Q (f a b) H) : rI0 f (.int a) (.int b) H Q := ⟨a, b, rfl, rfl, h⟩
theorem r_I {C : Int → Int → Prop} {f : Int → Int → V} {a b : Int} (c : C a b) (h : Q (f a b) H) : rI C f (.int a) (.int b) H Q := ⟨a, b, rfl, rfl, c, h⟩
theorem r_U {f : Int → V} {a : Int} (h : Q (f a) H) : rU f (.int a) H Q := ⟨a, rfl, h⟩
theorem r_ixL {p : Addr} {xs : List V} {k : Int} (h1 : SqL K H p xs) (h2 : atI xs k = some v) (h : Q v H) : rIxL K (.ref p) (.int k) H Q := ⟨p, xs, k, v, rfl, rfl, h1, h2, h⟩
theorem r_ixT {p : Addr} {xs : List V} {k : Int} (h1 : SqT K H p xs) (h2 : atI xs k = some v) (h : Q v H) : rIxT K (.ref p) (.int k) H Q := ⟨p, xs, k, v, rfl, rfl, h1, h2, h⟩
/-- an object is laid -/
def New (H : Hp) (o : HO) (Q : VK) : Prop := ∀ p, H p = none → Q (.ref p) (upd H p o)
theorem r_tup (h : al σ H fun xs H1 => xs.length ≤ sizeLine ∧ New H1 (.tup xs) Q) : tTup al σ H Q := h
theorem r_lst (h : al σ H fun xs H1 => xs.length ≤ sizeLine ∧ New H1 (.lst xs) Q) : tLst al σ H Q := h
/-- an object is laid: from then on the heap is a letter -/
theorem r_new {o : HO} {F : V → Hp → Prop} (h : ∀ (p : Addr) (H' : Hp), H p = none → L2.Same H H' → H' p = some o → (∀ b, H' b = none → H b = none ∧ b ≠ p) → F (.ref p) H') : New H o F := fun p hp =>
  h p _ hp (Same.new hp) upd_same fun b hb => by
    by_cases e : b = p
    · rw [e, upd_same] at hb
      cases hb
    · rw [upd_ne e] at hb
      exact ⟨hb, e⟩
def rLenQ (K : PySem.W.Frag) : List V → Hp → VK → Prop := fun xs H Q => ∃ p ys, xs = [.ref p] ∧ (SqL K H p ys ∨ SqT K H p ys) ∧ Q (.int ys.length) H
def rIntQ : List V → Hp → VK → Prop := fun xs H Q => (∃ i, xs = [.int i] ∧ Q (.int i) H) ∨ ∃ k, xs = [.bl k] ∧ Q (.int (if k then 1 else 0)) H
def rLstQ (K : PySem.W.Frag) : List V → Hp → VK → Prop := fun xs H Q => ∃ p ys, xs = [.ref p] ∧ (SqL K H p ys ∨ SqT K H p ys) ∧ ∀ l, H l = none → Q (.ref l) (upd H l (.lst ys))
def rTupQ (K : PySem.W.Frag) : List V → Hp → VK → Prop := fun xs H Q => ∃ p ys, xs = [.ref p] ∧ ((SqL K H p ys ∧ ∀ l, H l = none → Q (.ref l) (upd H l (.tup ys))) ∨ (SqT K H p ys ∧ Q (.ref p) H))
theorem cr_len {X : Cx} : CallR X (.builtin "len") (rLenQ X.K) := call_len_seq
theorem cr_int {X : Cx} : CallR X (.type "int") rIntQ := call_int1
theorem cr_lst {X : Cx} : CallR X (.type "list") (rLstQ X.K) := call_list_of
theorem cr_tup {X : Cx} : CallR X (.type "tuple") (rTupQ X.K) := call_tuple_of
theorem r_len {p : Addr} {ys : List V} (h1 : SqL K H p ys ∨ SqT K H p ys) (h : Q (.int ys.length) H) : rLenQ K [.ref p] H Q := ⟨p, ys, rfl, h1, h⟩
theorem r_int {i : Int} (h : Q (.int i) H) : rIntQ [.int i] H Q := .inl ⟨i, rfl, h⟩
theorem r_list {p : Addr} {ys : List V} (h1 : SqL K H p ys ∨ SqT K H p ys) (h : ∀ (l : Addr) (H' : Hp), H l = none → L2.Same H H' → H' l = some (.lst ys) → (∀ b, H' b = none → H b = none ∧ b ≠ l) → Q (.ref l) H') : rLstQ K [.ref p] H Q := ⟨p, ys, rfl, h1, r_new h⟩
theorem r_tupL {p : Addr} {ys : List V} (h1 : SqL K H p ys) (h : ∀ (l : Addr) (H' : Hp), H l = none → L2.Same H H' → H' l = some (.tup ys) → (∀ b, H' b = none → H b = none ∧ b ≠ l) → Q (.ref l) H') : rTupQ K [.ref p] H Q := ⟨p, ys, rfl, .inl ⟨h1, r_new h⟩⟩
theorem r_tupT {p : Addr} {ys : List V} (h1 : SqT K H p ys) (h : Q (.ref p) H) : rTupQ K [.ref p] H Q := ⟨p, ys, rfl, .inr ⟨h1, h⟩⟩
theorem r_eqI {a b : Int} (h : Q (.bl (decide (a = b))) H) : rEq (.int a) (.int b) H Q := ⟨rfl, by
  have e : decide (V.int a = V.int b) = decide (a = b) := by simp
  rw [e]
  exact h⟩
theorem r_neI {a b : Int} (h : Q (.bl (!decide (a = b))) H) : rNe (.int a) (.int b) H Q := ⟨rfl, by
  have e : decide (V.int a = V.int b) = decide (a = b) := by simp
  rw [e]
  exact h⟩
theorem ite_d {c F G : Prop} [Decidable c] (h1 : c → F) (h2 : ¬ c → G) : if decide c = true then F else G := by
  by_cases h : c
  · rw [if_pos (decide_eq_true h)]
    exact h1 h
  · rw [if_neg (by rw [decide_eq_false h]; exact Bool.false_ne_true)]
    exact h2 h
theorem ite_nd {c F G : Prop} [Decidable c] (h1 : ¬ c → F) (h2 : c → G) : if (!decide c) = true then F else G := by
  by_cases h : c
  · rw [if_neg (by rw [decide_eq_true h]; exact Bool.false_ne_true)]
    exact h2 h
  · rw [if_pos (by rw [decide_eq_false h]; rfl)]
    exact h1 h
theorem sz10 {n : Nat} (h : n ≤ 100000) : n ≤ sizeLine := Nat.le_trans h (by decide)
theorem sz10' {n : Nat} (h : n < 100000) : n < sizeLine := Nat.lt_of_lt_of_le h (by decide)
end
/-! ### rules with the written part named -/
section
variable {X : Cx} (K : PySem.W.Frag)
theorem k_len (h : X.K = K := by rfl) : CallR X (.builtin "len") (rLenQ K) := by
  subst h
  exact cr_len
theorem k_lst (h : X.K = K := by rfl) : CallR X (.type "list") (rLstQ K) := by
  subst h
  exact cr_lst
theorem k_tup (h : X.K = K := by rfl) : CallR X (.type "tuple") (rTupQ K) := by
  subst h
  exact cr_tup
theorem k_isi (h : X.K = K := by rfl) : CallR X (.builtin "isinstance") (rIsi K) := by
  subst h
  exact call_isi
theorem k_isiT (h : X.K = K := by rfl) : CallR X (.builtin "isinstance") (rIsiT K) := by
  subst h
  exact call_isiT
theorem k_ixl (h : X.K = K := by rfl) : IxR X (rIxL K) := by
  subst h
  exact ix_list
theorem k_ixt (h : X.K = K := by rfl) : IxR X (rIxT K) := by
  subst h
  exact ix_tup
theorem k_sll (h : X.K = K := by rfl) : SlR X (rSlL K) := by
  subst h
  exact sl_list
theorem k_sla (h : X.K = K := by rfl) : SlR X (rSlA K) := by
  subst h
  exact sl_tupA
theorem k_cat (h : X.K = K := by rfl) : OpR X (binaryOp .Add) (rCatA K) := by
  subst h
  exact op_catA
theorem k_repT (h : X.K = K := by rfl) : OpR X (binaryOp .Mult) (rRepT K) := by
  subst h
  exact op_repT
theorem k_eqD (hu : X.A.units + 64 < cLine) (h : X.K = K := by rfl) : OpR X (compareOp .Eq) (rEqD K) := by
  subst h
  exact op_eqD hu
theorem k_neD (hu : X.A.units + 64 < cLine) (h : X.K = K := by rfl) : OpR X (compareOp .NotEq) (rNeD K) := by
  subst h
  exact op_neD hu
theorem k_inD (hu : X.A.units + 65 < cLine) (h : X.K = K := by rfl) : OpR X (compareOp .In) (rInD K) := by
  subst h
  exact op_inD hu
theorem k_ninD (hu : X.A.units + 65 < cLine) (h : X.K = K := by rfl) : OpR X (compareOp .NotIn) (rNotInD K) := by
  subst h
  exact op_notInD hu
theorem hu65 {A : Around} {k : Nat} (hr : Room k A) : A.units + 65 < cLine := by have := hr.un; omega
theorem hu64 {A : Around} {k : Nat} (hr : Room k A) : A.units + 64 < cLine := hr.units
end
/-! ### comprehensions -/
/-- behind an element: it is appended -/
def LcA (L : Addr) (Nx : Hp → Prop) : VK := fun y H4 => ∃ acc, H4 L = some (.lst acc) ∧ acc.length < sizeLine ∧ Nx (upd H4 L (.lst (acc ++ [y])))
def LcT (tt : TT) (te : TE) (vs : List Nat) (σ : L2.St) (L : Addr) (Nx : Hp → Prop) : L2.St → Hp → Prop := fun σ2 H2 => wipe σ2 vs = wipe σ vs ∧ tt σ2 H2 fun b H3 => if b = true then te σ2 H3 (LcA L Nx) else Nx H3
def LcR (g : TG) (tt : TT) (te : TE) (vs : List Nat) (σ : L2.St) (Q : VK) : It → Hp → Prop := fun J H1 => ∀ L, H1 L = none → ∃ W : Nat → Nat → Hp → Prop, (∃ m, W 0 m (upd H1 L (.lst []))) ∧ ∀ i m H, W i m H →
    (J.stop i H ∧ Q (.ref L) H) ∨ (J.go i H ∧ ∃ Nx : Hp → Prop, (∀ H', Nx H' → ∃ m', m' < m ∧ W (i + 1) m' H') ∧ ∀ x H', J.yld i H x H' → g x (wipe σ vs) H' (LcT tt te vs σ L Nx))
def ForR (g : TG) (tb : TS) (D : Ends) (σ : L2.St) : It → Hp → Prop := fun J H1 => ∃ W : Nat → Nat → L2.St → Hp → Prop, (∃ m, W 0 m σ H1) ∧ ∀ i m σ H, W i m σ H →
    (J.stop i H ∧ D.nx σ H) ∨ (J.go i H ∧ ∃ N : L2.St → Hp → Prop, (∀ σ' H', N σ' H' → ∃ m', m' < m ∧ W (i + 1) m' σ' H') ∧ ∀ x H', J.yld i H x H' → g x σ H' fun σ2 H2 => tb { D with nx := N, ct := N, bk := D.nx } σ2 H2)
section
variable {K : PySem.W.Frag} {σ σ2 : L2.St} {H : Hp} {Q : VK} {D : Ends} {te : TE} {tt : TT} {tb : TS} {g : TG} {vs : List Nat} {ta : TA} {R : It → Hp → Prop} {a : Addr} {xs : List V} {lo : Int} {n : Nat}
theorem r_lc {wi : TI} (h : wi σ H (LcR g tt te vs σ Q)) : tLc wi g tt te vs σ H Q := h
theorem r_lcT {L : Addr} {Nx : Hp → Prop} (e : wipe σ2 vs = wipe σ vs) (h : tt σ2 H fun b H3 => if b = true then te σ2 H3 (LcA L Nx) else Nx H3) : LcT tt te vs σ L Nx σ2 H := ⟨e, h⟩
theorem r_lcA {L : Addr} {Nx : Hp → Prop} {y : V} {acc : List V} (h : H L = some (.lst acc)) (sz : acc.length < 100000) (nx : Nx (upd H L (.lst (acc ++ [y])))) : LcA L Nx y H := ⟨acc, h, sz10' sz, nx⟩
theorem r_yes {QB : Bool → Hp → Prop} (h : QB true H) : tYes σ H QB := h
theorem r_rng1 (h : ta σ H fun vs H1 => ∃ j : Int, vs = [.int j] ∧ -(2 ^ 62) ≤ j ∧ j < 2 ^ 62 ∧ R (Itr 0 j.toNat) H1) : iRng1 ta σ H R := h
theorem r_rng2 (h : ta σ H fun vs H1 => ∃ i j : Int, vs = [.int i, .int j] ∧ (-(2 ^ 62) ≤ i ∧ i < 2 ^ 62 ∧ -(2 ^ 62) ≤ j ∧ j < 2 ^ 62) ∧ R (Itr i (j - i).toNat) H1) : iRng2 ta σ H R := h
theorem r_rj {j : Int} (n : Nat) (e : j = (n : Int)) (hn : n < 2 ^ 62) (h : R (Itr 0 n) H) : ∃ j' : Int, [V.int j] = [.int j'] ∧ -(2 ^ 62) ≤ j' ∧ j' < 2 ^ 62 ∧ R (Itr 0 j'.toNat) H := by
  refine ⟨j, rfl, by omega, by omega, ?_⟩
  rw [e, Int.toNat_natCast]
  exact h
theorem r_rj2 {i j : Int} (n : Nat) (e : j = i + (n : Int)) (h1 : -(2 ^ 62) ≤ i) (h2 : i < 2 ^ 62) (h3 : j < 2 ^ 62) (h : R (Itr i n) H) : ∃ i' j' : Int, [V.int i, V.int j] = [.int i', .int j'] ∧ (-(2 ^ 62) ≤ i' ∧ i' < 2 ^ 62 ∧ -(2 ^ 62) ≤ j' ∧ j' < 2 ^ 62) ∧ R (Itr i' (j' - i').toNat) H := by
  refine ⟨i, j, rfl, ⟨h1, h2, by omega, h3⟩, ?_⟩
  have e2 : (j - i).toNat = n := by omega
  rw [e2]
  exact h
theorem r_iList {tl : TE} (h : tl σ H fun x H1 => ∃ a, x = .ref a ∧ (∃ xs, SqL K H1 a xs) ∧ R (Itl K a) H1) : iList K tl σ H R := h
theorem r_iTup {tl : TE} (h : tl σ H fun x H1 => ∃ a, x = .ref a ∧ (∃ xs, SqT K H1 a xs) ∧ R (Itt K a) H1) : iTup K tl σ H R := h
theorem r_il (s : SqL K H a xs) (h : R (Itl K a) H) : ∃ a', V.ref a = .ref a' ∧ (∃ xs, SqL K H a' xs) ∧ R (Itl K a') H := ⟨a, rfl, ⟨xs, s⟩, h⟩
theorem r_it (s : SqT K H a xs) (h : R (Itt K a) H) : ∃ a', V.ref a = .ref a' ∧ (∃ xs, SqT K H a' xs) ∧ R (Itt K a') H := ⟨a, rfl, ⟨xs, s⟩, h⟩
theorem r_for {wi : TI} (h : wi σ H (ForR g tb D σ)) : tFor wi g tb D σ H := h
theorem lcR_range (Pv : Addr → Nat → Hp → Prop) (h0 : ∀ L, H L = none → Pv L 0 (upd H L (.lst []))) (hs : ∀ L i H1, H L = none → i < n → Pv L i H1 → g (.int (lo + i)) (wipe σ vs) H1 (LcT tt te vs σ L (Pv L (i + 1))))
    (hd : ∀ L H1, H L = none → Pv L n H1 → Q (.ref L) H1) : LcR g tt te vs σ Q (Itr lo n) H := fun L hL => lc_range (Pv L) (h0 L hL) (fun i H1 hi p => hs L i H1 hL hi p) (fun H1 p => hd L H1 hL p)
theorem lcR_list (xs : List V) (Pv : Addr → Nat → Hp → Prop) (h0 : ∀ L, H L = none → Pv L 0 (upd H L (.lst []))) (hl : ∀ L i H1, H L = none → i ≤ xs.length → Pv L i H1 → SqL K H1 a xs)
    (hs : ∀ L i x H1, H L = none → xs[i]? = some x → Pv L i H1 → g x (wipe σ vs) H1 (LcT tt te vs σ L (Pv L (i + 1)))) (hd : ∀ L H1, H L = none → Pv L xs.length H1 → Q (.ref L) H1) : LcR g tt te vs σ Q (Itl K a) H :=
  fun L hL => lc_list (xs := xs) (Pv L) (h0 L hL) (fun i H1 hi p => hl L i H1 hL hi p) (fun i x H1 hx p => hs L i x H1 hL hx p) (fun H1 p => hd L H1 hL p)
theorem lcR_tup (xs : List V) (Pv : Addr → Nat → Hp → Prop) (h0 : ∀ L, H L = none → Pv L 0 (upd H L (.lst []))) (hl : ∀ L i H1, H L = none → i ≤ xs.length → Pv L i H1 → SqT K H1 a xs)
    (hs : ∀ L i x H1, H L = none → xs[i]? = some x → Pv L i H1 → g x (wipe σ vs) H1 (LcT tt te vs σ L (Pv L (i + 1)))) (hd : ∀ L H1, H L = none → Pv L xs.length H1 → Q (.ref L) H1) : LcR g tt te vs σ Q (Itt K a) H :=
  fun L hL => lc_tup (xs := xs) (Pv L) (h0 L hL) (fun i H1 hi p => hl L i H1 hL hi p) (fun i x H1 hx p => hs L i x H1 hL hx p) (fun H1 p => hd L H1 hL p)
theorem forR_range (Pv : Nat → L2.St → Hp → Prop) (h0 : Pv 0 σ H) (hs : ∀ i σ H, i < n → Pv i σ H → g (.int (lo + i)) σ H fun σ2 H2 => tb { D with nx := Pv (i + 1), ct := Pv (i + 1), bk := D.nx } σ2 H2) (hd : ∀ σ H, Pv n σ H → D.nx σ H) : ForR g tb D σ (Itr lo n) H :=
  for_range Pv h0 hs hd
theorem forR_list (xs : List V) (Pv : Nat → L2.St → Hp → Prop) (h0 : Pv 0 σ H) (hl : ∀ i σ H, i ≤ xs.length → Pv i σ H → SqL K H a xs) (hs : ∀ i x σ H, xs[i]? = some x → Pv i σ H → g x σ H fun σ2 H2 => tb { D with nx := Pv (i + 1), ct := Pv (i + 1), bk := D.nx } σ2 H2)
    (hd : ∀ σ H, Pv xs.length σ H → D.nx σ H) : ForR g tb D σ (Itl K a) H := for_list (xs := xs) Pv h0 hl hs hd
theorem forR_tup (xs : List V) (Pv : Nat → L2.St → Hp → Prop) (h0 : Pv 0 σ H) (hl : ∀ i σ H, i ≤ xs.length → Pv i σ H → SqT K H a xs) (hs : ∀ i x σ H, xs[i]? = some x → Pv i σ H → g x σ H fun σ2 H2 => tb { D with nx := Pv (i + 1), ct := Pv (i + 1), bk := D.nx } σ2 H2)
    (hd : ∀ σ H, Pv xs.length σ H → D.nx σ H) : ForR g tb D σ (Itt K a) H := for_tup (xs := xs) Pv h0 hl hs hd
end
/-! ### rows -/
def isInt (m : Nat) (v : V) : Prop := ∃ i : Int, v = .int i ∧ 0 ≤ i ∧ i < (m : Int)
def isRow (n m : Nat) (r : List V) : Prop := r.length = n ∧ ∀ v ∈ r, isInt m v
def isMark (m : Nat) (v : V) : Prop := v = .non ∨ isInt m v
def isView (n m : Nat) (r : List V) : Prop := r.length = n ∧ ∀ v ∈ r, isMark m v
abbrev Ks := List (Addr × List V)
def refs (ks : Ks) : List V := ks.map fun p => V.ref p.1
def Tups (H : Hp) (ks : Ks) : Prop := ∀ p ∈ ks, H p.1 = some (.tup p.2)
theorem Tups.same {H H' : Hp} {ks : Ks} (h : Tups H ks) (s : L2.Same H H') : Tups H' ks := fun p hp => s _ _ (h p hp)
theorem Tups.but {H H' : Hp} {p q : Addr} {ks : Ks} (h : Tups H ks) (b : But p H H') (P : Pot H p q) : Tups H' ks := fun k hk => b.tup P (h k hk)
theorem Tups.put {H : Hp} {D : Addr} {o : HO} {ks : Ks} (h : Tups H ks) (n : ∀ xs, H D ≠ some (.tup xs)) : Tups (L2.upd H D o) ks := fun k hk => by
  rw [upd_ne (fun e => n k.2 (by rw [← e]; exact h k hk))]
  exact h k hk
theorem refs_get {ks : Ks} {i : Nat} {v : V} (h : (refs ks)[i]? = some v) : ∃ p, ks[i]? = some p ∧ v = .ref p.1 ∧ p ∈ ks := by
  unfold refs at h
  rw [List.getElem?_map] at h
  cases e : ks[i]? with
  | none => rw [e] at h; cases h
  | some p => rw [e] at h; cases h; exact ⟨p, rfl, rfl, List.mem_of_getElem? e⟩
theorem refs_len (ks : Ks) : (refs ks).length = ks.length := List.length_map ..
theorem refs_app (a b : Ks) : refs (a ++ b) = refs a ++ refs b := List.map_append ..
/-- a list of tuples is not the pot -/
theorem refs_ne {H : Hp} {p q l : Addr} {ks : Ks} (h : Pot H p q) (e : H l = some (.lst (refs ks))) : l ≠ p := by
  obtain ⟨a, b, c, ns, h1, _⟩ := h
  refine ne_of e h1 ?_
  intro z
  injection z with z
  cases ks with
  | nil => cases z
  | cons k r => injection z with z _; cases z
theorem refs_ne2 {H : Hp} {p q l : Addr} {ks : Ks} (h : Pot H p q) (e : H l = some (.lst (refs ks))) (hk : ks ≠ []) : l ≠ q := by
  obtain ⟨a, b, c, ns, _, h2, _⟩ := h
  refine ne_of e h2 ?_
  intro z
  injection z with z
  cases ks with
  | nil => exact hk rfl
  | cons k r =>
    cases ns with
    | nil => cases z
    | cons n m => injection z with z _; cases z
/-! ### further steps -/
section
variable {K : PySem.W.Frag} {σ : L2.St} {H : Hp} {Q : VK} {D : Ends} {te ta to : TE} {al : TA} {tl th : TO} {QO : Option Int → Hp → Prop} {QB : Bool → Hp → Prop}
theorem ty_l {l : Addr} {xs : List V} (h : H l = some (.lst xs)) : tyV K "list" (.ref l) H := Or.inl ⟨rfl, _, SqL.of h⟩
theorem r_bm {T : String} {r : V → List V → Hp → VK → Prop} (h : to σ H fun x H1 => tyV K T x H1 ∧ al σ H1 fun xs H2 => r x xs H2 Q) : tBM K T r to al σ H Q := h
theorem r_app {l : Addr} {xs : List V} {y : V} (h : H l = some (.lst xs)) (sz : xs.length < 100000) (q : Q .non (upd H l (.lst (xs ++ [y])))) : rAppend (.ref l) [y] H Q := ⟨l, xs, y, rfl, rfl, h, sz10' sz, q⟩
theorem r_ext {l b : Addr} {xs zs : List V} (h : H l = some (.lst xs)) (hb : H b = some (.lst zs)) (sz : xs.length + zs.length ≤ 100000) (q : Q .non (upd H l (.lst (xs ++ zs)))) : rExtend (.ref l) [.ref b] H Q := ⟨l, b, xs, zs, rfl, rfl, h, hb, sz10 sz, q⟩
/-- a + b, tuples: the value is a tuple of these, in a heap that keeps the old one -/
theorem r_catA {a b : Addr} {xs ys : List V} (ha : H a = some (.tup xs)) (hb : H b = some (.tup ys)) (sz : xs.length + ys.length ≤ 100000) (q : ∀ (t : Addr) (H' : Hp), L2.Same H H' → H' t = some (.tup (xs ++ ys)) → Q (.ref t) H') : rCatA K (.ref a) (.ref b) H Q := by
  refine ⟨a, b, xs, ys, rfl, rfl, SqT.of ha, SqT.of hb, sz10 sz, fun e => ?_, fun _ e => ?_, fun _ _ p hp => q p _ (Same.new hp) upd_same⟩
  · subst e
    exact q b H (Same.refl H) hb
  · subst e
    exact q a H (Same.refl H) (by rw [List.append_nil]; exact ha)
theorem r_cat {a b : Addr} {xs ys : List V} (ha : H a = some (.lst xs)) (hb : H b = some (.lst ys)) (sz : xs.length + ys.length ≤ 100000) (q : New H (.lst (xs ++ ys)) Q) : rCat (.ref a) (.ref b) H Q := ⟨a, b, xs, ys, rfl, rfl, ha, hb, sz10 sz, q⟩
theorem r_sl {r : V → Option Int → Option Int → Hp → VK → Prop} (h : te σ H fun x H1 => tl σ H1 fun l H2 => th σ H2 fun u H3 => r x l u H3 Q) : tSl r te tl th σ H Q := h
theorem r_np (h : QO none H) : tNoPart σ H QO := h
theorem r_part (h : te σ H fun x H1 => ∃ i, x = .int i ∧ QO (some i) H1) : tPart te σ H QO := h
theorem r_partI {i : Int} (h : QO (some i) H) : ∃ j, V.int i = .int j ∧ QO (some j) H := ⟨i, rfl, h⟩
theorem r_slL {a : Addr} {xs : List V} {lo hi : Option Int} (ha : SqL K H a xs) (q : New H (.lst (cutV xs lo hi)) Q) : rSlL K (.ref a) lo hi H Q := ⟨a, xs, rfl, ha, q⟩
theorem r_slA {a : Addr} {xs : List V} {lo hi : Option Int} (ha : H a = some (.tup xs)) (q : ∀ (t : Addr) (H' : Hp), L2.Same H H' → H' t = some (.tup (cutV xs lo hi)) → Q (.ref t) H') : rSlA K (.ref a) lo hi H Q := by
  refine ⟨a, xs, rfl, SqT.of ha, fun e => ?_, fun _ p hp => q p _ (Same.new hp) upd_same⟩
  refine q a H (Same.refl H) ?_
  have e2 : cutV xs lo hi = xs := by
    unfold cutV
    rw [e.1, e.2]
    simp
  rw [e2]
  exact ha
theorem cut_from1 (xs : List V) : cutV xs (some 1) none = xs.drop 1 := by
  unfold cutV
  have e : HT.sIx xs.length 0 (some 1) = min 1 xs.length := HT.sIx_nat _ _ 1
  rw [e, HT.sIx_none]
  cases xs with
  | nil => rfl
  | cons x r => simp
theorem cut_but1 (xs : List V) : cutV xs none (some (-1)) = xs.dropLast := by
  unfold cutV
  rw [HT.sIx_none]
  show (xs.drop 0).take ((if (-1 : Int) < 0 then ((-1 : Int) + (xs.length : Int)).toNat else min (-1 : Int).toNat xs.length) - 0) = xs.dropLast
  rw [if_pos (by decide), List.drop_zero, List.dropLast_eq_take]
  congr 1
  omega
theorem cut_to (xs : List V) (k : Nat) : cutV xs none (some (k : Int)) = xs.take k := by
  unfold cutV
  rw [HT.sIx_none, HT.sIx_nat, List.drop_zero, Nat.sub_zero]
  by_cases h : k ≤ xs.length
  · rw [Nat.min_eq_left h]
  · rw [Nat.min_eq_right (by omega), List.take_length, List.take_of_length_le (by omega)]
theorem r_lstRg {te : (L2.St → Hp → (Int → Int → Hp → Prop) → Prop)} (h : te σ H fun a b H1 => RgOk a b ∧ New H1 (.lst (rgV a b)) Q) : tLstRg te σ H Q := h
theorem r_rg1 {QR : Int → Int → Hp → Prop} (h : ta σ H fun x H1 => ∃ n, x = .int n ∧ QR 0 n H1) : tRg1 ta σ H QR := h
theorem r_rgI {i : Int} {QR : Int → Int → Hp → Prop} (h : QR 0 i H) : ∃ n, V.int i = .int n ∧ QR 0 n H := ⟨i, rfl, h⟩
/-- one tuple more in a list of one's own -/
theorem app_step {H0 H1 : Hp} {L t : Addr} {ks : Ks} {r : List V} (hL : H0 L = none) (h1 : H1 L = some (.lst (refs ks))) (T : Tups H1 ks) (S : L2.Same H0 H1) (ht : H1 t = some (.tup r)) :
    upd H1 L (.lst (refs ks ++ [.ref t])) L = some (.lst (refs (ks ++ [(t, r)]))) ∧ Tups (upd H1 L (.lst (refs ks ++ [.ref t]))) (ks ++ [(t, r)]) ∧ L2.Same H0 (upd H1 L (.lst (refs ks ++ [.ref t]))) := by
  have hne : ∀ ys, H1 L ≠ some (.tup ys) := fun ys z => by rw [h1] at z; cases z
  refine ⟨by rw [upd_same, refs_app]; rfl, fun p hp => ?_, Same.fresh S hL⟩
  rcases List.mem_append.mp hp with hp | hp
  · exact T.put hne p hp
  · cases List.mem_singleton.mp hp
    rw [upd_ne (fun e => hne r (by rw [← e]; exact ht))]
    exact ht
end
/-! ### things -/
def atomV : V → Bool
  | .non | .bl _ | .int _ | .str _ => true
  | _ => false
/-- its kind is known: a plain value, a list, a tuple -/
def Kn (H : Hp) (v : V) : Prop := atomV v = true ∨ ∃ a xs, v = .ref a ∧ (H a = some (.lst xs) ∨ H a = some (.tup xs))
inductive Th where
  | at (v : V)
  | sq (l : Bool) (a : Addr) (ys : List V)
def Is (H : Hp) (x : V) : Th → Prop
  | .at v => x = v ∧ atomV v = true
  | .sq true a ys => x = .ref a ∧ H a = some (.lst ys) ∧ ∀ y ∈ ys, Kn H y
  | .sq false a ys => x = .ref a ∧ H a = some (.tup ys) ∧ ∀ y ∈ ys, Kn H y
def wholeB (v : V) (lo hi : Option Int) : Bool := match v with
  | .int i => (match lo with | some l => decide (l ≤ i) | none => true) && (match hi with | some u => decide (i ≤ u) | none => true)
  | _ => false
def oV : Option Int → V
  | none => .non
  | some i => .int i
/-- the first of ys that ok refuses -/
def badAt {α : Type} (ok : α → Bool) : List α → Option Nat
  | [] => none
  | y :: ys => if ok y = true then (badAt ok ys).map (· + 1) else some 0
def okE (m : Nat) (y : V) : Bool := wholeB y (some 0) (some ((m : Int) - 1))
def okW (m : Nat) (y : V) : Bool := decide (y = .non) || okE m y
/-- what is wrong with a thing: the word and the house -/
def Th.bad (ok : V → Bool) (n : Nat) : Th → Option (Str × Nat)
  | .at _ => some ("length", 0)
  | .sq _ _ ys => if ys.length = n then (badAt ok ys).map fun k => ("value", k) else some ("length", 0)
theorem okE_iff {m : Nat} {y : V} : okE m y = true ↔ isInt m y := by
  constructor
  · intro h
    cases y with
    | int i =>
      unfold okE wholeB at h
      simp only [Bool.and_eq_true, decide_eq_true_eq] at h
      exact ⟨i, rfl, h.1, by omega⟩
    | _ => cases h
  · rintro ⟨i, rfl, h1, h2⟩
    unfold okE wholeB
    simp only [Bool.and_eq_true, decide_eq_true_eq]
    exact ⟨h1, by omega⟩
theorem okW_iff {m : Nat} {y : V} : okW m y = true ↔ isMark m y := by
  unfold okW isMark
  rw [Bool.or_eq_true, decide_eq_true_eq, okE_iff]
theorem badAt_none {α : Type} {ok : α → Bool} : ∀ {ys : List α}, badAt ok ys = none ↔ ∀ y ∈ ys, ok y = true
  | [] => by simp [badAt]
  | y :: ys => by
    unfold badAt
    by_cases h : ok y = true
    · rw [if_pos h]
      simp only [Option.map_eq_none_iff, badAt_none (ys := ys), List.mem_cons, forall_eq_or_imp, h, true_and]
    · rw [if_neg h]
      simp [h]
theorem badAt_some {α : Type} {ok : α → Bool} : ∀ {ys : List α} {k : Nat}, (∃ y, ys[k]? = some y ∧ ok y = false) → (∀ j y, j < k → ys[j]? = some y → ok y = true) → badAt ok ys = some k
  | [], k, ⟨y, h, _⟩, _ => by simp at h
  | y :: ys, 0, ⟨z, h, hz⟩, _ => by
    simp at h
    subst h
    unfold badAt
    rw [if_neg (by rw [hz]; decide)]
  | y :: ys, k + 1, ⟨z, h, hz⟩, hb => by
    unfold badAt
    rw [if_pos (hb 0 y (Nat.zero_lt_succ _) rfl), badAt_some (ys := ys) (k := k) ⟨z, by simpa using h, hz⟩ (fun j w hj hw => hb (j + 1) w (Nat.succ_lt_succ hj) (by simpa using hw))]
    rfl
theorem badAt_get {α : Type} {ok : α → Bool} : ∀ {ys : List α} {k : Nat}, badAt ok ys = some k → (∃ y, ys[k]? = some y ∧ ok y = false) ∧ (∀ j y, j < k → ys[j]? = some y → ok y = true)
  | [], k, h => by cases h
  | y :: ys, k, h => by
    unfold badAt at h
    by_cases hy : ok y = true
    · rw [if_pos hy] at h
      cases e : badAt ok ys with
      | none => rw [e] at h; cases h
      | some j =>
        rw [e] at h
        have hk : j + 1 = k := Option.some.inj h
        subst hk
        obtain ⟨⟨z, h1, h2⟩, h3⟩ := badAt_get e
        refine ⟨⟨z, by simpa using h1, h2⟩, fun i w hi hw => ?_⟩
        cases i with
        | zero => simp at hw; rw [← hw]; exact hy
        | succ i => exact h3 i w (by omega) (by simpa using hw)
    · rw [if_neg hy] at h
      cases h
      exact ⟨⟨y, rfl, by cases e : ok y with | false => rfl | true => exact absurd e hy⟩, fun j _ hj => absurd hj (Nat.not_lt_zero _)⟩
theorem Kn.mono {H H' : Hp} {v : V} (h : Kn H v) (k : ∀ a xs, (H a = some (.lst xs) → ∃ ys, H' a = some (.lst ys)) ∧ (H a = some (.tup xs) → H' a = some (.tup xs))) : Kn H' v := by
  rcases h with h | ⟨a, xs, rfl, h | h⟩
  · exact .inl h
  · obtain ⟨ys, e⟩ := (k a xs).1 h
    exact .inr ⟨a, ys, rfl, .inl e⟩
  · exact .inr ⟨a, xs, rfl, .inr ((k a xs).2 h)⟩
theorem Kn.same {H H' : Hp} {v : V} (h : Kn H v) (s : L2.Same H H') : Kn H' v := h.mono fun a xs => ⟨fun e => ⟨xs, s _ _ e⟩, fun e => s _ _ e⟩
/-- of a draw too: the pot stays a list -/
theorem Kn.but {H H' : Hp} {p q : Addr} {v : V} (h : Kn H v) (b : But p H H') (P : Pot H p q) (P' : Pot H' p q) : Kn H' v := h.mono fun a xs => ⟨fun e => by
  by_cases hn : a = p
  · subst hn
    exact P'.there
  · exact ⟨xs, b a _ e hn⟩, fun e => b.tup P e⟩
theorem Is.same {H H' : Hp} {x : V} {t : Th} (h : Is H x t) (s : L2.Same H H') : Is H' x t := by
  cases t with
  | «at» v => exact h
  | sq l a ys =>
    cases l with
    | true => exact ⟨h.1, s _ _ h.2.1, fun y hy => (h.2.2 y hy).same s⟩
    | false => exact ⟨h.1, s _ _ h.2.1, fun y hy => (h.2.2 y hy).same s⟩
theorem kn_int {H : Hp} {i : Int} : Kn H (.int i) := .inl rfl
theorem isInt.kn {H : Hp} {m : Nat} {v : V} (h : isInt m v) : Kn H v := by
  obtain ⟨i, rfl, _⟩ := h
  exact kn_int
theorem isMark.kn {H : Hp} {m : Nat} {v : V} (h : isMark m v) : Kn H v := by
  rcases h with rfl | h
  · exact .inl rfl
  · exact h.kn
/-! ### kinds -/
/-- the name of a thing's kind -/
def knTy (H : Hp) : V → String
  | .non => "NoneType"
  | .bl _ => "bool"
  | .int _ => "int"
  | .str _ => "str"
  | .ref a => (match H a with | some (.lst _) => "list" | _ => "tuple")
  | _ => ""
theorem Kn.ty {K : PySem.W.Frag} {H : Hp} {x : V} (h : Kn H x) : TyX K H x (.type (knTy H x)) := by
  rcases h with h | ⟨a, xs, rfl, h | h⟩
  · cases x with
    | non => exact .base .non
    | bl b => exact .base (.bl b)
    | int i => exact .base (.int i)
    | str y => exact .base (.str y)
    | _ => cases h
  · have e : knTy H (.ref a) = "list" := by simp only [knTy, h]
    rw [e]
    exact .base (.lst h)
  · have e : knTy H (.ref a) = "tuple" := by simp only [knTy, h]
    rw [e]
    exact .base (.tup h)
theorem Kn.kinds {H : Hp} {x : V} (h : Kn H x) : knTy H x ∈ ["NoneType", "bool", "int", "str", "list", "tuple"] := by
  rcases h with h | ⟨a, xs, rfl, h | h⟩
  · cases x with
    | non => exact List.mem_cons_self ..
    | bl b => exact List.mem_cons_of_mem _ (List.mem_cons_self ..)
    | int i => exact List.mem_cons_of_mem _ (List.mem_cons_of_mem _ (List.mem_cons_self ..))
    | str y => exact List.mem_cons_of_mem _ (List.mem_cons_of_mem _ (List.mem_cons_of_mem _ (List.mem_cons_self ..)))
    | _ => cases h
  · have e : knTy H (.ref a) = "list" := by simp only [knTy, h]
    rw [e]
    decide
  · have e : knTy H (.ref a) = "tuple" := by simp only [knTy, h]
    rw [e]
    decide
/-- what isinstance answers about kinds and the classes that the texts name -/
def isA (t c : String) : Bool := t == c || (t == "bool" && c == "int")
theorem kit_all : ∀ t ∈ ["NoneType", "bool", "int", "str", "list", "tuple"], ∀ c ∈ ["int", "bool", "str", "list", "tuple"], L2.kitB t c = some (isA t c) := by decide +kernel
section
variable {K : PySem.W.Frag} {H : Hp} {Q : VK}
theorem r_isi {x : V} {c : String} (k : Kn H x) (hc : c ∈ ["int", "bool", "str", "list", "tuple"]) (h : Q (.bl (isA (knTy H x) c)) H) : rIsi K [x, .ty c] H Q :=
  ⟨x, .ty c, _, _, _, rfl, .ty c, k.ty, kit_ty (kit_all _ k.kinds _ hc), h⟩
theorem r_isiLT {x : V} {tp : Addr} (k : Kn H x) (ht : H tp = some (.tup [.ty "list", .ty "tuple"])) (h : Q (.bl (isA (knTy H x) "list" || isA (knTy H x) "tuple")) H) : rIsiT K [x, .ref tp] H Q := by
  refine ⟨x, tp, _, _, _, _, rfl, ht, .cons (.ty _) (.cons (.ty _) .nil), k.ty, ?_, h⟩
  cases e1 : isA (knTy H x) "list" with
  | true => exact kitAny_cons (b := true) (by rw [← e1]; exact kit_ty (kit_all _ k.kinds _ (by decide))) (fun z => (by cases z)) (fun _ => rfl)
  | false =>
    refine kitAny_cons (b := false) (by rw [← e1]; exact kit_ty (kit_all _ k.kinds _ (by decide))) (fun _ => ?_) (fun z => (by cases z))
    cases e2 : isA (knTy H x) "tuple" with
    | true => exact kitAny_cons (b := true) (by rw [← e2]; exact kit_ty (kit_all _ k.kinds _ (by decide))) (fun z => (by cases z)) (fun _ => rfl)
    | false => exact kitAny_cons (b := false) (by rw [← e2]; exact kit_ty (kit_all _ k.kinds _ (by decide))) (fun _ => kitAny_nil) (fun z => (by cases z))
def rIsN : R2 := fun x y H Q => y = .non ∧ Q (.bl (decide (x = .non))) H
def rNotN : R2 := fun x y H Q => y = .non ∧ Q (.bl (!decide (x = .non))) H
theorem k_isN {X : Cx} : OpR X (compareOp .Is) rIsN := op_isN
theorem k_notN {X : Cx} : OpR X (compareOp .IsNot) rNotN := op_notN
theorem r_isN {x : V} (h : Q (.bl (decide (x = .non))) H) : rIsN x .non H Q := ⟨rfl, h⟩
theorem r_notN {x : V} (h : Q (.bl (!decide (x = .non))) H) : rNotN x .non H Q := ⟨rfl, h⟩
theorem r_notT {σ : L2.St} {ta : TE} (h : ta σ H fun x H1 => ∃ k, TruV K x H1 k ∧ Q (.bl (!k)) H1) : tNotT K ta σ H Q := h
theorem tru_lst {l : Addr} {xs : List V} (h : H l = some (.lst xs)) : TruV K (.ref l) H (!xs.isEmpty) := .inl ⟨xs, SqL.of h, rfl⟩
theorem tru_tup {l : Addr} {xs : List V} (h : H l = some (.tup xs)) : TruV K (.ref l) H (!xs.isEmpty) := .inr (.inl ⟨xs, SqT.of h, rfl⟩)
end
section
variable {X : Cx} (K : PySem.W.Frag) {a : Expr} {pos : Pos} {ta : TE}
theorem k_notT (ha : PE X a ta) (h : X.K = K := by rfl) : PE X (.UnaryOp .Not a pos) (tNotT K ta) := by
  subst h
  exact pe_notT ha
end
end Kb
namespace Kb
open PySem
theorem b_int : bootBuiltins "int" = some (.type "int") := by decide +kernel
theorem b_bool : bootBuiltins "bool" = some (.type "bool") := by decide +kernel
theorem b_str : bootBuiltins "str" = some (.type "str") := by decide +kernel
theorem b_list : bootBuiltins "list" = some (.type "list") := by decide +kernel
theorem b_tuple : bootBuiltins "tuple" = some (.type "tuple") := by decide +kernel
theorem b_set : bootBuiltins "set" = some (.type "set") := by decide +kernel
theorem b_range : bootBuiltins "range" = some (.type "range") := by decide +kernel
theorem b_len : bootBuiltins "len" = some (.builtin "len") := by decide +kernel
theorem b_isinstance : bootBuiltins "isinstance" = some (.builtin "isinstance") := by decide +kernel
theorem b_sorted : bootBuiltins "sorted" = some (.builtin "sorted") := by decide +kernel
theorem b_repr : bootBuiltins "repr" = some (.builtin "repr") := by decide +kernel
theorem b_iter : bootBuiltins "iter" = some (.builtin "iter") := by decide +kernel
theorem b_all : bootBuiltins "all" = some (.builtin "all") := by decide +kernel
theorem b_ValueError : bootBuiltins "ValueError" = some (.type "ValueError") := by decide +kernel
end Kb
set_option Elab.async false
set_option linter.all false
set_option maxRecDepth 100000
set_option maxHeartbeats 4000000
namespace Kb
open PySem PySem.Spec PyProof.Rows L2
local macro_rules | `(tactic| walk_at "beg") => `(tactic| simp only [cxK, cxKn, cxW, cxWn, cxP, cxPn, L2.start, List.map_cons, List.map_nil, List.length_cons, List.length_nil, Nat.reduceAdd, Nat.reduceSub, List.replicate_succ, List.replicate_zero, List.cons_append, List.nil_append])
local macro_rules | `(tactic| walk_at "go1") => `(tactic| with_reducible (first
  | refine r_seq ?_ | refine r_asg ?_ | refine r_if ?_ | refine r_ret ?_ | refine r_next ?_ | refine r_drop ?_ | refine r_gsub ?_
  | refine r_c ?_ | refine r_op ?_ | refine r_un ?_ | refine r_cons ?_ | refine r_nil ?_ | refine r_cb ?_ | refine r_call ?_ | refine r_test ?_ | refine r_B ?_ | refine r_bl ?_
  | refine r_and ?_ | refine r_or ?_ | refine r_not ?_ | refine r_ifE ?_ | refine r_andV ?_ | refine r_orV ?_ | refine r_notV ?_ | refine r_blV ?_ | refine r_T ?_ | refine r_F ?_ | refine r_nT ?_ | refine r_nF ?_
  | refine r_int ?_ | refine r_eqI ?_ | refine r_neI ?_
  | refine r_yes ?_ | refine r_lc ?_ | refine r_rng1 ?_ | refine r_rng2 ?_ | refine r_iList ?_ | refine r_iTup ?_ | refine r_for ?_
  | refine r_bm ?_ | refine r_sl ?_ | refine r_np ?_ | refine r_part ?_ | refine r_partI ?_ | refine r_lstRg ?_ | refine r_rg1 ?_ | refine r_rgI ?_ | refine r_isN ?_ | refine r_notN ?_ | refine r_notT ?_ | refine r_mkA ?_
  | refine r_I0 ?_ | refine r_U ?_ | refine r_tup ?_ | refine r_lst ?_))
local macro_rules | `(tactic| walk_at "go") => `(tactic| repeat (first | walk_at "go1" | with_reducible refine r_var (by with_unfolding_all rfl) ?_ | with_reducible refine r_lcT (by with_unfolding_all rfl) ?_ | with_reducible refine r_name (by (try simp only [wipe, List.set_cons_succ, List.set_cons_zero]) <;> with_unfolding_all rfl) ?_))
section
variable {P : Program} {w : World} {K : PySem.W.Frag} {mg : Str → Option Value} {base : Heap}
theorem sc_draw : FnScope ["_law_pot_here", "_law_many_here", "_law_cell", "_law_digit"] ["_law_pot_here", "_law_many_here"] (defScope s_draw) := ⟨rfl, rfl, rfl, by decide +kernel, rfl, by decide +kernel, by decide +kernel⟩
def spDraw : Sp := fun vs H Q _ => ∃ (p q : Addr) (m : Int), vs = [.ref p, .int m] ∧ Pot H p q ∧ 0 < m ∧ m < 1000000 ∧ ∀ (v : Int) (H' : Hp), 0 ≤ v → v < m → But p H H' → Pot H' p q → Q (.int v) H'
theorem mod_lt {a m : Int} (h : 0 < m) : a % m < m := Int.emod_lt_of_pos a h
theorem c_draw (T : Txt K mg) : CalX P w K mg base CX0 1 "_law_draw" spDraw [] := by
  refine mkcal (ps := ["_law_pot_here", "_law_many_here"]) T.u_draw T.g_draw sc_draw (fun _ _ _ _ _ _ us hl => match us, hl with | [_, _], _ => rfl) (fun vs H Q E h => ?_) (fun f cdv A outer s H vs Q E hr h => ?_)
  · obtain ⟨_, _, _, rfl, _⟩ := h
    rfl
  · obtain ⟨p, q, m, rfl, ⟨a, b, c, ns, hp, hq, hpq, ha, hb, hb2⟩, hm, hm2, k⟩ := h
    refine ⟨_, PSs.nox (C8.pss_cut (ps_if (PW.pt (pw_and (pt_cmpR op_eq (pe_ix (k_ixl K) (pv 0) pe_int (fun _ _ => rfl)) pe_int (nomark _)) (pw_and1 (pt_cmpR op_lt (pe_ix (k_ixl K) (pv 0) pe_int (fun _ _ => rfl)) (pe_callB (k_len K) (by rfl) T.n_len b_len (pa_cons (pe_ix (k_ixl K) (pv 0) pe_int (fun _ _ => rfl)) pa_nil)) (nomark _))))) (pss_cons (ps_set (i := 2) sc_draw.nd rfl (.inl rfl) (pe_ix (k_ixl K) (pe_ix (k_ixl K) (pv 0) pe_int (fun _ _ => rfl)) (pe_ix (k_ixl K) (pv 0) pe_int (fun _ _ => rfl)) (fun _ _ => rfl)))
      (pss_cons (ps_asg (pe_op op_add (pe_ix (k_ixl K) (pv 0) pe_int (fun _ _ => rfl)) pe_int) (pg_sub (pv 0) pe_int set_list))
      (pss_one (ps_if (pt_cmpR op_ge (pv 2) pe_int (nomark _)) (pss_one (ps_asg (pv 2) (pg_sub (pv 0) pe_int set_list))) (pss_one (ps_asg (pe_op op_mod (pe_op op_add (pe_op op_add (pe_op op_mul (pe_ix (k_ixl K) (pv 0) pe_int (fun _ _ => rfl)) pe_int) (pe_op op_mul (pe_op op_mod (pe_callTy cr_int (by rfl) T.n_int b_int (pa_cons (pv 2) pa_nil)) pe_int) pe_int)) pe_int) pe_int) (pg_sub (pv 0) pe_int set_list))))))) pss_nil)
      (pss_cons (ps_if (pt_cmpR op_gt (pe_ix (k_ixl K) (pv 0) pe_int (fun _ _ => rfl)) pe_int (nomark _)) (pss_cons (ps_set (i := 3) sc_draw.nd rfl (.inl rfl) (pe_op op_mod (pe_callTy cr_int (by rfl) T.n_int b_int (pa_cons (pe_ix (k_ixl K) (pv 0) pe_int (fun _ _ => rfl)) pa_nil)) (pv 1)))
      (pss_cons (ps_asg (pe_op op_fdiv (pe_ix (k_ixl K) (pv 0) pe_int (fun _ _ => rfl)) (pv 1)) (pg_sub (pv 0) pe_int set_list))
      (pss_one (ps_ret (pv 3))))) pss_nil)
      (pss_cons (ps_asg (pe_op op_mod (pe_op op_add (pe_op op_mul (pe_ix (k_ixl K) (pv 0) pe_int (fun _ _ => rfl)) pe_int) pe_int) pe_int) (pg_sub (pv 0) pe_int set_list))
      (pss_one (ps_ret (pe_op op_mod (pe_op op_fdiv (pe_callTy cr_int (by rfl) T.n_int b_int (pa_cons (pe_op op_mod (pe_op op_mul (pe_ix (k_ixl K) (pv 0) pe_int (fun _ _ => rfl)) pe_int) pe_int) pa_nil)) pe_int) (pv 1))))))), ?_⟩
    walk_at "beg"
    refine r_cut (fun σ' H' => ∃ z, σ' = [some (.ref p), some (.int m), z, none] ∧ But p H H' ∧ Pot H' p q) ?_ ?_
    · walk_at "go"
      refine r_ixL (SqL.of hp) rfl ?_
      walk_at "go"
      refine ite_d (fun e => ?_) (fun e => ?_)
      · walk_at "go"
        refine r_ixL (SqL.of hp) rfl ?_
        walk_at "go"
        refine r_ixL (SqL.of hp) rfl ?_
        walk_at "go"
        refine r_len (.inl (SqL.of hq)) ?_
        walk_at "go"
        refine ite_d (fun lt => ?_) (fun nlt => ?_)
        · rw [List.length_map] at lt
          have hc : c < ns.length := by omega
          walk_at "go"
          refine r_ixL (SqL.of hp) rfl ?_
          walk_at "go"
          refine r_ixL (SqL.of hp) rfl ?_
          walk_at "go"
          refine r_ixL (v := .int ns[c]) (SqL.of hq) (atI_nat (by rw [List.getElem?_map, List.getElem?_eq_getElem hc]; rfl)) ?_
          walk_at "go"
          refine r_ixL (SqL.of hp) rfl ?_
          walk_at "go"
          refine r_setL hp rfl ?_
          walk_at "go"
          refine ite_d (fun g => ?_) (fun g => ?_)
          · walk_at "go"
            refine r_setL upd_same rfl ?_
            refine ⟨_, rfl, ?_, ?_⟩
            · rw [upd_upd]
              exact But.upd
            · rw [upd_upd]
              exact ⟨ns[c], b, c + 1, ns, upd_same, by rw [upd_ne hpq]; exact hq, hpq, by omega, hb, hb2⟩
          · walk_at "go"
            refine r_ixL (SqL.of upd_same) rfl ?_
            walk_at "go"
            refine r_I (.inl ⟨by omega, by omega⟩) ?_
            walk_at "go"
            refine r_I (by show (0 : Int) < 1000003; decide) ?_
            walk_at "go"
            refine r_I (.inr ⟨by omega, by omega⟩) ?_
            walk_at "go"
            refine r_I (by show (0 : Int) < 2147483647; decide) ?_
            walk_at "go"
            refine r_setL upd_same rfl ?_
            refine ⟨_, rfl, ?_, ?_⟩
            · rw [upd_upd]
              exact But.upd
            · rw [upd_upd]
              exact ⟨a, _, c + 1, ns, upd_same, by rw [upd_ne hpq]; exact hq, hpq, ha, Int.emod_nonneg _ (by decide), mod_lt (by decide)⟩
        · walk_at "go"
          exact ⟨_, rfl, But.refl p H, a, b, c, ns, hp, hq, hpq, ha, hb, hb2⟩
      · walk_at "go"
        exact ⟨_, rfl, But.refl p H, a, b, c, ns, hp, hq, hpq, ha, hb, hb2⟩
    · rintro σ' H' ⟨z, rfl, bt, a, b, c, ns, hp, hq, hpq, ha, hb, hb2⟩
      walk_at "go"
      refine r_ixL (SqL.of hp) rfl ?_
      walk_at "go"
      refine ite_d (fun e => ?_) (fun e => ?_)
      · walk_at "go"
        refine r_ixL (SqL.of hp) rfl ?_
        walk_at "go"
        refine r_I hm ?_
        walk_at "go"
        refine r_ixL (SqL.of hp) rfl ?_
        walk_at "go"
        refine r_I ⟨hm, by omega⟩ ?_
        walk_at "go"
        refine r_setL hp rfl ?_
        walk_at "go"
        exact k _ _ (Int.emod_nonneg _ (by omega)) (mod_lt hm) (bt.trans But.upd) ⟨_, b, c, ns, upd_same, by rw [upd_ne hpq]; exact hq, hpq, Int.ediv_nonneg ha (by omega), hb, hb2⟩
      · walk_at "go"
        refine r_ixL (SqL.of hp) rfl ?_
        walk_at "go"
        refine r_I (.inl ⟨by omega, by omega⟩) ?_
        walk_at "go"
        refine r_I (by show (0 : Int) < 2147483647; decide) ?_
        walk_at "go"
        refine r_setL hp rfl ?_
        walk_at "go"
        refine r_ixL (SqL.of upd_same) rfl ?_
        walk_at "go"
        have h1 := Int.emod_nonneg (b * 48271 + 1013904223) (show (2147483647 : Int) ≠ 0 by decide)
        have h2 := mod_lt (a := b * 48271 + 1013904223) (show (0 : Int) < 2147483647 by decide)
        refine r_I (.inr ⟨by decide, by decide⟩) ?_
        walk_at "go"
        refine r_I (by show (0 : Int) < 2147483629; decide) ?_
        walk_at "go"
        refine r_I ⟨by decide, by decide⟩ ?_
        walk_at "go"
        refine r_I hm ?_
        exact k _ _ (Int.emod_nonneg _ (by omega)) (mod_lt hm) (bt.trans But.upd) ⟨a, _, c, ns, upd_same, by rw [upd_ne hpq]; exact hq, hpq, ha, h1, h2⟩
theorem sc_way : FnScope ["_law_pot_here", "_law_row"] ["_law_pot_here", "_law_row"] (defScope s_way) := ⟨rfl, rfl, rfl, by decide +kernel, rfl, by decide +kernel, by decide +kernel⟩
/-- a list or a tuple of the same things: new, or the tuple that came -/
def spWay : Sp := fun vs H Q _ => ∃ (p q a : Addr) (xs : List V), vs = [.ref p, .ref a] ∧ Pot H p q ∧ (H a = some (.lst xs) ∨ H a = some (.tup xs)) ∧ a ≠ p ∧
  ∀ (b : Addr) (H' : Hp), But p H H' → Pot H' p q → ((H b = none ∧ H' b = some (.lst xs)) ∨ H' b = some (.tup xs)) → Q (.ref b) H'
theorem c_way (T : Txt K mg) : CalX P w K mg base CX0 2 "_law_way" spWay [] := by
  have c_draw : CalX P w K mg base CX0 1 "_law_draw" spDraw [] := c_draw T
  refine mkcal (ps := ["_law_pot_here", "_law_row"]) T.u_way T.g_way sc_way (fun _ _ _ _ _ _ us hl => match us, hl with | [_, _], _ => rfl) (fun vs H Q E h => ?_) (fun f cdv A outer s H vs Q E hr h => ?_)
  · obtain ⟨_, _, _, _, rfl, _⟩ := h
    rfl
  · obtain ⟨p, q, a, xs, rfl, hP, ha, hap, k⟩ := h
    refine ⟨_, PSs.nox (pss_one (ps_ret (pe_ifExp (pt_truth (pc0 c_draw hr (by decide) (pa_cons (pv 0) (pa_cons pe_int pa_nil))) (by intro _; rfl)) (pe_callTy (k_lst K) (by rfl) T.n_list b_list (pa_cons (pv 1) pa_nil)) (pe_callTy (k_tup K) (by rfl) T.n_tuple b_tuple (pa_cons (pv 1) pa_nil))))), ?_⟩
    walk_at "beg"
    walk_at "go"
    refine ⟨p, q, 2, rfl, hP, by decide, by decide, fun v H1 h0 h2 b1 P1 => ?_⟩
    have ha1 : H1 a = some (.lst xs) ∨ H1 a = some (.tup xs) := ha.imp (fun e => b1 a _ e hap) (fun e => b1 a _ e hap)
    refine ⟨_, rfl, ?_⟩
    have hsq : SqL K H1 a xs ∨ SqT K H1 a xs := ha1.imp SqL.of SqT.of
    cases e : (v != 0) with
    | true =>
      walk_at "go"
      refine r_list hsq fun l H2 nl s2 hl _ => ?_
      exact k l H2 (b1.same s2) (P1.same s2) (.inl ⟨b1.free nl ⟨_, P1.there.choose_spec⟩, hl⟩)
    | false =>
      walk_at "go"
      rcases ha1 with z | z
      · refine r_tupL (SqL.of z) fun l H2 nl s2 hl _ => ?_
        exact k l H2 (b1.same s2) (P1.same s2) (.inr hl)
      · refine r_tupT (SqT.of z) ?_
        exact k a H1 b1 P1 (.inr z)
theorem sc_entry : FnScope ["_law_pot_here", "_law_n", "_law_m", "_law_house"] ["_law_pot_here", "_law_n", "_law_m"] (defScope s_entry) := ⟨rfl, rfl, rfl, by decide +kernel, rfl, by decide +kernel, by decide +kernel⟩
def spEntry : Sp := fun vs H Q _ => ∃ (p q : Addr) (n m : Nat), vs = [.ref p, .int (n : Int), .int (m : Int)] ∧ Pot H p q ∧ 1 ≤ m ∧ m ≤ 100 ∧ n ≤ 100 ∧
  ∀ (b : Addr) (r : List V) (H' : Hp), But p H H' → Pot H' p q → H' b = some (.tup r) → isRow n m r → Q (.ref b) H'
theorem c_entry (T : Txt K mg) : CalX P w K mg base CX0 2 "_law_entry" spEntry [] := by
  have c_draw : CalX P w K mg base CX0 1 "_law_draw" spDraw [] := c_draw T
  refine mkcal (ps := ["_law_pot_here", "_law_n", "_law_m"]) T.u_entry T.g_entry sc_entry (fun _ _ _ _ _ _ us hl => match us, hl with | [_, _, _], _ => rfl) (fun vs H Q E h => ?_) (fun f cdv A outer s H vs Q E hr h => ?_)
  · obtain ⟨_, _, _, _, rfl, _⟩ := h
    rfl
  · obtain ⟨p, q, n, m, rfl, hP, hm1, hm2, hn, k⟩ := h
    refine ⟨_, PSs.nox (pss_one (ps_ret (pe_callTy (k_tup K) (by rfl) T.n_tuple b_tuple (pa_cons (pe_lc (own := [("_law_house", 3)]) (g := gName 3) (tt := tYes) rfl sc_entry.nd (pi_range1 (by rfl) T.n_range (pa_cons (pv 1) pa_nil)) (blkOk_by (own := [("_law_house", 3)]) (N := ["_law_pot_here", "_law_n", "_law_m", "_law_house"]) (sc := defScope s_entry) (by decide +kernel)) (fun _ _ _ _ _ => pg_name (i := 3) sc_entry.nd rfl (Or.inl rfl)) (fun _ _ _ _ _ => pts_nil) (fun _ _ _ _ _ => (pc0 c_draw hr (by decide) (pa_cons (pv 0) (pa_cons (pv 2) pa_nil))))) pa_nil)))), ?_⟩
    walk_at "beg"
    walk_at "go"
    refine r_rj n rfl (by omega) ?_
    refine lcR_range (fun L i H1 => ∃ acc : List V, H1 L = some (.lst acc) ∧ acc.length = i ∧ (∀ v ∈ acc, isInt m v) ∧ But p H H1 ∧ Pot H1 p q) ?_ ?_ ?_
    · intro L hL
      obtain ⟨n1, n2⟩ := hP.ne hL
      exact ⟨[], upd_same, rfl, fun v hv => (by cases hv), (But.refl p H).fresh hL, hP.put n1 n2⟩
    · rintro L i H1 hL hi ⟨acc, h1, h2, h3, b1, P1⟩
      obtain ⟨n1, n2⟩ := hP.ne hL
      walk_at "go"
      refine ⟨p, q, m, rfl, P1, by omega, by omega, fun v H2 v0 v1 b2 P2 => ?_⟩
      refine r_lcA (b2 L _ h1 n1.symm) (by omega) ⟨acc ++ [.int v], upd_same, by simp [h2], fun y hy => ?_, (b1.trans b2).fresh hL, P2.put n1 n2⟩
      rcases List.mem_append.mp hy with hy | hy
      · exact h3 y hy
      · cases List.mem_singleton.mp hy
        exact ⟨v, rfl, v0, v1⟩
    · rintro L H1 hL ⟨acc, h1, h2, h3, b1, P1⟩
      walk_at "go"
      refine r_tupL (SqL.of h1) fun l H2 nl s2 hl _ => ?_
      exact k l acc H2 (b1.same s2) (P1.same s2) hl ⟨h2, h3⟩
theorem sc_many : FnScope ["_law_pot_here"] ["_law_pot_here"] (defScope s_many) := ⟨rfl, rfl, rfl, by decide +kernel, rfl, by decide +kernel, by decide +kernel⟩
def spMany : Sp := fun vs H Q _ => ∃ (p q : Addr), vs = [.ref p] ∧ Pot H p q ∧ ∀ (n : Nat) (H' : Hp), But p H H' → Pot H' p q → 2 ≤ n → n ≤ 5 → Q (.int (n : Int)) H'
/-- a written list at a drawn place -/
theorem pick {xs : List V} {v : Int} (h0 : 0 ≤ v) (h1 : v < (xs.length : Int)) : ∃ x, atI xs v = some x ∧ x ∈ xs := by
  obtain ⟨j, rfl⟩ : ∃ j : Nat, v = (j : Int) := ⟨v.toNat, by omega⟩
  have hj : j < xs.length := by omega
  exact ⟨xs[j], atI_nat (List.getElem?_eq_getElem hj), List.getElem_mem hj⟩
theorem c_many (T : Txt K mg) : CalX P w K mg base CX0 2 "_law_many" spMany [] := by
  have c_draw : CalX P w K mg base CX0 1 "_law_draw" spDraw [] := c_draw T
  refine mkcal (ps := ["_law_pot_here"]) T.u_many T.g_many sc_many (fun _ _ _ _ _ _ us hl => match us, hl with | [_], _ => rfl) (fun vs H Q E h => ?_) (fun f cdv A outer s H vs Q E hr h => ?_)
  · obtain ⟨_, _, rfl, _⟩ := h
    rfl
  · obtain ⟨p, q, rfl, hP, k⟩ := h
    refine ⟨_, PSs.nox (pss_one (ps_ret (pe_ix (k_ixl K) (pe_lst (pa_cons pe_int (pa_cons pe_int (pa_cons pe_int (pa_cons pe_int (pa_cons pe_int (pa_cons pe_int (pa_cons pe_int (pa_cons pe_int pa_nil))))))))) (pc0 c_draw hr (by decide) (pa_cons (pv 0) (pa_cons pe_int pa_nil))) (fun _ _ => rfl)))), ?_⟩
    walk_at "beg"
    walk_at "go"
    refine ⟨by decide, r_new fun l H1 nl s1 hl _ => ?_⟩
    walk_at "go"
    refine ⟨p, q, 8, rfl, hP.same s1, by decide, by decide, fun v H2 v0 v1 b2 P2 => ?_⟩
    have hlp : l ≠ p := by
      obtain ⟨xs, hx⟩ := hP.there
      exact (ne_of_none hx nl).symm
    obtain ⟨x, hx, hm⟩ := pick (xs := [V.int 2, .int 2, .int 2, .int 3, .int 3, .int 3, .int 4, .int 5]) v0 v1
    refine r_ixL (SqL.of (b2 l _ hl hlp)) hx ?_
    have hB : But p H H2 := (Same.but s1).trans b2
    simp only [List.mem_cons, List.not_mem_nil, or_false] at hm
    rcases hm with rfl | rfl | rfl | rfl | rfl | rfl | rfl | rfl
    · exact k 2 H2 hB P2 (by decide) (by decide)
    · exact k 2 H2 hB P2 (by decide) (by decide)
    · exact k 2 H2 hB P2 (by decide) (by decide)
    · exact k 3 H2 hB P2 (by decide) (by decide)
    · exact k 3 H2 hB P2 (by decide) (by decide)
    · exact k 3 H2 hB P2 (by decide) (by decide)
    · exact k 4 H2 hB P2 (by decide) (by decide)
    · exact k 5 H2 hB P2 (by decide) (by decide)
end
end Kb
set_option Elab.async false
set_option linter.all false
set_option maxRecDepth 100000
set_option maxHeartbeats 4000000
namespace Kb
open PySem PySem.Spec PyProof.Rows L2
local macro_rules | `(tactic| walk_at "beg") => `(tactic| simp only [cxK, cxKn, cxW, cxWn, cxP, cxPn, L2.start, List.map_cons, List.map_nil, List.length_cons, List.length_nil, Nat.reduceAdd, Nat.reduceSub, List.replicate_succ, List.replicate_zero, List.cons_append, List.nil_append])
local macro_rules | `(tactic| walk_at "go1") => `(tactic| with_reducible (first
  | refine r_seq ?_ | refine r_asg ?_ | refine r_if ?_ | refine r_ret ?_ | refine r_next ?_ | refine r_drop ?_ | refine r_gsub ?_
  | refine r_c ?_ | refine r_op ?_ | refine r_un ?_ | refine r_cons ?_ | refine r_nil ?_ | refine r_cb ?_ | refine r_call ?_ | refine r_test ?_ | refine r_B ?_ | refine r_bl ?_
  | refine r_and ?_ | refine r_or ?_ | refine r_not ?_ | refine r_ifE ?_ | refine r_andV ?_ | refine r_orV ?_ | refine r_notV ?_ | refine r_blV ?_ | refine r_T ?_ | refine r_F ?_ | refine r_nT ?_ | refine r_nF ?_
  | refine r_int ?_ | refine r_eqI ?_ | refine r_neI ?_
  | refine r_yes ?_ | refine r_lc ?_ | refine r_rng1 ?_ | refine r_rng2 ?_ | refine r_iList ?_ | refine r_iTup ?_ | refine r_for ?_
  | refine r_bm ?_ | refine r_sl ?_ | refine r_np ?_ | refine r_part ?_ | refine r_partI ?_ | refine r_lstRg ?_ | refine r_rg1 ?_ | refine r_rgI ?_ | refine r_isN ?_ | refine r_notN ?_ | refine r_notT ?_ | refine r_mkA ?_
  | refine r_I0 ?_ | refine r_U ?_ | refine r_tup ?_ | refine r_lst ?_))
local macro_rules | `(tactic| walk_at "go") => `(tactic| repeat (first | walk_at "go1" | with_reducible refine r_var (by with_unfolding_all rfl) ?_ | with_reducible refine r_lcT (by with_unfolding_all rfl) ?_ | with_reducible refine r_name (by (try simp only [wipe, List.set_cons_succ, List.set_cons_zero]) <;> with_unfolding_all rfl) ?_))
section
variable {P : Program} {w : World} {K : PySem.W.Frag} {mg : Str → Option Value} {base : Heap}
/-- each of b is one of a and one thing more, of the kind M -/
def Grown (M : V → Prop) (a b : Ks) : Prop := ∀ q ∈ b, ∃ p ∈ a, ∃ v, q.2 = p.2 ++ [v] ∧ M v
theorem Grown.app {M : V → Prop} {a b : Ks} {p : Addr × List V} {t : Addr} {v : V} (g : Grown M a b) (hp : p ∈ a) (hv : M v) : Grown M a (b ++ [(t, p.2 ++ [v])]) := fun q hq => by
  rcases List.mem_append.mp hq with hq | hq
  · exact g q hq
  · cases List.mem_singleton.mp hq
    exact ⟨p, hp, v, rfl, hv⟩
theorem sc_marked : FnScope ["_law_rows_here", "_law_m", "_law_longer_here", "_law_row", "_law_value"] ["_law_rows_here", "_law_m"] (defScope s_marked) := ⟨rfl, rfl, rfl, by decide +kernel, rfl, by decide +kernel, by decide +kernel⟩
def spMarked : Sp := fun vs H Q _ => ∃ (l : Addr) (m : Nat) (ks : Ks), vs = [.ref l, .int (m : Int)] ∧ H l = some (.lst (refs ks)) ∧ Tups H ks ∧ m ≤ 10 ∧ ks.length ≤ 1000 ∧ (∀ p ∈ ks, p.2.length ≤ 100) ∧
  ∀ (b : Addr) (ks' : Ks) (H' : Hp), L2.Same H H' → H b = none → H' b = some (.lst (refs ks')) → Tups H' ks' → Grown (isMark m) ks ks' → ks'.length = ks.length * (m + 1) → Q (.ref b) H'
theorem c_marked (T : Txt K mg) : CalX P w K mg base CX0 1 "_law_marked" spMarked [] := by
  refine mkcal (ps := ["_law_rows_here", "_law_m"]) T.u_marked T.g_marked sc_marked (fun _ _ _ _ _ _ us hl => match us, hl with | [_, _], _ => rfl) (fun vs H Q E h => ?_) (fun f cdv A outer s H vs Q E hr h => ?_)
  · obtain ⟨_, _, _, rfl, _⟩ := h
    rfl
  · obtain ⟨l, m, ks, rfl, hl, T0, hm, hks, hlen, k⟩ := h
    refine ⟨_, PSs.nox (pss_cons (ps_set (i := 2) sc_marked.nd rfl (.inl rfl) (pe_lst pa_nil))
      (pss_cons (ps_for PassesOwn.never rfl (pi_list (pv 0)) (pg_name (i := 3) sc_marked.nd rfl (.inl rfl)) (pss_cons (ps_expr (pe_bm PySem.F.plainAttrs_list PySem.F.slot_list_append PySem.F.type_list_append mt_append (pv 2) (pa_cons (pe_op (k_cat K) (pv 3) (pe_tup (pa_cons pe_non pa_nil))) pa_nil)))
      (pss_one (ps_for PassesOwn.never rfl (pi_range1 (by rfl) T.n_range (pa_cons (pv 1) pa_nil)) (pg_name (i := 4) sc_marked.nd rfl (.inl rfl)) (pss_one (ps_expr (pe_bm PySem.F.plainAttrs_list PySem.F.slot_list_append PySem.F.type_list_append mt_append (pv 2) (pa_cons (pe_op (k_cat K) (pv 3) (pe_tup (pa_cons (pv 4) pa_nil))) pa_nil))))))))
      (pss_one (ps_ret (pv 2))))), ?_⟩
    walk_at "beg"
    walk_at "go"
    refine ⟨sz10 (by simp), r_new fun L H1 nL s1 hL _ => ?_⟩
    walk_at "go"
    refine r_il (SqL.of (s1 _ _ hl)) ?_
    refine forR_list (refs ks) (fun i σ H2 => ∃ (ks' : Ks) (v3 v4 : Option V), σ = [some (.ref l), some (.int (m : Int)), some (.ref L), v3, v4] ∧ H2 L = some (.lst (refs ks')) ∧ Tups H2 ks' ∧ L2.Same H H2 ∧ Grown (isMark m) ks ks' ∧ ks'.length = i * (m + 1)) ?_ ?_ ?_ ?_
    · exact ⟨[], none, none, rfl, hL, fun p hp => (by cases hp), s1, fun p hp => (by cases hp), by simp⟩
    · rintro i σ H2 _ ⟨ks', v3, v4, rfl, h1, h2, h3, _⟩
      exact SqL.of (h3 _ _ hl)
    · rintro i x σ H2 hx ⟨ks', v3, v4, rfl, h1, h2, S2, h4, h5⟩
      obtain ⟨pr, hi, rfl, hmem⟩ := refs_get hx
      have hi2 : i < ks.length := (List.getElem?_eq_some_iff.mp hi).1
      have hb : (i + 1) * (m + 1) ≤ ks.length * (m + 1) := Nat.mul_le_mul_right _ hi2
      have hc : ks.length * (m + 1) ≤ 1000 * 11 := Nat.mul_le_mul hks (by omega)
      have e1 : (i + 1) * (m + 1) = i * (m + 1) + (m + 1) := Nat.succ_mul _ _
      walk_at "go"
      refine ⟨ty_l h1, ?_⟩
      walk_at "go"
      refine ⟨sz10 (by simp), r_new fun t1 H3 _ S3 ht1 _ => ?_⟩
      refine r_catA (S3 _ _ (S2 _ _ (T0 _ hmem))) ht1 (by have := hlen _ hmem; simp; omega) fun t2 H4 S4 ht2 => ?_
      walk_at "go"
      have g1 : H4 L = some (.lst (refs ks')) := S4 _ _ (S3 _ _ h1)
      refine r_app g1 (by rw [refs_len]; omega) ?_
      obtain ⟨a1, a2, a3⟩ := app_step nL g1 ((h2.same S3).same S4) ((S2.trans S3).trans S4) ht2
      walk_at "go"
      refine r_rj m rfl (by omega) ?_
      refine forR_range (fun j σ H5 => ∃ (ks2 : Ks) (v4 : Option V), σ = [some (.ref l), some (.int (m : Int)), some (.ref L), some (.ref pr.1), v4] ∧ H5 L = some (.lst (refs ks2)) ∧ Tups H5 ks2 ∧ L2.Same H H5 ∧ Grown (isMark m) ks ks2 ∧ ks2.length = i * (m + 1) + 1 + j) ?_ ?_ ?_
      · exact ⟨_, _, rfl, a1, a2, a3, h4.app hmem (.inl rfl), by simp [h5]⟩
      · rintro j σ H5 hj ⟨ks2, v4, rfl, q1, q2, q3, q4, q5⟩
        walk_at "go"
        refine ⟨ty_l q1, ?_⟩
        walk_at "go"
        refine ⟨sz10 (by simp), r_new fun t3 H6 _ S6 ht3 _ => ?_⟩
        refine r_catA (S6 _ _ (q3 _ _ (T0 _ hmem))) ht3 (by have := hlen _ hmem; simp; omega) fun t4 H7 S7 ht4 => ?_
        walk_at "go"
        have g2 : H7 L = some (.lst (refs ks2)) := S7 _ _ (S6 _ _ q1)
        refine r_app g2 (by rw [refs_len]; omega) ?_
        obtain ⟨b1, b2, b3⟩ := app_step nL g2 ((q2.same S6).same S7) ((q3.trans S6).trans S7) ht4
        exact ⟨_, _, rfl, b1, b2, b3, q4.app hmem (.inr ⟨(j : Int), by simp, by omega, by omega⟩), by simp [q5]; omega⟩
      · rintro σ H5 ⟨ks2, v4, rfl, q1, q2, q3, q4, q5⟩
        exact ⟨ks2, _, _, rfl, q1, q2, q3, q4, by omega⟩
    · rintro σ H2 ⟨ks', v3, v4, rfl, h1, h2, h3, h4, h5⟩
      walk_at "go"
      exact k L ks' H2 h3 nL h1 h2 h4 (by rw [h5, refs_len])
theorem pow_small {m n i : Nat} (hm : m ≤ 5) (hn : n ≤ 5) (hi : i < n) : m ^ i ≤ 625 := by
  have h1 : m ^ i ≤ 5 ^ i := Nat.pow_le_pow_left hm i
  have h2 : 5 ^ i ≤ 5 ^ 4 := Nat.pow_le_pow_right (by decide) (by omega)
  omega
theorem sc_spans : FnScope ["_law_n", "_law_m", "_law_rows_here", "_law_house"] ["_law_n", "_law_m"] (defScope s_spans) := ⟨rfl, rfl, rfl, by decide +kernel, rfl, by decide +kernel, by decide +kernel⟩
def spSpans : Sp := fun vs H Q _ => ∃ (n m : Nat), vs = [.int (n : Int), .int (m : Int)] ∧ n ≤ 5 ∧ m ≤ 4 ∧
  ∀ (b : Addr) (ks : Ks) (H' : Hp), L2.Same H H' → H b = none → H' b = some (.lst (refs ks)) → Tups H' ks → (∀ p ∈ ks, isView n m p.2) → ks.length = (m + 1) ^ n → Q (.ref b) H'
theorem c_spans (T : Txt K mg) : CalX P w K mg base CX0 2 "_law_spans" spSpans [] := by
  have c_marked : CalX P w K mg base CX0 1 "_law_marked" spMarked [] := c_marked T
  refine mkcal (ps := ["_law_n", "_law_m"]) T.u_spans T.g_spans sc_spans (fun _ _ _ _ _ _ us hl => match us, hl with | [_, _], _ => rfl) (fun vs H Q E h => ?_) (fun f cdv A outer s H vs Q E hr h => ?_)
  · obtain ⟨_, _, rfl, _⟩ := h
    rfl
  · obtain ⟨n, m, rfl, hn, hm, k⟩ := h
    refine ⟨_, PSs.nox (pss_cons (ps_set (i := 2) sc_spans.nd rfl (.inl rfl) (pe_lst (pa_cons (pe_tup pa_nil) pa_nil)))
      (pss_cons (ps_for PassesOwn.never rfl (pi_range1 (by rfl) T.n_range (pa_cons (pv 0) pa_nil)) (pg_name (i := 3) sc_spans.nd rfl (.inl rfl)) (pss_one (ps_set (i := 2) sc_spans.nd rfl (.inl rfl) (pc0 c_marked hr (by decide) (pa_cons (pv 2) (pa_cons (pv 1) pa_nil))))))
      (pss_one (ps_ret (pv 2))))), ?_⟩
    walk_at "beg"
    walk_at "go"
    refine ⟨sz10 (by simp), r_new fun t0 H1 nt0 s1 ht0 _ => ?_⟩
    walk_at "go"
    refine ⟨sz10 (by simp), r_new fun l0 H2 nl0 s2 hl0 _ => ?_⟩
    walk_at "go"
    refine r_rj n rfl (by omega) ?_
    refine forR_range (fun i σ H3 => ∃ (l : Addr) (ks : Ks) (v3 : Option V), σ = [some (.int (n : Int)), some (.int (m : Int)), some (.ref l), v3] ∧ H3 l = some (.lst (refs ks)) ∧ Tups H3 ks ∧ L2.Same H H3 ∧ H l = none ∧ (∀ p ∈ ks, isView i m p.2) ∧ ks.length = (m + 1) ^ i) ?_ ?_ ?_
    · refine ⟨l0, [(t0, [])], none, rfl, hl0, fun p hp => ?_, s1.trans s2, Same.free s1 nl0, fun p hp => ?_, by simp⟩
      · cases List.mem_singleton.mp hp
        exact s2 _ _ ht0
      · cases List.mem_singleton.mp hp
        exact ⟨rfl, fun v hv => (by cases hv)⟩
    · rintro i σ H3 hi ⟨l, ks, v3, rfl, h1, h2, h3, h4, h5, h6⟩
      walk_at "go"
      have hp := pow_small (m := m + 1) (n := n) (i := i) (by omega) hn hi
      refine ⟨l, m, ks, rfl, h1, h2, by omega, by omega, fun p hp => by have := (h5 p hp).1; omega, fun b ks' H4 s4 nb hb T4 g4 e4 => ?_⟩
      walk_at "go"
      refine ⟨b, ks', _, rfl, hb, T4, h3.trans s4, Same.free h3 nb, fun q hq => ?_, by rw [e4, h6, Nat.pow_succ]⟩
      obtain ⟨p, hp, v, e, hv⟩ := g4 q hq
      obtain ⟨p1, p2⟩ := h5 p hp
      refine ⟨by rw [e, List.length_append, p1]; rfl, fun y hy => ?_⟩
      rw [e] at hy
      rcases List.mem_append.mp hy with hy | hy
      · exact p2 y hy
      · rw [List.mem_singleton.mp hy]
        exact hv
    · rintro σ H3 ⟨l, ks, v3, rfl, h1, h2, h3, h4, h5, h6⟩
      walk_at "go"
      exact k l ks H3 h3 h4 h1 h2 h5 h6
theorem sc_longer : FnScope ["_law_rows_here", "_law_marks", "_law_longer_here", "_law_row", "_law_mark"] ["_law_rows_here", "_law_marks"] (defScope s_longer) := ⟨rfl, rfl, rfl, by decide +kernel, rfl, by decide +kernel, by decide +kernel⟩
def spLonger : Sp := fun vs H Q _ => ∃ (l l2 : Addr) (m : Nat) (ks : Ks) (xs : List V), vs = [.ref l, .ref l2] ∧ H l = some (.lst (refs ks)) ∧ H l2 = some (.lst xs) ∧ Tups H ks ∧ (∀ x ∈ xs, isInt m x) ∧ xs.length ≤ 10 ∧ ks.length ≤ 1000 ∧ (∀ p ∈ ks, p.2.length ≤ 100) ∧
  ∀ (b : Addr) (ks' : Ks) (H' : Hp), L2.Same H H' → H b = none → H' b = some (.lst (refs ks')) → Tups H' ks' → Grown (isInt m) ks ks' → ks'.length = ks.length * xs.length → Q (.ref b) H'
theorem c_longer (T : Txt K mg) : CalX P w K mg base CX0 1 "_law_longer" spLonger [] := by
  refine mkcal (ps := ["_law_rows_here", "_law_marks"]) T.u_longer T.g_longer sc_longer (fun _ _ _ _ _ _ us hl => match us, hl with | [_, _], _ => rfl) (fun vs H Q E h => ?_) (fun f cdv A outer s H vs Q E hr h => ?_)
  · obtain ⟨_, _, _, _, _, rfl, _⟩ := h
    rfl
  · obtain ⟨l, l2, m, ks, xs, rfl, hl, hl2, T0, hx, hxs, hks, hlen, k⟩ := h
    refine ⟨_, PSs.nox (pss_cons (ps_set (i := 2) sc_longer.nd rfl (.inl rfl) (pe_lst pa_nil))
      (pss_cons (ps_for PassesOwn.never rfl (pi_list (pv 0)) (pg_name (i := 3) sc_longer.nd rfl (.inr rfl)) (pss_one (ps_expr (pe_bm PySem.F.plainAttrs_list PySem.F.slot_list_extend PySem.F.type_list_extend mt_extend (pv 2) (pa_cons (pe_lc (own := [("_law_mark", 4)]) (g := gName 4) (tt := tYes) rfl sc_longer.nd (pi_list (pv 1)) (blkOk_by (own := [("_law_mark", 4)]) (N := ["_law_rows_here", "_law_marks", "_law_longer_here", "_law_row", "_law_mark"]) (sc := defScope s_longer) (by decide +kernel)) (fun _ _ _ _ _ => pg_name (i := 4) sc_longer.nd rfl (Or.inl rfl)) (fun _ _ _ _ _ => pts_nil) (fun _ _ _ _ _ => (pe_op (k_cat K) (pv 3) (pe_tup (pa_cons (pv 4) pa_nil))))) pa_nil)))))
      (pss_one (ps_ret (pv 2))))), ?_⟩
    walk_at "beg"
    walk_at "go"
    refine ⟨sz10 (by simp), r_new fun L H1 nL s1 hL _ => ?_⟩
    walk_at "go"
    refine r_il (SqL.of (s1 _ _ hl)) ?_
    refine forR_list (refs ks) (fun i σ H2 => ∃ (ks' : Ks) (v3 : Option V), σ = [some (.ref l), some (.ref l2), some (.ref L), v3, none] ∧ H2 L = some (.lst (refs ks')) ∧ Tups H2 ks' ∧ L2.Same H H2 ∧ Grown (isInt m) ks ks' ∧ ks'.length = i * xs.length) ?_ ?_ ?_ ?_
    · exact ⟨[], none, rfl, hL, fun p hp => (by cases hp), s1, fun p hp => (by cases hp), by simp⟩
    · rintro i σ H2 _ ⟨ks', v3, rfl, h1, h2, h3, _⟩
      exact SqL.of (h3 _ _ hl)
    · rintro i x σ H2 hi0 ⟨ks', v3, rfl, h1, h2, S2, h4, h5⟩
      obtain ⟨pr, hi, rfl, hmem⟩ := refs_get hi0
      have hi2 : i < ks.length := (List.getElem?_eq_some_iff.mp hi).1
      have hb : (i + 1) * xs.length ≤ ks.length * xs.length := Nat.mul_le_mul_right _ hi2
      have hc : ks.length * xs.length ≤ 1000 * 10 := Nat.mul_le_mul hks hxs
      have e1 : (i + 1) * xs.length = i * xs.length + xs.length := Nat.succ_mul _ _
      walk_at "go"
      refine ⟨ty_l h1, ?_⟩
      walk_at "go"
      refine r_il (SqL.of (S2 _ _ hl2)) ?_
      refine lcR_list xs (fun M j H3 => ∃ ks2 : Ks, H3 M = some (.lst (refs ks2)) ∧ Tups H3 ks2 ∧ L2.Same H2 H3 ∧ Grown (isInt m) ks ks2 ∧ ks2.length = j) ?_ ?_ ?_ ?_
      · intro L3 hL3
        exact ⟨[], upd_same, fun p hp => (by cases hp), Same.new hL3, fun p hp => (by cases hp), rfl⟩
      · rintro L3 j H3 hL3 hj ⟨ks2, q1, q2, q3, q4, q5⟩
        exact SqL.of (q3 _ _ (S2 _ _ hl2))
      · rintro L3 j x H3 hL3 hj ⟨ks2, q1, q2, q3, q4, q5⟩
        have hj2 := (List.getElem?_eq_some_iff.mp hj).1
        walk_at "go"
        refine ⟨sz10 (by simp), r_new fun t1 H4 _ S4 ht1 _ => ?_⟩
        refine r_catA (S4 _ _ (q3 _ _ (S2 _ _ (T0 _ hmem)))) ht1 (by have := hlen _ hmem; simp; omega) fun t2 H5 S5 ht2 => ?_
        have g2 : H5 L3 = some (.lst (refs ks2)) := S5 _ _ (S4 _ _ q1)
        obtain ⟨b1, b2, b3⟩ := app_step hL3 g2 ((q2.same S4).same S5) ((q3.trans S4).trans S5) ht2
        exact r_lcA g2 (by rw [refs_len]; omega) ⟨_, b1, b2, b3, q4.app hmem (hx _ (List.mem_of_getElem? hj)), by simp [q5]⟩
      · rintro L3 H3 hL3 ⟨ks2, q1, q2, q3, q4, q5⟩
        walk_at "go"
        have g1 : H3 L = some (.lst (refs ks')) := q3 _ _ h1
        refine r_ext g1 q1 (by rw [refs_len, refs_len, q5]; omega) ?_
        have hne : ∀ ys, H3 L ≠ some (.tup ys) := fun ys z => by rw [g1] at z; cases z
        refine ⟨ks' ++ ks2, _, rfl, by rw [upd_same, refs_app], fun p hp => ?_, Same.fresh (S2.trans q3) nL, fun q hq => ?_, by simp [h5, q5, e1]⟩
        · rcases List.mem_append.mp hp with hp | hp
          · exact (h2.same q3).put hne p hp
          · exact q2.put hne p hp
        · rcases List.mem_append.mp hq with hq | hq
          · exact h4 q hq
          · exact q4 q hq
    · rintro σ H2 ⟨ks', v3, rfl, h1, h2, h3, h4, h5⟩
      walk_at "go"
      exact k L ks' H2 h3 nL h1 h2 h4 (by rw [h5, refs_len])
theorem rg_int {m : Nat} {x : V} (h : x ∈ rgV 0 (m : Int)) : isInt m x := by
  unfold rgV at h
  obtain ⟨i, hi, rfl⟩ := List.mem_map.mp h
  have := List.mem_range.mp hi
  exact ⟨_, rfl, by omega, by omega⟩
theorem sc_rows : FnScope ["_law_n", "_law_m", "_law_rows_here", "_law_house"] ["_law_n", "_law_m"] (defScope s_rows) := ⟨rfl, rfl, rfl, by decide +kernel, rfl, by decide +kernel, by decide +kernel⟩
def spRows : Sp := fun vs H Q _ => ∃ (n m : Nat), vs = [.int (n : Int), .int (m : Int)] ∧ n ≤ 5 ∧ m ≤ 4 ∧
  ∀ (b : Addr) (ks : Ks) (H' : Hp), L2.Same H H' → H b = none → H' b = some (.lst (refs ks)) → Tups H' ks → (∀ p ∈ ks, isRow n m p.2) → ks.length = m ^ n → Q (.ref b) H'
theorem c_rows (T : Txt K mg) : CalX P w K mg base CX0 2 "_law_rows" spRows [] := by
  have c_longer : CalX P w K mg base CX0 1 "_law_longer" spLonger [] := c_longer T
  refine mkcal (ps := ["_law_n", "_law_m"]) T.u_rows T.g_rows sc_rows (fun _ _ _ _ _ _ us hl => match us, hl with | [_, _], _ => rfl) (fun vs H Q E h => ?_) (fun f cdv A outer s H vs Q E hr h => ?_)
  · obtain ⟨_, _, rfl, _⟩ := h
    rfl
  · obtain ⟨n, m, rfl, hn, hm, k⟩ := h
    refine ⟨_, PSs.nox (pss_cons (ps_set (i := 2) sc_rows.nd rfl (.inl rfl) (pe_lst (pa_cons (pe_tup pa_nil) pa_nil)))
      (pss_cons (ps_for PassesOwn.never rfl (pi_range1 (by rfl) T.n_range (pa_cons (pv 0) pa_nil)) (pg_name (i := 3) sc_rows.nd rfl (.inl rfl)) (pss_one (ps_set (i := 2) sc_rows.nd rfl (.inl rfl) (pc0 c_longer hr (by decide) (pa_cons (pv 2) (pa_cons (pe_listRg rfl (by rfl) T.n_list (prg_1 (by rfl) T.n_range (pv 1))) pa_nil))))))
      (pss_one (ps_ret (pv 2))))), ?_⟩
    walk_at "beg"
    walk_at "go"
    refine ⟨sz10 (by simp), r_new fun t0 H1 nt0 s1 ht0 _ => ?_⟩
    walk_at "go"
    refine ⟨sz10 (by simp), r_new fun l0 H2 nl0 s2 hl0 _ => ?_⟩
    walk_at "go"
    refine r_rj n rfl (by omega) ?_
    refine forR_range (fun i σ H3 => ∃ (l : Addr) (ks : Ks) (v3 : Option V), σ = [some (.int (n : Int)), some (.int (m : Int)), some (.ref l), v3] ∧ H3 l = some (.lst (refs ks)) ∧ Tups H3 ks ∧ L2.Same H H3 ∧ H l = none ∧ (∀ p ∈ ks, isRow i m p.2) ∧ ks.length = m ^ i) ?_ ?_ ?_
    · refine ⟨l0, [(t0, [])], none, rfl, hl0, fun p hp => ?_, s1.trans s2, Same.free s1 nl0, fun p hp => ?_, by simp⟩
      · cases List.mem_singleton.mp hp
        exact s2 _ _ ht0
      · cases List.mem_singleton.mp hp
        exact ⟨rfl, fun v hv => (by cases hv)⟩
    · rintro i σ H3 hi ⟨l, ks, v3, rfl, h1, h2, h3, h4, h5, h6⟩
      walk_at "go"
      have hp := pow_small (m := m) (n := n) (i := i) (by omega) hn hi
      refine ⟨_, rfl, RgOk.of_le (by decide) (by omega) (by decide) (by omega), r_new fun l2 H4 nl2 s4 hl2 _ => ?_⟩
      walk_at "go"
      refine ⟨l, l2, m, ks, _, rfl, s4 _ _ h1, hl2, h2.same s4, fun x hx => rg_int hx, by rw [rgV_length]; omega, by omega, fun p hp => by have := (h5 p hp).1; omega, fun b ks' H5 s5 nb hb T5 g5 e5 => ?_⟩
      walk_at "go"
      refine ⟨b, ks', _, rfl, hb, T5, (h3.trans s4).trans s5, Same.free (h3.trans s4) nb, fun q hq => ?_, by rw [e5, h6, Nat.pow_succ, rgV_length]; simp⟩
      obtain ⟨p, hp, v, e, hv⟩ := g5 q hq
      obtain ⟨p1, p2⟩ := h5 p hp
      refine ⟨by rw [e, List.length_append, p1]; rfl, fun y hy => ?_⟩
      rw [e] at hy
      rcases List.mem_append.mp hy with hy | hy
      · exact p2 y hy
      · rw [List.mem_singleton.mp hy]
        exact hv
    · rintro σ H3 ⟨l, ks, v3, rfl, h1, h2, h3, h4, h5, h6⟩
      walk_at "go"
      exact k l ks H3 h3 h4 h1 h2 h5 h6
end
end Kb
set_option Elab.async false
set_option linter.all false
set_option maxRecDepth 100000
set_option maxHeartbeats 4000000
namespace Kb
open PySem PySem.Spec PyProof.Rows L2
local macro_rules | `(tactic| walk_at "beg") => `(tactic| simp only [cxK, cxKn, cxW, cxWn, cxP, cxPn, L2.start, List.map_cons, List.map_nil, List.length_cons, List.length_nil, Nat.reduceAdd, Nat.reduceSub, List.replicate_succ, List.replicate_zero, List.cons_append, List.nil_append])
local macro_rules | `(tactic| walk_at "go1") => `(tactic| with_reducible (first
  | refine r_seq ?_ | refine r_asg ?_ | refine r_if ?_ | refine r_ret ?_ | refine r_next ?_ | refine r_drop ?_ | refine r_gsub ?_
  | refine r_c ?_ | refine r_op ?_ | refine r_un ?_ | refine r_cons ?_ | refine r_nil ?_ | refine r_cb ?_ | refine r_call ?_ | refine r_test ?_ | refine r_B ?_ | refine r_bl ?_
  | refine r_and ?_ | refine r_or ?_ | refine r_not ?_ | refine r_ifE ?_ | refine r_andV ?_ | refine r_orV ?_ | refine r_notV ?_ | refine r_blV ?_ | refine r_T ?_ | refine r_F ?_ | refine r_nT ?_ | refine r_nF ?_
  | refine r_int ?_ | refine r_eqI ?_ | refine r_neI ?_
  | refine r_yes ?_ | refine r_lc ?_ | refine r_rng1 ?_ | refine r_rng2 ?_ | refine r_iList ?_ | refine r_iTup ?_ | refine r_for ?_
  | refine r_bm ?_ | refine r_sl ?_ | refine r_np ?_ | refine r_part ?_ | refine r_partI ?_ | refine r_lstRg ?_ | refine r_rg1 ?_ | refine r_rgI ?_ | refine r_isN ?_ | refine r_notN ?_ | refine r_notT ?_ | refine r_mkA ?_
  | refine r_I0 ?_ | refine r_U ?_ | refine r_tup ?_ | refine r_lst ?_))
local macro_rules | `(tactic| walk_at "go") => `(tactic| repeat (first | walk_at "go1" | with_reducible refine r_var (by with_unfolding_all rfl) ?_ | with_reducible refine r_lcT (by with_unfolding_all rfl) ?_ | with_reducible refine r_name (by (try simp only [wipe, List.set_cons_succ, List.set_cons_zero]) <;> with_unfolding_all rfl) ?_))
section
variable {P : Program} {w : World} {K : PySem.W.Frag} {mg : Str → Option Value} {base : Heap}
/-! ### is_whole -/
theorem sc_is_whole : FnScope ["thing", "low", "high"] ["thing", "low", "high"] (defScope s_is_whole) := ⟨rfl, rfl, rfl, by decide +kernel, rfl, by decide +kernel, by decide +kernel⟩
def spWhole : Sp := fun vs H Q _ => ∃ (x : V) (lo hi : Option Int), vs = [x, oV lo, oV hi] ∧ Kn H x ∧ Q (.bl (wholeB x lo hi)) H
theorem whole_not {H : Hp} {x : V} {lo hi : Option Int} (k : Kn H x) (h : isA (knTy H x) "int" = false ∨ isA (knTy H x) "bool" = true) : wholeB x lo hi = false := by
  cases x with
  | int i => rcases h with h | h <;> cases h
  | _ => rfl
theorem whole_int {H : Hp} {x : V} (k : Kn H x) (h1 : isA (knTy H x) "int" = true) (h2 : isA (knTy H x) "bool" = false) : ∃ i, x = .int i := by
  rcases k with k | ⟨a, xs, rfl, k⟩
  · cases x with
    | int i => exact ⟨i, rfl⟩
    | bl b => cases h2
    | non => cases h1
    | str y => cases h1
    | _ => cases k
  · rcases k with k | k
    · have e : knTy H (.ref a) = "list" := by simp only [knTy, k]
      rw [e] at h1
      cases h1
    · have e : knTy H (.ref a) = "tuple" := by simp only [knTy, k]
      rw [e] at h1
      cases h1
theorem f_whole (T : Txt K mg) : ∃ fd, FunD K "is_whole" "is_whole" (defArgs s_is_whole) (defBody s_is_whole) (defScope s_is_whole) [V.non, V.non] [] (He.ga K "is_whole") fd ∧ FnOk P w K mg base CX0 1 (He.ga K "is_whole") fd ["thing", "low", "high"] spWhole := by
  obtain ⟨fd, F⟩ := T.u_is_whole
  refine ⟨fd, F, F.ok sc_is_whole (fun vs H Q E h => ?_) fun cdv A outer s H vs Q E hr h => ?_⟩
  · obtain ⟨_, _, _, rfl, _⟩ := h
    rfl
  · obtain ⟨x, lo, hi, rfl, kn, k⟩ := h
    refine ⟨_, PSs.nox (pss_cons (ps_if (PW.pt (pw_or (pt_not (pt_val (pe_callB (k_isi K) (by rfl) T.n_isinstance b_isinstance (pa_cons (pv 0) (pa_cons (pe_bltn (v := .ty "int") (by rfl) T.n_int b_int rfl) pa_nil))))) (pw_or1 (pt_val (pe_callB (k_isi K) (by rfl) T.n_isinstance b_isinstance (pa_cons (pv 0) (pa_cons (pe_bltn (v := .ty "bool") (by rfl) T.n_bool b_bool rfl) pa_nil))))))) (pss_one (ps_ret pe_bl)) pss_nil)
      (pss_cons (ps_if (PW.pt (pw_and (pt_cmpR k_notN (pv 1) pe_non (nomark _)) (pw_and1 (pt_cmpR op_lt (pv 0) (pv 1) (nomark _))))) (pss_one (ps_ret pe_bl)) pss_nil)
      (pss_one (ps_ret (pe_or (pe_cmpR k_isN (pv 2) pe_non (nomark _)) (pe_one (pe_cmpR op_le (pv 0) (pv 2) (nomark _)))))))), ?_⟩
    walk_at "beg"
    walk_at "go"
    refine r_isi kn (by decide) ?_
    walk_at "go"
    cases e1 : isA (knTy H x) "int" with
    | false =>
      walk_at "go"
      rw [whole_not kn (.inl e1)] at k
      exact k
    | true =>
      walk_at "go"
      refine r_isi kn (by decide) ?_
      cases e2 : isA (knTy H x) "bool" with
      | true =>
        walk_at "go"
        rw [whole_not kn (.inr e2)] at k
        exact k
      | false =>
        obtain ⟨i, rfl⟩ := whole_int kn e1 e2
        walk_at "go"
        have last : ∀ lo : Option Int, Q (.bl (wholeB (.int i) none hi)) H → if decide (oV hi = V.non) = true then Q (.bl true) H else tOp (rI0 fun i j => V.bl (decide (i ≤ j))) (tVar 0) (tVar 2) [some (.int i), some (oV lo), some (oV hi)] H Q := by
          intro lo k2
          cases hi with
          | none =>
            refine ite_d (fun _ => ?_) (fun z => absurd rfl z)
            exact k2
          | some u =>
            refine ite_d (fun z => (by cases z)) (fun _ => ?_)
            walk_at "go"
            exact ⟨i, u, rfl, rfl, k2⟩
        cases lo with
        | none =>
          refine ite_nd (fun z => absurd rfl z) (fun _ => ?_)
          walk_at "go"
          exact last _ k
        | some l =>
          refine ite_nd (fun _ => ?_) (fun z => (by cases z))
          walk_at "go"
          refine ⟨i, l, rfl, rfl, ?_⟩
          refine ⟨_, rfl, ?_⟩
          refine ite_d (fun z => ?_) (fun z => ?_)
          · walk_at "go"
            have e : wholeB (.int i) (some l) hi = false := by
              unfold wholeB
              simp only [decide_eq_false (show ¬ l ≤ i by omega), Bool.false_and]
            rw [e] at k
            exact k
          · have e : wholeB (.int i) (some l) hi = wholeB (.int i) none hi := by
              unfold wholeB
              simp only [decide_eq_true (show l ≤ i by omega), Bool.true_and]
            rw [e] at k
            walk_at "go"
            exact last _ k
theorem c_whole3 (T : Txt K mg) : CalX P w K mg base CX0 1 "is_whole" spWhole [] := by
  obtain ⟨fd, F, ok⟩ := f_whole (P := P) (w := w) (base := base) T
  obtain ⟨ds, d, b⟩ := F.binds1 (ps := ["thing", "low", "high"]) 3 2 (by decide) rfl fun T kV doc pm an cdv ct us its h1 h2 => match us, its, h1, h2 with | [_, _, _], [_, _], _, _ => ⟨_, rfl, rfl⟩
  exact ⟨_, fd, _, ds, ok, T.g_is_whole, F.kp, b, d⟩
theorem c_whole1 (T : Txt K mg) : CalX P w K mg base CX0 1 "is_whole" spWhole [.non, .non] := by
  obtain ⟨fd, F, ok⟩ := f_whole (P := P) (w := w) (base := base) T
  obtain ⟨ds, d, b⟩ := F.binds1 (ps := ["thing", "low", "high"]) 1 0 (by decide) rfl fun T kV doc pm an cdv ct us its h1 h2 => match us, its, h1, h2 with | [_], [_, _], _, _ => ⟨_, rfl, rfl⟩
  exact ⟨_, fd, _, ds, ok, T.g_is_whole, F.kp, b, d⟩
end
end Kb
set_option Elab.async false
set_option linter.all false
set_option maxRecDepth 100000
set_option maxHeartbeats 4000000
namespace Kb
open PySem PySem.Spec PyProof.Rows L2
local macro_rules | `(tactic| walk_at "beg") => `(tactic| simp only [cxK, cxKn, cxW, cxWn, cxP, cxPn, L2.start, List.map_cons, List.map_nil, List.length_cons, List.length_nil, Nat.reduceAdd, Nat.reduceSub, List.replicate_succ, List.replicate_zero, List.cons_append, List.nil_append])
local macro_rules | `(tactic| walk_at "go1") => `(tactic| with_reducible (first
  | refine r_seq ?_ | refine r_asg ?_ | refine r_if ?_ | refine r_ret ?_ | refine r_next ?_ | refine r_drop ?_ | refine r_gsub ?_
  | refine r_c ?_ | refine r_op ?_ | refine r_un ?_ | refine r_cons ?_ | refine r_nil ?_ | refine r_cb ?_ | refine r_call ?_ | refine r_test ?_ | refine r_B ?_ | refine r_bl ?_
  | refine r_and ?_ | refine r_or ?_ | refine r_not ?_ | refine r_ifE ?_ | refine r_andV ?_ | refine r_orV ?_ | refine r_notV ?_ | refine r_blV ?_ | refine r_T ?_ | refine r_F ?_ | refine r_nT ?_ | refine r_nF ?_
  | refine r_int ?_ | refine r_eqI ?_ | refine r_neI ?_
  | refine r_yes ?_ | refine r_lc ?_ | refine r_rng1 ?_ | refine r_rng2 ?_ | refine r_iList ?_ | refine r_iTup ?_ | refine r_for ?_
  | refine r_bm ?_ | refine r_sl ?_ | refine r_np ?_ | refine r_part ?_ | refine r_partI ?_ | refine r_lstRg ?_ | refine r_rg1 ?_ | refine r_rgI ?_ | refine r_isN ?_ | refine r_notN ?_ | refine r_notT ?_ | refine r_mkA ?_
  | refine r_I0 ?_ | refine r_U ?_ | refine r_tup ?_ | refine r_lst ?_))
local macro_rules | `(tactic| walk_at "go") => `(tactic| repeat (first | walk_at "go1" | with_reducible refine r_var (by with_unfolding_all rfl) ?_ | with_reducible refine r_lcT (by with_unfolding_all rfl) ?_ | with_reducible refine r_name (by (try simp only [wipe, List.set_cons_succ, List.set_cons_zero]) <;> with_unfolding_all rfl) ?_))
section
variable {P : Program} {w : World} {K : PySem.W.Frag} {mg : Str → Option Value} {base : Heap}
/-! ### does an entry go on from a view -/
def okAt (vw r : List V) (j : Nat) : Bool := match vw[j]?, r[j]? with
  | some a, some b => decide (a = .non) || decide (a = b)
  | _, _ => true
def okTo (vw r : List V) (i : Nat) : Bool := (List.range i).all (okAt vw r)
def goesB (vw r : List V) : Bool := okTo vw r r.length
theorem okTo_succ (vw r : List V) (i : Nat) : okTo vw r (i + 1) = (okTo vw r i && okAt vw r i) := by
  unfold okTo
  rw [List.range_succ, List.all_append]
  simp
theorem okTo_false {vw r : List V} {i j : Nat} (h : okAt vw r i = false) (hj : i < j) : okTo vw r j = false := by
  unfold okTo
  rw [List.all_eq_false]
  exact ⟨i, List.mem_range.mpr hj, by rw [h]; decide⟩
theorem okAt_eq {vw r : List V} {j : Nat} {a b : V} (ha : vw[j]? = some a) (hb : r[j]? = some b) : okAt vw r j = (decide (a = .non) || decide (a = b)) := by
  unfold okAt
  rw [ha, hb]
theorem sc_goes : FnScope ["_law_view", "_law_row", "_law_k"] ["_law_view", "_law_row"] (defScope s_goes) := ⟨rfl, rfl, rfl, by decide +kernel, rfl, by decide +kernel, by decide +kernel⟩
def spGoes : Sp := fun vs H Q _ => ∃ (a b : Addr) (n m : Nat) (vw r : List V), vs = [.ref a, .ref b] ∧ H a = some (.tup vw) ∧ H b = some (.tup r) ∧ isView n m vw ∧ isRow n m r ∧ n ≤ 100 ∧ ∀ H', L2.Same H H' → Q (.bl (goesB vw r)) H'
theorem c_goes (T : Txt K mg) : CalX P w K mg base CX0 1 "_law_goes" spGoes [] := by
  refine mkcal (ps := ["_law_view", "_law_row"]) T.u_goes T.g_goes sc_goes (fun _ _ _ _ _ _ us hl => match us, hl with | [_, _], _ => rfl) (fun vs H Q E h => ?_) (fun f cdv A outer s H vs Q E hr h => ?_)
  · obtain ⟨_, _, _, _, _, _, rfl, _⟩ := h
    rfl
  · obtain ⟨a, b, n, m, vw, r, rfl, ha, hb, hv, hrw, hn, k⟩ := h
    refine ⟨_, PSs.nox (pss_one (ps_ret ((k_notT K) (pe_lc (own := [("_law_k", 2)]) (g := gName 2) rfl sc_goes.nd (pi_range1 (by rfl) T.n_range (pa_cons (pe_callB (k_len K) (by rfl) T.n_len b_len (pa_cons (pv 1) pa_nil)) pa_nil)) (blkOk_by (own := [("_law_k", 2)]) (N := ["_law_view", "_law_row", "_law_k"]) (sc := defScope s_goes) (by decide +kernel)) (fun _ _ _ _ _ => pg_name (i := 2) sc_goes.nd rfl (Or.inl rfl)) (fun _ _ _ _ _ => (pts_one (PW.pt (pw_and (pt_cmpR k_notN (pe_ix (k_ixt K) (pv 0) (pv 2) (fun _ _ => rfl)) pe_non (nomark _)) (pw_and1 (pt_cmpR op_ne (pe_ix (k_ixt K) (pv 0) (pv 2) (fun _ _ => rfl)) (pe_ix (k_ixt K) (pv 1) (pv 2) (fun _ _ => rfl)) (nomark _))))))) (fun _ _ _ _ _ => (pv 2)))))), ?_⟩
    walk_at "beg"
    walk_at "go"
    refine r_len (.inr (SqT.of hb)) ?_
    refine r_rj r.length rfl (by have := hrw.1; omega) ?_
    refine lcR_range (fun L i H1 => ∃ acc : List V, H1 L = some (.lst acc) ∧ acc.length ≤ i ∧ acc.isEmpty = okTo vw r i ∧ L2.Same H H1) ?_ ?_ ?_
    · intro L hL
      exact ⟨[], upd_same, Nat.le_refl _, rfl, Same.new hL⟩
    · rintro L i H1 hL hi ⟨acc, h1, h2, h3, S1⟩
      have hi2 : i < vw.length := by rw [hv.1, ← hrw.1]; exact hi
      have g1 : vw[i]? = some vw[i] := List.getElem?_eq_getElem hi2
      have g2 : r[i]? = some r[i] := List.getElem?_eq_getElem hi
      have i0 : (0 : Int) + (i : Int) = (i : Int) := Int.zero_add _
      walk_at "go"
      refine r_ixT (v := vw[i]) (SqT.of (S1 _ _ ha)) (by rw [i0]; exact atI_nat g1) ?_
      walk_at "go"
      have e2 : acc.length < 1000 := by have := hrw.1; omega
      have fin : ∀ c : Bool, c = !okAt vw r i → if c = true then tVar 2 [some (.ref a), some (.ref b), some (.int (0 + (i : Int)))] H1 (LcA L fun H' => ∃ acc : List V, H' L = some (.lst acc) ∧ acc.length ≤ i + 1 ∧ acc.isEmpty = okTo vw r (i + 1) ∧ L2.Same H H') else (∃ acc : List V, H1 L = some (.lst acc) ∧ acc.length ≤ i + 1 ∧ acc.isEmpty = okTo vw r (i + 1) ∧ L2.Same H H1) := by
        intro c hc
        cases ho : okAt vw r i with
        | true =>
          rw [ho] at hc
          subst hc
          walk_at "go"
          exact ⟨acc, h1, by omega, by rw [okTo_succ, ho, h3, Bool.and_true], S1⟩
        | false =>
          rw [ho] at hc
          subst hc
          walk_at "go"
          exact r_lcA h1 (by omega) ⟨_, upd_same, by simp; omega, by rw [okTo_succ, ho, Bool.and_false]; simp, Same.fresh S1 hL⟩
      rcases hv.2 _ (List.getElem_mem hi2) with z | ⟨x, z, _⟩
      · refine ite_nd (fun y => absurd z y) (fun _ => ?_)
        exact fin _ (by rw [okAt_eq g1 g2, z, decide_eq_true rfl]; rfl)
      · obtain ⟨y, e, _⟩ := hrw.2 _ (List.getElem_mem hi)
        refine ite_nd (fun _ => ?_) (fun y => by rw [y] at z; cases z)
        walk_at "go"
        refine r_ixT (v := .int x) (SqT.of (S1 _ _ ha)) (by rw [i0, ← z]; exact atI_nat g1) ?_
        walk_at "go"
        refine r_ixT (v := .int y) (SqT.of (S1 _ _ hb)) (by rw [i0, ← e]; exact atI_nat g2) ?_
        walk_at "go"
        exact fin _ (by rw [okAt_eq g1 g2, z, e, decide_eq_false (show ¬ V.int x = V.non from fun z => by cases z), Bool.false_or]; congr 1; simp)
    · rintro L H1 hL ⟨acc, h1, h2, h3, S1⟩
      refine ⟨_, tru_lst h1, ?_⟩
      rw [h3, Bool.not_not]
      exact k H1 S1
end
end Kb
set_option Elab.async false
set_option linter.all false
set_option maxRecDepth 100000
set_option maxHeartbeats 4000000
namespace Kb
open PySem PySem.Spec PyProof.Rows L2
local macro_rules | `(tactic| walk_at "beg") => `(tactic| simp only [cxK, cxKn, cxW, cxWn, cxP, cxPn, L2.start, List.map_cons, List.map_nil, List.length_cons, List.length_nil, Nat.reduceAdd, Nat.reduceSub, List.replicate_succ, List.replicate_zero, List.cons_append, List.nil_append])
local macro_rules | `(tactic| walk_at "go1") => `(tactic| with_reducible (first
  | refine r_seq ?_ | refine r_asg ?_ | refine r_if ?_ | refine r_ret ?_ | refine r_next ?_ | refine r_drop ?_ | refine r_gsub ?_
  | refine r_c ?_ | refine r_op ?_ | refine r_un ?_ | refine r_cons ?_ | refine r_nil ?_ | refine r_cb ?_ | refine r_call ?_ | refine r_test ?_ | refine r_B ?_ | refine r_bl ?_
  | refine r_and ?_ | refine r_or ?_ | refine r_not ?_ | refine r_ifE ?_ | refine r_andV ?_ | refine r_orV ?_ | refine r_notV ?_ | refine r_blV ?_ | refine r_T ?_ | refine r_F ?_ | refine r_nT ?_ | refine r_nF ?_
  | refine r_int ?_ | refine r_eqI ?_ | refine r_neI ?_
  | refine r_yes ?_ | refine r_lc ?_ | refine r_rng1 ?_ | refine r_rng2 ?_ | refine r_iList ?_ | refine r_iTup ?_ | refine r_for ?_
  | refine r_bm ?_ | refine r_sl ?_ | refine r_np ?_ | refine r_part ?_ | refine r_partI ?_ | refine r_lstRg ?_ | refine r_rg1 ?_ | refine r_rgI ?_ | refine r_isN ?_ | refine r_notN ?_ | refine r_notT ?_ | refine r_mkA ?_
  | refine r_I0 ?_ | refine r_U ?_ | refine r_tup ?_ | refine r_lst ?_))
local macro_rules | `(tactic| walk_at "go") => `(tactic| repeat (first | walk_at "go1" | with_reducible refine r_var (by with_unfolding_all rfl) ?_ | with_reducible refine r_lcT (by with_unfolding_all rfl) ?_ | with_reducible refine r_name (by (try simp only [wipe, List.set_cons_succ, List.set_cons_zero]) <;> with_unfolding_all rfl) ?_))
section
variable {P : Program} {w : World} {K : PySem.W.Frag} {mg : Str → Option Value} {base : Heap}
theorem sc_goes_on : FnScope ["view", "entry", "k"] ["view", "entry"] (defScope s_goes_on) := ⟨rfl, rfl, rfl, by decide +kernel, rfl, by decide +kernel, by decide +kernel⟩
def spGoesOn : Sp := fun vs H Q _ => ∃ (a b : Addr) (n m : Nat) (vw r : List V), vs = [.ref a, .ref b] ∧ H a = some (.tup vw) ∧ H b = some (.tup r) ∧ isView n m vw ∧ isRow n m r ∧ n ≤ 100 ∧ Q (.bl (goesB vw r)) H
theorem c_goes_on (T : Txt K mg) : CalX P w K mg base CX0 1 "goes_on" spGoesOn [] := by
  refine mkcal (ps := ["view", "entry"]) T.u_goes_on T.g_goes_on sc_goes_on (fun _ _ _ _ _ _ us hl => match us, hl with | [_, _], _ => rfl) (fun vs H Q E h => ?_) (fun f cdv A outer s H vs Q E hr h => ?_)
  · obtain ⟨_, _, _, _, _, _, rfl, _⟩ := h
    rfl
  · obtain ⟨a, b, n, m, vw, r, rfl, ha, hb, hv, hrw, hn, k⟩ := h
    refine ⟨_, PSs.nox (pss_cons (ps_for PassesOwn.never rfl (pi_range1 (by rfl) T.n_range (pa_cons (pe_callB (k_len K) (by rfl) T.n_len b_len (pa_cons (pv 0) pa_nil)) pa_nil)) (pg_name (i := 2) sc_goes_on.nd rfl (.inl rfl)) (pss_one (ps_if (PW.pt (pw_and (pt_cmpR k_notN (pe_ix (k_ixt K) (pv 0) (pv 2) (fun _ _ => rfl)) pe_non (nomark _)) (pw_and1 (pt_cmpR op_ne (pe_ix (k_ixt K) (pv 0) (pv 2) (fun _ _ => rfl)) (pe_ix (k_ixt K) (pv 1) (pv 2) (fun _ _ => rfl)) (nomark _))))) (pss_one (ps_ret pe_bl)) pss_nil)))
      (pss_one (ps_ret pe_bl))), ?_⟩
    walk_at "beg"
    walk_at "go"
    refine r_len (.inr (SqT.of ha)) ?_
    have hlen : vw.length = r.length := by rw [hv.1, hrw.1]
    refine r_rj vw.length rfl (by have := hv.1; omega) ?_
    refine forR_range (fun i σ H1 => ∃ v2 : Option V, σ = [some (.ref a), some (.ref b), v2] ∧ H1 = H ∧ okTo vw r i = true) ?_ ?_ ?_
    · exact ⟨none, rfl, rfl, rfl⟩
    · rintro i σ H1 hi ⟨v2, rfl, rfl, h3⟩
      have hi2 : i < r.length := by omega
      have g1 : vw[i]? = some vw[i] := List.getElem?_eq_getElem hi
      have g2 : r[i]? = some r[i] := List.getElem?_eq_getElem hi2
      have i0 : (0 : Int) + (i : Int) = (i : Int) := Int.zero_add _
      walk_at "go"
      refine r_ixT (v := vw[i]) (SqT.of ha) (by rw [i0]; exact atI_nat g1) ?_
      walk_at "go"
      rcases hv.2 _ (List.getElem_mem hi) with z | ⟨x, z, _⟩
      · refine ite_nd (fun y => absurd z y) (fun _ => ?_)
        walk_at "go"
        exact ⟨_, rfl, rfl, by rw [okTo_succ, h3, okAt_eq g1 g2, z, decide_eq_true rfl]; rfl⟩
      · obtain ⟨y, e, _⟩ := hrw.2 _ (List.getElem_mem hi2)
        refine ite_nd (fun _ => ?_) (fun y => by rw [y] at z; cases z)
        walk_at "go"
        refine r_ixT (v := .int x) (SqT.of ha) (by rw [i0, ← z]; exact atI_nat g1) ?_
        walk_at "go"
        refine r_ixT (v := .int y) (SqT.of hb) (by rw [i0, ← e]; exact atI_nat g2) ?_
        walk_at "go"
        have eo : okAt vw r i = decide (x = y) := by
          rw [okAt_eq g1 g2, z, e, decide_eq_false (show ¬ V.int x = V.non from fun z => by cases z), Bool.false_or]
          simp
        refine ite_nd (fun ne => ?_) (fun e => ?_)
        · walk_at "go"
          have e3 : goesB vw r = false := okTo_false (by rw [eo, decide_eq_false ne]) hi2
          rw [e3] at k
          exact k
        · walk_at "go"
          exact ⟨_, rfl, rfl, by rw [okTo_succ, h3, eo, decide_eq_true e]; rfl⟩
    · rintro σ H1 ⟨v2, rfl, rfl, h3⟩
      walk_at "go"
      have e3 : goesB vw r = true := by
        unfold goesB
        rw [← hlen]
        exact h3
      rw [e3] at k
      exact k
/-! ### a row as truths -/
theorem sc_truths : FnScope ["_law_entry_here", "_law_value"] ["_law_entry_here"] (defScope s_truths) := ⟨rfl, rfl, rfl, by decide +kernel, rfl, by decide +kernel, by decide +kernel⟩
def spTruths : Sp := fun vs H Q _ => ∃ (a : Addr) (n m : Nat) (r : List V), vs = [.ref a] ∧ H a = some (.tup r) ∧ isRow n m r ∧ n ≤ 100 ∧ ∀ (b : Addr) (ys : List V) (H' : Hp), L2.Same H H' → H' b = some (.tup ys) → ys.length = n → (∀ y ∈ ys, atomV y = true) → ((∃ i : Int, V.int i ∈ r ∧ i < 2) → ∃ c, V.bl c ∈ ys) → Q (.ref b) H'
theorem c_truths (T : Txt K mg) : CalX P w K mg base CX0 1 "_law_truths" spTruths [] := by
  refine mkcal (ps := ["_law_entry_here"]) T.u_truths T.g_truths sc_truths (fun _ _ _ _ _ _ us hl => match us, hl with | [_], _ => rfl) (fun vs H Q E h => ?_) (fun f cdv A outer s H vs Q E hr h => ?_)
  · obtain ⟨_, _, _, _, rfl, _⟩ := h
    rfl
  · obtain ⟨a, n, m, r, rfl, ha, hrw, hn, k⟩ := h
    refine ⟨_, PSs.nox (pss_one (ps_ret (pe_callTy (k_tup K) (by rfl) T.n_tuple b_tuple (pa_cons (pe_lc (own := [("_law_value", 1)]) (g := gName 1) (tt := tYes) rfl sc_truths.nd (pi_tup (pv 0)) (blkOk_by (own := [("_law_value", 1)]) (N := ["_law_entry_here", "_law_value"]) (sc := defScope s_truths) (by decide +kernel)) (fun _ _ _ _ _ => pg_name (i := 1) sc_truths.nd rfl (Or.inl rfl)) (fun _ _ _ _ _ => pts_nil) (fun _ _ _ _ _ => (pe_ifExp (pt_cmpR op_lt (pv 1) pe_int (nomark _)) (pe_cmpR op_eq (pv 1) pe_int (nomark _)) (pv 1)))) pa_nil)))), ?_⟩
    walk_at "beg"
    walk_at "go"
    refine r_it (SqT.of ha) ?_
    refine lcR_tup r (fun L i H1 => ∃ acc : List V, H1 L = some (.lst acc) ∧ acc.length = i ∧ (∀ y ∈ acc, atomV y = true) ∧ ((∃ x : Int, V.int x ∈ r.take i ∧ x < 2) → ∃ c, V.bl c ∈ acc) ∧ L2.Same H H1) ?_ ?_ ?_ ?_
    · intro L hL
      exact ⟨[], upd_same, rfl, fun y hy => (by cases hy), fun ⟨x, hx, _⟩ => (by simp at hx), Same.new hL⟩
    · rintro L i H1 hL hi ⟨acc, h1, h2, h3, h4, S1⟩
      exact SqT.of (S1 _ _ ha)
    · rintro L i x H1 hL hx ⟨acc, h1, h2, h3, h4, S1⟩
      obtain ⟨hi, ei⟩ := List.getElem?_eq_some_iff.mp hx
      obtain ⟨y, rfl, _⟩ := hrw.2 _ (List.mem_of_getElem? hx)
      have et : r.take (i + 1) = r.take i ++ [V.int y] := by rw [List.take_add_one, hx]; rfl
      have sz : acc.length < 100000 := by have := hrw.1; omega
      walk_at "go"
      refine ite_d (fun lt => ?_) (fun ge => ?_)
      · walk_at "go"
        refine r_lcA h1 sz ⟨_, upd_same, by simp [h2], fun z hz => ?_, fun _ => ⟨_, List.mem_append_right _ (List.mem_singleton.mpr rfl)⟩, Same.fresh S1 hL⟩
        rcases List.mem_append.mp hz with hz | hz
        · exact h3 z hz
        · rw [List.mem_singleton.mp hz]
          rfl
      · walk_at "go"
        refine r_lcA h1 sz ⟨_, upd_same, by simp [h2], fun z hz => ?_, fun ⟨z, hz, lt⟩ => ?_, Same.fresh S1 hL⟩
        · rcases List.mem_append.mp hz with hz | hz
          · exact h3 z hz
          · rw [List.mem_singleton.mp hz]
            rfl
        · rw [et] at hz
          rcases List.mem_append.mp hz with hz | hz
          · obtain ⟨c, hc⟩ := h4 ⟨z, hz, lt⟩
            exact ⟨c, List.mem_append_left _ hc⟩
          · have hz := List.mem_singleton.mp hz
            injection hz with hz
            omega
    · rintro L H1 hL ⟨acc, h1, h2, h3, h4, S1⟩
      walk_at "go"
      refine r_tupL (SqL.of h1) fun t H2 nt s2 ht _ => ?_
      rw [List.take_length] at h4
      exact k t acc H2 (S1.trans s2) ht (by rw [h2, hrw.1]) h3 h4
end
end Kb
set_option Elab.async false
set_option linter.all false
set_option maxRecDepth 100000
set_option maxHeartbeats 4000000
namespace Kb
open PySem PySem.Spec PyProof.Rows L2
local macro_rules | `(tactic| walk_at "beg") => `(tactic| simp only [cxK, cxKn, cxW, cxWn, cxP, cxPn, L2.start, List.map_cons, List.map_nil, List.length_cons, List.length_nil, Nat.reduceAdd, Nat.reduceSub, List.replicate_succ, List.replicate_zero, List.cons_append, List.nil_append])
local macro_rules | `(tactic| walk_at "go1") => `(tactic| with_reducible (first
  | refine r_seq ?_ | refine r_asg ?_ | refine r_if ?_ | refine r_ret ?_ | refine r_next ?_ | refine r_drop ?_ | refine r_gsub ?_
  | refine r_c ?_ | refine r_op ?_ | refine r_un ?_ | refine r_cons ?_ | refine r_nil ?_ | refine r_cb ?_ | refine r_call ?_ | refine r_test ?_ | refine r_B ?_ | refine r_bl ?_
  | refine r_and ?_ | refine r_or ?_ | refine r_not ?_ | refine r_ifE ?_ | refine r_andV ?_ | refine r_orV ?_ | refine r_notV ?_ | refine r_blV ?_ | refine r_T ?_ | refine r_F ?_ | refine r_nT ?_ | refine r_nF ?_
  | refine r_int ?_ | refine r_eqI ?_ | refine r_neI ?_
  | refine r_yes ?_ | refine r_lc ?_ | refine r_rng1 ?_ | refine r_rng2 ?_ | refine r_iList ?_ | refine r_iTup ?_ | refine r_for ?_
  | refine r_bm ?_ | refine r_sl ?_ | refine r_np ?_ | refine r_part ?_ | refine r_partI ?_ | refine r_lstRg ?_ | refine r_rg1 ?_ | refine r_rgI ?_ | refine r_isN ?_ | refine r_notN ?_ | refine r_notT ?_ | refine r_mkA ?_
  | refine r_I0 ?_ | refine r_U ?_ | refine r_tup ?_ | refine r_lst ?_))
local macro_rules | `(tactic| walk_at "go") => `(tactic| repeat (first | walk_at "go1" | with_reducible refine r_var (by with_unfolding_all rfl) ?_ | with_reducible refine r_lcT (by with_unfolding_all rfl) ?_ | with_reducible refine r_name (by (try simp only [wipe, List.set_cons_succ, List.set_cons_zero]) <;> with_unfolding_all rfl) ?_))
section
variable {P : Program} {w : World} {K : PySem.W.Frag} {mg : Str → Option Value} {base : Heap}
theorem not_okE_at {m : Nat} {x : V} (h : ∀ i, x ≠ .int i) : okE m x = false := by
  cases x with
  | int i => exact absurd rfl (h i)
  | _ => rfl
theorem not_okE_int {m : Nat} {i : Int} (h : i < 0 ∨ (m : Int) ≤ i) : okE m (.int i) = false := by
  cases e : okE m (.int i) with
  | false => rfl
  | true =>
    obtain ⟨j, z, h1, h2⟩ := okE_iff.mp e
    injection z with z
    omega
/-! ### a thing that no entry holds -/
theorem sc_odd : FnScope ["_law_pot_here", "_law_high"] ["_law_pot_here", "_law_high"] (defScope s_odd) := ⟨rfl, rfl, rfl, by decide +kernel, rfl, by decide +kernel, by decide +kernel⟩
def spOdd : Sp := fun vs H Q _ => ∃ (p q : Addr) (m : Nat), vs = [.ref p, .int ((m : Int) - 1)] ∧ Pot H p q ∧ ∀ (x : V) (H' : Hp), But p H H' → Pot H' p q → Kn H' x → okE m x = false → Q x H'
theorem c_odd (T : Txt K mg) : CalX P w K mg base CX0 2 "_law_odd" spOdd [] := by
  have c_draw : CalX P w K mg base CX0 1 "_law_draw" spDraw [] := c_draw T
  refine mkcal (ps := ["_law_pot_here", "_law_high"]) T.u_odd T.g_odd sc_odd (fun _ _ _ _ _ _ us hl => match us, hl with | [_, _], _ => rfl) (fun vs H Q E h => ?_) (fun f cdv A outer s H vs Q E hr h => ?_)
  · obtain ⟨_, _, _, rfl, _⟩ := h
    rfl
  · obtain ⟨p, q, m, rfl, hP, k⟩ := h
    refine ⟨_, PSs.nox (pss_one (ps_ret (pe_ix (k_ixl K) (pe_lst (pa_cons (pe_un un_neg pe_int) (pa_cons (pe_op op_add (pv 1) pe_int) (pa_cons pe_non (pa_cons pe_bl (pa_cons pe_str (pa_cons (pe_tup (pa_cons pe_int pa_nil)) (pa_cons (pe_op op_add (pv 1) pe_int) pa_nil)))))))) (pc0 c_draw hr (by decide) (pa_cons (pv 0) (pa_cons pe_int pa_nil))) (fun _ _ => rfl)))), ?_⟩
    walk_at "beg"
    walk_at "go"
    refine ⟨sz10 (by simp), r_new fun t H1 nt s1 ht _ => ?_⟩
    walk_at "go"
    refine ⟨sz10 (by simp), r_new fun l H2 nl s2 hl _ => ?_⟩
    walk_at "go"
    have P2 := (hP.same s1).same s2
    refine ⟨p, q, 7, rfl, P2, by decide, by decide, fun v H3 v0 v1 b3 P3 => ?_⟩
    have hlp : l ≠ p := by
      obtain ⟨xs, hx⟩ := (hP.same s1).there
      exact (ne_of_none hx nl).symm
    obtain ⟨x, hx, hm⟩ := pick (xs := [V.int (-1), .int ((m : Int) - 1 + 1), .non, .bl true, .str "0", .ref t, .int ((m : Int) - 1 + 1000000007)]) v0 v1
    refine r_ixL (SqL.of (b3 l _ hl hlp)) hx ?_
    have hB : But p H H3 := (Same.but (s1.trans s2)).trans b3
    simp only [List.mem_cons, List.not_mem_nil, or_false] at hm
    rcases hm with rfl | rfl | rfl | rfl | rfl | rfl | rfl
    · exact k _ H3 hB P3 kn_int (not_okE_int (by omega))
    · exact k _ H3 hB P3 kn_int (not_okE_int (by omega))
    · exact k _ H3 hB P3 (.inl rfl) rfl
    · exact k _ H3 hB P3 (.inl rfl) rfl
    · exact k _ H3 hB P3 (.inl rfl) rfl
    · exact k _ H3 hB P3 (.inr ⟨t, _, rfl, .inr (b3.tup P2 (s2 _ _ ht))⟩) rfl
    · exact k _ H3 hB P3 kn_int (not_okE_int (by omega))
/-! ### the pot -/
theorem sc_pot : FnScope ["_law_script", "_law_salt", "_law_cell"] ["_law_script", "_law_salt"] (defScope s_pot) := ⟨rfl, rfl, rfl, by decide +kernel, rfl, by decide +kernel, by decide +kernel⟩
def spPot : Sp := fun vs H Q _ => ∃ (a : Addr) (ns : List Int) (b : Int), vs = [.ref a, .int b] ∧ SqL K H a (ns.map V.int) ∧ ns.length ≤ 1000 ∧ 0 ≤ b ∧ b < 2147483647 ∧ ∀ (p q : Addr) (H' : Hp), L2.Same H H' → Pot H' p q → Q (.ref p) H'
theorem c_pot (T : Txt K mg) : CalX P w K mg base CX0 1 "_law_pot" (spPot (K := K)) [] := by
  refine mkcal (ps := ["_law_script", "_law_salt"]) T.u_pot T.g_pot sc_pot (fun _ _ _ _ _ _ us hl => match us, hl with | [_, _], _ => rfl) (fun vs H Q E h => ?_) (fun f cdv A outer s H vs Q E hr h => ?_)
  · obtain ⟨_, _, _, rfl, _⟩ := h
    rfl
  · obtain ⟨a, ns, b, rfl, ha, hn, hb, hb2, k⟩ := h
    refine ⟨_, PSs.nox (pss_one (ps_ret (pe_lst (pa_cons pe_int (pa_cons (pv 1) (pa_cons pe_int (pa_cons (pe_lc (own := [("_law_cell", 2)]) (g := gName 2) (tt := tYes) rfl sc_pot.nd (pi_list (pe_slice (k_sll K) (pv 0) (po_some pe_int) (po_some pe_int))) (blkOk_by (own := [("_law_cell", 2)]) (N := ["_law_script", "_law_salt", "_law_cell"]) (sc := defScope s_pot) (by decide +kernel)) (fun _ _ _ _ _ => pg_name (i := 2) sc_pot.nd rfl (Or.inl rfl)) (fun _ _ _ _ _ => pts_nil) (fun _ _ _ _ _ => (pe_callTy cr_int (by rfl) T.n_int b_int (pa_cons (pv 2) pa_nil)))) pa_nil))))))), ?_⟩
    walk_at "beg"
    walk_at "go"
    refine ⟨_, rfl, ?_⟩
    walk_at "go"
    refine ⟨_, rfl, ?_⟩
    refine r_slL ha ?_
    refine r_new fun l H1 nl s1 hl _ => ?_
    have ec : cutV (ns.map V.int) (some 0) (some 60) = (ns.take 60).map V.int := by
      unfold cutV
      have e1 : HT.sIx (ns.map V.int).length 0 (some 0) = min 0 (ns.map V.int).length := HT.sIx_nat _ _ 0
      have e2 : HT.sIx (ns.map V.int).length (ns.map V.int).length (some 60) = min 60 (ns.map V.int).length := HT.sIx_nat _ _ 60
      rw [e1, e2]
      simp only [Nat.zero_min, List.drop_zero, Nat.sub_zero, List.map_take]
      rw [← List.take_eq_take_min]
    rw [ec] at hl
    refine r_il (SqL.of hl) ?_
    refine lcR_list ((ns.take 60).map V.int) (fun L i H2 => H2 L = some (.lst (((ns.take 60).take i).map V.int)) ∧ L2.Same H1 H2) ?_ ?_ ?_ ?_
    · intro L hL
      exact ⟨upd_same, Same.new hL⟩
    · rintro L i H2 hL hi ⟨h1, S1⟩
      exact SqL.of (S1 _ _ hl)
    · rintro L i x H2 hL hx ⟨h1, S1⟩
      rw [List.getElem?_map] at hx
      cases hy : (ns.take 60)[i]? with
      | none => rw [hy] at hx; cases hx
      | some y =>
        rw [hy] at hx
        cases hx
        walk_at "go"
        refine r_lcA h1 (by simp; omega) ⟨?_, Same.fresh S1 hL⟩
        rw [upd_same, List.take_add_one (i := i) (l := ns.take 60), hy]
        simp only [List.map_append]
        rfl
    · rintro L H2 hL ⟨h1, S1⟩
      walk_at "go"
      rw [List.length_map, List.take_length] at h1
      refine ⟨sz10 (by simp), r_new fun p H3 np s3 hp _ => ?_⟩
      exact k p L H3 ((s1.trans S1).trans s3) ⟨0, b, 0, ns.take 60, hp, s3 _ _ h1, ne_of_none h1 np, by omega, hb, hb2⟩
end
end Kb
set_option Elab.async false
set_option linter.all false
set_option maxRecDepth 100000
set_option maxHeartbeats 4000000
namespace Kb
open PySem PySem.Spec PyProof.Rows L2
local macro_rules | `(tactic| walk_at "beg") => `(tactic| simp only [cxK, cxKn, cxW, cxWn, cxP, cxPn, L2.start, List.map_cons, List.map_nil, List.length_cons, List.length_nil, Nat.reduceAdd, Nat.reduceSub, List.replicate_succ, List.replicate_zero, List.cons_append, List.nil_append])
local macro_rules | `(tactic| walk_at "go1") => `(tactic| with_reducible (first
  | refine r_seq ?_ | refine r_asg ?_ | refine r_if ?_ | refine r_ret ?_ | refine r_next ?_ | refine r_drop ?_ | refine r_gsub ?_
  | refine r_c ?_ | refine r_op ?_ | refine r_un ?_ | refine r_cons ?_ | refine r_nil ?_ | refine r_cb ?_ | refine r_call ?_ | refine r_test ?_ | refine r_B ?_ | refine r_bl ?_
  | refine r_and ?_ | refine r_or ?_ | refine r_not ?_ | refine r_ifE ?_ | refine r_andV ?_ | refine r_orV ?_ | refine r_notV ?_ | refine r_blV ?_ | refine r_T ?_ | refine r_F ?_ | refine r_nT ?_ | refine r_nF ?_
  | refine r_int ?_ | refine r_eqI ?_ | refine r_neI ?_
  | refine r_yes ?_ | refine r_lc ?_ | refine r_rng1 ?_ | refine r_rng2 ?_ | refine r_iList ?_ | refine r_iTup ?_ | refine r_for ?_
  | refine r_bm ?_ | refine r_sl ?_ | refine r_np ?_ | refine r_part ?_ | refine r_partI ?_ | refine r_lstRg ?_ | refine r_rg1 ?_ | refine r_rgI ?_ | refine r_isN ?_ | refine r_notN ?_ | refine r_notT ?_ | refine r_mkA ?_ | refine r_callS ?_ | refine r_sfld ?_ | refine r_fld ?_ | refine r_sortSet ?_ | refine r_mkO ?_ | refine r_enum ?_ | refine r_make ?_
  | refine r_I0 ?_ | refine r_U ?_ | refine r_tup ?_ | refine r_lst ?_))
local macro_rules | `(tactic| walk_at "go") => `(tactic| repeat (first | walk_at "go1" | with_reducible refine r_var (by with_unfolding_all rfl) ?_ | with_reducible refine r_lcT (by with_unfolding_all rfl) ?_ | with_reducible refine r_name (by (try simp only [wipe, List.set_cons_succ, List.set_cons_zero]) <;> with_unfolding_all rfl) ?_))
section
variable {P : Program} {w : World} {K : PySem.W.Frag} {mg : Str → Option Value} {base : Heap}
theorem Kn.put {H : Hp} {S : Addr} {xs ys : List V} {v : V} (h : Kn H v) (e : H S = some (.lst xs)) : Kn (L2.upd H S (.lst ys)) v := h.mono fun a zs => ⟨fun z => by
  by_cases n : a = S
  · subst n
    exact ⟨ys, upd_same⟩
  · exact ⟨zs, by rw [upd_ne n]; exact z⟩, fun z => by
  rw [upd_ne (ne_of z e (by intro q; cases q))]
  exact z⟩
theorem But.putNew {p S : Addr} {H H1 : Hp} {o : HO} (b : But p H H1) (n : H S = none) : But p H (L2.upd H1 S o) := b.fresh n
theorem sc_bad_entry : FnScope ["_law_pot_here", "_law_entry_here", "_law_m", "_law_way_here", "_law_at", "_law_spoilt", "_law_house"] ["_law_pot_here", "_law_entry_here", "_law_m"] (defScope s_bad_entry) := ⟨rfl, rfl, rfl, by decide +kernel, rfl, by decide +kernel, by decide +kernel⟩
def spBad : Sp := fun vs H Q _ => ∃ (p q a : Addr) (n m : Nat) (r : List V), vs = [.ref p, .ref a, .int (m : Int)] ∧ Pot H p q ∧ H a = some (.tup r) ∧ isRow n m r ∧ 1 ≤ n ∧ n ≤ 100 ∧
  ∀ (b : Addr) (x : V) (th : Th) (what : Str) (house : Nat) (H' : Hp), But p H H' → Pot H' p q → H' b = some (.tup [x, .str what, .int (house : Int)]) → Is H' x th → Th.bad (okE m) n th = some (what, house) → house < n → x ≠ .ref p → Q (.ref b) H'
theorem bad_sq {ok : V → Bool} {n : Nat} {l : Bool} {a : Addr} {ys : List V} : Th.bad ok n (.sq l a ys) = if ys.length = n then (badAt ok ys).map fun k => (("value" : Str), k) else some (("length" : Str), 0) := rfl
theorem bad_len {m n : Nat} {l : Bool} {a : Addr} {ys : List V} (h : ys.length ≠ n) : Th.bad (okE m) n (.sq l a ys) = some (("length" : Str), 0) := by
  rw [bad_sq, if_neg h]
theorem c_bad_entry (T : Txt K mg) : CalX P w K mg base CX0 3 "_law_bad_entry" spBad [] := by
  have c_draw : CalX P w K mg base CX0 1 "_law_draw" spDraw [] := c_draw T
  have c_way : CalX P w K mg base CX0 2 "_law_way" spWay [] := c_way T
  have c_odd : CalX P w K mg base CX0 2 "_law_odd" spOdd [] := c_odd T
  refine mkcal (ps := ["_law_pot_here", "_law_entry_here", "_law_m"]) T.u_bad_entry T.g_bad_entry sc_bad_entry (fun _ _ _ _ _ _ us hl => match us, hl with | [_, _, _], _ => rfl) (fun vs H Q E h => ?_) (fun f cdv A outer s H vs Q E hr h => ?_)
  · obtain ⟨_, _, _, _, _, _, rfl, _⟩ := h
    rfl
  · obtain ⟨p, q, a, n, m, r, rfl, hP, ha, hrw, hn1, hn2, k⟩ := h
    have hrl := hrw.1
    refine ⟨_, PSs.nox (pss_cons (ps_set (i := 3) sc_bad_entry.nd rfl (.inl rfl) (pc0 c_draw hr (by decide) (pa_cons (pv 0) (pa_cons pe_int pa_nil))))
      (pss_cons (ps_if (pt_cmpR op_lt (pv 3) pe_int (nomark _)) (pss_one (ps_ret (pe_tup (pa_cons (pe_ix (k_ixl K) (pe_lst (pa_cons pe_non (pa_cons pe_int (pa_cons pe_str (pa_cons (pe_slice (k_sla K) (pv 1) po_none (po_some (pe_un un_neg pe_int))) (pa_cons (pe_op (k_cat K) (pv 1) (pe_tup (pa_cons pe_int pa_nil))) pa_nil)))))) (pv 3) (fun _ _ => rfl)) (pa_cons pe_str (pa_cons pe_int pa_nil)))))) pss_nil)
      (pss_cons (ps_set (i := 4) sc_bad_entry.nd rfl (.inl rfl) (pc0 c_draw hr (by decide) (pa_cons (pv 0) (pa_cons (pe_callB (k_len K) (by rfl) T.n_len b_len (pa_cons (pv 1) pa_nil)) pa_nil))))
      (pss_cons (ps_set (i := 5) sc_bad_entry.nd rfl (.inl rfl) (pe_callTy (k_lst K) (by rfl) T.n_list b_list (pa_cons (pv 1) pa_nil)))
      (pss_cons (ps_for PassesOwn.never rfl (pi_range2 (by rfl) T.n_range (pa_cons (pv 4) (pa_cons (pe_callB (k_len K) (by rfl) T.n_len b_len (pa_cons (pv 1) pa_nil)) pa_nil))) (pg_name (i := 6) sc_bad_entry.nd rfl (.inl rfl)) (pss_one (ps_if (PW.pt (pw_or (pt_cmpR op_eq (pv 6) (pv 4) (nomark _)) (pw_or1 (pt_cmpR op_eq (pc0 c_draw hr (by decide) (pa_cons (pv 0) (pa_cons pe_int pa_nil))) pe_int (nomark _))))) (pss_one (ps_asg (pc0 c_odd hr (by decide) (pa_cons (pv 0) (pa_cons (pe_op op_sub (pv 2) pe_int) pa_nil))) (pg_sub (pv 5) (pv 6) set_list))) pss_nil)))
      (pss_one (ps_ret (pe_tup (pa_cons (pc0 c_way hr (by decide) (pa_cons (pv 0) (pa_cons (pv 5) pa_nil))) (pa_cons pe_str (pa_cons (pv 4) pa_nil))))))))))), ?_⟩
    walk_at "beg"
    walk_at "go"
    refine ⟨p, q, 8, rfl, hP, by decide, by decide, fun v H1 v0 v1 b1 P1 => ?_⟩
    walk_at "go"
    refine ite_d (fun lt => ?_) (fun ge => ?_)
    · walk_at "go"
      refine ⟨_, rfl, ?_⟩
      refine r_slA (b1.tup hP ha) fun t1 H2 S2 ht1 => ?_
      rw [cut_but1] at ht1
      walk_at "go"
      refine ⟨sz10 (by simp), r_new fun z H3 nz S3 hz _ => ?_⟩
      refine r_catA (S3 _ _ (S2 _ _ (b1.tup hP ha))) hz (by simp; omega) fun t2 H4 S4 ht2 => ?_
      walk_at "go"
      refine ⟨sz10 (by simp), r_new fun l H5 nl S5 hl _ => ?_⟩
      walk_at "go"
      obtain ⟨x, hx, hm⟩ := pick (xs := [V.non, .int 5, .str "0000", .ref t1, .ref t2]) v0 lt
      refine r_ixL (SqL.of hl) hx ?_
      walk_at "go"
      refine ⟨sz10 (by simp), r_new fun t3 H6 nt3 S6 ht3 _ => ?_⟩
      have SS : L2.Same H1 H6 := (((S2.trans S3).trans S4).trans S5).trans S6
      have hB : But p H H6 := b1.same SS
      have tne : ∀ (a' : Addr) (zs : List V), H6 a' = some (.tup zs) → V.ref a' ≠ .ref p := fun a' zs h e => by
        injection e with e
        obtain ⟨ws, hw⟩ := (P1.same SS).there
        rw [e, hw] at h
        cases h
      have P6 := P1.same SS
      simp only [List.mem_cons, List.not_mem_nil, or_false] at hm
      rcases hm with rfl | rfl | rfl | rfl | rfl
      · exact k t3 _ (.at .non) "length" 0 H6 hB P6 ht3 ⟨rfl, rfl⟩ rfl hn1 (fun z => by cases z)
      · exact k t3 _ (.at (.int 5)) "length" 0 H6 hB P6 ht3 ⟨rfl, rfl⟩ rfl hn1 (fun z => by cases z)
      · exact k t3 _ (.at (.str "0000")) "length" 0 H6 hB P6 ht3 ⟨rfl, rfl⟩ rfl hn1 (fun z => by cases z)
      · exact k t3 _ (.sq false t1 _) "length" 0 H6 hB P6 ht3 ⟨rfl, S6 _ _ (S5 _ _ (S4 _ _ (S3 _ _ ht1))), fun y hy => (hrw.2 y (List.dropLast_subset _ hy)).kn⟩ (bad_len (by rw [List.length_dropLast]; omega)) hn1 (tne t1 _ (S6 _ _ (S5 _ _ (S4 _ _ (S3 _ _ ht1)))))
      · refine k t3 _ (.sq false t2 _) "length" 0 H6 hB P6 ht3 ⟨rfl, S6 _ _ (S5 _ _ ht2), fun y hy => ?_⟩ (bad_len (by simp; omega)) hn1 (tne t2 _ (S6 _ _ (S5 _ _ ht2)))
        rcases List.mem_append.mp hy with hy | hy
        · exact (hrw.2 y hy).kn
        · rw [List.mem_singleton.mp hy]
          exact kn_int
    · walk_at "go"
      refine r_len (.inr (SqT.of (b1.tup hP ha))) ?_
      refine ⟨p, q, r.length, rfl, P1, by omega, by omega, fun at' H2 a0 a1 b2 P2 => ?_⟩
      obtain ⟨j, rfl⟩ : ∃ j : Nat, at' = (j : Int) := ⟨at'.toNat, by omega⟩
      have hj : j < r.length := by omega
      have B2 := b1.trans b2
      walk_at "go"
      refine r_list (.inr (SqT.of (B2.tup hP ha))) fun S H3 nS S3 hS _ => ?_
      have nS0 : H S = none := B2.free nS ⟨_, P2.there.choose_spec⟩
      have nSp : S ≠ p := (P2.ne nS).1.symm
      have nSq : S ≠ q := (P2.ne nS).2.symm
      walk_at "go"
      refine r_len (.inr (SqT.of (S3 _ _ (B2.tup hP ha)))) ?_
      refine r_rj2 (r.length - j) (by omega) (by omega) (by omega) (by omega) ?_
      refine forR_range (fun i σ H4 => ∃ (ys : List V) (v6 : Option V), σ = [some (.ref p), some (.ref a), some (.int (m : Int)), some (.int v), some (.int (j : Int)), some (.ref S), v6] ∧ H4 S = some (.lst ys) ∧ ys.length = n ∧ (∀ i y, i < j → ys[i]? = some y → okE m y = true) ∧ (1 ≤ i → ∃ y, ys[j]? = some y ∧ okE m y = false) ∧ (∀ y ∈ ys, Kn H4 y) ∧ But p H H4 ∧ Pot H4 p q) ?_ ?_ ?_
      · exact ⟨r, none, rfl, hS, hrl, fun i y _ hy => okE_iff.mpr (hrw.2 y (List.mem_of_getElem? hy)), fun z => (by omega), fun y hy => (hrw.2 y hy).kn, B2.same S3, P2.same S3⟩
      · rintro i σ H4 hi ⟨ys, v6, rfl, h1, h2, h3, h4, h5, h6, P4⟩
        walk_at "go"
        -- one is spoilt
        have step : ∀ H5, H5 S = some (.lst ys) → (∀ y ∈ ys, Kn H5 y) → But p H H5 → Pot H5 p q → spOdd [V.ref p, .int ((m : Int) - 1)] H5 (fun x H6 => ∃ (ys' : List V) (v6 : Option V), (∃ j', ixN ys.length ((j : Int) + (i : Int)) = some j' ∧ ys' = ys.set j' x) ∧ (upd H6 S (.lst ys')) S = some (.lst ys') ∧ ys'.length = n ∧ (∀ i y, i < j → ys'[i]? = some y → okE m y = true) ∧ (1 ≤ i + 1 → ∃ y, ys'[j]? = some y ∧ okE m y = false) ∧ (∀ y ∈ ys', Kn (upd H6 S (.lst ys')) y) ∧ But p H (upd H6 S (.lst ys')) ∧ Pot (upd H6 S (.lst ys')) p q ∧ H6 S = some (.lst ys)) E := by
          intro H5 g1 g2 g3 g4
          refine ⟨p, q, m, rfl, g4, fun x H6 b6 P6 kx ox => ?_⟩
          have e6 : H6 S = some (.lst ys) := b6 S _ g1 nSp
          refine ⟨ys.set (j + i) x, none, ⟨j + i, ?_, rfl⟩, upd_same, by rw [List.length_set]; exact h2, fun i' y hi' hy => ?_, fun _ => ?_, fun y hy => ?_, (g3.trans b6).fresh nS0, P6.put nSp.symm nSq.symm, e6⟩
          · unfold ixN
            rw [if_pos (by omega), if_pos (by omega)]
            exact congrArg some (by omega)
          · rw [List.getElem?_set_ne (by omega)] at hy
            exact h3 i' y hi' hy
          · by_cases hi0 : i = 0
            · subst hi0
              exact ⟨x, by rw [Nat.add_zero, List.getElem?_set_self (by omega)], ox⟩
            · obtain ⟨y, hy, oy⟩ := h4 (by omega)
              exact ⟨y, by rw [List.getElem?_set_ne (by omega)]; exact hy, oy⟩
          · rcases List.mem_or_eq_of_mem_set hy with hy | rfl
            · exact ((g2 y hy).but b6 g4 P6).put e6
            · exact kx.put e6
        refine ite_d (fun e => ?_) (fun e => ?_)
        · walk_at "go"
          obtain ⟨p1, q1, m1, e1, g1, g2⟩ := step H4 h1 h5 h6 P4
          refine ⟨p1, q1, m1, e1, g1, fun x H6 b6 P6 kx ox => ?_⟩
          obtain ⟨ys', _, ⟨j', ej, rfl⟩, f1, f2, f3, f4, f5, f6, f7, e6⟩ := g2 x H6 b6 P6 kx ox
          walk_at "go"
          exact r_setL e6 ej ⟨_, _, rfl, f1, f2, f3, f4, f5, f6, f7⟩
        · walk_at "go"
          refine ⟨p, q, 3, rfl, P4, by decide, by decide, fun v5 H5 u0 u1 b5 P5 => ?_⟩
          walk_at "go"
          have g5 : ∀ y ∈ ys, Kn H5 y := fun y hy => (h5 y hy).but b5 P4 P5
          have hi1 : 1 ≤ i := by
            apply Classical.byContradiction
            intro z
            exact e (by omega)
          refine ite_d (fun e => ?_) (fun e => ?_)
          · walk_at "go"
            obtain ⟨p1, q1, m1, e1, g1, g2⟩ := step H5 (b5 S _ h1 nSp) g5 (h6.trans b5) P5
            refine ⟨p1, q1, m1, e1, g1, fun x H6 b6 P6 kx ox => ?_⟩
            obtain ⟨ys', _, ⟨j', ej, rfl⟩, f1, f2, f3, f4, f5, f6, f7, e6⟩ := g2 x H6 b6 P6 kx ox
            walk_at "go"
            exact r_setL e6 ej ⟨_, _, rfl, f1, f2, f3, f4, f5, f6, f7⟩
          · walk_at "go"
            exact ⟨ys, _, rfl, b5 S _ h1 nSp, h2, h3, fun _ => h4 hi1, g5, h6.trans b5, P5⟩
      · rintro σ H4 ⟨ys, v6, rfl, h1, h2, h3, h4, h5, h6, P4⟩
        walk_at "go"
        refine ⟨p, q, S, ys, rfl, P4, .inl h1, nSp, fun b H5 b5 P5 hb => ?_⟩
        walk_at "go"
        refine ⟨sz10 (by simp), r_new fun t3 H6 nt3 S6 ht3 _ => ?_⟩
        have hbad : ∀ l : Bool, Th.bad (okE m) n (.sq l b ys) = some (("value" : Str), j) := fun l => by
          rw [bad_sq, if_pos h2, badAt_some (h4 (by omega)) h3]
          rfl
        have hk : ∀ y ∈ ys, Kn H6 y := fun y hy => ((h5 y hy).but b5 P4 P5).same S6
        rcases hb with ⟨nb, hb⟩ | hb
        · exact k t3 _ (.sq true b ys) "value" j H6 ((h6.trans b5).same S6) (P5.same S6) ht3 ⟨rfl, S6 _ _ hb, hk⟩ (hbad _) (by omega) (fun e => by
            injection e with e
            obtain ⟨ws, hw⟩ := P4.there
            rw [e, hw] at nb
            cases nb)
        · exact k t3 _ (.sq false b ys) "value" j H6 ((h6.trans b5).same S6) (P5.same S6) ht3 ⟨rfl, S6 _ _ hb, hk⟩ (hbad _) (by omega) (fun e => by
            injection e with e
            obtain ⟨ws, hw⟩ := P5.there
            rw [e, hw] at hb
            cases hb)
end
end Kb
set_option Elab.async false
set_option linter.all false
set_option maxRecDepth 100000
set_option maxHeartbeats 4000000
namespace Kb
open PySem PySem.Spec PyProof.Rows L2
/-! ### exceptions: they are made, their context is None -/
abbrev CN (P : Program) (w : World) : CXT := L2N.CX P w
abbrev CL (P : Program) (w : World) : CXT := L2.CX P w
theorem cn_cl {P : Program} {w : World} {outer : List Env} {H : Hp} {s : Shared} {E : XK} {u : Value} {s' : Shared} (h : CN P w outer H s E u s') : CL P w outer H s E u s' := by
  obtain ⟨a, B, H', cls, d, e, fl, rest⟩ := h
  exact ⟨a, B, H', cls, d, e, L2H.flyingZ_imp (fun _ z => L2N.Zn.zc z) fl, rest⟩
theorem fnWeak {P : Program} {w : World} {K : PySem.W.Frag} {mg : Str → Option Value} {base : Heap} {k : Nat} {f : Addr} {fd : FuncData} {ps : List Str} {sp : Sp} (F : FnOk P w K mg base (CN P w) k f fd ps sp) : FnOk P w K mg base (CL P w) k f fd ps sp :=
  ⟨F.len, fun A outer s H args us vs Q E hr he hb hv hs => codeAny_mono (F.run A outer s H args us vs Q E hr he hb hv hs) fun r s' q => by
    cases r with
    | error e => exact cn_cl q
    | ok fl => cases fl <;> exact q⟩
theorem CalX.weak {P : Program} {w : World} {K : PySem.W.Frag} {mg : Str → Option Value} {base : Heap} {k : Nat} {x : Str} {sp : Sp} {dvs : List V} (c : CalX P w K mg base (CN P w) k x sp dvs) : CalX P w K mg base (CL P w) k x sp dvs := by
  obtain ⟨f, fd, ps, ds, F, r⟩ := c.ex
  exact ⟨f, fd, ps, ds, fnWeak F, r⟩
/-- what stands behind an __init__ : the wish about the exception -/
def After (H1 : Hp) (a C : Addr) (Q : XK) (H2 : Hp) : Prop := (∃ (d : Addr) (fs : List (Str × V)), H2 a = some (exo a C (some d)) ∧ H2 d = some (exd d fs) ∧ H1 d = none ∧ Q (.ref C) (some d) (L2.upd (del H2 a) d (.xd fs))) ∨
  (H2 a = some (exo a C none) ∧ Q (.ref C) none (del H2 a))
/-- C(..), C's own __init__ keeping sp -/
def tMkA (C : Addr) (sp : Sp) (al : TA) : L2.St → Hp → XK → Prop := fun σ H Q => al σ H fun vs H1 => vs.length ≤ 1000 ∧ ∀ a, H1 a = none → sp (.ref a :: vs) (L2.upd H1 a (exo a C none)) (fun v H2 => v = .non ∧ After H1 a C Q H2) (fun _ _ _ => False)
section
variable {X : Cx} {pins : List (Addr × Obj)} {σ : L2.St}
/-- an exception without a dict is let go -/
theorem bare_end {J1 J2 : Hp} {p0 p1 p2 : Heap} {ga gb : Array GenState} {da db : Drawn} {ta tb : Nat} {oa ob : OsState} {e C : Addr} (Y : Inv X pins σ J1 ⟨p0, ga, da, ta, oa⟩) (hz : p0.objs.size ≤ e) (kp : ∀ b o, p0.get? b = some o → p1.get? b = some o)
    (U : Un (frs X.stack) [] (L2.upd J1 e (exo e C none)) J2 p1 p2) (ok2 : HOk X.prog X.w J2 p2) (so : ob = oa) (br : AllBare gb) (at_ : J2 e = some (exo e C none)) :
    ∃ (t0 : Addr) (G : Heap), Inv X pins σ (del J2 e) ⟨G, gb, db, tb, ob⟩ ∧ (∀ b o, G.get? b = some o → p2.get? b = some o) ∧ G.get? e = none ∧
      p2.get? e = some ({ cls := .ref C, dict := none, data := .fields #[.ref t0, .none, .none, .none, .bool false, .none] } : Obj) := by
  obtain ⟨t0, here⟩ := exo_at ok2 at_
  have gone : J1 e = none := Y.hok.fresh hz
  obtain ⟨G, y1, y2⟩ := restrict p2 fun b => decide (b ≠ e)
  have keepG : ∀ b, b ≠ e → G.get? b = p2.get? b := fun b n => y1 b (decide_eq_true n)
  have lost : G.get? e = none := y2 e (by simp)
  have old : ∀ {b : Addr} {o : Obj}, p0.get? b = some o → b ≠ e := fun q => Nat.ne_of_lt (Nat.lt_of_lt_of_le (Heap.lt_size q) hz)
  have off : ∀ {b : Addr}, b ≠ e → J1 b = none → L2.upd J1 e (exo e C none) b = none := fun n q => by rw [upd_ne n]; exact q
  have on : ∀ {b : Addr} {o : HO}, J1 b = some o → L2.upd J1 e (exo e C none) b = some o := fun q => by rw [upd_ne (ne_of_none q gone)]; exact q
  have V : Un (frs X.stack) [] J1 (del J2 e) p0 G := {
    keep := fun b o q n f x => (keepG b (old q)).trans (U.keep b o (kp b o q) (off (old q) n) f x)
    slot := fun b o q n f x => by
      obtain ⟨sl, r⟩ := U.slot b o (kp b o q) (off (old q) n) f x
      exact ⟨sl, (keepG b (old q)).trans r⟩
    free := fun b o q n x => (del_ne (old q)).trans (U.free b o (kp b o q) (off (old q) n) x)
    there := fun b o q x => by
      obtain ⟨o', r⟩ := U.there b o (kp b o q) x
      exact ⟨o', (keepG b (old q)).trans r⟩
    tups := fun b xs q => (del_ne (ne_of_none q gone)).trans (U.tups b xs (on q))
    frzs := fun b o v q => (del_ne (ne_of_none q gone)).trans (U.frzs b o v (on q))
    tbls := fun b ps q => by
      obtain ⟨r, hr⟩ := U.tbls b ps (on q)
      exact ⟨r, (del_ne (ne_of_none q gone)).trans hr⟩ }
  have ok3 : HOk X.prog X.w (del J2 e) G := fun b o q => by
    by_cases n : b = e
    · rw [n, del_same] at q
      cases q
    · rw [del_ne n] at q
      have other : ∀ {c : Addr}, J2 c = some (.own b) → c ≠ e := fun r => at_ne at_ r exo_own
      refine (ok2 b o q).stay (fun c v hc r => ?_) (fun c hc => (del_ne (other hc)).trans hc) (fun c xs hc => (del_ne (at_ne at_ hc exo_tup)).trans hc)
      refine (keepG c ?_).trans r
      rcases hc with hc | hc
      · rw [hc]
        exact n
      · exact other hc
  refine ⟨t0, G, Y.call' (ch := []) so V ok3 br (fun b q => absurd q (by simp)), fun b o q => ?_, lost, here⟩
  by_cases n : b = e
  · rw [n, lost] at q
    cases q
  · exact (keepG b n).symm.trans q
/-- the call, its arguments told -/
theorem made {CX : CXT} {C fI : Addr} {k : Nat} {fd : FuncData} {ps : List Str} {sp : Sp} {H : Hp} {Q : XK} {s : Shared} {vs : List V} {us : List Value} (T : OexC X.K C) (M : Meth X.K C "__init__" fI) (F : FnOk X.prog X.w X.K X.mg X.base CX k fI fd ps sp)
    (hr : Room (k + 1) X.A) (hb : Binds X.K fd ps []) (hx : Passes CX X (fun _ _ _ => False)) (I : Inv X pins σ H s) (rv : Vals vs us) (hl : vs.length ≤ 1000)
    (h : ∀ a, H a = none → sp (.ref a :: vs) (L2.upd H a (exo a C none)) (fun v H2 => v = .non ∧ After H a C Q H2) (fun _ _ _ => False)) :
    wpAny (model X.prog X.w) X.A (call (.ref C) us) (L2N.MkP X pins σ Q) X.xe s := by
  obtain ⟨nm, q, N, bs, bm, sn, sub, ab, col, dd, k0, k1, k2, k3, k5, gC, gbm⟩ := T.cls
  obtain ⟨hp, g, dr, tk, os⟩ := s
  have ge1 : hp.objs.size ≤ hp.objs.size + 1 := Nat.le_succ _
  have none1 : H (hp.objs.size + 1) = none := I.hok.fresh ge1
  have sp1 := h (hp.objs.size + 1) none1
  have stay : ∀ b o, hp.get? b = some o → ((hp.push (PySem.W.kdv_tup us)).push (PySem.HandSPX.excO C hp.objs.size)).get? b = some o := fun b o z => Heap.get?_push_of_some _ (Heap.get?_push_of_some _ z)
  have new1 : ((hp.push (PySem.W.kdv_tup us)).push (PySem.HandSPX.excO C hp.objs.size)).get? (hp.objs.size + 1) = some (PySem.HandSPX.excO C hp.objs.size) := by heap_get
  have J : Inv X pins σ (L2.upd H (hp.objs.size + 1) (exo (hp.objs.size + 1) C none)) ⟨(hp.push (PySem.W.kdv_tup us)).push (PySem.HandSPX.excO C hp.objs.size), g, dr, tk, os⟩ :=
    I.laid (t' := tk) stay ge1 (exo_ok new1)
  have rv1 : Vals (V.ref (hp.objs.size + 1) :: vs) (Value.ref (hp.objs.size + 1) :: us) := .cons rfl rv
  have len1 : (Value.ref (hp.objs.size + 1) :: us ++ []).length = ps.length := by
    rw [List.append_nil, ← rv1.length]
    exact F.len _ _ _ _ sp1
  have bind1 := hb _ (Value.ref (hp.objs.size + 1) :: us) J.kIn len1
  rw [List.append_nil] at bind1
  have small : us.length ≤ sizeLine := by
    have e := rv.length
    rw [sizeLine_eq]
    omega
  refine wpAny_call (PySem.HandSPX.call_own PySem.F.excBase_ValueError (fun Y => PySem.HandSPX.refsVE_contains Y bm gbm) (I.kIn _ _ gC) (PySem.W.looks_findIn I.kIn M.at_) (fun self => PySem.W.bind_fn I.kIn self (beq_iff_eq.mp M.fn)) small ?_)
  refine codeAny_mono (F.run _ X.stack _ _ ⟨Value.ref (hp.objs.size + 1) :: us, []⟩ (Value.ref (hp.objs.size + 1) :: us) _ _ (fun _ _ _ => False) (hr.make C us []) (J.env0.make C us []) bind1 rv1 sp1) fun r s2 back => ?_
  cases r with
  | error x => exact hx pins σ _ _ x s2 J back
  | ok fl =>
    cases fl with
    | ret u =>
      obtain ⟨v, H2, so, br, U, ok2, ru, ev, w⟩ := back
      subst ev
      obtain ⟨h2, g2, d2, t2, os'⟩ := s2
      rcases w with ⟨d, fs, w1, w2, w3, w4⟩ | ⟨w1, w4⟩
      · obtain ⟨t0, G, Y, kG, lost, here, na⟩ := mk_end0 (d2 := d2) (t2 := t2) I ge1 stay U ok2 so br w1 w2 w3
        refine ⟨ru, hp.objs.size + 1, _, _, ⟨G, g2, d2, t2, os'⟩, _, .ref C, some d, rfl, Y, kG, lost, here, ⟨rfl, rfl, fun vs hv => ?_⟩, rfl, rfl, na, rfl, br, raises_own T.exC T.tyC, w4⟩
        cases hv
        rfl
      · obtain ⟨t0, G, Y, kG, lost, here⟩ := bare_end (db := d2) (tb := t2) I ge1 stay U ok2 so br w1
        refine ⟨ru, hp.objs.size + 1, _, _, ⟨G, g2, d2, t2, os'⟩, _, .ref C, none, rfl, Y, kG, lost, here, ⟨rfl, rfl, fun vs hv => ?_⟩, rfl, rfl, del_same, rfl, br, raises_own T.exC T.tyC, w4⟩
        cases hv
        rfl
    | next => exact False.elim back
    | brk => exact False.elim back
    | cont => exact False.elim back
end
section
variable {X : Cx} {CX : CXT} {x : Str} {C fI : Addr} {k : Nat} {fd : FuncData} {ps : List Str} {sp : Sp} {e : Expr} {es : List Expr} {ta : TA} {p pos : Pos}
theorem pmk_A (T : OexC X.K C) (M : Meth X.K C "__init__" fI) (F : FnOk X.prog X.w X.K X.mg X.base CX k fI fd ps sp) (hr : Room (k + 1) X.A) (hb : Binds X.K fd ps []) (hx : Passes CX X (fun _ _ _ => False)) (hm : X.mg x = some (.ref C)) (ha : PA X (e :: es) ta) (hg : Gl X x := by rfl)
    (hdb : (x == ("__debug__" : Str)) = false := by decide) (he : starEach (e :: es) X.env = (false, eval e X.env) :: starEach es X.env := by rfl) (hpl : (backTo pos (starEach es X.env)).any (·.1) = false := by rfl) :
    L2N.PMk X (.Call (.Name x p) (e :: es) [] pos) (tMkA C sp ta) := fun pins s σ H Q I h => by
  refine wpAny_Call_Name_kw (ld_glob I hg hm ?_ hdb)
  refine PySem.W.callWith_K (h₀ := X.base) I.ok.mod.kin T.kC (thn (ha.run pos pins s σ H _ I h) fun us s1 z => ?_) he hpl
  obtain ⟨vs, H1, I1, r1, hl, q1⟩ := z
  exact ⟨I1.kIn, made T M F hr hb hx I1 r1 hl q1⟩
theorem pmk_A0 (T : OexC X.K C) (M : Meth X.K C "__init__" fI) (F : FnOk X.prog X.w X.K X.mg X.base CX k fI fd ps sp) (hr : Room (k + 1) X.A) (hb : Binds X.K fd ps []) (hx : Passes CX X (fun _ _ _ => False)) (hm : X.mg x = some (.ref C)) (hg : Gl X x := by rfl)
    (hdb : (x == ("__debug__" : Str)) = false := by decide) : L2N.PMk X (.Call (.Name x p) [] [] pos) (tMkA C sp tNil) := fun pins s σ H Q I h => by
  refine wpAny_Call_Name_kw (ld_glob I hg hm ?_ hdb)
  exact PySem.W.callWith_K0 I.kIn T.kC (made T M F hr hb hx I .nil (Nat.zero_le _) h.2)
/-- the same in the wider air -/
theorem pmk_wide {e : Expr} {t : L2.St → Hp → XK → Prop} (h : L2N.PMk X e t) : L2.PMk X e t := fun pins s σ H Q I q => thn (h pins s σ H Q I q) fun u s' z => by
  obtain ⟨a, oe, vs, sI, H', cls, d, e, J, k, hne, ha, hz, r⟩ := z
  exact ⟨a, oe, vs, sI, H', cls, d, e, J, k, hne, ha, hz.zc, r⟩
end
end Kb
set_option Elab.async false
set_option linter.all false
set_option maxRecDepth 100000
set_option maxHeartbeats 4000000
namespace Kb
open PySem PySem.Spec PyProof.Rows L2
local macro_rules | `(tactic| walk_at "beg") => `(tactic| simp only [cxK, cxKn, cxW, cxWn, cxP, cxPn, L2.start, List.map_cons, List.map_nil, List.length_cons, List.length_nil, Nat.reduceAdd, Nat.reduceSub, List.replicate_succ, List.replicate_zero, List.cons_append, List.nil_append])
local macro_rules | `(tactic| walk_at "go1") => `(tactic| with_reducible (first
  | refine r_seq ?_ | refine r_asg ?_ | refine r_if ?_ | refine r_ret ?_ | refine r_next ?_ | refine r_drop ?_ | refine r_gsub ?_
  | refine r_c ?_ | refine r_op ?_ | refine r_un ?_ | refine r_cons ?_ | refine r_nil ?_ | refine r_cb ?_ | refine r_call ?_ | refine r_test ?_ | refine r_B ?_ | refine r_bl ?_
  | refine r_and ?_ | refine r_or ?_ | refine r_not ?_ | refine r_ifE ?_ | refine r_andV ?_ | refine r_orV ?_ | refine r_notV ?_ | refine r_blV ?_ | refine r_T ?_ | refine r_F ?_ | refine r_nT ?_ | refine r_nF ?_
  | refine r_int ?_ | refine r_eqI ?_ | refine r_neI ?_
  | refine r_yes ?_ | refine r_lc ?_ | refine r_rng1 ?_ | refine r_rng2 ?_ | refine r_iList ?_ | refine r_iTup ?_ | refine r_for ?_
  | refine r_bm ?_ | refine r_sl ?_ | refine r_np ?_ | refine r_part ?_ | refine r_partI ?_ | refine r_lstRg ?_ | refine r_rg1 ?_ | refine r_rgI ?_ | refine r_isN ?_ | refine r_notN ?_ | refine r_notT ?_ | refine r_mkA ?_
  | refine r_I0 ?_ | refine r_U ?_ | refine r_tup ?_ | refine r_lst ?_))
local macro_rules | `(tactic| walk_at "go") => `(tactic| repeat (first | walk_at "go1" | with_reducible refine r_var (by with_unfolding_all rfl) ?_ | with_reducible refine r_lcT (by with_unfolding_all rfl) ?_ | with_reducible refine r_name (by (try simp only [wipe, List.set_cons_succ, List.set_cons_zero]) <;> with_unfolding_all rfl) ?_))
section
variable {P : Program} {w : World} {K : PySem.W.Frag} {mg : Str → Option Value} {base : Heap}
/-! ### the exceptions' own __init__ -/
def spI2 (C : Addr) (f1 f2 : Str) : Sp := fun vs H Q _ => ∃ (a : Addr) (x y : V), vs = [.ref a, x, y] ∧ H a = some (exo a C none) ∧ ∀ d, H d = none → Q .non (L2.upd (L2.upd (L2.upd H d (exd d [(f1, x)])) a (exo a C (some d))) d (exd d [(f2, y), (f1, x)]))
def spI1 (C : Addr) (f1 : Str) : Sp := fun vs H Q _ => ∃ (a : Addr) (x : V), vs = [.ref a, x] ∧ H a = some (exo a C none) ∧ ∀ d, H d = none → Q .non (L2.upd (L2.upd H d (exd d [(f1, x)])) a (exo a C (some d)))
def spI0 (C : Addr) : Sp := fun vs H Q _ => ∃ a : Addr, vs = [.ref a] ∧ H a = some (exo a C none) ∧ Q .non H
theorem r_mkO2 {H1 : Hp} {C : Addr} {f1 f2 : Str} {Q E : XK} {x y : V} (h : ∀ d, H1 d = none → Q (.ref C) (some d) (L2.upd H1 d (.xd [(f2, y), (f1, x)]))) (a : Addr) (ha : H1 a = none) :
    spI2 C f1 f2 [.ref a, x, y] (L2.upd H1 a (exo a C none)) (fun v H2 => v = .non ∧ ∃ (d : Addr) (fs : List (Str × V)), H2 a = some (exo a C (some d)) ∧ H2 d = some (exd d fs) ∧ H1 d = none ∧ Q (.ref C) (some d) (L2.upd (del H2 a) d (.xd fs))) E := by
  refine ⟨a, x, y, rfl, upd_same, fun d hd => ⟨rfl, d, _, ?_, upd_same, ?_, ?_⟩⟩
  · have n : a ≠ d := fun e => by rw [← e, upd_same] at hd; cases hd
    rw [upd_ne n, upd_same]
  · have n : d ≠ a := fun e => by rw [e, upd_same] at hd; cases hd
    rw [upd_ne n] at hd
    exact hd
  · have n : d ≠ a := fun e => by rw [e, upd_same] at hd; cases hd
    rw [upd_ne n] at hd
    have e : L2.upd H1 d (.xd [(f2, y), (f1, x)]) = L2.upd (del (L2.upd (L2.upd (L2.upd (L2.upd H1 a (exo a C none)) d (exd d [(f1, x)])) a (exo a C (some d))) d (exd d [(f2, y), (f1, x)])) a) d (.xd [(f2, y), (f1, x)]) := by
      funext b
      by_cases hb : b = d
      · rw [hb, upd_same, upd_same]
      · rw [upd_ne hb, upd_ne hb]
        by_cases hc : b = a
        · rw [hc, del_same, ha]
        · rw [del_ne hc, upd_ne hb, upd_ne hc, upd_ne hb, upd_ne hc]
    rw [← e]
    exact h d hd
theorem r_mk2 {H1 : Hp} {C : Addr} {f1 f2 : Str} {Q E : XK} {x y : V} (h : ∀ d, H1 d = none → Q (.ref C) (some d) (L2.upd H1 d (.xd [(f2, y), (f1, x)]))) (a : Addr) (ha : H1 a = none) :
    spI2 C f1 f2 [.ref a, x, y] (L2.upd H1 a (exo a C none)) (fun v H2 => v = .non ∧ After H1 a C Q H2) E := by
  obtain ⟨a', x', y', e1, e2, k⟩ := r_mkO2 (E := E) h a ha
  exact ⟨a', x', y', e1, e2, fun d hd => ⟨(k d hd).1, .inl (k d hd).2⟩⟩
theorem r_mk1 {H1 : Hp} {C : Addr} {f1 : Str} {Q E : XK} {x : V} (h : ∀ d, H1 d = none → Q (.ref C) (some d) (L2.upd H1 d (.xd [(f1, x)]))) (a : Addr) (ha : H1 a = none) :
    spI1 C f1 [.ref a, x] (L2.upd H1 a (exo a C none)) (fun v H2 => v = .non ∧ After H1 a C Q H2) E := by
  refine ⟨a, x, rfl, upd_same, fun d hd => ?_⟩
  have n : d ≠ a := fun e => by rw [e, upd_same] at hd; cases hd
  rw [upd_ne n] at hd
  refine ⟨rfl, .inl ⟨d, [(f1, x)], upd_same, by rw [upd_ne n, upd_same], hd, ?_⟩⟩
  have e : L2.upd H1 d (.xd [(f1, x)]) = L2.upd (del (L2.upd (L2.upd (L2.upd H1 a (exo a C none)) d (exd d [(f1, x)])) a (exo a C (some d))) a) d (.xd [(f1, x)]) := by
    funext b
    by_cases hb : b = d
    · rw [hb, upd_same, upd_same]
    · rw [upd_ne hb, upd_ne hb]
      by_cases hc : b = a
      · rw [hc, del_same, ha]
      · rw [del_ne hc, upd_ne hc, upd_ne hb, upd_ne hc]
  rw [← e]
  exact h d hd
theorem r_mk0 {H1 : Hp} {C : Addr} {Q E : XK} (h : Q (.ref C) none H1) (a : Addr) (ha : H1 a = none) :
    spI0 C [.ref a] (L2.upd H1 a (exo a C none)) (fun v H2 => v = .non ∧ After H1 a C Q H2) E := by
  refine ⟨a, rfl, upd_same, rfl, .inr ⟨upd_same, ?_⟩⟩
  have e : H1 = del (L2.upd H1 a (exo a C none)) a := by
    funext b
    by_cases hc : b = a
    · rw [hc, del_same, ha]
    · rw [del_ne hc, upd_ne hc]
  rw [← e]
  exact h
theorem sc_BadInput_init : FnScope ["self", "what", "house"] ["self", "what", "house"] (defScope s_BadInput_init) := ⟨rfl, rfl, rfl, by decide +kernel, rfl, by decide +kernel, by decide +kernel⟩
theorem sc_BadView_init : FnScope ["self", "what", "house"] ["self", "what", "house"] (defScope s_BadView_init) := ⟨rfl, rfl, rfl, by decide +kernel, rfl, by decide +kernel, by decide +kernel⟩
theorem sc_BadBook_init : FnScope ["self", "what", "at"] ["self", "what", "at"] (defScope s_BadBook_init) := ⟨rfl, rfl, rfl, by decide +kernel, rfl, by decide +kernel, by decide +kernel⟩
theorem sc_NotInBook_init : FnScope ["self", "entry"] ["self", "entry"] (defScope s_NotInBook_init) := ⟨rfl, rfl, rfl, by decide +kernel, rfl, by decide +kernel, by decide +kernel⟩
theorem sc_UnlikeBooks_init : FnScope ["self"] ["self"] (defScope s_UnlikeBooks_init) := ⟨rfl, rfl, rfl, by decide +kernel, rfl, by decide +kernel, by decide +kernel⟩
/-- two stores -/
theorem two_stores {f1 f2 : Str} {C : Addr} {D : Ends} {σ : L2.St} {H : Hp} {a : Addr} {x y : V} (O : OexC K C) (n1 : NoAttr K C f1) (n2 : NoAttr K C f2) (h0 : σ[0]? = some (some (.ref a))) (h1 : σ[1]? = some (some x)) (h2 : σ[2]? = some (some y)) (ha : H a = some (exo a C none))
    (h : ∀ d, H d = none → D.nx σ (L2.upd (L2.upd (L2.upd H d (exd d [(f1, x)])) a (exo a C (some d))) d (exd d [(f2, y), (f1, x)]))) : tSeq (tOst K f1 (tVar 0) (tVar 1)) (tOst K f2 (tVar 0) (tVar 2)) D σ H := by
  refine ⟨x, h1, .ref a, h0, a, C, rfl, O, n1, .inl ⟨ha, fun d hd hn => ?_⟩⟩
  refine ⟨y, h2, .ref a, h0, a, C, rfl, O, n2, .inr ⟨d, [(f1, x)], upd_same, by rw [upd_ne hn, upd_same], by simp, h d hd⟩⟩
theorem i_BadInput (T : Txt K mg) : ∃ fd, FunD K "__init__" "BadInput.__init__" (defArgs s_BadInput_init) (defBody s_BadInput_init) (defScope s_BadInput_init) [] [] (He.ma K (He.ga K "BadInput") "__init__") fd ∧ FnOk P w K mg base CX0 1 (He.ma K (He.ga K "BadInput") "__init__") fd ["self", "what", "house"] (spI2 (He.ga K "BadInput") "what" "house") := by
  obtain ⟨fd, F⟩ := T.u_BadInput_init
  refine ⟨fd, F, F.ok sc_BadInput_init (fun vs H Q E h => ?_) fun cdv A outer s H vs Q E hr h => ?_⟩
  · obtain ⟨_, _, _, rfl, _⟩ := h
    rfl
  · obtain ⟨a, x, y, rfl, ha, k⟩ := h
    exact ⟨_, (pss_cons (ps_ost (pv 0) (pv 1))
      (pss_one (ps_ost (pv 0) (pv 2)))), two_stores T.o_BadInput T.a_BadInput_what T.a_BadInput_house rfl rfl rfl ha k⟩
theorem i_BadView (T : Txt K mg) : ∃ fd, FunD K "__init__" "BadView.__init__" (defArgs s_BadView_init) (defBody s_BadView_init) (defScope s_BadView_init) [] [] (He.ma K (He.ga K "BadView") "__init__") fd ∧ FnOk P w K mg base CX0 1 (He.ma K (He.ga K "BadView") "__init__") fd ["self", "what", "house"] (spI2 (He.ga K "BadView") "what" "house") := by
  obtain ⟨fd, F⟩ := T.u_BadView_init
  refine ⟨fd, F, F.ok sc_BadView_init (fun vs H Q E h => ?_) fun cdv A outer s H vs Q E hr h => ?_⟩
  · obtain ⟨_, _, _, rfl, _⟩ := h
    rfl
  · obtain ⟨a, x, y, rfl, ha, k⟩ := h
    exact ⟨_, (pss_cons (ps_ost (pv 0) (pv 1))
      (pss_one (ps_ost (pv 0) (pv 2)))), two_stores T.o_BadView T.a_BadView_what T.a_BadView_house rfl rfl rfl ha k⟩
theorem i_BadBook (T : Txt K mg) : ∃ fd, FunD K "__init__" "BadBook.__init__" (defArgs s_BadBook_init) (defBody s_BadBook_init) (defScope s_BadBook_init) [] [] (He.ma K (He.ga K "BadBook") "__init__") fd ∧ FnOk P w K mg base CX0 1 (He.ma K (He.ga K "BadBook") "__init__") fd ["self", "what", "at"] (spI2 (He.ga K "BadBook") "what" "at") := by
  obtain ⟨fd, F⟩ := T.u_BadBook_init
  refine ⟨fd, F, F.ok sc_BadBook_init (fun vs H Q E h => ?_) fun cdv A outer s H vs Q E hr h => ?_⟩
  · obtain ⟨_, _, _, rfl, _⟩ := h
    rfl
  · obtain ⟨a, x, y, rfl, ha, k⟩ := h
    exact ⟨_, (pss_cons (ps_ost (pv 0) (pv 1))
      (pss_one (ps_ost (pv 0) (pv 2)))), two_stores T.o_BadBook T.a_BadBook_what T.a_BadBook_at rfl rfl rfl ha k⟩
theorem i_NotInBook (T : Txt K mg) : ∃ fd, FunD K "__init__" "NotInBook.__init__" (defArgs s_NotInBook_init) (defBody s_NotInBook_init) (defScope s_NotInBook_init) [] [] (He.ma K (He.ga K "NotInBook") "__init__") fd ∧ FnOk P w K mg base CX0 1 (He.ma K (He.ga K "NotInBook") "__init__") fd ["self", "entry"] (spI1 (He.ga K "NotInBook") "entry") := by
  obtain ⟨fd, F⟩ := T.u_NotInBook_init
  refine ⟨fd, F, F.ok sc_NotInBook_init (fun vs H Q E h => ?_) fun cdv A outer s H vs Q E hr h => ?_⟩
  · obtain ⟨_, _, rfl, _⟩ := h
    rfl
  · obtain ⟨a, x, rfl, ha, k⟩ := h
    exact ⟨_, (pss_one (ps_ost (pv 0) (pv 1))), x, rfl, .ref a, rfl, a, _, rfl, T.o_NotInBook, T.a_NotInBook_entry, .inl ⟨ha, fun d hd _ => k d hd⟩⟩
theorem i_UnlikeBooks (T : Txt K mg) : ∃ fd, FunD K "__init__" "UnlikeBooks.__init__" (defArgs s_UnlikeBooks_init) (defBody s_UnlikeBooks_init) (defScope s_UnlikeBooks_init) [] [] (He.ma K (He.ga K "UnlikeBooks") "__init__") fd ∧ FnOk P w K mg base CX0 1 (He.ma K (He.ga K "UnlikeBooks") "__init__") fd ["self"] (spI0 (He.ga K "UnlikeBooks")) := by
  obtain ⟨fd, F⟩ := T.u_UnlikeBooks_init
  refine ⟨fd, F, F.ok sc_UnlikeBooks_init (fun vs H Q E h => ?_) fun cdv A outer s H vs Q E hr h => ?_⟩
  · obtain ⟨_, rfl, _⟩ := h
    rfl
  · obtain ⟨a, rfl, ha, k⟩ := h
    refine ⟨_, (pss_one ps_pass), ?_⟩
    exact k
/-- while an exception is handled -/
theorem ih_BadBook (T : Txt K mg) : ∃ fd, FunD K "__init__" "BadBook.__init__" (defArgs s_BadBook_init) (defBody s_BadBook_init) (defScope s_BadBook_init) [] [] (He.ma K (He.ga K "BadBook") "__init__") fd ∧ L2H.FnH P w K mg base CX0 1 (He.ma K (He.ga K "BadBook") "__init__") fd ["self", "what", "at"] (spI2 (He.ga K "BadBook") "what" "at") := by
  obtain ⟨fd, F⟩ := T.u_BadBook_init
  refine ⟨fd, F, ?_⟩
  obtain ⟨oc, od, dV, kV, doc, pm, an, cdv, ct, osl, rfl, lk, hcd, _, _⟩ := F.ex
  refine L2H.fn_ofH lk hcd sc_BadBook_init (fun vs H Q E h => ?_) fun A outer s H vs Q E p hot hr h => ?_
  · obtain ⟨_, _, _, rfl, _⟩ := h
    rfl
  · obtain ⟨a, x, y, rfl, ha, k⟩ := h
    exact ⟨_, (pss_cons (ps_ost (pv 0) (pv 1))
      (pss_one (ps_ost (pv 0) (pv 2)))), two_stores T.o_BadBook T.a_BadBook_what T.a_BadBook_at rfl rfl rfl ha k⟩
end
section
variable {X : Cx} {K : PySem.W.Frag} {mg : Str → Option Value} {e : Expr} {es : List Expr} {ta : TA} {p pos : Pos}
theorem mk_BadInput (T : Txt K mg) (hr : Room 2 X.A) (ha : PA X (e :: es) ta) (hK : X.K = K := by rfl) (hM : X.mg = mg := by rfl) (hg : Gl X "BadInput" := by rfl) (he : starEach (e :: es) X.env = (false, eval e X.env) :: starEach es X.env := by rfl) (hpl : (backTo pos (starEach es X.env)).any (·.1) = false := by rfl) :
    L2N.PMk X (.Call (.Name "BadInput" p) (e :: es) [] pos) (tMkA (He.ga K "BadInput") (spI2 (He.ga K "BadInput") "what" "house") ta) := by
  subst hK hM
  obtain ⟨fd, F, ok⟩ := i_BadInput (P := X.prog) (w := X.w) (base := X.base) T
  exact pmk_A T.o_BadInput T.m_BadInput_init ok hr (F.bindsN fun _ _ _ _ _ _ us hl => match us, hl with | [_, _, _], _ => rfl) pass0 T.g_BadInput ha hg (by decide) he hpl
theorem mk_BadView (T : Txt K mg) (hr : Room 2 X.A) (ha : PA X (e :: es) ta) (hK : X.K = K := by rfl) (hM : X.mg = mg := by rfl) (hg : Gl X "BadView" := by rfl) (he : starEach (e :: es) X.env = (false, eval e X.env) :: starEach es X.env := by rfl) (hpl : (backTo pos (starEach es X.env)).any (·.1) = false := by rfl) :
    L2N.PMk X (.Call (.Name "BadView" p) (e :: es) [] pos) (tMkA (He.ga K "BadView") (spI2 (He.ga K "BadView") "what" "house") ta) := by
  subst hK hM
  obtain ⟨fd, F, ok⟩ := i_BadView (P := X.prog) (w := X.w) (base := X.base) T
  exact pmk_A T.o_BadView T.m_BadView_init ok hr (F.bindsN fun _ _ _ _ _ _ us hl => match us, hl with | [_, _, _], _ => rfl) pass0 T.g_BadView ha hg (by decide) he hpl
theorem mk_BadBook (T : Txt K mg) (hr : Room 2 X.A) (ha : PA X (e :: es) ta) (hK : X.K = K := by rfl) (hM : X.mg = mg := by rfl) (hg : Gl X "BadBook" := by rfl) (he : starEach (e :: es) X.env = (false, eval e X.env) :: starEach es X.env := by rfl) (hpl : (backTo pos (starEach es X.env)).any (·.1) = false := by rfl) :
    L2N.PMk X (.Call (.Name "BadBook" p) (e :: es) [] pos) (tMkA (He.ga K "BadBook") (spI2 (He.ga K "BadBook") "what" "at") ta) := by
  subst hK hM
  obtain ⟨fd, F, ok⟩ := i_BadBook (P := X.prog) (w := X.w) (base := X.base) T
  exact pmk_A T.o_BadBook T.m_BadBook_init ok hr (F.bindsN fun _ _ _ _ _ _ us hl => match us, hl with | [_, _, _], _ => rfl) pass0 T.g_BadBook ha hg (by decide) he hpl
theorem mk_NotInBook (T : Txt K mg) (hr : Room 2 X.A) (ha : PA X (e :: es) ta) (hK : X.K = K := by rfl) (hM : X.mg = mg := by rfl) (hg : Gl X "NotInBook" := by rfl) (he : starEach (e :: es) X.env = (false, eval e X.env) :: starEach es X.env := by rfl) (hpl : (backTo pos (starEach es X.env)).any (·.1) = false := by rfl) :
    L2N.PMk X (.Call (.Name "NotInBook" p) (e :: es) [] pos) (tMkA (He.ga K "NotInBook") (spI1 (He.ga K "NotInBook") "entry") ta) := by
  subst hK hM
  obtain ⟨fd, F, ok⟩ := i_NotInBook (P := X.prog) (w := X.w) (base := X.base) T
  exact pmk_A T.o_NotInBook T.m_NotInBook_init ok hr (F.bindsN fun _ _ _ _ _ _ us hl => match us, hl with | [_, _], _ => rfl) pass0 T.g_NotInBook ha hg (by decide) he hpl
theorem mk_UnlikeBooks (T : Txt K mg) (hr : Room 2 X.A) (hK : X.K = K := by rfl) (hM : X.mg = mg := by rfl) (hg : Gl X "UnlikeBooks" := by rfl) : L2N.PMk X (.Call (.Name "UnlikeBooks" p) [] [] pos) (tMkA (He.ga K "UnlikeBooks") (spI0 (He.ga K "UnlikeBooks")) tNil) := by
  subst hK hM
  obtain ⟨fd, F, ok⟩ := i_UnlikeBooks (P := X.prog) (w := X.w) (base := X.base) T
  exact pmk_A0 T.o_UnlikeBooks T.m_UnlikeBooks_init ok hr (F.bindsN fun _ _ _ _ _ _ us hl => match us, hl with | [_], _ => rfl) pass0 T.g_UnlikeBooks hg
end
end Kb
set_option Elab.async false
set_option linter.all false
set_option maxRecDepth 100000
set_option maxHeartbeats 4000000
namespace Kb
open PySem PySem.Spec PyProof.Rows L2
theorem k_ix {X : Cx} (K : PySem.W.Frag) (h : X.K = K := by rfl) : IxR X (rIx K) := by
  subst h
  exact ix_seq
theorem r_ixSq {K : PySem.W.Frag} {H : Hp} {Q : VK} {a : Addr} {xs : List V} {k : Int} {v : V} (h1 : SqL K H a xs ∨ SqT K H a xs) (h2 : atI xs k = some v) (h : Q v H) : rIx K (.ref a) (.int k) H Q := by
  rcases h1 with h1 | h1
  · exact .inl (r_ixL h1 h2 h)
  · exact .inr (.inl (r_ixT h1 h2 h))
theorem r_tupS {K : PySem.W.Frag} {H : Hp} {Q : VK} {a : Addr} {ys : List V} (h1 : H a = some (.lst ys) ∨ H a = some (.tup ys)) (h : ∀ (l : Addr) (H' : Hp), L2.Same H H' → H' l = some (.tup ys) → (H l = none ∨ (l = a ∧ H a = some (.tup ys))) → (∀ b, H' b = none → H b = none) → Q (.ref l) H') : rTupQ K [.ref a] H Q := by
  rcases h1 with z | z
  · exact r_tupL (SqL.of z) fun l H2 nl s2 hl nn => h l H2 s2 hl (.inl nl) (fun b hb => (nn b hb).1)
  · exact r_tupT (SqT.of z) (h a H (Same.refl H) z (.inr ⟨rfl, z⟩) (fun b hb => hb))
theorem r_mkA {C : Addr} {sp : Sp} {al : TA} {σ : L2.St} {H : Hp} {Q : XK} (h : al σ H fun vs H1 => vs.length ≤ 1000 ∧ ∀ a, H1 a = none → sp (.ref a :: vs) (L2.upd H1 a (exo a C none)) (fun v H2 => v = .non ∧ After H1 a C Q H2) (fun _ _ _ => False)) : tMkA C sp al σ H Q := h
theorem sq_of {H : Hp} {x : V} {l : Bool} {a : Addr} {ys : List V} (h : Is H x (.sq l a ys)) : x = .ref a ∧ (H a = some (.lst ys) ∨ H a = some (.tup ys)) ∧ ∀ y ∈ ys, Kn H y := by
  cases l with
  | true => exact ⟨h.1, .inl h.2.1, h.2.2⟩
  | false => exact ⟨h.1, .inr h.2.1, h.2.2⟩
theorem Is.kn {H : Hp} {x : V} {th : Th} (h : Is H x th) : Kn H x := by
  cases th with
  | «at» v => rw [h.1]; exact .inl h.2
  | sq l a ys =>
    obtain ⟨e, q, _⟩ := sq_of h
    exact .inr ⟨a, ys, e, q⟩
theorem kind_at {H : Hp} {v : V} (h : atomV v = true) : (isA (knTy H v) "list" || isA (knTy H v) "tuple") = false := by
  cases v with
  | non => rfl
  | bl b => rfl
  | int i => rfl
  | str y => rfl
  | _ => cases h
theorem kind_sq {H : Hp} {a : Addr} {ys : List V} (h : H a = some (.lst ys) ∨ H a = some (.tup ys)) : (isA (knTy H (.ref a)) "list" || isA (knTy H (.ref a)) "tuple") = true := by
  rcases h with h | h
  · have e : knTy H (.ref a) = "list" := by simp only [knTy, h]
    rw [e]
    rfl
  · have e : knTy H (.ref a) = "tuple" := by simp only [knTy, h]
    rw [e]
    rfl
local macro_rules | `(tactic| walk_at "beg") => `(tactic| simp only [cxK, cxKn, cxW, cxWn, cxP, cxPn, L2.start, List.map_cons, List.map_nil, List.length_cons, List.length_nil, Nat.reduceAdd, Nat.reduceSub, List.replicate_succ, List.replicate_zero, List.cons_append, List.nil_append])
local macro_rules | `(tactic| walk_at "go1") => `(tactic| with_reducible (first
  | refine r_seq ?_ | refine r_asg ?_ | refine r_if ?_ | refine r_ret ?_ | refine r_next ?_ | refine r_drop ?_ | refine r_gsub ?_
  | refine r_c ?_ | refine r_op ?_ | refine r_un ?_ | refine r_cons ?_ | refine r_nil ?_ | refine r_cb ?_ | refine r_call ?_ | refine r_test ?_ | refine r_B ?_ | refine r_bl ?_
  | refine r_and ?_ | refine r_or ?_ | refine r_not ?_ | refine r_ifE ?_ | refine r_andV ?_ | refine r_orV ?_ | refine r_notV ?_ | refine r_blV ?_ | refine r_T ?_ | refine r_F ?_ | refine r_nT ?_ | refine r_nF ?_
  | refine r_int ?_ | refine r_eqI ?_ | refine r_neI ?_
  | refine r_yes ?_ | refine r_lc ?_ | refine r_rng1 ?_ | refine r_rng2 ?_ | refine r_iList ?_ | refine r_iTup ?_ | refine r_for ?_
  | refine r_bm ?_ | refine r_sl ?_ | refine r_np ?_ | refine r_part ?_ | refine r_partI ?_ | refine r_lstRg ?_ | refine r_rg1 ?_ | refine r_rgI ?_ | refine r_isN ?_ | refine r_notN ?_ | refine r_notT ?_ | refine r_mkA ?_
  | refine r_I0 ?_ | refine r_U ?_ | refine r_tup ?_ | refine r_lst ?_))
local macro_rules | `(tactic| walk_at "go") => `(tactic| repeat (first | walk_at "go1" | with_reducible refine r_var (by with_unfolding_all rfl) ?_ | with_reducible refine r_lcT (by with_unfolding_all rfl) ?_ | with_reducible refine r_name (by (try simp only [wipe, List.set_cons_succ, List.set_cons_zero]) <;> with_unfolding_all rfl) ?_))
section
variable {P : Program} {w : World} {K : PySem.W.Frag} {mg : Str → Option Value} {base : Heap}
/-- a check: the exception that it raises, or the tuple -/
def spChk (C : Addr) (ok : Nat → V → Bool) : Sp := fun vs H Q E => ∃ (n m : Nat) (x : V) (th : Th), vs = [.int (n : Int), .int (m : Int), x] ∧ n ≤ 100 ∧ m ≤ 100 ∧ Is H x th ∧
  (∀ (what : Str) (house : Nat), Th.bad (ok m) n th = some (what, house) → ∀ H1 d, L2.Same H H1 → H1 d = none → E (.ref C) (some d) (L2.upd H1 d (.xd [("house", .int (house : Int)), ("what", .str what)]))) ∧
  (∀ l a ys b H', th = .sq l a ys → ys.length = n → (∀ y ∈ ys, ok m y = true) → L2.Same H H' → H' b = some (.tup ys) → Q (.ref b) H')
theorem sc_check_entry : FnScope ["houses", "values", "entry", "house"] ["houses", "values", "entry"] (defScope s_check_entry) := ⟨rfl, rfl, rfl, by decide +kernel, rfl, by decide +kernel, by decide +kernel⟩
theorem c_check_entry (T : Txt K mg) : CalX P w K mg base (CN P w) 3 "check_entry" (spChk (He.ga K "BadInput") okE) [] := by
  have c_is_whole : CalX P w K mg base CX0 1 "is_whole" spWhole [] := c_whole3 T
  refine mkcal (ps := ["houses", "values", "entry"]) T.u_check_entry T.g_check_entry sc_check_entry (fun _ _ _ _ _ _ us hl => match us, hl with | [_, _, _], _ => rfl) (fun vs H Q E h => ?_) (fun f cdv A outer s H vs Q E hr h => ?_)
  · obtain ⟨_, _, _, _, rfl, _⟩ := h
    rfl
  · obtain ⟨n, m, x, th, rfl, hn, hm, hx, kE, kQ⟩ := h
    refine ⟨_, (pss_cons (ps_if (PW.pt (pw_or (pt_not (pt_val (pe_callB (k_isiT K) (by rfl) T.n_isinstance b_isinstance (pa_cons (pv 2) (pa_cons (pe_tup (pa_cons (pe_bltn (v := .ty "list") (by rfl) T.n_list b_list rfl) (pa_cons (pe_bltn (v := .ty "tuple") (by rfl) T.n_tuple b_tuple rfl) pa_nil))) pa_nil))))) (pw_or1 (pt_cmpR op_ne (pe_callB (k_len K) (by rfl) T.n_len b_len (pa_cons (pv 2) pa_nil)) (pv 0) (nomark _))))) (pss_one (L2N.ps_raise rfl (L2N.takes_of rfl rfl rfl rfl) (mk_BadInput T (hr.mono (by decide)) (pa_cons pe_str (pa_cons pe_int pa_nil))))) pss_nil)
      (pss_cons (ps_for PassesOwn.leaving rfl (pi_range1 (by rfl) T.n_range (pa_cons (pv 0) pa_nil)) (pg_name (i := 3) sc_check_entry.nd rfl (.inl rfl)) (pss_one (ps_if (pt_not (pt_val (pc0 c_is_whole hr (by decide) (pa_cons (pe_ix (k_ix K) (pv 2) (pv 3) (fun _ _ => rfl)) (pa_cons pe_int (pa_cons (pe_op op_sub (pv 1) pe_int) pa_nil)))))) (pss_one (L2N.ps_raise rfl (L2N.takes_of rfl rfl rfl rfl) (mk_BadInput T (hr.mono (by decide)) (pa_cons pe_str (pa_cons (pv 3) pa_nil))))) pss_nil)))
      (pss_one (ps_ret (pe_callTy (k_tup K) (by rfl) T.n_tuple b_tuple (pa_cons (pv 2) pa_nil)))))), ?_⟩
    walk_at "beg"
    walk_at "go"
    refine ⟨sz10 (by simp), r_new fun t H1 nt s1 ht _ => ?_⟩
    walk_at "go"
    have hx1 := hx.same s1
    refine r_isiLT hx1.kn ht ?_
    cases th with
    | «at» v =>
      obtain ⟨rfl, hv⟩ := hx1
      rw [kind_at hv]
      walk_at "go"
      refine ⟨by simp, r_mk2 fun d hd => kE "length" 0 rfl H1 d s1 hd⟩
    | sq l a ys =>
      obtain ⟨rfl, hs, hk⟩ := sq_of hx1
      have hs2 : SqL K H1 a ys ∨ SqT K H1 a ys := hs.imp SqL.of SqT.of
      rw [kind_sq hs]
      walk_at "go"
      refine r_len hs2 ?_
      walk_at "go"
      refine ite_nd (fun ne => ?_) (fun e => ?_)
      · walk_at "go"
        exact ⟨by simp, r_mk2 fun d hd => kE "length" 0 (by rw [bad_sq, if_neg (by omega)]) H1 d s1 hd⟩
      · have hl : ys.length = n := by omega
        walk_at "go"
        refine r_rj n rfl (by omega) ?_
        refine forR_range (fun i σ H2 => ∃ v3 : Option V, σ = [some (.int (n : Int)), some (.int (m : Int)), some (.ref a), v3] ∧ H2 = H1 ∧ ∀ j y, j < i → ys[j]? = some y → okE m y = true) ?_ ?_ ?_
        · exact ⟨none, rfl, rfl, fun j y hj _ => absurd hj (Nat.not_lt_zero _)⟩
        · rintro i σ H2 hi ⟨v3, rfl, rfl, h3⟩
          have hi2 : i < ys.length := by omega
          have g1 : ys[i]? = some ys[i] := List.getElem?_eq_getElem hi2
          have i0 : (0 : Int) + (i : Int) = (i : Int) := Int.zero_add _
          have a1 : atI ys (0 + (i : Int)) = some ys[i] := by rw [i0]; exact atI_nat g1
          walk_at "go"
          refine r_ixSq hs2 a1 ?_
          walk_at "go"
          refine ⟨ys[i], some 0, some ((m : Int) - 1), rfl, hk _ (List.getElem_mem hi2), ?_⟩
          refine ⟨_, rfl, ?_⟩
          cases ho : wholeB ys[i] (some 0) (some ((m : Int) - 1)) with
          | true =>
            walk_at "go"
            exact ⟨_, rfl, rfl, fun j y hj hy => by
              by_cases e : j = i
              · rw [e, g1] at hy
                cases hy
                exact ho
              · exact h3 j y (by omega) hy⟩
          | false =>
            walk_at "go"
            refine ⟨by simp, r_mk2 fun d hd => ?_⟩
            rw [i0]
            exact kE "value" i (by rw [bad_sq, if_pos hl, badAt_some ⟨ys[i], g1, ho⟩ h3]; rfl) H2 d s1 hd
        · rintro σ H2 ⟨v3, rfl, rfl, h3⟩
          walk_at "go"
          refine r_tupS hs fun b H3 s3 hb _ _ => ?_
          refine kQ l a ys b H3 rfl hl (fun y hy => ?_) (s1.trans s3) hb
          obtain ⟨j, hj⟩ := List.getElem?_of_mem hy
          obtain ⟨hj2, _⟩ := List.getElem?_eq_some_iff.mp hj
          exact h3 j y (by omega) hj
theorem sc_check_view : FnScope ["houses", "values", "view", "house"] ["houses", "values", "view"] (defScope s_check_view) := ⟨rfl, rfl, rfl, by decide +kernel, rfl, by decide +kernel, by decide +kernel⟩
theorem c_check_view (T : Txt K mg) : CalX P w K mg base (CN P w) 3 "check_view" (spChk (He.ga K "BadView") okW) [] := by
  have c_is_whole : CalX P w K mg base CX0 1 "is_whole" spWhole [] := c_whole3 T
  refine mkcal (ps := ["houses", "values", "view"]) T.u_check_view T.g_check_view sc_check_view (fun _ _ _ _ _ _ us hl => match us, hl with | [_, _, _], _ => rfl) (fun vs H Q E h => ?_) (fun f cdv A outer s H vs Q E hr h => ?_)
  · obtain ⟨_, _, _, _, rfl, _⟩ := h
    rfl
  · obtain ⟨n, m, x, th, rfl, hn, hm, hx, kE, kQ⟩ := h
    refine ⟨_, (pss_cons (ps_if (PW.pt (pw_or (pt_not (pt_val (pe_callB (k_isiT K) (by rfl) T.n_isinstance b_isinstance (pa_cons (pv 2) (pa_cons (pe_tup (pa_cons (pe_bltn (v := .ty "list") (by rfl) T.n_list b_list rfl) (pa_cons (pe_bltn (v := .ty "tuple") (by rfl) T.n_tuple b_tuple rfl) pa_nil))) pa_nil))))) (pw_or1 (pt_cmpR op_ne (pe_callB (k_len K) (by rfl) T.n_len b_len (pa_cons (pv 2) pa_nil)) (pv 0) (nomark _))))) (pss_one (L2N.ps_raise rfl (L2N.takes_of rfl rfl rfl rfl) (mk_BadView T (hr.mono (by decide)) (pa_cons pe_str (pa_cons pe_int pa_nil))))) pss_nil)
      (pss_cons (ps_for PassesOwn.leaving rfl (pi_range1 (by rfl) T.n_range (pa_cons (pv 0) pa_nil)) (pg_name (i := 3) sc_check_view.nd rfl (.inl rfl)) (pss_one (ps_if (PW.pt (pw_and (pt_cmpR k_notN (pe_ix (k_ix K) (pv 2) (pv 3) (fun _ _ => rfl)) pe_non (nomark _)) (pw_and1 (pt_not (pt_val (pc0 c_is_whole hr (by decide) (pa_cons (pe_ix (k_ix K) (pv 2) (pv 3) (fun _ _ => rfl)) (pa_cons pe_int (pa_cons (pe_op op_sub (pv 1) pe_int) pa_nil))))))))) (pss_one (L2N.ps_raise rfl (L2N.takes_of rfl rfl rfl rfl) (mk_BadView T (hr.mono (by decide)) (pa_cons pe_str (pa_cons (pv 3) pa_nil))))) pss_nil)))
      (pss_one (ps_ret (pe_callTy (k_tup K) (by rfl) T.n_tuple b_tuple (pa_cons (pv 2) pa_nil)))))), ?_⟩
    walk_at "beg"
    walk_at "go"
    refine ⟨sz10 (by simp), r_new fun t H1 nt s1 ht _ => ?_⟩
    walk_at "go"
    have hx1 := hx.same s1
    refine r_isiLT hx1.kn ht ?_
    cases th with
    | «at» v =>
      obtain ⟨rfl, hv⟩ := hx1
      rw [kind_at hv]
      walk_at "go"
      refine ⟨by simp, r_mk2 fun d hd => kE "length" 0 rfl H1 d s1 hd⟩
    | sq l a ys =>
      obtain ⟨rfl, hs, hk⟩ := sq_of hx1
      have hs2 : SqL K H1 a ys ∨ SqT K H1 a ys := hs.imp SqL.of SqT.of
      rw [kind_sq hs]
      walk_at "go"
      refine r_len hs2 ?_
      walk_at "go"
      refine ite_nd (fun ne => ?_) (fun e => ?_)
      · walk_at "go"
        exact ⟨by simp, r_mk2 fun d hd => kE "length" 0 (by rw [bad_sq, if_neg (by omega)]) H1 d s1 hd⟩
      · have hl : ys.length = n := by omega
        walk_at "go"
        refine r_rj n rfl (by omega) ?_
        refine forR_range (fun i σ H2 => ∃ v3 : Option V, σ = [some (.int (n : Int)), some (.int (m : Int)), some (.ref a), v3] ∧ H2 = H1 ∧ ∀ j y, j < i → ys[j]? = some y → okW m y = true) ?_ ?_ ?_
        · exact ⟨none, rfl, rfl, fun j y hj _ => absurd hj (Nat.not_lt_zero _)⟩
        · rintro i σ H2 hi ⟨v3, rfl, rfl, h3⟩
          have hi2 : i < ys.length := by omega
          have g1 : ys[i]? = some ys[i] := List.getElem?_eq_getElem hi2
          have i0 : (0 : Int) + (i : Int) = (i : Int) := Int.zero_add _
          have a1 : atI ys (0 + (i : Int)) = some ys[i] := by rw [i0]; exact atI_nat g1
          walk_at "go"
          refine r_ixSq hs2 a1 ?_
          walk_at "go"
          have good : okW m ys[i] = true → ∃ v3 : Option V, [some (V.int (n : Int)), some (.int (m : Int)), some (.ref a), some (.int (0 + (i : Int)))] = [some (.int (n : Int)), some (.int (m : Int)), some (.ref a), v3] ∧ H2 = H2 ∧ ∀ j y, j < i + 1 → ys[j]? = some y → okW m y = true := fun ho => ⟨_, rfl, rfl, fun j y hj hy => by
              by_cases e : j = i
              · rw [e, g1] at hy
                cases hy
                exact ho
              · exact h3 j y (by omega) hy⟩
          refine ite_nd (fun nn => ?_) (fun e => ?_)
          · walk_at "go"
            refine r_ixSq hs2 a1 ?_
            walk_at "go"
            refine ⟨ys[i], some 0, some ((m : Int) - 1), rfl, hk _ (List.getElem_mem hi2), ?_⟩
            refine ⟨_, rfl, ?_⟩
            have eo : okW m ys[i] = wholeB ys[i] (some 0) (some ((m : Int) - 1)) := by
              unfold okW
              rw [decide_eq_false nn, Bool.false_or]
              rfl
            cases ho : wholeB ys[i] (some 0) (some ((m : Int) - 1)) with
            | true =>
              walk_at "go"
              exact good (eo.trans ho)
            | false =>
              walk_at "go"
              refine ⟨by simp, r_mk2 fun d hd => ?_⟩
              rw [i0]
              exact kE "value" i (by rw [bad_sq, if_pos hl, badAt_some ⟨ys[i], g1, eo.trans ho⟩ h3]; rfl) H2 d s1 hd
          · walk_at "go"
            exact good (by unfold okW; rw [decide_eq_true e, Bool.true_or])
        · rintro σ H2 ⟨v3, rfl, rfl, h3⟩
          walk_at "go"
          refine r_tupS hs fun b H3 s3 hb _ _ => ?_
          refine kQ l a ys b H3 rfl hl (fun y hy => ?_) (s1.trans s3) hb
          obtain ⟨j, hj⟩ := List.getElem?_of_mem hy
          obtain ⟨hj2, _⟩ := List.getElem?_eq_some_iff.mp hj
          exact h3 j y (by omega) hj
end
end Kb
set_option Elab.async false
set_option linter.all false
set_option maxRecDepth 100000
set_option maxHeartbeats 4000000
namespace Kt
open PySem PySem.Spec PyProof.Rows L2
/-! ### tables of 8, 32, 128 and 512 places -/
def Big (m : Nat) : Prop := m = 7 ∨ m = 31 ∨ m = 127 ∨ m = 511
def seen (m : Nat) : Nat → Nat → Nat → Bool
  | 0, _, _ => false
  | f + 1, c, j => c == j || seen m f ((c * 5 + 1) % (m + 1)) j
theorem from_next (m i : Nat) : ∀ b, lcgI m ((i * 5 + 1) % (m + 1)) b = lcgI m i (b + 1)
  | 0 => rfl
  | b + 1 => by
    show (lcgI m ((i * 5 + 1) % (m + 1)) b * 5 + 1) % (m + 1) = (lcgI m i (b + 1) * 5 + 1) % (m + 1)
    rw [from_next m i b]
theorem from_far (m i a : Nat) : ∀ b, lcgI m (lcgI m i a) b = lcgI m i (a + b)
  | 0 => rfl
  | b + 1 => by
    show (lcgI m (lcgI m i a) b * 5 + 1) % (m + 1) = (lcgI m i (a + b) * 5 + 1) % (m + 1)
    rw [from_far m i a b]
theorem seen_at {m j : Nat} : ∀ (f c : Nat), seen m f c j = true → ∃ b, b < f ∧ lcgI m c b = j
  | 0, _, h => by cases h
  | f + 1, c, h => by
    rcases Bool.or_eq_true_iff.mp h with h | h
    · exact ⟨0, Nat.succ_pos _, beq_iff_eq.mp h⟩
    · obtain ⟨b, hb, e⟩ := seen_at f _ h
      exact ⟨b + 1, Nat.succ_lt_succ hb, by rw [← e, from_next]⟩
theorem all_seen {m : Nat} (hm : Big m) : ((List.range (m + 1)).all fun j => seen m (m + 1) 0 j) = true := by
  rcases hm with rfl | rfl | rfl | rfl <;> decide +kernel
theorem back_home {m : Nat} (hm : Big m) : lcgI m 0 (m + 1) = 0 := by
  rcases hm with rfl | rfl | rfl | rfl <;> decide +kernel
theorem reached {m j : Nat} (hm : Big m) (hj : j ≤ m) : ∃ b, b ≤ m ∧ lcgI m 0 b = j := by
  obtain ⟨b, hb, e⟩ := seen_at (m + 1) 0 (List.all_eq_true.mp (all_seen hm) j (List.mem_range.mpr (by omega)))
  exact ⟨b, by omega, e⟩
theorem reached_from {m i j : Nat} (hm : Big m) (hi : i ≤ m) (hj : j ≤ m) : ∃ k, k ≤ m ∧ lcgI m i k = j := by
  obtain ⟨a, ha, rfl⟩ := reached hm hi
  obtain ⟨b, hb, rfl⟩ := reached hm hj
  by_cases h : a ≤ b
  · exact ⟨b - a, by omega, by rw [from_far, Nat.add_sub_cancel' h]⟩
  · refine ⟨m + 1 + b - a, by omega, ?_⟩
    rw [from_far, show a + (m + 1 + b - a) = (m + 1) + b by omega, ← from_far, back_home hm]
/-- some run starts at each place, soon -/
theorem run_at {m : Nat} (hm : Big m) (h : Int) {j : Nat} (hj : j ≤ m) : ∃ n, n < SetTable.turns m ∧ runI m (SetTable.bits h) n = j := by
  obtain ⟨k, hk, e⟩ := reached_from hm (runI_le m (SetTable.bits h) 12) hj
  refine ⟨12 + k, by unfold SetTable.turns; omega, ?_⟩
  rw [runI_tail (bits_lt h), e]
theorem way_at {m : Nat} (hm : Big m) (h : Int) {j : Nat} (hj : j ≤ m) : ∃ k, k < 10 * SetTable.turns m ∧ way m h k = j := by
  obtain ⟨n, hn, e⟩ := run_at hm h hj
  obtain ⟨k, hk, w⟩ := run_nth m (SetTable.bits h) n
  refine ⟨k, by omega, ?_⟩
  show (nth m _ k).j = j
  rw [w, ← e]
  rfl
theorem way_in (m : Nat) (h : Int) (k : Nat) : way m h k ≤ m := by
  have start : SetTable.bits h % (m + 1) ≤ m := Nat.lt_succ_iff.mp (Nat.mod_lt _ (Nat.succ_pos m))
  have z := nth_in k (runAt m (SetTable.bits h % (m + 1)) (SetTable.bits h)) (by
    have := runEnd_bd start
    show SetTable.bits h % (m + 1) + (SetTable.runEnd m _ - _) ≤ m
    omega)
  exact Nat.le_trans (Nat.le_add_right _ _) z
/-- places, in order, each met on the way of its hash through places that are taken -/
structure Seats (t : SetTable) (hs : List Int) : Prop where
  order : Ris t.place.toList
  clean : t.dummies = #[]
  many : t.place.toList.length = hs.length
  big : Big t.mask
  low : ∀ x ∈ t.place.toList, x ≤ t.mask
  met : ∀ (i : Nat) (h : Int) (j : Nat), hs[i]? = some h → t.place.toList[i]? = some j → ∃ k, way t.mask h k = j ∧ ∀ c, c < k → way t.mask h c ∈ t.place.toList
/-- the first place of a way that is free -/
structure First (t : SetTable) (h : Int) (K : Nat) : Prop where
  soon : K < 10 * SetTable.turns t.mask
  free : way t.mask h K ∉ t.place.toList
  taken : ∀ c, c < K → way t.mask h c ∈ t.place.toList
theorem Seats.first {t : SetTable} {hs : List Int} (S : Seats t hs) (room : hs.length ≤ t.mask) (h : Int) : ∃ K, First t h K := by
  have short : t.place.toList.length < t.mask + 1 := by rw [S.many]; omega
  obtain ⟨j, hj, nj⟩ := st_missing _ _ short
  obtain ⟨k, hk, e⟩ := way_at S.big h (Nat.lt_succ_iff.mp hj)
  subst e
  obtain ⟨K, le, nK, least⟩ := st_least (p := fun c => way t.mask h c ∉ t.place.toList) k nj
  exact ⟨K, Nat.lt_of_le_of_lt le hk, nK, fun c hc => Classical.not_not.mp (least c hc)⟩
/-- an entry of that hash sits on the way ahead of it -/
theorem Seats.ahead {t : SetTable} {hs : List Int} (S : Seats t hs) {h : Int} {K i j : Nat} (F : First t h K) (hi : hs[i]? = some h) (hj : t.place.toList[i]? = some j) : ∃ k, k < K ∧ way t.mask h k = j := by
  obtain ⟨k, e, tk⟩ := S.met i h j hi hj
  refine ⟨k, Nat.lt_of_not_le fun le => ?_, e⟩
  rcases Nat.eq_or_lt_of_le le with q | q
  · subst q
    exact F.free (by rw [e]; exact List.mem_of_getElem? hj)
  · exact F.free (tk K q)
/-- one more sits down -/
theorem Seats.sit {t : SetTable} {hs : List Int} (S : Seats t hs) {h : Int} {K p : Nat} (F : First t h K) (hp : SetTable.below t.place (way t.mask h K) = p) :
    p ≤ hs.length ∧ Seats (t.put (way t.mask h K)).1 (hs.take p ++ h :: hs.drop p) ∧ (t.put (way t.mask h K)).1.fill = hs.length + 1 := by
  have cut := (below_cut S.order (way t.mask h K)).1
  rw [hp] at cut
  have pl : p ≤ t.place.toList.length := by rw [Array.length_toList]; exact cut
  have ph : p ≤ hs.length := by rw [← S.many]; exact pl
  have new : (t.put (way t.mask h K)).1.place.toList = t.place.toList.take p ++ way t.mask h K :: t.place.toList.drop p := by rw [put_place, hp]
  have more : ∀ x ∈ t.place.toList, x ∈ (t.put (way t.mask h K)).1.place.toList := fun x hx => by rw [new]; exact mem_ins.mpr (.inr hx)
  have size : (t.put (way t.mask h K)).1.place.toList.length = hs.length + 1 := by rw [new, len_ins _ pl, S.many]
  have dm := put_dm S.clean (way t.mask h K)
  refine ⟨ph, ⟨?_, dm, by rw [size, len_ins _ ph], S.big, fun x hx => ?_, fun i g j hi hj => ?_⟩, ?_⟩
  · refine ris_insert S.order fun z => F.free ?_
    rw [← Array.getElem?_toList] at z
    exact List.mem_of_getElem? z
  · rw [new] at hx
    rcases mem_ins.mp hx with rfl | hx
    · exact way_in _ _ _
    · exact S.low x hx
  · rw [tins_get hs ph] at hi
    rw [new, tins_get _ pl] at hj
    have old : ∀ i', hs[i']? = some g → t.place.toList[i']? = some j → ∃ k, way t.mask g k = j ∧ ∀ c, c < k → way t.mask g c ∈ (t.put (way t.mask h K)).1.place.toList := fun i' a b => by
      obtain ⟨k, e, tk⟩ := S.met i' g j a b
      exact ⟨k, e, fun c hc => more _ (tk c hc)⟩
    rcases Nat.lt_trichotomy i p with q | q | q
    · rw [if_pos q] at hi hj
      exact old i hi hj
    · rw [if_neg (by omega), if_pos q] at hi hj
      cases hi
      cases hj
      exact ⟨K, rfl, fun c hc => more _ (F.taken c hc)⟩
    · rw [if_neg (by omega), if_neg (by omega)] at hi hj
      exact old (i - 1) hi hj
  · show (t.put (way t.mask h K)).1.place.size + (t.put (way t.mask h K)).1.dummies.size = _
    rw [dm, ← Array.length_toList, size]
    rfl
/-! ### a table laid anew -/
theorem free_met {m : Nat} (hm : Big m) (owner : Array (Option Nat)) (h : Int) {j : Nat} (hj : j ≤ m) (hf : oAt owner j = none) :
    ∃ K, SetTable.layClean.free m owner (SetTable.turns m) (SetTable.bits h % (m + 1)) (SetTable.bits h) = some (way m h K) ∧ oAt owner (way m h K) = none ∧ ∀ c, c < K → oAt owner (way m h c) ≠ none := by
  obtain ⟨n, hn, e⟩ := run_at hm h hj
  have there : oAt owner (way m h (off m (SetTable.bits h % (m + 1)) (SetTable.bits h) n)) = none := by
    have w : way m h (off m (SetTable.bits h % (m + 1)) (SetTable.bits h) n) = j := by
      show (nth m _ _).j = j
      rw [nth_off, itL_run, ← e]
      rfl
    rw [w]
    exact hf
  obtain ⟨K, le, fr, least⟩ := st_least (p := fun c => oAt owner (way m h c) = none) _ there
  refine ⟨K, free_spec m owner _ n _ _ K hn le (fun c hc => ?_) ?_, fr, least⟩
  · exact Option.isNone_eq_false_iff.mpr (Option.isSome_iff_ne_none.mpr (least c hc))
  · exact Option.isNone_iff_eq_none.mpr fr
theorem own_more {m : Nat} (hm : Big m) {done : List Int} {owner : Array (Option Nat)} (W : Own m done owner) (room : done.length ≤ m) (h : Int) :
    ∃ j, SetTable.layClean.free m owner (SetTable.turns m) (SetTable.bits h % (m + 1)) (SetTable.bits h) = some j ∧ Own m (done ++ [h]) (owner.setIfInBounds j (some done.length)) := by
  obtain ⟨ps, lps, inps⟩ := W.ps
  obtain ⟨j0, lt0, out0⟩ := st_missing ps (m + 1) (by omega)
  have fr0 : oAt owner j0 = none := Classical.byContradiction fun z => out0 (inps j0 (by omega) z)
  obtain ⟨K, fnd, fr, tk⟩ := free_met hm owner h (Nat.lt_succ_iff.mp lt0) fr0
  have wl := way_in m h K
  have same : oAt (owner.setIfInBounds (way m h K) (some done.length)) (way m h K) = some done.length := oAt_set_self _ (by rw [W.sz]; omega)
  have other : ∀ i, i ≠ way m h K → oAt (owner.setIfInBounds (way m h K) (some done.length)) i = oAt owner i := fun i ne => oAt_set_ne _ ne
  have grow : ∀ i, oAt owner i ≠ none → oAt (owner.setIfInBounds (way m h K) (some done.length)) i ≠ none := fun i hi => by
    rw [other i fun z => hi (by rw [z, fr])]
    exact hi
  refine ⟨_, fnd, ?_, ?_, ?_, way m h K :: ps, ?_, ?_⟩
  · rw [Array.size_setIfInBounds, W.sz]
  · intro j k hj e
    by_cases q : j = way m h K
    · subst q
      rw [same] at e
      cases e
      exact ⟨h, K, by rw [List.getElem?_append_right (Nat.le_refl _), Nat.sub_self]; rfl, rfl, fun c hc => grow _ (tk c hc)⟩
    · rw [other j q] at e
      obtain ⟨g, C, a, b, c⟩ := W.at_ j k hj e
      exact ⟨g, C, by rw [List.getElem?_append_left (List.getElem?_eq_some_iff.mp a).1]; exact a, b, fun x hx => grow _ (c x hx)⟩
  · intro k hk
    rcases Nat.lt_or_ge k done.length with q | q
    · obtain ⟨j, hj, e⟩ := W.all k q
      exact ⟨j, hj, by rw [other j fun z => by rw [z, fr] at e; cases e]; exact e⟩
    · rw [List.length_append] at hk
      have : k = done.length := by simp at hk; omega
      subst this
      exact ⟨_, wl, same⟩
  · simp [lps]
  · intro j hj e
    by_cases q : j = way m h K
    · rw [q]
      exact List.mem_cons_self ..
    · rw [other j q] at e
      exact List.mem_cons_of_mem _ (inps j hj e)
theorem lay_more {m : Nat} (hm : Big m) : ∀ (todo done : List Int) (owner : Array (Option Nat)), Own m done owner → done.length + todo.length ≤ m →
    ∃ owner', todo.foldl (stepF m) (some (owner, done.length)) = some (owner', (done ++ todo).length) ∧ Own m (done ++ todo) owner'
  | [], done, owner, W, _ => ⟨owner, by rw [List.append_nil]; rfl, by rw [List.append_nil]; exact W⟩
  | h :: todo, done, owner, W, room => by
    rw [List.length_cons] at room
    obtain ⟨j, e, W1⟩ := own_more hm W (by omega) h
    have l1 : (done ++ [h]).length = done.length + 1 := by simp
    obtain ⟨o2, f, W2⟩ := lay_more hm todo _ _ W1 (by omega)
    rw [List.append_assoc] at f W2
    exact ⟨o2, by rw [List.foldl_cons, stepF_some e, ← l1]; exact f, W2⟩
theorem lay_all {m : Nat} (hm : Big m) {hs : Array Int} (room : hs.size ≤ m) : ∃ owner, SetTable.layClean m hs = some owner ∧ Own m hs.toList owner := by
  obtain ⟨o, f, W⟩ := lay_more hm hs.toList [] _ (Own.init m) (by simpa using room)
  refine ⟨o, ?_, by simpa using W⟩
  rw [layClean_eq]
  have f2 : hs.toList.foldl (stepF m) (some (Array.replicate (m + 1) none, 0)) = some (o, ([] ++ hs.toList).length) := f
  rw [f2]
  rfl
/-- the table moved to one of M + 1 places: the entries in some order -/
theorem seats_anew (t : SetTable) {hs : Array Int} {wanted M : Nat} (hw : SetTable.sizeAbove wanted = M + 1) (hM : Big M) (room : hs.size ≤ M) :
    ∃ (t' : SetTable) (order : Array Nat), t.relaid hs wanted = some (t', order) ∧ order.toList.Perm (List.range hs.size) ∧ Seats t' (order.toList.map fun i => hs.getD i 0) ∧ t'.mask = M ∧ t'.led = t.led ∧ t'.plain = t.plain := by
  obtain ⟨o, e, W⟩ := lay_all hM room
  have e1 : t.relaid hs wanted = some (tabOf t M o, ((liveOf M o).map (·.2)).toArray) := by
    rw [relaid_eq, hw, Nat.add_sub_cancel, e]
    rfl
  have live : ∀ j k, (j, k) ∈ liveOf M o ↔ j ≤ M ∧ oAt o j = some k := fun j k => mem_live W.sz
  obtain ⟨ri, rin⟩ := ris_live (fun j => o.getD j none) (List.range (M + 1)) List.pairwise_lt_range
  have ri : Ris ((liveOf M o).map (·.1)) := ri
  have numbers : ∀ k, k < hs.size → k ∈ (liveOf M o).map (·.2) := fun k hk => by
    obtain ⟨j, a, b⟩ := W.all k (by simpa using hk)
    exact List.mem_map.mpr ⟨(j, k), (live j k).mpr ⟨a, b⟩, rfl⟩
  have len : (liveOf M o).length = hs.size := by
    obtain ⟨ps, lps, inps⟩ := W.ps
    have up := nat_nodup_len _ ps (List.Pairwise.imp (fun h => Nat.ne_of_lt h) ri) fun x hx => by
      obtain ⟨⟨j, k⟩, hq, rfl⟩ := List.mem_map.mp hx
      obtain ⟨a, b⟩ := (live j k).mp hq
      exact inps j a (by rw [b]; exact Option.some_ne_none k)
    have dn := nat_nodup_len (List.range hs.size) _ List.nodup_range fun k hk => numbers k (List.mem_range.mp hk)
    simp only [List.length_map, List.length_range] at up dn
    have : ps.length = hs.size := by rw [lps, Array.length_toList]
    omega
  refine ⟨_, _, e1, perm_range _ _ (by show ((liveOf M o).map (·.2)).length = _; rw [List.length_map, len]) numbers, ⟨ri, rfl, ?_, hM, ?_, ?_⟩, rfl, rfl, rfl⟩
  · show ((liveOf M o).map (·.1)).length = (((liveOf M o).map (·.2)).map _).length
    simp only [List.length_map]
  · intro x hx
    exact Nat.lt_succ_iff.mp (List.mem_range.mp (rin x hx))
  · intro i h j hi hj
    have hj : ((liveOf M o).map (·.1))[i]? = some j := hj
    have hi : (((liveOf M o).map (·.2)).map fun i => hs.getD i 0)[i]? = some h := hi
    rw [List.getElem?_map] at hj
    obtain ⟨⟨j', k⟩, hq, rfl⟩ := Option.map_eq_some_iff.mp hj
    rw [List.getElem?_map, List.getElem?_map, hq] at hi
    have hi : hs.getD k 0 = h := Option.some.inj hi
    obtain ⟨a, b⟩ := (live j' k).mp (List.mem_of_getElem? hq)
    obtain ⟨g, K, c1, c2, c3⟩ := W.at_ j' k a b
    have eg : g = h := by
      rw [← hi, Array.getD_eq_getD_getElem?, ← Array.getElem?_toList, c1]
      rfl
    subst eg
    refine ⟨K, c2, fun c hc => ?_⟩
    obtain ⟨k2, e2⟩ := Option.ne_none_iff_exists'.mp (c3 c hc)
    exact List.mem_map.mpr ⟨(_, k2), (live _ k2).mpr ⟨way_in _ _ _, e2⟩, rfl⟩
end Kt
set_option Elab.async false
set_option linter.all false
set_option maxRecDepth 100000
set_option maxHeartbeats 4000000
namespace Kt
open PySem PySem.Spec PyProof.Rows L2
/-- the state of a search after some steps -/
abbrev stp (m : Nat) (h : Int) (c : Nat) : SetTable.Probe := nth m (runAt m (SetTable.bits h % (m + 1)) (SetTable.bits h)) c
theorem nth_dummy {m : Nat} : ∀ (n : Nat) (p : SetTable.Probe), p.dummy = none → (nth m p n).dummy = none
  | 0, _, h => h
  | n + 1, p, h => nth_dummy n (adv m p) (by
    unfold adv
    split
    · exact h
    · exact h)
/-- a probe from the c-th step on -/
theorem probe_says {t : SetTable} {hs : List Int} (S : Seats t hs) {h : Int} {K c : Nat} (F : First t h K) (hc : c ≤ K) (hashAt : Nat → Int) :
    (∃ q i, c ≤ q ∧ q < K ∧ t.place.toList[i]? = some (way t.mask h q) ∧ hashAt i = h ∧ (∀ b i', c ≤ b → b < q → t.place.toList[i']? = some (way t.mask h b) → hashAt i' ≠ h) ∧
      t.probe hashAt h (stp t.mask h c) = some (.candidate (way t.mask h q) i (stp t.mask h (q + 1)))) ∨
    ((∀ b i', c ≤ b → b < K → t.place.toList[i']? = some (way t.mask h b) → hashAt i' ≠ h) ∧ t.probe hashAt h (stp t.mask h c) = some (.empty (way t.mask h K) none)) := by
  have sh : ∀ q, nth t.mask (stp t.mask h c) q = stp t.mask h (c + q) := fun q => (nth_add t.mask c _ q).symm
  have wy : ∀ q, (nth t.mask (stp t.mask h c) q).j = way t.mask h (c + q) := fun q => by rw [sh]
  have back : ∀ {b}, c ≤ b → c + (b - c) = b := fun hb => by omega
  have sp := go_spec t S.order S.clean hashAt h (10 * SetTable.turns t.mask) (K - c) (stp t.mask h c) (nth_dummy c _ rfl) (by have := F.soon; omega)
    (fun q hq => by rw [wy]; exact F.taken _ (by omega)) (by rw [wy, back hc]; exact F.free)
  rcases sp with ⟨q, i, hq, hi, hh, before, e⟩ | ⟨before, e⟩
  · rw [wy] at hi
    rw [wy, sh] at e
    refine .inl ⟨c + q, i, by omega, by omega, hi, hh, fun b i' h1 h2 h3 => before (b - c) i' (by omega) (by rw [wy, back h1]; exact h3), ?_⟩
    show SetTable.probe.go t hashAt h _ _ = _
    rw [e]
    rfl
  · rw [wy, back hc] at e
    exact .inr ⟨fun b i' h1 h2 h3 => before (b - c) i' (by omega) (by rw [wy, back h1]; exact h3), e⟩
abbrev Rw := List (Addr × List Int)
/-- a set that holds these rows -/
structure Holds (P : Program) (w : World) (h : Heap) (a : Addr) (L : Rw) (es : Array (Int × Value)) (ep : Nat) (t : SetTable) : Prop where
  obj : ∃ o, h.get? a = some o ∧ o.ExactSet ∧ o.data = .set es ep t
  rows : es.toList = rowsOf P w L
  seats : Seats t (L.map fun p => thash P w p.2)
  once : (L.map (·.2)).Nodup
  tups : ∀ p ∈ L, IsT P w h p.2 p.1
  plain : t.plain = true
  led : w.params.followText "set-order" = true ∨ t.led = true
  room : L.length * 5 < t.mask * 3
  few : L.length ≤ 256
section
variable {P : Program} {w : World} {A : Around} {E : Value → Shared → Prop} {s : Shared} {a x : Addr} {k : List Int} {L : Rw} {es : Array (Int × Value)} {ep : Nat} {t : SetTable}
theorem rows_len {L : Rw} {es : Array (Int × Value)} (h : es.toList = rowsOf P w L) : es.size = L.length := by
  rw [← Array.length_toList, h]
  exact List.length_map ..
theorem fits_of {t : SetTable} {n : Nat} (h1 : t.place.toList.length = n) (h2 : t.dummies = #[]) (h3 : n ≤ t.mask) : t.fits n = true := by
  rw [Array.length_toList] at h1
  unfold SetTable.fits SetTable.fill
  simp [h1, h2, h3]
theorem Holds.fits (R : Holds P w s.heap a L es ep t) : t.fits es.size = true := by
  have r := R.room
  refine fits_of (by rw [R.seats.many, rows_len R.rows, List.length_map]) R.seats.clean ?_
  rw [rows_len R.rows]
  omega
theorem Holds.at (R : Holds P w s.heap a L es ep t) {i : Nat} {p : Addr × List Int} (h : L[i]? = some p) : es[i]? = some (thash P w p.2, .ref p.1) := by
  rw [← Array.getElem?_toList, R.rows]
  show (L.map _)[i]? = _
  rw [List.getElem?_map, h]
  rfl
theorem Holds.steady (R : Holds P w s.heap a L es ep t) : ¬ t.gaveWay = true := by
  unfold SetTable.gaveWay
  rcases R.seats.big with e | e | e | e <;> rw [e] <;> decide
theorem Holds.here (R : Holds P w s.heap a L es ep t) {i : Nat} {j : Nat} (h : t.place.toList[i]? = some j) : ∃ p, L[i]? = some p ∧ p ∈ L := by
  have lt := (List.getElem?_eq_some_iff.mp h).1
  rw [R.seats.many, List.length_map] at lt
  exact ⟨_, List.getElem?_eq_getElem lt, List.getElem_mem lt⟩
/-- what is asked of one with the same hash -/
theorem hunt_seen (R : Holds P w s.heap a L es ep t) (hx : IsT P w s.heap k x) (h : Int) {Q : Bool → Shared → Prop} (q : Q false s) : wpAny (model P w) A (searchCouldBeSeen (.ref x) ((es.filter (·.1 == h)).toList.map (·.2))) Q E s := by
  refine seen_tup hx (fun y hy => ?_) q
  obtain ⟨e, he, rfl⟩ := List.mem_map.mp hy
  rw [Array.toList_filter, R.rows] at he
  obtain ⟨p, hp, rfl⟩ := List.mem_map.mp (List.mem_filter.mp he).1
  exact ⟨p.2, p.1, rfl, R.tups p hp⟩
theorem hunt (R : Holds P w s.heap a L es ep t) (hx : IsT P w s.heap k x) (hu : A.units < cLine) {K : Nat} (F : First t (thash P w k) K) {Q : SetFound → Shared → Prop}
    (yes : k ∈ L.map (·.2) → Q (.there none) s) (no : k ∉ L.map (·.2) → Q (.free (way t.mask (thash P w k) K) false) s) :
    ∀ (f c : Nat) (stand : Option SetTable.Probe), stand.getD (t.probeStart (thash P w k)) = stp t.mask (thash P w k) c → c ≤ K → K - c < f →
      (∀ (i : Nat) p, L[i]? = some p → p.2 = k → ∃ b, c ≤ b ∧ b < K ∧ t.place.toList[i]? = some (way t.mask (thash P w k) b)) →
      wpAny (model P w) A (setSearchFrom a (.ref x) (thash P w k) true f stand) Q E s := by
  intro f
  induction f with
  | zero => intro c _ _ _ z; exact absurd z (Nat.not_lt_zero _)
  | succ f ih =>
    intro c stand est le lt still
    obtain ⟨o, ho, hex, hd⟩ := R.obj
    have hash : ∀ (i : Nat) (p : Addr × List Int), L[i]? = some p → (es[i]?.map (·.1)).getD 0 = thash P w p.2 := fun i p hp => by
      rw [R.at hp]
      rfl
    rw [setSearchFrom_succ]
    refine wpAny_bind (wpAny_setState_of ho hd R.fits ?_)
    dsimp only
    refine wp_if_neg R.steady ?_
    try refine wpAny_bind (wpAny_pure ?_)
    rw [est]
    rcases probe_says R.seats F le (fun i => (es[i]?.map (·.1)).getD 0) with ⟨q, i, cq, qK, hi, hh, before, pr⟩ | ⟨before, pr⟩
    · rw [pr]
      dsimp only
      obtain ⟨p, hp, pm⟩ := R.here hi
      have tp := R.tups p pm
      have slot := slot_live R.seats.order hi
      have tail : wpAny (model P w) A (searchRest a (.ref x) (thash P w k) true f es t (way t.mask (thash P w k) q) i (stp t.mask (thash P w k) (q + 1))) Q E s := by
        unfold searchRest
        simp only [R.at hp]
        refine wpAny_bind (wpAny_holding (wpAny_eqBool_tuple hu tp hx ?_))
        refine wpAny_bind (wpAny_setState_of ho hd R.fits ?_)
        dsimp only
        by_cases same : p.2 = k
        · refine wp_if_pos (by simp [same]) (wpAny_pure (yes ?_))
          rw [← same]
          exact List.mem_map.mpr ⟨p, pm, rfl⟩
        · refine wp_if_neg (by simp [same]) ?_
          try refine wpAny_bind (wpAny_pure ?_)
          rw [sameMem]
          dsimp only
          simp only [if_true, slot, R.at hp]
          refine wpAny_bind (wpAny_isSame_ref_self (wpAny_bind (wpAny_pure ?_)))
          simp only [if_true]
          refine wp_if_neg (by simp [same]) ?_
          refine ih (q + 1) _ rfl (by omega) (by omega) fun i0 p0 h0 e0 => ?_
          obtain ⟨b, b1, b2, b3⟩ := still i0 p0 h0 e0
          refine ⟨b, Nat.lt_of_not_le fun le2 => ?_, b2, b3⟩
          rcases Nat.eq_or_lt_of_le le2 with eq | ltq
          · have sl := slot_live R.seats.order (eq ▸ b3)
            rw [slot] at sl
            injection sl with sl
            rw [← sl, hp] at h0
            cases h0
            exact same e0
          · exact before b i0 b1 ltq b3 ((hash i0 p0 h0).trans (by rw [e0]))
      cases hl : t.led with
      | true =>
        refine wp_if_neg (by decide) ?_
        try refine wpAny_bind (wpAny_pure ?_)
        exact tail
      | false =>
        refine wp_if_pos (by decide) ?_
        refine wpAny_bind (hunt_seen R hx _ ?_)
        refine wp_if_neg (by decide) ?_
        try refine wpAny_bind (wpAny_pure ?_)
        exact tail
    · rw [pr]
      dsimp only
      refine wpAny_pure (no fun km => ?_)
      obtain ⟨p0, pm, e0⟩ := List.mem_map.mp km
      obtain ⟨i0, li, ei⟩ := List.getElem_of_mem pm
      have h0 : L[i0]? = some p0 := by rw [List.getElem?_eq_getElem li, ei]
      obtain ⟨b, b1, b2, b3⟩ := still i0 p0 h0 e0
      exact before b i0 b1 b2 b3 ((hash i0 p0 h0).trans (by rw [e0]))
theorem hunt_all (R : Holds P w s.heap a L es ep t) (hx : IsT P w s.heap k x) (hu : A.units < cLine) {Q : SetFound → Shared → Prop}
    (yes : k ∈ L.map (·.2) → Q (.there none) s) (no : ∀ K, First t (thash P w k) K → k ∉ L.map (·.2) → Q (.free (way t.mask (thash P w k) K) false) s) :
    wpAny (model P w) A (setSearch a (.ref x) (thash P w k) true) Q E s := by
  have r := R.room
  obtain ⟨K, F⟩ := R.seats.first (by rw [List.length_map]; omega) (thash P w k)
  have small : 10 * SetTable.turns t.mask ≤ 5260 := by
    unfold SetTable.turns
    rcases R.seats.big with e | e | e | e <;> omega
  have sn := F.soon
  unfold setSearch
  refine hunt R hx hu F yes (no K F) _ 0 none rfl (Nat.zero_le K) (by omega) fun i p hp ek => ?_
  have li : i < t.place.toList.length := by
    rw [R.seats.many, List.length_map]
    exact (List.getElem?_eq_some_iff.mp hp).1
  obtain ⟨b, hb, e⟩ := R.seats.ahead F (i := i) (by rw [List.getElem?_map, hp, ← ek]; rfl) (List.getElem?_eq_getElem li)
  exact ⟨b, Nat.zero_le b, hb, by rw [e]; exact List.getElem?_eq_getElem li⟩
end
end Kt
set_option Elab.async false
set_option linter.all false
set_option maxRecDepth 100000
set_option maxHeartbeats 4000000
namespace Kt
open PySem PySem.Spec PyProof.Rows L2
section
variable {P : Program} {w : World} {A : Around} {E : Value → Shared → Prop} {s : Shared} {a x : Addr} {k : List Int} {L : Rw} {es : Array (Int × Value)} {ep : Nat} {t : SetTable}
theorem move {o : Obj} (ho : s.heap.get? a = some o) (hex : o.ExactSet) (hd : o.data = .set es ep t) (rows : es.toList = rowsOf P w L) (many : t.place.toList.length = L.length) (clean : t.dummies = #[]) (low : L.length ≤ t.mask)
    (once : (L.map (·.2)).Nodup) (tups : ∀ p ∈ L, IsT P w s.heap p.2 p.1) (plain : t.plain = true) (led : w.params.followText "set-order" = true ∨ t.led = true) (few : L.length ≤ 256)
    {wanted M : Nat} (hw : SetTable.sizeAbove wanted = M + 1) (hM : Big M) (room : L.length * 5 < M * 3) {Q : Unit → Shared → Prop}
    (q : ∀ h' L' es' ep' t', Heap.SameBut a s.heap h' → Holds P w h' a L' es' ep' t' → L'.Perm L → Q () { s with heap := h' }) : wpAny (model P w) A (setRelay a wanted) Q E s := by
  have len := rows_len rows
  have small : M ≤ 511 := by rcases hM with e | e | e | e <;> omega
  obtain ⟨t', ord, e, pm, seats, em, el, epl⟩ := seats_anew t (hs := es.map (·.1)) hw hM (by rw [Array.size_map, len]; omega)
  rw [Array.size_map, len] at pm
  obtain ⟨L', e1, pm', e2⟩ := order_rows L es ord rows pm
  rw [← e2] at seats
  have len' : (ord.filterMap (es[·]?)).size = L.length := (rows_len e1).trans pm'.length_eq
  have keep : Heap.SameBut a s.heap (s.heap.update a (Obj.putSet (ord.filterMap (es[·]?)) t')) := Heap.SameBut.update ..
  rw [setRelay_eq]
  refine wpAny_bind (wpAny_setState_of ho hd (fits_of (by rw [many, len]) clean (by rw [len]; exact low)) ?_)
  dsimp only
  refine wp_if_neg (by rw [hw, sizeLine_eq]; omega) ?_
  try refine wpAny_bind (wpAny_pure ?_)
  rw [e]
  dsimp only
  refine wpAny_bind (wp_if_neg (by rw [len', len]; simp) ?_)
  try refine wpAny_bind (wpAny_pure ?_)
  refine wpAny_pure ?_
  dsimp only
  refine wpAny_storeSet_of ho hd (q _ L' _ (ep + 1) t' keep ⟨⟨_, store_at ho hd, ⟨hex.1, hex.2.1, hex.2.2⟩, rfl⟩, e1, seats, (pm'.map (·.2)).nodup_iff.mpr once, fun p hp => isT_same (tups p (pm'.mem_iff.mp hp)) ho hd keep, epl.trans plain, el.symm ▸ led, ?_, by rw [pm'.length_eq]; exact few⟩ pm') (by rw [len', sizeLine_eq]; omega)
  rw [pm'.length_eq, em]
  exact room
/-- one more row -/
theorem put_in (R : Holds P w s.heap a L es ep t) (hx : IsT P w s.heap k x) (hu : A.units < cLine) (few : L.length + 1 ≤ 256) {Q : Bool → Shared → Prop}
    (q : ∀ b h' L' es' ep' t', Heap.SameBut a s.heap h' → Holds P w h' a L' es' ep' t' → (k ∈ L.map (·.2) → L' = L) → (k ∉ L.map (·.2) → L'.Perm ((x, k) :: L)) → Q b { s with heap := h' }) :
    wpAny (model P w) A (setAddHashed a (.ref x) (thash P w k)) Q E s := by
  obtain ⟨o, ho, hex, hd⟩ := R.obj
  have r := R.room
  unfold setAddHashed
  refine wpAny_holding ?_
  rw [show 100000 = 99999 + 1 from rfl, setAddHashedIn_succ]
  refine wpAny_bind (wpAny_setState_of ho hd R.fits ?_)
  dsimp only
  refine wp_if_neg (by simp [byScan, Value.scannable]) ?_
  try refine wpAny_bind (wpAny_pure ?_)
  refine wpAny_bind (hunt_all R hx hu (fun km => ?_) fun K F km => ?_)
  · exact wpAny_pure (q false _ L es ep t (Heap.SameBut.refl a _) R (fun _ => rfl) fun z => absurd km z)
  · dsimp only
    refine wpAny_bind (wpAny_setState_of ho hd R.fits ?_)
    dsimp only
    obtain ⟨p, hp⟩ : ∃ p, SetTable.below t.place (way t.mask (thash P w k) K) = p := ⟨_, rfl⟩
    obtain ⟨le, seats, fill⟩ := R.seats.sit F hp
    have e0 : t.put (way t.mask (thash P w k) K) = ((t.put (way t.mask (thash P w k) K)).1, p) := Prod.ext rfl hp
    have f1 : (t.put (way t.mask (thash P w k) K)).1.plain = true := R.plain
    have f2 : w.params.followText "set-order" = true ∨ (t.put (way t.mask (thash P w k) K)).1.led = true := R.led
    have f3 : (t.put (way t.mask (thash P w k) K)).1.mask = t.mask := rfl
    rw [e0]
    generalize (t.put (way t.mask (thash P w k) K)).1 = u at seats fill f1 f2 f3 ⊢
    dsimp only
    rw [List.length_map] at le fill
    first
      | (refine wpAny_bind (wp_if_pos f1 ?_); refine hashBy_tup hx ?_)
      | refine wp_if_pos f1 (wpAny_bind (hashBy_tup hx ?_))
    simp only [if_true]
    have pm := put_perm L p (x, k)
    have rows : (SetTable.insertAt es p (thash P w k, Value.ref x)).toList = rowsOf P w (L.take p ++ (x, k) :: L.drop p) := by rw [SetTable.toList_insertAt, R.rows, rows_put]
    have keys : (L.map fun p => thash P w p.2).take p ++ thash P w k :: (L.map fun p => thash P w p.2).drop p = (L.take p ++ (x, k) :: L.drop p).map fun p => thash P w p.2 := by
      rw [List.map_append, List.map_cons, List.map_take, List.map_drop]
    rw [keys] at seats
    generalize L.take p ++ (x, k) :: L.drop p = M at pm rows seats
    generalize SetTable.insertAt es p (thash P w k, Value.ref x) = fs at rows ⊢
    have lM : M.length = L.length + 1 := pm.length_eq
    have lf : fs.size = L.length + 1 := (rows_len rows).trans lM
    have once : (M.map (·.2)).Nodup := (pm.map (·.2)).nodup_iff.mpr (List.nodup_cons.mpr ⟨km, R.once⟩)
    refine wpAny_bind (wpAny_storeSet_of ho hd ?_ (by rw [lf, sizeLine_eq]; omega))
    have keep : Heap.SameBut a s.heap (s.heap.update a (Obj.putSet fs u)) := Heap.SameBut.update ..
    have there := store_at (es' := fs) (t' := u) ho hd
    generalize s.heap.update a (Obj.putSet fs u) = hp2 at keep there ⊢
    have tups : ∀ p ∈ M, IsT P w hp2 p.2 p.1 := fun p hp => isT_same (by
      rcases List.mem_cons.mp (pm.mem_iff.mp hp) with rfl | hp
      · exact hx
      · exact R.tups p hp) ho hd keep
    by_cases full : u.tooFull = true
    · have many := full
      unfold SetTable.tooFull at many
      rw [decide_eq_true_eq, fill, f3] at many
      obtain ⟨N, hN, sz, roomN, lowN⟩ : ∃ N, Big N ∧ SetTable.sizeAbove (SetTable.grown (L.length + 1)) = N + 1 ∧ (L.length + 1) * 5 < N * 3 ∧ L.length + 1 ≤ t.mask := by
        rcases R.seats.big with e | e | e | e
        · have l : L.length = 4 := by omega
          exact ⟨31, .inr (.inl rfl), by rw [l]; decide +kernel, by omega, by omega⟩
        · have l : L.length = 18 := by omega
          exact ⟨127, .inr (.inr (.inl rfl)), by rw [l]; decide +kernel, by omega, by omega⟩
        · have l : L.length = 76 := by omega
          exact ⟨511, .inr (.inr (.inr rfl)), by rw [l]; decide +kernel, by omega, by omega⟩
        · omega
      rw [rows_len R.rows]
      first
        | refine wp_if_pos (by simp [full]) (wpAny_bind ?_)
        | refine wpAny_bind (wp_if_pos (by simp [full]) ?_)
      refine move (s := { s with heap := hp2 }) there ⟨hex.1, hex.2.1, hex.2.2⟩ rfl rows (by rw [seats.many, List.length_map]) seats.clean (by rw [lM, f3]; exact lowN) once tups f1 f2 (by rw [lM]; exact few) sz hN (by rw [lM]; exact roomN) fun h' L' es' ep' t' keep' R' pm' => ?_
      exact wpAny_pure (q true h' L' es' ep' t' (keep.trans keep') R' (fun z => absurd z km) fun _ => pm'.trans pm)
    · have rare := full
      unfold SetTable.tooFull at rare
      rw [decide_eq_true_eq, fill] at rare
      first
        | refine wp_if_neg (by simp [full]) ?_
        | refine wpAny_bind (wp_if_neg (by simp [full]) (wpAny_pure ?_))
      exact wpAny_pure (q true hp2 M fs (ep + 1) u keep ⟨⟨_, there, ⟨hex.1, hex.2.1, hex.2.2⟩, rfl⟩, rows, seats, once, tups, f1, f2, by rw [lM]; omega, by rw [lM]; exact few⟩ (fun z => absurd z km) fun _ => pm)
end
end Kt
set_option Elab.async false
set_option linter.all false
set_option maxRecDepth 100000
set_option maxHeartbeats 4000000
namespace Kt
open PySem PySem.Spec PyProof.Rows L2
abbrev Kept (h h' : Heap) : Prop := ∀ b o, h.get? b = some o → h'.get? b = some o
section
variable {P : Program} {w : World} {A : Around} {E : Value → Shared → Prop} {s : Shared}
theorem Holds.keep {h h' : Heap} {a : Addr} {L : Rw} {es : Array (Int × Value)} {ep : Nat} {t : SetTable} (R : Holds P w h a L es ep t) (ka : ∀ o, h.get? a = some o → h'.get? a = some o) (kt : ∀ p ∈ L, IsT P w h' p.2 p.1) : Holds P w h' a L es ep t :=
  ⟨R.obj.imp fun o z => ⟨ka o z.1, z.2⟩, R.rows, R.seats, R.once, kt, R.plain, R.led, R.room, R.few⟩
abbrev newSet (w : World) : Obj := { cls := .type "set", dict := none, data := .set #[] 0 (.fresh 0 0 (!w.params.followText "set-order")) }
theorem holds_new {h : Heap} {a : Addr} (ho : h.get? a = some (newSet w)) : Holds P w h a [] #[] 0 (.fresh 0 0 (!w.params.followText "set-order")) := by
  refine ⟨⟨_, ho, ⟨rfl, rfl, rfl⟩, rfl⟩, rfl, ⟨.nil, rfl, rfl, .inl rfl, fun x z => (by cases z), fun i g j z => (by cases z)⟩, .nil, fun p z => (by cases z), rfl, ?_, ?_, ?_⟩
  · cases w.params.followText "set-order" with
    | true => exact .inl rfl
    | false => exact .inr rfl
  · show 0 * 5 < 7 * 3
    omega
  · show 0 ≤ 256
    omega
theorem fill_up {I S : Addr} {fp wr : List Addr} {G : Array GenState → Array GenState → Prop} {n : Nat} {Pv : Nat → Value → Prop} {St : Nat → Shared → Prop} {Rr : Result → Shared → Prop} (W : WalksS P w A.in1 I fp wr G n Pv St) (out : S ∉ fp)
    (ks : Rw) (hn : ks.length = n) (few : n ≤ 256) (val : ∀ i v, Pv i v → ∃ p, ks[i]? = some p ∧ v = .ref p.1) (h0 : Heap) (tups : ∀ p ∈ ks, IsT P w h0 p.2 p.1) (noS : h0.get? S = none) (noW : ∀ b ∈ wr, h0.get? b = none) (hu : A.in1.units < cLine) :
    ∀ (left i : Nat) (s : Shared), i + left = n → St i s → Kept h0 s.heap → (∃ L es ep t, Holds P w s.heap S L es ep t ∧ Got ks i L) →
      (∀ s' L es ep t, Moved (S :: wr) G s s' → Holds P w s'.heap S L es ep t → Got ks n L → Kept h0 s'.heap → Rr (.ok (.ret .none)) s') → codeAny (model P w) A (.builtin "set.update.loop" ⟨[.ref S, .ref I], []⟩) Rr s := by
  have outW : S ∉ wr := fun z => out (W.sub _ z)
  have wider : ∀ b ∈ wr, b ∈ S :: wr := fun b z => .tail _ z
  have step : ∀ {s s' : Shared}, Moved wr G s s' → Kept h0 s.heap → Kept h0 s'.heap := fun mv kp b o e => mv.heap b o (fun z => by rw [noW b z] at e; cases e) (kp b o e)
  intro left
  induction left with
  | zero =>
    intro i s hi st kp ⟨L, es, ep, t, R, g⟩ fin
    obtain rfl : i = n := hi
    refine codeAny_builtin F.entry_set_update_loop ?_
    rw [Around.under_plainId F.plain_set_update_loop _]
    show wpAny _ A.in1 (pyNext (.ref I) >>= _) _ _ _
    refine wpAny_bind (W.done s _ _ st fun s' mv => ?_)
    have kp' := step mv kp
    exact wpAny_pure (fin s' L es ep t (mv.mono wider) (R.keep (fun o e => mv.heap S o outW e) fun p hp => isT_keep (tups p (List.mem_of_mem_take (g.sub p hp))) kp') g kp')
  | succ left ih =>
    intro i s hi st kp ⟨L, es, ep, t, R, g⟩ fin
    refine codeAny_builtin F.entry_set_update_loop ?_
    rw [Around.under_plainId F.plain_set_update_loop _]
    show wpAny _ A.in1 (pyNext (.ref I) >>= _) _ _ _
    refine wpAny_bind (W.item i s _ _ (by omega) st fun v s' pv st' mv => ?_)
    obtain ⟨p, hp, rfl⟩ := val i v pv
    have kp' := step mv kp
    have here : IsT P w s'.heap p.2 p.1 := isT_keep (tups p (List.mem_of_getElem? hp)) kp'
    have R' := R.keep (h' := s'.heap) (fun o e => mv.heap S o outW e) fun q hq => isT_keep (tups q (List.mem_of_mem_take (g.sub q hq))) kp'
    show wpAny _ A.in1 (holding [Value.ref p.1] (setAdd S (.ref p.1)) >>= _) _ _ _
    refine wpAny_bind (wpAny_holding ?_)
    unfold setAdd
    refine wpAny_holding (wpAny_bind (wpAny_pyHash_tuple hu here ?_))
    have gl := g.len
    refine put_in (s := { s' with toks := s'.toks + (p.2.length + 1) }) R' here hu (by omega) fun b h' L' es' ep' t' sb R2 w1 w2 => ?_
    have g' : Got ks (i + 1) L' := by
      by_cases c : p.2 ∈ L.map (·.2)
      · rw [w1 c]
        exact g.same hp c
      · exact g.more hp (w2 c)
    have kp2 : Kept h0 h' := fun c o e => (sb.2 c fun z => by rw [z, noS] at e; cases e).trans (kp' c o e)
    refine wpAny_pure ⟨plainId_quiet F.plain_set_update_loop _, ih (i + 1) _ (by omega) (W.frame _ s' _ _ st' (Nat.le_add_right _ _) fun c hc o e => (sb.2 c fun z => out (z ▸ hc)).trans e) kp2 ⟨L', es', ep', t', R2, g'⟩ fun s2 L2 es2 ep2 t2 mv2 R3 g3 kp3 => ?_⟩
    exact fin s2 L2 es2 ep2 t2 (Moved.trans W.gtrans ((mv.mono wider).then_heap (Nat.le_add_right _ _) fun c o hc e => (sb.2 c fun z => hc (z ▸ .head _)).trans e) mv2) R3 g3 kp3
end
end Kt
set_option Elab.async false
set_option linter.all false
set_option maxRecDepth 100000
set_option maxHeartbeats 4000000
namespace Kt
open PySem PySem.Spec PyProof.Rows L2
section
variable {P : Program} {w : World} {A : Around} {E : Value → Shared → Prop} {s : Shared}
/-- set.__init__ of a list of rows -/
theorem init_rows {l S : Addr} {items : Array Value} (ks : Rw) {Rr : Result → Shared → Prop} (hh : A.handled = none) (hl : s.heap.IsList l items) (hit : items.toList = ks.map fun p => Value.ref p.1) (h0 : Heap) (k0 : Kept h0 s.heap) (noS : h0.get? S = none)
    (tups : ∀ p ∈ ks, IsT P w h0 p.2 p.1) (few : ks.length ≤ 256) (hu : A.in1.in1.units < cLine) (hS : s.heap.get? S = some (newSet w)) (fin : ∀ h' tk L es ep t, Holds P w h' S L es ep t → Got ks ks.length L → Kept h0 h' → Rr (.ok (.ret .none)) { s with heap := h', toks := tk }) :
    wpAny (model P w) A.in1 (Builtin.«set.__init__» ⟨[.ref S, .ref l], []⟩)
      (fun fin s' => match fin with | .done f => Rr (.ok f) s' | .again c' => c'.quiet = true ∧ codeAny (model P w) A c' Rr s') (fun e s' => Rr (.error e) s') s := by
  have size : ks.length = items.size := by
    rw [← Array.length_toList, hit, List.length_map]
  have e0 : A.in1.in1.handled = none := by simp [hh]
  have ty : s.TypeIs (.ref S) "set" := ⟨_, hS, rfl⟩
  obtain ⟨⟨ocls, odict, odata, oslots⟩, hol, hc, nl, hd⟩ := id hl
  simp only at hc hd
  subst hc hd
  have no1 := F.sub_list_set
  have no2 := F.sub_list_frozenset
  have no3 : (Value.type "list" == Value.type "dict") = false := beq_eq_false_iff_ne.mpr (by decide)
  unfold Builtin.«set.__init__» Builtin.Frozenset.updateFrom
  unfold noKeywords
  generalize it : pyIter = IT
  wp_walk
  subst it
  refine wpAny_pyIter_list hl ?_
  refine wpAny_bind (wpAny_runValue ?_)
  have lS : S < s.heap.objs.size := Heap.lt_size hS
  have ll : l < s.heap.objs.size := Heap.lt_size hol
  have Sl : S ≠ l := fun z => by
    rw [z, hol] at hS
    have e2 := congrArg Obj.cls (Option.some.inj hS)
    injection e2 with e2
    exact absurd e2 (by decide)
  have out : S ∉ [s.heap.objs.size, l] := by
    rw [List.mem_cons, List.mem_singleton]
    exact fun z => z.elim (Nat.ne_of_lt lS) Sl
  have fresh : ∀ b, s.heap.objs.size ≤ b → h0.get? b = none := fun b hb => Option.eq_none_iff_forall_ne_some.mpr fun o e => by
    exact Nat.lt_irrefl _ (Nat.lt_of_lt_of_le (Heap.lt_size (k0 b o e)) hb)
  have vals : ∀ (i : Nat) (v : Value), items[i]? = some v → ∃ p, ks[i]? = some p ∧ v = .ref p.1 := fun i v hv => by
    rw [← Array.getElem?_toList, hit, List.getElem?_map] at hv
    obtain ⟨p, hp, e⟩ := Option.map_eq_some_iff.mp hv
    exact ⟨p, hp, e.symm⟩
  refine fill_up (A := A.in1) (Walks.list e0 s.heap.objs.size l (Nat.ne_of_lt ll) items).toS out ks size (by rw [← size]; exact few) vals h0 tups noS (fun b hb => fresh b (by rw [List.mem_singleton.mp hb]; exact Nat.le_refl _)) hu items.size 0 _ (Nat.zero_add _) ⟨⟨_, Heap.get?_push_size _ rfl, rfl, rfl⟩, hl.push _⟩
    (fun b o e => Heap.get?_push_of_some _ (k0 b o e)) ⟨[], #[], 0, _, holds_new (Heap.get?_push_of_some _ hS), Got.zero ks⟩ fun s' L es ep t mv R g kp => ?_
  refine wpAny_pure ?_
  show wpAny _ _ (ret Value.none) _ _ _
  rw [← size] at g
  have e := Moved.eq_with mv
  rw [e]
  exact wpAny_pure (fin s'.heap s'.toks L es ep t R g kp)
set_option maxRecDepth 100000 in
set_option maxHeartbeats 3200000 in
/-- set(a list of rows) -/
theorem set_rows {l : Addr} {items : Array Value} (ks : Rw) {Q : Value → Shared → Prop} (hh : A.handled = none) (hl : s.heap.IsList l items) (hit : items.toList = ks.map fun p => Value.ref p.1) (tups : ∀ p ∈ ks, IsT P w s.heap p.2 p.1)
    (few : ks.length ≤ 256) (hu : A.units + 3 < cLine) (q : ∀ h' tk L es ep t, Holds P w h' s.heap.objs.size L es ep t → Got ks ks.length L → Kept s.heap h' → Q (.ref s.heap.objs.size) { s with heap := h', toks := tk }) :
    wpAny (model P w) A (call (.type "set") [.ref l]) Q E s := by
  have ct := F.typeCall_set_1 (.ref l)
  have can := F.called_set.canCreate
  have nty := F.called_set.notType
  have made := F.called_set.made
  have sub := F.called_set.sub
  have li := F.called_set.init.lookup
  obtain ⟨c, tl, mro⟩ := F.called_set.mro
  refine wpAny_call (codeAny_of_tree ?_)
  show wpAny _ _ (callAny (.type "set") _) _ _ _
  refine wpAny_pure ⟨Code.quiet_builtin _ (by decide +kernel), codeAny_builtin F.entry_type_call ?_⟩
  rw [Around.under_plain (weight_type_call_type "set" [.ref l] []) rfl]
  repeat (any_goals (first | assumption | wp_step))
  refine codeAny_mono (code_set_led1 (.ref l) (E := E) (Q₁ := fun x t => x = .ref s.heap.objs.size ∧ t = { s with heap := s.heap.push (newSet w) }) ⟨rfl, rfl⟩) ?_
  rintro (e | fl) s1 hr
  · exact hr
  · cases fl with
    | ret x =>
      obtain ⟨rfl, rfl⟩ := hr
      have hS : (s.heap.push (newSet w)).get? s.heap.objs.size = some (newSet w) := Heap.get?_push_size _ rfl
      have bi := F.called_set.init.bind (.ref s.heap.objs.size)
      have ty : Shared.TypeIs { s with heap := s.heap.push (newSet w) } (.ref s.heap.objs.size) "set" := ⟨_, hS, rfl⟩
      repeat (any_goals (first | assumption | wp_step))
      refine codeAny_mono (codeAny_call_builtin (R := wants (fun r z => r = .none ∧ ∃ h' tk L es ep tb, z = { s with heap := h', toks := tk } ∧ Holds P w h' s.heap.objs.size L es ep tb ∧ Got ks ks.length L ∧ Kept s.heap h') E) F.called_set.init.plain F.entry_set_init (check_set_init_1 ty ?_)) ?_
      · refine init_rows (A := A.in1) ks (by simp [hh]) (hl.push _) hit s.heap (fun b o e => Heap.get?_push_of_some _ e) ?_ tups few hu hS fun h' tk L es ep t R g kp => ⟨rfl, h', tk, L, es, ep, t, rfl, R, g, kp⟩
        exact Option.eq_none_iff_forall_ne_some.mpr fun o e => Nat.lt_irrefl _ (Heap.lt_size e)
      · rintro (e | fl2) s2 hr2
        · exact hr2
        · cases fl2 with
          | ret r =>
            obtain ⟨rfl, h', tk, L, es, ep, t, rfl, R, g, kp⟩ := hr2
            repeat (any_goals (first | assumption | wp_step))
            exact q _ _ _ _ _ _ R g kp
          | _ => exact hr2.elim
    | _ => exact hr.elim
end
end Kt
set_option Elab.async false
set_option linter.all false
set_option maxRecDepth 100000
set_option maxHeartbeats 4000000
namespace Kt
open PySem PySem.Spec PyProof.Rows L2
/-- a list that is a shuffled image is the image of a shuffled list -/
theorem perm_pull {α β : Type} {f : α → β} {L M : List β} (h : L.Perm M) : ∀ ks : List α, M = ks.map f → ∃ ks' : List α, ks'.Perm ks ∧ L = ks'.map f := by
  induction h with
  | nil => exact fun ks e => ⟨ks, List.Perm.refl _, e⟩
  | cons x _ ih =>
    intro ks e
    cases ks with
    | nil => cases e
    | cons k ks =>
      rw [List.map_cons] at e
      injection e with e1 e2
      obtain ⟨ks', p, e3⟩ := ih ks e2
      exact ⟨k :: ks', p.cons k, by rw [List.map_cons, ← e1, ← e3]⟩
  | swap x y l =>
    intro ks e
    match ks, e with
    | a :: b :: ks, e =>
      rw [List.map_cons, List.map_cons] at e
      injection e with e1 e2
      injection e2 with e2 e3
      exact ⟨b :: a :: ks, List.Perm.swap .., by rw [List.map_cons, List.map_cons, ← e1, ← e2, ← e3]⟩
  | trans _ _ ih1 ih2 =>
    intro ks e
    obtain ⟨k2, p2, e2⟩ := ih2 ks e
    obtain ⟨k1, p1, e1⟩ := ih1 k2 e2
    exact ⟨k1, p1.trans p2, e1⟩
def allInt : Nat → Bool := fun _ => false
def keyI (k : List Int) : List (Int ⊕ List Nat) := k.map Sum.inl
theorem items_key : ∀ {vs : List Value} {k : List Int} (i : Nat), IntsAre vs k → tupItems allInt i vs = some (keyI k)
  | _, _, _, .nil => rfl
  | _, _, i, .cons n t r => by
    show (if allInt i = true then none else (tupItems allInt (i + 1) _).map (Sum.inl n :: ·)) = _
    rw [if_neg (show ¬ allInt i = true from Bool.false_ne_true), items_key (i + 1) r]
    rfl
section
variable {P : Program} {w : World} {A : Around} {E : Value → Shared → Prop} {s : Shared}
theorem key_of {h : Heap} {k : List Int} {b : Addr} (x : IsT P w h k b) : G.tupKeyC h allInt (.ref b) = some (keyI k) := by
  obtain ⟨o, its, n, ho, hc, hd, hi⟩ := x
  have e : G.isTupObj h (.ref b) = true := by
    unfold G.isTupObj
    simp only [ho, hc]
    exact beq_self_eq_true _
  unfold G.tupKeyC tupKey
  rw [if_pos e]
  simp only [ho, hd]
  exact items_key 0 (ints_of_items hi)
theorem tups_of {h : Heap} : ∀ L : Rw, (∀ p ∈ L, IsT P w h p.2 p.1 ∧ p.2 ≠ []) → ∃ fs, TupsOf h allInt (L.map fun p => Value.ref p.1) fs
  | [], _ => ⟨[], .nil⟩
  | p :: L, q => by
    obtain ⟨fs, ih⟩ := tups_of L fun r hr => q r (.tail _ hr)
    obtain ⟨⟨o, its, n, ho, hc, hd, hi⟩, ne⟩ := q p (.head _)
    have hi := ints_of_items hi
    generalize hk : p.2 = k at hi ne
    cases k with
    | nil => exact absurd rfl ne
    | cons j k =>
      obtain ⟨t, vs, e⟩ : ∃ t vs, its.toList = Value.int j t :: vs := by
        generalize its.toList = l at hi
        cases hi with
        | cons _ t r => exact ⟨t, _, rfl⟩
      have first : its[0]? = some (Value.int j t) := by rw [← Array.getElem?_toList, e]; rfl
      exact ⟨_, .cons ⟨p.1, o, its, n, rfl, ho, hc, hd, first, fun _ => ⟨j, t, rfl⟩, fun z => (by cases z)⟩ ih⟩
abbrev ordR : KeyOrd := listOrd itemOrd
/-- sorted(the set): its rows in order -/
theorem sort_rows {a : Addr} {L : Rw} {es : Array (Int × Value)} {ep : Nat} {t : SetTable} {Q : Value → Shared → Prop} (R : Holds P w s.heap a L es ep t) (hh : A.handled = none) (ne : ∀ p ∈ L, p.2 ≠ [])
    (q : ∀ s' p (out : Array Value) (c : Nat) (L' : Rw), Kept s.heap s'.heap → s'.gens = s.gens → s'.os = s.os → s.heap.objs.size ≤ p → s'.heap.get? p = some (seqObj "list" out c) → out.toList = L'.map (fun q => Value.ref q.1) → L'.Perm L → L'.Pairwise (fun x y => ordR.blt (keyI y.2) (keyI x.2) = false) → Q (.ref p) s') :
    wpAny (model P w) A (call (.builtin "sorted") [.ref a]) Q E s := by
  obtain ⟨o, ho, hex, hd⟩ := R.obj
  have few := R.few
  have len := rows_len R.rows
  refine Calls.call_function_entry kind_sorted plain_sorted entry_sorted (args_sorted1 _) ?_
  unfold Builtin.«sorted»
  refine wpAny_bind (m := checkCount "sorted" 1 1 _) (wpAny_pure ?_)
  refine wpAny_bind (collect_set (A := A.in1) hh ⟨o, ho, hex.1, hd⟩ R.fits (by unfold scanBound; omega) R.seats.order R.led ?_)
  intro s1 vs k1 grow g1 o1 pm
  have er : es.toList.map (·.2) = L.map fun p => Value.ref p.1 := by
    rw [R.rows]
    show (L.map _).map _ = _
    rw [List.map_map]
    rfl
  rw [er] at pm
  obtain ⟨L1, pm1, rfl⟩ := perm_pull pm L rfl
  have l1 := pm1.length_eq
  refine wpAny_bind (wpAny_newList ?_ (by rw [List.length_map, sizeLine_eq]; omega))
  have hL : (s1.heap.push (seqObj "list" (L1.map fun p => Value.ref p.1).toArray 0)).get? s1.heap.objs.size = some (seqObj "list" (L1.map fun p => Value.ref p.1).toArray 0) := Heap.get?_push_size _ rfl
  have tup : ∀ p ∈ L1, IsT P w (s1.heap.push (seqObj "list" (L1.map fun p => Value.ref p.1).toArray 0)) p.2 p.1 := fun p hp => isT_keep (R.tups p (pm1.mem_iff.mp hp)) fun b u e => Heap.get?_push_of_some _ (k1 b u e)
  obtain ⟨fs, tf⟩ := tups_of (P := P) (w := w) L1 fun p hp => ⟨tup p hp, ne p (pm1.mem_iff.mp hp)⟩
  have hk : ∀ v, v ∈ (L1.map fun p => Value.ref p.1) → ∃ l, G.tupKeyC (s1.heap.push (seqObj "list" (L1.map fun p => Value.ref p.1).toArray 0)) allInt v = some l := fun v hv => by
    obtain ⟨p, hp, rfl⟩ := List.mem_map.mp hv
    exact ⟨_, key_of (tup p hp)⟩
  refine wpAny_bind (wpAny_holding (wpAny_call_entry slot_list_sort ⟨_, hL, rfl⟩ entry_list_sort (G.list_sort_tups (s := { s1 with heap := s1.heap.push (seqObj "list" (L1.map fun p => Value.ref p.1).toArray 0) }) hL tf hk (by rw [List.length_map, sizeLine_eq]; omega) fun st' a1 a2 _ => ⟨_, rfl, ?_⟩) (args_list_sort _)))
  have a3 := Array.perm_iff_toList_perm.mp a1
  rw [pairsOf_toList, List.zip_map, List.zip_eq_zipWith, List.zipWith_self, List.map_map] at a3
  obtain ⟨L2, pm2, e2⟩ := perm_pull a3 L1 rfl
  have out : ((arrOf st').map (·.2)).toList = L2.map fun p => Value.ref p.1 := by
    rw [Array.toList_map, e2, List.map_map]
    rfl
  have pw := keyLe_of_sorted (KeysOf.perm (G.tupKeys hk) a1) (by rw [a1.size_eq]; exact a2)
  rw [e2, List.pairwise_map] at pw
  have pw2 : L2.Pairwise (fun x y => ordR.blt (keyI y.2) (keyI x.2) = false) := by
    refine List.Pairwise.imp_of_mem ?_ pw
    rintro x y hx hy ⟨kx, ky, ex, ey, le⟩
    have ex := Option.some.inj ((key_of (tup x (pm2.mem_iff.mp hx))).symm.trans ex)
    have ey := Option.some.inj ((key_of (tup y (pm2.mem_iff.mp hy))).symm.trans ey)
    subst ex ey
    exact le
  obtain ⟨c, hc⟩ := sortedHeap_at (vs := L1.map fun p => Value.ref p.1) (out := (arrOf st').map (·.2)) hL
  refine wpAny_pure ⟨_, rfl, q _ s1.heap.objs.size _ c L2 (fun b u e => ?_) g1 o1 grow hc out (pm2.trans pm1) pw2⟩
  have lt := Heap.lt_size (k1 b u e)
  show (sortedHeap _ s1.heap.objs.size _ _).get? b = some u
  rw [sortedHeap_old (Nat.ne_of_lt lt) (by rw [size_push']; exact Nat.lt_succ_of_lt lt)]
  exact Heap.get?_push_of_some _ (k1 b u e)
end
end Kt
set_option Elab.async false
set_option linter.all false
set_option maxRecDepth 100000
set_option maxHeartbeats 4000000
namespace Kb
open PySem PySem.Spec PyProof.Rows L2
/-! ### the order of rows -/
def rowKey (r : List V) : List (Int ⊕ List Nat) := r.map fun v => match v with
  | .int i => Sum.inl i
  | _ => Sum.inr []
abbrev rowO : KeyOrd := listOrd itemOrd
def rowLt (a b : List V) : Prop := rowO.blt (rowKey a) (rowKey b) = true
def Ints (r : List V) : Prop := ∀ v ∈ r, ∃ i : Int, v = .int i
theorem isRow.ints {n m : Nat} {r : List V} (h : isRow n m r) : Ints r := fun v hv => by
  obtain ⟨i, e, _⟩ := h.2 v hv
  exact ⟨i, e⟩
theorem rowKey_inj : ∀ {a b : List V}, Ints a → Ints b → rowKey a = rowKey b → a = b
  | [], [], _, _, _ => rfl
  | [], _ :: _, _, _, h => by cases h
  | _ :: _, [], _, _, h => by cases h
  | x :: a, y :: b, ha, hb, h => by
    obtain ⟨i, rfl⟩ := ha x (List.mem_cons_self ..)
    obtain ⟨j, rfl⟩ := hb y (List.mem_cons_self ..)
    have h2 : (Sum.inl i :: rowKey a : List (Int ⊕ List Nat)) = Sum.inl j :: rowKey b := h
    injection h2 with e1 e2
    injection e1 with e1
    rw [e1, rowKey_inj (fun v hv => ha v (List.mem_cons_of_mem _ hv)) (fun v hv => hb v (List.mem_cons_of_mem _ hv)) e2]
theorem rowLt_irrefl (a : List V) : ¬ rowLt a a := by
  unfold rowLt
  rw [rowO.irrefl]
  decide
theorem rowLt_trans {a b c : List V} (h : rowLt a b) (k : rowLt b c) : rowLt a c := rowO.trans _ _ _ h k
theorem rowLt_total {a b : List V} (ha : Ints a) (hb : Ints b) (h : ¬ rowLt a b) (k : ¬ rowLt b a) : a = b :=
  rowKey_inj ha hb (rowO.total _ _ (by unfold rowLt at h; simpa using h) (by unfold rowLt at k; simpa using k))
/-- strictly ascending -/
abbrev AscS (l : List (List V)) : Prop := l.Pairwise rowLt
theorem AscS.nodup {l : List (List V)} (h : AscS l) : l.Nodup := List.Pairwise.imp (S := fun a b => a ≠ b) (fun {a b} h e => by
  subst e
  exact rowLt_irrefl a h) h
/-- only one list ascends through the same rows -/
theorem asc_one : ∀ {a b : List (List V)}, AscS a → AscS b → (∀ r, r ∈ a ↔ r ∈ b) → a = b
  | [], [], _, _, _ => rfl
  | [], y :: b, _, _, h => absurd ((h y).mpr (List.mem_cons_self ..)) (by simp)
  | x :: a, [], _, _, h => absurd ((h x).mp (List.mem_cons_self ..)) (by simp)
  | x :: a, y :: b, ha, hb, h => by
    obtain ⟨a1, a2⟩ := List.pairwise_cons.mp ha
    obtain ⟨b1, b2⟩ := List.pairwise_cons.mp hb
    have e : x = y := by
      rcases List.mem_cons.mp ((h x).mp (List.mem_cons_self ..)) with e | h1
      · exact e
      · rcases List.mem_cons.mp ((h y).mpr (List.mem_cons_self ..)) with e | h2
        · exact e.symm
        · exact absurd (rowLt_trans (a1 y h2) (b1 x h1)) (rowLt_irrefl x)
    subst e
    congr 1
    refine asc_one a2 b2 fun r => ⟨fun hr => ?_, fun hr => ?_⟩
    · rcases List.mem_cons.mp ((h r).mp (List.mem_cons_of_mem _ hr)) with e | h1
      · exact absurd (a1 r hr) (by rw [e]; exact rowLt_irrefl x)
      · exact h1
    · rcases List.mem_cons.mp ((h r).mpr (List.mem_cons_of_mem _ hr)) with e | h1
      · exact absurd (b1 r hr) (by rw [e]; exact rowLt_irrefl x)
      · exact h1
/-- rows of one length, at least one -/
def Rows (n : Nat) (ks : Ks) : Prop := ∀ p ∈ ks, p.2.length = n ∧ Ints p.2
/-! ### sorted, set -/
def rSrt (K : PySem.W.Frag) : List V → Hp → VK → Prop := fun vs H Q => ∃ (l : Addr) (ks : Ks) (n : Nat), vs = [.ref l] ∧ H l = some (.lst (refs ks)) ∧ Tups H ks ∧ 1 ≤ n ∧ Rows n ks ∧ ks.length ≤ 5000 ∧
  ∀ (p : Addr) (ks' : Ks), ks'.Perm ks → ks'.Pairwise (fun a b => ¬ rowLt b.2 a.2) → H p = none → Q (.ref p) (L2.upd H p (.lst (refs ks')))
/-- a list that is a shuffled image is the image of a shuffled list -/
theorem perm_pull {α β : Type} {f : α → β} {L M : List β} (h : L.Perm M) : ∀ ks : List α, M = ks.map f → ∃ ks' : List α, ks'.Perm ks ∧ L = ks'.map f := by
  induction h with
  | nil => exact fun ks e => ⟨ks, List.Perm.refl _, e⟩
  | cons x _ ih =>
    intro ks e
    cases ks with
    | nil => cases e
    | cons k ks =>
      rw [List.map_cons] at e
      injection e with e1 e2
      obtain ⟨ks', p, e3⟩ := ih ks e2
      exact ⟨k :: ks', p.cons k, by rw [List.map_cons, ← e1, ← e3]⟩
  | swap x y l =>
    intro ks e
    match ks, e with
    | a :: b :: ks, e =>
      rw [List.map_cons, List.map_cons] at e
      injection e with e1 e2
      injection e2 with e2 e3
      exact ⟨b :: a :: ks, List.Perm.swap .., by rw [List.map_cons, List.map_cons, ← e1, ← e2, ← e3]⟩
  | trans _ _ ih1 ih2 =>
    intro ks e
    obtain ⟨k2, p2, e2⟩ := ih2 ks e
    obtain ⟨k1, p1, e1⟩ := ih1 k2 e2
    exact ⟨k1, p1.trans p2, e1⟩
def noStr : Nat → Bool := fun _ => false
/-- the values of a row give its key -/
theorem key_items : ∀ {r : List V} {us : List Value} (i : Nat), Vals r us → Ints r → tupItems noStr i us = some (rowKey r)
  | _, _, _, .nil, _ => rfl
  | v :: r, u :: us, i, .cons a b, h => by
    obtain ⟨j, rfl⟩ := h v (List.mem_cons_self ..)
    obtain ⟨t, rfl⟩ := a
    have ih := key_items (i + 1) b fun v hv => h v (List.mem_cons_of_mem _ hv)
    show (if noStr i = true then none else (tupItems noStr (i + 1) us).map (Sum.inl j :: ·)) = _
    rw [if_neg (show ¬ noStr i = true from Bool.false_ne_true), ih]
    rfl
section
variable {X : Cx} {pins : List (Addr × Obj)} {σ : L2.St} {H : Hp} {s : Shared}
theorem row_obj (I : Inv X pins σ H s) {p : Addr × List V} (h : H p.1 = some (.tup p.2)) : ∃ its o n, Vals p.2 its ∧ s.heap.get? p.1 = some o ∧ o.cls = .type "tuple" ∧ o.data = .seq its.toArray n := by
  obtain ⟨_, its, r, o, ho, hc, n, hd⟩ := I.hok _ _ h
  exact ⟨its, o, n, r, ho, hc, hd⟩
theorem row_key (I : Inv X pins σ H s) {p : Addr × List V} (h : H p.1 = some (.tup p.2)) (hi : Ints p.2) : G.tupKeyC s.heap noStr (.ref p.1) = some (rowKey p.2) := by
  obtain ⟨its, o, n, r, ho, hc, hd⟩ := row_obj I h
  have e : G.isTupObj s.heap (.ref p.1) = true := by
    unfold G.isTupObj
    simp only [ho, hc]
    exact beq_self_eq_true _
  unfold G.tupKeyC
  rw [if_pos e]
  unfold tupKey
  simp only [ho, hd]
  exact key_items 0 r hi
theorem rows_of (I : Inv X pins σ H s) : ∀ {ks : Ks} {n : Nat}, Tups H ks → 1 ≤ n → Rows n ks → ∃ fs, TupsOf s.heap noStr (ks.map fun p => Value.ref p.1) fs
  | [], _, _, _, _ => ⟨[], .nil⟩
  | p :: ks, n, T, n1, R => by
    obtain ⟨fs, h⟩ := rows_of I (ks := ks) (fun q hq => T q (List.mem_cons_of_mem _ hq)) n1 fun q hq => R q (List.mem_cons_of_mem _ hq)
    obtain ⟨its, o, k, r, ho, hc, hd⟩ := row_obj I (T p (List.mem_cons_self ..))
    obtain ⟨hl, hi⟩ := R p (List.mem_cons_self ..)
    generalize hp : p.2 = row at r hl hi
    cases r with
    | nil => simp at hl; omega
    | @cons v u vs us a b =>
      obtain ⟨j, rfl⟩ := hi v (List.mem_cons_self ..)
      obtain ⟨t, rfl⟩ := a
      exact ⟨_, .cons ⟨p.1, o, _, k, rfl, ho, hc, hd, rfl, fun _ => ⟨j, t, rfl⟩, fun z => (by cases z)⟩ h⟩
theorem vals_refs : ∀ {ks : Ks} {us : List Value}, Vals (refs ks) us → us = ks.map fun p => Value.ref p.1
  | [], _, .nil => rfl
  | p :: ks, _, .cons a b => by
    have a : _ = _ := a
    rw [List.map_cons, ← vals_refs b, a]
theorem refs_vals : ∀ ks : Ks, Vals (refs ks) (ks.map fun p => Value.ref p.1)
  | [] => .nil
  | p :: ks => .cons (show RelV (.ref p.1) (.ref p.1) from rfl) (refs_vals ks)
end
theorem k_srt {X : Cx} (K : PySem.W.Frag) (h : X.K = K := by rfl) : CallR X (.builtin "sorted") (rSrt K) := by
  intro pins s σ H vs us Q I r hh
  obtain ⟨l, ks, n, rfl, hl, T, n1, R, hlen, q⟩ := hh
  obtain ⟨its, rv, hp, hz⟩ := I.list (SqL.of hl)
  obtain ⟨u, rfl, ru⟩ := vals1 r
  obtain rfl : u = Value.ref l := ru
  have ei := vals_refs rv
  subst ei
  obtain ⟨fs, tf⟩ := rows_of I T n1 R
  have hk : ∀ v, v ∈ (ks.map fun p => Value.ref p.1) → ∃ l, G.tupKeyC s.heap noStr v = some l := fun v hv => by
    obtain ⟨p, hp, rfl⟩ := List.mem_map.mp hv
    exact ⟨_, row_key I (T p hp) (R p hp).2⟩
  refine G.sorted_tups hp.isList tf hk (by rw [List.length_map, ← refs_len]; exact hz) fun st' a1 a2 _ => ?_
  have a3 := Array.perm_iff_toList_perm.mp a1
  rw [pairsOf_toList] at a3
  have ez : (ks.map fun p => Value.ref p.1).zip (ks.map fun p => Value.ref p.1) = ks.map fun p => ((Value.ref p.1, Value.ref p.1) : Value × Value) := by
    rw [List.zip_map, List.zip_eq_zipWith, List.zipWith_self]
    simp
  rw [ez] at a3
  obtain ⟨ks', pm, e⟩ := perm_pull a3 ks rfl
  have eo : ((arrOf st').map (·.2)).toList = ks'.map fun p => Value.ref p.1 := by
    rw [Array.toList_map, e, List.map_map]
    rfl
  have pw := keyLe_of_sorted (KeysOf.perm (G.tupKeys hk) a1) (by rw [a1.size_eq]; exact a2)
  rw [e, List.pairwise_map] at pw
  have pw2 : ks'.Pairwise (fun a b => ¬ rowLt b.2 a.2) := by
    refine List.Pairwise.imp_of_mem ?_ pw
    rintro a b ha hb ⟨x, y, hx, hy, hxy⟩
    have hx := Option.some.inj ((row_key I (T a (pm.mem_iff.mp ha)) (R a (pm.mem_iff.mp ha)).2).symm.trans hx)
    have hy := Option.some.inj ((row_key I (T b (pm.mem_iff.mp hb)) (R b (pm.mem_iff.mp hb)).2).symm.trans hy)
    subst hx hy
    intro z
    have z2 : rowO.blt (rowKey b.2) (rowKey a.2) = false := hxy
    unfold rowLt at z
    rw [z2] at z
    cases z
  obtain ⟨e2, hn⟩ := sortedAll_at s.heap (ks.map fun p => Value.ref p.1) ((arrOf st').map (·.2))
  refine ⟨.ref (s.heap.objs.size + 1), upd H (s.heap.objs.size + 1) (.lst (refs ks')), I.laid (t' := s.toks) (fun b o => sortedAll_old) (Nat.le_succ _) ⟨?_, _, e2, refs_vals ks', by rw [← eo]; exact hn⟩, rfl, q _ ks' pm pw2 (I.hok.fresh (Nat.le_succ _))⟩
  rw [refs_len, pm.length_eq, ← refs_len]
  exact hz
def tSortSet (te : TE) : TE := fun σ H Q => te σ H fun x H1 => ∃ (l : Addr) (ks : Ks) (n : Nat), x = .ref l ∧ H1 l = some (.lst (refs ks)) ∧ Tups H1 ks ∧ 1 ≤ n ∧ Rows n ks ∧ ks.length ≤ 256 ∧
  ∀ (p : Addr) (ks' : Ks), (∀ q ∈ ks', q ∈ ks) → (∀ q ∈ ks, q.2 ∈ ks'.map (·.2)) → AscS (ks'.map (·.2)) → H1 p = none → Q (.ref p) (L2.upd H1 p (.lst (refs ks')))
/-- sorted, and no two alike: strictly ascending -/
theorem asc_of : ∀ {ks : Ks}, ks.Pairwise (fun a b => ¬ rowLt b.2 a.2) → (ks.map (·.2)).Nodup → (∀ p ∈ ks, Ints p.2) → AscS (ks.map (·.2))
  | [], _, _, _ => .nil
  | p :: ks, h, n, hi => by
    obtain ⟨h1, h2⟩ := List.pairwise_cons.mp h
    obtain ⟨n1, n2⟩ := List.nodup_cons.mp (show (p.2 :: ks.map (·.2)).Nodup from n)
    refine List.pairwise_cons.mpr ⟨fun r hr => ?_, asc_of h2 n2 fun q hq => hi q (List.mem_cons_of_mem _ hq)⟩
    obtain ⟨q, hq, rfl⟩ := List.mem_map.mp hr
    apply Classical.byContradiction
    intro no
    exact n1 (by
      have e : p.2 = q.2 := rowLt_total (hi p (List.mem_cons_self ..)) (hi q (List.mem_cons_of_mem _ hq)) no (h1 q hq)
      rw [e]
      exact hr)
/-- a row's numbers -/
def intOf : V → Int
  | .int i => i
  | _ => 0
def rowI (p : Addr × List V) : Addr × List Int := (p.1, p.2.map intOf)
theorem row_ints {r : List V} (h : Ints r) : (r.map intOf).map V.int = r := by
  rw [List.map_map]
  conv => rhs; rw [← List.map_id r]
  refine List.map_congr_left fun v hv => ?_
  obtain ⟨i, rfl⟩ := h v hv
  rfl
theorem key_ints {r : List V} (h : Ints r) : rowKey r = Kt.keyI (r.map intOf) := by
  conv => lhs; rw [← row_ints h]
  show ((r.map intOf).map V.int).map _ = (r.map intOf).map Sum.inl
  rw [List.map_map]
  rfl
/-- rows that stand for some of these -/
theorem pull_rows {ks : Ks} : ∀ {L : List (Addr × List Int)}, (∀ q ∈ L, q ∈ ks.map rowI) → ∃ js : Ks, L = js.map rowI ∧ ∀ q ∈ js, q ∈ ks
  | [], _ => ⟨[], rfl, fun q hq => (by cases hq)⟩
  | q :: L, h => by
    obtain ⟨js, e, s⟩ := pull_rows (L := L) fun r hr => h r (.tail _ hr)
    obtain ⟨r, hr, rfl⟩ := List.mem_map.mp (h q (.head _))
    refine ⟨r :: js, by rw [e]; rfl, fun x hx => ?_⟩
    rcases List.mem_cons.mp hx with rfl | hx
    · exact hr
    · exact s x hx
theorem rows_refs (ks : Ks) : (ks.map rowI).map (fun p => Value.ref p.1) = ks.map fun p => Value.ref p.1 := by
  rw [List.map_map]
  rfl
theorem pe_sortSet {X : Cx} {a : Expr} {te : TE} {p p2 q pos : Pos} (hc : X.calm = true) (hu : X.A.units + 64 < cLine) (hg : Gl X "sorted") (hm : X.mg "sorted" = none) (hg2 : Gl X "set") (hm2 : X.mg "set" = none) (ha : PE X a te)
    (na : starEach [a] X.env = (false, eval a X.env) :: starEach [] X.env := by rfl) : PE X (.Call (.Name "sorted" p) [.Call (.Name "set" p2) [a] [] q] [] pos) (tSortSet te) := by
  refine ⟨fun pins s σ H Q I h => ?_⟩
  refine Call_ (ld_blt I hg hm b_sorted ?_)
  refine PyProof.Rows.callWith_builtin1 (PyProof.Rows.args_cons (Call_ (ld_blt I hg2 hm2 PyProof.Rows.boot_set ?_)) rfl) rfl rfl
  refine PyProof.Rows.callWith_type1 (PyProof.Rows.args_cons (thn (ha.run pins s σ H _ I h) ?_) na) na rfl
  rintro v s1 ⟨x, H1, I1, r1, l, ks, n, rfl, hl, T, n1, R, hlen, q1⟩
  obtain rfl : v = Value.ref l := r1
  obtain ⟨its, rv, pl, hz⟩ := I1.list (SqL.of hl)
  have ei := vals_refs rv
  subst ei
  have rint : ∀ p ∈ ks, Ints p.2 := fun p hp => (R p hp).2
  have tup : ∀ p ∈ ks.map rowI, IsT X.prog X.w s1.heap p.2 p.1 := fun p hp => by
    obtain ⟨r, hr, rfl⟩ := List.mem_map.mp hp
    refine I1.isT (SqT.of ?_)
    show H1 r.1 = some (.tup ((r.2.map intOf).map V.int))
    rw [row_ints (rint r hr)]
    exact T r hr
  refine PyProof.Rows.args_nil (Kt.set_rows (ks.map rowI) (I1.ok.hd hc) pl.isList (by rw [rows_refs]) tup (by rw [List.length_map]; exact hlen) (by omega) fun h' tk L es ep t Rh g kp => ?_)
  have I2 : Inv X pins σ H1 { s1 with heap := h', toks := tk } := I1.kept kp
  have sub : ∀ p ∈ L, p ∈ ks.map rowI := fun p hp => List.mem_of_mem_take (g.sub p hp)
  have ne : ∀ p ∈ L, p.2 ≠ [] := fun p hp => by
    obtain ⟨r, hr, rfl⟩ := List.mem_map.mp (sub p hp)
    intro z
    have z := congrArg List.length z
    have : r.2.length = 0 := by simpa [rowI] using z
    have := (R r hr).1
    omega
  refine PyProof.Rows.args_nil (Kt.sort_rows (s := { s1 with heap := h', toks := tk }) Rh (I2.ok.hd hc) ne fun s' o out c L' k g' o' ho hout eout pm pw => ?_)
  obtain ⟨js, rfl, sj⟩ := pull_rows (ks := ks) fun q hq => sub q (pm.mem_iff.mp hq)
  rw [rows_refs] at eout
  have jl : js.length ≤ 256 := by
    have e := pm.length_eq
    rw [List.length_map] at e
    rw [e]
    exact Rh.few
  have once : (js.map (·.2)).Nodup := by
    have z := (pm.map (·.2)).nodup_iff.mpr Rh.once
    rw [List.map_map] at z
    refine List.Pairwise.of_map (S := fun x y => x ≠ y) (fun r : List V => r.map intOf) (fun a b h e => h (by rw [e])) ?_
    rw [List.map_map]
    exact z
  have asc : AscS (js.map (·.2)) := by
    refine asc_of ?_ once fun q hq => rint q (sj q hq)
    rw [List.pairwise_map] at pw
    refine List.Pairwise.imp_of_mem (fun {x y} hx hy le => ?_) pw
    unfold rowLt
    rw [key_ints (rint x (sj x hx)), key_ints (rint y (sj y hy))]
    intro z
    have le : rowO.blt (Kt.keyI (y.2.map intOf)) (Kt.keyI (x.2.map intOf)) = false := le
    rw [le] at z
    cases z
  have all : ∀ q ∈ ks, q.2 ∈ js.map (·.2) := fun q hq => by
    have z := g.all (rowI q) (by rw [List.take_length]; exact List.mem_map.mpr ⟨q, hq, rfl⟩)
    obtain ⟨r, hr, e⟩ := List.mem_map.mp z
    obtain ⟨j, hj, rfl⟩ := List.mem_map.mp (pm.mem_iff.mpr hr)
    refine List.mem_map.mpr ⟨j, hj, ?_⟩
    have e : j.2.map intOf = q.2.map intOf := e
    rw [← row_ints (rint j (sj j hj)), ← row_ints (rint q hq), e]
  have hn := I2.hok.fresh ho
  have J : Inv X pins σ (upd H1 o (.lst (refs js))) { s1 with heap := s'.heap, gens := s'.gens, drawn := s'.drawn, toks := s'.toks } :=
    Inv.call (s := { s1 with heap := h', toks := tk }) (ch := []) I2 (Un.laid k ho hn) (I2.hok.laid k ho ⟨by rw [refs_len, sizeLine_eq]; omega, out.toList, c, by rw [eout]; exact refs_vals js, hout⟩) (by rw [g']; exact I2.bare) (fun _ z => nomatch z)
  have es' : s' = { s1 with heap := s'.heap, gens := s'.gens, drawn := s'.drawn, toks := s'.toks } := by
    cases s'
    cases s1
    cases o'
    rfl
  rw [es']
  exact ⟨.ref o, _, J, rfl, q1 o js sj all asc hn⟩
/-! ### enumerate -/
theorem forR_enum {K : PySem.W.Frag} {g : TG} {tb : TS} {D : Ends} {σ : L2.St} {H : Hp} {a : Addr} (xs : List V) (Pv : Nat → L2.St → Hp → Prop) (h0 : Pv 0 σ H) (hl : ∀ i σ H, i ≤ xs.length → Pv i σ H → SqL K H a xs)
    (hs : ∀ i x σ H, xs[i]? = some x → Pv i σ H → ∀ t, H t = none → g (.ref t) σ (L2.upd H t (.tup [.int (i : Int), x])) fun σ2 H2 => tb { D with nx := Pv (i + 1), ct := Pv (i + 1), bk := D.nx } σ2 H2) (hd : ∀ σ H, Pv xs.length σ H → D.nx σ H) : ForR g tb D σ (Ite K a) H := by
  refine ⟨fun i m σ H => m = xs.length - i ∧ i ≤ xs.length ∧ Pv i σ H, ⟨xs.length, by simp, Nat.zero_le _, h0⟩, ?_⟩
  rintro i m σ H ⟨rfl, hi, pv⟩
  have here := hl i σ H hi pv
  rcases Nat.lt_or_ge i xs.length with lt | ge
  · refine .inr ⟨⟨xs, xs[i], here, by simp [lt]⟩, Pv (i + 1), fun σ' H' p' => ⟨xs.length - (i + 1), by omega, rfl, lt, p'⟩, fun x H' y => ?_⟩
    obtain ⟨t, z, rfl, ht, rfl, hz⟩ := y
    exact hs i z σ H (hz xs here) pv t ht
  · have e : i = xs.length := Nat.le_antisymm hi ge
    subst e
    exact .inl ⟨⟨xs, here, Nat.le_refl _⟩, hd σ H pv⟩
theorem r_tup2 {K : PySem.W.Frag} {i j : Nat} {t : Addr} {v x : V} {σ σ1 σ2 : L2.St} {H : Hp} {QS : L2.St → Hp → Prop} (h1 : H t = some (.tup [v, x])) (e1 : σ.set i (some v) = σ1) (e2 : σ1.set j (some x) = σ2) (h : QS σ2 H) : gTup K 2 (gCons (gName i) (gCons (gName j) gNil)) (.ref t) σ H QS := by
  subst e1
  subst e2
  exact ⟨t, _, rfl, SqT.of h1, rfl, v, [x], rfl, x, [], rfl, rfl, h⟩
theorem r_enum {K : PySem.W.Frag} {ta : TA} {σ : L2.St} {H : Hp} {R : It → Hp → Prop} (h : ta σ H fun vs H1 => ∃ a xs, vs = [.ref a] ∧ SqL K H1 a xs ∧ R (Ite K a) H1) : iEnum K ta σ H R := h
theorem r_mkO {C : Addr} {sp : Sp} {al : TA} {σ : L2.St} {H : Hp} {Q : XK} (h : al σ H fun vs H1 => vs.length ≤ 1000 ∧ ∀ a, H1 a = none → sp (.ref a :: (vs ++ [])) (L2.upd H1 a (exo a C none)) (fun v H2 => v = .non ∧ ∃ (d : Addr) (fs : List (Str × V)), H2 a = some (exo a C (some d)) ∧ H2 d = some (exd d fs) ∧ H1 d = none ∧ Q (.ref C) (some d) (L2.upd (del H2 a) d (.xd fs))) (fun _ _ _ => False)) : tMkO C sp [] al σ H Q := h
theorem r_callS {sp : Sp} {E : L2.St → XK} {al : TA} {σ : L2.St} {H : Hp} {Q : VK} (h : al σ H fun vs H1 => sp vs H1 Q (E σ)) : tCallS sp E al σ H Q := h
theorem r_sfld {K : PySem.W.Frag} {ta tv : TE} {f : Str} {D : Ends} {σ : L2.St} {H : Hp} (h : tv σ H fun y H1 => ta σ H1 fun x H2 => ∃ a C dx fs, x = .ref a ∧ H2 a = some (.ins C dx fs) ∧ Cls K C ∧ NoAttr K C f ∧ fs.length < 1000 ∧ D.nx σ (L2.upd H2 a (.ins C dx (putF f y fs)))) : sFld K ta tv f D σ H := h
theorem r_fld {K : PySem.W.Frag} {ta : TE} {f : Str} {σ : L2.St} {H : Hp} {Q : VK} (h : ta σ H fun x H1 => ∃ a C dx fs v, x = .ref a ∧ H1 a = some (.ins C dx fs) ∧ Cls K C ∧ NoAttr K C f ∧ fs.lookup f = some v ∧ Q v H1) : tFld K ta f σ H Q := h
theorem r_sortSet {te : TE} {σ : L2.St} {H : Hp} {Q : VK} (h : te σ H fun x H1 => ∃ (l : Addr) (ks : Ks) (n : Nat), x = .ref l ∧ H1 l = some (.lst (refs ks)) ∧ Tups H1 ks ∧ 1 ≤ n ∧ Rows n ks ∧ ks.length ≤ 256 ∧
  ∀ (p : Addr) (ks' : Ks), (∀ q ∈ ks', q ∈ ks) → (∀ q ∈ ks, q.2 ∈ ks'.map (·.2)) → AscS (ks'.map (·.2)) → H1 p = none → Q (.ref p) (L2.upd H1 p (.lst (refs ks')))) : tSortSet te σ H Q := h
/-! ### books -/
structure BookAt (K : PySem.W.Frag) (H : Hp) (o : Addr) (n m : Nat) (ks : Ks) : Prop where
  ex : ∃ dx T, H o = some (.ins (He.ga K "Book") dx [("n", .int (n : Int)), ("m", .int (m : Int)), ("inputs", .ref T)]) ∧ H T = some (.tup (refs ks))
  tups : Tups H ks
  rows : ∀ p ∈ ks, isRow n m p.2
  asc : AscS (ks.map (·.2))
  len : ks.length ≤ 256
  n2 : 2 ≤ n
  n5 : n ≤ 5
  m1 : 1 ≤ m
  m4 : m ≤ 4
theorem BookAt.same {K : PySem.W.Frag} {H H' : Hp} {o : Addr} {n m : Nat} {ks : Ks} (h : BookAt K H o n m ks) (s : L2.Same H H') : BookAt K H' o n m ks := by
  obtain ⟨dx, T, h1, h2⟩ := h.ex
  exact ⟨⟨dx, T, s _ _ h1, s _ _ h2⟩, h.tups.same s, h.rows, h.asc, h.len, h.n2, h.n5, h.m1, h.m4⟩
theorem BookAt.but {K : PySem.W.Frag} {H H' : Hp} {o p q : Addr} {n m : Nat} {ks : Ks} (h : BookAt K H o n m ks) (b : But p H H') (P : Pot H p q) : BookAt K H' o n m ks := by
  obtain ⟨dx, T, h1, h2⟩ := h.ex
  exact ⟨⟨dx, T, b.ins P h1, b.tup P h2⟩, h.tups.but b P, h.rows, h.asc, h.len, h.n2, h.n5, h.m1, h.m4⟩
/-- the inputs as Book is handed them: a list of things, or no such list -/
def Inp (H : Hp) (x : V) : Option (List Th) → Prop
  | none => (atomV x = true) ∨ ∃ (a : Addr) (xs : List V), x = .ref a ∧ (H a = some (.lst xs) ∨ H a = some (.tup xs)) ∧ 256 < xs.length ∧ xs.length ≤ 100000
  | some ths => ∃ (a : Addr) (xs : List V), x = .ref a ∧ H a = some (.lst xs) ∧ xs.length ≤ 256 ∧ xs.length = ths.length ∧ ∀ (i : Nat) (y : V) (th : Th), xs[i]? = some y → ths[i]? = some th → Is H y th
def Th.ys : Th → List V
  | .sq _ _ ys => ys
  | .at _ => []
/-- the first thing that is no entry -/
def badIn (n m : Nat) (ths : List Th) : Option Nat := badAt (fun th => (Th.bad (okE m) n th).isNone) ths
/-- what Book(hx, vx, ..) answers, if it refuses -/
def verdict (hx vx : V) (inp : Option (List Th)) : Option (Str × Nat) :=
  if wholeB hx (some 2) (some 5) = false then some ("houses", 0)
  else if wholeB vx (some 1) (some 4) = false then some ("values", 0)
  else match inp, hx, vx with
    | some ths, .int n, .int m => (badIn n.toNat m.toNat ths).map fun i => ("input", i)
    | _, _, _ => some ("many", 0)
theorem whole_at {x : V} {lo hi : Nat} (h : wholeB x (some (lo : Int)) (some (hi : Int)) = true) : ∃ n : Nat, x = .int (n : Int) ∧ lo ≤ n ∧ n ≤ hi := by
  cases x with
  | int i =>
    unfold wholeB at h
    simp only [Bool.and_eq_true, decide_eq_true_eq] at h
    exact ⟨i.toNat, by rw [show ((i.toNat : Nat) : Int) = i by omega], by omega, by omega⟩
  | _ => cases h
theorem verdict_n {hx vx : V} {inp : Option (List Th)} (h : wholeB hx (some 2) (some 5) = false) : verdict hx vx inp = some (("houses" : Str), 0) := by
  unfold verdict
  rw [if_pos h]
theorem verdict_m {hx vx : V} {inp : Option (List Th)} (h : wholeB hx (some 2) (some 5) = true) (h2 : wholeB vx (some 1) (some 4) = false) : verdict hx vx inp = some (("values" : Str), 0) := by
  unfold verdict
  rw [if_neg (by rw [h]; decide), if_pos h2]
theorem verdict_many {hx vx : V} (h : wholeB hx (some 2) (some 5) = true) (h2 : wholeB vx (some 1) (some 4) = true) : verdict hx vx none = some (("many" : Str), 0) := by
  unfold verdict
  rw [if_neg (by rw [h]; decide), if_neg (by rw [h2]; decide)]
theorem verdict_in {n m : Nat} {ths : List Th} (h : wholeB (.int (n : Int)) (some 2) (some 5) = true) (h2 : wholeB (.int (m : Int)) (some 1) (some 4) = true) : verdict (.int (n : Int)) (.int (m : Int)) (some ths) = (badIn n m ths).map fun i => (("input" : Str), i) := by
  unfold verdict
  rw [if_neg (by rw [h]; decide), if_neg (by rw [h2]; decide)]
  show (badIn (n : Int).toNat (m : Int).toNat ths).map _ = _
  rw [Int.toNat_natCast, Int.toNat_natCast]
theorem good_th {n m : Nat} {th : Th} (h : Th.bad (okE m) n th = none) : ∃ l a, th = .sq l a th.ys ∧ isRow n m th.ys := by
  cases th with
  | «at» v => cases h
  | sq l a ys =>
    refine ⟨l, a, rfl, ?_⟩
    rw [bad_sq] at h
    by_cases e : ys.length = n
    · rw [if_pos e, Option.map_eq_none_iff] at h
      exact ⟨e, fun v hv => okE_iff.mp (badAt_none.mp h v hv)⟩
    · rw [if_neg e] at h
      cases h
end Kb
set_option Elab.async false
set_option linter.all false
set_option maxRecDepth 100000
set_option maxHeartbeats 4000000
namespace Kb
open PySem PySem.Spec PyProof.Rows L2
theorem nat_nodup_len' {α : Type} : ∀ {l D : List α}, l.Nodup → (∀ x ∈ l, x ∈ D) → l.length ≤ D.length
  | [], _, _, _ => Nat.zero_le _
  | x :: l, D, hn, hs => by
    obtain ⟨h1, h2⟩ := List.nodup_cons.mp hn
    obtain ⟨A, B, rfl⟩ := List.append_of_mem (hs x (List.mem_cons_self ..))
    have k := nat_nodup_len' (l := l) (D := A ++ B) h2 fun y hy => by
      rcases List.mem_append.mp (hs y (List.mem_cons_of_mem _ hy)) with z | z
      · exact List.mem_append_left _ z
      · rcases List.mem_cons.mp z with e | z
        · exact absurd (e ▸ hy) h1
        · exact List.mem_append_right _ z
    simp only [List.length_append, List.length_cons] at k ⊢
    omega
theorem putF_len (f : Str) (v : V) : ∀ fs : List (Str × V), (putF f v fs).length ≤ fs.length + 1
  | [] => Nat.le_refl _
  | (g, x) :: r => by
    unfold putF
    split
    · exact Nat.le_succ _
    · exact Nat.succ_le_succ (putF_len f v r)
section
variable {X : Cx} {CX : CXT}
theorem nmG {x : Str} {c : Value} (hm : X.mg x = some c) (hg : Gl X x := by rfl) (hd : (x == ("__debug__" : Str)) = false := by decide) : Names X x c := ⟨hg, hd, .inl hm⟩
theorem pcS {k j : Nat} {x : Str} {sp : Sp} {E : L2.St → XK} {p pos : Pos} {e : Expr} {es : List Expr} {t : TA} (c : CalX X.prog X.w X.K X.mg X.base CX k x sp []) (hr : Room j X.A) (hk : k ≤ j) (hx : ∀ σ, PassesAt CX X σ (E σ)) (ha : PA X (e :: es) t) (hg : Gl X x := by rfl)
    (hdb : (x == ("__debug__" : Str)) = false := by decide) (he : starEach (e :: es) X.env = (false, eval e X.env) :: starEach es X.env := by rfl) (hpl : (backTo pos (starEach es X.env)).any (·.1) = false := by rfl) :
    PE X (.Call (.Name x p) (e :: es) [] pos) (tCallS sp E t) := by
  obtain ⟨f, fd, ps, ds, F, m, kp, b, d⟩ := c.ex
  cases d
  exact pe_callS F (hr.mono hk) hg m kp b hx ha hdb he hpl
theorem mkh_BadBook {K : PySem.W.Frag} {mg : Str → Option Value} {e : Expr} {es : List Expr} {ta : TA} {p pos : Pos} (T : Txt K mg) (hot : L2H.HotC X) (hr : L2H.RoomH 2 X.A) (ha : PA X (e :: es) ta) (hK : X.K = K := by rfl) (hM : X.mg = mg := by rfl) (hg : Gl X "BadBook" := by rfl)
    (he : starEach (e :: es) X.env = (false, eval e X.env) :: starEach es X.env := by rfl) (hpl : (backTo pos (starEach es X.env)).any (·.1) = false := by rfl) : L2H.PMk5 X (.Call (.Name "BadBook" p) (e :: es) [] pos) (tMkO (He.ga K "BadBook") (spI2 (He.ga K "BadBook") "what" "at") [] ta) := by
  subst hK hM
  obtain ⟨fd, F, ok⟩ := ih_BadBook (P := X.prog) (w := X.w) (base := X.base) T
  exact L2H.pmk5_oexH T.o_BadBook T.m_BadBook_init.at_ (beq_iff_eq.mp T.m_BadBook_init.fn) ok hr hot (F.bindsN fun _ _ _ _ _ _ us hl => match us, hl with | [_, _, _], _ => rfl) pass0 hg T.g_BadBook ha (by decide) he hpl
end
local macro_rules | `(tactic| walk_at "beg") => `(tactic| simp only [cxK, cxKn, cxW, cxWn, cxP, cxPn, L2.start, List.map_cons, List.map_nil, List.length_cons, List.length_nil, Nat.reduceAdd, Nat.reduceSub, List.replicate_succ, List.replicate_zero, List.cons_append, List.nil_append])
local macro_rules | `(tactic| walk_at "go1") => `(tactic| with_reducible (first
  | refine r_seq ?_ | refine r_asg ?_ | refine r_if ?_ | refine r_ret ?_ | refine r_next ?_ | refine r_drop ?_ | refine r_gsub ?_
  | refine r_c ?_ | refine r_op ?_ | refine r_un ?_ | refine r_cons ?_ | refine r_nil ?_ | refine r_cb ?_ | refine r_call ?_ | refine r_test ?_ | refine r_B ?_ | refine r_bl ?_
  | refine r_and ?_ | refine r_or ?_ | refine r_not ?_ | refine r_ifE ?_ | refine r_andV ?_ | refine r_orV ?_ | refine r_notV ?_ | refine r_blV ?_ | refine r_T ?_ | refine r_F ?_ | refine r_nT ?_ | refine r_nF ?_
  | refine r_int ?_ | refine r_eqI ?_ | refine r_neI ?_
  | refine r_yes ?_ | refine r_lc ?_ | refine r_rng1 ?_ | refine r_rng2 ?_ | refine r_iList ?_ | refine r_iTup ?_ | refine r_for ?_
  | refine r_bm ?_ | refine r_sl ?_ | refine r_np ?_ | refine r_part ?_ | refine r_partI ?_ | refine r_lstRg ?_ | refine r_rg1 ?_ | refine r_rgI ?_ | refine r_isN ?_ | refine r_notN ?_ | refine r_notT ?_ | refine r_mkA ?_ | refine r_callS ?_ | refine r_sfld ?_ | refine r_fld ?_ | refine r_sortSet ?_ | refine r_mkO ?_ | refine r_enum ?_ | refine r_make ?_
  | refine r_I0 ?_ | refine r_U ?_ | refine r_tup ?_ | refine r_lst ?_))
local macro_rules | `(tactic| walk_at "go") => `(tactic| repeat (first | walk_at "go1" | with_reducible refine r_var (by with_unfolding_all rfl) ?_ | with_reducible refine r_lcT (by with_unfolding_all rfl) ?_ | with_reducible refine r_name (by (try simp only [wipe, List.set_cons_succ, List.set_cons_zero]) <;> with_unfolding_all rfl) ?_))
section
variable {P : Program} {w : World} {K : PySem.W.Frag} {mg : Str → Option Value} {base : Heap}
theorem sc_Book_init : FnScope ["self", "houses", "values", "inputs", "known", "index", "thing"] ["self", "houses", "values", "inputs"] (defScope s_Book_init) := ⟨rfl, rfl, rfl, by decide +kernel, rfl, by decide +kernel, by decide +kernel⟩
def spBook (C X : Addr) : Sp := fun vs H Q E => ∃ (o dx : Addr) (hx vx ix : V) (inp : Option (List Th)), vs = [.ref o, hx, vx, ix] ∧ H o = some (.ins C dx []) ∧ Kn H hx ∧ Kn H vx ∧ Inp H ix inp ∧
  (∀ (what : Str) (at' : Nat), verdict hx vx inp = some (what, at') → ∀ H1 d, L2.Same H H1 → H1 d = none → E (.ref X) (some d) (L2.upd H1 d (.xd [("at", .int (at' : Int)), ("what", .str what)]))) ∧
  (∀ (n m : Nat) (ths : List Th) (T : Addr) (ks : Ks) (H' : Hp), hx = .int (n : Int) → vx = .int (m : Int) → inp = some ths → 2 ≤ n → n ≤ 5 → 1 ≤ m → m ≤ 4 → (∀ b u, b ≠ o → H b = some u → H' b = some u) → H' o = some (.ins C dx [("n", .int (n : Int)), ("m", .int (m : Int)), ("inputs", .ref T)]) →
    H' T = some (.tup (refs ks)) → Tups H' ks → (∀ p ∈ ks, isRow n m p.2) → AscS (ks.map (·.2)) → ks.length ≤ 256 → (∀ r, r ∈ ks.map (·.2) ↔ r ∈ ths.map Th.ys) → (∀ th ∈ ths, isRow n m th.ys) → Q .non H')
theorem c_Book_init (T : Txt K mg) : ∃ fd, FunD K "__init__" "Book.__init__" (defArgs s_Book_init) (defBody s_Book_init) (defScope s_Book_init) [] [] (He.ma K (He.ga K "Book") "__init__") fd ∧
    FnOk P w K mg base (CL P w) 4 (He.ma K (He.ga K "Book") "__init__") fd ["self", "houses", "values", "inputs"] (spBook (He.ga K "Book") (He.ga K "BadBook")) := by
  have c_is_whole : CalX P w K mg base CX0 1 "is_whole" spWhole [] := c_whole3 T
  have c_check_entry : CalX P w K mg base (CN P w) 3 "check_entry" (spChk (He.ga K "BadInput") okE) [] := c_check_entry T
  obtain ⟨fd, F⟩ := T.u_Book_init
  refine ⟨fd, F, F.ok sc_Book_init (fun vs H Q E h => ?_) fun cdv A outer s H vs Q E hr h => ?_⟩
  · obtain ⟨_, _, _, _, _, _, rfl, _⟩ := h
    rfl
  · obtain ⟨o, dx, hx, vx, ix, inp, rfl, ho, kh, kv, ki, kE, kQ⟩ := h
    obtain ⟨tkm, hmost⟩ := T.most
    refine ⟨_, (pss_cons (ps_if (pt_not (pt_val (pc0 c_is_whole hr (by decide) (pa_cons (pv 1) (pa_cons pe_int (pa_cons pe_int pa_nil)))))) (pss_one (L2.ps_raise rfl (L2.takes_of rfl rfl rfl rfl) (pmk_wide (mk_BadBook T (hr.mono (by decide)) (pa_cons pe_str (pa_cons pe_int pa_nil)))))) pss_nil)
      (pss_cons (ps_if (pt_not (pt_val (pc0 c_is_whole hr (by decide) (pa_cons (pv 2) (pa_cons pe_int (pa_cons pe_int pa_nil)))))) (pss_one (L2.ps_raise rfl (L2.takes_of rfl rfl rfl rfl) (pmk_wide (mk_BadBook T (hr.mono (by decide)) (pa_cons pe_str (pa_cons pe_int pa_nil)))))) pss_nil)
      (pss_cons (ps_if (PW.pt (pw_or (pt_not (pt_val (pe_callB (k_isiT K) (by rfl) T.n_isinstance b_isinstance (pa_cons (pv 3) (pa_cons (pe_tup (pa_cons (pe_bltn (v := .ty "list") (by rfl) T.n_list b_list rfl) (pa_cons (pe_bltn (v := .ty "tuple") (by rfl) T.n_tuple b_tuple rfl) pa_nil))) pa_nil))))) (pw_or1 (pt_cmpR op_gt (pe_callB (k_len K) (by rfl) T.n_len b_len (pa_cons (pv 3) pa_nil)) (pe_glob (v := .int 256) rfl hmost ⟨_, rfl⟩) (nomark _))))) (pss_one (L2.ps_raise rfl (L2.takes_of rfl rfl rfl rfl) (pmk_wide (mk_BadBook T (hr.mono (by decide)) (pa_cons pe_str (pa_cons pe_int pa_nil)))))) pss_nil)
      (pss_cons (ps_set (i := 4) sc_Book_init.nd rfl (.inl rfl) (pe_lst pa_nil))
      (pss_cons (ps_for PassesOwn.leaving rfl (pi_enum (by rfl) T.n_enumerate (pa_cons (pv 3) pa_nil)) (pg_tup (n := 2) (by rfl) (pgs_cons (pg_name (i := 5) sc_Book_init.nd rfl (.inl rfl)) (pgs_cons (pg_name (i := 6) sc_Book_init.nd rfl (.inl rfl)) pgs_nil))) (pss_one (L2H.ps_try_onlyX (tb := fun W => tDrop (tBM K "list" rAppend (tVar 4) (tCons (tCallS (spChk (He.ga K "BadInput") okE) (WE W) (tCons (tVar 1) (tCons (tVar 2) (tCons (tVar 6) tNil)))) tNil))) (ts := fun _ _ _ _ σ H => tMkO (He.ga K "BadBook") (spI2 (He.ga K "BadBook") "what" "at") [] (tCons (tC (.str "input")) (tCons (tVar 5) tNil)) σ H fun cls d H' => E cls d H') (Wout := fun cls d _ H => E cls d H) rfl rfl (nmG T.g_BadInput) (fun _ => L2H.passesAt_of rfl _) (L2.takes_of rfl rfl rfl rfl) (fun W pn xe tkN tkL po => (pss_one (ps_expr (pe_bm PySem.F.plainAttrs_list PySem.F.slot_list_append PySem.F.type_list_append mt_append (pv 4) (pa_cons (pcS c_check_entry hr (by decide) (L2N.passAt tkN) (pa_cons (pv 1) (pa_cons (pv 2) (pa_cons (pv 6) pa_nil)))) pa_nil))))) (fun a oe cls d pn hz hf tkS hot => pss_one (L2H.ps_raiseHN hot tkS (mkh_BadBook T hot (L2H.roomH_mark (hr.mono (by decide)) _) (pa_cons pe_str (pa_cons (pv 5) pa_nil))))))))
      (pss_cons (ps_fld (pv 0) (pv 1) rfl)
      (pss_cons (ps_fld (pv 0) (pv 2) rfl)
      (pss_one (ps_fld (pv 0) (pe_callTy (k_tup K) (by rfl) T.n_tuple b_tuple (pa_cons (pe_sortSet rfl (hu64 hr) rfl T.n_sorted rfl T.n_set (pv 4)) pa_nil)) rfl))))))))), ?_⟩
    walk_at "beg"
    walk_at "go"
    refine ⟨hx, some 2, some 5, rfl, kh, _, rfl, ?_⟩
    cases e1 : wholeB hx (some 2) (some 5) with
    | false =>
      walk_at "go"
      exact ⟨by simp, r_mk2 fun d hd => kE "houses" 0 (verdict_n e1) H d (Same.refl H) hd⟩
    | true =>
      obtain ⟨n, rfl, n2, n5⟩ := whole_at (lo := 2) (hi := 5) e1
      walk_at "go"
      refine ⟨vx, some 1, some 4, rfl, kv, _, rfl, ?_⟩
      cases e2 : wholeB vx (some 1) (some 4) with
      | false =>
        walk_at "go"
        exact ⟨by simp, r_mk2 fun d hd => kE "values" 0 (verdict_m e1 e2) H d (Same.refl H) hd⟩
      | true =>
        obtain ⟨m, rfl, m1, m4⟩ := whole_at (lo := 1) (hi := 4) e2
        walk_at "go"
        refine ⟨sz10 (by simp), r_new fun t1 H1 _ s1 ht1 _ => ?_⟩
        walk_at "go"
        cases inp with
        | none =>
          rcases ki with ki | ⟨a, xs, rfl, hs, l1, l2⟩
          · refine r_isiLT (.inl ki) ht1 ?_
            rw [kind_at ki]
            walk_at "go"
            exact ⟨by simp, r_mk2 fun d hd => kE "many" 0 (verdict_many e1 e2) H1 d s1 hd⟩
          · have hs1 : H1 a = some (.lst xs) ∨ H1 a = some (.tup xs) := hs.imp (s1 _ _) (s1 _ _)
            refine r_isiLT (.inr ⟨a, xs, rfl, hs1⟩) ht1 ?_
            rw [kind_sq hs1]
            walk_at "go"
            refine r_len (hs1.imp SqL.of SqT.of) ?_
            walk_at "go"
            refine ite_d (fun _ => ?_) (fun z => absurd (show (256 : Int) < (xs.length : Int) by omega) z)
            walk_at "go"
            exact ⟨by simp, r_mk2 fun d hd => kE "many" 0 (verdict_many e1 e2) H1 d s1 hd⟩
        | some ths =>
          obtain ⟨a, xs, rfl, hs, l1, l2, hth⟩ := ki
          have hs1 : H1 a = some (.lst xs) ∨ H1 a = some (.tup xs) := .inl (s1 _ _ hs)
          refine r_isiLT (.inr ⟨a, xs, rfl, hs1⟩) ht1 ?_
          rw [kind_sq hs1]
          walk_at "go"
          refine r_len (hs1.imp SqL.of SqT.of) ?_
          walk_at "go"
          refine ite_d (fun z => absurd (show ¬ (256 : Int) < (xs.length : Int) by omega) (fun w => w z)) (fun _ => ?_)
          walk_at "go"
          refine ⟨sz10 (by simp), r_new fun L H2 nL s2 hL _ => ?_⟩
          walk_at "go"
          refine ⟨a, xs, rfl, SqL.of (s2 _ _ (s1 _ _ hs)), ?_⟩
          have S02 := s1.trans s2
          have nL0 : H L = none := Same.free s1 nL
          refine forR_enum xs (fun i σ H3 => ∃ (ks : Ks) (v5 v6 : Option V), σ = [some (.ref o), some (.int (n : Int)), some (.int (m : Int)), some (.ref a), some (.ref L), v5, v6] ∧ H3 L = some (.lst (refs ks)) ∧ Tups H3 ks ∧ L2.Same H H3 ∧ (ks.map (·.2)) = (ths.take i).map Th.ys ∧ ∀ j th, j < i → ths[j]? = some th → Th.bad (okE m) n th = none) ?_ ?_ ?_ ?_
          · exact ⟨[], none, none, rfl, hL, fun p hp => (by cases hp), S02, rfl, fun j th hj => absurd hj (Nat.not_lt_zero _)⟩
          · rintro i σ H3 _ ⟨ks, v5, v6, rfl, q1, q2, q3, _⟩
            exact SqL.of (q3 _ _ hs)
          · rintro i x σ H3 hxi ⟨ks, v5, v6, rfl, q1, q2, q3, q4, q5⟩ t ht
            have hi : i < xs.length := (List.getElem?_eq_some_iff.mp hxi).1
            obtain ⟨th, hti⟩ : ∃ th, ths[i]? = some th := ⟨_, List.getElem?_eq_getElem (by omega)⟩
            have sT : L2.Same H3 (L2.upd H3 t (.tup [.int (i : Int), x])) := Same.new ht
            generalize hH4 : L2.upd H3 t (.tup [.int (i : Int), x]) = H4 at sT
            have hT4 : H4 t = some (.tup [.int (i : Int), x]) := by rw [← hH4, upd_same]
            have S4 := q3.trans sT
            refine r_tup2 hT4 rfl rfl ?_
            have hx4 : Is H4 x th := (hth i x th hxi hti).same S4
            walk_at "go"
            refine ⟨ty_l (sT _ _ q1), ?_⟩
            walk_at "go"
            refine ⟨n, m, x, th, rfl, by omega, by omega, hx4, fun what house hb H5 d s5 hd => ?_, fun l a' ys b H5 e1' e2' e3' s5 hb => ?_⟩
            · refine ⟨true, T.x_BadInput_BadInput, fun _ a' _ => ?_, fun z => (by cases z)⟩
              walk_at "go"
              refine ⟨by simp, r_mkO2 fun d2 hd2 => ?_⟩
              refine kE "input" i ?_ _ d2 (Same.fresh (S4.trans s5) (Same.free (S4.trans s5) hd)) hd2
              rw [verdict_in e1 e2]
              have eb : badIn n m ths = some i := badAt_some ⟨th, hti, by rw [hb]; rfl⟩ fun j th' hj h => by rw [q5 j th' hj h]; rfl
              rw [eb]
              rfl
            · have hlen : ks.length ≤ 256 := by
                have e := congrArg List.length q4
                rw [List.length_map, List.length_map, List.length_take] at e
                omega
              subst e1'
              have g1 : H5 L = some (.lst (refs ks)) := s5 _ _ (sT _ _ q1)
              walk_at "go"
              refine r_app g1 (by rw [refs_len]; omega) ?_
              obtain ⟨b1, b2, b3⟩ := app_step nL0 g1 ((q2.same sT).same s5) (S4.trans s5) hb
              refine ⟨ks ++ [(b, ys)], _, _, rfl, b1, b2, b3, ?_, fun j th' hj h => ?_⟩
              · rw [List.map_append, q4, List.take_add_one (i := i) (l := ths), hti, List.map_append]
                rfl
              · by_cases e : j = i
                · rw [e, hti] at h
                  cases h
                  rw [bad_sq, if_pos e2', badAt_none.mpr e3']
                  rfl
                · exact q5 j th' (by omega) h
          · rintro σ H3 ⟨ks, v5, v6, rfl, q1, q2, q3, q4, q5⟩
            rw [l2, List.take_length] at q4
            have good : ∀ th ∈ ths, ∃ l a, th = .sq l a th.ys ∧ isRow n m th.ys := fun th hm => by
              obtain ⟨j, hj, e⟩ := List.getElem_of_mem hm
              have e2 : ths[j]? = some th := by rw [List.getElem?_eq_getElem hj, e]
              exact good_th (q5 j th (by omega) e2)
            have rowK : ∀ p ∈ ks, isRow n m p.2 := fun p hp => by
              have h1 : p.2 ∈ ths.map Th.ys := by rw [← q4]; exact List.mem_map.mpr ⟨p, hp, rfl⟩
              obtain ⟨th, hm, e⟩ := List.mem_map.mp h1
              obtain ⟨_, _, _, r⟩ := good th hm
              rw [← e]
              exact r
            have lenK : ks.length ≤ 256 := by
              have e := congrArg List.length q4
              rw [List.length_map, List.length_map] at e
              omega
            have no : L ≠ o := fun e => by rw [← e, nL0] at ho; cases ho
            walk_at "go"
            refine ⟨o, _, dx, _, rfl, q3 _ _ ho, T.cBook, T.a_Book_n, by decide, ?_⟩
            walk_at "go"
            refine ⟨o, _, dx, _, rfl, upd_same, T.cBook, T.a_Book_m, Nat.lt_of_le_of_lt (putF_len _ _ _) (by decide), ?_⟩
            walk_at "go"
            rw [upd_upd]
            have g1 : ∀ u, L2.upd H3 o u L = some (.lst (refs ks)) := fun u => by rw [upd_ne no]; exact q1
            have g2 : ∀ u, Tups (L2.upd H3 o u) ks := fun u => q2.put fun xs z => by rw [q3 _ _ ho] at z; cases z
            refine ⟨L, ks, n, rfl, g1 _, g2 _, by omega, fun p hp => ⟨(rowK p hp).1, (rowK p hp).ints⟩, lenK, fun p ks' hs1 hs2 hs3 hp => ?_⟩
            walk_at "go"
            refine r_tupL (SqL.of upd_same) fun T1 H5 nT s5 hT1 _ => ?_
            have S5 : L2.Same (L2.upd H3 o (.ins (He.ga K "Book") dx (putF "m" (.int (m : Int)) (putF "n" (.int (n : Int)) [])))) H5 := (Same.new hp).trans s5
            have ho5 : H5 o = some (.ins (He.ga K "Book") dx (putF "m" (.int (m : Int)) (putF "n" (.int (n : Int)) []))) := S5 _ _ upd_same
            walk_at "go"
            refine ⟨o, _, dx, _, rfl, ho5, T.cBook, T.a_Book_inputs, Nat.lt_of_le_of_lt (putF_len _ _ _) (Nat.lt_of_le_of_lt (Nat.succ_le_succ (putF_len _ _ _)) (by decide)), ?_⟩
            walk_at "go"
            have nT1 : T1 ≠ o := fun e => by rw [e, ho5] at hT1; cases hT1
            have len' : ks'.length ≤ 256 := by
              have e1 := nat_nodup_len' (List.Pairwise.imp (S := fun a b => a ≠ b) (fun {a b} h e => by subst e; exact rowLt_irrefl a h) hs3) (fun r hr => by
                obtain ⟨p, hp, e⟩ := List.mem_map.mp hr
                exact List.mem_map.mpr ⟨p, hs1 p hp, e⟩ : ∀ r ∈ ks'.map (·.2), r ∈ ks.map (·.2))
              rw [List.length_map, List.length_map] at e1
              omega
            have tups5 : Tups H5 ks' := fun p hp => S5 _ _ (g2 _ p (hs1 p hp))
            refine kQ n m ths T1 ks' _ rfl rfl rfl n2 n5 m1 m4 (fun b u hb hu => ?_) upd_same (by rw [upd_ne nT1]; exact hT1) (tups5.put fun xs z => by rw [ho5] at z; cases z) (fun p hp => rowK p (hs1 p hp)) hs3 len' (fun r => ⟨fun hr => ?_, fun hr => ?_⟩) (fun th hm => ?_)
            · rw [upd_ne hb]
              exact S5 _ _ (by rw [upd_ne hb]; exact q3 _ _ hu)
            · obtain ⟨p, hp, e⟩ := List.mem_map.mp hr
              rw [← q4, ← e]
              exact List.mem_map.mpr ⟨p, hs1 p hp, rfl⟩
            · rw [← q4] at hr
              obtain ⟨p, hp, e⟩ := List.mem_map.mp hr
              rw [← e]
              exact hs2 p hp
            · obtain ⟨_, _, _, r⟩ := good th hm
              exact r
end
end Kb
set_option Elab.async false
set_option linter.all false
set_option maxRecDepth 100000
set_option maxHeartbeats 4000000
namespace Kb
open PySem PySem.Spec PyProof.Rows L2
/-! ### the data of rows -/
def vD : V → PyData
  | .int i => .int i
  | .bl b => .bool b
  | .str x => .str x
  | _ => .none
def rowD (r : List V) : PyData := .tuple (r.map vD)
section
variable {K : PySem.W.Frag} {H : Hp}
theorem dp_atom {v : V} (h : atomV v = true) : Dp K H v (vD v) := by
  cases v with
  | non => exact .non
  | bl b => exact .bl b
  | int i => exact .int i
  | str x => exact .str x
  | _ => cases h
theorem dp_atoms : ∀ {xs : List V}, (∀ v ∈ xs, atomV v = true) → DpAll K H xs (xs.map vD)
  | [], _ => .nil
  | x :: xs, h => .cons (dp_atom (h x (List.mem_cons_self ..))) (dp_atoms fun v hv => h v (List.mem_cons_of_mem _ hv))
theorem dp_row {a : Addr} {r : List V} (e : H a = some (.tup r)) (h : ∀ v ∈ r, atomV v = true) : Dp K H (.ref a) (rowD r) := .tup (SqT.of e) (dp_atoms h)
theorem Ints.atoms {r : List V} (h : Ints r) : ∀ v ∈ r, atomV v = true := fun v hv => by
  obtain ⟨i, rfl⟩ := h v hv
  rfl
theorem dp_refs : ∀ {ks : Ks}, Tups H ks → (∀ p ∈ ks, Ints p.2) → DpAll K H (refs ks) (ks.map fun p => rowD p.2)
  | [], _, _ => .nil
  | p :: ks, T, h => .cons (dp_row (T p (List.mem_cons_self ..)) (h p (List.mem_cons_self ..)).atoms) (dp_refs (fun q hq => T q (List.mem_cons_of_mem _ hq)) fun q hq => h q (List.mem_cons_of_mem _ hq))
theorem dp_list {l : Addr} {ks : Ks} (e : H l = some (.lst (refs ks))) (T : Tups H ks) (h : ∀ p ∈ ks, Ints p.2) : Dp K H (.ref l) (.list (ks.map fun p => rowD p.2)) := .lst (SqL.of e) (dp_refs T h)
theorem dp_tuple {l : Addr} {ks : Ks} (e : H l = some (.tup (refs ks))) (T : Tups H ks) (h : ∀ p ∈ ks, Ints p.2) : Dp K H (.ref l) (.tuple (ks.map fun p => rowD p.2)) := .tup (SqT.of e) (dp_refs T h)
end
theorem lay_atoms : ∀ {r : List V}, Ints r → PyData.canLayAll0 (r.map vD) = true
  | [], _ => by simp [PyData.canLayAll0]
  | x :: r, h => by
    obtain ⟨i, rfl⟩ := h x (List.mem_cons_self ..)
    simp [PyData.canLayAll0, PyData.canLay0, vD, lay_atoms (r := r) fun v hv => h v (List.mem_cons_of_mem _ hv)]
theorem depth_atoms : ∀ (r : List V), PyData.depthAll (r.map vD) = 0
  | [] => by simp [PyData.depthAll]
  | x :: r => by
    have e : PyData.depth (vD x) = 0 := by cases x <;> simp [vD, PyData.depth]
    simp [PyData.depthAll, e, depth_atoms r]
theorem rowD_lay {r : List V} (h : Ints r) : (rowD r).canLay0 = true := by
  unfold rowD
  simp [PyData.canLay0, lay_atoms h]
theorem rowD_depth (r : List V) : (rowD r).depth = 1 := by
  unfold rowD
  simp [PyData.depth, depth_atoms r]
theorem rowD_shaped {r : List V} (h : Ints r) : SeqAt.shaped (rowD r) = true := by
  unfold SeqAt.shaped
  rw [rowD_lay h, rowD_depth]
  decide
theorem rows_lay : ∀ {ks : Ks}, (∀ p ∈ ks, Ints p.2) → PyData.canLayAll0 (ks.map fun p => rowD p.2) = true
  | [], _ => by simp [PyData.canLayAll0]
  | p :: ks, h => by simp [PyData.canLayAll0, rowD_lay (h p (List.mem_cons_self ..)), rows_lay (ks := ks) fun q hq => h q (List.mem_cons_of_mem _ hq)]
theorem rows_depth : ∀ (ks : Ks), PyData.depthAll (ks.map fun p => rowD p.2) ≤ 1
  | [] => by simp [PyData.depthAll]
  | p :: ks => by
    have e := rows_depth ks
    simp [PyData.depthAll, rowD_depth, e]
theorem rows_shaped {ks : Ks} (h : ∀ p ∈ ks, Ints p.2) : SeqAt.shaped (.list (ks.map fun p => rowD p.2)) = true := by
  unfold SeqAt.shaped
  have e := rows_depth ks
  rw [Bool.and_eq_true, decide_eq_true_eq]
  simp only [PyData.canLay0, PyData.depth]
  exact ⟨rows_lay h, by omega⟩
theorem rows_shapedT {ks : Ks} (h : ∀ p ∈ ks, Ints p.2) : SeqAt.shaped (.tuple (ks.map fun p => rowD p.2)) = true := by
  unfold SeqAt.shaped
  have e := rows_depth ks
  rw [Bool.and_eq_true, decide_eq_true_eq]
  simp only [PyData.canLay0, PyData.depth]
  exact ⟨rows_lay h, by omega⟩
theorem atoms_eqv : ∀ {a b : List V}, Ints a → Ints b → PyData.eqvAll (a.map vD) (b.map vD) = decide (a = b)
  | [], [], _, _ => by simp [PyData.eqvAll]
  | [], y :: b, _, _ => by simp [PyData.eqvAll]
  | x :: a, [], _, _ => by simp [PyData.eqvAll]
  | x :: a, y :: b, ha, hb => by
    obtain ⟨i, rfl⟩ := ha x (List.mem_cons_self ..)
    obtain ⟨j, rfl⟩ := hb y (List.mem_cons_self ..)
    have ih := atoms_eqv (a := a) (b := b) (fun v hv => ha v (List.mem_cons_of_mem _ hv)) fun v hv => hb v (List.mem_cons_of_mem _ hv)
    simp only [List.map_cons, PyData.eqvAll, vD, PyData.eqv, ih]
    by_cases e : i = j
    · subst e
      simp
    · simp [e]
theorem row_eqv {a b : List V} (ha : Ints a) (hb : Ints b) : PyData.eqv (rowD a) (rowD b) = decide (a = b) := by
  unfold rowD
  simp only [PyData.eqv, atoms_eqv ha hb]
theorem rows_eqv : ∀ {ks js : Ks}, (∀ p ∈ ks, Ints p.2) → (∀ p ∈ js, Ints p.2) → PyData.eqvAll (ks.map fun p => rowD p.2) (js.map fun p => rowD p.2) = decide (ks.map (·.2) = js.map (·.2))
  | [], [], _, _ => by simp [PyData.eqvAll]
  | [], y :: b, _, _ => by simp [PyData.eqvAll]
  | x :: a, [], _, _ => by simp [PyData.eqvAll]
  | x :: a, y :: b, ha, hb => by
    have ih := rows_eqv (ks := a) (js := b) (fun v hv => ha v (List.mem_cons_of_mem _ hv)) fun v hv => hb v (List.mem_cons_of_mem _ hv)
    simp only [List.map_cons, PyData.eqvAll, row_eqv (ha x (List.mem_cons_self ..)) (hb y (List.mem_cons_self ..)), ih]
    by_cases e : x.2 = y.2
    · rw [e]
      simp
    · simp [e]
theorem rows_any {r : List V} (hr : Ints r) : ∀ {ks : Ks}, (∀ p ∈ ks, Ints p.2) → ((ks.map fun p => rowD p.2).any fun z => PyData.eqv z (rowD r)) = decide (r ∈ ks.map (·.2))
  | [], _ => by simp
  | p :: ks, h => by
    have ih := rows_any hr (ks := ks) fun q hq => h q (List.mem_cons_of_mem _ hq)
    simp only [List.map_cons, List.any_cons, ih, row_eqv (h p (List.mem_cons_self ..)) hr, List.mem_cons]
    by_cases e : p.2 = r
    · simp [e]
    · have e2 : ¬ r = p.2 := fun z => e z.symm
      simp [e, e2]
/-! ### tests about rows -/
section
variable {K : PySem.W.Frag} {H : Hp} {Q : VK} {a l : Addr} {r : List V} {ks : Ks}
theorem r_inL (ha : H a = some (.tup r)) (hr : Ints r) (hl : H l = some (.lst (refs ks))) (T : Tups H ks) (hk : ∀ p ∈ ks, Ints p.2) (q : Q (.bl (decide (r ∈ ks.map (·.2)))) H) : rInD K (.ref a) (.ref l) H Q :=
  ⟨rowD r, _, dp_row ha hr.atoms, dp_list hl T hk, rowD_shaped hr, rows_shaped hk, by rw [rows_any hr hk]; exact q⟩
theorem r_ninL (ha : H a = some (.tup r)) (hr : Ints r) (hl : H l = some (.lst (refs ks))) (T : Tups H ks) (hk : ∀ p ∈ ks, Ints p.2) (q : Q (.bl (!decide (r ∈ ks.map (·.2)))) H) : rNotInD K (.ref a) (.ref l) H Q :=
  ⟨rowD r, _, dp_row ha hr.atoms, dp_list hl T hk, rowD_shaped hr, rows_shaped hk, by rw [rows_any hr hk]; exact q⟩
theorem r_neRow {b : Addr} {r' : List V} (ha : H a = some (.tup r)) (hr : Ints r) (hb : H b = some (.tup r')) (hr' : Ints r') (q : Q (.bl (!decide (r = r'))) H) : rNeD K (.ref a) (.ref b) H Q :=
  ⟨rowD r, rowD r', dp_row ha hr.atoms, dp_row hb hr'.atoms, rowD_shaped hr, rowD_shaped hr', by rw [row_eqv hr hr']; exact q⟩
theorem r_eqRows {js : Ks} (ha : H a = some (.tup (refs ks))) (T : Tups H ks) (hk : ∀ p ∈ ks, Ints p.2) (hl : H l = some (.tup (refs js))) (T' : Tups H js) (hj : ∀ p ∈ js, Ints p.2) (q : Q (.bl (decide (ks.map (·.2) = js.map (·.2)))) H) : rEqD K (.ref a) (.ref l) H Q :=
  ⟨_, _, dp_tuple ha T hk, dp_tuple hl T' hj, rows_shapedT hk, rows_shapedT hj, by simp only [PyData.eqv]; rw [rows_eqv hk hj]; exact q⟩
/-- x in a tuple -/
def rInT (K : PySem.W.Frag) : R2 := fun x y H Q => ∃ d ds, Dp K H x d ∧ Dp K H y (.tuple ds) ∧ SeqAt.shaped d = true ∧ SeqAt.shaped (.tuple ds) = true ∧ Q (.bl (ds.any fun z => PyData.eqv z d)) H
theorem k_inT {X : Cx} (K : PySem.W.Frag) (hu : X.A.units + 65 < cLine) (h : X.K = K := by rfl) : OpR X (compareOp .In) (rInT K) := by
  subst h
  intro pins s σ H x y v u Q I rx ry w
  obtain ⟨d, ds, hd, he, sd, se, q⟩ := w
  obtain ⟨as, r1⟩ := Dp.reads I d x v hd rx
  obtain ⟨bs, r2⟩ := Dp.reads I (.tuple ds) y u he ry
  exact SeqAt.in_tuple_reads r2 r1 (SeqAt.canLay_of_shaped se) (SeqAt.canLay_of_shaped sd) (room_in_shaped sd hu) ⟨.bl _, H, I, rfl, q⟩
theorem r_inTup (ha : H a = some (.tup r)) (hr : Ints r) (hl : H l = some (.tup (refs ks))) (T : Tups H ks) (hk : ∀ p ∈ ks, Ints p.2) (q : Q (.bl (decide (r ∈ ks.map (·.2)))) H) : rInT K (.ref a) (.ref l) H Q :=
  ⟨rowD r, _, dp_row ha hr.atoms, dp_tuple hl T hk, rowD_shaped hr, rows_shapedT hk, by rw [rows_any hr hk]; exact q⟩
end
/-! ### Book(..) -/
theorem Inp.same {H H' : Hp} {x : V} {inp : Option (List Th)} (h : Inp H x inp) (s : L2.Same H H') : Inp H' x inp := by
  cases inp with
  | none => exact h.imp id fun ⟨a, xs, e, q, l⟩ => ⟨a, xs, e, q.imp (s _ _) (s _ _), l⟩
  | some ths =>
    obtain ⟨a, xs, e, q, l1, l2, k⟩ := h
    exact ⟨a, xs, e, s _ _ q, l1, l2, fun i y th h1 h2 => (k i y th h1 h2).same s⟩
def BookQ (K : PySem.W.Frag) (vs : List V) (H1 : Hp) (Q : VK) (E : XK) : Prop := ∃ (hx vx ix : V) (inp : Option (List Th)), vs = [hx, vx, ix] ∧ Kn H1 hx ∧ Kn H1 vx ∧ Inp H1 ix inp ∧
  (∀ (what : Str) (at' : Nat), verdict hx vx inp = some (what, at') → ∀ H2 d, L2.Same H1 H2 → H2 d = none → E (.ref (He.ga K "BadBook")) (some d) (L2.upd H2 d (.xd [("at", .int (at' : Int)), ("what", .str what)]))) ∧
  (∀ (n m : Nat) (ths : List Th) (o : Addr) (ks : Ks) (H2 : Hp), hx = .int (n : Int) → vx = .int (m : Int) → inp = some ths → L2.Same H1 H2 → H1 o = none → BookAt K H2 o n m ks → (∀ r, r ∈ ks.map (·.2) ↔ r ∈ ths.map Th.ys) → (∀ th ∈ ths, isRow n m th.ys) → Q (.ref o) H2)
def MkQ (K : PySem.W.Frag) (vs : List V) (H1 : Hp) (Q : VK) (E : XK) : Prop := ∀ x dx, H1 x = none → H1 dx = none → dx ≠ x → spBook (He.ga K "Book") (He.ga K "BadBook") (.ref x :: (vs ++ [])) (L2.upd (L2.upd H1 dx (.own x)) x (.ins (He.ga K "Book") dx [])) (fun v H2 => v = .non ∧ Q (.ref x) H2) E
theorem r_make {K : PySem.W.Frag} {σ : L2.St} {H : Hp} {Q : VK} {E : XK} {al : TA} (h : al σ H fun vs H1 => MkQ K vs H1 Q E) : tMake (He.ga K "Book") (spBook (He.ga K "Book") (He.ga K "BadBook")) [] E al σ H Q := h
theorem mkQ {K : PySem.W.Frag} {vs : List V} {H1 : Hp} {Q : VK} {E : XK} (w : BookQ K vs H1 Q E) : MkQ K vs H1 Q E := by
  intro x dx hx hdx hne
  obtain ⟨h1, v1, i1, inp, rfl, k1, k2, k3, kE, kQ⟩ := w
  have S : L2.Same H1 (L2.upd (L2.upd H1 dx (.own x)) x (.ins (He.ga K "Book") dx [])) := (Same.new hdx).trans (Same.new (by rw [upd_ne hne.symm]; exact hx))
  refine ⟨x, dx, h1, v1, i1, inp, rfl, upd_same, k1.same S, k2.same S, k3.same S, fun what at' hv H2 d s2 hd => kE what at' hv H2 d (S.trans s2) hd, fun n m ths T ks H2 e1 e2 e3 n2 n5 m1 m4 sb ho hT hk hr ha hl hm hg => ⟨rfl, ?_⟩⟩
  refine kQ n m ths x ks H2 e1 e2 e3 (fun b u hb => ?_) hx ⟨⟨dx, T, ho, hT⟩, hk, hr, ha, hl, n2, n5, m1, m4⟩ hm hg
  exact sb b u (ne_of_none hb hx) (S _ _ hb)
section
variable {X : Cx} {K : PySem.W.Frag} {mg : Str → Option Value} {e : Expr} {es : List Expr} {ta : TA} {p pos : Pos} {E : XK}
/-- no exception is wished for: none comes -/
theorem passF {P : Program} {w : World} : Passes (CL P w) X (fun _ _ _ => False) := fun _ _ _ _ _ _ _ h => by
  obtain ⟨_, _, _, _, _, _, _, _, _, _, _, _, z⟩ := h
  exact z.elim
theorem pe_Book (T : Txt K mg) (hr : Room 5 X.A) (hx : Passes (CL X.prog X.w) X E) (ha : PA X (e :: es) ta) (hK : X.K = K := by rfl) (hM : X.mg = mg := by rfl) (hg : Gl X "Book" := by rfl) (he : starEach (e :: es) X.env = (false, eval e X.env) :: starEach es X.env := by rfl) (hpl : (backTo pos (starEach es X.env)).any (·.1) = false := by rfl) :
    PE X (.Call (.Name "Book" p) (e :: es) [] pos) (tMake (He.ga K "Book") (spBook (He.ga K "Book") (He.ga K "BadBook")) [] E ta) := by
  subst hK hM
  obtain ⟨fd, F, ok⟩ := c_Book_init (P := X.prog) (w := X.w) (base := X.base) T
  exact pe_make T.kBook ok hr hg T.g_Book (F.bindsN fun _ _ _ _ _ _ us hl => match us, hl with | [_, _, _, _], _ => rfl) .nil hx ha (by decide) he hpl
end
end Kb
set_option Elab.async false
set_option linter.all false
set_option maxRecDepth 100000
set_option maxHeartbeats 4000000
namespace Kb
open PySem PySem.Spec PyProof.Rows L2
/-! ### own methods below the body -/
section
variable {X : Cx} {pins : List (Addr × Obj)} {σ : L2.St} {H : Hp} {s : Shared} {CX : CXT} {k : Nat} {f : Addr} {fd : FuncData} {ps : List Str} {sp : Sp} {E : XK}
/-- a def is called from a builtin that this body called -/
theorem run_sub {A1 : Around} {us : List Value} {vs : List V} {Q : VK} (hr : Room k A1) (hf : A1.frames = X.A.frames) (F : FnOk X.prog X.w X.K X.mg X.base CX k f fd ps sp) (hb : Binds X.K fd ps []) (hx : Passes CX X E) (I : Inv X pins σ H s) (r : Vals vs us) (h : sp vs H Q E) :
    wpAny (model X.prog X.w) A1 (call (.ref f) us) (EP X pins σ Q) X.xe s := by
  have z := I.env0
  have e0 : Env0 X.prog X.w X.K X.mg X.base A1 X.stack s H := ⟨by rw [hf]; exact z.frames, z.mod, z.bs, z.bsz, z.funs, z.frf, z.hok, z.bare⟩
  have hl : (us ++ []).length = ps.length := by rw [List.append_nil, ← r.length]; exact F.len _ _ _ _ h
  have b := hb s us I.kIn hl
  rw [List.append_nil] at b
  refine wpAny_call (codeAny_mono (F.run A1 X.stack s H ⟨us, []⟩ us vs Q E hr e0 b r h) fun w s2 back => ?_)
  match w, back with
  | .error e, back => exact hx pins σ H s e s2 I back
  | .ok (.ret u), back => exact I.after back
  | .ok .next, back => exact back.elim
  | .ok .brk, back => exact back.elim
  | .ok .cont, back => exact back.elim
end
section
variable {CX : CXT} {P : Program} {w : World} {K : PySem.W.Frag} {mg : Str → Option Value} {base : Heap} {k : Nat} {f : Addr} {x qual : Str} {params : Arguments} {body : List Stmt} {scope : Scope} {fd : FuncData} {N ps : List Str}
/-- a def is run in this very state -/
theorem run_here {A : Around} {outer : List Env} {s : Shared} {H : Hp} {args : Args} {us : List Value} {vs : List V} {Q : VK} {E : XK} (F : FunD K x qual params body scope [] [] f fd) (S : FnScope N ps scope) (hr : Room (k + 1) A) (e0 : Env0 P w K mg base A outer s H) (hb : BindsTo s fd args (ps.zip us)) (rv : Vals vs us) (len : vs.length = ps.length)
    (go : ∀ cdv : Value, ∃ t, PSs (cxOf CX P w K mg base N qual scope f cdv A outer s H E) body t ∧ t { nx := fun _ H' => Q .non H', rt := Q } (L2.start N vs) H) : codeAny (model P w) A (.call (.ref f) args) (CR CX outer P w H s Q E) s := by
  obtain ⟨oc, od, dV, kV, doc, pm, an, cdv, ct, osl, rfl, lk, hcd, _, _⟩ := F.ex
  have inK : K.In s.heap := e0.mod.kin.keeps fun b o e => (e0.bs b o e).1
  have nol : s.heap.NoLimit := e0.mod.nolimit.keeps fun b o e => (e0.bs b o e).1
  have kinds : ∀ y ∈ ps.zip us, scope.names.lookup y.1 = some .local ∨ (scope.names.lookup y.1 = some .cell ∧ ((cellsFrom (s.heap.objs.size + 1) scope.names []).lookup y.1).isSome = true) := by
    rintro ⟨n, v⟩ hy
    exact (S.par n (List.of_mem_zip hy).1).imp id fun q => ⟨q, PySem.W.cellsFrom_some _ _ _ (.inl q)⟩
  refine codeAny_call_function hr.depth (inK _ _ lk) rfl S.co S.gen rfl (PySem.W.codeRec_of inK hcd) (hb _ _ _ _ ?_)
  refine wpAny_newFunctionEnv_cells S.kind kinds fun env e s1 z => ?_
  subst e
  refine ⟨nol.keeps z.toInCall.keep, codeAny_func ?_⟩
  obtain ⟨t, ht, q⟩ := go cdv
  have I := inv_start (CX := CX) (P := P) (w := w) (mg := mg) (base := base) (f := f) (cd := cdv) (E := E) S hr.hd e0 len rv z
  refine wpAny_mono (ht.run [] s1 _ H _ I q) (fun fl s2 hs => ?_) fun _ _ y => y
  match fl, hs with
  | .ret u, ⟨v, σ', H', J, ru, y⟩ => exact ⟨v, H', J.os, J.bare, J.base, J.hok, ru, y⟩
  | .next, ⟨σ', H', J, y⟩ => exact ⟨V.non, H', J.os, J.bare, J.base, J.hok, rfl, y⟩
  | .brk, ⟨_, _, _, y⟩ => exact y.elim
  | .cont, ⟨_, _, _, y⟩ => exact y.elim
end
/-! ### a tuple's iterator -/
def TpO (l it : Addr) : HO := .ext fun h => h.IsTupleIter it l 0
def rIterT (K : PySem.W.Frag) (n : Nat) : List V → Hp → VK → Prop := fun xs H Q => ∃ (l : Addr) (zs : List V), xs = [.ref l] ∧ SqT K H l zs ∧ ∀ it, H it = none → n ≤ it → Q (.ref it) (L2.upd H it (TpO l it))
theorem call_iterT {X : Cx} : CallR X (.builtin "iter") (rIterT X.K X.s_0.heap.objs.size) := by
  intro pins s σ H xs us Q I r h
  obtain ⟨l, zs, rfl, hq, q⟩ := h
  cases r with
  | cons r0 rr =>
    cases rr
    cases r0
    obtain ⟨its, rv, tp, hz⟩ := I.tuple hq
    refine Calls.call_function_entry (by decide +kernel) (by decide +kernel) PySem.W.kdk_entry_iter (PySem.W.kdk_args_iter _) ?_
    unfold Builtin.«iter»
    refine wpAny_bind (m := someArgs "iter" 1 2 _) (wpAny_of_eq (a := [Value.ref l]) (by first | rfl | kernel_rfl!) ?_)
    show wpAny _ _ (pyIter (.ref l) >>= _) _ _ _
    refine wpAny_bind (wpAny_pyIter_tuple tp ?_)
    refine wpAny_pure ⟨_, rfl, .ref s.heap.objs.size, _, I.laid (t' := s.toks) (fun b u e => Heap.get?_push_of_some _ e) (Nat.le_refl _) ?_, rfl, q _ (I.hok.fresh (Nat.le_refl _)) I.sz⟩
    exact ⟨⟨_, Heap.get?_push_size _ rfl, rfl, rfl⟩, ⟨_, Heap.get?_push_size _ rfl⟩, fun h1 h2 a b => a.at fun o e => b o e⟩
theorem k_iterT {X : Cx} (K : PySem.W.Frag) (n : Nat) (h : X.K = K := by rfl) (h2 : X.s_0.heap.objs.size = n := by rfl) : CallR X (.builtin "iter") (rIterT K n) := by
  subst h h2
  exact call_iterT
local macro_rules | `(tactic| walk_at "beg") => `(tactic| simp only [cxK, cxKn, cxW, cxWn, cxP, cxPn, L2.start, List.map_cons, List.map_nil, List.length_cons, List.length_nil, Nat.reduceAdd, Nat.reduceSub, List.replicate_succ, List.replicate_zero, List.cons_append, List.nil_append])
local macro_rules | `(tactic| walk_at "go1") => `(tactic| with_reducible (first
  | refine r_seq ?_ | refine r_asg ?_ | refine r_if ?_ | refine r_ret ?_ | refine r_next ?_ | refine r_drop ?_ | refine r_gsub ?_
  | refine r_c ?_ | refine r_op ?_ | refine r_un ?_ | refine r_cons ?_ | refine r_nil ?_ | refine r_cb ?_ | refine r_call ?_ | refine r_test ?_ | refine r_B ?_ | refine r_bl ?_
  | refine r_and ?_ | refine r_or ?_ | refine r_not ?_ | refine r_ifE ?_ | refine r_andV ?_ | refine r_orV ?_ | refine r_notV ?_ | refine r_blV ?_ | refine r_T ?_ | refine r_F ?_ | refine r_nT ?_ | refine r_nF ?_
  | refine r_int ?_ | refine r_eqI ?_ | refine r_neI ?_
  | refine r_yes ?_ | refine r_lc ?_ | refine r_rng1 ?_ | refine r_rng2 ?_ | refine r_iList ?_ | refine r_iTup ?_ | refine r_for ?_
  | refine r_bm ?_ | refine r_sl ?_ | refine r_np ?_ | refine r_part ?_ | refine r_partI ?_ | refine r_lstRg ?_ | refine r_rg1 ?_ | refine r_rgI ?_ | refine r_isN ?_ | refine r_notN ?_ | refine r_notT ?_ | refine r_mkA ?_ | refine r_callS ?_ | refine r_sfld ?_ | refine r_fld ?_ | refine r_sortSet ?_ | refine r_mkO ?_ | refine r_enum ?_ | refine r_make ?_
  | refine r_I0 ?_ | refine r_U ?_ | refine r_tup ?_ | refine r_lst ?_))
local macro_rules | `(tactic| walk_at "go") => `(tactic| repeat (first | walk_at "go1" | with_reducible refine r_var (by with_unfolding_all rfl) ?_ | with_reducible refine r_lcT (by with_unfolding_all rfl) ?_ | with_reducible refine r_name (by (try simp only [wipe, List.set_cons_succ, List.set_cons_zero]) <;> with_unfolding_all rfl) ?_))
section
variable {P : Program} {w : World} {K : PySem.W.Frag} {mg : Str → Option Value} {base : Heap}
/-! ### len, iter -/
theorem sc_Book_len : FnScope ["self"] ["self"] (defScope s_Book_len) := ⟨rfl, rfl, rfl, by decide +kernel, rfl, by decide +kernel, by decide +kernel⟩
theorem sc_Book_iter : FnScope ["self"] ["self"] (defScope s_Book_iter) := ⟨rfl, rfl, rfl, by decide +kernel, rfl, by decide +kernel, by decide +kernel⟩
def spLenB (K : PySem.W.Frag) : Sp := fun vs H Q _ => ∃ (o : Addr) (n m : Nat) (ks : Ks), vs = [.ref o] ∧ BookAt K H o n m ks ∧ Q (.int ks.length) H
theorem m_len (T : Txt K mg) : ∃ fd, FunD K "__len__" "Book.__len__" (defArgs s_Book_len) (defBody s_Book_len) (defScope s_Book_len) [] [] (He.ma K (He.ga K "Book") "__len__") fd ∧ FnOk P w K mg base CX0 1 (He.ma K (He.ga K "Book") "__len__") fd ["self"] (spLenB K) := by
  obtain ⟨fd, F⟩ := T.u_Book_len
  refine ⟨fd, F, F.ok sc_Book_len (fun vs H Q E h => ?_) fun cdv A outer s H vs Q E hr h => ?_⟩
  · obtain ⟨_, _, _, _, rfl, _⟩ := h
    rfl
  · obtain ⟨o, n, m, ks, rfl, B, k⟩ := h
    obtain ⟨dx, T1, h1, h2⟩ := B.ex
    refine ⟨_, PSs.nox (pss_one (ps_ret (pe_callB (k_len K) (by rfl) T.n_len b_len (pa_cons (pe_fld (pv 0) rfl) pa_nil)))), ?_⟩
    walk_at "beg"
    walk_at "go"
    refine ⟨o, _, dx, _, _, rfl, h1, T.cBook, T.a_Book_inputs, rfl, ?_⟩
    walk_at "go"
    refine r_len (.inr (SqT.of h2)) ?_
    rw [refs_len]
    exact k
theorem k_lenB {X : Cx} (T : Txt K mg) (hr : Room 2 X.A) (hK : X.K = K := by rfl) (hM : X.mg = mg := by rfl) : CallR X (.builtin "len") (fun xs H Q => ∃ (o : Addr) (n m : Nat) (ks : Ks), xs = [.ref o] ∧ BookAt K H o n m ks ∧ Q (.int ks.length) H) := by
  subst hK hM
  intro pins s σ H xs us Q I r h
  obtain ⟨o, n, m, ks, rfl, B, q⟩ := h
  cases r with
  | cons r0 rr =>
    cases rr
    cases r0
    obtain ⟨fd, F, ok⟩ := m_len (P := X.prog) (w := X.w) (base := X.base) T
    obtain ⟨dx, T1, h1, h2⟩ := B.ex
    obtain ⟨mA, J, _⟩ := ins_get I.hok h1
    obtain ⟨od, J, _⟩ := J.look
    obtain ⟨ma, hF⟩ := I.fr
    refine PySem.W.len_K hF I.ok.mod.kin J T.m_Book_len.at_ T.m_Book_len.fn ?_
    refine wpAny_mono (run_sub (us := [.ref o]) (vs := [.ref o]) hr.in1 rfl ok (F.bindsN fun _ _ _ _ _ _ us hl => match us, hl with | [_], _ => rfl) pass0 I (.cons rfl .nil) (Q := fun v H' => v = .int ks.length ∧ H' = H) ⟨o, n, m, ks, rfl, B, rfl, rfl⟩) (fun u s2 z => ?_) fun _ _ y => y
    obtain ⟨v, H', I2, rv, rfl, rfl⟩ := z
    obtain ⟨tk, rfl⟩ := rv
    have hb : (ks.length : Int) < 2 ^ 63 := by have := B.len; omega
    exact ⟨⟨by omega, hb⟩, .int ks.length, H', I2.tok _, ⟨_, rfl⟩, q⟩
/-- for x in o, o a book: its own __iter__ hands the tuple's iterator -/
def iBook (K : PySem.W.Frag) (te : TE) : TI := fun σ H R => te σ H fun x H1 => ∃ (o : Addr) (n m : Nat) (ks : Ks) (dx T1 : Addr), x = .ref o ∧ H1 o = some (.ins (He.ga K "Book") dx [("n", .int (n : Int)), ("m", .int (m : Int)), ("inputs", .ref T1)]) ∧ H1 T1 = some (.tup (refs ks)) ∧ R (Itt K T1) H1
theorem pi_book {X : Cx} {tg e : Expr} {te : TE} (T : Txt K mg) (hr : Room 2 X.A) (he : PE X e te) (hK : X.K = K := by rfl) (hM : X.mg = mg := by rfl) : PI X tg e (iBook K te) := by
  subst hK hM
  refine ⟨fun pins s σ H R I h => thn (he.run pins s σ H _ I h) fun u s1 z => ?_⟩
  obtain ⟨x, H1, I1, rx, o, n, m, ks, dx, T1, rfl, h1, h2, q⟩ := z
  cases rx
  obtain ⟨fd, F⟩ := T.u_Book_iter
  obtain ⟨mA, J, _⟩ := ins_get I1.hok h1
  obtain ⟨od, J, _⟩ := J.look
  obtain ⟨ma, hF⟩ := I1.fr
  have M := T.m_Book_iter
  refine PySem.W.owit_iter hF I1.ok.mod.kin J M.at_ M.fn ?_
  have b := F.bindsN (ps := ["self"]) (fun _ _ _ _ _ _ us hl => match us, hl with | [_], _ => rfl) s1 [.ref o] I1.kIn rfl
  rw [List.append_nil] at b
  refine wpAny_call (codeAny_mono (run_here (k := 1) (CX := CX0) (E := E0) (vs := [.ref o]) (us := [.ref o]) (Q := fun v H' => ∃ it, v = .ref it ∧ H1 it = none ∧ s1.heap.objs.size ≤ it ∧ H' = L2.upd H1 it (TpO T1 it)) F sc_Book_iter hr I1.env0 b (.cons rfl .nil) rfl fun cdv => ?_) fun w s2 back => ?_)
  · refine ⟨_, PSs.nox (pss_one (ps_ret (pe_callB (k_iterT X.K s1.heap.objs.size) (by rfl) T.n_iter b_iter (pa_cons (pe_fld (pv 0) rfl) pa_nil)))), ?_⟩
    walk_at "beg"
    walk_at "go"
    refine ⟨o, _, dx, _, _, rfl, h1, T.cBook, T.a_Book_inputs, rfl, ?_⟩
    walk_at "go"
    exact ⟨T1, refs ks, rfl, SqT.of h2, fun it n1 n2 => ⟨it, rfl, n1, n2, rfl⟩⟩
  · match w, back with
    | .error e, back => exact back.elim
    | .ok .next, back => exact back.elim
    | .ok .brk, back => exact back.elim
    | .ok .cont, back => exact back.elim
    | .ok (.ret u), back =>
      obtain ⟨v, H', I2, rv, it, rfl, n1, n2, rfl⟩ := I1.after back
      cases rv
      have st : s2.heap.IsTupleIter it T1 0 := (I2.hok it _ upd_same).1
      have hT : s2.TypeIs (.ref it) "tuple_iterator" := st.typeIs
      unfold PySem.W.OwitIt
      refine wpAny_specialOf hT slot_tupleiter_next.lookup ?_
      have I3 : Inv X pins σ (ItX.dropH (L2.upd H1 it (TpO T1 it)) it) s2 := ItX.inv_drop I2 upd_same
      rw [ItX.dropH_upd n1] at I3
      have fo := ItX.inv_fp I2 (a := it) upd_same (Nat.le_trans I1.sz n2)
      rw [ItX.dropH_upd n1] at fo
      refine ⟨it, [it], _, Itt X.K T1, H1, rfl, I3, turn_tuple T1 it, st, fun b hb => ?_, q⟩
      rw [List.mem_singleton.mp hb]
      exact fo
/-! ### == -/
theorem sc_Book_eq : FnScope ["self", "other"] ["self", "other"] (defScope s_Book_eq) := ⟨rfl, rfl, rfl, by decide +kernel, rfl, by decide +kernel, by decide +kernel⟩
/-- a book against a book, or against a tuple -/
def EqQ (K : PySem.W.Frag) (x y : V) (H : Hp) (Q : VK) : Prop := ∃ (o : Addr) (n m : Nat) (ks : Ks), x = .ref o ∧ BookAt K H o n m ks ∧
  ((∃ (o2 : Addr) (n2 m2 : Nat) (js : Ks), y = .ref o2 ∧ BookAt K H o2 n2 m2 js ∧ Q (.bl (decide (n = n2 ∧ m = m2 ∧ ks.map (·.2) = js.map (·.2)))) H) ∨ (∃ (t : Addr) (xs : List V), y = .ref t ∧ H t = some (.tup xs) ∧ Q (.bl false) H))
def spEqB (K : PySem.W.Frag) : Sp := fun vs H Q _ => ∃ x y, vs = [x, y] ∧ EqQ K x y H Q
theorem book_ty (T : Txt K mg) {H : Hp} {o : Addr} {n m : Nat} {ks : Ks} (B : BookAt K H o n m ks) : TyX K H (.ref o) (.ref (He.ga K "Book")) := by
  obtain ⟨dx, T1, h1, _⟩ := B.ex
  have L := T.l_Book
  exact .base (.ins h1 T.cBook L.cl L.gt L.tk L.ob)
theorem m_eq (T : Txt K mg) : ∃ fd, FunD K "__eq__" "Book.__eq__" (defArgs s_Book_eq) (defBody s_Book_eq) (defScope s_Book_eq) [] [] (He.ma K (He.ga K "Book") "__eq__") fd ∧ FnOk P w K mg base CX0 1 (He.ma K (He.ga K "Book") "__eq__") fd ["self", "other"] (spEqB K) := by
  obtain ⟨fd, F⟩ := T.u_Book_eq
  refine ⟨fd, F, F.ok sc_Book_eq (fun vs H Q E h => ?_) fun cdv A outer s H vs Q E hr h => ?_⟩
  · obtain ⟨_, _, rfl, _⟩ := h
    rfl
  · obtain ⟨x, y, rfl, o, n, m, ks, rfl, B, k⟩ := h
    obtain ⟨dx, T1, h1, h2⟩ := B.ex
    have hin : ∀ p ∈ ks, Ints p.2 := fun p hp => (B.rows p hp).ints
    refine ⟨_, PSs.nox (pss_one (ps_ret (pe_and (pe_callB (k_isi K) (by rfl) T.n_isinstance b_isinstance (pa_cons (pv 1) (pa_cons (pe_glob (v := .ref (He.ga K "Book")) rfl T.g_Book rfl) pa_nil))) (pe_and (pe_cmpR op_eq (pe_fld (pv 0) rfl) (pe_fld (pv 1) rfl) (nomark _)) (pe_and (pe_cmpR op_eq (pe_fld (pv 0) rfl) (pe_fld (pv 1) rfl) (nomark _)) (pe_one (pe_cmpR (k_eqD K (hu64 hr)) (pe_fld (pv 0) rfl) (pe_fld (pv 1) rfl) (nomark _)))))))), ?_⟩
    walk_at "beg"
    walk_at "go"
    rcases k with ⟨o2, n2, m2, js, rfl, B2, k⟩ | ⟨t, xs, rfl, ht, k⟩
    · refine ⟨.ref o2, .ref (He.ga K "Book"), _, _, true, rfl, .own _, book_ty T B2, T.i_Book_Book, ?_⟩
      obtain ⟨dy, T2, g1, g2⟩ := B2.ex
      have hin2 : ∀ p ∈ js, Ints p.2 := fun p hp => (B2.rows p hp).ints
      walk_at "go"
      refine ⟨o, _, dx, _, _, rfl, h1, T.cBook, T.a_Book_n, rfl, ?_⟩
      walk_at "go"
      refine ⟨o2, _, dy, _, _, rfl, g1, T.cBook, T.a_Book_n, rfl, ?_⟩
      walk_at "go"
      refine ite_d (fun e1 => ?_) (fun e1 => ?_)
      · walk_at "go"
        refine ⟨o, _, dx, _, _, rfl, h1, T.cBook, T.a_Book_m, rfl, ?_⟩
        walk_at "go"
        refine ⟨o2, _, dy, _, _, rfl, g1, T.cBook, T.a_Book_m, rfl, ?_⟩
        walk_at "go"
        refine ite_d (fun e2 => ?_) (fun e2 => ?_)
        · walk_at "go"
          refine ⟨o, _, dx, _, _, rfl, h1, T.cBook, T.a_Book_inputs, rfl, ?_⟩
          walk_at "go"
          refine ⟨o2, _, dy, _, _, rfl, g1, T.cBook, T.a_Book_inputs, rfl, ?_⟩
          walk_at "go"
          refine r_eqRows h2 B.tups hin g2 B2.tups hin2 ?_
          have e : decide (n = n2 ∧ m = m2 ∧ ks.map (·.2) = js.map (·.2)) = decide (ks.map (·.2) = js.map (·.2)) := decide_eq_decide.mpr ⟨fun z => z.2.2, fun z => ⟨by omega, by omega, z⟩⟩
          rw [e] at k
          exact k
        · rw [decide_eq_false (fun z => e2 (by rw [z.2.1]))] at k
          exact k
      · rw [decide_eq_false (fun z => e1 (by rw [z.1]))] at k
        exact k
    · refine ⟨.ref t, .ref (He.ga K "Book"), _, _, false, rfl, .own _, .base (.tup ht), T.i_tuple_Book, ?_⟩
      walk_at "go"
      exact k
theorem notFirst_tup {C : Addr} : PySem.W.notFirst K C (.type "tuple") = true := by
  unfold PySem.W.notFirst
  rw [Bool.or_eq_true]
  right
  have e : PySem.W.subIn K (.type "tuple") (.ref C) = some false := by
    show (PySem.fastBuiltinMro "tuple").map (·.contains (Value.ref C)) = some false
    have e2 : PySem.fastBuiltinMro "tuple" = some [.type "tuple", .type "object"] := by first | rfl | decide +kernel
    rw [e2]
    rfl
  rw [e]
  rfl
def rEqB (K : PySem.W.Frag) : R2 := fun x y H Q => EqQ K x y H Q
theorem k_eqB {X : Cx} (T : Txt K mg) (hr : Room 1 X.A) (hK : X.K = K := by rfl) (hM : X.mg = mg := by rfl) : OpR X (compareOp .Eq) (rEqB K) := by
  subst hK hM
  intro pins s σ H x y v u Q I rx ry h
  obtain ⟨o, n, m, ks, rfl, B, q⟩ := id h
  cases rx
  obtain ⟨fd, F, ok⟩ := m_eq (P := X.prog) (w := X.w) (base := X.base) T
  obtain ⟨dx, T1, h1, h2⟩ := B.ex
  obtain ⟨mA, J, _⟩ := ins_get I.hok h1
  obtain ⟨od, J, _⟩ := J.look
  obtain ⟨ma, hF⟩ := I.fr
  have M := T.m_Book_eq
  have ty : ∃ tb, PySem.W.Looks (model X.prog X.w) s.heap (typeOf u) tb ∧ PySem.W.notFirst X.K (He.ga X.K "Book") tb = true := by
    rcases q with ⟨o2, n2, m2, js, rfl, B2, _⟩ | ⟨t, xs, rfl, ht, _⟩
    · obtain ⟨dy, T2, g1, _⟩ := B2.ex
      cases ry
      obtain ⟨mB, J', _⟩ := ins_get I.hok g1
      obtain ⟨od', J', _⟩ := J'.look
      exact ⟨_, J'.type, by simp [PySem.W.notFirst]⟩
    · cases ry
      obtain ⟨its, rv, ⟨ob, ho, hc, _⟩, _⟩ := I.tuple (SqT.of ht)
      exact ⟨.type "tuple", fun A Q E s k q => wpAny_typeOf_ref (k _ _ ho) (by rw [hc]; exact q), notFirst_tup⟩
  obtain ⟨tb, L, nf⟩ := ty
  refine PySem.W.cmp_K (op := .Eq) hr.units0 hF I.ok.mod.kin J L nf M.at_ M.fn ?_
  have hq : EqQ X.K (.ref o) y H (fun v H' => Q v H' ∧ ∃ b, v = .bl b) := by
    refine ⟨o, n, m, ks, rfl, B, ?_⟩
    rcases q with ⟨o2, n2, m2, js, e, B2, q⟩ | ⟨t, xs, e, ht, q⟩
    · exact .inl ⟨o2, n2, m2, js, e, B2, q, _, rfl⟩
    · exact .inr ⟨t, xs, e, ht, q, _, rfl⟩
  refine wpAny_mono (run_sub (us := [.ref o, u]) (vs := [.ref o, y]) hr rfl ok (F.bindsN fun _ _ _ _ _ _ us hl => match us, hl with | [_, _], _ => rfl) pass0 I (.cons rfl (.cons ry .nil)) ⟨_, _, rfl, hq⟩) (fun u2 s2 z => ?_) fun _ _ y => y
  obtain ⟨v, H', I2, rv, q2, b, rfl⟩ := z
  cases rv
  exact ⟨.bl b, H', I2, rfl, q2⟩
end
end Kb
set_option Elab.async false
set_option linter.all false
set_option maxRecDepth 100000
set_option maxHeartbeats 4000000
namespace Kb
open PySem PySem.Spec PyProof.Rows L2
/-! ### for over a list or a tuple -/
def iOr (a b : TI) : TI := fun σ H R => a σ H R ∨ b σ H R
theorem pi_or {X : Cx} {tg e : Expr} {a b : TI} (ha : PI X tg e a) (hb : PI X tg e b) : PI X tg e (iOr a b) := ⟨fun pins s σ H R I h => h.elim (fun h => ha.run pins s σ H R I h) fun h => hb.run pins s σ H R I h⟩
theorem for_seq {K : PySem.W.Frag} {g : TG} {tb : TS} {D : Ends} {σ : L2.St} {H : Hp} {te : TE} {a : Addr} {xs : List V} (s : H a = some (.lst xs) ∨ H a = some (.tup xs)) (ev : ∀ R : V → Hp → Prop, R (.ref a) H → te σ H R) (Pv : Nat → L2.St → Hp → Prop) (h0 : Pv 0 σ H)
    (hl : ∀ i σ H', i ≤ xs.length → Pv i σ H' → L2.Same H H') (hs : ∀ i x σ H, xs[i]? = some x → Pv i σ H → g x σ H fun σ2 H2 => tb { D with nx := Pv (i + 1), ct := Pv (i + 1), bk := D.nx } σ2 H2) (hd : ∀ σ H, Pv xs.length σ H → D.nx σ H) : tFor (iOr (iList K te) (iTup K te)) g tb D σ H := by
  rcases s with s | s
  · refine r_for (.inl (r_iList (ev _ ?_)))
    refine r_il (SqL.of s) ?_
    exact forR_list xs Pv h0 (fun i σ H' hi p => SqL.of (hl i σ H' hi p _ _ s)) hs hd
  · refine r_for (.inr (r_iTup (ev _ ?_)))
    refine r_it (SqT.of s) ?_
    exact forR_tup xs Pv h0 (fun i σ H' hi p => SqT.of (hl i σ H' hi p _ _ s)) hs hd
local macro_rules | `(tactic| walk_at "beg") => `(tactic| simp only [cxK, cxKn, cxW, cxWn, cxP, cxPn, L2.start, List.map_cons, List.map_nil, List.length_cons, List.length_nil, Nat.reduceAdd, Nat.reduceSub, List.replicate_succ, List.replicate_zero, List.cons_append, List.nil_append])
local macro_rules | `(tactic| walk_at "go1") => `(tactic| with_reducible (first
  | refine r_seq ?_ | refine r_asg ?_ | refine r_if ?_ | refine r_ret ?_ | refine r_next ?_ | refine r_drop ?_ | refine r_gsub ?_
  | refine r_c ?_ | refine r_op ?_ | refine r_un ?_ | refine r_cons ?_ | refine r_nil ?_ | refine r_cb ?_ | refine r_call ?_ | refine r_test ?_ | refine r_B ?_ | refine r_bl ?_
  | refine r_and ?_ | refine r_or ?_ | refine r_not ?_ | refine r_ifE ?_ | refine r_andV ?_ | refine r_orV ?_ | refine r_notV ?_ | refine r_blV ?_ | refine r_T ?_ | refine r_F ?_ | refine r_nT ?_ | refine r_nF ?_
  | refine r_int ?_ | refine r_eqI ?_ | refine r_neI ?_
  | refine r_yes ?_ | refine r_lc ?_ | refine r_rng1 ?_ | refine r_rng2 ?_ | refine r_iList ?_ | refine r_iTup ?_ | refine r_for ?_
  | refine r_bm ?_ | refine r_sl ?_ | refine r_np ?_ | refine r_part ?_ | refine r_partI ?_ | refine r_lstRg ?_ | refine r_rg1 ?_ | refine r_rgI ?_ | refine r_isN ?_ | refine r_notN ?_ | refine r_notT ?_ | refine r_mkA ?_ | refine r_callS ?_ | refine r_sfld ?_ | refine r_fld ?_ | refine r_sortSet ?_ | refine r_mkO ?_ | refine r_enum ?_ | refine r_make ?_
  | refine r_I0 ?_ | refine r_U ?_ | refine r_tup ?_ | refine r_lst ?_))
local macro_rules | `(tactic| walk_at "go") => `(tactic| repeat (first | walk_at "go1" | with_reducible refine r_var (by with_unfolding_all rfl) ?_ | with_reducible refine r_lcT (by with_unfolding_all rfl) ?_ | with_reducible refine r_name (by (try simp only [wipe, List.set_cons_succ, List.set_cons_zero]) <;> with_unfolding_all rfl) ?_))
section
variable {P : Program} {w : World} {K : PySem.W.Frag} {mg : Str → Option Value} {base : Heap}
/-! ### in -/
/-- is the thing an entry of the rows -/
def inB (n : Nat) (ks : Ks) : Th → Bool
  | .at _ => false
  | .sq _ _ ys => decide (ys.length = n) && (ys.all fun v => wholeB v none none) && decide (ys ∈ ks.map (·.2))
theorem whole_any {v : V} (h : wholeB v none none = true) : ∃ i : Int, v = .int i := by
  cases v with
  | int i => exact ⟨i, rfl⟩
  | _ => cases h
theorem inB_sq {n : Nat} {ks : Ks} {l : Bool} {a : Addr} {ys : List V} : inB n ks (.sq l a ys) = (decide (ys.length = n) && (ys.all fun v => wholeB v none none) && decide (ys ∈ ks.map (·.2))) := rfl
theorem inB_not {n : Nat} {ks : Ks} {l : Bool} {a : Addr} {ys : List V} (h : ys.length ≠ n ∨ ∃ v ∈ ys, wholeB v none none = false) : inB n ks (.sq l a ys) = false := by
  rw [inB_sq]
  rcases h with h | ⟨v, hv, h⟩
  · rw [decide_eq_false h]
    rfl
  · have e : (ys.all fun v => wholeB v none none) = false := by
      rw [List.all_eq_false]
      exact ⟨v, hv, by rw [h]; decide⟩
    rw [e, Bool.and_false]
    rfl
theorem sc_Book_contains : FnScope ["self", "thing", "value"] ["self", "thing"] (defScope s_Book_contains) := ⟨rfl, rfl, rfl, by decide +kernel, rfl, by decide +kernel, by decide +kernel⟩
def spIn (K : PySem.W.Frag) : Sp := fun vs H Q _ => ∃ (o : Addr) (n m : Nat) (ks : Ks) (x : V) (th : Th), vs = [.ref o, x] ∧ BookAt K H o n m ks ∧ Is H x th ∧ ∀ H', L2.Same H H' → Q (.bl (inB n ks th)) H'
theorem m_contains (T : Txt K mg) : ∃ fd, FunD K "__contains__" "Book.__contains__" (defArgs s_Book_contains) (defBody s_Book_contains) (defScope s_Book_contains) [] [] (He.ma K (He.ga K "Book") "__contains__") fd ∧ FnOk P w K mg base CX0 2 (He.ma K (He.ga K "Book") "__contains__") fd ["self", "thing"] (spIn K) := by
  have c_is_whole : CalX P w K mg base CX0 1 "is_whole" spWhole [.non, .non] := c_whole1 T
  obtain ⟨fd, F⟩ := T.u_Book_contains
  refine ⟨fd, F, F.ok sc_Book_contains (fun vs H Q E h => ?_) fun cdv A outer s H vs Q E hr h => ?_⟩
  · obtain ⟨_, _, _, _, _, _, rfl, _⟩ := h
    rfl
  · obtain ⟨o, n, m, ks, x, th, rfl, B, hx, k⟩ := h
    refine ⟨_, PSs.nox (pss_cons (ps_if (PW.pt (pw_or (pt_not (pt_val (pe_callB (k_isiT K) (by rfl) T.n_isinstance b_isinstance (pa_cons (pv 1) (pa_cons (pe_tup (pa_cons (pe_bltn (v := .ty "list") (by rfl) T.n_list b_list rfl) (pa_cons (pe_bltn (v := .ty "tuple") (by rfl) T.n_tuple b_tuple rfl) pa_nil))) pa_nil))))) (pw_or1 (pt_cmpR op_ne (pe_callB (k_len K) (by rfl) T.n_len b_len (pa_cons (pv 1) pa_nil)) (pe_fld (pv 0) rfl) (nomark _))))) (pss_one (ps_ret pe_bl)) pss_nil)
      (pss_cons (ps_for PassesOwn.never rfl (pi_or (pi_list (pv 1)) (pi_tup (pv 1))) (pg_name (i := 2) sc_Book_contains.nd rfl (.inl rfl)) (pss_one (ps_if (pt_not (pt_val (pc0 c_is_whole hr (by decide) (pa_cons (pv 2) pa_nil)))) (pss_one (ps_ret pe_bl)) pss_nil)))
      (pss_one (ps_ret (pe_cmpR (k_inT K (hu65 hr)) (pe_callTy (k_tup K) (by rfl) T.n_tuple b_tuple (pa_cons (pv 1) pa_nil)) (pe_fld (pv 0) rfl) (by rfl)))))), ?_⟩
    walk_at "beg"
    walk_at "go"
    refine ⟨sz10 (by simp), r_new fun t H1 nt s1 ht _ => ?_⟩
    walk_at "go"
    have hx1 := hx.same s1
    have B1 := B.same s1
    obtain ⟨dx, T1, h1, h2⟩ := B1.ex
    have hin : ∀ p ∈ ks, Ints p.2 := fun p hp => (B.rows p hp).ints
    refine r_isiLT hx1.kn ht ?_
    cases th with
    | «at» v =>
      obtain ⟨rfl, hv⟩ := hx1
      rw [kind_at hv]
      walk_at "go"
      exact k H1 s1
    | sq l a ys =>
      obtain ⟨rfl, hs, hk⟩ := sq_of hx1
      have hs2 : SqL K H1 a ys ∨ SqT K H1 a ys := hs.imp SqL.of SqT.of
      rw [kind_sq hs]
      walk_at "go"
      refine r_len hs2 ?_
      walk_at "go"
      refine ⟨o, _, dx, _, _, rfl, h1, T.cBook, T.a_Book_n, rfl, ?_⟩
      walk_at "go"
      refine ite_nd (fun ne => ?_) (fun e => ?_)
      · walk_at "go"
        rw [inB_not (.inl (by omega))] at k
        exact k H1 s1
      · have hl : ys.length = n := by omega
        walk_at "go"
        refine for_seq hs (fun R r => r_var rfl r) (fun i σ H2 => ∃ v2 : Option V, σ = [some (.ref o), some (.ref a), v2] ∧ H2 = H1 ∧ ∀ j y, j < i → ys[j]? = some y → wholeB y none none = true) ?_ ?_ ?_ ?_
        · exact ⟨none, rfl, rfl, fun j y hj _ => absurd hj (Nat.not_lt_zero _)⟩
        · rintro i σ H2 _ ⟨v2, rfl, rfl, _⟩
          exact Same.refl _
        · rintro i y σ H2 hi ⟨v2, rfl, rfl, h3⟩
          have hm := List.mem_of_getElem? hi
          walk_at "go"
          refine ⟨y, none, none, rfl, hk _ hm, ?_⟩
          refine ⟨_, rfl, ?_⟩
          cases ho : wholeB y none none with
          | true =>
            walk_at "go"
            exact ⟨_, rfl, rfl, fun j z hj hz => by
              by_cases e : j = i
              · rw [e, hi] at hz
                cases hz
                exact ho
              · exact h3 j z (by omega) hz⟩
          | false =>
            walk_at "go"
            rw [inB_not (.inr ⟨y, hm, ho⟩)] at k
            exact k H2 s1
        · rintro σ H2 ⟨v2, rfl, rfl, h3⟩
          have all : ∀ v ∈ ys, wholeB v none none = true := fun v hv => by
            obtain ⟨j, hj⟩ := List.getElem?_of_mem hv
            exact h3 j v (List.getElem?_eq_some_iff.mp hj).1 hj
          have iy : Ints ys := fun v hv => whole_any (all v hv)
          walk_at "go"
          refine r_tupS hs fun b H3 s3 hb _ _ => ?_
          walk_at "go"
          refine ⟨o, _, dx, _, _, rfl, s3 _ _ h1, T.cBook, T.a_Book_inputs, rfl, ?_⟩
          refine r_inTup hb iy (s3 _ _ h2) (B1.tups.same s3) hin ?_
          have e : inB n ks (.sq l a ys) = decide (ys ∈ ks.map (·.2)) := by
            rw [inB_sq, decide_eq_true hl, List.all_eq_true.mpr all]
            rfl
          rw [e] at k
          exact k H3 (s1.trans s3)
def rInB (K : PySem.W.Frag) (neg : Bool) : R2 := fun x y H Q => ∃ (o : Addr) (n m : Nat) (ks : Ks) (th : Th), y = .ref o ∧ BookAt K H o n m ks ∧ Is H x th ∧ ∀ H', L2.Same H H' → Q (.bl (if neg then !inB n ks th else inB n ks th)) H'
theorem run_in {X : Cx} {pins : List (Addr × Obj)} {σ : L2.St} {H : Hp} {s : Shared} (T : Txt X.K X.mg) (hr : Room 2 X.A) (I : Inv X pins σ H s) {o : Addr} {n m : Nat} {ks : Ks} {x : V} {v : Value} {th : Th} {Q : Bool → Shared → Prop} (B : BookAt X.K H o n m ks) (hx : Is H x th) (rx : RelV x v)
    (q : ∀ H' s', L2.Same H H' → Inv X pins σ H' s' → Q (inB n ks th) s') : wpAny (model X.prog X.w) X.A (call (.ref (He.ma X.K (He.ga X.K "Book") "__contains__")) [.ref o, v]) (fun r s' => wpAny (model X.prog X.w) X.A (truthy r) Q X.xe s') X.xe s := by
  obtain ⟨fd, F, ok⟩ := m_contains (P := X.prog) (w := X.w) (base := X.base) T
  refine wpAny_mono (run_sub (us := [.ref o, v]) (vs := [.ref o, x]) hr rfl ok (F.bindsN fun _ _ _ _ _ _ us hl => match us, hl with | [_, _], _ => rfl) pass0 I (.cons rfl (.cons rx .nil)) (Q := fun v H' => v = .bl (inB n ks th) ∧ L2.Same H H') ⟨o, n, m, ks, x, th, rfl, B, hx, fun H' s => ⟨rfl, s⟩⟩) (fun u2 s2 z => ?_) fun _ _ y => y
  obtain ⟨v, H', I2, rv, rfl, S⟩ := z
  cases rv
  exact wpAny_truthy_bool (q H' s2 S I2)
theorem k_inB {X : Cx} (T : Txt K mg) (hr : Room 2 X.A) (hK : X.K = K := by rfl) (hM : X.mg = mg := by rfl) : OpR X (compareOp .In) (rInB K false) := by
  subst hK hM
  intro pins s σ H x y v u Q I rx ry h
  obtain ⟨o, n, m, ks, th, rfl, B, hx, q⟩ := h
  cases ry
  obtain ⟨dx, T1, h1, _⟩ := B.ex
  obtain ⟨mA, J, _⟩ := ins_get I.hok h1
  obtain ⟨od, J, _⟩ := J.look
  obtain ⟨ma, hF⟩ := I.fr
  exact PySem.W.in_K hF I.ok.mod.kin J T.m_Book_contains.at_ T.m_Book_contains.fn (run_in T hr I B hx rx fun H' s' S J' => ⟨.bl _, H', J', rfl, q H' S⟩)
theorem k_ninB {X : Cx} (T : Txt K mg) (hr : Room 2 X.A) (hK : X.K = K := by rfl) (hM : X.mg = mg := by rfl) : OpR X (compareOp .NotIn) (rInB K true) := by
  subst hK hM
  intro pins s σ H x y v u Q I rx ry h
  obtain ⟨o, n, m, ks, th, rfl, B, hx, q⟩ := h
  cases ry
  obtain ⟨dx, T1, h1, _⟩ := B.ex
  obtain ⟨mA, J, _⟩ := ins_get I.hok h1
  obtain ⟨od, J, _⟩ := J.look
  obtain ⟨ma, hF⟩ := I.fr
  exact PySem.W.notIn_K hF I.ok.mod.kin J T.m_Book_contains.at_ T.m_Book_contains.fn (run_in T hr I B hx rx fun H' s' S J' => ⟨.bl _, H', J', rfl, q H' S⟩)
end
end Kb
set_option Elab.async false
set_option linter.all false
set_option maxRecDepth 100000
set_option maxHeartbeats 4000000
namespace Kb
open PySem PySem.Spec PyProof.Rows L2
/-! ### calls with the wider air -/
theorem passL {P : Program} {w : World} {K : PySem.W.Frag} {mg : Str → Option Value} {base : Heap} {N : List Str} {qual : Str} {scope : Scope} {f : Addr} {cd : Value} {A : Around} {outer : List Env} {s : Shared} {H : Hp} {E : XK} : Passes (CL P w) (cxOf (CL P w) P w K mg base N qual scope f cd A outer s H E) E :=
  L2.passes_call (L2.takes_of rfl rfl rfl rfl) fun _ _ _ _ h => h
/-- rows as things -/
def thOf (p : Addr × List V) : Th := .sq false p.1 p.2
theorem is_th {H : Hp} {p : Addr × List V} (e : H p.1 = some (.tup p.2)) (h : Ints p.2) : Is H (.ref p.1) (thOf p) := ⟨rfl, e, fun y hy => by
  obtain ⟨i, rfl⟩ := h y hy
  exact kn_int⟩
theorem inp_rows {H : Hp} {l : Addr} {ks : Ks} (e : H l = some (.lst (refs ks))) (T : Tups H ks) (h : ∀ p ∈ ks, Ints p.2) (hl : ks.length ≤ 256) : Inp H (.ref l) (some (ks.map thOf)) := by
  refine ⟨l, refs ks, rfl, e, by rw [refs_len]; exact hl, by rw [refs_len, List.length_map], fun i y th h1 h2 => ?_⟩
  obtain ⟨p, hp, rfl, hm⟩ := refs_get h1
  rw [List.getElem?_map, hp] at h2
  cases h2
  exact is_th (T p hm) (h p hm)
theorem bad_row {n m : Nat} {p : Addr × List V} (h : isRow n m p.2) : Th.bad (okE m) n (thOf p) = none := by
  unfold thOf
  rw [bad_sq, if_pos h.1, badAt_none.mpr fun y hy => okE_iff.mpr (h.2 y hy)]
  rfl
theorem badIn_rows {n m : Nat} {ks : Ks} (h : ∀ p ∈ ks, isRow n m p.2) : badIn n m (ks.map thOf) = none := badAt_none.mpr fun th hth => by
  obtain ⟨p, hp, rfl⟩ := List.mem_map.mp hth
  rw [bad_row (h p hp)]
  rfl
theorem whole_hi {n lo hi : Nat} (h1 : lo ≤ n) (h2 : n ≤ hi) : wholeB (.int (n : Int)) (some (lo : Int)) (some (hi : Int)) = true := by
  unfold wholeB
  simp only [Bool.and_eq_true, decide_eq_true_eq]
  omega
theorem verdict_rows {n m : Nat} {ks : Ks} (n2 : 2 ≤ n) (n5 : n ≤ 5) (m1 : 1 ≤ m) (m4 : m ≤ 4) (h : ∀ p ∈ ks, isRow n m p.2) : verdict (.int (n : Int)) (.int (m : Int)) (some (ks.map thOf)) = none := by
  rw [verdict_in (whole_hi (lo := 2) (hi := 5) n2 n5) (whole_hi (lo := 1) (hi := 4) m1 m4), badIn_rows h]
  rfl
theorem ys_th (ks : Ks) : (ks.map thOf).map Th.ys = ks.map (·.2) := by
  rw [List.map_map]
  rfl
/-- Book(n, m, a list of rows) -/
theorem book_rows {K : PySem.W.Frag} {H1 : Hp} {Q : VK} {E : XK} {n m : Nat} {l : Addr} {ks : Ks} (n2 : 2 ≤ n) (n5 : n ≤ 5) (m1 : 1 ≤ m) (m4 : m ≤ 4) (e : H1 l = some (.lst (refs ks))) (T : Tups H1 ks) (h : ∀ p ∈ ks, isRow n m p.2) (hl : ks.length ≤ 256)
    (k : ∀ (o : Addr) (js : Ks) (H2 : Hp), L2.Same H1 H2 → H1 o = none → BookAt K H2 o n m js → (∀ r, r ∈ js.map (·.2) ↔ r ∈ ks.map (·.2)) → Q (.ref o) H2) : BookQ K [.int (n : Int), .int (m : Int), .ref l] H1 Q E := by
  refine ⟨_, _, _, some (ks.map thOf), rfl, kn_int, kn_int, inp_rows e T (fun p hp => (h p hp).ints) hl, fun what at' hv => ?_, fun n' m' ths o js H2 e1 e2 e3 s no B hm _ => ?_⟩
  · rw [verdict_rows n2 n5 m1 m4 h] at hv
    cases hv
  · injection e1 with e1
    injection e2 with e2
    have en : n' = n := by omega
    have em : m' = m := by omega
    subst en em
    cases e3
    rw [ys_th] at hm
    exact k o js H2 s no B hm
local macro_rules | `(tactic| walk_at "beg") => `(tactic| simp only [cxK, cxKn, cxW, cxWn, cxP, cxPn, L2.start, List.map_cons, List.map_nil, List.length_cons, List.length_nil, Nat.reduceAdd, Nat.reduceSub, List.replicate_succ, List.replicate_zero, List.cons_append, List.nil_append])
local macro_rules | `(tactic| walk_at "go1") => `(tactic| with_reducible (first
  | refine r_seq ?_ | refine r_asg ?_ | refine r_if ?_ | refine r_ret ?_ | refine r_next ?_ | refine r_drop ?_ | refine r_gsub ?_
  | refine r_c ?_ | refine r_op ?_ | refine r_un ?_ | refine r_cons ?_ | refine r_nil ?_ | refine r_cb ?_ | refine r_call ?_ | refine r_test ?_ | refine r_B ?_ | refine r_bl ?_
  | refine r_and ?_ | refine r_or ?_ | refine r_not ?_ | refine r_ifE ?_ | refine r_andV ?_ | refine r_orV ?_ | refine r_notV ?_ | refine r_blV ?_ | refine r_T ?_ | refine r_F ?_ | refine r_nT ?_ | refine r_nF ?_
  | refine r_int ?_ | refine r_eqI ?_ | refine r_neI ?_
  | refine r_yes ?_ | refine r_lc ?_ | refine r_rng1 ?_ | refine r_rng2 ?_ | refine r_iList ?_ | refine r_iTup ?_ | refine r_for ?_
  | refine r_bm ?_ | refine r_sl ?_ | refine r_np ?_ | refine r_part ?_ | refine r_partI ?_ | refine r_lstRg ?_ | refine r_rg1 ?_ | refine r_rgI ?_ | refine r_isN ?_ | refine r_notN ?_ | refine r_notT ?_ | refine r_mkA ?_ | refine r_callS ?_ | refine r_sfld ?_ | refine r_fld ?_ | refine r_sortSet ?_ | refine r_mkO ?_ | refine r_enum ?_ | refine r_make ?_
  | refine r_I0 ?_ | refine r_U ?_ | refine r_tup ?_ | refine r_lst ?_))
local macro_rules | `(tactic| walk_at "go") => `(tactic| repeat (first | walk_at "go1" | with_reducible refine r_var (by with_unfolding_all rfl) ?_ | with_reducible refine r_lcT (by with_unfolding_all rfl) ?_ | with_reducible refine r_name (by (try simp only [wipe, List.set_cons_succ, List.set_cons_zero]) <;> with_unfolding_all rfl) ?_))
section
variable {P : Program} {w : World} {K : PySem.W.Frag} {mg : Str → Option Value} {base : Heap}
/-! ### what goes on -/
def goers (vw : List V) (ks : Ks) : Ks := ks.filter fun p => goesB vw p.2
def spView (K : PySem.W.Frag) (R : (List V → Ks → V → Hp → Prop)) : Sp := fun vs H Q E => ∃ (o : Addr) (n m : Nat) (ks : Ks) (x : V) (th : Th), vs = [.ref o, x] ∧ BookAt K H o n m ks ∧ Is H x th ∧
  (∀ (what : Str) (house : Nat), Th.bad (okW m) n th = some (what, house) → ∀ H1 d, L2.Same H H1 → H1 d = none → E (.ref (He.ga K "BadView")) (some d) (L2.upd H1 d (.xd [("house", .int (house : Int)), ("what", .str what)]))) ∧
  (∀ l a vw v H', th = .sq l a vw → isView n m vw → L2.Same H H' → R vw ks v H' → Q v H')
def RGo : List V → Ks → V → Hp → Prop := fun vw ks v H' => ∃ b, v = .ref b ∧ H' b = some (.tup (refs (goers vw ks)))
def RFirst : List V → Ks → V → Hp → Prop := fun vw ks v _ => v = match goers vw ks with
  | [] => .non
  | p :: _ => .ref p.1
theorem take_filter {f : Addr × List V → Bool} {ks : Ks} {i : Nat} {p : Addr × List V} (h : ks[i]? = some p) : (ks.take (i + 1)).filter f = (ks.take i).filter f ++ (if f p = true then [p] else []) := by
  rw [List.take_add_one, h, List.filter_append]
  congr 1
  by_cases e : f p = true
  · rw [if_pos e]
    exact List.filter_cons_of_pos e
  · rw [if_neg e]
    exact List.filter_cons_of_neg e
theorem sc_Book_going_on : FnScope ["self", "view", "told", "entry"] ["self", "view"] (defScope s_Book_going_on) := ⟨rfl, rfl, rfl, by decide +kernel, rfl, by decide +kernel, by decide +kernel⟩
theorem m_going (T : Txt K mg) : ∃ fd, FunD K "going_on" "Book.going_on" (defArgs s_Book_going_on) (defBody s_Book_going_on) (defScope s_Book_going_on) [] [] (He.ma K (He.ga K "Book") "going_on") fd ∧ FnOk P w K mg base (CL P w) 4 (He.ma K (He.ga K "Book") "going_on") fd ["self", "view"] (spView K RGo) := by
  have c_goes_on : CalX P w K mg base CX0 1 "goes_on" spGoesOn [] := c_goes_on T
  have c_check_view : CalX P w K mg base (CL P w) 3 "check_view" (spChk (He.ga K "BadView") okW) [] := (c_check_view T).weak
  obtain ⟨fd, F⟩ := T.u_Book_going_on
  refine ⟨fd, F, F.ok sc_Book_going_on (fun vs H Q E h => ?_) fun cdv A outer s H vs Q E hr h => ?_⟩
  · obtain ⟨_, _, _, _, _, _, rfl, _⟩ := h
    rfl
  · obtain ⟨o, n, m, ks, x, th, rfl, B, hx, kE, kQ⟩ := h
    refine ⟨_, (pss_cons (ps_set (i := 2) sc_Book_going_on.nd rfl (.inr rfl) (pcX c_check_view hr (by decide) passL (pa_cons (pe_fld (pv 0) rfl) (pa_cons (pe_fld (pv 0) rfl) (pa_cons (pv 1) pa_nil)))))
      (pss_one (ps_ret (pe_callTy (k_tup K) (by rfl) T.n_tuple b_tuple (pa_cons (pe_lc (own := [("entry", 3)]) (g := gName 3) rfl sc_Book_going_on.nd (pi_tup (pe_fld (pv 0) rfl)) (blkOk_by (own := [("entry", 3)]) (N := ["self", "view", "told", "entry"]) (sc := defScope s_Book_going_on) (by decide +kernel)) (fun _ _ _ _ _ => pg_name (i := 3) sc_Book_going_on.nd rfl (Or.inl rfl)) (fun _ _ _ _ _ => (pts_one (pt_val (pc0 c_goes_on hr (by decide) (pa_cons (pv 2) (pa_cons (pv 3) pa_nil)))))) (fun _ _ _ _ _ => (pv 3))) pa_nil))))), ?_⟩
    walk_at "beg"
    walk_at "go"
    obtain ⟨dx, T1, h1, h2⟩ := B.ex
    have hn := B.n5
    have hm := B.m4
    refine ⟨o, _, dx, _, _, rfl, h1, T.cBook, T.a_Book_n, rfl, ?_⟩
    walk_at "go"
    refine ⟨o, _, dx, _, _, rfl, h1, T.cBook, T.a_Book_m, rfl, ?_⟩
    walk_at "go"
    refine ⟨n, m, x, th, rfl, by omega, by omega, hx, kE, fun l a vw b H1 eth el ev s1 hb => ?_⟩
    have hview : isView n m vw := ⟨el, fun v hv => okW_iff.mp (ev v hv)⟩
    walk_at "go"
    refine ⟨o, _, dx, _, _, rfl, s1 _ _ h1, T.cBook, T.a_Book_inputs, rfl, ?_⟩
    refine r_it (SqT.of (s1 _ _ h2)) ?_
    refine lcR_tup (refs ks) (fun L i H2 => H2 L = some (.lst (refs ((ks.take i).filter fun p => goesB vw p.2))) ∧ L2.Same H1 H2) ?_ ?_ ?_ ?_
    · intro L hL
      exact ⟨upd_same, Same.new hL⟩
    · rintro L i H2 hL hi ⟨q1, q2⟩
      exact SqT.of (q2 _ _ (s1 _ _ h2))
    · rintro L i y H2 hL hy ⟨q1, q2⟩
      obtain ⟨p, hp, rfl, hm2⟩ := refs_get hy
      have hlen : ((ks.take i).filter fun p => goesB vw p.2).length ≤ 256 := Nat.le_trans (List.length_filter_le _ _) (by rw [List.length_take]; have := B.len; omega)
      have eq := take_filter (f := fun p => goesB vw p.2) hp
      walk_at "go"
      refine ⟨b, p.1, n, m, vw, p.2, rfl, q2 _ _ hb, q2 _ _ (s1 _ _ (B.tups p hm2)), hview, B.rows p hm2, by omega, ?_⟩
      refine ⟨_, rfl, ?_⟩
      cases hg : goesB vw p.2 with
      | true =>
        walk_at "go"
        refine r_lcA q1 (by rw [refs_len]; omega) ⟨?_, Same.fresh q2 hL⟩
        rw [eq, hg, if_pos rfl, refs_app, upd_same]
        rfl
      | false =>
        walk_at "go"
        refine ⟨?_, q2⟩
        rw [eq, hg, if_neg Bool.false_ne_true, List.append_nil]
        exact q1
    · rintro L H2 hL ⟨q1, q2⟩
      rw [refs_len, List.take_length] at q1
      walk_at "go"
      refine r_tupL (SqL.of q1) fun b2 H3 _ s3 hb2 _ => ?_
      exact kQ l a vw _ H3 eth hview ((s1.trans q2).trans s3) ⟨b2, rfl, hb2⟩
theorem sc_Book_first_going_on : FnScope ["self", "view", "told", "entry"] ["self", "view"] (defScope s_Book_first_going_on) := ⟨rfl, rfl, rfl, by decide +kernel, rfl, by decide +kernel, by decide +kernel⟩
theorem m_first (T : Txt K mg) : ∃ fd, FunD K "first_going_on" "Book.first_going_on" (defArgs s_Book_first_going_on) (defBody s_Book_first_going_on) (defScope s_Book_first_going_on) [] [] (He.ma K (He.ga K "Book") "first_going_on") fd ∧ FnOk P w K mg base (CL P w) 4 (He.ma K (He.ga K "Book") "first_going_on") fd ["self", "view"] (spView K RFirst) := by
  have c_goes_on : CalX P w K mg base CX0 1 "goes_on" spGoesOn [] := c_goes_on T
  have c_check_view : CalX P w K mg base (CL P w) 3 "check_view" (spChk (He.ga K "BadView") okW) [] := (c_check_view T).weak
  obtain ⟨fd, F⟩ := T.u_Book_first_going_on
  refine ⟨fd, F, F.ok sc_Book_first_going_on (fun vs H Q E h => ?_) fun cdv A outer s H vs Q E hr h => ?_⟩
  · obtain ⟨_, _, _, _, _, _, rfl, _⟩ := h
    rfl
  · obtain ⟨o, n, m, ks, x, th, rfl, B, hx, kE, kQ⟩ := h
    refine ⟨_, (pss_cons (ps_set (i := 2) sc_Book_first_going_on.nd rfl (.inl rfl) (pcX c_check_view hr (by decide) passL (pa_cons (pe_fld (pv 0) rfl) (pa_cons (pe_fld (pv 0) rfl) (pa_cons (pv 1) pa_nil)))))
      (pss_cons (ps_for PassesOwn.leaving rfl (pi_tup (pe_fld (pv 0) rfl)) (pg_name (i := 3) sc_Book_first_going_on.nd rfl (.inl rfl)) (pss_one (ps_if (pt_val (pc0 c_goes_on hr (by decide) (pa_cons (pv 2) (pa_cons (pv 3) pa_nil)))) (pss_one (ps_ret (pv 3))) pss_nil)))
      (pss_one (ps_ret pe_non)))), ?_⟩
    walk_at "beg"
    walk_at "go"
    obtain ⟨dx, T1, h1, h2⟩ := B.ex
    have hn := B.n5
    have hm := B.m4
    refine ⟨o, _, dx, _, _, rfl, h1, T.cBook, T.a_Book_n, rfl, ?_⟩
    walk_at "go"
    refine ⟨o, _, dx, _, _, rfl, h1, T.cBook, T.a_Book_m, rfl, ?_⟩
    walk_at "go"
    refine ⟨n, m, x, th, rfl, by omega, by omega, hx, kE, fun l a vw b H1 eth el ev s1 hb => ?_⟩
    have hview : isView n m vw := ⟨el, fun v hv => okW_iff.mp (ev v hv)⟩
    walk_at "go"
    refine ⟨o, _, dx, _, _, rfl, s1 _ _ h1, T.cBook, T.a_Book_inputs, rfl, ?_⟩
    refine r_it (SqT.of (s1 _ _ h2)) ?_
    refine forR_tup (refs ks) (fun i σ H2 => ∃ v3 : Option V, σ = [some (.ref o), some x, some (.ref b), v3] ∧ H2 = H1 ∧ (ks.take i).filter (fun p => goesB vw p.2) = []) ?_ ?_ ?_ ?_
    · exact ⟨none, rfl, rfl, rfl⟩
    · rintro i σ H2 _ ⟨v3, rfl, rfl, _⟩
      exact SqT.of (s1 _ _ h2)
    · rintro i y σ H2 hy ⟨v3, rfl, rfl, q⟩
      obtain ⟨p, hp, rfl, hm2⟩ := refs_get hy
      have eq := take_filter (f := fun p => goesB vw p.2) hp
      walk_at "go"
      refine ⟨b, p.1, n, m, vw, p.2, rfl, hb, s1 _ _ (B.tups p hm2), hview, B.rows p hm2, by omega, ?_⟩
      refine ⟨_, rfl, ?_⟩
      cases hg : goesB vw p.2 with
      | true =>
        walk_at "go"
        refine kQ l a vw _ H2 eth hview s1 ?_
        have e : goers vw ks = p :: (ks.drop (i + 1)).filter fun p => goesB vw p.2 := by
          unfold goers
          conv => lhs; rw [← List.take_append_drop (i + 1) ks]
          rw [List.filter_append, eq, q, hg, if_pos rfl]
          rfl
        unfold RFirst
        rw [e]
      | false =>
        walk_at "go"
        exact ⟨_, rfl, rfl, by rw [eq, q, hg, if_neg Bool.false_ne_true]; rfl⟩
    · rintro σ H2 ⟨v3, rfl, rfl, q⟩
      rw [refs_len, List.take_length] at q
      walk_at "go"
      refine kQ l a vw _ H2 eth hview s1 ?_
      unfold RFirst goers
      rw [q]
end
end Kb
set_option Elab.async false
set_option linter.all false
set_option maxRecDepth 100000
set_option maxHeartbeats 4000000
namespace Kb
open PySem PySem.Spec PyProof.Rows L2
theorem r_catN {a b : Addr} {xs ys : List V} {H : Hp} {Q : VK} (ha : H a = some (.lst xs)) (hb : H b = some (.lst ys)) (sz : xs.length + ys.length ≤ 100000) (q : ∀ (p : Addr) (H' : Hp), H p = none → L2.Same H H' → H' p = some (.lst (xs ++ ys)) → Q (.ref p) H') : rCat (.ref a) (.ref b) H Q := r_cat ha hb sz (r_new fun p H' h1 h2 h3 _ => q p H' h1 h2 h3)
def others (ys : List V) (ks : Ks) : Ks := ks.filter fun p => !decide (p.2 = ys)
theorem others_mem {ys r : List V} {ks : Ks} : r ∈ (others ys ks).map (·.2) ↔ r ∈ ks.map (·.2) ∧ r ≠ ys := by
  unfold others
  rw [List.mem_map, List.mem_map]
  constructor
  · rintro ⟨p, hp, rfl⟩
    obtain ⟨h1, h2⟩ := List.mem_filter.mp hp
    exact ⟨⟨p, h1, rfl⟩, by simpa using h2⟩
  · rintro ⟨⟨p, hp, rfl⟩, h⟩
    exact ⟨p, List.mem_filter.mpr ⟨hp, by simpa using h⟩, rfl⟩
local macro_rules | `(tactic| walk_at "beg") => `(tactic| simp only [cxK, cxKn, cxW, cxWn, cxP, cxPn, L2.start, List.map_cons, List.map_nil, List.length_cons, List.length_nil, Nat.reduceAdd, Nat.reduceSub, List.replicate_succ, List.replicate_zero, List.cons_append, List.nil_append])
local macro_rules | `(tactic| walk_at "go1") => `(tactic| with_reducible (first
  | refine r_seq ?_ | refine r_asg ?_ | refine r_if ?_ | refine r_ret ?_ | refine r_next ?_ | refine r_drop ?_ | refine r_gsub ?_
  | refine r_c ?_ | refine r_op ?_ | refine r_un ?_ | refine r_cons ?_ | refine r_nil ?_ | refine r_cb ?_ | refine r_call ?_ | refine r_test ?_ | refine r_B ?_ | refine r_bl ?_
  | refine r_and ?_ | refine r_or ?_ | refine r_not ?_ | refine r_ifE ?_ | refine r_andV ?_ | refine r_orV ?_ | refine r_notV ?_ | refine r_blV ?_ | refine r_T ?_ | refine r_F ?_ | refine r_nT ?_ | refine r_nF ?_
  | refine r_int ?_ | refine r_eqI ?_ | refine r_neI ?_
  | refine r_yes ?_ | refine r_lc ?_ | refine r_rng1 ?_ | refine r_rng2 ?_ | refine r_iList ?_ | refine r_iTup ?_ | refine r_for ?_
  | refine r_bm ?_ | refine r_sl ?_ | refine r_np ?_ | refine r_part ?_ | refine r_partI ?_ | refine r_lstRg ?_ | refine r_rg1 ?_ | refine r_rgI ?_ | refine r_isN ?_ | refine r_notN ?_ | refine r_notT ?_ | refine r_mkA ?_ | refine r_callS ?_ | refine r_sfld ?_ | refine r_fld ?_ | refine r_sortSet ?_ | refine r_mkO ?_ | refine r_enum ?_ | refine r_make ?_
  | refine r_I0 ?_ | refine r_U ?_ | refine r_tup ?_ | refine r_lst ?_))
local macro_rules | `(tactic| walk_at "go") => `(tactic| repeat (first | walk_at "go1" | with_reducible refine r_var (by with_unfolding_all rfl) ?_ | with_reducible refine r_lcT (by with_unfolding_all rfl) ?_ | with_reducible refine r_name (by (try simp only [wipe, List.set_cons_succ, List.set_cons_zero]) <;> with_unfolding_all rfl) ?_))
section
variable {P : Program} {w : World} {K : PySem.W.Frag} {mg : Str → Option Value} {base : Heap}
theorem sc_Book_with_entry : FnScope ["self", "entry", "told", "known"] ["self", "entry"] (defScope s_Book_with_entry) := ⟨rfl, rfl, rfl, by decide +kernel, rfl, by decide +kernel, by decide +kernel⟩
def spWith (K : PySem.W.Frag) : Sp := fun vs H Q E => ∃ (o : Addr) (n m : Nat) (ks : Ks) (x : V) (th : Th), vs = [.ref o, x] ∧ BookAt K H o n m ks ∧ Is H x th ∧
  (∀ (what : Str) (house : Nat), Th.bad (okE m) n th = some (what, house) → ∀ H1 d, L2.Same H H1 → H1 d = none → E (.ref (He.ga K "BadInput")) (some d) (L2.upd H1 d (.xd [("house", .int (house : Int)), ("what", .str what)]))) ∧
  (Th.bad (okE m) n th = none → 256 < (others th.ys ks).length + 1 → ∀ H1 d, L2.Same H H1 → H1 d = none → E (.ref (He.ga K "BadBook")) (some d) (L2.upd H1 d (.xd [("at", .int ((0 : Nat) : Int)), ("what", .str "many")]))) ∧
  (∀ (o2 : Addr) (js : Ks) (H2 : Hp), isRow n m th.ys → L2.Same H H2 → BookAt K H2 o2 n m js → (∀ r, r ∈ js.map (·.2) ↔ r ∈ ks.map (·.2) ∨ r = th.ys) → Q (.ref o2) H2)
theorem m_with (T : Txt K mg) : ∃ fd, FunD K "with_entry" "Book.with_entry" (defArgs s_Book_with_entry) (defBody s_Book_with_entry) (defScope s_Book_with_entry) [] [] (He.ma K (He.ga K "Book") "with_entry") fd ∧ FnOk P w K mg base (CL P w) 6 (He.ma K (He.ga K "Book") "with_entry") fd ["self", "entry"] (spWith K) := by
  have c_check_entry : CalX P w K mg base (CL P w) 3 "check_entry" (spChk (He.ga K "BadInput") okE) [] := (c_check_entry T).weak
  obtain ⟨fd, F⟩ := T.u_Book_with_entry
  refine ⟨fd, F, F.ok sc_Book_with_entry (fun vs H Q E h => ?_) fun cdv A outer s H vs Q E hr h => ?_⟩
  · obtain ⟨_, _, _, _, _, _, rfl, _⟩ := h
    rfl
  · obtain ⟨o, n, m, ks, x, th, rfl, B, hx, kE, kM, kQ⟩ := h
    refine ⟨_, (pss_cons (ps_set (i := 2) sc_Book_with_entry.nd rfl (.inr rfl) (pcX c_check_entry hr (by decide) passL (pa_cons (pe_fld (pv 0) rfl) (pa_cons (pe_fld (pv 0) rfl) (pa_cons (pv 1) pa_nil)))))
      (pss_one (ps_ret (pe_Book T hr passL (pa_cons (pe_fld (pv 0) rfl) (pa_cons (pe_fld (pv 0) rfl) (pa_cons (pe_op op_cat (pe_lc (own := [("known", 3)]) (g := gName 3) rfl sc_Book_with_entry.nd (pi_tup (pe_fld (pv 0) rfl)) (blkOk_by (own := [("known", 3)]) (N := ["self", "entry", "told", "known"]) (sc := defScope s_Book_with_entry) (by decide +kernel)) (fun _ _ _ _ _ => pg_name (i := 3) sc_Book_with_entry.nd rfl (Or.inl rfl)) (fun _ _ _ _ _ => (pts_one (pt_cmpR (k_neD K (hu64 hr)) (pv 3) (pv 2) (nomark _)))) (fun _ _ _ _ _ => (pv 3))) (pe_lst (pa_cons (pv 2) pa_nil))) pa_nil))))))), ?_⟩
    walk_at "beg"
    walk_at "go"
    obtain ⟨dx, T1, h1, h2⟩ := B.ex
    have hn := B.n5
    have hm := B.m4
    refine ⟨o, _, dx, _, _, rfl, h1, T.cBook, T.a_Book_n, rfl, ?_⟩
    walk_at "go"
    refine ⟨o, _, dx, _, _, rfl, h1, T.cBook, T.a_Book_m, rfl, ?_⟩
    walk_at "go"
    refine ⟨n, m, x, th, rfl, by omega, by omega, hx, kE, fun l a ys b H1 eth el ev s1 hb => ?_⟩
    have hrow : isRow n m ys := ⟨el, fun v hv => okE_iff.mp (ev v hv)⟩
    have ety : th.ys = ys := by rw [eth]; rfl
    have hnb : Th.bad (okE m) n th = none := by
      rw [eth, bad_sq, if_pos el, badAt_none.mpr ev]
      rfl
    rw [ety] at kM kQ
    walk_at "go"
    refine ⟨o, _, dx, _, _, rfl, s1 _ _ h1, T.cBook, T.a_Book_n, rfl, ?_⟩
    walk_at "go"
    refine ⟨o, _, dx, _, _, rfl, s1 _ _ h1, T.cBook, T.a_Book_m, rfl, ?_⟩
    walk_at "go"
    refine ⟨o, _, dx, _, _, rfl, s1 _ _ h1, T.cBook, T.a_Book_inputs, rfl, ?_⟩
    refine r_it (SqT.of (s1 _ _ h2)) ?_
    refine lcR_tup (refs ks) (fun L i H2 => H2 L = some (.lst (refs ((ks.take i).filter fun p => !decide (p.2 = ys)))) ∧ L2.Same H1 H2) ?_ ?_ ?_ ?_
    · intro L hL
      exact ⟨upd_same, Same.new hL⟩
    · rintro L i H2 hL hi ⟨q1, q2⟩
      exact SqT.of (q2 _ _ (s1 _ _ h2))
    · rintro L i y H2 hL hy ⟨q1, q2⟩
      obtain ⟨p, hp, rfl, hm2⟩ := refs_get hy
      have hlen : ((ks.take i).filter fun p => !decide (p.2 = ys)).length ≤ 256 := Nat.le_trans (List.length_filter_le _ _) (by rw [List.length_take]; have := B.len; omega)
      have eq := take_filter (f := fun p => !decide (p.2 = ys)) hp
      walk_at "go"
      refine r_neRow (q2 _ _ (s1 _ _ (B.tups p hm2))) (B.rows p hm2).ints (q2 _ _ hb) hrow.ints ?_
      refine ⟨_, rfl, ?_⟩
      cases hg : !decide (p.2 = ys) with
      | true =>
        walk_at "go"
        refine r_lcA q1 (by rw [refs_len]; omega) ⟨?_, Same.fresh q2 hL⟩
        rw [eq, hg, if_pos rfl, refs_app, upd_same]
        rfl
      | false =>
        walk_at "go"
        refine ⟨?_, q2⟩
        rw [eq, hg, if_neg Bool.false_ne_true, List.append_nil]
        exact q1
    · rintro L H2 hL ⟨q1, q2⟩
      rw [refs_len, List.take_length] at q1
      have hlen : (others ys ks).length ≤ 256 := Nat.le_trans (List.length_filter_le _ _) B.len
      walk_at "go"
      refine ⟨sz10 (by simp), r_new fun L2' H3 _ s3 hL2 _ => ?_⟩
      refine r_catN (xs := refs (others ys ks)) (s3 _ _ q1) hL2 (by rw [refs_len]; simp; omega) fun L3 H4 _ s4 hL3 => ?_
      walk_at "go"
      have S4 : L2.Same H H4 := ((s1.trans q2).trans s3).trans s4
      have hb4 : H4 b = some (.tup ys) := s4 _ _ (s3 _ _ (q2 _ _ hb))
      have hL3' : H4 L3 = some (.lst (refs (others ys ks ++ [(b, ys)]))) := by rw [refs_app]; exact hL3
      have T4 : Tups H4 (others ys ks ++ [(b, ys)]) := fun p hp => by
        rcases List.mem_append.mp hp with hp | hp
        · exact S4 _ _ (B.tups p (List.mem_filter.mp hp).1)
        · cases List.mem_singleton.mp hp
          exact hb4
      have R4 : ∀ p ∈ others ys ks ++ [(b, ys)], isRow n m p.2 := fun p hp => by
        rcases List.mem_append.mp hp with hp | hp
        · exact B.rows p (List.mem_filter.mp hp).1
        · cases List.mem_singleton.mp hp
          exact hrow
      refine mkQ ?_
      rcases Nat.lt_or_ge 256 ((others ys ks).length + 1) with big | small
      · refine ⟨_, _, _, none, rfl, kn_int, kn_int, .inr ⟨L3, _, rfl, .inl hL3', by rw [refs_len, List.length_append]; exact big, by rw [refs_len, List.length_append]; simp; omega⟩, fun what at' hv H5 d s5 hd => ?_, fun _ _ ths _ _ _ _ _ e => (by cases e)⟩
        rw [verdict_many (whole_hi (lo := 2) (hi := 5) B.n2 B.n5) (whole_hi (lo := 1) (hi := 4) B.m1 B.m4)] at hv
        cases hv
        exact kM hnb big H5 d (S4.trans s5) hd
      · refine book_rows B.n2 B.n5 B.m1 B.m4 hL3' T4 R4 (by rw [List.length_append]; exact small) fun o2 js H5 s5 _ B5 hmem => ?_
        refine kQ o2 js H5 hrow (S4.trans s5) B5 fun r => ?_
        rw [hmem, List.map_append, List.mem_append, others_mem]
        simp only [List.map_cons, List.map_nil, List.mem_singleton]
        constructor
        · rintro (h | h)
          · exact .inl h.1
          · exact .inr h
        · rintro (h | h)
          · by_cases e : r = ys
            · exact .inr e
            · exact .inl ⟨h, e⟩
          · exact .inr h
theorem sc_Book_without_entry : FnScope ["self", "entry", "known"] ["self", "entry"] (defScope s_Book_without_entry) := ⟨rfl, rfl, rfl, by decide +kernel, rfl, by decide +kernel, by decide +kernel⟩
def spWithout (K : PySem.W.Frag) : Sp := fun vs H Q E => ∃ (o : Addr) (n m : Nat) (ks : Ks) (x : V) (th : Th), vs = [.ref o, x] ∧ BookAt K H o n m ks ∧ Is H x th ∧
  (inB n ks th = false → ∀ H1 d, L2.Same H H1 → H1 d = none → E (.ref (He.ga K "NotInBook")) (some d) (L2.upd H1 d (.xd [("entry", x)]))) ∧
  (inB n ks th = true → ∀ (o2 : Addr) (js : Ks) (H2 : Hp), L2.Same H H2 → BookAt K H2 o2 n m js → (∀ r, r ∈ js.map (·.2) ↔ r ∈ ks.map (·.2) ∧ r ≠ th.ys) → Q (.ref o2) H2)
theorem inB_true {n : Nat} {ks : Ks} {th : Th} (h : inB n ks th = true) : ∃ l a, th = .sq l a th.ys ∧ th.ys ∈ ks.map (·.2) := by
  cases th with
  | «at» v => cases h
  | sq l a ys =>
    rw [inB_sq, Bool.and_eq_true, decide_eq_true_eq] at h
    exact ⟨l, a, rfl, h.2⟩
theorem m_without (T : Txt K mg) : ∃ fd, FunD K "without_entry" "Book.without_entry" (defArgs s_Book_without_entry) (defBody s_Book_without_entry) (defScope s_Book_without_entry) [] [] (He.ma K (He.ga K "Book") "without_entry") fd ∧ FnOk P w K mg base (CL P w) 6 (He.ma K (He.ga K "Book") "without_entry") fd ["self", "entry"] (spWithout K) := by
  obtain ⟨fd, F⟩ := T.u_Book_without_entry
  refine ⟨fd, F, F.ok sc_Book_without_entry (fun vs H Q E h => ?_) fun cdv A outer s H vs Q E hr h => ?_⟩
  · obtain ⟨_, _, _, _, _, _, rfl, _⟩ := h
    rfl
  · obtain ⟨o, n, m, ks, x, th, rfl, B, hx, kE, kQ⟩ := h
    refine ⟨_, (pss_cons (ps_if (pt_cmpR (k_ninB T (hr.mono (by decide))) (pv 1) (pv 0) (by rfl)) (pss_one (L2.ps_raise rfl (L2.takes_of rfl rfl rfl rfl) (pmk_wide (mk_NotInBook T (hr.mono (by decide)) (pa_cons (pv 1) pa_nil))))) pss_nil)
      (pss_one (ps_ret (pe_Book T hr passL (pa_cons (pe_fld (pv 0) rfl) (pa_cons (pe_fld (pv 0) rfl) (pa_cons (pe_lc (own := [("known", 2)]) (g := gName 2) rfl sc_Book_without_entry.nd (pi_tup (pe_fld (pv 0) rfl)) (blkOk_by (own := [("known", 2)]) (N := ["self", "entry", "known"]) (sc := defScope s_Book_without_entry) (by decide +kernel)) (fun _ _ _ _ _ => pg_name (i := 2) sc_Book_without_entry.nd rfl (Or.inl rfl)) (fun _ _ _ _ _ => (pts_one (pt_cmpR (k_neD K (hu64 hr)) (pv 2) (pe_callTy (k_tup K) (by rfl) T.n_tuple b_tuple (pa_cons (pv 1) pa_nil)) (nomark _)))) (fun _ _ _ _ _ => (pv 2))) pa_nil))))))), ?_⟩
    walk_at "beg"
    walk_at "go"
    refine ⟨o, n, m, ks, th, rfl, B, hx, fun H1 s1 => ?_⟩
    rw [if_pos rfl]
    refine ⟨_, rfl, ?_⟩
    cases hin : inB n ks th with
    | false =>
      walk_at "go"
      exact ⟨by simp, r_mk1 fun d hd => kE hin H1 d s1 hd⟩
    | true =>
      obtain ⟨l, a, eth, hmem⟩ := inB_true hin
      generalize hys : th.ys = ys at *
      have B1 := B.same s1
      obtain ⟨dx, T1, h1, h2⟩ := B1.ex
      have hx1 := hx.same s1
      rw [eth] at hx1
      obtain ⟨rfl, hs, _⟩ := sq_of hx1
      obtain ⟨p0, hp0, ep0⟩ := List.mem_map.mp hmem
      have hrow : isRow n m ys := by rw [← ep0]; exact B.rows p0 hp0
      walk_at "go"
      refine ⟨o, _, dx, _, _, rfl, h1, T.cBook, T.a_Book_n, rfl, ?_⟩
      walk_at "go"
      refine ⟨o, _, dx, _, _, rfl, h1, T.cBook, T.a_Book_m, rfl, ?_⟩
      walk_at "go"
      refine ⟨o, _, dx, _, _, rfl, h1, T.cBook, T.a_Book_inputs, rfl, ?_⟩
      refine r_it (SqT.of h2) ?_
      refine lcR_tup (refs ks) (fun L i H2 => H2 L = some (.lst (refs ((ks.take i).filter fun p => !decide (p.2 = ys)))) ∧ L2.Same H1 H2) ?_ ?_ ?_ ?_
      · intro L hL
        exact ⟨upd_same, Same.new hL⟩
      · rintro L i H2 hL hi ⟨q1, q2⟩
        exact SqT.of (q2 _ _ h2)
      · rintro L i y H2 hL hy ⟨q1, q2⟩
        obtain ⟨p, hp, rfl, hm2⟩ := refs_get hy
        have hlen : ((ks.take i).filter fun p => !decide (p.2 = ys)).length ≤ 256 := Nat.le_trans (List.length_filter_le _ _) (by rw [List.length_take]; have := B.len; omega)
        have eq := take_filter (f := fun p => !decide (p.2 = ys)) hp
        walk_at "go"
        refine r_tupS (hs.imp (q2 _ _) (q2 _ _)) fun b H3 s3 hb _ _ => ?_
        have q1' := s3 _ _ q1
        refine r_neRow (s3 _ _ (q2 _ _ (B1.tups p hm2))) (B.rows p hm2).ints hb hrow.ints ?_
        refine ⟨_, rfl, ?_⟩
        cases hg : !decide (p.2 = ys) with
        | true =>
          walk_at "go"
          refine r_lcA q1' (by rw [refs_len]; omega) ⟨?_, Same.fresh (q2.trans s3) hL⟩
          rw [eq, hg, if_pos rfl, refs_app, upd_same]
          rfl
        | false =>
          walk_at "go"
          refine ⟨?_, q2.trans s3⟩
          rw [eq, hg, if_neg Bool.false_ne_true, List.append_nil]
          exact q1'
      · rintro L H2 hL ⟨q1, q2⟩
        rw [refs_len, List.take_length] at q1
        have hlen : (others ys ks).length ≤ 256 := Nat.le_trans (List.length_filter_le _ _) B.len
        walk_at "go"
        refine mkQ (book_rows B.n2 B.n5 B.m1 B.m4 (ks := others ys ks) q1 (fun p hp => q2 _ _ (B1.tups p (List.mem_filter.mp hp).1)) (fun p hp => B.rows p (List.mem_filter.mp hp).1) hlen fun o2 js H5 s5 _ B5 hm5 => ?_)
        exact kQ hin o2 js H5 ((s1.trans q2).trans s5) B5 fun r => by rw [hm5, others_mem]
/-! ### books that are not alike -/
def spAlike (K : PySem.W.Frag) : Sp := fun vs H _ E => ∃ (a b : Addr) (n m n2 m2 : Nat) (ks js : Ks), vs = [.ref a, .ref b] ∧ BookAt K H a n m ks ∧ BookAt K H b n2 m2 js ∧ (n ≠ n2 ∨ m ≠ m2) ∧ E (.ref (He.ga K "UnlikeBooks")) none H
theorem spAlike_len (K : PySem.W.Frag) : ∀ (vs : List V) (H : Hp) (Q : VK) (E : XK), spAlike K vs H Q E → vs.length = (["one", "other"] : List Str).length := by
  rintro vs H Q E ⟨_, _, _, _, _, _, _, _, rfl, _⟩
  rfl
theorem sc_check_alike : FnScope ["one", "other"] ["one", "other"] (defScope s_check_alike) := ⟨rfl, rfl, rfl, by decide +kernel, rfl, by decide +kernel, by decide +kernel⟩
theorem c_check_alike (T : Txt K mg) : CalX P w K mg base (CL P w) 3 "check_alike" (spAlike K) [] := by
  refine mkcal (ps := ["one", "other"]) T.u_check_alike T.g_check_alike sc_check_alike (fun _ _ _ _ _ _ us hl => match us, hl with | [_, _], _ => rfl) (spAlike_len K) (fun f cdv A outer s H vs Q E hr h => ?_)
  obtain ⟨a, b, n, m, n2, m2, ks, js, rfl, B1, B2, hne, k⟩ := h
  obtain ⟨dx, T1, h1, _⟩ := B1.ex
  obtain ⟨dy, T2, g1, _⟩ := B2.ex
  refine ⟨_, (pss_one (ps_if (PW.pt (pw_or (pt_cmpR op_ne (pe_fld (pv 0) rfl) (pe_fld (pv 1) rfl) (nomark _)) (pw_or1 (pt_cmpR op_ne (pe_fld (pv 0) rfl) (pe_fld (pv 1) rfl) (nomark _))))) (pss_one (L2.ps_raise rfl (L2.takes_of rfl rfl rfl rfl) (pmk_wide (mk_UnlikeBooks T (hr.mono (by decide)))))) pss_nil)), ?_⟩
  walk_at "beg"
  walk_at "go"
  refine ⟨a, _, dx, _, _, rfl, h1, T.cBook, T.a_Book_n, rfl, ?_⟩
  walk_at "go"
  refine ⟨b, _, dy, _, _, rfl, g1, T.cBook, T.a_Book_n, rfl, ?_⟩
  walk_at "go"
  refine ite_nd (fun _ => ?_) (fun e => ?_)
  · walk_at "go"
    exact ⟨by simp, r_mk0 k⟩
  · walk_at "go"
    refine ⟨a, _, dx, _, _, rfl, h1, T.cBook, T.a_Book_m, rfl, ?_⟩
    walk_at "go"
    refine ⟨b, _, dy, _, _, rfl, g1, T.cBook, T.a_Book_m, rfl, ?_⟩
    walk_at "go"
    refine ite_nd (fun _ => ?_) (fun e2 => ?_)
    · walk_at "go"
      exact ⟨by simp, r_mk0 k⟩
    · omega
theorem sc_book_within : FnScope ["one", "other", "entry"] ["one", "other"] (defScope s_book_within) := ⟨rfl, rfl, rfl, by decide +kernel, rfl, by decide +kernel, by decide +kernel⟩
theorem c_book_within (T : Txt K mg) : CalX P w K mg base (CL P w) 4 "book_within" (spAlike K) [] := by
  have c_check_alike : CalX P w K mg base (CL P w) 3 "check_alike" (spAlike K) [] := c_check_alike T
  refine mkcal (ps := ["one", "other"]) T.u_book_within T.g_book_within sc_book_within (fun _ _ _ _ _ _ us hl => match us, hl with | [_, _], _ => rfl) (spAlike_len K) (fun f cdv A outer s H vs Q E hr h => ?_)
  obtain ⟨a, b, n, m, n2, m2, ks, js, rfl, w⟩ := h
  refine ⟨_, pss_cons (ps_expr (pcX c_check_alike hr (by decide) passL (pa_cons (pv 0) (pa_cons (pv 1) pa_nil)))) pss_never, ?_⟩
  walk_at "beg"
  walk_at "go"
  exact ⟨a, b, n, m, n2, m2, ks, js, rfl, w⟩
theorem sc_joined_books : FnScope ["one", "other", "more", "entry"] ["one", "other"] (defScope s_joined_books) := ⟨rfl, rfl, rfl, by decide +kernel, rfl, by decide +kernel, by decide +kernel⟩
theorem c_joined_books (T : Txt K mg) : CalX P w K mg base (CL P w) 4 "joined_books" (spAlike K) [] := by
  have c_check_alike : CalX P w K mg base (CL P w) 3 "check_alike" (spAlike K) [] := c_check_alike T
  refine mkcal (ps := ["one", "other"]) T.u_joined_books T.g_joined_books sc_joined_books (fun _ _ _ _ _ _ us hl => match us, hl with | [_, _], _ => rfl) (spAlike_len K) (fun f cdv A outer s H vs Q E hr h => ?_)
  obtain ⟨a, b, n, m, n2, m2, ks, js, rfl, w⟩ := h
  refine ⟨_, pss_cons (ps_expr (pcX c_check_alike hr (by decide) passL (pa_cons (pv 0) (pa_cons (pv 1) pa_nil)))) pss_never, ?_⟩
  walk_at "beg"
  walk_at "go"
  exact ⟨a, b, n, m, n2, m2, ks, js, rfl, w⟩
theorem sc_shared_book : FnScope ["one", "other", "entry"] ["one", "other"] (defScope s_shared_book) := ⟨rfl, rfl, rfl, by decide +kernel, rfl, by decide +kernel, by decide +kernel⟩
theorem c_shared_book (T : Txt K mg) : CalX P w K mg base (CL P w) 4 "shared_book" (spAlike K) [] := by
  have c_check_alike : CalX P w K mg base (CL P w) 3 "check_alike" (spAlike K) [] := c_check_alike T
  refine mkcal (ps := ["one", "other"]) T.u_shared_book T.g_shared_book sc_shared_book (fun _ _ _ _ _ _ us hl => match us, hl with | [_, _], _ => rfl) (spAlike_len K) (fun f cdv A outer s H vs Q E hr h => ?_)
  obtain ⟨a, b, n, m, n2, m2, ks, js, rfl, w⟩ := h
  refine ⟨_, pss_cons (ps_expr (pcX c_check_alike hr (by decide) passL (pa_cons (pv 0) (pa_cons (pv 1) pa_nil)))) pss_never, ?_⟩
  walk_at "beg"
  walk_at "go"
  exact ⟨a, b, n, m, n2, m2, ks, js, rfl, w⟩
theorem sc_book_less : FnScope ["one", "other", "entry"] ["one", "other"] (defScope s_book_less) := ⟨rfl, rfl, rfl, by decide +kernel, rfl, by decide +kernel, by decide +kernel⟩
theorem c_book_less (T : Txt K mg) : CalX P w K mg base (CL P w) 4 "book_less" (spAlike K) [] := by
  have c_check_alike : CalX P w K mg base (CL P w) 3 "check_alike" (spAlike K) [] := c_check_alike T
  refine mkcal (ps := ["one", "other"]) T.u_book_less T.g_book_less sc_book_less (fun _ _ _ _ _ _ us hl => match us, hl with | [_, _], _ => rfl) (spAlike_len K) (fun f cdv A outer s H vs Q E hr h => ?_)
  obtain ⟨a, b, n, m, n2, m2, ks, js, rfl, w⟩ := h
  refine ⟨_, pss_cons (ps_expr (pcX c_check_alike hr (by decide) passL (pa_cons (pv 0) (pa_cons (pv 1) pa_nil)))) pss_never, ?_⟩
  walk_at "beg"
  walk_at "go"
  exact ⟨a, b, n, m, n2, m2, ks, js, rfl, w⟩
end
end Kb
set_option Elab.async false
set_option linter.all false
set_option maxRecDepth 100000
set_option maxHeartbeats 4000000
namespace Kb
open PySem PySem.Spec PyProof.Rows L2
/-! ### equal data -/
def Eqs (H : Hp) : Nat → V → V → Prop
  | 0, x, y => atomV x = true ∧ x = y
  | k + 1, x, y => (atomV x = true ∧ x = y) ∨ ∃ (a b : Addr) (xs ys : List V), x = .ref a ∧ y = .ref b ∧ H a = some (.tup xs) ∧ H b = some (.tup ys) ∧ xs.length = ys.length ∧ xs.length ≤ 1000 ∧ ∀ (i : Nat) (u v : V), xs[i]? = some u → ys[i]? = some v → Eqs H k u v
theorem Eqs.same {H H' : Hp} : ∀ {k : Nat} {x y : V}, Eqs H k x y → L2.Same H H' → Eqs H' k x y
  | 0, _, _, h, _ => h
  | k + 1, _, _, h, s => h.imp id fun ⟨a, b, xs, ys, e1, e2, h1, h2, l1, l2, w⟩ => ⟨a, b, xs, ys, e1, e2, s _ _ h1, s _ _ h2, l1, l2, fun i u v hu hv => Eqs.same (w i u v hu hv) s⟩
theorem Eqs.atom {H : Hp} {x : V} (h : atomV x = true) : ∀ k, Eqs H k x x
  | 0 => ⟨h, rfl⟩
  | k + 1 => .inl ⟨h, rfl⟩
theorem Eqs.row {H : Hp} {a b : Addr} {r : List V} {k : Nat} (ha : H a = some (.tup r)) (hb : H b = some (.tup r)) (h : Ints r) (hl : r.length ≤ 1000) : Eqs H (k + 1) (.ref a) (.ref b) := .inr ⟨a, b, r, r, rfl, rfl, ha, hb, rfl, hl, fun i u v hu hv => by
  rw [hu] at hv
  cases hv
  exact Eqs.atom (h.atoms u (List.mem_of_getElem? hu)) k⟩
theorem Eqs.rows {H : Hp} {a b : Addr} {ks js : Ks} {k : Nat} (ha : H a = some (.tup (refs ks))) (hb : H b = some (.tup (refs js))) (T : Tups H ks) (T' : Tups H js) (e : ks.map (·.2) = js.map (·.2)) (h : ∀ p ∈ ks, Ints p.2 ∧ p.2.length ≤ 1000) (hl : ks.length ≤ 1000) : Eqs H (k + 2) (.ref a) (.ref b) := by
  have el : ks.length = js.length := by
    have := congrArg List.length e
    simpa using this
  refine .inr ⟨a, b, _, _, rfl, rfl, ha, hb, by rw [refs_len, refs_len, el], by rw [refs_len]; exact hl, fun i u v hu hv => ?_⟩
  obtain ⟨p, hp, rfl, hm⟩ := refs_get hu
  obtain ⟨q, hq, rfl, hm'⟩ := refs_get hv
  have e2 : p.2 = q.2 := by
    have e3 : (ks.map (·.2))[i]? = (js.map (·.2))[i]? := by rw [e]
    rw [List.getElem?_map, List.getElem?_map, hp, hq] at e3
    exact Option.some.inj e3
  exact Eqs.row (T p hm) (by rw [e2]; exact T' q hm') (h p hm).1 (h p hm).2
theorem r_isBl {a b : Bool} {H : Hp} {Q : VK} (h : Q (.bl (decide (a = b))) H) : rIsB (.bl a) (.bl b) H Q := ⟨a, b, rfl, rfl, h⟩
local macro_rules | `(tactic| walk_at "beg") => `(tactic| simp only [cxK, cxKn, cxW, cxWn, cxP, cxPn, L2.start, List.map_cons, List.map_nil, List.length_cons, List.length_nil, Nat.reduceAdd, Nat.reduceSub, List.replicate_succ, List.replicate_zero, List.cons_append, List.nil_append])
local macro_rules | `(tactic| walk_at "go1") => `(tactic| with_reducible (first
  | refine r_seq ?_ | refine r_asg ?_ | refine r_if ?_ | refine r_ret ?_ | refine r_next ?_ | refine r_drop ?_ | refine r_gsub ?_
  | refine r_c ?_ | refine r_op ?_ | refine r_un ?_ | refine r_cons ?_ | refine r_nil ?_ | refine r_cb ?_ | refine r_call ?_ | refine r_test ?_ | refine r_B ?_ | refine r_bl ?_
  | refine r_and ?_ | refine r_or ?_ | refine r_not ?_ | refine r_ifE ?_ | refine r_andV ?_ | refine r_orV ?_ | refine r_notV ?_ | refine r_blV ?_ | refine r_T ?_ | refine r_F ?_ | refine r_nT ?_ | refine r_nF ?_
  | refine r_int ?_ | refine r_eqI ?_ | refine r_neI ?_
  | refine r_yes ?_ | refine r_lc ?_ | refine r_rng1 ?_ | refine r_rng2 ?_ | refine r_iList ?_ | refine r_iTup ?_ | refine r_for ?_
  | refine r_bm ?_ | refine r_sl ?_ | refine r_np ?_ | refine r_part ?_ | refine r_partI ?_ | refine r_lstRg ?_ | refine r_rg1 ?_ | refine r_rgI ?_ | refine r_isN ?_ | refine r_notN ?_ | refine r_notT ?_ | refine r_mkA ?_ | refine r_callS ?_ | refine r_sfld ?_ | refine r_fld ?_ | refine r_sortSet ?_ | refine r_mkO ?_ | refine r_enum ?_ | refine r_make ?_
  | refine r_I0 ?_ | refine r_U ?_ | refine r_tup ?_ | refine r_lst ?_))
local macro_rules | `(tactic| walk_at "go") => `(tactic| repeat (first | walk_at "go1" | with_reducible refine r_var (by with_unfolding_all rfl) ?_ | with_reducible refine r_lcT (by with_unfolding_all rfl) ?_ | with_reducible refine r_name (by (try simp only [wipe, List.set_cons_succ, List.set_cons_zero]) <;> with_unfolding_all rfl) ?_))
section
variable {P : Program} {w : World} {K : PySem.W.Frag} {mg : Str → Option Value} {base : Heap}
theorem sc_same : FnScope ["_law_told_here", "_law_due", "_law_k"] ["_law_told_here", "_law_due"] (defScope s_same) := ⟨rfl, rfl, rfl, by decide +kernel, rfl, by decide +kernel, by decide +kernel⟩
def spSame (k : Nat) : Sp := fun vs H Q _ => ∃ x y, vs = [x, y] ∧ Eqs H k x y ∧ ∀ H', L2.Same H H' → Q (.bl true) H'
theorem spSame_len (k : Nat) : ∀ (vs : List V) (H : Hp) (Q : VK) (E : XK), spSame k vs H Q E → vs.length = (["_law_told_here", "_law_due"] : List Str).length := by
  rintro vs H Q E ⟨_, _, rfl, _⟩
  rfl
/-- the ends of the code that look at plain values -/
theorem same_atom {x : V} {H : Hp} {Q : VK} (hx : atomV x = true) (k : Q (.bl true) H) :
    tSeq (tIfS (tTest (tOp rIsN (tVar 1) (tC .non))) (tRet (tOp rIsN (tVar 0) (tC .non))) tNext) (tSeq (tIfS (tB (tCB (rIsi K) (tCons (tVar 1) (tCons (tC (.ty "bool")) tNil)))) (tRet (tIf (fun σ H Q => tVar 1 σ H fun x H' => ∃ k, TruV K x H' k ∧ Q k H') (tOp rIsB (tVar 0) (tC (.bl true))) (tOp rIsB (tVar 0) (tC (.bl false))))) tNext)
      (tSeq (tIfS (tB (tCB (rIsi K) (tCons (tVar 1) (tCons (tC (.ty "str")) tNil)))) (tRet (tAndV (tCB (rIsi K) (tCons (tVar 0) (tCons (tC (.ty "str")) tNil))) (tOp rEq (tVar 0) (tVar 1)))) tNext)
        (tRet (tAndV (tCB (rIsi K) (tCons (tVar 0) (tCons (tC (.ty "int")) tNil))) (tAndV (tNotV (tCB (rIsi K) (tCons (tVar 0) (tCons (tC (.ty "bool")) tNil)))) (tOp rEq (tVar 0) (tVar 1)))))))
      { nx := fun _ H' => Q .non H', rt := Q } [some x, some x, none] H := by
  have kn : Kn H x := .inl hx
  walk_at "go"
  cases x with
  | non =>
    refine ite_d (fun _ => ?_) (fun z => absurd rfl z)
    walk_at "go"
    exact k
  | bl b =>
    refine ite_d (fun z => (by cases z)) (fun _ => ?_)
    walk_at "go"
    refine r_isi kn (by decide) ?_
    refine ⟨_, rfl, ?_⟩
    rw [show isA (knTy H (V.bl b)) "bool" = true from rfl]
    walk_at "go"
    refine ⟨b, rfl, ?_⟩
    cases b with
    | true =>
      walk_at "go"
      exact r_isBl k
    | false =>
      walk_at "go"
      exact r_isBl k
  | int i =>
    refine ite_d (fun z => (by cases z)) (fun _ => ?_)
    walk_at "go"
    refine r_isi kn (by decide) ?_
    refine ⟨_, rfl, ?_⟩
    rw [show isA (knTy H (V.int i)) "bool" = false from rfl]
    walk_at "go"
    refine r_isi kn (by decide) ?_
    refine ⟨_, rfl, ?_⟩
    rw [show isA (knTy H (V.int i)) "str" = false from rfl]
    walk_at "go"
    refine r_isi kn (by decide) ?_
    refine ⟨_, rfl, ?_⟩
    rw [show isA (knTy H (V.int i)) "int" = true from rfl]
    walk_at "go"
    refine r_isi kn (by decide) ?_
    refine ⟨_, rfl, ?_⟩
    rw [show isA (knTy H (V.int i)) "bool" = false from rfl]
    walk_at "go"
    rw [decide_eq_true (rfl : i = i)]
    exact k
  | str y =>
    refine ite_d (fun z => (by cases z)) (fun _ => ?_)
    walk_at "go"
    refine r_isi kn (by decide) ?_
    refine ⟨_, rfl, ?_⟩
    rw [show isA (knTy H (V.str y)) "bool" = false from rfl]
    walk_at "go"
    refine r_isi kn (by decide) ?_
    refine ⟨_, rfl, ?_⟩
    rw [show isA (knTy H (V.str y)) "str" = true from rfl]
    walk_at "go"
    refine r_isi kn (by decide) ?_
    refine ⟨_, rfl, ?_⟩
    rw [show isA (knTy H (V.str y)) "str" = true from rfl]
    walk_at "go"
    refine ⟨rfl, ?_⟩
    rw [decide_eq_true rfl]
    exact k
  | _ => cases hx
theorem not_tup {H : Hp} {x : V} (hx : atomV x = true) : isA (knTy H x) "tuple" = false := by
  cases x with
  | non => rfl
  | bl b => rfl
  | int i => rfl
  | str y => rfl
  | _ => cases hx
theorem c_same (T : Txt K mg) : ∀ k, CalX P w K mg base CX0 (k + 1) "_law_same" (spSame k) []
  | 0 => by
    refine mkcal (ps := ["_law_told_here", "_law_due"]) T.u_same T.g_same sc_same (fun _ _ _ _ _ _ us hl => match us, hl with | [_, _], _ => rfl) (spSame_len 0) (fun f cdv A outer s H vs Q E hr h => ?_)
    obtain ⟨x, y, rfl, ⟨hx, rfl⟩, k⟩ := h
    refine ⟨_, PSs.nox (pss_cons (ps_if (pt_val (pe_callB (k_isi K) (by rfl) T.n_isinstance b_isinstance (pa_cons (pv 1) (pa_cons (pe_bltn (v := .ty "tuple") (by rfl) T.n_tuple b_tuple rfl) pa_nil)))) pss_never pss_nil)
      (pss_cons (ps_if (pt_cmpR k_isN (pv 1) pe_non (nomark _)) (pss_one (ps_ret (pe_cmpR k_isN (pv 0) pe_non (nomark _)))) pss_nil)
      (pss_cons (ps_if (pt_val (pe_callB (k_isi K) (by rfl) T.n_isinstance b_isinstance (pa_cons (pv 1) (pa_cons (pe_bltn (v := .ty "bool") (by rfl) T.n_bool b_bool rfl) pa_nil)))) (pss_one (ps_ret (pe_ifExp (pt_truth (pv 1) (by intro _; rfl)) (pe_cmpR op_isBl (pv 0) pe_bl (nomark _)) (pe_cmpR op_isBl (pv 0) pe_bl (nomark _))))) pss_nil)
      (pss_cons (ps_if (pt_val (pe_callB (k_isi K) (by rfl) T.n_isinstance b_isinstance (pa_cons (pv 1) (pa_cons (pe_bltn (v := .ty "str") (by rfl) T.n_str b_str rfl) pa_nil)))) (pss_one (ps_ret (pe_and (pe_callB (k_isi K) (by rfl) T.n_isinstance b_isinstance (pa_cons (pv 0) (pa_cons (pe_bltn (v := .ty "str") (by rfl) T.n_str b_str rfl) pa_nil))) (pe_one (pe_cmpR op_eq (pv 0) (pv 1) (nomark _)))))) pss_nil)
      (pss_one (ps_ret (pe_and (pe_callB (k_isi K) (by rfl) T.n_isinstance b_isinstance (pa_cons (pv 0) (pa_cons (pe_bltn (v := .ty "int") (by rfl) T.n_int b_int rfl) pa_nil))) (pe_and (pe_not (pe_callB (k_isi K) (by rfl) T.n_isinstance b_isinstance (pa_cons (pv 0) (pa_cons (pe_bltn (v := .ty "bool") (by rfl) T.n_bool b_bool rfl) pa_nil)))) (pe_one (pe_cmpR op_eq (pv 0) (pv 1) (nomark _))))))))))), ?_⟩
    walk_at "beg"
    walk_at "go"
    refine r_isi (.inl hx) (by decide) ?_
    refine ⟨_, rfl, ?_⟩
    rw [not_tup hx]
    exact r_F (r_next (same_atom hx (k H (Same.refl H))))
  | k + 1 => by
    have c_same : CalX P w K mg base CX0 (k + 1) "_law_same" (spSame k) [] := c_same T k
    refine mkcal (ps := ["_law_told_here", "_law_due"]) T.u_same T.g_same sc_same (fun _ _ _ _ _ _ us hl => match us, hl with | [_, _], _ => rfl) (spSame_len (k + 1)) (fun f cdv A outer s H vs Q E hr h => ?_)
    obtain ⟨x, y, rfl, h, kQ⟩ := h
    refine ⟨_, PSs.nox (pss_cons (ps_if (pt_val (pe_callB (k_isi K) (by rfl) T.n_isinstance b_isinstance (pa_cons (pv 1) (pa_cons (pe_bltn (v := .ty "tuple") (by rfl) T.n_tuple b_tuple rfl) pa_nil)))) (pss_cons (ps_if (PW.pt (pw_or (pt_not (pt_val (pe_callB (k_isi K) (by rfl) T.n_isinstance b_isinstance (pa_cons (pv 0) (pa_cons (pe_bltn (v := .ty "tuple") (by rfl) T.n_tuple b_tuple rfl) pa_nil))))) (pw_or1 (pt_cmpR op_ne (pe_callB (k_len K) (by rfl) T.n_len b_len (pa_cons (pv 0) pa_nil)) (pe_callB (k_len K) (by rfl) T.n_len b_len (pa_cons (pv 1) pa_nil)) (nomark _))))) (pss_one (ps_ret pe_bl)) pss_nil)
      (pss_one (ps_ret (pe_cmpR (k_eqD K (hu64 hr)) (pe_lc (own := [("_law_k", 2)]) (g := gName 2) rfl sc_same.nd (pi_range1 (by rfl) T.n_range (pa_cons (pe_callB (k_len K) (by rfl) T.n_len b_len (pa_cons (pv 1) pa_nil)) pa_nil)) (blkOk_by (own := [("_law_k", 2)]) (N := ["_law_told_here", "_law_due", "_law_k"]) (sc := defScope s_same) (by decide +kernel)) (fun _ _ _ _ _ => pg_name (i := 2) sc_same.nd rfl (Or.inl rfl)) (fun _ _ _ _ _ => (pts_one (pt_not (pt_val (pc0 c_same hr (Nat.le_refl _) (pa_cons (pe_ix (k_ixt K) (pv 0) (pv 2) (fun _ _ => rfl)) (pa_cons (pe_ix (k_ixt K) (pv 1) (pv 2) (fun _ _ => rfl)) pa_nil))))))) (fun _ _ _ _ _ => (pv 2))) (pe_lst pa_nil) (nomark _))))) pss_nil)
      (pss_cons (ps_if (pt_cmpR k_isN (pv 1) pe_non (nomark _)) (pss_one (ps_ret (pe_cmpR k_isN (pv 0) pe_non (nomark _)))) pss_nil)
      (pss_cons (ps_if (pt_val (pe_callB (k_isi K) (by rfl) T.n_isinstance b_isinstance (pa_cons (pv 1) (pa_cons (pe_bltn (v := .ty "bool") (by rfl) T.n_bool b_bool rfl) pa_nil)))) (pss_one (ps_ret (pe_ifExp (pt_truth (pv 1) (by intro _; rfl)) (pe_cmpR op_isBl (pv 0) pe_bl (nomark _)) (pe_cmpR op_isBl (pv 0) pe_bl (nomark _))))) pss_nil)
      (pss_cons (ps_if (pt_val (pe_callB (k_isi K) (by rfl) T.n_isinstance b_isinstance (pa_cons (pv 1) (pa_cons (pe_bltn (v := .ty "str") (by rfl) T.n_str b_str rfl) pa_nil)))) (pss_one (ps_ret (pe_and (pe_callB (k_isi K) (by rfl) T.n_isinstance b_isinstance (pa_cons (pv 0) (pa_cons (pe_bltn (v := .ty "str") (by rfl) T.n_str b_str rfl) pa_nil))) (pe_one (pe_cmpR op_eq (pv 0) (pv 1) (nomark _)))))) pss_nil)
      (pss_one (ps_ret (pe_and (pe_callB (k_isi K) (by rfl) T.n_isinstance b_isinstance (pa_cons (pv 0) (pa_cons (pe_bltn (v := .ty "int") (by rfl) T.n_int b_int rfl) pa_nil))) (pe_and (pe_not (pe_callB (k_isi K) (by rfl) T.n_isinstance b_isinstance (pa_cons (pv 0) (pa_cons (pe_bltn (v := .ty "bool") (by rfl) T.n_bool b_bool rfl) pa_nil)))) (pe_one (pe_cmpR op_eq (pv 0) (pv 1) (nomark _))))))))))), ?_⟩
    walk_at "beg"
    walk_at "go"
    rcases h with ⟨hx, rfl⟩ | ⟨a, b, xs, ys, rfl, rfl, ha, hb, l1, l2, w⟩
    · refine r_isi (.inl hx) (by decide) ?_
      refine ⟨_, rfl, ?_⟩
      rw [not_tup hx]
      exact r_F (r_next (same_atom hx (kQ H (Same.refl H))))
    · have ka : Kn H (.ref a) := .inr ⟨a, xs, rfl, .inr ha⟩
      have kb : Kn H (.ref b) := .inr ⟨b, ys, rfl, .inr hb⟩
      have ta : isA (knTy H (.ref a)) "tuple" = true := by simp only [knTy, ha]; rfl
      have tb : isA (knTy H (.ref b)) "tuple" = true := by simp only [knTy, hb]; rfl
      refine r_isi kb (by decide) ?_
      refine ⟨_, rfl, ?_⟩
      rw [tb]
      walk_at "go"
      refine r_isi ka (by decide) ?_
      refine ⟨_, rfl, ?_⟩
      rw [ta]
      walk_at "go"
      refine r_len (.inr (SqT.of ha)) ?_
      walk_at "go"
      refine r_len (.inr (SqT.of hb)) ?_
      walk_at "go"
      refine ite_nd (fun ne => absurd (show (xs.length : Int) = (ys.length : Int) by omega) ne) (fun _ => ?_)
      walk_at "go"
      refine r_len (.inr (SqT.of hb)) ?_
      refine r_rj ys.length rfl (by omega) ?_
      refine lcR_range (fun L i H1 => H1 L = some (.lst []) ∧ L2.Same H H1) ?_ ?_ ?_
      · intro L hL
        exact ⟨upd_same, Same.new hL⟩
      · rintro L i H1 hL hi ⟨q1, q2⟩
        have i0 : (0 : Int) + (i : Int) = (i : Int) := Int.zero_add _
        have hi2 : i < xs.length := by omega
        have g1 : xs[i]? = some xs[i] := List.getElem?_eq_getElem hi2
        have g2 : ys[i]? = some ys[i] := List.getElem?_eq_getElem hi
        walk_at "go"
        refine r_ixT (SqT.of (q2 _ _ ha)) (by rw [i0]; exact atI_nat g1) ?_
        walk_at "go"
        refine r_ixT (SqT.of (q2 _ _ hb)) (by rw [i0]; exact atI_nat g2) ?_
        walk_at "go"
        refine ⟨_, _, rfl, (w i _ _ g1 g2).same q2, fun H2 s2 => ?_⟩
        refine ⟨_, rfl, ?_⟩
        walk_at "go"
        exact ⟨s2 _ _ q1, q2.trans s2⟩
      · rintro L H1 hL ⟨q1, q2⟩
        walk_at "go"
        refine ⟨sz10 (by simp), r_new fun M H2 _ s2 hM _ => ?_⟩
        refine ⟨.list [], .list [], .lst (SqL.of (s2 _ _ q1)) .nil, .lst (SqL.of hM) .nil, rfl, rfl, ?_⟩
        have e : PyData.eqv (.list []) (.list []) = true := by simp [PyData.eqv, PyData.eqvAll]
        rw [e]
        exact kQ H2 (q2.trans s2)
end
end Kb
set_option Elab.async false
set_option linter.all false
set_option maxRecDepth 100000
set_option maxHeartbeats 4000000
namespace Kb
open PySem PySem.Spec PyProof.Rows L2
/-! ### calls in a try: the wish hangs on the slots -/
def tMethE (C : Addr) (m : Str) (sp : Sp) (E : L2.St → XK) (ta : TE) (t : TA) : TE := fun σ H Q => ta σ H fun x H1 => ∃ a dx fs, x = .ref a ∧ H1 a = some (.ins C dx fs) ∧ fs.lookup m = none ∧ t σ H1 fun vs H2 => sp (x :: vs) H2 Q (E σ)
def tMakeE (K : PySem.W.Frag) (E : L2.St → XK) (t : TA) : TE := fun σ H Q => t σ H fun vs H1 => MkQ K vs H1 Q (E σ)
section
variable {X : Cx} {CX : CXT} {k : Nat} {f C : Addr} {fd : FuncData} {ps : List Str} {sp : Sp} {E : L2.St → XK} {m : Str} {p pos apos : Pos} {e o : Expr} {es : List Expr} {ta : TE} {t : TA}
theorem pmS {pl : Sem Bool} (he : PE X o ta) (c : Cls X.K C) (hm : Meth X.K C m f) (F : FnOk X.prog X.w X.K X.mg X.base CX k f fd ps sp) (hr : Room k X.A) (hb : Binds X.K fd ps []) (hx : ∀ σ, PassesAt CX X σ (E σ)) (ha : PA X (e :: es) t)
    (hst : starEach (e :: es) X.env = (false, eval e X.env) :: starEach es X.env := by rfl) (hpl : (backTo pos (starEach es X.env)).any (·.1) = false := by rfl)
    (ht : eval (.Call (.Attribute o m apos) (e :: es) [] pos) X.env = (do
      let ov ← eval o X.env
      standAt apos.atName
      let (f, first) ← holding [ov] (getMethod ov m pl)
      callWith pos f first (backTo pos (starEach (e :: es) X.env)) (backToKw pos (keywordEach [] X.env))) := by rfl) :
    PE X (.Call (.Attribute o m apos) (e :: es) [] pos) (tMethE C m sp E ta t) := by
  refine ⟨fun pins s σ H Q I h => ?_⟩
  refine PySem.W.methodCall_KW (pl := pl) (thn (he.run pins s σ H _ I h) fun u s1 z => ?_) ht
  obtain ⟨x, H1, I1, rx, a, dx, fs, rfl, ea, l, q⟩ := z
  cases rx
  refine getmeth_ok I1 ea c hm l ?_
  refine PySem.W.callWith_K (first := [.ref a]) (h₀ := X.base) I.ok.mod.kin hm.kp (thn (ha.run pos pins s1 σ H1 _ I1 q) fun us s2 y => ?_) hst hpl
  obtain ⟨vs, H2, I2, r, q2⟩ := y
  exact ⟨I2.kIn, run_fnS (us := .ref a :: us) (vs := .ref a :: vs) F hr hb (hx σ) I2 (.cons rfl r) q2⟩
theorem pe_BookE {K : PySem.W.Frag} {mg : Str → Option Value} (T : Txt K mg) (hr : Room 5 X.A) (hx : ∀ σ, PassesAt (CL X.prog X.w) X σ (E σ)) (ha : PA X (e :: es) t) (hK : X.K = K := by rfl) (hM : X.mg = mg := by rfl) (hg : Gl X "Book" := by rfl) (he : starEach (e :: es) X.env = (false, eval e X.env) :: starEach es X.env := by rfl) (hpl : (backTo pos (starEach es X.env)).any (·.1) = false := by rfl) :
    PE X (.Call (.Name "Book" p) (e :: es) [] pos) (tMakeE K E t) := by
  subst hK hM
  obtain ⟨fd, F, ok⟩ := c_Book_init (P := X.prog) (w := X.w) (base := X.base) T
  have hb : Binds X.K fd ["self", "houses", "values", "inputs"] [] := F.bindsN fun _ _ _ _ _ _ us hl => match us, hl with | [_, _, _, _], _ => rfl
  refine ⟨fun pins s σ H Q I h => ?_⟩
  refine wpAny_Call_Name_kw (ld_glob I hg T.g_Book ?_ (by decide))
  refine PySem.W.callWith_K (h₀ := X.base) I.ok.mod.kin T.kBook.kp (thn (ha.run pos pins s σ H _ I h) fun us s1 y => ?_) he hpl
  obtain ⟨vs, H1, I1, r, q⟩ := y
  refine ⟨I1.kIn, ?_⟩
  show wpAny _ _ (call (.ref (He.ga X.K "Book")) us) _ _ _
  have ask := q (s1.heap.objs.size + 1) s1.heap.objs.size (I1.hok.fresh (Nat.le_succ _)) (I1.hok.fresh (Nat.le_refl _)) (Nat.ne_of_lt (Nat.lt_succ_self _))
  rw [List.append_nil] at ask
  have J := Inv.made (C := He.ga X.K "Book") I1
  have rv : Vals (V.ref (s1.heap.objs.size + 1) :: vs) (Value.ref (s1.heap.objs.size + 1) :: us) := .cons rfl r
  have len : (Value.ref (s1.heap.objs.size + 1) :: us ++ []).length = (["self", "houses", "values", "inputs"] : List Str).length := by
    rw [List.append_nil, ← rv.length]
    exact ok.len _ _ _ _ ask
  have b := hb _ (Value.ref (s1.heap.objs.size + 1) :: us) J.kIn len
  rw [List.append_nil] at b
  refine wpAny_call (make_map (f := He.ma X.K (He.ga X.K "Book") "__init__") I1.kIn T.kBook.makes T.kBook.init (beq_iff_eq.mp T.kBook.fn) (codeAny_mono (ok.run _ X.stack _ _ ⟨Value.ref (s1.heap.objs.size + 1) :: us, []⟩ (Value.ref (s1.heap.objs.size + 1) :: us) _ _ (E σ) (hr.make (He.ga X.K "Book") us [])
    (J.env0.make (He.ga X.K "Book") us []) b rv ask) fun w s2 back => ?_))
  match w, back with
  | .error x, back => exact hx σ pins _ _ x s2 J back
  | .ok .next, back => exact back.elim
  | .ok .brk, back => exact back.elim
  | .ok .cont, back => exact back.elim
  | .ok (.ret u), back =>
    obtain ⟨v, H', I3, ru, ev, q3⟩ := J.after back
    subst ev
    exact ⟨ru, ⟨V.ref (s1.heap.objs.size + 1), H', I3, rfl, q3⟩⟩
end
/-! ### isinstance of what is caught -/
/-- the dict of what is caught stands -/
def DictAt (H : Hp) : Option Addr → Prop
  | none => True
  | some dd => ∃ fs, H dd = some (.xd fs)
def rIsX (K : PySem.W.Frag) (cls : Value) (d : Option Addr) (a : Addr) : List V → Hp → VK → Prop := fun xs H Q => ∃ (D : Addr) (c : V) (u : Value) (b : Bool), xs = [.ref a, c] ∧ cls = .ref D ∧ ClsV c u ∧ ClC K D ∧ XfC K D ∧ DictAt H d ∧ PySem.W.kitOne K (.ref D) u = some b ∧ Q (.bl b) H
theorem k_isX {X : Cx} (K : PySem.W.Frag) {a : Addr} {oe : Obj} {cls : Value} {d : Option Addr} {pn : List (Addr × Obj)} (hz : Zc cls d oe) (hf : ∃ vs, oe.data = .fields vs) (h : X.K = K := by rfl) : CallR (X.suite a ((a, oe) :: pn)) (.builtin "isinstance") (rIsX K cls d a) := by
  subst h
  intro pins s σ H xs us Q I r h
  obtain ⟨D, c, u, b, rfl, rfl, kc, L, F, hd, e, q⟩ := h
  cases r with
  | cons rx rr =>
    cases rr with
    | cons rt rr =>
      cases rr
      cases rx
      have eu := kc.eq rt
      subst eu
      obtain ⟨hget, _⟩ := I.pin (a, oe) (List.mem_append_left _ List.mem_cons_self)
      obtain ⟨vs, hv⟩ := hf
      have nc : PySem.W.notCls oe := by unfold PySem.W.notCls; rw [hv] <;> rfl
      have J : ∃ od, PySem.W.InstAt s.heap a oe D od := by
        cases d with
        | none => exact ⟨none, hget, hz.1, nc, by rw [hz.2]; trivial⟩
        | some dd =>
          obtain ⟨fs, hdd⟩ := hd
          obtain ⟨mA, hns, _⟩ := (show ObjOk X.prog X.w H s.heap dd (.xd fs) from I.hok dd _ hdd)
          obtain ⟨od, ho, _⟩ := lookIn_ns hns
          exact ⟨some od, hget, hz.1, nc, by rw [hz.2]; exact ho⟩
      obtain ⟨od, J⟩ := J
      exact PySem.W.kia_one (PySem.W.kitx_exc (od := od) L.some_ F.ga F.gg F.exC L.cl L.gt L.tk L.ob) I.kIn J e (fun z => nomatch z) fun tk => ⟨.bl b, H, I.kept (t' := tk) fun _ _ z => z, rfl, q⟩
end Kb
set_option Elab.async false
set_option linter.all false
set_option maxRecDepth 100000
set_option maxHeartbeats 4000000
namespace Kb
open PySem PySem.Spec PyProof.Rows L2
theorem takesNo {X : Cx} : L2.Takes X (fun _ _ _ _ => False) := fun _ _ x => by
  obtain ⟨_, _, _, _, _, _, _, _, _, _, _, _, _, _, _, _, z⟩ := x
  exact z.elim
theorem r_methE {C : Addr} {m : Str} {sp : Sp} {E : L2.St → XK} {ta : TE} {t : TA} {σ : L2.St} {H : Hp} {Q : VK} (h : ta σ H fun x H1 => ∃ a dx fs, x = .ref a ∧ H1 a = some (.ins C dx fs) ∧ fs.lookup m = none ∧ t σ H1 fun vs H2 => sp (x :: vs) H2 Q (E σ)) : tMethE C m sp E ta t σ H Q := h
theorem r_makeE {K : PySem.W.Frag} {E : L2.St → XK} {t : TA} {σ : L2.St} {H : Hp} {Q : VK} (h : t σ H fun vs H1 => MkQ K vs H1 Q (E σ)) : tMakeE K E t σ H Q := h
/-- the suite is run -/
theorem r_as {K : PySem.W.Frag} {C c : Addr} {i : Nat} {ts : Addr → Value → Option Addr → TS} {Wout : WX} {D : Ends} {d : Option Addr} {σ : L2.St} {H : Hp} (e : PySem.W.exmOne K (.ref C) (.ref c) = some true)
    (h : ∀ a, H a = none → ts a (.ref C) d { nx := fun σ' H' => D.nx (σ'.set i none) H', rt := D.rt, bk := fun σ' H' => D.bk (σ'.set i none) H', ct := fun σ' H' => D.ct (σ'.set i none) H' } (σ.set i (some (.ref a))) H) : WE (wAs K (.ref c) i ts Wout D) σ (.ref C) d H :=
  ⟨true, e, fun _ => h, fun z => (by cases z)⟩
local macro_rules | `(tactic| walk_at "beg") => `(tactic| simp only [cxK, cxKn, cxW, cxWn, cxP, cxPn, L2.start, List.map_cons, List.map_nil, List.length_cons, List.length_nil, Nat.reduceAdd, Nat.reduceSub, List.replicate_succ, List.replicate_zero, List.cons_append, List.nil_append])
local macro_rules | `(tactic| walk_at "go1") => `(tactic| with_reducible (first
  | refine r_seq ?_ | refine r_asg ?_ | refine r_if ?_ | refine r_ret ?_ | refine r_next ?_ | refine r_drop ?_ | refine r_gsub ?_
  | refine r_c ?_ | refine r_op ?_ | refine r_un ?_ | refine r_cons ?_ | refine r_nil ?_ | refine r_cb ?_ | refine r_call ?_ | refine r_test ?_ | refine r_B ?_ | refine r_bl ?_
  | refine r_and ?_ | refine r_or ?_ | refine r_not ?_ | refine r_ifE ?_ | refine r_andV ?_ | refine r_orV ?_ | refine r_notV ?_ | refine r_blV ?_ | refine r_T ?_ | refine r_F ?_ | refine r_nT ?_ | refine r_nF ?_
  | refine r_int ?_ | refine r_eqI ?_ | refine r_neI ?_
  | refine r_yes ?_ | refine r_lc ?_ | refine r_rng1 ?_ | refine r_rng2 ?_ | refine r_iList ?_ | refine r_iTup ?_ | refine r_for ?_
  | refine r_bm ?_ | refine r_sl ?_ | refine r_np ?_ | refine r_part ?_ | refine r_partI ?_ | refine r_lstRg ?_ | refine r_rg1 ?_ | refine r_rgI ?_ | refine r_isN ?_ | refine r_notN ?_ | refine r_notT ?_ | refine r_mkA ?_ | refine r_callS ?_ | refine r_sfld ?_ | refine r_fld ?_ | refine r_sortSet ?_ | refine r_mkO ?_ | refine r_enum ?_ | refine r_make ?_
  | refine r_I0 ?_ | refine r_U ?_ | refine r_tup ?_ | refine r_lst ?_))
local macro_rules | `(tactic| walk_at "go") => `(tactic| repeat (first | walk_at "go1" | with_reducible refine r_var (by with_unfolding_all rfl) ?_ | with_reducible refine r_lcT (by with_unfolding_all rfl) ?_ | with_reducible refine r_name (by (try simp only [wipe, List.set_cons_succ, List.set_cons_zero]) <;> with_unfolding_all rfl) ?_))
section
variable {P : Program} {w : World} {K : PySem.W.Frag} {mg : Str → Option Value} {base : Heap}
theorem sc_unlike_books : FnScope ["_law_which", "_law_one", "_law_other", "raised"] ["_law_which", "_law_one", "_law_other"] (defScope s_unlike_books) := ⟨rfl, rfl, rfl, by decide +kernel, rfl, by decide +kernel, by decide +kernel⟩
def tAl (K : PySem.W.Frag) (W : WX) : TE := tCallS (spAlike K) (WE W) (tCons (tVar 1) (tCons (tVar 2) tNil))
theorem r_al {W : WX} {σ : L2.St} {H : Hp} {Q : VK} (h : tCons (tVar 1) (tCons (tVar 2) tNil) σ H fun vs H1 => spAlike K vs H1 Q (WE W σ)) : tAl K W σ H Q := h
def spUnlikeB (K : PySem.W.Frag) : Sp := fun vs H Q _ => ∃ (i a b : _) (n m n2 m2 : Nat) (ks js : Ks), vs = [.int i, .ref a, .ref b] ∧ BookAt K H a n m ks ∧ BookAt K H b n2 m2 js ∧ (n ≠ n2 ∨ m ≠ m2) ∧ Q (.str "unlike") H
theorem c_unlike_books (T : Txt K mg) : CalX P w K mg base CX0 5 "_law_unlike_books" (spUnlikeB K) [] := by
  have c1 : CalX P w K mg base (CL P w) 4 "joined_books" (spAlike K) [] := c_joined_books T
  have c2 : CalX P w K mg base (CL P w) 4 "shared_book" (spAlike K) [] := c_shared_book T
  have c3 : CalX P w K mg base (CL P w) 4 "book_less" (spAlike K) [] := c_book_less T
  have c4 : CalX P w K mg base (CL P w) 4 "book_within" (spAlike K) [] := c_book_within T
  refine mkcal (ps := ["_law_which", "_law_one", "_law_other"]) T.u_unlike_books T.g_unlike_books sc_unlike_books (fun _ _ _ _ _ _ us hl => match us, hl with | [_, _, _], _ => rfl) (fun vs H Q E h => ?_) (fun f cdv A outer s H vs Q E hr h => ?_)
  · obtain ⟨_, _, _, _, _, _, _, _, _, rfl, _⟩ := h
    rfl
  · obtain ⟨i, a, b, n, m, n2, m2, ks, js, rfl, B1, B2, hne, k⟩ := h
    refine ⟨_, PSs.nox (pss_one (L2.ps_try_as (i := 3) (tb := fun W => tSeq (tIfS (tTest (tOp rEq (tVar 0) (tC (.int 0)))) (tRet (tOp (rEqB K) (tAl K W) (tVar 1))) tNext) (tSeq (tIfS (tTest (tOp rEq (tVar 0) (tC (.int 1)))) (tRet (tOp (rEqB K) (tAl K W) (tVar 1))) tNext) (tRet (tIf (tTest (tOp rEq (tVar 0) (tC (.int 2)))) (tOp (rEqB K) (tAl K W) (tVar 1)) (tAl K W))))) (ts := fun a cls d => tRet (tIf (tB (tCB (rIsX K cls d a) (tCons (tVar 3) (tCons (tC (.ref (He.ga K "UnlikeBooks"))) tNil)))) (tC (.str "unlike")) (tC (.str "other")))) (Wout := fun _ _ _ _ => False) rfl rfl sc_unlike_books.nd rfl rfl (nmG T.g_FirmError) takesNo (fun W pn xe tk _ => pss_cons (ps_if (pt_cmpR op_eq (pv 0) pe_int (nomark _)) (pss_one (ps_ret (pe_cmpR (k_eqB T (hr.mono (by decide))) (pcS c1 hr (by decide) (L2.passAt tk) (pa_cons (pv 1) (pa_cons (pv 2) pa_nil))) (pv 1) (nomark _)))) pss_nil) (pss_cons (ps_if (pt_cmpR op_eq (pv 0) pe_int (nomark _)) (pss_one (ps_ret (pe_cmpR (k_eqB T (hr.mono (by decide))) (pcS c2 hr (by decide) (L2.passAt tk) (pa_cons (pv 1) (pa_cons (pv 2) pa_nil))) (pv 1) (nomark _)))) pss_nil) (pss_one (ps_ret (pe_ifExp (pt_cmpR op_eq (pv 0) pe_int (nomark _)) (pe_cmpR (k_eqB T (hr.mono (by decide))) (pcS c3 hr (by decide) (L2.passAt tk) (pa_cons (pv 1) (pa_cons (pv 2) pa_nil))) (pv 1) (nomark _)) (pcS c4 hr (by decide) (L2.passAt tk) (pa_cons (pv 1) (pa_cons (pv 2) pa_nil)))))))) (fun a oe cls d pn hz hf => pss_one (ps_ret (pe_ifExp (pt_val (pe_callB (k_isX K hz hf) (by rfl) T.n_isinstance b_isinstance (pa_cons (pv 3) (pa_cons (pe_glob (v := .ref (He.ga K "UnlikeBooks")) rfl T.g_UnlikeBooks rfl) pa_nil)))) pe_str pe_str))))), ?_⟩
    walk_at "beg"
    have fin : ∀ {W : WX} {R : VK}, W = wAs K (.ref (He.ga K "FirmError")) 3 (fun a cls d => tRet (tIf (tB (tCB (rIsX K cls d a) (tCons (tVar 3) (tCons (tC (.ref (He.ga K "UnlikeBooks"))) tNil)))) (tC (.str "unlike")) (tC (.str "other")))) (fun _ _ _ _ => False) { nx := fun _ H' => Q .non H', rt := Q } →
        tAl K W [some (.int i), some (.ref a), some (.ref b), none] H R := by
      rintro W R rfl
      refine r_al ?_
      walk_at "go"
      refine ⟨a, b, n, m, n2, m2, ks, js, rfl, B1, B2, hne, ?_⟩
      refine r_as T.x_UnlikeBooks_Firm fun e he => ?_
      walk_at "go"
      refine ⟨_, _, _, true, rfl, rfl, .own _, T.l_UnlikeBooks, T.f_UnlikeBooks, trivial, T.i_UnlikeBooks_UnlikeBooks, ?_⟩
      walk_at "go"
      exact k
    walk_at "go"
    refine ite_d (fun _ => ?_) (fun _ => ?_)
    · walk_at "go"
      exact fin rfl
    · walk_at "go"
      refine ite_d (fun _ => ?_) (fun _ => ?_)
      · walk_at "go"
        exact fin rfl
      · walk_at "go"
        refine ite_d (fun _ => ?_) (fun _ => ?_)
        · walk_at "go"
          exact fin rfl
        · walk_at "go"
          exact fin rfl
end
end Kb
set_option Elab.async false
set_option linter.all false
set_option maxRecDepth 100000
set_option maxHeartbeats 4000000
namespace Kb
open PySem PySem.Spec PyProof.Rows L2
local macro_rules | `(tactic| walk_at "beg") => `(tactic| simp only [cxK, cxKn, cxW, cxWn, cxP, cxPn, L2.start, List.map_cons, List.map_nil, List.length_cons, List.length_nil, Nat.reduceAdd, Nat.reduceSub, List.replicate_succ, List.replicate_zero, List.cons_append, List.nil_append])
local macro_rules | `(tactic| walk_at "go1") => `(tactic| with_reducible (first
  | refine r_seq ?_ | refine r_asg ?_ | refine r_if ?_ | refine r_ret ?_ | refine r_next ?_ | refine r_drop ?_ | refine r_gsub ?_
  | refine r_c ?_ | refine r_op ?_ | refine r_un ?_ | refine r_cons ?_ | refine r_nil ?_ | refine r_cb ?_ | refine r_call ?_ | refine r_test ?_ | refine r_B ?_ | refine r_bl ?_
  | refine r_and ?_ | refine r_or ?_ | refine r_not ?_ | refine r_ifE ?_ | refine r_andV ?_ | refine r_orV ?_ | refine r_notV ?_ | refine r_blV ?_ | refine r_T ?_ | refine r_F ?_ | refine r_nT ?_ | refine r_nF ?_
  | refine r_int ?_ | refine r_eqI ?_ | refine r_neI ?_
  | refine r_yes ?_ | refine r_lc ?_ | refine r_rng1 ?_ | refine r_rng2 ?_ | refine r_iList ?_ | refine r_iTup ?_ | refine r_for ?_
  | refine r_bm ?_ | refine r_sl ?_ | refine r_np ?_ | refine r_part ?_ | refine r_partI ?_ | refine r_lstRg ?_ | refine r_rg1 ?_ | refine r_rgI ?_ | refine r_isN ?_ | refine r_notN ?_ | refine r_notT ?_ | refine r_mkA ?_ | refine r_callS ?_ | refine r_sfld ?_ | refine r_fld ?_ | refine r_sortSet ?_ | refine r_mkO ?_ | refine r_enum ?_ | refine r_make ?_
  | refine r_I0 ?_ | refine r_U ?_ | refine r_tup ?_ | refine r_lst ?_))
local macro_rules | `(tactic| walk_at "go") => `(tactic| repeat (first | walk_at "go1" | with_reducible refine r_var (by with_unfolding_all rfl) ?_ | with_reducible refine r_lcT (by with_unfolding_all rfl) ?_ | with_reducible refine r_name (by (try simp only [wipe, List.set_cons_succ, List.set_cons_zero]) <;> with_unfolding_all rfl) ?_))
section
variable {P : Program} {w : World} {K : PySem.W.Frag} {mg : Str → Option Value} {base : Heap}
theorem sc_refused : FnScope ["_law_houses", "_law_values", "_law_inputs", "raised"] ["_law_houses", "_law_values", "_law_inputs"] (defScope s_refused) := ⟨rfl, rfl, rfl, by decide +kernel, rfl, by decide +kernel, by decide +kernel⟩
/-- rows in a tuple, as a book holds them -/
structure RowsAt (H : Hp) (T1 : Addr) (n m : Nat) (ks : Ks) : Prop where
  tup : H T1 = some (.tup (refs ks))
  tups : Tups H ks
  rows : ∀ p ∈ ks, isRow n m p.2
  asc : AscS (ks.map (·.2))
  len : ks.length ≤ 256
theorem BookAt.inputs {H : Hp} {o : Addr} {n m : Nat} {ks : Ks} (B : BookAt K H o n m ks) : ∃ dx T1, H o = some (.ins (He.ga K "Book") dx [("n", .int (n : Int)), ("m", .int (m : Int)), ("inputs", .ref T1)]) ∧ RowsAt H T1 n m ks := by
  obtain ⟨dx, T1, h1, h2⟩ := B.ex
  exact ⟨dx, T1, h1, h2, B.tups, B.rows, B.asc, B.len⟩
theorem RowsAt.same {H H' : Hp} {T1 : Addr} {n m : Nat} {ks : Ks} (h : RowsAt H T1 n m ks) (s : L2.Same H H') : RowsAt H' T1 n m ks := ⟨s _ _ h.tup, h.tups.same s, h.rows, h.asc, h.len⟩
theorem verdict_good {n m : Nat} {ths : List Th} (n2 : 2 ≤ n) (n5 : n ≤ 5) (m1 : 1 ≤ m) (m4 : m ≤ 4) (h : ∀ th ∈ ths, isRow n m th.ys) : verdict (.int (n : Int)) (.int (m : Int)) (some ths) = none := by
  rw [verdict_in (whole_hi (lo := 2) (hi := 5) n2 n5) (whole_hi (lo := 1) (hi := 4) m1 m4)]
  rw [Option.map_eq_none_iff]
  refine badAt_none.mpr fun th ht => ?_
  rw [Option.isNone_iff_eq_none]
  have w := h th ht
  cases th with
  | «at» v =>
    have := w.1
    simp [Th.ys] at this
    omega
  | sq l a ys =>
    have w : isRow n m ys := w
    rw [bad_sq, if_pos w.1, Option.map_eq_none_iff]
    exact badAt_none.mpr fun v hv => okE_iff.mpr (w.2 v hv)
def spRefused : Sp := fun vs H Q _ => ∃ (hx vx ix : V) (inp : Option (List Th)), vs = [hx, vx, ix] ∧ Kn H hx ∧ Kn H vx ∧ Inp H ix inp ∧
  (∀ (what : Str) (at' : Nat), verdict hx vx inp = some (what, at') → ∀ b H', L2.Same H H' → H' b = some (.tup [.str what, .int (at' : Int)]) → Q (.ref b) H') ∧
  (∀ (n m : Nat) (ths : List Th) (b T1 : Addr) (ks : Ks) (H' : Hp), hx = .int (n : Int) → vx = .int (m : Int) → inp = some ths → L2.Same H H' → H' b = some (.tup [.str "good", .ref T1]) → RowsAt H' T1 n m ks → (∀ r, r ∈ ks.map (·.2) ↔ r ∈ ths.map Th.ys) → (∀ th ∈ ths, isRow n m th.ys) → verdict hx vx inp = none → Q (.ref b) H')
theorem c_refused (T : Txt K mg) : CalX P w K mg base CX0 6 "_law_refused" spRefused [] := by
  refine mkcal (ps := ["_law_houses", "_law_values", "_law_inputs"]) T.u_refused T.g_refused sc_refused (fun _ _ _ _ _ _ us hl => match us, hl with | [_, _, _], _ => rfl) (fun vs H Q E h => ?_) (fun f cdv A outer s H vs Q E hr h => ?_)
  · obtain ⟨_, _, _, _, rfl, _⟩ := h
    rfl
  · obtain ⟨hx, vx, ix, inp, rfl, k1, k2, k3, kE, kQ⟩ := h
    refine ⟨_, PSs.nox (pss_one (L2.ps_try_as (i := 3) (tb := fun W => tRet (tTup (tCons (tC (.str "good")) (tCons (tFld K (tMakeE K (WE W) (tCons (tVar 0) (tCons (tVar 1) (tCons (tVar 2) tNil)))) "inputs") tNil)))) (ts := fun a cls d => tRet (tIf (tAnd (tB (tCB (rIsX K cls d a) (tCons (tVar 3) (tCons (tC (.ref (He.ga K "BadBook"))) tNil)))) (tB (tCB (rIsX K cls d a) (tCons (tVar 3) (tCons (tC (.ty "ValueError")) tNil))))) (tTup (tCons (tXf a cls d (He.ga K "BadBook") "what" (tVar 3)) (tCons (tXf a cls d (He.ga K "BadBook") "at" (tVar 3)) tNil))) (tTup (tCons (tC (.str "other")) tNil)))) (Wout := fun _ _ _ _ => False) rfl rfl sc_refused.nd rfl rfl (nmG T.g_FirmError) takesNo (fun W pn xe tk _ => pss_one (ps_ret (pe_tup (pa_cons pe_str (pa_cons (pe_fld (pe_BookE T hr (L2.passAt tk) (pa_cons (pv 0) (pa_cons (pv 1) (pa_cons (pv 2) pa_nil)))) rfl) pa_nil))))) (fun a oe cls d pn hz hf => pss_one (ps_ret (pe_ifExp (PW.pt (pw_and (pt_val (pe_callB (k_isX K hz hf) (by rfl) T.n_isinstance b_isinstance (pa_cons (pv 3) (pa_cons (pe_glob (v := .ref (He.ga K "BadBook")) rfl T.g_BadBook rfl) pa_nil)))) (pw_and1 (pt_val (pe_callB (k_isX K hz hf) (by rfl) T.n_isinstance b_isinstance (pa_cons (pv 3) (pa_cons (pe_bltn (v := .ty "ValueError") (by rfl) T.n_ValueError b_ValueError rfl) pa_nil))))))) (pe_tup (pa_cons (pe_xf T.f_BadBook T.a_BadBook_what hz hf (pv 3)) (pa_cons (pe_xf T.f_BadBook T.a_BadBook_at hz hf (pv 3)) pa_nil))) (pe_tup (pa_cons pe_str pa_nil))))))), ?_⟩
    walk_at "beg"
    walk_at "go"
    refine r_makeE ?_
    walk_at "go"
    refine mkQ ⟨hx, vx, ix, inp, rfl, k1, k2, k3, fun what at' hv H2 d s2 hd => ?_, fun n m ths o ks H2 e1 e2 e3 s2 _ B hm hg => ?_⟩
    · refine r_as T.x_BadBook_Firm fun e he => ?_
      have sd : L2.Same H2 (L2.upd H2 d (.xd [("at", .int (at' : Int)), ("what", .str what)])) := Same.new hd
      have hdd : L2.upd H2 d (.xd [("at", .int (at' : Int)), ("what", .str what)]) d = some (.xd [("at", .int (at' : Int)), ("what", .str what)]) := upd_same
      generalize L2.upd H2 d (.xd [("at", .int (at' : Int)), ("what", .str what)]) = H3 at he sd hdd
      walk_at "go"
      refine ⟨_, _, _, true, rfl, rfl, .own _, T.l_BadBook, T.f_BadBook, ⟨_, hdd⟩, T.i_BadBook_BadBook, ?_⟩
      walk_at "go"
      refine ⟨_, _, _, true, rfl, rfl, .ty _, T.l_BadBook, T.f_BadBook, ⟨_, hdd⟩, T.i_BadBook_ValueError, ?_⟩
      walk_at "go"
      refine ⟨_, rfl, rfl, rfl, d, _, _, rfl, hdd, rfl, ?_⟩
      walk_at "go"
      refine ⟨_, rfl, rfl, rfl, d, _, _, rfl, hdd, rfl, ?_⟩
      walk_at "go"
      refine ⟨sz10 (by simp), r_new fun b H4 _ s4 hb _ => ?_⟩
      exact kE what at' hv b H4 ((s2.trans sd).trans s4) hb
    · obtain ⟨dx, T1, h1, R⟩ := B.inputs
      refine ⟨o, _, dx, _, _, rfl, h1, T.cBook, T.a_Book_inputs, rfl, ?_⟩
      walk_at "go"
      refine ⟨sz10 (by simp), r_new fun b H4 _ s4 hb _ => ?_⟩
      exact kQ n m ths b T1 ks H4 e1 e2 e3 (s2.trans s4) hb (R.same s4) hm hg (by rw [e1, e2, e3]; exact verdict_good B.n2 B.n5 B.m1 B.m4 hg)
end
end Kb
set_option Elab.async false
set_option linter.all false
set_option maxRecDepth 100000
set_option maxHeartbeats 4000000
namespace Kb
open PySem PySem.Spec PyProof.Rows L2
/-! ### repr: no repr is under way -/
theorem small_show {v : V} {m : Nat} (h : isInt m v) (hm : m ≤ 4) : (PyData.shown (vD v)).length ≤ 1 := by
  obtain ⟨i, rfl, h0, h1⟩ := h
  have key : ∀ j : Nat, j < 4 → (PyData.shown (.int (j : Int))).length ≤ 1 := by
    intro j hj
    have e : j = 0 ∨ j = 1 ∨ j = 2 ∨ j = 3 := by omega
    rcases e with rfl | rfl | rfl | rfl <;> decide +kernel
  obtain ⟨j, rfl⟩ : ∃ j : Nat, i = (j : Int) := ⟨i.toNat, by omega⟩
  exact key j (by omega)
theorem small_piled {m : Nat} (hm : m ≤ 4) : ∀ {r : List V}, (∀ v ∈ r, isInt m v) → piled (PyData.shownAll (r.map vD)) ≤ 3 * r.length
  | [], _ => by simp [PyData.shownAll, piled_nil]
  | v :: r, h => by
    have h1 := small_show (h v (List.mem_cons_self ..)) hm
    have h2 := small_piled hm (r := r) fun u hu => h u (List.mem_cons_of_mem _ hu)
    simp only [List.map_cons, PyData.shownAll, piled_cons, List.length_cons]
    omega
theorem row_shows {n m : Nat} {r : List V} (h : isRow n m r) (hn : n ≤ 5) (hm : m ≤ 4) : (rowD r).shown.length ≤ sizeLine := by
  have h1 := small_piled hm h.2
  have h2 := fmt_text (PyData.shownAll (r.map vD))
  have e : (rowD r).shown = tupleText (PyData.shownAll (r.map vD)) := by
    unfold rowD
    simp only [PyData.shown]
  rw [e, sizeLine_eq]
  have := h.1
  omega
theorem row_showable {m : Nat} (hm : m ≤ 4) : ∀ {r : List V}, (∀ v ∈ r, isInt m v) → PyData.showableAll (r.map vD) = true
  | [], _ => by simp [PyData.showableAll]
  | v :: r, h => by
    obtain ⟨i, rfl, h0, h1⟩ := h v (List.mem_cons_self ..)
    have h2 := row_showable hm (r := r) fun u hu => h u (List.mem_cons_of_mem _ hu)
    have h3 : i.natAbs.log2 < 1920 := by
      have : i.natAbs < 2 ^ 2 := by omega
      have h4 : i.natAbs.log2 ≤ 2 := by
        by_cases z : i.natAbs = 0
        · rw [z]; decide
        · exact Nat.le_of_lt ((Nat.log2_lt z).mpr this)
      omega
    simp only [List.map_cons, PyData.showableAll, vD, PyData.showable, h2, Bool.and_true, decide_eq_true_eq]
    exact h3
def rRepr : List V → Hp → VK → Prop := fun xs H Q => (∃ (a : Addr) (r : List V) (n m : Nat), xs = [.ref a] ∧ H a = some (.tup r) ∧ isRow n m r ∧ n ≤ 5 ∧ m ≤ 4 ∧ Q (.str (rowD r).shown) H) ∨ (xs = [.non] ∧ Q (.str "None") H)
theorem k_repr {X : Cx} (hg : X.A.guards = some []) (hu : X.A.units + 64 < cLine) : CallR X (.builtin "repr") rRepr := by
  intro pins s σ H xs us Q I r h
  rcases h with ⟨a, rw', n, m, rfl, ha, hr, hn, hm, q⟩ | ⟨rfl, q⟩
  · cases r with
    | cons r0 rr =>
      cases rr
      cases r0
      obtain ⟨as, rd⟩ := Dp.reads I _ (.ref a) (.ref a) (dp_row (K := X.K) ha hr.ints.atoms) rfl
      have hsh : (rowD rw').showable = true := by
        unfold rowD
        simp only [PyData.showable]
        exact row_showable hm hr.2
      have hnd : (rowD rw').hasDict = false := by
        have key : ∀ l : List V, PyData.hasDictAll (l.map vD) = false := by
          intro l
          induction l with
          | nil => simp [PyData.hasDictAll]
          | cons v l ih =>
            have e : PyData.hasDict (vD v) = false := by cases v <;> simp [vD, PyData.hasDict]
            simp [PyData.hasDictAll, e, ih]
        unfold rowD
        simp [PyData.hasDict, key]
      refine repr_of_reads' rd hsh (fun z => by rw [hnd] at z; cases z) hg (by rw [rowD_depth]; omega) (fun _ _ e => e) (fun h' u tk k => ?_) (row_shows hr hn hm)
      exact ⟨.str _, H, I.kept (t' := tk) k, ⟨u, rfl⟩, q⟩
  · cases r with
    | cons r0 rr =>
      cases rr
      cases r0
      exact PySem.P.repr_of_none ⟨.str "None", H, I.tok _, ⟨_, rfl⟩, q⟩
/-! ### defs that know it -/
structure FnG (P : Program) (w : World) (K : PySem.W.Frag) (mg : Str → Option Value) (base : Heap) (k : Nat) (f : Addr) (fd : FuncData) (ps : List Str) (sp : Sp) : Prop where
  len : ∀ vs H Q E, sp vs H Q E → vs.length = ps.length
  run : ∀ (A : Around) (outer : List Env) (s : Shared) (H : Hp) (args : Args) (us : List Value) (vs : List V) (Q : VK) (E : XK), Room k A → A.guards = some [] → Env0 P w K mg base A outer s H → BindsTo s fd args (ps.zip us) → Vals vs us → sp vs H Q E →
    codeAny (model P w) A (.call (.ref f) args) (CR CX0 outer P w H s Q E) s
structure CalG (P : Program) (w : World) (K : PySem.W.Frag) (mg : Str → Option Value) (base : Heap) (k : Nat) (x : Str) (sp : Sp) : Prop where
  ex : ∃ (f : Addr) (fd : FuncData) (ps : List Str), FnG P w K mg base k f fd ps sp ∧ mg x = some (.ref f) ∧ PySem.W.keepIn K (.ref f) = true ∧ Binds K fd ps []
theorem pcG {X : Cx} {k j : Nat} {x : Str} {sp : Sp} {p pos : Pos} {e : Expr} {es : List Expr} {t : TA} (c : CalG X.prog X.w X.K X.mg X.base k x sp) (hr : Room j X.A) (hk : k ≤ j) (hq : X.A.guards = some []) (ha : PA X (e :: es) t) (hg : Gl X x := by rfl)
    (hdb : (x == ("__debug__" : Str)) = false := by decide) (he : starEach (e :: es) X.env = (false, eval e X.env) :: starEach es X.env := by rfl) (hpl : (backTo pos (starEach es X.env)).any (·.1) = false := by rfl) :
    PE X (.Call (.Name x p) (e :: es) [] pos) (tCall sp [] E0 t) := by
  obtain ⟨f, fd, ps, F, m, kp, b⟩ := c.ex
  refine ⟨fun pins s σ H Q I h => ?_⟩
  refine wpAny_Call_Name_kw (ld_glob I hg m ?_ hdb)
  refine PySem.W.callWith_K (h₀ := X.base) I.ok.mod.kin kp (thn (ha.run pos pins s σ H _ I h) fun us s1 z => ?_) he hpl
  obtain ⟨vs, H1, I1, r, q⟩ := z
  refine ⟨I1.kIn, ?_⟩
  rw [List.append_nil] at q
  have b1 := b s1 us I1.kIn (by rw [List.append_nil, ← r.length]; exact F.len _ _ _ _ q)
  rw [List.append_nil] at b1
  refine wpAny_call (codeAny_mono (F.run X.A X.stack s1 H1 ⟨us, []⟩ us vs Q E0 (hr.mono hk) hq I1.env0 b1 r q) fun w s2 back => ?_)
  match w, back with
  | .error e, back => exact back.elim
  | .ok .next, back => exact back.elim
  | .ok .brk, back => exact back.elim
  | .ok .cont, back => exact back.elim
  | .ok (.ret u), back => exact I1.after back
theorem mkcalG {P : Program} {w : World} {K : PySem.W.Frag} {mg : Str → Option Value} {base : Heap} {x : Str} {st : Stmt} {N ps : List Str} {k : Nat} {sp : Sp} (u : ∃ fd, FunD K x x (defArgs st) (defBody st) (defScope st) [] [] (He.ga K x) fd) (g : mg x = some (.ref (He.ga K x))) (S : FnScope N ps (defScope st))
    (hb : ∀ (kV doc pm : Value) (an : Option Addr) (cdv ct : Value) (us : List Value), us.length = ps.length → bindArgs (PySem.W.fnOf x x (defArgs st) (defBody st) (defScope st) .none kV doc pm an cdv ct) ⟨us, []⟩ = pure (ps.zip us))
    (len : ∀ vs H Q E, sp vs H Q E → vs.length = ps.length)
    (body : ∀ (f : Addr) (cdv : Value) (A : Around) (outer : List Env) (s : Shared) (H : Hp) (vs : List V) (Q : VK) (E : XK), Room k (A.deeper (envOfC x (defScope st) s.heap.objs.size f cdv)) → A.guards = some [] → sp vs H Q E →
      ∃ t, PSs (cxOf CX0 P w K mg base N x (defScope st) f cdv A outer s H E) (defBody st) t ∧ t { nx := fun _ H' => Q .non H', rt := Q } (L2.start N vs) H) : CalG P w K mg base (k + 1) x sp := by
  obtain ⟨fd, F⟩ := u
  exact ⟨_, fd, ps, ⟨len, fun A outer s H args us vs Q E hr hg e0 bt rv h => run_here F S hr e0 bt rv (len _ _ _ _ h) fun cdv => body _ cdv A outer s H vs Q E (hr.deeper _) hg h⟩, g, F.kp, F.bindsN hb⟩
end Kb
set_option Elab.async false
set_option linter.all false
set_option maxRecDepth 100000
set_option maxHeartbeats 4000000
namespace Kb
open PySem PySem.Spec PyProof.Rows L2
local macro_rules | `(tactic| walk_at "beg") => `(tactic| simp only [cxK, cxKn, cxW, cxWn, cxP, cxPn, L2.start, List.map_cons, List.map_nil, List.length_cons, List.length_nil, Nat.reduceAdd, Nat.reduceSub, List.replicate_succ, List.replicate_zero, List.cons_append, List.nil_append])
local macro_rules | `(tactic| walk_at "go1") => `(tactic| with_reducible (first
  | refine r_seq ?_ | refine r_asg ?_ | refine r_if ?_ | refine r_ret ?_ | refine r_next ?_ | refine r_drop ?_ | refine r_gsub ?_
  | refine r_c ?_ | refine r_op ?_ | refine r_un ?_ | refine r_cons ?_ | refine r_nil ?_ | refine r_cb ?_ | refine r_call ?_ | refine r_test ?_ | refine r_B ?_ | refine r_bl ?_
  | refine r_and ?_ | refine r_or ?_ | refine r_not ?_ | refine r_ifE ?_ | refine r_andV ?_ | refine r_orV ?_ | refine r_notV ?_ | refine r_blV ?_ | refine r_T ?_ | refine r_F ?_ | refine r_nT ?_ | refine r_nF ?_
  | refine r_int ?_ | refine r_eqI ?_ | refine r_neI ?_
  | refine r_yes ?_ | refine r_lc ?_ | refine r_rng1 ?_ | refine r_rng2 ?_ | refine r_iList ?_ | refine r_iTup ?_ | refine r_for ?_
  | refine r_bm ?_ | refine r_sl ?_ | refine r_np ?_ | refine r_part ?_ | refine r_partI ?_ | refine r_lstRg ?_ | refine r_rg1 ?_ | refine r_rgI ?_ | refine r_isN ?_ | refine r_notN ?_ | refine r_notT ?_ | refine r_mkA ?_ | refine r_callS ?_ | refine r_sfld ?_ | refine r_fld ?_ | refine r_sortSet ?_ | refine r_mkO ?_ | refine r_enum ?_ | refine r_make ?_
  | refine r_I0 ?_ | refine r_U ?_ | refine r_tup ?_ | refine r_lst ?_))
local macro_rules | `(tactic| walk_at "go") => `(tactic| repeat (first | walk_at "go1" | with_reducible refine r_var (by with_unfolding_all rfl) ?_ | with_reducible refine r_lcT (by with_unfolding_all rfl) ?_ | with_reducible refine r_name (by (try simp only [wipe, List.set_cons_succ, List.set_cons_zero]) <;> with_unfolding_all rfl) ?_))
section
variable {P : Program} {w : World} {K : PySem.W.Frag} {mg : Str → Option Value} {base : Heap}
theorem sc_told : FnScope ["_law_which", "_law_book", "_law_thing", "raised"] ["_law_which", "_law_book", "_law_thing"] (defScope s_told) := ⟨rfl, rfl, rfl, by decide +kernel, rfl, by decide +kernel, by decide +kernel⟩
def tSuite (K : PySem.W.Frag) : Addr → Value → Option Addr → TS := fun a cls d => tSeq (tIfS (tB (tCB (rIsX K cls d a) (tCons (tVar 3) (tCons (tC (.ref (He.ga K "BadInput"))) tNil)))) (tRet (tTup (tCons (tC (.str "input")) (tCons (tXf a cls d (He.ga K "BadInput") "what" (tVar 3)) (tCons (tXf a cls d (He.ga K "BadInput") "house" (tVar 3)) tNil))))) tNext) (tSeq (tIfS (tB (tCB (rIsX K cls d a) (tCons (tVar 3) (tCons (tC (.ref (He.ga K "BadView"))) tNil)))) (tRet (tTup (tCons (tC (.str "view")) (tCons (tXf a cls d (He.ga K "BadView") "what" (tVar 3)) (tCons (tXf a cls d (He.ga K "BadView") "house" (tVar 3)) tNil))))) tNext) (tSeq (tIfS (tB (tCB (rIsX K cls d a) (tCons (tVar 3) (tCons (tC (.ref (He.ga K "NotInBook"))) tNil)))) (tRet (tTup (tCons (tC (.str "absent")) (tCons (tCB rRepr (tCons (tXf a cls d (He.ga K "NotInBook") "entry" (tVar 3)) tNil)) tNil)))) tNext) (tRet (tIf (tB (tCB (rIsX K cls d a) (tCons (tVar 3) (tCons (tC (.ref (He.ga K "BadBook"))) tNil)))) (tTup (tCons (tC (.str "book")) (tCons (tXf a cls d (He.ga K "BadBook") "what" (tVar 3)) (tCons (tXf a cls d (He.ga K "BadBook") "at" (tVar 3)) tNil)))) (tTup (tCons (tC (.str "other")) tNil))))))
/-- what the clause makes of two fields -/
theorem suite_end {Dn : Ends} {σ : L2.St} {H : Hp} {e : Addr} {cls : Value} {d : Option Addr} (h : (fun (a : Addr) (cls : Value) (d : Option Addr) => tSeq (tIfS (tB (tCB (rIsX K cls d a) (tCons (tVar 3) (tCons (tC (.ref (He.ga K "BadInput"))) tNil)))) (tRet (tTup (tCons (tC (.str "input")) (tCons (tXf a cls d (He.ga K "BadInput") "what" (tVar 3)) (tCons (tXf a cls d (He.ga K "BadInput") "house" (tVar 3)) tNil))))) tNext) (tSeq (tIfS (tB (tCB (rIsX K cls d a) (tCons (tVar 3) (tCons (tC (.ref (He.ga K "BadView"))) tNil)))) (tRet (tTup (tCons (tC (.str "view")) (tCons (tXf a cls d (He.ga K "BadView") "what" (tVar 3)) (tCons (tXf a cls d (He.ga K "BadView") "house" (tVar 3)) tNil))))) tNext) (tSeq (tIfS (tB (tCB (rIsX K cls d a) (tCons (tVar 3) (tCons (tC (.ref (He.ga K "NotInBook"))) tNil)))) (tRet (tTup (tCons (tC (.str "absent")) (tCons (tCB rRepr (tCons (tXf a cls d (He.ga K "NotInBook") "entry" (tVar 3)) tNil)) tNil)))) tNext) (tRet (tIf (tB (tCB (rIsX K cls d a) (tCons (tVar 3) (tCons (tC (.ref (He.ga K "BadBook"))) tNil)))) (tTup (tCons (tC (.str "book")) (tCons (tXf a cls d (He.ga K "BadBook") "what" (tVar 3)) (tCons (tXf a cls d (He.ga K "BadBook") "at" (tVar 3)) tNil)))) (tTup (tCons (tC (.str "other")) tNil))))))) e cls d Dn σ H) : tSuite K e cls d Dn σ H := h
theorem caught_BadInput (T : Txt K mg) {Dn : Ends} {v0 v1 v2 : Option V} {H : Hp} {e d : Addr} {what : Str} {at' : Nat} (hdd : H d = some (.xd [("house", .int (at' : Int)), ("what", .str what)]))
    (k : ∀ b H', L2.Same H H' → H' b = some (.tup [.str "input", .str what, .int (at' : Int)]) → Dn.rt (.ref b) H') : tSuite K e (.ref (He.ga K "BadInput")) (some d) Dn [v0, v1, v2, some (.ref e)] H := by
  refine suite_end ?_
  walk_at "go"
  refine ⟨_, _, _, true, rfl, rfl, .own _, T.l_BadInput, T.f_BadInput, ⟨_, hdd⟩, T.i_BadInput_BadInput, ?_⟩
  walk_at "go"
  refine ⟨_, rfl, rfl, rfl, d, _, _, rfl, hdd, rfl, ?_⟩
  walk_at "go"
  refine ⟨_, rfl, rfl, rfl, d, _, _, rfl, hdd, rfl, ?_⟩
  walk_at "go"
  exact ⟨sz10 (by simp), r_new fun b H4 _ s4 hb _ => k b H4 s4 hb⟩
theorem caught_BadView (T : Txt K mg) {Dn : Ends} {v0 v1 v2 : Option V} {H : Hp} {e d : Addr} {what : Str} {at' : Nat} (hdd : H d = some (.xd [("house", .int (at' : Int)), ("what", .str what)]))
    (k : ∀ b H', L2.Same H H' → H' b = some (.tup [.str "view", .str what, .int (at' : Int)]) → Dn.rt (.ref b) H') : tSuite K e (.ref (He.ga K "BadView")) (some d) Dn [v0, v1, v2, some (.ref e)] H := by
  refine suite_end ?_
  walk_at "go"
  refine ⟨_, _, _, false, rfl, rfl, .own _, T.l_BadView, T.f_BadView, ⟨_, hdd⟩, T.i_BadView_BadInput, ?_⟩
  walk_at "go"
  refine ⟨_, _, _, true, rfl, rfl, .own _, T.l_BadView, T.f_BadView, ⟨_, hdd⟩, T.i_BadView_BadView, ?_⟩
  walk_at "go"
  refine ⟨_, rfl, rfl, rfl, d, _, _, rfl, hdd, rfl, ?_⟩
  walk_at "go"
  refine ⟨_, rfl, rfl, rfl, d, _, _, rfl, hdd, rfl, ?_⟩
  walk_at "go"
  exact ⟨sz10 (by simp), r_new fun b H4 _ s4 hb _ => k b H4 s4 hb⟩
theorem caught_BadBook (T : Txt K mg) {Dn : Ends} {v0 v1 v2 : Option V} {H : Hp} {e d : Addr} {what : Str} {at' : Nat} (hdd : H d = some (.xd [("at", .int (at' : Int)), ("what", .str what)]))
    (k : ∀ b H', L2.Same H H' → H' b = some (.tup [.str "book", .str what, .int (at' : Int)]) → Dn.rt (.ref b) H') : tSuite K e (.ref (He.ga K "BadBook")) (some d) Dn [v0, v1, v2, some (.ref e)] H := by
  refine suite_end ?_
  walk_at "go"
  refine ⟨_, _, _, false, rfl, rfl, .own _, T.l_BadBook, T.f_BadBook, ⟨_, hdd⟩, T.i_BadBook_BadInput, ?_⟩
  walk_at "go"
  refine ⟨_, _, _, false, rfl, rfl, .own _, T.l_BadBook, T.f_BadBook, ⟨_, hdd⟩, T.i_BadBook_BadView, ?_⟩
  walk_at "go"
  refine ⟨_, _, _, false, rfl, rfl, .own _, T.l_BadBook, T.f_BadBook, ⟨_, hdd⟩, T.i_BadBook_NotInBook, ?_⟩
  walk_at "go"
  refine ⟨_, _, _, true, rfl, rfl, .own _, T.l_BadBook, T.f_BadBook, ⟨_, hdd⟩, T.i_BadBook_BadBook, ?_⟩
  walk_at "go"
  refine ⟨_, rfl, rfl, rfl, d, _, _, rfl, hdd, rfl, ?_⟩
  walk_at "go"
  refine ⟨_, rfl, rfl, rfl, d, _, _, rfl, hdd, rfl, ?_⟩
  walk_at "go"
  exact ⟨sz10 (by simp), r_new fun b H4 _ s4 hb _ => k b H4 s4 hb⟩
def RepOf (H : Hp) (n m : Nat) (x : V) (txt : Str) : Prop := (∃ (a : Addr) (r : List V), x = .ref a ∧ H a = some (.tup r) ∧ isRow n m r ∧ n ≤ 5 ∧ m ≤ 4 ∧ txt = (rowD r).shown) ∨ (x = .non ∧ txt = "None")
theorem caught_NotInBook (T : Txt K mg) {Dn : Ends} {v0 v1 v2 : Option V} {H : Hp} {e d : Addr} {x : V} {n m : Nat} {txt : Str} (hdd : H d = some (.xd [("entry", x)])) (hx : RepOf H n m x txt)
    (k : ∀ b H', L2.Same H H' → H' b = some (.tup [.str "absent", .str txt]) → Dn.rt (.ref b) H') : tSuite K e (.ref (He.ga K "NotInBook")) (some d) Dn [v0, v1, v2, some (.ref e)] H := by
  refine suite_end ?_
  walk_at "go"
  refine ⟨_, _, _, false, rfl, rfl, .own _, T.l_NotInBook, T.f_NotInBook, ⟨_, hdd⟩, T.i_NotInBook_BadInput, ?_⟩
  walk_at "go"
  refine ⟨_, _, _, false, rfl, rfl, .own _, T.l_NotInBook, T.f_NotInBook, ⟨_, hdd⟩, T.i_NotInBook_BadView, ?_⟩
  walk_at "go"
  refine ⟨_, _, _, true, rfl, rfl, .own _, T.l_NotInBook, T.f_NotInBook, ⟨_, hdd⟩, T.i_NotInBook_NotInBook, ?_⟩
  walk_at "go"
  refine ⟨_, rfl, rfl, rfl, d, _, _, rfl, hdd, rfl, ?_⟩
  walk_at "go"
  rcases hx with ⟨a, r, rfl, ha, hr, hn, hm, rfl⟩ | ⟨rfl, rfl⟩
  · refine .inl ⟨a, r, n, m, rfl, ha, hr, hn, hm, ?_⟩
    walk_at "go"
    exact ⟨sz10 (by simp), r_new fun b H4 _ s4 hb _ => k b H4 s4 hb⟩
  · refine .inr ⟨rfl, ?_⟩
    walk_at "go"
    exact ⟨sz10 (by simp), r_new fun b H4 _ s4 hb _ => k b H4 s4 hb⟩
def spTold (K : PySem.W.Frag) : Sp := fun vs H Q _ => ∃ (o : Addr) (n m : Nat) (ks : Ks) (x : V) (th : Th), BookAt K H o n m ks ∧ Is H x th ∧
  ((vs = [.int 0, .ref o, x] ∧ (∀ (what : Str) (house : Nat), Th.bad (okE m) n th = some (what, house) → ∀ b H', L2.Same H H' → H' b = some (.tup [.str "input", .str what, .int (house : Int)]) → Q (.ref b) H') ∧
      (Th.bad (okE m) n th = none → 256 < (others th.ys ks).length + 1 → ∀ b H', L2.Same H H' → H' b = some (.tup [.str "book", .str "many", .int ((0 : Nat) : Int)]) → Q (.ref b) H') ∧
      (∀ (b T1 : Addr) (js : Ks) (H' : Hp), isRow n m th.ys → L2.Same H H' → H' b = some (.tup [.str "good", .ref T1]) → RowsAt H' T1 n m js → (∀ r, r ∈ js.map (·.2) ↔ r ∈ ks.map (·.2) ∨ r = th.ys) → Q (.ref b) H')) ∨
   (vs = [.int 1, .ref o, x] ∧ (inB n ks th = false → ∃ txt, RepOf H n m x txt ∧ ∀ b H', L2.Same H H' → H' b = some (.tup [.str "absent", .str txt]) → Q (.ref b) H') ∧
      (inB n ks th = true → ∀ (b T1 : Addr) (js : Ks) (H' : Hp), L2.Same H H' → H' b = some (.tup [.str "good", .ref T1]) → RowsAt H' T1 n m js → (∀ r, r ∈ js.map (·.2) ↔ r ∈ ks.map (·.2) ∧ r ≠ th.ys) → Q (.ref b) H')) ∨
   (∃ (i : Int) (what : Str) (house : Nat), (i = 2 ∨ i = 3) ∧ vs = [.int i, .ref o, x] ∧ Th.bad (okW m) n th = some (what, house) ∧ ∀ b H', L2.Same H H' → H' b = some (.tup [.str "view", .str what, .int (house : Int)]) → Q (.ref b) H'))
theorem RepOf.same {H H' : Hp} {n m : Nat} {x : V} {txt : Str} (h : RepOf H n m x txt) (s : L2.Same H H') : RepOf H' n m x txt := h.imp (fun ⟨a, r, e, ha, w⟩ => ⟨a, r, e, s _ _ ha, w⟩) id
theorem bad_view {m n : Nat} {th : Th} {what : Str} {house : Nat} (h : Th.bad (okW m) n th = some (what, house)) : ∀ l a vw, th = .sq l a vw → isView n m vw → False := by
  rintro l a vw rfl hv
  rw [bad_sq, if_pos hv.1, badAt_none.mpr fun y hy => okW_iff.mpr (hv.2 y hy)] at h
  cases h
theorem g_told (T : Txt K mg) : CalG P w K mg base 7 "_law_told" (spTold K) := by
  obtain ⟨fd1, F1, ok1⟩ := m_with (P := P) (w := w) (base := base) T
  obtain ⟨fd2, F2, ok2⟩ := m_without (P := P) (w := w) (base := base) T
  obtain ⟨fd3, F3, ok3⟩ := m_going (P := P) (w := w) (base := base) T
  obtain ⟨fd4, F4, ok4⟩ := m_first (P := P) (w := w) (base := base) T
  refine mkcalG (ps := ["_law_which", "_law_book", "_law_thing"]) T.u_told T.g_told sc_told (fun _ _ _ _ _ _ us hl => match us, hl with | [_, _, _], _ => rfl) (fun vs H Q E h => ?_) (fun f cdv A outer s H vs Q E hr hg h => ?_)
  · obtain ⟨_, _, _, _, _, _, _, _, ⟨rfl, _⟩ | ⟨rfl, _⟩ | ⟨_, _, _, _, rfl, _⟩⟩ := h <;> rfl
  · obtain ⟨o, n, m, ks, x, th, B, hx, h⟩ := h
    have n5 := B.n5
    have m4 := B.m4
    obtain ⟨dx, T0, h0, _⟩ := B.ex
    have hu1 := hu64 hr
    have same_xd : ∀ {H2 : Hp} {d : Addr} {fs : List (Str × V)}, H2 d = none → L2.Same H2 (L2.upd H2 d (.xd fs)) := fun hd => Same.new hd
    refine ⟨_, PSs.nox (pss_one (L2.ps_try_as (i := 3) (tb := fun W => tSeq (tIfS (tTest (tOp rEq (tVar 0) (tC (.int 0)))) (tRet (tTup (tCons (tC (.str "good")) (tCons (tFld K (tMethE (He.ga K "Book") "with_entry" (spWith K) (WE W) (tVar 1) (tCons (tVar 2) tNil)) "inputs") tNil)))) tNext) (tSeq (tIfS (tTest (tOp rEq (tVar 0) (tC (.int 1)))) (tRet (tTup (tCons (tC (.str "good")) (tCons (tFld K (tMethE (He.ga K "Book") "without_entry" (spWithout K) (WE W) (tVar 1) (tCons (tVar 2) tNil)) "inputs") tNil)))) tNext) (tRet (tTup (tCons (tC (.str "good")) (tCons (tIf (tTest (tOp rEq (tVar 0) (tC (.int 2)))) (tMethE (He.ga K "Book") "going_on" (spView K RGo) (WE W) (tVar 1) (tCons (tVar 2) tNil)) (tMethE (He.ga K "Book") "first_going_on" (spView K RFirst) (WE W) (tVar 1) (tCons (tVar 2) tNil))) tNil)))))) (ts := tSuite K) (Wout := fun _ _ _ _ => False) rfl rfl sc_told.nd rfl rfl (nmG T.g_FirmError) takesNo (fun W pn xe tk _ => pss_cons (ps_if (pt_cmpR op_eq (pv 0) pe_int (nomark _)) (pss_one (ps_ret (pe_tup (pa_cons pe_str (pa_cons (pe_fld (pmS (pv 1) T.cBook T.m_Book_with_entry ok1 (hr.mono (by decide)) (F1.bindsN fun _ _ _ _ _ _ us hl => match us, hl with | [_, _], _ => rfl) (L2.passAt tk) (pa_cons (pv 2) pa_nil)) rfl) pa_nil))))) pss_nil) (pss_cons (ps_if (pt_cmpR op_eq (pv 0) pe_int (nomark _)) (pss_one (ps_ret (pe_tup (pa_cons pe_str (pa_cons (pe_fld (pmS (pv 1) T.cBook T.m_Book_without_entry ok2 (hr.mono (by decide)) (F2.bindsN fun _ _ _ _ _ _ us hl => match us, hl with | [_, _], _ => rfl) (L2.passAt tk) (pa_cons (pv 2) pa_nil)) rfl) pa_nil))))) pss_nil) (pss_one (ps_ret (pe_tup (pa_cons pe_str (pa_cons (pe_ifExp (pt_cmpR op_eq (pv 0) pe_int (nomark _)) (pmS (pv 1) T.cBook T.m_Book_going_on ok3 (hr.mono (by decide)) (F3.bindsN fun _ _ _ _ _ _ us hl => match us, hl with | [_, _], _ => rfl) (L2.passAt tk) (pa_cons (pv 2) pa_nil)) (pmS (pv 1) T.cBook T.m_Book_first_going_on ok4 (hr.mono (by decide)) (F4.bindsN fun _ _ _ _ _ _ us hl => match us, hl with | [_, _], _ => rfl) (L2.passAt tk) (pa_cons (pv 2) pa_nil))) pa_nil))))))) (fun a oe cls d pn hz hf => pss_cons (ps_if (pt_val (pe_callB (k_isX K hz hf) (by rfl) T.n_isinstance b_isinstance (pa_cons (pv 3) (pa_cons (pe_glob (v := .ref (He.ga K "BadInput")) rfl T.g_BadInput rfl) pa_nil)))) (pss_one (ps_ret (pe_tup (pa_cons pe_str (pa_cons (pe_xf T.f_BadInput T.a_BadInput_what hz hf (pv 3)) (pa_cons (pe_xf T.f_BadInput T.a_BadInput_house hz hf (pv 3)) pa_nil)))))) pss_nil) (pss_cons (ps_if (pt_val (pe_callB (k_isX K hz hf) (by rfl) T.n_isinstance b_isinstance (pa_cons (pv 3) (pa_cons (pe_glob (v := .ref (He.ga K "BadView")) rfl T.g_BadView rfl) pa_nil)))) (pss_one (ps_ret (pe_tup (pa_cons pe_str (pa_cons (pe_xf T.f_BadView T.a_BadView_what hz hf (pv 3)) (pa_cons (pe_xf T.f_BadView T.a_BadView_house hz hf (pv 3)) pa_nil)))))) pss_nil) (pss_cons (ps_if (pt_val (pe_callB (k_isX K hz hf) (by rfl) T.n_isinstance b_isinstance (pa_cons (pv 3) (pa_cons (pe_glob (v := .ref (He.ga K "NotInBook")) rfl T.g_NotInBook rfl) pa_nil)))) (pss_one (ps_ret (pe_tup (pa_cons pe_str (pa_cons (pe_callB (k_repr hg hu1) (by rfl) T.n_repr b_repr (pa_cons (pe_xf T.f_NotInBook T.a_NotInBook_entry hz hf (pv 3)) pa_nil)) pa_nil))))) pss_nil) (pss_one (ps_ret (pe_ifExp (pt_val (pe_callB (k_isX K hz hf) (by rfl) T.n_isinstance b_isinstance (pa_cons (pv 3) (pa_cons (pe_glob (v := .ref (He.ga K "BadBook")) rfl T.g_BadBook rfl) pa_nil)))) (pe_tup (pa_cons pe_str (pa_cons (pe_xf T.f_BadBook T.a_BadBook_what hz hf (pv 3)) (pa_cons (pe_xf T.f_BadBook T.a_BadBook_at hz hf (pv 3)) pa_nil)))) (pe_tup (pa_cons pe_str pa_nil)))))))))), ?_⟩
    rcases h with ⟨rfl, k1, k2, k3⟩ | ⟨rfl, k1, k2⟩ | ⟨i, what, house, hi, rfl, hb, k⟩
    · walk_at "beg"
      walk_at "go"
      refine ite_d (fun _ => ?_) (fun z => absurd rfl z)
      walk_at "go"
      refine r_methE ?_
      walk_at "go"
      refine ⟨o, dx, _, rfl, h0, rfl, ?_⟩
      walk_at "go"
      refine ⟨o, n, m, ks, x, th, rfl, B, hx, fun what house hb H1 d s1 hd => ?_, fun hnb big H1 d s1 hd => ?_, fun o2 js H2 hrow s2 B2 hm => ?_⟩
      · refine r_as T.x_BadInput_Firm fun e he => ?_
        exact caught_BadInput T upd_same fun b H' s' hb' => k1 what house hb b H' ((s1.trans (same_xd hd)).trans s') hb'
      · refine r_as T.x_BadBook_Firm fun e he => ?_
        exact caught_BadBook T upd_same fun b H' s' hb' => k2 hnb big b H' ((s1.trans (same_xd hd)).trans s') hb'
      · obtain ⟨dy, T2, g1, R⟩ := B2.inputs
        refine ⟨o2, _, dy, _, _, rfl, g1, T.cBook, T.a_Book_inputs, rfl, ?_⟩
        walk_at "go"
        exact ⟨sz10 (by simp), r_new fun b H4 _ s4 hb _ => k3 b T2 js H4 hrow (s2.trans s4) hb (R.same s4) hm⟩
    · walk_at "beg"
      walk_at "go"
      refine ite_d (fun z => absurd z (by decide)) (fun _ => ?_)
      walk_at "go"
      refine ite_d (fun _ => ?_) (fun z => absurd rfl z)
      walk_at "go"
      refine r_methE ?_
      walk_at "go"
      refine ⟨o, dx, _, rfl, h0, rfl, ?_⟩
      walk_at "go"
      refine ⟨o, n, m, ks, x, th, rfl, B, hx, fun hin H1 d s1 hd => ?_, fun hin o2 js H2 s2 B2 hm => ?_⟩
      · refine r_as T.x_NotInBook_Firm fun e he => ?_
        obtain ⟨txt, hrep, k⟩ := k1 hin
        exact caught_NotInBook T upd_same (hrep.same (s1.trans (same_xd hd))) fun b H' s' hb' => k b H' ((s1.trans (same_xd hd)).trans s') hb'
      · obtain ⟨dy, T2, g1, R⟩ := B2.inputs
        refine ⟨o2, _, dy, _, _, rfl, g1, T.cBook, T.a_Book_inputs, rfl, ?_⟩
        walk_at "go"
        exact ⟨sz10 (by simp), r_new fun b H4 _ s4 hb _ => k2 hin b T2 js H4 (s2.trans s4) hb (R.same s4) hm⟩
    · walk_at "beg"
      walk_at "go"
      refine ite_d (fun z => by omega) (fun _ => ?_)
      walk_at "go"
      refine ite_d (fun z => by omega) (fun _ => ?_)
      walk_at "go"
      refine ite_d (fun _ => ?_) (fun _ => ?_)
      · refine r_methE ?_
        walk_at "go"
        refine ⟨o, dx, _, rfl, h0, rfl, ?_⟩
        walk_at "go"
        refine ⟨o, n, m, ks, x, th, rfl, B, hx, fun what' house' hb' H1 d s1 hd => ?_, fun l a vw v H' e hv => (bad_view hb l a vw e hv).elim⟩
        rw [hb] at hb'
        cases hb'
        refine r_as T.x_BadView_Firm fun e he => ?_
        exact caught_BadView T upd_same fun b H' s' hb' => k b H' ((s1.trans (same_xd hd)).trans s') hb'
      · refine r_methE ?_
        walk_at "go"
        refine ⟨o, dx, _, rfl, h0, rfl, ?_⟩
        walk_at "go"
        refine ⟨o, n, m, ks, x, th, rfl, B, hx, fun what' house' hb' H1 d s1 hd => ?_, fun l a vw v H' e hv => (bad_view hb l a vw e hv).elim⟩
        rw [hb] at hb'
        cases hb'
        refine r_as T.x_BadView_Firm fun e he => ?_
        exact caught_BadView T upd_same fun b H' s' hb' => k b H' ((s1.trans (same_xd hd)).trans s') hb'
end
end Kb
set_option Elab.async false
set_option linter.all false
set_option maxRecDepth 100000
set_option maxHeartbeats 4000000
namespace Kb
open PySem PySem.Spec PyProof.Rows L2
/-- a text, some times over: a text -/
def rSMul : R2 := fun x y H Q => ∃ (i : Int), x = .str "0" ∧ y = .int i ∧ 0 ≤ i ∧ i ≤ 10 ∧ ∀ t : Str, Q (.str t) H
theorem k_smul {X : Cx} : OpR X (binaryOp .Mult) rSMul := by
  intro pins s σ H x y u v Q I rx ry h
  obtain ⟨i, rfl, rfl, h0, h1, q⟩ := h
  obtain ⟨t, rfl⟩ := rx
  obtain ⟨t2, rfl⟩ := ry
  have ok : MulOk (Str.ofString "0") i := by
    have : i = 0 ∨ i = 1 ∨ i = 2 ∨ i = 3 ∨ i = 4 ∨ i = 5 ∨ i = 6 ∨ i = 7 ∨ i = 8 ∨ i = 9 ∨ i = 10 := by omega
    rcases this with rfl | rfl | rfl | rfl | rfl | rfl | rfl | rfl | rfl | rfl | rfl <;> exact ⟨by decide +kernel, by decide +kernel, by decide +kernel⟩
  exact SB.mul ok fun t' k => ⟨.str (Txt.mul (Str.ofString "0") i), H, I.tok k, ⟨t', rfl⟩, q _⟩
theorem inB_row {n m : Nat} {ks : Ks} {p : Addr × List V} {l : Bool} {a : Addr} (h : isRow n m p.2) : inB n ks (.sq l a p.2) = decide (p.2 ∈ ks.map (·.2)) := by
  rw [inB_sq, decide_eq_true h.1, List.all_eq_true.mpr fun v hv => by
    obtain ⟨i, rfl, _⟩ := h.2 v hv
    rfl]
  rfl
theorem is_sq {H : Hp} {l : Addr} {r : List V} (e : H l = some (.lst r)) (h : Ints r) : Is H (.ref l) (.sq true l r) := ⟨rfl, e, fun y hy => by
  obtain ⟨i, rfl⟩ := h y hy
  exact kn_int⟩
theorem dp_lst0 {K : PySem.W.Frag} {H : Hp} {l : Addr} {r : List V} (e : H l = some (.lst r)) (h : Ints r) : Dp K H (.ref l) (.list (r.map vD)) := .lst (SqL.of e) (dp_atoms h.atoms)
theorem lst_shaped {r : List V} (h : Ints r) : SeqAt.shaped (.list (r.map vD)) = true := by
  unfold SeqAt.shaped
  simp only [PyData.canLay0, PyData.depth, lay_atoms h, depth_atoms]
  decide
theorem r_neNil {K : PySem.W.Frag} {H : Hp} {Q : VK} {a b : Addr} {r : List V} (ha : H a = some (.lst r)) (h : Ints r) (hb : H b = some (.lst [])) (q : Q (.bl (!decide (r = []))) H) : rNeD K (.ref a) (.ref b) H Q := by
  refine ⟨_, _, dp_lst0 ha h, dp_lst0 (r := []) hb (fun v hv => (by cases hv)), lst_shaped h, lst_shaped (r := []) (fun v hv => (by cases hv)), ?_⟩
  simp only [PyData.eqv]
  rw [atoms_eqv h (fun v hv => (by cases hv))]
  exact q
local macro_rules | `(tactic| walk_at "beg") => `(tactic| simp only [cxK, cxKn, cxW, cxWn, cxP, cxPn, L2.start, List.map_cons, List.map_nil, List.length_cons, List.length_nil, Nat.reduceAdd, Nat.reduceSub, List.replicate_succ, List.replicate_zero, List.cons_append, List.nil_append])
local macro_rules | `(tactic| walk_at "go1") => `(tactic| with_reducible (first
  | refine r_seq ?_ | refine r_asg ?_ | refine r_if ?_ | refine r_ret ?_ | refine r_next ?_ | refine r_drop ?_ | refine r_gsub ?_
  | refine r_c ?_ | refine r_op ?_ | refine r_un ?_ | refine r_cons ?_ | refine r_nil ?_ | refine r_cb ?_ | refine r_call ?_ | refine r_test ?_ | refine r_B ?_ | refine r_bl ?_
  | refine r_and ?_ | refine r_or ?_ | refine r_not ?_ | refine r_ifE ?_ | refine r_andV ?_ | refine r_orV ?_ | refine r_notV ?_ | refine r_blV ?_ | refine r_T ?_ | refine r_F ?_ | refine r_nT ?_ | refine r_nF ?_
  | refine r_int ?_ | refine r_eqI ?_ | refine r_neI ?_
  | refine r_yes ?_ | refine r_lc ?_ | refine r_rng1 ?_ | refine r_rng2 ?_ | refine r_iList ?_ | refine r_iTup ?_ | refine r_for ?_
  | refine r_bm ?_ | refine r_sl ?_ | refine r_np ?_ | refine r_part ?_ | refine r_partI ?_ | refine r_lstRg ?_ | refine r_rg1 ?_ | refine r_rgI ?_ | refine r_isN ?_ | refine r_notN ?_ | refine r_notT ?_ | refine r_mkA ?_ | refine r_callS ?_ | refine r_sfld ?_ | refine r_fld ?_ | refine r_sortSet ?_ | refine r_mkO ?_ | refine r_enum ?_ | refine r_make ?_
  | refine r_I0 ?_ | refine r_U ?_ | refine r_tup ?_ | refine r_lst ?_))
local macro_rules | `(tactic| walk_at "go") => `(tactic| repeat (first | walk_at "go1" | with_reducible refine r_var (by with_unfolding_all rfl) ?_ | with_reducible refine r_lcT (by with_unfolding_all rfl) ?_ | with_reducible refine r_name (by (try simp only [wipe, List.set_cons_succ, List.set_cons_zero]) <;> with_unfolding_all rfl) ?_))
section
variable {P : Program} {w : World} {K : PySem.W.Frag} {mg : Str → Option Value} {base : Heap}
theorem sc_members : FnScope ["_law_pot_here", "_law_book", "_law_rows_here", "_law_n", "_law_due", "_law_row", "_law_odd_here", "_law_value", "_law_thing"] ["_law_pot_here", "_law_book", "_law_rows_here", "_law_n", "_law_due"] (defScope s_members) := ⟨rfl, rfl, rfl, by decide +kernel, rfl, by decide +kernel, by decide +kernel⟩
def spMembers (K : PySem.W.Frag) : Sp := fun vs H Q _ => ∃ (p q o l dl : Addr) (n m : Nat) (ks rs ds : Ks), vs = [.ref p, .ref o, .ref l, .int (n : Int), .ref dl] ∧ Pot H p q ∧ BookAt K H o n m ks ∧
  H l = some (.lst (refs rs)) ∧ Tups H rs ∧ (∀ r ∈ rs, isRow n m r.2) ∧ rs ≠ [] ∧ rs.length ≤ 2000 ∧ H dl = some (.lst (refs ds)) ∧ Tups H ds ∧ (∀ r ∈ ds, isRow n m r.2) ∧ ds.map (·.2) = ks.map (·.2) ∧ ∀ H', But p H H' → Pot H' p q → Q (.bl true) H'
theorem c_members (T : Txt K mg) : CalX P w K mg base CX0 6 "_law_members" (spMembers K) [] := by
  have c_draw : CalX P w K mg base CX0 1 "_law_draw" spDraw [] := c_draw T
  have c_truths : CalX P w K mg base CX0 1 "_law_truths" spTruths [] := c_truths T
  have c_same : CalX P w K mg base CX0 4 "_law_same" (spSame 3) [] := c_same T 3
  refine mkcal (ps := ["_law_pot_here", "_law_book", "_law_rows_here", "_law_n", "_law_due"]) T.u_members T.g_members sc_members (fun _ _ _ _ _ _ us hl => match us, hl with | [_, _, _, _, _], _ => rfl) (fun vs H Q E h => ?_) (fun f cdv A outer s H vs Q E hr h => ?_)
  · obtain ⟨_, _, _, _, _, _, _, _, _, _, rfl, _⟩ := h
    rfl
  · obtain ⟨p, q, o, l, dl, n, m, ks, rs, ds, rfl, hP, B, hl, Trs, hrs, hne, hlen, hdl, Tds, hds, eds, k⟩ := h
    refine ⟨_, PSs.nox (pss_cons (ps_for PassesOwn.never rfl (pi_list (pe_lst (pa_cons (pe_ix (k_ixl K) (pv 2) pe_int (fun _ _ => rfl)) (pa_cons (pe_ix (k_ixl K) (pv 2) (pe_un un_neg pe_int) (fun _ _ => rfl)) (pa_cons (pe_ix (k_ixl K) (pv 2) (pc0 c_draw hr (by decide) (pa_cons (pv 0) (pa_cons (pe_callB (k_len K) (by rfl) T.n_len b_len (pa_cons (pv 2) pa_nil)) pa_nil))) (fun _ _ => rfl)) (pa_cons (pe_ix (k_ixl K) (pv 2) (pc0 c_draw hr (by decide) (pa_cons (pv 0) (pa_cons (pe_callB (k_len K) (by rfl) T.n_len b_len (pa_cons (pv 2) pa_nil)) pa_nil))) (fun _ _ => rfl)) pa_nil)))))) (pg_name (i := 5) sc_members.nd rfl (.inl rfl)) (pss_cons (ps_if (PW.pt (pw_or (pt_not (pt_val (pc0 c_same hr (by decide) (pa_cons (pe_cmpR (k_inB T (hr.mono (by decide))) (pv 5) (pv 1) (by rfl)) (pa_cons (pe_cmpR (k_inD K (hu65 hr)) (pv 5) (pv 4) (by rfl)) pa_nil))))) (pw_or1 (pt_not (pt_val (pc0 c_same hr (by decide) (pa_cons (pe_cmpR (k_inB T (hr.mono (by decide))) (pe_callTy (k_lst K) (by rfl) T.n_list b_list (pa_cons (pv 5) pa_nil)) (pv 1) (by rfl)) (pa_cons (pe_cmpR (k_inD K (hu65 hr)) (pv 5) (pv 4) (by rfl)) pa_nil)))))))) (pss_one (ps_ret pe_bl)) pss_nil)
      (pss_cons (ps_set (i := 6) sc_members.nd rfl (.inl rfl) (pc0 c_truths hr (by decide) (pa_cons (pv 5) pa_nil)))
      (C8.pss_cut (ps_if (PW.pt (pw_and (pt_cmpR (k_neD K (hu64 hr)) (pe_lc (own := [("_law_value", 7)]) (g := gName 7) rfl sc_members.nd (pi_tup (pv 5)) (blkOk_by (own := [("_law_value", 7)]) (N := ["_law_pot_here", "_law_book", "_law_rows_here", "_law_n", "_law_due", "_law_row", "_law_odd_here", "_law_value", "_law_thing"]) (sc := defScope s_members) (by decide +kernel)) (fun _ _ _ _ _ => pg_name (i := 7) sc_members.nd rfl (Or.inl rfl)) (fun _ _ _ _ _ => (pts_one (pt_cmpR op_lt (pv 7) pe_int (nomark _)))) (fun _ _ _ _ _ => (pv 7))) (pe_lst pa_nil) (nomark _)) (pw_and1 (pt_not (pt_val (pc0 c_same hr (by decide) (pa_cons (pe_cmpR (k_inB T (hr.mono (by decide))) (pv 6) (pv 1) (by rfl)) (pa_cons pe_bl pa_nil)))))))) (pss_one (ps_ret pe_bl)) pss_nil)
      (pss_one (ps_for PassesOwn.never rfl (pi_list (pe_lst (pa_cons pe_non (pa_cons pe_int (pa_cons (pe_op k_smul pe_str (pv 3)) (pa_cons (pe_slice (k_sla K) (pv 5) po_none (po_some (pe_un un_neg pe_int))) (pa_cons (pe_op (k_cat K) (pv 5) (pe_tup (pa_cons pe_int pa_nil))) (pa_cons (pe_op (k_cat K) (pe_tup (pa_cons pe_non pa_nil)) (pe_slice (k_sla K) (pv 5) (po_some pe_int) po_none)) (pa_cons (pe_op (k_cat K) (pe_tup (pa_cons (pe_lst pa_nil) pa_nil)) (pe_slice (k_sla K) (pv 5) (po_some pe_int) po_none)) pa_nil))))))))) (pg_name (i := 8) sc_members.nd rfl (.inl rfl)) (pss_one (ps_if (pt_not (pt_val (pc0 c_same hr (by decide) (pa_cons (pe_cmpR (k_inB T (hr.mono (by decide))) (pv 8) (pv 1) (by rfl)) (pa_cons pe_bl pa_nil))))) (pss_one (ps_ret pe_bl)) pss_nil))))))))
      (pss_one (ps_ret pe_bl))), ?_⟩
    have n2 := B.n2
    have n5 := B.n5
    have hlp : l ≠ p := refs_ne hP hl
    have hdp : dl ≠ p := refs_ne hP hdl
    have l0 : 0 < rs.length := List.length_pos_iff.mpr hne
    have lr := refs_len rs
    have hin : ∀ p ∈ ds, Ints p.2 := fun p hp => (hds p hp).ints
    walk_at "beg"
    walk_at "go"
    obtain ⟨v0, hv0, mv0⟩ := pick (xs := refs rs) (v := 0) (by omega) (by omega)
    refine r_ixL (SqL.of hl) hv0 ?_
    walk_at "go"
    obtain ⟨vlast, hv1, hv2⟩ : ∃ v, atI (refs rs) (-1) = some v ∧ v ∈ refs rs := by
      refine ⟨(refs rs)[rs.length - 1]'(by rw [refs_len]; omega), ?_, List.getElem_mem _⟩
      unfold atI ixN
      rw [if_neg (by omega), if_pos (by rw [refs_len]; omega)]
      have e : ((-1 : Int) + ((refs rs).length : Int)).toNat = rs.length - 1 := by rw [refs_len]; omega
      rw [e]
      exact List.getElem?_eq_getElem _
    refine r_ixL (SqL.of hl) hv1 ?_
    walk_at "go"
    refine r_len (.inl (SqL.of hl)) ?_
    refine ⟨p, q, _, rfl, hP, by omega, by omega, fun a1 H1 a10 a11 b1 P1 => ?_⟩
    have hl1 := b1 l _ hl hlp
    obtain ⟨x1, hx1, mx1⟩ := pick (xs := refs rs) a10 a11
    refine r_ixL (SqL.of hl1) hx1 ?_
    walk_at "go"
    refine r_len (.inl (SqL.of hl1)) ?_
    refine ⟨p, q, _, rfl, P1, by omega, by omega, fun a2 H2 a20 a21 b2 P2 => ?_⟩
    have hl2 := b2 l _ hl1 hlp
    obtain ⟨x2, hx2, mx2⟩ := pick (xs := refs rs) a20 a21
    refine r_ixL (SqL.of hl2) hx2 ?_
    walk_at "go"
    refine ⟨sz10 (by simp), r_new fun L4 H3 _ s3 hL4 _ => ?_⟩
    walk_at "go"
    have bB : But p H H3 := (b1.trans b2).same s3
    have P3 : Pot H3 p q := P2.same s3
    have B3 : BookAt K H3 o n m ks := ((B.but b1 hP).but b2 P1).same s3
    have T3 : Tups H3 rs := ((Trs.but b1 hP).but b2 P1).same s3
    have D3 : Tups H3 ds := ((Tds.but b1 hP).but b2 P1).same s3
    have hd3 : H3 dl = some (.lst (refs ds)) := s3 _ _ (b2 _ _ (b1 _ _ hdl hdp) hdp)
    have mem4 : ∀ v ∈ [v0, vlast, x1, x2], ∃ r ∈ rs, v = .ref r.1 := fun v hv => by
      have h : v ∈ refs rs := by
        simp only [List.mem_cons, List.not_mem_nil, or_false] at hv
        rcases hv with rfl | rfl | rfl | rfl
        · exact mv0
        · exact hv2
        · exact mx1
        · exact mx2
      obtain ⟨r, hr, e⟩ := List.mem_map.mp h
      exact ⟨r, hr, e.symm⟩
    refine r_il (SqL.of hL4) ?_
    refine forR_list [v0, vlast, x1, x2] (fun i σ H4 => ∃ v5 v6 v7 v8 : Option V, σ = [some (.ref p), some (.ref o), some (.ref l), some (.int (n : Int)), some (.ref dl), v5, v6, v7, v8] ∧ L2.Same H3 H4) ?_ ?_ ?_ ?_
    · exact ⟨none, none, none, none, rfl, Same.refl _⟩
    · rintro i σ H4 _ ⟨_, _, _, _, _, s4⟩
      exact SqL.of (s4 _ _ hL4)
    · rintro i v σ H4 hv ⟨v5, v6, v7, v8, rfl, s4⟩
      obtain ⟨r, hrm, rfl⟩ := mem4 v (List.mem_of_getElem? hv)
      have hrow := hrs r hrm
      have hr4 : H4 r.1 = some (.tup r.2) := s4 _ _ (T3 r hrm)
      have B4 := B3.same s4
      have D4 := D3.same s4
      have hd4 := s4 _ _ hd3
      have inb : ∀ l a, inB n ks (.sq l a r.2) = decide (r.2 ∈ ds.map (·.2)) := fun l a => by rw [inB_row hrow, eds]
      walk_at "go"
      refine ⟨o, n, m, ks, thOf r, rfl, B4, is_th hr4 hrow.ints, fun H5 s5 => ?_⟩
      rw [if_neg Bool.false_ne_true, show inB n ks (thOf r) = decide (r.2 ∈ ds.map (·.2)) from inb _ _]
      walk_at "go"
      refine r_inL (s5 _ _ hr4) hrow.ints (s5 _ _ hd4) (D4.same s5) hin ?_
      walk_at "go"
      refine ⟨_, _, rfl, Eqs.atom rfl 3, fun H6 s6 => ⟨_, rfl, ?_⟩⟩
      walk_at "go"
      have S46 := s5.trans s6
      refine r_list (.inr (SqT.of (S46 _ _ hr4))) fun M H7 _ s7 hM _ => ?_
      have S47 := S46.trans s7
      walk_at "go"
      refine ⟨o, n, m, ks, _, rfl, B4.same S47, is_sq hM hrow.ints, fun H8 s8 => ?_⟩
      rw [if_neg Bool.false_ne_true, inb]
      have S48 := S47.trans s8
      walk_at "go"
      refine r_inL (S48 _ _ hr4) hrow.ints (S48 _ _ hd4) (D4.same S48) hin ?_
      walk_at "go"
      refine ⟨_, _, rfl, Eqs.atom rfl 3, fun H9 s9 => ⟨_, rfl, ?_⟩⟩
      have S49 := S48.trans s9
      walk_at "go"
      refine ⟨r.1, n, m, r.2, rfl, S49 _ _ hr4, hrow, by omega, fun bt ys H10 s10 hbt hys1 hys2 hys3 => ?_⟩
      have S4a := S49.trans s10
      walk_at "go"
      refine r_cut (fun σ' H' => ∃ w6 w7 w8 : Option V, σ' = [some (.ref p), some (.ref o), some (.ref l), some (.int (n : Int)), some (.ref dl), some (.ref r.1), w6, w7, w8] ∧ L2.Same H4 H') ?_ ?_
      · walk_at "go"
        refine r_it (SqT.of (S4a _ _ hr4)) ?_
        refine lcR_tup r.2 (fun Ll j Hj => ∃ acc : List V, Hj Ll = some (.lst acc) ∧ acc.length ≤ j ∧ (∀ v ∈ acc, ∃ i : Int, v = .int i ∧ v ∈ r.2 ∧ i < 2) ∧ L2.Same H10 Hj) ?_ ?_ ?_ ?_
        · intro Ll hLl
          exact ⟨[], upd_same, Nat.le_refl _, fun v hv => (by cases hv), Same.new hLl⟩
        · rintro Ll j Hj hLl _ ⟨acc, q1, q2, q3, q4⟩
          exact SqT.of (q4 _ _ (S4a _ _ hr4))
        · rintro Ll j y Hj hLl hy ⟨acc, q1, q2, q3, q4⟩
          have hym := List.mem_of_getElem? hy
          obtain ⟨iy, rfl, _⟩ := hrow.2 y hym
          have hj := (List.getElem?_eq_some_iff.mp hy).1
          have := hrow.1
          walk_at "go"
          refine ite_d (fun lt => ?_) (fun ge => ?_)
          · walk_at "go"
            refine r_lcA q1 (by omega) ⟨_, upd_same, by simp; omega, fun z hz => ?_, Same.fresh q4 hLl⟩
            rcases List.mem_append.mp hz with hz | hz
            · exact q3 z hz
            · rw [List.mem_singleton.mp hz]
              exact ⟨iy, rfl, hym, lt⟩
          · walk_at "go"
            exact ⟨acc, q1, by omega, q3, q4⟩
        · rintro Ll H11 hLl ⟨acc, q1, q2, q3, q4⟩
          have S4b := S4a.trans q4
          walk_at "go"
          refine ⟨sz10 (by simp), r_new fun N0 H12 _ s12 hN0 _ => ?_⟩
          have S4c := S4b.trans s12
          refine r_neNil (s12 _ _ q1) (fun v hv => by obtain ⟨i, e, _⟩ := q3 v hv; exact ⟨i, e⟩) hN0 ?_
          refine ⟨_, rfl, ?_⟩
          refine ite_nd (fun ne => ?_) (fun e => ?_)
          · walk_at "go"
            obtain ⟨v, hv⟩ := List.exists_mem_of_ne_nil _ ne
            obtain ⟨iv, rfl, hv2, hv3⟩ := q3 v hv
            obtain ⟨c, hc⟩ := hys3 ⟨iv, hv2, hv3⟩
            have kb : Is H12 (.ref bt) (.sq false bt ys) := ⟨rfl, s12 _ _ (q4 _ _ hbt), fun y hy => .inl (hys2 y hy)⟩
            refine ⟨o, n, m, ks, _, rfl, B4.same S4c, kb, fun H13 s13 => ?_⟩
            rw [if_neg Bool.false_ne_true, inB_not (.inr ⟨_, hc, rfl⟩)]
            walk_at "go"
            refine ⟨_, _, rfl, Eqs.atom rfl 3, fun H14 s14 => ⟨_, rfl, ?_⟩⟩
            walk_at "go"
            exact ⟨_, _, _, rfl, (S4c.trans s13).trans s14⟩
          · exact ⟨_, _, _, rfl, S4c⟩
      · rintro σ' H5' ⟨w6, w7, w8, rfl, s5'⟩
        have hr5 := s5' _ _ hr4
        have hint := hrow.ints
        walk_at "go"
        refine ⟨(n : Int), rfl, rfl, by omega, by omega, fun txt => ?_⟩
        walk_at "go"
        have rl := hrow.1
        refine ⟨_, rfl, ?_⟩
        refine r_slA hr5 fun t4 J1 z1 h4 => ?_
        rw [cut_but1] at h4
        walk_at "go"
        refine ⟨sz10 (by simp), r_new fun tz J2 _ z2 htz _ => ?_⟩
        refine r_catA (z2 _ _ (z1 _ _ hr5)) htz (by simp; omega) fun t5 J3 z3 h5 => ?_
        walk_at "go"
        refine ⟨sz10 (by simp), r_new fun tn J4 _ z4 htn _ => ?_⟩
        walk_at "go"
        have Z4 := ((z1.trans z2).trans z3).trans z4
        refine ⟨_, rfl, ?_⟩
        walk_at "go"
        refine r_slA (Z4 _ _ hr5) fun td J5 z5 htd => ?_
        rw [cut_from1] at htd
        refine r_catA (z5 _ _ htn) htd (by simp; omega) fun t6 J6 z6 h6 => ?_
        walk_at "go"
        refine ⟨sz10 (by simp), r_new fun el J7 _ z7 hel _ => ?_⟩
        walk_at "go"
        refine ⟨sz10 (by simp), r_new fun te J8 _ z8 hte _ => ?_⟩
        walk_at "go"
        have Z8 := (((Z4.trans z5).trans z6).trans z7).trans z8
        refine ⟨_, rfl, ?_⟩
        walk_at "go"
        refine r_slA (Z8 _ _ hr5) fun tf J9 z9 htf => ?_
        rw [cut_from1] at htf
        refine r_catA (z9 _ _ hte) htf (by simp; omega) fun t7 Ja za h7 => ?_
        walk_at "go"
        refine ⟨sz10 (by simp), r_new fun L7 Jb _ zb hL7 _ => ?_⟩
        walk_at "go"
        have Zb := ((Z8.trans z9).trans za).trans zb
        have Bb : BookAt K Jb o n m ks := (B4.same s5').same Zb
        refine r_il (SqL.of hL7) ?_
        have things : ∀ v ∈ [V.non, .int 5, .str txt, .ref t4, .ref t5, .ref t6, .ref t7], ∃ th, Is Jb v th ∧ inB n ks th = false := fun v hv => by
          simp only [List.mem_cons, List.not_mem_nil, or_false] at hv
          have z38 := ((((z4.trans z5).trans z6).trans z7).trans z8)
          have z8b := (z9.trans za).trans zb
          rcases hv with rfl | rfl | rfl | rfl | rfl | rfl | rfl
          · exact ⟨.at .non, ⟨rfl, rfl⟩, rfl⟩
          · exact ⟨.at (.int 5), ⟨rfl, rfl⟩, rfl⟩
          · exact ⟨.at (.str txt), ⟨rfl, rfl⟩, rfl⟩
          · exact ⟨.sq false t4 r.2.dropLast, ⟨rfl, (((z2.trans z3).trans z38).trans z8b) _ _ h4, fun y hy => (hrow.2 y (List.dropLast_subset _ hy)).kn⟩, inB_not (.inl (by rw [List.length_dropLast]; omega))⟩
          · refine ⟨.sq false t5 _, ⟨rfl, (z38.trans z8b) _ _ h5, fun y hy => ?_⟩, inB_not (.inl (by simp; omega))⟩
            rcases List.mem_append.mp hy with hy | hy
            · exact (hrow.2 y hy).kn
            · rw [List.mem_singleton.mp hy]
              exact kn_int
          · refine ⟨.sq false t6 _, ⟨rfl, ((z7.trans z8).trans z8b) _ _ h6, fun y hy => ?_⟩, inB_not (.inr ⟨.non, List.mem_append_left _ (List.mem_singleton.mpr rfl), rfl⟩)⟩
            rcases List.mem_append.mp hy with hy | hy
            · rw [List.mem_singleton.mp hy]
              exact .inl rfl
            · exact (hrow.2 y (List.mem_of_mem_drop hy)).kn
          · refine ⟨.sq false t7 _, ⟨rfl, zb _ _ h7, fun y hy => ?_⟩, inB_not (.inr ⟨.ref el, List.mem_append_left _ (List.mem_singleton.mpr rfl), rfl⟩)⟩
            rcases List.mem_append.mp hy with hy | hy
            · rw [List.mem_singleton.mp hy]
              exact .inr ⟨el, _, rfl, .inl ((z8.trans z8b) _ _ hel)⟩
            · exact (hrow.2 y (List.mem_of_mem_drop hy)).kn
        refine forR_list [V.non, .int 5, .str txt, .ref t4, .ref t5, .ref t6, .ref t7] (fun i σ H4' => ∃ v8 : Option V, σ = [some (.ref p), some (.ref o), some (.ref l), some (.int (n : Int)), some (.ref dl), some (.ref r.1), w6, w7, v8] ∧ L2.Same Jb H4') ?_ ?_ ?_ ?_
        · exact ⟨w8, rfl, Same.refl _⟩
        · rintro i σ H4' _ ⟨_, _, sx⟩
          exact SqL.of (sx _ _ hL7)
        · rintro i v σ H4' hv ⟨v8, rfl, sx⟩
          obtain ⟨th, hth, hinb⟩ := things v (List.mem_of_getElem? hv)
          walk_at "go"
          refine ⟨o, n, m, ks, th, rfl, Bb.same sx, hth.same sx, fun H13 s13 => ?_⟩
          rw [if_neg Bool.false_ne_true, hinb]
          walk_at "go"
          refine ⟨_, _, rfl, Eqs.atom rfl 3, fun H14 s14 => ⟨_, rfl, ?_⟩⟩
          walk_at "go"
          exact ⟨_, rfl, (sx.trans s13).trans s14⟩
        · rintro σ H4' ⟨v8, rfl, sx⟩
          exact ⟨_, _, _, _, rfl, ((s4.trans s5').trans Zb).trans sx⟩
    · rintro σ H4 ⟨_, _, _, _, rfl, s4⟩
      walk_at "go"
      exact k H4 (bB.same s4) (P3.same s4)
end
end Kb
set_option Elab.async false
set_option linter.all false
set_option maxRecDepth 100000
set_option maxHeartbeats 4000000
namespace Kb
open PySem PySem.Spec PyProof.Rows L2
theorem Eqs.two {H : Hp} {a b : Addr} {x1 x2 y1 y2 : V} {k : Nat} (ha : H a = some (.tup [x1, x2])) (hb : H b = some (.tup [y1, y2])) (h1 : Eqs H k x1 y1) (h2 : Eqs H k x2 y2) : Eqs H (k + 1) (.ref a) (.ref b) :=
  .inr ⟨a, b, _, _, rfl, rfl, ha, hb, rfl, by simp, fun i u v hu hv => by
    match i, hu, hv with
    | 0, hu, hv => cases hu; cases hv; exact h1
    | 1, hu, hv => cases hu; cases hv; exact h2
    | i + 2, hu, hv => simp at hu⟩
theorem Eqs.three {H : Hp} {a b : Addr} {x1 x2 x3 y1 y2 y3 : V} {k : Nat} (ha : H a = some (.tup [x1, x2, x3])) (hb : H b = some (.tup [y1, y2, y3])) (h1 : Eqs H k x1 y1) (h2 : Eqs H k x2 y2) (h3 : Eqs H k x3 y3) : Eqs H (k + 1) (.ref a) (.ref b) :=
  .inr ⟨a, b, _, _, rfl, rfl, ha, hb, rfl, by simp, fun i u v hu hv => by
    match i, hu, hv with
    | 0, hu, hv => cases hu; cases hv; exact h1
    | 1, hu, hv => cases hu; cases hv; exact h2
    | 2, hu, hv => cases hu; cases hv; exact h3
    | i + 3, hu, hv => simp at hu⟩
theorem map_filter2 (f : List V → Bool) : ∀ ks : Ks, (ks.filter fun p => f p.2).map (·.2) = (ks.map (·.2)).filter f
  | [] => rfl
  | p :: ks => by
    by_cases h : f p.2 = true
    · simp only [List.filter_cons_of_pos (p := fun p : Addr × List V => f p.2) h, List.map_cons, List.filter_cons_of_pos h, map_filter2 f ks]
    · simp only [List.filter_cons_of_neg (p := fun p : Addr × List V => f p.2) h, List.map_cons, List.filter_cons_of_neg h, map_filter2 f ks]
theorem goers_map {vw : List V} {ks ds : Ks} (e : ds.map (·.2) = ks.map (·.2)) : (goers vw ks).map (·.2) = (goers vw ds).map (·.2) := by
  unfold goers
  rw [map_filter2, map_filter2, e]
section
variable {X : Cx} {k : Nat} {f : Addr} {fd : FuncData} {ps : List Str} {sp : Sp} {m : Str} {p pos apos : Pos} {e o : Expr} {es : List Expr} {ta : TE} {t : TA}
/-- o.m(..), no exception is wished for -/
theorem pm0 {pl : Sem Bool} {K : PySem.W.Frag} {mg : Str → Option Value} (T : Txt K mg) (he : PE X o ta) (c : Cls X.K (He.ga K "Book")) (hm : Meth X.K (He.ga K "Book") m f) (F : FnOk X.prog X.w X.K X.mg X.base (CL X.prog X.w) k f fd ps sp) (hr : Room k X.A) (hb : Binds X.K fd ps []) (ha : PA X (e :: es) t)
    (hst : starEach (e :: es) X.env = (false, eval e X.env) :: starEach es X.env := by rfl) (hpl : (backTo pos (starEach es X.env)).any (·.1) = false := by rfl)
    (ht : eval (.Call (.Attribute o m apos) (e :: es) [] pos) X.env = (do
      let ov ← eval o X.env
      standAt apos.atName
      let (f, first) ← holding [ov] (getMethod ov m pl)
      callWith pos f first (backTo pos (starEach (e :: es) X.env)) (backToKw pos (keywordEach [] X.env))) := by rfl) :
    PE X (.Call (.Attribute o m apos) (e :: es) [] pos) (tMethE (He.ga K "Book") m sp (fun _ _ _ _ => False) ta t) :=
  pmS he c hm F hr hb (fun σ _ _ _ _ _ I h => by
    obtain ⟨_, _, _, _, _, _, _, _, _, _, _, _, z⟩ := h
    exact z.elim) ha hst hpl ht
end
local macro_rules | `(tactic| walk_at "beg") => `(tactic| simp only [cxK, cxKn, cxW, cxWn, cxP, cxPn, L2.start, List.map_cons, List.map_nil, List.length_cons, List.length_nil, Nat.reduceAdd, Nat.reduceSub, List.replicate_succ, List.replicate_zero, List.cons_append, List.nil_append])
local macro_rules | `(tactic| walk_at "go1") => `(tactic| with_reducible (first
  | refine r_seq ?_ | refine r_asg ?_ | refine r_if ?_ | refine r_ret ?_ | refine r_next ?_ | refine r_drop ?_ | refine r_gsub ?_
  | refine r_c ?_ | refine r_op ?_ | refine r_un ?_ | refine r_cons ?_ | refine r_nil ?_ | refine r_cb ?_ | refine r_call ?_ | refine r_test ?_ | refine r_B ?_ | refine r_bl ?_
  | refine r_and ?_ | refine r_or ?_ | refine r_not ?_ | refine r_ifE ?_ | refine r_andV ?_ | refine r_orV ?_ | refine r_notV ?_ | refine r_blV ?_ | refine r_T ?_ | refine r_F ?_ | refine r_nT ?_ | refine r_nF ?_
  | refine r_int ?_ | refine r_eqI ?_ | refine r_neI ?_
  | refine r_yes ?_ | refine r_lc ?_ | refine r_rng1 ?_ | refine r_rng2 ?_ | refine r_iList ?_ | refine r_iTup ?_ | refine r_for ?_
  | refine r_bm ?_ | refine r_sl ?_ | refine r_np ?_ | refine r_part ?_ | refine r_partI ?_ | refine r_lstRg ?_ | refine r_rg1 ?_ | refine r_rgI ?_ | refine r_isN ?_ | refine r_notN ?_ | refine r_notT ?_ | refine r_mkA ?_ | refine r_callS ?_ | refine r_sfld ?_ | refine r_fld ?_ | refine r_sortSet ?_ | refine r_mkO ?_ | refine r_enum ?_ | refine r_make ?_
  | refine r_I0 ?_ | refine r_U ?_ | refine r_tup ?_ | refine r_lst ?_))
local macro_rules | `(tactic| walk_at "go") => `(tactic| repeat (first | walk_at "go1" | with_reducible refine r_var (by with_unfolding_all rfl) ?_ | with_reducible refine r_lcT (by with_unfolding_all rfl) ?_ | with_reducible refine r_name (by (try simp only [wipe, List.set_cons_succ, List.set_cons_zero]) <;> with_unfolding_all rfl) ?_))
section
variable {P : Program} {w : World} {K : PySem.W.Frag} {mg : Str → Option Value} {base : Heap}
theorem sc_views : FnScope ["_law_pot_here", "_law_book", "_law_n", "_law_m", "_law_due", "_law_views_here", "_law_k", "_law_view", "_law_going", "_law_row"] ["_law_pot_here", "_law_book", "_law_n", "_law_m", "_law_due"] (defScope s_views) := ⟨rfl, rfl, rfl, by decide +kernel, rfl, by decide +kernel, by decide +kernel⟩
def spViews (K : PySem.W.Frag) : Sp := fun vs H Q _ => ∃ (p q o dl : Addr) (n m : Nat) (ks ds : Ks), vs = [.ref p, .ref o, .int (n : Int), .int (m : Int), .ref dl] ∧ Pot H p q ∧ BookAt K H o n m ks ∧
  H dl = some (.lst (refs ds)) ∧ Tups H ds ∧ (∀ r ∈ ds, isRow n m r.2) ∧ ds.map (·.2) = ks.map (·.2) ∧ ∀ H', But p H H' → Pot H' p q → Q (.bl true) H'
theorem c_views (T : Txt K mg) : CalX P w K mg base CX0 6 "_law_views" (spViews K) [] := by
  have c_draw : CalX P w K mg base CX0 1 "_law_draw" spDraw [] := c_draw T
  have c_way : CalX P w K mg base CX0 2 "_law_way" spWay [] := c_way T
  have c_spans : CalX P w K mg base CX0 2 "_law_spans" spSpans [] := c_spans T
  have c_goes : CalX P w K mg base CX0 1 "_law_goes" spGoes [] := c_goes T
  have c_same : CalX P w K mg base CX0 4 "_law_same" (spSame 3) [] := c_same T 3
  obtain ⟨fd3, F3, ok3⟩ := m_going (P := P) (w := w) (base := base) T
  obtain ⟨fd4, F4, ok4⟩ := m_first (P := P) (w := w) (base := base) T
  refine mkcal (ps := ["_law_pot_here", "_law_book", "_law_n", "_law_m", "_law_due"]) T.u_views T.g_views sc_views (fun _ _ _ _ _ _ us hl => match us, hl with | [_, _, _, _, _], _ => rfl) (fun vs H Q E h => ?_) (fun f cdv A outer s H vs Q E hr h => ?_)
  · obtain ⟨_, _, _, _, _, _, _, _, rfl, _⟩ := h
    rfl
  · obtain ⟨p, q, o, dl, n, m, ks, ds, rfl, hP, B, hdl, Tds, hds, eds, k⟩ := h
    refine ⟨_, PSs.nox (pss_cons (ps_set (i := 5) sc_views.nd rfl (.inr rfl) (pc0 c_spans hr (by decide) (pa_cons (pv 2) (pa_cons (pv 3) pa_nil))))
      (C8.pss_cut (ps_if (pt_cmpR op_gt (pe_callB (k_len K) (by rfl) T.n_len b_len (pa_cons (pv 5) pa_nil)) pe_int (nomark _)) (pss_one (ps_set (i := 5) sc_views.nd rfl (.inr rfl) (pe_lc (own := [("_law_k", 6)]) (g := gName 6) (tt := tYes) rfl sc_views.nd (pi_range1 (by rfl) T.n_range (pa_cons pe_int pa_nil)) (blkOk_by (own := [("_law_k", 6)]) (N := ["_law_pot_here", "_law_book", "_law_n", "_law_m", "_law_due", "_law_views_here", "_law_k", "_law_view", "_law_going", "_law_row"]) (sc := defScope s_views) (by decide +kernel)) (fun _ _ _ _ _ => pg_name (i := 6) sc_views.nd rfl (Or.inl rfl)) (fun _ _ _ _ _ => pts_nil) (fun _ _ _ _ _ => (pe_ix (k_ixl K) (pv 5) (pc0 c_draw hr (by decide) (pa_cons (pv 0) (pa_cons (pe_callB (k_len K) (by rfl) T.n_len b_len (pa_cons (pv 5) pa_nil)) pa_nil))) (fun _ _ => rfl)))))) pss_nil)
      (pss_cons (ps_for PassesOwn.never rfl (pi_list (pv 5)) (pg_name (i := 7) sc_views.nd rfl (.inr rfl)) (pss_cons (ps_set (i := 8) sc_views.nd rfl (.inl rfl) (pe_callTy (k_tup K) (by rfl) T.n_tuple b_tuple (pa_cons (pe_lc (own := [("_law_row", 9)]) (g := gName 9) rfl sc_views.nd (pi_list (pv 4)) (blkOk_by (own := [("_law_row", 9)]) (N := ["_law_pot_here", "_law_book", "_law_n", "_law_m", "_law_due", "_law_views_here", "_law_k", "_law_view", "_law_going", "_law_row"]) (sc := defScope s_views) (by decide +kernel)) (fun _ _ _ _ _ => pg_name (i := 9) sc_views.nd rfl (Or.inl rfl)) (fun _ _ _ _ _ => (pts_one (pt_val (pc0 c_goes hr (by decide) (pa_cons (pv 7) (pa_cons (pv 9) pa_nil)))))) (fun _ _ _ _ _ => (pv 9))) pa_nil)))
      (pss_cons (ps_if (pt_not (pt_val (pc0 c_same hr (by decide) (pa_cons (pm0 T (pv 1) T.cBook T.m_Book_going_on ok3 (hr.mono (by decide)) (F3.bindsN fun _ _ _ _ _ _ us hl => match us, hl with | [_, _], _ => rfl) (pa_cons (pc0 c_way hr (by decide) (pa_cons (pv 0) (pa_cons (pv 7) pa_nil))) pa_nil)) (pa_cons (pv 8) pa_nil))))) (pss_one (ps_ret pe_bl)) pss_nil)
      (pss_one (ps_if (pt_not (pt_val (pc0 c_same hr (by decide) (pa_cons (pm0 T (pv 1) T.cBook T.m_Book_first_going_on ok4 (hr.mono (by decide)) (F4.bindsN fun _ _ _ _ _ _ us hl => match us, hl with | [_, _], _ => rfl) (pa_cons (pv 7) pa_nil)) (pa_cons (pe_ifExp (pt_truth (pv 8) (by intro _; rfl)) (pe_ix (k_ixt K) (pv 8) pe_int (fun _ _ => rfl)) pe_non) pa_nil))))) (pss_one (ps_ret pe_bl)) pss_nil)))))
      (pss_one (ps_ret pe_bl))))), ?_⟩
    have n2 := B.n2
    have n5 := B.n5
    have m1 := B.m1
    have m4 := B.m4
    have hdp : dl ≠ p := refs_ne hP hdl
    walk_at "beg"
    walk_at "go"
    refine ⟨n, m, rfl, n5, m4, fun l5 vs5 H1 s1 nl5 hl5 T5 V5 e5 => ?_⟩
    have hb1 : But p H H1 := Same.but s1
    have P1 := hP.same s1
    have len5 : vs5.length ≤ 3125 := by
      rw [e5]
      have h1 : (m + 1) ^ n ≤ 5 ^ n := Nat.pow_le_pow_left (by omega) n
      have h2 : 5 ^ n ≤ 5 ^ 5 := Nat.pow_le_pow_right (by decide) n5
      omega
    walk_at "go"
    refine r_cut (fun σ' H' => ∃ (l : Addr) (vs : Ks) (w6 : Option V), σ' = [some (.ref p), some (.ref o), some (.int (n : Int)), some (.int (m : Int)), some (.ref dl), some (.ref l), w6, none, none, none] ∧ But p H H' ∧ Pot H' p q ∧ H' l = some (.lst (refs vs)) ∧ Tups H' vs ∧ (∀ v ∈ vs, isView n m v.2)) ?_ ?_
    · walk_at "go"
      refine r_len (.inl (SqL.of hl5)) ?_
      walk_at "go"
      refine ite_d (fun big => ?_) (fun _ => ?_)
      · walk_at "go"
        have lr := refs_len vs5
        have hlp : l5 ≠ p := refs_ne P1 hl5
        refine r_rj 20 rfl (by decide) ?_
        refine lcR_range (fun L i H2 => ∃ vs : Ks, H2 L = some (.lst (refs vs)) ∧ vs.length = i ∧ (∀ v ∈ vs, v ∈ vs5) ∧ But p H1 H2 ∧ Pot H2 p q) ?_ ?_ ?_
        · intro L hL
          obtain ⟨a1, a2⟩ := P1.ne hL
          exact ⟨[], upd_same, rfl, fun v hv => (by cases hv), (But.refl p H1).fresh hL, P1.put a1 a2⟩
        · rintro L i H2 hL hi ⟨vs, q1, q2, q3, b2, P2⟩
          obtain ⟨a1, a2⟩ := P1.ne hL
          have hl2 := b2 _ _ hl5 hlp
          walk_at "go"
          refine r_len (.inl (SqL.of hl2)) ?_
          refine ⟨p, q, _, rfl, P2, by omega, by omega, fun v H3 v0 v1 b3 P3 => ?_⟩
          obtain ⟨x, hx, mx⟩ := pick (xs := refs vs5) v0 v1
          obtain ⟨r, hr', rfl⟩ := List.mem_map.mp mx
          refine r_ixL (SqL.of (b3 _ _ hl2 hlp)) hx ?_
          refine r_lcA (b3 _ _ q1 a1.symm) (by rw [refs_len]; omega) ⟨vs ++ [r], by rw [upd_same, refs_app]; rfl, by simp [q2], fun z hz => ?_, (b2.trans b3).fresh hL, P3.put a1 a2⟩
          rcases List.mem_append.mp hz with hz | hz
          · exact q3 z hz
          · rw [List.mem_singleton.mp hz]
            exact hr'
        · rintro L H2 hL ⟨vs, q1, q2, q3, b2, P2⟩
          walk_at "go"
          exact ⟨L, vs, _, rfl, hb1.trans b2, P2, q1, fun v hv => (T5.but b2 P1) v (q3 v hv), fun v hv => V5 v (q3 v hv)⟩
      · walk_at "go"
        exact ⟨l5, vs5, _, rfl, hb1, P1, hl5, T5, V5⟩
    · rintro σ' H2 ⟨l, vs, w6, rfl, b2, P2, hl, Tv, Vv⟩
      have hlp : l ≠ p := refs_ne P2 hl
      walk_at "go"
      refine r_il (SqL.of hl) ?_
      refine forR_list (refs vs) (fun i σ H3 => ∃ w7 w8 w9 : Option V, σ = [some (.ref p), some (.ref o), some (.int (n : Int)), some (.int (m : Int)), some (.ref dl), some (.ref l), w6, w7, w8, w9] ∧ But p H2 H3 ∧ Pot H3 p q) ?_ ?_ ?_ ?_
      · exact ⟨none, none, none, rfl, But.refl p H2, P2⟩
      · rintro i σ H3 _ ⟨_, _, _, _, b3, _⟩
        exact SqL.of (b3 _ _ hl hlp)
      · rintro i v σ H3 hv ⟨w7, w8, w9, rfl, b3, P3⟩
        obtain ⟨vw, _, rfl, hvm⟩ := refs_get hv
        have hview := Vv vw hvm
        have B3 := (B.but b2 hP).but b3 P2
        have hd3 : H3 dl = some (.lst (refs ds)) := b3 _ _ (b2 _ _ hdl hdp) hdp
        have D3 : Tups H3 ds := (Tds.but b2 hP).but b3 P2
        have hv3 : H3 vw.1 = some (.tup vw.2) := (Tv.but b3 P2) vw hvm
        walk_at "go"
        refine r_il (SqL.of hd3) ?_
        refine lcR_list (refs ds) (fun L j H4 => H4 L = some (.lst (refs ((ds.take j).filter fun r => goesB vw.2 r.2))) ∧ L2.Same H3 H4) ?_ ?_ ?_ ?_
        · intro L hL
          exact ⟨upd_same, Same.new hL⟩
        · rintro L j H4 hL _ ⟨q1, q2⟩
          exact SqL.of (q2 _ _ hd3)
        · rintro L j y H4 hL hy ⟨q1, q2⟩
          obtain ⟨r, hr', rfl, hrm⟩ := refs_get hy
          have hdl2 : ds.length ≤ 256 := by
            have e := congrArg List.length eds
            rw [List.length_map, List.length_map] at e
            have := B.len
            omega
          have hlen : ((ds.take j).filter fun r => goesB vw.2 r.2).length ≤ 256 := Nat.le_trans (List.length_filter_le _ _) (by rw [List.length_take]; omega)
          have eq := take_filter (f := fun r => goesB vw.2 r.2) hr'
          walk_at "go"
          refine ⟨vw.1, r.1, n, m, vw.2, r.2, rfl, q2 _ _ hv3, q2 _ _ (D3 r hrm), hview, hds r hrm, by omega, fun H5 s5 => ?_⟩
          refine ⟨_, rfl, ?_⟩
          cases hg : goesB vw.2 r.2 with
          | true =>
            walk_at "go"
            refine r_lcA (s5 _ _ q1) (by rw [refs_len]; omega) ⟨?_, Same.fresh (q2.trans s5) hL⟩
            rw [eq, hg, if_pos rfl, refs_app, upd_same]
            rfl
          | false =>
            walk_at "go"
            refine ⟨?_, q2.trans s5⟩
            rw [eq, hg, if_neg Bool.false_ne_true, List.append_nil]
            exact s5 _ _ q1
        · rintro L H4 hL ⟨q1, q2⟩
          rw [refs_len, List.take_length] at q1
          walk_at "go"
          refine r_tupL (SqL.of q1) fun g H5 _ s5 hg _ => ?_
          have hg' : H5 g = some (.tup (refs (goers vw.2 ds))) := hg
          have S35 := q2.trans s5
          have P5 := P3.same S35
          walk_at "go"
          refine r_methE ?_
          have B5 := B3.same S35
          obtain ⟨dx, T0, h0, _⟩ := B5.ex
          walk_at "go"
          refine ⟨o, dx, _, rfl, h0, rfl, ?_⟩
          walk_at "go"
          have hvp : vw.1 ≠ p := by
            intro e
            obtain ⟨xs, hx⟩ := P3.there
            rw [← e, hv3] at hx
            cases hx
          refine ⟨p, q, vw.1, vw.2, rfl, P5, .inr (S35 _ _ hv3), hvp, fun b H6 b6 P6 hb => ?_⟩
          have B6 := B5.but b6 P5
          have kv : ∀ y ∈ vw.2, Kn H6 y := fun y hy => (hview.2 y hy).kn
          have hth : ∃ lb, Is H6 (.ref b) (.sq lb b vw.2) := by
            rcases hb with ⟨_, hb⟩ | hb
            · exact ⟨true, rfl, hb, kv⟩
            · exact ⟨false, rfl, hb, kv⟩
          obtain ⟨lb, hth⟩ := hth
          have nobad : ∀ (lb : Bool) (b : Addr), Th.bad (okW m) n (.sq lb b vw.2) = none := fun lb b => by
            rw [bad_sq, if_pos hview.1, badAt_none.mpr fun y hy => okW_iff.mpr (hview.2 y hy)]
            rfl
          have hg6 : H6 g = some (.tup (refs (goers vw.2 ds))) := b6.tup P5 hg'
          have D6 : Tups H6 ds := (D3.same S35).but b6 P5
          have emap := goers_map (vw := vw.2) eds
          have subk : ∀ r ∈ goers vw.2 ks, r ∈ ks := fun r hr => (List.mem_filter.mp hr).1
          have subd : ∀ r ∈ goers vw.2 ds, r ∈ ds := fun r hr => (List.mem_filter.mp hr).1
          refine ⟨o, n, m, ks, .ref b, _, rfl, B6, hth, fun what house hbad => (by rw [nobad] at hbad; cases hbad), fun l' a' vw' v' H7 e' hv' s7 R7 => ?_⟩
          injection e' with _ _ e'
          subst e'
          obtain ⟨b7, rfl, hb7⟩ := R7
          walk_at "go"
          refine ⟨_, _, rfl, ?_, fun H8 s8 => ⟨_, rfl, ?_⟩⟩
          · refine Eqs.rows (k := 1) hb7 (s7 _ _ hg6) (fun r hr => s7 _ _ (B6.tups r (subk r hr))) (fun r hr => s7 _ _ (D6 r (subd r hr))) emap (fun r hr => ⟨(B.rows r (subk r hr)).ints, by have := (B.rows r (subk r hr)).1; omega⟩) ?_
            exact Nat.le_trans (List.length_filter_le _ _) (by have := B.len; omega)
          · have S68 := s7.trans s8
            have B8 := B6.same S68
            obtain ⟨dx8, T8, h8, _⟩ := B8.ex
            walk_at "go"
            refine r_methE ?_
            walk_at "go"
            refine ⟨o, dx8, _, rfl, h8, rfl, ?_⟩
            walk_at "go"
            have hv8 : H8 vw.1 = some (.tup vw.2) := S68 _ _ (b6.tup P5 (S35 _ _ hv3))
            refine ⟨o, n, m, ks, .ref vw.1, .sq false vw.1 vw.2, rfl, B8, ⟨rfl, hv8, fun y hy => (hview.2 y hy).kn⟩, fun what house hbad => (by rw [nobad] at hbad; cases hbad), fun l' a' vw' v' H9 e' hv' s9 R9 => ?_⟩
            injection e' with _ _ e'
            subst e'
            have hg9 : H9 g = some (.tup (refs (goers vw.2 ds))) := s9 _ _ (S68 _ _ hg6)
            have S69 := S68.trans s9
            refine ⟨_, rfl, _, tru_tup hg9, ?_⟩
            have fin : ∀ H10, L2.Same H9 H10 → But p H2 H10 ∧ Pot H10 p q := fun H10 s10 => ⟨((b3.same S35).trans b6).same (S69.trans s10), P6.same (S69.trans s10)⟩
            unfold RFirst at R9
            cases hG : goers vw.2 ds with
            | nil =>
              rw [hG] at emap
              have e0 : goers vw.2 ks = [] := List.map_eq_nil_iff.mp emap
              rw [e0] at R9
              subst R9
              rw [show (!(refs ([] : Ks)).isEmpty) = false from rfl]
              walk_at "go"
              refine ⟨_, _, rfl, Eqs.atom rfl 3, fun H10 s10 => ⟨_, rfl, ?_⟩⟩
              walk_at "go"
              exact ⟨_, _, _, rfl, fin H10 s10⟩
            | cons r0 rest =>
              rw [hG] at emap hg9
              cases hK : goers vw.2 ks with
              | nil => rw [hK] at emap; cases emap
              | cons k0 krest =>
                rw [hK] at emap R9
                subst R9
                have e0 : k0.2 = r0.2 := by
                  have e1 : k0.2 :: krest.map (·.2) = r0.2 :: rest.map (·.2) := emap
                  injection e1
                have mk0 : k0 ∈ ks := subk k0 (by rw [hK]; exact List.mem_cons_self ..)
                have mr0 : r0 ∈ ds := subd r0 (by rw [hG]; exact List.mem_cons_self ..)
                rw [show (!(refs (r0 :: rest)).isEmpty) = true from rfl]
                walk_at "go"
                refine r_ixT (v := .ref r0.1) (SqT.of hg9) (show atI (refs (r0 :: rest)) ((0 : Nat) : Int) = _ from atI_nat rfl) ?_
                walk_at "go"
                refine ⟨_, _, rfl, Eqs.row (k := 2) (S69 _ _ (B6.tups k0 mk0)) (by rw [e0]; exact S69 _ _ (D6 r0 mr0)) (B.rows k0 mk0).ints (by have := (B.rows k0 mk0).1; omega), fun H10 s10 => ⟨_, rfl, ?_⟩⟩
                walk_at "go"
                exact ⟨_, _, _, rfl, fin H10 s10⟩
      · rintro σ H3 ⟨w7, w8, w9, rfl, b3, P3⟩
        walk_at "go"
        exact k H3 (b2.trans b3) P3
end
end Kb
set_option Elab.async false
set_option linter.all false
set_option maxRecDepth 100000
set_option maxHeartbeats 4000000
namespace Kb
open PySem PySem.Spec PyProof.Rows L2
theorem r_tup3 {K : PySem.W.Frag} {i j l : Nat} {t : Addr} {v x y : V} {σ σ1 σ2 σ3 : L2.St} {H : Hp} {QS : L2.St → Hp → Prop} (h1 : H t = some (.tup [v, x, y])) (e1 : σ.set i (some v) = σ1) (e2 : σ1.set j (some x) = σ2) (e3 : σ2.set l (some y) = σ3) (h : QS σ3 H) : gTup K 3 (gCons (gName i) (gCons (gName j) (gCons (gName l) gNil))) (.ref t) σ H QS := by
  subst e1
  subst e2
  subst e3
  exact ⟨t, _, rfl, SqT.of h1, rfl, v, _, rfl, x, _, rfl, y, [], rfl, rfl, h⟩
theorem others_map {ys : List V} {ks ds : Ks} (e : ds.map (·.2) = ks.map (·.2)) : (others ys ks).map (·.2) = (others ys ds).map (·.2) := by
  unfold others
  rw [map_filter2 (fun r => !decide (r = ys)), map_filter2 (fun r => !decide (r = ys)), e]
theorem others_asc {ys : List V} {ks : Ks} (h : AscS (ks.map (·.2))) : AscS ((others ys ks).map (·.2)) := by
  unfold others
  rw [map_filter2 (fun r => !decide (r = ys))]
  exact List.Pairwise.filter _ h
/-- a length, by members -/
theorem asc_len {a b : List (List V)} (ha : AscS a) (h : ∀ r ∈ a, r ∈ b) : a.length ≤ b.length := nat_nodup_len' ha.nodup h
theorem others_len {ys : List V} {ks : Ks} {b : List (List V)} (h : AscS (ks.map (·.2))) (h1 : ys ∈ b) (h2 : ∀ r ∈ ks.map (·.2), r ∈ b) : (others ys ks).length + 1 ≤ b.length := by
  have n : (ys :: (others ys ks).map (·.2)).Nodup := List.nodup_cons.mpr ⟨fun z => (others_mem.mp z).2 rfl, (others_asc h).nodup⟩
  have l := nat_nodup_len' (D := b) n fun r hr => by
    rcases List.mem_cons.mp hr with e | hr
    · rw [e]
      exact h1
    · exact h2 r (others_mem.mp hr).1
  simpa using l
theorem ixN_nat' {n j : Nat} (hj : j < n) : ixN n (j : Int) = some j := by
  unfold ixN
  rw [if_pos (by omega), if_pos (by omega)]
  exact congrArg some (by omega)
local macro_rules | `(tactic| walk_at "beg") => `(tactic| simp only [cxK, cxKn, cxW, cxWn, cxP, cxPn, L2.start, List.map_cons, List.map_nil, List.length_cons, List.length_nil, Nat.reduceAdd, Nat.reduceSub, List.replicate_succ, List.replicate_zero, List.cons_append, List.nil_append])
local macro_rules | `(tactic| walk_at "go1") => `(tactic| with_reducible (first
  | refine r_seq ?_ | refine r_asg ?_ | refine r_if ?_ | refine r_ret ?_ | refine r_next ?_ | refine r_drop ?_ | refine r_gsub ?_
  | refine r_c ?_ | refine r_op ?_ | refine r_un ?_ | refine r_cons ?_ | refine r_nil ?_ | refine r_cb ?_ | refine r_call ?_ | refine r_test ?_ | refine r_B ?_ | refine r_bl ?_
  | refine r_and ?_ | refine r_or ?_ | refine r_not ?_ | refine r_ifE ?_ | refine r_andV ?_ | refine r_orV ?_ | refine r_notV ?_ | refine r_blV ?_ | refine r_T ?_ | refine r_F ?_ | refine r_nT ?_ | refine r_nF ?_
  | refine r_int ?_ | refine r_eqI ?_ | refine r_neI ?_
  | refine r_yes ?_ | refine r_lc ?_ | refine r_rng1 ?_ | refine r_rng2 ?_ | refine r_iList ?_ | refine r_iTup ?_ | refine r_for ?_
  | refine r_bm ?_ | refine r_sl ?_ | refine r_np ?_ | refine r_part ?_ | refine r_partI ?_ | refine r_lstRg ?_ | refine r_rg1 ?_ | refine r_rgI ?_ | refine r_isN ?_ | refine r_notN ?_ | refine r_notT ?_ | refine r_mkA ?_ | refine r_callS ?_ | refine r_sfld ?_ | refine r_fld ?_ | refine r_sortSet ?_ | refine r_mkO ?_ | refine r_enum ?_ | refine r_make ?_
  | refine r_I0 ?_ | refine r_U ?_ | refine r_tup ?_ | refine r_lst ?_))
local macro_rules | `(tactic| walk_at "go") => `(tactic| repeat (first | walk_at "go1" | with_reducible refine r_var (by with_unfolding_all rfl) ?_ | with_reducible refine r_lcT (by with_unfolding_all rfl) ?_ | with_reducible refine r_name (by (try simp only [wipe, List.set_cons_succ, List.set_cons_zero]) <;> with_unfolding_all rfl) ?_))
section
variable {P : Program} {w : World} {K : PySem.W.Frag} {mg : Str → Option Value} {base : Heap}
theorem RowsAt.eqs {H : Hp} {T1 t2 : Addr} {n m : Nat} {js ms : Ks} (R : RowsAt H T1 n m js) (n5 : n ≤ 5) (h2 : H t2 = some (.tup (refs ms))) (T2 : Tups H ms) (e : js.map (·.2) = ms.map (·.2)) (k : Nat) : Eqs H (k + 2) (.ref T1) (.ref t2) :=
  Eqs.rows R.tup h2 R.tups T2 e (fun r hr => ⟨(R.rows r hr).ints, by have := (R.rows r hr).1; omega⟩) (by have := R.len; omega)
theorem sc_changed : FnScope ["_law_pot_here", "_law_book", "_law_n", "_law_m", "_law_due", "_law_entry_here", "_law_more", "_law_handed", "_law_less", "_law_row", "_law_bad", "_law_what", "_law_house", "_law_which", "_law_view"] ["_law_pot_here", "_law_book", "_law_n", "_law_m", "_law_due"] (defScope s_changed) := ⟨rfl, rfl, rfl, by decide +kernel, rfl, by decide +kernel, by decide +kernel⟩
def spChanged (K : PySem.W.Frag) : Sp := fun vs H Q _ => ∃ (p q o dl : Addr) (n m : Nat) (ks ds : Ks), vs = [.ref p, .ref o, .int (n : Int), .int (m : Int), .ref dl] ∧ Pot H p q ∧ BookAt K H o n m ks ∧
  H dl = some (.lst (refs ds)) ∧ Tups H ds ∧ (∀ r ∈ ds, isRow n m r.2) ∧ ds.map (·.2) = ks.map (·.2) ∧ ∀ H', But p H H' → Pot H' p q → Q (.bl true) H'
def tRestC (K : PySem.W.Frag) : TS := tSeq (tAsg (tCall spBad [] E0 (tCons (tVar 0) (tCons (tVar 5) (tCons (tVar 3) tNil)))) (gTup K 3 (gCons (gName 10) (gCons (gName 11) (gCons (gName 12) gNil)))))
  (tSeq (tIfS (tNot (tB (tCall (spSame 3) [] E0 (tCons (tCall (spTold K) [] E0 (tCons (tC (.int 0)) (tCons (tVar 1) (tCons (tVar 10) tNil)))) (tCons (tTup (tCons (tC (.str "input")) (tCons (tVar 11) (tCons (tVar 12) tNil)))) tNil))))) (tRet (tC (.bl false))) tNext)
  (tSeq (tFor (iList K (tLst (tCons (tC (.int 2)) (tCons (tC (.int 3)) tNil)))) (gName 13) (tSeq (tAsg (tOp rRep (tLst (tCons (tC .non) tNil)) (tVar 2)) (gName 14)) (tSeq (tAsg (tVar 3) (gSub (tVar 14) (tVar 12) rSetL))
    (tSeq (tIfS (tNot (tB (tCall (spSame 3) [] E0 (tCons (tCall (spTold K) [] E0 (tCons (tVar 13) (tCons (tVar 1) (tCons (tVar 14) tNil)))) (tCons (tTup (tCons (tC (.str "view")) (tCons (tC (.str "value")) (tCons (tVar 12) tNil)))) tNil))))) (tRet (tC (.bl false))) tNext)
    (tIfS (tNot (tB (tCall (spSame 3) [] E0 (tCons (tCall (spTold K) [] E0 (tCons (tVar 13) (tCons (tVar 1) (tCons (tTup (tCons (tC (.int 0)) tNil)) tNil)))) (tCons (tTup (tCons (tC (.str "view")) (tCons (tC (.str "length")) (tCons (tC (.int 0)) tNil)))) tNil))))) (tRet (tC (.bl false))) tNext)))))
  (tRet (tC (.bl true)))))
theorem bad_rows_no {n m : Nat} {th : Th} {what : Str} {house : Nat} (n2 : 2 ≤ n) (h : Th.bad (okE m) n th = some (what, house)) : ¬ isRow n m th.ys := by
  intro hr
  cases th with
  | «at» v =>
    have e := hr.1
    have e2 : ([] : List V).length = n := e
    simp at e2
    omega
  | sq l a ys =>
    have hr' : isRow n m ys := hr
    rw [bad_sq, if_pos hr'.1, badAt_none.mpr fun y hy => okE_iff.mpr (hr'.2 y hy)] at h
    cases h
theorem rep_flat (n : Nat) (v : V) : (List.replicate n [v]).flatten = List.replicate n v := by
  induction n with
  | zero => rfl
  | succ n ih => rw [List.replicate_succ, List.flatten_cons, ih, List.replicate_succ]; rfl
theorem rest_ok {p q o ea mt : Addr} {n m : Nat} {ks : Ks} {er : List V} {w7 w8 : Option V} {H : Hp} {Q : VK} {dl' : V} (P7 : Pot H p q) (B : BookAt K H o n m ks) (he : H ea = some (.tup er)) (hrow : isRow n m er) (k : ∀ H', But p H H' → Pot H' p q → Q (.bl true) H') :
    tRestC K { nx := fun _ H' => Q .non H', rt := Q } [some (.ref p), some (.ref o), some (.int (n : Int)), some (.int (m : Int)), some dl', some (.ref ea), some (.ref mt), w7, w8, none, none, none, none, none, none] H := by
  have n2 := B.n2
  have n5 := B.n5
  have m4 := B.m4
  unfold tRestC
  walk_at "go"
  refine ⟨p, q, ea, n, m, er, rfl, P7, he, hrow, by omega, by omega, fun b x th what house H1 b1 P1 hb hx hbad hh _ => ?_⟩
  refine r_tup3 hb rfl rfl rfl ?_
  have B1 := B.but b1 P7
  walk_at "go"
  refine ⟨o, n, m, ks, x, th, B1, hx, .inl ⟨rfl, fun what' house' hbad' b2 H2 s2 hb2 => ?_, fun hno => (by rw [hbad] at hno; cases hno), fun _ _ _ _ hr => absurd hr (bad_rows_no n2 hbad)⟩⟩
  rw [hbad] at hbad'
  cases hbad'
  walk_at "go"
  refine ⟨sz10 (by simp), r_new fun t3 H3 _ s3 ht3 _ => ?_⟩
  refine ⟨_, _, rfl, Eqs.three (k := 2) (s3 _ _ hb2) ht3 (Eqs.atom rfl 2) (Eqs.atom rfl 2) (Eqs.atom rfl 2), fun H4 s4 => ⟨_, rfl, ?_⟩⟩
  have S14 := (s2.trans s3).trans s4
  have B4 := B1.same S14
  walk_at "go"
  refine ⟨sz10 (by simp), r_new fun L H5 _ s5 hL _ => ?_⟩
  walk_at "go"
  have B5 := B4.same s5
  refine r_il (SqL.of hL) ?_
  refine forR_list [V.int 2, .int 3] (fun i σ H6 => ∃ w13 w14 : Option V, σ = [some (.ref p), some (.ref o), some (.int (n : Int)), some (.int (m : Int)), some dl', some (.ref ea), some (.ref mt), w7, w8, none, some x, some (.str what), some (.int (house : Int)), w13, w14] ∧ L2.Same H5 H6) ?_ ?_ ?_ ?_
  · exact ⟨none, none, rfl, Same.refl _⟩
  · rintro i σ H6 _ ⟨_, _, _, s6⟩
    exact SqL.of (s6 _ _ hL)
  · rintro i v σ H6 hv ⟨w13, w14, rfl, s6⟩
    have hv2 : ∃ j : Int, (j = 2 ∨ j = 3) ∧ v = .int j := by
      have hm := List.mem_of_getElem? hv
      simp only [List.mem_cons, List.not_mem_nil, or_false] at hm
      rcases hm with rfl | rfl
      · exact ⟨2, .inl rfl, rfl⟩
      · exact ⟨3, .inr rfl, rfl⟩
    obtain ⟨j, hj, rfl⟩ := hv2
    have B6 := B5.same s6
    walk_at "go"
    refine ⟨sz10 (by simp), r_new fun l1 H7 _ s7 hl1 _ => ?_⟩
    walk_at "go"
    refine ⟨l1, (n : Int), [V.non], rfl, rfl, hl1, by omega, by omega, by rw [sizeLine_eq, Int.toNat_natCast]; simp; omega, fun l2 nl2 => ?_⟩
    rw [Int.toNat_natCast, rep_flat]
    have s8 : L2.Same H7 (L2.upd H7 l2 (.lst (List.replicate n V.non))) := Same.new nl2
    have hl2 : L2.upd H7 l2 (.lst (List.replicate n V.non)) l2 = some (.lst (List.replicate n V.non)) := upd_same
    walk_at "go"
    refine r_setL (j := house) hl2 (by rw [List.length_replicate]; exact ixN_nat' hh) ?_
    rw [upd_upd]
    generalize hvl : (List.replicate n V.non).set house (.int (m : Int)) = vl
    have s9 : L2.Same H7 (L2.upd H7 l2 (.lst vl)) := Same.new nl2
    have hvl2 : L2.upd H7 l2 (.lst vl) l2 = some (.lst vl) := upd_same
    generalize L2.upd H7 l2 (.lst vl) = H8 at s9 hvl2
    have S68 := s7.trans s9
    have B8 := B6.same S68
    have vlen : vl.length = n := by rw [← hvl, List.length_set, List.length_replicate]
    have vkn : ∀ y ∈ vl, Kn H8 y := fun y hy => by
      rw [← hvl] at hy
      rcases List.mem_or_eq_of_mem_set hy with h | rfl
      · rw [(List.mem_replicate.mp h).2]
        exact .inl rfl
      · exact kn_int
    have vbad : Th.bad (okW m) n (.sq true l2 vl) = some (("value" : Str), house) := by
      rw [bad_sq, if_pos vlen]
      have e : badAt (okW m) vl = some house := badAt_some ⟨.int (m : Int), by rw [← hvl, List.getElem?_set_self (by rw [List.length_replicate]; exact hh)], by
        unfold okW
        rw [not_okE_int (.inr (Int.le_refl _))]
        rfl⟩ fun i y hi hy => by
          rw [← hvl, List.getElem?_set_ne (by omega)] at hy
          have e2 := List.mem_of_getElem? hy
          rw [(List.mem_replicate.mp e2).2]
          rfl
      rw [e]
      rfl
    walk_at "go"
    refine ⟨o, n, m, ks, .ref l2, .sq true l2 vl, B8, ⟨rfl, hvl2, vkn⟩, .inr (.inr ⟨j, _, _, hj, rfl, vbad, fun b9 H9 s9' hb9 => ?_⟩)⟩
    walk_at "go"
    refine ⟨sz10 (by simp), r_new fun ta Ha _ sa hta _ => ?_⟩
    refine ⟨_, _, rfl, Eqs.three (k := 2) (sa _ _ hb9) hta (Eqs.atom rfl 2) (Eqs.atom rfl 2) (Eqs.atom rfl 2), fun Hb sb => ⟨_, rfl, ?_⟩⟩
    have S8b := (s9'.trans sa).trans sb
    have Bb := B8.same S8b
    walk_at "go"
    refine ⟨sz10 (by simp), r_new fun t0 Hc _ sc ht0 _ => ?_⟩
    walk_at "go"
    have tbad : Th.bad (okW m) n (.sq false t0 [.int 0]) = some (("length" : Str), 0) := by
      rw [bad_sq, if_neg (by simp; omega)]
    refine ⟨o, n, m, ks, .ref t0, .sq false t0 [.int 0], Bb.same sc, ⟨rfl, ht0, fun y hy => by rw [List.mem_singleton.mp hy]; exact kn_int⟩, .inr (.inr ⟨j, _, _, hj, rfl, tbad, fun bd Hd sd hbd => ?_⟩)⟩
    walk_at "go"
    refine ⟨sz10 (by simp), r_new fun te He _ se hte _ => ?_⟩
    refine ⟨_, _, rfl, Eqs.three (k := 2) (se _ _ hbd) hte (Eqs.atom rfl 2) (Eqs.atom rfl 2) (Eqs.atom rfl 2), fun Hf sf => ⟨_, rfl, ?_⟩⟩
    walk_at "go"
    exact ⟨_, _, rfl, ((s6.trans S68).trans S8b).trans (((sc.trans sd).trans se).trans sf)⟩
  · rintro σ H6 ⟨_, _, rfl, s6⟩
    walk_at "go"
    exact k H6 (b1.same ((S14.trans s5).trans s6)) (P1.same ((S14.trans s5).trans s6))
theorem g_changed (T : Txt K mg) : CalG P w K mg base 9 "_law_changed" (spChanged K) := by
  have c_draw : CalX P w K mg base CX0 1 "_law_draw" spDraw [] := c_draw T
  have c_way : CalX P w K mg base CX0 2 "_law_way" spWay [] := c_way T
  have c_entry : CalX P w K mg base CX0 2 "_law_entry" spEntry [] := c_entry T
  have c_bad_entry : CalX P w K mg base CX0 3 "_law_bad_entry" spBad [] := c_bad_entry T
  have c_same : CalX P w K mg base CX0 4 "_law_same" (spSame 3) [] := c_same T 3
  have g_told : CalG P w K mg base 7 "_law_told" (spTold K) := g_told T
  refine mkcalG (ps := ["_law_pot_here", "_law_book", "_law_n", "_law_m", "_law_due"]) T.u_changed T.g_changed sc_changed (fun _ _ _ _ _ _ us hl => match us, hl with | [_, _, _, _, _], _ => rfl) (fun vs H Q E h => ?_) (fun f cdv A outer s H vs Q E hr hg h => ?_)
  · obtain ⟨_, _, _, _, _, _, _, _, rfl, _⟩ := h
    rfl
  · obtain ⟨p, q, o, dl, n, m, ks, ds, rfl, hP, B, hdl, Tds, hds, eds, k⟩ := h
    refine ⟨_, PSs.nox (pss_cons (ps_set (i := 5) sc_changed.nd rfl (.inr rfl) (pc0 c_entry hr (by decide) (pa_cons (pv 0) (pa_cons (pv 2) (pa_cons (pv 3) pa_nil)))))
      (C8.pss_cut (ps_if (PW.pt (pw_and (pt_truth (pv 4) (by intro _; rfl)) (pw_and1 (pt_truth (pc0 c_draw hr (by decide) (pa_cons (pv 0) (pa_cons pe_int pa_nil))) (by intro _; rfl))))) (pss_one (ps_set (i := 5) sc_changed.nd rfl (.inr rfl) (pe_ix (k_ixl K) (pv 4) (pc0 c_draw hr (by decide) (pa_cons (pv 0) (pa_cons (pe_callB (k_len K) (by rfl) T.n_len b_len (pa_cons (pv 4) pa_nil)) pa_nil))) (fun _ _ => rfl)))) pss_nil)
      (C8.pss_cut (ps_set (i := 6) sc_changed.nd rfl (.inl rfl) (pe_ifExp (pt_cmpR (k_ninD K (hu65 hr)) (pv 5) (pv 4) (by rfl)) (pe_callTy (k_tup K) (by rfl) T.n_tuple b_tuple (pa_cons (pe_callB (k_srt K) (by rfl) T.n_sorted b_sorted (pa_cons (pe_op op_cat (pv 4) (pe_lst (pa_cons (pv 5) pa_nil))) pa_nil)) pa_nil)) (pe_callTy (k_tup K) (by rfl) T.n_tuple b_tuple (pa_cons (pv 4) pa_nil))))
      (C8.pss_cut (ps_if (pt_cmpR op_gt (pe_callB (k_len K) (by rfl) T.n_len b_len (pa_cons (pv 6) pa_nil)) pe_int (nomark _)) (pss_one (ps_if (pt_not (pt_val (pc0 c_same hr (by decide) (pa_cons (pcG g_told hr (by decide) hg (pa_cons pe_int (pa_cons (pv 1) (pa_cons (pv 5) pa_nil)))) (pa_cons (pe_tup (pa_cons pe_str (pa_cons pe_str (pa_cons pe_int pa_nil)))) pa_nil))))) (pss_one (ps_ret pe_bl)) pss_nil)) (pss_one (ps_if (pt_not (pt_val (pc0 c_same hr (by decide) (pa_cons (pcG g_told hr (by decide) hg (pa_cons pe_int (pa_cons (pv 1) (pa_cons (pc0 c_way hr (by decide) (pa_cons (pv 0) (pa_cons (pv 5) pa_nil))) pa_nil)))) (pa_cons (pe_tup (pa_cons pe_str (pa_cons (pv 6) pa_nil))) pa_nil))))) (pss_one (ps_ret pe_bl)) pss_nil)))
      (pss_cons (ps_set (i := 7) sc_changed.nd rfl (.inl rfl) (pe_ifExp (pt_cmpR (k_inD K (hu65 hr)) (pv 5) (pv 4) (by rfl)) (pc0 c_way hr (by decide) (pa_cons (pv 0) (pa_cons (pv 5) pa_nil))) (pv 5)))
      (pss_cons (ps_set (i := 8) sc_changed.nd rfl (.inl rfl) (pe_ifExp (pt_cmpR (k_inD K (hu65 hr)) (pv 5) (pv 4) (by rfl)) (pe_tup (pa_cons pe_str (pa_cons (pe_callTy (k_tup K) (by rfl) T.n_tuple b_tuple (pa_cons (pe_lc (own := [("_law_row", 9)]) (g := gName 9) rfl sc_changed.nd (pi_list (pv 4)) (blkOk_by (own := [("_law_row", 9)]) (N := ["_law_pot_here", "_law_book", "_law_n", "_law_m", "_law_due", "_law_entry_here", "_law_more", "_law_handed", "_law_less", "_law_row", "_law_bad", "_law_what", "_law_house", "_law_which", "_law_view"]) (sc := defScope s_changed) (by decide +kernel)) (fun _ _ _ _ _ => pg_name (i := 9) sc_changed.nd rfl (Or.inl rfl)) (fun _ _ _ _ _ => (pts_one (pt_cmpR (k_neD K (hu64 hr)) (pv 9) (pv 5) (nomark _)))) (fun _ _ _ _ _ => (pv 9))) pa_nil)) pa_nil))) (pe_tup (pa_cons pe_str (pa_cons (pe_callB (k_repr hg (hu64 hr)) (by rfl) T.n_repr b_repr (pa_cons (pv 5) pa_nil)) pa_nil)))))
      (C8.pss_cut (ps_if (PW.pt (pw_or (pt_not (pt_val (pc0 c_same hr (by decide) (pa_cons (pcG g_told hr (by decide) hg (pa_cons pe_int (pa_cons (pv 1) (pa_cons (pv 7) pa_nil)))) (pa_cons (pv 8) pa_nil))))) (pw_or1 (pt_not (pt_val (pc0 c_same hr (by decide) (pa_cons (pcG g_told hr (by decide) hg (pa_cons pe_int (pa_cons (pv 1) (pa_cons pe_non pa_nil)))) (pa_cons (pe_tup (pa_cons pe_str (pa_cons pe_str pa_nil))) pa_nil)))))))) (pss_one (ps_ret pe_bl)) pss_nil)
      (pss_cons (ps_asg (pc0 c_bad_entry hr (by decide) (pa_cons (pv 0) (pa_cons (pv 5) (pa_cons (pv 3) pa_nil)))) (pg_tup (n := 3) (by rfl) (pgs_cons (pg_name (i := 10) sc_changed.nd rfl (.inl rfl)) (pgs_cons (pg_name (i := 11) sc_changed.nd rfl (.inl rfl)) (pgs_cons (pg_name (i := 12) sc_changed.nd rfl (.inl rfl)) pgs_nil)))))
      (pss_cons (ps_if (pt_not (pt_val (pc0 c_same hr (by decide) (pa_cons (pcG g_told hr (by decide) hg (pa_cons pe_int (pa_cons (pv 1) (pa_cons (pv 10) pa_nil)))) (pa_cons (pe_tup (pa_cons pe_str (pa_cons (pv 11) (pa_cons (pv 12) pa_nil)))) pa_nil))))) (pss_one (ps_ret pe_bl)) pss_nil)
      (pss_cons (ps_for PassesOwn.never rfl (pi_list (pe_lst (pa_cons pe_int (pa_cons pe_int pa_nil)))) (pg_name (i := 13) sc_changed.nd rfl (.inl rfl)) (pss_cons (ps_set (i := 14) sc_changed.nd rfl (.inl rfl) (pe_op op_rep (pe_lst (pa_cons pe_non pa_nil)) (pv 2)))
      (pss_cons (ps_asg (pv 3) (pg_sub (pv 14) (pv 12) set_list))
      (pss_cons (ps_if (pt_not (pt_val (pc0 c_same hr (by decide) (pa_cons (pcG g_told hr (by decide) hg (pa_cons (pv 13) (pa_cons (pv 1) (pa_cons (pv 14) pa_nil)))) (pa_cons (pe_tup (pa_cons pe_str (pa_cons pe_str (pa_cons (pv 12) pa_nil)))) pa_nil))))) (pss_one (ps_ret pe_bl)) pss_nil)
      (pss_one (ps_if (pt_not (pt_val (pc0 c_same hr (by decide) (pa_cons (pcG g_told hr (by decide) hg (pa_cons (pv 13) (pa_cons (pv 1) (pa_cons (pe_tup (pa_cons pe_int pa_nil)) pa_nil)))) (pa_cons (pe_tup (pa_cons pe_str (pa_cons pe_str (pa_cons pe_int pa_nil)))) pa_nil))))) (pss_one (ps_ret pe_bl)) pss_nil))))))
      (pss_one (ps_ret pe_bl)))))))))))), ?_⟩
    have n2 := B.n2
    have n5 := B.n5
    have m1 := B.m1
    have m4 := B.m4
    have hdp : dl ≠ p := refs_ne hP hdl
    have dlen : ds.length ≤ 256 := by
      have e := congrArg List.length eds
      rw [List.length_map, List.length_map] at e
      have := B.len
      omega
    have dasc : AscS (ds.map (·.2)) := by rw [eds]; exact B.asc
    have dint : ∀ r ∈ ds, Ints r.2 := fun r hr => (hds r hr).ints
    walk_at "beg"
    walk_at "go"
    refine ⟨p, q, n, m, rfl, hP, m1, by omega, by omega, fun ea0 er0 H1 b1 P1 he0 hrow0 => ?_⟩
    walk_at "go"
    refine r_cut (fun σ' H' => ∃ (ea : Addr) (er : List V), σ' = [some (.ref p), some (.ref o), some (.int (n : Int)), some (.int (m : Int)), some (.ref dl), some (.ref ea), none, none, none, none, none, none, none, none, none] ∧ But p H H' ∧ Pot H' p q ∧ H' ea = some (.tup er) ∧ isRow n m er) ?_ ?_
    · have hd1 := b1 _ _ hdl hdp
      walk_at "go"
      refine ⟨_, tru_lst hd1, ?_⟩
      have lr := refs_len ds
      cases hE : (refs ds).isEmpty with
      | true =>
        walk_at "go"
        exact ⟨ea0, er0, rfl, b1, P1, he0, hrow0⟩
      | false =>
        have l0 : 0 < ds.length := by
          cases ds with
          | nil => cases hE
          | cons a b => exact Nat.succ_pos _
        walk_at "go"
        refine ⟨p, q, 2, rfl, P1, by decide, by decide, fun v H2 v0 v1 b2 P2 => ?_⟩
        refine ⟨_, rfl, ?_⟩
        cases hv : (v != 0) with
        | false =>
          walk_at "go"
          exact ⟨ea0, er0, rfl, b1.trans b2, P2, b2.tup P1 he0, hrow0⟩
        | true =>
          have hd2 := b2 _ _ hd1 hdp
          walk_at "go"
          refine r_len (.inl (SqL.of hd2)) ?_
          refine ⟨p, q, _, rfl, P2, by omega, by omega, fun u H3 u0 u1 b3 P3 => ?_⟩
          obtain ⟨x, hx, mx⟩ := pick (xs := refs ds) u0 u1
          obtain ⟨r, hrm, rfl⟩ := List.mem_map.mp mx
          refine r_ixL (SqL.of (b3 _ _ hd2 hdp)) hx ?_
          walk_at "go"
          exact ⟨r.1, r.2, rfl, (b1.trans b2).trans b3, P3, (((Tds.but b1 hP).but b2 P1).but b3 P2) r hrm, hds r hrm⟩
    · rintro σ' H4 ⟨ea, er, rfl, b4, P4, he4, hrow⟩
      have B4 := B.but b4 hP
      have hd4 := b4 _ _ hdl hdp
      have D4 := Tds.but b4 hP
      have eint := hrow.ints
      walk_at "go"
      refine r_cut (fun σ' H' => ∃ (mt : Addr) (ms : Ks), σ' = [some (.ref p), some (.ref o), some (.int (n : Int)), some (.int (m : Int)), some (.ref dl), some (.ref ea), some (.ref mt), none, none, none, none, none, none, none, none] ∧ L2.Same H4 H' ∧ H' mt = some (.tup (refs ms)) ∧ Tups H' ms ∧ (∀ r ∈ ms, isRow n m r.2) ∧ AscS (ms.map (·.2)) ∧ ∀ r, r ∈ ms.map (·.2) ↔ r ∈ ds.map (·.2) ∨ r = er) ?_ ?_
      · walk_at "go"
        refine r_ninL he4 eint hd4 D4 dint ?_
        walk_at "go"
        refine ite_nd (fun hno => ?_) (fun hyes => ?_)
        · walk_at "go"
          refine ⟨sz10 (by simp), r_new fun l1 H5 _ s5 hl1 _ => ?_⟩
          refine r_catN (s5 _ _ hd4) hl1 (by rw [refs_len]; simp; omega) fun l2 H6 _ s6 hl2 => ?_
          have S46 := s5.trans s6
          have hl2' : H6 l2 = some (.lst (refs (ds ++ [(ea, er)]))) := by rw [refs_app]; exact hl2
          have R6 : ∀ r ∈ ds ++ [(ea, er)], isRow n m r.2 := fun r hr => by
            rcases List.mem_append.mp hr with hr | hr
            · exact hds r hr
            · cases List.mem_singleton.mp hr
              exact hrow
          have T6 : Tups H6 (ds ++ [(ea, er)]) := fun r hr => by
            rcases List.mem_append.mp hr with hr | hr
            · exact S46 _ _ (D4 r hr)
            · cases List.mem_singleton.mp hr
              exact S46 _ _ he4
          walk_at "go"
          refine ⟨l2, _, n, rfl, hl2', T6, by omega, fun r hr => ⟨(R6 r hr).1, (R6 r hr).ints⟩, by rw [List.length_append]; simp; omega, fun l3 ms pm pw nl3 => ?_⟩
          walk_at "go"
          have s7 : L2.Same H6 (L2.upd H6 l3 (.lst (refs ms))) := Same.new nl3
          refine r_tupL (SqL.of upd_same) fun mt H8 _ s8 hmt _ => ?_
          walk_at "go"
          have S48 := (S46.trans s7).trans s8
          have mem : ∀ r, r ∈ ms.map (·.2) ↔ r ∈ ds.map (·.2) ∨ r = er := fun r => by
            rw [(pm.map (·.2)).mem_iff, List.map_append, List.mem_append]
            simp
          have nd : (ms.map (·.2)).Nodup := by
            rw [(pm.map (·.2)).nodup_iff, List.map_append]
            refine List.nodup_append.mpr ⟨dasc.nodup, by simp, fun a ha b hb e => ?_⟩
            have e2 : b = er := by simpa using hb
            rw [e, e2] at ha
            exact hno ha
          exact ⟨mt, ms, rfl, S48, hmt, fun r hr => (s7.trans s8) _ _ (T6 r (pm.mem_iff.mp hr)), fun r hr => R6 r (pm.mem_iff.mp hr), asc_of pw nd (fun r hr => (R6 r (pm.mem_iff.mp hr)).ints), mem⟩
        · walk_at "go"
          refine r_tupL (SqL.of hd4) fun mt H8 _ s8 hmt _ => ?_
          walk_at "go"
          exact ⟨mt, ds, rfl, s8, hmt, D4.same s8, hds, dasc, fun r => ⟨.inl, fun h => h.elim id fun e => by rw [e]; exact hyes⟩⟩
      · rintro σ' H5 ⟨mt, ms, rfl, s5, hmt, Tms, Rms, Ams, Mms⟩
        have B5 := B4.same s5
        have P5 := P4.same s5
        have he5 := s5 _ _ he4
        have good : ∀ (T1 : Addr) (js : Ks) (H' : Hp), RowsAt H' T1 n m js → (∀ r, r ∈ js.map (·.2) ↔ r ∈ ks.map (·.2) ∨ r = er) → js.map (·.2) = ms.map (·.2) := fun T1 js H' R hm => asc_one R.asc Ams fun r => by rw [hm, Mms, eds]
        have er_ms : er ∈ ms.map (·.2) := (Mms er).mpr (.inr rfl)
        have olen : (others er ks).length + 1 ≤ ms.length := by
          have l := others_len (b := ms.map (·.2)) B.asc er_ms fun r hr => (Mms r).mpr (.inl (by rw [eds]; exact hr))
          rw [List.length_map] at l
          exact l
        have mlen : ms.length ≤ (others er ks).length + 1 := by
          have l := asc_len (b := er :: (others er ks).map (·.2)) Ams fun r hr => by
            by_cases e : r = er
            · rw [e]
              exact List.mem_cons_self ..
            · refine List.mem_cons_of_mem _ (others_mem.mpr ⟨?_, e⟩)
              rcases (Mms r).mp hr with h | h
              · rw [← eds]
                exact h
              · exact absurd h e
          simpa using l
        walk_at "go"
        refine r_cut (fun σ' H' => σ' = [some (.ref p), some (.ref o), some (.int (n : Int)), some (.int (m : Int)), some (.ref dl), some (.ref ea), some (.ref mt), none, none, none, none, none, none, none, none] ∧ But p H4 H' ∧ Pot H' p q) ?_ ?_
        · walk_at "go"
          refine r_len (.inr (SqT.of hmt)) ?_
          rw [refs_len]
          walk_at "go"
          refine ite_d (fun big => ?_) (fun small => ?_)
          · walk_at "go"
            refine ⟨o, n, m, ks, .ref ea, thOf (ea, er), B5, is_th (p := (ea, er)) he5 eint, .inl ⟨rfl, fun what house hb => (by rw [bad_row (p := (ea, er)) hrow] at hb; cases hb), fun _ _ b H6 s6 hb => ?_, fun b T1 js H6 _ s6 hb R hm => ?_⟩⟩
            · walk_at "go"
              refine ⟨sz10 (by simp), r_new fun t H7 _ s7 ht _ => ?_⟩
              refine ⟨_, _, rfl, Eqs.three (k := 2) (s7 _ _ hb) ht (Eqs.atom rfl 2) (Eqs.atom rfl 2) (Eqs.atom rfl 2), fun H8 s8 => ⟨_, rfl, ?_⟩⟩
              walk_at "go"
              exact ⟨rfl, Same.but (((s5.trans s6).trans s7).trans s8), P5.same ((s6.trans s7).trans s8)⟩
            · exfalso
              have e := congrArg List.length (good T1 js H6 R hm)
              rw [List.length_map, List.length_map] at e
              have := R.len
              omega
          · walk_at "go"
            have hep : ea ≠ p := by
              intro e
              obtain ⟨xs, hx⟩ := P5.there
              rw [← e, he5] at hx
              cases hx
            refine ⟨p, q, ea, er, rfl, P5, .inr he5, hep, fun b H6 b6 P6 hb => ?_⟩
            have B6 := B5.but b6 P5
            have hth : ∃ lb, Is H6 (.ref b) (.sq lb b er) := by
              have kv : ∀ y ∈ er, Kn H6 y := fun y hy => (hrow.2 y hy).kn
              rcases hb with ⟨_, hb⟩ | hb
              · exact ⟨true, rfl, hb, kv⟩
              · exact ⟨false, rfl, hb, kv⟩
            obtain ⟨lb, hth⟩ := hth
            have nob : Th.bad (okE m) n (.sq lb b er) = none := by
              rw [bad_sq, if_pos hrow.1, badAt_none.mpr fun y hy => okE_iff.mpr (hrow.2 y hy)]
              rfl
            walk_at "go"
            refine ⟨o, n, m, ks, .ref b, _, B6, hth, .inl ⟨rfl, fun what house hb => (by rw [nob] at hb; cases hb), fun _ big => absurd big ?_, fun b2 T1 js H7 _ s7 hb2 R hm => ?_⟩⟩
            · show ¬ 256 < (others er ks).length + 1
              omega
            · walk_at "go"
              refine ⟨sz10 (by simp), r_new fun t H8 _ s8 ht _ => ?_⟩
              have hmt8 : H8 mt = some (.tup (refs ms)) := s8 _ _ (s7 _ _ (b6.tup P5 hmt))
              have Tm8 : Tups H8 ms := ((Tms.but b6 P5).same s7).same s8
              refine ⟨_, _, rfl, Eqs.two (k := 2) (s8 _ _ hb2) ht (Eqs.atom rfl 2) ((R.same s8).eqs n5 hmt8 Tm8 (good T1 js H7 R hm) 0), fun H9 s9 => ⟨_, rfl, ?_⟩⟩
              walk_at "go"
              exact ⟨rfl, ((Same.but s5).trans b6).same ((s7.trans s8).trans s9), P6.same ((s7.trans s8).trans s9)⟩
        · rintro σ' H6 ⟨rfl, b6, P6⟩
          have B6 := B4.but b6 P4
          have he6 := b6.tup P4 he4
          have hd6 := b6 _ _ hd4 hdp
          have D6 := D4.but b6 P4
          have hth6 : Is H6 (.ref ea) (thOf (ea, er)) := is_th (p := (ea, er)) he6 eint
          have inb : ∀ lb b, inB n ks (.sq lb b er) = decide (er ∈ ds.map (·.2)) := fun lb b => by rw [inB_row (p := (ea, er)) hrow, eds]
          have rest6 : ∀ (σ' : L2.St) (H' : Hp), (∃ w7 w8 : Option V, σ' = [some (.ref p), some (.ref o), some (.int (n : Int)), some (.int (m : Int)), some (.ref dl), some (.ref ea), some (.ref mt), w7, w8, none, none, none, none, none, none] ∧ But p H6 H' ∧ Pot H' p q) → tRestC K { nx := fun _ H' => Q .non H', rt := Q } σ' H' := by
            rintro σ' H' ⟨w7, w8, rfl, b7, P7⟩
            exact rest_ok P7 (B6.but b7 P6) (b7.tup P6 he6) hrow fun H8 b8 P8 => k H8 ((b4.trans b6).trans (b7.trans b8)) P8
          have hep : ea ≠ p := by
            intro e
            obtain ⟨xs, hx⟩ := P6.there
            rw [← e, he6] at hx
            cases hx
          have er2 : er.length ≤ 1000 := by have := hrow.1; omega
          walk_at "go"
          refine r_inL he6 eint hd6 D6 dint ?_
          walk_at "go"
          refine ite_d (fun hin => ?_) (fun hin => ?_)
          · walk_at "go"
            refine ⟨p, q, ea, er, rfl, P6, .inr he6, hep, fun b H7 b7 P7 hb => ?_⟩
            have B7 := B6.but b7 P6
            have hd7 := b7 _ _ hd6 hdp
            have D7 := D6.but b7 P6
            have he7 := b7.tup P6 he6
            have hth : ∃ lb, Is H7 (.ref b) (.sq lb b er) := by
              have kv : ∀ y ∈ er, Kn H7 y := fun y hy => (hrow.2 y hy).kn
              rcases hb with ⟨_, hb⟩ | hb
              · exact ⟨true, rfl, hb, kv⟩
              · exact ⟨false, rfl, hb, kv⟩
            obtain ⟨lb, hth⟩ := hth
            walk_at "go"
            refine r_inL he7 eint hd7 D7 dint ?_
            walk_at "go"
            refine ite_d (fun _ => ?_) (fun z => absurd hin z)
            walk_at "go"
            refine r_il (SqL.of hd7) ?_
            refine lcR_list (refs ds) (fun L j H8 => H8 L = some (.lst (refs ((ds.take j).filter fun r => !decide (r.2 = er)))) ∧ L2.Same H7 H8) ?_ ?_ ?_ ?_
            · intro L hL
              exact ⟨upd_same, Same.new hL⟩
            · rintro L j H8 hL _ ⟨q1, q2⟩
              exact SqL.of (q2 _ _ hd7)
            · rintro L j y H8 hL hy ⟨q1, q2⟩
              obtain ⟨r, hr', rfl, hrm⟩ := refs_get hy
              have hlen : ((ds.take j).filter fun r => !decide (r.2 = er)).length ≤ 256 := Nat.le_trans (List.length_filter_le _ _) (by rw [List.length_take]; omega)
              have eq := take_filter (f := fun r => !decide (r.2 = er)) hr'
              walk_at "go"
              refine r_neRow (q2 _ _ (D7 r hrm)) (dint r hrm) (q2 _ _ he7) eint ?_
              refine ⟨_, rfl, ?_⟩
              cases hg' : !decide (r.2 = er) with
              | true =>
                walk_at "go"
                refine r_lcA q1 (by rw [refs_len]; omega) ⟨?_, Same.fresh q2 hL⟩
                rw [eq, hg', if_pos rfl, refs_app, upd_same]
                rfl
              | false =>
                walk_at "go"
                refine ⟨?_, q2⟩
                rw [eq, hg', if_neg Bool.false_ne_true, List.append_nil]
                exact q1
            · rintro L H8 hL ⟨q1, q2⟩
              rw [refs_len, List.take_length] at q1
              walk_at "go"
              refine r_tupL (SqL.of q1) fun lt H9 _ s9 hlt _ => ?_
              walk_at "go"
              refine ⟨sz10 (by simp), r_new fun ls H10 _ s10 hls _ => ?_⟩
              walk_at "go"
              have S7a := (q2.trans s9).trans s10
              have hlt' : H10 lt = some (.tup (refs (others er ds))) := s10 _ _ hlt
              refine r_cut (fun σ' H' => ∃ w7 w8 : Option V, σ' = [some (.ref p), some (.ref o), some (.int (n : Int)), some (.int (m : Int)), some (.ref dl), some (.ref ea), some (.ref mt), w7, w8, none, none, none, none, none, none] ∧ But p H6 H' ∧ Pot H' p q) ?_ ?_
              · walk_at "go"
                have Ba := B7.same S7a
                refine ⟨o, n, m, ks, .ref b, _, Ba, hth.same S7a, .inr (.inl ⟨rfl, fun h => absurd h (by rw [inb, decide_eq_true hin]; decide), fun _ b2 T1 js H11 s11 hb2 R hm => ?_⟩)⟩
                have ej : js.map (·.2) = (others er ds).map (·.2) := asc_one R.asc (others_asc dasc) fun r => by
                  rw [hm, others_mem, eds]
                  exact Iff.rfl
                walk_at "go"
                refine ⟨_, _, rfl, Eqs.two (k := 2) hb2 (s11 _ _ hls) (Eqs.atom rfl 2) (R.eqs n5 (s11 _ _ hlt') (fun r hr => s11 _ _ (S7a _ _ (D7 r (List.mem_filter.mp hr).1))) ej 0), fun H12 s12 => ⟨_, rfl, ?_⟩⟩
                have Sx := s11.trans s12
                walk_at "go"
                refine ⟨o, n, m, ks, .non, .at .non, Ba.same Sx, ⟨rfl, rfl⟩, .inr (.inl ⟨rfl, fun _ => ⟨"None", .inr ⟨rfl, rfl⟩, fun b9 Ha sa hb9 => ?_⟩, fun z => (by cases z)⟩)⟩
                walk_at "go"
                refine ⟨sz10 (by simp), r_new fun t2 Hb _ sb ht2 _ => ?_⟩
                refine ⟨_, _, rfl, Eqs.two (k := 2) (sb _ _ hb9) ht2 (Eqs.atom rfl 2) (Eqs.atom rfl 2), fun Hc sc => ⟨_, rfl, ?_⟩⟩
                walk_at "go"
                exact ⟨_, _, rfl, (b7.same S7a).same ((Sx.trans sa).trans (sb.trans sc)), (P7.same S7a).same ((Sx.trans sa).trans (sb.trans sc))⟩
              · exact rest6
          · walk_at "go"
            refine r_inL he6 eint hd6 D6 dint ?_
            walk_at "go"
            refine ite_d (fun z => absurd z hin) (fun _ => ?_)
            walk_at "go"
            refine .inl ⟨ea, er, n, m, rfl, he6, hrow, n5, m4, ?_⟩
            walk_at "go"
            refine ⟨sz10 (by simp), r_new fun ls H10 _ s10 hls _ => ?_⟩
            walk_at "go"
            refine r_cut (fun σ' H' => ∃ w7 w8 : Option V, σ' = [some (.ref p), some (.ref o), some (.int (n : Int)), some (.int (m : Int)), some (.ref dl), some (.ref ea), some (.ref mt), w7, w8, none, none, none, none, none, none] ∧ But p H6 H' ∧ Pot H' p q) ?_ ?_
            · walk_at "go"
              have Ba := B6.same s10
              refine ⟨o, n, m, ks, .ref ea, _, Ba, hth6.same s10, .inr (.inl ⟨rfl, fun _ => ⟨_, .inl ⟨ea, er, rfl, s10 _ _ he6, hrow, n5, m4, rfl⟩, fun b2 H11 s11 hb2 => ?_⟩, fun h => absurd h (by rw [show inB n ks (thOf (ea, er)) = _ from inb _ _, decide_eq_false hin]; decide)⟩)⟩
              walk_at "go"
              refine ⟨_, _, rfl, Eqs.two (k := 2) hb2 (s11 _ _ hls) (Eqs.atom rfl 2) (Eqs.atom rfl 2), fun H12 s12 => ⟨_, rfl, ?_⟩⟩
              have Sx := s11.trans s12
              walk_at "go"
              refine ⟨o, n, m, ks, .non, .at .non, Ba.same Sx, ⟨rfl, rfl⟩, .inr (.inl ⟨rfl, fun _ => ⟨"None", .inr ⟨rfl, rfl⟩, fun b9 Ha sa hb9 => ?_⟩, fun z => (by cases z)⟩)⟩
              walk_at "go"
              refine ⟨sz10 (by simp), r_new fun t2 Hb _ sb ht2 _ => ?_⟩
              refine ⟨_, _, rfl, Eqs.two (k := 2) (sb _ _ hb9) ht2 (Eqs.atom rfl 2) (Eqs.atom rfl 2), fun Hc sc => ⟨_, rfl, ?_⟩⟩
              walk_at "go"
              exact ⟨_, _, rfl, (Same.but s10).same ((Sx.trans sa).trans (sb.trans sc)), (P6.same s10).same ((Sx.trans sa).trans (sb.trans sc))⟩
            · exact rest6
end
end Kb
set_option Elab.async false
set_option linter.all false
set_option maxRecDepth 100000
set_option maxHeartbeats 4000000
namespace Kb
open PySem PySem.Spec PyProof.Rows L2
theorem Is.but {H H' : Hp} {p q : Addr} {x : V} {th : Th} (h : Is H x th) (b : But p H H') (P : Pot H p q) (P' : Pot H' p q) (ne : x ≠ .ref p) : Is H' x th := by
  cases th with
  | «at» v => exact h
  | sq l a ys =>
    cases l with
    | true =>
      obtain ⟨rfl, e, k⟩ := h
      exact ⟨rfl, b a _ e (fun z => ne (by rw [z])), fun y hy => (k y hy).but b P P'⟩
    | false =>
      obtain ⟨rfl, e, k⟩ := h
      exact ⟨rfl, b.tup P e, fun y hy => (k y hy).but b P P'⟩
/-- inputs that no draw touches -/
def InpP (p : Addr) (H : Hp) (x : V) (inp : Option (List Th)) : Prop := Inp H x inp ∧ x ≠ .ref p ∧ ∀ (a : Addr) (xs : List V), x = .ref a → H a = some (.lst xs) → ∀ y ∈ xs, y ≠ .ref p
theorem InpP.but {H H' : Hp} {p q : Addr} {x : V} {inp : Option (List Th)} (h : InpP p H x inp) (b : But p H H') (P : Pot H p q) (P' : Pot H' p q) : InpP p H' x inp := by
  obtain ⟨h1, h2, h3⟩ := h
  have same : ∀ (a : Addr) (xs : List V), x = .ref a → (H a = some (.lst xs) ∨ H a = some (.tup xs)) → (H' a = some (.lst xs) ∨ H' a = some (.tup xs)) := fun a xs e h => by
    have ne : a ≠ p := fun z => h2 (by rw [e, z])
    exact h.imp (fun h => b a _ h ne) (fun h => b a _ h ne)
  refine ⟨?_, h2, fun a xs e h => ?_⟩
  · cases inp with
    | none => exact h1.imp id fun ⟨a, xs, e, h, w⟩ => ⟨a, xs, e, same a xs e h, w⟩
    | some ths =>
      obtain ⟨a, xs, e, h, l1, l2, w⟩ := h1
      have ne : a ≠ p := fun z => h2 (by rw [e, z])
      exact ⟨a, xs, e, b a _ h ne, l1, l2, fun i y th hy ht => (w i y th hy ht).but b P P' (h3 a xs e h y (List.mem_of_getElem? hy))⟩
  · cases inp with
    | none =>
      rcases h1 with h1 | ⟨a', xs', e', h', _⟩
      · rw [e] at h1
        cases h1
      · rw [e] at e'
        injection e' with e'
        subst e'
        rcases same a xs' e h' with z | z
        · rw [z] at h
          cases h
          rcases h' with h' | h'
          · exact h3 a xs e h'
          · have ne : a ≠ p := fun z => h2 (by rw [e, z])
            rw [b a _ h' ne] at z
            cases z
        · rw [z] at h
          cases h
    | some ths =>
      obtain ⟨a', xs', e', h', _⟩ := h1
      rw [e] at e'
      injection e' with e'
      subst e'
      have ne : a ≠ p := fun z => h2 (by rw [e, z])
      rw [b a _ h' ne] at h
      cases h
      exact h3 a _ e h'
/-- what is due: a tuple that tells it -/
def DueP (H : Hp) (n m : Nat) (hx vx : V) (inp : Option (List Th)) (b : Addr) : Prop :=
  (∀ (what : Str) (at' : Nat), verdict hx vx inp = some (what, at') → H b = some (.tup [.str what, .int (at' : Int)])) ∧
  (verdict hx vx inp = none → hx = .int (n : Int) ∧ vx = .int (m : Int) ∧ ∃ (t : Addr) (js : Ks) (ths : List Th), inp = some ths ∧ H b = some (.tup [.str "good", .ref t]) ∧ H t = some (.tup (refs js)) ∧ Tups H js ∧ (∀ r ∈ js, isRow n m r.2) ∧ AscS (js.map (·.2)) ∧ ∀ r, r ∈ js.map (·.2) ↔ r ∈ ths.map Th.ys)
theorem DueP.but {H H' : Hp} {p q : Addr} {n m : Nat} {hx vx : V} {inp : Option (List Th)} {b : Addr} (h : DueP H n m hx vx inp b) (w : But p H H') (P : Pot H p q) : DueP H' n m hx vx inp b :=
  ⟨fun what at' e => w.tup P (h.1 what at' e), fun e => by
    obtain ⟨e1, e2, t, js, ths, e3, h1, h2, h3, r⟩ := h.2 e
    exact ⟨e1, e2, t, js, ths, e3, w.tup P h1, w.tup P h2, h3.but w P, r⟩⟩
theorem DueP.one {H : Hp} {n m : Nat} {hx vx : V} {inp : Option (List Th)} {b : Addr} {what : Str} {at' : Nat} (e : verdict hx vx inp = some (what, at')) (h : H b = some (.tup [.str what, .int (at' : Int)])) : DueP H n m hx vx inp b :=
  ⟨fun w a z => by rw [e] at z; cases z; exact h, fun z => by rw [e] at z; cases z⟩
theorem rep_flat' (n : Nat) (v : V) : (List.replicate n [v]).flatten = List.replicate n v := by
  induction n with
  | zero => rfl
  | succ n ih => rw [List.replicate_succ, List.flatten_cons, ih, List.replicate_succ]; rfl
theorem rep_refs (k : Nat) (r : Addr × List V) : (List.replicate k [V.ref r.1]).flatten = refs (List.replicate k r) := by
  induction k with
  | zero => rfl
  | succ k ih => rw [List.replicate_succ, List.flatten_cons, ih, List.replicate_succ]; rfl
local macro_rules | `(tactic| walk_at "beg") => `(tactic| simp only [cxK, cxKn, cxW, cxWn, cxP, cxPn, L2.start, List.map_cons, List.map_nil, List.length_cons, List.length_nil, Nat.reduceAdd, Nat.reduceSub, List.replicate_succ, List.replicate_zero, List.cons_append, List.nil_append])
local macro_rules | `(tactic| walk_at "go1") => `(tactic| with_reducible (first
  | refine r_seq ?_ | refine r_asg ?_ | refine r_if ?_ | refine r_ret ?_ | refine r_next ?_ | refine r_drop ?_ | refine r_gsub ?_
  | refine r_c ?_ | refine r_op ?_ | refine r_un ?_ | refine r_cons ?_ | refine r_nil ?_ | refine r_cb ?_ | refine r_call ?_ | refine r_test ?_ | refine r_B ?_ | refine r_bl ?_
  | refine r_and ?_ | refine r_or ?_ | refine r_not ?_ | refine r_ifE ?_ | refine r_andV ?_ | refine r_orV ?_ | refine r_notV ?_ | refine r_blV ?_ | refine r_T ?_ | refine r_F ?_ | refine r_nT ?_ | refine r_nF ?_
  | refine r_int ?_ | refine r_eqI ?_ | refine r_neI ?_
  | refine r_yes ?_ | refine r_lc ?_ | refine r_rng1 ?_ | refine r_rng2 ?_ | refine r_iList ?_ | refine r_iTup ?_ | refine r_for ?_
  | refine r_bm ?_ | refine r_sl ?_ | refine r_np ?_ | refine r_part ?_ | refine r_partI ?_ | refine r_lstRg ?_ | refine r_rg1 ?_ | refine r_rgI ?_ | refine r_isN ?_ | refine r_notN ?_ | refine r_notT ?_ | refine r_mkA ?_ | refine r_callS ?_ | refine r_sfld ?_ | refine r_fld ?_ | refine r_sortSet ?_ | refine r_mkO ?_ | refine r_enum ?_ | refine r_make ?_
  | refine r_I0 ?_ | refine r_U ?_ | refine r_tup ?_ | refine r_lst ?_))
local macro_rules | `(tactic| walk_at "go") => `(tactic| repeat (first | walk_at "go1" | with_reducible refine r_var (by with_unfolding_all rfl) ?_ | with_reducible refine r_lcT (by with_unfolding_all rfl) ?_ | with_reducible refine r_name (by (try simp only [wipe, List.set_cons_succ, List.set_cons_zero]) <;> with_unfolding_all rfl) ?_))
section
variable {P : Program} {w : World} {K : PySem.W.Frag} {mg : Str → Option Value} {base : Heap}
theorem sc_refusals : FnScope ["_law_pot_here", "_law_n", "_law_m", "_law_rows_here", "_law_houses", "_law_values", "_law_inputs", "_law_due", "_law_bad"] ["_law_pot_here", "_law_n", "_law_m", "_law_rows_here"] (defScope s_refusals) := ⟨rfl, rfl, rfl, by decide +kernel, rfl, by decide +kernel, by decide +kernel⟩
def spRefusals : Sp := fun vs H Q _ => ∃ (p q l : Addr) (n m : Nat) (rs : Ks), vs = [.ref p, .int (n : Int), .int (m : Int), .ref l] ∧ Pot H p q ∧ H l = some (.lst (refs rs)) ∧ Tups H rs ∧ (∀ r ∈ rs, isRow n m r.2) ∧ rs ≠ [] ∧ rs.length ≤ 2000 ∧ 2 ≤ n ∧ n ≤ 5 ∧ 1 ≤ m ∧ m ≤ 4 ∧ ∀ H', But p H H' → Pot H' p q → Q (.bl true) H'
theorem c_refusals (T : Txt K mg) : CalX P w K mg base CX0 7 "_law_refusals" spRefusals [] := by
  have c_draw : CalX P w K mg base CX0 1 "_law_draw" spDraw [] := c_draw T
  have c_bad_entry : CalX P w K mg base CX0 3 "_law_bad_entry" spBad [] := c_bad_entry T
  have c_refused : CalX P w K mg base CX0 6 "_law_refused" spRefused [] := c_refused T
  have c_same : CalX P w K mg base CX0 4 "_law_same" (spSame 3) [] := c_same T 3
  refine mkcal (ps := ["_law_pot_here", "_law_n", "_law_m", "_law_rows_here"]) T.u_refusals T.g_refusals sc_refusals (fun _ _ _ _ _ _ us hl => match us, hl with | [_, _, _, _], _ => rfl) (fun vs H Q E h => ?_) (fun f cdv A outer s H vs Q E hr h => ?_)
  · obtain ⟨_, _, _, _, _, _, rfl, _⟩ := h
    rfl
  · obtain ⟨p, q, l, n, m, rs, rfl, hP, hl, Trs, hrs, hne, hlen, n2, n5, m1, m4, k⟩ := h
    refine ⟨_, PSs.nox (pss_cons (ps_set (i := 4) sc_refusals.nd rfl (.inl rfl) (pv 1))
      (pss_cons (ps_set (i := 5) sc_refusals.nd rfl (.inl rfl) (pv 2))
      (pss_cons (ps_set (i := 6) sc_refusals.nd rfl (.inl rfl) (pe_op op_rep (pe_lst (pa_cons (pe_ix (k_ixl K) (pv 3) pe_int (fun _ _ => rfl)) pa_nil)) (pe_ix (k_ixl K) (pe_lst (pa_cons pe_int (pa_cons pe_int (pa_cons pe_int (pa_cons pe_int pa_nil))))) (pc0 c_draw hr (by decide) (pa_cons (pv 0) (pa_cons pe_int pa_nil))) (fun _ _ => rfl))))
      (C8.pss_cut (ps_set (i := 7) sc_refusals.nd rfl (.inl rfl) (pe_tup (pa_cons pe_str (pa_cons (pe_ifExp (pt_truth (pv 6) (by intro _; rfl)) (pe_tup (pa_cons (pe_ix (k_ixl K) (pv 3) pe_int (fun _ _ => rfl)) pa_nil)) (pe_tup pa_nil)) pa_nil))))
      (C8.pss_cut (ps_if (pt_truth (pc0 c_draw hr (by decide) (pa_cons (pv 0) (pa_cons pe_int pa_nil))) (by intro _; rfl)) (pss_cons (ps_set (i := 8) sc_refusals.nd rfl (.inl rfl) (pe_ix (k_ixt K) (pc0 c_bad_entry hr (by decide) (pa_cons (pv 0) (pa_cons (pe_ix (k_ixl K) (pv 3) (pc0 c_draw hr (by decide) (pa_cons (pv 0) (pa_cons (pe_callB (k_len K) (by rfl) T.n_len b_len (pa_cons (pv 3) pa_nil)) pa_nil))) (fun _ _ => rfl)) (pa_cons (pv 2) pa_nil)))) pe_int (fun _ _ => rfl)))
      (pss_cons (ps_set (i := 6) sc_refusals.nd rfl (.inl rfl) (pe_op op_cat (pe_op op_cat (pe_slice (k_sll K) (pv 6) po_none (po_some pe_int)) (pe_lst (pa_cons (pv 8) pa_nil))) (pe_lst (pa_cons (pe_ix (k_ixl K) (pv 3) (pe_un un_neg pe_int) (fun _ _ => rfl)) (pa_cons pe_non pa_nil)))))
      (pss_one (ps_set (i := 7) sc_refusals.nd rfl (.inl rfl) (pe_tup (pa_cons pe_str (pa_cons (pe_op op_sub (pe_callB (k_len K) (by rfl) T.n_len b_len (pa_cons (pv 6) pa_nil)) pe_int) pa_nil))))))) pss_nil)
      (C8.pss_cut (ps_if (pt_cmpR op_eq (pc0 c_draw hr (by decide) (pa_cons (pv 0) (pa_cons pe_int pa_nil))) pe_int (nomark _)) (pss_cons (ps_set (i := 6) sc_refusals.nd rfl (.inl rfl) (pe_ix (k_ixl K) (pe_lst (pa_cons pe_non (pa_cons pe_int (pa_cons pe_str (pa_cons (pe_op op_rep (pe_lst (pa_cons (pe_ix (k_ixl K) (pv 3) pe_int (fun _ _ => rfl)) pa_nil)) pe_int) (pa_cons (pe_op (k_cat K) (pe_callTy (k_tup K) (by rfl) T.n_tuple b_tuple (pa_cons (pv 6) pa_nil)) (pe_op (k_repT K) (pe_tup (pa_cons pe_non pa_nil)) pe_int)) pa_nil)))))) (pc0 c_draw hr (by decide) (pa_cons (pv 0) (pa_cons pe_int pa_nil))) (fun _ _ => rfl)))
      (pss_one (ps_set (i := 7) sc_refusals.nd rfl (.inl rfl) (pe_tup (pa_cons pe_str (pa_cons pe_int pa_nil)))))) pss_nil)
      (C8.pss_cut (ps_if (pt_cmpR op_eq (pc0 c_draw hr (by decide) (pa_cons (pv 0) (pa_cons pe_int pa_nil))) pe_int (nomark _)) (pss_cons (ps_set (i := 5) sc_refusals.nd rfl (.inl rfl) (pe_ix (k_ixl K) (pe_lst (pa_cons pe_int (pa_cons pe_int (pa_cons pe_non (pa_cons pe_bl (pa_cons pe_str (pa_cons (pe_un un_neg pe_int) pa_nil))))))) (pc0 c_draw hr (by decide) (pa_cons (pv 0) (pa_cons pe_int pa_nil))) (fun _ _ => rfl)))
      (pss_one (ps_set (i := 7) sc_refusals.nd rfl (.inl rfl) (pe_tup (pa_cons pe_str (pa_cons pe_int pa_nil)))))) pss_nil)
      (C8.pss_cut (ps_if (pt_cmpR op_eq (pc0 c_draw hr (by decide) (pa_cons (pv 0) (pa_cons pe_int pa_nil))) pe_int (nomark _)) (pss_cons (ps_set (i := 4) sc_refusals.nd rfl (.inl rfl) (pe_ix (k_ixl K) (pe_lst (pa_cons pe_int (pa_cons pe_int (pa_cons pe_non (pa_cons pe_bl (pa_cons pe_str (pa_cons pe_int pa_nil))))))) (pc0 c_draw hr (by decide) (pa_cons (pv 0) (pa_cons pe_int pa_nil))) (fun _ _ => rfl)))
      (pss_one (ps_set (i := 7) sc_refusals.nd rfl (.inl rfl) (pe_tup (pa_cons pe_str (pa_cons pe_int pa_nil)))))) pss_nil)
      (pss_one (ps_ret (pc0 c_same hr (by decide) (pa_cons (pc0 c_refused hr (by decide) (pa_cons (pv 4) (pa_cons (pv 5) (pa_cons (pv 6) pa_nil)))) (pa_cons (pv 7) pa_nil))))))))))))), ?_⟩
    have hlp : l ≠ p := refs_ne hP hl
    have lr := refs_len rs
    have l0 : 0 < rs.length := List.length_pos_iff.mpr hne
    have w25 : wholeB (.int (n : Int)) (some 2) (some 5) = true := whole_hi (lo := 2) (hi := 5) n2 n5
    have w14 : wholeB (.int (m : Int)) (some 1) (some 4) = true := whole_hi (lo := 1) (hi := 4) m1 m4
    walk_at "beg"
    walk_at "go"
    obtain ⟨r0, hr0, hr0m⟩ : ∃ r0, rs[0]? = some r0 ∧ r0 ∈ rs := ⟨rs[0], List.getElem?_eq_getElem l0, List.getElem_mem l0⟩
    have ix0 : atI (refs rs) 0 = some (.ref r0.1) := by
      show atI (refs rs) ((0 : Nat) : Int) = _
      exact atI_nat (by unfold refs; rw [List.getElem?_map, hr0]; rfl)
    have row0 := hrs r0 hr0m
    have ptup : ∀ {H' : Hp}, Pot H' p q → ∀ {a' : Addr} {zs : List V}, H' a' = some (.tup zs) → V.ref a' ≠ .ref p := fun P' a' zs h e => by
      injection e with e
      obtain ⟨ws, hw⟩ := P'.there
      rw [e, hw] at h
      cases h
    refine r_ixL (SqL.of hl) ix0 ?_
    walk_at "go"
    refine ⟨sz10 (by simp), r_new fun a1 H1 na1 s1 ha1 _ => ?_⟩
    walk_at "go"
    refine ⟨sz10 (by simp), r_new fun a2 H2 na2 s2 ha2 _ => ?_⟩
    walk_at "go"
    have P2 := (hP.same s1).same s2
    refine ⟨p, q, 4, rfl, P2, by decide, by decide, fun u H3 u0 u1 b3 P3 => ?_⟩
    have na1p : a1 ≠ p := (hP.ne na1).1.symm
    have na2p : a2 ≠ p := ((hP.same s1).ne na2).1.symm
    obtain ⟨x, hx, mx⟩ := pick (xs := [V.int 256, .int 3, .int 0, .int 1]) u0 u1
    refine r_ixL (SqL.of (b3 _ _ ha2 na2p)) hx ?_
    have hkn : ∃ kn : Nat, kn ≤ 256 ∧ x = .int (kn : Int) := by
      simp only [List.mem_cons, List.not_mem_nil, or_false] at mx
      rcases mx with rfl | rfl | rfl | rfl
      · exact ⟨256, by decide, rfl⟩
      · exact ⟨3, by decide, rfl⟩
      · exact ⟨0, by decide, rfl⟩
      · exact ⟨1, by decide, rfl⟩
    obtain ⟨kn, hk, rfl⟩ := hkn
    have b03 : But p H H3 := (Same.but (s1.trans s2)).trans b3
    refine ⟨a1, (kn : Int), [.ref r0.1], rfl, rfl, b3 _ _ (s2 _ _ ha1) na1p, by omega, by omega, by rw [sizeLine_eq, Int.toNat_natCast]; simp; omega, fun il nil => ?_⟩
    rw [Int.toNat_natCast, rep_refs]
    have s4 : L2.Same H3 (L2.upd H3 il (.lst (refs (List.replicate kn r0)))) := Same.new nil
    have hil : L2.upd H3 il (.lst (refs (List.replicate kn r0))) il = some (.lst (refs (List.replicate kn r0))) := upd_same
    have ilp : il ≠ p := (P3.ne nil).1.symm
    generalize L2.upd H3 il (.lst (refs (List.replicate kn r0))) = H4 at s4 hil
    have b04 := b03.same s4
    have P4 := P3.same s4
    have T4 := Trs.but b04 hP
    have hl4 := b04 _ _ hl hlp
    have repm : ∀ r ∈ List.replicate kn r0, r = r0 := fun r hr => (List.mem_replicate.mp hr).2
    walk_at "go"
    refine r_cut (fun σ' H' => ∃ (d : Addr), σ' = [some (.ref p), some (.int (n : Int)), some (.int (m : Int)), some (.ref l), some (.int (n : Int)), some (.int (m : Int)), some (.ref il), some (.ref d), none] ∧ L2.Same H4 H' ∧ DueP H' n m (.int (n : Int)) (.int (m : Int)) (some ((List.replicate kn r0).map thOf)) d) ?_ ?_
    · walk_at "go"
      refine ⟨_, tru_lst hil, ?_⟩
      have vn : verdict (.int (n : Int)) (.int (m : Int)) (some ((List.replicate kn r0).map thOf)) = none := verdict_rows n2 n5 m1 m4 fun r hr => by rw [repm r hr]; exact row0
      cases kn with
      | zero =>
        rw [show (!(refs (List.replicate 0 r0)).isEmpty) = false from rfl]
        walk_at "go"
        refine ⟨sz10 (by simp), r_new fun t H5 _ s5 ht _ => ?_⟩
        walk_at "go"
        refine ⟨sz10 (by simp), r_new fun d H6 _ s6 hd _ => ?_⟩
        walk_at "go"
        exact ⟨d, rfl, s5.trans s6, fun what at' e => (by rw [vn] at e; cases e), fun _ => ⟨rfl, rfl, t, [], _, rfl, hd, s6 _ _ ht, fun r hr => (by cases hr), fun r hr => (by cases hr), .nil, fun r => by rw [ys_th]; rfl⟩⟩
      | succ j =>
        rw [show (!(refs (List.replicate (j + 1) r0)).isEmpty) = true from rfl]
        walk_at "go"
        refine r_ixL (SqL.of hl4) ix0 ?_
        walk_at "go"
        refine ⟨sz10 (by simp), r_new fun t H5 _ s5 ht _ => ?_⟩
        walk_at "go"
        refine ⟨sz10 (by simp), r_new fun d H6 _ s6 hd _ => ?_⟩
        walk_at "go"
        refine ⟨d, rfl, s5.trans s6, fun what at' e => (by rw [vn] at e; cases e), fun _ => ⟨rfl, rfl, t, [r0], _, rfl, hd, s6 _ _ ht, fun r hr => ?_, fun r hr => ?_, List.pairwise_singleton _ _, fun r => ?_⟩⟩
        · rw [List.mem_singleton.mp hr]
          exact (s5.trans s6) _ _ (T4 r0 hr0m)
        · rw [List.mem_singleton.mp hr]
          exact row0
        · rw [ys_th, List.map_replicate]
          simp
    · rintro σ' H5 ⟨d, rfl, s5, D5⟩
      have P5 := P4.same s5
      have b05 := b04.same s5
      have hil5 := s5 _ _ hil
      have T5 := T4.same s5
      have hl5 := s5 _ _ hl4
      have rowsR : ∀ r ∈ List.replicate kn r0, isRow n m r.2 := fun r hr => by rw [repm r hr]; exact row0
      have TR5 : Tups H5 (List.replicate kn r0) := fun r hr => by rw [repm r hr]; exact T5 r0 hr0m
      walk_at "go"
      refine r_cut (fun σ' H' => ∃ (il d : Addr) (w8 : Option V) (xs : List V) (ths : List Th), σ' = [some (.ref p), some (.int (n : Int)), some (.int (m : Int)), some (.ref l), some (.int (n : Int)), some (.int (m : Int)), some (.ref il), some (.ref d), w8] ∧ But p H H' ∧ Pot H' p q ∧ H' il = some (.lst xs) ∧ il ≠ p ∧ xs.length ≤ 256 ∧ InpP p H' (.ref il) (some ths) ∧ DueP H' n m (.int (n : Int)) (.int (m : Int)) (some ths) d) ?_ ?_
      · walk_at "go"
        refine ⟨p, q, 2, rfl, P5, by decide, by decide, fun v H6 v0 v1 b6 P6 => ?_⟩
        have hil6 := b6 _ _ hil5 ilp
        have TR6 := TR5.but b6 P5
        have b06 := b05.trans b6
        refine ⟨_, rfl, ?_⟩
        cases hv : (v != 0) with
        | false =>
          walk_at "go"
          refine ⟨il, d, none, _, _, rfl, b06, P6, hil6, ilp, by rw [refs_len, List.length_replicate]; exact hk, ⟨inp_rows hil6 TR6 (fun r hr => (rowsR r hr).ints) (by rw [List.length_replicate]; exact hk), fun e => ilp (by injection e), fun a xs e h y hy => ?_⟩, D5.but b6 P5⟩
          injection e with e
          subst e
          rw [hil6] at h
          cases h
          obtain ⟨r, hr', rfl⟩ := List.mem_map.mp hy
          exact ptup P6 (TR6 r hr')
        | true =>
          have hl6 := b6 _ _ hl5 hlp
          have T6 := T5.but b6 P5
          walk_at "go"
          refine r_len (.inl (SqL.of hl6)) ?_
          refine ⟨p, q, _, rfl, P6, by omega, by omega, fun v' H7 v0' v1' b7 P7 => ?_⟩
          obtain ⟨y, hy, my⟩ := pick (xs := refs rs) v0' v1'
          obtain ⟨r, hrm, rfl⟩ := List.mem_map.mp my
          have hl7 := b7 _ _ hl6 hlp
          have T7 := T6.but b7 P6
          refine r_ixL (SqL.of hl7) hy ?_
          walk_at "go"
          refine ⟨p, q, r.1, n, m, r.2, rfl, P7, T7 r hrm, hrs r hrm, by omega, by omega, fun b x th what house H8 b8 P8 hb hx hbad hh xne => ?_⟩
          walk_at "go"
          refine r_ixT (v := x) (SqT.of hb) (show atI [x, .str what, .int (house : Int)] ((0 : Nat) : Int) = _ from atI_nat rfl) ?_
          have b68 := b7.trans b8
          have hil8 := b68 _ _ hil6 ilp
          have hl8 := b8 _ _ hl7 hlp
          have T8 := T7.but b8 P7
          have TR8 := (TR6.but b7 P6).but b8 P7
          walk_at "go"
          refine ⟨_, rfl, ?_⟩
          refine r_slL (SqL.of hil8) ?_
          have ec : cutV (refs (List.replicate kn r0)) none (some 200) = (refs (List.replicate kn r0)).take 200 := cut_to _ 200
          rw [ec]
          have etake : (refs (List.replicate kn r0)).take 200 = refs (List.replicate (min 200 kn) r0) := by
            unfold refs
            rw [← List.map_take, List.take_replicate]
          rw [etake]
          refine r_new fun c1 J1 _ z1 hc1 _ => ?_
          walk_at "go"
          refine ⟨sz10 (by simp), r_new fun c2 J2 _ z2 hc2 _ => ?_⟩
          refine r_catN (z2 _ _ hc1) hc2 (by rw [refs_len, List.length_replicate]; simp; omega) fun c3 J3 _ z3 hc3 => ?_
          walk_at "go"
          have Z3 := (z1.trans z2).trans z3
          obtain ⟨rl, hrl, hrlm⟩ : ∃ rl, atI (refs rs) (-1) = some (.ref rl.1) ∧ rl ∈ rs := by
            refine ⟨rs[rs.length - 1]'(by omega), ?_, List.getElem_mem _⟩
            unfold atI ixN
            rw [if_neg (by omega), if_pos (by rw [refs_len]; omega)]
            have e : ((-1 : Int) + ((refs rs).length : Int)).toNat = rs.length - 1 := by rw [refs_len]; omega
            rw [e]
            show (refs rs)[rs.length - 1]? = _
            unfold refs
            rw [List.getElem?_map, List.getElem?_eq_getElem (by omega)]
            rfl
          refine r_ixL (SqL.of (Z3 _ _ hl8)) hrl ?_
          walk_at "go"
          refine ⟨sz10 (by simp), r_new fun c4 J4 _ z4 hc4 _ => ?_⟩
          refine r_catN (z4 _ _ hc3) hc4 (by rw [List.length_append, refs_len, List.length_replicate]; simp; omega) fun c5 J5 nc5 z5 hc5 => ?_
          walk_at "go"
          have Z5 := (Z3.trans z4).trans z5
          refine r_len (.inl (SqL.of hc5)) ?_
          walk_at "go"
          refine ⟨sz10 (by simp), r_new fun dd J6 _ z6 hdd _ => ?_⟩
          have Z6 := Z5.trans z6
          have PJ := P8.same Z6
          have xj := hx.same Z6
          have TRJ := TR8.same Z6
          have TJ := T8.same Z6
          walk_at "go"
          generalize hkm : min 200 kn = km at *
          have km2 : km ≤ 200 := by omega
          have c5p : c5 ≠ p := (((P8.same Z3).same z4).ne nc5).1.symm
          refine ⟨c5, dd, _, _, (List.replicate km r0).map thOf ++ [th] ++ [thOf rl, .at .non], rfl, (b06.trans b68).same Z6, PJ, z6 _ _ hc5, c5p, by simp [refs_len]; omega, ⟨⟨c5, _, rfl, z6 _ _ hc5, by simp [refs_len]; omega, by simp [refs_len], fun i y th' h1 h2 => ?_⟩, fun e => c5p (by injection e), fun a zs e h y hy => ?_⟩, ?_⟩
          · have lr1 : (refs (List.replicate km r0)).length = km := by rw [refs_len, List.length_replicate]
            have lt1 : ((List.replicate km r0).map thOf).length = km := by rw [List.length_map, List.length_replicate]
            rw [List.append_assoc] at h1 h2
            rcases Nat.lt_or_ge i km with lt | ge
            · rw [List.getElem?_append_left (by rw [lr1]; exact lt)] at h1
              rw [List.getElem?_append_left (by rw [lt1]; exact lt)] at h2
              obtain ⟨r', hr1, rfl, hrm'⟩ := refs_get h1
              rw [List.getElem?_map, hr1] at h2
              cases h2
              have e := (List.mem_replicate.mp hrm').2
              rw [e]
              exact is_th (TJ r0 hr0m) row0.ints
            · rw [List.getElem?_append_right (by rw [lr1]; exact ge), lr1] at h1
              rw [List.getElem?_append_right (by rw [lt1]; exact ge), lt1] at h2
              match hj : i - km, h1, h2 with
              | 0, h1, h2 =>
                cases h1
                cases h2
                exact xj
              | 1, h1, h2 =>
                cases h1
                cases h2
                exact is_th (TJ rl hrlm) (hrs rl hrlm).ints
              | 2, h1, h2 =>
                cases h1
                cases h2
                exact ⟨rfl, rfl⟩
              | j + 3, h1, h2 => simp at h1
          · injection e with e
            subst e
            rw [z6 _ _ hc5] at h
            cases h
            rcases List.mem_append.mp hy with hy | hy
            · rcases List.mem_append.mp hy with hy | hy
              · obtain ⟨r', hr', rfl⟩ := List.mem_map.mp hy
                rw [(List.mem_replicate.mp hr').2]
                exact ptup PJ (TJ r0 hr0m)
              · rw [List.mem_singleton.mp hy]
                exact xne
            · simp only [List.mem_cons, List.not_mem_nil, or_false] at hy
              rcases hy with rfl | rfl
              · exact ptup PJ (TJ rl hrlm)
              · intro z
                cases z
          · have lt1 : ((List.replicate km r0).map thOf).length = km := by rw [List.length_map, List.length_replicate]
            have eb : badIn n m ((List.replicate km r0).map thOf ++ [th] ++ [thOf rl, .at .non]) = some km := by
              refine badAt_some ⟨th, ?_, by rw [hbad]; rfl⟩ fun j th' hj h => ?_
              · rw [List.append_assoc, List.getElem?_append_right (by rw [lt1]; exact Nat.le_refl _), lt1, Nat.sub_self]
                rfl
              · rw [List.append_assoc, List.getElem?_append_left (by rw [lt1]; exact hj)] at h
                have e := List.mem_of_getElem? h
                obtain ⟨r', hr', rfl⟩ := List.mem_map.mp e
                rw [bad_row (by rw [(List.mem_replicate.mp hr').2]; exact row0)]
                rfl
            refine DueP.one (what := "input") (at' := km) (by rw [verdict_in w25 w14, eb]; rfl) ?_
            have el : (((refs (List.replicate km r0) ++ [x] ++ [V.ref rl.1, .non]).length : Int) - 3) = (km : Int) := by
              rw [List.length_append, List.length_append, refs_len, List.length_replicate]
              simp only [List.length_cons, List.length_nil]
              omega
            rw [← el]
            exact hdd
      · rintro σ' H6 ⟨il, d, w8, xs, ths, rfl, b06, P6, hil6, ilp, lxs, I6, D6⟩
        have hl6 := b06 _ _ hl hlp
        have T6 := Trs.but b06 hP
        walk_at "go"
        refine r_cut (fun σ' H' => ∃ (ix : V) (d : Addr) (inp : Option (List Th)), σ' = [some (.ref p), some (.int (n : Int)), some (.int (m : Int)), some (.ref l), some (.int (n : Int)), some (.int (m : Int)), some ix, some (.ref d), w8] ∧ But p H H' ∧ Pot H' p q ∧ InpP p H' ix inp ∧ DueP H' n m (.int (n : Int)) (.int (m : Int)) inp d) ?_ ?_
        · walk_at "go"
          refine ⟨p, q, 3, rfl, P6, by decide, by decide, fun v H7 v0 v1 b7 P7 => ?_⟩
          walk_at "go"
          refine ite_d (fun _ => ?_) (fun _ => ?_)
          · have hl7 := b7 _ _ hl6 hlp
            have hil7 := b7 _ _ hil6 ilp
            walk_at "go"
            refine r_ixL (SqL.of hl7) ix0 ?_
            walk_at "go"
            refine ⟨sz10 (by simp), r_new fun c1 J1 nc1 z1 hc1 _ => ?_⟩
            walk_at "go"
            refine ⟨c1, 257, [.ref r0.1], rfl, rfl, hc1, by decide, by decide, by rw [sizeLine_eq]; simp, fun c2 nc2 => ?_⟩
            rw [show (257 : Int).toNat = 257 from rfl, rep_refs]
            have z2 : L2.Same J1 (L2.upd J1 c2 (.lst (refs (List.replicate 257 r0)))) := Same.new nc2
            have hc2 : L2.upd J1 c2 (.lst (refs (List.replicate 257 r0))) c2 = some (.lst (refs (List.replicate 257 r0))) := upd_same
            have c2p : c2 ≠ p := ((P7.same z1).ne nc2).1.symm
            generalize L2.upd J1 c2 (.lst (refs (List.replicate 257 r0))) = J2 at z2 hc2
            walk_at "go"
            have Z2 := z1.trans z2
            refine r_tupL (SqL.of (Z2 _ _ hil7)) fun c3 J3 _ z3 hc3 _ => ?_
            walk_at "go"
            refine ⟨sz10 (by simp), r_new fun c4 J4 _ z4 hc4 _ => ?_⟩
            walk_at "go"
            refine ⟨c4, 257, [.non], rfl, rfl, SqT.of hc4, by simp, by decide, by decide, by decide, fun c5 nc5 => ?_⟩
            rw [show (257 : Int).toNat = 257 from rfl, rep_flat']
            have z5 : L2.Same J4 (L2.upd J4 c5 (.tup (List.replicate 257 V.non))) := Same.new nc5
            have hc5 : L2.upd J4 c5 (.tup (List.replicate 257 V.non)) c5 = some (.tup (List.replicate 257 V.non)) := upd_same
            generalize L2.upd J4 c5 (.tup (List.replicate 257 V.non)) = J5 at z5 hc5
            refine r_catA (z5 _ _ (z4 _ _ hc3)) hc5 (by rw [List.length_replicate]; omega) fun c6 J6 z6 hc6 => ?_
            walk_at "go"
            refine ⟨sz10 (by simp), r_new fun c7 J7 nc7 z7 hc7 _ => ?_⟩
            walk_at "go"
            have Z26 := ((z3.trans z4).trans z5).trans z6
            have PJ6 := (P7.same Z2).same Z26
            have PJ7 := PJ6.same z7
            have c7p : c7 ≠ p := (PJ6.ne nc7).1.symm
            refine ⟨p, q, 5, rfl, PJ7, by decide, by decide, fun v' J8 v0' v1' b8 P8 => ?_⟩
            obtain ⟨y, hy, my⟩ := pick (xs := [V.non, .int 5, .str "00", .ref c2, .ref c6]) v0' v1'
            refine r_ixL (SqL.of (b8 _ _ hc7 c7p)) hy ?_
            walk_at "go"
            refine ⟨sz10 (by simp), r_new fun dd J9 _ z9 hdd _ => ?_⟩
            walk_at "go"
            have b79 : But p H7 J9 := ((Same.but ((Z2.trans Z26).trans z7)).trans b8).same z9
            have P9 := P8.same z9
            have hc2' : J9 c2 = some (.lst (refs (List.replicate 257 r0))) := z9 _ _ (b8 _ _ (z7 _ _ (Z26 _ _ hc2)) c2p)
            have hc6' : J9 c6 = some (.tup (xs ++ List.replicate 257 V.non)) := z9 _ _ (b8.tup PJ7 (z7 _ _ hc6))
            have T9 : Tups J9 rs := (T6.but b7 P6).but b79 P7
            have at_ : ∀ v : V, atomV v = true → InpP p J9 v none := fun v hv => ⟨.inl hv, fun e => (by rw [e] at hv; cases hv), fun a zs e _ => (by rw [e] at hv; cases hv)⟩
            refine ⟨y, dd, none, rfl, (b06.trans b7).trans b79, P9, ?_, DueP.one (what := "many") (at' := 0) (verdict_many w25 w14) hdd⟩
            simp only [List.mem_cons, List.not_mem_nil, or_false] at my
            rcases my with rfl | rfl | rfl | rfl | rfl
            · exact at_ _ rfl
            · exact at_ _ rfl
            · exact at_ _ rfl
            · refine ⟨.inr ⟨c2, _, rfl, .inl hc2', by rw [refs_len, List.length_replicate]; decide, by rw [refs_len, List.length_replicate]; decide⟩, fun e => c2p (by injection e), fun a zs e h y hy => ?_⟩
              injection e with e
              subst e
              rw [hc2'] at h
              cases h
              obtain ⟨r', hr', rfl⟩ := List.mem_map.mp hy
              rw [(List.mem_replicate.mp hr').2]
              exact ptup P9 (T9 r0 hr0m)
            · refine ⟨.inr ⟨c6, _, rfl, .inr hc6', by rw [List.length_append, List.length_replicate]; omega, by rw [List.length_append, List.length_replicate]; omega⟩, ptup P9 hc6', fun a zs e h y hy => ?_⟩
              injection e with e
              subst e
              rw [hc6'] at h
              cases h
          · walk_at "go"
            exact ⟨_, d, _, rfl, b06.trans b7, P7, I6.but b7 P6 P7, D6.but b7 P6⟩
        · rintro σ' H7 ⟨ix, d, inp, rfl, b07, P7, I7, D7⟩
          walk_at "go"
          refine r_cut (fun σ' H' => ∃ (vx : V) (d : Addr), σ' = [some (.ref p), some (.int (n : Int)), some (.int (m : Int)), some (.ref l), some (.int (n : Int)), some vx, some ix, some (.ref d), w8] ∧ But p H H' ∧ Pot H' p q ∧ InpP p H' ix inp ∧ atomV vx = true ∧ DueP H' n m (.int (n : Int)) vx inp d) ?_ ?_
          · walk_at "go"
            refine ⟨p, q, 3, rfl, P7, by decide, by decide, fun v H8 v0 v1 b8 P8 => ?_⟩
            walk_at "go"
            refine ite_d (fun _ => ?_) (fun _ => ?_)
            · walk_at "go"
              refine ⟨sz10 (by simp), r_new fun c7 J7 nc7 z7 hc7 _ => ?_⟩
              walk_at "go"
              have PJ7 := P8.same z7
              have c7p : c7 ≠ p := (P8.ne nc7).1.symm
              refine ⟨p, q, 6, rfl, PJ7, by decide, by decide, fun v' J8 v0' v1' b8' P8' => ?_⟩
              obtain ⟨y, hy, my⟩ := pick (xs := [V.int 0, .int 5, .non, .bl true, .str "2", .int (-1)]) v0' v1'
              refine r_ixL (SqL.of (b8' _ _ hc7 c7p)) hy ?_
              walk_at "go"
              refine ⟨sz10 (by simp), r_new fun dd J9 _ z9 hdd _ => ?_⟩
              walk_at "go"
              have b89 : But p H8 J9 := ((Same.but z7).trans b8').same z9
              have P9 := P8'.same z9
              have good : atomV y = true ∧ wholeB y (some 1) (some 4) = false := by
                simp only [List.mem_cons, List.not_mem_nil, or_false] at my
                rcases my with rfl | rfl | rfl | rfl | rfl | rfl <;> exact ⟨rfl, rfl⟩
              exact ⟨y, dd, rfl, (b07.trans b8).trans b89, P9, (I7.but b8 P7 P8).but b89 P8 P9, good.1, DueP.one (what := "values") (at' := 0) (verdict_m w25 good.2) hdd⟩
            · walk_at "go"
              exact ⟨_, d, rfl, b07.trans b8, P8, I7.but b8 P7 P8, rfl, D7.but b8 P7⟩
          · rintro σ' H8 ⟨vx, d, rfl, b08, P8, I8, av, D8⟩
            walk_at "go"
            refine r_cut (fun σ' H' => ∃ (hx : V) (d : Addr), σ' = [some (.ref p), some (.int (n : Int)), some (.int (m : Int)), some (.ref l), some hx, some vx, some ix, some (.ref d), w8] ∧ But p H H' ∧ Pot H' p q ∧ InpP p H' ix inp ∧ atomV hx = true ∧ DueP H' n m hx vx inp d) ?_ ?_
            · walk_at "go"
              refine ⟨p, q, 3, rfl, P8, by decide, by decide, fun v H9 v0 v1 b9 P9 => ?_⟩
              walk_at "go"
              refine ite_d (fun _ => ?_) (fun _ => ?_)
              · walk_at "go"
                refine ⟨sz10 (by simp), r_new fun c7 J7 nc7 z7 hc7 _ => ?_⟩
                walk_at "go"
                have PJ7 := P9.same z7
                have c7p : c7 ≠ p := (P9.ne nc7).1.symm
                refine ⟨p, q, 6, rfl, PJ7, by decide, by decide, fun v' J8 v0' v1' b8' P8' => ?_⟩
                obtain ⟨y, hy, my⟩ := pick (xs := [V.int 1, .int 6, .non, .bl true, .str "3", .int 0]) v0' v1'
                refine r_ixL (SqL.of (b8' _ _ hc7 c7p)) hy ?_
                walk_at "go"
                refine ⟨sz10 (by simp), r_new fun dd J9 _ z9 hdd _ => ?_⟩
                walk_at "go"
                have b89 : But p H9 J9 := ((Same.but z7).trans b8').same z9
                have P9' := P8'.same z9
                have good : atomV y = true ∧ wholeB y (some 2) (some 5) = false := by
                  simp only [List.mem_cons, List.not_mem_nil, or_false] at my
                  rcases my with rfl | rfl | rfl | rfl | rfl | rfl <;> exact ⟨rfl, rfl⟩
                exact ⟨y, dd, rfl, (b08.trans b9).trans b89, P9', (I8.but b9 P8 P9).but b89 P9 P9', good.1, DueP.one (what := "houses") (at' := 0) (verdict_n good.2) hdd⟩
              · walk_at "go"
                exact ⟨_, d, rfl, b08.trans b9, P9, I8.but b9 P8 P9, rfl, D8.but b9 P8⟩
            · rintro σ' H9 ⟨hx, d, rfl, b09, P9, I9, ah, D9⟩
              walk_at "go"
              refine ⟨hx, vx, ix, inp, rfl, .inl ah, .inl av, I9.1, fun what at' hv b H10 s10 hb => ?_, fun n' m' ths b T1 ks H10 e1 e2 e3 s10 hb R hm hg hvn => ?_⟩
              · walk_at "go"
                refine ⟨_, _, rfl, Eqs.two (k := 2) hb (s10 _ _ (D9.1 what at' hv)) (Eqs.atom rfl 2) (Eqs.atom rfl 2), fun H11 s11 => ?_⟩
                exact k H11 (b09.same (s10.trans s11)) (P9.same (s10.trans s11))
              · walk_at "go"
                obtain ⟨f1, f2, t, js, ths', f3, h1, h2, h3, r, h5, h6⟩ := D9.2 hvn
                rw [e1] at f1
                rw [e2] at f2
                injection f1 with f1
                injection f2 with f2
                have f1 : n' = n := Int.ofNat_inj.mp f1
                have f2 : m' = m := Int.ofNat_inj.mp f2
                subst f1 f2
                rw [e3] at f3
                injection f3 with f3
                subst f3
                have S : ∀ r, r ∈ ks.map (·.2) ↔ r ∈ js.map (·.2) := fun r => by rw [hm, h6]
                have em : ks.map (·.2) = js.map (·.2) := asc_one R.asc h5 S
                refine ⟨_, _, rfl, Eqs.two (k := 2) hb (s10 _ _ h1) (Eqs.atom rfl 2) (Eqs.rows (k := 0) R.tup (s10 _ _ h2) R.tups (h3.same s10) em (fun r hr => ⟨(R.rows r hr).ints, by have := (R.rows r hr).1; omega⟩) (by have := R.len; omega)), fun H11 s11 => ?_⟩
                exact k H11 (b09.same (s10.trans s11)) (P9.same (s10.trans s11))
end
end Kb
set_option Elab.async false
set_option linter.all false
set_option maxRecDepth 100000
set_option maxHeartbeats 4000000
namespace Kb
open PySem PySem.Spec PyProof.Rows L2
local macro_rules | `(tactic| walk_at "beg") => `(tactic| simp only [cxK, cxKn, cxW, cxWn, cxP, cxPn, L2.start, List.map_cons, List.map_nil, List.length_cons, List.length_nil, Nat.reduceAdd, Nat.reduceSub, List.replicate_succ, List.replicate_zero, List.cons_append, List.nil_append])
local macro_rules | `(tactic| walk_at "go1") => `(tactic| with_reducible (first
  | refine r_seq ?_ | refine r_asg ?_ | refine r_if ?_ | refine r_ret ?_ | refine r_next ?_ | refine r_drop ?_ | refine r_gsub ?_
  | refine r_c ?_ | refine r_op ?_ | refine r_un ?_ | refine r_cons ?_ | refine r_nil ?_ | refine r_cb ?_ | refine r_call ?_ | refine r_test ?_ | refine r_B ?_ | refine r_bl ?_
  | refine r_and ?_ | refine r_or ?_ | refine r_not ?_ | refine r_ifE ?_ | refine r_andV ?_ | refine r_orV ?_ | refine r_notV ?_ | refine r_blV ?_ | refine r_T ?_ | refine r_F ?_ | refine r_nT ?_ | refine r_nF ?_
  | refine r_int ?_ | refine r_eqI ?_ | refine r_neI ?_
  | refine r_yes ?_ | refine r_lc ?_ | refine r_rng1 ?_ | refine r_rng2 ?_ | refine r_iList ?_ | refine r_iTup ?_ | refine r_for ?_
  | refine r_bm ?_ | refine r_sl ?_ | refine r_np ?_ | refine r_part ?_ | refine r_partI ?_ | refine r_lstRg ?_ | refine r_rg1 ?_ | refine r_rgI ?_ | refine r_isN ?_ | refine r_notN ?_ | refine r_notT ?_ | refine r_mkA ?_ | refine r_callS ?_ | refine r_sfld ?_ | refine r_fld ?_ | refine r_sortSet ?_ | refine r_mkO ?_ | refine r_enum ?_ | refine r_make ?_
  | refine r_I0 ?_ | refine r_U ?_ | refine r_tup ?_ | refine r_lst ?_))
local macro_rules | `(tactic| walk_at "go") => `(tactic| repeat (first | walk_at "go1" | with_reducible refine r_var (by with_unfolding_all rfl) ?_ | with_reducible refine r_lcT (by with_unfolding_all rfl) ?_ | with_reducible refine r_name (by (try simp only [wipe, List.set_cons_succ, List.set_cons_zero]) <;> with_unfolding_all rfl) ?_))
section
variable {P : Program} {w : World} {K : PySem.W.Frag} {mg : Str → Option Value} {base : Heap}
/-- the last of a list -/
theorem ix_last {ks : Ks} {f : Addr × List V} : atI (refs (ks ++ [f])) (-1) = some (.ref f.1) := by
  have l : (refs (ks ++ [f])).length = ks.length + 1 := by rw [refs_len, List.length_append]; rfl
  unfold atI ixN
  rw [if_neg (by omega), if_pos (by omega)]
  have e : ((-1 : Int) + ((refs (ks ++ [f])).length : Int)).toNat = ks.length := by omega
  rw [e]
  show (refs (ks ++ [f]))[ks.length]? = _
  unfold refs
  rw [List.map_append, List.getElem?_append_right (by rw [List.length_map]; exact Nat.le_refl _), List.length_map, Nat.sub_self]
  rfl
/-- before a cut, after a cut -/
theorem pair_cut {R : (Addr × List V) → (Addr × List V) → Prop} {js : Ks} {i : Nat} {p q : Addr × List V} (h : js.Pairwise R) (hp : js[i]? = some p) (hq : q ∈ js.take i) : R q p := by
  obtain ⟨lt, e⟩ := List.getElem?_eq_some_iff.mp hp
  have hd : js.drop i = p :: js.drop (i + 1) := by rw [← e]; exact List.drop_eq_getElem_cons lt
  have h' := h
  rw [← List.take_append_drop i js, hd] at h'
  exact (List.pairwise_append.mp h').2.2 q hq p (List.mem_cons_self ..)
theorem take_next {js : Ks} {i : Nat} {p : Addr × List V} (hp : js[i]? = some p) : js.take (i + 1) = js.take i ++ [p] := by
  rw [List.take_add_one, hp]
  rfl
theorem sc_unlike : FnScope ["_law_rows_here", "_law_found", "_law_row"] ["_law_rows_here"] (defScope s_unlike) := ⟨rfl, rfl, rfl, by decide +kernel, rfl, by decide +kernel, by decide +kernel⟩
def spUnlike : Sp := fun vs H Q _ => ∃ (l : Addr) (n : Nat) (ks : Ks), vs = [.ref l] ∧ H l = some (.lst (refs ks)) ∧ Tups H ks ∧ 1 ≤ n ∧ Rows n ks ∧ ks.length ≤ 5000 ∧
  ∀ (d : Addr) (fs : Ks) (H' : Hp), L2.Same H H' → H d = none → H' d = some (.lst (refs fs)) → Tups H' fs → (∀ q ∈ fs, q ∈ ks) → AscS (fs.map (·.2)) → (∀ r, r ∈ fs.map (·.2) ↔ r ∈ ks.map (·.2)) → fs.length ≤ ks.length → Q (.ref d) H'
theorem c_unlike (T : Txt K mg) : CalX P w K mg base CX0 1 "_law_unlike" spUnlike [] := by
  refine mkcal (ps := ["_law_rows_here"]) T.u_unlike T.g_unlike sc_unlike (fun _ _ _ _ _ _ us hl => match us, hl with | [_], _ => rfl) (fun vs H Q E h => ?_) (fun f cdv A outer s H vs Q E hr h => ?_)
  · obtain ⟨_, _, _, rfl, _⟩ := h
    rfl
  · obtain ⟨l, n, ks, rfl, hl, T0, n1, hrow, hlen, k⟩ := h
    refine ⟨_, PSs.nox (pss_cons (ps_set (i := 1) sc_unlike.nd rfl (.inl rfl) (pe_lst pa_nil))
      (pss_cons (ps_for PassesOwn.never rfl (pi_list (pe_callB (k_srt K) (by rfl) T.n_sorted b_sorted (pa_cons (pv 0) pa_nil))) (pg_name (i := 2) sc_unlike.nd rfl (.inl rfl)) (pss_one (ps_if (PW.pt (pw_or (pt_not (pt_truth (pv 1) (by intro _; rfl))) (pw_or1 (pt_cmpR (k_neD K (hu64 hr)) (pe_ix (k_ixl K) (pv 1) (pe_un un_neg pe_int) (fun _ _ => rfl)) (pv 2) (nomark _))))) (pss_one (ps_expr (pe_bm PySem.F.plainAttrs_list PySem.F.slot_list_append PySem.F.type_list_append mt_append (pv 1) (pa_cons (pv 2) pa_nil)))) pss_nil)))
      (pss_one (ps_ret (pv 1))))), ?_⟩
    walk_at "beg"
    walk_at "go"
    refine ⟨sz10 (by simp), r_new fun F H1 nF s1 hF _ => ?_⟩
    walk_at "go"
    refine ⟨l, ks, n, rfl, s1 _ _ hl, T0.same s1, n1, hrow, hlen, fun L js pm pw nL => ?_⟩
    have s2 : L2.Same H1 (L2.upd H1 L (.lst (refs js))) := Same.new nL
    have hL : L2.upd H1 L (.lst (refs js)) L = some (.lst (refs js)) := upd_same
    generalize L2.upd H1 L (.lst (refs js)) = H2 at s2 hL
    have nLF : L ≠ F := fun e => by rw [e, hF] at nL; cases nL
    have T2 : Tups H2 js := fun r hr => (s1.trans s2) _ _ (T0 r (pm.mem_iff.mp hr))
    have jint : ∀ r ∈ js, Ints r.2 := fun r hr => (hrow r (pm.mem_iff.mp hr)).2
    have jlen : js.length = ks.length := pm.length_eq
    walk_at "go"
    refine r_il (SqL.of hL) ?_
    refine forR_list (refs js) (fun i σ H3 => ∃ (fs : Ks) (v2 : Option V), σ = [some (.ref l), some (.ref F), v2] ∧ H3 F = some (.lst (refs fs)) ∧ H3 L = some (.lst (refs js)) ∧ Tups H3 js ∧ L2.Same H H3 ∧ (∀ q ∈ fs, q ∈ js.take i) ∧ AscS (fs.map (·.2)) ∧ (∀ q ∈ js.take i, q.2 ∈ fs.map (·.2)) ∧ fs.length ≤ i) ?_ ?_ ?_ ?_
    · exact ⟨[], none, rfl, s2 _ _ hF, hL, T2, s1.trans s2, fun q hq => (by cases hq), .nil, fun q hq => (by simp at hq), Nat.le_refl _⟩
    · rintro i σ H3 _ ⟨fs, v2, rfl, _, h2, _⟩
      exact SqL.of h2
    · rintro i x σ H3 hx ⟨fs, v2, rfl, h1, h2, T3, S3, f1, f2, f3, f4⟩
      obtain ⟨pr, hi, rfl, hmem⟩ := refs_get hx
      have hi2 : i < js.length := (List.getElem?_eq_some_iff.mp hi).1
      have tk := take_next hi
      have add : (∀ q ∈ fs, rowLt q.2 pr.2) → ∃ (fs' : Ks) (v2 : Option V), [some (.ref l), some (.ref F), some (.ref pr.1)] = [some (.ref l), some (.ref F), v2] ∧ L2.upd H3 F (.lst (refs fs ++ [.ref pr.1])) F = some (.lst (refs fs')) ∧ L2.upd H3 F (.lst (refs fs ++ [.ref pr.1])) L = some (.lst (refs js)) ∧ Tups (L2.upd H3 F (.lst (refs fs ++ [.ref pr.1]))) js ∧ L2.Same H (L2.upd H3 F (.lst (refs fs ++ [.ref pr.1]))) ∧ (∀ q ∈ fs', q ∈ js.take (i + 1)) ∧ AscS (fs'.map (·.2)) ∧ (∀ q ∈ js.take (i + 1), q.2 ∈ fs'.map (·.2)) ∧ fs'.length ≤ i + 1 := fun lt => by
        refine ⟨fs ++ [pr], _, rfl, by rw [upd_same, refs_app]; rfl, by rw [upd_ne nLF]; exact h2, T3.put (fun ys z => by rw [h1] at z; cases z), Same.fresh S3 nF, fun q hq => ?_, ?_, fun q hq => ?_, by rw [List.length_append]; simp; omega⟩
        · rw [tk]
          rcases List.mem_append.mp hq with hq | hq
          · exact List.mem_append.mpr (.inl (f1 q hq))
          · exact List.mem_append.mpr (.inr hq)
        · rw [List.map_append]
          refine List.pairwise_append.mpr ⟨f2, List.pairwise_singleton _ _, fun a ha b hb => ?_⟩
          obtain ⟨q, hq, rfl⟩ := List.mem_map.mp ha
          have e : b = pr.2 := by simpa using hb
          rw [e]
          exact lt q hq
        · rw [tk] at hq
          rw [List.map_append]
          rcases List.mem_append.mp hq with hq | hq
          · exact List.mem_append.mpr (.inl (f3 q hq))
          · exact List.mem_append.mpr (.inr (by rw [List.mem_singleton.mp hq]; exact List.mem_cons_self ..))
      walk_at "go"
      refine ⟨_, tru_lst h1, ?_⟩
      rcases List.eq_nil_or_concat fs with rfl | ⟨fl, f0, rfl⟩
      · rw [show (!(refs ([] : Ks)).isEmpty) = false from rfl]
        walk_at "go"
        refine ⟨ty_l h1, ?_⟩
        walk_at "go"
        refine r_app h1 (by simp [refs]) ?_
        exact add fun q hq => (by cases hq)
      · rw [List.concat_eq_append] at h1 f1 f2 f3 f4 add ⊢
        rw [show (!(refs (fl ++ [f0])).isEmpty) = true from by unfold refs; rw [List.map_append]; simp]
        walk_at "go"
        refine r_ixL (SqL.of h1) ix_last ?_
        have f0m : f0 ∈ js.take i := f1 f0 (by simp)
        have f0j := List.mem_of_mem_take f0m
        walk_at "go"
        refine r_neRow (T3 f0 f0j) (jint f0 f0j) (T3 pr hmem) (jint pr hmem) ?_
        refine ⟨_, rfl, ?_⟩
        refine ite_nd (fun hno => ?_) (fun hyes => ?_)
        · walk_at "go"
          refine ⟨ty_l h1, ?_⟩
          walk_at "go"
          refine r_app h1 (by rw [refs_len]; omega) ?_
          have hlt : rowLt f0.2 pr.2 := by
            by_cases c : rowLt f0.2 pr.2
            · exact c
            · exact absurd (rowLt_total (jint f0 f0j) (jint pr hmem) c (pair_cut pw hi f0m)) hno
          refine add fun q hq => ?_
          rcases List.mem_append.mp hq with hq | hq
          · rw [List.map_append] at f2
            exact rowLt_trans ((List.pairwise_append.mp f2).2.2 q.2 (List.mem_map.mpr ⟨q, hq, rfl⟩) f0.2 (by simp)) hlt
          · rw [List.mem_singleton.mp hq]
            exact hlt
        · walk_at "go"
          refine ⟨_, _, rfl, h1, h2, T3, S3, fun q hq => ?_, f2, fun q hq => ?_, by omega⟩
          · rw [tk]
            exact List.mem_append.mpr (.inl (f1 q hq))
          · rw [tk] at hq
            rcases List.mem_append.mp hq with hq | hq
            · exact f3 q hq
            · rw [List.mem_singleton.mp hq, ← hyes]
              simp
    · rintro σ H3 ⟨fs, v2, rfl, h1, h2, T3, S3, f1, f2, f3, f4⟩
      have tl : js.take (refs js).length = js := by rw [refs_len]; exact List.take_length
      rw [tl] at f1 f3
      walk_at "go"
      refine k F fs H3 S3 nF h1 (fun q hq => T3 q (f1 q hq)) (fun q hq => pm.mem_iff.mp (f1 q hq)) f2 (fun r => ⟨fun hr => ?_, fun hr => ?_⟩) (by rw [← jlen]; rw [refs_len] at f4; exact f4)
      · obtain ⟨q, hq, rfl⟩ := List.mem_map.mp hr
        exact List.mem_map.mpr ⟨q, pm.mem_iff.mp (f1 q hq), rfl⟩
      · obtain ⟨q, hq, rfl⟩ := List.mem_map.mp hr
        exact f3 q (pm.mem_iff.mpr hq)
end
end Kb
set_option Elab.async false
set_option linter.all false
set_option maxRecDepth 100000
set_option maxHeartbeats 4000000
namespace Kb
open PySem PySem.Spec PyProof.Rows L2
/-! ### list(reversed(a list)) -/
section
variable {prog : Program} {w : World} {A : Around} {E : Value → Shared → Prop} {s : Shared} {it l S : Addr} {items : Array Value} {Rr : Result → Shared → Prop}
abbrev backAt (items : Array Value) : Nat → Value → Prop := fun i v => items[items.size - 1 - i]? = some v
theorem lr_extend (hh : A.handled = none) (hit : s.heap.IsRevIter it l ((items.size : Int) - 1)) (hl : s.heap.IsList l items) (hne : l ≠ it) (hSi : S ≠ it) (hSl : S ≠ l) {c0 : Nat} (hS : s.heap.get? S = some { cls := .type "list", data := .seq #[] c0 }) (hn : items.size ≤ sizeLine)
    (k : ∀ (h' : Heap) (tk : Nat) (acc : Array Value) (c' : Nat), (∀ b o, b ≠ S → b ≠ it → s.heap.get? b = some o → h'.get? b = some o) → h'.get? S = some { cls := .type "list", dict := none, data := .seq acc c', slots := #[] } → ItemsOf (backAt items) acc items.size → Rr (.ok (.ret .none)) { s with heap := h', toks := tk }) :
    wpAny (model prog w) A.in1 (Builtin.List.listExtendWith (.ref S) (.ref it) .none)
      (fun fin s' => match fin with | .done f => Rr (.ok f) s' | .again c' => c'.quiet = true ∧ codeAny (model prog w) A c' Rr s') (fun e s' => Rr (.error e) s') s := by
  have ty : s.TypeIs (.ref it) "list_reverseiterator" := hit.typeIs
  have out : S ∉ [it, l] := by
    rw [List.mem_cons, List.mem_singleton]
    exact fun z => z.elim hSi hSl
  have ne : Builtin.List.listSameRef (.ref S) (.ref it) = false := by
    unfold Builtin.List.listSameRef
    simp [hSi]
  have ho := (Walks.listRev (prog := prog) (w := w) (A := A.in1) hh it l hne items).toS
  have e0 : ((items.size : Nat) : Int) - 1 - ((0 : Nat) : Int) = (items.size : Int) - 1 := Int.sub_zero _
  unfold Builtin.List.listExtendWith
  refine wpAny_bind (wpAny_typeOf ty ?_)
  refine wpAny_ite_split (fun z => absurd z (by rw [ne]; decide)) fun _ => ?_
  refine wpAny_bind (wpAny_pyIter_revIter hit ?_)
  refine wpAny_bind (wpAny_holding ?_)
  unfold Builtin.List.listLengthHint
  refine wpAny_bind (wpAny_specialOf ty RT.nolen_lri ?_)
  show wpAny _ A.in1 (specialOf (Value.ref it) (Str.ofString "__length_hint__") >>= _) _ _ _
  refine wpAny_bind (wpAny_specialOf ty RT.hint_lri ?_)
  generalize hid : ("list_reverseiterator.__length_hint__" : String) = nm
  wp_delta
  rw [show splitId nm = some ("list_reverseiterator", "__length_hint__") from by rw [← hid]; decide +kernel]
  subst hid
  refine wpAny_bind (wpAny_isInstance (b := true) ty (by rw [isSubtype_type]; kernel_rfl) ?_)
  refine wpAny_pure ?_
  refine wpAny_ite_split (fun z => absurd z (by decide)) fun _ => ?_
  refine wpAny_pure ⟨plainId_quiet F.plain_extend_loop _, ?_⟩
  refine codeAny_extend_loopS ho hn S out .none items.size 0 s #[] c0 rfl (Nat.zero_le _) ⟨Nat.zero_le _, by rw [e0]; exact hit, hl⟩ hS (ItemsOf.nil _) fun s' acc c' mv hS' ia => ?_
  rw [Moved.eq_with mv]
  refine k s'.heap s'.toks acc c' (fun b o h1 h2 e => mv.heap b o (fun z => ?_) e) hS' ia
  rcases List.mem_cons.mp z with z | z
  · exact h1 z
  · exact h2 (List.mem_singleton.mp z)
theorem lr_call {Q : Value → Shared → Prop} (hh : A.handled = none) (hit : s.heap.IsRevIter it l ((items.size : Int) - 1)) (hl : s.heap.IsList l items) (hne : l ≠ it) (hn : items.size ≤ sizeLine)
    (k : ∀ (h' : Heap) (tk : Nat) (acc : Array Value) (c' : Nat), (∀ b o, b ≠ it → s.heap.get? b = some o → h'.get? b = some o) → h'.get? s.heap.objs.size = some { cls := .type "list", dict := none, data := .seq acc c', slots := #[] } → ItemsOf (backAt items) acc items.size → Q (.ref s.heap.objs.size) { s with heap := h', toks := tk }) :
    wpAny (model prog w) A (call (.type "list") [.ref it]) Q E s := by
  obtain ⟨oi, hoi, _⟩ := id hit
  obtain ⟨ol, hol, _⟩ := id hl
  have hSi : s.heap.objs.size ≠ it := (Nat.ne_of_lt (Heap.lt_size hoi)).symm
  have hSl : s.heap.objs.size ≠ l := (Nat.ne_of_lt (Heap.lt_size hol)).symm
  refine callType_codes (Q₁ := fun x t => x = .ref s.heap.objs.size ∧ t = { s with heap := s.heap.push { cls := .type "list", data := .seq #[] } }) F.called_list (F.typeCall_list_1 _) F.entry_list_init (code_list_new _ ⟨rfl, rfl⟩) ?_
  rintro _ _ ⟨rfl, rfl⟩
  have old : ∀ b o, s.heap.get? b = some o → (s.heap.push { cls := .type "list", data := .seq #[] }).get? b = some o := fun b o e => Heap.get?_push_of_some _ e
  have hS : (s.heap.push { cls := .type "list", data := .seq #[] }).get? s.heap.objs.size = some { cls := .type "list", data := .seq #[] } := Heap.get?_push_size _ rfl
  refine ⟨⟨_, hS, rfl⟩, F.args_list_init_2 _ _, ?_⟩
  show wpAny _ A.in1.in1 (Builtin.List.listItems (.ref s.heap.objs.size) >>= fun xs => Builtin.List.listUpdate (.ref s.heap.objs.size) (fun _ => #[]) >>= fun _ => letGo xs.toList.reverse >>= fun _ => Builtin.List.listExtendWith (.ref s.heap.objs.size) (.ref it) .none) _ _ _
  refine wpAny_bind ?_
  unfold Builtin.List.listItems
  refine wpAny_bind (wpAny_seqItems hS rfl (wpAny_pure ?_))
  show wpAny _ _ (updateSeq s.heap.objs.size (fun _ => #[]) >>= fun _ => letGo (#[] : Array Value).toList.reverse >>= fun _ => Builtin.List.listExtendWith (.ref s.heap.objs.size) (.ref it) .none) _ _ _
  refine wpAny_bind (wpAny_updateSeq hS rfl ?_)
  have hS2 := Heap.get?_update_self (Obj.mapSeq (fun _ => (#[] : Array Value))) hS rfl
  have two : ∀ b o, b ≠ s.heap.objs.size → s.heap.get? b = some o → ((s.heap.push { cls := .type "list", data := .seq #[] }).update s.heap.objs.size (Obj.mapSeq (fun _ => (#[] : Array Value)))).get? b = some o := fun b o hb e => (Heap.get?_update_other _ _ hb.symm).trans (old b o e)
  refine wpAny_bind (wpAny_letGo ?_)
  refine lr_extend (A := A.in1) hh (hit.at fun o e => two it o hSi.symm e) (hl.at fun o e => two l o hSl.symm e) hne hSi hSl hS2 hn fun h' tk acc c' kp hS' ia => ?_
  exact ⟨rfl, k h' tk acc c' (fun b o h2 e => kp b o (Nat.ne_of_lt (Heap.lt_size e)) h2 (two b o (Nat.ne_of_lt (Heap.lt_size e)) e)) hS' ia⟩
end
def tLstRev (K : PySem.W.Frag) (te : TE) : TE := fun σ H Q => te σ H fun v H1 => ∃ (a : Addr) (xs : List V), v = .ref a ∧ SqL K H1 a xs ∧ New H1 (.lst xs.reverse) Q
theorem pe_lstRev {X : Cx} {e : Expr} {te : TE} {p p2 pos pos2 : Pos} (K : PySem.W.Frag) (hc : X.calm = true) (hg : Gl X "list") (hm : X.mg "list" = none) (hg2 : Gl X "reversed") (hm2 : X.mg "reversed" = none) (he : PE X e te) (hK : X.K = K := by rfl)
    (hs : starEach [e] X.env = (false, eval e X.env) :: starEach [] X.env := by rfl)
    (hs2 : starEach [.Call (.Name "reversed" p2) [e] [] pos2] X.env = (false, eval (.Call (.Name "reversed" p2) [e] [] pos2) X.env) :: starEach [] X.env := by rfl) :
    PE X (.Call (.Name "list" p) [.Call (.Name "reversed" p2) [e] [] pos2] [] pos) (tLstRev K te) := by
  subst hK
  refine ⟨fun pins s σ H Q I h => ?_⟩
  refine Call_ (ld_blt I hg hm boot_list (PyProof.Rows.callWith_type1 (args_cons (Call_ (ld_blt I hg2 hm2 PyProof.Rows.boot_reversed (PyProof.Rows.callWith_type1 (args_cons (thn (he.run pins s σ H _ I h) ?_) hs) hs rfl))) hs2) hs2 rfl))
  rintro u s1 ⟨v, H1, I1, r1, a, xs, rfl, hq, q⟩
  obtain rfl : u = Value.ref a := r1
  obtain ⟨its, rv, pl, hz⟩ := I1.list hq
  have hl := pl.isList
  obtain ⟨ol, hol, _⟩ := id hl
  have hn : its.toArray.size ≤ sizeLine := by
    rw [List.size_toArray, ← rv.length]
    exact hz
  refine args_nil (call_reversed_list hl (args_nil ?_))
  have I2 : Inv X pins σ H1 { s1 with heap := s1.heap.push (revObj a ((its.toArray.size : Int) - 1)) } := I1.kept (t' := s1.toks) fun b o e => Heap.get?_push_of_some _ e
  have fp := I1.fpOk (H' := H1) (b := s1.heap.objs.size) (Nat.le_refl _) (I1.hok.fresh (Nat.le_refl _))
  refine lr_call (s := { s1 with heap := s1.heap.push (revObj a ((its.toArray.size : Int) - 1)) }) (I1.ok.hd hc) ⟨_, Heap.get?_push_size _ rfl, rfl, rfl⟩ (hl.push _) (Nat.ne_of_lt (Heap.lt_size hol)) hn fun h' tk acc c' kp hS ia => ?_
  have al := RT.vals_rev rv ia
  refine ⟨.ref _, upd H1 _ (.lst xs.reverse), I2.turnedNew (t' := tk) (ch := [s1.heap.objs.size]) (fun b o hb e => kp b o (fun z => hb (List.mem_singleton.mpr z)) e) (fun b hb => by rw [List.mem_singleton.mp hb]; exact fp) (Nat.le_refl _) (show ObjOk X.prog X.w _ _ _ (.lst xs.reverse) from ⟨by rw [List.length_reverse]; exact hz, acc.toList, c', al, ?_⟩), rfl, q _ (I2.hok.fresh (Nat.le_refl _))⟩
  rw [hS]
theorem r_lstRev {K : PySem.W.Frag} {te : TE} {σ : L2.St} {H : Hp} {Q : VK} (h : te σ H fun v H1 => ∃ (a : Addr) (xs : List V), v = .ref a ∧ SqL K H1 a xs ∧ New H1 (.lst xs.reverse) Q) : tLstRev K te σ H Q := h
end Kb
set_option Elab.async false
set_option linter.all false
set_option maxRecDepth 100000
set_option maxHeartbeats 4000000
namespace Kb
open PySem PySem.Spec PyProof.Rows L2
local macro_rules | `(tactic| walk_at "beg") => `(tactic| simp only [cxK, cxKn, cxW, cxWn, cxP, cxPn, L2.start, List.map_cons, List.map_nil, List.length_cons, List.length_nil, Nat.reduceAdd, Nat.reduceSub, List.replicate_succ, List.replicate_zero, List.cons_append, List.nil_append])
local macro_rules | `(tactic| walk_at "go1") => `(tactic| with_reducible (first
  | refine r_seq ?_ | refine r_asg ?_ | refine r_if ?_ | refine r_ret ?_ | refine r_next ?_ | refine r_drop ?_ | refine r_gsub ?_
  | refine r_c ?_ | refine r_op ?_ | refine r_un ?_ | refine r_cons ?_ | refine r_nil ?_ | refine r_cb ?_ | refine r_call ?_ | refine r_test ?_ | refine r_B ?_ | refine r_bl ?_
  | refine r_and ?_ | refine r_or ?_ | refine r_not ?_ | refine r_ifE ?_ | refine r_andV ?_ | refine r_orV ?_ | refine r_notV ?_ | refine r_blV ?_ | refine r_T ?_ | refine r_F ?_ | refine r_nT ?_ | refine r_nF ?_
  | refine r_int ?_ | refine r_eqI ?_ | refine r_neI ?_
  | refine r_yes ?_ | refine r_lc ?_ | refine r_rng1 ?_ | refine r_rng2 ?_ | refine r_iList ?_ | refine r_iTup ?_ | refine r_for ?_
  | refine r_bm ?_ | refine r_sl ?_ | refine r_np ?_ | refine r_part ?_ | refine r_partI ?_ | refine r_lstRg ?_ | refine r_rg1 ?_ | refine r_rgI ?_ | refine r_isN ?_ | refine r_notN ?_ | refine r_notT ?_ | refine r_mkA ?_ | refine r_callS ?_ | refine r_sfld ?_ | refine r_fld ?_ | refine r_sortSet ?_ | refine r_mkO ?_ | refine r_enum ?_ | refine r_make ?_
  | refine r_I0 ?_ | refine r_U ?_ | refine r_tup ?_ | refine r_lst ?_))
local macro_rules | `(tactic| walk_at "go") => `(tactic| repeat (first | walk_at "go1" | with_reducible refine r_var (by with_unfolding_all rfl) ?_ | with_reducible refine r_lcT (by with_unfolding_all rfl) ?_ | with_reducible refine r_name (by (try simp only [wipe, List.set_cons_succ, List.set_cons_zero]) <;> with_unfolding_all rfl) ?_))
section
variable {P : Program} {w : World} {K : PySem.W.Frag} {mg : Str → Option Value} {base : Heap}
theorem r_iBook {K : PySem.W.Frag} {te : TE} {σ : L2.St} {H : Hp} {R : It → Hp → Prop} (h : te σ H fun x H1 => ∃ (o : Addr) (n m : Nat) (ks : Ks) (dx T1 : Addr), x = .ref o ∧ H1 o = some (.ins (He.ga K "Book") dx [("n", .int (n : Int)), ("m", .int (m : Int)), ("inputs", .ref T1)]) ∧ H1 T1 = some (.tup (refs ks)) ∧ R (Itt K T1) H1) : iBook K te σ H R := h
theorem Is.put {H : Hp} {S : Addr} {xs ys : List V} {x : V} {th : Th} (h : Is H x th) (e : H S = some (.lst xs)) (ne : x ≠ .ref S) : Is (L2.upd H S (.lst ys)) x th := by
  cases th with
  | «at» v => exact h
  | sq l a zs =>
    cases l with
    | true =>
      obtain ⟨rfl, e2, w⟩ := h
      exact ⟨rfl, by rw [upd_ne (fun z => ne (by rw [z]))]; exact e2, fun y hy => (w y hy).put e⟩
    | false =>
      obtain ⟨rfl, e2, w⟩ := h
      exact ⟨rfl, by rw [upd_ne (fun z => ne (by rw [z]))]; exact e2, fun y hy => (w y hy).put e⟩
theorem BookAt.put {K : PySem.W.Frag} {H : Hp} {o S : Addr} {n m : Nat} {ks : Ks} {xs ys : List V} (h : BookAt K H o n m ks) (e : H S = some (.lst xs)) : BookAt K (L2.upd H S (.lst ys)) o n m ks := by
  obtain ⟨dx, T1, h1, h2⟩ := h.ex
  exact ⟨⟨dx, T1, by rw [upd_ne (ne_of h1 e (by intro z; cases z))]; exact h1, by rw [upd_ne (ne_of h2 e (by intro z; cases z))]; exact h2⟩, h.tups.put (fun zs z => by rw [e] at z; cases z), h.rows, h.asc, h.len, h.n2, h.n5, h.m1, h.m4⟩
/-- Book(n, m, things that are rows) -/
theorem book_ths {K : PySem.W.Frag} {H1 : Hp} {Q : VK} {E : XK} {n m : Nat} {x : V} {ths : List Th} (n2 : 2 ≤ n) (n5 : n ≤ 5) (m1 : 1 ≤ m) (m4 : m ≤ 4) (i : Inp H1 x (some ths)) (g : ∀ th ∈ ths, isRow n m th.ys)
    (k : ∀ (o : Addr) (js : Ks) (H2 : Hp), L2.Same H1 H2 → H1 o = none → BookAt K H2 o n m js → (∀ r, r ∈ js.map (·.2) ↔ r ∈ ths.map Th.ys) → Q (.ref o) H2) : BookQ K [.int (n : Int), .int (m : Int), x] H1 Q E := by
  refine ⟨_, _, _, some ths, rfl, kn_int, kn_int, i, fun what at' hv => ?_, fun n' m' ths' o js H2 e1 e2 e3 s no B hm _ => ?_⟩
  · rw [verdict_good n2 n5 m1 m4 g] at hv
    cases hv
  · injection e1 with e1
    injection e2 with e2
    injection e3 with e3
    have en : n' = n := (Int.ofNat_inj.mp e1).symm
    have em : m' = m := (Int.ofNat_inj.mp e2).symm
    subst en em e3
    exact k o js H2 s no B hm
theorem book_none {K : PySem.W.Frag} {H1 : Hp} {Q : VK} {E : XK} {n m : Nat} {c : Addr} (n2 : 2 ≤ n) (n5 : n ≤ 5) (m1 : 1 ≤ m) (m4 : m ≤ 4) (hc : H1 c = some (.lst []))
    (k : ∀ (o : Addr) (H2 : Hp), L2.Same H1 H2 → BookAt K H2 o n m [] → Q (.ref o) H2) : BookQ K [.int (n : Int), .int (m : Int), .ref c] H1 Q E := by
  refine book_rows (ks := []) n2 n5 m1 m4 hc (fun r hr' => (by cases hr')) (fun r hr' => (by cases hr')) (by decide) fun o3 js3 J2' q2 _ B3 hm3 => ?_
  have e : js3 = [] := by
    cases js3 with
    | nil => rfl
    | cons r rt => exact absurd ((hm3 r.2).mp (List.mem_cons_self ..)) (by simp)
  subst e
  exact k o3 J2' q2 B3
theorem r_neU {x : Str} {H : Hp} {Q : VK} (h : Q (.bl false) H) : rNe (.str x) (.str x) H Q := ⟨rfl, by
  rw [decide_eq_true (p := V.str x = V.str x) rfl]
  exact h⟩
/-- what was handed: lists that are new since then, and tuples -/
def Handed (H0 H : Hp) (y : V) : Prop := ∃ b, y = .ref b ∧ ((H0 b = none ∧ ∃ xs, xs ≠ [] ∧ H b = some (.lst xs)) ∨ ∃ xs, H b = some (.tup xs))
theorem Handed.same {H0 H H' : Hp} {y : V} (h : Handed H0 H y) (s : L2.Same H H') : Handed H0 H' y := by
  obtain ⟨b, e, h⟩ := h
  exact ⟨b, e, h.imp (fun ⟨h1, xs, h2, h3⟩ => ⟨h1, xs, h2, s _ _ h3⟩) fun ⟨xs, h3⟩ => ⟨xs, s _ _ h3⟩⟩
theorem Handed.there {H0 H : Hp} {b : Addr} (h : Handed H0 H (.ref b)) : ∃ o, H b = some o := by
  obtain ⟨c, e, h⟩ := h
  injection e with e
  subst e
  rcases h with ⟨_, xs, _, h⟩ | ⟨xs, h⟩
  · exact ⟨_, h⟩
  · exact ⟨_, h⟩
/-- neither is one that was a list already -/
theorem Handed.old {H0 H : Hp} {c : Addr} {y : V} {xs : List V} (h : Handed H0 H y) (h0 : ∃ o, H0 c = some o) (hc : H c = some (.lst xs)) : y ≠ .ref c := by
  rintro rfl
  obtain ⟨b, e, h⟩ := h
  injection e with e
  subst e
  rcases h with ⟨h1, _⟩ | ⟨zs, h⟩
  · obtain ⟨u, hu⟩ := h0
    rw [h1] at hu
    cases hu
  · rw [hc] at h
    cases h
theorem Handed.keep {H0 H H' : Hp} {y : V} (h : Handed H0 H y) (k : ∀ b u, y = .ref b → H b = some u → H' b = some u) : Handed H0 H' y := by
  obtain ⟨b, e, h⟩ := h
  exact ⟨b, e, h.imp (fun ⟨h1, xs, h2, h3⟩ => ⟨h1, xs, h2, k _ _ e h3⟩) fun ⟨xs, h3⟩ => ⟨xs, k _ _ e h3⟩⟩
theorem Handed.kn {H0 H : Hp} {y : V} (h : Handed H0 H y) : Kn H y := by
  obtain ⟨b, rfl, h⟩ := h
  rcases h with ⟨_, xs, _, h⟩ | ⟨xs, h⟩
  · exact .inr ⟨b, xs, rfl, .inl h⟩
  · exact .inr ⟨b, xs, rfl, .inr h⟩
theorem sc_law : FnScope ["_law_script", "_law_pot_here", "_law_n", "_law_m", "_law_rows_here", "_law_drawn", "_law_k", "_law_due", "_law_handed", "_law_row", "_law_book", "_law_wider", "_law_longer_here", "_law_which"] ["_law_script"] (defScope s_law) := ⟨rfl, rfl, rfl, by decide +kernel, rfl, by decide +kernel, by decide +kernel⟩
def spLaw (K : PySem.W.Frag) : Sp := fun vs H Q _ => ∃ (a : Addr) (ns : List Int), vs = [.ref a] ∧ SqL K H a (ns.map V.int) ∧ ns.length ≤ 63 ∧ ∀ H', Q (.bl true) H'
theorem ok_law {fd : FuncData} (T : Txt K mg) (F : FunD K "law" "law" (defArgs s_law) (defBody s_law) (defScope s_law) [] [] (He.ga K "law") fd) : FnG P w K mg base 10 (He.ga K "law") fd ["_law_script"] (spLaw K) := by
  have c_pot : CalX P w K mg base CX0 1 "_law_pot" (spPot (K := K)) [] := c_pot T
  have c_many : CalX P w K mg base CX0 2 "_law_many" spMany [] := c_many T
  have c_draw : CalX P w K mg base CX0 1 "_law_draw" spDraw [] := c_draw T
  have c_rows : CalX P w K mg base CX0 2 "_law_rows" spRows [] := c_rows T
  have c_entry : CalX P w K mg base CX0 2 "_law_entry" spEntry [] := c_entry T
  have c_unlike : CalX P w K mg base CX0 1 "_law_unlike" spUnlike [] := c_unlike T
  have c_way : CalX P w K mg base CX0 2 "_law_way" spWay [] := c_way T
  have c_same : CalX P w K mg base CX0 4 "_law_same" (spSame 3) [] := c_same T 3
  have c_members : CalX P w K mg base CX0 6 "_law_members" (spMembers K) [] := c_members T
  have c_views : CalX P w K mg base CX0 6 "_law_views" (spViews K) [] := c_views T
  have g_changed : CalG P w K mg base 9 "_law_changed" (spChanged K) := g_changed T
  have c_unlike_books : CalX P w K mg base CX0 5 "_law_unlike_books" (spUnlikeB K) [] := c_unlike_books T
  have c_refusals : CalX P w K mg base CX0 7 "_law_refusals" spRefusals [] := c_refusals T
  have len : ∀ vs H Q E, spLaw K vs H Q E → vs.length = (["_law_script"] : List Str).length := by
    rintro vs H Q E ⟨_, _, rfl, _⟩
    rfl
  refine ⟨len, fun A outer s H args us vs Q E hr0 hg e0 bt rv h => run_here F sc_law hr0 e0 bt rv (len _ _ _ _ h) fun cdv => ?_⟩
  have hr := hr0.deeper (envOfC "law" (defScope s_law) s.heap.objs.size (He.ga K "law") cdv)
  obtain ⟨a, ns, rfl, ha, hns, k⟩ := h
  refine ⟨_, PSs.nox (pss_cons (ps_set (i := 1) sc_law.nd rfl (.inl rfl) (pc0 c_pot hr (by decide) (pa_cons (pv 0) (pa_cons pe_int pa_nil))))
      (pss_cons (ps_set (i := 2) sc_law.nd rfl (.inl rfl) (pc0 c_many hr (by decide) (pa_cons (pv 1) pa_nil)))
      (pss_cons (ps_set (i := 3) sc_law.nd rfl (.inl rfl) (pe_ix (k_ixl K) (pe_lst (pa_cons pe_int (pa_cons pe_int (pa_cons pe_int (pa_cons pe_int (pa_cons pe_int (pa_cons pe_int (pa_cons pe_int (pa_cons pe_int pa_nil))))))))) (pc0 c_draw hr (by decide) (pa_cons (pv 1) (pa_cons pe_int pa_nil))) (fun _ _ => rfl)))
      (pss_cons (ps_set (i := 4) sc_law.nd rfl (.inl rfl) (pc0 c_rows hr (by decide) (pa_cons (pv 2) (pa_cons (pv 3) pa_nil))))
      (pss_cons (ps_set (i := 5) sc_law.nd rfl (.inl rfl) (pe_lst pa_nil))
      (pss_cons (ps_for PassesOwn.never rfl (pi_range1 (by rfl) T.n_range (pa_cons (pc0 c_draw hr (by decide) (pa_cons (pv 1) (pa_cons pe_int pa_nil))) pa_nil)) (pg_name (i := 6) sc_law.nd rfl (.inl rfl)) (pss_one (ps_expr (pe_bm PySem.F.plainAttrs_list PySem.F.slot_list_append PySem.F.type_list_append mt_append (pv 5) (pa_cons (pc0 c_entry hr (by decide) (pa_cons (pv 1) (pa_cons (pv 2) (pa_cons (pv 3) pa_nil)))) pa_nil)))))
      (C8.pss_cut (ps_if (pt_cmpR op_eq (pc0 c_draw hr (by decide) (pa_cons (pv 1) (pa_cons pe_int pa_nil))) pe_int (nomark _)) (pss_one (ps_set (i := 5) sc_law.nd rfl (.inl rfl) (pe_lstRev K rfl rfl T.n_list rfl T.n_reversed (pe_slice (k_sll K) (pv 4) po_none (po_some pe_int))))) pss_nil)
      (pss_cons (ps_set (i := 7) sc_law.nd rfl (.inl rfl) (pc0 c_unlike hr (by decide) (pa_cons (pv 5) pa_nil)))
      (pss_cons (ps_set (i := 8) sc_law.nd rfl (.inl rfl) (pe_lst pa_nil))
      (pss_cons (ps_for PassesOwn.never rfl (pi_list (pe_op op_cat (pv 5) (pe_slice (k_sll K) (pe_slice (k_sll K) (pv 5) po_none (po_some pe_int)) po_none (po_some (pe_op op_sub pe_int (pe_callB (k_len K) (by rfl) T.n_len b_len (pa_cons (pv 5) pa_nil))))))) (pg_name (i := 9) sc_law.nd rfl (.inl rfl)) (pss_one (ps_expr (pe_bm PySem.F.plainAttrs_list PySem.F.slot_list_append PySem.F.type_list_append mt_append (pv 8) (pa_cons (pc0 c_way hr (by decide) (pa_cons (pv 1) (pa_cons (pv 9) pa_nil))) pa_nil)))))
      (pss_cons (ps_set (i := 10) sc_law.nd rfl (.inl rfl) (pe_Book T (hr.mono (by decide)) passF (pa_cons (pv 2) (pa_cons (pv 3) (pa_cons (pv 8) pa_nil)))))
      (pss_cons (ps_expr (pe_bm PySem.F.plainAttrs_list PySem.F.slot_list_append PySem.F.type_list_append mt_append (pv 8) (pa_cons pe_non pa_nil)))
      (pss_cons (ps_for PassesOwn.never rfl (pi_list (pe_slice (k_sll K) (pv 8) po_none (po_some pe_int))) (pg_name (i := 9) sc_law.nd rfl (.inl rfl)) (pss_one (ps_if (pt_val (pe_callB (k_isi K) (by rfl) T.n_isinstance b_isinstance (pa_cons (pv 9) (pa_cons (pe_bltn (v := .ty "list") (by rfl) T.n_list b_list rfl) pa_nil)))) (pss_one (ps_asg pe_int (pg_sub (pv 9) pe_int set_list))) pss_nil)))
      (pss_cons (ps_if (PW.pt (pw_or (pt_not (pt_val (pc0 c_same hr (by decide) (pa_cons (pe_tup (pa_cons (pe_fld (pv 10) rfl) (pa_cons (pe_fld (pv 10) rfl) (pa_cons (pe_fld (pv 10) rfl) pa_nil)))) (pa_cons (pe_tup (pa_cons (pv 2) (pa_cons (pv 3) (pa_cons (pe_callTy (k_tup K) (by rfl) T.n_tuple b_tuple (pa_cons (pv 7) pa_nil)) pa_nil)))) pa_nil))))) (pw_or1 (pt_not (pt_val (pc0 c_same hr (by decide) (pa_cons (pe_callB (k_lenB T (hr.mono (by decide))) (by rfl) T.n_len b_len (pa_cons (pv 10) pa_nil)) (pa_cons (pe_callB (k_len K) (by rfl) T.n_len b_len (pa_cons (pv 7) pa_nil)) pa_nil)))))))) (pss_one (ps_ret pe_bl)) pss_nil)
      (pss_cons (ps_if (PW.pt (pw_or (pt_not (pt_val (pc0 c_same hr (by decide) (pa_cons (pe_callTy (k_tup K) (by rfl) T.n_tuple b_tuple (pa_cons (pe_lc (own := [("_law_row", 9)]) (g := gName 9) (tt := tYes) rfl sc_law.nd (pi_book T (hr.mono (by decide)) (pv 10)) (blkOk_by (own := [("_law_row", 9)]) (N := ["_law_script", "_law_pot_here", "_law_n", "_law_m", "_law_rows_here", "_law_drawn", "_law_k", "_law_due", "_law_handed", "_law_row", "_law_book", "_law_wider", "_law_longer_here", "_law_which"]) (sc := defScope s_law) (by decide +kernel)) (fun _ _ _ _ _ => pg_name (i := 9) sc_law.nd rfl (Or.inl rfl)) (fun _ _ _ _ _ => pts_nil) (fun _ _ _ _ _ => (pv 9))) pa_nil)) (pa_cons (pe_callTy (k_tup K) (by rfl) T.n_tuple b_tuple (pa_cons (pv 7) pa_nil)) pa_nil))))) (pw_or (pt_not (pt_cmpR (k_eqB T (hr.mono (by decide))) (pv 10) (pe_Book T (hr.mono (by decide)) passF (pa_cons (pv 2) (pa_cons (pv 3) (pa_cons (pv 7) pa_nil)))) (nomark _))) (pw_or1 (pt_cmpR (k_eqB T (hr.mono (by decide))) (pv 10) (pe_callTy (k_tup K) (by rfl) T.n_tuple b_tuple (pa_cons (pv 7) pa_nil)) (nomark _)))))) (pss_one (ps_ret pe_bl)) pss_nil)
      (pss_cons (ps_if (PW.pt (pw_or (pt_not (pt_val (pc0 c_members hr (by decide) (pa_cons (pv 1) (pa_cons (pv 10) (pa_cons (pv 4) (pa_cons (pv 2) (pa_cons (pv 7) pa_nil)))))))) (pw_or (pt_not (pt_val (pc0 c_views hr (by decide) (pa_cons (pv 1) (pa_cons (pv 10) (pa_cons (pv 2) (pa_cons (pv 3) (pa_cons (pv 7) pa_nil)))))))) (pw_or1 (pt_not (pt_val (pcG g_changed hr (by decide) hg (pa_cons (pv 1) (pa_cons (pv 10) (pa_cons (pv 2) (pa_cons (pv 3) (pa_cons (pv 7) pa_nil)))))))))))) (pss_one (ps_ret pe_bl)) pss_nil)
      (C8.pss_cut (ps_if (PW.pt (pw_and (pt_cmpR (k_eqB T (hr.mono (by decide))) (pv 10) (pe_Book T (hr.mono (by decide)) passF (pa_cons (pv 2) (pa_cons (pv 3) (pa_cons (pe_slice (k_sll K) (pv 7) (po_some pe_int) po_none) pa_nil)))) (nomark _)) (pw_and1 (pt_truth (pv 7) (by intro _; rfl))))) (pss_one (ps_ret pe_bl)) pss_nil)
      (C8.pss_cut (ps_set (i := 11) sc_law.nd rfl (.inl rfl) (pe_Book T (hr.mono (by decide)) passF (pa_cons (pv 2) (pa_cons (pe_ifExp (pt_cmpR op_lt (pv 3) pe_int (nomark _)) (pe_op op_add (pv 3) pe_int) pe_int) (pa_cons (pe_lst pa_nil) pa_nil)))))
      (C8.pss_cut (ps_set (i := 12) sc_law.nd rfl (.inl rfl) (pe_Book T (hr.mono (by decide)) passF (pa_cons (pe_ifExp (pt_cmpR op_lt (pv 2) pe_int (nomark _)) (pe_op op_add (pv 2) pe_int) pe_int) (pa_cons (pv 3) (pa_cons (pe_lst pa_nil) pa_nil)))))
      (pss_cons (ps_for PassesOwn.never rfl (pi_range1 (by rfl) T.n_range (pa_cons pe_int pa_nil)) (pg_name (i := 13) sc_law.nd rfl (.inl rfl)) (pss_one (ps_if (PW.pt (pw_or (pt_cmpR op_ne (pc0 c_unlike_books hr (by decide) (pa_cons (pv 13) (pa_cons (pv 10) (pa_cons (pv 11) pa_nil)))) pe_str (nomark _)) (pw_or1 (pt_cmpR op_ne (pc0 c_unlike_books hr (by decide) (pa_cons (pv 13) (pa_cons (pv 12) (pa_cons (pv 10) pa_nil)))) pe_str (nomark _))))) (pss_one (ps_ret pe_bl)) pss_nil)))
      (pss_one (ps_ret (pe_and (pe_not (pe_cmpR (k_eqB T (hr.mono (by decide))) (pv 11) (pe_Book T (hr.mono (by decide)) passF (pa_cons (pv 2) (pa_cons (pv 3) (pa_cons (pe_lst pa_nil) pa_nil)))) (nomark _))) (pe_and (pe_not (pe_cmpR (k_eqB T (hr.mono (by decide))) (pv 12) (pe_Book T (hr.mono (by decide)) passF (pa_cons (pv 2) (pa_cons (pv 3) (pa_cons (pe_lst pa_nil) pa_nil)))) (nomark _))) (pe_one (pc0 c_refusals hr (by decide) (pa_cons (pv 1) (pa_cons (pv 2) (pa_cons (pv 3) (pa_cons (pv 4) pa_nil)))))))))))))))))))))))))))))), ?_⟩
  walk_at "beg"
  walk_at "go"
  refine ⟨a, ns, 1410, rfl, ha, by omega, by decide, by decide, fun p q H1 s1 P1 => ?_⟩
  walk_at "go"
  refine ⟨p, q, rfl, P1, fun n H2 b2 P2 n2 n5 => ?_⟩
  walk_at "go"
  refine ⟨sz10 (by simp), r_new fun a3 H3 na3 s3 ha3 _ => ?_⟩
  walk_at "go"
  have a3p : a3 ≠ p := (P2.ne na3).1.symm
  refine ⟨p, q, 8, rfl, P2.same s3, by decide, by decide, fun v H4 v0 v1 b4 P4 => ?_⟩
  obtain ⟨x, hx, mx⟩ := pick (xs := [V.int 1, .int 2, .int 2, .int 2, .int 3, .int 3, .int 4, .int 4]) v0 v1
  obtain ⟨m, m1, m4, rfl⟩ : ∃ m : Nat, 1 ≤ m ∧ m ≤ 4 ∧ x = .int (m : Int) := by
    simp only [List.mem_cons, List.not_mem_nil, or_false] at mx
    rcases mx with rfl | rfl | rfl | rfl | rfl | rfl | rfl | rfl
    · exact ⟨1, by decide, by decide, rfl⟩
    · exact ⟨2, by decide, by decide, rfl⟩
    · exact ⟨2, by decide, by decide, rfl⟩
    · exact ⟨2, by decide, by decide, rfl⟩
    · exact ⟨3, by decide, by decide, rfl⟩
    · exact ⟨3, by decide, by decide, rfl⟩
    · exact ⟨4, by decide, by decide, rfl⟩
    · exact ⟨4, by decide, by decide, rfl⟩
  refine r_ixL (SqL.of (b4 _ _ ha3 a3p)) hx ?_
  walk_at "go"
  refine ⟨n, m, rfl, n5, m4, fun l rs H5 s5 nl hl Trs hrs erl => ?_⟩
  have P5 := P4.same s5
  have hlp : l ≠ p := refs_ne P5 hl
  have rl1 : 1 ≤ rs.length := by
    rw [erl]
    exact Nat.pow_pos m1
  have rl2 : rs.length ≤ 2000 := by
    rw [erl]
    exact Nat.le_trans (Nat.le_trans (Nat.pow_le_pow_left m4 n) (Nat.pow_le_pow_right (by decide) n5)) (by decide)
  walk_at "go"
  refine ⟨sz10 (by simp), r_new fun D H6 nD s6 hD _ => ?_⟩
  walk_at "go"
  have Dp : D ≠ p := (P5.ne nD).1.symm
  refine ⟨p, q, 13, rfl, P5.same s6, by decide, by decide, fun u H7 u0 u1 b7 P7 => ?_⟩
  refine r_rj u.toNat (by omega) (by omega) ?_
  refine forR_range (fun i σ H' => ∃ (ks : Ks) (v6 : Option V), σ = [some (.ref a), some (.ref p), some (.int (n : Int)), some (.int (m : Int)), some (.ref l), some (.ref D), v6, none, none, none, none, none, none, none] ∧ H' D = some (.lst (refs ks)) ∧ Tups H' ks ∧ (∀ r ∈ ks, isRow n m r.2) ∧ ks.length = i ∧ But p H5 H' ∧ Pot H' p q) ?_ ?_ ?_
  · exact ⟨[], none, rfl, b7 _ _ hD Dp, fun r hr => (by cases hr), fun r hr => (by cases hr), rfl, (Same.but s6).trans b7, P7⟩
  · rintro i σ H8 hi ⟨ks, v6, rfl, h1, h2, h3, h4, b8, P8⟩
    walk_at "go"
    refine ⟨ty_l h1, ?_⟩
    walk_at "go"
    refine ⟨p, q, n, m, rfl, P8, m1, by omega, by omega, fun eb er H9 b9 P9 heb hrow => ?_⟩
    have g1 := b9 _ _ h1 Dp
    walk_at "go"
    refine r_app g1 (by rw [refs_len]; omega) ?_
    have hne : ∀ ys, H9 D ≠ some (.tup ys) := fun ys z => by rw [g1] at z; cases z
    refine ⟨ks ++ [(eb, er)], _, rfl, by rw [upd_same, refs_app]; rfl, fun r hr => ?_, fun r hr => ?_, by rw [List.length_append, h4]; rfl, (b8.trans b9).fresh nD, P9.put Dp.symm fun z => ?_⟩
    · rcases List.mem_append.mp hr with hr | hr
      · exact (h2.but b9 P8).put hne r hr
      · rw [List.mem_singleton.mp hr]
        rw [upd_ne (fun e => hne er (by rw [← e]; exact heb))]
        exact heb
    · rcases List.mem_append.mp hr with hr | hr
      · exact h3 r hr
      · rw [List.mem_singleton.mp hr]
        exact hrow
    · exact (P5.ne nD).2 z
  · rintro σ H8 ⟨ks, v6, rfl, h1, h2, h3, h4, b8, P8⟩
    refine r_cut (fun σ' H' => ∃ (dl : Addr) (ks : Ks) (v6 : Option V), σ' = [some (.ref a), some (.ref p), some (.int (n : Int)), some (.int (m : Int)), some (.ref l), some (.ref dl), v6, none, none, none, none, none, none, none] ∧ But p H5 H' ∧ Pot H' p q ∧ H' dl = some (.lst (refs ks)) ∧ Tups H' ks ∧ (∀ r ∈ ks, isRow n m r.2) ∧ ks.length ≤ 256) ?_ ?_
    · walk_at "go"
      refine ⟨p, q, 12, rfl, P8, by decide, by decide, fun v' H9 v0' v1' b9 P9 => ?_⟩
      walk_at "go"
      refine ite_d (fun _ => ?_) (fun _ => ?_)
      · have hl9 := (b8.trans b9) _ _ hl hlp
        have T9 := Trs.but (b8.trans b9) P5
        walk_at "go"
        refine r_lstRev ?_
        walk_at "go"
        refine ⟨_, rfl, ?_⟩
        refine r_slL (SqL.of hl9) ?_
        have ec : cutV (refs rs) none (some 256) = refs (rs.take 256) := by
          rw [show (256 : Int) = ((256 : Nat) : Int) from rfl, cut_to]
          unfold refs
          rw [List.map_take]
        rw [ec]
        refine r_new fun c1 J1 _ z1 hc1 _ => ?_
        refine ⟨c1, _, rfl, SqL.of hc1, ?_⟩
        have er : (refs (rs.take 256)).reverse = refs (rs.take 256).reverse := by
          unfold refs
          rw [List.map_reverse]
        rw [er]
        refine r_new fun c2 J2 _ z2 hc2 _ => ?_
        walk_at "go"
        have sub : ∀ r ∈ (rs.take 256).reverse, r ∈ rs := fun r hr => List.mem_of_mem_take (List.mem_reverse.mp hr)
        exact ⟨c2, _, _, rfl, (b8.trans b9).same (z1.trans z2), P9.same (z1.trans z2), hc2, fun r hr => (z1.trans z2) _ _ (T9 r (sub r hr)), fun r hr => hrs r (sub r hr), by rw [List.length_reverse]; exact List.length_take_le _ _⟩
      · walk_at "go"
        exact ⟨D, ks, _, rfl, b8.trans b9, P9, b9 _ _ h1 Dp, h2.but b9 P8, h3, by omega⟩
    · rintro σ' H9 ⟨dl, ks, v6, rfl, b9, P9, hdl, Tks, hks, lks⟩
      have hl9 := b9 _ _ hl hlp
      have T9 := Trs.but b9 P5
      walk_at "go"
      refine ⟨dl, n, ks, rfl, hdl, Tks, by omega, fun r hr => ⟨(hks r hr).1, (hks r hr).ints⟩, by omega, fun du ds HA sA ndu hdu Tds subd Asc memd lds => ?_⟩
      walk_at "go"
      refine ⟨sz10 (by simp), r_new fun L HB nL sB hL _ => ?_⟩
      walk_at "go"
      have PA := P9.same sA
      have bA := b9.same sA
      have hlA := sA _ _ hl9
      have TA := T9.same sA
      have TkB := (Tks.same sA).same sB
      have hdlB := sB _ _ (sA _ _ hdl)
      have Lp : L ≠ p := (PA.ne nL).1.symm
      have Lq : L ≠ q := (PA.ne nL).2.symm
      refine ⟨_, rfl, r_slL (SqL.of hdlB) ?_⟩
      have lr := refs_len ks
      have ec3 : cutV (refs ks) none (some 3) = refs (ks.take 3) := by
        rw [show (3 : Int) = ((3 : Nat) : Int) from rfl, cut_to]
        unfold refs
        rw [List.map_take]
      rw [ec3]
      refine r_new fun c1 J1 _ z1 hc1 _ => ?_
      walk_at "go"
      refine r_len (.inl (SqL.of (z1 _ _ hdlB))) ?_
      walk_at "go"
      refine ⟨_, rfl, r_slL (SqL.of hc1) ?_⟩
      have ecn : cutV (refs (ks.take 3)) none (some (256 - ((refs ks).length : Int))) = refs ((ks.take 3).take (256 - ks.length)) := by
        rw [show (256 - ((refs ks).length : Int)) = ((256 - ks.length : Nat) : Int) by rw [lr]; omega, cut_to]
        unfold refs
        rw [← List.map_take]
      rw [ecn]
      refine r_new fun c2 J2 _ z2 hc2 _ => ?_
      have Z2 := z1.trans z2
      refine r_catN (Z2 _ _ hdlB) hc2 (by rw [refs_len, refs_len, List.length_take, List.length_take]; omega) fun S HC nS z3 hS => ?_
      have ess : refs ks ++ refs ((ks.take 3).take (256 - ks.length)) = refs (ks ++ (ks.take 3).take (256 - ks.length)) := by
        unfold refs
        rw [List.map_append]
      rw [ess] at hS
      have Z3 := Z2.trans z3
      have TkC := TkB.same Z3
      have msub : ∀ r ∈ ks ++ (ks.take 3).take (256 - ks.length), r ∈ ks := fun r hr => by
        rcases List.mem_append.mp hr with hr | hr
        · exact hr
        · exact List.mem_of_mem_take (List.mem_of_mem_take hr)
      have lss : (ks ++ (ks.take 3).take (256 - ks.length)).length ≤ 256 := by
        rw [List.length_append, List.length_take, List.length_take]
        omega
      have mss : ∀ r, r ∈ (ks ++ (ks.take 3).take (256 - ks.length)).map (·.2) ↔ r ∈ ks.map (·.2) := fun r => ⟨fun hr => by
        obtain ⟨x, hx, rfl⟩ := List.mem_map.mp hr
        exact List.mem_map.mpr ⟨x, msub x hx, rfl⟩, fun hr => by
        obtain ⟨x, hx, rfl⟩ := List.mem_map.mp hr
        exact List.mem_map.mpr ⟨x, List.mem_append.mpr (.inl hx), rfl⟩⟩
      generalize ks ++ (ks.take 3).take (256 - ks.length) = ss at hS msub lss mss
      have TsC : Tups HC ss := fun r hr => TkC r (msub r hr)
      have hss : ∀ r ∈ ss, isRow n m r.2 := fun r hr => hks r (msub r hr)
      have ZC := sB.trans Z3
      have hLC := Z3 _ _ hL
      have SL : S ≠ L := (ne_of_none (Z2 _ _ hL) nS).symm
      have PC := PA.same ZC
      have Sp : S ≠ p := (((PA.same sB).same Z2).ne nS).1.symm
      walk_at "go"
      refine r_il (SqL.of hS) ?_
      refine forR_list (refs ss) (fun i σ H' => ∃ (ys : List V) (ths : List Th) (v9 : Option V), σ = [some (.ref a), some (.ref p), some (.int (n : Int)), some (.int (m : Int)), some (.ref l), some (.ref dl), v6, some (.ref du), some (.ref L), v9, none, none, none, none] ∧ H' L = some (.lst ys) ∧ ys.length = i ∧ ths.length = i ∧ But p HA H' ∧ Pot H' p q ∧ H' S = some (.lst (refs ss)) ∧ Tups H' ss ∧
        (∀ (j : Nat) (y : V) (th : Th), ys[j]? = some y → ths[j]? = some th → Is H' y th) ∧ ths.map Th.ys = (ss.take i).map (·.2) ∧ ∀ y ∈ ys, Handed HA H' y ∧ y ≠ .ref L) ?_ ?_ ?_ ?_
      · exact ⟨[], [], none, rfl, hLC, rfl, rfl, Same.but ZC, PC, hS, TsC, fun j y th hy => (by simp at hy), rfl, fun y hy => (by cases hy)⟩
      · rintro i σ H' _ ⟨ys, ths, v9, rfl, _, _, _, _, _, h, _⟩
        exact SqL.of h
      · rintro i x σ H' hx ⟨ys, ths, v9, rfl, h1, h2, h3, hb, hP, hS', hT, hI, hM, hH⟩
        obtain ⟨pr, hi, rfl, hmem⟩ := refs_get hx
        have hi2 : i < ss.length := (List.getElem?_eq_some_iff.mp hi).1
        have hpr := hT pr hmem
        have row := hss pr hmem
        walk_at "go"
        refine ⟨ty_l h1, ?_⟩
        walk_at "go"
        obtain ⟨wp, hwp⟩ := hP.there
        refine ⟨p, q, pr.1, pr.2, rfl, hP, .inr hpr, ne_of hpr hwp (by intro z; cases z), fun b H2 bb P2' hbb => ?_⟩
        walk_at "go"
        have g1 := bb _ _ h1 Lp
        refine r_app g1 (by omega) ?_
        have hd : ∃ th, Is H2 (.ref b) th ∧ th.ys = pr.2 ∧ Handed HA H2 (.ref b) ∧ V.ref b ≠ .ref L := by
          have kn : ∀ y ∈ pr.2, Kn H2 y := fun y hy => by
            obtain ⟨j, rfl⟩ := row.ints y hy
            exact kn_int
          rcases hbb with ⟨hb0, hb1⟩ | hb1
          · refine ⟨.sq true b pr.2, ⟨rfl, hb1, kn⟩, rfl, ⟨b, rfl, .inl ⟨hb.free hb0 ⟨_, hwp⟩, pr.2, fun z => ?_, hb1⟩⟩, fun z => ?_⟩
            · have := row.1
              rw [z] at this
              simp at this
              omega
            · injection z with z
              rw [z, h1] at hb0
              cases hb0
          · refine ⟨.sq false b pr.2, ⟨rfl, hb1, kn⟩, rfl, ⟨b, rfl, .inr ⟨pr.2, hb1⟩⟩, fun z => ?_⟩
            injection z with z
            rw [z, g1] at hb1
            cases hb1
        obtain ⟨th, hth, eth, hand, nbL⟩ := hd
        have pA : ∃ o, HA p = some o := by
          obtain ⟨zs, hz⟩ := PA.there
          exact ⟨_, hz⟩
        refine ⟨ys ++ [.ref b], ths ++ [th], _, rfl, upd_same, by rw [List.length_append, h2]; rfl, by rw [List.length_append, h3]; rfl, (hb.trans bb).fresh nL, P2'.put Lp.symm Lq.symm, by rw [upd_ne SL]; exact bb _ _ hS' Sp, (hT.but bb hP).put (fun zs z => by rw [g1] at z; cases z), fun j y t hy ht => ?_, ?_, fun y hy => ?_⟩
        · rcases Nat.lt_trichotomy j i with lt | e | gt
          · rw [List.getElem?_append_left (by omega)] at hy ht
            have hm := List.mem_of_getElem? hy
            exact ((hI j y t hy ht).but bb hP P2' ((hH y hm).1.old pA hwp)).put g1 (hH y hm).2
          · rw [List.getElem?_append_right (by omega), e, h2, Nat.sub_self] at hy
            rw [List.getElem?_append_right (by omega), e, h3, Nat.sub_self] at ht
            cases hy
            cases ht
            exact hth.put g1 nbL
          · rw [List.getElem?_eq_none (by rw [List.length_append]; simp; omega)] at hy
            cases hy
        · rw [List.map_append, hM, take_next hi, List.map_append]
          simp [eth]
        · rcases List.mem_append.mp hy with hy | hy
          · obtain ⟨w1, w2⟩ := hH y hy
            refine ⟨w1.keep fun c u e hc => ?_, w2⟩
            rw [upd_ne (fun z => w2 (by rw [e, z]))]
            exact bb c u hc fun z => w1.old pA hwp (by rw [e, z])
          · rw [List.mem_singleton.mp hy]
            refine ⟨hand.keep fun c u e hc => ?_, nbL⟩
            rw [upd_ne (fun z => nbL (by rw [e, z]))]
            exact hc
      · rintro σ H' ⟨ys, ths, v9, rfl, h1, h2, h3, hb, hP, hS', hT, hI, hM, hH⟩
        have tl : ss.take (refs ss).length = ss := by rw [refs_len]; exact List.take_length
        rw [tl] at hM
        rw [refs_len] at h2 h3
        have goodth : ∀ th ∈ ths, isRow n m th.ys := fun th ht => by
          have hm : th.ys ∈ ths.map Th.ys := List.mem_map.mpr ⟨th, ht, rfl⟩
          rw [hM] at hm
          obtain ⟨r, hr', e⟩ := List.mem_map.mp hm
          rw [← e]
          exact hss r hr'
        walk_at "go"
        refine mkQ (book_ths n2 n5 m1 m4 ⟨L, ys, rfl, h1, by omega, by omega, hI⟩ goodth fun o js H3 z3' no B hm => ?_)
        have jd : js.map (·.2) = ds.map (·.2) := asc_one B.asc Asc fun r => by rw [hm, hM, mss, memd]
        walk_at "go"
        have g1 := z3' _ _ h1
        refine ⟨ty_l g1, ?_⟩
        walk_at "go"
        refine r_app g1 (by omega) ?_
        have pA : ∃ o, HA p = some o := by
          obtain ⟨zs, hz⟩ := PA.there
          exact ⟨_, hz⟩
        have B4 : BookAt K (L2.upd H3 L (.lst (ys ++ [.non]))) o n m js := B.put g1
        have b4' : But p HA (L2.upd H3 L (.lst (ys ++ [.non]))) := (hb.same z3').fresh nL
        have P4' : Pot (L2.upd H3 L (.lst (ys ++ [.non]))) p q := (hP.same z3').put Lp.symm Lq.symm
        have H4' : ∀ y ∈ ys, Handed HA (L2.upd H3 L (.lst (ys ++ [.non]))) y := fun y hy => by
          obtain ⟨w1, w2⟩ := hH y hy
          refine w1.keep fun c u e hc => ?_
          rw [upd_ne (fun z => w2 (by rw [e, z]))]
          exact z3' _ _ hc
        have hL4 : L2.upd H3 L (.lst (ys ++ [.non])) L = some (.lst (ys ++ [.non])) := upd_same
        generalize L2.upd H3 L (.lst (ys ++ [.non])) = H5' at B4 b4' P4' H4' hL4
        walk_at "go"
        refine ⟨_, rfl, r_slL (SqL.of hL4) ?_⟩
        have ec2 : cutV (ys ++ [V.non]) none (some 2) = (ys ++ [V.non]).take 2 := cut_to _ 2
        rw [ec2]
        refine r_new fun W H6' nW s6' hW _ => ?_
        have Wp : W ≠ p := (P4'.ne nW).1.symm
        have hws : ∀ y ∈ (ys ++ [V.non]).take 2, y = .non ∨ (Handed HA H6' y ∧ y ≠ .ref W) := fun y hy => by
          rcases List.mem_append.mp (List.mem_of_mem_take hy) with hy | hy
          · refine .inr ⟨(H4' y hy).same s6', fun z => ?_⟩
            have h0 := H4' y hy
            rw [z] at h0
            obtain ⟨u, hu⟩ := h0.there
            rw [nW] at hu
            cases hu
          · exact .inl (List.mem_singleton.mp hy)
        generalize (ys ++ [V.non]).take 2 = ws at hW hws
        refine r_il (SqL.of hW) ?_
        refine forR_list ws (fun i σ H' => ∃ (v9 : Option V), σ = [some (.ref a), some (.ref p), some (.int (n : Int)), some (.int (m : Int)), some (.ref l), some (.ref dl), v6, some (.ref du), some (.ref L), v9, some (.ref o), none, none, none] ∧ But p HA H' ∧ Pot H' p q ∧ H' W = some (.lst ws) ∧ BookAt K H' o n m js ∧ ∀ y ∈ ws, y = .non ∨ (Handed HA H' y ∧ y ≠ .ref W)) ?_ ?_ ?_ ?_
        · exact ⟨_, rfl, b4'.same s6', P4'.same s6', hW, B4.same s6', hws⟩
        · rintro i σ H' _ ⟨v9, rfl, _, _, h, _⟩
          exact SqL.of h
        · rintro i x σ H' hx ⟨v9, rfl, hb, hP, hW', hB, hH⟩
          have xm := List.mem_of_getElem? hx
          walk_at "go"
          have kx : Kn H' x := by
            rcases hH x xm with rfl | ⟨h, _⟩
            · exact .inl rfl
            · exact h.kn
          refine r_isi kx (by decide) ?_
          refine ⟨_, rfl, ?_⟩
          rcases hH x xm with rfl | ⟨⟨b, rfl, h⟩, nW'⟩
          · rw [show isA (knTy H' V.non) "list" = false from (by decide : isA "NoneType" "list" = false)]
            walk_at "go"
            exact ⟨_, rfl, hb, hP, hW', hB, hH⟩
          · rcases h with ⟨hb0, xs, xne, hbx⟩ | ⟨xs, hbx⟩
            · have ek : knTy H' (.ref b) = "list" := by
                show (match H' b with | some (.lst _) => "list" | _ => "tuple") = _
                rw [hbx]
              rw [ek, show isA "list" "list" = true from by decide]
              walk_at "go"
              have x0 : 0 < xs.length := List.length_pos_iff.mpr xne
              refine r_setL (j := 0) hbx ?_ ?_
              · unfold ixN
                rw [if_pos (Int.le_refl _), if_pos (by omega)]
                rfl
              · have bp : b ≠ p := by
                  obtain ⟨u, hu⟩ := pA
                  intro z
                  rw [z, hu] at hb0
                  cases hb0
                have bq : b ≠ q := (PA.ne hb0).2.symm
                refine ⟨_, rfl, hb.fresh hb0, hP.put bp.symm bq.symm, ?_, hB.put hbx, fun y hy => ?_⟩
                · rw [upd_ne (fun z => nW' (by rw [z]))]
                  exact hW'
                · rcases hH y hy with e | ⟨⟨c, rfl, hc⟩, nc⟩
                  · exact .inl e
                  · refine .inr ⟨⟨c, rfl, ?_⟩, nc⟩
                    by_cases e : c = b
                    · subst e
                      exact .inl ⟨hb0, _, fun z => by
                        have := congrArg List.length z
                        rw [List.length_set] at this
                        simp at this
                        rw [this] at x0
                        exact absurd x0 (by simp), upd_same⟩
                    · exact hc.imp (fun ⟨w1, zs, w2, w3⟩ => ⟨w1, zs, w2, by rw [upd_ne e]; exact w3⟩) fun ⟨zs, w3⟩ => ⟨zs, by rw [upd_ne e]; exact w3⟩
            · have ek : knTy H' (.ref b) = "tuple" := by
                show (match H' b with | some (.lst _) => "list" | _ => "tuple") = _
                rw [hbx]
              rw [ek, show isA "tuple" "list" = false from by decide]
              walk_at "go"
              exact ⟨_, rfl, hb, hP, hW', hB, hH⟩
        · rintro σ H' ⟨v9, rfl, hb, hP, hW', hB, hH⟩
          have hdu' := hb _ _ hdu (refs_ne PA hdu)
          have Tds' := Tds.but hb PA
          have hl' := hb _ _ hlA hlp
          have T' := TA.but hb PA
          have hds : ∀ r ∈ ds, isRow n m r.2 := fun r hr => hks r (subd r hr)
          walk_at "go"
          obtain ⟨dx, T1, ho, R⟩ := hB.inputs
          have jrow : ∀ r ∈ js, Ints r.2 ∧ r.2.length ≤ 1000 := fun r hr' => ⟨(hB.rows r hr').ints, by have := (hB.rows r hr').1; omega⟩
          have jlen := hB.len
          have jdl : js.length = ds.length := by
            have e := congrArg List.length jd
            rwa [List.length_map, List.length_map] at e
          refine ⟨o, _, dx, _, _, rfl, ho, T.cBook, T.a_Book_n, rfl, ?_⟩
          walk_at "go"
          refine ⟨o, _, dx, _, _, rfl, ho, T.cBook, T.a_Book_m, rfl, ?_⟩
          walk_at "go"
          refine ⟨o, _, dx, _, _, rfl, ho, T.cBook, T.a_Book_inputs, rfl, ?_⟩
          walk_at "go"
          refine ⟨sz10 (by simp), r_new fun t1 K1 _ y1 ht1 _ => ?_⟩
          walk_at "go"
          refine r_tupL (SqL.of (y1 _ _ hdu')) fun t2 K2 _ y2 ht2 _ => ?_
          walk_at "go"
          refine ⟨sz10 (by simp), r_new fun t3 K3 _ y3 ht3 _ => ?_⟩
          walk_at "go"
          have Y3 := (y1.trans y2).trans y3
          refine ⟨_, _, rfl, Eqs.three (k := 2) ((y2.trans y3) _ _ ht1) ht3 (Eqs.atom rfl 2) (Eqs.atom rfl 2) (Eqs.rows (k := 0) (Y3 _ _ R.tup) (y3 _ _ ht2) (R.tups.same Y3) (Tds'.same Y3) jd jrow (by omega)), fun K4 y4 => ?_⟩
          have Y4 := Y3.trans y4
          walk_at "go"
          refine ⟨o, n, m, js, rfl, hB.same Y4, ?_⟩
          walk_at "go"
          refine r_len (.inl (SqL.of (Y4 _ _ hdu'))) ?_
          walk_at "go"
          refine ⟨_, _, rfl, by rw [refs_len, jdl]; exact Eqs.atom rfl 3, fun K5 y5 => ?_⟩
          have Y5 := Y4.trans y5
          walk_at "go"
          refine r_iBook ?_
          walk_at "go"
          refine ⟨o, n, m, js, dx, T1, rfl, Y5 _ _ ho, Y5 _ _ R.tup, ?_⟩
          refine lcR_tup (refs js) (fun M i J => J M = some (.lst ((refs js).take i)) ∧ L2.Same K5 J) ?_ ?_ ?_ ?_
          · intro M hM
            exact ⟨upd_same, Same.new hM⟩
          · rintro M i J hM hi' ⟨h1, h2⟩
            exact SqT.of (h2 _ _ (Y5 _ _ R.tup))
          · rintro M i x J hM hx ⟨h1, h2⟩
            walk_at "go"
            have hi3 := (List.getElem?_eq_some_iff.mp hx).1
            rw [refs_len] at hi3
            refine r_lcA h1 (by have := List.length_take_le i (refs js); omega) ⟨?_, Same.fresh h2 hM⟩
            rw [upd_same, List.take_add_one, hx]
            rfl
          · rintro M K6 hM ⟨h1, y6⟩
            rw [List.take_length] at h1
            have Y6 := Y5.trans y6
            walk_at "go"
            refine r_tupL (SqL.of h1) fun t4 K7 _ y7 ht4 _ => ?_
            walk_at "go"
            refine r_tupL (SqL.of ((Y6.trans y7) _ _ hdu')) fun t5 K8 _ y8 ht5 _ => ?_
            walk_at "go"
            have Y8 := (Y6.trans y7).trans y8
            refine ⟨_, _, rfl, Eqs.rows (k := 1) (y8 _ _ ht4) ht5 (R.tups.same Y8) (Tds'.same Y8) jd jrow (by omega), fun K9 y9 => ?_⟩
            have Y9 := Y8.trans y9
            walk_at "go"
            refine mkQ (book_rows n2 n5 m1 m4 (Y9 _ _ hdu') (Tds'.same Y9) hds (by omega) fun o2 js2 KA yA _ B2 hm2 => ?_)
            have YA := Y9.trans yA
            have jd2 : js.map (·.2) = js2.map (·.2) := asc_one hB.asc B2.asc fun r => by rw [hm2, jd]
            walk_at "go"
            refine ⟨o, n, m, js, rfl, hB.same YA, .inl ⟨o2, n, m, js2, rfl, B2, ?_⟩⟩
            rw [decide_eq_true (p := n = n ∧ m = m ∧ js.map (·.2) = js2.map (·.2)) ⟨rfl, rfl, jd2⟩]
            walk_at "go"
            refine r_tupL (SqL.of (YA _ _ hdu')) fun t6 KB _ yB ht6 _ => ?_
            have YB := YA.trans yB
            walk_at "go"
            refine ⟨o, n, m, js, rfl, hB.same YB, .inr ⟨t6, _, rfl, ht6, ?_⟩⟩
            walk_at "go"
            refine ⟨p, q, o, l, du, n, m, js, rs, ds, rfl, hP.same YB, hB.same YB, YB _ _ hl', T'.same YB, hrs, fun z => ?_, rl2, YB _ _ hdu', Tds'.same YB, hds, jd.symm, fun KC wC PC' => ?_⟩
            · rw [z] at rl1
              exact absurd rl1 (by simp)
            have dup := refs_ne (hP.same YB) (YB _ _ hdu')
            walk_at "go"
            refine ⟨p, q, o, du, n, m, js, ds, rfl, PC', (hB.same YB).but wC (hP.same YB), wC _ _ (YB _ _ hdu') dup, (Tds'.same YB).but wC (hP.same YB), hds, jd.symm, fun KD wD PD' => ?_⟩
            have wCD := wC.trans wD
            walk_at "go"
            refine ⟨p, q, o, du, n, m, js, ds, rfl, PD', (hB.same YB).but wCD (hP.same YB), wCD _ _ (YB _ _ hdu') dup, (Tds'.same YB).but wCD (hP.same YB), hds, jd.symm, fun KE wE PE' => ?_⟩
            have wCE := wCD.trans wE
            have BE := (hB.same YB).but wCE (hP.same YB)
            have hduE := wCE _ _ (YB _ _ hdu') dup
            have TdsE := (Tds'.same YB).but wCE (hP.same YB)
            have hlE := wCE _ _ (YB _ _ hl') hlp
            have TE := (T'.same YB).but wCE (hP.same YB)
            walk_at "go"
            have lp' := wCE
            refine r_cut (fun σ' J => σ' = [some (.ref a), some (.ref p), some (.int (n : Int)), some (.int (m : Int)), some (.ref l), some (.ref dl), v6, some (.ref du), some (.ref L), v9, some (.ref o), none, none, none] ∧ L2.Same KE J) ?_ ?_
            · walk_at "go"
              refine ⟨_, rfl, ?_⟩
              walk_at "go"
              refine r_slL (SqL.of hduE) ?_
              have ec1 : cutV (refs ds) (some 1) none = refs (ds.drop 1) := by
                rw [cut_from1]
                unfold refs
                rw [List.map_drop]
              rw [ec1]
              refine r_new fun c J1' _ q1 hc _ => ?_
              walk_at "go"
              refine mkQ (book_rows n2 n5 m1 m4 hc (fun r hr' => q1 _ _ (TdsE r (List.mem_of_mem_drop hr'))) (fun r hr' => hds r (List.mem_of_mem_drop hr')) (by rw [List.length_drop]; omega) fun o3 js3 J2' q2 _ B3 hm3 => ?_)
              have Q2 := q1.trans q2
              walk_at "go"
              refine ⟨o, n, m, js, rfl, BE.same Q2, .inl ⟨o3, n, m, js3, rfl, B3, ?_⟩⟩
              refine ⟨_, rfl, ?_⟩
              refine ite_d (fun hyes => ?_) (fun hno => ?_)
              · walk_at "go"
                refine ⟨_, tru_lst (Q2 _ _ hduE), ?_⟩
                cases hE : ds with
                | nil =>
                  rw [show (!(refs ([] : Ks)).isEmpty) = false from rfl]
                  walk_at "go"
                  exact ⟨rfl, Q2⟩
                | cons d dt =>
                  refine absurd hyes.2.2 fun z => ?_
                  have Asc' := Asc
                  rw [hE] at Asc'
                  have hin : d.2 ∈ js3.map (·.2) := by
                    rw [← z, jd, hE]
                    exact List.mem_cons_self ..
                  rw [hm3, hE] at hin
                  obtain ⟨x, hx', e⟩ := List.mem_map.mp hin
                  exact rowLt_irrefl d.2 ((List.pairwise_cons.mp Asc').1 d.2 (by rw [← e]; exact List.mem_map.mpr ⟨x, hx', rfl⟩))
              · walk_at "go"
                exact ⟨rfl, Q2⟩
            · rintro σ' J ⟨rfl, yJ⟩
              have BJ := BE.same yJ
              have PJ := PE'.same yJ
              refine r_cut (fun σ' J' => ∃ (wo : Addr) (m' : Nat), σ' = [some (.ref a), some (.ref p), some (.int (n : Int)), some (.int (m : Int)), some (.ref l), some (.ref dl), v6, some (.ref du), some (.ref L), v9, some (.ref o), some (.ref wo), none, none] ∧ L2.Same J J' ∧ BookAt K J' wo n m' [] ∧ m' ≠ m) ?_ ?_
              · walk_at "go"
                refine ite_d (fun h4 => ?_) (fun h4 => ?_)
                · walk_at "go"
                  refine ⟨sz10 (by simp), r_new fun c J1' _ q1 hc _ => ?_⟩
                  walk_at "go"
                  refine mkQ ?_
                  rw [show ((m : Int) + 1) = ((m + 1 : Nat) : Int) by omega]
                  refine book_none n2 n5 (by omega) (by omega) hc fun o3 J2' q2 B3 => ?_
                  walk_at "go"
                  exact ⟨o3, m + 1, rfl, q1.trans q2, B3, by omega⟩
                · walk_at "go"
                  refine ⟨sz10 (by simp), r_new fun c J1' _ q1 hc _ => ?_⟩
                  walk_at "go"
                  refine mkQ ?_
                  rw [show (1 : Int) = ((1 : Nat) : Int) from rfl]
                  refine book_none n2 n5 (by omega) (by omega) hc fun o3 J2' q2 B3 => ?_
                  walk_at "go"
                  exact ⟨o3, 1, rfl, q1.trans q2, B3, by omega⟩
              · rintro σ' JA ⟨wo, m', rfl, yA', BW, nm⟩
                have BA := BJ.same yA'
                refine r_cut (fun σ' J' => ∃ (lo : Addr) (n' : Nat), σ' = [some (.ref a), some (.ref p), some (.int (n : Int)), some (.int (m : Int)), some (.ref l), some (.ref dl), v6, some (.ref du), some (.ref L), v9, some (.ref o), some (.ref wo), some (.ref lo), none] ∧ L2.Same JA J' ∧ BookAt K J' lo n' m [] ∧ n' ≠ n) ?_ ?_
                · walk_at "go"
                  refine ite_d (fun h4 => ?_) (fun h4 => ?_)
                  · walk_at "go"
                    refine ⟨sz10 (by simp), r_new fun c J1' _ q1 hc _ => ?_⟩
                    walk_at "go"
                    refine mkQ ?_
                    rw [show ((n : Int) + 1) = ((n + 1 : Nat) : Int) by omega]
                    refine book_none (by omega) (by omega) m1 m4 hc fun o3 J2' q2 B3 => ?_
                    walk_at "go"
                    exact ⟨o3, n + 1, rfl, q1.trans q2, B3, by omega⟩
                  · walk_at "go"
                    refine ⟨sz10 (by simp), r_new fun c J1' _ q1 hc _ => ?_⟩
                    walk_at "go"
                    refine mkQ ?_
                    rw [show (2 : Int) = ((2 : Nat) : Int) from rfl]
                    refine book_none (by omega) (by omega) m1 m4 hc fun o3 J2' q2 B3 => ?_
                    walk_at "go"
                    exact ⟨o3, 2, rfl, q1.trans q2, B3, by omega⟩
                · rintro σ' JB ⟨lo, n', rfl, yB', BL, nn⟩
                  have yJB := yA'.trans yB'
                  have BB := BJ.same yJB
                  have BWB := BW.same yB'
                  walk_at "go"
                  refine r_rj 4 rfl (by decide) ?_
                  refine forR_range (fun i σ J => ∃ (v13 : Option V), σ = [some (.ref a), some (.ref p), some (.int (n : Int)), some (.int (m : Int)), some (.ref l), some (.ref dl), v6, some (.ref du), some (.ref L), v9, some (.ref o), some (.ref wo), some (.ref lo), v13] ∧ L2.Same JB J) ?_ ?_ ?_
                  · exact ⟨none, rfl, fun _ _ e => e⟩
                  · rintro i σ J hi ⟨v13, rfl, yC⟩
                    walk_at "go"
                    refine ⟨_, o, wo, n, m, n, m', js, [], rfl, BB.same yC, BWB.same yC, .inr nm.symm, ?_⟩
                    walk_at "go"
                    refine r_neU ?_
                    walk_at "go"
                    refine ⟨_, lo, o, n', m, n, m, [], js, rfl, BL.same yC, BB.same yC, .inl nn, ?_⟩
                    walk_at "go"
                    refine r_neU ?_
                    walk_at "go"
                    exact ⟨_, rfl, yC⟩
                  · rintro σ J ⟨v13, rfl, yC⟩
                    walk_at "go"
                    refine ⟨sz10 (by simp), r_new fun c1' M1 _ x1 hc1' _ => ?_⟩
                    walk_at "go"
                    refine mkQ (book_none n2 n5 m1 m4 hc1' fun o4 M2 x2 B4 => ?_)
                    have X2 := (yC.trans x1).trans x2
                    walk_at "go"
                    refine ⟨wo, n, m', [], rfl, BWB.same X2, .inl ⟨o4, n, m, [], rfl, B4, ?_⟩⟩
                    rw [decide_eq_false (p := n = n ∧ m' = m ∧ ([] : Ks).map (·.2) = ([] : Ks).map (·.2)) (fun z => nm z.2.1)]
                    walk_at "go"
                    refine ⟨sz10 (by simp), r_new fun c2' M3 _ x3 hc2' _ => ?_⟩
                    walk_at "go"
                    refine mkQ (book_none n2 n5 m1 m4 hc2' fun o5 M4 x4 B5 => ?_)
                    have X4 := (X2.trans x3).trans x4
                    walk_at "go"
                    refine ⟨lo, n', m, [], rfl, BL.same X4, .inl ⟨o5, n, m, [], rfl, B5, ?_⟩⟩
                    rw [decide_eq_false (p := n' = n ∧ m = m ∧ ([] : Ks).map (·.2) = ([] : Ks).map (·.2)) (fun z => nn z.1)]
                    walk_at "go"
                    have XJ := yJB.trans X4
                    exact ⟨p, q, l, n, m, rs, rfl, PJ.same XJ, XJ _ _ (yJ _ _ hlE), (TE.same yJ).same XJ, hrs, fun z => (by rw [z] at rl1; exact absurd rl1 (by simp)), rl2, n2, n5, m1, m4, fun H' _ _ => k H'⟩
end
end Kb
set_option Elab.async false
set_option linter.all false
set_option maxRecDepth 100000
set_option maxHeartbeats 0
namespace Kb
open PySem PySem.Spec PyProof.Rows L2
/-! ### the law, called -/
section
variable {P : Program} {w : World} {K : PySem.W.Frag} {mg mb : Str → Option Value} {k : Nat} {fa a : Addr} {fd : FuncData} {x : Str} {sp : Sp} {s1 : Shared} {vs : List Value} {ns : List Int}
abbrev Says (s1 : Shared) : Result → Shared → Prop := fun r s' => r = .ok (.ret (.bool true)) ∧ OldK s1.heap s'.heap ∧ s'.os = s1.os ∧ AllBare s'.gens
/-- at an abstract heap that knows the script, or nothing -/
theorem head_at (KX : K.In s1.heap) (hg : s1.heap.Ns mainGlobals mg) (hb : s1.heap.Ns builtinsNs mb) (hbb : ∀ x : Str, x ≠ "__name__" → mb x = bootBuiltins x) (lim : s1.heap.NoLimit) (gens : s1.gens = #[]) (hr : Room k callerA)
    (F : ∀ base : Heap, K.In base → base.Ns mainGlobals mg → FnG P w K mg base k fa fd [x] sp) (bind : ∀ (s : Shared) (u : Value), BindsTo s fd ⟨[u], []⟩ [(x, u)])
    (H : Hp) (only : Only H) (ok : HOk P w H s1.heap) (list : ∀ b o, H b = some o → (∃ u, s1.heap.get? b = some u ∧ u.cls = .type "list" ∧ ∃ xs n, u.data = .seq xs n) ∧ K.lookup b = none)
    (law : sp [.ref a] H (fun v _ => v = .bl true) fun _ _ _ => False) : codeAny (model P w) callerA (.call (.ref fa) ⟨[.ref a], []⟩) (Says s1) s1 := by
  have base : ∀ {b : Addr} {o : Obj}, s1.heap.get? b = some o → (∀ xs n, o.data ≠ .seq xs n) → (hidT s1.heap H).get? b = some o := fun {b o} e no => by
    refine hidT_get e (Option.eq_none_iff_forall_ne_some.mpr fun u hu => ?_)
    obtain ⟨⟨v, hv, _, xs, n, d⟩, _⟩ := list b u hu
    rw [e] at hv
    cases hv
    exact no xs n d
  have names : ∀ {b : Addr} {m : Str → Option Value}, s1.heap.Ns b m → (hidT s1.heap H).Ns b m := fun {b m} n => by
    obtain ⟨o, es, ep, e, d, r⟩ := n
    exact ⟨o, es, ep, base e (fun xs n z => by rw [d] at z; cases z), d, r⟩
  have KB : K.In (hidT s1.heap H) := fun b o e => by
    refine hidT_get (KX b o e) (Option.eq_none_iff_forall_ne_some.mpr fun u hu => ?_)
    have z := (list b u hu).2
    rw [e] at z
    cases z
  obtain ⟨mc, l1, l2⟩ := lim
  have env : Env0 P w K mg (hidT s1.heap H) callerA [] s1 H := ⟨rfl, ⟨KB, names hg, ⟨mb, names hb, hbb⟩, ⟨mc, names l1, l2⟩⟩, fun b o e => of_hidT e, Nat.le_of_eq (hidT_size _ _), trivial, fun b z => absurd (show b ∈ ([] : List Addr) from z) (by simp), ok, .of_eq gens⟩
  refine codeAny_mono ((F _ KB (names hg)).run callerA [] s1 H ⟨[.ref a], []⟩ [.ref a] [.ref a] _ _ hr rfl env (bind s1 _) (.cons rfl .nil) law) fun r s' back => ?_
  match r, back with
  | .error e, back => exact back.elim
  | .ok .next, back => exact back.elim
  | .ok .brk, back => exact back.elim
  | .ok .cont, back => exact back.elim
  | .ok (.ret u), back =>
    obtain ⟨v, H', os, bare, un, ok', rv, q⟩ := back
    have q : v = .bl true := q
    subst q
    obtain rfl : u = Value.bool true := rv
    refine ⟨rfl, OldK.of_keep fun b o e => ?_, os, bare⟩
    rcases only b with z | ⟨ob, xs, z⟩
    · exact un.keep b o e z (fun y => absurd (show b ∈ ([] : List Addr) from y) (by simp)) (by simp)
    · have e1 := (ok b _ z).1
      rw [e] at e1
      cases e1
      exact (ok' b _ (un.frzs b _ _ z)).1
theorem head_call (KX : K.In s1.heap) (hg : s1.heap.Ns mainGlobals mg) (hb : s1.heap.Ns builtinsNs mb) (hbb : ∀ x : Str, x ≠ "__name__" → mb x = bootBuiltins x) (lim : s1.heap.NoLimit) (gens : s1.gens = #[])
    (ha : s1.heap.get? a = some { cls := .type "list", data := .seq vs.toArray }) (hi : IntsAre vs ns) (hl : ns.length ≤ sizeLine) (hr : Room k callerA)
    (F : ∀ base : Heap, K.In base → base.Ns mainGlobals mg → FnG P w K mg base k fa fd [x] sp) (bind : ∀ (s : Shared) (u : Value), BindsTo s fd ⟨[u], []⟩ [(x, u)])
    (law : ∀ H : Hp, Only H → SqL K H a (ns.map V.int) → sp [.ref a] H (fun v _ => v = .bl true) fun _ _ _ => False) : codeAny (model P w) callerA (.call (.ref fa) ⟨[.ref a], []⟩) (Says s1) s1 := by
  have rv := vals_ints hi
  have len := hi.length
  cases hk : K.lookup a with
  | some o =>
    have e := KX a o hk
    rw [ha] at e
    cases e
    refine head_at KX hg hb hbb lim gens hr F bind (fun _ => none) (fun _ => .inl rfl) (fun b u z => (by cases z)) (fun b u z => (by cases z)) (law _ (fun _ => .inl rfl) ?_)
    exact .inr ⟨_, vs.toArray, _, hk, rfl, rfl, rfl, by rw [List.size_toArray, len]; exact hl, by simpa using rv⟩
  | none =>
    have at_ : ∀ (b : Addr) (u : HO), (if b = a then some (HO.frz { cls := .type "list", data := .seq vs.toArray } (.lst (ns.map V.int))) else none) = some u → b = a ∧ u = .frz { cls := .type "list", data := .seq vs.toArray } (.lst (ns.map V.int)) := fun b u z => by
      by_cases c : b = a
      · rw [if_pos c] at z
        exact ⟨c, (Option.some.inj z).symm⟩
      · rw [if_neg c] at z
        cases z
    have only : Only fun b => if b = a then some (HO.frz { cls := .type "list", data := .seq vs.toArray } (.lst (ns.map V.int))) else none := fun b => by
      by_cases c : b = a
      · exact .inr ⟨_, _, if_pos c⟩
      · exact .inl (if_neg c)
    refine head_at KX hg hb hbb lim gens hr F bind _ only (fun b u z => ?_) (fun b u z => ?_) (law _ only (.inl (.inr ⟨_, if_pos rfl⟩)))
    · obtain ⟨rfl, rfl⟩ := at_ b u z
      exact ⟨ha, by rw [List.length_map]; exact hl, vs, _, rv, ha⟩
    · obtain ⟨rfl, _⟩ := at_ b u z
      exact ⟨⟨_, ha, rfl, _, _, rfl⟩, hk⟩
end
end Kb
open PySem PySem.W PySem.Calls PyProof.Rows
theorem PySem.Challenge.cw_firmvalues_k10_whole_books_and_views_holds : PySem.Challenge.rw_firmvalues_k10_whole_books_and_views.Holds := by
  w_on; o_law
  refine HandSHeadRun.head_any (r := Kb.R) (q := view (Kb.R).prog [43]) (H := Kb.hookK) (ob := Kb.ob) (M := 3200) (loose := Kb.loose) (d := HandSHeadRun.topDef (Kb.R).prog 43) (kwd := []) Kb.ob_eq
    (by kernel_rfl) (fun s => by kernel_rfl) Kb.run (by kernel_rfl) (by kernel_rfl) (by kernel_rfl) (by rfl) (by first | assumption | decide +kernel) (by decide +kernel) ⟨rfl, rfl, rfl, rfl, rfl, by decide +kernel⟩ ?hw ?hc
  case hw => w_witness2
  case hc =>
    refine Att.attach_call (l := PySem.Challenge.rw_firmvalues_k10_whole_books_and_views) (n := 63) rfl (by kernel_rfl) fun w s0 s1 mg mb fa o pm cd doc a vs ns G Y ho hd hcd hmg0 hobj hi hlen hg => ?_
    obtain ⟨K, KX, c1, c2⟩ := Y
    have hmg : mg ("law" : PySem.Str) = some (.ref fa) := by
      have e : (HandSHeadRun.topDef (Kb.R).prog 43).name = ("law" : PySem.Str) := by kernel_rfl
      rw [← e]
      exact hmg0
    have T : Kb.Txt K mg := ⟨c1, c2, _, KX, G.T.g⟩
    have e := hmg.symm.trans T.g_law
    cases e
    obtain ⟨fd, F⟩ := T.u_law
    have b := L2.FunD.bindsA (ps := ["_law_script"]) F fun _ _ _ _ _ _ us hl => match us, hl with | [_], _ => rfl
    exact Kb.head_call (k := 10) (x := "_law_script") (sp := Kb.spLaw K) KX G.T.g G.T.b G.T.builtins G.T.nolimit hg hobj hi (Nat.le_trans hlen (by decide)) ⟨rfl, by decide, by decide⟩ (fun base _ _ => Kb.ok_law T F) (fun s v => b s [v] rfl) fun H _ hS => ⟨a, ns, rfl, hS, hlen, fun _ => rfl⟩
