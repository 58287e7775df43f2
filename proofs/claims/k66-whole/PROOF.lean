import PyProof.Rows.All
import Wide.All
import OpenK.AllK
import Wide.FinOn
import HandS.ForMost
import HandS.Defaults
import HandS.HeadHook1
import HandS.HeadHook2
import HandS.HeadHook3
import HandS.HeadHook4
import HandS.ClsMeth
import HandS.IsInst
import HandS.Lambda
import PySem.Challenge.RW_forcedbook_k66_whole_sure_and_waiting_ag
import HandS.DictComp
import HandS.TupAny
import HandS.Deep
import HandS.Style
import HandS.Conv
import KE.KeyNested
import KE.KDictKeyed
import KE.GoesNew
import KE.GoesNewDict
import HandS.TupLen
import HandS.Small
import HandS.TupSets
import KE.SortCalls
import KE.SortKeyHeap
import HandS.ExcOwn
import KE.KDictCopyH
import HandS.ExcValue
import PyProof.DictMoreH
import KE.KEqNest
import KE.KEqDict
import HandS.Head0
import HandS.Head1
import HandS.Head2
import HandS.HeadWalk
import HandS.EndTab
import HandS.HeadEnd
import HandS.NestedK
set_option Elab.async false
set_option linter.all false
set_option autoImplicit false
set_option maxRecDepth 100000
set_option maxHeartbeats 4000000
namespace K66
open PySem PySem.Spec PyProof.Rows L2
def top (i : Nat) : Stmt := PySem.Challenge.pw_forcedbook_k66_whole_sure_and_waiting_ag.main.body.getD i (.Pass ⟨0, 0, 0, 0⟩)
abbrev s_is_list : Stmt := top 6
def d_is_list : He.DefD := ⟨("is_list", none), "is_list", "is_list", defArgs s_is_list, defBody s_is_list, defScope s_is_list, [], []⟩
abbrev s_is_integer : Stmt := top 7
def d_is_integer : He.DefD := ⟨("is_integer", none), "is_integer", "is_integer", defArgs s_is_integer, defBody s_is_integer, defScope s_is_integer, [], []⟩
abbrev s_is_name : Stmt := top 9
def d_is_name : He.DefD := ⟨("is_name", none), "is_name", "is_name", defArgs s_is_name, defBody s_is_name, defScope s_is_name, [], []⟩
abbrev s_is_deed : Stmt := top 10
def d_is_deed : He.DefD := ⟨("is_deed", none), "is_deed", "is_deed", defArgs s_is_deed, defBody s_is_deed, defScope s_is_deed, [], []⟩
abbrev s_is_row : Stmt := top 29
def d_is_row : He.DefD := ⟨("is_row", none), "is_row", "is_row", defArgs s_is_row, defBody s_is_row, defScope s_is_row, [], []⟩
abbrev s_are_rows : Stmt := top 30
def d_are_rows : He.DefD := ⟨("are_rows", none), "are_rows", "are_rows", defArgs s_are_rows, defBody s_are_rows, defScope s_are_rows, [], []⟩
abbrev s_kept_rows : Stmt := top 31
def d_kept_rows : He.DefD := ⟨("kept_rows", none), "kept_rows", "kept_rows", defArgs s_kept_rows, defBody s_kept_rows, defScope s_kept_rows, [], []⟩
abbrev s_key_of : Stmt := top 32
def d_key_of : He.DefD := ⟨("key_of", none), "key_of", "key_of", defArgs s_key_of, defBody s_key_of, defScope s_key_of, [], []⟩
abbrev s_places_of : Stmt := top 33
def d_places_of : He.DefD := ⟨("places_of", none), "places_of", "places_of", defArgs s_places_of, defBody s_places_of, defScope s_places_of, [], []⟩
abbrev s_said : Stmt := top 34
def d_said : He.DefD := ⟨("said", none), "said", "said", defArgs s_said, defBody s_said, defScope s_said, [], []⟩
abbrev s_got : Stmt := top 35
def d_got : He.DefD := ⟨("got", none), "got", "got", defArgs s_got, defBody s_got, defScope s_got, [], []⟩
abbrev s_unheard : Stmt := top 36
def d_unheard : He.DefD := ⟨("unheard", none), "unheard", "unheard", defArgs s_unheard, defBody s_unheard, defScope s_unheard, [], []⟩
abbrev s_says_of_gets : Stmt := top 37
def d_says_of_gets : He.DefD := ⟨("says_of_gets", none), "says_of_gets", "says_of_gets", defArgs s_says_of_gets, defBody s_says_of_gets, defScope s_says_of_gets, [], []⟩
abbrev s_done_counts : Stmt := top 38
def d_done_counts : He.DefD := ⟨("done_counts", none), "done_counts", "done_counts", defArgs s_done_counts, defBody s_done_counts, defScope s_done_counts, [], []⟩
abbrev s_is_free : Stmt := top 39
def d_is_free : He.DefD := ⟨("is_free", none), "is_free", "is_free", defArgs s_is_free, defBody s_is_free, defScope s_is_free, [], []⟩
abbrev s_turning : Stmt := top 42
def d_turning : He.DefD := ⟨("turning", none), "turning", "turning", defArgs s_turning, defBody s_turning, defScope s_turning, [], []⟩
abbrev s_want_hand : Stmt := top 43
def d_want_hand : He.DefD := ⟨("want_hand", none), "want_hand", "want_hand", defArgs s_want_hand, defBody s_want_hand, defScope s_want_hand, [], []⟩
abbrev s_want_hands : Stmt := top 44
def d_want_hands : He.DefD := ⟨("want_hands", none), "want_hands", "want_hands", defArgs s_want_hands, defBody s_want_hands, defScope s_want_hands, [], []⟩
abbrev s_want_same_hands : Stmt := top 45
def d_want_same_hands : He.DefD := ⟨("want_same_hands", none), "want_same_hands", "want_same_hands", defArgs s_want_same_hands, defBody s_want_same_hands, defScope s_want_same_hands, [], []⟩
abbrev s_letters_of : Stmt := top 48
def d_letters_of : He.DefD := ⟨("letters_of", none), "letters_of", "letters_of", defArgs s_letters_of, defBody s_letters_of, defScope s_letters_of, [], []⟩
abbrev s_want_few_letters : Stmt := top 49
def d_want_few_letters : He.DefD := ⟨("want_few_letters", none), "want_few_letters", "want_few_letters", defArgs s_want_few_letters, defBody s_want_few_letters, defScope s_want_few_letters, [], []⟩
abbrev s_checked_rows : Stmt := top 50
def d_checked_rows : He.DefD := ⟨("checked_rows", none), "checked_rows", "checked_rows", defArgs s_checked_rows, defBody s_checked_rows, defScope s_checked_rows, [], []⟩
abbrev s_name_of : Stmt := top 57
def d_name_of : He.DefD := ⟨("name_of", none), "name_of", "name_of", defArgs s_name_of, defBody s_name_of, defScope s_name_of, [], []⟩
abbrev s_want_pictures : Stmt := top 58
def d_want_pictures : He.DefD := ⟨("want_pictures", none), "want_pictures", "want_pictures", defArgs s_want_pictures, defBody s_want_pictures, defScope s_want_pictures, [], []⟩
abbrev s_is_number : Stmt := top 59
def d_is_number : He.DefD := ⟨("is_number", none), "is_number", "is_number", defArgs s_is_number, defBody s_is_number, defScope s_is_number, [], []⟩
abbrev s_want_number : Stmt := top 60
def d_want_number : He.DefD := ⟨("want_number", none), "want_number", "want_number", defArgs s_want_number, defBody s_want_number, defScope s_want_number, [], []⟩
abbrev s_rows_by_hand : Stmt := top 61
def d_rows_by_hand : He.DefD := ⟨("rows_by_hand", none), "rows_by_hand", "rows_by_hand", defArgs s_rows_by_hand, defBody s_rows_by_hand, defScope s_rows_by_hand, [], []⟩
abbrev s_numbers_with : Stmt := top 64
def d_numbers_with : He.DefD := ⟨("numbers_with", none), "numbers_with", "numbers_with", defArgs s_numbers_with, defBody s_numbers_with, defScope s_numbers_with, [], []⟩
abbrev s_is_begun : Stmt := top 65
def d_is_begun : He.DefD := ⟨("is_begun", none), "is_begun", "is_begun", defArgs s_is_begun, defBody s_is_begun, defScope s_is_begun, [], []⟩
abbrev s_possible_to : Stmt := top 66
def d_possible_to : He.DefD := ⟨("possible_to", none), "possible_to", "possible_to", defArgs s_possible_to, defBody s_possible_to, defScope s_possible_to, [], []⟩
abbrev s_sure_of_row : Stmt := top 67
def d_sure_of_row : He.DefD := ⟨("sure_of_row", none), "sure_of_row", "sure_of_row", defArgs s_sure_of_row, defBody s_sure_of_row, defScope s_sure_of_row, [], []⟩
abbrev s_sure_of_picture : Stmt := top 68
def d_sure_of_picture : He.DefD := ⟨("sure_of_picture", none), "sure_of_picture", "sure_of_picture", defArgs s_sure_of_picture, defBody s_sure_of_picture, defScope s_sure_of_picture, [], []⟩
abbrev s_alike_to : Stmt := top 69
def d_alike_to : He.DefD := ⟨("alike_to", none), "alike_to", "alike_to", defArgs s_alike_to, defBody s_alike_to, defScope s_alike_to, [], []⟩
abbrev s_told_apart : Stmt := top 70
def d_told_apart : He.DefD := ⟨("told_apart", none), "told_apart", "told_apart", defArgs s_told_apart, defBody s_told_apart, defScope s_told_apart, [], []⟩
abbrev s_is_waiter : Stmt := top 71
def d_is_waiter : He.DefD := ⟨("is_waiter", none), "is_waiter", "is_waiter", defArgs s_is_waiter, defBody s_is_waiter, defScope s_is_waiter, [], []⟩
abbrev s_waiters : Stmt := top 72
def d_waiters : He.DefD := ⟨("waiters", none), "waiters", "waiters", defArgs s_waiters, defBody s_waiters, defScope s_waiters, [], []⟩
abbrev s_beginnings : Stmt := top 74
def d_beginnings : He.DefD := ⟨("beginnings", none), "beginnings", "beginnings", defArgs s_beginnings, defBody s_beginnings, defScope s_beginnings, [], []⟩
abbrev s_deeds_behind : Stmt := top 75
def d_deeds_behind : He.DefD := ⟨("deeds_behind", none), "deeds_behind", "deeds_behind", defArgs s_deeds_behind, defBody s_deeds_behind, defScope s_deeds_behind, [], []⟩
abbrev s_kinds_of : Stmt := top 76
def d_kinds_of : He.DefD := ⟨("kinds_of", none), "kinds_of", "kinds_of", defArgs s_kinds_of, defBody s_kinds_of, defScope s_kinds_of, [], []⟩
abbrev s_machine : Stmt := top 77
def d_machine : He.DefD := ⟨("machine", none), "machine", "machine", defArgs s_machine, defBody s_machine, defScope s_machine, [], []⟩
abbrev s_reads : Stmt := top 78
def d_reads : He.DefD := ⟨("reads", none), "reads", "reads", defArgs s_reads, defBody s_reads, defScope s_reads, [], []⟩
abbrev s_law_pot : Stmt := top 80
def d_law_pot : He.DefD := ⟨("_law_pot", none), "_law_pot", "_law_pot", defArgs s_law_pot, defBody s_law_pot, defScope s_law_pot, [], []⟩
abbrev s_law_draw : Stmt := top 81
def d_law_draw : He.DefD := ⟨("_law_draw", none), "_law_draw", "_law_draw", defArgs s_law_draw, defBody s_law_draw, defScope s_law_draw, [], []⟩
abbrev s_law_pick : Stmt := top 82
def d_law_pick : He.DefD := ⟨("_law_pick", none), "_law_pick", "_law_pick", defArgs s_law_pick, defBody s_law_pick, defScope s_law_pick, [], []⟩
abbrev s_law_names : Stmt := top 83
def d_law_names : He.DefD := ⟨("_law_names", none), "_law_names", "_law_names", defArgs s_law_names, defBody s_law_names, defScope s_law_names, [], []⟩
abbrev s_law_rows : Stmt := top 84
def d_law_rows : He.DefD := ⟨("_law_rows", none), "_law_rows", "_law_rows", defArgs s_law_rows, defBody s_law_rows, defScope s_law_rows, [], []⟩
abbrev s_law_reworded : Stmt := top 85
def d_law_reworded : He.DefD := ⟨("_law_reworded", none), "_law_reworded", "_law_reworded", defArgs s_law_reworded, defBody s_law_reworded, defScope s_law_reworded, [], []⟩
abbrev s_law_book : Stmt := top 86
def d_law_book : He.DefD := ⟨("_law_book", none), "_law_book", "_law_book", defArgs s_law_book, defBody s_law_book, defScope s_law_book, [], []⟩
abbrev s_law_hand_right : Stmt := top 87
def d_law_hand_right : He.DefD := ⟨("_law_hand_right", none), "_law_hand_right", "_law_hand_right", defArgs s_law_hand_right, defBody s_law_hand_right, defScope s_law_hand_right, [], []⟩
abbrev s_law_book_right : Stmt := top 88
def d_law_book_right : He.DefD := ⟨("_law_book_right", none), "_law_book_right", "_law_book_right", defArgs s_law_book_right, defBody s_law_book_right, defScope s_law_book_right, [], []⟩
abbrev s_law_right : Stmt := top 89
def d_law_right : He.DefD := ⟨("_law_right", none), "_law_right", "_law_right", defArgs s_law_right, defBody s_law_right, defScope s_law_right, [], []⟩
abbrev s_law : Stmt := top 90
def d_law : He.DefD := ⟨("law", none), "law", "law", defArgs s_law, defBody s_law, defScope s_law, [], []⟩
abbrev s_Picture_init : Stmt := inClass (top 47) 2
def d_Picture_init : He.DefD := ⟨("Picture", some "__init__"), "__init__", "Picture.__init__", defArgs s_Picture_init, defBody s_Picture_init, defScope s_Picture_init, [], []⟩
abbrev s_Picture_hands : Stmt := inClass (top 47) 3
def d_Picture_hands : He.DefD := ⟨("Picture", some "hands"), "hands", "Picture.hands", defArgs s_Picture_hands, defBody s_Picture_hands, defScope s_Picture_hands, [], []⟩
abbrev s_Picture_row : Stmt := inClass (top 47) 5
def d_Picture_row : He.DefD := ⟨("Picture", some "row"), "row", "Picture.row", defArgs s_Picture_row, defBody s_Picture_row, defScope s_Picture_row, [], []⟩
abbrev s_Picture_letters : Stmt := inClass (top 47) 6
def d_Picture_letters : He.DefD := ⟨("Picture", some "letters"), "letters", "Picture.letters", defArgs s_Picture_letters, defBody s_Picture_letters, defScope s_Picture_letters, [], []⟩
abbrev s_Picture_len : Stmt := inClass (top 47) 17
def d_Picture_len : He.DefD := ⟨("Picture", some "__len__"), "__len__", "Picture.__len__", defArgs s_Picture_len, defBody s_Picture_len, defScope s_Picture_len, [], []⟩
abbrev s_Book_init : Stmt := inClass (top 62) 2
def d_Book_init : He.DefD := ⟨("Book", some "__init__"), "__init__", "Book.__init__", defArgs s_Book_init, defBody s_Book_init, defScope s_Book_init, [], []⟩
abbrev s_Book_hands : Stmt := inClass (top 62) 3
def d_Book_hands : He.DefD := ⟨("Book", some "hands"), "hands", "Book.hands", defArgs s_Book_hands, defBody s_Book_hands, defScope s_Book_hands, [], []⟩
abbrev s_Book_pictures : Stmt := inClass (top 62) 4
def d_Book_pictures : He.DefD := ⟨("Book", some "pictures"), "pictures", "Book.pictures", defArgs s_Book_pictures, defBody s_Book_pictures, defScope s_Book_pictures, [], []⟩
abbrev s_Book_getitem : Stmt := inClass (top 62) 8
def d_Book_getitem : He.DefD := ⟨("Book", some "__getitem__"), "__getitem__", "Book.__getitem__", defArgs s_Book_getitem, defBody s_Book_getitem, defScope s_Book_getitem, [], []⟩
abbrev s_Book_len : Stmt := inClass (top 62) 10
def d_Book_len : He.DefD := ⟨("Book", some "__len__"), "__len__", "Book.__len__", defArgs s_Book_len, defBody s_Book_len, defScope s_Book_len, [], []⟩
/-- a def of the text stands at f -/
abbrev FnP (K : PySem.W.Frag) (d : He.DefD) (f : Addr) (fd : FuncData) : Prop := FunD K d.name d.qual d.params d.body d.scope [] [] f fd
def fns : List He.DefD := [d_is_list, d_is_integer, d_is_name, d_is_deed, d_is_row, d_are_rows, d_kept_rows, d_key_of, d_places_of, d_said, d_got, d_unheard, d_says_of_gets, d_done_counts, d_is_free, d_turning, d_want_hand, d_want_hands, d_want_same_hands, d_letters_of, d_want_few_letters, d_checked_rows, d_name_of, d_want_pictures, d_is_number, d_want_number, d_rows_by_hand, d_numbers_with, d_is_begun, d_possible_to, d_sure_of_row, d_sure_of_picture, d_alike_to, d_told_apart, d_is_waiter, d_waiters, d_beginnings, d_deeds_behind, d_kinds_of, d_machine, d_reads, d_law_pot, d_law_draw, d_law_pick, d_law_names, d_law_rows, d_law_reworded, d_law_book, d_law_hand_right, d_law_book_right, d_law_right, d_law, d_Picture_init, d_Picture_hands, d_Picture_row, d_Picture_letters, d_Picture_len, d_Book_init, d_Book_hands, d_Book_pictures, d_Book_getitem, d_Book_len]
def fas : List He.Fa := [.glo "is_list", .glo "is_integer", .glo "is_name", .glo "is_deed", .glo "is_row", .glo "are_rows", .glo "kept_rows", .glo "key_of", .glo "places_of", .glo "said", .glo "got", .glo "unheard", .glo "says_of_gets", .glo "done_counts", .glo "is_free", .glo "turning", .glo "want_hand", .glo "want_hands", .glo "want_same_hands", .glo "letters_of", .glo "want_few_letters", .glo "checked_rows", .glo "name_of", .glo "want_pictures", .glo "is_number", .glo "want_number", .glo "rows_by_hand", .glo "numbers_with", .glo "is_begun", .glo "possible_to", .glo "sure_of_row", .glo "sure_of_picture", .glo "alike_to", .glo "told_apart", .glo "is_waiter", .glo "waiters", .glo "beginnings", .glo "deeds_behind", .glo "kinds_of", .glo "machine", .glo "reads", .glo "_law_pot", .glo "_law_draw", .glo "_law_pick", .glo "_law_names", .glo "_law_rows", .glo "_law_reworded", .glo "_law_book", .glo "_law_hand_right", .glo "_law_book_right", .glo "_law_right", .glo "law", .glo "Picture", .glo "Book", .glo "Whole", .free "isinstance", .free "len", .free "all", .free "any", .free "sorted", .free "tuple", .free "list", .free "dict", .free "set", .free "str", .free "int", .free "bool", .free "enumerate", .free "range", .free "zip", .free "abs", .free "max", .free "min", .free "divmod", .str "LETTERS" "abcdefghijklmnopqrstuvwxyz", .int "MOST_SIGNS" 6, .str "SAY" "say", .str "GET" "get", .cls "Picture", .cls "Book", .noat "Picture" "own_rows", .noat "Book" "own_pictures", .meth "Picture" "hands", .meth "Picture" "row", .meth "Picture" "letters", .meth "Picture" "__len__", .meth "Book" "hands", .meth "Book" "pictures", .meth "Book" "__getitem__", .meth "Book" "__len__", .mkr "Picture", .mkr "Book"]
def eqV (a b : Option (Option Value)) : Bool := decide (a = b)
def cvalB (K : PySem.W.Frag) (x f : Str) (i : Int) : Bool := match PySem.W.findCls K (.ref (He.ga K x)) (.type "type") f with
  | some (.val (.int j _)) => decide (j = i)
  | _ => false
def creadB (K : PySem.W.Frag) (x : Str) : Bool := PySem.W.readsIn K (He.ga K x) (.type "type") && eqV (PySem.W.specialIn K (.ref (He.ga K x)) "__getattribute__") (some (some (.builtin "type.__getattribute__")))
def typB (K : PySem.W.Frag) (x : Str) : Bool := eqV (PySem.W.findIn K (.ref (He.ga K x)) "__class__") (some (some (.builtin "object.__class__"))) && (eqV (PySem.W.specialIn K (.builtin "object.__class__") "__get__") (some (some (.builtin "getset_descriptor.__get__"))) &&
  (decide (PySem.W.takesIn K (.builtin "object.__class__") = some true) && decide (PySem.W.mroIn K (He.ga K x) (.type "object") = some true)))
def exB (K : PySem.W.Frag) : Bool := creadB K "Picture" && (creadB K "Book" && (cvalB K "Picture" "MOST_HANDS" 4 && (cvalB K "Picture" "MOST_LETTERS" 16 && (cvalB K "Book" "MOST_PICTURES" 8 && (cvalB K "Book" "MOST_LETTERS" 8 && (typB K "Picture" && (typB K "Book" &&
  (decide (PySem.W.kitOne K (.type "dict") (.ref (He.ga K "Whole")) = some false) && PySem.W.noSeq K (He.ga K "Book")))))))))
end K66
set_option maxHeartbeats 4000000
namespace K66
open PySem PySem.Spec PyProof.Rows L2
/-- where the one table of code objects stands that grows, and the name of its code objects -/
class TabAt where
  pt : Addr
  q : Str
variable [TabAt]
/-- what a core holds in the table's place -/
def mark : HO := .tbl #[]
/-- what is no table stays -/
structure Lw (C H : Hp) : Prop where
  ex' : ∀ a o, (∀ ps, o ≠ .tbl ps) → C a = some o → H a = some o
theorem Lw.ex {C H : Hp} (l : Lw C H) (a : Addr) (o : HO) (h : C a = some o) (hn : ∀ ps, o ≠ .tbl ps := by intro _ z; first | cases z | exact nomatch z) : H a = some o := l.ex' a o hn h
/-- a core that grows -/
structure Lx (C H : Hp) : Prop where
  ex : ∀ a o, C a = some o → H a = some o
/-- a table whose code objects the core knows -/
def TabIn (C H : Hp) : Prop := ∃ ps : Array Value, H TabAt.pt = some (.tbl ps) ∧ TriplesOk ps.toList ∧ ∀ (pos : Pos) (cv : Value), codeAmong pos ps.toList = some cv → ∃ c, cv = .ref c ∧ C c = some (LamX.CodeO c TabAt.q)
/-- a core of a heap -/
structure Le (C H : Hp) : Prop where
  ex' : ∀ a o, (∀ ps, o ≠ .tbl ps) → C a = some o → H a = some o
  mrk : C TabAt.pt = some mark
  tb : TabIn C H
  no : ∀ a ps, C a = some (.tbl ps) → a = TabAt.pt
theorem Le.ex {C H : Hp} (l : Le C H) (a : Addr) (o : HO) (h : C a = some o) (hn : ∀ ps, o ≠ .tbl ps := by intro _ z; first | cases z | exact nomatch z) : H a = some o := l.ex' a o hn h
theorem Le.dom {C H : Hp} (l : Le C H) (a : Addr) (h : H a = none) : C a = none := by
  cases q : C a with
  | none => rfl
  | some o =>
    by_cases z : ∀ ps, o ≠ .tbl ps
    · rw [l.ex' a o z q] at h; cases h
    · obtain ⟨ps, z⟩ : ∃ ps, o = .tbl ps := Classical.byContradiction fun k => z fun ps e => k ⟨ps, e⟩
      rw [z] at q
      obtain ⟨qs, e, _⟩ := l.tb
      rw [l.no a ps q, e] at h; cases h
theorem Lx.w {C H : Hp} (l : Lx C H) : Lw C H := ⟨fun a o _ h => l.ex a o h⟩
theorem Le.w {C H : Hp} (l : Le C H) : Lw C H := ⟨l.ex'⟩
instance {C H : Hp} : Coe (Lx C H) (Lw C H) := ⟨Lx.w⟩
instance {C H : Hp} : Coe (Le C H) (Lw C H) := ⟨Le.w⟩
theorem Lx.refl (H : Hp) : Lx H H := ⟨fun _ _ h => h⟩
theorem Lw.refl (H : Hp) : Lw H H := ⟨fun _ _ _ h => h⟩
theorem Lx.trans {A B C : Hp} (x : Lx A B) (y : Lx B C) : Lx A C := ⟨fun a o h => y.ex a o (x.ex a o h)⟩
theorem Lw.trans {A B C : Hp} (x : Lw A B) (y : Lw B C) : Lw A C := ⟨fun a o n h => y.ex' a o n (x.ex' a o n h)⟩
theorem Lx.of {H H' : Hp} (e : Same H H') : Lx H H' := ⟨fun a o h => e _ _ h⟩
theorem Lw.of {H H' : Hp} (e : Same H H') : Lw H H' := (Lx.of e).w
theorem Le.same {C H H' : Hp} (l : Le C H) (e : Same H H') : Le C H' := ⟨fun a o n h => e _ _ (l.ex' a o n h), l.mrk, let ⟨ps, h1, h2⟩ := l.tb; ⟨ps, e _ _ h1, h2⟩, l.no⟩
theorem same_new {H : Hp} {p : Addr} {o : HO} (h : H p = none) : Same H (upd H p o) := fun b u e => by rw [upd_ne (ne_of_none e h)]; exact e
theorem _root_.L2.Same.new {H : Hp} {p : Addr} {o : HO} (h : H p = none) : Same H (upd H p o) := same_new h
theorem Le.trans {C H H' : Hp} (l : Le C H) (e : Same H H') : Le C H' := l.same e
theorem Lx.new {C : Hp} {p : Addr} {o : HO} (h : C p = none) : Lx C (upd C p o) := .of (same_new h)
theorem Lw.new {C : Hp} {p : Addr} {o : HO} (h : C p = none) : Lw C (upd C p o) := (Lx.new h).w
/-- a new thing comes to the core -/
theorem Le.putN {C H : Hp} {p : Addr} {o : HO} (l : Le C H) (h : C p = none) (ho : ∀ ps, o ≠ .tbl ps) : Le (upd C p o) (upd H p o) where
  ex' := fun a u n q => by
    by_cases e : a = p
    · subst e; rw [upd_same] at q ⊢; exact q
    · rw [upd_ne e] at q ⊢; exact l.ex' a u n q
  mrk := by rw [upd_ne (ne_of_none l.mrk h)]; exact l.mrk
  tb := by
    obtain ⟨ps, h1, h2, h3⟩ := l.tb
    refine ⟨ps, by rw [upd_ne (ne_of_none l.mrk h)]; exact h1, h2, fun pos cv z => ?_⟩
    obtain ⟨c, e1, e2⟩ := h3 pos cv z
    exact ⟨c, e1, by rw [upd_ne (ne_of_none e2 h)]; exact e2⟩
  no := fun a ps q => by
    by_cases e : a = p
    · subst e; rw [upd_same] at q; exact absurd (Option.some.inj q) (ho ps)
    · rw [upd_ne e] at q; exact l.no a ps q
/-- what the heap holds comes to the core -/
theorem Le.adopt {C H : Hp} {p : Addr} {o : HO} (l : Le C H) (h : C p = none) (e : H p = some o) (ho : ∀ ps, o ≠ .tbl ps := by intro _ z; first | cases z | exact nomatch z) : Le (upd C p o) H := by
  have x := l.putN (o := o) h ho
  have y : upd H p o = H := funext fun a => by
    by_cases z : a = p
    · subst z; rw [upd_same]; exact e.symm
    · rw [upd_ne z]
  rw [y] at x
  exact x
/-- the heap changes at p, of which the core does not know -/
theorem Le.out {C H : Hp} {p : Addr} {o : HO} (l : Le C H) (h : C p = none) : Le C (upd H p o) where
  ex' := fun a u n q => by rw [upd_ne (ne_of_none q h)]; exact l.ex' a u n q
  mrk := l.mrk
  tb := let ⟨ps, h1, h2⟩ := l.tb; ⟨ps, by rw [upd_ne (ne_of_none l.mrk h)]; exact h1, h2⟩
  no := l.no
/-- from core and heap to core and heap: only new objects (and the table's growth) -/
structure Stp (C H C' H' : Hp) : Prop where
  le : Lx C C'
  le' : Le C' H'
  same : ∀ a o, C a = none → H a = some o → H' a = some o
  th : ∀ a, H a ≠ none → H' a ≠ none
  hid : ∀ a, C a = none → H a ≠ none → C' a = none
theorem Stp.refl {C H : Hp} (l : Le C H) : Stp C H C H := ⟨.refl _, l, fun _ _ _ h => h, fun _ h => h, fun _ h _ => h⟩
theorem Stp.trans {C H C1 H1 C2 H2 : Hp} (x : Stp C H C1 H1) (y : Stp C1 H1 C2 H2) : Stp C H C2 H2 :=
  ⟨x.le.trans y.le, y.le', fun a o n h => y.same a o (x.hid a n (by rw [h]; exact fun z => nomatch z)) (x.same a o n h), fun a h => y.th a (x.th a h), fun a h n => y.hid a (x.hid a h n) (x.th a n)⟩
theorem Stp.new {C H : Hp} {p : Addr} {o : HO} (l : Le C H) (h : H p = none) (ho : ∀ ps, o ≠ .tbl ps := by intro _ z; first | cases z | exact nomatch z) : Stp C H (upd C p o) (upd H p o) :=
  ⟨.new (l.dom p h), l.putN (l.dom p h) ho, fun a o _ q => same_new h a o q, fun a n => by
    by_cases e : a = p
    · subst e; rw [upd_same]; exact fun z => nomatch z
    · rw [upd_ne e]; exact n, fun a c n => by rw [upd_ne (fun e => n (by rw [e]; exact h))]; exact c⟩
/-- the heap grew, the core stays -/
theorem Stp.only {C H H' : Hp} (l : Le C H) (e : Same H H') : Stp C H C H' := ⟨.refl _, l.same e, fun a o _ h => e a o h, fun a n z => n (e.free z), fun _ h _ => h⟩
/-- the same where the objects of W may have changed, or may have come to the core -/
structure Stw (W : Addr → Prop) (C H C' H' : Hp) : Prop where
  le : Lx C C'
  le' : Le C' H'
  kp : ∀ a o, ¬ W a → C a = none → H a = some o → H' a = some o
  th : ∀ a, H a ≠ none → H' a ≠ none
  hid : ∀ a, ¬ W a → C a = none → H a ≠ none → C' a = none
theorem Stw.refl {W : Addr → Prop} {C H : Hp} (l : Le C H) : Stw W C H C H := ⟨.refl _, l, fun _ _ _ _ h => h, fun _ h => h, fun _ _ h _ => h⟩
theorem Stw.trans {W : Addr → Prop} {C H C1 H1 C2 H2 : Hp} (x : Stw W C H C1 H1) (y : Stw W C1 H1 C2 H2) : Stw W C H C2 H2 :=
  ⟨x.le.trans y.le, y.le', fun a o w n h => y.kp a o w (x.hid a w n (by rw [h]; exact fun z => nomatch z)) (x.kp a o w n h), fun a h => y.th a (x.th a h), fun a w h n => y.hid a w (x.hid a w h n) (x.th a n)⟩
theorem Stw.weak {W W' : Addr → Prop} {C H C' H' : Hp} (x : Stw W C H C' H') (h : ∀ a, W a → W' a) : Stw W' C H C' H' :=
  ⟨x.le, x.le', fun a o w n q => x.kp a o (fun z => w (h a z)) n q, x.th, fun a w q n => x.hid a (fun z => w (h a z)) q n⟩
theorem Stp.w {W : Addr → Prop} {C H C' H' : Hp} (x : Stp C H C' H') : Stw W C H C' H' := ⟨x.le, x.le', fun a o _ n h => x.same a o n h, x.th, fun a _ h n => x.hid a h n⟩
theorem Stw.stp {W : Addr → Prop} {C H C' H' : Hp} (x : Stw W C H C' H') (h : ∀ a, ¬ W a) : Stp C H C' H' := ⟨x.le, x.le', fun a o n q => x.kp a o (h a) n q, x.th, fun a q n => x.hid a (h a) q n⟩
/-- as seen from an older state: what was new there may change -/
theorem Stw.old {W V : Addr → Prop} {C0 H0 C H C' H' : Hp} (x : Stw W C0 H0 C H) (y : Stw V C H C' H') (h : ∀ a, V a → W a ∨ H0 a = none) : Stw W C0 H0 C' H' :=
  ⟨x.le.trans y.le, y.le', fun a o w n q => y.kp a o (fun z => (h a z).elim w fun e => by rw [e] at q; cases q) (x.hid a w n (by rw [q]; exact fun z => nomatch z)) (x.kp a o w n q), fun a n => y.th a (x.th a n),
    fun a w q n => y.hid a (fun z => (h a z).elim w n) (x.hid a w q n) (x.th a n)⟩
/-- everything out of the core may have changed -/
abbrev Prg (C H C' H' : Hp) : Prop := Stw (fun _ => True) C H C' H'
theorem Stw.prg {W : Addr → Prop} {C H C' H' : Hp} (x : Stw W C H C' H') : Prg C H C' H' := x.weak fun _ _ => True.intro
theorem Stp.prg {C H C' H' : Hp} (x : Stp C H C' H') : Prg C H C' H' := x.w
/-- an object out of the core is written -/
theorem Stw.out {W : Addr → Prop} {C H : Hp} {p : Addr} {o : HO} (l : Le C H) (h : C p = none) (w : W p) : Stw W C H C (upd H p o) :=
  ⟨.refl _, l.out h, fun b u n _ e => by rw [upd_ne fun z => n (by rw [z]; exact w)]; exact e, fun a n => by
    by_cases e : a = p
    · subst e; rw [upd_same]; exact fun z => nomatch z
    · rw [upd_ne e]; exact n, fun _ _ h _ => h⟩
/-- an object out of the core comes to the core (changed as one likes) -/
theorem Stw.inn {W : Addr → Prop} {C H : Hp} {p : Addr} {o : HO} (l : Le C H) (h : C p = none) (w : W p) (ho : ∀ ps, o ≠ .tbl ps := by intro _ z; first | cases z | exact nomatch z) : Stw W C H (upd C p o) (upd H p o) :=
  ⟨.new h, l.putN h ho, fun b u n _ e => by rw [upd_ne fun z => n (by rw [z]; exact w)]; exact e, fun a n => by
    by_cases e : a = p
    · subst e; rw [upd_same]; exact fun z => nomatch z
    · rw [upd_ne e]; exact n, fun a n q _ => by rw [upd_ne fun z => n (by rw [z]; exact w)]; exact q⟩
inductive Dt where
  | non | bl (b : Bool) | int (i : Int) | str (x : Str)
  | lst (xs : List Dt) | tup (xs : List Dt)
  | dic (ks : List Key) (vs : List Dt)
  | nd (ks : List Dt) (vs : List Dt)
  | obj (c : Addr) (f : Str) (d : Dt)
/-- a value as a key of any depth -/
def nk : Dt → NestedKey
  | .non => .none
  | .bl b => .num (if b = true then 1 else 0)
  | .int i => .num i
  | .str x => .text x
  | .lst _ => .none
  | .tup xs => .tup (nks xs)
  | .dic _ _ => .none
  | .nd _ _ => .none
  | .obj _ _ _ => .none
where nks : List Dt → List NestedKey
  | [] => []
  | d :: ds => nk d :: nks ds
abbrev NE := NestedKey × Addr × Value
/-- a dict with keys of any depth, its raw entries -/
def ndO (P : Program) (w : World) (a : Addr) (xs : List NE) : HO := .ext fun h => xs.length ≤ sizeLine ∧ (a == sysModules) = false ∧ (xs.map (·.1)).Nodup ∧
  ∃ o es ep, h.get? a = some o ∧ o.ExactDict ∧ o.data = .dict es ep ∧ es.toList = xs.map (entryOfKey (nestedKind P w))
section
variable (P : Program) (w : World) (C : Hp)
mutual
def Is : Dt → V → Prop
  | .non, v => v = .non
  | .bl b, v => v = .bl b
  | .int i, v => v = .int i
  | .str x, v => v = .str x
  | .lst ds, v => ∃ a vs, v = .ref a ∧ C a = some (.lst vs) ∧ IsL ds vs
  | .tup ds, v => ∃ a vs, v = .ref a ∧ C a = some (.tup vs) ∧ IsL ds vs
  | .dic ks ds, v => ∃ a o vs, v = .ref a ∧ C a = some (.frz o (.dK (ks.zip vs))) ∧ ks.length = vs.length ∧ IsL ds vs
  | .nd ks ds, v => ∃ a o xs us, v = .ref a ∧ C a = some (.frz o (ndO P w a xs)) ∧ IsK ks xs ∧ Vals us (xs.map (·.2.2)) ∧ IsL ds us
  | .obj c f d, v => ∃ a dx u, v = .ref a ∧ C a = some (.ins c dx [(f, u)]) ∧ Is d u
def IsL : List Dt → List V → Prop
  | [], vs => vs = []
  | d :: ds, vs => ∃ v r, vs = v :: r ∧ Is d v ∧ IsL ds r
def IsK : List Dt → List NE → Prop
  | [], xs => xs = []
  | k :: ks, xs => ∃ x r, xs = x :: r ∧ x.1 = nk k ∧ Is k (.ref x.2.1) ∧ IsK ks r
end
end
section
variable {P : Program} {w : World} {C C' : Hp}
mutual
theorem Is.mono (l : Lw C C') : ∀ (d : Dt) (v : V), Is P w C d v → Is P w C' d v
  | .non, v, h => h
  | .bl b, v, h => h
  | .int i, v, h => h
  | .str x, v, h => h
  | .lst ds, v, h => by
    obtain ⟨a, vs, e, r, q⟩ := h
    exact ⟨a, vs, e, l.ex _ _ r, IsL.mono l ds vs q⟩
  | .tup ds, v, h => by
    obtain ⟨a, vs, e, r, q⟩ := h
    exact ⟨a, vs, e, l.ex _ _ r, IsL.mono l ds vs q⟩
  | .dic ks ds, v, h => by
    obtain ⟨a, o, vs, e, r, n, q⟩ := h
    exact ⟨a, o, vs, e, l.ex _ _ r, n, IsL.mono l ds vs q⟩
  | .nd ks ds, v, h => by
    obtain ⟨a, o, xs, us, e, r, k, n, q⟩ := h
    exact ⟨a, o, xs, us, e, l.ex _ _ r, IsK.mono l ks xs k, n, IsL.mono l ds us q⟩
  | .obj c f d, v, h => by
    obtain ⟨a, dx, u, e, r, q⟩ := h
    exact ⟨a, dx, u, e, l.ex _ _ r, Is.mono l d u q⟩
theorem IsL.mono (l : Lw C C') : ∀ (ds : List Dt) (vs : List V), IsL P w C ds vs → IsL P w C' ds vs
  | [], _, h => h
  | d :: ds, _, h => by
    obtain ⟨v, r, e, x, y⟩ := h
    exact ⟨v, r, e, Is.mono l d v x, IsL.mono l ds r y⟩
theorem IsK.mono (l : Lw C C') : ∀ (ks : List Dt) (xs : List NE), IsK P w C ks xs → IsK P w C' ks xs
  | [], _, h => h
  | k :: ks, _, h => by
    obtain ⟨x, r, e, e1, y, z⟩ := h
    exact ⟨x, r, e, e1, Is.mono l k _ y, IsK.mono l ks r z⟩
end
theorem IsL.len : ∀ {ds : List Dt} {vs : List V}, IsL P w C ds vs → vs.length = ds.length
  | [], _, h => by rw [show _ = [] from h]; rfl
  | d :: ds, _, h => by
    obtain ⟨v, r, e, _, y⟩ := h
    rw [e, List.length_cons, List.length_cons, IsL.len y]
theorem IsL.get : ∀ {ds : List Dt} {vs : List V} {i : Nat} {d : Dt}, IsL P w C ds vs → ds[i]? = some d → ∃ v, vs[i]? = some v ∧ Is P w C d v
  | [], _, _, _, _, h => by simp at h
  | d :: ds, _, 0, x, h, e => by
    obtain ⟨v, r, rfl, a, _⟩ := h
    simp at e; subst e
    exact ⟨v, rfl, a⟩
  | d :: ds, _, i + 1, x, h, e => by
    obtain ⟨v, r, rfl, _, b⟩ := h
    simp at e
    obtain ⟨u, h1, h2⟩ := IsL.get b e
    exact ⟨u, by simpa using h1, h2⟩
theorem IsL.get' : ∀ {ds : List Dt} {vs : List V} {i : Nat} {v : V}, IsL P w C ds vs → vs[i]? = some v → ∃ d, ds[i]? = some d ∧ Is P w C d v := fun {ds vs i v} h e => by
  have hl := h.len
  have hi : i < vs.length := (List.getElem?_eq_some_iff.mp e).1
  obtain ⟨u, h1, h2⟩ := h.get (i := i) (d := ds[i]'(by omega)) (List.getElem?_eq_getElem _)
  rw [e] at h1; cases h1
  exact ⟨_, List.getElem?_eq_getElem _, h2⟩
theorem IsL.app : ∀ {ds es : List Dt} {vs us : List V}, IsL P w C ds vs → IsL P w C es us → IsL P w C (ds ++ es) (vs ++ us)
  | [], _, _, _, h, q => by rw [show _ = [] from h]; exact q
  | d :: ds, _, _, _, h, q => by
    obtain ⟨v, r, rfl, a, b⟩ := h
    exact ⟨v, _, rfl, a, b.app q⟩
theorem IsL.one {d : Dt} {v : V} (h : Is P w C d v) : IsL P w C [d] [v] := ⟨v, [], rfl, h, rfl⟩
theorem IsL.nil : IsL P w C [] [] := rfl
theorem IsL.cons {d : Dt} {v : V} {ds : List Dt} {vs : List V} (h : Is P w C d v) (q : IsL P w C ds vs) : IsL P w C (d :: ds) (v :: vs) := ⟨v, vs, rfl, h, q⟩
theorem IsL.take : ∀ {ds : List Dt} {vs : List V} (n : Nat), IsL P w C ds vs → IsL P w C (ds.take n) (vs.take n)
  | _, _, 0, _ => rfl
  | [], _, n + 1, h => by rw [show _ = [] from h]; rfl
  | d :: ds, _, n + 1, h => by
    obtain ⟨v, r, rfl, a, b⟩ := h
    exact ⟨v, _, rfl, a, b.take n⟩
theorem IsL.drop : ∀ {ds : List Dt} {vs : List V} (n : Nat), IsL P w C ds vs → IsL P w C (ds.drop n) (vs.drop n)
  | _, _, 0, h => h
  | [], _, n + 1, h => by rw [show _ = [] from h]; rfl
  | d :: ds, _, n + 1, h => by
    obtain ⟨v, r, rfl, a, b⟩ := h
    exact b.drop n
theorem IsL.set : ∀ {ds : List Dt} {vs : List V} (n : Nat) {d : Dt} {v : V}, IsL P w C ds vs → Is P w C d v → IsL P w C (ds.set n d) (vs.set n v)
  | [], _, n, _, _, h, _ => by rw [show _ = [] from h]; rfl
  | d :: ds, _, 0, _, _, h, q => by
    obtain ⟨v, r, rfl, a, b⟩ := h
    exact ⟨_, _, rfl, q, b⟩
  | d :: ds, _, n + 1, _, _, h, q => by
    obtain ⟨v, r, rfl, a, b⟩ := h
    exact ⟨v, _, rfl, a, b.set n q⟩
theorem IsL.rev : ∀ {ds : List Dt} {vs : List V}, IsL P w C ds vs → IsL P w C ds.reverse vs.reverse
  | [], _, h => by rw [show _ = [] from h]; rfl
  | d :: ds, _, h => by
    obtain ⟨v, r, rfl, a, b⟩ := h
    rw [List.reverse_cons, List.reverse_cons]
    exact b.rev.app (.one a)
theorem IsK.len : ∀ {ds : List Dt} {vs : List NE}, IsK P w C ds vs → vs.length = ds.length
  | [], _, h => by rw [show _ = [] from h]; rfl
  | d :: ds, _, h => by
    obtain ⟨v, r, e, _, _, y⟩ := h
    rw [e, List.length_cons, List.length_cons, IsK.len y]
theorem IsK.keys : ∀ {ds : List Dt} {vs : List NE}, IsK P w C ds vs → vs.map (·.1) = ds.map nk
  | [], _, h => by rw [show _ = [] from h]; rfl
  | d :: ds, _, h => by
    obtain ⟨v, r, e, e1, _, y⟩ := h
    rw [e, List.map_cons, List.map_cons, e1, IsK.keys y]
theorem IsK.get : ∀ {ds : List Dt} {vs : List NE} {i : Nat} {x : NE}, IsK P w C ds vs → vs[i]? = some x → ∃ d, ds[i]? = some d ∧ x.1 = nk d ∧ Is P w C d (.ref x.2.1)
  | [], _, _, _, h, e => by rw [show _ = [] from h] at e; simp at e
  | d :: ds, _, 0, x, h, e => by
    obtain ⟨v, r, rfl, a, b, _⟩ := h
    simp at e; subst e
    exact ⟨d, rfl, a, b⟩
  | d :: ds, _, i + 1, x, h, e => by
    obtain ⟨v, r, rfl, _, _, b⟩ := h
    simp at e
    obtain ⟨u, h1, h2⟩ := b.get e
    exact ⟨u, by simpa using h1, h2⟩
theorem IsK.app : ∀ {ds es : List Dt} {vs us : List NE}, IsK P w C ds vs → IsK P w C es us → IsK P w C (ds ++ es) (vs ++ us)
  | [], _, _, _, h, q => by rw [show _ = [] from h]; exact q
  | d :: ds, _, _, _, h, q => by
    obtain ⟨v, r, rfl, a, b, c⟩ := h
    exact ⟨v, _, rfl, a, b, c.app q⟩
end
end K66
set_option maxHeartbeats 4000000
namespace K66
variable [TabAt]
open PySem PySem.Spec PyProof.Rows L2
section
variable (X : Cx)
structure wpE (e : Expr) (σ : L2.St) (H : Hp) (Q : VK) : Prop where
  go : ∀ pins s, Inv X pins σ H s → wpAny (model X.prog X.w) X.A (eval e X.env) (EP X pins σ Q) X.xe s
structure wpT (e : Expr) (σ : L2.St) (H : Hp) (Q : Bool → Hp → Prop) : Prop where
  go : ∀ pins s, Inv X pins σ H s → wpAny (model X.prog X.w) X.A (isTrue e X.env (eval e X.env)) (TP X pins σ Q) X.xe s
structure wpW (e : Expr) (σ : L2.St) (H : Hp) (Q : Bool → Hp → Prop) : Prop where
  go : ∀ whole pins s, Inv X pins σ H s → wpAny (model X.prog X.w) X.A (isTrue e X.env whole) (TP X pins σ Q) X.xe s
structure wpA (es : List Expr) (σ : L2.St) (H : Hp) (Q : List V → Hp → Prop) : Prop where
  go : ∀ pos pins s, Inv X pins σ H s → wpAny (model X.prog X.w) X.A (spliced (backTo pos (starEach es X.env))) (AP X pins σ Q) X.xe s
structure wpS (st : Stmt) (D : Ends) (σ : L2.St) (H : Hp) : Prop where
  go : ∀ pins s, Inv X pins σ H s → wpAny (model X.prog X.w) X.A (exec st X.env) (SP X pins D) X.xe s
structure wpSs (st : List Stmt) (D : Ends) (σ : L2.St) (H : Hp) : Prop where
  go : ∀ pins s, Inv X pins σ H s → wpAny (model X.prog X.w) X.A (execs st X.env) (SP X pins D) X.xe s
structure wpG (tg : Expr) (v : V) (σ : L2.St) (H : Hp) (Q : L2.St → Hp → Prop) : Prop where
  go : ∀ pins s u, Inv X pins σ H s → RelV v u → wpAny (model X.prog X.w) X.A (assign tg X.env u) (fun _ s' => ∃ σ' H', Inv X pins σ' H' s' ∧ Q σ' H') X.xe s
structure wpI (tg iter : Expr) (σ : L2.St) (H : Hp) (R : It → Hp → Prop) : Prop where
  go : ∀ pins s, Inv X pins σ H s → wpAny (model X.prog X.w) X.A (eval iter X.env) (fun v s1 => wpAny (model X.prog X.w) X.A (pyIter v) (PIE X pins σ tg R) X.xe s1) X.xe s
structure wpC (op : CmpOp) (a b : Expr) (σ : L2.St) (H : Hp) (Q : VK) : Prop where
  go : ∀ pins s, Inv X pins σ H s → wpAny (model X.prog X.w) X.A (eval a X.env) (fun v s₁ => wpAny (model X.prog X.w) X.A (eval b X.env) (fun u s₂ => wpAny (model X.prog X.w) X.A (compareOp op v u) (EP X pins σ Q) X.xe s₂) X.xe s₁) X.xe s
structure wpTs (ifs : List Expr) (σ : L2.St) (H : Hp) (Q : Bool → Hp → Prop) : Prop where
  go : ∀ pins s, Inv X pins σ H s → wpAny (model X.prog X.w) X.A (forIn ifs true fun c r => if r = true then do let ok ← isTrue c X.env (eval c X.env); pure (ForInStep.yield ok) else pure (ForInStep.yield r)) (TP X pins σ Q) X.xe s
end
section
variable {X : Cx}
theorem wpE.pe {e : Expr} : PE X e (wpE X e) := ⟨fun pins s _ _ _ I h => h.go pins s I⟩
theorem wpT.pt {e : Expr} : PT X e (wpT X e) := ⟨fun pins s _ _ _ I h => h.go pins s I⟩
theorem wpW.pw {e : Expr} : PW X e (wpW X e) := ⟨fun wh pins s _ _ _ I h => h.go wh pins s I⟩
theorem wpA.pa {es : List Expr} : PA X es (wpA X es) := ⟨fun pos pins s _ _ _ I h => h.go pos pins s I⟩
theorem wpS.ps {st : Stmt} : PS X st (wpS X st) := ⟨fun pins s _ _ _ I h => h.go pins s I⟩
theorem wpSs.pss {st : List Stmt} : PSs X st (wpSs X st) := ⟨fun pins s _ _ _ I h => h.go pins s I⟩
theorem wpG.pg {tg : Expr} : PG X tg (wpG X tg) := ⟨fun pins s _ _ _ u _ I r h => h.go pins s u I r⟩
theorem wpI.pi {tg e : Expr} : PI X tg e (wpI X tg e) := ⟨fun pins s _ _ _ I h => h.go pins s I⟩
theorem wpC.pc {op : CmpOp} {a b : Expr} : PC X op a b (wpC X op a b) := ⟨fun pins s _ _ _ I h => h.go pins s I⟩
theorem wpTs.pts {ifs : List Expr} : PTs X ifs (wpTs X ifs) := ⟨fun pins s _ _ _ I h => h.go pins s I⟩
theorem peW {e : Expr} {t : TE} (h : PE X e t) {σ : L2.St} {H : Hp} {Q : VK} (q : t σ H Q) : wpE X e σ H Q := ⟨fun pins s I => h.run pins s σ H Q I q⟩
theorem ptW {e : Expr} {t : TT} (h : PT X e t) {σ : L2.St} {H : Hp} {Q : Bool → Hp → Prop} (q : t σ H Q) : wpT X e σ H Q := ⟨fun pins s I => h.run pins s σ H Q I q⟩
theorem pwW {e : Expr} {t : TT} (h : PW X e t) {σ : L2.St} {H : Hp} {Q : Bool → Hp → Prop} (q : t σ H Q) : wpW X e σ H Q := ⟨fun wh pins s I => h.run wh pins s σ H Q I q⟩
theorem paW {es : List Expr} {t : TA} (h : PA X es t) {σ : L2.St} {H : Hp} {Q : List V → Hp → Prop} (q : t σ H Q) : wpA X es σ H Q := ⟨fun pos pins s I => h.run pos pins s σ H Q I q⟩
theorem psW {st : Stmt} {t : TS} (h : PS X st t) {σ : L2.St} {H : Hp} {D : Ends} (q : t D σ H) : wpS X st D σ H := ⟨fun pins s I => h.run pins s σ H D I q⟩
theorem pssW {st : List Stmt} {t : TS} (h : PSs X st t) {σ : L2.St} {H : Hp} {D : Ends} (q : t D σ H) : wpSs X st D σ H := ⟨fun pins s I => h.run pins s σ H D I q⟩
theorem pgW {tg : Expr} {t : TG} (h : PG X tg t) {v : V} {σ : L2.St} {H : Hp} {Q : L2.St → Hp → Prop} (q : t v σ H Q) : wpG X tg v σ H Q := ⟨fun pins s u I r => h.run pins s σ H v u Q I r q⟩
theorem piW {tg e : Expr} {t : TI} (h : PI X tg e t) {σ : L2.St} {H : Hp} {R : It → Hp → Prop} (q : t σ H R) : wpI X tg e σ H R := ⟨fun pins s I => h.run pins s σ H R I q⟩
theorem pcW {op : CmpOp} {a b : Expr} {t : TE} (h : PC X op a b t) {σ : L2.St} {H : Hp} {Q : VK} (q : t σ H Q) : wpC X op a b σ H Q := ⟨fun pins s I => h.run pins s σ H Q I q⟩
theorem ptsW {ifs : List Expr} {t : TT} (h : PTs X ifs t) {σ : L2.St} {H : Hp} {Q : Bool → Hp → Prop} (q : t σ H Q) : wpTs X ifs σ H Q := ⟨fun pins s I => h.run pins s σ H Q I q⟩
end
/-- nothing known, data, an own list, own dicts (keys ints and texts; keys of any depth), own lists in a dict that stays, a pot, a new instance, one whose attribute is set -/
inductive Sl where
  | un | d (d : Dt) | ol (xs : List Dt) | ok (ks : List Key) (vs : List Dt) | on (ks : List Dt) (vs : List Dt) | rw (hs : List Str) (rs : List (List Dt)) | pot (p : Addr) | nw (c x : Addr) | im (c : Addr) (f : Str) (d : Dt) (x : Addr) | vw (v : V) (Φ : Hp → Prop)
def PotAt (H : Hp) (p : Addr) : Prop := ∃ x y : Int, (0 ≤ y ∧ y < 1099511627776) ∧ H p = some (.lst [.int x, .int y])
section
variable (P : Program) (w : World) (C H : Hp)
/-- own lists at these addresses -/
def OwnL : List (List Dt) → List Addr → Prop
  | [], ps => ps = []
  | r :: rs, ps => ∃ p qs vs, ps = p :: qs ∧ C p = none ∧ H p = some (.lst vs) ∧ IsL P w C r vs ∧ OwnL rs qs
def SlF : Sl → Option V → List Addr → Prop
  | .un, _, fp => fp = []
  | .d d, o, fp => fp = [] ∧ ∃ v, o = some v ∧ Is P w C d v
  | .ol xs, o, fp => ∃ a vs, fp = [a] ∧ o = some (.ref a) ∧ C a = none ∧ H a = some (.lst vs) ∧ IsL P w C xs vs
  | .ok ks ds, o, fp => ∃ a vs, fp = [a] ∧ o = some (.ref a) ∧ C a = none ∧ H a = some (.dK (ks.zip vs)) ∧ ks.length = vs.length ∧ IsL P w C ds vs
  | .on ks ds, o, fp => ∃ a xs us, fp = [a] ∧ o = some (.ref a) ∧ C a = none ∧ H a = some (ndO P w a xs) ∧ IsK P w C ks xs ∧ Vals us (xs.map (·.2.2)) ∧ IsL P w C ds us
  | .rw hs rs, o, fp => ∃ a ob, o = some (.ref a) ∧ C a = some (.frz ob (.dK ((hs.map Sum.inr).zip (fp.map .ref)))) ∧ hs.length = fp.length ∧ OwnL P w C H rs fp
  | .pot p, o, fp => fp = [p] ∧ o = some (.ref p) ∧ C p = none ∧ PotAt H p
  | .nw c x, o, fp => fp = [x] ∧ o = some (.ref x) ∧ C x = none ∧ ∃ dx, H x = some (.ins c dx [])
  | .im c f d x, o, fp => fp = [] ∧ o = some (.ref x) ∧ Is P w C (.obj c f d) (.ref x)
  | .vw v Φ, o, fp => fp = [] ∧ o = some v ∧ ∀ C' : Hp, Lx C C' → Φ C'
def SlOk (s : Sl) (o : Option V) : Prop := ∃ fp, SlF P w C H s o fp
end
section
variable {P : Program} {w : World} {C H C' H' : Hp} {σ : L2.St} {ds : List Sl}
theorem OwnL.mono {W : Addr → Prop} (x : Stw W C H C' H') : ∀ {rs : List (List Dt)} {ps : List Addr}, (∀ a ∈ ps, ¬ W a) → OwnL P w C H rs ps → OwnL P w C' H' rs ps
  | [], _, _, h => h
  | r :: rs, _, n, h => by
    obtain ⟨p, qs, vs, rfl, c, h, i, q⟩ := h
    exact ⟨p, qs, vs, rfl, x.hid p (n p (by simp)) c (by rw [h]; exact fun z => nomatch z), x.kp p _ (n p (by simp)) c h, IsL.mono x.le _ _ i, OwnL.mono x (fun a ha => n a (List.mem_cons_of_mem _ ha)) q⟩
theorem SlF.mono {W : Addr → Prop} (x : Stw W C H C' H') : ∀ {s : Sl} {o : Option V} {fp : List Addr}, (∀ a ∈ fp, ¬ W a) → SlF P w C H s o fp → SlF P w C' H' s o fp
  | .un, _, _, _, h => h
  | .d d, o, _, _, h => by
    obtain ⟨f, v, e, h⟩ := h
    exact ⟨f, v, e, Is.mono x.le d v h⟩
  | .ol xs, o, _, n, h => by
    obtain ⟨a, vs, rfl, e, c, h, q⟩ := h
    exact ⟨a, vs, rfl, e, x.hid a (n a (by simp)) c (by rw [h]; exact fun z => nomatch z), x.kp _ _ (n a (by simp)) c h, IsL.mono x.le _ _ q⟩
  | .ok ks xs, o, _, n, h => by
    obtain ⟨a, vs, rfl, e, c, h, l, q⟩ := h
    exact ⟨a, vs, rfl, e, x.hid a (n a (by simp)) c (by rw [h]; exact fun z => nomatch z), x.kp _ _ (n a (by simp)) c h, l, IsL.mono x.le _ _ q⟩
  | .on ks xs, o, _, n, h => by
    obtain ⟨a, vs, us, rfl, e, c, h, k, r, q⟩ := h
    exact ⟨a, vs, us, rfl, e, x.hid a (n a (by simp)) c (by rw [h]; exact fun z => nomatch z), x.kp _ _ (n a (by simp)) c h, IsK.mono x.le _ _ k, r, IsL.mono x.le _ _ q⟩
  | .rw hs rs, o, fp, n, h => by
    obtain ⟨a, ob, e, c, l, q⟩ := h
    exact ⟨a, ob, e, x.le.ex _ _ c, l, OwnL.mono x n q⟩
  | .pot p, o, _, n, h => by
    obtain ⟨rfl, e, c, y, z, b, h⟩ := h
    exact ⟨rfl, e, x.hid p (n p (by simp)) c (by rw [h]; exact fun z => nomatch z), y, z, b, x.kp _ _ (n p (by simp)) c h⟩
  | .nw c y, o, _, n, h => by
    obtain ⟨rfl, e, cc, dx, h⟩ := h
    exact ⟨rfl, e, x.hid y (n y (by simp)) cc (by rw [h]; exact fun z => nomatch z), dx, x.kp _ _ (n y (by simp)) cc h⟩
  | .im c f d y, o, _, _, h => by
    obtain ⟨q, e, h⟩ := h
    exact ⟨q, e, Is.mono x.le _ _ h⟩
  | .vw v Φ, o, _, _, h => by
    obtain ⟨q, e, h⟩ := h
    exact ⟨q, e, fun C2 l => h C2 (x.le.trans l)⟩
theorem SlOk.mono (x : Stp C H C' H') {s : Sl} {o : Option V} (h : SlOk P w C H s o) : SlOk P w C' H' s o := h.elim fun fp h => ⟨fp, h.mono (W := fun _ => False) x.w fun _ _ z => z⟩
theorem OwnL.th : ∀ {rs : List (List Dt)} {ps : List Addr}, OwnL P w C H rs ps → ∀ a ∈ ps, C a = none ∧ H a ≠ none
  | [], _, h, a, m => by rw [show _ = [] from h] at m; simp at m
  | r :: rs, _, h, a, m => by
    obtain ⟨p, qs, vs, e, c, h, i, q⟩ := h
    subst e
    rcases List.mem_cons.mp m with z | z
    · rw [z]; exact ⟨c, by rw [h]; exact fun z => nomatch z⟩
    · exact q.th a z
theorem SlF.th : ∀ {s : Sl} {o : Option V} {fp : List Addr}, SlF P w C H s o fp → ∀ a ∈ fp, C a = none ∧ H a ≠ none
  | .un, _, _, h, a, m => by rw [show _ = [] from h] at m; simp at m
  | .d d, o, _, ⟨f, _⟩, a, m => by rw [f] at m; simp at m
  | .ol xs, o, _, ⟨p, vs, f, e, c, h, q⟩, a, m => by rw [f, List.mem_singleton] at m; rw [m]; exact ⟨c, by rw [h]; exact fun z => nomatch z⟩
  | .ok ks xs, o, _, ⟨p, vs, f, e, c, h, q⟩, a, m => by rw [f, List.mem_singleton] at m; rw [m]; exact ⟨c, by rw [h]; exact fun z => nomatch z⟩
  | .on ks xs, o, _, ⟨p, vs, us, f, e, c, h, q⟩, a, m => by rw [f, List.mem_singleton] at m; rw [m]; exact ⟨c, by rw [h]; exact fun z => nomatch z⟩
  | .rw hs rs, o, fp, ⟨p, ob, e, c, l, q⟩, a, m => q.th a m
  | .pot p, o, _, ⟨f, e, c, y, z, _, h⟩, a, m => by rw [f, List.mem_singleton] at m; rw [m]; exact ⟨c, by rw [h]; exact fun z => nomatch z⟩
  | .nw c y, o, _, ⟨q, e, cc, dx, h⟩, a, m => by rw [q, List.mem_singleton] at m; rw [m]; exact ⟨cc, by rw [h]; exact fun z => nomatch z⟩
  | .im c f d y, o, _, ⟨q, _⟩, a, m => by rw [q] at m; simp at m
  | .vw v Φ, o, _, ⟨q, _⟩, a, m => by rw [q] at m; simp at m
end
/-- the slots with their footprints -/
structure SWf (P : Program) (w : World) (W : Addr → Prop) (H0 C H : Hp) (σ : L2.St) (ds : List Sl) (f : Nat → List Addr) : Prop where
  le : Le C H
  len : σ.length = ds.length
  sl : ∀ (i : Nat) (s : Sl), ds[i]? = some s → SlF P w C H s (σ[i]?).join (f i)
  nd : ∀ i, (f i).Nodup
  dj : ∀ i j a, i ≠ j → a ∈ f i → a ∉ f j
  new : ∀ i a, a ∈ f i → W a ∨ H0 a = none
  out : ∀ i, ds.length ≤ i → f i = []
section
variable {P : Program} {w : World} {W : Addr → Prop} {H0 C H C' H' : Hp} {σ : L2.St} {ds : List Sl} {f : Nat → List Addr}
theorem SWf.th (S : SWf P w W H0 C H σ ds f) {i : Nat} {a : Addr} (h : a ∈ f i) : C a = none ∧ H a ≠ none := by
  by_cases hi : i < ds.length
  · exact (S.sl i ds[i] (List.getElem?_eq_getElem hi)).th a h
  · rw [S.out i (by omega)] at h; simp at h
/-- the slots after a step that may change slot i's things only -/
theorem SWf.set {Vw : Addr → Prop} {i : Nat} {s : Sl} {v : V} {fp : List Addr} (S : SWf P w W H0 C H σ ds f) (x : Stw Vw C H C' H') (hV : ∀ a, Vw a → a ∈ f i ∨ H a = none) (h : SlF P w C' H' s (some v) fp) (hn : fp.Nodup) (hf : ∀ a ∈ fp, a ∈ f i ∨ H a = none)
    (t : ∀ a, H a = none → H0 a = none) : SWf P w W H0 C' H' (σ.set i (some v)) (ds.set i s) (fun j => if j = i ∧ i < ds.length then fp else f j) := by
  have other : ∀ {j : Nat}, j ≠ i → ∀ a ∈ f j, ¬ Vw a := fun {j} hj a ha hv => (hV a hv).elim (fun z => S.dj j i a hj ha z) fun z => (S.th ha).2 z
  have apart : ∀ {j : Nat}, j ≠ i → ∀ a ∈ f j, a ∉ fp := fun {j} hj a ha hm => (hf a hm).elim (fun z => S.dj j i a hj ha z) fun z => (S.th ha).2 z
  refine ⟨x.le', by rw [List.length_set, List.length_set]; exact S.len, fun j s' e => ?_, fun j => ?_, fun j k a hjk hj hk => ?_, fun j a ha => ?_, fun j hj => ?_⟩
  · by_cases hj : j = i
    · subst hj
      rw [List.getElem?_set, if_pos rfl] at e
      split at e
      · rename_i hl
        cases e
        rw [List.getElem?_set, if_pos rfl, if_pos (by rw [S.len]; exact hl), if_pos ⟨rfl, hl⟩]
        exact h
      · cases e
    · rw [List.getElem?_set_ne (Ne.symm hj)] at e ⊢
      rw [if_neg fun z => hj z.1]
      exact (S.sl j s' e).mono x (other hj)
  · show (if j = i ∧ i < ds.length then fp else f j).Nodup
    split
    · exact hn
    · exact S.nd j
  · try dsimp only at hj hk
    by_cases h1 : j = i ∧ i < ds.length
    · rw [if_pos h1] at hj
      rw [if_neg fun z => hjk (h1.1.trans z.1.symm)] at hk
      exact apart (fun z => hjk (h1.1.trans z.symm)) a hk hj
    · rw [if_neg h1] at hj
      by_cases h2 : k = i ∧ i < ds.length
      · rw [if_pos h2] at hk
        exact apart (fun z => h1 ⟨z, h2.2⟩) a hj hk
      · rw [if_neg h2] at hk
        exact S.dj j k a hjk hj hk
  · try dsimp only at ha
    split at ha
    · exact (hf a ha).elim (fun z => S.new i a z) fun z => .inr (t a z)
    · exact S.new j a ha
  · rw [List.length_set] at hj
    show (if j = i ∧ i < ds.length then fp else f j) = []
    rw [if_neg fun z => by have := z.2; rw [← z.1] at this; omega]
    exact S.out j hj
theorem SWf.mono (S : SWf P w W H0 C H σ ds f) (x : Stp C H C' H') : SWf P w W H0 C' H' σ ds f :=
  ⟨x.le', S.len, fun i s e => (S.sl i s e).mono (W := fun _ => False) x.w fun _ _ z => z, S.nd, S.dj, S.new, S.out⟩
/-- slot i's things are written, the slot keeps its value -/
theorem SWf.wr {Vw : Addr → Prop} {i : Nat} {s : Sl} (S : SWf P w W H0 C H σ ds f) (x : Stw Vw C H C' H') (hV : ∀ a, Vw a → a ∈ f i) (h : SlF P w C' H' s (σ[i]?).join (f i)) : SWf P w W H0 C' H' σ (ds.set i s) f := by
  have other : ∀ {j : Nat}, j ≠ i → ∀ a ∈ f j, ¬ Vw a := fun {j} hj a ha hv => S.dj j i a hj ha (hV a hv)
  refine ⟨x.le', by rw [List.length_set]; exact S.len, fun j s' e => ?_, S.nd, S.dj, S.new, fun j hj => S.out j (by rw [List.length_set] at hj; exact hj)⟩
  by_cases hj : j = i
  · subst hj
    rw [List.getElem?_set, if_pos rfl] at e
    split at e
    · cases e; exact h
    · cases e
  · rw [List.getElem?_set_ne (Ne.symm hj)] at e
    exact (S.sl j s' e).mono x (other hj)
/-- slot i's things come to the core -/
theorem SWf.inn {Vw : Addr → Prop} {i : Nat} {d : Dt} {v : V} (S : SWf P w W H0 C H σ ds f) (x : Stw Vw C H C' H') (hV : ∀ a, Vw a → a ∈ f i) (hv : (σ[i]?).join = some v) (h : Is P w C' d v) : SWf P w W H0 C' H' σ (ds.set i (.d d)) (fun j => if j = i then [] else f j) := by
  have other : ∀ {j : Nat}, j ≠ i → ∀ a ∈ f j, ¬ Vw a := fun {j} hj a ha hv => S.dj j i a hj ha (hV a hv)
  refine ⟨x.le', by rw [List.length_set]; exact S.len, fun j s' e => ?_, fun j => ?_, fun j k a hjk hj hk => ?_, fun j a ha => ?_, fun j hj => ?_⟩
  · by_cases hj : j = i
    · subst hj
      rw [List.getElem?_set, if_pos rfl] at e
      split at e
      · cases e
        rw [if_pos rfl]
        exact ⟨rfl, v, hv, h⟩
      · cases e
    · rw [List.getElem?_set_ne (Ne.symm hj)] at e
      rw [if_neg hj]
      exact (S.sl j s' e).mono x (other hj)
  · show (if j = i then [] else f j).Nodup
    split
    · exact List.nodup_nil
    · exact S.nd j
  · try dsimp only at hj hk
    split at hj
    · simp at hj
    · split at hk
      · simp at hk
      · exact S.dj j k a hjk hj hk
  · try dsimp only at ha
    split at ha
    · simp at ha
    · exact S.new j a ha
  · show (if j = i then [] else f j) = []
    split
    · rfl
    · exact S.out j (by rw [List.length_set] at hj; exact hj)
end
/-- the slots -/
def SD (P : Program) (w : World) (C H : Hp) (σ : L2.St) (ds : List Sl) : Prop := ∃ f, SWf P w (fun _ => True) H C H σ ds f
section
variable {P : Program} {w : World} {C H C' H' : Hp} {σ : L2.St} {ds : List Sl}
theorem SD.le (S : SD P w C H σ ds) : Le C H := S.elim fun _ S => S.le
theorem SD.len (S : SD P w C H σ ds) : σ.length = ds.length := S.elim fun _ S => S.len
theorem SD.sl (S : SD P w C H σ ds) (i : Nat) (s : Sl) (e : ds[i]? = some s) : SlOk P w C H s (σ[i]?).join := S.elim fun f S => ⟨f i, S.sl i s e⟩
theorem SWf.any {W : Addr → Prop} {H0 H1 : Hp} {f : Nat → List Addr} (S : SWf P w W H0 C H σ ds f) : SWf P w (fun _ => True) H1 C H σ ds f := ⟨S.le, S.len, S.sl, S.nd, S.dj, fun _ _ _ => .inl True.intro, S.out⟩
theorem SD.mono (S : SD P w C H σ ds) (x : Stp C H C' H') : SD P w C' H' σ ds := S.elim fun f S => ⟨f, (S.mono x).any⟩
theorem SD.at (S : SD P w C H σ ds) {i : Nat} {d : Dt} (h : ds[i]? = some (.d d)) : ∃ v, σ[i]? = some (some v) ∧ Is P w C d v := by
  obtain ⟨fp, f, v, e, q⟩ := S.sl i _ h
  exact ⟨v, Option.join_eq_some_iff.mp e, q⟩
theorem SD.set (S : SD P w C H σ ds) (i : Nat) {d : Dt} {v : V} (h : Is P w C d v) : SD P w C H (σ.set i (some v)) (ds.set i (.d d)) := by
  obtain ⟨f, S⟩ := S
  exact ⟨_, S.set (i := i) (Stp.refl S.le).w (Vw := fun _ => False) (fun _ z => z.elim) (fp := []) ⟨rfl, v, rfl, h⟩ List.nodup_nil (fun a ha => by simp at ha) fun a ha => ha⟩
end
/-- the slots of a comprehension's own names forgotten -/
def wipeD (ds : List Sl) : List Nat → List Sl
  | [] => ds
  | i :: is => (wipeD ds is).set i .un
theorem wipeD_length (ds : List Sl) : ∀ is : List Nat, (wipeD ds is).length = ds.length
  | [] => rfl
  | i :: is => by unfold wipeD; rw [List.length_set, wipeD_length ds is]
theorem wipeD_some (ds : List Sl) {i : Nat} {s : Sl} : ∀ {is : List Nat}, (wipeD ds is)[i]? = some s → s = .un ∨ (i ∉ is ∧ ds[i]? = some s)
  | [], h => .inr ⟨by simp, h⟩
  | j :: is, h => by
    unfold wipeD at h
    by_cases hj : j = i
    · subst hj
      rw [List.getElem?_set] at h
      rw [if_pos rfl] at h
      split at h
      · exact .inl (Option.some.inj h).symm
      · cases h
    · rw [List.getElem?_set_ne hj] at h
      rcases wipeD_some ds h with q | ⟨q1, q2⟩
      · exact .inl q
      · exact .inr ⟨by simp only [List.mem_cons, not_or]; exact ⟨fun e => hj e.symm, q1⟩, q2⟩
theorem wipeD_out (ds : List Sl) {i : Nat} : ∀ {is : List Nat}, i ∉ is → (wipeD ds is)[i]? = ds[i]?
  | [], _ => rfl
  | j :: is, h => by
    have h1 : j ≠ i := fun e => h (by rw [e]; exact List.mem_cons_self)
    unfold wipeD
    rw [List.getElem?_set_ne h1]
    exact wipeD_out ds fun z => h (List.mem_cons_of_mem _ z)
theorem SD.wiped {P : Program} {w : World} {C H : Hp} {σ : L2.St} {ds : List Sl} (S : SD P w C H σ ds) (is : List Nat) : SD P w C H (wipe σ is) (wipeD ds is) := by
  obtain ⟨f, S⟩ := S
  refine ⟨fun i => if i ∈ is then [] else f i, S.le, by rw [wipe_length, wipeD_length]; exact S.len, fun i s e => ?_, fun i => ?_, fun i j a hij hi hj => ?_, fun _ _ _ => .inl True.intro, fun i hi => ?_⟩
  · by_cases hi : i ∈ is
    · rw [if_pos hi]
      rcases wipeD_some ds e with q | ⟨q, _⟩
      · rw [q]; exact rfl
      · exact absurd hi q
    · rw [if_neg hi, wipe_out hi]
      rw [wipeD_out ds hi] at e
      exact S.sl i s e
  · show (if i ∈ is then [] else f i).Nodup
    split
    · exact List.nodup_nil
    · exact S.nd i
  · try dsimp only at hi hj
    split at hi
    · simp at hi
    · split at hj
      · simp at hj
      · exact S.dj i j a hij hi hj
  · show (if i ∈ is then [] else f i) = []
    split
    · rfl
    · rw [wipeD_length] at hi; exact S.out i hi
section
variable (X : Cx)
abbrev SDx (C H : Hp) (σ : L2.St) (ds : List Sl) : Prop := SD X.prog X.w C H σ ds
abbrev Isx (C : Hp) (d : Dt) (v : V) : Prop := Is X.prog X.w C d v
abbrev IsLx (C : Hp) (d : List Dt) (v : List V) : Prop := IsL X.prog X.w C d v
def EvD (e : Expr) (ds : List Sl) (d : Dt) : Prop := ∀ C H σ, SDx X C H σ ds → ∀ Q : VK, (∀ v C' H', Stp C H C' H' → Isx X C' d v → Q v H') → wpE X e σ H Q
def EvA (es : List Expr) (ds : List Sl) (as : List Dt) : Prop := ∀ C H σ, SDx X C H σ ds → ∀ Q : List V → Hp → Prop, (∀ vs C' H', Stp C H C' H' → IsLx X C' as vs → Q vs H') → wpA X es σ H Q
def EvT (e : Expr) (ds : List Sl) (b : Bool) : Prop := ∀ C H σ, SDx X C H σ ds → ∀ Q : Bool → Hp → Prop, (∀ C' H', Stp C H C' H' → Q b H') → wpT X e σ H Q
def EvW (e : Expr) (ds : List Sl) (b : Bool) : Prop := ∀ C H σ, SDx X C H σ ds → ∀ Q : Bool → Hp → Prop, (∀ C' H', Stp C H C' H' → Q b H') → wpW X e σ H Q
def EvC (op : CmpOp) (x y : Expr) (ds : List Sl) (b : Bool) : Prop := ∀ C H σ, SDx X C H σ ds → ∀ Q : VK, (∀ C' H', Stp C H C' H' → Q (.bl b) H') → wpC X op x y σ H Q
def EvTs (ifs : List Expr) (ds : List Sl) (b : Bool) : Prop := ∀ C H σ, SDx X C H σ ds → ∀ Q : Bool → Hp → Prop, (∀ C' H', Stp C H C' H' → Q b H') → wpTs X ifs σ H Q
/-- a target takes data; is: the slots that may have changed -/
structure EvG (tg : Expr) (d : Dt) (ds : List Sl) (is : List Nat) (ds' : List Sl) : Prop where
  run : ∀ C H σ v, SDx X C H σ ds → Isx X C d v → ∀ Q : L2.St → Hp → Prop,
    (∀ σ' C' H', Stp C H C' H' → SDx X C' H' σ' ds' → σ'.length = σ.length → (∀ j : Nat, j ∉ is → σ'[j]? = σ[j]?) → Q σ' H') → wpG X tg v σ H Q
  out : ∀ j : Nat, j ∉ is → ds'[j]? = ds[j]?
  inn : ∀ (j : Nat) (s : Sl), j ∈ is → ds'[j]? = some s → ∃ d, s = .d d
/-- a walk gives these data, one a turn, whatever becomes of W -/
def Wk (P : Program) (w : World) (W : Addr → Prop) (J : It) (C H : Hp) (xs : List Dt) : Prop := ∀ C2 H2, Stw W C H C2 H2 → ∀ i : Nat,
  (∀ d, xs[i]? = some d → J.go i H2 ∧ ∀ x H3, J.yld i H2 x H3 → ∃ C3, Stp C2 H2 C3 H3 ∧ Is P w C3 d x) ∧ (xs.length ≤ i → J.stop i H2)
def EvI (W : Addr → Prop) (tg iter : Expr) (ds : List Sl) (xs : List Dt) : Prop := ∀ C H σ, SDx X C H σ ds → ∀ R : It → Hp → Prop, (∀ J C' H', Stp C H C' H' → Wk X.prog X.w W J C' H' xs → R J H') → wpI X tg iter σ H R
end
section
variable {X : Cx} {ds : List Sl} {e a b : Expr} {es : List Expr} {pos : Pos} {d : Dt}
theorem EvD.var (i : Nat) {x : Str} (h : ds[i]? = some (.d d)) (hN : X.N[i]? = some x := by rfl) (hv : Vis X.env.scope x := by first | exact Or.inl rfl | exact Or.inr (Or.inl rfl) | exact Or.inr (Or.inr rfl))
    (hd : (x == ("__debug__" : Str)) = false := by decide) (hcd : (x == ("__classdict__" : Str)) = false := by decide) : EvD X (.Name x pos) ds d := fun C H σ S Q q => by
  obtain ⟨v, e, h⟩ := S.at h
  exact peW (pe_var hN hv hd hcd) ⟨v, e, q v C H (.refl S.le) h⟩
theorem EvD.int {i : Int} {j} : EvD X (.Constant (.int i) j pos) ds (.int i) := fun C H σ S Q q => peW pe_int (q _ C H (.refl S.le) rfl)
theorem EvD.bl {i : Bool} {j} : EvD X (.Constant (.bool i) j pos) ds (.bl i) := fun C H σ S Q q => peW pe_bl (q _ C H (.refl S.le) rfl)
theorem EvD.non {j} : EvD X (.Constant .none j pos) ds .non := fun C H σ S Q q => peW pe_non (q _ C H (.refl S.le) rfl)
theorem EvD.str {x : Str} {j} : EvD X (.Constant (.str x) j pos) ds (.str x) := fun C H σ S Q q => peW pe_str (q _ C H (.refl S.le) rfl)
theorem EvD.gint {x : Str} {i : Int} (hm : ∃ t, X.mg x = some (.int i t)) (hg : Gl X x := by rfl) (hd : (x == ("__debug__" : Str)) = false := by decide) : EvD X (.Name x pos) ds (.int i) := fun C H σ S Q q => by
  obtain ⟨t, hm⟩ := hm
  exact peW (pe_glob (v := .int i) hg hm ⟨t, rfl⟩ hd) (q _ C H (.refl S.le) rfl)
theorem EvD.gstr {x y : Str} (hm : ∃ t, X.mg x = some (.str y t)) (hg : Gl X x := by rfl) (hd : (x == ("__debug__" : Str)) = false := by decide) : EvD X (.Name x pos) ds (.str y) := fun C H σ S Q q => by
  obtain ⟨t, hm⟩ := hm
  exact peW (pe_glob (v := .str y) hg hm ⟨t, rfl⟩ hd) (q _ C H (.refl S.le) rfl)
theorem EvA.nil : EvA X [] ds [] := fun C H σ S Q q => paW pa_nil (q [] C H (.refl S.le) rfl)
theorem EvA.cons {as : List Dt} (h : EvD X e ds d) (hr : EvA X es ds as) (hs : starEach (e :: es) X.env = (false, eval e X.env) :: starEach es X.env := by rfl) : EvA X (e :: es) ds (d :: as) := fun C H σ S Q q =>
  paW (pa_cons wpE.pe wpA.pa hs) (h C H σ S _ fun v C1 H1 x1 i1 => hr C1 H1 σ (S.mono x1) _ fun vs C2 H2 x2 i2 => q _ C2 H2 (x1.trans x2) ⟨v, vs, rfl, Is.mono x2.le _ _ i1, i2⟩)
theorem Is.tup' {P : Program} {w : World} {C : Hp} {p : Addr} {as : List Dt} {vs : List V} (i : IsL P w (upd C p (.tup vs)) as vs) : Is P w (upd C p (.tup vs)) (.tup as) (.ref p) := ⟨p, vs, rfl, upd_same, i⟩
theorem Is.lst' {P : Program} {w : World} {C : Hp} {p : Addr} {as : List Dt} {vs : List V} (i : IsL P w (upd C p (.lst vs)) as vs) : Is P w (upd C p (.lst vs)) (.lst as) (.ref p) := ⟨p, vs, rfl, upd_same, i⟩
theorem small {n : Nat} (h : n ≤ 100000) : n ≤ sizeLine := Nat.le_trans h (by decide)
theorem EvD.tup {k} {as : List Dt} (h : EvA X es ds as) (hl : as.length ≤ 100000) : EvD X (.Tuple es k pos) ds (.tup as) := fun C H σ S Q q =>
  peW (pe_tup wpA.pa) (h C H σ S _ fun vs C1 H1 x1 i1 => ⟨by rw [i1.len]; exact small hl, fun p hp => q _ (upd C1 p (.tup vs)) _ (x1.trans (.new x1.le' hp)) (Is.tup' (IsL.mono (.new (x1.le'.dom p hp)) _ _ i1))⟩)
theorem EvD.lst {as : List Dt} (h : EvA X es ds as) (hl : as.length ≤ 100000) : EvD X (.List es pos) ds (.lst as) := fun C H σ S Q q =>
  peW (pe_lst wpA.pa) (h C H σ S _ fun vs C1 H1 x1 i1 => ⟨by rw [i1.len]; exact small hl, fun p hp => q _ (upd C1 p (.lst vs)) _ (x1.trans (.new x1.le' hp)) (Is.lst' (IsL.mono (.new (x1.le'.dom p hp)) _ _ i1))⟩)
/-- both evaluated, what is wanted of the values -/
theorem two {x y : Dt} (ha : EvD X a ds x) (hb : EvD X b ds y) {C H : Hp} {σ : L2.St} (S : SDx X C H σ ds) {R : V → V → Hp → Prop} (q : ∀ v u C' H', Stp C H C' H' → Isx X C' x v → Isx X C' y u → R v u H') :
    wpE X a σ H fun v H1 => wpE X b σ H1 fun u H2 => R v u H2 :=
  ha C H σ S _ fun v C1 H1 x1 i1 => hb C1 H1 σ (S.mono x1) _ fun u C2 H2 x2 i2 => q v u C2 H2 (x1.trans x2) (Is.mono x2.le _ _ i1) i2
theorem EvD.op {x y z : Dt} {op : Operator} {r : R2} (ho : OpR X (binaryOp op) r) (ha : EvD X a ds x) (hb : EvD X b ds y)
    (hr : ∀ C H v u, Le C H → Isx X C x v → Isx X C y u → ∀ Q : VK, (∀ v' C' H', Stp C H C' H' → Isx X C' z v' → Q v' H') → r v u H Q) : EvD X (.BinOp a op b pos) ds z := fun C H σ S Q q =>
  peW (pe_op ho wpE.pe wpE.pe) (two ha hb S fun v u C1 H1 x1 i1 i2 => hr C1 H1 v u x1.le' i1 i2 Q fun v' C2 H2 x2 i3 => q v' C2 H2 (x1.trans x2) i3)
theorem EvD.add {i j : Int} (ha : EvD X a ds (.int i)) (hb : EvD X b ds (.int j)) : EvD X (.BinOp a .Add b pos) ds (.int (i + j)) :=
  .op op_add ha hb fun C H v u l i1 i2 Q q => ⟨i, j, i1, i2, q _ C H (.refl l) rfl⟩
theorem EvD.sub {i j : Int} (ha : EvD X a ds (.int i)) (hb : EvD X b ds (.int j)) : EvD X (.BinOp a .Sub b pos) ds (.int (i - j)) :=
  .op op_sub ha hb fun C H v u l i1 i2 Q q => ⟨i, j, i1, i2, q _ C H (.refl l) rfl⟩
theorem EvD.catT {xs ys : List Dt} (ha : EvD X a ds (.tup xs)) (hb : EvD X b ds (.tup ys)) (hl : xs.length + ys.length ≤ 100000) : EvD X (.BinOp a .Add b pos) ds (.tup (xs ++ ys)) :=
  .op op_catA ha hb fun C H v u l i1 i2 Q q => by
    obtain ⟨p1, vs, rfl, r1, j1⟩ := i1
    obtain ⟨p2, us, rfl, r2, j2⟩ := i2
    refine ⟨p1, p2, vs, us, rfl, rfl, .inl (.inl (l.ex _ _ r1)), .inl (.inl (l.ex _ _ r2)), by rw [j1.len, j2.len]; exact small hl, fun e => ?_, fun _ e => ?_, fun _ _ p hp => ?_⟩
    · have e1 : xs = [] := by
        have := j1.len; rw [e] at this; exact List.eq_nil_of_length_eq_zero this.symm
      exact q _ C H (.refl l) ⟨p2, us, rfl, r2, by rw [e1]; exact j2⟩
    · have e1 : ys = [] := by
        have := j2.len; rw [e] at this; exact List.eq_nil_of_length_eq_zero this.symm
      exact q _ C H (.refl l) ⟨p1, vs, rfl, r1, by rw [e1, List.append_nil]; exact j1⟩
    · exact q _ (upd C p (.tup (vs ++ us))) _ (.new l hp) (Is.tup' (IsL.mono (.new (l.dom p hp)) _ _ (j1.app j2)))
theorem EvD.catL {xs ys : List Dt} (ha : EvD X a ds (.lst xs)) (hb : EvD X b ds (.lst ys)) (hl : xs.length + ys.length ≤ 100000) : EvD X (.BinOp a .Add b pos) ds (.lst (xs ++ ys)) :=
  .op op_cat ha hb fun C H v u l i1 i2 Q q => by
    obtain ⟨p1, vs, rfl, r1, j1⟩ := i1
    obtain ⟨p2, us, rfl, r2, j2⟩ := i2
    exact ⟨p1, p2, vs, us, rfl, rfl, l.ex _ _ r1, l.ex _ _ r2, by rw [j1.len, j2.len]; exact small hl, fun p hp => q _ (upd C p (.lst (vs ++ us))) _ (.new l hp) (Is.lst' (IsL.mono (.new (l.dom p hp)) _ _ (j1.app j2)))⟩
theorem plainIx {b : Expr} : True := True.intro
theorem EvD.ix {x y z : Dt} {r : R2} (ho : IxR X r) (ha : EvD X a ds x) (hb : EvD X b ds y) (hs : PlainIx b := by exact fun _ _ => rfl)
    (hr : ∀ C H v u, Le C H → Isx X C x v → Isx X C y u → ∀ Q : VK, (∀ v' C' H', Stp C H C' H' → Isx X C' z v' → Q v' H') → r v u H Q) : EvD X (.Subscript a b pos) ds z := fun C H σ S Q q =>
  peW (pe_ix ho wpE.pe wpE.pe hs) (two ha hb S fun v u C1 H1 x1 i1 i2 => hr C1 H1 v u x1.le' i1 i2 Q fun v' C2 H2 x2 i3 => q v' C2 H2 (x1.trans x2) i3)
theorem EvD.ixT {xs : List Dt} {n : Nat} {z : Dt} (ha : EvD X a ds (.tup xs)) (hb : EvD X b ds (.int (n : Int))) (h : xs[n]? = some z) (hs : PlainIx b := by exact fun _ _ => rfl) : EvD X (.Subscript a b pos) ds z :=
  .ix ix_tup ha hb hs fun C H v u l i1 i2 Q q => by
    obtain ⟨p1, vs, rfl, r1, j1⟩ := i1
    obtain ⟨y, hy, iy⟩ := j1.get h
    exact ⟨p1, vs, n, y, rfl, i2, .inl (.inl (l.ex _ _ r1)), atI_nat hy, q _ C H (.refl l) iy⟩
theorem EvD.ixL {xs : List Dt} {n : Nat} {z : Dt} (ha : EvD X a ds (.lst xs)) (hb : EvD X b ds (.int (n : Int))) (h : xs[n]? = some z) (hs : PlainIx b := by exact fun _ _ => rfl) : EvD X (.Subscript a b pos) ds z :=
  .ix ix_list ha hb hs fun C H v u l i1 i2 Q q => by
    obtain ⟨p1, vs, rfl, r1, j1⟩ := i1
    obtain ⟨y, hy, iy⟩ := j1.get h
    exact ⟨p1, vs, n, y, rfl, i2, .inl (.inl (l.ex _ _ r1)), atI_nat hy, q _ C H (.refl l) iy⟩
/-- e[:n] -/
theorem sIx_top (n k : Nat) : HT.sIx n n (some (k : Int)) = min k n := HT.sIx_nat n n k
theorem EvD.headT {xs : List Dt} {n : Nat} {p2 : Pos} (ha : EvD X a ds (.tup xs)) (hb : EvD X b ds (.int (n : Int))) : EvD X (.Subscript a (.Slice none (some b) none p2) pos) ds (.tup (xs.take n)) := fun C H σ S Q q =>
  peW (pe_slice sl_tupA wpE.pe po_none (po_some wpE.pe)) (two ha hb S fun v u C1 H1 x1 i1 i2 => by
    obtain ⟨p1, vs, rfl, r1, j1⟩ := i1
    refine ⟨(n : Int), i2, p1, vs, rfl, .inl (.inl (x1.le'.ex _ _ r1)), fun e => ?_, fun _ p hp => ?_⟩
    · have e2 : min n vs.length = vs.length := by rw [← HT.sIx_nat vs.length vs.length n]; exact e.2
      have e3 : xs.take n = xs := List.take_of_length_le (by have := j1.len; omega)
      exact q _ C1 H1 x1 ⟨p1, vs, rfl, r1, by rw [e3]; exact j1⟩
    · have e3 : cutV vs none (some (n : Int)) = vs.take n := by
        unfold cutV
        rw [HT.sIx_none, HT.sIx_nat, List.drop_zero, Nat.sub_zero]
        by_cases hn : n ≤ vs.length
        · rw [Nat.min_eq_left hn]
        · rw [Nat.min_eq_right (by omega), List.take_of_length_le (Nat.le_refl _), List.take_of_length_le (by omega)]
      rw [e3]
      exact q _ (upd C1 p (.tup (vs.take n))) _ (x1.trans (.new x1.le' hp)) (Is.tup' (IsL.mono (.new (x1.le'.dom p hp)) _ _ (j1.take n))))
theorem EvD.headL {xs : List Dt} {n : Nat} {p2 : Pos} (ha : EvD X a ds (.lst xs)) (hb : EvD X b ds (.int (n : Int))) : EvD X (.Subscript a (.Slice none (some b) none p2) pos) ds (.lst (xs.take n)) := fun C H σ S Q q =>
  peW (pe_slice sl_list wpE.pe po_none (po_some wpE.pe)) (two ha hb S fun v u C1 H1 x1 i1 i2 => by
    obtain ⟨p1, vs, rfl, r1, j1⟩ := i1
    refine ⟨(n : Int), i2, p1, vs, rfl, .inl (.inl (x1.le'.ex _ _ r1)), fun p hp => ?_⟩
    have e3 : cutV vs none (some (n : Int)) = vs.take n := by
      unfold cutV
      rw [HT.sIx_none, HT.sIx_nat, List.drop_zero, Nat.sub_zero]
      by_cases hn : n ≤ vs.length
      · rw [Nat.min_eq_left hn]
      · rw [Nat.min_eq_right (by omega), List.take_of_length_le (Nat.le_refl _), List.take_of_length_le (by omega)]
    rw [e3]
    exact q _ (upd C1 p (.lst (vs.take n))) _ (x1.trans (.new x1.le' hp)) (Is.lst' (IsL.mono (.new (x1.le'.dom p hp)) _ _ (j1.take n))))
end
end K66
set_option maxHeartbeats 4000000
namespace K66
variable [TabAt]
open PySem PySem.Spec PyProof.Rows L2
mutual
def pln : Dt → Nat → Bool
  | .non, _ => true
  | .int _, _ => true
  | .str x, _ => PyData.strOk x
  | .lst xs, n => decide (n ≠ 0) && plnL xs (n - 1)
  | .tup xs, n => decide (n ≠ 0) && plnL xs (n - 1)
  | .bl _, _ => false
  | .dic _ _, _ => false
  | .nd _ _, _ => false
  | .obj _ _ _, _ => false
def plnL : List Dt → Nat → Bool
  | [], _ => true
  | d :: ds, n => pln d n && plnL ds n
end
mutual
def py : Dt → PyData
  | .non => .none
  | .bl b => .bool b
  | .int i => .int i
  | .str x => .str x
  | .lst xs => .list (pyL xs)
  | .tup xs => .tuple (pyL xs)
  | .dic _ _ => .none
  | .nd _ _ => .none
  | .obj _ _ _ => .none
def pyL : List Dt → List PyData
  | [] => []
  | d :: ds => py d :: pyL ds
end
mutual
theorem pln_lay : ∀ (d : Dt) (n : Nat), pln d n = true → (py d).canLay0 = true ∧ (py d).depth ≤ n
  | .non, n, _ => ⟨rfl, Nat.zero_le _⟩
  | .int _, n, _ => ⟨rfl, Nat.zero_le _⟩
  | .str x, n, h => ⟨h, Nat.zero_le _⟩
  | .lst xs, n, h => by
    obtain ⟨h1, h2⟩ := Bool.and_eq_true_iff.mp (show (decide (n ≠ 0) && plnL xs (n - 1)) = true from h)
    have h1 := of_decide_eq_true h1
    obtain ⟨a, b⟩ := plnL_lay xs (n - 1) h2
    exact ⟨a, by show PyData.depthAll (pyL xs) + 1 ≤ n; omega⟩
  | .tup xs, n, h => by
    obtain ⟨h1, h2⟩ := Bool.and_eq_true_iff.mp (show (decide (n ≠ 0) && plnL xs (n - 1)) = true from h)
    have h1 := of_decide_eq_true h1
    obtain ⟨a, b⟩ := plnL_lay xs (n - 1) h2
    exact ⟨a, by show PyData.depthAll (pyL xs) + 1 ≤ n; omega⟩
theorem plnL_lay : ∀ (ds : List Dt) (n : Nat), plnL ds n = true → PyData.canLayAll0 (pyL ds) = true ∧ PyData.depthAll (pyL ds) ≤ n
  | [], n, _ => ⟨rfl, Nat.zero_le _⟩
  | d :: ds, n, h => by
    obtain ⟨h1, h2⟩ := Bool.and_eq_true_iff.mp (show (pln d n && plnL ds n) = true from h)
    obtain ⟨a, b⟩ := pln_lay d n h1
    obtain ⟨a', b'⟩ := plnL_lay ds n h2
    refine ⟨?_, ?_⟩
    · show ((py d).canLay0 && PyData.canLayAll0 (pyL ds)) = true
      rw [a, a']; rfl
    · show max (py d).depth (PyData.depthAll (pyL ds)) ≤ n
      omega
end
theorem pln_shaped {d : Dt} {n : Nat} (h : pln d n = true) (hn : n ≤ 60) : SeqAt.shaped (py d) = true := by
  obtain ⟨a, b⟩ := pln_lay d n h
  unfold SeqAt.shaped
  rw [a, decide_eq_true (show (py d).depth ≤ 64 by omega)]
  rfl
mutual
theorem eqv_py : ∀ (d e : Dt) (n m : Nat), pln d n = true → pln e m = true → (PyData.eqv (py d) (py e) = true ↔ d = e)
  | .non, .non, _, _, _, _ => by simp [py, PyData.eqv]
  | .non, .int _, _, _, _, _ => by simp [py, PyData.eqv]
  | .non, .str _, _, _, _, _ => by simp [py, PyData.eqv]
  | .non, .lst _, _, _, _, _ => by simp [py, PyData.eqv]
  | .non, .tup _, _, _, _, _ => by simp [py, PyData.eqv]
  | .int _, .non, _, _, _, _ => by simp [py, PyData.eqv]
  | .int _, .int _, _, _, _, _ => by simp [py, PyData.eqv]
  | .int _, .str _, _, _, _, _ => by simp [py, PyData.eqv]
  | .int _, .lst _, _, _, _, _ => by simp [py, PyData.eqv]
  | .int _, .tup _, _, _, _, _ => by simp [py, PyData.eqv]
  | .str _, .non, _, _, _, _ => by simp [py, PyData.eqv]
  | .str _, .int _, _, _, _, _ => by simp [py, PyData.eqv]
  | .str _, .str _, _, _, _, _ => by simp [py, PyData.eqv]
  | .str _, .lst _, _, _, _, _ => by simp [py, PyData.eqv]
  | .str _, .tup _, _, _, _, _ => by simp [py, PyData.eqv]
  | .lst _, .non, _, _, _, _ => by simp [py, PyData.eqv]
  | .lst _, .int _, _, _, _, _ => by simp [py, PyData.eqv]
  | .lst _, .str _, _, _, _, _ => by simp [py, PyData.eqv]
  | .lst xs, .lst ys, n, m, h, q => by
    have h2 := (Bool.and_eq_true_iff.mp (show (decide (n ≠ 0) && plnL xs (n - 1)) = true from h)).2
    have q2 := (Bool.and_eq_true_iff.mp (show (decide (m ≠ 0) && plnL ys (m - 1)) = true from q)).2
    rw [show PyData.eqv (py (.lst xs)) (py (.lst ys)) = PyData.eqvAll (pyL xs) (pyL ys) from rfl, eqvL_py xs ys _ _ h2 q2]
    simp
  | .lst _, .tup _, _, _, _, _ => by simp [py, PyData.eqv]
  | .tup _, .non, _, _, _, _ => by simp [py, PyData.eqv]
  | .tup _, .int _, _, _, _, _ => by simp [py, PyData.eqv]
  | .tup _, .str _, _, _, _, _ => by simp [py, PyData.eqv]
  | .tup _, .lst _, _, _, _, _ => by simp [py, PyData.eqv]
  | .tup xs, .tup ys, n, m, h, q => by
    have h2 := (Bool.and_eq_true_iff.mp (show (decide (n ≠ 0) && plnL xs (n - 1)) = true from h)).2
    have q2 := (Bool.and_eq_true_iff.mp (show (decide (m ≠ 0) && plnL ys (m - 1)) = true from q)).2
    rw [show PyData.eqv (py (.tup xs)) (py (.tup ys)) = PyData.eqvAll (pyL xs) (pyL ys) from rfl, eqvL_py xs ys _ _ h2 q2]
    simp
theorem eqvL_py : ∀ (ds es : List Dt) (n m : Nat), plnL ds n = true → plnL es m = true → (PyData.eqvAll (pyL ds) (pyL es) = true ↔ ds = es)
  | [], [], _, _, _, _ => by simp [pyL, PyData.eqvAll]
  | [], _ :: _, _, _, _, _ => by simp [pyL, PyData.eqvAll]
  | _ :: _, [], _, _, _, _ => by simp [pyL, PyData.eqvAll]
  | d :: ds, e :: es, n, m, h, q => by
    obtain ⟨h1, h2⟩ := Bool.and_eq_true_iff.mp (show (pln d n && plnL ds n) = true from h)
    obtain ⟨q1, q2⟩ := Bool.and_eq_true_iff.mp (show (pln e m && plnL es m) = true from q)
    rw [show PyData.eqvAll (pyL (d :: ds)) (pyL (e :: es)) = (PyData.eqv (py d) (py e) && PyData.eqvAll (pyL ds) (pyL es)) from rfl, Bool.and_eq_true, eqv_py d e n m h1 q1, eqvL_py ds es n m h2 q2]
    simp
end
section
variable {P : Program} {w : World} {K : PySem.W.Frag} {C : Hp}
mutual
theorem Is.dp : ∀ (d : Dt) (n : Nat) (v : V), pln d n = true → Is P w C d v → Dp K C v (py d)
  | .non, n, v, _, h => by rw [show v = V.non from h]; exact .non
  | .int i, n, v, _, h => by rw [show v = V.int i from h]; exact .int i
  | .str x, n, v, _, h => by rw [show v = V.str x from h]; exact .str x
  | .lst xs, n, v, p, h => by
    obtain ⟨a, vs, rfl, r, q⟩ := h
    exact .lst (.inl (.inl r)) (IsL.dp xs _ vs (Bool.and_eq_true_iff.mp (show (decide (n ≠ 0) && plnL xs (n - 1)) = true from p)).2 q)
  | .tup xs, n, v, p, h => by
    obtain ⟨a, vs, rfl, r, q⟩ := h
    exact .tup (.inl (.inl r)) (IsL.dp xs _ vs (Bool.and_eq_true_iff.mp (show (decide (n ≠ 0) && plnL xs (n - 1)) = true from p)).2 q)
theorem IsL.dp : ∀ (ds : List Dt) (n : Nat) (vs : List V), plnL ds n = true → IsL P w C ds vs → DpAll K C vs (pyL ds)
  | [], _, _, _, h => by rw [show _ = [] from h]; exact .nil
  | d :: ds, n, _, p, h => by
    obtain ⟨v, r, rfl, a, b⟩ := h
    obtain ⟨p1, p2⟩ := Bool.and_eq_true_iff.mp (show (pln d n && plnL ds n) = true from p)
    exact .cons (Is.dp d n v p1 a) (IsL.dp ds n r p2 b)
end
end
section
variable {X : Cx} {ds : List Sl} {e a b : Expr} {es rest : List Expr} {pos : Pos} {d : Dt} {ta tb : TE}
theorem pc_of {op : CmpOp} {r : R2} (ho : OpR X (compareOp op) r) (ha : PE X a ta) (hb : PE X b tb) : PC X op a b (tOp r ta tb) :=
  ⟨fun pins s σ H Q I h => bin ha hb I h fun v u s2 x y H2 I2 rx ry q => ho pins s2 σ H2 x y v u Q I2 rx ry q⟩
theorem EvC.of {x y : Dt} {k : Bool} {op : CmpOp} {r : R2} (ho : OpR X (compareOp op) r) (ha : EvD X a ds x) (hb : EvD X b ds y)
    (hr : ∀ C H v u, Le C H → Isx X C x v → Isx X C y u → ∀ Q : VK, (∀ C' H', Stp C H C' H' → Q (.bl k) H') → r v u H Q) : EvC X op a b ds k := fun C H σ S Q q =>
  pcW (pc_of ho wpE.pe wpE.pe) (two ha hb S fun v u C1 H1 x1 i1 i2 => hr C1 H1 v u x1.le' i1 i2 Q fun C2 H2 x2 => q C2 H2 (x1.trans x2))
theorem EvD.cmp {op : CmpOp} {k : Bool} (h : EvC X op a b ds k) (h1 : behindInMarks op b = false := by first | exact nobehind _ (by decide) (by decide) | rfl) : EvD X (.Compare a [op] [b] pos) ds (.bl k) := fun C H σ S Q q =>
  peW (pe_cmp wpC.pc h1) (h C H σ S Q fun C' H' x => q _ C' H' x rfl)
theorem EvT.cmp {op : CmpOp} {k : Bool} (h : EvC X op a b ds k) (h1 : behindInMarks op b = false := by first | exact nobehind _ (by decide) (by decide) | rfl) : EvT X (.Compare a [op] [b] pos) ds k := fun C H σ S Q q =>
  ptW (pt_cmp wpC.pc h1) (h C H σ S _ fun C' H' x => ⟨k, rfl, q C' H' x⟩)
theorem EvC.ints {op : CmpOp} {g : Int → Int → Bool} {i j : Int} (ho : OpR X (compareOp op) (rI0 fun i j => .bl (g i j))) (ha : EvD X a ds (.int i)) (hb : EvD X b ds (.int j)) : EvC X op a b ds (g i j) :=
  .of ho ha hb fun C H v u l i1 i2 Q q => ⟨i, j, i1, i2, q C H (.refl l)⟩
theorem EvC.lt {i j : Int} (ha : EvD X a ds (.int i)) (hb : EvD X b ds (.int j)) : EvC X .Lt a b ds (decide (i < j)) := .ints op_lt ha hb
theorem EvC.le {i j : Int} (ha : EvD X a ds (.int i)) (hb : EvD X b ds (.int j)) : EvC X .LtE a b ds (decide (i ≤ j)) := .ints op_le ha hb
theorem EvC.gt {i j : Int} (ha : EvD X a ds (.int i)) (hb : EvD X b ds (.int j)) : EvC X .Gt a b ds (decide (j < i)) := .ints op_gt ha hb
theorem EvC.ge {i j : Int} (ha : EvD X a ds (.int i)) (hb : EvD X b ds (.int j)) : EvC X .GtE a b ds (decide (j ≤ i)) := .ints op_ge ha hb
theorem Dp.mono' {K : PySem.W.Frag} {P : Program} {w : World} {C H : Hp} {d : Dt} {n : Nat} {v : V} (p : pln d n = true) (l : Le C H) (i : Is P w C d v) : Dp K H v (py d) := Is.dp d n v p (Is.mono l d v i)
/-- == and != of plain data -/
theorem EvC.eq {x y : Dt} {k : Bool} (hu : X.A.units + 64 < cLine) (ha : EvD X a ds x) (hb : EvD X b ds y) (px : pln x 20 = true) (py' : pln y 20 = true) (hk : k = true ↔ x = y) : EvC X .Eq a b ds k :=
  .of (op_eqD hu) ha hb fun C H v u l i1 i2 Q q => by
    refine ⟨py x, py y, Dp.mono' px l i1, Dp.mono' py' l i2, pln_shaped px (by omega), pln_shaped py' (by omega), ?_⟩
    have e : PyData.eqv (py x) (py y) = k := by
      cases k with
      | true => exact (eqv_py x y _ _ px py').mpr (hk.mp rfl)
      | false => exact Bool.eq_false_iff.mpr fun z => Bool.false_ne_true (hk.mpr ((eqv_py x y _ _ px py').mp z))
    rw [e]; exact q C H (.refl l)
theorem EvC.ne {x y : Dt} {k : Bool} (hu : X.A.units + 64 < cLine) (ha : EvD X a ds x) (hb : EvD X b ds y) (px : pln x 20 = true) (py' : pln y 20 = true) (hk : k = true ↔ x ≠ y) : EvC X .NotEq a b ds k :=
  .of (op_neD hu) ha hb fun C H v u l i1 i2 Q q => by
    refine ⟨py x, py y, Dp.mono' px l i1, Dp.mono' py' l i2, pln_shaped px (by omega), pln_shaped py' (by omega), ?_⟩
    have e : (!PyData.eqv (py x) (py y)) = k := by
      cases k with
      | true => 
        have z : ¬ PyData.eqv (py x) (py y) = true := fun z => hk.mp rfl ((eqv_py x y _ _ px py').mp z)
        rw [Bool.eq_false_iff.mpr z]; rfl
      | false =>
        have z : x = y := Classical.not_not.mp fun z => Bool.false_ne_true (hk.mpr z)
        rw [(eqv_py x y _ _ px py').mpr z]; rfl
    rw [e]; exact q C H (.refl l)
/-- .. of two bools -/
theorem EvC.neB {x y : Bool} (ha : EvD X a ds (.bl x)) (hb : EvD X b ds (.bl y)) : EvC X .NotEq a b ds (x != y) :=
  .of op_ne ha hb fun C H v u l i1 i2 Q q => by
    rw [show v = V.bl x from i1, show u = V.bl y from i2]
    refine ⟨rfl, ?_⟩
    have e : (!decide (V.bl x = V.bl y)) = (x != y) := by cases x <;> cases y <;> rfl
    rw [e]; exact q C H (.refl l)
/-- x in l, l a list of plain data -/
theorem any_eqv {x : Dt} {n : Nat} (px : pln x n = true) : ∀ (xs : List Dt), plnL xs n = true → (((pyL xs).any fun z => PyData.eqv z (py x)) = true ↔ x ∈ xs)
  | [], _ => by simp [pyL]
  | y :: ys, h => by
    obtain ⟨h1, h2⟩ := Bool.and_eq_true_iff.mp (show (pln y n && plnL ys n) = true from h)
    rw [show pyL (y :: ys) = py y :: pyL ys from rfl, List.any_cons, Bool.or_eq_true, eqv_py y x _ _ h1 px, any_eqv px ys h2, List.mem_cons]
    constructor
    · rintro (h | h)
      · exact .inl h.symm
      · exact .inr h
    · rintro (h | h)
      · exact .inl h.symm
      · exact .inr h
theorem EvC.inL {x : Dt} {xs : List Dt} {k : Bool} (hu : X.A.units + 65 < cLine) (ha : EvD X a ds x) (hb : EvD X b ds (.lst xs)) (px : pln x 20 = true) (pxs : plnL xs 20 = true) (hk : k = true ↔ x ∈ xs) : EvC X .In a b ds k :=
  .of (op_inD hu) ha hb fun C H v u l i1 i2 Q q => by
    have pl : pln (.lst xs) 21 = true := by
      show (decide ((21 : Nat) ≠ 0) && plnL xs 20) = true
      rw [pxs]; rfl
    refine ⟨py x, pyL xs, Dp.mono' px l i1, Dp.mono' pl l i2, pln_shaped px (by omega), pln_shaped pl (by omega), ?_⟩
    have e : ((pyL xs).any fun z => PyData.eqv z (py x)) = k := by
      cases k with
      | true => exact (any_eqv px xs pxs).mpr (hk.mp rfl)
      | false => exact Bool.eq_false_iff.mpr fun z => Bool.false_ne_true (hk.mpr ((any_eqv px xs pxs).mp z))
    rw [e]; exact q C H (.refl l)
theorem EvC.notInL {x : Dt} {xs : List Dt} {k : Bool} (hu : X.A.units + 65 < cLine) (ha : EvD X a ds x) (hb : EvD X b ds (.lst xs)) (px : pln x 20 = true) (pxs : plnL xs 20 = true) (hk : k = true ↔ x ∉ xs) : EvC X .NotIn a b ds k :=
  .of (op_notInD hu) ha hb fun C H v u l i1 i2 Q q => by
    have pl : pln (.lst xs) 21 = true := by
      show (decide ((21 : Nat) ≠ 0) && plnL xs 20) = true
      rw [pxs]; rfl
    refine ⟨py x, pyL xs, Dp.mono' px l i1, Dp.mono' pl l i2, pln_shaped px (by omega), pln_shaped pl (by omega), ?_⟩
    have e : (!(pyL xs).any fun z => PyData.eqv z (py x)) = k := by
      cases k with
      | true =>
        have z : ¬ ((pyL xs).any fun z => PyData.eqv z (py x)) = true := fun z => hk.mp rfl ((any_eqv px xs pxs).mp z)
        rw [Bool.eq_false_iff.mpr z]; rfl
      | false =>
        have z : x ∈ xs := Classical.not_not.mp fun z => Bool.false_ne_true (hk.mpr z)
        rw [(any_eqv px xs pxs).mpr z]; rfl
    rw [e]; exact q C H (.refl l)
theorem IsL.strs {P : Program} {w : World} {C : Hp} : ∀ {xs : List Str} {vs : List V}, IsL P w C (xs.map .str) vs → vs = xs.map V.str
  | [], _, h => h
  | z :: zs, _, h => by
    obtain ⟨v', r, rfl, h1, h2⟩ := h
    rw [show v' = V.str z from h1, List.map_cons, IsL.strs h2]
theorem IsL.bls {P : Program} {w : World} {C : Hp} : ∀ {xs : List Bool} {vs : List V}, IsL P w C (xs.map .bl) vs → vs = xs.map V.bl
  | [], _, h => h
  | z :: zs, _, h => by
    obtain ⟨v', r, rfl, h1, h2⟩ := h
    rw [show v' = V.bl z from h1, List.map_cons, IsL.bls h2]
/-- x in t, t a tuple of two texts (op_in_seq) -/
theorem EvC.notInT {x : Str} {xs : List Str} (ha : EvD X a ds (.str x)) (hb : EvD X b ds (.tup (xs.map .str))) : EvC X .NotIn a b ds (!xs.any fun y => decide (y = x)) :=
  .of op_notIn_seq ha hb fun C H v u l i1 i2 Q q => by
    rw [show v = V.str x from i1]
    obtain ⟨p1, vs, rfl, r1, j1⟩ := i2
    have e : vs = xs.map V.str := IsL.strs j1
    subst e
    refine ⟨p1, xs.map V.str, rfl, .inr (.inl (.inl (l.ex _ _ r1))), rfl, ?_, ?_⟩
    · rw [List.all_map, List.all_eq_true]; intro z _; rfl
    · have e2 : inV (V.str x) (xs.map V.str) = xs.any fun y => decide (y = x) := by
        unfold inV
        rw [List.any_map]
        rfl
      show Q (.bl (if true = true then !inV (V.str x) (xs.map V.str) else _)) H
      rw [if_pos rfl, e2]
      exact q C H (.refl l)
/-- a is None -/
def isNon : Dt → Bool
  | .non => true
  | _ => false
theorem Is.non_iff {P : Program} {w : World} {C : Hp} {d : Dt} {v : V} (h : Is P w C d v) : decide (v = .non) = isNon d := by
  cases d with
  | non => rw [show v = V.non from h]; rfl
  | bl b => rw [show v = V.bl b from h]; rfl
  | int i => rw [show v = V.int i from h]; rfl
  | str x => rw [show v = V.str x from h]; rfl
  | lst xs => obtain ⟨_, _, rfl, _⟩ := h; rfl
  | tup xs => obtain ⟨_, _, rfl, _⟩ := h; rfl
  | dic _ _ => obtain ⟨_, _, _, rfl, _⟩ := h; rfl
  | nd _ _ => obtain ⟨_, _, _, _, rfl, _⟩ := h; rfl
  | obj _ _ _ => obtain ⟨_, _, _, rfl, _⟩ := h; rfl
theorem EvC.isN {j pos'} (ha : EvD X a ds d) : EvC X .Is a (.Constant .none j pos') ds (isNon d) := fun C H σ S Q q =>
  pcW (pc_isN wpE.pe) (ha C H σ S _ fun v C1 H1 x1 i1 => by rw [Is.non_iff i1]; exact q C1 H1 x1)
theorem EvC.isNotN {j pos'} (ha : EvD X a ds d) : EvC X .IsNot a (.Constant .none j pos') ds (!isNon d) := fun C H σ S Q q =>
  pcW (pc_notN wpE.pe) (ha C H σ S _ fun v C1 H1 x1 i1 => by rw [Is.non_iff i1]; exact q C1 H1 x1)
theorem EvC.isNotB {x y : Bool} (ha : EvD X a ds (.bl x)) (hb : EvD X b ds (.bl y)) : EvC X .IsNot a b ds (x != y) :=
  .of op_notBl ha hb fun C H v u l i1 i2 Q q => by
    rw [show v = V.bl x from i1, show u = V.bl y from i2]
    refine ⟨x, y, rfl, rfl, ?_⟩
    have e : (!decide (x = y)) = (x != y) := by cases x <;> cases y <;> rfl
    first
      | (rw [e]; exact q C H (.refl l))
      | exact q C H (.refl l)
theorem EvT.val {k : Bool} (h : EvD X e ds (.bl k)) (he : ∀ whole, isTrue e X.env whole = (do let v ← whole; standAt e.pos; holding [v] (truthy v)) := by intro _; rfl) : EvT X e ds k := fun C H σ S Q q =>
  ptW (pt_val wpE.pe he) (h C H σ S _ fun v C1 H1 x1 i1 => ⟨k, i1, q C1 H1 x1⟩)
theorem EvT.not {k : Bool} (h : EvT X e ds k) : EvT X (.UnaryOp .Not e pos) ds (!k) := fun C H σ S Q q => ptW (pt_not wpT.pt) (h C H σ S _ q)
theorem EvT.bool {k : Bool} (h : EvW X e ds k) : EvT X e ds k := fun C H σ S Q q => ptW (PW.pt wpW.pw) (h C H σ S Q q)
theorem EvW.and1 {k : Bool} (h : EvT X a ds k) : EvW X (.BoolOp .And [a] pos) ds k := fun C H σ S Q q => pwW (pw_and1 wpT.pt) (h C H σ S Q q)
theorem EvW.or1 {k : Bool} (h : EvT X a ds k) : EvW X (.BoolOp .Or [a] pos) ds k := fun C H σ S Q q => pwW (pw_or1 wpT.pt) (h C H σ S Q q)
theorem EvW.and {x y : Bool} (h : EvT X a ds x) (h2 : x = true → EvW X (.BoolOp .And (b :: rest) pos) ds y) : EvW X (.BoolOp .And (a :: b :: rest) pos) ds (x && y) := fun C H σ S Q q =>
  pwW (pw_and wpT.pt wpW.pw) (h C H σ S _ fun C1 H1 x1 => by
    cases x with
    | true => exact iteT (h2 rfl C1 H1 σ (S.mono x1) _ fun C2 H2 x2 => q C2 H2 (x1.trans x2))
    | false => exact iteF (q C1 H1 x1))
theorem EvW.or {x y : Bool} (h : EvT X a ds x) (h2 : x = false → EvW X (.BoolOp .Or (b :: rest) pos) ds y) : EvW X (.BoolOp .Or (a :: b :: rest) pos) ds (x || y) := fun C H σ S Q q =>
  pwW (pw_or wpT.pt wpW.pw) (h C H σ S _ fun C1 H1 x1 => by
    cases x with
    | true => exact iteT (q C1 H1 x1)
    | false => exact iteF (h2 rfl C1 H1 σ (S.mono x1) _ fun C2 H2 x2 => q C2 H2 (x1.trans x2)))
theorem EvD.one {op} (h : EvD X a ds d) : EvD X (.BoolOp op [a] pos) ds d := fun C H σ S Q q => peW (pe_one wpE.pe) (h C H σ S Q q)
theorem EvD.and {x y : Bool} (h : EvD X a ds (.bl x)) (h2 : x = true → EvD X (.BoolOp .And (b :: rest) pos) ds (.bl y)) : EvD X (.BoolOp .And (a :: b :: rest) pos) ds (.bl (x && y)) := fun C H σ S Q q =>
  peW (pe_and wpE.pe wpE.pe) (h C H σ S _ fun v C1 H1 x1 i1 => ⟨x, i1, by
    cases x with
    | true => exact iteT (h2 rfl C1 H1 σ (S.mono x1) _ fun v C2 H2 x2 i2 => q v C2 H2 (x1.trans x2) i2)
    | false => exact iteF (q _ C1 H1 x1 rfl)⟩)
theorem EvD.or {x y : Bool} (h : EvD X a ds (.bl x)) (h2 : x = false → EvD X (.BoolOp .Or (b :: rest) pos) ds (.bl y)) : EvD X (.BoolOp .Or (a :: b :: rest) pos) ds (.bl (x || y)) := fun C H σ S Q q =>
  peW (pe_or wpE.pe wpE.pe) (h C H σ S _ fun v C1 H1 x1 i1 => ⟨x, i1, by
    cases x with
    | true => exact iteT (q _ C1 H1 x1 rfl)
    | false => exact iteF (h2 rfl C1 H1 σ (S.mono x1) _ fun v C2 H2 x2 i2 => q v C2 H2 (x1.trans x2) i2)⟩)
theorem EvD.not {x : Bool} (h : EvD X a ds (.bl x)) : EvD X (.UnaryOp .Not a pos) ds (.bl (!x)) := fun C H σ S Q q =>
  peW (pe_not wpE.pe) (h C H σ S _ fun v C1 H1 x1 i1 => ⟨x, i1, q _ C1 H1 x1 rfl⟩)
theorem EvD.ite {c : Expr} {x : Bool} (h : EvT X c ds x) (h1 : x = true → EvD X a ds d) (h2 : x = false → EvD X b ds d) : EvD X (.IfExp c a b pos) ds d := fun C H σ S Q q =>
  peW (pe_ifExp wpT.pt wpE.pe wpE.pe) (h C H σ S _ fun C1 H1 x1 => by
    cases x with
    | true => exact iteT (h1 rfl C1 H1 σ (S.mono x1) _ fun v C2 H2 x2 i2 => q v C2 H2 (x1.trans x2) i2)
    | false => exact iteF (h2 rfl C1 H1 σ (S.mono x1) _ fun v C2 H2 x2 i2 => q v C2 H2 (x1.trans x2) i2))
theorem EvD.cast {d' : Dt} (h : EvD X e ds d) (q : d = d') : EvD X e ds d' := q ▸ h
theorem EvT.cast {k k' : Bool} (h : EvT X e ds k) (q : k = k') : EvT X e ds k' := q ▸ h
theorem EvC.cast {op : CmpOp} {k k' : Bool} (h : EvC X op a b ds k) (q : k = k') : EvC X op a b ds k' := q ▸ h
theorem EvW.cast {k k' : Bool} (h : EvW X e ds k) (q : k = k') : EvW X e ds k' := q ▸ h
end
end K66
set_option maxHeartbeats 4000000
namespace K66
variable [TabAt]
open PySem PySem.Spec PyProof.Rows L2
open ClX (CRead CVal pe_cval)
structure Txt (K : PySem.W.Frag) (mg : Str → Option Value) : Prop where
  says : He.SaysD fas fns K
  ex : exB K = true
  glo : ∀ x : Str, (He.Fa.glo x) ∈ fas → mg x = some (.ref (He.ga K x))
  free : ∀ x : Str, (He.Fa.free x) ∈ fas → mg x = none
  int : ∀ (x : Str) (i : Int), (He.Fa.int x i) ∈ fas → ∃ t, mg x = some (.int i t)
  str : ∀ (x y : Str), (He.Fa.str x y) ∈ fas → ∃ t, mg x = some (.str y t)
structure OkD (P : Program) (w : World) (K : PySem.W.Frag) (mg : Str → Option Value) (base : Heap) (d : He.DefD) (k : Nat) (ps : List Str) (sp : Sp) : Prop where
  ok : ∃ fd, FnOk P w K mg base CX0 k (He.fAd K d.at_) fd ps sp ∧ Binds K fd ps []
  kp : PySem.W.keepIn K (.ref (He.fAd K d.at_)) = true
/-- a pure def, over data: pre tells which arguments, which answer -/
def spD (P : Program) (w : World) (pre : List Dt → Dt → Prop) : Sp := fun vs H Q _ => ∃ (C : Hp) (as : List Dt) (d : Dt), pre as d ∧ Le C H ∧ IsL P w C as vs ∧ ∀ v C' H', Stp C H C' H' → Is P w C' d v → Q v H'
theorem okD_of {P : Program} {w : World} {K : PySem.W.Frag} {mg : Str → Option Value} {base : Heap} {d : He.DefD} {N ps : List Str} {k : Nat} {sp : Sp} (F : ∃ fd, FnP K d (He.fAd K d.at_) fd) (S : FnScope N ps d.scope)
    (hb : ∀ (kV doc pm : Value) (an : Option Addr) (cdv ct : Value) (us : List Value), us.length = ps.length → bindArgs (PySem.W.fnOf d.name d.qual d.params d.body d.scope .none kV doc pm an cdv ct) ⟨us, []⟩ = pure (ps.zip us))
    (len : ∀ vs H Q E, sp vs H Q E → vs.length = ps.length)
    (hbody : ∀ (cdv : Value) (A : Around) (outer : List Env) (s : Shared) (H : Hp) (vs : List V) (Q : VK) (E : XK), Room k (A.deeper (envOfC d.qual d.scope s.heap.objs.size (He.fAd K d.at_) cdv)) → sp vs H Q E →
      wpSs (cxOf CX0 P w K mg base N d.qual d.scope (He.fAd K d.at_) cdv A outer s H E).nox d.body { nx := fun _ H' => Q .non H', rt := Q } (start N vs) H) : OkD P w K mg base d (k + 1) ps sp := by
  obtain ⟨fd, F⟩ := F
  exact ⟨⟨fd, F.ok S len fun cdv A outer s H vs Q E hr h => ⟨_, PSs.nox wpSs.pss, hbody cdv A outer s H vs Q E hr h⟩, F.bindsN hb⟩, F.kp⟩
section
variable {X : Cx} {ds : List Sl} {e a b o : Expr} {es : List Expr} {pos apos p : Pos} {d z : Dt}
/-- what a promise over data asks of a caller -/
theorem spD.use {pre : List Dt → Dt → Prop} {as : List Dt} {r : Dt} (hp : pre as r) {C H : Hp} {vs : List V} (l : Le C H) (i : IsLx X C as vs) {Q : VK} {E : XK} (q : ∀ v C' H', Stp C H C' H' → Isx X C' r v → Q v H') : spD X.prog X.w pre vs H Q E :=
  ⟨C, as, r, hp, l, i, q⟩
theorem EvD.call {f : He.DefD} {k : Nat} {ps : List Str} {pre : List Dt → Dt → Prop} {x : Str} {as : List Dt} (O : OkD X.prog X.w X.K X.mg X.base f k ps (spD X.prog X.w pre)) (hm : X.mg x = some (.ref (He.fAd X.K f.at_))) (hr : Room k X.A)
    (ha : EvA X (e :: es) ds as) (hp : pre as z) (hg : Gl X x := by rfl) (hdb : (x == ("__debug__" : Str)) = false := by decide) (he : starEach (e :: es) X.env = (false, eval e X.env) :: starEach es X.env := by rfl) (hpl : (backTo pos (starEach es X.env)).any (·.1) = false := by rfl) :
    EvD X (.Call (.Name x p) (e :: es) [] pos) ds z := fun C H σ S Q q => by
  obtain ⟨fd, F, hb⟩ := O.ok
  refine peW (pe_call F hr hg hm O.kp hb .nil pass0 wpA.pa hdb he hpl) (ha C H σ S _ fun vs C1 H1 x1 i1 => ?_)
  show spD X.prog X.w pre (vs ++ []) H1 Q E0
  rw [List.append_nil]
  exact spD.use hp x1.le' i1 fun v C2 H2 x2 i2 => q v C2 H2 (x1.trans x2) i2
theorem EvD.fld {c : Addr} {f : Str} (h : EvD X e ds (.obj c f d)) (hc : Cls X.K c) (hn : NoAttr X.K c f) (hb : attributeBase e f X.env (eval e X.env) = eval e X.env := by rfl) : EvD X (.Attribute e f pos) ds d := fun C H σ S Q q =>
  peW (pe_fld wpE.pe hb) (h C H σ S _ fun v C1 H1 x1 i1 => by
    obtain ⟨a, dx, u, rfl, r, i2⟩ := i1
    refine ⟨a, c, dx, [(f, u)], u, rfl, x1.le'.ex _ _ r, hc, hn, ?_, q u C1 H1 x1 i2⟩
    rw [List.lookup_cons, beq_self_eq_true])
theorem look1 {f m : Str} {u : V} (h : (m == f) = false) : ([(f, u)] : List (Str × V)).lookup m = none := by
  rw [List.lookup_cons, h] <;> rfl
theorem EvD.meth0 {c : Addr} {f m : Str} {g : He.DefD} {k : Nat} {ps : List Str} {pre : List Dt → Dt → Prop} {pl : Sem Bool} (O : OkD X.prog X.w X.K X.mg X.base g k ps (spD X.prog X.w pre)) (h : EvD X o ds (.obj c f d)) (hc : Cls X.K c) (hm : Meth X.K c m (He.fAd X.K g.at_)) (hr : Room k X.A)
    (hp : pre [.obj c f d] z) (hf : (m == f) = false := by decide)
    (ht : eval (.Call (.Attribute o m apos) [] [] pos) X.env = (do
      let ov ← eval o X.env
      standAt apos.atName
      let (f, first) ← holding [ov] (getMethod ov m pl)
      callWith pos f first (backTo pos (starEach [] X.env)) (backToKw pos (keywordEach [] X.env))) := by rfl) : EvD X (.Call (.Attribute o m apos) [] [] pos) ds z := fun C H σ S Q q => by
  obtain ⟨fd, F, hb⟩ := O.ok
  refine peW (pe_meth0 (pl := pl) (E := E0) wpE.pe hc hm F hr hb .nil pass0 ht) (h C H σ S _ fun v C1 H1 x1 i1 => ?_)
  obtain ⟨a, dx, u, rfl, r, i2⟩ := id i1
  exact ⟨a, dx, [(f, u)], rfl, x1.le'.ex _ _ r, look1 hf, spD.use (E := E0) hp x1.le' (.one i1) fun v C2 H2 x2 i2 => q v C2 H2 (x1.trans x2) i2⟩
theorem EvD.meth {c : Addr} {f m : Str} {g : He.DefD} {k : Nat} {ps : List Str} {pre : List Dt → Dt → Prop} {pl : Sem Bool} {as : List Dt} (O : OkD X.prog X.w X.K X.mg X.base g k ps (spD X.prog X.w pre)) (h : EvD X o ds (.obj c f d)) (hc : Cls X.K c) (hm : Meth X.K c m (He.fAd X.K g.at_)) (hr : Room k X.A)
    (ha : EvA X (e :: es) ds as) (hp : pre (.obj c f d :: as) z) (hf : (m == f) = false := by decide)
    (hst : starEach (e :: es) X.env = (false, eval e X.env) :: starEach es X.env := by rfl) (hpl : (backTo pos (starEach es X.env)).any (·.1) = false := by rfl)
    (ht : eval (.Call (.Attribute o m apos) (e :: es) [] pos) X.env = (do
      let ov ← eval o X.env
      standAt apos.atName
      let (f, first) ← holding [ov] (getMethod ov m pl)
      callWith pos f first (backTo pos (starEach (e :: es) X.env)) (backToKw pos (keywordEach [] X.env))) := by rfl) : EvD X (.Call (.Attribute o m apos) (e :: es) [] pos) ds z := fun C H σ S Q q => by
  obtain ⟨fd, F, hb⟩ := O.ok
  refine peW (pe_meth (pl := pl) wpE.pe hc hm F hr hb .nil pass0 wpA.pa hst hpl ht) (h C H σ S _ fun v C1 H1 x1 i1 => ?_)
  obtain ⟨a, dx, u, rfl, r, i2⟩ := id i1
  refine ⟨a, dx, [(f, u)], rfl, x1.le'.ex _ _ r, look1 hf, ha C1 H1 σ (S.mono x1) _ fun vs C2 H2 x2 i2 => ?_⟩
  show spD X.prog X.w pre (.ref a :: (vs ++ [])) H2 Q E0
  rw [List.append_nil]
  exact spD.use hp x2.le' (.cons (Is.mono x2.le _ _ i1) i2) fun v C3 H3 x3 i3 => q v C3 H3 ((x1.trans x2).trans x3) i3
/-- a class's constant, read off the class -/
theorem EvD.cval {c : Str} {f : Str} {i : Int} (hm : X.mg c = some (.ref (He.ga X.K c))) (hr : CRead X.K (He.ga X.K c) (.type "type")) (hv : ∃ u, CVal X.K (He.ga X.K c) (.type "type") f (.int i) u) (hg : Gl X c := by rfl) (hd : (c == ("__debug__" : Str)) = false := by decide)
    (hb : attributeBase (.Name c p) f X.env (eval (.Name c p) X.env) = eval (.Name c p) X.env := by rfl) : EvD X (.Attribute (.Name c p) f pos) ds (.int i) := fun C H σ S Q q => by
  obtain ⟨u, hv⟩ := hv
  exact peW (pe_cval (pe_glob (v := .ref (He.ga X.K c)) hg hm rfl hd) hb) ⟨_, _, _, u, rfl, hr, hv, q _ C H (.refl S.le) rfl⟩
theorem EvD.callB {x : Str} {id : String} {r : List V → Hp → VK → Prop} {as : List Dt} (hc : CallR X (.builtin id) r) (hm : X.mg x = none) (hv : bootBuiltins x = some (.builtin id)) (ha : EvA X (e :: es) ds as)
    (hr : ∀ C H vs, Le C H → IsLx X C as vs → ∀ Q : VK, (∀ v' C' H', Stp C H C' H' → Isx X C' z v' → Q v' H') → r vs H Q) (hg : Gl X x := by rfl) (hn : x ≠ "__name__" := by decide) (hdb : (x == ("__debug__" : Str)) = false := by decide)
    (hst : starEach (e :: es) X.env = (false, eval e X.env) :: starEach es X.env := by rfl) (hpl : (backTo pos (starEach es X.env)).any (·.1) = false := by rfl) : EvD X (.Call (.Name x p) (e :: es) [] pos) ds z := fun C H σ S Q q =>
  peW (pe_callB hc hg hm hv wpA.pa hn hdb hst hpl) (ha C H σ S _ fun vs C1 H1 x1 i1 => hr C1 H1 vs x1.le' i1 Q fun v C2 H2 x2 i2 => q v C2 H2 (x1.trans x2) i2)
theorem EvD.callTy {x : Str} {T : String} {r : List V → Hp → VK → Prop} {as : List Dt} (hc : CallR X (.type T) r) (hm : X.mg x = none) (hv : bootBuiltins x = some (.type T)) (ha : EvA X (e :: es) ds as)
    (hr : ∀ C H vs, Le C H → IsLx X C as vs → ∀ Q : VK, (∀ v' C' H', Stp C H C' H' → Isx X C' z v' → Q v' H') → r vs H Q) (hg : Gl X x := by rfl) (hn : x ≠ "__name__" := by decide) (hdb : (x == ("__debug__" : Str)) = false := by decide)
    (hst : starEach (e :: es) X.env = (false, eval e X.env) :: starEach es X.env := by rfl) (hpl : (backTo pos (starEach es X.env)).any (·.1) = false := by rfl) : EvD X (.Call (.Name x p) (e :: es) [] pos) ds z := fun C H σ S Q q =>
  peW (pe_callTy hc hg hm hv wpA.pa hn hdb hst hpl) (ha C H σ S _ fun vs C1 H1 x1 i1 => hr C1 H1 vs x1.le' i1 Q fun v C2 H2 x2 i2 => q v C2 H2 (x1.trans x2) i2)
theorem IsL.one' {P : Program} {w : World} {C : Hp} {d : Dt} {vs : List V} (h : IsL P w C [d] vs) : ∃ v, vs = [v] ∧ Is P w C d v := by
  obtain ⟨v, r, rfl, h1, h2⟩ := h
  rw [show r = [] from h2]
  exact ⟨v, rfl, h1⟩
theorem IsL.two' {P : Program} {w : World} {C : Hp} {d e : Dt} {vs : List V} (h : IsL P w C [d, e] vs) : ∃ v u, vs = [v, u] ∧ Is P w C d v ∧ Is P w C e u := by
  obtain ⟨v, r, rfl, h1, h2⟩ := h
  obtain ⟨u, rfl, h3⟩ := IsL.one' h2
  exact ⟨v, u, rfl, h1, h3⟩
theorem Is.rd {P : Program} {w : World} {C H : Hp} {ks : List Key} {vs : List Dt} {v : V} (l : Le C H) (h : Is P w C (.dic ks vs) v) : ∃ a us, v = .ref a ∧ Rd H a (.dK (ks.zip us)) ∧ ks.length = us.length ∧ IsL P w C vs us := by
  obtain ⟨a, o, us, e, r, n, i⟩ := h
  exact ⟨a, us, e, .inr ⟨o, l.ex _ _ r⟩, n, i⟩
theorem call_lenK : CallR X (.builtin "len") (fun xs H Q => ∃ a kvs, xs = [V.ref a] ∧ Rd H a (.dK kvs) ∧ Q (.int kvs.length) H) := by
  intro pins s σ H xs us Q I r h
  obtain ⟨a, kvs, rfl, ha, q⟩ := h
  obtain ⟨u, rfl, ru⟩ := vals1 r
  cases ru
  exact d_len I ha fun t s' I' => ⟨.int _, H, I', ⟨t, rfl⟩, q⟩
section
variable (hm : X.mg "len" = none) (hg : Gl X "len")
theorem EvD.lenL {xs : List Dt} (ha : EvD X a ds (.lst xs)) (hm : X.mg "len" = none) (hg : Gl X "len" := by rfl) (hst : starEach [a] X.env = (false, eval a X.env) :: starEach [] X.env := by rfl) : EvD X (.Call (.Name "len" p) [a] [] pos) ds (.int (xs.length : Nat)) :=
  .callB call_len_seq hm boot_len (.cons ha .nil hst) (fun C H vs l i Q q => by
    obtain ⟨v, rfl, p1, us, rfl, r1, j1⟩ := IsL.one' i
    exact ⟨p1, us, rfl, .inl (.inl (.inl (l.ex _ _ r1))), by rw [j1.len]; exact q _ C H (.refl l) rfl⟩) hg (hst := hst)
theorem EvD.lenT {xs : List Dt} (ha : EvD X a ds (.tup xs)) (hm : X.mg "len" = none) (hg : Gl X "len" := by rfl) (hst : starEach [a] X.env = (false, eval a X.env) :: starEach [] X.env := by rfl) : EvD X (.Call (.Name "len" p) [a] [] pos) ds (.int (xs.length : Nat)) :=
  .callB call_len_seq hm boot_len (.cons ha .nil hst) (fun C H vs l i Q q => by
    obtain ⟨v, rfl, p1, us, rfl, r1, j1⟩ := IsL.one' i
    exact ⟨p1, us, rfl, .inr (.inl (.inl (l.ex _ _ r1))), by rw [j1.len]; exact q _ C H (.refl l) rfl⟩) hg (hst := hst)
theorem EvD.lenS {x : Str} (ha : EvD X a ds (.str x)) (hl : x.length ≤ sizeLine) (hm : X.mg "len" = none) (hg : Gl X "len" := by rfl) (hst : starEach [a] X.env = (false, eval a X.env) :: starEach [] X.env := by rfl) : EvD X (.Call (.Name "len" p) [a] [] pos) ds (.int (x.length : Nat)) :=
  .callB call_len hm boot_len (.cons ha .nil hst) (fun C H vs l i Q q => by
    obtain ⟨v, rfl, i1⟩ := IsL.one' i
    rw [show v = V.str x from i1]
    exact ⟨_, _, rfl, ⟨hl, rfl⟩, q _ C H (.refl l) rfl⟩) hg (hst := hst)
theorem zip_len {α β : Type} {ks : List α} {us : List β} (h : ks.length = us.length) : (ks.zip us).length = ks.length := by
  rw [List.length_zip, h, Nat.min_self]
theorem EvD.lenK {ks : List Key} {xs : List Dt} (ha : EvD X a ds (.dic ks xs)) (hm : X.mg "len" = none) (hg : Gl X "len" := by rfl) (hst : starEach [a] X.env = (false, eval a X.env) :: starEach [] X.env := by rfl) : EvD X (.Call (.Name "len" p) [a] [] pos) ds (.int (ks.length : Nat)) :=
  .callB call_lenK hm boot_len (.cons ha .nil hst) (fun C H vs l i Q q => by
    obtain ⟨v, rfl, i1⟩ := IsL.one' i
    obtain ⟨p1, us, rfl, r1, n, j1⟩ := i1.rd l
    exact ⟨p1, _, rfl, r1, by rw [zip_len n]; exact q _ C H (.refl l) rfl⟩) hg (hst := hst)
end
/-- list(xs), list(t), tuple(xs), tuple(t) -/
theorem EvD.listL {xs : List Dt} (ha : EvD X a ds (.lst xs)) (hm : X.mg "list" = none) (hg : Gl X "list" := by rfl) (hst : starEach [a] X.env = (false, eval a X.env) :: starEach [] X.env := by rfl) : EvD X (.Call (.Name "list" p) [a] [] pos) ds (.lst xs) :=
  .callTy call_list_of hm boot_list (.cons ha .nil hst) (fun C H vs l i Q q => by
    obtain ⟨v, rfl, p1, us, rfl, r1, j1⟩ := IsL.one' i
    exact ⟨p1, us, rfl, .inl (.inl (.inl (l.ex _ _ r1))), fun p hp => q _ (upd C p (.lst us)) _ (.new l hp) (Is.lst' (IsL.mono (.new (l.dom p hp)) _ _ j1))⟩) hg (hst := hst)
theorem EvD.listT {xs : List Dt} (ha : EvD X a ds (.tup xs)) (hm : X.mg "list" = none) (hg : Gl X "list" := by rfl) (hst : starEach [a] X.env = (false, eval a X.env) :: starEach [] X.env := by rfl) : EvD X (.Call (.Name "list" p) [a] [] pos) ds (.lst xs) :=
  .callTy call_list_of hm boot_list (.cons ha .nil hst) (fun C H vs l i Q q => by
    obtain ⟨v, rfl, p1, us, rfl, r1, j1⟩ := IsL.one' i
    exact ⟨p1, us, rfl, .inr (.inl (.inl (l.ex _ _ r1))), fun p hp => q _ (upd C p (.lst us)) _ (.new l hp) (Is.lst' (IsL.mono (.new (l.dom p hp)) _ _ j1))⟩) hg (hst := hst)
theorem EvD.tupL {xs : List Dt} (ha : EvD X a ds (.lst xs)) (hm : X.mg "tuple" = none) (hg : Gl X "tuple" := by rfl) (hst : starEach [a] X.env = (false, eval a X.env) :: starEach [] X.env := by rfl) : EvD X (.Call (.Name "tuple" p) [a] [] pos) ds (.tup xs) :=
  .callTy call_tuple_of hm boot_tuple (.cons ha .nil hst) (fun C H vs l i Q q => by
    obtain ⟨v, rfl, p1, us, rfl, r1, j1⟩ := IsL.one' i
    exact ⟨p1, us, rfl, .inl ⟨.inl (.inl (l.ex _ _ r1)), fun p hp => q _ (upd C p (.tup us)) _ (.new l hp) (Is.tup' (IsL.mono (.new (l.dom p hp)) _ _ j1))⟩⟩) hg (hst := hst)
theorem EvD.tupT {xs : List Dt} (ha : EvD X a ds (.tup xs)) (hm : X.mg "tuple" = none) (hg : Gl X "tuple" := by rfl) (hst : starEach [a] X.env = (false, eval a X.env) :: starEach [] X.env := by rfl) : EvD X (.Call (.Name "tuple" p) [a] [] pos) ds (.tup xs) :=
  .callTy call_tuple_of hm boot_tuple (.cons ha .nil hst) (fun C H vs l i Q q => by
    obtain ⟨v, rfl, p1, us, rfl, r1, j1⟩ := IsL.one' i
    exact ⟨p1, us, rfl, .inr ⟨.inl (.inl (l.ex _ _ r1)), q _ C H (.refl l) ⟨p1, us, rfl, r1, j1⟩⟩⟩) hg (hst := hst)
/-- any, all of a list of bools -/
theorem EvD.any {bs : List Bool} (hc : X.calm = true) (ha : EvD X a ds (.lst (bs.map .bl))) (hm : X.mg "any" = none) (hg : Gl X "any" := by rfl) (hst : starEach [a] X.env = (false, eval a X.env) :: starEach [] X.env := by rfl) : EvD X (.Call (.Name "any" p) [a] [] pos) ds (.bl (bs.any id)) :=
  .callB (cr_any hc) hm (by decide +kernel) (.cons ha .nil hst) (fun C H vs l i Q q => by
    obtain ⟨v, rfl, p1, us, rfl, r1, j1⟩ := IsL.one' i
    exact ⟨p1, bs, rfl, .inl (.inl (by rw [← IsL.bls j1]; exact l.ex _ _ r1)), q _ C H (.refl l) rfl⟩) hg (hst := hst)
theorem EvD.all {bs : List Bool} (hc : X.calm = true) (ha : EvD X a ds (.lst (bs.map .bl))) (hm : X.mg "all" = none) (hg : Gl X "all" := by rfl) (hst : starEach [a] X.env = (false, eval a X.env) :: starEach [] X.env := by rfl) : EvD X (.Call (.Name "all" p) [a] [] pos) ds (.bl (bs.all id)) :=
  .callB (cr_all hc) hm (by decide +kernel) (.cons ha .nil hst) (fun C H vs l i Q q => by
    obtain ⟨v, rfl, p1, us, rfl, r1, j1⟩ := IsL.one' i
    exact ⟨p1, bs, rfl, .inl (.inl (by rw [← IsL.bls j1]; exact l.ex _ _ r1)), q _ C H (.refl l) rfl⟩) hg (hst := hst)
def dTy : Dt → String
  | .non => "NoneType"
  | .bl _ => "bool"
  | .int _ => "int"
  | .str _ => "str"
  | .lst _ => "list"
  | .tup _ => "tuple"
  | .dic _ _ => "dict"
  | _ => ""
theorem Is.ty {P : Program} {w : World} {K : PySem.W.Frag} {C H : Hp} {v : V} (l : Le C H) : ∀ {d : Dt}, dTy d ≠ "" → Is P w C d v → TyX K H v (.type (dTy d))
  | .non, _, h => by rw [show v = V.non from h]; exact .base .non
  | .bl b, _, h => by rw [show v = V.bl b from h]; exact .base (.bl b)
  | .int i, _, h => by rw [show v = V.int i from h]; exact .base (.int i)
  | .str x, _, h => by rw [show v = V.str x from h]; exact .base (.str x)
  | .lst xs, _, h => by
    obtain ⟨a, vs, rfl, r, _⟩ := h
    exact .base (.lst (l.ex _ _ r))
  | .tup xs, _, h => by
    obtain ⟨a, vs, rfl, r, _⟩ := h
    exact .base (.tup (l.ex _ _ r))
  | .dic ks xs, _, h => by
    obtain ⟨a, us, rfl, r, _⟩ := h.rd l
    rcases r with r | ⟨o, r⟩
    · exact .base (.dK r)
    · exact .fDict r
  | .nd _ _, h, _ => absurd rfl h
  | .obj _ _ _, h, _ => absurd rfl h
/-- isinstance(x, T), T a built-in class by its name -/
theorem EvD.isi {T : String} {x : Str} {k : Bool} {q1 : Pos} (ha : EvD X a ds d) (ht : dTy d ≠ "") (hk : kitB (dTy d) T = some k) (hm : X.mg "isinstance" = none) (hmT : X.mg x = none) (hvT : bootBuiltins x = some (.type T)) (hg : Gl X "isinstance" := by rfl) (hgT : Gl X x := by rfl)
    (hnT : x ≠ "__name__" := by decide) (hdT : (x == ("__debug__" : Str)) = false := by decide) (hst : starEach [a, .Name x q1] X.env = (false, eval a X.env) :: starEach [.Name x q1] X.env := by rfl) (hst2 : starEach [.Name x q1] X.env = (false, eval (.Name x q1) X.env) :: starEach [] X.env := by rfl) :
    EvD X (.Call (.Name "isinstance" p) [a, .Name x q1] [] pos) ds (.bl k) := fun C H σ S Q q =>
  peW (pe_callB call_isi hg hm (by decide +kernel) (pa_cons wpE.pe (pa_cons (pe_bltn (v := .ty T) hgT hmT hvT rfl hnT hdT) pa_nil hst2) hst) (by decide) (by decide) hst)
    (ha C H σ S _ fun v C1 H1 x1 i1 => ⟨v, .ty T, _, _, k, rfl, .ty T, i1.ty x1.le' ht, kit_ty hk, q _ C1 H1 x1 rfl⟩)
/-- isinstance(x, (S, T)) -/
theorem EvD.isi2 {S T : String} {x y : Str} {k : Bool} {q1 q2 q3 : Pos} {kk : Nat} (ha : EvD X a ds d) (ht : dTy d ≠ "") (hk : PySem.W.kitAny X.K (.type (dTy d)) [.type S, .type T] = some k) (hm : X.mg "isinstance" = none) (hmS : X.mg x = none) (hvS : bootBuiltins x = some (.type S))
    (hmT : X.mg y = none) (hvT : bootBuiltins y = some (.type T)) (hg : Gl X "isinstance" := by rfl) (hgS : Gl X x := by rfl) (hgT : Gl X y := by rfl) (hnS : x ≠ "__name__" := by decide) (hdS : (x == ("__debug__" : Str)) = false := by decide) (hnT : y ≠ "__name__" := by decide) (hdT : (y == ("__debug__" : Str)) = false := by decide)
    (hst : starEach [a, .Tuple [.Name x q1, .Name y q2] kk q3] X.env = (false, eval a X.env) :: starEach [.Tuple [.Name x q1, .Name y q2] kk q3] X.env := by rfl) (hst2 : starEach [.Tuple [.Name x q1, .Name y q2] kk q3] X.env = (false, eval (.Tuple [.Name x q1, .Name y q2] kk q3) X.env) :: starEach [] X.env := by rfl)
    (hst3 : starEach [.Name x q1, .Name y q2] X.env = (false, eval (.Name x q1) X.env) :: starEach [.Name y q2] X.env := by rfl) (hst4 : starEach [.Name y q2] X.env = (false, eval (.Name y q2) X.env) :: starEach [] X.env := by rfl) :
    EvD X (.Call (.Name "isinstance" p) [a, .Tuple [.Name x q1, .Name y q2] kk q3] [] pos) ds (.bl k) := fun C H σ Sd Q q =>
  peW (pe_callB call_isiT hg hm (by decide +kernel) (pa_cons wpE.pe (pa_cons (pe_tup (pa_cons (pe_bltn (v := .ty S) hgS hmS hvS rfl hnS hdS) (pa_cons (pe_bltn (v := .ty T) hgT hmT hvT rfl hnT hdT) pa_nil hst4) hst3)) pa_nil hst2) hst) (by decide) (by decide) hst)
    (ha C H σ Sd _ fun v C1 H1 x1 i1 => ⟨by show 2 ≤ sizeLine; decide, fun t ht0 => ⟨v, t, _, _, _, k, rfl, upd_same, .cons (.ty S) (.cons (.ty T) .nil), i1.ty (x1.le'.trans (.new ht0)) ht, hk, q _ C1 _ (x1.trans (.only x1.le' (same_new ht0))) rfl⟩⟩)
/-- isinstance(x, C), C an own class -/
theorem EvD.isiOwn {x : Str} {k : Bool} {q1 : Pos} (ha : EvD X a ds d) (ht : dTy d ≠ "") (hk : PySem.W.kitOne X.K (.type (dTy d)) (.ref (He.ga X.K x)) = some k) (hm : X.mg "isinstance" = none) (hmT : X.mg x = some (.ref (He.ga X.K x))) (hg : Gl X "isinstance" := by rfl) (hgT : Gl X x := by rfl)
    (hdT : (x == ("__debug__" : Str)) = false := by decide) (hst : starEach [a, .Name x q1] X.env = (false, eval a X.env) :: starEach [.Name x q1] X.env := by rfl) (hst2 : starEach [.Name x q1] X.env = (false, eval (.Name x q1) X.env) :: starEach [] X.env := by rfl) :
    EvD X (.Call (.Name "isinstance" p) [a, .Name x q1] [] pos) ds (.bl k) := fun C H σ S Q q =>
  peW (pe_callB call_isi hg hm (by decide +kernel) (pa_cons wpE.pe (pa_cons (pe_glob (v := .ref (He.ga X.K x)) hgT hmT rfl hdT) pa_nil hst2) hst) (by decide) (by decide) hst)
    (ha C H σ S _ fun v C1 H1 x1 i1 => ⟨v, .ref _, _, _, k, rfl, .own _, i1.ty x1.le' ht, hk, q _ C1 H1 x1 rfl⟩)
/-- .. of an instance of the class itself -/
theorem EvD.isiSelf {x f : Str} {q1 : Pos} (ha : EvD X a ds (.obj (He.ga X.K x) f d)) (hc : Cls X.K (He.ga X.K x)) (h1 : PySem.W.findIn X.K (.ref (He.ga X.K x)) "__class__" = some (some (.builtin "object.__class__")))
    (h2 : PySem.W.specialIn X.K (.builtin "object.__class__") "__get__" = some (some (.builtin "getset_descriptor.__get__"))) (h3 : PySem.W.takesIn X.K (.builtin "object.__class__") = some true) (h4 : PySem.W.mroIn X.K (He.ga X.K x) (.type "object") = some true)
    (hm : X.mg "isinstance" = none) (hmT : X.mg x = some (.ref (He.ga X.K x))) (hg : Gl X "isinstance" := by rfl) (hgT : Gl X x := by rfl)
    (hdT : (x == ("__debug__" : Str)) = false := by decide) (hst : starEach [a, .Name x q1] X.env = (false, eval a X.env) :: starEach [.Name x q1] X.env := by rfl) (hst2 : starEach [.Name x q1] X.env = (false, eval (.Name x q1) X.env) :: starEach [] X.env := by rfl) :
    EvD X (.Call (.Name "isinstance" p) [a, .Name x q1] [] pos) ds (.bl true) := fun C H σ S Q q =>
  peW (pe_callB call_isi hg hm (by decide +kernel) (pa_cons wpE.pe (pa_cons (pe_glob (v := .ref (He.ga X.K x)) hgT hmT rfl hdT) pa_nil hst2) hst) (by decide) (by decide) hst)
    (ha C H σ S _ fun v C1 H1 x1 i1 => by
      obtain ⟨a', dx, u, rfl, r, _⟩ := i1
      refine ⟨.ref a', .ref _, _, _, true, rfl, .own _, .base (.ins (x1.le'.ex _ _ r) hc h1 h2 h3 h4), ?_, q _ C1 H1 x1 rfl⟩
      unfold PySem.W.kitOne
      rw [if_pos (beq_self_eq_true _)])
end
end K66
set_option maxHeartbeats 4000000
namespace K66
variable [TabAt]
open PySem PySem.Spec PyProof.Rows L2
section
variable {P : Program} {w : World} {W : Addr → Prop} {C H : Hp} {K : PySem.W.Frag}
theorem Wk.lst {a : Addr} {vs : List V} {xs : List Dt} (h : C a = some (.lst vs)) (i : IsL P w C xs vs) : Wk P w W (Itl K a) C H xs := fun C2 H2 x n => by
  have h2 : SqL K H2 a vs := .inl (.inl (x.le'.ex _ _ (x.le.ex _ _ h)))
  refine ⟨fun d e => ?_, fun hn => ⟨vs, h2, by rw [i.len]; exact hn⟩⟩
  obtain ⟨v, e1, i1⟩ := i.get e
  refine ⟨⟨vs, v, h2, e1⟩, fun y H3 q => ?_⟩
  obtain ⟨rfl, q⟩ := q
  have e2 := q vs h2
  rw [e1] at e2
  cases e2
  exact ⟨C2, .refl x.le', Is.mono x.le _ _ i1⟩
theorem Wk.tup {a : Addr} {vs : List V} {xs : List Dt} (h : C a = some (.tup vs)) (i : IsL P w C xs vs) : Wk P w W (Itt K a) C H xs := fun C2 H2 x n => by
  have h2 : SqT K H2 a vs := .inl (.inl (x.le'.ex _ _ (x.le.ex _ _ h)))
  refine ⟨fun d e => ?_, fun hn => ⟨vs, h2, by rw [i.len]; exact hn⟩⟩
  obtain ⟨v, e1, i1⟩ := i.get e
  refine ⟨⟨vs, v, h2, e1⟩, fun y H3 q => ?_⟩
  obtain ⟨rfl, q⟩ := q
  have e2 := q vs h2
  rw [e1] at e2
  cases e2
  exact ⟨C2, .refl x.le', Is.mono x.le _ _ i1⟩
/-- an own list, while nothing is written -/
theorem Wk.own {a : Addr} {vs : List V} {xs : List Dt} (hc : C a = none) (h : H a = some (.lst vs)) (i : IsL P w C xs vs) : Wk P w (fun _ => False) (Itl K a) C H xs := fun C2 H2 x n => by
  have h2 : SqL K H2 a vs := .inl (.inl (x.kp _ _ (fun z => z) hc h))
  refine ⟨fun d e => ?_, fun hn => ⟨vs, h2, by rw [i.len]; exact hn⟩⟩
  obtain ⟨v, e1, i1⟩ := i.get e
  refine ⟨⟨vs, v, h2, e1⟩, fun y H3 q => ?_⟩
  obtain ⟨rfl, q⟩ := q
  have e2 := q vs h2
  rw [e1] at e2
  cases e2
  exact ⟨C2, .refl x.le', Is.mono x.le _ _ i1⟩
/-- lo, lo + 1, .. -/
def rng (lo : Int) (n : Nat) : List Dt := (List.range n).map fun (i : Nat) => .int (lo + (i : Nat))
theorem rng_length {lo : Int} {n : Nat} : (rng lo n).length = n := by unfold rng; rw [List.length_map, List.length_range]
theorem rng_get {lo : Int} {n i : Nat} {d : Dt} (h : (rng lo n)[i]? = some d) : i < n ∧ d = .int (lo + i) := by
  unfold rng at h
  rw [List.getElem?_map] at h
  cases q : (List.range n)[i]? with
  | none => rw [q] at h; cases h
  | some j =>
    rw [q] at h
    obtain ⟨h1, h2⟩ := List.getElem?_eq_some_iff.mp q
    rw [List.length_range] at h1
    rw [List.getElem_range] at h2
    subst h2
    exact ⟨h1, (Option.some.inj h).symm⟩
theorem Wk.rng {lo : Int} {n : Nat} : Wk P w W (Itr lo n) C H (rng lo n) := fun C2 H2 x i => by
  refine ⟨fun d e => ?_, fun hn => by rw [rng_length] at hn; exact hn⟩
  obtain ⟨h1, rfl⟩ := rng_get e
  refine ⟨h1, fun y H3 q => ?_⟩
  obtain ⟨rfl, rfl⟩ := q
  exact ⟨C2, .refl x.le', rfl⟩
/-- the signs of a text -/
def signs (x : Str) : List Dt := x.cps.toList.map fun c => .str ⟨#[c]⟩
theorem Wk.str {x : Str} : Wk P w W (Its x) C H (signs x) := fun C2 H2 y i => by
  have hl : (signs x).length = x.cps.size := by unfold signs; rw [List.length_map, Array.length_toList]
  refine ⟨fun d e => ?_, fun hn => by rw [hl] at hn; exact hn⟩
  have hi : i < x.cps.size := by rw [← hl]; exact (List.getElem?_eq_some_iff.mp e).1
  refine ⟨hi, fun z H3 q => ?_⟩
  obtain ⟨rfl, c, hc, rfl⟩ := q
  refine ⟨C2, .refl y.le', ?_⟩
  have e2 : (signs x)[i]? = some (.str ⟨#[c]⟩) := by
    unfold signs
    rw [List.getElem?_map, Array.getElem?_toList, hc]
    rfl
  rw [e2] at e
  cases e
  rfl
/-- pairs (i, x) -/
def enumD (xs : List Dt) : List Dt := xs.zipIdx.map fun p => .tup [.int (p.2 : Nat), p.1]
theorem enumD_length {xs : List Dt} : (enumD xs).length = xs.length := by unfold enumD; rw [List.length_map, List.length_zipIdx]
theorem enumD_get {xs : List Dt} {i : Nat} {d : Dt} (h : (enumD xs)[i]? = some d) : ∃ x, xs[i]? = some x ∧ d = .tup [.int (i : Nat), x] := by
  unfold enumD at h
  rw [List.getElem?_map, List.getElem?_zipIdx] at h
  cases q : xs[i]? with
  | none => rw [q] at h; cases h
  | some x =>
    rw [q] at h
    refine ⟨x, rfl, ?_⟩
    have := (Option.some.inj h).symm
    simpa using this
theorem Wk.enum {a : Addr} {vs : List V} {xs : List Dt} (h : C a = some (.lst vs)) (i : IsL P w C xs vs) : Wk P w W (Ite K a) C H (enumD xs) := fun C2 H2 x n => by
  have h2 : SqL K H2 a vs := .inl (.inl (x.le'.ex _ _ (x.le.ex _ _ h)))
  refine ⟨fun d e => ?_, fun hn => ⟨vs, h2, by rw [i.len, ← enumD_length]; exact hn⟩⟩
  obtain ⟨z, ez, rfl⟩ := enumD_get e
  obtain ⟨v, e1, i1⟩ := i.get ez
  refine ⟨⟨vs, v, h2, e1⟩, fun y H3 q => ?_⟩
  obtain ⟨T, u, rfl, hT, rfl, q⟩ := q
  have e2 := q vs h2
  rw [e1] at e2
  cases e2
  have l : Lw C2 (upd C2 T (.tup [.int (n : Nat), v])) := .new (x.le'.dom T hT)
  exact ⟨upd C2 T (.tup [.int (n : Nat), v]), .new x.le' hT, T, _, rfl, upd_same, .cons rfl (.one (Is.mono l _ _ (Is.mono x.le _ _ i1)))⟩
/-- a key as data -/
def kD : Key → Dt
  | .inl i => .int i
  | .inr x => .str x
theorem kD_is (k : Key) : Is P w C (kD k) (kV k) := by cases k <;> exact rfl
theorem zip_get {α β : Type} {ks : List α} {vs : List β} {i : Nat} {k : α} {v : β} (h : (ks.zip vs)[i]? = some (k, v)) : ks[i]? = some k ∧ vs[i]? = some v := by
  rw [List.getElem?_zip_eq_some] at h
  exact h
theorem Wk.keys {a : Addr} {o : Obj} {ks : List Key} {vs : List V} (h : C a = some (.frz o (.dK (ks.zip vs)))) (hn : ks.length = vs.length) : Wk P w W (Itk a o (ks.zip vs)) C H (ks.map kD) := fun C2 H2 x n => by
  have h2 : H2 a = some (.frz o (.dK (ks.zip vs))) := x.le'.ex _ _ (x.le.ex _ _ h)
  refine ⟨fun d e => ?_, fun hm => ⟨h2, by rw [zip_len hn]; rw [List.length_map] at hm; exact hm⟩⟩
  have hi : n < ks.length := by
    have := (List.getElem?_eq_some_iff.mp e).1
    rwa [List.length_map] at this
  refine ⟨⟨h2, by rw [zip_len hn]; exact hi⟩, fun y H3 q => ?_⟩
  obtain ⟨rfl, k, v, hk, rfl⟩ := q
  rw [List.getElem?_map, (zip_get hk).1] at e
  cases e
  exact ⟨C2, .refl x.le', kD_is k⟩
theorem Wk.vals {a : Addr} {o : Obj} {ks : List Key} {vs : List V} {xs : List Dt} (h : C a = some (.frz o (.dK (ks.zip vs)))) (hn : ks.length = vs.length) (i : IsL P w C xs vs) : Wk P w W (Itd a o (ks.zip vs)) C H xs := fun C2 H2 x n => by
  have h2 : H2 a = some (.frz o (.dK (ks.zip vs))) := x.le'.ex _ _ (x.le.ex _ _ h)
  refine ⟨fun d e => ?_, fun hm => ⟨h2, by rw [zip_len hn, hn, i.len]; exact hm⟩⟩
  obtain ⟨v, e1, i1⟩ := i.get e
  have hi := (List.getElem?_eq_some_iff.mp e1).1
  refine ⟨⟨h2, by rw [zip_len hn]; omega⟩, fun y H3 q => ?_⟩
  obtain ⟨rfl, k, hk⟩ := q
  have e2 := (zip_get hk).2
  rw [e1] at e2
  cases e2
  exact ⟨C2, .refl x.le', Is.mono x.le _ _ i1⟩
/-- the pairs of a dict -/
def itemsD (ks : List Key) (xs : List Dt) : List Dt := (ks.zip xs).map fun p => .tup [kD p.1, p.2]
theorem Wk.items {a : Addr} {o : Obj} {ks : List Key} {vs : List V} {xs : List Dt} (h : C a = some (.frz o (.dK (ks.zip vs)))) (hn : ks.length = vs.length) (i : IsL P w C xs vs) : Wk P w W (Iti a o (ks.zip vs)) C H (itemsD ks xs) := fun C2 H2 x n => by
  have h2 : H2 a = some (.frz o (.dK (ks.zip vs))) := x.le'.ex _ _ (x.le.ex _ _ h)
  have hl : (itemsD ks xs).length = ks.length := by
    unfold itemsD
    rw [List.length_map, zip_len (by rw [hn, i.len])]
  refine ⟨fun d e => ?_, fun hm => ⟨h2, by rw [zip_len hn]; rw [hl] at hm; exact hm⟩⟩
  have hi : n < ks.length := by
    have := (List.getElem?_eq_some_iff.mp e).1
    rwa [hl] at this
  refine ⟨⟨h2, by rw [zip_len hn]; exact hi⟩, fun y H3 q => ?_⟩
  obtain ⟨T, k, v, hk, rfl, hT, rfl⟩ := q
  obtain ⟨k1, k2⟩ := zip_get hk
  obtain ⟨z, hz, iz⟩ := i.get' k2
  have e2 : (itemsD ks xs)[n]? = some (.tup [kD k, z]) := by
    unfold itemsD
    rw [List.getElem?_map]
    have : (ks.zip xs)[n]? = some (k, z) := by rw [List.getElem?_zip_eq_some]; exact ⟨k1, hz⟩
    rw [this]; rfl
  rw [e2] at e
  cases e
  have l : Lw C2 (upd C2 T (.tup [kV k, v])) := .new (x.le'.dom T hT)
  exact ⟨upd C2 T (.tup [kV k, v]), .new x.le' hT, T, _, rfl, upd_same, .cons (kD_is k) (.one (Is.mono l _ _ (Is.mono x.le _ _ iz)))⟩
end
section
variable {X : Cx} {W : Addr → Prop} {ds : List Sl} {tg e a b : Expr} {pos p apos cpos tpos : Pos} {elts : List Expr} {kk : Nat}
theorem EvI.lst {xs : List Dt} (h : EvD X e ds (.lst xs)) : EvI X W tg e ds xs := fun C H σ S R q =>
  piW (pi_list wpE.pe) (h C H σ S _ fun v C1 H1 x1 i1 => by
    obtain ⟨a, vs, rfl, r, i⟩ := i1
    exact ⟨a, rfl, ⟨vs, .inl (.inl (x1.le'.ex _ _ r))⟩, q _ C1 H1 x1 (.lst r i)⟩)
theorem EvI.tup {xs : List Dt} (h : EvD X e ds (.tup xs)) : EvI X W tg e ds xs := fun C H σ S R q =>
  piW (pi_tup wpE.pe) (h C H σ S _ fun v C1 H1 x1 i1 => by
    obtain ⟨a, vs, rfl, r, i⟩ := i1
    exact ⟨a, rfl, ⟨vs, .inl (.inl (x1.le'.ex _ _ r))⟩, q _ C1 H1 x1 (.tup r i)⟩)
theorem EvI.rng1 {n : Nat} (h : EvD X a ds (.int (n : Nat))) (hm : X.mg "range" = none) (hb : n ≤ 1000000) (hg : Gl X "range" := by rfl) (hs : starEach [a] X.env = [(false, eval a X.env)] := by rfl) : EvI X W tg (.Call (.Name "range" p) [a] [] pos) ds (rng 0 n) := fun C H σ S R q =>
  piW (pi_range1 hg hm wpA.pa hs) (EvA.cons h .nil hs C H σ S _ fun vs C1 H1 x1 i1 => by
    obtain ⟨v, rfl, i2⟩ := IsL.one' i1
    rw [show v = V.int (n : Nat) from i2]
    exact ⟨_, rfl, by omega, by omega, q _ C1 H1 x1 .rng⟩)
theorem EvI.rng2 {m n : Nat} (h : EvD X a ds (.int (m : Nat))) (h' : EvD X b ds (.int (n : Nat))) (hm : X.mg "range" = none) (hb : m ≤ 1000000) (hb' : n ≤ 1000000) (hg : Gl X "range" := by rfl) (hs : starEach [a, b] X.env = [(false, eval a X.env), (false, eval b X.env)] := by rfl) (hs2 : starEach [b] X.env = [(false, eval b X.env)] := by rfl) :
    EvI X W tg (.Call (.Name "range" p) [a, b] [] pos) ds (rng (m : Nat) (n - m)) := fun C H σ S R q =>
  piW (pi_range2 hg hm wpA.pa hs hs2) (EvA.cons h (EvA.cons h' .nil hs2) (by rw [hs, hs2]) C H σ S _ fun vs C1 H1 x1 i1 => by
    obtain ⟨v, u, rfl, i2, i3⟩ := IsL.two' i1
    rw [show v = V.int (m : Nat) from i2, show u = V.int (n : Nat) from i3]
    refine ⟨_, _, rfl, ⟨by omega, by omega, by omega, by omega⟩, ?_⟩
    have e : ((n : Int) - (m : Int)).toNat = n - m := by omega
    rw [e]
    exact q _ C1 H1 x1 .rng)
theorem EvI.str {x : Str} (h : EvD X e ds (.str x)) : EvI X W tg e ds (signs x) := fun C H σ S R q =>
  piW (pi_str wpE.pe) (h C H σ S _ fun v C1 H1 x1 i1 => ⟨x, i1, q _ C1 H1 x1 .str⟩)
theorem EvI.enum {xs : List Dt} (h : EvD X e ds (.lst xs)) (hm : X.mg "enumerate" = none) (hg : Gl X "enumerate" := by rfl) (hs : starEach [e] X.env = [(false, eval e X.env)] := by rfl) : EvI X W (.Tuple elts kk tpos) (.Call (.Name "enumerate" p) [e] [] pos) ds (enumD xs) := fun C H σ S R q =>
  piW (pi_enum hg hm wpA.pa hs) (EvA.cons h .nil hs C H σ S _ fun vs C1 H1 x1 i1 => by
    obtain ⟨v, rfl, a, us, rfl, r, i⟩ := IsL.one' i1
    exact ⟨a, us, rfl, .inl (.inl (x1.le'.ex _ _ r)), q _ C1 H1 x1 (.enum r i)⟩)
theorem EvI.keys {ks : List Key} {xs : List Dt} (h : EvD X e ds (.dic ks xs)) : EvI X W tg e ds (ks.map kD) := fun C H σ S R q =>
  piW (pi_keys wpE.pe) (h C H σ S _ fun v C1 H1 x1 i1 => by
    obtain ⟨a, o, vs, rfl, r, n, i⟩ := i1
    exact ⟨a, o, rfl, .inl ⟨_, x1.le'.ex _ _ r, q _ C1 H1 x1 (.keys r n)⟩⟩)
theorem EvI.items {ks : List Key} {xs : List Dt} (h : EvD X e ds (.dic ks xs)) (hbase : attributeBase e "items" X.env (eval e X.env) = eval e X.env := by rfl) (hline : (apos.endLine == cpos.line) = true := by rfl) :
    EvI X W (.Tuple elts kk tpos) (.Call (.Attribute e "items" apos) [] [] cpos) ds (itemsD ks xs) := fun C H σ S R q =>
  piW (pi_items wpE.pe hbase hline) (h C H σ S _ fun v C1 H1 x1 i1 => by
    obtain ⟨a, o, vs, rfl, r, n, i⟩ := i1
    exact ⟨a, o, _, rfl, x1.le'.ex _ _ r, q _ C1 H1 x1 (.items r n i)⟩)
end
end K66
set_option maxHeartbeats 4000000
namespace K66
variable [TabAt]
open PySem PySem.Spec PyProof.Rows L2
def Itp (go : Hp → Prop) (n : Nat) (pr : Hp → Nat → V → V → Prop) : It :=
  ⟨fun i H => go H ∧ i < n, fun i H v H' => ∃ T x y, v = .ref T ∧ H T = none ∧ H' = upd H T (.tup [x, y]) ∧ pr H i x y, fun i H => go H ∧ n ≤ i⟩
theorem turn_pairs {P : Program} {w : World} {K : PySem.W.Frag} {tg : Expr} {I : Addr} {wr : List Addr} {n : Nat} {γ : Type} {fp : γ → List Addr} {nn : γ → Nat} {own : Nat → Heap → Prop} {cont : γ → Heap → Prop} {go : Hp → Prop}
    {pr : Hp → Nat → V → V → Prop} {pv : γ → Nat → Value → Value → Prop}
    (G : ∀ (A : Around) (c : γ), A.handled = none → GoesN P w A tg I (fp c) wr (nn c) (fun i h0 v h => ∃ T x y, v = .ref T ∧ h0.objs.size ≤ T ∧ pv c i x y ∧ h.IsTuple T #[x, y]) (fun i h => own i h ∧ cont c h))
    (hI : I ∈ wr) (ho : ∀ i h, own i h → ∀ b ∈ wr, ∃ o, h.get? b = some o ∧ ∀ v, o.data ≠ .cell v)
    (hk : ∀ i h h', own i h → (∀ b ∈ wr, ∀ o, h.get? b = some o → h'.get? b = some o) → own i h')
    (hc : ∀ (X : Cx), X.prog = P → X.w = w → X.K = K → ∀ pins s σ H, Inv X pins σ H s → go H → ∃ c, cont c s.heap ∧ nn c = n ∧ ∀ i x y, pv c i x y → ∃ a b, RelV a x ∧ RelV b y ∧ pr H i a b)
    (hself : ∀ (A : Around) (i : Nat) (s : Shared) (Q : Value → Shared → Prop) (E : Value → Shared → Prop), own i s.heap → Q (.ref I) s → wpAny (model P w) A (pyIter (.ref I)) Q E s) :
    Turn P w K tg (Itp go n pr) wr I (fun i h => own i h ∧ i ≤ n) where
  mem := hI
  obj := fun i h st => ho i h st.1
  keep := fun i h h' st k => ⟨hk i h h' st.1 k, st.2⟩
  item := by
    intro X hP hw hK hcm i pins s σ H E I' hf st hg
    obtain ⟨c, hcn, hn, hrel⟩ := hc X hP hw hK pins s σ H I' hg.1
    subst hP hw hK
    subst hn
    refine (G X.A c (I'.ok.hd hcm)).goes i s (fun u s2 => ∃ x H', Inv X pins σ H' s2 ∧ RelV x u ∧ (Itp go (nn c) pr).yld i H x H' ∧ (own (i + 1) s2.heap ∧ i + 1 ≤ nn c) ∧ ∀ b ∈ wr, H' b = none) E hg.2 ⟨st.1, hcn⟩ ?_
    intro v h' tk hY hst hkp htk
    obtain ⟨T, x, y, rfl, hT, hxy, hIs⟩ := hY
    obtain ⟨a, b, ra, rb, hp⟩ := hrel i x y hxy
    have new : ObjOk X.prog X.w (upd H T (.tup [a, b])) h' T (.tup [a, b]) := ⟨by show 2 ≤ sizeLine; decide, [x, y], .cons ra (.cons rb .nil), hIs⟩
    have I1 : Inv X pins σ (upd H T (.tup [a, b])) { s with heap := h', toks := tk } := I'.turnedNew (ch := wr) hkp hf hT new
    refine ⟨.ref T, _, I1, rfl, ⟨T, a, b, rfl, I'.hok.fresh hT, rfl, hp⟩, ⟨hst.1, hg.2⟩, fun z hz => ?_⟩
    obtain ⟨o, e, _⟩ := ho i s.heap st.1 z hz
    rw [upd_ne (Nat.ne_of_lt (Nat.lt_of_lt_of_le (Heap.lt_size e) hT))]
    exact (hf z hz).1
  done := by
    intro X hP hw hK hcm i pins s σ H E I' hf st hg
    obtain ⟨c, hcn, hn, hrel⟩ := hc X hP hw hK pins s σ H I' hg.1
    subst hP hw hK
    have e : i = nn c := by have := st.2; have := hg.2; omega
    refine (G X.A c (I'.ok.hd hcm)).stops s (fun s1 => Inv X pins σ H s1) E ⟨e ▸ st.1, hcn⟩ ?_
    intro h' tk hkp htk
    exact I'.turnedL (ch := wr) hkp hf
  self := fun A i s Q E st h => hself A i s Q E st.1 h
set_option maxHeartbeats 4000000 in
theorem enum_one {v : Value} {o : Obj} {Hc : Heap → Prop} (B : Begins v o Hc) :
    Meets (Builtin.«enumerate.__new__» ⟨[.type "enumerate", v], []⟩) (fun _ R s => Hc s.heap ∧
      R (.ok (.ret (.ref (s.heap.push o).objs.size))) { s with heap := (s.heap.push o).push { cls := .type "enumerate", data := .fields #[.none, .bool false, .ref s.heap.objs.size, rawInt 0, .none, .none] } }) :=
  .of_wp fun prog w A R s h => by
    obtain ⟨hp, g, d, tk, os⟩ := s
    obtain ⟨h1, h⟩ := h
    have hsub := sub_enumerate
    have starts : ∀ {A' : Around} {E Q : Value → Shared → Prop}, Q (.ref hp.objs.size) ⟨hp.push o, g, d, tk, os⟩ → wpAny (model prog w) A' (pyIter v) Q E ⟨hp, g, d, tk, os⟩ := fun q => B.iter prog w _ _ _ _ h1 q
    wp_walk using starts
    refine wpAny_stack_any fun st => wpAny_pure ?_
    split
    · rename_i c _ _ _ _ _
      cases (c == Value.type "enumerate") <;> (wp_walk using starts; exact ⟨_, rfl, h⟩)
    · wp_walk using starts
      exact ⟨_, rfl, h⟩
section
variable {prog : Program} {w : World} {A : Around} {E : Value → Shared → Prop} {s : Shared}
theorem call_enum1 {v : Value} {o : Obj} {Hc : Heap → Prop} {Q : Value → Shared → Prop} (B : Begins v o Hc) (h1 : Hc s.heap)
    (h : ∀ h', IsEnum h' (s.heap.objs.size + 1) s.heap.objs.size 0 .none → h'.get? s.heap.objs.size = some o →
      (∀ b u, s.heap.get? b = some u → h'.get? b = some u) → Q (.ref (s.heap.objs.size + 1)) { s with heap := h' }) : wpAny (model prog w) A (call (.type "enumerate") [v]) Q E s := by
  refine callType_new F.called_enumerate (by decide) (F.typeCall_enumerate_1 _) (F.newCall_enumerate_1 _) (fun obj => F.args_object_init_2 obj _) F.entry_enumerate_new (enum_one B) ⟨h1, ?_⟩
  have hz : (s.heap.push o).objs.size = s.heap.objs.size + 1 := Heap.size_push ..
  have he : IsEnum ((s.heap.push o).push { cls := .type "enumerate", data := .fields #[.none, .bool false, .ref s.heap.objs.size, rawInt 0, .none, .none] }) (s.heap.push o).objs.size s.heap.objs.size 0 .none := Heap.get?_push_size _ rfl
  show _ ∧ _
  rw [hz] at he ⊢
  exact ⟨⟨_, he, rfl⟩, h _ he (Heap.get?_push_of_some _ (Heap.get?_push_size _ B.free)) fun b u x => Heap.get?_push_of_some _ (Heap.get?_push_of_some _ x)⟩
end
theorem GoesN.reSt {prog : Program} {w : World} {A : Around} {target : Expr} {I : Addr} {fp wr : List Addr} {n : Nat} {Y : Nat → Heap → Value → Heap → Prop} {St St' : Nat → Heap → Prop} (G : GoesN prog w A target I fp wr n Y St) (h : ∀ i x, St i x ↔ St' i x) : GoesN prog w A target I fp wr n Y St' := by
  have e : St = St' := by funext i x; exact propext (h i x)
  exact e ▸ G
/-- i, x over the tuple at t -/
def Itet (t : Addr) (vs : List V) : It := Itp (fun H => H t = some (.tup vs)) vs.length (fun _ i x y => x = .int (i : Nat) ∧ vs[i]? = some y)
theorem turn_enumT {P : Program} {w : World} {K : PySem.W.Frag} {elts : List Expr} {kk : Nat} {tpos : Pos} {t e it : Addr} {vs : List V} (hei : e ≠ it) (het : e ≠ t) (hti : t ≠ it) :
    Turn P w K (.Tuple elts kk tpos) (Itet t vs) [e, it] e (fun i h => ((∃ old, IsEnum h e it (0 + (i : Int)) old) ∧ h.IsTupleIter it t i) ∧ i ≤ vs.length) := by
  refine turn_pairs (γ := Array Value) (fp := fun _ => [e, it, t]) (nn := fun c => c.size) (cont := fun c h => h.IsTuple t c) (pv := fun c i x y => ∃ tk, x = .int (0 + (i : Int)) tk ∧ c[i]? = some y) ?_ (by simp) ?_ ?_ ?_ ?_
  · intro A c hh
    refine GoesN.reSt ((GoesN.enumFrom (0 : Int) (Draws.tuple (A := A.in1) hh it t hti c) e hei (by simp [hei, het]) (by simp)).mono fun i h0 v h _ q => ?_) fun i h => ⟨fun ⟨a, b, c⟩ => ⟨⟨a, b⟩, c⟩, fun ⟨⟨a, b⟩, c⟩ => ⟨a, b, c⟩⟩
    obtain ⟨T, tk, x, rfl, hT, hx, q⟩ := q
    exact ⟨T, _, x, rfl, hT, ⟨tk, rfl, hx⟩, q⟩
  · intro i h st b hb
    obtain ⟨⟨old, he⟩, o, ho, hc, hd⟩ := st
    have e' : b = e ∨ b = it := by simpa using hb
    rcases e' with z | z
    · rw [z]; exact ⟨_, he, fun v q => nomatch q⟩
    · rw [z]; exact ⟨o, ho, fun v q => by rw [hd] at q; cases q⟩
  · intro i h h' st k
    obtain ⟨⟨old, he⟩, hi⟩ := st
    exact ⟨⟨old, k e (by simp) _ he⟩, hi.at fun o q => k it (by simp) o q⟩
  · intro X hP hw hK pins s σ H I' hg
    subst hP hw hK
    obtain ⟨its, rv, p, hz⟩ := I'.tuple (show SqT X.K H t vs from .inl (.inl hg))
    refine ⟨its.toArray, p, by simp [rv.length], fun i x y q => ?_⟩
    obtain ⟨tk, rfl, hy⟩ := q
    have hy' : its[i]? = some y := by simpa using hy
    have hi : i < vs.length := by rw [rv.length]; exact (List.getElem?_eq_some_iff.mp hy').1
    obtain ⟨u, hu, ru⟩ := rv.get (List.getElem?_eq_getElem hi)
    rw [hy'] at hu
    cases hu
    exact ⟨.int (i : Nat), _, ⟨tk, by rw [Int.zero_add]⟩, ru, rfl, List.getElem?_eq_getElem hi⟩
  · intro A i s Q E st h
    obtain ⟨⟨old, he⟩, _⟩ := st
    exact wpAny_pyIter_enum he h
theorem Wk.enumT {P : Program} {w : World} {W : Addr → Prop} {C H : Hp} {a : Addr} {vs : List V} {xs : List Dt} (h : C a = some (.tup vs)) (i : IsL P w C xs vs) : Wk P w W (Itet a vs) C H (enumD xs) := fun C2 H2 x n => by
  have h2 : H2 a = some (.tup vs) := x.le'.ex _ _ (x.le.ex _ _ h)
  refine ⟨fun d e => ?_, fun hn => ⟨h2, by rw [i.len, ← enumD_length]; exact hn⟩⟩
  obtain ⟨z, ez, rfl⟩ := enumD_get e
  obtain ⟨v, e1, i1⟩ := i.get ez
  refine ⟨⟨h2, (List.getElem?_eq_some_iff.mp e1).1⟩, fun y H3 q => ?_⟩
  obtain ⟨T, u, u2, rfl, hT, rfl, rfl, q⟩ := q
  rw [e1] at q
  cases q
  have l : Lw C2 (upd C2 T (.tup [.int (n : Nat), v])) := .new (x.le'.dom T hT)
  exact ⟨upd C2 T (.tup [.int (n : Nat), v]), .new x.le' hT, T, _, rfl, upd_same, .cons rfl (.one (Is.mono l _ _ (Is.mono x.le _ _ i1)))⟩
def iEnumT (ta : TA) : TI := fun σ H R => ta σ H fun vs H1 => ∃ a us, vs = [.ref a] ∧ H1 a = some (.tup us) ∧ R (Itet a us) H1
theorem pi_enumT {X : Cx} {e : Expr} {ta : TA} {p pos tpos : Pos} {elts : List Expr} {kk : Nat} (hg : Gl X "enumerate") (hm : X.mg "enumerate" = none) (ha : PA X [e] ta) (hs : starEach [e] X.env = [(false, eval e X.env)]) :
    PI X (.Tuple elts kk tpos) (.Call (.Name "enumerate" p) [e] [] pos) (iEnumT ta) := by
  refine ⟨fun pins s σ H R I h => ?_⟩
  refine Call_ (ld_blt I hg hm boot_enumerate (PyProof.Rows.callWith_type1 (thn (ha.run pos pins s σ H _ I h) fun us s1 ⟨vs, H1, I1, r1, q1⟩ => ?_) hs rfl))
  obtain ⟨a, ts, ex, hq, q⟩ := q1
  subst ex
  cases r1 with
  | cons r rr =>
    cases rr
    cases r
    obtain ⟨its, rv, p', hz⟩ := I1.tuple (show SqT X.K H1 a ts from .inl (.inl hq))
    have la : a < s1.heap.objs.size := p'.lt
    refine call_enum1 (begins_tuple a its.toArray) p' fun h' he hit hk => wpAny_pyIter_enum he ?_
    have hle : ∀ b, b ∈ [s1.heap.objs.size + 1, s1.heap.objs.size] → s1.heap.objs.size ≤ b := fun b hb => by
      have e' : b = s1.heap.objs.size + 1 ∨ b = s1.heap.objs.size := by simpa using hb
      rcases e' with z | z <;> rw [z]
      · exact Nat.le_add_right _ _
      · exact Nat.le_refl _
    exact ⟨s1.heap.objs.size + 1, _, _, _, H1, rfl, I1.kept (t' := s1.toks) hk, turn_enumT (Nat.succ_ne_self _) (Nat.ne_of_gt (Nat.lt_succ_of_lt la)) (Nat.ne_of_lt la), ⟨⟨⟨.none, he⟩, _, hit, rfl, rfl⟩, Nat.zero_le _⟩, fun b hb => I1.fpOk (hle b hb) (I1.hok.fresh (hle b hb)), q⟩
theorem EvI.enumT {X : Cx} {W : Addr → Prop} {ds : List Sl} {e : Expr} {pos p tpos : Pos} {elts : List Expr} {kk : Nat} {xs : List Dt} (h : EvD X e ds (.tup xs)) (hm : X.mg "enumerate" = none) (hg : Gl X "enumerate" := by rfl) (hs : starEach [e] X.env = [(false, eval e X.env)] := by rfl) :
    EvI X W (.Tuple elts kk tpos) (.Call (.Name "enumerate" p) [e] [] pos) ds (enumD xs) := fun C H σ S R q =>
  piW (pi_enumT hg hm wpA.pa hs) (EvA.cons h .nil hs C H σ S _ fun vs C1 H1 x1 i1 => by
    obtain ⟨v, rfl, a, us, rfl, r, i⟩ := IsL.one' i1
    exact ⟨a, us, rfl, x1.le'.ex _ _ r, q _ C1 H1 x1 (.enumT r i)⟩)
end K66
set_option maxHeartbeats 4000000
namespace K66
variable [TabAt]
open PySem PySem.Spec PyProof.Rows L2
section
variable {X : Cx} {ds ds1 ds2 : List Sl} {e : Expr} {es : List Expr} {pos : Pos} {d : Dt}
theorem set_out {α : Type} {σ : List α} {i j : Nat} {v : α} (h : j ∉ [i]) : (σ.set i v)[j]? = σ[j]? := List.getElem?_set_ne (fun e => h (by simp [e]))
theorem EvG.name (i : Nat) {x : Str} (hN : X.N.Nodup) (hi : X.N[i]? = some x := by rfl) (hx : Loc X.env.scope x := by first | exact .inl rfl | exact .inr rfl) (hf : X.fn x = true ∨ X.env.scope.names.lookup x = some .local := by first | exact .inl rfl | exact .inr rfl) : EvG X (.Name x pos) d ds [i] (ds.set i (.d d)) :=
  ⟨fun C H σ v S iv Q q => pgW (pg_name hN hi hx hf) (q _ C H (.refl S.le) (S.set i iv) (List.length_set ..) fun j hj => set_out hj), fun j hj => set_out hj, fun j s hj e => by
    rw [List.mem_singleton] at hj
    rw [hj, List.getElem?_set] at e
    rw [if_pos rfl] at e
    split at e
    · exact ⟨d, (Option.some.inj e).symm⟩
    · cases e⟩
/-- several targets take several data -/
structure EvGs (X : Cx) (es : List Expr) (xs : List Dt) (ds : List Sl) (is : List Nat) (ds' : List Sl) : Prop where
  run : ∃ t : TGs, PGs X es t ∧ ∀ C H σ vs, SDx X C H σ ds → IsLx X C xs vs → ∀ Q : L2.St → Hp → Prop,
    (∀ σ' C' H', Stp C H C' H' → SDx X C' H' σ' ds' → σ'.length = σ.length → (∀ j : Nat, j ∉ is → σ'[j]? = σ[j]?) → Q σ' H') → t vs σ H Q
  out : ∀ j : Nat, j ∉ is → ds'[j]? = ds[j]?
  inn : ∀ (j : Nat) (s : Sl), j ∈ is → ds'[j]? = some s → ∃ d, s = .d d
theorem EvGs.nil : EvGs X [] [] ds [] ds := ⟨⟨gNil, pgs_nil, fun C H σ vs S i Q q => ⟨i, q σ C H (.refl S.le) S rfl fun _ _ => rfl⟩⟩, fun _ _ => rfl, fun j s hj => by simp at hj⟩
theorem EvGs.cons {xs : List Dt} {is js : List Nat} (h : EvG X e d ds is ds1) (hr : EvGs X es xs ds1 js ds2) (hs : (assignEach (e :: es) X.env).map (·.2) = assign e X.env :: (assignEach es X.env).map (·.2) := by rfl) : EvGs X (e :: es) (d :: xs) ds (is ++ js) ds2 := by
  obtain ⟨⟨t, ht, hr⟩, ho, hin⟩ := hr
  refine ⟨⟨gCons (wpG X e) t, pgs_cons wpG.pg ht hs, fun C H σ vs S i Q q => ?_⟩, fun j hj => ?_, fun j s hj e => ?_⟩
  · obtain ⟨v, r, rfl, i1, i2⟩ := i
    refine ⟨v, r, rfl, h.run C H σ v S i1 _ fun σ1 C1 H1 x1 S1 l1 k1 => hr C1 H1 σ1 r S1 (IsL.mono x1.le _ _ i2) _ fun σ2 C2 H2 x2 S2 l2 k2 => q σ2 C2 H2 (x1.trans x2) S2 (l2.trans l1) fun j hj => ?_⟩
    rw [List.mem_append, not_or] at hj
    rw [k2 j hj.2, k1 j hj.1]
  · rw [List.mem_append, not_or] at hj
    rw [ho j hj.2, h.out j hj.1]
  · by_cases hj2 : j ∈ js
    · exact hin j s hj2 e
    · rw [ho j hj2] at e
      exact h.inn j s ((List.mem_append.mp hj).resolve_right hj2) e
theorem EvG.tup {k : Nat} {xs : List Dt} {is : List Nat} (hc : X.calm = true) (h : EvGs X es xs ds is ds1) (hn : (assignEach es X.env).length = xs.length := by rfl) (hst : (assignEach es X.env).findIdx? (·.1) = none := by rfl) : EvG X (.Tuple es k pos) (.tup xs) ds is ds1 :=
  ⟨fun C H σ v S iv Q q => by
    obtain ⟨t, ht, h⟩ := h.run
    obtain ⟨a, vs, rfl, r, i⟩ := iv
    exact pgW (pg_tup hc ht hn hst) ⟨a, vs, rfl, .inl (.inl (S.le.ex _ _ r)), i.len, h C H σ vs S i Q q⟩, h.out, h.inn⟩
end
section
variable {X : Cx} {ds : List Sl} {c : Expr} {k : Bool}
theorem EvTs.nil : EvTs X [] ds true := fun C H σ S Q q => ptsW pts_nil (q C H (.refl S.le))
theorem EvTs.one (h : EvT X c ds k) : EvTs X [c] ds k := fun C H σ S Q q => ptsW (pts_one wpT.pt) (h C H σ S Q q)
end
theorem wipe_mem {σ : L2.St} {i : Nat} : ∀ {vs : List Nat}, i ∈ vs → (wipe σ vs)[i]? = if i < σ.length then some none else none
  | [], h => by simp at h
  | v :: vs, h => by
    unfold wipe
    rw [List.getElem?_set]
    by_cases e : v = i
    · rw [if_pos e, wipe_length, e]
    · rw [if_neg e]
      exact wipe_mem ((List.mem_cons.mp h).resolve_left fun z => e z.symm)
theorem wipe_eq {σ τ : L2.St} {vs : List Nat} (hl : τ.length = σ.length) (h : ∀ j : Nat, j ∉ vs → τ[j]? = σ[j]?) : wipe τ vs = wipe σ vs := by
  apply List.ext_getElem?
  intro i
  by_cases hi : i ∈ vs
  · rw [wipe_mem hi, wipe_mem hi, hl]
  · rw [wipe_out hi, wipe_out hi, h i hi]
theorem wipe_wipe {σ : L2.St} {vs : List Nat} : wipe (wipe σ vs) vs = wipe σ vs := wipe_eq (wipe_length σ vs) fun j hj => wipe_out hj
abbrev Bk (X : Cx) (scope : Scope) (s : Shared) (H : Hp) (C : Addr) (cl : List (Str × Addr)) (fp : List Addr) : Cx := X.blk s H scope (compEnvC scope cl C X.env) fp
theorem filterMap_take {α β : Type} {f : α → Option β} {xs : List α} {i : Nat} {x : α} (h : xs[i]? = some x) : (xs.take (i + 1)).filterMap f = (xs.take i).filterMap f ++ (f x).toList := by
  rw [List.take_add_one, h, List.filterMap_append]
  simp only [Option.toList_some]
  cases hf : f x <;> simp [hf]
section
variable {X : Cx} {ds : List Sl} {elt tg iter : Expr} {ifs : List Expr} {scope : Scope} {own : List (Str × Nat)} {pos : Pos}
theorem lc_run {zs : List (Dt × Option Dt)} (hc : X.calm = true) (hN : X.N.Nodup) (hi : EvI X (fun _ => False) tg iter ds (zs.map (·.1))) (ok : BlkOk X.N X.env.scope scope own) (hl : zs.length ≤ 100000)
    (hb : ∀ z ∈ zs, ∃ ds' is, (∀ j ∈ is, j ∈ own.map (·.2)) ∧ (∀ s H C cl fp, EvG (Bk X scope s H C cl fp) tg z.1 (wipeD ds (own.map (·.2))) is ds') ∧ (∀ s H C cl fp, EvTs (Bk X scope s H C cl fp) ifs ds' z.2.isSome) ∧ ∀ y, z.2 = some y → ∀ s H C cl fp, EvD (Bk X scope s H C cl fp) elt ds' y)
    {C H : Hp} {σ : L2.St} (S : SDx X C H σ ds) {Q : VK} (q : ∀ D C2 H2 acc, Stp C H C2 H2 → C2 D = none → H D = none → H2 D = some (.lst acc) → IsLx X C2 (zs.filterMap (·.2)) acc → Q (.ref D) H2) :
    tLc (wpI X tg iter) (fun v σ H Q => ∀ s H0 C cl fp, wpG (Bk X scope s H0 C cl fp) tg v σ H Q) (fun σ H Q => ∀ s H0 C cl fp, wpTs (Bk X scope s H0 C cl fp) ifs σ H Q) (fun σ H Q => ∀ s H0 C cl fp, wpE (Bk X scope s H0 C cl fp) elt σ H Q) (own.map (·.2)) σ H Q :=
  hi C H σ S _ fun J C1 H1 x1 wk D hD => by
    have z0 : Stp C1 H1 C1 (upd H1 D (.lst [])) := .only x1.le' (same_new hD)
    have wkat : ∀ {C2 H2 : Hp}, Stw (fun a => a = D) C1 (upd H1 D (.lst [])) C2 H2 → Stp C1 H1 C2 H2 := fun {C2 H2} y =>
      (Stw.old (W := fun _ => False) z0.w y fun a e => .inr (by rw [e]; exact hD)).stp fun _ z => z
    refine ⟨fun i m H2 => m = zs.length - i ∧ i ≤ zs.length ∧ ∃ C2 acc, Stw (fun a => a = D) C1 (upd H1 D (.lst [])) C2 H2 ∧ C2 D = none ∧ H2 D = some (.lst acc) ∧ IsLx X C2 ((zs.take i).filterMap (·.2)) acc,
      ⟨zs.length, by omega, Nat.zero_le _, C1, [], .refl z0.le', x1.le'.dom D hD, upd_same, rfl⟩, ?_⟩
    rintro i m H2 ⟨rfl, hile, C2, acc, y2, n2, h2, i2⟩
    have t2 := wkat y2
    obtain ⟨w1, w2⟩ := wk C2 H2 t2.w i
    by_cases hlt : i < zs.length
    · obtain ⟨hgo, hy⟩ := w1 zs[i].1 (by rw [List.getElem?_map, List.getElem?_eq_getElem hlt]; rfl)
      refine .inr ⟨hgo, fun H' => ∃ C2 acc, Stw (fun a => a = D) C1 (upd H1 D (.lst [])) C2 H' ∧ C2 D = none ∧ H' D = some (.lst acc) ∧ IsLx X C2 ((zs.take (i + 1)).filterMap (·.2)) acc, fun H' h' => ⟨zs.length - (i + 1), by omega, rfl, hlt, h'⟩, fun v H3 hv => ?_⟩
      obtain ⟨C3, x3, i3⟩ := hy v H3 hv
      obtain ⟨ds', is, his, hg, ht, he⟩ := hb zs[i] (List.getElem_mem hlt)
      have S3 : SDx X C3 H3 (wipe σ (own.map (·.2))) (wipeD ds (own.map (·.2))) := (S.mono ((x1.trans t2).trans x3)).wiped _
      intro s H0 Ca cl fp
      refine (hg s H0 Ca cl fp).run C3 H3 _ v S3 i3 _ fun σ4 C4 H4 x4 S4 l4 k4 => ⟨?_, fun s H0 Ca cl fp => ht s H0 Ca cl fp C4 H4 σ4 S4 _ fun C5 H5 x5 => ?_⟩
      · rw [wipe_eq l4 fun j hj => k4 j fun hm => hj (his j hm), wipe_wipe]
      · have x25 := (x3.trans x4).trans x5
        have eq := filterMap_take (f := fun z : Dt × Option Dt => z.2) (List.getElem?_eq_getElem hlt)
        cases hf : zs[i].2 with
        | none =>
          rw [Option.isSome_none]
          refine iteF ⟨C5, acc, y2.trans x25.w, x25.hid D n2 (by rw [h2]; exact fun z => nomatch z), x25.same _ _ n2 h2, ?_⟩
          rw [eq, hf]
          simpa using IsL.mono x25.le _ _ i2
        | some y =>
          rw [Option.isSome_some]
          refine iteT fun s H0 Ca cl fp => he y hf s H0 Ca cl fp C5 H5 σ4 (S4.mono x5) _ fun u C6 H6 x6 i6 => ?_
          have x26 := x25.trans x6
          have n6 : C6 D = none := x26.hid D n2 (by rw [h2]; exact fun z => nomatch z)
          have hlen : acc.length ≤ i := by
            rw [i2.len]
            exact Nat.le_trans (List.length_filterMap_le ..) (by rw [List.length_take]; omega)
          refine ⟨acc, x26.same _ _ n2 h2, Nat.lt_of_le_of_lt hlen (Nat.lt_of_lt_of_le hlt (small hl)), C6, acc ++ [u], (y2.trans x26.w).trans (Stw.out x26.le' n6 rfl), n6, upd_same, ?_⟩
          rw [eq, hf]
          exact (IsL.mono x26.le _ _ i2).app (.one i6)
    · have hi : i = zs.length := by omega
      subst hi
      rw [List.take_length] at i2
      exact .inl ⟨w2 (by rw [List.length_map]; exact Nat.le_refl _), q D C2 H2 acc (x1.trans t2) n2 (by
        cases e : H D with
        | none => rfl
        | some o => exact absurd hD (x1.th D (by rw [e]; exact fun z => nomatch z))) h2 i2⟩
theorem EvD.lc {zs : List (Dt × Option Dt)} (hc : X.calm = true) (hN : X.N.Nodup) (hi : EvI X (fun _ => False) tg iter ds (zs.map (·.1))) (ok : BlkOk X.N X.env.scope scope own) (hl : zs.length ≤ 100000)
    (hb : ∀ z ∈ zs, ∃ ds' is, (∀ j ∈ is, j ∈ own.map (·.2)) ∧ (∀ s H C cl fp, EvG (Bk X scope s H C cl fp) tg z.1 (wipeD ds (own.map (·.2))) is ds') ∧ (∀ s H C cl fp, EvTs (Bk X scope s H C cl fp) ifs ds' z.2.isSome) ∧ ∀ y, z.2 = some y → ∀ s H C cl fp, EvD (Bk X scope s H C cl fp) elt ds' y)
    (hs : ∀ x, foldedSetIterable iter X.env x = pure x := by intro _; rfl) : EvD X (.ListComp elt [⟨tg, iter, ifs, 0⟩] scope pos) ds (.lst (zs.filterMap (·.2))) := fun C H σ S Q q =>
  peW (pe_lc hc hN wpI.pi ok (fun s H C cl fp => ⟨fun pins s' σ H' v u Q I r h => (h s H C cl fp).go pins s' u I r⟩) (fun s H C cl fp => ⟨fun pins s' σ H' Q I h => (h s H C cl fp).go pins s' I⟩) (fun s H C cl fp => ⟨fun pins s' σ H' Q I h => (h s H C cl fp).go pins s' I⟩) hs)
    (lc_run hc hN hi ok hl hb S fun D C2 H2 acc x2 n2 n0 h2 i2 => by
      have l : Lw C2 (upd C2 D (.lst acc)) := .new n2
      refine q (.ref D) (upd C2 D (.lst acc)) H2 ⟨x2.le.trans (.new n2), x2.le'.adopt n2 h2, x2.same, x2.th, fun a e n => ?_⟩ (Is.lst' (IsL.mono l _ _ i2))
      · rw [upd_ne fun z => n (by rw [z]; exact n0)]
        exact x2.hid a e n)
/-- over typed things -/
theorem EvD.lcf {α : Type} {enc : α → Dt} {g : α → Option Dt} {ys : List α} (hc : X.calm = true) (hN : X.N.Nodup) (hi : EvI X (fun _ => False) tg iter ds (ys.map enc)) (ok : BlkOk X.N X.env.scope scope own) (hl : ys.length ≤ 100000)
    (hb : ∀ y ∈ ys, ∃ ds' is, (∀ j ∈ is, j ∈ own.map (·.2)) ∧ (∀ s H C cl fp, EvG (Bk X scope s H C cl fp) tg (enc y) (wipeD ds (own.map (·.2))) is ds') ∧ (∀ s H C cl fp, EvTs (Bk X scope s H C cl fp) ifs ds' (g y).isSome) ∧ ∀ d, g y = some d → ∀ s H C cl fp, EvD (Bk X scope s H C cl fp) elt ds' d)
    (hs : ∀ x, foldedSetIterable iter X.env x = pure x := by intro _; rfl) : EvD X (.ListComp elt [⟨tg, iter, ifs, 0⟩] scope pos) ds (.lst (ys.filterMap g)) := by
  have e1 : ys.map enc = (ys.map fun y => (enc y, g y)).map (·.1) := by rw [List.map_map]; rfl
  have e2 : ys.filterMap g = (ys.map fun y => (enc y, g y)).filterMap (·.2) := by rw [List.filterMap_map]; rfl
  rw [e2]
  rw [e1] at hi
  refine .lc hc hN hi ok (by rw [List.length_map]; exact hl) (fun z hz => ?_) hs
  obtain ⟨y, hy, rfl⟩ := List.mem_map.mp hz
  exact hb y hy
/-- .. where every item counts -/
theorem EvD.lcm {α : Type} {enc g : α → Dt} {ys : List α} (hc : X.calm = true) (hN : X.N.Nodup) (hi : EvI X (fun _ => False) tg iter ds (ys.map enc)) (ok : BlkOk X.N X.env.scope scope own) (hl : ys.length ≤ 100000)
    (hb : ∀ y ∈ ys, ∃ ds' is, (∀ j ∈ is, j ∈ own.map (·.2)) ∧ (∀ s H C cl fp, EvG (Bk X scope s H C cl fp) tg (enc y) (wipeD ds (own.map (·.2))) is ds') ∧ ∀ s H C cl fp, EvD (Bk X scope s H C cl fp) elt ds' (g y))
    (hs : ∀ x, foldedSetIterable iter X.env x = pure x := by intro _; rfl) : EvD X (.ListComp elt [⟨tg, iter, [], 0⟩] scope pos) ds (.lst (ys.map g)) := by
  have e : ys.map g = ys.filterMap fun x => some (g x) := by rw [← List.filterMap_eq_map]; rfl
  rw [e]
  exact .lcf hc hN hi ok hl (fun x hx => by
    obtain ⟨ds', is, a, b, c⟩ := hb x hx
    exact ⟨ds', is, a, b, fun s H C cl fp => .nil, fun y hy => by cases hy; exact c⟩) hs
end
end K66
set_option maxHeartbeats 4000000
namespace K66
variable [TabAt]
open PySem PySem.Spec PyProof.Rows L2
def SW (P : Program) (w : World) (W : Addr → Prop) (H0 C H : Hp) (σ : L2.St) (ds : List Sl) : Prop := ∃ f, SWf P w W H0 C H σ ds f
section
variable {P : Program} {w : World} {W : Addr → Prop} {H0 C H C' H' : Hp} {σ : L2.St} {ds : List Sl} {f : Nat → List Addr}
theorem SWf.sd (S : SWf P w W H0 C H σ ds f) : SD P w C H σ ds := ⟨f, S.le, S.len, S.sl, S.nd, S.dj, fun _ _ _ => .inl True.intro, S.out⟩
theorem SW.sd (S : SW P w W H0 C H σ ds) : SD P w C H σ ds := S.elim fun _ S => S.sd
/-- after targets have taken data -/
theorem SWf.tgt {σ' : L2.St} {ds' : List Sl} {is : List Nat} (S : SWf P w W H0 C H σ ds f) (x : Stp C H C' H') (S' : SD P w C' H' σ' ds') (k : ∀ j : Nat, j ∉ is → σ'[j]? = σ[j]?) (ho : ∀ j : Nat, j ∉ is → ds'[j]? = ds[j]?)
    (hin : ∀ (j : Nat) (s : Sl), j ∈ is → ds'[j]? = some s → ∃ d, s = .d d) : SWf P w W H0 C' H' σ' ds' (fun j => if j ∈ is then [] else f j) := by
  refine ⟨x.le', S'.len, fun j s e => ?_, fun j => ?_, fun j m a hjk hj hk => ?_, fun j a ha => ?_, fun j hj => ?_⟩
  · by_cases hj : j ∈ is
    · rw [if_pos hj]
      obtain ⟨d, rfl⟩ := hin j s hj e
      obtain ⟨fp, q1, q2⟩ := S'.sl j _ e
      exact ⟨rfl, q2⟩
    · rw [if_neg hj, k j hj]
      rw [ho j hj] at e
      exact (S.sl j s e).mono (W := fun _ => False) x.w fun _ _ z => z
  · show (if j ∈ is then [] else f j).Nodup
    split
    · exact List.nodup_nil
    · exact S.nd j
  · try dsimp only at hj hk
    split at hj
    · simp at hj
    · split at hk
      · simp at hk
      · exact S.dj j m a hjk hj hk
  · try dsimp only at ha
    split at ha
    · simp at ha
    · exact S.new j a ha
  · show (if j ∈ is then [] else f j) = []
    split
    · rfl
    · rename_i hji
      refine S.out j ?_
      have e := ho j hji
      rw [List.getElem?_eq_none hj] at e
      exact List.getElem?_eq_none_iff.mp e.symm
end
inductive Res where
  | nx (ds : List Sl) | bk (ds : List Sl) | ct (ds : List Sl) | rt (d : Dt) (ds : List Sl)
section
variable (X : Cx)
abbrev SWx (W : Addr → Prop) (H0 C H : Hp) (σ : L2.St) (ds : List Sl) : Prop := SW X.prog X.w W H0 C H σ ds
def Fits (W : Addr → Prop) (C0 H0 C H : Hp) (D : Ends) : Res → Prop
  | .nx ds => ∀ C' H' σ', Stw W C0 H0 C' H' → Prg C H C' H' → SWx X W H0 C' H' σ' ds → D.nx σ' H'
  | .bk ds => ∀ C' H' σ', Stw W C0 H0 C' H' → Prg C H C' H' → SWx X W H0 C' H' σ' ds → D.bk σ' H'
  | .ct ds => ∀ C' H' σ', Stw W C0 H0 C' H' → Prg C H C' H' → SWx X W H0 C' H' σ' ds → D.ct σ' H'
  | .rt d ds => ∀ C' H' σ' v, Stw W C0 H0 C' H' → SWx X W H0 C' H' σ' ds → Isx X C' d v → D.rt v H'
def S1 (st : Stmt) (ds : List Sl) (Ψ : Res → Prop) : Prop := ∀ W C0 H0 C H σ D, Stw W C0 H0 C H → SWx X W H0 C H σ ds → (∀ r, Ψ r → Fits X W C0 H0 C H D r) → wpS X st D σ H
def Ss (sts : List Stmt) (ds : List Sl) (Ψ : Res → Prop) : Prop := ∀ W C0 H0 C H σ D, Stw W C0 H0 C H → SWx X W H0 C H σ ds → (∀ r, Ψ r → Fits X W C0 H0 C H D r) → wpSs X sts D σ H
def KK (rest : List Stmt) (Ψ : Res → Prop) : Res → Prop
  | .nx ds => Ss X rest ds Ψ
  | r => Ψ r
end
section
variable {X : Cx}
theorem Stw.back {W : Addr → Prop} {C0 H0 C H : Hp} (x : Stw W C0 H0 C H) {a : Addr} (h : H a = none) : H0 a = none := by
  cases e : H0 a with
  | none => rfl
  | some o => exact absurd h (x.th a (by rw [e]; exact fun z => nomatch z))
theorem Stw.thenS {W : Addr → Prop} {C0 H0 C H C' H' : Hp} (x : Stw W C0 H0 C H) (y : Stp C H C' H') : Stw W C0 H0 C' H' := x.trans y.w
theorem Fits.later {W : Addr → Prop} {C0 H0 C H C1 H1 : Hp} {D : Ends} (y : Prg C H C1 H1) : ∀ {r : Res}, Fits X W C0 H0 C H D r → Fits X W C0 H0 C1 H1 D r
  | .nx ds, h => fun C' H' σ' a b c => h C' H' σ' a (y.trans b) c
  | .bk ds, h => fun C' H' σ' a b c => h C' H' σ' a (y.trans b) c
  | .ct ds, h => fun C' H' σ' a b c => h C' H' σ' a (y.trans b) c
  | .rt d ds, h => h
theorem S1.mono {st : Stmt} {ds : List Sl} {Ψ Ψ' : Res → Prop} (h : S1 X st ds Ψ) (k : ∀ r, Ψ r → Ψ' r) : S1 X st ds Ψ' := fun W C0 H0 C H σ D x S q => h W C0 H0 C H σ D x S fun r hr => q r (k r hr)
theorem Ss.mono {st : List Stmt} {ds : List Sl} {Ψ Ψ' : Res → Prop} (h : Ss X st ds Ψ) (k : ∀ r, Ψ r → Ψ' r) : Ss X st ds Ψ' := fun W C0 H0 C H σ D x S q => h W C0 H0 C H σ D x S fun r hr => q r (k r hr)
theorem Ss.nil {ds : List Sl} {Ψ : Res → Prop} (h : Ψ (.nx ds)) : Ss X [] ds Ψ := fun W C0 H0 C H σ D x S q => pssW pss_nil (q _ h C H σ x (.refl S.sd.le) S)
theorem Ss.cons {st : Stmt} {rest : List Stmt} {ds : List Sl} {Ψ : Res → Prop} (h : S1 X st ds (KK X rest Ψ)) : Ss X (st :: rest) ds Ψ := fun W C0 H0 C H σ D x S q =>
  pssW (pss_cons wpS.ps wpSs.pss) (h W C0 H0 C H σ { D with nx := wpSs X rest D } x S fun r hr => by
    cases r with
    | nx ds' => exact fun C' H' σ' a b c => (show Ss X rest ds' Ψ from hr) W C0 H0 C' H' σ' D a c fun r hr => (q r hr).later b
    | bk ds' => exact q (.bk ds') hr
    | ct ds' => exact q (.ct ds') hr
    | rt d ds' => exact q (.rt d ds') hr)
variable {ds : List Sl} {Ψ : Res → Prop} {e c : Expr} {pos pos' : Pos} {d : Dt}
theorem S1.ret (h : EvD X e ds d) (k : Ψ (.rt d ds)) : S1 X (.Return (some e) pos) ds Ψ := fun W C0 H0 C H σ D x ⟨f, S⟩ q =>
  psW (ps_ret wpE.pe) (h C H σ S.sd D.rt fun v C1 H1 x1 i1 => q _ k C1 H1 σ v (x.thenS x1) ⟨f, S.mono x1⟩ i1)
theorem S1.retN (k : Ψ (.rt .non ds)) : S1 X (.Return none pos) ds Ψ := fun W C0 H0 C H σ D x S q => psW ps_retN (q _ k C H σ .non x S rfl)
theorem S1.expr (h : EvD X e ds d) (k : Ψ (.nx ds)) (hs : swapsWith e none pos.line X.env = pure false := by rfl) : S1 X (.Expr e pos) ds Ψ := fun W C0 H0 C H σ D x ⟨f, S⟩ q =>
  psW (ps_expr wpE.pe hs) (h C H σ S.sd _ fun v C1 H1 x1 i1 => q _ k C1 H1 σ (x.thenS x1) x1.prg ⟨f, S.mono x1⟩)
theorem S1.pass (k : Ψ (.nx ds)) : S1 X (.Pass pos) ds Ψ := fun W C0 H0 C H σ D x S q => psW ps_pass (q _ k C H σ x (.refl S.sd.le) S)
theorem S1.ifs {a b : List Stmt} {k : Bool} (h : EvT X c ds k) (h1 : k = true → Ss X a ds Ψ) (h2 : k = false → Ss X b ds Ψ) : S1 X (.If c a b pos) ds Ψ := fun W C0 H0 C H σ D x ⟨f, S⟩ q =>
  psW (ps_if wpT.pt wpSs.pss wpSs.pss) (h C H σ S.sd _ fun C1 H1 x1 => by
    cases k with
    | true => exact iteT (h1 rfl W C0 H0 C1 H1 σ D (x.thenS x1) ⟨f, S.mono x1⟩ fun r hr => (q r hr).later x1.prg)
    | false => exact iteF (h2 rfl W C0 H0 C1 H1 σ D (x.thenS x1) ⟨f, S.mono x1⟩ fun r hr => (q r hr).later x1.prg))
/-- an expression that gives a thing of its own -/
def EvO (X : Cx) (e : Expr) (ds : List Sl) (s : Sl) : Prop := ∀ C H σ, SDx X C H σ ds → ∀ Q : VK, (∀ v C' H' fp, Stp C H C' H' → SlF X.prog X.w C' H' s (some v) fp → fp.Nodup → (∀ a ∈ fp, H a = none) → Q v H') → wpE X e σ H Q
theorem EvD.o (h : EvD X e ds d) : EvO X e ds (.d d) := fun C H σ S Q q => h C H σ S Q fun v C' H' x i => q v C' H' [] x ⟨rfl, v, rfl, i⟩ List.nodup_nil fun a ha => by simp at ha
/-- name = e -/
theorem S1.asg (i : Nat) {y : Str} {s : Sl} (hN : X.N.Nodup) (h : EvO X e ds s) (k : Ψ (.nx (ds.set i s))) (hi : X.N[i]? = some y := by rfl) (hx : Loc X.env.scope y := by first | exact .inl rfl | exact .inr rfl) (hs : swapsWith e (some (.Name y pos')) pos.line X.env = pure false := by rfl)
    (hf : X.fn y = true ∨ X.env.scope.names.lookup y = some .local := by first | exact .inl rfl | exact .inr rfl) : S1 X (.Assign [.Name y pos'] e pos) ds Ψ := fun W C0 H0 C H σ D x ⟨f, S⟩ q =>
  psW (ps_set hN hi hx wpE.pe hs hf) (h C H σ S.sd _ fun v C1 H1 fp x1 i1 n1 f1 => q _ k C1 H1 _ (x.thenS x1) x1.prg ⟨_, S.set x1.w (Vw := fun _ => False) (fun _ z => z.elim) i1 n1 (fun a ha => .inr (f1 a ha)) fun a ha => x.back ha⟩)
/-- targets = e -/
theorem S1.asgG {tg : Expr} {is : List Nat} {ds' : List Sl} (h : EvD X e ds d) (g : EvG X tg d ds is ds') (k : Ψ (.nx ds')) (hs : swapsWithSole [tg] e pos.line X.env = pure false := by rfl) (hw : swappedStores [tg] e X.env = pure none := by rfl)
    (h1 : (assignEach [tg] X.env).map (·.2) = [assign tg X.env] := by rfl) : S1 X (.Assign [tg] e pos) ds Ψ := fun W C0 H0 C H σ D x ⟨f, S⟩ q =>
  psW (ps_asg wpE.pe wpG.pg hs hw h1) (h C H σ S.sd _ fun v C1 H1 x1 i1 => g.run C1 H1 σ v (S.mono x1).sd i1 _ fun σ2 C2 H2 x2 S2 l2 k2 =>
    q _ k C2 H2 σ2 (x.thenS (x1.trans x2)) (x1.trans x2).prg ⟨_, S.tgt (x1.trans x2) S2 k2 g.out g.inn⟩)
/-- a, b = x, y -/
theorem S1.par {i j : Nat} {y z : Str} {a b : Expr} {s t : Sl} {px py pt : Pos} {kt k2 pt2} (hc : X.calm = true) (hN : X.N.Nodup) (h1 : EvO X a ds s) (h2 : EvO X b ds t) (k : Ψ (.nx ((ds.set i s).set j t)))
    (hi : X.N[i]? = some y := by rfl) (hj : X.N[j]? = some z := by rfl) (hij : i ≠ j := by decide) (hx : X.env.scope.names.lookup y = some .local := by rfl) (hy : X.env.scope.names.lookup z = some .local := by rfl)
    (hst : starEach [a, b] X.env = (false, eval a X.env) :: starEach [b] X.env := by rfl) (hst2 : starEach [b] X.env = (false, eval b X.env) :: starEach [] X.env := by rfl)
    (hw : swappedStores [.Tuple [.Name y px, .Name z py] kt pt] (.Tuple [a, b] k2 pt2) X.env = pure (some [y, z]) := by rfl)
    (hs : swapsWithSole [.Tuple [.Name y px, .Name z py] kt pt] (.Tuple [a, b] k2 pt2) pos.line X.env = pure false := by rfl) :
    S1 X (.Assign [.Tuple [.Name y px, .Name z py] kt pt] (.Tuple [a, b] k2 pt2) pos) ds Ψ := fun W C0 H0 C H σ D x ⟨f, S⟩ q =>
  psW (ps_par hc hN hi hj hij hx hy (pa_cons wpE.pe (pa_cons wpE.pe pa_nil hst2) hst) hw hs) (h1 C H σ S.sd _ fun v C1 H1 fp x1 i1 n1 f1 => h2 C1 H1 σ (S.mono x1).sd _ fun u C2 H2 fq x2 i2 n2 f2 => by
    have S' := S.set (i := i) x1.w (Vw := fun _ => False) (fun _ z => z.elim) i1 n1 (fun a ha => .inr (f1 a ha)) fun a ha => x.back ha
    have S'' := S'.set (i := j) x2.w (Vw := fun _ => False) (fun _ z => z.elim) i2 n2 (fun a ha => .inr (f2 a ha)) fun a ha => (x.thenS x1).back ha
    exact ⟨v, u, rfl, q _ k C2 H2 _ (x.thenS (x1.trans x2)) (x1.trans x2).prg ⟨_, S''⟩⟩)
/-- a, b, c = x, y, z -/
theorem S1.par3 {i j l : Nat} {y z y3 : Str} {a b c : Expr} {s t u : Sl} {px py pz pt : Pos} {kt k2 pt2} (hc : X.calm = true) (hN : X.N.Nodup) (h1 : EvO X a ds s) (h2 : EvO X b ds t) (h3 : EvO X c ds u) (k : Ψ (.nx (((ds.set i s).set j t).set l u)))
    (hi : X.N[i]? = some y := by rfl) (hj : X.N[j]? = some z := by rfl) (hl : X.N[l]? = some y3 := by rfl) (hij : i ≠ j := by decide) (hil : i ≠ l := by decide) (hjl : j ≠ l := by decide) (hx : X.env.scope.names.lookup y = some .local := by rfl) (hy : X.env.scope.names.lookup z = some .local := by rfl) (hz : X.env.scope.names.lookup y3 = some .local := by rfl)
    (hst : starEach [a, b, c] X.env = (false, eval a X.env) :: starEach [b, c] X.env := by rfl) (hst2 : starEach [b, c] X.env = (false, eval b X.env) :: starEach [c] X.env := by rfl) (hst3 : starEach [c] X.env = (false, eval c X.env) :: starEach [] X.env := by rfl)
    (hw : swappedStores [.Tuple [.Name y px, .Name z py, .Name y3 pz] kt pt] (.Tuple [a, b, c] k2 pt2) X.env = pure (some [y, z, y3]) := by rfl)
    (hs : swapsWithSole [.Tuple [.Name y px, .Name z py, .Name y3 pz] kt pt] (.Tuple [a, b, c] k2 pt2) pos.line X.env = pure false := by rfl) :
    S1 X (.Assign [.Tuple [.Name y px, .Name z py, .Name y3 pz] kt pt] (.Tuple [a, b, c] k2 pt2) pos) ds Ψ := fun W C0 H0 C H σ D x ⟨f, S⟩ q =>
  psW (ps_par3 hc hN hi hj hl hij hil hjl hx hy hz (pa_cons wpE.pe (pa_cons wpE.pe (pa_cons wpE.pe pa_nil hst3) hst2) hst) hw hs) (h1 C H σ S.sd _ fun v C1 H1 fp x1 i1 n1 f1 => h2 C1 H1 σ (S.mono x1).sd _ fun u C2 H2 fq x2 i2 n2 f2 =>
    h3 C2 H2 σ ((S.mono x1).mono x2).sd _ fun u3 C3 H3 fr x3 i3 n3 f3 => by
    have S' := S.set (i := i) x1.w (Vw := fun _ => False) (fun _ z => z.elim) i1 n1 (fun a ha => .inr (f1 a ha)) fun a ha => x.back ha
    have S'' := S'.set (i := j) x2.w (Vw := fun _ => False) (fun _ z => z.elim) i2 n2 (fun a ha => .inr (f2 a ha)) fun a ha => (x.thenS x1).back ha
    have S3 := S''.set (i := l) x3.w (Vw := fun _ => False) (fun _ z => z.elim) i3 n3 (fun a ha => .inr (f3 a ha)) fun a ha => (x.thenS (x1.trans x2)).back ha
    exact ⟨v, u, u3, rfl, q _ k C3 H3 _ (x.thenS ((x1.trans x2).trans x3)) ((x1.trans x2).trans x3).prg ⟨_, S3⟩⟩)
/-- what a turn is to reach -/
def Turns (J : List Sl → Prop) (Ψ : Res → Prop) : Res → Prop
  | .nx ds => J ds
  | .ct ds => J ds
  | .bk ds => Ψ (.nx ds)
  | .rt d ds => Ψ (.rt d ds)
theorem S1.loop {tg iter : Expr} {body : List Stmt} {xs : List Dt} (I : Nat → List Sl → Prop) (hc : X.calm = true) (hi : EvI X (fun _ => True) tg iter ds xs) (h0 : I 0 ds)
    (ht : ∀ i x ds1, xs[i]? = some x → I i ds1 → ∃ is ds2, EvG X tg x ds1 is ds2 ∧ Ss X body ds2 (Turns (I (i + 1)) Ψ)) (hd : ∀ ds', I xs.length ds' → Ψ (.nx ds'))
    (hp : PassesOwn (model X.prog X.w) X.A X.env X.xe := by exact .never) (hs : ∀ x, foldedSetIterable iter X.env x = pure x := by intro _; rfl) : S1 X (.For tg iter body [] pos) ds Ψ := fun W C0 H0 C H σ D x ⟨f, S⟩ q =>
  psW (ps_for hp hc wpI.pi wpG.pg wpSs.pss hs) (hi C H σ S.sd _ fun J C1 H1 x1 wk => by
    refine ⟨fun i m σ2 H2 => m = xs.length - i ∧ i ≤ xs.length ∧ ∃ C2 ds2, I i ds2 ∧ Stw W C0 H0 C2 H2 ∧ Prg C1 H1 C2 H2 ∧ SWx X W H0 C2 H2 σ2 ds2, ⟨xs.length, by omega, Nat.zero_le _, C1, ds, h0, x.thenS x1, .refl x1.le', f, S.mono x1⟩, ?_⟩
    rintro i m σ2 H2 ⟨rfl, hile, C2, ds2, hI, y2, p2, f2, S2⟩
    obtain ⟨w1, w2⟩ := wk C2 H2 p2 i
    by_cases hlt : i < xs.length
    · obtain ⟨hgo, hy⟩ := w1 xs[i] (List.getElem?_eq_getElem hlt)
      obtain ⟨is, ds3, hg, hb⟩ := ht i xs[i] ds2 (List.getElem?_eq_getElem hlt) hI
      refine .inr ⟨hgo, fun σ' H' => ∃ C2 ds2, I (i + 1) ds2 ∧ Stw W C0 H0 C2 H' ∧ Prg C1 H1 C2 H' ∧ SWx X W H0 C2 H' σ' ds2, fun σ' H' h' => ⟨xs.length - (i + 1), by omega, rfl, hlt, h'⟩, fun v H3 hv => ?_⟩
      obtain ⟨C3, x3, i3⟩ := hy v H3 hv
      refine hg.run C3 H3 σ2 v (S2.mono x3).sd i3 _ fun σ4 C4 H4 x4 S4 l4 k4 => ?_
      have x34 := x3.trans x4
      refine hb W C0 H0 C4 H4 σ4 _ (y2.thenS x34) ⟨_, S2.tgt x34 S4 k4 hg.out hg.inn⟩ fun r hr => ?_
      cases r with
      | nx ds' => exact fun C' H' σ' a b c => ⟨C', ds', hr, a, p2.trans (x34.prg.trans b), c⟩
      | ct ds' => exact fun C' H' σ' a b c => ⟨C', ds', hr, a, p2.trans (x34.prg.trans b), c⟩
      | bk ds' => exact fun C' H' σ' a b c => q (.nx ds') hr C' H' σ' a (x1.prg.trans (p2.trans (x34.prg.trans b))) c
      | rt d ds' => exact q (.rt d ds') hr
    · have hi : i = xs.length := by omega
      subst hi
      exact .inl ⟨w2 (Nat.le_refl _), q _ (hd ds2 hI) C2 H2 σ2 y2 (x1.prg.trans p2) ⟨f2, S2⟩⟩)
theorem S1.whl {body : List Stmt} (I : Nat → List Sl → Prop) {m0 : Nat} (h0 : I m0 ds)
    (ht : ∀ m ds1, I m ds1 → ∃ k, EvT X c ds1 k ∧ (k = true → Ss X body ds1 (Turns (fun ds' => ∃ m', m' < m ∧ I m' ds') Ψ)) ∧ (k = false → Ψ (.nx ds1)))
    (hp : PassesOwn (model X.prog X.w) X.A X.env X.xe := by exact .never) : S1 X (.While c body [] pos) ds Ψ := fun W C0 H0 C H σ D x S q =>
  psW (ps_while hp wpT.pt wpSs.pss) (by
    refine ⟨fun m σ2 H2 => ∃ C2 ds2, I m ds2 ∧ Stw W C0 H0 C2 H2 ∧ Prg C H C2 H2 ∧ SWx X W H0 C2 H2 σ2 ds2, ⟨m0, C, ds, h0, x, .refl S.sd.le, S⟩, ?_⟩
    rintro m σ2 H2 ⟨C2, ds2, hI, y2, p2, f2, S2⟩
    obtain ⟨k, hk, h1, h2⟩ := ht m ds2 hI
    refine hk C2 H2 σ2 S2.sd _ fun C3 H3 x3 => ?_
    cases k with
    | false => exact iteF (q _ (h2 rfl) C3 H3 σ2 (y2.thenS x3) (p2.trans x3.prg) ⟨f2, S2.mono x3⟩)
    | true =>
      refine iteT ⟨fun σ' H' => ∃ C2 ds2, (∃ m', m' < m ∧ I m' ds2) ∧ Stw W C0 H0 C2 H' ∧ Prg C H C2 H' ∧ SWx X W H0 C2 H' σ' ds2, fun σ' H' ⟨C', ds', ⟨m', hm, hI'⟩, r⟩ => ⟨m', hm, C', ds', hI', r⟩, ?_⟩
      refine h1 rfl W C0 H0 C3 H3 σ2 _ (y2.thenS x3) ⟨f2, S2.mono x3⟩ fun r hr => ?_
      cases r with
      | nx ds' => exact fun C' H' σ' a b c => ⟨C', ds', hr, a, p2.trans (x3.prg.trans b), c⟩
      | ct ds' => exact fun C' H' σ' a b c => ⟨C', ds', hr, a, p2.trans (x3.prg.trans b), c⟩
      | bk ds' => exact fun C' H' σ' a b c => q (.nx ds') hr C' H' σ' a (p2.trans (x3.prg.trans b)) c
      | rt d ds' => exact q (.rt d ds') hr)
end
end K66
set_option maxHeartbeats 4000000
namespace K66
open PySem PySem.Spec PyProof.Rows L2
section
variable {K : PySem.W.Frag} {mg : Str → Option Value}
theorem fas_at (i : Nat) {f : He.Fa} (h : fas[i]? = some f := by rfl) : f ∈ fas := List.mem_of_getElem? h
theorem Txt.g_is_list (T : Txt K mg) : mg "is_list" = some (.ref (He.ga K "is_list")) := T.glo _ (fas_at 0)
theorem Txt.g_is_integer (T : Txt K mg) : mg "is_integer" = some (.ref (He.ga K "is_integer")) := T.glo _ (fas_at 1)
theorem Txt.g_is_name (T : Txt K mg) : mg "is_name" = some (.ref (He.ga K "is_name")) := T.glo _ (fas_at 2)
theorem Txt.g_is_deed (T : Txt K mg) : mg "is_deed" = some (.ref (He.ga K "is_deed")) := T.glo _ (fas_at 3)
theorem Txt.g_is_row (T : Txt K mg) : mg "is_row" = some (.ref (He.ga K "is_row")) := T.glo _ (fas_at 4)
theorem Txt.g_are_rows (T : Txt K mg) : mg "are_rows" = some (.ref (He.ga K "are_rows")) := T.glo _ (fas_at 5)
theorem Txt.g_kept_rows (T : Txt K mg) : mg "kept_rows" = some (.ref (He.ga K "kept_rows")) := T.glo _ (fas_at 6)
theorem Txt.g_key_of (T : Txt K mg) : mg "key_of" = some (.ref (He.ga K "key_of")) := T.glo _ (fas_at 7)
theorem Txt.g_places_of (T : Txt K mg) : mg "places_of" = some (.ref (He.ga K "places_of")) := T.glo _ (fas_at 8)
theorem Txt.g_said (T : Txt K mg) : mg "said" = some (.ref (He.ga K "said")) := T.glo _ (fas_at 9)
theorem Txt.g_got (T : Txt K mg) : mg "got" = some (.ref (He.ga K "got")) := T.glo _ (fas_at 10)
theorem Txt.g_unheard (T : Txt K mg) : mg "unheard" = some (.ref (He.ga K "unheard")) := T.glo _ (fas_at 11)
theorem Txt.g_says_of_gets (T : Txt K mg) : mg "says_of_gets" = some (.ref (He.ga K "says_of_gets")) := T.glo _ (fas_at 12)
theorem Txt.g_done_counts (T : Txt K mg) : mg "done_counts" = some (.ref (He.ga K "done_counts")) := T.glo _ (fas_at 13)
theorem Txt.g_is_free (T : Txt K mg) : mg "is_free" = some (.ref (He.ga K "is_free")) := T.glo _ (fas_at 14)
theorem Txt.g_turning (T : Txt K mg) : mg "turning" = some (.ref (He.ga K "turning")) := T.glo _ (fas_at 15)
theorem Txt.g_want_hand (T : Txt K mg) : mg "want_hand" = some (.ref (He.ga K "want_hand")) := T.glo _ (fas_at 16)
theorem Txt.g_want_hands (T : Txt K mg) : mg "want_hands" = some (.ref (He.ga K "want_hands")) := T.glo _ (fas_at 17)
theorem Txt.g_want_same_hands (T : Txt K mg) : mg "want_same_hands" = some (.ref (He.ga K "want_same_hands")) := T.glo _ (fas_at 18)
theorem Txt.g_letters_of (T : Txt K mg) : mg "letters_of" = some (.ref (He.ga K "letters_of")) := T.glo _ (fas_at 19)
theorem Txt.g_want_few_letters (T : Txt K mg) : mg "want_few_letters" = some (.ref (He.ga K "want_few_letters")) := T.glo _ (fas_at 20)
theorem Txt.g_checked_rows (T : Txt K mg) : mg "checked_rows" = some (.ref (He.ga K "checked_rows")) := T.glo _ (fas_at 21)
theorem Txt.g_name_of (T : Txt K mg) : mg "name_of" = some (.ref (He.ga K "name_of")) := T.glo _ (fas_at 22)
theorem Txt.g_want_pictures (T : Txt K mg) : mg "want_pictures" = some (.ref (He.ga K "want_pictures")) := T.glo _ (fas_at 23)
theorem Txt.g_is_number (T : Txt K mg) : mg "is_number" = some (.ref (He.ga K "is_number")) := T.glo _ (fas_at 24)
theorem Txt.g_want_number (T : Txt K mg) : mg "want_number" = some (.ref (He.ga K "want_number")) := T.glo _ (fas_at 25)
theorem Txt.g_rows_by_hand (T : Txt K mg) : mg "rows_by_hand" = some (.ref (He.ga K "rows_by_hand")) := T.glo _ (fas_at 26)
theorem Txt.g_numbers_with (T : Txt K mg) : mg "numbers_with" = some (.ref (He.ga K "numbers_with")) := T.glo _ (fas_at 27)
theorem Txt.g_is_begun (T : Txt K mg) : mg "is_begun" = some (.ref (He.ga K "is_begun")) := T.glo _ (fas_at 28)
theorem Txt.g_possible_to (T : Txt K mg) : mg "possible_to" = some (.ref (He.ga K "possible_to")) := T.glo _ (fas_at 29)
theorem Txt.g_sure_of_row (T : Txt K mg) : mg "sure_of_row" = some (.ref (He.ga K "sure_of_row")) := T.glo _ (fas_at 30)
theorem Txt.g_sure_of_picture (T : Txt K mg) : mg "sure_of_picture" = some (.ref (He.ga K "sure_of_picture")) := T.glo _ (fas_at 31)
theorem Txt.g_alike_to (T : Txt K mg) : mg "alike_to" = some (.ref (He.ga K "alike_to")) := T.glo _ (fas_at 32)
theorem Txt.g_told_apart (T : Txt K mg) : mg "told_apart" = some (.ref (He.ga K "told_apart")) := T.glo _ (fas_at 33)
theorem Txt.g_is_waiter (T : Txt K mg) : mg "is_waiter" = some (.ref (He.ga K "is_waiter")) := T.glo _ (fas_at 34)
theorem Txt.g_waiters (T : Txt K mg) : mg "waiters" = some (.ref (He.ga K "waiters")) := T.glo _ (fas_at 35)
theorem Txt.g_beginnings (T : Txt K mg) : mg "beginnings" = some (.ref (He.ga K "beginnings")) := T.glo _ (fas_at 36)
theorem Txt.g_deeds_behind (T : Txt K mg) : mg "deeds_behind" = some (.ref (He.ga K "deeds_behind")) := T.glo _ (fas_at 37)
theorem Txt.g_kinds_of (T : Txt K mg) : mg "kinds_of" = some (.ref (He.ga K "kinds_of")) := T.glo _ (fas_at 38)
theorem Txt.g_machine (T : Txt K mg) : mg "machine" = some (.ref (He.ga K "machine")) := T.glo _ (fas_at 39)
theorem Txt.g_reads (T : Txt K mg) : mg "reads" = some (.ref (He.ga K "reads")) := T.glo _ (fas_at 40)
theorem Txt.g_law_pot (T : Txt K mg) : mg "_law_pot" = some (.ref (He.ga K "_law_pot")) := T.glo _ (fas_at 41)
theorem Txt.g_law_draw (T : Txt K mg) : mg "_law_draw" = some (.ref (He.ga K "_law_draw")) := T.glo _ (fas_at 42)
theorem Txt.g_law_pick (T : Txt K mg) : mg "_law_pick" = some (.ref (He.ga K "_law_pick")) := T.glo _ (fas_at 43)
theorem Txt.g_law_names (T : Txt K mg) : mg "_law_names" = some (.ref (He.ga K "_law_names")) := T.glo _ (fas_at 44)
theorem Txt.g_law_rows (T : Txt K mg) : mg "_law_rows" = some (.ref (He.ga K "_law_rows")) := T.glo _ (fas_at 45)
theorem Txt.g_law_reworded (T : Txt K mg) : mg "_law_reworded" = some (.ref (He.ga K "_law_reworded")) := T.glo _ (fas_at 46)
theorem Txt.g_law_book (T : Txt K mg) : mg "_law_book" = some (.ref (He.ga K "_law_book")) := T.glo _ (fas_at 47)
theorem Txt.g_law_hand_right (T : Txt K mg) : mg "_law_hand_right" = some (.ref (He.ga K "_law_hand_right")) := T.glo _ (fas_at 48)
theorem Txt.g_law_book_right (T : Txt K mg) : mg "_law_book_right" = some (.ref (He.ga K "_law_book_right")) := T.glo _ (fas_at 49)
theorem Txt.g_law_right (T : Txt K mg) : mg "_law_right" = some (.ref (He.ga K "_law_right")) := T.glo _ (fas_at 50)
theorem Txt.g_law (T : Txt K mg) : mg "law" = some (.ref (He.ga K "law")) := T.glo _ (fas_at 51)
theorem Txt.g_Picture (T : Txt K mg) : mg "Picture" = some (.ref (He.ga K "Picture")) := T.glo _ (fas_at 52)
theorem Txt.g_Book (T : Txt K mg) : mg "Book" = some (.ref (He.ga K "Book")) := T.glo _ (fas_at 53)
theorem Txt.g_Whole (T : Txt K mg) : mg "Whole" = some (.ref (He.ga K "Whole")) := T.glo _ (fas_at 54)
theorem Txt.f_isinstance (T : Txt K mg) : mg "isinstance" = none := T.free _ (fas_at 55)
theorem Txt.f_len (T : Txt K mg) : mg "len" = none := T.free _ (fas_at 56)
theorem Txt.f_all (T : Txt K mg) : mg "all" = none := T.free _ (fas_at 57)
theorem Txt.f_any (T : Txt K mg) : mg "any" = none := T.free _ (fas_at 58)
theorem Txt.f_sorted (T : Txt K mg) : mg "sorted" = none := T.free _ (fas_at 59)
theorem Txt.f_tuple (T : Txt K mg) : mg "tuple" = none := T.free _ (fas_at 60)
theorem Txt.f_list (T : Txt K mg) : mg "list" = none := T.free _ (fas_at 61)
theorem Txt.f_dict (T : Txt K mg) : mg "dict" = none := T.free _ (fas_at 62)
theorem Txt.f_set (T : Txt K mg) : mg "set" = none := T.free _ (fas_at 63)
theorem Txt.f_str (T : Txt K mg) : mg "str" = none := T.free _ (fas_at 64)
theorem Txt.f_int (T : Txt K mg) : mg "int" = none := T.free _ (fas_at 65)
theorem Txt.f_bool (T : Txt K mg) : mg "bool" = none := T.free _ (fas_at 66)
theorem Txt.f_enumerate (T : Txt K mg) : mg "enumerate" = none := T.free _ (fas_at 67)
theorem Txt.f_range (T : Txt K mg) : mg "range" = none := T.free _ (fas_at 68)
theorem Txt.f_zip (T : Txt K mg) : mg "zip" = none := T.free _ (fas_at 69)
theorem Txt.f_abs (T : Txt K mg) : mg "abs" = none := T.free _ (fas_at 70)
theorem Txt.f_max (T : Txt K mg) : mg "max" = none := T.free _ (fas_at 71)
theorem Txt.f_min (T : Txt K mg) : mg "min" = none := T.free _ (fas_at 72)
theorem Txt.f_divmod (T : Txt K mg) : mg "divmod" = none := T.free _ (fas_at 73)
theorem Txt.s_LETTERS (T : Txt K mg) : ∃ t, mg "LETTERS" = some (.str "abcdefghijklmnopqrstuvwxyz" t) := T.str _ _ (fas_at 74)
theorem Txt.i_MOST_SIGNS (T : Txt K mg) : ∃ t, mg "MOST_SIGNS" = some (.int 6 t) := T.int _ _ (fas_at 75)
theorem Txt.s_SAY (T : Txt K mg) : ∃ t, mg "SAY" = some (.str "say" t) := T.str _ _ (fas_at 76)
theorem Txt.s_GET (T : Txt K mg) : ∃ t, mg "GET" = some (.str "get" t) := T.str _ _ (fas_at 77)
theorem Txt.cls_Picture (T : Txt K mg) : (He.Fa.cls "Picture").ok K = true := T.says.facts (fas_at 78)
theorem Txt.cls_Book (T : Txt K mg) : (He.Fa.cls "Book").ok K = true := T.says.facts (fas_at 79)
theorem Txt.noat_Picture_own_rows (T : Txt K mg) : (He.Fa.noat "Picture" "own_rows").ok K = true := T.says.facts (fas_at 80)
theorem Txt.noat_Book_own_pictures (T : Txt K mg) : (He.Fa.noat "Book" "own_pictures").ok K = true := T.says.facts (fas_at 81)
theorem Txt.meth_Picture_hands (T : Txt K mg) : (He.Fa.meth "Picture" "hands").ok K = true := T.says.facts (fas_at 82)
theorem Txt.meth_Picture_row (T : Txt K mg) : (He.Fa.meth "Picture" "row").ok K = true := T.says.facts (fas_at 83)
theorem Txt.meth_Picture_letters (T : Txt K mg) : (He.Fa.meth "Picture" "letters").ok K = true := T.says.facts (fas_at 84)
theorem Txt.meth_Picture_len (T : Txt K mg) : (He.Fa.meth "Picture" "__len__").ok K = true := T.says.facts (fas_at 85)
theorem Txt.meth_Book_hands (T : Txt K mg) : (He.Fa.meth "Book" "hands").ok K = true := T.says.facts (fas_at 86)
theorem Txt.meth_Book_pictures (T : Txt K mg) : (He.Fa.meth "Book" "pictures").ok K = true := T.says.facts (fas_at 87)
theorem Txt.meth_Book_getitem (T : Txt K mg) : (He.Fa.meth "Book" "__getitem__").ok K = true := T.says.facts (fas_at 88)
theorem Txt.meth_Book_len (T : Txt K mg) : (He.Fa.meth "Book" "__len__").ok K = true := T.says.facts (fas_at 89)
theorem Txt.mkr_Picture (T : Txt K mg) : (He.Fa.mkr "Picture").ok K = true := T.says.facts (fas_at 90)
theorem Txt.mkr_Book (T : Txt K mg) : (He.Fa.mkr "Book").ok K = true := T.says.facts (fas_at 91)
theorem Txt.n_is_list (T : Txt K mg) : ∃ fd, FnP K d_is_list (He.fAd K d_is_list.at_) fd := T.says.def_ 0 rfl
theorem Txt.n_is_integer (T : Txt K mg) : ∃ fd, FnP K d_is_integer (He.fAd K d_is_integer.at_) fd := T.says.def_ 1 rfl
theorem Txt.n_is_name (T : Txt K mg) : ∃ fd, FnP K d_is_name (He.fAd K d_is_name.at_) fd := T.says.def_ 2 rfl
theorem Txt.n_is_deed (T : Txt K mg) : ∃ fd, FnP K d_is_deed (He.fAd K d_is_deed.at_) fd := T.says.def_ 3 rfl
theorem Txt.n_is_row (T : Txt K mg) : ∃ fd, FnP K d_is_row (He.fAd K d_is_row.at_) fd := T.says.def_ 4 rfl
theorem Txt.n_are_rows (T : Txt K mg) : ∃ fd, FnP K d_are_rows (He.fAd K d_are_rows.at_) fd := T.says.def_ 5 rfl
theorem Txt.n_kept_rows (T : Txt K mg) : ∃ fd, FnP K d_kept_rows (He.fAd K d_kept_rows.at_) fd := T.says.def_ 6 rfl
theorem Txt.n_key_of (T : Txt K mg) : ∃ fd, FnP K d_key_of (He.fAd K d_key_of.at_) fd := T.says.def_ 7 rfl
theorem Txt.n_places_of (T : Txt K mg) : ∃ fd, FnP K d_places_of (He.fAd K d_places_of.at_) fd := T.says.def_ 8 rfl
theorem Txt.n_said (T : Txt K mg) : ∃ fd, FnP K d_said (He.fAd K d_said.at_) fd := T.says.def_ 9 rfl
theorem Txt.n_got (T : Txt K mg) : ∃ fd, FnP K d_got (He.fAd K d_got.at_) fd := T.says.def_ 10 rfl
theorem Txt.n_unheard (T : Txt K mg) : ∃ fd, FnP K d_unheard (He.fAd K d_unheard.at_) fd := T.says.def_ 11 rfl
theorem Txt.n_says_of_gets (T : Txt K mg) : ∃ fd, FnP K d_says_of_gets (He.fAd K d_says_of_gets.at_) fd := T.says.def_ 12 rfl
theorem Txt.n_done_counts (T : Txt K mg) : ∃ fd, FnP K d_done_counts (He.fAd K d_done_counts.at_) fd := T.says.def_ 13 rfl
theorem Txt.n_is_free (T : Txt K mg) : ∃ fd, FnP K d_is_free (He.fAd K d_is_free.at_) fd := T.says.def_ 14 rfl
theorem Txt.n_turning (T : Txt K mg) : ∃ fd, FnP K d_turning (He.fAd K d_turning.at_) fd := T.says.def_ 15 rfl
theorem Txt.n_want_hand (T : Txt K mg) : ∃ fd, FnP K d_want_hand (He.fAd K d_want_hand.at_) fd := T.says.def_ 16 rfl
theorem Txt.n_want_hands (T : Txt K mg) : ∃ fd, FnP K d_want_hands (He.fAd K d_want_hands.at_) fd := T.says.def_ 17 rfl
theorem Txt.n_want_same_hands (T : Txt K mg) : ∃ fd, FnP K d_want_same_hands (He.fAd K d_want_same_hands.at_) fd := T.says.def_ 18 rfl
theorem Txt.n_letters_of (T : Txt K mg) : ∃ fd, FnP K d_letters_of (He.fAd K d_letters_of.at_) fd := T.says.def_ 19 rfl
theorem Txt.n_want_few_letters (T : Txt K mg) : ∃ fd, FnP K d_want_few_letters (He.fAd K d_want_few_letters.at_) fd := T.says.def_ 20 rfl
theorem Txt.n_checked_rows (T : Txt K mg) : ∃ fd, FnP K d_checked_rows (He.fAd K d_checked_rows.at_) fd := T.says.def_ 21 rfl
theorem Txt.n_name_of (T : Txt K mg) : ∃ fd, FnP K d_name_of (He.fAd K d_name_of.at_) fd := T.says.def_ 22 rfl
theorem Txt.n_want_pictures (T : Txt K mg) : ∃ fd, FnP K d_want_pictures (He.fAd K d_want_pictures.at_) fd := T.says.def_ 23 rfl
theorem Txt.n_is_number (T : Txt K mg) : ∃ fd, FnP K d_is_number (He.fAd K d_is_number.at_) fd := T.says.def_ 24 rfl
theorem Txt.n_want_number (T : Txt K mg) : ∃ fd, FnP K d_want_number (He.fAd K d_want_number.at_) fd := T.says.def_ 25 rfl
theorem Txt.n_rows_by_hand (T : Txt K mg) : ∃ fd, FnP K d_rows_by_hand (He.fAd K d_rows_by_hand.at_) fd := T.says.def_ 26 rfl
theorem Txt.n_numbers_with (T : Txt K mg) : ∃ fd, FnP K d_numbers_with (He.fAd K d_numbers_with.at_) fd := T.says.def_ 27 rfl
theorem Txt.n_is_begun (T : Txt K mg) : ∃ fd, FnP K d_is_begun (He.fAd K d_is_begun.at_) fd := T.says.def_ 28 rfl
theorem Txt.n_possible_to (T : Txt K mg) : ∃ fd, FnP K d_possible_to (He.fAd K d_possible_to.at_) fd := T.says.def_ 29 rfl
theorem Txt.n_sure_of_row (T : Txt K mg) : ∃ fd, FnP K d_sure_of_row (He.fAd K d_sure_of_row.at_) fd := T.says.def_ 30 rfl
theorem Txt.n_sure_of_picture (T : Txt K mg) : ∃ fd, FnP K d_sure_of_picture (He.fAd K d_sure_of_picture.at_) fd := T.says.def_ 31 rfl
theorem Txt.n_alike_to (T : Txt K mg) : ∃ fd, FnP K d_alike_to (He.fAd K d_alike_to.at_) fd := T.says.def_ 32 rfl
theorem Txt.n_told_apart (T : Txt K mg) : ∃ fd, FnP K d_told_apart (He.fAd K d_told_apart.at_) fd := T.says.def_ 33 rfl
theorem Txt.n_is_waiter (T : Txt K mg) : ∃ fd, FnP K d_is_waiter (He.fAd K d_is_waiter.at_) fd := T.says.def_ 34 rfl
theorem Txt.n_waiters (T : Txt K mg) : ∃ fd, FnP K d_waiters (He.fAd K d_waiters.at_) fd := T.says.def_ 35 rfl
theorem Txt.n_beginnings (T : Txt K mg) : ∃ fd, FnP K d_beginnings (He.fAd K d_beginnings.at_) fd := T.says.def_ 36 rfl
theorem Txt.n_deeds_behind (T : Txt K mg) : ∃ fd, FnP K d_deeds_behind (He.fAd K d_deeds_behind.at_) fd := T.says.def_ 37 rfl
theorem Txt.n_kinds_of (T : Txt K mg) : ∃ fd, FnP K d_kinds_of (He.fAd K d_kinds_of.at_) fd := T.says.def_ 38 rfl
theorem Txt.n_machine (T : Txt K mg) : ∃ fd, FnP K d_machine (He.fAd K d_machine.at_) fd := T.says.def_ 39 rfl
theorem Txt.n_reads (T : Txt K mg) : ∃ fd, FnP K d_reads (He.fAd K d_reads.at_) fd := T.says.def_ 40 rfl
theorem Txt.n_law_pot (T : Txt K mg) : ∃ fd, FnP K d_law_pot (He.fAd K d_law_pot.at_) fd := T.says.def_ 41 rfl
theorem Txt.n_law_draw (T : Txt K mg) : ∃ fd, FnP K d_law_draw (He.fAd K d_law_draw.at_) fd := T.says.def_ 42 rfl
theorem Txt.n_law_pick (T : Txt K mg) : ∃ fd, FnP K d_law_pick (He.fAd K d_law_pick.at_) fd := T.says.def_ 43 rfl
theorem Txt.n_law_names (T : Txt K mg) : ∃ fd, FnP K d_law_names (He.fAd K d_law_names.at_) fd := T.says.def_ 44 rfl
theorem Txt.n_law_rows (T : Txt K mg) : ∃ fd, FnP K d_law_rows (He.fAd K d_law_rows.at_) fd := T.says.def_ 45 rfl
theorem Txt.n_law_reworded (T : Txt K mg) : ∃ fd, FnP K d_law_reworded (He.fAd K d_law_reworded.at_) fd := T.says.def_ 46 rfl
theorem Txt.n_law_book (T : Txt K mg) : ∃ fd, FnP K d_law_book (He.fAd K d_law_book.at_) fd := T.says.def_ 47 rfl
theorem Txt.n_law_hand_right (T : Txt K mg) : ∃ fd, FnP K d_law_hand_right (He.fAd K d_law_hand_right.at_) fd := T.says.def_ 48 rfl
theorem Txt.n_law_book_right (T : Txt K mg) : ∃ fd, FnP K d_law_book_right (He.fAd K d_law_book_right.at_) fd := T.says.def_ 49 rfl
theorem Txt.n_law_right (T : Txt K mg) : ∃ fd, FnP K d_law_right (He.fAd K d_law_right.at_) fd := T.says.def_ 50 rfl
theorem Txt.n_law (T : Txt K mg) : ∃ fd, FnP K d_law (He.fAd K d_law.at_) fd := T.says.def_ 51 rfl
theorem Txt.n_Picture_init (T : Txt K mg) : ∃ fd, FnP K d_Picture_init (He.fAd K d_Picture_init.at_) fd := T.says.def_ 52 rfl
theorem Txt.n_Picture_hands (T : Txt K mg) : ∃ fd, FnP K d_Picture_hands (He.fAd K d_Picture_hands.at_) fd := T.says.def_ 53 rfl
theorem Txt.n_Picture_row (T : Txt K mg) : ∃ fd, FnP K d_Picture_row (He.fAd K d_Picture_row.at_) fd := T.says.def_ 54 rfl
theorem Txt.n_Picture_letters (T : Txt K mg) : ∃ fd, FnP K d_Picture_letters (He.fAd K d_Picture_letters.at_) fd := T.says.def_ 55 rfl
theorem Txt.n_Picture_len (T : Txt K mg) : ∃ fd, FnP K d_Picture_len (He.fAd K d_Picture_len.at_) fd := T.says.def_ 56 rfl
theorem Txt.n_Book_init (T : Txt K mg) : ∃ fd, FnP K d_Book_init (He.fAd K d_Book_init.at_) fd := T.says.def_ 57 rfl
theorem Txt.n_Book_hands (T : Txt K mg) : ∃ fd, FnP K d_Book_hands (He.fAd K d_Book_hands.at_) fd := T.says.def_ 58 rfl
theorem Txt.n_Book_pictures (T : Txt K mg) : ∃ fd, FnP K d_Book_pictures (He.fAd K d_Book_pictures.at_) fd := T.says.def_ 59 rfl
theorem Txt.n_Book_getitem (T : Txt K mg) : ∃ fd, FnP K d_Book_getitem (He.fAd K d_Book_getitem.at_) fd := T.says.def_ 60 rfl
theorem Txt.n_Book_len (T : Txt K mg) : ∃ fd, FnP K d_Book_len (He.fAd K d_Book_len.at_) fd := T.says.def_ 61 rfl
end
end K66
set_option maxHeartbeats 4000000
namespace K66
variable [TabAt]
open PySem PySem.Spec PyProof.Rows L2
section
variable {X : Cx} {ds : List Sl} {a b c : Expr} {pos : Pos}
/-- a op b op' c of ints -/
theorem ch_of {op op' : CmpOp} {g g' : Int → Int → Bool} {i j k : Int} (ha : EvD X a ds (.int i)) (hb : EvD X b ds (.int j)) (hc : EvD X c ds (.int k)) {C H : Hp} {σ : L2.St} (S : SDx X C H σ ds) {Q : VK} (q : ∀ C' H', Stp C H C' H' → Q (.bl (g i j && g' j k)) H') :
    tChain (rI0 fun i j => .bl (g i j)) (rI0 fun i j => .bl (g' i j)) (wpE X a) (wpE X b) (wpE X c) σ H Q :=
  ha C H σ S _ fun v C1 H1 x1 i1 => hb C1 H1 σ (S.mono x1) _ fun u C2 H2 x2 i2 => by
    rw [show v = V.int i from i1, show u = V.int j from i2]
    refine ⟨i, j, rfl, rfl, g i j, rfl, ?_⟩
    cases e : g i j with
    | false =>
      rw [if_neg Bool.false_ne_true]
      have := q C2 H2 (x1.trans x2)
      rw [e, Bool.false_and] at this
      exact this
    | true =>
      rw [if_pos rfl]
      refine hc C2 H2 σ ((S.mono x1).mono x2) _ fun w C3 H3 x3 i3 => ?_
      rw [show w = V.int k from i3]
      have := q C3 H3 ((x1.trans x2).trans x3)
      rw [e, Bool.true_and] at this
      exact ⟨j, k, rfl, rfl, this⟩
theorem EvD.ch {op op' : CmpOp} {g g' : Int → Int → Bool} {i j k : Int} (ho : OpR X (compareOp op) (rI0 fun i j => .bl (g i j))) (ho' : OpR X (compareOp op') (rI0 fun i j => .bl (g' i j))) (ha : EvD X a ds (.int i)) (hb : EvD X b ds (.int j)) (hc : EvD X c ds (.int k))
    (hm : lastMarks [op, op'] [b, c] = false := by with_unfolding_all rfl) : EvD X (.Compare a [op, op'] [b, c] pos) ds (.bl (g i j && g' j k)) := fun C H σ S Q q =>
  peW (pe_chain ho ho' wpE.pe wpE.pe wpE.pe hm) (ch_of (op := op) (op' := op') ha hb hc S fun C' H' x => q _ C' H' x rfl)
theorem EvT.ch {op op' : CmpOp} {g g' : Int → Int → Bool} {i j k : Int} (ho : OpR X (compareOp op) (rI0 fun i j => .bl (g i j))) (ho' : OpR X (compareOp op') (rI0 fun i j => .bl (g' i j))) (ha : EvD X a ds (.int i)) (hb : EvD X b ds (.int j)) (hc : EvD X c ds (.int k))
    (hm : lastMarks [op, op'] [b, c] = false := by with_unfolding_all rfl) : EvT X (.Compare a [op, op'] [b, c] pos) ds (g i j && g' j k) := fun C H σ S Q q =>
  ptW (pt_chain ho ho' wpE.pe wpE.pe wpE.pe hm) (ch_of (op := op) (op' := op') ha hb hc S fun C' H' x => ⟨_, rfl, q C' H' x⟩)
/-- a sign in a text -/
theorem EvC.inSign {k : Nat} {z : Str} (ha : EvD X a ds (.str ⟨#[k]⟩)) (hb : EvD X b ds (.str z)) : EvC X .In a b ds (decide (k ∈ z.cps.toList)) :=
  .of op_in_sign ha hb fun C H v u l i1 i2 Q q => ⟨k, z, i1, i2, q C H (.refl l)⟩
end
def kindB (k j : NameKind) : Bool := decide (k = j)
def blkB (N : List Str) (sc scope : Scope) (own : List (Str × Nat)) : Bool :=
  decide (scope.kind = .function) && ((scope.names.all fun y => decide (scope.names.lookup y.1 = some y.2)) && ((own.all fun p => decide (N[p.2]? = some p.1)) &&
  ((scope.names.all fun y => !decide (y.2 = .free) || (decide (sc.names.lookup y.1 = some .cell) || decide (sc.names.lookup y.1 = some .free))) &&
  (scope.names.all fun y => !(decide (y.2 = .local) || decide (y.2 = .cell)) || ((own.map (·.1)).contains y.1 || !N.contains y.1)))))
theorem blk_of {N : List Str} {sc scope : Scope} {own : List (Str × Nat)} (h : blkB N sc scope own = true) : BlkOk N sc scope own := by
  obtain ⟨h1, h⟩ := Bool.and_eq_true_iff.mp h
  obtain ⟨h2, h⟩ := Bool.and_eq_true_iff.mp h
  obtain ⟨h3, h⟩ := Bool.and_eq_true_iff.mp h
  obtain ⟨h4, h5⟩ := Bool.and_eq_true_iff.mp h
  refine ⟨of_decide_eq_true h1, fun y hy => of_decide_eq_true (List.all_eq_true.mp h2 y hy), fun p hp => of_decide_eq_true (List.all_eq_true.mp h3 p hp), fun y hy e => ?_, fun y hy e => ?_⟩
  · have q := List.all_eq_true.mp h4 y hy
    rw [decide_eq_true e] at q
    rcases Bool.or_eq_true_iff.mp q with q | q
    · cases q
    · exact (Bool.or_eq_true_iff.mp q).imp of_decide_eq_true of_decide_eq_true
  · have q := List.all_eq_true.mp h5 y hy
    have e' : (decide (y.2 = NameKind.local) || decide (y.2 = NameKind.cell)) = true := by
      rcases e with e | e
      · rw [decide_eq_true e]; rfl
      · rw [decide_eq_true e, Bool.or_true]
    rw [e'] at q
    rcases Bool.or_eq_true_iff.mp q with q | q
    · cases q
    · refine (Bool.or_eq_true_iff.mp q).imp (fun z => List.contains_iff_mem.mp z) fun z => ?_
      intro hm
      rw [List.contains_iff_mem.mpr hm] at z
      cases z
section
variable {X : Cx} {ds : List Sl} {a : Expr} {d : Dt} {pos p : Pos}
/-- isinstance(x, T), all told -/
theorem EvD.isn (Td T : String) (k : Bool) {x : Str} {q1 : Pos} (ha : EvD X a ds d) (hm : X.mg "isinstance" = none) (hmT : X.mg x = none) (hd : dTy d = Td := by rfl) (ht : Td ≠ "" := by decide) (hk : kitB Td T = some k := by decide +kernel) (hvT : bootBuiltins x = some (.type T) := by decide +kernel)
    (hg : Gl X "isinstance" := by rfl) (hgT : Gl X x := by rfl) (hnT : x ≠ "__name__" := by decide) (hdT : (x == ("__debug__" : Str)) = false := by decide) (hst : starEach [a, .Name x q1] X.env = (false, eval a X.env) :: starEach [.Name x q1] X.env := by rfl)
    (hst2 : starEach [.Name x q1] X.env = (false, eval (.Name x q1) X.env) :: starEach [] X.env := by rfl) : EvD X (.Call (.Name "isinstance" p) [a, .Name x q1] [] pos) ds (.bl k) :=
  .isi ha (by rw [hd]; exact ht) (by rw [hd]; exact hk) hm hmT hvT hg hgT hnT hdT hst hst2
end
def PureΦ (r : Dt) : Res → Prop
  | .rt d _ => d = r
  | .nx _ => r = .non
  | _ => False
theorem start_get {N : List Str} {vs : List V} {i : Nat} (h : i < vs.length) : (L2.start N vs)[i]? = some (some vs[i]) := by
  unfold L2.start
  rw [List.getElem?_append_left (by rw [List.length_map]; exact h), List.getElem?_map, List.getElem?_eq_getElem h]
  rfl
section
variable {P : Program} {w : World} {K : PySem.W.Frag} {mg : Str → Option Value} {base : Heap}
abbrev PX (P : Program) (w : World) (K : PySem.W.Frag) (mg : Str → Option Value) (base : Heap) (N : List Str) (d : He.DefD) (cdv : Value) (A : Around) (outer : List Env) (s : Shared) (H : Hp) (E : XK) : Cx := (cxOf CX0 P w K mg base N d.qual d.scope (He.fAd K d.at_) cdv A outer s H E).nox
/-- the slots at a pure def's start -/
def ds0 (n : Nat) (as : List Dt) : List Sl := as.map Sl.d ++ List.replicate (n - as.length) .un
theorem SW.begins {N : List Str} {C H : Hp} {as : List Dt} {vs : List V} (l : Le C H) (i : IsL P w C as vs) (hl : vs.length ≤ N.length) : SW P w (fun _ => False) H C H (L2.start N vs) (ds0 N.length as) := by
  have el := i.len
  refine ⟨fun _ => [], l, ?_, fun j s e => ?_, fun _ => List.nodup_nil, fun i j a _ h => by simp at h, fun i a h => by simp at h, fun _ _ => rfl⟩
  · unfold L2.start ds0
    rw [List.length_append, List.length_append, List.length_map, List.length_map, List.length_replicate, List.length_replicate, el]
  · unfold ds0 at e
    by_cases hj : j < as.length
    · rw [List.getElem?_append_left (by rw [List.length_map]; exact hj), List.getElem?_map, List.getElem?_eq_getElem hj] at e
      cases e
      obtain ⟨v, hv, iv⟩ := i.get (List.getElem?_eq_getElem hj)
      have hj' : j < vs.length := by omega
      rw [start_get hj']
      rw [List.getElem?_eq_getElem hj'] at hv
      cases hv
      exact ⟨rfl, _, rfl, iv⟩
    · rw [List.getElem?_append_right (by rw [List.length_map]; omega), List.getElem?_replicate] at e
      split at e
      · cases e; exact rfl
      · cases e
theorem okD_pure {d : He.DefD} {N ps : List Str} {k : Nat} {pre : List Dt → Dt → Prop} (F : ∃ fd, FnP K d (He.fAd K d.at_) fd) (S : FnScope N ps d.scope)
    (hb : ∀ (kV doc pm : Value) (an : Option Addr) (cdv ct : Value) (us : List Value), us.length = ps.length → bindArgs (PySem.W.fnOf d.name d.qual d.params d.body d.scope .none kV doc pm an cdv ct) ⟨us, []⟩ = pure (ps.zip us))
    (hbody : ∀ as r, pre as r → as.length = ps.length ∧ ∀ cdv A outer s H E, Room k (A.deeper (envOfC d.qual d.scope s.heap.objs.size (He.fAd K d.at_) cdv)) → Ss (PX P w K mg base N d cdv A outer s H E) d.body (ds0 N.length as) (PureΦ r)) :
    OkD P w K mg base d (k + 1) ps (spD P w pre) := by
  refine okD_of F S hb (fun vs H Q E h => ?_) fun cdv A outer s H vs Q E hr h => ?_
  · obtain ⟨C, as, r, hp, l, i, q⟩ := h
    rw [i.len]
    exact (hbody as r hp).1
  · obtain ⟨C, as, r, hp, l, i, q⟩ := h
    obtain ⟨h1, h2⟩ := hbody as r hp
    have hpl : ps.length ≤ N.length := by have := congrArg List.length S.pre; rw [List.length_take] at this; omega
    refine h2 cdv A outer s H E hr (fun _ => False) C H C H (L2.start N vs) _ (.refl l) (SW.begins l i (by rw [i.len, h1]; exact hpl)) fun r' hr' => ?_
    cases r' with
    | nx ds =>
      intro C' H' σ' a b c
      have hr' : r = .non := hr'
      subst hr'
      exact q .non C' H' (a.stp fun _ z => z) rfl
    | bk ds => exact hr'.elim
    | ct ds => exact hr'.elim
    | rt d ds =>
      intro C' H' σ' v a c iv
      have hr' : d = r := hr'
      subst hr'
      exact q v C' H' (a.stp fun _ z => z) iv
end
section
variable {P : Program} {w : World} {K : PySem.W.Frag} {mg : Str → Option Value} {base : Heap}
/-- list or tuple -/
def p_is_list : List Dt → Dt → Prop := fun as r => ∃ d, as = [d] ∧ (dTy d = "list" ∨ dTy d = "tuple") ∧ r = .bl true
theorem ok_is_list (T : Txt K mg) : OkD P w K mg base d_is_list 1 ["value"] (spD P w p_is_list) := by
  refine okD_pure (N := ["value"]) T.n_is_list ⟨rfl, rfl, rfl, by decide +kernel, rfl, by decide +kernel, by decide +kernel⟩ (fun _ _ _ _ _ _ us hl => match us, hl with | [_], _ => rfl) ?_
  rintro as r ⟨d, rfl, hd, rfl⟩
  refine ⟨rfl, fun cdv A outer s H E hr => ?_⟩
  refine .cons (.ret (.isi2 (S := "list") (T := "tuple") (.var 0 rfl) ?_ ?_ T.f_isinstance T.f_list (by decide +kernel) T.f_tuple (by decide +kernel)) rfl)
  · rcases hd with h | h <;> rw [h] <;> decide
  · rcases hd with h | h <;> rw [h]
    · exact kitAny_cons (b := true) (kit_ty (by decide +kernel)) (fun h => nomatch h) fun _ => rfl
    · exact kitAny_cons (b := false) (kit_ty (by decide +kernel)) (fun _ => kitAny_cons (b := true) (kit_ty (by decide +kernel)) (fun h => nomatch h) fun _ => rfl) fun h => nomatch h
/-- an int -/
def p_is_integer : List Dt → Dt → Prop := fun as r => ∃ i : Int, as = [.int i] ∧ r = .bl true
theorem ok_is_integer (T : Txt K mg) : OkD P w K mg base d_is_integer 1 ["value"] (spD P w p_is_integer) := by
  refine okD_pure (N := ["value"]) T.n_is_integer ⟨rfl, rfl, rfl, by decide +kernel, rfl, by decide +kernel, by decide +kernel⟩ (fun _ _ _ _ _ _ us hl => match us, hl with | [_], _ => rfl) ?_
  rintro as r ⟨i, rfl, rfl⟩
  refine ⟨rfl, fun cdv A outer s H E hr => ?_⟩
  exact .cons (.ret (.and (x := true) (.isn "int" "int" true (.var 0 rfl) T.f_isinstance T.f_int) fun _ => .one (.not (x := false) (.isn "int" "bool" false (.var 0 rfl) T.f_isinstance T.f_bool))) rfl)
/-- a name: 1 to 6 small letters -/
def letters : Str := "abcdefghijklmnopqrstuvwxyz"
def isNm (x : Str) : Bool := decide (1 ≤ x.length) && (decide (x.length ≤ 6) && x.cps.toList.all fun c => decide (c ∈ letters.cps.toList))
def p_is_name : List Dt → Dt → Prop := fun as r => ∃ x : Str, as = [.str x] ∧ isNm x = true ∧ r = .bl true
theorem ok_is_name (T : Txt K mg) : OkD P w K mg base d_is_name 1 ["value"] (spD P w p_is_name) := by
  have nd : (["value", "sign"] : List Str).Nodup := by decide +kernel
  refine okD_pure (N := ["value", "sign"]) T.n_is_name ⟨rfl, rfl, rfl, by decide +kernel, rfl, by decide +kernel, by decide +kernel⟩ (fun _ _ _ _ _ _ us hl => match us, hl with | [_], _ => rfl) ?_
  rintro as r ⟨x, rfl, hx, rfl⟩
  refine ⟨rfl, fun cdv A outer s H E hr => ?_⟩
  obtain ⟨h1, h2⟩ := Bool.and_eq_true_iff.mp hx
  obtain ⟨h2, h3⟩ := Bool.and_eq_true_iff.mp h2
  have h1 := of_decide_eq_true h1
  have h2 := of_decide_eq_true h2
  refine .cons (.ifs (k := false) (.bool (.or (x := false) (.not (k := true) (.val (.isn "str" "str" true (.var 0 rfl) T.f_isinstance T.f_str)))
    fun _ => .or1 (.cast (.not (.ch op_le op_le .int (.lenS (.var 0 rfl) (small (by omega)) T.f_len) (.gint T.i_MOST_SIGNS))) ?_))) (fun h => nomatch h) fun _ => .nil (.cons (.ret (.cast (.all (bs := x.cps.toList.map fun c => decide (c ∈ letters.cps.toList)) rfl ?_ T.f_all) ?_) rfl)))
  · have e : (decide ((1 : Int) ≤ (x.length : Nat)) && decide (((x.length : Nat) : Int) ≤ 6)) = true := by
      rw [Bool.and_eq_true, decide_eq_true_eq, decide_eq_true_eq]; omega
    rw [e] <;> rfl
  · rw [List.map_map]
    refine .lcm (enc := fun c : Nat => .str ⟨#[c]⟩) (own := [("sign", 1)]) rfl nd (.str (.var 0 rfl)) (blk_of rfl) ?_ fun c hc => ?_
    · rw [Array.length_toList]
      have : x.cps.size = x.length := rfl
      omega
    · exact ⟨_, [1], by simp, fun s H C cl fp => .name 1 nd, fun s H C cl fp => .cmp (.inSign (.var 1 rfl) (.gstr T.s_LETTERS))⟩
  · have e : ((x.cps.toList.map fun c => decide (c ∈ letters.cps.toList)).all id) = true := by
      rw [List.all_map]; exact h3
    rw [e]
end
end K66
set_option maxHeartbeats 4000000
namespace K66
variable [TabAt]
open PySem PySem.Spec PyProof.Rows L2
section
variable {X : Cx} {ds : List Sl} {a b : Expr}
theorem EvC.eqI {i j : Int} (ha : EvD X a ds (.int i)) (hb : EvD X b ds (.int j)) : EvC X .Eq a b ds (decide (i = j)) :=
  .of op_eq ha hb fun C H v u l i1 i2 Q q => by
    rw [show v = V.int i from i1, show u = V.int j from i2]
    refine ⟨rfl, ?_⟩
    have e : decide (V.int i = V.int j) = decide (i = j) := by rw [Bool.eq_iff_iff]; simp
    rw [e]; exact q C H (.refl l)
theorem EvC.neI {i j : Int} (ha : EvD X a ds (.int i)) (hb : EvD X b ds (.int j)) : EvC X .NotEq a b ds (!decide (i = j)) :=
  .of op_ne ha hb fun C H v u l i1 i2 Q q => by
    rw [show v = V.int i from i1, show u = V.int j from i2]
    refine ⟨rfl, ?_⟩
    have e : decide (V.int i = V.int j) = decide (i = j) := by rw [Bool.eq_iff_iff]; simp
    rw [e]; exact q C H (.refl l)
theorem EvC.eqS {i j : Str} (ha : EvD X a ds (.str i)) (hb : EvD X b ds (.str j)) : EvC X .Eq a b ds (decide (i = j)) :=
  .of op_eq ha hb fun C H v u l i1 i2 Q q => by
    rw [show v = V.str i from i1, show u = V.str j from i2]
    refine ⟨rfl, ?_⟩
    have e : decide (V.str i = V.str j) = decide (i = j) := by rw [Bool.eq_iff_iff]; simp
    rw [e]; exact q C H (.refl l)
theorem EvC.neS {i j : Str} (ha : EvD X a ds (.str i)) (hb : EvD X b ds (.str j)) : EvC X .NotEq a b ds (!decide (i = j)) :=
  .of op_ne ha hb fun C H v u l i1 i2 Q q => by
    rw [show v = V.str i from i1, show u = V.str j from i2]
    refine ⟨rfl, ?_⟩
    have e : decide (V.str i = V.str j) = decide (i = j) := by rw [Bool.eq_iff_iff]; simp
    rw [e]; exact q C H (.refl l)
theorem inV_str {x : Str} {xs : List Str} : inV (V.str x) (xs.map V.str) = decide (x ∈ xs) := by
  rw [Bool.eq_iff_iff, decide_eq_true_eq]
  unfold inV
  rw [List.any_map, List.any_eq_true]
  constructor
  · rintro ⟨y, hy, e⟩
    have e : decide (y = x) = true := e
    rw [← of_decide_eq_true e]; exact hy
  · exact fun h => ⟨x, h, show decide (x = x) = true from decide_eq_true rfl⟩
theorem EvC.inLS {x : Str} {xs : List Str} (ha : EvD X a ds (.str x)) (hb : EvD X b ds (.lst (xs.map .str))) : EvC X .In a b ds (decide (x ∈ xs)) :=
  .of op_in_seq ha hb fun C H v u l i1 i2 Q q => by
    rw [show v = V.str x from i1]
    obtain ⟨p1, vs, rfl, r1, j1⟩ := i2
    have e : vs = xs.map V.str := IsL.strs j1
    subst e
    refine ⟨p1, xs.map V.str, rfl, .inl (.inl (.inl (l.ex _ _ r1))), rfl, ?_, ?_⟩
    · rw [List.all_map, List.all_eq_true]; intro z _; rfl
    · show Q (.bl (if false = true then _ else inV (V.str x) (xs.map V.str))) H
      rw [if_neg Bool.false_ne_true, inV_str]
      exact q C H (.refl l)
theorem EvC.notInLS {x : Str} {xs : List Str} (ha : EvD X a ds (.str x)) (hb : EvD X b ds (.lst (xs.map .str))) : EvC X .NotIn a b ds (!decide (x ∈ xs)) :=
  .of op_notIn_seq ha hb fun C H v u l i1 i2 Q q => by
    rw [show v = V.str x from i1]
    obtain ⟨p1, vs, rfl, r1, j1⟩ := i2
    have e : vs = xs.map V.str := IsL.strs j1
    subst e
    refine ⟨p1, xs.map V.str, rfl, .inl (.inl (.inl (l.ex _ _ r1))), rfl, ?_, ?_⟩
    · rw [List.all_map, List.all_eq_true]; intro z _; rfl
    · show Q (.bl (if true = true then !inV (V.str x) (xs.map V.str) else _)) H
      rw [if_pos rfl, inV_str]
      exact q C H (.refl l)
end
/-- said or got, with whom, the word -/
abbrev Deed := Bool × Str × Str
def kS (b : Bool) : Str := if b = true then "say" else "get"
def dD (d : Deed) : Dt := .tup [.str (kS d.1), .str d.2.1, .str d.2.2]
abbrev Row := List Deed
def rT (r : Row) : Dt := .tup (r.map dD)
def rL (r : Row) : Dt := .lst (r.map dD)
def deedOk (d : Deed) : Bool := isNm d.2.1 && isNm d.2.2
theorem kS_in (b : Bool) : ([("say" : Str), "get"].any fun y => decide (y = kS b)) = true := by cases b <;> decide +kernel
section
variable {P : Program} {w : World} {K : PySem.W.Frag} {mg : Str → Option Value} {base : Heap}
def p_is_deed : List Dt → Dt → Prop := fun as r => ∃ d : Deed, as = [dD d] ∧ deedOk d = true ∧ r = .bl true
theorem ok_is_deed (T : Txt K mg) : OkD P w K mg base d_is_deed 2 ["value"] (spD P w p_is_deed) := by
  refine okD_pure (N := ["value"]) T.n_is_deed ⟨rfl, rfl, rfl, by decide +kernel, rfl, by decide +kernel, by decide +kernel⟩ (fun _ _ _ _ _ _ us hl => match us, hl with | [_], _ => rfl) ?_
  rintro as r ⟨⟨b, o, x⟩, rfl, hd, rfl⟩
  refine ⟨rfl, fun cdv A outer s H E hr => ?_⟩
  obtain ⟨h1, h2⟩ := Bool.and_eq_true_iff.mp hd
  refine .cons (.ifs (k := false) (.bool (.or (x := false) (.not (k := true) (.val (.isn "tuple" "tuple" true (.var 0 rfl) T.f_isinstance T.f_tuple)))
    fun _ => .or (x := false) (.cast (.cmp (.neI (.lenT (.var 0 rfl) T.f_len) .int)) rfl) fun _ => .or (x := false) (.not (k := true) (.val (.isn "str" "str" true (.ixT (n := 0) (.var 0 rfl) .int rfl) T.f_isinstance T.f_str)))
    fun _ => .or1 (.cast (.cmp (.notInT (xs := ["say", "get"]) (.ixT (n := 0) (.var 0 rfl) .int rfl) (.tup (.cons (.gstr T.s_SAY) (.cons (.gstr T.s_GET) .nil)) (by decide)))) ?_))) (fun h => nomatch h) fun _ => .nil (.cons (.ret (.and (x := true) (y := true) (.call (ok_is_name T) T.g_is_name hr (.cons (.ixT (n := 1) (.var 0 rfl) .int rfl) .nil) ⟨o, rfl, h1, rfl⟩)
      fun _ => .one (.call (ok_is_name T) T.g_is_name hr (.cons (.ixT (n := 2) (.var 0 rfl) .int rfl) .nil) ⟨x, rfl, h2, rfl⟩)) rfl)))
  show (!([("say" : Str), "get"].any fun y => decide (y = kS b))) = false
  rw [kS_in] <;> rfl
end
end K66
set_option maxHeartbeats 4000000
namespace K66
variable [TabAt]
open PySem PySem.Spec PyProof.Rows L2
section
variable {prog : Program} {w : World} {A : Around} {E : Value → Shared → Prop} {s : Shared} {T : String} {r d : Addr} {n : Nat} {Pi : Nat → Value → Prop} {OK : Heap → Prop}
/-- what a source of a list gives, collected -/
theorem collect_src {Q : List Value → Shared → Prop} (S : PySem.W.KdlSrc prog w T r d n Pi OK) (hh : A.handled = none) (hok : OK s.heap) (hn : n ≤ sizeLine)
    (hQ : ∀ (h' : Heap) (tk : Nat) (acc : Array Value), (∀ b o, s.heap.get? b = some o → h'.get? b = some o) → ItemsOf Pi acc n → Q acc.toList { s with heap := h', toks := tk }) : wpAny (model prog w) A (collect (.ref r)) Q E s := by
  generalize hl : s.heap.objs.size = l
  have hp : ∀ b o, s.heap.get? b = some o → (s.heap.push { cls := .type "list", data := .seq ([] : List Value).toArray }).get? b = some o := fun b o e => Heap.get?_push_of_some _ e
  have hok' : OK (s.heap.push { cls := .type "list", data := .seq ([] : List Value).toArray }) := S.keep _ _ hok fun b _ o e => hp b o e
  obtain ⟨tr, td⟩ := S.there _ hok
  have hS : (s.heap.push { cls := .type "list", data := .seq ([] : List Value).toArray }).get? l = some { cls := .type "list", data := .seq #[] 0 } := by rw [← hl]; exact Heap.get?_push_size _ rfl
  unfold collect
  refine wpAny_bind (wpAny_runValue (codeAny_builtin F.entry_proto_collect ?_))
  rw [Around.under_plainId F.plain_proto_collect _]
  show wpAny _ A.in1 (newList [] >>= fun z => again (.builtin "list.__iadd__" ⟨[z, .ref r], []⟩)) _ _ s
  refine wpAny_bind (wpAny_newObj_type (wpAny_pure ⟨plainId_quiet F.plain_list_iadd _, codeAny_builtin F.entry_list_iadd ?_⟩))
  rw [Around.under_plainId F.plain_list_iadd _, hl]
  show wpAny _ A.in1 (Builtin.List.listExtendWith (.ref l) (.ref r) (.ref l)) _ _ _
  let R : Result → Shared → Prop := fun rr s' => rr = .ok (.ret (.ref l)) ∧ ∃ (h' : Heap) (tk : Nat) (acc : Array Value) (c' : Nat), s' = { s with heap := h', toks := tk } ∧ (∀ b o, s.heap.get? b = some o → h'.get? b = some o) ∧
    h'.get? l = some { cls := .type "list", dict := none, data := .seq acc c', slots := #[] } ∧ ItemsOf Pi acc n
  have fin : ∀ s' h' tk acc c', s' = { s with heap := h', toks := tk } → (∀ b o, s.heap.get? b = some o → h'.get? b = some o) → h'.get? l = some { cls := .type "list", dict := none, data := .seq acc c', slots := #[] } → ItemsOf Pi acc n →
      wpAny (model prog w) A (load l >>= fun o => match o.data with | .seq xs _ => pure xs.toList | _ => unsupported "internal:collect") Q E s' := fun s' h' tk acc c' e1 e2 e3 e4 => by
    subst e1
    exact wpAny_bind (wpAny_load e3 (wpAny_pure (hQ h' tk acc e2 e4)))
  refine wpAny_mono (PySem.W.kdl_extend (A := A) (R := R) (s := { s with heap := s.heap.push { cls := .type "list", data := .seq ([] : List Value).toArray } }) S hh hok' l (by rw [← hl]; exact Nat.ne_of_gt tr) (by rw [← hl]; exact Nat.ne_of_gt td) (.ref l) 0 hS
    (fun h' tk acc c' hk e hi => ⟨rfl, h', tk, acc, c', rfl, fun b o q => hk b o (by rw [← hl]; exact Nat.ne_of_lt (Heap.lt_size q)) (hp b o q), e, hi⟩) hn) (fun fl s' h => ?_) fun e s' h => ?_
  · cases fl with
    | done f =>
      obtain ⟨e, h', tk, acc, c', e1, e2, e3, e4⟩ := h
      cases e
      exact fin s' h' tk acc c' e1 e2 e3 e4
    | again c' =>
      refine ⟨h.1, codeAny_mono h.2 fun rr s'' hr => ?_⟩
      obtain ⟨e, h', tk, acc, c', e1, e2, e3, e4⟩ := hr
      subst e
      exact fin s'' h' tk acc c' e1 e2 e3 e4
  · exact absurd h.1 (by simp)
theorem tuple_new_src {Q₁ : Value → Shared → Prop} (S : PySem.W.KdlSrc prog w T r d n Pi OK) (hT : T = "dict" ∨ T = "dict_values") (hh : A.handled = none) (hok : OK s.heap) (hn : n ≤ sizeLine)
    (h : ∀ (h' : Heap) (tk : Nat) (acc : Array Value), (∀ b o, s.heap.get? b = some o → h'.get? b = some o) → ItemsOf Pi acc n → Q₁ (.ref h'.objs.size) { s with heap := h'.push { cls := .type "tuple", data := .seq acc }, toks := tk }) :
    codeAny (model prog w) A (.call (.builtin "tuple.__new__") ⟨[.type "tuple", .ref r], []⟩) (wants Q₁ E) s := by
  refine codeAny_of_tree ?_
  show wpAny _ A.in1 (checkBuiltinCall "tuple.__new__" ⟨[.type "tuple", .ref r], []⟩ >>= fun _ => again (.builtin "tuple.__new__" ⟨[.type "tuple", .ref r], []⟩)) _ _ s
  refine wpAny_bind (wpAny_of_eq (F.newCall_tuple_1 _) (wpAny_pure ⟨plainId_quiet F.plain_tuple_new _, codeAny_builtin F.entry_tuple_new ?_⟩))
  rw [Around.under_plainId F.plain_tuple_new _]
  have b1 := sub_tuple_self
  have b2 := init_tuple_lookup
  have b3 := madeHere_tuple
  have hTI : s.TypeIs (.ref r) T := S.type s hok
  have hh1 : A.in1.handled = none := hh
  have put : ∀ (h' : Heap) (tk : Nat) (acc : Array Value), (∀ b o, s.heap.get? b = some o → h'.get? b = some o) → ItemsOf Pi acc n → ∀ (Qx : Value → Shared → Prop) (Ex : Value → Shared → Prop), Qx (.ref h'.objs.size) { s with heap := h'.push { cls := .type "tuple", data := .seq acc }, toks := tk } →
      wpAny (model prog w) A.in1 (Builtin.Tuple.tupleExact acc.toList.toArray) Qx Ex { s with heap := h', toks := tk } := fun h' tk acc hk hi Qx Ex q => by
    have e : acc.toList.toArray = acc := by simp
    unfold Builtin.Tuple.tupleExact
    rw [e]
    exact wpAny_newObj_type q (by show acc.size ≤ sizeLine; rw [hi.1]; exact hn)
  rcases hT with hT | hT <;> subst hT
  · wp_walk using wpAny_typeOf hTI, collect_src (A := A.in1) S hh1 hok hn
    intro h' tk acc hk hi
    refine wpAny_bind (wpAny_pure ?_)
    show wpAny _ _ (Builtin.Tuple.tupleExact acc.toList.toArray >>= fun z => ret z) _ _ _
    exact wpAny_bind (put h' tk acc hk hi _ _ (wpAny_pure (h h' tk acc hk hi)))
  · wp_walk using wpAny_typeOf hTI, collect_src (A := A.in1) S hh1 hok hn
    intro h' tk acc hk hi
    refine wpAny_bind (wpAny_pure ?_)
    show wpAny _ _ (Builtin.Tuple.tupleExact acc.toList.toArray >>= fun z => ret z) _ _ _
    exact wpAny_bind (put h' tk acc hk hi _ _ (wpAny_pure (h h' tk acc hk hi)))
theorem tuple_src {Q : Value → Shared → Prop} (S : PySem.W.KdlSrc prog w T r d n Pi OK) (hT : T = "dict" ∨ T = "dict_values") (hh : A.handled = none) (hok : OK s.heap) (hn : n ≤ sizeLine)
    (hQ : ∀ (h' : Heap) (tk : Nat) (acc : Array Value), (∀ b o, s.heap.get? b = some o → h'.get? b = some o) → ItemsOf Pi acc n → Q (.ref h'.objs.size) { s with heap := h'.push { cls := .type "tuple", data := .seq acc }, toks := tk }) :
    wpAny (model prog w) A (call (.type "tuple") [.ref r]) Q E s := by
  refine callType_codes (Q₁ := fun ob s₁ => s₁.TypeIs ob "tuple" ∧ Q ob s₁) F.called_tuple (F.typeCall_tuple_1 _) F.entry_object_init
    (tuple_new_src (A := A.in1) S hT hh hok hn fun h' tk acc hk hi => ⟨⟨_, Heap.get?_push_size _ rfl, rfl⟩, hQ h' tk acc hk hi⟩) fun ob s₁ h₁ => ?_
  exact ⟨h₁.1, F.args_object_init_2 ob _, object_init_meets F.called_tuple.init.lookup F.called_tuple.made (by decide) prog w A.in1 _ s₁ ⟨h₁.1, rfl, h₁.2⟩⟩
end
theorem keys_rel {kvs : List (Key × V)} {vs : List (Key × Value)} (r : KV kvs vs) {us : List Value} (hl : us.length = vs.length) (h : ∀ (j : Nat) (u : Value), us[j]? = some u → ∃ k x, vs[j]? = some (k, x) ∧ keyIs k u = true) : Vals (kvs.map fun kv => kV kv.1) us := by
  have hl2 : kvs.length = vs.length := Paired.length r
  refine vals_of_at (by rw [List.length_map, hl, hl2]) fun j x u h1 h2 => ?_
  obtain ⟨k, y, hk, hi⟩ := h j u h2
  rw [List.getElem?_map] at h1
  cases q : kvs[j]? with
  | none => rw [q] at h1; cases h1
  | some kv =>
    rw [q] at h1
    have e1 : (kvs.map (·.1))[j]? = some k := by rw [KV.keys r, List.getElem?_map, hk]; rfl
    rw [List.getElem?_map, q] at e1
    have e2 : kv.1 = k := Option.some.inj e1
    have e3 : kV kv.1 = x := Option.some.inj h1
    rw [← e3, e2]
    exact keyIs_rel hi
theorem vals_rel {kvs : List (Key × V)} {vs : List (Key × Value)} (r : KV kvs vs) {us : List Value} (hl : us.length = vs.length) (h : ∀ (j : Nat) (u : Value), us[j]? = some u → ∃ k, vs[j]? = some (k, u)) : Vals (kvs.map (·.2)) us := by
  have hl2 : kvs.length = vs.length := Paired.length r
  refine vals_of_at (by rw [List.length_map, hl, hl2]) fun j x u h1 h2 => ?_
  obtain ⟨k, hk⟩ := h j u h2
  rw [List.getElem?_map] at h1
  cases q : kvs[j]? with
  | none => rw [q] at h1; cases h1
  | some kv =>
    rw [q] at h1
    cases h1
    obtain ⟨y, e1, ry⟩ := kv_get r (k := kv.1) (v := kv.2) q
    rw [hk] at e1
    cases e1
    exact ry
section
variable {X : Cx}
theorem call_list_frz (hc : X.calm = true) : CallR X (.type "list") (fun xs H Q => ∃ d o kvs, xs = [V.ref d] ∧ H d = some (.frz o (.dK kvs)) ∧ ∀ q, H q = none → Q (.ref q) (upd H q (.lst (kvs.map fun kv => kV kv.1)))) := by
  intro pins s σ H xs us Q I r ⟨d, o, kvs, ex, hd, q⟩
  subst ex
  obtain ⟨u, rfl, rx⟩ := r.one
  cases rx
  obtain ⟨lo, ho, hx, es, ep, vs, hdt, hsz, kv, hm⟩ := I.frzK hd
  have hl : kvs.length = vs.length := Paired.length kv
  have hz : kvs.length ≤ sizeLine := (I.hok d _ hd).2.1
  refine PySem.W.kdl_call (PySem.W.kdl_dict (knd := mixKind X.prog X.w) lo) (I.ok.hd hc) hm (by rw [← hl]; exact hz) fun h' tk acc c' hk e hi => ?_
  have ev : Vals (kvs.map fun kv => kV kv.1) acc.toList := keys_rel kv (by rw [Array.length_toList, hi.1]) fun j u hu => hi.2 j u (by rw [← Array.getElem?_toList]; exact hu)
  exact ⟨.ref s.heap.objs.size, _, I.laid (t' := tk) hk (Nat.le_refl _) (show ObjOk X.prog X.w _ _ _ (.lst (kvs.map fun kv => kV kv.1)) from ⟨by rw [List.length_map]; exact hz, acc.toList, c', ev, by rw [Array.toArray_toList]; exact e⟩), rfl, q _ (I.hok.fresh (Nat.le_refl _))⟩
theorem call_tuple_frz (hc : X.calm = true) : CallR X (.type "tuple") (fun xs H Q => ∃ d o kvs, xs = [V.ref d] ∧ H d = some (.frz o (.dK kvs)) ∧ ∀ q, H q = none → Q (.ref q) (upd H q (.tup (kvs.map fun kv => kV kv.1)))) := by
  intro pins s σ H xs us Q I r ⟨d, o, kvs, ex, hd, q⟩
  subst ex
  obtain ⟨u, rfl, rx⟩ := r.one
  cases rx
  obtain ⟨lo, ho, hx, es, ep, vs, hdt, hsz, kv, hm⟩ := I.frzK hd
  have hl : kvs.length = vs.length := Paired.length kv
  have hz : kvs.length ≤ sizeLine := (I.hok d _ hd).2.1
  refine tuple_src (PySem.W.kdl_dict (knd := mixKind X.prog X.w) lo) (.inl rfl) (I.ok.hd hc) hm (by rw [← hl]; exact hz) fun h' tk acc hk hi => ?_
  have ev : Vals (kvs.map fun kv => kV kv.1) acc.toList := keys_rel kv (by rw [Array.length_toList, hi.1]) fun j u hu => hi.2 j u (by rw [← Array.getElem?_toList]; exact hu)
  have I1 : Inv X pins σ H { s with heap := h', toks := tk } := I.kept hk
  exact ⟨.ref h'.objs.size, _, I1.laid (t' := tk) (fun b o e => Heap.get?_push_of_some _ e) (Nat.le_refl _) (show ObjOk X.prog X.w _ _ _ (.tup (kvs.map fun kv => kV kv.1)) from ⟨by rw [List.length_map]; exact hz, acc.toList, ev, ⟨_, Heap.get?_push_size _ rfl, rfl, _, by rw [Array.toArray_toList]⟩⟩), rfl, q _ (I1.hok.fresh (Nat.le_refl _))⟩
/-- tuple(e.values()) -/
def tTupV (td : TE) : TE := fun σ H Q => td σ H fun x H1 => ∃ d o kvs, x = V.ref d ∧ H1 d = some (.frz o (.dK kvs)) ∧ ∀ q, H1 q = none → Q (.ref q) (upd H1 q (.tup (kvs.map (·.2))))
theorem pe_tupVals {e : Expr} {p pos apos mpos : Pos} {td : TE} (hc : X.calm = true) (hg : Gl X "tuple") (hm : X.mg "tuple" = none) (hd : PE X e td) (hbase : attributeBase e "values" X.env (eval e X.env) = eval e X.env) (hline : (apos.endLine == mpos.line) = true)
    (hse : starEach [Expr.Call (.Attribute e "values" apos) [] [] mpos] X.env = [(false, eval (Expr.Call (.Attribute e "values" apos) [] [] mpos) X.env)]) : PE X (.Call (.Name "tuple" p) [.Call (.Attribute e "values" apos) [] [] mpos] [] pos) (tTupV td) := by
  refine ⟨fun pins s σ H Q I' h => ?_⟩
  refine wpAny_Call_Name_kw (ld_blt I' hg hm (u := .type "tuple") boot_tuple ?_ (by decide) (by decide))
  rw [hse]
  refine PySem.callWith_type1 (wpAny_Call_method0_late hbase hline (thn (hd.run pins s σ H _ I' h) fun v s1 ⟨x, H1, I1, r1, d, o, kvs, ex, hd1, q⟩ => ?_))
  subst ex
  cases r1
  obtain ⟨lo, ho, hx, es, ep, vs, hdt, hsz, kv, hm1⟩ := I1.frzK hd1
  have hl : kvs.length = vs.length := Paired.length kv
  have hz : kvs.length ≤ sizeLine := (I1.hok d _ hd1).2.1
  refine ⟨"dict", "dict.values", F.plainAttrs_dict, F.slot_dict_values, F.type_dict_values, ⟨o, ho, hx.1⟩, fun b e => ?_, Calls.callWith_builtin rfl (PySem.evalArgs_none ?_)⟩
  · cases e
    exact ⟨o, ho, hx.2.1⟩
  refine call_meetsIn F.slot_dict_values ⟨o, ho, hx.1⟩ F.entry_dict_values (F.args_dict_values_1 _) (meets_dict_values (mixKind X.prog X.w) d lo) ⟨⟨vs, hm1.dictOf⟩, ?_⟩
  have k1 : ∀ b u, s1.heap.get? b = some u → (s1.heap.push { cls := .type "dict_values", data := .fields #[.ref d] }).get? b = some u := fun b u e => Heap.get?_push_of_some _ e
  have I2 : Inv X pins σ H1 { s1 with heap := s1.heap.push { cls := .type "dict_values", data := .fields #[.ref d] } } := I1.kept (t' := s1.toks) k1
  have hok : (s1.heap.push { cls := .type "dict_values", data := .fields #[.ref d] }).IsValuesView s1.heap.objs.size d ∧ (s1.heap.push { cls := .type "dict_values", data := .fields #[.ref d] }).DictAt (mixKind X.prog X.w) d vs ep := ⟨⟨_, Heap.get?_push_size _ rfl, rfl, rfl⟩, hm1.keep k1⟩
  refine tuple_src (PySem.W.kdl_values (knd := mixKind X.prog X.w)) (.inr rfl) (I1.ok.hd hc) hok (by rw [← hl]; exact hz) fun h' tk acc hk hi => ?_
  have ev : Vals (kvs.map (·.2)) acc.toList := vals_rel kv (by rw [Array.length_toList, hi.1]) fun j u hu => hi.2 j u (by rw [← Array.getElem?_toList]; exact hu)
  have I3 : Inv X pins σ H1 { s1 with heap := h', toks := tk } := I2.kept hk
  exact ⟨.ref h'.objs.size, _, I3.laid (t' := tk) (fun b o e => Heap.get?_push_of_some _ e) (Nat.le_refl _) (show ObjOk X.prog X.w _ _ _ (.tup (kvs.map (·.2))) from ⟨by rw [List.length_map]; exact hz, acc.toList, ev, ⟨_, Heap.get?_push_size _ rfl, rfl, _, by rw [Array.toArray_toList]⟩⟩), rfl, q _ (I3.hok.fresh (Nat.le_refl _))⟩
end
theorem IsL.keys {P : Program} {w : World} {C : Hp} {vs : List V} : ∀ {ks : List Key} {us : List V}, ks.length = us.length → IsL P w C (ks.map kD) ((ks.zip us).map fun kv => kV kv.1)
  | [], [], _ => rfl
  | k :: ks, u :: us, h => ⟨kV k, _, rfl, kD_is k, IsL.keys (vs := vs) (by simpa using h)⟩
theorem zip_snd {α β : Type} : ∀ {ks : List α} {us : List β}, ks.length = us.length → (ks.zip us).map (·.2) = us
  | [], [], _ => rfl
  | k :: ks, u :: us, h => by rw [List.zip_cons_cons, List.map_cons, zip_snd (by simpa using h)]
section
variable {X : Cx} {ds : List Sl} {a e : Expr} {p pos apos mpos : Pos}
theorem EvD.listK {ks : List Key} {xs : List Dt} (hc : X.calm = true) (ha : EvD X a ds (.dic ks xs)) (hm : X.mg "list" = none) (hg : Gl X "list" := by rfl) (hst : starEach [a] X.env = (false, eval a X.env) :: starEach [] X.env := by rfl) : EvD X (.Call (.Name "list" p) [a] [] pos) ds (.lst (ks.map kD)) :=
  .callTy (call_list_frz hc) hm boot_list (.cons ha .nil hst) (fun C H vs l i Q q => by
    obtain ⟨v, rfl, p1, o, us, rfl, r1, n1, j1⟩ := IsL.one' i
    exact ⟨p1, o, _, rfl, l.ex _ _ r1, fun q1 hq => q _ (upd C q1 (.lst _)) _ (.new l hq) (Is.lst' (IsL.keys (vs := us) n1))⟩) hg (hst := hst)
theorem EvD.tupK {ks : List Key} {xs : List Dt} (hc : X.calm = true) (ha : EvD X a ds (.dic ks xs)) (hm : X.mg "tuple" = none) (hg : Gl X "tuple" := by rfl) (hst : starEach [a] X.env = (false, eval a X.env) :: starEach [] X.env := by rfl) : EvD X (.Call (.Name "tuple" p) [a] [] pos) ds (.tup (ks.map kD)) :=
  .callTy (call_tuple_frz hc) hm boot_tuple (.cons ha .nil hst) (fun C H vs l i Q q => by
    obtain ⟨v, rfl, p1, o, us, rfl, r1, n1, j1⟩ := IsL.one' i
    exact ⟨p1, o, _, rfl, l.ex _ _ r1, fun q1 hq => q _ (upd C q1 (.tup _)) _ (.new l hq) (Is.tup' (IsL.keys (vs := us) n1))⟩) hg (hst := hst)
theorem EvD.tupVals {ks : List Key} {xs : List Dt} (hc : X.calm = true) (ha : EvD X e ds (.dic ks xs)) (hm : X.mg "tuple" = none) (hg : Gl X "tuple" := by rfl) (hbase : attributeBase e "values" X.env (eval e X.env) = eval e X.env := by rfl) (hline : (apos.endLine == mpos.line) = true := by rfl)
    (hse : starEach [Expr.Call (.Attribute e "values" apos) [] [] mpos] X.env = [(false, eval (Expr.Call (.Attribute e "values" apos) [] [] mpos) X.env)] := by rfl) : EvD X (.Call (.Name "tuple" p) [.Call (.Attribute e "values" apos) [] [] mpos] [] pos) ds (.tup xs) := fun C H σ S Q q =>
  peW (pe_tupVals hc hg hm wpE.pe hbase hline hse) (ha C H σ S _ fun v C1 H1 x1 i1 => by
    obtain ⟨d, o, us, rfl, r1, n1, j1⟩ := i1
    refine ⟨d, o, _, rfl, x1.le'.ex _ _ r1, fun q1 hq => ?_⟩
    rw [zip_snd n1]
    exact q _ (upd C1 q1 (.tup us)) _ (x1.trans (.new x1.le' hq)) (Is.tup' (IsL.mono (.new (x1.le'.dom q1 hq)) _ _ j1)))
/-- sorted(d), d's keys fewer than 64 texts -/
theorem EvD.sortedK {hs : List Str} {xs : List Dt} {ys : List Str} (hc : X.calm = true) (ha : EvD X a ds (.dic (hs.map .inr) xs)) (h64 : hs.length < 64) (hy : ∀ zs : List Str, zs.Perm hs → sortedS zs = true → zs = ys) (hm : X.mg "sorted" = none) (hg : Gl X "sorted" := by rfl) (hst : starEach [a] X.env = (false, eval a X.env) :: starEach [] X.env := by rfl) :
    EvD X (.Call (.Name "sorted" p) [a] [] pos) ds (.lst (ys.map .str)) :=
  .callB (call_sortedD hc) hm (by decide +kernel) (.cons ha .nil hst) (fun C H vs l i Q q => by
    obtain ⟨v, rfl, i1⟩ := IsL.one' i
    obtain ⟨p1, us, rfl, r1, n1, j1⟩ := i1.rd l
    refine ⟨p1, _, hs, rfl, r1, ?_, h64, fun zs p2 h1 h2 hp => ?_⟩
    · rw [List.map_fst_zip (by rw [n1]; exact Nat.le_refl _)]
    · rw [hy zs h1 h2]
      refine q _ (upd C p2 (.lst (ys.map V.str))) _ (.new l hp) (Is.lst' ?_)
      have : ∀ ws : List Str, IsLx X (upd C p2 (.lst (ys.map V.str))) (ws.map .str) (ws.map V.str) := fun ws => by
        induction ws with
        | nil => exact rfl
        | cons x r ih => exact ⟨_, _, rfl, rfl, ih⟩
      exact this ys) hg (hst := hst)
end
end K66
set_option maxHeartbeats 4000000
namespace K66
variable [TabAt]
open PySem PySem.Spec PyProof.Rows L2
mutual
/-- a key: none, a bool, an int, a text, a tuple of such, at most n deep -/
def kOk : Dt → Nat → Bool
  | .non, _ => true
  | .bl _, _ => true
  | .int _, _ => true
  | .str _, _ => true
  | .tup xs, n => decide (n ≠ 0) && kOkL xs (n - 1)
  | .lst _, _ => false
  | .dic _ _, _ => false
  | .nd _ _, _ => false
  | .obj _ _ _, _ => false
def kOkL : List Dt → Nat → Bool
  | [], _ => true
  | d :: ds, n => kOk d n && kOkL ds n
end
mutual
theorem kOk_depth : ∀ (d : Dt) (n : Nat), kOk d n = true → (nk d).depth ≤ n
  | .non, n, _ => Nat.zero_le _
  | .bl b, n, _ => Nat.zero_le _
  | .int _, n, _ => Nat.zero_le _
  | .str x, n, _ => Nat.zero_le _
  | .tup xs, n, h => by
    obtain ⟨h1, h2⟩ := Bool.and_eq_true_iff.mp (show (decide (n ≠ 0) && kOkL xs (n - 1)) = true from h)
    have h1 := of_decide_eq_true h1
    have := kOkL_depth xs (n - 1) h2
    show NestedKey.depthAll (nk.nks xs) + 1 ≤ n
    omega
theorem kOkL_depth : ∀ (ds : List Dt) (n : Nat), kOkL ds n = true → NestedKey.depthAll (nk.nks ds) ≤ n
  | [], n, _ => Nat.zero_le _
  | d :: ds, n, h => by
    obtain ⟨h1, h2⟩ := Bool.and_eq_true_iff.mp (show (kOk d n && kOkL ds n) = true from h)
    have a := kOk_depth d n h1
    have b := kOkL_depth ds n h2
    show max (nk d).depth (NestedKey.depthAll (nk.nks ds)) ≤ n
    omega
end
section
variable {P : Program} {w : World} {C H : Hp} {h : Heap}
mutual
theorem Is.nest (l : Le C H) (ok : HOk P w H h) : ∀ (d : Dt) (n : Nat) (v : V) (u : Value), kOk d n = true → Is P w C d v → RelV v u → NestedIs h (nk d) u
  | .non, n, v, u, _, i, r => by
    rw [show v = V.non from i] at r
    rw [show u = Value.none from r]
    exact .none
  | .bl b, n, v, u, _, i, r => by
    rw [show v = V.bl b from i] at r
    rw [show u = Value.bool b from r]
    exact .bool rfl
  | .int j, n, v, u, _, i, r => by
    rw [show v = V.int j from i] at r
    obtain ⟨t, rfl⟩ := r
    exact .int _ t
  | .str x, n, v, u, _, i, r => by
    rw [show v = V.str x from i] at r
    obtain ⟨t, rfl⟩ := r
    exact .text _ t
  | .tup xs, n, v, u, p, i, r => by
    obtain ⟨a, vs, rfl, e, q⟩ := i
    cases r
    obtain ⟨z, its, rv, o, ho, hc, m, hd⟩ := ok a _ (l.ex _ _ e)
    exact .tup ho hc hd (IsL.nest l ok xs (n - 1) vs its (Bool.and_eq_true_iff.mp (show (decide (n ≠ 0) && kOkL xs (n - 1)) = true from p)).2 q rv)
theorem IsL.nest (l : Le C H) (ok : HOk P w H h) : ∀ (ds : List Dt) (n : Nat) (vs : List V) (us : List Value), kOkL ds n = true → IsL P w C ds vs → Vals vs us → NestedAll h (nk.nks ds) us
  | [], n, vs, us, _, i, r => by
    rw [show vs = [] from i] at r
    cases r
    exact .nil
  | d :: ds, n, vs, us, p, i, r => by
    obtain ⟨v, rr, rfl, i1, i2⟩ := i
    obtain ⟨p1, p2⟩ := Bool.and_eq_true_iff.mp (show (kOk d n && kOkL ds n) = true from p)
    cases r with
    | cons r1 r2 => exact .cons (Is.nest l ok d n v _ p1 i1 r1) (IsL.nest l ok ds n rr _ p2 i2 r2)
end
end
def ndGet : List Dt → List Dt → NestedKey → Option Dt
  | k :: ks, v :: vs, q => if nk k = q then some v else ndGet ks vs q
  | _, _, _ => none
def ndHas : List Dt → NestedKey → Bool
  | k :: ks, q => decide (nk k = q) || ndHas ks q
  | [], _ => false
def ndRep : List Dt → List Dt → NestedKey → Dt → List Dt
  | k :: ks, v :: vs, q, d => (if nk k = q then d else v) :: ndRep ks vs q d
  | _, _, _, _ => []
def ndPutK (ks : List Dt) (k : Dt) : List Dt := if ndHas ks (nk k) = true then ks else ks ++ [k]
def ndPutV (ks vs : List Dt) (k d : Dt) : List Dt := if ndHas ks (nk k) = true then ndRep ks vs (nk k) d else vs ++ [d]
section
variable {P : Program} {w : World} {C : Hp}
theorem atKey_cons_eq {x : NE} {xs : List NE} {q : NestedKey} (h : x.1 = q) : atKey (x :: xs) q = some x.2 := by
  unfold atKey
  rw [List.find?_cons_of_pos (by exact decide_eq_true h)]
  rfl
theorem atKey_cons_ne {x : NE} {xs : List NE} {q : NestedKey} (h : ¬ x.1 = q) : atKey (x :: xs) q = atKey xs q := by
  unfold atKey
  rw [List.find?_cons_of_neg (by simpa using h)]
theorem ndGet_at : ∀ {ks vs : List Dt} {xs : List NE} {us : List V} {q : NestedKey} {d : Dt}, IsK P w C ks xs → Vals us (xs.map (·.2.2)) → IsL P w C vs us → ndGet ks vs q = some d → ∃ p u, atKey xs q = some p ∧ RelV u p.2 ∧ Is P w C d u
  | [], vs, xs, us, q, d, _, _, _, h => by cases vs <;> cases h
  | k :: ks, [], xs, us, q, d, _, _, _, h => by cases h
  | k :: ks, v :: vs, xs, us, q, d, hk, hv, hi, h => by
    obtain ⟨x, r, rfl, e, ik, hk⟩ := hk
    obtain ⟨u, ur, rfl, iu, hi⟩ := hi
    cases hv with
    | cons r1 r2 =>
      unfold ndGet at h
      by_cases hq : nk k = q
      · rw [if_pos hq] at h
        cases h
        exact ⟨x.2, u, atKey_cons_eq (e.trans hq), r1, iu⟩
      · rw [if_neg hq] at h
        rw [atKey_cons_ne (by rw [e]; exact hq)]
        exact ndGet_at hk r2 hi h
theorem ndHas_at : ∀ {ks : List Dt} {xs : List NE} {q : NestedKey}, IsK P w C ks xs → (atKey xs q).isSome = ndHas ks q
  | [], xs, q, hk => by rw [show xs = [] from hk]; rfl
  | k :: ks, xs, q, hk => by
    obtain ⟨x, r, rfl, e, ik, hk⟩ := hk
    unfold ndHas
    by_cases hq : nk k = q
    · rw [atKey_cons_eq (e.trans hq), decide_eq_true hq]; rfl
    · rw [atKey_cons_ne (by rw [e]; exact hq), decide_eq_false hq, Bool.false_or]
      exact ndHas_at hk
theorem ndRep_at : ∀ {ks vs : List Dt} {xs : List NE} {us : List V} {q : NestedKey} {d : Dt} {v : V} {u : Value}, IsK P w C ks xs → Vals us (xs.map (·.2.2)) → IsL P w C vs us → Is P w C d v → RelV v u →
    IsK P w C ks (xs.map (putAt q u)) ∧ ∃ us', Vals us' ((xs.map (putAt q u)).map (·.2.2)) ∧ IsL P w C (ndRep ks vs q d) us'
  | [], vs, xs, us, q, d, v, u, hk, hv, hi, id, r => by
    rw [show xs = [] from hk]
    exact ⟨rfl, [], .nil, by unfold ndRep; exact rfl⟩
  | k :: ks, [], xs, us, q, d, v, u, hk, hv, hi, id, r => by
    obtain ⟨x, rr, rfl, e, ik, hk⟩ := hk
    rw [show us = [] from hi] at hv
    cases hv
  | k :: ks, w' :: vs, xs, us, q, d, v, u, hk, hv, hi, id, r => by
    obtain ⟨x, rr, rfl, e, ik, hk⟩ := hk
    obtain ⟨u1, ur, rfl, iu, hi⟩ := hi
    cases hv with
    | cons r1 r2 =>
      obtain ⟨a, us', b, c⟩ := ndRep_at (q := q) hk r2 hi id r
      by_cases hq : x.1 = q
      · have e2 : putAt q u x = (x.1, x.2.1, u) := by unfold putAt; rw [if_pos hq]
        refine ⟨⟨_, _, rfl, by rw [e2]; exact e, by rw [e2]; exact ik, a⟩, v :: us', ?_, ?_⟩
        · rw [List.map_cons, List.map_cons, e2]; exact .cons r b
        · unfold ndRep; rw [if_pos (by rw [← e]; exact hq)]; exact ⟨_, _, rfl, id, c⟩
      · have e2 : putAt q u x = x := by unfold putAt; rw [if_neg hq]
        refine ⟨⟨_, _, rfl, by rw [e2]; exact e, by rw [e2]; exact ik, a⟩, u1 :: us', ?_, ?_⟩
        · rw [List.map_cons, List.map_cons, e2]; exact .cons r1 b
        · unfold ndRep; rw [if_neg (by rw [← e]; exact hq)]; exact ⟨_, _, rfl, iu, c⟩
theorem Vals.app1 : ∀ {vs : List V} {us : List Value} {v : V} {u : Value}, Vals vs us → RelV v u → Vals (vs ++ [v]) (us ++ [u])
  | _, _, _, _, .nil, r => .cons r .nil
  | _, _, _, _, .cons r1 r2, r => .cons r1 (Vals.app1 r2 r)
/-- the entries after a[k] = v -/
theorem ndPut_at {ks vs : List Dt} {xs : List NE} {us : List V} {k d : Dt} {b : Addr} {v : V} {u : Value} (hk : IsK P w C ks xs) (hv : Vals us (xs.map (·.2.2))) (hi : IsL P w C vs us) (ib : Is P w C k (.ref b)) (id : Is P w C d v) (r : RelV v u) :
    IsK P w C (ndPutK ks k) (storedH xs (nk k) b u) ∧ ∃ us', Vals us' ((storedH xs (nk k) b u).map (·.2.2)) ∧ IsL P w C (ndPutV ks vs k d) us' := by
  unfold storedH ndPutK ndPutV
  rw [ndHas_at hk]
  cases h : ndHas ks (nk k) with
  | true =>
    rw [if_pos rfl, if_pos rfl, if_pos rfl]
    exact ndRep_at hk hv hi id r
  | false =>
    rw [if_neg Bool.false_ne_true, if_neg Bool.false_ne_true, if_neg Bool.false_ne_true]
    refine ⟨hk.app ⟨_, [], rfl, rfl, ib, rfl⟩, us ++ [v], ?_, hi.app (.one id)⟩
    rw [List.map_append]
    exact Vals.app1 hv r
end
def KeysAt (P : Program) (w : World) (H : Hp) (xs : List NE) : Prop := ∀ h, HOk P w H h → ∀ x ∈ xs, (nestedKind P w).is h x.1 x.2.1
def KeyAt (P : Program) (w : World) (H : Hp) (k : NestedKey) (b : Addr) : Prop := ∀ h, HOk P w H h → (nestedKind P w).is h k b
section
variable {P : Program} {w : World} {C H : Hp}
theorem IsK.keysAt (l : Le C H) : ∀ {ks : List Dt} {xs : List NE}, kOkL ks 8 = true → IsK P w C ks xs → KeysAt P w H xs
  | [], xs, _, hk => fun h ok x hx => by rw [show xs = [] from hk] at hx; simp at hx
  | k :: ks, xs, p, hk => fun h ok x hx => by
    obtain ⟨y, r, rfl, e, ik, hk⟩ := hk
    obtain ⟨p1, p2⟩ := Bool.and_eq_true_iff.mp (show (kOk k 8 && kOkL ks 8) = true from p)
    rcases List.mem_cons.mp hx with z | z
    · rw [z, e]
      exact ⟨Is.nest l ok k 8 _ _ p1 ik rfl, kOk_depth k 8 p1⟩
    · exact IsK.keysAt l p2 hk h ok x z
theorem Is.keyAt (l : Le C H) {k : Dt} {b : Addr} (p : kOk k 8 = true) (i : Is P w C k (.ref b)) : KeyAt P w H (nk k) b := fun h ok => ⟨Is.nest l ok k 8 _ _ p i rfl, kOk_depth k 8 p⟩
theorem nd_new {h : Heap} {a : Addr} {xs : List NE} (h1 : xs.length ≤ sizeLine) (h2 : (a == sysModules) = false) (hm : h.DictOfH (nestedKind P w) a xs) : ObjOk P w H h a (ndO P w a xs) := by
  obtain ⟨o, es, ep, ho, hx, hd, he, _, hn⟩ := hm
  refine ⟨⟨h1, h2, hn, o, es, ep, ho, hx, hd, he⟩, ⟨o, ho⟩, fun g g' ⟨a1, a2, a3, o', es', ep', b1, b2⟩ k => ⟨a1, a2, a3, o', es', ep', k o' b1, b2⟩⟩
end
section
variable {X : Cx} {pins : List (Addr × Obj)} {σ : L2.St} {H : Hp} {s : Shared} {a : Addr} {xs : List NE}
theorem nd_read (I' : Inv X pins σ H s) (r : Rd H a (ndO X.prog X.w a xs)) (k : KeysAt X.prog X.w H xs) : s.heap.DictOfH (nestedKind X.prog X.w) a xs ∧ (a == sysModules) = false ∧ xs.length ≤ sizeLine := by
  obtain ⟨⟨h1, h2, hn, o, es, ep, ho, hx, hd, he⟩, _, _⟩ := r.ok I'.hok
  exact ⟨⟨o, es, ep, ho, hx, hd, he, k _ I'.hok, hn⟩, h2, h1⟩
theorem room8 (hu : X.A.units + 64 < cLine) : (nestedKind X.prog X.w).room X.A.in1 := by
  show X.A.units + 1 + 8 < cLine
  omega
/-- d[k] -/
def rIxN (P : Program) (w : World) : R2 := fun x y H Q => ∃ a b k xs p v, x = .ref a ∧ y = .ref b ∧ Rd H a (ndO P w a xs) ∧ KeysAt P w H xs ∧ KeyAt P w H k b ∧ atKey xs k = some p ∧ RelV v p.2 ∧ Q v H
theorem ix_nd (hu : X.A.units + 64 < cLine) : IxR X (rIxN X.prog X.w) := by
  intro value slice pins s σ H x y v u Q I' rx ry q hs
  obtain ⟨a, b, k, xs, p, z, rfl, rfl, hr, hk, hb, hp, rz, q⟩ := q
  cases rx
  cases ry
  obtain ⟨dd, h2, h1⟩ := nd_read I' hr hk
  refine subscriptTail_builtinR (x := p.2) dd.typeIs PySem.F.slot_dict_getitem.lookup ?_ hs
  exact wpAny_getItem_heap (room8 hu) (hb _ I'.hok) dd hp ⟨rfl, z, H, I'.tok _, rz, q⟩
/-- k in d, k not in d -/
def rInN (P : Program) (w : World) (no : Bool) : R2 := fun x y H Q => ∃ a b k xs, x = .ref b ∧ y = .ref a ∧ Rd H a (ndO P w a xs) ∧ KeysAt P w H xs ∧ KeyAt P w H k b ∧ Q (.bl (if no = true then !(atKey xs k).isSome else (atKey xs k).isSome)) H
theorem op_in_nd (hu : X.A.units + 64 < cLine) : OpR X (compareOp .In) (rInN X.prog X.w false) := by
  intro pins s σ H x y v u Q I' rx ry q
  obtain ⟨a, b, k, xs, rfl, rfl, hr, hk, hb, q⟩ := q
  cases rx
  cases ry
  obtain ⟨dd, h2, h1⟩ := nd_read I' hr hk
  exact wpAny_in_heap (room8 hu) (hb _ I'.hok) h2 dd ⟨.bl _, H, I'.tok _, rfl, q⟩
theorem op_notIn_nd (hu : X.A.units + 64 < cLine) : OpR X (compareOp .NotIn) (rInN X.prog X.w true) := by
  intro pins s σ H x y v u Q I' rx ry q
  obtain ⟨a, b, k, xs, rfl, rfl, hr, hk, hb, q⟩ := q
  cases rx
  cases ry
  obtain ⟨dd, h2, h1⟩ := nd_read I' hr hk
  refine PySem.notIn_keyed (room8 hu) (hb _ I'.hok) h2 ⟨xs, dd, rfl⟩ ?_
  rw [valueAt_pairsH, Option.isSome_map]
  exact ⟨.bl _, H, I'.tok _, rfl, q⟩
/-- d[k] = v -/
def rSetN (P : Program) (w : World) : TSet := fun o i v H Q => ∃ a b k xs, o = .ref a ∧ i = .ref b ∧ H a = some (ndO P w a xs) ∧ xs.length < sizeLine ∧ KeysAt P w H xs ∧ KeyAt P w H k b ∧ ∀ u, RelV v u → Q (upd H a (ndO P w a (storedH xs k b u)))
theorem storedH_len {xs : List NE} {k : NestedKey} {b : Addr} {u : Value} (h : xs.length < sizeLine) : (storedH xs k b u).length ≤ sizeLine := by
  unfold storedH
  split
  · rw [List.length_map]; omega
  · rw [List.length_append]; exact h
theorem set_nd (hu : X.A.units + 64 < cLine) : PSet X (rSetN X.prog X.w) := by
  intro pins s σ H x y v ov iv u Q I' rx ry rv q
  obtain ⟨a, b, k, xs, rfl, rfl, ha, hl, hk, hb, q⟩ := q
  cases rx
  cases ry
  obtain ⟨dd, h2, h1⟩ := nd_read I' (.inl ha) hk
  refine wpAny_setItem_heap (hsz := h1) (room8 hu) (hb _ I'.hok) dd fun h' hm hs => ?_
  have he : ∃ z, h'.get? a = some z := let ⟨z, _, _, hz, _⟩ := hm; ⟨z, hz⟩
  exact ⟨_, d_write I' (by rw [ha]; exact True.intro) hs he (nd_new (storedH_len hl) h2 hm), q u rv⟩
/-- len(d) -/
theorem call_lenN : CallR X (.builtin "len") (fun xs H Q => ∃ a es, xs = [V.ref a] ∧ Rd H a (ndO X.prog X.w a es) ∧ KeysAt X.prog X.w H es ∧ Q (.int es.length) H) := by
  intro pins s σ H xs us Q I' r h
  obtain ⟨a, es, rfl, ha, hk, q⟩ := h
  obtain ⟨u, rfl, ru⟩ := vals1 r
  cases ru
  obtain ⟨dd, h2, h1⟩ := nd_read I' ha hk
  exact PySem.call_len_dictH h2 dd (by rw [sizeLine_eq] at h1; omega) ⟨.int _, H, (I'.tok _), ⟨_, rfl⟩, q⟩
end
end K66
set_option maxHeartbeats 4000000
namespace K66
variable [TabAt]
open PySem PySem.Spec PyProof.Rows L2
theorem upd_self {H : Hp} {a : Addr} {o : HO} (h : H a = some o) : upd H a o = H := by
  funext b
  unfold upd
  split
  · rename_i e; rw [e, h]
  · rfl
section
variable {X : Cx}
theorem wpSs.lock {sts : List Stmt} {D : Ends} {σ : L2.St} {H : Hp} {a : Addr} {u : HO} (h : H a = some u) (mu : Mut (some u)) (q : ∀ od, wpSs X sts D σ (upd H a (.frz od u))) : wpSs X sts D σ H := ⟨fun pins s I' => by
  obtain ⟨od, I1⟩ := I'.lock h mu
  exact (q od).go pins s I1⟩
/-- evaluated while locked -/
theorem wpE.locked {e : Expr} {σ : L2.St} {H : Hp} {a : Addr} {u : HO} {Q : VK} (h : H a = some u) (mu : Mut (some u)) (q : ∀ od, wpE X e σ (upd H a (.frz od u)) fun v H' => H' a = some (.frz od u) ∧ Q v (upd H' a u)) : wpE X e σ H Q := ⟨fun pins s I' => by
  have hn := I'.nofrz h mu
  obtain ⟨od, I1⟩ := I'.lock h mu
  refine wpAny_mono ((q od).go pins s I1) (fun v s1 hq => ?_) fun _ _ z => z
  obtain ⟨x, H1, I2, r, e2, q⟩ := hq
  exact ⟨x, _, I2.unlock e2 hn, r, q⟩⟩
theorem wpT.locked {e : Expr} {σ : L2.St} {H : Hp} {a : Addr} {u : HO} {Q : Bool → Hp → Prop} (h : H a = some u) (mu : Mut (some u)) (q : ∀ od, wpT X e σ (upd H a (.frz od u)) fun v H' => H' a = some (.frz od u) ∧ Q v (upd H' a u)) : wpT X e σ H Q := ⟨fun pins s I' => by
  have hn := I'.nofrz h mu
  obtain ⟨od, I1⟩ := I'.lock h mu
  refine wpAny_mono ((q od).go pins s I1) (fun v s1 hq => ?_) fun _ _ z => z
  obtain ⟨H1, I2, e2, q⟩ := hq
  exact ⟨_, I2.unlock e2 hn, q⟩⟩
/-- what is made is locked at once -/
theorem wpE.lockNew {e : Expr} {σ : L2.St} {H : Hp} {Q : VK} (q : wpE X e σ H fun v H' => ∃ a u, v = .ref a ∧ H' a = some u ∧ Mut (some u) ∧ ∀ od, Q v (upd H' a (.frz od u))) : wpE X e σ H Q := ⟨fun pins s I' =>
  wpAny_mono (q.go pins s I') (fun v s1 hq => by
    obtain ⟨x, H1, I2, r, a, u, ev, h, mu, q⟩ := hq
    obtain ⟨od, I3⟩ := I2.lock h mu
    exact ⟨x, _, I3, r, q od⟩) fun _ _ z => z⟩
end
mutual
def noDic : Dt → Bool
  | .lst xs => noDicL xs
  | .tup xs => noDicL xs
  | .obj _ _ d => noDic d
  | .dic _ _ => false
  | .nd _ _ => false
  | _ => true
def noDicL : List Dt → Bool
  | [] => true
  | d :: ds => noDic d && noDicL ds
end
/-- the core without a -/
def del (C : Hp) (a : Addr) : Hp := fun b => if b = a then none else C b
theorem del_ne {C : Hp} {a b : Addr} (h : b ≠ a) : del C a b = C b := by unfold del; rw [if_neg h]
section
variable {P : Program} {w : World} {C : Hp} {a : Addr} {od : Obj} {u : HO}
mutual
theorem Is.del (h : C a = some (.frz od u)) : ∀ (d : Dt) (v : V), noDic d = true → Is P w C d v → Is P w (del C a) d v
  | .non, _, _, i => i
  | .bl _, _, _, i => i
  | .int _, _, _, i => i
  | .str _, _, _, i => i
  | .lst xs, v, p, i => by
    obtain ⟨b, vs, e, r, q⟩ := i
    exact ⟨b, vs, e, by rw [del_ne (ne_of r h fun z => nomatch z)]; exact r, IsL.del h xs vs p q⟩
  | .tup xs, v, p, i => by
    obtain ⟨b, vs, e, r, q⟩ := i
    exact ⟨b, vs, e, by rw [del_ne (ne_of r h fun z => nomatch z)]; exact r, IsL.del h xs vs p q⟩
  | .obj c f d, v, p, i => by
    obtain ⟨b, dx, z, e, r, q⟩ := i
    exact ⟨b, dx, z, e, by rw [del_ne (ne_of r h fun z => nomatch z)]; exact r, Is.del h d z p q⟩
theorem IsL.del (h : C a = some (.frz od u)) : ∀ (ds : List Dt) (vs : List V), noDicL ds = true → IsL P w C ds vs → IsL P w (del C a) ds vs
  | [], _, _, i => i
  | d :: ds, _, p, i => by
    obtain ⟨v, r, e, i1, i2⟩ := i
    obtain ⟨p1, p2⟩ := Bool.and_eq_true_iff.mp (show (noDic d && noDicL ds) = true from p)
    exact ⟨v, r, e, Is.del h d v p1 i1, IsL.del h ds r p2 i2⟩
end
end
/-- back from a locked evaluation -/
theorem Stp.back {C H C1 H1 : Hp} {a : Addr} {o u : HO} (hc : C a = none) (h : H a = some u) (x : Stp (upd C a o) (upd H a o) C1 H1) (ho : ∀ ps, o ≠ .tbl ps := by intro _ z; first | cases z | exact nomatch z) (hx : ∀ φ, o ≠ .ext φ := by intro _ z; first | cases z | exact nomatch z) : Stp C H (del C1 a) (upd H1 a u) := by
  have ca : C1 a = some o := x.le.ex _ _ upd_same
  have hpt : TabAt.pt ≠ a := fun e => by
    have q := x.le'.mrk
    rw [e, ca] at q
    exact ho _ (Option.some.inj q)
  refine ⟨⟨fun b z e => ?_⟩, ⟨fun b z n e => ?_, ?_, ?_, fun b ps e => ?_⟩, fun b z cb e => ?_, fun b e => ?_, fun b e n => ?_⟩
  · have hb : b ≠ a := ne_of_none e hc
    rw [del_ne hb]
    exact x.le.ex _ _ (by rw [upd_ne hb]; exact e)
  · by_cases hb : b = a
    · rw [hb] at e; unfold del at e; rw [if_pos rfl] at e; cases e
    · rw [del_ne hb] at e; rw [upd_ne hb]; exact x.le'.ex' _ _ n e
  · rw [del_ne hpt]; exact x.le'.mrk
  · obtain ⟨ps, h1, h2, h3⟩ := x.le'.tb
    refine ⟨ps, by rw [upd_ne hpt]; exact h1, h2, fun pos cv z => ?_⟩
    obtain ⟨c, e1, e2⟩ := h3 pos cv z
    refine ⟨c, e1, ?_⟩
    rw [del_ne fun e => ?_]
    · exact e2
    · rw [e, ca] at e2
      exact hx _ (Option.some.inj e2)
  · by_cases hb : b = a
    · rw [hb] at e; unfold del at e; rw [if_pos rfl] at e; cases e
    · rw [del_ne hb] at e; exact x.le'.no b ps e
  · by_cases hb : b = a
    · rw [hb] at e ⊢; rw [upd_same]; rw [h] at e; exact e
    · rw [upd_ne hb]; exact x.same _ _ (by rw [upd_ne hb]; exact cb) (by rw [upd_ne hb]; exact e)
  · by_cases hb : b = a
    · rw [hb, upd_same]; exact fun z => nomatch z
    · rw [upd_ne hb]; exact x.th b (by rw [upd_ne hb]; exact e)
  · by_cases hb : b = a
    · rw [hb]; unfold del; rw [if_pos rfl]
    · rw [del_ne hb]
      exact x.hid b (by rw [upd_ne hb]; exact e) (by rw [upd_ne hb]; exact n)
/-- an own thing as data -/
def asD : Sl → Option Dt
  | .ol xs => some (.lst xs)
  | .ok ks vs => some (.dic ks vs)
  | .on ks vs => some (.nd ks vs)
  | _ => none
def isDict : Sl → Bool
  | .ok _ _ => true
  | .on _ _ => true
  | _ => false
/-- the object of an own dict -/
theorem SlF.dict {P : Program} {w : World} {C H : Hp} {s : Sl} {v : Option V} {fp : List Addr} {d : Dt} (hd : isDict s = true) (ha : asD s = some d) (h : SlF P w C H s v fp) : ∃ a u, fp = [a] ∧ v = some (.ref a) ∧ C a = none ∧ H a = some u ∧ Mut (some u) ∧
    ∀ od C', Lw (upd C a (.frz od u)) C' → Is P w C' d (.ref a) := by
  cases s with
  | ok ks vs =>
    cases ha
    obtain ⟨a, us, e1, e2, hc, hh, hl, i⟩ := h
    exact ⟨a, _, e1, e2, hc, hh, True.intro, fun od C' l => ⟨a, od, us, rfl, l.ex _ _ upd_same, hl, IsL.mono ((Lw.new hc).trans l) _ _ i⟩⟩
  | on ks vs =>
    cases ha
    obtain ⟨a, xs, us, e1, e2, hc, hh, hk, hv, i⟩ := h
    exact ⟨a, _, e1, e2, hc, hh, True.intro, fun od C' l => ⟨a, od, xs, us, rfl, l.ex _ _ upd_same, IsK.mono ((Lw.new hc).trans l) _ _ hk, hv, IsL.mono ((Lw.new hc).trans l) _ _ i⟩⟩
  | _ => cases hd
section
variable {X : Cx} {ds : List Sl} {e : Expr} {d : Dt}
theorem SD.view {C H : Hp} {σ : L2.St} {i : Nat} {s : Sl} {dd : Dt} (S : SDx X C H σ ds) (hs : ds[i]? = some s) (hd : isDict s = true) (ha : asD s = some dd) : ∃ a u, C a = none ∧ H a = some u ∧ Mut (some u) ∧ ∀ od, SDx X (upd C a (.frz od u)) (upd H a (.frz od u)) σ (ds.set i (.d dd)) := by
  obtain ⟨f, S⟩ := S
  obtain ⟨a, u, e1, e2, hc, hh, mu, k⟩ := (S.sl i s hs).dict hd ha
  refine ⟨a, u, hc, hh, mu, fun od => ⟨_, (S.inn (Vw := fun b => b = a) (.inn S.le hc rfl) (fun b e => ?_) e2 (k od _ (.refl _))).any⟩⟩
  rw [e, e1]; exact List.mem_singleton.mpr rfl
/-- an own dict read as data -/
theorem EvD.view (i : Nat) {s : Sl} {dd : Dt} (hs : ds[i]? = some s) (h : EvD X e (ds.set i (.d dd)) d) (hn : noDic d = true := by rfl) (hd : isDict s = true := by rfl) (ha : asD s = some dd := by rfl) : EvD X e ds d := fun C H σ S Q q => by
  obtain ⟨a, u, hc, hh, mu, S'⟩ := SD.view S hs hd ha
  exact wpE.locked hh mu fun od => h _ _ σ (S' od) _ fun v C1 H1 x1 i1 => ⟨x1.le'.ex _ _ (x1.le.ex _ _ upd_same), q v _ _ (x1.back hc hh) (Is.del (x1.le.ex _ _ upd_same) d v hn i1)⟩
theorem EvT.view (i : Nat) {s : Sl} {dd : Dt} {k : Bool} (hs : ds[i]? = some s) (h : EvT X e (ds.set i (.d dd)) k) (hd : isDict s = true := by rfl) (ha : asD s = some dd := by rfl) : EvT X e ds k := fun C H σ S Q q => by
  obtain ⟨a, u, hc, hh, mu, S'⟩ := SD.view S hs hd ha
  exact wpT.locked hh mu fun od => h _ _ σ (S' od) _ fun C1 H1 x1 => ⟨x1.le'.ex _ _ (x1.le.ex _ _ upd_same), q _ _ (x1.back hc hh)⟩
/-- an own dict given away: data from now on -/
theorem Ss.rel (i : Nat) {s : Sl} {dd : Dt} {sts : List Stmt} {Ψ : Res → Prop} (hs : ds[i]? = some s) (h : Ss X sts (ds.set i (.d dd)) Ψ) (hd : isDict s = true := by rfl) (ha : asD s = some dd := by rfl) : Ss X sts ds Ψ := fun W C0 H0 C H σ D x ⟨f, S⟩ q => by
  obtain ⟨a, u, e1, e2, hc, hh, mu, k⟩ := (S.sl i s hs).dict hd ha
  have hw : W a ∨ H0 a = none := S.new i a (by rw [e1]; exact List.mem_singleton.mpr rfl)
  refine wpSs.lock hh mu fun od => ?_
  have y : Stw (fun b => b = a) C H (upd C a (.frz od u)) (upd H a (.frz od u)) := .inn S.le hc rfl
  exact h W C0 H0 _ _ σ D (x.old y fun b e => by rw [e]; exact hw) ⟨_, S.inn y (fun b e => by rw [e, e1]; exact List.mem_singleton.mpr rfl) e2 (k od _ (.refl _))⟩ fun r hr => (q r hr).later y.prg
/-- an own list given away -/
theorem Ss.relL (i : Nat) {xs : List Dt} {sts : List Stmt} {Ψ : Res → Prop} (hs : ds[i]? = some (.ol xs)) (h : Ss X sts (ds.set i (.d (.lst xs))) Ψ) : Ss X sts ds Ψ := fun W C0 H0 C H σ D x ⟨f, S⟩ q => by
  obtain ⟨a, vs, e1, e2, hc, hh, hi⟩ := S.sl i _ hs
  have hw : W a ∨ H0 a = none := S.new i a (by rw [e1]; exact List.mem_singleton.mpr rfl)
  have y : Stw (fun b => b = a) C H (upd C a (.lst vs)) (upd H a (.lst vs)) := .inn S.le hc rfl
  rw [upd_self hh] at y
  exact h W C0 H0 _ _ σ D (x.old y fun b e => by rw [e]; exact hw) ⟨_, S.inn y (fun b e => by rw [e, e1]; exact List.mem_singleton.mpr rfl) e2 ⟨a, vs, rfl, upd_same, IsL.mono y.le _ _ hi⟩⟩ fun r hr => (q r hr).later y.prg
end
end K66
set_option maxHeartbeats 4000000
namespace K66
variable [TabAt]
open PySem PySem.Spec PyProof.Rows L2
theorem nd1 (a : Addr) : [a].Nodup := by simp
def dGet : List Key → List Dt → Key → Option Dt
  | k :: ks, v :: vs, q => if k = q then some v else dGet ks vs q
  | _, _, _ => none
section
variable {P : Program} {w : World} {C : Hp}
theorem dGet_at : ∀ {ks : List Key} {xs : List Dt} {us : List V} {q : Key}, IsL P w C xs us → ks.length = us.length → (∀ d, dGet ks xs q = some d → ∃ v, valV (ks.zip us) q = some v ∧ Is P w C d v) ∧ (dGet ks xs q = none → valV (ks.zip us) q = none)
  | [], xs, us, q, i, hl => by
    have : us = [] := List.eq_nil_of_length_eq_zero hl.symm
    subst this
    exact ⟨fun d h => (by cases xs <;> cases h), fun _ => rfl⟩
  | k :: ks, [], us, q, i, hl => by rw [show us = [] from i] at hl; simp at hl
  | k :: ks, x :: xs, us, q, i, hl => by
    obtain ⟨u, r, rfl, i1, i2⟩ := i
    have ih := dGet_at (q := q) i2 (by simpa using hl)
    rw [List.zip_cons_cons]
    unfold dGet
    by_cases e : k = q
    · rw [if_pos e, valV_pos (show ((k, u) : Key × V).1 = q from e)]
      exact ⟨fun d h => by cases h; exact ⟨u, rfl, i1⟩, fun h => by cases h⟩
    · rw [if_neg e, valV_neg (show ¬ ((k, u) : Key × V).1 = q from e)]
      exact ih
theorem DGet.d {H : Hp} {a : Addr} {ks : List Key} {us : List V} {q : Key} (r : Rd H a (.dK (ks.zip us))) : DGet H a (kV q) (valV (ks.zip us) q) := .inl ⟨_, q, r, rfl, rfl⟩
theorem kV_of {k : Key} {v : V} (h : Is P w C (kD k) v) : v = kV k := by cases k <;> exact h
end
section
variable {X : Cx} {ds : List Sl} {a b e : Expr} {pos p apos cpos : Pos} {d z : Dt}
theorem EvD.getK {ks : List Key} {xs : List Dt} {k : Key} (hu : X.A.units + 64 < cLine) (ha : EvD X a ds (.dic ks xs)) (hb : EvD X b ds (kD k)) (h : dGet ks xs k = some z) (hs : NoSl b := by exact fun _ _ => rfl) : EvD X (.Subscript a b pos) ds z := fun C H σ S Q q =>
  peW (pe_dget (by omega) wpE.pe wpE.pe hs) (two ha hb S fun v u C1 H1 x1 i1 i2 => by
    obtain ⟨p1, us, rfl, r1, n1, j1⟩ := i1.rd x1.le'
    rw [kV_of i2]
    obtain ⟨y, hy, iy⟩ := (dGet_at j1 n1).1 z h
    exact ⟨p1, y, rfl, by rw [← hy]; exact DGet.d r1, q y C1 H1 x1 iy⟩)
theorem dGet_some {P : Program} {w : World} {C : Hp} {ks : List Key} {xs : List Dt} {us : List V} {q : Key} (i : IsL P w C xs us) (n : ks.length = us.length) : (valV (ks.zip us) q).isSome = (dGet ks xs q).isSome := by
  obtain ⟨h1, h2⟩ := dGet_at (q := q) i n
  cases e : dGet ks xs q with
  | none => rw [h2 e]; rfl
  | some d => obtain ⟨v, hv, _⟩ := h1 d e; rw [hv]; rfl
theorem EvC.inK {ks : List Key} {xs : List Dt} {k : Key} (hu : X.A.units + 64 < cLine) (ha : EvD X a ds (kD k)) (hb : EvD X b ds (.dic ks xs)) : EvC X .In a b ds (dGet ks xs k).isSome := fun C H σ S Q q =>
  pcW (pc_din (by omega) wpE.pe wpE.pe) (two ha hb S fun v u C1 H1 x1 i1 i2 => by
    obtain ⟨p1, us, rfl, r1, n1, j1⟩ := i2.rd x1.le'
    rw [kV_of i1]
    refine ⟨p1, _, rfl, DGet.d r1, ?_⟩
    rw [dGet_some j1 n1]
    exact q C1 H1 x1)
theorem EvC.notInK {ks : List Key} {xs : List Dt} {k : Key} (hu : X.A.units + 64 < cLine) (ha : EvD X a ds (kD k)) (hb : EvD X b ds (.dic ks xs)) : EvC X .NotIn a b ds (!(dGet ks xs k).isSome) := fun C H σ S Q q =>
  pcW (pc_dnotin (by omega) wpE.pe wpE.pe) (two ha hb S fun v u C1 H1 x1 i1 i2 => by
    obtain ⟨p1, us, rfl, r1, n1, j1⟩ := i2.rd x1.le'
    rw [kV_of i1]
    refine ⟨p1, _, rfl, DGet.d r1, ?_⟩
    rw [dGet_some j1 n1]
    exact q C1 H1 x1)
/-- keys of any depth -/
theorem EvD.getN {ks vs ts : List Dt} (hu : X.A.units + 64 < cLine) (ha : EvD X a ds (.nd ks vs)) (hb : EvD X b ds (.tup ts)) (h : ndGet ks vs (nk (.tup ts)) = some z) (hk : kOkL ks 8 = true) (ht : kOk (.tup ts) 8 = true) (hs : PlainIx b := by exact fun _ _ => rfl) : EvD X (.Subscript a b pos) ds z :=
  .ix (ix_nd hu) ha hb hs fun C H v u l i1 i2 Q q => by
    obtain ⟨p1, o, xs, us, rfl, r1, k1, v1, j1⟩ := i1
    obtain ⟨y, u', h1, h2, h3⟩ := ndGet_at k1 v1 j1 h
    have i2' := i2
    obtain ⟨p2, ws, rfl, r2, j2⟩ := i2
    exact ⟨p1, p2, _, xs, y, u', rfl, rfl, .inr ⟨o, l.ex _ _ r1⟩, k1.keysAt l hk, Is.keyAt l ht i2', h1, h2, q u' C H (.refl l) h3⟩
theorem EvC.inN {ks vs ts : List Dt} (hu : X.A.units + 64 < cLine) (ha : EvD X a ds (.tup ts)) (hb : EvD X b ds (.nd ks vs)) (hk : kOkL ks 8 = true) (ht : kOk (.tup ts) 8 = true) : EvC X .In a b ds (ndHas ks (nk (.tup ts))) :=
  .of (op_in_nd hu) ha hb fun C H v u l i1 i2 Q q => by
    obtain ⟨p1, o, xs, us, rfl, r1, k1, v1, j1⟩ := i2
    have i1' := i1
    obtain ⟨p2, ws, rfl, r2, j2⟩ := i1
    refine ⟨p1, p2, _, xs, rfl, rfl, .inr ⟨o, l.ex _ _ r1⟩, k1.keysAt l hk, Is.keyAt l ht i1', ?_⟩
    rw [if_neg Bool.false_ne_true, ndHas_at k1]
    exact q C H (.refl l)
theorem EvC.notInN {ks vs ts : List Dt} (hu : X.A.units + 64 < cLine) (ha : EvD X a ds (.tup ts)) (hb : EvD X b ds (.nd ks vs)) (hk : kOkL ks 8 = true) (ht : kOk (.tup ts) 8 = true) : EvC X .NotIn a b ds (!ndHas ks (nk (.tup ts))) :=
  .of (op_notIn_nd hu) ha hb fun C H v u l i1 i2 Q q => by
    obtain ⟨p1, o, xs, us, rfl, r1, k1, v1, j1⟩ := i2
    have i1' := i1
    obtain ⟨p2, ws, rfl, r2, j2⟩ := i1
    refine ⟨p1, p2, _, xs, rfl, rfl, .inr ⟨o, l.ex _ _ r1⟩, k1.keysAt l hk, Is.keyAt l ht i1', ?_⟩
    rw [if_pos rfl, ndHas_at k1]
    exact q C H (.refl l)
theorem EvD.lenN {ks vs : List Dt} (ha : EvD X a ds (.nd ks vs)) (hk : kOkL ks 8 = true) (hm : X.mg "len" = none) (hg : Gl X "len" := by rfl) (hst : starEach [a] X.env = (false, eval a X.env) :: starEach [] X.env := by rfl) : EvD X (.Call (.Name "len" p) [a] [] pos) ds (.int (ks.length : Nat)) :=
  .callB call_lenN hm boot_len (.cons ha .nil hst) (fun C H vs l i Q q => by
    obtain ⟨v, rfl, p1, o, xs, us, rfl, r1, k1, v1, j1⟩ := IsL.one' i
    exact ⟨p1, xs, rfl, .inr ⟨o, l.ex _ _ r1⟩, k1.keysAt l hk, by rw [k1.len]; exact q _ C H (.refl l) rfl⟩) hg (hst := hst)
theorem nameW {i : Nat} {x : Str} {σ : L2.St} {H : Hp} {v : V} {Q : VK} (h : (σ[i]?).join = some v) (q : Q v H) (hN : X.N[i]? = some x := by rfl) (hv : Vis X.env.scope x := by first | exact Or.inl rfl | exact Or.inr (Or.inl rfl) | exact Or.inr (Or.inr rfl))
    (hd : (x == ("__debug__" : Str)) = false := by decide) (hcd : (x == ("__classdict__" : Str)) = false := by decide) : wpE X (.Name x pos) σ H Q := peW (pe_var hN hv hd hcd) ⟨v, Option.join_eq_some_iff.mp h, q⟩
/-- an own list: its length, an item, whether it is empty -/
theorem SD.lst {C H : Hp} {σ : L2.St} {i : Nat} {xs : List Dt} (S : SDx X C H σ ds) (hs : ds[i]? = some (.ol xs)) : ∃ a vs, (σ[i]?).join = some (.ref a) ∧ C a = none ∧ H a = some (.lst vs) ∧ IsLx X C xs vs := by
  obtain ⟨f, a, vs, e1, e2, hc, hh, hi⟩ := S.sl i _ hs
  exact ⟨a, vs, e2, hc, hh, hi⟩
theorem EvD.lenO (i : Nat) {x : Str} {q1 : Pos} {xs : List Dt} (hs : ds[i]? = some (.ol xs)) (hm : X.mg "len" = none) (hN : X.N[i]? = some x := by rfl) (hv : Vis X.env.scope x := by first | exact Or.inl rfl | exact Or.inr (Or.inl rfl) | exact Or.inr (Or.inr rfl)) (hg : Gl X "len" := by rfl)
    (hd : (x == ("__debug__" : Str)) = false := by decide) (hcd : (x == ("__classdict__" : Str)) = false := by decide) (hst : starEach [Expr.Name x q1] X.env = (false, eval (.Name x q1) X.env) :: starEach [] X.env := by rfl) : EvD X (.Call (.Name "len" p) [.Name x q1] [] pos) ds (.int (xs.length : Nat)) := fun C H σ S Q q => by
  obtain ⟨a, vs, e, hc, hh, hi⟩ := S.lst hs
  refine peW (pe_callB call_len_seq hg hm boot_len (pa_cons wpE.pe pa_nil hst) (by decide) (by decide) hst) (nameW e ?_ hN hv hd hcd)
  exact ⟨a, vs, rfl, .inl (.inl (.inl hh)), by rw [hi.len]; exact q _ C H (.refl S.le) rfl⟩
theorem EvD.ixO (i : Nat) {x : Str} {q1 : Pos} {xs : List Dt} {n : Nat} (hs : ds[i]? = some (.ol xs)) (hb : EvD X b ds (.int (n : Nat))) (h : xs[n]? = some z) (hN : X.N[i]? = some x := by rfl) (hv : Vis X.env.scope x := by first | exact Or.inl rfl | exact Or.inr (Or.inl rfl) | exact Or.inr (Or.inr rfl))
    (hd : (x == ("__debug__" : Str)) = false := by decide) (hcd : (x == ("__classdict__" : Str)) = false := by decide) (hp : PlainIx b := by exact fun _ _ => rfl) : EvD X (.Subscript (.Name x q1) b pos) ds z := fun C H σ S Q q => by
  obtain ⟨a, vs, e, hc, hh, hi⟩ := S.lst hs
  refine peW (pe_ix ix_list wpE.pe wpE.pe hp) (nameW e ?_ hN hv hd hcd)
  refine hb C H σ S _ fun u C1 H1 x1 i1 => ?_
  obtain ⟨y, hy, iy⟩ := hi.get h
  exact ⟨a, vs, (n : Nat), y, rfl, i1, .inl (.inl (x1.same _ _ hc hh)), atI_nat hy, q y C1 H1 x1 (Is.mono x1.le _ _ iy)⟩
/-- an own list walked while nothing is written -/
theorem EvI.own (i : Nat) {x : Str} {tg : Expr} {q1 : Pos} {xs : List Dt} (hs : ds[i]? = some (.ol xs)) (hN : X.N[i]? = some x := by rfl) (hv : Vis X.env.scope x := by first | exact Or.inl rfl | exact Or.inr (Or.inl rfl) | exact Or.inr (Or.inr rfl))
    (hd : (x == ("__debug__" : Str)) = false := by decide) (hcd : (x == ("__classdict__" : Str)) = false := by decide) : EvI X (fun _ => False) tg (.Name x q1) ds xs := fun C H σ S R q => by
  obtain ⟨a, vs, e, hc, hh, hi⟩ := S.lst hs
  exact piW (pi_list wpE.pe) (nameW e ⟨a, rfl, ⟨vs, .inl (.inl hh)⟩, q _ C H (.refl S.le) (.own hc hh hi)⟩ hN hv hd hcd)
theorem EvO.nilL : EvO X (.List [] pos) ds (.ol []) := fun C H σ S Q q =>
  peW (pe_lst pa_nil) ⟨by decide, fun a ha => q _ C _ [a] (.only S.le (same_new ha)) ⟨a, [], rfl, rfl, S.le.dom a ha, upd_same, rfl⟩ (nd1 a) fun b hb => by rw [List.mem_singleton.mp hb]; exact ha⟩
theorem EvO.newK : EvO X (.Dict [] [] pos) ds (.ok [] []) := fun C H σ S Q q =>
  peW pe_dnewK fun a ha => q _ C _ [a] (.only S.le (same_new ha)) ⟨a, [], rfl, rfl, S.le.dom a ha, upd_same, rfl, rfl⟩ (nd1 a) fun b hb => by rw [List.mem_singleton.mp hb]; exact ha
def tNewN (P : Program) (w : World) : TE := fun _ H Q => ∀ a, H a = none → Q (.ref a) (upd H a (ndO P w a []))
theorem pe_dnewN : PE X (.Dict [] [] pos) (tNewN X.prog X.w) := ⟨fun pins s σ H Q I' q => by
  have hb : (s.heap.objs.size == sysModules) = false := beq_eq_false_iff_ne.mpr (Ne.symm (Nat.ne_of_lt I'.big))
  have dd : (s.heap.push { cls := .type "dict", data := .dict #[] }).DictOfH (nestedKind X.prog X.w) s.heap.objs.size [] := ⟨_, #[], 0, Heap.get?_push_size _ rfl, ⟨rfl, rfl, rfl⟩, rfl, rfl, (fun _ z => by simp at z), List.nodup_nil⟩
  exact wpAny_Dict_empty ⟨.ref s.heap.objs.size, _, I'.laid (a := s.heap.objs.size) (t' := s.toks) (fun _ _ z => Heap.get?_push_of_some _ z) (Nat.le_refl _) (nd_new (Nat.zero_le _) hb dd), rfl, q _ (I'.hok.fresh (Nat.le_refl _))⟩⟩
theorem EvO.newN : EvO X (.Dict [] [] pos) ds (.on [] []) := fun C H σ S Q q =>
  peW pe_dnewN fun a ha => q _ C _ [a] (.only S.le (same_new ha)) ⟨a, [], [], rfl, rfl, S.le.dom a ha, upd_same, rfl, .nil, rfl⟩ (nd1 a) fun b hb => by rw [List.mem_singleton.mp hb]; exact ha
theorem own_put {W : Addr → Prop} {C0 H0 C H : Hp} {σ : L2.St} {f : Nat → List Addr} {i : Nat} {a : Addr} {o : HO} {s' : Sl} (x : Stw W C0 H0 C H) (S : SWf X.prog X.w W H0 C H σ ds f) (ha : f i = [a]) (hc : C a = none) (hs : SlF X.prog X.w C (upd H a o) s' (σ[i]?).join [a]) :
    Stw W C0 H0 C (upd H a o) ∧ Prg C H C (upd H a o) ∧ SWx X W H0 C (upd H a o) σ (ds.set i s') := by
  have hm : a ∈ f i := by rw [ha]; exact List.mem_singleton.mpr rfl
  have y : Stw (fun b => b = a) C H C (upd H a o) := .out S.le hc rfl
  exact ⟨x.old y fun b e => by rw [e]; exact S.new i a hm, y.prg, _, S.wr y (fun b e => by rw [e]; exact hm) (by rw [ha]; exact hs)⟩
variable {Ψ : Res → Prop}
theorem S1.append (i : Nat) {x : Str} {q1 : Pos} {xs : List Dt} (hs : ds[i]? = some (.ol xs)) (he : EvD X e ds d) (hl : xs.length ≤ 100000) (k : Ψ (.nx (ds.set i (.ol (xs ++ [d]))))) (hN : X.N[i]? = some x := by rfl) (hv : Vis X.env.scope x := by first | exact Or.inl rfl | exact Or.inr (Or.inl rfl) | exact Or.inr (Or.inr rfl))
    (hd : (x == ("__debug__" : Str)) = false := by decide) (hcd : (x == ("__classdict__" : Str)) = false := by decide) (hbase : attributeBase (.Name x q1) "append" X.env (eval (.Name x q1) X.env) = eval (.Name x q1) X.env := by rfl)
    (hfew : ((backTo cpos (starEach [e] X.env)).all (fun z => !z.1) && (backToKw cpos (keywordEach [] X.env)).all (fun z => z.1.isSome) && decide (([e] : List Expr).length + ([] : List Keyword).length + (if ([] : List Keyword).isEmpty then 0 else 1) < 30)) = true := by rfl)
    (hline : (apos.endLine == cpos.line) = true := by rfl) (hst : starEach [e] X.env = (false, eval e X.env) :: starEach [] X.env := by rfl) (hsw : swapsWith (.Call (.Attribute (.Name x q1) "append" apos) [e] [] cpos) none pos.line X.env = pure false := by rfl) :
    S1 X (.Expr (.Call (.Attribute (.Name x q1) "append" apos) [e] [] cpos) pos) ds Ψ := fun W C0 H0 C H σ D w0 ⟨f, S⟩ q => by
  obtain ⟨a, vs, e1, e2, hc, hh, hi⟩ := S.sl i _ hs
  refine psW (ps_expr (pe_bm PySem.F.plainAttrs_list PySem.F.slot_list_append PySem.F.type_list_append mt_append wpE.pe (pa_cons wpE.pe pa_nil hst) hbase hfew hline hst) hsw) (nameW e2 ?_ hN hv hd hcd)
  refine ⟨.inl ⟨rfl, vs, .inl (.inl hh)⟩, he C H σ S.sd _ fun u C1 H1 x1 i1 => ?_⟩
  have hc1 : C1 a = none := x1.hid a hc (by rw [hh]; exact fun z => nomatch z)
  refine ⟨a, vs, u, rfl, rfl, x1.same _ _ hc hh, ?_, ?_⟩
  · rw [hi.len]; exact Nat.lt_of_le_of_lt hl (by decide)
  · obtain ⟨y1, y2, y3⟩ := own_put (s' := .ol (xs ++ [d])) (w0.thenS x1) (S.mono x1) e1 hc1 ⟨a, vs ++ [u], rfl, e2, hc1, upd_same, (IsL.mono x1.le _ _ hi).app (.one i1)⟩
    exact q _ k C1 _ σ y1 (x1.prg.trans y2) y3
theorem S1.extend (i : Nat) {x : Str} {q1 : Pos} {xs ys : List Dt} (hs : ds[i]? = some (.ol xs)) (he : EvD X e ds (.lst ys)) (hl : xs.length + ys.length ≤ 100000) (k : Ψ (.nx (ds.set i (.ol (xs ++ ys))))) (hN : X.N[i]? = some x := by rfl) (hv : Vis X.env.scope x := by first | exact Or.inl rfl | exact Or.inr (Or.inl rfl) | exact Or.inr (Or.inr rfl))
    (hd : (x == ("__debug__" : Str)) = false := by decide) (hcd : (x == ("__classdict__" : Str)) = false := by decide) (hbase : attributeBase (.Name x q1) "extend" X.env (eval (.Name x q1) X.env) = eval (.Name x q1) X.env := by rfl)
    (hfew : ((backTo cpos (starEach [e] X.env)).all (fun z => !z.1) && (backToKw cpos (keywordEach [] X.env)).all (fun z => z.1.isSome) && decide (([e] : List Expr).length + ([] : List Keyword).length + (if ([] : List Keyword).isEmpty then 0 else 1) < 30)) = true := by rfl)
    (hline : (apos.endLine == cpos.line) = true := by rfl) (hst : starEach [e] X.env = (false, eval e X.env) :: starEach [] X.env := by rfl) (hsw : swapsWith (.Call (.Attribute (.Name x q1) "extend" apos) [e] [] cpos) none pos.line X.env = pure false := by rfl) :
    S1 X (.Expr (.Call (.Attribute (.Name x q1) "extend" apos) [e] [] cpos) pos) ds Ψ := fun W C0 H0 C H σ D w0 ⟨f, S⟩ q => by
  obtain ⟨a, vs, e1, e2, hc, hh, hi⟩ := S.sl i _ hs
  refine psW (ps_expr (pe_bm PySem.F.plainAttrs_list PySem.F.slot_list_extend PySem.F.type_list_extend mt_extend wpE.pe (pa_cons wpE.pe pa_nil hst) hbase hfew hline hst) hsw) (nameW e2 ?_ hN hv hd hcd)
  refine ⟨.inl ⟨rfl, vs, .inl (.inl hh)⟩, he C H σ S.sd _ fun u C1 H1 x1 i1 => ?_⟩
  have hc1 : C1 a = none := x1.hid a hc (by rw [hh]; exact fun z => nomatch z)
  obtain ⟨b, us, rfl, r1, j1⟩ := i1
  refine ⟨a, b, vs, us, rfl, rfl, x1.same _ _ hc hh, x1.le'.ex _ _ r1, ?_, ?_⟩
  · rw [hi.len, j1.len]; exact small hl
  · obtain ⟨y1, y2, y3⟩ := own_put (s' := .ol (xs ++ ys)) (w0.thenS x1) (S.mono x1) e1 hc1 ⟨a, vs ++ us, rfl, e2, hc1, upd_same, (IsL.mono x1.le _ _ hi).app j1⟩
    exact q _ k C1 _ σ y1 (x1.prg.trans y2) y3
end
end K66
set_option maxHeartbeats 4000000
namespace K66
variable [TabAt]
open PySem PySem.Spec PyProof.Rows L2
def dRep : List Key → List Dt → Key → Dt → List Dt
  | k :: ks, v :: vs, q, d => (if k = q then d else v) :: dRep ks vs q d
  | _, _, _, _ => []
def hasK (ks : List Key) (q : Key) : Bool := ks.any fun k => decide (k = q)
def dPutK (ks : List Key) (k : Key) : List Key := if hasK ks k = true then ks else ks ++ [k]
def dPutV (ks : List Key) (vs : List Dt) (k : Key) (d : Dt) : List Dt := if hasK ks k = true then dRep ks vs k d else vs ++ [d]
section
variable {P : Program} {w : World} {C : Hp}
theorem dRep_at {q : Key} {d : Dt} {v : V} (id : Is P w C d v) : ∀ {ks : List Key} {xs : List Dt} {us : List V}, IsL P w C xs us → ks.length = us.length →
    ∃ us', (ks.zip us).map (fun kv => if kv.1 = q then (kv.1, v) else kv) = ks.zip us' ∧ ks.length = us'.length ∧ IsL P w C (dRep ks xs q d) us'
  | [], xs, us, i, hl => ⟨[], rfl, rfl, by unfold dRep; exact rfl⟩
  | k :: ks, [], us, i, hl => by rw [show us = [] from i] at hl; simp at hl
  | k :: ks, x :: xs, us, i, hl => by
    obtain ⟨u, r, rfl, i1, i2⟩ := i
    obtain ⟨us', e, hl', ii⟩ := dRep_at id i2 (show ks.length = r.length by simpa using hl)
    rw [List.zip_cons_cons, List.map_cons, e]
    by_cases hq : k = q
    · refine ⟨v :: us', ?_, by simpa using hl', ?_⟩
      · rw [if_pos (show ((k, u) : Key × V).1 = q from hq)]; rfl
      · unfold dRep; rw [if_pos hq]; exact ⟨_, _, rfl, id, ii⟩
    · refine ⟨u :: us', ?_, by simpa using hl', ?_⟩
      · rw [if_neg (show ¬ ((k, u) : Key × V).1 = q from hq)]; rfl
      · unfold dRep; rw [if_neg hq]; exact ⟨_, _, rfl, i1, ii⟩
theorem any_key {ks : List Key} {us : List V} {q : Key} (hl : ks.length = us.length) : ((ks.zip us).any fun kv => decide (kv.1 = q)) = hasK ks q := by
  have e : (ks.zip us).map (·.1) = ks := List.map_fst_zip (by rw [hl]; exact Nat.le_refl _)
  have e2 : ((ks.zip us).any fun kv => decide (kv.1 = q)) = (((ks.zip us).map (·.1)).any fun k => decide (k = q)) := by rw [List.any_map]; rfl
  rw [e2, e]; rfl
theorem dPut_at {q : Key} {d : Dt} {v : V} {ks : List Key} {xs : List Dt} {us : List V} (id : Is P w C d v) (i : IsL P w C xs us) (hl : ks.length = us.length) :
    ∃ us', putK (ks.zip us) q v = (dPutK ks q).zip us' ∧ (dPutK ks q).length = us'.length ∧ IsL P w C (dPutV ks xs q d) us' := by
  unfold putK dPutK dPutV
  rw [any_key hl]
  cases h : hasK ks q with
  | true =>
    rw [if_pos rfl, if_pos rfl, if_pos rfl]
    exact dRep_at id i hl
  | false =>
    rw [if_neg Bool.false_ne_true, if_neg Bool.false_ne_true, if_neg Bool.false_ne_true]
    refine ⟨us ++ [v], ?_, by rw [List.length_append, List.length_append, hl]; rfl, i.app (.one id)⟩
    rw [List.zip_append hl]; rfl
end
section
variable {X : Cx} {ds : List Sl} {e b : Expr} {pos p pos' : Pos} {d : Dt} {Ψ : Res → Prop}
theorem S1.putK (i : Nat) {x : Str} {q1 : Pos} {ks : List Key} {vs : List Dt} {k : Key} (hu : X.A.units + 64 < cLine) (hs : ds[i]? = some (.ok ks vs)) (he : EvD X e ds d) (hb : EvD X b ds (kD k)) (hl : ks.length ≤ 100000) (kk : Ψ (.nx (ds.set i (.ok (dPutK ks k) (dPutV ks vs k d)))))
    (hN : X.N[i]? = some x := by rfl) (hv : Vis X.env.scope x := by first | exact Or.inl rfl | exact Or.inr (Or.inl rfl) | exact Or.inr (Or.inr rfl))
    (hd : (x == ("__debug__" : Str)) = false := by decide) (hcd : (x == ("__classdict__" : Str)) = false := by decide) (hsw : swapsWithSole [.Subscript (.Name x q1) b pos'] e pos.line X.env = pure false := by rfl) (hw : swappedStores [.Subscript (.Name x q1) b pos'] e X.env = pure none := by rfl)
    (h1 : (assignEach [.Subscript (.Name x q1) b pos'] X.env).map (·.2) = [assign (.Subscript (.Name x q1) b pos') X.env] := by rfl)
    (ha : ∀ v, assign (.Subscript (.Name x q1) b pos') X.env v = (do
      let ov ← holding [v] (eval (.Name x q1) X.env)
      let iv ← holding [v, ov] (eval b X.env)
      standAt pos'
      holding [v, ov, iv] (setItem ov iv v)
      release [v, ov, iv] []) := by intro _; rfl) : S1 X (.Assign [.Subscript (.Name x q1) b pos'] e pos) ds Ψ := fun W C0 H0 C H σ D w0 ⟨f, S⟩ q => by
  obtain ⟨a, us, e1, e2, hc, hh, hn, hi⟩ := S.sl i _ hs
  refine psW (ps_asg wpE.pe (pg_sub wpE.pe wpE.pe (set_dict (by omega)) ha) hsw hw h1) (he C H σ S.sd _ fun u C1 H1 x1 i1 => ?_)
  refine nameW e2 (hb C1 H1 σ (S.mono x1).sd _ fun kv C2 H2 x2 i2 => ?_) hN hv hd hcd
  have x12 := x1.trans x2
  have hc2 : C2 a = none := x12.hid a hc (by rw [hh]; exact fun z => nomatch z)
  have hi2 := IsL.mono (C' := C2) x12.le _ _ hi
  obtain ⟨us', p1, p2, p3⟩ := dPut_at (q := k) (Is.mono x2.le _ _ i1) hi2 hn
  refine ⟨a, _, rfl, .inl ⟨_, k, x12.same _ _ hc hh, kV_of i2, ?_, rfl⟩, ?_⟩
  · rw [zip_len hn]; exact Nat.lt_of_le_of_lt hl (by decide)
  · rw [p1]
    obtain ⟨y1, y2, y3⟩ := own_put (s' := .ok (dPutK ks k) (dPutV ks vs k d)) (w0.thenS x12) (S.mono x12) e1 hc2 ⟨a, us', rfl, e2, hc2, upd_same, p2, p3⟩
    exact q _ kk C2 _ σ y1 (x12.prg.trans y2) y3
theorem S1.putN (i : Nat) {x : Str} {q1 : Pos} {ks vs ts : List Dt} (hu : X.A.units + 64 < cLine) (hs : ds[i]? = some (.on ks vs)) (he : EvD X e ds d) (hb : EvD X b ds (.tup ts)) (hk : kOkL ks 8 = true) (ht : kOk (.tup ts) 8 = true) (hl : ks.length ≤ 100000) (kk : Ψ (.nx (ds.set i (.on (ndPutK ks (.tup ts)) (ndPutV ks vs (.tup ts) d)))))
    (hN : X.N[i]? = some x := by rfl) (hv : Vis X.env.scope x := by first | exact Or.inl rfl | exact Or.inr (Or.inl rfl) | exact Or.inr (Or.inr rfl))
    (hd : (x == ("__debug__" : Str)) = false := by decide) (hcd : (x == ("__classdict__" : Str)) = false := by decide) (hsw : swapsWithSole [.Subscript (.Name x q1) b pos'] e pos.line X.env = pure false := by rfl) (hw : swappedStores [.Subscript (.Name x q1) b pos'] e X.env = pure none := by rfl)
    (h1 : (assignEach [.Subscript (.Name x q1) b pos'] X.env).map (·.2) = [assign (.Subscript (.Name x q1) b pos') X.env] := by rfl)
    (ha : ∀ v, assign (.Subscript (.Name x q1) b pos') X.env v = (do
      let ov ← holding [v] (eval (.Name x q1) X.env)
      let iv ← holding [v, ov] (eval b X.env)
      standAt pos'
      holding [v, ov, iv] (setItem ov iv v)
      release [v, ov, iv] []) := by intro _; rfl) : S1 X (.Assign [.Subscript (.Name x q1) b pos'] e pos) ds Ψ := fun W C0 H0 C H σ D w0 ⟨f, S⟩ q => by
  obtain ⟨a, xs, us, e1, e2, hc, hh, hn, hvs, hi⟩ := S.sl i _ hs
  refine psW (ps_asg wpE.pe (pg_sub wpE.pe wpE.pe (set_nd hu) ha) hsw hw h1) (he C H σ S.sd _ fun u C1 H1 x1 i1 => ?_)
  refine nameW e2 (hb C1 H1 σ (S.mono x1).sd _ fun kv C2 H2 x2 i2 => ?_) hN hv hd hcd
  have x12 := x1.trans x2
  have hc2 : C2 a = none := x12.hid a hc (by rw [hh]; exact fun z => nomatch z)
  have i2' := i2
  obtain ⟨b1, ws, rfl, r2, j2⟩ := i2
  have hn2 := IsK.mono (C' := C2) x12.le _ _ hn
  refine ⟨a, b1, _, xs, rfl, rfl, x12.same _ _ hc hh, ?_, hn2.keysAt x2.le' hk, Is.keyAt x2.le' ht i2', fun u2 ru => ?_⟩
  · rw [hn.len]; exact Nat.lt_of_le_of_lt hl (by decide)
  · obtain ⟨p1, us', p2, p3⟩ := ndPut_at (k := .tup ts) hn2 hvs (IsL.mono (C' := C2) x12.le _ _ hi) i2' (Is.mono x2.le _ _ i1) ru
    obtain ⟨y1, y2, y3⟩ := own_put (s' := .on (ndPutK ks (.tup ts)) (ndPutV ks vs (.tup ts) d)) (w0.thenS x12) (S.mono x12) e1 hc2 ⟨a, _, us', rfl, e2, hc2, upd_same, p1, p2, p3⟩
    exact q _ kk C2 _ σ y1 (x12.prg.trans y2) y3
end
end K66
set_option maxHeartbeats 4000000
namespace K66
variable [TabAt]
open PySem PySem.Spec PyProof.Rows L2
section
variable {α β : Type} [DecidableEq α]
/-- a table: what stands at a key, the table after a put -/
def alGet : List (α × β) → α → Option β
  | [], _ => none
  | (a, b) :: l, q => if a = q then some b else alGet l q
def alHas : List (α × β) → α → Bool
  | [], _ => false
  | (a, _) :: l, q => decide (a = q) || alHas l q
def alRep : List (α × β) → α → β → List (α × β)
  | [], _, _ => []
  | (a, b) :: l, q, c => (a, if a = q then c else b) :: alRep l q c
def alPut (l : List (α × β)) (q : α) (c : β) : List (α × β) := if alHas l q = true then alRep l q c else l ++ [(q, c)]
theorem alHas_iff {l : List (α × β)} {q : α} : alHas l q = true ↔ q ∈ l.map (·.1) := by
  induction l with
  | nil => simp [alHas]
  | cons p l ih =>
    obtain ⟨a, b⟩ := p
    rw [alHas, Bool.or_eq_true, decide_eq_true_eq, ih, List.map_cons, List.mem_cons]
    constructor
    · rintro (h | h)
      · exact .inl h.symm
      · exact .inr h
    · rintro (h | h)
      · exact .inl h.symm
      · exact .inr h
theorem alGet_has {l : List (α × β)} {q : α} : (alGet l q).isSome = alHas l q := by
  induction l with
  | nil => rfl
  | cons p l ih =>
    obtain ⟨a, b⟩ := p
    unfold alGet alHas
    by_cases h : a = q
    · rw [if_pos h, decide_eq_true h]; rfl
    · rw [if_neg h, decide_eq_false h, Bool.false_or]; exact ih
theorem alPut_new {l : List (α × β)} {q : α} {c : β} (h : q ∉ l.map (·.1)) : alPut l q c = l ++ [(q, c)] := by
  unfold alPut
  rw [if_neg (fun z => h (alHas_iff.mp z))]
theorem alRep_keys {l : List (α × β)} {q : α} {c : β} : (alRep l q c).map (·.1) = l.map (·.1) := by
  induction l with
  | nil => rfl
  | cons p l ih => obtain ⟨a, b⟩ := p; rw [alRep, List.map_cons, List.map_cons, ih]
theorem alPut_keys {l : List (α × β)} {q : α} {c : β} : (alPut l q c).map (·.1) = if alHas l q = true then l.map (·.1) else l.map (·.1) ++ [q] := by
  unfold alPut
  split
  · exact alRep_keys
  · rw [List.map_append]; rfl
theorem alGet_rep {l : List (α × β)} {q r : α} {c : β} : alGet (alRep l q c) r = if q = r then (alGet l q).map fun _ => c else alGet l r := by
  induction l with
  | nil => unfold alRep alGet; split <;> rfl
  | cons p l ih =>
    obtain ⟨a, b⟩ := p
    unfold alRep alGet
    by_cases h1 : a = r
    · rw [if_pos h1]
      by_cases h2 : q = r
      · rw [if_pos h2, if_pos (h1.trans h2.symm), if_pos (h1.trans h2.symm)]; rfl
      · rw [if_neg h2, if_pos h1, if_neg (fun z => h2 (z.symm.trans h1))]
    · rw [if_neg h1, ih]
      by_cases h2 : q = r
      · rw [if_pos h2, if_pos h2, if_neg (fun z => h1 (z.trans h2))]
      · rw [if_neg h2, if_neg h2, if_neg h1]
theorem alGet_append {l m : List (α × β)} {r : α} : alGet (l ++ m) r = (alGet l r).or (alGet m r) := by
  induction l with
  | nil => rfl
  | cons p l ih =>
    obtain ⟨a, b⟩ := p
    rw [List.cons_append, alGet, alGet]
    split
    · rfl
    · exact ih
theorem alGet_put {l : List (α × β)} {q r : α} {c : β} : alGet (alPut l q c) r = if q = r then some c else alGet l r := by
  unfold alPut
  cases h : alHas l q with
  | true =>
    rw [if_pos rfl, alGet_rep]
    split
    · rw [← alGet_has] at h
      obtain ⟨x, hx⟩ := Option.isSome_iff_exists.mp h
      rw [hx]; rfl
    · rfl
  | false =>
    rw [if_neg Bool.false_ne_true, alGet_append]
    by_cases e : q = r
    · subst e
      rw [if_pos rfl]
      have : alGet l q = none := by
        rw [← alGet_has] at h
        cases hx : alGet l q with
        | none => rfl
        | some x => rw [hx] at h; cases h
      rw [this]
      show alGet [(q, c)] q = some c
      unfold alGet
      rw [if_pos rfl]
    · rw [if_neg e]
      have : alGet [(q, c)] r = none := by unfold alGet; rw [if_neg e]; rfl
      rw [this]
      cases alGet l r <;> rfl
end
/-- a dict of texts -/
def sD {β : Type} (e : β → Dt) (l : List (Str × β)) : Dt := .dic (l.map fun p => .inr p.1) (l.map fun p => e p.2)
def sO {β : Type} (e : β → Dt) (l : List (Str × β)) : Sl := .ok (l.map fun p => .inr p.1) (l.map fun p => e p.2)
/-- .. of ints -/
def iO {β : Type} (e : β → Dt) (l : List (Int × β)) : Sl := .ok (l.map fun p => .inl p.1) (l.map fun p => e p.2)
def iDt {β : Type} (e : β → Dt) (l : List (Int × β)) : Dt := .dic (l.map fun p => .inl p.1) (l.map fun p => e p.2)
/-- .. of keys of any depth -/
def nD {α β : Type} (k : α → Dt) (e : β → Dt) (l : List (α × β)) : Dt := .nd (l.map fun p => k p.1) (l.map fun p => e p.2)
def nO {α β : Type} (k : α → Dt) (e : β → Dt) (l : List (α × β)) : Sl := .on (l.map fun p => k p.1) (l.map fun p => e p.2)
section
variable {β : Type} {e : β → Dt}
theorem sD_get {l : List (Str × β)} {q : Str} : dGet (l.map fun p => .inr p.1) (l.map fun p => e p.2) (.inr q) = (alGet l q).map e := by
  induction l with
  | nil => rfl
  | cons p l ih =>
    obtain ⟨a, b⟩ := p
    rw [List.map_cons, List.map_cons, dGet, alGet]
    by_cases h : a = q
    · rw [if_pos (show (Sum.inr a : Key) = .inr q by rw [h]), if_pos h]; rfl
    · rw [if_neg (show ¬ (Sum.inr a : Key) = .inr q from fun z => h (Sum.inr.inj z)), if_neg h]; exact ih
theorem sD_has {l : List (Str × β)} {q : Str} : hasK (l.map fun p => .inr p.1) (.inr q) = alHas l q := by
  induction l with
  | nil => rfl
  | cons p l ih =>
    obtain ⟨a, b⟩ := p
    unfold hasK at ih ⊢
    rw [List.map_cons, List.any_cons, ih, alHas]
    congr 1
    rw [Bool.eq_iff_iff, decide_eq_true_eq, decide_eq_true_eq]
    exact ⟨Sum.inr.inj, fun z => by rw [z]⟩
theorem sD_rep {l : List (Str × β)} {q : Str} {c : β} : dRep (l.map fun p => .inr p.1) (l.map fun p => e p.2) (.inr q) (e c) = (alRep l q c).map fun p => e p.2 := by
  induction l with
  | nil => rfl
  | cons p l ih =>
    obtain ⟨a, b⟩ := p
    rw [List.map_cons, List.map_cons, dRep, alRep, List.map_cons, ih]
    by_cases h : a = q
    · rw [if_pos (show (Sum.inr a : Key) = .inr q by rw [h]), if_pos h]
    · rw [if_neg (show ¬ (Sum.inr a : Key) = .inr q from fun z => h (Sum.inr.inj z)), if_neg h]
theorem sO_put {l : List (Str × β)} {q : Str} {c : β} : Sl.ok (dPutK (l.map fun p => .inr p.1) (.inr q)) (dPutV (l.map fun p => .inr p.1) (l.map fun p => e p.2) (.inr q) (e c)) = sO e (alPut l q c) := by
  unfold dPutK dPutV sO alPut
  rw [sD_has]
  cases h : alHas l q with
  | true =>
    rw [if_pos rfl, if_pos rfl, if_pos rfl, sD_rep]
    congr 1
    have := alRep_keys (l := l) (q := q) (c := c)
    have h2 := congrArg (List.map (Sum.inr : Str → Key)) this
    rw [List.map_map, List.map_map] at h2
    exact h2.symm
  | false =>
    rw [if_neg Bool.false_ne_true, if_neg Bool.false_ne_true, if_neg Bool.false_ne_true, List.map_append, List.map_append]
    rfl
theorem iD_get {l : List (Int × β)} {q : Int} : dGet (l.map fun p => .inl p.1) (l.map fun p => e p.2) (.inl q) = (alGet l q).map e := by
  induction l with
  | nil => rfl
  | cons p l ih =>
    obtain ⟨a, b⟩ := p
    rw [List.map_cons, List.map_cons, dGet, alGet]
    by_cases h : a = q
    · rw [if_pos (show (Sum.inl a : Key) = .inl q by rw [h]), if_pos h]; rfl
    · rw [if_neg (show ¬ (Sum.inl a : Key) = .inl q from fun z => h (Sum.inl.inj z)), if_neg h]; exact ih
theorem iD_has {l : List (Int × β)} {q : Int} : hasK (l.map fun p => .inl p.1) (.inl q) = alHas l q := by
  induction l with
  | nil => rfl
  | cons p l ih =>
    obtain ⟨a, b⟩ := p
    unfold hasK at ih ⊢
    rw [List.map_cons, List.any_cons, ih, alHas]
    congr 1
    rw [Bool.eq_iff_iff, decide_eq_true_eq, decide_eq_true_eq]
    exact ⟨Sum.inl.inj, fun z => by rw [z]⟩
theorem iD_rep {l : List (Int × β)} {q : Int} {c : β} : dRep (l.map fun p => .inl p.1) (l.map fun p => e p.2) (.inl q) (e c) = (alRep l q c).map fun p => e p.2 := by
  induction l with
  | nil => rfl
  | cons p l ih =>
    obtain ⟨a, b⟩ := p
    rw [List.map_cons, List.map_cons, dRep, alRep, List.map_cons, ih]
    by_cases h : a = q
    · rw [if_pos (show (Sum.inl a : Key) = .inl q by rw [h]), if_pos h]
    · rw [if_neg (show ¬ (Sum.inl a : Key) = .inl q from fun z => h (Sum.inl.inj z)), if_neg h]
theorem iO_put {l : List (Int × β)} {q : Int} {c : β} : Sl.ok (dPutK (l.map fun p => .inl p.1) (.inl q)) (dPutV (l.map fun p => .inl p.1) (l.map fun p => e p.2) (.inl q) (e c)) = iO e (alPut l q c) := by
  unfold dPutK dPutV iO alPut
  rw [iD_has]
  cases h : alHas l q with
  | true =>
    rw [if_pos rfl, if_pos rfl, if_pos rfl, iD_rep]
    congr 1
    have := alRep_keys (l := l) (q := q) (c := c)
    have h2 := congrArg (List.map (Sum.inl : Int → Key)) this
    rw [List.map_map, List.map_map] at h2
    exact h2.symm
  | false =>
    rw [if_neg Bool.false_ne_true, if_neg Bool.false_ne_true, if_neg Bool.false_ne_true, List.map_append, List.map_append]
    rfl
variable {α : Type} [DecidableEq α] {k : α → Dt} (hk : ∀ a b, nk (k a) = nk (k b) → a = b)
include hk
theorem nD_get {l : List (α × β)} {q : α} : ndGet (l.map fun p => k p.1) (l.map fun p => e p.2) (nk (k q)) = (alGet l q).map e := by
  induction l with
  | nil => rfl
  | cons p l ih =>
    obtain ⟨a, b⟩ := p
    rw [List.map_cons, List.map_cons, ndGet, alGet]
    by_cases h : a = q
    · rw [if_pos (by rw [h]), if_pos h]; rfl
    · rw [if_neg fun z => h (hk _ _ z), if_neg h]; exact ih
theorem nD_has {l : List (α × β)} {q : α} : ndHas (l.map fun p => k p.1) (nk (k q)) = alHas l q := by
  induction l with
  | nil => rfl
  | cons p l ih =>
    obtain ⟨a, b⟩ := p
    rw [List.map_cons, ndHas, alHas, ih]
    congr 1
    rw [Bool.eq_iff_iff, decide_eq_true_eq, decide_eq_true_eq]
    exact ⟨hk _ _, fun z => by rw [z]⟩
theorem nD_rep {l : List (α × β)} {q : α} {c : β} : ndRep (l.map fun p => k p.1) (l.map fun p => e p.2) (nk (k q)) (e c) = (alRep l q c).map fun p => e p.2 := by
  induction l with
  | nil => rfl
  | cons p l ih =>
    obtain ⟨a, b⟩ := p
    rw [List.map_cons, List.map_cons, ndRep, alRep, List.map_cons, ih]
    by_cases h : a = q
    · rw [if_pos (by rw [h]), if_pos h]
    · rw [if_neg fun z => h (hk _ _ z), if_neg h]
theorem nO_put {l : List (α × β)} {q : α} {c : β} : Sl.on (ndPutK (l.map fun p => k p.1) (k q)) (ndPutV (l.map fun p => k p.1) (l.map fun p => e p.2) (k q) (e c)) = nO k e (alPut l q c) := by
  unfold ndPutK ndPutV nO alPut
  rw [nD_has hk]
  cases h : alHas l q with
  | true =>
    rw [if_pos rfl, if_pos rfl, if_pos rfl, nD_rep hk]
    congr 1
    have := alRep_keys (l := l) (q := q) (c := c)
    have h2 := congrArg (List.map k) this
    rw [List.map_map, List.map_map] at h2
    exact h2.symm
  | false =>
    rw [if_neg Bool.false_ne_true, if_neg Bool.false_ne_true, if_neg Bool.false_ne_true, List.map_append, List.map_append]
    rfl
end
theorem kOkL_map {α : Type} {k : α → Dt} {n : Nat} : ∀ {l : List α}, (∀ a ∈ l, kOk (k a) n = true) → kOkL (l.map k) n = true
  | [], _ => rfl
  | a :: l, h => by
    show (kOk (k a) n && kOkL (l.map k) n) = true
    rw [h a (by simp), kOkL_map fun b hb => h b (List.mem_cons_of_mem _ hb)]; rfl
end K66
set_option maxHeartbeats 4000000
namespace K66
variable [TabAt]
open PySem PySem.Spec PyProof.Rows L2
section
variable {X : Cx} {ds : List Sl} {a b v : Expr} {pos p pos' q1 : Pos} {β : Type} {e : β → Dt} {Ψ : Res → Prop}
theorem EvD.getS {l : List (Str × β)} {q : Str} {c : β} (hu : X.A.units + 64 < cLine) (ha : EvD X a ds (sD e l)) (hb : EvD X b ds (.str q)) (h : alGet l q = some c) (hs : NoSl b := by exact fun _ _ => rfl) : EvD X (.Subscript a b pos) ds (e c) :=
  .getK (k := .inr q) hu ha hb (by rw [sD_get, h]; rfl) hs
theorem EvD.listS {l : List (Str × β)} (hc : X.calm = true) (ha : EvD X a ds (sD e l)) (hm : X.mg "list" = none) (hg : Gl X "list" := by rfl) (hst : starEach [a] X.env = (false, eval a X.env) :: starEach [] X.env := by rfl) : EvD X (.Call (.Name "list" p) [a] [] pos) ds (.lst ((l.map (·.1)).map .str)) := by
  have h := EvD.listK (p := p) (pos := pos) hc ha hm hg hst
  rw [List.map_map] at h
  rw [List.map_map]
  exact h
theorem EvI.keysS {W : Addr → Prop} {tg : Expr} {l : List (Str × β)} (h : EvD X a ds (sD e l)) : EvI X W tg a ds (l.map fun p => .str p.1) := by
  have h := EvI.keys (W := W) (tg := tg) h
  rw [List.map_map] at h
  exact h
theorem itemsD_sD {l : List (Str × β)} : itemsD (l.map fun p => .inr p.1) (l.map fun p => e p.2) = l.map fun p => .tup [.str p.1, e p.2] := by
  induction l with
  | nil => rfl
  | cons p l ih =>
    unfold itemsD at ih ⊢
    rw [List.map_cons, List.map_cons, List.zip_cons_cons, List.map_cons, ih]
    rfl
theorem EvI.itemsS {W : Addr → Prop} {elts : List Expr} {kk : Nat} {apos cpos tpos : Pos} {l : List (Str × β)} (h : EvD X a ds (sD e l)) (hbase : attributeBase a "items" X.env (eval a X.env) = eval a X.env := by rfl) (hline : (apos.endLine == cpos.line) = true := by rfl) :
    EvI X W (.Tuple elts kk tpos) (.Call (.Attribute a "items" apos) [] [] cpos) ds (l.map fun p => .tup [.str p.1, e p.2]) := by
  have h := EvI.items (W := W) (elts := elts) (kk := kk) (tpos := tpos) (apos := apos) (cpos := cpos) h hbase hline
  rw [itemsD_sD] at h
  exact h
theorem EvD.lenS' {l : List (Str × β)} (ha : EvD X a ds (sD e l)) (hm : X.mg "len" = none) (hg : Gl X "len" := by rfl) (hst : starEach [a] X.env = (false, eval a X.env) :: starEach [] X.env := by rfl) : EvD X (.Call (.Name "len" p) [a] [] pos) ds (.int (l.length : Nat)) := by
  have h := EvD.lenK (p := p) (pos := pos) ha hm hg hst
  rw [List.length_map] at h
  exact h
end
/-- a picture's rows -/
abbrev Rows := List (Str × Row)
def hands (R : Rows) : List Str := R.map (·.1)
/-- a row that may stand among these hands -/
def rowOk (hs : List Str) (h : Str) (r : Row) : Bool := r.all fun d => deedOk d && (decide (d.2.1 ∈ hs) && !decide (d.2.1 = h))
def rowsOk (R : Rows) : Bool := decide (R ≠ []) && (R.all fun p => isNm p.1 && (rowOk (hands R) p.1 p.2 && decide (p.2.length ≤ 1000))) && decide (R.length ≤ 1000)
section
variable {P : Program} {w : World} {K : PySem.W.Frag} {mg : Str → Option Value} {base : Heap}
def p_is_row : List Dt → Dt → Prop := fun as r => ∃ (hs : List Str) (h : Str) (rw' : Row), as = [.lst (hs.map .str), .str h, rL rw'] ∧ rowOk hs h rw' = true ∧ rw'.length ≤ 1000 ∧ r = .bl true
theorem all_true {α : Type} {l : List α} {f : α → Bool} (h : l.all f = true) : ((l.map f).all id) = true := by rw [List.all_map]; exact h
theorem ok_is_row (T : Txt K mg) : OkD P w K mg base d_is_row 3 ["hands", "hand", "value"] (spD P w p_is_row) := by
  have nd : (["hands", "hand", "value", "deed"] : List Str).Nodup := by decide +kernel
  refine okD_pure (N := ["hands", "hand", "value", "deed"]) T.n_is_row ⟨rfl, rfl, rfl, by decide +kernel, rfl, by decide +kernel, by decide +kernel⟩ (fun _ _ _ _ _ _ us hl => match us, hl with | [_, _, _], _ => rfl) ?_
  rintro as r ⟨hs, h, rw', rfl, hr, hl, rfl⟩
  refine ⟨rfl, fun cdv A outer s H E hroom => ?_⟩
  refine .cons (.ret (.and (x := true) (.call (ok_is_list T) T.g_is_list (hroom.mono (by decide)) (.cons (.var 2 rfl) .nil) ⟨_, rfl, .inl rfl, rfl⟩) fun _ => .one (.cast (.all (bs := rw'.map fun d => deedOk d && (decide (d.2.1 ∈ hs) && !decide (d.2.1 = h))) rfl ?_ T.f_all) ?_)) rfl)
  · rw [List.map_map]
    refine .lcm (enc := dD) (own := [("deed", 3)]) rfl nd (.lst (.var 2 rfl)) (blk_of rfl) (by omega) fun d hd => ?_
    have hok := List.all_eq_true.mp hr d hd
    obtain ⟨h1, h2⟩ := Bool.and_eq_true_iff.mp hok
    refine ⟨_, [3], by simp, fun s H C cl fp => .name 3 nd, fun s H C cl fp => ?_⟩
    refine .and (.call (z := .bl (deedOk d)) (ok_is_deed T) T.g_is_deed hroom (.cons (.var 3 rfl) .nil) ⟨d, rfl, h1, by rw [h1]⟩) fun _ => ?_
    refine .and (.cmp (.inLS (.ixT (n := 1) (.var 3 rfl) .int rfl) (.var 0 rfl))) fun _ => .one (.cmp (.neS (.ixT (n := 1) (.var 3 rfl) .int rfl) (.var 1 rfl)))
  · rw [all_true hr]
end
end K66
set_option maxHeartbeats 4000000
namespace K66
variable [TabAt]
open PySem PySem.Spec PyProof.Rows L2
section
variable {X : Cx}
/-- {k: v for target in iter if ..}, keys of any depth; D the new dict -/
def tDn (P : Program) (w : World) (wi : TI) (g : TG) (tt : TT) (tk tv : TE) (vs : List Nat) : TE := fun σ H Q => wi σ H fun J H1 => ∀ D, H1 D = none → ∃ Wi : Nat → Nat → Hp → Prop, (∃ m, Wi 0 m (upd H1 D (ndO P w D []))) ∧ ∀ i m H, Wi i m H →
  (J.stop i H ∧ Q (.ref D) H) ∨ (J.go i H ∧ ∃ N : Hp → Prop, (∀ H', N H' → ∃ m', m' < m ∧ Wi (i + 1) m' H') ∧ ∀ x H', J.yld i H x H' → g x (wipe σ vs) H' fun σ2 H2 => wipe σ2 vs = wipe σ vs ∧ tt σ2 H2 fun b H3 =>
    if b = true then tk σ2 H3 fun y H4 => tv σ2 H4 fun z H5 => ∃ xs k c, y = .ref c ∧ H5 D = some (ndO P w D xs) ∧ xs.length < sizeLine ∧ KeysAt P w H5 xs ∧ KeyAt P w H5 k c ∧ ∀ u, RelV z u → N (upd H5 D (ndO P w D (storedH xs k c u))) else N H3)
theorem put_nd {X : Cx} {pins : List (Addr × Obj)} {σ : L2.St} {H : Hp} {s : Shared} {E : Value → Shared → Prop} {D c : Addr} {xs : List NE} {k : NestedKey} {u : Value} {Q : Unit → Shared → Prop} (hu : X.A.units + 8 < cLine) (I' : Inv X pins σ H s) (hD : H D = some (ndO X.prog X.w D xs)) (hz : xs.length < sizeLine)
    (ks : KeysAt X.prog X.w H xs) (kc : KeyAt X.prog X.w H k c) (q : ∀ s', Inv X pins σ (upd H D (ndO X.prog X.w D (storedH xs k c u))) s' → Q () s') : wpAny (model X.prog X.w) X.A (dictSet D (.ref c) u) Q E s := by
  obtain ⟨dd, h2, h1⟩ := nd_read I' (.inl hD) ks
  refine wpAny_dictSet_heap (hsz := h1) (knd := nestedKind X.prog X.w) hu (kc _ I'.hok) dd fun h' hm hs => q _ ?_
  have he : ∃ z, h'.get? D = some z := let ⟨z, _, _, hz, _⟩ := hm; ⟨z, hz⟩
  exact d_write I' (by rw [hD]; exact True.intro) hs he (nd_new (storedH_len hz) h2 hm)
theorem dn_core {pn : List (Addr × Obj)} {s0 : Shared} {σ : L2.St} {H0 : Hp} {Q : VK} {kx vx tg iter : Expr} {ifs : List Expr} {scope : Scope} {own : List (Str × Nat)} {pos pos' : Pos} {wi : TI} {g : TG} {tt : TT} {tk tv : TE} {Qf : Value → Shared → Prop} {use : Option (Value → Sem Unit)}
    (hcm : X.calm = true) (hu : X.A.units + 64 < cLine) (hnd : X.N.Nodup) (J0 : Inv X pn σ H0 s0) (hit : PI X tg iter wi) (bk : BlkOk X.N X.env.scope scope own)
    (pg : ∀ s H C cl fp, PG (Bk X scope s H C cl fp) tg g) (pt : ∀ s H C cl fp, PTs (Bk X scope s H C cl fp) ifs tt) (pk : ∀ s H C cl fp, PE (Bk X scope s H C cl fp) kx tk) (pv : ∀ s H C cl fp, PE (Bk X scope s H C cl fp) vx tv)
    (hfold : ∀ x, foldedSetIterable iter X.env x = pure x) (rd : tDn X.prog X.w wi g tt tk tv (own.map (·.2)) σ H0 Q)
    (fin : ∀ D C s' m H', Inv X pn σ H' s' → Q (.ref D) H' → s'.heap.Ns C m → FpOk X pn H' C → compPost (model X.prog X.w) X.A X.xe use Qf (.ref D) C (.ok .next) s') :
    wpAny (model X.prog X.w) X.A (comprehension (.DictComp kx vx [⟨tg, iter, ifs, 0⟩] scope pos) scope X.env pos' newDict false (eval iter X.env) use) Qf X.xe s0 := by
  have frees : ∀ y ∈ scope.names, y.2 = .free → ∃ c, X.env.cells.lookup y.1 = some c := fun y hy e => J0.ok.has _ ((bk.free y hy e).imp id id)
  refine wpAny_comprehension_free (use := use) rfl hfold (closure_ok frees) bk.kind (fun y hy e => (bk.uniq y hy).trans (congrArg some e)) (thn (hit.run pn s0 σ H0 _ J0 rd) fun xv sa ha => thn ha fun itv sb hb => ?_)
  obtain ⟨it, ob, tn, Jt, Hb, rfl, Jb, Tu, stb, fb, rd⟩ := hb
  refine wpAny_newObj_type (newEnv_comp ?_)
  generalize eD : sb.heap.objs.size = D
  have hDn : Hb D = none := Jb.hok.fresh (Nat.le_of_eq eD)
  obtain ⟨Wi, ⟨m0, w0⟩, turn⟩ := rd D hDn
  generalize es : ({ sb with heap := sb.heap.push { cls := .type "dict", data := .dict #[] } } : Shared) = sc
  have eh : sc.heap = sb.heap.push { cls := .type "dict", data := .dict #[] } := by rw [← es]
  have kept : ∀ b o, sb.heap.get? b = some o → sc.heap.get? b = some o := fun b o e => by rw [eh]; exact Heap.get?_push_of_some _ e
  have Jc : Inv X pn σ (upd Hb D (ndO X.prog X.w D [])) sc := by
    rw [← es]
    refine Jb.laid (t' := sb.toks) (fun b o e => Heap.get?_push_of_some _ e) (Nat.le_of_eq eD) ?_
    rw [← eD]
    exact nd_new (Nat.zero_le _) (beq_eq_false_iff_ne.mpr (Ne.symm (Nat.ne_of_lt Jb.big))) ⟨_, #[], 0, Heap.get?_push_size _ rfl, ⟨rfl, rfl, rfl⟩, rfl, rfl, (fun _ z => by simp at z), List.nodup_nil⟩
  have fc : ∀ b ∈ ob, FpOk X pn (upd Hb D (ndO X.prog X.w D [])) b ∧ b < sc.heap.objs.size := fun b hb => by
    obtain ⟨o, e, _⟩ := Tu.obj _ _ stb b hb
    have lt := Heap.lt_size e
    refine ⟨⟨?_, (fb b hb).2⟩, by rw [eh, Heap.size_push]; exact Nat.lt_succ_of_lt lt⟩
    rw [upd_ne (by rw [← eD]; exact Nat.ne_of_lt lt)]
    exact (fb b hb).1
  have stc : tn 0 sc.heap := Tu.keep _ _ _ stb fun b _ o e => kept b o e
  have Jd := block_start Jc bk hnd fc
  have qg := pg sc (upd Hb D (ndO X.prog X.w D [])) sc.heap.objs.size (cellsFrom (sc.heap.objs.size + 1) scope.names (cloFrom X.env.cells scope.names [])) ob
  have qt := pt sc (upd Hb D (ndO X.prog X.w D [])) sc.heap.objs.size (cellsFrom (sc.heap.objs.size + 1) scope.names (cloFrom X.env.cells scope.names [])) ob
  have qk := pk sc (upd Hb D (ndO X.prog X.w D [])) sc.heap.objs.size (cellsFrom (sc.heap.objs.size + 1) scope.names (cloFrom X.env.cells scope.names [])) ob
  have qv := pv sc (upd Hb D (ndO X.prog X.w D [])) sc.heap.objs.size (cellsFrom (sc.heap.objs.size + 1) scope.names (cloFrom X.env.cells scope.names [])) ob
  unfold Bk at qg qt qk qv
  show codeAny _ _ (.compStart (.DictComp kx vx [⟨tg, iter, ifs, 0⟩] scope pos) 0 (.ref it) (.ref D) (compEnvC scope (cellsFrom (sc.heap.objs.size + 1) scope.names (cloFrom X.env.cells scope.names [])) sc.heap.objs.size X.env)) (compPost (model X.prog X.w) X.A X.xe use Qf (.ref D) sc.heap.objs.size) { sc with heap := pushCells (sc.heap.push { cls := .type "dict", data := .dict #[] }) scope.names }
  generalize ee : compEnvC scope (cellsFrom (sc.heap.objs.size + 1) scope.names (cloFrom X.env.cells scope.names [])) sc.heap.objs.size X.env = ev at Jd qg qt qk qv ⊢
  have eL : ev.locals = sc.heap.objs.size := by subst ee; rfl
  generalize eH : upd Hb D (ndO X.prog X.w D []) = Hc at Jc Jd qg qt qk qv w0 fc
  have nob : ∀ b ∈ ob, Hc b = none := fun b hb => (fc b hb).1.1
  generalize es2 : ({ sc with heap := pushCells (sc.heap.push { cls := .type "dict", data := .dict #[] }) scope.names } : Shared) = sd at Jd ⊢
  have std : tn 0 sd.heap := Tu.keep _ _ _ stc fun b _ o e => by rw [← es2]; exact pushCells_keeps _ _ _ _ (Heap.get?_push_of_some _ e)
  have okf : ∀ {σ' : L2.St} {H' : Hp} {s' : Shared}, Inv (X.blk sc Hc scope ev ob) [] σ' H' s' → (∀ b ∈ ob, H' b = none) → ∀ b ∈ ob, FpOk (X.blk sc Hc scope ev ob) [] H' b := fun {σ' H' s'} J' hn b hb =>
    ⟨hn b hb, (J'.ok.exf b hb).1, J'.ok.exfs b hb, .inl hb, fun x c e => (J'.ok.exf b hb).2 x c e, fun p hp => by cases hp⟩
  have loop : codeAny (model X.prog X.w) X.A (.compLoop (.DictComp kx vx [⟨tg, iter, ifs, 0⟩] scope pos) 0 (.ref it) (.ref D) ev) (compPost (model X.prog X.w) X.A X.xe use Qf (.ref D) sc.heap.objs.size) sd := by
    refine compLoop_anyD (fun n s' => ∃ i H', Inv (X.blk sc Hc scope ev ob) [] (wipe σ (own.map (·.2))) H' s' ∧ tn i s'.heap ∧ (∀ b ∈ ob, H' b = none) ∧ Wi i n H') ?_ m0 ⟨0, Hc, Jd, std, nob, w0⟩
    rintro n s5 ⟨i, H5, J5, st5, n5, w5⟩
    rcases turn i n H5 w5 with ⟨hstop, hq⟩ | ⟨hgo, N, hN, step⟩
    · refine thnF (Tu.done (X.blk sc Hc scope ev ob) rfl rfl rfl hcm i [] s5 _ H5 (fun _ _ => False) J5 (okf J5 n5) st5 hstop) fun r s6 ⟨er, J6⟩ => ?_
      subst er
      have J7 : Inv X pn σ H5 s6 := Jc.call' (ch := ob) J6.os J6.base J6.hok J6.bare fun b hb => ⟨(fc b hb).1.2.2.2.1, (fc b hb).1.2.1, (fc b hb).1.2.2.2.2.1, (fc b hb).1.2.2.2.2.2⟩
      have fr : H5 sc.heap.objs.size = none := by
        have z : H5 ev.locals = none := J6.free
        rwa [eL] at z
      obtain ⟨m, hns, _⟩ := J6.loc
      have hns : s6.heap.Ns ev.locals m := hns
      rw [eL] at hns
      exact fin D sc.heap.objs.size s6 m H5 J7 hq hns (Jc.fpOk (Nat.le_refl _) fr)
    · refine thnF (Tu.item (X.blk sc Hc scope ev ob) rfl rfl rfl hcm i [] s5 _ H5 (fun _ _ => False) J5 (okf J5 n5) st5 hgo) fun r s6 ⟨u, er, h6⟩ => ?_
      subst er
      refine thnF h6 fun _ s7 ⟨x, H7, J7, r7, y7, st7, n7⟩ => ?_
      have Jp := J7.pinned (okf J7 n7) (Tu.obj _ _ st7)
      refine thnF (qg.run _ s7 _ H7 x u _ Jp r7 (step x H7 y7)) fun _ s8 ⟨σ8, H8, J8, hw8, q8⟩ => ?_
      refine thnF (qt.run _ s8 σ8 H8 _ J8 q8) fun b s9 ⟨H9, J9, q9⟩ => ?_
      have again : ∀ {s' : Shared} {H' : Hp}, Inv (X.blk sc Hc scope ev ob) ([] ++ pinsAt ob s7.heap) σ8 H' s' → N H' → ∃ m, m < n ∧ ∃ i H', Inv (X.blk sc Hc scope ev ob) [] (wipe σ (own.map (·.2))) H' s' ∧ tn i s'.heap ∧ (∀ b ∈ ob, H' b = none) ∧ Wi i m H' := fun {s' H'} J' hNx => by
        obtain ⟨m', lt, w'⟩ := hN H' hNx
        have pinned : ∀ b ∈ ob, ∀ o, s7.heap.get? b = some o → s'.heap.get? b = some o ∧ H' b = none := fun b hb o e =>
          have z := J'.pin (b, o) (List.mem_append_right _ (List.mem_append_right _ (mem_pinsAt hb e)))
          ⟨z.1, z.2.1⟩
        refine ⟨m', lt, i + 1, H', (J'.unpinned (pins := [])).weak (by rw [← hw8, wipe_length]) (fun j v e => by rw [← hw8] at e; exact (wipe_some e).1), Tu.keep _ _ _ st7 fun b hb o e => (pinned b hb o e).1, fun b hb => ?_, w'⟩
        obtain ⟨o, e, _⟩ := Tu.obj _ _ st7 b hb
        exact (pinned b hb o e).2
      cases b with
      | false =>
        simp only [Bool.false_eq_true, if_false] at q9 ⊢
        exact again J9 q9
      | true =>
        simp only [if_true] at q9 ⊢
        refine thnF (qk.run _ s9 σ8 H9 _ J9 q9) fun z s10 ⟨yk, H10, J10, r10, q10⟩ => ?_
        refine thnF (qv.run _ s10 σ8 H10 _ J10 q10) fun z2 s11 ⟨yv, H11, J11, r11, xs, k, c, ek, hD11, hz11, ks11, kc11, nx⟩ => ?_
        subst ek
        cases r10
        exact put_nd (X := X.blk sc Hc scope ev ob) (show X.A.units + 8 < cLine by omega) J11 hD11 hz11 ks11 kc11 fun s12 J12 => again J12 (nx z2 r11)
  exact codeAny_compStart_dict loop (Tu.self X.A 0 _ _ _ std loop)
theorem pe_dn {kx vx tg iter : Expr} {ifs : List Expr} {scope : Scope} {own : List (Str × Nat)} {pos : Pos} {wi : TI} {g : TG} {tt : TT} {tk tv : TE} (hcm : X.calm = true) (hu : X.A.units + 64 < cLine) (hnd : X.N.Nodup) (hit : PI X tg iter wi) (bk : BlkOk X.N X.env.scope scope own)
    (pg : ∀ s H C cl fp, PG (Bk X scope s H C cl fp) tg g) (pt : ∀ s H C cl fp, PTs (Bk X scope s H C cl fp) ifs tt) (pk : ∀ s H C cl fp, PE (Bk X scope s H C cl fp) kx tk) (pv : ∀ s H C cl fp, PE (Bk X scope s H C cl fp) vx tv)
    (hfold : ∀ x, foldedSetIterable iter X.env x = pure x) : PE X (.DictComp kx vx [⟨tg, iter, ifs, 0⟩] scope pos) (tDn X.prog X.w wi g tt tk tv (own.map (·.2))) := by
  refine ⟨fun pn s0 σ H0 Q J0 rd => ?_⟩
  rw [arm_eval_DictComp]
  refine dn_core hcm hu hnd J0 hit bk pg pt pk pv hfold rd fun D C s' m H' J' q hn fo => ⟨m, hn, fun h2 sb => ?_⟩
  obtain ⟨f0, f1, f2, f3, f4, f5⟩ := fo
  exact ⟨.ref D, H', J'.turned (t' := s'.toks) (fun b o hb e => (sb.2 b hb).trans e) f0 f1 f3 f4 f5, rfl, q⟩
/-- name = {..} on one line, the name a local -/
theorem ps_setDn {i : Nat} {y : Str} {py : Pos} {kx vx tg iter : Expr} {ifs : List Expr} {scope : Scope} {own : List (Str × Nat)} {pos spos : Pos} {wi : TI} {g : TG} {tt : TT} {tk tv : TE} (hcm : X.calm = true) (hu : X.A.units + 64 < cLine) (hnd : X.N.Nodup) (hy : X.N[i]? = some y) (hyl : X.env.scope.names.lookup y = some .local)
    (hsw : swapsWith (.DictComp kx vx [⟨tg, iter, ifs, 0⟩] scope pos) (some (.Name y py)) spos.line X.env = pure true) (hit : PI X tg iter wi) (bk : BlkOk X.N X.env.scope scope own)
    (pg : ∀ s H C cl fp, PG (Bk X scope s H C cl fp) tg g) (pt : ∀ s H C cl fp, PTs (Bk X scope s H C cl fp) ifs tt) (pk : ∀ s H C cl fp, PE (Bk X scope s H C cl fp) kx tk) (pv : ∀ s H C cl fp, PE (Bk X scope s H C cl fp) vx tv)
    (hfold : ∀ x, foldedSetIterable iter X.env x = pure x) : PS X (.Assign [.Name y py] (.DictComp kx vx [⟨tg, iter, ifs, 0⟩] scope pos) spos) (tAsg (tDn X.prog X.w wi g tt tk tv (own.map (·.2))) (gName i)) := by
  refine ⟨fun pn s0 σ H0 D0 J0 rd => ?_⟩
  rw [exec_Assign_Name_used _ _ _ _ hsw]
  refine wpAny_bind (wpAny_standAt (wpAny_bind ?_))
  show wpAny _ X.A (comprehension (.DictComp kx vx [⟨tg, iter, ifs, 0⟩] scope pos) scope X.env (firstIterPos [⟨tg, iter, ifs, 0⟩] pos) newDict false (eval iter X.env) (some (assign (.Name y py) X.env)) >>= fun _ => pure ()) _ _ s0
  have rd : tDn X.prog X.w wi g tt tk tv (own.map (·.2)) σ H0 (fun x H1 => gName i x σ H1 D0.nx) := rd
  refine wpAny_bind (thn (dn_core (Qf := fun _ s' => SP X pn D0 .next s') hcm hu hnd J0 hit bk pg pt pk pv hfold rd fun L C s' m H' J' q hn fo => ?_) fun _ s' hq => wpAny_pure (wpAny_pure hq))
  show wpAny _ _ (assign (.Name y py) X.env (.ref L)) _ _ _
  refine wpAny_assign_Name (store_ok2 (v := V.ref L) J' hnd hy (.inl hyl) rfl (fun s2 J2 ⟨a, sb, ha⟩ => ?_) (.inr hyl))
  obtain ⟨f0, f1, f2, f3, f4, f5⟩ := fo
  have ne : C ≠ a := ha.elim (fun z e => f1 (e.trans z)) fun z e => f4 y a z e.symm
  exact ⟨m, hn.sameBut sb ne, fun h3 sb3 => ⟨_, H', J2.turned (t' := s2.toks) (fun b o hb e => (sb3.2 b hb).trans e) f0 f1 f3 f4 f5, q⟩⟩
end
end K66
set_option maxHeartbeats 4000000
namespace K66
variable [TabAt]
open PySem PySem.Spec PyProof.Rows L2
def ndStep (acc : List Dt × List Dt) (p : List Dt × Dt) : List Dt × List Dt := (ndPutK acc.1 (.tup p.1), ndPutV acc.1 acc.2 (.tup p.1) p.2)
theorem kOkL_app : ∀ {xs ys : List Dt} {n : Nat}, kOkL xs n = true → kOkL ys n = true → kOkL (xs ++ ys) n = true
  | [], _, _, _, h => h
  | x :: xs, ys, n, h, q => by
    obtain ⟨h1, h2⟩ := Bool.and_eq_true_iff.mp (show (kOk x n && kOkL xs n) = true from h)
    show (kOk x n && kOkL (xs ++ ys) n) = true
    rw [h1, kOkL_app h2 q]; rfl
theorem kOkL_put {ks : List Dt} {k : Dt} (h : kOkL ks 8 = true) (hk : kOk k 8 = true) : kOkL (ndPutK ks k) 8 = true := by
  unfold ndPutK
  split
  · exact h
  · exact kOkL_app h (by show (kOk k 8 && kOkL [] 8) = true; rw [hk]; rfl)
theorem ndPutK_len {ks : List Dt} {k : Dt} : (ndPutK ks k).length ≤ ks.length + 1 := by
  unfold ndPutK
  split
  · omega
  · rw [List.length_append]; exact Nat.le_refl _
section
variable {X : Cx} {ds : List Sl} {kx vx tg iter : Expr} {ifs : List Expr} {scope : Scope} {own : List (Str × Nat)} {pos : Pos}
theorem foldl_take {α β : Type} {f : β → α → β} {o : α → Option α} {b : β} : True := True.intro
theorem dn_run {zs : List (Dt × Option (List Dt × Dt))} (hc : X.calm = true) (hu : X.A.units + 64 < cLine) (hN : X.N.Nodup) (hi : EvI X (fun _ => False) tg iter ds (zs.map (·.1))) (ok : BlkOk X.N X.env.scope scope own) (hl : zs.length ≤ 100000) (hk : ∀ p ∈ zs.filterMap (·.2), kOk (.tup p.1) 8 = true)
    (hb : ∀ z ∈ zs, ∃ ds' is, (∀ j ∈ is, j ∈ own.map (·.2)) ∧ (∀ s H C cl fp, EvG (Bk X scope s H C cl fp) tg z.1 (wipeD ds (own.map (·.2))) is ds') ∧ (∀ s H C cl fp, EvTs (Bk X scope s H C cl fp) ifs ds' z.2.isSome) ∧
      ∀ p, z.2 = some p → (∀ s H C cl fp, EvD (Bk X scope s H C cl fp) kx ds' (.tup p.1)) ∧ ∀ s H C cl fp, EvD (Bk X scope s H C cl fp) vx ds' p.2)
    {C H : Hp} {σ : L2.St} (S : SDx X C H σ ds) {Q : VK} (q : ∀ D C2 H2 xs us, Stp C H C2 H2 → C2 D = none → H D = none → H2 D = some (ndO X.prog X.w D xs) → IsK X.prog X.w C2 ((zs.filterMap (·.2)).foldl ndStep ([], [])).1 xs → Vals us (xs.map (·.2.2)) → IsLx X C2 ((zs.filterMap (·.2)).foldl ndStep ([], [])).2 us → Q (.ref D) H2) :
    tDn X.prog X.w (wpI X tg iter) (fun v σ H Q => ∀ s H0 C cl fp, wpG (Bk X scope s H0 C cl fp) tg v σ H Q) (fun σ H Q => ∀ s H0 C cl fp, wpTs (Bk X scope s H0 C cl fp) ifs σ H Q) (fun σ H Q => ∀ s H0 C cl fp, wpE (Bk X scope s H0 C cl fp) kx σ H Q) (fun σ H Q => ∀ s H0 C cl fp, wpE (Bk X scope s H0 C cl fp) vx σ H Q) (own.map (·.2)) σ H Q := by
  refine hi C H σ S _ fun J C1 H1 x1 wk D hD => ?_
  have z0 : Stp C1 H1 C1 (upd H1 D (ndO X.prog X.w D [])) := .only x1.le' (same_new hD)
  have hD0 : H D = none := by
    cases e : H D with
    | none => rfl
    | some o => exact absurd hD (x1.th D (by rw [e]; exact fun z => nomatch z))
  have wkat : ∀ {C2 H2 : Hp}, Stw (fun a => a = D) C1 (upd H1 D (ndO X.prog X.w D [])) C2 H2 → Stp C1 H1 C2 H2 := fun {C2 H2} y =>
    (Stw.old (W := fun _ => False) z0.w y fun a e => .inr (by rw [e]; exact hD)).stp fun _ z => z
  let acc : Nat → List Dt × List Dt := fun i => ((zs.take i).filterMap (·.2)).foldl ndStep ([], [])
  have accOk : ∀ i, kOkL (acc i).1 8 = true ∧ (acc i).1.length ≤ i := fun i => by
    have gen : ∀ (l : List (List Dt × Dt)) (a : List Dt × List Dt), kOkL a.1 8 = true → (∀ p ∈ l, kOk (.tup p.1) 8 = true) → kOkL (l.foldl ndStep a).1 8 = true ∧ (l.foldl ndStep a).1.length ≤ a.1.length + l.length := fun l => by
      induction l with
      | nil => exact fun a h _ => ⟨h, Nat.le_refl _⟩
      | cons p l ih =>
        intro a h hp
        obtain ⟨h1, h2⟩ := ih (ndStep a p) (kOkL_put h (hp p (by simp))) fun x hx => hp x (List.mem_cons_of_mem _ hx)
        refine ⟨h1, Nat.le_trans h2 ?_⟩
        have := ndPutK_len (ks := a.1) (k := .tup p.1)
        have e : (ndStep a p).1 = ndPutK a.1 (.tup p.1) := rfl
        rw [e, List.length_cons]; omega
    obtain ⟨g1, g2⟩ := gen ((zs.take i).filterMap (·.2)) ([], []) rfl fun p hp => by
      obtain ⟨z, hz, e⟩ := List.mem_filterMap.mp hp
      exact hk p (List.mem_filterMap.mpr ⟨z, List.mem_of_mem_take hz, e⟩)
    refine ⟨g1, Nat.le_trans g2 ?_⟩
    have : ((zs.take i).filterMap (·.2)).length ≤ (zs.take i).length := List.length_filterMap_le ..
    rw [List.length_take] at this
    simp only [List.length_nil]
    omega
  let St : Nat → Hp → Prop := fun i H2 => ∃ C2 xs us, Stw (fun a => a = D) C1 (upd H1 D (ndO X.prog X.w D [])) C2 H2 ∧ C2 D = none ∧ H2 D = some (ndO X.prog X.w D xs) ∧ IsK X.prog X.w C2 (acc i).1 xs ∧ Vals us (xs.map (·.2.2)) ∧ IsLx X C2 (acc i).2 us
  refine ⟨fun i m H2 => m = zs.length - i ∧ i ≤ zs.length ∧ St i H2, ⟨zs.length, by omega, Nat.zero_le _, C1, [], [], .refl z0.le', x1.le'.dom D hD, upd_same, rfl, .nil, rfl⟩, ?_⟩
  rintro i m H2 ⟨rfl, hile, C2, xs, us, y2, n2, h2, k2, v2, i2⟩
  have t2 := wkat y2
  obtain ⟨w1, w2⟩ := wk C2 H2 t2.w i
  by_cases hlt : i < zs.length
  · obtain ⟨hgo, hy⟩ := w1 zs[i].1 (by rw [List.getElem?_map, List.getElem?_eq_getElem hlt]; rfl)
    refine .inr ⟨hgo, St (i + 1), fun H' h' => ⟨zs.length - (i + 1), by omega, rfl, hlt, h'⟩, fun v H3 hv => ?_⟩
    obtain ⟨C3, x3, i3⟩ := hy v H3 hv
    obtain ⟨ds', is, his, hg, ht, he⟩ := hb zs[i] (List.getElem_mem hlt)
    have S3 : SDx X C3 H3 (wipe σ (own.map (·.2))) (wipeD ds (own.map (·.2))) := (S.mono ((x1.trans t2).trans x3)).wiped _
    intro s H0 Ca cl fp
    refine (hg s H0 Ca cl fp).run C3 H3 _ v S3 i3 _ fun σ4 C4 H4 x4 S4 l4 k4 => ⟨?_, fun s H0 Ca cl fp => ht s H0 Ca cl fp C4 H4 σ4 S4 _ fun C5 H5 x5 => ?_⟩
    · rw [wipe_eq l4 fun j hj => k4 j fun hm => hj (his j hm), wipe_wipe]
    · have x25 := (x3.trans x4).trans x5
      have eq := filterMap_take (f := fun z : Dt × Option (List Dt × Dt) => z.2) (List.getElem?_eq_getElem hlt)
      have hne : H2 D ≠ none := by rw [h2]; exact fun z => nomatch z
      have eacc : acc (i + 1) = (zs[i].2.toList).foldl ndStep (acc i) := by
        show ((zs.take (i + 1)).filterMap (·.2)).foldl ndStep ([], []) = _
        rw [eq, List.foldl_append]
      cases hf : zs[i].2 with
      | none =>
        rw [Option.isSome_none]
        rw [hf] at eacc
        refine iteF ⟨C5, xs, us, y2.trans x25.w, x25.hid D n2 hne, x25.same _ _ n2 h2, ?_, v2, ?_⟩
        · rw [eacc]; exact IsK.mono x25.le _ _ k2
        · rw [eacc]; exact IsL.mono x25.le _ _ i2
      | some p =>
        rw [Option.isSome_some]
        rw [hf] at eacc
        obtain ⟨hk1, hv1⟩ := he p hf
        refine iteT fun s H0 Ca cl fp => hk1 s H0 Ca cl fp C5 H5 σ4 (S4.mono x5) _ fun u C6 H6 x6 i6 => fun s H0 Ca cl fp => hv1 s H0 Ca cl fp C6 H6 σ4 ((S4.mono x5).mono x6) _ fun u2 C7 H7 x7 i7 => ?_
        have x27 := (x25.trans x6).trans x7
        have n7 : C7 D = none := x27.hid D n2 hne
        have i6' := Is.mono (C' := C7) x7.le _ _ i6
        have k7 := IsK.mono (C' := C7) x27.le _ _ k2
        have hpk : kOk (.tup p.1) 8 = true := hk p (List.mem_filterMap.mpr ⟨zs[i], List.getElem_mem hlt, hf⟩)
        obtain ⟨b, ws, rfl, r6, j6⟩ := id i6
        obtain ⟨a1, a2⟩ := accOk i
        refine ⟨xs, _, b, rfl, x27.same _ _ n2 h2, ?_, k7.keysAt x27.le' a1, Is.keyAt x27.le' hpk i6', fun uu ru => ?_⟩
        · rw [k2.len]; exact Nat.lt_of_le_of_lt (Nat.le_trans a2 (Nat.le_trans (Nat.le_of_lt hlt) hl)) (by decide)
        · obtain ⟨p1, us', p2, p3⟩ := ndPut_at (k := .tup p.1) k7 v2 (IsL.mono x27.le _ _ i2) i6' i7 ru
          refine ⟨C7, _, us', (y2.trans x27.w).trans (Stw.out x27.le' n7 rfl), n7, upd_same, ?_, p2, ?_⟩
          · rw [eacc]; exact p1
          · rw [eacc]; exact p3
  · have hie : i = zs.length := by omega
    subst hie
    have ea : acc zs.length = (zs.filterMap (·.2)).foldl ndStep ([], []) := by show ((zs.take zs.length).filterMap (·.2)).foldl ndStep ([], []) = _; rw [List.take_length]
    rw [ea] at k2 i2
    exact .inl ⟨w2 (by rw [List.length_map]; exact Nat.le_refl _), q D C2 H2 xs us (x1.trans t2) n2 hD0 h2 k2 v2 i2⟩
theorem EvD.dn {zs : List (Dt × Option (List Dt × Dt))} (hc : X.calm = true) (hu : X.A.units + 64 < cLine) (hN : X.N.Nodup) (hi : EvI X (fun _ => False) tg iter ds (zs.map (·.1))) (ok : BlkOk X.N X.env.scope scope own) (hl : zs.length ≤ 100000) (hk : ∀ p ∈ zs.filterMap (·.2), kOk (.tup p.1) 8 = true)
    (hb : ∀ z ∈ zs, ∃ ds' is, (∀ j ∈ is, j ∈ own.map (·.2)) ∧ (∀ s H C cl fp, EvG (Bk X scope s H C cl fp) tg z.1 (wipeD ds (own.map (·.2))) is ds') ∧ (∀ s H C cl fp, EvTs (Bk X scope s H C cl fp) ifs ds' z.2.isSome) ∧
      ∀ p, z.2 = some p → (∀ s H C cl fp, EvD (Bk X scope s H C cl fp) kx ds' (.tup p.1)) ∧ ∀ s H C cl fp, EvD (Bk X scope s H C cl fp) vx ds' p.2)
    (hs : ∀ x, foldedSetIterable iter X.env x = pure x := by intro _; rfl) : EvD X (.DictComp kx vx [⟨tg, iter, ifs, 0⟩] scope pos) ds (.nd ((zs.filterMap (·.2)).foldl ndStep ([], [])).1 ((zs.filterMap (·.2)).foldl ndStep ([], [])).2) := fun C H σ S Q q => by
  refine wpE.lockNew (peW (pe_dn hc hu hN wpI.pi ok (g := fun v σ H Q => ∀ s H0 C cl fp, wpG (Bk X scope s H0 C cl fp) tg v σ H Q) (tt := fun σ H Q => ∀ s H0 C cl fp, wpTs (Bk X scope s H0 C cl fp) ifs σ H Q) (tk := fun σ H Q => ∀ s H0 C cl fp, wpE (Bk X scope s H0 C cl fp) kx σ H Q) (tv := fun σ H Q => ∀ s H0 C cl fp, wpE (Bk X scope s H0 C cl fp) vx σ H Q)
    (fun s H C cl fp => ⟨fun pins s' σ H' v u Q J r h => (h s H C cl fp).go pins s' u J r⟩) (fun s H C cl fp => ⟨fun pins s' σ H' Q J h => (h s H C cl fp).go pins s' J⟩) (fun s H C cl fp => ⟨fun pins s' σ H' Q J h => (h s H C cl fp).go pins s' J⟩) (fun s H C cl fp => ⟨fun pins s' σ H' Q J h => (h s H C cl fp).go pins s' J⟩) hs) (dn_run hc hu hN hi ok hl hk hb S fun D C2 H2 xs us x2 n2 hD0 h2 k2 v2 i2 => ⟨D, _, rfl, h2, True.intro, fun od => ?_⟩))
  have y : Stw (fun b => b = D) C2 H2 (upd C2 D (.frz od (ndO X.prog X.w D xs))) (upd H2 D (.frz od (ndO X.prog X.w D xs))) := .inn x2.le' n2 rfl
  exact q _ _ _ ((Stw.old (W := fun _ => False) x2.w y fun a e => .inr (by rw [e]; exact hD0)).stp fun _ z => z) ⟨D, od, xs, us, rfl, upd_same, IsK.mono y.le _ _ k2, v2, IsL.mono y.le _ _ i2⟩
/-- name = {..} on one line: the name's own dict -/
theorem S1.asgDn (i : Nat) {y : Str} {py spos : Pos} {Ψ : Res → Prop} {zs : List (Dt × Option (List Dt × Dt))} (hc : X.calm = true) (hu : X.A.units + 64 < cLine) (hN : X.N.Nodup) (hi : EvI X (fun _ => False) tg iter ds (zs.map (·.1))) (ok : BlkOk X.N X.env.scope scope own) (hl : zs.length ≤ 100000) (hk : ∀ p ∈ zs.filterMap (·.2), kOk (.tup p.1) 8 = true)
    (hb : ∀ z ∈ zs, ∃ ds' is, (∀ j ∈ is, j ∈ own.map (·.2)) ∧ (∀ s H C cl fp, EvG (Bk X scope s H C cl fp) tg z.1 (wipeD ds (own.map (·.2))) is ds') ∧ (∀ s H C cl fp, EvTs (Bk X scope s H C cl fp) ifs ds' z.2.isSome) ∧
      ∀ p, z.2 = some p → (∀ s H C cl fp, EvD (Bk X scope s H C cl fp) kx ds' (.tup p.1)) ∧ ∀ s H C cl fp, EvD (Bk X scope s H C cl fp) vx ds' p.2)
    (k : Ψ (.nx (ds.set i (.on ((zs.filterMap (·.2)).foldl ndStep ([], [])).1 ((zs.filterMap (·.2)).foldl ndStep ([], [])).2)))) (hy : X.N[i]? = some y := by rfl) (hyl : X.env.scope.names.lookup y = some .local := by rfl)
    (hsw : swapsWith (.DictComp kx vx [⟨tg, iter, ifs, 0⟩] scope pos) (some (.Name y py)) spos.line X.env = pure true := by rfl) (hs : ∀ x, foldedSetIterable iter X.env x = pure x := by intro _; rfl) :
    S1 X (.Assign [.Name y py] (.DictComp kx vx [⟨tg, iter, ifs, 0⟩] scope pos) spos) ds Ψ := fun W C0 H0 C H σ D0 x ⟨f, S⟩ q => by
  refine psW (ps_setDn hc hu hN hy hyl hsw wpI.pi ok (g := fun v σ H Q => ∀ s H0 C cl fp, wpG (Bk X scope s H0 C cl fp) tg v σ H Q) (tt := fun σ H Q => ∀ s H0 C cl fp, wpTs (Bk X scope s H0 C cl fp) ifs σ H Q) (tk := fun σ H Q => ∀ s H0 C cl fp, wpE (Bk X scope s H0 C cl fp) kx σ H Q) (tv := fun σ H Q => ∀ s H0 C cl fp, wpE (Bk X scope s H0 C cl fp) vx σ H Q)
    (fun s H C cl fp => ⟨fun pins s' σ H' v u Q J r h => (h s H C cl fp).go pins s' u J r⟩) (fun s H C cl fp => ⟨fun pins s' σ H' Q J h => (h s H C cl fp).go pins s' J⟩) (fun s H C cl fp => ⟨fun pins s' σ H' Q J h => (h s H C cl fp).go pins s' J⟩) (fun s H C cl fp => ⟨fun pins s' σ H' Q J h => (h s H C cl fp).go pins s' J⟩) hs) (dn_run hc hu hN hi ok hl hk hb S.sd fun D C2 H2 xs us x2 n2 hD0 h2 k2 v2 i2 => ?_)
  exact q _ k C2 H2 _ (x.thenS x2) x2.prg ⟨_, S.set (i := i) x2.w (Vw := fun _ => False) (fun _ z => z.elim) (fp := [D]) ⟨D, xs, us, rfl, rfl, n2, h2, k2, v2, i2⟩ (nd1 D) (fun a ha => .inr (by rw [List.mem_singleton.mp ha]; exact hD0)) fun a ha => x.back ha⟩
end
section
variable {X : Cx} {ds : List Sl} {elt tg iter : Expr} {ifs : List Expr} {scope : Scope} {own : List (Str × Nat)} {pos : Pos}
/-- name = [..] on one line -/
theorem S1.asgLc (i : Nat) {y : Str} {py spos : Pos} {Ψ : Res → Prop} {α : Type} {enc : α → Dt} {g : α → Option Dt} {ys : List α} (hc : X.calm = true) (hN : X.N.Nodup) (hi : EvI X (fun _ => False) tg iter ds (ys.map enc)) (ok : BlkOk X.N X.env.scope scope own) (hl : ys.length ≤ 100000)
    (hb : ∀ y ∈ ys, ∃ ds' is, (∀ j ∈ is, j ∈ own.map (·.2)) ∧ (∀ s H C cl fp, EvG (Bk X scope s H C cl fp) tg (enc y) (wipeD ds (own.map (·.2))) is ds') ∧ (∀ s H C cl fp, EvTs (Bk X scope s H C cl fp) ifs ds' (g y).isSome) ∧ ∀ d, g y = some d → ∀ s H C cl fp, EvD (Bk X scope s H C cl fp) elt ds' d)
    (k : Ψ (.nx (ds.set i (.d (.lst (ys.filterMap g)))))) (hy : X.N[i]? = some y := by rfl) (hyl : X.env.scope.names.lookup y = some .local := by rfl)
    (hsw : swapsWith (.ListComp elt [⟨tg, iter, ifs, 0⟩] scope pos) (some (.Name y py)) spos.line X.env = pure true := by rfl) (hs : ∀ x, foldedSetIterable iter X.env x = pure x := by intro _; rfl) :
    S1 X (.Assign [.Name y py] (.ListComp elt [⟨tg, iter, ifs, 0⟩] scope pos) spos) ds Ψ := fun W C0 H0 C H σ D0 x ⟨f, S⟩ q => by
  have e1 : ys.map enc = (ys.map fun y => (enc y, g y)).map (·.1) := by rw [List.map_map]; rfl
  have e2 : ys.filterMap g = (ys.map fun y => (enc y, g y)).filterMap (·.2) := by rw [List.filterMap_map]; rfl
  rw [e1] at hi
  rw [e2] at k
  refine psW (ps_setLc hc hN hy hyl hsw wpI.pi ok (g := fun v σ H Q => ∀ s H0 C cl fp, wpG (Bk X scope s H0 C cl fp) tg v σ H Q) (tt := fun σ H Q => ∀ s H0 C cl fp, wpTs (Bk X scope s H0 C cl fp) ifs σ H Q) (te := fun σ H Q => ∀ s H0 C cl fp, wpE (Bk X scope s H0 C cl fp) elt σ H Q)
    (fun s H C cl fp => ⟨fun pins s' σ H' v u Q J r h => (h s H C cl fp).go pins s' u J r⟩) (fun s H C cl fp => ⟨fun pins s' σ H' Q J h => (h s H C cl fp).go pins s' J⟩) (fun s H C cl fp => ⟨fun pins s' σ H' Q J h => (h s H C cl fp).go pins s' J⟩) hs)
    (lc_run hc hN hi ok (by rw [List.length_map]; exact hl) (fun z hz => by
      obtain ⟨y, hy, rfl⟩ := List.mem_map.mp hz
      exact hb y hy) S.sd fun D C2 H2 acc x2 n2 n0 h2 i2 => ?_)
  have y : Stw (fun b => b = D) C2 H2 (upd C2 D (.lst acc)) (upd H2 D (.lst acc)) := .inn x2.le' n2 rfl
  rw [upd_self h2] at y
  have x3 : Stp C H (upd C2 D (.lst acc)) H2 := (Stw.old (W := fun _ => False) x2.w y fun a e => .inr (by rw [e]; exact n0)).stp fun _ z => z
  exact q _ k _ H2 _ (x.thenS x3) x3.prg ⟨_, S.set (i := i) x3.w (Vw := fun _ => False) (fun _ z => z.elim) (fp := []) ⟨rfl, _, rfl, D, acc, rfl, upd_same, IsL.mono y.le _ _ i2⟩ List.nodup_nil (fun a ha => by simp at ha) fun a ha => x.back ha⟩
end
section
variable {X : Cx} {ds : List Sl} {kx vx tg iter : Expr} {ifs : List Expr} {scope : Scope} {own : List (Str × Nat)} {pos : Pos}
/-- keys texts, all of them apart -/
theorem EvD.dcs {α : Type} {enc : α → Dt} {kf : α → Str} {vf : α → Dt} {ys : List α} (hc : X.calm = true) (hN : X.N.Nodup) (hi : EvI X (fun _ => False) tg iter ds (ys.map enc)) (ok : BlkOk X.N X.env.scope scope own) (hl : ys.length ≤ 100000) (hn : (ys.map kf).Nodup)
    (hb : ∀ y ∈ ys, ∃ ds' is, (∀ j ∈ is, j ∈ own.map (·.2)) ∧ (∀ s H C cl fp, EvG (Bk X scope s H C cl fp) tg (enc y) (wipeD ds (own.map (·.2))) is ds') ∧ (∀ s H C cl fp, EvD (Bk X scope s H C cl fp) kx ds' (.str (kf y))) ∧ ∀ s H C cl fp, EvD (Bk X scope s H C cl fp) vx ds' (vf y))
    (hs : ∀ x, foldedSetIterable iter X.env x = pure x := by intro _; rfl) : EvD X (.DictComp kx vx [⟨tg, iter, [], 0⟩] scope pos) ds (.dic (ys.map fun y => .inr (kf y)) (ys.map vf)) := fun C H σ S Q q => by
  refine wpE.lockNew (peW (pe_dc hc hN wpI.pi ok (g := fun v σ H Q => ∀ s H0 C cl fp, wpG (Bk X scope s H0 C cl fp) tg v σ H Q) (tt := tYes) (tk := fun σ H Q => ∀ s H0 C cl fp, wpE (Bk X scope s H0 C cl fp) kx σ H Q) (tv := fun σ H Q => ∀ s H0 C cl fp, wpE (Bk X scope s H0 C cl fp) vx σ H Q)
    (fun s H C cl fp => ⟨fun pins s' σ H' v u Q J r h => (h s H C cl fp).go pins s' u J r⟩) (fun s H C cl fp => pts_nil) (fun s H C cl fp => ⟨fun pins s' σ H' Q J h => (h s H C cl fp).go pins s' J⟩) (fun s H C cl fp => ⟨fun pins s' σ H' Q J h => (h s H C cl fp).go pins s' J⟩) hs) ?_)
  refine hi C H σ S _ fun J C1 H1 x1 wk D hD => ?_
  have z0 : Stp C1 H1 C1 (upd H1 D (.dK [])) := .only x1.le' (same_new hD)
  have hD0 : H D = none := by
    cases e : H D with
    | none => rfl
    | some o => exact absurd hD (x1.th D (by rw [e]; exact fun z => nomatch z))
  have wkat : ∀ {C2 H2 : Hp}, Stw (fun a => a = D) C1 (upd H1 D (.dK [])) C2 H2 → Stp C1 H1 C2 H2 := fun {C2 H2} y =>
    (Stw.old (W := fun _ => False) z0.w y fun a e => .inr (by rw [e]; exact hD)).stp fun _ z => z
  let St : Nat → Hp → Prop := fun i H2 => ∃ C2 us, Stw (fun a => a = D) C1 (upd H1 D (.dK [])) C2 H2 ∧ C2 D = none ∧ H2 D = some (.dK (((ys.take i).map fun y => (.inr (kf y) : Key)).zip us)) ∧ ((ys.take i).map fun y => (.inr (kf y) : Key)).length = us.length ∧ IsLx X C2 ((ys.take i).map vf) us
  refine ⟨fun i m H2 => m = ys.length - i ∧ i ≤ ys.length ∧ St i H2, ⟨ys.length, by omega, Nat.zero_le _, C1, [], .refl z0.le', x1.le'.dom D hD, upd_same, rfl, rfl⟩, ?_⟩
  rintro i m H2 ⟨rfl, hile, C2, us, y2, n2, h2, l2, i2⟩
  have t2 := wkat y2
  obtain ⟨w1, w2⟩ := wk C2 H2 t2.w i
  by_cases hlt : i < ys.length
  · obtain ⟨hgo, hy⟩ := w1 (enc ys[i]) (by rw [List.getElem?_map, List.getElem?_eq_getElem hlt]; rfl)
    refine .inr ⟨hgo, St (i + 1), fun H' h' => ⟨ys.length - (i + 1), by omega, rfl, hlt, h'⟩, fun v H3 hv => ?_⟩
    obtain ⟨C3, x3, i3⟩ := hy v H3 hv
    obtain ⟨ds', is, his, hg, hk1, hv1⟩ := hb ys[i] (List.getElem_mem hlt)
    have S3 : SDx X C3 H3 (wipe σ (own.map (·.2))) (wipeD ds (own.map (·.2))) := (S.mono ((x1.trans t2).trans x3)).wiped _
    intro s H0 Ca cl fp
    refine (hg s H0 Ca cl fp).run C3 H3 _ v S3 i3 _ fun σ4 C4 H4 x4 S4 l4 k4 => ⟨?_, ?_⟩
    · rw [wipe_eq l4 fun j hj => k4 j fun hm => hj (his j hm), wipe_wipe]
    · show (if true = true then _ else St (i + 1) H4)
      rw [if_pos rfl]
      refine fun s H0 Ca cl fp => hk1 s H0 Ca cl fp C4 H4 σ4 S4 _ fun u C6 H6 x6 i6 => fun s H0 Ca cl fp => hv1 s H0 Ca cl fp C6 H6 σ4 (S4.mono x6) _ fun u2 C7 H7 x7 i7 => ?_
      have hne : H2 D ≠ none := by rw [h2]; exact fun z => nomatch z
      have x27 := ((x3.trans x4).trans x6).trans x7
      have n7 : C7 D = none := x27.hid D n2 hne
      obtain ⟨us', p1, p2, p3⟩ := dPut_at (q := .inr (kf ys[i])) i7 (IsL.mono x27.le _ _ i2) l2
      have hnew : hasK ((ys.take i).map fun y => (.inr (kf y) : Key)) (.inr (kf ys[i])) = false := by
        have e : ((ys.take i).map fun y => (.inr (kf y) : Key)) = ((ys.take i).map fun y => (kf y, ())).map fun p => .inr p.1 := by rw [List.map_map]; rfl
        rw [e, sD_has]
        refine Bool.eq_false_iff.mpr fun z => ?_
        have z := alHas_iff.mp z
        rw [List.map_map] at z
        obtain ⟨y, hy1, hy2⟩ := List.mem_map.mp z
        obtain ⟨j, hj, hj2⟩ := List.getElem_of_mem hy1
        rw [List.length_take] at hj
        rw [List.getElem_take] at hj2
        have e1 : (ys.map kf)[j]'(by rw [List.length_map]; omega) = (ys.map kf)[i]'(by rw [List.length_map]; omega) := by
          rw [List.getElem_map, List.getElem_map, hj2]; exact hy2
        have := (List.getElem_inj hn).mp e1
        omega
      have e1 : dPutK ((ys.take i).map fun y => (.inr (kf y) : Key)) (.inr (kf ys[i])) = (ys.take (i + 1)).map fun y => (.inr (kf y) : Key) := by
        unfold dPutK
        rw [if_neg (by rw [hnew]; exact Bool.false_ne_true), List.take_add_one, List.getElem?_eq_getElem hlt, List.map_append]
        rfl
      have e2 : dPutV ((ys.take i).map fun y => (.inr (kf y) : Key)) ((ys.take i).map vf) (.inr (kf ys[i])) (vf ys[i]) = (ys.take (i + 1)).map vf := by
        unfold dPutV
        rw [if_neg (by rw [hnew]; exact Bool.false_ne_true), List.take_add_one, List.getElem?_eq_getElem hlt, List.map_append]
        rfl
      refine ⟨_, .inr (kf ys[i]), i6, x27.same _ _ n2 h2, ?_, C7, us', (y2.trans x27.w).trans (Stw.out x27.le' n7 rfl), n7, ?_, ?_, ?_⟩
      · rw [zip_len l2, List.length_map, List.length_take]
        exact Nat.lt_of_le_of_lt (Nat.le_trans (Nat.min_le_right ..) hl) (by decide)
      · rw [upd_same, p1, e1]
      · rw [← e1]; exact p2
      · rw [← e2]; exact p3
  · have hie : i = ys.length := by omega
    subst hie
    rw [List.take_length] at h2 l2 i2
    refine .inl ⟨w2 (by rw [List.length_map]; exact Nat.le_refl _), D, _, rfl, h2, True.intro, fun od => ?_⟩
    have x2 := x1.trans t2
    have y : Stw (fun b => b = D) C2 H2 (upd C2 D (.frz od (.dK ((ys.map fun y => (.inr (kf y) : Key)).zip us)))) (upd H2 D (.frz od (.dK ((ys.map fun y => (.inr (kf y) : Key)).zip us)))) := .inn y2.le' n2 rfl
    exact q _ _ _ ((Stw.old (W := fun _ => False) x2.w y fun a e => .inr (by rw [e]; exact hD0)).stp fun _ z => z) ⟨D, od, us, rfl, upd_same, l2, IsL.mono y.le _ _ i2⟩
end
end K66
set_option maxHeartbeats 4000000
namespace K66
variable [TabAt]
open PySem PySem.Spec PyProof.Rows L2
theorem EvO.of {X : Cx} {e : Expr} {ds : List Sl} {d : Dt} (h : EvD X e ds d) : EvO X e ds (.d d) := h.o
section
variable {X : Cx} {ds : List Sl} {a : Expr} {pos p : Pos} {α : Type} {ys : List α} {f : α → Bool}
theorem EvD.allm (hc : X.calm = true) (ha : EvD X a ds (.lst (ys.map fun y => .bl (f y)))) (hm : X.mg "all" = none) (hg : Gl X "all" := by rfl) (hst : starEach [a] X.env = (false, eval a X.env) :: starEach [] X.env := by rfl) : EvD X (.Call (.Name "all" p) [a] [] pos) ds (.bl (ys.all f)) := by
  have e : (ys.map fun y => Dt.bl (f y)) = (ys.map f).map .bl := by rw [List.map_map]; rfl
  rw [e] at ha
  have h := EvD.all (p := p) (pos := pos) hc ha hm hg hst
  rw [List.all_map] at h
  exact h
theorem EvD.anym (hc : X.calm = true) (ha : EvD X a ds (.lst (ys.map fun y => .bl (f y)))) (hm : X.mg "any" = none) (hg : Gl X "any" := by rfl) (hst : starEach [a] X.env = (false, eval a X.env) :: starEach [] X.env := by rfl) : EvD X (.Call (.Name "any" p) [a] [] pos) ds (.bl (ys.any f)) := by
  have e : (ys.map fun y => Dt.bl (f y)) = (ys.map f).map .bl := by rw [List.map_map]; rfl
  rw [e] at ha
  have h := EvD.any (p := p) (pos := pos) hc ha hm hg hst
  rw [List.any_map] at h
  exact h
end
theorem nm_str {x : Str} (h : isNm x = true) : PyData.strOk x = true := by
  obtain ⟨_, h⟩ := Bool.and_eq_true_iff.mp h
  obtain ⟨_, h⟩ := Bool.and_eq_true_iff.mp h
  unfold PyData.strOk
  rw [← Array.all_toList, List.all_eq_true]
  intro c hc
  have := of_decide_eq_true (List.all_eq_true.mp h c hc)
  have hl : letters.cps.toList.all (· < 0x110000) = true := by decide +kernel
  exact List.all_eq_true.mp hl c this
theorem kS_str (b : Bool) : PyData.strOk (kS b) = true := by cases b <;> decide +kernel
theorem kS_inj {a b : Bool} (h : kS a = kS b) : a = b := by
  cases a <;> cases b <;> first | rfl | exact absurd h (by decide +kernel)
/-- all texts of a row are names -/
def rowNm (r : Row) : Bool := r.all deedOk
theorem rowNm_of {hs : List Str} {h : Str} {r : Row} (x : rowOk hs h r = true) : rowNm r = true := by
  unfold rowNm
  rw [List.all_eq_true]
  intro d hd
  exact (Bool.and_eq_true_iff.mp (List.all_eq_true.mp x d hd)).1
/-- where in the row stand the deeds of this kind with this hand -/
def places (r : Row) (k : Bool) (o : Str) : List Nat := r.zipIdx.filterMap fun p => if decide (p.1.1 = k ∧ p.1.2.1 = o) = true then some p.2 else none
def intD (n : Nat) : Dt := .int (n : Nat)
theorem enum_row (r : Row) : enumD (r.map dD) = r.zipIdx.map fun p => .tup [.int (p.2 : Nat), dD p.1] := by
  unfold enumD
  rw [List.zipIdx_map, List.map_map]
  rfl
/-- the words of these deeds -/
def words (r : Row) (k : Bool) (o : Str) : List Str := (places r k o).map fun i => (r.getD i (true, "", "")).2.2
section
variable {P : Program} {w : World} {K : PySem.W.Frag} {mg : Str → Option Value} {base : Heap}
def p_are_rows : List Dt → Dt → Prop := fun as r => ∃ R : Rows, as = [sD rL R] ∧ rowsOk R = true ∧ r = .bl true
theorem ok_are_rows (T : Txt K mg) : OkD P w K mg base d_are_rows 4 ["value"] (spD P w p_are_rows) := by
  have nd : (["value", "hands", "hand", "row"] : List Str).Nodup := by decide +kernel
  refine okD_pure (N := ["value", "hands", "hand", "row"]) T.n_are_rows ⟨rfl, rfl, rfl, by decide +kernel, rfl, by decide +kernel, by decide +kernel⟩ (fun _ _ _ _ _ _ us hl => match us, hl with | [_], _ => rfl) ?_
  rintro as r ⟨R, rfl, hR, rfl⟩
  obtain ⟨hR, hlen⟩ := Bool.and_eq_true_iff.mp hR
  obtain ⟨hne, hall⟩ := Bool.and_eq_true_iff.mp hR
  have hne := of_decide_eq_true hne
  have hlen := of_decide_eq_true hlen
  have hnm : (R.all fun p => isNm p.1) = true := by
    rw [List.all_eq_true]; intro p hp
    exact (Bool.and_eq_true_iff.mp (List.all_eq_true.mp hall p hp)).1
  refine ⟨rfl, fun cdv A outer s H E hr => ?_⟩
  refine .cons (.ifs (k := false) (.bool (.or (x := false) (.not (k := true) (.val (.isn "dict" "dict" true (.var 0 rfl) T.f_isinstance T.f_dict)))
    fun _ => .or (x := false) (.cast (.cmp (.eqI (.lenS' (.var 0 rfl) T.f_len) .int)) ?_) fun _ => .or1 (.not (k := true) (.val (.cast (.allm (ys := R) (f := fun p => isNm p.1) rfl ?_ T.f_all) ?_))))) (fun h => nomatch h) fun _ => .nil (.cons (.asg 1 nd (.of (.listS rfl (.var 0 rfl) T.f_list)) (.cons (.ret (.cast (.allm (ys := R) (f := fun p => rowOk (hands R) p.1 p.2) rfl ?_ T.f_all) ?_) rfl)))))
  · refine decide_eq_false fun z => hne (List.eq_nil_of_length_eq_zero ?_)
    have : ((R.length : Nat) : Int) = 0 := z
    omega
  · refine .lcm (enc := fun p : Str × Row => .str p.1) (own := [("hand", 2)]) rfl nd (.keysS (.var 0 rfl)) (blk_of rfl) (by omega) fun p hp => ?_
    have h1 := List.all_eq_true.mp hnm p hp
    refine ⟨_, [2], by simp, fun s H C cl fp => .name 2 nd, fun s H C cl fp => .call (z := .bl (isNm p.1)) (ok_is_name T) T.g_is_name (hr.mono (by decide)) (.cons (.var 2 rfl) .nil) ⟨p.1, rfl, h1, by rw [h1]⟩⟩
  · rw [hnm]
  · refine .lcm (enc := fun p : Str × Row => .tup [.str p.1, rL p.2]) (own := [("hand", 2), ("row", 3)]) rfl nd (.itemsS (e := rL) (l := R) (.var 0 rfl)) (blk_of rfl) (by omega) fun p hp => ?_
    obtain ⟨h1, h2⟩ := Bool.and_eq_true_iff.mp (List.all_eq_true.mp hall p hp)
    obtain ⟨h2, h3⟩ := Bool.and_eq_true_iff.mp h2
    refine ⟨_, _, ?_, fun s H C cl fp => .tup rfl (.cons (.name 2 nd) (.cons (.name 3 nd) .nil)), fun s H C cl fp => ?_⟩
    · decide
    · exact .call (z := .bl (rowOk (hands R) p.1 p.2)) (ok_is_row T) T.g_is_row hr (.cons (.var 1 rfl) (.cons (.var 2 rfl) (.cons (.var 3 rfl) .nil))) ⟨hands R, p.1, p.2, rfl, h2, of_decide_eq_true h3, by rw [h2]⟩
  · have h4 : (R.all fun p => rowOk (hands R) p.1 p.2) = true := by
      rw [List.all_eq_true]; intro p hp
      exact (Bool.and_eq_true_iff.mp (Bool.and_eq_true_iff.mp (List.all_eq_true.mp hall p hp)).2).1
    rw [h4]
/-- the rows as tuples; the hands stand in their order already -/
def sortedH (hs : List Str) : Prop := ∀ zs : List Str, zs.Perm hs → sortedS zs = true → zs = hs
theorem alGet_nodup {β : Type} {l : List (Str × β)} (hn : (l.map (·.1)).Nodup) {p : Str × β} (hp : p ∈ l) : alGet l p.1 = some p.2 := by
  induction l with
  | nil => simp at hp
  | cons q l ih =>
    rw [List.map_cons, List.nodup_cons] at hn
    unfold alGet
    rcases List.mem_cons.mp hp with z | z
    · rw [z, if_pos rfl]
    · rw [if_neg fun e => hn.1 (List.mem_map.mpr ⟨p, z, e.symm⟩)]
      exact ih hn.2 z
def p_kept_rows : List Dt → Dt → Prop := fun as r => ∃ R : Rows, as = [sD rL R] ∧ (hands R).Nodup ∧ sortedH (hands R) ∧ R.length < 64 ∧ r = sD rT R
theorem ok_kept_rows (T : Txt K mg) : OkD P w K mg base d_kept_rows 1 ["value"] (spD P w p_kept_rows) := by
  have nd : (["value", "hand"] : List Str).Nodup := by decide +kernel
  refine okD_pure (N := ["value", "hand"]) T.n_kept_rows ⟨rfl, rfl, rfl, by decide +kernel, rfl, by decide +kernel, by decide +kernel⟩ (fun _ _ _ _ _ _ us hl => match us, hl with | [_], _ => rfl) ?_
  rintro as r ⟨R, rfl, hn, hso, hl, rfl⟩
  refine ⟨rfl, fun cdv A outer s H E hr => ?_⟩
  have hu : (PX P w K mg base ["value", "hand"] d_kept_rows cdv A outer s H E).A.units + 64 < cLine := hr.units
  have e1 : sD rL R = .dic ((hands R).map .inr) (R.map fun p => rL p.2) := by unfold sD hands; rw [List.map_map]; rfl
  refine .cons (.ret (.dcs (α := Str × Row) (enc := fun p => .str p.1) (kf := fun p => p.1) (vf := fun p => rT p.2) (ys := R) (own := [("hand", 1)]) rfl nd (.lst (.cast (.sortedK (hs := hands R) (ys := hands R) rfl (.var 0 (by rw [← e1]; rfl)) (by unfold hands; rw [List.length_map]; exact hl) hso T.f_sorted) ?_)) (blk_of rfl) (by omega) hn fun p hp => ?_) rfl)
  · unfold hands; rw [List.map_map]; rfl
  · refine ⟨_, [1], by simp, fun s H C cl fp => .name 1 nd, fun s H C cl fp => .var 1 rfl, fun s H C cl fp => ?_⟩
    exact .tupL (.getS (e := rL) (l := R) hu (.var 0 rfl) (.var 1 rfl) (alGet_nodup hn hp)) T.f_tuple
def p_key_of : List Dt → Dt → Prop := fun as r => ∃ R : Rows, as = [sD rT R] ∧ r = .tup (R.map fun p => rT p.2)
theorem ok_key_of (T : Txt K mg) : OkD P w K mg base d_key_of 1 ["rows"] (spD P w p_key_of) := by
  refine okD_pure (N := ["rows"]) T.n_key_of ⟨rfl, rfl, rfl, by decide +kernel, rfl, by decide +kernel, by decide +kernel⟩ (fun _ _ _ _ _ _ us hl => match us, hl with | [_], _ => rfl) ?_
  rintro as r ⟨R, rfl, rfl⟩
  exact ⟨rfl, fun cdv A outer s H E hr => .cons (.ret (.tupVals rfl (.var 0 rfl) T.f_tuple) rfl)⟩
def p_places_of : List Dt → Dt → Prop := fun as r => ∃ (R : Rows) (h : Str) (k : Bool) (o : Str) (rr : Row), as = [sD rT R, .str h, .str (kS k), .str o] ∧ alGet R h = some rr ∧ rowNm rr = true ∧ isNm o = true ∧ rr.length ≤ 1000 ∧ r = .lst ((places rr k o).map intD)
theorem ok_places_of (T : Txt K mg) : OkD P w K mg base d_places_of 1 ["rows", "hand", "kind", "other"] (spD P w p_places_of) := by
  have nd : (["rows", "hand", "kind", "other", "place", "deed"] : List Str).Nodup := by decide +kernel
  refine okD_pure (N := ["rows", "hand", "kind", "other", "place", "deed"]) T.n_places_of ⟨rfl, rfl, rfl, by decide +kernel, rfl, by decide +kernel, by decide +kernel⟩ (fun _ _ _ _ _ _ us hl => match us, hl with | [_, _, _, _], _ => rfl) ?_
  rintro as r ⟨R, h, k, o, rr, rfl, hg, hnm, ho, hl, rfl⟩
  refine ⟨rfl, fun cdv A outer s H E hr => ?_⟩
  have hu : (PX P w K mg base ["rows", "hand", "kind", "other", "place", "deed"] d_places_of cdv A outer s H E).A.units + 64 < cLine := hr.units
  have e1 : (places rr k o).map intD = rr.zipIdx.filterMap fun p => if decide (p.1.1 = k ∧ p.1.2.1 = o) = true then some (intD p.2) else none := by
    unfold places
    rw [List.map_filterMap]
    congr 1
    funext p
    split <;> rfl
  rw [e1]
  refine .cons (.ret (.lcf (enc := fun p : Deed × Nat => .tup [.int (p.2 : Nat), dD p.1]) (own := [("place", 4), ("deed", 5)]) rfl nd ?_ (blk_of rfl) (by rw [List.length_zipIdx]; omega) fun p hp => ?_) rfl)
  · rw [← enum_row]
    exact .enumT (.getS (e := rT) (l := R) hu (.var 0 rfl) (.var 1 rfl) hg) T.f_enumerate
  · have hd : deedOk p.1 = true := List.all_eq_true.mp hnm p.1 (by
      obtain ⟨i, hi, e⟩ := List.getElem_of_mem hp
      rw [List.getElem_zipIdx] at e
      rw [← e]
      exact List.getElem_mem _)
    obtain ⟨hd1, hd2⟩ := Bool.and_eq_true_iff.mp hd
    refine ⟨_, _, ?_, fun s H C cl fp => .tup rfl (.cons (.name 4 nd) (.cons (.name 5 nd) .nil)), fun s H C cl fp => ?_, fun d hd s H C cl fp => ?_⟩
    · decide
    · refine .one (.cmp (.cast (.eq (x := .tup [.str (kS p.1.1), .str p.1.2.1]) (y := .tup [.str (kS k), .str o]) (k := decide (p.1.1 = k ∧ p.1.2.1 = o)) hu (.headT (xs := [.str (kS p.1.1), .str p.1.2.1, .str p.1.2.2]) (n := 2) (.var 5 rfl) .int) (.tup (.cons (.var 2 rfl) (.cons (.var 3 rfl) .nil)) (show 2 ≤ 100000 by decide)) ?_ ?_ ?_) ?_))
      · show (decide ((20 : Nat) ≠ 0) && (PyData.strOk (kS p.1.1) && (PyData.strOk p.1.2.1 && true))) = true
        rw [kS_str, nm_str hd1]; rfl
      · show (decide ((20 : Nat) ≠ 0) && (PyData.strOk (kS k) && (PyData.strOk o && true))) = true
        rw [kS_str, nm_str ho]; rfl
      · rw [decide_eq_true_eq]
        constructor
        · rintro ⟨e1, e2⟩; rw [e1, e2]
        · intro e
          have e := List.cons.inj (Dt.tup.inj e)
          exact ⟨kS_inj (Dt.str.inj e.1), Dt.str.inj (List.cons.inj e.2).1⟩
      · cases decide (p.1.1 = k ∧ p.1.2.1 = o) <;> rfl
    · cases e : decide (p.1.1 = k ∧ p.1.2.1 = o) with
      | false => rw [e] at hd; cases hd
      | true =>
        rw [e] at hd
        cases hd
        exact .var 4 rfl
end
end K66
set_option maxHeartbeats 4000000
namespace K66
variable [TabAt]
open PySem PySem.Spec PyProof.Rows L2
section
variable {X : Cx} {ds : List Sl} {Ψ : Res → Prop} {pos : Pos}
theorem S1.loopT {α : Type} {enc : α → Dt} {ys : List α} {tg iter : Expr} {body : List Stmt} (I : Nat → List Sl → Prop) (hc : X.calm = true) (hi : EvI X (fun _ => True) tg iter ds (ys.map enc)) (h0 : I 0 ds)
    (ht : ∀ i y ds1, ys[i]? = some y → I i ds1 → ∃ is ds2, EvG X tg (enc y) ds1 is ds2 ∧ Ss X body ds2 (Turns (I (i + 1)) Ψ)) (hd : ∀ ds', I ys.length ds' → Ψ (.nx ds'))
    (hp : PassesOwn (model X.prog X.w) X.A X.env X.xe := by exact .never) (hs : ∀ x, foldedSetIterable iter X.env x = pure x := by intro _; rfl) : S1 X (.For tg iter body [] pos) ds Ψ :=
  .loop I hc hi h0 (fun i x ds1 hx hI => by
    rw [List.getElem?_map] at hx
    cases e : ys[i]? with
    | none => rw [e] at hx; cases hx
    | some y =>
      rw [e] at hx
      cases hx
      exact ht i y ds1 e hI) (fun ds' h => hd ds' (by rw [List.length_map] at h; exact h)) hp hs
end
/-- rows that are in order -/
structure RowsG (R : Rows) : Prop where
  nd : (hands R).Nodup
  nm : ∀ p ∈ R, isNm p.1 = true
  rn : ∀ p ∈ R, rowNm p.2 = true
  ln : ∀ p ∈ R, p.2.length ≤ 1000
  sz : R.length < 64
theorem RowsG.get {R : Rows} (g : RowsG R) {p : Str × Row} (h : p ∈ R) : alGet R p.1 = some p.2 := alGet_nodup g.nd h
theorem places_lt {r : Row} {k : Bool} {o : Str} {i : Nat} (h : i ∈ places r k o) : i < r.length ∧ ∃ d, r[i]? = some d ∧ d.1 = k ∧ d.2.1 = o := by
  obtain ⟨p, hp, e⟩ := List.mem_filterMap.mp h
  split at e
  · rename_i hk
    cases e
    have hk := of_decide_eq_true hk
    obtain ⟨j, hj, e⟩ := List.getElem_of_mem hp
    rw [List.getElem_zipIdx] at e
    rw [List.length_zipIdx] at hj
    rw [← e]
    simp only [Nat.zero_add]
    refine ⟨hj, _, List.getElem?_eq_getElem hj, ?_⟩
    rw [← e] at hk
    exact hk
  · cases e
theorem places_len {r : Row} {k : Bool} {o : Str} : (places r k o).length ≤ r.length := by
  have : (places r k o).length ≤ r.zipIdx.length := List.length_filterMap_le ..
  rwa [List.length_zipIdx] at this
theorem words_nm {r : Row} {k : Bool} {o : Str} (h : rowNm r = true) : ∀ x ∈ words r k o, isNm x = true := fun x hx => by
  obtain ⟨i, hi, rfl⟩ := List.mem_map.mp hx
  obtain ⟨hl, d, hd, _⟩ := places_lt hi
  rw [List.getD_eq_getElem?_getD, hd]
  exact (Bool.and_eq_true_iff.mp (List.all_eq_true.mp h d (List.mem_of_getElem? hd))).2
theorem plnL_strs {xs : List Str} {n : Nat} (h : ∀ x ∈ xs, isNm x = true) : plnL (xs.map .str) n = true := by
  induction xs with
  | nil => rfl
  | cons x xs ih =>
    show (PyData.strOk x && plnL (xs.map .str) n) = true
    rw [nm_str (h x (by simp)), ih fun y hy => h y (List.mem_cons_of_mem _ hy)]; rfl
theorem dD_at {r : Row} {i : Nat} (h : i < r.length) : (r.map dD)[i]? = some (dD (r.getD i (true, "", ""))) := by
  rw [List.getElem?_map, List.getElem?_eq_getElem h, List.getD_eq_getElem?_getD, List.getElem?_eq_getElem h]; rfl
theorem strs_inj : ∀ {xs ys : List Str}, xs.map Dt.str = ys.map .str → xs = ys
  | [], [], _ => rfl
  | [], _ :: _, h => nomatch h
  | _ :: _, [], h => nomatch h
  | x :: xs, y :: ys, h => by
    rw [List.map_cons, List.map_cons] at h
    obtain ⟨h1, h2⟩ := List.cons.inj h
    rw [Dt.str.inj h1, strs_inj h2]
section
variable {P : Program} {w : World} {K : PySem.W.Frag} {mg : Str → Option Value} {base : Heap}
def p_said : List Dt → Dt → Prop := fun as r => ∃ (R : Rows) (a b : Str) (ra : Row), as = [sD rT R, .str a, .str b] ∧ alGet R a = some ra ∧ rowNm ra = true ∧ isNm b = true ∧ ra.length ≤ 1000 ∧ r = .tup ((words ra true b).map .str)
theorem ok_said (T : Txt K mg) : OkD P w K mg base d_said 2 ["rows", "one", "other"] (spD P w p_said) := by
  have nd : (["rows", "one", "other", "place"] : List Str).Nodup := by decide +kernel
  refine okD_pure (N := ["rows", "one", "other", "place"]) T.n_said ⟨rfl, rfl, rfl, by decide +kernel, rfl, by decide +kernel, by decide +kernel⟩ (fun _ _ _ _ _ _ us hl => match us, hl with | [_, _, _], _ => rfl) ?_
  rintro as r ⟨R, a, b, ra, rfl, hg, hnm, hb, hl, rfl⟩
  refine ⟨rfl, fun cdv A outer s H E hr => ?_⟩
  have hu : (PX P w K mg base ["rows", "one", "other", "place"] d_said cdv A outer s H E).A.units + 64 < cLine := hr.units
  have e1 : (words ra true b).map Dt.str = (places ra true b).map fun i => .str (ra.getD i (true, "", "")).2.2 := by unfold words; rw [List.map_map]; rfl
  rw [e1]
  refine .cons (.ret (.tupL (.lcm (enc := intD) (own := [("place", 3)]) rfl nd (.lst (.call (ok_places_of T) T.g_places_of hr (.cons (.var 0 rfl) (.cons (.var 1 rfl) (.cons (.gstr T.s_SAY) (.cons (.var 2 rfl) .nil)))) ⟨R, a, true, b, ra, rfl, hg, hnm, hb, hl, rfl⟩)) (blk_of rfl) (by have := places_len (r := ra) (k := true) (o := b); omega) fun i hi => ?_) T.f_tuple) rfl)
  obtain ⟨hlt, _⟩ := places_lt hi
  refine ⟨_, [3], by simp, fun s H C cl fp => .name 3 nd, fun s H C cl fp => ?_⟩
  exact .ixT (n := 2) (.ixT (n := i) (xs := ra.map dD) (.getS (e := rT) (l := R) hu (.var 0 rfl) (.var 1 rfl) hg) (.var 3 rfl) (dD_at hlt)) .int rfl
def p_got : List Dt → Dt → Prop := fun as r => ∃ (R : Rows) (a b : Str) (rb : Row), as = [sD rT R, .str a, .str b] ∧ alGet R b = some rb ∧ rowNm rb = true ∧ isNm a = true ∧ rb.length ≤ 1000 ∧ r = .tup ((words rb false a).map .str)
theorem ok_got (T : Txt K mg) : OkD P w K mg base d_got 2 ["rows", "one", "other"] (spD P w p_got) := by
  have nd : (["rows", "one", "other", "place"] : List Str).Nodup := by decide +kernel
  refine okD_pure (N := ["rows", "one", "other", "place"]) T.n_got ⟨rfl, rfl, rfl, by decide +kernel, rfl, by decide +kernel, by decide +kernel⟩ (fun _ _ _ _ _ _ us hl => match us, hl with | [_, _, _], _ => rfl) ?_
  rintro as r ⟨R, a, b, rb, rfl, hg, hnm, ha, hl, rfl⟩
  refine ⟨rfl, fun cdv A outer s H E hr => ?_⟩
  have hu : (PX P w K mg base ["rows", "one", "other", "place"] d_got cdv A outer s H E).A.units + 64 < cLine := hr.units
  have e1 : (words rb false a).map Dt.str = (places rb false a).map fun i => .str (rb.getD i (true, "", "")).2.2 := by unfold words; rw [List.map_map]; rfl
  rw [e1]
  refine .cons (.ret (.tupL (.lcm (enc := intD) (own := [("place", 3)]) rfl nd (.lst (.call (ok_places_of T) T.g_places_of hr (.cons (.var 0 rfl) (.cons (.var 2 rfl) (.cons (.gstr T.s_GET) (.cons (.var 1 rfl) .nil)))) ⟨R, b, false, a, rb, rfl, hg, hnm, ha, hl, rfl⟩)) (blk_of rfl) (by have := places_len (r := rb) (k := false) (o := a); omega) fun i hi => ?_) T.f_tuple) rfl)
  obtain ⟨hlt, _⟩ := places_lt hi
  refine ⟨_, [3], by simp, fun s H C cl fp => .name 3 nd, fun s H C cl fp => ?_⟩
  exact .ixT (n := 2) (.ixT (n := i) (xs := rb.map dD) (.getS (e := rT) (l := R) hu (.var 0 rfl) (.var 2 rfl) hg) (.var 3 rfl) (dD_at hlt)) .int rfl
/-- what is got is what was said -/
def heardAll (R : Rows) : Prop := ∀ p ∈ R, ∀ q ∈ R, words q.2 false p.1 = words p.2 true q.1
def p_unheard : List Dt → Dt → Prop := fun as r => ∃ R : Rows, as = [sD rT R, .bl false] ∧ RowsG R ∧ heardAll R ∧ r = .non
theorem ok_unheard (T : Txt K mg) : OkD P w K mg base d_unheard 3 ["rows", "is_stand"] (spD P w p_unheard) := by
  have nd : (["rows", "is_stand", "one", "other", "words", "heard"] : List Str).Nodup := by decide +kernel
  refine okD_pure (N := ["rows", "is_stand", "one", "other", "words", "heard"]) T.n_unheard ⟨rfl, rfl, rfl, by decide +kernel, rfl, by decide +kernel, by decide +kernel⟩ (fun _ _ _ _ _ _ us hl => match us, hl with | [_, _], _ => rfl) ?_
  rintro as r ⟨R, rfl, hG, hh, rfl⟩
  refine ⟨rfl, fun cdv A outer s H E hr => ?_⟩
  have hu : (PX P w K mg base ["rows", "is_stand", "one", "other", "words", "heard"] d_unheard cdv A outer s H E).A.units + 64 < cLine := hr.units
  refine .cons (.loopT (enc := fun p : Str × Row => .str p.1) (ys := R) (fun _ ds1 => ∃ a b c d, ds1 = [.d (sD rT R), .d (.bl false), a, b, c, d]) rfl (.keysS (e := rT) (l := R) (.var 0 rfl)) ⟨_, _, _, _, rfl⟩ ?_ ?_)
  · rintro i p ds1 hp ⟨a, b, c, d, rfl⟩
    have hp := List.mem_of_getElem? hp
    refine ⟨[2], _, .name 2 nd, .cons (.loopT (enc := fun p : Str × Row => .str p.1) (ys := R) (fun _ ds1 => ∃ b c d, ds1 = [.d (sD rT R), .d (.bl false), .d (.str p.1), b, c, d]) rfl (.keysS (e := rT) (l := R) (.var 0 rfl)) ⟨_, _, _, rfl⟩ ?_ ?_)⟩
    · rintro j q ds1 hq ⟨b, c, d, rfl⟩
      have hq := List.mem_of_getElem? hq
      refine ⟨[3], _, .name 3 nd, .cons (.par (i := 4) (j := 5) rfl nd (.of (.call (ok_said T) T.g_said hr (.cons (.var 0 rfl) (.cons (.var 2 rfl) (.cons (.var 3 rfl) .nil))) ⟨R, p.1, q.1, p.2, rfl, hG.get hp, hG.rn p hp, hG.nm q hq, hG.ln p hp, rfl⟩))
        (.of (.call (ok_got T) T.g_got hr (.cons (.var 0 rfl) (.cons (.var 2 rfl) (.cons (.var 3 rfl) .nil))) ⟨R, p.1, q.1, q.2, rfl, hG.get hq, hG.rn q hq, hG.nm p hp, hG.ln q hq, rfl⟩)) ?_)⟩
      refine .cons (.ifs (k := false) (.cmp (.ne (x := .tup ((words q.2 false p.1).map .str)) (y := .tup ((words p.2 true q.1).map .str)) hu (.var 5 rfl) (.ite (x := false) (.val (.var 1 rfl)) (fun h => nomatch h) fun _ => .var 4 rfl) ?_ ?_ ?_)) (fun h => nomatch h) fun _ => .nil (.nil ⟨_, _, _, rfl⟩))
      · show (decide ((20 : Nat) ≠ 0) && plnL ((words q.2 false p.1).map .str) 19) = true
        rw [plnL_strs (words_nm (hG.rn q hq))]; rfl
      · show (decide ((20 : Nat) ≠ 0) && plnL ((words p.2 true q.1).map .str) 19) = true
        rw [plnL_strs (words_nm (hG.rn p hp))]; rfl
      · rw [hh p hp q hq]; simp
    · rintro ds' ⟨b, c, d, rfl⟩
      exact .nil ⟨_, _, _, _, rfl⟩
  · rintro ds' ⟨a, b, c, d, rfl⟩
    exact .cons (.ret .non rfl)
end
end K66
set_option maxHeartbeats 4000000
namespace K66
variable [TabAt]
open PySem PySem.Spec PyProof.Rows L2
/-- a place in a row -/
abbrev Spot := Str × Nat
def spD' (s : Spot) : Dt := .tup [.str s.1, .int (s.2 : Nat)]
theorem spot_inj (a b : Spot) (h : nk (spD' a) = nk (spD' b)) : a = b := by
  obtain ⟨h1, n1⟩ := a
  obtain ⟨h2, n2⟩ := b
  have h : NestedKey.tup [.text h1, .num (n1 : Nat)] = .tup [.text h2, .num (n2 : Nat)] := h
  have h := List.cons.inj (NestedKey.tup.inj h)
  have e1 := NestedKey.text.inj h.1
  have e2 := NestedKey.num.inj (List.cons.inj h.2).1
  have e2 : n1 = n2 := by omega
  rw [e1, e2]
theorem spot_ok (a : Spot) : kOk (spD' a) 8 = true := rfl
abbrev Says := List (Spot × Spot)
abbrev Cnt := List (Str × Nat)
def saysD (S : Says) : Dt := nD spD' spD' S
theorem says_keys (S : Says) : kOkL (S.map fun p => spD' p.1) 8 = true := by
  have : (S.map fun p => spD' p.1) = (S.map (·.1)).map spD' := by rw [List.map_map]; rfl
  rw [this]
  exact kOkL_map fun a _ => spot_ok a
def freeB (c : Cnt) (S : Says) (s : Spot) : Bool := match alGet S s with
  | none => true
  | some p => decide (p.2 < (alGet c p.1).getD 0)
section
variable {P : Program} {w : World} {K : PySem.W.Frag} {mg : Str → Option Value} {base : Heap}
def p_is_free : List Dt → Dt → Prop := fun as r => ∃ (c : Cnt) (S : Says) (s : Spot), as = [sD intD c, saysD S, spD' s] ∧ (∀ p, alGet S s = some p → (alGet c p.1).isSome = true) ∧ r = .bl (freeB c S s)
theorem ok_is_free (T : Txt K mg) : OkD P w K mg base d_is_free 1 ["counts", "says", "spot"] (spD P w p_is_free) := by
  have nd : (["counts", "says", "spot", "hand", "place"] : List Str).Nodup := by decide +kernel
  refine okD_pure (N := ["counts", "says", "spot", "hand", "place"]) T.n_is_free ⟨rfl, rfl, rfl, by decide +kernel, rfl, by decide +kernel, by decide +kernel⟩ (fun _ _ _ _ _ _ us hl => match us, hl with | [_, _, _], _ => rfl) ?_
  rintro as r ⟨c, S, s, rfl, hc, rfl⟩
  refine ⟨rfl, fun cdv A outer sh H E hr => ?_⟩
  have hu : (PX P w K mg base ["counts", "says", "spot", "hand", "place"] d_is_free cdv A outer sh H E).A.units + 64 < cLine := hr.units
  refine .cons (.ifs (k := !alHas S s) (.cmp (.cast (.notInN (ts := [.str s.1, .int (s.2 : Nat)]) (ks := S.map fun p => spD' p.1) (vs := S.map fun p => spD' p.2) hu (.var 2 rfl) (.var 1 rfl) (says_keys S) (spot_ok s)) ?_)) (fun hk => ?_) fun hk => ?_)
  · have := nD_has spot_inj (l := S) (q := s)
    show (!ndHas (S.map fun p => spD' p.1) (nk (spD' s))) = _
    rw [this]
  · have h0 : alGet S s = none := by
      have : alHas S s = false := by simpa using hk
      rw [← alGet_has] at this
      simpa using this
    have e : freeB c S s = true := by unfold freeB; rw [h0]
    rw [e]
    exact .cons (.ret .bl rfl)
  · have h0 : (alGet S s).isSome = true := by
      rw [alGet_has]; simpa using hk
    obtain ⟨p, hp⟩ := Option.isSome_iff_exists.mp h0
    obtain ⟨m, hm⟩ := Option.isSome_iff_exists.mp (hc p hp)
    have e : freeB c S s = decide (((p.2 : Nat) : Int) < (m : Nat)) := by
      unfold freeB
      rw [hp]
      show decide (p.2 < (alGet c p.1).getD 0) = _
      rw [hm, Option.getD_some, Bool.eq_iff_iff, decide_eq_true_eq, decide_eq_true_eq]
      omega
    rw [e]
    refine .nil (.cons (.asgG (d := spD' p) (.getN (ts := [.str s.1, .int (s.2 : Nat)]) (ks := S.map fun p => spD' p.1) (vs := S.map fun p => spD' p.2) hu (.var 1 rfl) (.var 2 rfl) ?_ (says_keys S) (spot_ok s)) (.tup rfl (.cons (.name 3 nd) (.cons (.name 4 nd) .nil))) ?_))
    · have := nD_get spot_inj (e := spD') (l := S) (q := s)
      show ndGet (S.map fun p => spD' p.1) (S.map fun p => spD' p.2) (nk (spD' s)) = _
      rw [this, hp]; rfl
    · exact .cons (.ret (.cmp (.lt (.var 4 rfl) (.getS (e := intD) (l := c) hu (.var 0 rfl) (.var 3 rfl) hm))) rfl)
def p_want_hand : List Dt → Dt → Prop := fun as r => ∃ (hs : List Str) (h : Str), as = [.lst (hs.map .str), .str h] ∧ h ∈ hs ∧ r = .non
theorem ok_want_hand (T : Txt K mg) : OkD P w K mg base d_want_hand 1 ["hands", "value"] (spD P w p_want_hand) := by
  refine okD_pure (N := ["hands", "value"]) T.n_want_hand ⟨rfl, rfl, rfl, by decide +kernel, rfl, by decide +kernel, by decide +kernel⟩ (fun _ _ _ _ _ _ us hl => match us, hl with | [_, _], _ => rfl) ?_
  rintro as r ⟨hs, h, rfl, hh, rfl⟩
  refine ⟨rfl, fun cdv A outer sh H E hr => ?_⟩
  refine .cons (.ifs (k := false) (.bool (.or (x := false) (.not (k := true) (.val (.isn "str" "str" true (.var 1 rfl) T.f_isinstance T.f_str))) fun _ => .or1 (.cast (.cmp (.notInLS (.var 1 rfl) (.var 0 rfl))) ?_))) (fun h => nomatch h) fun _ => .nil (.nil rfl))
  rw [decide_eq_true hh]; rfl
def p_want_hands : List Dt → Dt → Prop := fun as r => ∃ (hs vs : List Str), as = [.lst (hs.map .str), .lst (vs.map .str)] ∧ vs ≠ [] ∧ vs.Nodup ∧ (∀ v ∈ vs, v ∈ hs) ∧ vs.length ≤ 1000 ∧ r = .non
theorem enumD_map {α : Type} {e : α → Dt} {xs : List α} : enumD (xs.map e) = xs.zipIdx.map fun p => .tup [.int (p.2 : Nat), e p.1] := by
  unfold enumD
  rw [List.zipIdx_map, List.map_map]; rfl
theorem ok_want_hands (T : Txt K mg) : OkD P w K mg base d_want_hands 2 ["hands", "value"] (spD P w p_want_hands) := by
  have nd : (["hands", "value", "position", "hand"] : List Str).Nodup := by decide +kernel
  refine okD_pure (N := ["hands", "value", "position", "hand"]) T.n_want_hands ⟨rfl, rfl, rfl, by decide +kernel, rfl, by decide +kernel, by decide +kernel⟩ (fun _ _ _ _ _ _ us hl => match us, hl with | [_, _], _ => rfl) ?_
  rintro as r ⟨hs, vs, rfl, hne, hn, hsub, hl, rfl⟩
  refine ⟨rfl, fun cdv A outer sh H E hr => ?_⟩
  refine .cons (.ifs (k := false) (.bool (.or (x := false) (.not (k := true) (.val (.call (ok_is_list T) T.g_is_list hr (.cons (.var 1 rfl) .nil) ⟨_, rfl, .inl rfl, rfl⟩))) fun _ => .or1 (.cast (.cmp (.eqI (.lenL (.var 1 rfl) T.f_len) .int)) ?_))) (fun h => nomatch h) fun _ => .nil ?_)
  · refine decide_eq_false fun z => hne (List.eq_nil_of_length_eq_zero ?_)
    have z : (((vs.map Dt.str).length : Nat) : Int) = 0 := z
    rw [List.length_map] at z
    omega
  refine .cons (.loopT (enc := fun p : Str × Nat => .tup [.int (p.2 : Nat), .str p.1]) (ys := vs.zipIdx) (fun _ ds1 => ∃ a b, ds1 = [.d (.lst (hs.map .str)), .d (.lst (vs.map .str)), a, b]) rfl (by rw [← enumD_map]; exact .enum (.var 1 rfl) T.f_enumerate) ⟨_, _, rfl⟩ ?_ ?_)
  · rintro i p ds1 hp ⟨a, b, rfl⟩
    obtain ⟨v, n⟩ := p
    rw [List.getElem?_zipIdx] at hp
    cases hv : vs[i]? with
    | none => rw [hv] at hp; cases hp
    | some v' =>
      rw [hv] at hp
      have hp := Option.some.inj hp
      have e1 : v' = v := congrArg Prod.fst hp
      have e2 : 0 + i = n := congrArg Prod.snd hp
      subst e1
      have e2 : i = n := by omega
      subst e2
      refine ⟨_, _, .tup rfl (.cons (.name 2 nd) (.cons (.name 3 nd) .nil)), ?_⟩
      refine .cons (.ifs (k := false) (.bool (.or (x := false) (.not (k := true) (.val (.isn "str" "str" true (.var 3 rfl) T.f_isinstance T.f_str))) fun _ => .or (x := false) (.cast (.cmp (.notInLS (.var 3 rfl) (.var 0 rfl))) ?_) fun _ => .or1 (.cast (.cmp (.inLS (xs := vs.take i) (.var 3 rfl) (.cast (.headL (n := i) (.var 1 rfl) (.var 2 rfl)) ?_))) ?_))) (fun h => nomatch h) fun _ => .nil (.nil ⟨_, _, rfl⟩))
      · rw [decide_eq_true (hsub _ (List.mem_of_getElem? hv))]; rfl
      · rw [List.map_take]
      · refine decide_eq_false fun hm => ?_
        obtain ⟨j, hj, e⟩ := List.getElem_of_mem hm
        rw [List.length_take] at hj
        rw [List.getElem_take] at e
        obtain ⟨hi, e'⟩ := List.getElem?_eq_some_iff.mp hv
        have := (List.getElem_inj hn).mp (e.trans e'.symm)
        omega
  · rintro ds' ⟨a, b, rfl⟩
    exact .nil rfl
def p_want_same : List Dt → Dt → Prop := fun as r => ∃ hs : List Str, as = [.lst (hs.map .str), .lst (hs.map .str)] ∧ (∀ h ∈ hs, isNm h = true) ∧ r = .non
theorem ok_want_same (T : Txt K mg) : OkD P w K mg base d_want_same_hands 1 ["one", "other"] (spD P w p_want_same) := by
  refine okD_pure (N := ["one", "other"]) T.n_want_same_hands ⟨rfl, rfl, rfl, by decide +kernel, rfl, by decide +kernel, by decide +kernel⟩ (fun _ _ _ _ _ _ us hl => match us, hl with | [_, _], _ => rfl) ?_
  rintro as r ⟨hs, rfl, hh, rfl⟩
  refine ⟨rfl, fun cdv A outer sh H E hr => ?_⟩
  have hu : (PX P w K mg base ["one", "other"] d_want_same_hands cdv A outer sh H E).A.units + 64 < cLine := hr.units
  have hp : pln (.lst (hs.map .str)) 20 = true := by
    show (decide ((20 : Nat) ≠ 0) && plnL (hs.map .str) 19) = true
    rw [plnL_strs hh]; rfl
  exact .cons (.ifs (k := false) (.cmp (.ne hu (.var 0 rfl) (.var 1 rfl) hp hp (by simp))) (fun h => nomatch h) fun _ => .nil (.nil rfl))
end
end K66
set_option maxHeartbeats 4000000
namespace K66
variable [TabAt]
open PySem PySem.Spec PyProof.Rows L2
open ClX (CRead CVal)
theorem Txt.exs {K : PySem.W.Frag} {mg : Str → Option Value} (T : Txt K mg) : CRead K (He.ga K "Picture") (.type "type") ∧ CRead K (He.ga K "Book") (.type "type") ∧ (∃ u, CVal K (He.ga K "Picture") (.type "type") "MOST_HANDS" (.int 4) u) ∧ (∃ u, CVal K (He.ga K "Picture") (.type "type") "MOST_LETTERS" (.int 16) u) ∧
    (∃ u, CVal K (He.ga K "Book") (.type "type") "MOST_PICTURES" (.int 8) u) ∧ (∃ u, CVal K (He.ga K "Book") (.type "type") "MOST_LETTERS" (.int 8) u) ∧ typB K "Picture" = true ∧ typB K "Book" = true ∧ PySem.W.kitOne K (.type "dict") (.ref (He.ga K "Whole")) = some false ∧ PySem.W.noSeq K (He.ga K "Book") = true := by
  have rd : ∀ x, creadB K x = true → CRead K (He.ga K x) (.type "type") := fun x h => by
    obtain ⟨h1, h2⟩ := Bool.and_eq_true_iff.mp h
    exact ⟨h1, of_decide_eq_true h2⟩
  have vl : ∀ x f i, cvalB K x f i = true → ∃ u, CVal K (He.ga K x) (.type "type") f (.int i) u := fun x f i h => by
    unfold cvalB at h
    split at h
    · rename_i j t e
      have h := of_decide_eq_true h
      subst h
      exact ⟨_, e, ⟨_, rfl⟩⟩
    · cases h
  have h := T.ex
  unfold exB at h
  obtain ⟨h1, h⟩ := Bool.and_eq_true_iff.mp h
  obtain ⟨h2, h⟩ := Bool.and_eq_true_iff.mp h
  obtain ⟨h3, h⟩ := Bool.and_eq_true_iff.mp h
  obtain ⟨h4, h⟩ := Bool.and_eq_true_iff.mp h
  obtain ⟨h5, h⟩ := Bool.and_eq_true_iff.mp h
  obtain ⟨h6, h⟩ := Bool.and_eq_true_iff.mp h
  obtain ⟨h7, h⟩ := Bool.and_eq_true_iff.mp h
  obtain ⟨h8, h⟩ := Bool.and_eq_true_iff.mp h
  obtain ⟨h9, h10⟩ := Bool.and_eq_true_iff.mp h
  exact ⟨rd _ h1, rd _ h2, vl _ _ _ h3, vl _ _ _ h4, vl _ _ _ h5, vl _ _ _ h6, h7, h8, of_decide_eq_true h9, h10⟩
theorem EvI.cast' {X : Cx} {W : Addr → Prop} {tg iter : Expr} {ds : List Sl} {xs ys : List Dt} (h : EvI X W tg iter ds xs) (e : xs = ys) : EvI X W tg iter ds ys := e ▸ h
theorem rng0 {n : Nat} : rng 0 n = (List.range n).map intD := by
  unfold rng intD
  congr 1
  funext i
  rw [Int.zero_add]
/-- the letters from p to q -/
def lettersPQ (p q : Str × Row) : List Dt := (List.range (words p.2 true q.1).length).map fun n => .tup [.str p.1, .str q.1, intD n]
def lettersD (R : Rows) : List Dt := R.flatMap fun p => R.flatMap (lettersPQ p)
/-- who got what was said by whom: the places of gets, the places of says -/
def entPQ (p q : Str × Row) : Says := (places q.2 false p.1).zipIdx.map fun z => ((q.1, z.1), (p.1, (places p.2 true q.1).getD z.2 0))
def entries (R : Rows) : Says := R.flatMap fun p => R.flatMap (entPQ p)
def puts (l : Says) (es : Says) : Says := es.foldl (fun l e => alPut l e.1 e.2) l
def sog (R : Rows) : Says := puts [] (entries R)
theorem puts_app {l es fs : Says} : puts l (es ++ fs) = puts (puts l es) fs := List.foldl_append ..
theorem alPut_len {l : Says} {q c : Spot} : (alPut l q c).length ≤ l.length + 1 := by
  unfold alPut
  split
  · have := congrArg List.length (alRep_keys (l := l) (q := q) (c := c))
    rw [List.length_map, List.length_map] at this
    omega
  · rw [List.length_append]; exact Nat.le_refl _
theorem puts_len {es l : Says} : (puts l es).length ≤ l.length + es.length := by
  induction es generalizing l with
  | nil => exact Nat.le_refl _
  | cons e es ih =>
    have := alPut_len (l := l) (q := e.1) (c := e.2)
    have h := ih (l := alPut l e.1 e.2)
    show (puts (alPut l e.1 e.2) es).length ≤ _
    rw [List.length_cons]; omega
theorem flatMap_take {α β : Type} {f : α → List β} {xs : List α} {i : Nat} {x : α} (h : xs[i]? = some x) : (xs.take (i + 1)).flatMap f = (xs.take i).flatMap f ++ f x := by
  rw [List.take_add_one, h, List.flatMap_append]
  simp
theorem flatMap_le {α β : Type} {f : α → List β} {xs : List α} {n : Nat} : ((xs.take n).flatMap f).length ≤ (xs.flatMap f).length := by
  have h := congrArg (fun l => (l.flatMap f).length) (List.take_append_drop n xs)
  simp only [List.flatMap_append, List.length_append] at h
  omega
section
variable {P : Program} {w : World} {K : PySem.W.Frag} {mg : Str → Option Value} {base : Heap}
def p_letters_of : List Dt → Dt → Prop := fun as r => ∃ R : Rows, as = [sD rT R] ∧ RowsG R ∧ (lettersD R).length ≤ 1000 ∧ r = .lst (lettersD R)
theorem ok_letters_of (T : Txt K mg) : OkD P w K mg base d_letters_of 3 ["rows"] (spD P w p_letters_of) := by
  have nd : (["rows", "found", "one", "other", "number"] : List Str).Nodup := by decide +kernel
  refine okD_pure (N := ["rows", "found", "one", "other", "number"]) T.n_letters_of ⟨rfl, rfl, rfl, by decide +kernel, rfl, by decide +kernel, by decide +kernel⟩ (fun _ _ _ _ _ _ us hl => match us, hl with | [_], _ => rfl) ?_
  rintro as r ⟨R, rfl, hG, hL, rfl⟩
  refine ⟨rfl, fun cdv A outer sh H E hr => ?_⟩
  refine .cons (.asg 1 nd .nilL ?_)
  refine .cons (.loopT (enc := fun p : Str × Row => .str p.1) (ys := R) (fun i ds1 => ∃ a b c, ds1 = [.d (sD rT R), .ol ((R.take i).flatMap fun p => R.flatMap (lettersPQ p)), a, b, c]) rfl (.keysS (e := rT) (l := R) (.var 0 rfl)) ⟨_, _, _, rfl⟩ ?_ ?_)
  · rintro i p ds1 hp0 ⟨a, b, c, rfl⟩
    have hp := List.mem_of_getElem? hp0
    refine ⟨[2], _, .name 2 nd, .cons (.loopT (enc := fun p : Str × Row => .str p.1) (ys := R) (fun j ds1 => ∃ b c, ds1 = [.d (sD rT R), .ol (((R.take i).flatMap fun p => R.flatMap (lettersPQ p)) ++ (R.take j).flatMap (lettersPQ p)), .d (.str p.1), b, c]) rfl (.keysS (e := rT) (l := R) (.var 0 rfl)) ⟨b, c, by rw [List.take_zero, List.flatMap_nil, List.append_nil]; rfl⟩ ?_ ?_)⟩
    · rintro j q ds1 hq0 ⟨b, c, rfl⟩
      have hq := List.mem_of_getElem? hq0
      have hlen : (((R.take i).flatMap fun p => R.flatMap (lettersPQ p)) ++ (R.take j).flatMap (lettersPQ p)).length + (lettersPQ p q).length ≤ 1000 := by
        have h1 := flatMap_take (f := fun p => R.flatMap (lettersPQ p)) hp0
        have h2 := flatMap_take (f := lettersPQ p) hq0
        have h3 : ((R.take (i + 1)).flatMap fun p => R.flatMap (lettersPQ p)).length ≤ (lettersD R).length := flatMap_le
        have h4 : ((R.take (j + 1)).flatMap (lettersPQ p)).length ≤ (R.flatMap (lettersPQ p)).length := flatMap_le
        rw [h1, List.length_append] at h3
        rw [h2, List.length_append] at h4
        rw [List.length_append]
        omega
      refine ⟨[3], _, .name 3 nd, .cons (.extend 1 (ys := lettersPQ p q) rfl (.lcm (enc := intD) (own := [("number", 4)]) rfl nd (.cast' (.rng1 (n := (words p.2 true q.1).length) (.cast (.lenT (xs := (words p.2 true q.1).map .str) (.call (ok_said T) T.g_said hr (.cons (.var 0 rfl) (.cons (.var 2 rfl) (.cons (.var 3 rfl) .nil))) ⟨R, p.1, q.1, p.2, rfl, hG.get hp, hG.rn p hp, hG.nm q hq, hG.ln p hp, rfl⟩) T.f_len) ?_) T.f_range ?_) rng0) (blk_of rfl) ?_ fun n hn => ?_) (by omega) ?_)⟩
      · rw [List.length_map]
      · have : (lettersPQ p q).length = (words p.2 true q.1).length := by unfold lettersPQ; rw [List.length_map, List.length_range]
        omega
      · have : (lettersPQ p q).length = (words p.2 true q.1).length := by unfold lettersPQ; rw [List.length_map, List.length_range]
        rw [List.length_range]; omega
      · exact ⟨_, [4], by simp, fun s H C cl fp => .name 4 nd, fun s H C cl fp => .tup (.cons (.var 2 rfl) (.cons (.var 3 rfl) (.cons (.var 4 rfl) .nil))) (show 3 ≤ 100000 by decide)⟩
      · refine .nil ⟨.d (.str q.1), c, ?_⟩
        rw [flatMap_take (f := lettersPQ p) hq0, ← List.append_assoc]
        rfl
    · rintro ds' ⟨b, c, rfl⟩
      refine .nil ⟨.d (.str p.1), b, c, ?_⟩
      rw [List.take_length, flatMap_take (f := fun p => R.flatMap (lettersPQ p)) hp0]
  · rintro ds' ⟨a, b, c, rfl⟩
    rw [List.take_length]
    exact .relL 1 rfl (.cons (.ret (.var 1 rfl) rfl))
def p_want_few : List Dt → Dt → Prop := fun as r => ∃ n : Nat, as = [.int (n : Nat)] ∧ n ≤ 16 ∧ r = .non
theorem ok_want_few (T : Txt K mg) : OkD P w K mg base d_want_few_letters 1 ["many"] (spD P w p_want_few) := by
  refine okD_pure (N := ["many"]) T.n_want_few_letters ⟨rfl, rfl, rfl, by decide +kernel, rfl, by decide +kernel, by decide +kernel⟩ (fun _ _ _ _ _ _ us hl => match us, hl with | [_], _ => rfl) ?_
  rintro as r ⟨n, rfl, hn, rfl⟩
  refine ⟨rfl, fun cdv A outer sh H E hr => ?_⟩
  obtain ⟨e1, e2, e3, e4, e5, e6, e7, e8, e9, e10⟩ := T.exs
  refine .cons (.ifs (k := false) (.cmp (.cast (.gt (.var 0 rfl) (.cval T.g_Picture e1 e4)) ?_)) (fun h => nomatch h) fun _ => .nil (.nil rfl))
  exact decide_eq_false (by omega)
end
end K66
set_option maxHeartbeats 4000000
namespace K66
variable [TabAt]
open PySem PySem.Spec PyProof.Rows L2
theorem words_len {r : Row} {k : Bool} {o : Str} : (words r k o).length = (places r k o).length := by unfold words; rw [List.length_map]
theorem zipIdx_get {α : Type} {xs : List α} {i : Nat} {p : α × Nat} (h : xs.zipIdx[i]? = some p) : xs[i]? = some p.1 ∧ p.2 = i := by
  rw [List.getElem?_zipIdx] at h
  cases hv : xs[i]? with
  | none => rw [hv] at h; cases h
  | some v =>
    rw [hv] at h
    have h := Option.some.inj h
    refine ⟨by rw [← h], by rw [← h]; exact Nat.zero_add i⟩
theorem mem_le {es : Says} : True := True.intro
section
variable {P : Program} {w : World} {K : PySem.W.Frag} {mg : Str → Option Value} {base : Heap}
theorem puts_ok (es : Says) : kOkL ((puts [] es).map fun p => spD' p.1) 8 = true := says_keys _
def p_says : List Dt → Dt → Prop := fun as r => ∃ R : Rows, as = [sD rT R] ∧ RowsG R ∧ heardAll R ∧ (entries R).length ≤ 1000 ∧ r = saysD (sog R)
theorem ok_says (T : Txt K mg) : OkD P w K mg base d_says_of_gets 2 ["rows"] (spD P w p_says) := by
  have nd : (["rows", "found", "one", "other", "said_at", "number", "place"] : List Str).Nodup := by decide +kernel
  refine okD_pure (N := ["rows", "found", "one", "other", "said_at", "number", "place"]) T.n_says_of_gets ⟨rfl, rfl, rfl, by decide +kernel, rfl, by decide +kernel, by decide +kernel⟩ (fun _ _ _ _ _ _ us hl => match us, hl with | [_], _ => rfl) ?_
  rintro as r ⟨R, rfl, hG, hh, hL, rfl⟩
  refine ⟨rfl, fun cdv A outer sh H E hr => ?_⟩
  have hu : (PX P w K mg base ["rows", "found", "one", "other", "said_at", "number", "place"] d_says_of_gets cdv A outer sh H E).A.units + 64 < cLine := hr.units
  refine .cons (.asg 1 nd (s := nO spD' spD' ([] : Says)) .newN ?_)
  refine .cons (.loopT (enc := fun p : Str × Row => .str p.1) (ys := R) (fun i ds1 => ∃ a b c d e, ds1 = [.d (sD rT R), nO spD' spD' (puts [] ((R.take i).flatMap fun p => R.flatMap (entPQ p))), a, b, c, d, e]) rfl (.keysS (e := rT) (l := R) (.var 0 rfl)) ⟨_, _, _, _, _, rfl⟩ ?_ ?_)
  · rintro i p ds1 hp0 ⟨a, b, c, d, e, rfl⟩
    have hp := List.mem_of_getElem? hp0
    refine ⟨[2], _, .name 2 nd, .cons (.loopT (enc := fun p : Str × Row => .str p.1) (ys := R) (fun j ds1 => ∃ b c d e, ds1 = [.d (sD rT R), nO spD' spD' (puts [] (((R.take i).flatMap fun p => R.flatMap (entPQ p)) ++ (R.take j).flatMap (entPQ p))), .d (.str p.1), b, c, d, e]) rfl (.keysS (e := rT) (l := R) (.var 0 rfl)) ⟨b, c, d, e, by rw [List.take_zero, List.flatMap_nil, List.append_nil]; rfl⟩ ?_ ?_)⟩
    · rintro j q ds1 hq0 ⟨b, c, d, e, rfl⟩
      have hq := List.mem_of_getElem? hq0
      have hpl : (places q.2 false p.1).length = (places p.2 true q.1).length := by rw [← words_len, ← words_len, hh p hp q hq]
      have hlen : (((R.take i).flatMap fun p => R.flatMap (entPQ p)) ++ (R.take j).flatMap (entPQ p)).length + (entPQ p q).length ≤ 1000 := by
        have h1 := flatMap_take (f := fun p => R.flatMap (entPQ p)) hp0
        have h2 := flatMap_take (f := entPQ p) hq0
        have h3 : ((R.take (i + 1)).flatMap fun p => R.flatMap (entPQ p)).length ≤ (entries R).length := flatMap_le
        have h4 : ((R.take (j + 1)).flatMap (entPQ p)).length ≤ (R.flatMap (entPQ p)).length := flatMap_le
        rw [h1, List.length_append] at h3
        rw [h2, List.length_append] at h4
        rw [List.length_append]
        omega
      refine ⟨[3], _, .name 3 nd, .cons (.asg 4 nd (.of (.call (ok_places_of T) T.g_places_of (hr.mono (by decide)) (.cons (.var 0 rfl) (.cons (.var 2 rfl) (.cons (.gstr T.s_SAY) (.cons (.var 3 rfl) .nil)))) ⟨R, p.1, true, q.1, p.2, rfl, hG.get hp, hG.rn p hp, hG.nm q hq, hG.ln p hp, rfl⟩)) ?_)⟩
      refine .cons (.loopT (enc := fun z : Nat × Nat => .tup [.int (z.2 : Nat), intD z.1]) (ys := (places q.2 false p.1).zipIdx) (fun m ds1 => ∃ d e, ds1 = [.d (sD rT R), nO spD' spD' (puts [] ((((R.take i).flatMap fun p => R.flatMap (entPQ p)) ++ (R.take j).flatMap (entPQ p)) ++ (entPQ p q).take m)), .d (.str p.1), .d (.str q.1), .d (.lst ((places p.2 true q.1).map intD)), d, e]) rfl
        (.cast' (.enum (.call (ok_places_of T) T.g_places_of (hr.mono (by decide)) (.cons (.var 0 rfl) (.cons (.var 3 rfl) (.cons (.gstr T.s_GET) (.cons (.var 2 rfl) .nil)))) ⟨R, q.1, false, p.1, q.2, rfl, hG.get hq, hG.rn q hq, hG.nm p hp, hG.ln q hq, rfl⟩) T.f_enumerate) enumD_map) ⟨d, e, by rw [List.take_zero, List.append_nil]; rfl⟩ ?_ ?_)
      · rintro m z ds1 hz ⟨d, e, rfl⟩
        obtain ⟨hz1, hz2⟩ := zipIdx_get hz
        have hm : m < (places p.2 true q.1).length := by rw [← hpl]; exact (List.getElem?_eq_some_iff.mp hz1).1
        have he : (entPQ p q)[m]? = some ((q.1, z.1), (p.1, (places p.2 true q.1).getD m 0)) := by
          unfold entPQ
          rw [List.getElem?_map, hz, Option.map_some, hz2]
        have hml : m ≤ (entPQ p q).length := Nat.le_of_lt (List.getElem?_eq_some_iff.mp he).1
        refine ⟨_, _, .tup rfl (.cons (.name 5 nd) (.cons (.name 6 nd) .nil)), ?_⟩
        refine .cons (.putN (d := spD' (p.1, (places p.2 true q.1).getD m 0)) (ts := [.str q.1, .int (z.1 : Nat)]) 1 hu rfl (.tup (.cons (.var 2 rfl) (.cons (.ixL (n := z.2) (xs := (places p.2 true q.1).map intD) (.var 4 rfl) (.var 5 rfl) ?_) .nil)) (show 2 ≤ 100000 by decide)) (.tup (.cons (.var 3 rfl) (.cons (.var 6 rfl) .nil)) (show 2 ≤ 100000 by decide)) (says_keys _) (spot_ok (q.1, z.1)) ?_ ?_)
        · rw [hz2, List.getElem?_map, List.getElem?_eq_getElem hm, List.getD_eq_getElem?_getD, List.getElem?_eq_getElem hm]; rfl
        · have h5 := puts_len (es := (((R.take i).flatMap fun p => R.flatMap (entPQ p)) ++ (R.take j).flatMap (entPQ p)) ++ (entPQ p q).take m) (l := [])
          rw [List.length_append, List.length_take] at h5
          rw [List.length_map]
          simp only [List.length_nil] at h5
          omega
        · refine .nil ⟨.d (.int (z.2 : Nat)), .d (intD z.1), ?_⟩
          have h6 := nO_put spot_inj (e := spD') (l := puts [] ((((R.take i).flatMap fun p => R.flatMap (entPQ p)) ++ (R.take j).flatMap (entPQ p)) ++ (entPQ p q).take m)) (q := (q.1, z.1)) (c := (p.1, (places p.2 true q.1).getD m 0))
          have h7 : (entPQ p q).take (m + 1) = (entPQ p q).take m ++ [((q.1, z.1), (p.1, (places p.2 true q.1).getD m 0))] := by rw [List.take_add_one, he]; rfl
          have h9 : ∀ (L : Says) (x : Spot × Spot), puts [] (L ++ [x]) = alPut (puts [] L) x.1 x.2 := fun L x => by rw [puts_app]; rfl
          rw [h7, ← List.append_assoc, h9, ← h6]
          rfl
      · rintro ds' ⟨d, e, rfl⟩
        refine .nil ⟨.d (.str q.1), .d (.lst ((places p.2 true q.1).map intD)), d, e, ?_⟩
        have h8 : (entPQ p q).take (places q.2 false p.1).zipIdx.length = entPQ p q := by
          refine List.take_of_length_le ?_
          unfold entPQ
          rw [List.length_map]; exact Nat.le_refl _
        rw [h8, flatMap_take (f := entPQ p) hq0, List.append_assoc]
    · rintro ds' ⟨b, c, d, e, rfl⟩
      refine .nil ⟨.d (.str p.1), b, c, d, e, ?_⟩
      rw [List.take_length, flatMap_take (f := fun p => R.flatMap (entPQ p)) hp0]
  · rintro ds' ⟨a, b, c, d, e, rfl⟩
    rw [List.take_length]
    exact .rel 1 rfl (.cons (.ret (.var 1 rfl) rfl))
end
end K66
set_option maxHeartbeats 4000000
namespace K66
variable [TabAt]
open PySem PySem.Spec PyProof.Rows L2
def cntOf (R : Rows) (n : Str → Nat) : Cnt := R.map fun p => (p.1, n p.1)
def full (R : Rows) : Cnt := R.map fun p => (p.1, p.2.length)
def bump (n : Str → Nat) (h : Str) (m : Nat) : Str → Nat := fun x => if x = h then m else n x
def rem (R : Rows) (n : Str → Nat) : Nat := (R.map fun p => p.2.length - n p.1).sum
def blocked (R : Rows) (S : Says) (n : Str → Nat) (p : Str × Row) : Prop := n p.1 = p.2.length ∨ freeB (cntOf R n) S (p.1, n p.1) = false
/-- where nothing more can be done all is done -/
def Sat (R : Rows) (S : Says) : Prop := ∀ n : Str → Nat, (∀ p ∈ R, n p.1 ≤ p.2.length) → (∀ p ∈ R, blocked R S n p) → ∀ p ∈ R, n p.1 = p.2.length
theorem cnt_get {R : Rows} {n : Str → Nat} {h : Str} (hh : h ∈ hands R) : alGet (cntOf R n) h = some (n h) := by
  induction R with
  | nil => simp [hands] at hh
  | cons p R ih =>
    show alGet ((p.1, n p.1) :: cntOf R n) h = _
    unfold alGet
    by_cases e : p.1 = h
    · rw [if_pos e, e]
    · rw [if_neg e]
      refine ih ?_
      rcases List.mem_cons.mp (show h ∈ p.1 :: hands R from hh) with z | z
      · exact absurd z.symm e
      · exact z
theorem cnt_put {R : Rows} {n : Str → Nat} {h : Str} {m : Nat} (hn : (hands R).Nodup) (hh : h ∈ hands R) : alPut (cntOf R n) h m = cntOf R (bump n h m) := by
  have hk : (cntOf R n).map (·.1) = hands R := by unfold cntOf hands; rw [List.map_map]; rfl
  have : alHas (cntOf R n) h = true := alHas_iff.mpr (by rw [hk]; exact hh)
  unfold alPut
  rw [if_pos this]
  clear this hk hh hn
  induction R with
  | nil => rfl
  | cons p R ih =>
    show alRep ((p.1, n p.1) :: cntOf R n) h m = (p.1, bump n h m p.1) :: cntOf R (bump n h m)
    rw [alRep, ih]
    rfl
theorem rem_bump {R : Rows} {n : Str → Nat} {p : Str × Row} (hn : (hands R).Nodup) (hp : p ∈ R) (hl : n p.1 < p.2.length) : rem R (bump n p.1 (n p.1 + 1)) < rem R n := by
  unfold rem
  induction R with
  | nil => simp at hp
  | cons q R ih =>
    have hn' : (q.1 :: hands R).Nodup := hn
    rw [List.nodup_cons] at hn'
    rw [List.map_cons, List.map_cons, List.sum_cons, List.sum_cons]
    rcases List.mem_cons.mp hp with z | z
    · subst z
      have e1 : bump n p.1 (n p.1 + 1) p.1 = n p.1 + 1 := by unfold bump; rw [if_pos rfl]
      have e2 : (R.map fun q => q.2.length - bump n p.1 (n p.1 + 1) q.1) = R.map fun q => q.2.length - n q.1 := by
        refine List.map_congr_left fun q hq => ?_
        unfold bump
        rw [if_neg fun e : q.1 = p.1 => hn'.1 (List.mem_map.mpr ⟨q, hq, e⟩)]
      rw [e1, e2]; omega
    · have e : bump n p.1 (n p.1 + 1) q.1 = n q.1 := by
        unfold bump
        rw [if_neg fun e : q.1 = p.1 => hn'.1 (List.mem_map.mpr ⟨p, z, e.symm⟩)]
      rw [e]
      have := ih hn'.2 z
      omega
theorem full_of {R : Rows} {n : Str → Nat} (h : ∀ p ∈ R, n p.1 = p.2.length) : cntOf R n = full R := List.map_congr_left fun p hp => by rw [h p hp]
section
variable {P : Program} {w : World} {K : PySem.W.Frag} {mg : Str → Option Value} {base : Heap}
def p_done : List Dt → Dt → Prop := fun as r => ∃ (R : Rows) (S : Says), as = [sD rT R, saysD S] ∧ RowsG R ∧ (∀ q p, alGet S q = some p → p.1 ∈ hands R) ∧ Sat R S ∧ r = sD intD (full R)
theorem ok_done (T : Txt K mg) : OkD P w K mg base d_done_counts 2 ["rows", "says"] (spD P w p_done) := by
  have nd : (["rows", "says", "counts", "hand", "is_going"] : List Str).Nodup := by decide +kernel
  refine okD_pure (N := ["rows", "says", "counts", "hand", "is_going"]) T.n_done_counts ⟨rfl, rfl, rfl, by decide +kernel, rfl, by decide +kernel, by decide +kernel⟩ (fun _ _ _ _ _ _ us hl => match us, hl with | [_, _], _ => rfl) ?_
  rintro as r ⟨R, S, rfl, hG, hS, hSat, rfl⟩
  refine ⟨rfl, fun cdv A outer sh H E hr => ?_⟩
  have hu : (PX P w K mg base ["rows", "says", "counts", "hand", "is_going"] d_done_counts cdv A outer sh H E).A.units + 64 < cLine := hr.units
  have hsz := hG.sz
  refine .cons (.asg 2 nd (s := sO intD ([] : Cnt)) .newK ?_)
  refine .cons (.loopT (enc := fun p : Str × Row => .str p.1) (ys := R) (fun i ds1 => ∃ a b, ds1 = [.d (sD rT R), .d (saysD S), sO intD ((R.take i).map fun p => (p.1, 0)), a, b]) rfl (.keysS (e := rT) (l := R) (.var 0 rfl)) ⟨_, _, rfl⟩ ?_ ?_)
  · rintro i p ds1 hp0 ⟨a, b, rfl⟩
    refine ⟨[3], _, .name 3 nd, .cons (.putK (k := .inr p.1) (d := intD 0) 2 hu rfl .int (.var 3 rfl) ?_ ?_)⟩
    · rw [List.length_map, List.length_map, List.length_take]; omega
    · refine .nil ⟨.d (.str p.1), b, ?_⟩
      have h6 := sO_put (e := intD) (l := (R.take i).map fun p => (p.1, 0)) (q := p.1) (c := 0)
      have hi := (List.getElem?_eq_some_iff.mp hp0).1
      have h7 : alPut ((R.take i).map fun p => (p.1, 0)) p.1 0 = (R.take (i + 1)).map fun p => (p.1, 0) := by
        rw [alPut_new, List.take_add_one, hp0, List.map_append]
        · rfl
        · rw [List.map_map]
          intro hm
          obtain ⟨q, hq1, hq2⟩ := List.mem_map.mp hm
          obtain ⟨j, hj, hj2⟩ := List.getElem_of_mem hq1
          rw [List.length_take] at hj
          rw [List.getElem_take] at hj2
          have e1 : (hands R)[j]'(by unfold hands; rw [List.length_map]; omega) = (hands R)[i]'(by unfold hands; rw [List.length_map]; exact hi) := by
            unfold hands
            rw [List.getElem_map, List.getElem_map, hj2]
            obtain ⟨_, e⟩ := List.getElem?_eq_some_iff.mp hp0
            rw [e]; exact hq2
          have := (List.getElem_inj hG.nd).mp e1
          omega
      rw [h7] at h6
      rw [← h6]
      rfl
  rintro ds' ⟨a, b, rfl⟩
  have e0 : ((R.take R.length).map fun p => (p.1, 0)) = cntOf R fun _ => 0 := by rw [List.take_length]; rfl
  rw [e0]
  refine .cons (.asg 4 nd (.of .bl) ?_)
  refine .cons (.whl (fun m ds1 => ∃ n g a, ds1 = [.d (sD rT R), .d (saysD S), sO intD (cntOf R n), a, .d (.bl g)] ∧ (∀ p ∈ R, n p.1 ≤ p.2.length) ∧ (g = false → ∀ p ∈ R, blocked R S n p) ∧ m = 2 * rem R n + (if g = true then 1 else 0)) (m0 := 2 * rem R (fun _ => 0) + 1) ⟨_, true, a, rfl, fun _ _ => Nat.zero_le _, (fun h => nomatch h), rfl⟩ ?_)
  rintro m ds1 ⟨n, g, a, rfl, hle, hbl, hm⟩
  refine ⟨g, .val (.var 4 rfl), fun hg => ?_, fun hg => ?_⟩
  · subst hg
    refine .cons (.asg 4 nd (.of .bl) ?_)
    refine .cons (.loopT (enc := fun p : Str × Row => .str p.1) (ys := R) (fun i ds1 => ∃ n' g' a, ds1 = [.d (sD rT R), .d (saysD S), sO intD (cntOf R n'), a, .d (.bl g')] ∧ (∀ p ∈ R, n' p.1 ≤ p.2.length) ∧ (g' = false → n' = n ∧ ∀ j q, j < i → R[j]? = some q → blocked R S n q) ∧ (g' = true → rem R n' < rem R n)) rfl (.keysS (e := rT) (l := R) (.var 0 rfl)) ⟨n, false, a, rfl, hle, (fun _ => ⟨rfl, fun j q hj => absurd hj (Nat.not_lt_zero j)⟩), fun h => nomatch h⟩ ?_ ?_)
    · rintro i p ds1 hp0 ⟨n', g', a, rfl, hle', hb', hr'⟩
      have hp := List.mem_of_getElem? hp0
      have hph : p.1 ∈ hands R := List.mem_map.mpr ⟨p, hp, rfl⟩
      refine ⟨[3], _, .name 3 nd, .cons (.whl (fun m2 ds1 => ∃ n2 g2, ds1 = [.d (sD rT R), .d (saysD S), sO intD (cntOf R n2), .d (.str p.1), .d (.bl g2)] ∧ (∀ p ∈ R, n2 p.1 ≤ p.2.length) ∧ (g2 = false → n2 = n ∧ ∀ j q, j < i → R[j]? = some q → blocked R S n q) ∧ (g2 = true → rem R n2 < rem R n) ∧ m2 = p.2.length - n2 p.1) (m0 := p.2.length - n' p.1) ⟨n', g', rfl, hle', hb', hr', rfl⟩ ?_)⟩
      rintro m2 ds1 ⟨n2, g2, rfl, hle2, hb2, hr2, hm2⟩
      have hgc : alGet (cntOf R n2) p.1 = some (n2 p.1) := cnt_get hph
      refine ⟨decide (((n2 p.1 : Nat) : Int) < ((p.2.length : Nat) : Int)) && freeB (cntOf R n2) S (p.1, n2 p.1), .view 2 rfl (.bool (.and (.cast (.cmp (.lt (.getS (e := intD) (l := cntOf R n2) hu (.var 2 rfl) (.var 3 rfl) hgc) (.lenT (xs := p.2.map dD) (.getS (e := rT) (l := R) hu (.var 0 rfl) (.var 3 rfl) (hG.get hp)) T.f_len))) ?_) fun _ => .and1 (.val (.call (ok_is_free T) T.g_is_free hr (.cons (.var 2 rfl) (.cons (.var 1 rfl) (.cons (.tup (.cons (.var 3 rfl) (.cons (.getS (e := intD) (l := cntOf R n2) hu (.var 2 rfl) (.var 3 rfl) hgc) .nil)) (show 2 ≤ 100000 by decide)) .nil))) ⟨cntOf R n2, S, (p.1, n2 p.1), rfl, fun q hq => ?_, rfl⟩)))), fun hk => ?_, fun hk => ?_⟩
      · rw [List.length_map]
      · rw [cnt_get (hS _ q hq)]; rfl
      · obtain ⟨hk1, hk2⟩ := Bool.and_eq_true_iff.mp hk
        have hlt : n2 p.1 < p.2.length := by have := of_decide_eq_true hk1; omega
        refine .cons (.putK (k := .inr p.1) (d := intD (n2 p.1 + 1)) 2 hu rfl (.view 2 rfl (.cast (.add (.getS (e := intD) (l := cntOf R n2) hu (.var 2 rfl) (.var 3 rfl) hgc) .int) ?_)) (.var 3 rfl) ?_ ?_)
        · unfold intD
          congr 1
        · rw [List.length_map]; unfold cntOf; rw [List.length_map]; omega
        · refine .cons (.asg 4 nd (.of .bl) (.nil ⟨p.2.length - (n2 p.1 + 1), by omega, bump n2 p.1 (n2 p.1 + 1), true, ?_, fun q hq => ?_, (fun h => nomatch h), fun _ => ?_, ?_⟩))
          · have h6 := sO_put (e := intD) (l := cntOf R n2) (q := p.1) (c := n2 p.1 + 1)
            rw [cnt_put hG.nd hph] at h6
            rw [← h6]; rfl
          · unfold bump
            split
            · rename_i e
              have : q.2 = p.2 := by
                have h1 := hG.get hq
                have h2 := hG.get hp
                rw [e, h2] at h1
                exact (Option.some.inj h1).symm
              rw [this]; omega
            · exact hle2 q hq
          · have h1 := rem_bump hG.nd hp hlt
            cases hg2 : g2 with
            | false => rw [(hb2 hg2).1] at h1 ⊢; exact h1
            | true => exact Nat.lt_trans h1 (hr2 hg2)
          · unfold bump; rw [if_pos rfl]
      · refine .nil ⟨n2, g2, .d (.str p.1), rfl, hle2, fun hg2 => ?_, hr2⟩
        obtain ⟨h1, h2⟩ := hb2 hg2
        refine ⟨h1, fun j q hj hq => ?_⟩
        by_cases hji : j < i
        · exact h2 j q hji hq
        · have : j = i := by omega
          subst this
          rw [hp0] at hq
          cases hq
          subst h1
          rcases Bool.and_eq_false_iff.mp hk with z | z
          · left
            have := of_decide_eq_false z
            have := hle2 p hp
            omega
          · exact .inr z
    · rintro ds' ⟨n', g', a, rfl, hle', hb', hr'⟩
      refine .nil ⟨2 * rem R n' + (if g' = true then 1 else 0), ?_, n', g', a, rfl, hle', fun hg' => ?_, rfl⟩
      · rw [hm]
        cases hg' : g' with
        | false => rw [(hb' hg').1]; simp
        | true => have := hr' hg'; simp; omega
      · obtain ⟨h1, h2⟩ := hb' hg'
        subst h1
        intro p hp
        obtain ⟨j, hj, e⟩ := List.getElem_of_mem hp
        exact h2 j p hj (by rw [← e]; exact List.getElem?_eq_getElem hj)
  · have h1 := hSat n hle (hbl hg)
    rw [full_of h1]
    exact .rel 2 rfl (.cons (.ret (.var 2 rfl) rfl))
end
end K66
set_option maxHeartbeats 4000000
namespace K66
variable [TabAt]
open PySem PySem.Spec PyProof.Rows L2
/-- the pairs of the frozen dict at d -/
def Itn (P : Program) (w : World) (d : Addr) (o : Obj) (xs : List NE) (us : List V) : It := Itp (fun H => H d = some (.frz o (ndO P w d xs))) xs.length (fun _ i x y => ∃ e, xs[i]? = some e ∧ x = .ref e.2.1 ∧ us[i]? = some y)
theorem turn_itemsN {P : Program} {w : World} {K : PySem.W.Frag} {elts : List Expr} {kk : Nat} {tpos : Pos} {d I : Addr} {o : Obj} {xs : List NE} {us : List V} {es : Array DictEntry} {ep : Nat} (hdI : d ≠ I) (hx : o.ExactDict) (hod : o.data = .dict es ep) (hen : es.toList = xs.map (entryOfKey (nestedKind P w))) (hv : Vals us (xs.map (·.2.2))) :
    Turn P w K (.Tuple elts kk tpos) (Itn P w d o xs us) [I] I (fun i h => (∃ ok ov, IsItemIter h I d i es.size ep ok ov) ∧ i ≤ xs.length) := by
  have hsz : es.size = xs.length := by rw [← Array.length_toList, hen, List.length_map]
  refine turn_pairs (γ := Unit) (fp := fun _ => [I, d]) (nn := fun _ => es.size) (cont := fun _ h => h.DictRaw d es ep) (pv := fun _ i x y => ∃ hi : i < es.size, x = es[i].key ∧ y = es[i].val) ?_ (by simp) ?_ ?_ ?_ ?_
  · intro A c hh
    refine (GoesN.rawItems (A := A) hh I d hdI es ep).mono fun i h0 v h _ q => ?_
    obtain ⟨T, hi, rfl, hT, q⟩ := q
    exact ⟨T, _, _, rfl, hT, ⟨hi, rfl, rfl⟩, q⟩
  · intro i h st b hb
    obtain ⟨ok, ov, e⟩ := st
    rw [List.mem_singleton.mp hb]
    exact ⟨_, e, fun v z => nomatch z⟩
  · intro i h h' st k
    obtain ⟨ok, ov, e⟩ := st
    exact ⟨ok, ov, k I (by simp) _ e⟩
  · intro X hP hw hK pins s σ H I' hg
    subst hP hw hK
    obtain ⟨ho, _⟩ := I'.hok d _ hg
    refine ⟨(), ⟨o, ho, hx, hod⟩, hsz, fun i x y q => ?_⟩
    obtain ⟨hi, rfl, rfl⟩ := q
    have hi2 : i < xs.length := by omega
    have e1 : es[i] = entryOfKey (nestedKind X.prog X.w) xs[i] := by
      have e2 : es.toList[i]? = (xs.map (entryOfKey (nestedKind X.prog X.w)))[i]? := by rw [hen]
      rw [Array.getElem?_toList, Array.getElem?_eq_getElem hi, List.getElem?_map, List.getElem?_eq_getElem hi2] at e2
      exact Option.some.inj e2
    have hl := hv.length
    rw [List.length_map] at hl
    obtain ⟨u, hu, ru⟩ := hv.get (List.getElem?_eq_getElem (show i < us.length by omega))
    rw [List.getElem?_map, List.getElem?_eq_getElem hi2] at hu
    have hu : xs[i].2.2 = u := Option.some.inj hu
    refine ⟨.ref xs[i].2.1, us[i]'(by omega), ?_, ?_, xs[i], List.getElem?_eq_getElem hi2, rfl, List.getElem?_eq_getElem _⟩
    · rw [e1]; rfl
    · rw [e1]
      show RelV _ (entryOfKey (nestedKind X.prog X.w) xs[i]).val
      have : (entryOfKey (nestedKind X.prog X.w) xs[i]).val = xs[i].2.2 := rfl
      rw [this, hu]; exact ru
  · intro A i s Q E st h
    obtain ⟨_, _, e⟩ := st
    exact PySem.W.kcp_self e h
/-- the pairs as data -/
def prsN (ks vs : List Dt) : List Dt := (ks.zip vs).map fun p => .tup [p.1, p.2]
theorem Wk.itemsN {P : Program} {w : World} {W : Addr → Prop} {C H : Hp} {d : Addr} {o : Obj} {ks vs : List Dt} {xs : List NE} {us : List V} (h : C d = some (.frz o (ndO P w d xs))) (hk : IsK P w C ks xs) (hv : Vals us (xs.map (·.2.2))) (i : IsL P w C vs us) : Wk P w W (Itn P w d o xs us) C H (prsN ks vs) := fun C2 H2 x n => by
  have h2 : H2 d = some (.frz o (ndO P w d xs)) := x.le'.ex _ _ (x.le.ex _ _ h)
  have hl1 := hk.len
  have hl2 := i.len
  have hl3 := hv.length
  rw [List.length_map] at hl3
  have hl : (prsN ks vs).length = xs.length := by
    unfold prsN
    rw [List.length_map, List.length_zip]
    omega
  refine ⟨fun dd e => ?_, fun hm => ⟨h2, by rw [hl] at hm; exact hm⟩⟩
  have hn : n < xs.length := by rw [← hl]; exact (List.getElem?_eq_some_iff.mp e).1
  refine ⟨⟨h2, hn⟩, fun y H3 q => ?_⟩
  obtain ⟨T, a, b, rfl, hT, rfl, en, he, rfl, hu⟩ := q
  obtain ⟨k, hk1, hk2, hk3⟩ := hk.get he
  obtain ⟨z, hz, iz⟩ := i.get' hu
  have e2 : (prsN ks vs)[n]? = some (.tup [k, z]) := by
    unfold prsN
    have : (ks.zip vs)[n]? = some (k, z) := by rw [List.getElem?_zip_eq_some]; exact ⟨hk1, hz⟩
    rw [List.getElem?_map, this]; rfl
  rw [e2] at e
  cases e
  have l : Lw C2 (upd C2 T (.tup [.ref en.2.1, b])) := .new (x.le'.dom T hT)
  exact ⟨upd C2 T (.tup [.ref en.2.1, b]), .new x.le' hT, T, _, rfl, upd_same, .cons (Is.mono l _ _ (Is.mono x.le _ _ hk3)) (.one (Is.mono l _ _ (Is.mono x.le _ _ iz)))⟩
def iItemsN (P : Program) (w : World) (td : TE) : TI := fun σ H R => td σ H fun x H1 => ∃ d o xs us, x = .ref d ∧ H1 d = some (.frz o (ndO P w d xs)) ∧ Vals us (xs.map (·.2.2)) ∧ R (Itn P w d o xs us) H1
section
variable {X : Cx} {e : Expr} {td : TE} {apos cpos tpos : Pos} {elts : List Expr} {kk : Nat}
theorem pi_itemsN (he : PE X e td) (hbase : attributeBase e "items" X.env (eval e X.env) = eval e X.env) (hline : (apos.endLine == cpos.line) = true) : PI X (.Tuple elts kk tpos) (.Call (.Attribute e "items" apos) [] [] cpos) (iItemsN X.prog X.w td) := by
  refine ⟨fun pn s0 σ H0 R J0 rd => ?_⟩
  refine wpAny_Call_method (T := "dict") (id := "dict.items") hbase rfl hline F.plainAttrs_dict F.slot_dict_items F.type_dict_items (thn (he.run pn s0 σ H0 _ J0 rd) fun u sa ⟨x, Ha, Ja, rx, d, o, xs, us, ex, hd, hv, q⟩ => ?_)
  subst ex
  cases rx
  obtain ⟨ho, ⟨⟨h1, h2, h3, o', es, ep, ho', hx, hod, hen⟩, _, _⟩⟩ := Ja.hok d _ hd
  rw [ho] at ho'
  cases ho'
  refine ⟨⟨o, ho, hx.1⟩, fun b eb => by cases eb; exact ⟨o, ho, hx.2.1⟩, ?_⟩
  have hsz : es.size = xs.length := by rw [← Array.length_toList, hen, List.length_map]
  have raw : sa.heap.DictRaw d es ep := ⟨o, ho, hx, hod⟩
  have k1 : ∀ b u, sa.heap.get? b = some u → (sa.heap.push { cls := .type "dict_items", data := .fields #[.ref d] }).get? b = some u := fun b u q => Heap.get?_push_of_some _ q
  have Jb : Inv X pn σ Ha { sa with heap := sa.heap.push { cls := .type "dict_items", data := .fields #[.ref d] } } := Ja.kept (t' := sa.toks) k1
  have ld : d < sa.heap.objs.size := Heap.lt_size ho
  have fin : wpAny (model X.prog X.w) X.A (pyIter (.ref sa.heap.objs.size)) (PIE X pn σ (.Tuple elts kk tpos) R) X.xe { sa with heap := sa.heap.push { cls := .type "dict_items", data := .fields #[.ref d] } } := by
    refine wpAny_pyIter_items_raw (d := d) (es := es) (ep := ep) ⟨_, Heap.get?_push_size _ rfl, rfl, rfl⟩ (raw.push _) (pi_one (tk := sa.toks) Jb _ (turn_itemsN ?_ hx hod hen hv) ⟨⟨.none, .none, Heap.get?_push_size _ rfl⟩, Nat.zero_le _⟩ q)
    rw [Heap.size_push]
    exact Nat.ne_of_lt (Nat.lt_succ_of_lt ld)
  show wpAny _ _ (callWith cpos (.builtin "dict.items") [.ref d] [] []) _ X.xe sa
  exact method_meetsIn F.slot_dict_items F.entry_dict_items rfl (PySem.evalArgs_none ⟨rfl, ⟨o, ho, hx.1⟩, F.args_dict_items_1 _, _, PySem.meets_dict_items_raw d h2, ⟨es, ep, raw⟩, fin⟩)
theorem EvI.itemsN {W : Addr → Prop} {ds : List Sl} {ks vs : List Dt} (h : EvD X e ds (.nd ks vs)) (hbase : attributeBase e "items" X.env (eval e X.env) = eval e X.env := by rfl) (hline : (apos.endLine == cpos.line) = true := by rfl) :
    EvI X W (.Tuple elts kk tpos) (.Call (.Attribute e "items" apos) [] [] cpos) ds (prsN ks vs) := fun C H σ S R q =>
  piW (pi_itemsN wpE.pe hbase hline) (h C H σ S _ fun v C1 H1 x1 i1 => by
    obtain ⟨d, o, xs, us, rfl, r, hk, hv, i⟩ := i1
    exact ⟨d, o, xs, us, rfl, x1.le'.ex _ _ r, hv, q _ C1 H1 x1 (.itemsN r hk hv i)⟩)
end
end K66
set_option maxHeartbeats 4000000
namespace K66
variable [TabAt]
open PySem PySem.Spec PyProof.Rows L2
/-- a picture that stands -/
structure Pic (R : Rows) : Prop where
  ok : rowsOk R = true
  nd : (hands R).Nodup
  so : sortedH (hands R)
  few : R.length ≤ 4
  heard : heardAll R
  let_ : (lettersD R).length ≤ 16
  ent : (entries R).length ≤ 1000
  sat : Sat R (sog R)
theorem Pic.row {R : Rows} (h : Pic R) {p : Str × Row} (hp : p ∈ R) : isNm p.1 = true ∧ rowOk (hands R) p.1 p.2 = true ∧ p.2.length ≤ 1000 := by
  obtain ⟨h1, _⟩ := Bool.and_eq_true_iff.mp h.ok
  obtain ⟨_, h2⟩ := Bool.and_eq_true_iff.mp h1
  obtain ⟨a, b⟩ := Bool.and_eq_true_iff.mp (List.all_eq_true.mp h2 p hp)
  obtain ⟨b, c⟩ := Bool.and_eq_true_iff.mp b
  exact ⟨a, b, of_decide_eq_true c⟩
theorem Pic.G {R : Rows} (h : Pic R) : RowsG R := ⟨h.nd, fun p hp => (h.row hp).1, fun p hp => rowNm_of (h.row hp).2.1, fun p hp => (h.row hp).2.2, by have := h.few; omega⟩
theorem puts_vals {P : Spot → Prop} : ∀ {es l : Says}, (∀ e ∈ es, P e.2) → (∀ q p, alGet l q = some p → P p) → ∀ q p, alGet (puts l es) q = some p → P p
  | [], l, _, h => h
  | e :: es, l, he, h => by
    refine puts_vals (es := es) (l := alPut l e.1 e.2) (fun x hx => he x (List.mem_cons_of_mem _ hx)) fun q p hq => ?_
    rw [alGet_put] at hq
    split at hq
    · cases hq; exact he e (by simp)
    · exact h q p hq
theorem sog_hands {R : Rows} : ∀ q p, alGet (sog R) q = some p → p.1 ∈ hands R := by
  refine puts_vals (P := fun s => s.1 ∈ hands R) (fun e he => ?_) fun q p h => nomatch h
  obtain ⟨p, hp, he⟩ := List.mem_flatMap.mp he
  obtain ⟨q, hq, he⟩ := List.mem_flatMap.mp he
  obtain ⟨z, hz, rfl⟩ := List.mem_map.mp he
  exact List.mem_map.mpr ⟨p, hp, rfl⟩
theorem full_get {R : Rows} (hn : (hands R).Nodup) {p : Str × Row} (hp : p ∈ R) : alGet (full R) p.1 = some p.2.length := by
  have h1 : ((full R).map (·.1)).Nodup := by
    have e : (full R).map (·.1) = hands R := by unfold full hands; rw [List.map_map]; rfl
    rw [e]; exact hn
  exact alGet_nodup (p := (p.1, p.2.length)) h1 (List.mem_map.mpr ⟨p, hp, rfl⟩)
section
variable {P : Program} {w : World} {K : PySem.W.Frag} {mg : Str → Option Value} {base : Heap}
def p_turning : List Dt → Dt → Prop := fun as r => ∃ R : Rows, as = [sD rT R] ∧ Pic R ∧ r = .non
theorem sog_len {R : Rows} (h : Pic R) : (sog R).length ≤ 1000 := by
  have := puts_len (es := entries R) (l := [])
  have h2 := h.ent
  simp only [List.length_nil] at this
  unfold sog
  omega
theorem ok_turning (T : Txt K mg) : OkD P w K mg base d_turning 3 ["rows"] (spD P w p_turning) := by
  have nd : (["rows", "says", "counts", "gets", "hand", "row", "place", "got_at", "said_at"] : List Str).Nodup := by decide +kernel
  refine okD_pure (N := ["rows", "says", "counts", "gets", "hand", "row", "place", "got_at", "said_at"]) T.n_turning ⟨rfl, rfl, rfl, by decide +kernel, rfl, by decide +kernel, by decide +kernel⟩ (fun _ _ _ _ _ _ us hl => match us, hl with | [_], _ => rfl) ?_
  rintro as r ⟨R, rfl, hP, rfl⟩
  refine ⟨rfl, fun cdv A outer sh H E hr => ?_⟩
  have hG := hP.G
  have hu : (PX P w K mg base ["rows", "says", "counts", "gets", "hand", "row", "place", "got_at", "said_at"] d_turning cdv A outer sh H E).A.units + 64 < cLine := hr.units
  have hsl := sog_len hP
  refine .cons (.asg 1 nd (.of (.call (ok_says T) T.g_says_of_gets hr (.cons (.var 0 rfl) .nil) ⟨R, rfl, hG, hP.heard, hP.ent, rfl⟩)) ?_)
  refine .cons (.asg 2 nd (.of (.call (ok_done T) T.g_done_counts hr (.cons (.var 0 rfl) (.cons (.var 1 rfl) .nil)) ⟨R, sog R, rfl, hG, sog_hands, hP.sat, rfl⟩)) ?_)
  refine .cons (.asgDn 3 (own := [("got_at", 7), ("said_at", 8)]) (zs := (sog R).map fun p => (.tup [spD' p.1, spD' p.2], some ([.str p.2.1, .int (p.2.2 : Nat)], spD' p.1))) rfl hu nd (.cast' (.itemsN (ks := (sog R).map fun p => spD' p.1) (vs := (sog R).map fun p => spD' p.2) (.var 1 rfl)) ?_) (blk_of rfl) ?_ ?_ ?_ ?_)
  · unfold prsN
    rw [List.map_map, List.zip_map', List.map_map]; rfl
  · rw [List.length_map]; omega
  · intro p hp
    obtain ⟨z, hz, e⟩ := List.mem_filterMap.mp hp
    obtain ⟨q, hq, rfl⟩ := List.mem_map.mp hz
    cases e
    exact spot_ok q.2
  · intro z hz
    obtain ⟨q, hq, rfl⟩ := List.mem_map.mp hz
    refine ⟨_, _, ?_, fun s H C cl fp => .tup rfl (.cons (.name 7 nd) (.cons (.name 8 nd) .nil)), fun s H C cl fp => .nil, fun p hp => ?_⟩
    · decide
    · cases hp
      exact ⟨fun s H C cl fp => .var 8 rfl, fun s H C cl fp => .var 7 rfl⟩
  refine .cons (.loopT (enc := fun p : Str × Row => .tup [.str p.1, rT p.2]) (ys := R) (fun i ds1 => ∃ x a b c d e, ds1 = [.d (sD rT R), .d (saysD (sog R)), .d (sD intD (full R)), x, a, b, c, d, e]) rfl (.itemsS (e := rT) (l := R) (.var 0 rfl)) ⟨_, _, _, _, _, _, rfl⟩ ?_ ?_)
  · rintro i p ds1 hp0 ⟨x, a, b, c, d, e, rfl⟩
    have hp := List.mem_of_getElem? hp0
    refine ⟨_, _, .tup rfl (.cons (.name 4 nd) (.cons (.name 5 nd) .nil)), .cons (.loop (fun i ds1 => i = 0 ∧ ds1 = [.d (sD rT R), .d (saysD (sog R)), .d (sD intD (full R)), x, .d (.str p.1), .d (rT p.2), c, d, e]) rfl (.cast' (.rng2 (m := p.2.length) (n := p.2.length) (.getS (e := intD) (l := full R) hu (.var 2 rfl) (.var 4 rfl) (full_get hP.nd hp)) (.cast (.lenT (xs := p.2.map dD) (.var 5 rfl) T.f_len) ?_) T.f_range ?_ ?_) (show rng _ (p.2.length - p.2.length) = [] by rw [Nat.sub_self]; rfl)) ⟨rfl, rfl⟩ (fun i x ds1 hx => by cases hx) ?_)⟩
    · rw [List.length_map]
    · have := (hP.row hp).2.2; omega
    · have := (hP.row hp).2.2; omega
    · rintro ds' ⟨_, rfl⟩
      exact .nil ⟨_, _, _, _, _, _, rfl⟩
  · rintro ds' ⟨x, a, b, c, d, e, rfl⟩
    exact .cons (.ret .non rfl)
def p_checked : List Dt → Dt → Prop := fun as r => ∃ R : Rows, as = [sD rL R] ∧ Pic R ∧ r = sD rT R
theorem ok_checked (T : Txt K mg) : OkD P w K mg base d_checked_rows 5 ["value"] (spD P w p_checked) := by
  have nd : (["value", "rows", "pair", "spot", "one", "other"] : List Str).Nodup := by decide +kernel
  refine okD_pure (N := ["value", "rows", "pair", "spot", "one", "other"]) T.n_checked_rows ⟨rfl, rfl, rfl, by decide +kernel, rfl, by decide +kernel, by decide +kernel⟩ (fun _ _ _ _ _ _ us hl => match us, hl with | [_], _ => rfl) ?_
  rintro as r ⟨R, rfl, hP, rfl⟩
  refine ⟨rfl, fun cdv A outer sh H E hr => ?_⟩
  have hG := hP.G
  obtain ⟨e1, e2, e3, e4, e5, e6, e7, e8, e9, e10⟩ := T.exs
  have hf := hP.few
  refine .cons (.ifs (k := false) (.not (k := true) (.val (.call (ok_are_rows T) T.g_are_rows (hr.mono (by decide)) (.cons (.var 0 rfl) .nil) ⟨R, rfl, hP.ok, rfl⟩))) (fun h => nomatch h) fun _ => .nil ?_)
  refine .cons (.asg 1 nd (.of (.call (ok_kept_rows T) T.g_kept_rows (hr.mono (by decide)) (.cons (.var 0 rfl) .nil) ⟨R, rfl, hP.nd, hP.so, by omega, rfl⟩)) ?_)
  refine .cons (.par (i := 2) (j := 3) rfl nd (.of (.call (ok_unheard T) T.g_unheard (hr.mono (by decide)) (.cons (.var 1 rfl) (.cons .bl .nil)) ⟨R, rfl, hG, hP.heard, rfl⟩)) (.of .non) ?_)
  refine .cons (.ifs (k := false) (.cmp (.isNotN (d := .non) (.var 2 rfl))) (fun h => nomatch h) fun _ => .nil ?_)
  refine .cons (.asg 3 nd (.of (.call (ok_turning T) T.g_turning (hr.mono (by decide)) (.cons (.var 1 rfl) .nil) ⟨R, rfl, hP, rfl⟩)) ?_)
  refine .cons (.ifs (k := false) (.cmp (.isNotN (d := .non) (.var 3 rfl))) (fun h => nomatch h) fun _ => .nil ?_)
  refine .cons (.ifs (k := false) (.cmp (.cast (.gt (.lenS' (e := rT) (l := R) (.var 1 rfl) T.f_len) (.cval T.g_Picture e1 e3)) ?_)) (fun h => nomatch h) fun _ => .nil ?_)
  · exact decide_eq_false (by omega)
  refine .cons (.expr (.call (ok_want_few T) T.g_want_few_letters (hr.mono (by decide)) (.cons (.lenL (xs := lettersD R) (.call (ok_letters_of T) T.g_letters_of (hr.mono (by decide)) (.cons (.var 1 rfl) .nil) ⟨R, rfl, hG, by have := hP.let_; omega, rfl⟩) T.f_len) .nil) ⟨(lettersD R).length, rfl, hP.let_, rfl⟩) ?_)
  exact .cons (.ret (.var 1 rfl) rfl)
end
end K66
set_option maxHeartbeats 4000000
namespace K66
variable [TabAt]
open PySem PySem.Spec PyProof.Rows L2
/-- what __init__ promises: the one attribute, over data -/
def spI (P : Program) (w : World) (c : Addr) (f : Str) (pre : List Dt → Dt → Prop) : Sp := fun vs H Q _ => ∃ (C : Hp) (x dx : Addr) (us : List V) (as : List Dt) (d : Dt), vs = .ref x :: us ∧ pre as d ∧ Le C H ∧ IsL P w C as us ∧ C x = none ∧ H x = some (.ins c dx []) ∧
  ∀ C' H', Stw (fun b => b = x) C H C' H' → Is P w C' (.obj c f d) (.ref x) → Q .non H'
def InitΦ (c : Addr) (f : Str) (d : Dt) (x : Addr) : Res → Prop
  | .nx ds => ds[0]? = some (.im c f d x)
  | _ => False
/-- the slots at an __init__'s start -/
def dsI (n : Nat) (c x : Addr) (as : List Dt) : List Sl := .nw c x :: ds0 (n - 1) as
section
variable {P : Program} {w : World} {K : PySem.W.Frag} {mg : Str → Option Value} {base : Heap}
theorem start_cons {N : List Str} {v : V} {vs : List V} : L2.start N (v :: vs) = some v :: L2.start (N.drop 1) vs := by
  unfold L2.start
  rw [List.map_cons, List.cons_append, List.length_cons, List.length_drop]
  congr 3
  omega
theorem okI_of {d : He.DefD} {N ps : List Str} {k : Nat} {c : Addr} {f : Str} {pre : List Dt → Dt → Prop} (F : ∃ fd, FnP K d (He.fAd K d.at_) fd) (S : FnScope N ps d.scope)
    (hb : ∀ (kV doc pm : Value) (an : Option Addr) (cdv ct : Value) (us : List Value), us.length = ps.length → bindArgs (PySem.W.fnOf d.name d.qual d.params d.body d.scope .none kV doc pm an cdv ct) ⟨us, []⟩ = pure (ps.zip us))
    (hbody : ∀ as r, pre as r → as.length + 1 = ps.length ∧ ∀ x cdv A outer s H E, Room k (A.deeper (envOfC d.qual d.scope s.heap.objs.size (He.fAd K d.at_) cdv)) → Ss (PX P w K mg base N d cdv A outer s H E) d.body (dsI N.length c x as) (InitΦ c f r x)) :
    OkD P w K mg base d (k + 1) ps (spI P w c f pre) := by
  refine okD_of F S hb (fun vs H Q E h => ?_) fun cdv A outer s H vs Q E hr h => ?_
  · obtain ⟨C, x, dx, us, as, r, rfl, hp, l, i, _⟩ := h
    rw [List.length_cons, i.len]
    exact (hbody as r hp).1
  · obtain ⟨C, x, dx, us, as, r, rfl, hp, l, i, hcx, hx, q⟩ := h
    obtain ⟨h1, h2⟩ := hbody as r hp
    have hpl : ps.length ≤ N.length := by have := congrArg List.length S.pre; rw [List.length_take] at this; omega
    have el := i.len
    have hN : (N.drop 1).length = N.length - 1 := by rw [List.length_drop]
    obtain ⟨f0, B⟩ := SW.begins (N := N.drop 1) l i (by rw [el, hN]; omega)
    have hf0 : ∀ j, f0 j = [] ∨ ∃ a, a ∈ f0 j := fun j => by
      cases e : f0 j with
      | nil => exact .inl rfl
      | cons a r => exact .inr ⟨a, by simp⟩
    have hne : ∀ j, f0 j = [] := fun j => (hf0 j).elim id fun ⟨a, ha⟩ => by
      have h3 := B.th ha
      exact ((B.new j a ha).elim (fun z => z.elim) fun z => absurd z h3.2)
    have S0 : SW P w (fun b => b = x) H C H (L2.start N (.ref x :: us)) (dsI N.length c x as) := by
      rw [start_cons]
      refine ⟨fun j => if j = 0 then [x] else [], l, ?_, fun j s e => ?_, fun j => ?_, fun i j a hij hi hj => ?_, fun j a ha => ?_, fun j hj => ?_⟩
      · rw [List.length_cons]
        have := B.len
        unfold dsI
        rw [List.length_cons, this, hN]
      · cases j with
        | zero => cases e; exact ⟨rfl, rfl, hcx, dx, hx⟩
        | succ j =>
          have e : (ds0 (N.length - 1) as)[j]? = some s := e
          rw [← hN] at e
          have h4 := B.sl j s e
          rw [hne j] at h4
          rw [if_neg (Nat.succ_ne_zero j)]
          exact h4
      · show (if j = 0 then [x] else []).Nodup
        split <;> simp
      · try dsimp only at hi hj
        split at hi
        · split at hj
          · omega
          · simp at hj
        · simp at hi
      · try dsimp only at ha
        split at ha
        · exact .inl (List.mem_singleton.mp ha)
        · simp at ha
      · unfold dsI at hj
        rw [List.length_cons] at hj
        show (if j = 0 then [x] else []) = []
        rw [if_neg (by omega)]
    refine h2 x cdv A outer s H E hr (fun b => b = x) C H C H _ _ (.refl l) S0 fun r' hr' => ?_
    cases r' with
    | nx ds =>
      intro C' H' σ' a b cc
      have hr' : ds[0]? = some (.im c f r x) := hr'
      obtain ⟨fp, q1, q2, q3⟩ := cc.sd.sl 0 _ hr'
      exact q C' H' a q3
    | bk ds => exact hr'.elim
    | ct ds => exact hr'.elim
    | rt d ds => exact hr'.elim
end
section
variable {X : Cx} {ds : List Sl} {e : Expr} {es : List Expr} {pos pos' p q1 : Pos} {d : Dt} {Ψ : Res → Prop}
/-- self.f = e, in __init__ -/
theorem S1.setFld (i : Nat) {y f : Str} {c x : Addr} (hs : ds[i]? = some (.nw c x)) (he : EvD X e ds d) (hc : Cls X.K c) (hn : NoAttr X.K c f) (k : Ψ (.nx (ds.set i (.im c f d x)))) (hN : X.N[i]? = some y := by rfl) (hv : Vis X.env.scope y := by first | exact Or.inl rfl | exact Or.inr (Or.inl rfl) | exact Or.inr (Or.inr rfl))
    (hd : (y == ("__debug__" : Str)) = false := by decide) (hcd : (y == ("__classdict__" : Str)) = false := by decide) (hsw : swapsWith e (some (.Attribute (.Name y q1) f pos')) pos.line X.env = pure false := by rfl) : S1 X (.Assign [.Attribute (.Name y q1) f pos'] e pos) ds Ψ := fun W C0 H0 C H σ D w0 ⟨fo, S⟩ q => by
  obtain ⟨e1, e2, hcx, dx, hx⟩ := S.sl i _ hs
  have hm : x ∈ fo i := by rw [e1]; exact List.mem_singleton.mpr rfl
  refine psW (ps_fld wpE.pe wpE.pe hsw) (he C H σ S.sd _ fun u C1 H1 x1 i1 => nameW e2 ?_ hN hv hd hcd)
  have hc1 : C1 x = none := x1.hid x hcx (by rw [hx]; exact fun z => nomatch z)
  refine ⟨x, c, dx, [], rfl, x1.same _ _ hcx hx, hc, hn, by decide, ?_⟩
  have ep : putF f u ([] : List (Str × V)) = [(f, u)] := rfl
  rw [ep]
  have y1 : Stw (fun b => b = x) C1 H1 (upd C1 x (.ins c dx [(f, u)])) (upd H1 x (.ins c dx [(f, u)])) := .inn x1.le' hc1 rfl
  have S1' := S.mono x1
  have io : Isx X (upd C1 x (.ins c dx [(f, u)])) (.obj c f d) (.ref x) := ⟨x, dx, u, rfl, upd_same, Is.mono y1.le _ _ i1⟩
  have S2 := S1'.inn (i := i) (d := .obj c f d) y1 (fun b e => by rw [e]; exact hm) e2 io
  refine q _ k _ _ σ ((w0.thenS x1).old y1 fun b e => by rw [e]; exact S.new i x hm) (x1.prg.trans y1.prg) ⟨_, S2.le, ?_, fun j s e => ?_, S2.nd, S2.dj, S2.new, fun j hj => S2.out j (by rw [List.length_set] at hj ⊢; exact hj)⟩
  · rw [List.length_set]; exact S.len
  · by_cases hj : j = i
    · subst hj
      rw [List.getElem?_set, if_pos rfl] at e
      split at e
      · cases e
        rw [if_pos rfl]
        exact ⟨rfl, e2, io⟩
      · cases e
    · rw [List.getElem?_set_ne (Ne.symm hj)] at e
      exact S2.sl j s (by rw [List.getElem?_set_ne (Ne.symm hj)]; exact e)
/-- X(e, ..) -/
theorem EvD.new {g : He.DefD} {k : Nat} {ps : List Str} {pre : List Dt → Dt → Prop} {x f : Str} {as : List Dt} {c : Addr} (M : Mk X.K c (He.fAd X.K g.at_)) (O : OkD X.prog X.w X.K X.mg X.base g k ps (spI X.prog X.w c f pre)) (hm : X.mg x = some (.ref c)) (hr : Room (k + 1) X.A)
    (ha : EvA X (e :: es) ds as) (hp : pre as d) (hg : Gl X x := by rfl) (hdb : (x == ("__debug__" : Str)) = false := by decide) (he : starEach (e :: es) X.env = (false, eval e X.env) :: starEach es X.env := by rfl) (hpl : (backTo pos (starEach es X.env)).any (·.1) = false := by rfl) :
    EvD X (.Call (.Name x p) (e :: es) [] pos) ds (.obj c f d) := fun C H σ S Q q => by
  obtain ⟨fd, F, hb⟩ := O.ok
  refine peW (pe_make (E := E0) M F hr hg hm hb .nil pass0 wpA.pa hdb he hpl) (ha C H σ S _ fun vs C1 H1 x1 i1 => fun a dx ha hdx hne => ?_)
  have l1 : Le C1 (upd (upd H1 dx (.own a)) a (.ins c dx [])) := (x1.le'.out (x1.le'.dom dx hdx)).out (x1.le'.dom a ha)
  have s1 : Same H1 (upd (upd H1 dx (.own a)) a (.ins c dx [])) := fun b o e => by
    rw [upd_ne (ne_of_none e ha), upd_ne (ne_of_none e hdx)]; exact e
  show spI X.prog X.w c f pre (.ref a :: (vs ++ [])) _ _ E0
  rw [List.append_nil]
  refine ⟨C1, a, dx, vs, as, d, rfl, hp, l1, i1, x1.le'.dom a ha, upd_same, fun C' H' y io => ⟨rfl, ?_⟩⟩
  have z : Stp C1 H1 C1 (upd (upd H1 dx (.own a)) a (.ins c dx [])) := .only x1.le' s1
  have z2 : Stw (fun _ => False) C1 H1 C' H' := Stw.old (W := fun _ => False) z.w y fun b e => .inr (by rw [e]; exact ha)
  exact q _ C' H' (x1.trans (z2.stp fun _ h => h)) io
end
end K66
set_option maxHeartbeats 4000000
namespace K66
variable [TabAt]
open PySem PySem.Spec PyProof.Rows L2
section
variable {X : Cx}
theorem run_in1 {k : Nat} {fa : Addr} {fd : FuncData} {ps : List Str} {sp : Sp} {pn : List (Addr × Obj)} {σ : L2.St} {H : Hp} {s : Shared} {Q : VK} {us : List Value} {vs : List V} (F : FnOk X.prog X.w X.K X.mg X.base CX0 k fa fd ps sp) (hr : Room (k + 1) X.A) (hb : Binds X.K fd ps [])
    (J : Inv X pn σ H s) (r : Vals vs us) (h : sp vs H Q E0) : wpAny (model X.prog X.w) X.A.in1 (call (.ref fa) us) (EP X pn σ Q) X.xe s := by
  have hl : us.length = ps.length := by rw [← r.length]; exact F.len _ _ _ _ h
  have hbs := hb s us J.kIn (by rw [List.append_nil]; exact hl)
  rw [List.append_nil] at hbs
  refine wpAny_call (codeAny_mono (F.run X.A.in1 X.stack s H ⟨us, []⟩ us vs Q E0 hr.in1 J.env0.in1 hbs r h) fun z s' hq => ?_)
  cases z with
  | error e => exact hq.elim
  | ok fl =>
    cases fl with
    | ret u => exact J.after hq
    | next => exact hq.elim
    | brk => exact hq.elim
    | cont => exact hq.elim
theorem inst_at {pn : List (Addr × Obj)} {σ : L2.St} {H : Hp} {s : Shared} {a c dx : Addr} {fs : List (Str × V)} (J : Inv X pn σ H s) (h : H a = some (.ins c dx fs)) : ∃ od, PySem.W.InstAt s.heap a (PySem.W.instObj c dx) c (some od) := by
  obtain ⟨_, _, ne, e, mA, ns, _⟩ := J.hok a _ h
  obtain ⟨od, I, _⟩ := ObjM.look (⟨e, ns, ne⟩ : ObjM s.heap a dx c mA)
  exact ⟨od, I⟩
variable {ds : List Sl} {a b : Expr} {p pos : Pos} {d z : Dt}
theorem EvD.lenOwn {c : Addr} {f : Str} {g : He.DefD} {k n : Nat} {ps : List Str} {pre : List Dt → Dt → Prop} (O : OkD X.prog X.w X.K X.mg X.base g k ps (spD X.prog X.w pre)) (ha : EvD X a ds (.obj c f d)) (hm : Meth X.K c "__len__" (He.fAd X.K g.at_)) (hr : Room (k + 1) X.A) (hp : pre [.obj c f d] (.int (n : Nat))) (hn : n ≤ 1000000)
    (hmg : X.mg "len" = none) (hg : Gl X "len" := by rfl) (hst : starEach [a] X.env = (false, eval a X.env) :: starEach [] X.env := by rfl) : EvD X (.Call (.Name "len" p) [a] [] pos) ds (.int (n : Nat)) := by
  obtain ⟨fd, F, hb⟩ := O.ok
  have hc : CallR X (.builtin "len") (fun xs H Q => ∃ (C : Hp) (x : Addr), xs = [.ref x] ∧ Le C H ∧ Isx X C (.obj c f d) (.ref x) ∧ ∀ C' H', Stp C H C' H' → Q (.int (n : Nat)) H') := by
    intro pn s σ H xs us Q J r h
    obtain ⟨C, x, rfl, l, i, q⟩ := h
    obtain ⟨u, rfl, ru⟩ := vals1 r
    cases ru
    have i' := i
    obtain ⟨x', dx, u, e, hx, _⟩ := i
    cases e
    obtain ⟨m, fr⟩ := J.fr
    obtain ⟨od, I⟩ := inst_at J (l.ex _ _ hx)
    refine PySem.W.len_K fr J.ok.mod.kin I hm.at_ hm.fn (wpAny_mono (run_in1 F hr hb J (vs := [V.ref x]) (us := [.ref x]) (.cons rfl .nil) (Q := fun v H' => v = .int (n : Nat) ∧ ∃ C', Stp C H C' H') (spD.use hp l (.one i') fun v C' H' y iv => ⟨iv, C', y⟩)) (fun v s1 hv => ?_) fun _ _ z => z)
    obtain ⟨v', H', J', rv, rfl, C', y⟩ := hv
    obtain ⟨t, rfl⟩ := rv
    exact ⟨⟨Int.natCast_nonneg n, by omega⟩, .int (n : Nat), H', J'.tok _, ⟨_, rfl⟩, q C' H' y⟩
  exact .callB hc hmg boot_len (.cons ha .nil hst) (fun C H vs l i Q q => by
    obtain ⟨v, rfl, i1⟩ := IsL.one' i
    have i2 := i1
    obtain ⟨x, dx, u, rfl, _⟩ := i1
    exact ⟨C, x, rfl, l, i2, fun C' H' y => q _ C' H' y rfl⟩) hg (hst := hst)
theorem EvD.subOwn {c : Addr} {f : Str} {g : He.DefD} {k : Nat} {ps : List Str} {pre : List Dt → Dt → Prop} (F0 : ∃ fd, FnP X.K g (He.fAd X.K g.at_) fd) (O : OkD X.prog X.w X.K X.mg X.base g k ps (spD X.prog X.w pre)) (ha : EvD X a ds (.obj c f d)) {ix : Dt} (hb1 : EvD X b ds ix) (hm : Meth X.K c "__getitem__" (He.fAd X.K g.at_)) (hr : Room (k + 1) X.A) (hp : pre [.obj c f d, ix] z)
    (hsl : ∀ o i, subscripted b true o i = runValue (.builtin "lifetime.subscript" ⟨[o, i], []⟩) := by intro _ _; rfl) : EvD X (.Subscript a b pos) ds z := fun C H σ S Q q => by
  obtain ⟨fd, F, hb⟩ := O.ok
  have hfn : PySem.W.fnIn X.K (He.fAd X.K g.at_) = true := by
    obtain ⟨fd0, F0⟩ := F0
    obtain ⟨oc, od, dV, kV, doc, pm, an, cdv, ct, osl, rfl, lk, _⟩ := F0.ex
    unfold PySem.W.fnIn
    rw [lk]
  have hpe : PE X (.Subscript a b pos) (tOp (fun x y H Q => ∃ (C : Hp) (o : Addr), x = .ref o ∧ Le C H ∧ Isx X C (.obj c f d) (.ref o) ∧ Isx X C ix y ∧ ∀ v C' H', Stp C H C' H' → Isx X C' z v → Q v H') (wpE X a) (wpE X b)) := by
    refine ⟨fun pn s σ H Q J h => Subscript_ (binT wpE.pe wpE.pe J h fun v u s2 x y H2 J2 rx ry h2 => ?_)⟩
    obtain ⟨C, o, rfl, l, i, iy, q⟩ := h2
    cases rx
    have i' := i
    obtain ⟨o', dx, u0, e, ho, _⟩ := i
    cases e
    obtain ⟨m, fr⟩ := J2.fr
    obtain ⟨od, I⟩ := inst_at J2 (l.ex _ _ ho)
    exact PySem.W.sub_K fr J2.ok.mod.kin I hm.at_ hfn hm.fn (run_in1 F hr hb J2 (vs := [V.ref o, y]) (us := [.ref o, u]) (.cons rfl (.cons ry .nil)) (spD.use hp l (.cons i' (.one iy)) q)) (hsl _ _)
  exact peW hpe (two ha hb1 S fun v u C1 H1 x1 i1 i2 => by
    have i3 := i1
    obtain ⟨o, dx, u0, rfl, _⟩ := i1
    exact ⟨C1, o, rfl, x1.le', i3, i2, fun v C' H' y iv => q v C' H' (x1.trans y) iv⟩)
end
end K66
set_option maxHeartbeats 4000000
namespace K66
variable [TabAt]
open PySem PySem.Spec PyProof.Rows L2
def picD (K : PySem.W.Frag) (R : Rows) : Dt := .obj (He.ga K "Picture") "own_rows" (sD rT R)
def bookD (K : PySem.W.Frag) (B : List Rows) : Dt := .obj (He.ga K "Book") "own_pictures" (.tup (B.map (picD K)))
theorem typ_of {K : PySem.W.Frag} {x : Str} (h : typB K x = true) : PySem.W.findIn K (.ref (He.ga K x)) "__class__" = some (some (.builtin "object.__class__")) ∧ PySem.W.specialIn K (.builtin "object.__class__") "__get__" = some (some (.builtin "getset_descriptor.__get__")) ∧
    PySem.W.takesIn K (.builtin "object.__class__") = some true ∧ PySem.W.mroIn K (He.ga K x) (.type "object") = some true := by
  unfold typB at h
  obtain ⟨h1, h⟩ := Bool.and_eq_true_iff.mp h
  obtain ⟨h2, h⟩ := Bool.and_eq_true_iff.mp h
  obtain ⟨h3, h4⟩ := Bool.and_eq_true_iff.mp h
  exact ⟨of_decide_eq_true h1, of_decide_eq_true h2, of_decide_eq_true h3, of_decide_eq_true h4⟩
section
variable {P : Program} {w : World} {K : PySem.W.Frag} {mg : Str → Option Value} {base : Heap}
def p_Pinit : List Dt → Dt → Prop := fun as r => ∃ R : Rows, as = [sD rL R] ∧ Pic R ∧ r = sD rT R
theorem ok_Pinit (T : Txt K mg) : OkD P w K mg base d_Picture_init 6 ["self", "rows"] (spI P w (He.ga K "Picture") "own_rows" p_Pinit) := by
  refine okI_of (N := ["self", "rows"]) T.n_Picture_init ⟨rfl, rfl, rfl, by decide +kernel, rfl, by decide +kernel, by decide +kernel⟩ (fun _ _ _ _ _ _ us hl => match us, hl with | [_, _], _ => rfl) ?_
  rintro as r ⟨R, rfl, hP, rfl⟩
  refine ⟨rfl, fun x cdv A outer sh H E hr => ?_⟩
  obtain ⟨e1, e2, e3, e4, e5, e6, e7, e8, e9, e10⟩ := T.exs
  refine .cons (.ifs (k := false) (.val (.isiOwn (d := sD rL R) (.var 1 rfl) (show ("dict" : String) ≠ "" by decide) e9 T.f_isinstance T.g_Whole)) (fun h => nomatch h) fun _ => ?_)
  exact .cons (.setFld 0 rfl (.call (ok_checked T) T.g_checked_rows hr (.cons (.var 1 rfl) .nil) ⟨R, rfl, hP, rfl⟩) (He.cls_ok T.cls_Picture) (He.noat_ok T.noat_Picture_own_rows) (.nil (.nil rfl)))
def p_Phands (K : PySem.W.Frag) : List Dt → Dt → Prop := fun as r => ∃ R : Rows, as = [picD K R] ∧ r = .lst ((hands R).map .str)
theorem ok_Phands (T : Txt K mg) : OkD P w K mg base d_Picture_hands 1 ["self"] (spD P w (p_Phands K)) := by
  refine okD_pure (N := ["self"]) T.n_Picture_hands ⟨rfl, rfl, rfl, by decide +kernel, rfl, by decide +kernel, by decide +kernel⟩ (fun _ _ _ _ _ _ us hl => match us, hl with | [_], _ => rfl) ?_
  rintro as r ⟨R, rfl, rfl⟩
  exact ⟨rfl, fun cdv A outer sh H E hr => .cons (.ret (.listS (e := rT) (l := R) rfl (.fld (.var 0 rfl) (He.cls_ok T.cls_Picture) (He.noat_ok T.noat_Picture_own_rows)) T.f_list) rfl)⟩
def p_Prow (K : PySem.W.Frag) : List Dt → Dt → Prop := fun as r => ∃ (R : Rows) (h : Str) (rr : Row), as = [picD K R, .str h] ∧ alGet R h = some rr ∧ r = rL rr
theorem alGet_mem {β : Type} {l : List (Str × β)} {h : Str} {b : β} (e : alGet l h = some b) : (h, b) ∈ l := by
  induction l with
  | nil => cases e
  | cons p l ih =>
    obtain ⟨a, c⟩ := p
    unfold alGet at e
    split at e
    · rename_i he; cases e; rw [he]; exact List.mem_cons_self
    · exact List.mem_cons_of_mem _ (ih e)
theorem mem_hands {R : Rows} {h : Str} {r : Row} (e : alGet R h = some r) : h ∈ hands R := List.mem_map.mpr ⟨(h, r), alGet_mem e, rfl⟩
theorem ok_Prow (T : Txt K mg) : OkD P w K mg base d_Picture_row 2 ["self", "hand"] (spD P w (p_Prow K)) := by
  refine okD_pure (N := ["self", "hand"]) T.n_Picture_row ⟨rfl, rfl, rfl, by decide +kernel, rfl, by decide +kernel, by decide +kernel⟩ (fun _ _ _ _ _ _ us hl => match us, hl with | [_, _], _ => rfl) ?_
  rintro as r ⟨R, h, rr, rfl, hg, rfl⟩
  refine ⟨rfl, fun cdv A outer sh H E hr => ?_⟩
  have hu : (PX P w K mg base ["self", "hand"] d_Picture_row cdv A outer sh H E).A.units + 64 < cLine := hr.units
  refine .cons (.expr (.call (z := .non) (ok_want_hand T) T.g_want_hand hr (.cons (.meth0 (f := "own_rows") (d := sD rT R) (z := .lst ((hands R).map .str)) (ok_Phands T) (.var 0 rfl) (He.cls_ok T.cls_Picture) (He.meth_ok T.meth_Picture_hands) hr ⟨R, rfl, rfl⟩) (.cons (.var 1 rfl) .nil)) ⟨hands R, h, rfl, mem_hands hg, rfl⟩) ?_)
  exact .cons (.ret (.listT (xs := rr.map dD) (.getS (e := rT) (l := R) hu (.fld (.var 0 rfl) (He.cls_ok T.cls_Picture) (He.noat_ok T.noat_Picture_own_rows)) (.var 1 rfl) hg) T.f_list) rfl)
def p_Pletters (K : PySem.W.Frag) : List Dt → Dt → Prop := fun as r => ∃ R : Rows, as = [picD K R] ∧ Pic R ∧ r = .lst (lettersD R)
theorem ok_Pletters (T : Txt K mg) : OkD P w K mg base d_Picture_letters 4 ["self"] (spD P w (p_Pletters K)) := by
  refine okD_pure (N := ["self"]) T.n_Picture_letters ⟨rfl, rfl, rfl, by decide +kernel, rfl, by decide +kernel, by decide +kernel⟩ (fun _ _ _ _ _ _ us hl => match us, hl with | [_], _ => rfl) ?_
  rintro as r ⟨R, rfl, hP, rfl⟩
  exact ⟨rfl, fun cdv A outer sh H E hr => .cons (.ret (.call (ok_letters_of T) T.g_letters_of hr (.cons (.fld (.var 0 rfl) (He.cls_ok T.cls_Picture) (He.noat_ok T.noat_Picture_own_rows)) .nil) ⟨R, rfl, hP.G, by have := hP.let_; omega, rfl⟩) rfl)⟩
def p_Plen (K : PySem.W.Frag) : List Dt → Dt → Prop := fun as r => ∃ R : Rows, as = [picD K R] ∧ Pic R ∧ r = .int ((lettersD R).length : Nat)
theorem ok_Plen (T : Txt K mg) : OkD P w K mg base d_Picture_len 5 ["self"] (spD P w (p_Plen K)) := by
  refine okD_pure (N := ["self"]) T.n_Picture_len ⟨rfl, rfl, rfl, by decide +kernel, rfl, by decide +kernel, by decide +kernel⟩ (fun _ _ _ _ _ _ us hl => match us, hl with | [_], _ => rfl) ?_
  rintro as r ⟨R, rfl, hP, rfl⟩
  exact ⟨rfl, fun cdv A outer sh H E hr => .cons (.ret (.lenL (xs := lettersD R) (.meth0 (f := "own_rows") (d := sD rT R) (ok_Pletters T) (.var 0 rfl) (He.cls_ok T.cls_Picture) (He.meth_ok T.meth_Picture_letters) hr ⟨R, rfl, hP, rfl⟩) T.f_len) rfl)⟩
def nameD (R : Rows) : Dt := .tup [.tup ((hands R).map .str), .tup (R.map fun p => rT p.2)]
def p_name (K : PySem.W.Frag) : List Dt → Dt → Prop := fun as r => ∃ R : Rows, as = [picD K R] ∧ r = nameD R
theorem ok_name (T : Txt K mg) : OkD P w K mg base d_name_of 2 ["picture"] (spD P w (p_name K)) := by
  refine okD_pure (N := ["picture"]) T.n_name_of ⟨rfl, rfl, rfl, by decide +kernel, rfl, by decide +kernel, by decide +kernel⟩ (fun _ _ _ _ _ _ us hl => match us, hl with | [_], _ => rfl) ?_
  rintro as r ⟨R, rfl, rfl⟩
  refine ⟨rfl, fun cdv A outer sh H E hr => ?_⟩
  have e1 : (R.map fun p => (Sum.inr p.1 : Key)).map kD = (hands R).map .str := by unfold hands; rw [List.map_map, List.map_map]; rfl
  refine .cons (.ret (.tup (.cons (.cast (.tupK rfl (.fld (d := sD rT R) (.var 0 rfl) (He.cls_ok T.cls_Picture) (He.noat_ok T.noat_Picture_own_rows)) T.f_tuple) ?_) (.cons (.call (ok_key_of T) T.g_key_of hr (.cons (.fld (.var 0 rfl) (He.cls_ok T.cls_Picture) (He.noat_ok T.noat_Picture_own_rows)) .nil) ⟨R, rfl, rfl⟩) .nil)) (show 2 ≤ 100000 by decide)) rfl)
  rw [e1]
end
end K66
set_option maxHeartbeats 4000000
namespace K66
variable [TabAt]
open PySem PySem.Spec PyProof.Rows L2
mutual
def kd : Dt → Bool
  | .int _ => true
  | .str _ => true
  | .tup xs => kdL xs
  | .non => false
  | .bl _ => false
  | .lst _ => false
  | .dic _ _ => false
  | .nd _ _ => false
  | .obj _ _ _ => false
def kdL : List Dt → Bool
  | [] => true
  | d :: ds => kd d && kdL ds
end
mutual
theorem nk_inj : ∀ (d e : Dt), kd d = true → kd e = true → nk d = nk e → d = e
  | .int i, .int j, _, _, h => by rw [NestedKey.num.inj h]
  | .int i, .str y, _, _, h => nomatch h
  | .int i, .tup ys, _, _, h => nomatch h
  | .str x, .int j, _, _, h => nomatch h
  | .str x, .str y, _, _, h => by rw [NestedKey.text.inj h]
  | .str x, .tup ys, _, _, h => nomatch h
  | .tup xs, .int j, _, _, h => nomatch h
  | .tup xs, .str y, _, _, h => nomatch h
  | .tup xs, .tup ys, h1, h2, h => by rw [nks_inj xs ys h1 h2 (NestedKey.tup.inj h)]
theorem nks_inj : ∀ (ds es : List Dt), kdL ds = true → kdL es = true → nk.nks ds = nk.nks es → ds = es
  | [], [], _, _, _ => rfl
  | [], _ :: _, _, _, h => nomatch h
  | _ :: _, [], _, _, h => nomatch h
  | d :: ds, e :: es, h1, h2, h => by
    obtain ⟨a1, a2⟩ := Bool.and_eq_true_iff.mp (show (kd d && kdL ds) = true from h1)
    obtain ⟨b1, b2⟩ := Bool.and_eq_true_iff.mp (show (kd e && kdL es) = true from h2)
    obtain ⟨c1, c2⟩ := List.cons.inj (show nk d :: nk.nks ds = nk e :: nk.nks es from h)
    rw [nk_inj d e a1 b1 c1, nks_inj ds es a2 b2 c2]
end
theorem kdL_map {α : Type} {f : α → Dt} (h : ∀ a, kd (f a) = true) : ∀ l : List α, kdL (l.map f) = true
  | [] => rfl
  | a :: l => by show (kd (f a) && kdL (l.map f)) = true; rw [h a, kdL_map h l]; rfl
theorem kd_deed (d : Deed) : kd (dD d) = true := rfl
theorem kd_row (r : Row) : kd (rT r) = true := kdL_map kd_deed r
theorem dD_inj {a b : Deed} (h : dD a = dD b) : a = b := by
  obtain ⟨a1, a2, a3⟩ := a
  obtain ⟨b1, b2, b3⟩ := b
  have h := Dt.tup.inj h
  obtain ⟨h1, h⟩ := List.cons.inj h
  obtain ⟨h2, h⟩ := List.cons.inj h
  obtain ⟨h3, _⟩ := List.cons.inj h
  have e1 : a1 = b1 := kS_inj (Dt.str.inj h1)
  have e2 : a2 = b2 := Dt.str.inj h2
  have e3 : a3 = b3 := Dt.str.inj h3
  rw [e1, e2, e3]
theorem map_inj' {α β : Type} {f : α → β} (hf : ∀ a b, f a = f b → a = b) : ∀ {xs ys : List α}, xs.map f = ys.map f → xs = ys
  | [], [], _ => rfl
  | [], _ :: _, h => nomatch h
  | _ :: _, [], h => nomatch h
  | x :: xs, y :: ys, h => by
    obtain ⟨h1, h2⟩ := List.cons.inj (show f x :: xs.map f = f y :: ys.map f from h)
    rw [hf x y h1, map_inj' hf h2]
theorem rT_inj {a b : Row} (h : rT a = rT b) : a = b := map_inj' (fun _ _ => dD_inj) (Dt.tup.inj h)
theorem rL_inj {a b : Row} (h : rL a = rL b) : a = b := map_inj' (fun _ _ => dD_inj) (Dt.lst.inj h)
theorem rows_eq : ∀ {R R' : Rows}, R.map (·.1) = R'.map (·.1) → R.map (·.2) = R'.map (·.2) → R = R'
  | [], [], _, _ => rfl
  | [], _ :: _, h, _ => nomatch h
  | _ :: _, [], h, _ => nomatch h
  | p :: R, q :: R', h, k => by
    obtain ⟨h1, h2⟩ := List.cons.inj (show p.1 :: R.map (·.1) = q.1 :: R'.map (·.1) from h)
    obtain ⟨k1, k2⟩ := List.cons.inj (show p.2 :: R.map (·.2) = q.2 :: R'.map (·.2) from k)
    rw [rows_eq h2 k2]
    congr 1
    exact Prod.ext h1 k1
theorem kd_name (R : Rows) : kd (nameD R) = true := by
  show (kdL ((hands R).map Dt.str) && (kdL (R.map fun p => rT p.2) && true)) = true
  rw [kdL_map (fun _ => rfl), kdL_map fun p : Str × Row => kd_row p.2]; rfl
theorem name_inj (R R' : Rows) (h : nk (nameD R) = nk (nameD R')) : R = R' := by
  have h := nk_inj _ _ (kd_name R) (kd_name R') h
  have h := Dt.tup.inj h
  obtain ⟨h1, h⟩ := List.cons.inj h
  obtain ⟨h2, _⟩ := List.cons.inj h
  refine rows_eq (strs_inj (Dt.tup.inj h1)) ?_
  have h2 := Dt.tup.inj h2
  have e : ∀ R : Rows, (R.map fun p => rT p.2) = (R.map (·.2)).map rT := fun R => by rw [List.map_map]; rfl
  rw [e, e] at h2
  exact map_inj' (fun _ _ => rT_inj) h2
theorem kOk_row (r : Row) (n : Nat) (hn : 2 ≤ n) : kOk (rT r) n = true := by
  show (decide (n ≠ 0) && kOkL (r.map dD) (n - 1)) = true
  rw [decide_eq_true (by omega), kOkL_map (n := n - 1) fun d _ => ?_]
  · rfl
  · show (decide (n - 1 ≠ 0) && true) = true
    rw [decide_eq_true (by omega)]; rfl
theorem kOk_name (R : Rows) : kOk (nameD R) 8 = true := by
  show (true && (kOk (.tup ((hands R).map .str)) 7 && (kOk (.tup (R.map fun p => rT p.2)) 7 && true))) = true
  have h1 : kOk (.tup ((hands R).map .str)) 7 = true := by
    show (true && kOkL ((hands R).map .str) 6) = true
    rw [kOkL_map (n := 6) fun d _ => rfl]; rfl
  have h2 : kOk (.tup (R.map fun p => rT p.2)) 7 = true := by
    show (true && kOkL (R.map fun p => rT p.2) 6) = true
    rw [kOkL_map (n := 6) fun p _ => kOk_row p.2 6 (by decide)]; rfl
  rw [h1, h2]; rfl
section
variable {P : Program} {w : World} {K : PySem.W.Frag} {mg : Str → Option Value} {base : Heap}
def p_wantP (K : PySem.W.Frag) : List Dt → Dt → Prop := fun as r => ∃ B : List Rows, as = [.lst (B.map (picD K))] ∧ B ≠ [] ∧ B.Nodup ∧ B.length ≤ 1000 ∧ r = .non
def knownO (l : List Rows) : Sl := nO nameD Dt.bl (l.map fun R => (R, true))
theorem ok_wantP (T : Txt K mg) : OkD P w K mg base d_want_pictures 3 ["pictures"] (spD P w (p_wantP K)) := by
  have nd : (["pictures", "known", "position", "one"] : List Str).Nodup := by decide +kernel
  refine okD_pure (N := ["pictures", "known", "position", "one"]) T.n_want_pictures ⟨rfl, rfl, rfl, by decide +kernel, rfl, by decide +kernel, by decide +kernel⟩ (fun _ _ _ _ _ _ us hl => match us, hl with | [_], _ => rfl) ?_
  rintro as r ⟨B, rfl, hne, hn, hl, rfl⟩
  refine ⟨rfl, fun cdv A outer sh H E hr => ?_⟩
  have hu : (PX P w K mg base ["pictures", "known", "position", "one"] d_want_pictures cdv A outer sh H E).A.units + 64 < cLine := hr.units
  obtain ⟨e1, e2, e3, e4, e5, e6, e7, e8, e9, e10⟩ := T.exs
  obtain ⟨t1, t2, t3, t4⟩ := typ_of e7
  have kys : ∀ l : List Rows, kOkL ((l.map fun R => (R, true)).map fun p => nameD p.1) 8 = true := fun l => kOkL_map fun p _ => kOk_name p.1
  refine .cons (.ifs (k := false) (.bool (.or (x := false) (.not (k := true) (.val (.call (ok_is_list T) T.g_is_list (hr.mono (by decide)) (.cons (.var 0 rfl) .nil) ⟨_, rfl, .inl rfl, rfl⟩))) fun _ => .or1 (.cast (.cmp (.eqI (.lenL (.var 0 rfl) T.f_len) .int)) ?_))) (fun h => nomatch h) fun _ => .nil ?_)
  · refine decide_eq_false fun z => hne (List.eq_nil_of_length_eq_zero ?_)
    have z : (((B.map (picD K)).length : Nat) : Int) = 0 := z
    rw [List.length_map] at z
    omega
  refine .cons (.asg 1 nd (s := knownO []) .newN ?_)
  refine .cons (.loopT (enc := fun p : Rows × Nat => .tup [.int (p.2 : Nat), picD K p.1]) (ys := B.zipIdx) (fun i ds1 => ∃ a b, ds1 = [.d (.lst (B.map (picD K))), knownO (B.take i), a, b]) rfl (.cast' (.enum (.var 0 rfl) T.f_enumerate) enumD_map) ⟨_, _, rfl⟩ ?_ ?_)
  · rintro i p ds1 hp ⟨a, b, rfl⟩
    obtain ⟨hp1, hp2⟩ := zipIdx_get hp
    have hi := (List.getElem?_eq_some_iff.mp hp1).1
    have hnew : p.1 ∉ B.take i := fun hm => by
      obtain ⟨j, hj, e⟩ := List.getElem_of_mem hm
      rw [List.length_take] at hj
      rw [List.getElem_take] at e
      obtain ⟨_, e'⟩ := List.getElem?_eq_some_iff.mp hp1
      have := (List.getElem_inj hn).mp (e.trans e'.symm)
      omega
    have hks : ((B.take i).map fun R => (R, true)).map (·.1) = B.take i := by rw [List.map_map]; exact List.map_id _
    refine ⟨_, _, .tup rfl (.cons (.name 2 nd) (.cons (.name 3 nd) .nil)), ?_⟩
    refine .cons (.ifs (k := false) (.view 1 rfl (.bool (.or (x := false) (.not (k := true) (.val (.isiSelf (.var 3 rfl) (He.cls_ok T.cls_Picture) t1 t2 t3 t4 T.f_isinstance T.g_Picture))) fun _ => .or1 (.cast (.cmp (.inN (ts := [.tup ((hands p.1).map .str), .tup (p.1.map fun z : Str × Row => rT z.2)]) (ks := ((B.take i).map fun R => (R, true)).map fun p => nameD p.1) (vs := ((B.take i).map fun R => (R, true)).map fun p => .bl p.2) hu (.call (ok_name T) T.g_name_of hr (.cons (.var 3 rfl) .nil) ⟨p.1, rfl, rfl⟩) (.var 1 rfl) (kys _) (kOk_name p.1))) ?_)))) (fun h => nomatch h) fun _ => .nil ?_)
    · have h3 := nD_has name_inj (l := (B.take i).map fun R => (R, true)) (q := p.1)
      refine Eq.trans h3 (Bool.eq_false_iff.mpr fun z => hnew ?_)
      rw [← hks]; exact alHas_iff.mp z
    · refine .cons (.putN (d := .bl true) (ts := [.tup ((hands p.1).map .str), .tup (p.1.map fun z : Str × Row => rT z.2)]) 1 hu rfl .bl (.call (ok_name T) T.g_name_of hr (.cons (.var 3 rfl) .nil) ⟨p.1, rfl, rfl⟩) (kys _) (kOk_name p.1) ?_ ?_)
      · rw [List.length_map, List.length_map, List.length_take]; omega
      · refine .nil ⟨.d (.int (p.2 : Nat)), .d (picD K p.1), ?_⟩
        have h6 := nO_put name_inj (e := Dt.bl) (l := (B.take i).map fun R => (R, true)) (q := p.1) (c := true)
        rw [alPut_new (by rw [hks]; exact hnew)] at h6
        have h7 : B.take (i + 1) = B.take i ++ [p.1] := by rw [List.take_add_one, hp1]; rfl
        unfold knownO
        rw [h7, List.map_append]
        show _ = [_, nO nameD Dt.bl ((B.take i).map (fun R => (R, true)) ++ [(p.1, true)]), _, _]
        rw [← h6]; rfl
  · rintro ds' ⟨a, b, rfl⟩
    exact .nil rfl
end
end K66
set_option maxHeartbeats 4000000
namespace K66
variable [TabAt]
open PySem PySem.Spec PyProof.Rows L2
/-- a book that stands: pictures of these hands, all apart, with few letters -/
structure Bk' (hs : List Str) (B : List Rows) : Prop where
  ne : B ≠ []
  nd : B.Nodup
  few : B.length ≤ 8
  pic : ∀ R ∈ B, Pic R
  hnd : ∀ R ∈ B, hands R = hs
  let_ : ∀ R ∈ B, (lettersD R).length ≤ 8
theorem Bk'.head {hs : List Str} {B : List Rows} (h : Bk' hs B) : ∃ R, B[0]? = some R ∧ Pic R ∧ hands R = hs := by
  cases B with
  | nil => exact absurd rfl h.ne
  | cons R B => exact ⟨R, rfl, h.pic R (by simp), h.hnd R (by simp)⟩
theorem Bk'.nm {hs : List Str} {B : List Rows} (h : Bk' hs B) : ∀ x ∈ hs, isNm x = true := by
  obtain ⟨R, _, hP, rfl⟩ := h.head
  intro x hx
  obtain ⟨p, hp, rfl⟩ := List.mem_map.mp hx
  exact (hP.row hp).1
section
variable {P : Program} {w : World} {K : PySem.W.Frag} {mg : Str → Option Value} {base : Heap}
def p_Binit (K : PySem.W.Frag) : List Dt → Dt → Prop := fun as r => ∃ (hs : List Str) (B : List Rows), as = [.lst (B.map (picD K))] ∧ Bk' hs B ∧ r = .tup (B.map (picD K))
theorem ok_Binit (T : Txt K mg) : OkD P w K mg base d_Book_init 7 ["self", "pictures"] (spI P w (He.ga K "Book") "own_pictures" (p_Binit K)) := by
  have nd : (["self", "pictures", "one"] : List Str).Nodup := by decide +kernel
  refine okI_of (N := ["self", "pictures", "one"]) T.n_Book_init ⟨rfl, rfl, rfl, by decide +kernel, rfl, by decide +kernel, by decide +kernel⟩ (fun _ _ _ _ _ _ us hl => match us, hl with | [_, _], _ => rfl) ?_
  rintro as r ⟨hs, B, rfl, hB, rfl⟩
  refine ⟨rfl, fun x cdv A outer sh H E hr => ?_⟩
  obtain ⟨e1, e2, e3, e4, e5, e6, e7, e8, e9, e10⟩ := T.exs
  obtain ⟨R0, h0, hP0, hh0⟩ := hB.head
  have hfew := hB.few
  refine .cons (.expr (.call (z := .non) (ok_wantP T) T.g_want_pictures (hr.mono (by decide)) (.cons (.var 1 rfl) .nil) ⟨B, rfl, hB.ne, hB.nd, by omega, rfl⟩) ?_)
  refine .cons (.loopT (enc := picD K) (ys := B) (fun i ds1 => ∃ a, ds1 = [.nw (He.ga K "Book") x, .d (.lst (B.map (picD K))), a]) rfl (.lst (.var 1 rfl)) ⟨_, rfl⟩ ?_ ?_)
  · rintro i R ds1 hR ⟨a, rfl⟩
    have hR := List.mem_of_getElem? hR
    refine ⟨[2], _, .name 2 nd, .cons (.expr (.call (z := .non) (ok_want_same T) T.g_want_same_hands (hr.mono (by decide)) (.cons (.meth0 (f := "own_rows") (d := sD rT R0) (z := .lst (hs.map .str)) (ok_Phands T) (.ixL (n := 0) (xs := B.map (picD K)) (.var 1 rfl) .int (by rw [List.getElem?_map, h0]; rfl)) (He.cls_ok T.cls_Picture) (He.meth_ok T.meth_Picture_hands) (hr.mono (by decide)) ⟨R0, rfl, by rw [hh0]⟩)
      (.cons (.meth0 (f := "own_rows") (d := sD rT R) (z := .lst (hs.map .str)) (ok_Phands T) (.var 2 rfl) (He.cls_ok T.cls_Picture) (He.meth_ok T.meth_Picture_hands) (hr.mono (by decide)) ⟨R, rfl, by rw [hB.hnd R hR]⟩) .nil)) ⟨hs, rfl, hB.nm, rfl⟩) (.nil ⟨_, rfl⟩))⟩
  rintro ds' ⟨a, rfl⟩
  refine .cons (.ifs (k := false) (.cmp (.cast (.gt (.lenL (.var 1 rfl) T.f_len) (.cval T.g_Book e2 e5)) ?_)) (fun h => nomatch h) fun _ => .nil ?_)
  · rw [List.length_map]; exact decide_eq_false (by omega)
  refine .cons (.ifs (k := false) (.val (.cast (.anym (ys := B) (f := fun R => decide ((8 : Int) < ((lettersD R).length : Nat))) rfl (.lcm (enc := picD K) (own := [("one", 2)]) rfl nd (.lst (.var 1 rfl)) (blk_of rfl) (by omega) fun R hR => ⟨_, [2], by simp, fun s H C cl fp => .name 2 nd, fun s H C cl fp => .cmp (.gt (.lenOwn (f := "own_rows") (d := sD rT R) (n := (lettersD R).length) (ok_Plen T) (.var 2 rfl) (He.meth_ok T.meth_Picture_len) (hr.mono (by decide)) ⟨R, rfl, hB.pic R hR, rfl⟩ (by have := hB.let_ R hR; omega) T.f_len) (.cval T.g_Book e2 e6))⟩) T.f_any) ?_)) (fun h => nomatch h) fun _ => .nil ?_)
  · congr 1
    rw [List.any_eq_false]
    intro R hR
    have := hB.let_ R hR
    rw [decide_eq_true_eq]
    omega
  exact .cons (.setFld 0 rfl (.tupL (xs := B.map (picD K)) (.var 1 rfl) T.f_tuple) (He.cls_ok T.cls_Book) (He.noat_ok T.noat_Book_own_pictures) (.nil rfl))
def p_Bhands (K : PySem.W.Frag) : List Dt → Dt → Prop := fun as r => ∃ (hs : List Str) (B : List Rows), as = [bookD K B] ∧ Bk' hs B ∧ r = .lst (hs.map .str)
theorem ok_Bhands (T : Txt K mg) : OkD P w K mg base d_Book_hands 2 ["self"] (spD P w (p_Bhands K)) := by
  refine okD_pure (N := ["self"]) T.n_Book_hands ⟨rfl, rfl, rfl, by decide +kernel, rfl, by decide +kernel, by decide +kernel⟩ (fun _ _ _ _ _ _ us hl => match us, hl with | [_], _ => rfl) ?_
  rintro as r ⟨hs, B, rfl, hB, rfl⟩
  refine ⟨rfl, fun cdv A outer sh H E hr => ?_⟩
  obtain ⟨R0, h0, hP0, hh0⟩ := hB.head
  exact .cons (.ret (.meth0 (f := "own_rows") (d := sD rT R0) (z := .lst (hs.map .str)) (ok_Phands T) (.ixT (n := 0) (xs := B.map (picD K)) (.fld (.var 0 rfl) (He.cls_ok T.cls_Book) (He.noat_ok T.noat_Book_own_pictures)) .int (by rw [List.getElem?_map, h0]; rfl)) (He.cls_ok T.cls_Picture) (He.meth_ok T.meth_Picture_hands) hr ⟨R0, rfl, by rw [hh0]⟩) rfl)
def p_Bpics (K : PySem.W.Frag) : List Dt → Dt → Prop := fun as r => ∃ B : List Rows, as = [bookD K B] ∧ r = .lst (B.map (picD K))
theorem ok_Bpics (T : Txt K mg) : OkD P w K mg base d_Book_pictures 1 ["self"] (spD P w (p_Bpics K)) := by
  refine okD_pure (N := ["self"]) T.n_Book_pictures ⟨rfl, rfl, rfl, by decide +kernel, rfl, by decide +kernel, by decide +kernel⟩ (fun _ _ _ _ _ _ us hl => match us, hl with | [_], _ => rfl) ?_
  rintro as r ⟨B, rfl, rfl⟩
  exact ⟨rfl, fun cdv A outer sh H E hr => .cons (.ret (.listT (xs := B.map (picD K)) (.fld (.var 0 rfl) (He.cls_ok T.cls_Book) (He.noat_ok T.noat_Book_own_pictures)) T.f_list) rfl)⟩
def p_Blen (K : PySem.W.Frag) : List Dt → Dt → Prop := fun as r => ∃ B : List Rows, as = [bookD K B] ∧ r = .int (B.length : Nat)
theorem ok_Blen (T : Txt K mg) : OkD P w K mg base d_Book_len 1 ["self"] (spD P w (p_Blen K)) := by
  refine okD_pure (N := ["self"]) T.n_Book_len ⟨rfl, rfl, rfl, by decide +kernel, rfl, by decide +kernel, by decide +kernel⟩ (fun _ _ _ _ _ _ us hl => match us, hl with | [_], _ => rfl) ?_
  rintro as r ⟨B, rfl, rfl⟩
  refine ⟨rfl, fun cdv A outer sh H E hr => .cons (.ret (.cast (.lenT (xs := B.map (picD K)) (.fld (.var 0 rfl) (He.cls_ok T.cls_Book) (He.noat_ok T.noat_Book_own_pictures)) T.f_len) ?_) rfl)⟩
  rw [List.length_map]
def p_isnum (K : PySem.W.Frag) : List Dt → Dt → Prop := fun as r => ∃ (B : List Rows) (n : Nat), as = [bookD K B, .int (n : Nat)] ∧ n < B.length ∧ r = .bl true
theorem ok_isnum (T : Txt K mg) : OkD P w K mg base d_is_number 2 ["book", "value"] (spD P w (p_isnum K)) := by
  refine okD_pure (N := ["book", "value"]) T.n_is_number ⟨rfl, rfl, rfl, by decide +kernel, rfl, by decide +kernel, by decide +kernel⟩ (fun _ _ _ _ _ _ us hl => match us, hl with | [_, _], _ => rfl) ?_
  rintro as r ⟨B, n, rfl, hn, rfl⟩
  refine ⟨rfl, fun cdv A outer sh H E hr => ?_⟩
  refine .cons (.ret (.and (x := true) (y := true) (.call (ok_is_integer T) T.g_is_integer hr (.cons (.var 1 rfl) .nil) ⟨_, rfl, rfl⟩) fun _ => .one (.cast (.ch op_le op_lt .int (.var 1 rfl) (.lenT (xs := B.map (picD K)) (.fld (.var 0 rfl) (He.cls_ok T.cls_Book) (He.noat_ok T.noat_Book_own_pictures)) T.f_len)) ?_)) rfl)
  congr 1
  rw [List.length_map, Bool.and_eq_true, decide_eq_true_eq, decide_eq_true_eq]
  omega
def p_wantn (K : PySem.W.Frag) : List Dt → Dt → Prop := fun as r => ∃ (B : List Rows) (n : Nat), as = [bookD K B, .int (n : Nat)] ∧ n < B.length ∧ r = .non
theorem ok_wantn (T : Txt K mg) : OkD P w K mg base d_want_number 3 ["book", "value"] (spD P w (p_wantn K)) := by
  refine okD_pure (N := ["book", "value"]) T.n_want_number ⟨rfl, rfl, rfl, by decide +kernel, rfl, by decide +kernel, by decide +kernel⟩ (fun _ _ _ _ _ _ us hl => match us, hl with | [_, _], _ => rfl) ?_
  rintro as r ⟨B, n, rfl, hn, rfl⟩
  exact ⟨rfl, fun cdv A outer sh H E hr => .cons (.ifs (k := false) (.not (k := true) (.val (.call (ok_isnum T) T.g_is_number hr (.cons (.var 0 rfl) (.cons (.var 1 rfl) .nil)) ⟨B, n, rfl, hn, rfl⟩))) (fun h => nomatch h) fun _ => .nil (.nil rfl))⟩
def p_Bget (K : PySem.W.Frag) : List Dt → Dt → Prop := fun as r => ∃ (B : List Rows) (n : Nat) (R : Rows), as = [bookD K B, .int (n : Nat)] ∧ B[n]? = some R ∧ r = picD K R
theorem ok_Bget (T : Txt K mg) : OkD P w K mg base d_Book_getitem 4 ["self", "number"] (spD P w (p_Bget K)) := by
  refine okD_pure (N := ["self", "number"]) T.n_Book_getitem ⟨rfl, rfl, rfl, by decide +kernel, rfl, by decide +kernel, by decide +kernel⟩ (fun _ _ _ _ _ _ us hl => match us, hl with | [_, _], _ => rfl) ?_
  rintro as r ⟨B, n, R, rfl, hn, rfl⟩
  refine ⟨rfl, fun cdv A outer sh H E hr => ?_⟩
  refine .cons (.expr (.call (z := .non) (ok_wantn T) T.g_want_number hr (.cons (.var 0 rfl) (.cons (.var 1 rfl) .nil)) ⟨B, n, rfl, (List.getElem?_eq_some_iff.mp hn).1, rfl⟩) ?_)
  exact .cons (.ret (.ixT (n := n) (xs := B.map (picD K)) (.fld (.var 0 rfl) (He.cls_ok T.cls_Book) (He.noat_ok T.noat_Book_own_pictures)) (.var 1 rfl) (by rw [List.getElem?_map, hn]; rfl)) rfl)
end
end K66
set_option maxHeartbeats 4000000
namespace K66
variable [TabAt]
open PySem PySem.Spec PyProof.Rows L2
section
variable {P : Program} {w : World}
/-- v is of no class statement, n levels down -/
def NoCls (P : Program) (w : World) (n : Nat) (s : Shared) (v : Value) : Prop := ∀ (A : Around) (E : Value → Shared → Prop) (Q : Bool → Shared → Prop), Q false s → wpAny (model P w) A (ofAClassStatement n v) Q E s
/-- whether v's hash is by value is answered, n levels down -/
def HbVal (P : Program) (w : World) (n : Nat) (s : Shared) (v : Value) : Prop := ∀ (A : Around) (E : Value → Shared → Prop) (Q : Bool → Shared → Prop), (∀ b, Q b s) → wpAny (model P w) A (hashByValue n v) Q E s
theorem NoCls.flat {n : Nat} {s : Shared} {v : Value} (h : ofAClassStatement n v = pure false) : NoCls P w n s v := fun A E Q q => by
  rw [h]
  exact wpAny_pure q
theorem HbVal.flat {n : Nat} {s : Shared} {v : Value} {b : Bool} (h : hashByValue n v = pure b) : HbVal P w n s v := fun A E Q q => by
  rw [h]
  exact wpAny_pure (q b)
theorem NoCls.tup {n : Nat} {s : Shared} {a : Addr} {o : Obj} {vs : Array Value} {m : Nat} (ho : s.heap.get? a = some o) (hc : o.cls = .type "tuple") (hd : o.data = .seq vs m) (hq : ∀ v ∈ vs.toList, NoCls P w n s v) : NoCls P w (n + 1) s (.ref a) := fun A E Q q => by
  unfold ofAClassStatement
  refine wpAny_bind (wpAny_typeOf ⟨o, ho, hc⟩ ?_)
  dsimp only
  have e : (("tuple" : String) == "tuple") = true := by decide
  simp only [e, if_true, Bool.not_true, Bool.false_eq_true, if_false]
  try refine wpAny_bind (wpAny_pure ?_)
  try simp only [Bool.not_true, Bool.false_eq_true, if_false]
  show wpAny _ _ (seqItems? (.ref a) >>= _) _ _ s
  refine wpAny_bind (wpAny_seqItems ho hd ?_)
  dsimp only
  refine wpAny_bind ?_
  show wpAny _ _ (forIn vs _ _) _ _ s
  rw [← Array.forIn_toList]
  refine wpAny_forIn_list _ (fun rest r z => r.1 = none ∧ z = s ∧ ∀ v ∈ rest, NoCls P w n s v) _ ?_ ?_ _ _ ⟨rfl, rfl, hq⟩
  · rintro v rest r z ⟨hr, rfl, all⟩
    refine wpAny_bind (all v List.mem_cons_self _ _ _ ?_)
    simp only [Bool.false_eq_true, if_false]
    exact wpAny_pure ⟨rfl, rfl, fun u m => all u (List.mem_cons_of_mem _ m)⟩
  · rintro ⟨r1, r2⟩ z ⟨hr, rfl, _⟩
    simp only at hr
    subst hr
    exact wpAny_pure q
theorem HbVal.tup {n : Nat} {s : Shared} {a : Addr} {o : Obj} {vs : Array Value} {m : Nat} (ho : s.heap.get? a = some o) (hc : o.cls = .type "tuple") (hd : o.data = .seq vs m) (hq : ∀ v ∈ vs.toList, HbVal P w n s v) : HbVal P w (n + 1) s (.ref a) := fun A E Q q => by
  unfold hashByValue
  refine wpAny_bind (wpAny_specialOf ⟨o, ho, hc⟩ F.slot_tuple_hash.lookup ?_)
  show wpAny _ _ (seqItems? (.ref a) >>= _) _ _ s
  refine wpAny_bind (wpAny_seqItems ho hd ?_)
  refine wpAny_bind ?_
  show wpAny _ _ (forIn vs _ _) _ _ s
  rw [← Array.forIn_toList]
  refine wpAny_forIn_list _ (fun rest r z => r.1 = none ∧ z = s ∧ ∀ v ∈ rest, HbVal P w n s v) _ ?_ ?_ _ _ ⟨rfl, rfl, hq⟩
  · rintro v rest r z ⟨hr, rfl, all⟩
    refine wpAny_bind (all v List.mem_cons_self _ _ _ fun b => ?_)
    cases b
    · simp only [Bool.not_false, if_true]
      exact wpAny_pure (wpAny_pure (q false))
    · simp only [Bool.not_true, Bool.false_eq_true, if_false]
      exact wpAny_pure ⟨rfl, rfl, fun u m => all u (List.mem_cons_of_mem _ m)⟩
  · rintro ⟨r1, r2⟩ z ⟨hr, rfl, _⟩
    simp only at hr
    subst hr
    exact wpAny_pure (q true)
mutual
theorem nocls_key : ∀ (k : NestedKey) (v : Value) (n : Nat) (s : Shared), NestedIs s.heap k v → k.depth ≤ n → NoCls P w n s v
  | .none, _, n, s, x, _ => by cases x; exact .flat (by cases n <;> rfl)
  | .num i, _, n, s, x, _ => by cases x <;> exact .flat (by cases n <;> rfl)
  | .text y, _, n, s, x, _ => by cases x; exact .flat (by cases n <;> rfl)
  | .tup ks, _, n, s, x, hn => by
    cases x with
    | tup hg hc hd hk =>
      simp only [NestedKey.depth] at hn
      cases n with
      | zero => omega
      | succ n => exact .tup hg hc hd (nocls_keys ks _ n s hk (by omega))
theorem nocls_keys : ∀ (ks : List NestedKey) (vs : List Value) (n : Nat) (s : Shared), NestedAll s.heap ks vs → NestedKey.depthAll ks ≤ n → ∀ v ∈ vs, NoCls P w n s v
  | [], _, n, s, x, _, v, hv => by cases x; cases hv
  | k :: ks, _, n, s, x, hn, v, hv => by
    cases x with
    | cons x1 x2 =>
      simp only [NestedKey.depthAll] at hn
      rcases List.mem_cons.mp hv with e | hv
      · rw [e]; exact nocls_key k _ n s x1 (by omega)
      · exact nocls_keys ks _ n s x2 (by omega) v hv
end
mutual
theorem hbval_key : ∀ (k : NestedKey) (v : Value) (n : Nat) (s : Shared), NestedIs s.heap k v → k.depth ≤ n → HbVal P w n s v
  | .none, _, n, s, x, _ => by cases x; exact .flat (b := true) (by cases n <;> rfl)
  | .num i, _, n, s, x, _ => by cases x <;> exact .flat (b := true) (by cases n <;> rfl)
  | .text y, _, n, s, x, _ => by cases x; exact .flat (b := false) (by cases n <;> rfl)
  | .tup ks, _, n, s, x, hn => by
    cases x with
    | tup hg hc hd hk =>
      simp only [NestedKey.depth] at hn
      cases n with
      | zero => omega
      | succ n => exact .tup hg hc hd (hbval_keys ks _ n s hk (by omega))
theorem hbval_keys : ∀ (ks : List NestedKey) (vs : List Value) (n : Nat) (s : Shared), NestedAll s.heap ks vs → NestedKey.depthAll ks ≤ n → ∀ v ∈ vs, HbVal P w n s v
  | [], _, n, s, x, _, v, hv => by cases x; cases hv
  | k :: ks, _, n, s, x, hn, v, hv => by
    cases x with
    | cons x1 x2 =>
      simp only [NestedKey.depthAll] at hn
      rcases List.mem_cons.mp hv with e | hv
      · rw [e]; exact hbval_key k _ n s x1 (by omega)
      · exact hbval_keys ks _ n s x2 (by omega) v hv
end
/-- a key and where it stands -/
abbrev KA := Addr × NestedKey
/-- at b stands the key k -/
abbrev KIs (P : Program) (w : World) (h : Heap) (k : NestedKey) (b : Addr) : Prop := (nestedKind P w).is h k b
def rowsK (w : World) (L : List KA) : List (Int × Value) := L.map fun p => (p.2.hash w, Value.ref p.1)
def hshK (w : World) (L : List KA) : List Int := L.map fun p => p.2.hash w
structure SetK (P : Program) (w : World) (h : Heap) (a : Addr) (L : List KA) (es : Array (Int × Value)) (ep : Nat) (t : SetTable) : Prop where
  ob : ∃ o, h.get? a = some o ∧ o.ExactSet ∧ o.data = .set es ep t
  rows : es.toList = rowsK w L
  tab : TabOk t (hshK w L)
  nd : (L.map (·.2)).Nodup
  key : ∀ p ∈ L, KIs P w h p.2 p.1
  led : w.params.followText "set-order" = true ∨ t.led = true
  m7 : t.mask = 7
  few : L.length ≤ 4
variable {A : Around} {E : Value → Shared → Prop} {s : Shared} {a : Addr} {L : List KA} {es : Array (Int × Value)} {ep : Nat} {t : SetTable}
theorem SetK.size {h : Heap} (R : SetK P w h a L es ep t) : es.size = L.length := by
  have e := congrArg List.length R.rows
  unfold rowsK at e
  rw [Array.length_toList, List.length_map] at e
  exact e
theorem SetK.psz {h : Heap} (R : SetK P w h a L es ep t) : t.place.size = L.length := by
  have e := R.tab.sz
  unfold hshK at e
  rw [List.length_map] at e
  exact e
theorem SetK.fits {h : Heap} (R : SetK P w h a L es ep t) : t.fits es.size = true := by
  have h2 := R.size
  have h1 := R.psz
  have h3 := R.few
  have h4 := R.m7
  unfold SetTable.fits SetTable.fill
  rw [R.tab.dm, Bool.and_eq_true, beq_iff_eq, decide_eq_true_eq]
  show t.place.size = es.size ∧ t.place.size + 0 ≤ t.mask
  omega
theorem SetK.entry {h : Heap} (R : SetK P w h a L es ep t) {i : Nat} {p : KA} (e : L[i]? = some p) : es[i]? = some (p.2.hash w, Value.ref p.1) := by
  rw [← Array.getElem?_toList, R.rows]
  unfold rowsK
  rw [List.getElem?_map, e] <;> rfl
theorem SetK.gw {h : Heap} (R : SetK P w h a L es ep t) : ¬ t.gaveWay = true := by
  unfold SetTable.gaveWay
  rw [mask_odd R.tab.mok]
  decide
/-- a search among keys shows nothing -/
theorem seen_key {k : NestedKey} {b : Addr} {Q : Bool → Shared → Prop} (hk : KIs P w s.heap k b) {ys : List Value} (hy : ∀ y ∈ ys, ∃ q c, y = Value.ref c ∧ KIs P w s.heap q c) (h : Q false s) :
    wpAny (model P w) A (searchCouldBeSeen (.ref b) ys) Q E s := by
  unfold searchCouldBeSeen
  refine wpAny_bind ?_
  refine wpAny_forIn_list _ (fun rest r z => r.1 = none ∧ z = s ∧ ∀ y ∈ rest, ∃ q c, y = Value.ref c ∧ KIs P w s.heap q c) _ ?_ ?_ _ _ ⟨rfl, rfl, hy⟩
  · rintro v rest r z ⟨hr, rfl, all⟩
    obtain ⟨q, c, rfl, hc⟩ := all v List.mem_cons_self
    have more : ∀ y ∈ rest, ∃ q c, y = Value.ref c ∧ KIs P w z.heap q c := fun u m => all u (List.mem_cons_of_mem _ m)
    dsimp only
    by_cases hv : (b == c || (carriedByValue (.ref b) && carriedByValue (.ref c))) = true
    · refine wp_if_pos hv ?_
      exact wpAny_pure ⟨rfl, rfl, more⟩
    · refine wp_if_neg hv ?_
      refine wpAny_bind ((nestedKind P w).quiet hk ?_)
      simp only [Bool.not_true, Bool.false_eq_true, if_false]
      refine wpAny_bind ((nestedKind P w).quiet hc ?_)
      simp only [Bool.not_true, Bool.false_eq_true, if_false]
      refine wpAny_bind (nocls_key _ _ 8 _ hk.1 hk.2 _ _ _ ?_)
      simp only [Bool.false_eq_true, if_false]
      refine wpAny_bind (nocls_key _ _ 8 _ hc.1 hc.2 _ _ _ ?_)
      simp only [Bool.false_eq_true, if_false]
      exact wpAny_pure ⟨rfl, rfl, more⟩
  · rintro ⟨r1, r2⟩ z ⟨hr, rfl, _⟩
    simp only at hr
    subst hr
    exact wpAny_pure h
end
end K66
set_option maxHeartbeats 4000000
namespace K66
variable [TabAt]
open PySem PySem.Spec PyProof.Rows L2
section
variable {P : Program} {w : World} {A : Around} {E : Value → Shared → Prop} {s : Shared} {a : Addr} {L : List KA} {es : Array (Int × Value)} {ep : Nat} {t : SetTable}
/-- the place of the probe after c steps -/
abbrev prb (t : SetTable) (z : Int) (c : Nat) : SetTable.Probe := nth t.mask (runAt t.mask (SetTable.bits z % (t.mask + 1)) (SetTable.bits z)) c
theorem prb_add (t : SetTable) (z : Int) (c q : Nat) : nth t.mask (prb t z c) q = prb t z (c + q) := (nth_add t.mask c _ q).symm
theorem prb_dummy (t : SetTable) (z : Int) (c : Nat) : (prb t z c).dummy = none := by
  have all : ∀ (n : Nat) (p : SetTable.Probe), p.dummy = none → (nth t.mask p n).dummy = none := by
    intro n
    induction n with
    | zero => exact fun p e => e
    | succ n ih =>
      refine fun p e => ih (adv t.mask p) ?_
      unfold adv
      split <;> exact e
  exact all c _ rfl
/-- the search, from the c-th step of the way on -/
theorem srch_from (R : SetK P w s.heap a L es ep t) {x : Addr} {k : NestedKey} (hx : KIs P w s.heap k x) (hu : A.units + 8 < cLine) {K : Nat} (hKf : K < 10 * SetTable.turns t.mask)
    (hK : way t.mask (k.hash w) K ∉ t.place.toList) (hKb : ∀ c, c < K → way t.mask (k.hash w) c ∈ t.place.toList) {Q : SetFound → Shared → Prop}
    (yes : k ∈ L.map (·.2) → Q (.there none) s) (no : k ∉ L.map (·.2) → Q (.free (way t.mask (k.hash w) K) false) s) :
    ∀ (f c : Nat) (st : Option SetTable.Probe), st.getD (t.probeStart (k.hash w)) = prb t (k.hash w) c → c ≤ K → K - c < f →
      (∀ (i : Nat) p, L[i]? = some p → p.2 = k → ∃ d, c ≤ d ∧ d < K ∧ t.place.toList[i]? = some (way t.mask (k.hash w) d)) →
      wpAny (model P w) A (setSearchFrom a (.ref x) (k.hash w) true f st) Q E s
  | 0, c, st, _, _, hf, _ => absurd hf (Nat.not_lt_zero _)
  | f + 1, c, st, hst, hc, hf, hre => by
    obtain ⟨o, ho, hex, hd⟩ := R.ob
    rw [setSearchFrom_succ]
    refine wpAny_bind (wpAny_setState_of ho hd R.fits ?_)
    dsimp only
    refine wp_if_neg R.gw ?_
    try refine wpAny_bind (wpAny_pure ?_)
    have dn := prb_dummy t (k.hash w) c
    have e1 : ∀ q, (nth t.mask (prb t (k.hash w) c) q).j = way t.mask (k.hash w) (c + q) := fun q => congrArg SetTable.Probe.j (prb_add t (k.hash w) c q)
    have spec := go_spec t R.tab.ris R.tab.dm (fun i => (es[i]?.map (·.1)).getD 0) (k.hash w) (10 * SetTable.turns t.mask) (K - c) _ dn (by omega)
      (fun q hq => by rw [e1]; exact hKb (c + q) (by omega)) (by rw [e1, show c + (K - c) = K by omega]; exact hK)
    have hat : ∀ (i : Nat) p, L[i]? = some p → (fun i => (es[i]?.map (·.1)).getD 0) i = p.2.hash w := fun i p hp => by
      show (es[i]?.map (·.1)).getD 0 = _
      rw [R.entry hp] <;> rfl
    rcases spec with ⟨q, i, hq, hi, hh, hno, hpr⟩ | ⟨hno, hpr⟩
    · have hpr2 : t.probe (fun i => (es[i]?.map (·.1)).getD 0) (k.hash w) (st.getD (t.probeStart (k.hash w))) = some (.candidate (way t.mask (k.hash w) (c + q)) i (prb t (k.hash w) (c + (q + 1)))) := by
        rw [hst, ← e1, ← prb_add]
        exact hpr
      rw [hpr2]
      dsimp only
      rw [e1] at hi
      have hil : i < L.length := by
        have h1 : i < t.place.toList.length := (List.getElem?_eq_some_iff.mp hi).1
        rw [Array.length_toList, R.psz] at h1
        exact h1
      have hp : L[i]? = some L[i] := List.getElem?_eq_getElem hil
      generalize hpe : L[i] = p at hp
      have hmem : p ∈ L := List.mem_of_getElem? hp
      have hpt := R.key p hmem
      have go : wpAny (model P w) A (searchRest a (.ref x) (k.hash w) true f es t (way t.mask (k.hash w) (c + q)) i (prb t (k.hash w) (c + (q + 1)))) Q E s := by
        unfold searchRest
        rw [R.entry hp]
        dsimp only
        refine wpAny_bind (wpAny_holding ((nestedKind P w).eqBool (show A.units + 8 < cLine from hu) hpt hx ?_))
        refine wpAny_bind (wpAny_setState_of ho hd R.fits ?_)
        dsimp only
        by_cases hkk : p.2 = k
        · refine wp_if_pos (by simp [hkk]) ?_
          exact wpAny_pure (yes (List.mem_map.mpr ⟨p, hmem, hkk⟩))
        · refine wp_if_neg (by simp [hkk]) ?_
          try refine wpAny_bind (wpAny_pure ?_)
          rw [sameMem]
          dsimp only
          have hsl : t.slot (way t.mask (k.hash w) (c + q)) = .live i := slot_live R.tab.ris hi
          simp only [if_true, hsl, R.entry hp]
          refine wpAny_bind (wpAny_isSame_ref_self (wpAny_bind (wpAny_pure ?_)))
          simp only [if_true]
          refine wp_if_neg (by simp [hkk]) ?_
          refine srch_from R hx hu hKf hK hKb yes no f (c + (q + 1)) _ rfl (by omega) (by omega) fun j p0 h0 hk0 => ?_
          obtain ⟨d, a1, a2, a3⟩ := hre j p0 h0 hk0
          refine ⟨d, ?_, a2, a3⟩
          rcases Nat.lt_or_ge d (c + q) with z | z
          · exfalso
            refine hno (d - c) j (by omega) (by rw [e1, show c + (d - c) = d by omega]; exact a3) ?_
            exact (hat j p0 h0).trans (congrArg (NestedKey.hash w) hk0)
          · rcases Nat.lt_or_ge (c + q) d with y | y
            · omega
            · exfalso
              have ec : d = c + q := Nat.le_antisymm y z
              rw [ec] at a3
              have s0 := slot_live R.tab.ris a3
              rw [hsl] at s0
              injection s0 with s0
              rw [← s0, hp] at h0
              exact hkk ((congrArg Prod.snd (Option.some.inj h0)).trans hk0)
      by_cases hl : t.led = true
      · refine wp_if_neg (by simp [hl]) ?_
        try refine wpAny_bind (wpAny_pure ?_)
        exact go
      · refine wp_if_pos (by simp [hl]) ?_
        refine wpAny_bind (seen_key hx (fun y hy => ?_) ?_)
        · obtain ⟨e, he, ee⟩ := List.mem_map.mp hy
          have he1 : e ∈ es ∧ e.1 = k.hash w := by simpa using he
          have he2 : e ∈ es.toList := by simpa using he1.1
          rw [R.rows] at he2
          obtain ⟨p2, hp2, e2⟩ := List.mem_map.mp he2
          refine ⟨p2.2, p2.1, ?_, R.key p2 hp2⟩
          rw [← ee, ← e2]
        · refine wp_if_neg (by decide) ?_
          try refine wpAny_bind (wpAny_pure ?_)
          exact go
    · have hpr2 : t.probe (fun i => (es[i]?.map (·.1)).getD 0) (k.hash w) (st.getD (t.probeStart (k.hash w))) = some (.empty (way t.mask (k.hash w) K) none) := by
        have e2 : way t.mask (k.hash w) K = (nth t.mask (prb t (k.hash w) c) (K - c)).j := by
          rw [e1, show c + (K - c) = K by omega]
        rw [hst, e2]
        exact hpr
      rw [hpr2]
      dsimp only
      refine wpAny_pure (no fun hm => ?_)
      obtain ⟨p0, h0, hk0⟩ := List.mem_map.mp hm
      obtain ⟨i0, hi0, e0⟩ := List.getElem_of_mem h0
      have h00 : L[i0]? = some p0 := by rw [List.getElem?_eq_getElem hi0, e0]
      obtain ⟨d, a1, a2, a3⟩ := hre i0 p0 h00 hk0
      refine hno (d - c) i0 (by omega) (by rw [e1, show c + (d - c) = d by omega]; exact a3) ?_
      exact (hat i0 p0 h00).trans (congrArg (NestedKey.hash w) hk0)
theorem srch_at (R : SetK P w s.heap a L es ep t) {x : Addr} {k : NestedKey} (hx : KIs P w s.heap k x) (hu : A.units + 8 < cLine) {Q : SetFound → Shared → Prop}
    (yes : k ∈ L.map (·.2) → Q (.there none) s)
    (no : ∀ K, k ∉ L.map (·.2) → way t.mask (k.hash w) K ∉ t.place.toList → (∀ c, c < K → way t.mask (k.hash w) c ∈ t.place.toList) → Q (.free (way t.mask (k.hash w) K) false) s) :
    wpAny (model P w) A (setSearch a (.ref x) (k.hash w) true) Q E s := by
  have hf := R.few
  have hm := R.m7
  obtain ⟨K, hKf, hK, hKb⟩ := R.tab.first (by unfold hshK; rw [List.length_map]; omega) (k.hash w)
  have big : K < 100000 := by
    have z : 10 * SetTable.turns t.mask ≤ 1420 := by
      unfold SetTable.turns
      omega
    omega
  unfold setSearch
  refine srch_from R hx hu hKf hK hKb yes (fun hn => no K hn hK hKb) 100000 0 none rfl (Nat.zero_le _) (by omega) fun i p hp hk => ?_
  have hi : (hshK w L)[i]? = some (k.hash w) := by
    unfold hshK
    rw [List.getElem?_map, hp, ← hk] <;> rfl
  have hil : i < t.place.toList.length := by
    rw [Array.length_toList, R.psz]
    exact (List.getElem?_eq_some_iff.mp hp).1
  have hj := List.getElem?_eq_getElem hil
  obtain ⟨c, hc, e⟩ := R.tab.before hK hi hj
  exact ⟨c, Nat.zero_le _, hc, by rw [hj, e]⟩
/-- a key isn't the set -/
theorem kis_same {h h' : Heap} {k : NestedKey} {a b : Addr} {o : Obj} (hb : KIs P w h k b) (ho : h.get? a = some o) (hd : o.data = .set es ep t) (hs : Heap.SameBut a h h') : KIs P w h' k b :=
  ⟨NestedIs.at (fun c oc vs n h1 h2 => by
    refine (hs.2 c fun e => ?_).trans h1
    subst e
    rw [ho] at h1
    cases h1
    rw [hd] at h2
    exact nomatch h2) k _ hb.1, hb.2⟩
theorem kis_keep {h h' : Heap} {k : NestedKey} {b : Addr} (x : KIs P w h k b) (hk : ∀ c o, h.get? c = some o → h'.get? c = some o) : KIs P w h' k b :=
  ⟨NestedIs.at (fun c oc _ _ h1 _ => hk c oc h1) k _ x.1, x.2⟩
theorem rowsK_put (w : World) (L : List KA) (p : Nat) (x : KA) : rowsK w (L.take p ++ x :: L.drop p) = (rowsK w L).take p ++ (x.2.hash w, Value.ref x.1) :: (rowsK w L).drop p := by
  unfold rowsK
  rw [List.map_append, List.map_cons, List.map_take, List.map_drop]
theorem hshK_put (w : World) (L : List KA) (p : Nat) (x : KA) : hshK w (L.take p ++ x :: L.drop p) = (hshK w L).take p ++ x.2.hash w :: (hshK w L).drop p := by
  unfold hshK
  rw [List.map_append, List.map_cons, List.map_take, List.map_drop]
theorem TabOk.unplain {t : SetTable} {hs : List Int} (T : TabOk t hs) (b : Bool) : TabOk { t with plain := b } hs := ⟨T.ris, T.dm, T.sz, T.mok, T.bd, T.reach⟩
/-- adding -/
theorem addk_at (R : SetK P w s.heap a L es ep t) {x : Addr} {k : NestedKey} (hx : KIs P w s.heap k x) (hu : A.units + 8 < cLine) (hfew : L.length < 4) {Q : Bool → Shared → Prop}
    (hQ : ∀ b h' L' es' ep' t', Heap.SameBut a s.heap h' → SetK P w h' a L' es' ep' t' → (k ∈ L.map (·.2) → L' = L) → (k ∉ L.map (·.2) → L'.Perm ((x, k) :: L)) → Q b { s with heap := h' }) :
    wpAny (model P w) A (setAddHashed a (.ref x) (k.hash w)) Q E s := by
  obtain ⟨o, ho, hex, hd⟩ := R.ob
  have hsl := R.size
  unfold setAddHashed
  refine wpAny_holding ?_
  rw [show (100000 : Nat) = 99999 + 1 from rfl, setAddHashedIn_succ]
  refine wpAny_bind (wpAny_setState_of ho hd R.fits ?_)
  dsimp only
  refine wp_if_neg (by simp [byScan, Value.scannable]) ?_
  try refine wpAny_bind (wpAny_pure ?_)
  refine wpAny_bind (srch_at R hx hu (fun hm => ?_) fun K hm hK hb => ?_)
  · dsimp only
    exact wpAny_pure (hQ false s.heap L es ep t (Heap.SameBut.refl a s.heap) R (fun _ => rfl) fun z => absurd hm z)
  · dsimp only
    refine wpAny_bind (wpAny_setState_of ho hd R.fits ?_)
    dsimp only
    obtain ⟨q1, q2, q3, q4, q5, q6, q7, q8, q9⟩ := R.tab.put hK hb
    generalize hpt : t.put (way t.mask (k.hash w) K) = pt at q1 q3 q4 q5 q6 q7 q8 q9 ⊢
    obtain ⟨t1, p⟩ := pt
    dsimp only at q1 q3 q4 q5 q6 q7 q8 q9 ⊢
    subst q1
    have hin : (SetTable.insertAt es (SetTable.below t.place (way t.mask (k.hash w) K)) (k.hash w, Value.ref x)).toList = rowsK w (L.take (SetTable.below t.place (way t.mask (k.hash w) K)) ++ (x, k) :: L.drop (SetTable.below t.place (way t.mask (k.hash w) K))) := by
      rw [SetTable.toList_insertAt, rowsK_put, R.rows]
    generalize SetTable.below t.place (way t.mask (k.hash w) K) = p at q2 q3 hin ⊢
    have pm := put_perm L p (x, k)
    have hlen : (L.take p ++ (x, k) :: L.drop p).length = L.length + 1 := pm.length_eq
    have hhs := hshK_put w L p (x, k)
    rw [← hhs] at q3
    have nd1 : ((L.take p ++ (x, k) :: L.drop p).map (·.2)).Nodup := by
      refine (pm.map (·.2)).nodup_iff.mpr ?_
      rw [List.map_cons]
      exact List.nodup_cons.mpr ⟨hm, R.nd⟩
    have hes : (SetTable.insertAt es p (k.hash w, Value.ref x)).size = L.length + 1 := by
      have h := congrArg List.length hin
      unfold rowsK at h
      rw [Array.length_toList, List.length_map, hlen] at h
      exact h
    generalize SetTable.insertAt es p (k.hash w, Value.ref x) = es1 at hin hes ⊢
    generalize L.take p ++ (x, k) :: L.drop p = L1 at pm hlen q3 nd1 hin
    have fin : ∀ (b : Bool) (t2 : SetTable), t2 = (if b = true then t1 else { t1 with plain := false }) →
        wpAny (model P w) A (storeSet a es1 t2 >>= fun _ => if (!false && t2.tooFull) = true then (setRelay a (SetTable.grown (es.size + 1)) >>= fun _ => pure true) else pure true) Q E s := fun b t2 et => by
      have et2 : t2.place = t1.place ∧ t2.mask = t1.mask ∧ t2.led = t1.led ∧ t2.fill = t1.fill ∧ TabOk t2 (hshK w L1) := by
        cases b
        · rw [show t2 = { t1 with plain := false } from et]; exact ⟨rfl, rfl, rfl, rfl, TabOk.unplain q3 false⟩
        · rw [show t2 = t1 from et]; exact ⟨rfl, rfl, rfl, rfl, q3⟩
      clear et
      obtain ⟨z1, z2, z3, z4, z5⟩ := et2
      refine wpAny_bind (wpAny_storeSet_of ho hd ?_ (by rw [hes, sizeLine_eq]; omega))
      have sb : Heap.SameBut a s.heap (s.heap.update a (Obj.putSet es1 t2)) := Heap.SameBut.update ..
      have ho1 := store_at (es' := es1) (t' := t2) ho hd
      generalize s.heap.update a (Obj.putSet es1 t2) = h1 at sb ho1 ⊢
      have key1 : ∀ p ∈ L1, KIs P w h1 p.2 p.1 := fun p hp => by
        rcases List.mem_cons.mp (pm.mem_iff.mp hp) with e | hp
        · rw [e]; exact kis_same hx ho hd sb
        · exact kis_same (R.key p hp) ho hd sb
      have nf : t2.tooFull = false := by
        unfold SetTable.tooFull
        unfold hshK at q9
        rw [z4, z2, q9, q4, R.m7, List.length_map]
        exact decide_eq_false (by omega)
      have R2 : SetK P w h1 a L1 es1 (ep + 1) t2 := ⟨⟨_, ho1, ⟨hex.1, hex.2.1, hex.2.2⟩, rfl⟩, hin, z5, nd1, key1, by rw [z3, q5]; exact R.led, by rw [z2, q4]; exact R.m7, by omega⟩
      first
        | (refine wp_if_neg (by simp [nf]) ?_
           exact wpAny_pure (hQ true h1 L1 es1 (ep + 1) t2 sb R2 (fun z => absurd z hm) fun _ => pm))
        | (refine wpAny_bind ?_
           refine wp_if_neg (by simp [nf]) ?_
           refine wpAny_pure ?_
           exact wpAny_pure (hQ true h1 L1 es1 (ep + 1) t2 sb R2 (fun z => absurd z hm) fun _ => pm))
    by_cases hp1 : t1.plain = true
    · refine wp_if_pos hp1 ?_
      exact wpAny_bind (hbval_key _ _ 8 _ hx.1 hx.2 _ _ _ fun b => fin b _ rfl)
    · refine wp_if_neg hp1 ?_
      exact wpAny_bind (wpAny_pure (fin true _ rfl))
end
end K66
set_option maxHeartbeats 4000000
namespace K66
variable [TabAt]
open PySem PySem.Spec PyProof.Rows L2
/-- what the set has from the first i items -/
structure GotK (ks : List KA) (i : Nat) (L : List KA) : Prop where
  sub : ∀ p ∈ L, p ∈ ks.take i
  all : ∀ p ∈ ks.take i, p.2 ∈ L.map (·.2)
  len : L.length ≤ i
theorem GotK.zero (ks : List KA) : GotK ks 0 [] := ⟨fun p h => (by cases h), fun p h => (by simp at h), Nat.le_refl _⟩
theorem GotK.same {ks L : List KA} {i : Nat} {x : KA} (g : GotK ks i L) (h : ks[i]? = some x) (hm : x.2 ∈ L.map (·.2)) : GotK ks (i + 1) L := by
  refine ⟨fun p hp => ?_, fun p hp => ?_, Nat.le_succ_of_le g.len⟩
  · rw [L2.take_next h]
    exact List.mem_append_left _ (g.sub p hp)
  · rw [L2.take_next h] at hp
    rcases List.mem_append.mp hp with z | z
    · exact g.all p z
    · rw [List.mem_singleton.mp z]; exact hm
theorem GotK.more {ks L L1 : List KA} {i : Nat} {x : KA} (g : GotK ks i L) (h : ks[i]? = some x) (pm : L1.Perm (x :: L)) : GotK ks (i + 1) L1 := by
  refine ⟨fun p hp => ?_, fun p hp => ?_, ?_⟩
  · rw [L2.take_next h]
    rcases List.mem_cons.mp (pm.mem_iff.mp hp) with e | z
    · exact List.mem_append_right _ (List.mem_singleton.mpr e)
    · exact List.mem_append_left _ (g.sub p z)
  · rw [(pm.map (·.2)).mem_iff, List.map_cons]
    rw [L2.take_next h] at hp
    rcases List.mem_append.mp hp with z | z
    · exact List.mem_cons_of_mem _ (g.all p z)
    · rw [List.mem_singleton.mp z]; exact List.mem_cons_self
  · rw [pm.length_eq, List.length_cons]
    exact Nat.succ_le_succ g.len
section
variable {P : Program} {w : World} {A : Around} {E : Value → Shared → Prop} {s : Shared}
theorem SetK.keep {h h' : Heap} {a : Addr} {L : List KA} {es : Array (Int × Value)} {ep : Nat} {t : SetTable} (R : SetK P w h a L es ep t) (ha : ∀ o, h.get? a = some o → h'.get? a = some o) (hk : ∀ p ∈ L, KIs P w h' p.2 p.1) : SetK P w h' a L es ep t := by
  obtain ⟨o, ho, r⟩ := R.ob
  exact ⟨⟨o, ha o ho, r⟩, R.rows, R.tab, R.nd, hk, R.led, R.m7, R.few⟩
/-- the set that set() begins with -/
abbrev obSet (w : World) : Obj := { cls := .type "set", dict := none, data := .set #[] 0 (.fresh 0 0 (!w.params.followText "set-order")) }
theorem setK_fresh {h : Heap} {a : Addr} (ho : h.get? a = some (obSet w)) : SetK P w h a [] #[] 0 (.fresh 0 0 (!w.params.followText "set-order")) where
  ob := ⟨_, ho, ⟨rfl, rfl, rfl⟩, rfl⟩
  rows := rfl
  tab := ⟨List.Pairwise.nil, rfl, rfl, .inl rfl, fun x hx => (by cases hx), fun i h j hi => (by simp [hshK] at hi)⟩
  nd := List.nodup_nil
  key := fun p hp => (by cases hp)
  led := by
    show _ ∨ (!w.params.followText "set-order") = true
    cases w.params.followText "set-order"
    · exact .inr rfl
    · exact .inl rfl
  m7 := rfl
  few := Nat.zero_le _
/-- the loop of set.update -/
theorem update_keys {I : Addr} {fp wr : List Addr} {G : Array GenState → Array GenState → Prop} {n : Nat} {Pv : Nat → Value → Prop} {St : Nat → Shared → Prop} {R : Result → Shared → Prop}
    (W : WalksS P w A.in1 I fp wr G n Pv St) (S : Addr) (hSf : S ∉ fp) (ks : List KA) (hn : n = ks.length) (h4 : ks.length ≤ 4) (hval : ∀ i v, Pv i v → ∃ p, ks[i]? = some p ∧ v = .ref p.1)
    (h0 : Heap) (hk : ∀ p ∈ ks, KIs P w h0 p.2 p.1) (hS0 : h0.get? S = none) (hw0 : ∀ b ∈ wr, h0.get? b = none) (hu : A.in1.units + 8 < cLine) :
    ∀ (k i : Nat) (s : Shared), n - i = k → i ≤ n → St i s → (∀ b o, h0.get? b = some o → s.heap.get? b = some o) → (∃ L es ep t, SetK P w s.heap S L es ep t ∧ GotK ks i L) →
      (∀ s' L es ep t, Moved (S :: wr) G s s' → SetK P w s'.heap S L es ep t → GotK ks n L → (∀ b o, h0.get? b = some o → s'.heap.get? b = some o) → R (.ok (.ret .none)) s') →
      codeAny (model P w) A (.builtin "set.update.loop" ⟨[.ref S, .ref I], []⟩) R s := by
  have hSw : S ∉ wr := fun h => hSf (W.sub _ h)
  have subW : ∀ b ∈ wr, b ∈ S :: wr := fun b hb => List.mem_cons_of_mem _ hb
  have keepM : ∀ {s s' : Shared}, Moved wr G s s' → (∀ b o, h0.get? b = some o → s.heap.get? b = some o) → ∀ b o, h0.get? b = some o → s'.heap.get? b = some o := fun hm hkp b o e =>
    hm.heap b o (fun hb => by rw [hw0 b hb] at e; cases e) (hkp b o e)
  intro k
  induction k with
  | zero =>
    intro i s hk' hi hst hkp ⟨L, es, ep, t, hS, g⟩ hR
    have hin : i = n := by omega
    subst hin
    refine codeAny_builtin F.entry_set_update_loop ?_
    rw [Around.under_plainId F.plain_set_update_loop _]
    show wpAny _ A.in1 (pyNext (.ref I) >>= _) _ _ s
    refine wpAny_bind (W.done s _ _ hst fun z hm => ?_)
    show wpAny _ A.in1 (ret Value.none) _ _ z
    have kp := keepM hm hkp
    have sub : ∀ p ∈ L, p ∈ ks := fun p hp => List.mem_of_mem_take (g.sub p hp)
    exact wpAny_pure (hR z L es ep t (hm.mono subW) (hS.keep (fun o e => hm.heap S o hSw e) fun p hp => kis_keep (hk p (sub p hp)) kp) g kp)
  | succ k ih =>
    intro i s hk' hi hst hkp ⟨L, es, ep, t, hS, g⟩ hR
    have hlt : i < n := by omega
    refine codeAny_builtin F.entry_set_update_loop ?_
    rw [Around.under_plainId F.plain_set_update_loop _]
    show wpAny _ A.in1 (pyNext (.ref I) >>= _) _ _ s
    refine wpAny_bind (W.item i s _ _ hlt hst fun v z hP hst2 hm => ?_)
    obtain ⟨p, hp, rfl⟩ := hval i v hP
    have kp := keepM hm hkp
    have sub : ∀ p ∈ L, p ∈ ks := fun p hp => List.mem_of_mem_take (g.sub p hp)
    have hS2 : SetK P w z.heap S L es ep t := hS.keep (fun o e => hm.heap S o hSw e) fun q hq => kis_keep (hk q (sub q hq)) kp
    have hx : KIs P w z.heap p.2 p.1 := kis_keep (hk p (List.mem_of_getElem? hp)) kp
    show wpAny _ A.in1 (holding [Value.ref p.1] (setAdd S (.ref p.1)) >>= _) _ _ z
    refine wpAny_bind (wpAny_holding ?_)
    unfold setAdd
    refine wpAny_holding ?_
    refine wpAny_bind ((nestedKind P w).pyHash (show A.in1.units + 8 < cLine from hu) hx ?_)
    refine addk_at (s := { z with toks := z.toks + (nestedKind P w).draws p.2 }) hS2 hx hu (by have := g.len; omega) fun b h' L' es' ep' t' hsb hS3 c1 c2 => ?_
    have g2 : GotK ks (i + 1) L' := by
      rcases Classical.em (p.2 ∈ L.map (·.2)) with c | c
      · rw [c1 c]; exact g.same hp c
      · exact g.more hp (c2 c)
    have kp2 : ∀ b o, h0.get? b = some o → h'.get? b = some o := fun b o e => (hsb.2 b (fun y => by rw [y, hS0] at e; cases e)).trans (kp b o e)
    refine wpAny_pure ⟨plainId_quiet F.plain_set_update_loop _, ih (i + 1) _ (by omega) hlt (W.frame _ z _ _ hst2 (Nat.le_add_right _ _) fun b hb o e => ?_) kp2 ⟨L', es', ep', t', hS3, g2⟩ fun s'' L2 es2 ep2 t2 hm2 hS4 g3 kp3 => ?_⟩
    · rw [hsb.2 b (fun h : b = S => hSf (by rw [← h]; exact hb))]; exact e
    · refine hR s'' L2 es2 ep2 t2 (Moved.trans W.gtrans ((hm.mono subW).then_heap (Nat.le_add_right _ _) fun b o hb e => ?_) hm2) hS4 g3 kp3
      rw [hsb.2 b (fun h : b = S => hb (by rw [h]; exact List.mem_cons_self))]; exact e
set_option maxHeartbeats 8000000 in
/-- set(xs) -/
theorem call_set_keys {l : Addr} {items : Array Value} (ks : List KA) {Q : Value → Shared → Prop} (hh : A.handled = none) (hl : s.heap.IsList l items) (hit : items.toList = ks.map fun p => Value.ref p.1)
    (hk : ∀ p ∈ ks, KIs P w s.heap p.2 p.1) (h4 : ks.length ≤ 4) (hu : A.units + 12 < cLine)
    (h : ∀ (h' : Heap) (tk : Nat) L es ep t, SetK P w h' s.heap.objs.size L es ep t → GotK ks ks.length L → (∀ b o, s.heap.get? b = some o → h'.get? b = some o) → Q (.ref s.heap.objs.size) { s with heap := h', toks := tk }) :
    wpAny (model P w) A (call (.type "set") [.ref l]) Q E s := by
  have isz : items.size = ks.length := by
    have q := congrArg List.length hit
    rw [Array.length_toList, List.length_map] at q
    exact q
  obtain ⟨c, tl, hmro⟩ := F.called_set.mro
  have hmade := F.called_set.made
  have hsub := F.called_set.sub
  refine wpAny_call (codeAny_of_tree ?_)
  show wpAny _ _ (callAny (.type "set") _) _ _ _
  refine wpAny_pure ⟨Code.quiet_builtin _ (by decide +kernel), codeAny_builtin F.entry_type_call ?_⟩
  rw [Around.under_plain (weight_type_call_type "set" [.ref l] []) rfl]
  have h1 := F.called_set.notType
  have h2 := F.called_set.canCreate
  have hct := F.typeCall_set_1 (.ref l)
  repeat (any_goals (first | assumption | wp_step))
  refine codeAny_mono (code_set_led1 (.ref l) (E := E) (Q₁ := fun ob z => ob = .ref s.heap.objs.size ∧ z = { s with heap := s.heap.push (obSet w) }) ⟨rfl, rfl⟩) fun r z hr => ?_
  cases r with
  | error e => exact hr
  | ok fl =>
    cases fl with
    | ret ob =>
      obtain ⟨rfl, rfl⟩ := hr
      have hS : (s.heap.push (obSet w)).get? s.heap.objs.size = some (obSet w) := Heap.get?_push_size _ rfl
      have hT : Shared.TypeIs { s with heap := s.heap.push (obSet w) } (.ref s.heap.objs.size) "set" := ⟨_, hS, rfl⟩
      have hli := F.called_set.init.lookup
      have hbi := F.called_set.init.bind (.ref s.heap.objs.size)
      repeat (any_goals (first | assumption | wp_step))
      refine codeAny_mono (codeAny_call_builtin (R := wants (fun r z => r = .none ∧ ∃ h' tk L es ep t, z = { s with heap := h', toks := tk } ∧ SetK P w h' s.heap.objs.size L es ep t ∧ GotK ks ks.length L ∧
          (∀ b o, s.heap.get? b = some o → h'.get? b = some o)) E) F.called_set.init.plain F.entry_set_init (check_set_init_1 hT ?_)) fun r2 z2 hr2 => ?_
      · obtain ⟨ol, hol, hcl, nl, hdl⟩ := hl
        obtain ⟨ocls, odict, odata, oslots⟩ := ol
        simp only at hcl hdl
        subst hcl; subst hdl
        have hol2 : (s.heap.push (obSet w)).get? l = some { cls := .type "list", dict := odict, data := .seq items nl, slots := oslots } := Heap.get?_push_of_some _ hol
        have hsls := F.sub_list_set
        have hslf := F.sub_list_frozenset
        have hne : (Value.type "list" == Value.type "dict") = false := by decide
        have hl1 : (s.heap.push (obSet w)).IsList l items := ⟨_, hol2, rfl, nl, rfl⟩
        unfold Builtin.«set.__init__» noKeywords Builtin.Frozenset.updateFrom
        generalize hPI : pyIter = PI
        wp_walk
        subst hPI
        refine wpAny_pyIter_list hl1 ?_
        refine wpAny_bind (wpAny_runValue ?_)
        have hlS : l < s.heap.objs.size := Heap.lt_size hol
        have hh3 : A.in1.in1.in1.handled = none := by simp [hh]
        have hneI : l ≠ (s.heap.push (obSet w)).objs.size := by
          rw [Heap.size_push]; exact Nat.ne_of_lt (Nat.lt_succ_of_lt hlS)
        have hSf : s.heap.objs.size ∉ [(s.heap.push (obSet w)).objs.size, l] := by
          rw [Heap.size_push]; simp only [List.mem_cons, List.mem_singleton, List.not_mem_nil, or_false, not_or]
          exact ⟨Nat.ne_of_lt (Nat.lt_succ_self _), Nat.ne_of_gt hlS⟩
        have hval : ∀ (i : Nat) (v : Value), items[i]? = some v → ∃ p, ks[i]? = some p ∧ v = .ref p.1 := fun i v hv => by
          have q : items.toList[i]? = some v := by rw [Array.getElem?_toList]; exact hv
          rw [hit, List.getElem?_map] at q
          cases hq : ks[i]? with
          | none => rw [hq] at q; cases q
          | some p =>
            rw [hq] at q
            exact ⟨p, rfl, (Option.some.inj q).symm⟩
        have none_of : ∀ b, s.heap.objs.size ≤ b → s.heap.get? b = none := fun b hb => by
          cases q : s.heap.get? b with
          | none => rfl
          | some o => exact absurd (Nat.lt_of_lt_of_le (Heap.lt_size q) hb) (Nat.lt_irrefl _)
        refine update_keys ((Walks.list hh3 _ l hneI items).toS) s.heap.objs.size
          hSf ks isz h4 hval s.heap hk (none_of _ (Nat.le_refl _)) (fun b hb => none_of b (by
            rw [List.mem_singleton.mp hb, Heap.size_push]
            exact Nat.le_succ _)) (by simp only [Around.in1_units] at *; omega) (items.size - 0) 0 _ (by omega) (Nat.zero_le _)
          ⟨⟨_, Heap.get?_push_size _ rfl, rfl, rfl⟩, (hl1.push _)⟩ (fun b o e => Heap.get?_push_of_some _ (Heap.get?_push_of_some _ e)) ?hS0 ?hR
        case hS0 =>
          have hget : ((s.heap.push (obSet w)).push { cls := .type "list_iterator", data := .fields #[.ref l, .int 0 0] }).get? s.heap.objs.size = some (obSet w) := Heap.get?_push_of_some _ hS
          exact ⟨[], #[], 0, _, setK_fresh hget, GotK.zero ks⟩
        case hR =>
          intro z L es ep t hm hS2 g2 kp
          obtain ⟨h', gz, dz, tk, oz⟩ := z
          have eg : gz = s.gens := hm.gens
          have ed : dz = s.drawn := hm.drawn
          have eo : oz = s.os := hm.os
          subst eg; subst ed; subst eo
          show wpAny _ _ _ _ _ _
          refine wpAny_pure ?_
          show wpAny _ _ (ret Value.none) _ _ _
          rw [isz] at g2
          exact wpAny_pure ⟨rfl, h', tk, L, es, ep, t, rfl, hS2, g2, kp⟩
      · cases r2 with
        | error e => exact hr2
        | ok f2 =>
          cases f2 with
          | ret r =>
            obtain ⟨rfl, h', tk, L, es, ep, t, rfl, hS2, g2, kp⟩ := hr2
            repeat (any_goals (first | assumption | wp_step))
            exact h _ _ _ _ _ _ hS2 g2 kp
          | _ => exact hr2.elim
    | _ => exact hr.elim
end
end K66
set_option maxHeartbeats 4000000
namespace K66
variable [TabAt]
open PySem PySem.Spec PyProof.Rows L2
section
variable {prog : Program} {w : World} {A : Around} {E : Value → Shared → Prop} {s : Shared}
theorem call_tuple_lt {Q : Value → Shared → Prop} {l b : Addr} {xs ys : Array Value} {e r : Nat → Bool} (hl : s.heap.IsTuple l xs) (hb : s.heap.IsTuple b ys)
    (he : ∀ j (h1 : j < xs.size) (h2 : j < ys.size), SeqAt.EqAt A.in1 s xs[j] ys[j] (e j)) (hr : ∀ j (h1 : j < xs.size) (h2 : j < ys.size), e j = false → SeqAt.RcLt A.in1 s xs[j] ys[j] (r j))
    (h : Q (.bool (SeqAt.firstLt e r (decide (xs.size < ys.size)) (List.range (min xs.size ys.size)))) s) : wpAny (model prog w) A (call (.builtin "tuple.__lt__") [.ref l, .ref b]) Q E s := by
  obtain ⟨⟨c1, d1, o1, s1⟩, g1, k1, n1, q1⟩ := id hl
  obtain ⟨⟨c2, d2, o2, s2⟩, g2, k2, n2, q2⟩ := id hb
  simp only at k1 q1 k2 q2
  subst k1 q1 k2 q2
  exact call_meets F.slot_tuple_lt ⟨_, g1, rfl⟩ F.entry_tuple_lt (F.args_tuple_lt_2 _ _) (SeqAt.tuple_ltAt l b xs ys n1 n2 d1 d2 s1 s2 e r) ⟨g1, g2, he, hr, h⟩
/-- tuple against tuple, both of one type -/
theorem oneLt_tup {xs ys : List PyData} {a b : Value} {as bs : List Addr} {Q : Bool → Shared → Prop} (ra : Reads s.heap a (.tuple xs) as) (rb : Reads s.heap b (.tuple ys) bs) (hal : PySem.W.alikeAll xs ys = true)
    (hu : A.units + min (PyData.tuple xs).depth (PyData.tuple ys).depth < cLine) (hq : Q (PySem.W.dataLt (.tuple xs) (.tuple ys)) s) : wpAny (model prog w) A (oneLt' true a b) Q E s := by
  cases ra with
  | @tuple l o vs n _ as1 h1 h2 h3 h4 =>
    cases rb with
    | @tuple l2 o2 vs2 n2 _ bs1 k1 k2 k3 k4 =>
      have z1 : vs.size = xs.length := by simpa using SeqAt.ReadsAll.length _ _ _ h4
      have z2 : vs2.size = ys.length := by simpa using SeqAt.ReadsAll.length _ _ _ k4
      rw [PySem.W.dataLt_tuple, ← PySem.W.firstLt_toks xs ys hal, ← z1, ← z2] at hq
      rw [oneLt'_eq]
      simp only [if_true]
      refine wpAny_bind (wpAny_cRoomFor (SeqAt.room_here hu) ?_)
      refine wpAny_bind (wpAny_callSpecialIfBound?_slot (T := "tuple") ⟨_, h1, h2⟩ F.slot_tuple_lt (call_tuple_lt (e := SeqAt.pairEq xs ys) (r := fun j => PySem.W.dataLt (xs.getD j .none) (ys.getD j .none)) ⟨_, h1, h2, _, h3⟩ ⟨_, k1, k2, _, k3⟩ (fun j j1 j2 => ?_) (fun j j1 j2 hj => ?_) ?_))
      · have t := PySem.W.eqAt_alikeAll xs ys A.in1 s vs.toList vs2.toList _ _ h4 k4 hal (SeqAt.room_in hu) j (by simpa using j1) (by simpa using j2)
        simpa using t
      · have t := PySem.W.rcLt_alikeAll xs ys A.in1 s vs.toList vs2.toList _ _ h4 k4 hal (SeqAt.room_in hu) j (by simpa using j1) (by simpa using j2) hj
        simpa using t
      · exact wpAny_truthy_bool hq
/-- the first items of tuples -/
def Fsts (h : Heap) : List Value → List (Option Value) → Prop
  | [], [] => True
  | v :: vs, f :: fs => (∃ a o xs n, v = .ref a ∧ h.get? a = some o ∧ o.cls = .type "tuple" ∧ o.data = .seq xs n ∧ xs[0]? = f) ∧ Fsts h vs fs
  | _, _ => False
theorem fsts_run {M : Model} : ∀ (vs : List Value) (fs : List (Option Value)) {Q : List (Option Value) → Shared → Prop}, Fsts s.heap vs fs → Q fs s → wpAny M A (vs.mapM firstOfTuple') Q E s
  | [], [], _, _, h => by rw [List.mapM_nil]; exact wpAny_pure h
  | [], _ :: _, _, t, _ => t.elim
  | _ :: _, [], _, t, _ => t.elim
  | v :: vs, f :: fs, Q, t, h => by
    obtain ⟨⟨a, o, xs, n, rfl, ho, hc, hd, hf⟩, t⟩ := t
    rw [List.mapM_cons]
    refine wpAny_bind ?_
    rw [PySem.W.kas_first_eq]
    refine wpAny_bind (PySem.W.Looks.here (show PySem.W.Looks M s.heap (typeOf (.ref a)) o.cls from (PySem.W.Looks.ld ho).andThen .now) ?_)
    rw [hc, if_neg (by first | decide | simp)]
    refine wpAny_bind (listItems_at ho hd (wpAny_pure ?_))
    rw [hf]
    exact wpAny_bind (fsts_run vs fs (Q := fun bs z => wpAny M A (pure (f :: bs)) Q E z) t (wpAny_pure h))
theorem fsts_of {h : Heap} : ∀ {vs : List Value} {ds : List PyData}, PySem.W.EachIs (fun v d => ∃ as, Reads h v d as) vs ds → (∀ d ∈ ds, ∃ xs, d = .tuple xs) → ∃ fs, Fsts h vs fs ∧ ((∀ x ∈ fs, x.isSome = true) → ∀ d ∈ ds, ∃ x r, d = .tuple (x :: r))
  | _, _, .nil, _ => ⟨[], trivial, fun _ d hd => absurd hd (by simp)⟩
  | _, _, .cons (b := d) ⟨as, r⟩ t, ht => by
    obtain ⟨fs, h1, h2⟩ := fsts_of t fun d hd => ht d (List.mem_cons_of_mem _ hd)
    obtain ⟨xs, rfl⟩ := ht d (List.mem_cons_self ..)
    cases r with
    | @tuple a o vs n _ _ ho hc hd hr =>
      refine ⟨vs[0]? :: fs, ⟨⟨a, o, vs, n, rfl, ho, hc, hd, rfl⟩, h1⟩, fun all d hm => ?_⟩
      rcases List.mem_cons.mp hm with rfl | hm
      · cases xs with
        | cons x r => exact ⟨x, r, rfl⟩
        | nil =>
          exfalso
          have z := all _ (List.mem_cons_self ..)
          have e : vs.toList = [] := by
            generalize vs.toList = l at hr
            cases hr; rfl
          have e2 : vs[0]? = none := by rw [← Array.getElem?_toList, e]; rfl
          rw [e2] at z
          cases z
      · exact h2 (fun x hx => all x (List.mem_cons_of_mem _ hx)) d hm
/-- tuples that read as alike data can be sorted -/
theorem sortsAt_tups {vs : List Value} {ds : List PyData} (e : PySem.W.EachIs (fun v d => ∃ as, Reads s.heap v d as) vs ds) (hal : PySem.W.AllAlike ds) (ht : ∀ d ∈ ds, ∃ xs, d = .tuple xs) (hu : ∀ d, d ∈ ds → A.units + d.depth < cLine) : PySem.W.SortsAt prog w A s (PySem.W.dataKind s.heap ds) vs := by
  obtain ⟨fs, f1, f2⟩ := fsts_of e ht
  by_cases hf : (fs.all fun x => x.isSome) = true
  · exact .data e hal (.inl (f2 fun x hx => List.all_eq_true.mp hf x hx)) hu
  have room : ∀ {d d' : PyData}, d ∈ ds → A.units + min d.depth d'.depth < cLine := fun {d d'} hd => Nat.lt_of_le_of_lt (Nat.add_le_add_left (Nat.min_le_left _ _) _) (hu d hd)
  have lt1 : PyProof.Rows.H.LtAt prog w A s (PySem.W.dataKind s.heap ds) general' := by
    intro E x y a b Q ha hb hq
    obtain ⟨d, as, hd, ra, rfl⟩ := PySem.W.dataKind_inv ha
    obtain ⟨d', as', hd', rb, rfl⟩ := PySem.W.dataKind_inv hb
    refine PySem.W.oneLt_alike (f := false) (fun z => nomatch z) ra rb (hal d hd d' hd') ?_ (room hd) hq
    obtain ⟨xs, rfl⟩ := ht d hd
    exact fun z => nomatch z
  have lt2 : PyProof.Rows.H.LtAt prog w A s (PySem.W.dataKind s.heap ds) oneType' := by
    intro E x y a b Q ha hb hq
    obtain ⟨d, as, hd, ra, rfl⟩ := PySem.W.dataKind_inv ha
    obtain ⟨d', as', hd', rb, rfl⟩ := PySem.W.dataKind_inv hb
    have hdd := hal d hd d' hd'
    have hr := room (d' := d') hd
    obtain ⟨xs, rfl⟩ := ht d hd
    obtain ⟨ys, rfl⟩ := ht d' hd'
    rw [keyLt'_oneType]
    exact oneLt_tup ra rb hdd hr hq
  have keys : ∀ v, v ∈ vs → ∃ a, (PySem.W.dataKind s.heap ds).keyOf v = some a := fun v hv => by
    obtain ⟨d, hd, as, r⟩ := e.left v hv
    exact ⟨_, PySem.W.dataKind_some hal hd r⟩
  have hT : ∀ v ∈ vs, PySem.W.Looks (model prog w) s.heap (typeOf v) (.type "tuple") := fun v hv => by
    obtain ⟨d, hd, as, r⟩ := e.left v hv
    obtain ⟨xs, rfl⟩ := ht d hd
    exact PySem.W.looks_reads r
  -- which of the two kinds it is, the first item tells
  by_cases hz : ((fs.toArray[0]?).bind id).isSome = true
  · refine ⟨keys, general', lt1, fun h2 E Q hq => ?_⟩
    rw [kat_kind_eq, List.mapM_toArray, map_eq_pure_bind]
    refine wpAny_bind (wpAny_bind (fsts_run vs fs f1 (wpAny_pure ?_)))
    rw [if_neg (by simpa using hf), if_pos hz]
    exact wpAny_pure hq
  · refine ⟨keys, oneType', lt2, fun h2 E Q hq => ?_⟩
    rw [kat_kind_eq, List.mapM_toArray, map_eq_pure_bind]
    refine wpAny_bind (wpAny_bind (fsts_run vs fs f1 (wpAny_pure ?_)))
    rw [if_neg (by simpa using hf), if_neg hz]
    obtain ⟨v1, vr, rfl⟩ : ∃ v1 vr, vs = v1 :: vr := by
      match vs, h2 with
      | v1 :: vr, _ => exact ⟨v1, vr, rfl⟩
    rw [oneTypeOnly'_eq, List.mapM_toArray, map_eq_pure_bind]
    refine wpAny_bind (wpAny_bind (wpAny_bind (PySem.W.kas_mapM (r := Value.type "tuple") _ (fun v hm Q2 hq => (hT v hm).here hq) (wpAny_pure ?_))))
    have all2 : ((List.map (fun _ => Value.type "tuple") (v1 :: vr)).toArray.all fun x => x == Value.type "tuple") = true := by
      simp only [List.all_toArray, List.all_map, List.all_eq_true]
      intro _ _
      exact beq_self_eq_true _
    have h0 : (List.map (fun _ => Value.type "tuple") (v1 :: vr)).toArray[0]? = some (Value.type "tuple") := by simp
    rw [h0]
    simp only [all2, if_true]
    exact wpAny_pure (wpAny_pure hq)
end
end K66
set_option maxHeartbeats 4000000
namespace K66
variable [TabAt]
open PySem PySem.Spec PyProof.Rows L2
mutual
/-- a text, or a tuple of such, at most n deep -/
def tpl : Dt → Nat → Bool
  | .str _, _ => true
  | .tup xs, n => decide (n ≠ 0) && tplL xs (n - 1)
  | .non, _ => false
  | .bl _, _ => false
  | .int _, _ => false
  | .lst _, _ => false
  | .dic _ _, _ => false
  | .nd _ _, _ => false
  | .obj _ _ _, _ => false
def tplL : List Dt → Nat → Bool
  | [], _ => true
  | d :: ds, n => tpl d n && tplL ds n
end
mutual
theorem tpl_depth : ∀ (d : Dt) (n : Nat), tpl d n = true → (py d).depth ≤ n
  | .str x, n, h => Nat.zero_le _
  | .tup xs, n, h => by
    obtain ⟨h1, h2⟩ := Bool.and_eq_true_iff.mp (show (decide (n ≠ 0) && tplL xs (n - 1)) = true from h)
    have h1 := of_decide_eq_true h1
    have a := tplL_depth xs (n - 1) h2
    show PyData.depthAll (pyL xs) + 1 ≤ n
    omega
theorem tplL_depth : ∀ (ds : List Dt) (n : Nat), tplL ds n = true → PyData.depthAll (pyL ds) ≤ n
  | [], n, _ => Nat.zero_le _
  | d :: ds, n, h => by
    obtain ⟨h1, h2⟩ := Bool.and_eq_true_iff.mp (show (tpl d n && tplL ds n) = true from h)
    have a := tpl_depth d n h1
    have b := tplL_depth ds n h2
    show max (py d).depth (PyData.depthAll (pyL ds)) ≤ n
    omega
end
section
variable {P : Program} {w : World} {C H : Hp} {h : Heap}
mutual
theorem Is.rds (l : Le C H) (ok : HOk P w H h) : ∀ (d : Dt) (n : Nat) (v : V) (u : Value), tpl d n = true → Is P w C d v → RelV v u → Reads h u (py d) []
  | .str x, n, v, u, _, i, r => by
    rw [show v = V.str x from i] at r
    obtain ⟨t, rfl⟩ := r
    exact .str _ t
  | .tup xs, n, v, u, p, i, r => by
    obtain ⟨a, vs, rfl, e, q⟩ := i
    cases r
    obtain ⟨z, its, rv, o, ho, hc, m, hd⟩ := ok a _ (l.ex _ _ e)
    exact .tuple ho hc hd (IsL.rds l ok xs (n - 1) vs its (Bool.and_eq_true_iff.mp (show (decide (n ≠ 0) && tplL xs (n - 1)) = true from p)).2 q rv)
theorem IsL.rds (l : Le C H) (ok : HOk P w H h) : ∀ (ds : List Dt) (n : Nat) (vs : List V) (us : List Value), tplL ds n = true → IsL P w C ds vs → Vals vs us → ReadsAll h us (pyL ds) []
  | [], n, vs, us, _, i, r => by
    rw [show vs = [] from i] at r
    cases r
    exact .nil
  | d :: ds, n, vs, us, p, i, r => by
    obtain ⟨v, rr, rfl, i1, i2⟩ := i
    obtain ⟨p1, p2⟩ := Bool.and_eq_true_iff.mp (show (tpl d n && tplL ds n) = true from p)
    cases r with
    | cons r1 r2 => exact .cons (as := []) (bs := []) (Is.rds l ok d n v _ p1 i1 r1) (IsL.rds l ok ds n rr _ p2 i2 r2)
end
end
def dtLe : Dt → Dt → Bool := PySem.W.sortLe (listOrd itemOrd) false fun d => PySem.W.keyToks (py d)
/-- the sorted list -/
def srtD (ds : List Dt) : List Dt := ds.mergeSort dtLe
theorem srtD_perm (ds : List Dt) : (srtD ds).Perm ds := List.mergeSort_perm _ _
section
variable {P : Program} {w : World} {A : Around} {E : Value → Shared → Prop} {s : Shared}
theorem sorted_coll {a : Addr} {Pe : List Dt → Prop} {ds : List Dt} {Rel : Value → Dt → Prop} {Q : Value → Shared → Prop}
    (hcol : ∀ (R : List Value → Shared → Prop), (∀ s1 vs es, (∀ b o, s.heap.get? b = some o → s1.heap.get? b = some o) → s1.gens = s.gens → s1.os = s.os → es.Perm ds → Pe es → PySem.W.EachIs Rel vs es → R vs s1) → wpAny (model P w) A.in1 (collect (.ref a)) R E s)
    (hrd : ∀ h' : Heap, (∀ b o, s.heap.get? b = some o → h'.get? b = some o) → ∀ u d, Rel u d → d ∈ ds → Reads h' u (py d) [])
    (hal : PySem.W.AllAlike (ds.map py)) (ht : ∀ d ∈ ds, ∃ xs, d = .tup xs) (hz : ds.length ≤ sizeLine) (hu : ∀ d ∈ ds, A.units + 2 + (py d).depth < cLine)
    (hQ : ∀ s2 p es (out : Array Value) c, (∀ b o, s.heap.get? b = some o → s2.heap.get? b = some o) → s2.gens = s.gens → s2.os = s.os → s.heap.get? p = none → s2.heap.get? p = some (seqObj "list" out c) → es.Perm ds → Pe es → PySem.W.EachIs Rel out.toList (srtD es) → Q (.ref p) s2) :
    wpAny (model P w) A (call (.builtin "sorted") [.ref a]) Q E s := by
  refine Calls.call_function_entry kind_sorted plain_sorted entry_sorted (args_sorted1 _) ?_
  unfold Builtin.«sorted»
  refine wpAny_bind (m := checkCount "sorted" 1 1 _) (wpAny_pure ?_)
  refine wpAny_bind (hcol _ fun s1 vs es k1 g1 o1 pm pe ev => ?_)
  have hvl : vs.length = ds.length := ev.length.trans pm.length_eq
  refine wpAny_bind (wpAny_newList ?_ (by rw [hvl]; exact hz))
  have hoL : (s1.heap.push (seqObj "list" vs.toArray 0)).get? s1.heap.objs.size = some (seqObj "list" vs.toArray 0) := Heap.get?_push_size _ rfl
  have kS : ∀ b o, s.heap.get? b = some o → (PySem.W.sortingHeap (s1.heap.push (seqObj "list" vs.toArray 0)) s1.heap.objs.size vs).get? b = some o := fun b o e => by
    have q := k1 b o e
    exact PySem.W.sortingHeap_old (Nat.ne_of_lt (Heap.lt_size q)) (Heap.get?_push_of_some _ q)
  have mem : ∀ d, d ∈ es → d ∈ ds := fun d hd => pm.mem_iff.mp hd
  have e1 : PySem.W.EachIs (fun u d => Rel u d ∧ d ∈ es) vs es := PySem.W.each_mem ev
  have rd : PySem.W.EachIs (fun v d => ∃ as, Reads (PySem.W.sortingHeap (s1.heap.push (seqObj "list" vs.toArray 0)) s1.heap.objs.size vs) v d as) vs (es.map py) := by
    have go : ∀ {vs : List Value} {l : List Dt} {g : Heap}, (∀ u d, Rel u d → d ∈ es → Reads g u (py d) []) → PySem.W.EachIs (fun u d => Rel u d ∧ d ∈ es) vs l → PySem.W.EachIs (fun v d => ∃ as, Reads g v d as) vs (l.map py) := by
      intro vs l g hg h
      induction h with
      | nil => exact .nil
      | cons h1 _ ih => exact .cons ⟨[], hg _ _ h1.1 h1.2⟩ ih
    exact go (fun u d r hd => hrd _ kS u d r (mem d hd)) e1
  have al : PySem.W.AllAlike (es.map py) := fun d hd d' hd' => by
    obtain ⟨x, hx, rfl⟩ := List.mem_map.mp hd
    obtain ⟨y, hy, rfl⟩ := List.mem_map.mp hd'
    exact hal _ (List.mem_map.mpr ⟨x, mem x hx, rfl⟩) _ (List.mem_map.mpr ⟨y, mem y hy, rfl⟩)
  have S : PySem.W.SortsAt P w A.in1.in1 { s1 with heap := PySem.W.sortingHeap (s1.heap.push (seqObj "list" vs.toArray 0)) s1.heap.objs.size vs } (PySem.W.dataKind (PySem.W.sortingHeap (s1.heap.push (seqObj "list" vs.toArray 0)) s1.heap.objs.size vs) (es.map py)) vs :=
    sortsAt_tups rd al (fun d hd => by
      obtain ⟨x, hx, rfl⟩ := List.mem_map.mp hd
      obtain ⟨xs, rfl⟩ := ht x (mem x hx)
      exact ⟨pyL xs, rfl⟩) fun d hd => by
      obtain ⟨x, hx, rfl⟩ := List.mem_map.mp hd
      have z := hu x (mem x hx)
      simp only [Around.in1_units] at z ⊢
      exact z
  have srt : PySem.W.EachIs Rel (PySem.W.sortVals (PySem.W.dataKind (PySem.W.sortingHeap (s1.heap.push (seqObj "list" vs.toArray 0)) s1.heap.objs.size vs) (es.map py)) false vs vs) (srtD es) :=
    PySem.W.sortVals_each (κ := PySem.W.dataKind (PySem.W.sortingHeap (s1.heap.push (seqObj "list" vs.toArray 0)) s1.heap.objs.size vs) (es.map py)) (fun d : Dt => PySem.W.keyToks (py d)) ev
      (e1.mono fun u d r => PySem.W.dataKind_some al (List.mem_map.mpr ⟨d, r.2, rfl⟩) (hrd _ kS u d r.1 (mem d r.2)))
  have hol := PySem.W.sortVals_length (κ := PySem.W.dataKind (PySem.W.sortingHeap (s1.heap.push (seqObj "list" vs.toArray 0)) s1.heap.objs.size vs) (es.map py)) false (ks := vs) (vs := vs) rfl
  refine wpAny_bind (wpAny_holding (wpAny_call_entry slot_list_sort ⟨_, hoL, rfl⟩ entry_list_sort (PySem.W.list_sort_vals (s := { s1 with heap := s1.heap.push (seqObj "list" vs.toArray 0) }) hoL S (by rw [hvl]; exact hz) ⟨_, rfl, ?_⟩) (args_list_sort _)))
  obtain ⟨c, hc⟩ := sortedHeap_at (vs := vs) (out := (PySem.W.sortVals (PySem.W.dataKind (PySem.W.sortingHeap (s1.heap.push (seqObj "list" vs.toArray 0)) s1.heap.objs.size vs) (es.map py)) false vs vs).toArray) hoL
  refine wpAny_pure ⟨_, rfl, hQ _ s1.heap.objs.size es _ c (fun b o e => ?_) g1 o1 ?_ hc pm pe (by simpa using srt)⟩
  rotate_left
  · cases q : s.heap.get? s1.heap.objs.size with
    | none => rfl
    | some o => exact absurd (Heap.lt_size (k1 _ o q)) (Nat.lt_irrefl _)
  have q := k1 b o e
  have hlt := Heap.lt_size q
  show (sortedHeap (s1.heap.push (seqObj "list" vs.toArray 0)) s1.heap.objs.size vs _).get? b = some o
  rw [sortedHeap_old (Nat.ne_of_lt hlt) (by rw [size_push']; exact Nat.lt_succ_of_lt hlt)]
  exact Heap.get?_push_of_some _ q
end
end K66
set_option maxHeartbeats 4000000
namespace K66
variable [TabAt]
open PySem PySem.Spec PyProof.Rows L2
theorem py_deed (d : Deed) : py (dD d) = .tuple [.str (kS d.1), .str d.2.1, .str d.2.2] := rfl
theorem alike_deed (a b : Deed) : PySem.W.alike (py (dD a)) (py (dD b)) = true := rfl
theorem alike_deeds : ∀ a b : Row, PySem.W.alikeAll (pyL (a.map dD)) (pyL (b.map dD)) = true
  | [], _ => by unfold List.map pyL PySem.W.alikeAll; rfl
  | _ :: _, [] => rfl
  | x :: a, y :: b => by
    show (PySem.W.alike (py (dD x)) (py (dD y)) && PySem.W.alikeAll (pyL (a.map dD)) (pyL (b.map dD))) = true
    rw [alike_deeds a b]; rfl
theorem alike_row (a b : Row) : PySem.W.alike (py (rT a)) (py (rT b)) = true := alike_deeds a b
theorem alike_rows (l : List Row) : PySem.W.AllAlike ((l.map rT).map py) := fun d hd e he => by
  obtain ⟨x, hx, rfl⟩ := List.mem_map.mp hd
  obtain ⟨r, _, rfl⟩ := List.mem_map.mp hx
  obtain ⟨y, hy, rfl⟩ := List.mem_map.mp he
  obtain ⟨q, _, rfl⟩ := List.mem_map.mp hy
  exact alike_row r q
theorem alike_deedL (l : Row) : PySem.W.AllAlike ((l.map dD).map py) := fun d hd e he => by
  obtain ⟨x, hx, rfl⟩ := List.mem_map.mp hd
  obtain ⟨r, _, rfl⟩ := List.mem_map.mp hx
  obtain ⟨y, hy, rfl⟩ := List.mem_map.mp he
  obtain ⟨q, _, rfl⟩ := List.mem_map.mp hy
  exact alike_deed r q
theorem tpl_deeds : ∀ l : Row, tplL (l.map dD) 7 = true
  | [] => rfl
  | x :: l => by
    show (tpl (dD x) 7 && tplL (l.map dD) 7) = true
    rw [tpl_deeds l]; rfl
theorem tpl_row (r : Row) : tpl (rT r) 8 = true := tpl_deeds r
def deedToks (d : Deed) : List (Int ⊕ List Nat) := PySem.W.keyToks (py (dD d))
theorem deedToks_eq (d : Deed) : deedToks d = [.inl 1, .inr (kS d.1).cps.toList, .inl 1, .inr d.2.1.cps.toList, .inl 1, .inr d.2.2.cps.toList, .inl 0] := rfl
theorem deedToks_inj {a b : Deed} {l m : List (Int ⊕ List Nat)} (h : deedToks a ++ l = deedToks b ++ m) : a = b ∧ l = m := by
  rw [deedToks_eq, deedToks_eq] at h
  simp only [List.cons_append, List.nil_append, List.cons.injEq, true_and, Sum.inr.injEq] at h
  obtain ⟨h1, h2, h3, h4⟩ := h
  obtain ⟨a1, a2, a3⟩ := a
  obtain ⟨b1, b2, b3⟩ := b
  have e1 : a1 = b1 := kS_inj (PySem.W.str_of_cps h1)
  have e2 : a2 = b2 := PySem.W.str_of_cps h2
  have e3 : a3 = b3 := PySem.W.str_of_cps h3
  rw [e1, e2, e3]
  exact ⟨rfl, h4⟩
theorem rowToks_inj : ∀ a b : Row, PySem.W.keyToksAll (pyL (a.map dD)) = PySem.W.keyToksAll (pyL (b.map dD)) → a = b
  | [], [], _ => rfl
  | [], y :: b, h => by
    have h : ([.inl 0] : List (Int ⊕ List Nat)) = .inl 1 :: (deedToks y ++ PySem.W.keyToksAll (pyL (b.map dD))) := h
    simp at h
  | x :: a, [], h => by
    have h : (.inl 1 :: (deedToks x ++ PySem.W.keyToksAll (pyL (a.map dD))) : List (Int ⊕ List Nat)) = [.inl 0] := h
    simp at h
  | x :: a, y :: b, h => by
    have h : (.inl 1 :: (deedToks x ++ PySem.W.keyToksAll (pyL (a.map dD))) : List (Int ⊕ List Nat)) = .inl 1 :: (deedToks y ++ PySem.W.keyToksAll (pyL (b.map dD))) := h
    obtain ⟨e, q⟩ := deedToks_inj (List.cons.inj h).2
    rw [e, rowToks_inj a b q]
def rowLe (a b : Row) : Bool := dtLe (rT a) (rT b)
def deedLe (a b : Deed) : Bool := dtLe (dD a) (dD b)
theorem rowLe_anti {a b : Row} (h1 : rowLe a b = true) (h2 : rowLe b a = true) : a = b := by
  have z1 : (!(listOrd itemOrd).blt (PySem.W.keyToks (py (rT b))) (PySem.W.keyToks (py (rT a)))) = true := h1
  have z2 : (!(listOrd itemOrd).blt (PySem.W.keyToks (py (rT a))) (PySem.W.keyToks (py (rT b)))) = true := h2
  rw [Bool.not_eq_true'] at z1 z2
  exact rowToks_inj a b ((listOrd itemOrd).total _ _ z2 z1)
theorem dtLe_total : PySem.W.TotalLe dtLe := PySem.W.sortLe_total _ _ _
theorem rowLe_total : PySem.W.TotalLe rowLe where
  trans a b c h1 h2 := dtLe_total.trans _ _ _ h1 h2
  total a b := dtLe_total.total _ _
/-- rows, sorted -/
def rowSort (l : List Row) : List Row := l.mergeSort rowLe
/-- deeds, sorted -/
def deedSort (l : Row) : Row := l.mergeSort deedLe
theorem srtD_rows (l : List Row) : srtD (l.map rT) = (rowSort l).map rT := (PySem.W.sort_maps rT fun _ _ _ _ => rfl).symm
theorem srtD_deeds (l : Row) : srtD (l.map dD) = (deedSort l).map dD := (PySem.W.sort_maps dD fun _ _ _ _ => rfl).symm
theorem rowSort_perm (l : List Row) : (rowSort l).Perm l := List.mergeSort_perm _ _
theorem deedSort_perm (l : Row) : (deedSort l).Perm l := List.mergeSort_perm _ _
theorem rowSort_sorted (l : List Row) : (rowSort l).Pairwise fun a b => rowLe a b = true := PySem.W.sort_pairwise rowLe_total l
theorem rowSort_canon {l m : List Row} (h : l.Perm m) : rowSort l = rowSort m :=
  List.Perm.eq_of_pairwise (le := fun a b => rowLe a b = true) (fun _ _ _ _ => rowLe_anti) (rowSort_sorted l) (rowSort_sorted m) (((rowSort_perm l).trans h).trans (rowSort_perm m).symm)
def uniq {α : Type} [DecidableEq α] : List α → List α
  | [] => []
  | r :: rs => if r ∈ uniq rs then uniq rs else r :: uniq rs
theorem mem_uniq {α : Type} [DecidableEq α] {x : α} : ∀ {l : List α}, x ∈ uniq l ↔ x ∈ l
  | [] => Iff.rfl
  | r :: rs => by
    unfold uniq
    by_cases h : r ∈ uniq rs
    · rw [if_pos h, mem_uniq (l := rs), List.mem_cons]
      refine ⟨.inr, fun z => z.elim (fun e => ?_) id⟩
      rw [e]; exact mem_uniq.mp h
    · rw [if_neg h, List.mem_cons, List.mem_cons, mem_uniq (l := rs)]
theorem uniq_nodup {α : Type} [DecidableEq α] : ∀ l : List α, (uniq l).Nodup
  | [] => List.nodup_nil
  | r :: rs => by
    unfold uniq
    by_cases h : r ∈ uniq rs
    · rw [if_pos h]; exact uniq_nodup rs
    · rw [if_neg h]; exact List.nodup_cons.mpr ⟨h, uniq_nodup rs⟩
/-- sorted(set(l)) -/
def rowSet (l : List Row) : List Row := rowSort (uniq l)
theorem mem_rowSet {l : List Row} {r : Row} : r ∈ rowSet l ↔ r ∈ l := ((rowSort_perm _).mem_iff).trans mem_uniq
theorem rowSet_nodup (l : List Row) : (rowSet l).Nodup := (rowSort_perm _).nodup_iff.mpr (uniq_nodup l)
theorem rowSet_of {l m : List Row} (hn : m.Nodup) (h : ∀ r, r ∈ m ↔ r ∈ l) : rowSort m = rowSet l :=
  rowSort_canon ((List.perm_ext_iff_of_nodup hn (uniq_nodup l)).mpr fun r => (h r).trans mem_uniq.symm)
theorem rowSet_canon {l m : List Row} (h : ∀ r, r ∈ l ↔ r ∈ m) : rowSet l = rowSet m :=
  rowSet_of (uniq_nodup l) fun r => mem_uniq.trans (h r)
theorem rowSet_len (l : List Row) : (rowSet l).length ≤ l.length := by
  have : ∀ l : List Row, (uniq l).length ≤ l.length := fun l => by
    induction l with
    | nil => exact Nat.le_refl _
    | cons r rs ih =>
      unfold uniq
      split
      · exact Nat.le_succ_of_le ih
      · exact Nat.succ_le_succ ih
  rw [show (rowSet l).length = (uniq l).length from (rowSort_perm _).length_eq]
  exact this l
end K66
set_option maxHeartbeats 4000000
namespace K66
variable [TabAt]
open PySem PySem.Spec PyProof.Rows L2
theorem each_at {Rel : Value → Dt → Prop} : ∀ {vs : List Value} {ds : List Dt}, vs.length = ds.length → (∀ (i : Nat) u d, vs[i]? = some u → ds[i]? = some d → Rel u d) → PySem.W.EachIs Rel vs ds
  | [], [], _, _ => .nil
  | v :: vs, d :: ds, hl, h => .cons (h 0 v d rfl rfl) (each_at (by simpa using hl) fun i u e h1 h2 => h (i + 1) u e (by simpa using h1) (by simpa using h2))
  | [], _ :: _, hl, _ => by simp at hl
  | _ :: _, [], hl, _ => by simp at hl
theorem each_perm {α β : Type} {R : α → β → Prop} {as cs : List α} (p : cs.Perm as) : ∀ {bs : List β}, PySem.W.EachIs R as bs → ∃ es, PySem.W.EachIs R cs es ∧ es.Perm bs := by
  induction p with
  | nil => exact fun {bs} h => ⟨bs, h, List.Perm.refl _⟩
  | @cons x l1 l2 _ ih =>
    intro bs h
    cases h with
    | @cons _ b _ bs h1 h2 =>
      obtain ⟨es, e1, e2⟩ := ih h2
      exact ⟨_ :: es, .cons h1 e1, e2.cons _⟩
  | @swap x y l =>
    intro bs h
    cases h with
    | @cons _ b _ bs h1 h2 =>
      cases h2 with
      | @cons _ c _ bs h2 h3 => exact ⟨_ :: _ :: bs, .cons h2 (.cons h1 h3), List.Perm.swap ..⟩
  | trans _ _ ih1 ih2 =>
    intro bs h
    obtain ⟨e1, a1, b1⟩ := ih2 h
    obtain ⟨e2, a2, b2⟩ := ih1 a1
    exact ⟨e2, a2, b2.trans b1⟩
theorem each_vals {P : Program} {w : World} {H : Hp} : ∀ {us : List Value} {ds : List Dt}, PySem.W.EachIs (fun u d => ∃ v, RelV v u ∧ Is P w H d v) us ds → ∃ vs, Vals vs us ∧ IsL P w H ds vs
  | _, _, .nil => ⟨[], .nil, rfl⟩
  | _, _, .cons ⟨v, r, i⟩ t => by
    obtain ⟨vs, h1, h2⟩ := each_vals t
    exact ⟨v :: vs, .cons r h1, v, vs, rfl, i, h2⟩
section
variable {X : Cx}
/-- what sorted(..) leaves, put into the abstract heap -/
theorem sorted_laid {pins : List (Addr × Obj)} {σ : L2.St} {C H : Hp} {s s2 : Shared} {p : Addr} {out : Array Value} {c : Nat} {ds : List Dt} {Q : VK} (I : Inv X pins σ H s) (k : ∀ b o, s.heap.get? b = some o → s2.heap.get? b = some o) (hg : s2.gens = s.gens) (ho : s2.os = s.os)
    (hp : s.heap.get? p = none) (e : s2.heap.get? p = some (seqObj "list" out c)) (hz : ds.length ≤ sizeLine) (ev : PySem.W.EachIs (fun u d => ∃ v, RelV v u ∧ Is X.prog X.w C d v) out.toList ds)
    (q : ∀ q us, H q = none → IsL X.prog X.w C ds us → Q (.ref q) (upd H q (.lst us))) : ∃ x H1, Inv X pins σ H1 s2 ∧ RelV x (.ref p) ∧ Q x H1 := by
  obtain ⟨us, rv, il⟩ := each_vals ev
  have hn : H p = none := I.hok.gone hp
  have hl : us.length ≤ sizeLine := by rw [il.len]; exact hz
  have J : Inv X pins σ (upd H p (.lst us)) { s with heap := s2.heap, gens := s2.gens, drawn := s2.drawn, toks := s2.toks } :=
    I.call (ch := []) (Un.laidN k hp hn) (I.hok.laidN k hn ⟨hl, out.toList, c, rv, by rw [Array.toArray_toList]; exact e⟩) (by rw [hg]; exact I.bare) (fun _ z => nomatch z)
  have e2 : s2 = { s with heap := s2.heap, gens := s2.gens, drawn := s2.drawn, toks := s2.toks } := by
    cases s2
    cases s
    cases ho
    rfl
  rw [e2]
  exact ⟨.ref p, _, J, rfl, q p us hn il⟩
theorem call_sorted_nd (hc : X.calm = true) (hu : X.A.units + 64 < cLine) : CallR X (.builtin "sorted") (fun xs H Q => ∃ C d o nes ks, xs = [V.ref d] ∧ Le C H ∧ H d = some (.frz o (ndO X.prog X.w d nes)) ∧ IsK X.prog X.w C ks nes ∧ PySem.W.AllAlike (ks.map py) ∧ (∀ k ∈ ks, (∃ xs, k = .tup xs) ∧ tpl k 8 = true) ∧
    ∀ q us, H q = none → IsL X.prog X.w C (srtD ks) us → Q (.ref q) (upd H q (.lst us))) := by
  intro pins s σ H xs us Q I r ⟨C, d, o, nes, ks, ex, lc, hd, hk, hal, ht, q⟩
  subst ex
  obtain ⟨u, rfl, rx⟩ := r.one
  cases rx
  obtain ⟨ho, ⟨⟨h1, h2, h3, o', es, ep, ho', hx, hod, hen⟩, _, _⟩⟩ := I.hok d _ hd
  rw [ho] at ho'
  cases ho'
  have hsz : es.size = nes.length := by rw [← Array.length_toList, hen, List.length_map]
  have raw : s.heap.DictRaw d es ep := ⟨o, ho, hx, hod⟩
  have hkl := hk.len
  refine sorted_coll (Pe := fun es => es = ks) (ds := ks) (Rel := fun u d => ∃ v, RelV v u ∧ Is X.prog X.w C d v) (fun R hR => ?_) (fun h' k u d ⟨v, rv, i⟩ hm => ?_) hal (fun d hm => (ht d hm).1) (by omega) (fun d hm => ?_) fun s2 p es2 out c k g os hp e pm pe ev => ?_
  · refine collect_src (PySem.KdlSrc.rawDict (es := es) (ep := ep) h2) (I.ok.hd hc) raw (show es.size ≤ sizeLine from by rw [hsz]; exact h1) fun h' tk acc k hi => ?_
    refine hR { s with heap := h', toks := tk } acc.toList ks k rfl rfl (List.Perm.refl _) rfl (each_at (by rw [Array.length_toList, hi.1, hsz, hkl]) fun i u e hu' he => ?_)
    · obtain ⟨hi2, rfl⟩ := hi.2 i u (by rw [← Array.getElem?_toList]; exact hu')
      have hin : i < nes.length := by omega
      have e1 : es[i] = entryOfKey (nestedKind X.prog X.w) nes[i] := by
        have e2 : es.toList[i]? = (nes.map (entryOfKey (nestedKind X.prog X.w)))[i]? := by rw [hen]
        rw [Array.getElem?_toList, Array.getElem?_eq_getElem hi2, List.getElem?_map, List.getElem?_eq_getElem hin] at e2
        exact Option.some.inj e2
      obtain ⟨dd, g1, g2, g3⟩ := hk.get (List.getElem?_eq_getElem hin)
      rw [he] at g1
      cases g1
      exact ⟨.ref nes[i].2.1, by rw [e1]; rfl, g3⟩
  · exact Is.rds lc (I.hok.kept k) d 8 v u (ht d hm).2 i rv
  · have := tpl_depth d 8 (ht d hm).2
    omega
  · subst pe
    exact sorted_laid I k g os hp e (by rw [(srtD_perm es2).length_eq]; omega) ev q
/-- sorted(set(l)), l a list of at most four rows -/
def tSortSet (X : Cx) (ta : TE) : TE := fun σ H Q => ta σ H fun x H1 => ∃ (C : Hp) (l : Addr) (us : List V) (rs : List Row), x = V.ref l ∧ Le C H1 ∧ SqL X.K H1 l us ∧ IsL X.prog X.w C (rs.map rT) us ∧ rs.length ≤ 4 ∧
  ∀ q us, H1 q = none → IsL X.prog X.w C ((rowSet rs).map rT) us → Q (.ref q) (upd H1 q (.lst us))
theorem rows_keys {P : Program} {w : World} {C H : Hp} {h : Heap} (lc : Le C H) (ok : HOk P w H h) : ∀ {rs : List Row} {vs : List V} {us : List Value}, IsL P w C (rs.map rT) vs → Vals vs us → ∃ ks : List KA, us = ks.map (fun p => Value.ref p.1) ∧ PySem.W.EachIs (fun (p : KA) r => p.2 = nk (rT r) ∧ Is P w C (rT r) (.ref p.1) ∧ KIs P w h p.2 p.1) ks rs
  | [], vs, us, i, r => by
    rw [show vs = [] from i] at r
    cases r
    exact ⟨[], rfl, .nil⟩
  | x :: rs, vs, us, i, r => by
    obtain ⟨v, rr, rfl, i1, i2⟩ := i
    cases r with
    | cons r1 r2 =>
      obtain ⟨ks, e, ev⟩ := rows_keys lc ok i2 r2
      have nn := Is.nest lc ok (rT x) 8 v _ (kOk_row x 8 (by decide)) i1 r1
      obtain ⟨a, vs2, rfl, e2, q⟩ := id i1
      cases r1
      exact ⟨(a, nk (rT x)) :: ks, by rw [e]; rfl, .cons ⟨rfl, i1, nn, kOk_depth _ _ (kOk_row x 8 (by decide))⟩ ev⟩
theorem pe_sortSet {e : Expr} {ta : TE} {p p2 q pos : Pos} (hc : X.calm = true) (hu : X.A.units + 64 < cLine) (hg : Gl X "sorted") (hm : X.mg "sorted" = none) (hg2 : Gl X "set") (hm2 : X.mg "set" = none) (ha : PE X e ta)
    (na : starEach [e] X.env = (false, eval e X.env) :: starEach [] X.env := by rfl) : PE X (.Call (.Name "sorted" p) [.Call (.Name "set" p2) [e] [] q] [] pos) (tSortSet X ta) := by
  refine ⟨fun pins s σ H Q I h => ?_⟩
  refine Call_ (ld_blt I hg hm boot_sorted ?_)
  refine PyProof.Rows.callWith_builtin1 (PyProof.Rows.args_cons ?_ rfl) rfl rfl
  refine Call_ (ld_blt I hg2 hm2 PyProof.Rows.boot_set ?_)
  refine PyProof.Rows.callWith_type1 (PyProof.Rows.args_cons (thn (ha.run pins s σ H _ I h) fun v s1 ⟨x, H1, I1, r1, q1⟩ => PyProof.Rows.args_nil ?_) na) na rfl
  obtain ⟨C, l, us, rs, rfl, lc, hq, il, h4, q1⟩ := q1
  cases r1
  obtain ⟨its, r, pl, hz⟩ := I1.list hq
  obtain ⟨ks, ek, ev⟩ := rows_keys lc I1.hok il r
  have hlk : ks.length = rs.length := ev.length
  refine call_set_keys (P := X.prog) (w := X.w) ks (I1.ok.hd hc) pl.isList (by simpa using ek) (fun p hp => ?_) (by omega) (by omega) fun h' tk L es ep t R g k => ?_
  · obtain ⟨r, _, z⟩ := ev.left p hp
    exact z.2.2
  refine PyProof.Rows.args_nil ?_
  have I2 : Inv X pins σ H1 { s1 with heap := h', toks := tk } := I1.kept fun b o e => k b o e
  -- the rows that the set holds
  have one : ∃ rl : List Row, PySem.W.EachIs (fun (p : KA) r => p.2 = nk (rT r) ∧ Is X.prog X.w C (rT r) (.ref p.1) ∧ r ∈ rs) L rl := by
    have go : ∀ L : List KA, (∀ p ∈ L, p ∈ ks) → ∃ rl : List Row, PySem.W.EachIs (fun (p : KA) r => p.2 = nk (rT r) ∧ Is X.prog X.w C (rT r) (.ref p.1) ∧ r ∈ rs) L rl := by
      intro L
      induction L with
      | nil => exact fun _ => ⟨[], .nil⟩
      | cons p L ih =>
        intro hp
        obtain ⟨rl, e⟩ := ih fun x hx => hp x (List.mem_cons_of_mem _ hx)
        obtain ⟨r, hr, z1, z2, _⟩ := ev.left p (hp p List.mem_cons_self)
        exact ⟨r :: rl, .cons ⟨z1, z2, hr⟩ e⟩
    exact go L fun p hp => List.mem_of_mem_take (g.sub p hp)
  obtain ⟨rl, el⟩ := one
  have mapk : ∀ {L : List KA} {rl : List Row}, PySem.W.EachIs (fun (p : KA) r => p.2 = nk (rT r) ∧ Is X.prog X.w C (rT r) (.ref p.1) ∧ r ∈ rs) L rl → L.map (·.2) = rl.map fun r => nk (rT r) := by
    intro L rl e
    induction e with
    | nil => rfl
    | cons h1 _ ih => rw [List.map_cons, List.map_cons, ih, h1.1]
  have nkr : ∀ {a b : Row}, nk (rT a) = nk (rT b) → a = b := fun e => rT_inj (nk_inj _ _ (kd_row _) (kd_row _) e)
  have ndr : rl.Nodup := by
    have := R.nd
    rw [mapk el] at this
    exact List.Pairwise.of_map _ (fun a b hne e => hne (by rw [e])) this
  have memr : ∀ r, r ∈ rl ↔ r ∈ rs := fun r => by
    constructor
    · intro hr
      have go : ∀ {L : List KA} {rl : List Row}, PySem.W.EachIs (fun (p : KA) r => p.2 = nk (rT r) ∧ Is X.prog X.w C (rT r) (.ref p.1) ∧ r ∈ rs) L rl → ∀ r ∈ rl, r ∈ rs := by
        intro L rl e
        induction e with
        | nil => exact fun r h => absurd h (by simp)
        | cons h1 _ ih => exact fun r h => (List.mem_cons.mp h).elim (fun z => by rw [z]; exact h1.2.2) (ih r)
      exact go el r hr
    · intro hr
      have go : ∀ {ks : List KA} {rs : List Row}, PySem.W.EachIs (fun (p : KA) r => p.2 = nk (rT r) ∧ Is X.prog X.w C (rT r) (.ref p.1) ∧ KIs X.prog X.w s1.heap p.2 p.1) ks rs → ∀ r ∈ rs, ∃ p ∈ ks, p.2 = nk (rT r) := by
        intro ks rs e
        induction e with
        | nil => exact fun r h => absurd h (by simp)
        | cons h1 _ ih =>
          intro r h
          rcases List.mem_cons.mp h with z | z
          · exact ⟨_, List.mem_cons_self, by rw [z]; exact h1.1⟩
          · obtain ⟨p, hp, e⟩ := ih r z
            exact ⟨p, List.mem_cons_of_mem _ hp, e⟩
      obtain ⟨p, hp, e⟩ := go ev r hr
      have := g.all p (by rw [List.take_length]; exact hp)
      rw [mapk el, e] at this
      obtain ⟨r', h1, h2⟩ := List.mem_map.mp this
      rw [← nkr h2]; exact h1
  have elD : PySem.W.EachIs (fun u d => ∃ v, RelV v u ∧ Is X.prog X.w C d v) (L.map fun p => Value.ref p.1) (rl.map rT) := by
    clear ndr memr R g
    induction el with
    | nil => exact .nil
    | cons h1 _ ih => exact .cons ⟨.ref _, rfl, h1.2.1⟩ ih
  have hlL : rl.length ≤ 4 := by rw [← el.length]; exact R.few
  obtain ⟨o, ho, hex, hd⟩ := R.ob
  refine sorted_coll (s := { s1 with heap := h', toks := tk }) (Pe := fun _ => True) (ds := rl.map rT) (Rel := fun u d => ∃ v, RelV v u ∧ Is X.prog X.w C d v) (fun R2 hR => ?_) (fun h2 k2 u d ⟨v, rv, i⟩ hm => ?_) (alike_rows rl) (fun d hm => ?_) (by rw [List.length_map, sizeLine_eq]; omega) (fun d hm => ?_) fun s2 p es2 out c k2 g2 os hp e pm _ ev2 => ?_
  · refine collect_set (I1.ok.hd hc) ⟨o, ho, hex.1, hd⟩ R.fits (by rw [R.size]; have := R.few; unfold scanBound; omega) R.tab.ris R.led fun s2 vs k2 hz2 g2 o2 pm => ?_
    have hes : es.toList.map (·.2) = L.map fun p => Value.ref p.1 := by
      rw [R.rows]
      unfold rowsK
      rw [List.map_map] <;> rfl
    rw [hes] at pm
    obtain ⟨ds2, d1, d2⟩ := each_perm pm elD
    exact hR s2 vs ds2 k2 g2 o2 d2 trivial d1
  · obtain ⟨r, _, rfl⟩ := List.mem_map.mp hm
    exact Is.rds lc (I2.hok.kept k2) _ 8 v u (tpl_row r) i rv
  · obtain ⟨r, _, rfl⟩ := List.mem_map.mp hm
    exact ⟨_, rfl⟩
  · obtain ⟨r, _, rfl⟩ := List.mem_map.mp hm
    have := tpl_depth _ 8 (tpl_row r)
    omega
  · obtain ⟨rl2, hp2, rfl⟩ : ∃ rl2 : List Row, rl2.Perm rl ∧ es2 = rl2.map rT := by
      have go : ∀ {es2 ds : List Dt}, es2.Perm ds → ∀ {rl : List Row}, ds = rl.map rT → ∃ rl2 : List Row, rl2.Perm rl ∧ es2 = rl2.map rT := by
        intro es2 ds pm
        induction pm with
        | nil => exact fun {rl} e => ⟨rl, List.Perm.refl _, e⟩
        | @cons x l1 l2 _ ih =>
          intro rl e
          cases rl with
          | nil => cases e
          | cons r rl =>
            obtain ⟨e1, e2⟩ := List.cons.inj e
            obtain ⟨r2, p2, e3⟩ := ih e2
            exact ⟨r :: r2, p2.cons r, by rw [e1, e3]; rfl⟩
        | @swap x y l =>
          intro rl e
          match rl, e with
          | r :: r' :: rl, e =>
            obtain ⟨e1, e2⟩ := List.cons.inj e
            obtain ⟨e2, e3⟩ := List.cons.inj e2
            exact ⟨r' :: r :: rl, List.Perm.swap .., by rw [e1, e2, e3]; rfl⟩
        | trans _ _ ih1 ih2 =>
          intro rl e
          obtain ⟨r2, p2, e2⟩ := ih2 e
          obtain ⟨r3, p3, e3⟩ := ih1 e2
          exact ⟨r3, p3.trans p2, e3⟩
      exact go pm rfl
    have e3 : srtD (rl2.map rT) = (rowSet rs).map rT := by
      rw [srtD_rows, rowSort_canon hp2, rowSet_of ndr memr]
    rw [e3] at ev2
    exact sorted_laid I2 k2 g2 os hp e (by rw [List.length_map, sizeLine_eq]; have := rowSet_len rs; omega) ev2 q1
end
end K66
set_option maxHeartbeats 4000000
namespace K66
variable [TabAt]
open PySem PySem.Spec PyProof.Rows L2
section
variable {X : Cx} {ds : List Sl} {a e : Expr} {p p2 q2 pos : Pos}
/-- sorted(set(l)) -/
theorem EvD.sortSet {rs : List Row} (hc : X.calm = true) (hu : X.A.units + 64 < cLine) (ha : EvD X a ds (.lst (rs.map rT))) (h4 : rs.length ≤ 4) (hm : X.mg "sorted" = none) (hm2 : X.mg "set" = none) (hg : Gl X "sorted" := by rfl) (hg2 : Gl X "set" := by rfl)
    (na : starEach [a] X.env = (false, eval a X.env) :: starEach [] X.env := by rfl) : EvD X (.Call (.Name "sorted" p) [.Call (.Name "set" p2) [a] [] q2] [] pos) ds (.lst ((rowSet rs).map rT)) := fun C H σ S Q q =>
  peW (pe_sortSet hc hu hg hm hg2 hm2 wpE.pe na) (ha C H σ S _ fun v C1 H1 x1 i1 => by
    obtain ⟨l, us, rfl, r1, j1⟩ := i1
    refine ⟨C1, l, us, rs, rfl, x1.le', .inl (.inl (x1.le'.ex _ _ r1)), j1, h4, fun q1 us2 hq j2 => ?_⟩
    exact q _ (upd C1 q1 (.lst us2)) _ (x1.trans (.new x1.le' hq)) ⟨q1, us2, rfl, upd_same, IsL.mono (.new (x1.le'.dom q1 hq)) _ _ j2⟩)
/-- sorted(d), d's keys tuples that are alike -/
theorem EvD.sortN {ks xs : List Dt} (hc : X.calm = true) (hu : X.A.units + 64 < cLine) (ha : EvD X a ds (.nd ks xs)) (hal : PySem.W.AllAlike (ks.map py)) (ht : ∀ k ∈ ks, (∃ xs, k = .tup xs) ∧ tpl k 8 = true) (hm : X.mg "sorted" = none) (hg : Gl X "sorted" := by rfl)
    (hst : starEach [a] X.env = (false, eval a X.env) :: starEach [] X.env := by rfl) : EvD X (.Call (.Name "sorted" p) [a] [] pos) ds (.lst (srtD ks)) :=
  .callB (call_sorted_nd hc hu) hm (by decide +kernel) (.cons ha .nil hst) (fun C H vs l i Q q => by
    obtain ⟨v, rfl, i1⟩ := IsL.one' i
    obtain ⟨d, o, nes, us, rfl, r1, k1, v1, j1⟩ := i1
    refine ⟨C, d, o, nes, ks, rfl, l, l.ex _ _ r1, k1, hal, ht, fun q1 us2 hq j2 => ?_⟩
    exact q _ (upd C q1 (.lst us2)) _ (.new l hq) ⟨q1, us2, rfl, upd_same, IsL.mono (.new (l.dom q1 hq)) _ _ j2⟩) hg (hst := hst)
end
/-- a hand's row in a picture -/
def rowAt (R : Rows) (h : Str) : Row := (alGet R h).getD []
def colOf (B : List Rows) (h : Str) : List Row := B.map fun R => rowAt R h
def rbh (hs : List Str) (B : List Rows) : List (Str × List Row) := hs.map fun h => (h, rowSet (colOf B h))
def rsL (rs : List Row) : Dt := .lst (rs.map rT)
theorem rowAt_get {R : Rows} {h : Str} (hh : h ∈ hands R) : alGet R h = some (rowAt R h) := by
  have : alHas R h = true := alHas_iff.mpr hh
  rw [← alGet_has] at this
  obtain ⟨x, hx⟩ := Option.isSome_iff_exists.mp this
  unfold rowAt
  rw [hx]; rfl
theorem map_take_put {β : Type} {f : Str → β} {hs : List Str} (hn : hs.Nodup) {i : Nat} {h : Str} (e : hs[i]? = some h) : alPut ((hs.take i).map fun x => (x, f x)) h (f h) = (hs.take (i + 1)).map fun x => (x, f x) := by
  have hi := (List.getElem?_eq_some_iff.mp e).1
  rw [alPut_new, List.take_add_one, e, List.map_append]
  · rfl
  · rw [List.map_map]
    intro hm
    obtain ⟨q, hq1, hq2⟩ := List.mem_map.mp hm
    have hq2 : q = h := hq2
    subst hq2
    obtain ⟨j, hj, hj2⟩ := List.getElem_of_mem hq1
    rw [List.length_take] at hj
    rw [List.getElem_take] at hj2
    obtain ⟨_, e3⟩ := List.getElem?_eq_some_iff.mp e
    have := (List.getElem_inj hn).mp (hj2.trans e3.symm)
    omega
theorem Bk'.hsnd {hs : List Str} {B : List Rows} (h : Bk' hs B) : hs.Nodup ∧ hs.length ≤ 4 := by
  obtain ⟨R, _, hP, rfl⟩ := h.head
  exact ⟨hP.nd, by have := hP.few; unfold hands; rw [List.length_map]; exact this⟩
section
variable {P : Program} {w : World} {K : PySem.W.Frag} {mg : Str → Option Value} {base : Heap}
def p_rbh (K : PySem.W.Frag) : List Dt → Dt → Prop := fun as r => ∃ (hs : List Str) (B : List Rows), as = [bookD K B] ∧ Bk' hs B ∧ B.length ≤ 4 ∧ r = sD rsL (rbh hs B)
theorem ok_rbh (T : Txt K mg) : OkD P w K mg base d_rows_by_hand 3 ["book"] (spD P w (p_rbh K)) := by
  have nd : (["book", "found", "hand", "one"] : List Str).Nodup := by decide +kernel
  refine okD_pure (N := ["book", "found", "hand", "one"]) T.n_rows_by_hand ⟨rfl, rfl, rfl, by decide +kernel, rfl, by decide +kernel, by decide +kernel⟩ (fun _ _ _ _ _ _ us hl => match us, hl with | [_], _ => rfl) ?_
  rintro as r ⟨hs, B, rfl, hB, h4, rfl⟩
  refine ⟨rfl, fun cdv A outer sh H E hr => ?_⟩
  have hu : (PX P w K mg base ["book", "found", "hand", "one"] d_rows_by_hand cdv A outer sh H E).A.units + 64 < cLine := hr.units
  obtain ⟨hnd, hl4⟩ := hB.hsnd
  refine .cons (.asg 1 nd (s := sO rsL ([] : List (Str × List Row))) .newK ?_)
  refine .cons (.loopT (enc := Dt.str) (ys := hs) (fun i ds1 => ∃ a b, ds1 = [.d (bookD K B), sO rsL ((hs.take i).map fun h => (h, rowSet (colOf B h))), a, b]) rfl (.lst (.meth0 (f := "own_pictures") (d := .tup (B.map (picD K))) (z := .lst (hs.map .str)) (ok_Bhands T) (.var 0 rfl) (He.cls_ok T.cls_Book) (He.meth_ok T.meth_Book_hands) (hr.mono (by decide)) ⟨hs, B, rfl, hB, rfl⟩)) ⟨_, _, rfl⟩ ?_ ?_)
  · rintro i h ds1 hh ⟨a, b, rfl⟩
    have hm := List.mem_of_getElem? hh
    refine ⟨[2], _, .name 2 nd, .cons (.putK (k := .inr h) (d := rsL (rowSet (colOf B h))) 1 hu rfl (.sortSet (rs := colOf B h) rfl hu ?_ (by unfold colOf; rw [List.length_map]; exact h4) T.f_sorted T.f_set) (.var 2 rfl) ?_ ?_)⟩
    · refine .cast (.lcm (enc := picD K) (ys := B) (g := fun R => rT (rowAt R h)) (own := [("one", 3)]) rfl nd (.tup (.fld (.var 0 rfl) (He.cls_ok T.cls_Book) (He.noat_ok T.noat_Book_own_pictures))) (blk_of rfl) (by omega) fun R hR => ⟨_, [3], by simp, fun s H C cl fp => .name 3 nd, fun s H C cl fp => .getS (e := rT) (l := R) hu (.fld (.var 3 rfl) (He.cls_ok T.cls_Picture) (He.noat_ok T.noat_Picture_own_rows)) (.var 2 rfl) (rowAt_get (by rw [hB.hnd R hR]; exact hm))⟩) ?_
      unfold colOf
      rw [List.map_map]
      rfl
    · rw [List.length_map, List.length_map, List.length_take]; omega
    · refine .nil ⟨.d (.str h), b, ?_⟩
      have h6 := sO_put (e := rsL) (l := (hs.take i).map fun h => (h, rowSet (colOf B h))) (q := h) (c := rowSet (colOf B h))
      rw [map_take_put (f := fun h => rowSet (colOf B h)) hnd hh] at h6
      rw [← h6]
      rfl
  rintro ds' ⟨a, b, rfl⟩
  rw [List.take_length]
  refine .rel 1 (dd := sD rsL (rbh hs B)) rfl ?_
  exact .cons (.ret (.var 1 rfl) rfl)
end
end K66
set_option maxHeartbeats 4000000
namespace K66
variable [TabAt]
open PySem PySem.Spec PyProof.Rows L2
def numsWith (B : List Rows) (h : Str) (r : Row) : List Nat := B.zipIdx.filterMap fun p => if decide ((rowAt p.1 h).take r.length = r) = true then some p.2 else none
def alikeTo (B : List Rows) (h : Str) (r : Row) : List Nat := B.zipIdx.filterMap fun p => if decide (rowAt p.1 h = r) = true then some p.2 else none
theorem rowAt_mem {R : Rows} {h : Str} (hh : h ∈ hands R) : (h, rowAt R h) ∈ R := by
  induction R with
  | nil => simp [hands] at hh
  | cons p R ih =>
    unfold rowAt alGet
    by_cases e : p.1 = h
    · rw [if_pos e]
      subst e
      exact List.mem_cons_self
    · rw [if_neg e]
      refine List.mem_cons_of_mem _ (ih ?_)
      rcases List.mem_cons.mp (show h ∈ p.1 :: hands R from hh) with z | z
      · exact absurd z.symm e
      · exact z
theorem Pic.at_ {R : Rows} (x : Pic R) {h : Str} (hh : h ∈ hands R) : rowNm (rowAt R h) = true ∧ (rowAt R h).length ≤ 1000 := ⟨rowNm_of (x.row (rowAt_mem hh)).2.1, (x.row (rowAt_mem hh)).2.2⟩
theorem Bk'.at_ {hs : List Str} {B : List Rows} (x : Bk' hs B) {R : Rows} (hR : R ∈ B) {h : Str} (hh : h ∈ hs) : rowNm (rowAt R h) = true ∧ (rowAt R h).length ≤ 1000 ∧ h ∈ hands R := by
  have hh' : h ∈ hands R := by rw [x.hnd R hR]; exact hh
  exact ⟨((x.pic R hR).at_ hh').1, ((x.pic R hR).at_ hh').2, hh'⟩
theorem rowNm_take {r : Row} (h : rowNm r = true) (n : Nat) : rowNm (r.take n) = true := by
  unfold rowNm at h ⊢
  rw [List.all_eq_true] at h ⊢
  exact fun d hd => h d (List.mem_of_mem_take hd)
theorem plnL_row {r : Row} (h : rowNm r = true) (n : Nat) (hn : n ≠ 0) : plnL (r.map dD) n = true := by
  induction r with
  | nil => rfl
  | cons d r ih =>
    unfold rowNm at h
    rw [List.all_cons, Bool.and_eq_true] at h
    obtain ⟨h1, h2⟩ := Bool.and_eq_true_iff.mp h.1
    show (pln (dD d) n && plnL (r.map dD) n) = true
    rw [ih h.2]
    show ((decide (n ≠ 0) && (PyData.strOk (kS d.1) && (PyData.strOk d.2.1 && (PyData.strOk d.2.2 && true)))) && true) = true
    rw [kS_str, nm_str h1, nm_str h2, decide_eq_true hn]; rfl
theorem pln_rT {r : Row} (h : rowNm r = true) : pln (rT r) 20 = true := by
  show (decide ((20 : Nat) ≠ 0) && plnL (r.map dD) 19) = true
  rw [plnL_row h 19 (by decide)]; rfl
theorem pln_rL {r : Row} (h : rowNm r = true) : pln (rL r) 20 = true := by
  show (decide ((20 : Nat) ≠ 0) && plnL (r.map dD) 19) = true
  rw [plnL_row h 19 (by decide)]; rfl
theorem mem_idx {α : Type} {l : List α} {p : α × Nat} (h : p ∈ l.zipIdx) : p.1 ∈ l ∧ l[p.2]? = some p.1 := by
  obtain ⟨i, hi, e⟩ := List.getElem_of_mem h
  rw [List.getElem_zipIdx] at e
  rw [List.length_zipIdx] at hi
  subst e
  simp only [Nat.zero_add]
  exact ⟨List.getElem_mem _, List.getElem?_eq_getElem hi⟩
theorem nums_eq {B : List Rows} {c : Rows × Nat → Bool} : (B.zipIdx.filterMap fun p => if c p = true then some p.2 else none).map intD = B.zipIdx.filterMap fun p => if c p = true then some (intD p.2) else none := by
  rw [List.map_filterMap]
  congr 1
  funext p
  split <;> rfl
section
variable {P : Program} {w : World} {K : PySem.W.Frag} {mg : Str → Option Value} {base : Heap}
def p_nums (K : PySem.W.Frag) : List Dt → Dt → Prop := fun as r => ∃ (hs : List Str) (B : List Rows) (h : Str) (rr : Row), as = [bookD K B, .str h, rT rr] ∧ Bk' hs B ∧ h ∈ hs ∧ rowNm rr = true ∧ r = .lst ((numsWith B h rr).map intD)
theorem ok_nums (T : Txt K mg) : OkD P w K mg base d_numbers_with 1 ["book", "hand", "row"] (spD P w (p_nums K)) := by
  have nd : (["book", "hand", "row", "size", "number", "near"] : List Str).Nodup := by decide +kernel
  refine okD_pure (N := ["book", "hand", "row", "size", "number", "near"]) T.n_numbers_with ⟨rfl, rfl, rfl, by decide +kernel, rfl, by decide +kernel, by decide +kernel⟩ (fun _ _ _ _ _ _ us hl => match us, hl with | [_, _, _], _ => rfl) ?_
  rintro as r ⟨hs, B, h, rr, rfl, hB, hh, hrr, rfl⟩
  refine ⟨rfl, fun cdv A outer sh H E hr => ?_⟩
  have hu : (PX P w K mg base ["book", "hand", "row", "size", "number", "near"] d_numbers_with cdv A outer sh H E).A.units + 64 < cLine := hr.units
  have hfew := hB.few
  refine .cons (.asg 3 nd (.of (.lenT (xs := rr.map dD) (.var 2 rfl) T.f_len)) ?_)
  unfold numsWith
  rw [nums_eq]
  refine .cons (.ret (.lcf (enc := fun p : Rows × Nat => .tup [.int (p.2 : Nat), picD K p.1]) (own := [("number", 4), ("near", 5)]) rfl nd ?_ (blk_of rfl) (by rw [List.length_zipIdx]; omega) fun p hp => ?_) rfl)
  · rw [← enumD_map]
    exact .enumT (.fld (.var 0 rfl) (He.cls_ok T.cls_Book) (He.noat_ok T.noat_Book_own_pictures)) T.f_enumerate
  · obtain ⟨hR, _⟩ := mem_idx hp
    obtain ⟨a1, a2, a3⟩ := hB.at_ hR hh
    refine ⟨_, _, ?_, fun s H C cl fp => .tup rfl (.cons (.name 4 nd) (.cons (.name 5 nd) .nil)), fun s H C cl fp => ?_, fun d hd s H C cl fp => ?_⟩
    · decide
    · refine .one (.cmp (.cast (.eq (x := rT ((rowAt p.1 h).take rr.length)) (y := rT rr) (k := decide ((rowAt p.1 h).take rr.length = rr)) hu (.cast (.headT (xs := (rowAt p.1 h).map dD) (n := rr.length) (.getS (e := rT) (l := p.1) hu (.fld (.var 5 rfl) (He.cls_ok T.cls_Picture) (He.noat_ok T.noat_Picture_own_rows)) (.var 1 rfl) (rowAt_get a3)) (.cast (.var 3 rfl) ?_)) ?_) (.var 2 rfl) (pln_rT (rowNm_take a1 _)) (pln_rT hrr) ?_) ?_))
      · rw [List.length_map]
      · unfold rT; rw [List.map_take]
      · rw [decide_eq_true_eq]
        exact ⟨fun e => by rw [e], rT_inj⟩
      · cases decide ((rowAt p.1 h).take rr.length = rr) <;> rfl
    · cases e : decide ((rowAt p.1 h).take rr.length = rr) with
      | false => rw [e] at hd; cases hd
      | true =>
        rw [e] at hd
        cases hd
        exact .var 4 rfl
def begun (B : List Rows) (h : Str) (r : Row) : Bool := (rowSet (colOf B h)).any fun x => decide (x.take r.length = r)
theorem rbh_get {hs : List Str} {B : List Rows} {h : Str} (hn : hs.Nodup) (hh : h ∈ hs) : alGet (rbh hs B) h = some (rowSet (colOf B h)) := by
  have : (h, rowSet (colOf B h)) ∈ rbh hs B := List.mem_map.mpr ⟨h, hh, rfl⟩
  exact alGet_nodup (l := rbh hs B) (by unfold rbh; rw [List.map_map]; exact (List.map_id hs).symm ▸ hn) this
theorem col_nm {hs : List Str} {B : List Rows} (hB : Bk' hs B) {h : Str} (hh : h ∈ hs) {x : Row} (hx : x ∈ rowSet (colOf B h)) : rowNm x = true ∧ x.length ≤ 1000 := by
  obtain ⟨R, hR, rfl⟩ := List.mem_map.mp (mem_rowSet.mp hx)
  exact ⟨(hB.at_ hR hh).1, (hB.at_ hR hh).2.1⟩
theorem rowSet_few {B : List Rows} {h : Str} : (rowSet (colOf B h)).length ≤ B.length := by
  have := rowSet_len (colOf B h)
  unfold colOf at this
  rw [List.length_map] at this
  exact this
def p_begun (K : PySem.W.Frag) : List Dt → Dt → Prop := fun as r => ∃ (hs : List Str) (B : List Rows) (h : Str) (rr : Row), as = [bookD K B, .str h, rL rr] ∧ Bk' hs B ∧ B.length ≤ 4 ∧ h ∈ hs ∧ rowNm rr = true ∧ r = .bl (begun B h rr)
theorem ok_begun (T : Txt K mg) : OkD P w K mg base d_is_begun 4 ["book", "hand", "value"] (spD P w (p_begun K)) := by
  have nd : (["book", "hand", "value", "row"] : List Str).Nodup := by decide +kernel
  refine okD_pure (N := ["book", "hand", "value", "row"]) T.n_is_begun ⟨rfl, rfl, rfl, by decide +kernel, rfl, by decide +kernel, by decide +kernel⟩ (fun _ _ _ _ _ _ us hl => match us, hl with | [_, _, _], _ => rfl) ?_
  rintro as r ⟨hs, B, h, rr, rfl, hB, h4, hh, hrr, rfl⟩
  refine ⟨rfl, fun cdv A outer sh H E hr => ?_⟩
  have hu : (PX P w K mg base ["book", "hand", "value", "row"] d_is_begun cdv A outer sh H E).A.units + 64 < cLine := hr.units
  have hfew : (rowSet (colOf B h)).length ≤ B.length := rowSet_few
  refine .cons (.ifs (k := false) (.not (k := true) (.val (.call (ok_is_list T) T.g_is_list (hr.mono (by decide)) (.cons (.var 2 rfl) .nil) ⟨_, rfl, .inl rfl, rfl⟩))) (fun h => nomatch h) fun _ => .nil ?_)
  refine .cons (.ret (.anym (ys := rowSet (colOf B h)) (f := fun x => decide (x.take rr.length = rr)) rfl (.lcm (enc := rT) (ys := rowSet (colOf B h)) (own := [("row", 3)]) rfl nd (.lst (.getS (e := rsL) (l := rbh hs B) hu (.call (ok_rbh T) T.g_rows_by_hand hr (.cons (.var 0 rfl) .nil) ⟨hs, B, rfl, hB, h4, rfl⟩) (.var 1 rfl) (rbh_get hB.hsnd.1 hh))) (blk_of rfl) (by omega) fun x hx => ⟨_, [3], by simp, fun s H C cl fp => .name 3 nd, fun s H C cl fp => .cmp (.cast (.eq (x := rT (x.take rr.length)) (y := rT rr) (k := decide (x.take rr.length = rr)) hu (.cast (.headT (xs := x.map dD) (n := rr.length) (.var 3 rfl) (.cast (.lenL (xs := rr.map dD) (.var 2 rfl) T.f_len) ?_)) ?_) (.tupL (xs := rr.map dD) (.var 2 rfl) T.f_tuple) (pln_rT (rowNm_take (col_nm hB hh hx).1 _)) (pln_rT hrr) ?_) ?_)⟩) T.f_any) rfl)
  · rw [List.length_map]
  · unfold rT; rw [List.map_take]
  · rw [decide_eq_true_eq]
    exact ⟨fun e => by rw [e], rT_inj⟩
  · rfl
end
end K66
set_option maxHeartbeats 4000000
namespace K66
variable [TabAt]
open PySem PySem.Spec PyProof.Rows L2
def sureOk (B : List Rows) (h : Str) (r : Row) (m : Nat) : Bool := (numsWith B h (r.take m)).all fun i => decide (rowAt (B.getD i []) h = r)
/-- from how many deeds on the row is sure -/
def sureRow (B : List Rows) (h : Str) (r : Row) : Option Nat := (List.range (r.length + 1)).find? (sureOk B h r)
def sureOne (B : List Rows) (h : Str) (r : Row) (m : Nat) : Bool := decide ((numsWith B h (r.take m)).length = 1)
/-- .. the picture -/
def surePic (B : List Rows) (h : Str) (r : Row) : Option Nat := (List.range (r.length + 1)).find? (sureOne B h r)
theorem rT_take (r : Row) (i : Nat) : .tup ((r.map dD).take i) = rT (r.take i) := by
  unfold rT
  rw [List.map_take]
def optD : Option Nat → Dt
  | none => .non
  | some n => intD n
theorem numsWith_lt {B : List Rows} {h : Str} {r : Row} {i : Nat} (hi : i ∈ numsWith B h r) : ∃ R, B[i]? = some R ∧ (rowAt R h).take r.length = r := by
  obtain ⟨p, hp, e⟩ := List.mem_filterMap.mp hi
  split at e
  · rename_i hk
    cases e
    exact ⟨p.1, (mem_idx hp).2, of_decide_eq_true hk⟩
  · cases e
theorem numsWith_len {B : List Rows} {h : Str} {r : Row} : (numsWith B h r).length ≤ B.length := by
  have : (numsWith B h r).length ≤ B.zipIdx.length := List.length_filterMap_le ..
  rwa [List.length_zipIdx] at this
theorem find_range {c : Nat → Bool} {n m : Nat} (hm : m < n) (h : c m = true) (hb : ∀ j, j < m → c j = false) : (List.range n).find? c = some m := by
  rw [List.find?_eq_some_iff_getElem]
  refine ⟨h, m, by rw [List.length_range]; exact hm, List.getElem_range _, fun j hj => ?_⟩
  rw [List.getElem_range, hb j hj]; rfl
theorem find_range_no {c : Nat → Bool} {n : Nat} (hb : ∀ j, j < n → c j = false) : (List.range n).find? c = none := by
  rw [List.find?_eq_none]
  intro x hx
  rw [hb x (List.mem_range.mp hx)]
  exact Bool.false_ne_true
section
variable {P : Program} {w : World} {K : PySem.W.Frag} {mg : Str → Option Value} {base : Heap}
def p_poss (K : PySem.W.Frag) : List Dt → Dt → Prop := fun as r => ∃ (hs : List Str) (B : List Rows) (h : Str) (rr : Row), as = [bookD K B, .str h, rL rr] ∧ Bk' hs B ∧ B.length ≤ 4 ∧ h ∈ hs ∧ rowNm rr = true ∧ begun B h rr = true ∧ r = .lst ((numsWith B h rr).map intD)
theorem ok_poss (T : Txt K mg) : OkD P w K mg base d_possible_to 5 ["book", "hand", "row"] (spD P w (p_poss K)) := by
  refine okD_pure (N := ["book", "hand", "row"]) T.n_possible_to ⟨rfl, rfl, rfl, by decide +kernel, rfl, by decide +kernel, by decide +kernel⟩ (fun _ _ _ _ _ _ us hl => match us, hl with | [_, _, _], _ => rfl) ?_
  rintro as r ⟨hs, B, h, rr, rfl, hB, h4, hh, hrr, hbg, rfl⟩
  refine ⟨rfl, fun cdv A outer sh H E hr => ?_⟩
  refine .cons (.expr (.call (z := .non) (ok_want_hand T) T.g_want_hand (hr.mono (by decide)) (.cons (.meth0 (f := "own_pictures") (d := .tup (B.map (picD K))) (z := .lst (hs.map .str)) (ok_Bhands T) (.var 0 rfl) (He.cls_ok T.cls_Book) (He.meth_ok T.meth_Book_hands) (hr.mono (by decide)) ⟨hs, B, rfl, hB, rfl⟩) (.cons (.var 1 rfl) .nil)) ⟨hs, h, rfl, hh, rfl⟩) ?_)
  refine .cons (.ifs (k := false) (.not (k := true) (.val (.call (ok_begun T) T.g_is_begun hr (.cons (.var 0 rfl) (.cons (.var 1 rfl) (.cons (.var 2 rfl) .nil))) ⟨hs, B, h, rr, rfl, hB, h4, hh, hrr, by rw [hbg]⟩))) (fun h => nomatch h) fun _ => .nil ?_)
  exact .cons (.ret (.call (ok_nums T) T.g_numbers_with (hr.mono (by decide)) (.cons (.var 0 rfl) (.cons (.var 1 rfl) (.cons (.tupL (xs := rr.map dD) (.var 2 rfl) T.f_tuple) .nil))) ⟨hs, B, h, rr, rfl, hB, hh, hrr, rfl⟩) rfl)
def p_sureRow (K : PySem.W.Frag) : List Dt → Dt → Prop := fun as r => ∃ (hs : List Str) (B : List Rows) (n : Nat) (R : Rows) (h : Str), as = [bookD K B, .int (n : Nat), .str h] ∧ Bk' hs B ∧ B[n]? = some R ∧ h ∈ hs ∧ r = optD (sureRow B h (rowAt R h))
theorem ok_sureRow (T : Txt K mg) : OkD P w K mg base d_sure_of_row 6 ["book", "number", "hand"] (spD P w (p_sureRow K)) := by
  have nd : (["book", "number", "hand", "picture", "row", "many", "numbers", "other"] : List Str).Nodup := by decide +kernel
  refine okD_pure (N := ["book", "number", "hand", "picture", "row", "many", "numbers", "other"]) T.n_sure_of_row ⟨rfl, rfl, rfl, by decide +kernel, rfl, by decide +kernel, by decide +kernel⟩ (fun _ _ _ _ _ _ us hl => match us, hl with | [_, _, _], _ => rfl) ?_
  rintro as r ⟨hs, B, n, R, h, rfl, hB, hR, hh, rfl⟩
  refine ⟨rfl, fun cdv A outer sh H E hr => ?_⟩
  have hu : (PX P w K mg base ["book", "number", "hand", "picture", "row", "many", "numbers", "other"] d_sure_of_row cdv A outer sh H E).A.units + 64 < cLine := hr.units
  have hfew := hB.few
  have hRm := List.mem_of_getElem? hR
  obtain ⟨a1, a2, a3⟩ := hB.at_ hRm hh
  refine .cons (.asg 3 nd (.of (.subOwn (f := "own_pictures") (d := .tup (B.map (picD K))) (ix := .int (n : Nat)) (z := picD K R) T.n_Book_getitem (ok_Bget T) (.var 0 rfl) (.var 1 rfl) (He.meth_ok T.meth_Book_getitem) hr ⟨B, n, R, rfl, hR, rfl⟩)) ?_)
  refine .cons (.expr (.call (z := .non) (ok_want_hand T) T.g_want_hand (hr.mono (by decide)) (.cons (.meth0 (f := "own_pictures") (d := .tup (B.map (picD K))) (z := .lst (hs.map .str)) (ok_Bhands T) (.var 0 rfl) (He.cls_ok T.cls_Book) (He.meth_ok T.meth_Book_hands) (hr.mono (by decide)) ⟨hs, B, rfl, hB, rfl⟩) (.cons (.var 2 rfl) .nil)) ⟨hs, h, rfl, hh, rfl⟩) ?_)
  refine .cons (.asg 4 nd (.of (.getS (e := rT) (l := R) hu (.fld (.var 3 rfl) (He.cls_ok T.cls_Picture) (He.noat_ok T.noat_Picture_own_rows)) (.var 2 rfl) (rowAt_get a3))) ?_)
  refine .cons (.loopT (enc := intD) (ys := List.range ((rowAt R h).length + 1)) (fun i ds1 => (∀ j, j < i → sureOk B h (rowAt R h) j = false) ∧ ∃ a b, ds1 = [.d (bookD K B), .d (.int (n : Nat)), .d (.str h), .d (picD K R), .d (rT (rowAt R h)), a, b, .un]) rfl (.cast' (.rng1 (n := (rowAt R h).length + 1) (.cast (.add (.lenT (xs := (rowAt R h).map dD) (.var 4 rfl) T.f_len) .int) ?_) T.f_range (by omega)) rng0) ⟨fun j hj => absurd hj (Nat.not_lt_zero j), _, _, rfl⟩ ?_ ?_)
  · rw [List.length_map]; rfl
  · rintro i m ds1 hm ⟨hj, a, b, rfl⟩
    have hi : i < (rowAt R h).length + 1 := by have := (List.getElem?_eq_some_iff.mp hm).1; rwa [List.length_range] at this
    obtain rfl : i = m := by
      rw [List.getElem?_range hi] at hm
      exact Option.some.inj hm
    refine ⟨[5], _, .name 5 nd, .cons (.asg 6 nd (.of (.call (z := .lst ((numsWith B h ((rowAt R h).take i)).map intD)) (ok_nums T) T.g_numbers_with (hr.mono (by decide)) (.cons (.var 0 rfl) (.cons (.var 2 rfl) (.cons (.headT (xs := (rowAt R h).map dD) (n := i) (.var 4 rfl) (.var 5 rfl)) .nil))) ⟨hs, B, h, (rowAt R h).take i, by rw [← rT_take]; rfl, hB, hh, rowNm_take a1 _, rfl⟩)) ?_)⟩
    refine .cons (.ifs (k := sureOk B h (rowAt R h) i) (.val (.allm (ys := numsWith B h ((rowAt R h).take i)) (f := fun j => decide (rowAt (B.getD j []) h = rowAt R h)) rfl (.lcm (enc := intD) (own := [("other", 7)]) rfl nd (.lst (.var 6 rfl)) (blk_of rfl) (by have := numsWith_len (B := B) (h := h) (r := (rowAt R h).take i); omega) fun j hj => ⟨_, [7], by simp, fun s H C cl fp => .name 7 nd, fun s H C cl fp => ?_⟩) T.f_all)) (fun hk => .cons (.ret (.var 5 rfl) ?_)) fun hk => .nil (.nil ⟨fun j hj2 => ?_, _, _, rfl⟩))
    · obtain ⟨R2, hR2, _⟩ := numsWith_lt hj
      obtain ⟨b1, b2, b3⟩ := hB.at_ (List.mem_of_getElem? hR2) hh
      have eR : B.getD j [] = R2 := by rw [List.getD_eq_getElem?_getD, hR2]; rfl
      rw [eR]
      refine .cmp (.eq hu (.getS (e := rT) (l := R2) hu (.fld (.ixT (n := j) (xs := B.map (picD K)) (.fld (.var 0 rfl) (He.cls_ok T.cls_Book) (He.noat_ok T.noat_Book_own_pictures)) (.var 7 rfl) (by rw [List.getElem?_map, hR2]; rfl)) (He.cls_ok T.cls_Picture) (He.noat_ok T.noat_Picture_own_rows)) (.var 2 rfl) (rowAt_get b3)) (.var 4 rfl) (pln_rT b1) (pln_rT a1) ?_)
      rw [decide_eq_true_eq]
      exact ⟨fun e => by rw [e], rT_inj⟩
    · have : sureRow B h (rowAt R h) = some i := find_range hi hk hj
      rw [this]
      rfl
    · rcases Nat.lt_succ_iff_lt_or_eq.mp hj2 with z | z
      · exact hj j z
      · rw [z]; exact hk
  rintro ds' ⟨hj, a, b, rfl⟩
  rw [List.length_range] at hj
  have : sureRow B h (rowAt R h) = none := find_range_no hj
  rw [this]
  exact .cons (.ret .non rfl)
def p_surePic (K : PySem.W.Frag) : List Dt → Dt → Prop := fun as r => ∃ (hs : List Str) (B : List Rows) (n : Nat) (R : Rows) (h : Str), as = [bookD K B, .int (n : Nat), .str h] ∧ Bk' hs B ∧ B[n]? = some R ∧ h ∈ hs ∧ r = optD (surePic B h (rowAt R h))
theorem ok_surePic (T : Txt K mg) : OkD P w K mg base d_sure_of_picture 6 ["book", "number", "hand"] (spD P w (p_surePic K)) := by
  have nd : (["book", "number", "hand", "picture", "row", "many"] : List Str).Nodup := by decide +kernel
  refine okD_pure (N := ["book", "number", "hand", "picture", "row", "many"]) T.n_sure_of_picture ⟨rfl, rfl, rfl, by decide +kernel, rfl, by decide +kernel, by decide +kernel⟩ (fun _ _ _ _ _ _ us hl => match us, hl with | [_, _, _], _ => rfl) ?_
  rintro as r ⟨hs, B, n, R, h, rfl, hB, hR, hh, rfl⟩
  refine ⟨rfl, fun cdv A outer sh H E hr => ?_⟩
  have hu : (PX P w K mg base ["book", "number", "hand", "picture", "row", "many"] d_sure_of_picture cdv A outer sh H E).A.units + 64 < cLine := hr.units
  have hfew := hB.few
  have hRm := List.mem_of_getElem? hR
  obtain ⟨a1, a2, a3⟩ := hB.at_ hRm hh
  refine .cons (.asg 3 nd (.of (.subOwn (f := "own_pictures") (d := .tup (B.map (picD K))) (ix := .int (n : Nat)) (z := picD K R) T.n_Book_getitem (ok_Bget T) (.var 0 rfl) (.var 1 rfl) (He.meth_ok T.meth_Book_getitem) hr ⟨B, n, R, rfl, hR, rfl⟩)) ?_)
  refine .cons (.expr (.call (z := .non) (ok_want_hand T) T.g_want_hand (hr.mono (by decide)) (.cons (.meth0 (f := "own_pictures") (d := .tup (B.map (picD K))) (z := .lst (hs.map .str)) (ok_Bhands T) (.var 0 rfl) (He.cls_ok T.cls_Book) (He.meth_ok T.meth_Book_hands) (hr.mono (by decide)) ⟨hs, B, rfl, hB, rfl⟩) (.cons (.var 2 rfl) .nil)) ⟨hs, h, rfl, hh, rfl⟩) ?_)
  refine .cons (.asg 4 nd (.of (.getS (e := rT) (l := R) hu (.fld (.var 3 rfl) (He.cls_ok T.cls_Picture) (He.noat_ok T.noat_Picture_own_rows)) (.var 2 rfl) (rowAt_get a3))) ?_)
  refine .cons (.loopT (enc := intD) (ys := List.range ((rowAt R h).length + 1)) (fun i ds1 => (∀ j, j < i → sureOne B h (rowAt R h) j = false) ∧ ∃ a, ds1 = [.d (bookD K B), .d (.int (n : Nat)), .d (.str h), .d (picD K R), .d (rT (rowAt R h)), a]) rfl (.cast' (.rng1 (n := (rowAt R h).length + 1) (.cast (.add (.lenT (xs := (rowAt R h).map dD) (.var 4 rfl) T.f_len) .int) ?_) T.f_range (by omega)) rng0) ⟨fun j hj => absurd hj (Nat.not_lt_zero j), _, rfl⟩ ?_ ?_)
  · rw [List.length_map]; rfl
  · rintro i m ds1 hm ⟨hj, a, rfl⟩
    have hi : i < (rowAt R h).length + 1 := by have := (List.getElem?_eq_some_iff.mp hm).1; rwa [List.length_range] at this
    obtain rfl : i = m := by
      rw [List.getElem?_range hi] at hm
      exact Option.some.inj hm
    refine ⟨[5], _, .name 5 nd, .cons (.ifs (k := sureOne B h (rowAt R h) i) (.cast (.cmp (.eqI (.lenL (xs := (numsWith B h ((rowAt R h).take i)).map intD) (.call (ok_nums T) T.g_numbers_with (hr.mono (by decide)) (.cons (.var 0 rfl) (.cons (.var 2 rfl) (.cons (.headT (xs := (rowAt R h).map dD) (n := i) (.var 4 rfl) (.var 5 rfl)) .nil))) ⟨hs, B, h, (rowAt R h).take i, by rw [← rT_take]; rfl, hB, hh, rowNm_take a1 _, rfl⟩) T.f_len) .int)) ?_) (fun hk => .cons (.ret (.var 5 rfl) ?_)) fun hk => .nil (.nil ⟨fun j hj2 => ?_, _, rfl⟩))⟩
    · unfold sureOne
      rw [Bool.eq_iff_iff, decide_eq_true_eq, decide_eq_true_eq, List.length_map]
      omega
    · have : surePic B h (rowAt R h) = some i := find_range hi hk hj
      rw [this]
      rfl
    · rcases Nat.lt_succ_iff_lt_or_eq.mp hj2 with z | z
      · exact hj j z
      · rw [z]; exact hk
  rintro ds' ⟨hj, a, rfl⟩
  rw [List.length_range] at hj
  have : surePic B h (rowAt R h) = none := find_range_no hj
  rw [this]
  exact .cons (.ret .non rfl)
def p_alike (K : PySem.W.Frag) : List Dt → Dt → Prop := fun as r => ∃ (hs : List Str) (B : List Rows) (n : Nat) (R : Rows) (h : Str), as = [bookD K B, .int (n : Nat), .str h] ∧ Bk' hs B ∧ B[n]? = some R ∧ h ∈ hs ∧ r = .lst ((alikeTo B h (rowAt R h)).map intD)
theorem ok_alike (T : Txt K mg) : OkD P w K mg base d_alike_to 6 ["book", "number", "hand"] (spD P w (p_alike K)) := by
  have nd : (["book", "number", "hand", "picture", "row", "other", "near"] : List Str).Nodup := by decide +kernel
  refine okD_pure (N := ["book", "number", "hand", "picture", "row", "other", "near"]) T.n_alike_to ⟨rfl, rfl, rfl, by decide +kernel, rfl, by decide +kernel, by decide +kernel⟩ (fun _ _ _ _ _ _ us hl => match us, hl with | [_, _, _], _ => rfl) ?_
  rintro as r ⟨hs, B, n, R, h, rfl, hB, hR, hh, rfl⟩
  refine ⟨rfl, fun cdv A outer sh H E hr => ?_⟩
  have hu : (PX P w K mg base ["book", "number", "hand", "picture", "row", "other", "near"] d_alike_to cdv A outer sh H E).A.units + 64 < cLine := hr.units
  have hfew := hB.few
  have hRm := List.mem_of_getElem? hR
  obtain ⟨a1, a2, a3⟩ := hB.at_ hRm hh
  refine .cons (.asg 3 nd (.of (.subOwn (f := "own_pictures") (d := .tup (B.map (picD K))) (ix := .int (n : Nat)) (z := picD K R) T.n_Book_getitem (ok_Bget T) (.var 0 rfl) (.var 1 rfl) (He.meth_ok T.meth_Book_getitem) hr ⟨B, n, R, rfl, hR, rfl⟩)) ?_)
  refine .cons (.expr (.call (z := .non) (ok_want_hand T) T.g_want_hand (hr.mono (by decide)) (.cons (.meth0 (f := "own_pictures") (d := .tup (B.map (picD K))) (z := .lst (hs.map .str)) (ok_Bhands T) (.var 0 rfl) (He.cls_ok T.cls_Book) (He.meth_ok T.meth_Book_hands) (hr.mono (by decide)) ⟨hs, B, rfl, hB, rfl⟩) (.cons (.var 2 rfl) .nil)) ⟨hs, h, rfl, hh, rfl⟩) ?_)
  refine .cons (.asg 4 nd (.of (.getS (e := rT) (l := R) hu (.fld (.var 3 rfl) (He.cls_ok T.cls_Picture) (He.noat_ok T.noat_Picture_own_rows)) (.var 2 rfl) (rowAt_get a3))) ?_)
  unfold alikeTo
  rw [nums_eq]
  refine .cons (.ret (.lcf (enc := fun p : Rows × Nat => .tup [.int (p.2 : Nat), picD K p.1]) (own := [("other", 5), ("near", 6)]) rfl nd ?_ (blk_of rfl) (by rw [List.length_zipIdx]; omega) fun p hp => ?_) rfl)
  · rw [← enumD_map]
    exact .enumT (.fld (.var 0 rfl) (He.cls_ok T.cls_Book) (He.noat_ok T.noat_Book_own_pictures)) T.f_enumerate
  · obtain ⟨hR2, _⟩ := mem_idx hp
    obtain ⟨b1, b2, b3⟩ := hB.at_ hR2 hh
    refine ⟨_, _, ?_, fun s H C cl fp => .tup rfl (.cons (.name 5 nd) (.cons (.name 6 nd) .nil)), fun s H C cl fp => ?_, fun d hd s H C cl fp => ?_⟩
    · decide
    · refine .one (.cmp (.cast (.eq (x := rT (rowAt p.1 h)) (y := rT (rowAt R h)) (k := decide (rowAt p.1 h = rowAt R h)) hu (.getS (e := rT) (l := p.1) hu (.fld (.var 6 rfl) (He.cls_ok T.cls_Picture) (He.noat_ok T.noat_Picture_own_rows)) (.var 2 rfl) (rowAt_get b3)) (.var 4 rfl) (pln_rT b1) (pln_rT a1) ?_) ?_))
      · rw [decide_eq_true_eq]
        exact ⟨fun e => by rw [e], rT_inj⟩
      · cases decide (rowAt p.1 h = rowAt R h) <;> rfl
    · cases e : decide (rowAt p.1 h = rowAt R h) with
      | false => rw [e] at hd; cases hd
      | true =>
        rw [e] at hd
        cases hd
        exact .var 5 rfl
end
end K66
set_option maxHeartbeats 4000000
namespace K66
variable [TabAt]
open PySem PySem.Spec PyProof.Rows L2
def waitB (rows : List Row) (r : Row) : Bool := rows.any fun o => decide (r.length < o.length) && decide (o.take r.length = r)
def wD (p : Str × Row) : Dt := .tup [.str p.1, rL p.2]
def waitsOf (p : Str × List Row) : List (Str × Row) := (p.2.filter (waitB p.2)).map fun r => (p.1, r)
def waitersB (hs : List Str) (B : List Rows) : List (Str × Row) := (rbh hs B).flatMap waitsOf
section
variable {P : Program} {w : World} {K : PySem.W.Frag} {mg : Str → Option Value} {base : Heap}
def p_isw : List Dt → Dt → Prop := fun as r => ∃ (rows : List Row) (rr : Row), as = [rsL rows, rT rr] ∧ (∀ x ∈ rows, rowNm x = true) ∧ rowNm rr = true ∧ rows.length ≤ 1000 ∧ r = .bl (waitB rows rr)
theorem ok_isw (T : Txt K mg) : OkD P w K mg base d_is_waiter 1 ["rows", "row"] (spD P w p_isw) := by
  have nd : (["rows", "row", "other"] : List Str).Nodup := by decide +kernel
  refine okD_pure (N := ["rows", "row", "other"]) T.n_is_waiter ⟨rfl, rfl, rfl, by decide +kernel, rfl, by decide +kernel, by decide +kernel⟩ (fun _ _ _ _ _ _ us hl => match us, hl with | [_, _], _ => rfl) ?_
  rintro as r ⟨rows, rr, rfl, h1, h2, h3, rfl⟩
  refine ⟨rfl, fun cdv A outer sh H E hr => ?_⟩
  have hu : (PX P w K mg base ["rows", "row", "other"] d_is_waiter cdv A outer sh H E).A.units + 64 < cLine := hr.units
  refine .cons (.ret (.anym (ys := rows) (f := fun o => decide (rr.length < o.length) && decide (o.take rr.length = rr)) rfl (.lcm (enc := rT) (own := [("other", 2)]) rfl nd (.lst (.var 0 rfl)) (blk_of rfl) (by omega) fun o ho => ⟨_, [2], by simp, fun s H C cl fp => .name 2 nd, fun s H C cl fp => .and (x := decide (rr.length < o.length)) (y := decide (o.take rr.length = rr)) (.cast (.cmp (.gt (.lenT (xs := o.map dD) (.var 2 rfl) T.f_len) (.lenT (xs := rr.map dD) (.var 1 rfl) T.f_len))) ?_) fun _ => .one (.cmp (.eq (x := rT (o.take rr.length)) (y := rT rr) hu (.cast (.headT (xs := o.map dD) (n := rr.length) (.var 2 rfl) (.cast (.lenT (xs := rr.map dD) (.var 1 rfl) T.f_len) ?_)) ?_) (.var 1 rfl) (pln_rT (rowNm_take (h1 o ho) _)) (pln_rT h2) ?_))⟩) T.f_any) rfl)
  · rw [List.length_map, List.length_map]
    congr 1
    rw [Bool.eq_iff_iff, decide_eq_true_eq, decide_eq_true_eq]
    omega
  · rw [List.length_map]
  · exact rT_take o rr.length
  · rw [decide_eq_true_eq]
    exact ⟨fun e => by rw [e], rT_inj⟩
def p_waiters (K : PySem.W.Frag) : List Dt → Dt → Prop := fun as r => ∃ (hs : List Str) (B : List Rows), as = [bookD K B] ∧ Bk' hs B ∧ B.length ≤ 4 ∧ r = .lst ((waitersB hs B).map wD)
theorem waits_few (p : Str × List Row) : (waitsOf p).length ≤ p.2.length := by
  unfold waitsOf
  rw [List.length_map]
  exact List.length_filter_le ..
theorem flat_few {l : List (Str × List Row)} {n : Nat} (h : ∀ p ∈ l, (waitsOf p).length ≤ n) : (l.flatMap waitsOf).length ≤ l.length * n := by
  induction l with
  | nil => simp
  | cons p l ih =>
    rw [List.flatMap_cons, List.length_append, List.length_cons, Nat.succ_mul]
    have a := h p (by simp)
    have b := ih fun q hq => h q (List.mem_cons_of_mem _ hq)
    omega
theorem filt_map {α β : Type} {c : α → Bool} {f : α → β} : ∀ l : List α, (l.filter c).map f = l.filterMap fun x => if c x = true then some (f x) else none
  | [] => rfl
  | x :: l => by
    rw [List.filter_cons, List.filterMap_cons]
    cases h : c x with
    | true => rw [if_pos rfl, if_pos rfl, List.map_cons, filt_map l]
    | false => rw [if_neg Bool.false_ne_true, if_neg Bool.false_ne_true, filt_map l]
theorem waits_eq (p : Str × List Row) : (waitsOf p).map wD = p.2.filterMap fun r => if waitB p.2 r = true then some (wD (p.1, r)) else none := by
  unfold waitsOf
  rw [List.map_map, filt_map]
  rfl
theorem ok_waiters (T : Txt K mg) : OkD P w K mg base d_waiters 4 ["book"] (spD P w (p_waiters K)) := by
  have nd : (["book", "found", "hand", "rows", "row"] : List Str).Nodup := by decide +kernel
  refine okD_pure (N := ["book", "found", "hand", "rows", "row"]) T.n_waiters ⟨rfl, rfl, rfl, by decide +kernel, rfl, by decide +kernel, by decide +kernel⟩ (fun _ _ _ _ _ _ us hl => match us, hl with | [_], _ => rfl) ?_
  rintro as r ⟨hs, B, rfl, hB, h4, rfl⟩
  refine ⟨rfl, fun cdv A outer sh H E hr => ?_⟩
  have hu : (PX P w K mg base ["book", "found", "hand", "rows", "row"] d_waiters cdv A outer sh H E).A.units + 64 < cLine := hr.units
  obtain ⟨hnd, hl4⟩ := hB.hsnd
  have few : ∀ p ∈ rbh hs B, p.2.length ≤ 4 ∧ ∀ x ∈ p.2, rowNm x = true := fun p hp => by
    obtain ⟨h, hh, rfl⟩ := List.mem_map.mp hp
    exact ⟨Nat.le_trans rowSet_few h4, fun x hx => (col_nm hB hh hx).1⟩
  have hlr : (rbh hs B).length = hs.length := by unfold rbh; rw [List.length_map]
  refine .cons (.asg 1 nd .nilL ?_)
  refine .cons (.loopT (enc := fun p : Str × List Row => .tup [.str p.1, rsL p.2]) (ys := rbh hs B) (fun i ds1 => ∃ a b c, ds1 = [.d (bookD K B), .ol ((((rbh hs B).take i).flatMap waitsOf).map wD), a, b, c]) rfl (.itemsS (e := rsL) (l := rbh hs B) (.call (z := sD rsL (rbh hs B)) (ok_rbh T) T.g_rows_by_hand hr (.cons (.var 0 rfl) .nil) ⟨hs, B, rfl, hB, h4, rfl⟩)) ⟨_, _, _, rfl⟩ ?_ ?_)
  · rintro i p ds1 hp ⟨a, b, c, rfl⟩
    have hm := List.mem_of_getElem? hp
    obtain ⟨f1, f2⟩ := few p hm
    have hi := (List.getElem?_eq_some_iff.mp hp).1
    have hb : (((rbh hs B).take i).flatMap waitsOf).length ≤ ((rbh hs B).take i).length * 4 := flat_few fun q hq => Nat.le_trans (waits_few q) (few q (List.mem_of_mem_take hq)).1
    rw [List.length_take] at hb
    have hw := waits_few p
    refine ⟨_, _, .tup rfl (.cons (.name 2 nd) (.cons (.name 3 nd) .nil)), .cons (.extend 1 (ys := (waitsOf p).map wD) rfl ?_ ?_ (.nil ⟨.d (.str p.1), .d (rsL p.2), c, ?_⟩))⟩
    · have e1 : (waitsOf p).map wD = p.2.filterMap fun r => if waitB p.2 r = true then some (wD (p.1, r)) else none := by
        exact waits_eq p
      rw [e1]
      refine .lcf (enc := rT) (own := [("row", 4)]) rfl nd (.lst (.var 3 rfl)) (blk_of rfl) (by omega) fun x hx => ⟨_, [4], by simp, fun s H C cl fp => .name 4 nd, fun s H C cl fp => .one (.val (.cast (.call (z := .bl (waitB p.2 x)) (ok_isw T) T.g_is_waiter (hr.mono (by decide)) (.cons (.var 3 rfl) (.cons (.var 4 rfl) .nil)) ⟨p.2, x, rfl, f2, f2 x hx, by omega, rfl⟩) ?_)), fun d hd s H C cl fp => ?_⟩
      · cases waitB p.2 x <;> rfl
      · cases e : waitB p.2 x with
        | false => rw [e] at hd; cases hd
        | true =>
          rw [e] at hd
          cases hd
          exact .tup (.cons (.var 2 rfl) (.cons (.listT (xs := x.map dD) (.var 4 rfl) T.f_list) .nil)) (show 2 ≤ 100000 by decide)
    · rw [List.length_map, List.length_map]
      have : i * 4 ≤ 16 := by omega
      omega
    · rw [List.take_add_one, hp, List.flatMap_append, List.map_append]
      simp
  rintro ds' ⟨a, b, c, rfl⟩
  rw [List.take_length]
  refine .relL 1 rfl ?_
  exact .cons (.ret (.var 1 rfl) rfl)
end
end K66
set_option maxHeartbeats 4000000
namespace K66
variable [TabAt]
open PySem PySem.Spec PyProof.Rows L2
def keyAt (hs' : List Str) (R : Rows) : List Row := hs'.map (rowAt R)
def kT (k : List Row) : Dt := .tup (k.map rT)
def keysAt (hs' : List Str) (B : List Rows) : List (List Row) := B.map (keyAt hs')
theorem kT_inj {a b : List Row} (h : kT a = kT b) : a = b := map_inj' (fun _ _ => rT_inj) (Dt.tup.inj h)
theorem pln_kT {k : List Row} (h : ∀ r ∈ k, rowNm r = true) : pln (kT k) 20 = true := by
  show (decide ((20 : Nat) ≠ 0) && plnL (k.map rT) 19) = true
  have : plnL (k.map rT) 19 = true := by
    induction k with
    | nil => rfl
    | cons r k ih =>
      show (pln (rT r) 19 && plnL (k.map rT) 19) = true
      rw [ih fun x hx => h x (List.mem_cons_of_mem _ hx)]
      show ((decide ((19 : Nat) ≠ 0) && plnL (r.map dD) 18) && true) = true
      rw [plnL_row (h r (by simp)) 18 (by decide)]; rfl
  rw [this]; rfl
theorem plnL_kT {l : List (List Row)} (h : ∀ k ∈ l, ∀ r ∈ k, rowNm r = true) : plnL (l.map kT) 20 = true := by
  induction l with
  | nil => rfl
  | cons k l ih =>
    show (pln (kT k) 20 && plnL (l.map kT) 20) = true
    rw [pln_kT (h k (by simp)), ih fun x hx => h x (List.mem_cons_of_mem _ hx)]; rfl
theorem len_sub {α : Type} [DecidableEq α] : ∀ {l m : List α}, l.Nodup → (∀ x ∈ l, x ∈ m) → l.length ≤ m.length
  | [], m, _, _ => Nat.zero_le _
  | x :: l, m, hn, h => by
    rw [List.nodup_cons] at hn
    have h1 : x ∈ m := h x (by simp)
    have h2 := len_sub (m := m.erase x) hn.2 fun y hy => (List.mem_erase_of_ne (fun e => hn.1 (by rw [← e]; exact hy))).mpr (h y (List.mem_cons_of_mem _ hy))
    have h3 := List.length_erase_of_mem h1
    have h4 : 0 < m.length := List.length_pos_of_mem h1
    rw [List.length_cons]
    omega
/-- all told apart -/
def toldB (hs' : List Str) (B : List Rows) : Bool := !((keysAt hs' B).zipIdx.any fun p => decide (p.1 ∈ (keysAt hs' B).take p.2))
section
variable {P : Program} {w : World} {K : PySem.W.Frag} {mg : Str → Option Value} {base : Heap}
def p_told (K : PySem.W.Frag) : List Dt → Dt → Prop := fun as r => ∃ (hs hs' : List Str) (B : List Rows), as = [bookD K B, .lst (hs'.map .str)] ∧ Bk' hs B ∧ hs' ≠ [] ∧ hs'.Nodup ∧ (∀ h ∈ hs', h ∈ hs) ∧ r = .bl (toldB hs' B)
theorem ok_told (T : Txt K mg) : OkD P w K mg base d_told_apart 3 ["book", "hands"] (spD P w (p_told K)) := by
  have nd : (["book", "hands", "keys", "picture", "hand", "number", "key"] : List Str).Nodup := by decide +kernel
  refine okD_pure (N := ["book", "hands", "keys", "picture", "hand", "number", "key"]) T.n_told_apart ⟨rfl, rfl, rfl, by decide +kernel, rfl, by decide +kernel, by decide +kernel⟩ (fun _ _ _ _ _ _ us hl => match us, hl with | [_, _], _ => rfl) ?_
  rintro as r ⟨hs, hs', B, rfl, hB, hne, hnd', hsub, rfl⟩
  refine ⟨rfl, fun cdv A outer sh H E hr => ?_⟩
  have hu : (PX P w K mg base ["book", "hands", "keys", "picture", "hand", "number", "key"] d_told_apart cdv A outer sh H E).A.units + 64 < cLine := hr.units
  have hu5 : (PX P w K mg base ["book", "hands", "keys", "picture", "hand", "number", "key"] d_told_apart cdv A outer sh H E).A.units + 65 < cLine := by have := hr.un; show (A.deeper _).units + 65 < cLine; omega
  have hfew := hB.few
  obtain ⟨hnd, hl4⟩ := hB.hsnd
  have hl' : hs'.length ≤ hs.length := len_sub hnd' hsub
  have knm : ∀ k ∈ keysAt hs' B, ∀ r ∈ k, rowNm r = true := fun k hk r hr => by
    obtain ⟨R, hR, rfl⟩ := List.mem_map.mp hk
    obtain ⟨h, hh, rfl⟩ := List.mem_map.mp hr
    exact (hB.at_ hR (hsub h hh)).1
  refine .cons (.expr (.call (z := .non) (ok_want_hands T) T.g_want_hands (hr.mono (by decide)) (.cons (.meth0 (f := "own_pictures") (d := .tup (B.map (picD K))) (z := .lst (hs.map .str)) (ok_Bhands T) (.var 0 rfl) (He.cls_ok T.cls_Book) (He.meth_ok T.meth_Book_hands) (hr.mono (by decide)) ⟨hs, B, rfl, hB, rfl⟩) (.cons (.var 1 rfl) .nil)) ⟨hs, hs', rfl, hne, hnd', hsub, by omega, rfl⟩) ?_)
  refine .cons (.asg 2 nd (.of (d := .lst ((keysAt hs' B).map kT)) (.cast (.lcm (enc := picD K) (ys := B) (g := fun R => kT (keyAt hs' R)) (own := [("picture", 3)]) rfl nd (.tup (.fld (.var 0 rfl) (He.cls_ok T.cls_Book) (He.noat_ok T.noat_Book_own_pictures))) (blk_of rfl) (by omega) fun R hR => ⟨_, [3], by simp, fun s H C cl fp => .name 3 nd, fun s H C cl fp => ?_⟩) ?_)) ?_)
  · refine .cast (.tupL (xs := hs'.map fun h => rT (rowAt R h)) (.lcm (enc := Dt.str) (ys := hs') (g := fun h => rT (rowAt R h)) (own := [("hand", 4)]) rfl nd (.lst (.var 1 rfl)) (blk_of rfl) (by omega) fun h hh => ⟨_, [4], by simp, fun s H C cl fp => .name 4 nd, fun s H C cl fp => .getS (e := rT) (l := R) hu (.fld (.var 3 rfl) (He.cls_ok T.cls_Picture) (He.noat_ok T.noat_Picture_own_rows)) (.var 4 rfl) (rowAt_get (hB.at_ hR (hsub h hh)).2.2)⟩) T.f_tuple) ?_
    unfold kT keyAt
    rw [List.map_map]; rfl
  · unfold keysAt
    rw [List.map_map]; rfl
  have hlk : (keysAt hs' B).length = B.length := by unfold keysAt; rw [List.length_map]
  refine .cons (.ret (.not (x := (keysAt hs' B).zipIdx.any fun p => decide (p.1 ∈ (keysAt hs' B).take p.2)) (.anym (ys := (keysAt hs' B).zipIdx) (f := fun p => decide (p.1 ∈ (keysAt hs' B).take p.2)) rfl (.lcm (enc := fun p : List Row × Nat => .tup [.int (p.2 : Nat), kT p.1]) (own := [("number", 5), ("key", 6)]) rfl nd ?_ (blk_of rfl) (by rw [List.length_zipIdx]; omega) fun p hp => ⟨_, _, ?_, fun s H C cl fp => .tup rfl (.cons (.name 5 nd) (.cons (.name 6 nd) .nil)), fun s H C cl fp => ?_⟩) T.f_any)) rfl)
  · rw [← enumD_map]
    exact .enum (.var 2 rfl) T.f_enumerate
  · decide
  · obtain ⟨hk, _⟩ := mem_idx hp
    refine .cmp (.inL (x := kT p.1) (xs := ((keysAt hs' B).take p.2).map kT) hu5 (.var 6 rfl) (.cast (.headL (xs := (keysAt hs' B).map kT) (n := p.2) (.var 2 rfl) (.var 5 rfl)) ?_) (pln_kT (knm p.1 hk)) (plnL_kT fun k hk => knm k (List.mem_of_mem_take hk)) ?_)
    · rw [List.map_take]
    · rw [decide_eq_true_eq]
      constructor
      · exact fun h => List.mem_map.mpr ⟨_, h, rfl⟩
      · intro h
        obtain ⟨k, h1, h2⟩ := List.mem_map.mp h
        rw [← kT_inj h2]; exact h1
end
end K66
set_option maxHeartbeats 4000000
namespace K66
variable [TabAt]
open PySem PySem.Spec PyProof.Rows L2
theorem fold_keys {α β : Type} [DecidableEq α] {l : List α} {c : β} : ∀ {acc : List (α × β)}, (acc.map (·.1)).Nodup → ((l.foldl (fun a d => alPut a d c) acc).map (·.1)).Nodup ∧ ∀ d, d ∈ (l.foldl (fun a d => alPut a d c) acc).map (·.1) ↔ d ∈ acc.map (·.1) ∨ d ∈ l := by
  induction l with
  | nil => exact fun {acc} h => ⟨h, fun d => by simp⟩
  | cons x l ih =>
    intro acc h
    rw [List.foldl_cons]
    have e := alPut_keys (l := acc) (q := x) (c := c)
    have h2 : ((alPut acc x c).map (·.1)).Nodup := by
      rw [e]
      cases hx : alHas acc x with
      | true => rw [if_pos rfl]; exact h
      | false =>
        rw [if_neg Bool.false_ne_true, List.nodup_append]
        refine ⟨h, List.pairwise_singleton _ _, fun a ha b hb => ?_⟩
        rw [List.mem_singleton.mp hb]
        intro z
        rw [z, ← alHas_iff, hx] at ha
        cases ha
    obtain ⟨h3, h4⟩ := ih h2
    refine ⟨h3, fun d => ?_⟩
    rw [h4, e]
    cases hx : alHas acc x with
    | true =>
      rw [if_pos rfl, List.mem_cons]
      have := alHas_iff.mp hx
      constructor
      · rintro (z | z)
        · exact .inl z
        · exact .inr (.inr z)
      · rintro (z | z | z)
        · exact .inl z
        · rw [z]; exact .inl this
        · exact .inr z
    | false =>
      rw [if_neg Bool.false_ne_true, List.mem_append, List.mem_singleton, List.mem_cons, or_assoc]
def nextOf (b r : Row) : Option Deed := if (decide (b.length < r.length) && decide (r.take b.length = b)) = true then r[b.length]? else none
def behindT (rows : List Row) (b : Row) : List (Deed × Bool) := (rows.filterMap (nextOf b)).foldl (fun a d => alPut a d true) []
/-- the deeds that may come next -/
def behind (rows : List Row) (b : Row) : Row := deedSort ((behindT rows b).map (·.1))
theorem nextOf_iff {b r : Row} {d : Deed} : nextOf b r = some d ↔ (b ++ [d]) <+: r := by
  unfold nextOf
  constructor
  · intro h
    split at h
    · rename_i hk
      obtain ⟨k1, k2⟩ := Bool.and_eq_true_iff.mp hk
      have k1 := of_decide_eq_true k1
      have k2 := of_decide_eq_true k2
      have e : r.take (b.length + 1) = b ++ [d] := by rw [List.take_add_one, k2, h]; rfl
      rw [← e]
      exact List.take_prefix _ _
    · cases h
  · rintro ⟨t, rfl⟩
    have e1 : (b ++ [d] ++ t).take b.length = b := by rw [List.append_assoc, List.take_left']; rfl
    rw [if_pos]
    · rw [List.append_assoc, List.getElem?_append_right (Nat.le_refl _), Nat.sub_self]; rfl
    · rw [e1]
      simp only [List.length_append, List.length_cons, List.length_nil, decide_true, Bool.and_true, decide_eq_true_eq]
      omega
theorem mem_behind {rows : List Row} {b : Row} {d : Deed} : d ∈ behind rows b ↔ ∃ r ∈ rows, (b ++ [d]) <+: r := by
  unfold behind
  rw [(deedSort_perm _).mem_iff]
  unfold behindT
  rw [(fold_keys (l := rows.filterMap (nextOf b)) (c := true) (acc := []) List.nodup_nil).2 d, List.mem_filterMap]
  simp only [List.map_nil, List.not_mem_nil, false_or]
  constructor
  · rintro ⟨r, hr, e⟩
    exact ⟨r, hr, nextOf_iff.mp e⟩
  · rintro ⟨r, hr, e⟩
    exact ⟨r, hr, nextOf_iff.mpr e⟩
theorem behind_nodup (rows : List Row) (b : Row) : (behind rows b).Nodup :=
  (deedSort_perm _).nodup_iff.mpr (fold_keys (l := rows.filterMap (nextOf b)) (c := true) (acc := []) List.nodup_nil).1
theorem fold_len {α β : Type} [DecidableEq α] {l : List α} {c : β} : ∀ {acc : List (α × β)}, (l.foldl (fun a d => alPut a d c) acc).length ≤ acc.length + l.length := by
  induction l with
  | nil => exact fun {acc} => Nat.le_refl _
  | cons x l ih =>
    intro acc
    rw [List.foldl_cons, List.length_cons]
    have h := ih (acc := alPut acc x c)
    have e := congrArg List.length (alPut_keys (l := acc) (q := x) (c := c))
    rw [List.length_map] at e
    have : (alPut acc x c).length ≤ acc.length + 1 := by
      rw [e]
      split
      · rw [List.length_map]; omega
      · rw [List.length_append, List.length_map]; simp
    omega
theorem behind_few {rows : List Row} {b : Row} : (behind rows b).length ≤ rows.length := by
  unfold behind
  rw [(deedSort_perm _).length_eq, List.length_map]
  have h := fold_len (l := rows.filterMap (nextOf b)) (c := true) (acc := [])
  have h2 : (rows.filterMap (nextOf b)).length ≤ rows.length := List.length_filterMap_le ..
  unfold behindT
  have h3 : ([] : List (Deed × Bool)).length = 0 := rfl
  omega
theorem nextOf_at {b r : Row} {d : Deed} (h : nextOf b r = some d) : r[b.length]? = some d := by
  unfold nextOf at h
  split at h
  · exact h
  · cases h
/-- a deed's items -/
def deedI (d : Deed) : List Dt := [.str (kS d.1), .str d.2.1, .str d.2.2]
theorem fold_step {l : List Deed} : ∀ {acc : List (Deed × Bool)}, (l.map fun d => (deedI d, Dt.bl true)).foldl ndStep (acc.map fun p => dD p.1, acc.map fun p => .bl p.2) = ((l.foldl (fun a d => alPut a d true) acc).map fun p => dD p.1, (l.foldl (fun a d => alPut a d true) acc).map fun p => .bl p.2) := by
  induction l with
  | nil => intro acc; rfl
  | cons x l ih =>
    intro acc
    rw [List.map_cons, List.foldl_cons, List.foldl_cons, ← ih]
    congr 1
    have h := nO_put (k := dD) (e := Dt.bl) (l := acc) (q := x) (c := true) (fun _ _ h => dD_inj (nk_inj _ _ (kd_deed _) (kd_deed _) h))
    have h := Sl.on.inj h
    unfold ndStep
    exact Prod.ext h.1 h.2
theorem pln_of_nm {b : Row} (h : rowNm b = true) : pln (rT b) 20 = true := pln_rT h
section
variable {P : Program} {w : World} {K : PySem.W.Frag} {mg : Str → Option Value} {base : Heap}
def p_behind : List Dt → Dt → Prop := fun as r => ∃ (rows : List Row) (b : Row), as = [rsL rows, rT b] ∧ (∀ x ∈ rows, rowNm x = true) ∧ rowNm b = true ∧ rows.length ≤ 1000 ∧ r = .lst ((behind rows b).map dD)
theorem ok_behind (T : Txt K mg) : OkD P w K mg base d_deeds_behind 1 ["rows", "begin"] (spD P w p_behind) := by
  have nd : (["rows", "begin", "size", "found", "row"] : List Str).Nodup := by decide +kernel
  refine okD_pure (N := ["rows", "begin", "size", "found", "row"]) T.n_deeds_behind ⟨rfl, rfl, rfl, by decide +kernel, rfl, by decide +kernel, by decide +kernel⟩ (fun _ _ _ _ _ _ us hl => match us, hl with | [_, _], _ => rfl) ?_
  rintro as r ⟨rows, b, rfl, h1, h2, h3, rfl⟩
  refine ⟨rfl, fun cdv A outer sh H E hr => ?_⟩
  have hu : (PX P w K mg base ["rows", "begin", "size", "found", "row"] d_deeds_behind cdv A outer sh H E).A.units + 64 < cLine := hr.units
  refine .cons (.asg 2 nd (.of (.cast (.lenT (xs := b.map dD) (.var 1 rfl) T.f_len) (show Dt.int (((b.map dD).length : Nat) : Int) = intD b.length from by rw [List.length_map]; rfl))) ?_)
  refine .cons (.asgDn 3 (own := [("row", 4)]) (zs := rows.map fun r => (rT r, (nextOf b r).map fun d => (deedI d, Dt.bl true))) rfl hu nd (.cast' (.lst (xs := rows.map rT) (.var 0 rfl)) ?_) (blk_of rfl) ?_ ?_ ?_ ?_)
  · rw [List.map_map]; rfl
  · rw [List.length_map]; omega
  · intro p hp
    obtain ⟨z, hz, e⟩ := List.mem_filterMap.mp hp
    obtain ⟨r, hr, rfl⟩ := List.mem_map.mp hz
    cases e2 : nextOf b r with
    | none => rw [e2] at e; cases e
    | some d => rw [e2] at e; cases e; rfl
  · intro z hz
    obtain ⟨r, hr, rfl⟩ := List.mem_map.mp hz
    refine ⟨_, _, ?_, fun s H C cl fp => .name 4 nd, fun s H C cl fp => ?_, fun p hp => ?_⟩
    · decide
    · refine .one (.cast (.bool (.and (x := decide (b.length < r.length)) (.cast (.cmp (.gt (.lenT (xs := r.map dD) (.var 4 rfl) T.f_len) (.var 2 rfl))) ?_) fun _ => .and1 (.cmp (.eq (x := rT (r.take b.length)) (y := rT b) (k := decide (r.take b.length = b)) hu (.cast (.headT (xs := r.map dD) (n := b.length) (.var 4 rfl) (.var 2 rfl)) ?_) (.var 1 rfl) (pln_rT (rowNm_take (h1 r hr) _)) (pln_rT h2) ?_)))) ?_)
      · rw [List.length_map]
        exact decide_eq_decide.mpr Int.ofNat_lt
      · exact rT_take r b.length
      · rw [decide_eq_true_eq]
        exact ⟨fun e => by rw [e], rT_inj⟩
      · show (decide (b.length < r.length) && decide (r.take b.length = b)) = ((nextOf b r).map fun d => (deedI d, Dt.bl true)).isSome
        rw [Option.isSome_map]
        unfold nextOf
        cases hk : (decide (b.length < r.length) && decide (r.take b.length = b)) with
        | false => rfl
        | true =>
          rw [if_pos rfl, List.getElem?_eq_getElem (of_decide_eq_true (Bool.and_eq_true_iff.mp hk).1)]; rfl
    · cases e2 : nextOf b r with
      | none => rw [e2] at hp; cases hp
      | some d =>
        rw [e2] at hp
        cases hp
        exact ⟨fun s H C cl fp => .ixT (xs := r.map dD) (n := b.length) (.var 4 rfl) (.var 2 rfl) (by rw [List.getElem?_map, nextOf_at e2]; rfl), fun s H C cl fp => .bl⟩
  have e1 : ((rows.map fun r => (rT r, (nextOf b r).map fun d => (deedI d, Dt.bl true))).filterMap (·.2)) = (rows.filterMap (nextOf b)).map fun d => (deedI d, Dt.bl true) := by
    rw [List.filterMap_map, List.map_filterMap]
    rfl
  have e2 := fold_step (l := rows.filterMap (nextOf b)) (acc := [])
  rw [e1, show (([], []) : List Dt × List Dt) = (([] : List (Deed × Bool)).map fun p => dD p.1, ([] : List (Deed × Bool)).map fun p => .bl p.2) from rfl, e2]
  refine .rel 3 (dd := .nd ((behindT rows b).map fun p => dD p.1) ((behindT rows b).map fun p => .bl p.2)) rfl ?_
  refine .cons (.ret (.cast (.sortN rfl hu (.var 3 rfl) ?_ ?_ T.f_sorted) ?_) rfl)
  · have := alike_deedL ((behindT rows b).map (·.1))
    rw [List.map_map (l := behindT rows b)] at this
    exact this
  · intro k hk
    obtain ⟨p, _, rfl⟩ := List.mem_map.mp hk
    exact ⟨⟨_, rfl⟩, rfl⟩
  · have := srtD_deeds ((behindT rows b).map (·.1))
    rw [List.map_map] at this
    exact congrArg Dt.lst this
end
end K66
set_option maxHeartbeats 4000000
namespace K66
variable [TabAt]
open PySem PySem.Spec PyProof.Rows L2
/-- a machine: its steps, its ends -/
abbrev Mch := List (List (Deed × Nat)) × List Nat
def stD (l : List (Deed × Nat)) : Dt := nD dD intD l
def mchD (m : Mch) : Dt := .tup [.lst (m.1.map stD), .lst (m.2.map intD)]
def runM (st : List (List (Deed × Nat))) : Nat → Row → Option Nat
  | s, [] => some s
  | s, d :: r => match alGet (st.getD s []) d with
    | none => none
    | some t => runM st t r
def readsB (m : Mch) (r : Row) : Bool := match runM m.1 0 r with
  | none => false
  | some s => decide (s ∈ m.2)
/-- all goals are states -/
def mchOk (m : Mch) : Prop := 0 < m.1.length ∧ (∀ l ∈ m.1, ∀ p ∈ l, p.2 < m.1.length) ∧ m.1.length ≤ 100000 ∧ m.2.length ≤ 100000
theorem plnL_ints {l : List Nat} {n : Nat} : plnL (l.map intD) n = true := by
  induction l with
  | nil => rfl
  | cons x l ih =>
    show (true && plnL (l.map intD) n) = true
    rw [ih]; rfl
theorem alGet_in {α β : Type} [DecidableEq α] {l : List (α × β)} {a : α} {b : β} (h : alGet l a = some b) : (a, b) ∈ l := by
  induction l with
  | nil => cases h
  | cons p l ih =>
    obtain ⟨x, y⟩ := p
    unfold alGet at h
    by_cases e : x = a
    · rw [if_pos e] at h
      cases h
      rw [e]
      exact List.mem_cons_self
    · rw [if_neg e] at h
      exact List.mem_cons_of_mem _ (ih h)
theorem runM_app {st : List (List (Deed × Nat))} : ∀ {s : Nat} {r q : Row}, runM st s (r ++ q) = (runM st s r).bind fun t => runM st t q
  | s, [], q => rfl
  | s, d :: r, q => by
    rw [List.cons_append, runM, runM]
    cases alGet (st.getD s []) d with
    | none => rfl
    | some t => exact runM_app
theorem kOkL_deeds : ∀ (l : List (Deed × Nat)), kOkL (l.map fun p => dD p.1) 8 = true
  | [] => rfl
  | p :: l => by
    show (kOk (dD p.1) 8 && kOkL (l.map fun p => dD p.1) 8) = true
    rw [kOkL_deeds l]; rfl
section
variable {P : Program} {w : World} {K : PySem.W.Frag} {mg : Str → Option Value} {base : Heap}
def p_reads : List Dt → Dt → Prop := fun as r => ∃ (m : Mch) (rr : Row), as = [mchD m, rL rr] ∧ mchOk m ∧ rr.length ≤ 1000 ∧ r = .bl (readsB m rr)
theorem ok_reads (T : Txt K mg) : OkD P w K mg base d_reads 1 ["value", "row"] (spD P w p_reads) := by
  have nd : (["value", "row", "steps", "ends", "state", "deed"] : List Str).Nodup := by decide +kernel
  refine okD_pure (N := ["value", "row", "steps", "ends", "state", "deed"]) T.n_reads ⟨rfl, rfl, rfl, by decide +kernel, rfl, by decide +kernel, by decide +kernel⟩ (fun _ _ _ _ _ _ us hl => match us, hl with | [_, _], _ => rfl) ?_
  rintro as r ⟨m, rr, rfl, ⟨hm0, hm1, hm2, hm3⟩, hl, rfl⟩
  refine ⟨rfl, fun cdv A outer sh H E hr => ?_⟩
  have hu : (PX P w K mg base ["value", "row", "steps", "ends", "state", "deed"] d_reads cdv A outer sh H E).A.units + 64 < cLine := hr.units
  have hu5 : (PX P w K mg base ["value", "row", "steps", "ends", "state", "deed"] d_reads cdv A outer sh H E).A.units + 65 < cLine := by have := hr.un; show (A.deeper _).units + 65 < cLine; omega
  have hk : ∀ a b : Deed, nk (dD a) = nk (dD b) → a = b := fun _ _ h => dD_inj (nk_inj _ _ (kd_deed _) (kd_deed _) h)
  refine .cons (.asgG (.var 0 rfl) (.tup rfl (.cons (.name 2 nd) (.cons (.name 3 nd) .nil))) ?_)
  refine .cons (.asg 4 nd (.of .int) ?_)
  refine .cons (.loopT (enc := dD) (ys := rr) (fun i ds1 => ∃ s a, runM m.1 0 (rr.take i) = some s ∧ s < m.1.length ∧ ds1 = [.d (mchD m), .d (rL rr), .d (.lst (m.1.map stD)), .d (.lst (m.2.map intD)), .d (intD s), a]) rfl (.lst (.var 1 rfl)) ⟨0, _, rfl, hm0, rfl⟩ ?_ ?_)
  · rintro i d ds1 hd ⟨s, a, hs, hlt, rfl⟩
    have est : (m.1.map stD)[s]? = some (stD (m.1.getD s [])) := by
      rw [List.getElem?_map, List.getElem?_eq_getElem hlt, List.getD_eq_getElem?_getD, List.getElem?_eq_getElem hlt]; rfl
    have etk : rr.take (i + 1) = rr.take i ++ [d] := by rw [List.take_add_one, hd]; rfl
    have kok : kOkL ((m.1.getD s []).map fun p => dD p.1) 8 = true := kOkL_deeds _
    refine ⟨[5], _, .name 5 nd, ?_⟩
    cases hg : alGet (m.1.getD s []) d with
    | none =>
      have hno : readsB m rr = false := by
        have e : rr = rr.take i ++ (d :: rr.drop (i + 1)) := by
          have hi := (List.getElem?_eq_some_iff.mp hd).1
          have h1 := List.drop_eq_getElem_cons hi
          rw [(List.getElem?_eq_some_iff.mp hd).2] at h1
          rw [← h1, List.take_append_drop]
        unfold readsB
        rw [e, runM_app, hs]
        show (match runM m.1 s (d :: rr.drop (i + 1)) with | none => false | some s => decide (s ∈ m.2)) = false
        rw [runM, hg]
      refine .cons (.ifs (k := true) (.cast (.cmp (.notInN (ts := deedI d) (ks := (m.1.getD s []).map fun p : Deed × Nat => dD p.1) (vs := (m.1.getD s []).map fun p : Deed × Nat => intD p.2) hu (.var 5 rfl) (.ixL (n := s) (xs := m.1.map stD) (.var 2 rfl) (.var 4 rfl) est) kok rfl)) ?_) (fun _ => .cons (.ret (.cast .bl ?_) rfl)) fun h => nomatch h)
      · rw [show Dt.tup (deedI d) = dD d from rfl, nD_has (k := dD) hk, ← alGet_has, hg]; rfl
      · rw [hno]
    | some t =>
      have htl : t < m.1.length := hm1 (m.1.getD s []) (by rw [List.getD_eq_getElem?_getD, List.getElem?_eq_getElem hlt]; exact List.getElem_mem hlt) (d, t) (alGet_in hg)
      refine .cons (.ifs (k := false) (.cast (.cmp (.notInN (ts := deedI d) (ks := (m.1.getD s []).map fun p : Deed × Nat => dD p.1) (vs := (m.1.getD s []).map fun p : Deed × Nat => intD p.2) hu (.var 5 rfl) (.ixL (n := s) (xs := m.1.map stD) (.var 2 rfl) (.var 4 rfl) est) kok rfl)) ?_) (fun h => nomatch h) fun _ => .nil ?_)
      · rw [show Dt.tup (deedI d) = dD d from rfl, nD_has (k := dD) hk, ← alGet_has, hg]; rfl
      refine .cons (.asg 4 nd (.of (d := intD t) (.getN (ts := deedI d) (ks := (m.1.getD s []).map fun p : Deed × Nat => dD p.1) (vs := (m.1.getD s []).map fun p : Deed × Nat => intD p.2) hu (.ixL (n := s) (xs := m.1.map stD) (.var 2 rfl) (.var 4 rfl) est) (.var 5 rfl) ?_ kok rfl)) (.nil ⟨t, _, ?_, htl, rfl⟩))
      · rw [show Dt.tup (deedI d) = dD d from rfl, nD_get (k := dD) (e := intD) hk, hg]; rfl
      · rw [etk, runM_app, hs]
        show runM m.1 s [d] = some t
        rw [runM, hg]; rfl
  rintro ds' ⟨s, a, hs, hlt, rfl⟩
  rw [List.take_length] at hs
  refine .cons (.ret (.cmp (.inL (x := intD s) (xs := m.2.map intD) hu5 (.var 4 rfl) (.var 3 rfl) rfl plnL_ints ?_)) rfl)
  unfold readsB
  rw [hs]
  show decide (s ∈ m.2) = true ↔ _
  rw [decide_eq_true_eq]
  constructor
  · exact fun h => List.mem_map.mpr ⟨_, h, rfl⟩
  · intro h
    obtain ⟨z, h1, h2⟩ := List.mem_map.mp h
    have h3 : ((z : Nat) : Int) = (s : Nat) := Dt.int.inj h2
    rw [show s = z by omega]; exact h1
end
end K66
set_option maxHeartbeats 4000000
namespace K66
variable [TabAt]
open PySem PySem.Spec PyProof.Rows L2
section
variable {P : Program} {w : World} {K : PySem.W.Frag} {mg : Str → Option Value} {base : Heap}
theorem lam_len {A : Around} {outer : List Env} {s : Shared} {H : Hp} {E : Value → Shared → Prop} {f c' a : Addr} {q x : Str} {params : Arguments} {scope : Scope} {p1 p2 p3 p4 : Pos} {pm ctv : Value} {items : Array Value}
    (e0 : Env0 P w K mg base A outer s H) (hd : A.handled = none) (hdp : A.depth < recursionLimit) (S : FnScope [x] [x] scope) (hlx : scope.names.lookup x = some .local) (hlen : scope.names.lookup ("len" : Str) = some .globalImplicit) (hm : mg "len" = none)
    (of : s.heap.get? f = some (PySem.W.kla_obj "<lambda>" q params (.UnaryOp .USub (.Call (.Name "len" p1) [.Name x p2] [] p3) p4) scope [] pm c' ctv)) (hcr : s.heap.CodeRec (.ref c') q)
    (hbind : ∀ u : Value, bindArgs (PySem.W.kla_fn "<lambda>" q params (.UnaryOp .USub (.Call (.Name "len" p1) [.Name x p2] [] p3) p4) scope [] pm (.ref c') ctv) ⟨[u], []⟩ = pure [(x, u)])
    (ht : IsTup s.heap a items) (hz : (items.size : Int) < 2 ^ 63) (hdx : (x == ("__debug__" : Str)) = false) :
    wpAny (model P w) A (call (.ref f) [.ref a]) (PySem.W.KeyPure (.int (-(items.size : Int))) s) E s := by
  have lim : s.heap.NoLimit := e0.mod.nolimit.keeps fun b o e => (e0.bs b o e).1
  refine wpAny_call (codeAny_mono (R := fun r s' => ∃ u, r = .ok (.ret u) ∧ PySem.W.KeyPure (.int (-(items.size : Int))) s u s') ?_ fun z s' hq => ?_)
  · refine PySem.W.kla_callFunE hdp of rfl S.co S.gen rfl hcr ?_
    rw [hbind]
    refine wpAny_pure (wpAny_newFunctionEnv_cells S.kind (fun y hy => ?_) fun env he s1 x1 => ?_)
    · rw [List.mem_singleton.mp hy]; exact .inl hlx
    subst he
    refine ⟨lim.keeps x1.toInCall.keep, PySem.W.kla_codeExpr ?_⟩
    have I : Inv (cxOf CX0 P w K mg base [x] q scope f (.ref c') A outer s H E0) [] (L2.start [x] [V.ref a]) H s1 := inv_start (ps := [x]) (us := [.ref a]) (vs := [.ref a]) S hd e0 rfl (.cons rfl .nil) x1
    obtain ⟨h1, tk, rfl, hk⟩ := x1.done
    have hn : (cxOf CX0 P w K mg base [x] q scope f (.ref c') A outer s H E0).env.scope.kind = .function := S.kind
    refine UnaryOp_ (Call_ (ld_blt I (x := "len") hlen hm boot_len (u := .builtin "len") (PyProof.Rows.callWith_builtin1 (PyProof.Rows.args_cons (Q := _) ?_ rfl) rfl rfl)))
    obtain ⟨m, hns, hl⟩ := I.loc
    obtain ⟨u, r, l⟩ := hl 0 x (.ref a) rfl rfl (.inl hlx)
    obtain rfl : u = Value.ref a := r
    rcases l with ⟨hk1, hm1⟩ | ⟨hk1, _⟩
    · refine wpAny_Name (wpAny_loadName_local hn hlx hns hm1 (PyProof.Rows.args_nil ?_)) hdx
      refine len_tuple (items := items) ?_ hz (neg_int ?_)
      · obtain ⟨o, ho, hc, n, hd2⟩ := ht
        exact ⟨o, hk _ _ ho, hc, n, hd2⟩
      · exact ⟨_, rfl, h1, _, rfl, hk, .int _ _⟩
    · exfalso
      rcases hk1 with z | z
      · rw [show scope.names.lookup x = _ from z] at hlx; cases hlx
      · rw [show scope.names.lookup x = _ from z] at hlx; cases hlx
  · obtain ⟨u, rfl, h⟩ := hq
    exact h
end
end K66
set_option maxHeartbeats 4000000
namespace K66
variable [TabAt]
open PySem PySem.Spec PyProof.Rows L2
section
variable {X : Cx} {pins : List (Addr × Obj)} {σ : L2.St} {C H : Hp} {s : Shared}
/-- a lambda without captured names is made -/
theorem lam_new {c : Addr} {params : Arguments} {body : Expr} {scope : Scope} {pos : Pos} {E : Value → Shared → Prop} {Q : Value → Shared → Prop} (I : Inv X pins σ H s) (l : Le C H) (TB : LamX.TabB X.base X.mg c TabAt.pt)
    (hcode : X.env.code = .ref c) (hq : X.env.qual ++ "<lambda>" = TabAt.q) (hdef : defaultsOf params X.env = ([], [])) (hcl : closureFor scope X.env = pure [])
    (h : ∀ (f c' : Addr) (pm ctv : Value) (C1 H1 : Hp) (s' : Shared), Inv X pins σ H1 s' → Stp C H C1 H1 → s'.heap.get? f = some (PySem.W.kla_obj "<lambda>" TabAt.q params body scope [] pm c' ctv) → s'.heap.CodeRec (.ref c') TabAt.q → Q (.ref f) s') :
    wpAny (model X.prog X.w) X.A (eval (.Lambda params body scope pos) X.env) Q E s := by
  obtain ⟨ps, hP, ht, ha⟩ := l.tb
  refine PySem.W.kla_eval hdef ?_
  rw [hq]
  have bP : s.heap.BuiltinsAt X.mg TabAt.pt := TB.bm.keeps I.bk
  have hP' : s.heap.get? TabAt.pt = some { cls := .none, data := .fields ps } := I.hok _ _ hP
  have gl := I.mod.glob.keeps I.bk
  have cd := TB.code.keeps I.bk
  cases hc : codeAmong pos ps.toList with
  | some cv =>
    obtain ⟨c', rfl, hco⟩ := ha pos cv hc
    refine PySem.W.kla_makeFunctionHit hcl I.ok.glob gl hcode cd hP' ht hc bP fun ctv h' tk hx hsz => ?_
    have kp : ∀ b o, s.heap.get? b = some o → (h'.push (PySem.W.kla_obj "<lambda>" TabAt.q params body scope [] ((X.mg "__name__").getD .none) c' ctv)).get? b = some o := fun b o e => Heap.get?_push_of_some _ (hx b o e)
    obtain ⟨⟨oc, vs, t, e1, e2, e3⟩, _⟩ := I.hok c' _ (l.ex _ _ hco)
    exact h _ c' _ ctv C H _ (I.kept (t' := tk) kp) (.refl l) (Heap.get?_push_size _ rfl) ⟨c', oc, vs, t, rfl, kp _ _ e1, e2, e3⟩
  | none =>
    refine PySem.W.kla_makeFunction hcl I.ok.glob gl hcode cd hP' ht hc TB.gP bP fun c' ctv h' tk hx hge hlt hrec htb => ?_
    obtain ⟨c2, oc, vs, t, e2, hoc, hd, hv⟩ := hrec
    cases e2
    have nH : H c' = none := I.hok.fresh hge
    have nC : C c' = none := l.dom _ nH
    have nP : TabAt.pt ≠ c' := ne_of_none l.mrk nC
    have J := LamX.inv_table (q := TabAt.q) (t' := tk) (more := #[rawInt pos.line, rawInt pos.col, .ref c']) (h' := h'.push (PySem.W.kla_obj "<lambda>" TabAt.q params body scope [] ((X.mg "__name__").getD .none) c' ctv)) I hP
      (fun b o hb e => Heap.get?_push_of_some _ (hx b o hb e)) (Heap.get?_push_of_some _ htb) hge ⟨oc, vs, t, Heap.get?_push_of_some _ hoc, hd, hv⟩
    have st : Stp C H (upd C c' (LamX.CodeO c' TabAt.q)) (upd (upd H TabAt.pt (.tbl (ps ++ #[rawInt pos.line, rawInt pos.col, .ref c']))) c' (LamX.CodeO c' TabAt.q)) := by
      refine ⟨.new nC, ⟨fun a o no e => ?_, ?_, ⟨ps ++ #[rawInt pos.line, rawInt pos.col, .ref c'], ?_, ?_, fun p' cv z => ?_⟩, fun a qs e => ?_⟩, fun a o ca e => ?_, fun a e => ?_, fun a ca e => ?_⟩
      · by_cases z : a = c'
        · subst z; rw [upd_same] at e ⊢; exact e
        · rw [upd_ne z] at e ⊢
          have e1 := l.ex' a o no e
          rw [upd_ne fun y => no ps (Option.some.inj (e1.symm.trans (by rw [y]; exact hP)))]
          exact e1
      · rw [upd_ne nP]; exact l.mrk
      · rw [upd_ne nP, upd_same]
      · rw [show (ps ++ #[rawInt pos.line, rawInt pos.col, .ref c']).toList = ps.toList ++ [rawInt pos.line, rawInt pos.col, .ref c'] by simp]
        exact PySem.TriplesOk_snoc _ _ _ _ ht
      · rw [show (ps ++ #[rawInt pos.line, rawInt pos.col, .ref c']).toList = ps.toList ++ [rawInt pos.line, rawInt pos.col, .ref c'] by simp] at z
        rcases LamX.among_app _ ht z with y | y
        · obtain ⟨c0, g1, g2⟩ := ha p' cv y
          exact ⟨c0, g1, by rw [upd_ne (ne_of_none g2 nC)]; exact g2⟩
        · exact ⟨c', y, upd_same⟩
      · by_cases z : a = c'
        · subst z; rw [upd_same] at e; exact absurd (Option.some.inj e) (LamX.codeO_ne qs)
        · rw [upd_ne z] at e; exact l.no a qs e
      · have z1 : a ≠ c' := ne_of_none e nH
        have z2 : a ≠ TabAt.pt := fun y => by rw [y, l.mrk] at ca; cases ca
        rw [upd_ne z1, upd_ne z2]; exact e
      · by_cases z : a = c'
        · subst z; rw [upd_same]; exact fun y => nomatch y
        · rw [upd_ne z]
          by_cases z2 : a = TabAt.pt
          · subst z2; rw [upd_same]; exact fun y => nomatch y
          · rw [upd_ne z2]; exact e
      · rw [upd_ne fun z => e (by rw [z]; exact nH)]; exact ca
    exact h _ c' _ ctv _ _ _ J st (Heap.get?_push_size _ rfl) ⟨c', oc, vs, t, rfl, Heap.get?_push_of_some _ hoc, hd, hv⟩
end
section
variable {P : Program} {w : World} {A : Around} {E : Value → Shared → Prop} {s : Shared}
theorem sorted_key_coll {a f : Addr} {ds : List Dt} {Rel : Value → Dt → Prop} {k : Dt → PyData} {Q : Value → Shared → Prop}
    (hcol : ∀ (R : List Value → Shared → Prop), (∀ h' tk (acc : Array Value), (∀ b o, s.heap.get? b = some o → h'.get? b = some o) → PySem.W.EachIs Rel acc.toList ds → R acc.toList { s with heap := h', toks := tk }) → wpAny (model P w) A.in1 (collect (.ref a)) R E s)
    (hal : PySem.W.AllAlike (ds.map k)) (hk : PySem.W.Sortable (ds.map k)) (hL : ds.length ≤ sizeLine) (hu : ∀ x, x ∈ ds → A.in1.units + 1 + (k x).depth < cLine)
    (turn : ∀ (v : Value) (x : Dt), Rel v x → x ∈ ds → ∀ (h : Heap) (tk : Nat), (∀ b o, s.heap.get? b = some o → h.get? b = some o) → wpAny (model P w) A.in1.in1 (call (.ref f) [v]) (PySem.W.KeyPure (k x) { s with heap := h, toks := tk }) (fun _ _ => False) { s with heap := h, toks := tk })
    (hQ : ∀ out c h' tk p, (∀ b o, s.heap.get? b = some o → h'.get? b = some o) → s.heap.get? p = none → h'.get? p = some (seqObj "list" (List.toArray out) c) → PySem.W.EachIs Rel out (ds.mergeSort (PySem.W.dataLe false k)) → Q (.ref p) { s with heap := h', toks := tk }) :
    wpAny (model P w) A (call (.builtin "sorted") [.ref a] [(Str.ofString "key", .ref f)]) Q E s := by
  refine PyProof.Rows.call_function_entry_kw kind_sorted plain_sorted entry_sorted (PyProof.Rows.ksk_s1 _ _) ?_
  unfold Builtin.«sorted»
  refine wpAny_bind (m := checkCount "sorted" 1 1 _) (wpAny_pure ?_)
  refine wpAny_bind (hcol _ fun h1 tk1 acc k1 ev => ?_)
  have hvl : acc.toList.length = ds.length := ev.length
  refine wpAny_bind (wpAny_newList ?_ (by rw [hvl]; exact hL))
  have hoL : (h1.push (seqObj "list" acc.toList.toArray 0)).get? h1.objs.size = some (seqObj "list" acc.toList.toArray 0) := Heap.get?_push_size _ rfl
  have kl : ∀ b o, s.heap.get? b = some o → b ≠ h1.objs.size := fun b o e => Nat.ne_of_lt (Heap.lt_size (k1 b o e))
  have up : ∀ {g : Heap}, PySem.W.KeepsBut h1.objs.size (h1.push (seqObj "list" acc.toList.toArray 0)) g → ∀ b o, s.heap.get? b = some o → g.get? b = some o := fun {g} kp b o e => kp b o (kl b o e) (Heap.get?_push_of_some _ (k1 b o e))
  refine wpAny_bind (wpAny_holding (PySem.W.list_sort_key_data (b := false) (f := .ref f) (kw := [(Str.ofString "key", .ref f)]) (s := { s with heap := h1.push (seqObj "list" acc.toList.toArray 0), toks := tk1 }) k hoL ev hal hk hL hu (PyProof.Rows.ksk_l1 _ _) (PyProof.Rows.ksk_t1 _ _)
    (fun v x hR hx h tk kp => turn v x hR hx h tk (up kp)) fun out c h' tk kp hD _ eo => ?_))
  refine wpAny_pure ⟨_, rfl, hQ out c h' tk _ (up kp) ?_ hD eo⟩
  cases q : s.heap.get? h1.objs.size with
  | none => rfl
  | some o => exact absurd rfl (kl _ o q)
end
def tlen : Dt → Nat
  | .tup xs => xs.length
  | _ => 0
def lenKey (d : Dt) : PyData := .int (-(tlen d : Int))
def lenSort (ds : List Dt) : List Dt := ds.mergeSort (PySem.W.dataLe false lenKey)
theorem lenSort_perm (ds : List Dt) : (lenSort ds).Perm ds := List.mergeSort_perm _ _
theorem lenLe_iff {a b : Dt} : PySem.W.dataLe false lenKey a b = true → tlen b ≤ tlen a := by
  intro h
  have h : (!(listOrd itemOrd).blt [.inl (-(tlen b : Int))] [.inl (-(tlen a : Int))]) = true := h
  rw [Bool.not_eq_true'] at h
  by_cases z : tlen b ≤ tlen a
  · exact z
  · exfalso
    have : (listOrd itemOrd).blt [.inl (-(tlen b : Int))] [.inl (-(tlen a : Int))] = true := by
      have e : itemOrd.blt (.inl (-(tlen b : Int))) (.inl (-(tlen a : Int))) = true := by
        show decide (-(tlen b : Int) < -(tlen a : Int)) = true
        rw [decide_eq_true_eq]; omega
      show (itemOrd.blt (.inl (-(tlen b : Int))) (.inl (-(tlen a : Int))) || _) = true
      rw [e]; rfl
    rw [this] at h; cases h
theorem lenSort_sorted (ds : List Dt) : (lenSort ds).Pairwise fun a b => tlen b ≤ tlen a :=
  (PySem.W.sort_pairwise (PySem.W.sortLe_total _ _ _) ds).imp fun h => lenLe_iff h
theorem alike_lens (ds : List Dt) : PySem.W.AllAlike (ds.map lenKey) := fun d hd e he => by
  obtain ⟨x, hx, rfl⟩ := List.mem_map.mp hd
  obtain ⟨y, hy, rfl⟩ := List.mem_map.mp he
  rfl
section
variable {X : Cx} {ds : List Sl} {e : Expr} {p kpos lpos pos p1 p2 p3 p4 : Pos} {params : Arguments} {scope : Scope} {x : Str}
theorem EvD.sortLam {c : Addr} {ks xs : List Dt} (hc : X.calm = true) (hr : X.A.depth < recursionLimit) (hu : X.A.units + 64 < cLine) (TB : LamX.TabB X.base X.mg c TabAt.pt) (hcode : X.env.code = .ref c) (hq : X.env.qual ++ "<lambda>" = TabAt.q)
    (ha : EvD X e ds (.nd ks xs)) (ht : ∀ k ∈ ks, ∃ zs, k = .tup zs ∧ zs.length ≤ 100000) (hm : X.mg "sorted" = none) (hml : X.mg "len" = none) (S : FnScope [x] [x] scope) (hlx : scope.names.lookup x = some .local) (hlen : scope.names.lookup ("len" : Str) = some .globalImplicit)
    (hbind : ∀ (pm cv ctv : Value) (u : Value), bindArgs (PySem.W.kla_fn "<lambda>" TabAt.q params (.UnaryOp .USub (.Call (.Name "len" p1) [.Name x p2] [] p3) p4) scope [] pm cv ctv) ⟨[u], []⟩ = pure [(x, u)])
    (hdx : (x == ("__debug__" : Str)) = false := by decide) (hdef : defaultsOf params X.env = ([], []) := by rfl) (hcl : closureFor scope X.env = pure [] := by rfl) (hg : Gl X "sorted" := by rfl)
    (he : starEach [e] X.env = (false, eval e X.env) :: starEach [] X.env := by rfl) :
    EvD X (.Call (.Name "sorted" p) [e] [⟨some "key", .Lambda params (.UnaryOp .USub (.Call (.Name "len" p1) [.Name x p2] [] p3) p4) scope lpos, kpos⟩] pos) ds (.lst (lenSort ks)) := fun C H σ Sd Q q => ⟨fun pn s I0 => by
  refine wpAny_Call_Name_kw (ld_blt I0 hg hm (u := .builtin "sorted") (by decide +kernel) ?_)
  refine PyProof.Rows.callWith_kw (PyProof.Rows.args_cons (thn ((ha C H σ Sd (fun v H1 => ∃ C1, Stp C H C1 H1 ∧ Isx X C1 (.nd ks xs) v) (fun v C1 H1 x1 i1 => ⟨C1, x1, i1⟩)).go pn s I0) fun u s1 ⟨v, H1, I1, r1, C1, x1, i1⟩ => PyProof.Rows.args_nil ?_) he) (by rw [he]; rfl) (by rw [he]; rfl) rfl rfl
  show wpAny _ _ (evalAll ((do let v ← eval (.Lambda params _ scope lpos) X.env; standAt pos; pure v) :: [])) _ _ s1
  refine wpAny_evalAll_cons (wpAny_bind (lam_new I1 x1.le' TB hcode hq hdef hcl fun f c' pm ctv C2 H2 s2 I2 x2 hf hcr => wpAny_bind (wpAny_standAt (wpAny_pure (wpAny_evalAll_nil ?_)))))
  obtain ⟨d, o, nes, us, rfl, rd, hk, hv, hi⟩ := Is.mono (C' := C2) x2.le _ _ i1
  cases r1
  have hk' := hk
  obtain ⟨ho, ⟨⟨h1, h2, h3, o', es, ep, ho', hx, hod, hen⟩, _, _⟩⟩ := I2.hok d _ (x2.le'.ex _ _ rd)
  rw [ho] at ho'
  cases ho'
  have hsz : es.size = nes.length := by rw [← Array.length_toList, hen, List.length_map]
  have raw : s2.heap.DictRaw d es ep := ⟨o, ho, hx, hod⟩
  have hkl := hk.len
  show wpAny _ _ (PySem.call (.builtin "sorted") [.ref d] [(Str.ofString "key", .ref f)]) _ _ s2
  refine sorted_key_coll (k := lenKey) (ds := ks) (Rel := fun u d => ∃ v, RelV v u ∧ Isx X C2 d v) (fun R hR => ?_) (alike_lens ks) ?_ (by rw [← hkl]; exact h1) (fun x hx => ?_) (fun v d ⟨y, ry, iy⟩ hd h tk kp => ?_) fun out cc h' tk pp kp hp e ev => ?_
  · refine collect_src (PySem.KdlSrc.rawDict (es := es) (ep := ep) h2) (I2.ok.hd hc) raw (show es.size ≤ sizeLine from by rw [hsz]; exact h1) fun h' tk acc k hi => ?_
    refine hR h' tk acc k (each_at (by rw [Array.length_toList, hi.1, hsz, hkl]) fun i u e hu' he => ?_)
    obtain ⟨hi2, rfl⟩ := hi.2 i u (by rw [← Array.getElem?_toList]; exact hu')
    have hin : i < nes.length := by omega
    have e1 : es[i] = entryOfKey (nestedKind X.prog X.w) nes[i] := by
      have e2 : es.toList[i]? = (nes.map (entryOfKey (nestedKind X.prog X.w)))[i]? := by rw [hen]
      rw [Array.getElem?_toList, Array.getElem?_eq_getElem hi2, List.getElem?_map, List.getElem?_eq_getElem hin] at e2
      exact Option.some.inj e2
    obtain ⟨dd, g1, g2, g3⟩ := hk.get (List.getElem?_eq_getElem hin)
    rw [he] at g1
    cases g1
    exact ⟨.ref nes[i].2.1, by rw [e1] <;> rfl, g3⟩
  · refine .inr fun d hd => ?_
    obtain ⟨z, _, rfl⟩ := List.mem_map.mp hd
    exact ⟨(fun y => nomatch y), fun _ y => nomatch y⟩
  · show X.A.units + 1 + 1 + 0 < cLine
    omega
  · obtain ⟨zs, rfl, hz⟩ := ht d hd
    obtain ⟨b, vs, rfl, eb, ib⟩ := iy
    cases ry
    have I3 : Inv X pn σ H2 { s2 with heap := h, toks := tk } := I2.kept kp
    obtain ⟨hz2, its, rv, o2, ho2, hc2, m2, hd2⟩ := I3.hok b _ (x2.le'.ex _ _ eb)
    have hl2 := ib.len
    have hl3 := rv.length
    have hn : its.toArray.size = zs.length := by rw [List.size_toArray]; omega
    have hlk : lenKey (.tup zs) = .int (-(its.toArray.size : Int)) := by rw [hn]; rfl
    rw [hlk]
    obtain ⟨c2, oc, vs2, t2, ec, g1, g2, g3⟩ := hcr
    exact lam_len I3.env0.in1.in1 (I2.ok.hd hc) hr S hlx hlen hml (kp _ _ hf) ⟨c2, oc, vs2, t2, ec, kp _ _ g1, g2, g3⟩ (hbind _ _ _) ⟨o2, ho2, hc2, m2, hd2⟩ (by omega) hdx
  · exact sorted_laid I2 kp rfl rfl hp e (by rw [(lenSort_perm ks).length_eq, ← hkl]; exact h1) (show PySem.W.EachIs _ out (lenSort ks) from ev) fun q1 us2 hq2 j2 => q (.ref q1) (upd C2 q1 (.lst us2)) _ ((x1.trans x2).trans (.new x2.le' hq2)) ⟨q1, us2, rfl, upd_same, IsL.mono (.new (x2.le'.dom q1 hq2)) _ _ j2⟩⟩
end
end K66
set_option maxHeartbeats 4000000
namespace K66
variable [TabAt]
open PySem PySem.Spec PyProof.Rows L2
section
variable {P : Program} {w : World} {K : PySem.W.Frag} {mg : Str → Option Value} {base : Heap}
theorem okD_ofC {d : He.DefD} {N ps : List Str} {k : Nat} {sp : Sp} (F : ∃ fd, FnP K d (He.fAd K d.at_) fd) (S : FnScope N ps d.scope)
    (hb : ∀ (kV doc pm : Value) (an : Option Addr) (cdv ct : Value) (us : List Value), us.length = ps.length → bindArgs (PySem.W.fnOf d.name d.qual d.params d.body d.scope .none kV doc pm an cdv ct) ⟨us, []⟩ = pure (ps.zip us))
    (len : ∀ vs H Q E, sp vs H Q E → vs.length = ps.length)
    (hbody : ∀ (cdv : Value), cdv = .ref (He.codeOf K d.at_) → ∀ (A : Around) (outer : List Env) (s : Shared) (H : Hp) (vs : List V) (Q : VK) (E : XK), Room k (A.deeper (envOfC d.qual d.scope s.heap.objs.size (He.fAd K d.at_) cdv)) → sp vs H Q E →
      wpSs (cxOf CX0 P w K mg base N d.qual d.scope (He.fAd K d.at_) cdv A outer s H E).nox d.body { nx := fun _ H' => Q .non H', rt := Q } (L2.start N vs) H) : OkD P w K mg base d (k + 1) ps sp := by
  obtain ⟨fd, F⟩ := F
  obtain ⟨oc, od, dV, kV, doc, pm, an, cdv, ct, osl, rfl, lk, hcd, _, _⟩ := F.ex
  obtain ⟨c, rfl⟩ := He.codeIn_ref hcd
  have hc := He.codeOf_eq lk rfl
  exact ⟨⟨_, fn_of lk hcd S len fun A outer s H vs Q E hr h => ⟨_, PSs.nox wpSs.pss, hbody _ (by rw [hc]) A outer s H vs Q E hr h⟩, F.bindsN hb⟩, F.kp⟩
theorem okD_pureC {d : He.DefD} {N ps : List Str} {k : Nat} {pre : List Dt → Dt → Prop} (F : ∃ fd, FnP K d (He.fAd K d.at_) fd) (S : FnScope N ps d.scope)
    (hb : ∀ (kV doc pm : Value) (an : Option Addr) (cdv ct : Value) (us : List Value), us.length = ps.length → bindArgs (PySem.W.fnOf d.name d.qual d.params d.body d.scope .none kV doc pm an cdv ct) ⟨us, []⟩ = pure (ps.zip us))
    (hbody : ∀ as r, pre as r → as.length = ps.length ∧ ∀ cdv, cdv = .ref (He.codeOf K d.at_) → ∀ A outer s H E, Room k (A.deeper (envOfC d.qual d.scope s.heap.objs.size (He.fAd K d.at_) cdv)) → Ss (PX P w K mg base N d cdv A outer s H E) d.body (ds0 N.length as) (PureΦ r)) :
    OkD P w K mg base d (k + 1) ps (spD P w pre) := by
  refine okD_ofC F S hb (fun vs H Q E h => ?_) fun cdv hcd A outer s H vs Q E hr h => ?_
  · obtain ⟨C, as, r, hp, l, i, q⟩ := h
    rw [i.len]
    exact (hbody as r hp).1
  · obtain ⟨C, as, r, hp, l, i, q⟩ := h
    obtain ⟨h1, h2⟩ := hbody as r hp
    have hpl : ps.length ≤ N.length := by have := congrArg List.length S.pre; rw [List.length_take] at this; omega
    refine h2 cdv hcd A outer s H E hr (fun _ => False) C H C H (L2.start N vs) _ (.refl l) (SW.begins l i (by rw [i.len, h1]; exact hpl)) fun r' hr' => ?_
    cases r' with
    | nx ds =>
      intro C' H' σ' a b c
      have hr' : r = .non := hr'
      subst hr'
      exact q .non C' H' (a.stp fun _ z => z) rfl
    | bk ds => exact hr'.elim
    | ct ds => exact hr'.elim
    | rt d ds =>
      intro C' H' σ' v a c iv
      have hr' : d = r := hr'
      subst hr'
      exact q v C' H' (a.stp fun _ z => z) iv
/-- the code object of beginnings and its table -/
structure LamT (K : PySem.W.Frag) (mg : Str → Option Value) (base : Heap) : Prop where
  tab : LamX.TabB base mg (He.codeOf K ("beginnings", none)) TabAt.pt
  q : ("beginnings" : Str) ++ ".<locals>." ++ "<lambda>" = TabAt.q
end
def putsT {α : Type} [DecidableEq α] (acc : List (α × Bool)) (l : List α) : List (α × Bool) := l.foldl (fun a d => alPut a d true) acc
theorem putsT_app {α : Type} [DecidableEq α] {acc : List (α × Bool)} {l m : List α} : putsT acc (l ++ m) = putsT (putsT acc l) m := List.foldl_append ..
def prefsOf (r : Row) : List Row := (List.range (r.length + 1)).map fun n => r.take n
def prefs (rows : List Row) : List Row := rows.flatMap prefsOf
def begT (rows : List Row) : List (Row × Bool) := putsT [] (prefs rows)
def begins (rows : List Row) : List Row := ((begT rows).map (·.1)).mergeSort fun a b => PySem.W.dataLe false lenKey (rT a) (rT b)
theorem mem_prefs {rows : List Row} {b : Row} : b ∈ prefs rows ↔ ∃ r ∈ rows, b <+: r := by
  unfold prefs
  rw [List.mem_flatMap]
  constructor
  · rintro ⟨r, hr, h⟩
    obtain ⟨n, _, rfl⟩ := List.mem_map.mp h
    exact ⟨r, hr, List.take_prefix _ _⟩
  · rintro ⟨r, hr, t, rfl⟩
    refine ⟨_, hr, List.mem_map.mpr ⟨b.length, List.mem_range.mpr ?_, List.take_left' rfl⟩⟩
    rw [List.length_append]; omega
theorem begins_perm (rows : List Row) : (begins rows).Perm ((begT rows).map (·.1)) := List.mergeSort_perm _ _
theorem mem_begins {rows : List Row} {b : Row} : b ∈ begins rows ↔ ∃ r ∈ rows, b <+: r := by
  rw [(begins_perm rows).mem_iff, ← mem_prefs]
  exact ((fold_keys (l := prefs rows) (c := true) (acc := []) List.nodup_nil).2 b).trans (by simp)
theorem begins_nodup (rows : List Row) : (begins rows).Nodup := (begins_perm rows).nodup_iff.mpr (fold_keys (l := prefs rows) (c := true) (acc := []) List.nodup_nil).1
theorem tlen_rT (r : Row) : tlen (rT r) = r.length := by show (r.map dD).length = _; rw [List.length_map]
theorem begins_sorted (rows : List Row) : (begins rows).Pairwise fun a b => b.length ≤ a.length := by
  have h := lenSort_sorted (((begT rows).map (·.1)).map rT)
  have e : lenSort (((begT rows).map (·.1)).map rT) = (begins rows).map rT := (PySem.W.sort_maps rT fun _ _ _ _ => rfl).symm
  rw [e, List.pairwise_map] at h
  exact h.imp fun h => by rwa [tlen_rT, tlen_rT] at h
theorem begins_data (rows : List Row) : lenSort ((begT rows).map fun p => rT p.1) = (begins rows).map rT := by
  have e : ((begT rows).map fun p => rT p.1) = ((begT rows).map (·.1)).map rT := by rw [List.map_map]; rfl
  rw [e]
  exact (PySem.W.sort_maps rT fun _ _ _ _ => rfl).symm
theorem nk_row (a b : Row) (h : nk (rT a) = nk (rT b)) : a = b := rT_inj (nk_inj _ _ (kd_row _) (kd_row _) h)
theorem rows_keysOk {β : Type} (l : List (Row × β)) : kOkL (l.map fun p => rT p.1) 8 = true := by
  have e : (l.map fun p => rT p.1) = (l.map (·.1)).map rT := by rw [List.map_map]; rfl
  rw [e]
  exact kOkL_map fun a _ => kOk_row a 8 (by decide)
theorem putsT_len {α : Type} [DecidableEq α] {acc : List (α × Bool)} {l : List α} : (putsT acc l).length ≤ acc.length + l.length := fold_len
section
variable {P : Program} {w : World} {K : PySem.W.Frag} {mg : Str → Option Value} {base : Heap}
/-- how many beginnings there may be -/
def rowsFew (rows : List Row) : Prop := (∀ x ∈ rows, rowNm x = true) ∧ (prefs rows).length ≤ 50000 ∧ rows.length ≤ 1000 ∧ ∀ r ∈ rows, r.length ≤ 1000
def p_begs : List Dt → Dt → Prop := fun as r => ∃ rows : List Row, as = [rsL rows] ∧ rowsFew rows ∧ r = .lst ((begins rows).map rT)
theorem prefs_take {rows : List Row} {i : Nat} {r : Row} (h : rows[i]? = some r) : prefs (rows.take (i + 1)) = prefs (rows.take i) ++ prefsOf r := flatMap_take h
theorem ok_begs (T : Txt K mg) (L : LamT K mg base) : OkD P w K mg base d_beginnings 2 ["rows"] (spD P w p_begs) := by
  have nd : (["rows", "found", "row", "size"] : List Str).Nodup := by decide +kernel
  refine okD_pureC (N := ["rows", "found", "row", "size"]) T.n_beginnings ⟨rfl, rfl, rfl, by decide +kernel, rfl, by decide +kernel, by decide +kernel⟩ (fun _ _ _ _ _ _ us hl => match us, hl with | [_], _ => rfl) ?_
  rintro as r ⟨rows, rfl, ⟨h1, h2, h3, h4⟩, rfl⟩
  refine ⟨rfl, fun cdv hcd A outer sh H E hr => ?_⟩
  have hu : (PX P w K mg base ["rows", "found", "row", "size"] d_beginnings cdv A outer sh H E).A.units + 64 < cLine := hr.units
  refine .cons (.asg 1 nd (s := nO rT Dt.bl ([] : List (Row × Bool))) .newN ?_)
  refine .cons (.loopT (enc := rT) (ys := rows) (fun i ds1 => ∃ a b, ds1 = [.d (rsL rows), nO rT Dt.bl (putsT [] (prefs (rows.take i))), a, b]) rfl (.lst (.var 0 rfl)) ⟨_, _, rfl⟩ ?_ ?_)
  · rintro i r ds1 hr0 ⟨a, b, rfl⟩
    have hm := List.mem_of_getElem? hr0
    have hpl : (prefs (rows.take (i + 1))).length ≤ (prefs rows).length := flatMap_le
    rw [prefs_take hr0, List.length_append] at hpl
    have hpo : (prefsOf r).length = r.length + 1 := by unfold prefsOf; rw [List.length_map, List.length_range]
    refine ⟨[2], _, .name 2 nd, .cons (.loopT (enc := intD) (ys := List.range (r.length + 1)) (fun j ds1 => ∃ b, ds1 = [.d (rsL rows), nO rT Dt.bl (putsT [] (prefs (rows.take i) ++ (prefsOf r).take j)), .d (rT r), b]) rfl (.cast' (.rng1 (n := r.length + 1) (.cast (.add (.lenT (xs := r.map dD) (.var 2 rfl) T.f_len) .int) ?_) T.f_range ?_) rng0) ⟨b, by rw [List.take_zero, List.append_nil]; rfl⟩ ?_ ?_)⟩
    · rw [List.length_map]; rfl
    · have := h4 r hm; omega
    · rintro j n ds1 hn ⟨b, rfl⟩
      have hj : j < r.length + 1 := by have := (List.getElem?_eq_some_iff.mp hn).1; rwa [List.length_range] at this
      obtain rfl : j = n := by
        rw [List.getElem?_range hj] at hn
        exact Option.some.inj hn
      have ep : (prefsOf r)[j]? = some (r.take j) := by
        unfold prefsOf
        rw [List.getElem?_map, List.getElem?_range hj]; rfl
      refine ⟨[3], _, .name 3 nd, .cons (.putN (d := .bl true) (ts := (r.map dD).take j) 1 hu rfl .bl (.headT (xs := r.map dD) (n := j) (.var 2 rfl) (.var 3 rfl)) (rows_keysOk _) (by rw [rT_take]; exact kOk_row _ 8 (by decide)) ?_ ?_)⟩
      · have h5 := putsT_len (acc := []) (l := prefs (rows.take i) ++ (prefsOf r).take j)
        rw [List.length_append, List.length_take] at h5
        simp only [List.length_nil] at h5
        rw [List.length_map]
        omega
      · refine .nil ⟨.d (intD j), ?_⟩
        have h6 := nO_put nk_row (e := Dt.bl) (l := putsT [] (prefs (rows.take i) ++ (prefsOf r).take j)) (q := r.take j) (c := true)
        have h7 : (prefsOf r).take (j + 1) = (prefsOf r).take j ++ [r.take j] := by rw [List.take_add_one, ep]; rfl
        have h9 : ∀ (l : List Row) (x : Row), putsT [] (l ++ [x]) = alPut (putsT [] l) x true := fun l x => by rw [putsT_app]; rfl
        rw [h7, ← List.append_assoc, h9, ← h6, rT_take]
        rfl
    · rintro ds' ⟨b, rfl⟩
      refine .nil ⟨.d (rT r), b, ?_⟩
      have e8 : (prefsOf r).take (List.range (r.length + 1)).length = prefsOf r := List.take_of_length_le (by rw [hpo, List.length_range]; exact Nat.le_refl _)
      rw [e8, prefs_take hr0]
  rintro ds' ⟨a, b, rfl⟩
  rw [List.take_length]
  refine .rel 1 (dd := .nd ((begT rows).map fun p => rT p.1) ((begT rows).map fun p => .bl p.2)) rfl ?_
  refine .cons (.ret (.cast (.sortLam (x := "begin") (c := He.codeOf K ("beginnings", none)) rfl hr.depth hu L.tab hcd L.q (.var 1 rfl) ?_ T.f_sorted T.f_len ⟨rfl, rfl, rfl, by decide +kernel, rfl, by decide +kernel, by decide +kernel⟩ rfl rfl (fun pm cv ctv u => rfl)) ?_) rfl)
  · intro k hk
    obtain ⟨p, hp, rfl⟩ := List.mem_map.mp hk
    refine ⟨_, rfl, ?_⟩
    rw [List.length_map]
    have hpm : p.1 ∈ (begT rows).map (·.1) := List.mem_map.mpr ⟨p, hp, rfl⟩
    rw [← (begins_perm rows).mem_iff] at hpm
    obtain ⟨r, hr, hpre⟩ := mem_begins.mp hpm
    have := hpre.length_le
    have := h4 r hr
    omega
  · rw [begins_data]
end
end K66
set_option maxHeartbeats 4000000
namespace K66
variable [TabAt]
open PySem PySem.Spec PyProof.Rows L2
section
variable {X : Cx} {o e f : Expr} {td ty tx : TE} {apos cpos : Pos}
def tDSetN (P : Program) (w : World) (td ty tx : TE) : TE := fun σ H Q => td σ H fun x H1 => ∃ a, x = .ref a ∧ (∃ xs, H1 a = some (ndO P w a xs)) ∧ ty σ H1 fun y H2 => tx σ H2 fun z H3 => ∃ xs k b, H3 a = some (ndO P w a xs) ∧ y = .ref b ∧ xs.length < sizeLine ∧ KeysAt P w H3 xs ∧ KeyAt P w H3 k b ∧
  (∀ p, atKey xs k = some p → ∃ v, RelV v p.2 ∧ Q v H3) ∧ (atKey xs k = none → ∀ u, RelV z u → Q z (upd H3 a (ndO P w a (storedH xs k b u))))
theorem pe_dsetdN (hu : X.A.units + 64 < cLine) (ho : PE X o td) (he : PE X e ty) (hf : PE X f tx) (m : M2 X o "setdefault" apos e f cpos) : PE X (.Call (.Attribute o "setdefault" apos) [e, f] [] cpos) (tDSetN X.prog X.w td ty tx) := by
  refine ⟨fun pins s σ H Q I' h => ?_⟩
  refine wpAny_Call_method m.base m.few m.line PySem.F.plainAttrs_dict PySem.F.slot_dict_setdefault PySem.F.type_dict_setdefault (thn (ho.run pins s σ H _ I' h) fun u s1 ⟨x, H1, I1, rx, a, ex, d, q1⟩ => ?_)
  subst ex
  obtain rfl : u = Value.ref a := rx
  obtain ⟨xs, hd⟩ := d
  obtain ⟨⟨h1, h2, h3, ob, es, ep, ho', hx, hod, hen⟩, _, _⟩ := I1.hok a _ hd
  refine ⟨⟨ob, ho', hx.1⟩, fun b eb => by cases eb; exact ⟨ob, ho', hx.2.1⟩, ?_⟩
  rw [m.trees]
  refine Calls.callWith_builtin rfl (Calls.evalArgs_plain (Calls.spliced_cons (thn (he.run pins s1 σ H1 _ I1 q1) fun iv s2 ⟨y, H2, I2, ry, q2⟩ =>
    Calls.spliced_cons (thn (hf.run pins s2 σ H2 _ I2 q2) fun fv s3 ⟨z, H3, I3, rz, ys, k, b, ea, ey, hl, hk, hb, q3, q4⟩ => Calls.spliced_nil ?_))))
  subst ey
  cases ry
  obtain ⟨dd, g2, g1⟩ := nd_read I3 (.inl ea) hk
  refine call_setdefault_heap (hsz := g1) (room8 hu) (hb _ I3.hok) g2 dd (fun p hp => ?_) fun hn h' hm hs => ?_
  · obtain ⟨v, rv, qv⟩ := q3 p hp
    exact ⟨v, H3, I3.tok _, rv, qv⟩
  · have he' : ∃ z, h'.get? a = some z := let ⟨z, _, _, hz, _⟩ := hm; ⟨z, hz⟩
    exact ⟨z, _, d_write I3 (by rw [ea]; exact True.intro) hs he' (nd_new (storedH_len hl) g2 hm), rz, q4 hn fv rz⟩
end
theorem set_self {α : Type} {ds : List α} {i : Nat} {s : α} (h : ds[i]? = some s) : ds.set i s = ds := by
  apply List.ext_getElem?
  intro j
  rw [List.getElem?_set]
  split
  · rename_i e
    subst e
    rw [if_pos (List.getElem?_eq_some_iff.mp h).1, h]
  · rfl
theorem ndHas_get : ∀ {ks vs : List Dt} {q : NestedKey}, ks.length = vs.length → (ndGet ks vs q).isSome = ndHas ks q
  | [], [], _, _ => rfl
  | k :: ks, v :: vs, q, h => by
    unfold ndGet ndHas
    by_cases e : nk k = q
    · rw [if_pos e, decide_eq_true e]; rfl
    · rw [if_neg e, decide_eq_false e, Bool.false_or]
      exact ndHas_get (by simpa using h)
  | [], _ :: _, _, h => by simp at h
  | _ :: _, [], _, h => by simp at h
section
variable {X : Cx} {ds : List Sl} {ke b : Expr} {pos p pos' apos cpos lpos : Pos} {Ψ : Res → Prop}
/-- x[b] = y.setdefault(k, len(y)) -/
theorem S1.putSetd {α β : Type} [DecidableEq α] [DecidableEq β] {kx : α → Dt} {ky : β → Dt} (i j : Nat) {x y : Str} {q1 q2 q3 : Pos} {l : List (α × Nat)} {m : List (β × Nat)} {a : α} {c : β} {ts us : List Dt} (hu : X.A.units + 64 < cLine) (hij : i ≠ j)
    (hkx : ∀ a b, nk (kx a) = nk (kx b) → a = b) (hky : ∀ a b, nk (ky a) = nk (ky b) → a = b) (hsx : ds[i]? = some (nO kx intD l)) (hsy : ds[j]? = some (nO ky intD m)) (hk : EvD X ke ds (.tup us)) (hb : ∀ s', EvD X b (ds.set j s') (.tup ts)) (et : kx a = .tup ts) (eu : ky c = .tup us)
    (ko : kOkL (l.map fun p => kx p.1) 8 = true) (kt : kOk (.tup ts) 8 = true) (mo : kOkL (m.map fun p => ky p.1) 8 = true) (mt : kOk (.tup us) 8 = true) (hl : l.length ≤ 100000) (hl2 : m.length ≤ 100000)
    (kk : Ψ (.nx ((ds.set j (nO ky intD (if alHas m c = true then m else m ++ [(c, m.length)]))).set i (nO kx intD (alPut l a ((alGet m c).getD m.length))))))
    (hm : X.mg "len" = none)
    (hNx : X.N[i]? = some x := by rfl) (hvx : Vis X.env.scope x := by first | exact Or.inl rfl | exact Or.inr (Or.inl rfl) | exact Or.inr (Or.inr rfl))
    (hNy : X.N[j]? = some y := by rfl) (hvy : Vis X.env.scope y := by first | exact Or.inl rfl | exact Or.inr (Or.inl rfl) | exact Or.inr (Or.inr rfl)) (hg : Gl X "len" := by rfl)
    (hd : (x == ("__debug__" : Str)) = false := by decide) (hcd : (x == ("__classdict__" : Str)) = false := by decide) (hdy : (y == ("__debug__" : Str)) = false := by decide) (hcdy : (y == ("__classdict__" : Str)) = false := by decide)
    (hst : starEach [Expr.Name y q3] X.env = (false, eval (.Name y q3) X.env) :: starEach [] X.env := by rfl)
    (hm2 : M2 X (.Name y q2) "setdefault" apos ke (.Call (.Name "len" p) [.Name y q3] [] lpos) cpos := by exact ⟨rfl, rfl, rfl, rfl⟩)
    (hsw : swapsWithSole [.Subscript (.Name x q1) b pos'] (.Call (.Attribute (.Name y q2) "setdefault" apos) [ke, .Call (.Name "len" p) [.Name y q3] [] lpos] [] cpos) pos.line X.env = pure false := by rfl)
    (hw : swappedStores [.Subscript (.Name x q1) b pos'] (.Call (.Attribute (.Name y q2) "setdefault" apos) [ke, .Call (.Name "len" p) [.Name y q3] [] lpos] [] cpos) X.env = pure none := by rfl)
    (h1 : (assignEach [.Subscript (.Name x q1) b pos'] X.env).map (·.2) = [assign (.Subscript (.Name x q1) b pos') X.env] := by rfl)
    (ha : ∀ v, assign (.Subscript (.Name x q1) b pos') X.env v = (do
      let ov ← holding [v] (eval (.Name x q1) X.env)
      let iv ← holding [v, ov] (eval b X.env)
      standAt pos'
      holding [v, ov, iv] (setItem ov iv v)
      release [v, ov, iv] []) := by intro _; rfl) :
    S1 X (.Assign [.Subscript (.Name x q1) b pos'] (.Call (.Attribute (.Name y q2) "setdefault" apos) [ke, .Call (.Name "len" p) [.Name y q3] [] lpos] [] cpos) pos) ds Ψ := fun W C0 H0 C H σ D w0 ⟨f, S⟩ q => by
  obtain ⟨a1, xs1, us1, e1, n1, hc1, hh1, hk1, hv1, hi1⟩ := S.sl i _ hsx
  obtain ⟨a2, xs2, us2, e2, n2, hc2, hh2, hk2, hv2, hi2⟩ := S.sl j _ hsy
  refine psW (ps_asg (pe_dsetdN hu wpE.pe wpE.pe wpE.pe hm2) (pg_sub wpE.pe wpE.pe (set_nd hu) ha) hsw hw h1) (nameW n2 ⟨a2, rfl, ⟨xs2, hh2⟩, hk C H σ S.sd _ fun kv C1 H1 x1 ik => ?_⟩ hNy hvy hdy hcdy)
  have hh2' := x1.same _ _ hc2 hh2
  have hk2' := IsK.mono (C' := C1) x1.le _ _ hk2
  have hc2' : C1 a2 = none := x1.hid a2 hc2 (by rw [hh2]; exact fun z => nomatch z)
  refine peW (pe_callB call_lenN hg hm boot_len (pa_cons wpE.pe pa_nil hst) (by decide) (by decide) hst) (nameW n2 ⟨a2, xs2, rfl, .inl hh2', hk2'.keysAt x1.le' mo, ?_⟩ hNy hvy hdy hcdy)
  have ik' := ik
  obtain ⟨b2, ws, rfl, rb, jb⟩ := ik
  have hxl : xs2.length = m.length := by rw [hk2.len, List.length_map]
  -- the rest, from either end of setdefault
  have rest : ∀ (n : Nat) (v : V) (H2 : Hp), v = .int (n : Nat) → (alGet m c).getD m.length = n → Stw W C0 H0 C1 H2 → Prg C H C1 H2 → SWx X W H0 C1 H2 σ (ds.set j (nO ky intD (if alHas m c = true then m else m ++ [(c, m.length)]))) →
      gSub (wpE X (.Name x q1)) (wpE X b) (rSetN X.prog X.w) v σ H2 (fun σ' H' => D.nx σ' H') := by
    rintro n v H2 rfl en y2 p2 ⟨f2, S2⟩
    have hsx2 : (ds.set j (nO ky intD (if alHas m c = true then m else m ++ [(c, m.length)])))[i]? = some (nO kx intD l) := by rw [List.getElem?_set_ne (Ne.symm hij)]; exact hsx
    obtain ⟨a1', ys, us', e1', n1', hc1', hh1', hk1', hv1', hi1'⟩ := S2.sl i _ hsx2
    refine nameW n1' (hb _ C1 H2 σ S2.sd _ fun kv C3 H3 x3 i3 => ?_) hNx hvx hd hcd
    have hc3 : C3 a1' = none := x3.hid a1' hc1' (by rw [hh1']; exact fun z => nomatch z)
    have i3' := i3
    obtain ⟨b1, ws1, rfl, r3, j3⟩ := i3
    have hn3 := IsK.mono (C' := C3) x3.le _ _ hk1'
    refine ⟨a1', b1, nk (.tup ts), ys, rfl, rfl, x3.same _ _ hc1' hh1', ?_, hn3.keysAt x3.le' ko, Is.keyAt x3.le' kt i3', fun u2 ru => ?_⟩
    · rw [hk1'.len, List.length_map]; exact Nat.lt_of_le_of_lt hl (by decide)
    · obtain ⟨p1, us'', p2', p3⟩ := ndPut_at (k := .tup ts) (d := intD n) hn3 hv1' (IsL.mono (C' := C3) x3.le _ _ hi1') i3' (show Isx X C3 (intD n) (.int (n : Nat)) from rfl) ru
      obtain ⟨y1, y2', y3⟩ := own_put (s' := .on (ndPutK (l.map fun p => kx p.1) (.tup ts)) (ndPutV (l.map fun p => kx p.1) (l.map fun p => intD p.2) (.tup ts) (intD n))) (y2.thenS x3) (S2.mono x3) e1' hc3 ⟨a1', _, us'', rfl, n1', hc3, upd_same, p1, p2', p3⟩
      have e := nO_put hkx (e := intD) (l := l) (q := a) (c := n)
      rw [et] at e
      rw [e] at y3
      rw [en] at kk
      exact q _ kk C3 _ σ y1 (p2.trans (x3.prg.trans y2')) y3
  have hnl : ndGet (m.map fun p => ky p.1) (m.map fun p => intD p.2) (nk (.tup us)) = (alGet m c).map intD := by rw [← eu]; exact nD_get hky
  refine ⟨xs2, nk (.tup us), b2, hh2', rfl, ?_, hk2'.keysAt x1.le' mo, Is.keyAt x1.le' mt ik', fun pp hp => ?_, fun hn u ru => ?_⟩
  · rw [hxl]; exact Nat.lt_of_le_of_lt hl2 (by decide)
  · -- it is there
    cases hg2 : alGet m c with
    | none =>
      exfalso
      have := ndHas_at (q := nk (.tup us)) hk2
      rw [hp, ← ndHas_get (vs := m.map fun p => intD p.2) (by rw [List.length_map, List.length_map]), hnl, hg2] at this
      cases this
    | some n =>
      obtain ⟨p', u', g1, g2, g3⟩ := ndGet_at hk2 hv2 hi2 (show ndGet (m.map fun p => ky p.1) (m.map fun p => intD p.2) (nk (.tup us)) = some (intD n) by rw [hnl, hg2]; rfl)
      rw [hp] at g1
      cases g1
      refine ⟨u', g2, ?_⟩
      have hh : alHas m c = true := by rw [← alGet_has, hg2]; rfl
      refine rest n u' H1 g3 (by rw [hg2]; rfl) (w0.thenS x1) x1.prg ?_
      rw [if_pos hh, set_self hsy]
      exact ⟨f, S.mono x1⟩
  · have hg2 : alGet m c = none := by
      have := ndHas_at (q := nk (.tup us)) hk2
      rw [hn, ← ndHas_get (vs := m.map fun p => intD p.2) (by rw [List.length_map, List.length_map]), hnl] at this
      cases hg2 : alGet m c with
      | none => rfl
      | some n => rw [hg2] at this; cases this
    have hh : alHas m c = false := by rw [← alGet_has, hg2]; rfl
    obtain ⟨p1, us', p2, p3⟩ := ndPut_at (k := .tup us) (d := intD m.length) hk2' hv2 (IsL.mono (C' := C1) x1.le _ _ hi2) ik' (show Isx X C1 (intD m.length) (.int (xs2.length : Nat)) by rw [hxl]; rfl) ru
    obtain ⟨y1, y2, y3⟩ := own_put (s' := .on (ndPutK (m.map fun p => ky p.1) (.tup us)) (ndPutV (m.map fun p => ky p.1) (m.map fun p => intD p.2) (.tup us) (intD m.length))) (w0.thenS x1) (S.mono x1) e2 hc2' ⟨a2, _, us', rfl, n2, hc2', upd_same, p1, p2, p3⟩
    have e := nO_put hky (e := intD) (l := m) (q := c) (c := m.length)
    rw [eu] at e
    rw [e] at y3
    refine rest m.length _ _ (by rw [hxl]) (by rw [hg2]; rfl) y1 (x1.prg.trans y2) ?_
    rw [hh, if_neg Bool.false_ne_true, ← alPut_new (fun z => by rw [alHas_iff.mpr z] at hh; cases hh)]
    exact y3
end
end K66
set_option maxHeartbeats 4000000
namespace K66
variable [TabAt]
open PySem PySem.Spec PyProof.Rows L2
def pw (ds : List Sl) (a : Addr) : Prop := ∃ i : Nat, ds[i]? = some (.pot a)
def PotsOk (C H : Hp) (ds : List Sl) : Prop := ∀ a, pw ds a → C a = none ∧ PotAt H a
section
variable {P : Program} {w : World} {W : Addr → Prop} {H0 C H C' H' : Hp} {σ : L2.St} {ds : List Sl} {f : Nat → List Addr}
theorem SWf.pots (S : SWf P w W H0 C H σ ds f) : PotsOk C H ds := fun a ⟨i, h⟩ => by
  obtain ⟨_, _, c, p⟩ := S.sl i _ h
  exact ⟨c, p⟩
theorem SD.pots (S : SD P w C H σ ds) : PotsOk C H ds := S.elim fun _ S => S.pots
theorem SWf.potNew (S : SWf P w W H0 C H σ ds f) : ∀ a, pw ds a → W a ∨ H0 a = none := fun a ⟨i, h⟩ => by
  obtain ⟨e, _⟩ := S.sl i _ h
  exact S.new i a (by rw [e]; exact List.mem_singleton.mpr rfl)
theorem SWf.draw (S : SWf P w W H0 C H σ ds f) (x : Stw (pw ds) C H C' H') (q : PotsOk C' H' ds) : SWf P w W H0 C' H' σ ds f := by
  refine ⟨x.le', S.len, fun j s e => ?_, S.nd, S.dj, S.new, S.out⟩
  have h := S.sl j s e
  by_cases hp : ∃ p, s = .pot p
  · obtain ⟨p, rfl⟩ := hp
    obtain ⟨e1, e2, _⟩ := h
    obtain ⟨c, pa⟩ := q p ⟨j, e⟩
    exact ⟨e1, e2, c, pa⟩
  · refine h.mono x fun a ha ⟨i, hi⟩ => ?_
    obtain ⟨e1, _⟩ := S.sl i _ hi
    by_cases hij : i = j
    · subst hij
      rw [e] at hi
      exact hp ⟨a, Option.some.inj hi⟩
    · exact S.dj i j a hij (by rw [e1]; exact List.mem_singleton.mpr rfl) ha
theorem SD.draw (S : SD P w C H σ ds) (x : Stw (pw ds) C H C' H') (q : PotsOk C' H' ds) : SD P w C' H' σ ds := S.elim fun f S => ⟨f, (S.draw x q).any⟩
end
section
variable (X : Cx)
def EvX (e : Expr) (ds : List Sl) (Φ : Sl → Prop) : Prop := ∀ C H σ, SDx X C H σ ds → ∀ Q : VK, (∀ v C' H' s fp, Stw (pw ds) C H C' H' → PotsOk C' H' ds → SlF X.prog X.w C' H' s (some v) fp → fp.Nodup → (∀ a ∈ fp, H a = none) → Φ s → Q v H') → wpE X e σ H Q
def EvTX (e : Expr) (ds : List Sl) (Φ : Bool → Prop) : Prop := ∀ C H σ, SDx X C H σ ds → ∀ Q : Bool → Hp → Prop, (∀ b C' H', Stw (pw ds) C H C' H' → PotsOk C' H' ds → Φ b → Q b H') → wpT X e σ H Q
def EvWX (e : Expr) (ds : List Sl) (Φ : Bool → Prop) : Prop := ∀ C H σ, SDx X C H σ ds → ∀ Q : Bool → Hp → Prop, (∀ b C' H', Stw (pw ds) C H C' H' → PotsOk C' H' ds → Φ b → Q b H') → wpW X e σ H Q
def EvAX (es : List Expr) (ds : List Sl) (Φ : List Dt → Prop) : Prop := ∀ C H σ, SDx X C H σ ds → ∀ Q : List V → Hp → Prop, (∀ vs C' H' as, Stw (pw ds) C H C' H' → PotsOk C' H' ds → IsLx X C' as vs → Φ as → Q vs H') → wpA X es σ H Q
def EvIX (W : Addr → Prop) (tg iter : Expr) (ds : List Sl) (Φ : List Dt → Prop) : Prop := ∀ C H σ, SDx X C H σ ds → ∀ R : It → Hp → Prop, (∀ J C' H' xs, Stw (pw ds) C H C' H' → PotsOk C' H' ds → Φ xs → Wk X.prog X.w W J C' H' xs → R J H') → wpI X tg iter σ H R
end
/-- an int with a property -/
def intP (P : Int → Prop) : Sl → Prop := fun s => ∃ j, s = .d (.int j) ∧ P j
/-- data with a property -/
def datP (P : Dt → Prop) : Sl → Prop := fun s => ∃ d, s = .d d ∧ P d
section
variable {X : Cx} {ds : List Sl} {e a b c : Expr} {es rest : List Expr} {pos p : Pos} {d : Dt} {s : Sl} {Φ Φ1 Φ2 : Sl → Prop}
theorem EvO.x (h : EvO X e ds s) : EvX X e ds fun t => t = s := fun C H σ S Q q => h C H σ S Q fun v C' H' fp x i n f => q v C' H' s fp x.w (S.mono x).pots i n f rfl
theorem EvD.x (h : EvD X e ds d) : EvX X e ds fun t => t = .d d := h.o.x
theorem EvX.imp (h : EvX X e ds Φ1) (k : ∀ s, Φ1 s → Φ2 s) : EvX X e ds Φ2 := fun C H σ S Q q => h C H σ S Q fun v C' H' s fp x po i n f hs => q v C' H' s fp x po i n f (k s hs)
/-- data: both before and after -/
theorem EvX.run (h : EvX X e ds Φ) (hd : ∀ s, Φ s → ∃ d, s = .d d) {C H : Hp} {σ : L2.St} (S : SDx X C H σ ds) {Q : VK} (q : ∀ v C' H' d, Stw (pw ds) C H C' H' → PotsOk C' H' ds → Isx X C' d v → Φ (.d d) → Q v H') : wpE X e σ H Q :=
  h C H σ S Q fun v C' H' s fp x po i n f hs => by
    obtain ⟨d, rfl⟩ := hd s hs
    obtain ⟨_, v', e, i⟩ := i
    cases e
    exact q v C' H' d x po i hs
theorem datP_d {P : Dt → Prop} : ∀ s, datP P s → ∃ d, s = .d d := fun s ⟨d, e, _⟩ => ⟨d, e⟩
theorem intP_d {P : Int → Prop} : ∀ s, intP P s → ∃ d, s = .d d := fun s ⟨d, e, _⟩ => ⟨_, e⟩
theorem SlF.ofD {P : Program} {w : World} {C H : Hp} {d : Dt} {v : V} (i : Is P w C d v) : SlF P w C H (.d d) (some v) [] := ⟨rfl, v, rfl, i⟩
theorem Stw.drawIs {C H C' H' : Hp} {d : Dt} {v : V} (x : Stw (pw ds) C H C' H') (i : Isx X C d v) : Isx X C' d v := Is.mono x.le _ _ i
/-- i + e -/
theorem EvX.addI {i : Int} {P : Int → Prop} (ha : EvD X a ds (.int i)) (hb : EvX X b ds (intP P)) : EvX X (.BinOp a .Add b pos) ds (intP fun k => ∃ j, k = i + j ∧ P j) := fun C H σ S Q q =>
  peW (pe_op op_add wpE.pe wpE.pe) (ha C H σ S _ fun v C1 H1 x1 i1 => hb.run intP_d (S.mono x1) fun u C2 H2 d x2 po i2 ⟨j, e, hj⟩ => by
    cases e
    rw [show v = V.int i from i1, show u = V.int j from i2]
    exact ⟨i, j, rfl, rfl, q _ C2 H2 (.d (.int (i + j))) [] (x1.w.trans x2) po (.ofD rfl) List.nodup_nil (fun a h => by simp at h) ⟨_, rfl, j, rfl, hj⟩⟩)
/-- xs[e] -/
theorem EvX.ixL {xs : List Dt} (ha : EvD X a ds (.lst xs)) (hb : EvX X b ds (intP fun j => ∃ n : Nat, j = n ∧ n < xs.length)) (hs : PlainIx b := by exact fun _ _ => rfl) : EvX X (.Subscript a b pos) ds (datP fun d => d ∈ xs) := fun C H σ S Q q =>
  peW (pe_ix ix_list wpE.pe wpE.pe hs) (ha C H σ S _ fun v C1 H1 x1 i1 => hb.run intP_d (S.mono x1) fun u C2 H2 d x2 po i2 ⟨j, e, n, en, hn⟩ => by
    cases e
    subst en
    obtain ⟨p1, vs, rfl, r1, j1⟩ := x2.drawIs i1
    obtain ⟨y, hy, iy⟩ := j1.get (List.getElem?_eq_getElem hn)
    exact ⟨p1, vs, (n : Nat), y, rfl, i2, .inl (.inl (x2.le'.ex _ _ r1)), atI_nat hy, q y C2 H2 (.d xs[n]) [] (x1.w.trans x2) po (.ofD iy) List.nodup_nil (fun a h => by simp at h) ⟨_, rfl, List.getElem_mem hn⟩⟩)
theorem EvT.x {k : Bool} (h : EvT X e ds k) : EvTX X e ds fun b => b = k := fun C H σ S Q q => h C H σ S Q fun C' H' x => q k C' H' x.w (S.mono x).pots rfl
theorem EvTX.bool {Φ : Bool → Prop} (h : EvWX X e ds Φ) : EvTX X e ds Φ := fun C H σ S Q q => ptW (PW.pt wpW.pw) (h C H σ S Q q)
theorem EvWX.and1 {Φ : Bool → Prop} (h : EvTX X a ds Φ) : EvWX X (.BoolOp .And [a] pos) ds Φ := fun C H σ S Q q => pwW (pw_and1 wpT.pt) (h C H σ S Q q)
theorem EvWX.or1 {Φ : Bool → Prop} (h : EvTX X a ds Φ) : EvWX X (.BoolOp .Or [a] pos) ds Φ := fun C H σ S Q q => pwW (pw_or1 wpT.pt) (h C H σ S Q q)
theorem EvWX.and {A B Φ : Bool → Prop} (h : EvTX X a ds A) (h2 : A true → EvWX X (.BoolOp .And (b :: rest) pos) ds B) (k1 : A false → Φ false) (k2 : A true → ∀ z, B z → Φ z) : EvWX X (.BoolOp .And (a :: b :: rest) pos) ds Φ := fun C H σ S Q q =>
  pwW (pw_and wpT.pt wpW.pw) (h C H σ S _ fun z C1 H1 x1 po hz => by
    cases z with
    | true => exact iteT (h2 hz C1 H1 σ (S.draw x1 po) _ fun y C2 H2 x2 po2 hy => q y C2 H2 (x1.trans x2) po2 (k2 hz y hy))
    | false => exact iteF (q _ C1 H1 x1 po (k1 hz)))
theorem EvWX.or {A B Φ : Bool → Prop} (h : EvTX X a ds A) (h2 : A false → EvWX X (.BoolOp .Or (b :: rest) pos) ds B) (k1 : A true → Φ true) (k2 : A false → ∀ z, B z → Φ z) : EvWX X (.BoolOp .Or (a :: b :: rest) pos) ds Φ := fun C H σ S Q q =>
  pwW (pw_or wpT.pt wpW.pw) (h C H σ S _ fun z C1 H1 x1 po hz => by
    cases z with
    | true => exact iteT (q _ C1 H1 x1 po (k1 hz))
    | false => exact iteF (h2 hz C1 H1 σ (S.draw x1 po) _ fun y C2 H2 x2 po2 hy => q y C2 H2 (x1.trans x2) po2 (k2 hz y hy)))
/-- e < i -/
theorem EvTX.lt {P : Int → Prop} {i : Int} (ha : EvX X a ds (intP P)) (hb : EvD X b ds (.int i)) (h1 : behindInMarks .Lt b = false := by first | exact nobehind _ (by decide) (by decide) | rfl) : EvTX X (.Compare a [.Lt] [b] pos) ds fun _ => True := fun C H σ S Q q =>
  ptW (pt_cmp wpC.pc h1) (pcW (pc_of op_lt wpE.pe wpE.pe) (ha.run intP_d S fun v C1 H1 d x1 po i1 ⟨j, e, _⟩ => hb C1 H1 σ (S.draw x1 po) _ fun u C2 H2 x2 i2 => by
    cases e
    rw [show v = V.int j from i1, show u = V.int i from i2]
    exact ⟨j, i, rfl, rfl, _, rfl, q _ C2 H2 (x1.trans x2.w) (((S.draw x1 po).mono x2).pots) True.intro⟩))
theorem EvA.x {as : List Dt} (h : EvA X es ds as) : EvAX X es ds fun l => l = as := fun C H σ S Q q => h C H σ S Q fun vs C' H' x i => q vs C' H' as x.w (S.mono x).pots i rfl
theorem EvAX.cons {P : Dt → Prop} {Ψ : List Dt → Prop} (h : EvX X e ds (datP P)) (hr : EvAX X es ds Ψ) (hs : starEach (e :: es) X.env = (false, eval e X.env) :: starEach es X.env := by rfl) : EvAX X (e :: es) ds fun l => ∃ d r, l = d :: r ∧ P d ∧ Ψ r := fun C H σ S Q q =>
  paW (pa_cons wpE.pe wpA.pa hs) (h.run datP_d S fun v C1 H1 d x1 po i1 ⟨d', e, hd⟩ => hr C1 H1 σ (S.draw x1 po) _ fun vs C2 H2 as x2 po2 i2 ha => by
    cases e
    exact q _ C2 H2 (d :: as) (x1.trans x2) po2 ⟨v, vs, rfl, x2.drawIs i1, i2⟩ ⟨d, as, rfl, hd, ha⟩)
end
section
variable {X : Cx} {ds : List Sl} {Ψ : Res → Prop} {e c : Expr} {pos pos' : Pos} {d : Dt} {Φ Φ1 Φ2 : Sl → Prop}
theorem Stw.drawn {W : Addr → Prop} {C0 H0 C H C' H' : Hp} {σ : L2.St} {f : Nat → List Addr} (x : Stw W C0 H0 C H) (S : SWf X.prog X.w W H0 C H σ ds f) (y : Stw (pw ds) C H C' H') : Stw W C0 H0 C' H' := x.old y S.potNew
theorem S1.retX {P : Dt → Prop} (h : EvX X e ds (datP P)) (k : ∀ d, P d → Ψ (.rt d ds)) : S1 X (.Return (some e) pos) ds Ψ := fun W C0 H0 C H σ D x ⟨f, S⟩ q =>
  psW (ps_ret wpE.pe) (h.run datP_d S.sd fun v C1 H1 d x1 po i1 ⟨d', e, hd⟩ => by
    cases e
    exact q _ (k d hd) C1 H1 σ v (x.drawn S x1) ⟨f, S.draw x1 po⟩ i1)
theorem S1.ifsX {a b : List Stmt} {Φ : Bool → Prop} (h : EvTX X c ds Φ) (h1 : Φ true → Ss X a ds Ψ) (h2 : Φ false → Ss X b ds Ψ) : S1 X (.If c a b pos) ds Ψ := fun W C0 H0 C H σ D x ⟨f, S⟩ q =>
  psW (ps_if wpT.pt wpSs.pss wpSs.pss) (h C H σ S.sd _ fun z C1 H1 x1 po hz => by
    cases z with
    | true => exact iteT (h1 hz W C0 H0 C1 H1 σ D (x.drawn S x1) ⟨f, S.draw x1 po⟩ fun r hr => (q r hr).later x1.prg)
    | false => exact iteF (h2 hz W C0 H0 C1 H1 σ D (x.drawn S x1) ⟨f, S.draw x1 po⟩ fun r hr => (q r hr).later x1.prg))
/-- a slot set after a drawing -/
theorem SWf.setX {W : Addr → Prop} {C0 H0 C H C' H' : Hp} {σ : L2.St} {f : Nat → List Addr} {i : Nat} {s : Sl} {v : V} {fp : List Addr} (x : Stw W C0 H0 C H) (S : SWf X.prog X.w W H0 C H σ ds f) (y : Stw (pw ds) C H C' H') (po : PotsOk C' H' ds) (h : SlF X.prog X.w C' H' s (some v) fp) (hn : fp.Nodup) (hf : ∀ a ∈ fp, H a = none) :
    SWx X W H0 C' H' (σ.set i (some v)) (ds.set i s) := by
  have S' := S.draw y po
  have apart : ∀ {j : Nat}, ∀ a ∈ f j, a ∉ fp := fun {j} a ha hm => (S.th ha).2 (hf a hm)
  refine ⟨fun j => if j = i ∧ i < ds.length then fp else f j, S'.le, by rw [List.length_set, List.length_set]; exact S'.len, fun j s' e => ?_, fun j => ?_, fun j k a hjk hj hk => ?_, fun j a ha => ?_, fun j hj => ?_⟩
  · by_cases hj : j = i
    · subst hj
      rw [List.getElem?_set, if_pos rfl] at e
      split at e
      · rename_i hl
        cases e
        rw [List.getElem?_set, if_pos rfl, if_pos (by rw [S.len]; exact hl), if_pos ⟨rfl, hl⟩]
        exact h
      · cases e
    · rw [List.getElem?_set_ne (Ne.symm hj)] at e ⊢
      rw [if_neg fun z => hj z.1]
      exact S'.sl j s' e
  · show (if j = i ∧ i < ds.length then fp else f j).Nodup
    split
    · exact hn
    · exact S.nd j
  · try dsimp only at hj hk
    by_cases h1 : j = i ∧ i < ds.length
    · rw [if_pos h1] at hj
      rw [if_neg fun z => hjk (h1.1.trans z.1.symm)] at hk
      exact apart a hk hj
    · rw [if_neg h1] at hj
      by_cases h2 : k = i ∧ i < ds.length
      · rw [if_pos h2] at hk
        exact apart a hj hk
      · rw [if_neg h2] at hk
        exact S.dj j k a hjk hj hk
  · try dsimp only at ha
    split at ha
    · exact .inr (x.back (hf a ha))
    · exact S.new j a ha
  · rw [List.length_set] at hj
    show (if j = i ∧ i < ds.length then fp else f j) = []
    rw [if_neg fun z => by have := z.2; rw [← z.1] at this; omega]
    exact S.out j hj
/-- name = e -/
theorem S1.asgX (i : Nat) {y : Str} (hN : X.N.Nodup) (h : EvX X e ds Φ) (k : ∀ s, Φ s → Ψ (.nx (ds.set i s))) (hi : X.N[i]? = some y := by rfl) (hx : Loc X.env.scope y := by first | exact .inl rfl | exact .inr rfl) (hs : swapsWith e (some (.Name y pos')) pos.line X.env = pure false := by rfl)
    (hf : X.fn y = true ∨ X.env.scope.names.lookup y = some .local := by first | exact .inl rfl | exact .inr rfl) : S1 X (.Assign [.Name y pos'] e pos) ds Ψ := fun W C0 H0 C H σ D x ⟨f, S⟩ q =>
  psW (ps_set hN hi hx wpE.pe hs hf) (h C H σ S.sd _ fun v C1 H1 s fp x1 po i1 n1 f1 hs => q _ (k s hs) C1 H1 _ (x.drawn S x1) x1.prg (SWf.setX x S x1 po i1 n1 f1))
/-- targets = e, data -/
theorem S1.asgGX {tg : Expr} {P : Dt → Prop} (h : EvX X e ds (datP P)) (g : ∀ d, P d → ∃ is ds', EvG X tg d ds is ds' ∧ Ψ (.nx ds')) (hs : swapsWithSole [tg] e pos.line X.env = pure false := by rfl) (hw : swappedStores [tg] e X.env = pure none := by rfl)
    (h1 : (assignEach [tg] X.env).map (·.2) = [assign tg X.env] := by rfl) : S1 X (.Assign [tg] e pos) ds Ψ := fun W C0 H0 C H σ D x ⟨f, S⟩ q =>
  psW (ps_asg wpE.pe wpG.pg hs hw h1) (h.run datP_d S.sd fun v C1 H1 d x1 po i1 ⟨d', e, hd⟩ => by
    cases e
    obtain ⟨is, ds', g, k⟩ := g d hd
    have S1 := S.draw x1 po
    exact g.run C1 H1 σ v S1.sd i1 _ fun σ2 C2 H2 x2 S2 l2 k2 => q _ k C2 H2 σ2 ((x.drawn S x1).thenS x2) (x1.prg.trans x2.prg) ⟨_, S1.tgt x2 S2 k2 g.out g.inn⟩)
end
end K66
set_option maxHeartbeats 4000000
namespace K66
variable [TabAt]
open PySem PySem.Spec PyProof.Rows L2
section
variable {X : Cx} {ds : List Sl} {Ψ : Res → Prop} {e a b c : Expr} {es : List Expr} {pos pos' p q1 : Pos} {d : Dt} {Φ Φ1 Φ2 : Sl → Prop}
/-- a slot set, its things apart from the others -/
theorem SWf.put {W : Addr → Prop} {H0 C H : Hp} {σ : L2.St} {f : Nat → List Addr} {i : Nat} {s : Sl} {v : V} {fp : List Addr} (S : SWf X.prog X.w W H0 C H σ ds f) (h : SlF X.prog X.w C H s (some v) fp) (hn : fp.Nodup) (hf : ∀ j, ∀ a ∈ f j, a ∉ fp) (hw : ∀ a ∈ fp, W a ∨ H0 a = none) :
    SWf X.prog X.w W H0 C H (σ.set i (some v)) (ds.set i s) (fun j => if j = i ∧ i < ds.length then fp else f j) := by
  refine ⟨S.le, by rw [List.length_set, List.length_set]; exact S.len, fun j s' e => ?_, fun j => ?_, fun j k a hjk hj hk => ?_, fun j a ha => ?_, fun j hj => ?_⟩
  · by_cases hj : j = i
    · subst hj
      rw [List.getElem?_set, if_pos rfl] at e
      split at e
      · rename_i hl
        cases e
        rw [List.getElem?_set, if_pos rfl, if_pos (by rw [S.len]; exact hl), if_pos ⟨rfl, hl⟩]
        exact h
      · cases e
    · rw [List.getElem?_set_ne (Ne.symm hj)] at e ⊢
      rw [if_neg fun z => hj z.1]
      exact S.sl j s' e
  · show (if j = i ∧ i < ds.length then fp else f j).Nodup
    split
    · exact hn
    · exact S.nd j
  · try dsimp only at hj hk
    by_cases h1 : j = i ∧ i < ds.length
    · rw [if_pos h1] at hj
      rw [if_neg fun z => hjk (h1.1.trans z.1.symm)] at hk
      exact hf k a hk hj
    · rw [if_neg h1] at hj
      by_cases h2 : k = i ∧ i < ds.length
      · rw [if_pos h2] at hk
        exact hf j a hj hk
      · rw [if_neg h2] at hk
        exact S.dj j k a hjk hj hk
  · try dsimp only at ha
    split at ha
    · exact hw a ha
    · exact S.new j a ha
  · rw [List.length_set] at hj
    show (if j = i ∧ i < ds.length then fp else f j) = []
    rw [if_neg fun z => by have := z.2; rw [← z.1] at this; omega]
    exact S.out j hj
theorem par2 {W : Addr → Prop} {C0 H0 C H C1 H1 C2 H2 : Hp} {σ : L2.St} {f : Nat → List Addr} {i j : Nat} {s t : Sl} {v u : V} {fp fq : List Addr} (x : Stw W C0 H0 C H) (S : SWf X.prog X.w W H0 C H σ ds f)
    (x1 : Stw (pw ds) C H C1 H1) (po1 : PotsOk C1 H1 ds) (i1 : SlF X.prog X.w C1 H1 s (some v) fp) (n1 : fp.Nodup) (f1 : ∀ a ∈ fp, H a = none) (x2 : Stw (pw ds) C1 H1 C2 H2) (po2 : PotsOk C2 H2 ds) (i2 : SlF X.prog X.w C2 H2 t (some u) fq) (n2 : fq.Nodup) (f2 : ∀ a ∈ fq, H1 a = none) :
    SWx X W H0 C2 H2 ((σ.set i (some v)).set j (some u)) ((ds.set i s).set j t) := by
  have S2 := (S.draw x1 po1).draw x2 po2
  have old : ∀ a, pw ds a → H a ≠ none := fun a h => by
    obtain ⟨_, _, _, _, e⟩ := S.pots a h
    rw [e]; exact fun z => nomatch z
  have i1' : SlF X.prog X.w C2 H2 s (some v) fp := i1.mono x2 fun a ha hp => old a hp (f1 a ha)
  have P1 := S2.put (i := i) i1' n1 (fun j a ha hm => (S.th ha).2 (f1 a hm)) fun a ha => .inr (x.back (f1 a ha))
  have y1 : ∀ a, H1 a = none → H a = none := fun a h => by
    cases e : H a with
    | none => rfl
    | some o => exact absurd h (x1.th a (by rw [e]; exact fun z => nomatch z))
  refine ⟨_, P1.put (i := j) i2 n2 (fun k a ha hm => ?_) fun a ha => .inr (x.back (y1 a (f2 a ha)))⟩
  try dsimp only at ha
  split at ha
  · exact (i1.th a ha).2 (f2 a hm)
  · exact (S.th ha).2 (y1 a (f2 a hm))
/-- a, b = x, y, both plain locals -/
theorem S1.parX {i j : Nat} {y z : Str} {px py pt : Pos} {kt k2 pt2} (hc : X.calm = true) (hN : X.N.Nodup) (h1 : EvX X a ds Φ1) (h2 : EvX X b ds Φ2) (k : ∀ s t, Φ1 s → Φ2 t → Ψ (.nx ((ds.set i s).set j t)))
    (hi : X.N[i]? = some y := by rfl) (hj : X.N[j]? = some z := by rfl) (hij : i ≠ j := by decide) (hx : X.env.scope.names.lookup y = some .local := by rfl) (hy : X.env.scope.names.lookup z = some .local := by rfl)
    (hst : starEach [a, b] X.env = (false, eval a X.env) :: starEach [b] X.env := by rfl) (hst2 : starEach [b] X.env = (false, eval b X.env) :: starEach [] X.env := by rfl)
    (hw : swappedStores [.Tuple [.Name y px, .Name z py] kt pt] (.Tuple [a, b] k2 pt2) X.env = pure (some [y, z]) := by rfl)
    (hs : swapsWithSole [.Tuple [.Name y px, .Name z py] kt pt] (.Tuple [a, b] k2 pt2) pos.line X.env = pure false := by rfl) :
    S1 X (.Assign [.Tuple [.Name y px, .Name z py] kt pt] (.Tuple [a, b] k2 pt2) pos) ds Ψ := fun W C0 H0 C H σ D x ⟨f, S⟩ q =>
  psW (ps_par hc hN hi hj hij hx hy (pa_cons wpE.pe (pa_cons wpE.pe pa_nil hst2) hst) hw hs) (h1 C H σ S.sd _ fun v C1 H1 s fp x1 po1 i1 n1 f1 hs1 => h2 C1 H1 σ (S.sd.draw x1 po1) _ fun u C2 H2 t fq x2 po2 i2 n2 f2 hs2 => by
    exact ⟨v, u, rfl, q _ (k s t hs1 hs2) C2 H2 _ (x.drawn S (x1.trans x2)) (x1.trans x2).prg (par2 x S x1 po1 i1 n1 f1 x2 po2 i2 n2 f2)⟩)
/-- .. by a tuple -/
theorem S1.parCX {i j : Nat} {y z : Str} {px py pt : Pos} {kt k2 pt2} (hc : X.calm = true) (hN : X.N.Nodup) (h1 : EvX X a ds Φ1) (h2 : EvX X b ds Φ2) (k : ∀ s t, Φ1 s → Φ2 t → Ψ (.nx ((ds.set i s).set j t)))
    (hi : X.N[i]? = some y := by rfl) (hj : X.N[j]? = some z := by rfl) (hx : Loc X.env.scope y := by first | exact .inl rfl | exact .inr rfl) (hy : Loc X.env.scope z := by first | exact .inl rfl | exact .inr rfl)
    (hfy : X.fn y = true ∨ X.env.scope.names.lookup y = some .local := by first | exact .inl rfl | exact .inr rfl) (hfz : X.fn z = true ∨ X.env.scope.names.lookup z = some .local := by first | exact .inl rfl | exact .inr rfl)
    (hst : starEach [a, b] X.env = (false, eval a X.env) :: starEach [b] X.env := by rfl) (hst2 : starEach [b] X.env = (false, eval b X.env) :: starEach [] X.env := by rfl)
    (hw : swappedStores [.Tuple [.Name y px, .Name z py] kt pt] (.Tuple [a, b] k2 pt2) X.env = pure none := by rfl)
    (hs : swapsWithSole [.Tuple [.Name y px, .Name z py] kt pt] (.Tuple [a, b] k2 pt2) pos.line X.env = pure false := by rfl)
    (ht1 : (assignEach [Expr.Tuple [.Name y px, .Name z py] kt pt] X.env).map (·.2) = [assign (.Tuple [.Name y px, .Name z py] kt pt) X.env] := by rfl)
    (ht2 : (assignEach [Expr.Name y px, .Name z py] X.env).map (·.2) = assign (.Name y px) X.env :: (assignEach [.Name z py] X.env).map (·.2) := by rfl) (ht3 : (assignEach [Expr.Name z py] X.env).map (·.2) = assign (.Name z py) X.env :: (assignEach [] X.env).map (·.2) := by rfl)
    (hn : (assignEach [Expr.Name y px, .Name z py] X.env).length = 2 := by rfl) (hf : (assignEach [Expr.Name y px, .Name z py] X.env).findIdx? (·.1) = none := by rfl) :
    S1 X (.Assign [.Tuple [.Name y px, .Name z py] kt pt] (.Tuple [a, b] k2 pt2) pos) ds Ψ := fun W C0 H0 C H σ D x ⟨f, S⟩ q =>
  psW (ps_asg (pe_tup (pa_cons wpE.pe (pa_cons wpE.pe pa_nil hst2) hst)) (pg_tup hc (pgs_cons (pg_name hN hi hx hfy) (pgs_cons (pg_name hN hj hy hfz) pgs_nil ht3) ht2) hn hf) hs hw ht1) (h1 C H σ S.sd _ fun v C1 H1 s fp x1 po1 i1 n1 f1 hs1 => h2 C1 H1 σ (S.sd.draw x1 po1) _ fun u C2 H2 t fq x2 po2 i2 n2 f2 hs2 => by
    refine ⟨by show 2 ≤ sizeLine; decide, fun pa hpa => ⟨pa, [v, u], rfl, .inl (.inl upd_same), rfl, v, [u], rfl, u, [], rfl, rfl, ?_⟩⟩
    have x3 : Stp C2 H2 C2 (upd H2 pa (.tup [v, u])) := .only x2.le' (same_new hpa)
    have x23 : Stw (pw ds) C1 H1 C2 (upd H2 pa (.tup [v, u])) := x2.trans x3.w
    have po3 : PotsOk C2 (upd H2 pa (.tup [v, u])) ds := (((S.sd.draw x1 po1).draw x2 po2).mono x3).pots
    exact q _ (k s t hs1 hs2) C2 _ _ (x.drawn S (x1.trans x23)) (x1.trans x23).prg (par2 x S x1 po1 i1 n1 f1 x23 po3 (i2.mono (W := fun _ => False) x3.w fun _ _ z => z) n2 f2))
/-- a loop over drawn things -/
theorem S1.loopX {tg iter : Expr} {body : List Stmt} {Ξ : List Dt → Prop} (I : List Dt → Nat → List Sl → Prop) (hc : X.calm = true) (hi : EvIX X (fun _ => True) tg iter ds Ξ) (h0 : ∀ xs, Ξ xs → I xs 0 ds)
    (ht : ∀ xs, Ξ xs → ∀ i x ds1, xs[i]? = some x → I xs i ds1 → ∃ is ds2, EvG X tg x ds1 is ds2 ∧ Ss X body ds2 (Turns (I xs (i + 1)) Ψ)) (hd : ∀ xs ds', Ξ xs → I xs xs.length ds' → Ψ (.nx ds'))
    (hp : PassesOwn (model X.prog X.w) X.A X.env X.xe := by exact .never) (hs : ∀ x, foldedSetIterable iter X.env x = pure x := by intro _; rfl) : S1 X (.For tg iter body [] pos) ds Ψ := fun W C0 H0 C H σ D x ⟨f, S⟩ q =>
  psW (ps_for hp hc wpI.pi wpG.pg wpSs.pss hs) (hi C H σ S.sd _ fun J C1 H1 xs x1 po1 hxs wk => by
    refine ⟨fun i m σ2 H2 => m = xs.length - i ∧ i ≤ xs.length ∧ ∃ C2 ds2, I xs i ds2 ∧ Stw W C0 H0 C2 H2 ∧ Prg C1 H1 C2 H2 ∧ SWx X W H0 C2 H2 σ2 ds2, ⟨xs.length, by omega, Nat.zero_le _, C1, ds, h0 xs hxs, x.drawn S x1, .refl x1.le', f, S.draw x1 po1⟩, ?_⟩
    rintro i m σ2 H2 ⟨rfl, hile, C2, ds2, hI, y2, p2, f2, S2⟩
    obtain ⟨w1, w2⟩ := wk C2 H2 p2 i
    by_cases hlt : i < xs.length
    · obtain ⟨hgo, hy⟩ := w1 xs[i] (List.getElem?_eq_getElem hlt)
      obtain ⟨is, ds3, hg, hb⟩ := ht xs hxs i xs[i] ds2 (List.getElem?_eq_getElem hlt) hI
      refine .inr ⟨hgo, fun σ' H' => ∃ C2 ds2, I xs (i + 1) ds2 ∧ Stw W C0 H0 C2 H' ∧ Prg C1 H1 C2 H' ∧ SWx X W H0 C2 H' σ' ds2, fun σ' H' h' => ⟨xs.length - (i + 1), by omega, rfl, hlt, h'⟩, fun v H3 hv => ?_⟩
      obtain ⟨C3, x3, i3⟩ := hy v H3 hv
      refine hg.run C3 H3 σ2 v (S2.mono x3).sd i3 _ fun σ4 C4 H4 x4 S4 l4 k4 => ?_
      have x34 := x3.trans x4
      refine hb W C0 H0 C4 H4 σ4 _ (y2.thenS x34) ⟨_, S2.tgt x34 S4 k4 hg.out hg.inn⟩ fun r hr => ?_
      cases r with
      | nx ds' => exact fun C' H' σ' a b c => ⟨C', ds', hr, a, p2.trans (x34.prg.trans b), c⟩
      | ct ds' => exact fun C' H' σ' a b c => ⟨C', ds', hr, a, p2.trans (x34.prg.trans b), c⟩
      | bk ds' => exact fun C' H' σ' a b c => q (.nx ds') hr C' H' σ' a (x1.prg.trans (p2.trans (x34.prg.trans b))) c
      | rt d ds' => exact q (.rt d ds') hr
    · have hi : i = xs.length := by omega
      subst hi
      exact .inl ⟨w2 (Nat.le_refl _), q _ (hd xs ds2 hxs hI) C2 H2 σ2 y2 (x1.prg.trans p2) ⟨f2, S2⟩⟩)
theorem EvIX.rng1 {W : Addr → Prop} {tg : Expr} {Pn : Nat → Prop} (h : EvX X a ds (intP fun j => ∃ n : Nat, j = n ∧ Pn n)) (hm : X.mg "range" = none) (hb : ∀ n, Pn n → n ≤ 1000000) (hg : Gl X "range" := by rfl) (hs : starEach [a] X.env = [(false, eval a X.env)] := by rfl) :
    EvIX X W tg (.Call (.Name "range" p) [a] [] pos) ds fun xs => ∃ n, Pn n ∧ xs = rng 0 n := fun C H σ S R q =>
  piW (pi_range1 hg hm wpA.pa hs) (EvAX.cons (P := fun d => ∃ n : Nat, d = .int (n : Nat) ∧ Pn n) (h.imp fun s ⟨j, e, n, en, hn⟩ => ⟨.int j, e, n, by rw [en], hn⟩) (EvA.nil.x) (by rw [hs]; rfl) C H σ S _ fun vs C1 H1 as x1 po i1 ⟨d, r, e, ⟨n, ed, hn⟩, er⟩ => by
    subst e ed er
    obtain ⟨v, rfl, i2⟩ := IsL.one' i1
    rw [show v = V.int (n : Nat) from i2]
    have := hb n hn
    exact ⟨_, rfl, by omega, by omega, q _ C1 H1 _ x1 po ⟨n, hn, rfl⟩ .rng⟩)
end
def spP (P : Program) (w : World) (pre : List Dt → (Dt → Prop) → Prop) : Sp := fun vs H Q _ => ∃ (C : Hp) (p : Addr) (us : List V) (as : List Dt) (Φ : Dt → Prop), vs = .ref p :: us ∧ pre as Φ ∧ Le C H ∧ IsL P w C as us ∧ C p = none ∧ PotAt H p ∧
  ∀ v C' H' d, Stw (fun a => a = p) C H C' H' → C' p = none → PotAt H' p → Is P w C' d v → Φ d → Q v H'
def PotR (p : Addr) (Φ : Dt → Prop) : Res → Prop
  | .rt d ds => Φ d ∧ ds[0]? = some (.pot p)
  | _ => False
/-- the slots at the start -/
def dsP (n : Nat) (p : Addr) (as : List Dt) : List Sl := .pot p :: ds0 (n - 1) as
section
variable {P : Program} {w : World} {K : PySem.W.Frag} {mg : Str → Option Value} {base : Heap}
theorem okP_of {d : He.DefD} {N ps : List Str} {k : Nat} {pre : List Dt → (Dt → Prop) → Prop} (F : ∃ fd, FnP K d (He.fAd K d.at_) fd) (S : FnScope N ps d.scope)
    (hb : ∀ (kV doc pm : Value) (an : Option Addr) (cdv ct : Value) (us : List Value), us.length = ps.length → bindArgs (PySem.W.fnOf d.name d.qual d.params d.body d.scope .none kV doc pm an cdv ct) ⟨us, []⟩ = pure (ps.zip us))
    (hbody : ∀ as Φ, pre as Φ → as.length + 1 = ps.length ∧ ∀ p cdv A outer s H E, Room k (A.deeper (envOfC d.qual d.scope s.heap.objs.size (He.fAd K d.at_) cdv)) → Ss (PX P w K mg base N d cdv A outer s H E) d.body (dsP N.length p as) (PotR p Φ)) :
    OkD P w K mg base d (k + 1) ps (spP P w pre) := by
  refine okD_of F S hb (fun vs H Q E h => ?_) fun cdv A outer s H vs Q E hr h => ?_
  · obtain ⟨C, p, us, as, Φ, rfl, hp, l, i, _⟩ := h
    rw [List.length_cons, i.len]
    exact (hbody as Φ hp).1
  · obtain ⟨C, p, us, as, Φ, rfl, hp, l, i, hcp, hpa, q⟩ := h
    obtain ⟨h1, h2⟩ := hbody as Φ hp
    have hpl : ps.length ≤ N.length := by have := congrArg List.length S.pre; rw [List.length_take] at this; omega
    have el := i.len
    have hN : (N.drop 1).length = N.length - 1 := by rw [List.length_drop]
    obtain ⟨f0, B⟩ := SW.begins (N := N.drop 1) l i (by rw [el, hN]; omega)
    have hne : ∀ j, f0 j = [] := fun j => by
      cases e : f0 j with
      | nil => rfl
      | cons a r =>
        have ha : a ∈ f0 j := by rw [e]; exact List.mem_cons_self
        exact ((B.new j a ha).elim (fun z => z.elim) fun z => absurd z (B.th ha).2)
    have S0 : SW P w (fun b => b = p) H C H (L2.start N (.ref p :: us)) (dsP N.length p as) := by
      rw [start_cons]
      refine ⟨fun j => if j = 0 then [p] else [], l, ?_, fun j s e => ?_, fun j => ?_, fun i j a hij hi hj => ?_, fun j a ha => ?_, fun j hj => ?_⟩
      · rw [List.length_cons]
        have := B.len
        unfold dsP
        rw [List.length_cons, this, hN]
      · cases j with
        | zero => cases e; exact ⟨rfl, rfl, hcp, hpa⟩
        | succ j =>
          have e : (ds0 (N.length - 1) as)[j]? = some s := e
          rw [← hN] at e
          have h4 := B.sl j s e
          rw [hne j] at h4
          rw [if_neg (Nat.succ_ne_zero j)]
          exact h4
      · show (if j = 0 then [p] else []).Nodup
        split <;> simp
      · try dsimp only at hi hj
        split at hi
        · split at hj
          · omega
          · simp at hj
        · simp at hi
      · try dsimp only at ha
        split at ha
        · exact .inl (List.mem_singleton.mp ha)
        · simp at ha
      · unfold dsP at hj
        rw [List.length_cons] at hj
        show (if j = 0 then [p] else []) = []
        rw [if_neg (by omega)]
    refine h2 p cdv A outer s H E hr (fun b => b = p) C H C H _ _ (.refl l) S0 fun r' hr' => ?_
    cases r' with
    | rt d ds =>
      intro C' H' σ' v a c iv
      obtain ⟨h3, h4⟩ := hr'
      obtain ⟨fc, c⟩ := c
      obtain ⟨_, _, c1, c2⟩ := c.sl 0 _ h4
      exact q v C' H' d a c1 c2 iv h3
    | nx ds => exact hr'.elim
    | bk ds => exact hr'.elim
    | ct ds => exact hr'.elim
end
section
variable {X : Cx} {ds : List Sl} {e : Expr} {es : List Expr} {pos p q1 : Pos}
/-- f(pot, ..) -/
theorem EvX.callP (i : Nat) {f : He.DefD} {k : Nat} {ps : List Str} {pre : List Dt → (Dt → Prop) → Prop} {x y : Str} {pa : Addr} {Ψ : List Dt → Prop} {Φ : Dt → Prop} (O : OkD X.prog X.w X.K X.mg X.base f k ps (spP X.prog X.w pre)) (hm : X.mg x = some (.ref (He.fAd X.K f.at_))) (hr : Room k X.A)
    (hp : ds[i]? = some (.pot pa)) (ha : EvAX X es ds Ψ) (hpre : ∀ as, Ψ as → pre as Φ) (hN : X.N[i]? = some y := by rfl) (hv : Vis X.env.scope y := by first | exact Or.inl rfl | exact Or.inr (Or.inl rfl) | exact Or.inr (Or.inr rfl))
    (hd : (y == ("__debug__" : Str)) = false := by decide) (hcd : (y == ("__classdict__" : Str)) = false := by decide) (hg : Gl X x := by rfl) (hdb : (x == ("__debug__" : Str)) = false := by decide) (he : starEach (.Name y q1 :: es) X.env = (false, eval (.Name y q1) X.env) :: starEach es X.env := by rfl)
    (hpl : (backTo pos (starEach es X.env)).any (·.1) = false := by rfl) :
    EvX X (.Call (.Name x p) (.Name y q1 :: es) [] pos) ds (datP Φ) := fun C H σ S Q q => by
  obtain ⟨fd, F, hb⟩ := O.ok
  refine peW (pe_call F hr hg hm O.kp hb .nil pass0 (pa_cons wpE.pe wpA.pa he) hdb he hpl) ?_
  obtain ⟨fp, e1, e2, c1, c2⟩ := S.sl i _ hp
  refine nameW e2 (ha C H σ S _ fun vs C1 H1 as x1 po i1 hs => ?_) hN hv hd hcd
  show spP X.prog X.w pre ((.ref pa :: vs) ++ []) H1 Q E0
  rw [List.append_nil]
  obtain ⟨c3, c4⟩ := po pa ⟨i, hp⟩
  refine ⟨C1, pa, vs, as, Φ, rfl, hpre as hs, x1.le', i1, c3, c4, fun v C2 H2 d x2 c5 c6 iv hd => ?_⟩
  have hw : ∀ a, a = pa → pw ds a := fun a e => by rw [e]; exact ⟨i, hp⟩
  have po2 : PotsOk C2 H2 ds := fun a ha => by
    by_cases z : a = pa
    · subst z; exact ⟨c5, c6⟩
    · obtain ⟨g1, y1, y2, g3, g2⟩ := po a ha
      exact ⟨x2.hid a z g1 (by rw [g2]; exact fun z => nomatch z), y1, y2, g3, x2.kp a _ z g1 g2⟩
  exact q v C2 H2 (.d d) [] (x1.trans (x2.weak hw)) po2 (.ofD iv) List.nodup_nil (fun a h => by simp at h) ⟨d, rfl, hd⟩
end
end K66
set_option maxHeartbeats 4000000
namespace K66
variable [TabAt]
open PySem PySem.Spec PyProof.Rows L2
/-- what tells states apart: is it an end, where its deeds lead -/
abbrev Kd := Bool × List (Deed × Nat)
def stepI (p : Deed × Nat) : Dt := .tup [dD p.1, intD p.2]
def kdTs (k : Kd) : List Dt := [.bl k.1, .tup (k.2.map stepI)]
def kdD (k : Kd) : Dt := .tup (kdTs k)
theorem kd_step (p : Deed × Nat) : kd (stepI p) = true := rfl
theorem stepI_inj {a b : Deed × Nat} (h : stepI a = stepI b) : a = b := by
  obtain ⟨a1, a2⟩ := a
  obtain ⟨b1, b2⟩ := b
  have h := List.cons.inj (Dt.tup.inj h)
  have e1 := dD_inj h.1
  have e2 : ((a2 : Nat) : Int) = (b2 : Nat) := Dt.int.inj (List.cons.inj h.2).1
  rw [show a1 = b1 from e1, show a2 = b2 by omega]
theorem kd_inj (a b : Kd) (h : nk (kdD a) = nk (kdD b)) : a = b := by
  obtain ⟨a1, a2⟩ := a
  obtain ⟨b1, b2⟩ := b
  have h : NestedKey.tup [nk (.bl a1), nk (.tup (a2.map stepI))] = .tup [nk (.bl b1), nk (.tup (b2.map stepI))] := h
  obtain ⟨h1, h2⟩ := List.cons.inj (NestedKey.tup.inj h)
  have h2 := nk_inj (.tup (a2.map stepI)) (.tup (b2.map stepI)) (kdL_map kd_step a2) (kdL_map kd_step b2) (List.cons.inj h2).1
  have e2 : a2 = b2 := map_inj' (fun _ _ => stepI_inj) (Dt.tup.inj h2)
  have e1 : a1 = b1 := by
    cases a1 <;> cases b1
    · rfl
    · have h1 : NestedKey.num 0 = .num 1 := h1
      cases h1
    · have h1 : NestedKey.num 1 = .num 0 := h1
      cases h1
    · rfl
  rw [e1, e2]
theorem kd_ok (k : Kd) : kOk (kdD k) 8 = true := by
  show (true && (true && (kOk (.tup (k.2.map stepI)) 7 && true))) = true
  have : kOk (.tup (k.2.map stepI)) 7 = true := by
    show (true && kOkL (k.2.map stepI) 6) = true
    rw [kOkL_map (n := 6) fun _ _ => rfl]; rfl
  rw [this]; rfl
theorem kds_ok {β : Type} (l : List (Kd × β)) : kOkL (l.map fun p => kdD p.1) 8 = true := by
  have e : (l.map fun p => kdD p.1) = (l.map (·.1)).map kdD := by rw [List.map_map]; rfl
  rw [e]
  exact kOkL_map fun a _ => kd_ok a
theorem noDicL_map {α : Type} {f : α → Dt} (h : ∀ a, noDic (f a) = true) : ∀ l : List α, noDicL (l.map f) = true
  | [] => rfl
  | a :: l => by show (noDic (f a) && noDicL (l.map f)) = true; rw [h a, noDicL_map h l]; rfl
theorem kd_noDic (k : Kd) : noDic (kdD k) = true := by
  show (true && (noDicL (k.2.map stepI) && true)) = true
  rw [noDicL_map fun _ => rfl]; rfl
def kindKey (rows : List Row) (l : List (Row × Nat)) (b : Row) : Kd := (decide (b ∈ rows), (behind rows b).map fun d => (d, (alGet l (b ++ [d])).getD 0))
abbrev KSt := List (Row × Nat) × List (Kd × Nat)
def kNew (m : List (Kd × Nat)) (k : Kd) : List (Kd × Nat) := if alHas m k = true then m else m ++ [(k, m.length)]
def kNum (m : List (Kd × Nat)) (k : Kd) : Nat := (alGet m k).getD m.length
def kStep (rows : List Row) (st : KSt) (b : Row) : KSt := (alPut st.1 b (kNum st.2 (kindKey rows st.1 b)), kNew st.2 (kindKey rows st.1 b))
def kFold (rows : List Row) (bs : List Row) : KSt := bs.foldl (kStep rows) ([], [])
def kinds (rows : List Row) : List (Row × Nat) := (kFold rows (begins rows)).1
theorem kFold_snoc {rows bs : List Row} {b : Row} : kFold rows (bs ++ [b]) = kStep rows (kFold rows bs) b := by unfold kFold; rw [List.foldl_append]; rfl
theorem snoc_ind {α : Type} {P : List α → Prop} (h0 : P []) (h1 : ∀ l a, P l → P (l ++ [a])) (l : List α) : P l := by
  have : ∀ m : List α, P m.reverse := fun m => by
    induction m with
    | nil => exact h0
    | cons a m ih => rw [List.reverse_cons]; exact h1 _ _ ih
  have z := this l.reverse
  rwa [List.reverse_reverse] at z
theorem kFold_keys {rows : List Row} {bs : List Row} : ∀ x, x ∈ (kFold rows bs).1.map (·.1) ↔ x ∈ bs := by
  induction bs using snoc_ind with
  | h0 => intro x; exact Iff.rfl
  | h1 bs b ih =>
    intro x
    rw [kFold_snoc]
    show x ∈ (alPut _ b _).map (·.1) ↔ _
    rw [alPut_keys]
    split
    · rename_i h
      rw [ih, List.mem_append, List.mem_singleton]
      refine ⟨.inl, fun z => z.elim id fun e => ?_⟩
      rw [e, ← ih]; exact alHas_iff.mp h
    · rw [List.mem_append, ih, List.mem_append]
theorem kFold_len {rows : List Row} {bs : List Row} : (kFold rows bs).1.length ≤ bs.length ∧ (kFold rows bs).2.length ≤ bs.length := by
  induction bs using snoc_ind with
  | h0 => exact ⟨Nat.le_refl _, Nat.le_refl _⟩
  | h1 bs b ih =>
    rw [kFold_snoc, List.length_append]
    constructor
    · show (alPut _ b _).length ≤ _
      have e := congrArg List.length (alPut_keys (l := (kFold rows bs).1) (q := b) (c := kNum (kFold rows bs).2 (kindKey rows (kFold rows bs).1 b)))
      rw [List.length_map] at e
      rw [e]
      split
      · rw [List.length_map]; show _ ≤ bs.length + 1; omega
      · rw [List.length_append, List.length_map, List.length_singleton]; show _ ≤ bs.length + 1; omega
    · show (kNew _ _).length ≤ _
      unfold kNew
      split
      · show _ ≤ bs.length + 1; omega
      · rw [List.length_append]; show _ + 1 ≤ bs.length + 1; omega
/-- what follows stands ahead -/
theorem later_ahead {rows : List Row} {i : Nat} {b : Row} {d : Deed} (h : (begins rows)[i]? = some b) (hd : d ∈ behind rows b) : b ++ [d] ∈ (begins rows).take i := by
  obtain ⟨r, hr, hp⟩ := mem_behind.mp hd
  have hm : b ++ [d] ∈ begins rows := mem_begins.mpr ⟨r, hr, hp⟩
  obtain ⟨j, hj, e⟩ := List.getElem_of_mem hm
  obtain ⟨hi, e2⟩ := List.getElem?_eq_some_iff.mp h
  have hl : (b ++ [d]).length = b.length + 1 := by rw [List.length_append]; rfl
  by_cases hji : j < i
  · rw [List.mem_take_iff_getElem]
    exact ⟨j, by omega, e⟩
  · exfalso
    by_cases z : j = i
    · subst z
      rw [e2] at e
      rw [← e] at hl
      omega
    · have := List.pairwise_iff_getElem.mp (begins_sorted rows) i j hi hj (by omega)
      rw [e, e2] at this
      omega
theorem alGet_mem' {α β : Type} [DecidableEq α] {l : List (α × β)} {a : α} (h : a ∈ l.map (·.1)) : ∃ b, alGet l a = some b := by
  have := alHas_iff.mpr h
  rw [← alGet_has] at this
  exact Option.isSome_iff_exists.mp this
theorem plnL_rows {rows : List Row} (h : ∀ x ∈ rows, rowNm x = true) : plnL (rows.map rT) 20 = true := by
  induction rows with
  | nil => rfl
  | cons r rows ih =>
    show (pln (rT r) 20 && plnL (rows.map rT) 20) = true
    rw [pln_rT (h r (by simp)), ih fun x hx => h x (List.mem_cons_of_mem _ hx)]; rfl
theorem nm_prefix {rows : List Row} (h : ∀ x ∈ rows, rowNm x = true) {b : Row} (hb : b ∈ begins rows) : rowNm b = true := by
  obtain ⟨r, hr, t, rfl⟩ := mem_begins.mp hb
  have := h _ hr
  unfold rowNm at this ⊢
  rw [List.all_append, Bool.and_eq_true] at this
  exact this.1
section
variable {P : Program} {w : World} {K : PySem.W.Frag} {mg : Str → Option Value} {base : Heap}
def p_kinds : List Dt → Dt → Prop := fun as r => ∃ rows : List Row, as = [rsL rows] ∧ rowsFew rows ∧ r = nD rT intD (kinds rows)
theorem begins_len (rows : List Row) : (begins rows).length ≤ (prefs rows).length := by
  rw [(begins_perm rows).length_eq, List.length_map]
  have := putsT_len (acc := []) (l := prefs rows)
  simpa [begT] using this
theorem ok_kinds (T : Txt K mg) (L : LamT K mg base) : OkD P w K mg base d_kinds_of 3 ["rows"] (spD P w p_kinds) := by
  have nd : (["rows", "found", "known", "begin", "key", "deed"] : List Str).Nodup := by decide +kernel
  refine okD_pure (N := ["rows", "found", "known", "begin", "key", "deed"]) T.n_kinds_of ⟨rfl, rfl, rfl, by decide +kernel, rfl, by decide +kernel, by decide +kernel⟩ (fun _ _ _ _ _ _ us hl => match us, hl with | [_], _ => rfl) ?_
  rintro as r ⟨rows, rfl, hF, rfl⟩
  refine ⟨rfl, fun cdv A outer sh H E hr => ?_⟩
  obtain ⟨h1, h2, h3, h4⟩ := id hF
  have hu : (PX P w K mg base ["rows", "found", "known", "begin", "key", "deed"] d_kinds_of cdv A outer sh H E).A.units + 64 < cLine := hr.units
  have hu5 : (PX P w K mg base ["rows", "found", "known", "begin", "key", "deed"] d_kinds_of cdv A outer sh H E).A.units + 65 < cLine := by have := hr.un; show (A.deeper _).units + 65 < cLine; omega
  refine .cons (.parCX (i := 1) (j := 2) rfl nd (EvO.x (s := nO rT intD ([] : List (Row × Nat))) .newN) (EvO.x (s := nO kdD intD ([] : List (Kd × Nat))) .newN) ?_)
  rintro s t rfl rfl
  refine .cons (.loopT (enc := rT) (ys := begins rows) (fun i ds1 => ∃ a b c, ds1 = [.d (rsL rows), nO rT intD (kFold rows ((begins rows).take i)).1, nO kdD intD (kFold rows ((begins rows).take i)).2, a, b, c]) rfl (.lst (.call (z := .lst ((begins rows).map rT)) (ok_begs T L) T.g_beginnings (hr.mono (by decide)) (.cons (.var 0 rfl) .nil) ⟨rows, rfl, hF, rfl⟩)) ⟨_, _, _, rfl⟩ ?_ ?_)
  · rintro i b ds1 hb0 ⟨a, bb, c, rfl⟩
    have hm := List.mem_of_getElem? hb0
    have hbn := nm_prefix h1 hm
    have hi := (List.getElem?_eq_some_iff.mp hb0).1
    have hbl := begins_len rows
    obtain ⟨kl1, kl2⟩ := kFold_len (rows := rows) (bs := (begins rows).take i)
    rw [List.length_take] at kl1 kl2
    have hfew : (behind rows b).length ≤ rows.length := behind_few
    have e1 : kdD (kindKey rows (kFold rows ((begins rows).take i)).1 b) = .tup [.bl (decide (b ∈ rows)), .tup ((behind rows b).map fun d => stepI (d, (alGet (kFold rows ((begins rows).take i)).1 (b ++ [d])).getD 0))] := by
      unfold kdD kdTs kindKey
      rw [List.map_map]; rfl
    have hl1 : (rows.map rT).length ≤ 100000 := by rw [List.length_map]; omega
    refine ⟨[3], _, .name 3 nd, .cons (.asg 4 nd (.of (d := kdD (kindKey rows (kFold rows ((begins rows).take i)).1 b)) (.view 1 (dd := .nd ((kFold rows ((begins rows).take i)).1.map fun p => rT p.1) ((kFold rows ((begins rows).take i)).1.map fun p => intD p.2)) rfl (.cast (.tup (.cons (.cmp (.inL (x := rT b) (xs := rows.map rT) (k := decide (b ∈ rows)) hu5 (.var 3 rfl) (.var 0 rfl) (pln_rT hbn) (plnL_rows h1) ?_)) (.cons (.tupL (.lcm (enc := dD) (ys := behind rows b) (g := fun d => stepI (d, (alGet (kFold rows ((begins rows).take i)).1 (b ++ [d])).getD 0)) (own := [("deed", 5)]) rfl nd (.lst (.call (z := .lst ((behind rows b).map dD)) (ok_behind T) T.g_deeds_behind (hr.mono (by decide)) (.cons (.var 0 rfl) (.cons (.var 3 rfl) .nil)) ⟨rows, b, rfl, h1, hbn, h3, rfl⟩)) (blk_of rfl) (by omega) fun d hd => ⟨_, [5], by simp, fun s H C cl fp => .name 5 nd, fun s H C cl fp => ?_⟩) T.f_tuple) .nil)) (show 2 ≤ 100000 by decide)) e1.symm) (kd_noDic _))) ?_)⟩
    · rw [decide_eq_true_eq]
      constructor
      · exact fun h => List.mem_map.mpr ⟨_, h, rfl⟩
      · intro h
        obtain ⟨r, g1, g2⟩ := List.mem_map.mp h
        rw [← rT_inj g2]; exact g1
    · obtain ⟨n, hn⟩ := alGet_mem' (l := (kFold rows ((begins rows).take i)).1) ((kFold_keys _).mpr (later_ahead hb0 hd))
      have hbl2 : b.length ≤ 1000 := by
        obtain ⟨r, hr, hp⟩ := mem_begins.mp hm
        have := h4 r hr
        have := hp.length_le
        omega
      have ecat : Dt.tup (b.map dD ++ [dD d]) = rT (b ++ [d]) := by unfold rT; rw [List.map_append]; rfl
      refine .cast (d := .tup [dD d, intD n]) (.tup (.cons (.var 5 rfl) (.cons (.getN (ks := (kFold rows ((begins rows).take i)).1.map fun p => rT p.1) (vs := (kFold rows ((begins rows).take i)).1.map fun p => intD p.2) (ts := b.map dD ++ [dD d]) hu (.var 1 rfl) (.catT (xs := b.map dD) (ys := [dD d]) (.var 3 rfl) (.tup (.cons (.var 5 rfl) .nil) (show 1 ≤ 100000 by decide)) ?_) ?_ (rows_keysOk _) (by rw [ecat]; exact kOk_row _ 8 (by decide))) .nil)) (show 2 ≤ 100000 by decide)) ?_
      · rw [List.length_map]; show b.length + 1 ≤ 100000; omega
      · rw [ecat, nD_get nk_row (e := intD), hn]; rfl
      · rw [hn]; rfl
    · have hk9 : (begins rows).take (i + 1) = (begins rows).take i ++ [b] := by rw [List.take_add_one, hb0]; rfl
      refine .cons (.putSetd (kx := rT) (ky := kdD) (l := (kFold rows ((begins rows).take i)).1) (m := (kFold rows ((begins rows).take i)).2) (a := b) (c := kindKey rows (kFold rows ((begins rows).take i)).1 b) 1 2 hu (by decide) nk_row kd_inj rfl rfl (.var 4 rfl) (fun s' => .var 3 rfl) rfl rfl (rows_keysOk _) (kOk_row b 8 (by decide)) (kds_ok _) (kd_ok _) (by omega) (by omega) ?_ T.f_len)
      refine .nil ⟨.d (rT b), .d (kdD (kindKey rows (kFold rows ((begins rows).take i)).1 b)), c, ?_⟩
      rw [hk9, kFold_snoc]
      rfl
  rintro ds' ⟨a, b, c, rfl⟩
  rw [List.take_length]
  refine .rel 1 (dd := nD rT intD (kinds rows)) rfl ?_
  exact .cons (.ret (.var 1 rfl) rfl)
end
end K66
set_option maxHeartbeats 4000000
namespace K66
variable [TabAt]
open PySem PySem.Spec PyProof.Rows L2
section
variable {X : Cx} {ds : List Sl} {k v : Expr} {es : List Expr} {pos : Pos} {d : Dt}
/-- {k: v}, an own dict -/
theorem EvO.dict1 {i : Int} (hk : EvD X k ds (.int i)) (hv : EvD X v ds d) : EvO X (.Dict [some k] [v] pos) ds (.ok [.inl i] [d]) := fun C H σ S Q q =>
  peW (pe_disp (pps_cons wpE.pe wpE.pe pps_nil) rfl rfl (by simp) (show 1 ≤ 15 by decide)) fun p hp => by
    have x0 : Stp C H C (upd H p (.dK [])) := .only S.le (same_new hp)
    refine hk C _ σ (S.mono x0) _ fun kv C1 H1 x1 i1 => hv C1 H1 σ ((S.mono x0).mono x1) _ fun vv C2 H2 x2 i2 => ?_
    have x12 := x1.trans x2
    have hc : C p = none := S.le.dom p hp
    have h2 : H2 p = some (.dK []) := x12.same _ _ hc upd_same
    have hc2 : C2 p = none := x12.hid p hc (by rw [upd_same]; exact fun z => nomatch z)
    rw [show kv = V.int i from i1]
    refine ⟨h2, [(.inl i, vv)], rfl, (show 1 ≤ 15 by decide), ?_⟩
    have y : Stw (fun b => b = p) C2 H2 C2 (upd H2 p (.dK (mergeK [] [(.inl i, vv)]))) := .out x12.le' hc2 rfl
    exact q _ C2 _ [p] ((Stw.old (W := fun _ => False) (x0.trans x12).w y fun b e => .inr (by rw [e]; exact hp)).stp fun _ z => z) ⟨p, [vv], rfl, rfl, hc2, upd_same, rfl, .one i2⟩ (nd1 p) fun a ha => by rw [List.mem_singleton.mp ha]; exact hp
/-- [..], an own list -/
theorem EvO.lstA {as : List Dt} (h : EvA X es ds as) (hl : as.length ≤ 100000) : EvO X (.List es pos) ds (.ol as) := fun C H σ S Q q =>
  peW (pe_lst wpA.pa) (h C H σ S _ fun vs C1 H1 x1 i1 => ⟨by rw [i1.len]; exact small hl, fun p hp => by
    have hH : H p = none := by
      cases e : H p with
      | none => rfl
      | some o => exact absurd hp (x1.th p (by rw [e]; exact fun z => nomatch z))
    exact q _ C1 _ [p] (x1.trans (.only x1.le' (same_new hp))) ⟨p, vs, rfl, rfl, x1.le'.dom p hp, upd_same, i1⟩ (nd1 p) fun a ha => by rw [List.mem_singleton.mp ha]; exact hH⟩)
end
/-- after either way the same goes on -/
def nxJ (J : List Sl → Prop) : Res → Prop
  | .nx ds => J ds
  | _ => False
theorem S1.ifsJ {X : Cx} {ds : List Sl} {c : Expr} {pos : Pos} {Ψ : Res → Prop} {a b : List Stmt} {k : Bool} (J : List Sl → Prop) (h : EvT X c ds k) (h1 : k = true → Ss X a ds (nxJ J)) (h2 : k = false → Ss X b ds (nxJ J)) (r : ∀ ds', J ds' → Ψ (.nx ds')) : S1 X (.If c a b pos) ds Ψ := by
  have m : ∀ z, nxJ J z → Ψ z := fun z hz => by
    cases z with
    | nx ds' => exact r ds' hz
    | bk _ => exact hz.elim
    | ct _ => exact hz.elim
    | rt _ _ => exact hz.elim
  exact .ifs h (fun z => (h1 z).mono m) fun z => (h2 z).mono m
def kindN (rows : List Row) (b : Row) : Nat := (alGet (kinds rows) b).getD 0
abbrev IS := List (Int × Nat) × List Row × List (Deed × Nat)
def iStep (rows : List Row) (b : Row) (a : IS) (d : Deed) : IS :=
  let k : Int := (kindN rows (b ++ [d]) : Nat)
  let st := if alHas a.1 k = true then a.1 else alPut a.1 k a.2.1.length
  let hd := if alHas a.1 k = true then a.2.1 else a.2.1 ++ [b ++ [d]]
  (st, hd, alPut a.2.2 d ((alGet st k).getD 0))
structure MS where
  st : List (Int × Nat)
  hd : List Row
  steps : List (List (Deed × Nat))
  ends : List Nat
def mTurn (rows : List Row) (s : MS) : MS :=
  let b := s.hd.getD s.steps.length []
  let r := (behind rows b).foldl (iStep rows b) (s.st, s.hd, [])
  ⟨r.1, r.2.1, s.steps ++ [r.2.2], if b ∈ rows then s.ends ++ [s.steps.length] else s.ends⟩
def mStep (rows : List Row) (s : MS) : MS := if s.steps.length < s.hd.length then mTurn rows s else s
def mInit (rows : List Row) : MS := ⟨[((kindN rows [] : Nat), 0)], [[]], [], []⟩
def mIter (rows : List Row) : Nat → MS
  | 0 => mInit rows
  | n + 1 => mStep rows (mIter rows n)
def mach (rows : List Row) : Mch := ((mIter rows (begins rows).length).steps, (mIter rows (begins rows).length).ends)
/-- what holds of the states found so far -/
structure MI (rows : List Row) (st : List (Int × Nat)) (hd : List Row) : Prop where
  sub : ∀ b ∈ hd, b ∈ begins rows
  len : st.length = hd.length
  keys : st.map (·.1) = hd.map fun b => ((kindN rows b : Nat) : Int)
  nd : (st.map (·.1)).Nodup
  vals : ∀ i b, hd[i]? = some b → alGet st ((kindN rows b : Nat) : Int) = some i
theorem MI.hdnd {rows : List Row} {st : List (Int × Nat)} {hd : List Row} (h : MI rows st hd) : hd.Nodup := by
  have := h.nd
  rw [h.keys] at this
  exact List.Pairwise.of_map _ (fun a b hne e => hne (by rw [e])) this
theorem MI.few {rows : List Row} {st : List (Int × Nat)} {hd : List Row} (h : MI rows st hd) : hd.length ≤ (begins rows).length := len_sub h.hdnd h.sub
theorem MI.has {rows : List Row} {st : List (Int × Nat)} {hd : List Row} (h : MI rows st hd) {b : Row} (e : alHas st ((kindN rows b : Nat) : Int) = true) : ∃ i b', hd[i]? = some b' ∧ kindN rows b' = kindN rows b ∧ alGet st ((kindN rows b : Nat) : Int) = some i := by
  have h1 := alHas_iff.mp e
  rw [h.keys] at h1
  obtain ⟨b', hb, eb⟩ := List.mem_map.mp h1
  obtain ⟨i, hi, e2⟩ := List.getElem_of_mem hb
  have h2 : hd[i]? = some b' := by rw [← e2]; exact List.getElem?_eq_getElem hi
  have h3 : kindN rows b' = kindN rows b := by
    have eb : ((kindN rows b' : Nat) : Int) = (kindN rows b : Nat) := eb
    omega
  exact ⟨i, b', h2, h3, by rw [← h3]; exact h.vals i b' h2⟩
theorem MI.step {rows : List Row} {b : Row} {d : Deed} {a : IS} (h : MI rows a.1 a.2.1) (hb : b ++ [d] ∈ begins rows) : MI rows (iStep rows b a d).1 (iStep rows b a d).2.1 ∧ (∃ i b', (iStep rows b a d).2.1[i]? = some b' ∧ kindN rows b' = kindN rows (b ++ [d]) ∧ alGet (iStep rows b a d).1 ((kindN rows (b ++ [d]) : Nat) : Int) = some i) ∧ a.2.1 <+: (iStep rows b a d).2.1 := by
  unfold iStep
  dsimp only
  cases e : alHas a.1 ((kindN rows (b ++ [d]) : Nat) : Int) with
  | true =>
    rw [if_pos rfl, if_pos rfl]
    exact ⟨h, h.has e, List.prefix_refl _⟩
  | false =>
    rw [if_neg Bool.false_ne_true, if_neg Bool.false_ne_true]
    have hno : ((kindN rows (b ++ [d]) : Nat) : Int) ∉ a.1.map (·.1) := fun z => by rw [alHas_iff.mpr z] at e; cases e
    rw [alPut_new hno]
    have hget : alGet (a.1 ++ [(((kindN rows (b ++ [d]) : Nat) : Int), a.2.1.length)]) ((kindN rows (b ++ [d]) : Nat) : Int) = some a.2.1.length := by rw [← alPut_new hno, alGet_put, if_pos rfl]
    refine ⟨⟨fun x hx => ?_, ?_, ?_, ?_, fun i x hx => ?_⟩, ⟨a.2.1.length, b ++ [d], ?_, rfl, hget⟩, List.prefix_append _ _⟩
    · rcases List.mem_append.mp hx with z | z
      · exact h.sub x z
      · rw [List.mem_singleton.mp z]; exact hb
    · rw [List.length_append, List.length_append, h.len]; rfl
    · rw [List.map_append, List.map_append, h.keys]; rfl
    · rw [List.map_append, List.nodup_append]
      exact ⟨h.nd, List.pairwise_singleton _ _, fun x hx y hy z => hno (by have ey : y = ((kindN rows (b ++ [d]) : Nat) : Int) := List.mem_singleton.mp hy; rw [← ey, ← z]; exact hx)⟩
    · by_cases hi : i < a.2.1.length
      · rw [List.getElem?_append_left hi] at hx
        have h1 := h.vals i x hx
        rw [alGet_append, h1]; rfl
      · rw [List.getElem?_append_right (by omega)] at hx
        have h0 : i - a.2.1.length = 0 := by
          have := (List.getElem?_eq_some_iff.mp hx).1
          simp at this
          exact this
        rw [h0] at hx
        cases hx
        rw [hget]
        congr 1
        omega
    · rw [List.getElem?_append_right (Nat.le_refl _), Nat.sub_self]; rfl
theorem MI.init {rows : List Row} (h : [] ∈ begins rows) : MI rows (mInit rows).st (mInit rows).hd := by
  refine ⟨fun b hb => ?_, rfl, rfl, List.pairwise_singleton _ _, fun i b hb => ?_⟩
  · rw [List.mem_singleton.mp hb]; exact h
  · cases i with
    | zero =>
      cases hb
      show alGet [(((kindN rows [] : Nat) : Int), 0)] _ = _
      unfold alGet
      rw [if_pos rfl]
    | succ i => cases hb
/-- the inner loop -/
theorem MI.fold {rows : List Row} {b : Row} : ∀ {l : List Deed} {a : IS}, MI rows a.1 a.2.1 → (∀ d ∈ l, b ++ [d] ∈ begins rows) → MI rows (l.foldl (iStep rows b) a).1 (l.foldl (iStep rows b) a).2.1 ∧ a.2.1 <+: (l.foldl (iStep rows b) a).2.1
  | [], a, h, _ => ⟨h, List.prefix_refl _⟩
  | d :: l, a, h, hb => by
    obtain ⟨h1, _, h2⟩ := h.step (hb d (by simp))
    obtain ⟨h3, h4⟩ := MI.fold (l := l) h1 fun x hx => hb x (List.mem_cons_of_mem _ hx)
    exact ⟨h3, h2.trans h4⟩
theorem behind_begins {rows : List Row} {b : Row} {d : Deed} (h : d ∈ behind rows b) : b ++ [d] ∈ begins rows := mem_begins.mpr (mem_behind.mp h)
theorem MI.turn {rows : List Row} {s : MS} (h : MI rows s.st s.hd) : MI rows (mTurn rows s).st (mTurn rows s).hd ∧ s.hd <+: (mTurn rows s).hd :=
  MI.fold (a := (s.st, s.hd, [])) h fun _ hd => behind_begins hd
theorem MI.iter {rows : List Row} (h0 : [] ∈ begins rows) : ∀ n, MI rows (mIter rows n).st (mIter rows n).hd
  | 0 => .init h0
  | n + 1 => by
    show MI rows (mStep rows (mIter rows n)).st (mStep rows (mIter rows n)).hd
    unfold mStep
    split
    · exact (MI.iter h0 n).turn.1
    · exact MI.iter h0 n
theorem mIter_stop {rows : List Row} {n : Nat} (h : (mIter rows n).hd.length ≤ (mIter rows n).steps.length) : ∀ m, n ≤ m → mIter rows m = mIter rows n := by
  intro m hm
  obtain ⟨k, rfl⟩ : ∃ k, m = n + k := ⟨m - n, by omega⟩
  clear hm
  induction k with
  | zero => rfl
  | succ k ih =>
    show mStep rows (mIter rows (n + k)) = _
    rw [ih]
    unfold mStep
    rw [if_neg (by omega)]
theorem mIter_go {rows : List Row} {n : Nat} (h : (mIter rows n).steps.length < (mIter rows n).hd.length) : mIter rows (n + 1) = mTurn rows (mIter rows n) := by
  show mStep rows (mIter rows n) = _
  unfold mStep
  rw [if_pos h]
theorem nk_deed (a b : Deed) (h : nk (dD a) = nk (dD b)) : a = b := dD_inj (nk_inj _ _ (kd_deed _) (kd_deed _) h)
theorem kinds_get {rows : List Row} {b : Row} (h : b ∈ begins rows) : alGet (kinds rows) b = some (kindN rows b) := by
  obtain ⟨n, hn⟩ := alGet_mem' (l := kinds rows) ((kFold_keys b).mpr h)
  unfold kindN
  rw [hn]; rfl
end K66
set_option maxHeartbeats 4000000
namespace K66
variable [TabAt]
open PySem PySem.Spec PyProof.Rows L2
def intT (l : List (Int × Nat)) : Sl := iO intD l
def stO (l : List (Deed × Nat)) : Sl := nO dD intD l
theorem iO_getD {l : List (Int × Nat)} {q : Int} {n : Nat} (h : alGet l q = some n) : dGet (l.map fun p => .inl p.1) (l.map fun p => intD p.2) (.inl q) = some (intD n) := by rw [iD_get, h]; rfl
section
variable {P : Program} {w : World} {K : PySem.W.Frag} {mg : Str → Option Value} {base : Heap}
def p_mach (K : PySem.W.Frag) : List Dt → Dt → Prop := fun as r => ∃ (hs : List Str) (B : List Rows) (h : Str), as = [bookD K B, .str h] ∧ Bk' hs B ∧ B.length ≤ 4 ∧ h ∈ hs ∧ rowsFew (rowSet (colOf B h)) ∧ r = mchD (mach (rowSet (colOf B h)))
theorem nil_begins {rows : List Row} (h : rows ≠ []) : [] ∈ begins rows := by
  cases rows with
  | nil => exact absurd rfl h
  | cons r rows => exact mem_begins.mpr ⟨r, by simp, r, rfl⟩
theorem ok_mach (T : Txt K mg) (L : LamT K mg base) : OkD P w K mg base d_machine 4 ["book", "hand"] (spD P w (p_mach K)) := by
  have nd : (["book", "hand", "rows", "kinds", "states", "heads", "steps", "ends", "begin", "step", "deed", "later"] : List Str).Nodup := by decide +kernel
  refine okD_pure (N := ["book", "hand", "rows", "kinds", "states", "heads", "steps", "ends", "begin", "step", "deed", "later"]) T.n_machine ⟨rfl, rfl, rfl, by decide +kernel, rfl, by decide +kernel, by decide +kernel⟩ (fun _ _ _ _ _ _ us hl => match us, hl with | [_, _], _ => rfl) ?_
  rintro as r ⟨hs, B, h, rfl, hB, h4, hh, hF, rfl⟩
  refine ⟨rfl, fun cdv A outer sh H E hr => ?_⟩
  obtain ⟨f1, f2, f3, f4⟩ := id hF
  have hu : (PX P w K mg base ["book", "hand", "rows", "kinds", "states", "heads", "steps", "ends", "begin", "step", "deed", "later"] d_machine cdv A outer sh H E).A.units + 64 < cLine := hr.units
  have hu5 : (PX P w K mg base ["book", "hand", "rows", "kinds", "states", "heads", "steps", "ends", "begin", "step", "deed", "later"] d_machine cdv A outer sh H E).A.units + 65 < cLine := by have := hr.un; show (A.deeper _).units + 65 < cLine; omega
  obtain ⟨hnd, hl4⟩ := hB.hsnd
  generalize hrows : rowSet (colOf B h) = rows at *
  have hne : rows ≠ [] := by
    obtain ⟨R, hR, _⟩ := hB.head
    have hm : rowAt R h ∈ rowSet (colOf B h) := mem_rowSet.mpr (List.mem_map.mpr ⟨R, List.mem_of_getElem? hR, rfl⟩)
    rw [hrows] at hm
    intro z
    rw [z] at hm
    simp at hm
  have h0 := nil_begins hne
  have hbl := begins_len rows
  have hlk : (kinds rows).length ≤ 50000 := by
    have := (kFold_len (rows := rows) (bs := begins rows)).1
    unfold kinds
    omega
  refine .cons (.expr (.call (z := .non) (ok_want_hand T) T.g_want_hand (hr.mono (by decide)) (.cons (.meth0 (f := "own_pictures") (d := .tup (B.map (picD K))) (z := .lst (hs.map .str)) (ok_Bhands T) (.var 0 rfl) (He.cls_ok T.cls_Book) (He.meth_ok T.meth_Book_hands) (hr.mono (by decide)) ⟨hs, B, rfl, hB, rfl⟩) (.cons (.var 1 rfl) .nil)) ⟨hs, h, rfl, hh, rfl⟩) ?_)
  refine .cons (.asg 2 nd (.of (d := rsL rows) (.getS (e := rsL) (l := rbh hs B) hu (.call (z := sD rsL (rbh hs B)) (ok_rbh T) T.g_rows_by_hand (hr.mono (by decide)) (.cons (.var 0 rfl) .nil) ⟨hs, B, rfl, hB, h4, rfl⟩) (.var 1 rfl) (by rw [rbh_get hnd hh, hrows]))) ?_)
  refine .cons (.asg 3 nd (.of (d := nD rT intD (kinds rows)) (.call (ok_kinds T L) T.g_kinds_of hr (.cons (.var 2 rfl) .nil) ⟨rows, rfl, hF, rfl⟩)) ?_)
  -- reading a kind
  have kget : ∀ {X : Cx} {ds : List Sl} {e : Expr} {p1 p2 : Pos} {b : Row}, X.A.units + 64 < cLine → ds[3]? = some (.d (nD rT intD (kinds rows))) → X.N[3]? = some ("kinds" : Str) → Vis X.env.scope ("kinds" : Str) → EvD X e ds (rT b) → PlainIx e → b ∈ begins rows → EvD X (.Subscript (.Name "kinds" p1) e p2) ds (intD (kindN rows b)) := fun {X ds e p1 p2 b} hu hds hN hv he hp hb =>
    .getN (ks := (kinds rows).map fun p => rT p.1) (vs := (kinds rows).map fun p => intD p.2) (ts := b.map dD) hu (EvD.var (d := nD rT intD (kinds rows)) 3 hds hN hv) he (by rw [show Dt.tup (b.map dD) = rT b from rfl, nD_get nk_row (e := intD), kinds_get hb]; rfl) (rows_keysOk _) (kOk_row b 8 (by decide)) hp
  refine .cons (.par (i := 4) (j := 5) rfl nd (s := intT (mInit rows).st) (t := .ol ((mInit rows).hd.map rT)) (.dict1 (i := (kindN rows [] : Nat)) (d := intD 0) (kget hu rfl rfl (.inl rfl) (.tup .nil (Nat.zero_le _)) (fun _ _ => rfl) h0) .int) (.lstA (as := [rT []]) (.cons (.tup .nil (Nat.zero_le _)) .nil) (show 1 ≤ 100000 by decide)) ?_)
  refine .cons (.par (i := 6) (j := 7) rfl nd (s := .ol []) (t := .ol []) .nilL .nilL ?_)
  refine .cons (.whl (fun m ds1 => ∃ n a b c d, m = (begins rows).length - n ∧ n ≤ (begins rows).length ∧ (mIter rows n).steps.length = n ∧ (mIter rows n).ends.length ≤ n ∧ (∀ l ∈ (mIter rows n).steps, l.length ≤ 1000) ∧
    ds1 = [.d (bookD K B), .d (.str h), .d (rsL rows), .d (nD rT intD (kinds rows)), intT (mIter rows n).st, .ol ((mIter rows n).hd.map rT), .ol ((mIter rows n).steps.map stD), .ol ((mIter rows n).ends.map intD), a, b, c, d]) (m0 := (begins rows).length) ⟨0, _, _, _, _, by rw [Nat.sub_zero], Nat.zero_le _, rfl, Nat.le_refl _, (fun l hl => by simp [mIter, mInit] at hl), rfl⟩ ?_)
  rintro m ds1 ⟨n, a, b, c, d, rfl, hn, hst, hen, hsl, rfl⟩
  have mi := MI.iter h0 n
  have hfew := mi.few
  refine ⟨decide ((((mIter rows n).steps.map stD).length : Int) < ((mIter rows n).hd.map rT).length), .cmp (.lt (.lenO 6 rfl T.f_len) (.lenO 5 rfl T.f_len)), fun hk => ?_, fun hk => ?_⟩
  · have hlt : (mIter rows n).steps.length < (mIter rows n).hd.length := by
      have := of_decide_eq_true hk
      rw [List.length_map, List.length_map] at this
      omega
    have hnb : n < (begins rows).length := by omega
    obtain ⟨bg, hbg⟩ : ∃ bg, (mIter rows n).hd[(mIter rows n).steps.length]? = some bg := ⟨_, List.getElem?_eq_getElem hlt⟩
    have ebg : (mIter rows n).hd.getD (mIter rows n).steps.length [] = bg := by rw [List.getD_eq_getElem?_getD, hbg]; rfl
    have hbm : bg ∈ begins rows := mi.sub bg (List.mem_of_getElem? hbg)
    have hbnm := nm_prefix f1 hbm
    have hbl2 : bg.length ≤ 1000 := by
      obtain ⟨r, hr, hp⟩ := mem_begins.mp hbm
      have := f4 r hr
      have := hp.length_le
      omega
    have hbf : (behind rows bg).length ≤ rows.length := behind_few
    refine .cons (.par (i := 8) (j := 9) rfl nd (s := .d (rT bg)) (t := stO []) (.of (.ixO (n := (mIter rows n).steps.length) 5 (xs := (mIter rows n).hd.map rT) rfl (.cast (.lenO 6 rfl T.f_len) (by rw [List.length_map])) (by rw [List.getElem?_map, hbg]; rfl))) .newN ?_)
    refine .cons (.loopT (enc := dD) (ys := behind rows bg) (fun i ds1 => ∃ c d, ds1 = [.d (bookD K B), .d (.str h), .d (rsL rows), .d (nD rT intD (kinds rows)), intT (((behind rows bg).take i).foldl (iStep rows bg) ((mIter rows n).st, (mIter rows n).hd, [])).1, .ol ((((behind rows bg).take i).foldl (iStep rows bg) ((mIter rows n).st, (mIter rows n).hd, [])).2.1.map rT), .ol ((mIter rows n).steps.map stD), .ol ((mIter rows n).ends.map intD), .d (rT bg), stO (((behind rows bg).take i).foldl (iStep rows bg) ((mIter rows n).st, (mIter rows n).hd, [])).2.2, c, d]) rfl
      (.lst (.call (z := .lst ((behind rows bg).map dD)) (ok_behind T) T.g_deeds_behind (hr.mono (by decide)) (.cons (.var 2 rfl) (.cons (.var 8 rfl) .nil)) ⟨rows, bg, rfl, f1, hbnm, f3, rfl⟩)) ⟨_, _, rfl⟩ ?_ ?_)
    · rintro i dd ds1 hd0 ⟨c, d, rfl⟩
      have hdm := List.mem_of_getElem? hd0
      have hlm := behind_begins hdm
      generalize hacc : ((behind rows bg).take i).foldl (iStep rows bg) ((mIter rows n).st, (mIter rows n).hd, []) = acc
      have hmi : MI rows acc.1 acc.2.1 := by
        rw [← hacc]
        exact (MI.fold (a := ((mIter rows n).st, (mIter rows n).hd, [])) mi fun x hx => behind_begins (List.mem_of_mem_take hx)).1
      have hst2 : acc.2.2.length ≤ i := by
        rw [← hacc]
        have : ∀ (l : List Deed) (a : IS), (l.foldl (iStep rows bg) a).2.2.length ≤ a.2.2.length + l.length := fun l => by
          induction l with
          | nil => exact fun a => Nat.le_refl _
          | cons x l ih =>
            intro a
            have h1 := ih (iStep rows bg a x)
            have h2 : (iStep rows bg a x).2.2.length ≤ a.2.2.length + 1 := by
              show (alPut a.2.2 x _).length ≤ _
              have e := congrArg List.length (alPut_keys (l := a.2.2) (q := x) (c := (alGet (iStep rows bg a x).1 ((kindN rows (bg ++ [x]) : Nat) : Int)).getD 0))
              rw [List.length_map] at e
              refine Nat.le_trans (Nat.le_of_eq e) ?_
              split
              · rw [List.length_map]; omega
              · rw [List.length_append, List.length_map]; exact Nat.le_refl _
            rw [List.foldl_cons, List.length_cons]
            omega
        have h3 := this ((behind rows bg).take i) ((mIter rows n).st, (mIter rows n).hd, [])
        rw [List.length_take] at h3
        simp only [List.length_nil] at h3
        omega
      have hi : i < (behind rows bg).length := (List.getElem?_eq_some_iff.mp hd0).1
      have htk : (behind rows bg).take (i + 1) = (behind rows bg).take i ++ [dd] := by rw [List.take_add_one, hd0]; rfl
      have hnext : ((behind rows bg).take (i + 1)).foldl (iStep rows bg) ((mIter rows n).st, (mIter rows n).hd, []) = iStep rows bg acc dd := by rw [htk, List.foldl_append, hacc]; rfl
      have hfa := hmi.few
      have hla := hmi.len
      have ecat : Dt.tup (bg.map dD ++ [dD dd]) = rT (bg ++ [dd]) := by unfold rT; rw [List.map_append]; rfl
      obtain ⟨hmi2, ⟨j, b', hj1, hj2, hj3⟩, _⟩ := hmi.step hlm
      refine ⟨[10], _, .name 10 nd, .cons (.asg 11 nd (.of (d := rT (bg ++ [dd])) (.cast (.catT (xs := bg.map dD) (ys := [dD dd]) (.var 8 rfl) (.tup (.cons (.var 10 rfl) .nil) (show 1 ≤ 100000 by decide)) (by rw [List.length_map]; show bg.length + 1 ≤ 100000; omega)) ecat)) ?_)⟩
      refine .cons (.ifsJ (k := !alHas acc.1 ((kindN rows (bg ++ [dd]) : Nat) : Int)) (fun ds' => ds' = [.d (bookD K B), .d (.str h), .d (rsL rows), .d (nD rT intD (kinds rows)), intT (iStep rows bg acc dd).1, .ol ((iStep rows bg acc dd).2.1.map rT), .ol ((mIter rows n).steps.map stD), .ol ((mIter rows n).ends.map intD), .d (rT bg), stO acc.2.2, .d (dD dd), .d (rT (bg ++ [dd]))]) (.view 4 (dd := iDt intD acc.1) rfl (.cmp (.cast (.notInK (k := .inl ((kindN rows (bg ++ [dd]) : Nat) : Int)) hu (kget hu rfl rfl (.inl rfl) (.var 11 rfl) (fun _ _ => rfl) hlm) (.var 4 rfl)) ?_))) (fun hk2 => ?_) (fun hk2 => ?_) ?_)
      · rw [iD_get, Option.isSome_map, alGet_has]
      · have hno : alHas acc.1 ((kindN rows (bg ++ [dd]) : Nat) : Int) = false := by simpa using hk2
        refine .cons (.putK (k := .inl ((kindN rows (bg ++ [dd]) : Nat) : Int)) (d := intD acc.2.1.length) 4 hu rfl (.cast (.lenO 5 rfl T.f_len) (by rw [List.length_map]; rfl)) (kget hu rfl rfl (.inl rfl) (.var 11 rfl) (fun _ _ => rfl) hlm) (by rw [List.length_map]; omega) ?_)
        refine .cons (.append 5 (d := rT (bg ++ [dd])) rfl (.var 11 rfl) (by rw [List.length_map]; omega) ?_)
        refine .nil ?_
        have h6 := iO_put (e := intD) (l := acc.1) (q := ((kindN rows (bg ++ [dd]) : Nat) : Int)) (c := acc.2.1.length)
        have e1 : (iStep rows bg acc dd).1 = alPut acc.1 ((kindN rows (bg ++ [dd]) : Nat) : Int) acc.2.1.length := by unfold iStep; dsimp only; rw [hno, if_neg Bool.false_ne_true]
        have e2 : (iStep rows bg acc dd).2.1 = acc.2.1 ++ [bg ++ [dd]] := by unfold iStep; dsimp only; rw [hno, if_neg Bool.false_ne_true]
        show _ = _
        rw [e1, e2, List.map_append]
        unfold intT
        rw [← h6]
        rfl
      · have hyes : alHas acc.1 ((kindN rows (bg ++ [dd]) : Nat) : Int) = true := by simpa using hk2
        refine .nil ?_
        have e1 : (iStep rows bg acc dd).1 = acc.1 := by unfold iStep; dsimp only; rw [hyes, if_pos rfl]
        have e2 : (iStep rows bg acc dd).2.1 = acc.2.1 := by unfold iStep; dsimp only; rw [hyes, if_pos rfl]
        show _ = _
        rw [e1, e2]
        rfl
      rintro ds' rfl
      refine .cons (.putN (d := intD j) (ts := deedI dd) 9 hu rfl (.view 4 (dd := iDt intD (iStep rows bg acc dd).1) rfl (.getK (k := .inl ((kindN rows (bg ++ [dd]) : Nat) : Int)) hu (.var 4 rfl) (kget hu rfl rfl (.inl rfl) (.var 11 rfl) (fun _ _ => rfl) hlm) (iO_getD hj3)) rfl) (.var 10 rfl) (kOkL_deeds _) rfl (by rw [List.length_map]; omega) (.nil ⟨.d (dD dd), .d (rT (bg ++ [dd])), ?_⟩))
      rw [hnext]
      have h6 := nO_put nk_deed (e := intD) (l := acc.2.2) (q := dd) (c := j)
      have h7 : (iStep rows bg acc dd).2.2 = alPut acc.2.2 dd j := by
        show alPut acc.2.2 dd ((alGet (iStep rows bg acc dd).1 ((kindN rows (bg ++ [dd]) : Nat) : Int)).getD 0) = _
        rw [hj3]; rfl
      rw [h7]
      unfold stO
      rw [← h6]; rfl
    rintro ds' ⟨c, d, rfl⟩
    rw [List.take_length]
    have hgo := mIter_go hlt
    have hb2 : (behind rows bg).foldl (iStep rows bg) ((mIter rows n).st, (mIter rows n).hd, []) = ((mTurn rows (mIter rows n)).st, (mTurn rows (mIter rows n)).hd, ((behind rows bg).foldl (iStep rows bg) ((mIter rows n).st, (mIter rows n).hd, [])).2.2) := by
      unfold mTurn; dsimp only; rw [ebg]
    have hsteps : (mIter rows (n + 1)).steps = (mIter rows n).steps ++ [((behind rows bg).foldl (iStep rows bg) ((mIter rows n).st, (mIter rows n).hd, [])).2.2] := by rw [hgo]; unfold mTurn; dsimp only; rw [ebg]
    have hends : (mIter rows (n + 1)).ends = if bg ∈ rows then (mIter rows n).ends ++ [(mIter rows n).steps.length] else (mIter rows n).ends := by rw [hgo]; unfold mTurn; dsimp only; rw [ebg]
    have hst3 : (((behind rows bg).foldl (iStep rows bg) ((mIter rows n).st, (mIter rows n).hd, [])).2.2).length ≤ 1000 := by
      have : ∀ (l : List Deed) (a : IS), (l.foldl (iStep rows bg) a).2.2.length ≤ a.2.2.length + l.length := fun l => by
        induction l with
        | nil => exact fun a => Nat.le_refl _
        | cons x l ih =>
          intro a
          have h1 := ih (iStep rows bg a x)
          have h2 : (iStep rows bg a x).2.2.length ≤ a.2.2.length + 1 := by
            show (alPut a.2.2 x _).length ≤ _
            have e := congrArg List.length (alPut_keys (l := a.2.2) (q := x) (c := (alGet (iStep rows bg a x).1 ((kindN rows (bg ++ [x]) : Nat) : Int)).getD 0))
            rw [List.length_map] at e
            refine Nat.le_trans (Nat.le_of_eq e) ?_
            split
            · rw [List.length_map]; omega
            · rw [List.length_append, List.length_map]; exact Nat.le_refl _
          rw [List.foldl_cons, List.length_cons]
          omega
      have h3 := this (behind rows bg) ((mIter rows n).st, (mIter rows n).hd, [])
      simp only [List.length_nil] at h3
      omega
    refine .cons (.ifsJ (k := decide (bg ∈ rows)) (fun ds' => ds' = [.d (bookD K B), .d (.str h), .d (rsL rows), .d (nD rT intD (kinds rows)), intT ((behind rows bg).foldl (iStep rows bg) ((mIter rows n).st, (mIter rows n).hd, [])).1, .ol (((behind rows bg).foldl (iStep rows bg) ((mIter rows n).st, (mIter rows n).hd, [])).2.1.map rT), .ol ((mIter rows n).steps.map stD), .ol ((mIter rows (n + 1)).ends.map intD), .d (rT bg), stO ((behind rows bg).foldl (iStep rows bg) ((mIter rows n).st, (mIter rows n).hd, [])).2.2, c, d]) (.cmp (.inL (x := rT bg) (xs := rows.map rT) (k := decide (bg ∈ rows)) hu5 (.var 8 rfl) (.var 2 rfl) (pln_rT hbnm) (plnL_rows f1) ?_)) (fun hk2 => ?_) (fun hk2 => ?_) ?_)
    · rw [decide_eq_true_eq]
      constructor
      · exact fun h => List.mem_map.mpr ⟨_, h, rfl⟩
      · intro h
        obtain ⟨r, g1, g2⟩ := List.mem_map.mp h
        rw [← rT_inj g2]; exact g1
    · have hin := of_decide_eq_true hk2
      refine .cons (.append 7 (d := intD (mIter rows n).steps.length) rfl (.cast (.lenO 6 rfl T.f_len) (by rw [List.length_map]; rfl)) (by rw [List.length_map]; omega) (.nil ?_))
      show _ = _
      rw [hends, if_pos hin, List.map_append]
      rfl
    · have hin := of_decide_eq_false hk2
      refine .nil ?_
      show _ = _
      rw [hends, if_neg hin]
    rintro ds' rfl
    refine .rel 9 (dd := stD ((behind rows bg).foldl (iStep rows bg) ((mIter rows n).st, (mIter rows n).hd, [])).2.2) rfl (.cons (.append 6 (d := stD ((behind rows bg).foldl (iStep rows bg) ((mIter rows n).st, (mIter rows n).hd, [])).2.2) rfl (.var 9 rfl) (by rw [List.length_map]; omega) (.nil ⟨(begins rows).length - (n + 1), by omega, n + 1, .d (rT bg), .d (stD ((behind rows bg).foldl (iStep rows bg) ((mIter rows n).st, (mIter rows n).hd, [])).2.2), c, d, rfl, by omega, by rw [hsteps, List.length_append, hst]; rfl, ?_, ?_, ?_⟩)))
    · rw [hends]
      split
      · rw [List.length_append]; show _ + 1 ≤ n + 1; omega
      · omega
    · intro l hl
      rw [hsteps] at hl
      rcases List.mem_append.mp hl with z | z
      · exact hsl l z
      · rw [List.mem_singleton.mp z]; exact hst3
    · have e1 : (mIter rows (n + 1)).st = ((behind rows bg).foldl (iStep rows bg) ((mIter rows n).st, (mIter rows n).hd, [])).1 := by rw [hgo, hb2]
      have e2 : (mIter rows (n + 1)).hd = ((behind rows bg).foldl (iStep rows bg) ((mIter rows n).st, (mIter rows n).hd, [])).2.1 := by rw [hgo, hb2]
      rw [e1, e2, hsteps, List.map_append]
      rfl
  · have hge : (mIter rows n).hd.length ≤ (mIter rows n).steps.length := by
      have := of_decide_eq_false hk
      rw [List.length_map, List.length_map] at this
      omega
    have hm : mach rows = ((mIter rows n).steps, (mIter rows n).ends) := by unfold mach; rw [mIter_stop hge _ hn]
    rw [hm]
    exact .relL 6 rfl (.relL 7 rfl (.cons (.ret (.tup (.cons (.var 6 rfl) (.cons (.var 7 rfl) .nil)) (show 2 ≤ 100000 by decide)) rfl)))
end
end K66
set_option maxHeartbeats 4000000
namespace K66
variable [TabAt]
open PySem PySem.Spec PyProof.Rows L2
section
variable {X : Cx} {ds : List Sl} {Ψ : Res → Prop} {e a b : Expr} {pos pos' p q1 q2 cp : Pos}
def any : Int → Prop := fun _ => True
theorem EvX.xi {i : Int} (h : EvD X e ds (.int i)) : EvX X e ds (intP fun j => j = i) := h.x.imp fun s hs => ⟨i, hs, rfl⟩
theorem EvX.opI {op : Operator} {Co : Int → Int → Prop} {g : Int → Int → Int} {A B : Int → Prop} (ho : OpR X (binaryOp op) (rI Co fun i j => .int (g i j))) (ha : EvX X a ds (intP A)) (hb : EvX X b ds (intP B)) (hC : ∀ i j, A i → B j → Co i j) : EvX X (.BinOp a op b pos) ds (intP fun k => ∃ i j, A i ∧ B j ∧ k = g i j) := fun C H σ S Q q =>
  peW (pe_op ho wpE.pe wpE.pe) (ha.run intP_d S fun v C1 H1 d x1 po i1 ⟨i, e, hi⟩ => hb.run intP_d (S.draw x1 po) fun u C2 H2 d2 x2 po2 i2 ⟨j, e2, hj⟩ => by
    cases e
    cases e2
    rw [show v = V.int i from i1, show u = V.int j from i2]
    exact ⟨i, j, rfl, rfl, hC i j hi hj, q _ C2 H2 (.d (.int (g i j))) [] (x1.trans x2) po2 (.ofD rfl) List.nodup_nil (fun a h => by simp at h) ⟨_, rfl, i, j, hi, hj, rfl⟩⟩)
theorem EvX.opI0 {op : Operator} {g : Int → Int → Int} {A B : Int → Prop} (ho : OpR X (binaryOp op) (rI0 fun i j => .int (g i j))) (ha : EvX X a ds (intP A)) (hb : EvX X b ds (intP B)) : EvX X (.BinOp a op b pos) ds (intP fun k => ∃ i j, A i ∧ B j ∧ k = g i j) := fun C H σ S Q q =>
  peW (pe_op ho wpE.pe wpE.pe) (ha.run intP_d S fun v C1 H1 d x1 po i1 ⟨i, e, hi⟩ => hb.run intP_d (S.draw x1 po) fun u C2 H2 d2 x2 po2 i2 ⟨j, e2, hj⟩ => by
    cases e
    cases e2
    rw [show v = V.int i from i1, show u = V.int j from i2]
    exact ⟨i, j, rfl, rfl, q _ C2 H2 (.d (.int (g i j))) [] (x1.trans x2) po2 (.ofD rfl) List.nodup_nil (fun a h => by simp at h) ⟨_, rfl, i, j, hi, hj, rfl⟩⟩)
/-- int(e) -/
theorem EvX.int1 {A : Int → Prop} (ha : EvX X a ds (intP A)) (hm : X.mg "int" = none) (hg : Gl X "int" := by rfl) (hst : starEach [a] X.env = (false, eval a X.env) :: starEach [] X.env := by rfl) : EvX X (.Call (.Name "int" p) [a] [] pos) ds (intP A) := fun C H σ S Q q =>
  peW (pe_callTy call_int1 hg hm (by decide +kernel) (pa_cons wpE.pe pa_nil hst) (by decide) (by decide) hst) (ha.run intP_d S fun v C1 H1 d x1 po i1 ⟨i, e, hi⟩ => by
    cases e
    rw [show v = V.int i from i1]
    exact .inl ⟨i, rfl, q _ C1 H1 (.d (.int i)) [] x1 po (.ofD rfl) List.nodup_nil (fun a h => by simp at h) ⟨_, rfl, hi⟩⟩)
/-- pot[0], pot[1] -/
def potP (n : Nat) : Int → Prop := fun j => n = 1 → 0 ≤ j ∧ j < 1099511627776
theorem EvX.pot (i n : Nat) {y : Str} {pa : Addr} (hp : ds[i]? = some (.pot pa)) (hn : n < 2) (hb : EvD X b ds (.int (n : Nat))) (hN : X.N[i]? = some y := by rfl) (hv : Vis X.env.scope y := by first | exact Or.inl rfl | exact Or.inr (Or.inl rfl) | exact Or.inr (Or.inr rfl))
    (hd : (y == ("__debug__" : Str)) = false := by decide) (hcd : (y == ("__classdict__" : Str)) = false := by decide) (hs : PlainIx b := by exact fun _ _ => rfl) : EvX X (.Subscript (.Name y q1) b pos) ds (intP (potP n)) := fun C H σ S Q q => by
  obtain ⟨fp, e1, e2, c1, x, z, hz, h2⟩ := S.sl i _ hp
  refine peW (pe_ix ix_list wpE.pe wpE.pe hs) (nameW e2 (hb C H σ S _ fun u C1 H1 x1 i1 => ?_) hN hv hd hcd)
  have h3 := x1.same _ _ c1 h2
  have po := (S.mono x1).pots
  match n, hn with
  | 0, _ => exact ⟨pa, [.int x, .int z], (0 : Nat), .int x, rfl, i1, .inl (.inl h3), atI_nat rfl, q _ C1 H1 (.d (.int x)) [] x1.w po (.ofD rfl) List.nodup_nil (fun a h => by simp at h) ⟨x, rfl, fun z => by omega⟩⟩
  | 1, _ => exact ⟨pa, [.int x, .int z], (1 : Nat), .int z, rfl, i1, .inl (.inl h3), atI_nat rfl, q _ C1 H1 (.d (.int z)) [] x1.w po (.ofD rfl) List.nodup_nil (fun a h => by simp at h) ⟨z, rfl, fun _ => hz⟩⟩
/-- a pot written -/
theorem pot_put {C H C1 H1 : Hp} {pa : Addr} {x z : Int} (hp : pw ds pa) (y : Stw (pw ds) C H C1 H1) (po : PotsOk C1 H1 ds) (hz : 0 ≤ z ∧ z < 1099511627776) : Stw (pw ds) C H C1 (upd H1 pa (.lst [.int x, .int z])) ∧ PotsOk C1 (upd H1 pa (.lst [.int x, .int z])) ds := by
  obtain ⟨c1, _⟩ := po pa hp
  refine ⟨y.trans (.out y.le' c1 hp), fun a ha => ?_⟩
  obtain ⟨c2, x2, z2, b2, h2⟩ := po a ha
  refine ⟨c2, ?_⟩
  by_cases e : a = pa
  · rw [e]; exact ⟨x, z, hz, upd_same⟩
  · exact ⟨x2, z2, b2, by rw [upd_ne e]; exact h2⟩
/-- pot[1] = e -/
theorem S1.setPot1 (i : Nat) {y : Str} {pa : Addr} (hp : ds[i]? = some (.pot pa)) (he : EvX X e ds (intP fun z => 0 ≤ z ∧ z < 1099511627776)) (hb : EvD X b ds (.int ((1 : Nat) : Int))) (k : Ψ (.nx ds)) (hN : X.N[i]? = some y := by rfl) (hv : Vis X.env.scope y := by first | exact Or.inl rfl | exact Or.inr (Or.inl rfl) | exact Or.inr (Or.inr rfl))
    (hd : (y == ("__debug__" : Str)) = false := by decide) (hcd : (y == ("__classdict__" : Str)) = false := by decide) (hsw : swapsWithSole [.Subscript (.Name y q1) b pos'] e pos.line X.env = pure false := by rfl) (hw : swappedStores [.Subscript (.Name y q1) b pos'] e X.env = pure none := by rfl)
    (h1 : (assignEach [.Subscript (.Name y q1) b pos'] X.env).map (·.2) = [assign (.Subscript (.Name y q1) b pos') X.env] := by rfl)
    (ha : ∀ v, assign (.Subscript (.Name y q1) b pos') X.env v = (do
      let ov ← holding [v] (eval (.Name y q1) X.env)
      let iv ← holding [v, ov] (eval b X.env)
      standAt pos'
      holding [v, ov, iv] (setItem ov iv v)
      release [v, ov, iv] []) := by intro _; rfl) : S1 X (.Assign [.Subscript (.Name y q1) b pos'] e pos) ds Ψ := fun W C0 H0 C H σ D w0 ⟨f, S⟩ q => by
  refine psW (ps_asg wpE.pe (pg_sub wpE.pe wpE.pe set_list ha) hsw hw h1) (he.run intP_d S.sd fun u C1 H1 d x1 po i1 ⟨z, ez, hz⟩ => ?_)
  cases ez
  have S1' := S.draw x1 po
  obtain ⟨e1, e2, c1, _⟩ := S1'.sl i _ hp
  refine nameW e2 (hb C1 H1 σ S1'.sd _ fun kv C2 H2 x2 i2 => ?_) hN hv hd hcd
  have S2 := S1'.mono x2
  obtain ⟨_, _, c2, x, y0, hy0, h2⟩ := S2.sl i _ hp
  obtain ⟨y1, po2⟩ := pot_put (x := x) (z := z) ⟨i, hp⟩ (x1.trans x2.w) S2.pots hz
  rw [show u = V.int z from i1, show kv = V.int ((1 : Nat) : Int) from i2]
  refine ⟨pa, [.int x, .int y0], 1, 1, rfl, rfl, h2, rfl, ?_⟩
  exact q _ k C2 _ σ (w0.drawn S y1) y1.prg ⟨f, S.draw y1 po2⟩
/-- pot[0], r = divmod(pot[0], n) -/
theorem S1.divPot (i j : Nat) {y r : Str} {pa : Addr} {n : Nat} {b' : Expr} {ra q3 q4 tp : Pos} {kt : Nat} (hcm : X.calm = true) (hNd : X.N.Nodup) (hp : ds[i]? = some (.pot pa)) (h0 : 0 < n) (h1 : n < 1073741824) (hn : EvD X e ds (.int (n : Nat))) (hb : EvD X b ds (.int ((0 : Nat) : Int))) (hb' : EvD X b' ds (.int ((0 : Nat) : Int)))
    (k : ∀ m, m < n → Ψ (.nx (ds.set j (.d (intD m))))) (hm : X.mg "divmod" = none) (hN : X.N[i]? = some y := by rfl) (hv : Vis X.env.scope y := by first | exact Or.inl rfl | exact Or.inr (Or.inl rfl) | exact Or.inr (Or.inr rfl))
    (hNr : X.N[j]? = some r := by rfl) (hxr : Loc X.env.scope r := by first | exact .inl rfl | exact .inr rfl) (hfr : X.fn r = true ∨ X.env.scope.names.lookup r = some .local := by first | exact .inl rfl | exact .inr rfl) (hg : Gl X "divmod" := by rfl)
    (hd : (y == ("__debug__" : Str)) = false := by decide) (hcd : (y == ("__classdict__" : Str)) = false := by decide) (hs' : PlainIx b' := by exact fun _ _ => rfl)
    (hst : starEach [.Subscript (.Name y q3) b' q4, e] X.env = (false, eval (.Subscript (.Name y q3) b' q4) X.env) :: starEach [e] X.env := by rfl) (hst2 : starEach [e] X.env = (false, eval e X.env) :: starEach [] X.env := by rfl)
    (hsw : swapsWithSole [.Tuple [.Subscript (.Name y q1) b pos', .Name r ra] kt tp] (.Call (.Name "divmod" p) [.Subscript (.Name y q3) b' q4, e] [] cp) pos.line X.env = pure false := by rfl)
    (hw : swappedStores [.Tuple [.Subscript (.Name y q1) b pos', .Name r ra] kt tp] (.Call (.Name "divmod" p) [.Subscript (.Name y q3) b' q4, e] [] cp) X.env = pure none := by rfl)
    (ht1 : (assignEach [Expr.Tuple [.Subscript (.Name y q1) b pos', .Name r ra] kt tp] X.env).map (·.2) = [assign (.Tuple [.Subscript (.Name y q1) b pos', .Name r ra] kt tp) X.env] := by rfl)
    (ht2 : (assignEach [Expr.Subscript (.Name y q1) b pos', .Name r ra] X.env).map (·.2) = assign (.Subscript (.Name y q1) b pos') X.env :: (assignEach [.Name r ra] X.env).map (·.2) := by rfl) (ht3 : (assignEach [Expr.Name r ra] X.env).map (·.2) = assign (.Name r ra) X.env :: (assignEach [] X.env).map (·.2) := by rfl)
    (hln : (assignEach [Expr.Subscript (.Name y q1) b pos', .Name r ra] X.env).length = 2 := by rfl) (hfi : (assignEach [Expr.Subscript (.Name y q1) b pos', .Name r ra] X.env).findIdx? (·.1) = none := by rfl)
    (ha : ∀ v, assign (.Subscript (.Name y q1) b pos') X.env v = (do
      let ov ← holding [v] (eval (.Name y q1) X.env)
      let iv ← holding [v, ov] (eval b X.env)
      standAt pos'
      holding [v, ov, iv] (setItem ov iv v)
      release [v, ov, iv] []) := by intro _; rfl) :
    S1 X (.Assign [.Tuple [.Subscript (.Name y q1) b pos', .Name r ra] kt tp] (.Call (.Name "divmod" p) [.Subscript (.Name y q3) b' q4, e] [] cp) pos) ds Ψ := fun W C0 H0 C H σ D w0 ⟨f, S⟩ q => by
  refine psW (ps_asg (pe_callB call_divmod hg hm (by decide +kernel) (pa_cons (pe_ix ix_list wpE.pe wpE.pe hs') (pa_cons wpE.pe pa_nil hst2) hst) (by decide) (by decide) hst (by rw [hst2]; rfl)) (pg_tup hcm (pgs_cons (pg_sub wpE.pe wpE.pe set_list ha) (pgs_cons (pg_name hNd hNr hxr hfr) pgs_nil ht3) ht2) hln hfi) hsw hw ht1) ?_
  obtain ⟨e1, e2, c1, x, z, hz, h2⟩ := S.sl i _ hp
  refine nameW e2 (hb' C H σ S.sd _ fun kv C1 H1 x1 i1 => ?_) hN hv hd hcd
  have g1 := x1.same _ _ c1 h2
  refine ⟨pa, [.int x, .int z], (0 : Nat), .int x, rfl, i1, .inl (.inl g1), atI_nat rfl, hn C1 H1 σ (S.mono x1).sd _ fun nv C2 H2 x2 i2 => ?_⟩
  rw [show nv = V.int (n : Nat) from i2]
  have x12 := x1.trans x2
  refine ⟨x, (n : Nat), rfl, ⟨by omega, by omega⟩, fun t ht => ⟨t, [.int (x / (n : Nat)), .int (x % (n : Nat))], rfl, .inl (.inl upd_same), rfl, .int (x / (n : Nat)), [.int (x % (n : Nat))], rfl, ?_⟩⟩
  have x3 : Stp C H C2 (upd H2 t (.tup [.int (x / (n : Nat)), .int (x % (n : Nat))])) := x12.trans (.only x12.le' (same_new ht))
  have S3 := S.mono x3
  refine nameW e2 (hb C2 _ σ S3.sd _ fun kv2 C4 H4 x4 i4 => ?_) hN hv hd hcd
  have x5 := x3.trans x4
  have S5 := S.mono x5
  obtain ⟨_, _, c2, x', z', hz', h4⟩ := S5.sl i _ hp
  obtain ⟨y1, po2⟩ := pot_put (x := x / (n : Nat)) (z := z') ⟨i, hp⟩ x5.w S5.pots hz'
  rw [show kv2 = V.int ((0 : Nat) : Int) from i4]
  have hr0 := Int.emod_nonneg x (show (n : Int) ≠ 0 by omega)
  have hr1 := Int.emod_lt_of_pos x (show (0 : Int) < n by omega)
  refine ⟨pa, [.int x', .int z'], 0, 0, rfl, rfl, h4, rfl, .int (x % (n : Nat)), [], rfl, rfl, ?_⟩
  exact q _ (k (x % (n : Nat)).toNat (by omega)) C4 _ _ (w0.drawn S y1) y1.prg (SWf.setX w0 S y1 po2 (.ofD (show _ = _ from by show V.int (x % (n : Nat)) = V.int (((x % (n : Nat)).toNat : Nat) : Int); rw [Int.toNat_of_nonneg hr0])) List.nodup_nil fun a h => by simp at h)
end
section
variable {P : Program} {w : World} {K : PySem.W.Frag} {mg : Str → Option Value} {base : Heap}
def drawR (n : Nat) : Dt → Prop := fun d => ∃ m : Nat, d = intD m ∧ m < n
def p_draw : List Dt → (Dt → Prop) → Prop := fun as Φ => ∃ n : Nat, as = [.int (n : Nat)] ∧ 0 < n ∧ n < 1000000 ∧ ∀ d, drawR n d → Φ d
theorem ok_draw (T : Txt K mg) : OkD P w K mg base d_law_draw 1 ["_law_pot_here", "_law_many"] (spP P w p_draw) := by
  have nd : (["_law_pot_here", "_law_many", "_law_digit"] : List Str).Nodup := by decide +kernel
  refine okP_of (N := ["_law_pot_here", "_law_many", "_law_digit"]) T.n_law_draw ⟨rfl, rfl, rfl, by decide +kernel, rfl, by decide +kernel, by decide +kernel⟩ (fun _ _ _ _ _ _ us hl => match us, hl with | [_, _], _ => rfl) ?_
  rintro as Φ ⟨n, rfl, h0, h1, hΦ⟩
  refine ⟨rfl, fun p cdv A outer sh H E hr => ?_⟩
  refine .cons (.ifsX (Φ := fun _ => True) (fun C H σ S Q q => ?_) (fun _ => ?_) fun _ => .nil ?_)
  · refine ptW (pt_cmp wpC.pc (nobehind _ (by decide) (by decide))) (pcW (pc_of op_gt wpE.pe wpE.pe) (EvX.run (EvX.pot 0 0 rfl (by decide) .int) intP_d S fun v C1 H1 d x1 po i1 ⟨j, e, _⟩ => EvD.int (i := 0) C1 H1 σ (S.draw x1 po) _ fun u C2 H2 x2 i2 => ?_))
    cases e
    rw [show v = V.int j from i1, show u = V.int 0 from i2]
    exact ⟨j, 0, rfl, rfl, _, rfl, q _ C2 H2 (x1.trans x2.w) (((S.draw x1 po).mono x2).pots) True.intro⟩
  · refine .cons (.divPot 0 2 (n := n) rfl nd rfl h0 (by omega) (.var 1 rfl) .int .int (fun m hm => ?_) T.f_divmod)
    exact .cons (.ret (.var 2 rfl) ⟨hΦ _ ⟨m, rfl, hm⟩, rfl⟩)
  · refine .cons (.setPot1 0 rfl ?_ .int ?_)
    · refine (EvX.opI (A := any) (B := fun j => j = 2147483629) op_mod (.int1 (.imp (.opI0 (A := any) (B := fun j => j = 11213) op_add (.imp (.opI (A := potP 1) (B := fun j => j = 48271) op_mul (.pot 0 1 rfl (by decide) .int) (.xi .int) fun i j _ hj => .inr ?_) fun s ⟨z, e, _⟩ => ⟨z, e, True.intro⟩) (.xi .int)) fun s ⟨z, e, _⟩ => ⟨z, e, True.intro⟩) T.f_int) (.xi .int) fun i j _ hj => by rw [hj]; decide).imp fun s ⟨z, e, i, j, _, hj, hz⟩ => ⟨z, e, ?_⟩
      · rw [hj]; decide
      · subst hj hz
        have := Int.emod_nonneg i (show (2147483629 : Int) ≠ 0 by decide)
        have := Int.emod_lt_of_pos i (show (0 : Int) < 2147483629 by decide)
        omega
    · refine .cons (.retX (P := drawR n) (.imp (.opI (A := any) (B := fun j => j = (n : Nat)) op_mod (.int1 (.imp (.opI (A := any) (B := fun j => j = 13) op_fdiv (.imp (.opI (A := any) (B := fun j => j = 2147483549) op_mod (.int1 (.imp (.opI (A := potP 1) (B := potP 1) op_mul (.pot 0 1 rfl (by decide) .int) (.pot 0 1 rfl (by decide) .int) fun i j hi _ => .inl ?_) fun s ⟨z, e, _⟩ => ⟨z, e, True.intro⟩) T.f_int) (.xi .int) fun i j _ hj => by rw [hj]; decide) fun s ⟨z, e, _⟩ => ⟨z, e, True.intro⟩) (.xi .int) fun i j _ hj => by rw [hj]; exact ⟨by decide, by decide⟩) fun s ⟨z, e, _⟩ => ⟨z, e, True.intro⟩) T.f_int) (.xi (.var 1 rfl)) fun i j _ hj => by rw [hj]; omega) fun s ⟨z, e, i, j, _, hj, hz⟩ => ?_) fun d hd => ⟨hΦ d hd, rfl⟩)
      · have := hi rfl
        exact ⟨by omega, by omega⟩
      · subst hj hz
        have h3 := Int.emod_nonneg i (show (n : Int) ≠ 0 by omega)
        have h4 := Int.emod_lt_of_pos i (show (0 : Int) < n by omega)
        refine ⟨_, e, (i % (n : Nat)).toNat, ?_, by omega⟩
        show Dt.int (i % (n : Nat)) = .int (((i % (n : Nat)).toNat : Nat) : Int)
        rw [Int.toNat_of_nonneg h3]
end
end K66
set_option maxHeartbeats 4000000
namespace K66
variable [TabAt]
open PySem PySem.Spec PyProof.Rows L2
theorem IsL.erase {P : Program} {w : World} {C : Hp} : ∀ {ds : List Dt} {vs : List V} (n : Nat), IsL P w C ds vs → IsL P w C (ds.eraseIdx n) (vs.eraseIdx n)
  | [], _, n, h => by rw [show _ = [] from h]; exact rfl
  | d :: ds, _, 0, h => by
    obtain ⟨v, r, rfl, a, b⟩ := h
    exact b
  | d :: ds, _, n + 1, h => by
    obtain ⟨v, r, rfl, a, b⟩ := h
    exact ⟨v, _, rfl, a, b.erase n⟩
section
variable {P : Program} {w : World} {K : PySem.W.Frag} {mg : Str → Option Value} {base : Heap}
def p_pick : List Dt → (Dt → Prop) → Prop := fun as Φ => ∃ xs : List Dt, as = [.lst xs] ∧ xs ≠ [] ∧ xs.length < 1000000 ∧ ∀ d ∈ xs, Φ d
theorem ok_pick (T : Txt K mg) : OkD P w K mg base d_law_pick 2 ["_law_pot_here", "_law_some"] (spP P w p_pick) := by
  refine okP_of (N := ["_law_pot_here", "_law_some"]) T.n_law_pick ⟨rfl, rfl, rfl, by decide +kernel, rfl, by decide +kernel, by decide +kernel⟩ (fun _ _ _ _ _ _ us hl => match us, hl with | [_, _], _ => rfl) ?_
  rintro as Φ ⟨xs, rfl, hne, hl, hΦ⟩
  refine ⟨rfl, fun p cdv A outer sh H E hr => ?_⟩
  have h0 : 0 < xs.length := List.length_pos_iff.mpr hne
  refine .cons (.retX (P := fun d => d ∈ xs) (.ixL (xs := xs) (.var 1 rfl) (.imp (EvX.callP (Φ := drawR xs.length) 0 (ok_draw T) T.g_law_draw hr rfl (EvA.x (.cons (.lenL (.var 1 rfl) T.f_len) .nil)) (fun as e => ⟨xs.length, e, h0, hl, fun d hd => hd⟩)) ?_)) fun d hd => ⟨hΦ d hd, rfl⟩)
  rintro s ⟨d, e, m, em, hm⟩
  exact ⟨_, by rw [e, em]; rfl, m, rfl, hm⟩
end
section
variable {X : Cx} {ds : List Sl} {Ψ : Res → Prop} {e : Expr} {pos p cpos apos c2 a2 q1 q2 : Pos}
/-- xs.append(ys.pop(e)) -/
theorem S1.appendPop (i j : Nat) {x y : Str} {xs ys : List Dt} (hij : i ≠ j) (hsx : ds[i]? = some (.ol xs)) (hsy : ds[j]? = some (.ol ys)) (he : EvX X e ds (intP fun k => ∃ n : Nat, k = n ∧ n < ys.length)) (hl : xs.length ≤ 100000) (hl2 : ys.length ≤ 100000)
    (k : ∀ n d, ys[n]? = some d → Ψ (.nx ((ds.set j (.ol (ys.eraseIdx n))).set i (.ol (xs ++ [d])))))
    (hNx : X.N[i]? = some x := by rfl) (hvx : Vis X.env.scope x := by first | exact Or.inl rfl | exact Or.inr (Or.inl rfl) | exact Or.inr (Or.inr rfl)) (hNy : X.N[j]? = some y := by rfl) (hvy : Vis X.env.scope y := by first | exact Or.inl rfl | exact Or.inr (Or.inl rfl) | exact Or.inr (Or.inr rfl))
    (hd : (x == ("__debug__" : Str)) = false := by decide) (hcd : (x == ("__classdict__" : Str)) = false := by decide) (hdy : (y == ("__debug__" : Str)) = false := by decide) (hcdy : (y == ("__classdict__" : Str)) = false := by decide)
    (hbx : attributeBase (.Name x q1) "append" X.env (eval (.Name x q1) X.env) = eval (.Name x q1) X.env := by rfl) (hby : attributeBase (.Name y q2) "pop" X.env (eval (.Name y q2) X.env) = eval (.Name y q2) X.env := by rfl)
    (hfy : ((backTo c2 (starEach [e] X.env)).all (fun z => !z.1) && (backToKw c2 (keywordEach [] X.env)).all (fun z => z.1.isSome) && decide (([e] : List Expr).length + ([] : List Keyword).length + (if ([] : List Keyword).isEmpty then 0 else 1) < 30)) = true := by rfl) (hliney : (a2.endLine == c2.line) = true := by rfl)
    (hsty : starEach [e] X.env = (false, eval e X.env) :: starEach [] X.env := by rfl)
    (hfx : ((backTo cpos (starEach [.Call (.Attribute (.Name y q2) "pop" a2) [e] [] c2] X.env)).all (fun z => !z.1) && (backToKw cpos (keywordEach [] X.env)).all (fun z => z.1.isSome) && decide (([.Call (.Attribute (.Name y q2) "pop" a2) [e] [] c2] : List Expr).length + ([] : List Keyword).length + (if ([] : List Keyword).isEmpty then 0 else 1) < 30)) = true := by rfl)
    (hlinex : (apos.endLine == cpos.line) = true := by rfl) (hstx : starEach [.Call (.Attribute (.Name y q2) "pop" a2) [e] [] c2] X.env = (false, eval (.Call (.Attribute (.Name y q2) "pop" a2) [e] [] c2) X.env) :: starEach [] X.env := by rfl)
    (hsw : swapsWith (.Call (.Attribute (.Name x q1) "append" apos) [.Call (.Attribute (.Name y q2) "pop" a2) [e] [] c2] [] cpos) none pos.line X.env = pure false := by rfl) :
    S1 X (.Expr (.Call (.Attribute (.Name x q1) "append" apos) [.Call (.Attribute (.Name y q2) "pop" a2) [e] [] c2] [] cpos) pos) ds Ψ := fun W C0 H0 C H σ D w0 ⟨f, S⟩ q => by
  obtain ⟨a1, vs1, e1, n1, c1, h1, i1⟩ := S.sl i _ hsx
  obtain ⟨a2', vs2, e2, n2, cc2, h2, i2⟩ := S.sl j _ hsy
  refine psW (ps_expr (pe_bm PySem.F.plainAttrs_list PySem.F.slot_list_append PySem.F.type_list_append mt_append wpE.pe (pa_cons (pe_bm PySem.F.plainAttrs_list PySem.F.slot_list_pop PySem.F.type_list_pop mt_popAt wpE.pe (pa_cons wpE.pe pa_nil hsty) hby hfy hliney hsty) pa_nil hstx) hbx hfx hlinex hstx) hsw) (nameW n1 ?_ hNx hvx hd hcd)
  refine ⟨.inl ⟨rfl, vs1, .inl (.inl h1)⟩, nameW n2 ⟨.inl ⟨rfl, vs2, .inl (.inl h2)⟩, he.run intP_d S.sd fun u C1 H1 d x1 po iu ⟨z, ez, n, en, hn⟩ => ?_⟩ hNy hvy hdy hcdy⟩
  cases ez
  subst en
  have S1' := S.draw x1 po
  obtain ⟨b1, us1, g1, m1, k1, r1, j1⟩ := S1'.sl i _ hsx
  obtain ⟨b2, us2, g2, m2, k2, r2, j2⟩ := S1'.sl j _ hsy
  rw [n1] at m1
  cases m1
  rw [n2] at m2
  cases m2
  obtain ⟨y0, hy0, iy0⟩ := j2.get (List.getElem?_eq_getElem hn)
  have hl3 := j2.len
  have hd1 := List.getElem?_eq_getElem hn
  refine ⟨a2', us2, (n : Nat), n, y0, rfl, by rw [show u = V.int (n : Nat) from iu], r2, by omega, by omega, ?_, hy0, ?_⟩
  · show seqIndex? (n : Nat) us2.length = some n
    unfold seqIndex?
    simp
    omega
  · obtain ⟨y1, y2, y3⟩ := own_put (s' := .ol (ys.eraseIdx n)) (w0.drawn S x1) S1' g2 k2 ⟨a2', us2.eraseIdx n, rfl, n2, k2, upd_same, j2.erase n⟩
    obtain ⟨f3, S3⟩ := y3
    have hsx3 : (ds.set j (.ol (ys.eraseIdx n)))[i]? = some (.ol xs) := by rw [List.getElem?_set_ne (Ne.symm hij)]; exact hsx
    obtain ⟨b3, us3, g3, m3, k3, r3, j3⟩ := S3.sl i _ hsx3
    rw [n1] at m3
    cases m3
    refine ⟨a1, us3, y0, rfl, rfl, r3, by rw [j3.len]; exact Nat.lt_of_le_of_lt hl (by decide), ?_⟩
    obtain ⟨z1, z2, z3⟩ := own_put (s' := .ol (xs ++ [ys[n]])) y1 S3 g3 k3 ⟨a1, us3 ++ [y0], rfl, n1, k3, upd_same, j3.app (.one iy0)⟩
    exact q _ (k n _ hd1) C1 _ σ z1 (x1.prg.trans (y2.trans z2)) z3
/-- sorted(l), texts -/
theorem EvX.sortS {a : Expr} {xs : List Str} (ha : EvD X a ds (.lst (xs.map .str))) (hl : xs.length < 64) (hm : X.mg "sorted" = none) (hg : Gl X "sorted" := by rfl) (hst : starEach [a] X.env = (false, eval a X.env) :: starEach [] X.env := by rfl) :
    EvX X (.Call (.Name "sorted" p) [a] [] pos) ds (datP fun d => ∃ ys : List Str, ys.Perm xs ∧ sortedS ys = true ∧ d = .lst (ys.map .str)) := fun C H σ S Q q =>
  peW (pe_callB cr_sortedS hg hm (by decide +kernel) (pa_cons wpE.pe pa_nil hst) (by decide) (by decide) hst) (ha C H σ S _ fun v C1 H1 x1 i1 => by
    obtain ⟨l, us, rfl, r1, j1⟩ := i1
    have e : us = xs.map V.str := IsL.strs j1
    subst e
    refine ⟨l, xs, rfl, .inl (.inl (x1.le'.ex _ _ r1)), hl, fun ys q1 hp hs hq => ?_⟩
    have x2 : Stp C H (upd C1 q1 (.lst (ys.map V.str))) (upd H1 q1 (.lst (ys.map V.str))) := x1.trans (.new x1.le' hq)
    have il : ∀ zs : List Str, IsLx X (upd C1 q1 (.lst (ys.map V.str))) (zs.map .str) (zs.map V.str) := fun zs => by
      induction zs with
      | nil => exact rfl
      | cons z zs ih => exact ⟨_, _, rfl, rfl, ih⟩
    exact q _ _ _ (.d (.lst (ys.map .str))) [] x2.w (S.mono x2).pots (.ofD (Is.lst' (il ys))) List.nodup_nil (fun a h => by simp at h) ⟨_, rfl, ys, hp, hs, rfl⟩)
end
end K66
set_option maxHeartbeats 4000000
namespace K66
variable [TabAt]
open PySem PySem.Spec PyProof.Rows L2
theorem erase_map {α β : Type} {f : α → β} : ∀ (l : List α) (n : Nat), (l.map f).eraseIdx n = (l.eraseIdx n).map f
  | [], n => rfl
  | x :: l, 0 => rfl
  | x :: l, n + 1 => by
    show f x :: (l.map f).eraseIdx n = f x :: (l.eraseIdx n).map f
    rw [erase_map l n]
theorem erase_perm {α : Type} : ∀ (l : List α) (n : Nat) (x : α), l[n]? = some x → (x :: l.eraseIdx n).Perm l
  | [], n, x, h => by simp at h
  | y :: l, 0, x, h => by simp at h; rw [h]; exact List.Perm.refl _
  | y :: l, n + 1, x, h => by
    have h : l[n]? = some x := by simpa using h
    exact (List.Perm.swap y x _).trans ((erase_perm l n x h).cons y)
def names0 : List Str := ["a", "b", "ab", "ba", "z", "end", "say", "get", "zzzzzz", "go"]
theorem names0_nd : names0.Nodup := by decide +kernel
theorem names0_nm : ∀ x ∈ names0, isNm x = true := by
  have : names0.all isNm = true := by decide +kernel
  exact List.all_eq_true.mp this
/-- so many names, sorted -/
structure Names (m : Nat) (ns : List Str) : Prop where
  len : ns.length = m
  nd : ns.Nodup
  nm : ∀ x ∈ ns, isNm x = true
  so : sortedS ns = true
def namesR (m : Nat) : Dt → Prop := fun d => ∃ ns, Names m ns ∧ d = .lst (ns.map .str)
section
variable {P : Program} {w : World} {K : PySem.W.Frag} {mg : Str → Option Value} {base : Heap}
def p_names : List Dt → (Dt → Prop) → Prop := fun as Φ => ∃ m : Nat, as = [.int (m : Nat)] ∧ m ≤ 4 ∧ ∀ d, namesR m d → Φ d
theorem ok_names (T : Txt K mg) : OkD P w K mg base d_law_names 2 ["_law_pot_here", "_law_many"] (spP P w p_names) := by
  have nd : (["_law_pot_here", "_law_many", "_law_rest", "_law_found", "_law_turn"] : List Str).Nodup := by decide +kernel
  refine okP_of (N := ["_law_pot_here", "_law_many", "_law_rest", "_law_found", "_law_turn"]) T.n_law_names ⟨rfl, rfl, rfl, by decide +kernel, rfl, by decide +kernel, by decide +kernel⟩ (fun _ _ _ _ _ _ us hl => match us, hl with | [_, _], _ => rfl) ?_
  rintro as Φ ⟨m, rfl, hm, hΦ⟩
  refine ⟨rfl, fun p cdv A outer sh H E hr => ?_⟩
  refine .cons (.par (i := 2) (j := 3) rfl nd (s := .ol (names0.map .str)) (t := .ol []) (.lstA (as := names0.map .str) (.cons .str (.cons .str (.cons .str (.cons .str (.cons .str (.cons .str (.cons .str (.cons .str (.cons .str (.cons .str .nil)))))))))) (by decide +kernel)) .nilL ?_)
  refine .cons (.loopT (enc := intD) (ys := List.range m) (fun i ds1 => ∃ a rest found, ds1 = [.pot p, .d (intD m), .ol (rest.map .str), .ol (found.map .str), a] ∧ (rest ++ found).Perm names0 ∧ found.length = i) rfl (.cast' (.rng1 (n := m) (.var 1 rfl) T.f_range (by omega)) rng0) ⟨_, names0, [], rfl, by rw [List.append_nil], rfl⟩ ?_ ?_)
  · rintro i k ds1 hk ⟨a, rest, found, rfl, hp, hl⟩
    have hi : i < m := by have := (List.getElem?_eq_some_iff.mp hk).1; rwa [List.length_range] at this
    have h10 : rest.length + found.length = 10 := by rw [← List.length_append, hp.length_eq]; rfl
    refine ⟨[4], _, .name 4 nd, .cons (.appendPop 3 2 (xs := found.map .str) (ys := rest.map .str) (by decide) rfl rfl (.imp (EvX.callP (Φ := drawR rest.length) 0 (ok_draw T) T.g_law_draw hr rfl (EvA.x (.cons (.lenO 2 rfl T.f_len) .nil)) (fun as e => ⟨rest.length, by rw [e, List.length_map], by omega, by omega, fun d hd => hd⟩)) ?_) (by rw [List.length_map]; omega) (by rw [List.length_map]; omega) ?_)⟩
    · rintro s ⟨d, e, j, ej, hj⟩
      exact ⟨_, by rw [e, ej]; rfl, j, rfl, by rw [List.length_map]; exact hj⟩
    · intro n d hd
      rw [List.getElem?_map] at hd
      cases hx : rest[n]? with
      | none => rw [hx] at hd; cases hd
      | some x =>
        rw [hx] at hd
        cases hd
        refine .nil ⟨_, rest.eraseIdx n, found ++ [x], by rw [erase_map, List.map_append]; rfl, ?_, by rw [List.length_append, hl]; rfl⟩
        refine List.Perm.trans ?_ hp
        have h1 := (erase_perm rest n x hx).append_right found
        refine List.Perm.trans ?_ h1
        rw [← List.append_assoc, List.cons_append]
        exact List.perm_append_comm.trans (List.Perm.refl _)
  rintro ds' ⟨a, rest, found, rfl, hp, hl⟩
  rw [List.length_range] at hl
  refine .relL 3 rfl (.cons (.retX (P := namesR m) (.imp (.sortS (xs := found) (.var 3 rfl) (by omega) T.f_sorted) ?_) fun d hd => ⟨hΦ d hd, rfl⟩))
  rintro s ⟨d, e, ys, h1, h2, rfl⟩
  have hnd : (rest ++ found).Nodup := hp.nodup_iff.mpr names0_nd
  have hfn : found.Nodup := (List.nodup_append.mp hnd).2.1
  exact ⟨_, e, ys, ⟨h1.length_eq.trans hl, h1.nodup_iff.mpr hfn, fun x hx => names0_nm x (hp.mem_iff.mp (List.mem_append_right _ (h1.mem_iff.mp hx))), h2⟩, rfl⟩
end
end K66
set_option maxHeartbeats 4000000
namespace K66
variable [TabAt]
open PySem PySem.Spec PyProof.Rows L2
def mt (k : Bool) (o : Str) (d : Deed) : Bool := decide (d.1 = k ∧ d.2.1 = o)
def cnt (k : Bool) (o : Str) (r : Row) : Nat := (r.filter (mt k o)).length
def placesF (r : Row) (n : Nat) (k : Bool) (o : Str) : List Nat := (r.zipIdx n).filterMap fun p => if decide (p.1.1 = k ∧ p.1.2.1 = o) = true then some p.2 else none
theorem placesF_shift (k : Bool) (o : Str) : ∀ (r : Row) (n m : Nat), placesF r (n + m) k o = (placesF r n k o).map (· + m)
  | [], _, _ => rfl
  | d :: r, n, m => by
    have ih := placesF_shift k o r (n + 1) m
    unfold placesF at ih ⊢
    rw [List.zipIdx_cons, List.zipIdx_cons, List.filterMap_cons, List.filterMap_cons]
    have e : n + m + 1 = n + 1 + m := by omega
    rw [e, ih]
    dsimp only
    cases decide (d.1 = k ∧ d.2.1 = o) <;> rfl
theorem places_app (r q : Row) (k : Bool) (o : Str) : places (r ++ q) k o = places r k o ++ (places q k o).map (· + r.length) := by
  have h := placesF_shift k o q 0 r.length
  unfold placesF at h
  unfold places
  rw [List.zipIdx_append, List.filterMap_append, h]
theorem places_one (d : Deed) (k : Bool) (o : Str) : places [d] k o = if mt k o d = true then [0] else [] := by
  unfold places mt
  show List.filterMap _ [(d, 0)] = _
  rw [List.filterMap_cons, List.filterMap_nil]
  dsimp only
  cases decide (d.1 = k ∧ d.2.1 = o) <;> rfl
theorem places_len_cnt (k : Bool) (o : Str) (r : Row) : (places r k o).length = cnt k o r := by
  induction r using snoc_ind with
  | h0 => rfl
  | h1 r d ih =>
    unfold cnt at ih ⊢
    rw [places_app, List.length_append, List.length_map, ih, places_one, List.filter_append, List.length_append, List.filter_cons, List.filter_nil]
    split <;> rfl
theorem words_eq (k : Bool) (o : Str) (r : Row) : words r k o = (r.filter (mt k o)).map (·.2.2) := by
  induction r using snoc_ind with
  | h0 => rfl
  | h1 r d ih =>
    have e1 : words (r ++ [d]) k o = words r k o ++ (if mt k o d = true then [d.2.2] else []) := by
      unfold words
      rw [places_app, List.map_append, places_one]
      congr 1
      · refine List.map_congr_left fun i hi => ?_
        rw [List.getD_eq_getElem?_getD, List.getD_eq_getElem?_getD, List.getElem?_append_left (places_lt hi).1]
      · split
        · show [((r ++ [d]).getD (0 + r.length) (true, "", "")).2.2] = _
          rw [Nat.zero_add, List.getD_eq_getElem?_getD, List.getElem?_append_right (Nat.le_refl _), Nat.sub_self]; rfl
        · rfl
    rw [e1, ih, List.filter_append, List.map_append, List.filter_cons, List.filter_nil]
    split <;> rfl
theorem words_app (r q : Row) (k : Bool) (o : Str) : words (r ++ q) k o = words r k o ++ words q k o := by
  rw [words_eq, words_eq, words_eq, List.filter_append, List.map_append]
theorem words_cnt (k : Bool) (o : Str) (r : Row) : (words r k o).length = cnt k o r := by rw [words_eq, List.length_map]; rfl
/-- where a deed stands among its like -/
theorem place_at {r : Row} {i : Nat} {d : Deed} {k : Bool} {o : Str} (h : r[i]? = some d) (hm : mt k o d = true) : (places r k o)[cnt k o (r.take i)]? = some i := by
  obtain ⟨hi, e⟩ := List.getElem?_eq_some_iff.mp h
  have e1 : r = r.take i ++ ([d] ++ r.drop (i + 1)) := by
    have := List.drop_eq_getElem_cons hi
    rw [e] at this
    rw [List.singleton_append, ← this, List.take_append_drop]
  have hl : (r.take i).length = i := by rw [List.length_take]; omega
  rw [← places_len_cnt]
  have h2 : places r k o = places (r.take i ++ ([d] ++ r.drop (i + 1))) k o := congrArg (fun z => places z k o) e1
  rw [h2, places_app, places_app, List.getElem?_append_right (Nat.le_refl _), Nat.sub_self, places_one, if_pos hm, hl]
  show some (0 + i) = _
  rw [Nat.zero_add]
theorem places_nodup (r : Row) (k : Bool) (o : Str) : (places r k o).Nodup := by
  induction r using snoc_ind with
  | h0 => exact List.nodup_nil
  | h1 r d ih =>
    rw [places_app, List.nodup_append]
    refine ⟨ih, ?_, fun a ha b hb e => ?_⟩
    · rw [places_one]; split
      · exact List.pairwise_singleton _ _
      · exact List.nodup_nil
    · obtain ⟨x, hx, rfl⟩ := List.mem_map.mp hb
      have := (places_lt ha).1
      omega
theorem place_index {r : Row} {j i : Nat} {k : Bool} {o : Str} (h : (places r k o)[j]? = some i) : (∃ d, r[i]? = some d ∧ mt k o d = true) ∧ j = cnt k o (r.take i) := by
  obtain ⟨_, d, hd, h1, h2⟩ := places_lt (List.mem_of_getElem? h)
  have hm : mt k o d = true := decide_eq_true ⟨h1, h2⟩
  refine ⟨⟨d, hd, hm⟩, ?_⟩
  have h3 := place_at hd hm
  obtain ⟨g1, e1⟩ := List.getElem?_eq_some_iff.mp h
  obtain ⟨g2, e2⟩ := List.getElem?_eq_some_iff.mp h3
  exact (List.getElem_inj (places_nodup r k o)).mp (e1.trans e2.symm)
def fupd (f : Str → Row) (a : Str) (v : Row) : Str → Row := fun x => if x = a then v else f x
theorem fupd_same {f : Str → Row} {a : Str} {v : Row} : fupd f a v a = v := if_pos rfl
theorem fupd_ne {f : Str → Row} {a b : Str} {v : Row} (h : b ≠ a) : fupd f a v b = f b := if_neg h
/-- rows that come of deeds one after another, each get behind its say -/
inductive Run (hs : List Str) : (Str → Row) → Prop
  | nil : Run hs fun _ => []
  | say (ρ : Str → Row) (a b x : Str) : Run hs ρ → a ∈ hs → b ∈ hs → Run hs (fupd ρ a (ρ a ++ [(true, b, x)]))
  | get (ρ : Str → Row) (a b x : Str) : Run hs ρ → a ∈ hs → b ∈ hs → cnt false a (ρ b) < cnt true b (ρ a) → Run hs (fupd ρ b (ρ b ++ [(false, a, x)]))
/-- what stands in the way at hand h -/
def Held (hs : List Str) (F : Str → Row) (n : Str → Nat) (h : Str) : Prop := n h = (F h).length ∨ ∃ a x, (F h)[n h]? = some (false, a, x) ∧ n a ≤ (places (F a) true h).getD (cnt false a ((F h).take (n h))) 0
theorem run_done {hs : List Str} {F : Str → Row} {n : Str → Nat} (hb : ∀ h ∈ hs, Held hs F n h) {ρ : Str → Row} (run : Run hs ρ) : (∀ h, ρ h <+: F h) → ∀ h, (ρ h).length ≤ n h := by
  induction run with
  | nil => exact fun _ h => Nat.zero_le _
  | say ρ a b x _ ha hbm ih =>
    intro pre
    have pre0 : ∀ h, ρ h <+: F h := fun h => by
      by_cases e : h = a
      · subst e
        have := pre h
        rw [fupd_same] at this
        exact (List.prefix_append _ _).trans this
      · have := pre h
        rwa [fupd_ne e] at this
    have ih := ih pre0
    intro h
    by_cases e : h = a
    · subst e
      rw [fupd_same, List.length_append]
      have h1 := ih h
      have h2 := pre h
      rw [fupd_same] at h2
      obtain ⟨t, ht⟩ := h2
      have hat : (F h)[(ρ h).length]? = some (true, b, x) := by
        rw [← ht, List.append_assoc, List.getElem?_append_right (Nat.le_refl _), Nat.sub_self]; rfl
      by_cases hn : n h = (ρ h).length
      · exfalso
        rcases hb h ha with z | ⟨a', x', z, _⟩
        · have := (List.getElem?_eq_some_iff.mp hat).1
          omega
        · rw [hn, hat] at z
          cases z
      · show (ρ h).length + 1 ≤ n h
        omega
    · rw [fupd_ne e]; exact ih h
  | get ρ a b x _ ha hbm hc ih =>
    intro pre
    have pre0 : ∀ h, ρ h <+: F h := fun h => by
      by_cases e : h = b
      · subst e
        have := pre h
        rw [fupd_same] at this
        exact (List.prefix_append _ _).trans this
      · have := pre h
        rwa [fupd_ne e] at this
    have ih := ih pre0
    intro h
    by_cases e : h = b
    · subst e
      rw [fupd_same, List.length_append]
      have h1 := ih h
      have h2 := pre h
      rw [fupd_same] at h2
      obtain ⟨t, ht⟩ := h2
      have hat : (F h)[(ρ h).length]? = some (false, a, x) := by
        rw [← ht, List.append_assoc, List.getElem?_append_right (Nat.le_refl _), Nat.sub_self]; rfl
      have htk : (F h).take (ρ h).length = ρ h := by rw [← ht, List.append_assoc, List.take_left']; rfl
      by_cases hn : n h = (ρ h).length
      · exfalso
        rcases hb h hbm with z | ⟨a', x', z, z2⟩
        · have := (List.getElem?_eq_some_iff.mp hat).1
          omega
        · rw [hn, hat] at z
          cases z
          rw [hn, htk] at z2
          obtain ⟨u, hu⟩ := pre0 a
          have hlt : cnt false a (ρ h) < (places (ρ a) true h).length := by rw [places_len_cnt]; exact hc
          rw [← hu, places_app, List.getD_eq_getElem?_getD, List.getElem?_append_left hlt, List.getElem?_eq_getElem hlt, Option.getD_some] at z2
          have h5 := (places_lt (List.getElem_mem hlt)).1
          have h6 := ih a
          omega
      · show (ρ h).length + 1 ≤ n h
        omega
    · rw [fupd_ne e]; exact ih h
theorem puts_mem {q p : Spot} : ∀ {es l : Says}, alGet (puts l es) q = some p → (q, p) ∈ es ∨ alGet l q = some p
  | [], l, h => .inr h
  | e :: es, l, h => by
    rcases puts_mem (es := es) (l := alPut l e.1 e.2) h with z | z
    · exact .inl (List.mem_cons_of_mem _ z)
    · rw [alGet_put] at z
      split at z
      · rename_i e1
        cases z
        exact .inl (by rw [← e1]; exact List.mem_cons_self)
      · exact .inr z
/-- what sog tells of a spot -/
theorem sog_at {R : Rows} {ρ : Str → Row} (hR : ∀ p ∈ R, p.2 = ρ p.1) {h : Str} {i : Nat} {p : Spot} (e : alGet (sog R) (h, i) = some p) : (∃ x, (ρ h)[i]? = some (false, p.1, x)) ∧ p.2 = (places (ρ p.1) true h).getD (cnt false p.1 ((ρ h).take i)) 0 ∧ p.1 ∈ hands R := by
  rcases puts_mem (es := entries R) (l := []) e with z | z
  · obtain ⟨a, ha, z⟩ := List.mem_flatMap.mp z
    obtain ⟨b, hb, z⟩ := List.mem_flatMap.mp z
    obtain ⟨w, hw, z⟩ := List.mem_map.mp z
    obtain ⟨z1, z2⟩ := Prod.mk.inj z
    obtain ⟨z3, z4⟩ := Prod.mk.inj z1
    obtain ⟨j, hj, hjw⟩ := List.getElem_of_mem hw
    have hjw' : (places b.2 false a.1).zipIdx[j]? = some w := by rw [← hjw]; exact List.getElem?_eq_getElem hj
    obtain ⟨g1, g2⟩ := zipIdx_get hjw'
    rw [z4] at g1
    obtain ⟨⟨d, hd, hm⟩, hjc⟩ := place_index g1
    have hm := of_decide_eq_true hm
    have e2 := hR b hb
    rw [z3] at e2
    rw [e2] at hd hjc
    subst z2
    refine ⟨⟨d.2.2, ?_⟩, ?_, List.mem_map.mpr ⟨a, ha, rfl⟩⟩
    · rw [hd]
      obtain ⟨d1, d2, d3⟩ := d
      obtain ⟨m1, m2⟩ := hm
      dsimp only at m1 m2 ⊢
      rw [m1, m2]
    · show (places a.2 true b.1).getD w.2 0 = _
      rw [hR a ha, z3, g2, hjc]
  · cases z
theorem sat_of {R : Rows} {ρ : Str → Row} (hR : ∀ p ∈ R, p.2 = ρ p.1) (run : Run (hands R) ρ) : Sat R (sog R) := fun n hle hbl p hp => by
  have hb : ∀ h ∈ hands R, Held (hands R) ρ n h := fun h hh => by
    obtain ⟨q, hq, rfl⟩ := List.mem_map.mp hh
    rcases hbl q hq with z | z
    · exact .inl (by rw [z, hR q hq])
    · unfold freeB at z
      cases e : alGet (sog R) (q.1, n q.1) with
      | none => rw [e] at z; cases z
      | some s =>
        rw [e] at z
        obtain ⟨⟨x, h1⟩, h2, h3⟩ := sog_at hR e
        have z : decide (s.2 < (alGet (cntOf R n) s.1).getD 0) = false := z
        rw [cnt_get h3] at z
        have z := of_decide_eq_false z
        refine .inr ⟨s.1, x, h1, ?_⟩
        rw [← h2]
        have : ((some (n s.1)).getD 0 : Nat) = n s.1 := rfl
        omega
  have h1 := run_done hb run (fun h => List.prefix_refl _) p.1
  have h2 := hle p hp
  rw [← hR p hp] at h1
  omega
def sayN (r : Row) : Nat := (r.filter fun d => d.1).length
def tot (hs : List Str) (ρ : Str → Row) : Nat := (hs.map fun h => sayN (ρ h)).sum
theorem sayN_app (r q : Row) : sayN (r ++ q) = sayN r + sayN q := by unfold sayN; rw [List.filter_append, List.length_append]
theorem tot_congr {hs : List Str} {ρ σ : Str → Row} (h : ∀ x ∈ hs, ρ x = σ x) : tot hs ρ = tot hs σ := by
  unfold tot
  congr 1
  exact List.map_congr_left fun x hx => by rw [h x hx]
theorem tot_upd {hs : List Str} (hn : hs.Nodup) {ρ : Str → Row} {a : Str} {q : Row} : tot hs (fupd ρ a (ρ a ++ q)) ≤ tot hs ρ + sayN q := by
  induction hs with
  | nil => exact Nat.zero_le _
  | cons h hs ih =>
    rw [List.nodup_cons] at hn
    have e1 : tot (h :: hs) (fupd ρ a (ρ a ++ q)) = sayN (fupd ρ a (ρ a ++ q) h) + tot hs (fupd ρ a (ρ a ++ q)) := rfl
    have e2 : tot (h :: hs) ρ = sayN (ρ h) + tot hs ρ := rfl
    rw [e1, e2]
    by_cases e : h = a
    · subst e
      have e3 : tot hs (fupd ρ h (ρ h ++ q)) = tot hs ρ := tot_congr fun x hx => fupd_ne fun z => hn.1 (by rw [← z]; exact hx)
      rw [fupd_same, sayN_app, e3]
      omega
    · rw [fupd_ne e]
      have := ih hn.2
      omega
theorem sum_zero {α : Type} : ∀ l : List α, (l.map fun _ => 0).sum = 0
  | [] => rfl
  | _ :: l => by rw [List.map_cons, List.sum_cons, sum_zero l]
theorem sum_ind {hs : List Str} (hn : hs.Nodup) (d : Deed) : (hs.map fun o => if mt true o d = true then 1 else 0).sum ≤ if d.1 = true then 1 else 0 := by
  induction hs with
  | nil => exact Nat.zero_le _
  | cons h hs ih =>
    rw [List.nodup_cons] at hn
    rw [List.map_cons, List.sum_cons]
    have ih := ih hn.2
    by_cases e : mt true h d = true
    · have hm := of_decide_eq_true e
      have e0 : (hs.map fun o => if mt true o d = true then 1 else 0) = hs.map fun _ => 0 := List.map_congr_left fun o ho => by
        refine if_neg fun z => ?_
        have hz := of_decide_eq_true z
        exact hn.1 (by rw [← hm.2, hz.2]; exact ho)
      rw [e0, sum_zero, if_pos e, if_pos hm.1]
      exact Nat.le_refl _
    · rw [if_neg e, Nat.zero_add]; exact ih
theorem sum_cnt {hs : List Str} (hn : hs.Nodup) (r : Row) : (hs.map fun o => cnt true o r).sum ≤ sayN r := by
  induction r with
  | nil =>
    have : (hs.map fun o => cnt true o []).sum = 0 := by
      clear hn
      induction hs with
      | nil => rfl
      | cons _ _ ih => rw [List.map_cons, List.sum_cons, ih]; rfl
    rw [this]; exact Nat.zero_le _
  | cons d r ih =>
    have e1 : (hs.map fun o => cnt true o (d :: r)).sum = (hs.map fun o => if mt true o d = true then 1 else 0).sum + (hs.map fun o => cnt true o r).sum := by
      clear hn ih
      induction hs with
      | nil => rfl
      | cons h hs ih =>
        rw [List.map_cons, List.map_cons, List.map_cons, List.sum_cons, List.sum_cons, List.sum_cons, ih]
        have : cnt true h (d :: r) = (if mt true h d = true then 1 else 0) + cnt true h r := by
          unfold cnt
          rw [List.filter_cons]
          split
          · rw [List.length_cons]; omega
          · omega
        omega
    have e2 : sayN (d :: r) = (if d.1 = true then 1 else 0) + sayN r := by
      unfold sayN
      rw [List.filter_cons]
      split
      · rw [List.length_cons]; omega
      · omega
    have := sum_ind hn d
    omega
theorem flat_len {α β : Type} {f : α → List β} : ∀ l : List α, (l.flatMap f).length = (l.map fun x => (f x).length).sum
  | [] => rfl
  | x :: l => by rw [List.flatMap_cons, List.length_append, List.map_cons, List.sum_cons, flat_len l]
theorem sum_le {α : Type} {f g : α → Nat} : ∀ {l : List α}, (∀ x ∈ l, f x ≤ g x) → (l.map f).sum ≤ (l.map g).sum
  | [], _ => Nat.le_refl _
  | x :: l, h => by
    rw [List.map_cons, List.map_cons, List.sum_cons, List.sum_cons]
    have := h x (by simp)
    have := sum_le (l := l) fun y hy => h y (List.mem_cons_of_mem _ hy)
    omega
theorem letters_few {R : Rows} {ρ : Str → Row} (hR : ∀ p ∈ R, p.2 = ρ p.1) (hn : (hands R).Nodup) : (lettersD R).length ≤ tot (hands R) ρ := by
  unfold lettersD tot hands
  rw [flat_len, List.map_map]
  refine sum_le fun p hp => ?_
  show (R.flatMap (lettersPQ p)).length ≤ sayN (ρ p.1)
  rw [flat_len, ← hR p hp]
  have e : (R.map fun q => (lettersPQ p q).length) = (hands R).map fun o => cnt true o p.2 := by
    unfold hands
    rw [List.map_map]
    refine List.map_congr_left fun q _ => ?_
    show (lettersPQ p q).length = cnt true q.1 p.2
    unfold lettersPQ
    rw [List.length_map, List.length_range, words_cnt]
  rw [e]
  exact sum_cnt hn p.2
theorem entries_few {R : Rows} (hh : heardAll R) : (entries R).length = (lettersD R).length := by
  unfold entries lettersD
  rw [flat_len, flat_len]
  congr 1
  refine List.map_congr_left fun p hp => ?_
  rw [flat_len, flat_len]
  congr 1
  refine List.map_congr_left fun q hq => ?_
  unfold entPQ lettersPQ
  rw [List.length_map, List.length_zipIdx, List.length_map, List.length_range, ← words_len, hh p hp q hq]
end K66
set_option maxHeartbeats 4000000
namespace K66
variable [TabAt]
open PySem PySem.Spec PyProof.Rows L2
section
variable {P : Program} {w : World} {C H C' H' : Hp}
theorem OwnL.len : ∀ {rs : List (List Dt)} {ps : List Addr}, OwnL P w C H rs ps → ps.length = rs.length
  | [], _, h => by rw [show _ = [] from h]; rfl
  | r :: rs, _, h => by
    obtain ⟨p, qs, vs, rfl, _, _, _, q⟩ := h
    rw [List.length_cons, List.length_cons, q.len]
theorem OwnL.snoc {r : List Dt} {l : Addr} {vs : List V} : ∀ {rs : List (List Dt)} {ps : List Addr}, OwnL P w C H rs ps → C l = none → H l = some (.lst vs) → IsL P w C r vs → OwnL P w C H (rs ++ [r]) (ps ++ [l])
  | [], _, h, c, e, i => by rw [show _ = [] from h]; exact ⟨l, [], vs, rfl, c, e, i, rfl⟩
  | r' :: rs, _, h, c, e, i => by
    obtain ⟨p, qs, us, rfl, c1, e1, i1, q⟩ := h
    exact ⟨p, qs ++ [l], us, rfl, c1, e1, i1, q.snoc c e i⟩
theorem OwnL.get : ∀ {rs : List (List Dt)} {ps : List Addr} {j : Nat} {r : List Dt}, OwnL P w C H rs ps → rs[j]? = some r → ∃ l vs, ps[j]? = some l ∧ C l = none ∧ H l = some (.lst vs) ∧ IsL P w C r vs
  | [], _, j, r, _, h => by simp at h
  | r' :: rs, _, 0, r, h, e => by
    obtain ⟨p, qs, us, rfl, c1, e1, i1, q⟩ := h
    simp at e; subst e
    exact ⟨p, us, rfl, c1, e1, i1⟩
  | r' :: rs, _, j + 1, r, h, e => by
    obtain ⟨p, qs, us, rfl, c1, e1, i1, q⟩ := h
    obtain ⟨l, vs, a, b⟩ := q.get (j := j) (by simpa using e)
    exact ⟨l, vs, by simpa using a, b⟩
/-- one list is written -/
theorem OwnL.put {r : List Dt} {l : Addr} {vs : List V} (i : IsL P w C r vs) : ∀ {rs : List (List Dt)} {ps : List Addr} {j : Nat}, OwnL P w C H rs ps → ps.Nodup → ps[j]? = some l → OwnL P w C (upd H l (.lst vs)) (rs.set j r) ps
  | [], _, j, h, _, e => by rw [show _ = [] from h] at e; simp at e
  | r' :: rs, _, 0, h, n, e => by
    obtain ⟨p, qs, us, rfl, c1, e1, i1, q⟩ := h
    simp at e; subst e
    rw [List.nodup_cons] at n
    refine ⟨p, qs, vs, rfl, c1, upd_same, i, ?_⟩
    have x : ∀ {rs : List (List Dt)} {qs : List Addr}, p ∉ qs → OwnL P w C H rs qs → OwnL P w C (upd H p (.lst vs)) rs qs := fun {rs} => by
      induction rs with
      | nil => exact fun _ h => h
      | cons r rs ih =>
        intro qs n h
        obtain ⟨p2, q2, u2, rfl, c2, e2, i2, h2⟩ := h
        rw [List.mem_cons, not_or] at n
        exact ⟨p2, q2, u2, rfl, c2, by rw [upd_ne (Ne.symm n.1)]; exact e2, i2, ih n.2 h2⟩
    exact x n.1 q
  | r' :: rs, _, j + 1, h, n, e => by
    obtain ⟨p, qs, us, rfl, c1, e1, i1, q⟩ := h
    have e : qs[j]? = some l := by simpa using e
    rw [List.nodup_cons] at n
    exact ⟨p, qs, us, rfl, c1, by rw [upd_ne fun z => n.1 (by rw [z]; exact List.mem_of_getElem? e)]; exact e1, i1, q.put i n.2 e⟩
/-- they come to the core -/
theorem OwnL.adopt (l0 : Le C H) : ∀ {rs : List (List Dt)} {ps : List Addr}, OwnL P w C H rs ps → ps.Nodup → ∃ C', Stw (fun a => a ∈ ps) C H C' H ∧ IsL P w C' (rs.map .lst) (ps.map .ref)
  | [], _, h, _ => by
    rw [show _ = [] from h]
    exact ⟨C, .refl l0, rfl⟩
  | r :: rs, _, h, n => by
    obtain ⟨p, qs, us, rfl, c1, e1, i1, q⟩ := h
    rw [List.nodup_cons] at n
    obtain ⟨C', y, il⟩ := OwnL.adopt l0 q n.2
    have c2 : C' p = none := y.hid p n.1 c1 (by rw [e1]; exact fun z => nomatch z)
    have z : Stw (fun b => b = p) C' H (upd C' p (.lst us)) (upd H p (.lst us)) := .inn y.le' c2 rfl
    rw [upd_self e1] at z
    refine ⟨_, (y.weak fun a ha => List.mem_cons_of_mem _ ha).trans (z.weak fun a ha => by rw [ha]; exact List.mem_cons_self), .ref p, _, rfl, ⟨p, us, rfl, upd_same, IsL.mono z.le.w _ _ (IsL.mono y.le.w _ _ i1)⟩, IsL.mono z.le _ _ il⟩
end
def EvPair (X : Cx) (e : Expr) (ds : List Sl) (k : Str) (r : List Dt) : Prop := ∀ C H σ, SDx X C H σ ds → ∀ Q : VK, (∀ T l vs C' H', Stp C H C' H' → H T = none → H l = none → T ≠ l → C' T = none → C' l = none → H' T = some (.tup [.str k, .ref l]) → H' l = some (.lst vs) → IsLx X C' r vs → Q (.ref T) H') → wpE X e σ H Q
theorem gone {W : Addr → Prop} {C H C1 H1 : Hp} (x : Stw W C H C1 H1) {a : Addr} (h : H1 a = none) : H a = none := by
  cases e : H a with
  | none => rfl
  | some o => exact absurd h (x.th a (by rw [e]; exact fun z => nomatch z))
section
variable {X : Cx} {ds : List Sl} {a b e elt tg iter : Expr} {pos p : Pos} {kk : Nat} {scope : Scope} {own : List (Str × Nat)}
theorem EvPair.mk {k : Str} {r : List Dt} (ha : EvD X a ds (.str k)) (hb : EvO X b ds (.ol r)) (hst : starEach [a, b] X.env = (false, eval a X.env) :: starEach [b] X.env := by rfl) (hst2 : starEach [b] X.env = (false, eval b X.env) :: starEach [] X.env := by rfl) : EvPair X (.Tuple [a, b] kk pos) ds k r := fun C H σ S Q q =>
  peW (pe_tup (pa_cons wpE.pe (pa_cons wpE.pe pa_nil hst2) hst)) (ha C H σ S _ fun v C1 H1 x1 i1 => hb C1 H1 σ (S.mono x1) _ fun u C2 H2 fp x2 i2 n2 f2 => ⟨by show 2 ≤ sizeLine; decide, fun T hT => by
    obtain ⟨l, vs, rfl, e2, c2, h2, il⟩ := i2
    cases e2
    rw [show v = V.str k from i1]
    have hl := f2 l (by simp)
    have hne : T ≠ l := fun z => by rw [z, h2] at hT; cases hT
    have x3 : Stp C2 H2 C2 (upd H2 T (.tup [.str k, .ref l])) := .only x2.le' (same_new hT)
    exact q T l vs C2 _ ((x1.trans x2).trans x3) (gone (W := fun _ => False) (x1.trans x2).w hT) (gone (W := fun _ => False) x1.w hl) hne (x2.le'.dom T hT) c2 upd_same (by rw [upd_ne hne.symm]; exact h2) il⟩)
/-- [(k, l) for target in iter], the lists one's own -/
theorem lc_pairs {α : Type} {enc : α → Dt} {kf : α → Str} {rf : α → List Dt} {ys : List α} (hc : X.calm = true) (hN : X.N.Nodup) (hi : EvI X (fun _ => False) tg iter ds (ys.map enc)) (ok : BlkOk X.N X.env.scope scope own) (hl : ys.length ≤ 100000)
    (hb : ∀ y ∈ ys, ∃ ds' is, (∀ j ∈ is, j ∈ own.map (·.2)) ∧ (∀ s H C cl fp, EvG (Bk X scope s H C cl fp) tg (enc y) (wipeD ds (own.map (·.2))) is ds') ∧ ∀ s H C cl fp, EvPair (Bk X scope s H C cl fp) elt ds' (kf y) (rf y))
    {C H : Hp} {σ : L2.St} (S : SDx X C H σ ds) {Q : VK}
    (q : ∀ (D : Addr) (C2 H2 : Hp) (ts ls : List Addr), Stp C H C2 H2 → H D = none → H2 D = some (.lst (ts.map V.ref)) → ts.length = ys.length → ls.length = ys.length → (∀ (j : Nat) t l y, ts[j]? = some t → ls[j]? = some l → ys[j]? = some y → H2 t = some (.tup [.str (kf y), .ref l])) → OwnL X.prog X.w C2 H2 (ys.map rf) ls → ls.Nodup → (∀ l ∈ ls, H l = none) → Q (.ref D) H2) :
    tLc (wpI X tg iter) (fun v σ H Q => ∀ s H0 C cl fp, wpG (Bk X scope s H0 C cl fp) tg v σ H Q) tYes (fun σ H Q => ∀ s H0 C cl fp, wpE (Bk X scope s H0 C cl fp) elt σ H Q) (own.map (·.2)) σ H Q :=
  hi C H σ S _ fun J C1 H1 x1 wk D hD => by
    have z0 : Stp C1 H1 C1 (upd H1 D (.lst [])) := .only x1.le' (same_new hD)
    have wkat : ∀ {C2 H2 : Hp}, Stw (fun a => a = D) C1 (upd H1 D (.lst [])) C2 H2 → Stp C1 H1 C2 H2 := fun {C2 H2} y =>
      (Stw.old (W := fun _ => False) z0.w y fun a e => .inr (by rw [e]; exact hD)).stp fun _ z => z
    let St : Nat → Hp → Prop := fun i H2 => ∃ (C2 : Hp) (ts ls : List Addr), Stw (fun a => a = D) C1 (upd H1 D (.lst [])) C2 H2 ∧ C2 D = none ∧ H2 D = some (.lst (ts.map V.ref)) ∧ ts.length = i ∧ ls.length = i ∧ (∀ (j : Nat) t l y, ts[j]? = some t → ls[j]? = some l → ys[j]? = some y → H2 t = some (.tup [.str (kf y), .ref l]) ∧ C2 t = none ∧ t ≠ D) ∧
      OwnL X.prog X.w C2 H2 ((ys.take i).map rf) ls ∧ ls.Nodup ∧ ∀ l ∈ ls, H l = none ∧ l ≠ D
    refine ⟨fun i m H2 => m = ys.length - i ∧ i ≤ ys.length ∧ St i H2, ⟨ys.length, by omega, Nat.zero_le _, C1, [], [], .refl z0.le', x1.le'.dom D hD, upd_same, rfl, rfl, (fun j t l y h => by simp at h), rfl, List.nodup_nil, fun l h => by simp at h⟩, ?_⟩
    rintro i m H2 ⟨rfl, hile, C2, ts, ls, y2, n2, h2, lt, ll, ht, ho, hn, hf⟩
    have t2 := wkat y2
    obtain ⟨w1, w2⟩ := wk C2 H2 t2.w i
    by_cases hlt : i < ys.length
    · obtain ⟨hgo, hy⟩ := w1 (enc ys[i]) (by rw [List.getElem?_map, List.getElem?_eq_getElem hlt]; rfl)
      refine .inr ⟨hgo, St (i + 1), fun H' h' => ⟨ys.length - (i + 1), by omega, rfl, hlt, h'⟩, fun v H3 hv => ?_⟩
      obtain ⟨C3, x3, i3⟩ := hy v H3 hv
      obtain ⟨ds', is, his, hg, he⟩ := hb ys[i] (List.getElem_mem hlt)
      have S3 : SDx X C3 H3 (wipe σ (own.map (·.2))) (wipeD ds (own.map (·.2))) := (S.mono ((x1.trans t2).trans x3)).wiped _
      intro s H0 Ca cl fp
      refine (hg s H0 Ca cl fp).run C3 H3 _ v S3 i3 _ fun σ4 C4 H4 x4 S4 l4 k4 => ⟨?_, ?_⟩
      · rw [wipe_eq l4 fun j hj => k4 j fun hm => hj (his j hm), wipe_wipe]
      · show (if true = true then _ else St (i + 1) H4)
        rw [if_pos rfl]
        refine fun s H0 Ca cl fp => he s H0 Ca cl fp C4 H4 σ4 S4 _ fun T l vs C5 H5 x5 hT hl' hTl cT cl' eT el il => ?_
        have x25 := (x3.trans x4).trans x5
        have hneD : H2 D ≠ none := by rw [h2]; exact fun z => nomatch z
        have n5 : C5 D = none := x25.hid D n2 hneD
        have d5 : H5 D = some (.lst (ts.map V.ref)) := x25.same _ _ n2 h2
        have TD : T ≠ D := fun z => by rw [z] at eT; rw [d5] at eT; cases eT
        have lD : l ≠ D := fun z => by
          have : H4 l = none := hl'
          rw [z, (x3.trans x4).same _ _ n2 h2] at this; cases this
        have lnew : ∀ a, H2 a ≠ none → a ≠ l := fun a ha z => by
          have := gone (W := fun _ => False) (x3.trans x4).w hl'
          rw [z] at ha; exact ha this
        refine ⟨ts.map V.ref, d5, by rw [List.length_map, lt]; exact Nat.lt_of_lt_of_le hlt (small hl), C5, ts ++ [T], ls ++ [l], (y2.trans x25.w).trans (Stw.out x25.le' n5 rfl), n5, by rw [upd_same, List.map_append]; rfl, by rw [List.length_append, lt]; rfl, by rw [List.length_append, ll]; rfl, fun j t' l' y ht' hl'' hy' => ?_, ?_, ?_, fun l' hl'' => ?_⟩
        · by_cases hj : j < i
          · rw [List.getElem?_append_left (by omega)] at ht' hl''
            obtain ⟨g1, g2, g3⟩ := ht j t' l' y ht' hl'' hy'
            exact ⟨by rw [upd_ne g3]; exact x25.same _ _ g2 g1, x25.hid t' g2 (by rw [g1]; exact fun z => nomatch z), g3⟩
          · have hji : j = i := by
              have := (List.getElem?_eq_some_iff.mp ht').1
              rw [List.length_append, lt, List.length_singleton] at this
              omega
            subst hji
            rw [List.getElem?_append_right (by omega), lt, Nat.sub_self] at ht'
            rw [List.getElem?_append_right (by omega), ll, Nat.sub_self] at hl''
            cases ht'
            cases hl''
            have hy'' : ys[j] = y := by rw [List.getElem?_eq_getElem hlt] at hy'; exact Option.some.inj hy'
            rw [← hy'']
            exact ⟨by rw [upd_ne TD]; exact eT, cT, TD⟩
        · have e1 : (ys.take (i + 1)).map rf = (ys.take i).map rf ++ [rf ys[i]] := by rw [List.take_add_one, List.getElem?_eq_getElem hlt, List.map_append]; rfl
          rw [e1]
          have o1 : OwnL X.prog X.w C5 H5 ((ys.take i).map rf) ls := ho.mono (W := fun _ => False) x25.w fun _ _ z => z
          have o2 : OwnL X.prog X.w C5 (upd H5 D (.lst (ts.map V.ref ++ [V.ref T]))) ((ys.take i).map rf) ls := o1.mono (W := fun b => b = D) (Stw.out x25.le' n5 rfl) fun a ha z => (hf a ha).2 z
          exact o2.snoc cl' (by rw [upd_ne lD]; exact el) il
        · rw [List.nodup_append]
          refine ⟨hn, List.pairwise_singleton _ _, fun a ha b hb z => ?_⟩
          rw [List.mem_singleton.mp hb] at z
          exact lnew a (ho.th a ha).2 z
        · rcases List.mem_append.mp hl'' with z | z
          · exact hf l' z
          · rw [List.mem_singleton.mp z]
            exact ⟨gone (W := fun _ => False) (x1.trans (t2.trans (x3.trans x4))).w hl', lD⟩
    · have hi : i = ys.length := by omega
      subst hi
      rw [List.take_length] at ho
      exact .inl ⟨w2 (by rw [List.length_map]; exact Nat.le_refl _), q D C2 H2 ts ls (x1.trans t2) (gone (W := fun _ => False) x1.w hD) h2 lt ll (fun j t l y a b c => (ht j t l y a b c).1) ho hn fun l hl => (hf l hl).1⟩
theorem mergeK_new : ∀ {more kvs : List (Key × V)}, ((kvs ++ more).map (·.1)).Nodup → mergeK kvs more = kvs ++ more
  | [], kvs, _ => by rw [List.append_nil]; rfl
  | p :: more, kvs, h => by
    have e : putK kvs p.1 p.2 = kvs ++ [p] := by
      unfold putK
      rw [if_neg]
      intro z
      obtain ⟨q, hq, e⟩ := List.any_eq_true.mp z
      have e := of_decide_eq_true e
      rw [List.map_append, List.nodup_append] at h
      exact h.2.2 q.1 (List.mem_map.mpr ⟨q, hq, rfl⟩) p.1 (List.mem_map.mpr ⟨p, List.mem_cons_self, rfl⟩) e
    show mergeK (putK kvs p.1 p.2) more = _
    rw [e, mergeK_new (by rw [List.append_assoc]; exact h), List.append_assoc]
    rfl
/-- dict([(k, l) for ..]), own lists -/
theorem EvO.dictRw {α : Type} {enc : α → Dt} {kf : α → Str} {rf : α → List Dt} {ys : List α} {lpos : Pos} (hc : X.calm = true) (hN : X.N.Nodup) (hi : EvI X (fun _ => False) tg iter ds (ys.map enc)) (ok : BlkOk X.N X.env.scope scope own) (hl : ys.length ≤ 1000) (hn : (ys.map kf).Nodup)
    (hb : ∀ y ∈ ys, ∃ ds' is, (∀ j ∈ is, j ∈ own.map (·.2)) ∧ (∀ s H C cl fp, EvG (Bk X scope s H C cl fp) tg (enc y) (wipeD ds (own.map (·.2))) is ds') ∧ ∀ s H C cl fp, EvPair (Bk X scope s H C cl fp) elt ds' (kf y) (rf y))
    (hm : X.mg "dict" = none) (hg : Gl X "dict" := by rfl) (hst : starEach [.ListComp elt [⟨tg, iter, [], 0⟩] scope lpos] X.env = (false, eval (.ListComp elt [⟨tg, iter, [], 0⟩] scope lpos) X.env) :: starEach [] X.env := by rfl) (hs : ∀ x, foldedSetIterable iter X.env x = pure x := by intro _; rfl) :
    EvO X (.Call (.Name "dict" p) [.ListComp elt [⟨tg, iter, [], 0⟩] scope lpos] [] pos) ds (.rw (ys.map kf) (ys.map rf)) := fun C H σ S Q q => by
  refine wpE.lockNew (peW (pe_callTy (call_dictP hc) hg hm (by decide +kernel) (pa_cons (pe_lc hc hN wpI.pi ok (g := fun v σ H Q => ∀ s H0 C cl fp, wpG (Bk X scope s H0 C cl fp) tg v σ H Q) (tt := tYes) (te := fun σ H Q => ∀ s H0 C cl fp, wpE (Bk X scope s H0 C cl fp) elt σ H Q)
    (fun s H C cl fp => ⟨fun pins s' σ H' v u Q J r h => (h s H C cl fp).go pins s' u J r⟩) (fun s H C cl fp => pts_nil) (fun s H C cl fp => ⟨fun pins s' σ H' Q J h => (h s H C cl fp).go pins s' J⟩) hs) pa_nil hst) (by decide) (by decide) hst) ?_)
  unfold tCB tCons
  refine lc_pairs hc hN hi ok (by omega) hb S fun D C2 H2 ts ls x2 hD h2 lt ll ht ho hnl hf => ?_
  have hlen : (ys.map fun y => (.inr (kf y) : Key)).length = (ls.map V.ref).length := by rw [List.length_map, List.length_map, ll]
  refine ⟨D, ts, (ys.map fun y => (.inr (kf y) : Key)).zip (ls.map V.ref), rfl, .inl (.inl h2), ?_, fun d hd => ⟨d, _, rfl, upd_same, True.intro, fun od => ?_⟩⟩
  · have go : ∀ (ts : List Addr) (ls : List Addr) (ys : List α), ts.length = ys.length → ls.length = ys.length → (∀ (j : Nat) t l y, ts[j]? = some t → ls[j]? = some l → ys[j]? = some y → H2 t = some (.tup [.str (kf y), .ref l])) → Paired (fun p kv => SqT X.K H2 p [kV kv.1, kv.2]) ts ((ys.map fun y => (.inr (kf y) : Key)).zip (ls.map V.ref)) := by
      intro ts
      induction ts with
      | nil =>
        intro ls ys h1 h3 _
        cases ys with
        | nil => exact .nil
        | cons y ys => simp at h1
      | cons t ts ih =>
        intro ls ys h1 h3 h4
        cases ys with
        | nil => simp at h1
        | cons y ys =>
          cases ls with
          | nil => simp at h3
          | cons l ls =>
            refine .cons (.inl (.inl (h4 0 t l y rfl rfl rfl))) (ih ls ys (by simpa using h1) (by simpa using h3) fun j t' l' y' a b c => h4 (j + 1) t' l' y' (by simpa using a) (by simpa using b) (by simpa using c))
    exact go ts ls ys lt ll ht
  · have em : mergeK [] ((ys.map fun y => (.inr (kf y) : Key)).zip (ls.map V.ref)) = (ys.map fun y => (.inr (kf y) : Key)).zip (ls.map V.ref) := by
      rw [mergeK_new]
      · rfl
      · rw [List.nil_append, List.map_fst_zip (by rw [hlen]; exact Nat.le_refl _)]
        have e : (ys.map fun y => (.inr (kf y) : Key)) = (ys.map kf).map Sum.inr := by rw [List.map_map]; rfl
        rw [e]
        exact List.Pairwise.map _ (fun a b hne z => hne (Sum.inr.inj z)) hn
    rw [em]
    have c2 : C2 d = none := x2.le'.dom d hd
    have x3 : Stp C2 H2 (upd C2 d (.frz od (.dK ((ys.map fun y => (.inr (kf y) : Key)).zip (ls.map V.ref))))) (upd (upd H2 d (.dK ((ys.map fun y => (.inr (kf y) : Key)).zip (ls.map V.ref)))) d (.frz od (.dK ((ys.map fun y => (.inr (kf y) : Key)).zip (ls.map V.ref))))) := by
      have e : upd (upd H2 d (.dK ((ys.map fun y => (.inr (kf y) : Key)).zip (ls.map V.ref)))) d (.frz od (.dK ((ys.map fun y => (.inr (kf y) : Key)).zip (ls.map V.ref)))) = upd H2 d (.frz od (.dK ((ys.map fun y => (.inr (kf y) : Key)).zip (ls.map V.ref)))) := by
        funext b
        by_cases z : b = d
        · rw [z, upd_same, upd_same]
        · rw [upd_ne z, upd_ne z, upd_ne z]
      rw [e]
      exact .new x2.le' hd
    refine q _ _ _ ls (x2.trans x3) ⟨d, od, rfl, ?_, by rw [List.length_map, ll], ho.mono (W := fun _ => False) x3.w fun _ _ z => z⟩ hnl hf
    rw [upd_same, List.map_map]
    rfl
end
end K66
set_option maxHeartbeats 4000000
namespace K66
variable [TabAt]
open PySem PySem.Spec PyProof.Rows L2
theorem valV_at {l : Addr} {h : Str} : ∀ {hs : List Str} {ps : List Addr} {j : Nat}, hs.Nodup → hs[j]? = some h → ps[j]? = some l → valV ((hs.map (Sum.inr : Str → Key)).zip (ps.map V.ref)) (.inr h) = some (.ref l)
  | [], _, j, _, e, _ => by simp at e
  | _ :: _, [], j, _, _, e => by simp at e
  | x :: hs, p :: ps, 0, n, e, e2 => by
    simp at e e2
    subst e e2
    rw [List.map_cons, List.map_cons, List.zip_cons_cons, valV_pos rfl]
  | x :: hs, p :: ps, j + 1, n, e, e2 => by
    rw [List.nodup_cons] at n
    have e : hs[j]? = some h := by simpa using e
    have e2 : ps[j]? = some l := by simpa using e2
    rw [List.map_cons, List.map_cons, List.zip_cons_cons, valV_neg]
    · exact valV_at n.2 e e2
    · intro z
      have z : x = h := Sum.inr.inj z
      exact n.1 (by rw [z]; exact List.mem_of_getElem? e)
section
variable {X : Cx} {ds : List Sl} {e b k ix a : Expr} {pos p pos' q1 apos cpos p1 : Pos} {Ψ : Res → Prop} {d : Dt} {hs : List Str} {rs : List (List Dt)}
theorem wpE.rw {W : Addr → Prop} {H0 C H : Hp} {σ : L2.St} {f : Nat → List Addr} {h : Str} {j : Nat} (i : Nat) {x : Str} (S : SWf X.prog X.w W H0 C H σ ds f) (hs' : ds[i]? = some (.rw hs rs)) (hu : X.A.units + 64 < cLine) (hn : hs.Nodup) (hj : hs[j]? = some h) (hk : EvD X k ds (.str h)) {Q : VK}
    (q : ∀ l vs r C1 H1, Stp C H C1 H1 → (f i)[j]? = some l → rs[j]? = some r → C1 l = none → H1 l = some (.lst vs) → IsLx X C1 r vs → Q (.ref l) H1)
    (hN : X.N[i]? = some x := by rfl) (hv : Vis X.env.scope x := by first | exact Or.inl rfl | exact Or.inr (Or.inl rfl) | exact Or.inr (Or.inr rfl)) (hd : (x == ("__debug__" : Str)) = false := by decide) (hcd : (x == ("__classdict__" : Str)) = false := by decide) (hsl : NoSl k := by exact fun _ _ => rfl) :
    wpE X (.Subscript (.Name x q1) k pos) σ H Q := by
  obtain ⟨a, ob, e1, c1, l1, o1⟩ := S.sl i _ hs'
  refine peW (pe_dget (by omega) wpE.pe wpE.pe hsl) (nameW e1 (hk C H σ S.sd _ fun kv C1 H1 x1 i1 => ?_) hN hv hd hcd)
  have hj1 : j < hs.length := (List.getElem?_eq_some_iff.mp hj).1
  have hl := o1.len
  have hjr : rs[j]? = some (rs[j]'(by omega)) := List.getElem?_eq_getElem _
  have o2 : OwnL X.prog X.w C1 H1 rs (f i) := o1.mono (W := fun _ => False) x1.w fun _ _ z => z
  obtain ⟨l, vs, g1, g2, g3, g4⟩ := o2.get hjr
  rw [show kv = V.str h from i1]
  refine ⟨a, .ref l, rfl, ?_, q l vs _ C1 H1 x1 g1 hjr g2 g3 g4⟩
  have := DGet.d (q := .inr h) (H := H1) (a := a) (ks := hs.map Sum.inr) (us := (f i).map V.ref) (.inr ⟨ob, x1.le'.ex _ _ (x1.le.ex _ _ c1)⟩)
  rw [valV_at hn hj g1] at this
  exact this
/-- an own thing of slot i is written -/
theorem own_putN {W : Addr → Prop} {C0 H0 C H : Hp} {σ : L2.St} {f : Nat → List Addr} {i : Nat} {a : Addr} {o : HO} {s' : Sl} (x : Stw W C0 H0 C H) (S : SWf X.prog X.w W H0 C H σ ds f) (ha : a ∈ f i) (hc : C a = none) (hs : SlF X.prog X.w C (upd H a o) s' (σ[i]?).join (f i)) :
    Stw W C0 H0 C (upd H a o) ∧ Prg C H C (upd H a o) ∧ SWx X W H0 C (upd H a o) σ (ds.set i s') := by
  have y : Stw (fun b => b = a) C H C (upd H a o) := .out S.le hc rfl
  exact ⟨x.old y fun b e => by rw [e]; exact S.new i a ha, y.prg, _, S.wr y (fun b e => by rw [e]; exact ha) hs⟩
theorem rw_put {C H : Hp} {fp : List Addr} {l : Addr} {vs : List V} {r' : List Dt} {j : Nat} {o : Option V} (h : SlF X.prog X.w C H (.rw hs rs) o fp) (n : fp.Nodup) (hl : fp[j]? = some l) (i : IsLx X C r' vs) : SlF X.prog X.w C (upd H l (.lst vs)) (.rw hs (rs.set j r')) o fp := by
  obtain ⟨a, ob, e1, c1, l1, o1⟩ := h
  exact ⟨a, ob, e1, c1, l1, o1.put i n hl⟩
/-- x[k].append(e) -/
theorem S1.appendRw (i : Nat) {x h : Str} {j : Nat} {r : List Dt} (hs' : ds[i]? = some (.rw hs rs)) (hu : X.A.units + 64 < cLine) (hn : hs.Nodup) (hj : hs[j]? = some h) (hr : rs[j]? = some r) (hk : EvD X k ds (.str h)) (he : EvD X e ds d) (hl : r.length ≤ 100000)
    (kk : Ψ (.nx (ds.set i (.rw hs (rs.set j (r ++ [d])))))) (hN : X.N[i]? = some x := by rfl) (hv : Vis X.env.scope x := by first | exact Or.inl rfl | exact Or.inr (Or.inl rfl) | exact Or.inr (Or.inr rfl)) (hd : (x == ("__debug__" : Str)) = false := by decide) (hcd : (x == ("__classdict__" : Str)) = false := by decide) (hsl : NoSl k := by exact fun _ _ => rfl)
    (hbase : attributeBase (.Subscript (.Name x q1) k p1) "append" X.env (eval (.Subscript (.Name x q1) k p1) X.env) = eval (.Subscript (.Name x q1) k p1) X.env := by rfl)
    (hfew : ((backTo cpos (starEach [e] X.env)).all (fun z => !z.1) && (backToKw cpos (keywordEach [] X.env)).all (fun z => z.1.isSome) && decide (([e] : List Expr).length + ([] : List Keyword).length + (if ([] : List Keyword).isEmpty then 0 else 1) < 30)) = true := by rfl)
    (hline : (apos.endLine == cpos.line) = true := by rfl) (hst : starEach [e] X.env = (false, eval e X.env) :: starEach [] X.env := by rfl) (hsw : swapsWith (.Call (.Attribute (.Subscript (.Name x q1) k p1) "append" apos) [e] [] cpos) none pos.line X.env = pure false := by rfl) :
    S1 X (.Expr (.Call (.Attribute (.Subscript (.Name x q1) k p1) "append" apos) [e] [] cpos) pos) ds Ψ := fun W C0 H0 C H σ D w0 ⟨f, S⟩ q => by
  refine psW (ps_expr (pe_bm PySem.F.plainAttrs_list PySem.F.slot_list_append PySem.F.type_list_append mt_append wpE.pe (pa_cons wpE.pe pa_nil hst) hbase hfew hline hst) hsw) (wpE.rw i S hs' hu hn hj hk (fun l vs r' C1 H1 x1 hfl hr' c1 h1 i1 => ?_) hN hv hd hcd hsl)
  rw [hr] at hr'
  cases hr'
  refine ⟨.inl ⟨rfl, vs, .inl (.inl h1)⟩, he C1 H1 σ (S.mono x1).sd _ fun u C2 H2 x2 i2 => ?_⟩
  have x12 := x1.trans x2
  have c2 : C2 l = none := x2.hid l c1 (by rw [h1]; exact fun z => nomatch z)
  have S2 := S.mono x12
  refine ⟨l, vs, u, rfl, rfl, x2.same _ _ c1 h1, by rw [i1.len]; exact Nat.lt_of_le_of_lt hl (by decide), ?_⟩
  obtain ⟨y1, y2, y3⟩ := own_putN (w0.thenS x12) S2 (List.mem_of_getElem? hfl) c2 (rw_put (S2.sl i _ hs') (S2.nd i) hfl ((IsL.mono x2.le.w _ _ i1).app (.one i2)))
  exact q _ kk C2 _ σ y1 (x12.prg.trans y2) y3
/-- x[k][ix] = e -/
theorem S1.setRw (i : Nat) {x h : Str} {j n : Nat} {r : List Dt} (hs' : ds[i]? = some (.rw hs rs)) (hu : X.A.units + 64 < cLine) (hn : hs.Nodup) (hj : hs[j]? = some h) (hr : rs[j]? = some r) (hk : EvD X k ds (.str h)) (hix : EvD X ix ds (.int (n : Nat))) (hlt : n < r.length) (he : EvD X e ds d)
    (kk : Ψ (.nx (ds.set i (.rw hs (rs.set j (r.set n d)))))) (hN : X.N[i]? = some x := by rfl) (hv : Vis X.env.scope x := by first | exact Or.inl rfl | exact Or.inr (Or.inl rfl) | exact Or.inr (Or.inr rfl)) (hd : (x == ("__debug__" : Str)) = false := by decide) (hcd : (x == ("__classdict__" : Str)) = false := by decide) (hsl : NoSl k := by exact fun _ _ => rfl)
    (hsw : swapsWithSole [.Subscript (.Subscript (.Name x q1) k p1) ix pos'] e pos.line X.env = pure false := by rfl) (hw : swappedStores [.Subscript (.Subscript (.Name x q1) k p1) ix pos'] e X.env = pure none := by rfl)
    (h1 : (assignEach [.Subscript (.Subscript (.Name x q1) k p1) ix pos'] X.env).map (·.2) = [assign (.Subscript (.Subscript (.Name x q1) k p1) ix pos') X.env] := by rfl)
    (ha : ∀ v, assign (.Subscript (.Subscript (.Name x q1) k p1) ix pos') X.env v = (do
      let ov ← holding [v] (eval (.Subscript (.Name x q1) k p1) X.env)
      let iv ← holding [v, ov] (eval ix X.env)
      standAt pos'
      holding [v, ov, iv] (setItem ov iv v)
      release [v, ov, iv] []) := by intro _; rfl) :
    S1 X (.Assign [.Subscript (.Subscript (.Name x q1) k p1) ix pos'] e pos) ds Ψ := fun W C0 H0 C H σ D w0 ⟨f, S⟩ q => by
  refine psW (ps_asg wpE.pe (pg_sub wpE.pe wpE.pe set_list ha) hsw hw h1) (he C H σ S.sd _ fun u C0' H0' x0 i0 => wpE.rw i (S.mono x0) hs' hu hn hj hk (fun l vs r' C1 H1 x1 hfl hr' c1 h1 i1 => ?_) hN hv hd hcd hsl)
  rw [hr] at hr'
  cases hr'
  refine hix C1 H1 σ ((S.mono x0).mono x1).sd _ fun kv C2 H2 x2 i2 => ?_
  have x12 := (x0.trans x1).trans x2
  have c2 : C2 l = none := x2.hid l c1 (by rw [h1]; exact fun z => nomatch z)
  have S2 := S.mono x12
  rw [show kv = V.int (n : Nat) from i2]
  have hlt2 : n < vs.length := by rw [i1.len]; exact hlt
  refine ⟨l, vs, (n : Nat), n, rfl, rfl, x2.same _ _ c1 h1, ?_, ?_⟩
  · unfold ixN
    rw [if_pos (by omega), if_pos (by omega)]
    rfl
  obtain ⟨y1, y2, y3⟩ := own_putN (w0.thenS x12) S2 (List.mem_of_getElem? hfl) c2 (rw_put (S2.sl i _ hs') (S2.nd i) hfl (IsL.set n (IsL.mono x2.le.w _ _ i1) (Is.mono (x1.trans x2).le.w _ _ i0)))
  exact q _ kk C2 _ σ y1 (x12.prg.trans y2) y3
/-- x[k][ix] -/
theorem EvD.ixRw (i : Nat) {x h : Str} {j n : Nat} {r : List Dt} (hs' : ds[i]? = some (.rw hs rs)) (hu : X.A.units + 64 < cLine) (hn : hs.Nodup) (hj : hs[j]? = some h) (hr : rs[j]? = some r) (hk : EvD X k ds (.str h)) (hix : EvD X ix ds (.int (n : Nat))) (hd0 : r[n]? = some d)
    (hN : X.N[i]? = some x := by rfl) (hv : Vis X.env.scope x := by first | exact Or.inl rfl | exact Or.inr (Or.inl rfl) | exact Or.inr (Or.inr rfl)) (hd : (x == ("__debug__" : Str)) = false := by decide) (hcd : (x == ("__classdict__" : Str)) = false := by decide) (hsl : NoSl k := by exact fun _ _ => rfl) (hp : PlainIx ix := by exact fun _ _ => rfl) :
    EvD X (.Subscript (.Subscript (.Name x q1) k p1) ix pos) ds d := fun C H σ ⟨f, S⟩ Q q =>
  peW (pe_ix ix_list wpE.pe wpE.pe hp) (wpE.rw i S hs' hu hn hj hk (fun l vs r' C1 H1 x1 hfl hr' c1 h1 i1 => by
    rw [hr] at hr'
    cases hr'
    refine hix C1 H1 σ (S.mono x1).sd _ fun kv C2 H2 x2 i2 => ?_
    obtain ⟨y, hy, iy⟩ := i1.get hd0
    exact ⟨l, vs, (n : Nat), y, rfl, i2, .inl (.inl (x2.same _ _ c1 h1)), atI_nat hy, q y C2 H2 (x1.trans x2) (Is.mono x2.le.w _ _ iy)⟩) hN hv hd hcd hsl)
/-- x[k][:b] -/
theorem EvD.sliceRw (i : Nat) {x h : Str} {j n : Nat} {r : List Dt} {p2 : Pos} (hs' : ds[i]? = some (.rw hs rs)) (hu : X.A.units + 64 < cLine) (hn : hs.Nodup) (hj : hs[j]? = some h) (hr : rs[j]? = some r) (hk : EvD X k ds (.str h)) (hb : EvD X b ds (.int (n : Nat)))
    (hN : X.N[i]? = some x := by rfl) (hv : Vis X.env.scope x := by first | exact Or.inl rfl | exact Or.inr (Or.inl rfl) | exact Or.inr (Or.inr rfl)) (hd : (x == ("__debug__" : Str)) = false := by decide) (hcd : (x == ("__classdict__" : Str)) = false := by decide) (hsl : NoSl k := by exact fun _ _ => rfl) :
    EvD X (.Subscript (.Subscript (.Name x q1) k p1) (.Slice none (some b) none p2) pos) ds (.lst (r.take n)) := fun C H σ ⟨f, S⟩ Q q =>
  peW (pe_slice sl_list wpE.pe po_none (po_some wpE.pe)) (wpE.rw i S hs' hu hn hj hk (fun l vs r' C1 H1 x1 hfl hr' c1 h1 i1 => by
    rw [hr] at hr'
    cases hr'
    refine hb C1 H1 σ (S.mono x1).sd _ fun kv C2 H2 x2 i2 => ?_
    refine ⟨(n : Int), i2, l, vs, rfl, .inl (.inl (x2.same _ _ c1 h1)), fun p hp => ?_⟩
    have e3 : cutV vs none (some (n : Int)) = vs.take n := by
      unfold cutV
      rw [HT.sIx_none, HT.sIx_nat, List.drop_zero, Nat.sub_zero]
      by_cases hn : n ≤ vs.length
      · rw [Nat.min_eq_left hn]
      · rw [Nat.min_eq_right (by omega), List.take_of_length_le (Nat.le_refl _), List.take_of_length_le (by omega)]
    rw [e3]
    exact q _ (upd C2 p (.lst (vs.take n))) _ ((x1.trans x2).trans (.new x2.le' hp)) (Is.lst' (IsL.mono (.new (x2.le'.dom p hp)) _ _ ((IsL.mono x2.le.w _ _ i1).take n)))) hN hv hd hcd hsl)
theorem Wk.ownEnum {P : Program} {w : World} {C H : Hp} {K : PySem.W.Frag} {a : Addr} {vs : List V} {xs : List Dt} (hc : C a = none) (h : H a = some (.lst vs)) (i : IsL P w C xs vs) : Wk P w (fun _ => False) (Ite K a) C H (enumD xs) := fun C2 H2 x n => by
  have h2 : SqL K H2 a vs := .inl (.inl (x.kp _ _ (fun z => z) hc h))
  refine ⟨fun d e => ?_, fun hn => ⟨vs, h2, by rw [i.len, ← enumD_length]; exact hn⟩⟩
  obtain ⟨z, ez, rfl⟩ := enumD_get e
  obtain ⟨v, e1, i1⟩ := i.get ez
  refine ⟨⟨vs, v, h2, e1⟩, fun y H3 q => ?_⟩
  obtain ⟨T, u, rfl, hT, rfl, q⟩ := q
  have e2 := q vs h2
  rw [e1] at e2
  cases e2
  have l : Lw C2 (upd C2 T (.tup [.int (n : Nat), v])) := .new (x.le'.dom T hT)
  exact ⟨upd C2 T (.tup [.int (n : Nat), v]), .new x.le' hT, T, _, rfl, upd_same, .cons rfl (.one (Is.mono l _ _ (Is.mono x.le.w _ _ i1)))⟩
/-- enumerate(x[k]) -/
theorem EvI.enumRw (i : Nat) {x h : Str} {j : Nat} {r : List Dt} {elts : List Expr} {kk : Nat} {tpos q2 : Pos} (hs' : ds[i]? = some (.rw hs rs)) (hu : X.A.units + 64 < cLine) (hn : hs.Nodup) (hj : hs[j]? = some h) (hr : rs[j]? = some r) (hk : EvD X k ds (.str h)) (hm : X.mg "enumerate" = none) (hg : Gl X "enumerate" := by rfl)
    (hN : X.N[i]? = some x := by rfl) (hv : Vis X.env.scope x := by first | exact Or.inl rfl | exact Or.inr (Or.inl rfl) | exact Or.inr (Or.inr rfl)) (hd : (x == ("__debug__" : Str)) = false := by decide) (hcd : (x == ("__classdict__" : Str)) = false := by decide) (hsl : NoSl k := by exact fun _ _ => rfl)
    (hst : starEach [.Subscript (.Name x q1) k p1] X.env = [(false, eval (.Subscript (.Name x q1) k p1) X.env)] := by rfl) : EvI X (fun _ => False) (.Tuple elts kk tpos) (.Call (.Name "enumerate" q2) [.Subscript (.Name x q1) k p1] [] pos) ds (enumD r) := fun C H σ ⟨f, S⟩ R q =>
  piW (pi_enum hg hm (pa_cons wpE.pe pa_nil hst) hst) (wpE.rw i S hs' hu hn hj hk (fun l vs r' C1 H1 x1 hfl hr' c1 h1 i1 => by
    rw [hr] at hr'
    cases hr'
    exact ⟨l, vs, rfl, .inl (.inl h1), q _ C1 H1 x1 (.ownEnum c1 h1 i1)⟩) hN hv hd hcd hsl)
/-- sorted(x): its keys -/
theorem EvD.sortedRw (i : Nat) {x : Str} {q2 : Pos} {ys : List Str} (hc : X.calm = true) (hs' : ds[i]? = some (.rw hs rs)) (h64 : hs.length < 64) (hy : ∀ zs : List Str, zs.Perm hs → sortedS zs = true → zs = ys) (hm : X.mg "sorted" = none) (hg : Gl X "sorted" := by rfl)
    (hN : X.N[i]? = some x := by rfl) (hv : Vis X.env.scope x := by first | exact Or.inl rfl | exact Or.inr (Or.inl rfl) | exact Or.inr (Or.inr rfl)) (hd : (x == ("__debug__" : Str)) = false := by decide) (hcd : (x == ("__classdict__" : Str)) = false := by decide)
    (hst : starEach [.Name x q1] X.env = (false, eval (.Name x q1) X.env) :: starEach [] X.env := by rfl) : EvD X (.Call (.Name "sorted" q2) [.Name x q1] [] pos) ds (.lst (ys.map .str)) := fun C H σ ⟨f, S⟩ Q q => by
  obtain ⟨a, ob, e1, c1, l1, o1⟩ := S.sl i _ hs'
  refine peW (pe_callB (call_sortedD hc) hg hm (by decide +kernel) (pa_cons wpE.pe pa_nil hst) (by decide) (by decide) hst) (nameW e1 ?_ hN hv hd hcd)
  refine ⟨a, _, hs, rfl, .inr ⟨ob, S.le.ex _ _ c1⟩, ?_, h64, fun zs p2 h1 h2 hp => ?_⟩
  · rw [List.map_fst_zip (by rw [List.length_map, List.length_map, l1]; exact Nat.le_refl _)]
  · rw [hy zs h1 h2]
    have il : ∀ zs : List Str, IsLx X (upd C p2 (.lst (ys.map V.str))) (zs.map .str) (zs.map V.str) := fun zs => by
      induction zs with
      | nil => exact rfl
      | cons z zs ih => exact ⟨_, _, rfl, rfl, ih⟩
    exact q _ (upd C p2 (.lst (ys.map V.str))) _ (.new S.le hp) (Is.lst' (il ys))
/-- given away: data from now on -/
theorem Ss.relRw (i : Nat) {sts : List Stmt} (hs' : ds[i]? = some (.rw hs rs)) (h : Ss X sts (ds.set i (.d (.dic (hs.map .inr) (rs.map .lst)))) Ψ) : Ss X sts ds Ψ := fun W C0 H0 C H σ D x ⟨f, S⟩ q => by
  obtain ⟨a, ob, e1, c1, l1, o1⟩ := S.sl i _ hs'
  obtain ⟨C', y, il⟩ := OwnL.adopt S.le o1 (S.nd i)
  exact h W C0 H0 C' H σ D (x.old y fun b e => S.new i b e) ⟨_, S.inn y (fun b e => e) e1 ⟨a, ob, (f i).map V.ref, rfl, y.le.ex _ _ c1, by rw [List.length_map, List.length_map, l1], il⟩⟩ fun r hr => (q r hr).later y.prg
end
end K66
set_option maxHeartbeats 4000000
namespace K66
variable [TabAt]
open PySem PySem.Spec PyProof.Rows L2
/-- rows that a run has made to the end, of at most n letters -/
structure Made (hs : List Str) (n : Nat) (ρ : Str → Row) : Prop where
  ok : ∀ h ∈ hs, rowOk hs h (ρ h) = true
  heard : ∀ a ∈ hs, ∀ b ∈ hs, words (ρ b) false a = words (ρ a) true b
  run : Run hs ρ
  few : tot hs ρ ≤ n
  len : ∀ h ∈ hs, (ρ h).length ≤ 2 * n
def rowsF (hs : List Str) (ρ : Str → Row) : Rows := hs.map fun h => (h, ρ h)
def madeR (hs : List Str) (n : Nat) : Dt → Prop := fun d => ∃ ρ, Made hs n ρ ∧ d = sD rL (rowsF hs ρ)
/-- on the way: these letters are said and not got -/
abbrev Ltr := Str × Str × Str
def wOf (W : List Ltr) (a b : Str) : List Str := (W.filter fun l => decide (l.1 = a ∧ l.2.1 = b)).map (·.2.2)
structure Gen (hs : List Str) (n left : Nat) (ρ : Str → Row) (W : List Ltr) : Prop where
  ok : ∀ h ∈ hs, rowOk hs h (ρ h) = true
  bal : ∀ a ∈ hs, ∀ b ∈ hs, words (ρ a) true b = words (ρ b) false a ++ wOf W a b
  run : Run hs ρ
  few : tot hs ρ + left ≤ n
  len : ∀ h ∈ hs, (ρ h).length + 2 * left + W.length ≤ 2 * n
  wok : ∀ l ∈ W, l.1 ∈ hs ∧ l.2.1 ∈ hs ∧ l.1 ≠ l.2.1 ∧ isNm l.2.2 = true
theorem Gen.nil {hs : List Str} {n : Nat} : Gen hs n n (fun _ => []) [] := by
  refine ⟨fun _ _ => rfl, fun _ _ _ _ => rfl, .nil, ?_, fun h _ => ?_, fun l h => by simp at h⟩
  · have : tot hs (fun _ => []) = 0 := sum_zero hs
    omega
  · show 0 + 2 * n + 0 ≤ _; omega
theorem Gen.made {hs : List Str} {n : Nat} {ρ : Str → Row} (h : Gen hs n 0 ρ []) : Made hs n ρ :=
  ⟨h.ok, fun a ha b hb => by rw [h.bal a ha b hb]; exact (List.append_nil _).symm, h.run, by have := h.few; omega, fun x hx => by have := h.len x hx; simp at this; exact this⟩
theorem words_one (d : Deed) (k : Bool) (o : Str) : words [d] k o = if mt k o d = true then [d.2.2] else [] := by
  rw [words_eq, List.filter_cons, List.filter_nil]
  split <;> rfl
theorem rowOk_app {hs : List Str} {h : Str} {r : Row} {d : Deed} (h1 : rowOk hs h r = true) (h2 : isNm d.2.1 = true) (h3 : isNm d.2.2 = true) (h4 : d.2.1 ∈ hs) (h5 : d.2.1 ≠ h) : rowOk hs h (r ++ [d]) = true := by
  unfold rowOk at h1 ⊢
  rw [List.all_append, h1, Bool.true_and, List.all_cons, List.all_nil, Bool.and_true]
  unfold deedOk
  rw [h2, h3, decide_eq_true h4, decide_eq_false h5]; rfl
theorem wOf_app (W V : List Ltr) (a b : Str) : wOf (W ++ V) a b = wOf W a b ++ wOf V a b := by unfold wOf; rw [List.filter_append, List.map_append]
theorem wOf_one (l : Ltr) (a b : Str) : wOf [l] a b = if l.1 = a ∧ l.2.1 = b then [l.2.2] else [] := by
  unfold wOf
  rw [List.filter_cons, List.filter_nil]
  by_cases h : l.1 = a ∧ l.2.1 = b
  · rw [if_pos (decide_eq_true h), if_pos h]; rfl
  · rw [if_neg (by rw [decide_eq_false h]; exact Bool.false_ne_true), if_neg h]; rfl
theorem Gen.say {hs : List Str} (hn : hs.Nodup) (hnm : ∀ x ∈ hs, isNm x = true) {n left : Nat} {ρ : Str → Row} {W : List Ltr} (g : Gen hs n (left + 1) ρ W) {a b x : Str} (ha : a ∈ hs) (hb : b ∈ hs) (hab : b ≠ a) (hx : isNm x = true) : Gen hs n left (fupd ρ a (ρ a ++ [(true, b, x)])) (W ++ [(a, b, x)]) := by
  refine ⟨fun h hh => ?_, fun c hc e he => ?_, .say ρ a b x g.run ha hb, ?_, fun h hh => ?_, fun l hl => ?_⟩
  · by_cases z : h = a
    · subst z; rw [fupd_same]; exact rowOk_app (g.ok h hh) (hnm b hb) hx hb hab
    · rw [fupd_ne z]; exact g.ok h hh
  · have hw : words (fupd ρ a (ρ a ++ [(true, b, x)]) e) false c = words (ρ e) false c := by
      by_cases z : e = a
      · subst z
        rw [fupd_same, words_app, words_one, if_neg (by unfold mt; rw [decide_eq_false fun z => nomatch z.1]; exact Bool.false_ne_true), List.append_nil]
      · rw [fupd_ne z]
    rw [hw, wOf_app, ← List.append_assoc, ← g.bal c hc e he, wOf_one]
    by_cases z : c = a
    · subst z
      rw [fupd_same, words_app, words_one]
      by_cases z2 : b = e
      · subst z2
        rw [if_pos (show mt true b (true, b, x) = true from decide_eq_true ⟨rfl, rfl⟩), if_pos ⟨rfl, rfl⟩]
      · rw [if_neg (by unfold mt; rw [decide_eq_false fun z => z2 z.2]; exact Bool.false_ne_true), if_neg fun z => z2 z.2]
    · rw [fupd_ne z, if_neg fun y => z y.1.symm, List.append_nil]
  · have := tot_upd hn (ρ := ρ) (a := a) (q := [(true, b, x)])
    have e : sayN [(true, b, x)] = 1 := rfl
    have := g.few
    omega
  · have := g.len h hh
    rw [List.length_append, List.length_singleton]
    by_cases z : h = a
    · subst z; rw [fupd_same, List.length_append, List.length_singleton]; omega
    · rw [fupd_ne z]; omega
  · rcases List.mem_append.mp hl with z | z
    · exact g.wok l z
    · rw [List.mem_singleton.mp z]; exact ⟨ha, hb, hab.symm, hx⟩
theorem Gen.get {hs : List Str} (hn : hs.Nodup) (hnm : ∀ x ∈ hs, isNm x = true) {n left : Nat} {ρ : Str → Row} {U V : List Ltr} {l : Ltr} (g : Gen hs n left ρ (U ++ l :: V)) (hU : ∀ u ∈ U, ¬ (u.1 = l.1 ∧ u.2.1 = l.2.1)) : Gen hs n left (fupd ρ l.2.1 (ρ l.2.1 ++ [(false, l.1, l.2.2)])) (U ++ V) := by
  obtain ⟨ha, hb, hab, hx⟩ := g.wok l (by simp)
  have hU0 : wOf U l.1 l.2.1 = [] := by
    unfold wOf
    rw [List.filter_eq_nil_iff.mpr fun u hu => by rw [decide_eq_true_eq]; exact hU u hu]; rfl
  have split_ : ∀ c e, wOf (U ++ l :: V) c e = wOf U c e ++ ((if l.1 = c ∧ l.2.1 = e then [l.2.2] else []) ++ wOf V c e) := fun c e => by
    rw [wOf_app, show l :: V = [l] ++ V from rfl, wOf_app, wOf_one]
  refine ⟨fun h hh => ?_, fun c hc e he => ?_, .get ρ l.1 l.2.1 l.2.2 g.run ha hb ?_, ?_, fun h hh => ?_, fun u hu => ?_⟩
  · by_cases z : h = l.2.1
    · rw [z, fupd_same]; exact rowOk_app (g.ok _ hb) (hnm _ ha) hx ha hab
    · rw [fupd_ne z]; exact g.ok h hh
  · have hw : words (fupd ρ l.2.1 (ρ l.2.1 ++ [(false, l.1, l.2.2)]) c) true e = words (ρ c) true e := by
      by_cases z : c = l.2.1
      · rw [z, fupd_same, words_app, words_one, if_neg (by unfold mt; rw [decide_eq_false fun z => nomatch z.1]; exact Bool.false_ne_true), List.append_nil]
      · rw [fupd_ne z]
    rw [hw, g.bal c hc e he, split_, wOf_app]
    by_cases z : e = l.2.1
    · rw [z, fupd_same, words_app, words_one]
      by_cases z2 : l.1 = c
      · rw [← z2, if_pos (show mt false l.1 (false, l.1, l.2.2) = true from decide_eq_true ⟨rfl, rfl⟩), if_pos ⟨rfl, rfl⟩, hU0, List.nil_append, List.nil_append, List.append_assoc]
      · have hm : ¬ mt false c (false, l.1, l.2.2) = true := by unfold mt; rw [decide_eq_false fun z => z2 z.2]; exact Bool.false_ne_true
        rw [if_neg fun z : l.1 = c ∧ l.2.1 = l.2.1 => z2 z.1, if_neg hm, List.append_nil, List.nil_append]
    · rw [fupd_ne z, if_neg fun y => z y.2.symm, List.nil_append]
  · have h1 := congrArg List.length (g.bal _ ha _ hb)
    rw [List.length_append, words_cnt, words_cnt, split_, if_pos ⟨rfl, rfl⟩, hU0] at h1
    simp at h1
    omega
  · have := tot_upd hn (ρ := ρ) (a := l.2.1) (q := [(false, l.1, l.2.2)])
    have e : sayN [(false, l.1, l.2.2)] = 0 := rfl
    have := g.few
    omega
  · have := g.len h hh
    rw [List.length_append, List.length_cons] at this
    rw [List.length_append]
    by_cases z : h = l.2.1
    · rw [z, fupd_same, List.length_append, List.length_singleton]; rw [z] at this; omega
    · rw [fupd_ne z]; omega
  · rcases List.mem_append.mp hu with z | z
    · exact g.wok u (List.mem_append_left _ z)
    · exact g.wok u (List.mem_append_right _ (List.mem_cons_of_mem _ z))
/-- the first letter of a pair -/
theorem first_pair {a b : Str} : ∀ {W : List Ltr}, (∃ l ∈ W, l.1 = a ∧ l.2.1 = b) → ∃ U l V, W = U ++ l :: V ∧ l.1 = a ∧ l.2.1 = b ∧ ∀ u ∈ U, ¬ (u.1 = a ∧ u.2.1 = b)
  | [], h => by obtain ⟨l, hl, _⟩ := h; simp at hl
  | w :: W, h => by
    by_cases e : w.1 = a ∧ w.2.1 = b
    · exact ⟨[], w, W, rfl, e.1, e.2, fun u hu => by simp at hu⟩
    · have : ∃ l ∈ W, l.1 = a ∧ l.2.1 = b := by
        obtain ⟨l, hl, h2⟩ := h
        rcases List.mem_cons.mp hl with z | z
        · rw [z] at h2; exact absurd h2 e
        · exact ⟨l, z, h2⟩
      obtain ⟨U, l, V, e1, e2, e3, e4⟩ := first_pair this
      refine ⟨w :: U, l, V, by rw [e1]; rfl, e2, e3, fun u hu => ?_⟩
      rcases List.mem_cons.mp hu with z | z
      · rw [z]; exact e
      · exact e4 u z
end K66
set_option maxHeartbeats 4000000
namespace K66
variable [TabAt]
open PySem PySem.Spec PyProof.Rows L2
section
variable {X : Cx} {ds : List Sl} {e a b : Expr} {pos p pos' q1 q2 apos cpos : Pos} {Ψ : Res → Prop} {d : Dt}
theorem own_dp {C H : Hp} {l : Addr} {vs : List V} {xs : List Dt} {n : Nat} (lc : Le C H) (c : C l = none) (h : H l = some (.lst vs)) (i : IsLx X C xs vs) (p : pln (.lst xs) n = true) : Dp X.K H (.ref l) (py (.lst xs)) :=
  Dp.mono' p (lc.adopt c h) (show Isx X (upd C l (.lst vs)) (.lst xs) (.ref l) from ⟨l, vs, rfl, upd_same, IsL.mono (.new c) _ _ i⟩)
/-- x == [], x != [], x an own list -/
theorem own_nil {op : CmpOp} {g : Bool → Bool} (i : Nat) {x : Str} {xs : List Dt} (ho : OpR X (compareOp op) (fun u v H Q => ∃ d e, Dp X.K H u d ∧ Dp X.K H v e ∧ SeqAt.shaped d = true ∧ SeqAt.shaped e = true ∧ Q (.bl (g (PyData.eqv d e))) H)) (hs : ds[i]? = some (.ol xs)) (hp : plnL xs 19 = true)
    (hN : X.N[i]? = some x := by rfl) (hv : Vis X.env.scope x := by first | exact Or.inl rfl | exact Or.inr (Or.inl rfl) | exact Or.inr (Or.inr rfl)) (hd : (x == ("__debug__" : Str)) = false := by decide) (hcd : (x == ("__classdict__" : Str)) = false := by decide) :
    EvC X op (.Name x q1) (.List [] q2) ds (g (decide (xs = []))) := fun C H σ S Q q => by
  obtain ⟨l, vs, e1, c1, h1, i1⟩ := S.lst hs
  refine pcW (pc_of ho wpE.pe wpE.pe) (nameW e1 (peW (pe_lst pa_nil) ⟨by decide, fun t ht => ?_⟩) hN hv hd hcd)
  have x1 : Stp C H (upd C t (.lst [])) (upd H t (.lst [])) := .new S.le ht
  have c2 : upd C t (.lst []) l = none := x1.hid l c1 (by rw [h1]; exact fun z => nomatch z)
  have pl : pln (.lst xs) 20 = true := by
    show (decide ((20 : Nat) ≠ 0) && plnL xs 19) = true
    rw [hp]; rfl
  refine ⟨py (.lst xs), py (.lst []), own_dp x1.le' c2 (x1.same _ _ c1 h1) (IsL.mono x1.le.w _ _ i1) pl, Dp.mono' (n := 20) rfl x1.le' (show Isx X (upd C t (.lst [])) (.lst []) (.ref t) from ⟨t, [], rfl, upd_same, rfl⟩), pln_shaped pl (by omega), pln_shaped (n := 20) rfl (by omega), ?_⟩
  have e2 : PyData.eqv (py (.lst xs)) (py (.lst [])) = decide (xs = []) := by
    rw [Bool.eq_iff_iff, eqv_py (.lst xs) (.lst []) 20 20 pl rfl, decide_eq_true_eq]
    exact ⟨fun z => Dt.lst.inj z, fun z => by rw [z]⟩
  rw [e2]
  exact q _ _ x1
/-- x = y.pop(e) -/
theorem S1.asgPop (i j : Nat) {x y : Str} {ys : List Dt} {n : Nat} (hNd : X.N.Nodup) (hsy : ds[j]? = some (.ol ys)) (he : EvD X e ds (.int (n : Nat))) (hd0 : ys[n]? = some d) (hl : ys.length ≤ 100000) (k : Ψ (.nx ((ds.set j (.ol (ys.eraseIdx n))).set i (.d d))))
    (hNx : X.N[i]? = some x := by rfl) (hx : Loc X.env.scope x := by first | exact .inl rfl | exact .inr rfl) (hf : X.fn x = true ∨ X.env.scope.names.lookup x = some .local := by first | exact .inl rfl | exact .inr rfl) (hNy : X.N[j]? = some y := by rfl) (hvy : Vis X.env.scope y := by first | exact Or.inl rfl | exact Or.inr (Or.inl rfl) | exact Or.inr (Or.inr rfl))
    (hdy : (y == ("__debug__" : Str)) = false := by decide) (hcdy : (y == ("__classdict__" : Str)) = false := by decide) (hby : attributeBase (.Name y q2) "pop" X.env (eval (.Name y q2) X.env) = eval (.Name y q2) X.env := by rfl)
    (hfy : ((backTo cpos (starEach [e] X.env)).all (fun z => !z.1) && (backToKw cpos (keywordEach [] X.env)).all (fun z => z.1.isSome) && decide (([e] : List Expr).length + ([] : List Keyword).length + (if ([] : List Keyword).isEmpty then 0 else 1) < 30)) = true := by rfl) (hline : (apos.endLine == cpos.line) = true := by rfl)
    (hst : starEach [e] X.env = (false, eval e X.env) :: starEach [] X.env := by rfl) (hsw : swapsWith (.Call (.Attribute (.Name y q2) "pop" apos) [e] [] cpos) (some (.Name x pos')) pos.line X.env = pure false := by rfl) :
    S1 X (.Assign [.Name x pos'] (.Call (.Attribute (.Name y q2) "pop" apos) [e] [] cpos) pos) ds Ψ := fun W C0 H0 C H σ D w0 ⟨f, S⟩ q => by
  obtain ⟨l, vs, e2, n2, c2, h2, i2⟩ := S.sl j _ hsy
  refine psW (ps_set hNd hNx hx (pe_bm PySem.F.plainAttrs_list PySem.F.slot_list_pop PySem.F.type_list_pop mt_popAt wpE.pe (pa_cons wpE.pe pa_nil hst) hby hfy hline hst) hsw hf) (nameW n2 ⟨.inl ⟨rfl, vs, .inl (.inl h2)⟩, he C H σ S.sd _ fun u C1 H1 x1 iu => ?_⟩ hNy hvy hdy hcdy)
  have hn := (List.getElem?_eq_some_iff.mp hd0).1
  have i3 := IsL.mono x1.le.w _ _ i2
  obtain ⟨y0, hy0, iy0⟩ := i3.get hd0
  have hl3 := i3.len
  have c3 : C1 l = none := x1.hid l c2 (by rw [h2]; exact fun z => nomatch z)
  refine ⟨l, vs, (n : Nat), n, y0, rfl, by rw [show u = V.int (n : Nat) from iu], x1.same _ _ c2 h2, by omega, by omega, ?_, hy0, ?_⟩
  · show seqIndex? (n : Nat) vs.length = some n
    unfold seqIndex?
    simp
    omega
  · obtain ⟨y1, y2, f3, y3⟩ := own_put (s' := .ol (ys.eraseIdx n)) (w0.thenS x1) (S.mono x1) e2 c3 ⟨l, vs.eraseIdx n, rfl, n2, c3, upd_same, i3.erase n⟩
    exact q _ k C1 _ _ y1 (x1.prg.trans y2) ⟨_, y3.put (i := i) (.ofD iy0) List.nodup_nil (fun _ _ _ h => by simp at h) fun a h => by simp at h⟩
/-- dict([(k, v), ..]), data -/
theorem EvD.dictOf {α : Type} {kf : α → Str} {vf : α → Dt} {ys : List α} (hc : X.calm = true) (ha : EvD X a ds (.lst (ys.map fun y => .tup [.str (kf y), vf y]))) (hn : (ys.map kf).Nodup) (hm : X.mg "dict" = none) (hg : Gl X "dict" := by rfl) (hst : starEach [a] X.env = (false, eval a X.env) :: starEach [] X.env := by rfl) :
    EvD X (.Call (.Name "dict" p) [a] [] pos) ds (.dic (ys.map fun y => .inr (kf y)) (ys.map vf)) := fun C H σ S Q q =>
  wpE.lockNew (peW (pe_callTy (call_dictP hc) hg hm (by decide +kernel) (pa_cons wpE.pe pa_nil hst) (by decide) (by decide) hst) (ha C H σ S _ fun v C1 H1 x1 i1 => by
    obtain ⟨D, vs, rfl, r1, j1⟩ := i1
    have go : ∀ (ys : List α) (vs : List V), IsLx X C1 (ys.map fun y => .tup [.str (kf y), vf y]) vs → ∃ (ts : List Addr) (us : List V), vs = ts.map V.ref ∧ us.length = ys.length ∧ IsLx X C1 (ys.map vf) us ∧ Paired (fun p kv => SqT X.K H1 p [kV kv.1, kv.2]) ts ((ys.map fun y => (.inr (kf y) : Key)).zip us) := by
      intro ys
      induction ys with
      | nil => exact fun vs h => ⟨[], [], h, rfl, rfl, .nil⟩
      | cons y ys ih =>
        intro vs h
        obtain ⟨v, r, rfl, ⟨t, ws, rfl, rt, it⟩, h2⟩ := h
        obtain ⟨k, u, rfl, ik, iu⟩ := IsL.two' it
        obtain ⟨ts, us, e1, e2, e3, e4⟩ := ih r h2
        rw [show k = V.str (kf y) from ik] at rt
        exact ⟨t :: ts, u :: us, by rw [e1]; rfl, by simp [e2], ⟨u, us, rfl, iu, e3⟩, .cons (.inl (.inl (x1.le'.ex _ _ rt))) e4⟩
    obtain ⟨ts, us, rfl, hl, iu, hp⟩ := go ys vs j1
    have hlen : (ys.map fun y => (.inr (kf y) : Key)).length = us.length := by rw [List.length_map, hl]
    refine ⟨D, ts, _, rfl, .inl (.inl (x1.le'.ex _ _ r1)), hp, fun d hd => ⟨d, _, rfl, upd_same, True.intro, fun od => ?_⟩⟩
    have em : mergeK [] ((ys.map fun y => (.inr (kf y) : Key)).zip us) = (ys.map fun y => (.inr (kf y) : Key)).zip us := by
      rw [mergeK_new]
      · rfl
      · rw [List.nil_append, List.map_fst_zip (by rw [hlen]; exact Nat.le_refl _)]
        have e : (ys.map fun y => (.inr (kf y) : Key)) = (ys.map kf).map Sum.inr := by rw [List.map_map]; rfl
        rw [e]
        exact List.Pairwise.map _ (fun a b hne z => hne (Sum.inr.inj z)) hn
    rw [em]
    have e3 : upd (upd H1 d (.dK ((ys.map fun y => (.inr (kf y) : Key)).zip us))) d (.frz od (.dK ((ys.map fun y => (.inr (kf y) : Key)).zip us))) = upd H1 d (.frz od (.dK ((ys.map fun y => (.inr (kf y) : Key)).zip us))) := by
      funext b
      by_cases z : b = d
      · rw [z, upd_same, upd_same]
      · rw [upd_ne z, upd_ne z, upd_ne z]
    rw [e3]
    exact q _ (upd C1 d (.frz od (.dK ((ys.map fun y => (.inr (kf y) : Key)).zip us)))) _ (x1.trans (.new x1.le' hd)) ⟨d, od, us, rfl, upd_same, hlen, IsL.mono (.new (x1.le'.dom d hd)) _ _ iu⟩))
/-- xs.index(e), plain data -/
theorem EvD.index {xs : List Dt} {x : Dt} {j : Nat} (hu : X.A.units + 65 < cLine) (ha : EvD X a ds (.lst xs)) (he : EvD X e ds x) (px : pln x 20 = true) (pxs : plnL xs 20 = true) (hj : xs[j]? = some x) (hf : ∀ m, m < j → xs[m]? ≠ some x)
    (hb : attributeBase a "index" X.env (eval a X.env) = eval a X.env := by rfl) (hfy : ((backTo cpos (starEach [e] X.env)).all (fun z => !z.1) && (backToKw cpos (keywordEach [] X.env)).all (fun z => z.1.isSome) && decide (([e] : List Expr).length + ([] : List Keyword).length + (if ([] : List Keyword).isEmpty then 0 else 1) < 30)) = true := by rfl) (hline : (apos.endLine == cpos.line) = true := by rfl)
    (hst : starEach [e] X.env = (false, eval e X.env) :: starEach [] X.env := by rfl) : EvD X (.Call (.Attribute a "index" apos) [e] [] cpos) ds (.int (j : Nat)) := fun C H σ S Q q =>
  peW (pe_bm PySem.F.plainAttrs_list PySem.F.slot_list_index PySem.F.type_list_index (mt_indexD hu) wpE.pe (pa_cons wpE.pe pa_nil hst) hb hfy hline hst) (ha C H σ S _ fun v C1 H1 x1 i1 => by
    have i1' := i1
    obtain ⟨l, vs, rfl, r1, j1⟩ := i1
    refine ⟨.inl ⟨rfl, vs, .inl (.inl (x1.le'.ex _ _ r1))⟩, he C1 H1 σ (S.mono x1) _ fun u C2 H2 x2 i2 => ?_⟩
    have pl : pln (.lst xs) 21 = true := by
      show (decide ((21 : Nat) ≠ 0) && plnL xs 20) = true
      rw [pxs]; rfl
    have hpy : ∀ (xs : List Dt) (m : Nat), (pyL xs)[m]? = (xs[m]?).map py := fun xs => by
      induction xs with
      | nil => intro m; rfl
      | cons z zs ih => intro m; cases m with
        | zero => rfl
        | succ m => exact ih m
    have hpl : ∀ (xs : List Dt), plnL xs 20 = true → ∀ z ∈ xs, pln z 20 = true := fun xs => by
      induction xs with
      | nil => exact fun _ z h => by simp at h
      | cons z zs ih =>
        intro h y hy
        obtain ⟨h1, h2⟩ := Bool.and_eq_true_iff.mp (show (pln z 20 && plnL zs 20) = true from h)
        rcases List.mem_cons.mp hy with e | e
        · rw [e]; exact h1
        · exact ih h2 y e
    refine ⟨l, u, py x, pyL xs, j, py x, rfl, rfl, Dp.mono' pl x2.le' (Is.mono x2.le.w _ _ i1'), Dp.mono' px x2.le' i2, pln_shaped pl (by omega), pln_shaped px (by omega), by rw [hpy, hj]; rfl, (eqv_py x x _ _ px px).mpr rfl, fun m z hm hz => ?_, q _ C2 H2 (x1.trans x2) rfl⟩
    rw [hpy] at hz
    cases hxm : xs[m]? with
    | none => rw [hxm] at hz; cases hz
    | some y =>
      rw [hxm] at hz
      cases hz
      refine Bool.eq_false_iff.mpr fun h => hf m hm ?_
      rw [hxm, (eqv_py y x _ _ (hpl xs pxs y (List.mem_of_getElem? hxm)) px).mp h])
end
end K66
set_option maxHeartbeats 4000000
namespace K66
variable [TabAt]
open PySem PySem.Spec PyProof.Rows L2
theorem EvO.cast {X : Cx} {e : Expr} {ds : List Sl} {s t : Sl} (h : EvO X e ds s) (q : s = t) : EvO X e ds t := q ▸ h
/-- x -= e -/
theorem S1.augSub (i : Nat) {X : Cx} {ds : List Sl} {Ψ : Res → Prop} {y : Str} {e : Expr} {pos pos' : Pos} {a b : Int} (hN : X.N.Nodup) (hs : ds[i]? = some (.d (.int a))) (he : EvD X e ds (.int b)) (k : Ψ (.nx (ds.set i (.d (.int (a - b)))))) (hi : X.N[i]? = some y := by rfl) (hx : Loc X.env.scope y := by first | exact .inl rfl | exact .inr rfl)
    (hf : X.fn y = true ∨ X.env.scope.names.lookup y = some .local := by first | exact .inl rfl | exact .inr rfl) : S1 X (.AugAssign (.Name y pos') .Sub e pos) ds Ψ := fun W C0 H0 C H σ D x ⟨f, S⟩ q => by
  obtain ⟨fp, v, e1, i1⟩ := S.sl i _ hs
  have e1 := Option.join_eq_some_iff.mp e1
  refine psW (ps_aug hN hi hx wpE.pe ip_sub hf) ⟨v, e1, he C H σ S.sd _ fun u C1 H1 x1 i2 => ?_⟩
  rw [show v = V.int a from i1, show u = V.int b from i2]
  exact ⟨a, b, rfl, rfl, q _ k C1 H1 _ (x.thenS x1) x1.prg (SWf.setX x S x1.w (S.sd.mono x1).pots (.ofD rfl) List.nodup_nil fun a h => by simp at h)⟩
def wT (l : Ltr) : Dt := .tup [.str l.1, .str l.2.1, .str l.2.2]
def pT (l : Ltr) : Dt := .tup [.str l.1, .str l.2.1]
def rwO (hs : List Str) (ρ : Str → Row) : Sl := .rw hs (hs.map fun h => (ρ h).map dD)
theorem rw_set {hs : List Str} (hn : hs.Nodup) {ρ : Str → Row} {a : Str} {j : Nat} {v : Row} (hj : hs[j]? = some a) : (hs.map fun h => (ρ h).map dD).set j (v.map dD) = hs.map fun h => (fupd ρ a v h).map dD := by
  apply List.ext_getElem?
  intro i
  rw [List.getElem?_set, List.getElem?_map, List.length_map]
  by_cases e : j = i
  · subst e
    rw [if_pos rfl, if_pos (List.getElem?_eq_some_iff.mp hj).1, List.getElem?_map, hj]
    show some (v.map dD) = some ((fupd ρ a v a).map dD)
    rw [fupd_same]
  · rw [if_neg e, List.getElem?_map]
    cases q : hs[i]? with
    | none => rfl
    | some b =>
      have : b ≠ a := fun z => by
        obtain ⟨h1, g1⟩ := List.getElem?_eq_some_iff.mp hj
        obtain ⟨h2, g2⟩ := List.getElem?_eq_some_iff.mp q
        exact e ((List.getElem_inj hn).mp (g1.trans (z.symm.trans g2.symm)))
      show some ((ρ b).map dD) = some ((fupd ρ a v b).map dD)
      rw [fupd_ne this]
theorem rw_data {hs : List Str} {ρ : Str → Row} : Dt.dic (hs.map .inr) ((hs.map fun h => (ρ h).map dD).map .lst) = sD rL (rowsF hs ρ) := by
  unfold sD rowsF
  rw [List.map_map, List.map_map, List.map_map]
  rfl
theorem strs_mem {d : Dt} {xs : List Str} (h : d ∈ xs.map Dt.str) : ∃ x ∈ xs, d = .str x := by
  obtain ⟨x, hx, rfl⟩ := List.mem_map.mp h
  exact ⟨x, hx, rfl⟩
theorem idx_of {hs : List Str} {a : Str} (h : a ∈ hs) : ∃ j : Nat, hs[j]? = some a := by
  obtain ⟨j, hj, e⟩ := List.getElem_of_mem h
  exact ⟨j, by rw [← e]; exact List.getElem?_eq_getElem hj⟩
theorem rows_at {hs : List Str} {ρ : Str → Row} {a : Str} {j : Nat} (hj : hs[j]? = some a) : (hs.map fun h => (ρ h).map dD)[j]? = some ((ρ a).map dD) := by rw [List.getElem?_map, hj]; rfl
theorem plnL_wT {W : List Ltr} (h : ∀ l ∈ W, isNm l.1 = true ∧ isNm l.2.1 = true ∧ isNm l.2.2 = true) : plnL (W.map wT) 19 = true := by
  induction W with
  | nil => rfl
  | cons l W ih =>
    obtain ⟨a, b, c⟩ := h l (by simp)
    show ((true && (PyData.strOk l.1 && (PyData.strOk l.2.1 && (PyData.strOk l.2.2 && true)))) && plnL (W.map wT) 19) = true
    rw [ih fun x hx => h x (List.mem_cons_of_mem _ hx), nm_str a, nm_str b, nm_str c]; rfl
theorem plnL_pT {W : List Ltr} (h : ∀ l ∈ W, isNm l.1 = true ∧ isNm l.2.1 = true ∧ isNm l.2.2 = true) : plnL (W.map pT) 20 = true := by
  induction W with
  | nil => rfl
  | cons l W ih =>
    obtain ⟨a, b, c⟩ := h l (by simp)
    show ((true && (PyData.strOk l.1 && (PyData.strOk l.2.1 && true))) && plnL (W.map pT) 20) = true
    rw [ih fun x hx => h x (List.mem_cons_of_mem _ hx), nm_str a, nm_str b]; rfl
theorem erase_mid {α : Type} {U V : List α} {l : α} : (U ++ l :: V).eraseIdx U.length = U ++ V := by
  induction U with
  | nil => rfl
  | cons u U ih => show u :: (U ++ l :: V).eraseIdx U.length = _; rw [ih]; rfl
def wds : List Str := ["x", "y", "x", "end", "a"]
theorem wds_nm : ∀ x ∈ wds, isNm x = true := List.all_eq_true.mp (by decide +kernel : wds.all isNm = true)
section
variable {P : Program} {w : World} {K : PySem.W.Frag} {mg : Str → Option Value} {base : Heap}
def p_rows : List Dt → (Dt → Prop) → Prop := fun as Φ => ∃ (hs : List Str) (n : Nat), as = [.lst (hs.map .str), .int (n : Nat)] ∧ hs.Nodup ∧ (∀ x ∈ hs, isNm x = true) ∧ hs ≠ [] ∧ hs.length ≤ 4 ∧ n ≤ 8 ∧ ∀ d, madeR hs n d → Φ d
abbrev nRows : List Str := ["_law_pot_here", "_law_names_here", "_law_many", "_law_rows_here", "_law_waiting", "_law_left", "_law_eager", "_law_one", "_law_word", "_law_other", "_law_letter", "_law_pairs", "_law_hand"]
theorem ok_rows (T : Txt K mg) : OkD P w K mg base d_law_rows 3 ["_law_pot_here", "_law_names_here", "_law_many"] (spP P w p_rows) := by
  have nd : nRows.Nodup := by decide +kernel
  refine okP_of (N := nRows) T.n_law_rows ⟨rfl, rfl, rfl, by decide +kernel, rfl, by decide +kernel, by decide +kernel⟩ (fun _ _ _ _ _ _ us hl => match us, hl with | [_, _, _], _ => rfl) ?_
  rintro as Φ ⟨hs, n, rfl, hn, hnm, hne, h4, h8, hΦ⟩
  refine ⟨rfl, fun p cdv A outer sh H E hr => ?_⟩
  have hu : (PX P w K mg base nRows d_law_rows cdv A outer sh H E).A.units + 64 < cLine := hr.units
  have hu5 : (PX P w K mg base nRows d_law_rows cdv A outer sh H E).A.units + 65 < cLine := by have := hr.un; show (A.deeper _).units + 65 < cLine; omega
  have h0 : 0 < hs.length := List.length_pos_iff.mpr hne
  refine .cons (.par3 (i := 3) (j := 4) (l := 5) rfl nd (s := rwO hs fun _ => []) (t := .ol []) (u := .d (intD (if 1 < hs.length then n else 0))) (.cast (.dictRw (enc := Dt.str) (kf := fun h => h) (rf := fun _ => []) (ys := hs) (own := [("_law_hand", 12)]) rfl nd (.lst (.var 1 rfl)) (blk_of rfl) (by omega) (by rw [List.map_id']; exact hn) (fun h hh => ⟨_, [12], by simp, fun s H C cl fp => .name 12 nd, fun s H C cl fp => .mk (.var 12 rfl) .nilL⟩) T.f_dict) (by unfold rwO; rw [List.map_id']; rfl)) .nilL (.of (.ite (x := decide (1 < hs.length)) (.cmp (.cast (.gt (.lenL (.var 1 rfl) T.f_len) .int) ?_)) (fun h => ?_) fun h => ?_)) ?_)
  · rw [List.length_map, Bool.eq_iff_iff, decide_eq_true_eq, decide_eq_true_eq]; omega
  · rw [if_pos (of_decide_eq_true h)]; exact .var 2 rfl
  · rw [if_neg (of_decide_eq_false h)]; exact .int
  refine .cons (.asgX 6 nd (.addI (i := 1) .int (.imp (EvX.callP (Φ := drawR 3) 0 (ok_draw T) T.g_law_draw (hr.mono (by decide)) rfl (EvA.x (.cons .int .nil)) (fun as e => ⟨3, e, by omega, by omega, fun d hd => hd⟩)) (Φ2 := intP any) ?_)) ?_)
  · rintro s ⟨d, e, m, em, hm⟩
    exact ⟨_, by rw [e, em]; rfl, True.intro⟩
  rintro s ⟨eg, rfl, _⟩
  refine .cons (.whl (fun m ds1 => ∃ ρ W left a b c d e f, ds1 = [.pot p, .d (.lst (hs.map .str)), .d (intD n), rwO hs ρ, .ol (W.map wT), .d (intD left), .d (.int eg), a, b, c, d, e, f] ∧ Gen hs n left ρ W ∧ (left ≠ 0 → 1 < hs.length) ∧ m = 2 * left + W.length) (m0 := 2 * (if 1 < hs.length then n else 0)) ⟨fun _ => [], [], if 1 < hs.length then n else 0, .un, .un, .un, .un, .un, .un, rfl, ?_, fun h => ?_, rfl⟩ ?_)
  · by_cases z : 1 < hs.length
    · rw [if_pos z]; exact .nil
    · rw [if_neg z]
      have g : Gen hs n n (fun _ => []) [] := .nil
      exact ⟨g.ok, g.bal, g.run, by have := g.few; omega, fun h hh => by show 0 + 2 * 0 + 0 ≤ 2 * n; omega, g.wok⟩
  · by_cases z : 1 < hs.length
    · exact z
    · rw [if_neg z] at h; exact absurd rfl h
  rintro m ds1 ⟨ρ, W, left, a, b, c, d, e, f, rfl, g, hleft, rfl⟩
  have wn : ∀ l ∈ W, isNm l.1 = true ∧ isNm l.2.1 = true ∧ isNm l.2.2 = true := fun l hl => ⟨hnm _ (g.wok l hl).1, hnm _ (g.wok l hl).2.1, (g.wok l hl).2.2.2⟩
  have nilW : (decide (W.map wT = [])) = decide (W = []) := by rw [Bool.eq_iff_iff, decide_eq_true_eq, decide_eq_true_eq, List.map_eq_nil_iff]
  have Wlen : W.length ≤ 16 := by
    have h1 := h0
    obtain ⟨x, hx⟩ : ∃ x, x ∈ hs := ⟨hs[0], List.getElem_mem _⟩
    have := g.len x hx
    omega
  have rlen : ∀ x ∈ hs, (ρ x).length ≤ 16 := fun x hx => by have := g.len x hx; omega
  refine ⟨decide (0 < left) || !decide (W = []), .bool (.or (x := decide (0 < left)) (.cmp (.cast (.gt (.var 5 rfl) .int) ?_)) fun _ => .or1 (.cmp (.cast (own_nil (g := fun z => !z) 4 (op_neD hu) rfl (plnL_wT wn)) (by rw [nilW])))), fun hk => ?_, fun hk => ?_⟩
  · exact decide_eq_decide.mpr (by omega)
  · have hkW : left = 0 → W ≠ [] := fun z => by
      rw [z, decide_eq_false (by omega), Bool.false_or, Bool.not_eq_true', decide_eq_false_iff_not] at hk
      exact hk
    refine .cons (.ifsX (Φ := fun z => (z = true → 0 < left) ∧ (z = false → W ≠ [])) (.bool (.and (A := fun z => z = decide (0 < left)) (B := fun z => z = false → W ≠ []) (EvT.x (.cmp (.cast (.gt (.var 5 rfl) .int) (decide_eq_decide.mpr (by omega))))) (fun _ => .and1 (.bool (.or (A := fun z => z = decide (W = [])) (B := fun _ => True) (EvT.x (.cmp (.cast (own_nil (g := fun z => z) 4 (op_eqD hu) rfl (plnL_wT wn)) nilW))) (fun _ => .or1 (.lt (P := fun m => ∃ k : Nat, m = k ∧ k < 4) (.imp (EvX.callP (Φ := drawR 4) 0 (ok_draw T) T.g_law_draw (hr.mono (by decide)) rfl (EvA.x (.cons .int .nil)) (fun as e => ⟨4, e, by omega, by omega, fun d hd => hd⟩)) ?_) (.var 6 rfl))) (fun _ h => nomatch h) fun h _ _ _ => of_decide_eq_false h.symm))) (fun h => ⟨(fun z => nomatch z), fun _ => hkW (by have := of_decide_eq_false h.symm; omega)⟩) fun h z hz => ⟨fun _ => of_decide_eq_true h.symm, hz⟩)) (fun hΦ1 => ?_) fun hΦ1 => ?_)
    · rintro s ⟨d, e, k, ek, hk⟩
      exact ⟨_, by rw [e, ek]; rfl, k, rfl, hk⟩
    · -- a letter is said
      have hl0 := hΦ1.1 rfl
      obtain ⟨l', rfl⟩ : ∃ l', left = l' + 1 := ⟨left - 1, by omega⟩
      have h1s := hleft (by omega)
      refine .cons (.parCX (i := 7) (j := 8) rfl nd (EvX.callP (Φ := fun d => d ∈ hs.map Dt.str) 0 (ok_pick T) T.g_law_pick hr rfl (EvA.x (.cons (.var 1 rfl) .nil)) (fun as e => ⟨_, e, by intro z; rw [List.map_eq_nil_iff] at z; exact hne z, by rw [List.length_map]; omega, fun d hd => hd⟩)) (EvX.callP (Φ := fun d => d ∈ wds.map Dt.str) 0 (ok_pick T) T.g_law_pick hr rfl (EvA.x (.cons (.lst (as := wds.map Dt.str) (.cons .str (.cons .str (.cons .str (.cons .str (.cons .str .nil))))) (by decide +kernel)) .nil)) (fun as e => ⟨_, e, fun z => (nomatch z), by decide +kernel, fun d hd => hd⟩)) ?_)
      rintro s t ⟨d1, rfl, hd1⟩ ⟨d2, rfl, hd2⟩
      obtain ⟨o1, ho1, rfl⟩ := strs_mem hd1
      obtain ⟨x, hx, rfl⟩ := strs_mem hd2
      obtain ⟨j, hj⟩ := idx_of ho1
      have others : hs.filterMap (fun h => if decide (h ≠ o1) = true then some (Dt.str h) else none) ≠ [] := fun z => by
        have : ∀ h ∈ hs, h = o1 := fun h hh => Classical.byContradiction fun hne1 => by
          have hm : Dt.str h ∈ hs.filterMap (fun h => if decide (h ≠ o1) = true then some (Dt.str h) else none) := List.mem_filterMap.mpr ⟨h, hh, by rw [if_pos (decide_eq_true hne1)]⟩
          rw [z] at hm; simp at hm
        have e0 := this hs[0] (List.getElem_mem _)
        have e1 := this hs[1] (List.getElem_mem _)
        have := (List.getElem_inj hn).mp (e0.trans e1.symm)
        omega
      refine .cons (.asgX 9 nd (EvX.callP (Φ := fun d => ∃ h ∈ hs, h ≠ o1 ∧ d = .str h) 0 (ok_pick T) T.g_law_pick hr rfl (EvA.x (.cons (.lcf (enc := Dt.str) (g := fun h => if decide (h ≠ o1) = true then some (Dt.str h) else none) (own := [("_law_hand", 12)]) rfl nd (.lst (.var 1 rfl)) (blk_of rfl) (by omega) fun h hh => ⟨_, [12], by simp, fun s H C cl fp => .name 12 nd, fun s H C cl fp => .one (.cmp (.cast (.neS (.var 12 rfl) (.var 7 rfl)) ?_)), fun d hd s H C cl fp => ?_⟩) .nil)) (fun as e => ⟨_, e, others, ?_, fun d hd => ?_⟩)) ?_)
      · cases q : decide (h ≠ o1) with
        | true => rw [decide_eq_false (of_decide_eq_true q)]; rfl
        | false => rw [decide_eq_true (Classical.not_not.mp (of_decide_eq_false q))]; rfl
      · split at hd
        · cases hd; exact .var 12 rfl
        · cases hd
      · exact Nat.lt_of_le_of_lt (List.length_filterMap_le ..) (by omega)
      · obtain ⟨h, hh, e⟩ := List.mem_filterMap.mp hd
        split at e
        · rename_i z
          cases e
          exact ⟨h, hh, of_decide_eq_true z, rfl⟩
        · cases e
      rintro s ⟨d3, rfl, o2, ho2, ho21, rfl⟩
      refine .cons (.appendRw 3 (d := dD (true, o2, x)) rfl hu hn hj (rows_at hj) (.var 7 rfl) (.tup (.cons .str (.cons (.var 9 rfl) (.cons (.var 8 rfl) .nil))) (show 3 ≤ 100000 by decide)) (by rw [List.length_map]; have := rlen o1 ho1; omega) ?_)
      refine .cons (.append 4 (d := wT (o1, o2, x)) rfl (.tup (.cons (.var 7 rfl) (.cons (.var 9 rfl) (.cons (.var 8 rfl) .nil))) (show 3 ≤ 100000 by decide)) (by rw [List.length_map]; omega) ?_)
      refine .cons (.augSub 5 (a := ((l' + 1 : Nat) : Int)) (b := 1) nd rfl .int (.nil (.nil ⟨2 * l' + (W.length + 1), by omega, fupd ρ o1 (ρ o1 ++ [(true, o2, x)]), W ++ [(o1, o2, x)], l', .d (.str o1), .d (.str x), .d (.str o2), d, e, f, ?_, g.say hn hnm ho1 ho2 ho21 (wds_nm x hx), fun _ => h1s, by rw [List.length_append]; rfl⟩)))
      have e5 : (((l' + 1 : Nat) : Int) - 1) = (l' : Nat) := by omega
      have e6 := rw_set hn (ρ := ρ) (v := ρ o1 ++ [(true, o2, x)]) hj
      rw [List.map_append] at e6
      rw [e5, List.map_append]
      unfold rwO
      rw [← e6]
      rfl
    · -- a letter is got
      have hWne := hΦ1.2 rfl
      refine .cons (.asgLc 11 (enc := wT) (g := fun l => some (pT l)) (ys := W) (own := [("_law_letter", 10)]) rfl nd (.own 4 rfl) (blk_of rfl) (by omega) (fun l hl => ⟨_, [10], by simp, fun s H C cl fp => .name 10 nd, fun s H C cl fp => .nil, fun d hd s H C cl fp => ?_⟩) ?_)
      · cases hd
        exact .headT (xs := [.str l.1, .str l.2.1, .str l.2.2]) (n := 2) (.var 10 rfl) .int
      have ep : (W.filterMap fun l => some (pT l)) = W.map pT := by rw [← List.filterMap_eq_map]; rfl
      rw [ep]
      refine .cons (.asgGX (P := fun d => d ∈ W.map pT) (EvX.callP 0 (ok_pick T) T.g_law_pick hr rfl (EvA.x (.cons (.var 11 rfl) .nil)) (fun as e => ⟨_, e, by intro z; rw [List.map_eq_nil_iff] at z; exact hWne z, by rw [List.length_map]; omega, fun d hd => hd⟩)) ?_)
      intro d1 hd1
      obtain ⟨l0, hl0, rfl⟩ := List.mem_map.mp hd1
      obtain ⟨U, l, V, rfl, hl1, hl2, hU⟩ := first_pair (a := l0.1) (b := l0.2.1) ⟨l0, hl0, rfl, rfl⟩
      rw [← hl1, ← hl2] at hU
      obtain ⟨k1, k2, k3, k4⟩ := g.wok l (by simp)
      obtain ⟨j, hj⟩ := idx_of k2
      have epT : pT l0 = pT l := by unfold pT; rw [hl1, hl2]
      rw [epT]
      refine ⟨_, _, .tup rfl (.cons (.name 7 nd) (.cons (.name 9 nd) .nil)), ?_⟩
      refine .cons (.asgPop 10 4 (ys := (U ++ l :: V).map wT) (n := U.length) (d := wT l) nd rfl (.index (xs := (U ++ l :: V).map pT) (x := pT l) hu5 (.var 11 rfl) (.tup (.cons (.var 7 rfl) (.cons (.var 9 rfl) .nil)) (show 2 ≤ 100000 by decide)) ?_ (plnL_pT wn) ?_ ?_) ?_ (by rw [List.length_map]; omega) ?_)
      · show (true && (PyData.strOk l.1 && (PyData.strOk l.2.1 && true))) = true
        rw [nm_str (hnm _ k1), nm_str (hnm _ k2)]; rfl
      · rw [List.getElem?_map, List.getElem?_append_right (Nat.le_refl _), Nat.sub_self]; rfl
      · intro m hm z
        rw [List.getElem?_map, List.getElem?_append_left hm, List.getElem?_eq_getElem hm] at z
        have z := Dt.tup.inj (Option.some.inj z)
        obtain ⟨z1, z2⟩ := List.cons.inj z
        exact hU _ (List.getElem_mem hm) ⟨Dt.str.inj z1, Dt.str.inj (List.cons.inj z2).1⟩
      · rw [List.getElem?_map, List.getElem?_append_right (Nat.le_refl _), Nat.sub_self]; rfl
      refine .cons (.appendRw 3 (d := dD (false, l.1, l.2.2)) rfl hu hn hj (rows_at hj) (.var 9 rfl) (.tup (.cons .str (.cons (.var 7 rfl) (.cons (.ixT (xs := [.str l.1, .str l.2.1, .str l.2.2]) (n := 2) (.var 10 rfl) .int rfl) .nil))) (show 3 ≤ 100000 by decide)) (by rw [List.length_map]; have := rlen l.2.1 k2; omega) ?_)
      refine .nil (.nil ⟨2 * left + (U ++ V).length, by rw [List.length_append, List.length_append, List.length_cons]; omega, fupd ρ l.2.1 (ρ l.2.1 ++ [(false, l.1, l.2.2)]), U ++ V, left, .d (.str l.1), b, .d (.str l.2.1), .d (wT l), .d (.lst ((U ++ l :: V).map pT)), f, ?_, g.get hn hnm hU, hleft, rfl⟩)
      have e6 := rw_set hn (ρ := ρ) (v := ρ l.2.1 ++ [(false, l.1, l.2.2)]) hj
      rw [List.map_append] at e6
      rw [← erase_mid (U := U) (V := V) (l := l), ← erase_map]
      unfold rwO
      rw [← e6]
      rfl
  · obtain ⟨k1, k2⟩ := Bool.or_eq_false_iff.mp hk
    have k1 := of_decide_eq_false k1
    have k2 : W = [] := by simpa using k2
    subst k2
    have : left = 0 := by omega
    subst this
    refine .relRw 3 rfl ?_
    rw [rw_data]
    exact .cons (.ret (.var 3 rfl) ⟨hΦ _ ⟨ρ, g.made, rfl⟩, rfl⟩)
end
end K66
set_option maxHeartbeats 4000000
namespace K66
variable [TabAt]
open PySem PySem.Spec PyProof.Rows L2
section
variable {P : Program} {w : World} {W : Addr → Prop} {H0 C H C' H' : Hp} {σ : L2.St} {ds : List Sl} {f : Nat → List Addr}
/-- slot i's things are given away, pots drawn from -/
theorem SWf.lose {V : Addr → Prop} {i : Nat} (S : SWf P w W H0 C H σ ds f) (x : Stw V C H C' H') (hV : ∀ a, V a → pw ds a ∨ a ∈ f i) (q : PotsOk C' H' ds) : SWf P w W H0 C' H' σ (ds.set i .un) (fun j => if j = i then [] else f j) := by
  refine ⟨x.le', by rw [List.length_set]; exact S.len, fun j s e => ?_, fun j => ?_, fun j k a hjk hj hk => ?_, fun j a ha => ?_, fun j hj => ?_⟩
  · by_cases hj : j = i
    · subst hj
      rw [List.getElem?_set, if_pos rfl] at e
      split at e
      · cases e; rw [if_pos rfl]; exact rfl
      · cases e
    · rw [List.getElem?_set_ne (Ne.symm hj)] at e
      rw [if_neg hj]
      have h := S.sl j s e
      by_cases hp : ∃ p, s = .pot p
      · obtain ⟨p, rfl⟩ := hp
        obtain ⟨e1, e2, _⟩ := h
        obtain ⟨c, pa⟩ := q p ⟨j, e⟩
        exact ⟨e1, e2, c, pa⟩
      · refine h.mono x fun a ha hva => ?_
        rcases hV a hva with ⟨k, hk⟩ | hm
        · obtain ⟨e1, _⟩ := S.sl k _ hk
          by_cases hkj : k = j
          · subst hkj
            rw [e] at hk
            exact hp ⟨a, Option.some.inj hk⟩
          · exact S.dj k j a hkj (by rw [e1]; exact List.mem_singleton.mpr rfl) ha
        · exact S.dj j i a hj ha hm
  · show (if j = i then [] else f j).Nodup
    split
    · exact List.nodup_nil
    · exact S.nd j
  · try dsimp only at hj hk
    split at hj
    · simp at hj
    · split at hk
      · simp at hk
      · exact S.dj j k a hjk hj hk
  · try dsimp only at ha
    split at ha
    · simp at ha
    · exact S.new j a ha
  · rw [List.length_set] at hj
    show (if j = i then [] else f j) = []
    split
    · rfl
    · exact S.out j hj
end
def spR (P : Program) (w : World) (pre : List Str → List (List Dt) → (Dt → Prop) → Prop) : Sp := fun vs H Q _ => ∃ (C : Hp) (p a : Addr) (fp : List Addr) (hs : List Str) (rs : List (List Dt)) (Φ : Dt → Prop), vs = [.ref p, .ref a] ∧ pre hs rs Φ ∧ Le C H ∧ C p = none ∧ PotAt H p ∧ SlF P w C H (.rw hs rs) (some (.ref a)) fp ∧ fp.Nodup ∧ p ∉ fp ∧
  ∀ v C' H' d, Stw (fun b => b = p ∨ b ∈ fp) C H C' H' → C' p = none → PotAt H' p → Is P w C' d v → Φ d → Q v H'
section
variable {P : Program} {w : World} {K : PySem.W.Frag} {mg : Str → Option Value} {base : Heap}
theorem okR_of {d : He.DefD} {N ps : List Str} {k : Nat} {pre : List Str → List (List Dt) → (Dt → Prop) → Prop} (F : ∃ fd, FnP K d (He.fAd K d.at_) fd) (S : FnScope N ps d.scope)
    (hb : ∀ (kV doc pm : Value) (an : Option Addr) (cdv ct : Value) (us : List Value), us.length = ps.length → bindArgs (PySem.W.fnOf d.name d.qual d.params d.body d.scope .none kV doc pm an cdv ct) ⟨us, []⟩ = pure (ps.zip us)) (hps : ps.length = 2)
    (hbody : ∀ hs rs Φ, pre hs rs Φ → ∀ p cdv A outer s H E, Room k (A.deeper (envOfC d.qual d.scope s.heap.objs.size (He.fAd K d.at_) cdv)) → Ss (PX P w K mg base N d cdv A outer s H E) d.body (.pot p :: .rw hs rs :: ds0 (N.length - 2) []) (PotR p Φ)) :
    OkD P w K mg base d (k + 1) ps (spR P w pre) := by
  refine okD_of F S hb (fun vs H Q E h => ?_) fun cdv A outer s H vs Q E hr h => ?_
  · obtain ⟨C, p, a, fp, hs, rs, Φ, rfl, _⟩ := h
    rw [hps]; rfl
  · obtain ⟨C, p, a, fp, hs, rs, Φ, rfl, hp, l, hcp, hpa, hrw, hnd, hpf, q⟩ := h
    have h2 := hbody hs rs Φ hp
    have hpl : 2 ≤ N.length := by have := congrArg List.length S.pre; rw [List.length_take] at this; omega
    have hN : ((N.drop 1).drop 1).length = N.length - 2 := by rw [List.length_drop, List.length_drop]; omega
    obtain ⟨f0, B⟩ := SW.begins (P := P) (w := w) (N := (N.drop 1).drop 1) (as := []) (vs := []) l rfl (Nat.zero_le _)
    have hne : ∀ j, f0 j = [] := fun j => by
      cases e : f0 j with
      | nil => rfl
      | cons a r =>
        have ha : a ∈ f0 j := by rw [e]; exact List.mem_cons_self
        exact ((B.new j a ha).elim (fun z => z.elim) fun z => absurd z (B.th ha).2)
    have S0 : SW P w (fun b => b = p ∨ b ∈ fp) H C H (L2.start N [.ref p, .ref a]) (.pot p :: .rw hs rs :: ds0 (N.length - 2) []) := by
      rw [start_cons, start_cons]
      refine ⟨fun j => if j = 0 then [p] else if j = 1 then fp else [], l, ?_, fun j s e => ?_, fun j => ?_, fun i j a hij hi hj => ?_, fun j a ha => ?_, fun j hj => ?_⟩
      · rw [List.length_cons, List.length_cons, List.length_cons, List.length_cons]
        have := B.len
        rw [this, hN]
      · match j, e with
        | 0, e => cases e; exact ⟨rfl, rfl, hcp, hpa⟩
        | 1, e => cases e; exact hrw
        | j + 2, e =>
          have e : (ds0 (N.length - 2) [])[j]? = some s := e
          rw [← hN] at e
          have h4 := B.sl j s e
          rw [hne j] at h4
          exact h4
      · show (if j = 0 then [p] else if j = 1 then fp else []).Nodup
        split
        · simp
        · split
          · exact hnd
          · exact List.nodup_nil
      · try dsimp only at hi hj
        split at hi
        · split at hj
          · omega
          · split at hj
            · rw [List.mem_singleton.mp hi] at hj; exact hpf hj
            · simp at hj
        · split at hi
          · split at hj
            · rw [List.mem_singleton.mp hj] at hi; exact hpf hi
            · split at hj
              · omega
              · simp at hj
          · simp at hi
      · try dsimp only at ha
        split at ha
        · exact .inl (.inl (List.mem_singleton.mp ha))
        · split at ha
          · exact .inl (.inr ha)
          · simp at ha
      · rw [List.length_cons, List.length_cons] at hj
        show (if j = 0 then [p] else if j = 1 then fp else []) = []
        rw [if_neg (by omega), if_neg (by omega)]
    refine h2 p cdv A outer s H E hr (fun b => b = p ∨ b ∈ fp) C H C H _ _ (.refl l) S0 fun r' hr' => ?_
    cases r' with
    | rt d ds =>
      intro C' H' σ' v a c iv
      obtain ⟨h3, h4⟩ := hr'
      obtain ⟨fc, c⟩ := c
      obtain ⟨_, _, c1, c2⟩ := c.sl 0 _ h4
      exact q v C' H' d a c1 c2 iv h3
    | nx ds => exact hr'.elim
    | bk ds => exact hr'.elim
    | ct ds => exact hr'.elim
end
section
variable {X : Cx} {ds : List Sl} {pos p q1 q2 py cpos : Pos} {Ψ : Res → Prop} {hs : List Str} {rs : List (List Dt)}
/-- x = f(pot, x), x a dict of own lists -/
theorem S1.asgRw (i j : Nat) {f : He.DefD} {k : Nat} {ps : List Str} {pre : List Str → List (List Dt) → (Dt → Prop) → Prop} {g y z : Str} {pa : Addr} {Φ : Dt → Prop} (hNd : X.N.Nodup) (O : OkD X.prog X.w X.K X.mg X.base f k ps (spR X.prog X.w pre)) (hm : X.mg g = some (.ref (He.fAd X.K f.at_))) (hr : Room k X.A)
    (hp : ds[i]? = some (.pot pa)) (hx : ds[j]? = some (.rw hs rs)) (hpre : pre hs rs Φ) (kk : ∀ d, Φ d → Ψ (.nx (ds.set j (.d d)))) (hN : X.N[i]? = some z := by rfl) (hNy : X.N[j]? = some y := by rfl)
    (hvz : Vis X.env.scope z := by first | exact Or.inl rfl | exact Or.inr (Or.inl rfl) | exact Or.inr (Or.inr rfl)) (hvy : Vis X.env.scope y := by first | exact Or.inl rfl | exact Or.inr (Or.inl rfl) | exact Or.inr (Or.inr rfl)) (hly : Loc X.env.scope y := by first | exact .inl rfl | exact .inr rfl)
    (hd : (z == ("__debug__" : Str)) = false := by decide) (hcd : (z == ("__classdict__" : Str)) = false := by decide) (hdy : (y == ("__debug__" : Str)) = false := by decide) (hcdy : (y == ("__classdict__" : Str)) = false := by decide) (hg : Gl X g := by rfl) (hdb : (g == ("__debug__" : Str)) = false := by decide)
    (he : starEach [.Name z q1, .Name y q2] X.env = (false, eval (.Name z q1) X.env) :: starEach [.Name y q2] X.env := by rfl) (he2 : starEach [.Name y q2] X.env = (false, eval (.Name y q2) X.env) :: starEach [] X.env := by rfl)
    (hpl : (backTo cpos (starEach [.Name y q2] X.env)).any (·.1) = false := by rfl) (hs : swapsWith (.Call (.Name g p) [.Name z q1, .Name y q2] [] cpos) (some (.Name y py)) pos.line X.env = pure false := by rfl)
    (hf : X.fn y = true ∨ X.env.scope.names.lookup y = some .local := by first | exact .inl rfl | exact .inr rfl) :
    S1 X (.Assign [.Name y py] (.Call (.Name g p) [.Name z q1, .Name y q2] [] cpos) pos) ds Ψ := fun W C0 H0 C H σ D x ⟨f, S⟩ q => by
  obtain ⟨fd, F, hb⟩ := O.ok
  refine psW (ps_set hNd hNy hly (pe_call F hr hg hm O.kp hb .nil pass0 (pa_cons wpE.pe (pa_cons wpE.pe pa_nil he2) he) hdb he hpl) hs hf) ?_
  obtain ⟨e1, e2, c1, c2⟩ := S.sl i _ hp
  have hrw := S.sl j _ hx
  have hij : i ≠ j := fun z => by rw [z, hx] at hp; cases hp
  obtain ⟨a, ob, e3, c3, l3, o3⟩ := id hrw
  refine nameW e2 (nameW e3 ?_ hNy hvy hdy hcdy) hN hvz hd hcd
  rw [e3] at hrw
  refine ⟨C, pa, a, f j, _, _, Φ, rfl, hpre, S.le, c1, c2, hrw, S.nd j, fun hm => S.dj i j pa hij (by rw [e1]; exact List.mem_singleton.mpr rfl) hm, fun v C2 H2 d x2 c5 c6 iv hd => ?_⟩
  have hV : ∀ b, (b = pa ∨ b ∈ f j) → pw ds b ∨ b ∈ f j := fun b hb => hb.imp (fun e => by rw [e]; exact ⟨i, hp⟩) id
  have po2 : PotsOk C2 H2 ds := fun b hb => by
    by_cases z : b = pa
    · subst z; exact ⟨c5, c6⟩
    · obtain ⟨g1, y1, y2, g3, g2⟩ := S.pots b hb
      obtain ⟨m, hm⟩ := hb
      have hbf : b ∉ f j := fun h => by
        obtain ⟨e4, _⟩ := S.sl m _ hm
        exact S.dj m j b (fun z => by rw [z, hx] at hm; cases hm) (by rw [e4]; exact List.mem_singleton.mpr rfl) h
      exact ⟨x2.hid b (fun z' => z'.elim z hbf) g1 (by rw [g2]; exact fun z => nomatch z), y1, y2, g3, x2.kp b _ (fun z' => z'.elim z hbf) g1 g2⟩
  have S2 := (S.lose x2 hV po2).put (i := j) (.ofD iv) List.nodup_nil (fun _ _ _ h => by simp at h) fun a h => by simp at h
  rw [List.set_set] at S2
  exact q _ (kk d hd) C2 H2 _ (x.old x2 fun b hb => (hV b hb).elim (S.potNew b) (S.new j b)) x2.prg ⟨_, S2⟩
end
end K66
set_option maxHeartbeats 4000000
namespace K66
variable [TabAt]
open PySem PySem.Spec PyProof.Rows L2
def skel (d : Deed) : Bool × Str := (d.1, d.2.1)
theorem cnt_skel {k : Bool} {o : Str} {r q : Row} (h : r.map skel = q.map skel) : cnt k o r = cnt k o q := by
  have e : ∀ r : Row, cnt k o r = ((r.map skel).filter fun s => decide (s.1 = k ∧ s.2 = o)).length := fun r => by
    unfold cnt
    induction r with
    | nil => rfl
    | cons d r ih =>
      rw [List.map_cons, List.filter_cons, List.filter_cons]
      show (if mt k o d = true then _ else _ : Row).length = (if mt k o d = true then _ else _ : List (Bool × Str)).length
      split
      · rw [List.length_cons, List.length_cons, ih]
      · exact ih
  rw [e r, e q, h]
theorem snoc_map {α β : Type} {f : α → β} {l : List α} {u : List β} {y : β} (h : l.map f = u ++ [y]) : ∃ l' x, l = l' ++ [x] ∧ l'.map f = u ∧ f x = y := by
  induction l using snoc_ind with
  | h0 => simp at h
  | h1 l x _ =>
    rw [List.map_append] at h
    obtain ⟨e1, e2⟩ := List.append_inj' h rfl
    exact ⟨l, x, rfl, e1, (List.cons.inj e2).1⟩
/-- a run does not look at the words -/
theorem Run.skel {hs : List Str} {ρ : Str → Row} (run : Run hs ρ) : ∀ {ρ' : Str → Row}, (∀ x, (ρ' x).map skel = (ρ x).map skel) → Run hs ρ' := by
  induction run with
  | nil =>
    intro ρ' h
    have : ρ' = fun _ => [] := funext fun x => List.map_eq_nil_iff.mp (h x)
    rw [this]
    exact .nil
  | say ρ a b x _ ha hb ih =>
    intro ρ' h
    have h1 := h a
    rw [fupd_same, List.map_append] at h1
    obtain ⟨l, d, e1, e2, e3⟩ := snoc_map h1
    have r0 := ih (ρ' := fupd ρ' a l) fun y => by
      by_cases z : y = a
      · rw [z, fupd_same]; exact e2
      · rw [fupd_ne z]; have := h y; rwa [fupd_ne z] at this
    have r1 := Run.say (fupd ρ' a l) a b d.2.2 r0 ha hb
    obtain ⟨d1, d2, d3⟩ := d
    cases e3
    have : fupd (fupd ρ' a l) a (fupd ρ' a l a ++ [(true, b, d3)]) = ρ' := funext fun y => by
      by_cases z : y = a
      · rw [z, fupd_same, fupd_same]; exact e1.symm
      · rw [fupd_ne z, fupd_ne z]
    rwa [this] at r1
  | get ρ a b x _ ha hb hc ih =>
    intro ρ' h
    have h1 := h b
    rw [fupd_same, List.map_append] at h1
    obtain ⟨l, d, e1, e2, e3⟩ := snoc_map h1
    have hs0 : ∀ y, (fupd ρ' b l y).map K66.skel = (ρ y).map K66.skel := fun y => by
      by_cases z : y = b
      · rw [z, fupd_same]; exact e2
      · rw [fupd_ne z]; have := h y; rwa [fupd_ne z] at this
    have r0 := ih hs0
    have r1 := Run.get (fupd ρ' b l) a b d.2.2 r0 ha hb (by rw [cnt_skel (hs0 b), cnt_skel (hs0 a)]; exact hc)
    obtain ⟨d1, d2, d3⟩ := d
    cases e3
    have : fupd (fupd ρ' b l) b (fupd ρ' b l b ++ [(false, a, d3)]) = ρ' := funext fun y => by
      by_cases z : y = b
      · rw [z, fupd_same, fupd_same]; exact e1.symm
      · rw [fupd_ne z, fupd_ne z]
    rwa [this] at r1
theorem set_mid {α : Type} {u v : List α} {d d' : α} : (u ++ d :: v).set u.length d' = u ++ d' :: v := by
  induction u with
  | nil => rfl
  | cons x u ih => show x :: (u ++ d :: v).set u.length d' = _; rw [ih]; rfl
theorem mid_of {α : Type} {r : List α} {i : Nat} {d : α} (h : r[i]? = some d) : ∃ u v, r = u ++ d :: v ∧ u.length = i := by
  obtain ⟨hi, e⟩ := List.getElem?_eq_some_iff.mp h
  refine ⟨r.take i, r.drop (i + 1), ?_, by rw [List.length_take]; omega⟩
  have := List.drop_eq_getElem_cons hi
  rw [e] at this
  rw [← this, List.take_append_drop]
theorem words_set {r : Row} {i : Nat} {d d' : Deed} {k : Bool} {o : Str} (h : r[i]? = some d) (hs : skel d' = skel d) : words (r.set i d') k o = if mt k o d = true then (words r k o).set (cnt k o (r.take i)) d'.2.2 else words r k o := by
  obtain ⟨u, v, rfl, rfl⟩ := mid_of h
  have hm : mt k o d' = mt k o d := by
    have e1 : d'.1 = d.1 := (Prod.mk.inj hs).1
    have e2 : d'.2.1 = d.2.1 := (Prod.mk.inj hs).2
    unfold mt
    rw [e1, e2]
  rw [set_mid, List.take_left' rfl]
  have sp : ∀ z : Deed, words (u ++ z :: v) k o = words u k o ++ (words [z] k o ++ words v k o) := fun z => by
    rw [words_app, show z :: v = [z] ++ v from rfl, words_app]
  rw [sp, sp, words_one, words_one, hm]
  split
  · rw [← words_cnt]; exact set_mid.symm
  · rfl
theorem skel_set {r : Row} {i : Nat} {d d' : Deed} (h : r[i]? = some d) (hs : skel d' = skel d) : (r.set i d').map skel = r.map skel := by
  obtain ⟨u, v, rfl, rfl⟩ := mid_of h
  rw [set_mid, List.map_append, List.map_append, List.map_cons, List.map_cons, hs]
theorem rowOk_set {hs : List Str} {h : Str} {r : Row} {i : Nat} {d d' : Deed} (h0 : rowOk hs h r = true) (hi : r[i]? = some d) (hsk : skel d' = skel d) (hw : isNm d'.2.2 = true) : rowOk hs h (r.set i d') = true := by
  obtain ⟨u, v, rfl, rfl⟩ := mid_of hi
  have e2 : d'.2.1 = d.2.1 := (Prod.mk.inj hsk).2
  unfold rowOk at h0 ⊢
  rw [set_mid]
  rw [List.all_append, List.all_cons] at h0 ⊢
  simp only [Bool.and_eq_true] at h0 ⊢
  obtain ⟨a, b, c⟩ := h0
  refine ⟨a, ?_, c⟩
  unfold deedOk at b ⊢
  simp only [Bool.and_eq_true] at b ⊢
  rw [e2]
  exact ⟨⟨b.1.1, hw⟩, b.2⟩
theorem sayN_skel {r q : Row} (h : r.map skel = q.map skel) : sayN r = sayN q := by
  have e : ∀ r : Row, sayN r = ((r.map skel).filter fun s => s.1).length := fun r => by
    unfold sayN
    induction r with
    | nil => rfl
    | cons d r ih =>
      rw [List.map_cons, List.filter_cons, List.filter_cons]
      show (if d.1 = true then _ else _ : Row).length = (if d.1 = true then _ else _ : List (Bool × Str)).length
      split
      · rw [List.length_cons, List.length_cons, ih]
      · exact ih
  rw [e r, e q, h]
theorem Made.reword {hs : List Str} {n : Nat} {ρ : Str → Row} (m : Made hs n ρ) {a b x w : Str} {i j : Nat} (ha : a ∈ hs) (hb : b ∈ hs) (hab : b ≠ a) (hi : (ρ a)[i]? = some (true, b, x)) (hj : (places (ρ b) false a)[cnt true b ((ρ a).take i)]? = some j) (hw : isNm w = true) :
    Made hs n (fupd (fupd ρ a ((ρ a).set i (true, b, w))) b ((ρ b).set j (false, a, w))) := by
  obtain ⟨⟨d, hd, hm⟩, hjc⟩ := place_index hj
  obtain ⟨d1, d2, d3⟩ := d
  have hm := of_decide_eq_true hm
  obtain ⟨rfl, rfl⟩ : d1 = false ∧ d2 = a := hm
  have sk : ∀ y, (fupd (fupd ρ d2 ((ρ d2).set i (true, b, w))) b ((ρ b).set j (false, d2, w)) y).map skel = (ρ y).map skel := fun y => by
    by_cases z : y = b
    · rw [z, fupd_same]; exact skel_set hd rfl
    · rw [fupd_ne z]
      by_cases z2 : y = d2
      · rw [z2, fupd_same]; exact skel_set hi rfl
      · rw [fupd_ne z2]
  have ln : ∀ y, (fupd (fupd ρ d2 ((ρ d2).set i (true, b, w))) b ((ρ b).set j (false, d2, w)) y).length = (ρ y).length := fun y => by
    have := congrArg List.length (sk y)
    rwa [List.length_map, List.length_map] at this
  refine ⟨fun h hh => ?_, fun c hc e he => ?_, m.run.skel sk, ?_, fun h hh => by rw [ln]; exact m.len h hh⟩
  · by_cases z : h = b
    · rw [z, fupd_same]; exact rowOk_set (m.ok _ hb) hd rfl hw
    · rw [fupd_ne z]
      by_cases z2 : h = d2
      · rw [z2, fupd_same]; exact rowOk_set (m.ok _ ha) hi rfl hw
      · rw [fupd_ne z2]; exact m.ok h hh
  · have h0 := m.heard c hc e he
    have e1 : words (fupd (fupd ρ d2 ((ρ d2).set i (true, b, w))) b ((ρ b).set j (false, d2, w)) e) false c = if e = b ∧ c = d2 then (words (ρ b) false d2).set (cnt true b ((ρ d2).take i)) w else words (ρ e) false c := by
      by_cases z : e = b
      · rw [z, fupd_same, words_set (d' := (false, d2, w)) hd rfl]
        by_cases z2 : c = d2
        · rw [z2, if_pos (show mt false d2 (false, d2, d3) = true from decide_eq_true ⟨rfl, rfl⟩), if_pos ⟨rfl, rfl⟩, hjc]
        · rw [if_neg (show ¬ mt false c (false, d2, d3) = true by unfold mt; rw [decide_eq_false fun q => z2 q.2.symm]; exact Bool.false_ne_true), if_neg fun q => z2 q.2]
      · rw [fupd_ne z, if_neg fun q => z q.1]
        by_cases z2 : e = d2
        · rw [z2, fupd_same, words_set (d' := (true, b, w)) hi rfl, if_neg (by unfold mt; rw [decide_eq_false fun q => nomatch q.1]; exact Bool.false_ne_true)]
        · rw [fupd_ne z2]
    have e2 : words (fupd (fupd ρ d2 ((ρ d2).set i (true, b, w))) b ((ρ b).set j (false, d2, w)) c) true e = if e = b ∧ c = d2 then (words (ρ d2) true b).set (cnt true b ((ρ d2).take i)) w else words (ρ c) true e := by
      by_cases z : c = b
      · rw [z, fupd_same, words_set (d' := (false, d2, w)) hd rfl, if_neg (by unfold mt; rw [decide_eq_false fun q => nomatch q.1]; exact Bool.false_ne_true), if_neg fun q => hab q.2]
      · rw [fupd_ne z]
        by_cases z2 : c = d2
        · rw [z2, fupd_same, words_set (d' := (true, b, w)) hi rfl]
          by_cases z3 : e = b
          · rw [z3, if_pos (show mt true b (true, b, x) = true from decide_eq_true ⟨rfl, rfl⟩), if_pos ⟨rfl, rfl⟩]
          · rw [if_neg (show ¬ mt true e (true, b, x) = true by unfold mt; rw [decide_eq_false fun q => z3 q.2.symm]; exact Bool.false_ne_true), if_neg fun q => z3 q.1]
        · rw [fupd_ne z2, if_neg fun q => z2 q.2]
    rw [e1, e2, m.heard _ ha _ hb, h0]
  · have : tot hs (fupd (fupd ρ d2 ((ρ d2).set i (true, b, w))) b ((ρ b).set j (false, d2, w))) = tot hs ρ := by
      unfold tot
      congr 1
      exact List.map_congr_left fun y _ => sayN_skel (sk y)
    rw [this]; exact m.few
end K66
set_option maxHeartbeats 4000000
namespace K66
variable [TabAt]
open PySem PySem.Spec PyProof.Rows L2
theorem rising_pw : ∀ {l : List Str} {p : Str}, risingS p l = true → ∀ x ∈ l, ¬ x.cps.toList < p.cps.toList
  | [], _, _, x, h => by simp at h
  | y :: l, p, h, x, hx => by
    obtain ⟨h1, h2⟩ := Bool.and_eq_true_iff.mp (show (!ltCps y.cps.toList p.cps.toList && risingS y l) = true from h)
    rw [ltCps_eq, Bool.not_eq_true', decide_eq_false_iff_not] at h1
    rcases List.mem_cons.mp hx with e | e
    · rw [e]; exact h1
    · have h3 := rising_pw h2 x e
      exact List.not_lt.mpr (List.le_trans (List.not_lt.mp h1) (List.not_lt.mp h3))
theorem sorted_pw : ∀ {l : List Str}, sortedS l = true → l.Pairwise fun a b => ¬ b.cps.toList < a.cps.toList
  | [], _ => .nil
  | [x], _ => List.pairwise_singleton _ _
  | x :: y :: l, h => by
    obtain ⟨h1, h2⟩ := Bool.and_eq_true_iff.mp (show (!ltCps y.cps.toList x.cps.toList && risingS y l) = true from h)
    exact .cons (fun z hz => rising_pw (show risingS x (y :: l) = true from h) z hz) (sorted_pw (show sortedS (y :: l) = true from h2))
theorem sortedH_of {hs : List Str} (h : sortedS hs = true) : sortedH hs := fun zs hp hz => by
  refine List.Perm.eq_of_pairwise (fun a b _ _ h1 h2 => ?_) (sorted_pw hz) (sorted_pw h) hp
  have : a.cps.toList = b.cps.toList := List.le_antisymm (List.not_lt.mp h1) (List.not_lt.mp h2)
  cases a
  cases b
  congr 1
  exact Array.toList_inj.mp this
def wSay (h : Str) (p : Deed × Nat) : Option Dt := if p.1.1 = true then some (.tup [.str h, .int (p.2 : Nat)]) else none
def wSays (ρ : Str → Row) (hs : List Str) : List Dt := hs.flatMap fun h => (ρ h).zipIdx.filterMap (wSay h)
theorem wSay_mem {ρ : Str → Row} {hs : List Str} {d : Dt} (h : d ∈ wSays ρ hs) : ∃ a ∈ hs, ∃ (i : Nat) (b x : Str), (ρ a)[i]? = some (true, b, x) ∧ d = .tup [.str a, .int (i : Nat)] := by
  obtain ⟨a, ha, h⟩ := List.mem_flatMap.mp h
  obtain ⟨⟨⟨k, b, x⟩, i⟩, hp, e⟩ := List.mem_filterMap.mp h
  unfold wSay at e
  split at e
  · rename_i hk
    cases hk
    cases e
    refine ⟨a, ha, i, b, x, ?_, rfl⟩
    obtain ⟨j, hj, e⟩ := List.getElem_of_mem hp
    rw [List.getElem_zipIdx] at e
    obtain ⟨e1, e2⟩ := Prod.mk.inj e
    have : j = i := by omega
    subst this
    rw [← e1]
    exact List.getElem?_eq_getElem _
  · cases e
theorem flat_le {α β : Type} {f : α → List β} {n : Nat} : ∀ {l : List α}, (∀ a ∈ l, (f a).length ≤ n) → (l.flatMap f).length ≤ l.length * n
  | [], _ => by simp
  | a :: l, h => by
    have h1 := flat_le (l := l) (f := f) fun x hx => h x (List.mem_cons_of_mem _ hx)
    have h2 := h a (by simp)
    rw [List.flatMap_cons, List.length_append, List.length_cons, Nat.succ_mul]
    omega
theorem says_pln {ρ : Str → Row} : ∀ {hs : List Str}, (∀ x ∈ hs, isNm x = true) → plnL (wSays ρ hs) 19 = true := by
  have app : ∀ (u v : List Dt), plnL u 19 = true → plnL v 19 = true → plnL (u ++ v) 19 = true := fun u => by
    induction u with
    | nil => exact fun v _ h => h
    | cons x u ih =>
      intro v h1 h2
      obtain ⟨a, b⟩ := Bool.and_eq_true_iff.mp (show (pln x 19 && plnL u 19) = true from h1)
      show (pln x 19 && plnL (u ++ v) 19) = true
      rw [a, ih v b h2]; rfl
  have one : ∀ (h : Str) (l : List (Deed × Nat)), isNm h = true → plnL (l.filterMap (wSay h)) 19 = true := fun h l hn => by
    induction l with
    | nil => rfl
    | cons p l ih =>
      rw [List.filterMap_cons]
      unfold wSay at ih ⊢
      by_cases hk : p.1.1 = true
      · rw [if_pos hk]
        show ((true && (PyData.strOk h && (true && true))) && plnL _ 19) = true
        rw [ih, nm_str hn]; rfl
      · rw [if_neg hk]; exact ih
  intro hs hn
  induction hs with
  | nil => rfl
  | cons h hs ih =>
    unfold wSays at ih ⊢
    rw [List.flatMap_cons]
    exact app _ _ (one h _ (hn h (by simp))) (ih fun x hx => hn x (List.mem_cons_of_mem _ hx))
def wd3 : List Str := ["x", "y", "end"]
theorem wd3_nm : ∀ x ∈ wd3, isNm x = true := List.all_eq_true.mp (by decide +kernel : wd3.all isNm = true)
section
variable {P : Program} {w : World} {K : PySem.W.Frag} {mg : Str → Option Value} {base : Heap}
def p_reworded : List Str → List (List Dt) → (Dt → Prop) → Prop := fun hs rs Φ => ∃ (n : Nat) (ρ : Str → Row), rs = (hs.map fun h => (ρ h).map dD) ∧ Made hs n ρ ∧ hs.Nodup ∧ (∀ x ∈ hs, isNm x = true) ∧ sortedS hs = true ∧ hs.length ≤ 4 ∧ n ≤ 8 ∧ ∀ d, madeR hs n d → Φ d
abbrev nRew : List Str := ["_law_pot_here", "_law_rows_here", "_law_says", "_law_hand", "_law_at", "_law_other", "_law_fresh", "_law_number", "_law_gets", "_law_k", "_law_deed"]
theorem ok_reworded (T : Txt K mg) : OkD P w K mg base d_law_reworded 3 ["_law_pot_here", "_law_rows_here"] (spR P w p_reworded) := by
  have nd : nRew.Nodup := by decide +kernel
  refine okR_of (N := nRew) T.n_law_reworded ⟨rfl, rfl, rfl, by decide +kernel, rfl, by decide +kernel, by decide +kernel⟩ (fun _ _ _ _ _ _ us hl => match us, hl with | [_, _], _ => rfl) rfl ?_
  rintro hs rs Φ ⟨n, ρ, rfl, m, hn, hnm, hso, h4, h8, hΦ⟩ p cdv A outer sh H E hr
  have hu : (PX P w K mg base nRew d_law_reworded cdv A outer sh H E).A.units + 64 < cLine := hr.units
  have rlen : ∀ x ∈ hs, (ρ x).length ≤ 16 := fun x hx => by have := m.len x hx; omega
  have fl : ∀ i : Nat, (wSays ρ (hs.take i)).length ≤ 64 := fun i => by
    have := flat_le (l := hs.take i) (f := fun h => (ρ h).zipIdx.filterMap (wSay h)) (n := 16) fun a ha => Nat.le_trans (List.length_filterMap_le ..) (by rw [List.length_zipIdx]; exact rlen a (List.mem_of_mem_take ha))
    have h5 : (hs.take i).length ≤ 4 := by rw [List.length_take]; omega
    have h6 : (hs.take i).length * 16 ≤ 4 * 16 := Nat.mul_le_mul_right 16 h5
    exact Nat.le_trans this h6
  refine .cons (.asg 2 nd .nilL ?_)
  refine .cons (.loop (fun i ds => ∃ s3 s9 s10, ds = [.pot p, rwO hs ρ, .ol (wSays ρ (hs.take i)), s3, .un, .un, .un, .un, .un, s9, s10]) (xs := hs.map .str) rfl (.lst (.sortedRw 1 rfl rfl (by omega) (sortedH_of hso) T.f_sorted)) ⟨.un, .un, .un, rfl⟩ ?_ ?_)
  · rintro i x ds1 hx ⟨s3, s9, s10, rfl⟩
    rw [List.getElem?_map] at hx
    obtain ⟨h, hi, rfl⟩ := Option.map_eq_some_iff.mp hx
    have hmem := List.mem_of_getElem? hi
    refine ⟨_, _, .name 3 nd, ?_⟩
    refine .cons (.extend 2 (ys := (ρ h).zipIdx.filterMap (wSay h)) rfl (.lcf (enc := fun p : Deed × Nat => .tup [.int (p.2 : Nat), dD p.1]) (own := [("_law_k", 9), ("_law_deed", 10)]) rfl nd ?_ (blk_of rfl) (by rw [List.length_zipIdx]; have := rlen h hmem; omega) fun q hq => ⟨_, _, ?_, fun s H C cl fp => .tup rfl (.cons (.name 9 nd) (.cons (.name 10 nd) .nil)), fun s H C cl fp => .one (.cmp (.cast (.eqS (i := kS q.1.1) (j := "say") (.ixT (xs := [.str (kS q.1.1), .str q.1.2.1, .str q.1.2.2]) (n := 0) (.var 10 rfl) .int rfl) .str) ?_)), fun d hd s H C cl fp => ?_⟩) ?_ (.nil ⟨.d (.str h), s9, s10, ?_⟩))
    · rw [← enum_row]
      exact .enumRw 1 rfl hu hn hi (rows_at hi) (.var 3 rfl) T.f_enumerate
    · decide
    · unfold wSay
      cases q.1.1 <;> rfl
    · unfold wSay at hd
      split at hd
      · cases hd
        exact .tup (.cons (.var 3 rfl) (.cons (.var 9 rfl) .nil)) (show 2 ≤ 100000 by decide)
      · cases hd
    · have h1 := fl i
      have h2 : ((ρ h).zipIdx.filterMap (wSay h)).length ≤ 16 := Nat.le_trans (List.length_filterMap_le ..) (by rw [List.length_zipIdx]; exact rlen h hmem)
      omega
    · have e : wSays ρ (hs.take (i + 1)) = wSays ρ (hs.take i) ++ (ρ h).zipIdx.filterMap (wSay h) := by
        unfold wSays
        rw [List.take_add_one, hi, List.flatMap_append]
        show _ ++ ([h].flatMap _) = _
        rw [List.flatMap_cons, List.flatMap_nil, List.append_nil]
      rw [e]
      rfl
  rintro ds' ⟨s3, s9, s10, rfl⟩
  rw [List.length_map, List.take_length]
  have fl0 : (wSays ρ hs).length ≤ 64 := by have := fl hs.length; rwa [List.take_length] at this
  refine .cons (.ifs (.cmp (own_nil (g := fun z => z) 2 (op_eqD hu) rfl (says_pln hnm))) (fun _ => .relRw 1 rfl (by
    rw [rw_data]
    exact .cons (.ret (.var 1 rfl) ⟨hΦ _ ⟨ρ, m, rfl⟩, rfl⟩))) fun hne => .nil ?_)
  have hne := of_decide_eq_false hne
  refine .relL 2 rfl (.cons (.asgGX (P := fun d => d ∈ wSays ρ hs) (EvX.callP 0 (ok_pick T) T.g_law_pick hr rfl (EvA.x (.cons (.var 2 rfl) .nil)) (fun as e => ⟨_, e, hne, by omega, fun d hd => hd⟩)) ?_))
  intro d1 hd1
  obtain ⟨a, ha, i, b, x, hi, rfl⟩ := wSay_mem hd1
  obtain ⟨ja, hja⟩ := idx_of ha
  have hdok := List.all_eq_true.mp (m.ok a ha) _ (List.mem_of_getElem? hi)
  obtain ⟨hdok, hbo⟩ := Bool.and_eq_true_iff.mp hdok
  obtain ⟨hbm, hba⟩ := Bool.and_eq_true_iff.mp hbo
  have hb : b ∈ hs := of_decide_eq_true hbm
  have hab : b ≠ a := by rw [Bool.not_eq_true'] at hba; exact of_decide_eq_false hba
  obtain ⟨jb, hjb⟩ := idx_of hb
  have hdR : ((ρ a).map dD)[i]? = some (dD (true, b, x)) := by rw [List.getElem?_map, hi]; rfl
  refine ⟨_, _, .tup rfl (.cons (.name 3 nd) (.cons (.name 4 nd) .nil)), ?_⟩
  refine .cons (.parCX (i := 5) (j := 6) rfl nd (EvD.x (.ixT (xs := [.str (kS true), .str b, .str x]) (n := 1) (.ixRw 1 rfl hu hn hja (rows_at hja) (.var 3 rfl) (.var 4 rfl) hdR) .int rfl)) (EvX.callP (Φ := fun d => d ∈ wd3.map Dt.str) 0 (ok_pick T) T.g_law_pick hr rfl (EvA.x (.cons (.lst (as := wd3.map Dt.str) (.cons .str (.cons .str (.cons .str .nil))) (by decide +kernel)) .nil)) (fun as e => ⟨_, e, fun z => (nomatch z), by decide +kernel, fun d hd => hd⟩)) ?_)
  rintro s t rfl ⟨d2, rfl, hd2⟩
  obtain ⟨w3, hw3, rfl⟩ := strs_mem hd2
  have hw := wd3_nm w3 hw3
  have knm : ∀ (r : Row), rowOk hs a r = true ∨ rowOk hs b r = true → ∀ d ∈ r, isNm d.2.1 = true := fun r h d hd => by
    rcases h with h | h <;>
    · have := List.all_eq_true.mp h d hd
      obtain ⟨h1, _⟩ := Bool.and_eq_true_iff.mp this
      exact (Bool.and_eq_true_iff.mp h1).1
  have eqP : ∀ (k : Bool) (o : Str) (d : Deed), mt k o d = true ↔ Dt.tup [.str (kS d.1), .str d.2.1] = Dt.tup [.str (kS k), .str o] := fun k o d => by
    unfold mt
    rw [decide_eq_true_eq]
    constructor
    · rintro ⟨e1, e2⟩; rw [e1, e2]
    · intro e
      have e := List.cons.inj (Dt.tup.inj e)
      exact ⟨kS_inj (Dt.str.inj e.1), Dt.str.inj (List.cons.inj e.2).1⟩
  have pl2 : ∀ (k : Bool) (o : Str), isNm o = true → pln (.tup [.str (kS k), .str o]) 20 = true := fun k o ho => by
    show (decide ((20 : Nat) ≠ 0) && (PyData.strOk (kS k) && (PyData.strOk o && true))) = true
    rw [kS_str, nm_str ho]; rfl
  have tk : ∀ d ∈ (ρ a).take i, d ∈ ρ a := fun d hd => List.mem_of_mem_take hd
  refine .cons (.asg 7 nd (EvD.o (.lenL (.lcf (enc := dD) (g := fun d => if mt true b d = true then some (dD d) else none) (ys := (ρ a).take i) (own := [("_law_deed", 10)]) rfl nd ?_ (blk_of rfl) ?_ fun d hd => ⟨_, [10], by simp, fun s H C cl fp => .name 10 nd, fun s H C cl fp => .one (.cmp (.cast (.eq (x := .tup [.str (kS d.1), .str d.2.1]) (y := .tup [.str (kS true), .str b]) (k := mt true b d) hu (.headT (xs := [.str (kS d.1), .str d.2.1, .str d.2.2]) (n := 2) (.var 10 rfl) .int) (.tup (.cons .str (.cons (.var 5 rfl) .nil)) (show 2 ≤ 100000 by decide)) ?_ ?_ ?_) ?_)), fun dd hdd s H C cl fp => ?_⟩) T.f_len)) ?_)
  · rw [List.map_take]
    exact .lst (.sliceRw 1 rfl hu hn hja (rows_at hja) (.var 3 rfl) (.var 4 rfl))
  · rw [List.length_take]; have := rlen a ha; omega
  · exact pl2 _ _ (knm _ (.inl (m.ok a ha)) d (tk d hd))
  · exact pl2 _ _ (hnm b hb)
  · exact eqP true b d
  · cases mt true b d <;> rfl
  · split at hdd
    · cases hdd; exact .var 10 rfl
    · cases hdd
  have eN : (((ρ a).take i).filterMap fun d => if mt true b d = true then some (dD d) else none).length = cnt true b ((ρ a).take i) := by
    unfold cnt
    induction (ρ a).take i with
    | nil => rfl
    | cons d r ih =>
      rw [List.filterMap_cons, List.filter_cons]
      by_cases z : mt true b d = true
      · rw [if_pos z, if_pos z]; show _ + 1 = _ + 1; rw [ih]
      · rw [if_neg z, if_neg z]; exact ih
  rw [eN]
  refine .cons (.asgLc 8 (enc := fun p : Deed × Nat => .tup [.int (p.2 : Nat), dD p.1]) (g := fun p => if mt false a p.1 = true then some (intD p.2) else none) (ys := (ρ b).zipIdx) (own := [("_law_k", 9), ("_law_deed", 10)]) rfl nd ?_ (blk_of rfl) (by rw [List.length_zipIdx]; have := rlen b hb; omega) (fun q hq => ⟨_, _, ?_, fun s H C cl fp => .tup rfl (.cons (.name 9 nd) (.cons (.name 10 nd) .nil)), fun s H C cl fp => .one (.cmp (.cast (.eq (x := .tup [.str (kS q.1.1), .str q.1.2.1]) (y := .tup [.str (kS false), .str a]) (k := mt false a q.1) hu (.headT (xs := [.str (kS q.1.1), .str q.1.2.1, .str q.1.2.2]) (n := 2) (.var 10 rfl) .int) (.tup (.cons .str (.cons (.var 3 rfl) .nil)) (show 2 ≤ 100000 by decide)) ?_ ?_ ?_) ?_)), fun dd hdd s H C cl fp => ?_⟩) ?_)
  · rw [← enum_row]
    exact .enumRw 1 rfl hu hn hjb (rows_at hjb) (.var 5 rfl) T.f_enumerate
  · decide
  · refine pl2 _ _ (knm _ (.inr (m.ok b hb)) q.1 ?_)
    obtain ⟨j, hj, e⟩ := List.getElem_of_mem hq
    rw [List.getElem_zipIdx] at e
    rw [← e]
    exact List.getElem_mem _
  · exact pl2 _ _ (hnm a ha)
  · exact eqP false a q.1
  · cases mt false a q.1 <;> rfl
  · split at hdd
    · cases hdd; exact .var 9 rfl
    · cases hdd
  have eP : ((ρ b).zipIdx.filterMap fun p => if mt false a p.1 = true then some (intD p.2) else none) = (places (ρ b) false a).map intD := by
    unfold places mt
    rw [List.map_filterMap]
    congr 1
    funext p
    split <;> rfl
  rw [eP]
  have hlt : cnt true b ((ρ a).take i) < (places (ρ b) false a).length := by
    have h1 := (List.getElem?_eq_some_iff.mp (place_at hi (show mt true b (true, b, x) = true from decide_eq_true ⟨rfl, rfl⟩))).1
    have h2 := congrArg List.length (m.heard a ha b hb)
    rw [words_cnt, words_cnt] at h2
    rw [places_len_cnt] at h1 ⊢
    omega
  obtain ⟨jj, hjj⟩ : ∃ j, (places (ρ b) false a)[cnt true b ((ρ a).take i)]? = some j := ⟨_, List.getElem?_eq_getElem hlt⟩
  obtain ⟨⟨dj, hdj, _⟩, _⟩ := place_index hjj
  refine .cons (.setRw 1 (n := i) (d := dD (true, b, w3)) rfl hu hn hja (rows_at hja) (.var 3 rfl) (.var 4 rfl) (by rw [List.length_map]; exact (List.getElem?_eq_some_iff.mp hi).1) (.tup (.cons .str (.cons (.var 5 rfl) (.cons (.var 6 rfl) .nil))) (show 3 ≤ 100000 by decide)) ?_)
  rw [← List.map_set, rw_set hn hja]
  have e1 : fupd ρ a ((ρ a).set i (true, b, w3)) b = ρ b := fupd_ne hab
  refine .cons (.setRw 1 (n := jj) (d := dD (false, a, w3)) (r := (fupd ρ a ((ρ a).set i (true, b, w3)) b).map dD) rfl hu hn hjb (rows_at (ρ := fupd ρ a ((ρ a).set i (true, b, w3))) hjb) (.var 5 rfl) (.ixL (n := cnt true b ((ρ a).take i)) (z := intD jj) (.var 8 rfl) (.var 7 rfl) (by rw [List.getElem?_map, hjj]; rfl)) (by rw [List.length_map, e1]; exact (List.getElem?_eq_some_iff.mp hdj).1) (.tup (.cons .str (.cons (.var 3 rfl) (.cons (.var 6 rfl) .nil))) (show 3 ≤ 100000 by decide)) ?_)
  rw [← List.map_set, rw_set hn hjb, e1]
  refine .relRw 1 rfl ?_
  rw [rw_data]
  exact .cons (.ret (.var 1 rfl) ⟨hΦ _ ⟨_, m.reword ha hb hab hi hjj hw, rfl⟩, rfl⟩)
end
end K66
set_option maxHeartbeats 4000000
namespace PySem.SeqAt
open AutoSeq1 (wpAny_loadPart')
open MeetsSeq MeetsSeq2 MeetsSeq3 SeqRoads2
section
variable {prog : Program} {w : World}
theorem contains_loopIn (l : Addr) (items : Array Value) (n : Nat) (dd : Option Addr) (sl : Array (Option Value)) (x : Value) (e : Nat → Bool) (k : Nat) :
    ∀ i : Nat, items.size - i = k → MeetsIn prog w (Builtin.«list.__contains__.loop» ⟨[.ref l, x, rawInt i], []⟩)
      (fun A R s => s.heap.get? l = some { cls := .type "list", dict := dd, data := .seq items n, slots := sl } ∧ (∀ j (h : j < items.size), EqIn prog w A.in1 s items[j] x (e j)) ∧ R (.ok (.ret (.bool (((List.range items.size).drop i).any e)))) s) := by
  induction k with
  | zero =>
    intro i hk A R s h
    obtain ⟨hp, g, d, tk, os⟩ := s; obtain ⟨hl, he, h⟩ := h
    wp_walk using wpAny_loadPart' hl
    have hi : items[((i : Nat) : Int).toNat]? = none := by simp; omega
    have hd : (List.range items.size).drop i = [] := by simp; omega
    rw [hd] at h
    rw [hi]
    wp_walk
    exact h
  | succ k ih =>
    intro i hk A R s h
    obtain ⟨hp, g, d, tk, os⟩ := s; obtain ⟨hl, he, h⟩ := h
    wp_walk using wpAny_loadPart' hl
    have hlt : i < items.size := by omega
    have hi : items[((i : Nat) : Int).toNat]? = some items[i] := by simp [hlt]
    have hd : (List.range items.size).drop i = i :: (List.range items.size).drop (i + 1) := by simp [List.drop_eq_getElem_cons, hlt]
    rw [hd, List.any_cons] at h
    rw [hi]
    refine wpAny_bind (he i hlt _ _ ?_)
    cases hb : e i with
    | true =>
      rw [hb] at h
      wp_walk
      exact h
    | false =>
      rw [hb] at h
      have hc : ((i : Int) + 1) = ((i + 1 : Nat) : Int) := by push_cast; rfl
      wp_walk
      rw [hc]
      exact ⟨plainId_quiet plain_contains_loop _, codeAny_builtin entry_contains_loop (by
        rw [Around.under_plainId plain_contains_loop _]
        exact ih (i + 1) (by omega) A R _ ⟨hl, he, by simpa using h⟩)⟩
theorem list_containsIn (l : Addr) (items : Array Value) (n : Nat) (dd : Option Addr) (sl : Array (Option Value)) (x : Value) (e : Nat → Bool) :
    MeetsIn prog w (Builtin.«list.__contains__» ⟨[.ref l, x], []⟩)
      (fun A R s => s.heap.get? l = some { cls := .type "list", dict := dd, data := .seq items n, slots := sl } ∧ (∀ j (h : j < items.size), EqIn prog w A.in1 s items[j] x (e j)) ∧ R (.ok (.ret (.bool ((List.range items.size).any e)))) s) := by
  intro A R s h
  obtain ⟨hp, g, d, tk, os⟩ := s; obtain ⟨hl, he, h⟩ := h
  wp_walk using wpAny_loadPart' hl
  exact ⟨plainId_quiet plain_contains_loop _, codeAny_builtin entry_contains_loop (by
    rw [Around.under_plainId plain_contains_loop _]
    exact contains_loopIn l items n dd sl x e _ 0 rfl A R _ ⟨hl, he, by simpa using h⟩)⟩
theorem notIn_listIn {A : Around} {E : Value → Shared → Prop} {s : Shared} {l : Addr} {items : Array Value} {n : Nat} {x : Value} {Q : Value → Shared → Prop} (e : Nat → Bool) (hl : s.heap.get? l = some { cls := .type "list", data := .seq items n }) (he : ∀ j (h : j < items.size), EqIn prog w A.in1 s items[j] x (e j))
    (h : Q (.bool (!(List.range items.size).any e)) s) : wpAny (model prog w) A (compareOp .NotIn x (.ref l)) Q E s := by
  show wpAny _ A (do return .bool (!(← contains (.ref l) x))) Q E s
  refine wpAny_bind (wpAny_contains_slot ⟨_, hl, rfl⟩ F.slot_list_contains (wpAny_mono (call_meetsIn F.slot_list_contains ⟨_, hl, rfl⟩ F.entry_list_contains (F.args_list_contains_2 _ _) (list_containsIn l items n _ _ x e) ⟨hl, he, (show wants (fun v s' => ∃ b, v = .bool b ∧ Q (.bool (!b)) s') E (.ok (.ret (.bool ((List.range items.size).any e)))) s from ⟨_, rfl, h⟩)⟩) (fun v s' hv => ?_) fun _ _ e => e))
  obtain ⟨b, rfl, hq⟩ := hv
  exact wpAny_truthy_bool (wpAny_pure hq)
end
end PySem.SeqAt
namespace K66
variable [TabAt]
open PySem PySem.Spec PyProof.Rows L2
open PySem.SeqAt (EqIn)
theorem valV_at2 {h : Str} {v : V} : ∀ {hs : List Str} {vs : List V} {j : Nat}, hs.Nodup → hs[j]? = some h → vs[j]? = some v → valV ((hs.map (Sum.inr : Str → Key)).zip vs) (.inr h) = some v
  | [], _, j, _, e, _ => by simp at e
  | _ :: _, [], j, _, _, e => by simp at e
  | x :: hs, p :: ps, 0, n, e, e2 => by
    simp at e e2
    subst e e2
    rw [List.map_cons, List.zip_cons_cons, valV_pos rfl]
  | x :: hs, p :: ps, j + 1, n, e, e2 => by
    rw [List.nodup_cons] at n
    have e : hs[j]? = some h := by simpa using e
    have e2 : ps[j]? = some v := by simpa using e2
    rw [List.map_cons, List.zip_cons_cons, valV_neg]
    · exact valV_at2 n.2 e e2
    · intro z
      have z : x = h := Sum.inr.inj z
      exact n.1 (by rw [z]; exact List.mem_of_getElem? e)
section
variable {P : Program} {w : World} {A : Around} {s : Shared}
theorem hits_of {kb : List (Key × Value)} : ∀ (hs : List Str) (rs1 rs2 : List Row) (ka : List (Key × Value)), hs.length = rs1.length → hs.length = rs2.length → ka.map (·.1) = hs.map Sum.inr →
    (∀ (j : Nat) h r1 r2 v, hs[j]? = some h → rs1[j]? = some r1 → rs2[j]? = some r2 → ka[j]? = some (.inr h, v) → ∃ y, PySem.valueAt kb (.inr h) = some y ∧ EqIn P w A s v y (decide (r1 = r2))) → PySem.W.KeqHitsIn P w A s kb ka (decide (rs1 = rs2))
  | [], rs1, rs2, ka, e1, e2, e3, _ => by
    have z1 := List.eq_nil_of_length_eq_zero e1.symm
    have z2 := List.eq_nil_of_length_eq_zero e2.symm
    subst z1 z2
    have z3 : ka = [] := List.map_eq_nil_iff.mp e3
    rw [z3]
    exact .nil
  | h :: hs, [], _, _, e1, _, _, _ => by simp at e1
  | h :: hs, _ :: _, [], _, _, e2, _, _ => by simp at e2
  | h :: hs, r1 :: rs1, r2 :: rs2, [], _, _, e3, _ => by simp at e3
  | h :: hs, r1 :: rs1, r2 :: rs2, (k, v) :: ka, e1, e2, e3, H => by
    obtain ⟨e4, e5⟩ := List.cons.inj e3
    have e4 : k = .inr h := e4
    subst e4
    obtain ⟨y, hy, he⟩ := H 0 h r1 r2 v rfl rfl rfl rfl
    have e : decide (r1 :: rs1 = r2 :: rs2) = (decide (r1 = r2) && decide (rs1 = rs2)) := by
      rw [Bool.eq_iff_iff, Bool.and_eq_true, decide_eq_true_eq, decide_eq_true_eq, decide_eq_true_eq]
      exact ⟨fun z => List.cons.inj z, fun z => by rw [z.1, z.2]⟩
    rw [e]
    exact .hit hy he (hits_of hs rs1 rs2 ka (by simpa using e1) (by simpa using e2) e5 fun j h r1 r2 v a b c d => H (j + 1) h r1 r2 v a b c d)
end
section
variable {X : Cx} {pins : List (Addr × Obj)} {σ : L2.St} {C H : Hp} {s : Shared}
theorem pln_eqIn {A : Around} {d1 d2 : Dt} {v1 v2 : V} {u1 u2 : Value} (I : Inv X pins σ H s) (lc : Le C H) (i1 : Isx X C d1 v1) (i2 : Isx X C d2 v2) (r1 : RelV v1 u1) (r2 : RelV v2 u2) (p1 : pln d1 20 = true) (p2 : pln d2 20 = true) {k : Bool} (hk : k = true ↔ d1 = d2) (hu : A.units + 64 < cLine) : EqIn X.prog X.w A s u1 u2 k := by
  obtain ⟨as, z1⟩ := Dp.reads I _ _ _ (Dp.mono' p1 lc i1) r1
  obtain ⟨bs, z2⟩ := Dp.reads I _ _ _ (Dp.mono' p2 lc i2) r2
  have s1 := pln_shaped p1 (by omega)
  have s2 := pln_shaped p2 (by omega)
  have h := SeqAt.eqAt_reads (py d1) (py d2) A s u1 u2 as bs z1 z2 (SeqAt.canLay_of_shaped s1) (SeqAt.canLay_of_shaped s2) (SeqAt.room_of_shaped s1 hu)
  have e : PyData.eqv (py d1) (py d2) = k := by rw [Bool.eq_iff_iff, eqv_py d1 d2 20 20 p1 p2, hk]
  rw [e] at h
  exact h.inModel _ _
theorem pln_uniq {d1 d2 : Dt} {v : V} {u : Value} (I : Inv X pins σ H s) (lc : Le C H) (i1 : Isx X C d1 v) (i2 : Isx X C d2 v) (r : RelV v u) (p1 : pln d1 20 = true) (p2 : pln d2 20 = true) : d1 = d2 := by
  obtain ⟨as, z1⟩ := Dp.reads I _ _ _ (Dp.mono' p1 lc i1) r
  obtain ⟨bs, z2⟩ := Dp.reads I _ _ _ (Dp.mono' p2 lc i2) r
  have s1 := SeqAt.canLay_of_shaped (pln_shaped p1 (by omega))
  have e := SeqAt.Reads.unique _ _ _ _ _ s1 z1 z2
  have h := SeqAt.eqv_refl (py d1) s1
  exact (eqv_py d1 d2 20 20 p1 p2).mp (by rw [← e]; exact h)
theorem paired_get {α β : Type} {R : α → β → Prop} : ∀ {xs : List α} {ys : List β} {j : Nat} {x : α} {y : β}, PySem.Paired R xs ys → xs[j]? = some x → ys[j]? = some y → R x y
  | _, _, j, _, _, .nil, h, _ => by simp at h
  | _, _, 0, _, _, .cons h _, e1, e2 => by simp at e1 e2; subst e1 e2; exact h
  | _, _, j + 1, _, _, .cons _ t, e1, e2 => paired_get (j := j) t (by simpa using e1) (by simpa using e2)
theorem dic_eqIn {A : Around} {hs : List Str} (hn : hs.Nodup) {rs1 rs2 : List Row} (l1 : hs.length = rs1.length) (l2 : hs.length = rs2.length) {v1 v2 : V} {u1 u2 : Value} (I : Inv X pins σ H s) (lc : Le C H) (i1 : Isx X C (.dic (hs.map .inr) (rs1.map rL)) v1) (i2 : Isx X C (.dic (hs.map .inr) (rs2.map rL)) v2) (r1 : RelV v1 u1) (r2 : RelV v2 u2)
    (p1 : ∀ r ∈ rs1, pln (rL r) 20 = true) (p2 : ∀ r ∈ rs2, pln (rL r) 20 = true) (hu : A.units + 65 < cLine) : EqIn X.prog X.w A s u1 u2 (decide (rs1 = rs2)) := by
  obtain ⟨a1, o1, w1, rfl, c1, n1, j1⟩ := i1
  obtain ⟨a2, o2, w2, rfl, c2, n2, j2⟩ := i2
  cases r1
  cases r2
  have lw1 : w1.length = rs1.length := by have := j1.len; rwa [List.length_map] at this
  have lw2 : w2.length = rs2.length := by have := j2.len; rwa [List.length_map] at this
  obtain ⟨z1, y1, vs1, k1, d1⟩ := dk_rd I.hok (.inr ⟨o1, lc.ex _ _ c1⟩)
  obtain ⟨z2, y2, vs2, k2, d2⟩ := dk_rd I.hok (.inr ⟨o2, lc.ex _ _ c2⟩)
  by_cases hne : a1 = a2
  · subst hne
    have c2' := c1.symm.trans c2
    have e0 := (HO.frz.inj (Option.some.inj c2')).2
    have e1 := HO.dK.inj e0
    have e2 : w1 = w2 := by
      have h1 := congrArg (List.map Prod.snd) e1
      rwa [List.map_snd_zip (by omega), List.map_snd_zip (by omega)] at h1
    subst e2
    have e3 : rs1 = rs2 := by
      refine List.ext_getElem (by omega) fun j h1 h2 => ?_
      have g1 : (rs1.map rL)[j]? = some (rL rs1[j]) := by rw [List.getElem?_map, List.getElem?_eq_getElem h1]; rfl
      have g2 : (rs2.map rL)[j]? = some (rL rs2[j]) := by rw [List.getElem?_map, List.getElem?_eq_getElem h2]; rfl
      obtain ⟨v, hv, iv⟩ := j1.get g1
      obtain ⟨v', hv', iv'⟩ := j2.get g2
      rw [hv] at hv'
      cases hv'
      have hh : hs[j]? = some (hs[j]'(by omega)) := List.getElem?_eq_getElem _
      have hr := k1.val (.inr (hs[j]'(by omega)))
      rw [valV_at2 hn hh hv] at hr
      cases hu' : PySem.valueAt vs1 (.inr (hs[j]'(by omega))) with
      | none => rw [hu'] at hr; exact (show False from hr).elim
      | some u =>
        rw [hu'] at hr
        have := pln_uniq I lc iv iv' (show RelV v u from hr) (p1 _ (List.getElem_mem h1)) (p2 _ (List.getElem_mem h2))
        exact rL_inj this
    rw [decide_eq_true e3]
    exact (SeqAt.EqAt.same _).inModel _ _
  · refine SeqAt.EqIn.of_refs hne fun E Q hq => PySem.W.keq_eqIn y1 y2 d1 d2 (by omega) (fun _ => hits_of hs rs1 rs2 vs1 l1 l2 ?_ fun j h ra rb v hj hr1 hr2 hk => ?_) ?_
    · rw [← k1.keys, List.map_fst_zip (by rw [List.length_map]; omega)]
    · have g1 : (rs1.map rL)[j]? = some (rL ra) := by rw [List.getElem?_map, hr1]; rfl
      have g2 : (rs2.map rL)[j]? = some (rL rb) := by rw [List.getElem?_map, hr2]; rfl
      obtain ⟨x1, hx1, ix1⟩ := j1.get g1
      obtain ⟨x2, hx2, ix2⟩ := j2.get g2
      have hr := k2.val (.inr h)
      rw [valV_at2 hn hj hx2] at hr
      have hz : ((hs.map (Sum.inr : Str → Key)).zip w1)[j]? = some (.inr h, x1) := by
        rw [List.getElem?_zip_eq_some]
        exact ⟨by rw [List.getElem?_map, hj]; rfl, hx1⟩
      have hq2 := paired_get k1 hz hk
      cases hu' : PySem.valueAt vs2 (.inr h) with
      | none => rw [hu'] at hr; exact (show False from hr).elim
      | some u =>
        rw [hu'] at hr
        refine ⟨u, rfl, pln_eqIn I lc ix1 ix2 hq2.2 (show RelV x2 u from hr) (p1 _ (List.mem_of_getElem? hr1)) (p2 _ (List.mem_of_getElem? hr2)) ?_ (by show A.units + 1 + 64 < cLine; omega)⟩
        rw [decide_eq_true_eq]
        exact ⟨fun z => by rw [z], fun z => rL_inj z⟩
    · have e1 : (vs1.length == vs2.length) = true := by
        rw [← k1.length, ← k2.length, List.length_zip, List.length_zip, List.length_map, beq_iff_eq]; omega
      rw [e1, Bool.true_and]
      exact hq
end
end K66
set_option maxHeartbeats 4000000
namespace K66
variable [TabAt]
open PySem PySem.Spec PyProof.Rows L2
def dRows (hs : List Str) (rs : List Row) : Dt := .dic (hs.map .inr) (rs.map rL)
def rNotInT (X : Cx) : R2 := fun x y H Q => ∃ (C : Hp) (hs : List Str) (rs : List Row) (rss : List (List Row)) (l : Addr) (vs : List V), y = .ref l ∧ H l = some (.lst vs) ∧ Le C H ∧ hs.Nodup ∧ (∀ q ∈ rs :: rss, hs.length = q.length ∧ ∀ r ∈ q, pln (rL r) 20 = true) ∧ Isx X C (dRows hs rs) x ∧ IsLx X C (rss.map (dRows hs)) vs ∧ Q (.bl (decide (rs ∉ rss))) H
theorem op_notInT {X : Cx} (hu : X.A.units + 66 < cLine) : OpR X (compareOp .NotIn) (rNotInT X) := by
  intro pins s σ H x y v u Q I rx ry h
  obtain ⟨C, hs, rs, rss, l, vs, rfl, hl, lc, hn, hq, ix, il, q⟩ := h
  cases ry
  obtain ⟨_, its, n, hv, ho⟩ := I.hok _ _ hl
  have len1 : its.length = rss.length := by rw [← hv.length, il.len, List.length_map]
  refine SeqAt.notIn_listIn (fun j => decide (rss[j]? = some rs)) ho (fun j hj => ?_) ?_
  · have hj0 : j < its.length := by simpa using hj
    have hj1 : rss[j]? = some rss[j] := List.getElem?_eq_getElem (by omega)
    obtain ⟨y, hy, iy⟩ := il.get (show (rss.map (dRows hs))[j]? = some (dRows hs rss[j]) by rw [List.getElem?_map, hj1]; rfl)
    have hr := paired_get hv hy (List.getElem?_eq_getElem hj0)
    have hm := hq rss[j] (List.mem_cons_of_mem _ (List.getElem_mem _))
    have hm0 := hq rs List.mem_cons_self
    have z := dic_eqIn (A := X.A.in1) hn hm.1 hm0.1 I lc iy ix hr rx hm.2 hm0.2 (by show X.A.units + 1 + 65 < cLine; omega)
    have e : decide (rss[j]? = some rs) = decide (rss[j] = rs) := by rw [hj1]; simp
    try dsimp only
    rw [e]
    simpa using z
  · have e : (!(List.range its.toArray.size).any fun j => decide (rss[j]? = some rs)) = decide (rs ∉ rss) := by
      have e1 : ((List.range its.toArray.size).any fun j => decide (rss[j]? = some rs)) = decide (rs ∈ rss) := by
        rw [Bool.eq_iff_iff, List.any_eq_true, decide_eq_true_eq]
        constructor
        · rintro ⟨j, _, h⟩
          exact List.mem_of_getElem? (of_decide_eq_true h)
        · intro h
          obtain ⟨j, hj, e⟩ := List.getElem_of_mem h
          refine ⟨j, List.mem_range.mpr ?_, decide_eq_true (by rw [← e]; exact List.getElem?_eq_getElem hj)⟩
          simp only [List.size_toArray]
          omega
      rw [e1, decide_not]
    rw [e]
    exact ⟨.bl _, H, I, rfl, q⟩
section
variable {X : Cx} {ds : List Sl} {e a b : Expr} {pos p pos' q1 q2 : Pos}
/-- x not in l, l an own list of dicts of rows -/
theorem EvC.notInM (i : Nat) {x : Str} {hs : List Str} {rs : List Row} {rss : List (List Row)} (hu : X.A.units + 66 < cLine) (hs' : ds[i]? = some (.ol (rss.map (dRows hs)))) (hn : hs.Nodup) (hq : ∀ q ∈ rs :: rss, hs.length = q.length ∧ ∀ r ∈ q, pln (rL r) 20 = true) (ha : EvD X a ds (dRows hs rs))
    (hN : X.N[i]? = some x := by rfl) (hv : Vis X.env.scope x := by first | exact Or.inl rfl | exact Or.inr (Or.inl rfl) | exact Or.inr (Or.inr rfl)) (hd : (x == ("__debug__" : Str)) = false := by decide) (hcd : (x == ("__classdict__" : Str)) = false := by decide) :
    EvC X .NotIn a (.Name x q1) ds (decide (rs ∉ rss)) := fun C H σ S Q q => by
  refine pcW (pc_of (op_notInT hu) wpE.pe wpE.pe) (ha C H σ S _ fun v C1 H1 x1 i1 => ?_)
  obtain ⟨l, vs, e1, c1, h1, i2⟩ := (S.mono x1).lst hs'
  exact nameW e1 ⟨C1, hs, rs, rss, l, vs, rfl, h1, x1.le', hn, hq, i1, i2, q C1 H1 x1⟩ hN hv hd hcd
/-- list(x), one's own -/
theorem EvO.listL {xs : List Dt} (ha : EvD X a ds (.lst xs)) (hm : X.mg "list" = none) (hg : Gl X "list" := by rfl) (hst : starEach [a] X.env = (false, eval a X.env) :: starEach [] X.env := by rfl) : EvO X (.Call (.Name "list" p) [a] [] pos) ds (.ol xs) := fun C H σ S Q q =>
  peW (pe_callTy call_list_of hg hm boot_list (pa_cons wpE.pe pa_nil hst) (by decide) (by decide) hst) (ha C H σ S _ fun v C1 H1 x1 i1 => by
    obtain ⟨p1, us, rfl, r1, j1⟩ := i1
    exact ⟨p1, us, rfl, .inl (.inl (.inl (x1.le'.ex _ _ r1))), fun p hp => by
      have hH : H p = none := gone (W := fun _ => False) x1.w hp
      exact q _ C1 _ [p] (x1.trans (.only x1.le' (same_new hp))) ⟨p, us, rfl, rfl, x1.le'.dom p hp, upd_same, j1⟩ (nd1 p) fun a ha => by rw [List.mem_singleton.mp ha]; exact hH⟩)
end
end K66
set_option maxHeartbeats 4000000
namespace K66
variable [TabAt]
open PySem PySem.Spec PyProof.Rows L2
theorem Made.mono {hs : List Str} {n m : Nat} {ρ : Str → Row} (h : Made hs n ρ) (l : n ≤ m) : Made hs m ρ :=
  ⟨h.ok, h.heard, h.run, Nat.le_trans h.few l, fun x hx => Nat.le_trans (h.len x hx) (Nat.mul_le_mul_left 2 l)⟩
theorem Made.none {hs : List Str} {n : Nat} : Made hs n fun _ => [] := (Gen.nil (hs := hs) (n := 0)).made.mono (Nat.zero_le n)
theorem cnt_app {k : Bool} {o : Str} {r q : Row} : cnt k o (r ++ q) = cnt k o r + cnt k o q := by unfold cnt; rw [List.filter_append, List.length_append]
theorem Run.cat {hs : List Str} {ρ μ : Str → Row} (h1 : Run hs ρ) (hb : ∀ a ∈ hs, ∀ b ∈ hs, cnt false a (ρ b) = cnt true b (ρ a)) (h2 : Run hs μ) : Run hs fun h => ρ h ++ μ h := by
  induction h2 with
  | nil =>
    have : (fun h => ρ h ++ []) = ρ := funext fun h => List.append_nil _
    rw [this]; exact h1
  | say μ a b x _ ha hbm ih =>
    have r := Run.say _ a b x ih ha hbm
    have : (fupd (fun h => ρ h ++ μ h) a (ρ a ++ μ a ++ [(true, b, x)])) = fun h => ρ h ++ fupd μ a (μ a ++ [(true, b, x)]) h := funext fun y => by
      by_cases z : y = a
      · rw [z, fupd_same, fupd_same, List.append_assoc]
      · rw [fupd_ne z, fupd_ne z]
    rw [← this]; exact r
  | get μ a b x _ ha hbm hc ih =>
    have r := Run.get _ a b x ih ha hbm (by rw [cnt_app, cnt_app, hb a ha b hbm]; omega)
    have : (fupd (fun h => ρ h ++ μ h) b (ρ b ++ μ b ++ [(false, a, x)])) = fun h => ρ h ++ fupd μ b (μ b ++ [(false, a, x)]) h := funext fun y => by
      by_cases z : y = b
      · rw [z, fupd_same, fupd_same, List.append_assoc]
      · rw [fupd_ne z, fupd_ne z]
    rw [← this]; exact r
theorem Made.bal {hs : List Str} {n : Nat} {ρ : Str → Row} (m : Made hs n ρ) {a b : Str} (ha : a ∈ hs) (hb : b ∈ hs) : cnt false a (ρ b) = cnt true b (ρ a) := by
  have := congrArg List.length (m.heard a ha b hb)
  rwa [words_cnt, words_cnt] at this
theorem Made.cat {hs : List Str} {n m : Nat} {ρ μ : Str → Row} (h1 : Made hs n ρ) (h2 : Made hs m μ) : Made hs (n + m) fun h => ρ h ++ μ h := by
  refine ⟨fun h hh => ?_, fun a ha b hb => ?_, h1.run.cat (fun a ha b hb => h1.bal ha hb) h2.run, ?_, fun h hh => ?_⟩
  · unfold rowOk
    rw [List.all_append]
    rw [show ((ρ h).all fun d => deedOk d && (decide (d.2.1 ∈ hs) && !decide (d.2.1 = h))) = true from h1.ok h hh, show ((μ h).all fun d => deedOk d && (decide (d.2.1 ∈ hs) && !decide (d.2.1 = h))) = true from h2.ok h hh]
    rfl
  · rw [words_app, words_app, h1.heard a ha b hb, h2.heard a ha b hb]
  · have e : ∀ l : List Str, tot l (fun h => ρ h ++ μ h) = tot l ρ + tot l μ := fun l => by
      unfold tot
      induction l with
      | nil => rfl
      | cons x l ih => rw [List.map_cons, List.map_cons, List.map_cons, List.sum_cons, List.sum_cons, List.sum_cons, ih, sayN_app]; omega
    rw [e]
    have := h1.few
    have := h2.few
    omega
  · rw [List.length_append]
    have := h1.len h hh
    have := h2.len h hh
    omega
theorem dRows_eq (hs : List Str) (ρ : Str → Row) : dRows hs (hs.map ρ) = sD rL (rowsF hs ρ) := by
  unfold dRows sD rowsF
  rw [List.map_map, List.map_map, List.map_map]
  rfl
theorem pln_row {r : Row} (h : ∀ d ∈ r, deedOk d = true) : pln (rL r) 20 = true := by
  show (decide ((20 : Nat) ≠ 0) && plnL (r.map dD) 19) = true
  have : plnL (r.map dD) 19 = true := by
    induction r with
    | nil => rfl
    | cons d r ih =>
      obtain ⟨h1, h2⟩ := Bool.and_eq_true_iff.mp (h d List.mem_cons_self)
      show ((true && (PyData.strOk (kS d.1) && (PyData.strOk d.2.1 && (PyData.strOk d.2.2 && true)))) && plnL (r.map dD) 19) = true
      rw [ih fun x hx => h x (List.mem_cons_of_mem _ hx), kS_str, nm_str h1, nm_str h2]; rfl
  rw [this]; rfl
theorem Made.pln {hs : List Str} {n : Nat} {ρ : Str → Row} (m : Made hs n ρ) : hs.length = (hs.map ρ).length ∧ ∀ r ∈ hs.map ρ, K66.pln (rL r) 20 = true := by
  refine ⟨by rw [List.length_map], fun r hr => ?_⟩
  obtain ⟨h, hh, rfl⟩ := List.mem_map.mp hr
  exact pln_row fun d hd => (Bool.and_eq_true_iff.mp (List.all_eq_true.mp (m.ok h hh) d hd)).1
/-- the pictures of a drawn book: their rows -/
structure MBook (hs : List Str) (n : Nat) (ρs : List (Str → Row)) : Prop where
  ne : ρs ≠ []
  len : ρs.length ≤ 4
  made : ∀ ρ ∈ ρs, Made hs n ρ
  nd : (ρs.map fun ρ => hs.map ρ).Nodup
def bookR (hs : List Str) : Dt → Prop := fun d => ∃ ρs, MBook hs 4 ρs ∧ d = .lst (ρs.map fun ρ => sD rL (rowsF hs ρ))
end K66
set_option maxHeartbeats 4000000
namespace K66
variable [TabAt]
open PySem PySem.Spec PyProof.Rows L2
theorem EvD.xd {X : Cx} {e : Expr} {ds : List Sl} {d : Dt} (h : EvD X e ds d) : EvX X e ds (datP fun z => z = d) := h.x.imp fun s e => ⟨d, e, rfl⟩
def natP (P : Nat → Prop) : Dt → Prop := fun d => ∃ n : Nat, d = intD n ∧ P n
theorem EvX.nat1 {X : Cx} {e : Expr} {ds : List Sl} {m : Nat} {pos : Pos} {a : Expr} (ha : EvD X a ds (.int 1)) (h : EvX X e ds (datP (drawR m))) : EvX X (.BinOp a .Add e pos) ds (intP fun j => ∃ n : Nat, j = (n : Nat) ∧ 1 ≤ n ∧ n ≤ m) :=
  (EvX.addI ha (h.imp (Φ2 := intP fun j => ∃ n : Nat, j = (n : Nat) ∧ n < m) fun s ⟨d, e, n, en, hn⟩ => ⟨(n : Nat), by rw [e, en]; rfl, n, rfl, hn⟩)).imp fun s ⟨j, e, k, ek, n, en, hn⟩ => ⟨j, e, n + 1, by rw [ek, en]; omega, by omega, by omega⟩
theorem rowsF_get {hs : List Str} {ρ : Str → Row} {h : Str} (hh : h ∈ hs) : alGet (rowsF hs ρ) h = some (ρ h) := by
  unfold rowsF
  induction hs with
  | nil => simp at hh
  | cons x hs ih =>
    rw [List.map_cons]
    by_cases e : x = h
    · subst e; simp [alGet]
    · rcases List.mem_cons.mp hh with z | z
      · exact absurd z.symm e
      · have := ih z
        simp [alGet, e] at this ⊢
        exact this
theorem rowsF_dR {hs : List Str} {ρ : Str → Row} : dRows hs (hs.map ρ) = .dic (hs.map fun h => .inr h) (hs.map fun h => rL (ρ h)) := by
  unfold dRows
  rw [List.map_map]; rfl
section
variable {P : Program} {w : World} {K : PySem.W.Frag} {mg : Str → Option Value} {base : Heap}
structure NamesOk (hs : List Str) : Prop where
  nd : hs.Nodup
  nm : ∀ x ∈ hs, isNm x = true
  so : sortedS hs = true
  ne : hs ≠ []
  le : hs.length ≤ 4
def p_book : List Dt → (Dt → Prop) → Prop := fun as Φ => ∃ hs : List Str, as = [.lst (hs.map .str), .int 3] ∧ NamesOk hs ∧ ∀ d, bookR hs d → Φ d
abbrev nBook : List Str := ["_law_pot_here", "_law_names_here", "_law_most", "_law_found", "_law_base", "_law_turn", "_law_road", "_law_rows_here", "_law_more", "_law_hand", "_law_row"]
theorem ok_book (T : Txt K mg) : OkD P w K mg base d_law_book 4 ["_law_pot_here", "_law_names_here", "_law_most"] (spP P w p_book) := by
  have nd : nBook.Nodup := by decide +kernel
  refine okP_of (N := nBook) T.n_law_book ⟨rfl, rfl, rfl, by decide +kernel, rfl, by decide +kernel, by decide +kernel⟩ (fun _ _ _ _ _ _ us hl => match us, hl with | [_, _, _], _ => rfl) ?_
  rintro as Φ ⟨hs, rfl, nk, hΦ⟩
  have hn := nk.nd
  have hnm := nk.nm
  refine ⟨rfl, fun p cdv A outer sh H E hr => ?_⟩
  have hu : (PX P w K mg base nBook d_law_book cdv A outer sh H E).A.units + 64 < cLine := hr.units
  have hu6 : (PX P w K mg base nBook d_law_book cdv A outer sh H E).A.units + 66 < cLine := by have := hr.un; show (A.deeper _).units + 66 < cLine; omega
  refine .cons (.parX (i := 3) (j := 4) rfl nd EvO.nilL.x (EvX.callP (Φ := madeR hs 3) 0 (ok_rows T) T.g_law_rows hr rfl (.cons (EvD.xd (.var 1 rfl)) (.cons (P := natP fun n => 1 ≤ n ∧ n ≤ 3) ((EvX.nat1 .int (EvX.callP (Φ := drawR 3) 0 (ok_draw T) T.g_law_draw (hr.mono (by decide)) rfl (EvA.x (.cons (.var 2 rfl) .nil)) (fun as e => ⟨3, e, by omega, by omega, fun d hd => hd⟩))).imp ?_) (EvA.x .nil))) ?_) ?_)
  · rintro s ⟨j, e, n, en, hn1⟩
    exact ⟨_, e, n, by rw [en]; rfl, hn1⟩
  · rintro as ⟨d, r, rfl, rfl, d2, r2, rfl, ⟨n, rfl, hn1, hn3⟩, rfl⟩
    exact ⟨hs, n, rfl, hn, hnm, nk.ne, nk.le, by omega, fun d ⟨ρ, m, e⟩ => ⟨ρ, m.mono hn3, e⟩⟩
  rintro s t rfl ⟨d, rfl, ρ0, m0, rfl⟩
  let I : List Dt → Nat → List Sl → Prop := fun xs i ds => ∃ (ρs : List (Str → Row)) (s5 s6 s7 s8 s9 s10 : Sl), ds = [.pot p, .d (.lst (hs.map .str)), .d (.int 3), .ol ((ρs.map fun ρ => hs.map ρ).map (dRows hs)), .d (sD rL (rowsF hs ρ0)), s5, s6, s7, s8, s9, s10] ∧ (∀ ρ ∈ ρs, Made hs 4 ρ) ∧ (ρs.map fun ρ => hs.map ρ).Nodup ∧ ρs.length ≤ i ∧ (1 ≤ i → ρs ≠ [])
  refine .cons (.loopX I rfl (EvIX.rng1 (Pn := fun n => 1 ≤ n ∧ n ≤ 4) (EvX.nat1 .int (EvX.callP (Φ := drawR 4) 0 (ok_draw T) T.g_law_draw (hr.mono (by decide)) rfl (EvA.x (.cons .int .nil)) (fun as e => ⟨4, e, by omega, by omega, fun d hd => hd⟩))) T.f_range (fun n h => by omega)) (fun xs _ => ⟨[], .un, .un, .un, .un, .un, .un, rfl, (fun ρ h => by simp at h), List.nodup_nil, Nat.le_refl _, fun h => by omega⟩) ?_ ?_)
  · rintro xs ⟨n, ⟨hn1, hn4⟩, rfl⟩ i x ds1 hx ⟨ρs, s5, s6, s7, s8, s9, s10, rfl, hmade, hnd, hlen, hne⟩
    obtain ⟨hin, rfl⟩ := rng_get hx
    refine ⟨_, _, .name 5 nd, ?_⟩
    refine .cons (.parCX (i := 6) (j := 7) rfl nd (EvX.callP (Φ := drawR 6) 0 (ok_draw T) T.g_law_draw (hr.mono (by decide)) rfl (EvA.x (.cons .int .nil)) (fun as e => ⟨6, e, by omega, by omega, fun d hd => hd⟩)) (EvO.x (.dictRw (enc := fun p : Str × Row => .tup [.str p.1, rL p.2]) (kf := fun p => p.1) (rf := fun p => p.2.map dD) (ys := rowsF hs ρ0) (own := [("_law_hand", 9), ("_law_row", 10)]) rfl nd (.itemsS (e := rL) (l := rowsF hs ρ0) (.var 4 rfl)) (blk_of rfl) ?_ ?_ (fun q hq => ⟨_, _, ?_, fun s H C cl fp => .tup rfl (.cons (.name 9 nd) (.cons (.name 10 nd) .nil)), fun s H C cl fp => .mk (.var 9 rfl) (.listL (.var 10 rfl) T.f_list)⟩) T.f_dict)) ?_)
    · unfold rowsF; rw [List.length_map]; have := nk.le; omega
    · unfold rowsF; rw [List.map_map, show (((fun p : Str × Row => p.1) ∘ fun h => (h, ρ0 h)) : Str → Str) = fun h => h from rfl, List.map_id']; exact hn
    · decide
    rintro s t ⟨d, rfl, k, rfl, hk⟩ rfl
    have eR : Sl.rw ((rowsF hs ρ0).map fun p => p.1) ((rowsF hs ρ0).map fun p => p.2.map dD) = rwO hs ρ0 := by
      unfold rwO rowsF
      rw [List.map_map, List.map_map, show (((fun p : Str × Row => p.1) ∘ fun h => (h, ρ0 h)) : Str → Str) = fun h => h from rfl, List.map_id']; rfl
    rw [eR]
    let J : List Sl → Prop := fun ds => ∃ (ρ : Str → Row) (s5 s6 s8 s9 s10 : Sl), ds = [.pot p, .d (.lst (hs.map .str)), .d (.int 3), .ol ((ρs.map fun ρ => hs.map ρ).map (dRows hs)), .d (sD rL (rowsF hs ρ0)), s5, s6, .d (dRows hs (hs.map ρ)), s8, s9, s10] ∧ Made hs 4 ρ
    have mk1 : ∀ (ρ : Str → Row) (n : Nat) (s5 s6 s8 s9 s10 : Sl), Made hs n ρ → n ≤ 4 → J [.pot p, .d (.lst (hs.map .str)), .d (.int 3), .ol ((ρs.map fun ρ => hs.map ρ).map (dRows hs)), .d (sD rL (rowsF hs ρ0)), s5, s6, .d (sD rL (rowsF hs ρ)), s8, s9, s10] := fun ρ n s5 s6 s8 s9 s10 m l => ⟨ρ, s5, s6, s8, s9, s10, by rw [dRows_eq], m.mono l⟩
    have mk2 : ∀ (ρ : Str → Row) (n : Nat) (s5 s6 s8 s9 s10 : Sl), Made hs n ρ → n ≤ 4 → J [.pot p, .d (.lst (hs.map .str)), .d (.int 3), .ol ((ρs.map fun ρ => hs.map ρ).map (dRows hs)), .d (sD rL (rowsF hs ρ0)), s5, s6, .d (.dic (hs.map fun h => .inr h) (hs.map fun h => rL (ρ h))), s8, s9, s10] := fun ρ n s5 s6 s8 s9 s10 m l => ⟨ρ, s5, s6, s8, s9, s10, by rw [rowsF_dR], m.mono l⟩
    refine .cons (.ifsJ J (.cmp (.eqI (.var 6 rfl) .int)) (fun _ => ?_) (fun _ => .cons (.ifs (.cmp (.eqI (.var 6 rfl) .int)) (fun _ => ?_) fun _ => .cons (.ifs (.cmp (.lt (.var 6 rfl) .int)) (fun _ => ?_) fun _ => .cons (.ifs (.cmp (.eqI (.var 6 rfl) .int)) (fun _ => ?_) fun _ => ?_)))) ?_)
    · refine .cons (.asgX 7 nd (EvX.callP (Φ := madeR hs 3) 0 (ok_rows T) T.g_law_rows hr rfl (.cons (EvD.xd (.var 1 rfl)) (.cons (P := natP fun n => n ≤ 3) ((EvX.callP (Φ := drawR 4) 0 (ok_draw T) T.g_law_draw (hr.mono (by decide)) rfl (EvA.x (.cons (.add (.var 2 rfl) .int) .nil)) (fun as e => ⟨4, e, by omega, by omega, fun d hd => hd⟩)).imp ?_) (EvA.x .nil))) ?_) ?_)
      · rintro s ⟨d, e, n, en, hn1⟩
        exact ⟨d, e, n, en, by omega⟩
      · rintro as ⟨d, r, rfl, rfl, d2, r2, rfl, ⟨n, rfl, hn3⟩, rfl⟩
        exact ⟨hs, n, rfl, hn, hnm, nk.ne, nk.le, by omega, fun d ⟨ρ, m, e⟩ => ⟨ρ, m.mono hn3, e⟩⟩
      rintro s ⟨d, rfl, ρ, m, rfl⟩
      exact .nil (mk1 ρ 3 _ _ _ _ _ m (by omega))
    · refine .cons (.asg 7 nd (EvD.o (.dictOf (kf := fun h => h) (vf := fun _ => .lst []) (ys := hs) rfl (.lcm (enc := Dt.str) (g := fun h => .tup [.str h, .lst []]) (own := [("_law_hand", 9)]) rfl nd (.lst (.var 1 rfl)) (blk_of rfl) (by have := nk.le; omega) fun h hh => ⟨_, [9], by simp, fun s H C cl fp => .name 9 nd, fun s H C cl fp => .tup (.cons (.var 9 rfl) (.cons (.lst .nil (by decide)) .nil)) (show 2 ≤ 100000 by decide)⟩) (by rw [List.map_id']; exact hn) T.f_dict)) ?_)
      exact .nil (.nil (mk2 (fun _ => []) 0 _ _ _ _ _ .none (by omega)))
    · refine .cons (.asgRw 0 7 (Φ := madeR hs 3) nd (ok_reworded T) T.g_law_reworded hr rfl rfl ⟨3, ρ0, rfl, m0, hn, hnm, nk.so, nk.le, by omega, fun d hd => hd⟩ ?_)
      rintro d ⟨ρ, m, rfl⟩
      exact .nil (.nil (.nil (mk1 ρ 3 _ _ _ _ _ m (by omega))))
    · refine .cons (.asgX 8 nd (EvX.callP (Φ := madeR hs 1) 0 (ok_rows T) T.g_law_rows hr rfl (EvA.x (.cons (.var 1 rfl) (.cons .int .nil))) (fun as e => ⟨hs, 1, e, hn, hnm, nk.ne, nk.le, by omega, fun d hd => hd⟩)) ?_)
      rintro s ⟨d, rfl, μ, m1, rfl⟩
      refine .relRw 7 rfl ?_
      rw [rw_data]
      refine .cons (.asg 7 nd (EvD.o (.dictOf (kf := fun h => h) (vf := fun h => rL (ρ0 h ++ μ h)) (ys := hs) rfl (.lcm (enc := Dt.str) (g := fun h => .tup [.str h, rL (ρ0 h ++ μ h)]) (own := [("_law_hand", 9)]) rfl nd (.lst (.var 1 rfl)) (blk_of rfl) (by have := nk.le; omega) fun h hh => ⟨_, [9], by simp, fun s H C cl fp => .name 9 nd, fun s H C cl fp => .tup (.cons (.var 9 rfl) (.cons (.cast (.catL (xs := (ρ0 h).map dD) (ys := (μ h).map dD) (.getS (e := rL) (l := rowsF hs ρ0) hu (.var 7 rfl) (.var 9 rfl) (rowsF_get hh)) (.getS (e := rL) (l := rowsF hs μ) hu (.var 8 rfl) (.var 9 rfl) (rowsF_get hh)) ?_) ?_) .nil)) (show 2 ≤ 100000 by decide)⟩) (by rw [List.map_id']; exact hn) T.f_dict)) ?_)
      · rw [List.length_map, List.length_map]
        have := m0.len h hh
        have := m1.len h hh
        omega
      · unfold rL; rw [List.map_append]
      exact .nil (.nil (.nil (.nil (mk2 (fun h => ρ0 h ++ μ h) 4 _ _ _ _ _ (m0.cat m1) (by omega)))))
    · refine .relRw 7 rfl ?_
      rw [rw_data]
      exact .nil (.nil (.nil (.nil (mk1 ρ0 3 _ _ _ _ _ m0 (by omega)))))
    rintro ds' ⟨ρ, s5, s6, s8, s9, s10, rfl, m⟩
    refine .cons (.ifs (.cmp (EvC.notInM 3 hu6 rfl hn (fun q hq => ?_) (.var 7 rfl))) (fun h => .cons (.append 3 (d := dRows hs (hs.map ρ)) rfl (.var 7 rfl) ?_ (.nil (.nil ⟨ρs ++ [ρ], s5, s6, .d (dRows hs (hs.map ρ)), s8, s9, s10, ?_, ?_, ?_, ?_, ?_⟩)))) fun h => .nil (.nil ⟨ρs, s5, s6, _, s8, s9, s10, rfl, hmade, hnd, by omega, ?_⟩))
    · rcases List.mem_cons.mp hq with e | e
      · rw [e]; exact m.pln
      · obtain ⟨μ, hμ, rfl⟩ := List.mem_map.mp e
        exact (hmade μ hμ).pln
    · rw [List.length_map, List.length_map]; omega
    · rw [List.map_append, List.map_append]; rfl
    · intro μ hμ
      rcases List.mem_append.mp hμ with e | e
      · exact hmade μ e
      · rw [List.mem_singleton.mp e]; exact m
    · rw [List.map_append, List.nodup_append]
      refine ⟨hnd, List.pairwise_singleton _ _, fun a ha b hb e => ?_⟩
      rw [List.mem_singleton.mp hb] at e
      rw [e] at ha
      exact of_decide_eq_true h ha
    · rw [List.length_append, List.length_singleton]; omega
    · intro _ z; simp at z
    · intro _ z
      subst z
      have := of_decide_eq_false h
      simp at this
  · rintro xs ds' ⟨n, ⟨hn1, hn4⟩, rfl⟩ ⟨ρs, s5, s6, s7, s8, s9, s10, rfl, hmade, hnd, hlen, hne⟩
    rw [rng_length] at hlen hne
    refine .relL 3 rfl (.cons (.ret (.var 3 rfl) ⟨hΦ _ ⟨ρs, ⟨hne hn1, by omega, hmade, hnd⟩, ?_⟩, rfl⟩))
    rw [List.map_map]
    congr 1
    exact List.map_congr_left fun ρ _ => dRows_eq hs ρ
end
end K66
set_option maxHeartbeats 4000000
namespace K66
variable [TabAt]
open PySem PySem.Spec PyProof.Rows L2
section
variable {X : Cx} {ds : List Sl} {e a b : Expr} {pos p q1 : Pos} {Ψ : Res → Prop}
theorem EvO.run {s : Sl} (h : EvO X e ds s) {C H : Hp} {σ : L2.St} (S : SDx X C H σ ds) {Q : VK} (q : ∀ v C' H' fp, Stp C H C' H' → SlF X.prog X.w C' H' s (some v) fp → fp.Nodup → (∀ a ∈ fp, H a = none) → Q v H') : wpE X e σ H Q := h C H σ S Q q
theorem S1.open {st : Stmt} {rest : List Stmt} {D : Ends} {W : Addr → Prop} {C0 H0 C H : Hp} {σ : L2.St} {Pr : List Sl → Prop} (h : S1 X st ds (fun r => ∃ ds', r = .nx ds' ∧ Pr ds')) (x : Stw W C0 H0 C H) (S : SWx X W H0 C H σ ds)
    (k : ∀ ds' C' H' σ', Pr ds' → Stw W C0 H0 C' H' → SWx X W H0 C' H' σ' ds' → wpSs X rest D σ' H') : wpSs X (st :: rest) D σ H :=
  pssW (pss_cons wpS.ps wpSs.pss) (h W C0 H0 C H σ { D with nx := wpSs X rest D } x S fun r hr => by
    obtain ⟨ds', rfl, hp⟩ := hr
    exact fun C' H' σ' a b c => k ds' C' H' σ' hp a c)
theorem EvD.bin {op : Operator} {Co : Int → Int → Prop} {g : Int → Int → Int} {i j : Int} (ho : OpR X (binaryOp op) (rI Co fun i j => .int (g i j))) (ha : EvD X a ds (.int i)) (hb : EvD X b ds (.int j)) (hc : Co i j) : EvD X (.BinOp a op b pos) ds (.int (g i j)) :=
  .op ho ha hb fun C H v u l i1 i2 Q q => ⟨i, j, i1, i2, hc, q _ C H (.refl l) rfl⟩
def scr (K : PySem.W.Frag) (a : Addr) (ns : List Int) : Sl := .vw (.ref a) fun C => SqL K C a (ns.map .int)
theorem scrCore {K : PySem.W.Frag} {C H : Hp} {a : Addr} {xs : List V} (l : ∀ a o, (∀ ps, o ≠ .tbl ps) → C a = some o → H a = some o) (h : SqL K C a xs) : SqL K H a xs := by
  rcases h with (h | ⟨o, h⟩) | h
  · exact .inl (.inl (l _ _ (fun ps z => nomatch z) h))
  · exact .inl (.inr ⟨o, l _ _ (fun ps z => nomatch z) h⟩)
  · exact .inr h
theorem EvD.lenV (i : Nat) {x : Str} {ad : Addr} {ns : List Int} (hs : ds[i]? = some (scr X.K ad ns)) (hm : X.mg "len" = none) (hN : X.N[i]? = some x := by rfl) (hv : Vis X.env.scope x := by first | exact Or.inl rfl | exact Or.inr (Or.inl rfl) | exact Or.inr (Or.inr rfl)) (hg : Gl X "len" := by rfl)
    (hd : (x == ("__debug__" : Str)) = false := by decide) (hcd : (x == ("__classdict__" : Str)) = false := by decide) (hst : starEach [Expr.Name x q1] X.env = (false, eval (.Name x q1) X.env) :: starEach [] X.env := by rfl) : EvD X (.Call (.Name "len" p) [.Name x q1] [] pos) ds (.int (ns.length : Nat)) := fun C H σ ⟨f, S⟩ Q q => by
  obtain ⟨e1, e2, e3⟩ := S.sl i _ hs
  refine peW (pe_callB call_len_seq hg hm boot_len (pa_cons wpE.pe pa_nil hst) (by decide) (by decide) hst) (nameW e2 ?_ hN hv hd hcd)
  refine ⟨ad, ns.map .int, rfl, .inl (scrCore S.le.ex' (e3 C (.refl _))), ?_⟩
  rw [List.length_map]
  exact q _ C H (.refl S.le) rfl
theorem EvD.ixV (i : Nat) {x : Str} {ad : Addr} {ns : List Int} {n : Nat} {z : Int} (hs : ds[i]? = some (scr X.K ad ns)) (hb : EvD X b ds (.int (n : Nat))) (h : ns[n]? = some z) (hN : X.N[i]? = some x := by rfl) (hv : Vis X.env.scope x := by first | exact Or.inl rfl | exact Or.inr (Or.inl rfl) | exact Or.inr (Or.inr rfl))
    (hd : (x == ("__debug__" : Str)) = false := by decide) (hcd : (x == ("__classdict__" : Str)) = false := by decide) (hp : PlainIx b := by exact fun _ _ => rfl) : EvD X (.Subscript (.Name x q1) b pos) ds (.int z) := fun C H σ ⟨f, S⟩ Q q => by
  obtain ⟨e1, e2, e3⟩ := S.sl i _ hs
  refine peW (pe_ix ix_list wpE.pe wpE.pe hp) (nameW e2 (hb C H σ S.sd _ fun u C1 H1 x1 i1 => ?_) hN hv hd hcd)
  exact ⟨ad, ns.map .int, (n : Nat), .int z, rfl, i1, scrCore x1.le'.ex' (e3 C1 x1.le), atI_nat (by rw [List.getElem?_map, h]; rfl), q _ C1 H1 x1 rfl⟩
theorem EvD.abs {i : Int} (ha : EvD X a ds (.int i)) (hm : X.mg "abs" = none) (hg : Gl X "abs" := by rfl) (hst : starEach [a] X.env = (false, eval a X.env) :: starEach [] X.env := by rfl) : EvD X (.Call (.Name "abs" p) [a] [] pos) ds (.int (if i < 0 then -i else i)) := fun C H σ S Q q =>
  peW (pe_callB call_abs hg hm (by decide +kernel) (pa_cons wpE.pe pa_nil hst) (by decide) (by decide) hst) (ha C H σ S _ fun v C1 H1 x1 i1 => by
    rw [show v = V.int i from i1]
    exact ⟨i, rfl, q _ C1 H1 x1 rfl⟩)
theorem EvD.max2 {i j : Int} (hc : X.calm = true) (ha : EvD X a ds (.int i)) (hb : EvD X b ds (.int j)) (hm : X.mg "max" = none) (hg : Gl X "max" := by rfl) (hst : starEach [a, b] X.env = (false, eval a X.env) :: starEach [b] X.env := by rfl) (hst2 : starEach [b] X.env = (false, eval b X.env) :: starEach [] X.env := by rfl) (hpl : (backTo pos (starEach [b] X.env)).any (·.1) = false := by rfl) : EvD X (.Call (.Name "max" p) [a, b] [] pos) ds (.int (if j > i then j else i)) := fun C H σ S Q q =>
  peW (pe_callB (call_max2 hc) hg hm (by decide +kernel) (pa_cons wpE.pe (pa_cons wpE.pe pa_nil hst2) hst) (by decide) (by decide) hst hpl) (ha C H σ S _ fun v C1 H1 x1 i1 => hb C1 H1 σ (S.mono x1) _ fun u C2 H2 x2 i2 => by
    rw [show v = V.int i from i1, show u = V.int j from i2]
    exact ⟨i, j, rfl, q _ C2 H2 (x1.trans x2) rfl⟩)
theorem EvD.min2 {i j : Int} (hc : X.calm = true) (ha : EvD X a ds (.int i)) (hb : EvD X b ds (.int j)) (hm : X.mg "min" = none) (hg : Gl X "min" := by rfl) (hst : starEach [a, b] X.env = (false, eval a X.env) :: starEach [b] X.env := by rfl) (hst2 : starEach [b] X.env = (false, eval b X.env) :: starEach [] X.env := by rfl) (hpl : (backTo pos (starEach [b] X.env)).any (·.1) = false := by rfl) : EvD X (.Call (.Name "min" p) [a, b] [] pos) ds (.int (if j < i then j else i)) := fun C H σ S Q q =>
  peW (pe_callB (call_min2 hc) hg hm (by decide +kernel) (pa_cons wpE.pe (pa_cons wpE.pe pa_nil hst2) hst) (by decide) (by decide) hst hpl) (ha C H σ S _ fun v C1 H1 x1 i1 => hb C1 H1 σ (S.mono x1) _ fun u C2 H2 x2 i2 => by
    rw [show v = V.int i from i1, show u = V.int j from i2]
    exact ⟨i, j, rfl, q _ C2 H2 (x1.trans x2) rfl⟩)
theorem EvD.int1 {i : Int} (ha : EvD X a ds (.int i)) (hm : X.mg "int" = none) (hg : Gl X "int" := by rfl) (hst : starEach [a] X.env = (false, eval a X.env) :: starEach [] X.env := by rfl) : EvD X (.Call (.Name "int" p) [a] [] pos) ds (.int i) := fun C H σ S Q q =>
  peW (pe_callTy call_int1 hg hm (by decide +kernel) (pa_cons wpE.pe pa_nil hst) (by decide) (by decide) hst) (ha C H σ S _ fun v C1 H1 x1 i1 => by
    rw [show v = V.int i from i1]
    exact .inl ⟨i, rfl, q _ C1 H1 x1 rfl⟩)
end
section
variable {P : Program} {w : World} {K : PySem.W.Frag} {mg : Str → Option Value} {base : Heap}
def spPot (P : Program) (w : World) (K : PySem.W.Frag) : Sp := fun vs H Q _ => ∃ (C : Hp) (a : Addr) (ns : List Int) (k : Nat), vs = [.ref a, .int (k : Nat)] ∧ SqL K C a (ns.map .int) ∧ k < 4 ∧ Le C H ∧ ∀ p C' H', Stp C H C' H' → H p = none → C' p = none → PotAt H' p → Q (.ref p) H'
abbrev nPot : List Str := ["_law_script", "_law_k", "_law_start"]
theorem ok_pot (T : Txt K mg) : OkD P w K mg base d_law_pot 2 ["_law_script", "_law_k"] (spPot P w K) := by
  have nd : nPot.Nodup := by decide +kernel
  refine okD_of (N := nPot) T.n_law_pot ⟨rfl, rfl, rfl, by decide +kernel, rfl, by decide +kernel, by decide +kernel⟩ (fun _ _ _ _ _ _ us hl => match us, hl with | [_, _], _ => rfl) (fun vs H Q E h => ?_) fun cdv A outer s H vs Q E hr h => ?_
  · obtain ⟨C, a, ns, k, rfl, _⟩ := h; rfl
  obtain ⟨C, a, ns, k, rfl, hq, hk, lc, q⟩ := h
  have S0 : SWx (PX P w K mg base nPot d_law_pot cdv A outer s H E) (fun _ => False) H C H (L2.start nPot [.ref a, .int (k : Nat)]) [scr K a ns, .d (intD k), .un] := by
    refine ⟨fun _ => [], lc, rfl, fun j s e => ?_, fun _ => List.nodup_nil, fun _ _ _ _ h => by simp at h, fun _ _ h => by simp at h, fun _ _ => rfl⟩
    match j, e with
    | 0, e => cases e; exact ⟨rfl, rfl, fun C' l => scrCore (fun a o _ h => l.ex a o h) hq⟩
    | 1, e => cases e; exact ⟨rfl, _, rfl, rfl⟩
    | 2, e => cases e; exact rfl
    | j + 3, e => simp at e
  have a1 : S1 (PX P w K mg base nPot d_law_pot cdv A outer s H E) (d_law_pot.body[0]'(by decide +kernel)) [scr K a ns, .d (intD k), .un] (fun r => ∃ ds', r = .nx ds' ∧ ∃ z, ds' = [scr K a ns, .d (intD k), .d (.int z)]) :=
    .asg 2 nd (EvD.o (.add (.bin (i := 211) op_mul .int (.var 1 rfl) (.inl ⟨by decide, by decide⟩)) .int)) ⟨_, rfl, _, rfl⟩
  refine a1.open (rest := [d_law_pot.body[1]'(by decide +kernel), d_law_pot.body[2]'(by decide +kernel)]) (.refl lc) S0 ?_
  rintro ds1 C1 H1 σ1 ⟨z1, rfl⟩ x1 S1'
  have a2 : S1 (PX P w K mg base nPot d_law_pot cdv A outer s H E) (d_law_pot.body[1]'(by decide +kernel)) [scr K a ns, .d (intD k), .d (.int z1)] (fun r => ∃ ds', r = .nx ds' ∧ ∃ z, ds' = [scr K a ns, .d (intD k), .d (.int z)]) := by
    refine .ifs (.cmp (.lt (.var 1 rfl) (.lenV 0 rfl T.f_len))) (fun h => ?_) fun h => .nil ⟨_, rfl, _, rfl⟩
    have h := of_decide_eq_true h
    have hl : k < ns.length := by omega
    exact .cons (.asg 2 nd (EvD.o (.abs (.ixV 0 rfl (.var 1 rfl) (List.getElem?_eq_getElem hl)) T.f_abs)) (.nil ⟨_, rfl, _, rfl⟩))
  refine a2.open (rest := [d_law_pot.body[2]'(by decide +kernel)]) x1 S1' ?_
  rintro ds2 C2 H2 σ2 ⟨z, rfl⟩ x2 S2
  refine pssW (pss_cons wpS.ps wpSs.pss) (psW (ps_ret wpE.pe) ?_)
  refine EvO.run (s := .ol [.int (if z - 10 ^ Int.toNat 18 > 0 then z - 10 ^ Int.toNat 18 else 0), .int ((z % 2147483587 * 48271 + 9176 * ((k : Nat) : Int) + 4421) % 2147483629 + 1)]) (.lstA (.cons (.max2 rfl .int (.sub (.var 2 rfl) (.bin (i := 10) (j := 18) op_pow .int .int ⟨by decide, by decide, by decide⟩)) T.f_max) (.cons (.add (.bin op_mod (.int1 (.add (.add (.bin (j := 48271) op_mul (.bin op_mod (.int1 (.var 2 rfl) T.f_int) .int (show (0 : Int) < 2147483587 by decide)) .int (.inr ⟨by decide, by decide⟩)) (.bin (i := 9176) op_mul .int (.var 1 rfl) (.inl ⟨by decide, by decide⟩))) .int) T.f_int) .int (show (0 : Int) < 2147483629 by decide)) .int) .nil)) (show 2 ≤ 100000 by decide)) S2.sd fun v C3 H3 fp x3 i3 n3 f3 => ?_
  obtain ⟨p, vs, rfl, ev, c3, h3, il⟩ := i3
  cases ev
  have x23 := (x2.trans x3.w).stp fun a z => z
  refine q p C3 H3 x23 (gone (W := fun _ => False) x2 (f3 p (by simp))) c3 ?_
  obtain ⟨u1, u2, rfl, i1, i2⟩ := IsL.two' il
  rw [show u1 = V.int _ from i1, show u2 = V.int _ from i2] at h3
  refine ⟨_, _, ?_, h3⟩
  have h1 := Int.emod_nonneg (z % 2147483587 * 48271 + 9176 * ((k : Nat) : Int) + 4421) (show (2147483629 : Int) ≠ 0 by decide)
  have h2 := Int.emod_lt_of_pos (z % 2147483587 * 48271 + 9176 * ((k : Nat) : Int) + 4421) (show (0 : Int) < 2147483629 by decide)
  constructor <;> omega
end
end K66
set_option maxHeartbeats 4000000
namespace K66
variable [TabAt]
open PySem PySem.Spec PyProof.Rows L2
def optLe : Option Nat → Nat → Bool
  | some g, m => decide (g ≤ m)
  | none, _ => false
theorem find_le {p : Nat → Bool} {L : Nat} (mono : ∀ a b, a ≤ b → b ≤ L → p a = true → p b = true) {m : Nat} (hm : m ≤ L) : p m = optLe ((List.range (L + 1)).find? p) m := by
  cases e : (List.range (L + 1)).find? p with
  | none =>
    have := List.find?_eq_none.mp e m (List.mem_range.mpr (by omega))
    simpa [optLe] using this
  | some g =>
    have h1 := List.find?_some e
    have h2 := List.mem_range.mp (List.mem_of_find?_eq_some e)
    rw [Bool.eq_iff_iff]
    show p m = true ↔ decide (g ≤ m) = true
    rw [decide_eq_true_eq]
    constructor
    · intro h
      refine Classical.byContradiction fun z => ?_
      obtain ⟨_, as, bs, e1, e2⟩ := List.find?_eq_some_iff_append.mp e
      have hg : as.length = g := by
        have := congrArg (fun l => l[as.length]?) e1
        simp only [List.getElem?_append_right (Nat.le_refl _), Nat.sub_self, List.getElem?_cons_zero] at this
        have h3 := (List.getElem?_eq_some_iff.mp this)
        obtain ⟨h4, h5⟩ := h3
        rw [List.getElem_range] at h5
        exact h5
      have hm' : m ∈ as := by
        have : (List.range (L + 1))[m]? = some m := by rw [List.getElem?_range (by omega)]
        rw [e1, List.getElem?_append_left (by omega)] at this
        exact List.mem_of_getElem? this
      have := e2 m hm'
      rw [h] at this
      exact nomatch this
    · exact fun h => mono g m h hm h1
theorem mem_nums {B : List Rows} {h : Str} {q : Row} {i : Nat} : i ∈ numsWith B h q ↔ ∃ R, B[i]? = some R ∧ (rowAt R h).take q.length = q := by
  refine ⟨numsWith_lt, fun ⟨R, hR, e⟩ => List.mem_filterMap.mpr ⟨(R, i), ?_, by rw [if_pos (decide_eq_true e)]⟩⟩
  rw [List.mem_iff_getElem?]
  exact ⟨i, by rw [List.getElem?_zipIdx, hR]; simp⟩
theorem mem_alike {B : List Rows} {h : Str} {q : Row} {i : Nat} : i ∈ alikeTo B h q ↔ ∃ R, B[i]? = some R ∧ rowAt R h = q := by
  constructor
  · intro hi
    obtain ⟨p, hp, e⟩ := List.mem_filterMap.mp hi
    split at e
    · rename_i hk
      cases e
      obtain ⟨j, hj⟩ := List.mem_iff_getElem?.mp hp
      rw [List.getElem?_zipIdx] at hj
      cases hb : B[j]? with
      | none => rw [hb] at hj; simp at hj
      | some R =>
        rw [hb] at hj
        simp at hj
        obtain ⟨rfl⟩ := hj
        exact ⟨R, by simpa using hb, of_decide_eq_true hk⟩
    · cases e
  · rintro ⟨R, hR, e⟩
    refine List.mem_filterMap.mpr ⟨(R, i), ?_, by rw [if_pos (decide_eq_true e)]⟩
    rw [List.mem_iff_getElem?]
    exact ⟨i, by rw [List.getElem?_zipIdx, hR]; simp⟩
theorem zip_nd {α : Type} (l : List α) : ∀ n, (l.zipIdx n).Pairwise (fun a b => a.2 ≠ b.2) ∧ ∀ p ∈ l.zipIdx n, n ≤ p.2 := by
  induction l with
  | nil => exact fun n => ⟨.nil, fun p h => by simp at h⟩
  | cons x l ih =>
    intro n
    rw [List.zipIdx_cons]
    obtain ⟨h1, h2⟩ := ih (n + 1)
    refine ⟨.cons (fun p hp => ?_) h1, fun p hp => ?_⟩
    · have := h2 p hp; show n ≠ p.2; omega
    · rcases List.mem_cons.mp hp with e | e
      · rw [e]; exact Nat.le_refl _
      · have := h2 p e; omega
theorem fm_nd {α : Type} {l : List (α × Nat)} (h : l.Pairwise fun a b => a.2 ≠ b.2) (c : α × Nat → Bool) : (l.filterMap fun p => if c p = true then some p.2 else none).Nodup := by
  induction h with
  | nil => exact List.nodup_nil
  | @cons a l ha _ ih =>
    rw [List.filterMap_cons]
    by_cases z : c a = true
    · rw [if_pos z]
      refine List.nodup_cons.mpr ⟨fun hm => ?_, ih⟩
      obtain ⟨p, hp, e⟩ := List.mem_filterMap.mp hm
      split at e
      · exact ha p hp (Option.some.inj e).symm
      · cases e
    · rw [if_neg z]; exact ih
theorem nums_nd (B : List Rows) (h : Str) (q : Row) : (numsWith B h q).Nodup := fm_nd (zip_nd B 0).1 fun p => decide ((rowAt p.1 h).take q.length = q)
theorem alike_nd (B : List Rows) (h : Str) (q : Row) : (alikeTo B h q).Nodup := fm_nd (zip_nd B 0).1 fun p => decide (rowAt p.1 h = q)
theorem one_of {l : List Nat} {n : Nat} (hn : l.Nodup) (hm : n ∈ l) : l = [n] ↔ ∀ i ∈ l, i = n := by
  constructor
  · intro e i hi; rw [e] at hi; exact List.mem_singleton.mp hi
  · intro h
    match l, hn, hm, h with
    | [], _, hm, _ => simp at hm
    | [a], _, _, h => rw [h a (by simp)]
    | a :: b :: l, hn, _, h =>
      have h1 := h a (by simp)
      have h2 := h b (by simp)
      rw [List.nodup_cons] at hn
      exact absurd (by rw [h1, h2]; simp) hn.1
theorem len_one {l : List Nat} {n : Nat} (hm : n ∈ l) : l.length = 1 ↔ l = [n] := by
  constructor
  · intro h
    obtain ⟨a, rfl⟩ := List.length_eq_one_iff.mp h
    rw [List.mem_singleton.mp hm]
  · intro h; rw [h]; rfl
section
variable {B : List Rows} {h : Str} {n : Nat} {R : Rows}
theorem self_nums (hR : B[n]? = some R) (m : Nat) : n ∈ numsWith B h ((rowAt R h).take m) :=
  mem_nums.mpr ⟨R, hR, by rw [List.length_take, List.take_eq_take_iff]; omega⟩
theorem nums_anti {r : Row} {a b i : Nat} (hab : a ≤ b) (hb : b ≤ r.length) (hi : i ∈ numsWith B h (r.take b)) : i ∈ numsWith B h (r.take a) := by
  obtain ⟨R', hR, e⟩ := mem_nums.mp hi
  refine mem_nums.mpr ⟨R', hR, ?_⟩
  rw [List.length_take, Nat.min_eq_left hb] at e
  rw [List.length_take, Nat.min_eq_left (by omega)]
  have := congrArg (List.take a) e
  rwa [List.take_take, List.take_take, Nat.min_eq_left hab] at this
/-- all that still may be have this row -/
theorem sureOk_iff {r : Row} {m : Nat} : sureOk B h r m = true ↔ ∀ i ∈ numsWith B h (r.take m), rowAt (B.getD i []) h = r := by
  unfold sureOk
  rw [List.all_eq_true]
  exact ⟨fun z i hi => of_decide_eq_true (z i hi), fun z i hi => decide_eq_true (z i hi)⟩
theorem near_le {r : Row} {m : Nat} (hm : m ≤ r.length) : sureOk B h r m = optLe (sureRow B h r) m :=
  find_le (fun a b hab hb ha => sureOk_iff.mpr fun i hi => sureOk_iff.mp ha i (nums_anti hab hb hi)) hm
theorem far_le (hR : B[n]? = some R) {m : Nat} (hm : m ≤ (rowAt R h).length) : decide (numsWith B h ((rowAt R h).take m) = [n]) = optLe (surePic B h (rowAt R h)) m := by
  have e : ∀ m, decide (numsWith B h ((rowAt R h).take m) = [n]) = sureOne B h (rowAt R h) m := fun m => by
    unfold sureOne
    rw [Bool.eq_iff_iff, decide_eq_true_eq, decide_eq_true_eq]
    exact (len_one (self_nums hR m)).symm
  rw [e]
  refine find_le (fun a b hab hb ha => ?_) hm
  rw [← e, decide_eq_true_eq] at ha ⊢
  rw [one_of (nums_nd _ _ _) (self_nums hR _)] at ha ⊢
  exact fun i hi => ha i (nums_anti hab hb hi)
theorem getD_of {i : Nat} {R' : Rows} (h : B[i]? = some R') : B.getD i [] = R' := by rw [List.getD_eq_getElem?_getD, h]; rfl
theorem near_none (hR : B[n]? = some R) : isNon (optD (sureRow B h (rowAt R h))) = waitB (rowSet (colOf B h)) (rowAt R h) := by
  have h1 := near_le (B := B) (h := h) (r := rowAt R h) (Nat.le_refl _)
  have h2 : isNon (optD (sureRow B h (rowAt R h))) = !sureOk B h (rowAt R h) (rowAt R h).length := by
    rw [h1]
    cases e : sureRow B h (rowAt R h) with
    | none => rfl
    | some g =>
      have := List.mem_range.mp (List.mem_of_find?_eq_some e)
      show false = !decide (g ≤ _)
      rw [decide_eq_true (by omega)]; rfl
  rw [h2, Bool.eq_iff_iff, Bool.not_eq_true', Bool.eq_false_iff, ne_eq, sureOk_iff]
  unfold waitB
  rw [List.any_eq_true]
  rw [List.take_length]
  constructor
  · intro z
    obtain ⟨i, hi, hne⟩ : ∃ i, i ∈ numsWith B h (rowAt R h) ∧ rowAt (B.getD i []) h ≠ rowAt R h := Classical.byContradiction fun k => z fun i hi => Classical.byContradiction fun ne => k ⟨i, hi, ne⟩
    obtain ⟨R', hR', e⟩ := mem_nums.mp hi
    rw [getD_of hR'] at hne
    refine ⟨rowAt R' h, mem_rowSet.mpr (List.mem_map.mpr ⟨R', List.mem_of_getElem? hR', rfl⟩), ?_⟩
    rw [Bool.and_eq_true, decide_eq_true_eq, decide_eq_true_eq]
    refine ⟨?_, e⟩
    refine Classical.byContradiction fun k => hne ?_
    rw [List.take_of_length_le (by omega)] at e
    exact e
  · rintro ⟨o, ho, hk⟩ z
    rw [Bool.and_eq_true, decide_eq_true_eq, decide_eq_true_eq] at hk
    obtain ⟨R', hR', rfl⟩ := List.mem_map.mp (mem_rowSet.mp ho)
    obtain ⟨i, hi⟩ := List.mem_iff_getElem?.mp hR'
    have := z i (mem_nums.mpr ⟨R', hi, hk.2⟩)
    rw [getD_of hi] at this
    have h3 := hk.1
    rw [this] at h3
    omega
theorem wait_mem {hs : List Str} (hh : h ∈ hs) (hR : B[n]? = some R) : (h, rowAt R h) ∈ waitersB hs B ↔ waitB (rowSet (colOf B h)) (rowAt R h) = true := by
  unfold waitersB rbh
  rw [List.mem_flatMap]
  constructor
  · rintro ⟨p, hp, hm⟩
    obtain ⟨x, hx, rfl⟩ := List.mem_map.mp hp
    obtain ⟨r, hr, e⟩ := List.mem_map.mp hm
    obtain ⟨e1, e2⟩ := Prod.mk.inj e
    try dsimp only at e1
    subst e1 e2
    exact (List.mem_filter.mp hr).2
  · intro hw
    refine ⟨(h, rowSet (colOf B h)), List.mem_map.mpr ⟨h, hh, rfl⟩, List.mem_map.mpr ⟨rowAt R h, List.mem_filter.mpr ⟨mem_rowSet.mpr (List.mem_map.mpr ⟨R, List.mem_of_getElem? hR, rfl⟩), hw⟩, rfl⟩⟩
theorem far_none (hR : B[n]? = some R) : isNon (optD (surePic B h (rowAt R h))) = (isNon (optD (sureRow B h (rowAt R h))) || !decide (alikeTo B h (rowAt R h) = [n])) := by
  have h1 := far_le (h := h) hR (Nat.le_refl _)
  have h2 : isNon (optD (surePic B h (rowAt R h))) = !decide (numsWith B h (rowAt R h) = [n]) := by
    rw [List.take_length] at h1
    rw [h1]
    cases e : surePic B h (rowAt R h) with
    | none => rfl
    | some g =>
      have := List.mem_range.mp (List.mem_of_find?_eq_some e)
      show false = !decide (g ≤ _)
      rw [decide_eq_true (by omega)]; rfl
  rw [h2, near_none hR, Bool.eq_iff_iff, Bool.or_eq_true, Bool.not_eq_true', Bool.not_eq_true', decide_eq_false_iff_not, decide_eq_false_iff_not]
  have hs := self_nums (h := h) hR (rowAt R h).length
  rw [List.take_length] at hs
  rw [one_of (nums_nd _ _ _) hs, one_of (alike_nd _ _ _) (mem_alike.mpr ⟨R, hR, rfl⟩)]
  constructor
  · intro z
    refine Classical.byContradiction fun k => ?_
    rw [not_or] at k
    obtain ⟨k1, k2⟩ := k
    refine z fun i hi => ?_
    obtain ⟨R', hR', e⟩ := mem_nums.mp hi
    refine Classical.byContradiction fun ne => k2 fun al => ne (al i (mem_alike.mpr ⟨R', hR', ?_⟩))
    refine Classical.byContradiction fun hne => k1 ?_
    unfold waitB
    rw [List.any_eq_true]
    refine ⟨rowAt R' h, mem_rowSet.mpr (List.mem_map.mpr ⟨R', List.mem_of_getElem? hR', rfl⟩), ?_⟩
    rw [Bool.and_eq_true, decide_eq_true_eq, decide_eq_true_eq]
    refine ⟨Classical.byContradiction fun k => hne ?_, e⟩
    rw [List.take_of_length_le (by omega)] at e
    exact e
  · rintro (hw | hal) z
    · unfold waitB at hw
      obtain ⟨o, ho, hk⟩ := List.any_eq_true.mp hw
      rw [Bool.and_eq_true, decide_eq_true_eq, decide_eq_true_eq] at hk
      obtain ⟨R', hR', rfl⟩ := List.mem_map.mp (mem_rowSet.mp ho)
      obtain ⟨i, hi⟩ := List.mem_iff_getElem?.mp hR'
      have := z i (mem_nums.mpr ⟨R', hi, hk.2⟩)
      subst this
      rw [hR] at hi
      cases hi
      omega
    · refine hal fun i hi => z i ?_
      obtain ⟨R', hR', e⟩ := mem_alike.mp hi
      exact mem_nums.mpr ⟨R', hR', by rw [e, List.take_length]⟩
theorem far_near (hR : B[n]? = some R) {f : Nat} (hf : surePic B h (rowAt R h) = some f) : ∃ g, sureRow B h (rowAt R h) = some g ∧ g ≤ f := by
  have hlt := List.mem_range.mp (List.mem_of_find?_eq_some hf)
  have h1 := far_le (h := h) hR (m := f) (by omega)
  rw [hf] at h1
  have h1 : numsWith B h ((rowAt R h).take f) = [n] := of_decide_eq_true (h1.trans (decide_eq_true (Nat.le_refl f)))
  have h2 : sureOk B h (rowAt R h) f = true := sureOk_iff.mpr fun i hi => by
    rw [h1] at hi
    rw [List.mem_singleton.mp hi, getD_of hR]
  rw [near_le (by omega)] at h2
  cases e : sureRow B h (rowAt R h) with
  | none => rw [e] at h2; exact nomatch h2
  | some g => rw [e] at h2; exact ⟨g, rfl, of_decide_eq_true h2⟩
end
end K66
set_option maxHeartbeats 4000000
namespace K66
variable [TabAt]
open PySem PySem.Spec PyProof.Rows L2
theorem pln_ints (l : List Nat) (n : Nat) (hn : n ≠ 0) : pln (.lst (l.map intD)) n = true := by
  show (decide (n ≠ 0) && plnL (l.map intD) (n - 1)) = true
  rw [decide_eq_true hn, Bool.true_and]
  induction l with
  | nil => rfl
  | cons x l ih => exact ih
theorem ints_inj {l m : List Nat} (h : l.map intD = m.map intD) : l = m := map_inj' (fun a b e => by have := Dt.int.inj e; omega) h
theorem fm_le {α β : Type} (l : List α) (f : α → Option β) : (l.filterMap f).length ≤ l.length := List.length_filterMap_le ..
theorem nums_le (B : List Rows) (h : Str) (q : Row) : (numsWith B h q).length ≤ B.length := by unfold numsWith; have := fm_le B.zipIdx (fun p => if decide ((rowAt p.1 h).take q.length = q) = true then some p.2 else none); rwa [List.length_zipIdx] at this
theorem alikes_le (B : List Rows) (h : Str) (q : Row) : (alikeTo B h q).length ≤ B.length := by unfold alikeTo; have := fm_le B.zipIdx (fun p => if decide (rowAt p.1 h = q) = true then some p.2 else none); rwa [List.length_zipIdx] at this
theorem wD_pln {hs : List Str} {B : List Rows} (hB : Bk' hs B) (hnm : ∀ x ∈ hs, isNm x = true) : plnL ((waitersB hs B).map wD) 20 = true := by
  have one : ∀ p ∈ waitersB hs B, pln (wD p) 20 = true := fun p hp => by
    obtain ⟨q, hq, hm⟩ := List.mem_flatMap.mp hp
    obtain ⟨h, hh, rfl⟩ := List.mem_map.mp hq
    obtain ⟨r, hr, rfl⟩ := List.mem_map.mp hm
    have h1 := (col_nm hB hh (List.mem_filter.mp hr).1).1
    show (true && (PyData.strOk h && (plnL (r.map dD) 18 && true))) = true
    rw [nm_str (hnm h hh), plnL_row h1 18 (by omega)]; rfl
  have go : ∀ l : List (Str × Row), (∀ p ∈ l, pln (wD p) 20 = true) → plnL (l.map wD) 20 = true := fun l => by
    induction l with
    | nil => exact fun _ => rfl
    | cons p l ih =>
      intro one
      show (pln (wD p) 20 && plnL (l.map wD) 20) = true
      rw [one p List.mem_cons_self, ih fun q hq => one q (List.mem_cons_of_mem _ hq)]; rfl
  exact go _ one
theorem wD_inj {a b : Str × Row} (h : wD a = wD b) : a = b := by
  obtain ⟨a1, a2⟩ := a
  obtain ⟨b1, b2⟩ := b
  have h := List.cons.inj (Dt.tup.inj h)
  have e1 := Dt.str.inj h.1
  have e2 := rL_inj (List.cons.inj h.2).1
  subst e1 e2
  rfl
theorem begun_at {B : List Rows} {h : Str} {R : Rows} (hR : R ∈ B) (m : Nat) : begun B h ((rowAt R h).take m) = true := by
  unfold begun
  rw [List.any_eq_true]
  exact ⟨rowAt R h, mem_rowSet.mpr (List.mem_map.mpr ⟨R, hR, rfl⟩), decide_eq_true (by rw [List.length_take, List.take_eq_take_iff]; omega)⟩
theorem optLe_and {o : Option Nat} {i : Nat} : (!isNon (optD o) && optLe o i) = optLe o i := by cases o <;> rfl
theorem opt_int {o : Option Nat} (h : (!isNon (optD o)) = true) : ∃ f, o = some f ∧ optD o = intD f := by
  cases o with
  | none => exact nomatch h
  | some f => exact ⟨f, rfl, rfl⟩
section
variable {P : Program} {w : World} {K : PySem.W.Frag} {mg : Str → Option Value} {base : Heap}
/-- what the law asks of a machine -/
structure MchLaw (rows : List Row) : Prop where
  few : rowsFew rows
  ok : mchOk (mach rows)
  reads : ∀ r ∈ rows, readsB (mach rows) r = true
def p_handRight (K : PySem.W.Frag) : List Dt → Dt → Prop := fun as r => ∃ (hs : List Str) (B : List Rows) (h : Str), as = [bookD K B, .str h, .lst ((waitersB hs B).map wD)] ∧ Bk' hs B ∧ B.length ≤ 4 ∧ (∀ x ∈ hs, isNm x = true) ∧ h ∈ hs ∧ MchLaw (rowSet (colOf B h)) ∧ r = .bl true
abbrev nHR : List Str := ["_law_book_here", "_law_hand", "_law_waiting", "_law_number", "_law_picture", "_law_row", "_law_near", "_law_far", "_law_like", "_law_many", "_law_some", "_law_one"]
theorem ok_handRight (T : Txt K mg) (L : LamT K mg base) : OkD P w K mg base d_law_hand_right 7 ["_law_book_here", "_law_hand", "_law_waiting"] (spD P w (p_handRight K)) := by
  have nd : nHR.Nodup := by decide +kernel
  refine okD_pure (N := nHR) T.n_law_hand_right ⟨rfl, rfl, rfl, by decide +kernel, rfl, by decide +kernel, by decide +kernel⟩ (fun _ _ _ _ _ _ us hl => match us, hl with | [_, _, _], _ => rfl) ?_
  rintro as r ⟨hs, B, h, rfl, hB, h4, hnm, hh, ml, rfl⟩
  refine ⟨rfl, fun cdv A outer sh H E hr => ?_⟩
  have hu : (PX P w K mg base nHR d_law_hand_right cdv A outer sh H E).A.units + 64 < cLine := hr.units
  have hu5 : (PX P w K mg base nHR d_law_hand_right cdv A outer sh H E).A.units + 65 < cLine := by have := hr.un; show (A.deeper _).units + 65 < cLine; omega
  refine .cons (.loopT (enc := fun p : Rows × Nat => .tup [.int (p.2 : Nat), picD K p.1]) (ys := B.zipIdx) (fun i ds => ∃ s3 s4 s5 s6 s7 s8 s9 s10 s11, ds = [.d (bookD K B), .d (.str h), .d (.lst ((waitersB hs B).map wD)), s3, s4, s5, s6, s7, s8, s9, s10, s11]) rfl (.cast' (.enum (xs := B.map (picD K)) (.meth0 (f := "own_pictures") (d := .tup (B.map (picD K))) (z := .lst (B.map (picD K))) (ok_Bpics T) (.var 0 rfl) (He.cls_ok T.cls_Book) (He.meth_ok T.meth_Book_pictures) (hr.mono (by decide)) ⟨B, rfl, rfl⟩) T.f_enumerate) ?_) ⟨.un, .un, .un, .un, .un, .un, .un, .un, .un, rfl⟩ ?_ ?_)
  · unfold enumD
    rw [List.zipIdx_map, List.map_map]; rfl
  · rintro i ⟨R, n⟩ ds1 hx ⟨s3, s4, s5, s6, s7, s8, s9, s10, s11, rfl⟩
    have hR : B[n]? = some R := by
      rw [List.getElem?_zipIdx] at hx
      cases hb : B[i]? with
      | none => rw [hb] at hx; simp at hx
      | some R' =>
        rw [hb] at hx
        simp at hx
        obtain ⟨rfl, rfl⟩ := hx
        exact hb
    have hRm := List.mem_of_getElem? hR
    obtain ⟨a1, a2, a3⟩ := hB.at_ hRm hh
    refine ⟨_, _, .tup rfl (.cons (.name 3 nd) (.cons (.name 4 nd) .nil)), ?_⟩
    refine .cons (.asg 5 nd (.of (.meth (f := "own_rows") (d := sD rT R) (z := rL (rowAt R h)) (ok_Prow T) (.var 4 rfl) (He.cls_ok T.cls_Picture) (He.meth_ok T.meth_Picture_row) (hr.mono (by decide)) (.cons (.var 1 rfl) .nil) ⟨R, h, _, rfl, rowAt_get a3, rfl⟩)) ?_)
    refine .cons (.par (i := 6) (j := 7) rfl nd (s := .d (optD (sureRow B h (rowAt R h)))) (t := .d (optD (surePic B h (rowAt R h)))) (.of (.call (ok_sureRow T) T.g_sure_of_row hr (.cons (.var 0 rfl) (.cons (.var 3 rfl) (.cons (.var 1 rfl) .nil))) ⟨hs, B, n, R, h, rfl, hB, hR, hh, rfl⟩)) (.of (.call (ok_surePic T) T.g_sure_of_picture hr (.cons (.var 0 rfl) (.cons (.var 3 rfl) (.cons (.var 1 rfl) .nil))) ⟨hs, B, n, R, h, rfl, hB, hR, hh, rfl⟩)) ?_)
    refine .cons (.asg 8 nd (.of (.call (z := .lst ((alikeTo B h (rowAt R h)).map intD)) (ok_alike T) T.g_alike_to hr (.cons (.var 0 rfl) (.cons (.var 3 rfl) (.cons (.var 1 rfl) .nil))) ⟨hs, B, n, R, h, rfl, hB, hR, hh, rfl⟩)) ?_)
    have c1 : (isNon (optD (sureRow B h (rowAt R h))) != decide ((h, rowAt R h) ∈ waitersB hs B)) = false := by
      rw [near_none hR]
      have := wait_mem hh (h := h) hR
      cases e : waitB (rowSet (colOf B h)) (rowAt R h) with
      | true => rw [decide_eq_true (this.mpr e)]; rfl
      | false => rw [decide_eq_false fun z => by rw [this.mp z] at e; exact nomatch e]; rfl
    have c2 : (isNon (optD (surePic B h (rowAt R h))) != (isNon (optD (sureRow B h (rowAt R h))) || !decide (alikeTo B h (rowAt R h) = [n]))) = false := by
      rw [far_none hR]
      cases (isNon (optD (sureRow B h (rowAt R h))) || !decide (alikeTo B h (rowAt R h) = [n])) <;> rfl
    have inal : n ∈ alikeTo B h (rowAt R h) := mem_alike.mpr ⟨R, hR, rfl⟩
    refine .cons (.ifs (k := false) (.bool (.or (x := false) (y := false) (.cmp (.cast (.neB (.cmp (.isN (.var 6 rfl))) (.cmp (.inL (x := wD (h, rowAt R h)) hu5 (.tup (.cons (.var 1 rfl) (.cons (.var 5 rfl) .nil)) (show 2 ≤ 100000 by decide)) (.var 2 rfl) ?_ (wD_pln hB hnm) (k := decide ((h, rowAt R h) ∈ waitersB hs B)) ?_))) c1)) (fun _ => .or1 (.cmp (.cast (.neB (.cmp (.isN (.var 7 rfl))) (.or (.cmp (.isN (.var 6 rfl))) fun _ => .one (.cmp (.ne (x := .lst ((alikeTo B h (rowAt R h)).map intD)) (y := .lst ([n].map intD)) hu (.var 8 rfl) (.lst (.cons (.var 3 rfl) .nil) (show 1 ≤ 100000 by decide)) (pln_ints _ _ (by decide)) (pln_ints _ _ (by decide)) (k := !decide (alikeTo B h (rowAt R h) = [n])) ?_)))) c2))))) (fun z => nomatch z) fun _ => ?_)
    · show (true && (PyData.strOk h && (plnL ((rowAt R h).map dD) 18 && true))) = true
      rw [nm_str (hnm h hh), plnL_row a1 18 (by omega)]; rfl
    · rw [decide_eq_true_eq]
      exact ⟨fun z => List.mem_map.mpr ⟨_, z, rfl⟩, fun z => by
        obtain ⟨q, hq, e⟩ := List.mem_map.mp z
        rw [← wD_inj e]; exact hq⟩
    · rw [Bool.not_eq_true', decide_eq_false_iff_not]
      exact ⟨fun z e => z (ints_inj (Dt.lst.inj e)), fun z e => z (by rw [e])⟩
    refine .nil (.cons (.ifs (k := false) (.bool (.or (x := false) (y := false) (.bool (.cast (.and (x := !isNon (optD (surePic B h (rowAt R h)))) (y := false) (.cmp (.isNotN (.var 7 rfl))) fun hx => .and1 (.cmp ?_)) (Bool.and_false _))) (fun _ => .or1 (.cmp (.notInL (x := intD n) hu5 (.var 3 rfl) (.var 8 rfl) rfl ?_ ?_))))) (fun z => nomatch z) fun _ => ?_))
    · obtain ⟨f, e1, e2⟩ := opt_int hx
      obtain ⟨g, e3, hg⟩ := far_near hR e1
      exact .cast (.lt (.cast (.var 7 rfl) e2) (.cast (.var 6 rfl) (by rw [e3]; rfl : optD (sureRow B h (rowAt R h)) = intD g))) (decide_eq_false (by omega))
    · have := pln_ints (alikeTo B h (rowAt R h)) 21 (by decide)
      exact (Bool.and_eq_true_iff.mp (show (decide ((21 : Nat) ≠ 0) && plnL ((alikeTo B h (rowAt R h)).map intD) 20) = true from this)).2
    · refine ⟨fun z => (nomatch z), fun z => absurd (List.mem_map.mpr ⟨n, inal, rfl⟩) z⟩
    refine .nil (.cons (.loopT (enc := intD) (ys := List.range ((rowAt R h).length + 1)) (fun i ds => ∃ s9 s10 s11, ds = [.d (bookD K B), .d (.str h), .d (.lst ((waitersB hs B).map wD)), .d (intD n), .d (picD K R), .d (rL (rowAt R h)), .d (optD (sureRow B h (rowAt R h))), .d (optD (surePic B h (rowAt R h))), .d (.lst ((alikeTo B h (rowAt R h)).map intD)), s9, s10, s11]) rfl (.cast' (.rng1 (n := (rowAt R h).length + 1) (.cast (.add (.lenL (xs := (rowAt R h).map dD) (.var 5 rfl) T.f_len) .int) ?_) T.f_range (by omega)) rng0) ⟨s9, s10, s11, rfl⟩ ?_ ?_))
    · rw [List.length_map]; rfl
    · rintro i m ds1 hm ⟨t9, t10, t11, rfl⟩
      have hi : i < (rowAt R h).length + 1 := by have := (List.getElem?_eq_some_iff.mp hm).1; rwa [List.length_range] at this
      obtain rfl : i = m := by
        rw [List.getElem?_range hi] at hm
        exact Option.some.inj hm
      refine ⟨_, _, .name 9 nd, ?_⟩
      refine .cons (.asg 10 nd (.of (.call (z := .lst ((numsWith B h ((rowAt R h).take i)).map intD)) (ok_poss T) T.g_possible_to (hr.mono (by decide)) (.cons (.var 0 rfl) (.cons (.var 1 rfl) (.cons (.headL (xs := (rowAt R h).map dD) (n := i) (.var 5 rfl) (.var 9 rfl)) .nil))) ⟨hs, B, h, (rowAt R h).take i, by unfold rL; rw [List.map_take]; rfl, hB, h4, hh, rowNm_take a1 _, begun_at hRm i, rfl⟩)) ?_)
      have f1 := far_le (h := h) hR (m := i) (by omega)
      have n1 := near_le (B := B) (h := h) (r := rowAt R h) (m := i) (by omega)
      have e1 : (decide (numsWith B h ((rowAt R h).take i) = [n]) != (!isNon (optD (surePic B h (rowAt R h))) && optLe (surePic B h (rowAt R h)) i)) = false := by
        rw [optLe_and, f1]; cases optLe (surePic B h (rowAt R h)) i <;> rfl
      have e2 : (sureOk B h (rowAt R h) i != (!isNon (optD (sureRow B h (rowAt R h))) && optLe (sureRow B h (rowAt R h)) i)) = false := by
        rw [optLe_and, n1]; cases optLe (sureRow B h (rowAt R h)) i <;> rfl
      refine .cons (.ifs (k := false) (.cmp (.cast (.neB (x := decide (numsWith B h ((rowAt R h).take i) = [n])) (y := !isNon (optD (surePic B h (rowAt R h))) && optLe (surePic B h (rowAt R h)) i) (.cmp (.eq (x := .lst ((numsWith B h ((rowAt R h).take i)).map intD)) (y := .lst ([n].map intD)) hu (.var 10 rfl) (.lst (.cons (.var 3 rfl) .nil) (show 1 ≤ 100000 by decide)) (pln_ints _ _ (by decide)) (pln_ints _ _ (by decide)) ?_)) (.and (.cmp (.isNotN (.var 7 rfl))) fun hx => .one (.cmp ?_))) e1)) (fun z => nomatch z) fun _ => ?_)
      · rw [decide_eq_true_eq]
        exact ⟨fun z => by rw [z], fun z => ints_inj (Dt.lst.inj z)⟩
      · obtain ⟨f, g1, g2⟩ := opt_int hx
        refine .cast (.ge (.var 9 rfl) (.cast (.var 7 rfl) g2)) ?_
        rw [g1]
        show decide ((f : Int) ≤ (i : Nat)) = decide (f ≤ i)
        exact decide_eq_decide.mpr (by omega)
      refine .nil (.cons (.ifs (k := false) (.cmp (.cast (.neB (x := sureOk B h (rowAt R h) i) (y := !isNon (optD (sureRow B h (rowAt R h))) && optLe (sureRow B h (rowAt R h)) i) (.allm (ys := numsWith B h ((rowAt R h).take i)) (f := fun j => decide (rowAt (B.getD j []) h = rowAt R h)) rfl (.lcm (enc := intD) (own := [("_law_one", 11)]) rfl nd (.lst (.var 10 rfl)) (blk_of rfl) (by have := nums_le B h ((rowAt R h).take i); omega) fun j hj => ⟨_, [11], by simp, fun s H C cl fp => .name 11 nd, fun s H C cl fp => ?_⟩) T.f_all) (.and (.cmp (.isNotN (.var 6 rfl))) fun hx => .one (.cmp ?_))) e2)) (fun z => nomatch z) fun _ => ?_))
      · obtain ⟨R2, hR2, _⟩ := numsWith_lt hj
        obtain ⟨b1, b2, b3⟩ := hB.at_ (List.mem_of_getElem? hR2) hh
        rw [getD_of hR2]
        refine .cmp (.eq (x := rL (rowAt R2 h)) (y := rL (rowAt R h)) hu (.meth (f := "own_rows") (d := sD rT R2) (z := rL (rowAt R2 h)) (ok_Prow T) (.subOwn (f := "own_pictures") (d := .tup (B.map (picD K))) (ix := .int (j : Nat)) (z := picD K R2) T.n_Book_getitem (ok_Bget T) (.var 0 rfl) (.var 11 rfl) (He.meth_ok T.meth_Book_getitem) (hr.mono (by decide)) ⟨B, j, R2, rfl, hR2, rfl⟩) (He.cls_ok T.cls_Picture) (He.meth_ok T.meth_Picture_row) (hr.mono (by decide)) (.cons (.var 1 rfl) .nil) ⟨R2, h, _, rfl, rowAt_get b3, rfl⟩) (.var 5 rfl) (pln_rL b1) (pln_rL a1) ?_)
        rw [decide_eq_true_eq]
        exact ⟨fun z => by rw [z], fun z => rL_inj z⟩
      · obtain ⟨f, g1, g2⟩ := opt_int hx
        refine .cast (.ge (.var 9 rfl) (.cast (.var 6 rfl) g2)) ?_
        rw [g1]
        show decide ((f : Int) ≤ (i : Nat)) = decide (f ≤ i)
        exact decide_eq_decide.mpr (by omega)
      refine .nil (.cons (.ifs (k := false) (.cast (.not (.val (.allm (ys := alikeTo B h (rowAt R h)) (f := fun _ => true) rfl (.lcm (enc := intD) (own := [("_law_one", 11)]) rfl nd (.lst (.var 8 rfl)) (blk_of rfl) (by have := alikes_le B h (rowAt R h); omega) fun j hj => ⟨_, [11], by simp, fun s H C cl fp => .name 11 nd, fun s H C cl fp => .cmp (.inL (x := intD j) hu5 (.var 11 rfl) (.var 10 rfl) rfl ?_ ?_)⟩) T.f_all))) ?_) (fun z => nomatch z) fun _ => .nil (.nil ⟨_, _, _, rfl⟩)))
      · have := pln_ints (numsWith B h ((rowAt R h).take i)) 21 (by decide)
        exact (Bool.and_eq_true_iff.mp (show (decide ((21 : Nat) ≠ 0) && plnL ((numsWith B h ((rowAt R h).take i)).map intD) 20) = true from this)).2
      · refine ⟨fun _ => List.mem_map.mpr ⟨j, ?_, rfl⟩, fun _ => rfl⟩
        obtain ⟨R2, hR2, e⟩ := mem_alike.mp hj
        refine mem_nums.mpr ⟨R2, hR2, ?_⟩
        rw [e, List.length_take, List.take_eq_take_iff]; omega
      · rw [List.all_eq_true.mpr fun _ _ => rfl]; rfl
    · rintro ds' ⟨t9, t10, t11, rfl⟩
      refine .cons (.ifs (k := false) (.cmp (.cast (.isNotB (x := true) (y := true) (.call (ok_reads T) T.g_reads (hr.mono (by decide)) (.cons (.call (ok_mach T L) T.g_machine (hr.mono (by decide)) (.cons (.var 0 rfl) (.cons (.var 1 rfl) .nil)) ⟨hs, B, h, rfl, hB, h4, hh, ml.few, rfl⟩) (.cons (.var 5 rfl) .nil)) ⟨_, rowAt R h, rfl, ml.ok, a2, ?_⟩) .bl) rfl)) (fun z => nomatch z) fun _ => .nil (.nil ⟨_, _, _, _, _, _, _, _, _, rfl⟩))
      rw [ml.reads _ (mem_rowSet.mpr (List.mem_map.mpr ⟨R, hRm, rfl⟩))]
  · rintro ds' ⟨s3, s4, s5, s6, s7, s8, s9, s10, s11, rfl⟩
    exact .cons (.ret .bl rfl)
end
end K66
set_option maxHeartbeats 4000000
namespace PySem.W
open Lean Elab Tactic Meta PySem PySem.Calls PyProof.Rows PyProof.V PySem.Spec
section
variable {prog : Program} {w : World} {A : Around} {E : Value → Shared → Prop} {s : Shared}
theorem samePairsE {nm : String} {a b : Addr} {oa ob : Obj} {es es' : Array DictEntry} {ep ep' : Nat} {Q : Bool → Shared → Prop} (ha : (a == sysModules) = false) (hb : (b == sysModules) = false) (hoa : s.heap.get? a = some oa) (hda : oa.data = .dict es ep) (hob : s.heap.get? b = some ob) (hdb : ob.data = .dict es' ep') (h0 : es'.size = 0)
    (h : Q (decide (es.size = 0)) s) : wpAny (model prog w) A (Builtin.Dict.samePairs nm a b) Q E s := by
  unfold Builtin.Dict.samePairs Builtin.Dict.showsAll
  rw [if_neg (show ¬ (a == sysModules) = true by rw [ha]; exact Bool.false_ne_true), if_neg (show ¬ (b == sysModules) = true by rw [hb]; exact Bool.false_ne_true)]
  refine wpAny_bind (wpAny_pure (wpAny_bind (wpAny_pure ?_)))
  refine wpAny_bind (wpAny_dictEntries hoa hda ?_)
  dsimp only
  refine wpAny_bind (wpAny_dictEntries hob hdb ?_)
  by_cases hsz : es.size = es'.size
  case neg =>
    rw [if_pos (by simpa using hsz)]
    rw [decide_eq_false (by omega)] at h
    exact wpAny_bind (wpAny_rule (wpAny_pure h))
  case pos =>
    rw [decide_eq_true (by omega)] at h
    rw [if_neg (by rw [hsz]; simp)]
    refine wpAny_bind (wpAny_dictEpoch hoa hda ?_)
    refine wpAny_bind ?_
    rw [Std.Legacy.Range.forIn_eq_forIn_range']
    simp only [Std.Legacy.Range.size, Nat.sub_zero, Nat.add_sub_cancel, Nat.div_one]
    rw [show es.size = 0 by omega]
    exact wpAny_pure (wpAny_pure h)
theorem eqE {a b : Addr} {oa ob : Obj} {es es' : Array DictEntry} {ep ep' : Nat} {Q : Value → Shared → Prop} (ha : (a == sysModules) = false) (hb : (b == sysModules) = false) (hoa : s.heap.get? a = some oa) (xa : oa.ExactDict) (hda : oa.data = .dict es ep) (hob : s.heap.get? b = some ob) (xb : ob.ExactDict) (hdb : ob.data = .dict es' ep') (h0 : es'.size = 0)
    (hu : A.units < cLine) (h : Q (.bool (decide (es.size = 0))) s) : wpAny (model prog w) A (compareOp .Eq (.ref a) (.ref b)) Q E s := by
  have ta : s.TypeIs (.ref a) "dict" := ⟨_, hoa, xa.1⟩
  have tb : s.TypeIs (.ref b) "dict" := ⟨_, hob, xb.1⟩
  refine wpAny_richCompare_same_room (op := .Eq) ta tb PySem.F.slot_dict_eq (wpAny_call_entry PySem.F.slot_dict_eq ta PySem.F.entry_dict_eq ?_ (PySem.F.args_dict_eq_2 _ _)) hu
  show wpAny _ _ (Builtin.Dict.dictSlotArgs "__eq__" ⟨[.ref a, .ref b], []⟩ >>= _) _ _ s
  refine wpAny_bind ?_
  unfold Builtin.Dict.dictSlotArgs
  refine wpAny_bind (wpAny_notOrdered_dict ta ?_)
  show wpAny _ _ (pure (Value.ref a, Value.ref b)) _ _ s
  refine wpAny_pure ?_
  refine wpAny_bind (wpAny_isInstance (T := "dict") tb PySem.F.sub_dict_dict ?_)
  simp only [Bool.not_true, Bool.false_eq_true, if_false]
  refine wpAny_bind (wpAny_pure (wpAny_bind (wpAny_pure ?_)))
  refine wpAny_bind (samePairsE ha hb hoa hda hob hdb h0 ?_)
  refine wpAny_pure ⟨_, rfl, ?_, ?_⟩
  · exact fun x => nomatch x
  · simpa using h
theorem neE {a b : Addr} {oa ob : Obj} {es es' : Array DictEntry} {ep ep' : Nat} {Q : Value → Shared → Prop} (ha : (a == sysModules) = false) (hb : (b == sysModules) = false) (hoa : s.heap.get? a = some oa) (xa : oa.ExactDict) (hda : oa.data = .dict es ep) (hob : s.heap.get? b = some ob) (xb : ob.ExactDict) (hdb : ob.data = .dict es' ep') (h0 : es'.size = 0)
    (hu : A.units < cLine) (h : Q (.bool (!decide (es.size = 0))) s) : wpAny (model prog w) A (compareOp .NotEq (.ref a) (.ref b)) Q E s := by
  have ta : s.TypeIs (.ref a) "dict" := ⟨_, hoa, xa.1⟩
  have tb : s.TypeIs (.ref b) "dict" := ⟨_, hob, xb.1⟩
  refine wpAny_richCompare_same_room (op := .NotEq) ta tb PySem.F.slot_dict_ne (wpAny_call_entry PySem.F.slot_dict_ne ta PySem.F.entry_dict_ne ?_ (PySem.F.args_dict_ne_2 _ _)) hu
  show wpAny _ _ (Builtin.Dict.dictSlotArgs "__ne__" ⟨[.ref a, .ref b], []⟩ >>= _) _ _ s
  refine wpAny_bind ?_
  unfold Builtin.Dict.dictSlotArgs
  refine wpAny_bind (wpAny_notOrdered_dict ta ?_)
  show wpAny _ _ (pure (Value.ref a, Value.ref b)) _ _ s
  refine wpAny_pure ?_
  refine wpAny_bind (wpAny_isInstance (T := "dict") tb PySem.F.sub_dict_dict ?_)
  simp only [Bool.not_true, Bool.false_eq_true, if_false]
  refine wpAny_bind (wpAny_pure (wpAny_bind (wpAny_pure ?_)))
  refine wpAny_bind (samePairsE ha hb hoa hda hob hdb h0 ?_)
  refine wpAny_pure ⟨_, rfl, ?_, ?_⟩
  · exact fun x => nomatch x
  · simpa using h
end
end PySem.W
namespace K66
variable [TabAt]
open PySem PySem.Spec PyProof.Rows L2
/-- an empty dict stands there -/
def emptyAt (h : Heap) : Value → Bool
  | .ref a => match h.get? a with
    | some o => match o.data with
      | .dict es _ => decide (es.size = 0)
      | _ => false
    | none => false
  | _ => false
theorem raw_nd {P : Program} {w : World} {H : Hp} {h : Heap} {a : Addr} {xs : List NE} (ok : ObjOk P w H h a (ndO P w a xs)) : ∃ o es ep, h.get? a = some o ∧ o.ExactDict ∧ o.data = .dict es ep ∧ es.size = xs.length ∧ (a == sysModules) = false := by
  obtain ⟨⟨_, h2, _, o, es, ep, h3, h4, h5, h6⟩, _⟩ := ok
  refine ⟨o, es, ep, h3, h4, h5, ?_, h2⟩
  have := congrArg List.length h6
  rwa [List.length_map, Array.length_toList] at this
theorem emptyAt_of {h : Heap} {a : Addr} {o : Obj} {es : Array DictEntry} {ep : Nat} (h1 : h.get? a = some o) (h2 : o.data = .dict es ep) : emptyAt h (.ref a) = decide (es.size = 0) := by
  unfold emptyAt
  dsimp only
  rw [h1]
  dsimp only
  rw [h2]
def rNeE (P : Program) (w : World) : R2 := fun x y H Q => ∃ a b xs, x = .ref a ∧ y = .ref b ∧ a ≠ b ∧ Rd H a (ndO P w a xs) ∧ H b = some (ndO P w b []) ∧ Q (.bl (!decide (xs.length = 0))) H
theorem op_neE {X : Cx} (hu : X.A.units + 64 < cLine) : OpR X (compareOp .NotEq) (rNeE X.prog X.w) := by
  intro pins s σ H x y v u Q I rx ry h
  obtain ⟨a, b, xs, rfl, rfl, hne, ra, rb, q⟩ := h
  cases rx
  cases ry
  obtain ⟨oa, ea, pa, g1, g2, g3, g4, g5⟩ := raw_nd (rd_of I.hok ra)
  obtain ⟨ob, eb, pb, k1, k2, k3, k4, k5⟩ := raw_nd (I.hok _ _ rb)
  refine PySem.W.neE g5 k5 g1 g2 g3 k1 k2 k3 k4 (by omega) ?_
  rw [g4]
  exact ⟨.bl _, H, I, rfl, q⟩
def rCountE (P : Program) (w : World) : V → List V → Hp → VK → Prop := fun x ys H Q => ∃ (l b : Addr) (vs : List V) (ns : List Nat), x = .ref l ∧ ys = [.ref b] ∧ H l = some (.lst vs) ∧ H b = some (ndO P w b []) ∧ vs.length = ns.length ∧ (∀ (j : Nat) v n, vs[j]? = some v → ns[j]? = some n → ∃ a xs, v = .ref a ∧ a ≠ b ∧ Rd H a (ndO P w a xs) ∧ xs.length = n) ∧ Q (.int ((ns.countP fun n => decide (n = 0) : Nat))) H
theorem mt_countE {X : Cx} (hu : X.A.units + 65 < cLine) : MtR X "list.count" (rCountE X.prog X.w) := by
  intro pins s σ H x ys v us Q I rx rxs h
  obtain ⟨l, b, vs, ns, rfl, rfl, hl, hb, hlen, hv, q⟩ := h
  cases rx
  cases rxs with
  | cons ry rt =>
    cases rt
    cases ry
    obtain ⟨_, its, n, hvs, ho⟩ := I.hok _ _ hl
    obtain ⟨ob, eb, pb, k1, k2, k3, k4, k5⟩ := raw_nd (I.hok _ _ hb)
    have key : ∀ (j : Nat) u, its[j]? = some u → ∃ a oa ea pa m, u = .ref a ∧ a ≠ b ∧ s.heap.get? a = some oa ∧ oa.ExactDict ∧ oa.data = .dict ea pa ∧ ea.size = m ∧ (a == sysModules) = false ∧ ns[j]? = some m := fun j u hu' => by
      have hj := (List.getElem?_eq_some_iff.mp hu').1
      have hl1 := hvs.length
      have hx : vs[j]? = some (vs[j]'(by omega)) := List.getElem?_eq_getElem _
      have hn : ns[j]? = some (ns[j]'(by omega)) := List.getElem?_eq_getElem _
      obtain ⟨a, xs, e1, e2, e3, e4⟩ := hv j _ _ hx hn
      have r := paired_get hvs hx hu'
      rw [e1] at r
      cases r
      obtain ⟨oa, ea, pa, g1, g2, g3, g4, g5⟩ := raw_nd (rd_of I.hok e3)
      exact ⟨a, oa, ea, pa, _, rfl, e2, g1, g2, g3, g4.trans e4, g5, hn⟩
    refine call_meets PySem.F.slot_list_count ⟨_, ho, rfl⟩ PySem.F.entry_list_count (PySem.F.args_list_count_2 _ _) (SeqAt.list_countAt l its.toArray n none #[] (.ref b) (emptyAt s.heap)) ⟨ho, fun y hy => ?_, ?_⟩
    · obtain ⟨j, hj⟩ := List.mem_iff_getElem?.mp (show y ∈ its by simpa using hy)
      obtain ⟨a, oa, ea, pa, m, rfl, hne, g1, g2, g3, g4, g5, g6⟩ := key j y hj
      rw [emptyAt_of g1 g3]
      exact SeqAt.EqAt.of_refs hne (fun prog w E Q hq => PySem.W.eqE g5 k5 g1 g2 g3 k1 k2 k3 k4 (by show X.A.units + 1 < cLine; omega) hq)
    · have e : its.toArray.toList.countP (emptyAt s.heap) = ns.countP fun n => decide (n = 0) := by
        have e1 : its.map (emptyAt s.heap) = ns.map fun n => decide (n = 0) := by
          refine List.ext_getElem? fun j => ?_
          rw [List.getElem?_map, List.getElem?_map]
          cases hj : its[j]? with
          | none =>
            have h1 := List.getElem?_eq_none_iff.mp hj
            have hl1 := hvs.length
            rw [List.getElem?_eq_none (by omega)]; rfl
          | some u =>
            obtain ⟨a, oa, ea, pa, m, rfl, hne, g1, g2, g3, g4, g5, g6⟩ := key j u hj
            rw [g6]
            show some _ = some _
            rw [emptyAt_of g1 g3, g4]
        have e2 := congrArg (List.countP id) e1
        rw [List.countP_map, List.countP_map] at e2
        exact e2
      rw [e]
      exact ⟨.int _, H, I.tok _, ⟨_, rfl⟩, q⟩
end K66
set_option maxHeartbeats 4000000
namespace K66
variable [TabAt]
open PySem PySem.Spec PyProof.Rows L2
theorem isL_rev {P : Program} {w : World} {C : Hp} : ∀ {xs : List Dt} {vs : List V}, IsL P w C xs vs → IsL P w C xs.reverse vs.reverse
  | [], _, h => by rw [show _ = [] from h]; exact rfl
  | x :: xs, _, ⟨v, r, e, i, h⟩ => by
    subst e
    rw [List.reverse_cons, List.reverse_cons]
    exact (isL_rev h).app (.one i)
section
variable {X : Cx} {ds : List Sl} {e a b : Expr} {pos p pos' q1 q2 apos cpos : Pos}
/-- x != {} -/
theorem EvC.neNd {ks vs : List Dt} (hu : X.A.units + 64 < cLine) (ha : EvD X a ds (.nd ks vs)) : EvC X .NotEq a (.Dict [] [] q1) ds (!decide (ks.length = 0)) := fun C H σ S Q q =>
  pcW (pc_of (op_neE hu) wpE.pe wpE.pe) (ha C H σ S _ fun v C1 H1 x1 i1 => EvO.newN.run (S.mono x1) fun u C2 H2 fp x2 i2 n2 f2 => by
    obtain ⟨a1, o, xs, us, rfl, c1, k1, _, _⟩ := i1
    obtain ⟨b1, ys, us2, e2, e3, c2, h2, k2, _, _⟩ := i2
    cases e3
    have hys : ys = [] := k2
    subst hys
    have hb : H1 b1 = none := f2 b1 (by rw [e2]; simp)
    have ha1 : H1 a1 = some (.frz o (ndO X.prog X.w a1 xs)) := x1.le'.ex _ _ c1
    refine ⟨a1, b1, xs, rfl, rfl, (fun z => by rw [z, hb] at ha1; cases ha1), .inr ⟨o, x2.le'.ex _ _ (x2.le.ex _ _ c1)⟩, h2, ?_⟩
    rw [k1.len]
    exact q C2 H2 (x1.trans x2))
/-- x.count({}) -/
theorem EvD.countE {ls : List (List (Deed × Nat))} (hu : X.A.units + 65 < cLine) (ha : EvD X a ds (.lst (ls.map stD)))
    (hb : attributeBase a "count" X.env (eval a X.env) = eval a X.env := by rfl) (hfy : ((backTo cpos (starEach [Expr.Dict [] [] q1] X.env)).all (fun z => !z.1) && (backToKw cpos (keywordEach [] X.env)).all (fun z => z.1.isSome) && decide (([Expr.Dict [] [] q1] : List Expr).length + ([] : List Keyword).length + (if ([] : List Keyword).isEmpty then 0 else 1) < 30)) = true := by rfl) (hline : (apos.endLine == cpos.line) = true := by rfl)
    (hst : starEach [Expr.Dict [] [] q1] X.env = (false, eval (.Dict [] [] q1) X.env) :: starEach [] X.env := by rfl) : EvD X (.Call (.Attribute a "count" apos) [.Dict [] [] q1] [] cpos) ds (.int ((ls.countP fun l => decide (l = []) : Nat))) := fun C H σ S Q q =>
  peW (pe_bm PySem.F.plainAttrs_list PySem.F.slot_list_count PySem.F.type_list_count (mt_countE hu) wpE.pe (pa_cons wpE.pe pa_nil hst) hb hfy hline hst) (ha C H σ S _ fun v C1 H1 x1 i1 => by
    obtain ⟨l, vs, rfl, r1, j1⟩ := i1
    refine ⟨.inl ⟨rfl, vs, .inl (.inl (x1.le'.ex _ _ r1))⟩, EvO.newN.run (S.mono x1) fun u C2 H2 fp x2 i2 n2 f2 => ?_⟩
    obtain ⟨b1, ys, us2, e2, e3, c2, h2, k2, _, _⟩ := i2
    cases e3
    have hys : ys = [] := k2
    subst hys
    have hb : H1 b1 = none := f2 b1 (by rw [e2]; simp)
    refine ⟨l, b1, vs, ls.map (·.length), rfl, rfl, x2.le'.ex _ _ (x2.le.ex _ _ r1), h2, by rw [List.length_map, j1.len, List.length_map], fun j v n hv hn => ?_, ?_⟩
    · rw [List.getElem?_map] at hn
      obtain ⟨t, ht, rfl⟩ := Option.map_eq_some_iff.mp hn
      obtain ⟨v', hv', iv⟩ := j1.get (show (ls.map stD)[j]? = some (stD t) by rw [List.getElem?_map, ht]; rfl)
      rw [hv] at hv'
      cases hv'
      obtain ⟨a1, o, xs, us, rfl, c1, k1, _, _⟩ := iv
      have ha1 : H1 a1 = some (.frz o (ndO X.prog X.w a1 xs)) := x1.le'.ex _ _ c1
      refine ⟨a1, xs, rfl, (fun z => by rw [z, hb] at ha1; cases ha1), .inr ⟨o, x2.le'.ex _ _ (x2.le.ex _ _ c1)⟩, ?_⟩
      rw [k1.len, List.length_map]
    · have e : ((ls.map fun l => l.length).countP fun n => decide (n = 0)) = ls.countP fun l => decide (l = []) := by
        rw [List.countP_map]
        refine List.countP_congr fun l _ => ?_
        show (decide (l.length = 0) = true) ↔ (decide (l = []) = true)
        rw [decide_eq_true_eq, decide_eq_true_eq, List.length_eq_zero_iff]
      rw [e]
      exact q _ C2 H2 (x1.trans x2) rfl)
/-- x[::-1] -/
theorem EvD.revL {xs : List Dt} {k : Nat} {p1 p2 p3 : Pos} (ha : EvD X a ds (.lst xs)) : EvD X (.Subscript a (.Slice none none (some (.UnaryOp .USub (.Constant (.int 1) k p1) p2)) p3) pos) ds (.lst xs.reverse) := fun C H σ S Q q =>
  peW (pe_revL wpE.pe) (ha C H σ S _ fun v C1 H1 x1 i1 => by
    obtain ⟨l, vs, rfl, r1, j1⟩ := i1
    exact ⟨l, vs, rfl, .inl (.inl (x1.le'.ex _ _ r1)), fun p hp => q _ (upd C1 p (.lst vs.reverse)) _ (x1.trans (.new x1.le' hp)) (Is.lst' (IsL.mono (.new (x1.le'.dom p hp)) _ _ (isL_rev j1)))⟩)
end
end K66
set_option maxHeartbeats 4000000
namespace K66
variable [TabAt]
open PySem PySem.Spec PyProof.Rows L2
theorem dup_any {α : Type} (l : List α) [∀ p : α × Nat, Decidable (p.1 ∈ l.take p.2)] [Decidable l.Nodup] : (l.zipIdx.any fun p => decide (p.1 ∈ l.take p.2)) = !decide l.Nodup := by
  rw [Bool.eq_iff_iff, List.any_eq_true, Bool.not_eq_true', decide_eq_false_iff_not]
  constructor
  · rintro ⟨⟨x, i⟩, hp, h⟩ hn
    have h := of_decide_eq_true h
    obtain ⟨j, hj⟩ := List.mem_iff_getElem?.mp hp
    rw [List.getElem?_zipIdx] at hj
    cases e : l[j]? with
    | none => rw [e] at hj; simp at hj
    | some y =>
      rw [e] at hj
      simp at hj
      obtain ⟨rfl, rfl⟩ := hj
      obtain ⟨k, hk⟩ := List.mem_iff_getElem?.mp h
      have hkj : k < j := by
        have := (List.getElem?_eq_some_iff.mp hk).1
        rw [List.length_take] at this; omega
      rw [List.getElem?_take_of_lt hkj] at hk
      obtain ⟨h1, e1⟩ := List.getElem?_eq_some_iff.mp hk
      obtain ⟨h2, e2⟩ := List.getElem?_eq_some_iff.mp e
      have := (List.getElem_inj hn).mp (e1.trans e2.symm)
      omega
  · intro hn
    refine Classical.byContradiction fun k => hn ?_
    unfold List.Nodup
    rw [List.pairwise_iff_getElem]
    intro i j hi hj hij e
    refine k ⟨(l[j], j), List.mem_iff_getElem?.mpr ⟨j, by rw [List.getElem?_zipIdx, List.getElem?_eq_getElem hj]; simp⟩, decide_eq_true ?_⟩
    rw [← e]
    exact List.mem_iff_getElem?.mpr ⟨i, by rw [List.getElem?_take_of_lt hij, List.getElem?_eq_getElem hi]⟩
theorem nd_map {α β : Type} {f : α → β} : ∀ {l : List α}, (∀ a ∈ l, ∀ b ∈ l, f a = f b → a = b) → l.Nodup → (l.map f).Nodup
  | [], _, _ => List.nodup_nil
  | x :: l, h, n => by
    rw [List.nodup_cons] at n
    rw [List.map_cons, List.nodup_cons]
    refine ⟨fun hm => ?_, nd_map (fun a ha b hb => h a (List.mem_cons_of_mem _ ha) b (List.mem_cons_of_mem _ hb)) n.2⟩
    obtain ⟨y, hy, e⟩ := List.mem_map.mp hm
    have := h y (List.mem_cons_of_mem _ hy) x List.mem_cons_self e
    rw [this] at hy
    exact n.1 hy
theorem rows_of {R : Rows} (hn : (hands R).Nodup) : R = (hands R).map fun h => (h, rowAt R h) := by
  unfold hands at hn ⊢
  rw [List.map_map]
  conv => lhs; rw [← List.map_id R]
  refine List.map_congr_left fun p hp => ?_
  show p = (p.1, rowAt R p.1)
  have : alGet R p.1 = some p.2 := alGet_nodup (l := R) hn hp
  unfold rowAt
  rw [this]; rfl
theorem told_all {hs : List Str} {B : List Rows} (hB : Bk' hs B) : toldB hs B = true := by
  unfold toldB
  rw [dup_any, Bool.not_not, decide_eq_true_eq]
  unfold keysAt
  refine nd_map (fun R hR R' hR' e => ?_) hB.nd
  have h1 := rows_of (hB.pic R hR).nd
  have h2 := rows_of (hB.pic R' hR').nd
  rw [hB.hnd R hR] at h1
  rw [hB.hnd R' hR'] at h2
  rw [h1, h2]
  refine List.map_congr_left fun h hh => ?_
  have : ∀ l : List Str, h ∈ l → l.map (rowAt R) = l.map (rowAt R') → rowAt R h = rowAt R' h := fun l => by
    induction l with
    | nil => intro z; simp at z
    | cons x l ih =>
      intro hm e
      obtain ⟨a, b⟩ := List.cons.inj (show rowAt R x :: l.map (rowAt R) = rowAt R' x :: l.map (rowAt R') from e)
      rcases List.mem_cons.mp hm with z | z
      · rw [z]; exact a
      · exact ih z b
  rw [this hs hh e]
theorem told_one {B : List Rows} {h : Str} : toldB [h] B = (List.range B.length).all fun n => decide ((alikeTo B h (rowAt (B.getD n []) h)).length = 1) := by
  unfold toldB
  rw [dup_any, Bool.not_not, Bool.eq_iff_iff, decide_eq_true_eq, List.all_eq_true]
  have one : ∀ n R, B[n]? = some R → ((alikeTo B h (rowAt R h)).length = 1 ↔ ∀ i ∈ alikeTo B h (rowAt R h), i = n) := fun n R hR => by
    have hm : n ∈ alikeTo B h (rowAt R h) := mem_alike.mpr ⟨R, hR, rfl⟩
    rw [len_one hm, one_of (alike_nd _ _ _) hm]
  constructor
  · intro hn n hlt
    have hlt := List.mem_range.mp hlt
    have hR : B[n]? = some B[n] := List.getElem?_eq_getElem hlt
    rw [decide_eq_true_eq, getD_of hR, one n _ hR]
    intro i hi
    obtain ⟨R', hR', e⟩ := mem_alike.mp hi
    obtain ⟨h1, e1⟩ := List.getElem?_eq_some_iff.mp hR'
    unfold keysAt at hn
    have l1 : i < (B.map (keyAt [h])).length := by rw [List.length_map]; exact h1
    have l2 : n < (B.map (keyAt [h])).length := by rw [List.length_map]; exact hlt
    refine (List.getElem_inj (h₀ := l1) (h₁ := l2) hn).mp ?_
    rw [List.getElem_map, List.getElem_map, e1]
    show [rowAt R' h] = [rowAt B[n] h]
    rw [e]
  · intro H
    unfold List.Nodup
    rw [List.pairwise_iff_getElem]
    intro i j hi hj hij e
    have hi' : i < B.length := by unfold keysAt at hi; rwa [List.length_map] at hi
    have hj' : j < B.length := by unfold keysAt at hj; rwa [List.length_map] at hj
    have hRj : B[j]? = some B[j] := List.getElem?_eq_getElem hj'
    have := of_decide_eq_true (H j (List.mem_range.mpr hj'))
    rw [getD_of hRj, one j _ hRj] at this
    have e2 : rowAt B[i] h = rowAt B[j] h := by
      have e3 := congrArg some e
      rw [← List.getElem?_eq_getElem, ← List.getElem?_eq_getElem] at e3
      unfold keysAt at e3
      rw [List.getElem?_map, List.getElem?_map, List.getElem?_eq_getElem hi', hRj] at e3
      exact (List.cons.inj (Option.some.inj e3)).1
    have := this i (mem_alike.mpr ⟨B[i], List.getElem?_eq_getElem hi', e2⟩)
    omega
theorem waiters_rev (hs : List Str) (B : List Rows) : waitersB hs B.reverse = waitersB hs B := by
  unfold waitersB rbh
  congr 1
  refine List.map_congr_left fun h _ => ?_
  rw [rowSet_canon (l := colOf B.reverse h) (m := colOf B h) fun r => ?_]
  unfold colOf
  rw [List.mem_map, List.mem_map]
  exact ⟨fun ⟨R, hR, e⟩ => ⟨R, List.mem_reverse.mp hR, e⟩, fun ⟨R, hR, e⟩ => ⟨R, List.mem_reverse.mpr hR, e⟩⟩
theorem any_wait {hs : List Str} {B : List Rows} {h : Str} (hh : h ∈ hs) : ((waitersB hs B).any fun p => decide (p.1 = h)) = (rowSet (colOf B h)).any (waitB (rowSet (colOf B h))) := by
  rw [Bool.eq_iff_iff, List.any_eq_true, List.any_eq_true]
  unfold waitersB rbh
  constructor
  · rintro ⟨p, hp, e⟩
    obtain ⟨q, hq, hm⟩ := List.mem_flatMap.mp hp
    obtain ⟨x, hx, rfl⟩ := List.mem_map.mp hq
    obtain ⟨r, hr, rfl⟩ := List.mem_map.mp hm
    have e : x = h := of_decide_eq_true e
    subst e
    exact ⟨r, (List.mem_filter.mp hr).1, (List.mem_filter.mp hr).2⟩
  · rintro ⟨r, hr, hw⟩
    exact ⟨(h, r), List.mem_flatMap.mpr ⟨_, List.mem_map.mpr ⟨h, hh, rfl⟩, List.mem_map.mpr ⟨r, List.mem_filter.mpr ⟨hr, hw⟩, rfl⟩⟩, decide_eq_true rfl⟩
end K66
set_option maxHeartbeats 4000000
namespace K66
variable [TabAt]
open PySem PySem.Spec PyProof.Rows L2
theorem wD_pln2 {hs : List Str} {B : List Rows} (hB : Bk' hs B) (hnm : ∀ x ∈ hs, isNm x = true) : pln (.lst ((waitersB hs B).map wD)) 20 = true := by
  have one : ∀ p ∈ waitersB hs B, pln (wD p) 19 = true := fun p hp => by
    obtain ⟨q, hq, hm⟩ := List.mem_flatMap.mp hp
    obtain ⟨h, hh, rfl⟩ := List.mem_map.mp hq
    obtain ⟨r, hr, rfl⟩ := List.mem_map.mp hm
    have h1 := (col_nm hB hh (List.mem_filter.mp hr).1).1
    show (true && (PyData.strOk h && (plnL (r.map dD) 17 && true))) = true
    rw [nm_str (hnm h hh), plnL_row h1 17 (by omega)]; rfl
  have go : ∀ l : List (Str × Row), (∀ p ∈ l, pln (wD p) 19 = true) → plnL (l.map wD) 19 = true := fun l => by
    induction l with
    | nil => exact fun _ => rfl
    | cons p l ih =>
      intro one
      show (pln (wD p) 19 && plnL (l.map wD) 19) = true
      rw [one p List.mem_cons_self, ih fun q hq => one q (List.mem_cons_of_mem _ hq)]; rfl
  show (decide ((20 : Nat) ≠ 0) && plnL ((waitersB hs B).map wD) 19) = true
  rw [go _ one]; rfl
theorem waiters_le (hs : List Str) (B : List Rows) : (waitersB hs B).length ≤ hs.length * B.length := by
  unfold waitersB rbh
  have h1 : ∀ p ∈ hs.map (fun h => (h, rowSet (colOf B h))), (waitsOf p).length ≤ B.length := fun p hp => by
    obtain ⟨h, _, rfl⟩ := List.mem_map.mp hp
    unfold waitsOf
    rw [List.length_map]
    refine Nat.le_trans (List.length_filter_le ..) ?_
    have := rowSet_len (colOf B h)
    unfold colOf at this
    rwa [List.length_map] at this
  have := flat_le (l := hs.map fun h => (h, rowSet (colOf B h))) (f := waitsOf) (n := B.length) h1
  rwa [List.length_map] at this
section
variable {P : Program} {w : World} {K : PySem.W.Frag} {mg : Str → Option Value} {base : Heap}
/-- what the law asks of a machine, all of it -/
structure MchAll (rows : List Row) : Prop extends MchLaw rows where
  inr : ∀ e ∈ (mach rows).2, e < (mach rows).1.length
  goes : decide (0 < ((mach rows).2.filterMap fun e => if decide ((mach rows).1.getD e [] = []) = true then none else some (intD e)).length) = rows.any (waitB rows)
  last : ((mach rows).1.countP fun l => decide (l = [])) = 1
structure BkLaw (hs : List Str) (B : List Rows) : Prop where
  bk : Bk' hs B
  rev : Bk' hs B.reverse
  few : B.length ≤ 4
  mch : ∀ h ∈ hs, MchAll (rowSet (colOf B h))
def p_bookRight : List Dt → (Dt → Prop) → Prop := fun as Φ => ∃ (hs : List Str) (B : List Rows), as = [.lst (hs.map .str), .lst (B.map (sD rL))] ∧ NamesOk hs ∧ BkLaw hs B ∧ Φ (.bl true)
abbrev nBR : List Str := ["_law_pot_here", "_law_names_here", "_law_books", "_law_book_here", "_law_waiting", "_law_hand", "_law_is_known", "_law_steps", "_law_ends", "_law_is_waiting", "_law_rows_here", "_law_number", "_law_one", "_law_row", "_law_end"]
theorem ok_bookRight (T : Txt K mg) (L : LamT K mg base) : OkD P w K mg base d_law_book_right 9 ["_law_pot_here", "_law_names_here", "_law_books"] (spP P w p_bookRight) := by
  have nd : nBR.Nodup := by decide +kernel
  refine okP_of (N := nBR) T.n_law_book_right ⟨rfl, rfl, rfl, by decide +kernel, rfl, by decide +kernel, by decide +kernel⟩ (fun _ _ _ _ _ _ us hl => match us, hl with | [_, _, _], _ => rfl) ?_
  rintro as Φ ⟨hs, B, rfl, nk, bl, hΦ⟩
  have hB := bl.bk
  have h4 := bl.few
  have hnm := nk.nm
  refine ⟨rfl, fun p cdv A outer sh H E hr => ?_⟩
  have hu : (PX P w K mg base nBR d_law_book_right cdv A outer sh H E).A.units + 64 < cLine := hr.units
  have hu5 : (PX P w K mg base nBR d_law_book_right cdv A outer sh H E).A.units + 65 < cLine := by have := hr.un; show (A.deeper _).units + 65 < cLine; omega
  refine .cons (.asg 3 nd (.of (d := bookD K B) (.new (g := d_Book_init) (f := "own_pictures") (He.mkr_ok T.mkr_Book) (ok_Binit T) T.g_Book hr (.cons (.lcm (enc := sD rL) (g := picD K) (ys := B) (own := [("_law_rows_here", 10)]) rfl nd (.lst (.var 2 rfl)) (blk_of rfl) (by omega) fun R hR => ⟨_, [10], by simp, fun s H C cl fp => .name 10 nd, fun s H C cl fp => .new (g := d_Picture_init) (f := "own_rows") (He.mkr_ok T.mkr_Picture) (ok_Pinit T) T.g_Picture (hr.mono (by decide)) (.cons (.var 10 rfl) .nil) ⟨R, rfl, hB.pic R hR, rfl⟩⟩) .nil) ⟨hs, B, rfl, hB, rfl⟩)) ?_)
  refine .cons (.asg 4 nd (.of (.call (z := .lst ((waitersB hs B).map wD)) (ok_waiters T) T.g_waiters (hr.mono (by decide)) (.cons (.var 3 rfl) .nil) ⟨hs, B, rfl, hB, h4, rfl⟩)) ?_)
  refine .cons (.ifs (k := false) (.bool (.or (x := false) (y := false) (.cast (.not (.val (.allm (ys := hs) (f := fun _ => true) rfl (.lcm (enc := Dt.str) (own := [("_law_hand", 5)]) rfl nd (.lst (.var 1 rfl)) (blk_of rfl) (by have := nk.le; omega) fun h hh => ⟨_, [5], by simp, fun s H C cl fp => .name 5 nd, fun s H C cl fp => .call (z := .bl true) (ok_handRight T L) T.g_law_hand_right (hr.mono (by decide)) (.cons (.var 3 rfl) (.cons (.var 5 rfl) (.cons (.var 4 rfl) .nil))) ⟨hs, B, h, rfl, hB, h4, hnm, hh, (bl.mch h hh).toMchLaw, rfl⟩⟩) T.f_all))) ?_) (fun _ => .or1 (.cmp (.cast (.isNotB (x := true) (y := true) (.call (ok_told T) T.g_told_apart (hr.mono (by decide)) (.cons (.var 3 rfl) (.cons (.var 1 rfl) .nil)) ⟨hs, hs, B, rfl, hB, nk.ne, nk.nd, fun h hh => hh, by rw [told_all hB]⟩) .bl) rfl))))) (fun z => nomatch z) fun _ => .nil ?_)
  · rw [List.all_eq_true.mpr fun _ _ => rfl]; rfl
  refine .cons (.loopT (enc := Dt.str) (ys := hs) (fun i ds => ∃ s5 s6 s7 s8 s9 s10 s11 s12 s13 s14, ds = [.pot p, .d (.lst (hs.map .str)), .d (.lst (B.map (sD rL))), .d (bookD K B), .d (.lst ((waitersB hs B).map wD)), s5, s6, s7, s8, s9, s10, s11, s12, s13, s14]) rfl (.lst (.var 1 rfl)) ⟨.un, .un, .un, .un, .un, .un, .un, .un, .un, .un, rfl⟩ ?_ ?_)
  · rintro i h ds1 hx ⟨s5, s6, s7, s8, s9, s10, s11, s12, s13, s14, rfl⟩
    have hh := List.mem_of_getElem? hx
    have ma := bl.mch h hh
    refine ⟨_, _, .name 5 nd, ?_⟩
    refine .cons (.asg 6 nd (.of (.allm (ys := List.range B.length) (f := fun n => decide ((alikeTo B h (rowAt (B.getD n []) h)).length = 1)) rfl (.lcm (enc := intD) (own := [("_law_number", 11)]) rfl nd (.cast' (.rng1 (n := B.length) (.lenOwn (f := "own_pictures") (d := .tup (B.map (picD K))) (ok_Blen T) (.var 3 rfl) (He.meth_ok T.meth_Book_len) (hr.mono (by decide)) ⟨B, rfl, rfl⟩ (by omega) T.f_len) T.f_range (by omega)) rng0) (blk_of rfl) (by rw [List.length_range]; omega) fun n hn => ⟨_, [11], by simp, fun s H C cl fp => .name 11 nd, fun s H C cl fp => .cmp (.cast (.eqI (.lenL (xs := (alikeTo B h (rowAt (B.getD n []) h)).map intD) (.call (ok_alike T) T.g_alike_to (hr.mono (by decide)) (.cons (.var 3 rfl) (.cons (.var 11 rfl) (.cons (.var 5 rfl) .nil))) ⟨hs, B, n, B.getD n [], h, rfl, hB, ?_, hh, rfl⟩) T.f_len) .int) ?_)⟩) T.f_all)) ?_)
    · have := List.mem_range.mp hn
      rw [List.getD_eq_getElem?_getD, List.getElem?_eq_getElem this]; rfl
    · rw [List.length_map]
      exact decide_eq_decide.mpr (by omega)
    rw [← told_one]
    refine .cons (.ifs (k := false) (.cmp (.cast (.neB (x := toldB [h] B) (y := toldB [h] B) (.call (ok_told T) T.g_told_apart (hr.mono (by decide)) (.cons (.var 3 rfl) (.cons (.lst (as := [.str h]) (.cons (.var 5 rfl) .nil) (show 1 ≤ 100000 by decide)) .nil)) ⟨hs, [h], B, rfl, hB, by simp, by simp, fun x hx => by rw [List.mem_singleton.mp hx]; exact hh, rfl⟩) (.var 6 rfl)) (bne_self_eq_false _))) (fun z => nomatch z) fun _ => .nil ?_)
    refine .cons (.asgG (d := mchD (mach (rowSet (colOf B h)))) (.call (ok_mach T L) T.g_machine (hr.mono (by decide)) (.cons (.var 3 rfl) (.cons (.var 5 rfl) .nil)) ⟨hs, B, h, rfl, hB, h4, hh, ma.few, rfl⟩) (.tup rfl (.cons (.name 7 nd) (.cons (.name 8 nd) .nil))) ?_)
    refine .cons (.asg 9 nd (.of (.anym (ys := waitersB hs B) (f := fun p => decide (p.1 = h)) rfl (.lcm (enc := wD) (own := [("_law_one", 12), ("_law_row", 13)]) rfl nd (.lst (.var 4 rfl)) (blk_of rfl) ?_ fun q hq => ⟨_, _, ?_, fun s H C cl fp => .tup rfl (.cons (.name 12 nd) (.cons (.name 13 nd) .nil)), fun s H C cl fp => .cmp (.eqS (.var 12 rfl) (.var 5 rfl))⟩) T.f_any)) ?_)
    · have h1 := waiters_le hs B
      have h2 : hs.length * B.length ≤ 4 * 4 := Nat.mul_le_mul nk.le h4
      omega
    · decide
    rw [any_wait hh]
    obtain ⟨_, _, _, ok4⟩ := ma.ok
    refine .cons (.ifs (k := false) (.bool (.or (x := false) (y := false) (.cmp (.cast (.neB (.cmp (.gt (.lenL (.lcf (enc := intD) (g := fun e => if decide ((mach (rowSet (colOf B h))).1.getD e [] = []) = true then none else some (intD e)) (ys := (mach (rowSet (colOf B h))).2) (own := [("_law_end", 14)]) rfl nd (.lst (.var 8 rfl)) (blk_of rfl) ok4 fun e he => ⟨_, [14], by simp, fun s H C cl fp => .name 14 nd, fun s H C cl fp => .one (.cmp (.cast (.neNd hu (.ixL (n := e) (xs := (mach (rowSet (colOf B h))).1.map stD) (z := stD ((mach (rowSet (colOf B h))).1.getD e [])) (.var 7 rfl) (.var 14 rfl) ?_)) ?_)), fun d hd s H C cl fp => ?_⟩) T.f_len) .int)) (.var 9 rfl)) ?_)) (fun _ => .or1 (.cmp (.cast (.neI (.countE hu5 (.var 7 rfl)) .int) ?_))))) (fun z => nomatch z) fun _ => .nil (.nil ⟨.d (.str h), _, _, _, _, _, _, _, _, _, rfl⟩))
    · have := ma.inr e he
      rw [List.getElem?_map, List.getD_eq_getElem?_getD, List.getElem?_eq_getElem this]; rfl
    · rw [List.length_map]
      by_cases z : (mach (rowSet (colOf B h))).1.getD e [] = []
      · rw [if_pos (decide_eq_true z), z]; rfl
      · rw [if_neg (by rw [decide_eq_false z]; exact Bool.false_ne_true), decide_eq_false fun y => z (List.length_eq_zero_iff.mp y)]; rfl
    · split at hd
      · cases hd
      · cases hd; exact .var 14 rfl
    · have := ma.goes
      rw [← this]
      rw [show decide ((0 : Int) < ((((mach (rowSet (colOf B h))).2.filterMap fun e => if decide ((mach (rowSet (colOf B h))).1.getD e [] = []) = true then none else some (intD e)).length : Nat) : Int)) = decide (0 < ((mach (rowSet (colOf B h))).2.filterMap fun e => if decide ((mach (rowSet (colOf B h))).1.getD e [] = []) = true then none else some (intD e)).length) from decide_eq_decide.mpr (by omega)]
      exact bne_self_eq_false _
    · rw [ma.last]; rfl
  · rintro ds' ⟨s5, s6, s7, s8, s9, s10, s11, s12, s13, s14, rfl⟩
    exact .cons (.ret (.cmp (.eq (k := true) hu (.call (z := .lst ((waitersB hs B).map wD)) (ok_waiters T) T.g_waiters (hr.mono (by decide)) (.cons (d := bookD K B.reverse) (.new (g := d_Book_init) (f := "own_pictures") (He.mkr_ok T.mkr_Book) (ok_Binit T) T.g_Book hr (.cons (.cast (.revL (xs := B.map (picD K)) (.meth0 (f := "own_pictures") (d := .tup (B.map (picD K))) (z := .lst (B.map (picD K))) (ok_Bpics T) (.var 3 rfl) (He.cls_ok T.cls_Book) (He.meth_ok T.meth_Book_pictures) (hr.mono (by decide)) ⟨B, rfl, rfl⟩)) (by rw [← List.map_reverse]; rfl)) .nil) ⟨hs, B.reverse, rfl, bl.rev, rfl⟩) .nil) ⟨hs, B.reverse, rfl, bl.rev, by rw [List.length_reverse]; exact h4, by rw [waiters_rev]⟩) (.var 4 rfl) (wD_pln2 hB hnm) (wD_pln2 hB hnm) (by simp))) ⟨hΦ, rfl⟩)
end
end K66
set_option maxHeartbeats 4000000
namespace K66
variable [TabAt]
open PySem PySem.Spec PyProof.Rows L2
section
variable {P : Program} {w : World} {W : Addr → Prop} {C H : Hp}
def zipD (xs ys : List Dt) : List Dt := (xs.zip ys).map fun p => .tup [p.1, p.2]
theorem Wk.zip {K : PySem.W.Frag} {a b : Addr} {vs us : List V} {xs ys : List Dt} (h : C a = some (.lst vs)) (i : IsL P w C xs vs) (h' : C b = some (.lst us)) (i' : IsL P w C ys us) : Wk P w W (Itz K a b) C H (zipD xs ys) := fun C2 H2 x n => by
  have h2 : SqL K H2 a vs := .inl (.inl (x.le'.ex _ _ (x.le.ex _ _ h)))
  have h3 : SqL K H2 b us := .inl (.inl (x.le'.ex _ _ (x.le.ex _ _ h')))
  have l1 := i.len
  have l2 := i'.len
  refine ⟨fun d e => ?_, fun hn => ⟨vs, us, h2, h3, ?_⟩⟩
  · unfold zipD at e
    rw [List.getElem?_map] at e
    obtain ⟨q, hq, rfl⟩ := Option.map_eq_some_iff.mp e
    obtain ⟨q1, q2⟩ := zip_get (k := q.1) (v := q.2) hq
    obtain ⟨v, e1, i1⟩ := i.get q1
    obtain ⟨u, e2, i2⟩ := i'.get q2
    refine ⟨⟨vs, us, v, u, h2, h3, e1, e2⟩, fun y H3 r => ?_⟩
    obtain ⟨T, v', u', rfl, hT, rfl, r1, r2⟩ := r
    have e3 := r1 vs h2
    rw [e1] at e3
    cases e3
    have e4 := r2 us h3
    rw [e2] at e4
    cases e4
    have l : Lw C2 (upd C2 T (.tup [v, u])) := .new (x.le'.dom T hT)
    exact ⟨upd C2 T (.tup [v, u]), .new x.le' hT, T, _, rfl, upd_same, .cons (Is.mono l _ _ (Is.mono x.le _ _ i1)) (.one (Is.mono l _ _ (Is.mono x.le _ _ i2)))⟩
  · unfold zipD at hn
    rw [List.length_map, List.length_zip] at hn
    omega
end
section
variable {X : Cx} {W : Addr → Prop} {ds : List Sl} {Ψ : Res → Prop} {e a b : Expr} {rest : List Expr} {pos p tpos : Pos} {elts : List Expr} {kk : Nat} {xs ys : List Dt}
theorem EvI.zip (h : EvD X a ds (.lst xs)) (h' : EvD X b ds (.lst ys)) (hm : X.mg "zip" = none) (hg : Gl X "zip" := by rfl) (hs : starEach [a, b] X.env = (false, eval a X.env) :: starEach [b] X.env := by rfl) (hs2 : starEach [b] X.env = (false, eval b X.env) :: starEach [] X.env := by rfl) (hpl : (backTo pos (starEach [b] X.env)).any (·.1) = false := by rfl) :
    EvI X W (.Tuple elts kk tpos) (.Call (.Name "zip" p) [a, b] [] pos) ds (zipD xs ys) := fun C H σ S R q =>
  piW (pi_zip hg hm (pa_cons wpE.pe (pa_cons wpE.pe pa_nil hs2) hs) hs hpl) (h C H σ S _ fun v C1 H1 x1 i1 => h' C1 H1 σ (S.mono x1) _ fun u C2 H2 x2 i2 => by
    have i1 := Is.mono x2.le.w _ _ i1
    obtain ⟨l, vs, rfl, r1, j1⟩ := i1
    obtain ⟨m, us, rfl, r2, j2⟩ := i2
    exact ⟨l, m, vs, us, rfl, .inl (.inl (x2.le'.ex _ _ r1)), .inl (.inl (x2.le'.ex _ _ r2)), q _ C2 H2 (x1.trans x2) (.zip r1 j1 r2 j2)⟩)
def bolP (Φ : Bool → Prop) : Dt → Prop := fun d => ∃ k, d = .bl k ∧ Φ k
theorem EvTX.val {Φ : Bool → Prop} (h : EvX X e ds (datP (bolP Φ))) (he : ∀ whole, isTrue e X.env whole = (do let v ← whole; standAt e.pos; holding [v] (truthy v)) := by intro _; rfl) : EvTX X e ds Φ := fun C H σ S Q q =>
  ptW (pt_val wpE.pe he) (h.run datP_d S fun v C1 H1 d x1 po i1 ⟨d', e, k, e2, hk⟩ => by
    cases e
    subst e2
    exact ⟨k, i1, q k C1 H1 x1 po hk⟩)
theorem EvTX.not {Φ : Bool → Prop} (h : EvTX X e ds Φ) : EvTX X (.UnaryOp .Not e pos) ds fun k => Φ (!k) := fun C H σ S Q q => ptW (pt_not wpT.pt) (h C H σ S _ fun k C1 H1 x1 po hk => q (!k) C1 H1 x1 po (show Φ (!!k) by rw [Bool.not_not]; exact hk))
theorem EvX.one {Φ : Sl → Prop} {op} (h : EvX X a ds Φ) : EvX X (.BoolOp op [a] pos) ds Φ := fun C H σ S Q q => peW (pe_one wpE.pe) (h C H σ S Q q)
theorem EvX.or {x : Bool} {Φ : Sl → Prop} (h : EvD X a ds (.bl x)) (h1 : x = true → Φ (.d (.bl true))) (h2 : x = false → EvX X (.BoolOp .Or (b :: rest) pos) ds Φ) : EvX X (.BoolOp .Or (a :: b :: rest) pos) ds Φ := fun C H σ S Q q =>
  peW (pe_or wpE.pe wpE.pe) (h C H σ S _ fun v C1 H1 x1 i1 => ⟨x, i1, by
    cases x with
    | true => exact iteT (q _ C1 H1 (.d (.bl true)) [] x1.w (S.mono x1).pots (.ofD rfl) List.nodup_nil (fun a h => by simp at h) (h1 rfl))
    | false => exact iteF (h2 rfl C1 H1 σ (S.mono x1) _ fun v C2 H2 s fp x2 po i2 n f hs => q v C2 H2 s fp (x1.w.trans x2) po i2 n (fun a ha => gone (W := fun _ => False) x1.w (f a ha)) hs)⟩)
end
end K66
set_option maxHeartbeats 4000000
namespace K66
variable [TabAt]
open PySem PySem.Spec PyProof.Rows L2
def stepL (ρ : Str → Row) (a b w : Str) : Str → Row := fupd (fupd ρ a (ρ a ++ [(true, b, w)])) b (ρ b ++ [(false, a, w)])
theorem Made.letter {hs : List Str} {n : Nat} {ρ : Str → Row} (m : Made hs n ρ) (hn : hs.Nodup) (hnm : ∀ x ∈ hs, isNm x = true) {a b w : Str} (ha : a ∈ hs) (hb : b ∈ hs) (hab : b ≠ a) (hw : isNm w = true) : Made hs (n + 1) (stepL ρ a b w) := by
  have g : Gen hs (n + 1) (0 + 1) ρ [] := by
    refine ⟨m.ok, fun c hc e he => ?_, m.run, ?_, fun h hh => ?_, fun l h => by simp at h⟩
    · rw [m.heard c hc e he]; exact (List.append_nil _).symm
    · have := m.few; omega
    · have := m.len h hh
      show (ρ h).length + 2 * 1 + 0 ≤ 2 * (n + 1)
      omega
  have g1 := g.say hn hnm ha hb hab hw
  have g2 := Gen.get (U := []) (V := []) (l := (a, b, w)) hn hnm g1 (fun u h => by simp at h)
  have e : fupd (fupd ρ a (ρ a ++ [(true, b, w)])) b (fupd ρ a (ρ a ++ [(true, b, w)]) b ++ [(false, a, w)]) = stepL ρ a b w := by
    unfold stepL
    rw [fupd_ne (f := ρ) hab]
  have g3 := g2.made
  rw [← e]
  exact g3
def lng (a w : Str) (os : List Str) (ρ : Str → Row) : Str → Row := os.foldl (fun μ o => stepL μ a o w) ρ
theorem lng_snoc (a w o : Str) (os : List Str) (ρ : Str → Row) : lng a w (os ++ [o]) ρ = stepL (lng a w os ρ) a o w := by
  unfold lng; rw [List.foldl_append]; rfl
theorem Made.lng {hs : List Str} {n : Nat} {ρ : Str → Row} (m : Made hs n ρ) (hn : hs.Nodup) (hnm : ∀ x ∈ hs, isNm x = true) {a w : Str} (ha : a ∈ hs) (hw : isNm w = true) (os : List Str) (ho : ∀ o ∈ os, o ∈ hs ∧ o ≠ a) : Made hs (n + os.length) (K66.lng a w os ρ) := by
  induction os using snoc_ind with
  | h0 => exact m
  | h1 os o ih =>
    rw [lng_snoc, List.length_append]
    exact (ih fun x hx => ho x (List.mem_append_left _ hx)).letter hn hnm ha (ho o (by simp)).1 (ho o (by simp)).2 hw
theorem lng_last {a w : Str} {os : List Str} (h : os ≠ []) (ho : ∀ o ∈ os, o ≠ a) (ρ : Str → Row) : ∃ r o, lng a w os ρ a = r ++ [(true, o, w)] := by
  induction os using snoc_ind with
  | h0 => exact absurd rfl h
  | h1 os o _ =>
    rw [lng_snoc]
    refine ⟨lng a w os ρ a, o, ?_⟩
    unfold stepL
    rw [fupd_ne (fun z => ho o (by simp) z.symm), fupd_same]
theorem MBook.longer {h0 : Str} {os : List Str} {n : Nat} {ρs : List (Str → Row)} {ws : List Str} (nk : (h0 :: os).Nodup) (hnm : ∀ x ∈ h0 :: os, isNm x = true) (hos : os ≠ []) (m : MBook (h0 :: os) n ρs) (hw : ∀ w ∈ ws, isNm w = true) (hwn : ws.Nodup) (hl : ρs.length ≤ ws.length) :
    MBook (h0 :: os) (n + os.length) ((ρs.zip ws).map fun q => lng h0 q.2 os q.1) := by
  have ho : ∀ o ∈ os, o ∈ h0 :: os ∧ o ≠ h0 := fun o h => ⟨List.mem_cons_of_mem _ h, fun z => by rw [List.nodup_cons] at nk; rw [z] at h; exact nk.1 h⟩
  have hlen : (ρs.zip ws).length = ρs.length := by rw [List.length_zip]; omega
  refine ⟨fun z => ?_, by rw [List.length_map, hlen]; exact m.len, fun μ hμ => ?_, ?_⟩
  · have := List.map_eq_nil_iff.mp z
    have h1 := congrArg List.length this
    rw [hlen] at h1
    exact m.ne (List.eq_nil_of_length_eq_zero h1)
  · obtain ⟨q, hq, rfl⟩ := List.mem_map.mp hμ
    obtain ⟨q1, q2⟩ := List.of_mem_zip hq
    exact (m.made _ q1).lng nk hnm (by simp) (hw _ q2) os ho
  · rw [List.map_map]
    unfold List.Nodup
    rw [List.pairwise_iff_getElem]
    intro i j hi hj hij e
    rw [List.length_map] at hi hj
    rw [List.getElem_map, List.getElem_map, List.getElem_zip, List.getElem_zip] at e
    have e := (List.cons.inj e).1
    obtain ⟨r1, o1, e1⟩ := lng_last hos (w := ws[i]'(by rw [List.length_zip] at hi; omega)) (fun o h => (ho o h).2) (ρs[i]'(by rw [List.length_zip] at hi; omega))
    obtain ⟨r2, o2, e2⟩ := lng_last hos (w := ws[j]'(by rw [List.length_zip] at hj; omega)) (fun o h => (ho o h).2) (ρs[j]'(by rw [List.length_zip] at hj; omega))
    have e3 := e1.symm.trans (e.trans e2)
    have e4 := (List.cons.inj (List.append_inj' e3 rfl).2).1
    have e5 := congrArg (fun d : Deed => d.2.2) e4
    have := (List.getElem_inj hwn).mp e5
    omega
end K66
set_option maxHeartbeats 4000000
namespace K66
variable [TabAt]
open PySem PySem.Spec PyProof.Rows L2
theorem isL_drop {P : Program} {w : World} {C : Hp} : ∀ (n : Nat) {xs : List Dt} {vs : List V}, IsL P w C xs vs → IsL P w C (xs.drop n) (vs.drop n)
  | 0, _, _, h => h
  | n + 1, [], _, h => by rw [show _ = [] from h]; exact rfl
  | n + 1, x :: xs, _, ⟨v, r, e, i, h⟩ => by
    subst e
    exact isL_drop n h
section
variable {X : Cx} {ds : List Sl} {a b : Expr} {pos : Pos}
theorem EvD.tailL {xs : List Dt} {n : Nat} {p2 : Pos} (ha : EvD X a ds (.lst xs)) (hb : EvD X b ds (.int (n : Int))) : EvD X (.Subscript a (.Slice (some b) none none p2) pos) ds (.lst (xs.drop n)) := fun C H σ S Q q =>
  peW (pe_slice sl_list wpE.pe (po_some wpE.pe) po_none) (two ha hb S fun v u C1 H1 x1 i1 i2 => by
    obtain ⟨p1, vs, rfl, r1, j1⟩ := i1
    refine ⟨(n : Int), i2, p1, vs, rfl, .inl (.inl (x1.le'.ex _ _ r1)), fun p hp => ?_⟩
    have e3 : cutV vs (some (n : Int)) none = vs.drop n := by
      unfold cutV
      rw [HT.sIx_nat, HT.sIx_none]
      by_cases hn : n ≤ vs.length
      · rw [Nat.min_eq_left hn, List.take_of_length_le (by rw [List.length_drop]; exact Nat.le_refl _)]
      · rw [Nat.min_eq_right (by omega), List.drop_eq_nil_of_le (Nat.le_refl _), List.drop_eq_nil_of_le (by omega), List.take_nil]
    rw [e3]
    exact q _ (upd C1 p (.lst (vs.drop n))) _ (x1.trans (.new x1.le' hp)) (Is.lst' (IsL.mono (.new (x1.le'.dom p hp)) _ _ (isL_drop n j1))))
end
def words5 : List Str := ["a", "b", "c", "d", "e"]
theorem words5_nm : ∀ w ∈ words5, isNm w = true := List.all_eq_true.mp (by decide +kernel : words5.all isNm = true)
theorem rowsF_rw {hs : List Str} {ρ0 : Str → Row} : Sl.rw ((rowsF hs ρ0).map fun p => p.1) ((rowsF hs ρ0).map fun p => p.2.map dD) = rwO hs ρ0 := by
  unfold rwO rowsF
  rw [List.map_map, List.map_map, show (((fun p : Str × Row => p.1) ∘ fun h => (h, ρ0 h)) : Str → Str) = fun h => h from rfl, List.map_id']; rfl
section
variable {P : Program} {w : World} {K : PySem.W.Frag} {mg : Str → Option Value} {base : Heap}
def p_right : List Dt → (Dt → Prop) → Prop := fun as Φ => as = [] ∧ Φ (.bl true)
abbrev nLR : List Str := ["_law_pot_here", "_law_names_here", "_law_books", "_law_longer", "_law_rows_here", "_law_word", "_law_more", "_law_other", "_law_hand", "_law_row"]
theorem ok_right (T : Txt K mg) (L : LamT K mg base) (BL : ∀ hs n ρs, NamesOk hs → MBook hs n ρs → n ≤ 8 → BkLaw hs (ρs.map (rowsF hs))) : OkD P w K mg base d_law_right 10 ["_law_pot_here"] (spP P w p_right) := by
  have nd : nLR.Nodup := by decide +kernel
  refine okP_of (N := nLR) T.n_law_right ⟨rfl, rfl, rfl, by decide +kernel, rfl, by decide +kernel, by decide +kernel⟩ (fun _ _ _ _ _ _ us hl => match us, hl with | [_], _ => rfl) ?_
  rintro as Φ ⟨rfl, hΦ⟩
  refine ⟨rfl, fun p cdv A outer sh H E hr => ?_⟩
  have hu : (PX P w K mg base nLR d_law_right cdv A outer sh H E).A.units + 64 < cLine := hr.units
  refine .cons (.asgX 1 nd (EvX.callP (Φ := fun d => ∃ hs, NamesOk hs ∧ d = .lst (hs.map .str)) 0 (ok_names T) T.g_law_names (hr.mono (by decide)) rfl (.cons (P := natP fun n => 1 ≤ n ∧ n ≤ 4) ((EvX.nat1 .int (EvX.callP (Φ := drawR 4) 0 (ok_draw T) T.g_law_draw (hr.mono (by decide)) rfl (EvA.x (.cons .int .nil)) (fun as e => ⟨4, e, by omega, by omega, fun d hd => hd⟩))).imp ?_) (EvA.x .nil)) ?_) ?_)
  · rintro s ⟨j, e, n, en, hn1⟩
    exact ⟨_, e, n, by rw [en]; rfl, hn1⟩
  · rintro as ⟨d, r, rfl, ⟨n, rfl, hn1, hn4⟩, rfl⟩
    exact ⟨n, rfl, hn4, fun d ⟨hs, nm, e⟩ => ⟨hs, ⟨nm.nd, nm.nm, nm.so, fun z => by have := nm.len; rw [z] at this; simp at this; omega, by rw [nm.len]; exact hn4⟩, e⟩⟩
  rintro s ⟨d, rfl, hs, nk, rfl⟩
  refine .cons (.asgX 2 nd (EvX.callP (Φ := bookR hs) 0 (ok_book T) T.g_law_book (hr.mono (by decide)) rfl (EvA.x (.cons (.var 1 rfl) (.cons .int .nil))) (fun as e => ⟨hs, e, nk, fun d hd => hd⟩)) ?_)
  rintro s ⟨d, rfl, ρs, mb, rfl⟩
  have eB : ∀ μs : List (Str → Row), μs.map (fun μ => sD rL (rowsF hs μ)) = (μs.map (rowsF hs)).map (sD rL) := fun μs => by rw [List.map_map]; rfl
  refine .cons (.ifsX (Φ := fun k => (!k) = true) (EvTX.not (Φ := fun k => k = true) (EvTX.val (EvX.callP (Φ := bolP fun k => k = true) 0 (ok_bookRight T L) T.g_law_book_right hr rfl (EvA.x (.cons (.var 1 rfl) (.cons (.var 2 rfl) .nil))) (fun as e => ⟨hs, _, by rw [e, eB], nk, BL hs 4 ρs nk mb (by omega), true, rfl, rfl⟩)))) (fun z => absurd (show false = true from z) Bool.false_ne_true) fun _ => .nil ?_)
  obtain ⟨h0, os, rfl⟩ : ∃ h0 os, hs = h0 :: os := by
    cases hs with
    | nil => exact absurd rfl nk.ne
    | cons a l => exact ⟨a, l, rfl⟩
  have hn := nk.nd
  have hnm := nk.nm
  have hle := nk.le
  have hmb := mb.len
  have ho : ∀ o ∈ os, o ∈ h0 :: os ∧ o ≠ h0 := fun o h => ⟨List.mem_cons_of_mem _ h, fun z => by rw [List.nodup_cons] at hn; rw [z] at h; exact hn.1 h⟩
  have ol : os.length ≤ 3 := by rw [List.length_cons] at hle; omega
  refine .cons (.asg 3 nd .nilL ?_)
  refine .cons (.loopT (enc := fun q : (Str → Row) × Str => .tup [sD rL (rowsF (h0 :: os) q.1), .str q.2]) (ys := ρs.zip words5) (fun i ds => ∃ s4 s5 s6 s7 s8 s9, ds = [.pot p, .d (.lst ((h0 :: os).map .str)), .d (.lst (ρs.map fun μ => sD rL (rowsF (h0 :: os) μ))), .ol (((ρs.zip words5).take i).map fun q => sD rL (rowsF (h0 :: os) (lng h0 q.2 os q.1))), s4, s5, s6, s7, s8, s9]) rfl
    (.cast' (.zip (xs := ρs.map fun μ => sD rL (rowsF (h0 :: os) μ)) (ys := words5.map Dt.str) (.var 2 rfl) (.lst (as := words5.map Dt.str) (.cons .str (.cons .str (.cons .str (.cons .str (.cons .str .nil))))) (by decide +kernel)) T.f_zip) ?_) ⟨.un, .un, .un, .un, .un, .un, rfl⟩ ?_ ?_)
  · unfold zipD
    rw [List.zip_map, List.map_map]; rfl
  · rintro i ⟨ρ, w1⟩ ds1 hx ⟨s4, s5, s6, s7, s8, s9, rfl⟩
    obtain ⟨hρ, hw⟩ := List.of_mem_zip (List.mem_of_getElem? hx)
    have mρ := mb.made ρ hρ
    have hwn := words5_nm w1 hw
    have hil : i < 5 := by
      have := (List.getElem?_eq_some_iff.mp hx).1
      rw [List.length_zip] at this
      omega
    refine ⟨_, _, .tup rfl (.cons (.name 4 nd) (.cons (.name 5 nd) .nil)), ?_⟩
    refine .cons (.asg 6 nd (.cast (.dictRw (enc := fun p : Str × Row => .tup [.str p.1, rL p.2]) (kf := fun p => p.1) (rf := fun p => p.2.map dD) (ys := rowsF (h0 :: os) ρ) (own := [("_law_hand", 8), ("_law_row", 9)]) rfl nd (.itemsS (e := rL) (l := rowsF (h0 :: os) ρ) (.var 4 rfl)) (blk_of rfl) ?_ ?_ (fun q hq => ⟨_, _, ?_, fun s H C cl fp => .tup rfl (.cons (.name 8 nd) (.cons (.name 9 nd) .nil)), fun s H C cl fp => .mk (.var 8 rfl) (.listL (.var 9 rfl) T.f_list)⟩) T.f_dict) rowsF_rw) ?_)
    · unfold rowsF; rw [List.length_map]; omega
    · unfold rowsF; rw [List.map_map, show (((fun p : Str × Row => p.1) ∘ fun h => (h, ρ h)) : Str → Str) = fun h => h from rfl, List.map_id']; exact hn
    · decide
    refine .cons (.loopT (enc := Dt.str) (ys := os) (fun j ds => ∃ s7 s8 s9, ds = [.pot p, .d (.lst ((h0 :: os).map .str)), .d (.lst (ρs.map fun μ => sD rL (rowsF (h0 :: os) μ))), .ol (((ρs.zip words5).take i).map fun q => sD rL (rowsF (h0 :: os) (lng h0 q.2 os q.1))), .d (sD rL (rowsF (h0 :: os) ρ)), .d (.str w1), rwO (h0 :: os) (lng h0 w1 (os.take j) ρ), s7, s8, s9]) rfl (.lst (.cast (.tailL (xs := (h0 :: os).map Dt.str) (n := 1) (.var 1 rfl) .int) rfl)) ⟨s7, s8, s9, rfl⟩ ?_ ?_)
    · rintro j o ds2 hj ⟨t7, t8, t9, rfl⟩
      have hom := List.mem_of_getElem? hj
      obtain ⟨ho1, ho2⟩ := ho o hom
      obtain ⟨jo, hjo⟩ := idx_of ho1
      have mμ := mρ.lng hn hnm (a := h0) (w := w1) (by simp) hwn (os.take j) fun x hx => ho x (List.mem_of_mem_take hx)
      have tl : (os.take j).length ≤ 3 := by rw [List.length_take]; omega
      have rl : ∀ x ∈ h0 :: os, (lng h0 w1 (os.take j) ρ x).length ≤ 14 := fun x hx => by have := mμ.len x hx; omega
      refine ⟨_, _, .name 7 nd, ?_⟩
      refine .cons (.appendRw 6 (h := h0) (j := 0) (d := dD (true, o, w1)) rfl hu hn rfl (rows_at (a := h0) rfl) (.ixL (n := 0) (xs := (h0 :: os).map Dt.str) (.var 1 rfl) .int rfl) (.tup (.cons .str (.cons (.var 7 rfl) (.cons (.var 5 rfl) .nil))) (show 3 ≤ 100000 by decide)) (by rw [List.length_map]; have := rl h0 (by simp); omega) ?_)
      have e6 : ((h0 :: os).map fun h => (lng h0 w1 (os.take j) ρ h).map dD).set 0 ((lng h0 w1 (os.take j) ρ h0).map dD ++ [dD (true, o, w1)]) = (h0 :: os).map fun h => (fupd (lng h0 w1 (os.take j) ρ) h0 (lng h0 w1 (os.take j) ρ h0 ++ [(true, o, w1)]) h).map dD := by
        have h := rw_set hn (ρ := lng h0 w1 (os.take j) ρ) (a := h0) (j := 0) (v := lng h0 w1 (os.take j) ρ h0 ++ [(true, o, w1)]) rfl
        rw [List.map_append] at h
        exact h
      rw [e6]
      have e7 : fupd (lng h0 w1 (os.take j) ρ) h0 (lng h0 w1 (os.take j) ρ h0 ++ [(true, o, w1)]) o = lng h0 w1 (os.take j) ρ o := fupd_ne ho2
      refine .cons (.appendRw 6 (h := o) (j := jo) (r := (fupd (lng h0 w1 (os.take j) ρ) h0 (lng h0 w1 (os.take j) ρ h0 ++ [(true, o, w1)]) o).map dD) (d := dD (false, h0, w1)) rfl hu hn hjo (rows_at (ρ := fupd (lng h0 w1 (os.take j) ρ) h0 (lng h0 w1 (os.take j) ρ h0 ++ [(true, o, w1)])) hjo) (.var 7 rfl) (.tup (.cons .str (.cons (.ixL (n := 0) (xs := (h0 :: os).map Dt.str) (.var 1 rfl) .int rfl) (.cons (.var 5 rfl) .nil))) (show 3 ≤ 100000 by decide)) (by rw [List.length_map, e7]; have := rl o ho1; omega) (.nil ⟨.d (.str o), t8, t9, ?_⟩))
      have e8 : os.take (j + 1) = os.take j ++ [o] := by rw [List.take_add_one, hj]; rfl
      have e9 : ((h0 :: os).map fun h => (fupd (lng h0 w1 (os.take j) ρ) h0 (lng h0 w1 (os.take j) ρ h0 ++ [(true, o, w1)]) h).map dD).set jo ((lng h0 w1 (os.take j) ρ o).map dD ++ [dD (false, h0, w1)]) = (h0 :: os).map fun h => (lng h0 w1 (os.take (j + 1)) ρ h).map dD := by
        have h := rw_set hn (ρ := fupd (lng h0 w1 (os.take j) ρ) h0 (lng h0 w1 (os.take j) ρ h0 ++ [(true, o, w1)])) (a := o) (j := jo) (v := lng h0 w1 (os.take j) ρ o ++ [(false, h0, w1)]) hjo
        rw [List.map_append] at h
        rw [e8, lng_snoc]
        exact h
      rw [e7, e9]
      rfl
    · rintro ds' ⟨t7, t8, t9, rfl⟩
      rw [List.take_length]
      refine .relRw 6 rfl ?_
      rw [rw_data]
      refine .cons (.append 3 (d := sD rL (rowsF (h0 :: os) (lng h0 w1 os ρ))) rfl (.var 6 rfl) (by rw [List.length_map, List.length_take]; omega) (.nil ⟨.d (sD rL (rowsF (h0 :: os) ρ)), .d (.str w1), .d (sD rL (rowsF (h0 :: os) (lng h0 w1 os ρ))), t7, t8, t9, ?_⟩))
      rw [List.take_add_one, hx, List.map_append]
      rfl
  · rintro ds' ⟨s4, s5, s6, s7, s8, s9, rfl⟩
    rw [List.take_length]
    refine .relL 3 rfl (.cons (.retX (P := fun d => d = .bl true) (.or (x := decide ((((h0 :: os).map Dt.str).length : Int) = 1)) (.cmp (.eqI (.lenL (.var 1 rfl) T.f_len) .int)) (fun _ => ⟨_, rfl, rfl⟩) fun hx => .one (EvX.callP 0 (ok_bookRight T L) T.g_law_book_right hr rfl (EvA.x (.cons (.var 1 rfl) (.cons (.var 3 rfl) .nil))) fun as e => ?_)) fun d e => ⟨by rw [e]; exact hΦ, rfl⟩))
    have hx := of_decide_eq_false hx
    rw [List.length_map, List.length_cons] at hx
    have hos : os ≠ [] := fun z => by rw [z] at hx; exact hx rfl
    have mb2 := mb.longer (ws := words5) hn hnm hos words5_nm (by decide +kernel) (by show ρs.length ≤ 5; omega)
    refine ⟨h0 :: os, _, ?_, nk, BL _ _ _ nk mb2 (by omega), rfl⟩
    rw [e, ← eB, List.map_map]
    rfl
end
end K66
set_option maxHeartbeats 4000000
namespace K66
variable [TabAt]
open PySem PySem.Spec PyProof.Rows L2
section
variable {X : Cx} {ds : List Sl} {e b : Expr} {pos p q1 : Pos} {d : Dt}
/-- _law_pot(script, k) -/
theorem EvX.potCall (i : Nat) {f : He.DefD} {k n : Nat} {ps : List Str} {x y : Str} {ad : Addr} {ns : List Int} (O : OkD X.prog X.w X.K X.mg X.base f k ps (spPot X.prog X.w X.K)) (hm : X.mg x = some (.ref (He.fAd X.K f.at_))) (hr : Room k X.A)
    (hs : ds[i]? = some (scr X.K ad ns)) (hb1 : EvD X b ds (.int (n : Nat))) (h4 : n < 4) (hN : X.N[i]? = some y := by rfl) (hv : Vis X.env.scope y := by first | exact Or.inl rfl | exact Or.inr (Or.inl rfl) | exact Or.inr (Or.inr rfl))
    (hd : (y == ("__debug__" : Str)) = false := by decide) (hcd : (y == ("__classdict__" : Str)) = false := by decide) (hg : Gl X x := by rfl) (hdb : (x == ("__debug__" : Str)) = false := by decide) (he : starEach [.Name y q1, b] X.env = (false, eval (.Name y q1) X.env) :: starEach [b] X.env := by rfl) (he2 : starEach [b] X.env = (false, eval b X.env) :: starEach [] X.env := by rfl)
    (hpl : (backTo pos (starEach [b] X.env)).any (·.1) = false := by rfl) :
    EvX X (.Call (.Name x p) [.Name y q1, b] [] pos) ds (fun s => ∃ pa, s = .pot pa) := fun C H σ ⟨f0, S⟩ Q q => by
  obtain ⟨fd, F, hb⟩ := O.ok
  obtain ⟨e1, e2, e3⟩ := S.sl i _ hs
  refine peW (pe_call F hr hg hm O.kp hb .nil pass0 (pa_cons wpE.pe (pa_cons wpE.pe pa_nil he2) he) hdb he hpl) (nameW e2 (hb1 C H σ S.sd _ fun u C1 H1 x1 i1 => ?_) hN hv hd hcd)
  rw [show u = V.int (n : Nat) from i1]
  refine ⟨C1, ad, ns, n, rfl, e3 C1 x1.le, h4, x1.le', fun pa C2 H2 x2 hp c2 pt => ?_⟩
  exact q (.ref pa) C2 H2 (.pot pa) [pa] (x1.trans x2).w (S.mono (x1.trans x2)).pots ⟨rfl, rfl, c2, pt⟩ (nd1 pa) (fun a ha => by rw [List.mem_singleton.mp ha]; exact gone (W := fun _ => False) x1.w hp) ⟨pa, rfl⟩
/-- f(a pot of its own) -/
theorem EvD.onPot {f : He.DefD} {k : Nat} {ps : List Str} {pre : List Dt → (Dt → Prop) → Prop} {x : Str} (O : OkD X.prog X.w X.K X.mg X.base f k ps (spP X.prog X.w pre)) (hm : X.mg x = some (.ref (He.fAd X.K f.at_))) (hr : Room k X.A)
    (h : EvX X e ds (fun s => ∃ pa, s = .pot pa)) (hpre : pre [] fun z => z = d) (hnp : ∀ a, ¬ pw ds a) (hg : Gl X x := by rfl) (hdb : (x == ("__debug__" : Str)) = false := by decide) (he : starEach [e] X.env = (false, eval e X.env) :: starEach [] X.env := by rfl) :
    EvD X (.Call (.Name x p) [e] [] pos) ds d := fun C H σ S Q q => by
  obtain ⟨fd, F, hb⟩ := O.ok
  refine peW (pe_call F hr hg hm O.kp hb .nil pass0 (pa_cons wpE.pe pa_nil he) hdb he) (h C H σ S _ fun v C1 H1 s fp x1 po i1 n1 f1 ⟨pa, e⟩ => ?_)
  subst e
  obtain ⟨ef, ev, c1, pt⟩ := i1
  cases ev
  refine ⟨C1, pa, [], [], _, rfl, hpre, x1.le', rfl, c1, pt, fun v C2 H2 d x2 c2 pt2 iv hd => ?_⟩
  subst hd
  have hp : H pa = none := f1 pa (by rw [ef]; simp)
  exact q v C2 H2 ((x1.old x2 fun a e => .inr (by rw [e]; exact hp)).stp hnp) iv
end
section
variable {P : Program} {w : World} {K : PySem.W.Frag} {mg : Str → Option Value} {base : Heap}
def spLaw (P : Program) (w : World) (K : PySem.W.Frag) : Sp := fun vs H Q _ => ∃ (C : Hp) (a : Addr) (ns : List Int), vs = [.ref a] ∧ SqL K C a (ns.map .int) ∧ Le C H ∧ ∀ H', Q (.bl true) H'
abbrev nLaw : List Str := ["_law_script", "_law_k"]
theorem ok_law (T : Txt K mg) (L : LamT K mg base) (BL : ∀ hs n ρs, NamesOk hs → MBook hs n ρs → n ≤ 8 → BkLaw hs (ρs.map (rowsF hs))) {fd : FuncData} (F : FnP K d_law (He.fAd K d_law.at_) fd) : FnOk P w K mg base CX0 11 (He.fAd K d_law.at_) fd ["_law_script"] (spLaw P w K) := by
  have nd : nLaw.Nodup := by decide +kernel
  refine F.ok (N := nLaw) ⟨rfl, rfl, rfl, by decide +kernel, rfl, by decide +kernel, by decide +kernel⟩ (fun vs H Q E h => ?_) fun cdv A outer s H vs Q E hr h => ⟨_, PSs.nox wpSs.pss, ?_⟩
  · obtain ⟨C, a, ns, rfl, _⟩ := h; rfl
  obtain ⟨C, a, ns, rfl, hq, lc, q⟩ := h
  have S0 : SWx (PX P w K mg base nLaw d_law cdv A outer s H E) (fun _ => False) H C H (L2.start nLaw [.ref a]) [scr K a ns, .un] := by
    refine ⟨fun _ => [], lc, rfl, fun j s e => ?_, fun _ => List.nodup_nil, fun _ _ _ _ h => by simp at h, fun _ _ h => by simp at h, fun _ _ => rfl⟩
    match j, e with
    | 0, e => cases e; exact ⟨rfl, rfl, fun C' l => scrCore (fun a o _ h => l.ex a o h) hq⟩
    | 1, e => cases e; exact rfl
    | j + 2, e => simp at e
  have body : Ss (PX P w K mg base nLaw d_law cdv A outer s H E) d_law.body [scr K a ns, .un] (fun r => ∃ ds, r = .rt (.bl true) ds) := by
    refine .cons (.ret (.cast (.allm (ys := List.range (max 1 (min 4 ns.length))) (f := fun _ => true) rfl (.lcm (enc := intD) (own := [("_law_k", 1)]) rfl nd (.cast' (.rng1 (n := max 1 (min 4 ns.length)) (.cast (.max2 rfl .int (.min2 rfl .int (.lenV 0 rfl T.f_len) T.f_min) T.f_max) ?_) T.f_range (by omega)) rng0) (blk_of rfl) (by rw [List.length_range]; omega) fun k hk => ⟨_, [1], by simp, fun s H C cl fp => .name 1 nd, fun s H C cl fp => .onPot (ok_right T L BL) T.g_law_right hr (EvX.potCall 0 (n := k) (ns := ns) (ad := a) (ok_pot T) T.g_law_pot (hr.mono (by decide)) rfl (.var 1 rfl) ?_) ⟨rfl, rfl⟩ ?_⟩) T.f_all) ?_) ⟨_, rfl⟩)
    · split <;> split <;> congr 1 <;> omega
    · have := List.mem_range.mp hk; omega
    · rintro b ⟨i, hi⟩
      match i, hi with
      | 0, hi => cases hi
      | 1, hi => cases hi
      | i + 2, hi => simp [wipeD] at hi
    · rw [List.all_eq_true.mpr fun _ _ => rfl]
  refine body (fun _ => False) C H C H _ _ (.refl lc) S0 fun r ⟨ds, e⟩ => ?_
  subst e
  intro C' H' σ' v _ _ iv
  rw [show v = V.bl true from iv]
  exact q H'
end
end K66
set_option maxHeartbeats 4000000
namespace K66
variable [TabAt]
open PySem PySem.Spec PyProof.Rows L2
theorem hands_F {hs : List Str} {ρ : Str → Row} : hands (rowsF hs ρ) = hs := by
  unfold hands rowsF
  rw [List.map_map, show (((fun p : Str × Row => p.1) ∘ fun h => (h, ρ h)) : Str → Str) = fun h => h from rfl, List.map_id']
theorem rowsF_mem {hs : List Str} {ρ : Str → Row} {p : Str × Row} (h : p ∈ rowsF hs ρ) : p.1 ∈ hs ∧ p.2 = ρ p.1 := by
  obtain ⟨x, hx, rfl⟩ := List.mem_map.mp h
  exact ⟨hx, rfl⟩
theorem made_heard {hs : List Str} {n : Nat} {ρ : Str → Row} (m : Made hs n ρ) : heardAll (rowsF hs ρ) := fun p hp q hq => by
  obtain ⟨p1, p2⟩ := rowsF_mem hp
  obtain ⟨q1, q2⟩ := rowsF_mem hq
  rw [p2, q2]
  exact m.heard _ p1 _ q1
theorem made_let {hs : List Str} {n : Nat} {ρ : Str → Row} (nk : NamesOk hs) (m : Made hs n ρ) : (lettersD (rowsF hs ρ)).length ≤ n := by
  have := letters_few (R := rowsF hs ρ) (ρ := ρ) (fun p hp => (rowsF_mem hp).2) (by rw [hands_F]; exact nk.nd)
  rw [hands_F] at this
  exact Nat.le_trans this m.few
theorem made_pic {hs : List Str} {n : Nat} {ρ : Str → Row} (nk : NamesOk hs) (m : Made hs n ρ) (hn : n ≤ 8) : Pic (rowsF hs ρ) := by
  have hl := made_let nk m
  refine ⟨?_, by rw [hands_F]; exact nk.nd, by rw [hands_F]; exact sortedH_of nk.so, by unfold rowsF; rw [List.length_map]; exact nk.le, made_heard m, by omega, ?_, ?_⟩
  · unfold rowsOk
    rw [hands_F]
    have h1 : rowsF hs ρ ≠ [] := fun z => nk.ne (List.map_eq_nil_iff.mp z)
    have h2 : (rowsF hs ρ).length ≤ 1000 := by unfold rowsF; rw [List.length_map]; have := nk.le; omega
    rw [decide_eq_true h1, decide_eq_true h2, Bool.true_and, Bool.and_true, List.all_eq_true]
    intro p hp
    obtain ⟨p1, p2⟩ := rowsF_mem hp
    have h3 := m.len _ p1
    rw [p2, nk.nm _ p1, m.ok _ p1, decide_eq_true (show (ρ p.1).length ≤ 1000 by omega)]; rfl
  · rw [entries_few (made_heard m)]; omega
  · exact sat_of (ρ := ρ) (fun p hp => (rowsF_mem hp).2) (by rw [hands_F]; exact m.run)
theorem book_bk {hs : List Str} {n : Nat} {ρs : List (Str → Row)} (nk : NamesOk hs) (m : MBook hs n ρs) (hn : n ≤ 8) : Bk' hs (ρs.map (rowsF hs)) := by
  refine ⟨fun z => m.ne (List.map_eq_nil_iff.mp z), ?_, by rw [List.length_map]; have := m.len; omega, fun R hR => ?_, fun R hR => ?_, fun R hR => ?_⟩
  · have h1 := m.nd
    unfold List.Nodup at h1 ⊢
    rw [List.pairwise_map] at h1 ⊢
    refine h1.imp fun {a b} hne e => hne ?_
    have e2 := congrArg (fun R : Rows => R.map (·.2)) e
    unfold rowsF at e2
    rw [List.map_map, List.map_map] at e2
    exact e2
  · obtain ⟨ρ, hρ, rfl⟩ := List.mem_map.mp hR
    exact made_pic nk (m.made ρ hρ) hn
  · obtain ⟨ρ, hρ, rfl⟩ := List.mem_map.mp hR
    exact hands_F
  · obtain ⟨ρ, hρ, rfl⟩ := List.mem_map.mp hR
    have := made_let nk (m.made ρ hρ)
    omega
theorem bk_rev {hs : List Str} {B : List Rows} (h : Bk' hs B) : Bk' hs B.reverse :=
  ⟨fun z => h.ne (List.reverse_eq_nil_iff.mp z), (List.reverse_perm B).nodup_iff.mpr h.nd, by rw [List.length_reverse]; exact h.few, fun R hR => h.pic R (List.mem_reverse.mp hR), fun R hR => h.hnd R (List.mem_reverse.mp hR), fun R hR => h.let_ R (List.mem_reverse.mp hR)⟩
theorem prefs_len (rows : List Row) : (prefs rows).length = (rows.map fun r => r.length + 1).sum := by
  unfold prefs
  rw [flat_len]
  congr 1
  refine List.map_congr_left fun r _ => ?_
  unfold prefsOf
  rw [List.length_map, List.length_range]
theorem sum_const {α : Type} {f : α → Nat} {n : Nat} : ∀ {l : List α}, (∀ x ∈ l, f x ≤ n) → (l.map f).sum ≤ l.length * n
  | [], _ => Nat.zero_le _
  | x :: l, h => by
    have h1 := sum_const (l := l) (f := f) fun y hy => h y (List.mem_cons_of_mem _ hy)
    have h2 := h x List.mem_cons_self
    rw [List.map_cons, List.sum_cons, List.length_cons, Nat.succ_mul]
    omega
theorem book_few {hs : List Str} {B : List Rows} (h : Bk' hs B) (h4 : B.length ≤ 4) {x : Str} (hx : x ∈ hs) : rowsFew (rowSet (colOf B x)) := by
  have hl := rowSet_len (colOf B x)
  have hc : (colOf B x).length = B.length := by unfold colOf; rw [List.length_map]
  refine ⟨fun r hr => (col_nm h hx hr).1, ?_, by omega, fun r hr => (col_nm h hx hr).2⟩
  rw [prefs_len]
  have h1 := sum_const (l := rowSet (colOf B x)) (f := fun r => r.length + 1) (n := 1001) fun r hr => by have := (col_nm h hx hr).2; omega
  have h2 : (rowSet (colOf B x)).length * 1001 ≤ 4 * 1001 := Nat.mul_le_mul_right _ (by omega)
  omega
end K66
set_option maxHeartbeats 4000000
namespace K66
variable [TabAt]
open PySem PySem.Spec PyProof.Rows L2
theorem al_mem {α β : Type} [DecidableEq α] {l : List (α × β)} {q : α} {c : β} (e : alGet l q = some c) : (q, c) ∈ l := by
  induction l with
  | nil => simp [alGet] at e
  | cons p l ih =>
    unfold alGet at e
    split at e
    · rename_i h
      cases e
      rw [← h]
      exact List.mem_cons_self
    · exact List.mem_cons_of_mem _ (ih e)
theorem kStable {rows : List Row} {i : Nat} {x : Row} (hx : x ∈ (begins rows).take i) : alGet (kFold rows ((begins rows).take i)).1 x = alGet (kinds rows) x := by
  have go : ∀ k, alGet (kFold rows ((begins rows).take (i + k))).1 x = alGet (kFold rows ((begins rows).take i)).1 x := fun k => by
    induction k with
    | zero => rfl
    | succ k ih =>
      rw [← ih, ← Nat.add_assoc, List.take_add_one]
      cases e : (begins rows)[i + k]? with
      | none => show alGet (kFold rows (_ ++ [])).1 x = _; rw [List.append_nil]
      | some b =>
        show alGet (kFold rows (_ ++ [b])).1 x = _
        rw [kFold_snoc]
        show alGet (alPut _ b _) x = _
        rw [alGet_put, if_neg]
        intro z
        obtain ⟨j, hj⟩ := List.mem_iff_getElem?.mp hx
        have hji : j < i := by
          have := (List.getElem?_eq_some_iff.mp hj).1
          rw [List.length_take] at this; omega
        rw [List.getElem?_take_of_lt hji] at hj
        obtain ⟨h1, e1⟩ := List.getElem?_eq_some_iff.mp hj
        obtain ⟨h2, e2⟩ := List.getElem?_eq_some_iff.mp e
        have := (List.getElem_inj (begins_nodup rows)).mp (e1.trans (by rw [← z, e2]) : (begins rows)[j] = (begins rows)[i + k])
        omega
  have h := go (begins rows).length
  rw [← h, List.take_of_length_le (by omega)]
  rfl
def Kf (rows : List Row) (b : Row) : Kd := kindKey rows (kinds rows) b
theorem key_at {rows : List Row} {i : Nat} {b : Row} (h : (begins rows)[i]? = some b) : kindKey rows (kFold rows ((begins rows).take i)).1 b = Kf rows b := by
  unfold Kf kindKey
  congr 1
  refine List.map_congr_left fun d hd => ?_
  rw [kStable (later_ahead h hd)]
theorem kNew_self (m : List (Kd × Nat)) (k : Kd) : alGet (kNew m k) k = some (kNum m k) := by
  unfold kNew kNum
  cases e : alGet m k with
  | some n =>
    have : alHas m k = true := by rw [← alGet_has, e]; rfl
    rw [if_pos this, e]; rfl
  | none =>
    have : ¬ alHas m k = true := by rw [← alGet_has, e]; exact Bool.false_ne_true
    rw [if_neg this, alGet_append, e]
    show alGet [(k, m.length)] k = _
    unfold alGet
    rw [if_pos rfl]; rfl
theorem kNew_old {m : List (Kd × Nat)} {k k' : Kd} {n : Nat} (h : alGet m k' = some n) : alGet (kNew m k) k' = some n := by
  unfold kNew
  split
  · exact h
  · rw [alGet_append, h]; rfl
theorem kNew_ix {m : List (Kd × Nat)} {k : Kd} (h : ∀ (j : Nat) q n, m[j]? = some (q, n) → n = j) : ∀ (j : Nat) q n, (kNew m k)[j]? = some (q, n) → n = j := by
  intro j q n e
  unfold kNew at e
  split at e
  · exact h j q n e
  · by_cases hj : j < m.length
    · rw [List.getElem?_append_left hj] at e
      exact h j q n e
    · rw [List.getElem?_append_right (by omega)] at e
      have h0 : j - m.length = 0 := by
        have := (List.getElem?_eq_some_iff.mp e).1
        simp at this
        exact this
      rw [h0] at e
      cases e
      omega
theorem kInv {rows : List Row} : ∀ i, i ≤ (begins rows).length → (∀ (j : Nat) q n, (kFold rows ((begins rows).take i)).2[j]? = some (q, n) → n = j) ∧ ∀ b ∈ (begins rows).take i, ∃ n, alGet (kFold rows ((begins rows).take i)).1 b = some n ∧ alGet (kFold rows ((begins rows).take i)).2 (Kf rows b) = some n
  | 0, _ => ⟨fun j q n e => by rw [List.take_zero] at e; simp [kFold] at e, fun b hb => by simp at hb⟩
  | i + 1, hi => by
    obtain ⟨h1, h2⟩ := kInv (rows := rows) i (by omega)
    have e : (begins rows)[i]? = some (begins rows)[i] := List.getElem?_eq_getElem (by omega)
    have et : (begins rows).take (i + 1) = (begins rows).take i ++ [(begins rows)[i]] := by rw [List.take_add_one, e]; rfl
    rw [et, kFold_snoc]
    unfold kStep
    rw [key_at e]
    refine ⟨kNew_ix h1, fun b hb => ?_⟩
    by_cases z : (begins rows)[i] = b
    · rw [← z]
      refine ⟨kNum (kFold rows ((begins rows).take i)).2 (Kf rows (begins rows)[i]), ?_, kNew_self _ _⟩
      show alGet (alPut _ _ _) _ = _
      rw [alGet_put, if_pos rfl]
    · rcases List.mem_append.mp hb with hb | hb
      · obtain ⟨n, g1, g2⟩ := h2 b hb
        refine ⟨n, ?_, kNew_old g2⟩
        show alGet (alPut _ _ _) _ = _
        rw [alGet_put, if_neg z]; exact g1
      · exact absurd (List.mem_singleton.mp hb).symm z
theorem kinds_iff {rows : List Row} {b c : Row} (hb : b ∈ begins rows) (hc : c ∈ begins rows) : kindN rows b = kindN rows c ↔ Kf rows b = Kf rows c := by
  obtain ⟨h1, h2⟩ := kInv (rows := rows) (begins rows).length (Nat.le_refl _)
  rw [List.take_length] at h1 h2
  obtain ⟨n, g1, g2⟩ := h2 b hb
  obtain ⟨m, g3, g4⟩ := h2 c hc
  have e1 : kindN rows b = n := by
    have := kinds_get hb
    rw [show alGet (kinds rows) b = some n from g1] at this
    exact (Option.some.inj this).symm
  have e2 : kindN rows c = m := by
    have := kinds_get hc
    rw [show alGet (kinds rows) c = some m from g3] at this
    exact (Option.some.inj this).symm
  rw [e1, e2]
  constructor
  · intro e
    subst e
    obtain ⟨i, hi⟩ := List.mem_iff_getElem?.mp (al_mem g2)
    obtain ⟨j, hj⟩ := List.mem_iff_getElem?.mp (al_mem g4)
    have := h1 i _ _ hi
    have := h1 j _ _ hj
    have e3 : i = j := by omega
    rw [e3, hj] at hi
    exact ((Prod.mk.inj (Option.some.inj hi)).1).symm
  · intro e
    rw [e, g4] at g2
    exact (Option.some.inj g2).symm
theorem Kf_eq {rows : List Row} (b : Row) : Kf rows b = (decide (b ∈ rows), (behind rows b).map fun d => (d, kindN rows (b ++ [d]))) := rfl
theorem kind_same {rows : List Row} {b c : Row} (hb : b ∈ begins rows) (hc : c ∈ begins rows) (h : kindN rows b = kindN rows c) : (b ∈ rows ↔ c ∈ rows) ∧ behind rows b = behind rows c ∧ ∀ d ∈ behind rows b, kindN rows (b ++ [d]) = kindN rows (c ++ [d]) := by
  have e := (kinds_iff hb hc).mp h
  rw [Kf_eq, Kf_eq] at e
  obtain ⟨e1, e2⟩ := Prod.mk.inj e
  have e3 : behind rows b = behind rows c := by
    have := congrArg (List.map Prod.fst) e2
    rw [List.map_map, List.map_map] at this
    have id1 : ∀ (x : Row) (l : List Deed), l.map (Prod.fst ∘ fun d => (d, kindN rows (x ++ [d]))) = l := fun x l => by
      induction l with
      | nil => rfl
      | cons d l ih => rw [List.map_cons, ih]; rfl
    rwa [id1, id1] at this
  refine ⟨decide_eq_decide.mp e1, e3, fun d hd => ?_⟩
  rw [← e3] at e2
  have : ∀ l : List Deed, d ∈ l → (l.map fun d => (d, kindN rows (b ++ [d]))) = (l.map fun d => (d, kindN rows (c ++ [d]))) → kindN rows (b ++ [d]) = kindN rows (c ++ [d]) := fun l => by
    induction l with
    | nil => intro z; simp at z
    | cons x l ih =>
      intro hm e
      obtain ⟨a1, a2⟩ := List.cons.inj e
      rcases List.mem_cons.mp hm with z | z
      · rw [z]; exact (Prod.mk.inj a1).2
      · exact ih z a2
  exact this _ hd e2
end K66
set_option maxHeartbeats 4000000
namespace K66
variable [TabAt]
open PySem PySem.Spec PyProof.Rows L2
theorem iStep_keys {rows : List Row} {b : Row} {d : Deed} {a : IS} {done : List Deed} (hk : a.2.2.map (·.1) = done) (hd : d ∉ done) : (iStep rows b a d).2.2.map (·.1) = done ++ [d] := by
  unfold iStep
  dsimp only
  rw [alPut_new (by rw [hk]; exact hd), List.map_append, hk]
  rfl
theorem turn_fold {rows : List Row} {b : Row} : ∀ {l : List Deed} {a : IS} {done : List Deed}, MI rows a.1 a.2.1 → (∀ d ∈ l, b ++ [d] ∈ begins rows) → (done ++ l).Nodup → a.2.2.map (·.1) = done → (∀ d ∈ done, ∃ j b', alGet a.2.2 d = some j ∧ a.2.1[j]? = some b' ∧ kindN rows b' = kindN rows (b ++ [d])) →
    (l.foldl (iStep rows b) a).2.2.map (·.1) = done ++ l ∧ ∀ d ∈ done ++ l, ∃ j b', alGet (l.foldl (iStep rows b) a).2.2 d = some j ∧ (l.foldl (iStep rows b) a).2.1[j]? = some b' ∧ kindN rows b' = kindN rows (b ++ [d])
  | [], a, done, _, _, _, hk, hv => ⟨by rw [List.append_nil]; exact hk, by rw [List.append_nil]; exact hv⟩
  | d :: l, a, done, mi, hl, hn, hk, hv => by
    have hd : d ∉ done := fun z => (List.nodup_append.mp hn).2.2 d z d List.mem_cons_self rfl
    obtain ⟨m1, ⟨i, b', g1, g2, g3⟩, pre⟩ := mi.step (hl d List.mem_cons_self)
    have e : done ++ d :: l = (done ++ [d]) ++ l := by rw [List.append_assoc]; rfl
    rw [e] at hn ⊢
    refine turn_fold (l := l) (a := iStep rows b a d) (done := done ++ [d]) m1 (fun x hx => hl x (List.mem_cons_of_mem _ hx)) hn (iStep_keys hk hd) fun x hx => ?_
    have e3 : (iStep rows b a d).2.2 = alPut a.2.2 d ((alGet (iStep rows b a d).1 ((kindN rows (b ++ [d]) : Nat) : Int)).getD 0) := rfl
    rcases List.mem_append.mp hx with z | z
    · obtain ⟨j, c, k1, k2, k3⟩ := hv x z
      refine ⟨j, c, ?_, ?_, k3⟩
      · rw [e3, alGet_put, if_neg fun q => hd (by rw [q]; exact z)]; exact k1
      · obtain ⟨t, ht⟩ := pre
        rw [← ht, List.getElem?_append_left (List.getElem?_eq_some_iff.mp k2).1]; exact k2
    · rw [List.mem_singleton.mp z]
      exact ⟨i, b', by rw [e3, alGet_put, if_pos rfl, g3]; rfl, g1, g2⟩
/-- what holds of the machine so far -/
structure VI (rows : List Row) (s : MS) : Prop where
  mi : MI rows s.st s.hd
  zero : s.hd[0]? = some []
  le : s.steps.length ≤ s.hd.length
  step : ∀ (i : Nat) l b, s.steps[i]? = some l → s.hd[i]? = some b → l.map (·.1) = behind rows b ∧ ∀ d ∈ behind rows b, ∃ j b', alGet l d = some j ∧ s.hd[j]? = some b' ∧ kindN rows b' = kindN rows (b ++ [d])
  ends : ∀ i, i ∈ s.ends ↔ i < s.steps.length ∧ ∃ b, s.hd[i]? = some b ∧ b ∈ rows
theorem VI.init {rows : List Row} (h0 : [] ∈ begins rows) : VI rows (mInit rows) :=
  ⟨.init h0, rfl, Nat.zero_le _, fun i l b h => by simp [mInit] at h, fun i => ⟨fun h => by simp [mInit] at h, fun h => by simp [mInit] at h⟩⟩
theorem VI.turn {rows : List Row} {s : MS} (v : VI rows s) (hlt : s.steps.length < s.hd.length) : VI rows (mTurn rows s) := by
  obtain ⟨m1, pre⟩ := v.mi.turn
  have hb : s.hd[s.steps.length]? = some (s.hd.getD s.steps.length []) := by
    rw [List.getD_eq_getElem?_getD, List.getElem?_eq_getElem hlt]; rfl
  have keep : ∀ (i : Nat) c, s.hd[i]? = some c → (mTurn rows s).hd[i]? = some c := fun i c h => by
    obtain ⟨t, ht⟩ := pre
    rw [← ht, List.getElem?_append_left (List.getElem?_eq_some_iff.mp h).1]; exact h
  have back : ∀ (i : Nat) c, i < s.hd.length → (mTurn rows s).hd[i]? = some c → s.hd[i]? = some c := fun i c hi h => by
    obtain ⟨t, ht⟩ := pre
    rwa [← ht, List.getElem?_append_left hi] at h
  obtain ⟨f1, f2⟩ := turn_fold (b := s.hd.getD s.steps.length []) (l := behind rows (s.hd.getD s.steps.length [])) (a := (s.st, s.hd, [])) (done := []) v.mi (fun _ hd => behind_begins hd) (by rw [List.nil_append]; exact behind_nodup _ _) rfl (fun d h => by simp at h)
  rw [List.nil_append] at f1 f2
  have es : (mTurn rows s).steps = s.steps ++ [((behind rows (s.hd.getD s.steps.length [])).foldl (iStep rows (s.hd.getD s.steps.length [])) (s.st, s.hd, [])).2.2] := rfl
  have ls : (mTurn rows s).steps.length = s.steps.length + 1 := by rw [es, List.length_append]; rfl
  refine ⟨m1, keep 0 _ v.zero, ?_, fun i l b hl hb' => ?_, fun i => ?_⟩
  · rw [ls]
    have := pre.length_le
    omega
  · by_cases hi : i < s.steps.length
    · rw [es, List.getElem?_append_left hi] at hl
      obtain ⟨g1, g2⟩ := v.step i l b hl (back i b (by omega) hb')
      refine ⟨g1, fun d hd => ?_⟩
      obtain ⟨j, c, k1, k2, k3⟩ := g2 d hd
      exact ⟨j, c, k1, keep j c k2, k3⟩
    · have hii : i = s.steps.length := by
        have := (List.getElem?_eq_some_iff.mp hl).1
        omega
      subst hii
      rw [es, List.getElem?_append_right (Nat.le_refl _), Nat.sub_self] at hl
      cases hl
      have := back _ _ hlt hb'
      rw [hb] at this
      cases this
      exact ⟨f1, f2⟩
  · have ee : (mTurn rows s).ends = if s.hd.getD s.steps.length [] ∈ rows then s.ends ++ [s.steps.length] else s.ends := rfl
    rw [ee, ls]
    have old : ∀ i, i ∈ s.ends ↔ i < s.steps.length ∧ ∃ b, (mTurn rows s).hd[i]? = some b ∧ b ∈ rows := fun i => by
      rw [v.ends i]
      constructor
      · rintro ⟨a, c, h1, h2⟩; exact ⟨a, c, keep i c h1, h2⟩
      · rintro ⟨a, c, h1, h2⟩; exact ⟨a, c, back i c (by omega) h1, h2⟩
    by_cases hi : i < s.steps.length
    · have : i ∈ (if s.hd.getD s.steps.length [] ∈ rows then s.ends ++ [s.steps.length] else s.ends) ↔ i ∈ s.ends := by
        split
        · rw [List.mem_append, List.mem_singleton]
          exact ⟨fun z => z.elim id fun z => by omega, .inl⟩
        · exact Iff.rfl
      rw [this, old i]
      exact ⟨fun ⟨a, b⟩ => ⟨by omega, b⟩, fun ⟨a, b⟩ => ⟨hi, b⟩⟩
    · have no : i ∉ s.ends := fun z => hi ((v.ends i).mp z).1
      constructor
      · intro h
        split at h
        · rename_i hm
          rcases List.mem_append.mp h with z | z
          · exact absurd z no
          · rw [List.mem_singleton.mp z]
            exact ⟨by omega, _, keep _ _ hb, hm⟩
        · exact absurd h no
      · rintro ⟨h1, c, h2, h3⟩
        have hii : i = s.steps.length := by omega
        subst hii
        have := back _ _ hlt h2
        rw [hb] at this
        cases this
        rw [if_pos h3]
        exact List.mem_append_right _ (List.mem_singleton.mpr rfl)
theorem VI.iter {rows : List Row} (h0 : [] ∈ begins rows) : ∀ n, VI rows (mIter rows n) ∧ ((mIter rows n).steps.length = n ∨ (mIter rows n).hd.length ≤ (mIter rows n).steps.length)
  | 0 => ⟨.init h0, .inl rfl⟩
  | n + 1 => by
    obtain ⟨v, h⟩ := VI.iter h0 n
    show VI rows (mStep rows (mIter rows n)) ∧ ((mStep rows (mIter rows n)).steps.length = n + 1 ∨ (mStep rows (mIter rows n)).hd.length ≤ (mStep rows (mIter rows n)).steps.length)
    unfold mStep
    by_cases z : (mIter rows n).steps.length < (mIter rows n).hd.length
    · rw [if_pos z]
      refine ⟨v.turn z, .inl ?_⟩
      show ((mIter rows n).steps ++ [_]).length = n + 1
      rw [List.length_append]
      rcases h with h | h
      · rw [h]; rfl
      · omega
    · rw [if_neg z]
      exact ⟨v, .inr (by omega)⟩
end K66
set_option maxHeartbeats 4000000
namespace K66
variable [TabAt]
open PySem PySem.Spec PyProof.Rows L2
section
variable {rows : List Row}
/-- the machine in the end -/
structure VF (rows : List Row) : Prop where
  v : VI rows (mIter rows (begins rows).length)
  full : (mIter rows (begins rows).length).steps.length = (mIter rows (begins rows).length).hd.length
theorem vf_of (hne : rows ≠ []) : VF rows := by
  have h0 : [] ∈ begins rows := by
    obtain ⟨r, hr⟩ := List.exists_mem_of_ne_nil rows hne
    exact mem_begins.mpr ⟨r, hr, List.nil_prefix⟩
  obtain ⟨v, h⟩ := VI.iter h0 (begins rows).length
  refine ⟨v, ?_⟩
  have := v.mi.few
  have := v.le
  rcases h with h | h <;> omega
theorem VF.at_ (V : VF rows) {i : Nat} {b : Row} (h : (mIter rows (begins rows).length).hd[i]? = some b) : ∃ l, (mach rows).1[i]? = some l ∧ l.map (·.1) = behind rows b ∧ ∀ d ∈ behind rows b, ∃ j b', alGet l d = some j ∧ (mIter rows (begins rows).length).hd[j]? = some b' ∧ kindN rows b' = kindN rows (b ++ [d]) := by
  have hi := (List.getElem?_eq_some_iff.mp h).1
  have hl : (mach rows).1[i]? = some ((mach rows).1[i]'(by show i < (mIter rows (begins rows).length).steps.length; rw [V.full]; exact hi)) := List.getElem?_eq_getElem _
  exact ⟨_, hl, V.v.step i _ b hl h⟩
theorem pre_begins {r b : Row} (hr : r ∈ rows) (h : b <+: r) : b ∈ begins rows := mem_begins.mpr ⟨r, hr, h⟩
/-- a state for what a row begins with -/
theorem VF.run (V : VF rows) {r : Row} (hr : r ∈ rows) : ∀ {q b : Row} {i : Nat} {c : Row}, b ++ q = r → (mIter rows (begins rows).length).hd[i]? = some c → kindN rows c = kindN rows b → ∃ j c', runM (mach rows).1 i q = some j ∧ (mIter rows (begins rows).length).hd[j]? = some c' ∧ kindN rows c' = kindN rows r
  | [], b, i, c, e, h, hk => by
    rw [List.append_nil] at e
    subst e
    exact ⟨i, c, rfl, h, hk⟩
  | d :: q, b, i, c, e, h, hk => by
    have hb : b ∈ begins rows := pre_begins hr ⟨d :: q, e⟩
    have hc : c ∈ begins rows := V.v.mi.sub c (List.mem_of_getElem? h)
    have hd : d ∈ behind rows b := mem_behind.mpr ⟨r, hr, q, by rw [List.append_assoc]; exact e⟩
    obtain ⟨_, k2, k3⟩ := kind_same hc hb hk
    obtain ⟨l, hl, _, g⟩ := V.at_ h
    rw [k2] at g
    obtain ⟨j, c', g1, g2, g3⟩ := g d hd
    obtain ⟨m, c2, r1, r2, r3⟩ := VF.run V hr (q := q) (b := b ++ [d]) (i := j) (c := c') (by rw [List.append_assoc]; exact e) g2 (by rw [g3]; exact k3 d (by rw [k2]; exact hd))
    refine ⟨m, c2, ?_, r2, r3⟩
    show (match alGet ((mach rows).1.getD i []) d with
      | none => none
      | some t => runM (mach rows).1 t q) = some m
    rw [List.getD_eq_getElem?_getD, hl]
    show (match alGet l d with
      | none => none
      | some t => runM (mach rows).1 t q) = some m
    rw [g1]
    exact r1
theorem VF.run0 (V : VF rows) {r : Row} (hr : r ∈ rows) : ∃ j c', runM (mach rows).1 0 r = some j ∧ (mIter rows (begins rows).length).hd[j]? = some c' ∧ kindN rows c' = kindN rows r ∧ c' ∈ rows ∧ behind rows c' = behind rows r ∧ j ∈ (mach rows).2 := by
  obtain ⟨j, c', h1, h2, h3⟩ := V.run hr (q := r) (b := []) (i := 0) (c := []) rfl V.v.zero rfl
  obtain ⟨k1, k2, _⟩ := kind_same (V.v.mi.sub c' (List.mem_of_getElem? h2)) (pre_begins hr (List.prefix_refl r)) h3
  have hc := k1.mpr hr
  exact ⟨j, c', h1, h2, h3, hc, k2, (V.v.ends j).mpr ⟨by rw [V.full]; exact (List.getElem?_eq_some_iff.mp h2).1, c', h2, hc⟩⟩
theorem al_nd {α β : Type} [DecidableEq α] {l : List (α × β)} (hn : (l.map (·.1)).Nodup) {p : α × β} (hp : p ∈ l) : alGet l p.1 = some p.2 := by
  induction l with
  | nil => simp at hp
  | cons x l ih =>
    rw [List.map_cons, List.nodup_cons] at hn
    unfold alGet
    rcases List.mem_cons.mp hp with e | e
    · rw [e, if_pos rfl]
    · rw [if_neg fun z => hn.1 (by rw [z]; exact List.mem_map.mpr ⟨p, e, rfl⟩)]
      exact ih hn.2 e
theorem ends_le (n : Nat) : (mIter rows n).ends.length ≤ (mIter rows n).steps.length := by
  induction n with
  | zero => exact Nat.le_refl _
  | succ n ih =>
    show (mStep rows (mIter rows n)).ends.length ≤ (mStep rows (mIter rows n)).steps.length
    unfold mStep
    split
    · show (if _ ∈ rows then (mIter rows n).ends ++ [(mIter rows n).steps.length] else (mIter rows n).ends).length ≤ ((mIter rows n).steps ++ [_]).length
      rw [List.length_append]
      split
      · rw [List.length_append]; show _ + 1 ≤ _ + 1; omega
      · omega
    · exact ih
theorem max_row : ∀ {l : List Row}, l ≠ [] → ∃ r ∈ l, ∀ o ∈ l, o.length ≤ r.length
  | [], h => absurd rfl h
  | [r], _ => ⟨r, by simp, fun o ho => by rw [List.mem_singleton.mp ho]; exact Nat.le_refl _⟩
  | r :: x :: l, _ => by
    obtain ⟨m, hm, h⟩ := max_row (l := x :: l) (by simp)
    by_cases z : r.length ≤ m.length
    · refine ⟨m, List.mem_cons_of_mem _ hm, fun o ho => ?_⟩
      rcases List.mem_cons.mp ho with e | e
      · rw [e]; exact z
      · exact h o e
    · refine ⟨r, List.mem_cons_self, fun o ho => ?_⟩
      rcases List.mem_cons.mp ho with e | e
      · rw [e]; exact Nat.le_refl _
      · have := h o e; omega
theorem count_one {α : Type} {p : α → Bool} : ∀ {l : List α} {i0 : Nat}, (∃ x, l[i0]? = some x ∧ p x = true) → (∀ (i : Nat) x, l[i]? = some x → p x = true → i = i0) → l.countP p = 1
  | [], i0, ⟨x, h, _⟩, _ => by simp at h
  | y :: l, 0, ⟨x, h, hx⟩, u => by
    simp at h
    subst h
    rw [List.countP_cons, if_pos hx]
    have : l.countP p = 0 := List.countP_eq_zero.mpr fun z hz hp => by
      obtain ⟨i, hi⟩ := List.mem_iff_getElem?.mp hz
      have := u (i + 1) z (by simpa using hi) hp
      omega
    rw [this]
  | y :: l, i0 + 1, ⟨x, h, hx⟩, u => by
    have hy : ¬ p y = true := fun z => by have := u 0 y rfl z; omega
    rw [List.countP_cons, if_neg hy]
    exact count_one (l := l) (i0 := i0) ⟨x, by simpa using h, hx⟩ fun i z hz hp => by
      have := u (i + 1) z (by simpa using hz) hp
      omega
theorem mch_all (hne : rows ≠ []) (few : rowsFew rows) : MchAll rows := by
  have V := vf_of hne
  have lst : ∀ i, i < (mach rows).1.length → ∃ b l, (mIter rows (begins rows).length).hd[i]? = some b ∧ (mach rows).1[i]? = some l ∧ l.map (·.1) = behind rows b ∧ ∀ d ∈ behind rows b, ∃ j b', alGet l d = some j ∧ (mIter rows (begins rows).length).hd[j]? = some b' ∧ kindN rows b' = kindN rows (b ++ [d]) := fun i hi => by
    have hi' : i < (mIter rows (begins rows).length).hd.length := by rw [← V.full]; exact hi
    have hb : (mIter rows (begins rows).length).hd[i]? = some ((mIter rows (begins rows).length).hd[i]) := List.getElem?_eq_getElem hi'
    obtain ⟨l, h1, h2⟩ := V.at_ hb
    exact ⟨_, l, hb, h1, h2⟩
  have full : (mach rows).1.length = (mIter rows (begins rows).length).hd.length := V.full
  have hN : (begins rows).length ≤ 50000 := Nat.le_trans (begins_len rows) few.2.1
  have hlen : (mach rows).1.length ≤ 50000 := by
    have := V.v.mi.few
    omega
  have inr : ∀ e ∈ (mach rows).2, e < (mach rows).1.length := fun e he => ((V.v.ends e).mp he).1
  refine ⟨⟨few, ⟨?_, fun l hl p hp => ?_, by omega, ?_⟩, fun r hr => ?_⟩, inr, ?_, ?_⟩
  · rw [full]
    exact (List.getElem?_eq_some_iff.mp V.v.zero).1
  · obtain ⟨i, hi⟩ := List.mem_iff_getElem?.mp hl
    obtain ⟨b, l', h1, h2, h3, h4⟩ := lst i (List.getElem?_eq_some_iff.mp hi).1
    rw [hi] at h2
    cases h2
    have hd : p.1 ∈ behind rows b := by rw [← h3]; exact List.mem_map.mpr ⟨p, hp, rfl⟩
    obtain ⟨j, b', g1, g2, _⟩ := h4 p.1 hd
    rw [al_nd (by rw [h3]; exact behind_nodup _ _) hp] at g1
    cases g1
    rw [full]
    exact (List.getElem?_eq_some_iff.mp g2).1
  · have h1 := ends_le (rows := rows) (begins rows).length
    have h2 : (mach rows).2.length ≤ (mach rows).1.length := h1
    omega
  · obtain ⟨j, c', h1, _, _, _, _, h2⟩ := V.run0 hr
    unfold readsB
    rw [h1]
    exact decide_eq_true h2
  · rw [Bool.eq_iff_iff, decide_eq_true_eq, List.any_eq_true]
    constructor
    · intro h
      obtain ⟨x, hx⟩ := List.exists_mem_of_length_pos h
      obtain ⟨e, he, hx⟩ := List.mem_filterMap.mp hx
      split at hx
      · cases hx
      · rename_i hz
        obtain ⟨_, b, hb, hbr⟩ := (V.v.ends e).mp he
        obtain ⟨l, h1, h2, _⟩ := V.at_ hb
        have hl : l ≠ [] := fun z => hz (by rw [List.getD_eq_getElem?_getD, h1, z]; exact decide_eq_true rfl)
        have hd : behind rows b ≠ [] := fun z => by rw [z] at h2; exact hl (List.map_eq_nil_iff.mp h2)
        obtain ⟨d, hd⟩ := List.exists_mem_of_ne_nil _ hd
        obtain ⟨o, ho, t, ht⟩ := mem_behind.mp hd
        refine ⟨b, hbr, ?_⟩
        unfold waitB
        rw [List.any_eq_true]
        refine ⟨o, ho, ?_⟩
        rw [Bool.and_eq_true, decide_eq_true_eq, decide_eq_true_eq, ← ht]
        refine ⟨by rw [List.length_append, List.length_append]; show _ < _ + 1 + _; omega, by rw [List.append_assoc, List.take_left' rfl]⟩
    · rintro ⟨r, hr, hw⟩
      unfold waitB at hw
      obtain ⟨o, ho, hk⟩ := List.any_eq_true.mp hw
      rw [Bool.and_eq_true, decide_eq_true_eq, decide_eq_true_eq] at hk
      obtain ⟨k1, k2⟩ := hk
      have hd : o[r.length] ∈ behind rows r := mem_behind.mpr ⟨o, ho, by
        have e : o.take (r.length + 1) = r ++ [o[r.length]] := by rw [List.take_add_one, k2, List.getElem?_eq_getElem k1]; rfl
        rw [← e]
        exact List.take_prefix _ _⟩
      obtain ⟨j, c', h1, h2, h3, h4, h5, h6⟩ := V.run0 hr
      obtain ⟨l, g1, g2, _⟩ := V.at_ h2
      rw [h5] at g2
      have hl : l ≠ [] := fun z => by rw [z] at g2; rw [← g2] at hd; simp at hd
      refine List.length_pos_of_mem (a := intD j) (List.mem_filterMap.mpr ⟨j, h6, ?_⟩)
      rw [if_neg]
      rw [List.getD_eq_getElem?_getD, g1]
      show ¬ decide (l = []) = true
      rw [decide_eq_false hl]; exact Bool.false_ne_true
  · obtain ⟨r, hr, hmax⟩ := max_row hne
    have hb0 : behind rows r = [] := by
      refine Classical.byContradiction fun z => ?_
      obtain ⟨d, hd⟩ := List.exists_mem_of_ne_nil _ z
      obtain ⟨o, ho, hp⟩ := mem_behind.mp hd
      have h1 := hp.length_le
      have h2 := hmax o ho
      rw [List.length_append] at h1
      have : ([d] : Row).length = 1 := rfl
      omega
    have mx : ∀ b ∈ begins rows, behind rows b = [] → b ∈ rows := fun b hb hz => by
      obtain ⟨o, ho, t, ht⟩ := mem_begins.mp hb
      cases t with
      | nil => rw [List.append_nil] at ht; rw [ht]; exact ho
      | cons d t =>
        have : d ∈ behind rows b := mem_behind.mpr ⟨o, ho, t, by rw [List.append_assoc]; exact ht⟩
        rw [hz] at this
        simp at this
    obtain ⟨j, c', h1, h2, h3, h4, h5, h6⟩ := V.run0 hr
    obtain ⟨l, g1, g2, _⟩ := V.at_ h2
    rw [h5, hb0] at g2
    refine count_one (i0 := j) ⟨l, g1, decide_eq_true (List.map_eq_nil_iff.mp g2)⟩ fun i x hx hp => ?_
    have hx0 := of_decide_eq_true hp
    obtain ⟨b, l', k1, k2, k3, _⟩ := lst i (List.getElem?_eq_some_iff.mp hx).1
    rw [hx] at k2
    cases k2
    rw [hx0] at k3
    have hbb := V.v.mi.sub b (List.mem_of_getElem? k1)
    have hcb := V.v.mi.sub c' (List.mem_of_getElem? h2)
    have e : kindN rows b = kindN rows c' := (kinds_iff hbb hcb).mpr (by
      rw [Kf_eq, Kf_eq, ← k3, h5, hb0, decide_eq_true (mx b hbb k3.symm), decide_eq_true h4]; rfl)
    have v1 := V.v.mi.vals i b k1
    have v2 := V.v.mi.vals j c' h2
    rw [e, v2] at v1
    exact (Option.some.inj v1).symm
end
theorem bk_law : ∀ hs n ρs, NamesOk hs → MBook hs n ρs → n ≤ 8 → BkLaw hs (ρs.map (rowsF hs)) := fun hs n ρs nk m hn => by
  have hb := book_bk nk m hn
  have h4 : (ρs.map (rowsF hs)).length ≤ 4 := by rw [List.length_map]; exact m.len
  refine ⟨hb, bk_rev hb, h4, fun h hh => mch_all (fun z => ?_) (book_few hb h4 hh)⟩
  obtain ⟨R, hR, _⟩ := hb.head
  have : rowAt R h ∈ rowSet (colOf (ρs.map (rowsF hs)) h) := mem_rowSet.mpr (List.mem_map.mpr ⟨R, List.mem_of_getElem? hR, rfl⟩)
  rw [z] at this
  simp at this
end K66
set_option maxHeartbeats 0
namespace K66
open PySem PySem.Spec PyProof.Rows L2
def loose0 : List Str := ["_wall", "__name__", "LETTERS", "MOST_SIGNS", "SAY", "GET", "is_list", "is_integer", "is_count", "is_name", "is_deed", "PictureError", "InvalidRows", "InvalidHands", "InvalidNumber", "InvalidPictures", "InvalidRow", "MissingError", "UnknownHand", "UnknownSpot", "UnknownLetter", "StateError", "Unheard", "ComesRound", "OtherHands", "LimitError", "TooMany", "is_row", "are_rows", "kept_rows"]
def loose1 : List Str := ["key_of", "places_of", "said", "got", "unheard", "says_of_gets", "done_counts", "is_free", "goals_of", "comes_back", "turning", "want_hand", "want_hands", "want_same_hands", "Whole", "Picture", "letters_of", "want_few_letters", "checked_rows", "picture_of", "is_letter", "want_letter", "is_spot", "want_spot", "name_of", "want_pictures", "is_number", "want_number", "rows_by_hand", "Book"]
def loose2 : List Str := ["numbers_with", "is_begun", "possible_to", "sure_of_row", "sure_of_picture", "alike_to", "told_apart", "is_waiter", "waiters", "beginnings", "deeds_behind", "kinds_of", "machine", "reads", "_law_pot", "_law_draw", "_law_pick", "_law_names", "_law_rows", "_law_reworded", "_law_book", "_law_hand_right", "_law_book_right", "_law_right"]
def loose : List Str := loose0 ++ loose1 ++ loose2
def frA {β : Type} : List Addr → (List Addr → β) → β
  | [], k => k []
  | a :: r, k => HandSHeadRun.frNat a fun a => frA r fun r' => k (a :: r')
theorem frA_eq {β : Type} : ∀ (l : List Addr) (k : List Addr → β), frA l k = k l
  | [], _ => rfl
  | a :: r, k => by
    show HandSHeadRun.frNat a (fun a => frA r fun r' => k (a :: r')) = _
    rw [HandSHeadRun.frNat_eq, frA_eq r]
def frF {β : Type} : PySem.W.Frag → (PySem.W.Frag → β) → β
  | [], k => k []
  | (a, o) :: r, k => HandSHeadRun.frNat a fun a => frF r fun r' => k ((a, o) :: r')
theorem frF_eq {β : Type} : ∀ (l : PySem.W.Frag) (k : PySem.W.Frag → β), frF l k = k l
  | [], _ => rfl
  | (a, o) :: r, k => by
    show HandSHeadRun.frNat a (fun a => frF r fun r' => k ((a, o) :: r')) = _
    rw [HandSHeadRun.frNat_eq, frF_eq r]
def named (g : Addr → Option Obj) (xs : List Str) : List Addr := xs.map fun x => He.ga (He.frG g [mainGlobals]) x
def below (g : Addr → Option Obj) (as : List Addr) : List Addr := as.flatMap fun a => match g a with
  | some o => He.refsD o
  | none => []
def clsNames : List Str := ["Picture", "Book", "Whole"]
def fnNames : List Str := (fns.filter fun d => d.at_.2.isNone).map fun d => d.at_.1
/-- what the facts look at: the defs, the classes, their namespaces and methods, the code objects, the statics -/
def reach (g : Addr → Option Obj) : List Addr := frA (named g fnNames) fun fs => frA (named g clsNames) fun cs => frA (below g fs) fun l2 => frA (below g cs) fun lc => frA (below g lc) fun l3 => frA (below g l3) fun l4 =>
  [mainGlobals, cStatics] ++ fs ++ cs ++ l2 ++ lc ++ l3 ++ l4
def frY (g : Addr → Option Obj) : PySem.W.Frag := He.frT g (reach g)
def tfs : List He.Defn := [("beginnings", none)]
abbrev AlY : Type := He.AlD × Bool
def obsY (g : Addr → Option Obj) : AlY := frF (frY g) fun K => (He.obsD fas fns K, exB K && He.tabsB g tfs K)
def valY : AlY := (He.valD fns, true)
structure SaysY (h : Heap) (K : PySem.W.Frag) : Prop where
  d : He.SaysD fas fns K
  ex : exB K = true
  hd : PySem.W.codeHdIn K (He.cT K ("beginnings", none)).1 (He.cT K ("beginnings", none)).2 = true
  out : K.lookup (He.cT K ("beginnings", none)).2 = none
  empty : h.get? (He.cT K ("beginnings", none)).2 = some { cls := .none, data := .fields #[] }
theorem says_of {h : Heap} (e : obsY h.get? = valY) : SaysY h (frY h.get?) := by
  unfold obsY at e
  rw [frF_eq] at e
  have e1 : He.obsD fas fns (frY h.get?) = He.valD fns := congrArg (fun z : AlY => z.1) e
  have e2 : (exB (frY h.get?) && He.tabsB h.get? tfs (frY h.get?)) = true := congrArg (fun z : AlY => z.2) e
  obtain ⟨h1, h2⟩ := He.ba e2
  obtain ⟨h3, h4⟩ := He.ba (List.all_eq_true.mp h2 ("beginnings", none) (List.mem_singleton.mpr rfl))
  cases q : h.get? (He.cT (frY h.get?) ("beginnings", none)).2 with
  | none =>
    rw [q] at h4
    cases h4
  | some o =>
    rw [q] at h4
    exact ⟨e1, h1, h3, He.frT_none q h4, by rw [q, He.emptyTab_eq h4]⟩
def hookY : PySem.W.Hook where
  α := AlY
  obs := fun s => obsY s.heap.get?
  val := fun _ => valY
  says := fun _ h => ∃ K : PySem.W.Frag, K.In h ∧ SaysY h K
  of := fun _ _ e => ⟨_, He.frT_in, says_of e⟩
  keeps := fun _ _ _ ⟨K, hK, c⟩ k => ⟨K, PySem.W.Frag.In.keeps hK k, ⟨c.d, c.ex, c.hd, c.out, k _ _ c.empty⟩⟩
theorem obsY_eq {g : Addr → Option Obj} {s : Shared} (h : ∀ a, g a = s.heap.get? a) : obsY g = hookY.obs s := by
  have e : g = s.heap.get? := funext h
  rw [e] <;> rfl
abbrev R : PySem.W.OpenRow := PySem.W.OpenLaw.row PySem.Challenge.rw_forcedbook_k66_whole_sure_and_waiting_ag
def ob (s : PySem.W.SharedT) : AlY := obsY (HandSHeadRun.getT s)
theorem ob_eq (s : PySem.W.SharedT) : ob s = hookY.obs s.abs := obsY_eq (HandSHeadRun.getT_eq s)
theorem run (w : World) : HandSHeadRun.RunEq R (PySem.W.view R.prog [90]) hookY ob 100000 loose w := by
  intro os
  kernel_rfl
end K66
set_option maxHeartbeats 0
namespace K66
open PySem PySem.Spec PyProof.Rows L2
def qL : Str := ("beginnings" : Str) ++ ".<locals>." ++ "<lambda>"
theorem txt_of {K : PySem.W.Frag} {h : Heap} {mg : Str → Option Value} (X : K.In h) (G : h.Ns mainGlobals mg) (c : SaysY h K) : Txt K mg :=
  ⟨c.d, c.ex, fun _ hx => He.glo_ok X G (c.d.facts hx), fun _ hx => He.free_ok X G (c.d.facts hx), fun _ _ hx => He.int_ok X G (c.d.facts hx), fun _ _ hx => He.str_ok X G (c.d.facts hx)⟩
theorem sp_law [TabAt] {P : Program} {w : World} {K : PySem.W.Frag} {H : Hp} {a : Addr} {ns : List Int} (hk : K.lookup TabAt.pt = none) (hT : H TabAt.pt = some (.tbl #[])) (hS : SqL K H a (ns.map V.int)) : spLaw P w K [.ref a] H (fun v _ => v = .bl true) fun _ _ _ => False := by
  have tb : ∀ C : Hp, TabIn C H := fun C => ⟨#[], hT, trivial, fun pos cv h => nomatch h⟩
  rcases hS with hR | hR
  · have hne : a ≠ TabAt.pt := fun z => by
      rw [z] at hR
      rcases hR with e | ⟨o, e⟩ <;> rw [hT] at e <;> cases e
    have hnt : ∀ ps, H a ≠ some (.tbl ps) := fun ps z => by
      rcases hR with e | ⟨o, e⟩ <;> rw [z] at e <;> cases e
    refine ⟨fun b => if b = TabAt.pt then some mark else if b = a then H a else none, a, ns, rfl, .inl ?_, ⟨fun b o ho e => ?_, if_pos rfl, tb _, fun b ps e => ?_⟩, fun _ => rfl⟩
    · have e : (if a = TabAt.pt then some mark else if a = a then H a else none) = H a := by rw [if_neg hne, if_pos rfl]
      rcases hR with z | ⟨o, z⟩
      · exact .inl (e.trans z)
      · exact .inr ⟨o, e.trans z⟩
    · by_cases z : b = TabAt.pt
      · rw [if_pos z] at e
        cases e
        exact absurd rfl (ho #[])
      · rw [if_neg z] at e
        by_cases z2 : b = a
        · rw [if_pos z2] at e
          rw [z2]; exact e
        · rw [if_neg z2] at e
          cases e
    · by_cases z : b = TabAt.pt
      · exact z
      · rw [if_neg z] at e
        by_cases z2 : b = a
        · rw [if_pos z2] at e
          exact absurd e (hnt ps)
        · rw [if_neg z2] at e
          cases e
  · refine ⟨fun b => if b = TabAt.pt then some mark else none, a, ns, rfl, .inr hR, ⟨fun b o ho e => ?_, if_pos rfl, tb _, fun b ps e => ?_⟩, fun _ => rfl⟩
    · by_cases z : b = TabAt.pt
      · rw [if_pos z] at e
        cases e
        exact absurd rfl (ho #[])
      · rw [if_neg z] at e
        cases e
    · by_cases z : b = TabAt.pt
      · exact z
      · rw [if_neg z] at e
        cases e
theorem law_at {w : World} {K : PySem.W.Frag} {h : Heap} {mg : Str → Option Value} {fa : Addr} (X : K.In h) (G : h.Ns mainGlobals mg) (hmg : mg "law" = some (.ref fa)) (c : SaysY h K) : LamX.LawAtS PySem.Challenge.rw_forcedbook_k66_whole_sure_and_waiting_ag w K CX0 11 63 "_law_script" mg fa h := by
  letI tab : TabAt := ⟨(He.cT K ("beginnings", none)).2, qL⟩
  have T : Txt K mg := txt_of X G c
  obtain ⟨fd, F⟩ := T.n_law
  have e := hmg.symm.trans T.g_law
  cases e
  have b := FunD.bindsA (ps := ["_law_script"]) F fun _ _ _ _ _ _ us hl => match us, hl with | [_], _ => rfl
  refine ⟨fd, [He.cT K ("beginnings", none)], spLaw PySem.Challenge.rw_forcedbook_k66_whole_sure_and_waiting_ag.prog w K, fun p hp => ?_, fun p hp => ?_, fun p hp => ?_, fun s v => b s [v] rfl, fun H a ns _ _ hH hS => ?_, fun base KB NB TB => ?_⟩
  · rw [List.mem_singleton.mp hp]; exact c.empty
  · rw [List.mem_singleton.mp hp]; exact c.out
  · rw [List.mem_singleton.mp hp]; exact PySem.W.codeHd_of_K X c.hd
  · exact sp_law c.out (hH _ (List.mem_singleton.mpr rfl)) hS
  · exact ok_law T ⟨TB _ (List.mem_singleton.mpr rfl), rfl⟩ bk_law F
end K66
open PySem PySem.W PySem.Calls PyProof.Rows
theorem PySem.Challenge.cw_forcedbook_k66_whole_sure_and_waiting_ag_holds : PySem.Challenge.rw_forcedbook_k66_whole_sure_and_waiting_ag.Holds := by
  w_on; o_law
  refine HandSHeadRun.head_any (r := OpenLaw.row PySem.Challenge.rw_forcedbook_k66_whole_sure_and_waiting_ag) (q := view (OpenLaw.row PySem.Challenge.rw_forcedbook_k66_whole_sure_and_waiting_ag).prog [90]) (H := K66.hookY) (ob := K66.ob) (M := 100000) (loose := K66.loose) (d := HandSHeadRun.topDef (OpenLaw.row PySem.Challenge.rw_forcedbook_k66_whole_sure_and_waiting_ag).prog 90) (kwd := []) K66.ob_eq
    (by kernel_rfl) (fun s => by kernel_rfl) K66.run (by kernel_rfl) (by kernel_rfl) (by kernel_rfl) (by rfl) (by first | assumption | decide +kernel) (by decide +kernel) ⟨rfl, rfl, rfl, rfl, rfl, by decide +kernel⟩ ?hw ?hc
  case hw => w_witness2
  case hc =>
    refine LamX.walk_ofTsE (l := PySem.Challenge.rw_forcedbook_k66_whole_sure_and_waiting_ag) (n := 63) (k := 11) (x := "_law_script") (CX := fun _ => L2.CX0) rfl (by decide) (by kernel_rfl) ⟨rfl, by decide, by decide⟩ ?F (fun _ _ _ _ _ z => z)
    intro w mg fa h Y G hmg0
    obtain ⟨K, KX, c⟩ := Y
    have hmg : mg ("law" : PySem.Str) = some (.ref fa) := by
      have e : (HandSHeadRun.topDef (OpenLaw.row PySem.Challenge.rw_forcedbook_k66_whole_sure_and_waiting_ag).prog 90).name = ("law" : PySem.Str) := by kernel_rfl
      rw [← e]
      exact hmg0
    exact ⟨K, KX, K66.law_at KX G hmg c⟩

