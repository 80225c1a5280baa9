import PyProof.Rows.All
import Wide.All
import OpenK.AllK
import Wide.FinOn
import KE.KStateDown
import Lean
import HandS.ForMost
import HandS.Exc
import HandS.Defaults
import HandS.Head0
import HandS.Head1
import HandS.Head2
import HandS.HeadEnd
import HandS.HeadHook1
import HandS.HeadHook2
import HandS.Wide
import HandS.TupAny
import HandS.Deep
import HandS.IsInst
import HandS.Conv
import HandS.SortOrd
import KE.GoesEnum
import KE.GoesMore
import KE.KDictPairs
import KE.KSortTupAny
import PyProof.P3In
import KE.SortData
import HandS.TupLe
import HandS.Walk
import HandS.Text
import HandS.AnyAll
import PySem.Challenge.RW_onefolk_k20_whole_in_any_order
set_option Elab.async false
set_option linter.all false
set_option maxRecDepth 100000
set_option maxHeartbeats 0
namespace FK
open PySem PySem.Spec PyProof.Rows L2
def top (i : Nat) : Stmt := PySem.Challenge.pw_onefolk_k20_whole_in_any_order.main.body.getD i (.Pass ⟨0, 0, 0, 0⟩)
abbrev s_is_name : Stmt := top 8
abbrev s_word_of : Stmt := top 9
abbrev s_names_of : Stmt := top 10
abbrev s_book_without : Stmt := top 11
abbrev s_is_number : Stmt := top 14
abbrev s_one_word : Stmt := top 15
abbrev s_tells : Stmt := top 16
abbrev s_are_two_names : Stmt := top 18
abbrev s_is_counted : Stmt := top 19
abbrev s_is_reason : Stmt := top 20
abbrev s_in_order : Stmt := top 21
abbrev s_ground_of : Stmt := top 22
abbrev s_law_cell : Stmt := top 27
abbrev s_law_numbers : Stmt := top 28
abbrev s_law_names : Stmt := top 29
abbrev s_law_word : Stmt := top 30
abbrev s_law_row : Stmt := top 31
abbrev s_law_rules : Stmt := top 32
abbrev s_law_one_word : Stmt := top 33
abbrev s_law_tells : Stmt := top 34
abbrev s_law_ground_due : Stmt := top 35
abbrev s_law_two : Stmt := top 36
abbrev s_law_reason : Stmt := top 37
abbrev s_law_struck : Stmt := top 38
abbrev s_law_deed : Stmt := top 39
abbrev s_law_without : Stmt := top 40
abbrev s_law_behind : Stmt := top 41
abbrev s_law_deeds : Stmt := top 42
abbrev s_law_do : Stmt := top 43
abbrev s_law_order : Stmt := top 44
abbrev s_law_wanted : Stmt := top 45
abbrev s_law_detour : Stmt := top 46
abbrev s_law_without_rows : Stmt := top 47
abbrev s_law : Stmt := top 48
abbrev sF_init : Stmt := inClass (top 25) 0
abbrev sF_keep : Stmt := inClass (top 25) 1
abbrev sF_stands : Stmt := inClass (top 25) 2
abbrev sF_put : Stmt := inClass (top 25) 3
abbrev sF_drop : Stmt := inClass (top 25) 4
abbrev sF_two : Stmt := inClass (top 25) 5
abbrev sF_told_reason : Stmt := inClass (top 25) 6
abbrev sF_tell : Stmt := inClass (top 25) 7
abbrev sF_untell : Stmt := inClass (top 25) 8
abbrev sF_bar : Stmt := inClass (top 25) 9
abbrev sF_unbar : Stmt := inClass (top 25) 10
abbrev sF_strike : Stmt := inClass (top 25) 11
abbrev sF_unstrike : Stmt := inClass (top 25) 12
abbrev sF_undo : Stmt := inClass (top 25) 13
abbrev sF_book : Stmt := inClass (top 25) 14
abbrev sF_ground : Stmt := inClass (top 25) 15
def d_is_name : He.DefD := ⟨("is_name", none), "is_name", "is_name", defArgs s_is_name, defBody s_is_name, defScope s_is_name, [], []⟩
def d_word_of : He.DefD := ⟨("word_of", none), "word_of", "word_of", defArgs s_word_of, defBody s_word_of, defScope s_word_of, [], []⟩
def d_names_of : He.DefD := ⟨("names_of", none), "names_of", "names_of", defArgs s_names_of, defBody s_names_of, defScope s_names_of, [], []⟩
def d_book_without : He.DefD := ⟨("book_without", none), "book_without", "book_without", defArgs s_book_without, defBody s_book_without, defScope s_book_without, [], []⟩
def d_is_number : He.DefD := ⟨("is_number", none), "is_number", "is_number", defArgs s_is_number, defBody s_is_number, defScope s_is_number, [], []⟩
def d_one_word : He.DefD := ⟨("one_word", none), "one_word", "one_word", defArgs s_one_word, defBody s_one_word, defScope s_one_word, [], []⟩
def d_tells : He.DefD := ⟨("tells", none), "tells", "tells", defArgs s_tells, defBody s_tells, defScope s_tells, [], []⟩
def d_are_two_names : He.DefD := ⟨("are_two_names", none), "are_two_names", "are_two_names", defArgs s_are_two_names, defBody s_are_two_names, defScope s_are_two_names, [], []⟩
def d_is_counted : He.DefD := ⟨("is_counted", none), "is_counted", "is_counted", defArgs s_is_counted, defBody s_is_counted, defScope s_is_counted, [], []⟩
def d_is_reason : He.DefD := ⟨("is_reason", none), "is_reason", "is_reason", defArgs s_is_reason, defBody s_is_reason, defScope s_is_reason, [], []⟩
def d_in_order : He.DefD := ⟨("in_order", none), "in_order", "in_order", defArgs s_in_order, defBody s_in_order, defScope s_in_order, [], []⟩
def d_ground_of : He.DefD := ⟨("ground_of", none), "ground_of", "ground_of", defArgs s_ground_of, defBody s_ground_of, defScope s_ground_of, [], []⟩
def d_law_cell : He.DefD := ⟨("_law_cell", none), "_law_cell", "_law_cell", defArgs s_law_cell, defBody s_law_cell, defScope s_law_cell, [], []⟩
def d_law_numbers : He.DefD := ⟨("_law_numbers", none), "_law_numbers", "_law_numbers", defArgs s_law_numbers, defBody s_law_numbers, defScope s_law_numbers, [], []⟩
def d_law_names : He.DefD := ⟨("_law_names", none), "_law_names", "_law_names", defArgs s_law_names, defBody s_law_names, defScope s_law_names, [], []⟩
def d_law_word : He.DefD := ⟨("_law_word", none), "_law_word", "_law_word", defArgs s_law_word, defBody s_law_word, defScope s_law_word, [], []⟩
def d_law_row : He.DefD := ⟨("_law_row", none), "_law_row", "_law_row", defArgs s_law_row, defBody s_law_row, defScope s_law_row, [], []⟩
def d_law_rules : He.DefD := ⟨("_law_rules", none), "_law_rules", "_law_rules", defArgs s_law_rules, defBody s_law_rules, defScope s_law_rules, [], []⟩
def d_law_one_word : He.DefD := ⟨("_law_one_word", none), "_law_one_word", "_law_one_word", defArgs s_law_one_word, defBody s_law_one_word, defScope s_law_one_word, [], []⟩
def d_law_tells : He.DefD := ⟨("_law_tells", none), "_law_tells", "_law_tells", defArgs s_law_tells, defBody s_law_tells, defScope s_law_tells, [], []⟩
def d_law_ground_due : He.DefD := ⟨("_law_ground_due", none), "_law_ground_due", "_law_ground_due", defArgs s_law_ground_due, defBody s_law_ground_due, defScope s_law_ground_due, [], []⟩
def d_law_two : He.DefD := ⟨("_law_two", none), "_law_two", "_law_two", defArgs s_law_two, defBody s_law_two, defScope s_law_two, [], []⟩
def d_law_reason : He.DefD := ⟨("_law_reason", none), "_law_reason", "_law_reason", defArgs s_law_reason, defBody s_law_reason, defScope s_law_reason, [], []⟩
def d_law_struck : He.DefD := ⟨("_law_struck", none), "_law_struck", "_law_struck", defArgs s_law_struck, defBody s_law_struck, defScope s_law_struck, [], []⟩
def d_law_deed : He.DefD := ⟨("_law_deed", none), "_law_deed", "_law_deed", defArgs s_law_deed, defBody s_law_deed, defScope s_law_deed, [], []⟩
def d_law_without : He.DefD := ⟨("_law_without", none), "_law_without", "_law_without", defArgs s_law_without, defBody s_law_without, defScope s_law_without, [], []⟩
def d_law_behind : He.DefD := ⟨("_law_behind", none), "_law_behind", "_law_behind", defArgs s_law_behind, defBody s_law_behind, defScope s_law_behind, [], []⟩
def d_law_deeds : He.DefD := ⟨("_law_deeds", none), "_law_deeds", "_law_deeds", defArgs s_law_deeds, defBody s_law_deeds, defScope s_law_deeds, [], []⟩
def d_law_do : He.DefD := ⟨("_law_do", none), "_law_do", "_law_do", defArgs s_law_do, defBody s_law_do, defScope s_law_do, [], []⟩
def d_law_order : He.DefD := ⟨("_law_order", none), "_law_order", "_law_order", defArgs s_law_order, defBody s_law_order, defScope s_law_order, [], []⟩
def d_law_wanted : He.DefD := ⟨("_law_wanted", none), "_law_wanted", "_law_wanted", defArgs s_law_wanted, defBody s_law_wanted, defScope s_law_wanted, [], []⟩
def d_law_detour : He.DefD := ⟨("_law_detour", none), "_law_detour", "_law_detour", defArgs s_law_detour, defBody s_law_detour, defScope s_law_detour, [], []⟩
def d_law_without_rows : He.DefD := ⟨("_law_without_rows", none), "_law_without_rows", "_law_without_rows", defArgs s_law_without_rows, defBody s_law_without_rows, defScope s_law_without_rows, [], []⟩
def d_law : He.DefD := ⟨("law", none), "law", "law", defArgs s_law, defBody s_law, defScope s_law, [], []⟩
def dF_init : He.DefD := ⟨("Folk", some "__init__"), "__init__", "Folk.__init__", defArgs sF_init, defBody sF_init, defScope sF_init, [], []⟩
def dF_keep : He.DefD := ⟨("Folk", some "keep"), "keep", "Folk.keep", defArgs sF_keep, defBody sF_keep, defScope sF_keep, [], []⟩
def dF_stands : He.DefD := ⟨("Folk", some "stands"), "stands", "Folk.stands", defArgs sF_stands, defBody sF_stands, defScope sF_stands, [], []⟩
def dF_put : He.DefD := ⟨("Folk", some "put"), "put", "Folk.put", defArgs sF_put, defBody sF_put, defScope sF_put, [], []⟩
def dF_drop : He.DefD := ⟨("Folk", some "drop"), "drop", "Folk.drop", defArgs sF_drop, defBody sF_drop, defScope sF_drop, [], []⟩
def dF_two : He.DefD := ⟨("Folk", some "two"), "two", "Folk.two", defArgs sF_two, defBody sF_two, defScope sF_two, [], []⟩
def dF_told_reason : He.DefD := ⟨("Folk", some "told_reason"), "told_reason", "Folk.told_reason", defArgs sF_told_reason, defBody sF_told_reason, defScope sF_told_reason, [], []⟩
def dF_tell : He.DefD := ⟨("Folk", some "tell"), "tell", "Folk.tell", defArgs sF_tell, defBody sF_tell, defScope sF_tell, [], []⟩
def dF_untell : He.DefD := ⟨("Folk", some "untell"), "untell", "Folk.untell", defArgs sF_untell, defBody sF_untell, defScope sF_untell, [], []⟩
def dF_bar : He.DefD := ⟨("Folk", some "bar"), "bar", "Folk.bar", defArgs sF_bar, defBody sF_bar, defScope sF_bar, [], []⟩
def dF_unbar : He.DefD := ⟨("Folk", some "unbar"), "unbar", "Folk.unbar", defArgs sF_unbar, defBody sF_unbar, defScope sF_unbar, [], []⟩
def dF_strike : He.DefD := ⟨("Folk", some "strike"), "strike", "Folk.strike", defArgs sF_strike, defBody sF_strike, defScope sF_strike, [], []⟩
def dF_unstrike : He.DefD := ⟨("Folk", some "unstrike"), "unstrike", "Folk.unstrike", defArgs sF_unstrike, defBody sF_unstrike, defScope sF_unstrike, [], []⟩
def dF_undo : He.DefD := ⟨("Folk", some "undo"), "undo", "Folk.undo", defArgs sF_undo, defBody sF_undo, defScope sF_undo, [], []⟩
def dF_book : He.DefD := ⟨("Folk", some "book"), "book", "Folk.book", defArgs sF_book, defBody sF_book, defScope sF_book, [], []⟩
def dF_ground : He.DefD := ⟨("Folk", some "ground"), "ground", "Folk.ground", defArgs sF_ground, defBody sF_ground, defScope sF_ground, [], []⟩
def fn : List He.DefD := [d_is_name, d_word_of, d_names_of, d_book_without, d_is_number, d_one_word, d_tells, d_are_two_names, d_is_counted, d_is_reason, d_in_order, d_ground_of, d_law_cell, d_law_numbers, d_law_names, d_law_word, d_law_row, d_law_rules, d_law_one_word, d_law_tells, d_law_ground_due, d_law_two, d_law_reason, d_law_struck, d_law_deed, d_law_without, d_law_behind, d_law_deeds, d_law_do, d_law_order, d_law_wanted, d_law_detour, d_law_without_rows, d_law, dF_init, dF_keep, dF_stands, dF_put, dF_drop, dF_two, dF_told_reason, dF_tell, dF_untell, dF_bar, dF_unbar, dF_strike, dF_unstrike, dF_undo, dF_book, dF_ground]
def fa : List He.Fa := [.glo "is_name", .glo "word_of", .glo "names_of", .glo "book_without", .glo "is_number", .glo "one_word", .glo "tells", .glo "are_two_names", .glo "is_counted", .glo "is_reason", .glo "in_order", .glo "ground_of", .glo "_law_cell", .glo "_law_numbers", .glo "_law_names", .glo "_law_word", .glo "_law_row", .glo "_law_rules", .glo "_law_one_word", .glo "_law_tells", .glo "_law_ground_due", .glo "_law_two", .glo "_law_reason", .glo "_law_struck", .glo "_law_deed", .glo "_law_without", .glo "_law_behind", .glo "_law_deeds", .glo "_law_do", .glo "_law_order", .glo "_law_wanted", .glo "_law_detour", .glo "_law_without_rows", .glo "law", .free "isinstance", .free "str", .free "int", .free "bool", .free "tuple", .free "list", .free "dict", .free "len", .free "all", .free "any", .free "sorted", .free "min", .free "max", .free "enumerate", .free "range", .free "abs", .str "SMALL" "abcdefghijklmnopqrstuvwxyz", .int "MOST_LETTERS" 8, .int "MOST_WEIGHT" 1000, .int "TOLD" 100, .cls "Folk", .mkr "Folk", .glo "Folk", .noat "Folk" "rules", .noat "Folk" "standing", .noat "Folk" "reasons", .noat "Folk" "barred", .noat "Folk" "struck", .noat "Folk" "ahead", .meth "Folk" "__init__", .meth "Folk" "keep", .meth "Folk" "stands", .meth "Folk" "put", .meth "Folk" "drop", .meth "Folk" "two", .meth "Folk" "told_reason", .meth "Folk" "tell", .meth "Folk" "untell", .meth "Folk" "bar", .meth "Folk" "unbar", .meth "Folk" "strike", .meth "Folk" "unstrike", .meth "Folk" "undo", .meth "Folk" "book", .meth "Folk" "ground"]
abbrev R : PySem.W.OpenRow := PySem.W.OpenLaw.row PySem.Challenge.rw_onefolk_k20_whole_in_any_order
abbrev hk : PySem.W.Hook := He.hookD 5 fa fn
def ob (s : PySem.W.SharedT) : He.AlD := He.obsDG 5 fa fn (HandSHeadRun.getT s)
theorem ob_eq (s : PySem.W.SharedT) : ob s = hk.obs s.abs := He.obsDG_eq (HandSHeadRun.getT_eq s)
def names0 : List PySem.Str := [("FolkError" : PySem.Str), ("NoName" : PySem.Str), ("NoReason" : PySem.Str), ("NoUndo" : PySem.Str), ("SMALL" : PySem.Str), ("MOST_LETTERS" : PySem.Str), ("is_name" : PySem.Str), ("word_of" : PySem.Str), ("names_of" : PySem.Str), ("book_without" : PySem.Str)]
def names1 : List PySem.Str := [("MOST_WEIGHT" : PySem.Str), ("is_number" : PySem.Str), ("one_word" : PySem.Str), ("tells" : PySem.Str), ("are_two_names" : PySem.Str), ("is_counted" : PySem.Str), ("is_reason" : PySem.Str), ("in_order" : PySem.Str), ("ground_of" : PySem.Str), ("TOLD" : PySem.Str)]
def names2 : List PySem.Str := [("Folk" : PySem.Str), ("_law_cell" : PySem.Str), ("_law_numbers" : PySem.Str), ("_law_names" : PySem.Str), ("_law_word" : PySem.Str), ("_law_row" : PySem.Str), ("_law_rules" : PySem.Str), ("_law_one_word" : PySem.Str), ("_law_tells" : PySem.Str), ("_law_ground_due" : PySem.Str)]
def names3 : List PySem.Str := [("_law_two" : PySem.Str), ("_law_reason" : PySem.Str), ("_law_struck" : PySem.Str), ("_law_deed" : PySem.Str), ("_law_without" : PySem.Str), ("_law_behind" : PySem.Str), ("_law_deeds" : PySem.Str), ("_law_do" : PySem.Str), ("_law_order" : PySem.Str), ("_law_wanted" : PySem.Str)]
def names4 : List PySem.Str := [("_law_detour" : PySem.Str), ("_law_without_rows" : PySem.Str)]
def names : List PySem.Str := names0 ++ names1 ++ names2 ++ names3 ++ names4
theorem run (w : World) : HandSHeadRun.RunEq R (PySem.W.view R.prog [48]) hk ob 4000 names w := by
  intro os
  kernel_rfl
end FK

set_option Elab.async false
set_option linter.all false
set_option maxRecDepth 100000
set_option maxHeartbeats 4000000
/-! Rules that the layer lacks: str * int, min and max of two texts, x in a tuple of data, list + list that are read, bare tuples, enumerate(tuple). -/
namespace FR
open PySem PySem.Spec PyProof.Rows L2
section
variable {X : Cx}
/-! ### operators -/
theorem op_mulS : OpR X (binaryOp .Mult) (fun x y H Q => ∃ z i, x = .str z ∧ y = .int i ∧ MulOk z i ∧ Q (.str (Txt.mul z i)) H) := by
  intro pins s σ H x y v u Q I rx ry h
  obtain ⟨z, i, rfl, rfl, ok, q⟩ := h
  obtain ⟨t, rfl⟩ := rx
  obtain ⟨t', rfl⟩ := ry
  exact SB.mul ok fun t' k => ⟨.str (Txt.mul z i), H, I.tok _, ⟨t', rfl⟩, q⟩
/-- x in t: a tuple of data -/
theorem op_inDT (hu : X.A.units + 65 < cLine) : OpR X (compareOp .In) (fun x y H Q => ∃ d ds, Dp X.K H x d ∧ Dp X.K H y (.tuple ds) ∧ SeqAt.shaped d = true ∧ SeqAt.shaped (.tuple ds) = true ∧ Q (.bl (ds.any fun z => PyData.eqv z d)) H) := by
  intro pins s σ H x y v u Q I rx ry h
  obtain ⟨d, ds, hd, he, sd, se, q⟩ := h
  obtain ⟨as, r1⟩ := Dp.reads I d x v hd rx
  obtain ⟨bs, r2⟩ := Dp.reads I (.tuple ds) y u he ry
  exact SeqAt.in_tuple_reads r2 r1 (SeqAt.canLay_of_shaped se) (SeqAt.canLay_of_shaped sd) (room_in_shaped sd hu) ⟨.bl _, H, I, rfl, q⟩
theorem op_notInDT (hu : X.A.units + 65 < cLine) : OpR X (compareOp .NotIn) (fun x y H Q => ∃ d ds, Dp X.K H x d ∧ Dp X.K H y (.tuple ds) ∧ SeqAt.shaped d = true ∧ SeqAt.shaped (.tuple ds) = true ∧ Q (.bl (!ds.any fun z => PyData.eqv z d)) H) := by
  intro pins s σ H x y v u Q I rx ry h
  obtain ⟨d, ds, hd, he, sd, se, q⟩ := h
  obtain ⟨as, r1⟩ := Dp.reads I d x v hd rx
  obtain ⟨bs, r2⟩ := Dp.reads I (.tuple ds) y u he ry
  exact SeqAt.notIn_tuple_reads r2 r1 (SeqAt.canLay_of_shaped se) (SeqAt.canLay_of_shaped sd) (room_in_shaped sd hu) ⟨.bl _, H, I, rfl, q⟩
/-! ### min and max of two texts -/
abbrev ltS (a b : Str) : Bool := decide (a.cps.toList < b.cps.toList)
def strItems (xs : Array (Str × Tok)) : Array Value := xs.map fun p => .str p.1 p.2
def strAt (xs : Array (Str × Tok)) (i : Nat) : Str := (xs[i]?.map (·.1)).getD Str.empty
theorem strItems_at {xs : Array (Str × Tok)} {i : Nat} {v : Value} (h : (strItems xs)[i]? = some v) : ∃ t, v = .str (strAt xs i) t := by
  simp only [strItems, Array.getElem?_map, Option.map_eq_some_iff] at h
  obtain ⟨p, hp, rfl⟩ := h
  exact ⟨p.2, by simp [strAt, hp]⟩
theorem cmp_lt {prog : Program} {w : World} {A : Around} {P : Nat → Value → Prop} (val : Nat → Str) (hval : ∀ i v, P i v → ∃ t, v = .str (val i) t) :
    CmpOf prog w A .Lt P (fun i j => ltS (val i) (val j)) := fun i j vi vj s Q E hi hj h => by
  obtain ⟨t, rfl⟩ := hval i vi hi
  obtain ⟨u, rfl⟩ := hval j vj hj
  exact (show wpAny (model prog w) A (compareOp .Lt (.str (val i) t) (.str (val j) u)) Q E s from lt_str h)
theorem cmp_gt {prog : Program} {w : World} {A : Around} {P : Nat → Value → Prop} (val : Nat → Str) (hval : ∀ i v, P i v → ∃ t, v = .str (val i) t) :
    CmpOf prog w A .Gt P (fun i j => ltS (val j) (val i)) := fun i j vi vj s Q E hi hj h => by
  obtain ⟨t, rfl⟩ := hval i vi hi
  obtain ⟨u, rfl⟩ := hval j vj hj
  exact (show wpAny (model prog w) A (compareOp .Gt (.str (val i) t) (.str (val j) u)) Q E s from PySem.P.gt_str h)
section
variable {prog : Program} {w : World} {A : Around} {E : Value → Shared → Prop} {s : Shared}
theorem min_two_strs {a b : Str} {t u : Tok} {Q : Value → Shared → Prop} (hh : A.handled = none)
    (h : ∀ h' tk, (∀ c o, s.heap.get? c = some o → h'.get? c = some o) → Q (if ltS b a = true then .str b u else .str a t) { s with heap := h', toks := tk }) :
    wpAny (model prog w) A (call (.builtin "min") [.str a t, .str b u]) Q E s := by
  have hT : (s.heap.push { cls := .type "tuple", data := .seq #[.str a t, .str b u] }).IsTuple s.heap.objs.size (strItems #[(a, t), (b, u)]) := ⟨_, Heap.get?_push_size _ rfl, rfl, 0, by simp [strItems]⟩
  refine call_min_two (wpAny_pyIter_tuple hT ?_)
  have hsz : (s.heap.push { cls := .type "tuple", data := .seq #[.str a t, .str b u] }).objs.size = s.heap.objs.size + 1 := Heap.size_push ..
  refine ⟨_, [_, s.heap.objs.size], [_], _, _, _, _, rfl, Walks.tuple (A := A.in1) hh _ s.heap.objs.size (by rw [hsz]; exact Nat.ne_of_lt (Nat.lt_succ_self _)) (strItems #[(a, t), (b, u)]),
    ⟨⟨_, Heap.get?_push_size _ rfl, rfl, rfl⟩, hT.push _⟩, fun c hc => ?_, by simp [strItems], cmp_lt (strAt #[(a, t), (b, u)]) (fun _ _ => strItems_at), fun v h' tk hP hk => ?_⟩
  · show c < ((s.heap.push _).push _).objs.size
    rw [Heap.size_push, hsz]
    rcases List.mem_cons.mp hc with rfl | hc
    · rw [hsz]; exact Nat.lt_succ_self _
    · rcases List.mem_cons.mp hc with rfl | hc
      · exact Nat.lt_succ_of_lt (Nat.lt_succ_self _)
      · cases hc
  · have hold : ∀ c o, s.heap.get? c = some o → h'.get? c = some o := fun c o e => by
      refine hk c o (fun hm => ?_) (Heap.get?_push_of_some _ (Heap.get?_push_of_some _ e))
      rcases List.mem_cons.mp hm with e1 | hm
      · have := Heap.lt_size e; rw [e1, hsz] at this; exact Nat.lt_irrefl _ (Nat.lt_of_succ_lt this)
      · cases hm
    have := h h' tk hold
    have hv : v = if ltS b a = true then Value.str b u else Value.str a t := by
      have hP' : (strItems #[(a, t), (b, u)])[argBest (fun i j => ltS (strAt #[(a, t), (b, u)] i) (strAt #[(a, t), (b, u)] j)) 1]? = some v := by
        have hsz2 : (strItems #[(a, t), (b, u)]).size - 1 = 1 := by simp [strItems]
        rw [← hsz2]; exact hP
      have e0 : strAt #[(a, t), (b, u)] 0 = a := by simp [strAt]
      have e1 : strAt #[(a, t), (b, u)] 1 = b := by simp [strAt]
      cases hba : ltS b a with
      | true =>
        have e : argBest (fun i j => ltS (strAt #[(a, t), (b, u)] i) (strAt #[(a, t), (b, u)] j)) 1 = 1 := by
          show (if ltS (strAt #[(a, t), (b, u)] 1) (strAt #[(a, t), (b, u)] 0) = true then 0 + 1 else 0) = 1
          rw [e0, e1, hba]
          rfl
        rw [e] at hP'
        simpa [strItems] using hP'.symm
      | false =>
        have e : argBest (fun i j => ltS (strAt #[(a, t), (b, u)] i) (strAt #[(a, t), (b, u)] j)) 1 = 0 := by
          show (if ltS (strAt #[(a, t), (b, u)] 1) (strAt #[(a, t), (b, u)] 0) = true then 0 + 1 else 0) = 0
          rw [e0, e1, hba]
          rfl
        rw [e] at hP'
        simpa [strItems] using hP'.symm
    rw [hv]; exact this
theorem max_two_strs {a b : Str} {t u : Tok} {Q : Value → Shared → Prop} (hh : A.handled = none)
    (h : ∀ h' tk, (∀ c o, s.heap.get? c = some o → h'.get? c = some o) → Q (if ltS a b = true then .str b u else .str a t) { s with heap := h', toks := tk }) :
    wpAny (model prog w) A (call (.builtin "max") [.str a t, .str b u]) Q E s := by
  have hT : (s.heap.push { cls := .type "tuple", data := .seq #[.str a t, .str b u] }).IsTuple s.heap.objs.size (strItems #[(a, t), (b, u)]) := ⟨_, Heap.get?_push_size _ rfl, rfl, 0, by simp [strItems]⟩
  refine call_max_two (wpAny_pyIter_tuple hT ?_)
  have hsz : (s.heap.push { cls := .type "tuple", data := .seq #[.str a t, .str b u] }).objs.size = s.heap.objs.size + 1 := Heap.size_push ..
  refine ⟨_, [_, s.heap.objs.size], [_], _, _, _, _, rfl, Walks.tuple (A := A.in1) hh _ s.heap.objs.size (by rw [hsz]; exact Nat.ne_of_lt (Nat.lt_succ_self _)) (strItems #[(a, t), (b, u)]),
    ⟨⟨_, Heap.get?_push_size _ rfl, rfl, rfl⟩, hT.push _⟩, fun c hc => ?_, by simp [strItems], cmp_gt (strAt #[(a, t), (b, u)]) (fun _ _ => strItems_at), fun v h' tk hP hk => ?_⟩
  · show c < ((s.heap.push _).push _).objs.size
    rw [Heap.size_push, hsz]
    rcases List.mem_cons.mp hc with rfl | hc
    · rw [hsz]; exact Nat.lt_succ_self _
    · rcases List.mem_cons.mp hc with rfl | hc
      · exact Nat.lt_succ_of_lt (Nat.lt_succ_self _)
      · cases hc
  · have hold : ∀ c o, s.heap.get? c = some o → h'.get? c = some o := fun c o e => by
      refine hk c o (fun hm => ?_) (Heap.get?_push_of_some _ (Heap.get?_push_of_some _ e))
      rcases List.mem_cons.mp hm with e1 | hm
      · have := Heap.lt_size e; rw [e1, hsz] at this; exact Nat.lt_irrefl _ (Nat.lt_of_succ_lt this)
      · cases hm
    have := h h' tk hold
    have hv : v = if ltS a b = true then Value.str b u else Value.str a t := by
      have hP' : (strItems #[(a, t), (b, u)])[argBest (fun i j => ltS (strAt #[(a, t), (b, u)] j) (strAt #[(a, t), (b, u)] i)) 1]? = some v := by
        have hsz2 : (strItems #[(a, t), (b, u)]).size - 1 = 1 := by simp [strItems]
        rw [← hsz2]; exact hP
      have e0 : strAt #[(a, t), (b, u)] 0 = a := by simp [strAt]
      have e1 : strAt #[(a, t), (b, u)] 1 = b := by simp [strAt]
      cases hba : ltS a b with
      | true =>
        have e : argBest (fun i j => ltS (strAt #[(a, t), (b, u)] j) (strAt #[(a, t), (b, u)] i)) 1 = 1 := by
          show (if ltS (strAt #[(a, t), (b, u)] 0) (strAt #[(a, t), (b, u)] 1) = true then 0 + 1 else 0) = 1
          rw [e0, e1, hba]
          rfl
        rw [e] at hP'
        simpa [strItems] using hP'.symm
      | false =>
        have e : argBest (fun i j => ltS (strAt #[(a, t), (b, u)] j) (strAt #[(a, t), (b, u)] i)) 1 = 0 := by
          show (if ltS (strAt #[(a, t), (b, u)] 0) (strAt #[(a, t), (b, u)] 1) = true then 0 + 1 else 0) = 0
          rw [e0, e1, hba]
          rfl
        rw [e] at hP'
        simpa [strItems] using hP'.symm
    rw [hv]; exact this
end
theorem call_min2S (hc : X.calm = true) : CallR X (.builtin "min") (fun xs H Q => ∃ a b, xs = [.str a, .str b] ∧ Q (.str (if ltS b a = true then b else a)) H) := by
  intro pins s σ H xs us Q I r h
  obtain ⟨a, b, rfl, q⟩ := h
  obtain ⟨u, w', rfl, ⟨t, rfl⟩, ⟨t', rfl⟩⟩ := vals2 r
  refine min_two_strs (I.ok.hd hc) fun h' tk k => ⟨_, H, I.kept k, ?_, q⟩
  cases ltS b a with
  | true => exact ⟨_, rfl⟩
  | false => exact ⟨_, rfl⟩
theorem call_max2S (hc : X.calm = true) : CallR X (.builtin "max") (fun xs H Q => ∃ a b, xs = [.str a, .str b] ∧ Q (.str (if ltS a b = true then b else a)) H) := by
  intro pins s σ H xs us Q I r h
  obtain ⟨a, b, rfl, q⟩ := h
  obtain ⟨u, w', rfl, ⟨t, rfl⟩, ⟨t', rfl⟩⟩ := vals2 r
  refine max_two_strs (I.ok.hd hc) fun h' tk k => ⟨_, H, I.kept k, ?_, q⟩
  cases ltS a b with
  | true => exact ⟨_, rfl⟩
  | false => exact ⟨_, rfl⟩
/-! ### bare tuples -/
def Bare (o : Obj) : Prop := o.cls = .type "tuple" ∧ o.dict = Option.none
def tTupP (t : TA) : TE := fun σ H Q => t σ H fun xs H1 => xs.length ≤ sizeLine ∧ ∀ p o, H1 p = none → Bare o → Q (.ref p) (upd H1 p (.frz o (.tup xs)))
theorem pe_tupP {es : List Expr} {t : TA} {pos : Pos} {x1} (h : PA X es t) : PE X (.Tuple es x1 pos) (tTupP t) := by
  refine ⟨fun pins s σ H Q I hq => ?_⟩
  refine wpAny_Tuple_spliced (thn (h.run pos pins s σ H _ I hq) fun us s1 ⟨xs, H1, I1, r, z, q⟩ => ⟨by rw [← r.length]; exact z, ?_⟩)
  have hf : H1 s1.heap.objs.size = none := I1.hok.fresh (Nat.le_refl _)
  refine ⟨.ref s1.heap.objs.size, upd H1 s1.heap.objs.size (.frz { cls := .type "tuple", data := .seq us.toArray } (.tup xs)), I1.laid (t' := s1.toks) (fun b u e => Heap.get?_push_of_some _ e) (Nat.le_refl _) ?_, rfl, q _ _ hf ⟨rfl, rfl⟩⟩
  exact ⟨Heap.get?_push_size _ rfl, z, us, r, ⟨_, Heap.get?_push_size _ rfl, rfl, _, rfl⟩⟩
theorem call_tupleP : CallR X (.type "tuple") (fun xs H Q => ∃ p ys, xs = [.ref p] ∧ SqL X.K H p ys ∧ ∀ l o, H l = none → Bare o → Q (.ref l) (upd H l (.frz o (.tup ys)))) := by
  intro pins s σ H xs us Q I r h
  obtain ⟨p, ys, rfl, hq, q⟩ := h
  obtain ⟨u, rfl, rx⟩ := vals1 r
  cases rx
  obtain ⟨its, r', pl, hz⟩ := I.list hq
  have hlen := r'.length
  refine call_tuple_list pl.isList (fun h' kp => ?_) (by simp only [List.size_toArray] <;> omega)
  have I1 : Inv X pins σ H { s with heap := h' } := I.kept (t' := s.toks) kp
  have hf := I1.hok.fresh (Nat.le_refl _)
  have I2 : Inv X pins σ (upd H h'.objs.size (.frz { cls := .type "tuple", data := .seq its.toArray } (.tup ys))) { s with heap := h'.push { cls := .type "tuple", data := .seq its.toArray } } :=
    I1.laid (t' := s.toks) (fun b o e => Heap.get?_push_of_some _ e) (Nat.le_refl _) ⟨Heap.get?_push_size _ rfl, hz, its, r', IsTup.new _ _⟩
  exact ⟨.ref h'.objs.size, _, I2, rfl, q _ _ hf ⟨rfl, rfl⟩⟩
/-! ### enumerate(tuple) -/
set_option maxHeartbeats 4000000 in
theorem meets_enumerate_newT {v : Value} {o : Obj} {H : Heap → Prop} (B : Begins v o H) :
    Meets (Builtin.«enumerate.__new__» ⟨[.type "enumerate", v], []⟩) (fun _ R s => H s.heap ∧
      R (.ok (.ret (.ref (s.heap.push o).objs.size))) { s with heap := (s.heap.push o).push { cls := .type "enumerate", data := .fields #[.none, .bool false, .ref s.heap.objs.size, rawInt 0, .none, .none] } }) :=
  .of_wp fun prog w A R s h => by
    obtain ⟨hp, g, d, tk, os⟩ := s; obtain ⟨h1, h⟩ := h
    have hsub := sub_enumerate
    have q1 : ∀ {A' : Around} {E : Value → Shared → Prop} {Q : Value → Shared → Prop}, Q (.ref hp.objs.size) ⟨hp.push o, g, d, tk, os⟩ → wpAny (model prog w) A' (pyIter v) Q E ⟨hp, g, d, tk, os⟩ :=
      fun q => B.iter prog w _ _ ⟨hp, g, d, tk, os⟩ _ h1 q
    wp_walk using q1
    refine wpAny_stack_any fun st => wpAny_pure ?_
    split
    · rename_i c _ _ _ _ _
      cases (c == Value.type "enumerate")
      · wp_walk using q1
        exact ⟨_, rfl, h⟩
      · wp_walk using q1
        exact ⟨_, rfl, h⟩
    · wp_walk using q1
      exact ⟨_, rfl, h⟩
section
variable {prog : Program} {w : World} {A : Around} {E : Value → Shared → Prop} {s : Shared}
theorem call_enumerate_tuple {l : Addr} {items : Array Value} {Q : Value → Shared → Prop} (hL : s.heap.IsTuple l items)
    (h : ∀ h', IsEnum h' (s.heap.objs.size + 1) s.heap.objs.size 0 .none → h'.IsTupleIter s.heap.objs.size l 0 → h'.objs.size = s.heap.objs.size + 2 →
      (∀ b o, s.heap.get? b = some o → h'.get? b = some o) → Q (.ref (s.heap.objs.size + 1)) { s with heap := h' }) :
    wpAny (model prog w) A (call (.type "enumerate") [.ref l]) Q E s := by
  refine callType_new F.called_enumerate (by decide) (F.typeCall_enumerate_1 _) (F.newCall_enumerate_1 _) (fun obj => F.args_object_init_2 obj _) F.entry_enumerate_new
    (meets_enumerate_newT (begins_tuple l items)) ⟨hL, ?_⟩
  have hz : (s.heap.push { cls := .type "tuple_iterator", data := .fields #[.ref l, .int 0 0] }).objs.size = s.heap.objs.size + 1 := Heap.size_push ..
  show _ ∧ _
  rw [hz]
  have he : IsEnum ((s.heap.push { cls := .type "tuple_iterator", data := .fields #[.ref l, .int 0 0] }).push
      { cls := .type "enumerate", data := .fields #[.none, .bool false, .ref s.heap.objs.size, rawInt 0, .none, .none] }) (s.heap.objs.size + 1) s.heap.objs.size 0 .none := by
    have := Heap.get?_push_size (s.heap.push { cls := .type "tuple_iterator", data := .fields #[.ref l, .int 0 0] })
      (o := { cls := .type "enumerate", data := .fields #[.none, .bool false, .ref s.heap.objs.size, rawInt 0, .none, .none] }) rfl
    rw [hz] at this; exact this
  exact ⟨⟨_, he, rfl⟩, h _ he ⟨_, Heap.get?_push_of_some _ (Heap.get?_push_size _ rfl), rfl, rfl⟩ (by rw [Heap.size_push, hz]) fun b o x => Heap.get?_push_of_some _ (Heap.get?_push_of_some _ x)⟩
end
theorem enum_end {prog : Program} {w : World} {A : Around} {E : Value → Shared → Prop} {s : Shared} {e it a : Addr} {i : Nat} {j : Int} {items : Array Value} {old : Value} {Q : Option Value → Shared → Prop} (hh : A.handled = none)
    (he : IsEnum s.heap e it j old) (hit : s.heap.IsTupleIter it a i) (ht : s.heap.IsTuple a items) (hx : items[i]? = none)
    (hQ : ∀ h', Heap.ExtBut it s.heap h' → Q none { s with heap := h' }) : wpAny (model prog w) A (pyNext (.ref e)) Q E s := by
  have hT : s.TypeIs (.ref e) "enumerate" := ⟨_, he, rfl⟩
  unfold pyNext
  refine wpAny_bind (wpAny_attempt (wpAny_callSpecial?_slot (name := Str.ofString "__next__") hT F.slot_enumerate_next
    (wpAny_call_entry F.slot_enumerate_next hT F.entry_enumerate_next ?_ (F.args_enumerate_next_1 _))))
  show wpAny _ _ (field (.ref e) 2 >>= _) _ _ _
  refine wpAny_bind (wpAny_field he rfl (x := .ref it) rfl ?_)
  refine wpAny_bind (wpAny_nextOf_tuple_end hh hit ht hx fun h' x he' hx' => ?_)
  obtain ⟨o, ho, hc⟩ := hx'
  refine wpAny_bind (wpAny_isInstance (T := "StopIteration") (b := true) ⟨o, ho, hc⟩ isSubtype_stop ?_)
  exact wpAny_pure (hQ _ he')
def IteT (K : PySem.W.Frag) (a : Addr) : It :=
  ⟨fun i H => ∃ (xs : List V) (x : V), SqT K H a xs ∧ xs[i]? = some x, fun i H v H' => ∃ T x, v = .ref T ∧ H T = none ∧ H' = upd H T (.tup [.int (i : Nat), x]) ∧ ∀ xs, SqT K H a xs → xs[i]? = some x, fun i H => ∃ xs : List V, SqT K H a xs ∧ xs.length ≤ i⟩
theorem turn_enumT {P : Program} {w : World} {K : PySem.W.Frag} {elts : List Expr} {kk : Nat} {tpos : Pos} (a e it : Addr) (hait : a ≠ it) (hae : a ≠ e) :
    Turn P w K (.Tuple elts kk tpos) (IteT K a) [e, it] e (fun i h => (∃ old, IsEnum h e it ((i : Nat) : Int) old) ∧ h.IsTupleIter it a i ∧ e ≠ it) where
  mem := by simp
  obj := fun i h st b hb => by
    obtain ⟨⟨old, he⟩, ⟨o, ho, hc, hd⟩, _⟩ := st
    have e' : b = e ∨ b = it := by simpa using hb
    rcases e' with z | z
    · rw [z]; exact ⟨_, he, fun v q => nomatch q⟩
    · rw [z]; exact ⟨o, ho, fun v q => by rw [hd] at q; cases q⟩
  keep := fun i h h' st k => let ⟨⟨old, he⟩, hi, hne⟩ := st; ⟨⟨old, k e (by simp) _ he⟩, hi.at fun o q => k it (by simp) o q, hne⟩
  item := by
    intro X hP hw hK hc i pins s σ H E I hf st hg
    subst hP hw hK
    obtain ⟨⟨old, he⟩, hit, hne⟩ := st
    obtain ⟨xs, x, hq, hx⟩ := hg
    obtain ⟨its, rv, p, hz⟩ := I.tuple hq
    obtain ⟨u, hu, ru⟩ := rv.get hx
    have hel : e < s.heap.objs.size := Heap.lt_size he
    have hil : it < s.heap.objs.size := by obtain ⟨_, q, _⟩ := hit; exact Heap.lt_size q
    have hlt : i < its.toArray.size := by
      have := (List.getElem?_eq_some_iff.mp hu).1
      simpa using this
    refine wpAny_pyNext_enum_itemD (Draws.tuple (A := X.A.in1) (I.ok.hd hc) it a hait its.toArray) he ⟨hit, p⟩ hlt hne (by simp [hne, Ne.symm hae]) fun x' h' tk hP ho hit' hT hsz hk => ?_
    have ex : x' = u := by
      have q : its.toArray[i]? = some x' := hP
      have q2 : its.toArray[i]? = some u := by simpa using hu
      rw [q] at q2
      exact Option.some.inj q2
    subst ex
    refine ⟨_, rfl, wpAny_letOwnedTupleGo_enum (s := { s with heap := h', toks := tk + 1 }) ho fun h'' he' sb => ?_⟩
    have hT2 : h''.get? s.heap.objs.size = some { cls := .type "tuple", data := .seq #[.int i tk, x'] } := (sb.2 _ (Nat.ne_of_gt hel)).trans hT
    have new : ObjOk X.prog X.w (upd H s.heap.objs.size (.tup [.int (i : Nat), x])) h'' s.heap.objs.size (.tup [.int (i : Nat), x]) :=
      ⟨by show 2 ≤ sizeLine; decide, [.int i tk, x'], .cons ⟨_, rfl⟩ (.cons ru .nil), ⟨_, hT2, rfl, _, rfl⟩⟩
    have I1 : Inv X pins σ (upd H s.heap.objs.size (.tup [.int (i : Nat), x])) { s with heap := h'', toks := tk + 1 } :=
      I.turnedNew (ch := [e, it]) (fun b ob hb q => (sb.2 b (fun z => hb (by simp [z]))).trans (hk b ob (fun z => hb (by simp [z])) (fun z => hb (by simp [z])) q)) hf (Nat.le_refl _) new
    refine ⟨.ref s.heap.objs.size, _, I1, rfl, ⟨_, x, rfl, I.hok.fresh (Nat.le_refl _), rfl, fun ys hy => by rw [I.tuple_inj hy hq]; exact hx⟩, ⟨⟨x', ?_⟩, hit'.1.at fun o q => (sb.2 it (Ne.symm hne)).trans q, hne⟩, fun b hb => ?_⟩
    · have e1 : ((i + 1 : Nat) : Int) = (i : Int) + 1 := by omega
      rw [e1]; exact he'
    · have hb' : b < s.heap.objs.size := by
        have e' : b = e ∨ b = it := by simpa using hb
        rcases e' with z | z
        · rw [z]; exact hel
        · rw [z]; exact hil
      rw [upd_ne (Nat.ne_of_lt hb')]
      exact (hf b hb).1
  done := by
    intro X hP hw hK hc i pins s σ H E I hf st hg
    subst hP hw hK
    obtain ⟨⟨old, he⟩, hit, hne⟩ := st
    obtain ⟨xs, hq, hx⟩ := hg
    obtain ⟨its, rv, p, hz⟩ := I.tuple hq
    obtain ⟨f0, f1, f2, f3, f4, f5⟩ := hf it (by simp)
    have hl := rv.length
    have hsz : its.toArray.size ≤ i := by simp; omega
    exact enum_end (I.ok.hd hc) he hit p (by rw [Array.getElem?_eq_none]; exact hsz) fun h' eb => ⟨rfl, I.turned (t' := s.toks) (fun b o hb q => eb b o hb q) f0 f1 f3 f4 f5⟩
  self := fun A i s Q E st h => let ⟨⟨_, he⟩, _⟩ := st; wpAny_pyIter_enum he h
def iEnumT (K : PySem.W.Frag) (ta : TA) : TI := fun σ H R => ta σ H fun vs H1 => ∃ a xs, vs = [.ref a] ∧ SqT K H1 a xs ∧ R (IteT K a) H1
theorem pi_enumT {e : Expr} {ta : TA} {p pos tpos : Pos} {elts : List Expr} {kk : Nat} (hg : Gl X "enumerate") (hm : X.mg "enumerate" = none) (ha : PA X [e] ta) (hs : starEach [e] X.env = [(false, eval e X.env)] := by rfl) :
    PI X (.Tuple elts kk tpos) (.Call (.Name "enumerate" p) [e] [] pos) (iEnumT X.K ta) := by
  refine ⟨fun pins s σ H R I h => ?_⟩
  refine Call_ (ld_blt I hg hm boot_enumerate (PyProof.Rows.callWith_type1 (thn (ha.run pos pins s σ H _ I h) fun us s1 ⟨vs, H1, I1, r1, q1⟩ => ?_) hs rfl))
  obtain ⟨a, xs, ex, hq, q⟩ := q1
  subst ex
  cases r1 with
  | cons r rr =>
    cases rr
    cases r
    obtain ⟨its, rv, p', hz⟩ := I1.tuple hq
    have hal : a < s1.heap.objs.size := p'.lt
    refine call_enumerate_tuple (show s1.heap.IsTuple a its.toArray from p') fun h' he hit hsz hk => wpAny_pyIter_enum he ?_
    have I2 : Inv X pins σ H1 { s1 with heap := h' } := I1.kept (t' := s1.toks) hk
    refine ⟨s1.heap.objs.size + 1, [s1.heap.objs.size + 1, s1.heap.objs.size], _, _, H1, rfl, I2, turn_enumT a (s1.heap.objs.size + 1) s1.heap.objs.size (Nat.ne_of_lt hal) (Nat.ne_of_lt (Nat.lt_succ_of_lt hal)), ⟨⟨.none, he⟩, hit, Nat.succ_ne_self _⟩, fun b hb => ?_, q⟩
    have e' : b = s1.heap.objs.size + 1 ∨ b = s1.heap.objs.size := by simpa using hb
    have hle : s1.heap.objs.size ≤ b := by
      rcases e' with z | z
      · rw [z]; exact Nat.le_add_right _ _
      · rw [z]; exact Nat.le_refl _
    exact I1.fpOk hle (I1.hok.fresh hle)
end
end FR

set_option Elab.async false
set_option linter.all false
set_option maxRecDepth 100000
set_option maxHeartbeats 4000000
/-! More rules: sorted of any data that is a list or a tuple, dict of a bare tuple of pairs, an attribute as one of several targets, isinstance against a built-in type. -/
namespace FR
open PySem PySem.Spec PyProof.Rows L2
section
variable {prog : Program} {w : World} {A : Around} {E : Value → Shared → Prop} {s : Shared}
/-! ### sorted -/
theorem collect_tuple {l : Addr} {vs : List Value} {Q : List Value → Shared → Prop} (hl : s.heap.IsTuple l vs.toArray)
    (h : Q vs { s with heap := (s.heap.push (seqObj "list" #[] 0)).update s.heap.objs.size (Obj.mapSeq (· ++ vs.toArray)) }) (hsz : vs.length ≤ sizeLine) :
    wpAny (model prog w) A (collect (.ref l)) Q E s := by
  obtain ⟨o, ho, hc, n, hd⟩ := id hl
  unfold collect
  refine wpAny_bind (wpAny_runValue (codeAny_builtin entry_proto_collect' ?_))
  show wpAny _ _ (do again (.builtin "list.__iadd__" ⟨[← newList [], .ref l], []⟩)) _ _ s
  refine wpAny_bind (wpAny_newList (wpAny_pure ⟨Code.quiet_builtin _ (by decide +kernel), codeAny_builtin entry_list_iadd' ?_⟩) (Nat.zero_le _))
  show wpAny _ _ (Builtin.List.listExtendWith (.ref s.heap.objs.size) (.ref l) (.ref s.heap.objs.size)) _ _ { s with heap := s.heap.push (seqObj "list" #[] 0) }
  unfold Builtin.List.listExtendWith
  have ho' : (s.heap.push (seqObj "list" #[] 0)).get? l = some o := Heap.get?_push_of_some _ ho
  refine wpAny_bind (wpAny_typeOf (T := "tuple") ⟨o, ho', hc⟩ ?_)
  have ht : (Value.type "tuple" == Value.type "tuple") = true := by rfl
  rw [if_pos (by rw [ht]; simp)]
  refine wpAny_bind (listItems_at ho' hd ?_)
  refine wpAny_bind (listItems_at (xs := #[]) (n := 0) (Heap.get?_push_size _ rfl) rfl ?_)
  rw [if_neg (by simp)]
  refine wpAny_bind (listUpdate_at (xs := #[]) (n := 0) (Heap.get?_push_size _ rfl) rfl ?_ (Nat.zero_le _) (by show (#[] ++ vs.toArray).size ≤ sizeLine + 1; simp only [Array.size_append, List.size_toArray, List.length_nil]; omega))
  refine wpAny_pure ?_
  show wpAny (model prog w) A (do
      let o ← load s.heap.objs.size
      match o.data with
      | .seq xs _ => pure xs.toList
      | _ => unsupported "internal:collect") Q E { s with heap := (s.heap.push (seqObj "list" #[] 0)).update s.heap.objs.size (Obj.mapSeq (· ++ vs.toArray)) }
  refine wpAny_bind (wpAny_load (get?_update_seq (Heap.get?_push_size _ rfl) _) ?_)
  show wpAny _ _ (pure ((#[] : Array Value) ++ vs.toArray).toList) Q E _
  rw [show ((#[] : Array Value) ++ vs.toArray).toList = vs by simp]
  exact wpAny_pure h
end
end FR
namespace PySem.W
open PySem PySem.Calls PyProof.Rows
section
variable {prog : Program} {w : World} {A : Around} {E : Value → Shared → Prop} {s : Shared} {β : Type} {vs : List Value} {bs : List β} {R : Value → β → Prop} {enc : β → PyData}
theorem fr_sorted_of_sort {l : Addr} {vs : List Value} {kw : List (Str × Value)} {Q : Value → Shared → Prop} (hl : s.heap.IsTuple l vs.toArray) (hL : vs.length ≤ sizeLine) (ha1 : argsOk "sorted" ⟨[.ref l], kw⟩) (ha2 : ∀ x, argsOk "list.sort" ⟨[.ref x], kw⟩)
    (body : ∀ E' : Value → Shared → Prop, wpAny (model prog w) A.in1.in1 (Builtin.«list.sort» ⟨[.ref (s.heap.objs.size + 1)], kw⟩) (fun f s' => f = .done (.ret .none) ∧ Q (.ref (s.heap.objs.size + 1)) s') E' { s with heap := copyHeap s.heap vs }) :
    wpAny (model prog w) A (call (.builtin "sorted") [.ref l] kw) Q E s := by
  refine call_function_entry_kw kind_sorted plain_sorted entry_sorted ha1 ?_
  unfold Builtin.«sorted»
  refine wpAny_bind (m := checkCount "sorted" 1 1 _) (wpAny_pure ?_)
  refine wpAny_bind (FR.collect_tuple hl ?_ hL)
  refine wpAny_bind (wpAny_newList ?_ hL)
  have hsz : ((s.heap.push (seqObj "list" #[] 0)).update s.heap.objs.size (Obj.mapSeq (· ++ vs.toArray))).objs.size = s.heap.objs.size + 1 := by
    rw [Heap.size_update, size_push']
  show wpAny _ _ _ _ _ { s with heap := copyHeap s.heap vs }
  rw [hsz]
  refine wpAny_bind (wpAny_holding (wpAny_call_entry_kw slot_list_sort ⟨_, copyHeap_at s.heap vs, rfl⟩ entry_list_sort ?body (ha2 _)))
  case body =>
    show wpAny (model prog w) A.in1.in1 (Builtin.«list.sort» ⟨[.ref (s.heap.objs.size + 1)], kw⟩) _ _ _
    refine wpAny_mono (body _) (fun f s' hf => ?_) fun _ _ e => e
    obtain ⟨rfl, hq⟩ := hf
    exact ⟨_, rfl, wpAny_pure ⟨_, rfl, hq⟩⟩
theorem fr_sorted_dataT {l : Addr} {Q : Value → Shared → Prop} (hl : s.heap.IsTuple l vs.toArray) (e : EachIs R vs bs) (er : EachIs (fun v b => ∃ as, Reads s.heap v (enc b) as) vs bs) (hal : AllAlike (bs.map enc)) (hk : Sortable (bs.map enc)) (hL : bs.length ≤ sizeLine)
    (hu : ∀ b, b ∈ bs → A.units + 2 + (enc b).depth < cLine) (h : ∀ out, out.length = bs.length → EachIs R out (bs.mergeSort (dataLe false enc)) → Q (.ref (s.heap.objs.size + 1)) { s with heap := sortedAll s.heap vs (List.toArray out) }) :
    wpAny (model prog w) A (call (.builtin "sorted") [.ref l]) Q E s := by
  have er' : EachIs (fun v b => ∃ as, Reads (sortingHeap (copyHeap s.heap vs) (s.heap.objs.size + 1) vs) v (enc b) as) vs bs := er.mono fun _ _ ⟨as, r⟩ => ⟨as, PyProof.Rows.Reads.keeps (fun _ _ => sorting_copy_old) r⟩
  have S := SortsAt.data (prog := prog) (w := w) (A := A.in1.in1) (s := { s with heap := sortingHeap (copyHeap s.heap vs) (s.heap.objs.size + 1) vs }) (each_map (R := fun v d => ∃ as, Reads (sortingHeap (copyHeap s.heap vs) (s.heap.objs.size + 1) vs) v d as) enc er') hal hk (bound_map hu)
  have hL2 : vs.length ≤ sizeLine := by rw [e.length]; exact hL
  exact fr_sorted_of_sort hl hL2 (args_sorted1 _) (fun _ => args_list_sort _) fun _ => list_sort_vals (s := { s with heap := copyHeap s.heap vs }) (copyHeap_at s.heap vs) S hL2 ⟨rfl, h _ (by rw [sortVals_length false rfl]; exact e.length) (sortVals_data false e er' hal)⟩
end
end PySem.W
namespace FR
open PySem PySem.Spec PyProof.Rows L2
section
variable {X : Cx}
/-- sorted(xs): xs stands for bs, its items read as enc; the new list stands for bs.mergeSort -/
def rSortedD (K : PySem.W.Frag) : List V → Hp → VK → Prop := fun us H Q => ∃ (a : Addr) (xs : List V) (β : Type) (bs : List β) (enc : β → PyData) (R : V → β → Prop), us = [.ref a] ∧ (SqL K H a xs ∨ SqT K H a xs) ∧ PySem.W.EachIs R xs bs ∧
  (∀ v b, R v b → Dp K H v (enc b)) ∧ PySem.W.AllAlike (bs.map enc) ∧ PySem.W.Sortable (bs.map enc) ∧ (∀ b ∈ bs, (enc b).depth ≤ 60) ∧
  ∀ p ys, H p = none → PySem.W.EachIs R ys (bs.mergeSort (PySem.W.dataLe false enc)) → Q (.ref p) (upd H p (.lst ys))
theorem each_vals {β : Type} {R : V → β → Prop} : ∀ {xs : List V} {us : List Value} {bs : List β}, Vals xs us → PySem.W.EachIs R xs bs → PySem.W.EachIs (fun u b => ∃ v, RelV v u ∧ R v b) us bs
  | _, _, _, .nil, .nil => .nil
  | _, _, _, .cons r t, .cons h k => .cons ⟨_, r, h⟩ (each_vals t k)
theorem vals_each {β : Type} {R : V → β → Prop} : ∀ {us : List Value} {bs : List β}, PySem.W.EachIs (fun u b => ∃ v, RelV v u ∧ R v b) us bs → ∃ xs, Vals xs us ∧ PySem.W.EachIs R xs bs
  | _, _, .nil => ⟨[], .nil, .nil⟩
  | _, _, .cons ⟨v, r, h⟩ k => by
    obtain ⟨xs, h1, h2⟩ := vals_each k
    exact ⟨v :: xs, .cons r h1, .cons h h2⟩
theorem each_len {α β : Type} {R : α → β → Prop} : ∀ {xs : List α} {bs : List β}, PySem.W.EachIs R xs bs → xs.length = bs.length
  | _, _, .nil => rfl
  | _, _, .cons _ k => congrArg Nat.succ (each_len k)
theorem cr_sortedD (hu : X.A.units + 64 < cLine) : CallR X (.builtin "sorted") (rSortedD X.K) := by
  intro pins s σ H us vs Q I r h
  obtain ⟨a, xs, β, bs, enc, R, rfl, hs, he, hR, hal, hk, hd, q⟩ := h
  obtain ⟨u, rfl, ru⟩ := vals1 r
  obtain rfl : u = Value.ref a := ru
  have each : ∀ {its : List Value}, Vals xs its → PySem.W.EachIs (fun u b => ∃ v, RelV v u ∧ R v b) its bs ∧ PySem.W.EachIs (fun u b => ∃ as, Reads s.heap u (enc b) as) its bs := fun rv => by
    have e := each_vals rv he
    refine ⟨e, e.mono fun u b ⟨v, r1, r2⟩ => ?_⟩
    exact Dp.reads I (enc b) v u (hR v b r2) r1
  have fin : ∀ (its out : List Value), xs.length ≤ sizeLine → xs.length = its.length → out.length = bs.length → PySem.W.EachIs (fun u b => ∃ v, RelV v u ∧ R v b) out (bs.mergeSort (PySem.W.dataLe false enc)) →
      EP X pins σ Q (.ref (s.heap.objs.size + 1)) { s with heap := sortedAll s.heap its (List.toArray out) } := fun its out hz hl ho e => by
    obtain ⟨ys, h1, h2⟩ := vals_each e
    have hk2 : ∀ b o, s.heap.get? b = some o → (sortedAll s.heap its (List.toArray out)).get? b = some o := fun b o z => sortedAll_old z
    have hp : s.heap.objs.size ≤ s.heap.objs.size + 1 := Nat.le_succ _
    obtain ⟨n, hn⟩ := sortedAll_at s.heap its (List.toArray out)
    have hlen := h1.length
    have hl2 := each_len he
    refine ⟨.ref (s.heap.objs.size + 1), upd H (s.heap.objs.size + 1) (.lst ys), I.laid (t' := s.toks) hk2 hp ⟨?_, out, n, h1, hn⟩, rfl, q _ ys (I.hok.fresh hp) h2⟩
    rw [hlen, ho, ← hl2]
    exact hz
  have hb : ∀ b, b ∈ bs → X.A.units + 2 + (enc b).depth < cLine := fun b m => by
    have := hd b m
    omega
  have hl2 := each_len he
  rcases hs with hs | hs
  · obtain ⟨its, rv, pl, hz⟩ := I.list hs
    obtain ⟨e1, e2⟩ := each rv
    exact PySem.W.sorted_data pl.isList e1 e2 hal hk (by omega) hb fun out ho eo => fin its out hz rv.length ho eo
  · obtain ⟨its, rv, pl, hz⟩ := I.tuple hs
    obtain ⟨e1, e2⟩ := each rv
    exact PySem.W.fr_sorted_dataT (show s.heap.IsTuple a its.toArray from pl) e1 e2 hal hk (by omega) hb fun out ho eo => fin its out hz rv.length ho eo
/-! ### dict of a bare tuple of pairs -/
theorem pairs_bare {pins : List (Addr × Obj)} {σ : L2.St} {H : Hp} {s : Shared} (I : L2.Inv X pins σ H s) : ∀ {ps : List Addr} {kvs : List (Key × V)}, Paired (fun p kv => SqT X.K H p [kV kv.1, kv.2]) ps kvs →
    ∃ (prs : List (Key × Value)) (raw : List (Value × Value)), KV kvs prs ∧ prs.length = raw.length ∧ raw.length = ps.length ∧ (∀ (j : Nat) (k v : Value), raw[j]? = some (k, v) → ∃ (b : Addr) (kk : Key), ps[j]? = some b ∧ IsTup s.heap b #[k, v] ∧ prs[j]? = some (kk, v) ∧ keyIs kk k = true)
  | _, _, .nil => ⟨[], [], .nil, rfl, rfl, fun j k v e => by simp at e⟩
  | _, _, .cons (a := p) (b := kv) h t => by
    obtain ⟨prs, raw, r, hl, hl2, hp⟩ := pairs_bare I t
    obtain ⟨its, rv, ht, _⟩ := I.tuple h
    obtain ⟨u, y, ei, ru, ry⟩ := vals2 rv
    subst ei
    refine ⟨(kv.1, y) :: prs, (u, y) :: raw, .cons ⟨rfl, ry⟩ r, by rw [List.length_cons, List.length_cons, hl], by rw [List.length_cons, List.length_cons, hl2], fun j k v e => ?_⟩
    cases j with
    | zero =>
      rw [List.getElem?_cons_zero] at e
      cases e
      exact ⟨p, kv.1, rfl, ht, rfl, kV_is (P := X.prog) (w := X.w) ru⟩
    | succ j =>
      obtain ⟨b, kk, e1, e2, e3, e4⟩ := hp j k v (by simpa using e)
      exact ⟨b, kk, by simpa using e1, e2, by simpa using e3, e4⟩
def rDictPT (K : PySem.W.Frag) : List V → Hp → VK → Prop := fun xs H Q => ∃ (a : Addr) (o : Obj) (ps : List Addr) (kvs : List (Key × V)), xs = [.ref a] ∧ H a = some (.frz o (.tup (ps.map V.ref))) ∧ Bare o ∧ Paired (fun p kv => SqT K H p [kV kv.1, kv.2]) ps kvs ∧
    ∀ p, H p = none → Q (.ref p) (upd H p (.dK (mergeK [] kvs)))
theorem call_dictPT (hcalm : X.calm = true) : CallR X (.type "dict") (rDictPT X.K) := by
  intro pins s σ H xs us Q I r q
  obtain ⟨a, o, ps, kvs, ex, hq, ⟨bc, bd⟩, hp, q⟩ := q
  subst ex
  obtain ⟨u, eu, rx⟩ := vals1 r
  subst eu
  cases rx
  obtain ⟨ho, hz, its, rv, ⟨o', ho', _, n, hdat⟩⟩ := I.hok a _ hq
  rw [ho] at ho'
  cases ho'
  have ei := refs_at rv
  subst ei
  rw [List.length_map] at hz
  obtain ⟨prs, raw, rel, hl1, hl2, hpr⟩ := pairs_bare I hp
  have hm : (s.heap.objs.size == sysModules) = false := beq_eq_false_iff_ne.mpr (Nat.ne_of_gt I.big)
  have items : PySem.PairItems s.heap (ps.map Value.ref).toArray (fun j => ps.getD j 0) raw := by
    refine ⟨by simp [hl2], fun j k v e => ?_⟩
    obtain ⟨b, kk, e1, e2, _, _⟩ := hpr j k v e
    have eg : ps.getD j 0 = b := by
      rw [List.getD_eq_getElem?_getD, e1]
      rfl
    dsimp only
    rw [eg]
    exact ⟨by simp [e1], .inl e2⟩
  refine PySem.call_dict_pairs (knd := mixKind X.prog X.w) (kvs := prs) (PySem.PairArg.tuple (prog := X.prog) (w := X.w) a (ps.map Value.ref).toArray (fun j => ps.getD j 0) raw) (I.ok.hd hcalm) ⟨⟨o, n, ho, bc, bd, hdat⟩, items⟩ ⟨hl1, fun i key v e => ?_⟩ (by rw [hl2]; exact hz) fun h' tk hd' k => ?_
  · obtain ⟨b, kk, _, _, e3, e4⟩ := hpr i key v e
    exact ⟨kk, e3, e4⟩
  · have hlen : (mergeK [] kvs).length ≤ sizeLine := by
      refine Nat.le_trans (length_mergeK kvs []) ?_
      rw [List.length_nil, Nat.zero_add, rel.length, hl1, hl2]
      exact hz
    have hk : ∀ b o, s.heap.get? b = some o → h'.get? b = some o := fun b ob e => k b ob (by simp) e
    exact ⟨.ref s.heap.objs.size, upd H s.heap.objs.size (.dK (mergeK [] kvs)), I.laid (t' := tk) hk (Nat.le_refl _) (show ObjOk X.prog X.w _ _ _ (.dK (mergeK [] kvs)) from ⟨hlen, hm, merged [] prs, KV.merge rel .nil, hd'⟩), rfl, q _ (I.hok.fresh (Nat.le_refl _))⟩
/-! ### an attribute as a target among others -/
def gFld (K : PySem.W.Frag) (ta : TE) (f : Str) : TG := fun v σ H Q => ta σ H fun x H2 => ∃ a C dx fs, x = .ref a ∧ H2 a = some (.ins C dx fs) ∧ Cls K C ∧ NoAttr K C f ∧ fs.length < 1000 ∧ Q σ (upd H2 a (.ins C dx (putF f v fs)))
theorem pg_fld {o : Expr} {f : Str} {ta : TE} {pos : Pos} (ha : PE X o ta)
    (he : ∀ v, assign (.Attribute o f pos) X.env v = (do
      let ov ← holding [v] (eval o X.env)
      standAt pos.atName
      holding [v, ov] (setAttr ov f v)
      release [v, ov] []) := by intro _; rfl) : PG X (.Attribute o f pos) (gFld X.K ta f) := by
  refine ⟨fun pins s σ H v u Q I r h => ?_⟩
  rw [he]
  refine wpAny_bind (wpAny_holding (thn (ha.run pins s σ H _ I h) fun ov s1 ⟨x, H1, I1, r1, a, C, dx, fs, ex, ea, c, n, l, q1⟩ => ?_))
  subst ex
  obtain rfl : ov = Value.ref a := r1
  refine wpAny_bind (wpAny_standAt (wpAny_bind (wpAny_holding (setattr_ok I1 ea c n l r fun s3 I3 => ?_))))
  exact wpAny_release ⟨σ, _, I3, q1⟩
end
end FR

set_option Elab.async false
set_option linter.all false
set_option maxRecDepth 100000
set_option maxHeartbeats 4000000
/-! Data in an abstract heap: a knowledge heap Hi below the heap H; slots; what an expression evaluates to. -/
namespace FK
open PySem PySem.Spec PyProof.Rows L2 FR

/-! ### the data of the program -/
structure Rsn where
  w : Int
  a : Str
  b : Str
  k : Int
  deriving DecidableEq
structure Br where
  a : Str
  b : Str
  k : Int
  deriving DecidableEq
structure Row where
  n : Str
  ws : List (Str × Str)
  deriving DecidableEq
inductive Rul where
  | never (f : Str)
  | same (f : Str) (w : Int)
  | begin (f : Str) (n w : Int)
  | both (f o : Str) (w : Int)
  deriving DecidableEq
structure S4 where
  rows : List Row
  told : List Rsn
  bars : List Br
  struck : List Rsn
  deriving DecidableEq
structure Fo where
  rules : List Rul
  cur : S4
  ahead : List S4
/-- what stands in the heap: ptup is a tuple whose object is known to be a bare one, dct a dict with text keys that is never changed -/
inductive D where
  | none
  | bool (b : Bool)
  | int (i : Int)
  | str (s : Str)
  | list (xs : List D)
  | tuple (xs : List D)
  | ptup (xs : List D)
  | dct (kvs : List (Str × D))
  /-- the script -/
  | scr (ns : List Int)
abbrev strD (s : Str) : D := .str s
abbrev intD (i : Int) : D := .int i
abbrev wordD (p : Str × Str) : D := .tuple [.str p.1, .str p.2]
abbrev rowD (r : Row) : D := .tuple [.str r.n, .ptup (r.ws.map wordD)]
abbrev rsnD (r : Rsn) : D := .tuple [.int r.w, .str r.a, .str r.b, .int r.k]
abbrev brD (r : Br) : D := .tuple [.str r.a, .str r.b, .int r.k]
def rulD : Rul → D
  | .never f => .tuple [.str "never", .str f]
  | .same f w => .tuple [.str "same", .str f, .int w]
  | .begin f n w => .tuple [.str "begin", .str f, .int n, .int w]
  | .both f o w => .tuple [.str "both", .str f, .str o, .int w]
abbrev rulesD (l : List Rul) : D := .tuple (l.map rulD)
abbrev rowsD (l : List Row) : D := .tuple (l.map rowD)
abbrev rsnsD (l : List Rsn) : D := .tuple (l.map rsnD)
abbrev brsD (l : List Br) : D := .tuple (l.map brD)
abbrev s4D (s : S4) : D := .tuple [rowsD s.rows, rsnsD s.told, brsD s.bars, rsnsD s.struck]
mutual
def py : D → PyData
  | .none => .none
  | .bool b => .bool b
  | .int i => .int i
  | .str s => .str s
  | .list xs => .list (pyAll xs)
  | .tuple xs => .tuple (pyAll xs)
  | .ptup xs => .tuple (pyAll xs)
  | .dct _ => .dict []
  | .scr _ => .dict []
def pyAll : List D → List PyData
  | [] => []
  | x :: xs => py x :: pyAll xs
end
theorem pyAll_map : ∀ xs : List D, pyAll xs = xs.map py
  | [] => by simp only [pyAll, List.map_nil]
  | x :: xs => by simp only [pyAll, List.map_cons, pyAll_map xs]

/-! ### heaps -/
/-- what is known of H', known of Hi below H, when H' has grown out of H -/
def nu (Hi H H' : Hp) : Hp := fun a => if (H a).isSome = true then Hi a else H' a
theorem isSome_of {α : Type} {o : Option α} (h : o ≠ none) : o.isSome = true := by
  cases o with
  | none => exact absurd rfl h
  | some _ => rfl
section
variable {Hi Hj H H' H2 : Hp} {a p : Addr} {o : HO}
theorem nu_some (h : H a ≠ none) : nu Hi H H' a = Hi a := by
  unfold nu
  rw [if_pos (isSome_of h)]
theorem nu_none (h : H a = none) : nu Hi H H' a = H' a := by
  unfold nu
  rw [h]
  exact if_neg Bool.false_ne_true
theorem nu_lo (x : Same Hi H) : Same Hi (nu Hi H H') := fun a o e => by
  rw [nu_some (by rw [x a o e]; exact fun z => nomatch z)]
  exact e
theorem nu_hi (x : Same Hi H) (g : Same H H') : Same (nu Hi H H') H' := fun a o e => by
  by_cases h : H a = none
  · rw [nu_none h] at e
    exact e
  · rw [nu_some h] at e
    exact g a o (x a o e)
theorem nu_refl (x : Same Hi H) : nu Hi H H = Hi := by
  funext a
  by_cases h : H a = none
  · rw [nu_none h, h]
    exact (Same.free x h).symm
  · rw [nu_some h]
theorem nu_nu (x : Same Hi H) (g : Same H H') (g2 : Same H' H2) : nu (nu Hi H H') H' H2 = nu Hi H H2 := by
  funext a
  by_cases h : H a = none
  · rw [nu_none h]
    by_cases h' : H' a = none
    · rw [nu_none h']
    · rw [nu_some h', nu_none h]
      obtain ⟨o, e⟩ := Option.ne_none_iff_exists'.mp h'
      rw [e, g2 a o e]
  · have h' : H' a ≠ none := by
      obtain ⟨o, e⟩ := Option.ne_none_iff_exists'.mp h
      rw [g a o e]
      exact fun z => nomatch z
    rw [nu_some h', nu_some h, nu_some h]
theorem nu_upd (x : Same Hi H) (h : H p = none) : nu Hi H (upd H p o) = upd Hi p o := by
  funext a
  by_cases e : a = p
  · rw [e, nu_none h, upd_same, upd_same]
  · rw [upd_ne e]
    by_cases z : H a = none
    · rw [nu_none z, upd_ne e, z]
      exact (Same.free x z).symm
    · rw [nu_some z]
/-- everything known -/
theorem nu_self (g : Same H H') : nu H H H' = H' := by
  funext a
  by_cases h : H a = none
  · exact nu_none h
  · rw [nu_some h]
    obtain ⟨o, e⟩ := Option.ne_none_iff_exists'.mp h
    rw [e, g a o e]
/-- more known, more known behind -/
theorem nu_mono (x : Same Hi Hj) : Same (nu Hi H H') (nu Hj H H') := fun a o e => by
  by_cases h : H a = none
  · rw [nu_none h] at e ⊢
    exact e
  · rw [nu_some h] at e ⊢
    exact x a o e
theorem same_new (h : H p = none) : Same H (upd H p o) := fun a u e => by
  rw [upd_ne (ne_of_none e h)]
  exact e
theorem same_upd2 (x : Same Hi H) (h : Hi p = none) : Same Hi (upd H p o) := fun a u e => by
  rw [upd_ne (ne_of_none e h)]
  exact x a u e
theorem same_both (x : Same Hi H) : Same (upd Hi p o) (upd H p o) := fun a u e => by
  by_cases z : a = p
  · rw [z, upd_same] at e ⊢
    exact e
  · rw [upd_ne z] at e ⊢
    exact x a u e
end

/-! ### data in a heap -/
section
variable {K : PySem.W.Frag} {H H' : Hp}
theorem Same.seqT {a : Addr} {xs : List V} (e : Same H H') (h : SqT K H a xs) : SqT K H' a xs := by
  rcases h with (h | ⟨o, h⟩) | h
  · exact .inl (.inl (e _ _ h))
  · exact .inl (.inr ⟨o, e _ _ h⟩)
  · exact .inr h
end
mutual
inductive Dd (K : PySem.W.Frag) (H : Hp) : V → D → Prop
  | non : Dd K H .non .none
  | bl (b : Bool) : Dd K H (.bl b) (.bool b)
  | int (i : Int) : Dd K H (.int i) (.int i)
  | str (x : Str) : Dd K H (.str x) (.str x)
  | lst {a : Addr} {xs : List V} {ds : List D} : H a = some (.lst xs) → DdAll K H xs ds → Dd K H (.ref a) (.list ds)
  | tup {a : Addr} {xs : List V} {ds : List D} : SqT K H a xs → DdAll K H xs ds → Dd K H (.ref a) (.tuple ds)
  | ptup {a : Addr} {o : Obj} {xs : List V} {ds : List D} : H a = some (.frz o (.tup xs)) → Bare o → DdAll K H xs ds → Dd K H (.ref a) (.ptup ds)
  | dct {a : Addr} {es : List (Key × V)} {kvs : List (Str × D)} : H a = some (.dK es) → DdKv K H es kvs → Dd K H (.ref a) (.dct kvs)
  | scr {a : Addr} {ns : List Int} : SqL K H a (ns.map V.int) → Dd K H (.ref a) (.scr ns)
inductive DdAll (K : PySem.W.Frag) (H : Hp) : List V → List D → Prop
  | nil : DdAll K H [] []
  | cons {v : V} {vs : List V} {d : D} {ds : List D} : Dd K H v d → DdAll K H vs ds → DdAll K H (v :: vs) (d :: ds)
inductive DdKv (K : PySem.W.Frag) (H : Hp) : List (Key × V) → List (Str × D) → Prop
  | nil : DdKv K H [] []
  | cons {x : Str} {v : V} {es : List (Key × V)} {d : D} {kvs : List (Str × D)} : Dd K H v d → DdKv K H es kvs → DdKv K H ((Sum.inr x, v) :: es) ((x, d) :: kvs)
end
section
variable {K : PySem.W.Frag} {H H' : Hp}
mutual
theorem Dd.mono (e : Same H H') : ∀ (d : D) {v : V}, Dd K H v d → Dd K H' v d
  | .none, _, h => by cases h; exact .non
  | .bool b, _, h => by cases h; exact .bl b
  | .int i, _, h => by cases h; exact .int i
  | .str x, _, h => by cases h; exact .str x
  | .list ds, _, h => by
    cases h with
    | lst hs ha => exact .lst (e _ _ hs) (DdAll.mono e ds ha)
  | .tuple ds, _, h => by
    cases h with
    | tup hs ha => exact .tup (Same.seqT e hs) (DdAll.mono e ds ha)
  | .ptup ds, _, h => by
    cases h with
    | ptup hs hb ha => exact .ptup (e _ _ hs) hb (DdAll.mono e ds ha)
  | .dct kvs, _, h => by
    cases h with
    | dct hs ha => exact .dct (e _ _ hs) (DdKv.mono e kvs ha)
  | .scr ns, _, h => by
    cases h with
    | scr hs => exact .scr (Same.seq e hs)
theorem DdAll.mono (e : Same H H') : ∀ (ds : List D) {vs : List V}, DdAll K H vs ds → DdAll K H' vs ds
  | [], _, h => by cases h; exact .nil
  | d :: ds, _, h => by
    cases h with
    | cons h1 h2 => exact .cons (Dd.mono e d h1) (DdAll.mono e ds h2)
theorem DdKv.mono (e : Same H H') : ∀ (ds : List (Str × D)) {vs : List (Key × V)}, DdKv K H vs ds → DdKv K H' vs ds
  | [], _, h => by cases h; exact .nil
  | (x, d) :: ds, _, h => by
    cases h with
    | cons h1 h2 => exact .cons (Dd.mono e d h1) (DdKv.mono e ds h2)
end
mutual
/-- data without dicts, for the library's == -/
theorem Dd.dp : ∀ (d : D) {v : V}, (py d).canLay0 = true → Dd K H v d → Dp K H v (py d)
  | .none, _, _, h => by cases h; simp only [py]; exact .non
  | .bool b, _, _, h => by cases h; simp only [py]; exact .bl b
  | .int i, _, _, h => by cases h; simp only [py]; exact .int i
  | .str x, _, _, h => by cases h; simp only [py]; exact .str x
  | .list ds, _, c, h => by
    cases h with
    | lst hs ha =>
      simp only [py]
      exact .lst (SqL.of hs) (DdAll.dp ds (by simpa only [py, PyData.canLay0] using c) ha)
  | .tuple ds, _, c, h => by
    cases h with
    | tup hs ha =>
      simp only [py]
      exact .tup hs (DdAll.dp ds (by simpa only [py, PyData.canLay0] using c) ha)
  | .ptup ds, _, c, h => by
    cases h with
    | ptup hs hb ha =>
      simp only [py]
      exact .tup (.inl (.inr ⟨_, hs⟩)) (DdAll.dp ds (by simpa only [py, PyData.canLay0] using c) ha)
  | .dct kvs, _, c, h => by simp only [py, PyData.canLay0] at c; cases c
  | .scr ns, _, c, h => by simp only [py, PyData.canLay0] at c; cases c
theorem DdAll.dp : ∀ (ds : List D) {vs : List V}, PyData.canLayAll0 (pyAll ds) = true → DdAll K H vs ds → DpAll K H vs (pyAll ds)
  | [], _, _, h => by cases h; simp only [pyAll]; exact .nil
  | d :: ds, _, c, h => by
    cases h with
    | cons h1 h2 =>
      simp only [pyAll, PyData.canLayAll0, Bool.and_eq_true] at c ⊢
      exact .cons (Dd.dp d c.1 h1) (DdAll.dp ds c.2 h2)
end
theorem DdAll.len : ∀ {vs : List V} {ds : List D}, DdAll K H vs ds → vs.length = ds.length
  | _, _, .nil => rfl
  | _, _, .cons _ t => congrArg Nat.succ (DdAll.len t)
theorem DdAll.get : ∀ {vs : List V} {ds : List D} {i : Nat} {d : D}, DdAll K H vs ds → ds[i]? = some d → ∃ v, vs[i]? = some v ∧ Dd K H v d
  | _, _, i, d, .nil, e => by simp at e
  | _, _, 0, d, .cons (v := v) r _, e => by
    rw [List.getElem?_cons_zero] at e
    cases e
    exact ⟨v, rfl, r⟩
  | _, _, i + 1, d, .cons _ t, e => by
    obtain ⟨v, h1, h2⟩ := DdAll.get (i := i) (d := d) t (by simpa using e)
    exact ⟨v, by simpa using h1, h2⟩
theorem DdAll.getV : ∀ {vs : List V} {ds : List D} {i : Nat} {v : V}, DdAll K H vs ds → vs[i]? = some v → ∃ d, ds[i]? = some d ∧ Dd K H v d
  | _, _, i, v, .nil, e => by simp at e
  | _, _, 0, v, .cons (d := d) r _, e => by
    rw [List.getElem?_cons_zero] at e
    cases e
    exact ⟨d, rfl, r⟩
  | _, _, i + 1, v, .cons _ t, e => by
    obtain ⟨d, h1, h2⟩ := DdAll.getV (i := i) (v := v) t (by simpa using e)
    exact ⟨d, by simpa using h1, h2⟩
theorem DdAll.app : ∀ {vs ws : List V} {ds es : List D}, DdAll K H vs ds → DdAll K H ws es → DdAll K H (vs ++ ws) (ds ++ es)
  | _, _, _, _, .nil, s => s
  | _, _, _, _, .cons r t, s => .cons r (DdAll.app t s)
theorem DdAll.one {v : V} {d : D} (h : Dd K H v d) : DdAll K H [v] [d] := .cons h .nil
theorem DdAll.take : ∀ (n : Nat) {vs : List V} {ds : List D}, DdAll K H vs ds → DdAll K H (vs.take n) (ds.take n)
  | 0, _, _, _ => by rw [List.take_zero, List.take_zero]; exact .nil
  | n + 1, _, _, .nil => by rw [List.take_nil, List.take_nil]; exact .nil
  | n + 1, _, _, .cons r t => by rw [List.take_succ_cons, List.take_succ_cons]; exact .cons r (DdAll.take n t)
theorem DdAll.drop : ∀ (n : Nat) {vs : List V} {ds : List D}, DdAll K H vs ds → DdAll K H (vs.drop n) (ds.drop n)
  | 0, _, _, h => by rw [List.drop_zero, List.drop_zero]; exact h
  | n + 1, _, _, .nil => by rw [List.drop_nil, List.drop_nil]; exact .nil
  | n + 1, _, _, .cons r t => by rw [List.drop_succ_cons, List.drop_succ_cons]; exact DdAll.drop n t
theorem DdAll.inv {vs : List V} {d : D} {ds : List D} (h : DdAll K H vs (d :: ds)) : ∃ v ws, vs = v :: ws ∧ Dd K H v d ∧ DdAll K H ws ds := by
  cases h with
  | cons a b => exact ⟨_, _, rfl, a, b⟩
theorem DdAll.inv0 {vs : List V} (h : DdAll K H vs []) : vs = [] := by cases h; rfl
theorem Dd.int_eq {v : V} {i : Int} (h : Dd K H v (.int i)) : v = .int i := by cases h; rfl
theorem Dd.str_eq {v : V} {z : Str} (h : Dd K H v (.str z)) : v = .str z := by cases h; rfl
theorem Dd.bl_eq {v : V} {b : Bool} (h : Dd K H v (.bool b)) : v = .bl b := by cases h; rfl
theorem Dd.non_eq {v : V} (h : Dd K H v .none) : v = .non := by cases h; rfl
theorem Dd.lst_inv {v : V} {ds : List D} (h : Dd K H v (.list ds)) : ∃ a vs, v = .ref a ∧ H a = some (.lst vs) ∧ DdAll K H vs ds := by
  cases h with
  | lst a b => exact ⟨_, _, rfl, a, b⟩
theorem Dd.ptup_inv {v : V} {ds : List D} (h : Dd K H v (.ptup ds)) : ∃ a o vs, v = .ref a ∧ H a = some (.frz o (.tup vs)) ∧ Bare o ∧ DdAll K H vs ds := by
  cases h with
  | ptup a b c => exact ⟨_, _, _, rfl, a, b, c⟩
theorem Dd.scr_inv {v : V} {ns : List Int} (h : Dd K H v (.scr ns)) : ∃ a, v = .ref a ∧ SqL K H a (ns.map V.int) := by
  cases h with
  | scr a => exact ⟨_, rfl, a⟩
theorem Dd.dct_inv {v : V} {kvs : List (Str × D)} (h : Dd K H v (.dct kvs)) : ∃ a es, v = .ref a ∧ H a = some (.dK es) ∧ DdKv K H es kvs := by
  cases h with
  | dct a b => exact ⟨_, _, rfl, a, b⟩
theorem Dd.tup_inv {v : V} {ds : List D} (h : Dd K H v (.tuple ds)) : ∃ a vs, v = .ref a ∧ SqT K H a vs ∧ DdAll K H vs ds := by
  cases h with
  | tup a b => exact ⟨_, _, rfl, a, b⟩
end

/-! ### slots -/
inductive Sl where
  /-- not known -/
  | non
  | dat (d : D)
  /-- a list of ours, that may be changed -/
  | own (ds : List D)
  /-- a folk -/
  | fol (p l : Addr) (F : Fo)
  /-- a folk that is only asked -/
  | fro (F : Fo)
def flds (v1 v2 v3 v4 v5 : V) (l : Addr) : List (Str × V) := [("rules", v1), ("standing", v2), ("reasons", v3), ("barred", v4), ("struck", v5), ("ahead", .ref l)]
/-- the folk's object at p, its list of what was ahead at l -/
def FolAt (K : PySem.W.Frag) (C : Addr) (Hi H : Hp) (p l : Addr) (F : Fo) : Prop := ∃ (dx : Addr) (v1 v2 v3 v4 v5 : V) (ls : List V), H p = some (.ins C dx (flds v1 v2 v3 v4 v5 l)) ∧
  Dd K Hi v1 (rulesD F.rules) ∧ Dd K Hi v2 (rowsD F.cur.rows) ∧ Dd K Hi v3 (rsnsD F.cur.told) ∧ Dd K Hi v4 (brsD F.cur.bars) ∧ Dd K Hi v5 (rsnsD F.cur.struck) ∧
  H l = some (.lst ls) ∧ DdAll K Hi ls (F.ahead.map s4D)
inductive SlOk (K : PySem.W.Frag) (C : Addr) (Hi H : Hp) : Option V → Sl → List Addr → Prop
  | non (v : Option V) : SlOk K C Hi H v .non []
  | dat {v : V} {d : D} : Dd K Hi v d → SlOk K C Hi H (some v) (.dat d) []
  | own {a : Addr} {vs : List V} {ds : List D} : H a = some (.lst vs) → DdAll K Hi vs ds → SlOk K C Hi H (some (.ref a)) (.own ds) [a]
  | fol {p l : Addr} {F : Fo} : FolAt K C Hi H p l F → SlOk K C Hi H (some (.ref p)) (.fol p l F) [p, l]
  | fro {p l : Addr} {F : Fo} : FolAt K C Hi Hi p l F → SlOk K C Hi H (some (.ref p)) (.fro F) []
inductive SlsOk (K : PySem.W.Frag) (C : Addr) (Hi H : Hp) : L2.St → List Sl → List Addr → Prop
  | nil : SlsOk K C Hi H [] [] []
  | cons {v : Option V} {s : Sl} {as bs : List Addr} {σ : L2.St} {ρ : List Sl} : SlOk K C Hi H v s as → SlsOk K C Hi H σ ρ bs → SlsOk K C Hi H (v :: σ) (s :: ρ) (as ++ bs)
section
variable {K : PySem.W.Frag} {C : Addr} {Hi Hj H H' : Hp}
theorem FolAt.mono {p l : Addr} {F : Fo} (e : Same Hi Hj) (hp : H' p = H p) (hl : H' l = H l) (h : FolAt K C Hi H p l F) : FolAt K C Hj H' p l F := by
  obtain ⟨dx, v1, v2, v3, v4, v5, ls, h0, h1, h2, h3, h4, h5, h6, h7⟩ := h
  exact ⟨dx, v1, v2, v3, v4, v5, ls, hp.trans h0, Dd.mono e _ h1, Dd.mono e _ h2, Dd.mono e _ h3, Dd.mono e _ h4, Dd.mono e _ h5, hl.trans h6, DdAll.mono e _ h7⟩
theorem FolAt.both {p l : Addr} {F : Fo} (e : Same Hi Hj) (h : FolAt K C Hi Hi p l F) : FolAt K C Hj Hj p l F := by
  obtain ⟨dx, v1, v2, v3, v4, v5, ls, h0, h1, h2, h3, h4, h5, h6, h7⟩ := h
  exact ⟨dx, v1, v2, v3, v4, v5, ls, e _ _ h0, Dd.mono e _ h1, Dd.mono e _ h2, Dd.mono e _ h3, Dd.mono e _ h4, Dd.mono e _ h5, e _ _ h6, DdAll.mono e _ h7⟩
theorem SlOk.mono {v : Option V} {s : Sl} {as : List Addr} (e : Same Hi Hj) (h : SlOk K C Hi H v s as) (k : ∀ a ∈ as, H' a = H a) : SlOk K C Hj H' v s as := by
  cases h with
  | non v => exact .non v
  | dat h => exact .dat (Dd.mono e _ h)
  | own h1 h2 => exact .own ((k _ (by simp)).trans h1) (DdAll.mono e _ h2)
  | fol h => exact .fol (h.mono e (k _ (by simp)) (k _ (by simp)))
  | fro h => exact .fro (h.both e)
theorem SlOk.dom {v : Option V} {s : Sl} {as : List Addr} (h : SlOk K C Hi H v s as) : ∀ a ∈ as, H a ≠ none := by
  cases h with
  | non v => exact fun a ha => absurd ha (by simp)
  | dat h => exact fun a ha => absurd ha (by simp)
  | fro h => exact fun a ha => absurd ha (by simp)
  | own h1 h2 =>
    intro a ha
    rw [List.mem_singleton.mp ha, h1]
    exact fun z => nomatch z
  | fol h =>
    obtain ⟨dx, v1, v2, v3, v4, v5, ls, h0, _, _, _, _, _, h6, _⟩ := h
    intro a ha
    rcases List.mem_cons.mp ha with e | ha
    · rw [e, h0]
      exact fun z => nomatch z
    · rw [List.mem_singleton.mp ha, h6]
      exact fun z => nomatch z
theorem SlsOk.mono : ∀ {σ : L2.St} {ρ : List Sl} {as : List Addr}, Same Hi Hj → SlsOk K C Hi H σ ρ as → (∀ a ∈ as, H' a = H a) → SlsOk K C Hj H' σ ρ as
  | _, _, _, _, .nil, _ => .nil
  | _, _, _, e, .cons h t, k => .cons (h.mono e fun a ha => k a (List.mem_append_left _ ha)) (SlsOk.mono e t fun a ha => k a (List.mem_append_right _ ha))
theorem SlsOk.dom : ∀ {σ : L2.St} {ρ : List Sl} {as : List Addr}, SlsOk K C Hi H σ ρ as → ∀ a ∈ as, H a ≠ none
  | _, _, _, .nil, a, ha => absurd ha (by simp)
  | _, _, _, .cons h t, a, ha => (List.mem_append.mp ha).elim (h.dom a) (SlsOk.dom t a)
theorem SlsOk.len : ∀ {σ : L2.St} {ρ : List Sl} {as : List Addr}, SlsOk K C Hi H σ ρ as → σ.length = ρ.length
  | _, _, _, .nil => rfl
  | _, _, _, .cons _ t => congrArg Nat.succ (SlsOk.len t)
/-- one slot: what stands there, and another thing laid there -/
theorem SlsOk.split : ∀ {σ : L2.St} {ρ : List Sl} {as : List Addr} {i : Nat} {s : Sl}, SlsOk K C Hi H σ ρ as → ρ[i]? = some s → ∃ (v : Option V) (xs bs ys : List Addr), σ[i]? = some v ∧ as = xs ++ (bs ++ ys) ∧ SlOk K C Hi H v s bs ∧
    ∀ (Hj H' : Hp), Same Hi Hj → (∀ a ∈ xs ++ ys, H' a = H a) → ∀ (v' : Option V) (s' : Sl) (bs' : List Addr), SlOk K C Hj H' v' s' bs' → SlsOk K C Hj H' (σ.set i v') (ρ.set i s') (xs ++ (bs' ++ ys))
  | _, _, _, i, s, .nil, e => by simp at e
  | _, _, _, 0, s, .cons (v := v) (as := as) (bs := bs) h t, e => by
    rw [List.getElem?_cons_zero] at e
    cases e
    refine ⟨v, [], as, bs, rfl, rfl, h, fun Hj H' x k v' s' bs' h' => ?_⟩
    show SlsOk K C Hj H' (v' :: _) (s' :: _) (bs' ++ bs)
    exact .cons h' (SlsOk.mono x t fun a ha => k a (by simpa using ha))
  | _, _, _, i + 1, s, .cons (v := v) (as := as) (bs := bs) h t, e => by
    obtain ⟨v1, xs, cs, ys, h1, h2, h3, h4⟩ := SlsOk.split (i := i) (s := s) t (by simpa using e)
    refine ⟨v1, as ++ xs, cs, ys, by simpa using h1, by rw [h2, List.append_assoc], h3, fun Hj H' x k v' s' bs' h' => ?_⟩
    have q := h4 Hj H' x (fun a ha => k a (by rw [List.append_assoc]; exact List.mem_append_right _ ha)) v' s' bs' h'
    rw [List.append_assoc, List.set_cons_succ, List.set_cons_succ]
    exact .cons (h.mono x fun a ha => k a (by rw [List.append_assoc]; exact List.mem_append_left _ ha)) q
end
/-- what an expression sees -/
structure Env (K : PySem.W.Frag) (C : Addr) (Hi : Hp) (σ : L2.St) (H : Hp) (ρ : List Sl) : Prop where
  ex : Same Hi H
  sl : ∃ as, SlsOk K C Hi H σ ρ as ∧ as.Nodup ∧ ∀ a ∈ as, Hi a = none
/-- the zone of a def: what it may change, what it knew, what stood at its entry -/
structure Zn where
  M : List Addr
  Hi : Hp
  H : Hp
/-- what a statement sees -/
structure Sit (K : PySem.W.Frag) (C : Addr) (Z : Zn) (Hi : Hp) (σ : L2.St) (H : Hp) (ρ : List Sl) : Prop where
  ex : Same Hi H
  k : ∀ a, Z.H a ≠ none → H a ≠ none ∧ Hi a = Z.Hi a
  fr : ∀ a o, Z.H a = some o → a ∉ Z.M → H a = some o
  sl : ∃ as, SlsOk K C Hi H σ ρ as ∧ as.Nodup ∧ ∀ a ∈ as, Hi a = none ∧ (Z.H a = none ∨ a ∈ Z.M)
section
variable {K : PySem.W.Frag} {C : Addr} {Z : Zn} {Hi Hj H H' : Hp} {σ : L2.St} {ρ : List Sl}
theorem Sit.env (S : Sit K C Z Hi σ H ρ) : Env K C Hi σ H ρ := ⟨S.ex, let ⟨as, h1, h2, h3⟩ := S.sl; ⟨as, h1, h2, fun a ha => (h3 a ha).1⟩⟩
theorem Env.grow (S : Env K C Hi σ H ρ) (g : Same H H') : Env K C (nu Hi H H') σ H' ρ := by
  obtain ⟨as, h1, h2, h3⟩ := S.sl
  refine ⟨nu_hi S.ex g, as, SlsOk.mono (nu_lo S.ex) h1 fun a ha => ?_, h2, fun a ha => ?_⟩
  · obtain ⟨o, e⟩ := Option.ne_none_iff_exists'.mp (h1.dom a ha)
    rw [e, g a o e]
  · rw [nu_some (h1.dom a ha)]
    exact h3 a ha
theorem Sit.grow (S : Sit K C Z Hi σ H ρ) (g : Same H H') : Sit K C Z (nu Hi H H') σ H' ρ := by
  obtain ⟨as, h1, h2, h3⟩ := S.sl
  refine ⟨nu_hi S.ex g, fun a ha => ?_, fun a o e n => g a o (S.fr a o e n), as, SlsOk.mono (nu_lo S.ex) h1 fun a ha => ?_, h2, fun a ha => ?_⟩
  · obtain ⟨q1, q2⟩ := S.k a ha
    rw [nu_some q1]
    refine ⟨?_, q2⟩
    obtain ⟨o, e⟩ := Option.ne_none_iff_exists'.mp q1
    rw [g a o e]
    exact fun z => nomatch z
  · obtain ⟨o, e⟩ := Option.ne_none_iff_exists'.mp (h1.dom a ha)
    rw [e, g a o e]
  · rw [nu_some (h1.dom a ha)]
    exact h3 a ha
theorem Env.slot (S : Env K C Hi σ H ρ) {i : Nat} {d : D} (h : ρ[i]? = some (.dat d)) : ∃ v, σ[i]? = some (some v) ∧ Dd K Hi v d := by
  obtain ⟨as, h1, h2, h3⟩ := S.sl
  obtain ⟨v, xs, bs, ys, e1, e2, e3, _⟩ := h1.split h
  cases e3 with
  | dat q => exact ⟨_, e1, q⟩
theorem Env.slotO (S : Env K C Hi σ H ρ) {i : Nat} {ds : List D} (h : ρ[i]? = some (.own ds)) : ∃ a vs, σ[i]? = some (some (.ref a)) ∧ H a = some (.lst vs) ∧ DdAll K Hi vs ds ∧ Hi a = none := by
  obtain ⟨as, h1, h2, h3⟩ := S.sl
  obtain ⟨v, xs, bs, ys, e1, e2, e3, _⟩ := h1.split h
  cases e3 with
  | own q1 q2 => exact ⟨_, _, e1, q1, q2, h3 _ (by rw [e2]; simp)⟩
theorem Env.slotF (S : Env K C Hi σ H ρ) {i : Nat} {p l : Addr} {F : Fo} (h : ρ[i]? = some (.fol p l F)) : σ[i]? = some (some (.ref p)) ∧ FolAt K C Hi H p l F ∧ Hi p = none ∧ Hi l = none ∧ p ≠ l := by
  obtain ⟨as, h1, h2, h3⟩ := S.sl
  obtain ⟨v, xs, bs, ys, e1, e2, e3, _⟩ := h1.split h
  cases e3 with
  | fol q =>
    refine ⟨e1, q, h3 _ (by rw [e2]; simp), h3 _ (by rw [e2]; simp), ?_⟩
    rw [e2] at h2
    have n := (List.nodup_append.mp h2).2.1
    have n2 := (List.nodup_append.mp n).1
    intro z
    rw [z] at n2
    simp at n2
theorem Env.slotR (S : Env K C Hi σ H ρ) {i : Nat} {F : Fo} (h : ρ[i]? = some (.fro F)) : ∃ p l, σ[i]? = some (some (.ref p)) ∧ FolAt K C Hi Hi p l F := by
  obtain ⟨as, h1, h2, h3⟩ := S.sl
  obtain ⟨v, xs, bs, ys, e1, e2, e3, _⟩ := h1.split h
  cases e3 with
  | fro q => exact ⟨_, _, e1, q⟩
/-- a slot set to data -/
theorem Sit.setD (S : Sit K C Z Hi σ H ρ) {i : Nat} {v : V} {d : D} (hi : i < ρ.length) (h : Dd K Hi v d) : Sit K C Z Hi (σ.set i (some v)) H (ρ.set i (.dat d)) := by
  obtain ⟨as, h1, h2, h3⟩ := S.sl
  obtain ⟨v0, xs, bs, ys, e1, e2, e3, e4⟩ := h1.split (List.getElem?_eq_getElem hi)
  have hsub : (xs ++ ([] ++ ys)).Sublist as := by
    rw [e2]
    exact List.Sublist.append (List.Sublist.refl _) (List.sublist_append_right _ _)
  exact ⟨S.ex, S.k, S.fr, _, e4 Hi H (Same.refl _) (fun _ _ => rfl) (some v) (.dat d) [] (.dat h), h2.sublist hsub, fun a ha => h3 a (hsub.subset ha)⟩
theorem Env.setD (S : Env K C Hi σ H ρ) {i : Nat} {v : V} {d : D} (hi : i < ρ.length) (h : Dd K Hi v d) : Env K C Hi (σ.set i (some v)) H (ρ.set i (.dat d)) := by
  obtain ⟨as, h1, h2, h3⟩ := S.sl
  obtain ⟨v0, xs, bs, ys, e1, e2, e3, e4⟩ := h1.split (List.getElem?_eq_getElem hi)
  have hsub : (xs ++ ([] ++ ys)).Sublist as := by
    rw [e2]
    exact List.Sublist.append (List.Sublist.refl _) (List.sublist_append_right _ _)
  exact ⟨S.ex, _, e4 Hi H (Same.refl _) (fun _ _ => rfl) (some v) (.dat d) [] (.dat h), h2.sublist hsub, fun a ha => h3 a (hsub.subset ha)⟩
/-- a slot forgotten -/
theorem Env.setN (S : Env K C Hi σ H ρ) {i : Nat} {v : Option V} (hi : i < ρ.length) : Env K C Hi (σ.set i v) H (ρ.set i .non) := by
  obtain ⟨as, h1, h2, h3⟩ := S.sl
  obtain ⟨v0, xs, bs, ys, e1, e2, e3, e4⟩ := h1.split (List.getElem?_eq_getElem hi)
  have hsub : (xs ++ ([] ++ ys)).Sublist as := by
    rw [e2]
    exact List.Sublist.append (List.Sublist.refl _) (List.sublist_append_right _ _)
  exact ⟨S.ex, _, e4 Hi H (Same.refl _) (fun _ _ => rfl) v .non [] (.non v), h2.sublist hsub, fun a ha => h3 a (hsub.subset ha)⟩
/-- a new list of ours in a slot -/
theorem Sit.setO (S : Sit K C Z Hi σ H ρ) {i : Nat} {p : Addr} {vs : List V} {ds : List D} (hi : i < ρ.length) (hp : H p = none) (h : DdAll K Hi vs ds) : Sit K C Z Hi (σ.set i (some (.ref p))) (upd H p (.lst vs)) (ρ.set i (.own ds)) := by
  obtain ⟨as, h1, h2, h3⟩ := S.sl
  obtain ⟨v0, xs, bs, ys, e1, e2, e3, e4⟩ := h1.split (List.getElem?_eq_getElem hi)
  have hsub : (xs ++ ys).Sublist as := by
    rw [e2]
    exact List.Sublist.append (List.Sublist.refl _) (List.sublist_append_right _ _)
  have npa : ∀ a ∈ as, a ≠ p := fun a ha z => h1.dom a ha (by rw [z]; exact hp)
  refine ⟨same_upd2 S.ex (Same.free S.ex hp), fun a ha => ⟨?_, (S.k a ha).2⟩, fun a o e n => ?_, _, e4 Hi (upd H p (.lst vs)) (Same.refl _) (fun a ha => upd_ne (npa a (hsub.subset ha))) (some (.ref p)) (.own ds) [p] (.own upd_same h), ?_, fun a ha => ?_⟩
  · rw [upd_ne (fun z => (S.k a ha).1 (by rw [z]; exact hp))]
    exact (S.k a ha).1
  · rw [upd_ne (fun z => (S.k a (by rw [e]; exact fun q => nomatch q)).1 (by rw [z]; exact hp))]
    exact S.fr a o e n
  · have n1 : (xs ++ ys).Nodup := h2.sublist hsub
    have q : (p :: (xs ++ ys)).Nodup := List.nodup_cons.mpr ⟨fun m => npa p (hsub.subset m) rfl, n1⟩
    exact (List.perm_middle (a := p) (l₁ := xs) (l₂ := ys)).nodup_iff.mpr q
  · have z : a = p ∨ a ∈ xs ++ ys := by
      simp only [List.mem_append, List.mem_cons, List.not_mem_nil, or_false, false_or] at ha ⊢
      rcases ha with ha | ha | ha
      · exact .inr (.inl ha)
      · exact .inl ha
      · exact .inr (.inr ha)
    rcases z with z | z
    · rw [z]
      refine ⟨Same.free S.ex hp, .inl ?_⟩
      cases e : Z.H p with
      | none => rfl
      | some o => exact absurd hp (S.k p (by rw [e]; exact fun q => nomatch q)).1
    · exact h3 a (hsub.subset z)
/-- our list changed -/
theorem Sit.mutO (S : Sit K C Z Hi σ H ρ) {i : Nat} {ds es : List D} (h : ρ[i]? = some (.own ds)) : ∃ a vs, σ[i]? = some (some (.ref a)) ∧ H a = some (.lst vs) ∧ DdAll K Hi vs ds ∧ Hi a = none ∧
    ∀ ws, DdAll K Hi ws es → Sit K C Z Hi σ (upd H a (.lst ws)) (ρ.set i (.own es)) := by
  obtain ⟨as, h1, h2, h3⟩ := S.sl
  obtain ⟨v, xs, bs, ys, e1, e2, e3, e4⟩ := h1.split h
  cases e3 with
  | own q1 q2 =>
    rename_i a vs
    obtain ⟨w1, w2⟩ := h3 a (by rw [e2]; simp)
    refine ⟨a, vs, e1, q1, q2, w1, fun ws hw => ?_⟩
    have hsub : (xs ++ ys).Sublist as := by
      rw [e2]
      exact List.Sublist.append (List.Sublist.refl _) (List.sublist_append_right _ _)
    have n1 : a ∉ xs ++ ys := by
      rw [e2] at h2
      have q : (a :: (xs ++ ys)).Nodup := (List.perm_middle (a := a) (l₁ := xs) (l₂ := ys)).nodup_iff.mp h2
      exact (List.nodup_cons.mp q).1
    have es0 : σ.set i (some (V.ref a)) = σ := by
      obtain ⟨hh, e⟩ := List.getElem?_eq_some_iff.mp e1
      rw [← e]
      exact List.set_getElem_self hh
    have S2 := e4 Hi (upd H a (.lst ws)) (Same.refl _) (fun b hb => upd_ne fun z => n1 (z ▸ hb)) (some (.ref a)) (.own es) [a] (.own upd_same hw)
    rw [es0] at S2
    refine ⟨same_upd2 S.ex w1, fun b hb => ⟨?_, (S.k b hb).2⟩, fun b o e n => ?_, _, S2, by rw [← e2]; exact h2, fun b hb => h3 b (by rw [e2]; exact hb)⟩
    · by_cases z : b = a
      · rw [z, upd_same]
        exact fun q => nomatch q
      · rw [upd_ne z]
        exact (S.k b hb).1
    · have nb : b ≠ a := by
        intro z
        rw [z] at e n
        rcases w2 with w2 | w2
        · rw [e] at w2
          cases w2
        · exact n w2
      rw [upd_ne nb]
      exact S.fr b o e n
/-- our list is never changed from here on: it is data -/
theorem Sit.freeze (S : Sit K C Z Hi σ H ρ) {i : Nat} {ds : List D} (h : ρ[i]? = some (.own ds)) (hM : Z.M = []) : ∃ Hj, Same Hi Hj ∧ Sit K C Z Hj σ H (ρ.set i (.dat (.list ds))) := by
  obtain ⟨as, h1, h2, h3⟩ := S.sl
  obtain ⟨v, xs, bs, ys, e1, e2, e3, e4⟩ := h1.split h
  cases e3 with
  | own q1 q2 =>
    rename_i a vs
    obtain ⟨w1, w2⟩ := h3 a (by rw [e2]; simp)
    have w3 : Z.H a = none := by
      rcases w2 with w2 | w2
      · exact w2
      · rw [hM] at w2
        exact absurd w2 (by simp)
    have n1 : a ∉ xs ++ ys := by
      rw [e2] at h2
      have q : (a :: (xs ++ ys)).Nodup := (List.perm_middle (a := a) (l₁ := xs) (l₂ := ys)).nodup_iff.mp h2
      exact (List.nodup_cons.mp q).1
    have hsub : (xs ++ ([] ++ ys)).Sublist as := by
      rw [e2]
      exact List.Sublist.append (List.Sublist.refl _) (List.sublist_append_right _ _)
    have es0 : σ.set i (some (V.ref a)) = σ := by
      obtain ⟨hh, e⟩ := List.getElem?_eq_some_iff.mp e1
      rw [← e]
      exact List.set_getElem_self hh
    have x : Same Hi (upd Hi a (.lst vs)) := same_new w1
    have x2 : Same (upd Hi a (.lst vs)) H := fun b o e => by
      by_cases z : b = a
      · rw [z, upd_same] at e
        rw [z, q1]
        exact e
      · rw [upd_ne z] at e
        exact S.ex b o e
    have S2 := e4 (upd Hi a (.lst vs)) H x (fun _ _ => rfl) (some (.ref a)) (.dat (.list ds)) [] (.dat (.lst upd_same (DdAll.mono x _ q2)))
    rw [es0] at S2
    refine ⟨_, x, x2, fun b hb => ⟨(S.k b hb).1, ?_⟩, S.fr, _, S2, h2.sublist hsub, fun b hb => ⟨?_, (h3 b (hsub.subset hb)).2⟩⟩
    · rw [upd_ne (fun z => hb (by rw [z]; exact w3))]
      exact (S.k b hb).2
    · rw [upd_ne (fun z => n1 (by rw [← z]; simpa using hb))]
      exact (h3 b (hsub.subset hb)).1
/-- the folk in slot i has changed, and what is new -/
theorem Sit.mutF (S : Sit K C Z Hi σ H ρ) {i : Nat} {p l : Addr} {F F' : Fo} (h : ρ[i]? = some (.fol p l F)) (fr : ∀ b o, H b = some o → b ≠ p → b ≠ l → H' b = some o) (hf : FolAt K C (nu Hi H H') H' p l F') : Sit K C Z (nu Hi H H') σ H' (ρ.set i (.fol p l F')) := by
  obtain ⟨as, h1, h2, h3⟩ := S.sl
  obtain ⟨v, xs, bs, ys, e1, e2, e3, e4⟩ := h1.split h
  cases e3 with
  | fol q =>
    have hp := h3 p (by rw [e2]; simp)
    have hl := h3 l (by rw [e2]; simp)
    have es0 : σ.set i (some (V.ref p)) = σ := by
      obtain ⟨hh, e⟩ := List.getElem?_eq_some_iff.mp e1
      rw [← e]
      exact List.set_getElem_self hh
    have np : ∀ b ∈ xs ++ ys, b ≠ p ∧ b ≠ l := fun b hb => by
      rw [e2] at h2
      have q1 := (List.perm_middle (a := p) (l₁ := xs) (l₂ := l :: ys)).nodup_iff.mp (by simpa using h2)
      have q2 := List.nodup_cons.mp q1
      have q3 := (List.perm_middle (a := l) (l₁ := xs) (l₂ := ys)).nodup_iff.mp q2.2
      have q4 := List.nodup_cons.mp q3
      refine ⟨fun z => q2.1 ?_, fun z => q4.1 (z ▸ hb)⟩
      rw [← z]
      rcases List.mem_append.mp hb with m | m
      · exact List.mem_append_left _ m
      · exact List.mem_append_right _ (List.mem_cons_of_mem _ m)
    have dom : ∀ a, H a ≠ none → H' a ≠ none := fun a ha => by
      obtain ⟨dx, v1, v2, v3, v4, v5, ls, f1, _, _, _, _, _, f2, _⟩ := hf
      by_cases z : a = p
      · rw [z, f1]
        exact fun q => nomatch q
      · by_cases z2 : a = l
        · rw [z2, f2]
          exact fun q => nomatch q
        · obtain ⟨o, e⟩ := Option.ne_none_iff_exists'.mp ha
          rw [fr a o e z z2]
          exact fun q => nomatch q
    have S2 := e4 (nu Hi H H') H' (nu_lo S.ex) (fun b hb => by
      obtain ⟨o, e⟩ := Option.ne_none_iff_exists'.mp (h1.dom b (by rw [e2]; rcases List.mem_append.mp hb with m | m; exact List.mem_append_left _ m; exact List.mem_append_right _ (List.mem_append_right _ m)))
      rw [e, fr b o e (np b hb).1 (np b hb).2]) (some (.ref p)) (.fol p l F') [p, l] (.fol hf)
    rw [es0] at S2
    refine ⟨fun a o e => ?_, fun a ha => ?_, fun a o e n => ?_, _, S2, by rw [← e2]; exact h2, fun a ha => ?_⟩
    · by_cases hh : H a = none
      · rw [nu_none hh] at e
        exact e
      · rw [nu_some hh] at e
        have hx := S.ex a o e
        exact fr a o hx (ne_of_none e hp.1) (ne_of_none e hl.1)
    · obtain ⟨q1, q2⟩ := S.k a ha
      exact ⟨dom a q1, by rw [nu_some q1]; exact q2⟩
    · refine fr a o (S.fr a o e n) (fun z => ?_) (fun z => ?_)
      · rcases hp.2 with w | w
        · rw [z, w] at e
          cases e
        · exact n (z ▸ w)
      · rcases hl.2 with w | w
        · rw [z, w] at e
          cases e
        · exact n (z ▸ w)
    · have ha' : a ∈ as := by rw [e2]; exact ha
      rw [nu_some (h1.dom a ha')]
      exact h3 a ha'
/-- a zone of its own for a loop or a block: all that stands now is kept -/
theorem Sit.rebase (S : Sit K C Z Hi σ H ρ) : ∃ Z' : Zn, Z'.H = H ∧ Z'.Hi = Hi ∧ (∀ a, Hi a ≠ none → a ∉ Z'.M) ∧ Sit K C Z' Hi σ H ρ ∧ ∀ (Hj : Hp) (σ' : L2.St) (H' : Hp) (ρ' : List Sl), Sit K C Z' Hj σ' H' ρ' → Sit K C Z Hj σ' H' ρ' := by
  obtain ⟨as, h1, h2, h3⟩ := S.sl
  refine ⟨⟨as, Hi, H⟩, rfl, rfl, fun a ha hm => ha (h3 a hm).1, ⟨S.ex, fun a ha => ⟨ha, rfl⟩, fun a o e _ => e, as, h1, h2, fun a ha => ⟨(h3 a ha).1, .inr ha⟩⟩, fun Hj σ' H' ρ' T => ?_⟩
  obtain ⟨bs, g1, g2, g3⟩ := T.sl
  refine ⟨T.ex, fun a ha => ?_, fun a o e n => ?_, bs, g1, g2, fun a ha => ⟨(g3 a ha).1, ?_⟩⟩
  · obtain ⟨q1, q2⟩ := S.k a ha
    obtain ⟨r1, r2⟩ := T.k a q1
    exact ⟨r1, r2.trans q2⟩
  · refine T.fr a o (S.fr a o e n) fun hm => ?_
    rcases (h3 a hm).2 with w | w
    · rw [w] at e
      cases e
    · exact n w
  · rcases (g3 a ha).2 with w | w
    · have w' : H a = none := w
      left
      cases e : Z.H a with
      | none => rfl
      | some o => exact absurd w' (S.k a (by rw [e]; exact fun q => nomatch q)).1
    · exact (h3 a w).2
/-- what a loop has known it knows -/
theorem Sit.know (S : Sit K C Z Hi σ H ρ) (z : Same Z.Hi Z.H) : Same Z.Hi Hi := fun a o e => by
  have h := z a o e
  rw [(S.k a (by rw [h]; exact fun q => nomatch q)).2]
  exact e
/-- a slot forgotten -/
theorem Sit.forget (S : Sit K C Z Hi σ H ρ) {i : Nat} (hi : i < ρ.length) : Sit K C Z Hi σ H (ρ.set i .non) := by
  obtain ⟨as, h1, h2, h3⟩ := S.sl
  obtain ⟨v0, xs, bs, ys, e1, e2, e3, e4⟩ := h1.split (List.getElem?_eq_getElem hi)
  have hsub : (xs ++ ([] ++ ys)).Sublist as := by
    rw [e2]
    exact List.Sublist.append (List.Sublist.refl _) (List.sublist_append_right _ _)
  have q := e4 Hi H (Same.refl _) (fun _ _ => rfl) v0 .non [] (.non v0)
  have es0 : σ.set i v0 = σ := by
    obtain ⟨hh, e⟩ := List.getElem?_eq_some_iff.mp e1
    rw [← e]
    exact List.set_getElem_self hh
  rw [es0] at q
  exact ⟨S.ex, S.k, S.fr, _, q, h2.sublist hsub, fun a ha => h3 a (hsub.subset ha)⟩
end
end FK

set_option Elab.async false
set_option linter.all false
set_option maxRecDepth 100000
set_option maxHeartbeats 4000000
/-! What expressions evaluate to, as data. -/
namespace FK
open PySem PySem.Spec PyProof.Rows L2 FR

section
variable {Hi H H1 H2 : Hp}
theorem nu_le (x : Same Hi H) (g1 : Same H H1) (g2 : Same H1 H2) : Same (nu Hi H H1) (nu Hi H H2) := by
  rw [← nu_nu x g1 g2]
  exact nu_lo (nu_hi x g1)
end
def EvP (K : PySem.W.Frag) (C : Addr) (te : TE) (ρ : List Sl) (d : D) : Prop := ∀ (Hi : Hp) (σ : L2.St) (H : Hp) (Q : VK), Env K C Hi σ H ρ → (∀ v H', Same H H' → Dd K (nu Hi H H') v d → Q v H') → te σ H Q
/-- one of several data -/
def EvR (K : PySem.W.Frag) (C : Addr) (te : TE) (ρ : List Sl) (P : D → Prop) : Prop := ∀ (Hi : Hp) (σ : L2.St) (H : Hp) (Q : VK), Env K C Hi σ H ρ → (∀ v H' d, P d → Same H H' → Dd K (nu Hi H H') v d → Q v H') → te σ H Q
def EvB (K : PySem.W.Frag) (C : Addr) (tt : TT) (ρ : List Sl) (b : Bool) : Prop := ∀ (Hi : Hp) (σ : L2.St) (H : Hp) (Q : Bool → Hp → Prop), Env K C Hi σ H ρ → (∀ H', Same H H' → Q b H') → tt σ H Q
def EvA (K : PySem.W.Frag) (C : Addr) (ta : TA) (ρ : List Sl) (ds : List D) : Prop := ∀ (Hi : Hp) (σ : L2.St) (H : Hp) (Q : List V → Hp → Prop), Env K C Hi σ H ρ → (∀ vs H', Same H H' → DdAll K (nu Hi H H') vs ds → Q vs H') → ta σ H Q
def EvO (K : PySem.W.Frag) (C : Addr) (to : TO) (ρ : List Sl) (o : Option Int) : Prop := ∀ (Hi : Hp) (σ : L2.St) (H : Hp) (Q : Option Int → Hp → Prop), Env K C Hi σ H ρ → (∀ H', Same H H' → Q o H') → to σ H Q
/-- operations on data -/
def RD (K : PySem.W.Frag) (r : R2) (x y z : D) : Prop := ∀ (Hi H : Hp) (v w : V) (Q : VK), Same Hi H → Dd K Hi v x → Dd K Hi w y → (∀ u H', Same H H' → Dd K (nu Hi H H') u z → Q u H') → r v w H Q
def RU (K : PySem.W.Frag) (r : V → Hp → VK → Prop) (x z : D) : Prop := ∀ (Hi H : Hp) (v : V) (Q : VK), Same Hi H → Dd K Hi v x → (∀ u H', Same H H' → Dd K (nu Hi H H') u z → Q u H') → r v H Q
def RC (K : PySem.W.Frag) (r : List V → Hp → VK → Prop) (xs : List D) (z : D) : Prop := ∀ (Hi H : Hp) (vs : List V) (Q : VK), Same Hi H → DdAll K Hi vs xs → (∀ u H', Same H H' → Dd K (nu Hi H H') u z → Q u H') → r vs H Q
section
variable {K : PySem.W.Frag} {C : Addr} {ρ : List Sl} {ta tb tc te : TE} {x y z d : D} {t u : TT}
theorem EvP.toR (h : EvP K C te ρ d) : EvR K C te ρ (· = d) := fun Hi σ H Q S q => h Hi σ H Q S fun v H' g hd => q v H' d rfl g hd
theorem EvP.eq (h : EvP K C te ρ d) {d' : D} (e : d = d') : EvP K C te ρ d' := e ▸ h
theorem EvB.eq {b b' : Bool} (h : EvB K C t ρ b) (e : b = b') : EvB K C t ρ b' := e ▸ h
theorem ev_var {i : Nat} (h : ρ[i]? = some (.dat d)) : EvP K C (tVar i) ρ d := fun Hi σ H Q S q => by
  obtain ⟨v, e, hd⟩ := S.slot h
  exact ⟨v, e, q v H (Same.refl H) (by rw [nu_refl S.ex]; exact hd)⟩
theorem ev_int {i : Int} : EvP K C (tC (.int i)) ρ (.int i) := fun Hi σ H Q S q => q _ H (Same.refl H) (.int i)
theorem ev_str {s : Str} : EvP K C (tC (.str s)) ρ (.str s) := fun Hi σ H Q S q => q _ H (Same.refl H) (.str s)
theorem ev_bl {b : Bool} : EvP K C (tC (.bl b)) ρ (.bool b) := fun Hi σ H Q S q => q _ H (Same.refl H) (.bl b)
theorem ev_non : EvP K C (tC .non) ρ .none := fun Hi σ H Q S q => q _ H (Same.refl H) .non
theorem ev_op {r : R2} (ha : EvP K C ta ρ x) (hb : EvP K C tb ρ y) (hr : RD K r x y z) : EvP K C (tOp r ta tb) ρ z := fun Hi σ H Q S q =>
  ha Hi σ H _ S fun v H1 g1 d1 => hb _ σ H1 _ (S.grow g1) fun w H2 g2 d2 => by
    rw [nu_nu S.ex g1 g2] at d2
    exact hr (nu Hi H H2) H2 v w Q (nu_hi S.ex (g1.trans g2)) (Dd.mono (nu_le S.ex g1 g2) _ d1) d2 fun u H3 g3 d3 => q u H3 ((g1.trans g2).trans g3) (by rw [nu_nu S.ex (g1.trans g2) g3] at d3; exact d3)
theorem ev_un {r : V → Hp → VK → Prop} (ha : EvP K C ta ρ x) (hr : RU K r x z) : EvP K C (tUn r ta) ρ z := fun Hi σ H Q S q =>
  ha Hi σ H _ S fun v H1 g1 d1 => hr (nu Hi H H1) H1 v Q (nu_hi S.ex g1) d1 fun u H2 g2 d2 => q u H2 (g1.trans g2) (by rw [nu_nu S.ex g1 g2] at d2; exact d2)
theorem ea_nil : EvA K C tNil ρ [] := fun Hi σ H Q S q => q [] H (Same.refl H) .nil
theorem ea_cons {ta' : TA} {xs : List D} (ha : EvP K C ta ρ x) (hb : EvA K C ta' ρ xs) : EvA K C (tCons ta ta') ρ (x :: xs) := fun Hi σ H Q S q =>
  ha Hi σ H _ S fun v H1 g1 d1 => hb _ σ H1 _ (S.grow g1) fun vs H2 g2 d2 => by
    rw [nu_nu S.ex g1 g2] at d2
    exact q _ H2 (g1.trans g2) (.cons (Dd.mono (nu_le S.ex g1 g2) _ d1) d2)
theorem ev_cb {r : List V → Hp → VK → Prop} {ta : TA} {xs : List D} (ha : EvA K C ta ρ xs) (hr : RC K r xs z) : EvP K C (tCB r ta) ρ z := fun Hi σ H Q S q =>
  ha Hi σ H _ S fun vs H1 g1 d1 => hr (nu Hi H H1) H1 vs Q (nu_hi S.ex g1) d1 fun u H2 g2 d2 => q u H2 (g1.trans g2) (by rw [nu_nu S.ex g1 g2] at d2; exact d2)
/-! ### tests -/
theorem eb_test {b : Bool} (h : EvP K C te ρ (.bool b)) : EvB K C (tTest te) ρ b := fun Hi σ H Q S q => h Hi σ H _ S fun v H' g hd => ⟨b, hd.bl_eq, q H' g⟩
theorem eb_B {b : Bool} (h : EvP K C te ρ (.bool b)) : EvB K C (tB te) ρ b := fun Hi σ H Q S q => h Hi σ H _ S fun v H' g hd => ⟨b, hd.bl_eq, q H' g⟩
theorem eb_and {a b : Bool} (h1 : EvB K C t ρ a) (h2 : a = true → EvB K C u ρ b) : EvB K C (tAnd t u) ρ (a && b) := fun Hi σ H Q S q => h1 Hi σ H _ S fun H1 g1 => by
  cases a with
  | true => exact h2 rfl _ σ H1 _ (S.grow g1) fun H2 g2 => q H2 (g1.trans g2)
  | false => exact q H1 g1
theorem eb_or {a b : Bool} (h1 : EvB K C t ρ a) (h2 : a = false → EvB K C u ρ b) : EvB K C (tOr t u) ρ (a || b) := fun Hi σ H Q S q => h1 Hi σ H _ S fun H1 g1 => by
  cases a with
  | true => exact q H1 g1
  | false => exact h2 rfl _ σ H1 _ (S.grow g1) fun H2 g2 => q H2 (g1.trans g2)
theorem eb_not {a : Bool} (h1 : EvB K C t ρ a) : EvB K C (tNot t) ρ (!a) := fun Hi σ H Q S q => h1 Hi σ H _ S fun H1 g1 => q H1 g1
theorem ev_andV {a b : Bool} (h1 : EvP K C ta ρ (.bool a)) (h2 : a = true → EvP K C tb ρ (.bool b)) : EvP K C (tAndV ta tb) ρ (.bool (a && b)) := fun Hi σ H Q S q => h1 Hi σ H _ S fun v H1 g1 d1 => ⟨a, d1.bl_eq, by
  cases a with
  | true => exact h2 rfl _ σ H1 _ (S.grow g1) fun w H2 g2 d2 => q w H2 (g1.trans g2) (by rw [nu_nu S.ex g1 g2] at d2; exact d2)
  | false => exact q _ H1 g1 (.bl false)⟩
theorem ev_orV {a b : Bool} (h1 : EvP K C ta ρ (.bool a)) (h2 : a = false → EvP K C tb ρ (.bool b)) : EvP K C (tOrV ta tb) ρ (.bool (a || b)) := fun Hi σ H Q S q => h1 Hi σ H _ S fun v H1 g1 d1 => ⟨a, d1.bl_eq, by
  cases a with
  | true => exact q _ H1 g1 (.bl true)
  | false => exact h2 rfl _ σ H1 _ (S.grow g1) fun w H2 g2 d2 => q w H2 (g1.trans g2) (by rw [nu_nu S.ex g1 g2] at d2; exact d2)⟩
theorem ev_notV {a : Bool} (h1 : EvP K C ta ρ (.bool a)) : EvP K C (tNotV ta) ρ (.bool (!a)) := fun Hi σ H Q S q => h1 Hi σ H _ S fun v H1 g1 d1 => ⟨a, d1.bl_eq, q _ H1 g1 (.bl _)⟩
theorem ev_if {b : Bool} {d1 d2 : D} (h : EvB K C t ρ b) (h1 : b = true → EvP K C ta ρ d) (h2 : b = false → EvP K C tb ρ d) : EvP K C (tIf t ta tb) ρ d := fun Hi σ H Q S q => h Hi σ H _ S fun H1 g1 => by
  cases b with
  | true => exact h1 rfl _ σ H1 _ (S.grow g1) fun w H2 g2 d2 => q w H2 (g1.trans g2) (by rw [nu_nu S.ex g1 g2] at d2; exact d2)
  | false => exact h2 rfl _ σ H1 _ (S.grow g1) fun w H2 g2 d2 => q w H2 (g1.trans g2) (by rw [nu_nu S.ex g1 g2] at d2; exact d2)
theorem ev_ifR {b : Bool} {P : D → Prop} (h : EvB K C t ρ b) (h1 : b = true → EvR K C ta ρ P) (h2 : b = false → EvR K C tb ρ P) : EvR K C (tIf t ta tb) ρ P := fun Hi σ H Q S q => h Hi σ H _ S fun H1 g1 => by
  cases b with
  | true => exact h1 rfl _ σ H1 _ (S.grow g1) fun w H2 d2 p g2 d2 => q w H2 _ p (g1.trans g2) (by rw [nu_nu S.ex g1 g2] at d2; exact d2)
  | false => exact h2 rfl _ σ H1 _ (S.grow g1) fun w H2 d2 p g2 d2 => q w H2 _ p (g1.trans g2) (by rw [nu_nu S.ex g1 g2] at d2; exact d2)
theorem ev_chain {r r' : R2} {a b : Bool} (ha : EvP K C ta ρ x) (hb : EvP K C tb ρ y) (hc : EvP K C tc ρ z) (h1 : RD K r x y (.bool a)) (h2 : a = true → RD K r' y z (.bool b)) : EvP K C (tChain r r' ta tb tc) ρ (.bool (a && b)) := fun Hi σ H Q S q =>
  ha Hi σ H _ S fun v H1 g1 d1 => hb _ σ H1 _ (S.grow g1) fun w H2 g2 d2 => by
    rw [nu_nu S.ex g1 g2] at d2
    refine h1 (nu Hi H H2) H2 v w _ (nu_hi S.ex (g1.trans g2)) (Dd.mono (nu_le S.ex g1 g2) _ d1) d2 fun u H3 g3 d3 => ⟨a, d3.bl_eq, ?_⟩
    cases a with
    | false => exact q _ H3 ((g1.trans g2).trans g3) (.bl _)
    | true =>
      show tc σ H3 _
      refine hc _ σ H3 _ (S.grow ((g1.trans g2).trans g3)) fun u' H4 g4 d4 => ?_
      have g12 := g1.trans g2
      have g123 := g12.trans g3
      rw [nu_nu S.ex g123 g4] at d4
      refine h2 rfl (nu Hi H H4) H4 w u' Q (nu_hi S.ex (g123.trans g4)) (Dd.mono (nu_le S.ex g12 (g3.trans g4)) _ d2) d4 fun u5 H5 g5 d5 => q u5 H5 (g123.trans g4 |>.trans g5) ?_
      rw [nu_nu S.ex (g123.trans g4) g5] at d5
      rw [Bool.true_and]
      exact d5
/-! ### scalars out of operations -/
theorem rd_I0 {g : Int → Int → Int} {i j : Int} : RD K (rI0 fun i j => .int (g i j)) (.int i) (.int j) (.int (g i j)) := fun Hi H v w Q S h1 h2 q => ⟨i, j, h1.int_eq, h2.int_eq, q _ H (Same.refl H) (.int _)⟩
theorem rd_I0b {g : Int → Int → Bool} {i j : Int} : RD K (rI0 fun i j => .bl (g i j)) (.int i) (.int j) (.bool (g i j)) := fun Hi H v w Q S h1 h2 q => ⟨i, j, h1.int_eq, h2.int_eq, q _ H (Same.refl H) (.bl _)⟩
theorem rd_I {c : Int → Int → Prop} {g : Int → Int → Int} {i j : Int} (hc : c i j) : RD K (rI c fun i j => .int (g i j)) (.int i) (.int j) (.int (g i j)) := fun Hi H v w Q S h1 h2 q => ⟨i, j, h1.int_eq, h2.int_eq, hc, q _ H (Same.refl H) (.int _)⟩
theorem RD.l {r r' : R2} (h : RD K r x y z) : RD K (fun a b H Q => r a b H Q ∨ r' a b H Q) x y z := fun Hi H v w Q S h1 h2 q => .inl (h Hi H v w Q S h1 h2 q)
theorem RD.r {r r' : R2} (h : RD K r' x y z) : RD K (fun a b H Q => r a b H Q ∨ r' a b H Q) x y z := fun Hi H v w Q S h1 h2 q => .inr (h Hi H v w Q S h1 h2 q)
theorem RC.l {xs : List D} {r r' : List V → Hp → VK → Prop} (h : RC K r xs z) : RC K (fun a H Q => r a H Q ∨ r' a H Q) xs z := fun Hi H v Q S h1 q => .inl (h Hi H v Q S h1 q)
theorem RC.r {xs : List D} {r r' : List V → Hp → VK → Prop} (h : RC K r' xs z) : RC K (fun a H Q => r a H Q ∨ r' a H Q) xs z := fun Hi H v Q S h1 q => .inr (h Hi H v Q S h1 q)
end

/-! ### the operators, whatever they stand between -/
abbrev rAddS : R2 := fun x y H Q => ∃ i j, x = .str i ∧ y = .str j ∧ i.length + j.length ≤ sizeLine ∧ Q (.str (i ++ j)) H
abbrev rMulS : R2 := fun x y H Q => ∃ z i, x = .str z ∧ y = .int i ∧ MulOk z i ∧ Q (.str (Txt.mul z i)) H
def rAddU (K : PySem.W.Frag) : R2 := fun x y H Q => rI0 (fun i j => .int (i + j)) x y H Q ∨ rAddS x y H Q ∨ rCatA K x y H Q ∨ rCat x y H Q
def rMulU : R2 := fun x y H Q => rI CMul (fun i j => .int (i * j)) x y H Q ∨ rMulS x y H Q
abbrev rSubU : R2 := rI0 fun i j => .int (i - j)
abbrev rDivU : R2 := rI CDivW fun i j => .int (i / j)
abbrev rModU : R2 := rI (fun _ j => 0 < j) fun i j => .int (i % j)
abbrev rPowU : R2 := rI CPow fun i j => .int (i ^ j.toNat)
def rEqU (K : PySem.W.Frag) : R2 := fun x y H Q => rEq x y H Q ∨ rEqD K x y H Q
def rNeU (K : PySem.W.Frag) : R2 := fun x y H Q => rNe x y H Q ∨ rNeD K x y H Q
abbrev rLtS : R2 := fun x y H Q => ∃ i j, x = .str i ∧ y = .str j ∧ Q (.bl (decide (i.cps.toList < j.cps.toList))) H
def rLtU : R2 := fun x y H Q => rI0 (fun i j => .bl (decide (i < j))) x y H Q ∨ rLtS x y H Q
abbrev rLeU : R2 := rI0 fun i j => .bl (decide (i ≤ j))
abbrev rGtU : R2 := rI0 fun i j => .bl (decide (j < i))
abbrev rGeU : R2 := rI0 fun i j => .bl (decide (j ≤ i))
abbrev rInDT (K : PySem.W.Frag) : R2 := fun x y H Q => ∃ d ds, Dp K H x d ∧ Dp K H y (.tuple ds) ∧ SeqAt.shaped d = true ∧ SeqAt.shaped (.tuple ds) = true ∧ Q (.bl (ds.any fun z => PyData.eqv z d)) H
abbrev rNotInDT (K : PySem.W.Frag) : R2 := fun x y H Q => ∃ d ds, Dp K H x d ∧ Dp K H y (.tuple ds) ∧ SeqAt.shaped d = true ∧ SeqAt.shaped (.tuple ds) = true ∧ Q (.bl (!ds.any fun z => PyData.eqv z d)) H
def rInU (K : PySem.W.Frag) : R2 := fun x y H Q => (∃ (c : Nat) (z : Str), x = .str ⟨#[c]⟩ ∧ y = .str z ∧ Q (.bl (decide (c ∈ z.cps.toList))) H) ∨ rInD K x y H Q ∨ rInDT K x y H Q
def rNotInU (K : PySem.W.Frag) : R2 := fun x y H Q => rNotInD K x y H Q ∨ rNotInDT K x y H Q
abbrev rIsNU : R2 := fun x y H Q => y = .non ∧ Q (.bl (decide (x = .non))) H
abbrev rNotNU : R2 := fun x y H Q => y = .non ∧ Q (.bl (!decide (x = .non))) H
def rSlU (K : PySem.W.Frag) : V → Option Int → Option Int → Hp → VK → Prop := fun x lo hi H Q => rSlL K x lo hi H Q ∨ rSlA K x lo hi H Q ∨ rSlS x lo hi H Q
def rLenU (K : PySem.W.Frag) : List V → Hp → VK → Prop := fun xs H Q => (∃ p ys, xs = [.ref p] ∧ (SqL K H p ys ∨ SqT K H p ys) ∧ Q (.int ys.length) H) ∨ ∃ z, xs = [.str z] ∧ z.length ≤ sizeLine ∧ Q (.int z.length) H
def rMinU : List V → Hp → VK → Prop := fun xs H Q => (∃ i j, xs = [.int i, .int j] ∧ Q (.int (if j < i then j else i)) H) ∨ ∃ a b, xs = [.str a, .str b] ∧ Q (.str (if ltS b a = true then b else a)) H
def rMaxU : List V → Hp → VK → Prop := fun xs H Q => (∃ i j, xs = [.int i, .int j] ∧ Q (.int (if j > i then j else i)) H) ∨ ∃ a b, xs = [.str a, .str b] ∧ Q (.str (if ltS a b = true then b else a)) H
abbrev rTupP (K : PySem.W.Frag) : List V → Hp → VK → Prop := fun xs H Q => ∃ p ys, xs = [.ref p] ∧ SqL K H p ys ∧ ∀ l o, H l = none → Bare o → Q (.ref l) (upd H l (.frz o (.tup ys)))
abbrev rListU (K : PySem.W.Frag) : List V → Hp → VK → Prop := fun xs H Q => ∃ p ys, xs = [.ref p] ∧ (SqL K H p ys ∨ SqT K H p ys) ∧ ∀ l, H l = none → Q (.ref l) (upd H l (.lst ys))
abbrev rIntU : List V → Hp → VK → Prop := fun xs H Q => (∃ i, xs = [.int i] ∧ Q (.int i) H) ∨ ∃ k, xs = [.bl k] ∧ Q (.int (if k then 1 else 0)) H
abbrev rAbsU : List V → Hp → VK → Prop := fun xs H Q => ∃ i, xs = [.int i] ∧ Q (.int (if i < 0 then -i else i)) H
abbrev rDictL (K : PySem.W.Frag) : List V → Hp → VK → Prop := fun xs H Q => ∃ (a : Addr) (ps : List Addr) (kvs : List (Key × V)), xs = [.ref a] ∧ SqL K H a (ps.map V.ref) ∧ Paired (fun p kv => SqT K H p [kV kv.1, kv.2]) ps kvs ∧ ∀ p, H p = none → Q (.ref p) (upd H p (.dK (mergeK [] kvs)))
def rDictU (K : PySem.W.Frag) : List V → Hp → VK → Prop := fun xs H Q => rDictL K xs H Q ∨ rDictPT K xs H Q
section
variable {X : Cx}
theorem opAdd : OpR X (binaryOp .Add) (rAddU X.K) := OpR.or op_add (OpR.or op_add_str (OpR.or op_catA op_cat))
theorem opMul : OpR X (binaryOp .Mult) rMulU := OpR.or op_mul op_mulS
theorem opSub : OpR X (binaryOp .Sub) rSubU := op_sub
theorem opDiv : OpR X (binaryOp .FloorDiv) rDivU := op_fdivW
theorem opMod : OpR X (binaryOp .Mod) rModU := op_mod
theorem opPow : OpR X (binaryOp .Pow) rPowU := op_pow
theorem opEq (hu : X.A.units + 64 < cLine) : OpR X (compareOp .Eq) (rEqU X.K) := OpR.or op_eq (op_eqD hu)
theorem opNe (hu : X.A.units + 64 < cLine) : OpR X (compareOp .NotEq) (rNeU X.K) := OpR.or op_ne (op_neD hu)
theorem opLt : OpR X (compareOp .Lt) rLtU := OpR.or op_lt op_lt_str
theorem opLe : OpR X (compareOp .LtE) rLeU := op_le
theorem opGt : OpR X (compareOp .Gt) rGtU := op_gt
theorem opGe : OpR X (compareOp .GtE) rGeU := op_ge
theorem opIn (hu : X.A.units + 65 < cLine) : OpR X (compareOp .In) (rInU X.K) := OpR.or op_in_sign (OpR.or (op_inD hu) (op_inDT hu))
theorem opNotIn (hu : X.A.units + 65 < cLine) : OpR X (compareOp .NotIn) (rNotInU X.K) := OpR.or (op_notInD hu) (op_notInDT hu)
theorem opIs : OpR X (compareOp .Is) rIsNU := op_isN
theorem opIsNot : OpR X (compareOp .IsNot) rNotNU := op_notN
theorem slU : SlR X (rSlU X.K) := SlR.or sl_list (SlR.or sl_tupA sl_str)
theorem cLen : CallR X (.builtin "len") (rLenU X.K) := CallR.or call_len_seq call_len_str
theorem cMin (hc : X.calm = true) : CallR X (.builtin "min") rMinU := CallR.or (call_min2 hc) (call_min2S hc)
theorem cMax (hc : X.calm = true) : CallR X (.builtin "max") rMaxU := CallR.or (call_max2 hc) (call_max2S hc)
theorem cTup : CallR X (.type "tuple") (rTupP X.K) := call_tupleP
theorem cList : CallR X (.type "list") (rListU X.K) := call_list_of
theorem cInt : CallR X (.type "int") rIntU := call_int1
theorem cAbs : CallR X (.builtin "abs") rAbsU := call_abs
theorem cDict (hc : X.calm = true) : CallR X (.type "dict") (rDictU X.K) := CallR.or (call_dictP hc) (call_dictPT hc)
end

/-! ### what they give -/
section
variable {K : PySem.W.Frag} {C : Addr} {ρ : List Sl}
theorem dd_new {Hi H : Hp} {p : Addr} {vs : List V} {ds : List D} (x : Same Hi H) (hp : H p = none) (h : DdAll K Hi vs ds) : Dd K (nu Hi H (upd H p (.tup vs))) (.ref p) (.tuple ds) := by
  rw [nu_upd x hp]
  exact .tup (SqT.of upd_same) (DdAll.mono (same_new (Same.free x hp)) _ h)
theorem dd_newF {Hi H : Hp} {p : Addr} {o : Obj} {vs : List V} {ds : List D} (x : Same Hi H) (hp : H p = none) (h : DdAll K Hi vs ds) : Dd K (nu Hi H (upd H p (.frz o (.tup vs)))) (.ref p) (.tuple ds) := by
  rw [nu_upd x hp]
  exact .tup (.inl (.inr ⟨o, upd_same⟩)) (DdAll.mono (same_new (Same.free x hp)) _ h)
theorem dd_newP {Hi H : Hp} {p : Addr} {o : Obj} {vs : List V} {ds : List D} (x : Same Hi H) (hp : H p = none) (hb : Bare o) (h : DdAll K Hi vs ds) : Dd K (nu Hi H (upd H p (.frz o (.tup vs)))) (.ref p) (.ptup ds) := by
  rw [nu_upd x hp]
  exact .ptup upd_same hb (DdAll.mono (same_new (Same.free x hp)) _ h)
theorem dd_newL {Hi H : Hp} {p : Addr} {vs : List V} {ds : List D} (x : Same Hi H) (hp : H p = none) (h : DdAll K Hi vs ds) : Dd K (nu Hi H (upd H p (.lst vs))) (.ref p) (.list ds) := by
  rw [nu_upd x hp]
  exact .lst upd_same (DdAll.mono (same_new (Same.free x hp)) _ h)
theorem rd_addI {i j : Int} : RD K (rAddU K) (.int i) (.int j) (.int (i + j)) := rd_I0.l
theorem rd_addS {a b : Str} (h : a.length + b.length ≤ sizeLine) : RD K (rAddU K) (.str a) (.str b) (.str (a ++ b)) := fun Hi H v w Q S h1 h2 q => .inr (.inl ⟨a, b, h1.str_eq, h2.str_eq, h, q _ H (Same.refl H) (.str _)⟩)
theorem rd_addT {xs ys : List D} (h : xs.length + ys.length ≤ sizeLine) : RD K (rAddU K) (.tuple xs) (.tuple ys) (.tuple (xs ++ ys)) := fun Hi H v w Q S h1 h2 q => by
  obtain ⟨a, vs, rfl, s1, k1⟩ := h1.tup_inv
  obtain ⟨b, ws, rfl, s2, k2⟩ := h2.tup_inv
  refine .inr (.inr (.inl ⟨a, b, vs, ws, rfl, rfl, Same.seqT S s1, Same.seqT S s2, by rw [k1.len, k2.len]; exact h, fun e => ?_, fun _ e => ?_, fun _ _ p hp => ?_⟩))
  · subst e
    cases k1
    exact q _ H (Same.refl H) (by rw [nu_refl S]; exact h2)
  · subst e
    cases k2
    rw [List.append_nil] at q
    exact q _ H (Same.refl H) (by rw [nu_refl S]; exact h1)
  · exact q _ _ (same_new hp) (dd_new S hp (k1.app k2))
theorem rd_addL {xs ys : List D} (h : xs.length + ys.length ≤ sizeLine) : RD K (rAddU K) (.list xs) (.list ys) (.list (xs ++ ys)) := fun Hi H v w Q S h1 h2 q => by
  obtain ⟨a, vs, rfl, s1, k1⟩ := h1.lst_inv
  obtain ⟨b, ws, rfl, s2, k2⟩ := h2.lst_inv
  exact .inr (.inr (.inr ⟨a, b, vs, ws, rfl, rfl, S _ _ s1, S _ _ s2, by rw [k1.len, k2.len]; exact h, fun p hp => q _ _ (same_new hp) (dd_newL S hp (k1.app k2))⟩))
theorem rd_subI {i j : Int} : RD K rSubU (.int i) (.int j) (.int (i - j)) := rd_I0
theorem rd_mulI {i j : Int} (h : CMul i j) : RD K rMulU (.int i) (.int j) (.int (i * j)) := (rd_I h).l
theorem rd_mulS {a : Str} {j : Int} (h : MulOk a j) : RD K rMulU (.str a) (.int j) (.str (Txt.mul a j)) := fun Hi H v w Q S h1 h2 q => .inr ⟨a, j, h1.str_eq, h2.int_eq, h, q _ H (Same.refl H) (.str _)⟩
theorem rd_divI {i j : Int} (h : CDivW i j) : RD K rDivU (.int i) (.int j) (.int (i / j)) := rd_I h
theorem rd_modI {i j : Int} (h : 0 < j) : RD K rModU (.int i) (.int j) (.int (i % j)) := rd_I (c := fun _ j => 0 < j) h
theorem rd_powI {i j : Int} (h : CPow i j) : RD K rPowU (.int i) (.int j) (.int (i ^ j.toNat)) := rd_I h
theorem dec_int (i j : Int) : decide (V.int i = V.int j) = decide (i = j) := by
  by_cases h : i = j
  · rw [h, decide_eq_true rfl, decide_eq_true rfl]
  · rw [decide_eq_false h, decide_eq_false fun z => h (V.int.inj z)]
theorem dec_str (i j : Str) : decide (V.str i = V.str j) = decide (i = j) := by
  by_cases h : i = j
  · rw [h, decide_eq_true rfl, decide_eq_true rfl]
  · rw [decide_eq_false h, decide_eq_false fun z => h (V.str.inj z)]
theorem rd_eqI {i j : Int} : RD K (rEqU K) (.int i) (.int j) (.bool (decide (i = j))) := fun Hi H v w Q S h1 h2 q => by
  have e1 := h1.int_eq
  have e2 := h2.int_eq
  subst e1 e2
  exact .inl ⟨rfl, by rw [dec_int]; exact q _ H (Same.refl H) (.bl _)⟩
theorem rd_eqS {i j : Str} : RD K (rEqU K) (.str i) (.str j) (.bool (decide (i = j))) := fun Hi H v w Q S h1 h2 q => by
  have e1 := h1.str_eq
  have e2 := h2.str_eq
  subst e1 e2
  exact .inl ⟨rfl, by rw [dec_str]; exact q _ H (Same.refl H) (.bl _)⟩
theorem rd_neI {i j : Int} : RD K (rNeU K) (.int i) (.int j) (.bool (!decide (i = j))) := fun Hi H v w Q S h1 h2 q => by
  have e1 := h1.int_eq
  have e2 := h2.int_eq
  subst e1 e2
  exact .inl ⟨rfl, by rw [dec_int]; exact q _ H (Same.refl H) (.bl _)⟩
theorem rd_neS {i j : Str} : RD K (rNeU K) (.str i) (.str j) (.bool (!decide (i = j))) := fun Hi H v w Q S h1 h2 q => by
  have e1 := h1.str_eq
  have e2 := h2.str_eq
  subst e1 e2
  exact .inl ⟨rfl, by rw [dec_str]; exact q _ H (Same.refl H) (.bl _)⟩
/-- a datum that == can look at -/
def Shp (d : D) : Prop := SeqAt.shaped (py d) = true
theorem Shp.lay {d : D} (h : Shp d) : (py d).canLay0 = true := SeqAt.canLay_of_shaped h
theorem rd_eqD {x y : D} (hx : Shp x) (hy : Shp y) : RD K (rEqU K) x y (.bool (PyData.eqv (py x) (py y))) := fun Hi H v w Q S h1 h2 q =>
  .inr ⟨py x, py y, Dd.dp x hx.lay (Dd.mono S _ h1), Dd.dp y hy.lay (Dd.mono S _ h2), hx, hy, q _ H (Same.refl H) (.bl _)⟩
theorem rd_neD {x y : D} (hx : Shp x) (hy : Shp y) : RD K (rNeU K) x y (.bool (!PyData.eqv (py x) (py y))) := fun Hi H v w Q S h1 h2 q =>
  .inr ⟨py x, py y, Dd.dp x hx.lay (Dd.mono S _ h1), Dd.dp y hy.lay (Dd.mono S _ h2), hx, hy, q _ H (Same.refl H) (.bl _)⟩
theorem rd_ltI {i j : Int} : RD K rLtU (.int i) (.int j) (.bool (decide (i < j))) := rd_I0b.l
theorem rd_ltS {i j : Str} : RD K rLtU (.str i) (.str j) (.bool (ltS i j)) := fun Hi H v w Q S h1 h2 q => .inr ⟨i, j, h1.str_eq, h2.str_eq, q _ H (Same.refl H) (.bl _)⟩
theorem rd_leI {i j : Int} : RD K rLeU (.int i) (.int j) (.bool (decide (i ≤ j))) := rd_I0b
theorem rd_gtI {i j : Int} : RD K rGtU (.int i) (.int j) (.bool (decide (j < i))) := rd_I0b
theorem rd_geI {i j : Int} : RD K rGeU (.int i) (.int j) (.bool (decide (j ≤ i))) := rd_I0b
theorem rd_inS {c : Nat} {z : Str} : RD K (rInU K) (.str ⟨#[c]⟩) (.str z) (.bool (decide (c ∈ z.cps.toList))) := fun Hi H v w Q S h1 h2 q => .inl ⟨c, z, h1.str_eq, h2.str_eq, q _ H (Same.refl H) (.bl _)⟩
theorem rd_inL {x : D} {ys : List D} (hx : Shp x) (hy : Shp (.list ys)) : RD K (rInU K) x (.list ys) (.bool ((pyAll ys).any fun z => PyData.eqv z (py x))) := fun Hi H v w Q S h1 h2 q => by
  have e : py (.list ys) = .list (pyAll ys) := by simp only [py]
  have h3 := Dd.dp _ hy.lay (Dd.mono S _ h2)
  have h4 : SeqAt.shaped (py (.list ys)) = true := hy
  rw [e] at h3 h4
  exact .inr (.inl ⟨py x, _, Dd.dp x hx.lay (Dd.mono S _ h1), h3, hx, h4, q _ H (Same.refl H) (.bl _)⟩)
theorem rd_inT {x : D} {ys : List D} (hx : Shp x) (hy : Shp (.tuple ys)) : RD K (rInU K) x (.tuple ys) (.bool ((pyAll ys).any fun z => PyData.eqv z (py x))) := fun Hi H v w Q S h1 h2 q => by
  have e : py (.tuple ys) = .tuple (pyAll ys) := by simp only [py]
  have h3 := Dd.dp _ hy.lay (Dd.mono S _ h2)
  have h4 : SeqAt.shaped (py (.tuple ys)) = true := hy
  rw [e] at h3 h4
  exact .inr (.inr ⟨py x, _, Dd.dp x hx.lay (Dd.mono S _ h1), h3, hx, h4, q _ H (Same.refl H) (.bl _)⟩)
theorem rd_notInL {x : D} {ys : List D} (hx : Shp x) (hy : Shp (.list ys)) : RD K (rNotInU K) x (.list ys) (.bool (!(pyAll ys).any fun z => PyData.eqv z (py x))) := fun Hi H v w Q S h1 h2 q => by
  have e : py (.list ys) = .list (pyAll ys) := by simp only [py]
  have h3 := Dd.dp _ hy.lay (Dd.mono S _ h2)
  have h4 : SeqAt.shaped (py (.list ys)) = true := hy
  rw [e] at h3 h4
  exact .inl ⟨py x, _, Dd.dp x hx.lay (Dd.mono S _ h1), h3, hx, h4, q _ H (Same.refl H) (.bl _)⟩
theorem rd_notInT {x : D} {ys : List D} (hx : Shp x) (hy : Shp (.tuple ys)) : RD K (rNotInU K) x (.tuple ys) (.bool (!(pyAll ys).any fun z => PyData.eqv z (py x))) := fun Hi H v w Q S h1 h2 q => by
  have e : py (.tuple ys) = .tuple (pyAll ys) := by simp only [py]
  have h3 := Dd.dp _ hy.lay (Dd.mono S _ h2)
  have h4 : SeqAt.shaped (py (.tuple ys)) = true := hy
  rw [e] at h3 h4
  exact .inr ⟨py x, _, Dd.dp x hx.lay (Dd.mono S _ h1), h3, hx, h4, q _ H (Same.refl H) (.bl _)⟩
theorem rd_isNN : RD K rIsNU .none .none (.bool true) := fun Hi H v w Q S h1 h2 q => by
  have e1 := h1.non_eq
  have e2 := h2.non_eq
  subst e1 e2
  exact ⟨rfl, q (.bl true) H (Same.refl H) (.bl _)⟩
theorem rd_isNS {z : Str} : RD K rIsNU (.str z) .none (.bool false) := fun Hi H v w Q S h1 h2 q => by
  have e1 := h1.str_eq
  have e2 := h2.non_eq
  subst e1 e2
  exact ⟨rfl, q (.bl false) H (Same.refl H) (.bl _)⟩
theorem rd_notNN : RD K rNotNU .none .none (.bool false) := fun Hi H v w Q S h1 h2 q => by
  have e1 := h1.non_eq
  have e2 := h2.non_eq
  subst e1 e2
  exact ⟨rfl, q (.bl false) H (Same.refl H) (.bl _)⟩
theorem rd_notNS {z : Str} : RD K rNotNU (.str z) .none (.bool true) := fun Hi H v w Q S h1 h2 q => by
  have e1 := h1.str_eq
  have e2 := h2.non_eq
  subst e1 e2
  exact ⟨rfl, q (.bl true) H (Same.refl H) (.bl _)⟩
theorem ixN_same {n m : Nat} (h : n = m) (i : Int) : ixN n i = ixN m i := by rw [h]
theorem at_all {Hi : Hp} {vs : List V} {ds : List D} {i : Int} {d : D} (h : DdAll K Hi vs ds) (e : atI ds i = some d) : ∃ v, atI vs i = some v ∧ Dd K Hi v d := by
  unfold atI at e ⊢
  rw [ixN_same h.len]
  cases q : ixN ds.length i with
  | none =>
    rw [q] at e
    cases e
  | some j =>
    rw [q] at e
    obtain ⟨v, h1, h2⟩ := h.get e
    exact ⟨v, h1, h2⟩
theorem rd_ixL {xs : List D} {i : Int} {d : D} (h : atI xs i = some d) : RD K (rIx K) (.list xs) (.int i) d := fun Hi H v w Q S h1 h2 q => by
  obtain ⟨a, vs, rfl, s1, k1⟩ := h1.lst_inv
  obtain ⟨u, e, hu⟩ := at_all k1 h
  exact .inl ⟨a, vs, i, u, rfl, h2.int_eq, SqL.of (S _ _ s1), e, q _ H (Same.refl H) (by rw [nu_refl S]; exact hu)⟩
theorem rd_ixT {xs : List D} {i : Int} {d : D} (h : atI xs i = some d) : RD K (rIx K) (.tuple xs) (.int i) d := fun Hi H v w Q S h1 h2 q => by
  obtain ⟨a, vs, rfl, s1, k1⟩ := h1.tup_inv
  obtain ⟨u, e, hu⟩ := at_all k1 h
  exact .inr (.inl ⟨a, vs, i, u, rfl, h2.int_eq, Same.seqT S s1, e, q _ H (Same.refl H) (by rw [nu_refl S]; exact hu)⟩)
theorem rd_ixS {z : Str} {i : Int} {c : Nat} (hz : z.length ≤ sizeLine) (h : atI z.cps.toList i = some c) : RD K (rIx K) (.str z) (.int i) (.str ⟨#[c]⟩) := fun Hi H v w Q S h1 h2 q =>
  .inr (.inr ⟨z, i, c, h1.str_eq, h2.int_eq, hz, h, q _ H (Same.refl H) (.str _)⟩)
theorem rd_ixScr {ns : List Int} {i : Int} {n : Int} (h : atI ns i = some n) : RD K (rIx K) (.scr ns) (.int i) (.int n) := fun Hi H v w Q S h1 h2 q => by
  obtain ⟨a, rfl, s1⟩ := h1.scr_inv
  refine .inl ⟨a, _, i, .int n, rfl, h2.int_eq, Same.seq S s1, ?_, q _ H (Same.refl H) (.int _)⟩
  unfold atI at h ⊢
  rw [ixN_same (List.length_map ..)]
  cases e : ixN ns.length i with
  | none =>
    rw [e] at h
    cases h
  | some j =>
    rw [e] at h
    show (ns.map V.int)[j]? = _
    rw [List.getElem?_map]
    rw [show ns[j]? = some n from h]
    rfl
/-! slices -/
def cutG {α : Type} (xs : List α) (lo hi : Option Int) : List α := (xs.drop (HT.sIx xs.length 0 lo)).take (HT.sIx xs.length xs.length hi - HT.sIx xs.length 0 lo)
theorem eo_none : EvO K C tNoPart ρ none := fun Hi σ H Q S q => q H (Same.refl H)
theorem eo_some {te : TE} {i : Int} (h : EvP K C te ρ (.int i)) : EvO K C (tPart te) ρ (some i) := fun Hi σ H Q S q => h Hi σ H _ S fun v H' g hd => ⟨i, hd.int_eq, q H' g⟩
def RS (K : PySem.W.Frag) (x : D) (lo hi : Option Int) (z : D) : Prop := ∀ (Hi H : Hp) (v : V) (Q : VK), Same Hi H → Dd K Hi v x → (∀ u H', Same H H' → Dd K (nu Hi H H') u z → Q u H') → rSlU K v lo hi H Q
theorem ev_sl {te : TE} {tl th : TO} {x z : D} {lo hi : Option Int} (h : EvP K C te ρ x) (h1 : EvO K C tl ρ lo) (h2 : EvO K C th ρ hi) (hr : RS K x lo hi z) : EvP K C (tSl (rSlU K) te tl th) ρ z := fun Hi σ H Q S q =>
  h Hi σ H _ S fun v H1 g1 d1 => h1 _ σ H1 _ (S.grow g1) fun H2 g2 => h2 _ σ H2 _ (S.grow (g1.trans g2)) fun H3 g3 =>
    hr (nu Hi H H3) H3 v Q (nu_hi S.ex ((g1.trans g2).trans g3)) (Dd.mono (nu_le S.ex g1 (g2.trans g3)) _ d1) fun u H4 g4 d4 => q u H4 (((g1.trans g2).trans g3).trans g4) (by rw [nu_nu S.ex ((g1.trans g2).trans g3) g4] at d4; exact d4)
theorem cut_all {Hi : Hp} {vs : List V} {ds : List D} {lo hi : Option Int} (h : DdAll K Hi vs ds) : DdAll K Hi (cutV vs lo hi) (cutG ds lo hi) := by
  unfold cutV cutG
  rw [h.len]
  exact (h.drop _).take _
theorem rs_L {xs : List D} {lo hi : Option Int} : RS K (.list xs) lo hi (.list (cutG xs lo hi)) := fun Hi H v Q S h1 q => by
  obtain ⟨a, vs, rfl, s1, k1⟩ := h1.lst_inv
  exact .inl ⟨a, vs, rfl, SqL.of (S _ _ s1), fun p hp => q _ _ (same_new hp) (dd_newL S hp (cut_all k1))⟩
theorem rs_T {xs : List D} {lo hi : Option Int} : RS K (.tuple xs) lo hi (.tuple (cutG xs lo hi)) := fun Hi H v Q S h1 q => by
  obtain ⟨a, vs, rfl, s1, k1⟩ := h1.tup_inv
  refine .inr (.inl ⟨a, vs, rfl, Same.seqT S s1, fun e => ?_, fun _ p hp => q _ _ (same_new hp) (dd_new S hp (cut_all k1))⟩)
  have e2 : cutG xs lo hi = xs := by
    unfold cutG
    rw [← k1.len, e.1, e.2, Nat.sub_zero, List.drop_zero, k1.len, List.take_length]
  rw [e2] at q
  exact q _ H (Same.refl H) (by rw [nu_refl S]; exact h1)
theorem rs_S {z : Str} {lo hi : Option Int} (hz : z.length ≤ sizeLine) : RS K (.str z) lo hi (.str (cutS z lo hi)) := fun Hi H v Q S h1 q => .inr (.inr ⟨z, h1.str_eq, hz, q _ H (Same.refl H) (.str _)⟩)
theorem cutV_map {α : Type} (f : α → V) (xs : List α) (lo hi : Option Int) : cutV (xs.map f) lo hi = (cutG xs lo hi).map f := by
  unfold cutV cutG
  rw [List.length_map, List.map_take, List.map_drop]
theorem dd_ints {H : Hp} : ∀ ns : List Int, DdAll K H (ns.map V.int) (ns.map D.int)
  | [] => .nil
  | n :: ns => .cons (.int n) (dd_ints ns)
theorem rs_scr {ns : List Int} {lo hi : Option Int} : RS K (.scr ns) lo hi (.list ((cutG ns lo hi).map D.int)) := fun Hi H v Q S h1 q => by
  obtain ⟨a, rfl, s1⟩ := h1.scr_inv
  refine .inl ⟨a, _, rfl, Same.seq S s1, fun p hp => q _ _ (same_new hp) (dd_newL S hp ?_)⟩
  rw [cutV_map]
  exact dd_ints _
/-! displays -/
theorem ev_tup {ta : TA} {xs : List D} (h : EvA K C ta ρ xs) (hz : xs.length ≤ sizeLine := by first | decide | exact Nat.le_of_ble_eq_true rfl) : EvP K C (tTupP ta) ρ (.tuple xs) := fun Hi σ H Q S q =>
  h Hi σ H _ S fun vs H1 g1 d1 => ⟨by rw [d1.len]; exact hz, fun p o hp hb => q _ _ (g1.trans (same_new hp)) (by
    have := dd_newF (o := o) (nu_hi S.ex g1) hp d1
    rw [nu_nu S.ex g1 (same_new hp)] at this
    exact this)⟩
theorem ev_tupP {ta : TA} {xs : List D} (h : EvA K C ta ρ xs) (hz : xs.length ≤ sizeLine := by first | decide | exact Nat.le_of_ble_eq_true rfl) : EvP K C (tTupP ta) ρ (.ptup xs) := fun Hi σ H Q S q =>
  h Hi σ H _ S fun vs H1 g1 d1 => ⟨by rw [d1.len]; exact hz, fun p o hp hb => q _ _ (g1.trans (same_new hp)) (by
    have := dd_newP (nu_hi S.ex g1) hp hb d1
    rw [nu_nu S.ex g1 (same_new hp)] at this
    exact this)⟩
theorem ev_lst {ta : TA} {xs : List D} (h : EvA K C ta ρ xs) (hz : xs.length ≤ sizeLine := by first | decide | exact Nat.le_of_ble_eq_true rfl) : EvP K C (tLst ta) ρ (.list xs) := fun Hi σ H Q S q =>
  h Hi σ H _ S fun vs H1 g1 d1 => ⟨by rw [d1.len]; exact hz, fun p hp => q _ _ (g1.trans (same_new hp)) (by
    have := dd_newL (nu_hi S.ex g1) hp d1
    rw [nu_nu S.ex g1 (same_new hp)] at this
    exact this)⟩
/-! calls of built-ins -/
theorem rc_lenL {xs : List D} : RC K (rLenU K) [.list xs] (.int xs.length) := fun Hi H vs Q S h q => by
  obtain ⟨v, ws, rfl, h1, h2⟩ := h.inv
  have := h2.inv0
  subst this
  obtain ⟨a, us, rfl, s1, k1⟩ := h1.lst_inv
  exact .inl ⟨a, us, rfl, .inl (SqL.of (S _ _ s1)), by rw [k1.len]; exact q _ H (Same.refl H) (.int _)⟩
theorem rc_lenT {xs : List D} : RC K (rLenU K) [.tuple xs] (.int xs.length) := fun Hi H vs Q S h q => by
  obtain ⟨v, ws, rfl, h1, h2⟩ := h.inv
  have := h2.inv0
  subst this
  obtain ⟨a, us, rfl, s1, k1⟩ := h1.tup_inv
  exact .inl ⟨a, us, rfl, .inr (Same.seqT S s1), by rw [k1.len]; exact q _ H (Same.refl H) (.int _)⟩
theorem rc_lenS {z : Str} (hz : z.length ≤ sizeLine) : RC K (rLenU K) [.str z] (.int z.length) := fun Hi H vs Q S h q => by
  obtain ⟨v, ws, rfl, h1, h2⟩ := h.inv
  have := h2.inv0
  subst this
  exact .inr ⟨z, by rw [h1.str_eq], hz, q _ H (Same.refl H) (.int _)⟩
theorem rc_lenScr {ns : List Int} : RC K (rLenU K) [.scr ns] (.int ns.length) := fun Hi H vs Q S h q => by
  obtain ⟨v, ws, rfl, h1, h2⟩ := h.inv
  have := h2.inv0
  subst this
  obtain ⟨a, rfl, s1⟩ := h1.scr_inv
  exact .inl ⟨a, _, rfl, .inl (Same.seq S s1), by rw [List.length_map]; exact q _ H (Same.refl H) (.int _)⟩
theorem rc_minI {i j : Int} : RC K rMinU [.int i, .int j] (.int (if j < i then j else i)) := fun Hi H vs Q S h q => by
  obtain ⟨v, ws, rfl, h1, h2⟩ := h.inv
  obtain ⟨v2, ws2, rfl, h3, h4⟩ := h2.inv
  have := h4.inv0
  subst this
  exact .inl ⟨i, j, by rw [h1.int_eq, h3.int_eq], q _ H (Same.refl H) (.int _)⟩
theorem rc_minS {a b : Str} : RC K rMinU [.str a, .str b] (.str (if ltS b a = true then b else a)) := fun Hi H vs Q S h q => by
  obtain ⟨v, ws, rfl, h1, h2⟩ := h.inv
  obtain ⟨v2, ws2, rfl, h3, h4⟩ := h2.inv
  have := h4.inv0
  subst this
  exact .inr ⟨a, b, by rw [h1.str_eq, h3.str_eq], q _ H (Same.refl H) (.str _)⟩
theorem rc_maxI {i j : Int} : RC K rMaxU [.int i, .int j] (.int (if j > i then j else i)) := fun Hi H vs Q S h q => by
  obtain ⟨v, ws, rfl, h1, h2⟩ := h.inv
  obtain ⟨v2, ws2, rfl, h3, h4⟩ := h2.inv
  have := h4.inv0
  subst this
  exact .inl ⟨i, j, by rw [h1.int_eq, h3.int_eq], q _ H (Same.refl H) (.int _)⟩
theorem rc_maxS {a b : Str} : RC K rMaxU [.str a, .str b] (.str (if ltS a b = true then b else a)) := fun Hi H vs Q S h q => by
  obtain ⟨v, ws, rfl, h1, h2⟩ := h.inv
  obtain ⟨v2, ws2, rfl, h3, h4⟩ := h2.inv
  have := h4.inv0
  subst this
  exact .inr ⟨a, b, by rw [h1.str_eq, h3.str_eq], q _ H (Same.refl H) (.str _)⟩
theorem rc_tup {xs : List D} : RC K (rTupP K) [.list xs] (.tuple xs) := fun Hi H vs Q S h q => by
  obtain ⟨v, ws, rfl, h1, h2⟩ := h.inv
  have := h2.inv0
  subst this
  obtain ⟨a, us, rfl, s1, k1⟩ := h1.lst_inv
  exact ⟨a, us, rfl, SqL.of (S _ _ s1), fun l o hl hb => q _ _ (same_new hl) (dd_newF S hl k1)⟩
theorem rc_tupP {xs : List D} : RC K (rTupP K) [.list xs] (.ptup xs) := fun Hi H vs Q S h q => by
  obtain ⟨v, ws, rfl, h1, h2⟩ := h.inv
  have := h2.inv0
  subst this
  obtain ⟨a, us, rfl, s1, k1⟩ := h1.lst_inv
  exact ⟨a, us, rfl, SqL.of (S _ _ s1), fun l o hl hb => q _ _ (same_new hl) (dd_newP S hl hb k1)⟩
theorem rc_listT {xs : List D} : RC K (rListU K) [.tuple xs] (.list xs) := fun Hi H vs Q S h q => by
  obtain ⟨v, ws, rfl, h1, h2⟩ := h.inv
  have := h2.inv0
  subst this
  obtain ⟨a, us, rfl, s1, k1⟩ := h1.tup_inv
  exact ⟨a, us, rfl, .inr (Same.seqT S s1), fun l hl => q _ _ (same_new hl) (dd_newL S hl k1)⟩
theorem rc_intB {b : Bool} : RC K rIntU [.bool b] (.int (if b then 1 else 0)) := fun Hi H vs Q S h q => by
  obtain ⟨v, ws, rfl, h1, h2⟩ := h.inv
  have := h2.inv0
  subst this
  exact .inr ⟨b, by rw [h1.bl_eq], q _ H (Same.refl H) (.int _)⟩
theorem rc_abs {i : Int} : RC K rAbsU [.int i] (.int (if i < 0 then -i else i)) := fun Hi H vs Q S h q => by
  obtain ⟨v, ws, rfl, h1, h2⟩ := h.inv
  have := h2.inv0
  subst this
  exact ⟨i, by rw [h1.int_eq], q _ H (Same.refl H) (.int _)⟩
theorem bools_all {H : Hp} : ∀ {vs : List V} {bs : List Bool}, DdAll K H vs (bs.map D.bool) → vs = bs.map V.bl
  | _, [], h => h.inv0
  | _, b :: bs, h => by
    obtain ⟨v, ws, rfl, h1, h2⟩ := h.inv
    rw [h1.bl_eq, bools_all h2]
    rfl
theorem rc_any {bs : List Bool} : RC K (rAny K) [.list (bs.map D.bool)] (.bool (bs.any id)) := fun Hi H vs Q S h q => by
  obtain ⟨v, ws, rfl, h1, h2⟩ := h.inv
  have := h2.inv0
  subst this
  obtain ⟨a, us, rfl, s1, k1⟩ := h1.lst_inv
  have e := bools_all k1
  subst e
  exact ⟨a, bs, rfl, SqL.of (S _ _ s1), q _ H (Same.refl H) (.bl _)⟩
theorem rc_all {bs : List Bool} : RC K (rAll K) [.list (bs.map D.bool)] (.bool (bs.all id)) := fun Hi H vs Q S h q => by
  obtain ⟨v, ws, rfl, h1, h2⟩ := h.inv
  have := h2.inv0
  subst this
  obtain ⟨a, us, rfl, s1, k1⟩ := h1.lst_inv
  have e := bools_all k1
  subst e
  exact ⟨a, bs, rfl, SqL.of (S _ _ s1), q _ H (Same.refl H) (.bl _)⟩
/-- the name of a datum's type -/
def tyD : D → String
  | .none => "NoneType"
  | .bool _ => "bool"
  | .int _ => "int"
  | .str _ => "str"
  | .list _ => "list"
  | .tuple _ => "tuple"
  | .ptup _ => "tuple"
  | .dct _ => "dict"
  | .scr _ => "list"
theorem tyD_tup {K : PySem.W.Frag} {H : Hp} {a : Addr} {vs : List V} (h : SqT K H a vs) : TyX K H (.ref a) (.type "tuple") := by
  rcases h with (h | ⟨o, h⟩) | ⟨o, its, n, h1, h2, _⟩
  · exact .base (.tup h)
  · exact .fTuple h
  · exact .kTuple h1 h2
theorem ev_isi {te : TE} {d : D} {T : String} {b : Bool} (h : EvP K C te ρ d) (hs : ∀ ns, d ≠ .scr ns) (hk : kitB (tyD d) T = some b) : EvP K C (tCB (rIsi K) (tCons te (tCons (tC (.ty T)) tNil))) ρ (.bool b) := fun Hi σ H Q S q =>
  h Hi σ H _ S fun v H1 g1 d1 => by
    have d2 := Dd.mono (nu_hi S.ex g1) _ d1
    have ty : TyX K H1 v (.type (tyD d)) := by
      cases d2 with
      | non => exact .base .non
      | bl b => exact .base (.bl b)
      | int i => exact .base (.int i)
      | str x => exact .base (.str x)
      | lst a b => exact .base (.lst a)
      | tup a b => exact tyD_tup a
      | ptup a b c => exact .fTuple a
      | dct a b => exact .base (.dK a)
      | scr a => exact absurd rfl (hs _)
    exact ⟨v, .ty T, _, _, b, rfl, .ty T, ty, kit_ty hk, q _ H1 g1 (.bl b)⟩
/-! sorted -/
theorem each_of {β : Type} {H : Hp} {enc : β → D} : ∀ {vs : List V} {bs : List β}, DdAll K H vs (bs.map enc) → PySem.W.EachIs (fun v b => Dd K H v (enc b)) vs bs
  | _, [], h => by
    rw [h.inv0]
    exact .nil
  | _, b :: bs, h => by
    obtain ⟨v, ws, rfl, h1, h2⟩ := h.inv
    exact .cons h1 (each_of h2)
theorem of_each {β : Type} {H : Hp} {enc : β → D} : ∀ {vs : List V} {bs : List β}, PySem.W.EachIs (fun v b => Dd K H v (enc b)) vs bs → DdAll K H vs (bs.map enc)
  | _, _, .nil => .nil
  | _, _, .cons h k => .cons h (of_each k)
/-- xs as sorted gives them -/
def srt {β : Type} (enc : β → D) (bs : List β) : List β := bs.mergeSort (PySem.W.dataLe false fun b => py (enc b))
structure SortOk {β : Type} (enc : β → D) (bs : List β) : Prop where
  lay : ∀ b ∈ bs, (py (enc b)).canLay0 = true
  like : PySem.W.AllAlike (bs.map fun b => py (enc b))
  able : PySem.W.Sortable (bs.map fun b => py (enc b))
  dep : ∀ b ∈ bs, (py (enc b)).depth ≤ 60
theorem each_mem {α β : Type} {R : α → β → Prop} : ∀ {xs : List α} {bs : List β}, PySem.W.EachIs R xs bs → PySem.W.EachIs (fun v b => R v b ∧ b ∈ bs) xs bs
  | _, _, .nil => .nil
  | _, _, .cons h k => .cons ⟨h, List.mem_cons_self⟩ ((each_mem k).mono fun _ _ z => ⟨z.1, List.mem_cons_of_mem _ z.2⟩)
theorem rc_sort {β : Type} {enc : β → D} {bs : List β} (o : SortOk enc bs) {x : D} (hx : x = .list (bs.map enc) ∨ x = .tuple (bs.map enc)) : RC K (rSortedD K) [x] (.list ((srt enc bs).map enc)) := fun Hi H vs Q S h q => by
  obtain ⟨v, ws, rfl, h1, h2⟩ := h.inv
  have := h2.inv0
  subst this
  have key : ∀ (a : Addr) (us : List V), v = .ref a → (SqL K H a us ∨ SqT K H a us) → DdAll K Hi us (bs.map enc) → rSortedD K [v] H Q := fun a us ev sq k1 => by
    have e1 : PySem.W.EachIs (fun v b => Dd K Hi v (enc b) ∧ b ∈ bs) us bs := each_mem (each_of k1)
    refine ⟨a, us, β, bs, fun b => py (enc b), fun v b => Dd K Hi v (enc b) ∧ b ∈ bs, by rw [ev], sq, e1, fun v b ⟨r, hb⟩ => Dd.dp _ (o.lay b hb) (Dd.mono S _ r), o.like, o.able, o.dep, fun p ys hp he => ?_⟩
    exact q _ _ (same_new hp) (dd_newL S hp (of_each (he.mono fun _ _ z => z.1)))
  rcases hx with rfl | rfl
  · obtain ⟨a, us, rfl, s1, k1⟩ := h1.lst_inv
    exact key a us rfl (.inl (SqL.of (S _ _ s1))) k1
  · obtain ⟨a, us, rfl, s1, k1⟩ := h1.tup_inv
    exact key a us rfl (.inr (Same.seqT S s1)) k1
end
end FK

set_option Elab.async false
set_option linter.all false
set_option maxRecDepth 100000
set_option maxHeartbeats 4000000
/-! Dicts, calls of own defs, what is walked, comprehensions. -/
namespace FK
open PySem PySem.Spec PyProof.Rows L2 FR

section
variable {K : PySem.W.Frag} {C : Addr} {ρ : List Sl} {te ta tb : TE} {x y z d : D}
/-! ### dict(pairs), d.get(k), d[k] -/
def lookD (kvs : List (Str × D)) (k : Str) : Option D := (kvs.find? fun q => decide (q.1 = k)).map (·.2)
theorem lookD_valV {H : Hp} {k : Str} : ∀ {es : List (Key × V)} {kvs : List (Str × D)}, DdKv K H es kvs → (lookD kvs k = none → valV es (Sum.inr k) = none) ∧ ∀ d, lookD kvs k = some d → ∃ v, valV es (Sum.inr k) = some v ∧ Dd K H v d
  | _, _, .nil => ⟨fun _ => rfl, fun d e => by cases e⟩
  | _, _, .cons (x := x) (v := v) (es := es) (d := d) (kvs := kvs) h t => by
    obtain ⟨h1, h2⟩ := lookD_valV (k := k) t
    by_cases e : x = k
    · have e1 : valV ((Sum.inr x, v) :: es) (Sum.inr k) = some v := valV_pos (p := ((Sum.inr x : Key), v)) (by rw [e])
      have e2 : lookD ((x, d) :: kvs) k = some d := by
        unfold lookD
        rw [List.find?_cons_of_pos (by simpa using e)]
        rfl
      rw [e1, e2]
      exact ⟨(fun q => nomatch q), fun d' q => ⟨v, rfl, by cases q; exact h⟩⟩
    · have e1 : valV ((Sum.inr x, v) :: es) (Sum.inr k) = valV es (Sum.inr k) := valV_neg (p := ((Sum.inr x : Key), v)) (fun q => e (Sum.inr.inj q))
      have e2 : lookD ((x, d) :: kvs) k = lookD kvs k := by
        unfold lookD
        rw [List.find?_cons_of_neg (by simpa using e)]
      rw [e1, e2]
      exact ⟨h1, h2⟩
theorem ev_get1 {td ty : TE} {kvs : List (Str × D)} {k : Str} (h1 : EvP K C td ρ (.dct kvs)) (h2 : EvP K C ty ρ (.str k)) : EvP K C (tDGet1 td ty) ρ ((lookD kvs k).getD .none) := fun Hi σ H Q S q =>
  h1 Hi σ H _ S fun v H1 g1 d1 => by
    obtain ⟨a, es, rfl, e1, k1⟩ := d1.dct_inv
    refine ⟨a, rfl, .inl ⟨es, .inl (nu_hi S.ex g1 _ _ e1)⟩, h2 _ σ H1 _ (S.grow g1) fun w H2 g2 d2 => ?_⟩
    have ew := d2.str_eq
    subst ew
    have q1 := lookD_valV (k := k) k1
    refine ⟨_, DGet.k (k := Sum.inr k) (g2 _ _ (nu_hi S.ex g1 _ _ e1)), ?_⟩
    cases e : lookD kvs k with
    | none =>
      rw [q1.1 e]
      rw [e] at q
      exact q _ H2 (g1.trans g2) .non
    | some dv =>
      obtain ⟨u, e2, hu⟩ := q1.2 dv e
      rw [e2]
      rw [e] at q
      exact q _ H2 (g1.trans g2) (Dd.mono (nu_le S.ex g1 g2) _ hu)
theorem ev_getD {td ty : TE} {kvs : List (Str × D)} {k : Str} {dv : D} (h1 : EvP K C td ρ (.dct kvs)) (h2 : EvP K C ty ρ (.str k)) (e : lookD kvs k = some dv) : EvP K C (tDGet td ty) ρ dv := fun Hi σ H Q S q =>
  h1 Hi σ H _ S fun v H1 g1 d1 => by
    obtain ⟨a, es, rfl, e1, k1⟩ := d1.dct_inv
    refine h2 _ σ H1 _ (S.grow g1) fun w H2 g2 d2 => ?_
    have ew := d2.str_eq
    subst ew
    obtain ⟨u, e2, hu⟩ := (lookD_valV (k := k) k1).2 dv e
    have hg := DGet.k (k := Sum.inr k) (g2 _ _ (nu_hi S.ex g1 _ _ e1))
    rw [e2] at hg
    exact ⟨a, u, rfl, hg, q _ H2 (g1.trans g2) (Dd.mono (nu_le S.ex g1 g2) _ hu)⟩
/-- pairs with unlike keys -/
def pairsD (kvs : List (Str × D)) : List D := kvs.map fun q => .tuple [.str q.1, q.2]
theorem merge_nodup : ∀ (kvs acc : List (Key × V)), ((acc ++ kvs).map (·.1)).Nodup → mergeK acc kvs = acc ++ kvs
  | [], acc, _ => by simp [mergeK]
  | p :: kvs, acc, h => by
    show mergeK (putK acc p.1 p.2) kvs = _
    have hn : valV acc p.1 = none := by
      cases e : valV acc p.1 with
      | none => rfl
      | some v =>
        have hm := valV_in e
        rw [List.map_append, List.nodup_append] at h
        exact absurd rfl (h.2.2 p.1 hm p.1 (by simp))
    rw [putK_new p.2 hn]
    rw [merge_nodup kvs (acc ++ [(p.1, p.2)]) (by simpa using h)]
    simp
theorem pairs_refs {H : Hp} : ∀ {vs : List V} {kvs : List (Str × D)}, DdAll K H vs (pairsD kvs) → ∃ (ps : List Addr) (es : List (Key × V)), vs = ps.map V.ref ∧ Paired (fun p kv => SqT K H p [kV kv.1, kv.2]) ps es ∧ DdKv K H es kvs ∧ es.map (·.1) = kvs.map fun q => (Sum.inr q.1 : Key)
  | _, [], h => by
    rw [h.inv0]
    exact ⟨[], [], rfl, .nil, .nil, rfl⟩
  | _, q :: kvs, h => by
    obtain ⟨v, ws, rfl, h1, h2⟩ := h.inv
    obtain ⟨ps, es, rfl, h3, h4, h5⟩ := pairs_refs h2
    obtain ⟨a, us, rfl, s1, k1⟩ := h1.tup_inv
    obtain ⟨u1, us1, rfl, d1, k2⟩ := k1.inv
    obtain ⟨u2, us2, rfl, d2, k3⟩ := k2.inv
    have := k3.inv0
    subst this
    have e1 := d1.str_eq
    subst e1
    exact ⟨a :: ps, (Sum.inr q.1, u2) :: es, rfl, .cons s1 h3, .cons d2 h4, by rw [List.map_cons, List.map_cons, h5]⟩
theorem paired_mono {H H' : Hp} (e : Same H H') : ∀ {ps : List Addr} {es : List (Key × V)}, Paired (fun p kv => SqT K H p [kV kv.1, kv.2]) ps es → Paired (fun p kv => SqT K H' p [kV kv.1, kv.2]) ps es
  | _, _, .nil => .nil
  | _, _, .cons h t => .cons (Same.seqT e h) (paired_mono e t)
theorem nodup_inr {kvs : List (Str × D)} (h : (kvs.map (·.1)).Nodup) : (kvs.map fun q => (Sum.inr q.1 : Key)).Nodup := by
  have e : (kvs.map fun q => (Sum.inr q.1 : Key)) = (kvs.map (·.1)).map Sum.inr := by rw [List.map_map]; rfl
  rw [e]
  exact List.Pairwise.map _ (fun a b hab q => hab (Sum.inr.inj q)) h
theorem rc_dictL {kvs : List (Str × D)} (hn : (kvs.map (·.1)).Nodup) : RC K (rDictU K) [.list (pairsD kvs)] (.dct kvs) := fun Hi H vs Q S h q => by
  obtain ⟨v, ws, rfl, h1, h2⟩ := h.inv
  have := h2.inv0
  subst this
  obtain ⟨a, us, rfl, s1, k1⟩ := h1.lst_inv
  obtain ⟨ps, es, rfl, h3, h4, h5⟩ := pairs_refs k1
  refine .inl ⟨a, ps, es, rfl, SqL.of (S _ _ s1), paired_mono S h3, fun p hp => ?_⟩
  have e : mergeK [] es = es := merge_nodup es [] (by rw [List.nil_append, h5]; exact nodup_inr hn)
  rw [e]
  refine q _ _ (same_new hp) ?_
  rw [nu_upd S hp]
  exact .dct upd_same (DdKv.mono (same_new (Same.free S hp)) _ h4)
theorem rc_dictP {kvs : List (Str × D)} (hn : (kvs.map (·.1)).Nodup) : RC K (rDictU K) [.ptup (pairsD kvs)] (.dct kvs) := fun Hi H vs Q S h q => by
  obtain ⟨v, ws, rfl, h1, h2⟩ := h.inv
  have := h2.inv0
  subst this
  obtain ⟨a, o, us, rfl, s1, hb, k1⟩ := h1.ptup_inv
  obtain ⟨ps, es, rfl, h3, h4, h5⟩ := pairs_refs k1
  refine .inr ⟨a, o, ps, es, rfl, S _ _ s1, hb, paired_mono S h3, fun p hp => ?_⟩
  have e : mergeK [] es = es := merge_nodup es [] (by rw [List.nil_append, h5]; exact nodup_inr hn)
  rw [e]
  refine q _ _ (same_new hp) ?_
  rw [nu_upd S hp]
  exact .dct upd_same (DdKv.mono (same_new (Same.free S hp)) _ h4)
/-! ### own defs: promises about data -/
def spR (K : PySem.W.Frag) {α : Type} (emb : α → List D) (pre : α → Prop) (post : α → D → Prop) : Sp := fun vs H Q _ => ∃ (a : α) (Hi : Hp), Same Hi H ∧ DdAll K Hi vs (emb a) ∧ pre a ∧ ∀ v H' d, post a d → Same H H' → Dd K (nu Hi H H') v d → Q v H'
abbrev spP (K : PySem.W.Frag) {α : Type} (emb : α → List D) (pre : α → Prop) (f : α → D) : Sp := spR K emb pre fun a d => d = f a
theorem ev_callR {α : Type} {emb : α → List D} {pre : α → Prop} {post : α → D → Prop} {E : XK} {ta : TA} (a : α) (h : EvA K C ta ρ (emb a)) (hp : pre a) : EvR K C (tCall (spR K emb pre post) [] E ta) ρ (post a) := fun Hi σ H Q S q =>
  h Hi σ H _ S fun vs H1 g1 d1 => by
    show spR K emb pre post (vs ++ []) H1 Q E
    rw [List.append_nil]
    exact ⟨a, nu Hi H H1, nu_hi S.ex g1, d1, hp, fun v H2 d p g2 d2 => q v H2 d p (g1.trans g2) (by rw [nu_nu S.ex g1 g2] at d2; exact d2)⟩
theorem ev_call {α : Type} {emb : α → List D} {pre : α → Prop} {f : α → D} {E : XK} {ta : TA} (a : α) (h : EvA K C ta ρ (emb a)) (hp : pre a) : EvP K C (tCall (spP K emb pre f) [] E ta) ρ (f a) := fun Hi σ H Q S q =>
  ev_callR a h hp Hi σ H Q S fun v H' d e g hd => by
    subst e
    exact q v H' g hd
/-! ### what is walked -/
/-- a list, a tuple, a text -/
def iSeq (K : PySem.W.Frag) (tl : TE) : TI := fun σ H R => tl σ H fun x H1 => (∃ a, x = .ref a ∧ (∃ xs, SqL K H1 a xs) ∧ R (Itl K a) H1) ∨ (∃ a, x = .ref a ∧ (∃ xs, SqT K H1 a xs) ∧ R (Itt K a) H1) ∨ ∃ z, x = .str z ∧ R (Its z) H1
theorem pi_seq {X : Cx} {tg l : Expr} {tl : TE} (hl : PE X l tl) : PI X tg l (iSeq X.K tl) := by
  refine ⟨fun pins s σ H R I h => ?_⟩
  refine thn (hl.run pins s σ H _ I h) fun v s1 ⟨x, H1, I1, r1, q1⟩ => ?_
  rcases q1 with ⟨a, e, ⟨xs, hq⟩, q⟩ | ⟨a, e, ⟨xs, hq⟩, q⟩ | ⟨z, e, q⟩
  · subst e
    cases r1
    obtain ⟨its, rv, p, hz⟩ := I1.list hq
    refine wpAny_pyIter_list p.isList ?_
    refine ⟨s1.heap.objs.size, [s1.heap.objs.size], _, _, H1, rfl, I1.kept (t' := s1.toks) fun b o e => Heap.get?_push_of_some _ e, turn_list a _, ⟨_, Heap.get?_push_size _ rfl, rfl, rfl⟩, fun b hb => ?_, q⟩
    have e : b = s1.heap.objs.size := by simpa using hb
    subst e
    exact I1.fpOk (Nat.le_refl _) (I1.hok.fresh (Nat.le_refl _))
  · subst e
    cases r1
    obtain ⟨its, rv, p, hz⟩ := I1.tuple hq
    refine wpAny_pyIter_tuple (show s1.heap.IsTuple a its.toArray from p) ?_
    refine ⟨s1.heap.objs.size, [s1.heap.objs.size], _, _, H1, rfl, I1.kept (t' := s1.toks) fun b o e => Heap.get?_push_of_some _ e, turn_tuple a _, ⟨_, Heap.get?_push_size _ rfl, rfl, rfl⟩, fun b hb => ?_, q⟩
    have e : b = s1.heap.objs.size := by simpa using hb
    subst e
    exact I1.fpOk (Nat.le_refl _) (I1.hok.fresh (Nat.le_refl _))
  · subst e
    obtain ⟨t, rfl⟩ := r1
    cases ha : z.cps.all (· < 128)
    · exact wpAny_pyIter_wide ha (pi_one (tk := s1.toks) I1 _ (turn_str _ z t "str_iterator" (.inr rfl)) ⟨_, Heap.get?_push_size _ rfl, rfl, rfl⟩ q)
    · exact wpAny_pyIter_ascii ha (pi_one (tk := s1.toks) I1 _ (turn_str _ z t "str_ascii_iterator" (.inl rfl)) ⟨_, Heap.get?_push_size _ rfl, rfl, rfl⟩ q)
/-- what it gives, item by item -/
def EvI (K : PySem.W.Frag) (C : Addr) (wi : TI) (ρ : List Sl) {α : Type} (xs : List α) (emb : α → D) : Prop := ∀ (Hi : Hp) (σ : L2.St) (H : Hp) (R : It → Hp → Prop), Env K C Hi σ H ρ →
  (∀ (J : It) (H1 : Hp) (G : Hp → Prop) (Y : Nat → Hp → V → Hp → Prop), Same H H1 → Walk J xs.length G Y → (∀ H2, Same (nu Hi H H1) H2 → G H2) →
    (∀ (i : Nat) (a : α) (Hj H2 : Hp) (x : V) (H3 : Hp), xs[i]? = some a → Same (nu Hi H H1) Hj → Same Hj H2 → Y i H2 x H3 → Same H2 H3 ∧ Dd K (nu Hj H2 H3) x (emb a)) → R J H1) → wi σ H R
theorem ei_seq {α : Type} {xs : List α} {emb : α → D} {tl : TE} {d : D} (h : EvP K C tl ρ d) (hd : d = .list (xs.map emb) ∨ d = .tuple (xs.map emb)) : EvI K C (iSeq K tl) ρ xs emb := fun Hi σ H R S q =>
  h Hi σ H _ S fun v H1 g1 d1 => by
    have items : ∀ {vs : List V}, DdAll K (nu Hi H H1) vs (xs.map emb) → ∀ (i : Nat) (a : α) (Hj H2 : Hp) (x : V) (H3 : Hp), xs[i]? = some a → Same (nu Hi H H1) Hj → Same Hj H2 → YAt vs i H2 x H3 → Same H2 H3 ∧ Dd K (nu Hj H2 H3) x (emb a) := fun k1 i a Hj H2 x H3 e hj hj2 y => by
      obtain ⟨rfl, hv⟩ := y
      refine ⟨Same.refl _, ?_⟩
      rw [nu_refl hj2]
      obtain ⟨dd, e1, hd⟩ := k1.getV hv
      rw [List.getElem?_map, e] at e1
      cases e1
      exact Dd.mono hj _ hd
    rcases hd with rfl | rfl
    · obtain ⟨a, vs, rfl, s1, k1⟩ := d1.lst_inv
      have hl : vs.length = xs.length := by rw [k1.len, List.length_map]
      refine .inl ⟨a, rfl, ⟨vs, SqL.of (nu_hi S.ex g1 _ _ s1)⟩, q _ H1 (fun H2 => SqL K H2 a vs) (YAt vs) g1 (by rw [← hl]; exact walk_list) (fun H2 e => SqL.of (e _ _ s1)) (items k1)⟩
    · obtain ⟨a, vs, rfl, s1, k1⟩ := d1.tup_inv
      have hl : vs.length = xs.length := by rw [k1.len, List.length_map]
      refine .inr (.inl ⟨a, rfl, ⟨vs, Same.seqT (nu_hi S.ex g1) s1⟩, q _ H1 (fun H2 => SqT K H2 a vs) (YAt vs) g1 (by rw [← hl]; exact walk_tup) (fun H2 e => Same.seqT e s1) (items k1)⟩)
abbrev sgnD (c : Nat) : D := .str ⟨#[c]⟩
theorem ei_str {z : Str} {tl : TE} (h : EvP K C tl ρ (.str z)) : EvI K C (iSeq K tl) ρ z.cps.toList sgnD := fun Hi σ H R S q =>
  h Hi σ H _ S fun v H1 g1 d1 => .inr (.inr ⟨z, d1.str_eq, q _ H1 (fun _ => True) _ g1 (by rw [Array.length_toList]; exact walk_str) (fun _ _ => trivial) fun i a Hj H2 x H3 e hj hj2 y => by
    obtain ⟨rfl, c, e1, rfl⟩ := y
    have e2 : z.cps.toList[i]? = some c := by rw [Array.getElem?_toList]; exact e1
    rw [e] at e2
    cases e2
    exact ⟨Same.refl _, .str _⟩⟩)
theorem ei_range1 {ta : TA} {n : Int} (h : EvA K C ta ρ [.int n]) (h1 : -(2 ^ 62) ≤ n) (h2 : n < 2 ^ 62) : EvI K C (iRng1 ta) ρ (List.range n.toNat) (fun i => .int (i : Nat)) := fun Hi σ H R S q =>
  h Hi σ H _ S fun vs H1 g1 d1 => by
    obtain ⟨v, ws, rfl, e1, e2⟩ := d1.inv
    have := e2.inv0
    subst this
    refine ⟨n, by rw [e1.int_eq], h1, h2, q _ H1 (fun _ => True) (YFn fun i => .int ((0 : Int) + i)) g1 (by rw [List.length_range]; exact walk_range) (fun _ _ => trivial) fun i a Hj H2 x H3 e hj hj2 y => ?_⟩
    obtain ⟨rfl, rfl⟩ := y
    have hi := (List.getElem?_eq_some_iff.mp e).2
    rw [List.getElem_range] at hi
    subst hi
    show Same _ _ ∧ Dd K _ (V.int (0 + (i : Int))) (D.int (i : Int))
    rw [Int.zero_add]
    exact ⟨Same.refl _, .int _⟩
theorem ei_range2 {ta : TA} {m n : Int} (h : EvA K C ta ρ [.int m, .int n]) (h1 : -(2 ^ 62) ≤ m) (h2 : m < 2 ^ 62) (h3 : -(2 ^ 62) ≤ n) (h4 : n < 2 ^ 62) : EvI K C (iRng2 ta) ρ (List.range (n - m).toNat) (fun i => .int (m + (i : Nat))) := fun Hi σ H R S q =>
  h Hi σ H _ S fun vs H1 g1 d1 => by
    obtain ⟨v, ws, rfl, e1, e2⟩ := d1.inv
    obtain ⟨v2, ws2, rfl, e3, e4⟩ := e2.inv
    have := e4.inv0
    subst this
    refine ⟨m, n, by rw [e1.int_eq, e3.int_eq], ⟨h1, h2, h3, h4⟩, q _ H1 (fun _ => True) (YFn fun i => .int (m + i)) g1 (by rw [List.length_range]; exact walk_range) (fun _ _ => trivial) fun i a Hj H2 x H3 e hj hj2 y => ?_⟩
    obtain ⟨rfl, rfl⟩ := y
    have hi := (List.getElem?_eq_some_iff.mp e).2
    rw [List.getElem_range] at hi
    subst hi
    exact ⟨Same.refl _, .int _⟩
/-- enumerate: pairs -/
def enumL {α : Type} (xs : List α) : List (Nat × α) := (List.range xs.length).zip xs
theorem enumL_len {α : Type} (xs : List α) : (enumL xs).length = xs.length := by simp [enumL]
theorem enumL_get {α : Type} {xs : List α} {i : Nat} {p : Nat × α} (h : (enumL xs)[i]? = some p) : p.1 = i ∧ xs[i]? = some p.2 := by
  unfold enumL at h
  rw [List.getElem?_zip_eq_some] at h
  have hi := (List.getElem?_eq_some_iff.mp h.1).2
  rw [List.getElem_range] at hi
  exact ⟨hi.symm, h.2⟩
theorem walk_enumT {a : Addr} {xs : List V} : Walk (IteT K a) xs.length (fun H => SqT K H a xs) (YPair (fun i => some (.int (i : Nat))) (fun i => xs[i]?)) := by
  refine ⟨fun i _ hi q => ⟨xs, xs[i], q, by simp [hi]⟩, fun _ q => ⟨xs, q, Nat.le_refl _⟩, fun i H v H' _ q y => ?_⟩
  obtain ⟨T, x, h1, h2, h3, h4⟩ := y
  exact ⟨T, .int (i : Nat), x, h1, h2, h3, rfl, h4 xs q⟩
theorem enum_items {α : Type} {xs : List α} {emb : α → D} {Hk : Hp} {vs : List V} (k1 : DdAll K Hk vs (xs.map emb)) (i : Nat) (p : Nat × α) (Hj H2 : Hp) (x : V) (H3 : Hp) (e : (enumL xs)[i]? = some p) (hj : Same Hk Hj) (hj2 : Same Hj H2)
    (y : YPair (fun i => some (.int (i : Nat))) (fun i => vs[i]?) i H2 x H3) : Same H2 H3 ∧ Dd K (nu Hj H2 H3) x (.tuple [.int (p.1 : Nat), emb p.2]) := by
  obtain ⟨T, x1, x2, rfl, hT, rfl, e1, e2⟩ := y
  cases e1
  obtain ⟨f1, f2⟩ := enumL_get e
  obtain ⟨dd, e3, hd⟩ := k1.getV e2
  rw [List.getElem?_map, f2] at e3
  cases e3
  rw [f1]
  exact ⟨same_new hT, dd_new hj2 hT (.cons (.int _) (.cons (Dd.mono hj _ hd) .nil))⟩
theorem ei_enumT {α : Type} {xs : List α} {emb : α → D} {ta : TA} (h : EvA K C ta ρ [.tuple (xs.map emb)]) : EvI K C (iEnumT K ta) ρ (enumL xs) (fun p => .tuple [.int (p.1 : Nat), emb p.2]) := fun Hi σ H R S q =>
  h Hi σ H _ S fun vs H1 g1 d1 => by
    obtain ⟨v, ws, rfl, e1, e2⟩ := d1.inv
    have := e2.inv0
    subst this
    obtain ⟨a, us, rfl, s1, k1⟩ := e1.tup_inv
    have hl : us.length = (enumL xs).length := by rw [k1.len, List.length_map, enumL_len]
    exact ⟨a, us, rfl, Same.seqT (nu_hi S.ex g1) s1, q _ H1 (fun H2 => SqT K H2 a us) _ g1 (by rw [← hl]; exact walk_enumT) (fun H2 e => Same.seqT e s1) (enum_items k1)⟩
theorem ei_enumL {α : Type} {xs : List α} {emb : α → D} {ta : TA} (h : EvA K C ta ρ [.list (xs.map emb)]) : EvI K C (iEnum K ta) ρ (enumL xs) (fun p => .tuple [.int (p.1 : Nat), emb p.2]) := fun Hi σ H R S q =>
  h Hi σ H _ S fun vs H1 g1 d1 => by
    obtain ⟨v, ws, rfl, e1, e2⟩ := d1.inv
    have := e2.inv0
    subst this
    obtain ⟨a, us, rfl, s1, k1⟩ := e1.lst_inv
    have hl : us.length = (enumL xs).length := by rw [k1.len, List.length_map, enumL_len]
    exact ⟨a, us, rfl, SqL.of (nu_hi S.ex g1 _ _ s1), q _ H1 (fun H2 => SqL K H2 a us) _ g1 (by rw [← hl]; exact walk_enum) (fun H2 e => SqL.of (e _ _ s1)) (enum_items k1)⟩
/-! ### targets: a name, or a tuple of names -/
def setV : L2.St → List (Nat × V) → L2.St
  | σ, [] => σ
  | σ, p :: l => setV (σ.set p.1 (some p.2)) l
def setS : List Sl → List (Nat × D) → List Sl
  | ρ, [] => ρ
  | ρ, p :: l => setS (ρ.set p.1 (.dat p.2)) l
theorem setS_len : ∀ (l : List (Nat × D)) (ρ : List Sl), (setS ρ l).length = ρ.length
  | [], _ => rfl
  | p :: l, ρ => by
    show (setS (ρ.set p.1 (.dat p.2)) l).length = _
    rw [setS_len l, List.length_set]
inductive SetsOk (K : PySem.W.Frag) (H : Hp) : List (Nat × V) → List (Nat × D) → Prop
  | nil : SetsOk K H [] []
  | cons {j : Nat} {v : V} {d : D} {l : List (Nat × V)} {m : List (Nat × D)} : Dd K H v d → SetsOk K H l m → SetsOk K H ((j, v) :: l) ((j, d) :: m)
theorem Env.sets {Hi H : Hp} : ∀ {l : List (Nat × V)} {m : List (Nat × D)} {σ : L2.St} {ρ : List Sl}, Env K C Hi σ H ρ → SetsOk K Hi l m → (∀ p ∈ m, p.1 < ρ.length) → Env K C Hi (setV σ l) H (setS ρ m)
  | _, _, σ, ρ, S, .nil, _ => S
  | _, _, σ, ρ, S, .cons (j := j) (v := v) (d := d) h t, hl => Env.sets (σ := σ.set j (some v)) (ρ := ρ.set j (.dat d)) (S.setD (hl _ List.mem_cons_self) h) t fun p hp => by
    rw [List.length_set]
    exact hl p (List.mem_cons_of_mem _ hp)
theorem Sit.sets {Z : Zn} {Hi H : Hp} : ∀ {l : List (Nat × V)} {m : List (Nat × D)} {σ : L2.St} {ρ : List Sl}, Sit K C Z Hi σ H ρ → SetsOk K Hi l m → (∀ p ∈ m, p.1 < ρ.length) → Sit K C Z Hi (setV σ l) H (setS ρ m)
  | _, _, σ, ρ, S, .nil, _ => S
  | _, _, σ, ρ, S, .cons (j := j) (v := v) (d := d) h t, hl => Sit.sets (σ := σ.set j (some v)) (ρ := ρ.set j (.dat d)) (S.setD (hl _ List.mem_cons_self) h) t fun p hp => by
    rw [List.length_set]
    exact hl p (List.mem_cons_of_mem _ hp)
/-- g, given d, sets these slots -/
def GtP (K : PySem.W.Frag) (g : TG) (d : D) (m : List (Nat × D)) : Prop := ∀ (Hi H : Hp) (σ : L2.St) (v : V) (Q : L2.St → Hp → Prop), Same Hi H → Dd K Hi v d → (∀ l, SetsOk K Hi l m → Q (setV σ l) H) → g v σ H Q
theorem gt_name {j : Nat} {d : D} : GtP K (gName j) d [(j, d)] := fun Hi H σ v Q S h q => q [(j, v)] (.cons h .nil)
def gOf : List Nat → TGs
  | [] => gNil
  | j :: js => gCons (gName j) (gOf js)
theorem gs_of {Hi H : Hp} : ∀ {js : List Nat} {vs : List V} {ds : List D} {σ : L2.St} {Q : L2.St → Hp → Prop}, DdAll K Hi vs ds → ds.length = js.length → (∀ l, SetsOk K Hi l (js.zip ds) → Q (setV σ l) H) → gOf js vs σ H Q
  | [], vs, ds, σ, Q, h, e, q => by
    cases ds with
    | nil => exact ⟨h.inv0, q [] .nil⟩
    | cons d ds => cases e
  | j :: js, vs, ds, σ, Q, h, e, q => by
    cases ds with
    | nil => cases e
    | cons d ds =>
      obtain ⟨v, ws, rfl, h1, h2⟩ := h.inv
      refine ⟨v, ws, rfl, ?_⟩
      show gOf js ws (σ.set j (some v)) H Q
      exact gs_of h2 (Nat.succ.inj e) fun l hl => q ((j, v) :: l) (.cons h1 hl)
theorem gt_tup {js : List Nat} {n : Nat} {ds : List D} (hn : ds.length = n) (hj : ds.length = js.length) : GtP K (gTup K n (gOf js)) (.tuple ds) (js.zip ds) := fun Hi H σ v Q S h q => by
  obtain ⟨a, vs, rfl, s1, k1⟩ := h.tup_inv
  exact ⟨a, vs, rfl, Same.seqT S s1, by rw [k1.len]; exact hn, gs_of k1 hj q⟩
/-! ### comprehensions -/
def wipeS : List Sl → List Nat → List Sl
  | ρ, [] => ρ
  | ρ, v :: vs => (wipeS ρ vs).set v .non
theorem wipeS_len (ρ : List Sl) : ∀ vs : List Nat, (wipeS ρ vs).length = ρ.length
  | [] => rfl
  | v :: vs => by
    show ((wipeS ρ vs).set v .non).length = _
    rw [List.length_set, wipeS_len ρ vs]
theorem Env.wipe {Hi H : Hp} {σ : L2.St} (S : Env K C Hi σ H ρ) : ∀ {vs : List Nat}, (∀ v ∈ vs, v < ρ.length) → Env K C Hi (wipe σ vs) H (wipeS ρ vs)
  | [], _ => S
  | v :: vs, h => (S.wipe (vs := vs) fun u hu => h u (List.mem_cons_of_mem _ hu)).setN (by rw [wipeS_len]; exact h v List.mem_cons_self)
theorem wipe_get {σ : L2.St} : ∀ {vs : List Nat} {i : Nat}, (wipe σ vs)[i]? = if i ∈ vs then (if i < σ.length then some none else none) else σ[i]?
  | [], i => by simp [L2.wipe]
  | v :: vs, i => by
    show ((wipe σ vs).set v none)[i]? = _
    by_cases e : v = i
    · subst e
      by_cases hl : v < σ.length
      · rw [List.getElem?_set_self (by rw [wipe_length]; exact hl)]
        simp [hl]
      · rw [List.getElem?_eq_none (by rw [List.length_set, wipe_length]; omega)]
        simp [hl]
    · rw [List.getElem?_set_ne e, wipe_get (vs := vs)]
      have : (i ∈ v :: vs) ↔ (i ∈ vs) := by simp [Ne.symm e]
      simp only [this]
theorem setV_get : ∀ {l : List (Nat × V)} {σ : L2.St} {i : Nat}, (∀ p ∈ l, p.1 ≠ i) → (setV σ l)[i]? = σ[i]?
  | [], σ, i, _ => rfl
  | p :: l, σ, i, h => by
    show (setV (σ.set p.1 (some p.2)) l)[i]? = _
    rw [setV_get fun q hq => h q (List.mem_cons_of_mem _ hq), List.getElem?_set_ne (h p List.mem_cons_self)]
theorem setV_len : ∀ (l : List (Nat × V)) (σ : L2.St), (setV σ l).length = σ.length
  | [], _ => rfl
  | p :: l, σ => by
    show (setV (σ.set p.1 (some p.2)) l).length = _
    rw [setV_len l, List.length_set]
theorem wipe_set {σ : L2.St} {vs : List Nat} {l : List (Nat × V)} (h : ∀ p ∈ l, p.1 ∈ vs) : wipe (setV (wipe σ vs) l) vs = wipe σ vs := by
  apply List.ext_getElem?
  intro i
  rw [wipe_get, wipe_get, setV_len, wipe_length]
  by_cases hi : i ∈ vs
  · rw [if_pos hi, if_pos hi]
  · rw [if_neg hi, if_neg hi, setV_get (fun p hp q => hi (by rw [← q]; exact h p hp)), wipe_get, if_neg hi]
theorem SetsOk.keys {H : Hp} : ∀ {l : List (Nat × V)} {m : List (Nat × D)}, SetsOk K H l m → ∀ p ∈ l, ∃ q ∈ m, q.1 = p.1
  | _, _, .nil, p, hp => absurd hp (by simp)
  | _, _, .cons (j := j) (v := v) (d := d) h t, p, hp => by
    rcases List.mem_cons.mp hp with e | hp
    · rw [e]
      exact ⟨(j, d), List.mem_cons_self, rfl⟩
    · obtain ⟨q, hq, e⟩ := t.keys p hp
      exact ⟨q, List.mem_cons_of_mem _ hq, e⟩
theorem filter_take_succ {α : Type} {xs : List α} {i : Nat} {a : α} (e : xs[i]? = some a) (c : α → Bool) : (xs.take (i + 1)).filter c = (xs.take i).filter c ++ if c a = true then [a] else [] := by
  rw [List.take_add_one, e, List.filter_append]
  cases h : c a <;> simp [h]
/-- a comprehension: the new list, as ours or as data -/
def EvIat (K : PySem.W.Frag) (C : Addr) (wi : TI) {α : Type} (xs : List α) (emb : α → D) (Hi : Hp) (σ : L2.St) (H : Hp) : Prop := ∀ (R : It → Hp → Prop),
  (∀ (J : It) (H1 : Hp) (G : Hp → Prop) (Y : Nat → Hp → V → Hp → Prop), Same H H1 → Walk J xs.length G Y → (∀ H2, Same (nu Hi H H1) H2 → G H2) →
    (∀ (i : Nat) (a : α) (Hj H2 : Hp) (x : V) (H3 : Hp), xs[i]? = some a → Same (nu Hi H H1) Hj → Same Hj H2 → Y i H2 x H3 → Same H2 H3 ∧ Dd K (nu Hj H2 H3) x (emb a)) → R J H1) → wi σ H R
theorem lc_at {α : Type} {wi : TI} {g : TG} {tt : TT} {te : TE} {vs : List Nat} {xs : List α} {emb : α → D} (hz : xs.length < 100000) (hvs : ∀ v ∈ vs, v < ρ.length) (c : α → Bool) (f : α → D) (m : α → List (Nat × D))
    (hm : ∀ a ∈ xs, ∀ p ∈ m a, p.1 ∈ vs) (hg : ∀ a ∈ xs, GtP K g (emb a) (m a)) (ht : ∀ a ∈ xs, EvB K C tt (setS (wipeS ρ vs) (m a)) (c a)) (he : ∀ a ∈ xs, c a = true → EvP K C te (setS (wipeS ρ vs) (m a)) (f a))
    {Hi H : Hp} {σ : L2.St} {Q : VK} (h : EvIat K C wi xs emb Hi σ H) (S : Env K C Hi σ H ρ) (q : ∀ (p : Addr) (ws : List V) (H1 H2 : Hp), Same H H1 → H1 p = none → H2 p = some (.lst ws) → (∀ a o, H1 a = some o → H2 a = some o) → (∀ Hj, Hj = (fun a => if a = p then none else nu Hi H H2 a) → DdAll K Hj ws ((xs.filter c).map f)) → Q (.ref p) H2) :
    tLc wi g tt te vs σ H Q := by
  refine h _ fun J H1 G Y g1 wk hG hY => fun Dl hD => ?_
  -- what is known without the new list
  let kn : Hp → Hp := fun H2 a => if a = Dl then none else nu Hi H H2 a
  have kn_lo : ∀ H2, Same H1 (fun a => if a = Dl then none else H2 a) → Same (nu Hi H H1) (kn H2) := fun H2 e a o ha => by
    have h1 := nu_hi S.ex g1 a o ha
    have na : a ≠ Dl := ne_of_none h1 hD
    show (if a = Dl then none else nu Hi H H2 a) = some o
    rw [if_neg na]
    by_cases hh : H a = none
    · rw [nu_none hh] at ha ⊢
      have h2 : (if a = Dl then none else H2 a) = some o := e a o h1
      rw [if_neg na] at h2
      exact h2
    · rw [nu_some hh] at ha ⊢
      exact ha
  have kn_hi : ∀ H2, Same H1 (fun a => if a = Dl then none else H2 a) → Same (kn H2) H2 := fun H2 e a o ha => by
    have ha' : (if a = Dl then none else nu Hi H H2 a) = some o := ha
    by_cases na : a = Dl
    · rw [if_pos na] at ha'
      cases ha'
    · rw [if_neg na] at ha'
      by_cases hh : H a = none
      · rw [nu_none hh] at ha'
        exact ha'
      · rw [nu_some hh] at ha'
        have h1 := g1 a o (S.ex a o ha')
        have h2 : (if a = Dl then none else H2 a) = some o := e a o h1
        rw [if_neg na] at h2
        exact h2
  have env : ∀ H2, Same H1 (fun a => if a = Dl then none else H2 a) → Env K C (kn H2) (wipe σ vs) H2 (wipeS ρ vs) := fun H2 e => by
    obtain ⟨as, h1, h2, h3⟩ := S.sl
    have E1 : Env K C (kn H2) σ H2 ρ := by
      refine ⟨kn_hi H2 e, as, SlsOk.mono ((nu_lo S.ex).trans (kn_lo H2 e)) h1 fun a ha => ?_, h2, fun a ha => ?_⟩
      · obtain ⟨o, eo⟩ := Option.ne_none_iff_exists'.mp (h1.dom a ha)
        have o1 := g1 a o eo
        have o2 : (if a = Dl then none else H2 a) = some o := e a o o1
        rw [if_neg (ne_of_none o1 hD)] at o2
        rw [eo, o2]
      · obtain ⟨o, eo⟩ := Option.ne_none_iff_exists'.mp (h1.dom a ha)
        show (if a = Dl then none else nu Hi H H2 a) = none
        rw [if_neg (ne_of_none (g1 a o eo) hD), nu_some (h1.dom a ha)]
        exact h3 a ha
    exact E1.wipe hvs
  refine lc_it wk (fun i H2 => Same H1 (fun a => if a = Dl then none else H2 a) ∧ ∃ ws, H2 Dl = some (.lst ws) ∧ DdAll K (kn H2) ws (((xs.take i).filter c).map f)) ?_ ?_ ?_ ?_
  · refine ⟨fun a o ha => ?_, [], upd_same, .nil⟩
    have na : a ≠ Dl := ne_of_none ha hD
    show (if a = Dl then none else upd H1 Dl (.lst []) a) = some o
    rw [if_neg na, upd_ne na]
    exact ha
  · intro i H2 _ p
    exact hG H2 ((kn_lo H2 p.1).trans (kn_hi H2 p.1))
  · intro i x H2 H3 hi p y
    obtain ⟨e2, ws, hD2, k2⟩ := p
    have ea : xs[i]? = some xs[i] := List.getElem?_eq_getElem hi
    have hmem : xs[i] ∈ xs := List.getElem_mem hi
    obtain ⟨g3, d3⟩ := hY i xs[i] (kn H2) H2 x H3 ea (kn_lo H2 e2) (kn_hi H2 e2) y
    have E2 := (env H2 e2).grow g3
    refine hg _ hmem (nu (kn H2) H2 H3) H3 (wipe σ vs) x _ E2.ex d3 fun l hl => ?_
    refine ⟨wipe_set fun p hp => ?_, ?_⟩
    · obtain ⟨q, hq, eq⟩ := hl.keys p hp
      rw [← eq]
      exact hm _ hmem q hq
    · have E3 := E2.sets hl fun p hp => by rw [wipeS_len]; exact hvs _ (hm _ hmem p hp)
      -- growth from H2 on keeps what is asked
      have keep : ∀ {H4 : Hp}, Same H2 H4 → Same H1 (fun a => if a = Dl then none else H4 a) := fun {H4} g a o ha => by
        have h2 : (if a = Dl then none else H2 a) = some o := e2 a o ha
        have na : a ≠ Dl := ne_of_none ha hD
        rw [if_neg na] at h2
        show (if a = Dl then none else H4 a) = some o
        rw [if_neg na]
        exact g a o h2
      have grow : ∀ {H4 : Hp}, Same H2 H4 → kn H4 = nu (kn H2) H2 H4 := fun {H4} g => by
        funext a
        show (if a = Dl then none else nu Hi H H4 a) = nu (kn H2) H2 H4 a
        by_cases na : a = Dl
        · have hn : H2 a ≠ none := by
            rw [na, hD2]
            exact fun z => nomatch z
          rw [if_pos na, nu_some hn]
          show _ = (if a = Dl then none else nu Hi H H2 a)
          rw [if_pos na]
        · rw [if_neg na]
          by_cases hh : H2 a = none
          · rw [nu_none hh]
            have h0 : H a = none := by
              cases eo : H a with
              | none => rfl
              | some o =>
                have o2 : (if a = Dl then none else H2 a) = some o := e2 a o (g1 a o eo)
                rw [if_neg na, hh] at o2
                cases o2
            rw [nu_none h0]
          · rw [nu_some hh]
            show _ = (if a = Dl then none else nu Hi H H2 a)
            rw [if_neg na]
            by_cases h0 : H a = none
            · rw [nu_none h0, nu_none h0]
              obtain ⟨o, eo⟩ := Option.ne_none_iff_exists'.mp hh
              rw [eo, g a o eo]
            · rw [nu_some h0, nu_some h0]
      refine ht _ hmem _ _ H3 _ E3 fun H4 g4 => ?_
      have g24 := g3.trans g4
      have et := filter_take_succ ea c
      cases hc : c xs[i] with
      | false =>
        show Same H1 _ ∧ _
        refine ⟨keep g24, ws, g24 _ _ hD2, ?_⟩
        rw [et, hc, if_neg Bool.false_ne_true, List.append_nil, grow g24]
        exact DdAll.mono (nu_lo (kn_hi H2 e2)) _ k2
      | true =>
        show te (setV (wipe σ vs) l) H4 _
        have E4 := E3.grow g4
        refine he _ hmem hc _ _ H4 _ E4 fun y H5 g5 d5 => ?_
        have g25 := g24.trans g5
        have hlen := k2.len
        refine ⟨ws, g25 _ _ hD2, ?_, ?_, ws ++ [y], upd_same, ?_⟩
        · have h1 : ws.length ≤ i := by
            rw [hlen, List.length_map]
            refine Nat.le_trans (List.length_filter_le _ _) ?_
            rw [List.length_take]
            exact Nat.min_le_left _ _
          refine Nat.lt_of_le_of_lt h1 (Nat.lt_trans (Nat.lt_trans hi hz) (by decide))
        · intro a o ha
          have na : a ≠ Dl := ne_of_none ha hD
          have : (if a = Dl then none else H5 a) = some o := keep g25 a o ha
          rw [if_neg na] at this
          show (if a = Dl then none else upd H5 Dl _ a) = some o
          rw [if_neg na, upd_ne na]
          exact this
        · have ek : kn (upd H5 Dl (.lst (ws ++ [y]))) = kn H5 := by
            funext a
            show (if a = Dl then none else nu Hi H (upd H5 Dl (.lst (ws ++ [y]))) a) = (if a = Dl then none else nu Hi H H5 a)
            by_cases na : a = Dl
            · rw [if_pos na, if_pos na]
            · rw [if_neg na, if_neg na]
              by_cases h0 : H a = none
              · rw [nu_none h0, nu_none h0, upd_ne na]
              · rw [nu_some h0, nu_some h0]
          rw [ek, et, hc, if_pos rfl, List.map_append, grow g25]
          have e5 : nu (nu (nu (kn H2) H2 H3) H3 H4) H4 H5 = nu (kn H2) H2 H5 := by
            rw [nu_nu (kn_hi H2 e2) g3 g4, nu_nu (kn_hi H2 e2) g24 g5]
          rw [e5] at d5
          exact (DdAll.mono (nu_lo (kn_hi H2 e2)) _ k2).app (DdAll.one d5)
  · intro H2 p
    obtain ⟨e2, ws, hD2, k2⟩ := p
    rw [List.take_length] at k2
    refine q Dl ws H1 H2 g1 hD hD2 (fun a o ha => ?_) fun Hj ej => by rw [ej]; exact k2
    have : (if a = Dl then none else H2 a) = some o := e2 a o ha
    rw [if_neg (ne_of_none ha hD)] at this
    exact this
theorem lc_any {α : Type} {wi : TI} {g : TG} {tt : TT} {te : TE} {vs : List Nat} {xs : List α} {emb : α → D} (h : EvI K C wi ρ xs emb) (hz : xs.length < 100000) (hvs : ∀ v ∈ vs, v < ρ.length) (c : α → Bool) (f : α → D) (m : α → List (Nat × D))
    (hm : ∀ a ∈ xs, ∀ p ∈ m a, p.1 ∈ vs) (hg : ∀ a ∈ xs, GtP K g (emb a) (m a)) (ht : ∀ a ∈ xs, EvB K C tt (setS (wipeS ρ vs) (m a)) (c a)) (he : ∀ a ∈ xs, c a = true → EvP K C te (setS (wipeS ρ vs) (m a)) (f a))
    {Hi H : Hp} {σ : L2.St} {Q : VK} (S : Env K C Hi σ H ρ) (q : ∀ (p : Addr) (ws : List V) (H1 H2 : Hp), Same H H1 → H1 p = none → H2 p = some (.lst ws) → (∀ a o, H1 a = some o → H2 a = some o) → (∀ Hj, Hj = (fun a => if a = p then none else nu Hi H H2 a) → DdAll K Hj ws ((xs.filter c).map f)) → Q (.ref p) H2) :
    tLc wi g tt te vs σ H Q := lc_at hz hvs c f m hm hg ht he (fun R k => h Hi σ H R S k) S q
theorem ev_lc {α : Type} {wi : TI} {g : TG} {tt : TT} {te : TE} {vs : List Nat} {xs : List α} {emb : α → D} (h : EvI K C wi ρ xs emb) (hz : xs.length < 100000) (hvs : ∀ v ∈ vs, v < ρ.length) (c : α → Bool) (f : α → D) (m : α → List (Nat × D))
    (hm : ∀ a ∈ xs, ∀ p ∈ m a, p.1 ∈ vs) (hg : ∀ a ∈ xs, GtP K g (emb a) (m a)) (ht : ∀ a ∈ xs, EvB K C tt (setS (wipeS ρ vs) (m a)) (c a)) (he : ∀ a ∈ xs, c a = true → EvP K C te (setS (wipeS ρ vs) (m a)) (f a)) :
    EvP K C (tLc wi g tt te vs) ρ (.list ((xs.filter c).map f)) := fun Hi σ H Q S q =>
  lc_any h hz hvs c f m hm hg ht he S fun p ws H1 H2 g1 hp hp2 k kd => by
    have hH : H p = none := Same.free g1 hp
    refine q _ H2 (g1.trans k) (.lst ?_ (DdAll.mono ?_ _ (kd _ rfl)))
    · rw [nu_none hH]
      exact hp2
    · intro a o ha0
      have ha : (if a = p then none else nu Hi H H2 a) = some o := ha0
      by_cases na : a = p
      · rw [if_pos na] at ha
        cases ha
      · rw [if_neg na] at ha
        exact ha
theorem eb_yes : EvB K C tYes ρ true := fun Hi σ H Q S q => q H (Same.refl H)
end
end FK

set_option Elab.async false
set_option linter.all false
set_option maxRecDepth 100000
set_option maxHeartbeats 4000000
/-! Statements, loops, defs, the folk. -/
namespace FK
open PySem PySem.Spec PyProof.Rows L2 FR

section
variable {K : PySem.W.Frag} {C : Addr} {Z : Zn} {Hi H : Hp} {σ : L2.St} {ρ : List Sl} {te : TE} {ta : TA} {tt : TT} {d : D} {D' : Ends} {tz tu tw : TS} {P : D → Prop}
/-! ### stores -/
theorem s_asgR {i : Nat} (h : EvR K C te ρ P) (S : Sit K C Z Hi σ H ρ) (hi : i < ρ.length) (k : ∀ d, P d → ∀ σ' Hi' H', Sit K C Z Hi' σ' H' (ρ.set i (.dat d)) → D'.nx σ' H') : tAsg te (gName i) D' σ H :=
  h Hi σ H _ S.env fun v H' d p g hd => k d p _ _ _ ((S.grow g).setD hi hd)
theorem s_asg {i : Nat} (h : EvP K C te ρ d) (S : Sit K C Z Hi σ H ρ) (hi : i < ρ.length) (k : ∀ σ' Hi' H', Sit K C Z Hi' σ' H' (ρ.set i (.dat d)) → D'.nx σ' H') : tAsg te (gName i) D' σ H :=
  h Hi σ H _ S.env fun v H' g hd => k _ _ _ ((S.grow g).setD hi hd)
theorem q_asgR {i : Nat} (h : EvR K C te ρ P) (S : Sit K C Z Hi σ H ρ) (hi : i < ρ.length) (k : ∀ d, P d → ∀ σ' Hi' H', Sit K C Z Hi' σ' H' (ρ.set i (.dat d)) → tz D' σ' H') : tSeq (tAsg te (gName i)) tz D' σ H := s_asgR (D' := { D' with nx := tz D' }) h S hi k
theorem q_asg {i : Nat} (h : EvP K C te ρ d) (S : Sit K C Z Hi σ H ρ) (hi : i < ρ.length) (k : ∀ σ' Hi' H', Sit K C Z Hi' σ' H' (ρ.set i (.dat d)) → tz D' σ' H') : tSeq (tAsg te (gName i)) tz D' σ H := s_asg (D' := { D' with nx := tz D' }) h S hi k
/-- a, b, .. = e -/
theorem q_asgT {ds : List D} {n : Nat} (js : List Nat) (h : EvP K C te ρ (.tuple ds)) (hn : ds.length = n) (hj : ds.length = js.length) (S : Sit K C Z Hi σ H ρ) (hl : ∀ j ∈ js, j < ρ.length) (k : ∀ σ' Hi' H', Sit K C Z Hi' σ' H' (setS ρ (js.zip ds)) → tz D' σ' H') : tSeq (tAsg te (gTup K n (gOf js))) tz D' σ H :=
  h Hi σ H _ S.env fun v H' g hd => gt_tup hn hj (nu Hi H H') H' σ v _ (nu_hi S.ex g) hd fun l hl' => k _ _ _ ((S.grow g).sets hl' fun p hp => hl _ (List.of_mem_zip hp).1)
/-- a, b = e, f -/
theorem q_par {i j : Nat} {d1 d2 : D} (h : EvA K C ta ρ [d1, d2]) (S : Sit K C Z Hi σ H ρ) (hi : i < ρ.length) (hj : j < ρ.length) (k : ∀ σ' Hi' H', Sit K C Z Hi' σ' H' ((ρ.set i (.dat d1)).set j (.dat d2)) → tz D' σ' H') : tSeq (tPar i j ta) tz D' σ H :=
  h Hi σ H _ S.env fun vs H' g hd => by
    obtain ⟨v, ws, rfl, h1, h2⟩ := hd.inv
    obtain ⟨w, ws2, rfl, h3, h4⟩ := h2.inv
    have := h4.inv0
    subst this
    exact ⟨v, w, rfl, k _ _ _ (((S.grow g).setD hi h1).setD (by rw [List.length_set]; exact hj) h3)⟩
/-! ### ifs -/
theorem s_if {b : Bool} (h : EvB K C tt ρ b) (S : Sit K C Z Hi σ H ρ) (h1 : b = true → ∀ Hi' H', Sit K C Z Hi' σ H' ρ → tu D' σ H') (h2 : b = false → ∀ Hi' H', Sit K C Z Hi' σ H' ρ → tw D' σ H') : tIfS tt tu tw D' σ H :=
  h Hi σ H _ S.env fun H' g => by
    cases b with
    | true => exact h1 rfl _ _ (S.grow g)
    | false => exact h2 rfl _ _ (S.grow g)
theorem q_if {b : Bool} (h : EvB K C tt ρ b) (S : Sit K C Z Hi σ H ρ) (h1 : b = true → ∀ Hi' H', Sit K C Z Hi' σ H' ρ → tu { D' with nx := tz D' } σ H') (h2 : b = false → ∀ Hi' H', Sit K C Z Hi' σ H' ρ → tw { D' with nx := tz D' } σ H') : tSeq (tIfS tt tu tw) tz D' σ H := s_if (D' := { D' with nx := tz D' }) h S h1 h2
theorem q_when {b : Bool} (h : EvB K C tt ρ b) (S : Sit K C Z Hi σ H ρ) (h1 : b = true → ∀ Hi' H', Sit K C Z Hi' σ H' ρ → tu { D' with nx := tz D' } σ H') (h2 : b = false → ∀ Hi' H', Sit K C Z Hi' σ H' ρ → tz D' σ H') : tSeq (tIfS tt tu tNext) tz D' σ H := s_if (D' := { D' with nx := tz D' }) h S h1 h2
theorem s_when {b : Bool} (h : EvB K C tt ρ b) (S : Sit K C Z Hi σ H ρ) (h1 : b = true → ∀ Hi' H', Sit K C Z Hi' σ H' ρ → tu D' σ H') (h2 : b = false → ∀ Hi' H', Sit K C Z Hi' σ H' ρ → D'.nx σ H') : tIfS tt tu tNext D' σ H := s_if h S h1 h2
/-- an if whose body is never run -/
theorem q_no (h : EvB K C tt ρ false) (S : Sit K C Z Hi σ H ρ) (h2 : ∀ Hi' H', Sit K C Z Hi' σ H' ρ → tz D' σ H') : tSeq (tIfS tt tu tNext) tz D' σ H := q_when h S (fun e => nomatch e) fun _ => h2
/-! ### returns -/
theorem s_ret (h : EvP K C te ρ d) (S : Sit K C Z Hi σ H ρ) (k : ∀ v Hi' H', Sit K C Z Hi' σ H' ρ → Dd K Hi' v d → D'.rt v H') : tRet te D' σ H := h Hi σ H _ S.env fun v H' g hd => k v _ H' (S.grow g) hd
theorem s_retR (h : EvR K C te ρ P) (S : Sit K C Z Hi σ H ρ) (k : ∀ v d Hi' H', P d → Sit K C Z Hi' σ H' ρ → Dd K Hi' v d → D'.rt v H') : tRet te D' σ H := h Hi σ H _ S.env fun v H' d p g hd => k v d _ H' p (S.grow g) hd
theorem q_ret (h : EvP K C te ρ d) (S : Sit K C Z Hi σ H ρ) (k : ∀ v Hi' H', Sit K C Z Hi' σ H' ρ → Dd K Hi' v d → D'.rt v H') : tSeq (tRet te) tz D' σ H := h Hi σ H _ S.env fun v H' g hd => k v _ H' (S.grow g) hd
theorem s_drop (h : EvP K C te ρ d) (S : Sit K C Z Hi σ H ρ) (k : ∀ Hi' H', Sit K C Z Hi' σ H' ρ → D'.nx σ H') : tDrop te D' σ H := h Hi σ H _ S.env fun v H' g hd => k _ H' (S.grow g)
/-! ### lists of ours -/
theorem q_new {i : Nat} (S : Sit K C Z Hi σ H ρ) (hi : i < ρ.length) (k : ∀ σ' Hi' H', Sit K C Z Hi' σ' H' (ρ.set i (.own [])) → tz D' σ' H') : tSeq (tAsg (tLst tNil) (gName i)) tz D' σ H :=
  ⟨Nat.zero_le _, fun p hp => k _ _ _ (S.setO hi hp .nil)⟩
theorem dom_set {α : Type} {ρ : List α} {i : Nat} {x : α} (h : ρ[i]? = some x) : i < ρ.length := (List.getElem?_eq_some_iff.mp h).1
theorem s_app {i : Nat} {ds : List D} (hi : ρ[i]? = some (.own ds)) (h : EvP K C te ρ d) (hz : ds.length < 100000) (S : Sit K C Z Hi σ H ρ) (k : ∀ Hi' H', Sit K C Z Hi' σ H' (ρ.set i (.own (ds ++ [d]))) → D'.nx σ H') :
    tDrop (tBM K "list" rAppend (tVar i) (tCons te tNil)) D' σ H := by
  obtain ⟨a, vs, e1, e2, e3, e4⟩ := S.env.slotO hi
  refine ⟨.ref a, e1, .inl ⟨rfl, vs, SqL.of e2⟩, ?_⟩
  refine h Hi σ H _ S.env fun v H' g hd => ?_
  have S2 := S.grow g
  obtain ⟨a', vs', f1, f2, f3, f4, f5⟩ := S2.mutO (es := ds ++ [d]) hi
  rw [e1] at f1
  cases f1
  exact ⟨a, vs', v, rfl, rfl, f2, Nat.lt_of_lt_of_le (by rw [f3.len]; exact hz) (by decide), k _ _ (f5 _ (f3.app (DdAll.one hd)))⟩
theorem q_app {i : Nat} {ds : List D} (hi : ρ[i]? = some (.own ds)) (h : EvP K C te ρ d) (hz : ds.length < 100000) (S : Sit K C Z Hi σ H ρ) (k : ∀ Hi' H', Sit K C Z Hi' σ H' (ρ.set i (.own (ds ++ [d]))) → tz D' σ H') :
    tSeq (tDrop (tBM K "list" rAppend (tVar i) (tCons te tNil))) tz D' σ H := s_app (D' := { D' with nx := tz D' }) hi h hz S k
theorem dropLast_get {α : Type} (xs : List α) (x : α) : (xs ++ [x])[(xs ++ [x]).length - 1]? = some x := by simp
/-- y = l.pop() -/
theorem s_pop {i j : Nat} {ds : List D} (hi : ρ[i]? = some (.own (ds ++ [d]))) (hj : j < ρ.length) (S : Sit K C Z Hi σ H ρ) (k : ∀ σ' Hi' H', Sit K C Z Hi' σ' H' ((ρ.set i (.own ds)).set j (.dat d)) → D'.nx σ' H') :
    tAsg (tBM0 K "list" rPop (tVar i)) (gName j) D' σ H := by
  obtain ⟨a, vs, f1, f2, f3, f4, f5⟩ := S.mutO (es := ds) hi
  have hlen := f3.len
  have e0 := dropLast_get ds d
  rw [← hlen] at e0
  obtain ⟨v, e1, e2⟩ := f3.get e0
  refine ⟨.ref a, f1, .inl ⟨rfl, vs, SqL.of f2⟩, a, vs, v, rfl, rfl, f2, e1, ?_⟩
  have hd : DdAll K Hi vs.dropLast ds := by
    have q := f3.take (ds.length)
    rw [List.take_left] at q
    have e3 : vs.dropLast = vs.take ds.length := by
      rw [List.dropLast_eq_take, hlen, List.length_append]
      rfl
    rw [e3]
    exact q
  exact k _ _ _ ((f5 _ hd).setD (by rw [List.length_set]; exact hj) e2)
/-- x = [..]: a list of ours -/
theorem q_newLc {α : Type} {wi : TI} {g : TG} {vs : List Nat} {xs : List α} {emb : α → D} {i : Nat} (h : EvI K C wi ρ xs emb) (hz : xs.length < 100000) (hvs : ∀ v ∈ vs, v < ρ.length) (c : α → Bool) (f : α → D) (m : α → List (Nat × D))
    (hm : ∀ a ∈ xs, ∀ p ∈ m a, p.1 ∈ vs) (hg : ∀ a ∈ xs, GtP K g (emb a) (m a)) (ht : ∀ a ∈ xs, EvB K C tt (setS (wipeS ρ vs) (m a)) (c a)) (he : ∀ a ∈ xs, c a = true → EvP K C te (setS (wipeS ρ vs) (m a)) (f a))
    (S : Sit K C Z Hi σ H ρ) (hi : i < ρ.length) (k : ∀ σ' Hi' H', Sit K C Z Hi' σ' H' (ρ.set i (.own ((xs.filter c).map f))) → tz D' σ' H') : tSeq (tAsg (tLc wi g tt te vs) (gName i)) tz D' σ H :=
  lc_any (Q := fun v H' => tz D' (σ.set i (some v)) H') h hz hvs c f m hm hg ht he S.env fun p ws H1 H2 g1 hp hp2 kk kd => by
    have hH : H p = none := Same.free g1 hp
    have g2 : Same H (fun a => if a = p then none else H2 a) := fun a o e => by
      have na : a ≠ p := ne_of_none e hH
      show (if a = p then none else H2 a) = some o
      rw [if_neg na]
      exact kk a o (g1 a o e)
    have S2 := S.grow g2
    have eu : upd (fun a => if a = p then none else H2 a) p (.lst ws) = H2 := by
      funext a
      by_cases na : a = p
      · rw [na, upd_same, hp2]
      · rw [upd_ne na]
        exact if_neg na
    have S3 := S2.setO (i := i) (p := p) (vs := ws) hi (if_pos rfl) (kd _ (by
      funext a
      by_cases na : a = p
      · rw [if_pos na, na, nu_none hH]
        exact if_pos rfl
      · rw [if_neg na]
        by_cases hh : H a = none
        · rw [nu_none hh, nu_none hh]
          exact if_neg na
        · rw [nu_some hh, nu_some hh]))
    rw [eu] at S3
    exact k _ _ _ S3
/-! ### loops -/
/-- what a turn leads to -/
def Nxt (K : PySem.W.Frag) (C : Addr) (Z : Zn) (Pv : List Sl → Prop) : L2.St → Hp → Prop := fun σ H => ∃ Hi ρ, Pv ρ ∧ Sit K C Z Hi σ H ρ
theorem s_for {α : Type} {wi : TI} {g : TG} {xs : List α} {emb : α → D} (h : EvI K C wi ρ xs emb) (S : Sit K C Z Hi σ H ρ) (Pv : Nat → List Sl → Prop) (h0 : ∀ Z' σ' Hi' H', Sit K C Z' Hi' σ' H' ρ → Nxt K C Z' (Pv 0) σ' H') (m : α → List (Nat × D)) (hg : ∀ a ∈ xs, GtP K g (emb a) (m a))
    (hm : ∀ i ρ', Pv i ρ' → ∀ a ∈ xs, ∀ p ∈ m a, p.1 < ρ'.length)
    (turn : ∀ (Z' : Zn), (∀ {Hj σ' H' ρ'}, Sit K C Z' Hj σ' H' ρ' → Sit K C Z Hj σ' H' ρ') → ∀ (i : Nat) (a : α) (ρ' : List Sl), xs[i]? = some a → Pv i ρ' → ∀ Hi' σ' H', Sit K C Z' Hi' σ' H' (setS ρ' (m a)) →
      tu { D' with nx := Nxt K C Z' (Pv (i + 1)), ct := Nxt K C Z' (Pv (i + 1)), bk := D'.nx } σ' H')
    (done : ∀ ρ', Pv xs.length ρ' → ∀ Hi' σ' H', Sit K C Z Hi' σ' H' ρ' → D'.nx σ' H') : tFor wi g tu D' σ H := by
  refine h Hi σ H _ S.env fun J H1 G Y g1 wk hG hY => ?_
  obtain ⟨Z', zh, zi, _, S1, up⟩ := (S.grow g1).rebase
  have zs : Same Z'.Hi Z'.H := by rw [zh, zi]; exact nu_hi S.ex g1
  refine for_it wk (fun i σ' H' => Nxt K C Z' (Pv i) σ' H') (h0 _ _ _ _ S1) ?_ ?_ ?_
  · rintro i σ' H' _ ⟨Hi', ρ', _, T⟩
    refine hG H' (Same.trans (H1 := Hi') ?_ T.ex)
    have := T.know zs
    rw [zi] at this
    exact this
  · rintro i x σ' H2 H3 hi ⟨Hi', ρ', p, T⟩ y
    have ea : xs[i]? = some xs[i] := List.getElem?_eq_getElem hi
    have hmem : xs[i] ∈ xs := List.getElem_mem hi
    have kn := T.know zs
    rw [zi] at kn
    obtain ⟨g3, d3⟩ := hY i xs[i] Hi' H2 x H3 ea kn T.ex y
    have T2 := T.grow g3
    refine hg _ hmem (nu Hi' H2 H3) H3 σ' x _ T2.ex d3 fun l hl => ?_
    exact turn Z' (fun {Hj σ'' H'' ρ''} q => up Hj σ'' H'' ρ'' q) i xs[i] ρ' ea p _ _ _ (T2.sets hl (hm i ρ' p _ hmem))
  · rintro σ' H' ⟨Hi', ρ', p, T⟩
    exact done ρ' p Hi' σ' H' (up _ _ _ _ T)
theorem q_for {α : Type} {wi : TI} {g : TG} {xs : List α} {emb : α → D} (h : EvI K C wi ρ xs emb) (S : Sit K C Z Hi σ H ρ) (Pv : Nat → List Sl → Prop) (h0 : ∀ Z' σ' Hi' H', Sit K C Z' Hi' σ' H' ρ → Nxt K C Z' (Pv 0) σ' H') (m : α → List (Nat × D)) (hg : ∀ a ∈ xs, GtP K g (emb a) (m a))
    (hm : ∀ i ρ', Pv i ρ' → ∀ a ∈ xs, ∀ p ∈ m a, p.1 < ρ'.length)
    (turn : ∀ (Z' : Zn), (∀ {Hj σ' H' ρ'}, Sit K C Z' Hj σ' H' ρ' → Sit K C Z Hj σ' H' ρ') → ∀ (i : Nat) (a : α) (ρ' : List Sl), xs[i]? = some a → Pv i ρ' → ∀ Hi' σ' H', Sit K C Z' Hi' σ' H' (setS ρ' (m a)) →
      tu { D' with nx := Nxt K C Z' (Pv (i + 1)), ct := Nxt K C Z' (Pv (i + 1)), bk := tz D' } σ' H')
    (done : ∀ ρ', Pv xs.length ρ' → ∀ Hi' σ' H', Sit K C Z Hi' σ' H' ρ' → tz D' σ' H') : tSeq (tFor wi g tu) tz D' σ H := s_for (D' := { D' with nx := tz D' }) h S Pv h0 m hg hm turn done
theorem nxt_of {Pv : List Sl → Prop} {ρ' : List Sl} (p : Pv ρ') (S : Sit K C Z Hi σ H ρ') : Nxt K C Z Pv σ H := ⟨Hi, ρ', p, S⟩
theorem Nxt.up {Z' : Zn} {Pv : List Sl → Prop} (n : Nxt K C Z' Pv σ H) (u : ∀ {Hj σ' H' ρ'}, Sit K C Z' Hj σ' H' ρ' → Sit K C Z Hj σ' H' ρ') : Nxt K C Z Pv σ H := let ⟨a, b, c, d⟩ := n; ⟨a, b, c, u d⟩
end

/-! ### a def about data -/
section
variable {P : Program} {w : World} {K : PySem.W.Frag} {mg : Str → Option Value} {base : Heap} {C : Addr}
theorem slots_start {Hi H : Hp} : ∀ {vs : List V} {ds : List D} (n : Nat), DdAll K Hi vs ds → SlsOk K C Hi H (vs.map some ++ List.replicate n none) (ds.map Sl.dat ++ List.replicate n Sl.non) []
  | _, _, 0, .nil => .nil
  | _, _, n + 1, .nil => by
    have q := slots_start (Hi := Hi) (H := H) (vs := []) (ds := []) n .nil
    exact SlsOk.cons (as := []) (.non none) q
  | _, _, n, .cons h t => SlsOk.cons (as := []) (.dat h) (slots_start n t)
theorem Sit.fin {Z : Zn} {Hi H : Hp} {σ : L2.St} {ρ : List Sl} (S : Sit K C Z Hi σ H ρ) (x : Same Z.Hi Z.H) : Same Hi (nu Z.Hi Z.H H) := fun a o e => by
  by_cases h : Z.H a = none
  · rw [nu_none h]
    exact S.ex a o e
  · rw [nu_some h, ← (S.k a h).2]
    exact e
theorem fn_pure {α : Type} {emb : α → List D} {pre : α → Prop} {post : α → D → Prop} {x qual : Str} {params : Arguments} {body : List Stmt} {scope : Scope} {kws : List (Str × V)} {dvs : List V} {f : Addr} {fd : FuncData} {N ps : List Str} {k : Nat}
    (F : FunD K x qual params body scope dvs kws f fd) (S : FnScope N ps scope) (hl : ∀ a, (emb a).length = ps.length)
    (hb : ∀ (cdv : Value) (A : Around) (outer : List PySem.Env) (s : Shared) (H0 : Hp) (E : XK), Room k (A.deeper (envOfC qual scope s.heap.objs.size f cdv)) →
      ∃ t, PSs (cxOf CX0 P w K mg base N qual scope f cdv A outer s H0 E).nox body t ∧ ∀ (a : α) (Z : Zn) (Hi : Hp) (σ : L2.St) (H : Hp) (Q : VK), pre a → Z.M = [] → Sit K C Z Hi σ H ((emb a).map Sl.dat ++ List.replicate (N.length - ps.length) Sl.non) →
        (∀ v d Hi' σ' H' ρ', post a d → Sit K C Z Hi' σ' H' ρ' → Dd K Hi' v d → Q v H') → t { nx := fun _ H' => Q .non H', rt := Q } σ H) :
    FnOk P w K mg base CX0 (k + 1) f fd ps (spR K emb pre post) := by
  refine F.ok S (fun vs H Q E h => ?_) (fun cdv A outer s H vs Q E hr h => ?_)
  · obtain ⟨a, Hi, _, hd, _⟩ := h
    rw [hd.len, hl]
  · obtain ⟨a, Hi, x, hd, hp, q⟩ := h
    obtain ⟨t, ht, hq⟩ := hb cdv A outer s H E hr
    refine ⟨t, ht.nox, ?_⟩
    have hlen : vs.length = ps.length := by rw [hd.len, hl]
    have S0 : Sit K C ⟨[], Hi, H⟩ Hi (L2.start N vs) H ((emb a).map Sl.dat ++ List.replicate (N.length - ps.length) Sl.non) := by
      refine ⟨x, fun a h => ⟨h, rfl⟩, fun a o e _ => e, [], ?_, List.nodup_nil, fun a ha => absurd ha (by simp)⟩
      unfold L2.start
      rw [hlen]
      exact slots_start _ hd
    refine hq a ⟨[], Hi, H⟩ Hi (L2.start N vs) H Q hp rfl S0 fun v d Hi' σ' H' ρ' p T hv => ?_
    exact q v H' d p (fun b o e => T.fr b o e (by simp)) (Dd.mono (T.fin x) _ hv)
/-! ### the folk: methods that change it, that ask it -/
def spO (K : PySem.W.Frag) (C : Addr) {α : Type} (emb : α → List D) (pre : Fo → α → Prop) (post : Fo → α → D → Fo → Prop) : Sp := fun vs H Q _ => ∃ (a : α) (F : Fo) (Hi : Hp) (p l : Addr) (ws : List V), vs = .ref p :: ws ∧ Same Hi H ∧ Hi p = none ∧ Hi l = none ∧ p ≠ l ∧ FolAt K C Hi H p l F ∧ DdAll K Hi ws (emb a) ∧ pre F a ∧
  ∀ v H' d F', post F a d F' → (∀ b o, H b = some o → b ≠ p → b ≠ l → H' b = some o) → FolAt K C (nu Hi H H') H' p l F' → Dd K (nu Hi H H') v d → Q v H'
def spQ (K : PySem.W.Frag) (C : Addr) {α : Type} (emb : α → List D) (pre : Fo → α → Prop) (g : Fo → α → D) : Sp := fun vs H Q _ => ∃ (a : α) (F : Fo) (Hi : Hp) (p l : Addr) (ws : List V), vs = .ref p :: ws ∧ Same Hi H ∧ FolAt K C Hi H p l F ∧ DdAll K Hi ws (emb a) ∧ pre F a ∧
  ∀ v H', Same H H' → Dd K (nu Hi H H') v (g F a) → Q v H'
theorem sit_start {Hi H : Hp} {p l : Addr} {F : Fo} {ws : List V} {ds : List D} {N : List Str} {n : Nat} (x : Same Hi H) (hp : Hi p = none) (hl : Hi l = none) (hne : p ≠ l) (hf : FolAt K C Hi H p l F) (hd : DdAll K Hi ws ds) (hn : ws.length + 1 = n) :
    Sit K C ⟨[p, l], Hi, H⟩ Hi (L2.start N (.ref p :: ws)) H (Sl.fol p l F :: (ds.map Sl.dat ++ List.replicate (N.length - n) Sl.non)) := by
  refine ⟨x, fun a h => ⟨h, rfl⟩, fun a o e _ => e, [p, l] ++ [], ?_, ?_, fun a ha => ?_⟩
  · unfold L2.start
    rw [List.length_cons, hn, List.map_cons, List.cons_append]
    exact .cons (.fol hf) (slots_start _ hd)
  · simp [hne]
  · refine ⟨?_, .inr (by simpa using ha)⟩
    have ha' : a = p ∨ a = l := by simpa using ha
    rcases ha' with e | e
    · rw [e]; exact hp
    · rw [e]; exact hl
theorem fn_fol {α : Type} {emb : α → List D} {pre : Fo → α → Prop} {post : Fo → α → D → Fo → Prop} {x qual : Str} {params : Arguments} {body : List Stmt} {scope : Scope} {kws : List (Str × V)} {dvs : List V} {f : Addr} {fd : FuncData} {N ps : List Str} {k : Nat}
    (F : FunD K x qual params body scope dvs kws f fd) (S : FnScope N ps scope) (hl : ∀ a, (emb a).length + 1 = ps.length)
    (hb : ∀ (cdv : Value) (A : Around) (outer : List PySem.Env) (s : Shared) (H0 : Hp) (E : XK), Room k (A.deeper (envOfC qual scope s.heap.objs.size f cdv)) →
      ∃ t, PSs (cxOf CX0 P w K mg base N qual scope f cdv A outer s H0 E).nox body t ∧ ∀ (a : α) (F : Fo) (p l : Addr) (Z : Zn) (Hi : Hp) (σ : L2.St) (H : Hp) (Q : VK), pre F a → Sit K C Z Hi σ H (Sl.fol p l F :: ((emb a).map Sl.dat ++ List.replicate (N.length - ps.length) Sl.non)) →
        (∀ v d F' Hi' σ' H' ρ', post F a d F' → Sit K C Z Hi' σ' H' (Sl.fol p l F' :: ρ') → Dd K Hi' v d → Q v H') → t { nx := fun _ H' => Q .non H', rt := Q } σ H) :
    FnOk P w K mg base CX0 (k + 1) f fd ps (spO K C emb pre post) := by
  refine F.ok S (fun vs H Q E h => ?_) (fun cdv A outer s H vs Q E hr h => ?_)
  · obtain ⟨a, F, Hi, p, l, ws, rfl, _, _, _, _, _, hd, _⟩ := h
    rw [List.length_cons, hd.len, hl]
  · obtain ⟨a, F, Hi, p, l, ws, rfl, x, hp, hl', hne, hf, hd, hpre, q⟩ := h
    obtain ⟨t, ht, hq⟩ := hb cdv A outer s H E hr
    refine ⟨t, ht.nox, ?_⟩
    have S0 := sit_start (N := N) (n := ps.length) x hp hl' hne hf hd (by rw [hd.len]; exact hl a)
    refine hq a F p l ⟨[p, l], Hi, H⟩ Hi _ H Q hpre S0 fun v d F' Hi' σ' H' ρ' p' T hv => ?_
    obtain ⟨_, f2, _, _, _⟩ := T.env.slotF (i := 0) rfl
    exact q v H' d F' p' (fun b o e n1 n2 => T.fr b o e (by simp [n1, n2])) (FolAt.mono (T.fin x) rfl rfl f2) (Dd.mono (T.fin x) _ hv)
/-- data without lists and dicts -/
def flat : D → Bool
  | .none => true
  | .bool _ => true
  | .int _ => true
  | .str _ => true
  | .tuple xs => flatAll xs
  | .ptup xs => flatAll xs
  | _ => false
where flatAll : List D → Bool
  | [] => true
  | x :: xs => flat x && flatAll xs
def cutF (H Hi : Hp) (p l : Addr) : Hp := fun a => if a = p ∨ a = l then H a else Hi a
section
variable {Hi H H' : Hp} {p l : Addr}
theorem seqT_back {a : Addr} {xs : List V} (hp : ∀ ys, H p ≠ some (.tup ys)) (hl : ∀ ys, H l ≠ some (.tup ys)) (hp2 : ∀ o ys, H p ≠ some (.frz o (.tup ys))) (hl2 : ∀ o ys, H l ≠ some (.frz o (.tup ys))) (hpn : H p ≠ none) (hln : H l ≠ none)
    (h : SqT K (nu (cutF H Hi p l) H H') a xs) : SqT K (nu Hi H H') a xs := by
  have key : ∀ u, (nu (cutF H Hi p l) H H') a = some u → (u = .tup xs ∨ ∃ o, u = .frz o (.tup xs)) → (nu Hi H H') a = some u := fun u e hu => by
    by_cases hh : H a = none
    · rw [nu_none hh] at e ⊢
      exact e
    · rw [nu_some hh] at e ⊢
      have e' : (if a = p ∨ a = l then H a else Hi a) = some u := e
      by_cases q : a = p ∨ a = l
      · rw [if_pos q] at e'
        rcases q with q | q
        · rw [q] at e'
          rcases hu with rfl | ⟨o, rfl⟩
          · exact absurd e' (hp _)
          · exact absurd e' (hp2 _ _)
        · rw [q] at e'
          rcases hu with rfl | ⟨o, rfl⟩
          · exact absurd e' (hl _)
          · exact absurd e' (hl2 _ _)
      · rw [if_neg q] at e'
        exact e'
  rcases h with (h | ⟨o, h⟩) | h
  · exact .inl (.inl (key _ h (.inl rfl)))
  · exact .inl (.inr ⟨o, key _ h (.inr ⟨o, rfl⟩)⟩)
  · exact .inr h
mutual
theorem dd_back (hp : ∀ ys, H p ≠ some (.tup ys)) (hl : ∀ ys, H l ≠ some (.tup ys)) (hp2 : ∀ o ys, H p ≠ some (.frz o (.tup ys))) (hl2 : ∀ o ys, H l ≠ some (.frz o (.tup ys))) (hpn : H p ≠ none) (hln : H l ≠ none) :
    ∀ (d : D) {v : V}, flat d = true → Dd K (nu (cutF H Hi p l) H H') v d → Dd K (nu Hi H H') v d
  | .none, _, _, h => by cases h; exact .non
  | .bool b, _, _, h => by cases h; exact .bl b
  | .int i, _, _, h => by cases h; exact .int i
  | .str x, _, _, h => by cases h; exact .str x
  | .list ds, _, f, _ => by simp [flat] at f
  | .dct ds, _, f, _ => by simp [flat] at f
  | .scr ds, _, f, _ => by simp [flat] at f
  | .tuple ds, _, f, h => by
    cases h with
    | tup hs ha => exact .tup (seqT_back hp hl hp2 hl2 hpn hln hs) (ddAll_back hp hl hp2 hl2 hpn hln ds (by simpa only [flat] using f) ha)
  | .ptup ds, _, f, h => by
    cases h with
    | ptup hs hb ha =>
      rename_i a o xs
      refine .ptup ?_ hb (ddAll_back hp hl hp2 hl2 hpn hln ds (by simpa only [flat] using f) ha)
      by_cases hh : H a = none
      · rw [nu_none hh] at hs ⊢
        exact hs
      · rw [nu_some hh] at hs ⊢
        have e' : (if a = p ∨ a = l then H a else Hi a) = some (.frz o (.tup xs)) := hs
        by_cases q : a = p ∨ a = l
        · rw [if_pos q] at e'
          rcases q with q | q
          · rw [q] at e'
            exact absurd e' (hp2 _ _)
          · rw [q] at e'
            exact absurd e' (hl2 _ _)
        · rw [if_neg q] at e'
          exact e'
theorem ddAll_back (hp : ∀ ys, H p ≠ some (.tup ys)) (hl : ∀ ys, H l ≠ some (.tup ys)) (hp2 : ∀ o ys, H p ≠ some (.frz o (.tup ys))) (hl2 : ∀ o ys, H l ≠ some (.frz o (.tup ys))) (hpn : H p ≠ none) (hln : H l ≠ none) :
    ∀ (ds : List D) {vs : List V}, flat.flatAll ds = true → DdAll K (nu (cutF H Hi p l) H H') vs ds → DdAll K (nu Hi H H') vs ds
  | [], _, _, h => by cases h; exact .nil
  | d :: ds, _, f, h => by
    cases h with
    | cons h1 h2 =>
      simp only [flat.flatAll, Bool.and_eq_true] at f
      exact .cons (dd_back hp hl hp2 hl2 hpn hln d f.1 h1) (ddAll_back hp hl hp2 hl2 hpn hln ds f.2 h2)
end
end
theorem fn_ask {α : Type} {emb : α → List D} {pre : Fo → α → Prop} {g : Fo → α → D} {x qual : Str} {params : Arguments} {body : List Stmt} {scope : Scope} {kws : List (Str × V)} {dvs : List V} {f : Addr} {fd : FuncData} {N ps : List Str} {k : Nat}
    (F : FunD K x qual params body scope dvs kws f fd) (S : FnScope N ps scope) (hl : ∀ a, (emb a).length + 1 = ps.length) (hfl : ∀ F a, pre F a → flat (g F a) = true)
    (hb : ∀ (cdv : Value) (A : Around) (outer : List PySem.Env) (s : Shared) (H0 : Hp) (E : XK), Room k (A.deeper (envOfC qual scope s.heap.objs.size f cdv)) →
      ∃ t, PSs (cxOf CX0 P w K mg base N qual scope f cdv A outer s H0 E).nox body t ∧ ∀ (a : α) (F : Fo) (Z : Zn) (Hi : Hp) (σ : L2.St) (H : Hp) (Q : VK), pre F a → Z.M = [] → Sit K C Z Hi σ H (Sl.fro F :: ((emb a).map Sl.dat ++ List.replicate (N.length - ps.length) Sl.non)) →
        (∀ v Hi' σ' H' ρ', Sit K C Z Hi' σ' H' ρ' → Dd K Hi' v (g F a) → Q v H') → t { nx := fun _ H' => Q .non H', rt := Q } σ H) :
    FnOk P w K mg base CX0 (k + 1) f fd ps (spQ K C emb pre g) := by
  refine F.ok S (fun vs H Q E h => ?_) (fun cdv A outer s H vs Q E hr h => ?_)
  · obtain ⟨a, F, Hi, p, l, ws, rfl, _, _, hd, _⟩ := h
    rw [List.length_cons, hd.len, hl]
  · obtain ⟨a, F, Hi, p, l, ws, rfl, x, hf, hd, hpre, q⟩ := h
    obtain ⟨t, ht, hq⟩ := hb cdv A outer s H E hr
    refine ⟨t, ht.nox, ?_⟩
    have x1 : Same Hi (cutF H Hi p l) := fun b o e => by
      show (if b = p ∨ b = l then H b else Hi b) = some o
      by_cases z : b = p ∨ b = l
      · rw [if_pos z]
        exact x b o e
      · rw [if_neg z]
        exact e
    have x2 : Same (cutF H Hi p l) H := fun b o e => by
      have e' : (if b = p ∨ b = l then H b else Hi b) = some o := e
      by_cases z : b = p ∨ b = l
      · rw [if_pos z] at e'
        exact e'
      · rw [if_neg z] at e'
        exact x b o e'
    have hf1 : FolAt K C (cutF H Hi p l) (cutF H Hi p l) p l F := FolAt.mono x1 (by show (if p = p ∨ p = l then H p else Hi p) = H p; rw [if_pos (.inl rfl)]) (by show (if l = p ∨ l = l then H l else Hi l) = H l; rw [if_pos (.inr rfl)]) hf
    obtain ⟨dx, v1, v2, v3, v4, v5, ls, f0, _, _, _, _, _, f6, _⟩ := hf
    have S0 : Sit K C ⟨[], cutF H Hi p l, H⟩ (cutF H Hi p l) (L2.start N (.ref p :: ws)) H (Sl.fro F :: ((emb a).map Sl.dat ++ List.replicate (N.length - ps.length) Sl.non)) := by
      refine ⟨x2, fun a h => ⟨h, rfl⟩, fun a o e _ => e, [] ++ [], ?_, List.nodup_nil, fun a ha => absurd ha (by simp)⟩
      unfold L2.start
      have hn : (V.ref p :: ws).length = ps.length := by rw [List.length_cons, hd.len, hl]
      rw [hn, List.map_cons, List.cons_append]
      exact .cons (.fro hf1) (slots_start _ (DdAll.mono x1 _ hd))
    refine hq a F ⟨[], cutF H Hi p l, H⟩ _ _ H Q hpre rfl S0 fun v Hi' σ' H' ρ' T hv => ?_
    refine q v H' (fun b o e => T.fr b o e (by simp)) ?_
    exact dd_back (by rw [f0]; exact fun _ z => nomatch z) (by rw [f6]; exact fun _ z => nomatch z) (by rw [f0]; exact fun _ _ z => nomatch z) (by rw [f6]; exact fun _ _ z => nomatch z) (by rw [f0]; exact fun z => nomatch z) (by rw [f6]; exact fun z => nomatch z) _ (hfl F a hpre) (Dd.mono (T.fin x2) _ hv)
end
/-! ### asking and changing a folk -/
section
variable {K : PySem.W.Frag} {C : Addr} {Z : Zn} {Hi H : Hp} {σ : L2.St} {ρ : List Sl} {te : TE} {ta : TA} {d : D} {D' : Ends} {tz : TS}
theorem flds_no {v1 v2 v3 v4 v5 : V} {l : Addr} {m : Str} (h : (["rules", "standing", "reasons", "barred", "struck", "ahead"] : List Str).all (fun x : Str => !decide (m = x)) = true) : (flds v1 v2 v3 v4 v5 l).lookup m = none := by
  have hh : ∀ x ∈ (["rules", "standing", "reasons", "barred", "struck", "ahead"] : List Str), ¬ m = x := fun x hx => by
    have := List.all_eq_true.mp h x hx
    simpa using this
  unfold flds
  have n1 := hh "rules" (by simp)
  have n2 := hh "standing" (by simp)
  have n3 := hh "reasons" (by simp)
  have n4 := hh "barred" (by simp)
  have n5 := hh "struck" (by simp)
  have n6 := hh "ahead" (by simp)
  simp only [List.lookup_cons, beq_eq_false_iff_ne.mpr n1, beq_eq_false_iff_ne.mpr n2, beq_eq_false_iff_ne.mpr n3, beq_eq_false_iff_ne.mpr n4, beq_eq_false_iff_ne.mpr n5, beq_eq_false_iff_ne.mpr n6, List.lookup_nil]
/-- what may be changed: an expression that changes it -/
def EvM (K : PySem.W.Frag) (C : Addr) (te : TE) (ρ : List Sl) (P : D → List Sl → Prop) : Prop := ∀ (Z : Zn) (Hi : Hp) (σ : L2.St) (H : Hp) (Q : VK), Sit K C Z Hi σ H ρ → (∀ v Hi' H' d ρ', P d ρ' → Sit K C Z Hi' σ H' ρ' → Dd K Hi' v d → Q v H') → te σ H Q
theorem EvM.mono {P P' : D → List Sl → Prop} (h : EvM K C te ρ P) (i : ∀ d r, P d r → P' d r) : EvM K C te ρ P' := fun Z Hi σ H Q S q => h Z Hi σ H Q S fun v Hi' H' d r p => q v Hi' H' d r (i d r p)
theorem EvP.toM (h : EvP K C te ρ d) : EvM K C te ρ (fun d' ρ' => d' = d ∧ ρ' = ρ) := fun Z Hi σ H Q S q => h Hi σ H _ S.env fun v H' g hd => q v _ H' d ρ ⟨rfl, rfl⟩ (S.grow g) hd
theorem em_meth {α : Type} {emb : α → List D} {pre : Fo → α → Prop} {post : Fo → α → D → Fo → Prop} {m : Str} {E : XK} {i : Nat} {p l : Addr} {F : Fo} (a : α) (hi : ρ[i]? = some (.fol p l F)) (h : EvA K C ta ρ (emb a)) (hp : pre F a)
    (hm : (["rules", "standing", "reasons", "barred", "struck", "ahead"] : List Str).all (fun x : Str => !decide (m = x)) = true := by decide +kernel) :
    EvM K C (tMeth C m (spO K C emb pre post) [] E (tVar i) ta) ρ (fun d ρ' => ∃ F', post F a d F' ∧ ρ' = ρ.set i (.fol p l F')) := fun Z Hi σ H Q S q => by
  obtain ⟨e1, ⟨dx, v1, v2, v3, v4, v5, ls, f0, fr⟩, _, _, _⟩ := S.env.slotF hi
  refine ⟨.ref p, e1, p, dx, _, rfl, f0, flds_no hm, ?_⟩
  refine h Hi σ H _ S.env fun vs H1 g1 d1 => ?_
  have S1 := S.grow g1
  obtain ⟨e2, f2, n1, n2, n3⟩ := S1.env.slotF hi
  show spO K C emb pre post (.ref p :: (vs ++ [])) H1 Q E
  rw [List.append_nil]
  refine ⟨a, F, nu Hi H H1, p, l, vs, rfl, S1.ex, n1, n2, n3, f2, d1, hp, fun v H2 d F' po fr2 hf hd => ?_⟩
  exact q v _ H2 d _ ⟨F', po, rfl⟩ (S1.mutF hi fr2 hf) hd
theorem em_call {α : Type} {emb : α → List D} {pre : Fo → α → Prop} {post : Fo → α → D → Fo → Prop} {E : XK} {i : Nat} {p l : Addr} {F : Fo} (a : α) (hi : ρ[i]? = some (.fol p l F)) (h : EvA K C ta ρ (emb a)) (hp : pre F a) :
    EvM K C (tCall (spO K C emb pre post) [] E (tCons (tVar i) ta)) ρ (fun d ρ' => ∃ F', post F a d F' ∧ ρ' = ρ.set i (.fol p l F')) := fun Z Hi σ H Q S q => by
  obtain ⟨e1, _, _, _, _⟩ := S.env.slotF hi
  refine ⟨.ref p, e1, ?_⟩
  refine h Hi σ H _ S.env fun vs H1 g1 d1 => ?_
  have S1 := S.grow g1
  obtain ⟨e2, f2, n1, n2, n3⟩ := S1.env.slotF hi
  show spO K C emb pre post ((.ref p :: vs) ++ []) H1 Q E
  rw [List.append_nil]
  refine ⟨a, F, nu Hi H H1, p, l, vs, rfl, S1.ex, n1, n2, n3, f2, d1, hp, fun v H2 d F' po fr2 hf hd => ?_⟩
  exact q v _ H2 d _ ⟨F', po, rfl⟩ (S1.mutF hi fr2 hf) hd
theorem cut_self {H Hi : Hp} {p l : Addr} (n1 : Hi p = none) (n2 : Hi l = none) : True := trivial
theorem ev_askF {α : Type} {emb : α → List D} {pre : Fo → α → Prop} {g : Fo → α → D} {m : Str} {E : XK} {i : Nat} {p l : Addr} {F : Fo} (a : α) (hi : ρ[i]? = some (.fol p l F)) (h : EvA K C ta ρ (emb a)) (hp : pre F a)
    (hm : (["rules", "standing", "reasons", "barred", "struck", "ahead"] : List Str).all (fun x : Str => !decide (m = x)) = true := by decide +kernel) :
    EvP K C (tMeth C m (spQ K C emb pre g) [] E (tVar i) ta) ρ (g F a) := fun Hi σ H Q S q => by
  obtain ⟨e1, ⟨dx, v1, v2, v3, v4, v5, ls, f0, fr⟩, _, _, _⟩ := S.slotF hi
  refine ⟨.ref p, e1, p, dx, _, rfl, f0, flds_no hm, ?_⟩
  refine h Hi σ H _ S fun vs H1 g1 d1 => ?_
  have S1 := S.grow g1
  obtain ⟨e2, f2, n1, n2, n3⟩ := S1.slotF hi
  show spQ K C emb pre g (.ref p :: (vs ++ [])) H1 Q E
  rw [List.append_nil]
  refine ⟨a, F, nu Hi H H1, p, l, vs, rfl, S1.ex, f2, d1, hp, fun v H2 g2 hd => ?_⟩
  exact q v H2 (g1.trans g2) (by rw [nu_nu S.ex g1 g2] at hd; exact hd)
/-! ### fields -/
theorem fld_rules {v1 v2 v3 v4 v5 : V} {l : Addr} : (flds v1 v2 v3 v4 v5 l).lookup ("rules" : Str) = some v1 := by unfold flds; rw [List.lookup_cons]; simp
theorem fld_standing {v1 v2 v3 v4 v5 : V} {l : Addr} : (flds v1 v2 v3 v4 v5 l).lookup ("standing" : Str) = some v2 := by
  unfold flds
  rw [List.lookup_cons, show (("standing" : Str) == "rules") = false by decide +kernel, List.lookup_cons]
  simp
theorem fld_reasons {v1 v2 v3 v4 v5 : V} {l : Addr} : (flds v1 v2 v3 v4 v5 l).lookup ("reasons" : Str) = some v3 := by
  unfold flds
  rw [List.lookup_cons, show (("reasons" : Str) == "rules") = false by decide +kernel, List.lookup_cons, show (("reasons" : Str) == "standing") = false by decide +kernel, List.lookup_cons]
  simp
theorem fld_barred {v1 v2 v3 v4 v5 : V} {l : Addr} : (flds v1 v2 v3 v4 v5 l).lookup ("barred" : Str) = some v4 := by
  unfold flds
  rw [List.lookup_cons, show (("barred" : Str) == "rules") = false by decide +kernel, List.lookup_cons, show (("barred" : Str) == "standing") = false by decide +kernel, List.lookup_cons, show (("barred" : Str) == "reasons") = false by decide +kernel, List.lookup_cons]
  simp
theorem fld_struck {v1 v2 v3 v4 v5 : V} {l : Addr} : (flds v1 v2 v3 v4 v5 l).lookup ("struck" : Str) = some v5 := by
  unfold flds
  rw [List.lookup_cons, show (("struck" : Str) == "rules") = false by decide +kernel, List.lookup_cons, show (("struck" : Str) == "standing") = false by decide +kernel, List.lookup_cons, show (("struck" : Str) == "reasons") = false by decide +kernel, List.lookup_cons, show (("struck" : Str) == "barred") = false by decide +kernel, List.lookup_cons]
  simp
theorem fld_ahead {v1 v2 v3 v4 v5 : V} {l : Addr} : (flds v1 v2 v3 v4 v5 l).lookup ("ahead" : Str) = some (.ref l) := by
  unfold flds
  rw [List.lookup_cons, show (("ahead" : Str) == "rules") = false by decide +kernel, List.lookup_cons, show (("ahead" : Str) == "standing") = false by decide +kernel, List.lookup_cons, show (("ahead" : Str) == "reasons") = false by decide +kernel, List.lookup_cons, show (("ahead" : Str) == "barred") = false by decide +kernel, List.lookup_cons, show (("ahead" : Str) == "struck") = false by decide +kernel, List.lookup_cons]
  simp
/-- the data of a field -/
inductive FldD (F : Fo) : Str → D → Prop
  | rules : FldD F "rules" (rulesD F.rules)
  | standing : FldD F "standing" (rowsD F.cur.rows)
  | reasons : FldD F "reasons" (rsnsD F.cur.told)
  | barred : FldD F "barred" (brsD F.cur.bars)
  | struck : FldD F "struck" (rsnsD F.cur.struck)
theorem fld_at {Hk Hh : Hp} {p l : Addr} {F : Fo} {f : Str} {d : D} (h : FolAt K C Hk Hh p l F) (e : FldD F f d) : ∃ dx fs v, Hh p = some (.ins C dx fs) ∧ fs.lookup f = some v ∧ Dd K Hk v d := by
  obtain ⟨dx, v1, v2, v3, v4, v5, ls, f0, f1, f2, f3, f4, f5, f6, f7⟩ := h
  cases e with
  | rules => exact ⟨dx, _, v1, f0, fld_rules, f1⟩
  | standing => exact ⟨dx, _, v2, f0, fld_standing, f2⟩
  | reasons => exact ⟨dx, _, v3, f0, fld_reasons, f3⟩
  | barred => exact ⟨dx, _, v4, f0, fld_barred, f4⟩
  | struck => exact ⟨dx, _, v5, f0, fld_struck, f5⟩
theorem ev_fldF {i : Nat} {p l : Addr} {F : Fo} {f : Str} (hi : ρ[i]? = some (.fol p l F)) (e : FldD F f d) (c : Cls K C) (n : NoAttr K C f) : EvP K C (tFld K (tVar i) f) ρ d := fun Hi σ H Q S q => by
  obtain ⟨e1, f2, _, _, _⟩ := S.slotF hi
  obtain ⟨dx, fs, v, g0, g1, g2⟩ := fld_at f2 e
  exact ⟨.ref p, e1, p, C, dx, fs, v, rfl, g0, c, n, g1, q v H (Same.refl H) (by rw [nu_refl S.ex]; exact g2)⟩
theorem ev_fldR {i : Nat} {F : Fo} {f : Str} (hi : ρ[i]? = some (.fro F)) (e : FldD F f d) (c : Cls K C) (n : NoAttr K C f) : EvP K C (tFld K (tVar i) f) ρ d := fun Hi σ H Q S q => by
  obtain ⟨p, l, e1, f2⟩ := S.slotR hi
  obtain ⟨dx, fs, v, g0, g1, g2⟩ := fld_at f2 e
  exact ⟨.ref p, e1, p, C, dx, fs, v, rfl, S.ex _ _ g0, c, n, g1, q v H (Same.refl H) (by rw [nu_refl S.ex]; exact g2)⟩
/-- asked of oneself, being only asked -/
theorem ev_askR {α : Type} {emb : α → List D} {pre : Fo → α → Prop} {g : Fo → α → D} {m : Str} {E : XK} {i : Nat} {F : Fo} (a : α) (hi : ρ[i]? = some (.fro F)) (h : EvA K C ta ρ (emb a)) (hp : pre F a)
    (hm : (["rules", "standing", "reasons", "barred", "struck", "ahead"] : List Str).all (fun x : Str => !decide (m = x)) = true := by decide +kernel) :
    EvP K C (tMeth C m (spQ K C emb pre g) [] E (tVar i) ta) ρ (g F a) := fun Hi σ H Q S q => by
  obtain ⟨p, l, e1, f2⟩ := S.slotR hi
  have f2' := f2
  obtain ⟨dx, v1, v2, v3, v4, v5, ls, f0, _, _, _, _, _, f6, _⟩ := f2'
  refine ⟨.ref p, e1, p, dx, _, rfl, S.ex _ _ f0, flds_no hm, ?_⟩
  refine h Hi σ H _ S fun vs H1 g1 d1 => ?_
  have S1 := S.grow g1
  show spQ K C emb pre g (.ref p :: (vs ++ [])) H1 Q E
  rw [List.append_nil]
  refine ⟨a, F, nu Hi H H1, p, l, vs, rfl, S1.ex, FolAt.mono (nu_lo S.ex) (by rw [f0, g1 _ _ (S.ex _ _ f0)]) (by rw [f6, g1 _ _ (S.ex _ _ f6)]) f2, d1, hp, fun v H2 g2 hd => ?_⟩
  exact q v H2 (g1.trans g2) (by rw [nu_nu S.ex g1 g2] at hd; exact hd)
end
end FK


set_option Elab.async false
set_option linter.all false
set_option maxRecDepth 100000
set_option maxHeartbeats 4000000
/-! The facts a walk takes, bundled. -/
namespace FK
open PySem PySem.Spec PyProof.Rows L2 FR
structure Gd (K : PySem.W.Frag) (mg : PySem.Str → Option Value) (x : PySem.Str) (st : Stmt) (ps : List PySem.Str) where
  f : Addr
  fd : FuncData
  F : FunD K x x (defArgs st) (defBody st) (defScope st) [] [] f fd
  g : mg x = some (.ref f)
  b : Binds K fd ps []
structure Md (K : PySem.W.Frag) (C : Addr) (m qual : PySem.Str) (st : Stmt) (ps : List PySem.Str) where
  f : Addr
  fd : FuncData
  F : FunD K m qual (defArgs st) (defBody st) (defScope st) [] [] f fd
  m : Meth K C m f
  b : Binds K fd ps []
structure Tx (K : PySem.W.Frag) (mg : PySem.Str → Option Value) where
  is_name : Gd K mg ("is_name" : PySem.Str) s_is_name [("thing" : PySem.Str)]
  word_of : Gd K mg ("word_of" : PySem.Str) s_word_of [("row" : PySem.Str), ("field" : PySem.Str)]
  names_of : Gd K mg ("names_of" : PySem.Str) s_names_of [("book" : PySem.Str)]
  book_without : Gd K mg ("book_without" : PySem.Str) s_book_without [("book" : PySem.Str), ("name" : PySem.Str)]
  is_number : Gd K mg ("is_number" : PySem.Str) s_is_number [("thing" : PySem.Str), ("least" : PySem.Str), ("most" : PySem.Str)]
  one_word : Gd K mg ("one_word" : PySem.Str) s_one_word [("row" : PySem.Str), ("other" : PySem.Str), ("field" : PySem.Str)]
  tells : Gd K mg ("tells" : PySem.Str) s_tells [("rule" : PySem.Str), ("row" : PySem.Str), ("other" : PySem.Str)]
  are_two_names : Gd K mg ("are_two_names" : PySem.Str) s_are_two_names [("one" : PySem.Str), ("other" : PySem.Str)]
  is_counted : Gd K mg ("is_counted" : PySem.Str) s_is_counted [("thing" : PySem.Str)]
  is_reason : Gd K mg ("is_reason" : PySem.Str) s_is_reason [("thing" : PySem.Str)]
  in_order : Gd K mg ("in_order" : PySem.Str) s_in_order [("reasons" : PySem.Str)]
  ground_of : Gd K mg ("ground_of" : PySem.Str) s_ground_of [("book" : PySem.Str), ("rules" : PySem.Str)]
  law_cell : Gd K mg ("_law_cell" : PySem.Str) s_law_cell [("_law_script" : PySem.Str), ("_law_k" : PySem.Str)]
  law_numbers : Gd K mg ("_law_numbers" : PySem.Str) s_law_numbers [("_law_cell_here" : PySem.Str), ("_law_many" : PySem.Str)]
  law_names : Gd K mg ("_law_names" : PySem.Str) s_law_names [("_law_xs" : PySem.Str), ("_law_many" : PySem.Str)]
  law_word : Gd K mg ("_law_word" : PySem.Str) s_law_word [("_law_x" : PySem.Str)]
  law_row : Gd K mg ("_law_row" : PySem.Str) s_law_row [("_law_name" : PySem.Str), ("_law_xs" : PySem.Str)]
  law_rules : Gd K mg ("_law_rules" : PySem.Str) s_law_rules [("_law_xs" : PySem.Str)]
  law_one_word : Gd K mg ("_law_one_word" : PySem.Str) s_law_one_word [("_law_row_here" : PySem.Str), ("_law_other" : PySem.Str), ("_law_field" : PySem.Str)]
  law_tells : Gd K mg ("_law_tells" : PySem.Str) s_law_tells [("_law_rule" : PySem.Str), ("_law_row_here" : PySem.Str), ("_law_other" : PySem.Str)]
  law_ground_due : Gd K mg ("_law_ground_due" : PySem.Str) s_law_ground_due [("_law_rules_here" : PySem.Str), ("_law_state" : PySem.Str)]
  law_two : Gd K mg ("_law_two" : PySem.Str) s_law_two [("_law_names_here" : PySem.Str), ("_law_x" : PySem.Str)]
  law_reason : Gd K mg ("_law_reason" : PySem.Str) s_law_reason [("_law_a" : PySem.Str), ("_law_b" : PySem.Str), ("_law_weight" : PySem.Str), ("_law_k" : PySem.Str)]
  law_struck : Gd K mg ("_law_struck" : PySem.Str) s_law_struck [("_law_rules_here" : PySem.Str), ("_law_state" : PySem.Str), ("_law_names_here" : PySem.Str), ("_law_xs" : PySem.Str)]
  law_deed : Gd K mg ("_law_deed" : PySem.Str) s_law_deed [("_law_rules_here" : PySem.Str), ("_law_state" : PySem.Str), ("_law_names_here" : PySem.Str), ("_law_xs" : PySem.Str), ("_law_many" : PySem.Str)]
  law_without : Gd K mg ("_law_without" : PySem.Str) s_law_without [("_law_things" : PySem.Str), ("_law_thing" : PySem.Str)]
  law_behind : Gd K mg ("_law_behind" : PySem.Str) s_law_behind [("_law_state" : PySem.Str), ("_law_deed_here" : PySem.Str)]
  law_deeds : Gd K mg ("_law_deeds" : PySem.Str) s_law_deeds [("_law_script" : PySem.Str)]
  law_do : Gd K mg ("_law_do" : PySem.Str) s_law_do [("_law_folk" : PySem.Str), ("_law_deed_here" : PySem.Str)]
  law_order : Gd K mg ("_law_order" : PySem.Str) s_law_order [("_law_xs" : PySem.Str), ("_law_many" : PySem.Str)]
  law_wanted : Gd K mg ("_law_wanted" : PySem.Str) s_law_wanted [("_law_state" : PySem.Str)]
  law_detour : Gd K mg ("_law_detour" : PySem.Str) s_law_detour [("_law_folk" : PySem.Str), ("_law_state" : PySem.Str), ("_law_names_here" : PySem.Str), ("_law_xs" : PySem.Str)]
  law_without_rows : Gd K mg ("_law_without_rows" : PySem.Str) s_law_without_rows [("_law_rules_here" : PySem.Str), ("_law_state" : PySem.Str), ("_law_gone" : PySem.Str)]
  law : Gd K mg ("law" : PySem.Str) s_law [("_law_script" : PySem.Str)]
  C : Addr
  cl : Cls K C
  gC : mg ("Folk" : PySem.Str) = some (.ref C)
  F_init : Md K C ("__init__" : PySem.Str) ("Folk.__init__" : PySem.Str) sF_init [("self" : PySem.Str), ("rules" : PySem.Str)]
  F_keep : Md K C ("keep" : PySem.Str) ("Folk.keep" : PySem.Str) sF_keep [("self" : PySem.Str)]
  F_stands : Md K C ("stands" : PySem.Str) ("Folk.stands" : PySem.Str) sF_stands [("self" : PySem.Str), ("name" : PySem.Str)]
  F_put : Md K C ("put" : PySem.Str) ("Folk.put" : PySem.Str) sF_put [("self" : PySem.Str), ("row" : PySem.Str)]
  F_drop : Md K C ("drop" : PySem.Str) ("Folk.drop" : PySem.Str) sF_drop [("self" : PySem.Str), ("name" : PySem.Str)]
  F_two : Md K C ("two" : PySem.Str) ("Folk.two" : PySem.Str) sF_two [("self" : PySem.Str), ("one" : PySem.Str), ("other" : PySem.Str)]
  F_told_reason : Md K C ("told_reason" : PySem.Str) ("Folk.told_reason" : PySem.Str) sF_told_reason [("self" : PySem.Str), ("one" : PySem.Str), ("other" : PySem.Str), ("weight" : PySem.Str)]
  F_tell : Md K C ("tell" : PySem.Str) ("Folk.tell" : PySem.Str) sF_tell [("self" : PySem.Str), ("one" : PySem.Str), ("other" : PySem.Str), ("weight" : PySem.Str)]
  F_untell : Md K C ("untell" : PySem.Str) ("Folk.untell" : PySem.Str) sF_untell [("self" : PySem.Str), ("one" : PySem.Str), ("other" : PySem.Str), ("weight" : PySem.Str)]
  F_bar : Md K C ("bar" : PySem.Str) ("Folk.bar" : PySem.Str) sF_bar [("self" : PySem.Str), ("one" : PySem.Str), ("other" : PySem.Str)]
  F_unbar : Md K C ("unbar" : PySem.Str) ("Folk.unbar" : PySem.Str) sF_unbar [("self" : PySem.Str), ("one" : PySem.Str), ("other" : PySem.Str)]
  F_strike : Md K C ("strike" : PySem.Str) ("Folk.strike" : PySem.Str) sF_strike [("self" : PySem.Str), ("reason" : PySem.Str)]
  F_unstrike : Md K C ("unstrike" : PySem.Str) ("Folk.unstrike" : PySem.Str) sF_unstrike [("self" : PySem.Str), ("reason" : PySem.Str)]
  F_undo : Md K C ("undo" : PySem.Str) ("Folk.undo" : PySem.Str) sF_undo [("self" : PySem.Str)]
  F_book : Md K C ("book" : PySem.Str) ("Folk.book" : PySem.Str) sF_book [("self" : PySem.Str)]
  F_ground : Md K C ("ground" : PySem.Str) ("Folk.ground" : PySem.Str) sF_ground [("self" : PySem.Str)]
  mkr : Mk K C F_init.f
  n_rules : NoAttr K C ("rules" : PySem.Str)
  n_standing : NoAttr K C ("standing" : PySem.Str)
  n_reasons : NoAttr K C ("reasons" : PySem.Str)
  n_barred : NoAttr K C ("barred" : PySem.Str)
  n_struck : NoAttr K C ("struck" : PySem.Str)
  n_ahead : NoAttr K C ("ahead" : PySem.Str)
  b_isinstance : mg ("isinstance" : PySem.Str) = none
  b_str : mg ("str" : PySem.Str) = none
  b_int : mg ("int" : PySem.Str) = none
  b_bool : mg ("bool" : PySem.Str) = none
  b_tuple : mg ("tuple" : PySem.Str) = none
  b_list : mg ("list" : PySem.Str) = none
  b_dict : mg ("dict" : PySem.Str) = none
  b_len : mg ("len" : PySem.Str) = none
  b_all : mg ("all" : PySem.Str) = none
  b_any : mg ("any" : PySem.Str) = none
  b_sorted : mg ("sorted" : PySem.Str) = none
  b_min : mg ("min" : PySem.Str) = none
  b_max : mg ("max" : PySem.Str) = none
  b_enumerate : mg ("enumerate" : PySem.Str) = none
  b_range : mg ("range" : PySem.Str) = none
  b_abs : mg ("abs" : PySem.Str) = none
  c_SMALL : ∃ u, mg ("SMALL" : PySem.Str) = some u ∧ RelV (.str ("abcdefghijklmnopqrstuvwxyz" : PySem.Str)) u
  c_MOST_LETTERS : ∃ u, mg ("MOST_LETTERS" : PySem.Str) = some u ∧ RelV (.int 8) u
  c_MOST_WEIGHT : ∃ u, mg ("MOST_WEIGHT" : PySem.Str) = some u ∧ RelV (.int 1000) u
  c_TOLD : ∃ u, mg ("TOLD" : PySem.Str) = some u ∧ RelV (.int 100) u
abbrev rJoinU (K : PySem.W.Frag) : V → List V → Hp → VK → Prop := fun x xs H Q => ∃ a p, ∃ ys : List PySem.Str, x = .str a ∧ xs = [.ref p] ∧ (SqL K H p (ys.map V.str) ∨ SqT K H p (ys.map V.str)) ∧
      (ys.map (·.length)).sum + ys.length * a.length ≤ 16777216 ∧ Q (.str (Txt.join a ys)) H
section
variable {X : Cx}
theorem pe_gc {x : PySem.Str} {v : V} {pos : Pos} (hg : Gl X x) (h : ∃ u, X.mg x = some u ∧ RelV v u) (hd : (x == ("__debug__" : PySem.Str)) = false := by decide) : PE X (.Name x pos) (tC v) := let ⟨_, h1, h2⟩ := h; pe_glob hg h1 h2 hd
theorem cAny (hc : X.calm = true) : CallR X (.builtin "any") (rAny X.K) := cr_any hc
theorem cAll (hc : X.calm = true) : CallR X (.builtin "all") (rAll X.K) := cr_all hc
end
end FK

set_option Elab.async false
set_option linter.all false
set_option maxRecDepth 100000
set_option maxHeartbeats 4000000
/-! The folk's fields, its deeds ahead; own lists as data for a while. -/
namespace FK
open PySem PySem.Spec PyProof.Rows L2 FR
section
variable {K : PySem.W.Frag} {C : Addr} {Z : Zn} {Hi H : Hp} {σ : L2.St} {ρ : List Sl} {te : TE} {ta : TA} {tt : TT} {d : D} {D' : Ends} {tz tu tw : TS} {P : D → List Sl → Prop}
theorem s_dropM (h : EvM K C te ρ P) (S : Sit K C Z Hi σ H ρ) (k : ∀ d ρ', P d ρ' → ∀ Hi' H', Sit K C Z Hi' σ H' ρ' → D'.nx σ H') : tDrop te D' σ H := h Z Hi σ H _ S fun v Hi' H' d r p T _ => k d r p _ _ T
theorem q_dropM (h : EvM K C te ρ P) (S : Sit K C Z Hi σ H ρ) (k : ∀ d ρ', P d ρ' → ∀ Hi' H', Sit K C Z Hi' σ H' ρ' → tz D' σ H') : tSeq (tDrop te) tz D' σ H := s_dropM (D' := { D' with nx := tz D' }) h S k
theorem s_retM (h : EvM K C te ρ P) (S : Sit K C Z Hi σ H ρ) (k : ∀ v d ρ' Hi' H', P d ρ' → Sit K C Z Hi' σ H' ρ' → Dd K Hi' v d → D'.rt v H') : tRet te D' σ H := h Z Hi σ H _ S fun v Hi' H' d r p T hv => k v d r _ _ p T hv
theorem q_if2 {b : Bool} (h : EvB K C tt ρ b) (S : Sit K C Z Hi σ H ρ) (h1 : b = true → ∀ Hi' H', Sit K C Z Hi' σ H' ρ → tu D' σ H') (h2 : b = false → ∀ Hi' H', Sit K C Z Hi' σ H' ρ → tz D' σ H') (hu : ∀ σ H, tu D' σ H → tu { D' with nx := tz D' } σ H) : tSeq (tIfS tt tu tNext) tz D' σ H := q_when h S (fun e Hi' H' T => hu _ _ (h1 e Hi' H' T)) h2
/-! ### fields -/
inductive FldS (F : Fo) : Str → D → Fo → Prop
  | standing (l : List Row) : FldS F "standing" (rowsD l) { F with cur := { F.cur with rows := l } }
  | reasons (l : List Rsn) : FldS F "reasons" (rsnsD l) { F with cur := { F.cur with told := l } }
  | barred (l : List Br) : FldS F "barred" (brsD l) { F with cur := { F.cur with bars := l } }
  | struck (l : List Rsn) : FldS F "struck" (rsnsD l) { F with cur := { F.cur with struck := l } }
theorem put_standing {v v1 v2 v3 v4 v5 : V} {l : Addr} : putF ("standing" : Str) v (flds v1 v2 v3 v4 v5 l) = flds v1 v v3 v4 v5 l := by
  unfold flds
  rw [putF, if_neg (by decide +kernel), putF, if_pos rfl]
theorem put_reasons {v v1 v2 v3 v4 v5 : V} {l : Addr} : putF ("reasons" : Str) v (flds v1 v2 v3 v4 v5 l) = flds v1 v2 v v4 v5 l := by
  unfold flds
  rw [putF, if_neg (by decide +kernel), putF, if_neg (by decide +kernel), putF, if_pos rfl]
theorem put_barred {v v1 v2 v3 v4 v5 : V} {l : Addr} : putF ("barred" : Str) v (flds v1 v2 v3 v4 v5 l) = flds v1 v2 v3 v v5 l := by
  unfold flds
  rw [putF, if_neg (by decide +kernel), putF, if_neg (by decide +kernel), putF, if_neg (by decide +kernel), putF, if_pos rfl]
theorem put_struck {v v1 v2 v3 v4 v5 : V} {l : Addr} : putF ("struck" : Str) v (flds v1 v2 v3 v4 v5 l) = flds v1 v2 v3 v4 v l := by
  unfold flds
  rw [putF, if_neg (by decide +kernel), putF, if_neg (by decide +kernel), putF, if_neg (by decide +kernel), putF, if_neg (by decide +kernel), putF, if_pos rfl]
theorem FolAt.put {p l : Addr} {F F' : Fo} {f : Str} {v : V} (h : FolAt K C Hi H p l F) (e : FldS F f d F') (hv : Dd K Hi v d) (hne : p ≠ l) : ∃ dx fs, H p = some (.ins C dx fs) ∧ fs.length < 1000 ∧ FolAt K C Hi (upd H p (.ins C dx (putF f v fs))) p l F' := by
  obtain ⟨dx, v1, v2, v3, v4, v5, ls, f0, f1, f2, f3, f4, f5, f6, f7⟩ := h
  refine ⟨dx, _, f0, (by show 6 < 1000; decide), ?_⟩
  have hl : ∀ o, upd H p o l = some (.lst ls) := fun o => by rw [upd_ne (Ne.symm hne)]; exact f6
  cases e with
  | standing l => rw [put_standing]; exact ⟨dx, v1, v, v3, v4, v5, ls, upd_same, f1, hv, f3, f4, f5, hl _, f7⟩
  | reasons l => rw [put_reasons]; exact ⟨dx, v1, v2, v, v4, v5, ls, upd_same, f1, f2, hv, f4, f5, hl _, f7⟩
  | barred l => rw [put_barred]; exact ⟨dx, v1, v2, v3, v, v5, ls, upd_same, f1, f2, f3, hv, f5, hl _, f7⟩
  | struck l => rw [put_struck]; exact ⟨dx, v1, v2, v3, v4, v, ls, upd_same, f1, f2, f3, f4, hv, hl _, f7⟩
theorem nu_keep {H' : Hp} (x : Same Hi H) (h : ∀ a, H a = none → H' a = none) : nu Hi H H' = Hi := by
  funext a
  by_cases e : H a = none
  · rw [nu_none e, h a e]
    exact (Same.free x e).symm
  · rw [nu_some e]
theorem FolAt.dom {p l : Addr} {F : Fo} (h : FolAt K C Hi H p l F) : H p ≠ none ∧ H l ≠ none := by
  obtain ⟨dx, v1, v2, v3, v4, v5, ls, f0, f1, f2, f3, f4, f5, f6, f7⟩ := h
  exact ⟨(by rw [f0]; exact (fun z => by cases z)), (by rw [f6]; exact (fun z => by cases z))⟩
theorem s_fld {i : Nat} {p l : Addr} {F F' : Fo} {f : Str} (h : EvP K C te ρ d) (hi : ρ[i]? = some (.fol p l F)) (e : FldS F f d F') (c : Cls K C) (n : NoAttr K C f) (S : Sit K C Z Hi σ H ρ) (k : ∀ Hi' H', Sit K C Z Hi' σ H' (ρ.set i (.fol p l F')) → D'.nx σ H') :
    sFld K (tVar i) te f D' σ H := h Hi σ H _ S.env fun v H1 g1 d1 => by
  have S1 := S.grow g1
  obtain ⟨e1, f1, n1, n2, n3⟩ := S1.env.slotF hi
  obtain ⟨dx, fs, q0, q1, q2⟩ := f1.put e d1 n3
  refine ⟨.ref p, e1, p, C, dx, fs, rfl, q0, c, n, q1, ?_⟩
  have ek : nu (nu Hi H H1) H1 (upd H1 p (.ins C dx (putF f v fs))) = nu Hi H H1 := nu_keep S1.ex fun a ha => by rw [upd_ne (fun z : a = p => f1.dom.1 (by rw [← z]; exact ha))]; exact ha
  have T := S1.mutF (F' := F') hi (H' := upd H1 p (.ins C dx (putF f v fs))) (fun b o eb n1 _ => by rw [upd_ne n1]; exact eb) (by rw [ek]; exact q2)
  exact k _ _ T
theorem q_fld {i : Nat} {p l : Addr} {F F' : Fo} {f : Str} (h : EvP K C te ρ d) (hi : ρ[i]? = some (.fol p l F)) (e : FldS F f d F') (c : Cls K C) (n : NoAttr K C f) (S : Sit K C Z Hi σ H ρ) (k : ∀ Hi' H', Sit K C Z Hi' σ H' (ρ.set i (.fol p l F')) → tz D' σ H') :
    tSeq (sFld K (tVar i) te f) tz D' σ H := s_fld (D' := { D' with nx := tz D' }) h hi e c n S k
/-- self.ahead.append(e) -/
theorem s_ahead {i : Nat} {p l : Addr} {F : Fo} {s : S4} (h : EvP K C te ρ (s4D s)) (hi : ρ[i]? = some (.fol p l F)) (c : Cls K C) (n : NoAttr K C "ahead") (hz : F.ahead.length < 100000) (S : Sit K C Z Hi σ H ρ) (k : ∀ Hi' H', Sit K C Z Hi' σ H' (ρ.set i (.fol p l { F with ahead := F.ahead ++ [s] })) → D'.nx σ H') :
    tDrop (tBM K "list" rAppend (tFld K (tVar i) "ahead") (tCons te tNil)) D' σ H := by
  obtain ⟨e0, ⟨dx, v1, v2, v3, v4, v5, ls, f0, f1, f2, f3, f4, f5, f6, f7⟩, _, _, _⟩ := S.env.slotF hi
  refine ⟨.ref p, e0, p, C, dx, _, .ref l, rfl, f0, c, n, fld_ahead, .inl ⟨rfl, ls, SqL.of f6⟩, ?_⟩
  refine h Hi σ H _ S.env fun v H1 g1 d1 => ?_
  have S1 := S.grow g1
  obtain ⟨e1, g, n1, n2, n3⟩ := S1.env.slotF hi
  have hf := g
  obtain ⟨dx, v1, v2, v3, v4, v5, ls', f0, f1, f2, f3, f4, f5, f6, f7⟩ := g
  refine ⟨l, ls', v, rfl, rfl, f6, Nat.lt_of_lt_of_le (by rw [f7.len, List.length_map]; exact hz) (by decide), ?_⟩
  have ek : nu (nu Hi H H1) H1 (upd H1 l (.lst (ls' ++ [v]))) = nu Hi H H1 := nu_keep S1.ex fun a ha => by rw [upd_ne (fun z : a = l => hf.dom.2 (by rw [← z]; exact ha))]; exact ha
  have T := S1.mutF (F' := { F with ahead := F.ahead ++ [s] }) hi (H' := upd H1 l (.lst (ls' ++ [v]))) (fun b o eb _ n2 => by rw [upd_ne n2]; exact eb) (by
    rw [ek]
    exact ⟨dx, v1, v2, v3, v4, v5, _, by rw [upd_ne n3]; exact f0, f1, f2, f3, f4, f5, upd_same, by
      show DdAll K _ _ ((F.ahead ++ [s]).map s4D)
      rw [List.map_append]
      exact f7.app (DdAll.one d1)⟩)
  exact k _ _ T
/-- self.standing, self.reasons, self.barred, self.struck = self.ahead.pop() -/
theorem s_back {i : Nat} {p l : Addr} {F : Fo} {s : S4} {as : List S4} (hi : ρ[i]? = some (.fol p l F)) (he : F.ahead = as ++ [s]) (c : Cls K C) (n : NoAttr K C "ahead") (m1 : NoAttr K C "standing") (m2 : NoAttr K C "reasons") (m3 : NoAttr K C "barred") (m4 : NoAttr K C "struck")
    (S : Sit K C Z Hi σ H ρ) (k : ∀ Hi' H', Sit K C Z Hi' σ H' (ρ.set i (.fol p l { F with cur := s, ahead := as })) → D'.nx σ H') :
    tAsg (tBM0 K "list" rPop (tFld K (tVar i) "ahead")) (gTup K 4 (gCons (gFld K (tVar i) "standing") (gCons (gFld K (tVar i) "reasons") (gCons (gFld K (tVar i) "barred") (gCons (gFld K (tVar i) "struck") gNil))))) D' σ H := by
  obtain ⟨e0, g, n1, n2, n3⟩ := S.env.slotF hi
  have hf := g
  obtain ⟨dx, v1, v2, v3, v4, v5, ls, f0, f1, f2, f3, f4, f5, f6, f7⟩ := g
  have hlen : ls.length = (as.map s4D ++ [s4D s]).length := by rw [f7.len, he, List.map_append]; rfl
  rw [he, List.map_append] at f7
  have q0 := dropLast_get (as.map s4D) (s4D s)
  rw [← hlen] at q0
  obtain ⟨v, q1, q2⟩ := f7.get q0
  refine ⟨.ref p, e0, p, C, dx, _, .ref l, rfl, f0, c, n, fld_ahead, .inl ⟨rfl, ls, SqL.of f6⟩, l, ls, v, rfl, rfl, f6, q1, ?_⟩
  have hd : DdAll K Hi ls.dropLast (as.map s4D) := by
    have q := f7.take (as.map s4D).length
    have e4 : (as.map s4D ++ List.map s4D [s]).take (as.map s4D).length = as.map s4D := List.take_left
    rw [e4] at q
    have e3 : ls.dropLast = ls.take (as.map s4D).length := by
      rw [List.dropLast_eq_take, hlen, List.length_append]
      rfl
    rw [e3]
    exact q
  have x0 : Same Hi (upd H l (.lst ls.dropLast)) := same_upd2 S.ex n2
  have F0 : FolAt K C Hi (upd H l (.lst ls.dropLast)) p l { F with ahead := as } := ⟨dx, v1, v2, v3, v4, v5, _, by rw [upd_ne n3]; exact f0, f1, f2, f3, f4, f5, upd_same, hd⟩
  obtain ⟨a, vs, rfl, s1, k1⟩ := Dd.tup_inv q2
  obtain ⟨w1, ws1, rfl, a1, k2⟩ := k1.inv
  obtain ⟨w2, ws2, rfl, a2, k3⟩ := k2.inv
  obtain ⟨w3, ws3, rfl, a3, k4⟩ := k3.inv
  obtain ⟨w4, ws4, rfl, a4, k5⟩ := k4.inv
  have := k5.inv0
  subst this
  refine ⟨a, _, rfl, Same.seqT x0 s1, rfl, w1, _, rfl, ?_⟩
  obtain ⟨x1, y1, z1, z2, F1⟩ := F0.put (FldS.standing s.rows) a1 n3
  refine ⟨.ref p, e0, p, C, x1, y1, rfl, z1, c, m1, z2, w2, _, rfl, ?_⟩
  obtain ⟨x2, y2, z3, z4, F2⟩ := F1.put (FldS.reasons s.told) a2 n3
  refine ⟨.ref p, e0, p, C, x2, y2, rfl, z3, c, m2, z4, w3, _, rfl, ?_⟩
  obtain ⟨x3, y3, z5, z6, F3⟩ := F2.put (FldS.barred s.bars) a3 n3
  refine ⟨.ref p, e0, p, C, x3, y3, rfl, z5, c, m3, z6, w4, _, rfl, ?_⟩
  obtain ⟨x4, y4, z7, z8, F4⟩ := F3.put (FldS.struck s.struck) a4 n3
  refine ⟨.ref p, e0, p, C, x4, y4, rfl, z7, c, m4, z8, rfl, ?_⟩
  have ek : ∀ H', (∀ a, H a = none → H' a = none) → nu Hi H H' = Hi := fun H' h => nu_keep S.ex h
  have hdom := hf.dom
  refine k _ _ (S.mutF (F' := { F with cur := s, ahead := as }) hi (fun b o eb n1 n2 => ?_) ?_)
  · rw [upd_ne n1, upd_ne n1, upd_ne n1, upd_ne n1, upd_ne n2]
    exact eb
  · rw [ek _ fun a ha => by
      have np : a ≠ p := fun z => hdom.1 (by rw [← z]; exact ha)
      have nl : a ≠ l := fun z => hdom.2 (by rw [← z]; exact ha)
      rw [upd_ne np, upd_ne np, upd_ne np, upd_ne np, upd_ne nl]
      exact ha]
    exact F4
/-! ### own lists as data -/
theorem Env.thaw {i : Nat} {ds : List D} (S : Env K C Hi σ H ρ) (hi : ρ[i]? = some (.own ds)) : ∃ a vs, H a = some (.lst vs) ∧ Env K C (cutF H Hi a a) σ H (ρ.set i (.dat (.list ds))) := by
  obtain ⟨as, h1, h2, h3⟩ := S.sl
  obtain ⟨v, xs, bs, ys, e1, e2, e3, e4⟩ := h1.split hi
  cases e3 with
  | own q1 q2 =>
    rename_i a vs
    have w1 := h3 a (by rw [e2]; simp)
    have n1 : a ∉ xs ++ ys := by
      rw [e2] at h2
      have q : (a :: (xs ++ ys)).Nodup := (List.perm_middle (a := a) (l₁ := xs) (l₂ := ys)).nodup_iff.mp h2
      exact (List.nodup_cons.mp q).1
    have hsub : (xs ++ ([] ++ ys)).Sublist as := by
      rw [e2]
      exact List.Sublist.append (List.Sublist.refl _) (List.sublist_append_right _ _)
    have es0 : σ.set i (some (V.ref a)) = σ := by
      obtain ⟨hh, e⟩ := List.getElem?_eq_some_iff.mp e1
      rw [← e]
      exact List.set_getElem_self hh
    have x : Same Hi (cutF H Hi a a) := fun b o e => by
      show (if b = a ∨ b = a then H b else Hi b) = some o
      by_cases z : b = a
      · rw [z, w1] at e
        cases e
      · rw [if_neg (by simpa using z)]
        exact e
    have x2 : Same (cutF H Hi a a) H := fun b o e => by
      have e' : (if b = a ∨ b = a then H b else Hi b) = some o := e
      by_cases z : b = a
      · rw [if_pos (.inl z)] at e'
        exact e'
      · rw [if_neg (by simpa using z)] at e'
        exact S.ex b o e'
    have ea : cutF H Hi a a a = some (.lst vs) := by
      show (if a = a ∨ a = a then H a else Hi a) = some (.lst vs)
      rw [if_pos (.inl rfl)]
      exact q1
    have S2 := e4 (cutF H Hi a a) H x (fun _ _ => rfl) (some (.ref a)) (.dat (.list ds)) [] (.dat (.lst ea (DdAll.mono x _ q2)))
    rw [es0] at S2
    refine ⟨a, vs, q1, x2, _, S2, h2.sublist hsub, fun b hb => ?_⟩
    show (if b = a ∨ b = a then H b else Hi b) = none
    have nb : b ≠ a := fun z => n1 (by rw [← z]; simpa using hb)
    rw [if_neg (by simpa using nb)]
    exact h3 b (hsub.subset hb)
theorem ev_thaw {i : Nat} {ds : List D} (hi : ρ[i]? = some (.own ds)) (h : EvP K C te (ρ.set i (.dat (.list ds))) d) (fl : flat d = true) : EvP K C te ρ d := fun Hi σ H Q S q => by
  obtain ⟨a, vs, e, S2⟩ := S.thaw hi
  refine h _ σ H Q S2 fun v H' g hd => q v H' g ?_
  refine dd_back ?_ ?_ ?_ ?_ ?_ ?_ d fl hd
  · rw [e]; exact fun _ z => nomatch z
  · rw [e]; exact fun _ z => nomatch z
  · rw [e]; exact fun _ _ z => nomatch z
  · rw [e]; exact fun _ _ z => nomatch z
  · rw [e]; exact fun z => nomatch z
  · rw [e]; exact fun z => nomatch z
theorem eb_thaw {i : Nat} {ds : List D} {b : Bool} (hi : ρ[i]? = some (.own ds)) (h : EvB K C tt (ρ.set i (.dat (.list ds))) b) : EvB K C tt ρ b := fun Hi σ H Q S q => by
  obtain ⟨a, vs, e, S2⟩ := S.thaw hi
  exact h _ σ H Q S2 q
/-- return l -/
theorem s_retO {i : Nat} {ds : List D} (hi : ρ[i]? = some (.own ds)) (hM : Z.M = []) (S : Sit K C Z Hi σ H ρ) (k : ∀ v Hi' ρ', Sit K C Z Hi' σ H ρ' → Dd K Hi' v (.list ds) → D'.rt v H) : tRet (tVar i) D' σ H := by
  obtain ⟨Hj, x, T⟩ := S.freeze hi hM
  obtain ⟨v, e, hd⟩ := T.env.slot (i := i) (d := .list ds) (by rw [List.getElem?_set]; simp [dom_set hi])
  exact ⟨v, e, k v Hj _ T hd⟩
theorem strs_all {H : Hp} : ∀ {vs : List V} {ss : List Str}, DdAll K H vs (ss.map D.str) → vs = ss.map V.str
  | _, [], h => h.inv0
  | _, s :: ss, h => by
    obtain ⟨v, ws, rfl, h1, h2⟩ := h.inv
    rw [h1.str_eq, strs_all h2]
    rfl
theorem ev_join {to : TE} {a : Str} {ss : List Str} (h1 : EvP K C to ρ (.str a)) (h2 : EvP K C te ρ (.list (ss.map D.str))) (hz : (ss.map (·.length)).sum + ss.length * a.length ≤ 16777216) : EvP K C (tM1 (rJoinU K) to te) ρ (.str (Txt.join a ss)) := fun Hi σ H Q S q =>
  h1 Hi σ H _ S fun v H1 g1 d1 => by
    refine ⟨⟨a, d1.str_eq⟩, h2 _ σ H1 _ (S.grow g1) fun w H2 g2 d2 => ?_⟩
    obtain ⟨p, vs, rfl, s1, k1⟩ := d2.lst_inv
    have e := strs_all k1
    subst e
    exact ⟨a, p, ss, d1.str_eq, rfl, .inl (SqL.of (nu_hi (S.grow g1).ex g2 _ _ s1)), hz, q _ H2 (g1.trans g2) (.str _)⟩
end
end FK

set_option Elab.async false
set_option linter.all false
set_option maxRecDepth 100000
set_option maxHeartbeats 4000000
/-! What each def promises: the mirrors, the readings of lists. -/
namespace FK
open PySem PySem.Spec PyProof.Rows L2 FR
/-! ### what is sound -/
structure OkN (s : Str) : Prop where
  pos : 1 ≤ s.length
  len : s.length ≤ 8
  small : ∀ c ∈ s.cps.toList, 97 ≤ c ∧ c ≤ 122
structure OkW (s : Str) : Prop where
  len : s.length ≤ 8
  low : ∀ c ∈ s.cps.toList, c < 128
theorem OkN.w {s : Str} (h : OkN s) : OkW s := ⟨h.len, fun c hc => by have := h.small c hc; omega⟩
structure OkRow (r : Row) : Prop where
  name : OkN r.n
  len : r.ws.length ≤ 8
  nodup : (r.ws.map (·.1)).Nodup
  words : ∀ p ∈ r.ws, OkW p.1 ∧ OkW p.2
structure OkR (r : Rsn) : Prop where
  a : OkN r.a
  b : OkN r.b
  lt : ltS r.a r.b = true
  w1 : 1 ≤ r.w
  w2 : r.w ≤ 1000
  k : 0 ≤ r.k
structure OkB (r : Br) : Prop where
  a : OkN r.a
  b : OkN r.b
  lt : ltS r.a r.b = true
  k : 0 ≤ r.k
def Rul.f : Rul → Str
  | .never f => f
  | .same f _ => f
  | .begin f _ _ => f
  | .both f _ _ => f
def OkRul : Rul → Prop
  | .never f => OkW f
  | .same f w => OkW f ∧ 1 ≤ w ∧ w ≤ 1000
  | .begin f n w => OkW f ∧ 1 ≤ n ∧ n ≤ 3 ∧ 1 ≤ w ∧ w ≤ 1000
  | .both f o w => OkW f ∧ OkW o ∧ 1 ≤ w ∧ w ≤ 1000
structure OkS (s : S4) : Prop where
  rows : ∀ r ∈ s.rows, OkRow r
  nodup : (s.rows.map (·.n)).Nodup
  told : ∀ r ∈ s.told, OkR r
  bars : ∀ r ∈ s.bars, OkB r
  struck : ∀ r ∈ s.struck, OkR r
  lr : s.rows.length ≤ 40
  lt : s.told.length ≤ 40
  lb : s.bars.length ≤ 40
  ls : s.struck.length ≤ 40
/-! ### mirrors -/
def minS (a b : Str) : Str := if ltS b a = true then b else a
def maxS (a b : Str) : Str := if ltS a b = true then b else a
def reasonOf (a b : Str) (w k : Int) : Rsn := ⟨w, minS a b, maxS a b, k⟩
def lookW (r : Row) (f : Str) : Option Str := (r.ws.find? fun q => decide (q.1 = f)).map (·.2)
def wD : Option Str → D
  | none => .none
  | some s => .str s
def oneM (r o : Row) (f : Str) : Bool := match lookW r f with
  | none => false
  | some h => decide (some h = lookW o f)
def tellsM (u : Rul) (r o : Row) : Bool := match lookW r u.f, lookW o u.f with
  | some h, some t => (match u with
    | .never _ => !decide (h = t)
    | .same _ _ => decide (h = t)
    | .begin _ n _ => decide (n ≤ (h.length : Int)) && decide (n ≤ (t.length : Int)) && decide (cutS h none (some n) = cutS t none (some n))
    | .both _ f _ => decide (h = t) && oneM r o f)
  | _, _ => false
def Rul.isNever : Rul → Bool
  | .never _ => true
  | _ => false
def Rul.w : Rul → Int
  | .never _ => 0
  | .same _ w => w
  | .begin _ _ w => w
  | .both _ _ w => w
/-- what the rules tell of two rows -/
def betR (us : List Rul) (r o : Row) : List Rsn := ((enumL us).filter fun q => tellsM q.2 r o && !q.2.isNever).map fun q => ⟨q.2.w, r.n, o.n, (q.1 : Nat)⟩
def betB (us : List Rul) (r o : Row) : List Br := ((enumL us).filter fun q => tellsM q.2 r o && q.2.isNever).map fun q => ⟨r.n, o.n, (q.1 : Nat)⟩
def upPairs {α : Type} : List α → List (α × α)
  | [] => []
  | x :: xs => xs.map (fun y => (x, y)) ++ upPairs xs
def foundR (us : List Rul) (rows : List Row) : List Rsn := (upPairs (srt rowD rows)).flatMap fun p => betR us p.1 p.2
def foundB (us : List Rul) (rows : List Row) : List Br := (upPairs (srt rowD rows)).flatMap fun p => betB us p.1 p.2
def negR (r : Rsn) : Rsn := ⟨0 - r.w, r.a, r.b, r.k⟩
def ordR (l : List Rsn) : List Rsn := (srt rsnD (l.map negR)).map negR
def namesM (rows : List Row) : List Str := srt strD (rows.map (·.n))
def hasR (ns : List Str) (r : Rsn) : Bool := decide (r.a ∈ ns) && decide (r.b ∈ ns)
def hasB (ns : List Str) (r : Br) : Bool := decide (r.a ∈ ns) && decide (r.b ∈ ns)
structure Gr where
  names : List Str
  reasons : List Rsn
  bars : List Br
  deriving DecidableEq
abbrev namesD (ns : List Str) : D := .tuple (ns.map strD)
abbrev grD (g : Gr) : D := .tuple [namesD g.names, rsnsD g.reasons, brsD g.bars]
/-- the ground of a state, its reasons and bars gathered in any order -/
def groundM (us : List Rul) (s : S4) : Gr :=
  ⟨namesM s.rows, ordR ((foundR us s.rows ++ s.told.filter (hasR (s.rows.map (·.n)))).filter fun r => !decide (r ∈ s.struck)), srt brD (foundB us s.rows ++ s.bars.filter (hasB (s.rows.map (·.n))))⟩
/-! ### deeds -/
inductive Deed where
  | put (r : Row)
  | drop (n : Str)
  | tell (a b : Str) (w : Int)
  | untell (a b : Str) (w : Int)
  | bar (a b : Str)
  | unbar (a b : Str)
  | strike (r : Rsn)
  | unstrike (r : Rsn)
  | undo
  deriving DecidableEq
def deedD : Deed → D
  | .put r => .tuple [.str "put", rowD r]
  | .drop n => .tuple [.str "drop", .str n]
  | .tell a b w => .tuple [.str "tell", .str a, .str b, .int w]
  | .untell a b w => .tuple [.str "untell", .str a, .str b, .int w]
  | .bar a b => .tuple [.str "bar", .str a, .str b]
  | .unbar a b => .tuple [.str "unbar", .str a, .str b]
  | .strike r => .tuple [.str "strike", rsnD r]
  | .unstrike r => .tuple [.str "unstrike", rsnD r]
  | .undo => .tuple [.str "undo"]
def barOf (a b : Str) : Br := ⟨minS a b, maxS a b, 100⟩
/-- what stands behind a deed (other than undo) -/
def behind (s : S4) : Deed → S4
  | .put r => { s with rows := s.rows ++ [r] }
  | .drop n => { s with rows := s.rows.filter fun r => !decide (r.n = n) }
  | .tell a b w => { s with told := s.told ++ [reasonOf a b w 100] }
  | .untell a b w => { s with told := s.told.filter fun r => !decide (r = reasonOf a b w 100) }
  | .bar a b => { s with bars := s.bars ++ [barOf a b] }
  | .unbar a b => { s with bars := s.bars.filter fun r => !decide (r = barOf a b) }
  | .strike r => { s with struck := s.struck ++ [r] }
  | .unstrike r => { s with struck := s.struck.filter fun x => !decide (x = r) }
  | .undo => s
/-- a deed that is not refused -/
def Deed.ok (s : S4) (ah : List S4) : Deed → Prop
  | .put r => OkRow r ∧ r.n ∉ s.rows.map (·.n)
  | .drop n => OkN n ∧ n ∈ s.rows.map (·.n)
  | .tell a b w => OkN a ∧ OkN b ∧ a ≠ b ∧ 1 ≤ w ∧ w ≤ 1000 ∧ reasonOf a b w 100 ∉ s.told
  | .untell a b w => OkN a ∧ OkN b ∧ a ≠ b ∧ 1 ≤ w ∧ w ≤ 1000 ∧ reasonOf a b w 100 ∈ s.told
  | .bar a b => OkN a ∧ OkN b ∧ a ≠ b ∧ barOf a b ∉ s.bars
  | .unbar a b => OkN a ∧ OkN b ∧ a ≠ b ∧ barOf a b ∈ s.bars
  | .strike r => OkR r ∧ r ∉ s.struck
  | .unstrike r => OkR r ∧ r ∈ s.struck
  | .undo => ah ≠ []
/-- the state and what was ahead, behind a deed -/
def stepD (s : S4) (ah : List S4) : Deed → S4 × List S4
  | .undo => (ah.getLastD s, ah.dropLast)
  | d => (behind s d, ah ++ [s])
def doF (F : Fo) (d : Deed) : Fo := { F with cur := (stepD F.cur F.ahead d).1, ahead := (stepD F.cur F.ahead d).2 }
/-- a folk within its bounds -/
structure OkF (F : Fo) : Prop where
  rules : ∀ u ∈ F.rules, OkRul u
  lr : F.rules.length ≤ 8
  cur : OkS F.cur
  ah : ∀ s ∈ F.ahead, OkS s
  la : F.ahead.length ≤ 1000
/-! ### numbers -/
def OkX (xs : List Int) : Prop := ∀ x ∈ xs, 0 ≤ x ∧ x < 2000000000
abbrev intsD (xs : List Int) : D := .list (xs.map D.int)
abbrev strsD (ss : List Str) : D := .list (ss.map D.str)
/-- six unlike names, of less than eight letters -/
structure OkNs (ns : List Str) : Prop where
  len : ns.length = 6
  nodup : ns.Nodup
  ok : ∀ n ∈ ns, OkN n ∧ n.length ≤ 7
/-- the state that a run of deeds may come to -/
structure OkL (ns : List Str) (s : S4) : Prop where
  ok : OkS s
  rows : ∀ r ∈ s.rows, r.n ∈ ns
  told : ∀ r ∈ s.told, r.a ∈ ns ∧ r.b ∈ ns ∧ r.k = 100
  bars : ∀ r ∈ s.bars, r.a ∈ ns ∧ r.b ∈ ns ∧ r.k = 100
  struck : ∀ r ∈ s.struck, r.k ≠ 77
  nt : s.told.Nodup
  nb : s.bars.Nodup
  nstr : s.struck.Nodup
/-- a deed drawn -/
structure DrawnOk (ns : List Str) (s : S4) (many : Nat) (d : Deed) : Prop where
  ok : ∀ ah : List S4, ah.length = many → d.ok s ah
  undo : d = .undo → 0 < many
  loc : match d with
    | .put r => r.n ∈ ns
    | .tell a b _ => a ∈ ns ∧ b ∈ ns
    | .bar a b => a ∈ ns ∧ b ∈ ns
    | .strike r => r.k ≠ 77
    | _ => True
/-- the states along a run of deeds -/
inductive RunOk (ns : List Str) : S4 → List S4 → List (Deed × S4) → Prop
  | nil (s : S4) (ah : List S4) : RunOk ns s ah []
  | cons {s : S4} {ah : List S4} {d : Deed} {l : List (Deed × S4)} : DrawnOk ns s ah.length d → d.ok s ah → RunOk ns (stepD s ah d).1 (stepD s ah d).2 l → RunOk ns s ah ((d, (stepD s ah d).1) :: l)
def dsD (l : List (Deed × S4)) : D := .list (l.map fun p => .tuple [deedD p.1, s4D p.2])
def wanted (s : S4) : List Deed := ((s.rows.map Deed.put ++ s.told.map fun r => .tell r.b r.a r.w) ++ s.bars.map fun r => .bar r.b r.a) ++ s.struck.map Deed.strike
/-! ### the promises -/
section

abbrev sp_is_name (K : PySem.W.Frag) (C : Addr) : Sp := spP K (fun s : Str => [D.str s]) OkN (fun _ => .bool true)
abbrev sp_word_of (K : PySem.W.Frag) (C : Addr) : Sp := spP K (fun a : Row × Str => [rowD a.1, .str a.2]) (fun a => OkRow a.1) (fun a => wD (lookW a.1 a.2))
abbrev sp_names_of (K : PySem.W.Frag) (C : Addr) : Sp := spP K (fun l : List Row => [rowsD l]) (fun l => l.length ≤ 100) (fun l => strsD (l.map (·.n)))
abbrev sp_book_without (K : PySem.W.Frag) (C : Addr) : Sp := spP K (fun a : List Row × Str => [rowsD a.1, .str a.2]) (fun a => a.1.length ≤ 100 ∧ a.2 ∈ a.1.map (·.n) ∧ ∀ x ∈ a.1.map (·.n), OkW x) (fun a => rowsD (a.1.filter fun r => !decide (r.n = a.2)))
abbrev sp_is_number (K : PySem.W.Frag) (C : Addr) : Sp := spP K (fun a : Int × Int × Int => [D.int a.1, .int a.2.1, .int a.2.2]) (fun _ => True) (fun a => .bool (decide (a.2.1 ≤ a.1) && decide (a.1 ≤ a.2.2)))
abbrev sp_one_word (K : PySem.W.Frag) (C : Addr) : Sp := spP K (fun a : Row × Row × Str => [rowD a.1, rowD a.2.1, .str a.2.2]) (fun a => OkRow a.1 ∧ OkRow a.2.1) (fun a => .bool (oneM a.1 a.2.1 a.2.2))
abbrev sp_tells (K : PySem.W.Frag) (C : Addr) : Sp := spP K (fun a : Rul × Row × Row => [rulD a.1, rowD a.2.1, rowD a.2.2]) (fun a => OkRul a.1 ∧ OkRow a.2.1 ∧ OkRow a.2.2) (fun a => .bool (tellsM a.1 a.2.1 a.2.2))
abbrev sp_are_two_names (K : PySem.W.Frag) (C : Addr) : Sp := spP K (fun a : Str × Str => [D.str a.1, .str a.2]) (fun a => OkN a.1 ∧ OkN a.2) (fun a => .bool (ltS a.1 a.2))
abbrev sp_is_counted (K : PySem.W.Frag) (C : Addr) : Sp := spP K (fun i : Int => [D.int i]) (fun _ => True) (fun i => .bool (decide (0 ≤ i)))
abbrev sp_is_reason (K : PySem.W.Frag) (C : Addr) : Sp := spP K (fun r : Rsn => [rsnD r]) OkR (fun _ => .bool true)
abbrev sp_in_order (K : PySem.W.Frag) (C : Addr) : Sp := spP K (fun l : List Rsn => [.list (l.map rsnD)]) (fun l => (∀ r ∈ l, OkR r) ∧ l.length < 20000) (fun l => .list ((ordR l).map rsnD))
abbrev sp_ground_of (K : PySem.W.Frag) (C : Addr) : Sp := spP K (fun a : List Row × List Rul => [rowsD a.1, rulesD a.2]) (fun a => (∀ r ∈ a.1, OkRow r) ∧ (a.1.map (·.n)).Nodup ∧ a.1.length ≤ 40 ∧ (∀ u ∈ a.2, OkRul u) ∧ a.2.length ≤ 8) (fun a => grD ⟨namesM a.1, ordR (foundR a.2 a.1), srt brD (foundB a.2 a.1)⟩)
abbrev sp_F_init (K : PySem.W.Frag) (C : Addr) : Sp := fun vs H Q _ => ∃ (p dx : Addr) (v : V) (us : List Rul) (Hi : Hp), vs = [.ref p, v] ∧ Same Hi H ∧ H p = some (.ins C dx []) ∧ Hi p = none ∧ Dd K Hi v (rulesD us) ∧
  ∀ (Hk H' : Hp) (l : Addr), (∀ b o, H b = some o → b ≠ p → H' b = some o) → Same Hi Hk → Same Hk H' → (∀ a, H a ≠ none → Hk a = Hi a) → Hk l = none → H l = none → p ≠ l → FolAt K C Hk H' p l ⟨us, ⟨[], [], [], []⟩, []⟩ → Q .non H'
abbrev sp_F_keep (K : PySem.W.Frag) (C : Addr) : Sp := spO K C (fun _ : Unit => []) (fun F _ => OkF F) (fun F _ d F' => d = .none ∧ F' = { F with ahead := F.ahead ++ [F.cur] })
abbrev sp_F_stands (K : PySem.W.Frag) (C : Addr) : Sp := spQ K C (fun n : Str => [D.str n]) (fun F _ => OkF F) (fun F n => .bool (decide (n ∈ F.cur.rows.map (·.n))))
abbrev sp_F_put (K : PySem.W.Frag) (C : Addr) : Sp := spO K C (fun r : Row => [rowD r]) (fun F r => OkF F ∧ (Deed.put r).ok F.cur F.ahead) (fun F r d F' => d = .none ∧ F' = doF F (.put r))
abbrev sp_F_drop (K : PySem.W.Frag) (C : Addr) : Sp := spO K C (fun n : Str => [D.str n]) (fun F n => OkF F ∧ (Deed.drop n).ok F.cur F.ahead) (fun F n d F' => d = .none ∧ F' = doF F (.drop n))
abbrev sp_F_two (K : PySem.W.Frag) (C : Addr) : Sp := spQ K C (fun a : Str × Str => [D.str a.1, .str a.2]) (fun _ a => OkN a.1 ∧ OkN a.2 ∧ a.1 ≠ a.2) (fun _ a => .tuple [.str (minS a.1 a.2), .str (maxS a.1 a.2)])
abbrev sp_F_told_reason (K : PySem.W.Frag) (C : Addr) : Sp := spQ K C (fun a : Str × Str × Int => [D.str a.1, .str a.2.1, .int a.2.2]) (fun _ a => OkN a.1 ∧ OkN a.2.1 ∧ a.1 ≠ a.2.1 ∧ 1 ≤ a.2.2 ∧ a.2.2 ≤ 1000) (fun _ a => rsnD (reasonOf a.1 a.2.1 a.2.2 100))
abbrev sp_F_tell (K : PySem.W.Frag) (C : Addr) : Sp := spO K C (fun a : Str × Str × Int => [D.str a.1, .str a.2.1, .int a.2.2]) (fun F a => OkF F ∧ (Deed.tell a.1 a.2.1 a.2.2).ok F.cur F.ahead) (fun F a d F' => d = .none ∧ F' = doF F (.tell a.1 a.2.1 a.2.2))
abbrev sp_F_untell (K : PySem.W.Frag) (C : Addr) : Sp := spO K C (fun a : Str × Str × Int => [D.str a.1, .str a.2.1, .int a.2.2]) (fun F a => OkF F ∧ (Deed.untell a.1 a.2.1 a.2.2).ok F.cur F.ahead) (fun F a d F' => d = .none ∧ F' = doF F (.untell a.1 a.2.1 a.2.2))
abbrev sp_F_bar (K : PySem.W.Frag) (C : Addr) : Sp := spO K C (fun a : Str × Str => [D.str a.1, .str a.2]) (fun F a => OkF F ∧ (Deed.bar a.1 a.2).ok F.cur F.ahead) (fun F a d F' => d = .none ∧ F' = doF F (.bar a.1 a.2))
abbrev sp_F_unbar (K : PySem.W.Frag) (C : Addr) : Sp := spO K C (fun a : Str × Str => [D.str a.1, .str a.2]) (fun F a => OkF F ∧ (Deed.unbar a.1 a.2).ok F.cur F.ahead) (fun F a d F' => d = .none ∧ F' = doF F (.unbar a.1 a.2))
abbrev sp_F_strike (K : PySem.W.Frag) (C : Addr) : Sp := spO K C (fun r : Rsn => [rsnD r]) (fun F r => OkF F ∧ (Deed.strike r).ok F.cur F.ahead) (fun F r d F' => d = .none ∧ F' = doF F (.strike r))
abbrev sp_F_unstrike (K : PySem.W.Frag) (C : Addr) : Sp := spO K C (fun r : Rsn => [rsnD r]) (fun F r => OkF F ∧ (Deed.unstrike r).ok F.cur F.ahead) (fun F r d F' => d = .none ∧ F' = doF F (.unstrike r))
abbrev sp_F_undo (K : PySem.W.Frag) (C : Addr) : Sp := spO K C (fun _ : Unit => []) (fun F _ => OkF F ∧ F.ahead ≠ []) (fun F _ d F' => d = .none ∧ F' = doF F .undo)
abbrev sp_F_book (K : PySem.W.Frag) (C : Addr) : Sp := spQ K C (fun _ : Unit => []) (fun F _ => True) (fun F _ => rowsD F.cur.rows)
abbrev sp_F_ground (K : PySem.W.Frag) (C : Addr) : Sp := spQ K C (fun _ : Unit => []) (fun F _ => OkF F) (fun F _ => grD (groundM F.rules F.cur))
abbrev sp_law_cell (K : PySem.W.Frag) (C : Addr) : Sp := spR K (fun a : List Int × Nat => [.scr a.1, .int (a.2 : Nat)]) (fun a => a.1.length ≤ 63 ∧ a.2 ≤ 100) (fun _ d => ∃ i, d = .int i)
abbrev sp_law_numbers (K : PySem.W.Frag) (C : Addr) : Sp := spR K (fun a : Int × Nat => [.int a.1, .int (a.2 : Nat)]) (fun a => a.2 ≤ 100) (fun a d => ∃ xs, d = intsD xs ∧ xs.length = a.2 ∧ OkX xs)
abbrev sp_law_names (K : PySem.W.Frag) (C : Addr) : Sp := spR K (fun xs : List Int => [intsD xs, .int 6]) (fun xs => xs.length = 12 ∧ OkX xs) (fun _ d => ∃ ns, d = strsD ns ∧ OkNs ns)
abbrev sp_law_word (K : PySem.W.Frag) (C : Addr) : Sp := spR K (fun x : Int => [D.int x]) (fun x => 0 ≤ x ∧ x < 2000000000) (fun _ d => ∃ w, d = .str w ∧ OkW w)
abbrev sp_law_row (K : PySem.W.Frag) (C : Addr) : Sp := spR K (fun a : Str × List Int => [D.str a.1, intsD a.2]) (fun a => OkN a.1 ∧ 4 ≤ a.2.length ∧ OkX a.2) (fun a d => ∃ r, d = rowD r ∧ r.n = a.1 ∧ OkRow r)
abbrev sp_law_rules (K : PySem.W.Frag) (C : Addr) : Sp := spR K (fun xs : List Int => [intsD xs]) (fun xs => 5 ≤ xs.length ∧ OkX xs) (fun _ d => ∃ us, d = rulesD us ∧ us.length ≤ 4 ∧ ∀ u ∈ us, OkRul u)
abbrev sp_law_one_word (K : PySem.W.Frag) (C : Addr) : Sp := spP K (fun a : Row × Row × Str => [rowD a.1, rowD a.2.1, .str a.2.2]) (fun a => OkRow a.1 ∧ OkRow a.2.1) (fun a => .bool (oneM a.1 a.2.1 a.2.2))
abbrev sp_law_tells (K : PySem.W.Frag) (C : Addr) : Sp := spP K (fun a : Rul × Row × Row => [rulD a.1, rowD a.2.1, rowD a.2.2]) (fun a => OkRul a.1 ∧ OkRow a.2.1 ∧ OkRow a.2.2) (fun a => .bool (tellsM a.1 a.2.1 a.2.2))
abbrev sp_law_ground_due (K : PySem.W.Frag) (C : Addr) : Sp := spP K (fun a : List Rul × S4 => [rulesD a.1, s4D a.2]) (fun a => OkS a.2 ∧ (∀ u ∈ a.1, OkRul u) ∧ a.1.length ≤ 8) (fun a => grD (groundM a.1 a.2))
abbrev sp_law_two (K : PySem.W.Frag) (C : Addr) : Sp := spR K (fun a : List Str × Int => [strsD a.1, .int a.2]) (fun a => a.1.length = 6 ∧ a.1.Nodup ∧ 0 ≤ a.2) (fun a d => ∃ x y, d = .tuple [.str x, .str y] ∧ x ∈ a.1 ∧ y ∈ a.1 ∧ x ≠ y)
abbrev sp_law_reason (K : PySem.W.Frag) (C : Addr) : Sp := spP K (fun a : Str × Str × Int × Int => [D.str a.1, .str a.2.1, .int a.2.2.1, .int a.2.2.2]) (fun _ => True) (fun a => rsnD (reasonOf a.1 a.2.1 a.2.2.1 a.2.2.2))
abbrev sp_law_struck (K : PySem.W.Frag) (C : Addr) : Sp := spR K (fun a : List Rul × S4 × List Str × List Int => [rulesD a.1, s4D a.2.1, strsD a.2.2.1, intsD a.2.2.2]) (fun a => OkL a.2.2.1 a.2.1 ∧ (∀ u ∈ a.1, OkRul u) ∧ a.1.length ≤ 8 ∧ OkNs a.2.2.1 ∧ OkX a.2.2.2 ∧ 4 ≤ a.2.2.2.length) (fun _ d => ∃ r, d = rsnD r ∧ OkR r ∧ r.k ≠ 77)
abbrev sp_law_deed (K : PySem.W.Frag) (C : Addr) : Sp := spR K (fun a : List Rul × S4 × List Str × List Int × Nat => [rulesD a.1, s4D a.2.1, strsD a.2.2.1, intsD a.2.2.2.1, .int (a.2.2.2.2 : Nat)]) (fun a => OkL a.2.2.1 a.2.1 ∧ (∀ u ∈ a.1, OkRul u) ∧ a.1.length ≤ 8 ∧ OkNs a.2.2.1 ∧ OkX a.2.2.2.1 ∧ a.2.2.2.1.length = 10 ∧ a.2.2.2.2 ≤ 100) (fun a d => ∃ e, d = deedD e ∧ DrawnOk a.2.2.1 a.2.1 a.2.2.2.2 e)
abbrev sp_law_without (K : PySem.W.Frag) (C : Addr) : Sp := spP K (fun a : List D × D => [.tuple a.1, a.2]) (fun a => a.1.length ≤ 100 ∧ Shp a.2 ∧ ∀ x ∈ a.1, Shp x) (fun a => .tuple (a.1.filter fun x => !PyData.eqv (py x) (py a.2)))
abbrev sp_law_behind (K : PySem.W.Frag) (C : Addr) : Sp := spP K (fun a : S4 × Deed => [s4D a.1, deedD a.2]) (fun a => a.2 ≠ .undo ∧ OkS a.1 ∧ ∃ ah, a.2.ok a.1 ah) (fun a => s4D (behind a.1 a.2))
abbrev sp_law_deeds (K : PySem.W.Frag) (C : Addr) : Sp := spR K (fun ns : List Int => [.scr ns]) (fun ns => ns.length ≤ 63) (fun _ d => ∃ us ns l, d = .tuple [rulesD us, strsD ns, dsD l] ∧ (∀ u ∈ us, OkRul u) ∧ us.length ≤ 4 ∧ OkNs ns ∧ l ≠ [] ∧ l.length ≤ 24 ∧ RunOk ns ⟨[], [], [], []⟩ [] l)
abbrev sp_law_do (K : PySem.W.Frag) (C : Addr) : Sp := spO K C (fun e : Deed => [deedD e]) (fun F e => OkF F ∧ e.ok F.cur F.ahead) (fun F e d F' => F' = doF F e)
abbrev sp_law_order (K : PySem.W.Frag) (C : Addr) : Sp := spR K (fun a : List Int × Nat => [intsD a.1, .int (a.2 : Nat)]) (fun a => a.1.length = 14 ∧ OkX a.1 ∧ a.2 ≤ 200) (fun a d => ∃ p : List Nat, d = .list (p.map fun i => .int (i : Nat)) ∧ p.Perm (List.range a.2))
abbrev sp_law_wanted (K : PySem.W.Frag) (C : Addr) : Sp := spP K (fun s : S4 => [s4D s]) (fun s => OkS s) (fun s => .list ((wanted s).map deedD))
/-- what a detour may start from: a part of what stands at the end -/
structure DetOk (ns : List Str) (s : S4) (F : Fo) : Prop where
  ok : OkF F
  lah : F.ahead.length ≤ 900
  lcr : F.cur.rows.length ≤ 30
  lct : F.cur.told.length ≤ 30
  lcb : F.cur.bars.length ≤ 30
  lcs : F.cur.struck.length ≤ 30
  end_ : OkS s
  names : OkNs ns
  rows : ∀ r ∈ F.cur.rows, r.n ∈ ns
  told : ∀ r ∈ F.cur.told, r ∈ s.told
  bars : ∀ r ∈ F.cur.bars, r.a ∈ ns ∧ r.b ∈ ns
  struck : ∀ r ∈ F.cur.struck, r.k ≠ 77
abbrev sp_law_detour (K : PySem.W.Frag) (C : Addr) : Sp := spO K C (fun a : S4 × List Str × List Int => [s4D a.1, strsD a.2.1, intsD a.2.2]) (fun F a => DetOk a.2.1 a.1 F ∧ a.2.2.length = 3 ∧ OkX a.2.2) (fun F a d F' => F'.rules = F.rules ∧ F'.cur = F.cur ∧ F'.ahead.length ≤ F.ahead.length + 2 ∧ ∀ s ∈ F'.ahead, OkS s)
abbrev sp_law_without_rows (K : PySem.W.Frag) (C : Addr) : Sp := spP K (fun a : List Rul × S4 × List Str => [rulesD a.1, s4D a.2.1, strsD a.2.2]) (fun a => OkS a.2.1 ∧ (∀ u ∈ a.1, OkRul u) ∧ a.1.length ≤ 8 ∧ a.2.2.length ≤ 100 ∧ ∀ n ∈ a.2.2, OkN n) (fun a => grD (groundM a.1 { a.2.1 with rows := a.2.1.rows.filter fun r => !decide (r.n ∈ a.2.2) }))
abbrev sp_law (K : PySem.W.Frag) (C : Addr) : Sp := fun vs H Q _ => ∃ (a : Addr) (ns : List Int), vs = [.ref a] ∧ SqL K H a (ns.map V.int) ∧ ns.length ≤ 63 ∧ ∀ H', Q (.bl true) H'
end
end FK

set_option Elab.async false
set_option linter.all false
set_option maxRecDepth 100000
set_option maxHeartbeats 4000000
/-! Reading expressions by themselves. -/
namespace FK
open PySem PySem.Spec PyProof.Rows L2 FR
section
variable {K : PySem.W.Frag} {C : Addr} {ρ : List Sl} {te ta tb : TE} {x y z d : D}
theorem all_lt {vs : List Nat} {n : Nat} (h : vs.all (fun v => Nat.blt v n) = true) : ∀ v ∈ vs, v < n := fun v hv => by
  have q := List.all_eq_true.mp h v hv
  exact Nat.le_of_ble_eq_true q
theorem lt_b {a b : Nat} (h : Nat.ble (a + 1) b = true) : a < b := Nat.le_of_ble_eq_true h
theorem set_set {i : Nat} {a b : Sl} : (ρ.set i a).set i b = ρ.set i b := List.set_set ..
theorem ev_tupB {tz : TA} {xs : List D} (h : EvA K C tz ρ xs) (hz : Nat.ble xs.length 1000 = true) : EvP K C (tTupP tz) ρ (.tuple xs) := ev_tup h (Nat.le_trans (Nat.le_of_ble_eq_true hz) (by decide))
theorem ev_lstB {tz : TA} {xs : List D} (h : EvA K C tz ρ xs) (hz : Nat.ble xs.length 1000 = true) : EvP K C (tLst tz) ρ (.list xs) := ev_lst h (Nat.le_trans (Nat.le_of_ble_eq_true hz) (by decide))
theorem ev_fil {α : Type} {wi : TI} {tt : TT} {i : Nat} {xs : List α} {emb : α → D} (c : α → Bool) (f : α → D) (h : EvI K C wi ρ xs emb) (hz : xs.length < 100000) (hi : i < ρ.length)
    (ht : ∀ a ∈ xs, EvB K C tt (ρ.set i (.dat (emb a))) (c a)) (he : ∀ a ∈ xs, c a = true → EvP K C te (ρ.set i (.dat (emb a))) (f a)) : EvP K C (tLc wi (gName i) tt te [i]) ρ (.list ((xs.filter c).map f)) := by
  have e : ∀ a, setS (wipeS ρ [i]) [(i, emb a)] = ρ.set i (.dat (emb a)) := fun a => List.set_set ..
  refine ev_lc h hz (fun v hv => ?_) c f (fun a => [(i, emb a)]) (fun a _ p hp => ?_) (fun a _ => gt_name) (fun a ha => ?_) (fun a ha hc => ?_)
  · rw [List.mem_singleton] at hv
    rw [hv]
    exact hi
  · rw [List.mem_singleton] at hp
    rw [hp]
    exact List.mem_singleton.mpr rfl
  · rw [e]
    exact ht a ha
  · rw [e]
    exact he a ha hc
theorem ev_map {α : Type} {wi : TI} {i : Nat} {xs : List α} {emb : α → D} (f : α → D) (h : EvI K C wi ρ xs emb) (hz : xs.length < 100000) (hi : i < ρ.length)
    (he : ∀ a ∈ xs, EvP K C te (ρ.set i (.dat (emb a))) (f a)) : EvP K C (tLc wi (gName i) tYes te [i]) ρ (.list (xs.map f)) := by
  have q := ev_fil (fun _ => true) f h hz hi (fun a _ => eb_yes) (fun a ha _ => he a ha)
  rw [List.filter_eq_self.mpr (fun _ _ => rfl)] at q
  exact q
theorem rd_ixT' {xs : List D} {i : Nat} {d : D} (h : xs[i]? = some d) : RD K (rIx K) (.tuple xs) (.int (i : Nat)) d := rd_ixT (by rw [atI_nat]; exact h)
end
local macro_rules | `(tactic| walk_at "rd") => `(tactic| first
  | exact rd_addI | exact rd_subI | exact rd_leI | exact rd_ltI | exact rd_geI | exact rd_gtI | exact rd_ltS | exact rd_eqI | exact rd_neI | exact rd_eqS | exact rd_neS
  | exact rd_isNN | exact rd_isNS | exact rd_notNN | exact rd_notNS | exact rd_inS
  | exact rd_ixT rfl | exact rd_ixL rfl
  | exact rd_modI (by decide) | exact rd_modI (by assumption)
  | exact rd_mulI (by assumption) | exact rd_divI (by assumption) | exact rd_addS (by assumption) | exact rd_mulS (by assumption) | exact rd_ixL (by assumption) | exact rd_ixT (by assumption)
  | assumption)
local macro_rules | `(tactic| walk_at "ev") => `(tactic| first
  | exact ev_var rfl | exact ev_int | exact ev_str | exact ev_bl | exact ev_non
  | assumption
  | exact ev_op (by walk_at "ev") (by walk_at "ev") (by walk_at "rd")
  | exact ev_tup (by walk_at "ev") | exact ev_cb (by walk_at "ev") (by walk_at "rc") | exact ea_nil | exact ea_cons (by walk_at "ev") (by walk_at "ev")
  | exact ev_andV (by walk_at "ev") (fun _ => by walk_at "ev") | exact ev_orV (by walk_at "ev") (fun _ => by walk_at "ev") | exact ev_notV (by walk_at "ev")
  | exact ev_chain (by walk_at "ev") (by walk_at "ev") (by walk_at "ev") (by walk_at "rd") (fun _ => by walk_at "rd")
  | exact eb_and (by walk_at "ev") (fun _ => by walk_at "ev") | exact eb_or (by walk_at "ev") (fun _ => by walk_at "ev") | exact eb_not (by walk_at "ev") | exact eb_test (by walk_at "ev") | exact eb_B (by walk_at "ev")
  | exact ev_isi (by walk_at "ev") (by intro _ z; cases z) rfl)
local macro_rules | `(tactic| walk_at "rc") => `(tactic| first
  | exact rc_lenL | exact rc_lenT | exact rc_lenScr | exact rc_minI | exact rc_maxI | exact rc_minS | exact rc_maxS | exact rc_tup | exact rc_listT | exact rc_intB | exact rc_abs | exact rc_lenS (by assumption) | exact rc_any | exact rc_all | assumption)
end FK

set_option Elab.async false
set_option linter.all false
set_option maxRecDepth 100000
set_option maxHeartbeats 4000000
/-! Plain facts about data. -/
namespace FK
open PySem PySem.Spec PyProof.Rows L2 FR
theorem eqv_str (a b : PySem.Str) : PyData.eqv (.str a) (.str b) = decide (a = b) := by
  simp only [PyData.eqv]
  by_cases h : a = b
  · rw [h]
    simp
  · rw [decide_eq_false h]
    simpa using h
theorem eqv_int (a b : Int) : PyData.eqv (.int a) (.int b) = decide (a = b) := by
  simp only [PyData.eqv]
  by_cases h : a = b
  · rw [h]
    simp
  · rw [decide_eq_false h]
    simpa using h
theorem eqv_4 (a b c d a' b' c' d' : PyData) : PyData.eqv (.tuple [a, b, c, d]) (.tuple [a', b', c', d']) = (PyData.eqv a a' && (PyData.eqv b b' && (PyData.eqv c c' && PyData.eqv d d'))) := by
  simp only [PyData.eqv, PyData.eqvAll, Bool.and_true]
theorem eqv_3 (a b c a' b' c' : PyData) : PyData.eqv (.tuple [a, b, c]) (.tuple [a', b', c']) = (PyData.eqv a a' && (PyData.eqv b b' && PyData.eqv c c')) := by
  simp only [PyData.eqv, PyData.eqvAll, Bool.and_true]
theorem py_rsn (r : Rsn) : py (rsnD r) = .tuple [.int r.w, .str r.a, .str r.b, .int r.k] := by simp only [py, pyAll]
theorem py_br (r : Br) : py (brD r) = .tuple [.str r.a, .str r.b, .int r.k] := by simp only [py, pyAll]
theorem eqv_rsn (r s : Rsn) : PyData.eqv (py (rsnD r)) (py (rsnD s)) = decide (r = s) := by
  rw [py_rsn, py_rsn, eqv_4, eqv_int, eqv_str, eqv_str, eqv_int]
  cases r
  cases s
  simp only [Rsn.mk.injEq, Bool.decide_and]
theorem eqv_br (r s : Br) : PyData.eqv (py (brD r)) (py (brD s)) = decide (r = s) := by
  rw [py_br, py_br, eqv_3, eqv_str, eqv_str, eqv_int]
  cases r
  cases s
  simp only [Br.mk.injEq, Bool.decide_and]
theorem any_map {α : Type} [DecidableEq α] (e : α → D) (h : ∀ x y, PyData.eqv (py (e x)) (py (e y)) = decide (x = y)) (x : α) : ∀ l : List α, ((pyAll (l.map e)).any fun z => PyData.eqv z (py (e x))) = decide (x ∈ l)
  | [] => by simp [pyAll]
  | y :: l => by
    rw [List.map_cons, pyAll, List.any_cons, any_map e h x l, h]
    by_cases q : y = x
    · simp [q]
    · have q' : ¬ x = y := fun z => q z.symm
      simp [q, q']
theorem any_strs (x : PySem.Str) (l : List PySem.Str) : ((pyAll (l.map strD)).any fun z => PyData.eqv z (py (strD x))) = decide (x ∈ l) := any_map strD (fun a b => by simp only [py]; exact eqv_str a b) x l
theorem any_rsns (x : Rsn) (l : List Rsn) : ((pyAll (l.map rsnD)).any fun z => PyData.eqv z (py (rsnD x))) = decide (x ∈ l) := any_map rsnD eqv_rsn x l
theorem any_brs (x : Br) (l : List Br) : ((pyAll (l.map brD)).any fun z => PyData.eqv z (py (brD x))) = decide (x ∈ l) := any_map brD eqv_br x l
/-! ### shapes -/
theorem low_ok {s : PySem.Str} (h : OkW s) : PyData.strOk s = true := by
  unfold PyData.strOk
  rw [Array.all_eq_true']
  intro c hc
  have := h.low c (Array.mem_toList_iff.mpr hc)
  exact decide_eq_true (Nat.lt_trans this (by decide))
theorem shp_of {d : D} (h : (py d).canLay0 = true) (n : (py d).depth ≤ 64) : Shp d := by
  unfold Shp SeqAt.shaped
  rw [h, decide_eq_true n]
  rfl
theorem lay_str {s : PySem.Str} (h : OkW s) : (py (strD s)).canLay0 = true := by
  simp only [py, PyData.canLay0]
  exact low_ok h
theorem dep_str (s : PySem.Str) : (py (strD s)).depth = 0 := by simp only [py, PyData.depth]
theorem shp_str {s : PySem.Str} (h : OkW s) : Shp (strD s) := shp_of (lay_str h) (by rw [dep_str]; decide)
theorem lay_rsn {r : Rsn} (h1 : OkW r.a) (h2 : OkW r.b) : (py (rsnD r)).canLay0 = true := by
  rw [py_rsn]
  simp only [PyData.canLay0, PyData.canLayAll0, low_ok h1, low_ok h2, Bool.and_self]
theorem dep_rsn (r : Rsn) : (py (rsnD r)).depth = 1 := by
  rw [py_rsn]
  simp only [PyData.depth, PyData.depthAll, Nat.max_self]
theorem shp_rsn {r : Rsn} (h1 : OkW r.a) (h2 : OkW r.b) : Shp (rsnD r) := shp_of (lay_rsn h1 h2) (by rw [dep_rsn]; decide)
theorem lay_br {r : Br} (h1 : OkW r.a) (h2 : OkW r.b) : (py (brD r)).canLay0 = true := by
  rw [py_br]
  simp only [PyData.canLay0, PyData.canLayAll0, low_ok h1, low_ok h2, Bool.and_self]
theorem dep_br (r : Br) : (py (brD r)).depth = 1 := by
  rw [py_br]
  simp only [PyData.depth, PyData.depthAll, Nat.max_self]
theorem shp_br {r : Br} (h1 : OkW r.a) (h2 : OkW r.b) : Shp (brD r) := shp_of (lay_br h1 h2) (by rw [dep_br]; decide)
theorem lay_all {α : Type} (e : α → D) : ∀ {l : List α}, (∀ x ∈ l, (py (e x)).canLay0 = true) → PyData.canLayAll0 (pyAll (l.map e)) = true
  | [], _ => by simp only [List.map_nil, pyAll, PyData.canLayAll0]
  | x :: l, h => by
    rw [List.map_cons, pyAll, PyData.canLayAll0, h x List.mem_cons_self, lay_all e fun y hy => h y (List.mem_cons_of_mem _ hy)]
    rfl
theorem dep_all {α : Type} (e : α → D) {n : Nat} : ∀ {l : List α}, (∀ x ∈ l, (py (e x)).depth ≤ n) → PyData.depthAll (pyAll (l.map e)) ≤ n
  | [], _ => by
    simp only [List.map_nil, pyAll, PyData.depthAll]
    exact Nat.zero_le _
  | x :: l, h => by
    rw [List.map_cons, pyAll, PyData.depthAll]
    exact Nat.max_le.mpr ⟨h x List.mem_cons_self, dep_all e fun y hy => h y (List.mem_cons_of_mem _ hy)⟩
theorem lay_list {α : Type} (e : α → D) {l : List α} (h : ∀ x ∈ l, (py (e x)).canLay0 = true) : (py (.list (l.map e))).canLay0 = true := by
  simp only [py, PyData.canLay0]
  exact lay_all e h
theorem lay_tup {α : Type} (e : α → D) {l : List α} (h : ∀ x ∈ l, (py (e x)).canLay0 = true) : (py (.tuple (l.map e))).canLay0 = true := by
  simp only [py, PyData.canLay0]
  exact lay_all e h
theorem lay_ptup {α : Type} (e : α → D) {l : List α} (h : ∀ x ∈ l, (py (e x)).canLay0 = true) : (py (.ptup (l.map e))).canLay0 = true := by
  simp only [py, PyData.canLay0]
  exact lay_all e h
theorem dep_list {α : Type} (e : α → D) {l : List α} {n : Nat} (h : ∀ x ∈ l, (py (e x)).depth ≤ n) : (py (.list (l.map e))).depth ≤ n + 1 := by
  simp only [py, PyData.depth]
  exact Nat.succ_le_succ (dep_all e h)
theorem dep_tup {α : Type} (e : α → D) {l : List α} {n : Nat} (h : ∀ x ∈ l, (py (e x)).depth ≤ n) : (py (.tuple (l.map e))).depth ≤ n + 1 := by
  simp only [py, PyData.depth]
  exact Nat.succ_le_succ (dep_all e h)
theorem dep_ptup {α : Type} (e : α → D) {l : List α} {n : Nat} (h : ∀ x ∈ l, (py (e x)).depth ≤ n) : (py (.ptup (l.map e))).depth ≤ n + 1 := by
  simp only [py, PyData.depth]
  exact Nat.succ_le_succ (dep_all e h)
theorem shp_list {α : Type} (e : α → D) {l : List α} (h : ∀ x ∈ l, (py (e x)).canLay0 = true) (n : ∀ x ∈ l, (py (e x)).depth ≤ 60) : Shp (.list (l.map e)) := shp_of (lay_list e h) (Nat.le_trans (dep_list e n) (by decide))
theorem shp_tup {α : Type} (e : α → D) {l : List α} (h : ∀ x ∈ l, (py (e x)).canLay0 = true) (n : ∀ x ∈ l, (py (e x)).depth ≤ 60) : Shp (.tuple (l.map e)) := shp_of (lay_tup e h) (Nat.le_trans (dep_tup e n) (by decide))
theorem shp_strs {l : List PySem.Str} (h : ∀ x ∈ l, OkW x) : Shp (strsD l) := shp_list strD (fun x hx => lay_str (h x hx)) (fun x _ => by rw [dep_str]; decide)
theorem shp_namesT {l : List PySem.Str} (h : ∀ x ∈ l, OkW x) : Shp (namesD l) := shp_tup strD (fun x hx => lay_str (h x hx)) (fun x _ => by rw [dep_str]; decide)
theorem shp_rsns {l : List Rsn} (h : ∀ x ∈ l, OkW x.a ∧ OkW x.b) : Shp (rsnsD l) := shp_tup rsnD (fun x hx => lay_rsn (h x hx).1 (h x hx).2) (fun x _ => by rw [dep_rsn]; decide)
theorem shp_brs {l : List Br} (h : ∀ x ∈ l, OkW x.a ∧ OkW x.b) : Shp (brsD l) := shp_tup brD (fun x hx => lay_br (h x hx).1 (h x hx).2) (fun x _ => by rw [dep_br]; decide)
theorem lay_word {p : PySem.Str × PySem.Str} (h : OkW p.1 ∧ OkW p.2) : (py (wordD p)).canLay0 = true := by
  simp only [py, pyAll, PyData.canLay0, PyData.canLayAll0, low_ok h.1, low_ok h.2, Bool.and_self]
theorem dep_word (p : PySem.Str × PySem.Str) : (py (wordD p)).depth = 1 := by
  simp only [py, pyAll, PyData.depth, PyData.depthAll, Nat.max_self]
theorem lay_row {r : Row} (h : OkRow r) : (py (rowD r)).canLay0 = true := by
  have h1 := lay_ptup wordD fun p hp => lay_word (h.words p hp)
  have h2 := low_ok h.name.w
  simp only [py, pyAll, PyData.canLay0, PyData.canLayAll0, h2, Bool.true_and, Bool.and_true] at h1 ⊢
  exact h1
theorem dep_row (r : Row) : (py (rowD r)).depth ≤ 3 := by
  have h1 := dep_ptup wordD (l := r.ws) (n := 1) fun p _ => by rw [dep_word]; decide
  have e : py (rowD r) = .tuple [.str r.n, py (.ptup (r.ws.map wordD))] := by simp only [py, pyAll]
  rw [e]
  simp only [PyData.depth, PyData.depthAll]
  omega
theorem shp_row {r : Row} (h : OkRow r) : Shp (rowD r) := shp_of (lay_row h) (Nat.le_trans (dep_row r) (by decide))
end FK

set_option Elab.async false
set_option linter.all false
set_option maxRecDepth 100000
set_option maxHeartbeats 4000000
namespace FK
open PySem PySem.Spec PyProof.Rows L2 FR
local macro_rules | `(tactic| walk_at "rd") => `(tactic| first
  | with_reducible exact rd_addI | with_reducible exact rd_subI | with_reducible exact rd_leI | with_reducible exact rd_ltI | with_reducible exact rd_geI | with_reducible exact rd_gtI | with_reducible exact rd_ltS | with_reducible exact rd_eqI | with_reducible exact rd_neI | with_reducible exact rd_eqS | with_reducible exact rd_neS
  | with_reducible exact rd_isNN | with_reducible exact rd_isNS | with_reducible exact rd_notNN | with_reducible exact rd_notNS | with_reducible exact rd_inS
  | ((with_reducible apply rd_ixT); rfl) | ((with_reducible apply rd_ixL); rfl)
  | ((with_reducible apply rd_modI); first | decide | assumption)
  | ((with_reducible apply rd_mulI); assumption) | ((with_reducible apply rd_powI); assumption) | ((with_reducible apply rd_divI); assumption) | ((with_reducible apply rd_addS); assumption) | ((with_reducible apply rd_mulS); assumption) | ((with_reducible apply rd_ixL); assumption) | ((with_reducible apply rd_ixT); assumption)
  | with_reducible assumption)
local macro_rules | `(tactic| walk_at "rc") => `(tactic| first
  | with_reducible exact rc_lenL | with_reducible exact rc_lenT | with_reducible exact rc_lenScr | with_reducible exact rc_minI | with_reducible exact rc_maxI | with_reducible exact rc_minS | with_reducible exact rc_maxS | with_reducible exact rc_tup | with_reducible exact rc_listT | with_reducible exact rc_intB | with_reducible exact rc_abs
  | ((with_reducible apply rc_lenS); assumption) | with_reducible exact rc_any | with_reducible exact rc_all | with_reducible assumption)
local macro_rules | `(tactic| walk_at "ev") => `(tactic| first
  | ((with_reducible apply ev_var); rfl) | with_reducible exact ev_int | with_reducible exact ev_str | with_reducible exact ev_bl | with_reducible exact ev_non | with_reducible exact ea_nil
  | with_reducible assumption
  | ((with_reducible apply ev_op); walk_at "ev"; walk_at "ev"; walk_at "rd")
  | ((with_reducible apply ea_cons); walk_at "ev"; walk_at "ev")
  | ((with_reducible apply ev_cb); walk_at "ev"; walk_at "rc")
  | ((with_reducible apply ev_tupB); walk_at "ev"; rfl) | ((with_reducible apply ev_lstB); walk_at "ev"; rfl)
  | ((with_reducible apply ev_andV); walk_at "ev"; (intro _; walk_at "ev")) | ((with_reducible apply ev_orV); walk_at "ev"; (intro _; walk_at "ev")) | ((with_reducible apply ev_notV); walk_at "ev")
  | ((with_reducible apply ev_chain); walk_at "ev"; walk_at "ev"; walk_at "ev"; walk_at "rd"; (intro _; walk_at "rd"))
  | ((with_reducible apply eb_and); walk_at "ev"; (intro _; walk_at "ev")) | ((with_reducible apply eb_or); walk_at "ev"; (intro _; walk_at "ev")) | ((with_reducible apply eb_not); walk_at "ev") | ((with_reducible apply eb_test); walk_at "ev") | ((with_reducible apply eb_B); walk_at "ev")
  | ((with_reducible apply ev_isi (b := true)); walk_at "ev"; (intro _ z; cases z); rfl) | ((with_reducible apply ev_isi (b := false)); walk_at "ev"; (intro _ z; cases z); rfl))


theorem small_in {c : Nat} (h : 97 ≤ c ∧ c ≤ 122) : c ∈ ("abcdefghijklmnopqrstuvwxyz" : PySem.Str).cps.toList := by
  have q : ∀ i : Fin 26, (97 + i.val) ∈ ("abcdefghijklmnopqrstuvwxyz" : PySem.Str).cps.toList := by decide +kernel
  have := q ⟨c - 97, by omega⟩
  rw [show 97 + (c - 97) = c by omega] at this
  exact this
theorem len_small {s : PySem.Str} (h : s.length ≤ 8) : s.length ≤ sizeLine := Nat.le_trans h (by decide)
def kvsOf (r : Row) : List (PySem.Str × D) := r.ws.map fun p => (p.1, .str p.2)
theorem kvs_pairs (r : Row) : r.ws.map wordD = pairsD (kvsOf r) := by
  unfold pairsD kvsOf
  rw [List.map_map]
  rfl
theorem kvs_nodup {r : Row} (h : OkRow r) : ((kvsOf r).map (·.1)).Nodup := by
  unfold kvsOf
  rw [List.map_map]
  exact h.nodup
theorem kvs_look (r : Row) (f : PySem.Str) : (lookD (kvsOf r) f).getD .none = wD (lookW r f) := by
  unfold lookD kvsOf lookW
  induction r.ws with
  | nil => rfl
  | cons p l ih =>
    rw [List.map_cons]
    by_cases e : p.1 = f
    · rw [List.find?_cons_of_pos (by simpa using e), List.find?_cons_of_pos (by simpa using e)]
      rfl
    · rw [List.find?_cons_of_neg (by simpa using e), List.find?_cons_of_neg (by simpa using e)]
      exact ih
theorem ev_look {K : PySem.W.Frag} {C : Addr} {ρ : List Sl} {tr tf : TE} {r : Row} {f : PySem.Str} (h : OkRow r) (h1 : EvP K C tr ρ (rowD r)) (h2 : EvP K C tf ρ (.str f)) :
    EvP K C (tDGet1 (tCB (rDictU K) (tCons (tOp (rIx K) tr (tC (.int 1))) tNil)) tf) ρ (wD (lookW r f)) := by
  refine EvP.eq (ev_get1 (kvs := kvsOf r) (ev_cb (ea_cons (ev_op h1 ev_int (rd_ixT rfl)) ea_nil) ?_) h2) (kvs_look r f)
  rw [kvs_pairs]
  exact rc_dictP (kvs_nodup h)
theorem look_ok {r : Row} {f s : PySem.Str} (h : OkRow r) (e : lookW r f = some s) : OkW s := by
  unfold lookW at e
  cases q : r.ws.find? (fun q => decide (q.1 = f)) with
  | none =>
    rw [q] at e
    cases e
  | some p =>
    rw [q] at e
    cases e
    exact (h.words p (List.mem_of_find?_eq_some q)).2
theorem shp_non : Shp .none := rfl
section
variable {K : PySem.W.Frag} {C : Addr} {ρ : List Sl} {ta tb : TE}
theorem ev_eqW {x y : Option PySem.Str} (hx : ∀ s, x = some s → OkW s) (hy : ∀ s, y = some s → OkW s) (h1 : EvP K C ta ρ (wD x)) (h2 : EvP K C tb ρ (wD y)) : EvP K C (tOp (rEqU K) ta tb) ρ (.bool (decide (x = y))) := by
  have e : ∀ x y : Option PySem.Str, PyData.eqv (py (wD x)) (py (wD y)) = decide (x = y) := by
    intro x y
    cases x with
    | none =>
      cases y with
      | none => simp only [wD, py, PyData.eqv, decide_true]
      | some t =>
        simp only [wD, py, PyData.eqv]
        simp
    | some s =>
      cases y with
      | none =>
        simp only [wD, py, PyData.eqv]
        simp
      | some t =>
        simp only [wD, py]
        rw [eqv_str]
        simp
  have sh : ∀ x : Option PySem.Str, (∀ s, x = some s → OkW s) → Shp (wD x) := by
    intro x h
    cases x with
    | none => exact shp_non
    | some s => exact shp_str (h s rfl)
  rw [← e]
  exact ev_op h1 h2 (rd_eqD (sh x hx) (sh y hy))
theorem ev_notW {x : Option PySem.Str} (h1 : EvP K C ta ρ (wD x)) : EvP K C (tOp rNotNU ta (tC .non)) ρ (.bool x.isSome) := by
  cases x with
  | none => exact ev_op h1 ev_non rd_notNN
  | some s => exact ev_op h1 ev_non rd_notNS
theorem ev_isW {x : Option PySem.Str} (h1 : EvP K C ta ρ (wD x)) : EvP K C (tOp rIsNU ta (tC .non)) ρ (.bool x.isNone) := by
  cases x with
  | none => exact ev_op h1 ev_non rd_isNN
  | some s => exact ev_op h1 ev_non rd_isNS
end
theorem one_is (r o : Row) (f : PySem.Str) : oneM r o f = ((lookW r f).isSome && decide (lookW r f = lookW o f)) := by
  unfold oneM
  cases lookW r f with
  | none => rfl
  | some s => rfl
abbrev emW (a : Row × PySem.Str) : List D := [rowD a.1, .str a.2]
theorem len_w {s : PySem.Str} (h : OkW s) : s.length ≤ sizeLine := Nat.le_trans h.len (by decide)
theorem flat_all {α : Type} {e : α → D} (h : ∀ x, flat (e x) = true) : ∀ l : List α, flat.flatAll (l.map e) = true
  | [] => rfl
  | x :: l => by
    rw [List.map_cons, flat.flatAll, h x, flat_all h l]
    rfl
theorem flat_tup {α : Type} {e : α → D} (h : ∀ x, flat (e x) = true) (l : List α) : flat (.tuple (l.map e)) = true := by
  rw [flat]
  exact flat_all h l
theorem flat_ptup {α : Type} {e : α → D} (h : ∀ x, flat (e x) = true) (l : List α) : flat (.ptup (l.map e)) = true := by
  rw [flat]
  exact flat_all h l
theorem flat_row (r : Row) : flat (rowD r) = true := by
  simp only [flat, flat.flatAll, Bool.true_and, Bool.and_true]
  exact flat_all (fun x => rfl) r.ws
theorem flat_gr (g : Gr) : flat (grD g) = true := by
  have h1 : flat (namesD g.names) = true := flat_tup (fun x => rfl) _
  have h2 : flat (rsnsD g.reasons) = true := flat_tup (fun x => rfl) _
  have h3 : flat (brsD g.bars) = true := flat_tup (fun x => rfl) _
  show flat.flatAll [namesD g.names, rsnsD g.reasons, brsD g.bars] = true
  simp only [flat.flatAll, h1, h2, h3, Bool.and_self]
theorem lay_s4 {s : S4} (h : OkS s) : (py (s4D s)).canLay0 = true := by
  have h1 := lay_tup rowD fun r hr => lay_row (h.rows r hr)
  have h2 := lay_tup rsnD fun r hr => lay_rsn (h.told r hr).a.w (h.told r hr).b.w
  have h3 := lay_tup brD fun r hr => lay_br (h.bars r hr).a.w (h.bars r hr).b.w
  have h4 := lay_tup rsnD fun r hr => lay_rsn (h.struck r hr).a.w (h.struck r hr).b.w
  have e : py (s4D s) = .tuple [py (rowsD s.rows), py (rsnsD s.told), py (brsD s.bars), py (rsnsD s.struck)] := by simp only [py, pyAll]
  rw [e]
  simp only [PyData.canLay0, PyData.canLayAll0, h1, h2, h3, h4, Bool.and_self]
theorem dep_s4 (s : S4) : (py (s4D s)).depth ≤ 6 := by
  have h1 : (py (rowsD s.rows)).depth ≤ 4 := dep_tup rowD (l := s.rows) (n := 3) fun r _ => dep_row r
  have h2 : (py (rsnsD s.told)).depth ≤ 4 := dep_tup rsnD (l := s.told) (n := 3) fun r _ => by rw [dep_rsn]; decide
  have h3 : (py (brsD s.bars)).depth ≤ 4 := dep_tup brD (l := s.bars) (n := 3) fun r _ => by rw [dep_br]; decide
  have h4 : (py (rsnsD s.struck)).depth ≤ 4 := dep_tup rsnD (l := s.struck) (n := 3) fun r _ => by rw [dep_rsn]; decide
  have e : py (s4D s) = .tuple [py (rowsD s.rows), py (rsnsD s.told), py (brsD s.bars), py (rsnsD s.struck)] := by simp only [py, pyAll]
  rw [e]
  simp only [PyData.depth, PyData.depthAll]
  omega
section
variable {K : PySem.W.Frag} {C : Addr} {ρ : List Sl}
theorem eb_ahead {i : Nat} {p l : Addr} {F : Fo} (hi : ρ[i]? = some (.fol p l F)) (c : Cls K C) (n : NoAttr K C "ahead") (h : OkF F) (hne : F.ahead ≠ []) : EvB K C (tTest (tOp (rEqU K) (tFld K (tVar i) "ahead") (tLst tNil))) ρ false := fun Hi σ H Q S q => by
  obtain ⟨e0, ⟨dx, v1, v2, v3, v4, v5, ls, f0, f1, f2, f3, f4, f5, f6, f7⟩, _, _, _⟩ := S.slotF hi
  refine ⟨.ref p, e0, p, C, dx, _, .ref l, rfl, f0, c, n, fld_ahead, Nat.zero_le _, fun l2 h2 => .inr ?_⟩
  have g : Same H (upd H l2 (.lst [])) := same_new h2
  have hl := lay_list s4D (l := F.ahead) fun s hs => lay_s4 (h.ah s hs)
  have hd := dep_list s4D (l := F.ahead) (n := 6) fun s _ => dep_s4 s
  have e : py (.list (F.ahead.map s4D)) = .list (pyAll (F.ahead.map s4D)) := by simp only [py]
  have hl' : PyData.canLayAll0 (pyAll (F.ahead.map s4D)) = true := by
    rw [e] at hl
    simpa only [PyData.canLay0] using hl
  refine ⟨py (.list (F.ahead.map s4D)), py (.list []), ?_, ?_, shp_of hl (Nat.le_trans hd (by decide)), shp_of (by simp only [py, pyAll, PyData.canLay0, PyData.canLayAll0]) (by simp [py, pyAll, PyData.depth, PyData.depthAll]), false, ?_, q _ g⟩
  · rw [e]
    exact .lst (SqL.of (g _ _ f6)) (DdAll.dp _ hl' (DdAll.mono (S.ex.trans g) _ f7))
  · have e2 : py (.list []) = .list [] := by simp only [py, pyAll]
    rw [e2]
    exact .lst (SqL.of upd_same) .nil
  · cases hF : F.ahead with
    | nil => exact absurd hF hne
    | cons s l =>
      simp only [List.map_cons, py, pyAll, PyData.eqv, PyData.eqvAll]
end
theorem fl_F_stands : ∀ (F : Fo) (a : PySem.Str), OkF F → flat (D.bool (decide (a ∈ F.cur.rows.map (·.n)))) = true := fun _ _ _ => rfl
theorem rows_w {s : S4} (h : OkS s) : ∀ x ∈ s.rows.map (·.n), OkW x := fun x hx => by
  obtain ⟨r, h1, h2⟩ := List.mem_map.mp hx
  rw [← h2]
  exact (h.rows r h1).name.w
theorem fl_F_two : ∀ (F : Fo) (a : PySem.Str × PySem.Str), OkN a.1 ∧ OkN a.2 ∧ a.1 ≠ a.2 → flat (D.tuple [D.str (minS a.1 a.2), D.str (maxS a.1 a.2)]) = true := fun _ _ _ => rfl
theorem fl_F_told_reason : ∀ (F : Fo) (a : PySem.Str × PySem.Str × Int), OkN a.1 ∧ OkN a.2.1 ∧ a.1 ≠ a.2.1 ∧ 1 ≤ a.2.2 ∧ a.2.2 ≤ 1000 → flat (rsnD (reasonOf a.1 a.2.1 a.2.2 100)) = true := fun _ _ _ => rfl
theorem ltS_tri {a b : PySem.Str} (h : a ≠ b) : ltS a b = true ∨ ltS b a = true := by
  unfold ltS
  rcases Std.lt_trichotomy a.cps.toList b.cps.toList with q | q | q
  · exact .inl (decide_eq_true q)
  · exfalso
    apply h
    cases a
    cases b
    congr 1
    exact Array.toList_inj.mp q
  · exact .inr (decide_eq_true q)
theorem ltS_asym {a b : PySem.Str} (h : ltS a b = true) : ltS b a = false := by
  unfold ltS at h ⊢
  have h' := of_decide_eq_true h
  exact decide_eq_false fun q => List.lt_asymm h' q
theorem minmax_lt {a b : PySem.Str} (h : a ≠ b) : ltS (minS a b) (maxS a b) = true := by
  unfold minS maxS
  rcases ltS_tri h with q | q
  · rw [if_neg (by rw [ltS_asym q]; exact Bool.false_ne_true), if_pos q]
    exact q
  · rw [if_pos q, if_neg (by rw [ltS_asym q]; exact Bool.false_ne_true)]
    exact q
theorem minS_or (a b : PySem.Str) : minS a b = a ∨ minS a b = b := by
  unfold minS
  by_cases h : ltS b a = true
  · exact .inr (if_pos h)
  · exact .inl (if_neg h)
theorem maxS_or (a b : PySem.Str) : maxS a b = a ∨ maxS a b = b := by
  unfold maxS
  by_cases h : ltS a b = true
  · exact .inr (if_pos h)
  · exact .inl (if_neg h)
theorem ok_reason {a b : PySem.Str} {w k : Int} (ha : OkN a) (hb : OkN b) (hab : a ≠ b) (h1 : 1 ≤ w) (h2 : w ≤ 1000) (h3 : 0 ≤ k) : OkR (reasonOf a b w k) := by
  refine ⟨?_, ?_, minmax_lt hab, h1, h2, h3⟩
  · rcases minS_or a b with e | e <;> (show OkN (minS a b); rw [e]; assumption)
  · rcases maxS_or a b with e | e <;> (show OkN (maxS a b); rw [e]; assumption)
theorem ok_bar {a b : PySem.Str} (ha : OkN a) (hb : OkN b) (hab : a ≠ b) : OkB (barOf a b) := by
  refine ⟨?_, ?_, minmax_lt hab, (by show (0 : Int) ≤ 100; decide)⟩
  · rcases minS_or a b with e | e <;> (show OkN (minS a b); rw [e]; assumption)
  · rcases maxS_or a b with e | e <;> (show OkN (maxS a b); rw [e]; assumption)
theorem told_shp {l : List Rsn} (h : ∀ r ∈ l, OkR r) : Shp (rsnsD l) := shp_rsns fun r hr => ⟨(h r hr).a.w, (h r hr).b.w⟩
theorem bars_shp {l : List Br} (h : ∀ r ∈ l, OkB r) : Shp (brsD l) := shp_brs fun r hr => ⟨(h r hr).a.w, (h r hr).b.w⟩
section
variable {K : PySem.W.Frag} {C : Addr} {ρ : List Sl} {ta tb : TE}
theorem ev_inR {r : Rsn} {l : List Rsn} (hr : OkR r) (hl : ∀ r ∈ l, OkR r) (h1 : EvP K C ta ρ (rsnD r)) (h2 : EvP K C tb ρ (rsnsD l)) : EvP K C (tOp (rInU K) ta tb) ρ (.bool (decide (r ∈ l))) := by
  rw [← any_rsns]
  exact ev_op h1 h2 (rd_inT (shp_rsn hr.a.w hr.b.w) (told_shp hl))
theorem ev_notInR {r : Rsn} {l : List Rsn} (hr : OkR r) (hl : ∀ r ∈ l, OkR r) (h1 : EvP K C ta ρ (rsnD r)) (h2 : EvP K C tb ρ (rsnsD l)) : EvP K C (tOp (rNotInU K) ta tb) ρ (.bool (!decide (r ∈ l))) := by
  rw [← any_rsns]
  exact ev_op h1 h2 (rd_notInT (shp_rsn hr.a.w hr.b.w) (told_shp hl))
theorem ev_inB {r : Br} {l : List Br} (hr : OkB r) (hl : ∀ r ∈ l, OkB r) (h1 : EvP K C ta ρ (brD r)) (h2 : EvP K C tb ρ (brsD l)) : EvP K C (tOp (rInU K) ta tb) ρ (.bool (decide (r ∈ l))) := by
  rw [← any_brs]
  exact ev_op h1 h2 (rd_inT (shp_br hr.a.w hr.b.w) (bars_shp hl))
theorem ev_notInB {r : Br} {l : List Br} (hr : OkB r) (hl : ∀ r ∈ l, OkB r) (h1 : EvP K C ta ρ (brD r)) (h2 : EvP K C tb ρ (brsD l)) : EvP K C (tOp (rNotInU K) ta tb) ρ (.bool (!decide (r ∈ l))) := by
  rw [← any_brs]
  exact ev_op h1 h2 (rd_notInT (shp_br hr.a.w hr.b.w) (bars_shp hl))
theorem ev_neR {r s : Rsn} (hr : OkR r) (hs : OkR s) (h1 : EvP K C ta ρ (rsnD r)) (h2 : EvP K C tb ρ (rsnD s)) : EvP K C (tOp (rNeU K) ta tb) ρ (.bool (!decide (r = s))) := by
  rw [← eqv_rsn]
  exact ev_op h1 h2 (rd_neD (shp_rsn hr.a.w hr.b.w) (shp_rsn hs.a.w hs.b.w))
theorem ev_neB {r s : Br} (hr : OkB r) (hs : OkB s) (h1 : EvP K C ta ρ (brD r)) (h2 : EvP K C tb ρ (brD s)) : EvP K C (tOp (rNeU K) ta tb) ρ (.bool (!decide (r = s))) := by
  rw [← eqv_br]
  exact ev_op h1 h2 (rd_neD (shp_br hr.a.w hr.b.w) (shp_br hs.a.w hs.b.w))
/-- tuple([s for s in xs if s != x]) -/
theorem ev_lessR {i j : Nat} {te : TE} {r : Rsn} {l : List Rsn} (hr : OkR r) (hl : ∀ r ∈ l, OkR r) (hz : l.length ≤ 40) (h : EvP K C te ρ (rsnsD l)) (hi : i < ρ.length) (hj : ρ[j]? = some (.dat (rsnD r))) (hij : i ≠ j) :
    EvP K C (tCB (rTupP K) (tCons (tLc (iSeq K te) (gName i) (tTest (tOp (rNeU K) (tVar i) (tVar j))) (tVar i) [i]) tNil)) ρ (rsnsD (l.filter fun s => !decide (s = r))) := by
  refine ev_cb (ea_cons (ev_fil (xs := l) (emb := rsnD) (fun s => !decide (s = r)) rsnD (ei_seq h (.inr rfl)) (Nat.lt_of_le_of_lt hz (by decide)) hi (fun s hs => eb_test (ev_neR (hl s hs) hr (ev_var ?_) (ev_var ?_))) (fun s _ _ => ev_var ?_)) ea_nil) rc_tup
  · rw [List.getElem?_set_self hi]
  · rw [List.getElem?_set_ne hij]
    exact hj
  · rw [List.getElem?_set_self hi]
theorem ev_lessB {i j : Nat} {te : TE} {r : Br} {l : List Br} (hr : OkB r) (hl : ∀ r ∈ l, OkB r) (hz : l.length ≤ 40) (h : EvP K C te ρ (brsD l)) (hi : i < ρ.length) (hj : ρ[j]? = some (.dat (brD r))) (hij : i ≠ j) :
    EvP K C (tCB (rTupP K) (tCons (tLc (iSeq K te) (gName i) (tTest (tOp (rNeU K) (tVar i) (tVar j))) (tVar i) [i]) tNil)) ρ (brsD (l.filter fun s => !decide (s = r))) := by
  refine ev_cb (ea_cons (ev_fil (xs := l) (emb := brD) (fun s => !decide (s = r)) brD (ei_seq h (.inr rfl)) (Nat.lt_of_le_of_lt hz (by decide)) hi (fun s hs => eb_test (ev_neB (hl s hs) hr (ev_var ?_) (ev_var ?_))) (fun s _ _ => ev_var ?_)) ea_nil) rc_tup
  · rw [List.getElem?_set_self hi]
  · rw [List.getElem?_set_ne hij]
    exact hj
  · rw [List.getElem?_set_self hi]
/-- xs + (x,) -/
theorem ev_moreT {α : Type} {e : α → D} {l : List α} {x : α} (hz : l.length ≤ 40) (h1 : EvP K C ta ρ (.tuple (l.map e))) (h2 : EvP K C tb ρ (e x)) : EvP K C (tOp (rAddU K) ta (tTupP (tCons tb tNil))) ρ (.tuple ((l ++ [x]).map e)) := by
  refine EvP.eq (ev_op h1 (ev_tup (ea_cons h2 ea_nil)) (rd_addT ?_)) ?_
  · simp only [List.length_map, List.length_cons, List.length_nil]
    exact Nat.le_trans (Nat.add_le_add_right hz 1) (by decide)
  · rw [List.map_append]
    rfl
end
abbrev toldG : Fo → PySem.Str × PySem.Str × Int → D := fun _ a => rsnD (reasonOf a.1 a.2.1 a.2.2 100)
abbrev twoG : Fo → PySem.Str × PySem.Str → D := fun _ a => .tuple [.str (minS a.1 a.2), .str (maxS a.1 a.2)]
theorem fl_F_book : ∀ (F : Fo) (a : Unit), True → flat (rowsD F.cur.rows) = true := fun F _ _ => flat_tup flat_row _
end FK

set_option Elab.async false
set_option linter.all false
set_option maxRecDepth 100000
set_option maxHeartbeats 4000000
namespace FK
open PySem PySem.Spec PyProof.Rows L2 FR
local macro_rules | `(tactic| walk_at "rd") => `(tactic| first
  | with_reducible exact rd_addI | with_reducible exact rd_subI | with_reducible exact rd_leI | with_reducible exact rd_ltI | with_reducible exact rd_geI | with_reducible exact rd_gtI | with_reducible exact rd_ltS | with_reducible exact rd_eqI | with_reducible exact rd_neI | with_reducible exact rd_eqS | with_reducible exact rd_neS
  | with_reducible exact rd_isNN | with_reducible exact rd_isNS | with_reducible exact rd_notNN | with_reducible exact rd_notNS | with_reducible exact rd_inS
  | ((with_reducible apply rd_ixT); rfl) | ((with_reducible apply rd_ixL); rfl)
  | ((with_reducible apply rd_modI); first | decide | assumption)
  | ((with_reducible apply rd_mulI); assumption) | ((with_reducible apply rd_powI); assumption) | ((with_reducible apply rd_divI); assumption) | ((with_reducible apply rd_addS); assumption) | ((with_reducible apply rd_mulS); assumption) | ((with_reducible apply rd_ixL); assumption) | ((with_reducible apply rd_ixT); assumption)
  | with_reducible assumption)
local macro_rules | `(tactic| walk_at "rc") => `(tactic| first
  | with_reducible exact rc_lenL | with_reducible exact rc_lenT | with_reducible exact rc_lenScr | with_reducible exact rc_minI | with_reducible exact rc_maxI | with_reducible exact rc_minS | with_reducible exact rc_maxS | with_reducible exact rc_tup | with_reducible exact rc_listT | with_reducible exact rc_intB | with_reducible exact rc_abs
  | ((with_reducible apply rc_lenS); assumption) | with_reducible exact rc_any | with_reducible exact rc_all | with_reducible assumption)
local macro_rules | `(tactic| walk_at "ev") => `(tactic| first
  | ((with_reducible apply ev_var); rfl) | with_reducible exact ev_int | with_reducible exact ev_str | with_reducible exact ev_bl | with_reducible exact ev_non | with_reducible exact ea_nil
  | with_reducible assumption
  | ((with_reducible apply ev_op); walk_at "ev"; walk_at "ev"; walk_at "rd")
  | ((with_reducible apply ea_cons); walk_at "ev"; walk_at "ev")
  | ((with_reducible apply ev_cb); walk_at "ev"; walk_at "rc")
  | ((with_reducible apply ev_tupB); walk_at "ev"; rfl) | ((with_reducible apply ev_lstB); walk_at "ev"; rfl)
  | ((with_reducible apply ev_andV); walk_at "ev"; (intro _; walk_at "ev")) | ((with_reducible apply ev_orV); walk_at "ev"; (intro _; walk_at "ev")) | ((with_reducible apply ev_notV); walk_at "ev")
  | ((with_reducible apply ev_chain); walk_at "ev"; walk_at "ev"; walk_at "ev"; walk_at "rd"; (intro _; walk_at "rd"))
  | ((with_reducible apply eb_and); walk_at "ev"; (intro _; walk_at "ev")) | ((with_reducible apply eb_or); walk_at "ev"; (intro _; walk_at "ev")) | ((with_reducible apply eb_not); walk_at "ev") | ((with_reducible apply eb_test); walk_at "ev") | ((with_reducible apply eb_B); walk_at "ev")
  | ((with_reducible apply ev_isi (b := true)); walk_at "ev"; (intro _ z; cases z); rfl) | ((with_reducible apply ev_isi (b := false)); walk_at "ev"; (intro _ z; cases z); rfl))


abbrev tlS (s : PySem.Str) : List Nat := s.cps.toList
theorem tl_app (a b : PySem.Str) : tlS (a ++ b) = tlS a ++ tlS b := Array.toList_append
theorem str_ext {a b : PySem.Str} (h : tlS a = tlS b) : a = b := by
  cases a
  cases b
  congr 1
  exact Array.toList_inj.mp h
theorem tl_len (s : PySem.Str) : (tlS s).length = s.length := Array.length_toList
theorem tl_join0 : ∀ l : List PySem.Str, tlS (PySem.Str.join ("" : PySem.Str) l) = l.flatMap tlS
  | [] => rfl
  | [x] => by
    show tlS x = [x].flatMap tlS
    simp
  | x :: y :: r => by
    show tlS (x ++ ("" : PySem.Str) ++ PySem.Str.join ("" : PySem.Str) (y :: r)) = _
    have e : tlS ("" : PySem.Str) = [] := by decide +kernel
    rw [tl_app, tl_app, tl_join0 (y :: r), e, List.append_nil]
    simp
/-- the k-th number -/
def gx (xs : List Int) (k : Nat) : Int := xs.getD k 0
theorem gx_get {xs : List Int} {k : Nat} (h : k < xs.length) : xs[k]? = some (gx xs k) := by
  unfold gx
  rw [List.getD_eq_getElem?_getD, List.getElem?_eq_getElem h]
  rfl
theorem gx_at {xs : List Int} {k : Nat} (h : k < xs.length) : atI (xs.map D.int) (k : Int) = some (.int (gx xs k)) := by
  exact atI_nat (by rw [List.getElem?_map, gx_get h]; rfl)
theorem gx_ok {xs : List Int} (hX : OkX xs) {k : Nat} (h : k < xs.length) : 0 ≤ gx xs k ∧ gx xs k < 2000000000 := hX _ (List.mem_of_getElem? (gx_get h))
theorem let_at {m : Int} (i : Int) (hm : m ≤ 26 := by decide) (h0 : 0 ≤ i % m) (h1 : i % m < m) : atI (tlS ("abcdefghijklmnopqrstuvwxyz" : PySem.Str)) (i % m) = some (97 + (i % m).toNat) := by
  have q : ∀ k : Fin 26, (tlS ("abcdefghijklmnopqrstuvwxyz" : PySem.Str))[k.val]? = some (97 + k.val) := by decide +kernel
  have e : i % m = ((i % m).toNat : Int) := (Int.toNat_of_nonneg h0).symm
  rw [e]
  exact atI_nat (q ⟨(i % m).toNat, by omega⟩)
def chrOf (xs : List Int) (k : Nat) : Nat := 97 + (gx xs k / 40 % 26).toNat
def stemOf (xs : List Int) (m : Nat) : PySem.Str := Txt.join ("" : PySem.Str) ((List.range m).map fun k => ⟨#[chrOf xs k]⟩)
theorem stem_tl (xs : List Int) (m : Nat) : tlS (stemOf xs m) = (List.range m).map (chrOf xs) := by
  unfold stemOf
  rw [show Txt.join ("" : PySem.Str) ((List.range m).map fun k => (⟨#[chrOf xs k]⟩ : PySem.Str)) = PySem.Str.join ("" : PySem.Str) ((List.range m).map fun k => (⟨#[chrOf xs k]⟩ : PySem.Str)) from PySem.StrLaws.glued_eq_join _ _, tl_join0, List.flatMap_map]
  induction (List.range m) with
  | nil => rfl
  | cons a l ih => rw [List.flatMap_cons, ih, List.map_cons]; rfl
theorem stem_ok {xs : List Int} {m : Nat} (hX : OkX xs) (hlen : xs.length = 12) (hm : m ≤ 5) : (stemOf xs m).length ≤ 5 ∧ ∀ c ∈ tlS (stemOf xs m), 97 ≤ c ∧ c ≤ 122 := by
  refine ⟨?_, fun c hc => ?_⟩
  · rw [← tl_len, stem_tl, List.length_map, List.length_range]
    exact hm
  · rw [stem_tl] at hc
    obtain ⟨k, hk, rfl⟩ := List.mem_map.mp hc
    unfold chrOf
    omega
theorem join_sz {xs : List Int} {m : Nat} (hm : m ≤ 5) : (((List.range m).map fun k => (⟨#[chrOf xs k]⟩ : PySem.Str)).map (·.length)).sum + ((List.range m).map fun k => (⟨#[chrOf xs k]⟩ : PySem.Str)).length * ("" : PySem.Str).length ≤ 16777216 := by
  have e : ("" : PySem.Str).length = 0 := by decide +kernel
  rw [e, Nat.mul_zero, Nat.add_zero, List.map_map]
  have : ∀ l : List Nat, (l.map ((fun s : PySem.Str => s.length) ∘ fun k => (⟨#[chrOf xs k]⟩ : PySem.Str))).sum = l.length := by
    intro l
    induction l with
    | nil => rfl
    | cons a l ih =>
      rw [List.map_cons, List.sum_cons, ih]
      show 1 + l.length = l.length + 1
      omega
  rw [this, List.length_range]
  omega
/-- a letter put into a stem -/
def nmA (S : List Nat) (n c : Nat) : PySem.Str := ⟨(S.take n ++ ([c] ++ S.drop n)).toArray⟩
def nmOf (xs : List Int) (stem : PySem.Str) (n k : Nat) : PySem.Str := if gx xs 3 % 3 = 1 then ⟨(List.replicate (k + 1) 97).toArray⟩ else nmA (tlS stem) n (97 + (((k : Int) + gx xs 2) % 15).toNat)
theorem nodup_of {α : Type} {f : Nat → α} {n : Nat} (h : ∀ a b, a < n → b < n → f a = f b → a = b) : ((List.range n).map f).Nodup := by
  unfold List.Nodup
  rw [List.pairwise_map]
  refine List.Pairwise.imp_of_mem ?_ (List.nodup_range (n := n))
  intro a b ha hb hab e
  exact hab (h a b (List.mem_range.mp ha) (List.mem_range.mp hb) e)
theorem names_ok {xs : List Int} {stem : PySem.Str} {n : Nat} (h2 : 0 ≤ gx xs 2) (hs : stem.length ≤ 5) (hc : ∀ c ∈ tlS stem, 97 ≤ c ∧ c ≤ 122) (hn : n ≤ stem.length) : OkNs ((List.range 6).map (nmOf xs stem n)) := by
  refine ⟨by rw [List.length_map, List.length_range], nodup_of fun a b ha hb e => ?_, fun x hx => ?_⟩
  · unfold nmOf at e
    by_cases h3 : gx xs 3 % 3 = 1
    · rw [if_pos h3, if_pos h3] at e
      have e2 := congrArg (fun s : PySem.Str => s.cps.toList.length) e
      simp at e2
      exact e2
    · rw [if_neg h3, if_neg h3] at e
      have e2 := congrArg tlS e
      unfold nmA at e2
      have e3 : (tlS stem).take n ++ ([97 + (((a : Int) + gx xs 2) % 15).toNat] ++ (tlS stem).drop n) = (tlS stem).take n ++ ([97 + (((b : Int) + gx xs 2) % 15).toNat] ++ (tlS stem).drop n) := by simpa using e2
      have e4 := List.append_cancel_left e3
      have e5 := List.append_cancel_right e4
      have e6 : 97 + (((a : Int) + gx xs 2) % 15).toNat = 97 + (((b : Int) + gx xs 2) % 15).toNat := by simpa using e5
      omega
  · obtain ⟨k, hk, rfl⟩ := List.mem_map.mp hx
    rw [List.mem_range] at hk
    unfold nmOf
    by_cases h3 : gx xs 3 % 3 = 1
    · rw [if_pos h3]
      have q : ∀ l : List Nat, (⟨l.toArray⟩ : PySem.Str).length = l.length := fun l => (List.size_toArray (as := l))
      have q2 : ((⟨(List.replicate (k + 1) 97).toArray⟩ : PySem.Str)).length = k + 1 := by rw [q, List.length_replicate]
      refine ⟨⟨by rw [q2]; omega, by rw [q2]; omega, fun c hq => ?_⟩, by rw [q2]; omega⟩
      have hq' : c ∈ List.replicate (k + 1) 97 := hq
      have := List.eq_of_mem_replicate hq'
      omega
    · rw [if_neg h3]
      have q2 : (nmA (tlS stem) n (97 + (((k : Int) + gx xs 2) % 15).toNat)).length = stem.length + 1 := by
        have e : (nmA (tlS stem) n (97 + (((k : Int) + gx xs 2) % 15).toNat)).length = ((tlS stem).take n ++ ([97 + (((k : Int) + gx xs 2) % 15).toNat] ++ (tlS stem).drop n)).length := List.size_toArray
        rw [e]
        simp only [List.length_append, List.length_take, List.length_drop, List.length_cons, List.length_nil]
        have := tl_len stem
        omega
      refine ⟨⟨by rw [q2]; omega, by rw [q2]; omega, fun c hq => ?_⟩, by rw [q2]; omega⟩
      have hc' : c ∈ (tlS stem).take n ++ ([97 + (((k : Int) + gx xs 2) % 15).toNat] ++ (tlS stem).drop n) := hq
      rcases List.mem_append.mp hc' with h | h
      · exact hc c (List.mem_of_mem_take h)
      · rcases List.mem_append.mp h with h | h
        · rw [List.mem_singleton] at h
          omega
        · exact hc c (List.mem_of_mem_drop h)
theorem cut_pre (z : PySem.Str) (n : Nat) : tlS (cutS z none (some (n : Int))) = (tlS z).take n := by
  unfold cutS
  rw [HT.sIx_none, HT.sIx_nat]
  show ((tlS z).drop 0).take (min n z.length - 0) = _
  rw [List.drop_zero, Nat.sub_zero, ← tl_len]
  by_cases h : n ≤ (tlS z).length
  · rw [Nat.min_eq_left h]
  · rw [Nat.min_eq_right (by omega), List.take_length, List.take_of_length_le (by omega)]
theorem cut_suf (z : PySem.Str) (n : Nat) (h : n ≤ z.length) : tlS (cutS z (some (n : Int)) none) = (tlS z).drop n := by
  unfold cutS
  rw [HT.sIx_none, HT.sIx_nat, Nat.min_eq_left h]
  show ((tlS z).drop n).take (z.length - n) = _
  rw [List.take_of_length_le]
  rw [List.length_drop, tl_len]
  omega
theorem name_is (stem : PySem.Str) (n c : Nat) (h : n ≤ stem.length) : cutS stem none (some (n : Int)) ++ (⟨#[c]⟩ : PySem.Str) ++ cutS stem (some (n : Int)) none = nmA (tlS stem) n c := by
  apply str_ext
  rw [tl_app, tl_app, cut_pre, cut_suf _ _ h]
  unfold nmA
  show _ = (tlS stem).take n ++ ([c] ++ (tlS stem).drop n)
  rw [List.append_assoc]
section
variable {K : PySem.W.Frag} {C : Addr} {ρ : List Sl} {ta tb : TE}
theorem EvP.toP {d : D} {P : D → Prop} (h : EvP K C ta ρ d) (p : P d) : EvR K C ta ρ P := fun Hi σ H Q S q => h Hi σ H Q S fun v H' g hd => q v H' d p g hd
theorem atI_mem {α : Type} {xs : List α} {i : Int} (h0 : 0 ≤ i) (h1 : i < xs.length) : ∃ x, x ∈ xs ∧ xs[i.toNat]? = some x ∧ atI xs i = some x := by
  have hk : i.toNat < xs.length := by omega
  have e : i = (i.toNat : Int) := by omega
  have q := atI_nat (xs := xs) (List.getElem?_eq_getElem hk)
  rw [← e] at q
  exact ⟨xs[i.toNat], List.getElem_mem hk, List.getElem?_eq_getElem hk, q⟩
theorem ev_pick {ds : List D} {i : Int} (h : EvP K C ta ρ (.list ds)) (h2 : EvP K C tb ρ (.int i)) (h0 : 0 ≤ i) (h1 : i < ds.length) : ∃ d, d ∈ ds ∧ EvP K C (tOp (rIx K) ta tb) ρ d := by
  obtain ⟨x, hx, _, e⟩ := atI_mem h0 h1
  exact ⟨x, hx, ev_op h h2 (rd_ixL e)⟩
/-- an item of a list of texts -/
theorem ev_pickS {ss : List PySem.Str} {i : Int} (h : EvP K C ta ρ (.list (ss.map strD))) (h2 : EvP K C tb ρ (.int i)) (h0 : 0 ≤ i) (h1 : i < ss.length) : ∃ s, s ∈ ss ∧ EvP K C (tOp (rIx K) ta tb) ρ (.str s) := by
  obtain ⟨d, hd, e⟩ := ev_pick h h2 h0 (by rw [List.length_map]; exact h1)
  obtain ⟨s, hs, rfl⟩ := List.mem_map.mp hd
  exact ⟨s, hs, e⟩
theorem ev_pickI {ss : List Int} {i : Int} (h : EvP K C ta ρ (.list (ss.map D.int))) (h2 : EvP K C tb ρ (.int i)) (h0 : 0 ≤ i) (h1 : i < ss.length) : ∃ s, s ∈ ss ∧ EvP K C (tOp (rIx K) ta tb) ρ (.int s) := by
  obtain ⟨d, hd, e⟩ := ev_pick h h2 h0 (by rw [List.length_map]; exact h1)
  obtain ⟨s, hs, rfl⟩ := List.mem_map.mp hd
  exact ⟨s, hs, e⟩
theorem ev_sign {z : PySem.Str} {i : Int} (hz : z.length ≤ sizeLine) (h : EvP K C ta ρ (.str z)) (h2 : EvP K C tb ρ (.int i)) (h0 : 0 ≤ i) (h1 : i < z.length) : ∃ c, c ∈ tlS z ∧ EvP K C (tOp (rIx K) ta tb) ρ (.str ⟨#[c]⟩) := by
  obtain ⟨x, hx, _, e⟩ := atI_mem (xs := tlS z) h0 (by rw [tl_len]; exact h1)
  exact ⟨x, hx, ev_op h h2 (rd_ixS hz e)⟩
end
theorem nodup_get {α : Type} {l : List α} (h : l.Nodup) {i j : Nat} (hi : i < l.length) (hj : j < l.length) (e : l[i] = l[j]) : i = j := by
  rcases Nat.lt_trichotomy i j with q | q | q
  · exact absurd e ((List.pairwise_iff_getElem.mp h) i j hi hj q)
  · exact q
  · exact absurd e.symm ((List.pairwise_iff_getElem.mp h) j i hj hi q)
def pairD (p : Int × Nat) : D := .tuple [.int p.1, .int (p.2 : Nat)]
def ordG (xs : List Int) (k : Nat) : Int := gx xs (k % 14) * (2 * ((k : Nat) : Int) + 7) % 1009
def ordP (xs : List Int) (n : Nat) : List (Int × Nat) := (List.range n).map fun k => (ordG xs k, k)
theorem py_pair (p : Int × Nat) : py (pairD p) = .tuple [.int p.1, .int (p.2 : Nat)] := by
  unfold pairD
  simp only [py, pyAll]
theorem pair_sort (l : List (Int × Nat)) : SortOk pairD l := by
  refine ⟨fun b _ => ?_, PySem.W.AllAlike.of fun a b => ?_, PySem.W.Sortable.tuples fun b => ⟨_, _, py_pair b⟩, fun b _ => ?_⟩
  · rw [py_pair]
    simp only [PyData.canLay0, PyData.canLayAll0, Bool.and_self]
  · rw [py_pair, py_pair]
    simp only [PySem.W.alike, PySem.W.alikeAll, Bool.and_self]
  · rw [py_pair]
    simp [PyData.depth, PyData.depthAll]
def fs5 : List PySem.Str := [("day" : PySem.Str), ("name" : PySem.Str), ("names" : PySem.Str), ("p" : PySem.Str), ("zzz" : PySem.Str)]
def fs4 : List PySem.Str := [("day" : PySem.Str), ("name" : PySem.Str), (("name" : PySem.Str) ++ ("s" : PySem.Str)), ("p" : PySem.Str)]
section
variable {K : PySem.W.Frag} {C : Addr} {ρ : List Sl} {ta tb te : TE} {Z : Zn} {Hi H : Hp} {σ : L2.St} {D' : Ends} {tz : TS} {P : D → Prop}
theorem ev_tup2R {x : D} (h1 : EvP K C ta ρ x) (h2 : EvR K C tb ρ P) : EvR K C (tTupP (tCons ta (tCons tb tNil))) ρ (fun d => ∃ y, P y ∧ d = .tuple [x, y]) := fun Hi σ H Q S q =>
  h1 Hi σ H _ S fun v H1 g1 d1 => h2 _ σ H1 _ (S.grow g1) fun w H2 y p g2 d2 => by
    rw [nu_nu S.ex g1 g2] at d2
    have d1' := Dd.mono (nu_le S.ex g1 g2) _ d1
    refine ⟨(by show 2 ≤ sizeLine; decide), fun l o hl hb => q _ _ (.tuple [x, y]) ⟨y, p, rfl⟩ ((g1.trans g2).trans (same_new hl)) ?_⟩
    have := dd_newF (o := o) (nu_hi S.ex (g1.trans g2)) hl (DdAll.cons d1' (DdAll.one d2))
    rw [nu_nu S.ex (g1.trans g2) (same_new hl)] at this
    exact this
theorem s_appR {i : Nat} {ds : List D} (hi : ρ[i]? = some (.own ds)) (h : EvR K C te ρ P) (hz : ds.length < 100000) (S : Sit K C Z Hi σ H ρ) (k : ∀ d, P d → ∀ Hi' H', Sit K C Z Hi' σ H' (ρ.set i (.own (ds ++ [d]))) → D'.nx σ H') :
    tDrop (tBM K "list" rAppend (tVar i) (tCons te tNil)) D' σ H := by
  obtain ⟨a, vs, e1, e2, e3, e4⟩ := S.env.slotO hi
  refine ⟨.ref a, e1, .inl ⟨rfl, vs, SqL.of e2⟩, ?_⟩
  refine h Hi σ H _ S.env fun v H' d p g hd => ?_
  have S2 := S.grow g
  obtain ⟨a', vs', f1, f2, f3, f4, f5⟩ := S2.mutO (es := ds ++ [d]) hi
  rw [e1] at f1
  cases f1
  exact ⟨a, vs', v, rfl, rfl, f2, Nat.lt_of_lt_of_le (by rw [f3.len]; exact hz) (by decide), k d p _ _ (f5 _ (f3.app (DdAll.one hd)))⟩
end
theorem len_app (a b : PySem.Str) : (a ++ b).length = a.length + b.length := Array.size_append ..
theorem flat_rul (u : Rul) : flat (rulD u) = true := by cases u <;> rfl
end FK

set_option Elab.async false
set_option linter.all false
set_option maxRecDepth 100000
set_option maxHeartbeats 4000000
namespace FK
open PySem PySem.Spec PyProof.Rows L2 FR
local macro_rules | `(tactic| walk_at "rd") => `(tactic| first
  | with_reducible exact rd_addI | with_reducible exact rd_subI | with_reducible exact rd_leI | with_reducible exact rd_ltI | with_reducible exact rd_geI | with_reducible exact rd_gtI | with_reducible exact rd_ltS | with_reducible exact rd_eqI | with_reducible exact rd_neI | with_reducible exact rd_eqS | with_reducible exact rd_neS
  | with_reducible exact rd_isNN | with_reducible exact rd_isNS | with_reducible exact rd_notNN | with_reducible exact rd_notNS | with_reducible exact rd_inS
  | ((with_reducible apply rd_ixT); rfl) | ((with_reducible apply rd_ixL); rfl)
  | ((with_reducible apply rd_modI); first | decide | assumption)
  | ((with_reducible apply rd_mulI); assumption) | ((with_reducible apply rd_powI); assumption) | ((with_reducible apply rd_divI); assumption) | ((with_reducible apply rd_addS); assumption) | ((with_reducible apply rd_mulS); assumption) | ((with_reducible apply rd_ixL); assumption) | ((with_reducible apply rd_ixT); assumption)
  | with_reducible assumption)
local macro_rules | `(tactic| walk_at "rc") => `(tactic| first
  | with_reducible exact rc_lenL | with_reducible exact rc_lenT | with_reducible exact rc_lenScr | with_reducible exact rc_minI | with_reducible exact rc_maxI | with_reducible exact rc_minS | with_reducible exact rc_maxS | with_reducible exact rc_tup | with_reducible exact rc_listT | with_reducible exact rc_intB | with_reducible exact rc_abs
  | ((with_reducible apply rc_lenS); assumption) | with_reducible exact rc_any | with_reducible exact rc_all | with_reducible assumption)
local macro_rules | `(tactic| walk_at "ev") => `(tactic| first
  | ((with_reducible apply ev_var); rfl) | with_reducible exact ev_int | with_reducible exact ev_str | with_reducible exact ev_bl | with_reducible exact ev_non | with_reducible exact ea_nil
  | with_reducible assumption
  | ((with_reducible apply ev_op); walk_at "ev"; walk_at "ev"; walk_at "rd")
  | ((with_reducible apply ea_cons); walk_at "ev"; walk_at "ev")
  | ((with_reducible apply ev_cb); walk_at "ev"; walk_at "rc")
  | ((with_reducible apply ev_tupB); walk_at "ev"; rfl) | ((with_reducible apply ev_lstB); walk_at "ev"; rfl)
  | ((with_reducible apply ev_andV); walk_at "ev"; (intro _; walk_at "ev")) | ((with_reducible apply ev_orV); walk_at "ev"; (intro _; walk_at "ev")) | ((with_reducible apply ev_notV); walk_at "ev")
  | ((with_reducible apply ev_chain); walk_at "ev"; walk_at "ev"; walk_at "ev"; walk_at "rd"; (intro _; walk_at "rd"))
  | ((with_reducible apply eb_and); walk_at "ev"; (intro _; walk_at "ev")) | ((with_reducible apply eb_or); walk_at "ev"; (intro _; walk_at "ev")) | ((with_reducible apply eb_not); walk_at "ev") | ((with_reducible apply eb_test); walk_at "ev") | ((with_reducible apply eb_B); walk_at "ev")
  | ((with_reducible apply ev_isi (b := true)); walk_at "ev"; (intro _ z; cases z); rfl) | ((with_reducible apply ev_isi (b := false)); walk_at "ev"; (intro _ z; cases z); rfl))


theorem le_total {β : Type} (k : β → PyData) : PySem.W.TotalLe (PySem.W.dataLe false k) := PySem.W.sortLe_total (PyProof.Rows.listOrd PyProof.Rows.itemOrd) false fun b => PySem.W.keyToks (k b)
theorem srt_pair {β : Type} (enc : β → D) (l : List β) : (srt enc l).Pairwise fun a b => PySem.W.dataLe false (fun b => py (enc b)) a b = true := PySem.W.sort_pairwise (le_total _) l
theorem srt_perm {β : Type} (enc : β → D) (l : List β) : (srt enc l).Perm l := List.mergeSort_perm _ _
theorem srt_len {β : Type} (enc : β → D) (l : List β) : (srt enc l).length = l.length := (srt_perm enc l).length_eq
theorem le_anti {β : Type} {k : β → PyData} {a b : β} (h1 : PySem.W.dataLe false k a b = true) (h2 : PySem.W.dataLe false k b a = true) : PySem.W.keyToks (k a) = PySem.W.keyToks (k b) := by
  unfold PySem.W.dataLe PySem.W.sortLe at h1 h2
  simp only [cond_false, Bool.not_eq_true'] at h1 h2
  exact (PyProof.Rows.listOrd PyProof.Rows.itemOrd).total _ _ h2 h1
/-- sorted lists with the same items are the same -/
theorem sorted_eq {β : Type} {k : β → PyData} {l m : List β} (hp : l.Perm m) (hl : l.Pairwise fun a b => PySem.W.dataLe false k a b = true) (hm : m.Pairwise fun a b => PySem.W.dataLe false k a b = true) (inj : ∀ a ∈ l, ∀ b ∈ l, PySem.W.keyToks (k a) = PySem.W.keyToks (k b) → a = b) : l = m :=
  List.Perm.eq_of_pairwise (le := fun a b => PySem.W.dataLe false k a b = true) (fun a b ha hb h1 h2 => inj a ha b (hp.mem_iff.mpr hb) (le_anti h1 h2)) hl hm hp
theorem srt_congr {β : Type} {enc : β → D} {l m : List β} (hp : l.Perm m) (inj : ∀ a ∈ l, ∀ b ∈ l, PySem.W.keyToks (py (enc a)) = PySem.W.keyToks (py (enc b)) → a = b) : srt enc l = srt enc m := by
  refine sorted_eq (k := fun b => py (enc b)) (((srt_perm enc l).trans hp).trans (srt_perm enc m).symm) (srt_pair enc l) (srt_pair enc m) fun a ha b hb => inj a ((srt_perm enc l).mem_iff.mp ha) b ((srt_perm enc l).mem_iff.mp hb)
theorem tok_str (s : PySem.Str) : PySem.W.keyToks (py (strD s)) = [.inr (tlS s)] := by simp only [py, PySem.W.keyToks]
theorem inj_str {a b : PySem.Str} (h : PySem.W.keyToks (py (strD a)) = PySem.W.keyToks (py (strD b))) : a = b := by
  rw [tok_str, tok_str] at h
  exact str_ext (Sum.inr.inj (List.cons.inj h).1)
theorem tok_rsn (r : Rsn) : PySem.W.keyToks (py (rsnD r)) = [.inl 1, .inl r.w, .inl 1, .inr (tlS r.a), .inl 1, .inr (tlS r.b), .inl 1, .inl r.k, .inl 0] := by
  rw [py_rsn]
  simp only [PySem.W.keyToks, PySem.W.keyToksAll, List.cons_append, List.nil_append]
theorem inj_rsn {a b : Rsn} (h : PySem.W.keyToks (py (rsnD a)) = PySem.W.keyToks (py (rsnD b))) : a = b := by
  rw [tok_rsn, tok_rsn] at h
  simp only [List.cons.injEq, Sum.inl.injEq, Sum.inr.injEq, true_and, and_true] at h
  obtain ⟨h1, h2, h3, h4⟩ := h
  cases a
  cases b
  simp only [Rsn.mk.injEq]
  exact ⟨h1, str_ext h2, str_ext h3, h4⟩
theorem tok_br (r : Br) : PySem.W.keyToks (py (brD r)) = [.inl 1, .inr (tlS r.a), .inl 1, .inr (tlS r.b), .inl 1, .inl r.k, .inl 0] := by
  rw [py_br]
  simp only [PySem.W.keyToks, PySem.W.keyToksAll, List.cons_append, List.nil_append]
theorem inj_br {a b : Br} (h : PySem.W.keyToks (py (brD a)) = PySem.W.keyToks (py (brD b))) : a = b := by
  rw [tok_br, tok_br] at h
  simp only [List.cons.injEq, Sum.inl.injEq, Sum.inr.injEq, true_and, and_true] at h
  obtain ⟨h2, h3, h4⟩ := h
  cases a
  cases b
  simp only [Br.mk.injEq]
  exact ⟨str_ext h2, str_ext h3, h4⟩
theorem tok_row (r : Row) : ∃ t, PySem.W.keyToks (py (rowD r)) = .inl 1 :: .inr (tlS r.n) :: t := by
  have e : py (rowD r) = .tuple [.str r.n, py (.ptup (r.ws.map wordD))] := by simp only [py, pyAll]
  rw [e]
  exact ⟨_, by simp only [PySem.W.keyToks, PySem.W.keyToksAll, List.cons_append, List.nil_append]; rfl⟩
theorem inj_row {a b : Row} (h : PySem.W.keyToks (py (rowD a)) = PySem.W.keyToks (py (rowD b))) : a.n = b.n := by
  obtain ⟨t, h1⟩ := tok_row a
  obtain ⟨u, h2⟩ := tok_row b
  rw [h1, h2] at h
  simp only [List.cons.injEq, Sum.inr.injEq, true_and] at h
  exact str_ext h.1
theorem inj_on_n {l : List Row} (hn : (l.map (·.n)).Nodup) : ∀ a ∈ l, ∀ b ∈ l, a.n = b.n → a = b := fun a ha b hb e => by
  obtain ⟨i, hi, rfl⟩ := List.mem_iff_getElem.mp ha
  obtain ⟨j, hj, rfl⟩ := List.mem_iff_getElem.mp hb
  have hij := nodup_get hn (i := i) (j := j) (by rw [List.length_map]; exact hi) (by rw [List.length_map]; exact hj) (by rw [List.getElem_map, List.getElem_map]; exact e)
  subst hij
  rfl
theorem rows_inj {l : List Row} (hn : (l.map (·.n)).Nodup) : ∀ a ∈ l, ∀ b ∈ l, PySem.W.keyToks (py (rowD a)) = PySem.W.keyToks (py (rowD b)) → a = b := fun a ha b hb e => inj_on_n hn a ha b hb (inj_row e)
/-- rows in order have names in order -/
theorem row_le {a b : Row} (h : PySem.W.dataLe false (fun r => py (rowD r)) a b = true) : PySem.W.dataLe false (fun s => py (strD s)) a.n b.n = true := by
  unfold PySem.W.dataLe PySem.W.sortLe at h ⊢
  simp only [cond_false, Bool.not_eq_true'] at h ⊢
  obtain ⟨t, h1⟩ := tok_row a
  obtain ⟨u, h2⟩ := tok_row b
  have h3 : PyProof.Rows.lexLt PyProof.Rows.itemOrd (PySem.W.keyToks (py (rowD b))) (PySem.W.keyToks (py (rowD a))) = false := h
  rw [h1, h2, PyProof.Rows.lex_self] at h3
  have h4 := (PyProof.Rows.lex_false.mp h3).1
  show PyProof.Rows.lexLt PyProof.Rows.itemOrd (PySem.W.keyToks (py (strD b.n))) (PySem.W.keyToks (py (strD a.n))) = false
  rw [tok_str, tok_str]
  refine PyProof.Rows.lex_false.mpr ⟨h4, .inr rfl⟩
theorem str_le {a b : PySem.Str} (h : PySem.W.dataLe false (fun s => py (strD s)) a b = true) : ltS b a = false := by
  unfold PySem.W.dataLe PySem.W.sortLe at h
  simp only [cond_false, Bool.not_eq_true'] at h
  have h3 : PyProof.Rows.lexLt PyProof.Rows.itemOrd (PySem.W.keyToks (py (strD b))) (PySem.W.keyToks (py (strD a))) = false := h
  rw [tok_str, tok_str] at h3
  exact (PyProof.Rows.lex_false.mp h3).1
theorem names_sorted {l : List Row} : (srt rowD l).map (·.n) = srt strD (l.map (·.n)) := by
  refine sorted_eq (k := fun s => py (strD s)) (((srt_perm rowD l).map _).trans (srt_perm strD _).symm) ?_ (srt_pair strD _) fun a _ b _ e => inj_str e
  rw [List.pairwise_map]
  exact (srt_pair rowD l).imp fun h => row_le h
/-- rows in order with unlike names: the names rise -/
theorem rows_rise {l : List Row} (hn : (l.map (·.n)).Nodup) : (srt rowD l).Pairwise fun a b => ltS a.n b.n = true := by
  have h1 : ((srt rowD l).map (·.n)).Nodup := ((srt_perm rowD l).map (·.n)).nodup_iff.mpr hn
  have h2 : (srt rowD l).Pairwise fun a b => a.n ≠ b.n := List.pairwise_map.mp h1
  refine (List.pairwise_and_iff.mpr ⟨srt_pair rowD l, h2⟩).imp ?_
  intro a b ⟨h3, h4⟩
  rcases ltS_tri h4 with q | q
  · exact q
  · rw [str_le (row_le h3)] at q
    cases q
/-! ### what may be sorted -/
theorem alike_word (p q : PySem.Str × PySem.Str) : PySem.W.alike (py (wordD p)) (py (wordD q)) = true := by
  simp only [py, pyAll, PySem.W.alike, PySem.W.alikeAll, Bool.and_self]
theorem alike_words : ∀ l m : List (PySem.Str × PySem.Str), PySem.W.alikeAll (pyAll (l.map wordD)) (pyAll (m.map wordD)) = true
  | [], _ => by simp only [List.map_nil, pyAll, PySem.W.alikeAll]
  | _ :: _, [] => by simp only [List.map_nil, List.map_cons, pyAll, PySem.W.alikeAll]
  | p :: l, q :: m => by
    rw [List.map_cons, List.map_cons, pyAll, pyAll, PySem.W.alikeAll, alike_word, alike_words l m]
    rfl
theorem py_row (r : Row) : py (rowD r) = .tuple [.str r.n, .tuple (pyAll (r.ws.map wordD))] := by simp only [py, pyAll]
theorem row_sort {l : List Row} (h : ∀ r ∈ l, OkRow r) : SortOk rowD l := by
  refine ⟨fun b hb => lay_row (h b hb), PySem.W.AllAlike.of fun a b => ?_, PySem.W.Sortable.tuples fun b => ⟨_, _, py_row b⟩, fun b _ => Nat.le_trans (dep_row b) (by decide)⟩
  rw [py_row, py_row]
  simp only [PySem.W.alike, PySem.W.alikeAll, alike_words, Bool.and_self]
theorem str_sort {l : List PySem.Str} (h : ∀ s ∈ l, OkW s) : SortOk strD l := by
  refine ⟨fun b hb => lay_str (h b hb), PySem.W.AllAlike.of fun a b => ?_, PySem.W.Sortable.others fun b => ⟨?_, fun xs => ?_⟩, fun b _ => by rw [dep_str]; decide⟩
  · simp only [py, PySem.W.alike]
  · simp only [py]
    exact fun z => by cases z
  · simp only [py]
    exact fun z => by cases z
theorem rsn_sort {l : List Rsn} (h : ∀ r ∈ l, OkW r.a ∧ OkW r.b) : SortOk rsnD l := by
  refine ⟨fun b hb => lay_rsn (h b hb).1 (h b hb).2, PySem.W.AllAlike.of fun a b => ?_, PySem.W.Sortable.tuples fun b => ⟨_, _, py_rsn b⟩, fun b _ => by rw [dep_rsn]; decide⟩
  rw [py_rsn, py_rsn]
  simp only [PySem.W.alike, PySem.W.alikeAll, Bool.and_self]
theorem br_sort {l : List Br} (h : ∀ r ∈ l, OkW r.a ∧ OkW r.b) : SortOk brD l := by
  refine ⟨fun b hb => lay_br (h b hb).1 (h b hb).2, PySem.W.AllAlike.of fun a b => ?_, PySem.W.Sortable.tuples fun b => ⟨_, _, py_br b⟩, fun b _ => by rw [dep_br]; decide⟩
  rw [py_br, py_br]
  simp only [PySem.W.alike, PySem.W.alikeAll, Bool.and_self]
theorem negR_inj {a b : Rsn} (h : negR a = negR b) : a = b := by
  cases a
  cases b
  unfold negR at h
  simp only [Rsn.mk.injEq] at h ⊢
  exact ⟨by omega, h.2⟩
theorem negR_neg (r : Rsn) : negR (negR r) = r := by
  cases r
  unfold negR
  simp only [Rsn.mk.injEq, and_self, and_true]
  omega
theorem ordR_perm (l : List Rsn) : (ordR l).Perm l := by
  unfold ordR
  refine ((srt_perm rsnD (l.map negR)).map negR).trans ?_
  rw [List.map_map]
  have e : negR ∘ negR = id := funext negR_neg
  rw [e, List.map_id]
theorem ordR_congr {l m : List Rsn} (h : l.Perm m) : ordR l = ordR m := by
  unfold ordR
  rw [srt_congr (h.map negR) fun a _ b _ e => inj_rsn e]
theorem srtB_congr {l m : List Br} (h : l.Perm m) : srt brD l = srt brD m := srt_congr h fun a _ b _ e => inj_br e
theorem srtS_congr {l m : List PySem.Str} (h : l.Perm m) : srt strD l = srt strD m := srt_congr h fun a _ b _ e => inj_str e
theorem srtRow_congr {l m : List Row} (h : l.Perm m) (hn : (l.map (·.n)).Nodup) : srt rowD l = srt rowD m := srt_congr h (rows_inj hn)
/-! ### the ground's reasons and bars -/
theorem up_mem {α : Type} {p : α × α} : ∀ {l : List α}, p ∈ upPairs l → p.1 ∈ l ∧ p.2 ∈ l
  | [], h => by cases h
  | x :: l, h => by
    rcases List.mem_append.mp h with h | h
    · obtain ⟨y, hy, rfl⟩ := List.mem_map.mp h
      exact ⟨List.mem_cons_self, List.mem_cons_of_mem _ hy⟩
    · exact ⟨List.mem_cons_of_mem _ (up_mem h).1, List.mem_cons_of_mem _ (up_mem h).2⟩
theorem up_rel {α : Type} {R : α → α → Prop} {p : α × α} : ∀ {l : List α}, l.Pairwise R → p ∈ upPairs l → R p.1 p.2
  | [], _, h => by cases h
  | x :: l, hl, h => by
    rw [List.pairwise_cons] at hl
    rcases List.mem_append.mp h with h | h
    · obtain ⟨y, hy, rfl⟩ := List.mem_map.mp h
      exact hl.1 y hy
    · exact up_rel hl.2 h
theorem enum_mem {α : Type} {xs : List α} {q : Nat × α} (h : q ∈ enumL xs) : q.2 ∈ xs ∧ q.1 < xs.length := by
  obtain ⟨i, hi, rfl⟩ := List.mem_iff_getElem.mp h
  obtain ⟨h1, h2⟩ := enumL_get (List.getElem?_eq_getElem hi)
  refine ⟨List.mem_of_getElem? h2, ?_⟩
  rw [h1]
  rw [enumL_len] at hi
  exact hi
theorem rul_w {u : Rul} (h : OkRul u) (hn : u.isNever = false) : 1 ≤ u.w ∧ u.w ≤ 1000 := by
  cases u with
  | never f => cases hn
  | same f w => exact h.2
  | begin f n w => exact h.2.2.2
  | both f o w => exact h.2.2
theorem foundR_ok {us : List Rul} {rows : List Row} (hu : ∀ u ∈ us, OkRul u) (hr : ∀ r ∈ rows, OkRow r) (hn : (rows.map (·.n)).Nodup) : ∀ r ∈ foundR us rows, OkR r ∧ r.a ∈ rows.map (·.n) ∧ r.b ∈ rows.map (·.n) ∧ r.k < us.length := by
  intro r h
  obtain ⟨p, hp, h2⟩ := List.mem_flatMap.mp h
  obtain ⟨q, hq, rfl⟩ := List.mem_map.mp h2
  obtain ⟨hq1, hq2⟩ := List.mem_filter.mp hq
  obtain ⟨hm1, hm2⟩ := enum_mem hq1
  simp only [Bool.and_eq_true, Bool.not_eq_true'] at hq2
  obtain ⟨hw1, hw2⟩ := rul_w (hu _ hm1) hq2.2
  have h1 := (srt_perm rowD rows).mem_iff.mp (up_mem hp).1
  have h2 := (srt_perm rowD rows).mem_iff.mp (up_mem hp).2
  exact ⟨⟨(hr _ h1).name, (hr _ h2).name, up_rel (rows_rise hn) hp, hw1, hw2, Int.natCast_nonneg _⟩, List.mem_map.mpr ⟨_, h1, rfl⟩, List.mem_map.mpr ⟨_, h2, rfl⟩, by
    show (q.1 : Int) < us.length
    omega⟩
theorem foundB_ok {us : List Rul} {rows : List Row} (hr : ∀ r ∈ rows, OkRow r) (hn : (rows.map (·.n)).Nodup) : ∀ r ∈ foundB us rows, OkB r ∧ r.a ∈ rows.map (·.n) ∧ r.b ∈ rows.map (·.n) := by
  intro r h
  obtain ⟨p, hp, h2⟩ := List.mem_flatMap.mp h
  obtain ⟨q, hq, rfl⟩ := List.mem_map.mp h2
  have h1 := (srt_perm rowD rows).mem_iff.mp (up_mem hp).1
  have h2 := (srt_perm rowD rows).mem_iff.mp (up_mem hp).2
  exact ⟨⟨(hr _ h1).name, (hr _ h2).name, up_rel (rows_rise hn) hp, Int.natCast_nonneg _⟩, List.mem_map.mpr ⟨_, h1, rfl⟩, List.mem_map.mpr ⟨_, h2, rfl⟩⟩
theorem betR_len (us : List Rul) (r o : Row) : (betR us r o).length ≤ us.length := by
  unfold betR
  rw [List.length_map]
  exact Nat.le_trans (List.length_filter_le _ _) (by rw [enumL_len]; exact Nat.le_refl _)
theorem betB_len (us : List Rul) (r o : Row) : (betB us r o).length ≤ us.length := by
  unfold betB
  rw [List.length_map]
  exact Nat.le_trans (List.length_filter_le _ _) (by rw [enumL_len]; exact Nat.le_refl _)
theorem up_len {α : Type} : ∀ l : List α, (upPairs l).length ≤ l.length * l.length
  | [] => Nat.le_refl _
  | x :: l => by
    rw [upPairs, List.length_append, List.length_map, List.length_cons]
    have := up_len l
    have e : (l.length + 1) * (l.length + 1) = l.length * l.length + 2 * l.length + 1 := by
      rw [Nat.add_mul, Nat.mul_add]
      omega
    omega
theorem flat_len {α β : Type} {f : α → List β} {n : Nat} (h : ∀ a, (f a).length ≤ n) : ∀ l : List α, (l.flatMap f).length ≤ l.length * n
  | [] => by simp
  | x :: l => by
    rw [List.flatMap_cons, List.length_append, List.length_cons, Nat.add_mul]
    have := flat_len h l
    have := h x
    omega
theorem foundR_len {us : List Rul} {rows : List Row} (hu : us.length ≤ 8) (hr : rows.length ≤ 40) : (foundR us rows).length ≤ 12800 := by
  have h1 := flat_len (f := fun p : Row × Row => betR us p.1 p.2) (n := 8) (fun p => Nat.le_trans (betR_len us p.1 p.2) hu) (upPairs (srt rowD rows))
  have h2 := up_len (srt rowD rows)
  rw [srt_len] at h2
  have h3 : rows.length * rows.length ≤ 40 * 40 := Nat.mul_le_mul hr hr
  unfold foundR
  omega
theorem foundB_len {us : List Rul} {rows : List Row} (hu : us.length ≤ 8) (hr : rows.length ≤ 40) : (foundB us rows).length ≤ 12800 := by
  have h1 := flat_len (f := fun p : Row × Row => betB us p.1 p.2) (n := 8) (fun p => Nat.le_trans (betB_len us p.1 p.2) hu) (upPairs (srt rowD rows))
  have h2 := up_len (srt rowD rows)
  rw [srt_len] at h2
  have h3 : rows.length * rows.length ≤ 40 * 40 := Nat.mul_le_mul hr hr
  unfold foundB
  omega
end FK

set_option Elab.async false
set_option linter.all false
set_option maxRecDepth 100000
set_option maxHeartbeats 4000000
namespace FK
open PySem PySem.Spec PyProof.Rows L2 FR
local macro_rules | `(tactic| walk_at "rd") => `(tactic| first
  | with_reducible exact rd_addI | with_reducible exact rd_subI | with_reducible exact rd_leI | with_reducible exact rd_ltI | with_reducible exact rd_geI | with_reducible exact rd_gtI | with_reducible exact rd_ltS | with_reducible exact rd_eqI | with_reducible exact rd_neI | with_reducible exact rd_eqS | with_reducible exact rd_neS
  | with_reducible exact rd_isNN | with_reducible exact rd_isNS | with_reducible exact rd_notNN | with_reducible exact rd_notNS | with_reducible exact rd_inS
  | ((with_reducible apply rd_ixT); rfl) | ((with_reducible apply rd_ixL); rfl)
  | ((with_reducible apply rd_modI); first | decide | assumption)
  | ((with_reducible apply rd_mulI); assumption) | ((with_reducible apply rd_powI); assumption) | ((with_reducible apply rd_divI); assumption) | ((with_reducible apply rd_addS); assumption) | ((with_reducible apply rd_mulS); assumption) | ((with_reducible apply rd_ixL); assumption) | ((with_reducible apply rd_ixT); assumption)
  | with_reducible assumption)
local macro_rules | `(tactic| walk_at "rc") => `(tactic| first
  | with_reducible exact rc_lenL | with_reducible exact rc_lenT | with_reducible exact rc_lenScr | with_reducible exact rc_minI | with_reducible exact rc_maxI | with_reducible exact rc_minS | with_reducible exact rc_maxS | with_reducible exact rc_tup | with_reducible exact rc_listT | with_reducible exact rc_intB | with_reducible exact rc_abs
  | ((with_reducible apply rc_lenS); assumption) | with_reducible exact rc_any | with_reducible exact rc_all | with_reducible assumption)
local macro_rules | `(tactic| walk_at "ev") => `(tactic| first
  | ((with_reducible apply ev_var); rfl) | with_reducible exact ev_int | with_reducible exact ev_str | with_reducible exact ev_bl | with_reducible exact ev_non | with_reducible exact ea_nil
  | with_reducible assumption
  | ((with_reducible apply ev_op); walk_at "ev"; walk_at "ev"; walk_at "rd")
  | ((with_reducible apply ea_cons); walk_at "ev"; walk_at "ev")
  | ((with_reducible apply ev_cb); walk_at "ev"; walk_at "rc")
  | ((with_reducible apply ev_tupB); walk_at "ev"; rfl) | ((with_reducible apply ev_lstB); walk_at "ev"; rfl)
  | ((with_reducible apply ev_andV); walk_at "ev"; (intro _; walk_at "ev")) | ((with_reducible apply ev_orV); walk_at "ev"; (intro _; walk_at "ev")) | ((with_reducible apply ev_notV); walk_at "ev")
  | ((with_reducible apply ev_chain); walk_at "ev"; walk_at "ev"; walk_at "ev"; walk_at "rd"; (intro _; walk_at "rd"))
  | ((with_reducible apply eb_and); walk_at "ev"; (intro _; walk_at "ev")) | ((with_reducible apply eb_or); walk_at "ev"; (intro _; walk_at "ev")) | ((with_reducible apply eb_not); walk_at "ev") | ((with_reducible apply eb_test); walk_at "ev") | ((with_reducible apply eb_B); walk_at "ev")
  | ((with_reducible apply ev_isi (b := true)); walk_at "ev"; (intro _ z; cases z); rfl) | ((with_reducible apply ev_isi (b := false)); walk_at "ev"; (intro _ z; cases z); rfl))


theorem flatMap_if {α β : Type} (c : α → Bool) (f : α → β) : ∀ l : List α, l.flatMap (fun x => if c x = true then [f x] else []) = (l.filter c).map f
  | [] => rfl
  | x :: l => by
    rw [List.flatMap_cons, flatMap_if c f l]
    by_cases h : c x = true
    · rw [if_pos h, List.filter_cons_of_pos h, List.map_cons]
      rfl
    · rw [if_neg h, List.filter_cons_of_neg h]
      rfl
theorem take_flat {α β : Type} {f : α → List β} {xs : List α} {i : Nat} {x : α} (h : xs[i]? = some x) : (xs.take (i + 1)).flatMap f = (xs.take i).flatMap f ++ f x := by
  rw [List.take_succ, h]
  simp
theorem flat_le {α β : Type} {f : α → List β} {n : Nat} {xs : List α} (h : ∀ a ∈ xs, (f a).length ≤ n) : (xs.flatMap f).length ≤ xs.length * n := by
  induction xs with
  | nil => simp
  | cons x l ih =>
    rw [List.flatMap_cons, List.length_append, List.length_cons, Nat.add_mul]
    have := ih fun a ha => h a (List.mem_cons_of_mem _ ha)
    have := h x List.mem_cons_self
    omega
section
variable {K : PySem.W.Frag} {C : Addr} {Z : Zn} {Hi H : Hp} {σ : L2.St} {ρ : List Sl} {te ta tb : TE} {tu tz : TS} {D' : Ends} {tt : TT}
/-- a loop whose turns make two lists of ours longer -/
theorem s_grow {α J : Type} {wi : TI} {g : TG} {xs : List α} {emb : α → D} (base : J → List D → List D → List Sl) (fa fb : α → List D) (na nb : Nat) (ha : ∀ x ∈ xs, (fa x).length ≤ na) (hb : ∀ x ∈ xs, (fb x).length ≤ nb) (j0 : J) (A B : List D)
    (h : EvI K C wi (base j0 A B) xs emb) (S : Sit K C Z Hi σ H (base j0 A B)) (m : α → List (Nat × D)) (hg : ∀ a ∈ xs, GtP K g (emb a) (m a)) (hm : ∀ j A' B', ∀ a ∈ xs, ∀ p ∈ m a, p.1 < (base j A' B').length)
    (turn : ∀ (Z' : Zn) (i : Nat) (x : α) (j : J) (A' B' : List D), xs[i]? = some x → A'.length ≤ A.length + xs.length * na → B'.length ≤ B.length + xs.length * nb → ∀ Hi' σ' H', Sit K C Z' Hi' σ' H' (setS (base j A' B') (m x)) →
      tu { D' with nx := Nxt K C Z' (fun ρ => ∃ j, ρ = base j (A' ++ fa x) (B' ++ fb x)), ct := Nxt K C Z' (fun ρ => ∃ j, ρ = base j (A' ++ fa x) (B' ++ fb x)), bk := D'.nx } σ' H')
    (done : ∀ j Hi' σ' H', Sit K C Z Hi' σ' H' (base j (A ++ xs.flatMap fa) (B ++ xs.flatMap fb)) → D'.nx σ' H') : tFor wi g tu D' σ H := by
  refine s_for h S (fun i ρ => ∃ j, ρ = base j (A ++ (xs.take i).flatMap fa) (B ++ (xs.take i).flatMap fb)) (fun Z' σ' Hi' H' S' => ⟨_, _, ⟨j0, by rw [List.take_zero, List.flatMap_nil, List.append_nil, List.flatMap_nil, List.append_nil]⟩, S'⟩) m hg (fun i ρ' ⟨j, e⟩ a ha p hp => by rw [e]; exact hm _ _ _ a ha p hp) (fun Z' up i x ρ' hx ⟨j, e⟩ Hi1 σ1 H1 S1 => ?_) (fun ρ' ⟨j, e⟩ Hi1 σ1 H1 S1 => ?_)
  · subst e
    rw [take_flat (f := fa) hx, take_flat (f := fb) hx, ← List.append_assoc, ← List.append_assoc]
    have hi : i ≤ xs.length := Nat.le_of_lt (List.getElem?_eq_some_iff.mp hx).1
    refine turn Z' i x j _ _ hx ?_ ?_ _ _ _ S1
    · rw [List.length_append]
      have q := flat_le (f := fa) (n := na) (xs := xs.take i) fun a q => ha a (List.mem_of_mem_take q)
      rw [List.length_take, Nat.min_eq_left hi] at q
      have := Nat.mul_le_mul_right na hi
      omega
    · rw [List.length_append]
      have q := flat_le (f := fb) (n := nb) (xs := xs.take i) fun a q => hb a (List.mem_of_mem_take q)
      rw [List.length_take, Nat.min_eq_left hi] at q
      have := Nat.mul_le_mul_right nb hi
      omega
  · subst e
    rw [List.take_length] at S1
    exact done j _ _ _ S1
theorem q_grow {α J : Type} {wi : TI} {g : TG} {xs : List α} {emb : α → D} (base : J → List D → List D → List Sl) (fa fb : α → List D) (na nb : Nat) (ha : ∀ x ∈ xs, (fa x).length ≤ na) (hb : ∀ x ∈ xs, (fb x).length ≤ nb) (j0 : J) (A B : List D)
    (h : EvI K C wi (base j0 A B) xs emb) (S : Sit K C Z Hi σ H (base j0 A B)) (m : α → List (Nat × D)) (hg : ∀ a ∈ xs, GtP K g (emb a) (m a)) (hm : ∀ j A' B', ∀ a ∈ xs, ∀ p ∈ m a, p.1 < (base j A' B').length)
    (turn : ∀ (Z' : Zn) (i : Nat) (x : α) (j : J) (A' B' : List D), xs[i]? = some x → A'.length ≤ A.length + xs.length * na → B'.length ≤ B.length + xs.length * nb → ∀ Hi' σ' H', Sit K C Z' Hi' σ' H' (setS (base j A' B') (m x)) →
      tu { D' with nx := Nxt K C Z' (fun ρ => ∃ j, ρ = base j (A' ++ fa x) (B' ++ fb x)), ct := Nxt K C Z' (fun ρ => ∃ j, ρ = base j (A' ++ fa x) (B' ++ fb x)), bk := tz D' } σ' H')
    (done : ∀ j Hi' σ' H', Sit K C Z Hi' σ' H' (base j (A ++ xs.flatMap fa) (B ++ xs.flatMap fb)) → tz D' σ' H') : tSeq (tFor wi g tu) tz D' σ H :=
  s_grow (D' := { D' with nx := tz D' }) base fa fb na nb ha hb j0 A B h S m hg hm turn done
/-- x = [.. for y in .. if ..], a list of ours -/
theorem q_newFil {α : Type} {wi : TI} {i j : Nat} {xs : List α} {emb : α → D} (c : α → Bool) (f : α → D) (h : EvI K C wi ρ xs emb) (hz : xs.length < 100000) (hi : i < ρ.length)
    (ht : ∀ a ∈ xs, EvB K C tt (ρ.set i (.dat (emb a))) (c a)) (he : ∀ a ∈ xs, c a = true → EvP K C te (ρ.set i (.dat (emb a))) (f a))
    (S : Sit K C Z Hi σ H ρ) (hj : j < ρ.length) (k : ∀ σ' Hi' H', Sit K C Z Hi' σ' H' (ρ.set j (.own ((xs.filter c).map f))) → tz D' σ' H') : tSeq (tAsg (tLc wi (gName i) tt te [i]) (gName j)) tz D' σ H := by
  have e : ∀ a, setS (wipeS ρ [i]) [(i, emb a)] = ρ.set i (.dat (emb a)) := fun a => List.set_set ..
  refine q_newLc h hz (fun v hv => ?_) c f (fun a => [(i, emb a)]) (fun a _ p hp => ?_) (fun a _ => gt_name) (fun a ha => ?_) (fun a ha hc => ?_) S hj k
  · rw [List.mem_singleton] at hv
    rw [hv]
    exact hi
  · rw [List.mem_singleton] at hp
    rw [hp]
    exact List.mem_singleton.mpr rfl
  · rw [e]
    exact ht a ha
  · rw [e]
    exact he a ha hc
theorem rd_neg {i : Int} : RU K (rU fun i => .int (-i)) (.int i) (.int (-i)) := fun Hi H v Q S h q => ⟨i, h.int_eq, q _ H (Same.refl H) (.int _)⟩
/-- rule[0] == "never" -/
theorem ev_never {u : Rul} (h : EvP K C ta ρ (rulD u)) : EvP K C (tOp (rEqU K) (tOp (rIx K) ta (tC (.int 0))) (tC (.str ("never" : PySem.Str)))) ρ (.bool u.isNever) := by
  cases u with
  | never f => exact EvP.eq (ev_op (ev_op h ev_int (rd_ixT rfl)) ev_str rd_eqS) (congrArg D.bool (by show _ = true; decide +kernel))
  | same f w => exact EvP.eq (ev_op (ev_op h ev_int (rd_ixT rfl)) ev_str rd_eqS) (congrArg D.bool (by show _ = false; decide +kernel))
  | begin f n w => exact EvP.eq (ev_op (ev_op h ev_int (rd_ixT rfl)) ev_str rd_eqS) (congrArg D.bool (by show _ = false; decide +kernel))
  | both f o w => exact EvP.eq (ev_op (ev_op h ev_int (rd_ixT rfl)) ev_str rd_eqS) (congrArg D.bool (by show _ = false; decide +kernel))
/-- rule[-1] -/
theorem ev_last {u : Rul} (hn : u.isNever = false) (h : EvP K C ta ρ (rulD u)) : EvP K C (tOp (rIx K) ta (tUn (rU fun i => .int (-i)) (tC (.int 1)))) ρ (.int u.w) := by
  cases u with
  | never f => cases hn
  | same f w => exact ev_op h (ev_un ev_int rd_neg) (rd_ixT rfl)
  | begin f n w => exact ev_op h (ev_un ev_int rd_neg) (rd_ixT rfl)
  | both f o w => exact ev_op h (ev_un ev_int rd_neg) (rd_ixT rfl)
/-- rule[len(rule) - 1] -/
theorem ev_last2 {u : Rul} (hn : u.isNever = false) (h : EvP K C ta ρ (rulD u)) : EvP K C (tOp (rIx K) ta (tOp (rSubU) (tCB (rLenU K) (tCons ta tNil)) (tC (.int 1)))) ρ (.int u.w) := by
  cases u with
  | never f => cases hn
  | same f w => exact ev_op h (ev_op (ev_cb (ea_cons h ea_nil) rc_lenT) ev_int rd_subI) (rd_ixT rfl)
  | begin f n w => exact ev_op h (ev_op (ev_cb (ea_cons h ea_nil) rc_lenT) ev_int rd_subI) (rd_ixT rfl)
  | both f o w => exact ev_op h (ev_op (ev_cb (ea_cons h ea_nil) rc_lenT) ev_int rd_subI) (rd_ixT rfl)
theorem ev_inNT {s : PySem.Str} {l : List PySem.Str} (hs : OkW s) (hl : ∀ x ∈ l, OkW x) (h1 : EvP K C ta ρ (.str s)) (h2 : EvP K C tb ρ (namesD l)) : EvP K C (tOp (rInU K) ta tb) ρ (.bool (decide (s ∈ l))) := by
  rw [← any_strs]
  exact ev_op h1 h2 (rd_inT (shp_str hs) (shp_namesT hl))
theorem ev_inNL {s : PySem.Str} {l : List PySem.Str} (hs : OkW s) (hl : ∀ x ∈ l, OkW x) (h1 : EvP K C ta ρ (.str s)) (h2 : EvP K C tb ρ (strsD l)) : EvP K C (tOp (rInU K) ta tb) ρ (.bool (decide (s ∈ l))) := by
  rw [← any_strs]
  exact ev_op h1 h2 (rd_inL (shp_str hs) (shp_strs hl))
theorem ev_notInNL {s : PySem.Str} {l : List PySem.Str} (hs : OkW s) (hl : ∀ x ∈ l, OkW x) (h1 : EvP K C ta ρ (.str s)) (h2 : EvP K C tb ρ (strsD l)) : EvP K C (tOp (rNotInU K) ta tb) ρ (.bool (!decide (s ∈ l))) := by
  rw [← any_strs]
  exact ev_op h1 h2 (rd_notInL (shp_str hs) (shp_strs hl))
end
theorem cut_drop {α : Type} (xs : List α) (k : Nat) : cutG xs (some (k : Int)) none = xs.drop k := by
  unfold cutG
  rw [HT.sIx_none, HT.sIx_nat]
  by_cases h : k ≤ xs.length
  · rw [Nat.min_eq_left h, List.take_of_length_le]
    rw [List.length_drop]
    exact Nat.le_refl _
  · have h' : xs.length ≤ k := by omega
    rw [Nat.min_eq_right h', Nat.sub_self, List.take_zero, List.drop_eq_nil_of_le h']
theorem enum_cons {α : Type} (x : α) (l : List α) : enumL (x :: l) = (0, x) :: (enumL l).map fun p => (p.1 + 1, p.2) := by
  unfold enumL
  rw [List.length_cons, List.range_succ_eq_map, List.zip_cons_cons, List.zip_map_left]
  rfl
theorem up_enum {α : Type} : ∀ l : List α, (enumL l).flatMap (fun p => (l.drop (p.1 + 1)).map fun y => (p.2, y)) = upPairs l
  | [] => rfl
  | x :: l => by
    rw [enum_cons, List.flatMap_cons, List.flatMap_map, upPairs, ← up_enum l]
    rfl
theorem map_flat {α β γ : Type} (f : β → γ) (g : α → List β) (l : List α) : (l.flatMap g).map f = l.flatMap fun x => (g x).map f := List.map_flatMap ..
theorem found_enum {β : Type} (f : Row → Row → List β) (l : List Row) : (upPairs l).flatMap (fun p => f p.1 p.2) = (enumL l).flatMap fun p => (l.drop (p.1 + 1)).flatMap fun y => f p.2 y := by
  rw [← up_enum, List.flatMap_assoc]
  congr 1
  funext p
  rw [List.flatMap_map]
/-! ### the law's own order of pairs -/
def atR (l : List Row) (i : Nat) : Row := l.getD i ⟨"", []⟩
theorem atR_get {l : List Row} {i : Nat} (h : i < l.length) : l[i]? = some (atR l i) := by
  unfold atR
  rw [List.getD_eq_getElem?_getD, List.getElem?_eq_getElem h]
  rfl
def lawPairs (l : List Row) (n : Nat) : List (Row × Row) := (List.range n).flatMap fun j => (List.range j).map fun i => (atR l i, atR l j)
theorem up_snoc (x : Row) : ∀ l : List Row, (upPairs (l ++ [x])).Perm (upPairs l ++ l.map fun y => (y, x))
  | [] => List.Perm.refl _
  | y :: l => by
    show (((l ++ [x]).map fun z => (y, z)) ++ upPairs (l ++ [x])).Perm ((l.map (fun z => (y, z)) ++ upPairs l) ++ ((y, x) :: l.map fun z => (z, x)))
    rw [List.map_append, List.append_assoc, List.append_assoc]
    refine List.Perm.append_left _ ?_
    show ((y, x) :: upPairs (l ++ [x])).Perm _
    refine ((up_snoc x l).cons (y, x)).trans ?_
    exact List.perm_middle.symm
theorem range_at (l : List Row) : (List.range l.length).map (atR l) = l := by
  apply List.ext_getElem?
  intro i
  rw [List.getElem?_map]
  by_cases h : i < l.length
  · rw [List.getElem?_eq_getElem (by rw [List.length_range]; exact h), List.getElem_range]
    exact (atR_get h).symm
  · rw [List.getElem?_eq_none (by rw [List.length_range]; omega), List.getElem?_eq_none (by omega)]
    rfl
theorem at_take {l : List Row} {i n : Nat} (h : i < n) : atR (l.take n) i = atR l i := by
  unfold atR
  rw [List.getD_eq_getElem?_getD, List.getD_eq_getElem?_getD, List.getElem?_take_of_lt h]
theorem law_up (l : List Row) : ∀ n, n ≤ l.length → (lawPairs l n).Perm (upPairs (l.take n))
  | 0, _ => by
    rw [List.take_zero]
    exact List.Perm.refl _
  | n + 1, h => by
    have hn : n < l.length := h
    unfold lawPairs
    rw [List.range_succ, List.flatMap_append, List.flatMap_cons, List.flatMap_nil, List.append_nil, List.take_succ, atR_get hn]
    refine List.Perm.trans ?_ (up_snoc (atR l n) (l.take n)).symm
    refine (law_up l n (by omega)).append ?_
    have e : l.take n = (List.range n).map (atR l) := by
      have q := range_at (l.take n)
      rw [List.length_take, Nat.min_eq_left (by omega)] at q
      rw [← q]
      apply List.map_congr_left
      intro i hi
      exact (at_take (List.mem_range.mp hi))
    rw [e, List.map_map]
    exact List.Perm.refl _
theorem law_all (l : List Row) : (lawPairs l l.length).Perm (upPairs l) := by
  have q := law_up l l.length (Nat.le_refl _)
  rw [List.take_length] at q
  exact q
theorem law_found {β : Type} (f : Row → Row → List β) (l : List Row) : ((List.range l.length).flatMap fun j => (List.range j).flatMap fun i => f (atR l i) (atR l j)).Perm ((upPairs l).flatMap fun p => f p.1 p.2) := by
  have e : ((List.range l.length).flatMap fun j => (List.range j).flatMap fun i => f (atR l i) (atR l j)) = (lawPairs l l.length).flatMap fun p => f p.1 p.2 := by
    unfold lawPairs
    rw [List.flatMap_assoc]
    congr 1
    funext j
    rw [List.flatMap_map]
  rw [e]
  exact (law_all l).flatMap_right _
end FK

set_option Elab.async false
set_option linter.all false
set_option maxRecDepth 100000
set_option maxHeartbeats 4000000
namespace FK
open PySem PySem.Spec PyProof.Rows L2 FR
local macro_rules | `(tactic| walk_at "rd") => `(tactic| first
  | with_reducible exact rd_addI | with_reducible exact rd_subI | with_reducible exact rd_leI | with_reducible exact rd_ltI | with_reducible exact rd_geI | with_reducible exact rd_gtI | with_reducible exact rd_ltS | with_reducible exact rd_eqI | with_reducible exact rd_neI | with_reducible exact rd_eqS | with_reducible exact rd_neS
  | with_reducible exact rd_isNN | with_reducible exact rd_isNS | with_reducible exact rd_notNN | with_reducible exact rd_notNS | with_reducible exact rd_inS
  | ((with_reducible apply rd_ixT); rfl) | ((with_reducible apply rd_ixL); rfl)
  | ((with_reducible apply rd_modI); first | decide | assumption)
  | ((with_reducible apply rd_mulI); assumption) | ((with_reducible apply rd_powI); assumption) | ((with_reducible apply rd_divI); assumption) | ((with_reducible apply rd_addS); assumption) | ((with_reducible apply rd_mulS); assumption) | ((with_reducible apply rd_ixL); assumption) | ((with_reducible apply rd_ixT); assumption)
  | with_reducible assumption)
local macro_rules | `(tactic| walk_at "rc") => `(tactic| first
  | with_reducible exact rc_lenL | with_reducible exact rc_lenT | with_reducible exact rc_lenScr | with_reducible exact rc_minI | with_reducible exact rc_maxI | with_reducible exact rc_minS | with_reducible exact rc_maxS | with_reducible exact rc_tup | with_reducible exact rc_listT | with_reducible exact rc_intB | with_reducible exact rc_abs
  | ((with_reducible apply rc_lenS); assumption) | with_reducible exact rc_any | with_reducible exact rc_all | with_reducible assumption)
local macro_rules | `(tactic| walk_at "ev") => `(tactic| first
  | ((with_reducible apply ev_var); rfl) | with_reducible exact ev_int | with_reducible exact ev_str | with_reducible exact ev_bl | with_reducible exact ev_non | with_reducible exact ea_nil
  | with_reducible assumption
  | ((with_reducible apply ev_op); walk_at "ev"; walk_at "ev"; walk_at "rd")
  | ((with_reducible apply ea_cons); walk_at "ev"; walk_at "ev")
  | ((with_reducible apply ev_cb); walk_at "ev"; walk_at "rc")
  | ((with_reducible apply ev_tupB); walk_at "ev"; rfl) | ((with_reducible apply ev_lstB); walk_at "ev"; rfl)
  | ((with_reducible apply ev_andV); walk_at "ev"; (intro _; walk_at "ev")) | ((with_reducible apply ev_orV); walk_at "ev"; (intro _; walk_at "ev")) | ((with_reducible apply ev_notV); walk_at "ev")
  | ((with_reducible apply ev_chain); walk_at "ev"; walk_at "ev"; walk_at "ev"; walk_at "rd"; (intro _; walk_at "rd"))
  | ((with_reducible apply eb_and); walk_at "ev"; (intro _; walk_at "ev")) | ((with_reducible apply eb_or); walk_at "ev"; (intro _; walk_at "ev")) | ((with_reducible apply eb_not); walk_at "ev") | ((with_reducible apply eb_test); walk_at "ev") | ((with_reducible apply eb_B); walk_at "ev")
  | ((with_reducible apply ev_isi (b := true)); walk_at "ev"; (intro _ z; cases z); rfl) | ((with_reducible apply ev_isi (b := false)); walk_at "ev"; (intro _ z; cases z); rfl))


theorem namesM_perm (rows : List Row) : (namesM rows).Perm (rows.map (·.n)) := srt_perm strD _
theorem namesM_w {s : S4} (h : OkS s) : ∀ x ∈ namesM s.rows, OkW x := fun x hx => rows_w h x ((namesM_perm _).mem_iff.mp hx)
theorem hasR_names (rows : List Row) : hasR (namesM rows) = hasR (rows.map (·.n)) := by
  funext r
  unfold hasR
  rw [decide_eq_decide.mpr (namesM_perm rows).mem_iff, decide_eq_decide.mpr (namesM_perm rows).mem_iff]
theorem hasB_names (rows : List Row) : hasB (namesM rows) = hasB (rows.map (·.n)) := by
  funext r
  unfold hasB
  rw [decide_eq_decide.mpr (namesM_perm rows).mem_iff, decide_eq_decide.mpr (namesM_perm rows).mem_iff]
theorem ground_is (us : List Rul) (s : S4) : (⟨namesM s.rows, ordR ((ordR (foundR us s.rows) ++ s.told.filter (hasR (namesM s.rows))).filter fun r => !decide (r ∈ s.struck)), srt brD (srt brD (foundB us s.rows) ++ s.bars.filter (hasB (namesM s.rows)))⟩ : Gr) = groundM us s := by
  unfold groundM
  rw [hasR_names, hasB_names]
  rw [ordR_congr ((List.Perm.append_right _ (ordR_perm (foundR us s.rows))).filter _), srtB_congr (List.Perm.append_right _ (srt_perm brD (foundB us s.rows)))]
theorem ground_law {us : List Rul} {s : S4} {fr : List Rsn} {fb : List Br} (h1 : fr.Perm (foundR us s.rows)) (h2 : fb.Perm (foundB us s.rows)) : (⟨namesM s.rows, ordR ((s.told.filter (hasR (namesM s.rows)) ++ fr).filter fun r => !decide (r ∈ s.struck)), srt brD (s.bars.filter (hasB (namesM s.rows)) ++ fb)⟩ : Gr) = groundM us s := by
  unfold groundM
  rw [hasR_names, hasB_names]
  rw [ordR_congr ((List.perm_append_comm.trans (List.Perm.append_right _ h1)).filter _), srtB_congr (List.perm_append_comm.trans (List.Perm.append_right _ h2))]
def knownK (rows : List Row) : List (PySem.Str × D) := rows.map fun r => (r.n, rowD r)
theorem known_rc {K : PySem.W.Frag} {s : S4} (h : OkS s) : RC K (rDictU K) [.list (s.rows.map fun r => .tuple [.str r.n, rowD r])] (.dct (knownK s.rows)) := by
  have e : (s.rows.map fun r => D.tuple [.str r.n, rowD r]) = pairsD (knownK s.rows) := by
    unfold pairsD knownK
    rw [List.map_map]
    rfl
  rw [e]
  refine rc_dictL ?_
  unfold knownK
  rw [List.map_map]
  exact h.nodup
theorem known_at {r : Row} : ∀ {rows : List Row}, (rows.map (·.n)).Nodup → r ∈ rows → lookD (knownK rows) r.n = some (rowD r)
  | [], _, h => by cases h
  | x :: l, hn, h => by
    rw [List.map_cons, List.nodup_cons] at hn
    unfold lookD knownK
    rw [List.map_cons]
    by_cases e : x.n = r.n
    · rw [List.find?_cons_of_pos (by simpa using e)]
      rcases List.mem_cons.mp h with h | h
      · rw [h]
        rfl
      · exact absurd (List.mem_map.mpr ⟨r, h, e.symm⟩) hn.1
    · rw [List.find?_cons_of_neg (by simpa using e)]
      rcases List.mem_cons.mp h with h | h
      · exact absurd (by rw [h]) e
      · exact known_at hn.2 h
def uAt (us : List Rul) (k : Nat) : Rul := us.getD k (.never "")
theorem uAt_get {us : List Rul} {k : Nat} (h : k < us.length) : us[k]? = some (uAt us k) := by
  unfold uAt
  rw [List.getD_eq_getElem?_getD, List.getElem?_eq_getElem h]
  rfl
theorem enum_range (us : List Rul) : enumL us = (List.range us.length).map fun k => (k, uAt us k) := by
  apply List.ext_getElem?
  intro i
  rw [List.getElem?_map]
  by_cases h : i < us.length
  · have hl : i < (enumL us).length := by
      rw [enumL_len]
      exact h
    obtain ⟨h1, h2⟩ := enumL_get (List.getElem?_eq_getElem hl)
    rw [List.getElem?_eq_getElem hl, List.getElem?_eq_getElem (by rw [List.length_range]; exact h), List.getElem_range]
    rw [uAt_get h] at h2
    have h3 := Option.some.inj h2
    show some _ = some (i, uAt us i)
    rw [h3]
    congr 1
    exact Prod.ext h1 rfl
  · rw [List.getElem?_eq_none (by rw [enumL_len]; omega), List.getElem?_eq_none (by rw [List.length_range]; omega)]
    rfl
theorem betR_range (us : List Rul) (r o : Row) : ((List.range us.length).flatMap fun k => if (tellsM (uAt us k) r o && !(uAt us k).isNever) = true then [rsnD ⟨(uAt us k).w, r.n, o.n, (k : Nat)⟩] else []) = (betR us r o).map rsnD := by
  rw [flatMap_if (fun k => tellsM (uAt us k) r o && !(uAt us k).isNever) fun k => rsnD ⟨(uAt us k).w, r.n, o.n, (k : Nat)⟩]
  unfold betR
  rw [enum_range, List.filter_map, List.map_map, List.map_map]
  rfl
theorem betB_range (us : List Rul) (r o : Row) : ((List.range us.length).flatMap fun k => if (tellsM (uAt us k) r o && (uAt us k).isNever) = true then [brD ⟨r.n, o.n, (k : Nat)⟩] else []) = (betB us r o).map brD := by
  rw [flatMap_if (fun k => tellsM (uAt us k) r o && (uAt us k).isNever) fun k => brD ⟨r.n, o.n, (k : Nat)⟩]
  unfold betB
  rw [enum_range, List.filter_map, List.map_map, List.map_map]
  rfl
end FK

set_option Elab.async false
set_option linter.all false
set_option maxRecDepth 100000
set_option maxHeartbeats 4000000
namespace FK
open PySem PySem.Spec PyProof.Rows L2 FR
local macro_rules | `(tactic| walk_at "rd") => `(tactic| first
  | with_reducible exact rd_addI | with_reducible exact rd_subI | with_reducible exact rd_leI | with_reducible exact rd_ltI | with_reducible exact rd_geI | with_reducible exact rd_gtI | with_reducible exact rd_ltS | with_reducible exact rd_eqI | with_reducible exact rd_neI | with_reducible exact rd_eqS | with_reducible exact rd_neS
  | with_reducible exact rd_isNN | with_reducible exact rd_isNS | with_reducible exact rd_notNN | with_reducible exact rd_notNS | with_reducible exact rd_inS
  | ((with_reducible apply rd_ixT); rfl) | ((with_reducible apply rd_ixL); rfl)
  | ((with_reducible apply rd_modI); first | decide | assumption)
  | ((with_reducible apply rd_mulI); assumption) | ((with_reducible apply rd_powI); assumption) | ((with_reducible apply rd_divI); assumption) | ((with_reducible apply rd_addS); assumption) | ((with_reducible apply rd_mulS); assumption) | ((with_reducible apply rd_ixL); assumption) | ((with_reducible apply rd_ixT); assumption)
  | with_reducible assumption)
local macro_rules | `(tactic| walk_at "rc") => `(tactic| first
  | with_reducible exact rc_lenL | with_reducible exact rc_lenT | with_reducible exact rc_lenScr | with_reducible exact rc_minI | with_reducible exact rc_maxI | with_reducible exact rc_minS | with_reducible exact rc_maxS | with_reducible exact rc_tup | with_reducible exact rc_listT | with_reducible exact rc_intB | with_reducible exact rc_abs
  | ((with_reducible apply rc_lenS); assumption) | with_reducible exact rc_any | with_reducible exact rc_all | with_reducible assumption)
local macro_rules | `(tactic| walk_at "ev") => `(tactic| first
  | ((with_reducible apply ev_var); rfl) | with_reducible exact ev_int | with_reducible exact ev_str | with_reducible exact ev_bl | with_reducible exact ev_non | with_reducible exact ea_nil
  | with_reducible assumption
  | ((with_reducible apply ev_op); walk_at "ev"; walk_at "ev"; walk_at "rd")
  | ((with_reducible apply ea_cons); walk_at "ev"; walk_at "ev")
  | ((with_reducible apply ev_cb); walk_at "ev"; walk_at "rc")
  | ((with_reducible apply ev_tupB); walk_at "ev"; rfl) | ((with_reducible apply ev_lstB); walk_at "ev"; rfl)
  | ((with_reducible apply ev_andV); walk_at "ev"; (intro _; walk_at "ev")) | ((with_reducible apply ev_orV); walk_at "ev"; (intro _; walk_at "ev")) | ((with_reducible apply ev_notV); walk_at "ev")
  | ((with_reducible apply ev_chain); walk_at "ev"; walk_at "ev"; walk_at "ev"; walk_at "rd"; (intro _; walk_at "rd"))
  | ((with_reducible apply eb_and); walk_at "ev"; (intro _; walk_at "ev")) | ((with_reducible apply eb_or); walk_at "ev"; (intro _; walk_at "ev")) | ((with_reducible apply eb_not); walk_at "ev") | ((with_reducible apply eb_test); walk_at "ev") | ((with_reducible apply eb_B); walk_at "ev")
  | ((with_reducible apply ev_isi (b := true)); walk_at "ev"; (intro _ z; cases z); rfl) | ((with_reducible apply ev_isi (b := false)); walk_at "ev"; (intro _ z; cases z); rfl))


section
variable {K : PySem.W.Frag} {C : Addr} {ρ : List Sl} {ta tb te : TE} {tz : TS} {Z : Zn} {Hi H : Hp} {σ : L2.St} {D' : Ends} {P P' : D → Prop}
theorem EvR.mono (h : EvR K C ta ρ P) (i : ∀ d, P d → P' d) : EvR K C ta ρ P' := fun Hi σ H Q S q => h Hi σ H Q S fun v H' d p g hd => q v H' d (i d p) g hd
/-- arguments, one of several data each -/
def EvAR (K : PySem.W.Frag) (C : Addr) (ta : TA) (ρ : List Sl) (P : List D → Prop) : Prop := ∀ (Hi : Hp) (σ : L2.St) (H : Hp) (Q : List V → Hp → Prop), Env K C Hi σ H ρ → (∀ vs H' ds, P ds → Same H H' → DdAll K (nu Hi H H') vs ds → Q vs H') → ta σ H Q
theorem EvA.toR {t : TA} {ds : List D} (h : EvA K C t ρ ds) : EvAR K C t ρ (· = ds) := fun Hi σ H Q S q => h Hi σ H Q S fun vs H' g hd => q vs H' ds rfl g hd
theorem ear_cons {t : TA} {PA : List D → Prop} (h : EvR K C ta ρ P) (ht : EvAR K C t ρ PA) : EvAR K C (tCons ta t) ρ (fun l => ∃ d ds, l = d :: ds ∧ P d ∧ PA ds) := fun Hi σ H Q S q =>
  h Hi σ H _ S fun v H1 d p g1 d1 => ht _ σ H1 _ (S.grow g1) fun vs H2 ds pa g2 d2 => by
    rw [nu_nu S.ex g1 g2] at d2
    exact q _ H2 _ ⟨d, ds, rfl, p, pa⟩ (g1.trans g2) (.cons (Dd.mono (nu_le S.ex g1 g2) _ d1) d2)
theorem ev_callRR {α : Type} {emb : α → List D} {pre : α → Prop} {post : α → D → Prop} {PA : List D → Prop} {P : D → Prop} {E : XK} {t : TA} (h : EvAR K C t ρ PA) (hp : ∀ ds, PA ds → ∃ a, ds = emb a ∧ pre a ∧ ∀ d, post a d → P d) : EvR K C (tCall (spR K emb pre post) [] E t) ρ P := fun Hi σ H Q S q =>
  h Hi σ H _ S fun vs H1 ds pa g1 d1 => by
    obtain ⟨a, ea, ha, hP⟩ := hp ds pa
    subst ea
    show spR K emb pre post (vs ++ []) H1 Q E
    rw [List.append_nil]
    exact ⟨a, nu Hi H H1, nu_hi S.ex g1, d1, ha, fun v H2 d p g2 d2 => q v H2 d (hP d p) (g1.trans g2) (by rw [nu_nu S.ex g1 g2] at d2; exact d2)⟩
/-- a, b = one of several tuples -/
theorem q_asgTR {n : Nat} (js : List Nat) (h : EvR K C te ρ P) (hP : ∀ d, P d → ∃ ds, d = .tuple ds ∧ ds.length = n) (hn : n = js.length) (S : Sit K C Z Hi σ H ρ) (hl : ∀ j ∈ js, j < ρ.length) (k : ∀ ds, P (.tuple ds) → ∀ σ' Hi' H', Sit K C Z Hi' σ' H' (setS ρ (js.zip ds)) → tz D' σ' H') : tSeq (tAsg te (gTup K n (gOf js))) tz D' σ H :=
  h Hi σ H _ S.env fun v H' d p g hd => by
    obtain ⟨ds, e, hn2⟩ := hP d p
    subst e
    exact gt_tup hn2 (hn2.trans hn) (nu Hi H H') H' σ v _ (nu_hi S.ex g) hd fun l hl' => k ds p _ _ _ ((S.grow g).sets hl' fun p hp => hl _ (List.of_mem_zip hp).1)
theorem eqv_nil {xs : List D} : PyData.eqv (py (.tuple xs)) (py (.tuple [])) = decide (xs = []) := by
  cases xs with
  | nil => simp only [py, pyAll, PyData.eqv, PyData.eqvAll, decide_true]
  | cons x xs =>
    simp only [py, pyAll, PyData.eqv, PyData.eqvAll]
    simp
theorem shp_nil : Shp (.tuple []) := by
  refine shp_of ?_ ?_
  · simp only [py, pyAll, PyData.canLay0, PyData.canLayAll0]
  · simp [py, pyAll, PyData.depth, PyData.depthAll]
/-- xs != () -/
theorem ev_some {α : Type} {e : α → D} {l : List α} (hs : Shp (.tuple (l.map e))) (h : EvP K C ta ρ (.tuple (l.map e))) : EvP K C (tOp (rNeU K) ta (tTupP tNil)) ρ (.bool (!decide (l = []))) := by
  refine EvP.eq (ev_op h (ev_tupB ea_nil rfl) (rd_neD hs shp_nil)) ?_
  rw [eqv_nil]
  congr 2
  exact decide_eq_decide.mpr List.map_eq_nil_iff
/-- an item of a tuple of ours, at n % len -/
theorem ev_pickT {α : Type} {e : α → D} {l : List α} {n : Int} (hl : l ≠ []) (h : EvP K C ta ρ (.tuple (l.map e))) (hn : EvP K C tb ρ (.int n)) : ∃ x, x ∈ l ∧ EvP K C (tOp (rIx K) ta (tOp (rModU) tb (tCB (rLenU K) (tCons ta tNil)))) ρ (e x) := by
  have hpos : (0 : Int) < ((l.map e).length : Nat) := by
    rw [List.length_map]
    have := List.length_pos_iff.mpr hl
    omega
  obtain ⟨d, hd, _, he⟩ := atI_mem (xs := l.map e) (i := n % ((l.map e).length : Nat)) (Int.emod_nonneg _ (by omega)) (Int.emod_lt_of_pos _ hpos)
  obtain ⟨x, hx, rfl⟩ := List.mem_map.mp hd
  exact ⟨x, hx, ev_op h (ev_op hn (ev_cb (ea_cons h ea_nil) rc_lenT) (rd_modI hpos)) (rd_ixT he)⟩
theorem ev_pickL {α : Type} {e : α → D} {l : List α} {n : Int} (hl : l ≠ []) (h : EvP K C ta ρ (.list (l.map e))) (hn : EvP K C tb ρ (.int n)) : ∃ x, x ∈ l ∧ EvP K C (tOp (rIx K) ta (tOp (rModU) tb (tCB (rLenU K) (tCons ta tNil)))) ρ (e x) := by
  have hpos : (0 : Int) < ((l.map e).length : Nat) := by
    rw [List.length_map]
    have := List.length_pos_iff.mpr hl
    omega
  obtain ⟨d, hd, _, he⟩ := atI_mem (xs := l.map e) (i := n % ((l.map e).length : Nat)) (Int.emod_nonneg _ (by omega)) (Int.emod_lt_of_pos _ hpos)
  obtain ⟨x, hx, rfl⟩ := List.mem_map.mp hd
  exact ⟨x, hx, ev_op h (ev_op hn (ev_cb (ea_cons h ea_nil) rc_lenL) (rd_modI hpos)) (rd_ixL he)⟩
/-- xs[n:] of numbers -/
theorem ev_tail {xs : List Int} (n : Nat) (h : EvP K C ta ρ (intsD xs)) : EvP K C (tSl (rSlU K) ta (tPart (tC (.int (n : Nat)))) tNoPart) ρ (intsD (xs.drop n)) := by
  refine EvP.eq (ev_sl h (eo_some ev_int) eo_none rs_L) ?_
  show D.list _ = D.list ((xs.drop n).map D.int)
  rw [cut_drop, List.map_drop]
theorem ev_ifT {b : Bool} {tt : TT} {d : D} (e : b = true) (h : EvB K C tt ρ b) (h1 : EvP K C ta ρ d) : EvP K C (tIf tt ta tb) ρ d := by
  subst e
  exact ev_if (d1 := d) (d2 := d) h (fun _ => h1) (fun e => by cases e)
theorem ev_ifF {b : Bool} {tt : TT} {d : D} (e : b = false) (h : EvB K C tt ρ b) (h1 : EvP K C tb ρ d) : EvP K C (tIf tt ta tb) ρ d := by
  subst e
  exact ev_if (d1 := d) (d2 := d) h (fun e => by cases e) (fun _ => h1)
end
theorem okX_drop {xs : List Int} (h : OkX xs) (n : Nat) : OkX (xs.drop n) := fun x hx => h x (List.mem_of_mem_drop hx)
/-! ### facts of the deeds -/
theorem min_swap {a b : PySem.Str} (h : ltS a b = true) : minS b a = a ∧ maxS b a = b := by
  unfold minS maxS
  rw [if_pos h, if_neg (by rw [ltS_asym h]; exact Bool.false_ne_true)]
  exact ⟨rfl, rfl⟩
theorem min_keep {a b : PySem.Str} (h : ltS a b = true) : minS a b = a ∧ maxS a b = b := by
  unfold minS maxS
  rw [if_neg (by rw [ltS_asym h]; exact Bool.false_ne_true), if_pos h]
  exact ⟨rfl, rfl⟩
theorem reason_swap {r : Rsn} (h : OkR r) (hk : r.k = 100) : reasonOf r.b r.a r.w 100 = r := by
  unfold reasonOf
  rw [(min_swap h.lt).1, (min_swap h.lt).2, ← hk]
theorem bar_swap {r : Br} (h : OkB r) (hk : r.k = 100) : barOf r.b r.a = r := by
  unfold barOf
  rw [(min_swap h.lt).1, (min_swap h.lt).2, ← hk]
theorem min_comm (a b : PySem.Str) : minS a b = minS b a ∧ maxS a b = maxS b a := by
  by_cases h : a = b
  · rw [h]
    exact ⟨rfl, rfl⟩
  · rcases ltS_tri h with q | q
    · rw [(min_keep q).1, (min_keep q).2, (min_swap q).1, (min_swap q).2]
      exact ⟨rfl, rfl⟩
    · rw [(min_keep q).1, (min_keep q).2, (min_swap q).1, (min_swap q).2]
      exact ⟨rfl, rfl⟩
theorem lt_ne {a b : PySem.Str} (h : ltS a b = true) : a ≠ b := fun e => by
  rw [e] at h
  have := ltS_asym h
  rw [h] at this
  cases this
theorem ground_mem {us : List Rul} {s : S4} {r : Rsn} (h : r ∈ (groundM us s).reasons) : r ∈ foundR us s.rows ∨ r ∈ s.told := by
  unfold groundM at h
  have h2 := (List.mem_filter.mp ((ordR_perm _).mem_iff.mp h)).1
  rcases List.mem_append.mp h2 with q | q
  · exact .inl q
  · exact .inr (List.mem_filter.mp q).1
theorem ground_ok {us : List Rul} {s : S4} (hu : ∀ u ∈ us, OkRul u) (hs : OkS s) : ∀ r ∈ (groundM us s).reasons, OkR r := fun r h => by
  rcases ground_mem h with q | q
  · exact (foundR_ok hu hs.rows hs.nodup r q).1
  · exact hs.told r q
end FK

set_option Elab.async false
set_option linter.all false
set_option maxRecDepth 100000
set_option maxHeartbeats 4000000
namespace FK
open PySem PySem.Spec PyProof.Rows L2 FR
local macro_rules | `(tactic| walk_at "rd") => `(tactic| first
  | with_reducible exact rd_addI | with_reducible exact rd_subI | with_reducible exact rd_leI | with_reducible exact rd_ltI | with_reducible exact rd_geI | with_reducible exact rd_gtI | with_reducible exact rd_ltS | with_reducible exact rd_eqI | with_reducible exact rd_neI | with_reducible exact rd_eqS | with_reducible exact rd_neS
  | with_reducible exact rd_isNN | with_reducible exact rd_isNS | with_reducible exact rd_notNN | with_reducible exact rd_notNS | with_reducible exact rd_inS
  | ((with_reducible apply rd_ixT); rfl) | ((with_reducible apply rd_ixL); rfl)
  | ((with_reducible apply rd_modI); first | decide | assumption)
  | ((with_reducible apply rd_mulI); assumption) | ((with_reducible apply rd_powI); assumption) | ((with_reducible apply rd_divI); assumption) | ((with_reducible apply rd_addS); assumption) | ((with_reducible apply rd_mulS); assumption) | ((with_reducible apply rd_ixL); assumption) | ((with_reducible apply rd_ixT); assumption)
  | with_reducible assumption)
local macro_rules | `(tactic| walk_at "rc") => `(tactic| first
  | with_reducible exact rc_lenL | with_reducible exact rc_lenT | with_reducible exact rc_lenScr | with_reducible exact rc_minI | with_reducible exact rc_maxI | with_reducible exact rc_minS | with_reducible exact rc_maxS | with_reducible exact rc_tup | with_reducible exact rc_listT | with_reducible exact rc_intB | with_reducible exact rc_abs
  | ((with_reducible apply rc_lenS); assumption) | with_reducible exact rc_any | with_reducible exact rc_all | with_reducible assumption)
local macro_rules | `(tactic| walk_at "ev") => `(tactic| first
  | ((with_reducible apply ev_var); rfl) | with_reducible exact ev_int | with_reducible exact ev_str | with_reducible exact ev_bl | with_reducible exact ev_non | with_reducible exact ea_nil
  | with_reducible assumption
  | ((with_reducible apply ev_op); walk_at "ev"; walk_at "ev"; walk_at "rd")
  | ((with_reducible apply ea_cons); walk_at "ev"; walk_at "ev")
  | ((with_reducible apply ev_cb); walk_at "ev"; walk_at "rc")
  | ((with_reducible apply ev_tupB); walk_at "ev"; rfl) | ((with_reducible apply ev_lstB); walk_at "ev"; rfl)
  | ((with_reducible apply ev_andV); walk_at "ev"; (intro _; walk_at "ev")) | ((with_reducible apply ev_orV); walk_at "ev"; (intro _; walk_at "ev")) | ((with_reducible apply ev_notV); walk_at "ev")
  | ((with_reducible apply ev_chain); walk_at "ev"; walk_at "ev"; walk_at "ev"; walk_at "rd"; (intro _; walk_at "rd"))
  | ((with_reducible apply eb_and); walk_at "ev"; (intro _; walk_at "ev")) | ((with_reducible apply eb_or); walk_at "ev"; (intro _; walk_at "ev")) | ((with_reducible apply eb_not); walk_at "ev") | ((with_reducible apply eb_test); walk_at "ev") | ((with_reducible apply eb_B); walk_at "ev")
  | ((with_reducible apply ev_isi (b := true)); walk_at "ev"; (intro _ z; cases z); rfl) | ((with_reducible apply ev_isi (b := false)); walk_at "ev"; (intro _ z; cases z); rfl))


/-! ### sizes -/
structure Sz (n : Nat) (s : S4) : Prop where
  r : s.rows.length ≤ n
  t : s.told.length ≤ n
  b : s.bars.length ≤ n
  k : s.struck.length ≤ n
theorem Sz.le {n m : Nat} {s : S4} (h : Sz n s) (hm : n ≤ m) : Sz m s := ⟨Nat.le_trans h.r hm, Nat.le_trans h.t hm, Nat.le_trans h.b hm, Nat.le_trans h.k hm⟩
theorem len_snoc {α : Type} {l : List α} {x : α} {n : Nat} (h : l.length ≤ n) : (l ++ [x]).length ≤ n + 1 := by
  rw [List.length_append]
  exact Nat.add_le_add_right h 1
theorem len_fil {α : Type} {l : List α} {p : α → Bool} {n : Nat} (h : l.length ≤ n) : (l.filter p).length ≤ n + 1 := Nat.le_trans (List.length_filter_le _ _) (Nat.le_succ_of_le h)
theorem sz_behind {n : Nat} {s : S4} (h : Sz n s) (d : Deed) : Sz (n + 1) (behind s d) := by
  have h' := h.le (Nat.le_succ n)
  cases d with
  | put r => exact ⟨len_snoc h.r, h'.t, h'.b, h'.k⟩
  | drop m => exact ⟨len_fil h.r, h'.t, h'.b, h'.k⟩
  | tell a b w => exact ⟨h'.r, len_snoc h.t, h'.b, h'.k⟩
  | untell a b w => exact ⟨h'.r, len_fil h.t, h'.b, h'.k⟩
  | bar a b => exact ⟨h'.r, h'.t, len_snoc h.b, h'.k⟩
  | unbar a b => exact ⟨h'.r, h'.t, len_fil h.b, h'.k⟩
  | strike r => exact ⟨h'.r, h'.t, h'.b, len_snoc h.k⟩
  | unstrike r => exact ⟨h'.r, h'.t, h'.b, len_fil h.k⟩
  | undo => exact h'
/-- the sound items of a state -/
structure OkI (s : S4) : Prop where
  rows : ∀ r ∈ s.rows, OkRow r
  nodup : (s.rows.map (·.n)).Nodup
  told : ∀ r ∈ s.told, OkR r
  bars : ∀ r ∈ s.bars, OkB r
  struck : ∀ r ∈ s.struck, OkR r
theorem OkS.i {s : S4} (h : OkS s) : OkI s := ⟨h.rows, h.nodup, h.told, h.bars, h.struck⟩
theorem OkI.s {s : S4} (h : OkI s) {n : Nat} (z : Sz n s) (hn : n ≤ 40) : OkS s := ⟨h.rows, h.nodup, h.told, h.bars, h.struck, Nat.le_trans z.r hn, Nat.le_trans z.t hn, Nat.le_trans z.b hn, Nat.le_trans z.k hn⟩
theorem all_snoc {α : Type} {P : α → Prop} {l : List α} {x : α} (h : ∀ y ∈ l, P y) (hx : P x) : ∀ y ∈ l ++ [x], P y := fun y hy => by
  rcases List.mem_append.mp hy with q | q
  · exact h y q
  · rw [List.mem_singleton] at q
    rw [q]
    exact hx
theorem all_fil {α : Type} {P : α → Prop} {l : List α} {p : α → Bool} (h : ∀ y ∈ l, P y) : ∀ y ∈ l.filter p, P y := fun y hy => h y (List.mem_filter.mp hy).1
theorem nodup_snoc {α : Type} {l : List α} {x : α} (h : l.Nodup) (hx : x ∉ l) : (l ++ [x]).Nodup := by
  have q : (x :: l).Nodup := List.nodup_cons.mpr ⟨hx, h⟩
  exact (List.perm_append_comm (l₁ := l) (l₂ := [x])).nodup_iff.mpr q
theorem okI_behind {s : S4} {ah : List S4} {d : Deed} (h : OkI s) (hd : d.ok s ah) : OkI (behind s d) := by
  cases d with
  | put r => exact ⟨all_snoc h.rows hd.1, by show ((s.rows ++ [r]).map (·.n)).Nodup; rw [List.map_append]; exact nodup_snoc h.nodup hd.2, h.told, h.bars, h.struck⟩
  | drop m => exact ⟨all_fil h.rows, h.nodup.sublist (List.filter_sublist.map _), h.told, h.bars, h.struck⟩
  | tell a b w => exact ⟨h.rows, h.nodup, all_snoc h.told (ok_reason hd.1 hd.2.1 hd.2.2.1 hd.2.2.2.1 hd.2.2.2.2.1 (by decide)), h.bars, h.struck⟩
  | untell a b w => exact ⟨h.rows, h.nodup, all_fil h.told, h.bars, h.struck⟩
  | bar a b => exact ⟨h.rows, h.nodup, h.told, all_snoc h.bars (ok_bar hd.1 hd.2.1 hd.2.2.1), h.struck⟩
  | unbar a b => exact ⟨h.rows, h.nodup, h.told, all_fil h.bars, h.struck⟩
  | strike r => exact ⟨h.rows, h.nodup, h.told, h.bars, all_snoc h.struck hd.1⟩
  | unstrike r => exact ⟨h.rows, h.nodup, h.told, h.bars, all_fil h.struck⟩
  | undo => exact h
theorem getLastD_mem {α : Type} {l : List α} {d : α} (h : l ≠ []) : l.getLastD d ∈ l := by
  rw [List.getLastD_eq_getLast?, List.getLast?_eq_some_getLast h]
  exact List.getLast_mem h
theorem okF_do {F : Fo} {d : Deed} {n : Nat} (hF : OkF F) (hd : d.ok F.cur F.ahead) (hz : Sz n F.cur) (hn : n < 40) (hl : F.ahead.length < 1000) : OkF (doF F d) := by
  have hb : d ≠ .undo → OkF ⟨F.rules, behind F.cur d, F.ahead ++ [F.cur]⟩ := fun _ => ⟨hF.rules, hF.lr, (okI_behind hF.cur.i hd).s (sz_behind hz d) hn, all_snoc hF.ah hF.cur, by rw [List.length_append]; show F.ahead.length + 1 ≤ 1000; omega⟩
  cases d with
  | undo =>
    have hd' : F.ahead ≠ [] := hd
    refine ⟨hF.rules, hF.lr, hF.ah _ (getLastD_mem hd'), fun s hs => hF.ah s (List.dropLast_subset _ hs), ?_⟩
    show F.ahead.dropLast.length ≤ 1000
    rw [List.length_dropLast]
    have := hF.la
    omega
  | put r => exact hb (fun z => by cases z)
  | drop m => exact hb (fun z => by cases z)
  | tell a b w => exact hb (fun z => by cases z)
  | untell a b w => exact hb (fun z => by cases z)
  | bar a b => exact hb (fun z => by cases z)
  | unbar a b => exact hb (fun z => by cases z)
  | strike r => exact hb (fun z => by cases z)
  | unstrike r => exact hb (fun z => by cases z)
/-! ### a detour -/
def farN : PySem.Str := ("zzzzzzzz" : PySem.Str)
def farRow : Row := ⟨farN, [(("day" : PySem.Str), ("a" : PySem.Str))]⟩
def oddR : Rsn := ⟨998, ("aa" : PySem.Str), ("ab" : PySem.Str), 77⟩
def somes (a b : PySem.Str) : List Deed := [.put farRow, .tell a b 999, .bar farN a, .strike oddR]
def backs (a b : PySem.Str) : List Deed := [.drop farN, .untell b a 999, .unbar a farN, .unstrike oddR]
theorem far_ok : OkN farN := ⟨by decide +kernel, by decide +kernel, by decide +kernel⟩
theorem farRow_ok : OkRow farRow := ⟨far_ok, by decide +kernel, by decide +kernel, by
  intro p hp
  have e : p = (("day" : PySem.Str), ("a" : PySem.Str)) := List.mem_singleton.mp hp
  rw [e]
  exact ⟨⟨by decide +kernel, by decide +kernel⟩, ⟨by decide +kernel, by decide +kernel⟩⟩⟩
theorem odd_ok : OkR oddR := ⟨⟨by decide +kernel, by decide +kernel, by decide +kernel⟩, ⟨by decide +kernel, by decide +kernel, by decide +kernel⟩, by decide +kernel, by decide +kernel, by decide +kernel, by decide +kernel⟩
theorem far_out {ns : List PySem.Str} (h : OkNs ns) : farN ∉ ns := fun m => by
  have := (h.ok _ m).2
  have e : farN.length = 8 := by decide +kernel
  omega
theorem fil_snoc {α : Type} [DecidableEq α] {l : List α} {x : α} (h : x ∉ l) : (l ++ [x]).filter (fun y => !decide (y = x)) = l := by
  rw [List.filter_append, List.filter_eq_self.mpr fun y hy => ?_, List.filter_cons_of_neg (by simp), List.filter_nil, List.append_nil]
  have : y ≠ x := fun e => h (e ▸ hy)
  simpa using this
theorem det_ok {ns : List PySem.Str} {s : S4} {F : Fo} {a b : PySem.Str} {w : Nat} (h : DetOk ns s F) (ha : a ∈ ns) (hb : b ∈ ns) (hab : a ≠ b) (hw : w = 1 → reasonOf a b 999 100 ∉ s.told) {e e' : Deed} (he : (somes a b)[w]? = some e) (he' : (backs a b)[w]? = some e') :
    e ≠ .undo ∧ e' ≠ .undo ∧ e.ok F.cur F.ahead ∧ (∀ ah, e'.ok (behind F.cur e) ah) ∧ behind (behind F.cur e) e' = F.cur := by
  have oa := (h.names.ok a ha).1
  have ob := (h.names.ok b hb).1
  have ff := far_out h.names
  match w, hw, he, he' with
  | 0, _, he, he' =>
    cases he
    cases he'
    have hn : farN ∉ F.cur.rows.map (·.n) := fun m => by
      obtain ⟨r, h1, h2⟩ := List.mem_map.mp m
      exact ff (h2 ▸ h.rows r h1)
    refine ⟨(fun z => by cases z), (fun z => by cases z), ⟨farRow_ok, hn⟩, fun ah => ⟨far_ok, ?_⟩, ?_⟩
    · show farN ∈ (F.cur.rows ++ [farRow]).map (·.n)
      rw [List.map_append]
      exact List.mem_append_right _ (List.mem_singleton.mpr rfl)
    · show ({ F.cur with rows := (F.cur.rows ++ [farRow]).filter fun r => !decide (r.n = farN) } : S4) = F.cur
      have e : (F.cur.rows ++ [farRow]).filter (fun r => !decide (r.n = farN)) = F.cur.rows := by
        rw [List.filter_append, List.filter_eq_self.mpr fun y hy => ?_, List.filter_cons_of_neg (by show ¬ (!decide (farN = farN)) = true; simp), List.filter_nil, List.append_nil]
        have : y.n ≠ farN := fun e => hn (e ▸ List.mem_map.mpr ⟨y, hy, rfl⟩)
        simpa using this
      rw [e]
  | 1, hw, he, he' =>
    cases he
    cases he'
    have hn : reasonOf a b 999 100 ∉ F.cur.told := fun m => hw rfl (h.told _ m)
    have ec : reasonOf b a 999 100 = reasonOf a b 999 100 := by
      unfold reasonOf
      rw [(min_comm a b).1, (min_comm a b).2]
    refine ⟨(fun z => by cases z), (fun z => by cases z), ⟨oa, ob, hab, by decide, by decide, hn⟩, fun ah => ⟨ob, oa, hab.symm, by decide, by decide, ?_⟩, ?_⟩
    · show reasonOf b a 999 100 ∈ F.cur.told ++ [reasonOf a b 999 100]
      rw [ec]
      exact List.mem_append_right _ (List.mem_singleton.mpr rfl)
    · show ({ F.cur with told := (F.cur.told ++ [reasonOf a b 999 100]).filter fun r => !decide (r = reasonOf b a 999 100) } : S4) = F.cur
      rw [ec, fil_snoc hn]
  | 2, _, he, he' =>
    cases he
    cases he'
    have hfa : farN ≠ a := fun e => ff (e ▸ ha)
    have hn : barOf farN a ∉ F.cur.bars := fun m => by
      have q := h.bars _ m
      rcases ltS_tri hfa with z | z
      · have e : (barOf farN a).a = farN := (min_keep z).1
        exact ff (e ▸ q.1)
      · have e : (barOf farN a).b = farN := (min_swap z).2
        exact ff (e ▸ q.2)
    have ec : barOf a farN = barOf farN a := by
      unfold barOf
      rw [(min_comm a farN).1, (min_comm a farN).2]
    refine ⟨(fun z => by cases z), (fun z => by cases z), ⟨far_ok, oa, hfa, hn⟩, fun ah => ⟨oa, far_ok, hfa.symm, ?_⟩, ?_⟩
    · show barOf a farN ∈ F.cur.bars ++ [barOf farN a]
      rw [ec]
      exact List.mem_append_right _ (List.mem_singleton.mpr rfl)
    · show ({ F.cur with bars := (F.cur.bars ++ [barOf farN a]).filter fun r => !decide (r = barOf a farN) } : S4) = F.cur
      rw [ec, fil_snoc hn]
  | 3, _, he, he' =>
    cases he
    cases he'
    have hn : oddR ∉ F.cur.struck := fun m => h.struck _ m rfl
    refine ⟨(fun z => by cases z), (fun z => by cases z), ⟨odd_ok, hn⟩, fun ah => ⟨odd_ok, ?_⟩, ?_⟩
    · show oddR ∈ F.cur.struck ++ [oddR]
      exact List.mem_append_right _ (List.mem_singleton.mpr rfl)
    · show ({ F.cur with struck := (F.cur.struck ++ [oddR]).filter fun r => !decide (r = oddR) } : S4) = F.cur
      rw [fil_snoc hn]
  | n + 4, _, he, _ => cases he
theorem step_not {s : S4} {ah : List S4} {d : Deed} (h : d ≠ .undo) : stepD s ah d = (behind s d, ah ++ [s]) := by
  cases d <;> first | rfl | exact absurd rfl h
theorem do_not {F : Fo} {d : Deed} (h : d ≠ .undo) : doF F d = { F with cur := behind F.cur d, ahead := F.ahead ++ [F.cur] } := by
  unfold doF
  rw [step_not h]
theorem do_undo {F : Fo} {s : S4} {as : List S4} (h : F.ahead = as ++ [s]) : doF F .undo = { F with cur := s, ahead := as } := by
  unfold doF stepD
  rw [h]
  simp
end FK

set_option Elab.async false
set_option linter.all false
set_option maxRecDepth 100000
set_option maxHeartbeats 4000000
namespace FK
open PySem PySem.Spec PyProof.Rows L2 FR
local macro_rules | `(tactic| walk_at "rd") => `(tactic| first
  | with_reducible exact rd_addI | with_reducible exact rd_subI | with_reducible exact rd_leI | with_reducible exact rd_ltI | with_reducible exact rd_geI | with_reducible exact rd_gtI | with_reducible exact rd_ltS | with_reducible exact rd_eqI | with_reducible exact rd_neI | with_reducible exact rd_eqS | with_reducible exact rd_neS
  | with_reducible exact rd_isNN | with_reducible exact rd_isNS | with_reducible exact rd_notNN | with_reducible exact rd_notNS | with_reducible exact rd_inS
  | ((with_reducible apply rd_ixT); rfl) | ((with_reducible apply rd_ixL); rfl)
  | ((with_reducible apply rd_modI); first | decide | assumption)
  | ((with_reducible apply rd_mulI); assumption) | ((with_reducible apply rd_powI); assumption) | ((with_reducible apply rd_divI); assumption) | ((with_reducible apply rd_addS); assumption) | ((with_reducible apply rd_mulS); assumption) | ((with_reducible apply rd_ixL); assumption) | ((with_reducible apply rd_ixT); assumption)
  | with_reducible assumption)
local macro_rules | `(tactic| walk_at "rc") => `(tactic| first
  | with_reducible exact rc_lenL | with_reducible exact rc_lenT | with_reducible exact rc_lenScr | with_reducible exact rc_minI | with_reducible exact rc_maxI | with_reducible exact rc_minS | with_reducible exact rc_maxS | with_reducible exact rc_tup | with_reducible exact rc_listT | with_reducible exact rc_intB | with_reducible exact rc_abs
  | ((with_reducible apply rc_lenS); assumption) | with_reducible exact rc_any | with_reducible exact rc_all | with_reducible assumption)
local macro_rules | `(tactic| walk_at "ev") => `(tactic| first
  | ((with_reducible apply ev_var); rfl) | with_reducible exact ev_int | with_reducible exact ev_str | with_reducible exact ev_bl | with_reducible exact ev_non | with_reducible exact ea_nil
  | with_reducible assumption
  | ((with_reducible apply ev_op); walk_at "ev"; walk_at "ev"; walk_at "rd")
  | ((with_reducible apply ea_cons); walk_at "ev"; walk_at "ev")
  | ((with_reducible apply ev_cb); walk_at "ev"; walk_at "rc")
  | ((with_reducible apply ev_tupB); walk_at "ev"; rfl) | ((with_reducible apply ev_lstB); walk_at "ev"; rfl)
  | ((with_reducible apply ev_andV); walk_at "ev"; (intro _; walk_at "ev")) | ((with_reducible apply ev_orV); walk_at "ev"; (intro _; walk_at "ev")) | ((with_reducible apply ev_notV); walk_at "ev")
  | ((with_reducible apply ev_chain); walk_at "ev"; walk_at "ev"; walk_at "ev"; walk_at "rd"; (intro _; walk_at "rd"))
  | ((with_reducible apply eb_and); walk_at "ev"; (intro _; walk_at "ev")) | ((with_reducible apply eb_or); walk_at "ev"; (intro _; walk_at "ev")) | ((with_reducible apply eb_not); walk_at "ev") | ((with_reducible apply eb_test); walk_at "ev") | ((with_reducible apply eb_B); walk_at "ev")
  | ((with_reducible apply ev_isi (b := true)); walk_at "ev"; (intro _ z; cases z); rfl) | ((with_reducible apply ev_isi (b := false)); walk_at "ev"; (intro _ z; cases z); rfl))


def endOf : S4 → List S4 → List (Deed × S4) → S4 × List S4
  | s, ah, [] => (s, ah)
  | s, ah, p :: l => endOf (stepD s ah p.1).1 (stepD s ah p.1).2 l
theorem end_snoc (d : Deed) (x : S4) : ∀ (l : List (Deed × S4)) (s : S4) (ah : List S4), endOf s ah (l ++ [(d, x)]) = stepD (endOf s ah l).1 (endOf s ah l).2 d
  | [], s, ah => rfl
  | p :: l, s, ah => end_snoc d x l _ _
theorem run_snoc {ns : List PySem.Str} {d : Deed} : ∀ {l : List (Deed × S4)} {s : S4} {ah : List S4}, RunOk ns s ah l → DrawnOk ns (endOf s ah l).1 (endOf s ah l).2.length d → d.ok (endOf s ah l).1 (endOf s ah l).2 → RunOk ns s ah (l ++ [(d, (stepD (endOf s ah l).1 (endOf s ah l).2 d).1)])
  | [], s, ah, _, h1, h2 => .cons h1 h2 (.nil _ _)
  | p :: l, s, ah, h, h1, h2 => by
    cases h with
    | cons a b c => exact .cons a b (run_snoc c h1 h2)
theorem nin_behind {ns : List PySem.Str} {a b : PySem.Str} (ha : a ∈ ns) (hb : b ∈ ns) : minS a b ∈ ns ∧ maxS a b ∈ ns := by
  refine ⟨?_, ?_⟩
  · rcases minS_or a b with e | e <;> rw [e] <;> assumption
  · rcases maxS_or a b with e | e <;> rw [e] <;> assumption
theorem okL_behind {ns : List PySem.Str} {s : S4} {ah : List S4} {d : Deed} {n many : Nat} (h : OkL ns s) (hd : DrawnOk ns s many d) (hk : d.ok s ah) (hz : Sz n s) (hn : n < 40) : OkL ns (behind s d) := by
  have ok := (okI_behind h.ok.i hk).s (sz_behind hz d) hn
  have hl := hd.loc
  cases d with
  | put r => exact ⟨ok, all_snoc h.rows hl, h.told, h.bars, h.struck, h.nt, h.nb, h.nstr⟩
  | drop m => exact ⟨ok, all_fil h.rows, h.told, h.bars, h.struck, h.nt, h.nb, h.nstr⟩
  | tell a b w => exact ⟨ok, h.rows, all_snoc h.told ⟨(nin_behind hl.1 hl.2).1, (nin_behind hl.1 hl.2).2, rfl⟩, h.bars, h.struck, nodup_snoc h.nt hk.2.2.2.2.2, h.nb, h.nstr⟩
  | untell a b w => exact ⟨ok, h.rows, all_fil h.told, h.bars, h.struck, h.nt.sublist List.filter_sublist, h.nb, h.nstr⟩
  | bar a b => exact ⟨ok, h.rows, h.told, all_snoc h.bars ⟨(nin_behind hl.1 hl.2).1, (nin_behind hl.1 hl.2).2, rfl⟩, h.struck, h.nt, nodup_snoc h.nb hk.2.2.2, h.nstr⟩
  | unbar a b => exact ⟨ok, h.rows, h.told, all_fil h.bars, h.struck, h.nt, h.nb.sublist List.filter_sublist, h.nstr⟩
  | strike r => exact ⟨ok, h.rows, h.told, h.bars, all_snoc h.struck hl, h.nt, h.nb, nodup_snoc h.nstr hk.2⟩
  | unstrike r => exact ⟨ok, h.rows, h.told, h.bars, all_fil h.struck, h.nt, h.nb, h.nstr.sublist List.filter_sublist⟩
  | undo => exact h
theorem okL_step {ns : List PySem.Str} {s : S4} {ah : List S4} {d : Deed} {n : Nat} (h : OkL ns s) (ha : ∀ a ∈ ah, OkL ns a) (hd : DrawnOk ns s ah.length d) (hk : d.ok s ah) (hz : Sz n s) (hza : ∀ a ∈ ah, Sz n a) (hn : n < 40) :
    OkL ns (stepD s ah d).1 ∧ Sz (n + 1) (stepD s ah d).1 ∧ (∀ a ∈ (stepD s ah d).2, OkL ns a) ∧ (∀ a ∈ (stepD s ah d).2, Sz (n + 1) a) ∧ (stepD s ah d).2.length ≤ ah.length + 1 := by
  by_cases hu : d = .undo
  · subst hu
    have hne : ah ≠ [] := hk
    refine ⟨ha _ (getLastD_mem hne), (hza _ (getLastD_mem hne)).le (Nat.le_succ n), fun a hm => ha a (List.dropLast_subset _ hm), fun a hm => (hza a (List.dropLast_subset _ hm)).le (Nat.le_succ n), ?_⟩
    show ah.dropLast.length ≤ ah.length + 1
    rw [List.length_dropLast]
    omega
  · rw [step_not hu]
    refine ⟨okL_behind h hd hk hz hn, sz_behind hz d, all_snoc ha h, all_snoc (fun a hm => (hza a hm).le (Nat.le_succ n)) (hz.le (Nat.le_succ n)), ?_⟩
    rw [List.length_append]
    exact Nat.le_refl _
def s00 : S4 := ⟨[], [], [], []⟩
theorem okL_s0 (ns : List PySem.Str) : OkL ns s00 := ⟨⟨(fun r h => by cases h), List.nodup_nil, (fun r h => by cases h), (fun r h => by cases h), (fun r h => by cases h), Nat.zero_le _, Nat.zero_le _, Nat.zero_le _, Nat.zero_le _⟩, (fun r h => by cases h), (fun r h => by cases h), (fun r h => by cases h), (fun r h => by cases h), List.nodup_nil, List.nodup_nil, List.nodup_nil⟩
section
variable {K : PySem.W.Frag} {C : Addr} {ρ : List Sl} {ta tb tc te : TE} {P P' : D → Prop}
/-- numbers(cell(script, k), m) -/
theorem ev_nums {ns : List Int} {k m : Nat} (hns : ns.length ≤ 63) (hk : k ≤ 100) (hm : m ≤ 100) (h1 : EvP K C ta ρ (.scr ns)) (h2 : EvP K C tb ρ (.int (k : Nat))) (h3 : EvP K C tc ρ (.int (m : Nat))) :
    EvR K C (tCall (sp_law_numbers K C) [] E0 (tCons (tCall (sp_law_cell K C) [] E0 (tCons ta (tCons tb tNil))) (tCons tc tNil))) ρ (fun d => ∃ xs, d = intsD xs ∧ xs.length = m ∧ OkX xs) := by
  refine ev_callRR (ear_cons (ev_callR (a := (ns, k)) (ea_cons h1 (ea_cons h2 ea_nil)) ⟨hns, hk⟩) (EvA.toR (ea_cons h3 ea_nil))) ?_
  rintro ds ⟨d, ds', rfl, ⟨i, rfl⟩, rfl⟩
  exact ⟨(i, m), rfl, hm, fun d h => h⟩
theorem ev_slR {tl th : TO} {lo hi : Option Int} (h : EvR K C te ρ P) (h1 : EvO K C tl ρ lo) (h2 : EvO K C th ρ hi) (hr : ∀ x, P x → ∃ z, RS K x lo hi z ∧ P' z) : EvR K C (tSl (rSlU K) te tl th) ρ P' := fun Hi σ H Q S q =>
  h Hi σ H _ S fun v H1 x p g1 d1 => h1 _ σ H1 _ (S.grow g1) fun H2 g2 => h2 _ σ H2 _ (S.grow (g1.trans g2)) fun H3 g3 => by
    obtain ⟨z, hz, pz⟩ := hr x p
    exact hz (nu Hi H H3) H3 v Q (nu_hi S.ex ((g1.trans g2).trans g3)) (Dd.mono (nu_le S.ex g1 (g2.trans g3)) _ d1) fun u H4 g4 d4 => q u H4 z pz (((g1.trans g2).trans g3).trans g4) (by rw [nu_nu S.ex ((g1.trans g2).trans g3) g4] at d4; exact d4)
theorem cut_map {α β : Type} (f : α → β) (xs : List α) (lo hi : Option Int) : cutG (xs.map f) lo hi = (cutG xs lo hi).map f := by
  unfold cutG
  rw [List.length_map, List.map_take, List.map_drop]
theorem cut_mem {α : Type} {xs : List α} {lo hi : Option Int} {x : α} (h : x ∈ cutG xs lo hi) : x ∈ xs := List.mem_of_mem_drop (List.mem_of_mem_take h)
theorem cut_le {α : Type} (xs : List α) (lo hi : Option Int) : (cutG xs lo hi).length ≤ xs.length := by
  unfold cutG
  rw [List.length_take, List.length_drop]
  omega
/-- deeds' data -/
theorem shp_deed {e : Deed} {s : S4} {ah : List S4} (h : e.ok s ah) : Shp (deedD e) := by
  have two : ∀ {a b : D}, (py a).canLay0 = true → (py b).canLay0 = true → (py a).depth ≤ 50 → (py b).depth ≤ 50 → Shp (.tuple [a, b]) := fun h1 h2 d1 d2 => shp_of (by simp only [py, pyAll, PyData.canLay0, PyData.canLayAll0, h1, h2, Bool.and_self]) (by simp only [py, pyAll, PyData.depth, PyData.depthAll]; omega)
  have sw : ∀ w : PySem.Str, w.cps.all (· < 128) = true → (py (strD w)).canLay0 = true := fun w hw => by
    simp only [py, PyData.canLay0, PyData.strOk]
    rw [Array.all_eq_true'] at hw ⊢
    intro c hc
    have := of_decide_eq_true (hw c hc)
    exact decide_eq_true (Nat.lt_trans this (by decide))
  have li : ∀ i : Int, (py (.int i)).canLay0 = true := fun i => by simp only [py, PyData.canLay0]
  have many : ∀ {l : List D}, (∀ x ∈ l, (py x).canLay0 = true) → (∀ x ∈ l, (py x).depth ≤ 50) → Shp (.tuple l) := fun {l} h1 h2 => by
    have q := shp_tup (fun x : D => x) (l := l) h1 (fun x hx => Nat.le_trans (h2 x hx) (by decide))
    rw [List.map_id'] at q
    exact q
  have dstr : ∀ w : PySem.Str, (py (strD w)).depth ≤ 50 := fun w => by rw [dep_str]; decide
  have dint : ∀ i : Int, (py (.int i)).depth ≤ 50 := fun i => by simp [py, PyData.depth]
  cases e with
  | put r =>
    refine many (fun x hx => ?_) (fun x hx => ?_) <;> simp only [List.mem_cons, List.not_mem_nil, or_false] at hx <;> rcases hx with rfl | rfl
    · exact sw _ (by decide +kernel)
    · exact lay_row h.1
    · exact dstr _
    · exact Nat.le_trans (dep_row r) (by decide)
  | drop n =>
    refine many (fun x hx => ?_) (fun x hx => ?_) <;> simp only [List.mem_cons, List.not_mem_nil, or_false] at hx <;> rcases hx with rfl | rfl
    · exact sw _ (by decide +kernel)
    · exact lay_str h.1.w
    · exact dstr _
    · exact dstr _
  | tell a b w =>
    refine many (fun x hx => ?_) (fun x hx => ?_) <;> simp only [List.mem_cons, List.not_mem_nil, or_false] at hx <;> rcases hx with rfl | rfl | rfl | rfl
    · exact sw _ (by decide +kernel)
    · exact lay_str h.1.w
    · exact lay_str h.2.1.w
    · exact li _
    · exact dstr _
    · exact dstr _
    · exact dstr _
    · exact dint _
  | untell a b w =>
    refine many (fun x hx => ?_) (fun x hx => ?_) <;> simp only [List.mem_cons, List.not_mem_nil, or_false] at hx <;> rcases hx with rfl | rfl | rfl | rfl
    · exact sw _ (by decide +kernel)
    · exact lay_str h.1.w
    · exact lay_str h.2.1.w
    · exact li _
    · exact dstr _
    · exact dstr _
    · exact dstr _
    · exact dint _
  | bar a b =>
    refine many (fun x hx => ?_) (fun x hx => ?_) <;> simp only [List.mem_cons, List.not_mem_nil, or_false] at hx <;> rcases hx with rfl | rfl | rfl
    · exact sw _ (by decide +kernel)
    · exact lay_str h.1.w
    · exact lay_str h.2.1.w
    · exact dstr _
    · exact dstr _
    · exact dstr _
  | unbar a b =>
    refine many (fun x hx => ?_) (fun x hx => ?_) <;> simp only [List.mem_cons, List.not_mem_nil, or_false] at hx <;> rcases hx with rfl | rfl | rfl
    · exact sw _ (by decide +kernel)
    · exact lay_str h.1.w
    · exact lay_str h.2.1.w
    · exact dstr _
    · exact dstr _
    · exact dstr _
  | strike r =>
    refine many (fun x hx => ?_) (fun x hx => ?_) <;> simp only [List.mem_cons, List.not_mem_nil, or_false] at hx <;> rcases hx with rfl | rfl
    · exact sw _ (by decide +kernel)
    · exact lay_rsn h.1.a.w h.1.b.w
    · exact dstr _
    · rw [dep_rsn]; decide
  | unstrike r =>
    refine many (fun x hx => ?_) (fun x hx => ?_) <;> simp only [List.mem_cons, List.not_mem_nil, or_false] at hx <;> rcases hx with rfl | rfl
    · exact sw _ (by decide +kernel)
    · exact lay_rsn h.1.a.w h.1.b.w
    · exact dstr _
    · rw [dep_rsn]; decide
  | undo =>
    refine many (fun x hx => ?_) (fun x hx => ?_) <;> simp only [List.mem_cons, List.not_mem_nil, or_false] at hx <;> subst hx
    · exact sw _ (by decide +kernel)
    · exact dstr _
theorem shp_undo : Shp (deedD .undo) := shp_deed (e := .undo) (s := s00) (ah := [s00]) (by show [s00] ≠ []; simp)
theorem eqv_undo (e : Deed) : PyData.eqv (py (deedD e)) (py (deedD .undo)) = decide (e = .undo) := by
  cases e <;> simp [deedD, py, pyAll, PyData.eqv, PyData.eqvAll]
/-- deed == ("undo",) -/
theorem ev_isUndo {e : Deed} {s : S4} {ah : List S4} (h : e.ok s ah) (h1 : EvP K C ta ρ (deedD e)) : EvP K C (tOp (rEqU K) ta (tTupP (tCons (tC (.str ("undo" : PySem.Str))) tNil))) ρ (.bool (decide (e = .undo))) := by
  rw [← eqv_undo]
  exact ev_op h1 (ev_tupB (ea_cons ev_str ea_nil) rfl) (rd_eqD (shp_deed h) shp_undo)
end
end FK

set_option Elab.async false
set_option linter.all false
set_option maxRecDepth 100000
set_option maxHeartbeats 4000000
namespace FK
open PySem PySem.Spec PyProof.Rows L2 FR
local macro_rules | `(tactic| walk_at "rd") => `(tactic| first
  | with_reducible exact rd_addI | with_reducible exact rd_subI | with_reducible exact rd_leI | with_reducible exact rd_ltI | with_reducible exact rd_geI | with_reducible exact rd_gtI | with_reducible exact rd_ltS | with_reducible exact rd_eqI | with_reducible exact rd_neI | with_reducible exact rd_eqS | with_reducible exact rd_neS
  | with_reducible exact rd_isNN | with_reducible exact rd_isNS | with_reducible exact rd_notNN | with_reducible exact rd_notNS | with_reducible exact rd_inS
  | ((with_reducible apply rd_ixT); rfl) | ((with_reducible apply rd_ixL); rfl)
  | ((with_reducible apply rd_modI); first | decide | assumption)
  | ((with_reducible apply rd_mulI); assumption) | ((with_reducible apply rd_powI); assumption) | ((with_reducible apply rd_divI); assumption) | ((with_reducible apply rd_addS); assumption) | ((with_reducible apply rd_mulS); assumption) | ((with_reducible apply rd_ixL); assumption) | ((with_reducible apply rd_ixT); assumption)
  | with_reducible assumption)
local macro_rules | `(tactic| walk_at "rc") => `(tactic| first
  | with_reducible exact rc_lenL | with_reducible exact rc_lenT | with_reducible exact rc_lenScr | with_reducible exact rc_minI | with_reducible exact rc_maxI | with_reducible exact rc_minS | with_reducible exact rc_maxS | with_reducible exact rc_tup | with_reducible exact rc_listT | with_reducible exact rc_intB | with_reducible exact rc_abs
  | ((with_reducible apply rc_lenS); assumption) | with_reducible exact rc_any | with_reducible exact rc_all | with_reducible assumption)
local macro_rules | `(tactic| walk_at "ev") => `(tactic| first
  | ((with_reducible apply ev_var); rfl) | with_reducible exact ev_int | with_reducible exact ev_str | with_reducible exact ev_bl | with_reducible exact ev_non | with_reducible exact ea_nil
  | with_reducible assumption
  | ((with_reducible apply ev_op); walk_at "ev"; walk_at "ev"; walk_at "rd")
  | ((with_reducible apply ea_cons); walk_at "ev"; walk_at "ev")
  | ((with_reducible apply ev_cb); walk_at "ev"; walk_at "rc")
  | ((with_reducible apply ev_tupB); walk_at "ev"; rfl) | ((with_reducible apply ev_lstB); walk_at "ev"; rfl)
  | ((with_reducible apply ev_andV); walk_at "ev"; (intro _; walk_at "ev")) | ((with_reducible apply ev_orV); walk_at "ev"; (intro _; walk_at "ev")) | ((with_reducible apply ev_notV); walk_at "ev")
  | ((with_reducible apply ev_chain); walk_at "ev"; walk_at "ev"; walk_at "ev"; walk_at "rd"; (intro _; walk_at "rd"))
  | ((with_reducible apply eb_and); walk_at "ev"; (intro _; walk_at "ev")) | ((with_reducible apply eb_or); walk_at "ev"; (intro _; walk_at "ev")) | ((with_reducible apply eb_not); walk_at "ev") | ((with_reducible apply eb_test); walk_at "ev") | ((with_reducible apply eb_B); walk_at "ev")
  | ((with_reducible apply ev_isi (b := true)); walk_at "ev"; (intro _ z; cases z); rfl) | ((with_reducible apply ev_isi (b := false)); walk_at "ev"; (intro _ z; cases z); rfl))


section
variable {K : PySem.W.Frag} {C : Addr} {ρ : List Sl} {tl te : TE} {P : D → Prop}
def EvIR (K : PySem.W.Frag) (C : Addr) (wi : TI) (ρ : List Sl) {α : Type} (PX : List α → Prop) (emb : α → D) : Prop := ∀ (Hi : Hp) (σ : L2.St) (H : Hp) (R : It → Hp → Prop), Env K C Hi σ H ρ →
  (∀ (xs : List α), PX xs → ∀ (J : It) (H1 : Hp) (G : Hp → Prop) (Y : Nat → Hp → V → Hp → Prop), Same H H1 → Walk J xs.length G Y → (∀ H2, Same (nu Hi H H1) H2 → G H2) →
    (∀ (i : Nat) (a : α) (Hj H2 : Hp) (x : V) (H3 : Hp), xs[i]? = some a → Same (nu Hi H H1) Hj → Same Hj H2 → Y i H2 x H3 → Same H2 H3 ∧ Dd K (nu Hj H2 H3) x (emb a)) → R J H1) → wi σ H R
theorem ei_seqR {α : Type} {PX : List α → Prop} {emb : α → D} (h : EvR K C tl ρ P) (hP : ∀ d, P d → ∃ xs, PX xs ∧ d = .list (xs.map emb)) : EvIR K C (iSeq K tl) ρ PX emb := fun Hi σ H R S q =>
  h Hi σ H _ S fun v H1 d p g1 d1 => by
    obtain ⟨xs, px, rfl⟩ := hP d p
    obtain ⟨a, vs, rfl, s1, k1⟩ := d1.lst_inv
    have hl : vs.length = xs.length := by rw [k1.len, List.length_map]
    refine .inl ⟨a, rfl, ⟨vs, SqL.of (nu_hi S.ex g1 _ _ s1)⟩, q xs px _ H1 (fun H2 => SqL K H2 a vs) (YAt vs) g1 (by rw [← hl]; exact walk_list) (fun H2 e => SqL.of (e _ _ s1)) fun i a Hj H2 x H3 e hj hj2 y => ?_⟩
    obtain ⟨rfl, hv⟩ := y
    refine ⟨Same.refl _, ?_⟩
    rw [nu_refl hj2]
    obtain ⟨dd, e1, hd⟩ := k1.getV hv
    rw [List.getElem?_map, e] at e1
    cases e1
    exact Dd.mono hj _ hd
theorem ev_mapR {α : Type} {wi : TI} {i : Nat} {PX : List α → Prop} {emb : α → D} (f : α → D) (h : EvIR K C wi ρ PX emb) (hz : ∀ xs, PX xs → xs.length < 100000) (hi : i < ρ.length)
    (he : ∀ xs, PX xs → ∀ a ∈ xs, EvP K C te (ρ.set i (.dat (emb a))) (f a)) : EvR K C (tLc wi (gName i) tYes te [i]) ρ (fun d => ∃ xs, PX xs ∧ d = .list (xs.map f)) := fun Hi σ H Q S q =>
  h Hi σ H _ S fun xs px J H1 G Y g1 wk hG hY => by
    have e0 : ∀ a, setS (wipeS ρ [i]) [(i, emb a)] = ρ.set i (.dat (emb a)) := fun a => List.set_set ..
    show tLc (fun _ _ R => R J H1) (gName i) tYes te [i] σ H Q
    refine lc_at (wi := fun _ _ R => R J H1) (xs := xs) (emb := emb) (hz xs px) (fun v hv => by rw [List.mem_singleton] at hv; rw [hv]; exact hi) (fun _ => true) f (fun a => [(i, emb a)]) (fun a _ p hp => by rw [List.mem_singleton] at hp; rw [hp]; exact List.mem_singleton.mpr rfl) (fun a _ => gt_name) (fun _ _ => eb_yes) (fun a ha _ => by rw [e0]; exact he xs px a ha) (fun R k => k J H1 G Y g1 wk hG hY) S fun p ws H1' H2 g1' hp hp2 k kd => ?_
    have hH : H p = none := Same.free g1' hp
    have kd' := kd _ rfl
    rw [List.filter_eq_self.mpr (fun _ _ => rfl)] at kd'
    refine q _ H2 _ ⟨xs, px, rfl⟩ (g1'.trans k) (.lst ?_ (DdAll.mono ?_ _ kd'))
    · rw [nu_none hH]
      exact hp2
    · intro a o ha0
      have ha : (if a = p then none else nu Hi H H2 a) = some o := ha0
      by_cases na : a = p
      · rw [if_pos na] at ha
        cases ha
      · rw [if_neg na] at ha
        exact ha
end
/-! ### new folk -/
section
variable {K : PySem.W.Frag} {C : Addr} {ρ : List Sl} {Z : Zn} {Hi Hk H H' : Hp} {σ : L2.St} {D' : Ends} {tz : TS}
theorem Sit.newF (S : Sit K C Z Hi σ H ρ) {i : Nat} {p l : Addr} {F : Fo} (hi : i < ρ.length) (fr : ∀ b o, H b = some o → H' b = some o) (x1 : Same Hi Hk) (x2 : Same Hk H') (x3 : ∀ a, H a ≠ none → Hk a = Hi a) (hp : H p = none) (hl : H l = none) (kp : Hk p = none) (kl : Hk l = none) (hne : p ≠ l) (hf : FolAt K C Hk H' p l F) :
    Sit K C Z Hk (σ.set i (some (.ref p))) H' (ρ.set i (.fol p l F)) := by
  obtain ⟨as, h1, h2, h3⟩ := S.sl
  obtain ⟨v0, xs, bs, ys, e1, e2, e3, e4⟩ := h1.split (List.getElem?_eq_getElem hi)
  have hsub : (xs ++ ys).Sublist as := by
    rw [e2]
    exact List.Sublist.append (List.Sublist.refl _) (List.sublist_append_right _ _)
  have hd : ∀ a ∈ as, H a ≠ none := fun a ha => h1.dom a ha
  have same : ∀ a, H a ≠ none → H' a = H a := fun a ha => by
    obtain ⟨o, e⟩ := Option.ne_none_iff_exists'.mp ha
    rw [e, fr a o e]
  have zn : ∀ a, H a = none → Z.H a = none := fun a ha => by
    cases e : Z.H a with
    | none => rfl
    | some o => exact absurd ha (S.k a (by rw [e]; exact fun q => nomatch q)).1
  have np : p ∉ xs ++ ys := fun m => hd p (hsub.subset m) hp
  have nl : l ∉ xs ++ ys := fun m => hd l (hsub.subset m) hl
  refine ⟨x2, fun a ha => ?_, fun a o e n => fr a o (S.fr a o e n), _, e4 Hk H' x1 (fun a ha => same a (hd a (hsub.subset ha))) (some (.ref p)) (.fol p l F) [p, l] (.fol hf), ?_, fun a ha => ?_⟩
  · obtain ⟨q1, q2⟩ := S.k a ha
    refine ⟨by rw [same a q1]; exact q1, by rw [x3 a q1]; exact q2⟩
  · have n1 : (xs ++ ys).Nodup := h2.sublist hsub
    have q : (p :: l :: (xs ++ ys)).Nodup := List.nodup_cons.mpr ⟨fun m => by
      rcases List.mem_cons.mp m with m | m
      · exact hne m
      · exact np m, List.nodup_cons.mpr ⟨nl, n1⟩⟩
    have pm : (xs ++ ([p, l] ++ ys)).Perm (p :: l :: (xs ++ ys)) := by
      refine (List.perm_middle (a := p) (l₁ := xs) (l₂ := l :: ys)).trans ?_
      exact (List.perm_middle (a := l) (l₁ := xs) (l₂ := ys)).cons p
    exact pm.nodup_iff.mpr q
  · have z : (a = p ∨ a = l) ∨ a ∈ xs ++ ys := by
      simp only [List.mem_append, List.mem_cons, List.not_mem_nil, or_false] at ha ⊢
      rcases ha with ha | (ha | ha) | ha
      · exact .inr (.inl ha)
      · exact .inl (.inl ha)
      · exact .inl (.inr ha)
      · exact .inr (.inr ha)
    rcases z with (z | z) | z
    · rw [z]
      exact ⟨kp, .inl (zn p hp)⟩
    · rw [z]
      exact ⟨kl, .inl (zn l hl)⟩
    · have := h3 a (hsub.subset z)
      exact ⟨by rw [x3 a (hd a (hsub.subset z))]; exact this.1, this.2⟩
/-- Folk(rules) -/
theorem mk_fol {k : Nat} {v : V} {us : List Rul} {Q : VK} (hv : σ[k]? = some (some v)) (x : Same Hi H) (hd : Dd K Hi v (rulesD us))
    (q : ∀ p l Hk H', (∀ b o, H b = some o → H' b = some o) → Same Hi Hk → Same Hk H' → (∀ a, H a ≠ none → Hk a = Hi a) → H p = none → H l = none → Hk p = none → Hk l = none → p ≠ l → FolAt K C Hk H' p l ⟨us, s00, []⟩ → Q (.ref p) H') :
    tMake C (sp_F_init K C) [] E0 (tCons (tVar k) tNil) σ H Q := by
  refine ⟨v, hv, fun p dx hp hdx hne => ?_⟩
  have hpn : Hi p = none := Same.free x hp
  have hdn : Hi dx = none := Same.free x hdx
  refine ⟨p, dx, v, us, Hi, rfl, (same_upd2 (same_upd2 x hdn) hpn), upd_same, hpn, hd, fun Hk H' l fr x1 x2 x3 kl hl hpl hf => ⟨rfl, ?_⟩⟩
  have hlp : l ≠ p := hpl.symm
  have hls : H l = none := by
    rw [upd_ne hlp] at hl
    by_cases z : l = dx
    · rw [z]
      exact hdx
    · rw [upd_ne z] at hl
      exact hl
  have hs : ∀ b o, H b = some o → upd (upd H dx (.own p)) p (.ins C dx []) b = some o ∧ b ≠ p := fun b o e => by
    have n1 : b ≠ p := ne_of_none e hp
    have n2 : b ≠ dx := ne_of_none e hdx
    rw [upd_ne n1, upd_ne n2]
    exact ⟨e, n1⟩
  refine q p l Hk H' (fun b o e => fr b o (hs b o e).1 (hs b o e).2) x1 x2 (fun a ha => ?_) hp hls ?_ kl hpl hf
  · obtain ⟨o, e⟩ := Option.ne_none_iff_exists'.mp ha
    exact x3 a (by rw [(hs a o e).1]; exact fun z => nomatch z)
  · rw [x3 p (by rw [upd_same]; exact fun z => nomatch z)]
    exact hpn
theorem q_make2 {i j k : Nat} {us : List Rul} (hk : ρ[k]? = some (.dat (rulesD us))) (hi : i < ρ.length) (hj : j < ρ.length) (S : Sit K C Z Hi σ H ρ) (q : ∀ p l p2 l2 Hi' H' σ', Sit K C Z Hi' σ' H' ((ρ.set i (.fol p l ⟨us, s00, []⟩)).set j (.fol p2 l2 ⟨us, s00, []⟩)) → tz D' σ' H') :
    tSeq (tPar i j (tCons (tMake C (sp_F_init K C) [] E0 (tCons (tVar k) tNil)) (tCons (tMake C (sp_F_init K C) [] E0 (tCons (tVar k) tNil)) tNil))) tz D' σ H := by
  obtain ⟨v, hv, hd⟩ := S.env.slot hk
  show tMake C (sp_F_init K C) [] E0 (tCons (tVar k) tNil) σ H (fun v H1 => tMake C (sp_F_init K C) [] E0 (tCons (tVar k) tNil) σ H1 (fun w H2 => ∃ v' w', [v, w] = [v', w'] ∧ tz D' ((σ.set i (some v')).set j (some w')) H2))
  refine mk_fol hv S.ex hd fun p l Hk H1 fr x1 x2 x3 hp hl kp kl hne hf => ?_
  refine mk_fol hv x2 (Dd.mono x1 _ hd) fun p2 l2 Hk2 H2 fr2 y1 y2 y3 hp2 hl2 kp2 kl2 hne2 hf2 => ?_
  have S1 := S.newF hi fr x1 x2 x3 hp hl kp kl hne hf
  have S2 := S1.newF (i := j) (by rw [List.length_set]; exact hj) fr2 y1 y2 y3 hp2 hl2 kp2 kl2 hne2 hf2
  exact ⟨.ref p, .ref p2, rfl, q p l p2 l2 Hk2 H2 _ S2⟩
end
/-! ### a folk built anew -/
def Deed.row? : Deed → Option Row
  | .put r => some r
  | _ => none
def Deed.rsn? : Deed → Option Rsn
  | .tell a b w => some (reasonOf a b w 100)
  | _ => none
def Deed.br? : Deed → Option Br
  | .bar a b => some (barOf a b)
  | _ => none
def Deed.str? : Deed → Option Rsn
  | .strike r => some r
  | _ => none
def bld (ds : List Deed) : S4 := ⟨ds.filterMap Deed.row?, ds.filterMap Deed.rsn?, ds.filterMap Deed.br?, ds.filterMap Deed.str?⟩
def Deed.adds : Deed → Bool
  | .put _ => true
  | .tell _ _ _ => true
  | .bar _ _ => true
  | .strike _ => true
  | _ => false
theorem bld_snoc {ds : List Deed} {d : Deed} (h : d.adds = true) : behind (bld ds) d = bld (ds ++ [d]) := by
  unfold bld
  cases d with
  | put r => simp [behind, List.filterMap_append, Deed.row?, Deed.rsn?, Deed.br?, Deed.str?]
  | tell a b w => simp [behind, List.filterMap_append, Deed.row?, Deed.rsn?, Deed.br?, Deed.str?]
  | bar a b => simp [behind, List.filterMap_append, Deed.row?, Deed.rsn?, Deed.br?, Deed.str?]
  | strike r => simp [behind, List.filterMap_append, Deed.row?, Deed.rsn?, Deed.br?, Deed.str?]
  | drop n => cases h
  | untell a b w => cases h
  | unbar a b => cases h
  | unstrike r => cases h
  | undo => cases h
theorem fm_some {α β : Type} {g : α → Deed} {f : Deed → Option β} {h : α → β} (e : ∀ x, f (g x) = some (h x)) (l : List α) : (l.map g).filterMap f = l.map h := by
  induction l with
  | nil => rfl
  | cons x l ih => rw [List.map_cons, List.filterMap_cons_some (e x), ih, List.map_cons]
theorem fm_none {α β : Type} {g : α → Deed} {f : Deed → Option β} (e : ∀ x, f (g x) = none) (l : List α) : (l.map g).filterMap f = [] := by
  induction l with
  | nil => rfl
  | cons x l ih => rw [List.map_cons, List.filterMap_cons_none (e x), ih]
theorem wanted_bld {ns : List PySem.Str} {s : S4} (h : OkL ns s) : bld (wanted s) = s := by
  unfold bld wanted
  simp only [List.filterMap_append]
  rw [fm_some (h := id) (g := Deed.put) (f := Deed.row?) (fun _ => rfl), fm_none (g := fun r : Rsn => Deed.tell r.b r.a r.w) (f := Deed.row?) (fun _ => rfl), fm_none (g := fun r : Br => Deed.bar r.b r.a) (f := Deed.row?) (fun _ => rfl), fm_none (g := Deed.strike) (f := Deed.row?) (fun _ => rfl),
    fm_none (g := Deed.put) (f := Deed.rsn?) (fun _ => rfl), fm_some (h := fun r : Rsn => reasonOf r.b r.a r.w 100) (g := fun r : Rsn => Deed.tell r.b r.a r.w) (f := Deed.rsn?) (fun _ => rfl), fm_none (g := fun r : Br => Deed.bar r.b r.a) (f := Deed.rsn?) (fun _ => rfl), fm_none (g := Deed.strike) (f := Deed.rsn?) (fun _ => rfl),
    fm_none (g := Deed.put) (f := Deed.br?) (fun _ => rfl), fm_none (g := fun r : Rsn => Deed.tell r.b r.a r.w) (f := Deed.br?) (fun _ => rfl), fm_some (h := fun r : Br => barOf r.b r.a) (g := fun r : Br => Deed.bar r.b r.a) (f := Deed.br?) (fun _ => rfl), fm_none (g := Deed.strike) (f := Deed.br?) (fun _ => rfl),
    fm_none (g := Deed.put) (f := Deed.str?) (fun _ => rfl), fm_none (g := fun r : Rsn => Deed.tell r.b r.a r.w) (f := Deed.str?) (fun _ => rfl), fm_none (g := fun r : Br => Deed.bar r.b r.a) (f := Deed.str?) (fun _ => rfl), fm_some (h := id) (g := Deed.strike) (f := Deed.str?) (fun _ => rfl)]
  have e1 : s.told.map (fun r : Rsn => reasonOf r.b r.a r.w 100) = s.told := by
    conv => rhs; rw [← List.map_id s.told]
    exact List.map_congr_left fun r hr => reason_swap (h.ok.told r hr) (h.told r hr).2.2
  have e2 : s.bars.map (fun r : Br => barOf r.b r.a) = s.bars := by
    conv => rhs; rw [← List.map_id s.bars]
    exact List.map_congr_left fun r hr => bar_swap (h.ok.bars r hr) (h.bars r hr).2.2
  rw [e1, e2, List.map_id, List.map_id]
  simp
/-- done anew in some order -/
structure Anew (s : S4) (ds : List Deed) : Prop where
  perm : ds.Perm (wanted s)
theorem anew_rows {ns : List PySem.Str} {s : S4} {ds : List Deed} (h : OkL ns s) (p : ds.Perm (wanted s)) : (bld ds).rows.Perm s.rows ∧ (bld ds).told.Perm s.told ∧ (bld ds).bars.Perm s.bars ∧ (bld ds).struck.Perm s.struck := by
  have e := wanted_bld h
  have e1 : (bld (wanted s)).rows = s.rows := congrArg S4.rows e
  have e2 : (bld (wanted s)).told = s.told := congrArg S4.told e
  have e3 : (bld (wanted s)).bars = s.bars := congrArg S4.bars e
  have e4 : (bld (wanted s)).struck = s.struck := congrArg S4.struck e
  rw [← e1, ← e2, ← e3, ← e4]
  exact ⟨p.filterMap _, p.filterMap _, p.filterMap _, p.filterMap _⟩
theorem fm_take {β : Type} (f : Deed → Option β) (ds : List Deed) (i : Nat) : ((ds.take i).filterMap f).Sublist (ds.filterMap f) := (List.take_sublist i ds).filterMap f
theorem not_before {β γ : Type} {f : Deed → Option β} {g : β → γ} {ds : List Deed} {i : Nat} {d : Deed} {x : β} (hn : ((ds.filterMap f).map g).Nodup) (hd : ds[i]? = some d) (hx : f d = some x) : g x ∉ ((ds.take i).filterMap f).map g := by
  have hs : ((ds.take (i + 1)).filterMap f).Sublist (ds.filterMap f) := fm_take f ds (i + 1)
  rw [List.take_succ, hd, List.filterMap_append] at hs
  have e : (some d).toList.filterMap f = [x] := by simp [hx]
  rw [e] at hs
  have h2 := hn.sublist (hs.map g)
  rw [List.map_append, List.nodup_append] at h2
  intro m
  exact h2.2.2 _ m _ (List.mem_singleton.mpr rfl) rfl
theorem wanted_mem {s : S4} {d : Deed} (h : d ∈ wanted s) : (∃ r ∈ s.rows, d = .put r) ∨ (∃ r ∈ s.told, d = .tell r.b r.a r.w) ∨ (∃ r ∈ s.bars, d = .bar r.b r.a) ∨ ∃ r ∈ s.struck, d = .strike r := by
  unfold wanted at h
  simp only [List.mem_append, List.mem_map] at h
  rcases h with ((⟨r, h1, rfl⟩ | ⟨r, h1, rfl⟩) | ⟨r, h1, rfl⟩) | ⟨r, h1, rfl⟩
  · exact .inl ⟨r, h1, rfl⟩
  · exact .inr (.inl ⟨r, h1, rfl⟩)
  · exact .inr (.inr (.inl ⟨r, h1, rfl⟩))
  · exact .inr (.inr (.inr ⟨r, h1, rfl⟩))
theorem anew_ok {ns : List PySem.Str} {s : S4} {ds : List Deed} {i : Nat} {d : Deed} (h : OkL ns s) (p : ds.Perm (wanted s)) (hd : ds[i]? = some d) (ah : List S4) : d.ok (bld (ds.take i)) ah ∧ d.adds = true := by
  obtain ⟨p1, p2, p3, p4⟩ := anew_rows h p
  have hm := p.mem_iff.mp (List.mem_of_getElem? hd)
  rcases wanted_mem hm with ⟨r, hr, rfl⟩ | ⟨r, hr, rfl⟩ | ⟨r, hr, rfl⟩ | ⟨r, hr, rfl⟩
  · have hn : (((ds.filterMap Deed.row?)).map (·.n)).Nodup := (p1.map (·.n)).nodup_iff.mpr h.ok.nodup
    exact ⟨⟨h.ok.rows r hr, not_before hn hd rfl⟩, rfl⟩
  · have hn : ((ds.filterMap Deed.rsn?).map id).Nodup := by
      rw [List.map_id]
      exact p2.nodup_iff.mpr h.nt
    have hro := h.ok.told r hr
    have q := not_before (x := reasonOf r.b r.a r.w 100) hn hd rfl
    rw [List.map_id] at q
    exact ⟨⟨hro.b, hro.a, (lt_ne hro.lt).symm, hro.w1, hro.w2, q⟩, rfl⟩
  · have hn : ((ds.filterMap Deed.br?).map id).Nodup := by
      rw [List.map_id]
      exact p3.nodup_iff.mpr h.nb
    have hro := h.ok.bars r hr
    have q := not_before (x := barOf r.b r.a) hn hd rfl
    rw [List.map_id] at q
    exact ⟨⟨hro.b, hro.a, (lt_ne hro.lt).symm, q⟩, rfl⟩
  · have hn : ((ds.filterMap Deed.str?).map id).Nodup := by
      rw [List.map_id]
      exact p4.nodup_iff.mpr h.nstr
    have q := not_before (x := r) hn hd rfl
    rw [List.map_id] at q
    exact ⟨⟨h.ok.struck r hr, q⟩, rfl⟩
/-- a part of what stands at the end -/
theorem anew_part {ns : List PySem.Str} {s : S4} {ds : List Deed} (h : OkL ns s) (p : ds.Perm (wanted s)) {n : Nat} (hz : Sz n s) (i : Nat) : OkI (bld (ds.take i)) ∧ Sz n (bld (ds.take i)) ∧ (∀ r ∈ (bld (ds.take i)).rows, r ∈ s.rows) ∧ (∀ r ∈ (bld (ds.take i)).told, r ∈ s.told) ∧ (∀ r ∈ (bld (ds.take i)).bars, r ∈ s.bars) ∧ ∀ r ∈ (bld (ds.take i)).struck, r ∈ s.struck := by
  obtain ⟨p1, p2, p3, p4⟩ := anew_rows h p
  have m1 : ∀ r ∈ (bld (ds.take i)).rows, r ∈ s.rows := fun r hr => p1.mem_iff.mp ((fm_take Deed.row? ds i).subset hr)
  have m2 : ∀ r ∈ (bld (ds.take i)).told, r ∈ s.told := fun r hr => p2.mem_iff.mp ((fm_take Deed.rsn? ds i).subset hr)
  have m3 : ∀ r ∈ (bld (ds.take i)).bars, r ∈ s.bars := fun r hr => p3.mem_iff.mp ((fm_take Deed.br? ds i).subset hr)
  have m4 : ∀ r ∈ (bld (ds.take i)).struck, r ∈ s.struck := fun r hr => p4.mem_iff.mp ((fm_take Deed.str? ds i).subset hr)
  refine ⟨⟨fun r hr => h.ok.rows r (m1 r hr), ?_, fun r hr => h.ok.told r (m2 r hr), fun r hr => h.ok.bars r (m3 r hr), fun r hr => h.ok.struck r (m4 r hr)⟩, ⟨?_, ?_, ?_, ?_⟩, m1, m2, m3, m4⟩
  · exact ((p1.map (·.n)).nodup_iff.mpr h.ok.nodup).sublist ((fm_take Deed.row? ds i).map _)
  · exact Nat.le_trans ((fm_take Deed.row? ds i).length_le) (Nat.le_trans (Nat.le_of_eq p1.length_eq) hz.r)
  · exact Nat.le_trans ((fm_take Deed.rsn? ds i).length_le) (Nat.le_trans (Nat.le_of_eq p2.length_eq) hz.t)
  · exact Nat.le_trans ((fm_take Deed.br? ds i).length_le) (Nat.le_trans (Nat.le_of_eq p3.length_eq) hz.b)
  · exact Nat.le_trans ((fm_take Deed.str? ds i).length_le) (Nat.le_trans (Nat.le_of_eq p4.length_eq) hz.k)
theorem groundM_congr {us : List Rul} {s t : S4} (hn : (s.rows.map (·.n)).Nodup) (h1 : s.rows.Perm t.rows) (h2 : s.told.Perm t.told) (h3 : s.bars.Perm t.bars) (h4 : s.struck.Perm t.struck) : groundM us s = groundM us t := by
  have eR : hasR (s.rows.map (·.n)) = hasR (t.rows.map (·.n)) := by
    funext r
    unfold hasR
    rw [decide_eq_decide.mpr (h1.map (·.n)).mem_iff, decide_eq_decide.mpr (h1.map (·.n)).mem_iff]
  have eB : hasB (s.rows.map (·.n)) = hasB (t.rows.map (·.n)) := by
    funext r
    unfold hasB
    rw [decide_eq_decide.mpr (h1.map (·.n)).mem_iff, decide_eq_decide.mpr (h1.map (·.n)).mem_iff]
  have eF : foundR us s.rows = foundR us t.rows := by
    unfold foundR
    rw [srtRow_congr h1 hn]
  have eG : foundB us s.rows = foundB us t.rows := by
    unfold foundB
    rw [srtRow_congr h1 hn]
  have eS : (fun r : Rsn => !decide (r ∈ s.struck)) = fun r => !decide (r ∈ t.struck) := by
    funext r
    rw [decide_eq_decide.mpr h4.mem_iff]
  unfold groundM
  rw [eR, eB, eF, eG, eS]
  have q1 : namesM s.rows = namesM t.rows := srtS_congr (h1.map _)
  rw [q1, ordR_congr ((List.Perm.append_left _ (h2.filter _)).filter _), srtB_congr (List.Perm.append_left _ (h3.filter _))]
/-- rows with unlike names: without the first ones -/
theorem fil_first : ∀ {l : List Row} {r : Row}, ((r :: l).map (·.n)).Nodup → (r :: l).filter (fun x => !decide (x.n = r.n)) = l
  | l, r, h => by
    rw [List.map_cons, List.nodup_cons] at h
    rw [List.filter_cons_of_neg (by simp), List.filter_eq_self.mpr fun x hx => ?_]
    have : x.n ≠ r.n := fun e => h.1 (List.mem_map.mpr ⟨x, hx, e⟩)
    simpa using this
theorem fil_drop : ∀ (i : Nat) {l : List Row}, (l.map (·.n)).Nodup → l.filter (fun r => !decide (r.n ∈ (l.take i).map (·.n))) = l.drop i
  | 0, l, _ => by
    rw [List.drop_zero, List.filter_eq_self.mpr fun x _ => by simp]
  | i + 1, [], _ => rfl
  | i + 1, r :: l, h => by
    have h' := h
    rw [List.map_cons, List.nodup_cons] at h
    rw [List.take_succ_cons, List.map_cons, List.drop_succ_cons, List.filter_cons_of_neg (by simp)]
    rw [← fil_drop i h.2]
    apply List.filter_congr
    intro x hx
    have : x.n ≠ r.n := fun e => h.1 (List.mem_map.mpr ⟨x, hx, e⟩)
    simp [this]
theorem run_last {ns : List PySem.Str} : ∀ {l : List (Deed × S4)} {s : S4} {ah : List S4}, RunOk ns s ah l → ∀ hl : l ≠ [], (l.getLast hl).2 = (endOf s ah l).1
  | [], _, _, _, hl => absurd rfl hl
  | [p], s, ah, h, _ => by
    cases h
    rfl
  | p :: p2 :: l, s, ah, h, _ => by
    cases h with
    | cons a b c =>
      rw [List.getLast_cons (by simp)]
      exact run_last c (by simp)
end FK

set_option Elab.async false
set_option linter.all false
set_option maxRecDepth 100000
set_option maxHeartbeats 4000000
namespace FK
open PySem PySem.Spec PyProof.Rows L2 FR
local macro_rules | `(tactic| walk_at "rd") => `(tactic| first
  | with_reducible exact rd_addI | with_reducible exact rd_subI | with_reducible exact rd_leI | with_reducible exact rd_ltI | with_reducible exact rd_geI | with_reducible exact rd_gtI | with_reducible exact rd_ltS | with_reducible exact rd_eqI | with_reducible exact rd_neI | with_reducible exact rd_eqS | with_reducible exact rd_neS
  | with_reducible exact rd_isNN | with_reducible exact rd_isNS | with_reducible exact rd_notNN | with_reducible exact rd_notNS | with_reducible exact rd_inS
  | ((with_reducible apply rd_ixT); rfl) | ((with_reducible apply rd_ixL); rfl)
  | ((with_reducible apply rd_modI); first | decide | assumption)
  | ((with_reducible apply rd_mulI); assumption) | ((with_reducible apply rd_powI); assumption) | ((with_reducible apply rd_divI); assumption) | ((with_reducible apply rd_addS); assumption) | ((with_reducible apply rd_mulS); assumption) | ((with_reducible apply rd_ixL); assumption) | ((with_reducible apply rd_ixT); assumption)
  | with_reducible assumption)
local macro_rules | `(tactic| walk_at "rc") => `(tactic| first
  | with_reducible exact rc_lenL | with_reducible exact rc_lenT | with_reducible exact rc_lenScr | with_reducible exact rc_minI | with_reducible exact rc_maxI | with_reducible exact rc_minS | with_reducible exact rc_maxS | with_reducible exact rc_tup | with_reducible exact rc_listT | with_reducible exact rc_intB | with_reducible exact rc_abs
  | ((with_reducible apply rc_lenS); assumption) | with_reducible exact rc_any | with_reducible exact rc_all | with_reducible assumption)
local macro_rules | `(tactic| walk_at "ev") => `(tactic| first
  | ((with_reducible apply ev_var); rfl) | with_reducible exact ev_int | with_reducible exact ev_str | with_reducible exact ev_bl | with_reducible exact ev_non | with_reducible exact ea_nil
  | with_reducible assumption
  | ((with_reducible apply ev_op); walk_at "ev"; walk_at "ev"; walk_at "rd")
  | ((with_reducible apply ea_cons); walk_at "ev"; walk_at "ev")
  | ((with_reducible apply ev_cb); walk_at "ev"; walk_at "rc")
  | ((with_reducible apply ev_tupB); walk_at "ev"; rfl) | ((with_reducible apply ev_lstB); walk_at "ev"; rfl)
  | ((with_reducible apply ev_andV); walk_at "ev"; (intro _; walk_at "ev")) | ((with_reducible apply ev_orV); walk_at "ev"; (intro _; walk_at "ev")) | ((with_reducible apply ev_notV); walk_at "ev")
  | ((with_reducible apply ev_chain); walk_at "ev"; walk_at "ev"; walk_at "ev"; walk_at "rd"; (intro _; walk_at "rd"))
  | ((with_reducible apply eb_and); walk_at "ev"; (intro _; walk_at "ev")) | ((with_reducible apply eb_or); walk_at "ev"; (intro _; walk_at "ev")) | ((with_reducible apply eb_not); walk_at "ev") | ((with_reducible apply eb_test); walk_at "ev") | ((with_reducible apply eb_B); walk_at "ev")
  | ((with_reducible apply ev_isi (b := true)); walk_at "ev"; (intro _ z; cases z); rfl) | ((with_reducible apply ev_isi (b := false)); walk_at "ev"; (intro _ z; cases z); rfl))


theorem atI_last {α : Type} {xs : List α} (h : xs ≠ []) : atI xs (-1) = some (xs.getLast h) := by
  have hl := List.length_pos_iff.mpr h
  unfold atI ixN
  rw [if_neg (by decide), if_pos (by omega)]
  show xs[((-1 : Int) + xs.length).toNat]? = _
  have e : ((-1 : Int) + xs.length).toNat = xs.length - 1 := by omega
  rw [e, ← List.getLast?_eq_getElem?, List.getLast?_eq_some_getLast h]
theorem lay_gr {us : List Rul} {s : S4} (hu : ∀ u ∈ us, OkRul u) (hs : OkS s) : (py (grD (groundM us s))).canLay0 = true := by
  have h1 : (py (namesD (groundM us s).names)).canLay0 = true := lay_tup strD fun x hx => lay_str (namesM_w hs x hx)
  have h2 : (py (rsnsD (groundM us s).reasons)).canLay0 = true := lay_tup rsnD fun r hr => lay_rsn (ground_ok hu hs r hr).a.w (ground_ok hu hs r hr).b.w
  have h3 : (py (brsD (groundM us s).bars)).canLay0 = true := lay_tup brD fun r hr => by
    have hm : r ∈ foundB us s.rows ++ s.bars.filter (hasB (s.rows.map (·.n))) := (srt_perm brD _).mem_iff.mp hr
    rcases List.mem_append.mp hm with h | h
    · have := (foundB_ok (us := us) hs.rows hs.nodup r h).1
      exact lay_br this.a.w this.b.w
    · have := hs.bars r (List.mem_filter.mp h).1
      exact lay_br this.a.w this.b.w
  have e : py (grD (groundM us s)) = .tuple [py (namesD (groundM us s).names), py (rsnsD (groundM us s).reasons), py (brsD (groundM us s).bars)] := by simp only [py, pyAll]
  rw [e]
  simp only [PyData.canLay0, PyData.canLayAll0, h1, h2, h3, Bool.and_self]
theorem dep_gr (g : Gr) : (py (grD g)).depth ≤ 6 := by
  have h1 : (py (namesD g.names)).depth ≤ 4 := dep_tup strD (n := 3) fun x _ => by rw [dep_str]; decide
  have h2 : (py (rsnsD g.reasons)).depth ≤ 4 := dep_tup rsnD (n := 3) fun x _ => by rw [dep_rsn]; decide
  have h3 : (py (brsD g.bars)).depth ≤ 4 := dep_tup brD (n := 3) fun x _ => by rw [dep_br]; decide
  have e : py (grD g) = .tuple [py (namesD g.names), py (rsnsD g.reasons), py (brsD g.bars)] := by simp only [py, pyAll]
  rw [e]
  simp only [PyData.depth, PyData.depthAll]
  omega
theorem shp_gr {us : List Rul} {s : S4} (hu : ∀ u ∈ us, OkRul u) (hs : OkS s) : Shp (grD (groundM us s)) := shp_of (lay_gr hu hs) (Nat.le_trans (dep_gr _) (by decide))
theorem shp_rowsT {l : List Row} (h : ∀ r ∈ l, OkRow r) : Shp (rowsD l) := shp_tup rowD (fun r hr => lay_row (h r hr)) fun r _ => Nat.le_trans (dep_row r) (by decide)
theorem eqv_same {d : D} (h : Shp d) : PyData.eqv (py d) (py d) = true := PySem.SeqAt.eqv_refl _ h.lay
section
variable {K : PySem.W.Frag} {C : Addr} {ρ : List Sl} {ta tb : TE}
theorem ev_neSame {d d' : D} (h : Shp d) (e : d' = d) (h1 : EvP K C ta ρ d) (h2 : EvP K C tb ρ d') : EvP K C (tOp (rNeU K) ta tb) ρ (.bool false) := by
  subst e
  exact EvP.eq (ev_op h1 h2 (rd_neD h h)) (by rw [eqv_same h]; rfl)
theorem ev_eqSame {d d' : D} (h : Shp d) (e : d' = d) (h1 : EvP K C ta ρ d) (h2 : EvP K C tb ρ d') : EvP K C (tOp (rEqU K) ta tb) ρ (.bool true) := by
  subst e
  exact EvP.eq (ev_op h1 h2 (rd_eqD h h)) (by rw [eqv_same h])
end
def Deed.isPut : Deed → Bool
  | .put _ => true
  | _ => false
def Deed.rowD? : Deed → D
  | .put r => rowD r
  | _ => .none
theorem put_rows : ∀ ds : List Deed, (ds.filter Deed.isPut).map Deed.rowD? = (ds.filterMap Deed.row?).map rowD
  | [] => rfl
  | d :: ds => by
    have ih := put_rows ds
    cases d with
    | put r => exact congrArg (rowD r :: ·) ih
    | _ => exact ih
section
variable {K : PySem.W.Frag} {C : Addr} {ρ : List Sl} {ta : TE}
/-- deed[0] == "put" -/
theorem ev_isPut {e : Deed} (h : EvP K C ta ρ (deedD e)) : EvP K C (tOp (rEqU K) (tOp (rIx K) ta (tC (.int 0))) (tC (.str ("put" : PySem.Str)))) ρ (.bool e.isPut) := by
  cases e with
  | put r => exact EvP.eq (ev_op (ev_op h ev_int (rd_ixT rfl)) ev_str rd_eqS) (congrArg D.bool (by show _ = true; decide +kernel))
  | drop n => exact EvP.eq (ev_op (ev_op h ev_int (rd_ixT rfl)) ev_str rd_eqS) (congrArg D.bool (by show _ = false; decide +kernel))
  | tell a b w => exact EvP.eq (ev_op (ev_op h ev_int (rd_ixT rfl)) ev_str rd_eqS) (congrArg D.bool (by show _ = false; decide +kernel))
  | untell a b w => exact EvP.eq (ev_op (ev_op h ev_int (rd_ixT rfl)) ev_str rd_eqS) (congrArg D.bool (by show _ = false; decide +kernel))
  | bar a b => exact EvP.eq (ev_op (ev_op h ev_int (rd_ixT rfl)) ev_str rd_eqS) (congrArg D.bool (by show _ = false; decide +kernel))
  | unbar a b => exact EvP.eq (ev_op (ev_op h ev_int (rd_ixT rfl)) ev_str rd_eqS) (congrArg D.bool (by show _ = false; decide +kernel))
  | strike r => exact EvP.eq (ev_op (ev_op h ev_int (rd_ixT rfl)) ev_str rd_eqS) (congrArg D.bool (by show _ = false; decide +kernel))
  | unstrike r => exact EvP.eq (ev_op (ev_op h ev_int (rd_ixT rfl)) ev_str rd_eqS) (congrArg D.bool (by show _ = false; decide +kernel))
  | undo => exact EvP.eq (ev_op (ev_op h ev_int (rd_ixT rfl)) ev_str rd_eqS) (congrArg D.bool (by show _ = false; decide +kernel))
theorem ev_putRow {e : Deed} (hp : e.isPut = true) (h : EvP K C ta ρ (deedD e)) : EvP K C (tOp (rIx K) ta (tC (.int 1))) ρ e.rowD? := by
  cases e with
  | put r => exact ev_op h ev_int (rd_ixT rfl)
  | drop n => cases hp
  | tell a b w => cases hp
  | untell a b w => cases hp
  | bar a b => cases hp
  | unbar a b => cases hp
  | strike r => cases hp
  | unstrike r => cases hp
  | undo => cases hp
end
theorem okF_of {us : List Rul} {s : S4} {ah : List S4} (hu : ∀ u ∈ us, OkRul u) (hul : us.length ≤ 4) (hs : OkS s) (ha : ∀ a ∈ ah, OkS a) (hl : ah.length ≤ 1000) : OkF ⟨us, s, ah⟩ := ⟨hu, Nat.le_trans hul (by decide), hs, ha, hl⟩
def wAt (s : S4) (i : Nat) : Deed := (wanted s).getD i .undo
theorem wAt_get {s : S4} {i : Nat} (h : i < (wanted s).length) : (wanted s)[i]? = some (wAt s i) := by
  unfold wAt
  rw [List.getD_eq_getElem?_getD, List.getElem?_eq_getElem h]
  rfl
theorem wAt_all (s : S4) : (List.range (wanted s).length).map (wAt s) = wanted s := by
  apply List.ext_getElem?
  intro i
  rw [List.getElem?_map]
  by_cases h : i < (wanted s).length
  · rw [List.getElem?_eq_getElem (by rw [List.length_range]; exact h), List.getElem_range]
    exact (wAt_get h).symm
  · rw [List.getElem?_eq_none (by rw [List.length_range]; omega), List.getElem?_eq_none (by omega)]
    rfl
theorem wanted_len {s : S4} (h : Sz 24 s) : (wanted s).length ≤ 96 := by
  unfold wanted
  have h1 := h.r
  have h2 := h.t
  have h3 := h.b
  have h4 := h.k
  simp only [List.length_append, List.length_map]
  omega
theorem cut_14 {xs : List Int} (h : xs.length = 34) : (cutG xs (some 10) (some 24)).length = 14 := by
  have e1 : HT.sIx xs.length 0 (some 10) = 10 := by
    have := HT.sIx_nat xs.length 0 10
    rw [h] at this ⊢
    exact this
  have e2 : HT.sIx xs.length xs.length (some 24) = 24 := by
    have := HT.sIx_nat xs.length xs.length 24
    rw [h] at this ⊢
    exact this
  unfold cutG
  rw [e1, e2, List.length_take, List.length_drop, h]
  rfl
end FK

set_option Elab.async false
set_option linter.all false
set_option maxRecDepth 100000
set_option maxHeartbeats 4000000
namespace FK
open PySem PySem.Spec PyProof.Rows L2 FR
local macro_rules | `(tactic| walk_at "rd") => `(tactic| first
  | with_reducible exact rd_addI | with_reducible exact rd_subI | with_reducible exact rd_leI | with_reducible exact rd_ltI | with_reducible exact rd_geI | with_reducible exact rd_gtI | with_reducible exact rd_ltS | with_reducible exact rd_eqI | with_reducible exact rd_neI | with_reducible exact rd_eqS | with_reducible exact rd_neS
  | with_reducible exact rd_isNN | with_reducible exact rd_isNS | with_reducible exact rd_notNN | with_reducible exact rd_notNS | with_reducible exact rd_inS
  | ((with_reducible apply rd_ixT); rfl) | ((with_reducible apply rd_ixL); rfl)
  | ((with_reducible apply rd_modI); first | decide | assumption)
  | ((with_reducible apply rd_mulI); assumption) | ((with_reducible apply rd_powI); assumption) | ((with_reducible apply rd_divI); assumption) | ((with_reducible apply rd_addS); assumption) | ((with_reducible apply rd_mulS); assumption) | ((with_reducible apply rd_ixL); assumption) | ((with_reducible apply rd_ixT); assumption)
  | with_reducible assumption)
local macro_rules | `(tactic| walk_at "rc") => `(tactic| first
  | with_reducible exact rc_lenL | with_reducible exact rc_lenT | with_reducible exact rc_lenScr | with_reducible exact rc_minI | with_reducible exact rc_maxI | with_reducible exact rc_minS | with_reducible exact rc_maxS | with_reducible exact rc_tup | with_reducible exact rc_listT | with_reducible exact rc_intB | with_reducible exact rc_abs
  | ((with_reducible apply rc_lenS); assumption) | with_reducible exact rc_any | with_reducible exact rc_all | with_reducible assumption)
local macro_rules | `(tactic| walk_at "ev") => `(tactic| first
  | ((with_reducible apply ev_var); rfl) | with_reducible exact ev_int | with_reducible exact ev_str | with_reducible exact ev_bl | with_reducible exact ev_non | with_reducible exact ea_nil
  | with_reducible assumption
  | ((with_reducible apply ev_op); walk_at "ev"; walk_at "ev"; walk_at "rd")
  | ((with_reducible apply ea_cons); walk_at "ev"; walk_at "ev")
  | ((with_reducible apply ev_cb); walk_at "ev"; walk_at "rc")
  | ((with_reducible apply ev_tupB); walk_at "ev"; rfl) | ((with_reducible apply ev_lstB); walk_at "ev"; rfl)
  | ((with_reducible apply ev_andV); walk_at "ev"; (intro _; walk_at "ev")) | ((with_reducible apply ev_orV); walk_at "ev"; (intro _; walk_at "ev")) | ((with_reducible apply ev_notV); walk_at "ev")
  | ((with_reducible apply ev_chain); walk_at "ev"; walk_at "ev"; walk_at "ev"; walk_at "rd"; (intro _; walk_at "rd"))
  | ((with_reducible apply eb_and); walk_at "ev"; (intro _; walk_at "ev")) | ((with_reducible apply eb_or); walk_at "ev"; (intro _; walk_at "ev")) | ((with_reducible apply eb_not); walk_at "ev") | ((with_reducible apply eb_test); walk_at "ev") | ((with_reducible apply eb_B); walk_at "ev")
  | ((with_reducible apply ev_isi (b := true)); walk_at "ev"; (intro _ z; cases z); rfl) | ((with_reducible apply ev_isi (b := false)); walk_at "ev"; (intro _ z; cases z); rfl))


-- slots of is_name: 0 thing, 1 sign
abbrev N_is_name : List PySem.Str := [("thing" : PySem.Str), ("sign" : PySem.Str)]
theorem sc_is_name : FnScope N_is_name [("thing" : PySem.Str)] (defScope s_is_name) := ⟨rfl, rfl, rfl, by decide +kernel, rfl, by decide +kernel, by decide +kernel⟩
def t_is_name {K : PySem.W.Frag} {mg : PySem.Str → Option Value} (T : Tx K mg) : TS :=
  tSeq (tIfS (tOr (tNot (tB (tCB (rIsi K) (tCons (tVar 0) (tCons (tC (.ty "str")) (tNil)))))) (tNot (tTest (tChain (rLeU) (rLeU) (tC (.int 1)) (tCB (rLenU K) (tCons (tVar 0) (tNil))) (tC (.int 8)))))) (tRet (tC (.bl false))) (tNext)) (tRet (tCB (rAll K) (tCons (tLc (iSeq K (tVar 0)) (gName 1) (tYes) (tOp (rInU K) (tVar 1) (tC (.str ("abcdefghijklmnopqrstuvwxyz" : PySem.Str)))) [1]) (tNil))))
theorem ok_is_name {P : Program} {w : World} {K : PySem.W.Frag} {mg : PySem.Str → Option Value} {base : Heap} (T : Tx K mg) : FnOk P w K mg base CX0 1 T.is_name.f T.is_name.fd [("thing" : PySem.Str)] (sp_is_name K T.C) :=
  fn_pure T.is_name.F sc_is_name (fun _ => rfl) fun cdv A outer s H0 E hr => by
  have hu65 : (A.deeper (envOfC ("is_name" : PySem.Str) (defScope s_is_name) s.heap.objs.size T.is_name.f cdv)).units + 65 < cLine := by have := hr.un; omega
  refine ⟨t_is_name T, pss_cons (ps_if (PW.pt (pw_or (pt_not (pt_val (pe_callB (call_isi) rfl T.b_isinstance (by decide +kernel) (pa_cons (pv 0) (pa_cons (pe_bltn rfl T.b_str (by rfl) rfl) (pa_nil)))))) (pw_or1 (pt_not (pt_chain (opLe) (opLe) (pe_int) (pe_callB (cLen) rfl T.b_len (by decide +kernel) (pa_cons (pv 0) (pa_nil))) (pe_gc rfl T.c_MOST_LETTERS)))))) (pss_one (ps_ret (pe_bl))) (pss_nil)) (pss_one (ps_ret (pe_callB (cAll rfl) rfl T.b_all (by decide +kernel) (pa_cons (pe_lc (own := [(("sign" : PySem.Str), 1)]) (g := gName 1) (tt := tYes) (te := tOp (rInU K) (tVar 1) (tC (.str ("abcdefghijklmnopqrstuvwxyz" : PySem.Str)))) rfl sc_is_name.nd (pi_seq (pv 0)) (blkOk_by (N := N_is_name) (sc := defScope s_is_name) (by decide +kernel)) (fun _ _ _ _ _ => pg_name (i := 1) sc_is_name.nd rfl (Or.inl rfl)) (fun _ _ _ _ _ => pts_nil) (fun _ _ _ _ _ => pe_cmpR (opIn hu65) (pv 1) (pe_gc rfl T.c_SMALL) (by with_unfolding_all rfl))) (pa_nil))))), ?_⟩
  intro x Z Hi σ H Q hp hM S q
  replace S : Sit K T.C Z Hi σ H [.dat (.str x), .non] := S
  have hl := len_small hp.len
  refine q_no (EvB.eq (b := _) (by walk_at "ev") ?_) S fun Hi1 H1 S1 => ?_
  · have h1 := hp.pos
    have h2 := hp.len
    simp
    omega
  · have hl2 := hp.len
    have h1 : EvP K T.C (tLc (iSeq K (tVar 0)) (gName 1) tYes (tOp (rInU K) (tVar 1) (tC (.str ("abcdefghijklmnopqrstuvwxyz" : PySem.Str)))) [1]) [.dat (.str x), .non] (.list ((x.cps.toList.map fun _ => true).map D.bool)) := by
      rw [List.map_map]
      refine ev_map _ (ei_str (ev_var rfl)) (Nat.lt_of_le_of_lt (m := 8) (by rw [Array.length_toList]; exact hl2) (by decide)) (lt_b rfl) fun c hc => ?_
      refine EvP.eq (ev_op (ev_var rfl) ev_str rd_inS) ?_
      rw [decide_eq_true (small_in (hp.small c hc))]
      rfl
    refine s_ret (EvP.eq (ev_cb (ea_cons h1 ea_nil) rc_all) (d' := .bool true) ?_) S1 fun v Hi2 H2 S2 hv => q v _ _ _ _ _ rfl S2 hv
    congr 1
    simp
-- slots of word_of: 0 row, 1 field
abbrev N_word_of : List PySem.Str := [("row" : PySem.Str), ("field" : PySem.Str)]
theorem sc_word_of : FnScope N_word_of [("row" : PySem.Str), ("field" : PySem.Str)] (defScope s_word_of) := ⟨rfl, rfl, rfl, by decide +kernel, rfl, by decide +kernel, by decide +kernel⟩
def t_word_of {K : PySem.W.Frag} {mg : PySem.Str → Option Value} (T : Tx K mg) : TS :=
  tRet (tDGet1 (tCB (rDictU K) (tCons (tOp (rIx K) (tVar 0) (tC (.int 1))) (tNil))) (tVar 1))
theorem ok_word_of {P : Program} {w : World} {K : PySem.W.Frag} {mg : PySem.Str → Option Value} {base : Heap} (T : Tx K mg) : FnOk P w K mg base CX0 1 T.word_of.f T.word_of.fd [("row" : PySem.Str), ("field" : PySem.Str)] (sp_word_of K T.C) :=
  fn_pure T.word_of.F sc_word_of (fun _ => rfl) fun cdv A outer s H0 E hr => by
  refine ⟨t_word_of T, pss_one (ps_ret (pe_dget1 (hu_of hr) (pe_callTy (cDict rfl) rfl T.b_dict (by rfl) (pa_cons (pe_ix ix_seq (pv 0) (pe_int) (fun _ _ => rfl)) (pa_nil))) (pv 1) ⟨rfl, rfl, rfl, rfl⟩)), ?_⟩
  intro ⟨r, f⟩ Z Hi σ H Q hp hM S q
  replace S : Sit K T.C Z Hi σ H [.dat (rowD r), .dat (.str f)] := S
  exact s_ret (ev_look hp (ev_var rfl) (ev_var rfl)) S fun v Hi2 H2 S2 hv => q v _ _ _ _ _ rfl S2 hv
-- slots of names_of: 0 book, 1 name, 2 words
abbrev N_names_of : List PySem.Str := [("book" : PySem.Str), ("name" : PySem.Str), ("words" : PySem.Str)]
theorem sc_names_of : FnScope N_names_of [("book" : PySem.Str)] (defScope s_names_of) := ⟨rfl, rfl, rfl, by decide +kernel, rfl, by decide +kernel, by decide +kernel⟩
def t_names_of {K : PySem.W.Frag} {mg : PySem.Str → Option Value} (T : Tx K mg) : TS :=
  tRet (tLc (iSeq K (tVar 0)) (gTup K 2 (gCons (gName 1) (gCons (gName 2) (gNil)))) (tYes) (tVar 1) [1, 2])
theorem ok_names_of {P : Program} {w : World} {K : PySem.W.Frag} {mg : PySem.Str → Option Value} {base : Heap} (T : Tx K mg) : FnOk P w K mg base CX0 1 T.names_of.f T.names_of.fd [("book" : PySem.Str)] (sp_names_of K T.C) :=
  fn_pure T.names_of.F sc_names_of (fun _ => rfl) fun cdv A outer s H0 E hr => by
  refine ⟨t_names_of T, pss_one (ps_ret (pe_lc (own := [(("name" : PySem.Str), 1), (("words" : PySem.Str), 2)]) (g := gTup K 2 (gCons (gName 1) (gCons (gName 2) (gNil)))) (tt := tYes) (te := tVar 1) rfl sc_names_of.nd (pi_seq (pv 0)) (blkOk_by (N := N_names_of) (sc := defScope s_names_of) (by decide +kernel)) (fun _ _ _ _ _ => pg_tup rfl (pgs_cons (pg_name (i := 1) sc_names_of.nd rfl (Or.inl rfl)) (pgs_cons (pg_name (i := 2) sc_names_of.nd rfl (Or.inl rfl)) (pgs_nil)))) (fun _ _ _ _ _ => pts_nil) (fun _ _ _ _ _ => pv 1))), ?_⟩
  intro l Z Hi σ H Q hp hM S q
  replace S : Sit K T.C Z Hi σ H [.dat (rowsD l), .non, .non] := S
  refine s_ret (EvP.eq (ev_lc (ei_seq (emb := rowD) (xs := l) (ev_var rfl) (.inr rfl)) (Nat.lt_of_le_of_lt hp (by decide)) (all_lt rfl) (fun _ => true) (fun r => .str r.n) (fun r => [1, 2].zip [.str r.n, .ptup (r.ws.map wordD)]) (fun a _ p hp => ?_) (fun a _ => gt_tup (js := [1, 2]) rfl rfl) (fun _ _ => eb_yes) (fun a _ _ => ev_var rfl)) ?_) S fun v Hi2 H2 S2 hv => q v _ _ _ _ _ rfl S2 hv
  · exact (List.of_mem_zip hp).1
  · rw [List.filter_eq_self.mpr (fun _ _ => rfl)]
    show D.list _ = D.list ((l.map (·.n)).map D.str)
    rw [List.map_map]
    rfl
-- slots of book_without: 0 book, 1 name, 2 row
abbrev N_book_without : List PySem.Str := [("book" : PySem.Str), ("name" : PySem.Str), ("row" : PySem.Str)]
theorem sc_book_without : FnScope N_book_without [("book" : PySem.Str), ("name" : PySem.Str)] (defScope s_book_without) := ⟨rfl, rfl, rfl, by decide +kernel, rfl, by decide +kernel, by decide +kernel⟩
def t_book_without {K : PySem.W.Frag} {mg : PySem.Str → Option Value} (T : Tx K mg) : TS :=
  tSeq (tIfS (tTest (tOp (rNotInU K) (tVar 1) (tCall (sp_names_of K T.C) [] E0 (tCons (tVar 0) (tNil))))) (tNever) (tNext)) (tRet (tCB (rTupP K) (tCons (tLc (iSeq K (tVar 0)) (gName 2) (tTest (tOp (rNeU K) (tOp (rIx K) (tVar 2) (tC (.int 0))) (tVar 1))) (tVar 2) [2]) (tNil))))
theorem ok_book_without {P : Program} {w : World} {K : PySem.W.Frag} {mg : PySem.Str → Option Value} {base : Heap} (T : Tx K mg) : FnOk P w K mg base CX0 2 T.book_without.f T.book_without.fd [("book" : PySem.Str), ("name" : PySem.Str)] (sp_book_without K T.C) :=
  fn_pure T.book_without.F sc_book_without (fun _ => rfl) fun cdv A outer s H0 E hr => by
  have hu65 : (A.deeper (envOfC ("book_without" : PySem.Str) (defScope s_book_without) s.heap.objs.size T.book_without.f cdv)).units + 65 < cLine := by have := hr.un; omega
  refine ⟨t_book_without T, pss_cons (ps_if (pt_cmpR (opNotIn hu65) (pv 1) (pe_call (ok_names_of T) (hr.mono (by decide)) rfl T.names_of.g T.names_of.F.kp T.names_of.b .nil pass0 (pa_cons (pv 0) (pa_nil))) (by with_unfolding_all rfl)) (pss_one (ps_never)) (pss_nil)) (pss_one (ps_ret (pe_callTy (cTup) rfl T.b_tuple (by rfl) (pa_cons (pe_lc (own := [(("row" : PySem.Str), 2)]) (g := gName 2) (tt := tTest (tOp (rNeU K) (tOp (rIx K) (tVar 2) (tC (.int 0))) (tVar 1))) (te := tVar 2) rfl sc_book_without.nd (pi_seq (pv 0)) (blkOk_by (N := N_book_without) (sc := defScope s_book_without) (by decide +kernel)) (fun _ _ _ _ _ => pg_name (i := 2) sc_book_without.nd rfl (Or.inl rfl)) (fun _ _ _ _ _ => pts_one (pt_cmpR (opNe hr.units) (pe_ix ix_seq (pv 2) (pe_int) (fun _ _ => rfl)) (pv 1) (nomark _))) (fun _ _ _ _ _ => pv 2)) (pa_nil))))), ?_⟩
  intro ⟨l, n⟩ Z Hi σ H Q hp hM S q
  replace S : Sit K T.C Z Hi σ H [.dat (rowsD l), .dat (.str n), .non] := S
  obtain ⟨hp1, hp2, hp3⟩ := hp
  have hn : ∀ x ∈ l.map (·.n), OkW x := hp3
  refine q_no (EvB.eq (b := _) (eb_test (ev_op (ev_var rfl) (ev_call (f := fun l : List Row => strsD (l.map (·.n))) l (ea_cons (ev_var rfl) ea_nil) hp1) (rd_notInL (shp_str (hn n hp2)) (shp_strs hn)))) ?_) S fun Hi1 H1 S1 => ?_
  · rw [any_strs, decide_eq_true hp2]
    rfl
  · refine s_ret (EvP.eq (ev_cb (ea_cons (ev_fil (xs := l) (emb := rowD) (fun r => !decide (r.n = n)) rowD (ei_seq (ev_var rfl) (.inr rfl)) (Nat.lt_of_le_of_lt hp1 (by decide)) (lt_b rfl) (fun r _ => eb_test (ev_op (ev_op (ev_var rfl) ev_int (rd_ixT rfl)) (ev_var rfl) rd_neS)) (fun r _ _ => ev_var rfl)) ea_nil) rc_tup) rfl) S1 fun v Hi2 H2 S2 hv => q v _ _ _ _ _ rfl S2 hv
-- slots of is_number: 0 thing, 1 least, 2 most
abbrev N_is_number : List PySem.Str := [("thing" : PySem.Str), ("least" : PySem.Str), ("most" : PySem.Str)]
theorem sc_is_number : FnScope N_is_number [("thing" : PySem.Str), ("least" : PySem.Str), ("most" : PySem.Str)] (defScope s_is_number) := ⟨rfl, rfl, rfl, by decide +kernel, rfl, by decide +kernel, by decide +kernel⟩
def t_is_number {K : PySem.W.Frag} {mg : PySem.Str → Option Value} (T : Tx K mg) : TS :=
  tRet (tAndV (tCB (rIsi K) (tCons (tVar 0) (tCons (tC (.ty "int")) (tNil)))) (tAndV (tNotV (tCB (rIsi K) (tCons (tVar 0) (tCons (tC (.ty "bool")) (tNil))))) (tChain (rLeU) (rLeU) (tVar 1) (tVar 0) (tVar 2))))
theorem ok_is_number {P : Program} {w : World} {K : PySem.W.Frag} {mg : PySem.Str → Option Value} {base : Heap} (T : Tx K mg) : FnOk P w K mg base CX0 1 T.is_number.f T.is_number.fd [("thing" : PySem.Str), ("least" : PySem.Str), ("most" : PySem.Str)] (sp_is_number K T.C) :=
  fn_pure T.is_number.F sc_is_number (fun _ => rfl) fun cdv A outer s H0 E hr => by
  refine ⟨t_is_number T, pss_one (ps_ret (pe_and (pe_callB (call_isi) rfl T.b_isinstance (by decide +kernel) (pa_cons (pv 0) (pa_cons (pe_bltn rfl T.b_int (by rfl) rfl) (pa_nil)))) (pe_and (pe_not (pe_callB (call_isi) rfl T.b_isinstance (by decide +kernel) (pa_cons (pv 0) (pa_cons (pe_bltn rfl T.b_bool (by rfl) rfl) (pa_nil))))) (pe_one (pe_chain (opLe) (opLe) (pv 1) (pv 0) (pv 2)))))), ?_⟩
  intro ⟨i, l, m⟩ Z Hi σ H Q hp hM S q
  replace S : Sit K T.C Z Hi σ H [.dat (.int i), .dat (.int l), .dat (.int m)] := S
  refine s_ret (EvP.eq (by walk_at "ev") ?_) S fun v Hi2 H2 S2 hv => q v _ _ _ _ _ rfl S2 hv
  simp
-- slots of is_counted: 0 thing
abbrev N_is_counted : List PySem.Str := [("thing" : PySem.Str)]
theorem sc_is_counted : FnScope N_is_counted [("thing" : PySem.Str)] (defScope s_is_counted) := ⟨rfl, rfl, rfl, by decide +kernel, rfl, by decide +kernel, by decide +kernel⟩
def t_is_counted {K : PySem.W.Frag} {mg : PySem.Str → Option Value} (T : Tx K mg) : TS :=
  tRet (tAndV (tCB (rIsi K) (tCons (tVar 0) (tCons (tC (.ty "int")) (tNil)))) (tAndV (tNotV (tCB (rIsi K) (tCons (tVar 0) (tCons (tC (.ty "bool")) (tNil))))) (tOp (rGeU) (tVar 0) (tC (.int 0)))))
theorem ok_is_counted {P : Program} {w : World} {K : PySem.W.Frag} {mg : PySem.Str → Option Value} {base : Heap} (T : Tx K mg) : FnOk P w K mg base CX0 1 T.is_counted.f T.is_counted.fd [("thing" : PySem.Str)] (sp_is_counted K T.C) :=
  fn_pure T.is_counted.F sc_is_counted (fun _ => rfl) fun cdv A outer s H0 E hr => by
  refine ⟨t_is_counted T, pss_one (ps_ret (pe_and (pe_callB (call_isi) rfl T.b_isinstance (by decide +kernel) (pa_cons (pv 0) (pa_cons (pe_bltn rfl T.b_int (by rfl) rfl) (pa_nil)))) (pe_and (pe_not (pe_callB (call_isi) rfl T.b_isinstance (by decide +kernel) (pa_cons (pv 0) (pa_cons (pe_bltn rfl T.b_bool (by rfl) rfl) (pa_nil))))) (pe_one (pe_cmpR (opGe) (pv 0) (pe_int) (nomark _)))))), ?_⟩
  intro i Z Hi σ H Q hp hM S q
  replace S : Sit K T.C Z Hi σ H [.dat (.int i)] := S
  refine s_ret (EvP.eq (by walk_at "ev") ?_) S fun v Hi2 H2 S2 hv => q v _ _ _ _ _ rfl S2 hv
  simp
-- slots of are_two_names: 0 one, 1 other
abbrev N_are_two_names : List PySem.Str := [("one" : PySem.Str), ("other" : PySem.Str)]
theorem sc_are_two_names : FnScope N_are_two_names [("one" : PySem.Str), ("other" : PySem.Str)] (defScope s_are_two_names) := ⟨rfl, rfl, rfl, by decide +kernel, rfl, by decide +kernel, by decide +kernel⟩
def t_are_two_names {K : PySem.W.Frag} {mg : PySem.Str → Option Value} (T : Tx K mg) : TS :=
  tRet (tAndV (tCall (sp_is_name K T.C) [] E0 (tCons (tVar 0) (tNil))) (tAndV (tCall (sp_is_name K T.C) [] E0 (tCons (tVar 1) (tNil))) (tOp (rLtU) (tVar 0) (tVar 1))))
theorem ok_are_two_names {P : Program} {w : World} {K : PySem.W.Frag} {mg : PySem.Str → Option Value} {base : Heap} (T : Tx K mg) : FnOk P w K mg base CX0 2 T.are_two_names.f T.are_two_names.fd [("one" : PySem.Str), ("other" : PySem.Str)] (sp_are_two_names K T.C) :=
  fn_pure T.are_two_names.F sc_are_two_names (fun _ => rfl) fun cdv A outer s H0 E hr => by
  refine ⟨t_are_two_names T, pss_one (ps_ret (pe_and (pe_call (ok_is_name T) (hr.mono (by decide)) rfl T.is_name.g T.is_name.F.kp T.is_name.b .nil pass0 (pa_cons (pv 0) (pa_nil))) (pe_and (pe_call (ok_is_name T) (hr.mono (by decide)) rfl T.is_name.g T.is_name.F.kp T.is_name.b .nil pass0 (pa_cons (pv 1) (pa_nil))) (pe_one (pe_cmpR (opLt) (pv 0) (pv 1) (nomark _)))))), ?_⟩
  intro ⟨a, b⟩ Z Hi σ H Q hp hM S q
  replace S : Sit K T.C Z Hi σ H [.dat (.str a), .dat (.str b)] := S
  have h1 := ev_call (K := K) (C := T.C) (ρ := [.dat (.str a), .dat (.str b)]) (E := E0) (emb := fun s : PySem.Str => [D.str s]) (pre := OkN) (f := fun _ => .bool true) a (ea_cons (ev_var (i := 0) rfl) ea_nil) hp.1
  have h2 := ev_call (K := K) (C := T.C) (ρ := [.dat (.str a), .dat (.str b)]) (E := E0) (emb := fun s : PySem.Str => [D.str s]) (pre := OkN) (f := fun _ => .bool true) b (ea_cons (ev_var (i := 1) rfl) ea_nil) hp.2
  refine s_ret (EvP.eq (ev_andV h1 fun _ => ev_andV h2 fun _ => by walk_at "ev") ?_) S fun v Hi2 H2 S2 hv => q v _ _ _ _ _ rfl S2 hv
  simp
-- slots of is_reason: 0 thing
abbrev N_is_reason : List PySem.Str := [("thing" : PySem.Str)]
theorem sc_is_reason : FnScope N_is_reason [("thing" : PySem.Str)] (defScope s_is_reason) := ⟨rfl, rfl, rfl, by decide +kernel, rfl, by decide +kernel, by decide +kernel⟩
def t_is_reason {K : PySem.W.Frag} {mg : PySem.Str → Option Value} (T : Tx K mg) : TS :=
  tSeq (tIfS (tOr (tNot (tB (tCB (rIsi K) (tCons (tVar 0) (tCons (tC (.ty "tuple")) (tNil)))))) (tOr (tTest (tOp (rNeU K) (tCB (rLenU K) (tCons (tVar 0) (tNil))) (tC (.int 4)))) (tNot (tB (tCall (sp_is_number K T.C) [] E0 (tCons (tOp (rIx K) (tVar 0) (tC (.int 0))) (tCons (tC (.int 1)) (tCons (tC (.int 1000)) (tNil))))))))) (tRet (tC (.bl false))) (tNext)) (tRet (tAndV (tCall (sp_are_two_names K T.C) [] E0 (tCons (tOp (rIx K) (tVar 0) (tC (.int 1))) (tCons (tOp (rIx K) (tVar 0) (tC (.int 2))) (tNil)))) (tCall (sp_is_counted K T.C) [] E0 (tCons (tOp (rIx K) (tVar 0) (tC (.int 3))) (tNil)))))
theorem ok_is_reason {P : Program} {w : World} {K : PySem.W.Frag} {mg : PySem.Str → Option Value} {base : Heap} (T : Tx K mg) : FnOk P w K mg base CX0 3 T.is_reason.f T.is_reason.fd [("thing" : PySem.Str)] (sp_is_reason K T.C) :=
  fn_pure T.is_reason.F sc_is_reason (fun _ => rfl) fun cdv A outer s H0 E hr => by
  refine ⟨t_is_reason T, pss_cons (ps_if (PW.pt (pw_or (pt_not (pt_val (pe_callB (call_isi) rfl T.b_isinstance (by decide +kernel) (pa_cons (pv 0) (pa_cons (pe_bltn rfl T.b_tuple (by rfl) rfl) (pa_nil)))))) (pw_or (pt_cmpR (opNe hr.units) (pe_callB (cLen) rfl T.b_len (by decide +kernel) (pa_cons (pv 0) (pa_nil))) (pe_int) (nomark _)) (pw_or1 (pt_not (pt_val (pe_call (ok_is_number T) (hr.mono (by decide)) rfl T.is_number.g T.is_number.F.kp T.is_number.b .nil pass0 (pa_cons (pe_ix ix_seq (pv 0) (pe_int) (fun _ _ => rfl)) (pa_cons (pe_int) (pa_cons (pe_gc rfl T.c_MOST_WEIGHT) (pa_nil))))))))))) (pss_one (ps_ret (pe_bl))) (pss_nil)) (pss_one (ps_ret (pe_and (pe_call (ok_are_two_names T) (hr.mono (by decide)) rfl T.are_two_names.g T.are_two_names.F.kp T.are_two_names.b .nil pass0 (pa_cons (pe_ix ix_seq (pv 0) (pe_int) (fun _ _ => rfl)) (pa_cons (pe_ix ix_seq (pv 0) (pe_int) (fun _ _ => rfl)) (pa_nil)))) (pe_one (pe_call (ok_is_counted T) (hr.mono (by decide)) rfl T.is_counted.g T.is_counted.F.kp T.is_counted.b .nil pass0 (pa_cons (pe_ix ix_seq (pv 0) (pe_int) (fun _ _ => rfl)) (pa_nil))))))), ?_⟩
  intro r Z Hi σ H Q hp hM S q
  replace S : Sit K T.C Z Hi σ H [.dat (rsnD r)] := S
  have h1 := ev_call (K := K) (C := T.C) (ρ := [.dat (rsnD r)]) (E := E0) (emb := fun a : Int × Int × Int => [D.int a.1, .int a.2.1, .int a.2.2]) (pre := fun _ => True) (f := fun a => .bool (decide (a.2.1 ≤ a.1) && decide (a.1 ≤ a.2.2))) (r.w, 1, 1000) (ea_cons (ev_op (ev_var (i := 0) rfl) (ev_int (i := 0)) (rd_ixT rfl)) (ea_cons ev_int (ea_cons ev_int ea_nil))) trivial
  have h2 := ev_call (K := K) (C := T.C) (ρ := [.dat (rsnD r)]) (E := E0) (emb := fun a : PySem.Str × PySem.Str => [D.str a.1, .str a.2]) (pre := fun a => OkN a.1 ∧ OkN a.2) (f := fun a => .bool (ltS a.1 a.2)) (r.a, r.b) (ea_cons (ev_op (ev_var (i := 0) rfl) (ev_int (i := 1)) (rd_ixT rfl)) (ea_cons (ev_op (ev_var (i := 0) rfl) (ev_int (i := 2)) (rd_ixT rfl)) ea_nil)) ⟨hp.a, hp.b⟩
  have h3 := ev_call (K := K) (C := T.C) (ρ := [.dat (rsnD r)]) (E := E0) (emb := fun i : Int => [D.int i]) (pre := fun _ => True) (f := fun i => .bool (decide (0 ≤ i))) r.k (ea_cons (ev_op (ev_var (i := 0) rfl) (ev_int (i := 3)) (rd_ixT rfl)) ea_nil) trivial
  refine q_no (EvB.eq (eb_or (eb_not (by walk_at "ev")) fun _ => eb_or (by walk_at "ev") fun _ => eb_not (eb_B h1)) ?_) S fun Hi1 H1 S1 => ?_
  · simp [hp.w1, hp.w2]
  · refine s_ret (EvP.eq (ev_andV h2 fun _ => h3) ?_) S1 fun v Hi2 H2 S2 hv => q v _ _ _ _ _ rfl S2 hv
    rw [hp.lt, decide_eq_true hp.k]
    rfl
end FK

set_option Elab.async false
set_option linter.all false
set_option maxRecDepth 100000
set_option maxHeartbeats 4000000
namespace FK
open PySem PySem.Spec PyProof.Rows L2 FR
local macro_rules | `(tactic| walk_at "rd") => `(tactic| first
  | with_reducible exact rd_addI | with_reducible exact rd_subI | with_reducible exact rd_leI | with_reducible exact rd_ltI | with_reducible exact rd_geI | with_reducible exact rd_gtI | with_reducible exact rd_ltS | with_reducible exact rd_eqI | with_reducible exact rd_neI | with_reducible exact rd_eqS | with_reducible exact rd_neS
  | with_reducible exact rd_isNN | with_reducible exact rd_isNS | with_reducible exact rd_notNN | with_reducible exact rd_notNS | with_reducible exact rd_inS
  | ((with_reducible apply rd_ixT); rfl) | ((with_reducible apply rd_ixL); rfl)
  | ((with_reducible apply rd_modI); first | decide | assumption)
  | ((with_reducible apply rd_mulI); assumption) | ((with_reducible apply rd_powI); assumption) | ((with_reducible apply rd_divI); assumption) | ((with_reducible apply rd_addS); assumption) | ((with_reducible apply rd_mulS); assumption) | ((with_reducible apply rd_ixL); assumption) | ((with_reducible apply rd_ixT); assumption)
  | with_reducible assumption)
local macro_rules | `(tactic| walk_at "rc") => `(tactic| first
  | with_reducible exact rc_lenL | with_reducible exact rc_lenT | with_reducible exact rc_lenScr | with_reducible exact rc_minI | with_reducible exact rc_maxI | with_reducible exact rc_minS | with_reducible exact rc_maxS | with_reducible exact rc_tup | with_reducible exact rc_listT | with_reducible exact rc_intB | with_reducible exact rc_abs
  | ((with_reducible apply rc_lenS); assumption) | with_reducible exact rc_any | with_reducible exact rc_all | with_reducible assumption)
local macro_rules | `(tactic| walk_at "ev") => `(tactic| first
  | ((with_reducible apply ev_var); rfl) | with_reducible exact ev_int | with_reducible exact ev_str | with_reducible exact ev_bl | with_reducible exact ev_non | with_reducible exact ea_nil
  | with_reducible assumption
  | ((with_reducible apply ev_op); walk_at "ev"; walk_at "ev"; walk_at "rd")
  | ((with_reducible apply ea_cons); walk_at "ev"; walk_at "ev")
  | ((with_reducible apply ev_cb); walk_at "ev"; walk_at "rc")
  | ((with_reducible apply ev_tupB); walk_at "ev"; rfl) | ((with_reducible apply ev_lstB); walk_at "ev"; rfl)
  | ((with_reducible apply ev_andV); walk_at "ev"; (intro _; walk_at "ev")) | ((with_reducible apply ev_orV); walk_at "ev"; (intro _; walk_at "ev")) | ((with_reducible apply ev_notV); walk_at "ev")
  | ((with_reducible apply ev_chain); walk_at "ev"; walk_at "ev"; walk_at "ev"; walk_at "rd"; (intro _; walk_at "rd"))
  | ((with_reducible apply eb_and); walk_at "ev"; (intro _; walk_at "ev")) | ((with_reducible apply eb_or); walk_at "ev"; (intro _; walk_at "ev")) | ((with_reducible apply eb_not); walk_at "ev") | ((with_reducible apply eb_test); walk_at "ev") | ((with_reducible apply eb_B); walk_at "ev")
  | ((with_reducible apply ev_isi (b := true)); walk_at "ev"; (intro _ z; cases z); rfl) | ((with_reducible apply ev_isi (b := false)); walk_at "ev"; (intro _ z; cases z); rfl))


-- slots of one_word: 0 row, 1 other, 2 field
abbrev N_one_word : List PySem.Str := [("row" : PySem.Str), ("other" : PySem.Str), ("field" : PySem.Str)]
theorem sc_one_word : FnScope N_one_word [("row" : PySem.Str), ("other" : PySem.Str), ("field" : PySem.Str)] (defScope s_one_word) := ⟨rfl, rfl, rfl, by decide +kernel, rfl, by decide +kernel, by decide +kernel⟩
def t_one_word {K : PySem.W.Frag} {mg : PySem.Str → Option Value} (T : Tx K mg) : TS :=
  tRet (tAndV (tOp (rNotNU) (tCall (sp_word_of K T.C) [] E0 (tCons (tVar 0) (tCons (tVar 2) (tNil)))) (tC .non)) (tOp (rEqU K) (tCall (sp_word_of K T.C) [] E0 (tCons (tVar 0) (tCons (tVar 2) (tNil)))) (tCall (sp_word_of K T.C) [] E0 (tCons (tVar 1) (tCons (tVar 2) (tNil))))))
theorem ok_one_word {P : Program} {w : World} {K : PySem.W.Frag} {mg : PySem.Str → Option Value} {base : Heap} (T : Tx K mg) : FnOk P w K mg base CX0 2 T.one_word.f T.one_word.fd [("row" : PySem.Str), ("other" : PySem.Str), ("field" : PySem.Str)] (sp_one_word K T.C) :=
  fn_pure T.one_word.F sc_one_word (fun _ => rfl) fun cdv A outer s H0 E hr => by
  refine ⟨t_one_word T, pss_one (ps_ret (pe_and (pe_cmpR (opIsNot) (pe_call (ok_word_of T) (hr.mono (by decide)) rfl T.word_of.g T.word_of.F.kp T.word_of.b .nil pass0 (pa_cons (pv 0) (pa_cons (pv 2) (pa_nil)))) (pe_non) (nomark _)) (pe_one (pe_cmpR (opEq hr.units) (pe_call (ok_word_of T) (hr.mono (by decide)) rfl T.word_of.g T.word_of.F.kp T.word_of.b .nil pass0 (pa_cons (pv 0) (pa_cons (pv 2) (pa_nil)))) (pe_call (ok_word_of T) (hr.mono (by decide)) rfl T.word_of.g T.word_of.F.kp T.word_of.b .nil pass0 (pa_cons (pv 1) (pa_cons (pv 2) (pa_nil)))) (nomark _))))), ?_⟩
  intro ⟨r, o, f⟩ Z Hi σ H Q hp hM S q
  obtain ⟨hr1, hr2⟩ := hp
  replace S : Sit K T.C Z Hi σ H [.dat (rowD r), .dat (rowD o), .dat (.str f)] := S
  have h1 := ev_call (K := K) (C := T.C) (ρ := [.dat (rowD r), .dat (rowD o), .dat (.str f)]) (E := E0) (emb := emW) (pre := fun a => OkRow a.1) (f := fun a => wD (lookW a.1 a.2)) (r, f) (ea_cons (ev_var (i := 0) rfl) (ea_cons (ev_var (i := 2) rfl) ea_nil)) hr1
  have h2 := ev_call (K := K) (C := T.C) (ρ := [.dat (rowD r), .dat (rowD o), .dat (.str f)]) (E := E0) (emb := emW) (pre := fun a => OkRow a.1) (f := fun a => wD (lookW a.1 a.2)) (o, f) (ea_cons (ev_var (i := 1) rfl) (ea_cons (ev_var (i := 2) rfl) ea_nil)) hr2
  refine s_ret (EvP.eq (ev_andV (ev_notW h1) fun _ => ev_eqW (fun s e => look_ok hr1 e) (fun s e => look_ok hr2 e) h1 h2) ?_) S fun v Hi2 H2 S2 hv => q v _ _ _ _ _ rfl S2 hv
  show D.bool _ = D.bool (oneM r o f)
  rw [one_is]
-- slots of tells: 0 rule, 1 row, 2 other, 3 here, 4 there
abbrev N_tells : List PySem.Str := [("rule" : PySem.Str), ("row" : PySem.Str), ("other" : PySem.Str), ("here" : PySem.Str), ("there" : PySem.Str)]
theorem sc_tells : FnScope N_tells [("rule" : PySem.Str), ("row" : PySem.Str), ("other" : PySem.Str)] (defScope s_tells) := ⟨rfl, rfl, rfl, by decide +kernel, rfl, by decide +kernel, by decide +kernel⟩
def t_tells {K : PySem.W.Frag} {mg : PySem.Str → Option Value} (T : Tx K mg) : TS :=
  tSeq (tPar 3 4 (tCons (tCall (sp_word_of K T.C) [] E0 (tCons (tVar 1) (tCons (tOp (rIx K) (tVar 0) (tC (.int 1))) (tNil)))) (tCons (tCall (sp_word_of K T.C) [] E0 (tCons (tVar 2) (tCons (tOp (rIx K) (tVar 0) (tC (.int 1))) (tNil)))) (tNil)))) (tSeq (tIfS (tOr (tTest (tOp (rIsNU) (tVar 3) (tC .non))) (tTest (tOp (rIsNU) (tVar 4) (tC .non)))) (tRet (tC (.bl false))) (tNext)) (tSeq (tIfS (tTest (tOp (rEqU K) (tOp (rIx K) (tVar 0) (tC (.int 0))) (tC (.str ("never" : PySem.Str))))) (tRet (tOp (rNeU K) (tVar 3) (tVar 4))) (tNext)) (tSeq (tIfS (tTest (tOp (rEqU K) (tOp (rIx K) (tVar 0) (tC (.int 0))) (tC (.str ("begin" : PySem.Str))))) (tRet (tAndV (tOp (rGeU) (tCB (rMinU) (tCons (tCB (rLenU K) (tCons (tVar 3) (tNil))) (tCons (tCB (rLenU K) (tCons (tVar 4) (tNil))) (tNil)))) (tOp (rIx K) (tVar 0) (tC (.int 2)))) (tOp (rEqU K) (tSl (rSlU K) (tVar 3) (tNoPart) (tPart (tOp (rIx K) (tVar 0) (tC (.int 2))))) (tSl (rSlU K) (tVar 4) (tNoPart) (tPart (tOp (rIx K) (tVar 0) (tC (.int 2)))))))) (tNext)) (tSeq (tIfS (tTest (tOp (rEqU K) (tOp (rIx K) (tVar 0) (tC (.int 0))) (tC (.str ("both" : PySem.Str))))) (tRet (tAndV (tOp (rEqU K) (tVar 3) (tVar 4)) (tCall (sp_one_word K T.C) [] E0 (tCons (tVar 1) (tCons (tVar 2) (tCons (tOp (rIx K) (tVar 0) (tC (.int 2))) (tNil))))))) (tNext)) (tRet (tOp (rEqU K) (tVar 3) (tVar 4)))))))
theorem ok_tells {P : Program} {w : World} {K : PySem.W.Frag} {mg : PySem.Str → Option Value} {base : Heap} (T : Tx K mg) : FnOk P w K mg base CX0 3 T.tells.f T.tells.fd [("rule" : PySem.Str), ("row" : PySem.Str), ("other" : PySem.Str)] (sp_tells K T.C) :=
  fn_pure T.tells.F sc_tells (fun _ => rfl) fun cdv A outer s H0 E hr => by
  refine ⟨t_tells T, pss_cons (ps_par rfl sc_tells.nd (i := 3) (j := 4) rfl rfl (by decide) rfl rfl (pa_cons (pe_call (ok_word_of T) (hr.mono (by decide)) rfl T.word_of.g T.word_of.F.kp T.word_of.b .nil pass0 (pa_cons (pv 1) (pa_cons (pe_ix ix_seq (pv 0) (pe_int) (fun _ _ => rfl)) (pa_nil)))) (pa_cons (pe_call (ok_word_of T) (hr.mono (by decide)) rfl T.word_of.g T.word_of.F.kp T.word_of.b .nil pass0 (pa_cons (pv 2) (pa_cons (pe_ix ix_seq (pv 0) (pe_int) (fun _ _ => rfl)) (pa_nil)))) (pa_nil))) (by rfl)) (pss_cons (ps_if (PW.pt (pw_or (pt_cmpR (opIs) (pv 3) (pe_non) (nomark _)) (pw_or1 (pt_cmpR (opIs) (pv 4) (pe_non) (nomark _))))) (pss_one (ps_ret (pe_bl))) (pss_nil)) (pss_cons (ps_if (pt_cmpR (opEq hr.units) (pe_ix ix_seq (pv 0) (pe_int) (fun _ _ => rfl)) (pe_str) (nomark _)) (pss_one (ps_ret (pe_cmpR (opNe hr.units) (pv 3) (pv 4) (nomark _)))) (pss_nil)) (pss_cons (ps_if (pt_cmpR (opEq hr.units) (pe_ix ix_seq (pv 0) (pe_int) (fun _ _ => rfl)) (pe_str) (nomark _)) (pss_one (ps_ret (pe_and (pe_cmpR (opGe) (pe_callB (cMin rfl) rfl T.b_min (by decide +kernel) (pa_cons (pe_callB (cLen) rfl T.b_len (by decide +kernel) (pa_cons (pv 3) (pa_nil))) (pa_cons (pe_callB (cLen) rfl T.b_len (by decide +kernel) (pa_cons (pv 4) (pa_nil))) (pa_nil)))) (pe_ix ix_seq (pv 0) (pe_int) (fun _ _ => rfl)) (nomark _)) (pe_one (pe_cmpR (opEq hr.units) (pe_slice slU (pv 3) (po_none) (po_some (pe_ix ix_seq (pv 0) (pe_int) (fun _ _ => rfl)))) (pe_slice slU (pv 4) (po_none) (po_some (pe_ix ix_seq (pv 0) (pe_int) (fun _ _ => rfl)))) (nomark _)))))) (pss_nil)) (pss_cons (ps_if (pt_cmpR (opEq hr.units) (pe_ix ix_seq (pv 0) (pe_int) (fun _ _ => rfl)) (pe_str) (nomark _)) (pss_one (ps_ret (pe_and (pe_cmpR (opEq hr.units) (pv 3) (pv 4) (nomark _)) (pe_one (pe_call (ok_one_word T) (hr.mono (by decide)) rfl T.one_word.g T.one_word.F.kp T.one_word.b .nil pass0 (pa_cons (pv 1) (pa_cons (pv 2) (pa_cons (pe_ix ix_seq (pv 0) (pe_int) (fun _ _ => rfl)) (pa_nil))))))))) (pss_nil)) (pss_one (ps_ret (pe_cmpR (opEq hr.units) (pv 3) (pv 4) (nomark _)))))))), ?_⟩
  intro ⟨u, r, o⟩ Z Hi σ H Q hp hM S q
  obtain ⟨hu, hr1, hr2⟩ := hp
  replace S : Sit K T.C Z Hi σ H [.dat (rulD u), .dat (rowD r), .dat (rowD o), .non, .non] := S
  have hf : RD K (rIx K) (rulD u) (.int 1) (.str u.f) := by cases u <;> exact rd_ixT rfl
  have h1 := ev_call (K := K) (C := T.C) (ρ := [.dat (rulD u), .dat (rowD r), .dat (rowD o), .non, .non]) (E := E0) (emb := emW) (pre := fun a => OkRow a.1) (f := fun a => wD (lookW a.1 a.2)) (r, u.f) (ea_cons (ev_var (i := 1) rfl) (ea_cons (ev_op (ev_var (i := 0) rfl) ev_int hf) ea_nil)) hr1
  have h2 := ev_call (K := K) (C := T.C) (ρ := [.dat (rulD u), .dat (rowD r), .dat (rowD o), .non, .non]) (E := E0) (emb := emW) (pre := fun a => OkRow a.1) (f := fun a => wD (lookW a.1 a.2)) (o, u.f) (ea_cons (ev_var (i := 2) rfl) (ea_cons (ev_op (ev_var (i := 0) rfl) ev_int hf) ea_nil)) hr2
  refine q_par (ea_cons h1 (ea_cons h2 ea_nil)) S (lt_b rfl) (lt_b rfl) fun σ1 Hi1 H1 S1 => ?_
  replace S1 : Sit K T.C Z Hi1 σ1 H1 [.dat (rulD u), .dat (rowD r), .dat (rowD o), .dat (wD (lookW r u.f)), .dat (wD (lookW o u.f))] := S1
  show tSeq _ _ _ _ _
  have hend : ∀ b : Bool, b = tellsM u r o → ∀ v Hi2 σ2 H2 ρ2, Sit K T.C Z Hi2 σ2 H2 ρ2 → Dd K Hi2 v (.bool b) → Q v H2 := fun b e v Hi2 σ2 H2 ρ2 S2 hv => q v _ _ _ _ _ rfl S2 (by rw [e] at hv; exact hv)
  unfold tellsM at hend
  cases e1 : lookW r u.f with
  | none =>
    rw [e1] at S1 hend
    exact q_when (EvB.eq (b := _) (eb_or (a := true) (b := false) (eb_test (ev_isW (x := none) (ev_var rfl))) fun e => nomatch e) rfl) S1 (fun _ Hi2 H2 S2 => s_ret ev_bl S2 fun v Hi3 H3 S3 hv => hend false rfl v _ _ _ _ S3 hv) (fun e => nomatch e)
  | some x =>
    rw [e1] at S1 hend
    cases e2 : lookW o u.f with
    | none =>
      rw [e2] at S1 hend
      exact q_when (EvB.eq (b := _) (eb_or (a := false) (b := true) (eb_test (ev_isW (x := some x) (ev_var rfl))) fun _ => eb_test (ev_isW (x := none) (ev_var rfl))) rfl) S1 (fun _ Hi2 H2 S2 => s_ret ev_bl S2 fun v Hi3 H3 S3 hv => hend false rfl v _ _ _ _ S3 hv) (fun e => nomatch e)
    | some y =>
      rw [e2] at S1 hend
      replace S1 : Sit K T.C Z Hi1 σ1 H1 [.dat (rulD u), .dat (rowD r), .dat (rowD o), .dat (.str x), .dat (.str y)] := S1
      have hx := look_ok hr1 e1
      have hy := look_ok hr2 e2
      have lx := len_w hx
      have ly := len_w hy
      refine q_no (EvB.eq (b := _) (eb_or (a := false) (b := false) (eb_test (ev_isW (x := some x) (ev_var rfl))) fun _ => eb_test (ev_isW (x := some y) (ev_var rfl))) rfl) S1 fun Hi2 H2 S2 => ?_
      cases u with
      | never f =>
        replace S2 : Sit K T.C Z Hi2 σ1 H2 [.dat (.tuple [.str "never", .str f]), .dat (rowD r), .dat (rowD o), .dat (.str x), .dat (.str y)] := S2
        exact q_when (EvB.eq (b' := true) (by walk_at "ev") (by decide +kernel)) S2 (fun _ Hi3 H3 S3 => s_ret (by walk_at "ev") S3 fun v Hi4 H4 S4 hv => hend _ rfl v _ _ _ _ S4 hv) (fun e => nomatch e)
      | same f w =>
        replace S2 : Sit K T.C Z Hi2 σ1 H2 [.dat (.tuple [.str "same", .str f, .int w]), .dat (rowD r), .dat (rowD o), .dat (.str x), .dat (.str y)] := S2
        refine q_no (EvB.eq (by walk_at "ev") (by decide +kernel)) S2 fun Hi3 H3 S3 => ?_
        refine q_no (EvB.eq (by walk_at "ev") (by decide +kernel)) S3 fun Hi4 H4 S4 => ?_
        refine q_no (EvB.eq (by walk_at "ev") (by decide +kernel)) S4 fun Hi5 H5 S5 => ?_
        exact s_ret (by walk_at "ev") S5 fun v Hi4 H4 S4 hv => hend _ rfl v _ _ _ _ S4 hv
      | begin f n w =>
        replace S2 : Sit K T.C Z Hi2 σ1 H2 [.dat (.tuple [.str "begin", .str f, .int n, .int w]), .dat (rowD r), .dat (rowD o), .dat (.str x), .dat (.str y)] := S2
        refine q_no (EvB.eq (by walk_at "ev") (by decide +kernel)) S2 fun Hi3 H3 S3 => ?_
        refine q_when (EvB.eq (b' := true) (by walk_at "ev") (by decide +kernel)) S3 (fun _ Hi3 H3 S3 => s_ret (EvP.eq (ev_andV (by walk_at "ev") fun _ => ev_op (ev_sl (ev_var rfl) eo_none (eo_some (ev_op (ev_var rfl) ev_int (rd_ixT rfl))) (rs_S lx)) (ev_sl (ev_var rfl) eo_none (eo_some (ev_op (ev_var rfl) ev_int (rd_ixT rfl))) (rs_S ly)) rd_eqS) rfl) S3 fun v Hi4 H4 S4 hv => hend _ ?_ v _ _ _ _ S4 hv) (fun e => nomatch e)
        congr 1
        by_cases q1 : n ≤ (x.length : Int) <;> by_cases q2 : n ≤ (y.length : Int) <;> by_cases q3 : (y.length : Int) < x.length <;> simp [q1, q2, q3] <;> omega
      | both f g w =>
        replace S2 : Sit K T.C Z Hi2 σ1 H2 [.dat (.tuple [.str "both", .str f, .str g, .int w]), .dat (rowD r), .dat (rowD o), .dat (.str x), .dat (.str y)] := S2
        refine q_no (EvB.eq (by walk_at "ev") (by decide +kernel)) S2 fun Hi3 H3 S3 => ?_
        refine q_no (EvB.eq (by walk_at "ev") (by decide +kernel)) S3 fun Hi4 H4 S4 => ?_
        refine q_when (EvB.eq (b' := true) (by walk_at "ev") (by decide +kernel)) S4 (fun _ Hi3 H3 S3 => s_ret (ev_andV (by walk_at "ev") fun _ => ev_call (f := fun a : Row × Row × PySem.Str => .bool (oneM a.1 a.2.1 a.2.2)) (r, o, g) (ea_cons (ev_var rfl) (ea_cons (ev_var rfl) (ea_cons (ev_op (ev_var rfl) ev_int (rd_ixT rfl)) ea_nil))) ⟨hr1, hr2⟩) S3 fun v Hi4 H4 S4 hv => hend _ rfl v _ _ _ _ S4 hv) (fun e => nomatch e)
end FK

set_option Elab.async false
set_option linter.all false
set_option maxRecDepth 100000
set_option maxHeartbeats 4000000
namespace FK
open PySem PySem.Spec PyProof.Rows L2 FR
local macro_rules | `(tactic| walk_at "rd") => `(tactic| first
  | with_reducible exact rd_addI | with_reducible exact rd_subI | with_reducible exact rd_leI | with_reducible exact rd_ltI | with_reducible exact rd_geI | with_reducible exact rd_gtI | with_reducible exact rd_ltS | with_reducible exact rd_eqI | with_reducible exact rd_neI | with_reducible exact rd_eqS | with_reducible exact rd_neS
  | with_reducible exact rd_isNN | with_reducible exact rd_isNS | with_reducible exact rd_notNN | with_reducible exact rd_notNS | with_reducible exact rd_inS
  | ((with_reducible apply rd_ixT); rfl) | ((with_reducible apply rd_ixL); rfl)
  | ((with_reducible apply rd_modI); first | decide | assumption)
  | ((with_reducible apply rd_mulI); assumption) | ((with_reducible apply rd_powI); assumption) | ((with_reducible apply rd_divI); assumption) | ((with_reducible apply rd_addS); assumption) | ((with_reducible apply rd_mulS); assumption) | ((with_reducible apply rd_ixL); assumption) | ((with_reducible apply rd_ixT); assumption)
  | with_reducible assumption)
local macro_rules | `(tactic| walk_at "rc") => `(tactic| first
  | with_reducible exact rc_lenL | with_reducible exact rc_lenT | with_reducible exact rc_lenScr | with_reducible exact rc_minI | with_reducible exact rc_maxI | with_reducible exact rc_minS | with_reducible exact rc_maxS | with_reducible exact rc_tup | with_reducible exact rc_listT | with_reducible exact rc_intB | with_reducible exact rc_abs
  | ((with_reducible apply rc_lenS); assumption) | with_reducible exact rc_any | with_reducible exact rc_all | with_reducible assumption)
local macro_rules | `(tactic| walk_at "ev") => `(tactic| first
  | ((with_reducible apply ev_var); rfl) | with_reducible exact ev_int | with_reducible exact ev_str | with_reducible exact ev_bl | with_reducible exact ev_non | with_reducible exact ea_nil
  | with_reducible assumption
  | ((with_reducible apply ev_op); walk_at "ev"; walk_at "ev"; walk_at "rd")
  | ((with_reducible apply ea_cons); walk_at "ev"; walk_at "ev")
  | ((with_reducible apply ev_cb); walk_at "ev"; walk_at "rc")
  | ((with_reducible apply ev_tupB); walk_at "ev"; rfl) | ((with_reducible apply ev_lstB); walk_at "ev"; rfl)
  | ((with_reducible apply ev_andV); walk_at "ev"; (intro _; walk_at "ev")) | ((with_reducible apply ev_orV); walk_at "ev"; (intro _; walk_at "ev")) | ((with_reducible apply ev_notV); walk_at "ev")
  | ((with_reducible apply ev_chain); walk_at "ev"; walk_at "ev"; walk_at "ev"; walk_at "rd"; (intro _; walk_at "rd"))
  | ((with_reducible apply eb_and); walk_at "ev"; (intro _; walk_at "ev")) | ((with_reducible apply eb_or); walk_at "ev"; (intro _; walk_at "ev")) | ((with_reducible apply eb_not); walk_at "ev") | ((with_reducible apply eb_test); walk_at "ev") | ((with_reducible apply eb_B); walk_at "ev")
  | ((with_reducible apply ev_isi (b := true)); walk_at "ev"; (intro _ z; cases z); rfl) | ((with_reducible apply ev_isi (b := false)); walk_at "ev"; (intro _ z; cases z); rfl))


theorem negD (r : Rsn) : rsnD (negR r) = .tuple [.int (0 - r.w), .str r.a, .str r.b, .int r.k] := rfl
-- slots of in_order: 0 reasons, 1 rising, 2 weight, 3 one, 4 other, 5 number
abbrev N_in_order : List PySem.Str := [("reasons" : PySem.Str), ("rising" : PySem.Str), ("weight" : PySem.Str), ("one" : PySem.Str), ("other" : PySem.Str), ("number" : PySem.Str)]
theorem sc_in_order : FnScope N_in_order [("reasons" : PySem.Str)] (defScope s_in_order) := ⟨rfl, rfl, rfl, by decide +kernel, rfl, by decide +kernel, by decide +kernel⟩
def t_in_order {K : PySem.W.Frag} {mg : PySem.Str → Option Value} (T : Tx K mg) : TS :=
  tSeq (tAsg (tCB (rSortedD K) (tCons (tLc (iSeq K (tVar 0)) (gTup K 4 (gCons (gName 2) (gCons (gName 3) (gCons (gName 4) (gCons (gName 5) (gNil)))))) (tYes) (tTupP (tCons (tOp (rSubU) (tC (.int 0)) (tVar 2)) (tCons (tVar 3) (tCons (tVar 4) (tCons (tVar 5) (tNil)))))) [2, 3, 4, 5]) (tNil))) (gName 1)) (tRet (tLc (iSeq K (tVar 1)) (gTup K 4 (gCons (gName 2) (gCons (gName 3) (gCons (gName 4) (gCons (gName 5) (gNil)))))) (tYes) (tTupP (tCons (tOp (rSubU) (tC (.int 0)) (tVar 2)) (tCons (tVar 3) (tCons (tVar 4) (tCons (tVar 5) (tNil)))))) [2, 3, 4, 5]))
theorem ok_in_order {P : Program} {w : World} {K : PySem.W.Frag} {mg : PySem.Str → Option Value} {base : Heap} (T : Tx K mg) : FnOk P w K mg base CX0 1 T.in_order.f T.in_order.fd [("reasons" : PySem.Str)] (sp_in_order K T.C) :=
  fn_pure T.in_order.F sc_in_order (fun _ => rfl) fun cdv A outer s H0 E hr => by
  refine ⟨t_in_order T, pss_cons (ps_set (i := 1) sc_in_order.nd rfl (Or.inl rfl) (pe_callB ((cr_sortedD hr.units)) rfl T.b_sorted (by decide +kernel) (pa_cons (pe_lc (own := [(("weight" : PySem.Str), 2), (("one" : PySem.Str), 3), (("other" : PySem.Str), 4), (("number" : PySem.Str), 5)]) (g := gTup K 4 (gCons (gName 2) (gCons (gName 3) (gCons (gName 4) (gCons (gName 5) (gNil)))))) (tt := tYes) (te := tTupP (tCons (tOp (rSubU) (tC (.int 0)) (tVar 2)) (tCons (tVar 3) (tCons (tVar 4) (tCons (tVar 5) (tNil)))))) rfl sc_in_order.nd (pi_seq (pv 0)) (blkOk_by (N := N_in_order) (sc := defScope s_in_order) (by decide +kernel)) (fun _ _ _ _ _ => pg_tup rfl (pgs_cons (pg_name (i := 2) sc_in_order.nd rfl (Or.inl rfl)) (pgs_cons (pg_name (i := 3) sc_in_order.nd rfl (Or.inl rfl)) (pgs_cons (pg_name (i := 4) sc_in_order.nd rfl (Or.inl rfl)) (pgs_cons (pg_name (i := 5) sc_in_order.nd rfl (Or.inl rfl)) (pgs_nil)))))) (fun _ _ _ _ _ => pts_nil) (fun _ _ _ _ _ => pe_tupP (pa_cons (pe_op opSub (pe_int) (pv 2)) (pa_cons (pv 3) (pa_cons (pv 4) (pa_cons (pv 5) (pa_nil))))))) (pa_nil)))) (pss_one (ps_ret (pe_lc (own := [(("weight" : PySem.Str), 2), (("one" : PySem.Str), 3), (("other" : PySem.Str), 4), (("number" : PySem.Str), 5)]) (g := gTup K 4 (gCons (gName 2) (gCons (gName 3) (gCons (gName 4) (gCons (gName 5) (gNil)))))) (tt := tYes) (te := tTupP (tCons (tOp (rSubU) (tC (.int 0)) (tVar 2)) (tCons (tVar 3) (tCons (tVar 4) (tCons (tVar 5) (tNil)))))) rfl sc_in_order.nd (pi_seq (pv 1)) (blkOk_by (N := N_in_order) (sc := defScope s_in_order) (by decide +kernel)) (fun _ _ _ _ _ => pg_tup rfl (pgs_cons (pg_name (i := 2) sc_in_order.nd rfl (Or.inl rfl)) (pgs_cons (pg_name (i := 3) sc_in_order.nd rfl (Or.inl rfl)) (pgs_cons (pg_name (i := 4) sc_in_order.nd rfl (Or.inl rfl)) (pgs_cons (pg_name (i := 5) sc_in_order.nd rfl (Or.inl rfl)) (pgs_nil)))))) (fun _ _ _ _ _ => pts_nil) (fun _ _ _ _ _ => pe_tupP (pa_cons (pe_op opSub (pe_int) (pv 2)) (pa_cons (pv 3) (pa_cons (pv 4) (pa_cons (pv 5) (pa_nil))))))))), ?_⟩
  intro l Z Hi σ H Q ⟨hl, hz⟩ hM S q
  replace S : Sit K T.C Z Hi σ H [.dat (.list (l.map rsnD)), .non, .non, .non, .non, .non] := S
  have h1 : EvP K T.C (tLc (iSeq K (tVar 0)) (gTup K 4 (gCons (gName 2) (gCons (gName 3) (gCons (gName 4) (gCons (gName 5) (gNil)))))) (tYes) (tTupP (tCons (tOp (rSubU) (tC (.int 0)) (tVar 2)) (tCons (tVar 3) (tCons (tVar 4) (tCons (tVar 5) (tNil)))))) [2, 3, 4, 5]) [.dat (.list (l.map rsnD)), .non, .non, .non, .non, .non] (.list ((l.map negR).map rsnD)) := by
    refine EvP.eq (ev_lc (ei_seq (emb := rsnD) (xs := l) (ev_var rfl) (.inl rfl)) (Nat.lt_of_lt_of_le hz (by decide)) (all_lt rfl) (fun _ => true) (fun r => rsnD (negR r)) (fun r => [2, 3, 4, 5].zip [.int r.w, .str r.a, .str r.b, .int r.k]) (fun a _ p hp => (List.of_mem_zip hp).1) (fun a _ => gt_tup (js := [2, 3, 4, 5]) rfl rfl) (fun _ _ => eb_yes) (fun a _ _ => ev_tupB (ea_cons (ev_op ev_int (ev_var rfl) rd_subI) (ea_cons (ev_var rfl) (ea_cons (ev_var rfl) (ea_cons (ev_var rfl) ea_nil)))) rfl)) ?_
    rw [List.filter_eq_self.mpr (fun _ _ => rfl), List.map_map]
    rfl
  have hs := ev_cb (ea_cons h1 ea_nil) (rc_sort (K := K) (enc := rsnD) (bs := l.map negR) (rsn_sort fun r hr => by
    obtain ⟨x, hx, rfl⟩ := List.mem_map.mp hr
    exact ⟨(hl x hx).a.w, (hl x hx).b.w⟩) (.inl rfl))
  refine q_asg hs S (lt_b rfl) fun σ1 Hi1 H1 S1 => ?_
  have hz2 : (srt rsnD (l.map negR)).length < 100000 := by
    rw [srt_len, List.length_map]
    exact Nat.lt_of_lt_of_le hz (by decide)
  refine s_ret (EvP.eq (ev_lc (ei_seq (emb := rsnD) (xs := srt rsnD (l.map negR)) (ev_var rfl) (.inl rfl)) hz2 (all_lt rfl) (fun _ => true) (fun r => rsnD (negR r)) (fun r => [2, 3, 4, 5].zip [.int r.w, .str r.a, .str r.b, .int r.k]) (fun a _ p hp => (List.of_mem_zip hp).1) (fun a _ => gt_tup (js := [2, 3, 4, 5]) rfl rfl) (fun _ _ => eb_yes) (fun a _ _ => ev_tupB (ea_cons (ev_op ev_int (ev_var rfl) rd_subI) (ea_cons (ev_var rfl) (ea_cons (ev_var rfl) (ea_cons (ev_var rfl) ea_nil)))) rfl)) ?_) S1 fun v Hi2 H2 S2 hv => q v _ _ _ _ _ rfl S2 hv
  rw [List.filter_eq_self.mpr (fun _ _ => rfl)]
  show D.list _ = D.list ((ordR l).map rsnD)
  unfold ordR
  rw [List.map_map]
  rfl
theorem sub_le {a b n : Nat} (h : a ≤ b) (hb : b * n ≤ b * n) : a * n ≤ b * n := Nat.mul_le_mul_right n h
-- slots of ground_of: 0 book, 1 rules, 2 rows, 3 reasons, 4 bars, 5 place, 6 row, 7 other, 8 number, 9 rule
abbrev N_ground_of : List PySem.Str := [("book" : PySem.Str), ("rules" : PySem.Str), ("rows" : PySem.Str), ("reasons" : PySem.Str), ("bars" : PySem.Str), ("place" : PySem.Str), ("row" : PySem.Str), ("other" : PySem.Str), ("number" : PySem.Str), ("rule" : PySem.Str)]
theorem sc_ground_of : FnScope N_ground_of [("book" : PySem.Str), ("rules" : PySem.Str)] (defScope s_ground_of) := ⟨rfl, rfl, rfl, by decide +kernel, rfl, by decide +kernel, by decide +kernel⟩
def t_ground_of {K : PySem.W.Frag} {mg : PySem.Str → Option Value} (T : Tx K mg) : TS :=
  tSeq (tAsg (tCB (rSortedD K) (tCons (tVar 0) (tNil))) (gName 2)) (tSeq (tAsg (tLst (tNil)) (gName 3)) (tSeq (tAsg (tLst (tNil)) (gName 4)) (tSeq (tFor (iEnum K (tCons (tVar 2) (tNil))) (gTup K 2 (gCons (gName 5) (gCons (gName 6) (gNil)))) (tFor (iSeq K (tSl (rSlU K) (tVar 2) (tPart (tOp (rAddU K) (tVar 5) (tC (.int 1)))) (tNoPart))) (gName 7) (tFor (iEnumT K (tCons (tVar 1) (tNil))) (gTup K 2 (gCons (gName 8) (gCons (gName 9) (gNil)))) (tIfS (tAnd (tB (tCall (sp_tells K T.C) [] E0 (tCons (tVar 9) (tCons (tVar 6) (tCons (tVar 7) (tNil)))))) (tTest (tOp (rEqU K) (tOp (rIx K) (tVar 9) (tC (.int 0))) (tC (.str ("never" : PySem.Str)))))) (tDrop (tBM K "list" rAppend (tVar 4) (tCons (tTupP (tCons (tOp (rIx K) (tVar 6) (tC (.int 0))) (tCons (tOp (rIx K) (tVar 7) (tC (.int 0))) (tCons (tVar 8) (tNil))))) (tNil)))) (tIfS (tB (tCall (sp_tells K T.C) [] E0 (tCons (tVar 9) (tCons (tVar 6) (tCons (tVar 7) (tNil)))))) (tDrop (tBM K "list" rAppend (tVar 3) (tCons (tTupP (tCons (tOp (rIx K) (tVar 9) (tUn (rU fun i => .int (-i)) (tC (.int 1)))) (tCons (tOp (rIx K) (tVar 6) (tC (.int 0))) (tCons (tOp (rIx K) (tVar 7) (tC (.int 0))) (tCons (tVar 8) (tNil)))))) (tNil)))) (tNext)))))) (tRet (tTupP (tCons (tCB (rTupP K) (tCons (tLc (iSeq K (tVar 2)) (gName 6) (tYes) (tOp (rIx K) (tVar 6) (tC (.int 0))) [6]) (tNil))) (tCons (tCB (rTupP K) (tCons (tCall (sp_in_order K T.C) [] E0 (tCons (tVar 3) (tNil))) (tNil))) (tCons (tCB (rTupP K) (tCons (tCB (rSortedD K) (tCons (tVar 4) (tNil))) (tNil))) (tNil)))))))))
theorem ok_ground_of {P : Program} {w : World} {K : PySem.W.Frag} {mg : PySem.Str → Option Value} {base : Heap} (T : Tx K mg) : FnOk P w K mg base CX0 4 T.ground_of.f T.ground_of.fd [("book" : PySem.Str), ("rules" : PySem.Str)] (sp_ground_of K T.C) :=
  fn_pure T.ground_of.F sc_ground_of (fun _ => rfl) fun cdv A outer s H0 E hr => by
  refine ⟨t_ground_of T, pss_cons (ps_set (i := 2) sc_ground_of.nd rfl (Or.inl rfl) (pe_callB ((cr_sortedD hr.units)) rfl T.b_sorted (by decide +kernel) (pa_cons (pv 0) (pa_nil)))) (pss_cons (ps_set (i := 3) sc_ground_of.nd rfl (Or.inl rfl) (pe_lst (pa_nil))) (pss_cons (ps_set (i := 4) sc_ground_of.nd rfl (Or.inl rfl) (pe_lst (pa_nil))) (pss_cons (ps_for PassesOwn.never rfl (pi_enum rfl T.b_enumerate (pa_cons (pv 2) (pa_nil))) (pg_tup rfl (pgs_cons (pg_name (i := 5) sc_ground_of.nd rfl (Or.inl rfl)) (pgs_cons (pg_name (i := 6) sc_ground_of.nd rfl (Or.inl rfl)) (pgs_nil)))) (pss_one (ps_for PassesOwn.never rfl (pi_seq (pe_slice slU (pv 2) (po_some (pe_op opAdd (pv 5) (pe_int))) (po_none))) (pg_name (i := 7) sc_ground_of.nd rfl (Or.inl rfl)) (pss_one (ps_for PassesOwn.never rfl (pi_enumT rfl T.b_enumerate (pa_cons (pv 1) (pa_nil))) (pg_tup rfl (pgs_cons (pg_name (i := 8) sc_ground_of.nd rfl (Or.inl rfl)) (pgs_cons (pg_name (i := 9) sc_ground_of.nd rfl (Or.inl rfl)) (pgs_nil)))) (pss_one (ps_if (PW.pt (pw_and (pt_val (pe_call (ok_tells T) (hr.mono (by decide)) rfl T.tells.g T.tells.F.kp T.tells.b .nil pass0 (pa_cons (pv 9) (pa_cons (pv 6) (pa_cons (pv 7) (pa_nil)))))) (pw_and1 (pt_cmpR (opEq hr.units) (pe_ix ix_seq (pv 9) (pe_int) (fun _ _ => rfl)) (pe_str) (nomark _))))) (pss_one (ps_expr (pe_bm PySem.F.plainAttrs_list PySem.F.slot_list_append PySem.F.type_list_append mt_append (pv 4) (pa_cons (pe_tupP (pa_cons (pe_ix ix_seq (pv 6) (pe_int) (fun _ _ => rfl)) (pa_cons (pe_ix ix_seq (pv 7) (pe_int) (fun _ _ => rfl)) (pa_cons (pv 8) (pa_nil))))) (pa_nil))))) (pss_one (ps_if (pt_val (pe_call (ok_tells T) (hr.mono (by decide)) rfl T.tells.g T.tells.F.kp T.tells.b .nil pass0 (pa_cons (pv 9) (pa_cons (pv 6) (pa_cons (pv 7) (pa_nil)))))) (pss_one (ps_expr (pe_bm PySem.F.plainAttrs_list PySem.F.slot_list_append PySem.F.type_list_append mt_append (pv 3) (pa_cons (pe_tupP (pa_cons (pe_ix ix_seq (pv 9) (pe_un un_neg (pe_int)) (fun _ _ => rfl)) (pa_cons (pe_ix ix_seq (pv 6) (pe_int) (fun _ _ => rfl)) (pa_cons (pe_ix ix_seq (pv 7) (pe_int) (fun _ _ => rfl)) (pa_cons (pv 8) (pa_nil)))))) (pa_nil))))) (pss_nil)))))))))) (pss_one (ps_ret (pe_tupP (pa_cons (pe_callTy (cTup) rfl T.b_tuple (by rfl) (pa_cons (pe_lc (own := [(("row" : PySem.Str), 6)]) (g := gName 6) (tt := tYes) (te := tOp (rIx K) (tVar 6) (tC (.int 0))) rfl sc_ground_of.nd (pi_seq (pv 2)) (blkOk_by (N := N_ground_of) (sc := defScope s_ground_of) (by decide +kernel)) (fun _ _ _ _ _ => pg_name (i := 6) sc_ground_of.nd rfl (Or.inl rfl)) (fun _ _ _ _ _ => pts_nil) (fun _ _ _ _ _ => pe_ix ix_seq (pv 6) (pe_int) (fun _ _ => rfl))) (pa_nil))) (pa_cons (pe_callTy (cTup) rfl T.b_tuple (by rfl) (pa_cons (pe_call (ok_in_order T) (hr.mono (by decide)) rfl T.in_order.g T.in_order.F.kp T.in_order.b .nil pass0 (pa_cons (pv 3) (pa_nil))) (pa_nil))) (pa_cons (pe_callTy (cTup) rfl T.b_tuple (by rfl) (pa_cons (pe_callB ((cr_sortedD hr.units)) rfl T.b_sorted (by decide +kernel) (pa_cons (pv 4) (pa_nil))) (pa_nil))) (pa_nil)))))))))), ?_⟩
  intro ⟨rows, us⟩ Z Hi σ H Q ⟨hr, hn, hl, hu, hul⟩ hM S q
  replace hr : ∀ r ∈ rows, OkRow r := hr
  replace hn : (rows.map (·.n)).Nodup := hn
  replace hl : rows.length ≤ 40 := hl
  replace hu : ∀ u ∈ us, OkRul u := hu
  replace hul : us.length ≤ 8 := hul
  replace S : Sit K T.C Z Hi σ H [.dat (rowsD rows), .dat (rulesD us), .non, .non, .non, .non, .non, .non, .non, .non] := S
  have hR : ∀ r ∈ srt rowD rows, OkRow r := fun r h => hr r ((srt_perm rowD rows).mem_iff.mp h)
  have hRl : (srt rowD rows).length ≤ 40 := by
    rw [srt_len]
    exact hl
  refine q_asg (ev_cb (ea_cons (ev_var rfl) ea_nil) (rc_sort (row_sort hr) (.inr rfl))) S (lt_b rfl) fun σ1 Hi1 H1 S1 => ?_
  refine q_new S1 (lt_b rfl) fun σ2 Hi2 H2 S2 => ?_
  refine q_new S2 (lt_b rfl) fun σ3 Hi3 H3 S3 => ?_
  replace S3 : Sit K T.C Z Hi3 σ3 H3 [.dat (rowsD rows), .dat (rulesD us), .dat (.list ((srt rowD rows).map rowD)), .own [], .own [], .non, .non, .non, .non, .non] := S3
  refine q_grow (J := Sl × Sl × Sl × Sl × Sl) (xs := enumL (srt rowD rows)) (emb := fun p => .tuple [.int (p.1 : Nat), rowD p.2]) (fun j A B => [.dat (rowsD rows), .dat (rulesD us), .dat (.list ((srt rowD rows).map rowD)), .own A, .own B, j.1, j.2.1, j.2.2.1, j.2.2.2.1, j.2.2.2.2])
    (fun p => ((srt rowD rows).drop (p.1 + 1)).flatMap fun o => (betR us p.2 o).map rsnD) (fun p => ((srt rowD rows).drop (p.1 + 1)).flatMap fun o => (betB us p.2 o).map brD) 320 320 (fun p _ => ?_) (fun p _ => ?_) (.non, .non, .non, .non, .non) [] [] (ei_enumL (ea_cons (ev_var rfl) ea_nil)) S3 (fun p => [5, 6].zip [.int (p.1 : Nat), rowD p.2]) (fun p _ => gt_tup (js := [5, 6]) rfl rfl) (fun j A B p _ z hz => all_lt (vs := [5, 6]) rfl _ (List.of_mem_zip hz).1) (fun Z1 i p j A B hp hA hB Hi4 σ4 H4 S4 => ?_) (fun j Hi4 σ4 H4 S4 => ?_)
  · have h1 := flat_le (f := fun o => (betR us p.2 o).map rsnD) (n := 8) (xs := (srt rowD rows).drop (p.1 + 1)) fun o _ => by
      rw [List.length_map]
      exact Nat.le_trans (betR_len us p.2 o) hul
    have h2 : ((srt rowD rows).drop (p.1 + 1)).length ≤ 40 := by
      rw [List.length_drop]
      omega
    omega
  · have h1 := flat_le (f := fun o => (betB us p.2 o).map brD) (n := 8) (xs := (srt rowD rows).drop (p.1 + 1)) fun o _ => by
      rw [List.length_map]
      exact Nat.le_trans (betB_len us p.2 o) hul
    have h2 : ((srt rowD rows).drop (p.1 + 1)).length ≤ 40 := by
      rw [List.length_drop]
      omega
    omega
  · have hA0 : A.length ≤ 12800 := by
      rw [enumL_len] at hA
      have := Nat.mul_le_mul_right 320 hRl
      simp only [List.length_nil] at hA
      omega
    have hB0 : B.length ≤ 12800 := by
      rw [enumL_len] at hB
      have := Nat.mul_le_mul_right 320 hRl
      simp only [List.length_nil] at hB
      omega
    have hp2 : OkRow p.2 := hR _ (enum_mem (List.mem_of_getElem? hp)).1
    replace S4 : Sit K T.C Z1 Hi4 σ4 H4 [.dat (rowsD rows), .dat (rulesD us), .dat (.list ((srt rowD rows).map rowD)), .own A, .own B, .dat (.int (p.1 : Nat)), .dat (rowD p.2), j.2.2.1, j.2.2.2.1, j.2.2.2.2] := S4
    have hsl : EvP K T.C (tSl (rSlU K) (tVar 2) (tPart (tOp (rAddU K) (tVar 5) (tC (.int 1)))) (tNoPart)) [.dat (rowsD rows), .dat (rulesD us), .dat (.list ((srt rowD rows).map rowD)), .own A, .own B, .dat (.int (p.1 : Nat)), .dat (rowD p.2), j.2.2.1, j.2.2.2.1, j.2.2.2.2] (.list (((srt rowD rows).drop (p.1 + 1)).map rowD)) := by
      refine EvP.eq (ev_sl (ev_var rfl) (eo_some (ev_op (ev_var rfl) ev_int rd_addI)) eo_none rs_L) ?_
      rw [show ((p.1 : Nat) : Int) + 1 = ((p.1 + 1 : Nat) : Int) by omega, cut_drop, List.map_drop]
    refine s_grow (J := Sl × Sl × Sl) (xs := (srt rowD rows).drop (p.1 + 1)) (emb := rowD) (fun j A B => [.dat (rowsD rows), .dat (rulesD us), .dat (.list ((srt rowD rows).map rowD)), .own A, .own B, .dat (.int (p.1 : Nat)), .dat (rowD p.2), j.1, j.2.1, j.2.2])
      (fun o => (betR us p.2 o).map rsnD) (fun o => (betB us p.2 o).map brD) 8 8 (fun o _ => by rw [List.length_map]; exact Nat.le_trans (betR_len us p.2 o) hul) (fun o _ => by rw [List.length_map]; exact Nat.le_trans (betB_len us p.2 o) hul) (j.2.2.1, j.2.2.2.1, j.2.2.2.2) A B (ei_seq hsl (.inl rfl)) S4 (fun o => [(7, rowD o)]) (fun o _ => gt_name) (fun j A B o _ z hz => by rw [List.mem_singleton] at hz; rw [hz]; exact lt_b rfl) (fun Z2 i2 o j2 A2 B2 ho hA2 hB2 Hi5 σ5 H5 S5 => ?_) (fun j2 Hi5 σ5 H5 S5 => ⟨_, _, ⟨(.dat (.int (p.1 : Nat)), .dat (rowD p.2), j2.1, j2.2.1, j2.2.2), rfl⟩, S5⟩)
    have ho2 : OkRow o := hR _ (List.mem_of_mem_drop (List.mem_of_getElem? ho))
    have hdl : ((srt rowD rows).drop (p.1 + 1)).length ≤ 40 := by
      rw [List.length_drop]
      omega
    have hA3 : A2.length ≤ 13200 := by omega
    have hB3 : B2.length ≤ 13200 := by omega
    replace S5 : Sit K T.C Z2 Hi5 σ5 H5 [.dat (rowsD rows), .dat (rulesD us), .dat (.list ((srt rowD rows).map rowD)), .own A2, .own B2, .dat (.int (p.1 : Nat)), .dat (rowD p.2), .dat (rowD o), j2.2.1, j2.2.2] := S5
    refine s_grow (J := Sl × Sl) (xs := enumL us) (emb := fun z => .tuple [.int (z.1 : Nat), rulD z.2]) (fun j A B => [.dat (rowsD rows), .dat (rulesD us), .dat (.list ((srt rowD rows).map rowD)), .own A, .own B, .dat (.int (p.1 : Nat)), .dat (rowD p.2), .dat (rowD o), j.1, j.2])
      (fun z => if (tellsM z.2 p.2 o && !z.2.isNever) = true then [rsnD ⟨z.2.w, p.2.n, o.n, (z.1 : Nat)⟩] else []) (fun z => if (tellsM z.2 p.2 o && z.2.isNever) = true then [brD ⟨p.2.n, o.n, (z.1 : Nat)⟩] else []) 1 1 (fun z _ => by split <;> simp) (fun z _ => by split <;> simp) (j2.2.1, j2.2.2) A2 B2 (ei_enumT (ea_cons (ev_var rfl) ea_nil)) S5 (fun z => [8, 9].zip [.int (z.1 : Nat), rulD z.2]) (fun p _ => gt_tup (js := [8, 9]) rfl rfl) (fun j A B p _ z hz => all_lt (vs := [8, 9]) rfl _ (List.of_mem_zip hz).1) (fun Z3 i3 z j3 A4 B4 hz hA4 hB4 Hi6 σ6 H6 S6 => ?_) (fun j3 Hi6 σ6 H6 S6 => ?_)
    · have hz2 : OkRul z.2 := hu _ (enum_mem (List.mem_of_getElem? hz)).1
      rw [enumL_len] at hA4 hB4
      have hA5 : A4.length < 100000 := by omega
      have hB5 : B4.length < 100000 := by omega
      replace S6 : Sit K T.C Z3 Hi6 σ6 H6 [.dat (rowsD rows), .dat (rulesD us), .dat (.list ((srt rowD rows).map rowD)), .own A4, .own B4, .dat (.int (p.1 : Nat)), .dat (rowD p.2), .dat (rowD o), .dat (.int (z.1 : Nat)), .dat (rulD z.2)] := S6
      have hc := ev_call (K := K) (C := T.C) (E := E0) (ρ := [.dat (rowsD rows), .dat (rulesD us), .dat (.list ((srt rowD rows).map rowD)), .own A4, .own B4, .dat (.int (p.1 : Nat)), .dat (rowD p.2), .dat (rowD o), .dat (.int (z.1 : Nat)), .dat (rulD z.2)]) (emb := fun a : Rul × Row × Row => [rulD a.1, rowD a.2.1, rowD a.2.2]) (pre := fun a => OkRul a.1 ∧ OkRow a.2.1 ∧ OkRow a.2.2) (f := fun a => .bool (tellsM a.1 a.2.1 a.2.2)) (z.2, p.2, o) (ea_cons (ev_var (i := 9) rfl) (ea_cons (ev_var (i := 6) rfl) (ea_cons (ev_var (i := 7) rfl) ea_nil))) ⟨hz2, hp2, ho2⟩
      refine s_if (b := tellsM z.2 p.2 o && z.2.isNever) (eb_and (eb_B hc) fun _ => eb_test (ev_never (ev_var rfl))) S6 (fun e Hi7 H7 S7 => ?_) (fun e Hi7 H7 S7 => ?_)
      · refine s_app (d := brD ⟨p.2.n, o.n, (z.1 : Nat)⟩) rfl (ev_tupB (ea_cons (ev_op (ev_var rfl) ev_int (rd_ixT rfl)) (ea_cons (ev_op (ev_var rfl) ev_int (rd_ixT rfl)) (ea_cons (ev_var rfl) ea_nil))) rfl) hB5 S7 fun Hi8 H8 S8 => ⟨_, _, ⟨(.dat (.int (z.1 : Nat)), .dat (rulD z.2)), ?_⟩, S8⟩
        rw [Bool.and_eq_true] at e
        rw [e.1, e.2]
        show _ = [_, _, _, Sl.own (A4 ++ []), Sl.own (B4 ++ [_]), _, _, _, _, _]
        rw [List.append_nil]
        rfl
      · refine s_when (b := tellsM z.2 p.2 o) (eb_B hc) S7 (fun e2 Hi8 H8 S8 => ?_) (fun e2 Hi8 H8 S8 => ?_)
        · rw [e2, Bool.true_and] at e
          refine s_app (d := rsnD ⟨z.2.w, p.2.n, o.n, (z.1 : Nat)⟩) rfl (ev_tupB (ea_cons (ev_last e (ev_var rfl)) (ea_cons (ev_op (ev_var rfl) ev_int (rd_ixT rfl)) (ea_cons (ev_op (ev_var rfl) ev_int (rd_ixT rfl)) (ea_cons (ev_var rfl) ea_nil)))) rfl) hA5 S8 fun Hi8 H8 S8 => ⟨_, _, ⟨(.dat (.int (z.1 : Nat)), .dat (rulD z.2)), ?_⟩, S8⟩
          rw [e2, e]
          show _ = [_, _, _, Sl.own (A4 ++ [_]), Sl.own (B4 ++ []), _, _, _, _, _]
          rw [List.append_nil]
          rfl
        · refine ⟨_, _, ⟨(.dat (.int (z.1 : Nat)), .dat (rulD z.2)), ?_⟩, S8⟩
          rw [e2]
          show _ = [_, _, _, Sl.own (A4 ++ []), Sl.own (B4 ++ []), _, _, _, _, _]
          rw [List.append_nil, List.append_nil]
    · refine ⟨_, _, ⟨(.dat (rowD o), j3.1, j3.2), ?_⟩, S6⟩
      have e1 : (enumL us).flatMap (fun z => if (tellsM z.2 p.2 o && !z.2.isNever) = true then [rsnD ⟨z.2.w, p.2.n, o.n, (z.1 : Nat)⟩] else []) = (betR us p.2 o).map rsnD := by
        rw [flatMap_if (fun z : Nat × Rul => tellsM z.2 p.2 o && !z.2.isNever) (fun z : Nat × Rul => rsnD ⟨z.2.w, p.2.n, o.n, (z.1 : Nat)⟩)]
        unfold betR
        rw [List.map_map]
        rfl
      have e2 : (enumL us).flatMap (fun z => if (tellsM z.2 p.2 o && z.2.isNever) = true then [brD ⟨p.2.n, o.n, (z.1 : Nat)⟩] else []) = (betB us p.2 o).map brD := by
        rw [flatMap_if (fun z : Nat × Rul => tellsM z.2 p.2 o && z.2.isNever) (fun z : Nat × Rul => brD ⟨p.2.n, o.n, (z.1 : Nat)⟩)]
        unfold betB
        rw [List.map_map]
        rfl
      rw [e1, e2]
  · have e1 : (enumL (srt rowD rows)).flatMap (fun p => ((srt rowD rows).drop (p.1 + 1)).flatMap fun o => (betR us p.2 o).map rsnD) = (foundR us rows).map rsnD := by
      unfold foundR
      rw [map_flat, found_enum (fun r o => (betR us r o).map rsnD)]
    have e2 : (enumL (srt rowD rows)).flatMap (fun p => ((srt rowD rows).drop (p.1 + 1)).flatMap fun o => (betB us p.2 o).map brD) = (foundB us rows).map brD := by
      unfold foundB
      rw [map_flat, found_enum (fun r o => (betB us r o).map brD)]
    rw [e1, e2] at S4
    replace S4 : Sit K T.C Z Hi4 σ4 H4 [.dat (rowsD rows), .dat (rulesD us), .dat (.list ((srt rowD rows).map rowD)), .own ((foundR us rows).map rsnD), .own ((foundB us rows).map brD), j.1, j.2.1, j.2.2.1, j.2.2.2.1, j.2.2.2.2] := S4
    obtain ⟨Hj5, _, S5⟩ := S4.freeze (i := 3) rfl hM
    obtain ⟨Hj6, _, S6⟩ := S5.freeze (i := 4) rfl hM
    replace S6 : Sit K T.C Z Hj6 σ4 H4 [.dat (rowsD rows), .dat (rulesD us), .dat (.list ((srt rowD rows).map rowD)), .dat (.list ((foundR us rows).map rsnD)), .dat (.list ((foundB us rows).map brD)), j.1, j.2.1, j.2.2.1, j.2.2.2.1, j.2.2.2.2] := S6
    have hfr := foundR_ok hu hr hn
    have hfb := foundB_ok (us := us) hr hn
    have hfl := foundR_len (us := us) hul hl
    refine s_ret (EvP.eq (ev_tupB (ea_cons (ev_cb (ea_cons (ev_map (xs := srt rowD rows) (emb := rowD) (fun r => strD r.n) (ei_seq (ev_var rfl) (.inl rfl)) (Nat.lt_of_le_of_lt hRl (by decide)) (lt_b rfl) fun r _ => ev_op (ev_var rfl) ev_int (rd_ixT rfl)) ea_nil) rc_tup) (ea_cons (ev_cb (ea_cons (ev_call (f := fun l : List Rsn => .list ((ordR l).map rsnD)) (foundR us rows) (ea_cons (ev_var rfl) ea_nil) ⟨fun r hr => (hfr r hr).1, by omega⟩) ea_nil) rc_tup) (ea_cons (ev_cb (ea_cons (ev_cb (ea_cons (ev_var rfl) ea_nil) (rc_sort (enc := brD) (bs := foundB us rows) (br_sort fun r hr => ⟨(hfb r hr).1.a.w, (hfb r hr).1.b.w⟩) (.inl rfl))) ea_nil) rc_tup) ea_nil))) rfl) ?_) S6 fun v Hi2 H2 S2 hv => q v _ _ _ _ _ rfl S2 hv
    show D.tuple [.tuple ((srt rowD rows).map fun r => strD r.n), _, _] = grD ⟨namesM rows, _, _⟩
    unfold grD namesD namesM
    rw [← names_sorted, List.map_map]
    rfl
end FK

set_option Elab.async false
set_option linter.all false
set_option maxRecDepth 100000
set_option maxHeartbeats 4000000
namespace FK
open PySem PySem.Spec PyProof.Rows L2 FR
local macro_rules | `(tactic| walk_at "rd") => `(tactic| first
  | with_reducible exact rd_addI | with_reducible exact rd_subI | with_reducible exact rd_leI | with_reducible exact rd_ltI | with_reducible exact rd_geI | with_reducible exact rd_gtI | with_reducible exact rd_ltS | with_reducible exact rd_eqI | with_reducible exact rd_neI | with_reducible exact rd_eqS | with_reducible exact rd_neS
  | with_reducible exact rd_isNN | with_reducible exact rd_isNS | with_reducible exact rd_notNN | with_reducible exact rd_notNS | with_reducible exact rd_inS
  | ((with_reducible apply rd_ixT); rfl) | ((with_reducible apply rd_ixL); rfl)
  | ((with_reducible apply rd_modI); first | decide | assumption)
  | ((with_reducible apply rd_mulI); assumption) | ((with_reducible apply rd_powI); assumption) | ((with_reducible apply rd_divI); assumption) | ((with_reducible apply rd_addS); assumption) | ((with_reducible apply rd_mulS); assumption) | ((with_reducible apply rd_ixL); assumption) | ((with_reducible apply rd_ixT); assumption)
  | with_reducible assumption)
local macro_rules | `(tactic| walk_at "rc") => `(tactic| first
  | with_reducible exact rc_lenL | with_reducible exact rc_lenT | with_reducible exact rc_lenScr | with_reducible exact rc_minI | with_reducible exact rc_maxI | with_reducible exact rc_minS | with_reducible exact rc_maxS | with_reducible exact rc_tup | with_reducible exact rc_listT | with_reducible exact rc_intB | with_reducible exact rc_abs
  | ((with_reducible apply rc_lenS); assumption) | with_reducible exact rc_any | with_reducible exact rc_all | with_reducible assumption)
local macro_rules | `(tactic| walk_at "ev") => `(tactic| first
  | ((with_reducible apply ev_var); rfl) | with_reducible exact ev_int | with_reducible exact ev_str | with_reducible exact ev_bl | with_reducible exact ev_non | with_reducible exact ea_nil
  | with_reducible assumption
  | ((with_reducible apply ev_op); walk_at "ev"; walk_at "ev"; walk_at "rd")
  | ((with_reducible apply ea_cons); walk_at "ev"; walk_at "ev")
  | ((with_reducible apply ev_cb); walk_at "ev"; walk_at "rc")
  | ((with_reducible apply ev_tupB); walk_at "ev"; rfl) | ((with_reducible apply ev_lstB); walk_at "ev"; rfl)
  | ((with_reducible apply ev_andV); walk_at "ev"; (intro _; walk_at "ev")) | ((with_reducible apply ev_orV); walk_at "ev"; (intro _; walk_at "ev")) | ((with_reducible apply ev_notV); walk_at "ev")
  | ((with_reducible apply ev_chain); walk_at "ev"; walk_at "ev"; walk_at "ev"; walk_at "rd"; (intro _; walk_at "rd"))
  | ((with_reducible apply eb_and); walk_at "ev"; (intro _; walk_at "ev")) | ((with_reducible apply eb_or); walk_at "ev"; (intro _; walk_at "ev")) | ((with_reducible apply eb_not); walk_at "ev") | ((with_reducible apply eb_test); walk_at "ev") | ((with_reducible apply eb_B); walk_at "ev")
  | ((with_reducible apply ev_isi (b := true)); walk_at "ev"; (intro _ z; cases z); rfl) | ((with_reducible apply ev_isi (b := false)); walk_at "ev"; (intro _ z; cases z); rfl))


-- slots of F_keep: 0 self
abbrev N_F_keep : List PySem.Str := [("self" : PySem.Str)]
theorem sc_F_keep : FnScope N_F_keep [("self" : PySem.Str)] (defScope sF_keep) := ⟨rfl, rfl, rfl, by decide +kernel, rfl, by decide +kernel, by decide +kernel⟩
def t_F_keep {K : PySem.W.Frag} {mg : PySem.Str → Option Value} (T : Tx K mg) : TS :=
  tDrop (tBM K "list" rAppend (tFld K (tVar 0) ("ahead" : PySem.Str)) (tCons (tTupP (tCons (tFld K (tVar 0) ("standing" : PySem.Str)) (tCons (tFld K (tVar 0) ("reasons" : PySem.Str)) (tCons (tFld K (tVar 0) ("barred" : PySem.Str)) (tCons (tFld K (tVar 0) ("struck" : PySem.Str)) (tNil)))))) (tNil)))
theorem ok_F_keep {P : Program} {w : World} {K : PySem.W.Frag} {mg : PySem.Str → Option Value} {base : Heap} (T : Tx K mg) : FnOk P w K mg base CX0 1 T.F_keep.f T.F_keep.fd [("self" : PySem.Str)] (sp_F_keep K T.C) :=
  fn_fol T.F_keep.F sc_F_keep (fun _ => rfl) fun cdv A outer s H0 E hr => by
  refine ⟨t_F_keep T, pss_one (ps_expr (pe_bm PySem.F.plainAttrs_list PySem.F.slot_list_append PySem.F.type_list_append mt_append (pe_fld (pv 0) rfl) (pa_cons (pe_tupP (pa_cons (pe_fld (pv 0) rfl) (pa_cons (pe_fld (pv 0) rfl) (pa_cons (pe_fld (pv 0) rfl) (pa_cons (pe_fld (pv 0) rfl) (pa_nil)))))) (pa_nil)))), ?_⟩
  intro a F p l Z Hi σ H Q hp S q
  replace S : Sit K T.C Z Hi σ H [.fol p l F] := S
  exact s_ahead (s := F.cur) (ev_tup (ea_cons (ev_fldF rfl .standing T.cl T.n_standing) (ea_cons (ev_fldF rfl .reasons T.cl T.n_reasons) (ea_cons (ev_fldF rfl .barred T.cl T.n_barred) (ea_cons (ev_fldF rfl .struck T.cl T.n_struck) ea_nil))))) rfl T.cl T.n_ahead (Nat.lt_of_le_of_lt hp.la (by decide)) S fun Hi1 H1 S1 => q .non .none _ _ _ _ [] ⟨rfl, rfl⟩ S1 .non
-- slots of F_stands: 0 self, 1 name, 2 row
abbrev N_F_stands : List PySem.Str := [("self" : PySem.Str), ("name" : PySem.Str), ("row" : PySem.Str)]
theorem sc_F_stands : FnScope N_F_stands [("self" : PySem.Str), ("name" : PySem.Str)] (defScope sF_stands) := ⟨rfl, rfl, rfl, by decide +kernel, rfl, by decide +kernel, by decide +kernel⟩
def t_F_stands {K : PySem.W.Frag} {mg : PySem.Str → Option Value} (T : Tx K mg) : TS :=
  tRet (tCB (rAny K) (tCons (tLc (iSeq K (tFld K (tVar 0) ("standing" : PySem.Str))) (gName 2) (tYes) (tOp (rEqU K) (tOp (rIx K) (tVar 2) (tC (.int 0))) (tVar 1)) [2]) (tNil)))
theorem ok_F_stands {P : Program} {w : World} {K : PySem.W.Frag} {mg : PySem.Str → Option Value} {base : Heap} (T : Tx K mg) : FnOk P w K mg base CX0 1 T.F_stands.f T.F_stands.fd [("self" : PySem.Str), ("name" : PySem.Str)] (sp_F_stands K T.C) :=
  fn_ask T.F_stands.F sc_F_stands (fun _ => rfl) fl_F_stands fun cdv A outer s H0 E hr => by
  refine ⟨t_F_stands T, pss_one (ps_ret (pe_callB (cAny rfl) rfl T.b_any (by decide +kernel) (pa_cons (pe_lc (own := [(("row" : PySem.Str), 2)]) (g := gName 2) (tt := tYes) (te := tOp (rEqU K) (tOp (rIx K) (tVar 2) (tC (.int 0))) (tVar 1)) rfl sc_F_stands.nd (pi_seq (pe_fld (pv 0) rfl)) (blkOk_by (N := N_F_stands) (sc := defScope sF_stands) (by decide +kernel)) (fun _ _ _ _ _ => pg_name (i := 2) sc_F_stands.nd rfl (Or.inl rfl)) (fun _ _ _ _ _ => pts_nil) (fun _ _ _ _ _ => pe_cmpR (opEq hr.units) (pe_ix ix_seq (pv 2) (pe_int) (fun _ _ => rfl)) (pv 1) (nomark _))) (pa_nil)))), ?_⟩
  intro n F Z Hi σ H Q hp hM S q
  replace S : Sit K T.C Z Hi σ H [.fro F, .dat (.str n), .non] := S
  have h1 : EvP K T.C (tLc (iSeq K (tFld K (tVar 0) ("standing" : PySem.Str))) (gName 2) tYes (tOp (rEqU K) (tOp (rIx K) (tVar 2) (tC (.int 0))) (tVar 1)) [2]) [.fro F, .dat (.str n), .non] (.list ((F.cur.rows.map fun r => decide (r.n = n)).map D.bool)) := by
    rw [List.map_map]
    exact ev_map _ (ei_seq (emb := rowD) (ev_fldR rfl .standing T.cl T.n_standing) (.inr rfl)) (Nat.lt_of_le_of_lt hp.cur.lr (by decide)) (lt_b rfl) fun r _ => ev_op (ev_op (ev_var rfl) ev_int (rd_ixT rfl)) (ev_var rfl) rd_eqS
  refine s_ret (EvP.eq (ev_cb (ea_cons h1 ea_nil) rc_any) ?_) S fun v Hi2 H2 S2 hv => q v _ _ _ _ S2 hv
  congr 1
  rw [List.any_map]
  by_cases e : n ∈ F.cur.rows.map (·.n)
  · rw [decide_eq_true e, List.any_eq_true]
    obtain ⟨r, h1, h2⟩ := List.mem_map.mp e
    exact ⟨r, h1, decide_eq_true h2⟩
  · rw [decide_eq_false e, List.any_eq_false]
    intro r hr h
    exact e (List.mem_map.mpr ⟨r, hr, of_decide_eq_true h⟩)
-- slots of F_put: 0 self, 1 row
abbrev N_F_put : List PySem.Str := [("self" : PySem.Str), ("row" : PySem.Str)]
theorem sc_F_put : FnScope N_F_put [("self" : PySem.Str), ("row" : PySem.Str)] (defScope sF_put) := ⟨rfl, rfl, rfl, by decide +kernel, rfl, by decide +kernel, by decide +kernel⟩
def t_F_put {K : PySem.W.Frag} {mg : PySem.Str → Option Value} (T : Tx K mg) : TS :=
  tSeq (tIfS (tB (tMeth T.C ("stands" : PySem.Str) (sp_F_stands K T.C) [] E0 (tVar 0) (tCons (tOp (rIx K) (tVar 1) (tC (.int 0))) (tNil)))) (tNever) (tNext)) (tSeq (tDrop (tMeth T.C ("keep" : PySem.Str) (sp_F_keep K T.C) [] E0 (tVar 0) tNil)) (sFld K (tVar 0) (tOp (rAddU K) (tFld K (tVar 0) ("standing" : PySem.Str)) (tTupP (tCons (tVar 1) (tNil)))) ("standing" : PySem.Str)))
theorem ok_F_put {P : Program} {w : World} {K : PySem.W.Frag} {mg : PySem.Str → Option Value} {base : Heap} (T : Tx K mg) : FnOk P w K mg base CX0 2 T.F_put.f T.F_put.fd [("self" : PySem.Str), ("row" : PySem.Str)] (sp_F_put K T.C) :=
  fn_fol T.F_put.F sc_F_put (fun _ => rfl) fun cdv A outer s H0 E hr => by
  refine ⟨t_F_put T, pss_cons (ps_if (pt_val (pe_meth (pv 0) T.cl T.F_stands.m (ok_F_stands T) (hr.mono (by decide)) T.F_stands.b .nil pass0 (pa_cons (pe_ix ix_seq (pv 1) (pe_int) (fun _ _ => rfl)) (pa_nil)))) (pss_one (ps_never)) (pss_nil)) (pss_cons (ps_expr (pe_meth0 (pv 0) T.cl T.F_keep.m (ok_F_keep T) (hr.mono (by decide)) T.F_keep.b .nil pass0)) (pss_one (ps_fld (pv 0) (pe_op opAdd (pe_fld (pv 0) rfl) (pe_tupP (pa_cons (pv 1) (pa_nil)))) rfl))), ?_⟩
  intro r F p l Z Hi σ H Q ⟨hF, hr1, hr2⟩ S q
  replace S : Sit K T.C Z Hi σ H [.fol p l F, .dat (rowD r)] := S
  refine q_no (EvB.eq (eb_B (ev_askF (g := fun F n => .bool (decide (n ∈ F.cur.rows.map (·.n)))) r.n rfl (ea_cons (ev_op (ev_var (i := 1) rfl) ev_int (rd_ixT rfl)) ea_nil) hF)) (decide_eq_false hr2)) S fun Hi1 H1 S1 => ?_
  refine q_dropM (em_meth () rfl ea_nil hF) S1 fun d ρ' ⟨F1, ⟨hd, hF1⟩, hρ⟩ Hi2 H2 S2 => ?_
  subst hd hF1 hρ
  replace S2 : Sit K T.C Z Hi2 σ H2 [.fol p l { F with ahead := F.ahead ++ [F.cur] }, .dat (rowD r)] := S2
  refine s_fld (d := rowsD (F.cur.rows ++ [r])) (EvP.eq (ev_op (ev_fldF rfl .standing T.cl T.n_standing) (ev_tup (ea_cons (ev_var rfl) ea_nil)) (rd_addT ?_)) ?_) rfl (FldS.standing _) T.cl T.n_standing S2 fun Hi3 H3 S3 => q .non .none _ _ _ _ _ ⟨rfl, rfl⟩ S3 .non
  · have := hF.cur.lr
    simp only [List.length_map, List.length_cons, List.length_nil]
    exact Nat.le_trans (Nat.add_le_add_right this 1) (by decide)
  · rw [rowsD, List.map_append]
    rfl
-- slots of F_drop: 0 self, 1 name, 2 less
abbrev N_F_drop : List PySem.Str := [("self" : PySem.Str), ("name" : PySem.Str), ("less" : PySem.Str)]
theorem sc_F_drop : FnScope N_F_drop [("self" : PySem.Str), ("name" : PySem.Str)] (defScope sF_drop) := ⟨rfl, rfl, rfl, by decide +kernel, rfl, by decide +kernel, by decide +kernel⟩
def t_F_drop {K : PySem.W.Frag} {mg : PySem.Str → Option Value} (T : Tx K mg) : TS :=
  tSeq (tAsg (tCall (sp_book_without K T.C) [] E0 (tCons (tFld K (tVar 0) ("standing" : PySem.Str)) (tCons (tVar 1) (tNil)))) (gName 2)) (tSeq (tDrop (tMeth T.C ("keep" : PySem.Str) (sp_F_keep K T.C) [] E0 (tVar 0) tNil)) (sFld K (tVar 0) (tVar 2) ("standing" : PySem.Str)))
theorem ok_F_drop {P : Program} {w : World} {K : PySem.W.Frag} {mg : PySem.Str → Option Value} {base : Heap} (T : Tx K mg) : FnOk P w K mg base CX0 3 T.F_drop.f T.F_drop.fd [("self" : PySem.Str), ("name" : PySem.Str)] (sp_F_drop K T.C) :=
  fn_fol T.F_drop.F sc_F_drop (fun _ => rfl) fun cdv A outer s H0 E hr => by
  refine ⟨t_F_drop T, pss_cons (ps_set (i := 2) sc_F_drop.nd rfl (Or.inl rfl) (pe_call (ok_book_without T) (hr.mono (by decide)) rfl T.book_without.g T.book_without.F.kp T.book_without.b .nil pass0 (pa_cons (pe_fld (pv 0) rfl) (pa_cons (pv 1) (pa_nil))))) (pss_cons (ps_expr (pe_meth0 (pv 0) T.cl T.F_keep.m (ok_F_keep T) (hr.mono (by decide)) T.F_keep.b .nil pass0)) (pss_one (ps_fld (pv 0) (pv 2) rfl))), ?_⟩
  intro n F p l Z Hi σ H Q ⟨hF, hn1, hn2⟩ S q
  replace S : Sit K T.C Z Hi σ H [.fol p l F, .dat (.str n), .non] := S
  refine q_asg (ev_call (f := fun a : List Row × PySem.Str => rowsD (a.1.filter fun r => !decide (r.n = a.2))) (F.cur.rows, n) (ea_cons (ev_fldF rfl .standing T.cl T.n_standing) (ea_cons (ev_var rfl) ea_nil)) ⟨Nat.le_trans hF.cur.lr (by decide), hn2, rows_w hF.cur⟩) S (lt_b rfl) fun σ1 Hi1 H1 S1 => ?_
  refine q_dropM (em_meth () rfl ea_nil hF) S1 fun d ρ' ⟨F1, ⟨hd, hF1⟩, hρ⟩ Hi2 H2 S2 => ?_
  subst hd hF1 hρ
  exact s_fld (ev_var rfl) rfl (FldS.standing _) T.cl T.n_standing S2 fun Hi3 H3 S3 => q .non .none _ _ _ _ _ ⟨rfl, rfl⟩ S3 .non
-- slots of F_two: 0 self, 1 one, 2 other, 3 name
abbrev N_F_two : List PySem.Str := [("self" : PySem.Str), ("one" : PySem.Str), ("other" : PySem.Str), ("name" : PySem.Str)]
theorem sc_F_two : FnScope N_F_two [("self" : PySem.Str), ("one" : PySem.Str), ("other" : PySem.Str)] (defScope sF_two) := ⟨rfl, rfl, rfl, by decide +kernel, rfl, by decide +kernel, by decide +kernel⟩
def t_F_two {K : PySem.W.Frag} {mg : PySem.Str → Option Value} (T : Tx K mg) : TS :=
  tSeq (tFor (iSeq K (tTupP (tCons (tVar 1) (tCons (tVar 2) (tNil))))) (gName 3) (tIfS (tNot (tB (tCall (sp_is_name K T.C) [] E0 (tCons (tVar 3) (tNil))))) (tNever) (tNext))) (tSeq (tIfS (tTest (tOp (rEqU K) (tVar 1) (tVar 2))) (tNever) (tNext)) (tRet (tTupP (tCons (tCB (rMinU) (tCons (tVar 1) (tCons (tVar 2) (tNil)))) (tCons (tCB (rMaxU) (tCons (tVar 1) (tCons (tVar 2) (tNil)))) (tNil))))))
theorem ok_F_two {P : Program} {w : World} {K : PySem.W.Frag} {mg : PySem.Str → Option Value} {base : Heap} (T : Tx K mg) : FnOk P w K mg base CX0 2 T.F_two.f T.F_two.fd [("self" : PySem.Str), ("one" : PySem.Str), ("other" : PySem.Str)] (sp_F_two K T.C) :=
  fn_ask T.F_two.F sc_F_two (fun _ => rfl) fl_F_two fun cdv A outer s H0 E hr => by
  refine ⟨t_F_two T, pss_cons (ps_for PassesOwn.never rfl (pi_seq (pe_tupP (pa_cons (pv 1) (pa_cons (pv 2) (pa_nil))))) (pg_name (i := 3) sc_F_two.nd rfl (Or.inl rfl)) (pss_one (ps_if (pt_not (pt_val (pe_call (ok_is_name T) (hr.mono (by decide)) rfl T.is_name.g T.is_name.F.kp T.is_name.b .nil pass0 (pa_cons (pv 3) (pa_nil))))) (pss_one (ps_never)) (pss_nil)))) (pss_cons (ps_if (pt_cmpR (opEq hr.units) (pv 1) (pv 2) (nomark _)) (pss_one (ps_never)) (pss_nil)) (pss_one (ps_ret (pe_tupP (pa_cons (pe_callB (cMin rfl) rfl T.b_min (by decide +kernel) (pa_cons (pv 1) (pa_cons (pv 2) (pa_nil)))) (pa_cons (pe_callB (cMax rfl) rfl T.b_max (by decide +kernel) (pa_cons (pv 1) (pa_cons (pv 2) (pa_nil)))) (pa_nil))))))), ?_⟩
  intro ⟨a, b⟩ F Z Hi σ H Q ⟨ha, hb, hab⟩ hM S q
  replace S : Sit K T.C Z Hi σ H [.fro F, .dat (.str a), .dat (.str b), .non] := S
  refine q_for (α := PySem.Str) (xs := [a, b]) (emb := strD) (ei_seq (ev_tup (ea_cons (ev_var rfl) (ea_cons (ev_var rfl) ea_nil))) (.inr rfl)) S (fun i ρ => ∃ s, ρ = [.fro F, .dat (.str a), .dat (.str b), s]) (fun Z' σ' Hi' H' S' => ⟨_, _, ⟨_, rfl⟩, S'⟩) (fun x => [(3, strD x)]) (fun x _ => gt_name) (fun i ρ' ⟨s, e⟩ x _ q hq => by rw [e]; rw [List.mem_singleton] at hq; rw [hq]; exact lt_b rfl) (fun Z' up i x ρ' hx ⟨s, e⟩ Hi1 σ1 H1 S1 => ?_) (fun ρ' ⟨s, e⟩ Hi1 σ1 H1 S1 => ?_)
  · subst e
    have hxn : OkN x := by
      have hm := List.mem_of_getElem? hx
      simp only [List.mem_cons, List.not_mem_nil, or_false] at hm
      rcases hm with h | h <;> rw [h] <;> assumption
    replace S1 : Sit K T.C Z' Hi1 σ1 H1 [.fro F, .dat (.str a), .dat (.str b), .dat (.str x)] := S1
    refine s_when (b := false) (EvB.eq (eb_not (eb_B (ev_call (f := fun _ : PySem.Str => .bool true) x (ea_cons (ev_var rfl) ea_nil) hxn))) rfl) S1 (fun e => nomatch e) fun _ Hi2 H2 S2 => ⟨_, _, ⟨_, rfl⟩, S2⟩
  · subst e
    refine q_no (EvB.eq (by walk_at "ev") (decide_eq_false hab)) S1 fun Hi2 H2 S2 => ?_
    refine s_ret (EvP.eq (by walk_at "ev") ?_) S2 fun v Hi2 H2 S2 hv => q v _ _ _ _ S2 hv
    rfl
-- slots of F_told_reason: 0 self, 1 one, 2 other, 3 weight, 4 low, 5 high, 6 reason
abbrev N_F_told_reason : List PySem.Str := [("self" : PySem.Str), ("one" : PySem.Str), ("other" : PySem.Str), ("weight" : PySem.Str), ("low" : PySem.Str), ("high" : PySem.Str), ("reason" : PySem.Str)]
theorem sc_F_told_reason : FnScope N_F_told_reason [("self" : PySem.Str), ("one" : PySem.Str), ("other" : PySem.Str), ("weight" : PySem.Str)] (defScope sF_told_reason) := ⟨rfl, rfl, rfl, by decide +kernel, rfl, by decide +kernel, by decide +kernel⟩
def t_F_told_reason {K : PySem.W.Frag} {mg : PySem.Str → Option Value} (T : Tx K mg) : TS :=
  tSeq (tAsg (tMeth T.C ("two" : PySem.Str) (sp_F_two K T.C) [] E0 (tVar 0) (tCons (tVar 1) (tCons (tVar 2) (tNil)))) (gTup K 2 (gCons (gName 4) (gCons (gName 5) (gNil))))) (tSeq (tAsg (tTupP (tCons (tVar 3) (tCons (tVar 4) (tCons (tVar 5) (tCons (tC (.int 100)) (tNil)))))) (gName 6)) (tSeq (tIfS (tNot (tB (tCall (sp_is_reason K T.C) [] E0 (tCons (tVar 6) (tNil))))) (tNever) (tNext)) (tRet (tVar 6))))
theorem ok_F_told_reason {P : Program} {w : World} {K : PySem.W.Frag} {mg : PySem.Str → Option Value} {base : Heap} (T : Tx K mg) : FnOk P w K mg base CX0 4 T.F_told_reason.f T.F_told_reason.fd [("self" : PySem.Str), ("one" : PySem.Str), ("other" : PySem.Str), ("weight" : PySem.Str)] (sp_F_told_reason K T.C) :=
  fn_ask T.F_told_reason.F sc_F_told_reason (fun _ => rfl) fl_F_told_reason fun cdv A outer s H0 E hr => by
  refine ⟨t_F_told_reason T, pss_cons (ps_asg (pe_meth (pv 0) T.cl T.F_two.m (ok_F_two T) (hr.mono (by decide)) T.F_two.b .nil pass0 (pa_cons (pv 1) (pa_cons (pv 2) (pa_nil)))) (pg_tup rfl (pgs_cons (pg_name (i := 4) sc_F_told_reason.nd rfl (Or.inl rfl)) (pgs_cons (pg_name (i := 5) sc_F_told_reason.nd rfl (Or.inl rfl)) (pgs_nil))))) (pss_cons (ps_set (i := 6) sc_F_told_reason.nd rfl (Or.inl rfl) (pe_tupP (pa_cons (pv 3) (pa_cons (pv 4) (pa_cons (pv 5) (pa_cons (pe_gc rfl T.c_TOLD) (pa_nil))))))) (pss_cons (ps_if (pt_not (pt_val (pe_call (ok_is_reason T) (hr.mono (by decide)) rfl T.is_reason.g T.is_reason.F.kp T.is_reason.b .nil pass0 (pa_cons (pv 6) (pa_nil))))) (pss_one (ps_never)) (pss_nil)) (pss_one (ps_ret (pv 6))))), ?_⟩
  intro ⟨a, b, w⟩ F Z Hi σ H Q ⟨ha, hb, hab, h1, h2⟩ hM S q
  replace S : Sit K T.C Z Hi σ H [.fro F, .dat (.str a), .dat (.str b), .dat (.int w), .non, .non, .non] := S
  refine q_asgT [4, 5] (ev_askR (g := fun _ a => .tuple [.str (minS a.1 a.2), .str (maxS a.1 a.2)]) (a, b) rfl (ea_cons (ev_var (i := 1) rfl) (ea_cons (ev_var (i := 2) rfl) ea_nil)) ⟨ha, hb, hab⟩) rfl rfl S (all_lt rfl) fun σ1 Hi1 H1 S1 => ?_
  replace S1 : Sit K T.C Z Hi1 σ1 H1 [.fro F, .dat (.str a), .dat (.str b), .dat (.int w), .dat (.str (minS a b)), .dat (.str (maxS a b)), .non] := S1
  refine q_asg (by walk_at "ev") S1 (lt_b rfl) fun σ2 Hi2 H2 S2 => ?_
  replace S2 : Sit K T.C Z Hi2 σ2 H2 [.fro F, .dat (.str a), .dat (.str b), .dat (.int w), .dat (.str (minS a b)), .dat (.str (maxS a b)), .dat (rsnD (reasonOf a b w 100))] := S2
  refine q_no (EvB.eq (eb_not (eb_B (ev_call (f := fun _ : Rsn => .bool true) (reasonOf a b w 100) (ea_cons (ev_var rfl) ea_nil) (ok_reason ha hb hab h1 h2 (by decide))))) rfl) S2 fun Hi3 H3 S3 => ?_
  exact s_ret (ev_var rfl) S3 fun v Hi2 H2 S2 hv => q v _ _ _ _ S2 hv
-- slots of F_tell: 0 self, 1 one, 2 other, 3 weight, 4 reason
abbrev N_F_tell : List PySem.Str := [("self" : PySem.Str), ("one" : PySem.Str), ("other" : PySem.Str), ("weight" : PySem.Str), ("reason" : PySem.Str)]
theorem sc_F_tell : FnScope N_F_tell [("self" : PySem.Str), ("one" : PySem.Str), ("other" : PySem.Str), ("weight" : PySem.Str)] (defScope sF_tell) := ⟨rfl, rfl, rfl, by decide +kernel, rfl, by decide +kernel, by decide +kernel⟩
def t_F_tell {K : PySem.W.Frag} {mg : PySem.Str → Option Value} (T : Tx K mg) : TS :=
  tSeq (tAsg (tMeth T.C ("told_reason" : PySem.Str) (sp_F_told_reason K T.C) [] E0 (tVar 0) (tCons (tVar 1) (tCons (tVar 2) (tCons (tVar 3) (tNil))))) (gName 4)) (tSeq (tIfS (tTest (tOp (rInU K) (tVar 4) (tFld K (tVar 0) ("reasons" : PySem.Str)))) (tNever) (tNext)) (tSeq (tDrop (tMeth T.C ("keep" : PySem.Str) (sp_F_keep K T.C) [] E0 (tVar 0) tNil)) (sFld K (tVar 0) (tOp (rAddU K) (tFld K (tVar 0) ("reasons" : PySem.Str)) (tTupP (tCons (tVar 4) (tNil)))) ("reasons" : PySem.Str))))
theorem ok_F_tell {P : Program} {w : World} {K : PySem.W.Frag} {mg : PySem.Str → Option Value} {base : Heap} (T : Tx K mg) : FnOk P w K mg base CX0 5 T.F_tell.f T.F_tell.fd [("self" : PySem.Str), ("one" : PySem.Str), ("other" : PySem.Str), ("weight" : PySem.Str)] (sp_F_tell K T.C) :=
  fn_fol T.F_tell.F sc_F_tell (fun _ => rfl) fun cdv A outer s H0 E hr => by
  have hu65 : (A.deeper (envOfC ("Folk.tell" : PySem.Str) (defScope sF_tell) s.heap.objs.size T.F_tell.f cdv)).units + 65 < cLine := by have := hr.un; omega
  refine ⟨t_F_tell T, pss_cons (ps_set (i := 4) sc_F_tell.nd rfl (Or.inl rfl) (pe_meth (pv 0) T.cl T.F_told_reason.m (ok_F_told_reason T) (hr.mono (by decide)) T.F_told_reason.b .nil pass0 (pa_cons (pv 1) (pa_cons (pv 2) (pa_cons (pv 3) (pa_nil)))))) (pss_cons (ps_if (pt_cmpR (opIn hu65) (pv 4) (pe_fld (pv 0) rfl) (by with_unfolding_all rfl)) (pss_one (ps_never)) (pss_nil)) (pss_cons (ps_expr (pe_meth0 (pv 0) T.cl T.F_keep.m (ok_F_keep T) (hr.mono (by decide)) T.F_keep.b .nil pass0)) (pss_one (ps_fld (pv 0) (pe_op opAdd (pe_fld (pv 0) rfl) (pe_tupP (pa_cons (pv 4) (pa_nil)))) rfl)))), ?_⟩
  intro ⟨a, b, w⟩ F p l Z Hi σ H Q ⟨hF, ha, hb, hab, h1, h2, hn⟩ S q
  have hr := ok_reason (k := 100) ha hb hab h1 h2 (by decide)
  replace S : Sit K T.C Z Hi σ H [.fol p l F, .dat (.str a), .dat (.str b), .dat (.int w), .non] := S
  refine q_asg (ev_askF (g := toldG) (a, b, w) rfl (ea_cons (ev_var (i := 1) rfl) (ea_cons (ev_var (i := 2) rfl) (ea_cons (ev_var (i := 3) rfl) ea_nil))) ⟨ha, hb, hab, h1, h2⟩) S (lt_b rfl) fun σ1 Hi1 H1 S1 => ?_
  replace S1 : Sit K T.C Z Hi1 σ1 H1 [.fol p l F, .dat (.str a), .dat (.str b), .dat (.int w), .dat (rsnD (reasonOf a b w 100))] := S1
  refine q_no (EvB.eq (eb_test (ev_inR hr hF.cur.told (ev_var rfl) (ev_fldF rfl .reasons T.cl T.n_reasons))) (decide_eq_false hn)) S1 fun Hi2 H2 S2 => ?_
  refine q_dropM (em_meth () rfl ea_nil hF) S2 fun d ρ' ⟨F1, ⟨hd, hF1⟩, hρ⟩ Hi3 H3 S3 => ?_
  subst hd hF1 hρ
  exact s_fld (d := rsnsD (F.cur.told ++ [reasonOf a b w 100])) (ev_moreT hF.cur.lt (ev_fldF (F := { F with ahead := F.ahead ++ [F.cur] }) rfl .reasons T.cl T.n_reasons) (ev_var rfl)) rfl (FldS.reasons _) T.cl T.n_reasons S3 fun Hi3 H3 S3 => q .non .none _ _ _ _ _ ⟨rfl, rfl⟩ S3 .non
-- slots of F_untell: 0 self, 1 one, 2 other, 3 weight, 4 reason, 5 some
abbrev N_F_untell : List PySem.Str := [("self" : PySem.Str), ("one" : PySem.Str), ("other" : PySem.Str), ("weight" : PySem.Str), ("reason" : PySem.Str), ("some" : PySem.Str)]
theorem sc_F_untell : FnScope N_F_untell [("self" : PySem.Str), ("one" : PySem.Str), ("other" : PySem.Str), ("weight" : PySem.Str)] (defScope sF_untell) := ⟨rfl, rfl, rfl, by decide +kernel, rfl, by decide +kernel, by decide +kernel⟩
def t_F_untell {K : PySem.W.Frag} {mg : PySem.Str → Option Value} (T : Tx K mg) : TS :=
  tSeq (tAsg (tMeth T.C ("told_reason" : PySem.Str) (sp_F_told_reason K T.C) [] E0 (tVar 0) (tCons (tVar 1) (tCons (tVar 2) (tCons (tVar 3) (tNil))))) (gName 4)) (tSeq (tIfS (tTest (tOp (rNotInU K) (tVar 4) (tFld K (tVar 0) ("reasons" : PySem.Str)))) (tNever) (tNext)) (tSeq (tDrop (tMeth T.C ("keep" : PySem.Str) (sp_F_keep K T.C) [] E0 (tVar 0) tNil)) (sFld K (tVar 0) (tCB (rTupP K) (tCons (tLc (iSeq K (tFld K (tVar 0) ("reasons" : PySem.Str))) (gName 5) (tTest (tOp (rNeU K) (tVar 5) (tVar 4))) (tVar 5) [5]) (tNil))) ("reasons" : PySem.Str))))
theorem ok_F_untell {P : Program} {w : World} {K : PySem.W.Frag} {mg : PySem.Str → Option Value} {base : Heap} (T : Tx K mg) : FnOk P w K mg base CX0 5 T.F_untell.f T.F_untell.fd [("self" : PySem.Str), ("one" : PySem.Str), ("other" : PySem.Str), ("weight" : PySem.Str)] (sp_F_untell K T.C) :=
  fn_fol T.F_untell.F sc_F_untell (fun _ => rfl) fun cdv A outer s H0 E hr => by
  have hu65 : (A.deeper (envOfC ("Folk.untell" : PySem.Str) (defScope sF_untell) s.heap.objs.size T.F_untell.f cdv)).units + 65 < cLine := by have := hr.un; omega
  refine ⟨t_F_untell T, pss_cons (ps_set (i := 4) sc_F_untell.nd rfl (Or.inr rfl) (pe_meth (pv 0) T.cl T.F_told_reason.m (ok_F_told_reason T) (hr.mono (by decide)) T.F_told_reason.b .nil pass0 (pa_cons (pv 1) (pa_cons (pv 2) (pa_cons (pv 3) (pa_nil)))))) (pss_cons (ps_if (pt_cmpR (opNotIn hu65) (pv 4) (pe_fld (pv 0) rfl) (by with_unfolding_all rfl)) (pss_one (ps_never)) (pss_nil)) (pss_cons (ps_expr (pe_meth0 (pv 0) T.cl T.F_keep.m (ok_F_keep T) (hr.mono (by decide)) T.F_keep.b .nil pass0)) (pss_one (ps_fld (pv 0) (pe_callTy (cTup) rfl T.b_tuple (by rfl) (pa_cons (pe_lc (own := [(("some" : PySem.Str), 5)]) (g := gName 5) (tt := tTest (tOp (rNeU K) (tVar 5) (tVar 4))) (te := tVar 5) rfl sc_F_untell.nd (pi_seq (pe_fld (pv 0) rfl)) (blkOk_by (N := N_F_untell) (sc := defScope sF_untell) (by decide +kernel)) (fun _ _ _ _ _ => pg_name (i := 5) sc_F_untell.nd rfl (Or.inl rfl)) (fun _ _ _ _ _ => pts_one (pt_cmpR (opNe hr.units) (pv 5) (pv 4) (nomark _))) (fun _ _ _ _ _ => pv 5)) (pa_nil))) rfl)))), ?_⟩
  intro ⟨a, b, w⟩ F p l Z Hi σ H Q ⟨hF, ha, hb, hab, h1, h2, hn⟩ S q
  have hr := ok_reason (k := 100) ha hb hab h1 h2 (by decide)
  replace S : Sit K T.C Z Hi σ H [.fol p l F, .dat (.str a), .dat (.str b), .dat (.int w), .non, .non] := S
  refine q_asg (ev_askF (g := toldG) (a, b, w) rfl (ea_cons (ev_var (i := 1) rfl) (ea_cons (ev_var (i := 2) rfl) (ea_cons (ev_var (i := 3) rfl) ea_nil))) ⟨ha, hb, hab, h1, h2⟩) S (lt_b rfl) fun σ1 Hi1 H1 S1 => ?_
  replace S1 : Sit K T.C Z Hi1 σ1 H1 [.fol p l F, .dat (.str a), .dat (.str b), .dat (.int w), .dat (rsnD (reasonOf a b w 100)), .non] := S1
  refine q_no (EvB.eq (eb_test (ev_notInR hr hF.cur.told (ev_var rfl) (ev_fldF rfl .reasons T.cl T.n_reasons))) (by rw [decide_eq_true hn]; rfl)) S1 fun Hi2 H2 S2 => ?_
  refine q_dropM (em_meth () rfl ea_nil hF) S2 fun d ρ' ⟨F1, ⟨hd, hF1⟩, hρ⟩ Hi3 H3 S3 => ?_
  subst hd hF1 hρ
  exact s_fld (ev_lessR hr hF.cur.told hF.cur.lt (ev_fldF (F := { F with ahead := F.ahead ++ [F.cur] }) rfl .reasons T.cl T.n_reasons) (lt_b rfl) rfl (by decide)) rfl (FldS.reasons _) T.cl T.n_reasons S3 fun Hi3 H3 S3 => q .non .none _ _ _ _ _ ⟨rfl, rfl⟩ S3 .non
-- slots of F_bar: 0 self, 1 one, 2 other, 3 told
abbrev N_F_bar : List PySem.Str := [("self" : PySem.Str), ("one" : PySem.Str), ("other" : PySem.Str), ("told" : PySem.Str)]
theorem sc_F_bar : FnScope N_F_bar [("self" : PySem.Str), ("one" : PySem.Str), ("other" : PySem.Str)] (defScope sF_bar) := ⟨rfl, rfl, rfl, by decide +kernel, rfl, by decide +kernel, by decide +kernel⟩
def t_F_bar {K : PySem.W.Frag} {mg : PySem.Str → Option Value} (T : Tx K mg) : TS :=
  tSeq (tAsg (tOp (rAddU K) (tMeth T.C ("two" : PySem.Str) (sp_F_two K T.C) [] E0 (tVar 0) (tCons (tVar 1) (tCons (tVar 2) (tNil)))) (tTupP (tCons (tC (.int 100)) (tNil)))) (gName 3)) (tSeq (tIfS (tTest (tOp (rInU K) (tVar 3) (tFld K (tVar 0) ("barred" : PySem.Str)))) (tNever) (tNext)) (tSeq (tDrop (tMeth T.C ("keep" : PySem.Str) (sp_F_keep K T.C) [] E0 (tVar 0) tNil)) (sFld K (tVar 0) (tOp (rAddU K) (tFld K (tVar 0) ("barred" : PySem.Str)) (tTupP (tCons (tVar 3) (tNil)))) ("barred" : PySem.Str))))
theorem ok_F_bar {P : Program} {w : World} {K : PySem.W.Frag} {mg : PySem.Str → Option Value} {base : Heap} (T : Tx K mg) : FnOk P w K mg base CX0 3 T.F_bar.f T.F_bar.fd [("self" : PySem.Str), ("one" : PySem.Str), ("other" : PySem.Str)] (sp_F_bar K T.C) :=
  fn_fol T.F_bar.F sc_F_bar (fun _ => rfl) fun cdv A outer s H0 E hr => by
  have hu65 : (A.deeper (envOfC ("Folk.bar" : PySem.Str) (defScope sF_bar) s.heap.objs.size T.F_bar.f cdv)).units + 65 < cLine := by have := hr.un; omega
  refine ⟨t_F_bar T, pss_cons (ps_set (i := 3) sc_F_bar.nd rfl (Or.inl rfl) (pe_op opAdd (pe_meth (pv 0) T.cl T.F_two.m (ok_F_two T) (hr.mono (by decide)) T.F_two.b .nil pass0 (pa_cons (pv 1) (pa_cons (pv 2) (pa_nil)))) (pe_tupP (pa_cons (pe_gc rfl T.c_TOLD) (pa_nil))))) (pss_cons (ps_if (pt_cmpR (opIn hu65) (pv 3) (pe_fld (pv 0) rfl) (by with_unfolding_all rfl)) (pss_one (ps_never)) (pss_nil)) (pss_cons (ps_expr (pe_meth0 (pv 0) T.cl T.F_keep.m (ok_F_keep T) (hr.mono (by decide)) T.F_keep.b .nil pass0)) (pss_one (ps_fld (pv 0) (pe_op opAdd (pe_fld (pv 0) rfl) (pe_tupP (pa_cons (pv 3) (pa_nil)))) rfl)))), ?_⟩
  intro ⟨a, b⟩ F p l Z Hi σ H Q ⟨hF, ha, hb, hab, hn⟩ S q
  have hr := ok_bar ha hb hab
  replace S : Sit K T.C Z Hi σ H [.fol p l F, .dat (.str a), .dat (.str b), .non] := S
  refine q_asg (d := brD (barOf a b)) (EvP.eq (ev_op (ev_askF (g := twoG) (a, b) rfl (ea_cons (ev_var (i := 1) rfl) (ea_cons (ev_var (i := 2) rfl) ea_nil)) ⟨ha, hb, hab⟩) (ev_tupB (ea_cons ev_int ea_nil) rfl) (rd_addT (Nat.le_trans (Nat.le_of_ble_eq_true (rfl : Nat.ble 3 1000 = true)) (by decide)))) rfl) S (lt_b rfl) fun σ1 Hi1 H1 S1 => ?_
  replace S1 : Sit K T.C Z Hi1 σ1 H1 [.fol p l F, .dat (.str a), .dat (.str b), .dat (brD (barOf a b))] := S1
  refine q_no (EvB.eq (eb_test (ev_inB hr hF.cur.bars (ev_var rfl) (ev_fldF rfl .barred T.cl T.n_barred))) (decide_eq_false hn)) S1 fun Hi2 H2 S2 => ?_
  refine q_dropM (em_meth () rfl ea_nil hF) S2 fun d ρ' ⟨F1, ⟨hd, hF1⟩, hρ⟩ Hi3 H3 S3 => ?_
  subst hd hF1 hρ
  exact s_fld (d := brsD (F.cur.bars ++ [barOf a b])) (ev_moreT hF.cur.lb (ev_fldF (F := { F with ahead := F.ahead ++ [F.cur] }) rfl .barred T.cl T.n_barred) (ev_var rfl)) rfl (FldS.barred _) T.cl T.n_barred S3 fun Hi3 H3 S3 => q .non .none _ _ _ _ _ ⟨rfl, rfl⟩ S3 .non
-- slots of F_unbar: 0 self, 1 one, 2 other, 3 told, 4 some
abbrev N_F_unbar : List PySem.Str := [("self" : PySem.Str), ("one" : PySem.Str), ("other" : PySem.Str), ("told" : PySem.Str), ("some" : PySem.Str)]
theorem sc_F_unbar : FnScope N_F_unbar [("self" : PySem.Str), ("one" : PySem.Str), ("other" : PySem.Str)] (defScope sF_unbar) := ⟨rfl, rfl, rfl, by decide +kernel, rfl, by decide +kernel, by decide +kernel⟩
def t_F_unbar {K : PySem.W.Frag} {mg : PySem.Str → Option Value} (T : Tx K mg) : TS :=
  tSeq (tAsg (tOp (rAddU K) (tMeth T.C ("two" : PySem.Str) (sp_F_two K T.C) [] E0 (tVar 0) (tCons (tVar 1) (tCons (tVar 2) (tNil)))) (tTupP (tCons (tC (.int 100)) (tNil)))) (gName 3)) (tSeq (tIfS (tTest (tOp (rNotInU K) (tVar 3) (tFld K (tVar 0) ("barred" : PySem.Str)))) (tNever) (tNext)) (tSeq (tDrop (tMeth T.C ("keep" : PySem.Str) (sp_F_keep K T.C) [] E0 (tVar 0) tNil)) (sFld K (tVar 0) (tCB (rTupP K) (tCons (tLc (iSeq K (tFld K (tVar 0) ("barred" : PySem.Str))) (gName 4) (tTest (tOp (rNeU K) (tVar 4) (tVar 3))) (tVar 4) [4]) (tNil))) ("barred" : PySem.Str))))
theorem ok_F_unbar {P : Program} {w : World} {K : PySem.W.Frag} {mg : PySem.Str → Option Value} {base : Heap} (T : Tx K mg) : FnOk P w K mg base CX0 3 T.F_unbar.f T.F_unbar.fd [("self" : PySem.Str), ("one" : PySem.Str), ("other" : PySem.Str)] (sp_F_unbar K T.C) :=
  fn_fol T.F_unbar.F sc_F_unbar (fun _ => rfl) fun cdv A outer s H0 E hr => by
  have hu65 : (A.deeper (envOfC ("Folk.unbar" : PySem.Str) (defScope sF_unbar) s.heap.objs.size T.F_unbar.f cdv)).units + 65 < cLine := by have := hr.un; omega
  refine ⟨t_F_unbar T, pss_cons (ps_set (i := 3) sc_F_unbar.nd rfl (Or.inr rfl) (pe_op opAdd (pe_meth (pv 0) T.cl T.F_two.m (ok_F_two T) (hr.mono (by decide)) T.F_two.b .nil pass0 (pa_cons (pv 1) (pa_cons (pv 2) (pa_nil)))) (pe_tupP (pa_cons (pe_gc rfl T.c_TOLD) (pa_nil))))) (pss_cons (ps_if (pt_cmpR (opNotIn hu65) (pv 3) (pe_fld (pv 0) rfl) (by with_unfolding_all rfl)) (pss_one (ps_never)) (pss_nil)) (pss_cons (ps_expr (pe_meth0 (pv 0) T.cl T.F_keep.m (ok_F_keep T) (hr.mono (by decide)) T.F_keep.b .nil pass0)) (pss_one (ps_fld (pv 0) (pe_callTy (cTup) rfl T.b_tuple (by rfl) (pa_cons (pe_lc (own := [(("some" : PySem.Str), 4)]) (g := gName 4) (tt := tTest (tOp (rNeU K) (tVar 4) (tVar 3))) (te := tVar 4) rfl sc_F_unbar.nd (pi_seq (pe_fld (pv 0) rfl)) (blkOk_by (N := N_F_unbar) (sc := defScope sF_unbar) (by decide +kernel)) (fun _ _ _ _ _ => pg_name (i := 4) sc_F_unbar.nd rfl (Or.inl rfl)) (fun _ _ _ _ _ => pts_one (pt_cmpR (opNe hr.units) (pv 4) (pv 3) (nomark _))) (fun _ _ _ _ _ => pv 4)) (pa_nil))) rfl)))), ?_⟩
  intro ⟨a, b⟩ F p l Z Hi σ H Q ⟨hF, ha, hb, hab, hn⟩ S q
  have hr := ok_bar ha hb hab
  replace S : Sit K T.C Z Hi σ H [.fol p l F, .dat (.str a), .dat (.str b), .non, .non] := S
  refine q_asg (d := brD (barOf a b)) (EvP.eq (ev_op (ev_askF (g := twoG) (a, b) rfl (ea_cons (ev_var (i := 1) rfl) (ea_cons (ev_var (i := 2) rfl) ea_nil)) ⟨ha, hb, hab⟩) (ev_tupB (ea_cons ev_int ea_nil) rfl) (rd_addT (Nat.le_trans (Nat.le_of_ble_eq_true (rfl : Nat.ble 3 1000 = true)) (by decide)))) rfl) S (lt_b rfl) fun σ1 Hi1 H1 S1 => ?_
  replace S1 : Sit K T.C Z Hi1 σ1 H1 [.fol p l F, .dat (.str a), .dat (.str b), .dat (brD (barOf a b)), .non] := S1
  refine q_no (EvB.eq (eb_test (ev_notInB hr hF.cur.bars (ev_var rfl) (ev_fldF rfl .barred T.cl T.n_barred))) (by rw [decide_eq_true hn]; rfl)) S1 fun Hi2 H2 S2 => ?_
  refine q_dropM (em_meth () rfl ea_nil hF) S2 fun d ρ' ⟨F1, ⟨hd, hF1⟩, hρ⟩ Hi3 H3 S3 => ?_
  subst hd hF1 hρ
  exact s_fld (ev_lessB hr hF.cur.bars hF.cur.lb (ev_fldF (F := { F with ahead := F.ahead ++ [F.cur] }) rfl .barred T.cl T.n_barred) (lt_b rfl) rfl (by decide)) rfl (FldS.barred _) T.cl T.n_barred S3 fun Hi3 H3 S3 => q .non .none _ _ _ _ _ ⟨rfl, rfl⟩ S3 .non
-- slots of F_strike: 0 self, 1 reason
abbrev N_F_strike : List PySem.Str := [("self" : PySem.Str), ("reason" : PySem.Str)]
theorem sc_F_strike : FnScope N_F_strike [("self" : PySem.Str), ("reason" : PySem.Str)] (defScope sF_strike) := ⟨rfl, rfl, rfl, by decide +kernel, rfl, by decide +kernel, by decide +kernel⟩
def t_F_strike {K : PySem.W.Frag} {mg : PySem.Str → Option Value} (T : Tx K mg) : TS :=
  tSeq (tIfS (tOr (tNot (tB (tCall (sp_is_reason K T.C) [] E0 (tCons (tVar 1) (tNil))))) (tTest (tOp (rInU K) (tVar 1) (tFld K (tVar 0) ("struck" : PySem.Str))))) (tNever) (tNext)) (tSeq (tDrop (tMeth T.C ("keep" : PySem.Str) (sp_F_keep K T.C) [] E0 (tVar 0) tNil)) (sFld K (tVar 0) (tOp (rAddU K) (tFld K (tVar 0) ("struck" : PySem.Str)) (tTupP (tCons (tVar 1) (tNil)))) ("struck" : PySem.Str)))
theorem ok_F_strike {P : Program} {w : World} {K : PySem.W.Frag} {mg : PySem.Str → Option Value} {base : Heap} (T : Tx K mg) : FnOk P w K mg base CX0 4 T.F_strike.f T.F_strike.fd [("self" : PySem.Str), ("reason" : PySem.Str)] (sp_F_strike K T.C) :=
  fn_fol T.F_strike.F sc_F_strike (fun _ => rfl) fun cdv A outer s H0 E hr => by
  have hu65 : (A.deeper (envOfC ("Folk.strike" : PySem.Str) (defScope sF_strike) s.heap.objs.size T.F_strike.f cdv)).units + 65 < cLine := by have := hr.un; omega
  refine ⟨t_F_strike T, pss_cons (ps_if (PW.pt (pw_or (pt_not (pt_val (pe_call (ok_is_reason T) (hr.mono (by decide)) rfl T.is_reason.g T.is_reason.F.kp T.is_reason.b .nil pass0 (pa_cons (pv 1) (pa_nil))))) (pw_or1 (pt_cmpR (opIn hu65) (pv 1) (pe_fld (pv 0) rfl) (by with_unfolding_all rfl))))) (pss_one (ps_never)) (pss_nil)) (pss_cons (ps_expr (pe_meth0 (pv 0) T.cl T.F_keep.m (ok_F_keep T) (hr.mono (by decide)) T.F_keep.b .nil pass0)) (pss_one (ps_fld (pv 0) (pe_op opAdd (pe_fld (pv 0) rfl) (pe_tupP (pa_cons (pv 1) (pa_nil)))) rfl))), ?_⟩
  intro r F p l Z Hi σ H Q ⟨hF, hr, hn⟩ S q
  replace S : Sit K T.C Z Hi σ H [.fol p l F, .dat (rsnD r)] := S
  refine q_no (EvB.eq (eb_or (eb_not (eb_B (ev_call (f := fun _ : Rsn => .bool true) r (ea_cons (ev_var rfl) ea_nil) hr))) fun _ => eb_test (ev_inR hr hF.cur.struck (ev_var rfl) (ev_fldF rfl .struck T.cl T.n_struck))) (by rw [decide_eq_false hn]; rfl)) S fun Hi2 H2 S2 => ?_
  refine q_dropM (em_meth () rfl ea_nil hF) S2 fun d ρ' ⟨F1, ⟨hd, hF1⟩, hρ⟩ Hi3 H3 S3 => ?_
  subst hd hF1 hρ
  exact s_fld (d := rsnsD (F.cur.struck ++ [r])) (ev_moreT hF.cur.ls (ev_fldF (F := { F with ahead := F.ahead ++ [F.cur] }) rfl .struck T.cl T.n_struck) (ev_var rfl)) rfl (FldS.struck _) T.cl T.n_struck S3 fun Hi3 H3 S3 => q .non .none _ _ _ _ _ ⟨rfl, rfl⟩ S3 .non
-- slots of F_unstrike: 0 self, 1 reason, 2 some
abbrev N_F_unstrike : List PySem.Str := [("self" : PySem.Str), ("reason" : PySem.Str), ("some" : PySem.Str)]
theorem sc_F_unstrike : FnScope N_F_unstrike [("self" : PySem.Str), ("reason" : PySem.Str)] (defScope sF_unstrike) := ⟨rfl, rfl, rfl, by decide +kernel, rfl, by decide +kernel, by decide +kernel⟩
def t_F_unstrike {K : PySem.W.Frag} {mg : PySem.Str → Option Value} (T : Tx K mg) : TS :=
  tSeq (tIfS (tOr (tNot (tB (tCall (sp_is_reason K T.C) [] E0 (tCons (tVar 1) (tNil))))) (tTest (tOp (rNotInU K) (tVar 1) (tFld K (tVar 0) ("struck" : PySem.Str))))) (tNever) (tNext)) (tSeq (tDrop (tMeth T.C ("keep" : PySem.Str) (sp_F_keep K T.C) [] E0 (tVar 0) tNil)) (sFld K (tVar 0) (tCB (rTupP K) (tCons (tLc (iSeq K (tFld K (tVar 0) ("struck" : PySem.Str))) (gName 2) (tTest (tOp (rNeU K) (tVar 2) (tVar 1))) (tVar 2) [2]) (tNil))) ("struck" : PySem.Str)))
theorem ok_F_unstrike {P : Program} {w : World} {K : PySem.W.Frag} {mg : PySem.Str → Option Value} {base : Heap} (T : Tx K mg) : FnOk P w K mg base CX0 4 T.F_unstrike.f T.F_unstrike.fd [("self" : PySem.Str), ("reason" : PySem.Str)] (sp_F_unstrike K T.C) :=
  fn_fol T.F_unstrike.F sc_F_unstrike (fun _ => rfl) fun cdv A outer s H0 E hr => by
  have hu65 : (A.deeper (envOfC ("Folk.unstrike" : PySem.Str) (defScope sF_unstrike) s.heap.objs.size T.F_unstrike.f cdv)).units + 65 < cLine := by have := hr.un; omega
  refine ⟨t_F_unstrike T, pss_cons (ps_if (PW.pt (pw_or (pt_not (pt_val (pe_call (ok_is_reason T) (hr.mono (by decide)) rfl T.is_reason.g T.is_reason.F.kp T.is_reason.b .nil pass0 (pa_cons (pv 1) (pa_nil))))) (pw_or1 (pt_cmpR (opNotIn hu65) (pv 1) (pe_fld (pv 0) rfl) (by with_unfolding_all rfl))))) (pss_one (ps_never)) (pss_nil)) (pss_cons (ps_expr (pe_meth0 (pv 0) T.cl T.F_keep.m (ok_F_keep T) (hr.mono (by decide)) T.F_keep.b .nil pass0)) (pss_one (ps_fld (pv 0) (pe_callTy (cTup) rfl T.b_tuple (by rfl) (pa_cons (pe_lc (own := [(("some" : PySem.Str), 2)]) (g := gName 2) (tt := tTest (tOp (rNeU K) (tVar 2) (tVar 1))) (te := tVar 2) rfl sc_F_unstrike.nd (pi_seq (pe_fld (pv 0) rfl)) (blkOk_by (N := N_F_unstrike) (sc := defScope sF_unstrike) (by decide +kernel)) (fun _ _ _ _ _ => pg_name (i := 2) sc_F_unstrike.nd rfl (Or.inl rfl)) (fun _ _ _ _ _ => pts_one (pt_cmpR (opNe hr.units) (pv 2) (pv 1) (nomark _))) (fun _ _ _ _ _ => pv 2)) (pa_nil))) rfl))), ?_⟩
  intro r F p l Z Hi σ H Q ⟨hF, hr, hn⟩ S q
  replace S : Sit K T.C Z Hi σ H [.fol p l F, .dat (rsnD r), .non] := S
  refine q_no (EvB.eq (eb_or (eb_not (eb_B (ev_call (f := fun _ : Rsn => .bool true) r (ea_cons (ev_var rfl) ea_nil) hr))) fun _ => eb_test (ev_notInR hr hF.cur.struck (ev_var rfl) (ev_fldF rfl .struck T.cl T.n_struck))) (by rw [decide_eq_true hn]; rfl)) S fun Hi2 H2 S2 => ?_
  refine q_dropM (em_meth () rfl ea_nil hF) S2 fun d ρ' ⟨F1, ⟨hd, hF1⟩, hρ⟩ Hi3 H3 S3 => ?_
  subst hd hF1 hρ
  exact s_fld (ev_lessR hr hF.cur.struck hF.cur.ls (ev_fldF (F := { F with ahead := F.ahead ++ [F.cur] }) rfl .struck T.cl T.n_struck) (lt_b rfl) rfl (by decide)) rfl (FldS.struck _) T.cl T.n_struck S3 fun Hi3 H3 S3 => q .non .none _ _ _ _ _ ⟨rfl, rfl⟩ S3 .non
-- slots of F_undo: 0 self
abbrev N_F_undo : List PySem.Str := [("self" : PySem.Str)]
theorem sc_F_undo : FnScope N_F_undo [("self" : PySem.Str)] (defScope sF_undo) := ⟨rfl, rfl, rfl, by decide +kernel, rfl, by decide +kernel, by decide +kernel⟩
def t_F_undo {K : PySem.W.Frag} {mg : PySem.Str → Option Value} (T : Tx K mg) : TS :=
  tSeq (tIfS (tTest (tOp (rEqU K) (tFld K (tVar 0) ("ahead" : PySem.Str)) (tLst (tNil)))) (tNever) (tNext)) (tAsg (tBM0 K "list" rPop (tFld K (tVar 0) ("ahead" : PySem.Str))) (gTup K 4 (gCons (gFld K (tVar 0) ("standing" : PySem.Str)) (gCons (gFld K (tVar 0) ("reasons" : PySem.Str)) (gCons (gFld K (tVar 0) ("barred" : PySem.Str)) (gCons (gFld K (tVar 0) ("struck" : PySem.Str)) (gNil)))))))
theorem ok_F_undo {P : Program} {w : World} {K : PySem.W.Frag} {mg : PySem.Str → Option Value} {base : Heap} (T : Tx K mg) : FnOk P w K mg base CX0 1 T.F_undo.f T.F_undo.fd [("self" : PySem.Str)] (sp_F_undo K T.C) :=
  fn_fol T.F_undo.F sc_F_undo (fun _ => rfl) fun cdv A outer s H0 E hr => by
  refine ⟨t_F_undo T, pss_cons (ps_if (pt_cmpR (opEq hr.units) (pe_fld (pv 0) rfl) (pe_lst (pa_nil)) (nomark _)) (pss_one (ps_never)) (pss_nil)) (pss_one (ps_asg (pe_bm0 PySem.F.plainAttrs_list PySem.F.slot_list_pop PySem.F.type_list_pop mt_pop (pe_fld (pv 0) rfl)) (pg_tup rfl (pgs_cons (pg_fld (pv 0)) (pgs_cons (pg_fld (pv 0)) (pgs_cons (pg_fld (pv 0)) (pgs_cons (pg_fld (pv 0)) (pgs_nil)))))))), ?_⟩
  intro a F p l Z Hi σ H Q ⟨hF, hne⟩ S q
  replace S : Sit K T.C Z Hi σ H [.fol p l F] := S
  refine q_no (eb_ahead rfl T.cl T.n_ahead hF hne) S fun Hi2 H2 S2 => ?_
  have e : F.ahead = F.ahead.dropLast ++ [F.ahead.getLastD F.cur] := by
    rw [List.getLastD_eq_getLast?, List.getLast?_eq_some_getLast hne]
    exact (List.dropLast_concat_getLast hne).symm
  exact s_back rfl e T.cl T.n_ahead T.n_standing T.n_reasons T.n_barred T.n_struck S2 fun Hi3 H3 S3 => q .non .none _ _ _ _ _ ⟨rfl, rfl⟩ S3 .non
-- slots of F_book: 0 self
abbrev N_F_book : List PySem.Str := [("self" : PySem.Str)]
theorem sc_F_book : FnScope N_F_book [("self" : PySem.Str)] (defScope sF_book) := ⟨rfl, rfl, rfl, by decide +kernel, rfl, by decide +kernel, by decide +kernel⟩
def t_F_book {K : PySem.W.Frag} {mg : PySem.Str → Option Value} (T : Tx K mg) : TS :=
  tRet (tFld K (tVar 0) ("standing" : PySem.Str))
theorem ok_F_book {P : Program} {w : World} {K : PySem.W.Frag} {mg : PySem.Str → Option Value} {base : Heap} (T : Tx K mg) : FnOk P w K mg base CX0 1 T.F_book.f T.F_book.fd [("self" : PySem.Str)] (sp_F_book K T.C) :=
  fn_ask T.F_book.F sc_F_book (fun _ => rfl) fl_F_book fun cdv A outer s H0 E hr => by
  refine ⟨t_F_book T, pss_one (ps_ret (pe_fld (pv 0) rfl)), ?_⟩
  intro a F Z Hi σ H Q hp hM S q
  replace S : Sit K T.C Z Hi σ H [.fro F] := S
  exact s_ret (ev_fldR rfl .standing T.cl T.n_standing) S fun v Hi2 H2 S2 hv => q v _ _ _ _ S2 hv
end FK

set_option Elab.async false
set_option linter.all false
set_option maxRecDepth 100000
set_option maxHeartbeats 4000000
namespace FK
open PySem PySem.Spec PyProof.Rows L2 FR
local macro_rules | `(tactic| walk_at "rd") => `(tactic| first
  | with_reducible exact rd_addI | with_reducible exact rd_subI | with_reducible exact rd_leI | with_reducible exact rd_ltI | with_reducible exact rd_geI | with_reducible exact rd_gtI | with_reducible exact rd_ltS | with_reducible exact rd_eqI | with_reducible exact rd_neI | with_reducible exact rd_eqS | with_reducible exact rd_neS
  | with_reducible exact rd_isNN | with_reducible exact rd_isNS | with_reducible exact rd_notNN | with_reducible exact rd_notNS | with_reducible exact rd_inS
  | ((with_reducible apply rd_ixT); rfl) | ((with_reducible apply rd_ixL); rfl)
  | ((with_reducible apply rd_modI); first | decide | assumption)
  | ((with_reducible apply rd_mulI); assumption) | ((with_reducible apply rd_powI); assumption) | ((with_reducible apply rd_divI); assumption) | ((with_reducible apply rd_addS); assumption) | ((with_reducible apply rd_mulS); assumption) | ((with_reducible apply rd_ixL); assumption) | ((with_reducible apply rd_ixT); assumption)
  | with_reducible assumption)
local macro_rules | `(tactic| walk_at "rc") => `(tactic| first
  | with_reducible exact rc_lenL | with_reducible exact rc_lenT | with_reducible exact rc_lenScr | with_reducible exact rc_minI | with_reducible exact rc_maxI | with_reducible exact rc_minS | with_reducible exact rc_maxS | with_reducible exact rc_tup | with_reducible exact rc_listT | with_reducible exact rc_intB | with_reducible exact rc_abs
  | ((with_reducible apply rc_lenS); assumption) | with_reducible exact rc_any | with_reducible exact rc_all | with_reducible assumption)
local macro_rules | `(tactic| walk_at "ev") => `(tactic| first
  | ((with_reducible apply ev_var); rfl) | with_reducible exact ev_int | with_reducible exact ev_str | with_reducible exact ev_bl | with_reducible exact ev_non | with_reducible exact ea_nil
  | with_reducible assumption
  | ((with_reducible apply ev_op); walk_at "ev"; walk_at "ev"; walk_at "rd")
  | ((with_reducible apply ea_cons); walk_at "ev"; walk_at "ev")
  | ((with_reducible apply ev_cb); walk_at "ev"; walk_at "rc")
  | ((with_reducible apply ev_tupB); walk_at "ev"; rfl) | ((with_reducible apply ev_lstB); walk_at "ev"; rfl)
  | ((with_reducible apply ev_andV); walk_at "ev"; (intro _; walk_at "ev")) | ((with_reducible apply ev_orV); walk_at "ev"; (intro _; walk_at "ev")) | ((with_reducible apply ev_notV); walk_at "ev")
  | ((with_reducible apply ev_chain); walk_at "ev"; walk_at "ev"; walk_at "ev"; walk_at "rd"; (intro _; walk_at "rd"))
  | ((with_reducible apply eb_and); walk_at "ev"; (intro _; walk_at "ev")) | ((with_reducible apply eb_or); walk_at "ev"; (intro _; walk_at "ev")) | ((with_reducible apply eb_not); walk_at "ev") | ((with_reducible apply eb_test); walk_at "ev") | ((with_reducible apply eb_B); walk_at "ev")
  | ((with_reducible apply ev_isi (b := true)); walk_at "ev"; (intro _ z; cases z); rfl) | ((with_reducible apply ev_isi (b := false)); walk_at "ev"; (intro _ z; cases z); rfl))


-- slots of law_cell: 0 _law_script, 1 _law_k, 2 _law_state, 3 _law_cell_here
abbrev N_law_cell : List PySem.Str := [("_law_script" : PySem.Str), ("_law_k" : PySem.Str), ("_law_state" : PySem.Str), ("_law_cell_here" : PySem.Str)]
theorem sc_law_cell : FnScope N_law_cell [("_law_script" : PySem.Str), ("_law_k" : PySem.Str)] (defScope s_law_cell) := ⟨rfl, rfl, rfl, by decide +kernel, rfl, by decide +kernel, by decide +kernel⟩
def t_law_cell {K : PySem.W.Frag} {mg : PySem.Str → Option Value} (T : Tx K mg) : TS :=
  tSeq (tIfS (tTest (tOp (rLtU) (tVar 1) (tCB (rLenU K) (tCons (tVar 0) (tNil))))) (tRet (tOp (rIx K) (tVar 0) (tVar 1))) (tNext)) (tSeq (tAsg (tOp (rModU) (tOp (rMulU) (tC (.int 48271)) (tOp (rAddU K) (tOp (rAddU K) (tOp (rMulU) (tVar 1) (tVar 1)) (tOp (rMulU) (tC (.int 7)) (tVar 1))) (tC (.int 11)))) (tC (.int 2147483647))) (gName 2)) (tSeq (tFor (iSeq K (tSl (rSlU K) (tVar 0) (tNoPart) (tPart (tC (.int 3))))) (gName 3) (tAsg (tOp (rModU) (tOp (rAddU K) (tOp (rMulU) (tVar 2) (tC (.int 69621))) (tVar 3)) (tC (.int 2147483647))) (gName 2))) (tRet (tVar 2))))
theorem ok_law_cell {P : Program} {w : World} {K : PySem.W.Frag} {mg : PySem.Str → Option Value} {base : Heap} (T : Tx K mg) : FnOk P w K mg base CX0 1 T.law_cell.f T.law_cell.fd [("_law_script" : PySem.Str), ("_law_k" : PySem.Str)] (sp_law_cell K T.C) :=
  fn_pure T.law_cell.F sc_law_cell (fun _ => rfl) fun cdv A outer s H0 E hr => by
  refine ⟨t_law_cell T, pss_cons (ps_if (pt_cmpR (opLt) (pv 1) (pe_callB (cLen) rfl T.b_len (by decide +kernel) (pa_cons (pv 0) (pa_nil))) (nomark _)) (pss_one (ps_ret (pe_ix ix_seq (pv 0) (pv 1) (fun _ _ => rfl)))) (pss_nil)) (pss_cons (ps_set (i := 2) sc_law_cell.nd rfl (Or.inl rfl) (pe_op opMod (pe_op opMul (pe_int) (pe_op opAdd (pe_op opAdd (pe_op opMul (pv 1) (pv 1)) (pe_op opMul (pe_int) (pv 1))) (pe_int))) (pe_int))) (pss_cons (ps_for PassesOwn.never rfl (pi_seq (pe_slice slU (pv 0) (po_none) (po_some (pe_int)))) (pg_name (i := 3) sc_law_cell.nd rfl (Or.inl rfl)) (pss_one (ps_set (i := 2) sc_law_cell.nd rfl (Or.inl rfl) (pe_op opMod (pe_op opAdd (pe_op opMul (pv 2) (pe_int)) (pv 3)) (pe_int))))) (pss_one (ps_ret (pv 2))))), ?_⟩
  intro ⟨ns, k⟩ Z Hi σ H Q ⟨h1, h2⟩ hM S q
  replace S : Sit K T.C Z Hi σ H [.dat (.scr ns), .dat (.int (k : Nat)), .non, .non] := S
  refine q_when (EvB.eq (b' := decide (k < ns.length)) (by walk_at "ev") ?_) S (fun e Hi1 H1 S1 => ?_) (fun e Hi1 H1 S1 => ?_)
  · by_cases hk : k < ns.length
    · rw [decide_eq_true hk]
      exact decide_eq_true (by omega)
    · rw [decide_eq_false hk]
      exact decide_eq_false (by omega)
  · have hk := of_decide_eq_true e
    exact s_ret (ev_op (ev_var rfl) (ev_var rfl) (rd_ixScr (i := (k : Nat)) (n := ns[k]) (by rw [atI_nat]; exact List.getElem?_eq_getElem hk))) S1 fun v Hi2 H2 S2 hv => q v _ _ _ _ _ ⟨_, rfl⟩ S2 hv
  · have c1 : CMul (k : Int) (k : Int) := .inl ⟨by omega, by omega⟩
    have c2 : CMul 7 (k : Int) := .inl ⟨by omega, by omega⟩
    have c3 : CMul 48271 ((k : Int) * (k : Int) + 7 * (k : Int) + 11) := .inl ⟨by omega, by omega⟩
    refine q_asg (by walk_at "ev") S1 (lt_b rfl) fun σ2 Hi2 H2 S2 => ?_
    refine q_for (α := Int) (xs := cutG ns none (some 3)) (emb := D.int) (ei_seq (ev_sl (ev_var rfl) eo_none (eo_some ev_int) rs_scr) (.inl rfl)) S2 (fun i ρ => ∃ z s, ρ = [.dat (.scr ns), .dat (.int (k : Nat)), .dat (.int z), s]) (fun Z' σ' Hi' H' S' => ⟨_, _, ⟨_, _, rfl⟩, S'⟩) (fun x => [(3, .int x)]) (fun x _ => gt_name) (fun i ρ' ⟨z, s, e⟩ x _ q hq => by rw [e]; rw [List.mem_singleton] at hq; rw [hq]; exact lt_b rfl) (fun Z' up i x ρ' hx ⟨z, s, e⟩ Hi1 σ1 H1 S1 => ?_) (fun ρ' ⟨z, s, e⟩ Hi1 σ1 H1 S1 => ?_)
    · subst e
      replace S1 : Sit K T.C Z' Hi1 σ1 H1 [.dat (.scr ns), .dat (.int (k : Nat)), .dat (.int z), .dat (.int x)] := S1
      have c4 : CMul z 69621 := .inr ⟨by omega, by omega⟩
      exact s_asg (by walk_at "ev") S1 (lt_b rfl) fun σ2 Hi2 H2 S2 => ⟨_, _, ⟨_, _, rfl⟩, S2⟩
    · subst e
      exact s_ret (ev_var rfl) S1 fun v Hi2 H2 S2 hv => q v _ _ _ _ _ ⟨_, rfl⟩ S2 hv
-- slots of law_numbers: 0 _law_cell_here, 1 _law_many, 2 _law_found, 3 _law_state, 4 _law_digits, 5 _law_k
abbrev N_law_numbers : List PySem.Str := [("_law_cell_here" : PySem.Str), ("_law_many" : PySem.Str), ("_law_found" : PySem.Str), ("_law_state" : PySem.Str), ("_law_digits" : PySem.Str), ("_law_k" : PySem.Str)]
theorem sc_law_numbers : FnScope N_law_numbers [("_law_cell_here" : PySem.Str), ("_law_many" : PySem.Str)] (defScope s_law_numbers) := ⟨rfl, rfl, rfl, by decide +kernel, rfl, by decide +kernel, by decide +kernel⟩
def t_law_numbers {K : PySem.W.Frag} {mg : PySem.Str → Option Value} (T : Tx K mg) : TS :=
  tSeq (tAsg (tLst (tNil)) (gName 2)) (tSeq (tAsg (tOp (rModU) (tOp (rMulU) (tOp (rAddU K) (tOp (rModU) (tVar 0) (tC (.int 1999999973))) (tC (.int 31))) (tC (.int 765432101))) (tC (.int 1999999973))) (gName 3)) (tSeq (tAsg (tC (.int 0)) (gName 4)) (tSeq (tIfS (tOr (tTest (tOp (rLtU) (tVar 0) (tC (.int 0)))) (tTest (tOp (rGeU) (tVar 0) (tOp (rPowU) (tC (.int 10)) (tC (.int 18)))))) (tAsg (tCB (rAbsU) (tCons (tVar 0) (tNil))) (gName 4)) (tNext)) (tSeq (tFor (iRng1 (tCons (tVar 1) (tNil))) (gName 5) (tSeq (tAsg (tOp (rModU) (tOp (rAddU K) (tOp (rAddU K) (tOp (rMulU) (tVar 3) (tOp (rAddU K) (tOp (rModU) (tVar 3) (tC (.int 65521))) (tC (.int 40487)))) (tOp (rMulU) (tC (.int 7)) (tVar 5))) (tC (.int 5))) (tC (.int 1999999973))) (gName 3)) (tSeq (tDrop (tBM K "list" rAppend (tVar 2) (tCons (tOp (rIx K) (tLst (tCons (tVar 3) (tCons (tOp (rModU) (tVar 4) (tC (.int 1000000))) (tNil)))) (tCB (rIntU) (tCons (tOp (rGtU) (tVar 4) (tC (.int 0))) (tNil)))) (tNil)))) (tAsg (tOp (rDivU) (tVar 4) (tC (.int 1000000))) (gName 4))))) (tRet (tVar 2))))))
theorem ok_law_numbers {P : Program} {w : World} {K : PySem.W.Frag} {mg : PySem.Str → Option Value} {base : Heap} (T : Tx K mg) : FnOk P w K mg base CX0 1 T.law_numbers.f T.law_numbers.fd [("_law_cell_here" : PySem.Str), ("_law_many" : PySem.Str)] (sp_law_numbers K T.C) :=
  fn_pure T.law_numbers.F sc_law_numbers (fun _ => rfl) fun cdv A outer s H0 E hr => by
  refine ⟨t_law_numbers T, pss_cons (ps_set (i := 2) sc_law_numbers.nd rfl (Or.inl rfl) (pe_lst (pa_nil))) (pss_cons (ps_set (i := 3) sc_law_numbers.nd rfl (Or.inl rfl) (pe_op opMod (pe_op opMul (pe_op opAdd (pe_op opMod (pv 0) (pe_int)) (pe_int)) (pe_int)) (pe_int))) (pss_cons (ps_set (i := 4) sc_law_numbers.nd rfl (Or.inl rfl) (pe_int)) (pss_cons (ps_if (PW.pt (pw_or (pt_cmpR (opLt) (pv 0) (pe_int) (nomark _)) (pw_or1 (pt_cmpR (opGe) (pv 0) (pe_op opPow (pe_int) (pe_int)) (nomark _))))) (pss_one (ps_set (i := 4) sc_law_numbers.nd rfl (Or.inl rfl) (pe_callB (cAbs) rfl T.b_abs (by decide +kernel) (pa_cons (pv 0) (pa_nil))))) (pss_nil)) (pss_cons (ps_for PassesOwn.never rfl (pi_range1 rfl T.b_range (pa_cons (pv 1) (pa_nil))) (pg_name (i := 5) sc_law_numbers.nd rfl (Or.inl rfl)) (pss_cons (ps_set (i := 3) sc_law_numbers.nd rfl (Or.inl rfl) (pe_op opMod (pe_op opAdd (pe_op opAdd (pe_op opMul (pv 3) (pe_op opAdd (pe_op opMod (pv 3) (pe_int)) (pe_int))) (pe_op opMul (pe_int) (pv 5))) (pe_int)) (pe_int))) (pss_cons (ps_expr (pe_bm PySem.F.plainAttrs_list PySem.F.slot_list_append PySem.F.type_list_append mt_append (pv 2) (pa_cons (pe_ix ix_seq (pe_lst (pa_cons (pv 3) (pa_cons (pe_op opMod (pv 4) (pe_int)) (pa_nil)))) (pe_callTy (cInt) rfl T.b_int (by rfl) (pa_cons (pe_cmpR (opGt) (pv 4) (pe_int) (nomark _)) (pa_nil))) (fun _ _ => rfl)) (pa_nil)))) (pss_one (ps_set (i := 4) sc_law_numbers.nd rfl (Or.inl rfl) (pe_op opDiv (pv 4) (pe_int))))))) (pss_one (ps_ret (pv 2))))))), ?_⟩
  intro ⟨n, k⟩ Z Hi σ H Q hk hM S q
  replace S : Sit K T.C Z Hi σ H [.dat (.int n), .dat (.int (k : Nat)), .non, .non, .non, .non] := S
  refine q_new S (lt_b rfl) fun σ1 Hi1 H1 S1 => ?_
  have c1 : CMul (n % 1999999973 + 31) 765432101 := .inr ⟨by omega, by omega⟩
  refine q_asg (by walk_at "ev") S1 (lt_b rfl) fun σ2 Hi2 H2 S2 => ?_
  refine q_asg ev_int S2 (lt_b rfl) fun σ3 Hi3 H3 S3 => ?_
  replace S3 : Sit K T.C Z Hi3 σ3 H3 [.dat (.int n), .dat (.int (k : Nat)), .own [], .dat (.int ((n % 1999999973 + 31) * 765432101 % 1999999973)), .dat (.int 0), .non] := S3
  have key : ∀ (st dg : Int) (Hi4 : Hp) (σ4 : L2.St) (H4 : Hp), 0 ≤ st → st < 1999999973 → 0 ≤ dg → Sit K T.C Z Hi4 σ4 H4 [.dat (.int n), .dat (.int (k : Nat)), .own [], .dat (.int st), .dat (.int dg), .non] → tSeq (tFor (iRng1 (tCons (tVar 1) (tNil))) (gName 5) (tSeq (tAsg (tOp (rModU) (tOp (rAddU K) (tOp (rAddU K) (tOp (rMulU) (tVar 3) (tOp (rAddU K) (tOp (rModU) (tVar 3) (tC (.int 65521))) (tC (.int 40487)))) (tOp (rMulU) (tC (.int 7)) (tVar 5))) (tC (.int 5))) (tC (.int 1999999973))) (gName 3)) (tSeq (tDrop (tBM K "list" rAppend (tVar 2) (tCons (tOp (rIx K) (tLst (tCons (tVar 3) (tCons (tOp (rModU) (tVar 4) (tC (.int 1000000))) (tNil)))) (tCB (rIntU) (tCons (tOp (rGtU) (tVar 4) (tC (.int 0))) (tNil)))) (tNil)))) (tAsg (tOp (rDivU) (tVar 4) (tC (.int 1000000))) (gName 4))))) (tRet (tVar 2)) { nx := fun _ H' => Q .non H', rt := Q } σ4 H4 := by
    intro st dg Hi4 σ4 H4 b1 b2 b3 S4
    refine q_for (α := Nat) (xs := List.range (Int.toNat (k : Nat))) (ei_range1 (by walk_at "ev") (by omega) (by omega)) S4 (fun i ρ => ∃ (xs : List Int) (st dg : Int) (s : Sl), ρ = [.dat (.int n), .dat (.int (k : Nat)), .own (xs.map D.int), .dat (.int st), .dat (.int dg), s] ∧ xs.length = i ∧ OkX xs ∧ 0 ≤ st ∧ st < 1999999973 ∧ 0 ≤ dg)
      (fun Z' σ' Hi' H' S' => ⟨_, _, ⟨[], st, dg, _, rfl, rfl, (fun x hx => by cases hx), b1, b2, b3⟩, S'⟩) (fun x => [(5, .int (x : Nat))]) (fun x _ => gt_name) (fun i ρ' ⟨xs, st, dg, s, e, _⟩ x _ q hq => by rw [e]; rw [List.mem_singleton] at hq; rw [hq]; exact lt_b rfl) (fun Z' up i x ρ' hx ⟨xs, st, dg, s, e, hl, hX, d1, d2, d3⟩ Hi5 σ5 H5 S5 => ?_) (fun ρ' ⟨xs, st, dg, s, e, hl, hX, d1, d2, d3⟩ Hi5 σ5 H5 S5 => ?_)
    · subst e
      have hxk : x < k := by
        have hm := List.mem_of_getElem? hx
        rw [List.mem_range] at hm
        simpa using hm
      have hik : i < k := by
        have hm := (List.getElem?_eq_some_iff.mp hx).1
        rw [List.length_range] at hm
        simpa using hm
      replace S5 : Sit K T.C Z' Hi5 σ5 H5 [.dat (.int n), .dat (.int (k : Nat)), .own (xs.map D.int), .dat (.int st), .dat (.int dg), .dat (.int (x : Nat))] := S5
      have c2 : CMul st (st % 65521 + 40487) := .inl ⟨by omega, by omega⟩
      have c3 : CMul 7 (x : Int) := .inl ⟨by omega, by omega⟩
      have hk' : k ≤ 100 := hk
      refine q_asg (by walk_at "ev") S5 (lt_b rfl) fun σ6 Hi6 H6 S6 => ?_
      have m1 : 0 ≤ (st * (st % 65521 + 40487) + 7 * (x : Int) + 5) % 1999999973 := Int.emod_nonneg _ (by decide)
      have m2 : (st * (st % 65521 + 40487) + 7 * (x : Int) + 5) % 1999999973 < 1999999973 := Int.emod_lt_of_pos _ (by decide)
      generalize (st * (st % 65521 + 40487) + 7 * (x : Int) + 5) % 1999999973 = w at S6 m1 m2
      replace S6 : Sit K T.C Z' Hi6 σ6 H6 [.dat (.int n), .dat (.int (k : Nat)), .own (xs.map D.int), .dat (.int w), .dat (.int dg), .dat (.int (x : Nat))] := S6
      have hz : (xs.map D.int).length < 100000 := by rw [List.length_map]; omega
      have he : EvP K T.C (tOp (rIx K) (tLst (tCons (tVar 3) (tCons (tOp (rModU) (tVar 4) (tC (.int 1000000))) (tNil)))) (tCB (rIntU) (tCons (tOp (rGtU) (tVar 4) (tC (.int 0))) (tNil)))) [.dat (.int n), .dat (.int (k : Nat)), .own (xs.map D.int), .dat (.int w), .dat (.int dg), .dat (.int (x : Nat))] (.int (if 0 < dg then dg % 1000000 else w)) := by
        refine ev_op (by walk_at "ev") (by walk_at "ev") (rd_ixL ?_)
        by_cases hd : 0 < dg
        · rw [decide_eq_true hd, if_pos hd]
          rfl
        · rw [decide_eq_false hd, if_neg hd]
          rfl
      refine q_app rfl he hz S6 fun Hi7 H7 S7 => ?_
      have c4 : CDivW dg 1000000 := ⟨by decide, by decide⟩
      refine s_asg (by walk_at "ev") S7 (lt_b rfl) fun σ8 Hi8 H8 S8 => ⟨_, _, ⟨xs ++ [if 0 < dg then dg % 1000000 else w], w, dg / 1000000, .dat (.int (x : Nat)), ?_, ?_, ?_, m1, m2, ?_⟩, S8⟩
      · rw [List.map_append]
        rfl
      · rw [List.length_append, hl]
        rfl
      · intro y hy
        rcases List.mem_append.mp hy with hy | hy
        · exact hX y hy
        · rw [List.mem_singleton] at hy
          rw [hy]
          by_cases hd : 0 < dg
          · rw [if_pos hd]
            omega
          · rw [if_neg hd]
            omega
      · omega
    · subst e
      rw [List.length_range] at hl
      refine s_retO rfl hM S5 fun v Hi6 ρ' S6 hv => q v _ _ _ _ _ ⟨xs, rfl, ?_, hX⟩ S6 hv
      rw [hl]
      rfl
  have c5 : CPow 10 18 := ⟨by decide, by decide, by decide⟩
  refine q_when (b := decide (n < 0) || decide ((10 ^ (18 : Int).toNat : Int) ≤ n)) (by walk_at "ev") S3 (fun e Hi4 H4 S4 => ?_) (fun e Hi4 H4 S4 => key _ _ _ _ _ (Int.emod_nonneg _ (by decide)) (Int.emod_lt_of_pos _ (by decide)) (by decide) S4)
  refine s_asg (by walk_at "ev") S4 (lt_b rfl) fun σ5 Hi5 H5 S5 => key _ _ _ _ _ (Int.emod_nonneg _ (by decide)) (Int.emod_lt_of_pos _ (by decide)) ?_ S5
  by_cases hn : n < 0
  · rw [if_pos hn]
    omega
  · rw [if_neg hn]
    omega
end FK

set_option Elab.async false
set_option linter.all false
set_option maxRecDepth 100000
set_option maxHeartbeats 4000000
namespace FK
open PySem PySem.Spec PyProof.Rows L2 FR
local macro_rules | `(tactic| walk_at "rd") => `(tactic| first
  | with_reducible exact rd_addI | with_reducible exact rd_subI | with_reducible exact rd_leI | with_reducible exact rd_ltI | with_reducible exact rd_geI | with_reducible exact rd_gtI | with_reducible exact rd_ltS | with_reducible exact rd_eqI | with_reducible exact rd_neI | with_reducible exact rd_eqS | with_reducible exact rd_neS
  | with_reducible exact rd_isNN | with_reducible exact rd_isNS | with_reducible exact rd_notNN | with_reducible exact rd_notNS | with_reducible exact rd_inS
  | ((with_reducible apply rd_ixT); rfl) | ((with_reducible apply rd_ixL); rfl)
  | ((with_reducible apply rd_modI); first | decide | assumption)
  | ((with_reducible apply rd_mulI); assumption) | ((with_reducible apply rd_powI); assumption) | ((with_reducible apply rd_divI); assumption) | ((with_reducible apply rd_addS); assumption) | ((with_reducible apply rd_mulS); assumption) | ((with_reducible apply rd_ixL); assumption) | ((with_reducible apply rd_ixT); assumption)
  | with_reducible assumption)
local macro_rules | `(tactic| walk_at "rc") => `(tactic| first
  | with_reducible exact rc_lenL | with_reducible exact rc_lenT | with_reducible exact rc_lenScr | with_reducible exact rc_minI | with_reducible exact rc_maxI | with_reducible exact rc_minS | with_reducible exact rc_maxS | with_reducible exact rc_tup | with_reducible exact rc_listT | with_reducible exact rc_intB | with_reducible exact rc_abs
  | ((with_reducible apply rc_lenS); assumption) | with_reducible exact rc_any | with_reducible exact rc_all | with_reducible assumption)
local macro_rules | `(tactic| walk_at "ev") => `(tactic| first
  | ((with_reducible apply ev_var); rfl) | with_reducible exact ev_int | with_reducible exact ev_str | with_reducible exact ev_bl | with_reducible exact ev_non | with_reducible exact ea_nil
  | with_reducible assumption
  | ((with_reducible apply ev_op); walk_at "ev"; walk_at "ev"; walk_at "rd")
  | ((with_reducible apply ea_cons); walk_at "ev"; walk_at "ev")
  | ((with_reducible apply ev_cb); walk_at "ev"; walk_at "rc")
  | ((with_reducible apply ev_tupB); walk_at "ev"; rfl) | ((with_reducible apply ev_lstB); walk_at "ev"; rfl)
  | ((with_reducible apply ev_andV); walk_at "ev"; (intro _; walk_at "ev")) | ((with_reducible apply ev_orV); walk_at "ev"; (intro _; walk_at "ev")) | ((with_reducible apply ev_notV); walk_at "ev")
  | ((with_reducible apply ev_chain); walk_at "ev"; walk_at "ev"; walk_at "ev"; walk_at "rd"; (intro _; walk_at "rd"))
  | ((with_reducible apply eb_and); walk_at "ev"; (intro _; walk_at "ev")) | ((with_reducible apply eb_or); walk_at "ev"; (intro _; walk_at "ev")) | ((with_reducible apply eb_not); walk_at "ev") | ((with_reducible apply eb_test); walk_at "ev") | ((with_reducible apply eb_B); walk_at "ev")
  | ((with_reducible apply ev_isi (b := true)); walk_at "ev"; (intro _ z; cases z); rfl) | ((with_reducible apply ev_isi (b := false)); walk_at "ev"; (intro _ z; cases z); rfl))


-- slots of law_names: 0 _law_xs, 1 _law_many, 2 _law_letters, 3 _law_stem, 4 _law_at, 5 _law_found, 6 _law_k, 7 _law_mark, 8 _law_name
abbrev N_law_names : List PySem.Str := [("_law_xs" : PySem.Str), ("_law_many" : PySem.Str), ("_law_letters" : PySem.Str), ("_law_stem" : PySem.Str), ("_law_at" : PySem.Str), ("_law_found" : PySem.Str), ("_law_k" : PySem.Str), ("_law_mark" : PySem.Str), ("_law_name" : PySem.Str)]
theorem sc_law_names : FnScope N_law_names [("_law_xs" : PySem.Str), ("_law_many" : PySem.Str)] (defScope s_law_names) := ⟨rfl, rfl, rfl, by decide +kernel, rfl, by decide +kernel, by decide +kernel⟩
def t_law_names {K : PySem.W.Frag} {mg : PySem.Str → Option Value} (T : Tx K mg) : TS :=
  tSeq (tAsg (tC (.str ("abcdefghijklmnopqrstuvwxyz" : PySem.Str))) (gName 2)) (tSeq (tAsg (tM1 (rJoinU K) (tC (.str ("" : PySem.Str))) (tLc (iRng1 (tCons (tOp (rModU) (tOp (rIx K) (tVar 0) (tC (.int 0))) (tC (.int 6))) (tNil))) (gName 6) (tYes) (tOp (rIx K) (tVar 2) (tOp (rModU) (tOp (rDivU) (tOp (rIx K) (tVar 0) (tVar 6)) (tC (.int 40))) (tC (.int 26)))) [6])) (gName 3)) (tSeq (tAsg (tOp (rModU) (tOp (rIx K) (tVar 0) (tC (.int 1))) (tOp (rAddU K) (tCB (rLenU K) (tCons (tVar 3) (tNil))) (tC (.int 1)))) (gName 4)) (tSeq (tAsg (tLst (tNil)) (gName 5)) (tSeq (tFor (iRng1 (tCons (tVar 1) (tNil))) (gName 6) (tSeq (tAsg (tOp (rIx K) (tVar 2) (tOp (rModU) (tOp (rAddU K) (tVar 6) (tOp (rIx K) (tVar 0) (tC (.int 2)))) (tC (.int 15)))) (gName 7)) (tSeq (tAsg (tOp (rAddU K) (tOp (rAddU K) (tSl (rSlU K) (tVar 3) (tNoPart) (tPart (tVar 4))) (tVar 7)) (tSl (rSlU K) (tVar 3) (tPart (tVar 4)) (tNoPart))) (gName 8)) (tSeq (tIfS (tTest (tOp (rEqU K) (tOp (rModU) (tOp (rIx K) (tVar 0) (tC (.int 3))) (tC (.int 3))) (tC (.int 1)))) (tAsg (tOp (rMulU) (tOp (rIx K) (tVar 2) (tOp (rDivU) (tVar 6) (tC (.int 8)))) (tOp (rAddU K) (tC (.int 1)) (tOp (rModU) (tVar 6) (tC (.int 8))))) (gName 8)) (tNext)) (tDrop (tBM K "list" rAppend (tVar 5) (tCons (tVar 8) (tNil)))))))) (tRet (tVar 5))))))
theorem ok_law_names {P : Program} {w : World} {K : PySem.W.Frag} {mg : PySem.Str → Option Value} {base : Heap} (T : Tx K mg) : FnOk P w K mg base CX0 1 T.law_names.f T.law_names.fd [("_law_xs" : PySem.Str), ("_law_many" : PySem.Str)] (sp_law_names K T.C) :=
  fn_pure T.law_names.F sc_law_names (fun _ => rfl) fun cdv A outer s H0 E hr => by
  refine ⟨t_law_names T, pss_cons (ps_set (i := 2) sc_law_names.nd rfl (Or.inr rfl) (pe_str)) (pss_cons (ps_set (i := 3) sc_law_names.nd rfl (Or.inl rfl) (pe_join (pe_str) (pe_lc (own := [(("_law_k" : PySem.Str), 6)]) (g := gName 6) (tt := tYes) (te := tOp (rIx K) (tVar 2) (tOp (rModU) (tOp (rDivU) (tOp (rIx K) (tVar 0) (tVar 6)) (tC (.int 40))) (tC (.int 26)))) rfl sc_law_names.nd (pi_range1 rfl T.b_range (pa_cons (pe_op opMod (pe_ix ix_seq (pv 0) (pe_int) (fun _ _ => rfl)) (pe_int)) (pa_nil))) (blkOk_by (N := N_law_names) (sc := defScope s_law_names) (by decide +kernel)) (fun _ _ _ _ _ => pg_name (i := 6) sc_law_names.nd rfl (Or.inl rfl)) (fun _ _ _ _ _ => pts_nil) (fun _ _ _ _ _ => pe_ix ix_seq (pv 2) (pe_op opMod (pe_op opDiv (pe_ix ix_seq (pv 0) (pv 6) (fun _ _ => rfl)) (pe_int)) (pe_int)) (fun _ _ => rfl))))) (pss_cons (ps_set (i := 4) sc_law_names.nd rfl (Or.inl rfl) (pe_op opMod (pe_ix ix_seq (pv 0) (pe_int) (fun _ _ => rfl)) (pe_op opAdd (pe_callB (cLen) rfl T.b_len (by decide +kernel) (pa_cons (pv 3) (pa_nil))) (pe_int)))) (pss_cons (ps_set (i := 5) sc_law_names.nd rfl (Or.inl rfl) (pe_lst (pa_nil))) (pss_cons (ps_for PassesOwn.never rfl (pi_range1 rfl T.b_range (pa_cons (pv 1) (pa_nil))) (pg_name (i := 6) sc_law_names.nd rfl (Or.inl rfl)) (pss_cons (ps_set (i := 7) sc_law_names.nd rfl (Or.inl rfl) (pe_ix ix_seq (pv 2) (pe_op opMod (pe_op opAdd (pv 6) (pe_ix ix_seq (pv 0) (pe_int) (fun _ _ => rfl))) (pe_int)) (fun _ _ => rfl))) (pss_cons (ps_set (i := 8) sc_law_names.nd rfl (Or.inl rfl) (pe_op opAdd (pe_op opAdd (pe_slice slU (pv 3) (po_none) (po_some (pv 4))) (pv 7)) (pe_slice slU (pv 3) (po_some (pv 4)) (po_none)))) (pss_cons (ps_if (pt_cmpR (opEq hr.units) (pe_op opMod (pe_ix ix_seq (pv 0) (pe_int) (fun _ _ => rfl)) (pe_int)) (pe_int) (nomark _)) (pss_one (ps_set (i := 8) sc_law_names.nd rfl (Or.inl rfl) (pe_op opMul (pe_ix ix_seq (pv 2) (pe_op opDiv (pv 6) (pe_int)) (fun _ _ => rfl)) (pe_op opAdd (pe_int) (pe_op opMod (pv 6) (pe_int)))))) (pss_nil)) (pss_one (ps_expr (pe_bm PySem.F.plainAttrs_list PySem.F.slot_list_append PySem.F.type_list_append mt_append (pv 5) (pa_cons (pv 8) (pa_nil))))))))) (pss_one (ps_ret (pv 5))))))), ?_⟩
  intro xs Z Hi σ H Q ⟨hlen, hX⟩ hM S q
  replace S : Sit K T.C Z Hi σ H [.dat (intsD xs), .dat (.int 6), .non, .non, .non, .non, .non, .non, .non] := S
  have x0 := gx_ok hX (k := 0) (by omega)
  have x1 := gx_ok hX (k := 1) (by omega)
  have x2 := gx_ok hX (k := 2) (by omega)
  have a0 := gx_at (xs := xs) (k := 0) (by omega)
  have a1 := gx_at (xs := xs) (k := 1) (by omega)
  have a2 := gx_at (xs := xs) (k := 2) (by omega)
  have a3 := gx_at (xs := xs) (k := 3) (by omega)
  refine q_asg ev_str S (lt_b rfl) fun σ1 Hi1 H1 S1 => ?_
  replace S1 : Sit K T.C Z Hi1 σ1 H1 [.dat (intsD xs), .dat (.int 6), .dat (.str ("abcdefghijklmnopqrstuvwxyz" : PySem.Str)), .non, .non, .non, .non, .non, .non] := S1
  obtain ⟨m, hm, hm5⟩ : ∃ m : Nat, gx xs 0 % 6 = (m : Nat) ∧ m ≤ 5 := ⟨(gx xs 0 % 6).toNat, by omega, by omega⟩
  have hst := stem_ok hX hlen hm5
  generalize hstem : stemOf xs m = stem at hst
  obtain ⟨hs1, hs2⟩ := hst
  have hj : EvP K T.C (tM1 (rJoinU K) (tC (.str ("" : PySem.Str))) (tLc (iRng1 (tCons (tOp (rModU) (tOp (rIx K) (tVar 0) (tC (.int 0))) (tC (.int 6))) (tNil))) (gName 6) (tYes) (tOp (rIx K) (tVar 2) (tOp (rModU) (tOp (rDivU) (tOp (rIx K) (tVar 0) (tVar 6)) (tC (.int 40))) (tC (.int 26)))) [6])) [.dat (intsD xs), .dat (.int 6), .dat (.str ("abcdefghijklmnopqrstuvwxyz" : PySem.Str)), .non, .non, .non, .non, .non, .non] (.str stem) := by
    rw [← hstem]
    refine ev_join ev_str (EvP.eq (ev_map (xs := List.range (gx xs 0 % 6).toNat) (fun k : Nat => strD ⟨#[chrOf xs k]⟩) (ei_range1 (n := gx xs 0 % 6) (by walk_at "ev") (by omega) (by omega)) (by rw [List.length_range]; omega) (lt_b rfl) fun k hk => ?_) ?_) (join_sz hm5)
    · rw [List.mem_range] at hk
      have hk12 : k < 12 := by omega
      have xk := gx_ok hX (k := k) (by omega)
      have ak := gx_at (xs := xs) (k := k) (by omega)
      have c1 : CDivW (gx xs k) 40 := ⟨by decide, by decide⟩
      refine ev_op (ev_var rfl) (by walk_at "ev") (rd_ixS (by decide +kernel) ?_)
      have q := let_at (gx xs k / 40) (m := 26) (by decide) (Int.emod_nonneg _ (by decide)) (Int.emod_lt_of_pos _ (by decide))
      exact q
    · rw [hm]
      show D.list _ = D.list _
      rw [Int.toNat_natCast, List.map_map]
      rfl
  refine q_asg hj S1 (lt_b rfl) fun σ2 Hi2 H2 S2 => ?_
  replace S2 : Sit K T.C Z Hi2 σ2 H2 [.dat (intsD xs), .dat (.int 6), .dat (.str ("abcdefghijklmnopqrstuvwxyz" : PySem.Str)), .dat (.str stem), .non, .non, .non, .non, .non] := S2
  have hsl : stem.length ≤ sizeLine := Nat.le_trans hs1 (by decide)
  have hpos : (0 : Int) < (stem.length : Nat) + 1 := by omega
  refine q_asg (by walk_at "ev") S2 (lt_b rfl) fun σ3 Hi3 H3 S3 => ?_
  obtain ⟨n, hn, hn5⟩ : ∃ n : Nat, gx xs 1 % ((stem.length : Nat) + 1) = (n : Nat) ∧ n ≤ stem.length := ⟨(gx xs 1 % ((stem.length : Nat) + 1)).toNat, by
    have := Int.emod_nonneg (gx xs 1) (b := (stem.length : Nat) + 1) (by omega)
    omega, by
    have := Int.emod_nonneg (gx xs 1) (b := (stem.length : Nat) + 1) (by omega)
    have := Int.emod_lt_of_pos (gx xs 1) hpos
    omega⟩
  refine q_new S3 (lt_b rfl) fun σ4 Hi4 H4 S4 => ?_
  rw [hn] at S4
  replace S4 : Sit K T.C Z Hi4 σ4 H4 [.dat (intsD xs), .dat (.int 6), .dat (.str ("abcdefghijklmnopqrstuvwxyz" : PySem.Str)), .dat (.str stem), .dat (.int (n : Nat)), .own [], .non, .non, .non] := S4
  refine q_for (α := Nat) (xs := List.range (Int.toNat 6)) (ei_range1 (by walk_at "ev") (by decide) (by decide)) S4 (fun i ρ => ∃ (ss : List PySem.Str) (s1 s2 s3 : Sl), ρ = [.dat (intsD xs), .dat (.int 6), .dat (.str ("abcdefghijklmnopqrstuvwxyz" : PySem.Str)), .dat (.str stem), .dat (.int (n : Nat)), .own (ss.map strD), s1, s2, s3] ∧ ss = (List.range i).map (nmOf xs stem n))
    (fun Z' σ' Hi' H' S' => ⟨_, _, ⟨[], _, _, _, rfl, rfl⟩, S'⟩) (fun x => [(6, .int (x : Nat))]) (fun x _ => gt_name) (fun i ρ' ⟨ss, s1, s2, s3, e, _⟩ x _ q hq => by rw [e]; rw [List.mem_singleton] at hq; rw [hq]; exact lt_b rfl) (fun Z' up i x ρ' hx ⟨ss, s1, s2, s3, e, hss⟩ Hi5 σ5 H5 S5 => ?_) (fun ρ' ⟨ss, s1, s2, s3, e, hss⟩ Hi5 σ5 H5 S5 => ?_)
  · subst e
    have hi6 : i < 6 := by
      have hm := (List.getElem?_eq_some_iff.mp hx).1
      rw [List.length_range] at hm
      exact hm
    have hxi : x = i := by
      have hm := (List.getElem?_eq_some_iff.mp hx).2
      rw [List.getElem_range] at hm
      exact hm.symm
    subst hxi
    replace S5 : Sit K T.C Z' Hi5 σ5 H5 [.dat (intsD xs), .dat (.int 6), .dat (.str ("abcdefghijklmnopqrstuvwxyz" : PySem.Str)), .dat (.str stem), .dat (.int (n : Nat)), .own (ss.map strD), .dat (.int (x : Nat)), s2, s3] := S5
    have hmk := let_at (((x : Nat) : Int) + gx xs 2) (m := 15) (by decide) (Int.emod_nonneg _ (by decide)) (Int.emod_lt_of_pos _ (by decide))
    refine q_asg (ev_op (ev_var rfl) (by walk_at "ev") (rd_ixS (by decide +kernel) hmk)) S5 (lt_b rfl) fun σ6 Hi6 H6 S6 => ?_
    generalize hc : 97 + ((((x : Nat) : Int) + gx xs 2) % 15).toNat = c at S6
    replace S6 : Sit K T.C Z' Hi6 σ6 H6 [.dat (intsD xs), .dat (.int 6), .dat (.str ("abcdefghijklmnopqrstuvwxyz" : PySem.Str)), .dat (.str stem), .dat (.int (n : Nat)), .own (ss.map strD), .dat (.int (x : Nat)), .dat (.str ⟨#[c]⟩), s3] := S6
    have l1 : (cutS stem none (some (n : Int))).length ≤ 5 := Nat.le_trans (cutS_length _ _ _) hs1
    have l2 : (cutS stem (some (n : Int)) none).length ≤ 5 := Nat.le_trans (cutS_length _ _ _) hs1
    have l3 : (⟨#[c]⟩ : PySem.Str).length = 1 := rfl
    have l4 : (cutS stem none (some (n : Int)) ++ (⟨#[c]⟩ : PySem.Str)).length = (cutS stem none (some (n : Int))).length + (⟨#[c]⟩ : PySem.Str).length := Array.size_append ..
    have z1 : (cutS stem none (some (n : Int))).length + (⟨#[c]⟩ : PySem.Str).length ≤ sizeLine := Nat.le_trans (m := 6) (by omega) (by decide)
    have z2 : (cutS stem none (some (n : Int)) ++ (⟨#[c]⟩ : PySem.Str)).length + (cutS stem (some (n : Int)) none).length ≤ sizeLine := Nat.le_trans (m := 11) (by omega) (by decide)
    refine q_asg (EvP.eq (ev_op (ev_op (ev_sl (ev_var rfl) eo_none (eo_some (ev_var rfl)) (rs_S hsl)) (ev_var rfl) (rd_addS z1)) (ev_sl (ev_var rfl) (eo_some (ev_var rfl)) eo_none (rs_S hsl)) (rd_addS z2)) (congrArg D.str (name_is stem n c hn5))) S6 (lt_b rfl) fun σ7 Hi7 H7 S7 => ?_
    replace S7 : Sit K T.C Z' Hi7 σ7 H7 [.dat (intsD xs), .dat (.int 6), .dat (.str ("abcdefghijklmnopqrstuvwxyz" : PySem.Str)), .dat (.str stem), .dat (.int (n : Nat)), .own (ss.map strD), .dat (.int (x : Nat)), .dat (.str ⟨#[c]⟩), .dat (.str (nmA (tlS stem) n c))] := S7
    have key : ∀ (σ8 : L2.St) (Hi8 H8 : Hp), Sit K T.C Z' Hi8 σ8 H8 [.dat (intsD xs), .dat (.int 6), .dat (.str ("abcdefghijklmnopqrstuvwxyz" : PySem.Str)), .dat (.str stem), .dat (.int (n : Nat)), .own (ss.map strD), .dat (.int (x : Nat)), .dat (.str ⟨#[c]⟩), .dat (.str (nmOf xs stem n x))] → tDrop (tBM K "list" rAppend (tVar 5) (tCons (tVar 8) (tNil))) { nx := Nxt K T.C Z' (fun ρ => ∃ (ss : List PySem.Str) (s1 s2 s3 : Sl), ρ = [.dat (intsD xs), .dat (.int 6), .dat (.str ("abcdefghijklmnopqrstuvwxyz" : PySem.Str)), .dat (.str stem), .dat (.int (n : Nat)), .own (ss.map strD), s1, s2, s3] ∧ ss = (List.range (x + 1)).map (nmOf xs stem n)), ct := Nxt K T.C Z' (fun ρ => ∃ (ss : List PySem.Str) (s1 s2 s3 : Sl), ρ = [.dat (intsD xs), .dat (.int 6), .dat (.str ("abcdefghijklmnopqrstuvwxyz" : PySem.Str)), .dat (.str stem), .dat (.int (n : Nat)), .own (ss.map strD), s1, s2, s3] ∧ ss = (List.range (x + 1)).map (nmOf xs stem n)), bk := tRet (tVar 5) { nx := fun _ H' => Q .non H', rt := Q }, rt := Q } σ8 H8 := fun σ8 Hi8 H8 S8 => by
      refine s_app rfl (ev_var rfl) (by rw [List.length_map, hss, List.length_map, List.length_range]; omega) S8 fun Hi9 H9 S9 => ⟨_, _, ⟨ss ++ [nmOf xs stem n x], .dat (.int (x : Nat)), .dat (.str ⟨#[c]⟩), .dat (.str (nmOf xs stem n x)), ?_, ?_⟩, S9⟩
      · rw [List.map_append]
        rfl
      · rw [hss, List.range_succ, List.map_append]
        rfl
    have e8 : ((x : Nat) : Int) / 8 = 0 := by omega
    have m8 : ((x : Nat) : Int) % 8 = x := by omega
    have hmul : ∀ k : Fin 6, Txt.mul (⟨#[97]⟩ : PySem.Str) (1 + (k.val : Int)) = ⟨(List.replicate (k.val + 1) 97).toArray⟩ := by decide +kernel
    have hmok : ∀ k : Fin 6, MulOk (⟨#[97]⟩ : PySem.Str) (1 + (k.val : Int)) := by
      unfold MulOk
      decide +kernel
    refine q_when (b := decide (gx xs 3 % 3 = 1)) (by walk_at "ev") S7 (fun e Hi8 H8 S8 => ?_) (fun e Hi8 H8 S8 => ?_)
    · have e3 := of_decide_eq_true e
      have c1 : CDivW ((x : Nat) : Int) 8 := ⟨by decide, by decide⟩
      refine s_asg (d := .str (nmOf xs stem n x)) (EvP.eq (ev_op (ev_op (ev_var rfl) (by walk_at "ev") (rd_ixS (by decide +kernel) (c := 97) (by rw [e8]; decide +kernel))) (by walk_at "ev") (rd_mulS (j := 1 + ((x : Nat) : Int) % 8) (by rw [m8]; exact hmok ⟨x, hi6⟩))) ?_) S8 (lt_b rfl) fun σ9 Hi9 H9 S9 => key _ _ _ S9
      unfold nmOf
      rw [if_pos e3, m8, hmul ⟨x, hi6⟩]
    · have e3 := of_decide_eq_false e
      have en : nmOf xs stem n x = nmA (tlS stem) n c := by
        unfold nmOf
        rw [if_neg e3, hc]
      rw [← en] at S8
      exact key _ _ _ S8
  · subst e
    rw [List.length_range] at hss
    exact s_retO rfl hM S5 fun v Hi6 ρ' S6 hv => q v _ _ _ _ _ ⟨ss, rfl, by rw [hss]; exact names_ok x2.1 hs1 hs2 hn5⟩ S6 hv
end FK

set_option Elab.async false
set_option linter.all false
set_option maxRecDepth 100000
set_option maxHeartbeats 4000000
namespace FK
open PySem PySem.Spec PyProof.Rows L2 FR
local macro_rules | `(tactic| walk_at "rd") => `(tactic| first
  | with_reducible exact rd_addI | with_reducible exact rd_subI | with_reducible exact rd_leI | with_reducible exact rd_ltI | with_reducible exact rd_geI | with_reducible exact rd_gtI | with_reducible exact rd_ltS | with_reducible exact rd_eqI | with_reducible exact rd_neI | with_reducible exact rd_eqS | with_reducible exact rd_neS
  | with_reducible exact rd_isNN | with_reducible exact rd_isNS | with_reducible exact rd_notNN | with_reducible exact rd_notNS | with_reducible exact rd_inS
  | ((with_reducible apply rd_ixT); rfl) | ((with_reducible apply rd_ixL); rfl)
  | ((with_reducible apply rd_modI); first | decide | assumption)
  | ((with_reducible apply rd_mulI); assumption) | ((with_reducible apply rd_powI); assumption) | ((with_reducible apply rd_divI); assumption) | ((with_reducible apply rd_addS); assumption) | ((with_reducible apply rd_mulS); assumption) | ((with_reducible apply rd_ixL); assumption) | ((with_reducible apply rd_ixT); assumption)
  | with_reducible assumption)
local macro_rules | `(tactic| walk_at "rc") => `(tactic| first
  | with_reducible exact rc_lenL | with_reducible exact rc_lenT | with_reducible exact rc_lenScr | with_reducible exact rc_minI | with_reducible exact rc_maxI | with_reducible exact rc_minS | with_reducible exact rc_maxS | with_reducible exact rc_tup | with_reducible exact rc_listT | with_reducible exact rc_intB | with_reducible exact rc_abs
  | ((with_reducible apply rc_lenS); assumption) | with_reducible exact rc_any | with_reducible exact rc_all | with_reducible assumption)
local macro_rules | `(tactic| walk_at "ev") => `(tactic| first
  | ((with_reducible apply ev_var); rfl) | with_reducible exact ev_int | with_reducible exact ev_str | with_reducible exact ev_bl | with_reducible exact ev_non | with_reducible exact ea_nil
  | with_reducible assumption
  | ((with_reducible apply ev_op); walk_at "ev"; walk_at "ev"; walk_at "rd")
  | ((with_reducible apply ea_cons); walk_at "ev"; walk_at "ev")
  | ((with_reducible apply ev_cb); walk_at "ev"; walk_at "rc")
  | ((with_reducible apply ev_tupB); walk_at "ev"; rfl) | ((with_reducible apply ev_lstB); walk_at "ev"; rfl)
  | ((with_reducible apply ev_andV); walk_at "ev"; (intro _; walk_at "ev")) | ((with_reducible apply ev_orV); walk_at "ev"; (intro _; walk_at "ev")) | ((with_reducible apply ev_notV); walk_at "ev")
  | ((with_reducible apply ev_chain); walk_at "ev"; walk_at "ev"; walk_at "ev"; walk_at "rd"; (intro _; walk_at "rd"))
  | ((with_reducible apply eb_and); walk_at "ev"; (intro _; walk_at "ev")) | ((with_reducible apply eb_or); walk_at "ev"; (intro _; walk_at "ev")) | ((with_reducible apply eb_not); walk_at "ev") | ((with_reducible apply eb_test); walk_at "ev") | ((with_reducible apply eb_B); walk_at "ev")
  | ((with_reducible apply ev_isi (b := true)); walk_at "ev"; (intro _ z; cases z); rfl) | ((with_reducible apply ev_isi (b := false)); walk_at "ev"; (intro _ z; cases z); rfl))


-- slots of law_word: 0 _law_x, 1 _law_found, 2 _law_j
abbrev N_law_word : List PySem.Str := [("_law_x" : PySem.Str), ("_law_found" : PySem.Str), ("_law_j" : PySem.Str)]
theorem sc_law_word : FnScope N_law_word [("_law_x" : PySem.Str)] (defScope s_law_word) := ⟨rfl, rfl, rfl, by decide +kernel, rfl, by decide +kernel, by decide +kernel⟩
def t_law_word {K : PySem.W.Frag} {mg : PySem.Str → Option Value} (T : Tx K mg) : TS :=
  tSeq (tIfS (tTest (tOp (rEqU K) (tOp (rModU) (tVar 0) (tC (.int 4))) (tC (.int 0)))) (tRet (tOp (rIx K) (tLst (tCons (tC (.str ("a" : PySem.Str))) (tCons (tC (.str ("ab" : PySem.Str))) (tCons (tC (.str ("abc" : PySem.Str))) (tCons (tC (.str ("b" : PySem.Str))) (tCons (tC (.str ("1" : PySem.Str))) (tCons (tC (.str ("12" : PySem.Str))) (tCons (tC (.str ("a1" : PySem.Str))) (tNil))))))))) (tOp (rModU) (tOp (rDivU) (tVar 0) (tC (.int 4))) (tC (.int 7))))) (tNext)) (tSeq (tAsg (tC (.str ("" : PySem.Str))) (gName 1)) (tSeq (tFor (iRng1 (tCons (tOp (rAddU K) (tC (.int 1)) (tOp (rModU) (tOp (rDivU) (tVar 0) (tC (.int 4))) (tC (.int 4)))) (tNil))) (gName 2) (tAsg (tOp (rAddU K) (tVar 1) (tOp (rIx K) (tC (.str ("ab1" : PySem.Str))) (tOp (rModU) (tOp (rDivU) (tOp (rDivU) (tVar 0) (tC (.int 16))) (tOp (rIx K) (tLst (tCons (tC (.int 1)) (tCons (tC (.int 3)) (tCons (tC (.int 9)) (tCons (tC (.int 27)) (tNil)))))) (tVar 2))) (tC (.int 3))))) (gName 1))) (tRet (tVar 1))))
theorem ok_law_word {P : Program} {w : World} {K : PySem.W.Frag} {mg : PySem.Str → Option Value} {base : Heap} (T : Tx K mg) : FnOk P w K mg base CX0 1 T.law_word.f T.law_word.fd [("_law_x" : PySem.Str)] (sp_law_word K T.C) :=
  fn_pure T.law_word.F sc_law_word (fun _ => rfl) fun cdv A outer s H0 E hr => by
  refine ⟨t_law_word T, pss_cons (ps_if (pt_cmpR (opEq hr.units) (pe_op opMod (pv 0) (pe_int)) (pe_int) (nomark _)) (pss_one (ps_ret (pe_ix ix_seq (pe_lst (pa_cons (pe_str) (pa_cons (pe_str) (pa_cons (pe_str) (pa_cons (pe_str) (pa_cons (pe_str) (pa_cons (pe_str) (pa_cons (pe_str) (pa_nil))))))))) (pe_op opMod (pe_op opDiv (pv 0) (pe_int)) (pe_int)) (fun _ _ => rfl)))) (pss_nil)) (pss_cons (ps_set (i := 1) sc_law_word.nd rfl (Or.inl rfl) (pe_str)) (pss_cons (ps_for PassesOwn.never rfl (pi_range1 rfl T.b_range (pa_cons (pe_op opAdd (pe_int) (pe_op opMod (pe_op opDiv (pv 0) (pe_int)) (pe_int))) (pa_nil))) (pg_name (i := 2) sc_law_word.nd rfl (Or.inl rfl)) (pss_one (ps_set (i := 1) sc_law_word.nd rfl (Or.inl rfl) (pe_op opAdd (pv 1) (pe_ix ix_seq (pe_str) (pe_op opMod (pe_op opDiv (pe_op opDiv (pv 0) (pe_int)) (pe_ix ix_seq (pe_lst (pa_cons (pe_int) (pa_cons (pe_int) (pa_cons (pe_int) (pa_cons (pe_int) (pa_nil)))))) (pv 2) (fun _ _ => rfl))) (pe_int)) (fun _ _ => rfl)))))) (pss_one (ps_ret (pv 1))))), ?_⟩
  intro x Z Hi σ H Q ⟨x0, x1⟩ hM S q
  replace S : Sit K T.C Z Hi σ H [.dat (.int x), .non, .non] := S
  have d4 : CDivW x 4 := ⟨by decide, by decide⟩
  have d16 : CDivW x 16 := ⟨by decide, by decide⟩
  refine q_when (b := decide (x % 4 = 0)) (by walk_at "ev") S (fun e Hi1 H1 S1 => ?_) (fun e Hi1 H1 S1 => ?_)
  · obtain ⟨s, hs, he⟩ := ev_pickS (K := K) (C := T.C) (ρ := [.dat (.int x), .non, .non]) (ss := ["a", "ab", "abc", "b", "1", "12", "a1"]) (i := x / 4 % 7) (ev_lstB (ea_cons ev_str (ea_cons ev_str (ea_cons ev_str (ea_cons ev_str (ea_cons ev_str (ea_cons ev_str (ea_cons ev_str ea_nil))))))) rfl) (ev_op (ev_op (ev_var (i := 0) rfl) (ev_int (i := 4)) (rd_divI d4)) (ev_int (i := 7)) (rd_modI (by decide))) (by omega) (by show x / 4 % 7 < 7; omega)
    refine s_ret he S1 fun v Hi2 H2 S2 hv => q v _ _ _ _ _ ⟨s, rfl, ?_⟩ S2 hv
    have hall : ∀ s ∈ (["a", "ab", "abc", "b", "1", "12", "a1"] : List PySem.Str), s.length ≤ 8 ∧ ∀ c ∈ s.cps.toList, c < 128 := by decide +kernel
    exact ⟨(hall s hs).1, (hall s hs).2⟩
  · refine q_asg ev_str S1 (lt_b rfl) fun σ2 Hi2 H2 S2 => ?_
    refine q_for (α := Nat) (xs := List.range (1 + x / 4 % 4).toNat) (ei_range1 (by walk_at "ev") (by omega) (by omega)) S2 (fun i ρ => ∃ (w : PySem.Str) (s : Sl), ρ = [.dat (.int x), .dat (.str w), s] ∧ w.length ≤ i ∧ ∀ c ∈ tlS w, c < 128)
      (fun Z' σ' Hi' H' S' => ⟨_, _, ⟨"", _, rfl, by decide +kernel, by decide +kernel⟩, S'⟩) (fun x => [(2, .int (x : Nat))]) (fun x _ => gt_name) (fun i ρ' ⟨w, s, e, _⟩ x _ q hq => by rw [e]; rw [List.mem_singleton] at hq; rw [hq]; exact lt_b rfl) (fun Z' up i j ρ' hx ⟨w, s, e, hw1, hw2⟩ Hi5 σ5 H5 S5 => ?_) (fun ρ' ⟨w, s, e, hw1, hw2⟩ Hi5 σ5 H5 S5 => ?_)
    · subst e
      have hj := (List.getElem?_eq_some_iff.mp hx).1
      rw [List.length_range] at hj
      have hj2 : j = i := by
        have hm := (List.getElem?_eq_some_iff.mp hx).2
        rw [List.getElem_range] at hm
        exact hm.symm
      subst hj2
      have hj4 : j < 4 := by omega
      replace S5 : Sit K T.C Z' Hi5 σ5 H5 [.dat (.int x), .dat (.str w), .dat (.int (j : Nat))] := S5
      obtain ⟨g, hg, heg⟩ := ev_pickI (K := K) (C := T.C) (ρ := [.dat (.int x), .dat (.str w), .dat (.int (j : Nat))]) (ss := [1, 3, 9, 27]) (i := (j : Nat)) (ev_lstB (ea_cons ev_int (ea_cons ev_int (ea_cons ev_int (ea_cons ev_int ea_nil)))) rfl) (ev_var (i := 2) rfl) (by omega) (by show (j : Int) < 4; omega)
      have hgd : CDivW (x / 16) g := by
        have hall : ∀ g ∈ ([1, 3, 9, 27] : List Int), 0 < g ∧ g.natAbs.log2 < 9000 := by decide +kernel
        exact hall g hg
      obtain ⟨c, hc, hec⟩ := ev_sign (K := K) (C := T.C) (ρ := [.dat (.int x), .dat (.str w), .dat (.int (j : Nat))]) (z := ("ab1" : PySem.Str)) (i := x / 16 / g % 3) (by decide +kernel) ev_str (ev_op (ev_op (ev_op (ev_var (i := 0) rfl) (ev_int (i := 16)) (rd_divI d16)) heg (rd_divI hgd)) (ev_int (i := 3)) (rd_modI (by decide))) (Int.emod_nonneg _ (by decide)) (by
        have := Int.emod_lt_of_pos (x / 16 / g) (b := 3) (by decide)
        have e : ("ab1" : PySem.Str).length = 3 := by decide +kernel
        rw [e]
        exact this)
      have hcc : c < 128 := by
        have hall : ∀ c ∈ tlS ("ab1" : PySem.Str), c < 128 := by decide +kernel
        exact hall c hc
      have l1 : (⟨#[c]⟩ : PySem.Str).length = 1 := rfl
      have z1 : w.length + (⟨#[c]⟩ : PySem.Str).length ≤ sizeLine := Nat.le_trans (m := 5) (by omega) (by decide)
      refine s_asg (ev_op (ev_var rfl) hec (rd_addS z1)) S5 (lt_b rfl) fun σ8 Hi8 H8 S8 => ⟨_, _, ⟨w ++ ⟨#[c]⟩, _, rfl, ?_, ?_⟩, S8⟩
      · rw [len_app]
        omega
      · intro b hb
        rw [tl_app] at hb
        rcases List.mem_append.mp hb with h | h
        · exact hw2 b h
        · have : b = c := by simpa using h
          omega
    · subst e
      rw [List.length_range] at hw1
      exact s_ret (ev_var rfl) S5 fun v Hi2 H2 S2 hv => q v _ _ _ _ _ ⟨w, rfl, ⟨by omega, hw2⟩⟩ S2 hv
-- slots of law_row: 0 _law_name, 1 _law_xs, 2 _law_fields, 3 _law_words, 4 _law_k
abbrev N_law_row : List PySem.Str := [("_law_name" : PySem.Str), ("_law_xs" : PySem.Str), ("_law_fields" : PySem.Str), ("_law_words" : PySem.Str), ("_law_k" : PySem.Str)]
theorem sc_law_row : FnScope N_law_row [("_law_name" : PySem.Str), ("_law_xs" : PySem.Str)] (defScope s_law_row) := ⟨rfl, rfl, rfl, by decide +kernel, rfl, by decide +kernel, by decide +kernel⟩
def t_law_row {K : PySem.W.Frag} {mg : PySem.Str → Option Value} (T : Tx K mg) : TS :=
  tSeq (tAsg (tLst (tCons (tC (.str ("day" : PySem.Str))) (tCons (tC (.str ("name" : PySem.Str))) (tCons (tOp (rAddU K) (tC (.str ("name" : PySem.Str))) (tC (.str ("s" : PySem.Str)))) (tCons (tC (.str ("p" : PySem.Str))) (tNil)))))) (gName 2)) (tSeq (tAsg (tLst (tNil)) (gName 3)) (tSeq (tFor (iRng1 (tCons (tC (.int 4)) (tNil))) (gName 4) (tIfS (tTest (tOp (rGtU) (tOp (rModU) (tOp (rIx K) (tVar 1) (tVar 4)) (tC (.int 4))) (tC (.int 0)))) (tDrop (tBM K "list" rAppend (tVar 3) (tCons (tTupP (tCons (tOp (rIx K) (tVar 2) (tVar 4)) (tCons (tCall (sp_law_word K T.C) [] E0 (tCons (tOp (rDivU) (tOp (rIx K) (tVar 1) (tVar 4)) (tC (.int 4))) (tNil))) (tNil)))) (tNil)))) (tNext))) (tRet (tTupP (tCons (tVar 0) (tCons (tCB (rTupP K) (tCons (tVar 3) (tNil))) (tNil)))))))
theorem ok_law_row {P : Program} {w : World} {K : PySem.W.Frag} {mg : PySem.Str → Option Value} {base : Heap} (T : Tx K mg) : FnOk P w K mg base CX0 2 T.law_row.f T.law_row.fd [("_law_name" : PySem.Str), ("_law_xs" : PySem.Str)] (sp_law_row K T.C) :=
  fn_pure T.law_row.F sc_law_row (fun _ => rfl) fun cdv A outer s H0 E hr => by
  refine ⟨t_law_row T, pss_cons (ps_set (i := 2) sc_law_row.nd rfl (Or.inl rfl) (pe_lst (pa_cons (pe_str) (pa_cons (pe_str) (pa_cons (pe_op opAdd (pe_str) (pe_str)) (pa_cons (pe_str) (pa_nil))))))) (pss_cons (ps_set (i := 3) sc_law_row.nd rfl (Or.inl rfl) (pe_lst (pa_nil))) (pss_cons (ps_for PassesOwn.never rfl (pi_range1 rfl T.b_range (pa_cons (pe_int) (pa_nil))) (pg_name (i := 4) sc_law_row.nd rfl (Or.inl rfl)) (pss_one (ps_if (pt_cmpR (opGt) (pe_op opMod (pe_ix ix_seq (pv 1) (pv 4) (fun _ _ => rfl)) (pe_int)) (pe_int) (nomark _)) (pss_one (ps_expr (pe_bm PySem.F.plainAttrs_list PySem.F.slot_list_append PySem.F.type_list_append mt_append (pv 3) (pa_cons (pe_tupP (pa_cons (pe_ix ix_seq (pv 2) (pv 4) (fun _ _ => rfl)) (pa_cons (pe_call (ok_law_word T) (hr.mono (by decide)) rfl T.law_word.g T.law_word.F.kp T.law_word.b .nil pass0 (pa_cons (pe_op opDiv (pe_ix ix_seq (pv 1) (pv 4) (fun _ _ => rfl)) (pe_int)) (pa_nil))) (pa_nil)))) (pa_nil))))) (pss_nil)))) (pss_one (ps_ret (pe_tupP (pa_cons (pv 0) (pa_cons (pe_callTy (cTup) rfl T.b_tuple (by rfl) (pa_cons (pv 3) (pa_nil))) (pa_nil)))))))), ?_⟩
  intro ⟨n, xs⟩ Z Hi σ H Q ⟨hn, hlen, hX⟩ hM S q
  replace hn : OkN n := hn
  replace hlen : 4 ≤ xs.length := hlen
  replace hX : OkX xs := hX
  replace S : Sit K T.C Z Hi σ H [.dat (.str n), .dat (intsD xs), .non, .non, .non] := S
  have zz : ("name" : PySem.Str).length + ("s" : PySem.Str).length ≤ sizeLine := by decide +kernel
  have hfs : EvP K T.C (tLst (tCons (tC (.str ("day" : PySem.Str))) (tCons (tC (.str ("name" : PySem.Str))) (tCons (tOp (rAddU K) (tC (.str ("name" : PySem.Str))) (tC (.str ("s" : PySem.Str)))) (tCons (tC (.str ("p" : PySem.Str))) (tNil)))))) [.dat (.str n), .dat (intsD xs), .non, .non, .non] (strsD fs4) := ev_lstB (ea_cons ev_str (ea_cons ev_str (ea_cons (ev_op ev_str ev_str (rd_addS zz)) (ea_cons ev_str ea_nil)))) rfl
  refine q_asg hfs S (lt_b rfl) fun σ1 Hi1 H1 S1 => ?_
  refine q_new S1 (lt_b rfl) fun σ2 Hi2 H2 S2 => ?_
  replace S2 : Sit K T.C Z Hi2 σ2 H2 [.dat (.str n), .dat (intsD xs), .dat (strsD fs4), .own [], .non] := S2
  refine q_for (α := Nat) (xs := List.range (Int.toNat 4)) (ei_range1 (by walk_at "ev") (by decide) (by decide)) S2 (fun i ρ => ∃ (ws : List (PySem.Str × PySem.Str)) (s : Sl), ρ = [.dat (.str n), .dat (intsD xs), .dat (strsD fs4), .own (ws.map wordD), s] ∧ (ws.map (·.1)).Sublist (fs4.take i) ∧ ∀ p ∈ ws, OkW p.1 ∧ OkW p.2)
    (fun Z' σ' Hi' H' S' => ⟨_, _, ⟨[], _, rfl, List.Sublist.refl _, (fun p hp => by cases hp)⟩, S'⟩) (fun x => [(4, .int (x : Nat))]) (fun x _ => gt_name) (fun i ρ' ⟨w, s, e, _⟩ x _ q hq => by rw [e]; rw [List.mem_singleton] at hq; rw [hq]; exact lt_b rfl) (fun Z' up i j ρ' hx ⟨ws, s, e, hw1, hw2⟩ Hi5 σ5 H5 S5 => ?_) (fun ρ' ⟨ws, s, e, hw1, hw2⟩ Hi5 σ5 H5 S5 => ?_)
  · subst e
    have hj := (List.getElem?_eq_some_iff.mp hx).1
    rw [List.length_range] at hj
    have hj2 : j = i := by
      have hm := (List.getElem?_eq_some_iff.mp hx).2
      rw [List.getElem_range] at hm
      exact hm.symm
    subst hj2
    have hj4 : j < 4 := hj
    replace S5 : Sit K T.C Z' Hi5 σ5 H5 [.dat (.str n), .dat (intsD xs), .dat (strsD fs4), .own (ws.map wordD), .dat (.int (j : Nat))] := S5
    have xj := gx_ok hX (k := j) (by omega)
    have aj := gx_at (xs := xs) (k := j) (by omega)
    have d4 : CDivW (gx xs j) 4 := ⟨by decide, by decide⟩
    have ht : (fs4.take (j + 1)) = fs4.take j ++ [fs4.getD j ""] := by
      have hall : ∀ j : Fin 4, (fs4.take (j.val + 1)) = fs4.take j.val ++ [fs4.getD j.val ""] := by decide +kernel
      exact hall ⟨j, hj4⟩
    have hfj : atI (fs4.map strD) (j : Int) = some (strD (fs4.getD j "")) := by
      have hl : j < fs4.length := hj4
      refine atI_nat ?_
      rw [List.getElem?_map, List.getD_eq_getElem?_getD, List.getElem?_eq_getElem hl]
      rfl
    have hfo : OkW (fs4.getD j "") := by
      have hall : ∀ j : Fin 4, (fs4.getD j.val "").length ≤ 8 ∧ ∀ c ∈ (fs4.getD j.val "").cps.toList, c < 128 := by decide +kernel
      exact ⟨(hall ⟨j, hj4⟩).1, (hall ⟨j, hj4⟩).2⟩
    refine s_when (b := decide (0 < gx xs j % 4)) (by walk_at "ev") S5 (fun e Hi6 H6 S6 => ?_) (fun e Hi6 H6 S6 => ⟨_, _, ⟨ws, _, rfl, ?_, hw2⟩, S6⟩)
    · refine (ev_callR (K := K) (C := T.C) (ρ := [.dat (.str n), .dat (intsD xs), .dat (strsD fs4), .own (ws.map wordD), .dat (.int (j : Nat))]) (E := E0) (emb := fun x : Int => [D.int x]) (pre := fun x => 0 ≤ x ∧ x < 2000000000) (post := fun _ d => ∃ w, d = .str w ∧ OkW w) (ta := tCons (tOp (rDivU) (tOp (rIx K) (tVar 1) (tVar 4)) (tC (.int 4))) (tNil)) (gx xs j / 4) (by walk_at "ev") ⟨by omega, by omega⟩) |> fun hcall => ?_
      refine s_appR rfl (ev_tup2R (ev_op (ev_var rfl) (ev_var rfl) (rd_ixL hfj)) hcall) (by
        have hl := hw1.length_le
        rw [List.length_map] at hl
        rw [List.length_map]
        have := List.length_take_le j fs4
        omega) S6 fun d ⟨d2, ⟨w, hd2, how⟩, hd⟩ Hi7 H7 S7 => ⟨_, _, ⟨ws ++ [(fs4.getD j "", w)], .dat (.int (j : Nat)), ?_, ?_, ?_⟩, S7⟩
      · subst hd hd2
        rw [List.map_append]
        rfl
      · rw [List.map_append, ht]
        exact hw1.append (List.Sublist.refl _)
      · intro p hp
        rcases List.mem_append.mp hp with h | h
        · exact hw2 p h
        · rw [List.mem_singleton] at h
          rw [h]
          exact ⟨hfo, how⟩
    · rw [ht]
      exact hw1.trans (List.sublist_append_left _ _)
  · subst e
    have hsub : (ws.map (·.1)).Sublist fs4 := hw1.trans (List.take_sublist _ _)
    have hnd : fs4.Nodup := by decide +kernel
    refine s_ret (d := rowD ⟨n, ws⟩) (ev_thaw (i := 3) rfl (ev_tupB (ea_cons (ev_var rfl) (ea_cons (ev_cb (ea_cons (ev_var rfl) ea_nil) rc_tupP) ea_nil)) rfl) (flat_row ⟨n, ws⟩)) S5 fun v Hi2 H2 S2 hv => q v _ _ _ _ _ ⟨⟨n, ws⟩, rfl, rfl, ⟨hn, ?_, hnd.sublist hsub, hw2⟩⟩ S2 hv
    have hl := hsub.length_le
    rw [List.length_map] at hl
    exact Nat.le_trans hl (by decide +kernel)
end FK

set_option Elab.async false
set_option linter.all false
set_option maxRecDepth 100000
set_option maxHeartbeats 4000000
namespace FK
open PySem PySem.Spec PyProof.Rows L2 FR
local macro_rules | `(tactic| walk_at "rd") => `(tactic| first
  | with_reducible exact rd_addI | with_reducible exact rd_subI | with_reducible exact rd_leI | with_reducible exact rd_ltI | with_reducible exact rd_geI | with_reducible exact rd_gtI | with_reducible exact rd_ltS | with_reducible exact rd_eqI | with_reducible exact rd_neI | with_reducible exact rd_eqS | with_reducible exact rd_neS
  | with_reducible exact rd_isNN | with_reducible exact rd_isNS | with_reducible exact rd_notNN | with_reducible exact rd_notNS | with_reducible exact rd_inS
  | ((with_reducible apply rd_ixT); rfl) | ((with_reducible apply rd_ixL); rfl)
  | ((with_reducible apply rd_modI); first | decide | assumption)
  | ((with_reducible apply rd_mulI); assumption) | ((with_reducible apply rd_powI); assumption) | ((with_reducible apply rd_divI); assumption) | ((with_reducible apply rd_addS); assumption) | ((with_reducible apply rd_mulS); assumption) | ((with_reducible apply rd_ixL); assumption) | ((with_reducible apply rd_ixT); assumption)
  | with_reducible assumption)
local macro_rules | `(tactic| walk_at "rc") => `(tactic| first
  | with_reducible exact rc_lenL | with_reducible exact rc_lenT | with_reducible exact rc_lenScr | with_reducible exact rc_minI | with_reducible exact rc_maxI | with_reducible exact rc_minS | with_reducible exact rc_maxS | with_reducible exact rc_tup | with_reducible exact rc_listT | with_reducible exact rc_intB | with_reducible exact rc_abs
  | ((with_reducible apply rc_lenS); assumption) | with_reducible exact rc_any | with_reducible exact rc_all | with_reducible assumption)
local macro_rules | `(tactic| walk_at "ev") => `(tactic| first
  | ((with_reducible apply ev_var); rfl) | with_reducible exact ev_int | with_reducible exact ev_str | with_reducible exact ev_bl | with_reducible exact ev_non | with_reducible exact ea_nil
  | with_reducible assumption
  | ((with_reducible apply ev_op); walk_at "ev"; walk_at "ev"; walk_at "rd")
  | ((with_reducible apply ea_cons); walk_at "ev"; walk_at "ev")
  | ((with_reducible apply ev_cb); walk_at "ev"; walk_at "rc")
  | ((with_reducible apply ev_tupB); walk_at "ev"; rfl) | ((with_reducible apply ev_lstB); walk_at "ev"; rfl)
  | ((with_reducible apply ev_andV); walk_at "ev"; (intro _; walk_at "ev")) | ((with_reducible apply ev_orV); walk_at "ev"; (intro _; walk_at "ev")) | ((with_reducible apply ev_notV); walk_at "ev")
  | ((with_reducible apply ev_chain); walk_at "ev"; walk_at "ev"; walk_at "ev"; walk_at "rd"; (intro _; walk_at "rd"))
  | ((with_reducible apply eb_and); walk_at "ev"; (intro _; walk_at "ev")) | ((with_reducible apply eb_or); walk_at "ev"; (intro _; walk_at "ev")) | ((with_reducible apply eb_not); walk_at "ev") | ((with_reducible apply eb_test); walk_at "ev") | ((with_reducible apply eb_B); walk_at "ev")
  | ((with_reducible apply ev_isi (b := true)); walk_at "ev"; (intro _ z; cases z); rfl) | ((with_reducible apply ev_isi (b := false)); walk_at "ev"; (intro _ z; cases z); rfl))


-- slots of law_rules: 0 _law_xs, 1 _law_fields, 2 _law_found, 3 _law_k, 4 _law_y, 5 _law_one, 6 _law_other, 7 _law_weight, 8 _law_way
abbrev N_law_rules : List PySem.Str := [("_law_xs" : PySem.Str), ("_law_fields" : PySem.Str), ("_law_found" : PySem.Str), ("_law_k" : PySem.Str), ("_law_y" : PySem.Str), ("_law_one" : PySem.Str), ("_law_other" : PySem.Str), ("_law_weight" : PySem.Str), ("_law_way" : PySem.Str)]
theorem sc_law_rules : FnScope N_law_rules [("_law_xs" : PySem.Str)] (defScope s_law_rules) := ⟨rfl, rfl, rfl, by decide +kernel, rfl, by decide +kernel, by decide +kernel⟩
def t_law_rules {K : PySem.W.Frag} {mg : PySem.Str → Option Value} (T : Tx K mg) : TS :=
  tSeq (tAsg (tLst (tCons (tC (.str ("day" : PySem.Str))) (tCons (tC (.str ("name" : PySem.Str))) (tCons (tC (.str ("names" : PySem.Str))) (tCons (tC (.str ("p" : PySem.Str))) (tCons (tC (.str ("zzz" : PySem.Str))) (tNil))))))) (gName 1)) (tSeq (tAsg (tLst (tNil)) (gName 2)) (tSeq (tFor (iRng1 (tCons (tOp (rAddU K) (tC (.int 1)) (tOp (rModU) (tOp (rIx K) (tVar 0) (tC (.int 0))) (tC (.int 4)))) (tNil))) (gName 3) (tSeq (tAsg (tOp (rIx K) (tVar 0) (tOp (rAddU K) (tC (.int 1)) (tVar 3))) (gName 4)) (tSeq (tPar 5 6 (tCons (tOp (rIx K) (tVar 1) (tOp (rModU) (tVar 4) (tC (.int 5)))) (tCons (tOp (rIx K) (tVar 1) (tOp (rModU) (tOp (rAddU K) (tOp (rAddU K) (tVar 4) (tC (.int 1))) (tOp (rModU) (tOp (rDivU) (tVar 4) (tC (.int 5))) (tC (.int 4)))) (tC (.int 5)))) (tNil)))) (tSeq (tAsg (tOp (rIx K) (tLst (tCons (tOp (rAddU K) (tC (.int 1)) (tOp (rModU) (tOp (rDivU) (tVar 4) (tC (.int 300))) (tC (.int 3)))) (tCons (tOp (rAddU K) (tC (.int 1)) (tOp (rModU) (tOp (rDivU) (tVar 4) (tC (.int 300))) (tC (.int 1000)))) (tNil)))) (tOp (rModU) (tOp (rDivU) (tVar 4) (tC (.int 7))) (tC (.int 2)))) (gName 7)) (tSeq (tAsg (tOp (rModU) (tOp (rDivU) (tVar 4) (tC (.int 20))) (tC (.int 5))) (gName 8)) (tIfS (tTest (tOp (rEqU K) (tVar 8) (tC (.int 0)))) (tDrop (tBM K "list" rAppend (tVar 2) (tCons (tTupP (tCons (tC (.str ("never" : PySem.Str))) (tCons (tVar 5) (tNil)))) (tNil)))) (tIfS (tTest (tOp (rEqU K) (tVar 8) (tC (.int 1)))) (tDrop (tBM K "list" rAppend (tVar 2) (tCons (tTupP (tCons (tC (.str ("begin" : PySem.Str))) (tCons (tVar 5) (tCons (tOp (rAddU K) (tC (.int 1)) (tOp (rModU) (tOp (rDivU) (tVar 4) (tC (.int 100))) (tC (.int 3)))) (tCons (tVar 7) (tNil)))))) (tNil)))) (tIfS (tTest (tOp (rEqU K) (tVar 8) (tC (.int 2)))) (tDrop (tBM K "list" rAppend (tVar 2) (tCons (tTupP (tCons (tC (.str ("both" : PySem.Str))) (tCons (tVar 5) (tCons (tVar 6) (tCons (tVar 7) (tNil)))))) (tNil)))) (tDrop (tBM K "list" rAppend (tVar 2) (tCons (tTupP (tCons (tC (.str ("same" : PySem.Str))) (tCons (tVar 5) (tCons (tVar 7) (tNil))))) (tNil)))))))))))) (tRet (tCB (rTupP K) (tCons (tVar 2) (tNil))))))
theorem ok_law_rules {P : Program} {w : World} {K : PySem.W.Frag} {mg : PySem.Str → Option Value} {base : Heap} (T : Tx K mg) : FnOk P w K mg base CX0 1 T.law_rules.f T.law_rules.fd [("_law_xs" : PySem.Str)] (sp_law_rules K T.C) :=
  fn_pure T.law_rules.F sc_law_rules (fun _ => rfl) fun cdv A outer s H0 E hr => by
  refine ⟨t_law_rules T, pss_cons (ps_set (i := 1) sc_law_rules.nd rfl (Or.inl rfl) (pe_lst (pa_cons (pe_str) (pa_cons (pe_str) (pa_cons (pe_str) (pa_cons (pe_str) (pa_cons (pe_str) (pa_nil)))))))) (pss_cons (ps_set (i := 2) sc_law_rules.nd rfl (Or.inl rfl) (pe_lst (pa_nil))) (pss_cons (ps_for PassesOwn.never rfl (pi_range1 rfl T.b_range (pa_cons (pe_op opAdd (pe_int) (pe_op opMod (pe_ix ix_seq (pv 0) (pe_int) (fun _ _ => rfl)) (pe_int))) (pa_nil))) (pg_name (i := 3) sc_law_rules.nd rfl (Or.inl rfl)) (pss_cons (ps_set (i := 4) sc_law_rules.nd rfl (Or.inl rfl) (pe_ix ix_seq (pv 0) (pe_op opAdd (pe_int) (pv 3)) (fun _ _ => rfl))) (pss_cons (ps_par rfl sc_law_rules.nd (i := 5) (j := 6) rfl rfl (by decide) rfl rfl (pa_cons (pe_ix ix_seq (pv 1) (pe_op opMod (pv 4) (pe_int)) (fun _ _ => rfl)) (pa_cons (pe_ix ix_seq (pv 1) (pe_op opMod (pe_op opAdd (pe_op opAdd (pv 4) (pe_int)) (pe_op opMod (pe_op opDiv (pv 4) (pe_int)) (pe_int))) (pe_int)) (fun _ _ => rfl)) (pa_nil))) (by rfl)) (pss_cons (ps_set (i := 7) sc_law_rules.nd rfl (Or.inl rfl) (pe_ix ix_seq (pe_lst (pa_cons (pe_op opAdd (pe_int) (pe_op opMod (pe_op opDiv (pv 4) (pe_int)) (pe_int))) (pa_cons (pe_op opAdd (pe_int) (pe_op opMod (pe_op opDiv (pv 4) (pe_int)) (pe_int))) (pa_nil)))) (pe_op opMod (pe_op opDiv (pv 4) (pe_int)) (pe_int)) (fun _ _ => rfl))) (pss_cons (ps_set (i := 8) sc_law_rules.nd rfl (Or.inl rfl) (pe_op opMod (pe_op opDiv (pv 4) (pe_int)) (pe_int))) (pss_one (ps_if (pt_cmpR (opEq hr.units) (pv 8) (pe_int) (nomark _)) (pss_one (ps_expr (pe_bm PySem.F.plainAttrs_list PySem.F.slot_list_append PySem.F.type_list_append mt_append (pv 2) (pa_cons (pe_tupP (pa_cons (pe_str) (pa_cons (pv 5) (pa_nil)))) (pa_nil))))) (pss_one (ps_if (pt_cmpR (opEq hr.units) (pv 8) (pe_int) (nomark _)) (pss_one (ps_expr (pe_bm PySem.F.plainAttrs_list PySem.F.slot_list_append PySem.F.type_list_append mt_append (pv 2) (pa_cons (pe_tupP (pa_cons (pe_str) (pa_cons (pv 5) (pa_cons (pe_op opAdd (pe_int) (pe_op opMod (pe_op opDiv (pv 4) (pe_int)) (pe_int))) (pa_cons (pv 7) (pa_nil)))))) (pa_nil))))) (pss_one (ps_if (pt_cmpR (opEq hr.units) (pv 8) (pe_int) (nomark _)) (pss_one (ps_expr (pe_bm PySem.F.plainAttrs_list PySem.F.slot_list_append PySem.F.type_list_append mt_append (pv 2) (pa_cons (pe_tupP (pa_cons (pe_str) (pa_cons (pv 5) (pa_cons (pv 6) (pa_cons (pv 7) (pa_nil)))))) (pa_nil))))) (pss_one (ps_expr (pe_bm PySem.F.plainAttrs_list PySem.F.slot_list_append PySem.F.type_list_append mt_append (pv 2) (pa_cons (pe_tupP (pa_cons (pe_str) (pa_cons (pv 5) (pa_cons (pv 7) (pa_nil))))) (pa_nil)))))))))))))))) (pss_one (ps_ret (pe_callTy (cTup) rfl T.b_tuple (by rfl) (pa_cons (pv 2) (pa_nil))))))), ?_⟩
  intro xs Z Hi σ H Q ⟨hlen, hX⟩ hM S q
  replace S : Sit K T.C Z Hi σ H [.dat (intsD xs), .non, .non, .non, .non, .non, .non, .non, .non] := S
  have x0 := gx_ok hX (k := 0) (by omega)
  have a0 := gx_at (xs := xs) (k := 0) (by omega)
  have hfs : EvP K T.C (tLst (tCons (tC (.str ("day" : PySem.Str))) (tCons (tC (.str ("name" : PySem.Str))) (tCons (tC (.str ("names" : PySem.Str))) (tCons (tC (.str ("p" : PySem.Str))) (tCons (tC (.str ("zzz" : PySem.Str))) (tNil))))))) [.dat (intsD xs), .non, .non, .non, .non, .non, .non, .non, .non] (strsD fs5) := ev_lstB (ea_cons ev_str (ea_cons ev_str (ea_cons ev_str (ea_cons ev_str (ea_cons ev_str ea_nil))))) rfl
  have hfo : ∀ f ∈ fs5, OkW f := by
    have hall : ∀ f ∈ fs5, f.length ≤ 8 ∧ ∀ c ∈ f.cps.toList, c < 128 := by decide +kernel
    exact fun f hf => ⟨(hall f hf).1, (hall f hf).2⟩
  refine q_asg hfs S (lt_b rfl) fun σ1 Hi1 H1 S1 => ?_
  refine q_new S1 (lt_b rfl) fun σ2 Hi2 H2 S2 => ?_
  replace S2 : Sit K T.C Z Hi2 σ2 H2 [.dat (intsD xs), .dat (strsD fs5), .own [], .non, .non, .non, .non, .non, .non] := S2
  refine q_for (α := Nat) (xs := List.range (1 + gx xs 0 % 4).toNat) (ei_range1 (by walk_at "ev") (by omega) (by omega)) S2 (fun i ρ => ∃ (us : List Rul) (s3 s4 s5 s6 s7 s8 : Sl), ρ = [.dat (intsD xs), .dat (strsD fs5), .own (us.map rulD), s3, s4, s5, s6, s7, s8] ∧ us.length = i ∧ ∀ u ∈ us, OkRul u)
    (fun Z' σ' Hi' H' S' => ⟨_, _, ⟨[], _, _, _, _, _, _, rfl, rfl, (fun p hp => by cases hp)⟩, S'⟩) (fun x => [(3, .int (x : Nat))]) (fun x _ => gt_name) (fun i ρ' ⟨us, s3, s4, s5, s6, s7, s8, e, _⟩ x _ q hq => by rw [e]; rw [List.mem_singleton] at hq; rw [hq]; exact lt_b rfl) (fun Z' up i j ρ' hx ⟨us, s3, s4, s5, s6, s7, s8, e, hw1, hw2⟩ Hi5 σ5 H5 S5 => ?_) (fun ρ' ⟨us, s3, s4, s5, s6, s7, s8, e, hw1, hw2⟩ Hi5 σ5 H5 S5 => ?_)
  · subst e
    have hj := (List.getElem?_eq_some_iff.mp hx).1
    rw [List.length_range] at hj
    have hj2 : j = i := by
      have hm := (List.getElem?_eq_some_iff.mp hx).2
      rw [List.getElem_range] at hm
      exact hm.symm
    subst hj2
    have hj4 : j < 4 := by omega
    have hz : (us.map rulD).length < 100000 := by rw [List.length_map]; omega
    replace S5 : Sit K T.C Z' Hi5 σ5 H5 [.dat (intsD xs), .dat (strsD fs5), .own (us.map rulD), .dat (.int (j : Nat)), s4, s5, s6, s7, s8] := S5
    have xj := gx_ok hX (k := 1 + j) (by omega)
    have aj := gx_at (xs := xs) (k := 1 + j) (by omega)
    rw [show (((1 + j : Nat)) : Int) = 1 + (j : Int) by omega] at aj
    generalize gx xs (1 + j) = y at xj aj
    refine q_asg (by walk_at "ev") S5 (lt_b rfl) fun σ6 Hi6 H6 S6 => ?_
    replace S6 : Sit K T.C Z' Hi6 σ6 H6 [.dat (intsD xs), .dat (strsD fs5), .own (us.map rulD), .dat (.int (j : Nat)), .dat (.int y), s5, s6, s7, s8] := S6
    have d5 : CDivW y 5 := ⟨by decide, by decide⟩
    have d7 : CDivW y 7 := ⟨by decide, by decide⟩
    have d20 : CDivW y 20 := ⟨by decide, by decide⟩
    have d100 : CDivW y 100 := ⟨by decide, by decide⟩
    have d300 : CDivW y 300 := ⟨by decide, by decide⟩
    obtain ⟨f, hf, hef⟩ := ev_pickS (K := K) (C := T.C) (ρ := [.dat (intsD xs), .dat (strsD fs5), .own (us.map rulD), .dat (.int (j : Nat)), .dat (.int y), s5, s6, s7, s8]) (ta := tVar 1) (tb := tOp (rModU) (tVar 4) (tC (.int 5))) (ss := fs5) (i := y % 5) (ev_var rfl) (by walk_at "ev") (by omega) (by show y % 5 < 5; omega)
    obtain ⟨g, hg, heg⟩ := ev_pickS (K := K) (C := T.C) (ρ := [.dat (intsD xs), .dat (strsD fs5), .own (us.map rulD), .dat (.int (j : Nat)), .dat (.int y), s5, s6, s7, s8]) (ta := tVar 1) (tb := tOp (rModU) (tOp (rAddU K) (tOp (rAddU K) (tVar 4) (tC (.int 1))) (tOp (rModU) (tOp (rDivU) (tVar 4) (tC (.int 5))) (tC (.int 4)))) (tC (.int 5))) (ss := fs5) (i := (y + 1 + y / 5 % 4) % 5) (ev_var rfl) (by walk_at "ev") (by omega) (by show (y + 1 + y / 5 % 4) % 5 < 5; omega)
    refine q_par (ea_cons hef (ea_cons heg ea_nil)) S6 (lt_b rfl) (lt_b rfl) fun σ7 Hi7 H7 S7 => ?_
    replace S7 : Sit K T.C Z' Hi7 σ7 H7 [.dat (intsD xs), .dat (strsD fs5), .own (us.map rulD), .dat (.int (j : Nat)), .dat (.int y), .dat (.str f), .dat (.str g), s7, s8] := S7
    obtain ⟨w, hw, hew⟩ := ev_pickI (K := K) (C := T.C) (ρ := [.dat (intsD xs), .dat (strsD fs5), .own (us.map rulD), .dat (.int (j : Nat)), .dat (.int y), .dat (.str f), .dat (.str g), s7, s8]) (ta := tLst (tCons (tOp (rAddU K) (tC (.int 1)) (tOp (rModU) (tOp (rDivU) (tVar 4) (tC (.int 300))) (tC (.int 3)))) (tCons (tOp (rAddU K) (tC (.int 1)) (tOp (rModU) (tOp (rDivU) (tVar 4) (tC (.int 300))) (tC (.int 1000)))) (tNil)))) (tb := tOp (rModU) (tOp (rDivU) (tVar 4) (tC (.int 7))) (tC (.int 2))) (ss := [1 + y / 300 % 3, 1 + y / 300 % 1000]) (i := y / 7 % 2) (ev_lstB (ea_cons (by walk_at "ev") (ea_cons (by walk_at "ev") ea_nil)) rfl) (by walk_at "ev") (by omega) (by show y / 7 % 2 < 2; omega)
    have hw12 : 1 ≤ w ∧ w ≤ 1000 := by
      simp only [List.mem_cons, List.not_mem_nil, or_false] at hw
      omega
    refine q_asg hew S7 (lt_b rfl) fun σ8 Hi8 H8 S8 => ?_
    replace S8 : Sit K T.C Z' Hi8 σ8 H8 [.dat (intsD xs), .dat (strsD fs5), .own (us.map rulD), .dat (.int (j : Nat)), .dat (.int y), .dat (.str f), .dat (.str g), .dat (.int w), s8] := S8
    refine q_asg (by walk_at "ev") S8 (lt_b rfl) fun σ9 Hi9 H9 S9 => ?_
    replace S9 : Sit K T.C Z' Hi9 σ9 H9 [.dat (intsD xs), .dat (strsD fs5), .own (us.map rulD), .dat (.int (j : Nat)), .dat (.int y), .dat (.str f), .dat (.str g), .dat (.int w), .dat (.int (y / 20 % 5))] := S9
    have fin : ∀ (u : Rul) (Hi' H' : Hp), OkRul u → Sit K T.C Z' Hi' σ9 H' [.dat (intsD xs), .dat (strsD fs5), .own (us.map rulD ++ [rulD u]), .dat (.int (j : Nat)), .dat (.int y), .dat (.str f), .dat (.str g), .dat (.int w), .dat (.int (y / 20 % 5))] → Nxt K T.C Z' (fun ρ => ∃ (us : List Rul) (s3 s4 s5 s6 s7 s8 : Sl), ρ = [.dat (intsD xs), .dat (strsD fs5), .own (us.map rulD), s3, s4, s5, s6, s7, s8] ∧ us.length = j + 1 ∧ ∀ u ∈ us, OkRul u) σ9 H' := fun u Hi' H' hu S' => ⟨_, _, ⟨us ++ [u], .dat (.int (j : Nat)), .dat (.int y), .dat (.str f), .dat (.str g), .dat (.int w), .dat (.int (y / 20 % 5)), by rw [List.map_append]; rfl, by rw [List.length_append, hw1]; rfl, fun v hv => by
      rcases List.mem_append.mp hv with h | h
      · exact hw2 v h
      · rw [List.mem_singleton] at h
        rw [h]
        exact hu⟩, S'⟩
    refine s_if (b := decide (y / 20 % 5 = 0)) (by walk_at "ev") S9 (fun e Hi6 H6 S6 => ?_) (fun e Hi6 H6 S6 => ?_)
    · exact s_app (d := rulD (.never f)) rfl (ev_tupB (ea_cons ev_str (ea_cons (ev_var rfl) ea_nil)) rfl) hz S6 fun Hi7 H7 S7 => fin (.never f) _ _ (hfo f hf) S7
    refine s_if (b := decide (y / 20 % 5 = 1)) (by walk_at "ev") S6 (fun e Hi6 H6 S6 => ?_) (fun e Hi6 H6 S6 => ?_)
    · exact s_app (d := rulD (.begin f (1 + y / 100 % 3) w)) rfl (ev_tupB (ea_cons ev_str (ea_cons (ev_var rfl) (ea_cons (by walk_at "ev") (ea_cons (ev_var rfl) ea_nil)))) rfl) hz S6 fun Hi7 H7 S7 => fin (.begin f (1 + y / 100 % 3) w) _ _ ⟨hfo f hf, by omega, by omega, hw12.1, hw12.2⟩ S7
    refine s_if (b := decide (y / 20 % 5 = 2)) (by walk_at "ev") S6 (fun e Hi6 H6 S6 => ?_) (fun e Hi6 H6 S6 => ?_)
    · exact s_app (d := rulD (.both f g w)) rfl (ev_tupB (ea_cons ev_str (ea_cons (ev_var rfl) (ea_cons (ev_var rfl) (ea_cons (ev_var rfl) ea_nil)))) rfl) hz S6 fun Hi7 H7 S7 => fin (.both f g w) _ _ ⟨hfo f hf, hfo g hg, hw12.1, hw12.2⟩ S7
    · exact s_app (d := rulD (.same f w)) rfl (ev_tupB (ea_cons ev_str (ea_cons (ev_var rfl) (ea_cons (ev_var rfl) ea_nil))) rfl) hz S6 fun Hi7 H7 S7 => fin (.same f w) _ _ ⟨hfo f hf, hw12.1, hw12.2⟩ S7
  · subst e
    rw [List.length_range] at hw1
    exact s_ret (d := rulesD us) (ev_thaw (i := 2) rfl (ev_cb (ea_cons (ev_var rfl) ea_nil) rc_tup) (flat_tup flat_rul us)) S5 fun v Hi2 H2 S2 hv => q v _ _ _ _ _ ⟨us, rfl, by omega, hw2⟩ S2 hv
end FK

set_option Elab.async false
set_option linter.all false
set_option maxRecDepth 100000
set_option maxHeartbeats 4000000
namespace FK
open PySem PySem.Spec PyProof.Rows L2 FR
local macro_rules | `(tactic| walk_at "rd") => `(tactic| first
  | with_reducible exact rd_addI | with_reducible exact rd_subI | with_reducible exact rd_leI | with_reducible exact rd_ltI | with_reducible exact rd_geI | with_reducible exact rd_gtI | with_reducible exact rd_ltS | with_reducible exact rd_eqI | with_reducible exact rd_neI | with_reducible exact rd_eqS | with_reducible exact rd_neS
  | with_reducible exact rd_isNN | with_reducible exact rd_isNS | with_reducible exact rd_notNN | with_reducible exact rd_notNS | with_reducible exact rd_inS
  | ((with_reducible apply rd_ixT); rfl) | ((with_reducible apply rd_ixL); rfl)
  | ((with_reducible apply rd_modI); first | decide | assumption)
  | ((with_reducible apply rd_mulI); assumption) | ((with_reducible apply rd_powI); assumption) | ((with_reducible apply rd_divI); assumption) | ((with_reducible apply rd_addS); assumption) | ((with_reducible apply rd_mulS); assumption) | ((with_reducible apply rd_ixL); assumption) | ((with_reducible apply rd_ixT); assumption)
  | with_reducible assumption)
local macro_rules | `(tactic| walk_at "rc") => `(tactic| first
  | with_reducible exact rc_lenL | with_reducible exact rc_lenT | with_reducible exact rc_lenScr | with_reducible exact rc_minI | with_reducible exact rc_maxI | with_reducible exact rc_minS | with_reducible exact rc_maxS | with_reducible exact rc_tup | with_reducible exact rc_listT | with_reducible exact rc_intB | with_reducible exact rc_abs
  | ((with_reducible apply rc_lenS); assumption) | with_reducible exact rc_any | with_reducible exact rc_all | with_reducible assumption)
local macro_rules | `(tactic| walk_at "ev") => `(tactic| first
  | ((with_reducible apply ev_var); rfl) | with_reducible exact ev_int | with_reducible exact ev_str | with_reducible exact ev_bl | with_reducible exact ev_non | with_reducible exact ea_nil
  | with_reducible assumption
  | ((with_reducible apply ev_op); walk_at "ev"; walk_at "ev"; walk_at "rd")
  | ((with_reducible apply ea_cons); walk_at "ev"; walk_at "ev")
  | ((with_reducible apply ev_cb); walk_at "ev"; walk_at "rc")
  | ((with_reducible apply ev_tupB); walk_at "ev"; rfl) | ((with_reducible apply ev_lstB); walk_at "ev"; rfl)
  | ((with_reducible apply ev_andV); walk_at "ev"; (intro _; walk_at "ev")) | ((with_reducible apply ev_orV); walk_at "ev"; (intro _; walk_at "ev")) | ((with_reducible apply ev_notV); walk_at "ev")
  | ((with_reducible apply ev_chain); walk_at "ev"; walk_at "ev"; walk_at "ev"; walk_at "rd"; (intro _; walk_at "rd"))
  | ((with_reducible apply eb_and); walk_at "ev"; (intro _; walk_at "ev")) | ((with_reducible apply eb_or); walk_at "ev"; (intro _; walk_at "ev")) | ((with_reducible apply eb_not); walk_at "ev") | ((with_reducible apply eb_test); walk_at "ev") | ((with_reducible apply eb_B); walk_at "ev")
  | ((with_reducible apply ev_isi (b := true)); walk_at "ev"; (intro _ z; cases z); rfl) | ((with_reducible apply ev_isi (b := false)); walk_at "ev"; (intro _ z; cases z); rfl))


-- slots of law_one_word: 0 _law_row_here, 1 _law_other, 2 _law_field, 3 _law_here, 4 _law_there
abbrev N_law_one_word : List PySem.Str := [("_law_row_here" : PySem.Str), ("_law_other" : PySem.Str), ("_law_field" : PySem.Str), ("_law_here" : PySem.Str), ("_law_there" : PySem.Str)]
theorem sc_law_one_word : FnScope N_law_one_word [("_law_row_here" : PySem.Str), ("_law_other" : PySem.Str), ("_law_field" : PySem.Str)] (defScope s_law_one_word) := ⟨rfl, rfl, rfl, by decide +kernel, rfl, by decide +kernel, by decide +kernel⟩
def t_law_one_word {K : PySem.W.Frag} {mg : PySem.Str → Option Value} (T : Tx K mg) : TS :=
  tSeq (tPar 3 4 (tCons (tDGet1 (tCB (rDictU K) (tCons (tOp (rIx K) (tVar 0) (tC (.int 1))) (tNil))) (tVar 2)) (tCons (tDGet1 (tCB (rDictU K) (tCons (tOp (rIx K) (tVar 1) (tC (.int 1))) (tNil))) (tVar 2)) (tNil)))) (tRet (tAndV (tOp (rNotNU) (tVar 3) (tC .non)) (tOp (rEqU K) (tVar 3) (tVar 4))))
theorem ok_law_one_word {P : Program} {w : World} {K : PySem.W.Frag} {mg : PySem.Str → Option Value} {base : Heap} (T : Tx K mg) : FnOk P w K mg base CX0 1 T.law_one_word.f T.law_one_word.fd [("_law_row_here" : PySem.Str), ("_law_other" : PySem.Str), ("_law_field" : PySem.Str)] (sp_law_one_word K T.C) :=
  fn_pure T.law_one_word.F sc_law_one_word (fun _ => rfl) fun cdv A outer s H0 E hr => by
  refine ⟨t_law_one_word T, pss_cons (ps_par rfl sc_law_one_word.nd (i := 3) (j := 4) rfl rfl (by decide) rfl rfl (pa_cons (pe_dget1 (hu_of hr) (pe_callTy (cDict rfl) rfl T.b_dict (by rfl) (pa_cons (pe_ix ix_seq (pv 0) (pe_int) (fun _ _ => rfl)) (pa_nil))) (pv 2) ⟨rfl, rfl, rfl, rfl⟩) (pa_cons (pe_dget1 (hu_of hr) (pe_callTy (cDict rfl) rfl T.b_dict (by rfl) (pa_cons (pe_ix ix_seq (pv 1) (pe_int) (fun _ _ => rfl)) (pa_nil))) (pv 2) ⟨rfl, rfl, rfl, rfl⟩) (pa_nil))) (by rfl)) (pss_one (ps_ret (pe_and (pe_cmpR (opIsNot) (pv 3) (pe_non) (nomark _)) (pe_one (pe_cmpR (opEq hr.units) (pv 3) (pv 4) (nomark _)))))), ?_⟩
  intro ⟨r, o, f⟩ Z Hi σ H Q ⟨h1, h2⟩ hM S q
  replace h1 : OkRow r := h1
  replace h2 : OkRow o := h2
  replace S : Sit K T.C Z Hi σ H [.dat (rowD r), .dat (rowD o), .dat (.str f), .non, .non] := S
  refine q_par (ea_cons (ev_look h1 (ev_var rfl) (ev_var rfl)) (ea_cons (ev_look h2 (ev_var rfl) (ev_var rfl)) ea_nil)) S (lt_b rfl) (lt_b rfl) fun σ1 Hi1 H1 S1 => ?_
  replace S1 : Sit K T.C Z Hi1 σ1 H1 [.dat (rowD r), .dat (rowD o), .dat (.str f), .dat (wD (lookW r f)), .dat (wD (lookW o f))] := S1
  refine s_ret (EvP.eq (ev_andV (ev_notW (ev_var rfl)) fun _ => ev_eqW (fun s e => look_ok h1 e) (fun s e => look_ok h2 e) (ev_var rfl) (ev_var rfl)) ?_) S1 fun v Hi2 H2 S2 hv => q v _ _ _ _ _ rfl S2 hv
  show D.bool _ = D.bool (oneM r o f)
  rw [one_is]
-- slots of law_tells: 0 _law_rule, 1 _law_row_here, 2 _law_other, 3 _law_here, 4 _law_there
abbrev N_law_tells : List PySem.Str := [("_law_rule" : PySem.Str), ("_law_row_here" : PySem.Str), ("_law_other" : PySem.Str), ("_law_here" : PySem.Str), ("_law_there" : PySem.Str)]
theorem sc_law_tells : FnScope N_law_tells [("_law_rule" : PySem.Str), ("_law_row_here" : PySem.Str), ("_law_other" : PySem.Str)] (defScope s_law_tells) := ⟨rfl, rfl, rfl, by decide +kernel, rfl, by decide +kernel, by decide +kernel⟩
def t_law_tells {K : PySem.W.Frag} {mg : PySem.Str → Option Value} (T : Tx K mg) : TS :=
  tSeq (tPar 3 4 (tCons (tDGet1 (tCB (rDictU K) (tCons (tOp (rIx K) (tVar 1) (tC (.int 1))) (tNil))) (tOp (rIx K) (tVar 0) (tC (.int 1)))) (tCons (tDGet1 (tCB (rDictU K) (tCons (tOp (rIx K) (tVar 2) (tC (.int 1))) (tNil))) (tOp (rIx K) (tVar 0) (tC (.int 1)))) (tNil)))) (tSeq (tIfS (tOr (tTest (tOp (rIsNU) (tVar 3) (tC .non))) (tTest (tOp (rIsNU) (tVar 4) (tC .non)))) (tRet (tC (.bl false))) (tNext)) (tSeq (tIfS (tTest (tOp (rEqU K) (tOp (rIx K) (tVar 0) (tC (.int 0))) (tC (.str ("never" : PySem.Str))))) (tRet (tOp (rNeU K) (tVar 3) (tVar 4))) (tNext)) (tSeq (tIfS (tTest (tOp (rEqU K) (tOp (rIx K) (tVar 0) (tC (.int 0))) (tC (.str ("begin" : PySem.Str))))) (tRet (tAndV (tOp (rGeU) (tCB (rLenU K) (tCons (tVar 3) (tNil))) (tOp (rIx K) (tVar 0) (tC (.int 2)))) (tAndV (tOp (rGeU) (tCB (rLenU K) (tCons (tVar 4) (tNil))) (tOp (rIx K) (tVar 0) (tC (.int 2)))) (tOp (rEqU K) (tSl (rSlU K) (tVar 3) (tNoPart) (tPart (tOp (rIx K) (tVar 0) (tC (.int 2))))) (tSl (rSlU K) (tVar 4) (tNoPart) (tPart (tOp (rIx K) (tVar 0) (tC (.int 2))))))))) (tNext)) (tSeq (tIfS (tAnd (tTest (tOp (rEqU K) (tOp (rIx K) (tVar 0) (tC (.int 0))) (tC (.str ("both" : PySem.Str))))) (tNot (tB (tCall (sp_law_one_word K T.C) [] E0 (tCons (tVar 1) (tCons (tVar 2) (tCons (tOp (rIx K) (tVar 0) (tC (.int 2))) (tNil)))))))) (tRet (tC (.bl false))) (tNext)) (tRet (tOp (rEqU K) (tVar 3) (tVar 4)))))))
theorem ok_law_tells {P : Program} {w : World} {K : PySem.W.Frag} {mg : PySem.Str → Option Value} {base : Heap} (T : Tx K mg) : FnOk P w K mg base CX0 2 T.law_tells.f T.law_tells.fd [("_law_rule" : PySem.Str), ("_law_row_here" : PySem.Str), ("_law_other" : PySem.Str)] (sp_law_tells K T.C) :=
  fn_pure T.law_tells.F sc_law_tells (fun _ => rfl) fun cdv A outer s H0 E hr => by
  refine ⟨t_law_tells T, pss_cons (ps_par rfl sc_law_tells.nd (i := 3) (j := 4) rfl rfl (by decide) rfl rfl (pa_cons (pe_dget1 (hu_of hr) (pe_callTy (cDict rfl) rfl T.b_dict (by rfl) (pa_cons (pe_ix ix_seq (pv 1) (pe_int) (fun _ _ => rfl)) (pa_nil))) (pe_ix ix_seq (pv 0) (pe_int) (fun _ _ => rfl)) ⟨rfl, rfl, rfl, rfl⟩) (pa_cons (pe_dget1 (hu_of hr) (pe_callTy (cDict rfl) rfl T.b_dict (by rfl) (pa_cons (pe_ix ix_seq (pv 2) (pe_int) (fun _ _ => rfl)) (pa_nil))) (pe_ix ix_seq (pv 0) (pe_int) (fun _ _ => rfl)) ⟨rfl, rfl, rfl, rfl⟩) (pa_nil))) (by rfl)) (pss_cons (ps_if (PW.pt (pw_or (pt_cmpR (opIs) (pv 3) (pe_non) (nomark _)) (pw_or1 (pt_cmpR (opIs) (pv 4) (pe_non) (nomark _))))) (pss_one (ps_ret (pe_bl))) (pss_nil)) (pss_cons (ps_if (pt_cmpR (opEq hr.units) (pe_ix ix_seq (pv 0) (pe_int) (fun _ _ => rfl)) (pe_str) (nomark _)) (pss_one (ps_ret (pe_cmpR (opNe hr.units) (pv 3) (pv 4) (nomark _)))) (pss_nil)) (pss_cons (ps_if (pt_cmpR (opEq hr.units) (pe_ix ix_seq (pv 0) (pe_int) (fun _ _ => rfl)) (pe_str) (nomark _)) (pss_one (ps_ret (pe_and (pe_cmpR (opGe) (pe_callB (cLen) rfl T.b_len (by decide +kernel) (pa_cons (pv 3) (pa_nil))) (pe_ix ix_seq (pv 0) (pe_int) (fun _ _ => rfl)) (nomark _)) (pe_and (pe_cmpR (opGe) (pe_callB (cLen) rfl T.b_len (by decide +kernel) (pa_cons (pv 4) (pa_nil))) (pe_ix ix_seq (pv 0) (pe_int) (fun _ _ => rfl)) (nomark _)) (pe_one (pe_cmpR (opEq hr.units) (pe_slice slU (pv 3) (po_none) (po_some (pe_ix ix_seq (pv 0) (pe_int) (fun _ _ => rfl)))) (pe_slice slU (pv 4) (po_none) (po_some (pe_ix ix_seq (pv 0) (pe_int) (fun _ _ => rfl)))) (nomark _))))))) (pss_nil)) (pss_cons (ps_if (PW.pt (pw_and (pt_cmpR (opEq hr.units) (pe_ix ix_seq (pv 0) (pe_int) (fun _ _ => rfl)) (pe_str) (nomark _)) (pw_and1 (pt_not (pt_val (pe_call (ok_law_one_word T) (hr.mono (by decide)) rfl T.law_one_word.g T.law_one_word.F.kp T.law_one_word.b .nil pass0 (pa_cons (pv 1) (pa_cons (pv 2) (pa_cons (pe_ix ix_seq (pv 0) (pe_int) (fun _ _ => rfl)) (pa_nil)))))))))) (pss_one (ps_ret (pe_bl))) (pss_nil)) (pss_one (ps_ret (pe_cmpR (opEq hr.units) (pv 3) (pv 4) (nomark _)))))))), ?_⟩
  intro ⟨u, r, o⟩ Z Hi σ H Q ⟨hu, hr1, hr2⟩ hM S q
  replace hr1 : OkRow r := hr1
  replace hr2 : OkRow o := hr2
  replace S : Sit K T.C Z Hi σ H [.dat (rulD u), .dat (rowD r), .dat (rowD o), .non, .non] := S
  have hf : RD K (rIx K) (rulD u) (.int 1) (.str u.f) := by cases u <;> exact rd_ixT rfl
  refine q_par (ea_cons (ev_look hr1 (ev_var rfl) (ev_op (ev_var (i := 0) rfl) ev_int hf)) (ea_cons (ev_look hr2 (ev_var rfl) (ev_op (ev_var (i := 0) rfl) ev_int hf)) ea_nil)) S (lt_b rfl) (lt_b rfl) fun σ1 Hi1 H1 S1 => ?_
  replace S1 : Sit K T.C Z Hi1 σ1 H1 [.dat (rulD u), .dat (rowD r), .dat (rowD o), .dat (wD (lookW r u.f)), .dat (wD (lookW o u.f))] := S1
  have hend : ∀ b : Bool, b = tellsM u r o → ∀ v Hi2 σ2 H2 ρ2, Sit K T.C Z Hi2 σ2 H2 ρ2 → Dd K Hi2 v (.bool b) → Q v H2 := fun b e v Hi2 σ2 H2 ρ2 S2 hv => q v _ _ _ _ _ rfl S2 (by rw [e] at hv; exact hv)
  unfold tellsM at hend
  cases e1 : lookW r u.f with
  | none =>
    rw [e1] at S1 hend
    exact q_when (EvB.eq (b := _) (eb_or (a := true) (b := false) (eb_test (ev_isW (x := none) (ev_var rfl))) fun e => nomatch e) rfl) S1 (fun _ Hi2 H2 S2 => s_ret ev_bl S2 fun v Hi3 H3 S3 hv => hend false rfl v _ _ _ _ S3 hv) (fun e => nomatch e)
  | some x =>
    rw [e1] at S1 hend
    cases e2 : lookW o u.f with
    | none =>
      rw [e2] at S1 hend
      exact q_when (EvB.eq (b := _) (eb_or (a := false) (b := true) (eb_test (ev_isW (x := some x) (ev_var rfl))) fun _ => eb_test (ev_isW (x := none) (ev_var rfl))) rfl) S1 (fun _ Hi2 H2 S2 => s_ret ev_bl S2 fun v Hi3 H3 S3 hv => hend false rfl v _ _ _ _ S3 hv) (fun e => nomatch e)
    | some y =>
      rw [e2] at S1 hend
      replace S1 : Sit K T.C Z Hi1 σ1 H1 [.dat (rulD u), .dat (rowD r), .dat (rowD o), .dat (.str x), .dat (.str y)] := S1
      have hx := look_ok hr1 e1
      have hy := look_ok hr2 e2
      have lx := len_w hx
      have ly := len_w hy
      refine q_no (EvB.eq (b := _) (eb_or (a := false) (b := false) (eb_test (ev_isW (x := some x) (ev_var rfl))) fun _ => eb_test (ev_isW (x := some y) (ev_var rfl))) rfl) S1 fun Hi2 H2 S2 => ?_
      cases u with
      | never f =>
        replace S2 : Sit K T.C Z Hi2 σ1 H2 [.dat (.tuple [.str "never", .str f]), .dat (rowD r), .dat (rowD o), .dat (.str x), .dat (.str y)] := S2
        exact q_when (EvB.eq (b' := true) (by walk_at "ev") (by decide +kernel)) S2 (fun _ Hi3 H3 S3 => s_ret (by walk_at "ev") S3 fun v Hi4 H4 S4 hv => hend _ rfl v _ _ _ _ S4 hv) (fun e => nomatch e)
      | same f w =>
        replace S2 : Sit K T.C Z Hi2 σ1 H2 [.dat (.tuple [.str "same", .str f, .int w]), .dat (rowD r), .dat (rowD o), .dat (.str x), .dat (.str y)] := S2
        refine q_no (EvB.eq (by walk_at "ev") (by decide +kernel)) S2 fun Hi3 H3 S3 => ?_
        refine q_no (EvB.eq (by walk_at "ev") (by decide +kernel)) S3 fun Hi4 H4 S4 => ?_
        have hno : EvB K T.C (tTest (tOp (rEqU K) (tOp (rIx K) (tVar 0) (tC (.int 0))) (tC (.str ("both" : PySem.Str))))) [.dat (.tuple [.str "same", .str f, .int w]), .dat (rowD r), .dat (rowD o), .dat (.str x), .dat (.str y)] false := EvB.eq (by walk_at "ev") (by decide +kernel)
        refine q_no (eb_and (b := true) hno (fun e => absurd e (by decide))) S4 fun Hi5 H5 S5 => ?_
        exact s_ret (by walk_at "ev") S5 fun v Hi4 H4 S4 hv => hend _ rfl v _ _ _ _ S4 hv
      | begin f n w =>
        replace S2 : Sit K T.C Z Hi2 σ1 H2 [.dat (.tuple [.str "begin", .str f, .int n, .int w]), .dat (rowD r), .dat (rowD o), .dat (.str x), .dat (.str y)] := S2
        refine q_no (EvB.eq (by walk_at "ev") (by decide +kernel)) S2 fun Hi3 H3 S3 => ?_
        refine q_when (EvB.eq (b' := true) (by walk_at "ev") (by decide +kernel)) S3 (fun _ Hi3 H3 S3 => s_ret (EvP.eq (ev_andV (by walk_at "ev") fun _ => ev_andV (by walk_at "ev") fun _ => ev_op (ev_sl (ev_var rfl) eo_none (eo_some (ev_op (ev_var rfl) ev_int (rd_ixT rfl))) (rs_S lx)) (ev_sl (ev_var rfl) eo_none (eo_some (ev_op (ev_var rfl) ev_int (rd_ixT rfl))) (rs_S ly)) rd_eqS) rfl) S3 fun v Hi4 H4 S4 hv => hend _ ?_ v _ _ _ _ S4 hv) (fun e => nomatch e)
        simp [Bool.and_assoc]
      | both f g w =>
        replace S2 : Sit K T.C Z Hi2 σ1 H2 [.dat (.tuple [.str "both", .str f, .str g, .int w]), .dat (rowD r), .dat (rowD o), .dat (.str x), .dat (.str y)] := S2
        refine q_no (EvB.eq (by walk_at "ev") (by decide +kernel)) S2 fun Hi3 H3 S3 => ?_
        refine q_no (EvB.eq (by walk_at "ev") (by decide +kernel)) S3 fun Hi4 H4 S4 => ?_
        refine q_when (EvB.eq (b' := !oneM r o g) (eb_and (a := true) (EvB.eq (by walk_at "ev") (by decide +kernel)) fun _ => eb_not (eb_B (ev_call (f := fun a : Row × Row × PySem.Str => .bool (oneM a.1 a.2.1 a.2.2)) (r, o, g) (ea_cons (ev_var rfl) (ea_cons (ev_var rfl) (ea_cons (ev_op (ev_var rfl) ev_int (rd_ixT rfl)) ea_nil))) ⟨hr1, hr2⟩))) rfl) S4 (fun e Hi3 H3 S3 => s_ret ev_bl S3 fun v Hi4 H4 S4 hv => hend _ ?_ v _ _ _ _ S4 hv) (fun e Hi3 H3 S3 => s_ret (by walk_at "ev") S3 fun v Hi4 H4 S4 hv => hend _ ?_ v _ _ _ _ S4 hv)
        · rw [Bool.not_eq_true'] at e
          show false = (decide (x = y) && oneM r o g)
          rw [e, Bool.and_false]
        · rw [Bool.not_eq_false'] at e
          show decide (x = y) = (decide (x = y) && oneM r o g)
          rw [e, Bool.and_true]
-- slots of law_reason: 0 _law_a, 1 _law_b, 2 _law_weight, 3 _law_k
abbrev N_law_reason : List PySem.Str := [("_law_a" : PySem.Str), ("_law_b" : PySem.Str), ("_law_weight" : PySem.Str), ("_law_k" : PySem.Str)]
theorem sc_law_reason : FnScope N_law_reason [("_law_a" : PySem.Str), ("_law_b" : PySem.Str), ("_law_weight" : PySem.Str), ("_law_k" : PySem.Str)] (defScope s_law_reason) := ⟨rfl, rfl, rfl, by decide +kernel, rfl, by decide +kernel, by decide +kernel⟩
def t_law_reason {K : PySem.W.Frag} {mg : PySem.Str → Option Value} (T : Tx K mg) : TS :=
  tRet (tTupP (tCons (tVar 2) (tCons (tCB (rMinU) (tCons (tVar 0) (tCons (tVar 1) (tNil)))) (tCons (tCB (rMaxU) (tCons (tVar 0) (tCons (tVar 1) (tNil)))) (tCons (tVar 3) (tNil))))))
theorem ok_law_reason {P : Program} {w : World} {K : PySem.W.Frag} {mg : PySem.Str → Option Value} {base : Heap} (T : Tx K mg) : FnOk P w K mg base CX0 1 T.law_reason.f T.law_reason.fd [("_law_a" : PySem.Str), ("_law_b" : PySem.Str), ("_law_weight" : PySem.Str), ("_law_k" : PySem.Str)] (sp_law_reason K T.C) :=
  fn_pure T.law_reason.F sc_law_reason (fun _ => rfl) fun cdv A outer s H0 E hr => by
  refine ⟨t_law_reason T, pss_one (ps_ret (pe_tupP (pa_cons (pv 2) (pa_cons (pe_callB (cMin rfl) rfl T.b_min (by decide +kernel) (pa_cons (pv 0) (pa_cons (pv 1) (pa_nil)))) (pa_cons (pe_callB (cMax rfl) rfl T.b_max (by decide +kernel) (pa_cons (pv 0) (pa_cons (pv 1) (pa_nil)))) (pa_cons (pv 3) (pa_nil))))))), ?_⟩
  intro ⟨a, b, w, k⟩ Z Hi σ H Q hp hM S q
  replace S : Sit K T.C Z Hi σ H [.dat (.str a), .dat (.str b), .dat (.int w), .dat (.int k)] := S
  refine s_ret (EvP.eq (by walk_at "ev") ?_) S fun v Hi2 H2 S2 hv => q v _ _ _ _ _ rfl S2 hv
  rfl
-- slots of law_without: 0 _law_things, 1 _law_thing, 2 _law_some
abbrev N_law_without : List PySem.Str := [("_law_things" : PySem.Str), ("_law_thing" : PySem.Str), ("_law_some" : PySem.Str)]
theorem sc_law_without : FnScope N_law_without [("_law_things" : PySem.Str), ("_law_thing" : PySem.Str)] (defScope s_law_without) := ⟨rfl, rfl, rfl, by decide +kernel, rfl, by decide +kernel, by decide +kernel⟩
def t_law_without {K : PySem.W.Frag} {mg : PySem.Str → Option Value} (T : Tx K mg) : TS :=
  tRet (tCB (rTupP K) (tCons (tLc (iSeq K (tVar 0)) (gName 2) (tTest (tOp (rNeU K) (tVar 2) (tVar 1))) (tVar 2) [2]) (tNil)))
theorem ok_law_without {P : Program} {w : World} {K : PySem.W.Frag} {mg : PySem.Str → Option Value} {base : Heap} (T : Tx K mg) : FnOk P w K mg base CX0 1 T.law_without.f T.law_without.fd [("_law_things" : PySem.Str), ("_law_thing" : PySem.Str)] (sp_law_without K T.C) :=
  fn_pure T.law_without.F sc_law_without (fun _ => rfl) fun cdv A outer s H0 E hr => by
  refine ⟨t_law_without T, pss_one (ps_ret (pe_callTy (cTup) rfl T.b_tuple (by rfl) (pa_cons (pe_lc (own := [(("_law_some" : PySem.Str), 2)]) (g := gName 2) (tt := tTest (tOp (rNeU K) (tVar 2) (tVar 1))) (te := tVar 2) rfl sc_law_without.nd (pi_seq (pv 0)) (blkOk_by (N := N_law_without) (sc := defScope s_law_without) (by decide +kernel)) (fun _ _ _ _ _ => pg_name (i := 2) sc_law_without.nd rfl (Or.inl rfl)) (fun _ _ _ _ _ => pts_one (pt_cmpR (opNe hr.units) (pv 2) (pv 1) (nomark _))) (fun _ _ _ _ _ => pv 2)) (pa_nil)))), ?_⟩
  intro ⟨xs, x⟩ Z Hi σ H Q ⟨h1, h2, h3⟩ hM S q
  replace S : Sit K T.C Z Hi σ H [.dat (.tuple xs), .dat x, .non] := S
  refine s_ret (EvP.eq (ev_cb (ea_cons (ev_fil (xs := xs) (emb := fun x => x) (fun y => !PyData.eqv (py y) (py x)) (fun y => y) (ei_seq (ev_var rfl) (.inr (by rw [List.map_id']))) (Nat.lt_of_le_of_lt h1 (by decide)) (lt_b rfl) (fun y hy => eb_test (ev_op (ev_var rfl) (ev_var rfl) (rd_neD (h3 y hy) h2))) (fun y _ _ => ev_var rfl)) ea_nil) rc_tup) ?_) S fun v Hi2 H2 S2 hv => q v _ _ _ _ _ rfl S2 hv
  rw [List.map_id']
-- slots of law_order: 0 _law_xs, 1 _law_many, 2 _law_k, 3 _law_pair
abbrev N_law_order : List PySem.Str := [("_law_xs" : PySem.Str), ("_law_many" : PySem.Str), ("_law_k" : PySem.Str), ("_law_pair" : PySem.Str)]
theorem sc_law_order : FnScope N_law_order [("_law_xs" : PySem.Str), ("_law_many" : PySem.Str)] (defScope s_law_order) := ⟨rfl, rfl, rfl, by decide +kernel, rfl, by decide +kernel, by decide +kernel⟩
def t_law_order {K : PySem.W.Frag} {mg : PySem.Str → Option Value} (T : Tx K mg) : TS :=
  tRet (tLc (iSeq K (tCB (rSortedD K) (tCons (tLc (iRng1 (tCons (tVar 1) (tNil))) (gName 2) (tYes) (tTupP (tCons (tOp (rModU) (tOp (rMulU) (tOp (rIx K) (tVar 0) (tOp (rModU) (tVar 2) (tCB (rLenU K) (tCons (tVar 0) (tNil))))) (tOp (rAddU K) (tOp (rMulU) (tC (.int 2)) (tVar 2)) (tC (.int 7)))) (tC (.int 1009))) (tCons (tVar 2) (tNil)))) [2]) (tNil)))) (gName 3) (tYes) (tOp (rIx K) (tVar 3) (tC (.int 1))) [3])
theorem ok_law_order {P : Program} {w : World} {K : PySem.W.Frag} {mg : PySem.Str → Option Value} {base : Heap} (T : Tx K mg) : FnOk P w K mg base CX0 1 T.law_order.f T.law_order.fd [("_law_xs" : PySem.Str), ("_law_many" : PySem.Str)] (sp_law_order K T.C) :=
  fn_pure T.law_order.F sc_law_order (fun _ => rfl) fun cdv A outer s H0 E hr => by
  refine ⟨t_law_order T, pss_one (ps_ret (pe_lc (own := [(("_law_pair" : PySem.Str), 3)]) (g := gName 3) (tt := tYes) (te := tOp (rIx K) (tVar 3) (tC (.int 1))) rfl sc_law_order.nd (pi_seq (pe_callB ((cr_sortedD hr.units)) rfl T.b_sorted (by decide +kernel) (pa_cons (pe_lc (own := [(("_law_k" : PySem.Str), 2)]) (g := gName 2) (tt := tYes) (te := tTupP (tCons (tOp (rModU) (tOp (rMulU) (tOp (rIx K) (tVar 0) (tOp (rModU) (tVar 2) (tCB (rLenU K) (tCons (tVar 0) (tNil))))) (tOp (rAddU K) (tOp (rMulU) (tC (.int 2)) (tVar 2)) (tC (.int 7)))) (tC (.int 1009))) (tCons (tVar 2) (tNil)))) rfl sc_law_order.nd (pi_range1 rfl T.b_range (pa_cons (pv 1) (pa_nil))) (blkOk_by (N := N_law_order) (sc := defScope s_law_order) (by decide +kernel)) (fun _ _ _ _ _ => pg_name (i := 2) sc_law_order.nd rfl (Or.inl rfl)) (fun _ _ _ _ _ => pts_nil) (fun _ _ _ _ _ => pe_tupP (pa_cons (pe_op opMod (pe_op opMul (pe_ix ix_seq (pv 0) (pe_op opMod (pv 2) (pe_callB (cLen) rfl T.b_len (by decide +kernel) (pa_cons (pv 0) (pa_nil)))) (fun _ _ => rfl)) (pe_op opAdd (pe_op opMul (pe_int) (pv 2)) (pe_int))) (pe_int)) (pa_cons (pv 2) (pa_nil))))) (pa_nil)))) (blkOk_by (N := N_law_order) (sc := defScope s_law_order) (by decide +kernel)) (fun _ _ _ _ _ => pg_name (i := 3) sc_law_order.nd rfl (Or.inl rfl)) (fun _ _ _ _ _ => pts_nil) (fun _ _ _ _ _ => pe_ix ix_seq (pv 3) (pe_int) (fun _ _ => rfl)))), ?_⟩
  intro ⟨xs, n⟩ Z Hi σ H Q ⟨h1, hX, h2⟩ hM S q
  replace h1 : xs.length = 14 := h1
  replace hX : OkX xs := hX
  replace h2 : n ≤ 200 := h2
  replace S : Sit K T.C Z Hi σ H [.dat (intsD xs), .dat (.int (n : Nat)), .non, .non] := S
  have hz : (List.range (Int.toNat (n : Nat))).length < 100000 := by
    rw [List.length_range]
    omega
  have hpairs : EvP K T.C (tLc (iRng1 (tCons (tVar 1) (tNil))) (gName 2) (tYes) (tTupP (tCons (tOp (rModU) (tOp (rMulU) (tOp (rIx K) (tVar 0) (tOp (rModU) (tVar 2) (tCB (rLenU K) (tCons (tVar 0) (tNil))))) (tOp (rAddU K) (tOp (rMulU) (tC (.int 2)) (tVar 2)) (tC (.int 7)))) (tC (.int 1009))) (tCons (tVar 2) (tNil)))) [2]) [.dat (intsD xs), .dat (.int (n : Nat)), .non, .non] (.list ((ordP xs n).map pairD)) := by
    refine EvP.eq (ev_map (xs := List.range (Int.toNat (n : Nat))) (fun k : Nat => pairD (ordG xs k, k)) (ei_range1 (by walk_at "ev") (by omega) (by omega)) hz (lt_b rfl) fun k hk => ?_) ?_
    · rw [List.mem_range] at hk
      have hk2 : k < 200 := by omega
      have e14 : ((k : Nat) : Int) % ((xs.map D.int).length : Nat) = ((k % 14 : Nat) : Int) := by
        rw [List.length_map, h1]
        omega
      have hm : (0 : Int) < ((xs.map D.int).length : Nat) := by
        rw [List.length_map, h1]
        decide
      have ak := gx_at (xs := xs) (k := k % 14) (by omega)
      rw [← e14] at ak
      have xk := gx_ok hX (k := k % 14) (by omega)
      have c1 : CMul 2 ((k : Nat) : Int) := .inl ⟨by omega, by omega⟩
      have c2 : CMul (gx xs (k % 14)) (2 * ((k : Nat) : Int) + 7) := .inl ⟨by omega, by omega⟩
      refine EvP.eq (ev_tupB (ea_cons (by walk_at "ev") (ea_cons (ev_var rfl) ea_nil)) rfl) ?_
      rfl
    · rw [Int.toNat_natCast]
      unfold ordP
      rw [List.map_map]
      rfl
  have hs := ev_cb (ea_cons hpairs ea_nil) (rc_sort (K := K) (pair_sort (ordP xs n)) (.inl rfl))
  have hl : (srt pairD (ordP xs n)).length = n := by
    unfold srt
    rw [List.length_mergeSort]
    unfold ordP
    rw [List.length_map, List.length_range]
  refine s_ret (ev_map (xs := srt pairD (ordP xs n)) (emb := pairD) (fun p => .int (p.2 : Nat)) (ei_seq hs (.inl rfl)) (by rw [hl]; omega) (lt_b rfl) fun p _ => ev_op (ev_var rfl) ev_int (rd_ixT rfl)) S fun v Hi2 H2 S2 hv => q v _ _ _ _ _ ⟨(srt pairD (ordP xs n)).map (·.2), ?_, ?_⟩ S2 hv
  · rw [List.map_map]
    rfl
  · unfold srt
    refine ((List.mergeSort_perm _ _).map _).trans ?_
    unfold ordP
    rw [List.map_map]
    have e : ((fun p : Int × Nat => p.2) ∘ fun k => (ordG xs k, k)) = id := rfl
    rw [e, List.map_id]
-- slots of law_wanted: 0 _law_state, 1 _law_rows, 2 _law_told, 3 _law_bars, 4 _law_struck_here, 5 _law_found, 6 _law_row_here, 7 _law_some
abbrev N_law_wanted : List PySem.Str := [("_law_state" : PySem.Str), ("_law_rows" : PySem.Str), ("_law_told" : PySem.Str), ("_law_bars" : PySem.Str), ("_law_struck_here" : PySem.Str), ("_law_found" : PySem.Str), ("_law_row_here" : PySem.Str), ("_law_some" : PySem.Str)]
theorem sc_law_wanted : FnScope N_law_wanted [("_law_state" : PySem.Str)] (defScope s_law_wanted) := ⟨rfl, rfl, rfl, by decide +kernel, rfl, by decide +kernel, by decide +kernel⟩
def t_law_wanted {K : PySem.W.Frag} {mg : PySem.Str → Option Value} (T : Tx K mg) : TS :=
  tSeq (tAsg (tVar 0) (gTup K 4 (gCons (gName 1) (gCons (gName 2) (gCons (gName 3) (gCons (gName 4) (gNil))))))) (tSeq (tAsg (tOp (rAddU K) (tLc (iSeq K (tVar 1)) (gName 6) (tYes) (tTupP (tCons (tC (.str ("put" : PySem.Str))) (tCons (tVar 6) (tNil)))) [6]) (tLc (iSeq K (tVar 2)) (gName 7) (tYes) (tTupP (tCons (tC (.str ("tell" : PySem.Str))) (tCons (tOp (rIx K) (tVar 7) (tC (.int 2))) (tCons (tOp (rIx K) (tVar 7) (tC (.int 1))) (tCons (tOp (rIx K) (tVar 7) (tC (.int 0))) (tNil)))))) [7])) (gName 5)) (tSeq (tAsg (tOp (rAddU K) (tVar 5) (tLc (iSeq K (tVar 3)) (gName 7) (tYes) (tTupP (tCons (tC (.str ("bar" : PySem.Str))) (tCons (tOp (rIx K) (tVar 7) (tC (.int 1))) (tCons (tOp (rIx K) (tVar 7) (tC (.int 0))) (tNil))))) [7])) (gName 5)) (tRet (tOp (rAddU K) (tVar 5) (tLc (iSeq K (tVar 4)) (gName 7) (tYes) (tTupP (tCons (tC (.str ("strike" : PySem.Str))) (tCons (tVar 7) (tNil)))) [7])))))
theorem ok_law_wanted {P : Program} {w : World} {K : PySem.W.Frag} {mg : PySem.Str → Option Value} {base : Heap} (T : Tx K mg) : FnOk P w K mg base CX0 1 T.law_wanted.f T.law_wanted.fd [("_law_state" : PySem.Str)] (sp_law_wanted K T.C) :=
  fn_pure T.law_wanted.F sc_law_wanted (fun _ => rfl) fun cdv A outer s H0 E hr => by
  refine ⟨t_law_wanted T, pss_cons (ps_asg (pv 0) (pg_tup rfl (pgs_cons (pg_name (i := 1) sc_law_wanted.nd rfl (Or.inl rfl)) (pgs_cons (pg_name (i := 2) sc_law_wanted.nd rfl (Or.inl rfl)) (pgs_cons (pg_name (i := 3) sc_law_wanted.nd rfl (Or.inl rfl)) (pgs_cons (pg_name (i := 4) sc_law_wanted.nd rfl (Or.inl rfl)) (pgs_nil))))))) (pss_cons (ps_set (i := 5) sc_law_wanted.nd rfl (Or.inl rfl) (pe_op opAdd (pe_lc (own := [(("_law_row_here" : PySem.Str), 6)]) (g := gName 6) (tt := tYes) (te := tTupP (tCons (tC (.str ("put" : PySem.Str))) (tCons (tVar 6) (tNil)))) rfl sc_law_wanted.nd (pi_seq (pv 1)) (blkOk_by (N := N_law_wanted) (sc := defScope s_law_wanted) (by decide +kernel)) (fun _ _ _ _ _ => pg_name (i := 6) sc_law_wanted.nd rfl (Or.inl rfl)) (fun _ _ _ _ _ => pts_nil) (fun _ _ _ _ _ => pe_tupP (pa_cons (pe_str) (pa_cons (pv 6) (pa_nil))))) (pe_lc (own := [(("_law_some" : PySem.Str), 7)]) (g := gName 7) (tt := tYes) (te := tTupP (tCons (tC (.str ("tell" : PySem.Str))) (tCons (tOp (rIx K) (tVar 7) (tC (.int 2))) (tCons (tOp (rIx K) (tVar 7) (tC (.int 1))) (tCons (tOp (rIx K) (tVar 7) (tC (.int 0))) (tNil)))))) rfl sc_law_wanted.nd (pi_seq (pv 2)) (blkOk_by (N := N_law_wanted) (sc := defScope s_law_wanted) (by decide +kernel)) (fun _ _ _ _ _ => pg_name (i := 7) sc_law_wanted.nd rfl (Or.inl rfl)) (fun _ _ _ _ _ => pts_nil) (fun _ _ _ _ _ => pe_tupP (pa_cons (pe_str) (pa_cons (pe_ix ix_seq (pv 7) (pe_int) (fun _ _ => rfl)) (pa_cons (pe_ix ix_seq (pv 7) (pe_int) (fun _ _ => rfl)) (pa_cons (pe_ix ix_seq (pv 7) (pe_int) (fun _ _ => rfl)) (pa_nil))))))))) (pss_cons (ps_set (i := 5) sc_law_wanted.nd rfl (Or.inl rfl) (pe_op opAdd (pv 5) (pe_lc (own := [(("_law_some" : PySem.Str), 7)]) (g := gName 7) (tt := tYes) (te := tTupP (tCons (tC (.str ("bar" : PySem.Str))) (tCons (tOp (rIx K) (tVar 7) (tC (.int 1))) (tCons (tOp (rIx K) (tVar 7) (tC (.int 0))) (tNil))))) rfl sc_law_wanted.nd (pi_seq (pv 3)) (blkOk_by (N := N_law_wanted) (sc := defScope s_law_wanted) (by decide +kernel)) (fun _ _ _ _ _ => pg_name (i := 7) sc_law_wanted.nd rfl (Or.inl rfl)) (fun _ _ _ _ _ => pts_nil) (fun _ _ _ _ _ => pe_tupP (pa_cons (pe_str) (pa_cons (pe_ix ix_seq (pv 7) (pe_int) (fun _ _ => rfl)) (pa_cons (pe_ix ix_seq (pv 7) (pe_int) (fun _ _ => rfl)) (pa_nil)))))))) (pss_one (ps_ret (pe_op opAdd (pv 5) (pe_lc (own := [(("_law_some" : PySem.Str), 7)]) (g := gName 7) (tt := tYes) (te := tTupP (tCons (tC (.str ("strike" : PySem.Str))) (tCons (tVar 7) (tNil)))) rfl sc_law_wanted.nd (pi_seq (pv 4)) (blkOk_by (N := N_law_wanted) (sc := defScope s_law_wanted) (by decide +kernel)) (fun _ _ _ _ _ => pg_name (i := 7) sc_law_wanted.nd rfl (Or.inl rfl)) (fun _ _ _ _ _ => pts_nil) (fun _ _ _ _ _ => pe_tupP (pa_cons (pe_str) (pa_cons (pv 7) (pa_nil)))))))))), ?_⟩
  intro s Z Hi σ H Q hs hM S q
  replace S : Sit K T.C Z Hi σ H [.dat (s4D s), .non, .non, .non, .non, .non, .non, .non] := S
  refine q_asgT [1, 2, 3, 4] (ev_var rfl) rfl rfl S (all_lt rfl) fun σ1 Hi1 H1 S1 => ?_
  replace S1 : Sit K T.C Z Hi1 σ1 H1 [.dat (s4D s), .dat (rowsD s.rows), .dat (rsnsD s.told), .dat (brsD s.bars), .dat (rsnsD s.struck), .non, .non, .non] := S1
  have b40 : ∀ {n : Nat}, n ≤ 40 → n < 100000 := fun h => by omega
  have hr := hs.lr
  have ht := hs.lt
  have hb := hs.lb
  have hk := hs.ls
  refine q_asg (ev_op (ev_map (xs := s.rows) (emb := rowD) (fun r => deedD (.put r)) (ei_seq (ev_var rfl) (.inr rfl)) (b40 hr) (lt_b rfl) fun r _ => ev_tupB (ea_cons ev_str (ea_cons (ev_var rfl) ea_nil)) rfl) (ev_map (xs := s.told) (emb := rsnD) (fun r => deedD (.tell r.b r.a r.w)) (ei_seq (ev_var rfl) (.inr rfl)) (b40 ht) (lt_b rfl) fun r _ => ev_tupB (ea_cons ev_str (ea_cons (ev_op (ev_var rfl) ev_int (rd_ixT rfl)) (ea_cons (ev_op (ev_var rfl) ev_int (rd_ixT rfl)) (ea_cons (ev_op (ev_var rfl) ev_int (rd_ixT rfl)) ea_nil)))) rfl) (rd_addL (by rw [List.length_map, List.length_map]; exact Nat.le_trans (m := 80) (by omega) (by decide)))) S1 (lt_b rfl) fun σ2 Hi2 H2 S2 => ?_
  refine q_asg (ev_op (ev_var rfl) (ev_map (xs := s.bars) (emb := brD) (fun r => deedD (.bar r.b r.a)) (ei_seq (ev_var rfl) (.inr rfl)) (b40 hb) (lt_b rfl) fun r _ => ev_tupB (ea_cons ev_str (ea_cons (ev_op (ev_var rfl) ev_int (rd_ixT rfl)) (ea_cons (ev_op (ev_var rfl) ev_int (rd_ixT rfl)) ea_nil))) rfl) (rd_addL (by rw [List.length_append, List.length_map, List.length_map, List.length_map]; exact Nat.le_trans (m := 120) (by omega) (by decide)))) S2 (lt_b rfl) fun σ3 Hi3 H3 S3 => ?_
  refine s_ret (EvP.eq (ev_op (ev_var rfl) (ev_map (xs := s.struck) (emb := rsnD) (fun r => deedD (.strike r)) (ei_seq (ev_var rfl) (.inr rfl)) (b40 hk) (lt_b rfl) fun r _ => ev_tupB (ea_cons ev_str (ea_cons (ev_var rfl) ea_nil)) rfl) (rd_addL (by rw [List.length_append, List.length_append, List.length_map, List.length_map, List.length_map, List.length_map]; exact Nat.le_trans (m := 160) (by omega) (by decide)))) ?_) S3 fun v Hi2 H2 S2 hv => q v _ _ _ _ _ rfl S2 hv
  unfold wanted
  simp only [List.map_append, List.map_map]
  rfl
-- slots of law_two: 0 _law_names_here, 1 _law_x, 2 _law_i, 3 _law_j
abbrev N_law_two : List PySem.Str := [("_law_names_here" : PySem.Str), ("_law_x" : PySem.Str), ("_law_i" : PySem.Str), ("_law_j" : PySem.Str)]
theorem sc_law_two : FnScope N_law_two [("_law_names_here" : PySem.Str), ("_law_x" : PySem.Str)] (defScope s_law_two) := ⟨rfl, rfl, rfl, by decide +kernel, rfl, by decide +kernel, by decide +kernel⟩
def t_law_two {K : PySem.W.Frag} {mg : PySem.Str → Option Value} (T : Tx K mg) : TS :=
  tSeq (tAsg (tOp (rModU) (tVar 1) (tCB (rLenU K) (tCons (tVar 0) (tNil)))) (gName 2)) (tSeq (tAsg (tOp (rModU) (tOp (rAddU K) (tOp (rAddU K) (tVar 2) (tC (.int 1))) (tOp (rModU) (tOp (rDivU) (tVar 1) (tCB (rLenU K) (tCons (tVar 0) (tNil)))) (tOp (rSubU) (tCB (rLenU K) (tCons (tVar 0) (tNil))) (tC (.int 1))))) (tCB (rLenU K) (tCons (tVar 0) (tNil)))) (gName 3)) (tRet (tTupP (tCons (tOp (rIx K) (tVar 0) (tVar 2)) (tCons (tOp (rIx K) (tVar 0) (tVar 3)) (tNil))))))
theorem ok_law_two {P : Program} {w : World} {K : PySem.W.Frag} {mg : PySem.Str → Option Value} {base : Heap} (T : Tx K mg) : FnOk P w K mg base CX0 1 T.law_two.f T.law_two.fd [("_law_names_here" : PySem.Str), ("_law_x" : PySem.Str)] (sp_law_two K T.C) :=
  fn_pure T.law_two.F sc_law_two (fun _ => rfl) fun cdv A outer s H0 E hr => by
  refine ⟨t_law_two T, pss_cons (ps_set (i := 2) sc_law_two.nd rfl (Or.inl rfl) (pe_op opMod (pv 1) (pe_callB (cLen) rfl T.b_len (by decide +kernel) (pa_cons (pv 0) (pa_nil))))) (pss_cons (ps_set (i := 3) sc_law_two.nd rfl (Or.inl rfl) (pe_op opMod (pe_op opAdd (pe_op opAdd (pv 2) (pe_int)) (pe_op opMod (pe_op opDiv (pv 1) (pe_callB (cLen) rfl T.b_len (by decide +kernel) (pa_cons (pv 0) (pa_nil)))) (pe_op opSub (pe_callB (cLen) rfl T.b_len (by decide +kernel) (pa_cons (pv 0) (pa_nil))) (pe_int)))) (pe_callB (cLen) rfl T.b_len (by decide +kernel) (pa_cons (pv 0) (pa_nil))))) (pss_one (ps_ret (pe_tupP (pa_cons (pe_ix ix_seq (pv 0) (pv 2) (fun _ _ => rfl)) (pa_cons (pe_ix ix_seq (pv 0) (pv 3) (fun _ _ => rfl)) (pa_nil))))))), ?_⟩
  intro ⟨ns, x⟩ Z Hi σ H Q ⟨h1, h2, h3⟩ hM S q
  replace h1 : ns.length = 6 := h1
  replace h2 : ns.Nodup := h2
  replace h3 : 0 ≤ x := h3
  replace S : Sit K T.C Z Hi σ H [.dat (strsD ns), .dat (.int x), .non, .non] := S
  have e6 : (((ns.map strD).length : Nat) : Int) = 6 := by rw [List.length_map, h1]; rfl
  have hlen : ∀ ρ : List Sl, ρ[0]? = some (.dat (strsD ns)) → EvP K T.C (tCB (rLenU K) (tCons (tVar 0) (tNil))) ρ (.int 6) := fun ρ hρ => EvP.eq (ev_cb (ea_cons (ev_var hρ) ea_nil) rc_lenL) (by rw [e6])
  refine q_asg (ev_op (ev_var rfl) (hlen _ rfl) (rd_modI (by decide))) S (lt_b rfl) fun σ1 Hi1 H1 S1 => ?_
  replace S1 : Sit K T.C Z Hi1 σ1 H1 [.dat (strsD ns), .dat (.int x), .dat (.int (x % 6)), .non] := S1
  have hl := hlen [.dat (strsD ns), .dat (.int x), .dat (.int (x % 6)), .non] rfl
  have d6 : CDivW x 6 := ⟨by decide, by decide⟩
  have m5 : (0 : Int) < 6 - 1 := by decide
  refine q_asg (d := .int ((x % 6 + 1 + x / 6 % (6 - 1)) % 6)) (by walk_at "ev") S1 (lt_b rfl) fun σ2 Hi2 H2 S2 => ?_
  replace S2 : Sit K T.C Z Hi2 σ2 H2 [.dat (strsD ns), .dat (.int x), .dat (.int (x % 6)), .dat (.int ((x % 6 + 1 + x / 6 % (6 - 1)) % 6))] := S2
  obtain ⟨i, hi⟩ : ∃ i : Nat, x % 6 = (i : Nat) := ⟨(x % 6).toNat, by omega⟩
  obtain ⟨j, hj⟩ : ∃ j : Nat, (x % 6 + 1 + x / 6 % (6 - 1)) % 6 = (j : Nat) := ⟨((x % 6 + 1 + x / 6 % (6 - 1)) % 6).toNat, by omega⟩
  have hij : i ≠ j := by omega
  have hi6 : i < ns.length := by omega
  have hj6 : j < ns.length := by omega
  rw [hj, hi] at S2
  have ai : atI (ns.map strD) (i : Int) = some (strD ns[i]) := atI_nat (by rw [List.getElem?_map, List.getElem?_eq_getElem hi6]; rfl)
  have aj : atI (ns.map strD) (j : Int) = some (strD ns[j]) := atI_nat (by rw [List.getElem?_map, List.getElem?_eq_getElem hj6]; rfl)
  exact s_ret (ev_tupB (ea_cons (ev_op (ev_var rfl) (ev_var rfl) (rd_ixL ai)) (ea_cons (ev_op (ev_var rfl) (ev_var rfl) (rd_ixL aj)) ea_nil)) rfl) S2 fun v Hi2 H2 S2 hv => q v _ _ _ _ _ ⟨ns[i], ns[j], rfl, List.getElem_mem hi6, List.getElem_mem hj6, fun e => hij (nodup_get h2 hi6 hj6 e)⟩ S2 hv
end FK

set_option Elab.async false
set_option linter.all false
set_option maxRecDepth 100000
set_option maxHeartbeats 4000000
namespace FK
open PySem PySem.Spec PyProof.Rows L2 FR
local macro_rules | `(tactic| walk_at "rd") => `(tactic| first
  | with_reducible exact rd_addI | with_reducible exact rd_subI | with_reducible exact rd_leI | with_reducible exact rd_ltI | with_reducible exact rd_geI | with_reducible exact rd_gtI | with_reducible exact rd_ltS | with_reducible exact rd_eqI | with_reducible exact rd_neI | with_reducible exact rd_eqS | with_reducible exact rd_neS
  | with_reducible exact rd_isNN | with_reducible exact rd_isNS | with_reducible exact rd_notNN | with_reducible exact rd_notNS | with_reducible exact rd_inS
  | ((with_reducible apply rd_ixT); rfl) | ((with_reducible apply rd_ixL); rfl)
  | ((with_reducible apply rd_modI); first | decide | assumption)
  | ((with_reducible apply rd_mulI); assumption) | ((with_reducible apply rd_powI); assumption) | ((with_reducible apply rd_divI); assumption) | ((with_reducible apply rd_addS); assumption) | ((with_reducible apply rd_mulS); assumption) | ((with_reducible apply rd_ixL); assumption) | ((with_reducible apply rd_ixT); assumption)
  | with_reducible assumption)
local macro_rules | `(tactic| walk_at "rc") => `(tactic| first
  | with_reducible exact rc_lenL | with_reducible exact rc_lenT | with_reducible exact rc_lenScr | with_reducible exact rc_minI | with_reducible exact rc_maxI | with_reducible exact rc_minS | with_reducible exact rc_maxS | with_reducible exact rc_tup | with_reducible exact rc_listT | with_reducible exact rc_intB | with_reducible exact rc_abs
  | ((with_reducible apply rc_lenS); assumption) | with_reducible exact rc_any | with_reducible exact rc_all | with_reducible assumption)
local macro_rules | `(tactic| walk_at "ev") => `(tactic| first
  | ((with_reducible apply ev_var); rfl) | with_reducible exact ev_int | with_reducible exact ev_str | with_reducible exact ev_bl | with_reducible exact ev_non | with_reducible exact ea_nil
  | with_reducible assumption
  | ((with_reducible apply ev_op); walk_at "ev"; walk_at "ev"; walk_at "rd")
  | ((with_reducible apply ea_cons); walk_at "ev"; walk_at "ev")
  | ((with_reducible apply ev_cb); walk_at "ev"; walk_at "rc")
  | ((with_reducible apply ev_tupB); walk_at "ev"; rfl) | ((with_reducible apply ev_lstB); walk_at "ev"; rfl)
  | ((with_reducible apply ev_andV); walk_at "ev"; (intro _; walk_at "ev")) | ((with_reducible apply ev_orV); walk_at "ev"; (intro _; walk_at "ev")) | ((with_reducible apply ev_notV); walk_at "ev")
  | ((with_reducible apply ev_chain); walk_at "ev"; walk_at "ev"; walk_at "ev"; walk_at "rd"; (intro _; walk_at "rd"))
  | ((with_reducible apply eb_and); walk_at "ev"; (intro _; walk_at "ev")) | ((with_reducible apply eb_or); walk_at "ev"; (intro _; walk_at "ev")) | ((with_reducible apply eb_not); walk_at "ev") | ((with_reducible apply eb_test); walk_at "ev") | ((with_reducible apply eb_B); walk_at "ev")
  | ((with_reducible apply ev_isi (b := true)); walk_at "ev"; (intro _ z; cases z); rfl) | ((with_reducible apply ev_isi (b := false)); walk_at "ev"; (intro _ z; cases z); rfl))


theorem less_rsns {l : List Rsn} {r : Rsn} : (l.map rsnD).filter (fun x => !PyData.eqv (py x) (py (rsnD r))) = (l.filter fun x => !decide (x = r)).map rsnD := by
  rw [List.filter_map]
  congr 1
  apply List.filter_congr
  intro x _
  show (!PyData.eqv (py (rsnD x)) (py (rsnD r))) = _
  rw [eqv_rsn]
theorem less_brs {l : List Br} {r : Br} : (l.map brD).filter (fun x => !PyData.eqv (py x) (py (brD r))) = (l.filter fun x => !decide (x = r)).map brD := by
  rw [List.filter_map]
  congr 1
  apply List.filter_congr
  intro x _
  show (!PyData.eqv (py (brD x)) (py (brD r))) = _
  rw [eqv_br]
section
variable {K : PySem.W.Frag} {C : Addr} {ρ : List Sl} {ta tb : TE}
theorem ev_withoutR {r : Rsn} {l : List Rsn} (hr : OkR r) (hl : ∀ x ∈ l, OkR x) (hz : l.length ≤ 40) (h1 : EvP K C ta ρ (rsnsD l)) (h2 : EvP K C tb ρ (rsnD r)) : EvP K C (tCall (sp_law_without K C) [] E0 (tCons ta (tCons tb tNil))) ρ (rsnsD (l.filter fun x => !decide (x = r))) := by
  refine EvP.eq (ev_call (f := fun a : List D × D => .tuple (a.1.filter fun x => !PyData.eqv (py x) (py a.2))) (l.map rsnD, rsnD r) (ea_cons h1 (ea_cons h2 ea_nil)) ⟨by rw [List.length_map]; omega, shp_rsn hr.a.w hr.b.w, fun x hx => ?_⟩) ?_
  · exact congrArg D.tuple less_rsns
  · obtain ⟨y, hy, rfl⟩ := List.mem_map.mp hx
    exact shp_rsn (hl y hy).a.w (hl y hy).b.w
theorem ev_withoutB {r : Br} {l : List Br} (hr : OkB r) (hl : ∀ x ∈ l, OkB x) (hz : l.length ≤ 40) (h1 : EvP K C ta ρ (brsD l)) (h2 : EvP K C tb ρ (brD r)) : EvP K C (tCall (sp_law_without K C) [] E0 (tCons ta (tCons tb tNil))) ρ (brsD (l.filter fun x => !decide (x = r))) := by
  refine EvP.eq (ev_call (f := fun a : List D × D => .tuple (a.1.filter fun x => !PyData.eqv (py x) (py a.2))) (l.map brD, brD r) (ea_cons h1 (ea_cons h2 ea_nil)) ⟨by rw [List.length_map]; omega, shp_br hr.a.w hr.b.w, fun x hx => ?_⟩) ?_
  · exact congrArg D.tuple less_brs
  · obtain ⟨y, hy, rfl⟩ := List.mem_map.mp hx
    exact shp_br (hl y hy).a.w (hl y hy).b.w
end
abbrev rsF : PySem.Str × PySem.Str × Int × Int → D := fun a => rsnD (reasonOf a.1 a.2.1 a.2.2.1 a.2.2.2)
-- slots of law_behind: 0 _law_state, 1 _law_deed_here, 2 _law_rows, 3 _law_told, 4 _law_bars, 5 _law_struck_here, 6 _law_word_here, 7 _law_two_here, 8 _law_row_here
abbrev N_law_behind : List PySem.Str := [("_law_state" : PySem.Str), ("_law_deed_here" : PySem.Str), ("_law_rows" : PySem.Str), ("_law_told" : PySem.Str), ("_law_bars" : PySem.Str), ("_law_struck_here" : PySem.Str), ("_law_word_here" : PySem.Str), ("_law_two_here" : PySem.Str), ("_law_row_here" : PySem.Str)]
theorem sc_law_behind : FnScope N_law_behind [("_law_state" : PySem.Str), ("_law_deed_here" : PySem.Str)] (defScope s_law_behind) := ⟨rfl, rfl, rfl, by decide +kernel, rfl, by decide +kernel, by decide +kernel⟩
def t_law_behind {K : PySem.W.Frag} {mg : PySem.Str → Option Value} (T : Tx K mg) : TS :=
  tSeq (tAsg (tVar 0) (gTup K 4 (gCons (gName 2) (gCons (gName 3) (gCons (gName 4) (gCons (gName 5) (gNil))))))) (tSeq (tAsg (tOp (rIx K) (tVar 1) (tC (.int 0))) (gName 6)) (tSeq (tIfS (tTest (tOp (rEqU K) (tVar 6) (tC (.str ("put" : PySem.Str))))) (tRet (tTupP (tCons (tOp (rAddU K) (tVar 2) (tTupP (tCons (tOp (rIx K) (tVar 1) (tC (.int 1))) (tNil)))) (tCons (tVar 3) (tCons (tVar 4) (tCons (tVar 5) (tNil))))))) (tNext)) (tSeq (tIfS (tTest (tOp (rEqU K) (tVar 6) (tC (.str ("drop" : PySem.Str))))) (tRet (tTupP (tCons (tCB (rTupP K) (tCons (tLc (iSeq K (tVar 2)) (gName 8) (tTest (tOp (rNeU K) (tOp (rIx K) (tVar 8) (tC (.int 0))) (tOp (rIx K) (tVar 1) (tC (.int 1))))) (tVar 8) [8]) (tNil))) (tCons (tVar 3) (tCons (tVar 4) (tCons (tVar 5) (tNil))))))) (tNext)) (tSeq (tIfS (tTest (tOp (rEqU K) (tVar 6) (tC (.str ("tell" : PySem.Str))))) (tRet (tTupP (tCons (tVar 2) (tCons (tOp (rAddU K) (tVar 3) (tTupP (tCons (tCall (sp_law_reason K T.C) [] E0 (tCons (tOp (rIx K) (tVar 1) (tC (.int 1))) (tCons (tOp (rIx K) (tVar 1) (tC (.int 2))) (tCons (tOp (rIx K) (tVar 1) (tC (.int 3))) (tCons (tC (.int 100)) (tNil)))))) (tNil)))) (tCons (tVar 4) (tCons (tVar 5) (tNil))))))) (tNext)) (tSeq (tIfS (tTest (tOp (rEqU K) (tVar 6) (tC (.str ("untell" : PySem.Str))))) (tRet (tTupP (tCons (tVar 2) (tCons (tCall (sp_law_without K T.C) [] E0 (tCons (tVar 3) (tCons (tCall (sp_law_reason K T.C) [] E0 (tCons (tOp (rIx K) (tVar 1) (tC (.int 1))) (tCons (tOp (rIx K) (tVar 1) (tC (.int 2))) (tCons (tOp (rIx K) (tVar 1) (tC (.int 3))) (tCons (tC (.int 100)) (tNil)))))) (tNil)))) (tCons (tVar 4) (tCons (tVar 5) (tNil))))))) (tNext)) (tSeq (tIfS (tTest (tOp (rEqU K) (tVar 6) (tC (.str ("strike" : PySem.Str))))) (tRet (tTupP (tCons (tVar 2) (tCons (tVar 3) (tCons (tVar 4) (tCons (tOp (rAddU K) (tVar 5) (tTupP (tCons (tOp (rIx K) (tVar 1) (tC (.int 1))) (tNil)))) (tNil))))))) (tNext)) (tSeq (tIfS (tTest (tOp (rEqU K) (tVar 6) (tC (.str ("unstrike" : PySem.Str))))) (tRet (tTupP (tCons (tVar 2) (tCons (tVar 3) (tCons (tVar 4) (tCons (tCall (sp_law_without K T.C) [] E0 (tCons (tVar 5) (tCons (tOp (rIx K) (tVar 1) (tC (.int 1))) (tNil)))) (tNil))))))) (tNext)) (tSeq (tAsg (tTupP (tCons (tCB (rMinU) (tCons (tOp (rIx K) (tVar 1) (tC (.int 1))) (tCons (tOp (rIx K) (tVar 1) (tC (.int 2))) (tNil)))) (tCons (tCB (rMaxU) (tCons (tOp (rIx K) (tVar 1) (tC (.int 1))) (tCons (tOp (rIx K) (tVar 1) (tC (.int 2))) (tNil)))) (tCons (tC (.int 100)) (tNil))))) (gName 7)) (tSeq (tIfS (tTest (tOp (rEqU K) (tVar 6) (tC (.str ("bar" : PySem.Str))))) (tRet (tTupP (tCons (tVar 2) (tCons (tVar 3) (tCons (tOp (rAddU K) (tVar 4) (tTupP (tCons (tVar 7) (tNil)))) (tCons (tVar 5) (tNil))))))) (tNext)) (tRet (tTupP (tCons (tVar 2) (tCons (tVar 3) (tCons (tCall (sp_law_without K T.C) [] E0 (tCons (tVar 4) (tCons (tVar 7) (tNil)))) (tCons (tVar 5) (tNil))))))))))))))))
theorem ok_law_behind {P : Program} {w : World} {K : PySem.W.Frag} {mg : PySem.Str → Option Value} {base : Heap} (T : Tx K mg) : FnOk P w K mg base CX0 2 T.law_behind.f T.law_behind.fd [("_law_state" : PySem.Str), ("_law_deed_here" : PySem.Str)] (sp_law_behind K T.C) :=
  fn_pure T.law_behind.F sc_law_behind (fun _ => rfl) fun cdv A outer s H0 E hr => by
  refine ⟨t_law_behind T, pss_cons (ps_asg (pv 0) (pg_tup rfl (pgs_cons (pg_name (i := 2) sc_law_behind.nd rfl (Or.inl rfl)) (pgs_cons (pg_name (i := 3) sc_law_behind.nd rfl (Or.inl rfl)) (pgs_cons (pg_name (i := 4) sc_law_behind.nd rfl (Or.inl rfl)) (pgs_cons (pg_name (i := 5) sc_law_behind.nd rfl (Or.inl rfl)) (pgs_nil))))))) (pss_cons (ps_set (i := 6) sc_law_behind.nd rfl (Or.inl rfl) (pe_ix ix_seq (pv 1) (pe_int) (fun _ _ => rfl))) (pss_cons (ps_if (pt_cmpR (opEq hr.units) (pv 6) (pe_str) (nomark _)) (pss_one (ps_ret (pe_tupP (pa_cons (pe_op opAdd (pv 2) (pe_tupP (pa_cons (pe_ix ix_seq (pv 1) (pe_int) (fun _ _ => rfl)) (pa_nil)))) (pa_cons (pv 3) (pa_cons (pv 4) (pa_cons (pv 5) (pa_nil)))))))) (pss_nil)) (pss_cons (ps_if (pt_cmpR (opEq hr.units) (pv 6) (pe_str) (nomark _)) (pss_one (ps_ret (pe_tupP (pa_cons (pe_callTy (cTup) rfl T.b_tuple (by rfl) (pa_cons (pe_lc (own := [(("_law_row_here" : PySem.Str), 8)]) (g := gName 8) (tt := tTest (tOp (rNeU K) (tOp (rIx K) (tVar 8) (tC (.int 0))) (tOp (rIx K) (tVar 1) (tC (.int 1))))) (te := tVar 8) rfl sc_law_behind.nd (pi_seq (pv 2)) (blkOk_by (N := N_law_behind) (sc := defScope s_law_behind) (by decide +kernel)) (fun _ _ _ _ _ => pg_name (i := 8) sc_law_behind.nd rfl (Or.inl rfl)) (fun _ _ _ _ _ => pts_one (pt_cmpR (opNe hr.units) (pe_ix ix_seq (pv 8) (pe_int) (fun _ _ => rfl)) (pe_ix ix_seq (pv 1) (pe_int) (fun _ _ => rfl)) (nomark _))) (fun _ _ _ _ _ => pv 8)) (pa_nil))) (pa_cons (pv 3) (pa_cons (pv 4) (pa_cons (pv 5) (pa_nil)))))))) (pss_nil)) (pss_cons (ps_if (pt_cmpR (opEq hr.units) (pv 6) (pe_str) (nomark _)) (pss_one (ps_ret (pe_tupP (pa_cons (pv 2) (pa_cons (pe_op opAdd (pv 3) (pe_tupP (pa_cons (pe_call (ok_law_reason T) (hr.mono (by decide)) rfl T.law_reason.g T.law_reason.F.kp T.law_reason.b .nil pass0 (pa_cons (pe_ix ix_seq (pv 1) (pe_int) (fun _ _ => rfl)) (pa_cons (pe_ix ix_seq (pv 1) (pe_int) (fun _ _ => rfl)) (pa_cons (pe_ix ix_seq (pv 1) (pe_int) (fun _ _ => rfl)) (pa_cons (pe_int) (pa_nil)))))) (pa_nil)))) (pa_cons (pv 4) (pa_cons (pv 5) (pa_nil)))))))) (pss_nil)) (pss_cons (ps_if (pt_cmpR (opEq hr.units) (pv 6) (pe_str) (nomark _)) (pss_one (ps_ret (pe_tupP (pa_cons (pv 2) (pa_cons (pe_call (ok_law_without T) (hr.mono (by decide)) rfl T.law_without.g T.law_without.F.kp T.law_without.b .nil pass0 (pa_cons (pv 3) (pa_cons (pe_call (ok_law_reason T) (hr.mono (by decide)) rfl T.law_reason.g T.law_reason.F.kp T.law_reason.b .nil pass0 (pa_cons (pe_ix ix_seq (pv 1) (pe_int) (fun _ _ => rfl)) (pa_cons (pe_ix ix_seq (pv 1) (pe_int) (fun _ _ => rfl)) (pa_cons (pe_ix ix_seq (pv 1) (pe_int) (fun _ _ => rfl)) (pa_cons (pe_int) (pa_nil)))))) (pa_nil)))) (pa_cons (pv 4) (pa_cons (pv 5) (pa_nil)))))))) (pss_nil)) (pss_cons (ps_if (pt_cmpR (opEq hr.units) (pv 6) (pe_str) (nomark _)) (pss_one (ps_ret (pe_tupP (pa_cons (pv 2) (pa_cons (pv 3) (pa_cons (pv 4) (pa_cons (pe_op opAdd (pv 5) (pe_tupP (pa_cons (pe_ix ix_seq (pv 1) (pe_int) (fun _ _ => rfl)) (pa_nil)))) (pa_nil)))))))) (pss_nil)) (pss_cons (ps_if (pt_cmpR (opEq hr.units) (pv 6) (pe_str) (nomark _)) (pss_one (ps_ret (pe_tupP (pa_cons (pv 2) (pa_cons (pv 3) (pa_cons (pv 4) (pa_cons (pe_call (ok_law_without T) (hr.mono (by decide)) rfl T.law_without.g T.law_without.F.kp T.law_without.b .nil pass0 (pa_cons (pv 5) (pa_cons (pe_ix ix_seq (pv 1) (pe_int) (fun _ _ => rfl)) (pa_nil)))) (pa_nil)))))))) (pss_nil)) (pss_cons (ps_set (i := 7) sc_law_behind.nd rfl (Or.inl rfl) (pe_tupP (pa_cons (pe_callB (cMin rfl) rfl T.b_min (by decide +kernel) (pa_cons (pe_ix ix_seq (pv 1) (pe_int) (fun _ _ => rfl)) (pa_cons (pe_ix ix_seq (pv 1) (pe_int) (fun _ _ => rfl)) (pa_nil)))) (pa_cons (pe_callB (cMax rfl) rfl T.b_max (by decide +kernel) (pa_cons (pe_ix ix_seq (pv 1) (pe_int) (fun _ _ => rfl)) (pa_cons (pe_ix ix_seq (pv 1) (pe_int) (fun _ _ => rfl)) (pa_nil)))) (pa_cons (pe_int) (pa_nil)))))) (pss_cons (ps_if (pt_cmpR (opEq hr.units) (pv 6) (pe_str) (nomark _)) (pss_one (ps_ret (pe_tupP (pa_cons (pv 2) (pa_cons (pv 3) (pa_cons (pe_op opAdd (pv 4) (pe_tupP (pa_cons (pv 7) (pa_nil)))) (pa_cons (pv 5) (pa_nil)))))))) (pss_nil)) (pss_one (ps_ret (pe_tupP (pa_cons (pv 2) (pa_cons (pv 3) (pa_cons (pe_call (ok_law_without T) (hr.mono (by decide)) rfl T.law_without.g T.law_without.F.kp T.law_without.b .nil pass0 (pa_cons (pv 4) (pa_cons (pv 7) (pa_nil)))) (pa_cons (pv 5) (pa_nil))))))))))))))))), ?_⟩
  intro ⟨s, e⟩ Z Hi σ H Q ⟨hne, hs, ah, he⟩ hM S q
  replace hs : OkS s := hs
  replace hne : e ≠ .undo := hne
  replace S : Sit K T.C Z Hi σ H [.dat (s4D s), .dat (deedD e), .non, .non, .non, .non, .non, .non, .non] := S
  refine q_asgT [2, 3, 4, 5] (ev_var rfl) rfl rfl S (all_lt rfl) fun σ1 Hi1 H1 S1 => ?_
  replace S1 : Sit K T.C Z Hi1 σ1 H1 [.dat (s4D s), .dat (deedD e), .dat (rowsD s.rows), .dat (rsnsD s.told), .dat (brsD s.bars), .dat (rsnsD s.struck), .non, .non, .non] := S1
  have hend : ∀ v Hi2 σ2 H2 ρ2, Sit K T.C Z Hi2 σ2 H2 ρ2 → Dd K Hi2 v (s4D (behind s e)) → Q v H2 := fun v Hi2 σ2 H2 ρ2 S2 hv => q v _ _ _ _ _ rfl S2 hv
  cases e with
  | undo => exact absurd rfl hne
  | put r =>
    replace S1 : Sit K T.C Z Hi1 σ1 H1 [.dat (s4D s), .dat (.tuple [.str "put", rowD r]), .dat (rowsD s.rows), .dat (rsnsD s.told), .dat (brsD s.bars), .dat (rsnsD s.struck), .non, .non, .non] := S1
    refine q_asg (d := .str "put") (ev_op (ev_var rfl) ev_int (rd_ixT rfl)) S1 (lt_b rfl) fun σ2 Hi2 H2 S2 => ?_
    replace S2 : Sit K T.C Z Hi2 σ2 H2 [.dat (s4D s), .dat (.tuple [.str "put", rowD r]), .dat (rowsD s.rows), .dat (rsnsD s.told), .dat (brsD s.bars), .dat (rsnsD s.struck), .dat (.str "put"), .non, .non] := S2
    exact q_when (EvB.eq (b' := true) (by walk_at "ev") (by decide +kernel)) S2 (fun _ Hi3 H3 S3 => s_ret (d := s4D (behind s (.put r))) (ev_tupB (ea_cons (ev_moreT (e := rowD) (x := r) hs.lr (ev_var rfl) (ev_op (ev_var rfl) ev_int (rd_ixT rfl))) (ea_cons (ev_var rfl) (ea_cons (ev_var rfl) (ea_cons (ev_var rfl) ea_nil)))) rfl) S3 fun v Hi4 H4 S4 hv => hend v _ _ _ _ S4 hv) (fun e => absurd e (by decide))
  | drop n =>
    replace S1 : Sit K T.C Z Hi1 σ1 H1 [.dat (s4D s), .dat (.tuple [.str "drop", .str n]), .dat (rowsD s.rows), .dat (rsnsD s.told), .dat (brsD s.bars), .dat (rsnsD s.struck), .non, .non, .non] := S1
    refine q_asg (d := .str "drop") (ev_op (ev_var rfl) ev_int (rd_ixT rfl)) S1 (lt_b rfl) fun σ2 Hi2 H2 S2 => ?_
    replace S2 : Sit K T.C Z Hi2 σ2 H2 [.dat (s4D s), .dat (.tuple [.str "drop", .str n]), .dat (rowsD s.rows), .dat (rsnsD s.told), .dat (brsD s.bars), .dat (rsnsD s.struck), .dat (.str "drop"), .non, .non] := S2
    refine q_no (EvB.eq (by walk_at "ev") (by decide +kernel)) S2 fun Hi2 H2 S2 => ?_
    exact q_when (EvB.eq (b' := true) (by walk_at "ev") (by decide +kernel)) S2 (fun _ Hi3 H3 S3 => s_ret (d := s4D (behind s (.drop n))) (ev_tupB (ea_cons (ev_cb (ea_cons (ev_fil (xs := s.rows) (emb := rowD) (fun r => !decide (r.n = n)) rowD (ei_seq (ev_var rfl) (.inr rfl)) (Nat.lt_of_le_of_lt hs.lr (by decide)) (lt_b rfl) (fun r _ => eb_test (ev_op (ev_op (ev_var rfl) ev_int (rd_ixT rfl)) (ev_op (ev_var rfl) ev_int (rd_ixT rfl)) rd_neS)) (fun r _ _ => ev_var rfl)) ea_nil) rc_tup) (ea_cons (ev_var rfl) (ea_cons (ev_var rfl) (ea_cons (ev_var rfl) ea_nil)))) rfl) S3 fun v Hi4 H4 S4 hv => hend v _ _ _ _ S4 hv) (fun e => absurd e (by decide))
  | tell a b w =>
    obtain ⟨ha, hb, hab, h1, h2, hm⟩ := he
    have hr := ok_reason (k := 100) ha hb hab h1 h2 (by decide)
    replace S1 : Sit K T.C Z Hi1 σ1 H1 [.dat (s4D s), .dat (.tuple [.str "tell", .str a, .str b, .int w]), .dat (rowsD s.rows), .dat (rsnsD s.told), .dat (brsD s.bars), .dat (rsnsD s.struck), .non, .non, .non] := S1
    refine q_asg (d := .str "tell") (ev_op (ev_var rfl) ev_int (rd_ixT rfl)) S1 (lt_b rfl) fun σ2 Hi2 H2 S2 => ?_
    replace S2 : Sit K T.C Z Hi2 σ2 H2 [.dat (s4D s), .dat (.tuple [.str "tell", .str a, .str b, .int w]), .dat (rowsD s.rows), .dat (rsnsD s.told), .dat (brsD s.bars), .dat (rsnsD s.struck), .dat (.str "tell"), .non, .non] := S2
    refine q_no (EvB.eq (by walk_at "ev") (by decide +kernel)) S2 fun Hi2 H2 S2 => ?_
    refine q_no (EvB.eq (by walk_at "ev") (by decide +kernel)) S2 fun Hi2 H2 S2 => ?_
    exact q_when (EvB.eq (b' := true) (by walk_at "ev") (by decide +kernel)) S2 (fun _ Hi3 H3 S3 => s_ret (d := s4D (behind s (.tell a b w))) (ev_tupB (ea_cons (ev_var rfl) (ea_cons (ev_moreT (e := rsnD) (x := reasonOf a b w 100) hs.lt (ev_var rfl) (ev_call (f := rsF) (a, b, w, 100) (ea_cons (ev_op (ev_var rfl) ev_int (rd_ixT rfl)) (ea_cons (ev_op (ev_var rfl) ev_int (rd_ixT rfl)) (ea_cons (ev_op (ev_var rfl) ev_int (rd_ixT rfl)) (ea_cons ev_int ea_nil)))) trivial)) (ea_cons (ev_var rfl) (ea_cons (ev_var rfl) ea_nil)))) rfl) S3 fun v Hi4 H4 S4 hv => hend v _ _ _ _ S4 hv) (fun e => absurd e (by decide))
  | untell a b w =>
    obtain ⟨ha, hb, hab, h1, h2, hm⟩ := he
    have hr := ok_reason (k := 100) ha hb hab h1 h2 (by decide)
    replace S1 : Sit K T.C Z Hi1 σ1 H1 [.dat (s4D s), .dat (.tuple [.str "untell", .str a, .str b, .int w]), .dat (rowsD s.rows), .dat (rsnsD s.told), .dat (brsD s.bars), .dat (rsnsD s.struck), .non, .non, .non] := S1
    refine q_asg (d := .str "untell") (ev_op (ev_var rfl) ev_int (rd_ixT rfl)) S1 (lt_b rfl) fun σ2 Hi2 H2 S2 => ?_
    replace S2 : Sit K T.C Z Hi2 σ2 H2 [.dat (s4D s), .dat (.tuple [.str "untell", .str a, .str b, .int w]), .dat (rowsD s.rows), .dat (rsnsD s.told), .dat (brsD s.bars), .dat (rsnsD s.struck), .dat (.str "untell"), .non, .non] := S2
    refine q_no (EvB.eq (by walk_at "ev") (by decide +kernel)) S2 fun Hi2 H2 S2 => ?_
    refine q_no (EvB.eq (by walk_at "ev") (by decide +kernel)) S2 fun Hi2 H2 S2 => ?_
    refine q_no (EvB.eq (by walk_at "ev") (by decide +kernel)) S2 fun Hi2 H2 S2 => ?_
    exact q_when (EvB.eq (b' := true) (by walk_at "ev") (by decide +kernel)) S2 (fun _ Hi3 H3 S3 => s_ret (d := s4D (behind s (.untell a b w))) (ev_tupB (ea_cons (ev_var rfl) (ea_cons (ev_withoutR hr hs.told hs.lt (ev_var rfl) (ev_call (f := rsF) (a, b, w, 100) (ea_cons (ev_op (ev_var rfl) ev_int (rd_ixT rfl)) (ea_cons (ev_op (ev_var rfl) ev_int (rd_ixT rfl)) (ea_cons (ev_op (ev_var rfl) ev_int (rd_ixT rfl)) (ea_cons ev_int ea_nil)))) trivial)) (ea_cons (ev_var rfl) (ea_cons (ev_var rfl) ea_nil)))) rfl) S3 fun v Hi4 H4 S4 hv => hend v _ _ _ _ S4 hv) (fun e => absurd e (by decide))
  | strike r =>
    replace S1 : Sit K T.C Z Hi1 σ1 H1 [.dat (s4D s), .dat (.tuple [.str "strike", rsnD r]), .dat (rowsD s.rows), .dat (rsnsD s.told), .dat (brsD s.bars), .dat (rsnsD s.struck), .non, .non, .non] := S1
    refine q_asg (d := .str "strike") (ev_op (ev_var rfl) ev_int (rd_ixT rfl)) S1 (lt_b rfl) fun σ2 Hi2 H2 S2 => ?_
    replace S2 : Sit K T.C Z Hi2 σ2 H2 [.dat (s4D s), .dat (.tuple [.str "strike", rsnD r]), .dat (rowsD s.rows), .dat (rsnsD s.told), .dat (brsD s.bars), .dat (rsnsD s.struck), .dat (.str "strike"), .non, .non] := S2
    refine q_no (EvB.eq (by walk_at "ev") (by decide +kernel)) S2 fun Hi2 H2 S2 => ?_
    refine q_no (EvB.eq (by walk_at "ev") (by decide +kernel)) S2 fun Hi2 H2 S2 => ?_
    refine q_no (EvB.eq (by walk_at "ev") (by decide +kernel)) S2 fun Hi2 H2 S2 => ?_
    refine q_no (EvB.eq (by walk_at "ev") (by decide +kernel)) S2 fun Hi2 H2 S2 => ?_
    exact q_when (EvB.eq (b' := true) (by walk_at "ev") (by decide +kernel)) S2 (fun _ Hi3 H3 S3 => s_ret (d := s4D (behind s (.strike r))) (ev_tupB (ea_cons (ev_var rfl) (ea_cons (ev_var rfl) (ea_cons (ev_var rfl) (ea_cons (ev_moreT (e := rsnD) (x := r) hs.ls (ev_var rfl) (ev_op (ev_var rfl) ev_int (rd_ixT rfl))) ea_nil)))) rfl) S3 fun v Hi4 H4 S4 hv => hend v _ _ _ _ S4 hv) (fun e => absurd e (by decide))
  | unstrike r =>
    replace S1 : Sit K T.C Z Hi1 σ1 H1 [.dat (s4D s), .dat (.tuple [.str "unstrike", rsnD r]), .dat (rowsD s.rows), .dat (rsnsD s.told), .dat (brsD s.bars), .dat (rsnsD s.struck), .non, .non, .non] := S1
    refine q_asg (d := .str "unstrike") (ev_op (ev_var rfl) ev_int (rd_ixT rfl)) S1 (lt_b rfl) fun σ2 Hi2 H2 S2 => ?_
    replace S2 : Sit K T.C Z Hi2 σ2 H2 [.dat (s4D s), .dat (.tuple [.str "unstrike", rsnD r]), .dat (rowsD s.rows), .dat (rsnsD s.told), .dat (brsD s.bars), .dat (rsnsD s.struck), .dat (.str "unstrike"), .non, .non] := S2
    refine q_no (EvB.eq (by walk_at "ev") (by decide +kernel)) S2 fun Hi2 H2 S2 => ?_
    refine q_no (EvB.eq (by walk_at "ev") (by decide +kernel)) S2 fun Hi2 H2 S2 => ?_
    refine q_no (EvB.eq (by walk_at "ev") (by decide +kernel)) S2 fun Hi2 H2 S2 => ?_
    refine q_no (EvB.eq (by walk_at "ev") (by decide +kernel)) S2 fun Hi2 H2 S2 => ?_
    refine q_no (EvB.eq (by walk_at "ev") (by decide +kernel)) S2 fun Hi2 H2 S2 => ?_
    exact q_when (EvB.eq (b' := true) (by walk_at "ev") (by decide +kernel)) S2 (fun _ Hi3 H3 S3 => s_ret (d := s4D (behind s (.unstrike r))) (ev_tupB (ea_cons (ev_var rfl) (ea_cons (ev_var rfl) (ea_cons (ev_var rfl) (ea_cons (ev_withoutR he.1 hs.struck hs.ls (ev_var rfl) (ev_op (ev_var rfl) ev_int (rd_ixT rfl))) ea_nil)))) rfl) S3 fun v Hi4 H4 S4 hv => hend v _ _ _ _ S4 hv) (fun e => absurd e (by decide))
  | bar a b =>
    obtain ⟨ha, hb, hab, hm⟩ := he
    have hr := ok_bar ha hb hab
    replace S1 : Sit K T.C Z Hi1 σ1 H1 [.dat (s4D s), .dat (.tuple [.str "bar", .str a, .str b]), .dat (rowsD s.rows), .dat (rsnsD s.told), .dat (brsD s.bars), .dat (rsnsD s.struck), .non, .non, .non] := S1
    refine q_asg (d := .str "bar") (ev_op (ev_var rfl) ev_int (rd_ixT rfl)) S1 (lt_b rfl) fun σ2 Hi2 H2 S2 => ?_
    replace S2 : Sit K T.C Z Hi2 σ2 H2 [.dat (s4D s), .dat (.tuple [.str "bar", .str a, .str b]), .dat (rowsD s.rows), .dat (rsnsD s.told), .dat (brsD s.bars), .dat (rsnsD s.struck), .dat (.str "bar"), .non, .non] := S2
    refine q_no (EvB.eq (by walk_at "ev") (by decide +kernel)) S2 fun Hi2 H2 S2 => ?_
    refine q_no (EvB.eq (by walk_at "ev") (by decide +kernel)) S2 fun Hi2 H2 S2 => ?_
    refine q_no (EvB.eq (by walk_at "ev") (by decide +kernel)) S2 fun Hi2 H2 S2 => ?_
    refine q_no (EvB.eq (by walk_at "ev") (by decide +kernel)) S2 fun Hi2 H2 S2 => ?_
    refine q_no (EvB.eq (by walk_at "ev") (by decide +kernel)) S2 fun Hi2 H2 S2 => ?_
    refine q_no (EvB.eq (by walk_at "ev") (by decide +kernel)) S2 fun Hi2 H2 S2 => ?_
    refine q_asg (d := brD (barOf a b)) (ev_tupB (ea_cons (ev_cb (ea_cons (ev_op (ev_var rfl) ev_int (rd_ixT rfl)) (ea_cons (ev_op (ev_var rfl) ev_int (rd_ixT rfl)) ea_nil)) rc_minS) (ea_cons (ev_cb (ea_cons (ev_op (ev_var rfl) ev_int (rd_ixT rfl)) (ea_cons (ev_op (ev_var rfl) ev_int (rd_ixT rfl)) ea_nil)) rc_maxS) (ea_cons ev_int ea_nil))) rfl) S2 (lt_b rfl) fun σ3 Hi2 H2 S2 => ?_
    replace S2 : Sit K T.C Z Hi2 σ3 H2 [.dat (s4D s), .dat (.tuple [.str "bar", .str a, .str b]), .dat (rowsD s.rows), .dat (rsnsD s.told), .dat (brsD s.bars), .dat (rsnsD s.struck), .dat (.str "bar"), .dat (brD (barOf a b)), .non] := S2
    exact q_when (EvB.eq (b' := true) (by walk_at "ev") (by decide +kernel)) S2 (fun _ Hi3 H3 S3 => s_ret (d := s4D (behind s (.bar a b))) (ev_tupB (ea_cons (ev_var rfl) (ea_cons (ev_var rfl) (ea_cons (ev_moreT (e := brD) (x := barOf a b) hs.lb (ev_var rfl) (ev_var rfl)) (ea_cons (ev_var rfl) ea_nil)))) rfl) S3 fun v Hi4 H4 S4 hv => hend v _ _ _ _ S4 hv) (fun e => absurd e (by decide))
  | unbar a b =>
    obtain ⟨ha, hb, hab, hm⟩ := he
    have hr := ok_bar ha hb hab
    replace S1 : Sit K T.C Z Hi1 σ1 H1 [.dat (s4D s), .dat (.tuple [.str "unbar", .str a, .str b]), .dat (rowsD s.rows), .dat (rsnsD s.told), .dat (brsD s.bars), .dat (rsnsD s.struck), .non, .non, .non] := S1
    refine q_asg (d := .str "unbar") (ev_op (ev_var rfl) ev_int (rd_ixT rfl)) S1 (lt_b rfl) fun σ2 Hi2 H2 S2 => ?_
    replace S2 : Sit K T.C Z Hi2 σ2 H2 [.dat (s4D s), .dat (.tuple [.str "unbar", .str a, .str b]), .dat (rowsD s.rows), .dat (rsnsD s.told), .dat (brsD s.bars), .dat (rsnsD s.struck), .dat (.str "unbar"), .non, .non] := S2
    refine q_no (EvB.eq (by walk_at "ev") (by decide +kernel)) S2 fun Hi2 H2 S2 => ?_
    refine q_no (EvB.eq (by walk_at "ev") (by decide +kernel)) S2 fun Hi2 H2 S2 => ?_
    refine q_no (EvB.eq (by walk_at "ev") (by decide +kernel)) S2 fun Hi2 H2 S2 => ?_
    refine q_no (EvB.eq (by walk_at "ev") (by decide +kernel)) S2 fun Hi2 H2 S2 => ?_
    refine q_no (EvB.eq (by walk_at "ev") (by decide +kernel)) S2 fun Hi2 H2 S2 => ?_
    refine q_no (EvB.eq (by walk_at "ev") (by decide +kernel)) S2 fun Hi2 H2 S2 => ?_
    refine q_asg (d := brD (barOf a b)) (ev_tupB (ea_cons (ev_cb (ea_cons (ev_op (ev_var rfl) ev_int (rd_ixT rfl)) (ea_cons (ev_op (ev_var rfl) ev_int (rd_ixT rfl)) ea_nil)) rc_minS) (ea_cons (ev_cb (ea_cons (ev_op (ev_var rfl) ev_int (rd_ixT rfl)) (ea_cons (ev_op (ev_var rfl) ev_int (rd_ixT rfl)) ea_nil)) rc_maxS) (ea_cons ev_int ea_nil))) rfl) S2 (lt_b rfl) fun σ3 Hi2 H2 S2 => ?_
    replace S2 : Sit K T.C Z Hi2 σ3 H2 [.dat (s4D s), .dat (.tuple [.str "unbar", .str a, .str b]), .dat (rowsD s.rows), .dat (rsnsD s.told), .dat (brsD s.bars), .dat (rsnsD s.struck), .dat (.str "unbar"), .dat (brD (barOf a b)), .non] := S2
    refine q_no (EvB.eq (by walk_at "ev") (by decide +kernel)) S2 fun Hi2 H2 S2 => ?_
    exact s_ret (d := s4D (behind s (.unbar a b))) (ev_tupB (ea_cons (ev_var rfl) (ea_cons (ev_var rfl) (ea_cons (ev_withoutB hr hs.bars hs.lb (ev_var rfl) (ev_var rfl)) (ea_cons (ev_var rfl) ea_nil)))) rfl) S2 fun v Hi4 H4 S4 hv => hend v _ _ _ _ S4 hv
end FK

set_option Elab.async false
set_option linter.all false
set_option maxRecDepth 100000
set_option maxHeartbeats 4000000
namespace FK
open PySem PySem.Spec PyProof.Rows L2 FR
local macro_rules | `(tactic| walk_at "rd") => `(tactic| first
  | with_reducible exact rd_addI | with_reducible exact rd_subI | with_reducible exact rd_leI | with_reducible exact rd_ltI | with_reducible exact rd_geI | with_reducible exact rd_gtI | with_reducible exact rd_ltS | with_reducible exact rd_eqI | with_reducible exact rd_neI | with_reducible exact rd_eqS | with_reducible exact rd_neS
  | with_reducible exact rd_isNN | with_reducible exact rd_isNS | with_reducible exact rd_notNN | with_reducible exact rd_notNS | with_reducible exact rd_inS
  | ((with_reducible apply rd_ixT); rfl) | ((with_reducible apply rd_ixL); rfl)
  | ((with_reducible apply rd_modI); first | decide | assumption)
  | ((with_reducible apply rd_mulI); assumption) | ((with_reducible apply rd_powI); assumption) | ((with_reducible apply rd_divI); assumption) | ((with_reducible apply rd_addS); assumption) | ((with_reducible apply rd_mulS); assumption) | ((with_reducible apply rd_ixL); assumption) | ((with_reducible apply rd_ixT); assumption)
  | with_reducible assumption)
local macro_rules | `(tactic| walk_at "rc") => `(tactic| first
  | with_reducible exact rc_lenL | with_reducible exact rc_lenT | with_reducible exact rc_lenScr | with_reducible exact rc_minI | with_reducible exact rc_maxI | with_reducible exact rc_minS | with_reducible exact rc_maxS | with_reducible exact rc_tup | with_reducible exact rc_listT | with_reducible exact rc_intB | with_reducible exact rc_abs
  | ((with_reducible apply rc_lenS); assumption) | with_reducible exact rc_any | with_reducible exact rc_all | with_reducible assumption)
local macro_rules | `(tactic| walk_at "ev") => `(tactic| first
  | ((with_reducible apply ev_var); rfl) | with_reducible exact ev_int | with_reducible exact ev_str | with_reducible exact ev_bl | with_reducible exact ev_non | with_reducible exact ea_nil
  | with_reducible assumption
  | ((with_reducible apply ev_op); walk_at "ev"; walk_at "ev"; walk_at "rd")
  | ((with_reducible apply ea_cons); walk_at "ev"; walk_at "ev")
  | ((with_reducible apply ev_cb); walk_at "ev"; walk_at "rc")
  | ((with_reducible apply ev_tupB); walk_at "ev"; rfl) | ((with_reducible apply ev_lstB); walk_at "ev"; rfl)
  | ((with_reducible apply ev_andV); walk_at "ev"; (intro _; walk_at "ev")) | ((with_reducible apply ev_orV); walk_at "ev"; (intro _; walk_at "ev")) | ((with_reducible apply ev_notV); walk_at "ev")
  | ((with_reducible apply ev_chain); walk_at "ev"; walk_at "ev"; walk_at "ev"; walk_at "rd"; (intro _; walk_at "rd"))
  | ((with_reducible apply eb_and); walk_at "ev"; (intro _; walk_at "ev")) | ((with_reducible apply eb_or); walk_at "ev"; (intro _; walk_at "ev")) | ((with_reducible apply eb_not); walk_at "ev") | ((with_reducible apply eb_test); walk_at "ev") | ((with_reducible apply eb_B); walk_at "ev")
  | ((with_reducible apply ev_isi (b := true)); walk_at "ev"; (intro _ z; cases z); rfl) | ((with_reducible apply ev_isi (b := false)); walk_at "ev"; (intro _ z; cases z); rfl))


theorem fl_F_ground : ∀ (F : Fo) (a : Unit), OkF F → flat (grD (groundM F.rules F.cur)) = true := fun F _ _ => flat_gr _
-- slots of F_ground: 0 self, 1 names, 2 reasons, 3 bars, 4 left, 5 told, 6 reason
abbrev N_F_ground : List PySem.Str := [("self" : PySem.Str), ("names" : PySem.Str), ("reasons" : PySem.Str), ("bars" : PySem.Str), ("left" : PySem.Str), ("told" : PySem.Str), ("reason" : PySem.Str)]
theorem sc_F_ground : FnScope N_F_ground [("self" : PySem.Str)] (defScope sF_ground) := ⟨rfl, rfl, rfl, by decide +kernel, rfl, by decide +kernel, by decide +kernel⟩
def t_F_ground {K : PySem.W.Frag} {mg : PySem.Str → Option Value} (T : Tx K mg) : TS :=
  tSeq (tAsg (tCall (sp_ground_of K T.C) [] E0 (tCons (tFld K (tVar 0) ("standing" : PySem.Str)) (tCons (tFld K (tVar 0) ("rules" : PySem.Str)) (tNil)))) (gTup K 3 (gCons (gName 1) (gCons (gName 2) (gCons (gName 3) (gNil)))))) (tSeq (tAsg (tOp (rAddU K) (tCB (rListU K) (tCons (tVar 2) (tNil))) (tLc (iSeq K (tFld K (tVar 0) ("reasons" : PySem.Str))) (gName 5) (tAnd (tTest (tOp (rInU K) (tOp (rIx K) (tVar 5) (tC (.int 1))) (tVar 1))) (tTest (tOp (rInU K) (tOp (rIx K) (tVar 5) (tC (.int 2))) (tVar 1)))) (tVar 5) [5])) (gName 2)) (tSeq (tAsg (tOp (rAddU K) (tCB (rListU K) (tCons (tVar 3) (tNil))) (tLc (iSeq K (tFld K (tVar 0) ("barred" : PySem.Str))) (gName 5) (tAnd (tTest (tOp (rInU K) (tOp (rIx K) (tVar 5) (tC (.int 0))) (tVar 1))) (tTest (tOp (rInU K) (tOp (rIx K) (tVar 5) (tC (.int 1))) (tVar 1)))) (tVar 5) [5])) (gName 3)) (tSeq (tAsg (tLc (iSeq K (tVar 2)) (gName 6) (tTest (tOp (rNotInU K) (tVar 6) (tFld K (tVar 0) ("struck" : PySem.Str)))) (tVar 6) [6]) (gName 4)) (tRet (tTupP (tCons (tVar 1) (tCons (tCB (rTupP K) (tCons (tCall (sp_in_order K T.C) [] E0 (tCons (tVar 4) (tNil))) (tNil))) (tCons (tCB (rTupP K) (tCons (tCB (rSortedD K) (tCons (tVar 3) (tNil))) (tNil))) (tNil)))))))))
theorem ok_F_ground {P : Program} {w : World} {K : PySem.W.Frag} {mg : PySem.Str → Option Value} {base : Heap} (T : Tx K mg) : FnOk P w K mg base CX0 5 T.F_ground.f T.F_ground.fd [("self" : PySem.Str)] (sp_F_ground K T.C) :=
  fn_ask T.F_ground.F sc_F_ground (fun _ => rfl) fl_F_ground fun cdv A outer s H0 E hr => by
  have hu65 : (A.deeper (envOfC ("Folk.ground" : PySem.Str) (defScope sF_ground) s.heap.objs.size T.F_ground.f cdv)).units + 65 < cLine := by have := hr.un; omega
  refine ⟨t_F_ground T, pss_cons (ps_asg (pe_call (ok_ground_of T) (hr.mono (by decide)) rfl T.ground_of.g T.ground_of.F.kp T.ground_of.b .nil pass0 (pa_cons (pe_fld (pv 0) rfl) (pa_cons (pe_fld (pv 0) rfl) (pa_nil)))) (pg_tup rfl (pgs_cons (pg_name (i := 1) sc_F_ground.nd rfl (Or.inr rfl)) (pgs_cons (pg_name (i := 2) sc_F_ground.nd rfl (Or.inl rfl)) (pgs_cons (pg_name (i := 3) sc_F_ground.nd rfl (Or.inl rfl)) (pgs_nil)))))) (pss_cons (ps_set (i := 2) sc_F_ground.nd rfl (Or.inl rfl) (pe_op opAdd (pe_callTy (cList) rfl T.b_list (by rfl) (pa_cons (pv 2) (pa_nil))) (pe_lc (own := [(("told" : PySem.Str), 5)]) (g := gName 5) (tt := tAnd (tTest (tOp (rInU K) (tOp (rIx K) (tVar 5) (tC (.int 1))) (tVar 1))) (tTest (tOp (rInU K) (tOp (rIx K) (tVar 5) (tC (.int 2))) (tVar 1)))) (te := tVar 5) rfl sc_F_ground.nd (pi_seq (pe_fld (pv 0) rfl)) (blkOk_by (N := N_F_ground) (sc := defScope sF_ground) (by decide +kernel)) (fun _ _ _ _ _ => pg_name (i := 5) sc_F_ground.nd rfl (Or.inl rfl)) (fun _ _ _ _ _ => pts_one (PW.pt (pw_and (pt_cmpR (opIn hu65) (pe_ix ix_seq (pv 5) (pe_int) (fun _ _ => rfl)) (pv 1) (by with_unfolding_all rfl)) (pw_and1 (pt_cmpR (opIn hu65) (pe_ix ix_seq (pv 5) (pe_int) (fun _ _ => rfl)) (pv 1) (by with_unfolding_all rfl)))))) (fun _ _ _ _ _ => pv 5)))) (pss_cons (ps_set (i := 3) sc_F_ground.nd rfl (Or.inl rfl) (pe_op opAdd (pe_callTy (cList) rfl T.b_list (by rfl) (pa_cons (pv 3) (pa_nil))) (pe_lc (own := [(("told" : PySem.Str), 5)]) (g := gName 5) (tt := tAnd (tTest (tOp (rInU K) (tOp (rIx K) (tVar 5) (tC (.int 0))) (tVar 1))) (tTest (tOp (rInU K) (tOp (rIx K) (tVar 5) (tC (.int 1))) (tVar 1)))) (te := tVar 5) rfl sc_F_ground.nd (pi_seq (pe_fld (pv 0) rfl)) (blkOk_by (N := N_F_ground) (sc := defScope sF_ground) (by decide +kernel)) (fun _ _ _ _ _ => pg_name (i := 5) sc_F_ground.nd rfl (Or.inl rfl)) (fun _ _ _ _ _ => pts_one (PW.pt (pw_and (pt_cmpR (opIn hu65) (pe_ix ix_seq (pv 5) (pe_int) (fun _ _ => rfl)) (pv 1) (by with_unfolding_all rfl)) (pw_and1 (pt_cmpR (opIn hu65) (pe_ix ix_seq (pv 5) (pe_int) (fun _ _ => rfl)) (pv 1) (by with_unfolding_all rfl)))))) (fun _ _ _ _ _ => pv 5)))) (pss_cons (ps_setLc (i := 4) (own := [(("reason" : PySem.Str), 6)]) (g := gName 6) (tt := tTest (tOp (rNotInU K) (tVar 6) (tFld K (tVar 0) ("struck" : PySem.Str)))) (te := tVar 6) rfl sc_F_ground.nd rfl rfl (sw_true rfl rfl rfl (by decide +kernel)) (pi_seq (pv 2)) (blkOk_by (N := N_F_ground) (sc := defScope sF_ground) (by decide +kernel)) (fun _ _ _ _ _ => pg_name (i := 6) sc_F_ground.nd rfl (Or.inl rfl)) (fun _ _ _ _ _ => pts_one (pt_cmpR (opNotIn hu65) (pv 6) (pe_fld (pv 0) rfl) (by with_unfolding_all rfl))) (fun _ _ _ _ _ => pv 6)) (pss_one (ps_ret (pe_tupP (pa_cons (pv 1) (pa_cons (pe_callTy (cTup) rfl T.b_tuple (by rfl) (pa_cons (pe_call (ok_in_order T) (hr.mono (by decide)) rfl T.in_order.g T.in_order.F.kp T.in_order.b .nil pass0 (pa_cons (pv 4) (pa_nil))) (pa_nil))) (pa_cons (pe_callTy (cTup) rfl T.b_tuple (by rfl) (pa_cons (pe_callB ((cr_sortedD hr.units)) rfl T.b_sorted (by decide +kernel) (pa_cons (pv 3) (pa_nil))) (pa_nil))) (pa_nil)))))))))), ?_⟩
  intro a F Z Hi σ H Q hF hM S q
  replace S : Sit K T.C Z Hi σ H [.fro F, .non, .non, .non, .non, .non, .non] := S
  have hs := hF.cur
  have hfr := foundR_ok hF.rules hs.rows hs.nodup
  have hfb := foundB_ok (us := F.rules) hs.rows hs.nodup
  have hfl := foundR_len (us := F.rules) hF.lr hs.lr
  have hbl := foundB_len (us := F.rules) hF.lr hs.lr
  have hN := namesM_w hs
  refine q_asgT [1, 2, 3] (ev_call (f := fun a : List Row × List Rul => grD ⟨namesM a.1, ordR (foundR a.2 a.1), srt brD (foundB a.2 a.1)⟩) (F.cur.rows, F.rules) (ea_cons (ev_fldR rfl .standing T.cl T.n_standing) (ea_cons (ev_fldR rfl .rules T.cl T.n_rules) ea_nil)) ⟨hs.rows, hs.nodup, hs.lr, hF.rules, hF.lr⟩) rfl rfl S (all_lt rfl) fun σ1 Hi1 H1 S1 => ?_
  replace S1 : Sit K T.C Z Hi1 σ1 H1 [.fro F, .dat (namesD (namesM F.cur.rows)), .dat (rsnsD (ordR (foundR F.rules F.cur.rows))), .dat (brsD (srt brD (foundB F.rules F.cur.rows))), .non, .non, .non] := S1
  have l1 : (ordR (foundR F.rules F.cur.rows)).length ≤ 12800 := by
    rw [(ordR_perm _).length_eq]
    exact hfl
  have l2 : (srt brD (foundB F.rules F.cur.rows)).length ≤ 12800 := by
    rw [srt_len]
    exact hbl
  have t1 : (F.cur.told.filter (hasR (namesM F.cur.rows))).length ≤ 40 := Nat.le_trans (List.length_filter_le _ _) hs.lt
  have t2 : (F.cur.bars.filter (hasB (namesM F.cur.rows))).length ≤ 40 := Nat.le_trans (List.length_filter_le _ _) hs.lb
  refine q_asg (d := .list ((ordR (foundR F.rules F.cur.rows) ++ F.cur.told.filter (hasR (namesM F.cur.rows))).map rsnD)) (EvP.eq (ev_op (ev_cb (ea_cons (ev_var rfl) ea_nil) rc_listT) (ev_fil (xs := F.cur.told) (emb := rsnD) (hasR (namesM F.cur.rows)) rsnD (ei_seq (ev_fldR rfl .reasons T.cl T.n_reasons) (.inr rfl)) (Nat.lt_of_le_of_lt hs.lt (by decide)) (lt_b rfl) (fun r hr => eb_and (eb_test (ev_inNT (hs.told r hr).a.w hN (ev_op (ev_var rfl) ev_int (rd_ixT rfl)) (ev_var rfl))) fun _ => eb_test (ev_inNT (hs.told r hr).b.w hN (ev_op (ev_var rfl) ev_int (rd_ixT rfl)) (ev_var rfl))) (fun r _ _ => ev_var rfl)) (rd_addL (by rw [List.length_map, List.length_map]; exact Nat.le_trans (m := 12840) (by omega) (by decide)))) (by rw [List.map_append])) S1 (lt_b rfl) fun σ2 Hi2 H2 S2 => ?_
  refine q_asg (d := .list ((srt brD (foundB F.rules F.cur.rows) ++ F.cur.bars.filter (hasB (namesM F.cur.rows))).map brD)) (EvP.eq (ev_op (ev_cb (ea_cons (ev_var rfl) ea_nil) rc_listT) (ev_fil (xs := F.cur.bars) (emb := brD) (hasB (namesM F.cur.rows)) brD (ei_seq (ev_fldR rfl .barred T.cl T.n_barred) (.inr rfl)) (Nat.lt_of_le_of_lt hs.lb (by decide)) (lt_b rfl) (fun r hr => eb_and (eb_test (ev_inNT (hs.bars r hr).a.w hN (ev_op (ev_var rfl) ev_int (rd_ixT rfl)) (ev_var rfl))) fun _ => eb_test (ev_inNT (hs.bars r hr).b.w hN (ev_op (ev_var rfl) ev_int (rd_ixT rfl)) (ev_var rfl))) (fun r _ _ => ev_var rfl)) (rd_addL (by rw [List.length_map, List.length_map]; exact Nat.le_trans (m := 12840) (by omega) (by decide)))) (by rw [List.map_append])) S2 (lt_b rfl) fun σ3 Hi3 H3 S3 => ?_
  have hall : ∀ r ∈ ordR (foundR F.rules F.cur.rows) ++ F.cur.told.filter (hasR (namesM F.cur.rows)), OkR r := fun r hr => by
    rcases List.mem_append.mp hr with h | h
    · exact (hfr r ((ordR_perm _).mem_iff.mp h)).1
    · exact hs.told r (List.mem_filter.mp h).1
  have hallB : ∀ r ∈ srt brD (foundB F.rules F.cur.rows) ++ F.cur.bars.filter (hasB (namesM F.cur.rows)), OkB r := fun r hr => by
    rcases List.mem_append.mp hr with h | h
    · exact (hfb r ((srt_perm _ _).mem_iff.mp h)).1
    · exact hs.bars r (List.mem_filter.mp h).1
  refine q_asg (ev_fil (xs := ordR (foundR F.rules F.cur.rows) ++ F.cur.told.filter (hasR (namesM F.cur.rows))) (emb := rsnD) (fun r => !decide (r ∈ F.cur.struck)) rsnD (ei_seq (ev_var rfl) (.inl rfl)) (by rw [List.length_append]; omega) (lt_b rfl) (fun r hr => eb_test (ev_notInR (hall r hr) hs.struck (ev_var rfl) (ev_fldR rfl .struck T.cl T.n_struck))) (fun r _ _ => ev_var rfl)) S3 (lt_b rfl) fun σ4 Hi4 H4 S4 => ?_
  refine s_ret (EvP.eq (ev_tupB (ea_cons (ev_var rfl) (ea_cons (ev_cb (ea_cons (ev_call (f := fun l : List Rsn => .list ((ordR l).map rsnD)) ((ordR (foundR F.rules F.cur.rows) ++ F.cur.told.filter (hasR (namesM F.cur.rows))).filter fun r => !decide (r ∈ F.cur.struck)) (ea_cons (ev_var rfl) ea_nil) ⟨fun r hr => hall r (List.mem_filter.mp hr).1, Nat.lt_of_le_of_lt (List.length_filter_le _ _) (by rw [List.length_append]; omega)⟩) ea_nil) rc_tup) (ea_cons (ev_cb (ea_cons (ev_cb (ea_cons (ev_var rfl) ea_nil) (rc_sort (enc := brD) (bs := srt brD (foundB F.rules F.cur.rows) ++ F.cur.bars.filter (hasB (namesM F.cur.rows))) (br_sort fun r hr => ⟨(hallB r hr).a.w, (hallB r hr).b.w⟩) (.inl rfl))) ea_nil) rc_tup) ea_nil))) rfl) ?_) S4 fun v Hi2 H2 S2 hv => q v _ _ _ _ S2 hv
  exact congrArg grD (ground_is F.rules F.cur)
-- slots of law_ground_due: 0 _law_rules_here, 1 _law_state, 2 _law_rows, 3 _law_told, 4 _law_bars, 5 _law_struck_here, 6 _law_names_here, 7 _law_known, 8 _law_reasons, 9 _law_shut, 10 _law_j, 11 _law_i, 12 _law_k, 13 _law_left, 14 _law_row_here, 15 _law_some
abbrev N_law_ground_due : List PySem.Str := [("_law_rules_here" : PySem.Str), ("_law_state" : PySem.Str), ("_law_rows" : PySem.Str), ("_law_told" : PySem.Str), ("_law_bars" : PySem.Str), ("_law_struck_here" : PySem.Str), ("_law_names_here" : PySem.Str), ("_law_known" : PySem.Str), ("_law_reasons" : PySem.Str), ("_law_shut" : PySem.Str), ("_law_j" : PySem.Str), ("_law_i" : PySem.Str), ("_law_k" : PySem.Str), ("_law_left" : PySem.Str), ("_law_row_here" : PySem.Str), ("_law_some" : PySem.Str)]
theorem sc_law_ground_due : FnScope N_law_ground_due [("_law_rules_here" : PySem.Str), ("_law_state" : PySem.Str)] (defScope s_law_ground_due) := ⟨rfl, rfl, rfl, by decide +kernel, rfl, by decide +kernel, by decide +kernel⟩
def t_law_ground_due {K : PySem.W.Frag} {mg : PySem.Str → Option Value} (T : Tx K mg) : TS :=
  tSeq (tAsg (tVar 1) (gTup K 4 (gCons (gName 2) (gCons (gName 3) (gCons (gName 4) (gCons (gName 5) (gNil))))))) (tSeq (tAsg (tCB (rSortedD K) (tCons (tLc (iSeq K (tVar 2)) (gName 14) (tYes) (tOp (rIx K) (tVar 14) (tC (.int 0))) [14]) (tNil))) (gName 6)) (tSeq (tAsg (tCB (rDictU K) (tCons (tLc (iSeq K (tVar 2)) (gName 14) (tYes) (tTupP (tCons (tOp (rIx K) (tVar 14) (tC (.int 0))) (tCons (tVar 14) (tNil)))) [14]) (tNil))) (gName 7)) (tSeq (tAsg (tLc (iSeq K (tVar 3)) (gName 15) (tAnd (tTest (tOp (rInU K) (tOp (rIx K) (tVar 15) (tC (.int 1))) (tVar 6))) (tTest (tOp (rInU K) (tOp (rIx K) (tVar 15) (tC (.int 2))) (tVar 6)))) (tVar 15) [15]) (gName 8)) (tSeq (tAsg (tLc (iSeq K (tVar 4)) (gName 15) (tAnd (tTest (tOp (rInU K) (tOp (rIx K) (tVar 15) (tC (.int 0))) (tVar 6))) (tTest (tOp (rInU K) (tOp (rIx K) (tVar 15) (tC (.int 1))) (tVar 6)))) (tVar 15) [15]) (gName 9)) (tSeq (tFor (iRng1 (tCons (tCB (rLenU K) (tCons (tVar 6) (tNil))) (tNil))) (gName 10) (tFor (iRng1 (tCons (tVar 10) (tNil))) (gName 11) (tFor (iRng1 (tCons (tCB (rLenU K) (tCons (tVar 0) (tNil))) (tNil))) (gName 12) (tIfS (tB (tCall (sp_law_tells K T.C) [] E0 (tCons (tOp (rIx K) (tVar 0) (tVar 12)) (tCons (tDGet (tVar 7) (tOp (rIx K) (tVar 6) (tVar 11))) (tCons (tDGet (tVar 7) (tOp (rIx K) (tVar 6) (tVar 10))) (tNil)))))) (tIfS (tTest (tOp (rEqU K) (tOp (rIx K) (tOp (rIx K) (tVar 0) (tVar 12)) (tC (.int 0))) (tC (.str ("never" : PySem.Str))))) (tDrop (tBM K "list" rAppend (tVar 9) (tCons (tTupP (tCons (tOp (rIx K) (tVar 6) (tVar 11)) (tCons (tOp (rIx K) (tVar 6) (tVar 10)) (tCons (tVar 12) (tNil))))) (tNil)))) (tDrop (tBM K "list" rAppend (tVar 8) (tCons (tTupP (tCons (tOp (rIx K) (tOp (rIx K) (tVar 0) (tVar 12)) (tOp (rSubU) (tCB (rLenU K) (tCons (tOp (rIx K) (tVar 0) (tVar 12)) (tNil))) (tC (.int 1)))) (tCons (tOp (rIx K) (tVar 6) (tVar 11)) (tCons (tOp (rIx K) (tVar 6) (tVar 10)) (tCons (tVar 12) (tNil)))))) (tNil))))) (tNext))))) (tSeq (tAsg (tCB (rSortedD K) (tCons (tLc (iSeq K (tVar 8)) (gName 15) (tTest (tOp (rNotInU K) (tVar 15) (tVar 5))) (tOp (rAddU K) (tTupP (tCons (tOp (rSubU) (tC (.int 0)) (tOp (rIx K) (tVar 15) (tC (.int 0)))) (tNil))) (tSl (rSlU K) (tVar 15) (tPart (tC (.int 1))) (tNoPart))) [15]) (tNil))) (gName 13)) (tRet (tTupP (tCons (tCB (rTupP K) (tCons (tVar 6) (tNil))) (tCons (tCB (rTupP K) (tCons (tLc (iSeq K (tVar 13)) (gName 15) (tYes) (tOp (rAddU K) (tTupP (tCons (tOp (rSubU) (tC (.int 0)) (tOp (rIx K) (tVar 15) (tC (.int 0)))) (tNil))) (tSl (rSlU K) (tVar 15) (tPart (tC (.int 1))) (tNoPart))) [15]) (tNil))) (tCons (tCB (rTupP K) (tCons (tCB (rSortedD K) (tCons (tVar 9) (tNil))) (tNil))) (tNil))))))))))))
theorem ok_law_ground_due {P : Program} {w : World} {K : PySem.W.Frag} {mg : PySem.Str → Option Value} {base : Heap} (T : Tx K mg) : FnOk P w K mg base CX0 3 T.law_ground_due.f T.law_ground_due.fd [("_law_rules_here" : PySem.Str), ("_law_state" : PySem.Str)] (sp_law_ground_due K T.C) :=
  fn_pure T.law_ground_due.F sc_law_ground_due (fun _ => rfl) fun cdv A outer s H0 E hr => by
  have hu65 : (A.deeper (envOfC ("_law_ground_due" : PySem.Str) (defScope s_law_ground_due) s.heap.objs.size T.law_ground_due.f cdv)).units + 65 < cLine := by have := hr.un; omega
  refine ⟨t_law_ground_due T, pss_cons (ps_asg (pv 1) (pg_tup rfl (pgs_cons (pg_name (i := 2) sc_law_ground_due.nd rfl (Or.inl rfl)) (pgs_cons (pg_name (i := 3) sc_law_ground_due.nd rfl (Or.inl rfl)) (pgs_cons (pg_name (i := 4) sc_law_ground_due.nd rfl (Or.inl rfl)) (pgs_cons (pg_name (i := 5) sc_law_ground_due.nd rfl (Or.inr rfl)) (pgs_nil))))))) (pss_cons (ps_set (i := 6) sc_law_ground_due.nd rfl (Or.inr rfl) (pe_callB ((cr_sortedD hr.units)) rfl T.b_sorted (by decide +kernel) (pa_cons (pe_lc (own := [(("_law_row_here" : PySem.Str), 14)]) (g := gName 14) (tt := tYes) (te := tOp (rIx K) (tVar 14) (tC (.int 0))) rfl sc_law_ground_due.nd (pi_seq (pv 2)) (blkOk_by (N := N_law_ground_due) (sc := defScope s_law_ground_due) (by decide +kernel)) (fun _ _ _ _ _ => pg_name (i := 14) sc_law_ground_due.nd rfl (Or.inl rfl)) (fun _ _ _ _ _ => pts_nil) (fun _ _ _ _ _ => pe_ix ix_seq (pv 14) (pe_int) (fun _ _ => rfl))) (pa_nil)))) (pss_cons (ps_set (i := 7) sc_law_ground_due.nd rfl (Or.inl rfl) (pe_callTy (cDict rfl) rfl T.b_dict (by rfl) (pa_cons (pe_lc (own := [(("_law_row_here" : PySem.Str), 14)]) (g := gName 14) (tt := tYes) (te := tTupP (tCons (tOp (rIx K) (tVar 14) (tC (.int 0))) (tCons (tVar 14) (tNil)))) rfl sc_law_ground_due.nd (pi_seq (pv 2)) (blkOk_by (N := N_law_ground_due) (sc := defScope s_law_ground_due) (by decide +kernel)) (fun _ _ _ _ _ => pg_name (i := 14) sc_law_ground_due.nd rfl (Or.inl rfl)) (fun _ _ _ _ _ => pts_nil) (fun _ _ _ _ _ => pe_tupP (pa_cons (pe_ix ix_seq (pv 14) (pe_int) (fun _ _ => rfl)) (pa_cons (pv 14) (pa_nil))))) (pa_nil)))) (pss_cons (ps_setLc (i := 8) (own := [(("_law_some" : PySem.Str), 15)]) (g := gName 15) (tt := tAnd (tTest (tOp (rInU K) (tOp (rIx K) (tVar 15) (tC (.int 1))) (tVar 6))) (tTest (tOp (rInU K) (tOp (rIx K) (tVar 15) (tC (.int 2))) (tVar 6)))) (te := tVar 15) rfl sc_law_ground_due.nd rfl rfl (sw_true rfl rfl rfl (by decide +kernel)) (pi_seq (pv 3)) (blkOk_by (N := N_law_ground_due) (sc := defScope s_law_ground_due) (by decide +kernel)) (fun _ _ _ _ _ => pg_name (i := 15) sc_law_ground_due.nd rfl (Or.inl rfl)) (fun _ _ _ _ _ => pts_one (PW.pt (pw_and (pt_cmpR (opIn hu65) (pe_ix ix_seq (pv 15) (pe_int) (fun _ _ => rfl)) (pv 6) (by with_unfolding_all rfl)) (pw_and1 (pt_cmpR (opIn hu65) (pe_ix ix_seq (pv 15) (pe_int) (fun _ _ => rfl)) (pv 6) (by with_unfolding_all rfl)))))) (fun _ _ _ _ _ => pv 15)) (pss_cons (ps_setLc (i := 9) (own := [(("_law_some" : PySem.Str), 15)]) (g := gName 15) (tt := tAnd (tTest (tOp (rInU K) (tOp (rIx K) (tVar 15) (tC (.int 0))) (tVar 6))) (tTest (tOp (rInU K) (tOp (rIx K) (tVar 15) (tC (.int 1))) (tVar 6)))) (te := tVar 15) rfl sc_law_ground_due.nd rfl rfl (sw_true rfl rfl rfl (by decide +kernel)) (pi_seq (pv 4)) (blkOk_by (N := N_law_ground_due) (sc := defScope s_law_ground_due) (by decide +kernel)) (fun _ _ _ _ _ => pg_name (i := 15) sc_law_ground_due.nd rfl (Or.inl rfl)) (fun _ _ _ _ _ => pts_one (PW.pt (pw_and (pt_cmpR (opIn hu65) (pe_ix ix_seq (pv 15) (pe_int) (fun _ _ => rfl)) (pv 6) (by with_unfolding_all rfl)) (pw_and1 (pt_cmpR (opIn hu65) (pe_ix ix_seq (pv 15) (pe_int) (fun _ _ => rfl)) (pv 6) (by with_unfolding_all rfl)))))) (fun _ _ _ _ _ => pv 15)) (pss_cons (ps_for PassesOwn.never rfl (pi_range1 rfl T.b_range (pa_cons (pe_callB (cLen) rfl T.b_len (by decide +kernel) (pa_cons (pv 6) (pa_nil))) (pa_nil))) (pg_name (i := 10) sc_law_ground_due.nd rfl (Or.inl rfl)) (pss_one (ps_for PassesOwn.never rfl (pi_range1 rfl T.b_range (pa_cons (pv 10) (pa_nil))) (pg_name (i := 11) sc_law_ground_due.nd rfl (Or.inl rfl)) (pss_one (ps_for PassesOwn.never rfl (pi_range1 rfl T.b_range (pa_cons (pe_callB (cLen) rfl T.b_len (by decide +kernel) (pa_cons (pv 0) (pa_nil))) (pa_nil))) (pg_name (i := 12) sc_law_ground_due.nd rfl (Or.inl rfl)) (pss_one (ps_if (pt_val (pe_call (ok_law_tells T) (hr.mono (by decide)) rfl T.law_tells.g T.law_tells.F.kp T.law_tells.b .nil pass0 (pa_cons (pe_ix ix_seq (pv 0) (pv 12) (fun _ _ => rfl)) (pa_cons (pe_dget (hu_of hr) (pv 7) (pe_ix ix_seq (pv 6) (pv 11) (fun _ _ => rfl)) (fun _ _ => rfl)) (pa_cons (pe_dget (hu_of hr) (pv 7) (pe_ix ix_seq (pv 6) (pv 10) (fun _ _ => rfl)) (fun _ _ => rfl)) (pa_nil)))))) (pss_one (ps_if (pt_cmpR (opEq hr.units) (pe_ix ix_seq (pe_ix ix_seq (pv 0) (pv 12) (fun _ _ => rfl)) (pe_int) (fun _ _ => rfl)) (pe_str) (nomark _)) (pss_one (ps_expr (pe_bm PySem.F.plainAttrs_list PySem.F.slot_list_append PySem.F.type_list_append mt_append (pv 9) (pa_cons (pe_tupP (pa_cons (pe_ix ix_seq (pv 6) (pv 11) (fun _ _ => rfl)) (pa_cons (pe_ix ix_seq (pv 6) (pv 10) (fun _ _ => rfl)) (pa_cons (pv 12) (pa_nil))))) (pa_nil))))) (pss_one (ps_expr (pe_bm PySem.F.plainAttrs_list PySem.F.slot_list_append PySem.F.type_list_append mt_append (pv 8) (pa_cons (pe_tupP (pa_cons (pe_ix ix_seq (pe_ix ix_seq (pv 0) (pv 12) (fun _ _ => rfl)) (pe_op opSub (pe_callB (cLen) rfl T.b_len (by decide +kernel) (pa_cons (pe_ix ix_seq (pv 0) (pv 12) (fun _ _ => rfl)) (pa_nil))) (pe_int)) (fun _ _ => rfl)) (pa_cons (pe_ix ix_seq (pv 6) (pv 11) (fun _ _ => rfl)) (pa_cons (pe_ix ix_seq (pv 6) (pv 10) (fun _ _ => rfl)) (pa_cons (pv 12) (pa_nil)))))) (pa_nil))))))) (pss_nil)))))))) (pss_cons (ps_set (i := 13) sc_law_ground_due.nd rfl (Or.inl rfl) (pe_callB ((cr_sortedD hr.units)) rfl T.b_sorted (by decide +kernel) (pa_cons (pe_lc (own := [(("_law_some" : PySem.Str), 15)]) (g := gName 15) (tt := tTest (tOp (rNotInU K) (tVar 15) (tVar 5))) (te := tOp (rAddU K) (tTupP (tCons (tOp (rSubU) (tC (.int 0)) (tOp (rIx K) (tVar 15) (tC (.int 0)))) (tNil))) (tSl (rSlU K) (tVar 15) (tPart (tC (.int 1))) (tNoPart))) rfl sc_law_ground_due.nd (pi_seq (pv 8)) (blkOk_by (N := N_law_ground_due) (sc := defScope s_law_ground_due) (by decide +kernel)) (fun _ _ _ _ _ => pg_name (i := 15) sc_law_ground_due.nd rfl (Or.inl rfl)) (fun _ _ _ _ _ => pts_one (pt_cmpR (opNotIn hu65) (pv 15) (pv 5) (by with_unfolding_all rfl))) (fun _ _ _ _ _ => pe_op opAdd (pe_tupP (pa_cons (pe_op opSub (pe_int) (pe_ix ix_seq (pv 15) (pe_int) (fun _ _ => rfl))) (pa_nil))) (pe_slice slU (pv 15) (po_some (pe_int)) (po_none)))) (pa_nil)))) (pss_one (ps_ret (pe_tupP (pa_cons (pe_callTy (cTup) rfl T.b_tuple (by rfl) (pa_cons (pv 6) (pa_nil))) (pa_cons (pe_callTy (cTup) rfl T.b_tuple (by rfl) (pa_cons (pe_lc (own := [(("_law_some" : PySem.Str), 15)]) (g := gName 15) (tt := tYes) (te := tOp (rAddU K) (tTupP (tCons (tOp (rSubU) (tC (.int 0)) (tOp (rIx K) (tVar 15) (tC (.int 0)))) (tNil))) (tSl (rSlU K) (tVar 15) (tPart (tC (.int 1))) (tNoPart))) rfl sc_law_ground_due.nd (pi_seq (pv 13)) (blkOk_by (N := N_law_ground_due) (sc := defScope s_law_ground_due) (by decide +kernel)) (fun _ _ _ _ _ => pg_name (i := 15) sc_law_ground_due.nd rfl (Or.inl rfl)) (fun _ _ _ _ _ => pts_nil) (fun _ _ _ _ _ => pe_op opAdd (pe_tupP (pa_cons (pe_op opSub (pe_int) (pe_ix ix_seq (pv 15) (pe_int) (fun _ _ => rfl))) (pa_nil))) (pe_slice slU (pv 15) (po_some (pe_int)) (po_none)))) (pa_nil))) (pa_cons (pe_callTy (cTup) rfl T.b_tuple (by rfl) (pa_cons (pe_callB ((cr_sortedD hr.units)) rfl T.b_sorted (by decide +kernel) (pa_cons (pv 9) (pa_nil))) (pa_nil))) (pa_nil))))))))))))), ?_⟩
  intro ⟨us, s⟩ Z Hi σ H Q ⟨hs, hu, hul⟩ hM S q
  replace hs : OkS s := hs
  replace hu : ∀ u ∈ us, OkRul u := hu
  replace hul : us.length ≤ 8 := hul
  replace S : Sit K T.C Z Hi σ H [.dat (rulesD us), .dat (s4D s), .non, .non, .non, .non, .non, .non, .non, .non, .non, .non, .non, .non, .non, .non] := S
  have hN := namesM_w hs
  have hnl : (namesM s.rows).length = s.rows.length := by
    unfold namesM
    rw [srt_len, List.length_map]
  have hRl : (srt rowD s.rows).length = s.rows.length := srt_len _ _
  have hl40 := hs.lr
  refine q_asgT [2, 3, 4, 5] (ev_var rfl) rfl rfl S (all_lt rfl) fun σ1 Hi1 H1 S1 => ?_
  refine q_asg (ev_cb (ea_cons (ev_map (xs := s.rows) (emb := rowD) (fun r => strD r.n) (ei_seq (ev_var rfl) (.inr rfl)) (Nat.lt_of_le_of_lt hl40 (by decide)) (lt_b rfl) fun r _ => ev_op (ev_var rfl) ev_int (rd_ixT rfl)) ea_nil) (rc_sort (enc := strD) (bs := s.rows.map (·.n)) (str_sort (rows_w hs)) (.inl (by rw [List.map_map]; rfl)))) S1 (lt_b rfl) fun σ2 Hi2 H2 S2 => ?_
  refine q_asg (ev_cb (ea_cons (ev_map (xs := s.rows) (emb := rowD) (fun r => .tuple [.str r.n, rowD r]) (ei_seq (ev_var rfl) (.inr rfl)) (Nat.lt_of_le_of_lt hl40 (by decide)) (lt_b rfl) fun r _ => ev_tupB (ea_cons (ev_op (ev_var rfl) ev_int (rd_ixT rfl)) (ea_cons (ev_var rfl) ea_nil)) rfl) ea_nil) (known_rc hs)) S2 (lt_b rfl) fun σ3 Hi3 H3 S3 => ?_
  replace S3 : Sit K T.C Z Hi3 σ3 H3 [.dat (rulesD us), .dat (s4D s), .dat (rowsD s.rows), .dat (rsnsD s.told), .dat (brsD s.bars), .dat (rsnsD s.struck), .dat (strsD (namesM s.rows)), .dat (.dct (knownK s.rows)), .non, .non, .non, .non, .non, .non, .non, .non] := S3
  refine q_newFil (i := 15) (j := 8) (xs := s.told) (emb := rsnD) (hasR (namesM s.rows)) rsnD (ei_seq (ev_var rfl) (.inr rfl)) (Nat.lt_of_le_of_lt hs.lt (by decide)) (lt_b rfl) (fun r hr => eb_and (eb_test (ev_inNL (hs.told r hr).a.w hN (ev_op (ev_var rfl) ev_int (rd_ixT rfl)) (ev_var rfl))) fun _ => eb_test (ev_inNL (hs.told r hr).b.w hN (ev_op (ev_var rfl) ev_int (rd_ixT rfl)) (ev_var rfl))) (fun r _ _ => ev_var rfl) S3 (lt_b rfl) fun σ4 Hi4 H4 S4 => ?_
  refine q_newFil (i := 15) (j := 9) (xs := s.bars) (emb := brD) (hasB (namesM s.rows)) brD (ei_seq (ev_var rfl) (.inr rfl)) (Nat.lt_of_le_of_lt hs.lb (by decide)) (lt_b rfl) (fun r hr => eb_and (eb_test (ev_inNL (hs.bars r hr).a.w hN (ev_op (ev_var rfl) ev_int (rd_ixT rfl)) (ev_var rfl))) fun _ => eb_test (ev_inNL (hs.bars r hr).b.w hN (ev_op (ev_var rfl) ev_int (rd_ixT rfl)) (ev_var rfl))) (fun r _ _ => ev_var rfl) S4 (lt_b rfl) fun σ5 Hi5 H5 S5 => ?_
  have t1 : ((s.told.filter (hasR (namesM s.rows))).map rsnD).length ≤ 40 := by
    rw [List.length_map]
    exact Nat.le_trans (List.length_filter_le _ _) hs.lt
  have t2 : ((s.bars.filter (hasB (namesM s.rows))).map brD).length ≤ 40 := by
    rw [List.length_map]
    exact Nat.le_trans (List.length_filter_le _ _) hs.lb
  replace S5 : Sit K T.C Z Hi5 σ5 H5 [.dat (rulesD us), .dat (s4D s), .dat (rowsD s.rows), .dat (rsnsD s.told), .dat (brsD s.bars), .dat (rsnsD s.struck), .dat (strsD (namesM s.rows)), .dat (.dct (knownK s.rows)), .own ((s.told.filter (hasR (namesM s.rows))).map rsnD), .own ((s.bars.filter (hasB (namesM s.rows))).map brD), .non, .non, .non, .non, .non, .non] := S5
  have elen : Int.toNat ((((namesM s.rows).map strD).length : Nat) : Int) = s.rows.length := by
    rw [List.length_map, hnl, Int.toNat_natCast]
  have eul : Int.toNat (((us.map rulD).length : Nat) : Int) = us.length := by
    rw [List.length_map, Int.toNat_natCast]
  have bl : ((((namesM s.rows).map strD).length : Nat) : Int) ≤ 40 := by
    rw [List.length_map, hnl]
    omega
  have bu : (((us.map rulD).length : Nat) : Int) ≤ 8 := by
    rw [List.length_map]
    omega
  have nameAt : ∀ i, i < s.rows.length → atI ((namesM s.rows).map strD) (i : Int) = some (strD (atR (srt rowD s.rows) i).n) := fun i hi => by
    refine atI_nat ?_
    unfold namesM
    rw [← names_sorted, List.map_map, List.getElem?_map, atR_get (by rw [hRl]; exact hi)]
    rfl
  have rowOk : ∀ i, i < s.rows.length → OkRow (atR (srt rowD s.rows) i) ∧ atR (srt rowD s.rows) i ∈ s.rows := fun i hi => by
    have hm := List.mem_of_getElem? (atR_get (l := srt rowD s.rows) (i := i) (by rw [hRl]; exact hi))
    have hm2 := (srt_perm rowD s.rows).mem_iff.mp hm
    exact ⟨hs.rows _ hm2, hm2⟩
  have knownAt : ∀ i, i < s.rows.length → lookD (knownK s.rows) (atR (srt rowD s.rows) i).n = some (rowD (atR (srt rowD s.rows) i)) := fun i hi => known_at hs.nodup (rowOk i hi).2
  refine q_grow (J := Sl × Sl × Sl × Sl × Sl × Sl) (xs := List.range (Int.toNat ((((namesM s.rows).map strD).length : Nat) : Int))) (emb := fun j => .int (j : Nat)) (fun j A B => [.dat (rulesD us), .dat (s4D s), .dat (rowsD s.rows), .dat (rsnsD s.told), .dat (brsD s.bars), .dat (rsnsD s.struck), .dat (strsD (namesM s.rows)), .dat (.dct (knownK s.rows)), .own A, .own B, j.1, j.2.1, j.2.2.1, j.2.2.2.1, j.2.2.2.2.1, j.2.2.2.2.2])
    (fun j => (List.range j).flatMap fun i => (betR us (atR (srt rowD s.rows) i) (atR (srt rowD s.rows) j)).map rsnD) (fun j => (List.range j).flatMap fun i => (betB us (atR (srt rowD s.rows) i) (atR (srt rowD s.rows) j)).map brD) 320 320 (fun j hj => ?_) (fun j hj => ?_) (.non, .non, .non, .non, .non, .non) _ _ (ei_range1 (ea_cons (ev_cb (ea_cons (ev_var rfl) ea_nil) rc_lenL) ea_nil) (by omega) (by omega)) S5 (fun j => [(10, .int (j : Nat))]) (fun j _ => gt_name) (fun j A B x _ z hz => by rw [List.mem_singleton] at hz; rw [hz]; exact lt_b rfl) (fun Z1 i0 j jk A B hj hA hB Hi6 σ6 H6 S6 => ?_) (fun jk Hi6 σ6 H6 S6 => ?_)
  · rw [List.mem_range, elen] at hj
    have h1 := flat_le (f := fun i => (betR us (atR (srt rowD s.rows) i) (atR (srt rowD s.rows) j)).map rsnD) (n := 8) (xs := List.range j) fun i _ => by
      rw [List.length_map]
      exact Nat.le_trans (betR_len us _ _) hul
    rw [List.length_range] at h1
    omega
  · rw [List.mem_range, elen] at hj
    have h1 := flat_le (f := fun i => (betB us (atR (srt rowD s.rows) i) (atR (srt rowD s.rows) j)).map brD) (n := 8) (xs := List.range j) fun i _ => by
      rw [List.length_map]
      exact Nat.le_trans (betB_len us _ _) hul
    rw [List.length_range] at h1
    omega
  · rw [List.length_range, elen] at hA hB
    have hA0 : A.length ≤ 12840 := by omega
    have hB0 : B.length ≤ 12840 := by omega
    have hj1 : j < s.rows.length := by
      have hm := List.mem_of_getElem? hj
      rw [List.mem_range, elen] at hm
      exact hm
    replace S6 : Sit K T.C Z1 Hi6 σ6 H6 [.dat (rulesD us), .dat (s4D s), .dat (rowsD s.rows), .dat (rsnsD s.told), .dat (brsD s.bars), .dat (rsnsD s.struck), .dat (strsD (namesM s.rows)), .dat (.dct (knownK s.rows)), .own A, .own B, .dat (.int (j : Nat)), jk.2.1, jk.2.2.1, jk.2.2.2.1, jk.2.2.2.2.1, jk.2.2.2.2.2] := S6
    refine s_grow (J := Sl × Sl × Sl × Sl × Sl) (xs := List.range (Int.toNat (j : Nat))) (emb := fun i => .int (i : Nat)) (fun k A B => [.dat (rulesD us), .dat (s4D s), .dat (rowsD s.rows), .dat (rsnsD s.told), .dat (brsD s.bars), .dat (rsnsD s.struck), .dat (strsD (namesM s.rows)), .dat (.dct (knownK s.rows)), .own A, .own B, .dat (.int (j : Nat)), k.1, k.2.1, k.2.2.1, k.2.2.2.1, k.2.2.2.2])
      (fun i => (betR us (atR (srt rowD s.rows) i) (atR (srt rowD s.rows) j)).map rsnD) (fun i => (betB us (atR (srt rowD s.rows) i) (atR (srt rowD s.rows) j)).map brD) 8 8 (fun o _ => by rw [List.length_map]; exact Nat.le_trans (betR_len us _ _) hul) (fun o _ => by rw [List.length_map]; exact Nat.le_trans (betB_len us _ _) hul) (jk.2.1, jk.2.2.1, jk.2.2.2.1, jk.2.2.2.2.1, jk.2.2.2.2.2) A B (ei_range1 (ea_cons (ev_var rfl) ea_nil) (by omega) (by omega)) S6 (fun o => [(11, .int (o : Nat))]) (fun o _ => gt_name) (fun j A B o _ z hz => by rw [List.mem_singleton] at hz; rw [hz]; exact lt_b rfl) (fun Z2 i2 i j2 A2 B2 hi hA2 hB2 Hi7 σ7 H7 S7 => ?_) (fun j2 Hi7 σ7 H7 S7 => ⟨_, _, ⟨(.dat (.int (j : Nat)), j2.1, j2.2.1, j2.2.2.1, j2.2.2.2.1, j2.2.2.2.2), rfl⟩, S7⟩)
    rw [List.length_range, Int.toNat_natCast] at hA2 hB2
    have hA3 : A2.length ≤ 13200 := by omega
    have hB3 : B2.length ≤ 13200 := by omega
    have hi1 : i < s.rows.length := by
      have hm := List.mem_of_getElem? hi
      rw [List.mem_range, Int.toNat_natCast] at hm
      omega
    replace S7 : Sit K T.C Z2 Hi7 σ7 H7 [.dat (rulesD us), .dat (s4D s), .dat (rowsD s.rows), .dat (rsnsD s.told), .dat (brsD s.bars), .dat (rsnsD s.struck), .dat (strsD (namesM s.rows)), .dat (.dct (knownK s.rows)), .own A2, .own B2, .dat (.int (j : Nat)), .dat (.int (i : Nat)), j2.2.1, j2.2.2.1, j2.2.2.2.1, j2.2.2.2.2] := S7
    refine s_grow (J := Sl × Sl × Sl × Sl) (xs := List.range (Int.toNat (((us.map rulD).length : Nat) : Int))) (emb := fun i => .int (i : Nat)) (fun k A B => [.dat (rulesD us), .dat (s4D s), .dat (rowsD s.rows), .dat (rsnsD s.told), .dat (brsD s.bars), .dat (rsnsD s.struck), .dat (strsD (namesM s.rows)), .dat (.dct (knownK s.rows)), .own A, .own B, .dat (.int (j : Nat)), .dat (.int (i : Nat)), k.1, k.2.1, k.2.2.1, k.2.2.2])
      (fun k => if (tellsM (uAt us k) (atR (srt rowD s.rows) i) (atR (srt rowD s.rows) j) && !(uAt us k).isNever) = true then [rsnD ⟨(uAt us k).w, (atR (srt rowD s.rows) i).n, (atR (srt rowD s.rows) j).n, (k : Nat)⟩] else []) (fun k => if (tellsM (uAt us k) (atR (srt rowD s.rows) i) (atR (srt rowD s.rows) j) && (uAt us k).isNever) = true then [brD ⟨(atR (srt rowD s.rows) i).n, (atR (srt rowD s.rows) j).n, (k : Nat)⟩] else []) 1 1 (fun z _ => by split <;> simp) (fun z _ => by split <;> simp) (j2.2.1, j2.2.2.1, j2.2.2.2.1, j2.2.2.2.2) A2 B2 (ei_range1 (ea_cons (ev_cb (ea_cons (ev_var rfl) ea_nil) rc_lenT) ea_nil) (by omega) (by omega)) S7 (fun o => [(12, .int (o : Nat))]) (fun o _ => gt_name) (fun j A B o _ z hz => by rw [List.mem_singleton] at hz; rw [hz]; exact lt_b rfl) (fun Z3 i3 k j3 A4 B4 hk hA4 hB4 Hi8 σ8 H8 S8 => ?_) (fun j3 Hi8 σ8 H8 S8 => ?_)
    · rw [List.length_range, eul] at hA4 hB4
      have hA5 : A4.length < 100000 := by omega
      have hB5 : B4.length < 100000 := by omega
      have hk1 : k < us.length := by
        have hm := List.mem_of_getElem? hk
        rw [List.mem_range, eul] at hm
        exact hm
      have hku : OkRul (uAt us k) := hu _ (List.mem_of_getElem? (uAt_get hk1))
      have hix : atI (us.map rulD) (k : Int) = some (rulD (uAt us k)) := atI_nat (by rw [List.getElem?_map, uAt_get hk1]; rfl)
      replace S8 : Sit K T.C Z3 Hi8 σ8 H8 [.dat (rulesD us), .dat (s4D s), .dat (rowsD s.rows), .dat (rsnsD s.told), .dat (brsD s.bars), .dat (rsnsD s.struck), .dat (strsD (namesM s.rows)), .dat (.dct (knownK s.rows)), .own A4, .own B4, .dat (.int (j : Nat)), .dat (.int (i : Nat)), .dat (.int (k : Nat)), j3.2.1, j3.2.2.1, j3.2.2.2] := S8
      have hr1 := rowOk i hi1
      have ho1 := rowOk j hj1
      have hru : ∀ ρ : List Sl, ρ[0]? = some (.dat (rulesD us)) → ρ[12]? = some (.dat (.int (k : Nat))) → EvP K T.C (tOp (rIx K) (tVar 0) (tVar 12)) ρ (rulD (uAt us k)) := fun ρ a b => ev_op (ev_var a) (ev_var b) (rd_ixT hix)
      have hni : ∀ ρ : List Sl, ρ[6]? = some (.dat (strsD (namesM s.rows))) → ρ[11]? = some (.dat (.int (i : Nat))) → EvP K T.C (tOp (rIx K) (tVar 6) (tVar 11)) ρ (.str (atR (srt rowD s.rows) i).n) := fun ρ a b => ev_op (ev_var a) (ev_var b) (rd_ixL (nameAt i hi1))
      have hnj : ∀ ρ : List Sl, ρ[6]? = some (.dat (strsD (namesM s.rows))) → ρ[10]? = some (.dat (.int (j : Nat))) → EvP K T.C (tOp (rIx K) (tVar 6) (tVar 10)) ρ (.str (atR (srt rowD s.rows) j).n) := fun ρ a b => ev_op (ev_var a) (ev_var b) (rd_ixL (nameAt j hj1))
      refine s_when (b := tellsM (uAt us k) (atR (srt rowD s.rows) i) (atR (srt rowD s.rows) j)) (eb_B (ev_call (f := fun a : Rul × Row × Row => .bool (tellsM a.1 a.2.1 a.2.2)) (uAt us k, atR (srt rowD s.rows) i, atR (srt rowD s.rows) j) (ea_cons (hru _ rfl rfl) (ea_cons (ev_getD (ev_var rfl) (hni _ rfl rfl) (knownAt i hi1)) (ea_cons (ev_getD (ev_var rfl) (hnj _ rfl rfl) (knownAt j hj1)) ea_nil))) ⟨hku, hr1.1, ho1.1⟩)) S8 (fun e Hi9 H9 S9 => ?_) (fun e Hi9 H9 S9 => ?_)
      · refine s_if (b := (uAt us k).isNever) (eb_test (ev_never (hru _ rfl rfl))) S9 (fun e2 Hi9 H9 S9 => ?_) (fun e2 Hi9 H9 S9 => ?_)
        · refine s_app (d := brD ⟨(atR (srt rowD s.rows) i).n, (atR (srt rowD s.rows) j).n, (k : Nat)⟩) rfl (ev_tupB (ea_cons (hni _ rfl rfl) (ea_cons (hnj _ rfl rfl) (ea_cons (ev_var rfl) ea_nil))) rfl) hB5 S9 fun Hi8 H8 S8 => ⟨_, _, ⟨(.dat (.int (k : Nat)), j3.2.1, j3.2.2.1, j3.2.2.2), ?_⟩, S8⟩
          rw [e, e2]
          show _ = [_, _, _, _, _, _, _, _, Sl.own (A4 ++ []), Sl.own (B4 ++ [_]), _, _, _, _, _, _]
          rw [List.append_nil]
          rfl
        · refine s_app (d := rsnD ⟨(uAt us k).w, (atR (srt rowD s.rows) i).n, (atR (srt rowD s.rows) j).n, (k : Nat)⟩) rfl (ev_tupB (ea_cons (ev_last2 e2 (hru _ rfl rfl)) (ea_cons (hni _ rfl rfl) (ea_cons (hnj _ rfl rfl) (ea_cons (ev_var rfl) ea_nil)))) rfl) hA5 S9 fun Hi8 H8 S8 => ⟨_, _, ⟨(.dat (.int (k : Nat)), j3.2.1, j3.2.2.1, j3.2.2.2), ?_⟩, S8⟩
          rw [e, e2]
          show _ = [_, _, _, _, _, _, _, _, Sl.own (A4 ++ [_]), Sl.own (B4 ++ []), _, _, _, _, _, _]
          rw [List.append_nil]
          rfl
      · refine ⟨_, _, ⟨(.dat (.int (k : Nat)), j3.2.1, j3.2.2.1, j3.2.2.2), ?_⟩, S9⟩
        rw [e]
        show _ = [_, _, _, _, _, _, _, _, Sl.own (A4 ++ []), Sl.own (B4 ++ []), _, _, _, _, _, _]
        rw [List.append_nil, List.append_nil]
    · refine ⟨_, _, ⟨(.dat (.int (i : Nat)), j3.1, j3.2.1, j3.2.2.1, j3.2.2.2), ?_⟩, S8⟩
      rw [eul, betR_range, betB_range]
  · have p1 := law_found (fun r o => betR us r o) (srt rowD s.rows)
    have p2 := law_found (fun r o => betB us r o) (srt rowD s.rows)
    rw [hRl] at p1 p2
    generalize hfr : ((List.range s.rows.length).flatMap fun j => (List.range j).flatMap fun i => betR us (atR (srt rowD s.rows) i) (atR (srt rowD s.rows) j)) = fr at p1
    generalize hfb : ((List.range s.rows.length).flatMap fun j => (List.range j).flatMap fun i => betB us (atR (srt rowD s.rows) i) (atR (srt rowD s.rows) j)) = fb at p2
    have e1 : ((List.range s.rows.length).flatMap fun j => (List.range j).flatMap fun i => (betR us (atR (srt rowD s.rows) i) (atR (srt rowD s.rows) j)).map rsnD) = fr.map rsnD := by
      rw [← hfr, map_flat]
      congr 1
      funext j
      rw [map_flat]
    have e2 : ((List.range s.rows.length).flatMap fun j => (List.range j).flatMap fun i => (betB us (atR (srt rowD s.rows) i) (atR (srt rowD s.rows) j)).map brD) = fb.map brD := by
      rw [← hfb, map_flat]
      congr 1
      funext j
      rw [map_flat]
    rw [elen, e1, e2, ← List.map_append, ← List.map_append] at S6
    have q1 : fr.Perm (foundR us s.rows) := p1
    have q2 : fb.Perm (foundB us s.rows) := p2
    have hfrk := foundR_ok hu hs.rows hs.nodup
    have hfbk := foundB_ok (us := us) hs.rows hs.nodup
    have hfl := foundR_len (us := us) hul hs.lr
    have hall : ∀ r ∈ s.told.filter (hasR (namesM s.rows)) ++ fr, OkR r := fun r hr => by
      rcases List.mem_append.mp hr with h | h
      · exact hs.told r (List.mem_filter.mp h).1
      · exact (hfrk r (q1.mem_iff.mp h)).1
    have hallB : ∀ r ∈ s.bars.filter (hasB (namesM s.rows)) ++ fb, OkB r := fun r hr => by
      rcases List.mem_append.mp hr with h | h
      · exact hs.bars r (List.mem_filter.mp h).1
      · exact (hfbk r (q2.mem_iff.mp h)).1
    have hlen : (s.told.filter (hasR (namesM s.rows)) ++ fr).length ≤ 12840 := by
      rw [List.length_append, q1.length_eq]
      rw [List.length_map] at t1
      omega
    obtain ⟨Hj7, _, S7⟩ := S6.freeze (i := 8) rfl hM
    obtain ⟨Hj8, _, S8⟩ := S7.freeze (i := 9) rfl hM
    replace S8 : Sit K T.C Z Hj8 σ6 H6 [.dat (rulesD us), .dat (s4D s), .dat (rowsD s.rows), .dat (rsnsD s.told), .dat (brsD s.bars), .dat (rsnsD s.struck), .dat (strsD (namesM s.rows)), .dat (.dct (knownK s.rows)), .dat (.list ((s.told.filter (hasR (namesM s.rows)) ++ fr).map rsnD)), .dat (.list ((s.bars.filter (hasB (namesM s.rows)) ++ fb).map brD)), jk.1, jk.2.1, jk.2.2.1, jk.2.2.2.1, jk.2.2.2.2.1, jk.2.2.2.2.2] := S8
    have hneg : ∀ (ρ : List Sl) (r : Rsn), ρ[15]? = some (.dat (rsnD r)) → EvP K T.C (tOp (rAddU K) (tTupP (tCons (tOp (rSubU) (tC (.int 0)) (tOp (rIx K) (tVar 15) (tC (.int 0)))) (tNil))) (tSl (rSlU K) (tVar 15) (tPart (tC (.int 1))) (tNoPart))) ρ (rsnD (negR r)) := fun ρ r h => by
      refine EvP.eq (ev_op (ev_tupB (ea_cons (ev_op ev_int (ev_op (ev_var h) ev_int (rd_ixT rfl)) rd_subI) ea_nil) rfl) (ev_sl (ev_var h) (eo_some ev_int) eo_none rs_T) (rd_addT ?_)) rfl
      exact Nat.le_trans (Nat.le_of_ble_eq_true (rfl : Nat.ble 4 1000 = true)) (by decide)
    refine q_asg (ev_cb (ea_cons (EvP.eq (ev_fil (xs := s.told.filter (hasR (namesM s.rows)) ++ fr) (emb := rsnD) (fun r => !decide (r ∈ s.struck)) (fun r => rsnD (negR r)) (ei_seq (ev_var rfl) (.inl rfl)) (by omega) (lt_b rfl) (fun r hr => eb_test (ev_notInR (hall r hr) hs.struck (ev_var rfl) (ev_var rfl))) (fun r _ _ => hneg _ r rfl)) (d' := .list ((((s.told.filter (hasR (namesM s.rows)) ++ fr).filter fun r => !decide (r ∈ s.struck)).map negR).map rsnD)) (by rw [List.map_map]; rfl)) ea_nil) (rc_sort (enc := rsnD) (rsn_sort fun r hr => ?_) (.inl rfl))) S8 (lt_b rfl) fun σ9 Hi9 H9 S9 => ?_
    · obtain ⟨x, hx, rfl⟩ := List.mem_map.mp hr
      have := hall x (List.mem_filter.mp hx).1
      exact ⟨this.a.w, this.b.w⟩
    generalize hL : (s.told.filter (hasR (namesM s.rows)) ++ fr).filter (fun r => !decide (r ∈ s.struck)) = L at S9
    have hLl : L.length < 100000 := by
      rw [← hL]
      exact Nat.lt_of_le_of_lt (List.length_filter_le _ _) (by omega)
    refine s_ret (EvP.eq (ev_tupB (ea_cons (ev_cb (ea_cons (ev_var rfl) ea_nil) rc_tup) (ea_cons (ev_cb (ea_cons (ev_map (xs := srt rsnD (L.map negR)) (emb := rsnD) (fun r => rsnD (negR r)) (ei_seq (ev_var rfl) (.inl rfl)) (by rw [srt_len, List.length_map]; exact hLl) (lt_b rfl) fun r _ => hneg _ r rfl) ea_nil) rc_tup) (ea_cons (ev_cb (ea_cons (ev_cb (ea_cons (ev_var rfl) ea_nil) (rc_sort (enc := brD) (bs := s.bars.filter (hasB (namesM s.rows)) ++ fb) (br_sort fun r hr => ⟨(hallB r hr).a.w, (hallB r hr).b.w⟩) (.inl rfl))) ea_nil) rc_tup) ea_nil))) rfl) ?_) S9 fun v Hi2 H2 S2 hv => q v _ _ _ _ _ rfl S2 hv
    show _ = grD (groundM us s)
    rw [← ground_law q1 q2, hL]
    show D.tuple [_, .tuple ((srt rsnD (L.map negR)).map fun r => rsnD (negR r)), _] = grD ⟨_, ordR L, _⟩
    unfold ordR
    show _ = D.tuple [_, .tuple (((srt rsnD (L.map negR)).map negR).map rsnD), _]
    rw [List.map_map]
    rfl
theorem okS_rows {s : S4} (h : OkS s) (p : Row → Bool) : OkS { s with rows := s.rows.filter p } := ⟨fun r hr => h.rows r (List.mem_filter.mp hr).1, h.nodup.sublist (List.filter_sublist.map _), h.told, h.bars, h.struck, Nat.le_trans (List.length_filter_le _ _) h.lr, h.lt, h.lb, h.ls⟩
-- slots of law_without_rows: 0 _law_rules_here, 1 _law_state, 2 _law_gone, 3 _law_rows, 4 _law_row_here
abbrev N_law_without_rows : List PySem.Str := [("_law_rules_here" : PySem.Str), ("_law_state" : PySem.Str), ("_law_gone" : PySem.Str), ("_law_rows" : PySem.Str), ("_law_row_here" : PySem.Str)]
theorem sc_law_without_rows : FnScope N_law_without_rows [("_law_rules_here" : PySem.Str), ("_law_state" : PySem.Str), ("_law_gone" : PySem.Str)] (defScope s_law_without_rows) := ⟨rfl, rfl, rfl, by decide +kernel, rfl, by decide +kernel, by decide +kernel⟩
def t_law_without_rows {K : PySem.W.Frag} {mg : PySem.Str → Option Value} (T : Tx K mg) : TS :=
  tSeq (tAsg (tCB (rTupP K) (tCons (tLc (iSeq K (tOp (rIx K) (tVar 1) (tC (.int 0)))) (gName 4) (tTest (tOp (rNotInU K) (tOp (rIx K) (tVar 4) (tC (.int 0))) (tVar 2))) (tVar 4) [4]) (tNil))) (gName 3)) (tRet (tCall (sp_law_ground_due K T.C) [] E0 (tCons (tVar 0) (tCons (tOp (rAddU K) (tTupP (tCons (tVar 3) (tNil))) (tSl (rSlU K) (tVar 1) (tPart (tC (.int 1))) (tNoPart))) (tNil)))))
theorem ok_law_without_rows {P : Program} {w : World} {K : PySem.W.Frag} {mg : PySem.Str → Option Value} {base : Heap} (T : Tx K mg) : FnOk P w K mg base CX0 4 T.law_without_rows.f T.law_without_rows.fd [("_law_rules_here" : PySem.Str), ("_law_state" : PySem.Str), ("_law_gone" : PySem.Str)] (sp_law_without_rows K T.C) :=
  fn_pure T.law_without_rows.F sc_law_without_rows (fun _ => rfl) fun cdv A outer s H0 E hr => by
  have hu65 : (A.deeper (envOfC ("_law_without_rows" : PySem.Str) (defScope s_law_without_rows) s.heap.objs.size T.law_without_rows.f cdv)).units + 65 < cLine := by have := hr.un; omega
  refine ⟨t_law_without_rows T, pss_cons (ps_set (i := 3) sc_law_without_rows.nd rfl (Or.inl rfl) (pe_callTy (cTup) rfl T.b_tuple (by rfl) (pa_cons (pe_lc (own := [(("_law_row_here" : PySem.Str), 4)]) (g := gName 4) (tt := tTest (tOp (rNotInU K) (tOp (rIx K) (tVar 4) (tC (.int 0))) (tVar 2))) (te := tVar 4) rfl sc_law_without_rows.nd (pi_seq (pe_ix ix_seq (pv 1) (pe_int) (fun _ _ => rfl))) (blkOk_by (N := N_law_without_rows) (sc := defScope s_law_without_rows) (by decide +kernel)) (fun _ _ _ _ _ => pg_name (i := 4) sc_law_without_rows.nd rfl (Or.inl rfl)) (fun _ _ _ _ _ => pts_one (pt_cmpR (opNotIn hu65) (pe_ix ix_seq (pv 4) (pe_int) (fun _ _ => rfl)) (pv 2) (by with_unfolding_all rfl))) (fun _ _ _ _ _ => pv 4)) (pa_nil)))) (pss_one (ps_ret (pe_call (ok_law_ground_due T) (hr.mono (by decide)) rfl T.law_ground_due.g T.law_ground_due.F.kp T.law_ground_due.b .nil pass0 (pa_cons (pv 0) (pa_cons (pe_op opAdd (pe_tupP (pa_cons (pv 3) (pa_nil))) (pe_slice slU (pv 1) (po_some (pe_int)) (po_none))) (pa_nil)))))), ?_⟩
  intro ⟨us, s, gone⟩ Z Hi σ H Q ⟨hs, hu, hul, hg, hgo⟩ hM S q
  replace hs : OkS s := hs
  replace S : Sit K T.C Z Hi σ H [.dat (rulesD us), .dat (s4D s), .dat (strsD gone), .non, .non] := S
  have hgw : ∀ x ∈ gone, OkW x := fun x hx => (hgo x hx).w
  refine q_asg (ev_cb (ea_cons (ev_fil (xs := s.rows) (emb := rowD) (fun r => !decide (r.n ∈ gone)) rowD (ei_seq (ev_op (ev_var rfl) ev_int (rd_ixT rfl)) (.inr rfl)) (Nat.lt_of_le_of_lt hs.lr (by decide)) (lt_b rfl) (fun r hr => eb_test (ev_notInNL (hs.rows r hr).name.w hgw (ev_op (ev_var rfl) ev_int (rd_ixT rfl)) (ev_var rfl))) (fun r _ _ => ev_var rfl)) ea_nil) rc_tup) S (lt_b rfl) fun σ1 Hi1 H1 S1 => ?_
  replace S1 : Sit K T.C Z Hi1 σ1 H1 [.dat (rulesD us), .dat (s4D s), .dat (strsD gone), .dat (rowsD (s.rows.filter fun r => !decide (r.n ∈ gone))), .non] := S1
  have hst : EvP K T.C (tOp (rAddU K) (tTupP (tCons (tVar 3) (tNil))) (tSl (rSlU K) (tVar 1) (tPart (tC (.int 1))) (tNoPart))) [.dat (rulesD us), .dat (s4D s), .dat (strsD gone), .dat (rowsD (s.rows.filter fun r => !decide (r.n ∈ gone))), .non] (s4D { s with rows := s.rows.filter fun r => !decide (r.n ∈ gone) }) := by
    refine EvP.eq (ev_op (ev_tupB (ea_cons (ev_var rfl) ea_nil) rfl) (ev_sl (ev_var rfl) (eo_some ev_int) eo_none rs_T) (rd_addT ?_)) rfl
    exact Nat.le_trans (Nat.le_of_ble_eq_true (rfl : Nat.ble 4 1000 = true)) (by decide)
  exact s_ret (ev_call (f := fun a : List Rul × S4 => grD (groundM a.1 a.2)) (us, { s with rows := s.rows.filter fun r => !decide (r.n ∈ gone) }) (ea_cons (ev_var rfl) (ea_cons hst ea_nil)) ⟨okS_rows hs _, hu, hul⟩) S1 fun v Hi2 H2 S2 hv => q v _ _ _ _ _ rfl S2 hv
end FK

set_option Elab.async false
set_option linter.all false
set_option maxRecDepth 100000
set_option maxHeartbeats 4000000
namespace FK
open PySem PySem.Spec PyProof.Rows L2 FR
local macro_rules | `(tactic| walk_at "rd") => `(tactic| first
  | with_reducible exact rd_addI | with_reducible exact rd_subI | with_reducible exact rd_leI | with_reducible exact rd_ltI | with_reducible exact rd_geI | with_reducible exact rd_gtI | with_reducible exact rd_ltS | with_reducible exact rd_eqI | with_reducible exact rd_neI | with_reducible exact rd_eqS | with_reducible exact rd_neS
  | with_reducible exact rd_isNN | with_reducible exact rd_isNS | with_reducible exact rd_notNN | with_reducible exact rd_notNS | with_reducible exact rd_inS
  | ((with_reducible apply rd_ixT); rfl) | ((with_reducible apply rd_ixL); rfl)
  | ((with_reducible apply rd_modI); first | decide | assumption)
  | ((with_reducible apply rd_mulI); assumption) | ((with_reducible apply rd_powI); assumption) | ((with_reducible apply rd_divI); assumption) | ((with_reducible apply rd_addS); assumption) | ((with_reducible apply rd_mulS); assumption) | ((with_reducible apply rd_ixL); assumption) | ((with_reducible apply rd_ixT); assumption)
  | with_reducible assumption)
local macro_rules | `(tactic| walk_at "rc") => `(tactic| first
  | with_reducible exact rc_lenL | with_reducible exact rc_lenT | with_reducible exact rc_lenScr | with_reducible exact rc_minI | with_reducible exact rc_maxI | with_reducible exact rc_minS | with_reducible exact rc_maxS | with_reducible exact rc_tup | with_reducible exact rc_listT | with_reducible exact rc_intB | with_reducible exact rc_abs
  | ((with_reducible apply rc_lenS); assumption) | with_reducible exact rc_any | with_reducible exact rc_all | with_reducible assumption)
local macro_rules | `(tactic| walk_at "ev") => `(tactic| first
  | ((with_reducible apply ev_var); rfl) | with_reducible exact ev_int | with_reducible exact ev_str | with_reducible exact ev_bl | with_reducible exact ev_non | with_reducible exact ea_nil
  | with_reducible assumption
  | ((with_reducible apply ev_op); walk_at "ev"; walk_at "ev"; walk_at "rd")
  | ((with_reducible apply ea_cons); walk_at "ev"; walk_at "ev")
  | ((with_reducible apply ev_cb); walk_at "ev"; walk_at "rc")
  | ((with_reducible apply ev_tupB); walk_at "ev"; rfl) | ((with_reducible apply ev_lstB); walk_at "ev"; rfl)
  | ((with_reducible apply ev_andV); walk_at "ev"; (intro _; walk_at "ev")) | ((with_reducible apply ev_orV); walk_at "ev"; (intro _; walk_at "ev")) | ((with_reducible apply ev_notV); walk_at "ev")
  | ((with_reducible apply ev_chain); walk_at "ev"; walk_at "ev"; walk_at "ev"; walk_at "rd"; (intro _; walk_at "rd"))
  | ((with_reducible apply eb_and); walk_at "ev"; (intro _; walk_at "ev")) | ((with_reducible apply eb_or); walk_at "ev"; (intro _; walk_at "ev")) | ((with_reducible apply eb_not); walk_at "ev") | ((with_reducible apply eb_test); walk_at "ev") | ((with_reducible apply eb_B); walk_at "ev")
  | ((with_reducible apply ev_isi (b := true)); walk_at "ev"; (intro _ z; cases z); rfl) | ((with_reducible apply ev_isi (b := false)); walk_at "ev"; (intro _ z; cases z); rfl))


abbrev twoPost (ns : List PySem.Str) : D → Prop := fun d => ∃ x y, d = .tuple [.str x, .str y] ∧ x ∈ ns ∧ y ∈ ns ∧ x ≠ y
-- slots of law_struck: 0 _law_rules_here, 1 _law_state, 2 _law_names_here, 3 _law_xs, 4 _law_ground, 5 _law_a, 6 _law_b
abbrev N_law_struck : List PySem.Str := [("_law_rules_here" : PySem.Str), ("_law_state" : PySem.Str), ("_law_names_here" : PySem.Str), ("_law_xs" : PySem.Str), ("_law_ground" : PySem.Str), ("_law_a" : PySem.Str), ("_law_b" : PySem.Str)]
theorem sc_law_struck : FnScope N_law_struck [("_law_rules_here" : PySem.Str), ("_law_state" : PySem.Str), ("_law_names_here" : PySem.Str), ("_law_xs" : PySem.Str)] (defScope s_law_struck) := ⟨rfl, rfl, rfl, by decide +kernel, rfl, by decide +kernel, by decide +kernel⟩
def t_law_struck {K : PySem.W.Frag} {mg : PySem.Str → Option Value} (T : Tx K mg) : TS :=
  tSeq (tAsg (tCall (sp_law_ground_due K T.C) [] E0 (tCons (tVar 0) (tCons (tVar 1) (tNil)))) (gName 4)) (tSeq (tIfS (tAnd (tTest (tOp (rNeU K) (tOp (rIx K) (tVar 4) (tC (.int 1))) (tTupP (tNil)))) (tTest (tOp (rGtU) (tOp (rModU) (tOp (rIx K) (tVar 3) (tC (.int 0))) (tC (.int 4))) (tC (.int 0))))) (tRet (tOp (rIx K) (tOp (rIx K) (tVar 4) (tC (.int 1))) (tOp (rModU) (tOp (rIx K) (tVar 3) (tC (.int 1))) (tCB (rLenU K) (tCons (tOp (rIx K) (tVar 4) (tC (.int 1))) (tNil)))))) (tNext)) (tSeq (tAsg (tCall (sp_law_two K T.C) [] E0 (tCons (tVar 2) (tCons (tOp (rIx K) (tVar 3) (tC (.int 1))) (tNil)))) (gTup K 2 (gCons (gName 5) (gCons (gName 6) (gNil))))) (tRet (tCall (sp_law_reason K T.C) [] E0 (tCons (tVar 5) (tCons (tVar 6) (tCons (tOp (rAddU K) (tC (.int 1)) (tOp (rModU) (tOp (rIx K) (tVar 3) (tC (.int 2))) (tC (.int 3)))) (tCons (tOp (rIx K) (tLst (tCons (tC (.int 0)) (tCons (tC (.int 1)) (tCons (tC (.int 100)) (tNil))))) (tOp (rModU) (tOp (rIx K) (tVar 3) (tC (.int 3))) (tC (.int 3)))) (tNil)))))))))
theorem ok_law_struck {P : Program} {w : World} {K : PySem.W.Frag} {mg : PySem.Str → Option Value} {base : Heap} (T : Tx K mg) : FnOk P w K mg base CX0 4 T.law_struck.f T.law_struck.fd [("_law_rules_here" : PySem.Str), ("_law_state" : PySem.Str), ("_law_names_here" : PySem.Str), ("_law_xs" : PySem.Str)] (sp_law_struck K T.C) :=
  fn_pure T.law_struck.F sc_law_struck (fun _ => rfl) fun cdv A outer s H0 E hr => by
  refine ⟨t_law_struck T, pss_cons (ps_set (i := 4) sc_law_struck.nd rfl (Or.inl rfl) (pe_call (ok_law_ground_due T) (hr.mono (by decide)) rfl T.law_ground_due.g T.law_ground_due.F.kp T.law_ground_due.b .nil pass0 (pa_cons (pv 0) (pa_cons (pv 1) (pa_nil))))) (pss_cons (ps_if (PW.pt (pw_and (pt_cmpR (opNe hr.units) (pe_ix ix_seq (pv 4) (pe_int) (fun _ _ => rfl)) (pe_tupP (pa_nil)) (nomark _)) (pw_and1 (pt_cmpR (opGt) (pe_op opMod (pe_ix ix_seq (pv 3) (pe_int) (fun _ _ => rfl)) (pe_int)) (pe_int) (nomark _))))) (pss_one (ps_ret (pe_ix ix_seq (pe_ix ix_seq (pv 4) (pe_int) (fun _ _ => rfl)) (pe_op opMod (pe_ix ix_seq (pv 3) (pe_int) (fun _ _ => rfl)) (pe_callB (cLen) rfl T.b_len (by decide +kernel) (pa_cons (pe_ix ix_seq (pv 4) (pe_int) (fun _ _ => rfl)) (pa_nil)))) (fun _ _ => rfl)))) (pss_nil)) (pss_cons (ps_asg (pe_call (ok_law_two T) (hr.mono (by decide)) rfl T.law_two.g T.law_two.F.kp T.law_two.b .nil pass0 (pa_cons (pv 2) (pa_cons (pe_ix ix_seq (pv 3) (pe_int) (fun _ _ => rfl)) (pa_nil)))) (pg_tup rfl (pgs_cons (pg_name (i := 5) sc_law_struck.nd rfl (Or.inl rfl)) (pgs_cons (pg_name (i := 6) sc_law_struck.nd rfl (Or.inl rfl)) (pgs_nil))))) (pss_one (ps_ret (pe_call (ok_law_reason T) (hr.mono (by decide)) rfl T.law_reason.g T.law_reason.F.kp T.law_reason.b .nil pass0 (pa_cons (pv 5) (pa_cons (pv 6) (pa_cons (pe_op opAdd (pe_int) (pe_op opMod (pe_ix ix_seq (pv 3) (pe_int) (fun _ _ => rfl)) (pe_int))) (pa_cons (pe_ix ix_seq (pe_lst (pa_cons (pe_int) (pa_cons (pe_int) (pa_cons (pe_int) (pa_nil))))) (pe_op opMod (pe_ix ix_seq (pv 3) (pe_int) (fun _ _ => rfl)) (pe_int)) (fun _ _ => rfl)) (pa_nil)))))))))), ?_⟩
  intro ⟨us, s, ns, xs⟩ Z Hi σ H Q ⟨hL, hu, hul, hns, hX, hlen⟩ hM S q
  replace hL : OkL ns s := hL
  replace hu : ∀ u ∈ us, OkRul u := hu
  replace hns : OkNs ns := hns
  replace hX : OkX xs := hX
  replace hlen : 4 ≤ xs.length := hlen
  have hs := hL.ok
  replace S : Sit K T.C Z Hi σ H [.dat (rulesD us), .dat (s4D s), .dat (strsD ns), .dat (intsD xs), .non, .non, .non] := S
  refine q_asg (ev_call (f := fun a : List Rul × S4 => grD (groundM a.1 a.2)) (us, s) (ea_cons (ev_var rfl) (ea_cons (ev_var rfl) ea_nil)) ⟨hs, hu, hul⟩) S (lt_b rfl) fun σ1 Hi1 H1 S1 => ?_
  have hg := ground_ok hu hs
  have hgk : ∀ r ∈ (groundM us s).reasons, r.k ≠ 77 := fun r hr e => by
    rcases ground_mem hr with h | h
    · have := (foundR_ok hu hs.rows hs.nodup r h).2.2.2
      have hul' : us.length ≤ 8 := hul
      omega
    · have := (hL.told r h).2.2
      omega
  replace S1 : Sit K T.C Z Hi1 σ1 H1 [.dat (rulesD us), .dat (s4D s), .dat (strsD ns), .dat (intsD xs), .dat (grD (groundM us s)), .non, .non] := S1
  have x1 := gx_ok hX (k := 1) (by omega)
  have x2 := gx_ok hX (k := 2) (by omega)
  have x3 := gx_ok hX (k := 3) (by omega)
  have a0 := gx_at (xs := xs) (k := 0) (by omega)
  have a1 := gx_at (xs := xs) (k := 1) (by omega)
  have a2 := gx_at (xs := xs) (k := 2) (by omega)
  have a3 := gx_at (xs := xs) (k := 3) (by omega)
  have hr1 : ∀ ρ : List Sl, ρ[4]? = some (.dat (grD (groundM us s))) → EvP K T.C (tOp (rIx K) (tVar 4) (tC (.int 1))) ρ (rsnsD (groundM us s).reasons) := fun ρ h => ev_op (ev_var h) ev_int (rd_ixT rfl)
  refine q_when (eb_and (eb_test (ev_some (told_shp hg) (hr1 _ rfl))) fun _ => by walk_at "ev") S1 (fun e Hi2 H2 S2 => ?_) (fun e Hi2 H2 S2 => ?_)
  · have hne : (groundM us s).reasons ≠ [] := fun z => by
      rw [z] at e
      simp at e
    obtain ⟨r, hr, her⟩ := ev_pickT (K := K) (C := T.C) (ρ := [.dat (rulesD us), .dat (s4D s), .dat (strsD ns), .dat (intsD xs), .dat (grD (groundM us s)), .non, .non]) hne (hr1 _ rfl) (ev_op (ev_var (i := 3) rfl) (ev_int (i := 1)) (rd_ixL a1))
    exact s_ret her S2 fun v Hi3 H3 S3 hv => q v _ _ _ _ _ ⟨r, rfl, hg r hr, hgk r hr⟩ S3 hv
  · refine q_asgTR (P := twoPost ns) [5, 6] (ev_callR (a := (ns, gx xs 1)) (ea_cons (ev_var rfl) (ea_cons (ev_op (ev_var rfl) ev_int (rd_ixL a1)) ea_nil)) ⟨hns.len, hns.nodup, x1.1⟩) (fun d ⟨x, y, e, _⟩ => ⟨_, e, rfl⟩) rfl S2 (all_lt rfl) fun ds hds σ3 Hi3 H3 S3 => ?_
    obtain ⟨x, y, e, hx, hy, hxy⟩ := hds
    cases e
    replace S3 : Sit K T.C Z Hi3 σ3 H3 [.dat (rulesD us), .dat (s4D s), .dat (strsD ns), .dat (intsD xs), .dat (grD (groundM us s)), .dat (.str x), .dat (.str y)] := S3
    obtain ⟨k, hk, hek⟩ := ev_pickI (K := K) (C := T.C) (ρ := [.dat (rulesD us), .dat (s4D s), .dat (strsD ns), .dat (intsD xs), .dat (grD (groundM us s)), .dat (.str x), .dat (.str y)]) (ta := tLst (tCons (tC (.int 0)) (tCons (tC (.int 1)) (tCons (tC (.int 100)) (tNil))))) (tb := tOp (rModU) (tOp (rIx K) (tVar 3) (tC (.int 3))) (tC (.int 3))) (ss := [0, 1, 100]) (i := gx xs 3 % 3) (ev_lstB (ea_cons ev_int (ea_cons ev_int (ea_cons ev_int ea_nil))) rfl) (ev_op (ev_op (ev_var rfl) ev_int (rd_ixL a3)) ev_int (rd_modI (by decide))) (by omega) (by show gx xs 3 % 3 < 3; omega)
    have hk2 : 0 ≤ k ∧ k ≠ 77 := by
      simp only [List.mem_cons, List.not_mem_nil, or_false] at hk
      omega
    refine s_ret (ev_call (f := fun a : PySem.Str × PySem.Str × Int × Int => rsnD (reasonOf a.1 a.2.1 a.2.2.1 a.2.2.2)) (x, y, 1 + gx xs 2 % 3, k) (ea_cons (ev_var rfl) (ea_cons (ev_var rfl) (ea_cons (ev_op ev_int (ev_op (ev_op (ev_var rfl) ev_int (rd_ixL a2)) ev_int (rd_modI (by decide))) rd_addI) (ea_cons hek ea_nil)))) trivial) S3 fun v Hi4 H4 S4 hv => q v _ _ _ _ _ ⟨_, rfl, ok_reason (hns.ok x hx).1 (hns.ok y hy).1 hxy (by show 1 ≤ 1 + gx xs 2 % 3; omega) (by show 1 + gx xs 2 % 3 ≤ 1000; omega) hk2.1, hk2.2⟩ S4 hv
-- slots of law_deed: 0 _law_rules_here, 1 _law_state, 2 _law_names_here, 3 _law_xs, 4 _law_many, 5 _law_rows, 6 _law_told, 7 _law_bars, 8 _law_struck_here, 9 _law_way, 10 _law_name, 11 _law_a, 12 _law_b, 13 _law_weight, 14 _law_stands, 15 _law_reason_here, 16 _law_low, 17 _law_high, 18 _law_k, 19 _law_some, 20 _law_row_here
abbrev N_law_deed : List PySem.Str := [("_law_rules_here" : PySem.Str), ("_law_state" : PySem.Str), ("_law_names_here" : PySem.Str), ("_law_xs" : PySem.Str), ("_law_many" : PySem.Str), ("_law_rows" : PySem.Str), ("_law_told" : PySem.Str), ("_law_bars" : PySem.Str), ("_law_struck_here" : PySem.Str), ("_law_way" : PySem.Str), ("_law_name" : PySem.Str), ("_law_a" : PySem.Str), ("_law_b" : PySem.Str), ("_law_weight" : PySem.Str), ("_law_stands" : PySem.Str), ("_law_reason_here" : PySem.Str), ("_law_low" : PySem.Str), ("_law_high" : PySem.Str), ("_law_k" : PySem.Str), ("_law_some" : PySem.Str), ("_law_row_here" : PySem.Str)]
theorem sc_law_deed : FnScope N_law_deed [("_law_rules_here" : PySem.Str), ("_law_state" : PySem.Str), ("_law_names_here" : PySem.Str), ("_law_xs" : PySem.Str), ("_law_many" : PySem.Str)] (defScope s_law_deed) := ⟨rfl, rfl, rfl, by decide +kernel, rfl, by decide +kernel, by decide +kernel⟩
def t_law_deed {K : PySem.W.Frag} {mg : PySem.Str → Option Value} (T : Tx K mg) : TS :=
  tSeq (tAsg (tVar 1) (gTup K 4 (gCons (gName 5) (gCons (gName 6) (gCons (gName 7) (gCons (gName 8) (gNil))))))) (tSeq (tAsg (tOp (rModU) (tOp (rIx K) (tVar 3) (tC (.int 0))) (tC (.int 12))) (gName 9)) (tSeq (tAsg (tOp (rIx K) (tVar 2) (tOp (rModU) (tOp (rIx K) (tVar 3) (tC (.int 1))) (tCB (rLenU K) (tCons (tVar 2) (tNil))))) (gName 10)) (tSeq (tAsg (tCall (sp_law_two K T.C) [] E0 (tCons (tVar 2) (tCons (tOp (rIx K) (tVar 3) (tC (.int 2))) (tNil)))) (gTup K 2 (gCons (gName 11) (gCons (gName 12) (gNil))))) (tSeq (tAsg (tOp (rIx K) (tLst (tCons (tOp (rAddU K) (tC (.int 1)) (tOp (rModU) (tOp (rIx K) (tVar 3) (tC (.int 3))) (tC (.int 3)))) (tCons (tOp (rAddU K) (tC (.int 1)) (tOp (rModU) (tOp (rIx K) (tVar 3) (tC (.int 3))) (tC (.int 1000)))) (tNil)))) (tOp (rModU) (tOp (rIx K) (tVar 3) (tC (.int 4))) (tC (.int 2)))) (gName 13)) (tSeq (tAsg (tOp (rInU K) (tVar 10) (tLc (iSeq K (tVar 5)) (gName 20) (tYes) (tOp (rIx K) (tVar 20) (tC (.int 0))) [20])) (gName 14)) (tSeq (tIfS (tAnd (tTest (tOp (rLtU) (tVar 9) (tC (.int 5)))) (tNot (tB (tVar 14)))) (tRet (tTupP (tCons (tC (.str ("put" : PySem.Str))) (tCons (tCall (sp_law_row K T.C) [] E0 (tCons (tVar 10) (tCons (tSl (rSlU K) (tVar 3) (tPart (tC (.int 5))) (tNoPart)) (tNil)))) (tNil))))) (tNext)) (tSeq (tIfS (tTest (tOp (rLtU) (tVar 9) (tC (.int 2)))) (tRet (tTupP (tCons (tC (.str ("drop" : PySem.Str))) (tCons (tVar 10) (tNil))))) (tNext)) (tSeq (tIfS (tAnd (tTest (tOp (rEqU K) (tVar 9) (tC (.int 11)))) (tTest (tOp (rGtU) (tVar 4) (tC (.int 0))))) (tRet (tTupP (tCons (tC (.str ("undo" : PySem.Str))) (tNil)))) (tNext)) (tSeq (tIfS (tAnd (tTest (tOp (rEqU K) (tVar 9) (tC (.int 10)))) (tTest (tOp (rNeU K) (tVar 8) (tTupP (tNil))))) (tRet (tTupP (tCons (tC (.str ("unstrike" : PySem.Str))) (tCons (tOp (rIx K) (tVar 8) (tOp (rModU) (tOp (rIx K) (tVar 3) (tC (.int 5))) (tCB (rLenU K) (tCons (tVar 8) (tNil))))) (tNil))))) (tNext)) (tSeq (tIfS (tTest (tOp (rGtU) (tVar 9) (tC (.int 8)))) (tSeq (tAsg (tCall (sp_law_struck K T.C) [] E0 (tCons (tVar 0) (tCons (tVar 1) (tCons (tVar 2) (tCons (tSl (rSlU K) (tVar 3) (tPart (tC (.int 5))) (tNoPart)) (tNil)))))) (gName 15)) (tRet (tIf (tTest (tOp (rInU K) (tVar 15) (tVar 8))) (tTupP (tCons (tC (.str ("unstrike" : PySem.Str))) (tCons (tVar 15) (tNil)))) (tTupP (tCons (tC (.str ("strike" : PySem.Str))) (tCons (tVar 15) (tNil))))))) (tNext)) (tSeq (tIfS (tAnd (tTest (tOp (rEqU K) (tVar 9) (tC (.int 8)))) (tTest (tOp (rNeU K) (tVar 7) (tTupP (tNil))))) (tSeq (tAsg (tOp (rIx K) (tVar 7) (tOp (rModU) (tOp (rIx K) (tVar 3) (tC (.int 5))) (tCB (rLenU K) (tCons (tVar 7) (tNil))))) (gTup K 3 (gCons (gName 16) (gCons (gName 17) (gCons (gName 18) (gNil)))))) (tRet (tTupP (tCons (tC (.str ("unbar" : PySem.Str))) (tCons (tVar 17) (tCons (tVar 16) (tNil))))))) (tNext)) (tSeq (tIfS (tOr (tTest (tOp (rEqU K) (tVar 9) (tC (.int 7)))) (tTest (tOp (rEqU K) (tVar 9) (tC (.int 8))))) (tRet (tIf (tTest (tOp (rInU K) (tTupP (tCons (tCB (rMinU) (tCons (tVar 11) (tCons (tVar 12) (tNil)))) (tCons (tCB (rMaxU) (tCons (tVar 11) (tCons (tVar 12) (tNil)))) (tCons (tC (.int 100)) (tNil))))) (tVar 7))) (tTupP (tCons (tC (.str ("unbar" : PySem.Str))) (tCons (tVar 11) (tCons (tVar 12) (tNil))))) (tTupP (tCons (tC (.str ("bar" : PySem.Str))) (tCons (tVar 11) (tCons (tVar 12) (tNil))))))) (tNext)) (tSeq (tIfS (tAnd (tTest (tOp (rEqU K) (tVar 9) (tC (.int 6)))) (tTest (tOp (rNeU K) (tVar 6) (tTupP (tNil))))) (tSeq (tAsg (tOp (rIx K) (tVar 6) (tOp (rModU) (tOp (rIx K) (tVar 3) (tC (.int 5))) (tCB (rLenU K) (tCons (tVar 6) (tNil))))) (gName 19)) (tRet (tTupP (tCons (tC (.str ("untell" : PySem.Str))) (tCons (tOp (rIx K) (tVar 19) (tC (.int 2))) (tCons (tOp (rIx K) (tVar 19) (tC (.int 1))) (tCons (tOp (rIx K) (tVar 19) (tC (.int 0))) (tNil)))))))) (tNext)) (tSeq (tIfS (tTest (tOp (rInU K) (tCall (sp_law_reason K T.C) [] E0 (tCons (tVar 11) (tCons (tVar 12) (tCons (tVar 13) (tCons (tC (.int 100)) (tNil)))))) (tVar 6))) (tRet (tTupP (tCons (tC (.str ("untell" : PySem.Str))) (tCons (tVar 11) (tCons (tVar 12) (tCons (tVar 13) (tNil))))))) (tNext)) (tRet (tTupP (tCons (tC (.str ("tell" : PySem.Str))) (tCons (tVar 11) (tCons (tVar 12) (tCons (tVar 13) (tNil)))))))))))))))))))))
theorem ok_law_deed {P : Program} {w : World} {K : PySem.W.Frag} {mg : PySem.Str → Option Value} {base : Heap} (T : Tx K mg) : FnOk P w K mg base CX0 5 T.law_deed.f T.law_deed.fd [("_law_rules_here" : PySem.Str), ("_law_state" : PySem.Str), ("_law_names_here" : PySem.Str), ("_law_xs" : PySem.Str), ("_law_many" : PySem.Str)] (sp_law_deed K T.C) :=
  fn_pure T.law_deed.F sc_law_deed (fun _ => rfl) fun cdv A outer s H0 E hr => by
  have hu65 : (A.deeper (envOfC ("_law_deed" : PySem.Str) (defScope s_law_deed) s.heap.objs.size T.law_deed.f cdv)).units + 65 < cLine := by have := hr.un; omega
  refine ⟨t_law_deed T, pss_cons (ps_asg (pv 1) (pg_tup rfl (pgs_cons (pg_name (i := 5) sc_law_deed.nd rfl (Or.inl rfl)) (pgs_cons (pg_name (i := 6) sc_law_deed.nd rfl (Or.inl rfl)) (pgs_cons (pg_name (i := 7) sc_law_deed.nd rfl (Or.inl rfl)) (pgs_cons (pg_name (i := 8) sc_law_deed.nd rfl (Or.inl rfl)) (pgs_nil))))))) (pss_cons (ps_set (i := 9) sc_law_deed.nd rfl (Or.inl rfl) (pe_op opMod (pe_ix ix_seq (pv 3) (pe_int) (fun _ _ => rfl)) (pe_int))) (pss_cons (ps_set (i := 10) sc_law_deed.nd rfl (Or.inl rfl) (pe_ix ix_seq (pv 2) (pe_op opMod (pe_ix ix_seq (pv 3) (pe_int) (fun _ _ => rfl)) (pe_callB (cLen) rfl T.b_len (by decide +kernel) (pa_cons (pv 2) (pa_nil)))) (fun _ _ => rfl))) (pss_cons (ps_asg (pe_call (ok_law_two T) (hr.mono (by decide)) rfl T.law_two.g T.law_two.F.kp T.law_two.b .nil pass0 (pa_cons (pv 2) (pa_cons (pe_ix ix_seq (pv 3) (pe_int) (fun _ _ => rfl)) (pa_nil)))) (pg_tup rfl (pgs_cons (pg_name (i := 11) sc_law_deed.nd rfl (Or.inl rfl)) (pgs_cons (pg_name (i := 12) sc_law_deed.nd rfl (Or.inl rfl)) (pgs_nil))))) (pss_cons (ps_set (i := 13) sc_law_deed.nd rfl (Or.inl rfl) (pe_ix ix_seq (pe_lst (pa_cons (pe_op opAdd (pe_int) (pe_op opMod (pe_ix ix_seq (pv 3) (pe_int) (fun _ _ => rfl)) (pe_int))) (pa_cons (pe_op opAdd (pe_int) (pe_op opMod (pe_ix ix_seq (pv 3) (pe_int) (fun _ _ => rfl)) (pe_int))) (pa_nil)))) (pe_op opMod (pe_ix ix_seq (pv 3) (pe_int) (fun _ _ => rfl)) (pe_int)) (fun _ _ => rfl))) (pss_cons (ps_set (i := 14) sc_law_deed.nd rfl (Or.inl rfl) (pe_cmpR (opIn hu65) (pv 10) (pe_lc (own := [(("_law_row_here" : PySem.Str), 20)]) (g := gName 20) (tt := tYes) (te := tOp (rIx K) (tVar 20) (tC (.int 0))) rfl sc_law_deed.nd (pi_seq (pv 5)) (blkOk_by (N := N_law_deed) (sc := defScope s_law_deed) (by decide +kernel)) (fun _ _ _ _ _ => pg_name (i := 20) sc_law_deed.nd rfl (Or.inl rfl)) (fun _ _ _ _ _ => pts_nil) (fun _ _ _ _ _ => pe_ix ix_seq (pv 20) (pe_int) (fun _ _ => rfl))) (by with_unfolding_all rfl))) (pss_cons (ps_if (PW.pt (pw_and (pt_cmpR (opLt) (pv 9) (pe_int) (nomark _)) (pw_and1 (pt_not (pt_val (pv 14)))))) (pss_one (ps_ret (pe_tupP (pa_cons (pe_str) (pa_cons (pe_call (ok_law_row T) (hr.mono (by decide)) rfl T.law_row.g T.law_row.F.kp T.law_row.b .nil pass0 (pa_cons (pv 10) (pa_cons (pe_slice slU (pv 3) (po_some (pe_int)) (po_none)) (pa_nil)))) (pa_nil)))))) (pss_nil)) (pss_cons (ps_if (pt_cmpR (opLt) (pv 9) (pe_int) (nomark _)) (pss_one (ps_ret (pe_tupP (pa_cons (pe_str) (pa_cons (pv 10) (pa_nil)))))) (pss_nil)) (pss_cons (ps_if (PW.pt (pw_and (pt_cmpR (opEq hr.units) (pv 9) (pe_int) (nomark _)) (pw_and1 (pt_cmpR (opGt) (pv 4) (pe_int) (nomark _))))) (pss_one (ps_ret (pe_tupP (pa_cons (pe_str) (pa_nil))))) (pss_nil)) (pss_cons (ps_if (PW.pt (pw_and (pt_cmpR (opEq hr.units) (pv 9) (pe_int) (nomark _)) (pw_and1 (pt_cmpR (opNe hr.units) (pv 8) (pe_tupP (pa_nil)) (nomark _))))) (pss_one (ps_ret (pe_tupP (pa_cons (pe_str) (pa_cons (pe_ix ix_seq (pv 8) (pe_op opMod (pe_ix ix_seq (pv 3) (pe_int) (fun _ _ => rfl)) (pe_callB (cLen) rfl T.b_len (by decide +kernel) (pa_cons (pv 8) (pa_nil)))) (fun _ _ => rfl)) (pa_nil)))))) (pss_nil)) (pss_cons (ps_if (pt_cmpR (opGt) (pv 9) (pe_int) (nomark _)) (pss_cons (ps_set (i := 15) sc_law_deed.nd rfl (Or.inl rfl) (pe_call (ok_law_struck T) (hr.mono (by decide)) rfl T.law_struck.g T.law_struck.F.kp T.law_struck.b .nil pass0 (pa_cons (pv 0) (pa_cons (pv 1) (pa_cons (pv 2) (pa_cons (pe_slice slU (pv 3) (po_some (pe_int)) (po_none)) (pa_nil))))))) (pss_one (ps_ret (pe_ifExp (pt_cmpR (opIn hu65) (pv 15) (pv 8) (by with_unfolding_all rfl)) (pe_tupP (pa_cons (pe_str) (pa_cons (pv 15) (pa_nil)))) (pe_tupP (pa_cons (pe_str) (pa_cons (pv 15) (pa_nil)))))))) (pss_nil)) (pss_cons (ps_if (PW.pt (pw_and (pt_cmpR (opEq hr.units) (pv 9) (pe_int) (nomark _)) (pw_and1 (pt_cmpR (opNe hr.units) (pv 7) (pe_tupP (pa_nil)) (nomark _))))) (pss_cons (ps_asg (pe_ix ix_seq (pv 7) (pe_op opMod (pe_ix ix_seq (pv 3) (pe_int) (fun _ _ => rfl)) (pe_callB (cLen) rfl T.b_len (by decide +kernel) (pa_cons (pv 7) (pa_nil)))) (fun _ _ => rfl)) (pg_tup rfl (pgs_cons (pg_name (i := 16) sc_law_deed.nd rfl (Or.inl rfl)) (pgs_cons (pg_name (i := 17) sc_law_deed.nd rfl (Or.inl rfl)) (pgs_cons (pg_name (i := 18) sc_law_deed.nd rfl (Or.inl rfl)) (pgs_nil)))))) (pss_one (ps_ret (pe_tupP (pa_cons (pe_str) (pa_cons (pv 17) (pa_cons (pv 16) (pa_nil)))))))) (pss_nil)) (pss_cons (ps_if (PW.pt (pw_or (pt_cmpR (opEq hr.units) (pv 9) (pe_int) (nomark _)) (pw_or1 (pt_cmpR (opEq hr.units) (pv 9) (pe_int) (nomark _))))) (pss_one (ps_ret (pe_ifExp (pt_cmpR (opIn hu65) (pe_tupP (pa_cons (pe_callB (cMin rfl) rfl T.b_min (by decide +kernel) (pa_cons (pv 11) (pa_cons (pv 12) (pa_nil)))) (pa_cons (pe_callB (cMax rfl) rfl T.b_max (by decide +kernel) (pa_cons (pv 11) (pa_cons (pv 12) (pa_nil)))) (pa_cons (pe_int) (pa_nil))))) (pv 7) (by with_unfolding_all rfl)) (pe_tupP (pa_cons (pe_str) (pa_cons (pv 11) (pa_cons (pv 12) (pa_nil))))) (pe_tupP (pa_cons (pe_str) (pa_cons (pv 11) (pa_cons (pv 12) (pa_nil)))))))) (pss_nil)) (pss_cons (ps_if (PW.pt (pw_and (pt_cmpR (opEq hr.units) (pv 9) (pe_int) (nomark _)) (pw_and1 (pt_cmpR (opNe hr.units) (pv 6) (pe_tupP (pa_nil)) (nomark _))))) (pss_cons (ps_set (i := 19) sc_law_deed.nd rfl (Or.inl rfl) (pe_ix ix_seq (pv 6) (pe_op opMod (pe_ix ix_seq (pv 3) (pe_int) (fun _ _ => rfl)) (pe_callB (cLen) rfl T.b_len (by decide +kernel) (pa_cons (pv 6) (pa_nil)))) (fun _ _ => rfl))) (pss_one (ps_ret (pe_tupP (pa_cons (pe_str) (pa_cons (pe_ix ix_seq (pv 19) (pe_int) (fun _ _ => rfl)) (pa_cons (pe_ix ix_seq (pv 19) (pe_int) (fun _ _ => rfl)) (pa_cons (pe_ix ix_seq (pv 19) (pe_int) (fun _ _ => rfl)) (pa_nil))))))))) (pss_nil)) (pss_cons (ps_if (pt_cmpR (opIn hu65) (pe_call (ok_law_reason T) (hr.mono (by decide)) rfl T.law_reason.g T.law_reason.F.kp T.law_reason.b .nil pass0 (pa_cons (pv 11) (pa_cons (pv 12) (pa_cons (pv 13) (pa_cons (pe_int) (pa_nil)))))) (pv 6) (by with_unfolding_all rfl)) (pss_one (ps_ret (pe_tupP (pa_cons (pe_str) (pa_cons (pv 11) (pa_cons (pv 12) (pa_cons (pv 13) (pa_nil)))))))) (pss_nil)) (pss_one (ps_ret (pe_tupP (pa_cons (pe_str) (pa_cons (pv 11) (pa_cons (pv 12) (pa_cons (pv 13) (pa_nil)))))))))))))))))))))), ?_⟩
  intro ⟨us, s, ns, xs, many⟩ Z Hi σ H Q ⟨hL, hu, hul, hns, hX, hlen, hmany⟩ hM S q
  replace hL : OkL ns s := hL
  replace hu : ∀ u ∈ us, OkRul u := hu
  replace hul : us.length ≤ 8 := hul
  replace hns : OkNs ns := hns
  replace hX : OkX xs := hX
  replace hlen : xs.length = 10 := hlen
  have hs := hL.ok
  replace S : Sit K T.C Z Hi σ H [.dat (rulesD us), .dat (s4D s), .dat (strsD ns), .dat (intsD xs), .dat (.int (many : Nat)), .non, .non, .non, .non, .non, .non, .non, .non, .non, .non, .non, .non, .non, .non, .non, .non] := S
  have hend : ∀ e : Deed, DrawnOk ns s many e → ∀ v Hi2 σ2 H2 ρ2, Sit K T.C Z Hi2 σ2 H2 ρ2 → Dd K Hi2 v (deedD e) → Q v H2 := fun e he v Hi2 σ2 H2 ρ2 S2 hv => q v _ _ _ _ _ ⟨e, rfl, he⟩ S2 hv
  have a0 := gx_at (xs := xs) (k := 0) (by omega)
  have a1 := gx_at (xs := xs) (k := 1) (by omega)
  have a2 := gx_at (xs := xs) (k := 2) (by omega)
  have a3 := gx_at (xs := xs) (k := 3) (by omega)
  have a4 := gx_at (xs := xs) (k := 4) (by omega)
  have a5 := gx_at (xs := xs) (k := 5) (by omega)
  have x2 := gx_ok hX (k := 2) (by omega)
  have x3 := gx_ok hX (k := 3) (by omega)
  have x4 := gx_ok hX (k := 4) (by omega)
  have hnne : ns ≠ [] := fun z => by
    have := hns.len
    rw [z] at this
    cases this
  refine q_asgT [5, 6, 7, 8] (ev_var rfl) rfl rfl S (all_lt rfl) fun σ1 Hi1 H1 S1 => ?_
  replace S1 : Sit K T.C Z Hi1 σ1 H1 [.dat (rulesD us), .dat (s4D s), .dat (strsD ns), .dat (intsD xs), .dat (.int (many : Nat)), .dat (rowsD s.rows), .dat (rsnsD s.told), .dat (brsD s.bars), .dat (rsnsD s.struck), .non, .non, .non, .non, .non, .non, .non, .non, .non, .non, .non, .non] := S1
  refine q_asg (by walk_at "ev") S1 (lt_b rfl) fun σ2 Hi2 H2 S2 => ?_
  generalize gx xs 0 % 12 = way at S2
  replace S2 : Sit K T.C Z Hi2 σ2 H2 [.dat (rulesD us), .dat (s4D s), .dat (strsD ns), .dat (intsD xs), .dat (.int (many : Nat)), .dat (rowsD s.rows), .dat (rsnsD s.told), .dat (brsD s.bars), .dat (rsnsD s.struck), .dat (.int way), .non, .non, .non, .non, .non, .non, .non, .non, .non, .non, .non] := S2
  obtain ⟨nm, hnm, henm⟩ := ev_pickL (K := K) (C := T.C) (ρ := [.dat (rulesD us), .dat (s4D s), .dat (strsD ns), .dat (intsD xs), .dat (.int (many : Nat)), .dat (rowsD s.rows), .dat (rsnsD s.told), .dat (brsD s.bars), .dat (rsnsD s.struck), .dat (.int way), .non, .non, .non, .non, .non, .non, .non, .non, .non, .non, .non]) (ta := tVar 2) (tb := tOp (rIx K) (tVar 3) (tC (.int 1))) (e := strD) hnne (ev_var rfl) (ev_op (ev_var rfl) ev_int (rd_ixL a1))
  refine q_asg henm S2 (lt_b rfl) fun σ3 Hi3 H3 S3 => ?_
  refine q_asgTR (P := twoPost ns) [11, 12] (ev_callR (a := (ns, gx xs 2)) (ea_cons (ev_var rfl) (ea_cons (ev_op (ev_var rfl) ev_int (rd_ixL a2)) ea_nil)) ⟨hns.len, hns.nodup, x2.1⟩) (fun d ⟨x, y, e, _⟩ => ⟨_, e, rfl⟩) rfl S3 (all_lt rfl) fun ds hds σ4 Hi4 H4 S4 => ?_
  obtain ⟨a, b, e, ha, hb, hab⟩ := hds
  cases e
  replace S4 : Sit K T.C Z Hi4 σ4 H4 [.dat (rulesD us), .dat (s4D s), .dat (strsD ns), .dat (intsD xs), .dat (.int (many : Nat)), .dat (rowsD s.rows), .dat (rsnsD s.told), .dat (brsD s.bars), .dat (rsnsD s.struck), .dat (.int way), .dat (.str nm), .dat (.str a), .dat (.str b), .non, .non, .non, .non, .non, .non, .non, .non] := S4
  obtain ⟨w, hw, hew⟩ := ev_pickI (K := K) (C := T.C) (ρ := [.dat (rulesD us), .dat (s4D s), .dat (strsD ns), .dat (intsD xs), .dat (.int (many : Nat)), .dat (rowsD s.rows), .dat (rsnsD s.told), .dat (brsD s.bars), .dat (rsnsD s.struck), .dat (.int way), .dat (.str nm), .dat (.str a), .dat (.str b), .non, .non, .non, .non, .non, .non, .non, .non]) (ta := tLst (tCons (tOp (rAddU K) (tC (.int 1)) (tOp (rModU) (tOp (rIx K) (tVar 3) (tC (.int 3))) (tC (.int 3)))) (tCons (tOp (rAddU K) (tC (.int 1)) (tOp (rModU) (tOp (rIx K) (tVar 3) (tC (.int 3))) (tC (.int 1000)))) (tNil)))) (tb := tOp (rModU) (tOp (rIx K) (tVar 3) (tC (.int 4))) (tC (.int 2))) (ss := [1 + gx xs 3 % 3, 1 + gx xs 3 % 1000]) (i := gx xs 4 % 2) (ev_lstB (ea_cons (by walk_at "ev") (ea_cons (by walk_at "ev") ea_nil)) rfl) (by walk_at "ev") (by omega) (by show gx xs 4 % 2 < 2; omega)
  have hw12 : 1 ≤ w ∧ w ≤ 1000 := by
    simp only [List.mem_cons, List.not_mem_nil, or_false] at hw
    omega
  refine q_asg hew S4 (lt_b rfl) fun σ5 Hi5 H5 S5 => ?_
  have hoN : ∀ n ∈ ns, OkN n := fun n hn => (hns.ok n hn).1
  refine q_asg (d := .bool (decide (nm ∈ s.rows.map (·.n)))) (ev_inNL (hoN nm hnm).w (rows_w hs) (ev_var rfl) (EvP.eq (ev_map (xs := s.rows) (emb := rowD) (fun r => strD r.n) (ei_seq (ev_var rfl) (.inr rfl)) (Nat.lt_of_le_of_lt hs.lr (by decide)) (lt_b rfl) fun r _ => ev_op (ev_var rfl) ev_int (rd_ixT rfl)) (d' := strsD (s.rows.map (·.n))) (by show D.list _ = D.list ((s.rows.map (·.n)).map strD); rw [List.map_map]; rfl))) S5 (lt_b rfl) fun σ6 Hi6 H6 S6 => ?_
  generalize hst : decide (nm ∈ s.rows.map (·.n)) = st at S6
  replace S6 : Sit K T.C Z Hi6 σ6 H6 [.dat (rulesD us), .dat (s4D s), .dat (strsD ns), .dat (intsD xs), .dat (.int (many : Nat)), .dat (rowsD s.rows), .dat (rsnsD s.told), .dat (brsD s.bars), .dat (rsnsD s.struck), .dat (.int way), .dat (.str nm), .dat (.str a), .dat (.str b), .dat (.int w), .dat (.bool st), .non, .non, .non, .non, .non, .non] := S6
  have hra := ok_reason (k := 100) (hoN a ha) (hoN b hb) hab hw12.1 hw12.2 (by decide)
  have hba := ok_bar (hoN a ha) (hoN b hb) hab
  refine q_when (b := decide (way < 5) && !st) (by walk_at "ev") S6 (fun e Hi7 H7 S7 => ?_) (fun e7 Hi7 H7 S7 => ?_)
  · rw [Bool.and_eq_true, Bool.not_eq_true'] at e
    rw [e.2] at hst
    have hnin := of_decide_eq_false hst
    refine s_retR (ev_tup2R ev_str (ev_callR (a := (nm, xs.drop 5)) (ea_cons (ev_var rfl) (ea_cons (ev_tail 5 (ev_var rfl)) ea_nil)) ⟨hoN nm hnm, by rw [List.length_drop]; omega, okX_drop hX 5⟩)) S7 fun v d Hi8 H8 ⟨y, ⟨r, hy, hrn, hrr⟩, hd⟩ S8 hv => ?_
    subst hy hd
    have hrn' : r.n = nm := hrn
    exact hend (.put r) ⟨fun ah _ => ⟨hrr, by rw [hrn']; exact hnin⟩, (fun z => by cases z), by show r.n ∈ ns; rw [hrn']; exact hnm⟩ v _ _ _ _ S8 hv
  refine q_when (b := decide (way < 2)) (by walk_at "ev") S7 (fun e Hi8 H8 S8 => ?_) (fun e8 Hi8 H8 S8 => ?_)
  · have hw2 := of_decide_eq_true e
    have hst2 : st = true := by
      rw [decide_eq_true (show way < 5 by omega), Bool.true_and] at e7
      simpa using e7
    rw [hst2] at hst
    have hin := of_decide_eq_true hst
    exact s_ret (d := deedD (.drop nm)) (ev_tupB (ea_cons ev_str (ea_cons (ev_var rfl) ea_nil)) rfl) S8 fun v Hi9 H9 S9 hv => hend (.drop nm) ⟨fun ah _ => ⟨hoN nm hnm, hin⟩, (fun z => by cases z), trivial⟩ v _ _ _ _ S9 hv
  refine q_when (b := decide (way = 11) && decide ((0 : Int) < (many : Nat))) (by walk_at "ev") S8 (fun e Hi9 H9 S9 => ?_) (fun e9 Hi9 H9 S9 => ?_)
  · rw [Bool.and_eq_true, decide_eq_true_eq, decide_eq_true_eq] at e
    have hmp : 0 < many := by omega
    exact s_ret (d := deedD .undo) (ev_tupB (ea_cons ev_str ea_nil) rfl) S9 fun v Hi9 H9 S9 hv => hend .undo ⟨fun ah hah z => by rw [z] at hah; simp at hah; omega, fun _ => hmp, trivial⟩ v _ _ _ _ S9 hv
  refine q_when (b := decide (way = 10) && !decide (s.struck = [])) (eb_and (by walk_at "ev") fun _ => eb_test (ev_some (told_shp hs.struck) (ev_var rfl))) S9 (fun e Hi10 H10 S10 => ?_) (fun e10 Hi10 H10 S10 => ?_)
  · rw [Bool.and_eq_true, Bool.not_eq_true', decide_eq_false_iff_not] at e
    obtain ⟨r, hr, her⟩ := ev_pickT (K := K) (C := T.C) (e := rsnD) (ρ := [.dat (rulesD us), .dat (s4D s), .dat (strsD ns), .dat (intsD xs), .dat (.int (many : Nat)), .dat (rowsD s.rows), .dat (rsnsD s.told), .dat (brsD s.bars), .dat (rsnsD s.struck), .dat (.int way), .dat (.str nm), .dat (.str a), .dat (.str b), .dat (.int w), .dat (.bool st), .non, .non, .non, .non, .non, .non]) e.2 (ev_var (i := 8) rfl) (ev_op (ev_var (i := 3) rfl) (ev_int (i := 5)) (rd_ixL a5))
    exact s_ret (d := deedD (.unstrike r)) (ev_tupB (ea_cons ev_str (ea_cons her ea_nil)) rfl) S10 fun v Hi9 H9 S9 hv => hend (.unstrike r) ⟨fun ah _ => ⟨hs.struck r hr, hr⟩, (fun z => by cases z), trivial⟩ v _ _ _ _ S9 hv
  refine q_when (b := decide (8 < way)) (by walk_at "ev") S10 (fun e Hi11 H11 S11 => ?_) (fun e11 Hi11 H11 S11 => ?_)
  · refine q_asgR (ev_callR (a := (us, s, ns, xs.drop 5)) (ea_cons (ev_var rfl) (ea_cons (ev_var rfl) (ea_cons (ev_var rfl) (ea_cons (ev_tail 5 (ev_var rfl)) ea_nil)))) ⟨hL, hu, hul, hns, okX_drop hX 5, by rw [List.length_drop]; omega⟩) S11 (lt_b rfl) fun d ⟨r, hd, hr, hrk⟩ σ12 Hi12 H12 S12 => ?_
    subst hd
    have hin : EvB K T.C (tTest (tOp (rInU K) (tVar 15) (tVar 8))) [.dat (rulesD us), .dat (s4D s), .dat (strsD ns), .dat (intsD xs), .dat (.int (many : Nat)), .dat (rowsD s.rows), .dat (rsnsD s.told), .dat (brsD s.bars), .dat (rsnsD s.struck), .dat (.int way), .dat (.str nm), .dat (.str a), .dat (.str b), .dat (.int w), .dat (.bool st), .dat (rsnD r), .non, .non, .non, .non, .non] (decide (r ∈ s.struck)) := eb_test (ev_inR hr hs.struck (ev_var rfl) (ev_var rfl))
    by_cases hm : r ∈ s.struck
    · exact s_ret (d := deedD (.unstrike r)) (ev_ifT (decide_eq_true hm) hin (ev_tupB (ea_cons ev_str (ea_cons (ev_var rfl) ea_nil)) rfl)) S12 fun v Hi9 H9 S9 hv => hend (.unstrike r) ⟨fun ah _ => ⟨hr, hm⟩, (fun z => by cases z), trivial⟩ v _ _ _ _ S9 hv
    · exact s_ret (d := deedD (.strike r)) (ev_ifF (decide_eq_false hm) hin (ev_tupB (ea_cons ev_str (ea_cons (ev_var rfl) ea_nil)) rfl)) S12 fun v Hi9 H9 S9 hv => hend (.strike r) ⟨fun ah _ => ⟨hr, hm⟩, (fun z => by cases z), hrk⟩ v _ _ _ _ S9 hv
  refine q_when (b := decide (way = 8) && !decide (s.bars = [])) (eb_and (by walk_at "ev") fun _ => eb_test (ev_some (bars_shp hs.bars) (ev_var rfl))) S11 (fun e Hi12 H12 S12 => ?_) (fun e12 Hi12 H12 S12 => ?_)
  · rw [Bool.and_eq_true, Bool.not_eq_true', decide_eq_false_iff_not] at e
    obtain ⟨r, hr, her⟩ := ev_pickT (K := K) (C := T.C) (e := brD) (ρ := [.dat (rulesD us), .dat (s4D s), .dat (strsD ns), .dat (intsD xs), .dat (.int (many : Nat)), .dat (rowsD s.rows), .dat (rsnsD s.told), .dat (brsD s.bars), .dat (rsnsD s.struck), .dat (.int way), .dat (.str nm), .dat (.str a), .dat (.str b), .dat (.int w), .dat (.bool st), .non, .non, .non, .non, .non, .non]) e.2 (ev_var (i := 7) rfl) (ev_op (ev_var (i := 3) rfl) (ev_int (i := 5)) (rd_ixL a5))
    have hrk := (hL.bars r hr).2.2
    have hro := hs.bars r hr
    refine q_asgT [16, 17, 18] her rfl rfl S12 (all_lt rfl) fun σ13 Hi13 H13 S13 => ?_
    exact s_ret (d := deedD (.unbar r.b r.a)) (ev_tupB (ea_cons ev_str (ea_cons (ev_var rfl) (ea_cons (ev_var rfl) ea_nil))) rfl) S13 fun v Hi9 H9 S9 hv => hend (.unbar r.b r.a) ⟨fun ah _ => ⟨hro.b, hro.a, (lt_ne hro.lt).symm, by rw [bar_swap hro hrk]; exact hr⟩, (fun z => by cases z), trivial⟩ v _ _ _ _ S9 hv
  refine q_when (b := decide (way = 7) || decide (way = 8)) (by walk_at "ev") S12 (fun e Hi13 H13 S13 => ?_) (fun e13 Hi13 H13 S13 => ?_)
  · have hin : EvB K T.C (tTest (tOp (rInU K) (tTupP (tCons (tCB (rMinU) (tCons (tVar 11) (tCons (tVar 12) (tNil)))) (tCons (tCB (rMaxU) (tCons (tVar 11) (tCons (tVar 12) (tNil)))) (tCons (tC (.int 100)) (tNil))))) (tVar 7))) [.dat (rulesD us), .dat (s4D s), .dat (strsD ns), .dat (intsD xs), .dat (.int (many : Nat)), .dat (rowsD s.rows), .dat (rsnsD s.told), .dat (brsD s.bars), .dat (rsnsD s.struck), .dat (.int way), .dat (.str nm), .dat (.str a), .dat (.str b), .dat (.int w), .dat (.bool st), .non, .non, .non, .non, .non, .non] (decide (barOf a b ∈ s.bars)) := eb_test (ev_inB hba hs.bars (ev_tupB (ea_cons (ev_cb (ea_cons (ev_var rfl) (ea_cons (ev_var rfl) ea_nil)) rc_minS) (ea_cons (ev_cb (ea_cons (ev_var rfl) (ea_cons (ev_var rfl) ea_nil)) rc_maxS) (ea_cons ev_int ea_nil))) rfl) (ev_var rfl))
    by_cases hm : barOf a b ∈ s.bars
    · exact s_ret (d := deedD (.unbar a b)) (ev_ifT (decide_eq_true hm) hin (ev_tupB (ea_cons ev_str (ea_cons (ev_var rfl) (ea_cons (ev_var rfl) ea_nil))) rfl)) S13 fun v Hi9 H9 S9 hv => hend (.unbar a b) ⟨fun ah _ => ⟨hoN a ha, hoN b hb, hab, hm⟩, (fun z => by cases z), trivial⟩ v _ _ _ _ S9 hv
    · exact s_ret (d := deedD (.bar a b)) (ev_ifF (decide_eq_false hm) hin (ev_tupB (ea_cons ev_str (ea_cons (ev_var rfl) (ea_cons (ev_var rfl) ea_nil))) rfl)) S13 fun v Hi9 H9 S9 hv => hend (.bar a b) ⟨fun ah _ => ⟨hoN a ha, hoN b hb, hab, hm⟩, (fun z => by cases z), ⟨ha, hb⟩⟩ v _ _ _ _ S9 hv
  refine q_when (b := decide (way = 6) && !decide (s.told = [])) (eb_and (by walk_at "ev") fun _ => eb_test (ev_some (told_shp hs.told) (ev_var rfl))) S13 (fun e Hi14 H14 S14 => ?_) (fun e14 Hi14 H14 S14 => ?_)
  · rw [Bool.and_eq_true, Bool.not_eq_true', decide_eq_false_iff_not] at e
    obtain ⟨r, hr, her⟩ := ev_pickT (K := K) (C := T.C) (e := rsnD) (ρ := [.dat (rulesD us), .dat (s4D s), .dat (strsD ns), .dat (intsD xs), .dat (.int (many : Nat)), .dat (rowsD s.rows), .dat (rsnsD s.told), .dat (brsD s.bars), .dat (rsnsD s.struck), .dat (.int way), .dat (.str nm), .dat (.str a), .dat (.str b), .dat (.int w), .dat (.bool st), .non, .non, .non, .non, .non, .non]) e.2 (ev_var (i := 6) rfl) (ev_op (ev_var (i := 3) rfl) (ev_int (i := 5)) (rd_ixL a5))
    have hrk := (hL.told r hr).2.2
    have hro := hs.told r hr
    refine q_asg her S14 (lt_b rfl) fun σ15 Hi15 H15 S15 => ?_
    exact s_ret (d := deedD (.untell r.b r.a r.w)) (ev_tupB (ea_cons ev_str (ea_cons (ev_op (ev_var rfl) ev_int (rd_ixT rfl)) (ea_cons (ev_op (ev_var rfl) ev_int (rd_ixT rfl)) (ea_cons (ev_op (ev_var rfl) ev_int (rd_ixT rfl)) ea_nil)))) rfl) S15 fun v Hi9 H9 S9 hv => hend (.untell r.b r.a r.w) ⟨fun ah _ => ⟨hro.b, hro.a, (lt_ne hro.lt).symm, hro.w1, hro.w2, by rw [reason_swap hro hrk]; exact hr⟩, (fun z => by cases z), trivial⟩ v _ _ _ _ S9 hv
  refine q_when (b := decide (reasonOf a b w 100 ∈ s.told)) (eb_test (ev_inR hra hs.told (ev_call (f := fun a : PySem.Str × PySem.Str × Int × Int => rsnD (reasonOf a.1 a.2.1 a.2.2.1 a.2.2.2)) (a, b, w, 100) (ea_cons (ev_var rfl) (ea_cons (ev_var rfl) (ea_cons (ev_var rfl) (ea_cons ev_int ea_nil)))) trivial) (ev_var rfl))) S14 (fun e Hi15 H15 S15 => ?_) (fun e Hi15 H15 S15 => ?_)
  · have hm := of_decide_eq_true e
    exact s_ret (d := deedD (.untell a b w)) (ev_tupB (ea_cons ev_str (ea_cons (ev_var rfl) (ea_cons (ev_var rfl) (ea_cons (ev_var rfl) ea_nil)))) rfl) S15 fun v Hi9 H9 S9 hv => hend (.untell a b w) ⟨fun ah _ => ⟨hoN a ha, hoN b hb, hab, hw12.1, hw12.2, hm⟩, (fun z => by cases z), trivial⟩ v _ _ _ _ S9 hv
  · have hm := of_decide_eq_false e
    exact s_ret (d := deedD (.tell a b w)) (ev_tupB (ea_cons ev_str (ea_cons (ev_var rfl) (ea_cons (ev_var rfl) (ea_cons (ev_var rfl) ea_nil)))) rfl) S15 fun v Hi9 H9 S9 hv => hend (.tell a b w) ⟨fun ah _ => ⟨hoN a ha, hoN b hb, hab, hw12.1, hw12.2, hm⟩, (fun z => by cases z), ⟨ha, hb⟩⟩ v _ _ _ _ S9 hv
end FK

set_option Elab.async false
set_option linter.all false
set_option maxRecDepth 100000
set_option maxHeartbeats 4000000
namespace FK
open PySem PySem.Spec PyProof.Rows L2 FR
local macro_rules | `(tactic| walk_at "rd") => `(tactic| first
  | with_reducible exact rd_addI | with_reducible exact rd_subI | with_reducible exact rd_leI | with_reducible exact rd_ltI | with_reducible exact rd_geI | with_reducible exact rd_gtI | with_reducible exact rd_ltS | with_reducible exact rd_eqI | with_reducible exact rd_neI | with_reducible exact rd_eqS | with_reducible exact rd_neS
  | with_reducible exact rd_isNN | with_reducible exact rd_isNS | with_reducible exact rd_notNN | with_reducible exact rd_notNS | with_reducible exact rd_inS
  | ((with_reducible apply rd_ixT); rfl) | ((with_reducible apply rd_ixL); rfl)
  | ((with_reducible apply rd_modI); first | decide | assumption)
  | ((with_reducible apply rd_mulI); assumption) | ((with_reducible apply rd_powI); assumption) | ((with_reducible apply rd_divI); assumption) | ((with_reducible apply rd_addS); assumption) | ((with_reducible apply rd_mulS); assumption) | ((with_reducible apply rd_ixL); assumption) | ((with_reducible apply rd_ixT); assumption)
  | with_reducible assumption)
local macro_rules | `(tactic| walk_at "rc") => `(tactic| first
  | with_reducible exact rc_lenL | with_reducible exact rc_lenT | with_reducible exact rc_lenScr | with_reducible exact rc_minI | with_reducible exact rc_maxI | with_reducible exact rc_minS | with_reducible exact rc_maxS | with_reducible exact rc_tup | with_reducible exact rc_listT | with_reducible exact rc_intB | with_reducible exact rc_abs
  | ((with_reducible apply rc_lenS); assumption) | with_reducible exact rc_any | with_reducible exact rc_all | with_reducible assumption)
local macro_rules | `(tactic| walk_at "ev") => `(tactic| first
  | ((with_reducible apply ev_var); rfl) | with_reducible exact ev_int | with_reducible exact ev_str | with_reducible exact ev_bl | with_reducible exact ev_non | with_reducible exact ea_nil
  | with_reducible assumption
  | ((with_reducible apply ev_op); walk_at "ev"; walk_at "ev"; walk_at "rd")
  | ((with_reducible apply ea_cons); walk_at "ev"; walk_at "ev")
  | ((with_reducible apply ev_cb); walk_at "ev"; walk_at "rc")
  | ((with_reducible apply ev_tupB); walk_at "ev"; rfl) | ((with_reducible apply ev_lstB); walk_at "ev"; rfl)
  | ((with_reducible apply ev_andV); walk_at "ev"; (intro _; walk_at "ev")) | ((with_reducible apply ev_orV); walk_at "ev"; (intro _; walk_at "ev")) | ((with_reducible apply ev_notV); walk_at "ev")
  | ((with_reducible apply ev_chain); walk_at "ev"; walk_at "ev"; walk_at "ev"; walk_at "rd"; (intro _; walk_at "rd"))
  | ((with_reducible apply eb_and); walk_at "ev"; (intro _; walk_at "ev")) | ((with_reducible apply eb_or); walk_at "ev"; (intro _; walk_at "ev")) | ((with_reducible apply eb_not); walk_at "ev") | ((with_reducible apply eb_test); walk_at "ev") | ((with_reducible apply eb_B); walk_at "ev")
  | ((with_reducible apply ev_isi (b := true)); walk_at "ev"; (intro _ z; cases z); rfl) | ((with_reducible apply ev_isi (b := false)); walk_at "ev"; (intro _ z; cases z); rfl))


theorem putF_new {f : PySem.Str} {w : V} : ∀ {fs : List (PySem.Str × V)} (ks : List PySem.Str), fs.map (·.1) = ks → ks.all (fun g => !decide (g = f)) = true → putF f w fs = fs ++ [(f, w)]
  | [], _, _, _ => rfl
  | (g, x) :: fs, ks, e, h => by
    subst e
    rw [List.map_cons, List.all_cons, Bool.and_eq_true] at h
    have hg : g ≠ f := by simpa using h.1
    rw [putF, if_neg hg, putF_new _ rfl h.2]
    rfl
structure IJ (C p dx : Addr) (Hi H Hk H' : Hp) (fs : List (PySem.Str × V)) : Prop where
  e1 : Same Hi Hk
  e2 : Same Hk H'
  e3 : Hk p = none
  e4 : H' p = some (.ins C dx fs)
  e5 : ∀ a, H a ≠ none → Hk a = Hi a
  e6 : ∀ b o, H b = some o → b ≠ p → H' b = some o
theorem IJ.dom {C p dx : Addr} {Hi H Hk H' : Hp} {fs : List (PySem.Str × V)} (J : IJ C p dx Hi H Hk H' fs) {a : Addr} (h : H' a = none) : a ≠ p ∧ H a = none := by
  have hne : a ≠ p := fun z => by
    rw [z, J.e4] at h
    cases h
  refine ⟨hne, ?_⟩
  cases e : H a with
  | none => rfl
  | some o =>
    rw [J.e6 a o e hne] at h
    cases h
section
variable {K : PySem.W.Frag} {C p dx : Addr} {Hi H Hk H' : Hp} {fs : List (PySem.Str × V)} {D' : Ends} {tz : TS} {σ : L2.St} {f : PySem.Str}
theorem ij_step (J : IJ C p dx Hi H Hk H' fs) (hσ : σ[0]? = some (some (.ref p))) (c : Cls K C) (n : NoAttr K C f) (hl : fs.length < 1000) (k : ∀ w Hk2 H2, IJ C p dx Hi H Hk2 H2 (putF f w fs) → Same Hk Hk2 → Dd K Hk2 w (.tuple []) → tz D' σ H2) : tSeq (sFld K (tVar 0) (tTupP tNil) f) tz D' σ H' := by
  refine ⟨Nat.zero_le _, fun p1 o hp1 hb => ⟨.ref p, hσ, p, C, dx, fs, rfl, ?_, c, n, hl, ?_⟩⟩
  · rw [upd_ne (J.dom hp1).1.symm]
    exact J.e4
  · have hk1 : Hk p1 = none := Same.free J.e2 hp1
    have hpp : p ≠ p1 := (J.dom hp1).1.symm
    refine k (.ref p1) (upd Hk p1 (.frz o (.tup []))) _ ⟨J.e1.trans (same_new hk1), fun a u e => ?_, ?_, upd_same, fun a ha => ?_, fun b u e nb => ?_⟩ (same_new hk1) (.tup (.inl (.inr ⟨o, upd_same⟩)) .nil)
    · by_cases z : a = p1
      · rw [z, upd_same] at e
        rw [z, upd_ne hpp.symm, upd_same]
        exact e
      · rw [upd_ne z] at e
        have na : a ≠ p := ne_of_none e J.e3
        rw [upd_ne na, upd_ne z]
        exact J.e2 a u e
    · rw [upd_ne hpp]
      exact J.e3
    · have na : a ≠ p1 := fun z => ha (by rw [z]; exact (J.dom hp1).2)
      rw [upd_ne na]
      exact J.e5 a ha
    · have na : b ≠ p1 := fun z => by
        rw [z, (J.dom hp1).2] at e
        cases e
      rw [upd_ne nb, upd_ne na]
      exact J.e6 b u e nb
theorem ij_list (J : IJ C p dx Hi H Hk H' fs) (hσ : σ[0]? = some (some (.ref p))) (c : Cls K C) (n : NoAttr K C f) (hl : fs.length < 1000) (k : ∀ l H2, IJ C p dx Hi H Hk H2 (putF f (.ref l) fs) → Hk l = none → H l = none → p ≠ l → H2 l = some (.lst []) → D'.nx σ H2) : sFld K (tVar 0) (tLst tNil) f D' σ H' := by
  refine ⟨Nat.zero_le _, fun p1 hp1 => ⟨.ref p, hσ, p, C, dx, fs, rfl, ?_, c, n, hl, ?_⟩⟩
  · rw [upd_ne (J.dom hp1).1.symm]
    exact J.e4
  · have hk1 : Hk p1 = none := Same.free J.e2 hp1
    have hpp : p ≠ p1 := (J.dom hp1).1.symm
    refine k p1 _ ⟨J.e1, fun a u e => ?_, J.e3, upd_same, J.e5, fun b u e nb => ?_⟩ hk1 (J.dom hp1).2 hpp (by rw [upd_ne hpp.symm, upd_same])
    · have na : a ≠ p := ne_of_none e J.e3
      have na1 : a ≠ p1 := ne_of_none e hk1
      rw [upd_ne na, upd_ne na1]
      exact J.e2 a u e
    · have na : b ≠ p1 := fun z => by
        rw [z, (J.dom hp1).2] at e
        cases e
      rw [upd_ne nb, upd_ne na]
      exact J.e6 b u e nb
end
theorem len_F_init {K : PySem.W.Frag} {C : Addr} {vs : List V} {H : Hp} {Q : VK} {E : XK} (h : sp_F_init K C vs H Q E) : vs.length = 2 := by
  obtain ⟨p, dx, v, us, Hi, rfl, _⟩ := h
  rfl
-- slots of F_init: 0 self, 1 rules
abbrev N_F_init : List PySem.Str := [("self" : PySem.Str), ("rules" : PySem.Str)]
theorem sc_F_init : FnScope N_F_init [("self" : PySem.Str), ("rules" : PySem.Str)] (defScope sF_init) := ⟨rfl, rfl, rfl, by decide +kernel, rfl, by decide +kernel, by decide +kernel⟩
def t_F_init {K : PySem.W.Frag} {mg : PySem.Str → Option Value} (T : Tx K mg) : TS :=
  tSeq (sFld K (tVar 0) (tVar 1) ("rules" : PySem.Str)) (tSeq (sFld K (tVar 0) (tTupP (tNil)) ("standing" : PySem.Str)) (tSeq (sFld K (tVar 0) (tTupP (tNil)) ("reasons" : PySem.Str)) (tSeq (sFld K (tVar 0) (tTupP (tNil)) ("barred" : PySem.Str)) (tSeq (sFld K (tVar 0) (tTupP (tNil)) ("struck" : PySem.Str)) (sFld K (tVar 0) (tLst (tNil)) ("ahead" : PySem.Str))))))
theorem ok_F_init {P : Program} {w : World} {K : PySem.W.Frag} {mg : PySem.Str → Option Value} {base : Heap} (T : Tx K mg) : FnOk P w K mg base CX0 1 T.F_init.f T.F_init.fd [("self" : PySem.Str), ("rules" : PySem.Str)] (sp_F_init K T.C) := by
  refine T.F_init.F.ok sc_F_init (fun vs H Q E h => len_F_init h) (fun cdv A outer s H vs Q E hr h => ?_)
  refine ⟨t_F_init T, PSs.nox (pss_cons (ps_fld (pv 0) (pv 1) rfl) (pss_cons (ps_fld (pv 0) (pe_tupP (pa_nil)) rfl) (pss_cons (ps_fld (pv 0) (pe_tupP (pa_nil)) rfl) (pss_cons (ps_fld (pv 0) (pe_tupP (pa_nil)) rfl) (pss_cons (ps_fld (pv 0) (pe_tupP (pa_nil)) rfl) (pss_one (ps_fld (pv 0) (pe_lst (pa_nil)) rfl))))))), ?_⟩
  obtain ⟨p, dx, v, us, Hi, rfl, x, hp, hpn, hd, q⟩ := h
  have hσ : (L2.start N_F_init [.ref p, v])[0]? = some (some (V.ref p)) := rfl
  have hσ1 : (L2.start N_F_init [.ref p, v])[1]? = some (some v) := rfl
  generalize L2.start N_F_init [.ref p, v] = σ at hσ hσ1
  refine ⟨v, hσ1, .ref p, hσ, p, T.C, dx, [], rfl, hp, T.cl, T.n_rules, by decide, ?_⟩
  have J0 : IJ T.C p dx Hi H Hi (upd H p (.ins T.C dx [(("rules" : PySem.Str), v)])) [(("rules" : PySem.Str), v)] := ⟨Same.refl _, same_upd2 x hpn, hpn, upd_same, fun _ _ => rfl, fun b o e nb => by rw [upd_ne nb]; exact e⟩
  refine ij_step J0 hσ T.cl T.n_standing (lt_b rfl) fun w1 Hk1 H1 J1 s1 d1 => ?_
  rw [putF_new [("rules" : PySem.Str)] rfl (by decide +kernel)] at J1
  refine ij_step J1 hσ T.cl T.n_reasons (lt_b rfl) fun w2 Hk2 H2 J2 s2 d2 => ?_
  rw [putF_new [("rules" : PySem.Str), ("standing" : PySem.Str)] rfl (by decide +kernel)] at J2
  refine ij_step J2 hσ T.cl T.n_barred (lt_b rfl) fun w3 Hk3 H3 J3 s3 d3 => ?_
  rw [putF_new [("rules" : PySem.Str), ("standing" : PySem.Str), ("reasons" : PySem.Str)] rfl (by decide +kernel)] at J3
  refine ij_step J3 hσ T.cl T.n_struck (lt_b rfl) fun w4 Hk4 H4 J4 s4 d4 => ?_
  rw [putF_new [("rules" : PySem.Str), ("standing" : PySem.Str), ("reasons" : PySem.Str), ("barred" : PySem.Str)] rfl (by decide +kernel)] at J4
  refine ij_list J4 hσ T.cl T.n_ahead (lt_b rfl) fun l H5 J5 k1 k2 k3 k4 => ?_
  rw [putF_new [("rules" : PySem.Str), ("standing" : PySem.Str), ("reasons" : PySem.Str), ("barred" : PySem.Str), ("struck" : PySem.Str)] rfl (by decide +kernel)] at J5
  refine q Hk4 H5 l J5.e6 J5.e1 J5.e2 J5.e5 k1 k2 k3 ⟨dx, v, w1, w2, w3, w4, [], J5.e4, Dd.mono J5.e1 _ hd, Dd.mono (s2.trans (s3.trans s4)) _ d1, Dd.mono (s3.trans s4) _ d2, Dd.mono s4 _ d3, d4, k4, .nil⟩
end FK

set_option Elab.async false
set_option linter.all false
set_option maxRecDepth 100000
set_option maxHeartbeats 4000000
namespace FK
open PySem PySem.Spec PyProof.Rows L2 FR
local macro_rules | `(tactic| walk_at "rd") => `(tactic| first
  | with_reducible exact rd_addI | with_reducible exact rd_subI | with_reducible exact rd_leI | with_reducible exact rd_ltI | with_reducible exact rd_geI | with_reducible exact rd_gtI | with_reducible exact rd_ltS | with_reducible exact rd_eqI | with_reducible exact rd_neI | with_reducible exact rd_eqS | with_reducible exact rd_neS
  | with_reducible exact rd_isNN | with_reducible exact rd_isNS | with_reducible exact rd_notNN | with_reducible exact rd_notNS | with_reducible exact rd_inS
  | ((with_reducible apply rd_ixT); rfl) | ((with_reducible apply rd_ixL); rfl)
  | ((with_reducible apply rd_modI); first | decide | assumption)
  | ((with_reducible apply rd_mulI); assumption) | ((with_reducible apply rd_powI); assumption) | ((with_reducible apply rd_divI); assumption) | ((with_reducible apply rd_addS); assumption) | ((with_reducible apply rd_mulS); assumption) | ((with_reducible apply rd_ixL); assumption) | ((with_reducible apply rd_ixT); assumption)
  | with_reducible assumption)
local macro_rules | `(tactic| walk_at "rc") => `(tactic| first
  | with_reducible exact rc_lenL | with_reducible exact rc_lenT | with_reducible exact rc_lenScr | with_reducible exact rc_minI | with_reducible exact rc_maxI | with_reducible exact rc_minS | with_reducible exact rc_maxS | with_reducible exact rc_tup | with_reducible exact rc_listT | with_reducible exact rc_intB | with_reducible exact rc_abs
  | ((with_reducible apply rc_lenS); assumption) | with_reducible exact rc_any | with_reducible exact rc_all | with_reducible assumption)
local macro_rules | `(tactic| walk_at "ev") => `(tactic| first
  | ((with_reducible apply ev_var); rfl) | with_reducible exact ev_int | with_reducible exact ev_str | with_reducible exact ev_bl | with_reducible exact ev_non | with_reducible exact ea_nil
  | with_reducible assumption
  | ((with_reducible apply ev_op); walk_at "ev"; walk_at "ev"; walk_at "rd")
  | ((with_reducible apply ea_cons); walk_at "ev"; walk_at "ev")
  | ((with_reducible apply ev_cb); walk_at "ev"; walk_at "rc")
  | ((with_reducible apply ev_tupB); walk_at "ev"; rfl) | ((with_reducible apply ev_lstB); walk_at "ev"; rfl)
  | ((with_reducible apply ev_andV); walk_at "ev"; (intro _; walk_at "ev")) | ((with_reducible apply ev_orV); walk_at "ev"; (intro _; walk_at "ev")) | ((with_reducible apply ev_notV); walk_at "ev")
  | ((with_reducible apply ev_chain); walk_at "ev"; walk_at "ev"; walk_at "ev"; walk_at "rd"; (intro _; walk_at "rd"))
  | ((with_reducible apply eb_and); walk_at "ev"; (intro _; walk_at "ev")) | ((with_reducible apply eb_or); walk_at "ev"; (intro _; walk_at "ev")) | ((with_reducible apply eb_not); walk_at "ev") | ((with_reducible apply eb_test); walk_at "ev") | ((with_reducible apply eb_B); walk_at "ev")
  | ((with_reducible apply ev_isi (b := true)); walk_at "ev"; (intro _ z; cases z); rfl) | ((with_reducible apply ev_isi (b := false)); walk_at "ev"; (intro _ z; cases z); rfl))


-- slots of law_deeds: 0 _law_script, 1 _law_head, 2 _law_names_here, 3 _law_rules_here, 4 _law_state, 5 _law_ahead, 6 _law_found, 7 _law_k, 8 _law_deed_here
abbrev N_law_deeds : List PySem.Str := [("_law_script" : PySem.Str), ("_law_head" : PySem.Str), ("_law_names_here" : PySem.Str), ("_law_rules_here" : PySem.Str), ("_law_state" : PySem.Str), ("_law_ahead" : PySem.Str), ("_law_found" : PySem.Str), ("_law_k" : PySem.Str), ("_law_deed_here" : PySem.Str)]
theorem sc_law_deeds : FnScope N_law_deeds [("_law_script" : PySem.Str)] (defScope s_law_deeds) := ⟨rfl, rfl, rfl, by decide +kernel, rfl, by decide +kernel, by decide +kernel⟩
def t_law_deeds {K : PySem.W.Frag} {mg : PySem.Str → Option Value} (T : Tx K mg) : TS :=
  tSeq (tAsg (tCall (sp_law_numbers K T.C) [] E0 (tCons (tCall (sp_law_cell K T.C) [] E0 (tCons (tVar 0) (tCons (tC (.int 0)) (tNil)))) (tCons (tC (.int 12)) (tNil)))) (gName 1)) (tSeq (tAsg (tCall (sp_law_names K T.C) [] E0 (tCons (tVar 1) (tCons (tC (.int 6)) (tNil)))) (gName 2)) (tSeq (tAsg (tSl (rSlU K) (tCall (sp_law_rules K T.C) [] E0 (tCons (tSl (rSlU K) (tVar 1) (tPart (tC (.int 6))) (tNoPart)) (tNil))) (tNoPart) (tPart (tOp (rModU) (tOp (rIx K) (tVar 1) (tC (.int 5))) (tC (.int 5))))) (gName 3)) (tSeq (tAsg (tTupP (tCons (tTupP (tNil)) (tCons (tTupP (tNil)) (tCons (tTupP (tNil)) (tCons (tTupP (tNil)) (tNil)))))) (gName 4)) (tSeq (tAsg (tLst (tNil)) (gName 5)) (tSeq (tAsg (tLst (tNil)) (gName 6)) (tSeq (tFor (iRng2 (tCons (tC (.int 1)) (tCons (tOp (rAddU K) (tC (.int 1)) (tCB (rMaxU) (tCons (tC (.int 8)) (tCons (tCB (rMinU) (tCons (tOp (rSubU) (tCB (rLenU K) (tCons (tVar 0) (tNil))) (tC (.int 1))) (tCons (tC (.int 24)) (tNil)))) (tNil))))) (tNil)))) (gName 7) (tSeq (tAsg (tCall (sp_law_deed K T.C) [] E0 (tCons (tVar 3) (tCons (tVar 4) (tCons (tVar 2) (tCons (tCall (sp_law_numbers K T.C) [] E0 (tCons (tCall (sp_law_cell K T.C) [] E0 (tCons (tVar 0) (tCons (tVar 7) (tNil)))) (tCons (tC (.int 10)) (tNil)))) (tCons (tCB (rLenU K) (tCons (tVar 5) (tNil))) (tNil))))))) (gName 8)) (tSeq (tIfS (tTest (tOp (rEqU K) (tVar 8) (tTupP (tCons (tC (.str ("undo" : PySem.Str))) (tNil))))) (tAsg (tBM0 K "list" rPop (tVar 5)) (gName 4)) (tSeq (tDrop (tBM K "list" rAppend (tVar 5) (tCons (tVar 4) (tNil)))) (tAsg (tCall (sp_law_behind K T.C) [] E0 (tCons (tVar 4) (tCons (tVar 8) (tNil)))) (gName 4)))) (tDrop (tBM K "list" rAppend (tVar 6) (tCons (tTupP (tCons (tVar 8) (tCons (tVar 4) (tNil)))) (tNil))))))) (tRet (tTupP (tCons (tVar 3) (tCons (tVar 2) (tCons (tVar 6) (tNil))))))))))))
theorem ok_law_deeds {P : Program} {w : World} {K : PySem.W.Frag} {mg : PySem.Str → Option Value} {base : Heap} (T : Tx K mg) : FnOk P w K mg base CX0 6 T.law_deeds.f T.law_deeds.fd [("_law_script" : PySem.Str)] (sp_law_deeds K T.C) :=
  fn_pure T.law_deeds.F sc_law_deeds (fun _ => rfl) fun cdv A outer s H0 E hr => by
  refine ⟨t_law_deeds T, pss_cons (ps_set (i := 1) sc_law_deeds.nd rfl (Or.inl rfl) (pe_call (ok_law_numbers T) (hr.mono (by decide)) rfl T.law_numbers.g T.law_numbers.F.kp T.law_numbers.b .nil pass0 (pa_cons (pe_call (ok_law_cell T) (hr.mono (by decide)) rfl T.law_cell.g T.law_cell.F.kp T.law_cell.b .nil pass0 (pa_cons (pv 0) (pa_cons (pe_int) (pa_nil)))) (pa_cons (pe_int) (pa_nil))))) (pss_cons (ps_set (i := 2) sc_law_deeds.nd rfl (Or.inl rfl) (pe_call (ok_law_names T) (hr.mono (by decide)) rfl T.law_names.g T.law_names.F.kp T.law_names.b .nil pass0 (pa_cons (pv 1) (pa_cons (pe_int) (pa_nil))))) (pss_cons (ps_set (i := 3) sc_law_deeds.nd rfl (Or.inl rfl) (pe_slice slU (pe_call (ok_law_rules T) (hr.mono (by decide)) rfl T.law_rules.g T.law_rules.F.kp T.law_rules.b .nil pass0 (pa_cons (pe_slice slU (pv 1) (po_some (pe_int)) (po_none)) (pa_nil))) (po_none) (po_some (pe_op opMod (pe_ix ix_seq (pv 1) (pe_int) (fun _ _ => rfl)) (pe_int))))) (pss_cons (ps_set (i := 4) sc_law_deeds.nd rfl (Or.inl rfl) (pe_tupP (pa_cons (pe_tupP (pa_nil)) (pa_cons (pe_tupP (pa_nil)) (pa_cons (pe_tupP (pa_nil)) (pa_cons (pe_tupP (pa_nil)) (pa_nil))))))) (pss_cons (ps_set (i := 5) sc_law_deeds.nd rfl (Or.inl rfl) (pe_lst (pa_nil))) (pss_cons (ps_set (i := 6) sc_law_deeds.nd rfl (Or.inl rfl) (pe_lst (pa_nil))) (pss_cons (ps_for PassesOwn.never rfl (pi_range2 rfl T.b_range (pa_cons (pe_int) (pa_cons (pe_op opAdd (pe_int) (pe_callB (cMax rfl) rfl T.b_max (by decide +kernel) (pa_cons (pe_int) (pa_cons (pe_callB (cMin rfl) rfl T.b_min (by decide +kernel) (pa_cons (pe_op opSub (pe_callB (cLen) rfl T.b_len (by decide +kernel) (pa_cons (pv 0) (pa_nil))) (pe_int)) (pa_cons (pe_int) (pa_nil)))) (pa_nil))))) (pa_nil)))) (pg_name (i := 7) sc_law_deeds.nd rfl (Or.inl rfl)) (pss_cons (ps_set (i := 8) sc_law_deeds.nd rfl (Or.inl rfl) (pe_call (ok_law_deed T) (hr.mono (by decide)) rfl T.law_deed.g T.law_deed.F.kp T.law_deed.b .nil pass0 (pa_cons (pv 3) (pa_cons (pv 4) (pa_cons (pv 2) (pa_cons (pe_call (ok_law_numbers T) (hr.mono (by decide)) rfl T.law_numbers.g T.law_numbers.F.kp T.law_numbers.b .nil pass0 (pa_cons (pe_call (ok_law_cell T) (hr.mono (by decide)) rfl T.law_cell.g T.law_cell.F.kp T.law_cell.b .nil pass0 (pa_cons (pv 0) (pa_cons (pv 7) (pa_nil)))) (pa_cons (pe_int) (pa_nil)))) (pa_cons (pe_callB (cLen) rfl T.b_len (by decide +kernel) (pa_cons (pv 5) (pa_nil))) (pa_nil)))))))) (pss_cons (ps_if (pt_cmpR (opEq hr.units) (pv 8) (pe_tupP (pa_cons (pe_str) (pa_nil))) (nomark _)) (pss_one (ps_set (i := 4) sc_law_deeds.nd rfl (Or.inl rfl) (pe_bm0 PySem.F.plainAttrs_list PySem.F.slot_list_pop PySem.F.type_list_pop mt_pop (pv 5)))) (pss_cons (ps_expr (pe_bm PySem.F.plainAttrs_list PySem.F.slot_list_append PySem.F.type_list_append mt_append (pv 5) (pa_cons (pv 4) (pa_nil)))) (pss_one (ps_set (i := 4) sc_law_deeds.nd rfl (Or.inl rfl) (pe_call (ok_law_behind T) (hr.mono (by decide)) rfl T.law_behind.g T.law_behind.F.kp T.law_behind.b .nil pass0 (pa_cons (pv 4) (pa_cons (pv 8) (pa_nil)))))))) (pss_one (ps_expr (pe_bm PySem.F.plainAttrs_list PySem.F.slot_list_append PySem.F.type_list_append mt_append (pv 6) (pa_cons (pe_tupP (pa_cons (pv 8) (pa_cons (pv 4) (pa_nil)))) (pa_nil)))))))) (pss_one (ps_ret (pe_tupP (pa_cons (pv 3) (pa_cons (pv 2) (pa_cons (pv 6) (pa_nil))))))))))))), ?_⟩
  intro ns Z Hi σ H Q hlen hM S q
  replace hlen : ns.length ≤ 63 := hlen
  replace S : Sit K T.C Z Hi σ H [.dat (.scr ns), .non, .non, .non, .non, .non, .non, .non, .non] := S
  refine q_asgR (ev_nums (k := 0) (m := 12) hlen (by decide) (by decide) (ev_var rfl) ev_int ev_int) S (lt_b rfl) fun d ⟨xs, hd, hxl, hX⟩ σ1 Hi1 H1 S1 => ?_
  subst hd
  refine q_asgR (ev_callR (a := xs) (ea_cons (ev_var rfl) (ea_cons ev_int ea_nil)) ⟨hxl, hX⟩) S1 (lt_b rfl) fun d ⟨nm, hd, hnm⟩ σ2 Hi2 H2 S2 => ?_
  subst hd
  replace S2 : Sit K T.C Z Hi2 σ2 H2 [.dat (.scr ns), .dat (intsD xs), .dat (strsD nm), .non, .non, .non, .non, .non, .non] := S2
  have a5 := gx_at (xs := xs) (k := 5) (by omega)
  refine q_asgR (P := fun d => ∃ us, d = rulesD us ∧ us.length ≤ 4 ∧ ∀ u ∈ us, OkRul u) (ev_slR (ev_callR (a := xs.drop 6) (ea_cons (ev_tail 6 (ev_var rfl)) ea_nil) ⟨by rw [List.length_drop]; omega, okX_drop hX 6⟩) eo_none (eo_some (ev_op (ev_op (ev_var rfl) ev_int (rd_ixL a5)) ev_int (rd_modI (by decide)))) ?_) S2 (lt_b rfl) fun d ⟨us, hd, hul, hu⟩ σ3 Hi3 H3 S3 => ?_
  · rintro x ⟨us, rfl, h1, h2⟩
    refine ⟨_, rs_T, cutG us none (some (gx xs 5 % 5)), ?_, Nat.le_trans (cut_le _ _ _) h1, fun u hu => h2 u (cut_mem hu)⟩
    rw [cut_map]
  subst hd
  refine q_asg (d := s4D s00) (ev_tupB (ea_cons (ev_tupB ea_nil rfl) (ea_cons (ev_tupB ea_nil rfl) (ea_cons (ev_tupB ea_nil rfl) (ea_cons (ev_tupB ea_nil rfl) ea_nil)))) rfl) S3 (lt_b rfl) fun σ4 Hi4 H4 Sd => ?_
  refine q_new Sd (lt_b rfl) fun σ5 Hi5 H5 S5 => ?_
  refine q_new S5 (lt_b rfl) fun σ6 Hi6 H6 S6 => ?_
  replace S6 : Sit K T.C Z Hi6 σ6 H6 [.dat (.scr ns), .dat (intsD xs), .dat (strsD nm), .dat (rulesD us), .dat (s4D s00), .own [], .own [], .non, .non] := S6
  have hcnt : ∃ c : Nat, 8 ≤ c ∧ c ≤ 24 ∧ EvA K T.C (tCons (tC (.int 1)) (tCons (tOp (rAddU K) (tC (.int 1)) (tCB (rMaxU) (tCons (tC (.int 8)) (tCons (tCB (rMinU) (tCons (tOp (rSubU) (tCB (rLenU K) (tCons (tVar 0) (tNil))) (tC (.int 1))) (tCons (tC (.int 24)) (tNil)))) (tNil))))) (tNil))) [.dat (.scr ns), .dat (intsD xs), .dat (strsD nm), .dat (rulesD us), .dat (s4D s00), .own [], .own [], .non, .non] [.int 1, .int (1 + (c : Nat))] := by
    have h := ea_cons (K := K) (C := T.C) (ρ := [.dat (.scr ns), .dat (intsD xs), .dat (strsD nm), .dat (rulesD us), .dat (s4D s00), .own [], .own [], .non, .non]) (ev_int (i := 1)) (ea_cons (ev_op (ev_int (i := 1)) (ev_cb (ea_cons (ev_int (i := 8)) (ea_cons (ev_cb (ea_cons (ev_op (ev_cb (ea_cons (ev_var (i := 0) rfl) ea_nil) rc_lenScr) (ev_int (i := 1)) rd_subI) (ea_cons (ev_int (i := 24)) ea_nil)) rc_minI) ea_nil)) rc_maxI) rd_addI) ea_nil)
    generalize hv : (if (if (24 : Int) < (ns.length : Int) - 1 then 24 else (ns.length : Int) - 1) > 8 then (if (24 : Int) < (ns.length : Int) - 1 then 24 else (ns.length : Int) - 1) else 8) = v at h
    have hv2 : 8 ≤ v ∧ v ≤ 24 := by
      rw [← hv]
      split <;> split <;> omega
    refine ⟨v.toNat, by omega, by omega, ?_⟩
    rw [show ((v.toNat : Nat) : Int) = v by omega]
    exact h
  obtain ⟨c, hc1, hc2, hce⟩ := hcnt
  refine q_for (α := Nat) (xs := List.range ((1 + (c : Nat) : Int) - 1).toNat) (emb := fun i => .int (1 + (i : Nat))) (ei_range2 hce (by decide) (by decide) (by omega) (by omega)) S6 (fun i ρ => ∃ (s : S4) (ah : List S4) (l : List (Deed × S4)) (s7 s8 : Sl), ρ = [.dat (.scr ns), .dat (intsD xs), .dat (strsD nm), .dat (rulesD us), .dat (s4D s), .own (ah.map s4D), .own (l.map fun p => .tuple [deedD p.1, s4D p.2]), s7, s8] ∧ RunOk nm s00 [] l ∧ endOf s00 [] l = (s, ah) ∧ OkL nm s ∧ Sz i s ∧ (∀ a ∈ ah, OkL nm a) ∧ (∀ a ∈ ah, Sz i a) ∧ ah.length ≤ i ∧ l.length = i)
    (fun Z' σ' Hi' H' S' => ⟨_, _, ⟨s00, [], [], _, _, rfl, .nil _ _, rfl, okL_s0 nm, ⟨Nat.le_refl _, Nat.le_refl _, Nat.le_refl _, Nat.le_refl _⟩, (fun a h => by cases h), (fun a h => by cases h), Nat.le_refl _, rfl⟩, S'⟩) (fun i => [(7, .int (1 + (i : Nat)))]) (fun x _ => gt_name) (fun i ρ' ⟨s, ah, l, s7, s8, e, _⟩ x _ q hq => by rw [e]; rw [List.mem_singleton] at hq; rw [hq]; exact lt_b rfl) (fun Z' up i x ρ' hx ⟨s, ah, l, s7, s8, e, hrun, hend, hL, hz, ha, hza, hal, hll⟩ Hi7 σ7 H7 S7 => ?_) (fun ρ' ⟨s, ah, l, s7, s8, e, hrun, hend, hL, hz, ha, hza, hal, hll⟩ Hi7 σ7 H7 S7 => ?_)
  · subst e
    have hi := (List.getElem?_eq_some_iff.mp hx).1
    rw [List.length_range] at hi
    have hxi : x = i := by
      have hm := (List.getElem?_eq_some_iff.mp hx).2
      rw [List.getElem_range] at hm
      exact hm.symm
    subst hxi
    have hx24 : x < 24 := by omega
    replace S7 : Sit K T.C Z' Hi7 σ7 H7 [.dat (.scr ns), .dat (intsD xs), .dat (strsD nm), .dat (rulesD us), .dat (s4D s), .own (ah.map s4D), .own (l.map fun p => .tuple [deedD p.1, s4D p.2]), .dat (.int (1 + (x : Nat))), s8] := S7
    have hk : EvP K T.C (tVar 7) [.dat (.scr ns), .dat (intsD xs), .dat (strsD nm), .dat (rulesD us), .dat (s4D s), .own (ah.map s4D), .own (l.map fun p => .tuple [deedD p.1, s4D p.2]), .dat (.int (1 + (x : Nat))), s8] (.int ((1 + x : Nat) : Int)) := EvP.eq (ev_var rfl) (by congr 1)
    have hlenA : EvP K T.C (tCB (rLenU K) (tCons (tVar 5) (tNil))) [.dat (.scr ns), .dat (intsD xs), .dat (strsD nm), .dat (rulesD us), .dat (s4D s), .own (ah.map s4D), .own (l.map fun p => .tuple [deedD p.1, s4D p.2]), .dat (.int (1 + (x : Nat))), s8] (.int ((ah.length : Nat) : Int)) := EvP.eq (ev_thaw (i := 5) rfl (ev_cb (ea_cons (ev_var rfl) ea_nil) rc_lenL) rfl) (by rw [List.length_map])
    refine q_asgR (P := fun d => ∃ e, d = deedD e ∧ DrawnOk nm s ah.length e) (ev_callRR (ear_cons (ev_var rfl).toR (ear_cons (ev_var rfl).toR (ear_cons (ev_var rfl).toR (ear_cons (ev_nums (k := 1 + x) (m := 10) hlen (by omega) (by decide) (ev_var rfl) hk ev_int) (EvA.toR (ea_cons hlenA ea_nil)))))) ?_) S7 (lt_b rfl) fun d ⟨e, hd, hde⟩ σ8 Hi8 H8 S8 => ?_
    · rintro ds ⟨d1, ds1, rfl, rfl, d2, ds2, rfl, rfl, d3, ds3, rfl, rfl, d4, ds4, rfl, ⟨ys, rfl, hyl, hY⟩, rfl⟩
      exact ⟨(us, s, nm, ys, ah.length), rfl, ⟨hL, hu, by show us.length ≤ 8; omega, hnm, hY, hyl, by show ah.length ≤ 100; omega⟩, fun d h => h⟩
    subst hd
    have hok := hde.ok ah rfl
    have hst := okL_step hL ha hde hok hz hza (by omega)
    replace S8 : Sit K T.C Z' Hi8 σ8 H8 [.dat (.scr ns), .dat (intsD xs), .dat (strsD nm), .dat (rulesD us), .dat (s4D s), .own (ah.map s4D), .own (l.map fun p => .tuple [deedD p.1, s4D p.2]), .dat (.int (1 + (x : Nat))), .dat (deedD e)] := S8
    have hrs := run_snoc (d := e) hrun (by rw [hend]; exact hde) (by rw [hend]; exact hok)
    have hes := end_snoc e (stepD s ah e).1 l s00 []
    rw [hend] at hrs hes
    have key : ∀ (σ9 : L2.St) (Hi9 H9 : Hp), Sit K T.C Z' Hi9 σ9 H9 [.dat (.scr ns), .dat (intsD xs), .dat (strsD nm), .dat (rulesD us), .dat (s4D (stepD s ah e).1), .own ((stepD s ah e).2.map s4D), .own (l.map fun p => .tuple [deedD p.1, s4D p.2]), .dat (.int (1 + (x : Nat))), .dat (deedD e)] → tDrop (tBM K "list" rAppend (tVar 6) (tCons (tTupP (tCons (tVar 8) (tCons (tVar 4) (tNil)))) (tNil))) { nx := Nxt K T.C Z' (fun ρ => ∃ (s : S4) (ah : List S4) (l : List (Deed × S4)) (s7 s8 : Sl), ρ = [.dat (.scr ns), .dat (intsD xs), .dat (strsD nm), .dat (rulesD us), .dat (s4D s), .own (ah.map s4D), .own (l.map fun p => .tuple [deedD p.1, s4D p.2]), s7, s8] ∧ RunOk nm s00 [] l ∧ endOf s00 [] l = (s, ah) ∧ OkL nm s ∧ Sz (x + 1) s ∧ (∀ a ∈ ah, OkL nm a) ∧ (∀ a ∈ ah, Sz (x + 1) a) ∧ ah.length ≤ x + 1 ∧ l.length = x + 1), ct := Nxt K T.C Z' (fun ρ => ∃ (s : S4) (ah : List S4) (l : List (Deed × S4)) (s7 s8 : Sl), ρ = [.dat (.scr ns), .dat (intsD xs), .dat (strsD nm), .dat (rulesD us), .dat (s4D s), .own (ah.map s4D), .own (l.map fun p => .tuple [deedD p.1, s4D p.2]), s7, s8] ∧ RunOk nm s00 [] l ∧ endOf s00 [] l = (s, ah) ∧ OkL nm s ∧ Sz (x + 1) s ∧ (∀ a ∈ ah, OkL nm a) ∧ (∀ a ∈ ah, Sz (x + 1) a) ∧ ah.length ≤ x + 1 ∧ l.length = x + 1), bk := tRet (tTupP (tCons (tVar 3) (tCons (tVar 2) (tCons (tVar 6) (tNil))))) { nx := fun _ H' => Q .non H', rt := Q }, rt := Q } σ9 H9 := fun σ9 Hi9 H9 S9 => by
      refine s_app rfl (ev_tupB (ea_cons (ev_var rfl) (ea_cons (ev_var rfl) ea_nil)) rfl) (by rw [List.length_map]; omega) S9 fun Hi10 H10 S10 => ⟨_, _, ⟨(stepD s ah e).1, (stepD s ah e).2, l ++ [(e, (stepD s ah e).1)], .dat (.int (1 + (x : Nat))), .dat (deedD e), ?_, hrs, hes, hst.1, hst.2.1, hst.2.2.1, hst.2.2.2.1, ?_, ?_⟩, S10⟩
      · rw [List.map_append]
        rfl
      · have := hst.2.2.2.2
        omega
      · rw [List.length_append, hll]
        rfl
    refine q_if (b := decide (e = .undo)) (eb_test (ev_isUndo hok (ev_var rfl))) S8 (fun e9 Hi9 H9 S9 => ?_) (fun e9 Hi9 H9 S9 => ?_)
    · have hu0 := of_decide_eq_true e9
      subst hu0
      have hne : ah ≠ [] := hok
      have eah : ah = ah.dropLast ++ [ah.getLastD s] := by
        rw [List.getLastD_eq_getLast?, List.getLast?_eq_some_getLast hne]
        exact (List.dropLast_concat_getLast hne).symm
      rw [eah, List.map_append] at S9
      refine s_pop (i := 5) (j := 4) (d := s4D (ah.getLastD s)) (ds := ah.dropLast.map s4D) rfl (lt_b rfl) S9 fun σ10 Hi10 H10 S10 => ?_
      refine key σ10 Hi10 H10 ?_
      have e1 : stepD s ah .undo = (ah.getLastD s, ah.dropLast) := rfl
      rw [e1]
      have e2 : (ah.dropLast ++ [ah.getLastD s]).dropLast = ah.dropLast := List.dropLast_concat
      exact S10
    · have hu0 := of_decide_eq_false e9
      have e1 := step_not (s := s) (ah := ah) hu0
      refine q_app rfl (ev_var rfl) (by rw [List.length_map]; omega) S9 fun Hi10 H10 S10 => ?_
      refine s_asg (ev_call (f := fun a : S4 × Deed => s4D (behind a.1 a.2)) (s, e) (ea_cons (ev_var rfl) (ea_cons (ev_var rfl) ea_nil)) ⟨hu0, hL.ok, ah, hok⟩) S10 (lt_b rfl) fun σ11 Hi11 H11 S11 => ?_
      refine key σ11 Hi11 H11 ?_
      rw [e1, List.map_append]
      exact S11
  · subst e
    rw [List.length_range] at hll
    obtain ⟨Hj8, _, S8⟩ := S7.freeze (i := 6) rfl hM
    refine s_ret (ev_tupB (ea_cons (ev_var rfl) (ea_cons (ev_var rfl) (ea_cons (ev_var rfl) ea_nil))) rfl) S8 fun v Hi9 H9 S9 hv => q v _ _ _ _ _ ⟨us, nm, l, rfl, hu, hul, hnm, fun z => ?_, by omega, hrun⟩ S9 hv
    rw [z] at hll
    simp only [List.length_nil] at hll
    omega
end FK

set_option Elab.async false
set_option linter.all false
set_option maxRecDepth 100000
set_option maxHeartbeats 4000000
namespace FK
open PySem PySem.Spec PyProof.Rows L2 FR
local macro_rules | `(tactic| walk_at "rd") => `(tactic| first
  | with_reducible exact rd_addI | with_reducible exact rd_subI | with_reducible exact rd_leI | with_reducible exact rd_ltI | with_reducible exact rd_geI | with_reducible exact rd_gtI | with_reducible exact rd_ltS | with_reducible exact rd_eqI | with_reducible exact rd_neI | with_reducible exact rd_eqS | with_reducible exact rd_neS
  | with_reducible exact rd_isNN | with_reducible exact rd_isNS | with_reducible exact rd_notNN | with_reducible exact rd_notNS | with_reducible exact rd_inS
  | ((with_reducible apply rd_ixT); rfl) | ((with_reducible apply rd_ixL); rfl)
  | ((with_reducible apply rd_modI); first | decide | assumption)
  | ((with_reducible apply rd_mulI); assumption) | ((with_reducible apply rd_powI); assumption) | ((with_reducible apply rd_divI); assumption) | ((with_reducible apply rd_addS); assumption) | ((with_reducible apply rd_mulS); assumption) | ((with_reducible apply rd_ixL); assumption) | ((with_reducible apply rd_ixT); assumption)
  | with_reducible assumption)
local macro_rules | `(tactic| walk_at "rc") => `(tactic| first
  | with_reducible exact rc_lenL | with_reducible exact rc_lenT | with_reducible exact rc_lenScr | with_reducible exact rc_minI | with_reducible exact rc_maxI | with_reducible exact rc_minS | with_reducible exact rc_maxS | with_reducible exact rc_tup | with_reducible exact rc_listT | with_reducible exact rc_intB | with_reducible exact rc_abs
  | ((with_reducible apply rc_lenS); assumption) | with_reducible exact rc_any | with_reducible exact rc_all | with_reducible assumption)
local macro_rules | `(tactic| walk_at "ev") => `(tactic| first
  | ((with_reducible apply ev_var); rfl) | with_reducible exact ev_int | with_reducible exact ev_str | with_reducible exact ev_bl | with_reducible exact ev_non | with_reducible exact ea_nil
  | with_reducible assumption
  | ((with_reducible apply ev_op); walk_at "ev"; walk_at "ev"; walk_at "rd")
  | ((with_reducible apply ea_cons); walk_at "ev"; walk_at "ev")
  | ((with_reducible apply ev_cb); walk_at "ev"; walk_at "rc")
  | ((with_reducible apply ev_tupB); walk_at "ev"; rfl) | ((with_reducible apply ev_lstB); walk_at "ev"; rfl)
  | ((with_reducible apply ev_andV); walk_at "ev"; (intro _; walk_at "ev")) | ((with_reducible apply ev_orV); walk_at "ev"; (intro _; walk_at "ev")) | ((with_reducible apply ev_notV); walk_at "ev")
  | ((with_reducible apply ev_chain); walk_at "ev"; walk_at "ev"; walk_at "ev"; walk_at "rd"; (intro _; walk_at "rd"))
  | ((with_reducible apply eb_and); walk_at "ev"; (intro _; walk_at "ev")) | ((with_reducible apply eb_or); walk_at "ev"; (intro _; walk_at "ev")) | ((with_reducible apply eb_not); walk_at "ev") | ((with_reducible apply eb_test); walk_at "ev") | ((with_reducible apply eb_B); walk_at "ev")
  | ((with_reducible apply ev_isi (b := true)); walk_at "ev"; (intro _ z; cases z); rfl) | ((with_reducible apply ev_isi (b := false)); walk_at "ev"; (intro _ z; cases z); rfl))


-- slots of law_do: 0 _law_folk, 1 _law_deed_here, 2 _law_word_here
abbrev N_law_do : List PySem.Str := [("_law_folk" : PySem.Str), ("_law_deed_here" : PySem.Str), ("_law_word_here" : PySem.Str)]
theorem sc_law_do : FnScope N_law_do [("_law_folk" : PySem.Str), ("_law_deed_here" : PySem.Str)] (defScope s_law_do) := ⟨rfl, rfl, rfl, by decide +kernel, rfl, by decide +kernel, by decide +kernel⟩
def t_law_do {K : PySem.W.Frag} {mg : PySem.Str → Option Value} (T : Tx K mg) : TS :=
  tSeq (tAsg (tOp (rIx K) (tVar 1) (tC (.int 0))) (gName 2)) (tSeq (tIfS (tTest (tOp (rEqU K) (tVar 2) (tC (.str ("put" : PySem.Str))))) (tRet (tMeth T.C ("put" : PySem.Str) (sp_F_put K T.C) [] E0 (tVar 0) (tCons (tOp (rIx K) (tVar 1) (tC (.int 1))) (tNil)))) (tNext)) (tSeq (tIfS (tTest (tOp (rEqU K) (tVar 2) (tC (.str ("drop" : PySem.Str))))) (tRet (tMeth T.C ("drop" : PySem.Str) (sp_F_drop K T.C) [] E0 (tVar 0) (tCons (tOp (rIx K) (tVar 1) (tC (.int 1))) (tNil)))) (tNext)) (tSeq (tIfS (tTest (tOp (rEqU K) (tVar 2) (tC (.str ("tell" : PySem.Str))))) (tRet (tMeth T.C ("tell" : PySem.Str) (sp_F_tell K T.C) [] E0 (tVar 0) (tCons (tOp (rIx K) (tVar 1) (tC (.int 1))) (tCons (tOp (rIx K) (tVar 1) (tC (.int 2))) (tCons (tOp (rIx K) (tVar 1) (tC (.int 3))) (tNil)))))) (tNext)) (tSeq (tIfS (tTest (tOp (rEqU K) (tVar 2) (tC (.str ("untell" : PySem.Str))))) (tRet (tMeth T.C ("untell" : PySem.Str) (sp_F_untell K T.C) [] E0 (tVar 0) (tCons (tOp (rIx K) (tVar 1) (tC (.int 1))) (tCons (tOp (rIx K) (tVar 1) (tC (.int 2))) (tCons (tOp (rIx K) (tVar 1) (tC (.int 3))) (tNil)))))) (tNext)) (tSeq (tIfS (tTest (tOp (rEqU K) (tVar 2) (tC (.str ("bar" : PySem.Str))))) (tRet (tMeth T.C ("bar" : PySem.Str) (sp_F_bar K T.C) [] E0 (tVar 0) (tCons (tOp (rIx K) (tVar 1) (tC (.int 1))) (tCons (tOp (rIx K) (tVar 1) (tC (.int 2))) (tNil))))) (tNext)) (tSeq (tIfS (tTest (tOp (rEqU K) (tVar 2) (tC (.str ("unbar" : PySem.Str))))) (tRet (tMeth T.C ("unbar" : PySem.Str) (sp_F_unbar K T.C) [] E0 (tVar 0) (tCons (tOp (rIx K) (tVar 1) (tC (.int 1))) (tCons (tOp (rIx K) (tVar 1) (tC (.int 2))) (tNil))))) (tNext)) (tSeq (tIfS (tTest (tOp (rEqU K) (tVar 2) (tC (.str ("strike" : PySem.Str))))) (tRet (tMeth T.C ("strike" : PySem.Str) (sp_F_strike K T.C) [] E0 (tVar 0) (tCons (tOp (rIx K) (tVar 1) (tC (.int 1))) (tNil)))) (tNext)) (tSeq (tIfS (tTest (tOp (rEqU K) (tVar 2) (tC (.str ("unstrike" : PySem.Str))))) (tRet (tMeth T.C ("unstrike" : PySem.Str) (sp_F_unstrike K T.C) [] E0 (tVar 0) (tCons (tOp (rIx K) (tVar 1) (tC (.int 1))) (tNil)))) (tNext)) (tRet (tMeth T.C ("undo" : PySem.Str) (sp_F_undo K T.C) [] E0 (tVar 0) tNil))))))))))
theorem ok_law_do {P : Program} {w : World} {K : PySem.W.Frag} {mg : PySem.Str → Option Value} {base : Heap} (T : Tx K mg) : FnOk P w K mg base CX0 6 T.law_do.f T.law_do.fd [("_law_folk" : PySem.Str), ("_law_deed_here" : PySem.Str)] (sp_law_do K T.C) :=
  fn_fol T.law_do.F sc_law_do (fun _ => rfl) fun cdv A outer s H0 E hr => by
  refine ⟨t_law_do T, pss_cons (ps_set (i := 2) sc_law_do.nd rfl (Or.inl rfl) (pe_ix ix_seq (pv 1) (pe_int) (fun _ _ => rfl))) (pss_cons (ps_if (pt_cmpR (opEq hr.units) (pv 2) (pe_str) (nomark _)) (pss_one (ps_ret (pe_meth (pv 0) T.cl T.F_put.m (ok_F_put T) (hr.mono (by decide)) T.F_put.b .nil pass0 (pa_cons (pe_ix ix_seq (pv 1) (pe_int) (fun _ _ => rfl)) (pa_nil))))) (pss_nil)) (pss_cons (ps_if (pt_cmpR (opEq hr.units) (pv 2) (pe_str) (nomark _)) (pss_one (ps_ret (pe_meth (pv 0) T.cl T.F_drop.m (ok_F_drop T) (hr.mono (by decide)) T.F_drop.b .nil pass0 (pa_cons (pe_ix ix_seq (pv 1) (pe_int) (fun _ _ => rfl)) (pa_nil))))) (pss_nil)) (pss_cons (ps_if (pt_cmpR (opEq hr.units) (pv 2) (pe_str) (nomark _)) (pss_one (ps_ret (pe_meth (pv 0) T.cl T.F_tell.m (ok_F_tell T) (hr.mono (by decide)) T.F_tell.b .nil pass0 (pa_cons (pe_ix ix_seq (pv 1) (pe_int) (fun _ _ => rfl)) (pa_cons (pe_ix ix_seq (pv 1) (pe_int) (fun _ _ => rfl)) (pa_cons (pe_ix ix_seq (pv 1) (pe_int) (fun _ _ => rfl)) (pa_nil))))))) (pss_nil)) (pss_cons (ps_if (pt_cmpR (opEq hr.units) (pv 2) (pe_str) (nomark _)) (pss_one (ps_ret (pe_meth (pv 0) T.cl T.F_untell.m (ok_F_untell T) (hr.mono (by decide)) T.F_untell.b .nil pass0 (pa_cons (pe_ix ix_seq (pv 1) (pe_int) (fun _ _ => rfl)) (pa_cons (pe_ix ix_seq (pv 1) (pe_int) (fun _ _ => rfl)) (pa_cons (pe_ix ix_seq (pv 1) (pe_int) (fun _ _ => rfl)) (pa_nil))))))) (pss_nil)) (pss_cons (ps_if (pt_cmpR (opEq hr.units) (pv 2) (pe_str) (nomark _)) (pss_one (ps_ret (pe_meth (pv 0) T.cl T.F_bar.m (ok_F_bar T) (hr.mono (by decide)) T.F_bar.b .nil pass0 (pa_cons (pe_ix ix_seq (pv 1) (pe_int) (fun _ _ => rfl)) (pa_cons (pe_ix ix_seq (pv 1) (pe_int) (fun _ _ => rfl)) (pa_nil)))))) (pss_nil)) (pss_cons (ps_if (pt_cmpR (opEq hr.units) (pv 2) (pe_str) (nomark _)) (pss_one (ps_ret (pe_meth (pv 0) T.cl T.F_unbar.m (ok_F_unbar T) (hr.mono (by decide)) T.F_unbar.b .nil pass0 (pa_cons (pe_ix ix_seq (pv 1) (pe_int) (fun _ _ => rfl)) (pa_cons (pe_ix ix_seq (pv 1) (pe_int) (fun _ _ => rfl)) (pa_nil)))))) (pss_nil)) (pss_cons (ps_if (pt_cmpR (opEq hr.units) (pv 2) (pe_str) (nomark _)) (pss_one (ps_ret (pe_meth (pv 0) T.cl T.F_strike.m (ok_F_strike T) (hr.mono (by decide)) T.F_strike.b .nil pass0 (pa_cons (pe_ix ix_seq (pv 1) (pe_int) (fun _ _ => rfl)) (pa_nil))))) (pss_nil)) (pss_cons (ps_if (pt_cmpR (opEq hr.units) (pv 2) (pe_str) (nomark _)) (pss_one (ps_ret (pe_meth (pv 0) T.cl T.F_unstrike.m (ok_F_unstrike T) (hr.mono (by decide)) T.F_unstrike.b .nil pass0 (pa_cons (pe_ix ix_seq (pv 1) (pe_int) (fun _ _ => rfl)) (pa_nil))))) (pss_nil)) (pss_one (ps_ret (pe_meth0 (pv 0) T.cl T.F_undo.m (ok_F_undo T) (hr.mono (by decide)) T.F_undo.b .nil pass0))))))))))), ?_⟩
  intro e F p l Z Hi σ H Q ⟨hF, he⟩ S q
  replace he : e.ok F.cur F.ahead := he
  replace S : Sit K T.C Z Hi σ H [.fol p l F, .dat (deedD e), .non] := S
  have fin : ∀ (v : V) (d : D) (Hi' : Hp) (σ' : L2.St) (H' : Hp) (ρ' : List Sl) (F' : Fo), F' = doF F e → Sit K T.C Z Hi' σ' H' (Sl.fol p l F' :: ρ') → Dd K Hi' v d → Q v H' := fun v d Hi' σ' H' ρ' F' h S' hv => q v d F' Hi' σ' H' ρ' h S' hv
  cases e with
  | put r =>
    replace S : Sit K T.C Z Hi σ H [.fol p l F, .dat (.tuple [.str "put", rowD r]), .non] := S
    refine q_asg (d := .str "put") (ev_op (ev_var rfl) ev_int (rd_ixT rfl)) S (lt_b rfl) fun σ2 Hi2 H2 S2 => ?_
    replace S2 : Sit K T.C Z Hi2 σ2 H2 [.fol p l F, .dat (.tuple [.str "put", rowD r]), .dat (.str "put")] := S2
    refine q_when (EvB.eq (b' := true) (by walk_at "ev") (by decide +kernel)) S2 (fun _ Hi3 H3 S3 => ?_) (fun e => absurd e (by decide))
    exact s_retM (em_meth r rfl (ea_cons (ev_op (ev_var rfl) ev_int (rd_ixT rfl)) ea_nil) ⟨hF, he⟩) S3 fun v d ρ' Hi4 H4 ⟨F', ⟨hd, hF'⟩, hρ⟩ S4 hv => by
      subst hρ
      exact fin v d _ _ _ _ _ hF' S4 hv
  | drop n =>
    replace S : Sit K T.C Z Hi σ H [.fol p l F, .dat (.tuple [.str "drop", .str n]), .non] := S
    refine q_asg (d := .str "drop") (ev_op (ev_var rfl) ev_int (rd_ixT rfl)) S (lt_b rfl) fun σ2 Hi2 H2 S2 => ?_
    replace S2 : Sit K T.C Z Hi2 σ2 H2 [.fol p l F, .dat (.tuple [.str "drop", .str n]), .dat (.str "drop")] := S2
    refine q_no (EvB.eq (by walk_at "ev") (by decide +kernel)) S2 fun Hi2 H2 S2 => ?_
    refine q_when (EvB.eq (b' := true) (by walk_at "ev") (by decide +kernel)) S2 (fun _ Hi3 H3 S3 => ?_) (fun e => absurd e (by decide))
    exact s_retM (em_meth n rfl (ea_cons (ev_op (ev_var rfl) ev_int (rd_ixT rfl)) ea_nil) ⟨hF, he⟩) S3 fun v d ρ' Hi4 H4 ⟨F', ⟨hd, hF'⟩, hρ⟩ S4 hv => by
      subst hρ
      exact fin v d _ _ _ _ _ hF' S4 hv
  | tell a b w =>
    replace S : Sit K T.C Z Hi σ H [.fol p l F, .dat (.tuple [.str "tell", .str a, .str b, .int w]), .non] := S
    refine q_asg (d := .str "tell") (ev_op (ev_var rfl) ev_int (rd_ixT rfl)) S (lt_b rfl) fun σ2 Hi2 H2 S2 => ?_
    replace S2 : Sit K T.C Z Hi2 σ2 H2 [.fol p l F, .dat (.tuple [.str "tell", .str a, .str b, .int w]), .dat (.str "tell")] := S2
    refine q_no (EvB.eq (by walk_at "ev") (by decide +kernel)) S2 fun Hi2 H2 S2 => ?_
    refine q_no (EvB.eq (by walk_at "ev") (by decide +kernel)) S2 fun Hi2 H2 S2 => ?_
    refine q_when (EvB.eq (b' := true) (by walk_at "ev") (by decide +kernel)) S2 (fun _ Hi3 H3 S3 => ?_) (fun e => absurd e (by decide))
    exact s_retM (em_meth (a, b, w) rfl (ea_cons (ev_op (ev_var rfl) ev_int (rd_ixT rfl)) (ea_cons (ev_op (ev_var rfl) ev_int (rd_ixT rfl)) (ea_cons (ev_op (ev_var rfl) ev_int (rd_ixT rfl)) ea_nil))) ⟨hF, he⟩) S3 fun v d ρ' Hi4 H4 ⟨F', ⟨hd, hF'⟩, hρ⟩ S4 hv => by
      subst hρ
      exact fin v d _ _ _ _ _ hF' S4 hv
  | untell a b w =>
    replace S : Sit K T.C Z Hi σ H [.fol p l F, .dat (.tuple [.str "untell", .str a, .str b, .int w]), .non] := S
    refine q_asg (d := .str "untell") (ev_op (ev_var rfl) ev_int (rd_ixT rfl)) S (lt_b rfl) fun σ2 Hi2 H2 S2 => ?_
    replace S2 : Sit K T.C Z Hi2 σ2 H2 [.fol p l F, .dat (.tuple [.str "untell", .str a, .str b, .int w]), .dat (.str "untell")] := S2
    refine q_no (EvB.eq (by walk_at "ev") (by decide +kernel)) S2 fun Hi2 H2 S2 => ?_
    refine q_no (EvB.eq (by walk_at "ev") (by decide +kernel)) S2 fun Hi2 H2 S2 => ?_
    refine q_no (EvB.eq (by walk_at "ev") (by decide +kernel)) S2 fun Hi2 H2 S2 => ?_
    refine q_when (EvB.eq (b' := true) (by walk_at "ev") (by decide +kernel)) S2 (fun _ Hi3 H3 S3 => ?_) (fun e => absurd e (by decide))
    exact s_retM (em_meth (a, b, w) rfl (ea_cons (ev_op (ev_var rfl) ev_int (rd_ixT rfl)) (ea_cons (ev_op (ev_var rfl) ev_int (rd_ixT rfl)) (ea_cons (ev_op (ev_var rfl) ev_int (rd_ixT rfl)) ea_nil))) ⟨hF, he⟩) S3 fun v d ρ' Hi4 H4 ⟨F', ⟨hd, hF'⟩, hρ⟩ S4 hv => by
      subst hρ
      exact fin v d _ _ _ _ _ hF' S4 hv
  | bar a b =>
    replace S : Sit K T.C Z Hi σ H [.fol p l F, .dat (.tuple [.str "bar", .str a, .str b]), .non] := S
    refine q_asg (d := .str "bar") (ev_op (ev_var rfl) ev_int (rd_ixT rfl)) S (lt_b rfl) fun σ2 Hi2 H2 S2 => ?_
    replace S2 : Sit K T.C Z Hi2 σ2 H2 [.fol p l F, .dat (.tuple [.str "bar", .str a, .str b]), .dat (.str "bar")] := S2
    refine q_no (EvB.eq (by walk_at "ev") (by decide +kernel)) S2 fun Hi2 H2 S2 => ?_
    refine q_no (EvB.eq (by walk_at "ev") (by decide +kernel)) S2 fun Hi2 H2 S2 => ?_
    refine q_no (EvB.eq (by walk_at "ev") (by decide +kernel)) S2 fun Hi2 H2 S2 => ?_
    refine q_no (EvB.eq (by walk_at "ev") (by decide +kernel)) S2 fun Hi2 H2 S2 => ?_
    refine q_when (EvB.eq (b' := true) (by walk_at "ev") (by decide +kernel)) S2 (fun _ Hi3 H3 S3 => ?_) (fun e => absurd e (by decide))
    exact s_retM (em_meth (a, b) rfl (ea_cons (ev_op (ev_var rfl) ev_int (rd_ixT rfl)) (ea_cons (ev_op (ev_var rfl) ev_int (rd_ixT rfl)) ea_nil)) ⟨hF, he⟩) S3 fun v d ρ' Hi4 H4 ⟨F', ⟨hd, hF'⟩, hρ⟩ S4 hv => by
      subst hρ
      exact fin v d _ _ _ _ _ hF' S4 hv
  | unbar a b =>
    replace S : Sit K T.C Z Hi σ H [.fol p l F, .dat (.tuple [.str "unbar", .str a, .str b]), .non] := S
    refine q_asg (d := .str "unbar") (ev_op (ev_var rfl) ev_int (rd_ixT rfl)) S (lt_b rfl) fun σ2 Hi2 H2 S2 => ?_
    replace S2 : Sit K T.C Z Hi2 σ2 H2 [.fol p l F, .dat (.tuple [.str "unbar", .str a, .str b]), .dat (.str "unbar")] := S2
    refine q_no (EvB.eq (by walk_at "ev") (by decide +kernel)) S2 fun Hi2 H2 S2 => ?_
    refine q_no (EvB.eq (by walk_at "ev") (by decide +kernel)) S2 fun Hi2 H2 S2 => ?_
    refine q_no (EvB.eq (by walk_at "ev") (by decide +kernel)) S2 fun Hi2 H2 S2 => ?_
    refine q_no (EvB.eq (by walk_at "ev") (by decide +kernel)) S2 fun Hi2 H2 S2 => ?_
    refine q_no (EvB.eq (by walk_at "ev") (by decide +kernel)) S2 fun Hi2 H2 S2 => ?_
    refine q_when (EvB.eq (b' := true) (by walk_at "ev") (by decide +kernel)) S2 (fun _ Hi3 H3 S3 => ?_) (fun e => absurd e (by decide))
    exact s_retM (em_meth (a, b) rfl (ea_cons (ev_op (ev_var rfl) ev_int (rd_ixT rfl)) (ea_cons (ev_op (ev_var rfl) ev_int (rd_ixT rfl)) ea_nil)) ⟨hF, he⟩) S3 fun v d ρ' Hi4 H4 ⟨F', ⟨hd, hF'⟩, hρ⟩ S4 hv => by
      subst hρ
      exact fin v d _ _ _ _ _ hF' S4 hv
  | strike r =>
    replace S : Sit K T.C Z Hi σ H [.fol p l F, .dat (.tuple [.str "strike", rsnD r]), .non] := S
    refine q_asg (d := .str "strike") (ev_op (ev_var rfl) ev_int (rd_ixT rfl)) S (lt_b rfl) fun σ2 Hi2 H2 S2 => ?_
    replace S2 : Sit K T.C Z Hi2 σ2 H2 [.fol p l F, .dat (.tuple [.str "strike", rsnD r]), .dat (.str "strike")] := S2
    refine q_no (EvB.eq (by walk_at "ev") (by decide +kernel)) S2 fun Hi2 H2 S2 => ?_
    refine q_no (EvB.eq (by walk_at "ev") (by decide +kernel)) S2 fun Hi2 H2 S2 => ?_
    refine q_no (EvB.eq (by walk_at "ev") (by decide +kernel)) S2 fun Hi2 H2 S2 => ?_
    refine q_no (EvB.eq (by walk_at "ev") (by decide +kernel)) S2 fun Hi2 H2 S2 => ?_
    refine q_no (EvB.eq (by walk_at "ev") (by decide +kernel)) S2 fun Hi2 H2 S2 => ?_
    refine q_no (EvB.eq (by walk_at "ev") (by decide +kernel)) S2 fun Hi2 H2 S2 => ?_
    refine q_when (EvB.eq (b' := true) (by walk_at "ev") (by decide +kernel)) S2 (fun _ Hi3 H3 S3 => ?_) (fun e => absurd e (by decide))
    exact s_retM (em_meth r rfl (ea_cons (ev_op (ev_var rfl) ev_int (rd_ixT rfl)) ea_nil) ⟨hF, he⟩) S3 fun v d ρ' Hi4 H4 ⟨F', ⟨hd, hF'⟩, hρ⟩ S4 hv => by
      subst hρ
      exact fin v d _ _ _ _ _ hF' S4 hv
  | unstrike r =>
    replace S : Sit K T.C Z Hi σ H [.fol p l F, .dat (.tuple [.str "unstrike", rsnD r]), .non] := S
    refine q_asg (d := .str "unstrike") (ev_op (ev_var rfl) ev_int (rd_ixT rfl)) S (lt_b rfl) fun σ2 Hi2 H2 S2 => ?_
    replace S2 : Sit K T.C Z Hi2 σ2 H2 [.fol p l F, .dat (.tuple [.str "unstrike", rsnD r]), .dat (.str "unstrike")] := S2
    refine q_no (EvB.eq (by walk_at "ev") (by decide +kernel)) S2 fun Hi2 H2 S2 => ?_
    refine q_no (EvB.eq (by walk_at "ev") (by decide +kernel)) S2 fun Hi2 H2 S2 => ?_
    refine q_no (EvB.eq (by walk_at "ev") (by decide +kernel)) S2 fun Hi2 H2 S2 => ?_
    refine q_no (EvB.eq (by walk_at "ev") (by decide +kernel)) S2 fun Hi2 H2 S2 => ?_
    refine q_no (EvB.eq (by walk_at "ev") (by decide +kernel)) S2 fun Hi2 H2 S2 => ?_
    refine q_no (EvB.eq (by walk_at "ev") (by decide +kernel)) S2 fun Hi2 H2 S2 => ?_
    refine q_no (EvB.eq (by walk_at "ev") (by decide +kernel)) S2 fun Hi2 H2 S2 => ?_
    refine q_when (EvB.eq (b' := true) (by walk_at "ev") (by decide +kernel)) S2 (fun _ Hi3 H3 S3 => ?_) (fun e => absurd e (by decide))
    exact s_retM (em_meth r rfl (ea_cons (ev_op (ev_var rfl) ev_int (rd_ixT rfl)) ea_nil) ⟨hF, he⟩) S3 fun v d ρ' Hi4 H4 ⟨F', ⟨hd, hF'⟩, hρ⟩ S4 hv => by
      subst hρ
      exact fin v d _ _ _ _ _ hF' S4 hv
  | undo =>
    replace S : Sit K T.C Z Hi σ H [.fol p l F, .dat (.tuple [.str "undo"]), .non] := S
    refine q_asg (d := .str "undo") (ev_op (ev_var rfl) ev_int (rd_ixT rfl)) S (lt_b rfl) fun σ2 Hi2 H2 S2 => ?_
    replace S2 : Sit K T.C Z Hi2 σ2 H2 [.fol p l F, .dat (.tuple [.str "undo"]), .dat (.str "undo")] := S2
    refine q_no (EvB.eq (by walk_at "ev") (by decide +kernel)) S2 fun Hi2 H2 S2 => ?_
    refine q_no (EvB.eq (by walk_at "ev") (by decide +kernel)) S2 fun Hi2 H2 S2 => ?_
    refine q_no (EvB.eq (by walk_at "ev") (by decide +kernel)) S2 fun Hi2 H2 S2 => ?_
    refine q_no (EvB.eq (by walk_at "ev") (by decide +kernel)) S2 fun Hi2 H2 S2 => ?_
    refine q_no (EvB.eq (by walk_at "ev") (by decide +kernel)) S2 fun Hi2 H2 S2 => ?_
    refine q_no (EvB.eq (by walk_at "ev") (by decide +kernel)) S2 fun Hi2 H2 S2 => ?_
    refine q_no (EvB.eq (by walk_at "ev") (by decide +kernel)) S2 fun Hi2 H2 S2 => ?_
    refine q_no (EvB.eq (by walk_at "ev") (by decide +kernel)) S2 fun Hi2 H2 S2 => ?_
    exact s_retM (em_meth () rfl ea_nil ⟨hF, he⟩) S2 fun v d ρ' Hi4 H4 ⟨F', ⟨hd, hF'⟩, hρ⟩ S4 hv => by
      subst hρ
      exact fin v d _ _ _ _ _ hF' S4 hv
-- slots of law_detour: 0 _law_folk, 1 _law_state, 2 _law_names_here, 3 _law_xs, 4 _law_a, 5 _law_b, 6 _law_far, 7 _law_odd, 8 _law_some, 9 _law_backs, 10 _law_way
abbrev N_law_detour : List PySem.Str := [("_law_folk" : PySem.Str), ("_law_state" : PySem.Str), ("_law_names_here" : PySem.Str), ("_law_xs" : PySem.Str), ("_law_a" : PySem.Str), ("_law_b" : PySem.Str), ("_law_far" : PySem.Str), ("_law_odd" : PySem.Str), ("_law_some" : PySem.Str), ("_law_backs" : PySem.Str), ("_law_way" : PySem.Str)]
theorem sc_law_detour : FnScope N_law_detour [("_law_folk" : PySem.Str), ("_law_state" : PySem.Str), ("_law_names_here" : PySem.Str), ("_law_xs" : PySem.Str)] (defScope s_law_detour) := ⟨rfl, rfl, rfl, by decide +kernel, rfl, by decide +kernel, by decide +kernel⟩
def t_law_detour {K : PySem.W.Frag} {mg : PySem.Str → Option Value} (T : Tx K mg) : TS :=
  tSeq (tAsg (tCall (sp_law_two K T.C) [] E0 (tCons (tVar 2) (tCons (tOp (rIx K) (tVar 3) (tC (.int 0))) (tNil)))) (gTup K 2 (gCons (gName 4) (gCons (gName 5) (gNil))))) (tSeq (tAsg (tC (.str ("zzzzzzzz" : PySem.Str))) (gName 6)) (tSeq (tAsg (tTupP (tCons (tC (.int 998)) (tCons (tC (.str ("aa" : PySem.Str))) (tCons (tC (.str ("ab" : PySem.Str))) (tCons (tC (.int 77)) (tNil)))))) (gName 7)) (tSeq (tAsg (tLst (tCons (tTupP (tCons (tC (.str ("put" : PySem.Str))) (tCons (tTupP (tCons (tVar 6) (tCons (tTupP (tCons (tTupP (tCons (tC (.str ("day" : PySem.Str))) (tCons (tC (.str ("a" : PySem.Str))) (tNil)))) (tNil))) (tNil)))) (tNil)))) (tCons (tTupP (tCons (tC (.str ("tell" : PySem.Str))) (tCons (tVar 4) (tCons (tVar 5) (tCons (tC (.int 999)) (tNil)))))) (tCons (tTupP (tCons (tC (.str ("bar" : PySem.Str))) (tCons (tVar 6) (tCons (tVar 4) (tNil))))) (tCons (tTupP (tCons (tC (.str ("strike" : PySem.Str))) (tCons (tVar 7) (tNil)))) (tNil)))))) (gName 8)) (tSeq (tAsg (tLst (tCons (tTupP (tCons (tC (.str ("drop" : PySem.Str))) (tCons (tVar 6) (tNil)))) (tCons (tTupP (tCons (tC (.str ("untell" : PySem.Str))) (tCons (tVar 5) (tCons (tVar 4) (tCons (tC (.int 999)) (tNil)))))) (tCons (tTupP (tCons (tC (.str ("unbar" : PySem.Str))) (tCons (tVar 4) (tCons (tVar 6) (tNil))))) (tCons (tTupP (tCons (tC (.str ("unstrike" : PySem.Str))) (tCons (tVar 7) (tNil)))) (tNil)))))) (gName 9)) (tSeq (tAsg (tOp (rModU) (tOp (rIx K) (tVar 3) (tC (.int 1))) (tC (.int 4))) (gName 10)) (tSeq (tIfS (tAnd (tTest (tOp (rEqU K) (tVar 10) (tC (.int 1)))) (tTest (tOp (rInU K) (tCall (sp_law_reason K T.C) [] E0 (tCons (tVar 4) (tCons (tVar 5) (tCons (tC (.int 999)) (tCons (tC (.int 100)) (tNil)))))) (tOp (rIx K) (tVar 1) (tC (.int 1)))))) (tAsg (tC (.int 0)) (gName 10)) (tNext)) (tSeq (tDrop (tCall (sp_law_do K T.C) [] E0 (tCons (tVar 0) (tCons (tOp (rIx K) (tVar 8) (tVar 10)) (tNil))))) (tIfS (tTest (tOp (rEqU K) (tOp (rModU) (tOp (rIx K) (tVar 3) (tC (.int 2))) (tC (.int 2))) (tC (.int 0)))) (tDrop (tMeth T.C ("undo" : PySem.Str) (sp_F_undo K T.C) [] E0 (tVar 0) tNil)) (tDrop (tCall (sp_law_do K T.C) [] E0 (tCons (tVar 0) (tCons (tOp (rIx K) (tVar 9) (tVar 10)) (tNil)))))))))))))
theorem ok_law_detour {P : Program} {w : World} {K : PySem.W.Frag} {mg : PySem.Str → Option Value} {base : Heap} (T : Tx K mg) : FnOk P w K mg base CX0 7 T.law_detour.f T.law_detour.fd [("_law_folk" : PySem.Str), ("_law_state" : PySem.Str), ("_law_names_here" : PySem.Str), ("_law_xs" : PySem.Str)] (sp_law_detour K T.C) :=
  fn_fol T.law_detour.F sc_law_detour (fun _ => rfl) fun cdv A outer s H0 E hr => by
  have hu65 : (A.deeper (envOfC ("_law_detour" : PySem.Str) (defScope s_law_detour) s.heap.objs.size T.law_detour.f cdv)).units + 65 < cLine := by have := hr.un; omega
  refine ⟨t_law_detour T, pss_cons (ps_asg (pe_call (ok_law_two T) (hr.mono (by decide)) rfl T.law_two.g T.law_two.F.kp T.law_two.b .nil pass0 (pa_cons (pv 2) (pa_cons (pe_ix ix_seq (pv 3) (pe_int) (fun _ _ => rfl)) (pa_nil)))) (pg_tup rfl (pgs_cons (pg_name (i := 4) sc_law_detour.nd rfl (Or.inl rfl)) (pgs_cons (pg_name (i := 5) sc_law_detour.nd rfl (Or.inl rfl)) (pgs_nil))))) (pss_cons (ps_set (i := 6) sc_law_detour.nd rfl (Or.inl rfl) (pe_str)) (pss_cons (ps_set (i := 7) sc_law_detour.nd rfl (Or.inl rfl) (pe_tupP (pa_cons (pe_int) (pa_cons (pe_str) (pa_cons (pe_str) (pa_cons (pe_int) (pa_nil))))))) (pss_cons (ps_set (i := 8) sc_law_detour.nd rfl (Or.inl rfl) (pe_lst (pa_cons (pe_tupP (pa_cons (pe_str) (pa_cons (pe_tupP (pa_cons (pv 6) (pa_cons (pe_tupP (pa_cons (pe_tupP (pa_cons (pe_str) (pa_cons (pe_str) (pa_nil)))) (pa_nil))) (pa_nil)))) (pa_nil)))) (pa_cons (pe_tupP (pa_cons (pe_str) (pa_cons (pv 4) (pa_cons (pv 5) (pa_cons (pe_int) (pa_nil)))))) (pa_cons (pe_tupP (pa_cons (pe_str) (pa_cons (pv 6) (pa_cons (pv 4) (pa_nil))))) (pa_cons (pe_tupP (pa_cons (pe_str) (pa_cons (pv 7) (pa_nil)))) (pa_nil))))))) (pss_cons (ps_set (i := 9) sc_law_detour.nd rfl (Or.inl rfl) (pe_lst (pa_cons (pe_tupP (pa_cons (pe_str) (pa_cons (pv 6) (pa_nil)))) (pa_cons (pe_tupP (pa_cons (pe_str) (pa_cons (pv 5) (pa_cons (pv 4) (pa_cons (pe_int) (pa_nil)))))) (pa_cons (pe_tupP (pa_cons (pe_str) (pa_cons (pv 4) (pa_cons (pv 6) (pa_nil))))) (pa_cons (pe_tupP (pa_cons (pe_str) (pa_cons (pv 7) (pa_nil)))) (pa_nil))))))) (pss_cons (ps_set (i := 10) sc_law_detour.nd rfl (Or.inl rfl) (pe_op opMod (pe_ix ix_seq (pv 3) (pe_int) (fun _ _ => rfl)) (pe_int))) (pss_cons (ps_if (PW.pt (pw_and (pt_cmpR (opEq hr.units) (pv 10) (pe_int) (nomark _)) (pw_and1 (pt_cmpR (opIn hu65) (pe_call (ok_law_reason T) (hr.mono (by decide)) rfl T.law_reason.g T.law_reason.F.kp T.law_reason.b .nil pass0 (pa_cons (pv 4) (pa_cons (pv 5) (pa_cons (pe_int) (pa_cons (pe_int) (pa_nil)))))) (pe_ix ix_seq (pv 1) (pe_int) (fun _ _ => rfl)) (by with_unfolding_all rfl))))) (pss_one (ps_set (i := 10) sc_law_detour.nd rfl (Or.inl rfl) (pe_int))) (pss_nil)) (pss_cons (ps_expr (pe_call (ok_law_do T) (hr.mono (by decide)) rfl T.law_do.g T.law_do.F.kp T.law_do.b .nil pass0 (pa_cons (pv 0) (pa_cons (pe_ix ix_seq (pv 8) (pv 10) (fun _ _ => rfl)) (pa_nil))))) (pss_one (ps_if (pt_cmpR (opEq hr.units) (pe_op opMod (pe_ix ix_seq (pv 3) (pe_int) (fun _ _ => rfl)) (pe_int)) (pe_int) (nomark _)) (pss_one (ps_expr (pe_meth0 (pv 0) T.cl T.F_undo.m (ok_F_undo T) (hr.mono (by decide)) T.F_undo.b .nil pass0))) (pss_one (ps_expr (pe_call (ok_law_do T) (hr.mono (by decide)) rfl T.law_do.g T.law_do.F.kp T.law_do.b .nil pass0 (pa_cons (pv 0) (pa_cons (pe_ix ix_seq (pv 9) (pv 10) (fun _ _ => rfl)) (pa_nil))))))))))))))), ?_⟩
  intro ⟨s, ns, xs⟩ F p l Z Hi σ H Q ⟨hD, hlen, hX⟩ S q
  replace hD : DetOk ns s F := hD
  replace hlen : xs.length = 3 := hlen
  replace hX : OkX xs := hX
  replace S : Sit K T.C Z Hi σ H [.fol p l F, .dat (s4D s), .dat (strsD ns), .dat (intsD xs), .non, .non, .non, .non, .non, .non, .non] := S
  have x0 := gx_ok hX (k := 0) (by omega)
  have x1 := gx_ok hX (k := 1) (by omega)
  have a0 := gx_at (xs := xs) (k := 0) (by omega)
  have a1 := gx_at (xs := xs) (k := 1) (by omega)
  have a2 := gx_at (xs := xs) (k := 2) (by omega)
  have hns := hD.names
  refine q_asgTR (P := fun d => ∃ x y, d = .tuple [.str x, .str y] ∧ x ∈ ns ∧ y ∈ ns ∧ x ≠ y) [4, 5] (ev_callR (a := (ns, gx xs 0)) (ea_cons (ev_var rfl) (ea_cons (ev_op (ev_var rfl) ev_int (rd_ixL a0)) ea_nil)) ⟨hns.len, hns.nodup, x0.1⟩) (fun d ⟨x, y, e, _⟩ => ⟨_, e, rfl⟩) rfl S (all_lt rfl) fun ds hds σ1 Hi1 H1 S1 => ?_
  obtain ⟨a, b, e, ha, hb, hab⟩ := hds
  cases e
  refine q_asg ev_str S1 (lt_b rfl) fun σ2 Hi2 H2 S2 => ?_
  replace S2 : Sit K T.C Z Hi2 σ2 H2 [.fol p l F, .dat (s4D s), .dat (strsD ns), .dat (intsD xs), .dat (.str a), .dat (.str b), .dat (.str farN), .non, .non, .non, .non] := S2
  refine q_asg (d := rsnD oddR) (ev_tupB (ea_cons ev_int (ea_cons ev_str (ea_cons ev_str (ea_cons ev_int ea_nil)))) rfl) S2 (lt_b rfl) fun σ3 Hi3 H3 S3 => ?_
  replace S3 : Sit K T.C Z Hi3 σ3 H3 [.fol p l F, .dat (s4D s), .dat (strsD ns), .dat (intsD xs), .dat (.str a), .dat (.str b), .dat (.str farN), .dat (rsnD oddR), .non, .non, .non] := S3
  refine q_asg (d := .list ((somes a b).map deedD)) (ev_lstB (ea_cons (ev_tupB (ea_cons ev_str (ea_cons (ev_tupB (ea_cons (ev_var rfl) (ea_cons (ev_tupP (ea_cons (ev_tupB (ea_cons ev_str (ea_cons ev_str ea_nil)) rfl) ea_nil) (by decide)) ea_nil)) rfl) ea_nil)) rfl) (ea_cons (ev_tupB (ea_cons ev_str (ea_cons (ev_var rfl) (ea_cons (ev_var rfl) (ea_cons ev_int ea_nil)))) rfl) (ea_cons (ev_tupB (ea_cons ev_str (ea_cons (ev_var rfl) (ea_cons (ev_var rfl) ea_nil))) rfl) (ea_cons (ev_tupB (ea_cons ev_str (ea_cons (ev_var rfl) ea_nil)) rfl) ea_nil)))) rfl) S3 (lt_b rfl) fun σ4 Hi4 H4 S4 => ?_
  refine q_asg (d := .list ((backs a b).map deedD)) (ev_lstB (ea_cons (ev_tupB (ea_cons ev_str (ea_cons (ev_var rfl) ea_nil)) rfl) (ea_cons (ev_tupB (ea_cons ev_str (ea_cons (ev_var rfl) (ea_cons (ev_var rfl) (ea_cons ev_int ea_nil)))) rfl) (ea_cons (ev_tupB (ea_cons ev_str (ea_cons (ev_var rfl) (ea_cons (ev_var rfl) ea_nil))) rfl) (ea_cons (ev_tupB (ea_cons ev_str (ea_cons (ev_var rfl) ea_nil)) rfl) ea_nil)))) rfl) S4 (lt_b rfl) fun σ5 Hi5 H5 S5 => ?_
  replace S5 : Sit K T.C Z Hi5 σ5 H5 [.fol p l F, .dat (s4D s), .dat (strsD ns), .dat (intsD xs), .dat (.str a), .dat (.str b), .dat (.str farN), .dat (rsnD oddR), .dat (.list ((somes a b).map deedD)), .dat (.list ((backs a b).map deedD)), .non] := S5
  refine q_asg (by walk_at "ev") S5 (lt_b rfl) fun σ6 Hi6 H6 S6 => ?_
  obtain ⟨w0, hw0⟩ : ∃ w : Nat, gx xs 1 % 4 = (w : Nat) := ⟨(gx xs 1 % 4).toNat, by omega⟩
  rw [hw0] at S6
  have hw04 : w0 < 4 := by omega
  replace S6 : Sit K T.C Z Hi6 σ6 H6 [.fol p l F, .dat (s4D s), .dat (strsD ns), .dat (intsD xs), .dat (.str a), .dat (.str b), .dat (.str farN), .dat (rsnD oddR), .dat (.list ((somes a b).map deedD)), .dat (.list ((backs a b).map deedD)), .dat (.int (w0 : Nat))] := S6
  have hrr := ok_reason (w := 999) (k := 100) (hns.ok a ha).1 (hns.ok b hb).1 hab (by decide) (by decide) (by decide)
  have key : ∀ (w : Nat) (σ7 : L2.St) (Hi7 H7 : Hp), w < 4 → (w = 1 → reasonOf a b 999 100 ∉ s.told) → Sit K T.C Z Hi7 σ7 H7 [.fol p l F, .dat (s4D s), .dat (strsD ns), .dat (intsD xs), .dat (.str a), .dat (.str b), .dat (.str farN), .dat (rsnD oddR), .dat (.list ((somes a b).map deedD)), .dat (.list ((backs a b).map deedD)), .dat (.int (w : Nat))] → tSeq (tDrop (tCall (sp_law_do K T.C) [] E0 (tCons (tVar 0) (tCons (tOp (rIx K) (tVar 8) (tVar 10)) (tNil))))) (tIfS (tTest (tOp (rEqU K) (tOp (rModU) (tOp (rIx K) (tVar 3) (tC (.int 2))) (tC (.int 2))) (tC (.int 0)))) (tDrop (tMeth T.C ("undo" : PySem.Str) (sp_F_undo K T.C) [] E0 (tVar 0) tNil)) (tDrop (tCall (sp_law_do K T.C) [] E0 (tCons (tVar 0) (tCons (tOp (rIx K) (tVar 9) (tVar 10)) (tNil)))))) { nx := fun _ H' => Q .non H', rt := Q } σ7 H7 := by
    intro w σ7 Hi7 H7 hw hw1 S7
    have hl1 : w < (somes a b).length := hw
    have hl2 : w < (backs a b).length := hw
    have he : (somes a b)[w]? = some (somes a b)[w] := List.getElem?_eq_getElem hl1
    have he' : (backs a b)[w]? = some (backs a b)[w] := List.getElem?_eq_getElem hl2
    generalize (somes a b)[w] = e at he
    generalize (backs a b)[w] = e' at he'
    obtain ⟨n1, n2, h1, h2, h3⟩ := det_ok hD ha hb hab hw1 he he'
    have i1 : atI ((somes a b).map deedD) (w : Int) = some (deedD e) := atI_nat (by rw [List.getElem?_map, he]; rfl)
    have i2 : atI ((backs a b).map deedD) (w : Int) = some (deedD e') := atI_nat (by rw [List.getElem?_map, he']; rfl)
    have z30 : Sz 30 F.cur := ⟨hD.lcr, hD.lct, hD.lcb, hD.lcs⟩
    have hF1 : OkF (doF F e) := okF_do hD.ok h1 z30 (by decide) (by have := hD.lah; omega)
    refine q_dropM (em_call e rfl (ea_cons (ev_op (ev_var rfl) (ev_var rfl) (rd_ixL i1)) ea_nil) ⟨hD.ok, h1⟩) S7 fun d ρ' ⟨F1, hF1e, hρ⟩ Hi8 H8 S8 => ?_
    subst hρ
    have hF1e' : F1 = doF F e := hF1e
    subst hF1e'
    rw [do_not n1] at S8 hF1
    replace S8 : Sit K T.C Z Hi8 σ7 H8 [.fol p l { F with cur := behind F.cur e, ahead := F.ahead ++ [F.cur] }, .dat (s4D s), .dat (strsD ns), .dat (intsD xs), .dat (.str a), .dat (.str b), .dat (.str farN), .dat (rsnD oddR), .dat (.list ((somes a b).map deedD)), .dat (.list ((backs a b).map deedD)), .dat (.int (w : Nat))] := S8
    refine s_if (b := decide (gx xs 2 % 2 = 0)) (by walk_at "ev") S8 (fun _ Hi9 H9 S9 => ?_) (fun _ Hi9 H9 S9 => ?_)
    · refine s_dropM (em_meth () rfl ea_nil ⟨hF1, by simp⟩) S9 fun d ρ' ⟨F2, ⟨hd, hF2⟩, hρ⟩ Hi10 H10 S10 => ?_
      subst hρ
      rw [do_undo (F := { F with cur := behind F.cur e, ahead := F.ahead ++ [F.cur] }) rfl] at hF2
      refine q .non .none F2 _ _ _ _ ?_ S10 .non
      rw [hF2]
      exact ⟨rfl, rfl, by show F.ahead.length ≤ F.ahead.length + 2; omega, hD.ok.ah⟩
    · refine s_dropM (em_call e' rfl (ea_cons (ev_op (ev_var rfl) (ev_var rfl) (rd_ixL i2)) ea_nil) ⟨hF1, h2 _⟩) S9 fun d ρ' ⟨F2, hF2, hρ⟩ Hi10 H10 S10 => ?_
      subst hρ
      have hF2' : F2 = doF { F with cur := behind F.cur e, ahead := F.ahead ++ [F.cur] } e' := hF2
      rw [do_not n2] at hF2'
      refine q .non .none F2 _ _ _ _ ?_ S10 .non
      rw [hF2']
      refine ⟨rfl, h3, ?_, ?_⟩
      · show ((F.ahead ++ [F.cur]) ++ [behind F.cur e]).length ≤ F.ahead.length + 2
        simp
      · exact all_snoc (all_snoc hD.ok.ah hD.ok.cur) hF1.cur
  refine q_when (b := decide ((w0 : Int) = 1) && decide (reasonOf a b 999 100 ∈ s.told)) (eb_and (by walk_at "ev") fun _ => eb_test (ev_inR hrr hD.end_.told (ev_call (f := fun a : PySem.Str × PySem.Str × Int × Int => rsnD (reasonOf a.1 a.2.1 a.2.2.1 a.2.2.2)) (a, b, 999, 100) (ea_cons (ev_var rfl) (ea_cons (ev_var rfl) (ea_cons ev_int (ea_cons ev_int ea_nil)))) trivial) (ev_op (ev_var rfl) ev_int (rd_ixT rfl)))) S6 (fun e Hi7 H7 S7 => ?_) (fun e Hi7 H7 S7 => ?_)
  · exact s_asg ev_int S7 (lt_b rfl) fun σ8 Hi8 H8 S8 => key 0 _ _ _ (by decide) (fun z => by cases z) S8
  · refine key w0 _ _ _ hw04 (fun z m => ?_) S7
    rw [z, decide_eq_true m] at e
    simp at e
end FK

set_option Elab.async false
set_option linter.all false
set_option maxRecDepth 100000
set_option maxHeartbeats 4000000
namespace FK
open PySem PySem.Spec PyProof.Rows L2 FR
local macro_rules | `(tactic| walk_at "rd") => `(tactic| first
  | with_reducible exact rd_addI | with_reducible exact rd_subI | with_reducible exact rd_leI | with_reducible exact rd_ltI | with_reducible exact rd_geI | with_reducible exact rd_gtI | with_reducible exact rd_ltS | with_reducible exact rd_eqI | with_reducible exact rd_neI | with_reducible exact rd_eqS | with_reducible exact rd_neS
  | with_reducible exact rd_isNN | with_reducible exact rd_isNS | with_reducible exact rd_notNN | with_reducible exact rd_notNS | with_reducible exact rd_inS
  | ((with_reducible apply rd_ixT); rfl) | ((with_reducible apply rd_ixL); rfl)
  | ((with_reducible apply rd_modI); first | decide | assumption)
  | ((with_reducible apply rd_mulI); assumption) | ((with_reducible apply rd_powI); assumption) | ((with_reducible apply rd_divI); assumption) | ((with_reducible apply rd_addS); assumption) | ((with_reducible apply rd_mulS); assumption) | ((with_reducible apply rd_ixL); assumption) | ((with_reducible apply rd_ixT); assumption)
  | with_reducible assumption)
local macro_rules | `(tactic| walk_at "rc") => `(tactic| first
  | with_reducible exact rc_lenL | with_reducible exact rc_lenT | with_reducible exact rc_lenScr | with_reducible exact rc_minI | with_reducible exact rc_maxI | with_reducible exact rc_minS | with_reducible exact rc_maxS | with_reducible exact rc_tup | with_reducible exact rc_listT | with_reducible exact rc_intB | with_reducible exact rc_abs
  | ((with_reducible apply rc_lenS); assumption) | with_reducible exact rc_any | with_reducible exact rc_all | with_reducible assumption)
local macro_rules | `(tactic| walk_at "ev") => `(tactic| first
  | ((with_reducible apply ev_var); rfl) | with_reducible exact ev_int | with_reducible exact ev_str | with_reducible exact ev_bl | with_reducible exact ev_non | with_reducible exact ea_nil
  | with_reducible assumption
  | ((with_reducible apply ev_op); walk_at "ev"; walk_at "ev"; walk_at "rd")
  | ((with_reducible apply ea_cons); walk_at "ev"; walk_at "ev")
  | ((with_reducible apply ev_cb); walk_at "ev"; walk_at "rc")
  | ((with_reducible apply ev_tupB); walk_at "ev"; rfl) | ((with_reducible apply ev_lstB); walk_at "ev"; rfl)
  | ((with_reducible apply ev_andV); walk_at "ev"; (intro _; walk_at "ev")) | ((with_reducible apply ev_orV); walk_at "ev"; (intro _; walk_at "ev")) | ((with_reducible apply ev_notV); walk_at "ev")
  | ((with_reducible apply ev_chain); walk_at "ev"; walk_at "ev"; walk_at "ev"; walk_at "rd"; (intro _; walk_at "rd"))
  | ((with_reducible apply eb_and); walk_at "ev"; (intro _; walk_at "ev")) | ((with_reducible apply eb_or); walk_at "ev"; (intro _; walk_at "ev")) | ((with_reducible apply eb_not); walk_at "ev") | ((with_reducible apply eb_test); walk_at "ev") | ((with_reducible apply eb_B); walk_at "ev")
  | ((with_reducible apply ev_isi (b := true)); walk_at "ev"; (intro _ z; cases z); rfl) | ((with_reducible apply ev_isi (b := false)); walk_at "ev"; (intro _ z; cases z); rfl))


theorem len_law {K : PySem.W.Frag} {C : Addr} {vs : List V} {H : Hp} {Q : VK} {E : XK} (h : sp_law K C vs H Q E) : vs.length = 1 := by
  obtain ⟨a, ns, rfl, _⟩ := h
  rfl
abbrev deedsPost : D → Prop := fun d => ∃ us ns l, d = .tuple [rulesD us, strsD ns, dsD l] ∧ (∀ u ∈ us, OkRul u) ∧ us.length ≤ 4 ∧ OkNs ns ∧ l ≠ [] ∧ l.length ≤ 24 ∧ RunOk ns ⟨[], [], [], []⟩ [] l
abbrev gG : Fo → Unit → D := fun F _ => grD (groundM F.rules F.cur)
abbrev bG : Fo → Unit → D := fun F _ => rowsD F.cur.rows
-- slots of law: 0 _law_script, 1 _law_rules_here, 2 _law_names_here, 3 _law_deeds_here, 4 _law_first, 5 _law_second, 6 _law_deed_here, 7 _law_state, 8 _law_xs, 9 _law_wanted_here, 10 _law_done, 11 _law_k, 12 _law_ys, 13 _law_put, 14 _law_gone, 15 _law_row_here, 16 _law_j
abbrev N_law : List PySem.Str := [("_law_script" : PySem.Str), ("_law_rules_here" : PySem.Str), ("_law_names_here" : PySem.Str), ("_law_deeds_here" : PySem.Str), ("_law_first" : PySem.Str), ("_law_second" : PySem.Str), ("_law_deed_here" : PySem.Str), ("_law_state" : PySem.Str), ("_law_xs" : PySem.Str), ("_law_wanted_here" : PySem.Str), ("_law_done" : PySem.Str), ("_law_k" : PySem.Str), ("_law_ys" : PySem.Str), ("_law_put" : PySem.Str), ("_law_gone" : PySem.Str), ("_law_row_here" : PySem.Str), ("_law_j" : PySem.Str)]
theorem sc_law : FnScope N_law [("_law_script" : PySem.Str)] (defScope s_law) := ⟨rfl, rfl, rfl, by decide +kernel, rfl, by decide +kernel, by decide +kernel⟩
def t_law {K : PySem.W.Frag} {mg : PySem.Str → Option Value} (T : Tx K mg) : TS :=
  tSeq (tAsg (tCall (sp_law_deeds K T.C) [] E0 (tCons (tVar 0) (tNil))) (gTup K 3 (gCons (gName 1) (gCons (gName 2) (gCons (gName 3) (gNil)))))) (tSeq (tPar 4 5 (tCons (tMake T.C (sp_F_init K T.C) [] E0 (tCons (tVar 1) (tNil))) (tCons (tMake T.C (sp_F_init K T.C) [] E0 (tCons (tVar 1) (tNil))) (tNil)))) (tSeq (tFor (iSeq K (tVar 3)) (gTup K 2 (gCons (gName 6) (gCons (gName 7) (gNil)))) (tDrop (tCall (sp_law_do K T.C) [] E0 (tCons (tVar 4) (tCons (tVar 6) (tNil)))))) (tSeq (tAsg (tOp (rIx K) (tOp (rIx K) (tVar 3) (tUn (rU fun i => .int (-i)) (tC (.int 1)))) (tC (.int 1))) (gName 7)) (tSeq (tAsg (tCall (sp_law_numbers K T.C) [] E0 (tCons (tCall (sp_law_cell K T.C) [] E0 (tCons (tVar 0) (tCons (tC (.int 1)) (tNil)))) (tCons (tC (.int 34)) (tNil)))) (gName 8)) (tSeq (tAsg (tCall (sp_law_wanted K T.C) [] E0 (tCons (tVar 7) (tNil))) (gName 9)) (tSeq (tAsg (tLc (iSeq K (tCall (sp_law_order K T.C) [] E0 (tCons (tSl (rSlU K) (tVar 8) (tPart (tC (.int 10))) (tPart (tC (.int 24)))) (tCons (tCB (rLenU K) (tCons (tVar 9) (tNil))) (tNil))))) (gName 11) (tYes) (tOp (rIx K) (tVar 9) (tVar 11)) [11]) (gName 10)) (tSeq (tFor (iRng1 (tCons (tCB (rLenU K) (tCons (tVar 10) (tNil))) (tNil))) (gName 11) (tSeq (tIfS (tTest (tOp (rEqU K) (tOp (rModU) (tOp (rIx K) (tVar 8) (tOp (rAddU K) (tC (.int 24)) (tOp (rModU) (tVar 11) (tC (.int 10))))) (tC (.int 4))) (tC (.int 1)))) (tSeq (tAsg (tLc (iRng2 (tCons (tC (.int 3)) (tCons (tC (.int 6)) (tNil)))) (gName 16) (tYes) (tOp (rIx K) (tVar 8) (tOp (rAddU K) (tC (.int 10)) (tOp (rModU) (tOp (rAddU K) (tVar 11) (tVar 16)) (tC (.int 14))))) [16]) (gName 12)) (tDrop (tCall (sp_law_detour K T.C) [] E0 (tCons (tVar 5) (tCons (tVar 7) (tCons (tVar 2) (tCons (tVar 12) (tNil)))))))) (tNext)) (tDrop (tCall (sp_law_do K T.C) [] E0 (tCons (tVar 5) (tCons (tOp (rIx K) (tVar 10) (tVar 11)) (tNil))))))) (tSeq (tAsg (tCB (rTupP K) (tCons (tLc (iSeq K (tVar 10)) (gName 6) (tTest (tOp (rEqU K) (tOp (rIx K) (tVar 6) (tC (.int 0))) (tC (.str ("put" : PySem.Str))))) (tOp (rIx K) (tVar 6) (tC (.int 1))) [6]) (tNil))) (gName 13)) (tSeq (tIfS (tOr (tTest (tOp (rNeU K) (tMeth T.C ("ground" : PySem.Str) (sp_F_ground K T.C) [] E0 (tVar 5) tNil) (tMeth T.C ("ground" : PySem.Str) (sp_F_ground K T.C) [] E0 (tVar 4) tNil))) (tTest (tOp (rNeU K) (tMeth T.C ("book" : PySem.Str) (sp_F_book K T.C) [] E0 (tVar 5) tNil) (tVar 13)))) (tRet (tC (.bl false))) (tNext)) (tSeq (tAsg (tLst (tNil)) (gName 14)) (tSeq (tFor (iSeq K (tMeth T.C ("book" : PySem.Str) (sp_F_book K T.C) [] E0 (tVar 5) tNil)) (gName 15) (tSeq (tDrop (tMeth T.C ("drop" : PySem.Str) (sp_F_drop K T.C) [] E0 (tVar 5) (tCons (tOp (rIx K) (tVar 15) (tC (.int 0))) (tNil)))) (tSeq (tDrop (tBM K "list" rAppend (tVar 14) (tCons (tOp (rIx K) (tVar 15) (tC (.int 0))) (tNil)))) (tIfS (tTest (tOp (rNeU K) (tMeth T.C ("ground" : PySem.Str) (sp_F_ground K T.C) [] E0 (tVar 5) tNil) (tCall (sp_law_without_rows K T.C) [] E0 (tCons (tVar 1) (tCons (tVar 7) (tCons (tVar 14) (tNil))))))) (tRet (tC (.bl false))) (tNext))))) (tSeq (tFor (iSeq K (tOp (rIx K) (tVar 7) (tC (.int 0)))) (gName 15) (tDrop (tMeth T.C ("put" : PySem.Str) (sp_F_put K T.C) [] E0 (tVar 5) (tCons (tVar 15) (tNil))))) (tRet (tAndV (tOp (rEqU K) (tMeth T.C ("ground" : PySem.Str) (sp_F_ground K T.C) [] E0 (tVar 5) tNil) (tMeth T.C ("ground" : PySem.Str) (sp_F_ground K T.C) [] E0 (tVar 4) tNil)) (tOp (rEqU K) (tMeth T.C ("book" : PySem.Str) (sp_F_book K T.C) [] E0 (tVar 5) tNil) (tMeth T.C ("book" : PySem.Str) (sp_F_book K T.C) [] E0 (tVar 4) tNil))))))))))))))))
theorem ok_law {P : Program} {w : World} {K : PySem.W.Frag} {mg : PySem.Str → Option Value} {base : Heap} (T : Tx K mg) : FnOk P w K mg base CX0 8 T.law.f T.law.fd [("_law_script" : PySem.Str)] (sp_law K T.C) := by
  refine T.law.F.ok sc_law (fun vs H Q E h => len_law h) (fun cdv A outer s H vs Q E hr h => ?_)
  refine ⟨t_law T, PSs.nox (pss_cons (ps_asg (pe_call (ok_law_deeds T) (hr.mono (by decide)) rfl T.law_deeds.g T.law_deeds.F.kp T.law_deeds.b .nil pass0 (pa_cons (pv 0) (pa_nil))) (pg_tup rfl (pgs_cons (pg_name (i := 1) sc_law.nd rfl (Or.inl rfl)) (pgs_cons (pg_name (i := 2) sc_law.nd rfl (Or.inl rfl)) (pgs_cons (pg_name (i := 3) sc_law.nd rfl (Or.inl rfl)) (pgs_nil)))))) (pss_cons (ps_par rfl sc_law.nd (i := 4) (j := 5) rfl rfl (by decide) rfl rfl (pa_cons (pe_make T.mkr (ok_F_init T) (hr.mono (by decide)) rfl T.gC T.F_init.b .nil pass0 (pa_cons (pv 1) (pa_nil))) (pa_cons (pe_make T.mkr (ok_F_init T) (hr.mono (by decide)) rfl T.gC T.F_init.b .nil pass0 (pa_cons (pv 1) (pa_nil))) (pa_nil))) (by rfl)) (pss_cons (ps_for PassesOwn.never rfl (pi_seq (pv 3)) (pg_tup rfl (pgs_cons (pg_name (i := 6) sc_law.nd rfl (Or.inl rfl)) (pgs_cons (pg_name (i := 7) sc_law.nd rfl (Or.inl rfl)) (pgs_nil)))) (pss_one (ps_expr (pe_call (ok_law_do T) (hr.mono (by decide)) rfl T.law_do.g T.law_do.F.kp T.law_do.b .nil pass0 (pa_cons (pv 4) (pa_cons (pv 6) (pa_nil))))))) (pss_cons (ps_set (i := 7) sc_law.nd rfl (Or.inl rfl) (pe_ix ix_seq (pe_ix ix_seq (pv 3) (pe_un un_neg (pe_int)) (fun _ _ => rfl)) (pe_int) (fun _ _ => rfl))) (pss_cons (ps_set (i := 8) sc_law.nd rfl (Or.inr rfl) (pe_call (ok_law_numbers T) (hr.mono (by decide)) rfl T.law_numbers.g T.law_numbers.F.kp T.law_numbers.b .nil pass0 (pa_cons (pe_call (ok_law_cell T) (hr.mono (by decide)) rfl T.law_cell.g T.law_cell.F.kp T.law_cell.b .nil pass0 (pa_cons (pv 0) (pa_cons (pe_int) (pa_nil)))) (pa_cons (pe_int) (pa_nil))))) (pss_cons (ps_set (i := 9) sc_law.nd rfl (Or.inr rfl) (pe_call (ok_law_wanted T) (hr.mono (by decide)) rfl T.law_wanted.g T.law_wanted.F.kp T.law_wanted.b .nil pass0 (pa_cons (pv 7) (pa_nil)))) (pss_cons (ps_setLc (i := 10) (own := [(("_law_k" : PySem.Str), 11)]) (g := gName 11) (tt := tYes) (te := tOp (rIx K) (tVar 9) (tVar 11)) rfl sc_law.nd rfl rfl (sw_true rfl rfl rfl (by decide +kernel)) (pi_seq (pe_call (ok_law_order T) (hr.mono (by decide)) rfl T.law_order.g T.law_order.F.kp T.law_order.b .nil pass0 (pa_cons (pe_slice slU (pv 8) (po_some (pe_int)) (po_some (pe_int))) (pa_cons (pe_callB (cLen) rfl T.b_len (by decide +kernel) (pa_cons (pv 9) (pa_nil))) (pa_nil))))) (blkOk_by (N := N_law) (sc := defScope s_law) (by decide +kernel)) (fun _ _ _ _ _ => pg_name (i := 11) sc_law.nd rfl (Or.inl rfl)) (fun _ _ _ _ _ => pts_nil) (fun _ _ _ _ _ => pe_ix ix_seq (pv 9) (pv 11) (fun _ _ => rfl))) (pss_cons (ps_for PassesOwn.never rfl (pi_range1 rfl T.b_range (pa_cons (pe_callB (cLen) rfl T.b_len (by decide +kernel) (pa_cons (pv 10) (pa_nil))) (pa_nil))) (pg_name (i := 11) sc_law.nd rfl (Or.inr rfl)) (pss_cons (ps_if (pt_cmpR (opEq hr.units) (pe_op opMod (pe_ix ix_seq (pv 8) (pe_op opAdd (pe_int) (pe_op opMod (pv 11) (pe_int))) (fun _ _ => rfl)) (pe_int)) (pe_int) (nomark _)) (pss_cons (ps_setLc (i := 12) (own := [(("_law_j" : PySem.Str), 16)]) (g := gName 16) (tt := tYes) (te := tOp (rIx K) (tVar 8) (tOp (rAddU K) (tC (.int 10)) (tOp (rModU) (tOp (rAddU K) (tVar 11) (tVar 16)) (tC (.int 14))))) rfl sc_law.nd rfl rfl (sw_true rfl rfl rfl (by decide +kernel)) (pi_range2 rfl T.b_range (pa_cons (pe_int) (pa_cons (pe_int) (pa_nil)))) (blkOk_by (N := N_law) (sc := defScope s_law) (by decide +kernel)) (fun _ _ _ _ _ => pg_name (i := 16) sc_law.nd rfl (Or.inl rfl)) (fun _ _ _ _ _ => pts_nil) (fun _ _ _ _ _ => pe_ix ix_seq (pv 8) (pe_op opAdd (pe_int) (pe_op opMod (pe_op opAdd (pv 11) (pv 16)) (pe_int))) (fun _ _ => rfl))) (pss_one (ps_expr (pe_call (ok_law_detour T) (hr.mono (by decide)) rfl T.law_detour.g T.law_detour.F.kp T.law_detour.b .nil pass0 (pa_cons (pv 5) (pa_cons (pv 7) (pa_cons (pv 2) (pa_cons (pv 12) (pa_nil))))))))) (pss_nil)) (pss_one (ps_expr (pe_call (ok_law_do T) (hr.mono (by decide)) rfl T.law_do.g T.law_do.F.kp T.law_do.b .nil pass0 (pa_cons (pv 5) (pa_cons (pe_ix ix_seq (pv 10) (pv 11) (fun _ _ => rfl)) (pa_nil)))))))) (pss_cons (ps_set (i := 13) sc_law.nd rfl (Or.inl rfl) (pe_callTy (cTup) rfl T.b_tuple (by rfl) (pa_cons (pe_lc (own := [(("_law_deed_here" : PySem.Str), 6)]) (g := gName 6) (tt := tTest (tOp (rEqU K) (tOp (rIx K) (tVar 6) (tC (.int 0))) (tC (.str ("put" : PySem.Str))))) (te := tOp (rIx K) (tVar 6) (tC (.int 1))) rfl sc_law.nd (pi_seq (pv 10)) (blkOk_by (N := N_law) (sc := defScope s_law) (by decide +kernel)) (fun _ _ _ _ _ => pg_name (i := 6) sc_law.nd rfl (Or.inl rfl)) (fun _ _ _ _ _ => pts_one (pt_cmpR (opEq hr.units) (pe_ix ix_seq (pv 6) (pe_int) (fun _ _ => rfl)) (pe_str) (nomark _))) (fun _ _ _ _ _ => pe_ix ix_seq (pv 6) (pe_int) (fun _ _ => rfl))) (pa_nil)))) (pss_cons (ps_if (PW.pt (pw_or (pt_cmpR (opNe hr.units) (pe_meth0 (pv 5) T.cl T.F_ground.m (ok_F_ground T) (hr.mono (by decide)) T.F_ground.b .nil pass0) (pe_meth0 (pv 4) T.cl T.F_ground.m (ok_F_ground T) (hr.mono (by decide)) T.F_ground.b .nil pass0) (nomark _)) (pw_or1 (pt_cmpR (opNe hr.units) (pe_meth0 (pv 5) T.cl T.F_book.m (ok_F_book T) (hr.mono (by decide)) T.F_book.b .nil pass0) (pv 13) (nomark _))))) (pss_one (ps_ret (pe_bl))) (pss_nil)) (pss_cons (ps_set (i := 14) sc_law.nd rfl (Or.inl rfl) (pe_lst (pa_nil))) (pss_cons (ps_for PassesOwn.never rfl (pi_seq (pe_meth0 (pv 5) T.cl T.F_book.m (ok_F_book T) (hr.mono (by decide)) T.F_book.b .nil pass0)) (pg_name (i := 15) sc_law.nd rfl (Or.inl rfl)) (pss_cons (ps_expr (pe_meth (pv 5) T.cl T.F_drop.m (ok_F_drop T) (hr.mono (by decide)) T.F_drop.b .nil pass0 (pa_cons (pe_ix ix_seq (pv 15) (pe_int) (fun _ _ => rfl)) (pa_nil)))) (pss_cons (ps_expr (pe_bm PySem.F.plainAttrs_list PySem.F.slot_list_append PySem.F.type_list_append mt_append (pv 14) (pa_cons (pe_ix ix_seq (pv 15) (pe_int) (fun _ _ => rfl)) (pa_nil)))) (pss_one (ps_if (pt_cmpR (opNe hr.units) (pe_meth0 (pv 5) T.cl T.F_ground.m (ok_F_ground T) (hr.mono (by decide)) T.F_ground.b .nil pass0) (pe_call (ok_law_without_rows T) (hr.mono (by decide)) rfl T.law_without_rows.g T.law_without_rows.F.kp T.law_without_rows.b .nil pass0 (pa_cons (pv 1) (pa_cons (pv 7) (pa_cons (pv 14) (pa_nil))))) (nomark _)) (pss_one (ps_ret (pe_bl))) (pss_nil)))))) (pss_cons (ps_for PassesOwn.never rfl (pi_seq (pe_ix ix_seq (pv 7) (pe_int) (fun _ _ => rfl))) (pg_name (i := 15) sc_law.nd rfl (Or.inl rfl)) (pss_one (ps_expr (pe_meth (pv 5) T.cl T.F_put.m (ok_F_put T) (hr.mono (by decide)) T.F_put.b .nil pass0 (pa_cons (pv 15) (pa_nil)))))) (pss_one (ps_ret (pe_and (pe_cmpR (opEq hr.units) (pe_meth0 (pv 5) T.cl T.F_ground.m (ok_F_ground T) (hr.mono (by decide)) T.F_ground.b .nil pass0) (pe_meth0 (pv 4) T.cl T.F_ground.m (ok_F_ground T) (hr.mono (by decide)) T.F_ground.b .nil pass0) (nomark _)) (pe_one (pe_cmpR (opEq hr.units) (pe_meth0 (pv 5) T.cl T.F_book.m (ok_F_book T) (hr.mono (by decide)) T.F_book.b .nil pass0) (pe_meth0 (pv 4) T.cl T.F_book.m (ok_F_book T) (hr.mono (by decide)) T.F_book.b .nil pass0) (nomark _))))))))))))))))))), ?_⟩
  obtain ⟨a, ns, rfl, hsq, hlen, q⟩ := h
  obtain ⟨Z, hM, S⟩ : ∃ Z : Zn, Z.M = [] ∧ Sit K T.C Z H (L2.start N_law [.ref a]) H [.dat (.scr ns), .non, .non, .non, .non, .non, .non, .non, .non, .non, .non, .non, .non, .non, .non, .non, .non] := ⟨⟨[], H, H⟩, rfl, Same.refl H, fun a h => ⟨h, rfl⟩, fun a o e _ => e, [], slots_start (vs := [.ref a]) (ds := [.scr ns]) 16 (.cons (.scr hsq) .nil), List.nodup_nil, fun a ha => absurd ha (by simp)⟩
  generalize L2.start N_law [.ref a] = σ at S
  refine q_asgTR (P := deedsPost) [1, 2, 3] (ev_callR (a := ns) (ea_cons (ev_var rfl) ea_nil) hlen) (fun d ⟨us, nm, l, e, _⟩ => ⟨_, e, rfl⟩) rfl S (all_lt rfl) fun ds hds σ1 Hi1 H1 S1 => ?_
  obtain ⟨us, nm, l, e, hu, hul, hnm, hlne, hll, hrun⟩ := hds
  cases e
  replace S1 : Sit K T.C Z Hi1 σ1 H1 [.dat (.scr ns), .dat (rulesD us), .dat (strsD nm), .dat (dsD l), .non, .non, .non, .non, .non, .non, .non, .non, .non, .non, .non, .non, .non] := S1
  refine q_make2 (i := 4) (j := 5) (k := 1) rfl (lt_b rfl) (lt_b rfl) S1 fun p1 l1 p2 l2 Hi2 H2 σ2 S2 => ?_
  replace S2 : Sit K T.C Z Hi2 σ2 H2 [.dat (.scr ns), .dat (rulesD us), .dat (strsD nm), .dat (dsD l), .fol p1 l1 ⟨us, s00, []⟩, .fol p2 l2 ⟨us, s00, []⟩, .non, .non, .non, .non, .non, .non, .non, .non, .non, .non, .non] := S2
  refine q_for (xs := l) (emb := fun p => .tuple [deedD p.1, s4D p.2]) (ei_seq (ev_var rfl) (.inl rfl)) S2 (fun i ρ => ∃ (s : S4) (ah : List S4) (s6 s7 : Sl), ρ = [.dat (.scr ns), .dat (rulesD us), .dat (strsD nm), .dat (dsD l), .fol p1 l1 ⟨us, s, ah⟩, .fol p2 l2 ⟨us, s00, []⟩, s6, s7, .non, .non, .non, .non, .non, .non, .non, .non, .non] ∧ RunOk nm s ah (l.drop i) ∧ endOf s ah (l.drop i) = endOf s00 [] l ∧ OkL nm s ∧ Sz i s ∧ (∀ a ∈ ah, OkL nm a) ∧ (∀ a ∈ ah, Sz i a) ∧ ah.length ≤ i)
    (fun Z' σ' Hi' H' S' => ⟨_, _, ⟨s00, [], _, _, rfl, hrun, rfl, okL_s0 nm, ⟨Nat.le_refl _, Nat.le_refl _, Nat.le_refl _, Nat.le_refl _⟩, (fun a h => by cases h), (fun a h => by cases h), Nat.le_refl _⟩, S'⟩) (fun p => [6, 7].zip [deedD p.1, s4D p.2]) (fun p _ => gt_tup (js := [6, 7]) rfl rfl) (fun i ρ' ⟨s, ah, s6, s7, e, _⟩ x _ z hz => by rw [e]; exact all_lt (vs := [6, 7]) rfl _ (List.of_mem_zip hz).1) (fun Z' up i x ρ' hx ⟨s, ah, s6, s7, e, hr, hend, hL, hz, ha, hza, hal⟩ Hi3 σ3 H3 S3 => ?_) (fun ρ' ⟨s, ah1, s6, s7, e, hr, hend, hL, hz, ha, hza, hal⟩ Hi3 σ3 H3 S3 => ?_)
  · subst e
    have hi := (List.getElem?_eq_some_iff.mp hx).1
    have edrop : l.drop i = x :: l.drop (i + 1) := by
      rw [List.drop_eq_getElem_cons hi]
      congr 1
      exact (List.getElem?_eq_some_iff.mp hx).2
    rw [edrop] at hr hend
    cases hr with
    | cons hde hok hr' =>
      rename_i d
      replace S3 : Sit K T.C Z' Hi3 σ3 H3 [.dat (.scr ns), .dat (rulesD us), .dat (strsD nm), .dat (dsD l), .fol p1 l1 ⟨us, s, ah⟩, .fol p2 l2 ⟨us, s00, []⟩, .dat (deedD d), .dat (s4D (stepD s ah d).1), .non, .non, .non, .non, .non, .non, .non, .non, .non] := S3
      have hst := okL_step hL ha hde hok hz hza (by omega)
      refine s_dropM (em_call d rfl (ea_cons (ev_var rfl) ea_nil) ⟨okF_of hu hul hL.ok (fun a h => (ha a h).ok) (by omega), hok⟩) S3 fun dd ρ'' ⟨F', hF', hρ⟩ Hi4 H4 S4' => ?_
      subst hρ
      have hF'' : F' = doF ⟨us, s, ah⟩ d := hF'
      subst hF''
      exact ⟨_, _, ⟨(stepD s ah d).1, (stepD s ah d).2, .dat (deedD d), .dat (s4D (stepD s ah d).1), rfl, hr', hend, hst.1, hst.2.1, hst.2.2.1, hst.2.2.2.1, by have := hst.2.2.2.2; omega⟩, S4'⟩
  subst e
  rw [List.drop_length] at hr hend
  have hs1 : (endOf s00 [] l).1 = s := by
    rw [← hend]
    rfl
  have hlast := run_last hrun hlne
  have hlast2 : (l.getLast hlne).2 = s := hlast.trans hs1
  have hsz : Sz 24 s := hz.le hll
  have okF1 : OkF ⟨us, s, ah1⟩ := okF_of hu hul hL.ok (fun a h => (ha a h).ok) (by omega)
  clear hend hr hs1 hlast
  replace S3 : Sit K T.C Z Hi3 σ3 H3 [.dat (.scr ns), .dat (rulesD us), .dat (strsD nm), .dat (dsD l), .fol p1 l1 ⟨us, s, ah1⟩, .fol p2 l2 ⟨us, s00, []⟩, s6, s7, .non, .non, .non, .non, .non, .non, .non, .non, .non] := S3
  have hlm : l.map (fun p => D.tuple [deedD p.1, s4D p.2]) ≠ [] := by simpa using hlne
  have hlat : atI (l.map fun p => D.tuple [deedD p.1, s4D p.2]) (-1) = some (.tuple [deedD (l.getLast hlne).1, s4D s]) := by
    rw [atI_last hlm, List.getLast_map, hlast2]
  refine q_asg (d := s4D s) (ev_op (ev_op (ev_var rfl) (ev_un ev_int rd_neg) (rd_ixL hlat)) ev_int (rd_ixT rfl)) S3 (lt_b rfl) fun σ4 Hi4 H4 Sd => ?_
  refine q_asgR (ev_nums (k := 1) (m := 34) hlen (by decide) (by decide) (ev_var rfl) ev_int ev_int) Sd (lt_b rfl) fun d ⟨xs, hd, hxl, hX⟩ σ5 Hi5 H5 S5 => ?_
  subst hd
  refine q_asg (ev_call (f := fun s : S4 => .list ((wanted s).map deedD)) s (ea_cons (ev_var rfl) ea_nil) hL.ok) S5 (lt_b rfl) fun σ6 Hi6 H6 S6 => ?_
  replace S6 : Sit K T.C Z Hi6 σ6 H6 [.dat (.scr ns), .dat (rulesD us), .dat (strsD nm), .dat (dsD l), .fol p1 l1 ⟨us, s, ah1⟩, .fol p2 l2 ⟨us, s00, []⟩, s6, .dat (s4D s), .dat (intsD xs), .dat (.list ((wanted s).map deedD)), .non, .non, .non, .non, .non, .non, .non] := S6
  have hwl := wanted_len hsz
  have hsl : EvP K T.C (tSl (rSlU K) (tVar 8) (tPart (tC (.int 10))) (tPart (tC (.int 24)))) [.dat (.scr ns), .dat (rulesD us), .dat (strsD nm), .dat (dsD l), .fol p1 l1 ⟨us, s, ah1⟩, .fol p2 l2 ⟨us, s00, []⟩, s6, .dat (s4D s), .dat (intsD xs), .dat (.list ((wanted s).map deedD)), .non, .non, .non, .non, .non, .non, .non] (intsD (cutG xs (some 10) (some 24))) := EvP.eq (ev_sl (ev_var rfl) (eo_some ev_int) (eo_some ev_int) rs_L) (congrArg D.list (cut_map D.int xs _ _))
  have hle : EvP K T.C (tCB (rLenU K) (tCons (tVar 9) (tNil))) [.dat (.scr ns), .dat (rulesD us), .dat (strsD nm), .dat (dsD l), .fol p1 l1 ⟨us, s, ah1⟩, .fol p2 l2 ⟨us, s00, []⟩, s6, .dat (s4D s), .dat (intsD xs), .dat (.list ((wanted s).map deedD)), .non, .non, .non, .non, .non, .non, .non] (.int (((wanted s).length : Nat) : Int)) := EvP.eq (ev_cb (ea_cons (ev_var rfl) ea_nil) rc_lenL) (by rw [List.length_map])
  refine q_asgR (ev_mapR (PX := fun p : List Nat => p.Perm (List.range (wanted s).length)) (emb := fun i => .int (i : Nat)) (fun i => deedD (wAt s i)) (ei_seqR (ev_callR (a := (cutG xs (some 10) (some 24), (wanted s).length)) (ea_cons hsl (ea_cons hle ea_nil)) ⟨cut_14 hxl, fun x hx => hX x (cut_mem hx), by show (wanted s).length ≤ 200; omega⟩) (fun d ⟨p, hp1, hp2⟩ => ⟨p, hp2, hp1⟩)) (fun p hp => by rw [hp.length_eq, List.length_range]; omega) (lt_b rfl) (fun p hp i hi => ev_op (ev_var rfl) (ev_var rfl) (rd_ixL (atI_nat (by rw [List.getElem?_map, wAt_get (List.mem_range.mp (hp.mem_iff.mp hi))]; rfl))))) S6 (lt_b rfl) fun d ⟨pm, hpm, hd⟩ σ7 Hi7 H7 S7 => ?_
  obtain ⟨done, hdone⟩ : ∃ done, done = pm.map (wAt s) := ⟨_, rfl⟩
  have hperm : done.Perm (wanted s) := by
    rw [hdone, ← wAt_all s]
    exact hpm.map _
  have hd2 : d = .list (done.map deedD) := by
    rw [hd, hdone, List.map_map]
    rfl
  subst hd2
  have hdl : done.length ≤ 96 := by
    rw [hperm.length_eq]
    exact hwl
  clear hd hdone hpm pm
  replace S7 : Sit K T.C Z Hi7 σ7 H7 [.dat (.scr ns), .dat (rulesD us), .dat (strsD nm), .dat (dsD l), .fol p1 l1 ⟨us, s, ah1⟩, .fol p2 l2 ⟨us, bld [], []⟩, s6, .dat (s4D s), .dat (intsD xs), .dat (.list ((wanted s).map deedD)), .dat (.list (done.map deedD)), .non, .non, .non, .non, .non, .non] := S7
  refine q_for (α := Nat) (xs := List.range (Int.toNat (((done.map deedD).length : Nat) : Int))) (ei_range1 (ea_cons (ev_cb (ea_cons (ev_var rfl) ea_nil) rc_lenL) ea_nil) (by omega) (by rw [List.length_map]; omega)) S7 (fun i ρ => ∃ (ah2 : List S4) (s11 s12 : Sl), ρ = [.dat (.scr ns), .dat (rulesD us), .dat (strsD nm), .dat (dsD l), .fol p1 l1 ⟨us, s, ah1⟩, .fol p2 l2 ⟨us, bld (done.take i), ah2⟩, s6, .dat (s4D s), .dat (intsD xs), .dat (.list ((wanted s).map deedD)), .dat (.list (done.map deedD)), s11, s12, .non, .non, .non, .non] ∧ ah2.length ≤ 3 * i ∧ ∀ a ∈ ah2, OkS a)
    (fun Z' σ' Hi' H' S' => ⟨_, _, ⟨[], _, _, rfl, Nat.le_refl _, (fun a h => by cases h)⟩, S'⟩) (fun x => [(11, .int (x : Nat))]) (fun x _ => gt_name) (fun i ρ' ⟨ah2, s11, s12, e, _⟩ x _ z hz => by rw [e]; rw [List.mem_singleton] at hz; rw [hz]; exact lt_b rfl) (fun Z' up i x ρ' hx ⟨ah2, s11, s12, e, hal2, hao2⟩ Hi8 σ8 H8 S8 => ?_) (fun ρ' ⟨ah2, s11, s12, e, hal2, hao2⟩ Hi8 σ8 H8 S8 => ?_)
  · subst e
    have hi := (List.getElem?_eq_some_iff.mp hx).1
    rw [List.length_range, List.length_map, Int.toNat_natCast] at hi
    have hxi : x = i := by
      have hm := (List.getElem?_eq_some_iff.mp hx).2
      rw [List.getElem_range] at hm
      exact hm.symm
    subst hxi
    have hdx : done[x]? = some done[x] := List.getElem?_eq_getElem hi
    generalize done[x] = e at hdx
    have htk : done.take (x + 1) = done.take x ++ [e] := by
      rw [List.take_succ, hdx]
      rfl
    obtain ⟨hpI, hpZ, hm1, hm2, hm3, hm4⟩ := anew_part hL hperm hsz x
    have hpS : OkS (bld (done.take x)) := hpI.s hpZ (by decide)
    have hix : atI (done.map deedD) (x : Int) = some (deedD e) := atI_nat (by rw [List.getElem?_map, hdx]; rfl)
    replace S8 : Sit K T.C Z' Hi8 σ8 H8 [.dat (.scr ns), .dat (rulesD us), .dat (strsD nm), .dat (dsD l), .fol p1 l1 ⟨us, s, ah1⟩, .fol p2 l2 ⟨us, bld (done.take x), ah2⟩, s6, .dat (s4D s), .dat (intsD xs), .dat (.list ((wanted s).map deedD)), .dat (.list (done.map deedD)), .dat (.int (x : Nat)), s12, .non, .non, .non, .non] := S8
    have ak := gx_at (xs := xs) (k := 24 + x % 10) (by omega)
    rw [show ((24 + x % 10 : Nat) : Int) = 24 + ((x : Nat) : Int) % 10 by omega] at ak
    have key : ∀ (ah3 : List S4) (t12 : Sl) (σ9 : L2.St) (Hi9 H9 : Hp) (D' : Ends), ah3.length ≤ 3 * x + 2 → (∀ a ∈ ah3, OkS a) → (∀ σ' H', Nxt K T.C Z' (fun ρ => ∃ (ah2 : List S4) (s11 s12 : Sl), ρ = [.dat (.scr ns), .dat (rulesD us), .dat (strsD nm), .dat (dsD l), .fol p1 l1 ⟨us, s, ah1⟩, .fol p2 l2 ⟨us, bld (done.take (x + 1)), ah2⟩, s6, .dat (s4D s), .dat (intsD xs), .dat (.list ((wanted s).map deedD)), .dat (.list (done.map deedD)), s11, s12, .non, .non, .non, .non] ∧ ah2.length ≤ 3 * (x + 1) ∧ ∀ a ∈ ah2, OkS a) σ' H' → D'.nx σ' H') → Sit K T.C Z' Hi9 σ9 H9 [.dat (.scr ns), .dat (rulesD us), .dat (strsD nm), .dat (dsD l), .fol p1 l1 ⟨us, s, ah1⟩, .fol p2 l2 ⟨us, bld (done.take x), ah3⟩, s6, .dat (s4D s), .dat (intsD xs), .dat (.list ((wanted s).map deedD)), .dat (.list (done.map deedD)), .dat (.int (x : Nat)), t12, .non, .non, .non, .non] → tDrop (tCall (sp_law_do K T.C) [] E0 (tCons (tVar 5) (tCons (tOp (rIx K) (tVar 10) (tVar 11)) (tNil)))) D' σ9 H9 := by
      intro ah3 t12 σ9 Hi9 H9 D' h1 h2 hnx S9
      obtain ⟨hok, hadd⟩ := anew_ok hL hperm hdx ah3
      have hnu : e ≠ .undo := fun z => by
        rw [z] at hadd
        cases hadd
      refine s_dropM (em_call e rfl (ea_cons (ev_op (ev_var rfl) (ev_var rfl) (rd_ixL hix)) ea_nil) ⟨okF_of hu hul hpS h2 (by omega), hok⟩) S9 fun dd ρ'' ⟨F', hF', hρ⟩ Hi10 H10 S10 => ?_
      subst hρ
      have hF'' : F' = doF ⟨us, bld (done.take x), ah3⟩ e := hF'
      rw [do_not hnu] at hF''
      subst hF''
      refine hnx _ _ ⟨_, _, ⟨ah3 ++ [bld (done.take x)], .dat (.int (x : Nat)), t12, ?_, ?_, all_snoc h2 hpS⟩, S10⟩
      · rw [htk, ← bld_snoc hadd]
        rfl
      · rw [List.length_append]
        show ah3.length + 1 ≤ 3 * (x + 1)
        omega
    refine q_when (b := decide (gx xs (24 + x % 10) % 4 = 1)) (by walk_at "ev") S8 (fun _ Hi9 H9 S9 => ?_) (fun _ Hi9 H9 S9 => key ah2 _ _ _ _ _ (by omega) hao2 (fun _ _ h => h) S9)
    have hys : EvP K T.C (tLc (iRng2 (tCons (tC (.int 3)) (tCons (tC (.int 6)) (tNil)))) (gName 16) (tYes) (tOp (rIx K) (tVar 8) (tOp (rAddU K) (tC (.int 10)) (tOp (rModU) (tOp (rAddU K) (tVar 11) (tVar 16)) (tC (.int 14))))) [16]) [.dat (.scr ns), .dat (rulesD us), .dat (strsD nm), .dat (dsD l), .fol p1 l1 ⟨us, s, ah1⟩, .fol p2 l2 ⟨us, bld (done.take x), ah2⟩, s6, .dat (s4D s), .dat (intsD xs), .dat (.list ((wanted s).map deedD)), .dat (.list (done.map deedD)), .dat (.int (x : Nat)), s12, .non, .non, .non, .non] (intsD ((List.range 3).map fun j => gx xs (10 + (x + (3 + j)) % 14))) := by
      refine EvP.eq (ev_map (xs := List.range ((6 : Int) - 3).toNat) (emb := fun j => .int (3 + (j : Nat))) (fun j => .int (gx xs (10 + (x + (3 + j)) % 14))) (ei_range2 (ea_cons ev_int (ea_cons ev_int ea_nil)) (by decide) (by decide) (by decide) (by decide)) (by decide) (lt_b rfl) fun j hj => ?_) ?_
      · have ak2 := gx_at (xs := xs) (k := 10 + (x + (3 + j)) % 14) (by omega)
        rw [show ((10 + (x + (3 + j)) % 14 : Nat) : Int) = 10 + (((x : Nat) : Int) + (3 + ((j : Nat) : Int))) % 14 by omega] at ak2
        walk_at "ev"
      · show D.list _ = D.list (((List.range 3).map fun j => gx xs (10 + (x + (3 + j)) % 14)).map D.int)
        rw [List.map_map]
        rfl
    refine q_asg hys S9 (lt_b rfl) fun σ10 Hi10 H10 S10 => ?_
    have hDet : DetOk nm s ⟨us, bld (done.take x), ah2⟩ := ⟨okF_of hu hul hpS hao2 (by omega), by show ah2.length ≤ 900; omega, Nat.le_trans hpZ.r (by decide), Nat.le_trans hpZ.t (by decide), Nat.le_trans hpZ.b (by decide), Nat.le_trans hpZ.k (by decide), hL.ok, hnm, fun r hr => hL.rows r (hm1 r hr), hm2, fun r hr => ⟨(hL.bars r (hm3 r hr)).1, (hL.bars r (hm3 r hr)).2.1⟩, fun r hr => hL.struck r (hm4 r hr)⟩
    refine s_dropM (em_call (a := (s, nm, (List.range 3).map fun j => gx xs (10 + (x + (3 + j)) % 14))) rfl (ea_cons (ev_var rfl) (ea_cons (ev_var rfl) (ea_cons (ev_var rfl) ea_nil))) ⟨hDet, by simp, fun y hy => ?_⟩) S10 fun dd ρ'' ⟨F', ⟨hr1, hr2, hr3, hr4⟩, hρ⟩ Hi11 H11 S11 => ?_
    · obtain ⟨j, hj, rfl⟩ := List.mem_map.mp hy
      exact gx_ok hX (by omega)
    subst hρ
    obtain ⟨r', c', ah'⟩ := F'
    have hr1' : r' = us := hr1
    have hr2' : c' = bld (done.take x) := hr2
    subst hr1' hr2'
    have hr3' : ah'.length ≤ ah2.length + 2 := hr3
    exact key ah' _ _ _ _ _ (by omega) hr4 (fun _ _ h => h) S11
  subst e
  have e96 : (List.range (Int.toNat (((done.map deedD).length : Nat) : Int))).length = done.length := by
    rw [List.length_range, List.length_map, Int.toNat_natCast]
  rw [e96, List.take_length] at S8
  rw [e96] at hal2
  obtain ⟨q1, q2, q3, q4⟩ := anew_rows hL hperm
  obtain ⟨hpI, hpZ, _⟩ := anew_part hL hperm hsz done.length
  rw [List.take_length] at hpI hpZ
  have hcS : OkS (bld done) := hpI.s hpZ (by decide)
  have hnd : ((bld done).rows.map (·.n)).Nodup := hpI.nodup
  have okF2 : OkF ⟨us, bld done, ah2⟩ := okF_of hu hul hcS hao2 (by omega)
  have hg12 : groundM us s = groundM us (bld done) := (groundM_congr hnd q1 q2 q3 q4).symm
  have hput : EvP K T.C (tCB (rTupP K) (tCons (tLc (iSeq K (tVar 10)) (gName 6) (tTest (tOp (rEqU K) (tOp (rIx K) (tVar 6) (tC (.int 0))) (tC (.str ("put" : PySem.Str))))) (tOp (rIx K) (tVar 6) (tC (.int 1))) [6]) (tNil))) [.dat (.scr ns), .dat (rulesD us), .dat (strsD nm), .dat (dsD l), .fol p1 l1 ⟨us, s, ah1⟩, .fol p2 l2 ⟨us, bld done, ah2⟩, s6, .dat (s4D s), .dat (intsD xs), .dat (.list ((wanted s).map deedD)), .dat (.list (done.map deedD)), s11, s12, .non, .non, .non, .non] (rowsD (bld done).rows) := by
    refine EvP.eq (ev_cb (ea_cons (ev_fil (xs := done) (emb := deedD) Deed.isPut Deed.rowD? (ei_seq (ev_var rfl) (.inl rfl)) (Nat.lt_of_le_of_lt hdl (by decide)) (lt_b rfl) (fun e _ => eb_test (ev_isPut (ev_var rfl))) (fun e _ hp => ev_putRow hp (ev_var rfl))) ea_nil) rc_tup) ?_
    rw [put_rows]
    rfl
  refine q_asg hput S8 (lt_b rfl) fun σ9 Hi9 H9 S9 => ?_
  replace S9 : Sit K T.C Z Hi9 σ9 H9 [.dat (.scr ns), .dat (rulesD us), .dat (strsD nm), .dat (dsD l), .fol p1 l1 ⟨us, s, ah1⟩, .fol p2 l2 ⟨us, bld done, ah2⟩, s6, .dat (s4D s), .dat (intsD xs), .dat (.list ((wanted s).map deedD)), .dat (.list (done.map deedD)), s11, s12, .dat (rowsD (bld done).rows), .non, .non, .non] := S9
  refine q_no (EvB.eq (b := _) (eb_or (a := false) (b := false) (eb_test (ev_neSame (shp_gr hu hcS) (congrArg grD hg12) (ev_askF (m := ("ground" : PySem.Str)) (g := gG) (F := ⟨us, bld done, ah2⟩) () rfl ea_nil okF2) (ev_askF (m := ("ground" : PySem.Str)) (g := gG) (F := ⟨us, s, ah1⟩) () rfl ea_nil okF1))) fun _ => eb_test (ev_neSame (shp_rowsT hcS.rows) rfl (ev_askF (m := ("book" : PySem.Str)) (g := bG) (F := ⟨us, bld done, ah2⟩) () rfl ea_nil trivial) (ev_var rfl))) rfl) S9 fun Hi10 H10 S10 => ?_
  refine q_new S10 (lt_b rfl) fun σ11 Hi11 H11 S11 => ?_
  obtain ⟨R2, hR2⟩ : ∃ R2, R2 = (bld done).rows := ⟨_, rfl⟩
  obtain ⟨C2, hC2⟩ : ∃ C2, C2 = bld done := ⟨_, rfl⟩
  rw [← hR2] at hnd q1
  have hRl : R2.length ≤ 24 := by
    rw [hR2]
    exact hpZ.r
  have hRo : ∀ r ∈ R2, OkRow r := fun r hr => hcS.rows r (hR2 ▸ hr)
  have cS : ∀ rows : List Row, (∀ r ∈ rows, OkRow r) → (rows.map (·.n)).Nodup → rows.length ≤ 40 → OkS { C2 with rows := rows } := fun rows h1 h2 h3 => by
    subst hC2
    exact ⟨h1, h2, hcS.told, hcS.bars, hcS.struck, h3, hcS.lt, hcS.lb, hcS.ls⟩
  have eC : bld done = { C2 with rows := R2 } := by
    rw [hR2, hC2]
  rw [eC] at S11 okF2 hg12
  have t2 : C2.told.Perm s.told := by
    rw [hC2]
    exact q2
  have t3 : C2.bars.Perm s.bars := by
    rw [hC2]
    exact q3
  have t4 : C2.struck.Perm s.struck := by
    rw [hC2]
    exact q4
  replace S11 : Sit K T.C Z Hi11 σ11 H11 [.dat (.scr ns), .dat (rulesD us), .dat (strsD nm), .dat (dsD l), .fol p1 l1 ⟨us, s, ah1⟩, .fol p2 l2 ⟨us, { C2 with rows := R2.drop 0 }, ah2⟩, s6, .dat (s4D s), .dat (intsD xs), .dat (.list ((wanted s).map deedD)), .dat (.list (done.map deedD)), s11, s12, .dat (rowsD R2), .own [], .non, .non] := by
    exact S11
  refine q_for (xs := R2) (emb := rowD) (ei_seq (d := rowsD R2) (ev_askF (m := ("book" : PySem.Str)) (g := bG) (F := ⟨us, { C2 with rows := R2.drop 0 }, ah2⟩) () rfl ea_nil trivial) (.inr rfl)) S11 (fun i ρ => ∃ (ah3 : List S4) (s15 : Sl), ρ = [.dat (.scr ns), .dat (rulesD us), .dat (strsD nm), .dat (dsD l), .fol p1 l1 ⟨us, s, ah1⟩, .fol p2 l2 ⟨us, { C2 with rows := R2.drop i }, ah3⟩, s6, .dat (s4D s), .dat (intsD xs), .dat (.list ((wanted s).map deedD)), .dat (.list (done.map deedD)), s11, s12, .dat (rowsD R2), .own (((R2.take i).map (·.n)).map strD), s15, .non] ∧ ah3.length ≤ 300 + i ∧ ∀ a ∈ ah3, OkS a)
    (fun Z' σ' Hi' H' S' => ⟨_, _, ⟨ah2, _, rfl, by omega, hao2⟩, S'⟩) (fun r => [(15, rowD r)]) (fun x _ => gt_name) (fun i ρ' ⟨ah3, s15, e, _⟩ x _ z hz => by rw [e]; rw [List.mem_singleton] at hz; rw [hz]; exact lt_b rfl) (fun Z' up i x ρ' hx ⟨ah3, s15, e, hal3, hao3⟩ Hi12 σ12 H12 S12 => ?_) (fun ρ' ⟨ah3, s15, e, hal3, hao3⟩ Hi12 σ12 H12 S12 => ?_)
  · subst e
    have hi := (List.getElem?_eq_some_iff.mp hx).1
    have hxm : x ∈ R2 := List.mem_of_getElem? hx
    have edrop : R2.drop i = x :: R2.drop (i + 1) := by
      rw [List.drop_eq_getElem_cons hi]
      congr 1
      exact (List.getElem?_eq_some_iff.mp hx).2
    have hndi : ((R2.drop i).map (·.n)).Nodup := hnd.sublist ((List.drop_sublist i R2).map _)
    have hdlen : (R2.drop i).length ≤ 24 := by
      rw [List.length_drop]
      omega
    have hcSi : OkS { C2 with rows := R2.drop i } := cS _ (fun r hr => hRo r (List.mem_of_mem_drop hr)) hndi (by omega)
    have hcSj : OkS { C2 with rows := R2.drop (i + 1) } := cS _ (fun r hr => hRo r (List.mem_of_mem_drop hr)) (hnd.sublist ((List.drop_sublist (i + 1) R2).map _)) (by rw [List.length_drop]; omega)
    replace S12 : Sit K T.C Z' Hi12 σ12 H12 [.dat (.scr ns), .dat (rulesD us), .dat (strsD nm), .dat (dsD l), .fol p1 l1 ⟨us, s, ah1⟩, .fol p2 l2 ⟨us, { C2 with rows := R2.drop i }, ah3⟩, s6, .dat (s4D s), .dat (intsD xs), .dat (.list ((wanted s).map deedD)), .dat (.list (done.map deedD)), s11, s12, .dat (rowsD R2), .own (((R2.take i).map (·.n)).map strD), .dat (rowD x), .non] := S12
    refine q_dropM (em_meth x.n rfl (ea_cons (ev_op (ev_var rfl) ev_int (rd_ixT rfl)) ea_nil) ⟨okF_of hu hul hcSi hao3 (by omega), (hRo x hxm).name, by show x.n ∈ (R2.drop i).map (·.n); rw [edrop]; exact List.mem_map.mpr ⟨x, List.mem_cons_self, rfl⟩⟩) S12 fun dd ρ'' ⟨F', ⟨_, hF'⟩, hρ⟩ Hi13 H13 S13 => ?_
    subst hρ
    have hF'' : F' = ⟨us, { C2 with rows := R2.drop (i + 1) }, ah3 ++ [{ C2 with rows := R2.drop i }]⟩ := by
      rw [hF', do_not (by intro z; cases z)]
      show (⟨us, { C2 with rows := (R2.drop i).filter fun r => !decide (r.n = x.n) }, ah3 ++ [{ C2 with rows := R2.drop i }]⟩ : Fo) = _
      rw [edrop] at hndi
      have hf : (R2.drop i).filter (fun r => !decide (r.n = x.n)) = R2.drop (i + 1) := by
        rw [edrop]
        exact fil_first hndi
      rw [hf]
    subst hF''
    have htk : (R2.take (i + 1)) = R2.take i ++ [x] := by
      rw [List.take_succ, hx]
      rfl
    refine q_app (i := 14) rfl (ev_op (ev_var rfl) ev_int (rd_ixT rfl)) (by rw [List.length_map, List.length_map, List.length_take]; omega) S13 fun Hi14 H14 S14 => ?_
    have egone : ((R2.take i).map (·.n)).map strD ++ [D.str x.n] = ((R2.take (i + 1)).map (·.n)).map strD := by
      rw [htk, List.map_append, List.map_append]
      rfl
    rw [egone] at S14
    replace S14 : Sit K T.C Z' Hi14 σ12 H14 [.dat (.scr ns), .dat (rulesD us), .dat (strsD nm), .dat (dsD l), .fol p1 l1 ⟨us, s, ah1⟩, .fol p2 l2 ⟨us, { C2 with rows := R2.drop (i + 1) }, ah3 ++ [{ C2 with rows := R2.drop i }]⟩, s6, .dat (s4D s), .dat (intsD xs), .dat (.list ((wanted s).map deedD)), .dat (.list (done.map deedD)), s11, s12, .dat (rowsD R2), .own (((R2.take (i + 1)).map (·.n)).map strD), .dat (rowD x), .non] := S14
    have hao4 : ∀ a ∈ ah3 ++ [{ C2 with rows := R2.drop i }], OkS a := all_snoc hao3 hcSi
    have hal4 : (ah3 ++ [{ C2 with rows := R2.drop i }]).length ≤ 300 + (i + 1) := by
      rw [List.length_append]
      show ah3.length + 1 ≤ 300 + (i + 1)
      omega
    have hgone : ∀ n ∈ (R2.take (i + 1)).map (·.n), OkN n := fun n hn => by
      obtain ⟨r, hr, rfl⟩ := List.mem_map.mp hn
      exact (hRo r (List.mem_of_mem_take hr)).name
    have hgl : ((R2.take (i + 1)).map (·.n)).length ≤ 100 := by
      rw [List.length_map, List.length_take]
      omega
    have heq : groundM us { s with rows := s.rows.filter fun r => !decide (r.n ∈ (R2.take (i + 1)).map (·.n)) } = groundM us { C2 with rows := R2.drop (i + 1) } := by
      refine (groundM_congr (s := { C2 with rows := R2.drop (i + 1) }) (t := { s with rows := s.rows.filter fun r => !decide (r.n ∈ (R2.take (i + 1)).map (·.n)) }) hcSj.nodup ?_ t2 t3 t4).symm
      show (R2.drop (i + 1)).Perm (s.rows.filter fun r => !decide (r.n ∈ (R2.take (i + 1)).map (·.n)))
      rw [← fil_drop (i + 1) hnd]
      exact q1.filter _
    have hwo : EvP K T.C (tCall (sp_law_without_rows K T.C) [] E0 (tCons (tVar 1) (tCons (tVar 7) (tCons (tVar 14) (tNil))))) [.dat (.scr ns), .dat (rulesD us), .dat (strsD nm), .dat (dsD l), .fol p1 l1 ⟨us, s, ah1⟩, .fol p2 l2 ⟨us, { C2 with rows := R2.drop (i + 1) }, ah3 ++ [{ C2 with rows := R2.drop i }]⟩, s6, .dat (s4D s), .dat (intsD xs), .dat (.list ((wanted s).map deedD)), .dat (.list (done.map deedD)), s11, s12, .dat (rowsD R2), .own (((R2.take (i + 1)).map (·.n)).map strD), .dat (rowD x), .non] (grD (groundM us { s with rows := s.rows.filter fun r => !decide (r.n ∈ (R2.take (i + 1)).map (·.n)) })) := ev_thaw (i := 14) rfl (ev_call (f := fun a : List Rul × S4 × List PySem.Str => grD (groundM a.1 { a.2.1 with rows := a.2.1.rows.filter fun r => !decide (r.n ∈ a.2.2) })) (us, s, (R2.take (i + 1)).map (·.n)) (ea_cons (ev_var rfl) (ea_cons (ev_var rfl) (ea_cons (ev_var rfl) ea_nil))) ⟨hL.ok, hu, by show us.length ≤ 8; omega, hgl, hgone⟩) (flat_gr _)
    refine s_when (b := false) (eb_test (ev_neSame (shp_gr hu hcSj) (congrArg grD heq) (ev_askF (m := ("ground" : PySem.Str)) (g := gG) (F := ⟨us, { C2 with rows := R2.drop (i + 1) }, ah3 ++ [{ C2 with rows := R2.drop i }]⟩) () rfl ea_nil (okF_of hu hul hcSj hao4 (by omega))) hwo)) S14 (fun e => absurd e (by decide)) fun _ Hi15 H15 S15 => ⟨_, _, ⟨_, _, rfl, hal4, hao4⟩, S15⟩
  subst e
  rw [List.drop_length] at S12
  replace S12 : Sit K T.C Z Hi12 σ12 H12 [.dat (.scr ns), .dat (rulesD us), .dat (strsD nm), .dat (dsD l), .fol p1 l1 ⟨us, s, ah1⟩, .fol p2 l2 ⟨us, { C2 with rows := s.rows.take 0 }, ah3⟩, s6, .dat (s4D s), .dat (intsD xs), .dat (.list ((wanted s).map deedD)), .dat (.list (done.map deedD)), s11, s12, .dat (rowsD R2), .own (((R2.take R2.length).map (·.n)).map strD), s15, .non] := S12
  have hsl24 : s.rows.length ≤ 24 := hsz.r
  refine q_for (xs := s.rows) (emb := rowD) (ei_seq (ev_op (ev_var rfl) ev_int (rd_ixT rfl)) (.inr rfl)) S12 (fun i ρ => ∃ (ah4 : List S4) (s15 : Sl), ρ = [.dat (.scr ns), .dat (rulesD us), .dat (strsD nm), .dat (dsD l), .fol p1 l1 ⟨us, s, ah1⟩, .fol p2 l2 ⟨us, { C2 with rows := s.rows.take i }, ah4⟩, s6, .dat (s4D s), .dat (intsD xs), .dat (.list ((wanted s).map deedD)), .dat (.list (done.map deedD)), s11, s12, .dat (rowsD R2), .own (((R2.take R2.length).map (·.n)).map strD), s15, .non] ∧ ah4.length ≤ 400 + i ∧ ∀ a ∈ ah4, OkS a)
    (fun Z' σ' Hi' H' S' => ⟨_, _, ⟨ah3, _, rfl, by omega, hao3⟩, S'⟩) (fun r => [(15, rowD r)]) (fun x _ => gt_name) (fun i ρ' ⟨ah4, s15, e, _⟩ x _ z hz => by rw [e]; rw [List.mem_singleton] at hz; rw [hz]; exact lt_b rfl) (fun Z' up i x ρ' hx ⟨ah4, t15, e, hal4, hao4⟩ Hi13 σ13 H13 S13 => ?_) (fun ρ' ⟨ah4, t15, e, hal4, hao4⟩ Hi13 σ13 H13 S13 => ?_)
  · subst e
    have hi := (List.getElem?_eq_some_iff.mp hx).1
    have hxm : x ∈ s.rows := List.mem_of_getElem? hx
    have htk : (s.rows.take (i + 1)) = s.rows.take i ++ [x] := by
      rw [List.take_succ, hx]
      rfl
    have hcSi : OkS { C2 with rows := s.rows.take i } := cS _ (fun r hr => hL.ok.rows r (List.mem_of_mem_take hr)) (hL.ok.nodup.sublist ((List.take_sublist i s.rows).map _)) (by rw [List.length_take]; omega)
    have hnin : x.n ∉ (s.rows.take i).map (·.n) := by
      have h2 := hL.ok.nodup.sublist ((List.take_sublist (i + 1) s.rows).map (·.n))
      rw [htk, List.map_append, List.nodup_append] at h2
      intro m
      exact h2.2.2 _ m _ (List.mem_singleton.mpr rfl) rfl
    replace S13 : Sit K T.C Z' Hi13 σ13 H13 [.dat (.scr ns), .dat (rulesD us), .dat (strsD nm), .dat (dsD l), .fol p1 l1 ⟨us, s, ah1⟩, .fol p2 l2 ⟨us, { C2 with rows := s.rows.take i }, ah4⟩, s6, .dat (s4D s), .dat (intsD xs), .dat (.list ((wanted s).map deedD)), .dat (.list (done.map deedD)), s11, s12, .dat (rowsD R2), .own (((R2.take R2.length).map (·.n)).map strD), .dat (rowD x), .non] := S13
    refine s_dropM (em_meth x rfl (ea_cons (ev_var rfl) ea_nil) ⟨okF_of hu hul hcSi hao4 (by omega), hL.ok.rows x hxm, hnin⟩) S13 fun dd ρ'' ⟨F', ⟨_, hF'⟩, hρ⟩ Hi14 H14 S14 => ?_
    subst hρ
    have hF'' : F' = ⟨us, { C2 with rows := s.rows.take (i + 1) }, ah4 ++ [{ C2 with rows := s.rows.take i }]⟩ := by
      rw [hF', do_not (by intro z; cases z), htk]
      rfl
    subst hF''
    refine ⟨_, _, ⟨ah4 ++ [{ C2 with rows := s.rows.take i }], .dat (rowD x), rfl, ?_, all_snoc hao4 hcSi⟩, S14⟩
    rw [List.length_append]
    show ah4.length + 1 ≤ 400 + (i + 1)
    omega
  subst e
  rw [List.take_length] at S13
  have hcSe : OkS { C2 with rows := s.rows } := cS _ hL.ok.rows hL.ok.nodup hL.ok.lr
  have hge : groundM us s = groundM us { C2 with rows := s.rows } := (groundM_congr (s := { C2 with rows := s.rows }) (t := s) hL.ok.nodup (List.Perm.refl _) t2 t3 t4).symm
  refine s_ret (ev_andV (ev_eqSame (shp_gr hu hcSe) (congrArg grD hge) (ev_askF (m := ("ground" : PySem.Str)) (g := gG) (F := ⟨us, { C2 with rows := s.rows }, ah4⟩) () rfl ea_nil (okF_of hu hul hcSe hao4 (by omega))) (ev_askF (m := ("ground" : PySem.Str)) (g := gG) (F := ⟨us, s, ah1⟩) () rfl ea_nil okF1)) fun _ => ev_eqSame (shp_rowsT hL.ok.rows) rfl (ev_askF (m := ("book" : PySem.Str)) (g := bG) (F := ⟨us, { C2 with rows := s.rows }, ah4⟩) () rfl ea_nil trivial) (ev_askF (m := ("book" : PySem.Str)) (g := bG) (F := ⟨us, s, ah1⟩) () rfl ea_nil trivial)) S13 fun v Hi14 H14 S14 hv => ?_
  have ev := hv.bl_eq
  rw [ev]
  exact q H14
end FK

namespace FK
open PySem PySem.Spec PyProof.Rows L2 FR
theorem facts {P : Program} {w : World} {K : PySem.W.Frag} {h : Heap} {mg : PySem.Str → Option Value} {f : Addr} (X : K.In h) (G : h.Ns mainGlobals mg) (hfa : mg ("law" : PySem.Str) = some (.ref f)) (c : He.SaysD fa fn K) :
    ∃ fd : FuncData, (∀ (s : Shared) (v : Value), BindsTo s fd ⟨[v], []⟩ [(("_law_script" : PySem.Str), v)]) ∧ ∀ base : Heap, K.In base → base.Ns mainGlobals mg → FnOk P w K mg base CX0 8 f fd [("_law_script" : PySem.Str)] (sp_law K f) := by
  obtain ⟨fd_is_name, F_is_name⟩ := c.def_ 0 (d := d_is_name) rfl
  obtain ⟨fd_word_of, F_word_of⟩ := c.def_ 1 (d := d_word_of) rfl
  obtain ⟨fd_names_of, F_names_of⟩ := c.def_ 2 (d := d_names_of) rfl
  obtain ⟨fd_book_without, F_book_without⟩ := c.def_ 3 (d := d_book_without) rfl
  obtain ⟨fd_is_number, F_is_number⟩ := c.def_ 4 (d := d_is_number) rfl
  obtain ⟨fd_one_word, F_one_word⟩ := c.def_ 5 (d := d_one_word) rfl
  obtain ⟨fd_tells, F_tells⟩ := c.def_ 6 (d := d_tells) rfl
  obtain ⟨fd_are_two_names, F_are_two_names⟩ := c.def_ 7 (d := d_are_two_names) rfl
  obtain ⟨fd_is_counted, F_is_counted⟩ := c.def_ 8 (d := d_is_counted) rfl
  obtain ⟨fd_is_reason, F_is_reason⟩ := c.def_ 9 (d := d_is_reason) rfl
  obtain ⟨fd_in_order, F_in_order⟩ := c.def_ 10 (d := d_in_order) rfl
  obtain ⟨fd_ground_of, F_ground_of⟩ := c.def_ 11 (d := d_ground_of) rfl
  obtain ⟨fd_law_cell, F_law_cell⟩ := c.def_ 12 (d := d_law_cell) rfl
  obtain ⟨fd_law_numbers, F_law_numbers⟩ := c.def_ 13 (d := d_law_numbers) rfl
  obtain ⟨fd_law_names, F_law_names⟩ := c.def_ 14 (d := d_law_names) rfl
  obtain ⟨fd_law_word, F_law_word⟩ := c.def_ 15 (d := d_law_word) rfl
  obtain ⟨fd_law_row, F_law_row⟩ := c.def_ 16 (d := d_law_row) rfl
  obtain ⟨fd_law_rules, F_law_rules⟩ := c.def_ 17 (d := d_law_rules) rfl
  obtain ⟨fd_law_one_word, F_law_one_word⟩ := c.def_ 18 (d := d_law_one_word) rfl
  obtain ⟨fd_law_tells, F_law_tells⟩ := c.def_ 19 (d := d_law_tells) rfl
  obtain ⟨fd_law_ground_due, F_law_ground_due⟩ := c.def_ 20 (d := d_law_ground_due) rfl
  obtain ⟨fd_law_two, F_law_two⟩ := c.def_ 21 (d := d_law_two) rfl
  obtain ⟨fd_law_reason, F_law_reason⟩ := c.def_ 22 (d := d_law_reason) rfl
  obtain ⟨fd_law_struck, F_law_struck⟩ := c.def_ 23 (d := d_law_struck) rfl
  obtain ⟨fd_law_deed, F_law_deed⟩ := c.def_ 24 (d := d_law_deed) rfl
  obtain ⟨fd_law_without, F_law_without⟩ := c.def_ 25 (d := d_law_without) rfl
  obtain ⟨fd_law_behind, F_law_behind⟩ := c.def_ 26 (d := d_law_behind) rfl
  obtain ⟨fd_law_deeds, F_law_deeds⟩ := c.def_ 27 (d := d_law_deeds) rfl
  obtain ⟨fd_law_do, F_law_do⟩ := c.def_ 28 (d := d_law_do) rfl
  obtain ⟨fd_law_order, F_law_order⟩ := c.def_ 29 (d := d_law_order) rfl
  obtain ⟨fd_law_wanted, F_law_wanted⟩ := c.def_ 30 (d := d_law_wanted) rfl
  obtain ⟨fd_law_detour, F_law_detour⟩ := c.def_ 31 (d := d_law_detour) rfl
  obtain ⟨fd_law_without_rows, F_law_without_rows⟩ := c.def_ 32 (d := d_law_without_rows) rfl
  obtain ⟨fd_law, F_law⟩ := c.def_ 33 (d := d_law) rfl
  obtain ⟨fd_F_init, F_F_init⟩ := c.def_ 34 (d := dF_init) rfl
  obtain ⟨fd_F_keep, F_F_keep⟩ := c.def_ 35 (d := dF_keep) rfl
  obtain ⟨fd_F_stands, F_F_stands⟩ := c.def_ 36 (d := dF_stands) rfl
  obtain ⟨fd_F_put, F_F_put⟩ := c.def_ 37 (d := dF_put) rfl
  obtain ⟨fd_F_drop, F_F_drop⟩ := c.def_ 38 (d := dF_drop) rfl
  obtain ⟨fd_F_two, F_F_two⟩ := c.def_ 39 (d := dF_two) rfl
  obtain ⟨fd_F_told_reason, F_F_told_reason⟩ := c.def_ 40 (d := dF_told_reason) rfl
  obtain ⟨fd_F_tell, F_F_tell⟩ := c.def_ 41 (d := dF_tell) rfl
  obtain ⟨fd_F_untell, F_F_untell⟩ := c.def_ 42 (d := dF_untell) rfl
  obtain ⟨fd_F_bar, F_F_bar⟩ := c.def_ 43 (d := dF_bar) rfl
  obtain ⟨fd_F_unbar, F_F_unbar⟩ := c.def_ 44 (d := dF_unbar) rfl
  obtain ⟨fd_F_strike, F_F_strike⟩ := c.def_ 45 (d := dF_strike) rfl
  obtain ⟨fd_F_unstrike, F_F_unstrike⟩ := c.def_ 46 (d := dF_unstrike) rfl
  obtain ⟨fd_F_undo, F_F_undo⟩ := c.def_ 47 (d := dF_undo) rfl
  obtain ⟨fd_F_book, F_F_book⟩ := c.def_ 48 (d := dF_book) rfl
  obtain ⟨fd_F_ground, F_F_ground⟩ := c.def_ 49 (d := dF_ground) rfl
  let T : Tx K mg := {
    is_name := ⟨_, fd_is_name, F_is_name, He.glo_ok X G (c.fact 0 (f := .glo "is_name") rfl), (FunD.bindsN F_is_name fun _ _ _ _ _ _ us hl => match us, hl with | [_], _ => rfl)⟩
    word_of := ⟨_, fd_word_of, F_word_of, He.glo_ok X G (c.fact 1 (f := .glo "word_of") rfl), (FunD.bindsN F_word_of fun _ _ _ _ _ _ us hl => match us, hl with | [_, _], _ => rfl)⟩
    names_of := ⟨_, fd_names_of, F_names_of, He.glo_ok X G (c.fact 2 (f := .glo "names_of") rfl), (FunD.bindsN F_names_of fun _ _ _ _ _ _ us hl => match us, hl with | [_], _ => rfl)⟩
    book_without := ⟨_, fd_book_without, F_book_without, He.glo_ok X G (c.fact 3 (f := .glo "book_without") rfl), (FunD.bindsN F_book_without fun _ _ _ _ _ _ us hl => match us, hl with | [_, _], _ => rfl)⟩
    is_number := ⟨_, fd_is_number, F_is_number, He.glo_ok X G (c.fact 4 (f := .glo "is_number") rfl), (FunD.bindsN F_is_number fun _ _ _ _ _ _ us hl => match us, hl with | [_, _, _], _ => rfl)⟩
    one_word := ⟨_, fd_one_word, F_one_word, He.glo_ok X G (c.fact 5 (f := .glo "one_word") rfl), (FunD.bindsN F_one_word fun _ _ _ _ _ _ us hl => match us, hl with | [_, _, _], _ => rfl)⟩
    tells := ⟨_, fd_tells, F_tells, He.glo_ok X G (c.fact 6 (f := .glo "tells") rfl), (FunD.bindsN F_tells fun _ _ _ _ _ _ us hl => match us, hl with | [_, _, _], _ => rfl)⟩
    are_two_names := ⟨_, fd_are_two_names, F_are_two_names, He.glo_ok X G (c.fact 7 (f := .glo "are_two_names") rfl), (FunD.bindsN F_are_two_names fun _ _ _ _ _ _ us hl => match us, hl with | [_, _], _ => rfl)⟩
    is_counted := ⟨_, fd_is_counted, F_is_counted, He.glo_ok X G (c.fact 8 (f := .glo "is_counted") rfl), (FunD.bindsN F_is_counted fun _ _ _ _ _ _ us hl => match us, hl with | [_], _ => rfl)⟩
    is_reason := ⟨_, fd_is_reason, F_is_reason, He.glo_ok X G (c.fact 9 (f := .glo "is_reason") rfl), (FunD.bindsN F_is_reason fun _ _ _ _ _ _ us hl => match us, hl with | [_], _ => rfl)⟩
    in_order := ⟨_, fd_in_order, F_in_order, He.glo_ok X G (c.fact 10 (f := .glo "in_order") rfl), (FunD.bindsN F_in_order fun _ _ _ _ _ _ us hl => match us, hl with | [_], _ => rfl)⟩
    ground_of := ⟨_, fd_ground_of, F_ground_of, He.glo_ok X G (c.fact 11 (f := .glo "ground_of") rfl), (FunD.bindsN F_ground_of fun _ _ _ _ _ _ us hl => match us, hl with | [_, _], _ => rfl)⟩
    law_cell := ⟨_, fd_law_cell, F_law_cell, He.glo_ok X G (c.fact 12 (f := .glo "_law_cell") rfl), (FunD.bindsN F_law_cell fun _ _ _ _ _ _ us hl => match us, hl with | [_, _], _ => rfl)⟩
    law_numbers := ⟨_, fd_law_numbers, F_law_numbers, He.glo_ok X G (c.fact 13 (f := .glo "_law_numbers") rfl), (FunD.bindsN F_law_numbers fun _ _ _ _ _ _ us hl => match us, hl with | [_, _], _ => rfl)⟩
    law_names := ⟨_, fd_law_names, F_law_names, He.glo_ok X G (c.fact 14 (f := .glo "_law_names") rfl), (FunD.bindsN F_law_names fun _ _ _ _ _ _ us hl => match us, hl with | [_, _], _ => rfl)⟩
    law_word := ⟨_, fd_law_word, F_law_word, He.glo_ok X G (c.fact 15 (f := .glo "_law_word") rfl), (FunD.bindsN F_law_word fun _ _ _ _ _ _ us hl => match us, hl with | [_], _ => rfl)⟩
    law_row := ⟨_, fd_law_row, F_law_row, He.glo_ok X G (c.fact 16 (f := .glo "_law_row") rfl), (FunD.bindsN F_law_row fun _ _ _ _ _ _ us hl => match us, hl with | [_, _], _ => rfl)⟩
    law_rules := ⟨_, fd_law_rules, F_law_rules, He.glo_ok X G (c.fact 17 (f := .glo "_law_rules") rfl), (FunD.bindsN F_law_rules fun _ _ _ _ _ _ us hl => match us, hl with | [_], _ => rfl)⟩
    law_one_word := ⟨_, fd_law_one_word, F_law_one_word, He.glo_ok X G (c.fact 18 (f := .glo "_law_one_word") rfl), (FunD.bindsN F_law_one_word fun _ _ _ _ _ _ us hl => match us, hl with | [_, _, _], _ => rfl)⟩
    law_tells := ⟨_, fd_law_tells, F_law_tells, He.glo_ok X G (c.fact 19 (f := .glo "_law_tells") rfl), (FunD.bindsN F_law_tells fun _ _ _ _ _ _ us hl => match us, hl with | [_, _, _], _ => rfl)⟩
    law_ground_due := ⟨_, fd_law_ground_due, F_law_ground_due, He.glo_ok X G (c.fact 20 (f := .glo "_law_ground_due") rfl), (FunD.bindsN F_law_ground_due fun _ _ _ _ _ _ us hl => match us, hl with | [_, _], _ => rfl)⟩
    law_two := ⟨_, fd_law_two, F_law_two, He.glo_ok X G (c.fact 21 (f := .glo "_law_two") rfl), (FunD.bindsN F_law_two fun _ _ _ _ _ _ us hl => match us, hl with | [_, _], _ => rfl)⟩
    law_reason := ⟨_, fd_law_reason, F_law_reason, He.glo_ok X G (c.fact 22 (f := .glo "_law_reason") rfl), (FunD.bindsN F_law_reason fun _ _ _ _ _ _ us hl => match us, hl with | [_, _, _, _], _ => rfl)⟩
    law_struck := ⟨_, fd_law_struck, F_law_struck, He.glo_ok X G (c.fact 23 (f := .glo "_law_struck") rfl), (FunD.bindsN F_law_struck fun _ _ _ _ _ _ us hl => match us, hl with | [_, _, _, _], _ => rfl)⟩
    law_deed := ⟨_, fd_law_deed, F_law_deed, He.glo_ok X G (c.fact 24 (f := .glo "_law_deed") rfl), (FunD.bindsN F_law_deed fun _ _ _ _ _ _ us hl => match us, hl with | [_, _, _, _, _], _ => rfl)⟩
    law_without := ⟨_, fd_law_without, F_law_without, He.glo_ok X G (c.fact 25 (f := .glo "_law_without") rfl), (FunD.bindsN F_law_without fun _ _ _ _ _ _ us hl => match us, hl with | [_, _], _ => rfl)⟩
    law_behind := ⟨_, fd_law_behind, F_law_behind, He.glo_ok X G (c.fact 26 (f := .glo "_law_behind") rfl), (FunD.bindsN F_law_behind fun _ _ _ _ _ _ us hl => match us, hl with | [_, _], _ => rfl)⟩
    law_deeds := ⟨_, fd_law_deeds, F_law_deeds, He.glo_ok X G (c.fact 27 (f := .glo "_law_deeds") rfl), (FunD.bindsN F_law_deeds fun _ _ _ _ _ _ us hl => match us, hl with | [_], _ => rfl)⟩
    law_do := ⟨_, fd_law_do, F_law_do, He.glo_ok X G (c.fact 28 (f := .glo "_law_do") rfl), (FunD.bindsN F_law_do fun _ _ _ _ _ _ us hl => match us, hl with | [_, _], _ => rfl)⟩
    law_order := ⟨_, fd_law_order, F_law_order, He.glo_ok X G (c.fact 29 (f := .glo "_law_order") rfl), (FunD.bindsN F_law_order fun _ _ _ _ _ _ us hl => match us, hl with | [_, _], _ => rfl)⟩
    law_wanted := ⟨_, fd_law_wanted, F_law_wanted, He.glo_ok X G (c.fact 30 (f := .glo "_law_wanted") rfl), (FunD.bindsN F_law_wanted fun _ _ _ _ _ _ us hl => match us, hl with | [_], _ => rfl)⟩
    law_detour := ⟨_, fd_law_detour, F_law_detour, He.glo_ok X G (c.fact 31 (f := .glo "_law_detour") rfl), (FunD.bindsN F_law_detour fun _ _ _ _ _ _ us hl => match us, hl with | [_, _, _, _], _ => rfl)⟩
    law_without_rows := ⟨_, fd_law_without_rows, F_law_without_rows, He.glo_ok X G (c.fact 32 (f := .glo "_law_without_rows") rfl), (FunD.bindsN F_law_without_rows fun _ _ _ _ _ _ us hl => match us, hl with | [_, _, _], _ => rfl)⟩
    law := ⟨_, fd_law, F_law, He.glo_ok X G (c.fact 33 (f := .glo "law") rfl), (FunD.bindsN F_law fun _ _ _ _ _ _ us hl => match us, hl with | [_], _ => rfl)⟩
    C := He.ga K "Folk"
    cl := He.cls_ok (c.fact 54 (f := .cls "Folk") rfl)
    gC := He.glo_ok X G (c.fact 56 (f := .glo "Folk") rfl)
    F_init := ⟨_, fd_F_init, F_F_init, He.meth_ok (c.fact 63 (f := .meth "Folk" "__init__") rfl), (FunD.bindsN F_F_init fun _ _ _ _ _ _ us hl => match us, hl with | [_, _], _ => rfl)⟩
    F_keep := ⟨_, fd_F_keep, F_F_keep, He.meth_ok (c.fact 64 (f := .meth "Folk" "keep") rfl), (FunD.bindsN F_F_keep fun _ _ _ _ _ _ us hl => match us, hl with | [_], _ => rfl)⟩
    F_stands := ⟨_, fd_F_stands, F_F_stands, He.meth_ok (c.fact 65 (f := .meth "Folk" "stands") rfl), (FunD.bindsN F_F_stands fun _ _ _ _ _ _ us hl => match us, hl with | [_, _], _ => rfl)⟩
    F_put := ⟨_, fd_F_put, F_F_put, He.meth_ok (c.fact 66 (f := .meth "Folk" "put") rfl), (FunD.bindsN F_F_put fun _ _ _ _ _ _ us hl => match us, hl with | [_, _], _ => rfl)⟩
    F_drop := ⟨_, fd_F_drop, F_F_drop, He.meth_ok (c.fact 67 (f := .meth "Folk" "drop") rfl), (FunD.bindsN F_F_drop fun _ _ _ _ _ _ us hl => match us, hl with | [_, _], _ => rfl)⟩
    F_two := ⟨_, fd_F_two, F_F_two, He.meth_ok (c.fact 68 (f := .meth "Folk" "two") rfl), (FunD.bindsN F_F_two fun _ _ _ _ _ _ us hl => match us, hl with | [_, _, _], _ => rfl)⟩
    F_told_reason := ⟨_, fd_F_told_reason, F_F_told_reason, He.meth_ok (c.fact 69 (f := .meth "Folk" "told_reason") rfl), (FunD.bindsN F_F_told_reason fun _ _ _ _ _ _ us hl => match us, hl with | [_, _, _, _], _ => rfl)⟩
    F_tell := ⟨_, fd_F_tell, F_F_tell, He.meth_ok (c.fact 70 (f := .meth "Folk" "tell") rfl), (FunD.bindsN F_F_tell fun _ _ _ _ _ _ us hl => match us, hl with | [_, _, _, _], _ => rfl)⟩
    F_untell := ⟨_, fd_F_untell, F_F_untell, He.meth_ok (c.fact 71 (f := .meth "Folk" "untell") rfl), (FunD.bindsN F_F_untell fun _ _ _ _ _ _ us hl => match us, hl with | [_, _, _, _], _ => rfl)⟩
    F_bar := ⟨_, fd_F_bar, F_F_bar, He.meth_ok (c.fact 72 (f := .meth "Folk" "bar") rfl), (FunD.bindsN F_F_bar fun _ _ _ _ _ _ us hl => match us, hl with | [_, _, _], _ => rfl)⟩
    F_unbar := ⟨_, fd_F_unbar, F_F_unbar, He.meth_ok (c.fact 73 (f := .meth "Folk" "unbar") rfl), (FunD.bindsN F_F_unbar fun _ _ _ _ _ _ us hl => match us, hl with | [_, _, _], _ => rfl)⟩
    F_strike := ⟨_, fd_F_strike, F_F_strike, He.meth_ok (c.fact 74 (f := .meth "Folk" "strike") rfl), (FunD.bindsN F_F_strike fun _ _ _ _ _ _ us hl => match us, hl with | [_, _], _ => rfl)⟩
    F_unstrike := ⟨_, fd_F_unstrike, F_F_unstrike, He.meth_ok (c.fact 75 (f := .meth "Folk" "unstrike") rfl), (FunD.bindsN F_F_unstrike fun _ _ _ _ _ _ us hl => match us, hl with | [_, _], _ => rfl)⟩
    F_undo := ⟨_, fd_F_undo, F_F_undo, He.meth_ok (c.fact 76 (f := .meth "Folk" "undo") rfl), (FunD.bindsN F_F_undo fun _ _ _ _ _ _ us hl => match us, hl with | [_], _ => rfl)⟩
    F_book := ⟨_, fd_F_book, F_F_book, He.meth_ok (c.fact 77 (f := .meth "Folk" "book") rfl), (FunD.bindsN F_F_book fun _ _ _ _ _ _ us hl => match us, hl with | [_], _ => rfl)⟩
    F_ground := ⟨_, fd_F_ground, F_F_ground, He.meth_ok (c.fact 78 (f := .meth "Folk" "ground") rfl), (FunD.bindsN F_F_ground fun _ _ _ _ _ _ us hl => match us, hl with | [_], _ => rfl)⟩
    mkr := He.mkr_ok (c.fact 55 (f := .mkr "Folk") rfl)
    n_rules := He.noat_ok (c.fact 57 (f := .noat "Folk" "rules") rfl)
    n_standing := He.noat_ok (c.fact 58 (f := .noat "Folk" "standing") rfl)
    n_reasons := He.noat_ok (c.fact 59 (f := .noat "Folk" "reasons") rfl)
    n_barred := He.noat_ok (c.fact 60 (f := .noat "Folk" "barred") rfl)
    n_struck := He.noat_ok (c.fact 61 (f := .noat "Folk" "struck") rfl)
    n_ahead := He.noat_ok (c.fact 62 (f := .noat "Folk" "ahead") rfl)
    b_isinstance := He.free_ok X G (c.fact 34 (f := .free "isinstance") rfl)
    b_str := He.free_ok X G (c.fact 35 (f := .free "str") rfl)
    b_int := He.free_ok X G (c.fact 36 (f := .free "int") rfl)
    b_bool := He.free_ok X G (c.fact 37 (f := .free "bool") rfl)
    b_tuple := He.free_ok X G (c.fact 38 (f := .free "tuple") rfl)
    b_list := He.free_ok X G (c.fact 39 (f := .free "list") rfl)
    b_dict := He.free_ok X G (c.fact 40 (f := .free "dict") rfl)
    b_len := He.free_ok X G (c.fact 41 (f := .free "len") rfl)
    b_all := He.free_ok X G (c.fact 42 (f := .free "all") rfl)
    b_any := He.free_ok X G (c.fact 43 (f := .free "any") rfl)
    b_sorted := He.free_ok X G (c.fact 44 (f := .free "sorted") rfl)
    b_min := He.free_ok X G (c.fact 45 (f := .free "min") rfl)
    b_max := He.free_ok X G (c.fact 46 (f := .free "max") rfl)
    b_enumerate := He.free_ok X G (c.fact 47 (f := .free "enumerate") rfl)
    b_range := He.free_ok X G (c.fact 48 (f := .free "range") rfl)
    b_abs := He.free_ok X G (c.fact 49 (f := .free "abs") rfl)
    c_SMALL := let ⟨t, e⟩ := He.str_ok X G (c.fact 50 (f := .str "SMALL" "abcdefghijklmnopqrstuvwxyz") rfl); ⟨_, e, ⟨t, rfl⟩⟩
    c_MOST_LETTERS := let ⟨t, e⟩ := He.int_ok X G (c.fact 51 (f := .int "MOST_LETTERS" 8) rfl); ⟨_, e, ⟨t, rfl⟩⟩
    c_MOST_WEIGHT := let ⟨t, e⟩ := He.int_ok X G (c.fact 52 (f := .int "MOST_WEIGHT" 1000) rfl); ⟨_, e, ⟨t, rfl⟩⟩
    c_TOLD := let ⟨t, e⟩ := He.int_ok X G (c.fact 53 (f := .int "TOLD" 100) rfl); ⟨_, e, ⟨t, rfl⟩⟩
  }
  have e := hfa.symm.trans (He.glo_ok X G (c.fact 33 (f := .glo "law") rfl))
  cases e
  have b := FunD.bindsA (ps := [("_law_script" : PySem.Str)]) F_law fun _ _ _ _ _ _ us hl => match us, hl with | [_], _ => rfl
  exact ⟨fd_law, fun s v => b s [v] rfl, fun base _ _ => ok_law T⟩
end FK
open PySem PySem.W PySem.Calls PyProof.Rows
theorem PySem.Challenge.cw_onefolk_k20_whole_in_any_order_holds : PySem.Challenge.rw_onefolk_k20_whole_in_any_order.Holds := by
  w_on; o_law
  refine HandSHeadRun.head_any (r := FK.R) (q := view FK.R.prog [48]) (H := FK.hk) (ob := FK.ob) (M := 4000) (loose := FK.names) (d := HandSHeadRun.topDef FK.R.prog 48) (kwd := []) FK.ob_eq
    (by kernel_rfl) (fun s => by kernel_rfl) FK.run (by kernel_rfl) (by kernel_rfl) (by kernel_rfl) (by rfl) (by first | assumption | decide +kernel) (by decide +kernel) ⟨rfl, rfl, rfl, rfl, rfl, by decide +kernel⟩ ?hw ?hc
  case hw => w_witness2
  case hc =>
    refine L2.walk_ofE (l := PySem.Challenge.rw_onefolk_k20_whole_in_any_order) (n := 63) (k := 8) (x := ("_law_script" : PySem.Str)) (CX := L2.CX0) rfl (by decide) (by kernel_rfl) ⟨rfl, by decide, by decide⟩ ?F (fun _ _ _ _ z => z)
    intro w mg fa h Y G hmg0
    obtain ⟨K, KX, c⟩ := Y
    have hmg : mg ("law" : PySem.Str) = some (.ref fa) := by
      have e : (HandSHeadRun.topDef FK.R.prog 48).name = ("law" : PySem.Str) := by kernel_rfl
      rw [← e]
      exact hmg0
    obtain ⟨fd, hb, hF⟩ := FK.facts (P := (PySem.Challenge.rw_onefolk_k20_whole_in_any_order).prog) (w := w) KX G hmg c
    exact ⟨K, fd, FK.sp_law K fa, KX, hb, fun H a ns hl _ hS => ⟨a, ns, rfl, hS, hl, fun _ => rfl⟩, hF⟩
