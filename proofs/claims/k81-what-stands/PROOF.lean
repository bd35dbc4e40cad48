import PyProof.Rows.All
import Wide.All
import OpenK.AllK
import Wide.FinOn
import KE.KStateDown
import HandS.ForMost
import HandS.Codes
import HandS.IsInst
import HandS.Exc
import HandS.Defaults
import HandS.HeadHook1
import HandS.HeadHook2
import PySem.Challenge.RW_loanroll_k81_what_stands
import HandS.TupAny
import HandS.Wide
import HandS.Sort
import HandS.SortOrd
import HandS.SortRule
import HandS.Keys
import HandS.TupSets
import HandS.DictTup
import HandS.Set
import HandS.SetFor
import HandS.Strs
import HandS.More
import HandS.Head0
import HandS.Head1
import HandS.Head2
import HandS.Ends
import HandS.HeadEnd
set_option Elab.async false
set_option linter.all false
set_option maxRecDepth 100000
set_option maxHeartbeats 4000000
/-! The text by places, what the top leaves (printed by gen_txt.py). -/
namespace Lr
open PySem PySem.Spec PyProof.Rows L2
def top (i : Nat) : Stmt := PySem.Challenge.pw_loanroll_k81_what_stands.main.body.getD i (.Pass ⟨0, 0, 0, 0⟩)
/-- a class without an __init__ of its own -/
def made0 (K : PySem.W.Frag) (x : Str) : Bool := PySem.W.makesIn K (He.ga K x) && (He.eqO (PySem.W.findIn K (.ref (He.ga K x)) "__init__") (some (some (.builtin "object.__init__"))) && PySem.W.keepIn K (.ref (He.ga K x)))
/-- what isinstance asks of an own class -/
def inst0 (K : PySem.W.Frag) (x : Str) : Bool := He.eqO (PySem.W.findIn K (.ref (He.ga K x)) "__class__") (some (some (.builtin "object.__class__"))) && (He.eqO (PySem.W.specialIn K (.builtin "object.__class__") "__get__") (some (some (.builtin "getset_descriptor.__get__"))) &&
  (decide (PySem.W.takesIn K (.builtin "object.__class__") = some true) && decide (PySem.W.mroIn K (He.ga K x) (.type "object") = some true)))
/-- an instance of x is one of y -/
def sub0 (K : PySem.W.Frag) (x y : Str) : Bool := decide (PySem.W.kitOne K (.ref (He.ga K x)) (.ref (He.ga K y)) = some true)
/-- C.m, read off the class, is the def -/
def clsf (K : PySem.W.Frag) (x m : Str) : Bool := PySem.W.readsIn K (He.ga K x) (.type "type") && (He.eqO (PySem.W.specialIn K (.ref (He.ga K x)) "__getattribute__") (some (some (.builtin "type.__getattribute__"))) &&
  ((match PySem.W.findCls K (.ref (He.ga K x)) (.type "type") m with
    | some (.val v) => decide (v = .ref (He.ma K (He.ga K x) m))
    | _ => false) && PySem.W.keepIn K (.ref (He.ma K (He.ga K x) m))))
def fa0 : List He.Fa := [.glo "is_whole", .glo "is_day", .glo "count_named", .glo "is_between", .glo "is_tail", .glo "size_of", .glo "made_of", .glo "entry_of", .glo "sum_by", .glo "told_as", .glo "dues_of", .glo "joined", .glo "_law_draw", .glo "_law_cell", .glo "_law_draws", .glo "_law_pick", .glo "_law_whole", .glo "_law_row", .glo "_law_made", .glo "_law_stands", .glo "_law_base", .glo "_law_deeds", .glo "_law_rows", .glo "_law_count", .glo "_law_grace", .glo "_law_put", .glo "_law_past", .glo "_law_told", .glo "law", .glo "Count"]
def fa1 : List He.Fa := [.glo "Bank", .glo "Thirty", .glo "Exact", .glo "Entry", .glo "Sum", .glo "Yearly", .glo "Out", .glo "Fee", .glo "Pay", .glo "Due", .glo "Turn", .glo "Rate", .glo "Late", .glo "Still", .glo "Book", .glo "Roll", .free "isinstance", .free "int", .free "bool", .free "str", .free "list", .free "tuple", .free "dict", .free "set", .free "sorted", .free "len", .free "max", .free "min", .free "range", .int "LAST_DAY" 999999]
def fa2 : List He.Fa := [.int "MOST" 1000000000000, .int "MOST_RATE" 1000000, .int "LAST_END" 1000000, .int "MOST_ENTRIES" 500, .int "MOST_GRACE" 366, .int "MOST_NUMBER" 1000000000, .int "MOST_DEEDS" 500, .cls "Count", .cls "Bank", .cls "Thirty", .cls "Exact", .cls "Out", .cls "Fee", .cls "Pay", .cls "Due", .cls "Turn", .cls "Rate", .cls "Late", .cls "Still", .cls "Book", .cls "Roll", .noat "Out" "day", .noat "Out" "amount", .noat "Fee" "day", .noat "Fee" "amount", .noat "Pay" "day", .noat "Pay" "amount", .noat "Due" "day", .noat "Due" "amount", .noat "Turn" "day"]
def fa3 : List He.Fa := [.noat "Rate" "day", .noat "Rate" "rate", .noat "Late" "day", .noat "Late" "rate", .noat "Still" "day", .noat "Still" "until", .noat "Book" "way", .noat "Book" "patience", .noat "Book" "told", .noat "Book" "spans", .noat "Book" "falling", .noat "Book" "handed", .noat "Roll" "bare", .noat "Roll" "deeds", .meth "Count" "name", .meth "Bank" "name", .meth "Thirty" "name", .meth "Exact" "name", .meth "Out" "word", .meth "Out" "tail", .meth "Out" "row", .meth "Fee" "word", .meth "Fee" "tail", .meth "Fee" "row", .meth "Pay" "word", .meth "Pay" "tail", .meth "Pay" "row", .meth "Due" "word", .meth "Due" "tail", .meth "Due" "row"]
def fa4 : List He.Fa := [.meth "Turn" "word", .meth "Turn" "tail", .meth "Turn" "row", .meth "Rate" "word", .meth "Rate" "tail", .meth "Rate" "row", .meth "Late" "word", .meth "Late" "tail", .meth "Late" "row", .meth "Still" "word", .meth "Still" "tail", .meth "Still" "row", .meth "Roll" "check", .meth "Roll" "keep", .meth "Roll" "put", .meth "Roll" "strike", .meth "Roll" "rows_at", .meth "Roll" "standing", .meth "Roll" "history", .meth "Roll" "knowns", .mkr "Out", .mkr "Fee", .mkr "Pay", .mkr "Due", .mkr "Turn", .mkr "Rate", .mkr "Late", .mkr "Still", .mkr "Book", .mkr "Roll"]
def fa : List He.Fa := fa0 ++ (fa1 ++ (fa2 ++ (fa3 ++ (fa4))))
def dd0 : He.DefD := ⟨("is_whole", none), "is_whole", "is_whole", defArgs (top 39), defBody (top 39), defScope (top 39), [], []⟩
def dd1 : He.DefD := ⟨("is_day", none), "is_day", "is_day", defArgs (top 40), defBody (top 40), defScope (top 40), [], []⟩
def dd2 : He.DefD := ⟨("count_named", none), "count_named", "count_named", defArgs (top 53), defBody (top 53), defScope (top 53), [], []⟩
def dd3 : He.DefD := ⟨("is_between", none), "is_between", "is_between", defArgs (top 69), defBody (top 69), defScope (top 69), [], []⟩
def dd4 : He.DefD := ⟨("is_tail", none), "is_tail", "is_tail", defArgs (top 70), defBody (top 70), defScope (top 70), [], []⟩
def dd5 : He.DefD := ⟨("size_of", none), "size_of", "size_of", defArgs (top 71), defBody (top 71), defScope (top 71), [], []⟩
def dd6 : He.DefD := ⟨("made_of", none), "made_of", "made_of", defArgs (top 72), defBody (top 72), defScope (top 72), [], []⟩
def dd7 : He.DefD := ⟨("entry_of", none), "entry_of", "entry_of", defArgs (top 73), defBody (top 73), defScope (top 73), [], []⟩
def dd8 : He.DefD := ⟨("sum_by", none), "sum_by", "sum_by", defArgs (top 74), defBody (top 74), defScope (top 74), [], []⟩
def dd9 : He.DefD := ⟨("told_as", none), "told_as", "told_as", defArgs (top 79), defBody (top 79), defScope (top 79), [], []⟩
def dd10 : He.DefD := ⟨("dues_of", none), "dues_of", "dues_of", defArgs (top 80), defBody (top 80), defScope (top 80), [], []⟩
def dd11 : He.DefD := ⟨("joined", none), "joined", "joined", defArgs (top 10), defBody (top 10), defScope (top 10), [], []⟩
def dd12 : He.DefD := ⟨("_law_draw", none), "_law_draw", "_law_draw", defArgs (top 87), defBody (top 87), defScope (top 87), [], []⟩
def dd13 : He.DefD := ⟨("_law_cell", none), "_law_cell", "_law_cell", defArgs (top 88), defBody (top 88), defScope (top 88), [], []⟩
def dd14 : He.DefD := ⟨("_law_draws", none), "_law_draws", "_law_draws", defArgs (top 89), defBody (top 89), defScope (top 89), [], []⟩
def dd15 : He.DefD := ⟨("_law_pick", none), "_law_pick", "_law_pick", defArgs (top 90), defBody (top 90), defScope (top 90), [], []⟩
def dd16 : He.DefD := ⟨("_law_whole", none), "_law_whole", "_law_whole", defArgs (top 91), defBody (top 91), defScope (top 91), [], []⟩
def dd17 : He.DefD := ⟨("_law_row", none), "_law_row", "_law_row", defArgs (top 92), defBody (top 92), defScope (top 92), [], []⟩
def dd18 : He.DefD := ⟨("_law_made", none), "_law_made", "_law_made", defArgs (top 93), defBody (top 93), defScope (top 93), [], []⟩
def dd19 : He.DefD := ⟨("_law_stands", none), "_law_stands", "_law_stands", defArgs (top 94), defBody (top 94), defScope (top 94), [], []⟩
def dd20 : He.DefD := ⟨("_law_base", none), "_law_base", "_law_base", defArgs (top 95), defBody (top 95), defScope (top 95), [], []⟩
def dd21 : He.DefD := ⟨("_law_deeds", none), "_law_deeds", "_law_deeds", defArgs (top 96), defBody (top 96), defScope (top 96), [], []⟩
def dd22 : He.DefD := ⟨("_law_rows", none), "_law_rows", "_law_rows", defArgs (top 97), defBody (top 97), defScope (top 97), [], []⟩
def dd23 : He.DefD := ⟨("_law_count", none), "_law_count", "_law_count", defArgs (top 98), defBody (top 98), defScope (top 98), [], []⟩
def dd24 : He.DefD := ⟨("_law_grace", none), "_law_grace", "_law_grace", defArgs (top 99), defBody (top 99), defScope (top 99), [], []⟩
def dd25 : He.DefD := ⟨("_law_put", none), "_law_put", "_law_put", defArgs (top 100), defBody (top 100), defScope (top 100), [], []⟩
def dd26 : He.DefD := ⟨("_law_past", none), "_law_past", "_law_past", defArgs (top 101), defBody (top 101), defScope (top 101), [], []⟩
def dd27 : He.DefD := ⟨("_law_told", none), "_law_told", "_law_told", defArgs (top 102), defBody (top 102), defScope (top 102), [], []⟩
def dd28 : He.DefD := ⟨("law", none), "law", "law", defArgs (top 103), defBody (top 103), defScope (top 103), [], []⟩
def dd29 : He.DefD := ⟨("Count", some "name"), "name", "Count.name", defArgs (inClass (top 49) 0), defBody (inClass (top 49) 0), defScope (inClass (top 49) 0), [], []⟩
def dd30 : He.DefD := ⟨("Bank", some "name"), "name", "Bank.name", defArgs (inClass (top 50) 0), defBody (inClass (top 50) 0), defScope (inClass (top 50) 0), [], []⟩
def dd31 : He.DefD := ⟨("Thirty", some "name"), "name", "Thirty.name", defArgs (inClass (top 51) 0), defBody (inClass (top 51) 0), defScope (inClass (top 51) 0), [], []⟩
def dd32 : He.DefD := ⟨("Exact", some "name"), "name", "Exact.name", defArgs (inClass (top 52) 0), defBody (inClass (top 52) 0), defScope (inClass (top 52) 0), [], []⟩
def dd33 : He.DefD := ⟨("Out", some "word"), "word", "Out.word", defArgs (inClass (top 60) 0), defBody (inClass (top 60) 0), defScope (inClass (top 60) 0), [], []⟩
def dd34 : He.DefD := ⟨("Out", some "tail"), "tail", "Sum.tail", defArgs (inClass (top 59) 1), defBody (inClass (top 59) 1), defScope (inClass (top 59) 1), [], []⟩
def dd35 : He.DefD := ⟨("Out", some "row"), "row", "Entry.row", defArgs (inClass (top 58) 3), defBody (inClass (top 58) 3), defScope (inClass (top 58) 3), [], []⟩
def dd36 : He.DefD := ⟨("Fee", some "word"), "word", "Fee.word", defArgs (inClass (top 61) 0), defBody (inClass (top 61) 0), defScope (inClass (top 61) 0), [], []⟩
def dd37 : He.DefD := ⟨("Fee", some "tail"), "tail", "Sum.tail", defArgs (inClass (top 59) 1), defBody (inClass (top 59) 1), defScope (inClass (top 59) 1), [], []⟩
def dd38 : He.DefD := ⟨("Fee", some "row"), "row", "Entry.row", defArgs (inClass (top 58) 3), defBody (inClass (top 58) 3), defScope (inClass (top 58) 3), [], []⟩
def dd39 : He.DefD := ⟨("Pay", some "word"), "word", "Pay.word", defArgs (inClass (top 62) 0), defBody (inClass (top 62) 0), defScope (inClass (top 62) 0), [], []⟩
def dd40 : He.DefD := ⟨("Pay", some "tail"), "tail", "Sum.tail", defArgs (inClass (top 59) 1), defBody (inClass (top 59) 1), defScope (inClass (top 59) 1), [], []⟩
def dd41 : He.DefD := ⟨("Pay", some "row"), "row", "Entry.row", defArgs (inClass (top 58) 3), defBody (inClass (top 58) 3), defScope (inClass (top 58) 3), [], []⟩
def dd42 : He.DefD := ⟨("Due", some "word"), "word", "Due.word", defArgs (inClass (top 63) 0), defBody (inClass (top 63) 0), defScope (inClass (top 63) 0), [], []⟩
def dd43 : He.DefD := ⟨("Due", some "tail"), "tail", "Sum.tail", defArgs (inClass (top 59) 1), defBody (inClass (top 59) 1), defScope (inClass (top 59) 1), [], []⟩
def dd44 : He.DefD := ⟨("Due", some "row"), "row", "Entry.row", defArgs (inClass (top 58) 3), defBody (inClass (top 58) 3), defScope (inClass (top 58) 3), [], []⟩
def dd45 : He.DefD := ⟨("Turn", some "word"), "word", "Turn.word", defArgs (inClass (top 64) 0), defBody (inClass (top 64) 0), defScope (inClass (top 64) 0), [], []⟩
def dd46 : He.DefD := ⟨("Turn", some "tail"), "tail", "Entry.tail", defArgs (inClass (top 58) 2), defBody (inClass (top 58) 2), defScope (inClass (top 58) 2), [], []⟩
def dd47 : He.DefD := ⟨("Turn", some "row"), "row", "Entry.row", defArgs (inClass (top 58) 3), defBody (inClass (top 58) 3), defScope (inClass (top 58) 3), [], []⟩
def dd48 : He.DefD := ⟨("Rate", some "word"), "word", "Rate.word", defArgs (inClass (top 66) 0), defBody (inClass (top 66) 0), defScope (inClass (top 66) 0), [], []⟩
def dd49 : He.DefD := ⟨("Rate", some "tail"), "tail", "Yearly.tail", defArgs (inClass (top 65) 1), defBody (inClass (top 65) 1), defScope (inClass (top 65) 1), [], []⟩
def dd50 : He.DefD := ⟨("Rate", some "row"), "row", "Entry.row", defArgs (inClass (top 58) 3), defBody (inClass (top 58) 3), defScope (inClass (top 58) 3), [], []⟩
def dd51 : He.DefD := ⟨("Late", some "word"), "word", "Late.word", defArgs (inClass (top 67) 0), defBody (inClass (top 67) 0), defScope (inClass (top 67) 0), [], []⟩
def dd52 : He.DefD := ⟨("Late", some "tail"), "tail", "Yearly.tail", defArgs (inClass (top 65) 1), defBody (inClass (top 65) 1), defScope (inClass (top 65) 1), [], []⟩
def dd53 : He.DefD := ⟨("Late", some "row"), "row", "Entry.row", defArgs (inClass (top 58) 3), defBody (inClass (top 58) 3), defScope (inClass (top 58) 3), [], []⟩
def dd54 : He.DefD := ⟨("Still", some "word"), "word", "Still.word", defArgs (inClass (top 68) 1), defBody (inClass (top 68) 1), defScope (inClass (top 68) 1), [], []⟩
def dd55 : He.DefD := ⟨("Still", some "tail"), "tail", "Still.tail", defArgs (inClass (top 68) 2), defBody (inClass (top 68) 2), defScope (inClass (top 68) 2), [], []⟩
def dd56 : He.DefD := ⟨("Still", some "row"), "row", "Entry.row", defArgs (inClass (top 58) 3), defBody (inClass (top 58) 3), defScope (inClass (top 58) 3), [], []⟩
def dd57 : He.DefD := ⟨("Roll", some "check"), "check", "Roll.check", defArgs (inClass (top 85) 1), defBody (inClass (top 85) 1), defScope (inClass (top 85) 1), [], []⟩
def dd58 : He.DefD := ⟨("Roll", some "keep"), "keep", "Roll.keep", defArgs (inClass (top 85) 2), defBody (inClass (top 85) 2), defScope (inClass (top 85) 2), [], []⟩
def dd59 : He.DefD := ⟨("Roll", some "put"), "put", "Roll.put", defArgs (inClass (top 85) 3), defBody (inClass (top 85) 3), defScope (inClass (top 85) 3), [], []⟩
def dd60 : He.DefD := ⟨("Roll", some "strike"), "strike", "Roll.strike", defArgs (inClass (top 85) 4), defBody (inClass (top 85) 4), defScope (inClass (top 85) 4), [], []⟩
def dd61 : He.DefD := ⟨("Roll", some "rows_at"), "rows_at", "Roll.rows_at", defArgs (inClass (top 85) 5), defBody (inClass (top 85) 5), defScope (inClass (top 85) 5), [], []⟩
def dd62 : He.DefD := ⟨("Roll", some "standing"), "standing", "Roll.standing", defArgs (inClass (top 85) 6), defBody (inClass (top 85) 6), defScope (inClass (top 85) 6), [], []⟩
def dd63 : He.DefD := ⟨("Roll", some "history"), "history", "Roll.history", defArgs (inClass (top 85) 9), defBody (inClass (top 85) 9), defScope (inClass (top 85) 9), [], []⟩
def dd64 : He.DefD := ⟨("Roll", some "knowns"), "knowns", "Roll.knowns", defArgs (inClass (top 85) 10), defBody (inClass (top 85) 10), defScope (inClass (top 85) 10), [], []⟩
def dd65 : He.DefD := ⟨("Out", some "__init__"), "__init__", "Sum.__init__", defArgs (inClass (top 59) 0), defBody (inClass (top 59) 0), defScope (inClass (top 59) 0), [], []⟩
def dd66 : He.DefD := ⟨("Fee", some "__init__"), "__init__", "Sum.__init__", defArgs (inClass (top 59) 0), defBody (inClass (top 59) 0), defScope (inClass (top 59) 0), [], []⟩
def dd67 : He.DefD := ⟨("Pay", some "__init__"), "__init__", "Sum.__init__", defArgs (inClass (top 59) 0), defBody (inClass (top 59) 0), defScope (inClass (top 59) 0), [], []⟩
def dd68 : He.DefD := ⟨("Due", some "__init__"), "__init__", "Sum.__init__", defArgs (inClass (top 59) 0), defBody (inClass (top 59) 0), defScope (inClass (top 59) 0), [], []⟩
def dd69 : He.DefD := ⟨("Turn", some "__init__"), "__init__", "Entry.__init__", defArgs (inClass (top 58) 0), defBody (inClass (top 58) 0), defScope (inClass (top 58) 0), [], []⟩
def dd70 : He.DefD := ⟨("Rate", some "__init__"), "__init__", "Yearly.__init__", defArgs (inClass (top 65) 0), defBody (inClass (top 65) 0), defScope (inClass (top 65) 0), [], []⟩
def dd71 : He.DefD := ⟨("Late", some "__init__"), "__init__", "Yearly.__init__", defArgs (inClass (top 65) 0), defBody (inClass (top 65) 0), defScope (inClass (top 65) 0), [], []⟩
def dd72 : He.DefD := ⟨("Still", some "__init__"), "__init__", "Still.__init__", defArgs (inClass (top 68) 0), defBody (inClass (top 68) 0), defScope (inClass (top 68) 0), [], []⟩
def dd73 : He.DefD := ⟨("Book", some "__init__"), "__init__", "Book.__init__", defArgs (inClass (top 81) 0), defBody (inClass (top 81) 0), defScope (inClass (top 81) 0), [], []⟩
def dd74 : He.DefD := ⟨("Roll", some "__init__"), "__init__", "Roll.__init__", defArgs (inClass (top 85) 0), defBody (inClass (top 85) 0), defScope (inClass (top 85) 0), [], []⟩
def dd75 : He.DefD := ⟨("Entry", some "__init__"), "__init__", "Entry.__init__", defArgs (inClass (top 58) 0), defBody (inClass (top 58) 0), defScope (inClass (top 58) 0), [], []⟩
def dd76 : He.DefD := ⟨("Sum", some "__init__"), "__init__", "Sum.__init__", defArgs (inClass (top 59) 0), defBody (inClass (top 59) 0), defScope (inClass (top 59) 0), [], []⟩
def dd77 : He.DefD := ⟨("Yearly", some "__init__"), "__init__", "Yearly.__init__", defArgs (inClass (top 65) 0), defBody (inClass (top 65) 0), defScope (inClass (top 65) 0), [], []⟩
def fn0 : List He.DefD := [dd0, dd1, dd2, dd3, dd4, dd5, dd6, dd7, dd8, dd9, dd10, dd11, dd12, dd13, dd14, dd15, dd16, dd17, dd18, dd19, dd20, dd21, dd22, dd23, dd24, dd25, dd26, dd27, dd28, dd29]
def fn1 : List He.DefD := [dd30, dd31, dd32, dd33, dd34, dd35, dd36, dd37, dd38, dd39, dd40, dd41, dd42, dd43, dd44, dd45, dd46, dd47, dd48, dd49, dd50, dd51, dd52, dd53, dd54, dd55, dd56, dd57, dd58, dd59]
def fn2 : List He.DefD := [dd60, dd61, dd62, dd63, dd64, dd65, dd66, dd67, dd68, dd69, dd70, dd71, dd72, dd73, dd74, dd75, dd76, dd77]
def fn : List He.DefD := fn0 ++ (fn1 ++ (fn2))
def exs0 : List (PySem.W.Frag → Bool) := [fun K => made0 K "Count", fun K => made0 K "Bank", fun K => made0 K "Thirty", fun K => made0 K "Exact", fun K => inst0 K "Count", fun K => inst0 K "Bank", fun K => inst0 K "Thirty", fun K => inst0 K "Exact", fun K => inst0 K "Out", fun K => inst0 K "Fee", fun K => inst0 K "Pay", fun K => inst0 K "Due", fun K => inst0 K "Turn", fun K => inst0 K "Rate", fun K => inst0 K "Late", fun K => inst0 K "Still", fun K => sub0 K "Count" "Count", fun K => sub0 K "Bank" "Count", fun K => sub0 K "Thirty" "Count", fun K => sub0 K "Exact" "Count", fun K => sub0 K "Out" "Entry", fun K => sub0 K "Fee" "Entry", fun K => sub0 K "Pay" "Entry", fun K => sub0 K "Due" "Entry", fun K => sub0 K "Turn" "Entry", fun K => sub0 K "Rate" "Entry", fun K => sub0 K "Late" "Entry", fun K => sub0 K "Still" "Entry", fun K => clsf K "Entry" "__init__", fun K => clsf K "Sum" "__init__"]
def exs1 : List (PySem.W.Frag → Bool) := [fun K => clsf K "Yearly" "__init__"]
def exs : List (PySem.W.Frag → Bool) := exs0 ++ (exs1)
def ex (K : PySem.W.Frag) : Bool := exs.all fun f => f K
/-- what stands behind the top -/
structure Txt (K : PySem.W.Frag) (mg : Str → Option Value) : Prop where
  at_ : ∃ h : Heap, K.In h ∧ h.Ns mainGlobals mg
  says : He.SaysD fa fn K
  more : ex K = true
abbrev FnP (K : PySem.W.Frag) (x qual : Str) (st : Stmt) (f : Addr) (fd : FuncData) : Prop := FunD K x qual (defArgs st) (defBody st) (defScope st) [] [] f fd
section
variable {K : PySem.W.Frag} {mg : Str → Option Value}
theorem Txt.exat (T : Txt K mg) (i : Nat) {f : PySem.W.Frag → Bool} (h : exs[i]? = some f) : f K = true := List.all_eq_true.mp T.more f (List.mem_of_getElem? h)
theorem Txt.mg_is_whole (T : Txt K mg) : mg "is_whole" = some (.ref (He.ga K "is_whole")) := by
  obtain ⟨h, X, G⟩ := T.at_
  have c := T.says
  exact He.glo_ok X G (c.fact 0 rfl)
theorem Txt.mg_is_day (T : Txt K mg) : mg "is_day" = some (.ref (He.ga K "is_day")) := by
  obtain ⟨h, X, G⟩ := T.at_
  have c := T.says
  exact He.glo_ok X G (c.fact 1 rfl)
theorem Txt.mg_count_named (T : Txt K mg) : mg "count_named" = some (.ref (He.ga K "count_named")) := by
  obtain ⟨h, X, G⟩ := T.at_
  have c := T.says
  exact He.glo_ok X G (c.fact 2 rfl)
theorem Txt.mg_is_between (T : Txt K mg) : mg "is_between" = some (.ref (He.ga K "is_between")) := by
  obtain ⟨h, X, G⟩ := T.at_
  have c := T.says
  exact He.glo_ok X G (c.fact 3 rfl)
theorem Txt.mg_is_tail (T : Txt K mg) : mg "is_tail" = some (.ref (He.ga K "is_tail")) := by
  obtain ⟨h, X, G⟩ := T.at_
  have c := T.says
  exact He.glo_ok X G (c.fact 4 rfl)
theorem Txt.mg_size_of (T : Txt K mg) : mg "size_of" = some (.ref (He.ga K "size_of")) := by
  obtain ⟨h, X, G⟩ := T.at_
  have c := T.says
  exact He.glo_ok X G (c.fact 5 rfl)
theorem Txt.mg_made_of (T : Txt K mg) : mg "made_of" = some (.ref (He.ga K "made_of")) := by
  obtain ⟨h, X, G⟩ := T.at_
  have c := T.says
  exact He.glo_ok X G (c.fact 6 rfl)
theorem Txt.mg_entry_of (T : Txt K mg) : mg "entry_of" = some (.ref (He.ga K "entry_of")) := by
  obtain ⟨h, X, G⟩ := T.at_
  have c := T.says
  exact He.glo_ok X G (c.fact 7 rfl)
theorem Txt.mg_sum_by (T : Txt K mg) : mg "sum_by" = some (.ref (He.ga K "sum_by")) := by
  obtain ⟨h, X, G⟩ := T.at_
  have c := T.says
  exact He.glo_ok X G (c.fact 8 rfl)
theorem Txt.mg_told_as (T : Txt K mg) : mg "told_as" = some (.ref (He.ga K "told_as")) := by
  obtain ⟨h, X, G⟩ := T.at_
  have c := T.says
  exact He.glo_ok X G (c.fact 9 rfl)
theorem Txt.mg_dues_of (T : Txt K mg) : mg "dues_of" = some (.ref (He.ga K "dues_of")) := by
  obtain ⟨h, X, G⟩ := T.at_
  have c := T.says
  exact He.glo_ok X G (c.fact 10 rfl)
theorem Txt.mg_joined (T : Txt K mg) : mg "joined" = some (.ref (He.ga K "joined")) := by
  obtain ⟨h, X, G⟩ := T.at_
  have c := T.says
  exact He.glo_ok X G (c.fact 11 rfl)
theorem Txt.mg_law_draw (T : Txt K mg) : mg "_law_draw" = some (.ref (He.ga K "_law_draw")) := by
  obtain ⟨h, X, G⟩ := T.at_
  have c := T.says
  exact He.glo_ok X G (c.fact 12 rfl)
theorem Txt.mg_law_cell (T : Txt K mg) : mg "_law_cell" = some (.ref (He.ga K "_law_cell")) := by
  obtain ⟨h, X, G⟩ := T.at_
  have c := T.says
  exact He.glo_ok X G (c.fact 13 rfl)
theorem Txt.mg_law_draws (T : Txt K mg) : mg "_law_draws" = some (.ref (He.ga K "_law_draws")) := by
  obtain ⟨h, X, G⟩ := T.at_
  have c := T.says
  exact He.glo_ok X G (c.fact 14 rfl)
theorem Txt.mg_law_pick (T : Txt K mg) : mg "_law_pick" = some (.ref (He.ga K "_law_pick")) := by
  obtain ⟨h, X, G⟩ := T.at_
  have c := T.says
  exact He.glo_ok X G (c.fact 15 rfl)
theorem Txt.mg_law_whole (T : Txt K mg) : mg "_law_whole" = some (.ref (He.ga K "_law_whole")) := by
  obtain ⟨h, X, G⟩ := T.at_
  have c := T.says
  exact He.glo_ok X G (c.fact 16 rfl)
theorem Txt.mg_law_row (T : Txt K mg) : mg "_law_row" = some (.ref (He.ga K "_law_row")) := by
  obtain ⟨h, X, G⟩ := T.at_
  have c := T.says
  exact He.glo_ok X G (c.fact 17 rfl)
theorem Txt.mg_law_made (T : Txt K mg) : mg "_law_made" = some (.ref (He.ga K "_law_made")) := by
  obtain ⟨h, X, G⟩ := T.at_
  have c := T.says
  exact He.glo_ok X G (c.fact 18 rfl)
theorem Txt.mg_law_stands (T : Txt K mg) : mg "_law_stands" = some (.ref (He.ga K "_law_stands")) := by
  obtain ⟨h, X, G⟩ := T.at_
  have c := T.says
  exact He.glo_ok X G (c.fact 19 rfl)
theorem Txt.mg_law_base (T : Txt K mg) : mg "_law_base" = some (.ref (He.ga K "_law_base")) := by
  obtain ⟨h, X, G⟩ := T.at_
  have c := T.says
  exact He.glo_ok X G (c.fact 20 rfl)
theorem Txt.mg_law_deeds (T : Txt K mg) : mg "_law_deeds" = some (.ref (He.ga K "_law_deeds")) := by
  obtain ⟨h, X, G⟩ := T.at_
  have c := T.says
  exact He.glo_ok X G (c.fact 21 rfl)
theorem Txt.mg_law_rows (T : Txt K mg) : mg "_law_rows" = some (.ref (He.ga K "_law_rows")) := by
  obtain ⟨h, X, G⟩ := T.at_
  have c := T.says
  exact He.glo_ok X G (c.fact 22 rfl)
theorem Txt.mg_law_count (T : Txt K mg) : mg "_law_count" = some (.ref (He.ga K "_law_count")) := by
  obtain ⟨h, X, G⟩ := T.at_
  have c := T.says
  exact He.glo_ok X G (c.fact 23 rfl)
theorem Txt.mg_law_grace (T : Txt K mg) : mg "_law_grace" = some (.ref (He.ga K "_law_grace")) := by
  obtain ⟨h, X, G⟩ := T.at_
  have c := T.says
  exact He.glo_ok X G (c.fact 24 rfl)
theorem Txt.mg_law_put (T : Txt K mg) : mg "_law_put" = some (.ref (He.ga K "_law_put")) := by
  obtain ⟨h, X, G⟩ := T.at_
  have c := T.says
  exact He.glo_ok X G (c.fact 25 rfl)
theorem Txt.mg_law_past (T : Txt K mg) : mg "_law_past" = some (.ref (He.ga K "_law_past")) := by
  obtain ⟨h, X, G⟩ := T.at_
  have c := T.says
  exact He.glo_ok X G (c.fact 26 rfl)
theorem Txt.mg_law_told (T : Txt K mg) : mg "_law_told" = some (.ref (He.ga K "_law_told")) := by
  obtain ⟨h, X, G⟩ := T.at_
  have c := T.says
  exact He.glo_ok X G (c.fact 27 rfl)
theorem Txt.mg_law (T : Txt K mg) : mg "law" = some (.ref (He.ga K "law")) := by
  obtain ⟨h, X, G⟩ := T.at_
  have c := T.says
  exact He.glo_ok X G (c.fact 28 rfl)
theorem Txt.mg_Count (T : Txt K mg) : mg "Count" = some (.ref (He.ga K "Count")) := by
  obtain ⟨h, X, G⟩ := T.at_
  have c := T.says
  exact He.glo_ok X G (c.fact 29 rfl)
theorem Txt.mg_Bank (T : Txt K mg) : mg "Bank" = some (.ref (He.ga K "Bank")) := by
  obtain ⟨h, X, G⟩ := T.at_
  have c := T.says
  exact He.glo_ok X G (c.fact 30 rfl)
theorem Txt.mg_Thirty (T : Txt K mg) : mg "Thirty" = some (.ref (He.ga K "Thirty")) := by
  obtain ⟨h, X, G⟩ := T.at_
  have c := T.says
  exact He.glo_ok X G (c.fact 31 rfl)
theorem Txt.mg_Exact (T : Txt K mg) : mg "Exact" = some (.ref (He.ga K "Exact")) := by
  obtain ⟨h, X, G⟩ := T.at_
  have c := T.says
  exact He.glo_ok X G (c.fact 32 rfl)
theorem Txt.mg_Entry (T : Txt K mg) : mg "Entry" = some (.ref (He.ga K "Entry")) := by
  obtain ⟨h, X, G⟩ := T.at_
  have c := T.says
  exact He.glo_ok X G (c.fact 33 rfl)
theorem Txt.mg_Sum (T : Txt K mg) : mg "Sum" = some (.ref (He.ga K "Sum")) := by
  obtain ⟨h, X, G⟩ := T.at_
  have c := T.says
  exact He.glo_ok X G (c.fact 34 rfl)
theorem Txt.mg_Yearly (T : Txt K mg) : mg "Yearly" = some (.ref (He.ga K "Yearly")) := by
  obtain ⟨h, X, G⟩ := T.at_
  have c := T.says
  exact He.glo_ok X G (c.fact 35 rfl)
theorem Txt.mg_Out (T : Txt K mg) : mg "Out" = some (.ref (He.ga K "Out")) := by
  obtain ⟨h, X, G⟩ := T.at_
  have c := T.says
  exact He.glo_ok X G (c.fact 36 rfl)
theorem Txt.mg_Fee (T : Txt K mg) : mg "Fee" = some (.ref (He.ga K "Fee")) := by
  obtain ⟨h, X, G⟩ := T.at_
  have c := T.says
  exact He.glo_ok X G (c.fact 37 rfl)
theorem Txt.mg_Pay (T : Txt K mg) : mg "Pay" = some (.ref (He.ga K "Pay")) := by
  obtain ⟨h, X, G⟩ := T.at_
  have c := T.says
  exact He.glo_ok X G (c.fact 38 rfl)
theorem Txt.mg_Due (T : Txt K mg) : mg "Due" = some (.ref (He.ga K "Due")) := by
  obtain ⟨h, X, G⟩ := T.at_
  have c := T.says
  exact He.glo_ok X G (c.fact 39 rfl)
theorem Txt.mg_Turn (T : Txt K mg) : mg "Turn" = some (.ref (He.ga K "Turn")) := by
  obtain ⟨h, X, G⟩ := T.at_
  have c := T.says
  exact He.glo_ok X G (c.fact 40 rfl)
theorem Txt.mg_Rate (T : Txt K mg) : mg "Rate" = some (.ref (He.ga K "Rate")) := by
  obtain ⟨h, X, G⟩ := T.at_
  have c := T.says
  exact He.glo_ok X G (c.fact 41 rfl)
theorem Txt.mg_Late (T : Txt K mg) : mg "Late" = some (.ref (He.ga K "Late")) := by
  obtain ⟨h, X, G⟩ := T.at_
  have c := T.says
  exact He.glo_ok X G (c.fact 42 rfl)
theorem Txt.mg_Still (T : Txt K mg) : mg "Still" = some (.ref (He.ga K "Still")) := by
  obtain ⟨h, X, G⟩ := T.at_
  have c := T.says
  exact He.glo_ok X G (c.fact 43 rfl)
theorem Txt.mg_Book (T : Txt K mg) : mg "Book" = some (.ref (He.ga K "Book")) := by
  obtain ⟨h, X, G⟩ := T.at_
  have c := T.says
  exact He.glo_ok X G (c.fact 44 rfl)
theorem Txt.mg_Roll (T : Txt K mg) : mg "Roll" = some (.ref (He.ga K "Roll")) := by
  obtain ⟨h, X, G⟩ := T.at_
  have c := T.says
  exact He.glo_ok X G (c.fact 45 rfl)
theorem Txt.no_isinstance (T : Txt K mg) : mg "isinstance" = none := by
  obtain ⟨h, X, G⟩ := T.at_
  have c := T.says
  exact He.free_ok X G (c.fact 46 rfl)
theorem Txt.no_int (T : Txt K mg) : mg "int" = none := by
  obtain ⟨h, X, G⟩ := T.at_
  have c := T.says
  exact He.free_ok X G (c.fact 47 rfl)
theorem Txt.no_bool (T : Txt K mg) : mg "bool" = none := by
  obtain ⟨h, X, G⟩ := T.at_
  have c := T.says
  exact He.free_ok X G (c.fact 48 rfl)
theorem Txt.no_str (T : Txt K mg) : mg "str" = none := by
  obtain ⟨h, X, G⟩ := T.at_
  have c := T.says
  exact He.free_ok X G (c.fact 49 rfl)
theorem Txt.no_list (T : Txt K mg) : mg "list" = none := by
  obtain ⟨h, X, G⟩ := T.at_
  have c := T.says
  exact He.free_ok X G (c.fact 50 rfl)
theorem Txt.no_tuple (T : Txt K mg) : mg "tuple" = none := by
  obtain ⟨h, X, G⟩ := T.at_
  have c := T.says
  exact He.free_ok X G (c.fact 51 rfl)
theorem Txt.no_dict (T : Txt K mg) : mg "dict" = none := by
  obtain ⟨h, X, G⟩ := T.at_
  have c := T.says
  exact He.free_ok X G (c.fact 52 rfl)
theorem Txt.no_set (T : Txt K mg) : mg "set" = none := by
  obtain ⟨h, X, G⟩ := T.at_
  have c := T.says
  exact He.free_ok X G (c.fact 53 rfl)
theorem Txt.no_sorted (T : Txt K mg) : mg "sorted" = none := by
  obtain ⟨h, X, G⟩ := T.at_
  have c := T.says
  exact He.free_ok X G (c.fact 54 rfl)
theorem Txt.no_len (T : Txt K mg) : mg "len" = none := by
  obtain ⟨h, X, G⟩ := T.at_
  have c := T.says
  exact He.free_ok X G (c.fact 55 rfl)
theorem Txt.no_max (T : Txt K mg) : mg "max" = none := by
  obtain ⟨h, X, G⟩ := T.at_
  have c := T.says
  exact He.free_ok X G (c.fact 56 rfl)
theorem Txt.no_min (T : Txt K mg) : mg "min" = none := by
  obtain ⟨h, X, G⟩ := T.at_
  have c := T.says
  exact He.free_ok X G (c.fact 57 rfl)
theorem Txt.no_range (T : Txt K mg) : mg "range" = none := by
  obtain ⟨h, X, G⟩ := T.at_
  have c := T.says
  exact He.free_ok X G (c.fact 58 rfl)
theorem Txt.in_LAST_DAY (T : Txt K mg) : ∃ t, mg "LAST_DAY" = some (.int 999999 t) := by
  obtain ⟨h, X, G⟩ := T.at_
  have c := T.says
  exact He.int_ok X G (c.fact 59 rfl)
theorem Txt.in_MOST (T : Txt K mg) : ∃ t, mg "MOST" = some (.int 1000000000000 t) := by
  obtain ⟨h, X, G⟩ := T.at_
  have c := T.says
  exact He.int_ok X G (c.fact 60 rfl)
theorem Txt.in_MOST_RATE (T : Txt K mg) : ∃ t, mg "MOST_RATE" = some (.int 1000000 t) := by
  obtain ⟨h, X, G⟩ := T.at_
  have c := T.says
  exact He.int_ok X G (c.fact 61 rfl)
theorem Txt.in_LAST_END (T : Txt K mg) : ∃ t, mg "LAST_END" = some (.int 1000000 t) := by
  obtain ⟨h, X, G⟩ := T.at_
  have c := T.says
  exact He.int_ok X G (c.fact 62 rfl)
theorem Txt.in_MOST_ENTRIES (T : Txt K mg) : ∃ t, mg "MOST_ENTRIES" = some (.int 500 t) := by
  obtain ⟨h, X, G⟩ := T.at_
  have c := T.says
  exact He.int_ok X G (c.fact 63 rfl)
theorem Txt.in_MOST_GRACE (T : Txt K mg) : ∃ t, mg "MOST_GRACE" = some (.int 366 t) := by
  obtain ⟨h, X, G⟩ := T.at_
  have c := T.says
  exact He.int_ok X G (c.fact 64 rfl)
theorem Txt.in_MOST_NUMBER (T : Txt K mg) : ∃ t, mg "MOST_NUMBER" = some (.int 1000000000 t) := by
  obtain ⟨h, X, G⟩ := T.at_
  have c := T.says
  exact He.int_ok X G (c.fact 65 rfl)
theorem Txt.in_MOST_DEEDS (T : Txt K mg) : ∃ t, mg "MOST_DEEDS" = some (.int 500 t) := by
  obtain ⟨h, X, G⟩ := T.at_
  have c := T.says
  exact He.int_ok X G (c.fact 66 rfl)
theorem Txt.cl_Count (T : Txt K mg) : Cls K (He.ga K "Count") := by
  have c := T.says
  exact He.cls_ok (c.fact 67 rfl)
theorem Txt.cl_Bank (T : Txt K mg) : Cls K (He.ga K "Bank") := by
  have c := T.says
  exact He.cls_ok (c.fact 68 rfl)
theorem Txt.cl_Thirty (T : Txt K mg) : Cls K (He.ga K "Thirty") := by
  have c := T.says
  exact He.cls_ok (c.fact 69 rfl)
theorem Txt.cl_Exact (T : Txt K mg) : Cls K (He.ga K "Exact") := by
  have c := T.says
  exact He.cls_ok (c.fact 70 rfl)
theorem Txt.cl_Out (T : Txt K mg) : Cls K (He.ga K "Out") := by
  have c := T.says
  exact He.cls_ok (c.fact 71 rfl)
theorem Txt.cl_Fee (T : Txt K mg) : Cls K (He.ga K "Fee") := by
  have c := T.says
  exact He.cls_ok (c.fact 72 rfl)
theorem Txt.cl_Pay (T : Txt K mg) : Cls K (He.ga K "Pay") := by
  have c := T.says
  exact He.cls_ok (c.fact 73 rfl)
theorem Txt.cl_Due (T : Txt K mg) : Cls K (He.ga K "Due") := by
  have c := T.says
  exact He.cls_ok (c.fact 74 rfl)
theorem Txt.cl_Turn (T : Txt K mg) : Cls K (He.ga K "Turn") := by
  have c := T.says
  exact He.cls_ok (c.fact 75 rfl)
theorem Txt.cl_Rate (T : Txt K mg) : Cls K (He.ga K "Rate") := by
  have c := T.says
  exact He.cls_ok (c.fact 76 rfl)
theorem Txt.cl_Late (T : Txt K mg) : Cls K (He.ga K "Late") := by
  have c := T.says
  exact He.cls_ok (c.fact 77 rfl)
theorem Txt.cl_Still (T : Txt K mg) : Cls K (He.ga K "Still") := by
  have c := T.says
  exact He.cls_ok (c.fact 78 rfl)
theorem Txt.cl_Book (T : Txt K mg) : Cls K (He.ga K "Book") := by
  have c := T.says
  exact He.cls_ok (c.fact 79 rfl)
theorem Txt.cl_Roll (T : Txt K mg) : Cls K (He.ga K "Roll") := by
  have c := T.says
  exact He.cls_ok (c.fact 80 rfl)
theorem Txt.na_Out_day (T : Txt K mg) : NoAttr K (He.ga K "Out") "day" := by
  have c := T.says
  exact He.noat_ok (c.fact 81 rfl)
theorem Txt.na_Out_amount (T : Txt K mg) : NoAttr K (He.ga K "Out") "amount" := by
  have c := T.says
  exact He.noat_ok (c.fact 82 rfl)
theorem Txt.na_Fee_day (T : Txt K mg) : NoAttr K (He.ga K "Fee") "day" := by
  have c := T.says
  exact He.noat_ok (c.fact 83 rfl)
theorem Txt.na_Fee_amount (T : Txt K mg) : NoAttr K (He.ga K "Fee") "amount" := by
  have c := T.says
  exact He.noat_ok (c.fact 84 rfl)
theorem Txt.na_Pay_day (T : Txt K mg) : NoAttr K (He.ga K "Pay") "day" := by
  have c := T.says
  exact He.noat_ok (c.fact 85 rfl)
theorem Txt.na_Pay_amount (T : Txt K mg) : NoAttr K (He.ga K "Pay") "amount" := by
  have c := T.says
  exact He.noat_ok (c.fact 86 rfl)
theorem Txt.na_Due_day (T : Txt K mg) : NoAttr K (He.ga K "Due") "day" := by
  have c := T.says
  exact He.noat_ok (c.fact 87 rfl)
theorem Txt.na_Due_amount (T : Txt K mg) : NoAttr K (He.ga K "Due") "amount" := by
  have c := T.says
  exact He.noat_ok (c.fact 88 rfl)
theorem Txt.na_Turn_day (T : Txt K mg) : NoAttr K (He.ga K "Turn") "day" := by
  have c := T.says
  exact He.noat_ok (c.fact 89 rfl)
theorem Txt.na_Rate_day (T : Txt K mg) : NoAttr K (He.ga K "Rate") "day" := by
  have c := T.says
  exact He.noat_ok (c.fact 90 rfl)
theorem Txt.na_Rate_rate (T : Txt K mg) : NoAttr K (He.ga K "Rate") "rate" := by
  have c := T.says
  exact He.noat_ok (c.fact 91 rfl)
theorem Txt.na_Late_day (T : Txt K mg) : NoAttr K (He.ga K "Late") "day" := by
  have c := T.says
  exact He.noat_ok (c.fact 92 rfl)
theorem Txt.na_Late_rate (T : Txt K mg) : NoAttr K (He.ga K "Late") "rate" := by
  have c := T.says
  exact He.noat_ok (c.fact 93 rfl)
theorem Txt.na_Still_day (T : Txt K mg) : NoAttr K (He.ga K "Still") "day" := by
  have c := T.says
  exact He.noat_ok (c.fact 94 rfl)
theorem Txt.na_Still_until (T : Txt K mg) : NoAttr K (He.ga K "Still") "until" := by
  have c := T.says
  exact He.noat_ok (c.fact 95 rfl)
theorem Txt.na_Book_way (T : Txt K mg) : NoAttr K (He.ga K "Book") "way" := by
  have c := T.says
  exact He.noat_ok (c.fact 96 rfl)
theorem Txt.na_Book_patience (T : Txt K mg) : NoAttr K (He.ga K "Book") "patience" := by
  have c := T.says
  exact He.noat_ok (c.fact 97 rfl)
theorem Txt.na_Book_told (T : Txt K mg) : NoAttr K (He.ga K "Book") "told" := by
  have c := T.says
  exact He.noat_ok (c.fact 98 rfl)
theorem Txt.na_Book_spans (T : Txt K mg) : NoAttr K (He.ga K "Book") "spans" := by
  have c := T.says
  exact He.noat_ok (c.fact 99 rfl)
theorem Txt.na_Book_falling (T : Txt K mg) : NoAttr K (He.ga K "Book") "falling" := by
  have c := T.says
  exact He.noat_ok (c.fact 100 rfl)
theorem Txt.na_Book_handed (T : Txt K mg) : NoAttr K (He.ga K "Book") "handed" := by
  have c := T.says
  exact He.noat_ok (c.fact 101 rfl)
theorem Txt.na_Roll_bare (T : Txt K mg) : NoAttr K (He.ga K "Roll") "bare" := by
  have c := T.says
  exact He.noat_ok (c.fact 102 rfl)
theorem Txt.na_Roll_deeds (T : Txt K mg) : NoAttr K (He.ga K "Roll") "deeds" := by
  have c := T.says
  exact He.noat_ok (c.fact 103 rfl)
theorem Txt.me_Count_name (T : Txt K mg) : Meth K (He.ga K "Count") "name" (He.ma K (He.ga K "Count") "name") := by
  have c := T.says
  exact He.meth_ok (c.fact 104 rfl)
theorem Txt.me_Bank_name (T : Txt K mg) : Meth K (He.ga K "Bank") "name" (He.ma K (He.ga K "Bank") "name") := by
  have c := T.says
  exact He.meth_ok (c.fact 105 rfl)
theorem Txt.me_Thirty_name (T : Txt K mg) : Meth K (He.ga K "Thirty") "name" (He.ma K (He.ga K "Thirty") "name") := by
  have c := T.says
  exact He.meth_ok (c.fact 106 rfl)
theorem Txt.me_Exact_name (T : Txt K mg) : Meth K (He.ga K "Exact") "name" (He.ma K (He.ga K "Exact") "name") := by
  have c := T.says
  exact He.meth_ok (c.fact 107 rfl)
theorem Txt.me_Out_word (T : Txt K mg) : Meth K (He.ga K "Out") "word" (He.ma K (He.ga K "Out") "word") := by
  have c := T.says
  exact He.meth_ok (c.fact 108 rfl)
theorem Txt.me_Out_tail (T : Txt K mg) : Meth K (He.ga K "Out") "tail" (He.ma K (He.ga K "Out") "tail") := by
  have c := T.says
  exact He.meth_ok (c.fact 109 rfl)
theorem Txt.me_Out_row (T : Txt K mg) : Meth K (He.ga K "Out") "row" (He.ma K (He.ga K "Out") "row") := by
  have c := T.says
  exact He.meth_ok (c.fact 110 rfl)
theorem Txt.me_Fee_word (T : Txt K mg) : Meth K (He.ga K "Fee") "word" (He.ma K (He.ga K "Fee") "word") := by
  have c := T.says
  exact He.meth_ok (c.fact 111 rfl)
theorem Txt.me_Fee_tail (T : Txt K mg) : Meth K (He.ga K "Fee") "tail" (He.ma K (He.ga K "Fee") "tail") := by
  have c := T.says
  exact He.meth_ok (c.fact 112 rfl)
theorem Txt.me_Fee_row (T : Txt K mg) : Meth K (He.ga K "Fee") "row" (He.ma K (He.ga K "Fee") "row") := by
  have c := T.says
  exact He.meth_ok (c.fact 113 rfl)
theorem Txt.me_Pay_word (T : Txt K mg) : Meth K (He.ga K "Pay") "word" (He.ma K (He.ga K "Pay") "word") := by
  have c := T.says
  exact He.meth_ok (c.fact 114 rfl)
theorem Txt.me_Pay_tail (T : Txt K mg) : Meth K (He.ga K "Pay") "tail" (He.ma K (He.ga K "Pay") "tail") := by
  have c := T.says
  exact He.meth_ok (c.fact 115 rfl)
theorem Txt.me_Pay_row (T : Txt K mg) : Meth K (He.ga K "Pay") "row" (He.ma K (He.ga K "Pay") "row") := by
  have c := T.says
  exact He.meth_ok (c.fact 116 rfl)
theorem Txt.me_Due_word (T : Txt K mg) : Meth K (He.ga K "Due") "word" (He.ma K (He.ga K "Due") "word") := by
  have c := T.says
  exact He.meth_ok (c.fact 117 rfl)
theorem Txt.me_Due_tail (T : Txt K mg) : Meth K (He.ga K "Due") "tail" (He.ma K (He.ga K "Due") "tail") := by
  have c := T.says
  exact He.meth_ok (c.fact 118 rfl)
theorem Txt.me_Due_row (T : Txt K mg) : Meth K (He.ga K "Due") "row" (He.ma K (He.ga K "Due") "row") := by
  have c := T.says
  exact He.meth_ok (c.fact 119 rfl)
theorem Txt.me_Turn_word (T : Txt K mg) : Meth K (He.ga K "Turn") "word" (He.ma K (He.ga K "Turn") "word") := by
  have c := T.says
  exact He.meth_ok (c.fact 120 rfl)
theorem Txt.me_Turn_tail (T : Txt K mg) : Meth K (He.ga K "Turn") "tail" (He.ma K (He.ga K "Turn") "tail") := by
  have c := T.says
  exact He.meth_ok (c.fact 121 rfl)
theorem Txt.me_Turn_row (T : Txt K mg) : Meth K (He.ga K "Turn") "row" (He.ma K (He.ga K "Turn") "row") := by
  have c := T.says
  exact He.meth_ok (c.fact 122 rfl)
theorem Txt.me_Rate_word (T : Txt K mg) : Meth K (He.ga K "Rate") "word" (He.ma K (He.ga K "Rate") "word") := by
  have c := T.says
  exact He.meth_ok (c.fact 123 rfl)
theorem Txt.me_Rate_tail (T : Txt K mg) : Meth K (He.ga K "Rate") "tail" (He.ma K (He.ga K "Rate") "tail") := by
  have c := T.says
  exact He.meth_ok (c.fact 124 rfl)
theorem Txt.me_Rate_row (T : Txt K mg) : Meth K (He.ga K "Rate") "row" (He.ma K (He.ga K "Rate") "row") := by
  have c := T.says
  exact He.meth_ok (c.fact 125 rfl)
theorem Txt.me_Late_word (T : Txt K mg) : Meth K (He.ga K "Late") "word" (He.ma K (He.ga K "Late") "word") := by
  have c := T.says
  exact He.meth_ok (c.fact 126 rfl)
theorem Txt.me_Late_tail (T : Txt K mg) : Meth K (He.ga K "Late") "tail" (He.ma K (He.ga K "Late") "tail") := by
  have c := T.says
  exact He.meth_ok (c.fact 127 rfl)
theorem Txt.me_Late_row (T : Txt K mg) : Meth K (He.ga K "Late") "row" (He.ma K (He.ga K "Late") "row") := by
  have c := T.says
  exact He.meth_ok (c.fact 128 rfl)
theorem Txt.me_Still_word (T : Txt K mg) : Meth K (He.ga K "Still") "word" (He.ma K (He.ga K "Still") "word") := by
  have c := T.says
  exact He.meth_ok (c.fact 129 rfl)
theorem Txt.me_Still_tail (T : Txt K mg) : Meth K (He.ga K "Still") "tail" (He.ma K (He.ga K "Still") "tail") := by
  have c := T.says
  exact He.meth_ok (c.fact 130 rfl)
theorem Txt.me_Still_row (T : Txt K mg) : Meth K (He.ga K "Still") "row" (He.ma K (He.ga K "Still") "row") := by
  have c := T.says
  exact He.meth_ok (c.fact 131 rfl)
theorem Txt.me_Roll_check (T : Txt K mg) : Meth K (He.ga K "Roll") "check" (He.ma K (He.ga K "Roll") "check") := by
  have c := T.says
  exact He.meth_ok (c.fact 132 rfl)
theorem Txt.me_Roll_keep (T : Txt K mg) : Meth K (He.ga K "Roll") "keep" (He.ma K (He.ga K "Roll") "keep") := by
  have c := T.says
  exact He.meth_ok (c.fact 133 rfl)
theorem Txt.me_Roll_put (T : Txt K mg) : Meth K (He.ga K "Roll") "put" (He.ma K (He.ga K "Roll") "put") := by
  have c := T.says
  exact He.meth_ok (c.fact 134 rfl)
theorem Txt.me_Roll_strike (T : Txt K mg) : Meth K (He.ga K "Roll") "strike" (He.ma K (He.ga K "Roll") "strike") := by
  have c := T.says
  exact He.meth_ok (c.fact 135 rfl)
theorem Txt.me_Roll_rows_at (T : Txt K mg) : Meth K (He.ga K "Roll") "rows_at" (He.ma K (He.ga K "Roll") "rows_at") := by
  have c := T.says
  exact He.meth_ok (c.fact 136 rfl)
theorem Txt.me_Roll_standing (T : Txt K mg) : Meth K (He.ga K "Roll") "standing" (He.ma K (He.ga K "Roll") "standing") := by
  have c := T.says
  exact He.meth_ok (c.fact 137 rfl)
theorem Txt.me_Roll_history (T : Txt K mg) : Meth K (He.ga K "Roll") "history" (He.ma K (He.ga K "Roll") "history") := by
  have c := T.says
  exact He.meth_ok (c.fact 138 rfl)
theorem Txt.me_Roll_knowns (T : Txt K mg) : Meth K (He.ga K "Roll") "knowns" (He.ma K (He.ga K "Roll") "knowns") := by
  have c := T.says
  exact He.meth_ok (c.fact 139 rfl)
theorem Txt.mk_Out (T : Txt K mg) : Mk K (He.ga K "Out") (He.ma K (He.ga K "Out") "__init__") := by
  have c := T.says
  exact He.mkr_ok (c.fact 140 rfl)
theorem Txt.mk_Fee (T : Txt K mg) : Mk K (He.ga K "Fee") (He.ma K (He.ga K "Fee") "__init__") := by
  have c := T.says
  exact He.mkr_ok (c.fact 141 rfl)
theorem Txt.mk_Pay (T : Txt K mg) : Mk K (He.ga K "Pay") (He.ma K (He.ga K "Pay") "__init__") := by
  have c := T.says
  exact He.mkr_ok (c.fact 142 rfl)
theorem Txt.mk_Due (T : Txt K mg) : Mk K (He.ga K "Due") (He.ma K (He.ga K "Due") "__init__") := by
  have c := T.says
  exact He.mkr_ok (c.fact 143 rfl)
theorem Txt.mk_Turn (T : Txt K mg) : Mk K (He.ga K "Turn") (He.ma K (He.ga K "Turn") "__init__") := by
  have c := T.says
  exact He.mkr_ok (c.fact 144 rfl)
theorem Txt.mk_Rate (T : Txt K mg) : Mk K (He.ga K "Rate") (He.ma K (He.ga K "Rate") "__init__") := by
  have c := T.says
  exact He.mkr_ok (c.fact 145 rfl)
theorem Txt.mk_Late (T : Txt K mg) : Mk K (He.ga K "Late") (He.ma K (He.ga K "Late") "__init__") := by
  have c := T.says
  exact He.mkr_ok (c.fact 146 rfl)
theorem Txt.mk_Still (T : Txt K mg) : Mk K (He.ga K "Still") (He.ma K (He.ga K "Still") "__init__") := by
  have c := T.says
  exact He.mkr_ok (c.fact 147 rfl)
theorem Txt.mk_Book (T : Txt K mg) : Mk K (He.ga K "Book") (He.ma K (He.ga K "Book") "__init__") := by
  have c := T.says
  exact He.mkr_ok (c.fact 148 rfl)
theorem Txt.mk_Roll (T : Txt K mg) : Mk K (He.ga K "Roll") (He.ma K (He.ga K "Roll") "__init__") := by
  have c := T.says
  exact He.mkr_ok (c.fact 149 rfl)
theorem Txt.fn_is_whole (T : Txt K mg) : ∃ fd, FnP K "is_whole" "is_whole" (top 39) (He.ga K "is_whole") fd := T.says.def_ 0 (d := dd0) rfl
theorem Txt.fn_is_day (T : Txt K mg) : ∃ fd, FnP K "is_day" "is_day" (top 40) (He.ga K "is_day") fd := T.says.def_ 1 (d := dd1) rfl
theorem Txt.fn_count_named (T : Txt K mg) : ∃ fd, FnP K "count_named" "count_named" (top 53) (He.ga K "count_named") fd := T.says.def_ 2 (d := dd2) rfl
theorem Txt.fn_is_between (T : Txt K mg) : ∃ fd, FnP K "is_between" "is_between" (top 69) (He.ga K "is_between") fd := T.says.def_ 3 (d := dd3) rfl
theorem Txt.fn_is_tail (T : Txt K mg) : ∃ fd, FnP K "is_tail" "is_tail" (top 70) (He.ga K "is_tail") fd := T.says.def_ 4 (d := dd4) rfl
theorem Txt.fn_size_of (T : Txt K mg) : ∃ fd, FnP K "size_of" "size_of" (top 71) (He.ga K "size_of") fd := T.says.def_ 5 (d := dd5) rfl
theorem Txt.fn_made_of (T : Txt K mg) : ∃ fd, FnP K "made_of" "made_of" (top 72) (He.ga K "made_of") fd := T.says.def_ 6 (d := dd6) rfl
theorem Txt.fn_entry_of (T : Txt K mg) : ∃ fd, FnP K "entry_of" "entry_of" (top 73) (He.ga K "entry_of") fd := T.says.def_ 7 (d := dd7) rfl
theorem Txt.fn_sum_by (T : Txt K mg) : ∃ fd, FnP K "sum_by" "sum_by" (top 74) (He.ga K "sum_by") fd := T.says.def_ 8 (d := dd8) rfl
theorem Txt.fn_told_as (T : Txt K mg) : ∃ fd, FnP K "told_as" "told_as" (top 79) (He.ga K "told_as") fd := T.says.def_ 9 (d := dd9) rfl
theorem Txt.fn_dues_of (T : Txt K mg) : ∃ fd, FnP K "dues_of" "dues_of" (top 80) (He.ga K "dues_of") fd := T.says.def_ 10 (d := dd10) rfl
theorem Txt.fn_joined (T : Txt K mg) : ∃ fd, FnP K "joined" "joined" (top 10) (He.ga K "joined") fd := T.says.def_ 11 (d := dd11) rfl
theorem Txt.fn_law_draw (T : Txt K mg) : ∃ fd, FnP K "_law_draw" "_law_draw" (top 87) (He.ga K "_law_draw") fd := T.says.def_ 12 (d := dd12) rfl
theorem Txt.fn_law_cell (T : Txt K mg) : ∃ fd, FnP K "_law_cell" "_law_cell" (top 88) (He.ga K "_law_cell") fd := T.says.def_ 13 (d := dd13) rfl
theorem Txt.fn_law_draws (T : Txt K mg) : ∃ fd, FnP K "_law_draws" "_law_draws" (top 89) (He.ga K "_law_draws") fd := T.says.def_ 14 (d := dd14) rfl
theorem Txt.fn_law_pick (T : Txt K mg) : ∃ fd, FnP K "_law_pick" "_law_pick" (top 90) (He.ga K "_law_pick") fd := T.says.def_ 15 (d := dd15) rfl
theorem Txt.fn_law_whole (T : Txt K mg) : ∃ fd, FnP K "_law_whole" "_law_whole" (top 91) (He.ga K "_law_whole") fd := T.says.def_ 16 (d := dd16) rfl
theorem Txt.fn_law_row (T : Txt K mg) : ∃ fd, FnP K "_law_row" "_law_row" (top 92) (He.ga K "_law_row") fd := T.says.def_ 17 (d := dd17) rfl
theorem Txt.fn_law_made (T : Txt K mg) : ∃ fd, FnP K "_law_made" "_law_made" (top 93) (He.ga K "_law_made") fd := T.says.def_ 18 (d := dd18) rfl
theorem Txt.fn_law_stands (T : Txt K mg) : ∃ fd, FnP K "_law_stands" "_law_stands" (top 94) (He.ga K "_law_stands") fd := T.says.def_ 19 (d := dd19) rfl
theorem Txt.fn_law_base (T : Txt K mg) : ∃ fd, FnP K "_law_base" "_law_base" (top 95) (He.ga K "_law_base") fd := T.says.def_ 20 (d := dd20) rfl
theorem Txt.fn_law_deeds (T : Txt K mg) : ∃ fd, FnP K "_law_deeds" "_law_deeds" (top 96) (He.ga K "_law_deeds") fd := T.says.def_ 21 (d := dd21) rfl
theorem Txt.fn_law_rows (T : Txt K mg) : ∃ fd, FnP K "_law_rows" "_law_rows" (top 97) (He.ga K "_law_rows") fd := T.says.def_ 22 (d := dd22) rfl
theorem Txt.fn_law_count (T : Txt K mg) : ∃ fd, FnP K "_law_count" "_law_count" (top 98) (He.ga K "_law_count") fd := T.says.def_ 23 (d := dd23) rfl
theorem Txt.fn_law_grace (T : Txt K mg) : ∃ fd, FnP K "_law_grace" "_law_grace" (top 99) (He.ga K "_law_grace") fd := T.says.def_ 24 (d := dd24) rfl
theorem Txt.fn_law_put (T : Txt K mg) : ∃ fd, FnP K "_law_put" "_law_put" (top 100) (He.ga K "_law_put") fd := T.says.def_ 25 (d := dd25) rfl
theorem Txt.fn_law_past (T : Txt K mg) : ∃ fd, FnP K "_law_past" "_law_past" (top 101) (He.ga K "_law_past") fd := T.says.def_ 26 (d := dd26) rfl
theorem Txt.fn_law_told (T : Txt K mg) : ∃ fd, FnP K "_law_told" "_law_told" (top 102) (He.ga K "_law_told") fd := T.says.def_ 27 (d := dd27) rfl
theorem Txt.fn_law (T : Txt K mg) : ∃ fd, FnP K "law" "law" (top 103) (He.ga K "law") fd := T.says.def_ 28 (d := dd28) rfl
theorem Txt.fn_Count_name (T : Txt K mg) : ∃ fd, FnP K "name" "Count.name" (inClass (top 49) 0) (He.ma K (He.ga K "Count") "name") fd := T.says.def_ 29 (d := dd29) rfl
theorem Txt.fn_Bank_name (T : Txt K mg) : ∃ fd, FnP K "name" "Bank.name" (inClass (top 50) 0) (He.ma K (He.ga K "Bank") "name") fd := T.says.def_ 30 (d := dd30) rfl
theorem Txt.fn_Thirty_name (T : Txt K mg) : ∃ fd, FnP K "name" "Thirty.name" (inClass (top 51) 0) (He.ma K (He.ga K "Thirty") "name") fd := T.says.def_ 31 (d := dd31) rfl
theorem Txt.fn_Exact_name (T : Txt K mg) : ∃ fd, FnP K "name" "Exact.name" (inClass (top 52) 0) (He.ma K (He.ga K "Exact") "name") fd := T.says.def_ 32 (d := dd32) rfl
theorem Txt.fn_Out_word (T : Txt K mg) : ∃ fd, FnP K "word" "Out.word" (inClass (top 60) 0) (He.ma K (He.ga K "Out") "word") fd := T.says.def_ 33 (d := dd33) rfl
theorem Txt.fn_Out_tail (T : Txt K mg) : ∃ fd, FnP K "tail" "Sum.tail" (inClass (top 59) 1) (He.ma K (He.ga K "Out") "tail") fd := T.says.def_ 34 (d := dd34) rfl
theorem Txt.fn_Out_row (T : Txt K mg) : ∃ fd, FnP K "row" "Entry.row" (inClass (top 58) 3) (He.ma K (He.ga K "Out") "row") fd := T.says.def_ 35 (d := dd35) rfl
theorem Txt.fn_Fee_word (T : Txt K mg) : ∃ fd, FnP K "word" "Fee.word" (inClass (top 61) 0) (He.ma K (He.ga K "Fee") "word") fd := T.says.def_ 36 (d := dd36) rfl
theorem Txt.fn_Fee_tail (T : Txt K mg) : ∃ fd, FnP K "tail" "Sum.tail" (inClass (top 59) 1) (He.ma K (He.ga K "Fee") "tail") fd := T.says.def_ 37 (d := dd37) rfl
theorem Txt.fn_Fee_row (T : Txt K mg) : ∃ fd, FnP K "row" "Entry.row" (inClass (top 58) 3) (He.ma K (He.ga K "Fee") "row") fd := T.says.def_ 38 (d := dd38) rfl
theorem Txt.fn_Pay_word (T : Txt K mg) : ∃ fd, FnP K "word" "Pay.word" (inClass (top 62) 0) (He.ma K (He.ga K "Pay") "word") fd := T.says.def_ 39 (d := dd39) rfl
theorem Txt.fn_Pay_tail (T : Txt K mg) : ∃ fd, FnP K "tail" "Sum.tail" (inClass (top 59) 1) (He.ma K (He.ga K "Pay") "tail") fd := T.says.def_ 40 (d := dd40) rfl
theorem Txt.fn_Pay_row (T : Txt K mg) : ∃ fd, FnP K "row" "Entry.row" (inClass (top 58) 3) (He.ma K (He.ga K "Pay") "row") fd := T.says.def_ 41 (d := dd41) rfl
theorem Txt.fn_Due_word (T : Txt K mg) : ∃ fd, FnP K "word" "Due.word" (inClass (top 63) 0) (He.ma K (He.ga K "Due") "word") fd := T.says.def_ 42 (d := dd42) rfl
theorem Txt.fn_Due_tail (T : Txt K mg) : ∃ fd, FnP K "tail" "Sum.tail" (inClass (top 59) 1) (He.ma K (He.ga K "Due") "tail") fd := T.says.def_ 43 (d := dd43) rfl
theorem Txt.fn_Due_row (T : Txt K mg) : ∃ fd, FnP K "row" "Entry.row" (inClass (top 58) 3) (He.ma K (He.ga K "Due") "row") fd := T.says.def_ 44 (d := dd44) rfl
theorem Txt.fn_Turn_word (T : Txt K mg) : ∃ fd, FnP K "word" "Turn.word" (inClass (top 64) 0) (He.ma K (He.ga K "Turn") "word") fd := T.says.def_ 45 (d := dd45) rfl
theorem Txt.fn_Turn_tail (T : Txt K mg) : ∃ fd, FnP K "tail" "Entry.tail" (inClass (top 58) 2) (He.ma K (He.ga K "Turn") "tail") fd := T.says.def_ 46 (d := dd46) rfl
theorem Txt.fn_Turn_row (T : Txt K mg) : ∃ fd, FnP K "row" "Entry.row" (inClass (top 58) 3) (He.ma K (He.ga K "Turn") "row") fd := T.says.def_ 47 (d := dd47) rfl
theorem Txt.fn_Rate_word (T : Txt K mg) : ∃ fd, FnP K "word" "Rate.word" (inClass (top 66) 0) (He.ma K (He.ga K "Rate") "word") fd := T.says.def_ 48 (d := dd48) rfl
theorem Txt.fn_Rate_tail (T : Txt K mg) : ∃ fd, FnP K "tail" "Yearly.tail" (inClass (top 65) 1) (He.ma K (He.ga K "Rate") "tail") fd := T.says.def_ 49 (d := dd49) rfl
theorem Txt.fn_Rate_row (T : Txt K mg) : ∃ fd, FnP K "row" "Entry.row" (inClass (top 58) 3) (He.ma K (He.ga K "Rate") "row") fd := T.says.def_ 50 (d := dd50) rfl
theorem Txt.fn_Late_word (T : Txt K mg) : ∃ fd, FnP K "word" "Late.word" (inClass (top 67) 0) (He.ma K (He.ga K "Late") "word") fd := T.says.def_ 51 (d := dd51) rfl
theorem Txt.fn_Late_tail (T : Txt K mg) : ∃ fd, FnP K "tail" "Yearly.tail" (inClass (top 65) 1) (He.ma K (He.ga K "Late") "tail") fd := T.says.def_ 52 (d := dd52) rfl
theorem Txt.fn_Late_row (T : Txt K mg) : ∃ fd, FnP K "row" "Entry.row" (inClass (top 58) 3) (He.ma K (He.ga K "Late") "row") fd := T.says.def_ 53 (d := dd53) rfl
theorem Txt.fn_Still_word (T : Txt K mg) : ∃ fd, FnP K "word" "Still.word" (inClass (top 68) 1) (He.ma K (He.ga K "Still") "word") fd := T.says.def_ 54 (d := dd54) rfl
theorem Txt.fn_Still_tail (T : Txt K mg) : ∃ fd, FnP K "tail" "Still.tail" (inClass (top 68) 2) (He.ma K (He.ga K "Still") "tail") fd := T.says.def_ 55 (d := dd55) rfl
theorem Txt.fn_Still_row (T : Txt K mg) : ∃ fd, FnP K "row" "Entry.row" (inClass (top 58) 3) (He.ma K (He.ga K "Still") "row") fd := T.says.def_ 56 (d := dd56) rfl
theorem Txt.fn_Roll_check (T : Txt K mg) : ∃ fd, FnP K "check" "Roll.check" (inClass (top 85) 1) (He.ma K (He.ga K "Roll") "check") fd := T.says.def_ 57 (d := dd57) rfl
theorem Txt.fn_Roll_keep (T : Txt K mg) : ∃ fd, FnP K "keep" "Roll.keep" (inClass (top 85) 2) (He.ma K (He.ga K "Roll") "keep") fd := T.says.def_ 58 (d := dd58) rfl
theorem Txt.fn_Roll_put (T : Txt K mg) : ∃ fd, FnP K "put" "Roll.put" (inClass (top 85) 3) (He.ma K (He.ga K "Roll") "put") fd := T.says.def_ 59 (d := dd59) rfl
theorem Txt.fn_Roll_strike (T : Txt K mg) : ∃ fd, FnP K "strike" "Roll.strike" (inClass (top 85) 4) (He.ma K (He.ga K "Roll") "strike") fd := T.says.def_ 60 (d := dd60) rfl
theorem Txt.fn_Roll_rows_at (T : Txt K mg) : ∃ fd, FnP K "rows_at" "Roll.rows_at" (inClass (top 85) 5) (He.ma K (He.ga K "Roll") "rows_at") fd := T.says.def_ 61 (d := dd61) rfl
theorem Txt.fn_Roll_standing (T : Txt K mg) : ∃ fd, FnP K "standing" "Roll.standing" (inClass (top 85) 6) (He.ma K (He.ga K "Roll") "standing") fd := T.says.def_ 62 (d := dd62) rfl
theorem Txt.fn_Roll_history (T : Txt K mg) : ∃ fd, FnP K "history" "Roll.history" (inClass (top 85) 9) (He.ma K (He.ga K "Roll") "history") fd := T.says.def_ 63 (d := dd63) rfl
theorem Txt.fn_Roll_knowns (T : Txt K mg) : ∃ fd, FnP K "knowns" "Roll.knowns" (inClass (top 85) 10) (He.ma K (He.ga K "Roll") "knowns") fd := T.says.def_ 64 (d := dd64) rfl
theorem Txt.fn_Out___init__ (T : Txt K mg) : ∃ fd, FnP K "__init__" "Sum.__init__" (inClass (top 59) 0) (He.ma K (He.ga K "Out") "__init__") fd := T.says.def_ 65 (d := dd65) rfl
theorem Txt.fn_Fee___init__ (T : Txt K mg) : ∃ fd, FnP K "__init__" "Sum.__init__" (inClass (top 59) 0) (He.ma K (He.ga K "Fee") "__init__") fd := T.says.def_ 66 (d := dd66) rfl
theorem Txt.fn_Pay___init__ (T : Txt K mg) : ∃ fd, FnP K "__init__" "Sum.__init__" (inClass (top 59) 0) (He.ma K (He.ga K "Pay") "__init__") fd := T.says.def_ 67 (d := dd67) rfl
theorem Txt.fn_Due___init__ (T : Txt K mg) : ∃ fd, FnP K "__init__" "Sum.__init__" (inClass (top 59) 0) (He.ma K (He.ga K "Due") "__init__") fd := T.says.def_ 68 (d := dd68) rfl
theorem Txt.fn_Turn___init__ (T : Txt K mg) : ∃ fd, FnP K "__init__" "Entry.__init__" (inClass (top 58) 0) (He.ma K (He.ga K "Turn") "__init__") fd := T.says.def_ 69 (d := dd69) rfl
theorem Txt.fn_Rate___init__ (T : Txt K mg) : ∃ fd, FnP K "__init__" "Yearly.__init__" (inClass (top 65) 0) (He.ma K (He.ga K "Rate") "__init__") fd := T.says.def_ 70 (d := dd70) rfl
theorem Txt.fn_Late___init__ (T : Txt K mg) : ∃ fd, FnP K "__init__" "Yearly.__init__" (inClass (top 65) 0) (He.ma K (He.ga K "Late") "__init__") fd := T.says.def_ 71 (d := dd71) rfl
theorem Txt.fn_Still___init__ (T : Txt K mg) : ∃ fd, FnP K "__init__" "Still.__init__" (inClass (top 68) 0) (He.ma K (He.ga K "Still") "__init__") fd := T.says.def_ 72 (d := dd72) rfl
theorem Txt.fn_Book___init__ (T : Txt K mg) : ∃ fd, FnP K "__init__" "Book.__init__" (inClass (top 81) 0) (He.ma K (He.ga K "Book") "__init__") fd := T.says.def_ 73 (d := dd73) rfl
theorem Txt.fn_Roll___init__ (T : Txt K mg) : ∃ fd, FnP K "__init__" "Roll.__init__" (inClass (top 85) 0) (He.ma K (He.ga K "Roll") "__init__") fd := T.says.def_ 74 (d := dd74) rfl
theorem Txt.fn_Entry___init__ (T : Txt K mg) : ∃ fd, FnP K "__init__" "Entry.__init__" (inClass (top 58) 0) (He.ma K (He.ga K "Entry") "__init__") fd := T.says.def_ 75 (d := dd75) rfl
theorem Txt.fn_Sum___init__ (T : Txt K mg) : ∃ fd, FnP K "__init__" "Sum.__init__" (inClass (top 59) 0) (He.ma K (He.ga K "Sum") "__init__") fd := T.says.def_ 76 (d := dd76) rfl
theorem Txt.fn_Yearly___init__ (T : Txt K mg) : ∃ fd, FnP K "__init__" "Yearly.__init__" (inClass (top 65) 0) (He.ma K (He.ga K "Yearly") "__init__") fd := T.says.def_ 77 (d := dd77) rfl
theorem Txt.m0_Count (T : Txt K mg) : made0 K "Count" = true := T.exat 0 (f := fun K => made0 K "Count") rfl
theorem Txt.m0_Bank (T : Txt K mg) : made0 K "Bank" = true := T.exat 1 (f := fun K => made0 K "Bank") rfl
theorem Txt.m0_Thirty (T : Txt K mg) : made0 K "Thirty" = true := T.exat 2 (f := fun K => made0 K "Thirty") rfl
theorem Txt.m0_Exact (T : Txt K mg) : made0 K "Exact" = true := T.exat 3 (f := fun K => made0 K "Exact") rfl
theorem Txt.is_Count (T : Txt K mg) : inst0 K "Count" = true := T.exat 4 (f := fun K => inst0 K "Count") rfl
theorem Txt.is_Bank (T : Txt K mg) : inst0 K "Bank" = true := T.exat 5 (f := fun K => inst0 K "Bank") rfl
theorem Txt.is_Thirty (T : Txt K mg) : inst0 K "Thirty" = true := T.exat 6 (f := fun K => inst0 K "Thirty") rfl
theorem Txt.is_Exact (T : Txt K mg) : inst0 K "Exact" = true := T.exat 7 (f := fun K => inst0 K "Exact") rfl
theorem Txt.is_Out (T : Txt K mg) : inst0 K "Out" = true := T.exat 8 (f := fun K => inst0 K "Out") rfl
theorem Txt.is_Fee (T : Txt K mg) : inst0 K "Fee" = true := T.exat 9 (f := fun K => inst0 K "Fee") rfl
theorem Txt.is_Pay (T : Txt K mg) : inst0 K "Pay" = true := T.exat 10 (f := fun K => inst0 K "Pay") rfl
theorem Txt.is_Due (T : Txt K mg) : inst0 K "Due" = true := T.exat 11 (f := fun K => inst0 K "Due") rfl
theorem Txt.is_Turn (T : Txt K mg) : inst0 K "Turn" = true := T.exat 12 (f := fun K => inst0 K "Turn") rfl
theorem Txt.is_Rate (T : Txt K mg) : inst0 K "Rate" = true := T.exat 13 (f := fun K => inst0 K "Rate") rfl
theorem Txt.is_Late (T : Txt K mg) : inst0 K "Late" = true := T.exat 14 (f := fun K => inst0 K "Late") rfl
theorem Txt.is_Still (T : Txt K mg) : inst0 K "Still" = true := T.exat 15 (f := fun K => inst0 K "Still") rfl
theorem Txt.su_Count_Count (T : Txt K mg) : sub0 K "Count" "Count" = true := T.exat 16 (f := fun K => sub0 K "Count" "Count") rfl
theorem Txt.su_Bank_Count (T : Txt K mg) : sub0 K "Bank" "Count" = true := T.exat 17 (f := fun K => sub0 K "Bank" "Count") rfl
theorem Txt.su_Thirty_Count (T : Txt K mg) : sub0 K "Thirty" "Count" = true := T.exat 18 (f := fun K => sub0 K "Thirty" "Count") rfl
theorem Txt.su_Exact_Count (T : Txt K mg) : sub0 K "Exact" "Count" = true := T.exat 19 (f := fun K => sub0 K "Exact" "Count") rfl
theorem Txt.su_Out_Entry (T : Txt K mg) : sub0 K "Out" "Entry" = true := T.exat 20 (f := fun K => sub0 K "Out" "Entry") rfl
theorem Txt.su_Fee_Entry (T : Txt K mg) : sub0 K "Fee" "Entry" = true := T.exat 21 (f := fun K => sub0 K "Fee" "Entry") rfl
theorem Txt.su_Pay_Entry (T : Txt K mg) : sub0 K "Pay" "Entry" = true := T.exat 22 (f := fun K => sub0 K "Pay" "Entry") rfl
theorem Txt.su_Due_Entry (T : Txt K mg) : sub0 K "Due" "Entry" = true := T.exat 23 (f := fun K => sub0 K "Due" "Entry") rfl
theorem Txt.su_Turn_Entry (T : Txt K mg) : sub0 K "Turn" "Entry" = true := T.exat 24 (f := fun K => sub0 K "Turn" "Entry") rfl
theorem Txt.su_Rate_Entry (T : Txt K mg) : sub0 K "Rate" "Entry" = true := T.exat 25 (f := fun K => sub0 K "Rate" "Entry") rfl
theorem Txt.su_Late_Entry (T : Txt K mg) : sub0 K "Late" "Entry" = true := T.exat 26 (f := fun K => sub0 K "Late" "Entry") rfl
theorem Txt.su_Still_Entry (T : Txt K mg) : sub0 K "Still" "Entry" = true := T.exat 27 (f := fun K => sub0 K "Still" "Entry") rfl
theorem Txt.cf_Entry (T : Txt K mg) : clsf K "Entry" "__init__" = true := T.exat 28 (f := fun K => clsf K "Entry" "__init__") rfl
theorem Txt.cf_Sum (T : Txt K mg) : clsf K "Sum" "__init__" = true := T.exat 29 (f := fun K => clsf K "Sum" "__init__") rfl
theorem Txt.cf_Yearly (T : Txt K mg) : clsf K "Yearly" "__init__" = true := T.exat 30 (f := fun K => clsf K "Yearly" "__init__") rfl
end
end Lr

set_option maxHeartbeats 4000000
/-! Own rules: defs, methods, classes by their names. -/
namespace Lr
open PySem PySem.Spec PyProof.Rows L2
section
variable (P : Program) (w : World) (K : PySem.W.Frag) (mg : Str → Option Value) (base : Heap)
/-- a def of the module that keeps sp -/
structure Cal (k : Nat) (x : Str) (sp : Sp) : Prop where
  ex : ∃ (f : Addr) (fd : FuncData) (ps : List Str), FnOk P w K mg base CX0 k f fd ps sp ∧ mg x = some (.ref f) ∧ PySem.W.keepIn K (.ref f) = true ∧ Binds K fd ps []
/-- a method that an instance of C has -/
structure Met (k : Nat) (C : Addr) (m : Str) (sp : Sp) : Prop where
  ex : ∃ (f : Addr) (fd : FuncData) (ps : List Str), Cls K C ∧ Meth K C m f ∧ FnOk P w K mg base CX0 k f fd ps sp ∧ Binds K fd ps []
/-- a class with an __init__ that keeps sp -/
structure Mak (k : Nat) (x : Str) (C : Addr) (sp : Sp) : Prop where
  ex : ∃ (f : Addr) (fd : FuncData) (ps : List Str), Mk K C f ∧ FnOk P w K mg base CX0 k f fd ps sp ∧ mg x = some (.ref C) ∧ Binds K fd ps []
/-- C.m, read off the class -/
structure Unb (k : Nat) (x : Str) (C : Addr) (m : Str) (sp : Sp) : Prop where
  ex : ∃ (f : Addr) (fd : FuncData) (ps : List Str), mg x = some (.ref C) ∧ PySem.W.readsIn K C (.type "type") = true ∧ PySem.W.specialIn K (.ref C) "__getattribute__" = some (some (.builtin "type.__getattribute__")) ∧
    PySem.W.findCls K (.ref C) (.type "type") m = some (.val (.ref f)) ∧ PySem.W.keepIn K (.ref f) = true ∧ FnOk P w K mg base CX0 k f fd ps sp ∧ Binds K fd ps []
end
section
variable {P : Program} {w : World} {K : PySem.W.Frag} {mg : Str → Option Value} {base : Heap}
/-- a def by its body: nothing leaves it but by its end -/
theorem fnok {x qual : Str} {st : Stmt} {f : Addr} {fd : FuncData} {N ps : List Str} {k : Nat} {sp : Sp} (F : FnP K x qual st f fd) (S : FnScope N ps (defScope st))
    (len : ∀ vs H Q E, sp vs H Q E → vs.length = ps.length)
    (body : ∀ (cdv : Value) (A : Around) (outer : List Env) (s : Shared) (H : Hp) (vs : List V) (Q : VK) (E : XK), Room k (A.deeper (envOfC qual (defScope st) s.heap.objs.size f cdv)) → sp vs H Q E →
      ∃ t, PSs (cxOf CX0 P w K mg base N qual (defScope st) f cdv A outer s H E).nox (defBody st) t ∧
        t { nx := fun _ H' => Q .non H', rt := Q } (start N vs) H) : FnOk P w K mg base CX0 (k + 1) f fd ps sp :=
  F.ok S len fun cdv A outer s H vs Q E hr h => by
    obtain ⟨t, h1, h2⟩ := body cdv A outer s H vs Q E hr h
    exact ⟨t, h1.nox, h2⟩
theorem cal_of {x : Str} {st : Stmt} {f : Addr} {fd : FuncData} {ps : List Str} {k : Nat} {sp : Sp} (F : FnP K x x st f fd) (hm : mg x = some (.ref f)) (ok : FnOk P w K mg base CX0 k f fd ps sp)
    (b : ∀ (kV doc pm : Value) (an : Option Addr) (cdv ct : Value) (us : List Value), us.length = ps.length → bindArgs (PySem.W.fnOf x x (defArgs st) (defBody st) (defScope st) .none kV doc pm an cdv ct) ⟨us, []⟩ = pure (ps.zip us)) :
    Cal P w K mg base k x sp := ⟨f, fd, ps, ok, hm, F.kp, F.bindsN b⟩
theorem met_of {m qual : Str} {C : Addr} {st : Stmt} {f : Addr} {fd : FuncData} {ps : List Str} {k : Nat} {sp : Sp} (c : Cls K C) (me : Meth K C m f) (F : FnP K m qual st f fd) (ok : FnOk P w K mg base CX0 k f fd ps sp)
    (b : ∀ (kV doc pm : Value) (an : Option Addr) (cdv ct : Value) (us : List Value), us.length = ps.length → bindArgs (PySem.W.fnOf m qual (defArgs st) (defBody st) (defScope st) .none kV doc pm an cdv ct) ⟨us, []⟩ = pure (ps.zip us)) :
    Met P w K mg base k C m sp := ⟨f, fd, ps, c, me, ok, F.bindsN b⟩
theorem mak_of {x qual : Str} {C : Addr} {st : Stmt} {f : Addr} {fd : FuncData} {ps : List Str} {k : Nat} {sp : Sp} (M : Mk K C f) (hm : mg x = some (.ref C)) (F : FnP K "__init__" qual st f fd) (ok : FnOk P w K mg base CX0 k f fd ps sp)
    (b : ∀ (kV doc pm : Value) (an : Option Addr) (cdv ct : Value) (us : List Value), us.length = ps.length → bindArgs (PySem.W.fnOf "__init__" qual (defArgs st) (defBody st) (defScope st) .none kV doc pm an cdv ct) ⟨us, []⟩ = pure (ps.zip us)) :
    Mak P w K mg base k x C sp := ⟨f, fd, ps, M, ok, hm, F.bindsN b⟩
theorem unb_of {x m qual : Str} {st : Stmt} {fd : FuncData} {ps : List Str} {k : Nat} {sp : Sp} (hm : mg x = some (.ref (He.ga K x))) (c : clsf K x m = true) (F : FnP K m qual st (He.ma K (He.ga K x) m) fd) (ok : FnOk P w K mg base CX0 k (He.ma K (He.ga K x) m) fd ps sp)
    (b : ∀ (kV doc pm : Value) (an : Option Addr) (cdv ct : Value) (us : List Value), us.length = ps.length → bindArgs (PySem.W.fnOf m qual (defArgs st) (defBody st) (defScope st) .none kV doc pm an cdv ct) ⟨us, []⟩ = pure (ps.zip us)) :
    Unb P w K mg base k x (He.ga K x) m sp := by
  obtain ⟨c1, c2⟩ := He.ba c
  obtain ⟨c3, c4⟩ := He.ba c2
  obtain ⟨c5, c6⟩ := He.ba c4
  refine ⟨_, fd, ps, hm, c1, He.eqO_ok c3, ?_, c6, ok, F.bindsN b⟩
  cases e : PySem.W.findCls K (.ref (He.ga K x)) (.type "type") m with
  | none =>
    rw [e] at c5
    cases c5
  | some z =>
    rw [e] at c5
    cases z with
    | val v => rw [show v = Value.ref (He.ma K (He.ga K x) m) from of_decide_eq_true c5]
    | get _ _ _ _ => cases c5
theorem Met.mono {j k : Nat} {C : Addr} {m : Str} {sp : Sp} (h : Met P w K mg base j C m sp) (l : j ≤ k) : Met P w K mg base k C m sp := by
  obtain ⟨f, fd, ps, c, me, ok, b⟩ := h.ex
  exact ⟨f, fd, ps, c, me, ok.mono l, b⟩
theorem Cal.mono {j k : Nat} {x : Str} {sp : Sp} (h : Cal P w K mg base j x sp) (l : j ≤ k) : Cal P w K mg base k x sp := by
  obtain ⟨f, fd, ps, ok, r⟩ := h.ex
  exact ⟨f, fd, ps, ok.mono l, r⟩
theorem Mak.mono {j k : Nat} {x : Str} {C : Addr} {sp : Sp} (h : Mak P w K mg base j x C sp) (l : j ≤ k) : Mak P w K mg base k x C sp := by
  obtain ⟨f, fd, ps, m, ok, r⟩ := h.ex
  exact ⟨f, fd, ps, m, ok.mono l, r⟩
end
/-- an expression that is never reached -/
abbrev tNo : TE := fun _ _ _ => False
abbrev tCal (sp : Sp) (t : TA) : TE := tCall sp [] E0 t
abbrev tMak (C : Addr) (sp : Sp) (t : TA) : TE := tMake C sp [] E0 t
/-- o.m(..), the class told when the object is known -/
def tMet (P : Program) (w : World) (K : PySem.W.Frag) (mg : Str → Option Value) (base : Heap) (j : Nat) (m : Str) (ta : TE) (t : TA) : TE := fun σ H Q => ta σ H fun x H1 =>
  ∃ (C : Addr) (sp : Sp) (a dx : Addr) (fs : List (Str × V)), x = .ref a ∧ H1 a = some (.ins C dx fs) ∧ Met P w K mg base j C m sp ∧ fs.lookup m = none ∧ t σ H1 fun vs H2 => sp (x :: vs) H2 Q E0
/-- C() of a class without __init__ -/
def tMade0 (C : Addr) : TE := fun _ H Q => ∀ x dx H', Same H H' → H x = none → H' x = some (.ins C dx []) → Q (.ref x) H'
section
variable {X : Cx} {k j : Nat} {C : Addr} {x m : Str} {sp : Sp} {p p1 p2 pos apos : Pos} {e o : Expr} {es : List Expr} {ta : TE} {t : TA}
theorem pe_no : PE X e tNo := ⟨fun _ _ _ _ _ _ h => h.elim⟩
theorem pe_gc {v : V} (h : ∃ u, X.mg x = some u ∧ RelV v u) (hg : Gl X x := by rfl) (hd : (x == ("__debug__" : Str)) = false := by decide) : PE X (.Name x pos) (tC v) := by
  obtain ⟨u, hm, r⟩ := h
  exact pe_glob hg hm r hd
theorem pe_gi {i : Int} (h : ∃ t, X.mg x = some (.int i t)) (hg : Gl X x := by rfl) (hd : (x == ("__debug__" : Str)) = false := by decide) : PE X (.Name x pos) (tC (.int i)) := by
  obtain ⟨t, hm⟩ := h
  exact pe_glob hg hm ⟨t, rfl⟩ hd
theorem pe_c (c : Cal X.prog X.w X.K X.mg X.base k x sp) (hr : Room j X.A) (ha : PA X (e :: es) t) (hk : k ≤ j := by decide) (hg : Gl X x := by rfl)
    (hdb : (x == ("__debug__" : Str)) = false := by decide) (he : starEach (e :: es) X.env = (false, eval e X.env) :: starEach es X.env := by rfl)
    (hpl : (backTo pos (starEach es X.env)).any (·.1) = false := by rfl) : PE X (.Call (.Name x p) (e :: es) [] pos) (tCal sp t) := by
  obtain ⟨f, fd, ps, F, hm, kp, b⟩ := c.ex
  exact pe_call F (hr.mono hk) hg hm kp b .nil pass0 ha hdb he hpl
theorem pe_mk (c : Mak X.prog X.w X.K X.mg X.base k x C sp) (hr : Room j X.A) (ha : PA X (e :: es) t) (hk : k + 1 ≤ j := by decide) (hg : Gl X x := by rfl)
    (hdb : (x == ("__debug__" : Str)) = false := by decide) (he : starEach (e :: es) X.env = (false, eval e X.env) :: starEach es X.env := by rfl)
    (hpl : (backTo pos (starEach es X.env)).any (·.1) = false := by rfl) : PE X (.Call (.Name x p) (e :: es) [] pos) (tMak C sp t) := by
  obtain ⟨f, fd, ps, M, F, hm, b⟩ := c.ex
  exact pe_make M F (hr.mono hk) hg hm b .nil pass0 ha hdb he hpl
theorem pe_mt {pl : Sem Bool} (hr : Room j X.A) (ho : PE X o ta) (ha : PA X (e :: es) t)
    (hst : starEach (e :: es) X.env = (false, eval e X.env) :: starEach es X.env := by rfl) (hpl : (backTo pos (starEach es X.env)).any (·.1) = false := by rfl)
    (hev : eval (.Call (.Attribute o m apos) (e :: es) [] pos) X.env = (do
      let ov ← eval o X.env
      standAt apos.atName
      let (f, first) ← holding [ov] (getMethod ov m pl)
      callWith pos f first (backTo pos (starEach (e :: es) X.env)) (backToKw pos (keywordEach [] X.env))) := by rfl) :
    PE X (.Call (.Attribute o m apos) (e :: es) [] pos) (tMet X.prog X.w X.K X.mg X.base j m ta t) := by
  refine ⟨fun pins s σ H Q I h => PySem.W.methodCall_KW (pl := pl) (thn (ho.run pins s σ H _ I h) fun u s1 h1 => ?_) hev⟩
  obtain ⟨x, H1, I1, rx, C, sp, a, dx, fs, rfl, ea, me, l, q⟩ := h1
  obtain ⟨f, fd, ps, c, hm, F, b⟩ := me.ex
  obtain rfl : u = Value.ref a := rx
  refine getmeth_ok I1 ea c hm l (PySem.W.callWith_K (first := [.ref a]) (h₀ := X.base) I.ok.mod.kin hm.kp (thn (ha.run pos pins s1 σ H1 _ I1 q) fun us s2 h2 => ?_) hst hpl)
  obtain ⟨vs, H2, I2, r, q2⟩ := h2
  exact ⟨I2.kIn, run_fn (us := .ref a :: us) (vs := .ref a :: vs) F hr b .nil pass0 I2 (.cons rfl r) (by rw [List.append_nil]; exact q2)⟩
theorem pe_mt0 {pl : Sem Bool} (hr : Room j X.A) (ho : PE X o ta)
    (hev : eval (.Call (.Attribute o m apos) [] [] pos) X.env = (do
      let ov ← eval o X.env
      standAt apos.atName
      let (f, first) ← holding [ov] (getMethod ov m pl)
      callWith pos f first (backTo pos (starEach [] X.env)) (backToKw pos (keywordEach [] X.env))) := by rfl) :
    PE X (.Call (.Attribute o m apos) [] [] pos) (tMet X.prog X.w X.K X.mg X.base j m ta tNil) := by
  refine ⟨fun pins s σ H Q I h => PySem.W.methodCall_KW (pl := pl) (thn (ho.run pins s σ H _ I h) fun u s1 h1 => ?_) hev⟩
  obtain ⟨x, H1, I1, rx, C, sp, a, dx, fs, rfl, ea, me, l, q⟩ := h1
  obtain ⟨f, fd, ps, c, hm, F, b⟩ := me.ex
  obtain rfl : u = Value.ref a := rx
  exact getmeth_ok I1 ea c hm l (PySem.W.callWith_K0 (first := [.ref a]) I1.kIn hm.kp (run_fn (us := [.ref a]) (vs := [.ref a]) F hr b .nil pass0 I1 (.cons rfl .nil) q))
/-- C.m(self, ..) -/
theorem pe_ub {pl : Sem Bool} (c : Unb X.prog X.w X.K X.mg X.base k x C m sp) (hr : Room j X.A) (ha : PA X (e :: es) t) (hk : k ≤ j := by decide) (hg : Gl X x := by rfl) (hdb : (x == ("__debug__" : Str)) = false := by decide)
    (hst : starEach (e :: es) X.env = (false, eval e X.env) :: starEach es X.env := by rfl) (hpl : (backTo pos (starEach es X.env)).any (·.1) = false := by rfl)
    (hev : eval (.Call (.Attribute (.Name x p) m apos) (e :: es) [] pos) X.env = (do
      let ov ← eval (.Name x p) X.env
      standAt apos.atName
      let (f, first) ← holding [ov] (getMethod ov m pl)
      callWith pos f first (backTo pos (starEach (e :: es) X.env)) (backToKw pos (keywordEach [] X.env))) := by rfl) :
    PE X (.Call (.Attribute (.Name x p) m apos) (e :: es) [] pos) (tCal sp t) := by
  obtain ⟨f, fd, ps, hm, rd, ga, fc, kp, F, b⟩ := c.ex
  refine ⟨fun pins s σ H Q I h => PySem.W.methodCall_KW (pl := pl) (ld_glob I hg hm ?_ hdb) hev⟩
  refine PySem.W.method_cls I.kIn ga (PySem.W.cls_value I.kIn rd fc (handed_of (v := .ref f) rfl) ?_)
  refine PySem.W.callWith_K (first := []) (h₀ := X.base) I.ok.mod.kin kp (thn (ha.run pos pins _ σ H _ (I.tok _) h) fun us s2 h2 => ?_) hst hpl
  obtain ⟨vs, H2, I2, r, q2⟩ := h2
  exact ⟨I2.kIn, run_fn (us := us) (vs := vs) F (hr.mono hk) b .nil pass0 I2 r q2⟩
/-- C() where the class has no __init__ of its own -/
theorem pe_made0 (hm : X.mg x = some (.ref (He.ga X.K x))) (c : made0 X.K x = true) (hg : Gl X x := by rfl) (hdb : (x == ("__debug__" : Str)) = false := by decide) :
    PE X (.Call (.Name x p) [] [] pos) (tMade0 (He.ga X.K x)) := by
  obtain ⟨c1, c2⟩ := He.ba c
  obtain ⟨c3, c4⟩ := He.ba c2
  refine ⟨fun pins s σ H Q I h => wpAny_Call_Name_kw (ld_glob I hg hm (PySem.W.callWith_K0 I.kIn c4 ?_) hdb)⟩
  refine wpAny_call (make_map0 I.kIn c1 (He.eqO_ok c3) (fun self => PySem.W.Looks.of_pure (PySem.W.oi_bind self)) ?_)
  have e2 : ((s.heap.push PySem.W.emptyDict).push (PySem.W.instObj (He.ga X.K x) s.heap.objs.size)).get? (s.heap.objs.size + 1) = some (PySem.W.instObj (He.ga X.K x) s.heap.objs.size) := by
    have z := Heap.get?_push_size (s.heap.push PySem.W.emptyDict) (o := PySem.W.instObj (He.ga X.K x) s.heap.objs.size) rfl
    rwa [Heap.size_push] at z
  have Y := PySem.W.makes_of (M := model X.prog X.w) I.kIn c1
  have t1 : PySem.W.Looks (model X.prog X.w) ((s.heap.push PySem.W.emptyDict).push (PySem.W.instObj (He.ga X.K x) s.heap.objs.size)) (typeOf (.ref (s.heap.objs.size + 1))) (.ref (He.ga X.K x)) := (PySem.W.Looks.ld e2).andThen .now
  have t2 : PySem.W.Looks (model X.prog X.w) ((s.heap.push PySem.W.emptyDict).push (PySem.W.instObj (He.ga X.K x) s.heap.objs.size)) (isInstance (.ref (s.heap.objs.size + 1)) (.type "object")) true :=
    t1.andThen (Y.top.keeps fun b ob q => Heap.get?_push_of_some _ (Heap.get?_push_of_some _ q))
  refine codeAny_call_builtin PySem.W.oi_plain PySem.W.entry_oi (@PySem.W.check_slot (model X.prog X.w) _ _ _ "object.__init__" "object" "__init__" (.ref (s.heap.objs.size + 1)) [] [] _ PySem.W.oi_kind PySem.W.oi_split t2 (PySem.W.oi_args (.ref (s.heap.objs.size + 1))) ?_)
  rw [PySem.W.oi_run]
  have n1 : H (s.heap.objs.size + 1) = none := I.hok.fresh (Nat.le_succ _)
  have n2 : H s.heap.objs.size = none := I.hok.fresh (Nat.le_refl _)
  exact wpAny_pure (And.intro rfl ⟨.ref (s.heap.objs.size + 1), _, Inv.made (C := He.ga X.K x) I, rfl, h _ s.heap.objs.size _ (fun b o e => by rw [upd_ne (ne_of_none e n1), upd_ne (ne_of_none e n2)]; exact e) n1 upd_same⟩)
end
/-! isinstance of the program's own classes -/
section
variable {K : PySem.W.Frag} {mg : Str → Option Value}
theorem tyIns {H : Hp} {a dx : Addr} {fs : List (Str × V)} {x : Str} (cl : Cls K (He.ga K x)) (c : inst0 K x = true) (h : H a = some (.ins (He.ga K x) dx fs)) : TyX K H (.ref a) (.ref (He.ga K x)) := by
  obtain ⟨c1, c2⟩ := He.ba c
  obtain ⟨c3, c4⟩ := He.ba c2
  obtain ⟨c5, c6⟩ := He.ba c4
  exact .base (.ins h cl (He.eqO_ok c1) (He.eqO_ok c3) (of_decide_eq_true c5) (of_decide_eq_true c6))
theorem kitSub {x y : Str} (c : sub0 K x y = true) : PySem.W.kitOne K (.ref (He.ga K x)) (.ref (He.ga K y)) = some true := of_decide_eq_true c
end
end Lr

set_option maxHeartbeats 4000000
/-! The data: rows, deeds, and how they stand in the heap. -/
namespace Lr
open PySem PySem.Spec PyProof.Rows L2
inductive Kd where
  | out | fee | pay | due | turn | rate | late | still
  deriving DecidableEq
def Kd.word : Kd → Str
  | .out => "out" | .fee => "fee" | .pay => "pay" | .due => "due" | .turn => "turn" | .rate => "rate" | .late => "late" | .still => "still"
def Kd.cls : Kd → Str
  | .out => "Out" | .fee => "Fee" | .pay => "Pay" | .due => "Due" | .turn => "Turn" | .rate => "Rate" | .late => "Late" | .still => "Still"
/-- a row: its kind, its day, what else it has (0 for a turn) -/
structure Row where
  kd : Kd
  day : Int
  th : Int
  deriving DecidableEq
def Row.tl (r : Row) : List V := match r.kd with
  | .turn => []
  | _ => [.int r.th]
def Row.vs (r : Row) : List V := .str r.kd.word :: .int r.day :: r.tl
def Row.fl (r : Row) : List (Str × V) := match r.kd with
  | .turn => [("day", .int r.day)]
  | .rate | .late => [("day", .int r.day), ("rate", .int r.th)]
  | .still => [("day", .int r.day), ("until", .int r.th)]
  | _ => [("day", .int r.day), ("amount", .int r.th)]
def thOk : Kd → Int → Int → Prop
  | .turn, _, t => t = 0
  | .fee, _, t => -1000000000000 ≤ t ∧ t ≤ 1000000000000
  | .still, d, t => d + 1 ≤ t ∧ t ≤ 1000000
  | .rate, _, t | .late, _, t => 0 ≤ t ∧ t ≤ 1000000
  | _, _, t => 1 ≤ t ∧ t ≤ 1000000000000
def Row.Ok (r : Row) : Prop := (0 ≤ r.day ∧ r.day ≤ 999999) ∧ thOk r.kd r.day r.th
def Row.data (r : Row) : PyData := .tuple (.str r.kd.word :: .int r.day :: (match r.kd with
  | .turn => []
  | _ => [.int r.th]))
structure Deed where
  at_ : Int
  num : Int
  row : Option Row
/-! ### in the heap -/
/-- all tuples are as they were -/
def Tups (H H' : Hp) : Prop := ∀ b xs, H b = some (.tup xs) → H' b = some (.tup xs)
theorem Tups.refl (H : Hp) : Tups H H := fun _ _ h => h
theorem Tups.trans {H H1 H2 : Hp} (a : Tups H H1) (b : Tups H1 H2) : Tups H H2 := fun c o h => b c o (a c o h)
theorem _root_.L2.Same.tups {H H' : Hp} (h : Same H H') : Tups H H' := fun b xs e => h b _ e
theorem same_upd {H : Hp} {a : Addr} {o : HO} (h : H a = none) : Same H (upd H a o) := fun b u e => by rw [upd_ne (ne_of_none e h)]; exact e
theorem _root_.L2.Same.upd {H H' : Hp} {a : Addr} {o : HO} (h : Same H H') (n : H a = none) : Same H (L2.upd H' a o) := fun b u e => by rw [upd_ne (ne_of_none e n)]; exact h b u e
/-- a new object, told by what holds behind it -/
theorem absN {H : Hp} {Q : VK} {o : HO} (h : ∀ p H', Same H H' → H p = none → H' p = some o → Q (.ref p) H') : ∀ p, H p = none → Q (.ref p) (L2.upd H p o) := fun p n => h p _ (same_upd n) n upd_same
theorem upd_abs (H : Hp) (p : Addr) (o : HO) (n : H p = none) : ∃ G, L2.upd H p o = G ∧ Same H G ∧ G p = some o := ⟨_, rfl, same_upd n, upd_same⟩
/-- all but what stands at l -/
def But (l : Addr) (H H' : Hp) : Prop := ∀ b o, H b = some o → b ≠ l → H' b = some o
theorem But.refl (l : Addr) (H : Hp) : But l H H := fun _ _ h _ => h
theorem But.same {l : Addr} {H H1 H2 : Hp} (a : But l H H1) (s : Same H1 H2) : But l H H2 := fun b o e n => s b o (a b o e n)
theorem _root_.L2.Same.but {l : Addr} {H H1 H2 : Hp} (s : Same H H1) (a : But l H1 H2) : But l H H2 := fun b o e n => a b o (s b o e) n
theorem But.trans {l : Addr} {H H1 H2 : Hp} (a : But l H H1) (b : But l H1 H2) : But l H H2 := fun c o e n => b c o (a c o e n) n
theorem But.of {l : Addr} {H H1 : Hp} {o : HO} (s : Same H H1) : But l H (L2.upd H1 l o) := fun b u e n => by rw [upd_ne n]; exact s b u e
theorem set_abs (H : Hp) (p : Addr) (o : HO) : ∃ G, L2.upd H p o = G ∧ But p H G ∧ G p = some o := ⟨_, rfl, fun b u e n => by rw [upd_ne n]; exact e, upd_same⟩
theorem But.tupsD {l : Addr} {H H' : Hp} {kvs : List (L2.Key × V)} (a : But l H H') (h : H l = some (.dK kvs)) : Tups H H' := fun b ys e => a b _ e (ne_of e h (by intro z; cases z))
theorem But.upd {l : Addr} {H H' : Hp} {o : HO} (a : But l H H') : But l H (L2.upd H' l o) := fun b u e n => by rw [upd_ne n]; exact a b u e n
theorem But.tups {l : Addr} {H H' : Hp} {xs : List V} (a : But l H H') (h : H l = some (.lst xs)) : Tups H H' := fun b ys e => a b _ e (ne_of e h (by intro z; cases z))
def RowAt (H : Hp) (v : V) (r : Row) : Prop := ∃ a, v = .ref a ∧ H a = some (.tup r.vs)
theorem RowAt.keep {H H' : Hp} {v : V} {r : Row} (h : RowAt H v r) (t : Tups H H') : RowAt H' v r := let ⟨a, e, q⟩ := h; ⟨a, e, t _ _ q⟩
/-- a row or None -/
def ORow (H : Hp) (v : V) : Option Row → Prop
  | none => v = .non
  | some r => RowAt H v r
theorem ORow.keep {H H' : Hp} {v : V} : ∀ {r : Option Row}, ORow H v r → Tups H H' → ORow H' v r
  | none, h, _ => h
  | some _, h, t => RowAt.keep h t
def EntAt (K : PySem.W.Frag) (H : Hp) (v : V) (r : Row) : Prop := ∃ a dx, v = .ref a ∧ H a = some (.ins (He.ga K r.kd.cls) dx r.fl)
theorem EntAt.keep {K : PySem.W.Frag} {H H' : Hp} {v : V} {r : Row} (h : EntAt K H v r) (s : Same H H') : EntAt K H' v r := let ⟨a, dx, e, q⟩ := h; ⟨a, dx, e, s _ _ q⟩
theorem EntAt.but {K : PySem.W.Frag} {H H' : Hp} {v : V} {r : Row} {l : Addr} {xs : List V} (h : EntAt K H v r) (s : But l H H') (hl : H l = some (.lst xs)) : EntAt K H' v r :=
  let ⟨a, dx, e, q⟩ := h; ⟨a, dx, e, s _ _ q (ne_of q hl (by intro z; cases z))⟩
/-- a deed as a tuple (known, number, row) -/
def DeedAt (H : Hp) (v : V) (d : Deed) : Prop := ∃ a rv, v = .ref a ∧ H a = some (.tup [.int d.at_, .int d.num, rv]) ∧ ORow H rv d.row
theorem DeedAt.keep {H H' : Hp} {v : V} {d : Deed} (h : DeedAt H v d) (t : Tups H H') : DeedAt H' v d := let ⟨a, rv, e, q, o⟩ := h; ⟨a, rv, e, t _ _ q, o.keep t⟩
abbrev DeedsAt (H : Hp) (xs : List V) (ds : List Deed) : Prop := Paired (DeedAt H) xs ds
theorem DeedsAt.keep {H H' : Hp} : ∀ {xs : List V} {ds : List Deed}, DeedsAt H xs ds → Tups H H' → DeedsAt H' xs ds
  | _, _, .nil, _ => .nil
  | _, _, .cons a r, t => .cons (a.keep t) (DeedsAt.keep r t)
theorem paired_at {α β : Type} {F : α → β → Prop} : ∀ {l : List α} {m : List β} {i : Nat} {x : α}, Paired F l m → l[i]? = some x → ∃ y, m[i]? = some y ∧ F x y
  | _, _, _, _, .nil, h => by simp at h
  | _, _, 0, _, .cons a _, h => by
    have e := Option.some.inj h
    subst e
    exact ⟨_, rfl, a⟩
  | _, _, i + 1, x, .cons _ r, h => by
    obtain ⟨y, h1, h2⟩ := paired_at (i := i) (x := x) r (by simpa using h)
    exact ⟨y, by simpa using h1, h2⟩
theorem paired_len {α β : Type} {F : α → β → Prop} : ∀ {l : List α} {m : List β}, Paired F l m → l.length = m.length
  | _, _, .nil => rfl
  | _, _, .cons _ r => by rw [List.length_cons, List.length_cons, paired_len r]
theorem paired_app {α β : Type} {F : α → β → Prop} : ∀ {l l' : List α} {m m' : List β}, Paired F l m → Paired F l' m' → Paired F (l ++ l') (m ++ m')
  | _, _, _, _, .nil, s => s
  | _, _, _, _, .cons a r, s => .cons a (paired_app r s)
theorem paired_snoc {α β : Type} {F : α → β → Prop} {l : List α} {m : List β} {x : α} {y : β} (h : Paired F l m) (e : F x y) : Paired F (l ++ [x]) (m ++ [y]) := paired_app h (.cons e .nil)
theorem paired_take {α β : Type} {F : α → β → Prop} : ∀ {l : List α} {m : List β} (n : Nat), Paired F l m → Paired F (l.take n) (m.take n)
  | _, _, 0, _ => .nil
  | _, _, _ + 1, .nil => .nil
  | _, _, n + 1, .cons a r => .cons a (paired_take n r)
theorem paired_imp {α β : Type} {F G : α → β → Prop} (h : ∀ x y, F x y → G x y) : ∀ {l : List α} {m : List β}, Paired F l m → Paired G l m
  | _, _, .nil => .nil
  | _, _, .cons a r => .cons (h _ _ a) (paired_imp h r)
theorem take_succ_at {α : Type} {l : List α} {i : Nat} {x : α} (h : l[i]? = some x) : l.take (i + 1) = l.take i ++ [x] := by
  rw [List.take_add_one, h]
  rfl
/-- the roll at p: its deeds stand in the list at l -/
def RollAt (K : PySem.W.Frag) (H : Hp) (p l : Addr) (ds : List Deed) : Prop := ∃ dx b xs, H p = some (.ins (He.ga K "Roll") dx [("bare", b), ("deeds", .ref l)]) ∧ H l = some (.lst xs) ∧ DeedsAt H xs ds
theorem RollAt.keep {K : PySem.W.Frag} {H H' : Hp} {p l : Addr} {ds : List Deed} (h : RollAt K H p l ds) (s : Same H H') : RollAt K H' p l ds :=
  let ⟨dx, b, xs, e, q, r⟩ := h; ⟨dx, b, xs, s _ _ e, s _ _ q, r.keep s.tups⟩
/-- data, as deep == sees it -/
theorem RowAt.dp {K : PySem.W.Frag} {H : Hp} {v : V} {r : Row} (h : RowAt H v r) : Dp K H v r.data := by
  obtain ⟨a, rfl, q⟩ := h
  obtain ⟨k, d, t⟩ := r
  cases k <;> first
    | exact .tup (.inl (.inl q)) (.cons (.str _) (.cons (.int _) (.cons (.int _) .nil)))
    | exact .tup (.inl (.inl q)) (.cons (.str _) (.cons (.int _) .nil))
end Lr

set_option maxHeartbeats 4000000
/-! sorted(d.items()), d a dict with whole numbers as keys. -/
namespace Lr
open PySem PySem.Spec PyProof.Rows L2 Srt
abbrev entK (e : Int × V) : L2.Key × V := (Sum.inl e.1, e.2)
/-- d.items() as a value -/
def rItemsK : V → List V → Hp → VK → Prop := fun x xs H Q => ∃ (a : Addr) (kvs : List (L2.Key × V)), x = .ref a ∧ xs = [] ∧ H a = some (.dK kvs) ∧
  ∀ p, H p = none → Q (.ref p) (upd H p (DX.itemsO p a))
/-- the items in the order of their keys, each in a new pair -/
def rSortIK : List V → Hp → VK → Prop := fun vs H Q => ∃ (p a : Addr) (ks : List (Int × V)), vs = [.ref p] ∧ H p = some (DX.itemsO p a) ∧ H a = some (.dK (ks.map entK)) ∧
  (ks.map (·.1)).Nodup ∧ ∀ (H' : Hp) (l : Addr) (ps : List (Addr × Int × V)), Same H H' → H l = none → (ps.map (·.2)).Perm ks → (ps.map (·.2)).Pairwise (fun e f => e.1 < f.1) →
    H' l = some (.lst (ps.map fun z => V.ref z.1)) → (∀ z ∈ ps, H' z.1 = some (.tup [.int z.2.1, z.2.2])) → Q (.ref l) H'
theorem ent_at {P : Program} {w : World} : ∀ {ks : List (Int × V)} {vs : List (L2.Key × Value)} {l : List DictEntry}, KV (ks.map entK) vs → Pairs (mixKind P w) l vs →
    l.length = ks.length ∧ ∀ (j : Nat) (e : Int × V), ks[j]? = some e → ∃ en t, l[j]? = some en ∧ en.key = Value.int e.1 t ∧ RelV e.2 en.val
  | [], _, _, r, p => by
    cases r
    cases p
    exact ⟨rfl, fun j e h => by simp at h⟩
  | k :: ks, _, _, r, p => by
    cases r with
    | cons r1 r2 =>
      cases p with
      | cons p1 p2 p3 =>
        obtain ⟨h1, h2⟩ := ent_at r2 p3
        refine ⟨by rw [List.length_cons, List.length_cons, h1], fun j e h => ?_⟩
        cases j with
        | zero =>
          have e1 : k = e := Option.some.inj h
          subst e1
          obtain ⟨r3, r4⟩ := r1
          rw [← r3] at p1
          rcases keyIs_shape (show keyIs (Sum.inl k.1) _ = true from p1) with ⟨i, t, z, ez⟩ | ⟨x, t, z, ez⟩
          · cases z
            exact ⟨_, t, rfl, ez, by rw [p2]; exact r4⟩
          · cases z
        | succ j => exact h2 j e h
/-- the key of a pair -/
def kAt (h : Heap) : Value → Int
  | .ref b => (match h.get? b with
    | some ⟨_, _, .seq xs _, _⟩ => (match (xs.toList.head? : Option Value) with
      | some (.int i _) => i
      | _ => 0)
    | _ => 0)
  | _ => 0
theorem swo_k (k : Value → Int) : SrtO.Swo fun v u => decide (k v < k u) := by
  refine ⟨fun x y h => ?_, fun x y z h1 h2 => ?_⟩
  · have a := of_decide_eq_true h
    exact decide_eq_false (by omega)
  · have a := of_decide_eq_false h1
    have b := of_decide_eq_false h2
    exact decide_eq_false (by omega)
/-- a pair of a whole number and something -/
def IsKv (h : Heap) (v : Value) (i : Int) : Prop := ∃ b t u, v = .ref b ∧ h.get? b = some { cls := .type "tuple", data := .seq #[.int i t, u] }
theorem firstK {h : Heap} {k : Value → Int} : ∀ {vs : List Value}, (∀ v ∈ vs, IsKv h v (k v)) → ∃ fs : List Value, PySem.W.KatTups h vs fs ∧ fs.length = vs.length ∧ ∀ f ∈ fs, ∃ x t, f = Value.int x t
  | [], _ => ⟨[], PySem.W.KatTups.nil, rfl, fun _ m => by simp at m⟩
  | v :: vs, hp => by
    obtain ⟨fs, h1, h2, h3⟩ := firstK (vs := vs) fun v' m => hp v' (List.mem_cons_of_mem _ m)
    obtain ⟨b, t, u, e, hb⟩ := hp v List.mem_cons_self
    generalize k v = i at hb
    subst e
    refine ⟨.int i t :: fs, PySem.W.KatTups.cons hb rfl rfl rfl h1, by rw [List.length_cons, List.length_cons, h2], fun f m => ?_⟩
    rcases List.mem_cons.mp m with e | m
    · exact ⟨_, _, e⟩
    · exact h3 f m
section
variable {prog : Program} {w : World} {A : Around} {E : Value → Shared → Prop} {s : Shared}
theorem kv_cmp {vs : List Value} {k : Value → Int} (hp : ∀ v ∈ vs, IsKv s.heap v (k v)) (inj : ∀ v ∈ vs, ∀ u ∈ vs, k v = k u → v = u) :
    SrtO.Cmp prog w A s (tuples' true) (fun p => p.1 ∈ vs) (SrtO.lt2 fun v u => decide (k v < k u)) := by
  intro p q hm hm'
  have h1 := hp _ hm
  have h2 := hp _ hm'
  have h3 := inj _ hm _ hm'
  show wpAny (model prog w) A (keyLt' (tuples' true) p.1 q.1) (fun r s' => s' = s ∧ r = decide (k p.1 < k q.1)) (fun _ _ => False) s
  generalize k p.1 = x at h1 h3 ⊢
  generalize k q.1 = y at h2 h3 ⊢
  obtain ⟨b, t, u, e, hb⟩ := h1
  obtain ⟨b', t', u', e', hb'⟩ := h2
  rw [e, e'] at h3 ⊢
  refine PySem.W.kat_lt hb rfl hb' rfl ?_
  show PySem.W.KatLex prog w A true (decide (2 < 2)) _ [(.int x t, .int y t'), (u, u')] 0 s
  refine PySem.W.kat_cons (SeqAt.EqAt.int_int x t y t' prog w _ _ ?_)
  refine PySem.W.kat_go (fun e1 => ?_) (fun e1 => ?_)
  · have ex : x = y := by simpa using e1
    have eb := h3 ex
    cases eb
    have eu : u = u' := by
      have z := hb.symm.trans hb'
      have z2 : (#[Value.int x t, u] : Array Value) = #[Value.int y t', u'] := by
        injection z with z
        injection z with _ _ z _
        injection z
      have z3 : ([Value.int x t, u] : List Value) = [Value.int y t', u'] := by
        have := congrArg Array.toList z2
        simpa using this
      injection z3 with _ z4
      injection z4
    subst eu
    have e3 : decide (x < y) = false := decide_eq_false (by omega)
    exact PySem.W.kat_yes (PySem.W.kat_cons (SeqAt.EqAt.same u prog w _ _ (PySem.W.kat_yes (PySem.W.kat_nil ⟨rfl, e3.symm⟩))))
  · exact PySem.W.kat_no (oneLt_int ⟨rfl, rfl⟩)
theorem kv_sortable {a : Addr} {vs : List Value} {k : Value → Int} (h0 : 2 ≤ vs.length) (inj : ∀ v ∈ vs, ∀ u ∈ vs, k v = k u → v = u)
    (hp : ∀ h' : Heap, (∀ b o, b ≠ a → s.heap.get? b = some o → h'.get? b = some o) → ∀ v ∈ vs, IsKv h' v (k v)) : SrtO.SortableO prog w A s a vs fun v u => decide (k v < k u) := by
  intro h' keep
  have hp' := hp h' keep
  obtain ⟨fs, h1, h2, h3⟩ := firstK hp'
  refine ⟨tuples' true, fun Q E hq => ?_, kv_cmp hp' inj⟩
  refine PySem.W.kat_kind (T := .type "int") h1 (by omega) (fun f hm => ?_) (by rfl) ?_
  · obtain ⟨x, t, rfl⟩ := h3 f hm
    exact PySem.W.Looks.now
  · rw [show (Value.type "int" != Value.type "tuple") = true by decide +kernel]
    exact hq
end
section
variable {X : Cx}
theorem mt_itemsK : MtR X "dict.items" rItemsK := by
  intro pins s σ H x xs v us Q I rx rxs h
  obtain ⟨a, kvs, rfl, rfl, ha, q⟩ := h
  cases rx
  cases rxs
  obtain ⟨z, hd, vs, rel, o, es, ep, ho, hx, hdat, _⟩ := dk_of I.hok ha
  exact DT.callItems (es := es) (ep := ep) hd ⟨o, ho, hx, hdat⟩ ⟨.ref s.heap.objs.size, upd H s.heap.objs.size (DX.itemsO s.heap.objs.size a),
    I.laid (t' := s.toks) (fun b u e => Heap.get?_push_of_some _ e) (Nat.le_refl _) (DX.itemsO_ok (Heap.get?_push_size _ rfl)), rfl, q _ (I.hok.fresh (Nat.le_refl _))⟩
theorem cr_sortedIK (hc : X.calm = true) : CallR X (.builtin "sorted") rSortIK := by
  intro pins s σ H xs us Q I r h
  obtain ⟨p, a, ks, rfl, hp, ha, nd0, q⟩ := h
  obtain rfl := Vals.ref1 r
  have view : s.heap.IsItemsView p a := (show ObjOk X.prog X.w H s.heap p (DX.itemsO p a) from I.hok p _ hp).1
  obtain ⟨zz, hd, vs0, rel, o, es, ep, ho, hx, hdat, hko, hpr, hn⟩ := dk_of I.hok ha
  obtain ⟨l1, ent⟩ := ent_at rel hpr
  rw [Array.length_toList] at l1
  rw [List.length_map] at zz
  refine DT.sortedI (es := es) (ep := ep) (I.ok.hd hc) view ⟨o, ho, hx, hdat⟩ (by omega) fun h' tk as hk hlt hl hG => ?_
  have lak : as.length = ks.length := by omega
  have nd : as.Nodup := List.Pairwise.imp (fun h => Nat.ne_of_lt h) hG.rise
  have pr : ∀ (j : Nat) (b : Addr), as[j]? = some b → ∃ (e : Int × V) (t : Tok) (u : Value), ks[j]? = some e ∧ RelV e.2 u ∧ h'.get? b = some { cls := .type "tuple", data := .seq #[Value.int e.1 t, u] } := by
    intro j b hj
    obtain ⟨en, he, hg⟩ := hG.pairs j b hj
    have hlt2 : j < ks.length := by rw [← lak]; exact (List.getElem?_eq_some_iff.mp hj).1
    obtain ⟨en', t, e1, e2, e3⟩ := ent j ks[j] (List.getElem?_eq_getElem hlt2)
    rw [Array.getElem?_toList] at e1
    have ee : en' = en := Option.some.inj (e1.symm.trans he)
    subst ee
    exact ⟨ks[j], t, en'.val, List.getElem?_eq_getElem hlt2, e3, by rw [hg, e2]⟩
  have kx : ∀ (j : Nat) (b : Addr) (e : Int × V), as[j]? = some b → ks[j]? = some e → kAt h' (.ref b) = e.1 := by
    intro j b e hj he
    obtain ⟨e', t, u, he', _, hg⟩ := pr j b hj
    have ee : e' = e := Option.some.inj (he'.symm.trans he)
    subst ee
    show (match h'.get? b with
      | some ⟨_, _, .seq xs _, _⟩ => (match (xs.toList.head? : Option Value) with
        | some (.int i _) => i
        | _ => 0)
      | _ => 0) = e'.1
    rw [hg]
    rfl
  have at_ : ∀ v ∈ as.map Value.ref, ∃ (j : Nat) (b : Addr) (e : Int × V), v = .ref b ∧ as[j]? = some b ∧ ks[j]? = some e := by
    intro v hv
    obtain ⟨b, hb, rfl⟩ := List.mem_map.mp hv
    obtain ⟨j, hj⟩ := List.mem_iff_getElem?.mp hb
    obtain ⟨e, _, _, he, _⟩ := pr j b hj
    exact ⟨j, b, e, rfl, hj, he⟩
  have inj : ∀ v ∈ as.map Value.ref, ∀ u ∈ as.map Value.ref, kAt h' v = kAt h' u → v = u := by
    intro v hv u hu e0
    obtain ⟨j, b, e, rfl, hj, he⟩ := at_ v hv
    obtain ⟨i, c, f, rfl, hi, hf⟩ := at_ u hu
    rw [kx j b e hj he, kx i c f hi hf] at e0
    have a1 : (ks.map (·.1))[j]? = some e.1 := by rw [List.getElem?_map, he]; rfl
    have a2 : (ks.map (·.1))[i]? = some e.1 := by rw [List.getElem?_map, hf, e0]; rfl
    have ij : j = i := nd_ix nd0 a1 a2
    subst ij
    rw [Option.some.inj (hj.symm.trans hi)]
  have hob : (h'.push { cls := .type "list", data := .seq (as.map Value.ref).toArray }).get? h'.objs.size = some (seqObj "list" (as.map Value.ref).toArray 0) := Heap.get?_push_size _ rfl
  have ne0 : ∀ b ob, h'.get? b = some ob → b ≠ h'.objs.size := fun b ob e => Nat.ne_of_lt (Heap.lt_size e)
  have ka : ∀ b ob, h'.get? b = some ob → (h'.push { cls := .type "list", data := .seq (as.map Value.ref).toArray }).get? b = some ob := fun b ob e => Heap.get?_push_of_some _ e
  generalize h'.push { cls := .type "list", data := .seq (as.map Value.ref).toArray } = h2 at hob ka ⊢
  refine wpAny_call_entry PyProof.Rows.slot_list_sort ⟨_, hob, rfl⟩ PyProof.Rows.entry_list_sort
    (SrtO.list_sort_ord (s := { s with heap := h2, toks := tk }) (swo_k (kAt h')) hob (by rw [List.length_map]; omega) (fun h2' => kv_sortable h2' inj fun h3 keep v hv => ?_) fun out o1 o2 => ⟨.none, rfl, ?_⟩) (PyProof.Rows.args_list_sort _)
  · obtain ⟨j, b, e, rfl, hj, he⟩ := at_ v hv
    obtain ⟨e', t, u, he', _, hg⟩ := pr j b hj
    have ee : e' = e := Option.some.inj (he'.symm.trans he)
    subst ee
    exact ⟨b, t, u, rfl, by rw [kx j b e' hj he]; exact keep _ _ (ne0 _ _ hg) (ka _ _ hg)⟩
  · show EP X pins σ Q (.ref h'.objs.size) { s with heap := sortedHeap h2 h'.objs.size (as.map Value.ref) out.toArray, toks := tk }
    have ez : (as.zip ks).map (fun z : Addr × Int × V => Value.ref z.1) = as.map Value.ref := by
      have m : (as.zip ks).map (·.1) = as := List.map_fst_zip (by rw [lak]; exact Nat.le_refl _)
      rw [show (as.zip ks).map (fun z : Addr × Int × V => Value.ref z.1) = ((as.zip ks).map (·.1)).map Value.ref by rw [List.map_map]; rfl, m]
    obtain ⟨zs, pz, ef⟩ := perm_lift (fun z : Addr × Int × V => Value.ref z.1) o2.perm (as.zip ks) ez
    have idx : ∀ z ∈ zs, ∃ j : Nat, as[j]? = some z.1 ∧ ks[j]? = some z.2 := by
      intro z hz
      obtain ⟨j, hj⟩ := List.mem_iff_getElem?.mp (pz.mem_iff.mp hz)
      exact ⟨j, List.getElem?_zip_eq_some.mp hj⟩
    have hperm : (zs.map (·.2)).Perm ks := by
      have e := pz.map (·.2)
      rw [show (as.zip ks).map (·.2) = ks from List.map_snd_zip (by rw [lak]; exact Nat.le_refl _)] at e
      exact e
    have hnd : ((zs.map (·.2)).map (·.1)).Nodup := (hperm.map (·.1)).nodup_iff.mpr nd0
    have hsort : (zs.map (·.2)).Pairwise (fun e f => e.1 < f.1) := by
      have s1 : (zs.map (·.2)).Pairwise (fun e f => e.1 ≤ f.1) := by
        have o1' : out.Pairwise (fun v u => decide (kAt h' u < kAt h' v) = false) := o1
        rw [← ef, List.pairwise_map] at o1'
        rw [List.pairwise_map]
        refine List.Pairwise.imp_of_mem (fun {x y} hx hy h => ?_) o1'
        obtain ⟨j, j1, j2⟩ := idx x hx
        obtain ⟨i, i1, i2⟩ := idx y hy
        have z := of_decide_eq_false h
        rw [kx j _ _ j1 j2, kx i _ _ i1 i2] at z
        omega
      have s2 : (zs.map (·.2)).Pairwise (fun e f => e.1 ≠ f.1) := List.pairwise_map.mp hnd
      exact (s1.and s2).imp fun {x y} h => by
        obtain ⟨h1, h2⟩ := h
        omega
    have kS : ∀ b ob, h'.get? b = some ob → (sortedHeap h2 h'.objs.size (as.map Value.ref) out.toArray).get? b = some ob := fun b ob e =>
      (PyProof.Rows.sortedHeap_old (ne0 _ _ e) (Heap.lt_size (ka _ _ e))).trans (ka _ _ e)
    obtain ⟨eF, heF⟩ := PyProof.Rows.sortedHeap_at (vs := as.map Value.ref) (out := out.toArray) hob
    have I1 : Inv X pins σ H { s with heap := sortedHeap h2 h'.objs.size (as.map Value.ref) out.toArray, toks := tk } := I.kept (t' := tk) fun b ob e => kS b ob (hk b ob e)
    have hn0 : H h'.objs.size = none := I.hok.fresh (Nat.le_of_lt hlt)
    have hlen : (zs.map fun z => V.ref z.1).length ≤ sizeLine := by
      have e := hperm.length_eq
      rw [List.length_map] at e
      rw [List.length_map]
      omega
    have rv : Vals (zs.map fun z => V.ref z.1) out := by
      rw [← ef]
      exact vals_maps (fun z : Addr × Int × V => V.ref z.1) (fun z => Value.ref z.1) zs fun _ _ => rfl
    have I2 : Inv X pins σ (upd H h'.objs.size (.lst (zs.map fun z => V.ref z.1))) { s with heap := sortedHeap h2 h'.objs.size (as.map Value.ref) out.toArray, toks := tk } :=
      I1.take (h' := sortedHeap h2 h'.objs.size (as.map Value.ref) out.toArray) (t' := tk) (fun b ob _ e => e) (I.fpOk (Nat.le_of_lt hlt) hn0) ⟨hlen, out, eF, rv, heF⟩
    obtain ⟨H2, I3, g, qt⟩ := DX.takeT (P := fun b vs => ∃ (j : Nat) (e : Int × V), as[j]? = some b ∧ ks[j]? = some e ∧ vs = [.int e.1, e.2]) I as _ I2 nd fun b hb => by
      obtain ⟨j, hj⟩ := List.mem_iff_getElem?.mp hb
      obtain ⟨e, t, u, he, ru, hg⟩ := pr j b hj
      have hbl : s.heap.objs.size ≤ b := Nat.le_of_lt (hG.above b hb)
      refine ⟨hbl, ?_, [.int e.1, e.2], ⟨j, e, hj, he, rfl⟩, fun H3 => ⟨(by rw [sizeLine_eq]; show 2 ≤ 16777216; omega), [Value.int e.1 t, u], .cons ⟨t, rfl⟩ (.cons ru .nil), ⟨_, kS _ _ hg, rfl, 0, rfl⟩⟩⟩
      rw [upd_ne (ne0 _ _ hg)]
      exact I.hok.fresh hbl
    refine ⟨.ref h'.objs.size, H2, I3, rfl, q H2 h'.objs.size zs (fun b ob e => g b ob (by rw [upd_ne (ne_of_none e hn0)]; exact e)) hn0 hperm hsort (g _ _ upd_same) fun z hz => ?_⟩
    obtain ⟨i, i1, i2⟩ := idx z hz
    obtain ⟨vs, ⟨j, e, j1, j2, ev⟩, hH⟩ := qt z.1 (List.mem_of_getElem? i1)
    have eij : i = j := nd_ix nd i1 j1
    subst eij
    have ee : e = z.2 := Option.some.inj (j2.symm.trans i2)
    rw [ev, ee] at hH
    exact hH
end
end Lr

set_option maxHeartbeats 4000000
/-! What stands, in plain words. -/
namespace Lr
open PySem PySem.Spec PyProof.Rows L2
/-- what the last deed on the number up to the day put there -/
def lastO (k n : Int) : List Deed → Option (Option Row) := fun ds => ds.foldl (fun acc d => if d.at_ ≤ k ∧ d.num = n then some d.row else acc) none
def cur (ds : List Deed) (k n : Int) : Option Row := (lastO k n ds).join
theorem lastO_snoc (k n : Int) (ds : List Deed) (d : Deed) : lastO k n (ds ++ [d]) = if d.at_ ≤ k ∧ d.num = n then some d.row else lastO k n ds := by
  unfold lastO
  rw [List.foldl_append]
  rfl
theorem lastO_mem {k n : Int} {o : Option Row} : ∀ {ds : List Deed}, lastO k n ds = some o → ∃ d ∈ ds, d.row = o ∧ d.num = n ∧ d.at_ ≤ k := by
  intro ds
  suffices h : ∀ (l : List Deed) (acc : Option (Option Row)), l.foldl (fun acc d => if d.at_ ≤ k ∧ d.num = n then some d.row else acc) acc = some o → acc = some o ∨ ∃ d ∈ l, d.row = o ∧ d.num = n ∧ d.at_ ≤ k by
    intro e
    rcases h ds none e with z | z
    · cases z
    · exact z
  intro l
  induction l with
  | nil => exact fun acc e => .inl e
  | cons a l ih =>
    intro acc e
    rcases ih _ e with z | ⟨d, hd, z⟩
    · have z : (if a.at_ ≤ k ∧ a.num = n then some a.row else acc) = some o := z
      by_cases c : a.at_ ≤ k ∧ a.num = n
      · rw [if_pos c] at z
        exact .inr ⟨a, List.mem_cons_self, Option.some.inj z, c.2, c.1⟩
      · rw [if_neg c] at z
        exact .inl z
    · exact .inr ⟨d, List.mem_cons_of_mem _ hd, z⟩
theorem cur_mem {ds : List Deed} {k n : Int} {r : Row} (h : cur ds k n = some r) : ∃ d ∈ ds, d.row = some r := by
  unfold cur at h
  cases e : lastO k n ds with
  | none => rw [e] at h; cases h
  | some o =>
    rw [e] at h
    obtain ⟨d, hd, z, _⟩ := lastO_mem e
    exact ⟨d, hd, z.trans h⟩
/-- the numbers that stand, rising, each with its row -/
def Stands (ds : List Deed) (k : Int) (L : List (Int × Row)) : Prop := L.Pairwise (fun e f => e.1 < f.1) ∧ ∀ n r, (n, r) ∈ L ↔ cur ds k n = some r
theorem sorted_uniq {α : Type} : ∀ {L M : List (Int × α)}, L.Pairwise (fun e f => e.1 < f.1) → M.Pairwise (fun e f => e.1 < f.1) → (∀ e, e ∈ L ↔ e ∈ M) → L = M
  | [], [], _, _, _ => rfl
  | [], m :: M, _, _, h => absurd ((h m).mpr List.mem_cons_self) (by simp)
  | l :: L, [], _, _, h => absurd ((h l).mp List.mem_cons_self) (by simp)
  | l :: L, m :: M, hl, hm, h => by
    obtain ⟨l1, l2⟩ := List.pairwise_cons.mp hl
    obtain ⟨m1, m2⟩ := List.pairwise_cons.mp hm
    have e : l = m := by
      rcases List.mem_cons.mp ((h l).mp List.mem_cons_self) with e | e
      · exact e
      · rcases List.mem_cons.mp ((h m).mpr List.mem_cons_self) with f | f
        · exact f.symm
        · have a := m1 l e
          have b := l1 m f
          omega
    subst e
    rw [sorted_uniq l2 m2 fun x => ?_]
    constructor
    · intro hx
      rcases List.mem_cons.mp ((h x).mp (List.mem_cons_of_mem _ hx)) with e | e
      · subst e
        have := l1 x hx
        omega
      · exact e
    · intro hx
      rcases List.mem_cons.mp ((h x).mpr (List.mem_cons_of_mem _ hx)) with e | e
      · subst e
        have := m1 x hx
        omega
      · exact e
theorem Stands.uniq {ds : List Deed} {k : Int} {L M : List (Int × Row)} (a : Stands ds k L) (b : Stands ds k M) : L = M :=
  sorted_uniq a.1 b.1 fun e => by
    obtain ⟨n, r⟩ := e
    rw [a.2, b.2]
theorem ints_uniq {L M : List Int} (hl : L.Pairwise (· < ·)) (hm : M.Pairwise (· < ·)) (h : ∀ e, e ∈ L ↔ e ∈ M) : L = M := by
  have z := sorted_uniq (L := L.map fun i => (i, ())) (M := M.map fun i => (i, ())) (List.pairwise_map.mpr hl) (List.pairwise_map.mpr hm) (fun e => by
    obtain ⟨i, u⟩ := e
    simp [h])
  have y := congrArg (List.map (·.1)) z
  rw [List.map_map, List.map_map] at y
  have e : ((fun x : Int × Unit => x.1) ∘ fun i => (i, ())) = id := rfl
  rw [e, List.map_id, List.map_id] at y
  exact y
def hist (n : Int) (ds : List Deed) : List (Int × Option Row) := (ds.filter fun d => d.num == n).map fun d => (d.at_, d.row)
theorem hist_snoc (n : Int) (ds : List Deed) (d : Deed) : hist n (ds ++ [d]) = if d.num = n then hist n ds ++ [(d.at_, d.row)] else hist n ds := by
  unfold hist
  by_cases h : d.num = n
  · rw [if_pos h, List.filter_append, List.filter_cons_of_pos (by simpa using h), List.map_append]
    rfl
  · rw [if_neg h, List.filter_append, List.filter_cons_of_neg (by simpa using h), List.filter_nil, List.append_nil]
theorem hist_len (n : Int) (ds : List Deed) : (hist n ds).length ≤ ds.length := by
  unfold hist
  rw [List.length_map]
  exact List.length_filter_le _ _
theorem hist_mem {n : Int} {ds : List Deed} {e : Int × Option Row} (h : e ∈ hist n ds) : ∃ d ∈ ds, e = (d.at_, d.row) := by
  obtain ⟨d, hd, rfl⟩ := List.mem_map.mp h
  exact ⟨d, (List.mem_filter.mp hd).1, rfl⟩
/-! ### the dict of the last deeds -/
theorem valK (ks : List (Int × V)) (n : Int) : valV (ks.map entK) (Sum.inl n : L2.Key) = valV ks n := by
  induction ks with
  | nil => rfl
  | cons a ks ih =>
    rw [List.map_cons]
    by_cases h : a.1 = n
    · rw [valV_pos (p := a) h, valV_pos (by show (Sum.inl a.1 : L2.Key) = Sum.inl n; rw [h])]
    · rw [valV_neg (p := a) h, valV_neg (by show ¬ (Sum.inl a.1 : L2.Key) = Sum.inl n; intro z; exact h (Sum.inl.inj z)), ih]
theorem putI (ks : List (Int × V)) (n : Int) (v : V) : putK (ks.map entK) (Sum.inl n : L2.Key) v = (putK ks n v).map entK := by
  unfold putK
  have e : ((ks.map entK).any fun kv => decide (kv.1 = (Sum.inl n : L2.Key))) = (ks.any fun kv => decide (kv.1 = n)) := by
    rw [List.any_map]
    congr 1
    funext a
    show decide ((Sum.inl a.1 : L2.Key) = Sum.inl n) = decide (a.1 = n)
    by_cases h : a.1 = n
    · rw [h]; simp
    · rw [decide_eq_false h, decide_eq_false (fun z => h (Sum.inl.inj z))]
  rw [e]
  by_cases h : (ks.any fun kv => decide (kv.1 = n)) = true
  · rw [if_pos h, if_pos h, List.map_map, List.map_map]
    congr 1
    funext a
    show (if (Sum.inl a.1 : L2.Key) = Sum.inl n then ((Sum.inl a.1 : L2.Key), v) else entK a) = entK (if a.1 = n then (a.1, v) else a)
    by_cases h : a.1 = n
    · rw [if_pos h, if_pos (by rw [h])]
    · rw [if_neg h, if_neg (fun z => h (Sum.inl.inj z))]
  · rw [if_neg h, if_neg h, List.map_append]
    rfl
theorem nd_put {κ : Type} [DecidableEq κ] (ks : List (κ × V)) (n : κ) (v : V) (h : (ks.map (·.1)).Nodup) : ((putK ks n v).map (·.1)).Nodup := by
  cases e : valV ks n with
  | none => exact nd_putK v h e
  | some x =>
    unfold putK
    rw [valV_any, e]
    show ((ks.map fun kv => if kv.1 = n then (kv.1, v) else kv).map (·.1)).Nodup
    rw [List.map_map]
    have z : ((fun x : κ × V => x.1) ∘ fun kv : κ × V => if kv.1 = n then (kv.1, v) else kv) = fun x : κ × V => x.1 := by
      funext a
      show (if a.1 = n then (a.1, v) else a).1 = a.1
      split <;> rfl
    rw [z]
    exact h
theorem len_put {κ : Type} [DecidableEq κ] (ks : List (κ × V)) (n : κ) (v : V) : (putK ks n v).length ≤ ks.length + 1 := by
  unfold putK
  split
  · rw [List.length_map]
    omega
  · rw [List.length_append]
    exact Nat.le_refl _
theorem val_mem {ks : List (Int × V)} {n : Int} {v : V} (h : valV ks n = some v) : (n, v) ∈ ks := by
  induction ks with
  | nil => cases h
  | cons a ks ih =>
    by_cases e : a.1 = n
    · rw [valV_pos e] at h
      have := Option.some.inj h
      subst e this
      exact List.mem_cons_self
    · rw [valV_neg e] at h
      exact List.mem_cons_of_mem _ (ih h)
theorem mem_val {ks : List (Int × V)} {n : Int} {v : V} (nd : (ks.map (·.1)).Nodup) (h : (n, v) ∈ ks) : valV ks n = some v := by
  induction ks with
  | nil => cases h
  | cons a ks ih =>
    rw [List.map_cons, List.nodup_cons] at nd
    rcases List.mem_cons.mp h with e | e
    · subst e
      rw [valV_pos rfl]
    · rw [valV_neg (fun z => nd.1 (List.mem_map.mpr ⟨_, e, z.symm⟩)), ih nd.2 e]
/-- dict(pairs) of unlike keys: just these -/
theorem merge_nd : ∀ (more acc : List (L2.Key × V)), ((acc ++ more).map (·.1)).Nodup → mergeK acc more = acc ++ more
  | [], acc, _ => (List.append_nil acc).symm
  | a :: more, acc, h => by
    have e : valV acc a.1 = none := by
      cases e : valV acc a.1 with
      | none => rfl
      | some v =>
        have m := valV_in e
        rw [List.map_append, List.map_cons] at h
        exact absurd rfl (((List.nodup_append.mp h).2.2) _ m _ List.mem_cons_self)
    show mergeK (putK acc a.1 a.2) more = _
    rw [putK_new _ e, merge_nd more (acc ++ [(a.1, a.2)]) (by rw [List.append_assoc]; exact h), List.append_assoc]
    rfl
/-- a value of the dict against the last deed -/
def OO (G : Hp) : Option V → Option (Option Row) → Prop
  | none, none => True
  | some v, some o => ORow G v o
  | _, _ => False
theorem OO.keep {G G' : Hp} (t : Tups G G') : ∀ {a : Option V} {b : Option (Option Row)}, OO G a b → OO G' a b
  | none, none, _ => trivial
  | some _, some _, h => ORow.keep h t
  | none, some _, h => h
  | some _, none, h => h
/-- the dict of the last deeds: ks its items -/
def DI (G : Hp) (ks : List (Int × V)) (ds : List Deed) (k : Int) : Prop := (ks.map (·.1)).Nodup ∧ ∀ n, OO G (valV ks n) (lastO k n ds)
theorem DI.nil {G : Hp} {k : Int} : DI G [] [] k := ⟨List.nodup_nil, fun _ => trivial⟩
theorem DI.keep {G G' : Hp} {ks : List (Int × V)} {ds : List Deed} {k : Int} (h : DI G ks ds k) (t : Tups G G') : DI G' ks ds k := ⟨h.1, fun n => (h.2 n).keep t⟩
theorem DI.skip {G : Hp} {ks : List (Int × V)} {ds : List Deed} {k : Int} {d : Deed} (h : DI G ks ds k) (c : ¬ d.at_ ≤ k) : DI G ks (ds ++ [d]) k :=
  ⟨h.1, fun n => by rw [lastO_snoc, if_neg (fun z => c z.1)]; exact h.2 n⟩
theorem DI.put {G : Hp} {ks : List (Int × V)} {ds : List Deed} {k : Int} {d : Deed} {v : V} (h : DI G ks ds k) (c : d.at_ ≤ k) (hv : ORow G v d.row) : DI G (putK ks d.num v) (ds ++ [d]) k := by
  refine ⟨nd_put ks _ _ h.1, fun n => ?_⟩
  rw [valV_put, lastO_snoc]
  by_cases e : n = d.num
  · subst e
    rw [if_pos rfl, if_pos ⟨c, rfl⟩]
    exact hv
  · rw [if_neg e, if_neg (fun z => e z.2.symm)]
    exact h.2 n
theorem orow_non {G : Hp} {v : V} {o : Option Row} (h : ORow G v o) : v = .non ↔ o = none := by
  cases o with
  | none => exact ⟨fun _ => rfl, fun _ => h⟩
  | some r =>
    obtain ⟨a, rfl, _⟩ := h
    exact ⟨(fun z => nomatch z), (fun z => nomatch z)⟩
theorem paired_ex {α β : Type} {F : α → β → Prop} : ∀ {l : List α}, (∀ a ∈ l, ∃ b, F a b) → ∃ m, Paired F l m
  | [], _ => ⟨[], .nil⟩
  | a :: l, h => by
    obtain ⟨b, hb⟩ := h a List.mem_cons_self
    obtain ⟨m, hm⟩ := paired_ex (l := l) fun x hx => h x (List.mem_cons_of_mem _ hx)
    exact ⟨b :: m, .cons hb hm⟩
theorem paired_mem {α β : Type} {F : α → β → Prop} {l : List α} {m : List β} {a : α} (h : Paired F l m) (ha : a ∈ l) : ∃ b ∈ m, F a b := by
  obtain ⟨i, hi⟩ := List.mem_iff_getElem?.mp ha
  obtain ⟨b, h1, h2⟩ := paired_at h hi
  exact ⟨b, List.mem_of_getElem? h1, h2⟩
theorem paired_flip {α β : Type} {F : α → β → Prop} : ∀ {l : List α} {m : List β}, Paired F l m → Paired (fun b a => F a b) m l
  | _, _, .nil => .nil
  | _, _, .cons a r => .cons a (paired_flip r)
theorem paired_perm {α β : Type} {F : α → β → Prop} {l l' : List α} (p : l'.Perm l) : ∀ {m : List β}, Paired F l m → ∃ m' : List β, m'.Perm m ∧ Paired F l' m' := by
  induction p with
  | nil => exact fun h => ⟨_, List.Perm.refl _, h⟩
  | cons a p ih =>
    intro m h
    cases h with
    | cons x r =>
      obtain ⟨m', q, z⟩ := ih r
      exact ⟨_ :: m', q.cons _, .cons x z⟩
  | swap a b l =>
    intro m h
    cases h with
    | cons x r =>
      cases r with
      | cons y r => exact ⟨_, List.Perm.swap _ _ _, .cons y (.cons x r)⟩
  | trans p q ih1 ih2 =>
    intro m h
    obtain ⟨m1, q1, z1⟩ := ih2 h
    obtain ⟨m2, q2, z2⟩ := ih1 z1
    exact ⟨m2, q2.trans q1, z2⟩
/-- what is left of the dict without None: each number with its row -/
theorem DI.rows {G : Hp} {ks : List (Int × V)} {ds : List Deed} {k : Int} (h : DI G ks ds k) {l : List (Int × V)} (hl : ∀ e, e ∈ l ↔ e ∈ ks ∧ e.2 ≠ .non) :
    ∃ L : List (Int × Row), Paired (fun a e => a.1 = e.1 ∧ RowAt G a.2 e.2) l L ∧ ∀ n r, (n, r) ∈ L ↔ cur ds k n = some r := by
  have z : ∀ a ∈ l, ∃ e : Int × Row, (a.1 = e.1 ∧ RowAt G a.2 e.2) ∧ cur ds k e.1 = some e.2 := by
    intro a ha
    obtain ⟨h1, h2⟩ := (hl a).mp ha
    have v := mem_val (n := a.1) (v := a.2) h.1 h1
    have o := h.2 a.1
    rw [v] at o
    cases e : lastO k a.1 ds with
    | none => rw [e] at o; exact o.elim
    | some y =>
      rw [e] at o
      have o' : ORow G a.2 y := o
      cases y with
      | none => exact absurd o' h2
      | some r => exact ⟨(a.1, r), ⟨rfl, o'⟩, by show (lastO k a.1 ds).join = some r; rw [e]; rfl⟩
  obtain ⟨L, hL⟩ := paired_ex z
  refine ⟨L, paired_imp (fun _ _ q => q.1) hL, fun n r => ⟨fun hm => ?_, fun hc => ?_⟩⟩
  · obtain ⟨a, _, q⟩ := paired_mem (paired_flip hL) hm
    exact q.2
  · have o := h.2 n
    have hc' : (lastO k n ds).join = some r := hc
    cases e : lastO k n ds with
    | none => rw [e] at hc'; cases hc'
    | some y =>
      rw [e] at hc' o
      have ey : y = some r := hc'
      subst ey
      cases ev : valV ks n with
      | none => rw [ev] at o; exact o.elim
      | some v =>
        rw [ev] at o
        have o' : ORow G v (some r) := o
        have hm : (n, v) ∈ l := (hl _).mpr ⟨val_mem ev, fun z => by have := (orow_non o').mp z; cases this⟩
        obtain ⟨b, hb, q⟩ := paired_mem hL hm
        have e1 : n = b.1 := q.1.1
        have q2 := q.2
        rw [← e1, hc] at q2
        have e2 := Option.some.inj q2
        obtain ⟨b1, b2⟩ := b
        subst e1 e2
        exact hb
/-- every row that was put is one that may stand -/
def RowsOk (ds : List Deed) : Prop := ∀ d ∈ ds, ∀ r, d.row = some r → r.Ok
end Lr

set_option maxHeartbeats 4000000
/-! Data for ==. -/
namespace Lr
open PySem PySem.Spec PyProof.Rows L2
/-- laid plainly, to a depth -/
def Sm (n : Nat) (d : PyData) : Prop := d.canLay0 = true ∧ d.depth ≤ n
theorem Sm.all {n : Nat} : ∀ {xs : List PyData}, (∀ x ∈ xs, Sm n x) → PyData.canLayAll0 xs = true ∧ PyData.depthAll xs ≤ n
  | [], _ => ⟨rfl, by simp [PyData.depthAll]⟩
  | x :: xs, h => by
    obtain ⟨a, b⟩ := h x List.mem_cons_self
    obtain ⟨c, d⟩ := Sm.all (xs := xs) fun y hy => h y (List.mem_cons_of_mem _ hy)
    exact ⟨by simp [PyData.canLayAll0, a, c], by simp only [PyData.depthAll]; omega⟩
theorem Sm.lst {n : Nat} {xs : List PyData} (h : ∀ x ∈ xs, Sm n x) : Sm (n + 1) (.list xs) := by
  obtain ⟨a, b⟩ := Sm.all h
  exact ⟨by simp [PyData.canLay0, a], by simp only [PyData.depth]; omega⟩
theorem Sm.tup {n : Nat} {xs : List PyData} (h : ∀ x ∈ xs, Sm n x) : Sm (n + 1) (.tuple xs) := by
  obtain ⟨a, b⟩ := Sm.all h
  exact ⟨by simp [PyData.canLay0, a], by simp only [PyData.depth]; omega⟩
theorem Sm.shaped {n : Nat} {d : PyData} (h : Sm n d) (hn : n ≤ 64) : SeqAt.shaped d = true := by
  unfold SeqAt.shaped
  rw [h.1, decide_eq_true (Nat.le_trans h.2 hn)]
  rfl
theorem Sm.int (i : Int) : Sm 0 (.int i) := ⟨by simp [PyData.canLay0], by simp [PyData.depth]⟩
theorem Sm.non : Sm 0 .none := ⟨by simp [PyData.canLay0], by simp [PyData.depth]⟩
theorem Sm.mono {n m : Nat} {d : PyData} (h : Sm n d) (l : n ≤ m) : Sm m d := ⟨h.1, Nat.le_trans h.2 l⟩
theorem Kd.strOk (k : Kd) : PyData.strOk k.word = true := by cases k <;> decide +kernel
theorem Sm.word (k : Kd) : Sm 0 (.str k.word) := ⟨by simp [PyData.canLay0, k.strOk], by simp [PyData.depth]⟩
theorem Row.sm (r : Row) : Sm 1 r.data := by
  obtain ⟨k, d, t⟩ := r
  refine Sm.tup fun x hx => ?_
  rcases List.mem_cons.mp hx with rfl | hx
  · exact Sm.word k
  · rcases List.mem_cons.mp hx with rfl | hx
    · exact Sm.int d
    · cases k <;> first | (rw [List.mem_singleton.mp hx]; exact Sm.int t) | cases hx
def oData : Option Row → PyData
  | none => .none
  | some r => r.data
theorem oData_sm (o : Option Row) : Sm 1 (oData o) := by
  cases o with
  | none => exact Sm.non.mono (by decide)
  | some r => exact r.sm
theorem ORow.dp {K : PySem.W.Frag} {H : Hp} {v : V} {o : Option Row} (h : ORow H v o) : Dp K H v (oData o) := by
  cases o with
  | none =>
    have e : v = .non := h
    subst e
    exact .non
  | some r => exact RowAt.dp h
def Deed.data (d : Deed) : PyData := .tuple [.int d.at_, .int d.num, oData d.row]
theorem Deed.sm (d : Deed) : Sm 2 d.data := Sm.tup fun x hx => by
  rcases List.mem_cons.mp hx with rfl | hx
  · exact (Sm.int _).mono (by decide)
  · rcases List.mem_cons.mp hx with rfl | hx
    · exact (Sm.int _).mono (by decide)
    · rw [List.mem_singleton.mp hx]
      exact oData_sm _
theorem DeedAt.dp {K : PySem.W.Frag} {H : Hp} {v : V} {d : Deed} (h : DeedAt H v d) : Dp K H v d.data := by
  obtain ⟨a, rv, rfl, ha, ho⟩ := h
  exact .tup (SqT.of ha) (.cons (.int _) (.cons (.int _) (.cons ho.dp .nil)))
theorem dpAll {K : PySem.W.Frag} {H : Hp} {α : Type} {F : V → α → Prop} {f : α → PyData} (h : ∀ v x, F v x → Dp K H v (f x)) : ∀ {xs : List V} {ys : List α}, Paired F xs ys → DpAll K H xs (ys.map f)
  | _, _, .nil => .nil
  | _, _, .cons a r => .cons (h _ _ a) (dpAll h r)
/-- the numbers that stand with their rows; a number's history -/
def sData (e : Int × Row) : PyData := .tuple [.int e.1, e.2.data]
def hData (e : Int × Option Row) : PyData := .tuple [.int e.1, oData e.2]
theorem sData_sm (e : Int × Row) : Sm 2 (sData e) := Sm.tup fun x hx => by
  rcases List.mem_cons.mp hx with rfl | hx
  · exact (Sm.int _).mono (by decide)
  · rw [List.mem_singleton.mp hx]
    exact Row.sm _
theorem hData_sm (e : Int × Option Row) : Sm 2 (hData e) := Sm.tup fun x hx => by
  rcases List.mem_cons.mp hx with rfl | hx
  · exact (Sm.int _).mono (by decide)
  · rw [List.mem_singleton.mp hx]
    exact oData_sm _
theorem map_sm {α : Type} {f : α → PyData} {n : Nat} (h : ∀ x, Sm n (f x)) (l : List α) : Sm (n + 1) (.list (l.map f)) := Sm.lst fun x hx => by
  obtain ⟨y, _, rfl⟩ := List.mem_map.mp hx
  exact h y
theorem eqv_same {n : Nat} {d : PyData} (h : Sm n d) : PyData.eqv d d = true := SeqAt.eqv_refl d h.1
theorem eqv_nil : PyData.eqv (.list []) (.list []) = true := by simp [PyData.eqv, PyData.eqvAll]
theorem eqv_cons (x : PyData) (xs : List PyData) : PyData.eqv (.list (x :: xs)) (.list []) = false := by simp [PyData.eqv, PyData.eqvAll]
theorem dp_nil {K : PySem.W.Frag} {H : Hp} {a : Addr} (h : H a = some (.lst [])) : Dp K H (.ref a) (.list []) := .lst (SqL.of h) .nil
theorem sm_nil : Sm 1 (.list []) := Sm.lst fun x hx => by cases hx
end Lr

set_option maxHeartbeats 4000000
/-! set(l), l a list of whole numbers. -/
namespace L2
open PySem PySem.Spec PyProof.Rows
section
variable {P : Program} {w : World} {A : Around} {E : Value → Shared → Prop} {s : Shared}
/-- the new empty set -/
abbrev lrSt (w : World) : Obj := { cls := .type "set", dict := none, data := .set #[] 0 (.fresh 0 0 (!w.params.followText "set-order")) }
set_option maxHeartbeats 3200000 in
theorem lr_set_list {l : Addr} {items : Array Value} (ns : List Int) {Q : Value → Shared → Prop} (hh : A.handled = none) (hl : s.heap.IsList l items) (hit : IntsAre items.toList ns) (hb : ns.length + 1 < scanBound)
    (h : ∀ (h' : Heap) (tk c : Nat), SetR w h' s.heap.objs.size (fun j => decide (j ∈ ns)) c → c ≤ ns.length → (∀ b o, s.heap.get? b = some o → h'.get? b = some o) → Q (.ref s.heap.objs.size) { s with heap := h', toks := tk }) :
    wpAny (model P w) A (call (.type "set") [.ref l]) Q E s := by
  have hisz : items.size = ns.length := by
    have q := IntsAre.length hit
    rw [Array.length_toList] at q
    exact q
  obtain ⟨c, tl, hmro⟩ := PySem.F.called_set.mro
  have hmade := PySem.F.called_set.made
  have hsub := PySem.F.called_set.sub
  refine wpAny_call (codeAny_of_tree ?_)
  show wpAny _ _ (callAny (.type "set") _) _ _ _
  refine wpAny_pure ⟨Code.quiet_builtin _ (by decide +kernel), codeAny_builtin PySem.F.entry_type_call ?_⟩
  rw [Around.under_plain (weight_type_call_type "set" [.ref l] []) rfl]
  have h1 := PySem.F.called_set.notType
  have h2 := PySem.F.called_set.canCreate
  have hct := PySem.F.typeCall_set_1 (.ref l)
  repeat (any_goals (first | assumption | wp_step))

  refine codeAny_mono (code_set_led1 (.ref l) (E := E) (Q₁ := fun obj s₁ => obj = .ref s.heap.objs.size ∧ s₁ = { s with heap := s.heap.push (lrSt w) }) ⟨rfl, rfl⟩) fun r s₁ hr => ?_
  cases r with
  | error e => exact hr
  | ok fl =>
    cases fl with
    | ret obj =>
      obtain ⟨rfl, rfl⟩ := hr
      have hS : (s.heap.push (lrSt w)).get? s.heap.objs.size = some (lrSt w) := Heap.get?_push_size _ rfl
      have hT : Shared.TypeIs { s with heap := s.heap.push (lrSt w) } (.ref s.heap.objs.size) "set" := ⟨_, hS, rfl⟩
      have hli := PySem.F.called_set.init.lookup
      have hbi := PySem.F.called_set.init.bind (.ref s.heap.objs.size)
      repeat (any_goals (first | assumption | wp_step))

      refine codeAny_mono (codeAny_call_builtin (R := wants (fun r s₂ => r = .none ∧ ∃ h' tk c, s₂ = { s with heap := h', toks := tk } ∧ SetR w h' s.heap.objs.size (fun j => decide (j ∈ ns)) c ∧ c ≤ ns.length ∧
          (∀ b o, s.heap.get? b = some o → h'.get? b = some o)) E) PySem.F.called_set.init.plain PySem.F.entry_set_init (check_set_init_1 hT ?_)) fun r₂ s₂ hr₂ => ?_
      · obtain ⟨ol, hol, hcl, nl, hdl⟩ := hl
        obtain ⟨ocls, odict, odata, oslots⟩ := ol
        simp only at hcl hdl
        subst hcl; subst hdl
        have hol' : (s.heap.push (lrSt w)).get? l = some { cls := .type "list", dict := odict, data := .seq items nl, slots := oslots } := Heap.get?_push_of_some _ hol
        have hsls := PySem.F.sub_list_set
        have hslf := PySem.F.sub_list_frozenset
        have hne : (Value.type "list" == Value.type "dict") = false := by decide
        have hl1 : (s.heap.push (lrSt w)).IsList l items := ⟨_, hol', rfl, nl, rfl⟩
        unfold Builtin.«set.__init__» noKeywords Builtin.Frozenset.updateFrom
        generalize hPI : pyIter = PI
        wp_walk
        subst hPI

        refine wpAny_pyIter_list hl1 ?_
        refine wpAny_bind (wpAny_runValue ?_)
        have hlS : l < s.heap.objs.size := Heap.lt_size hol
        have hh3 : A.in1.in1.in1.handled = none := by simp [hh]
        have hz1 : (s.heap.push (lrSt w)).objs.size = s.heap.objs.size + 1 := Heap.size_push ..
        have hneI : l ≠ (s.heap.push (lrSt w)).objs.size := by
          rw [Heap.size_push]; exact Nat.ne_of_lt (Nat.lt_succ_of_lt hlS)
        have hSf : s.heap.objs.size ∉ [(s.heap.push (lrSt w)).objs.size, l] := by
          rw [Heap.size_push]; simp only [List.mem_cons, List.mem_singleton, List.not_mem_nil, or_false, not_or]
          exact ⟨Nat.ne_of_lt (Nat.lt_succ_self _), Nat.ne_of_gt hlS⟩
        have hval : ∀ (i : Nat) (v : Value), items[i]? = some v → ∃ k t, ns[i]? = some k ∧ v = .int k t := fun i v hv => by
          have hi : i < ns.length := by rw [← hisz]; exact (Array.getElem?_eq_some_iff.mp hv).1
          obtain ⟨t, e⟩ := PyProof.Rows.IntsAre.int_at hit i v (by rw [Array.getElem?_toList]; exact hv)
          refine ⟨ns[i], t, List.getElem?_eq_getElem hi, ?_⟩
          rw [e, List.getD_eq_getElem?_getD, List.getElem?_eq_getElem hi] <;> rfl
        refine set_update_ints ((Walks.list hh3 _ l hneI items).toS) s.heap.objs.size
          hSf ns hisz hb hval (items.size - 0) 0 _ (by omega) (Nat.zero_le _)
          ⟨⟨_, Heap.get?_push_size _ rfl, rfl, rfl⟩, (hl1.push _)⟩ ?hS0 ?hR
        case hS0 =>
          have hget : ((s.heap.push (lrSt w)).push { cls := .type "list_iterator", data := .fields #[.ref l, .int 0 0] }).get? s.heap.objs.size
              = some (lrSt w) := Heap.get?_push_of_some _ hS
          exact ⟨0, Nat.le_refl 0, setR_new_at hget⟩
        case hR =>
          intro s' c' hm hc' hS'
          obtain ⟨h', g2, d', tk', os'⟩ := s'
          have eg : g2 = s.gens := hm.gens
          have ed : d' = s.drawn := hm.drawn
          have eo : os' = s.os := hm.os
          subst eg; subst ed; subst eo
          show wpAny _ _ _ _ _ _
          refine wpAny_pure ?_
          show wpAny _ _ (ret Value.none) _ _ _
          rw [hisz] at hc'
          refine wpAny_pure ⟨rfl, h', tk', c', rfl, hS', hc', fun b o e => ?_⟩
          have hb0 : b < s.heap.objs.size := Heap.lt_size e
          have hb1 : b ≠ s.heap.objs.size := Nat.ne_of_lt hb0
          have hb2 : b ≠ (s.heap.push (lrSt w)).objs.size := by
            rw [Heap.size_push]; exact Nat.ne_of_lt (Nat.lt_succ_of_lt hb0)
          exact hm.heap b o (by simp only [List.mem_cons, List.mem_singleton, List.not_mem_nil, or_false, not_or]; exact ⟨hb1, hb2⟩) (Heap.get?_push_of_some _ (Heap.get?_push_of_some _ e))

      · cases r₂ with
        | error e => exact hr₂
        | ok fl₂ =>
          cases fl₂ with
          | ret r =>
            obtain ⟨rfl, h', tk, c', rfl, hS', hc', hk'⟩ := hr₂
            repeat (any_goals (first | assumption | wp_step))
            exact h _ _ _ hS' hc' hk'
          | _ => exact hr₂.elim
    | _ => exact hr.elim

end
/-- set(l), l a list of whole numbers -/
def rSetOfL (K : PySem.W.Frag) (w : World) : List V → Hp → VK → Prop := fun xs H Q => ∃ (l : Addr) (ns : List Int), xs = [V.ref l] ∧ SqL K H l (ns.map V.int) ∧ ns.length ≤ 1000 ∧
  ∀ (p : Addr) (n : Nat), H p = none → n ≤ ns.length → Q (.ref p) (upd H p (SetO w p (fun j => decide (j ∈ ns)) n))
theorem cr_setL {X : Cx} (hc : X.calm = true) : CallR X (.type "set") (rSetOfL X.K X.w) := by
  intro pins s σ H xs us Q I r h
  obtain ⟨l, ns, rfl, hl, hf, q⟩ := h
  rw [Vals.ref1 r]
  obtain ⟨its, rv, pl, hz⟩ := I.list hl
  have hi := rv.ints
  refine lr_set_list ns (I.ok.hd hc) pl.isList (by simpa using hi) (by unfold scanBound; omega) fun h' tk c R hn k => ?_
  exact ⟨.ref s.heap.objs.size, upd H s.heap.objs.size (SetO X.w s.heap.objs.size (fun j => decide (j ∈ ns)) c), I.laid (t' := tk) k (Nat.le_refl _) (setO_new R), rfl, q _ c (I.hok.fresh (Nat.le_refl _)) hn⟩
end L2

set_option maxHeartbeats 4000000
/-! Defs: whole numbers, days, entries' rows. -/
namespace Lr
open PySem PySem.Spec PyProof.Rows L2
theorem qDec {p : Prop} [Decidable p] {Q : VK} {H : Hp} (h : p) (q : Q (.bl true) H) : Q (.bl (decide p)) H := by
  rw [decide_eq_true h]
  exact q
theorem qDecF {p : Prop} [Decidable p] {Q : VK} {H : Hp} (h : ¬ p) (q : Q (.bl false) H) : Q (.bl (decide p)) H := by
  rw [decide_eq_false h]
  exact q
theorem iteD {p A B : Prop} [Decidable p] (h : p) (a : A) : if decide p = true then A else B := by
  rw [if_pos (decide_eq_true h)]
  exact a
theorem iteDF {p A B : Prop} [Decidable p] (h : ¬ p) (b : B) : if decide p = true then A else B := by
  rw [if_neg (fun z => h (of_decide_eq_true z))]
  exact b
theorem iteN {p A B : Prop} [Decidable p] (h : p) (b : B) : if (!decide p) = true then A else B := by
  rw [decide_eq_true h]
  exact iteF b
theorem iteNF {p A B : Prop} [Decidable p] (h : ¬ p) (a : A) : if (!decide p) = true then A else B := by
  rw [decide_eq_false h]
  exact iteT a
theorem kII {K : PySem.W.Frag} : PySem.W.kitOne K (.type "int") (.type "int") = some true := kit_ty (by decide +kernel)
theorem kIB {K : PySem.W.Frag} : PySem.W.kitOne K (.type "int") (.type "bool") = some false := kit_ty (by decide +kernel)
theorem kTT {K : PySem.W.Frag} : PySem.W.kitOne K (.type "tuple") (.type "tuple") = some true := kit_ty (by decide +kernel)
theorem kLL {K : PySem.W.Frag} : PySem.W.kitOne K (.type "list") (.type "list") = some true := kit_ty (by decide +kernel)
theorem kSS {K : PySem.W.Frag} : PySem.W.kitOne K (.type "str") (.type "str") = some true := kit_ty (by decide +kernel)
section
variable {P : Program} {w : World} {K : PySem.W.Frag} {mg : Str → Option Value} {base : Heap}
def spWhole : Sp := fun vs H Q _ => ∃ i : Int, vs = [.int i] ∧ Q (.bl true) H
abbrev s_is_whole : Stmt := top 39
abbrev nm_is_whole : List Str := ["thing"]
abbrev pm_is_whole : List Str := ["thing"]
theorem sc_is_whole : FnScope nm_is_whole pm_is_whole (defScope s_is_whole) := ⟨rfl, rfl, rfl, by decide +kernel, rfl, by decide +kernel, by decide +kernel⟩
theorem ok_is_whole (T : Txt K mg) {f : Addr} {fd : FuncData} (F : FnP K "is_whole" "is_whole" s_is_whole f fd) : FnOk P w K mg base CX0 1 f fd pm_is_whole spWhole := by
  refine fnok F sc_is_whole (fun vs H Q E h => ?_) (fun cdv A outer s H vs Q E hr h => ?_)
  · obtain ⟨i, rfl, _⟩ := h
    rfl
  · obtain ⟨i, rfl, q⟩ := h
    have hu := hu_of hr
    have nd := sc_is_whole.nd
    refine ⟨_, (pss_one (ps_ret (pe_and (pe_callB call_isi rfl T.no_isinstance boot_isinstance (pa_cons (pv 0) (pa_cons (pe_bltn (v := .ty "int") rfl T.no_int boot_int rfl) pa_nil))) (pe_one (pe_not (pe_callB call_isi rfl T.no_isinstance boot_isinstance (pa_cons (pv 0) (pa_cons (pe_bltn (v := .ty "bool") rfl T.no_bool boot_bool rfl) pa_nil)))))))), ?_⟩
    refine ⟨_, rfl, _, _, _, _, _, rfl, .ty _, .base (.int _), kII, _, rfl, iteT ?_⟩
    exact ⟨_, rfl, _, _, _, _, _, rfl, .ty _, .base (.int _), kIB, _, rfl, q⟩
theorem cal_is_whole (T : Txt K mg) : Cal P w K mg base 1 "is_whole" spWhole := by
  obtain ⟨fd, F⟩ := T.fn_is_whole
  exact cal_of F T.mg_is_whole (ok_is_whole T F) (fun _ _ _ _ _ _ us hl => match us, hl with | [_], _ => rfl)
def spDay : Sp := fun vs H Q _ => ∃ i : Int, vs = [.int i] ∧ (0 ≤ i ∧ i ≤ 999999) ∧ Q (.bl true) H
abbrev s_is_day : Stmt := top 40
abbrev nm_is_day : List Str := ["thing"]
abbrev pm_is_day : List Str := ["thing"]
theorem sc_is_day : FnScope nm_is_day pm_is_day (defScope s_is_day) := ⟨rfl, rfl, rfl, by decide +kernel, rfl, by decide +kernel, by decide +kernel⟩
theorem ok_is_day (T : Txt K mg) {f : Addr} {fd : FuncData} (F : FnP K "is_day" "is_day" s_is_day f fd) : FnOk P w K mg base CX0 2 f fd pm_is_day spDay := by
  refine fnok F sc_is_day (fun vs H Q E h => ?_) (fun cdv A outer s H vs Q E hr h => ?_)
  · obtain ⟨i, rfl, _⟩ := h
    rfl
  · obtain ⟨i, rfl, ⟨h1, h2⟩, q⟩ := h
    have hu := hu_of hr
    have nd := sc_is_day.nd
    have k_is_whole := cal_is_whole (P := P) (w := w) (base := base) T
    refine ⟨_, (pss_one (ps_ret (pe_and (pe_c k_is_whole hr (pa_cons (pv 0) pa_nil)) (pe_one (pe_chain op_le op_le pe_int (pv 0) (pe_gi T.in_LAST_DAY)))))), ?_⟩
    refine ⟨_, rfl, i, rfl, _, rfl, iteT ?_⟩
    refine ⟨_, rfl, _, _, rfl, rfl, _, rfl, ?_⟩
    exact iteD h1 ⟨_, _, rfl, rfl, qDec h2 q⟩
theorem cal_is_day (T : Txt K mg) : Cal P w K mg base 2 "is_day" spDay := by
  obtain ⟨fd, F⟩ := T.fn_is_day
  exact cal_of F T.mg_is_day (ok_is_day T F) (fun _ _ _ _ _ _ us hl => match us, hl with | [_], _ => rfl)
def spBetween : Sp := fun vs H Q _ => ∃ i l m : Int, vs = [.int i, .int l, .int m] ∧ (l ≤ i ∧ i ≤ m) ∧ Q (.bl true) H
abbrev s_is_between : Stmt := top 69
abbrev nm_is_between : List Str := ["thing", "least", "most"]
abbrev pm_is_between : List Str := ["thing", "least", "most"]
theorem sc_is_between : FnScope nm_is_between pm_is_between (defScope s_is_between) := ⟨rfl, rfl, rfl, by decide +kernel, rfl, by decide +kernel, by decide +kernel⟩
theorem ok_is_between (T : Txt K mg) {f : Addr} {fd : FuncData} (F : FnP K "is_between" "is_between" s_is_between f fd) : FnOk P w K mg base CX0 2 f fd pm_is_between spBetween := by
  refine fnok F sc_is_between (fun vs H Q E h => ?_) (fun cdv A outer s H vs Q E hr h => ?_)
  · obtain ⟨i, l, m, rfl, _⟩ := h
    rfl
  · obtain ⟨i, l, m, rfl, ⟨h1, h2⟩, q⟩ := h
    have hu := hu_of hr
    have nd := sc_is_between.nd
    have k_is_whole := cal_is_whole (P := P) (w := w) (base := base) T
    refine ⟨_, (pss_one (ps_ret (pe_and (pe_c k_is_whole hr (pa_cons (pv 0) pa_nil)) (pe_one (pe_chain op_le op_le (pv 1) (pv 0) (pv 2)))))), ?_⟩
    refine ⟨_, rfl, i, rfl, _, rfl, iteT ?_⟩
    refine ⟨_, rfl, _, rfl, _, _, rfl, rfl, _, rfl, ?_⟩
    exact iteD h1 ⟨_, rfl, _, _, rfl, rfl, qDec h2 q⟩
theorem cal_is_between (T : Txt K mg) : Cal P w K mg base 2 "is_between" spBetween := by
  obtain ⟨fd, F⟩ := T.fn_is_between
  exact cal_of F T.mg_is_between (ok_is_between T F) (fun _ _ _ _ _ _ us hl => match us, hl with | [_, _, _], _ => rfl)
theorem word_in {k : Kd} {xs : List V} (h : inV (.str k.word) xs = true) {A B : Prop} (a : A) : ∃ c, V.bl (if false = true then !inV (.str k.word) xs else inV (.str k.word) xs) = .bl c ∧ (if c = true then A else B) :=
  ⟨true, by rw [h] <;> rfl, iteT a⟩
theorem word_out {k : Kd} {xs : List V} (h : inV (.str k.word) xs = false) {A B : Prop} (b : B) : ∃ c, V.bl (if false = true then !inV (.str k.word) xs else inV (.str k.word) xs) = .bl c ∧ (if c = true then A else B) :=
  ⟨false, by rw [h] <;> rfl, iteF b⟩
def spTail : Sp := fun vs H Q _ => ∃ (k : Kd) (d t : Int), vs = [.str k.word, .int d, .int t] ∧ k ≠ .turn ∧ thOk k d t ∧ ∀ H', Same H H' → Q (.bl true) H'
abbrev s_is_tail : Stmt := top 70
abbrev nm_is_tail : List Str := ["word", "day", "thing"]
abbrev pm_is_tail : List Str := ["word", "day", "thing"]
theorem sc_is_tail : FnScope nm_is_tail pm_is_tail (defScope s_is_tail) := ⟨rfl, rfl, rfl, by decide +kernel, rfl, by decide +kernel, by decide +kernel⟩
theorem ok_is_tail (T : Txt K mg) {f : Addr} {fd : FuncData} (F : FnP K "is_tail" "is_tail" s_is_tail f fd) : FnOk P w K mg base CX0 3 f fd pm_is_tail spTail := by
  refine fnok F sc_is_tail (fun vs H Q E h => ?_) (fun cdv A outer s H vs Q E hr h => ?_)
  · obtain ⟨k, d, t, rfl, _⟩ := h
    rfl
  · obtain ⟨k, d, t, rfl, hk, ht, q⟩ := h
    have hu := hu_of hr
    have nd := sc_is_tail.nd
    have k_is_between := cal_is_between (P := P) (w := w) (base := base) T
    refine ⟨_, (pss_cons (ps_if (pt_cmpR op_eq (pv 0) pe_str (nomark _))
        (pss_one (ps_ret (pe_c k_is_between hr (pa_cons (pv 2) (pa_cons (pe_un un_neg (pe_gi T.in_MOST)) (pa_cons (pe_gi T.in_MOST) pa_nil))))))
        pss_nil)
        (pss_cons (ps_if (pt_cmpR op_eq (pv 0) pe_str (nomark _))
        (pss_one (ps_ret (pe_c k_is_between hr (pa_cons (pv 2) (pa_cons (pe_op op_add (pv 1) pe_int) (pa_cons (pe_gi T.in_LAST_END) pa_nil))))))
        pss_nil)
        (pss_cons (ps_if (pt_cmpR op_in_seq (pv 0) (pe_tup (pa_cons pe_str (pa_cons pe_str pa_nil))) (by rfl))
        (pss_one (ps_ret (pe_c k_is_between hr (pa_cons (pv 2) (pa_cons pe_int (pa_cons (pe_gi T.in_MOST_RATE) pa_nil))))))
        pss_nil)
        (pss_one (ps_ret (pe_c k_is_between hr (pa_cons (pv 2) (pa_cons pe_int (pa_cons (pe_gi T.in_MOST) pa_nil))))))))), ?_⟩
    refine ⟨_, rfl, rfl, _, rfl, ?_⟩
    by_cases h1 : k = .fee
    · subst h1
      exact iteD rfl ⟨_, rfl, _, rfl, _, _, _, rfl, ht, q H (Same.refl H)⟩
    refine iteDF (fun z => h1 (by revert z; cases k <;> decide +kernel)) ⟨_, rfl, rfl, _, rfl, ?_⟩
    by_cases h2 : k = .still
    · subst h2
      exact iteD rfl ⟨_, rfl, _, rfl, _, _, rfl, rfl, _, _, _, rfl, ht, q H (Same.refl H)⟩
    refine iteDF (fun z => h2 (by revert z; cases k <;> decide +kernel)) ?_
    refine ⟨_, rfl, (by show 2 ≤ sizeLine; decide), fun p np => ⟨p, _, rfl, .inr (SqT.of upd_same), rfl, rfl, ?_⟩⟩
    by_cases h3 : k = .rate ∨ k = .late
    · refine word_in (by rcases h3 with rfl | rfl <;> decide +kernel) ⟨_, rfl, _, _, _, rfl, ?_, q _ (same_upd np)⟩
      rcases h3 with rfl | rfl <;> exact ht
    · refine word_out (by revert h3; cases k <;> decide +kernel) ⟨_, rfl, _, _, _, rfl, ?_, q _ (same_upd np)⟩
      revert ht
      cases k <;> first | exact id | exact absurd rfl hk | exact absurd rfl h1 | exact absurd rfl h2 | exact absurd (.inl rfl) h3 | exact absurd (.inr rfl) h3
theorem cal_is_tail (T : Txt K mg) : Cal P w K mg base 3 "is_tail" spTail := by
  obtain ⟨fd, F⟩ := T.fn_is_tail
  exact cal_of F T.mg_is_tail (ok_is_tail T F) (fun _ _ _ _ _ _ us hl => match us, hl with | [_, _, _], _ => rfl)
def spSize : Sp := fun vs H Q _ => ∃ k : Kd, vs = [.str k.word] ∧ ∀ H', Same H H' → Q (.int (if k = .turn then 2 else 3)) H'
abbrev s_size_of : Stmt := top 71
abbrev nm_size_of : List Str := ["word"]
abbrev pm_size_of : List Str := ["word"]
theorem sc_size_of : FnScope nm_size_of pm_size_of (defScope s_size_of) := ⟨rfl, rfl, rfl, by decide +kernel, rfl, by decide +kernel, by decide +kernel⟩
theorem ok_size_of (T : Txt K mg) {f : Addr} {fd : FuncData} (F : FnP K "size_of" "size_of" s_size_of f fd) : FnOk P w K mg base CX0 1 f fd pm_size_of spSize := by
  refine fnok F sc_size_of (fun vs H Q E h => ?_) (fun cdv A outer s H vs Q E hr h => ?_)
  · obtain ⟨k, rfl, _⟩ := h
    rfl
  · obtain ⟨k, rfl, q⟩ := h
    have hu := hu_of hr
    have nd := sc_size_of.nd
    refine ⟨_, (pss_cons (ps_if (pt_cmpR op_eq (pv 0) pe_str (nomark _))
        (pss_one (ps_ret pe_int))
        pss_nil)
        (pss_cons (ps_if (pt_cmpR op_in_seq (pv 0) (pe_tup (pa_cons pe_str (pa_cons pe_str (pa_cons pe_str (pa_cons pe_str (pa_cons pe_str (pa_cons pe_str (pa_cons pe_str pa_nil)))))))) (by rfl))
        (pss_one (ps_ret pe_int))
        pss_nil)
        (pss_one (ps_ret pe_int)))), ?_⟩
    refine ⟨_, rfl, rfl, _, rfl, ?_⟩
    by_cases hk : k = .turn
    · subst hk
      exact iteD rfl (q H (Same.refl H))
    · rw [if_neg hk] at q
      refine iteDF (fun z => hk (by revert z; cases k <;> decide +kernel)) ?_
      refine ⟨_, rfl, (by show 7 ≤ sizeLine; decide), fun p np => ⟨p, _, rfl, .inr (SqT.of upd_same), rfl, rfl, ?_⟩⟩
      exact word_in (by revert hk; cases k <;> decide +kernel) (q _ (same_upd np))
theorem cal_size_of (T : Txt K mg) : Cal P w K mg base 1 "size_of" spSize := by
  obtain ⟨fd, F⟩ := T.fn_size_of
  exact cal_of F T.mg_size_of (ok_size_of T F) (fun _ _ _ _ _ _ us hl => match us, hl with | [_], _ => rfl)
/-! ### the eight classes -/
end
end Lr

set_option maxHeartbeats 4000000
/-! Defs: the classes of entries. -/
namespace Lr
open PySem PySem.Spec PyProof.Rows L2
theorem lk_day (r : Row) : r.fl.lookup ("day" : Str) = some (V.int r.day) := by
  obtain ⟨k, d, t⟩ := r
  cases k <;> rfl
theorem lk_no (r : Row) {m : Str} (h1 : (m == ("day" : Str)) = false) (h2 : (m == ("amount" : Str)) = false) (h3 : (m == ("rate" : Str)) = false) (h4 : (m == ("until" : Str)) = false) : r.fl.lookup m = none := by
  obtain ⟨k, d, t⟩ := r
  cases k <;> simp only [Row.fl, List.lookup_cons, List.lookup_nil, h1, h2, h3, h4]
section
variable {P : Program} {w : World} {K : PySem.W.Frag} {mg : Str → Option Value} {base : Heap}
theorem Txt.cl (T : Txt K mg) (k : Kd) : Cls K (He.ga K k.cls) := by
  cases k
  · exact T.cl_Out
  · exact T.cl_Fee
  · exact T.cl_Pay
  · exact T.cl_Due
  · exact T.cl_Turn
  · exact T.cl_Rate
  · exact T.cl_Late
  · exact T.cl_Still
theorem Txt.naDay (T : Txt K mg) (k : Kd) : NoAttr K (He.ga K k.cls) "day" := by
  cases k
  · exact T.na_Out_day
  · exact T.na_Fee_day
  · exact T.na_Pay_day
  · exact T.na_Due_day
  · exact T.na_Turn_day
  · exact T.na_Rate_day
  · exact T.na_Late_day
  · exact T.na_Still_day
/-! ### word -/
def spWord (k : Kd) : Sp := fun vs H Q _ => ∃ v : V, vs = [v] ∧ Q (.str k.word) H
abbrev s_Out_word : Stmt := inClass (top 60) 0
abbrev nm_Out_word : List Str := ["self"]
abbrev pm_Out_word : List Str := ["self"]
theorem sc_Out_word : FnScope nm_Out_word pm_Out_word (defScope s_Out_word) := ⟨rfl, rfl, rfl, by decide +kernel, rfl, by decide +kernel, by decide +kernel⟩
theorem ok_Out_word (T : Txt K mg) {f : Addr} {fd : FuncData} (F : FnP K "word" "Out.word" s_Out_word f fd) : FnOk P w K mg base CX0 1 f fd pm_Out_word (spWord .out) := by
  refine fnok F sc_Out_word (fun vs H Q E h => ?_) (fun cdv A outer s H vs Q E hr h => ?_)
  · obtain ⟨v, rfl, _⟩ := h
    rfl
  · obtain ⟨v, rfl, q⟩ := h
    have hu := hu_of hr
    have nd := sc_Out_word.nd
    refine ⟨_, (pss_one (ps_ret pe_str)), ?_⟩
    exact q
theorem met_Out_word (T : Txt K mg) : Met P w K mg base 1 (He.ga K "Out") "word" (spWord .out) := by
  obtain ⟨fd, F⟩ := T.fn_Out_word
  exact met_of T.cl_Out T.me_Out_word F (ok_Out_word T F) (fun _ _ _ _ _ _ us hl => match us, hl with | [_], _ => rfl)
abbrev s_Fee_word : Stmt := inClass (top 61) 0
abbrev nm_Fee_word : List Str := ["self"]
abbrev pm_Fee_word : List Str := ["self"]
theorem sc_Fee_word : FnScope nm_Fee_word pm_Fee_word (defScope s_Fee_word) := ⟨rfl, rfl, rfl, by decide +kernel, rfl, by decide +kernel, by decide +kernel⟩
theorem ok_Fee_word (T : Txt K mg) {f : Addr} {fd : FuncData} (F : FnP K "word" "Fee.word" s_Fee_word f fd) : FnOk P w K mg base CX0 1 f fd pm_Fee_word (spWord .fee) := by
  refine fnok F sc_Fee_word (fun vs H Q E h => ?_) (fun cdv A outer s H vs Q E hr h => ?_)
  · obtain ⟨v, rfl, _⟩ := h
    rfl
  · obtain ⟨v, rfl, q⟩ := h
    have hu := hu_of hr
    have nd := sc_Fee_word.nd
    refine ⟨_, (pss_one (ps_ret pe_str)), ?_⟩
    exact q
theorem met_Fee_word (T : Txt K mg) : Met P w K mg base 1 (He.ga K "Fee") "word" (spWord .fee) := by
  obtain ⟨fd, F⟩ := T.fn_Fee_word
  exact met_of T.cl_Fee T.me_Fee_word F (ok_Fee_word T F) (fun _ _ _ _ _ _ us hl => match us, hl with | [_], _ => rfl)
abbrev s_Pay_word : Stmt := inClass (top 62) 0
abbrev nm_Pay_word : List Str := ["self"]
abbrev pm_Pay_word : List Str := ["self"]
theorem sc_Pay_word : FnScope nm_Pay_word pm_Pay_word (defScope s_Pay_word) := ⟨rfl, rfl, rfl, by decide +kernel, rfl, by decide +kernel, by decide +kernel⟩
theorem ok_Pay_word (T : Txt K mg) {f : Addr} {fd : FuncData} (F : FnP K "word" "Pay.word" s_Pay_word f fd) : FnOk P w K mg base CX0 1 f fd pm_Pay_word (spWord .pay) := by
  refine fnok F sc_Pay_word (fun vs H Q E h => ?_) (fun cdv A outer s H vs Q E hr h => ?_)
  · obtain ⟨v, rfl, _⟩ := h
    rfl
  · obtain ⟨v, rfl, q⟩ := h
    have hu := hu_of hr
    have nd := sc_Pay_word.nd
    refine ⟨_, (pss_one (ps_ret pe_str)), ?_⟩
    exact q
theorem met_Pay_word (T : Txt K mg) : Met P w K mg base 1 (He.ga K "Pay") "word" (spWord .pay) := by
  obtain ⟨fd, F⟩ := T.fn_Pay_word
  exact met_of T.cl_Pay T.me_Pay_word F (ok_Pay_word T F) (fun _ _ _ _ _ _ us hl => match us, hl with | [_], _ => rfl)
abbrev s_Due_word : Stmt := inClass (top 63) 0
abbrev nm_Due_word : List Str := ["self"]
abbrev pm_Due_word : List Str := ["self"]
theorem sc_Due_word : FnScope nm_Due_word pm_Due_word (defScope s_Due_word) := ⟨rfl, rfl, rfl, by decide +kernel, rfl, by decide +kernel, by decide +kernel⟩
theorem ok_Due_word (T : Txt K mg) {f : Addr} {fd : FuncData} (F : FnP K "word" "Due.word" s_Due_word f fd) : FnOk P w K mg base CX0 1 f fd pm_Due_word (spWord .due) := by
  refine fnok F sc_Due_word (fun vs H Q E h => ?_) (fun cdv A outer s H vs Q E hr h => ?_)
  · obtain ⟨v, rfl, _⟩ := h
    rfl
  · obtain ⟨v, rfl, q⟩ := h
    have hu := hu_of hr
    have nd := sc_Due_word.nd
    refine ⟨_, (pss_one (ps_ret pe_str)), ?_⟩
    exact q
theorem met_Due_word (T : Txt K mg) : Met P w K mg base 1 (He.ga K "Due") "word" (spWord .due) := by
  obtain ⟨fd, F⟩ := T.fn_Due_word
  exact met_of T.cl_Due T.me_Due_word F (ok_Due_word T F) (fun _ _ _ _ _ _ us hl => match us, hl with | [_], _ => rfl)
abbrev s_Turn_word : Stmt := inClass (top 64) 0
abbrev nm_Turn_word : List Str := ["self"]
abbrev pm_Turn_word : List Str := ["self"]
theorem sc_Turn_word : FnScope nm_Turn_word pm_Turn_word (defScope s_Turn_word) := ⟨rfl, rfl, rfl, by decide +kernel, rfl, by decide +kernel, by decide +kernel⟩
theorem ok_Turn_word (T : Txt K mg) {f : Addr} {fd : FuncData} (F : FnP K "word" "Turn.word" s_Turn_word f fd) : FnOk P w K mg base CX0 1 f fd pm_Turn_word (spWord .turn) := by
  refine fnok F sc_Turn_word (fun vs H Q E h => ?_) (fun cdv A outer s H vs Q E hr h => ?_)
  · obtain ⟨v, rfl, _⟩ := h
    rfl
  · obtain ⟨v, rfl, q⟩ := h
    have hu := hu_of hr
    have nd := sc_Turn_word.nd
    refine ⟨_, (pss_one (ps_ret pe_str)), ?_⟩
    exact q
theorem met_Turn_word (T : Txt K mg) : Met P w K mg base 1 (He.ga K "Turn") "word" (spWord .turn) := by
  obtain ⟨fd, F⟩ := T.fn_Turn_word
  exact met_of T.cl_Turn T.me_Turn_word F (ok_Turn_word T F) (fun _ _ _ _ _ _ us hl => match us, hl with | [_], _ => rfl)
abbrev s_Rate_word : Stmt := inClass (top 66) 0
abbrev nm_Rate_word : List Str := ["self"]
abbrev pm_Rate_word : List Str := ["self"]
theorem sc_Rate_word : FnScope nm_Rate_word pm_Rate_word (defScope s_Rate_word) := ⟨rfl, rfl, rfl, by decide +kernel, rfl, by decide +kernel, by decide +kernel⟩
theorem ok_Rate_word (T : Txt K mg) {f : Addr} {fd : FuncData} (F : FnP K "word" "Rate.word" s_Rate_word f fd) : FnOk P w K mg base CX0 1 f fd pm_Rate_word (spWord .rate) := by
  refine fnok F sc_Rate_word (fun vs H Q E h => ?_) (fun cdv A outer s H vs Q E hr h => ?_)
  · obtain ⟨v, rfl, _⟩ := h
    rfl
  · obtain ⟨v, rfl, q⟩ := h
    have hu := hu_of hr
    have nd := sc_Rate_word.nd
    refine ⟨_, (pss_one (ps_ret pe_str)), ?_⟩
    exact q
theorem met_Rate_word (T : Txt K mg) : Met P w K mg base 1 (He.ga K "Rate") "word" (spWord .rate) := by
  obtain ⟨fd, F⟩ := T.fn_Rate_word
  exact met_of T.cl_Rate T.me_Rate_word F (ok_Rate_word T F) (fun _ _ _ _ _ _ us hl => match us, hl with | [_], _ => rfl)
abbrev s_Late_word : Stmt := inClass (top 67) 0
abbrev nm_Late_word : List Str := ["self"]
abbrev pm_Late_word : List Str := ["self"]
theorem sc_Late_word : FnScope nm_Late_word pm_Late_word (defScope s_Late_word) := ⟨rfl, rfl, rfl, by decide +kernel, rfl, by decide +kernel, by decide +kernel⟩
theorem ok_Late_word (T : Txt K mg) {f : Addr} {fd : FuncData} (F : FnP K "word" "Late.word" s_Late_word f fd) : FnOk P w K mg base CX0 1 f fd pm_Late_word (spWord .late) := by
  refine fnok F sc_Late_word (fun vs H Q E h => ?_) (fun cdv A outer s H vs Q E hr h => ?_)
  · obtain ⟨v, rfl, _⟩ := h
    rfl
  · obtain ⟨v, rfl, q⟩ := h
    have hu := hu_of hr
    have nd := sc_Late_word.nd
    refine ⟨_, (pss_one (ps_ret pe_str)), ?_⟩
    exact q
theorem met_Late_word (T : Txt K mg) : Met P w K mg base 1 (He.ga K "Late") "word" (spWord .late) := by
  obtain ⟨fd, F⟩ := T.fn_Late_word
  exact met_of T.cl_Late T.me_Late_word F (ok_Late_word T F) (fun _ _ _ _ _ _ us hl => match us, hl with | [_], _ => rfl)
abbrev s_Still_word : Stmt := inClass (top 68) 1
abbrev nm_Still_word : List Str := ["self"]
abbrev pm_Still_word : List Str := ["self"]
theorem sc_Still_word : FnScope nm_Still_word pm_Still_word (defScope s_Still_word) := ⟨rfl, rfl, rfl, by decide +kernel, rfl, by decide +kernel, by decide +kernel⟩
theorem ok_Still_word (T : Txt K mg) {f : Addr} {fd : FuncData} (F : FnP K "word" "Still.word" s_Still_word f fd) : FnOk P w K mg base CX0 1 f fd pm_Still_word (spWord .still) := by
  refine fnok F sc_Still_word (fun vs H Q E h => ?_) (fun cdv A outer s H vs Q E hr h => ?_)
  · obtain ⟨v, rfl, _⟩ := h
    rfl
  · obtain ⟨v, rfl, q⟩ := h
    have hu := hu_of hr
    have nd := sc_Still_word.nd
    refine ⟨_, (pss_one (ps_ret pe_str)), ?_⟩
    exact q
theorem met_Still_word (T : Txt K mg) : Met P w K mg base 1 (He.ga K "Still") "word" (spWord .still) := by
  obtain ⟨fd, F⟩ := T.fn_Still_word
  exact met_of T.cl_Still T.me_Still_word F (ok_Still_word T F) (fun _ _ _ _ _ _ us hl => match us, hl with | [_], _ => rfl)
/-! ### tail -/
def spTl0 : Sp := fun vs H Q _ => ∃ v : V, vs = [v] ∧ ∀ t, H t = none → Q (.ref t) (upd H t (.tup []))
def spTl1 (K : PySem.W.Frag) (f : Str) : Sp := fun vs H Q _ => ∃ (p C dx : Addr) (fs : List (Str × V)) (y : V), vs = [.ref p] ∧ H p = some (.ins C dx fs) ∧ Cls K C ∧ NoAttr K C f ∧ fs.lookup f = some y ∧ ∀ t, H t = none → Q (.ref t) (upd H t (.tup [y]))
abbrev s_Entry_tail : Stmt := inClass (top 58) 2
abbrev nm_Entry_tail : List Str := ["self"]
abbrev pm_Entry_tail : List Str := ["self"]
theorem sc_Entry_tail : FnScope nm_Entry_tail pm_Entry_tail (defScope s_Entry_tail) := ⟨rfl, rfl, rfl, by decide +kernel, rfl, by decide +kernel, by decide +kernel⟩
theorem ok_Entry_tail (T : Txt K mg) {f : Addr} {fd : FuncData} (F : FnP K "tail" "Entry.tail" s_Entry_tail f fd) : FnOk P w K mg base CX0 1 f fd pm_Entry_tail spTl0 := by
  refine fnok F sc_Entry_tail (fun vs H Q E h => ?_) (fun cdv A outer s H vs Q E hr h => ?_)
  · obtain ⟨v, rfl, _⟩ := h
    rfl
  · obtain ⟨v, rfl, q⟩ := h
    have hu := hu_of hr
    have nd := sc_Entry_tail.nd
    refine ⟨_, (pss_one (ps_ret (pe_tup pa_nil))), ?_⟩
    exact ⟨Nat.zero_le _, q⟩
abbrev s_Sum_tail : Stmt := inClass (top 59) 1
abbrev nm_Sum_tail : List Str := ["self"]
abbrev pm_Sum_tail : List Str := ["self"]
theorem sc_Sum_tail : FnScope nm_Sum_tail pm_Sum_tail (defScope s_Sum_tail) := ⟨rfl, rfl, rfl, by decide +kernel, rfl, by decide +kernel, by decide +kernel⟩
theorem ok_Sum_tail (T : Txt K mg) {f : Addr} {fd : FuncData} (F : FnP K "tail" "Sum.tail" s_Sum_tail f fd) : FnOk P w K mg base CX0 1 f fd pm_Sum_tail (spTl1 K "amount") := by
  refine fnok F sc_Sum_tail (fun vs H Q E h => ?_) (fun cdv A outer s H vs Q E hr h => ?_)
  · obtain ⟨p, C, dx, fs, y, rfl, _⟩ := h
    rfl
  · obtain ⟨p, C, dx, fs, y, rfl, hp, c, n, l, q⟩ := h
    have hu := hu_of hr
    have nd := sc_Sum_tail.nd
    refine ⟨_, (pss_one (ps_ret (pe_tup (pa_cons (pe_fld (pv 0) rfl) pa_nil)))), ?_⟩
    exact ⟨_, rfl, p, C, dx, fs, y, rfl, hp, c, n, l, (by show 1 ≤ sizeLine; decide), q⟩
abbrev s_Yearly_tail : Stmt := inClass (top 65) 1
abbrev nm_Yearly_tail : List Str := ["self"]
abbrev pm_Yearly_tail : List Str := ["self"]
theorem sc_Yearly_tail : FnScope nm_Yearly_tail pm_Yearly_tail (defScope s_Yearly_tail) := ⟨rfl, rfl, rfl, by decide +kernel, rfl, by decide +kernel, by decide +kernel⟩
theorem ok_Yearly_tail (T : Txt K mg) {f : Addr} {fd : FuncData} (F : FnP K "tail" "Yearly.tail" s_Yearly_tail f fd) : FnOk P w K mg base CX0 1 f fd pm_Yearly_tail (spTl1 K "rate") := by
  refine fnok F sc_Yearly_tail (fun vs H Q E h => ?_) (fun cdv A outer s H vs Q E hr h => ?_)
  · obtain ⟨p, C, dx, fs, y, rfl, _⟩ := h
    rfl
  · obtain ⟨p, C, dx, fs, y, rfl, hp, c, n, l, q⟩ := h
    have hu := hu_of hr
    have nd := sc_Yearly_tail.nd
    refine ⟨_, (pss_one (ps_ret (pe_tup (pa_cons (pe_fld (pv 0) rfl) pa_nil)))), ?_⟩
    exact ⟨_, rfl, p, C, dx, fs, y, rfl, hp, c, n, l, (by show 1 ≤ sizeLine; decide), q⟩
abbrev s_Still_tail : Stmt := inClass (top 68) 2
abbrev nm_Still_tail : List Str := ["self"]
abbrev pm_Still_tail : List Str := ["self"]
theorem sc_Still_tail : FnScope nm_Still_tail pm_Still_tail (defScope s_Still_tail) := ⟨rfl, rfl, rfl, by decide +kernel, rfl, by decide +kernel, by decide +kernel⟩
theorem ok_Still_tail (T : Txt K mg) {f : Addr} {fd : FuncData} (F : FnP K "tail" "Still.tail" s_Still_tail f fd) : FnOk P w K mg base CX0 1 f fd pm_Still_tail (spTl1 K "until") := by
  refine fnok F sc_Still_tail (fun vs H Q E h => ?_) (fun cdv A outer s H vs Q E hr h => ?_)
  · obtain ⟨p, C, dx, fs, y, rfl, _⟩ := h
    rfl
  · obtain ⟨p, C, dx, fs, y, rfl, hp, c, n, l, q⟩ := h
    have hu := hu_of hr
    have nd := sc_Still_tail.nd
    refine ⟨_, (pss_one (ps_ret (pe_tup (pa_cons (pe_fld (pv 0) rfl) pa_nil)))), ?_⟩
    exact ⟨_, rfl, p, C, dx, fs, y, rfl, hp, c, n, l, (by show 1 ≤ sizeLine; decide), q⟩
def spTl (K : PySem.W.Frag) (k : Kd) : Sp := fun vs H Q _ => ∃ (v : V) (r : Row), vs = [v] ∧ r.kd = k ∧ EntAt K H v r ∧ ∀ t, H t = none → Q (.ref t) (upd H t (.tup r.tl))
theorem met_Out_tail (T : Txt K mg) : Met P w K mg base 1 (He.ga K "Out") "tail" (spTl K .out) := by
  obtain ⟨fd, F⟩ := T.fn_Out_tail
  refine met_of T.cl_Out T.me_Out_tail F ((ok_Sum_tail T F).imp fun vs H Q E h => ?_) (fun _ _ _ _ _ _ us hl => match us, hl with | [_], _ => rfl)
  obtain ⟨v, r, rfl, hk, ⟨p, dx, rfl, hp⟩, q⟩ := h
  obtain ⟨k, d, t⟩ := r
  cases hk
  exact ⟨p, _, dx, _, _, rfl, hp, T.cl_Out, T.na_Out_amount, rfl, q⟩
theorem met_Fee_tail (T : Txt K mg) : Met P w K mg base 1 (He.ga K "Fee") "tail" (spTl K .fee) := by
  obtain ⟨fd, F⟩ := T.fn_Fee_tail
  refine met_of T.cl_Fee T.me_Fee_tail F ((ok_Sum_tail T F).imp fun vs H Q E h => ?_) (fun _ _ _ _ _ _ us hl => match us, hl with | [_], _ => rfl)
  obtain ⟨v, r, rfl, hk, ⟨p, dx, rfl, hp⟩, q⟩ := h
  obtain ⟨k, d, t⟩ := r
  cases hk
  exact ⟨p, _, dx, _, _, rfl, hp, T.cl_Fee, T.na_Fee_amount, rfl, q⟩
theorem met_Pay_tail (T : Txt K mg) : Met P w K mg base 1 (He.ga K "Pay") "tail" (spTl K .pay) := by
  obtain ⟨fd, F⟩ := T.fn_Pay_tail
  refine met_of T.cl_Pay T.me_Pay_tail F ((ok_Sum_tail T F).imp fun vs H Q E h => ?_) (fun _ _ _ _ _ _ us hl => match us, hl with | [_], _ => rfl)
  obtain ⟨v, r, rfl, hk, ⟨p, dx, rfl, hp⟩, q⟩ := h
  obtain ⟨k, d, t⟩ := r
  cases hk
  exact ⟨p, _, dx, _, _, rfl, hp, T.cl_Pay, T.na_Pay_amount, rfl, q⟩
theorem met_Due_tail (T : Txt K mg) : Met P w K mg base 1 (He.ga K "Due") "tail" (spTl K .due) := by
  obtain ⟨fd, F⟩ := T.fn_Due_tail
  refine met_of T.cl_Due T.me_Due_tail F ((ok_Sum_tail T F).imp fun vs H Q E h => ?_) (fun _ _ _ _ _ _ us hl => match us, hl with | [_], _ => rfl)
  obtain ⟨v, r, rfl, hk, ⟨p, dx, rfl, hp⟩, q⟩ := h
  obtain ⟨k, d, t⟩ := r
  cases hk
  exact ⟨p, _, dx, _, _, rfl, hp, T.cl_Due, T.na_Due_amount, rfl, q⟩
theorem met_Turn_tail (T : Txt K mg) : Met P w K mg base 1 (He.ga K "Turn") "tail" (spTl K .turn) := by
  obtain ⟨fd, F⟩ := T.fn_Turn_tail
  refine met_of T.cl_Turn T.me_Turn_tail F ((ok_Entry_tail T F).imp fun vs H Q E h => ?_) (fun _ _ _ _ _ _ us hl => match us, hl with | [_], _ => rfl)
  obtain ⟨v, r, rfl, hk, hv, q⟩ := h
  obtain ⟨k, d, t⟩ := r
  cases hk
  exact ⟨v, rfl, q⟩
theorem met_Rate_tail (T : Txt K mg) : Met P w K mg base 1 (He.ga K "Rate") "tail" (spTl K .rate) := by
  obtain ⟨fd, F⟩ := T.fn_Rate_tail
  refine met_of T.cl_Rate T.me_Rate_tail F ((ok_Yearly_tail T F).imp fun vs H Q E h => ?_) (fun _ _ _ _ _ _ us hl => match us, hl with | [_], _ => rfl)
  obtain ⟨v, r, rfl, hk, ⟨p, dx, rfl, hp⟩, q⟩ := h
  obtain ⟨k, d, t⟩ := r
  cases hk
  exact ⟨p, _, dx, _, _, rfl, hp, T.cl_Rate, T.na_Rate_rate, rfl, q⟩
theorem met_Late_tail (T : Txt K mg) : Met P w K mg base 1 (He.ga K "Late") "tail" (spTl K .late) := by
  obtain ⟨fd, F⟩ := T.fn_Late_tail
  refine met_of T.cl_Late T.me_Late_tail F ((ok_Yearly_tail T F).imp fun vs H Q E h => ?_) (fun _ _ _ _ _ _ us hl => match us, hl with | [_], _ => rfl)
  obtain ⟨v, r, rfl, hk, ⟨p, dx, rfl, hp⟩, q⟩ := h
  obtain ⟨k, d, t⟩ := r
  cases hk
  exact ⟨p, _, dx, _, _, rfl, hp, T.cl_Late, T.na_Late_rate, rfl, q⟩
theorem met_Still_tail (T : Txt K mg) : Met P w K mg base 1 (He.ga K "Still") "tail" (spTl K .still) := by
  obtain ⟨fd, F⟩ := T.fn_Still_tail
  refine met_of T.cl_Still T.me_Still_tail F ((ok_Still_tail T F).imp fun vs H Q E h => ?_) (fun _ _ _ _ _ _ us hl => match us, hl with | [_], _ => rfl)
  obtain ⟨v, r, rfl, hk, ⟨p, dx, rfl, hp⟩, q⟩ := h
  obtain ⟨k, d, t⟩ := r
  cases hk
  exact ⟨p, _, dx, _, _, rfl, hp, T.cl_Still, T.na_Still_until, rfl, q⟩
theorem met_word (T : Txt K mg) (k : Kd) : Met P w K mg base 1 (He.ga K k.cls) "word" (spWord k) := by
  cases k
  · exact met_Out_word T
  · exact met_Fee_word T
  · exact met_Pay_word T
  · exact met_Due_word T
  · exact met_Turn_word T
  · exact met_Rate_word T
  · exact met_Late_word T
  · exact met_Still_word T
theorem met_tail (T : Txt K mg) (k : Kd) : Met P w K mg base 1 (He.ga K k.cls) "tail" (spTl K k) := by
  cases k
  · exact met_Out_tail T
  · exact met_Fee_tail T
  · exact met_Pay_tail T
  · exact met_Due_tail T
  · exact met_Turn_tail T
  · exact met_Rate_tail T
  · exact met_Late_tail T
  · exact met_Still_tail T
/-! ### row -/
def spRow (K : PySem.W.Frag) : Sp := fun vs H Q _ => ∃ (v : V) (r : Row), vs = [v] ∧ EntAt K H v r ∧ ∀ v' H', Same H H' → RowAt H' v' r → Q v' H'
abbrev s_Entry_row : Stmt := inClass (top 58) 3
abbrev nm_Entry_row : List Str := ["self"]
abbrev pm_Entry_row : List Str := ["self"]
theorem sc_Entry_row : FnScope nm_Entry_row pm_Entry_row (defScope s_Entry_row) := ⟨rfl, rfl, rfl, by decide +kernel, rfl, by decide +kernel, by decide +kernel⟩
theorem ok_Entry_row (T : Txt K mg) {f : Addr} {fd : FuncData} (F : FnP K "row" "Entry.row" s_Entry_row f fd) : FnOk P w K mg base CX0 2 f fd pm_Entry_row (spRow K) := by
  refine fnok F sc_Entry_row (fun vs H Q E h => ?_) (fun cdv A outer s H vs Q E hr h => ?_)
  · obtain ⟨v, r, rfl, _⟩ := h
    rfl
  · obtain ⟨v, r, rfl, hv, q⟩ := h
    have hu := hu_of hr
    have nd := sc_Entry_row.nd
    refine ⟨_, (pss_one (ps_ret (pe_op op_catT (pe_tup (pa_cons (pe_mt0 hr (pv 0)) (pa_cons (pe_fld (pv 0) rfl) pa_nil))) (pe_mt0 hr (pv 0))))), ?_⟩
    obtain ⟨p, dx, rfl, hp⟩ := id hv
    refine ⟨_, rfl, He.ga K r.kd.cls, spWord r.kd, p, dx, r.fl, rfl, hp, met_word T r.kd, lk_no r (by decide +kernel) (by decide +kernel) (by decide +kernel) (by decide +kernel), _, rfl, ?_⟩
    refine ⟨_, rfl, p, _, dx, r.fl, _, rfl, hp, T.cl r.kd, T.naDay r.kd, lk_day r, (by show 2 ≤ sizeLine; decide), fun t nt => ?_⟩
    have s1 : Same H (upd H t (.tup [.str r.kd.word, .int r.day])) := same_upd nt
    refine ⟨_, rfl, He.ga K r.kd.cls, spTl K r.kd, p, dx, r.fl, rfl, s1 _ _ hp, met_tail T r.kd, lk_no r (by decide +kernel) (by decide +kernel) (by decide +kernel) (by decide +kernel), _, r, rfl, rfl, ⟨p, dx, rfl, s1 _ _ hp⟩, fun u nu => ?_⟩
    have htu : t ≠ u := ne_of_none upd_same nu
    refine ⟨t, u, _, _, rfl, rfl, SqT.of (by rw [upd_ne htu]; exact upd_same), SqT.of upd_same, ?_, ?_, ?_, ?_⟩
    · exact List.cons_ne_nil _ _
    · have : r.tl.length ≤ 1 := by
        obtain ⟨k, d, t⟩ := r
        cases k <;> simp [Row.tl]
      show 2 + r.tl.length ≤ sizeLine
      rw [sizeLine_eq]
      omega
    · intro e
      refine q _ _ (s1.trans (same_upd nu)) ⟨t, rfl, ?_⟩
      rw [upd_ne htu, upd_same, Row.vs, e]
    · intro _ y ny
      exact q _ _ ((s1.trans (same_upd nu)).trans (same_upd ny)) ⟨y, rfl, upd_same⟩
theorem met_row (T : Txt K mg) (k : Kd) : Met P w K mg base 2 (He.ga K k.cls) "row" (spRow K) := by
  cases k
  · obtain ⟨fd, F⟩ := T.fn_Out_row
    exact met_of T.cl_Out T.me_Out_row F (ok_Entry_row T F) (fun _ _ _ _ _ _ us hl => match us, hl with | [_], _ => rfl)
  · obtain ⟨fd, F⟩ := T.fn_Fee_row
    exact met_of T.cl_Fee T.me_Fee_row F (ok_Entry_row T F) (fun _ _ _ _ _ _ us hl => match us, hl with | [_], _ => rfl)
  · obtain ⟨fd, F⟩ := T.fn_Pay_row
    exact met_of T.cl_Pay T.me_Pay_row F (ok_Entry_row T F) (fun _ _ _ _ _ _ us hl => match us, hl with | [_], _ => rfl)
  · obtain ⟨fd, F⟩ := T.fn_Due_row
    exact met_of T.cl_Due T.me_Due_row F (ok_Entry_row T F) (fun _ _ _ _ _ _ us hl => match us, hl with | [_], _ => rfl)
  · obtain ⟨fd, F⟩ := T.fn_Turn_row
    exact met_of T.cl_Turn T.me_Turn_row F (ok_Entry_row T F) (fun _ _ _ _ _ _ us hl => match us, hl with | [_], _ => rfl)
  · obtain ⟨fd, F⟩ := T.fn_Rate_row
    exact met_of T.cl_Rate T.me_Rate_row F (ok_Entry_row T F) (fun _ _ _ _ _ _ us hl => match us, hl with | [_], _ => rfl)
  · obtain ⟨fd, F⟩ := T.fn_Late_row
    exact met_of T.cl_Late T.me_Late_row F (ok_Entry_row T F) (fun _ _ _ _ _ _ us hl => match us, hl with | [_], _ => rfl)
  · obtain ⟨fd, F⟩ := T.fn_Still_row
    exact met_of T.cl_Still T.me_Still_row F (ok_Entry_row T F) (fun _ _ _ _ _ _ us hl => match us, hl with | [_], _ => rfl)
/-! ### __init__ -/
def spEInit (K : PySem.W.Frag) : Sp := fun vs H Q _ => ∃ (p C dx : Addr) (y : V) (fs : List (Str × V)), vs = [.ref p, y] ∧ H p = some (.ins C dx fs) ∧ Cls K C ∧ NoAttr K C "day" ∧ fs.length < 1000 ∧
  Q .non (upd H p (.ins C dx (putF "day" y fs)))
abbrev s_Entry_init__ : Stmt := inClass (top 58) 0
abbrev nm_Entry_init__ : List Str := ["self", "day"]
abbrev pm_Entry_init__ : List Str := ["self", "day"]
theorem sc_Entry_init__ : FnScope nm_Entry_init__ pm_Entry_init__ (defScope s_Entry_init__) := ⟨rfl, rfl, rfl, by decide +kernel, rfl, by decide +kernel, by decide +kernel⟩
theorem ok_Entry_init__ (T : Txt K mg) {f : Addr} {fd : FuncData} (F : FnP K "__init__" "Entry.__init__" s_Entry_init__ f fd) : FnOk P w K mg base CX0 1 f fd pm_Entry_init__ (spEInit K) := by
  refine fnok F sc_Entry_init__ (fun vs H Q E h => ?_) (fun cdv A outer s H vs Q E hr h => ?_)
  · obtain ⟨p, C, dx, y, fs, rfl, _⟩ := h
    rfl
  · obtain ⟨p, C, dx, y, fs, rfl, hp, c, n, hl, q⟩ := h
    have hu := hu_of hr
    have nd := sc_Entry_init__.nd
    refine ⟨_, (pss_one (ps_fld (pv 0) (pv 1) rfl)), ?_⟩
    exact ⟨_, rfl, _, rfl, p, C, dx, fs, rfl, hp, c, n, hl, q⟩
theorem unb_Entry (T : Txt K mg) : Unb P w K mg base 1 "Entry" (He.ga K "Entry") "__init__" (spEInit K) := by
  obtain ⟨fd, F⟩ := T.fn_Entry___init__
  exact unb_of T.mg_Entry T.cf_Entry F (ok_Entry_init__ T F) (fun _ _ _ _ _ _ us hl => match us, hl with | [_, _], _ => rfl)
def spSInit (K : PySem.W.Frag) (f : Str) : Sp := fun vs H Q _ => ∃ (p C dx : Addr) (y z : V), vs = [.ref p, y, z] ∧ H p = some (.ins C dx []) ∧ Cls K C ∧ NoAttr K C "day" ∧ NoAttr K C f ∧
  Q .non (upd H p (.ins C dx (putF f z (putF "day" y []))))
abbrev s_Sum_init__ : Stmt := inClass (top 59) 0
abbrev nm_Sum_init__ : List Str := ["self", "day", "amount"]
abbrev pm_Sum_init__ : List Str := ["self", "day", "amount"]
theorem sc_Sum_init__ : FnScope nm_Sum_init__ pm_Sum_init__ (defScope s_Sum_init__) := ⟨rfl, rfl, rfl, by decide +kernel, rfl, by decide +kernel, by decide +kernel⟩
theorem ok_Sum_init__ (T : Txt K mg) {f : Addr} {fd : FuncData} (F : FnP K "__init__" "Sum.__init__" s_Sum_init__ f fd) : FnOk P w K mg base CX0 2 f fd pm_Sum_init__ (spSInit K "amount") := by
  refine fnok F sc_Sum_init__ (fun vs H Q E h => ?_) (fun cdv A outer s H vs Q E hr h => ?_)
  · obtain ⟨p, C, dx, y, z, rfl, _⟩ := h
    rfl
  · obtain ⟨p, C, dx, y, z, rfl, hp, c, n, n2, q⟩ := h
    have hu := hu_of hr
    have nd := sc_Sum_init__.nd
    have u_Entry := unb_Entry (P := P) (w := w) (base := base) T
    refine ⟨_, (pss_cons (ps_expr (pe_ub u_Entry hr (pa_cons (pv 0) (pa_cons (pv 1) pa_nil))))
        (pss_one (ps_fld (pv 0) (pv 2) rfl))), ?_⟩
    refine ⟨_, rfl, _, rfl, p, C, dx, y, [], rfl, hp, c, n, (by decide), ?_⟩
    refine ⟨_, rfl, _, rfl, p, C, dx, _, rfl, upd_same, c, n2, (by show 1 < 1000; decide), ?_⟩
    rw [upd_upd]
    exact q
abbrev s_Yearly_init__ : Stmt := inClass (top 65) 0
abbrev nm_Yearly_init__ : List Str := ["self", "day", "rate"]
abbrev pm_Yearly_init__ : List Str := ["self", "day", "rate"]
theorem sc_Yearly_init__ : FnScope nm_Yearly_init__ pm_Yearly_init__ (defScope s_Yearly_init__) := ⟨rfl, rfl, rfl, by decide +kernel, rfl, by decide +kernel, by decide +kernel⟩
theorem ok_Yearly_init__ (T : Txt K mg) {f : Addr} {fd : FuncData} (F : FnP K "__init__" "Yearly.__init__" s_Yearly_init__ f fd) : FnOk P w K mg base CX0 2 f fd pm_Yearly_init__ (spSInit K "rate") := by
  refine fnok F sc_Yearly_init__ (fun vs H Q E h => ?_) (fun cdv A outer s H vs Q E hr h => ?_)
  · obtain ⟨p, C, dx, y, z, rfl, _⟩ := h
    rfl
  · obtain ⟨p, C, dx, y, z, rfl, hp, c, n, n2, q⟩ := h
    have hu := hu_of hr
    have nd := sc_Yearly_init__.nd
    have u_Entry := unb_Entry (P := P) (w := w) (base := base) T
    refine ⟨_, (pss_cons (ps_expr (pe_ub u_Entry hr (pa_cons (pv 0) (pa_cons (pv 1) pa_nil))))
        (pss_one (ps_fld (pv 0) (pv 2) rfl))), ?_⟩
    refine ⟨_, rfl, _, rfl, p, C, dx, y, [], rfl, hp, c, n, (by decide), ?_⟩
    refine ⟨_, rfl, _, rfl, p, C, dx, _, rfl, upd_same, c, n2, (by show 1 < 1000; decide), ?_⟩
    rw [upd_upd]
    exact q
abbrev s_Still_init__ : Stmt := inClass (top 68) 0
abbrev nm_Still_init__ : List Str := ["self", "day", "until"]
abbrev pm_Still_init__ : List Str := ["self", "day", "until"]
theorem sc_Still_init__ : FnScope nm_Still_init__ pm_Still_init__ (defScope s_Still_init__) := ⟨rfl, rfl, rfl, by decide +kernel, rfl, by decide +kernel, by decide +kernel⟩
theorem ok_Still_init__ (T : Txt K mg) {f : Addr} {fd : FuncData} (F : FnP K "__init__" "Still.__init__" s_Still_init__ f fd) : FnOk P w K mg base CX0 2 f fd pm_Still_init__ (spSInit K "until") := by
  refine fnok F sc_Still_init__ (fun vs H Q E h => ?_) (fun cdv A outer s H vs Q E hr h => ?_)
  · obtain ⟨p, C, dx, y, z, rfl, _⟩ := h
    rfl
  · obtain ⟨p, C, dx, y, z, rfl, hp, c, n, n2, q⟩ := h
    have hu := hu_of hr
    have nd := sc_Still_init__.nd
    have u_Entry := unb_Entry (P := P) (w := w) (base := base) T
    refine ⟨_, (pss_cons (ps_expr (pe_ub u_Entry hr (pa_cons (pv 0) (pa_cons (pv 1) pa_nil))))
        (pss_one (ps_fld (pv 0) (pv 2) rfl))), ?_⟩
    refine ⟨_, rfl, _, rfl, p, C, dx, y, [], rfl, hp, c, n, (by decide), ?_⟩
    refine ⟨_, rfl, _, rfl, p, C, dx, _, rfl, upd_same, c, n2, (by show 1 < 1000; decide), ?_⟩
    rw [upd_upd]
    exact q
/-! ### made -/
theorem same_made {H : Hp} {x dx C : Addr} {fs : List (Str × V)} (nx : H x = none) (nd : H dx = none) : Same H (upd (upd (upd H dx (.own x)) x (.ins C dx [])) x (.ins C dx fs)) := fun b o e => by
  rw [upd_upd, upd_ne (ne_of_none e nx), upd_ne (ne_of_none e nd)]
  exact e
theorem mak_Out (T : Txt K mg) : Mak P w K mg base 2 "Out" (He.ga K "Out") (spSInit K "amount") := by
  obtain ⟨fd, F⟩ := T.fn_Out___init__
  exact mak_of T.mk_Out T.mg_Out F (ok_Sum_init__ T F) (fun _ _ _ _ _ _ us hl => match us, hl with | [_, _, _], _ => rfl)
theorem mak_Fee (T : Txt K mg) : Mak P w K mg base 2 "Fee" (He.ga K "Fee") (spSInit K "amount") := by
  obtain ⟨fd, F⟩ := T.fn_Fee___init__
  exact mak_of T.mk_Fee T.mg_Fee F (ok_Sum_init__ T F) (fun _ _ _ _ _ _ us hl => match us, hl with | [_, _, _], _ => rfl)
theorem mak_Pay (T : Txt K mg) : Mak P w K mg base 2 "Pay" (He.ga K "Pay") (spSInit K "amount") := by
  obtain ⟨fd, F⟩ := T.fn_Pay___init__
  exact mak_of T.mk_Pay T.mg_Pay F (ok_Sum_init__ T F) (fun _ _ _ _ _ _ us hl => match us, hl with | [_, _, _], _ => rfl)
theorem mak_Due (T : Txt K mg) : Mak P w K mg base 2 "Due" (He.ga K "Due") (spSInit K "amount") := by
  obtain ⟨fd, F⟩ := T.fn_Due___init__
  exact mak_of T.mk_Due T.mg_Due F (ok_Sum_init__ T F) (fun _ _ _ _ _ _ us hl => match us, hl with | [_, _, _], _ => rfl)
theorem mak_Turn (T : Txt K mg) : Mak P w K mg base 1 "Turn" (He.ga K "Turn") (spEInit K) := by
  obtain ⟨fd, F⟩ := T.fn_Turn___init__
  exact mak_of T.mk_Turn T.mg_Turn F (ok_Entry_init__ T F) (fun _ _ _ _ _ _ us hl => match us, hl with | [_, _], _ => rfl)
theorem mak_Rate (T : Txt K mg) : Mak P w K mg base 2 "Rate" (He.ga K "Rate") (spSInit K "rate") := by
  obtain ⟨fd, F⟩ := T.fn_Rate___init__
  exact mak_of T.mk_Rate T.mg_Rate F (ok_Yearly_init__ T F) (fun _ _ _ _ _ _ us hl => match us, hl with | [_, _, _], _ => rfl)
theorem mak_Late (T : Txt K mg) : Mak P w K mg base 2 "Late" (He.ga K "Late") (spSInit K "rate") := by
  obtain ⟨fd, F⟩ := T.fn_Late___init__
  exact mak_of T.mk_Late T.mg_Late F (ok_Yearly_init__ T F) (fun _ _ _ _ _ _ us hl => match us, hl with | [_, _, _], _ => rfl)
theorem mak_Still (T : Txt K mg) : Mak P w K mg base 2 "Still" (He.ga K "Still") (spSInit K "until") := by
  obtain ⟨fd, F⟩ := T.fn_Still___init__
  exact mak_of T.mk_Still T.mg_Still F (ok_Still_init__ T F) (fun _ _ _ _ _ _ us hl => match us, hl with | [_, _, _], _ => rfl)
end
end Lr

set_option maxHeartbeats 4000000
/-! Defs: entries made of rows. -/
namespace Lr
open PySem PySem.Spec PyProof.Rows L2
theorem putDay {f : Str} (y z : V) (h : ¬ (("day" : Str) = f)) : putF f z (putF "day" y []) = ([("day", y), (f, z)] : List (Str × V)) := by
  show (if ("day" : Str) = f then [(("day" : Str), z)] else (("day" : Str), y) :: putF f z []) = _
  rw [if_neg h]
  rfl
theorem vs_len (r : Row) : r.vs.length = if r.kd = .turn then 2 else 3 := by
  obtain ⟨k, d, t⟩ := r
  cases k <;> rfl
/-- what else the class of a kind has -/
def Kd.fd : Kd → Str
  | .rate | .late => "rate"
  | .still => "until"
  | _ => "amount"
theorem fl_put (k : Kd) (d t : Int) (h : k ≠ .turn) : putF k.fd (.int t) (putF "day" (.int d) []) = Row.fl ⟨k, d, t⟩ := by
  rw [putDay _ _ (by cases k <;> decide +kernel)]
  cases k <;> first | rfl | exact absurd rfl h
section
variable {P : Program} {w : World} {K : PySem.W.Frag} {mg : Str → Option Value} {base : Heap}
theorem Txt.naFd (T : Txt K mg) (k : Kd) (h : k ≠ .turn) : NoAttr K (He.ga K k.cls) k.fd := by
  cases k
  · exact T.na_Out_amount
  · exact T.na_Fee_amount
  · exact T.na_Pay_amount
  · exact T.na_Due_amount
  · exact absurd rfl h
  · exact T.na_Rate_rate
  · exact T.na_Late_rate
  · exact T.na_Still_until
theorem made_S (T : Txt K mg) (k : Kd) {d t : Int} {f : Str} (hk : k ≠ .turn) (hf : k.fd = f) {H : Hp} {Q : VK} (q : ∀ v' H', Same H H' → EntAt K H' v' ⟨k, d, t⟩ → Q v' H') :
    ∀ x dx, H x = none → H dx = none → dx ≠ x → spSInit K f [.ref x, .int d, .int t] (upd (upd H dx (.own x)) x (.ins (He.ga K k.cls) dx [])) (fun v H2 => v = .non ∧ Q (.ref x) H2) E0 := by
  subst hf
  intro x dx nx nd ne
  refine ⟨x, _, dx, _, _, rfl, upd_same, T.cl k, T.naDay k, T.naFd k hk, rfl, ?_⟩
  refine q _ _ (same_made nx nd) ⟨x, dx, rfl, ?_⟩
  rw [upd_same, fl_put k d t hk]
theorem made_T (T : Txt K mg) {d : Int} {H : Hp} {Q : VK} (q : ∀ v' H', Same H H' → EntAt K H' v' ⟨.turn, d, 0⟩ → Q v' H') :
    ∀ x dx, H x = none → H dx = none → dx ≠ x → spEInit K [.ref x, .int d] (upd (upd H dx (.own x)) x (.ins (He.ga K "Turn") dx [])) (fun v H2 => v = .non ∧ Q (.ref x) H2) E0 := by
  intro x dx nx nd ne
  refine ⟨x, _, dx, _, [], rfl, upd_same, T.cl .turn, T.naDay .turn, (by decide), rfl, ?_⟩
  exact q _ _ (same_made nx nd) ⟨x, dx, rfl, upd_same⟩
def spMadeOf (K : PySem.W.Frag) : Sp := fun vs H Q _ => ∃ (k : Kd) (d t : Int), vs = [.str k.word, .int d, .int t] ∧ k ≠ .turn ∧ ∀ v' H', Same H H' → EntAt K H' v' ⟨k, d, t⟩ → Q v' H'
abbrev s_made_of : Stmt := top 72
abbrev nm_made_of : List Str := ["word", "day", "thing"]
abbrev pm_made_of : List Str := ["word", "day", "thing"]
theorem sc_made_of : FnScope nm_made_of pm_made_of (defScope s_made_of) := ⟨rfl, rfl, rfl, by decide +kernel, rfl, by decide +kernel, by decide +kernel⟩
theorem ok_made_of (T : Txt K mg) {f : Addr} {fd : FuncData} (F : FnP K "made_of" "made_of" s_made_of f fd) : FnOk P w K mg base CX0 4 f fd pm_made_of (spMadeOf K) := by
  refine fnok F sc_made_of (fun vs H Q E h => ?_) (fun cdv A outer s H vs Q E hr h => ?_)
  · obtain ⟨k, d, t, rfl, _⟩ := h
    rfl
  · obtain ⟨k, d, t, rfl, hk, q⟩ := h
    have hu := hu_of hr
    have nd := sc_made_of.nd
    have k_Out := mak_Out (P := P) (w := w) (base := base) T; have k_Fee := mak_Fee (P := P) (w := w) (base := base) T; have k_Pay := mak_Pay (P := P) (w := w) (base := base) T; have k_Due := mak_Due (P := P) (w := w) (base := base) T; have k_Rate := mak_Rate (P := P) (w := w) (base := base) T; have k_Late := mak_Late (P := P) (w := w) (base := base) T; have k_Still := mak_Still (P := P) (w := w) (base := base) T
    refine ⟨_, (pss_cons (ps_if (pt_cmpR op_eq (pv 0) pe_str (nomark _))
        (pss_one (ps_ret (pe_mk k_Out hr (pa_cons (pv 1) (pa_cons (pv 2) pa_nil)))))
        pss_nil)
        (pss_cons (ps_if (pt_cmpR op_eq (pv 0) pe_str (nomark _))
        (pss_one (ps_ret (pe_mk k_Fee hr (pa_cons (pv 1) (pa_cons (pv 2) pa_nil)))))
        pss_nil)
        (pss_cons (ps_if (pt_cmpR op_eq (pv 0) pe_str (nomark _))
        (pss_one (ps_ret (pe_mk k_Pay hr (pa_cons (pv 1) (pa_cons (pv 2) pa_nil)))))
        pss_nil)
        (pss_cons (ps_if (pt_cmpR op_eq (pv 0) pe_str (nomark _))
        (pss_one (ps_ret (pe_mk k_Due hr (pa_cons (pv 1) (pa_cons (pv 2) pa_nil)))))
        pss_nil)
        (pss_cons (ps_if (pt_cmpR op_eq (pv 0) pe_str (nomark _))
        (pss_one (ps_ret (pe_mk k_Rate hr (pa_cons (pv 1) (pa_cons (pv 2) pa_nil)))))
        pss_nil)
        (pss_cons (ps_if (pt_cmpR op_eq (pv 0) pe_str (nomark _))
        (pss_one (ps_ret (pe_mk k_Late hr (pa_cons (pv 1) (pa_cons (pv 2) pa_nil)))))
        pss_nil)
        (pss_one (ps_ret (pe_mk k_Still hr (pa_cons (pv 1) (pa_cons (pv 2) pa_nil))))))))))), ?_⟩
    cases k
    · exact ⟨_, rfl, rfl, _, rfl, iteD rfl ⟨_, rfl, _, rfl, made_S T .out hk rfl q⟩⟩
    · refine ⟨_, rfl, rfl, _, rfl, iteDF (by decide +kernel) ?_⟩
      exact ⟨_, rfl, rfl, _, rfl, iteD rfl ⟨_, rfl, _, rfl, made_S T .fee hk rfl q⟩⟩
    · iterate 2 refine ⟨_, rfl, rfl, _, rfl, iteDF (by decide +kernel) ?_⟩
      exact ⟨_, rfl, rfl, _, rfl, iteD rfl ⟨_, rfl, _, rfl, made_S T .pay hk rfl q⟩⟩
    · iterate 3 refine ⟨_, rfl, rfl, _, rfl, iteDF (by decide +kernel) ?_⟩
      exact ⟨_, rfl, rfl, _, rfl, iteD rfl ⟨_, rfl, _, rfl, made_S T .due hk rfl q⟩⟩
    · exact absurd rfl hk
    · iterate 4 refine ⟨_, rfl, rfl, _, rfl, iteDF (by decide +kernel) ?_⟩
      exact ⟨_, rfl, rfl, _, rfl, iteD rfl ⟨_, rfl, _, rfl, made_S T .rate hk rfl q⟩⟩
    · iterate 5 refine ⟨_, rfl, rfl, _, rfl, iteDF (by decide +kernel) ?_⟩
      exact ⟨_, rfl, rfl, _, rfl, iteD rfl ⟨_, rfl, _, rfl, made_S T .late hk rfl q⟩⟩
    · iterate 6 refine ⟨_, rfl, rfl, _, rfl, iteDF (by decide +kernel) ?_⟩
      exact ⟨_, rfl, _, rfl, made_S T .still hk rfl q⟩
theorem cal_made_of (T : Txt K mg) : Cal P w K mg base 4 "made_of" (spMadeOf K) := by
  obtain ⟨fd, F⟩ := T.fn_made_of
  exact cal_of F T.mg_made_of (ok_made_of T F) (fun _ _ _ _ _ _ us hl => match us, hl with | [_, _, _], _ => rfl)
def spEntryOf (K : PySem.W.Frag) : Sp := fun vs H Q _ => ∃ (v : V) (r : Row), vs = [v] ∧ RowAt H v r ∧ r.Ok ∧ ∀ v' H', Same H H' → EntAt K H' v' r → Q v' H'
abbrev s_entry_of : Stmt := top 73
abbrev nm_entry_of : List Str := ["row"]
abbrev pm_entry_of : List Str := ["row"]
theorem sc_entry_of : FnScope nm_entry_of pm_entry_of (defScope s_entry_of) := ⟨rfl, rfl, rfl, by decide +kernel, rfl, by decide +kernel, by decide +kernel⟩
theorem ok_entry_of (T : Txt K mg) {f : Addr} {fd : FuncData} (F : FnP K "entry_of" "entry_of" s_entry_of f fd) : FnOk P w K mg base CX0 5 f fd pm_entry_of (spEntryOf K) := by
  refine fnok F sc_entry_of (fun vs H Q E h => ?_) (fun cdv A outer s H vs Q E hr h => ?_)
  · obtain ⟨v, r, rfl, _⟩ := h
    rfl
  · obtain ⟨v, r, rfl, hv, ok, q⟩ := h
    have hu := hu_of hr
    have nd := sc_entry_of.nd
    have k_made_of := cal_made_of (P := P) (w := w) (base := base) T
    have k_is_tail := cal_is_tail (P := P) (w := w) (base := base) T
    have k_is_day := cal_is_day (P := P) (w := w) (base := base) T
    have k_size_of := cal_size_of (P := P) (w := w) (base := base) T
    have k_Turn := mak_Turn (P := P) (w := w) (base := base) T
    refine ⟨_, (pss_cons (ps_if (PW.pt (pw_or (pt_not (pt_val (pe_callB call_isi rfl T.no_isinstance boot_isinstance (pa_cons (pv 0) (pa_cons (pe_bltn (v := .ty "tuple") rfl T.no_tuple boot_tuple rfl) pa_nil))))) (pw_or (pt_cmpR op_eq (pe_callB call_len rfl T.no_len boot_len (pa_cons (pv 0) pa_nil)) pe_int (nomark _)) (pw_or1 (pt_cmpR op_ne (pe_callB call_len rfl T.no_len boot_len (pa_cons (pv 0) pa_nil)) (pe_c k_size_of hr (pa_cons (pe_ix ix_tup (pv 0) pe_int (fun _ _ => rfl)) pa_nil)) (nomark _))))))
        (pss_one ps_never)
        pss_nil)
        (pss_cons (ps_if (pt_not (pt_val (pe_c k_is_day hr (pa_cons (pe_ix ix_tup (pv 0) pe_int (fun _ _ => rfl)) pa_nil))))
        (pss_one ps_never)
        pss_nil)
        (pss_cons (ps_if (pt_cmpR op_eq (pe_ix ix_tup (pv 0) pe_int (fun _ _ => rfl)) pe_str (nomark _))
        (pss_one (ps_ret (pe_mk k_Turn hr (pa_cons (pe_ix ix_tup (pv 0) pe_int (fun _ _ => rfl)) pa_nil))))
        pss_nil)
        (pss_cons (ps_if (pt_not (pt_val (pe_c k_is_tail hr (pa_cons (pe_ix ix_tup (pv 0) pe_int (fun _ _ => rfl)) (pa_cons (pe_ix ix_tup (pv 0) pe_int (fun _ _ => rfl)) (pa_cons (pe_ix ix_tup (pv 0) pe_int (fun _ _ => rfl)) pa_nil))))))
        (pss_one ps_never)
        pss_nil)
        (pss_one (ps_ret (pe_c k_made_of hr (pa_cons (pe_ix ix_tup (pv 0) pe_int (fun _ _ => rfl)) (pa_cons (pe_ix ix_tup (pv 0) pe_int (fun _ _ => rfl)) (pa_cons (pe_ix ix_tup (pv 0) pe_int (fun _ _ => rfl)) pa_nil)))))))))), ?_⟩
    obtain ⟨p, rfl, hp⟩ := hv
    obtain ⟨k, d, t⟩ := r
    obtain ⟨⟨d0, d1⟩, tok⟩ := ok
    have a0 : atI (Row.vs ⟨k, d, t⟩) 0 = some (.str k.word) := atI_nat (j := 0) rfl
    have a1 : atI (Row.vs ⟨k, d, t⟩) 1 = some (.int d) := atI_nat (j := 1) rfl
    -- isinstance(row, tuple), len(row) == 0, len(row) != size_of(row[0])
    refine ⟨_, rfl, _, _, _, _, _, rfl, .ty _, .base (.tup hp), kTT, _, rfl, iteF ?_⟩
    refine ⟨_, rfl, .ref p, if k = .turn then 2 else 3, rfl, .inr ⟨_, SqT.of hp, (vs_len ⟨k, d, t⟩).symm⟩, rfl, _, rfl, iteDF (fun z => ?_) ?_⟩
    · injection z with z
      split at z <;> omega
    refine ⟨_, rfl, .ref p, if k = .turn then 2 else 3, rfl, .inr ⟨_, SqT.of hp, (vs_len ⟨k, d, t⟩).symm⟩, ?_⟩
    refine ⟨_, rfl, p, _, _, _, rfl, rfl, SqT.of hp, a0, k, rfl, fun H1 s1 => ⟨rfl, _, rfl, iteN (congrArg V.int (by split <;> rfl)) ?_⟩⟩
    have hp1 := s1 _ _ hp
    -- is_day(row[1])
    refine ⟨_, rfl, p, _, _, _, rfl, rfl, SqT.of hp1, a1, d, rfl, ⟨d0, d1⟩, _, rfl, iteF ?_⟩
    -- row[0] == "turn"
    refine ⟨_, rfl, p, _, _, _, rfl, rfl, SqT.of hp1, a0, rfl, _, rfl, ?_⟩
    by_cases hk : k = .turn
    · subst hk
      have et : t = 0 := tok
      subst et
      exact iteD rfl ⟨_, rfl, p, _, _, _, rfl, rfl, SqT.of hp1, a1, made_T T fun v' H' s' e => q v' H' (s1.trans s') e⟩
    · refine iteDF (fun z => hk (by revert z; cases k <;> decide +kernel)) ?_
      have a2 : atI (Row.vs ⟨k, d, t⟩) 2 = some (.int t) := atI_nat (j := 2) (by revert hk; cases k <;> first | (intro; rfl) | (intro hk; exact absurd rfl hk))
      -- is_tail(row[0], row[1], row[2])
      refine ⟨_, rfl, p, _, _, _, rfl, rfl, SqT.of hp1, a0, _, rfl, p, _, _, _, rfl, rfl, SqT.of hp1, a1, _, rfl, p, _, _, _, rfl, rfl, SqT.of hp1, a2, k, d, t, rfl, hk, tok, fun H2 s2 => ⟨_, rfl, iteF ?_⟩⟩
      have hp2 := s2 _ _ hp1
      exact ⟨_, rfl, p, _, _, _, rfl, rfl, SqT.of hp2, a0, _, rfl, p, _, _, _, rfl, rfl, SqT.of hp2, a1, _, rfl, p, _, _, _, rfl, rfl, SqT.of hp2, a2, k, d, t, rfl, hk, fun v' H' s' e => q v' H' ((s1.trans s2).trans s') e⟩
theorem cal_entry_of (T : Txt K mg) : Cal P w K mg base 5 "entry_of" (spEntryOf K) := by
  obtain ⟨fd, F⟩ := T.fn_entry_of
  exact cal_of F T.mg_entry_of (ok_entry_of T F) (fun _ _ _ _ _ _ us hl => match us, hl with | [_], _ => rfl)
end
end Lr

set_option maxHeartbeats 4000000
/-! Defs: counts, the bare book. -/
namespace Lr
open PySem PySem.Spec PyProof.Rows L2
inductive Ct where
  | plain | bank | thirty | exact
  deriving DecidableEq
def Ct.cls : Ct → Str
  | .plain => "Count" | .bank => "Bank" | .thirty => "Thirty" | .exact => "Exact"
def Ct.name : Ct → Str
  | .plain => "plain" | .bank => "bank" | .thirty => "thirty" | .exact => "exact"
def Ct.ix : Ct → Nat
  | .plain => 0 | .bank => 1 | .thirty => 2 | .exact => 3
def CtAt (K : PySem.W.Frag) (H : Hp) (v : V) (c : Ct) : Prop := ∃ p dx, v = .ref p ∧ H p = some (.ins (He.ga K c.cls) dx [])
theorem CtAt.keep {K : PySem.W.Frag} {H H' : Hp} {v : V} {c : Ct} (h : CtAt K H v c) (s : Same H H') : CtAt K H' v c := let ⟨p, dx, e, q⟩ := h; ⟨p, dx, e, s _ _ q⟩
theorem Ct.name_ne {c d : Ct} (h : c ≠ d) : ¬ V.str c.name = V.str d.name := by
  revert h
  cases c <;> cases d <;> first | (intro h; exact absurd rfl h) | (intro _; decide +kernel)
abbrev tNoT : TT := fun _ _ _ => False
theorem pt_no {X : Cx} {e : Expr} : PT X e tNoT := ⟨fun _ _ _ _ _ _ h => h.elim⟩
theorem put2 {f g : Str} (y z : V) (h : ¬ (g = f)) : putF f z (putF g y []) = ([(g, y), (f, z)] : List (Str × V)) := by
  show (if g = f then [(g, z)] else (g, y) :: putF f z []) = _
  rw [if_neg h]
  rfl
section
variable {P : Program} {w : World} {K : PySem.W.Frag} {mg : Str → Option Value} {base : Heap}
theorem Txt.clC (T : Txt K mg) (k : Ct) : Cls K (He.ga K k.cls) := by
  cases k
  · exact T.cl_Count
  · exact T.cl_Bank
  · exact T.cl_Thirty
  · exact T.cl_Exact
theorem Txt.isC (T : Txt K mg) (k : Ct) : inst0 K k.cls = true := by
  cases k
  · exact T.is_Count
  · exact T.is_Bank
  · exact T.is_Thirty
  · exact T.is_Exact
theorem Txt.suC (T : Txt K mg) (k : Ct) : sub0 K k.cls "Count" = true := by
  cases k
  · exact T.su_Count_Count
  · exact T.su_Bank_Count
  · exact T.su_Thirty_Count
  · exact T.su_Exact_Count
def spName (c : Ct) : Sp := fun vs H Q _ => ∃ v : V, vs = [v] ∧ Q (.str c.name) H
abbrev s_Count_name : Stmt := inClass (top 49) 0
abbrev nm_Count_name : List Str := ["self"]
abbrev pm_Count_name : List Str := ["self"]
theorem sc_Count_name : FnScope nm_Count_name pm_Count_name (defScope s_Count_name) := ⟨rfl, rfl, rfl, by decide +kernel, rfl, by decide +kernel, by decide +kernel⟩
theorem ok_Count_name (T : Txt K mg) {f : Addr} {fd : FuncData} (F : FnP K "name" "Count.name" s_Count_name f fd) : FnOk P w K mg base CX0 1 f fd pm_Count_name (spName .plain) := by
  refine fnok F sc_Count_name (fun vs H Q E h => ?_) (fun cdv A outer s H vs Q E hr h => ?_)
  · obtain ⟨v, rfl, _⟩ := h
    rfl
  · obtain ⟨v, rfl, q⟩ := h
    have hu := hu_of hr
    have nd := sc_Count_name.nd
    refine ⟨_, (pss_one (ps_ret pe_str)), ?_⟩
    exact q
theorem met_Count_name (T : Txt K mg) : Met P w K mg base 1 (He.ga K "Count") "name" (spName .plain) := by
  obtain ⟨fd, F⟩ := T.fn_Count_name
  exact met_of T.cl_Count T.me_Count_name F (ok_Count_name T F) (fun _ _ _ _ _ _ us hl => match us, hl with | [_], _ => rfl)
abbrev s_Bank_name : Stmt := inClass (top 50) 0
abbrev nm_Bank_name : List Str := ["self"]
abbrev pm_Bank_name : List Str := ["self"]
theorem sc_Bank_name : FnScope nm_Bank_name pm_Bank_name (defScope s_Bank_name) := ⟨rfl, rfl, rfl, by decide +kernel, rfl, by decide +kernel, by decide +kernel⟩
theorem ok_Bank_name (T : Txt K mg) {f : Addr} {fd : FuncData} (F : FnP K "name" "Bank.name" s_Bank_name f fd) : FnOk P w K mg base CX0 1 f fd pm_Bank_name (spName .bank) := by
  refine fnok F sc_Bank_name (fun vs H Q E h => ?_) (fun cdv A outer s H vs Q E hr h => ?_)
  · obtain ⟨v, rfl, _⟩ := h
    rfl
  · obtain ⟨v, rfl, q⟩ := h
    have hu := hu_of hr
    have nd := sc_Bank_name.nd
    refine ⟨_, (pss_one (ps_ret pe_str)), ?_⟩
    exact q
theorem met_Bank_name (T : Txt K mg) : Met P w K mg base 1 (He.ga K "Bank") "name" (spName .bank) := by
  obtain ⟨fd, F⟩ := T.fn_Bank_name
  exact met_of T.cl_Bank T.me_Bank_name F (ok_Bank_name T F) (fun _ _ _ _ _ _ us hl => match us, hl with | [_], _ => rfl)
abbrev s_Thirty_name : Stmt := inClass (top 51) 0
abbrev nm_Thirty_name : List Str := ["self"]
abbrev pm_Thirty_name : List Str := ["self"]
theorem sc_Thirty_name : FnScope nm_Thirty_name pm_Thirty_name (defScope s_Thirty_name) := ⟨rfl, rfl, rfl, by decide +kernel, rfl, by decide +kernel, by decide +kernel⟩
theorem ok_Thirty_name (T : Txt K mg) {f : Addr} {fd : FuncData} (F : FnP K "name" "Thirty.name" s_Thirty_name f fd) : FnOk P w K mg base CX0 1 f fd pm_Thirty_name (spName .thirty) := by
  refine fnok F sc_Thirty_name (fun vs H Q E h => ?_) (fun cdv A outer s H vs Q E hr h => ?_)
  · obtain ⟨v, rfl, _⟩ := h
    rfl
  · obtain ⟨v, rfl, q⟩ := h
    have hu := hu_of hr
    have nd := sc_Thirty_name.nd
    refine ⟨_, (pss_one (ps_ret pe_str)), ?_⟩
    exact q
theorem met_Thirty_name (T : Txt K mg) : Met P w K mg base 1 (He.ga K "Thirty") "name" (spName .thirty) := by
  obtain ⟨fd, F⟩ := T.fn_Thirty_name
  exact met_of T.cl_Thirty T.me_Thirty_name F (ok_Thirty_name T F) (fun _ _ _ _ _ _ us hl => match us, hl with | [_], _ => rfl)
abbrev s_Exact_name : Stmt := inClass (top 52) 0
abbrev nm_Exact_name : List Str := ["self"]
abbrev pm_Exact_name : List Str := ["self"]
theorem sc_Exact_name : FnScope nm_Exact_name pm_Exact_name (defScope s_Exact_name) := ⟨rfl, rfl, rfl, by decide +kernel, rfl, by decide +kernel, by decide +kernel⟩
theorem ok_Exact_name (T : Txt K mg) {f : Addr} {fd : FuncData} (F : FnP K "name" "Exact.name" s_Exact_name f fd) : FnOk P w K mg base CX0 1 f fd pm_Exact_name (spName .exact) := by
  refine fnok F sc_Exact_name (fun vs H Q E h => ?_) (fun cdv A outer s H vs Q E hr h => ?_)
  · obtain ⟨v, rfl, _⟩ := h
    rfl
  · obtain ⟨v, rfl, q⟩ := h
    have hu := hu_of hr
    have nd := sc_Exact_name.nd
    refine ⟨_, (pss_one (ps_ret pe_str)), ?_⟩
    exact q
theorem met_Exact_name (T : Txt K mg) : Met P w K mg base 1 (He.ga K "Exact") "name" (spName .exact) := by
  obtain ⟨fd, F⟩ := T.fn_Exact_name
  exact met_of T.cl_Exact T.me_Exact_name F (ok_Exact_name T F) (fun _ _ _ _ _ _ us hl => match us, hl with | [_], _ => rfl)
theorem met_name (T : Txt K mg) (k : Ct) : Met P w K mg base 1 (He.ga K k.cls) "name" (spName k) := by
  cases k
  · exact met_Count_name T
  · exact met_Bank_name T
  · exact met_Thirty_name T
  · exact met_Exact_name T
def spCount (K : PySem.W.Frag) : Sp := fun vs H Q _ => ∃ c : Ct, vs = [.str c.name] ∧ ∀ v H', Same H H' → CtAt K H' v c → Q v H'
abbrev s_count_named : Stmt := top 53
abbrev nm_count_named : List Str := ["text", "count"]
abbrev pm_count_named : List Str := ["text"]
theorem sc_count_named : FnScope nm_count_named pm_count_named (defScope s_count_named) := ⟨rfl, rfl, rfl, by decide +kernel, rfl, by decide +kernel, by decide +kernel⟩
theorem ok_count_named (T : Txt K mg) {f : Addr} {fd : FuncData} (F : FnP K "count_named" "count_named" s_count_named f fd) : FnOk P w K mg base CX0 2 f fd pm_count_named (spCount K) := by
  refine fnok F sc_count_named (fun vs H Q E h => ?_) (fun cdv A outer s H vs Q E hr h => ?_)
  · obtain ⟨c, rfl, _⟩ := h
    rfl
  · obtain ⟨c, rfl, q⟩ := h
    have hu := hu_of hr
    have nd := sc_count_named.nd
    refine ⟨_, (pss_cons (ps_if (pt_val (pe_callB call_isi rfl T.no_isinstance boot_isinstance (pa_cons (pv 0) (pa_cons (pe_bltn (v := .ty "str") rfl T.no_str boot_str rfl) pa_nil))))
        (pss_one (ps_for PassesOwn.never rfl (pi_list (pe_lst (pa_cons (pe_made0 T.mg_Count T.m0_Count) (pa_cons (pe_made0 T.mg_Bank T.m0_Bank) (pa_cons (pe_made0 T.mg_Thirty T.m0_Thirty) (pa_cons (pe_made0 T.mg_Exact T.m0_Exact) pa_nil)))))) (pg_name (i := 1) nd rfl (by first | exact Or.inl rfl | exact Or.inr rfl))
        (pss_one (ps_if (pt_cmpR op_eq (pe_mt0 hr (pv 1)) (pv 0) (nomark _))
        (pss_one (ps_ret (pv 1)))
        pss_nil))))
        pss_nil)
        (pss_one ps_never)), ?_⟩
    refine ⟨_, rfl, _, _, _, _, _, rfl, .ty _, .base (.str _), kSS, _, rfl, iteT ?_⟩
    intro x0 d0 H0 s0 n0 h0 x1 d1 H1 s1 n1 h1 x2 d2 H2 s2 n2 h2 x3 d3 H3 s3 n3 h3
    refine ⟨(by show 4 ≤ sizeLine; decide), fun l nl => ?_⟩
    obtain ⟨G, eG, s4, hl⟩ := upd_abs H3 l (.lst [.ref x0, .ref x1, .ref x2, .ref x3]) nl
    rw [eG]
    have sA := (((s0.trans s1).trans s2).trans s3).trans s4
    replace h0 := (((s1.trans s2).trans s3).trans s4) _ _ h0
    replace h1 := ((s2.trans s3).trans s4) _ _ h1
    replace h2 := (s3.trans s4) _ _ h2
    replace h3 := s4 _ _ h3
    refine ⟨l, rfl, ⟨_, SqL.of hl⟩, for_list (K := K) (a := l) (xs := [.ref x0, .ref x1, .ref x2, .ref x3]) (fun i σ G' => G' = G ∧ i ≤ c.ix ∧ ∃ v, σ = [some (.str c.name), v]) ⟨rfl, Nat.zero_le _, none, rfl⟩ (fun i σ G' _ h => by rw [h.1]; exact SqL.of hl) ?_ ?_⟩
    · rintro i y σ G' hi ⟨rfl, hc, v, rfl⟩
      obtain ⟨ci, x, d, rfl, hx, hix⟩ : ∃ (ci : Ct) (x d : Addr), y = .ref x ∧ G' x = some (.ins (He.ga K ci.cls) d []) ∧ ci.ix = i := by
        rcases i with _ | _ | _ | _ | i
        · cases hi
          exact ⟨.plain, _, _, rfl, h0, rfl⟩
        · cases hi
          exact ⟨.bank, _, _, rfl, h1, rfl⟩
        · cases hi
          exact ⟨.thirty, _, _, rfl, h2, rfl⟩
        · cases hi
          exact ⟨.exact, _, _, rfl, h3, rfl⟩
        · cases hi
      refine ⟨_, rfl, _, spName ci, x, d, [], rfl, hx, met_name T ci, rfl, _, rfl, _, rfl, rfl, _, rfl, ?_⟩
      by_cases e : ci = c
      · subst e
        exact iteD rfl ⟨_, rfl, q _ _ sA ⟨x, d, rfl, hx⟩⟩
      · refine iteDF (Ct.name_ne e) ⟨rfl, ?_, _, rfl⟩
        have : ci.ix ≠ c.ix := by
          revert e
          cases ci <;> cases c <;> decide
        omega
    · rintro σ G' ⟨_, h, _⟩
      have h4 : 4 ≤ c.ix := h
      exfalso
      revert h4
      cases c <;> decide
theorem cal_count_named (T : Txt K mg) : Cal P w K mg base 2 "count_named" (spCount K) := by
  obtain ⟨fd, F⟩ := T.fn_count_named
  exact cal_of F T.mg_count_named (ok_count_named T F) (fun _ _ _ _ _ _ us hl => match us, hl with | [_], _ => rfl)
/-! ### the bare book -/
def spTold (K : PySem.W.Frag) : Sp := fun vs H Q _ => ∃ (e : Addr) (y : V), vs = [.ref e, y] ∧ SqL K H e [] ∧ ∀ p H', Same H H' → H' p = some (.lst []) → Q (.ref p) H'
abbrev s_told_as : Stmt := top 79
abbrev nm_told_as : List Str := ["entries", "word", "entry"]
abbrev pm_told_as : List Str := ["entries", "word"]
theorem sc_told_as : FnScope nm_told_as pm_told_as (defScope s_told_as) := ⟨rfl, rfl, rfl, by decide +kernel, rfl, by decide +kernel, by decide +kernel⟩
theorem ok_told_as (T : Txt K mg) {f : Addr} {fd : FuncData} (F : FnP K "told_as" "told_as" s_told_as f fd) : FnOk P w K mg base CX0 1 f fd pm_told_as (spTold K) := by
  refine fnok F sc_told_as (fun vs H Q E h => ?_) (fun cdv A outer s H vs Q E hr h => ?_)
  · obtain ⟨e, y, rfl, _⟩ := h
    rfl
  · obtain ⟨e, y, rfl, he, q⟩ := h
    have hu := hu_of hr
    have nd := sc_told_as.nd
    refine ⟨_, (pss_one (ps_ret (pe_lc (own := [("entry", 2)]) (g := (gName 2)) rfl nd (pi_list (pv 0)) (blkOk_by (N := nm_told_as) (sc := defScope s_told_as) (by decide +kernel)) (fun _ _ _ _ _ => (pg_name (i := 2) nd rfl (by first | exact Or.inl rfl | exact Or.inr rfl))) (fun _ _ _ _ _ => (pts_one pt_no)) (fun _ _ _ _ _ => (pv 2))))), ?_⟩
    refine ⟨_, rfl, e, rfl, ⟨_, he⟩, fun D nD => ?_⟩
    refine lc_list (K := K) (a := e) (xs := []) (fun i G => Same H G ∧ G D = some (.lst [])) ⟨same_upd nD, upd_same⟩ (fun i G _ h => h.1.seq he) (fun i x G hi => by simp at hi) (fun G h => q D G h.1 h.2)
theorem cal_told_as (T : Txt K mg) : Cal P w K mg base 1 "told_as" (spTold K) := by
  obtain ⟨fd, F⟩ := T.fn_told_as
  exact cal_of F T.mg_told_as (ok_told_as T F) (fun _ _ _ _ _ _ us hl => match us, hl with | [_, _], _ => rfl)
def spJoined (K : PySem.W.Frag) : Sp := fun vs H Q _ => ∃ e : Addr, vs = [.ref e] ∧ SqL K H e [] ∧ ∀ p H', Same H H' → Q (.ref p) H'
abbrev s_joined : Stmt := top 10
abbrev nm_joined : List Str := ["spans", "found", "first", "last"]
abbrev pm_joined : List Str := ["spans"]
theorem sc_joined : FnScope nm_joined pm_joined (defScope s_joined) := ⟨rfl, rfl, rfl, by decide +kernel, rfl, by decide +kernel, by decide +kernel⟩
theorem ok_joined (T : Txt K mg) {f : Addr} {fd : FuncData} (F : FnP K "joined" "joined" s_joined f fd) : FnOk P w K mg base CX0 1 f fd pm_joined (spJoined K) := by
  refine fnok F sc_joined (fun vs H Q E h => ?_) (fun cdv A outer s H vs Q E hr h => ?_)
  · obtain ⟨e, rfl, _⟩ := h
    rfl
  · obtain ⟨e, rfl, he, q⟩ := h
    have hu := hu_of hr
    have nd := sc_joined.nd
    refine ⟨_, (pss_cons (ps_set (i := 1) nd rfl (by first | exact Or.inl rfl | exact Or.inr rfl) (pe_lst pa_nil))
        (pss_cons (ps_for PassesOwn.never rfl (pi_list (pe_callB cr_sorted rfl T.no_sorted boot_sorted (pa_cons (pv 0) pa_nil))) (pg_tup rfl (pgs_cons (pg_name (i := 2) nd rfl (by first | exact Or.inl rfl | exact Or.inr rfl)) (pgs_cons (pg_name (i := 3) nd rfl (by first | exact Or.inl rfl | exact Or.inr rfl)) pgs_nil)))
        (pss_one ps_never))
        (pss_one (ps_ret (pv 1))))), ?_⟩
    refine ⟨Nat.zero_le _, fun p np => ?_⟩
    obtain ⟨G, eG, s1, hp⟩ := upd_abs H p (.lst []) np
    rw [eG]
    refine ⟨_, rfl, e, [], rfl, s1.seq he, (by decide), fun ns d pm _ nd => ?_⟩
    obtain rfl : ns = [] := List.Perm.eq_nil pm
    obtain ⟨G2, eG2, s2, hd⟩ := upd_abs G d (.lst (([] : List Int).map V.int)) nd
    rw [eG2]
    refine ⟨d, rfl, ⟨_, SqL.of hd⟩, for_list (K := K) (a := d) (xs := []) (fun i σ G' => G' = G2 ∧ ∃ a b c, σ = [a, some (.ref p), b, c]) ⟨rfl, _, _, _, rfl⟩ (fun i σ G' _ h => by rw [h.1]; exact SqL.of hd) (fun i x σ G' hi => by simp at hi) ?_⟩
    rintro σ G' ⟨rfl, a, b, c, rfl⟩
    exact ⟨_, rfl, q p _ (s1.trans s2)⟩
theorem cal_joined (T : Txt K mg) : Cal P w K mg base 1 "joined" (spJoined K) := by
  obtain ⟨fd, F⟩ := T.fn_joined
  exact cal_of F T.mg_joined (ok_joined T F) (fun _ _ _ _ _ _ us hl => match us, hl with | [_], _ => rfl)
def spDues (K : PySem.W.Frag) : Sp := fun vs H Q _ => ∃ (e : Addr) (y : V), vs = [.ref e, y] ∧ SqL K H e [] ∧ ∀ p H', Same H H' → Q (.ref p) H'
abbrev s_dues_of : Stmt := top 80
abbrev nm_dues_of : List Str := ["entries", "spans", "falling", "entry", "day"]
abbrev pm_dues_of : List Str := ["entries", "spans"]
theorem sc_dues_of : FnScope nm_dues_of pm_dues_of (defScope s_dues_of) := ⟨rfl, rfl, rfl, by decide +kernel, rfl, by decide +kernel, by decide +kernel⟩
theorem ok_dues_of (T : Txt K mg) {f : Addr} {fd : FuncData} (F : FnP K "dues_of" "dues_of" s_dues_of f fd) : FnOk P w K mg base CX0 2 f fd pm_dues_of (spDues K) := by
  refine fnok F sc_dues_of (fun vs H Q E h => ?_) (fun cdv A outer s H vs Q E hr h => ?_)
  · obtain ⟨e, y, rfl, _⟩ := h
    rfl
  · obtain ⟨e, y, rfl, he, q⟩ := h
    have hu := hu_of hr
    have nd := sc_dues_of.nd
    have k_told_as := cal_told_as (P := P) (w := w) (base := base) T
    refine ⟨_, (pss_cons (ps_set (i := 2) nd rfl (by first | exact Or.inl rfl | exact Or.inr rfl) pe_dnewK)
        (pss_cons (ps_for PassesOwn.never rfl (pi_list (pe_c k_told_as hr (pa_cons (pv 0) (pa_cons pe_str pa_nil)))) (pg_name (i := 3) nd rfl (by first | exact Or.inl rfl | exact Or.inr rfl))
        (pss_cons ps_never
        (pss_one ps_never)))
        (pss_one (ps_ret (pe_callB (cr_sortedIK rfl) rfl T.no_sorted boot_sorted (pa_cons (pe_bm0 PySem.F.plainAttrs_dict PySem.F.slot_dict_items PySem.F.type_dict_items mt_itemsK (pv 2)) pa_nil)))))), ?_⟩
    intro d nd
    obtain ⟨G, eG, s1, hd⟩ := upd_abs H d (.dK []) nd
    rw [eG]
    refine ⟨_, rfl, e, _, rfl, s1.seq he, fun l G2 s2 hl => ?_⟩
    refine ⟨l, rfl, ⟨_, SqL.of hl⟩, for_list (K := K) (a := l) (xs := []) (fun i σ G' => G' = G2 ∧ ∃ a b c e, σ = [a, b, some (.ref d), c, e]) ⟨rfl, _, _, _, _, rfl⟩ (fun i σ G' _ h => by rw [h.1]; exact SqL.of hl) (fun i x σ G' hi => by simp at hi) ?_⟩
    rintro σ G' ⟨rfl, a, b, c, e', rfl⟩
    have hd2 := s2 _ _ hd
    refine ⟨_, rfl, .inr (.inr (.inl ⟨rfl, .inl ⟨_, hd2⟩⟩)), d, [], rfl, rfl, hd2, fun v nv => ?_⟩
    have s3 := same_upd (o := DX.itemsO v d) nv
    exact ⟨v, d, [], rfl, upd_same, s3 _ _ hd2, List.nodup_nil, fun H' p ps s4 _ _ _ _ _ => q p H' (((s1.trans s2).trans s3).trans s4)⟩
theorem cal_dues_of (T : Txt K mg) : Cal P w K mg base 2 "dues_of" (spDues K) := by
  obtain ⟨fd, F⟩ := T.fn_dues_of
  exact cal_of F T.mg_dues_of (ok_dues_of T F) (fun _ _ _ _ _ _ us hl => match us, hl with | [_, _], _ => rfl)
abbrev s_sum_by : Stmt := top 74
abbrev nm_sum_by : List Str := ["entries", "word", "found", "entry"]
abbrev pm_sum_by : List Str := ["entries", "word"]
theorem sc_sum_by : FnScope nm_sum_by pm_sum_by (defScope s_sum_by) := ⟨rfl, rfl, rfl, by decide +kernel, rfl, by decide +kernel, by decide +kernel⟩
theorem ok_sum_by (T : Txt K mg) {f : Addr} {fd : FuncData} (F : FnP K "sum_by" "sum_by" s_sum_by f fd) : FnOk P w K mg base CX0 1 f fd pm_sum_by (spDues K) := by
  refine fnok F sc_sum_by (fun vs H Q E h => ?_) (fun cdv A outer s H vs Q E hr h => ?_)
  · obtain ⟨e, y, rfl, _⟩ := h
    rfl
  · obtain ⟨e, y, rfl, he, q⟩ := h
    have hu := hu_of hr
    have nd := sc_sum_by.nd
    refine ⟨_, (pss_cons (ps_set (i := 2) nd rfl (by first | exact Or.inl rfl | exact Or.inr rfl) pe_dnewK)
        (pss_cons (ps_for PassesOwn.never rfl (pi_list (pv 0)) (pg_name (i := 3) nd rfl (by first | exact Or.inl rfl | exact Or.inr rfl))
        (pss_one ps_never))
        (pss_one (ps_ret (pe_callB (cr_sortedIK rfl) rfl T.no_sorted boot_sorted (pa_cons (pe_bm0 PySem.F.plainAttrs_dict PySem.F.slot_dict_items PySem.F.type_dict_items mt_itemsK (pv 2)) pa_nil)))))), ?_⟩
    intro d nd
    obtain ⟨G, eG, s1, hd⟩ := upd_abs H d (.dK []) nd
    rw [eG]
    refine ⟨_, rfl, e, rfl, ⟨_, s1.seq he⟩, for_list (K := K) (a := e) (xs := []) (fun i σ G' => G' = G ∧ ∃ a b c, σ = [a, b, some (.ref d), c]) ⟨rfl, _, _, _, rfl⟩ (fun i σ G' _ h => by rw [h.1]; exact s1.seq he) (fun i x σ G' hi => by simp at hi) ?_⟩
    rintro σ G' ⟨rfl, a, b, c, rfl⟩
    refine ⟨_, rfl, .inr (.inr (.inl ⟨rfl, .inl ⟨_, hd⟩⟩)), d, [], rfl, rfl, hd, fun v nv => ?_⟩
    have s3 := same_upd (o := DX.itemsO v d) nv
    exact ⟨v, d, [], rfl, upd_same, s3 _ _ hd, List.nodup_nil, fun H' p ps s4 _ _ _ _ _ => q p H' ((s1.trans s3).trans s4)⟩
theorem cal_sum_by (T : Txt K mg) : Cal P w K mg base 1 "sum_by" (spDues K) := by
  obtain ⟨fd, F⟩ := T.fn_sum_by
  exact cal_of F T.mg_sum_by (ok_sum_by T F) (fun _ _ _ _ _ _ us hl => match us, hl with | [_, _], _ => rfl)
def spBook (K : PySem.W.Frag) : Sp := fun vs H Q _ => ∃ (p dx e : Addr) (cv : V) (c : Ct) (g : Int), vs = [.ref p, cv, .int g, .ref e] ∧ H p = some (.ins (He.ga K "Book") dx []) ∧ CtAt K H cv c ∧ (0 ≤ g ∧ g ≤ 366) ∧ H e = some (.lst []) ∧
  ∀ H', But p H H' → Q .non H'
abbrev s_Book_init__ : Stmt := inClass (top 81) 0
abbrev nm_Book_init__ : List Str := ["self", "count", "grace", "entries", "entry"]
abbrev pm_Book_init__ : List Str := ["self", "count", "grace", "entries"]
theorem sc_Book_init__ : FnScope nm_Book_init__ pm_Book_init__ (defScope s_Book_init__) := ⟨rfl, rfl, rfl, by decide +kernel, rfl, by decide +kernel, by decide +kernel⟩
theorem ok_Book_init__ (T : Txt K mg) {f : Addr} {fd : FuncData} (F : FnP K "__init__" "Book.__init__" s_Book_init__ f fd) : FnOk P w K mg base CX0 3 f fd pm_Book_init__ (spBook K) := by
  refine fnok F sc_Book_init__ (fun vs H Q E h => ?_) (fun cdv A outer s H vs Q E hr h => ?_)
  · obtain ⟨p, dx, e, cv, c, g, rfl, _⟩ := h
    rfl
  · obtain ⟨p, dx, e, cv, c, g, rfl, hp, ⟨pc, dc, rfl, hc⟩, ⟨g0, g1⟩, he, q⟩ := h
    have hu := hu_of hr
    have nd := sc_Book_init__.nd
    have k_is_whole := cal_is_whole (P := P) (w := w) (base := base) T
    have k_told_as := cal_told_as (P := P) (w := w) (base := base) T
    have k_joined := cal_joined (P := P) (w := w) (base := base) T
    have k_dues_of := cal_dues_of (P := P) (w := w) (base := base) T
    have k_sum_by := cal_sum_by (P := P) (w := w) (base := base) T
    refine ⟨_, (pss_cons (ps_if (PW.pt (pw_or (pt_not (pt_val (pe_callB call_isi rfl T.no_isinstance boot_isinstance (pa_cons (pv 1) (pa_cons (pe_glob (v := .ref _) rfl T.mg_Count rfl) pa_nil))))) (pw_or (pt_not (pt_val (pe_c k_is_whole hr (pa_cons (pv 2) pa_nil)))) (pw_or1 (pt_not (pt_chain op_le op_le pe_int (pv 2) (pe_gi T.in_MOST_GRACE)))))))
        (pss_one ps_never)
        pss_nil)
        (pss_cons (ps_if (pt_cmpR op_gt (pe_callB call_len rfl T.no_len boot_len (pa_cons (pv 3) pa_nil)) (pe_gi T.in_MOST_ENTRIES) (nomark _))
        (pss_one ps_never)
        pss_nil)
        (pss_cons (ps_fld (pv 0) (pv 1) rfl)
        (pss_cons (ps_fld (pv 0) (pv 2) rfl)
        (pss_cons (ps_fld (pv 0) (pe_callTy call_list_of rfl T.no_list boot_list (pa_cons (pv 3) pa_nil)) rfl)
        (pss_cons (ps_fld (pv 0) (pe_c k_joined hr (pa_cons (pe_lc (own := [("entry", 4)]) (g := (gName 4)) rfl nd (pi_list (pe_c k_told_as hr (pa_cons (pe_fld (pv 0) rfl) (pa_cons pe_str pa_nil)))) (blkOk_by (N := nm_Book_init__) (sc := defScope s_Book_init__) (by decide +kernel)) (fun _ _ _ _ _ => (pg_name (i := 4) nd rfl (by first | exact Or.inl rfl | exact Or.inr rfl))) (fun _ _ _ _ _ => pts_nil) (fun _ _ _ _ _ => pe_no)) pa_nil)) rfl)
        (pss_cons (ps_fld (pv 0) (pe_c k_dues_of hr (pa_cons (pe_fld (pv 0) rfl) (pa_cons (pe_fld (pv 0) rfl) pa_nil))) rfl)
        (pss_one (ps_fld (pv 0) (pe_c k_sum_by hr (pa_cons (pe_fld (pv 0) rfl) (pa_cons pe_str pa_nil))) rfl))))))))), ?_⟩
    refine ⟨_, rfl, _, _, _, _, _, rfl, .own _, tyIns (T.clC c) (T.isC c) hc, kitSub (T.suC c), _, rfl, iteF ?_⟩
    refine ⟨_, rfl, g, rfl, _, rfl, iteF ?_⟩
    refine ⟨_, rfl, _, _, rfl, rfl, _, rfl, iteD g0 ?_⟩
    refine ⟨_, _, rfl, rfl, _, rfl, iteN g1 ?_⟩
    refine ⟨_, rfl, .ref e, 0, rfl, .inl ⟨[], SqL.of he, rfl⟩, _, _, rfl, rfl, _, rfl, iteDF (by decide) ?_⟩
    have nep : e ≠ p := ne_of he hp (by intro z; cases z)
    -- self.way, self.patience
    refine ⟨_, rfl, _, rfl, p, _, dx, [], rfl, hp, T.cl_Book, T.na_Book_way, (by decide), ?_⟩
    obtain ⟨G1, e1, b1, h1⟩ := set_abs H p (.ins (He.ga K "Book") dx (putF "way" (.ref pc) []))
    rw [e1]
    have l1 : (putF "way" (.ref pc) []).length ≤ 1 := length_putF _ _ _
    revert h1 l1
    generalize putF "way" (.ref pc) [] = f1
    intro h1 l1
    refine ⟨_, rfl, _, rfl, p, _, dx, f1, rfl, h1, T.cl_Book, T.na_Book_patience, (by omega), ?_⟩
    obtain ⟨G2, e2, b2, h2⟩ := set_abs G1 p (.ins (He.ga K "Book") dx (putF "patience" (.int g) f1))
    rw [e2]
    have l2 : (putF "patience" (.int g) f1).length ≤ f1.length + 1 := length_putF _ _ _
    revert h2 l2
    generalize putF "patience" (.int g) f1 = f2
    intro h2 l2
    have B2 := b1.trans b2
    -- self.told = list(entries)
    refine ⟨_, rfl, e, [], rfl, .inl (SqL.of (B2 _ _ he nep)), fun l nl => ?_⟩
    obtain ⟨G3, e3, s3, hl⟩ := upd_abs G2 l (.lst []) nl
    rw [e3]
    refine ⟨_, rfl, p, _, dx, f2, rfl, s3 _ _ h2, T.cl_Book, T.na_Book_told, (by omega), ?_⟩
    obtain ⟨G4, e4, b4, h4⟩ := set_abs G3 p (.ins (He.ga K "Book") dx (putF "told" (.ref l) f2))
    rw [e4]
    have l4 : (putF "told" (.ref l) f2).length ≤ f2.length + 1 := length_putF _ _ _
    have k4 : (putF "told" (.ref l) f2).lookup ("told" : Str) = some (V.ref l) := by rw [lookup_putF, if_pos rfl]
    revert h4 l4 k4
    generalize putF "told" (.ref l) f2 = f4
    intro h4 l4 k4
    have B4 := (B2.same s3).trans b4
    have nlp : l ≠ p := fun z => by rw [z, h2] at nl; cases nl
    have hl4 := b4 _ _ hl nlp
    -- self.spans = joined([..])
    refine ⟨_, rfl, p, _, dx, f4, _, rfl, h4, T.cl_Book, T.na_Book_told, k4, l, _, rfl, SqL.of hl4, fun t G5 s5 ht => ?_⟩
    refine ⟨t, rfl, ⟨_, SqL.of ht⟩, fun D nD => ?_⟩
    refine lc_list (K := K) (a := t) (xs := []) (fun i G => Same G5 G ∧ G D = some (.lst [])) ⟨same_upd nD, upd_same⟩ (fun i G _ h => h.1.seq (SqL.of ht)) (fun i x G hi => by simp at hi) ?_
    rintro G6 ⟨s6, hD⟩
    refine ⟨D, rfl, SqL.of hD, fun j G7 s7 => ?_⟩
    have s47 := (s5.trans s6).trans s7
    refine ⟨_, rfl, p, _, dx, f4, rfl, s47 _ _ h4, T.cl_Book, T.na_Book_spans, (by omega), ?_⟩
    obtain ⟨G8, e8, b8, h8⟩ := set_abs G7 p (.ins (He.ga K "Book") dx (putF "spans" (.ref j) f4))
    rw [e8]
    have l8 : (putF "spans" (.ref j) f4).length ≤ f4.length + 1 := length_putF _ _ _
    have k8 : (putF "spans" (.ref j) f4).lookup ("told" : Str) = some (V.ref l) := by rw [lookup_putF, if_neg (by decide +kernel), k4]
    have k8' : (putF "spans" (.ref j) f4).lookup ("spans" : Str) = some (V.ref j) := by rw [lookup_putF, if_pos rfl]
    revert h8 l8 k8 k8'
    generalize putF "spans" (.ref j) f4 = f8
    intro h8 l8 k8 k8'
    have B8 := (B4.same s47).trans b8
    have hl8 := b8 _ _ (s47 _ _ hl4) nlp
    -- self.falling = dues_of(self.told, self.spans)
    refine ⟨_, rfl, p, _, dx, f8, _, rfl, h8, T.cl_Book, T.na_Book_told, k8, _, rfl, p, _, dx, f8, _, rfl, h8, T.cl_Book, T.na_Book_spans, k8', l, _, rfl, SqL.of hl8, fun u G9 s9 => ?_⟩
    refine ⟨_, rfl, p, _, dx, f8, rfl, s9 _ _ h8, T.cl_Book, T.na_Book_falling, (by omega), ?_⟩
    obtain ⟨GA, eA, bA, hA⟩ := set_abs G9 p (.ins (He.ga K "Book") dx (putF "falling" (.ref u) f8))
    rw [eA]
    have lA : (putF "falling" (.ref u) f8).length ≤ f8.length + 1 := length_putF _ _ _
    have kA : (putF "falling" (.ref u) f8).lookup ("told" : Str) = some (V.ref l) := by rw [lookup_putF, if_neg (by decide +kernel), k8]
    revert hA lA kA
    generalize putF "falling" (.ref u) f8 = fA
    intro hA lA kA
    have BA := (B8.same s9).trans bA
    have hlA := bA _ _ (s9 _ _ hl8) nlp
    -- self.handed = sum_by(self.told, "pay")
    refine ⟨_, rfl, p, _, dx, fA, _, rfl, hA, T.cl_Book, T.na_Book_told, kA, l, _, rfl, SqL.of hlA, fun v GB sB => ?_⟩
    refine ⟨_, rfl, p, _, dx, fA, rfl, sB _ _ hA, T.cl_Book, T.na_Book_handed, (by omega), ?_⟩
    exact q _ ((BA.same sB).trans (fun b o e n => by rw [upd_ne n]; exact e))
theorem mak_Book (T : Txt K mg) : Mak P w K mg base 3 "Book" (He.ga K "Book") (spBook K) := by
  obtain ⟨fd, F⟩ := T.fn_Book___init__
  exact mak_of T.mk_Book T.mg_Book F (ok_Book_init__ T F) (fun _ _ _ _ _ _ us hl => match us, hl with | [_, _, _, _], _ => rfl)
/-! ### a roll is made -/
def spRoll (K : PySem.W.Frag) : Sp := fun vs H Q _ => ∃ (p dx : Addr) (cv : V) (c : Ct) (g : Int), vs = [.ref p, cv, .int g] ∧ H p = some (.ins (He.ga K "Roll") dx []) ∧ CtAt K H cv c ∧ (0 ≤ g ∧ g ≤ 366) ∧
  ∀ l H', But p H H' → H l = none → RollAt K H' p l [] → Q .non H'
abbrev s_Roll_init__ : Stmt := inClass (top 85) 0
abbrev nm_Roll_init__ : List Str := ["self", "count", "grace"]
abbrev pm_Roll_init__ : List Str := ["self", "count", "grace"]
theorem sc_Roll_init__ : FnScope nm_Roll_init__ pm_Roll_init__ (defScope s_Roll_init__) := ⟨rfl, rfl, rfl, by decide +kernel, rfl, by decide +kernel, by decide +kernel⟩
theorem ok_Roll_init__ (T : Txt K mg) {f : Addr} {fd : FuncData} (F : FnP K "__init__" "Roll.__init__" s_Roll_init__ f fd) : FnOk P w K mg base CX0 5 f fd pm_Roll_init__ (spRoll K) := by
  refine fnok F sc_Roll_init__ (fun vs H Q E h => ?_) (fun cdv A outer s H vs Q E hr h => ?_)
  · obtain ⟨p, dx, cv, c, g, rfl, _⟩ := h
    rfl
  · obtain ⟨p, dx, cv, c, g, rfl, hp, hc, hg, q⟩ := h
    have hu := hu_of hr
    have nd := sc_Roll_init__.nd
    have k_Book := mak_Book (P := P) (w := w) (base := base) T
    refine ⟨_, (pss_cons (ps_fld (pv 0) (pe_mk k_Book hr (pa_cons (pv 1) (pa_cons (pv 2) (pa_cons (pe_lst pa_nil) pa_nil)))) rfl)
        (pss_one (ps_fld (pv 0) (pe_lst pa_nil) rfl))), ?_⟩
    -- self.bare = Book(count, grace, [])
    refine ⟨_, rfl, _, rfl, Nat.zero_le _, fun e ne => ?_⟩
    obtain ⟨G1, e1, s1, he⟩ := upd_abs H e (.lst []) ne
    rw [e1]
    intro x d nx nd nex
    obtain ⟨G2, e2, s2, hd⟩ := upd_abs G1 d (.own x) nd
    rw [e2]
    have nx2 : G2 x = none := by rw [← e2, upd_ne nex.symm]; exact nx
    obtain ⟨G3, e3, s3, hx⟩ := upd_abs G2 x (.ins (He.ga K "Book") d []) nx2
    rw [e3]
    have s13 := s2.trans s3
    refine ⟨x, d, e, cv, c, g, rfl, hx, hc.keep (s1.trans s13), hg, s13 _ _ he, fun G4 b4 => ⟨rfl, ?_⟩⟩
    have npx : p ≠ x := ne_of_none (s1 _ _ hp) nx
    have hp4 := b4 _ _ ((s1.trans s13) _ _ hp) npx
    refine ⟨_, rfl, p, _, dx, [], rfl, hp4, T.cl_Roll, T.na_Roll_bare, (by decide), ?_⟩
    obtain ⟨G5, e5, b5, h5⟩ := set_abs G4 p (.ins (He.ga K "Roll") dx (putF "bare" (.ref x) []))
    rw [e5]
    -- self.deeds = []
    refine ⟨Nat.zero_le _, fun l nl => ?_⟩
    obtain ⟨G6, e6, s6, hl⟩ := upd_abs G5 l (.lst []) nl
    rw [e6]
    refine ⟨_, rfl, p, _, dx, _, rfl, s6 _ _ h5, T.cl_Roll, T.na_Roll_deeds, (by show 1 < 1000; decide), ?_⟩
    obtain ⟨G7, e7, b7, h7⟩ := set_abs G6 p (.ins (He.ga K "Roll") dx (putF "deeds" (.ref l) (putF "bare" (.ref x) [])))
    rw [e7]
    have nlp : l ≠ p := fun z => by rw [z, h5] at nl; cases nl
    have B : But p H G7 := by
      intro b o hb nb
      have nbx : b ≠ x := ne_of_none (s1 _ _ hb) nx
      exact b7 _ _ (s6 _ _ (b5 _ _ (b4 _ _ ((s1.trans s13) _ _ hb) nbx) nb)) nb
    refine q l _ B ?_ ⟨dx, .ref x, [], ?_, b7 _ _ hl nlp, .nil⟩
    · cases z : H l with
      | none => rfl
      | some o =>
        have nlx : l ≠ x := ne_of_none (s1 _ _ z) nx
        have := b5 _ _ (b4 _ _ ((s1.trans s13) _ _ z) nlx) nlp
        rw [nl] at this
        cases this
    · rw [h7, put2 _ _ (by decide +kernel)]
theorem mak_Roll (T : Txt K mg) : Mak P w K mg base 5 "Roll" (He.ga K "Roll") (spRoll K) := by
  obtain ⟨fd, F⟩ := T.fn_Roll___init__
  exact mak_of T.mk_Roll T.mg_Roll F (ok_Roll_init__ T F) (fun _ _ _ _ _ _ us hl => match us, hl with | [_, _, _], _ => rfl)
end
end Lr

set_option maxHeartbeats 4000000
/-! Defs: the roll's rows. -/
namespace Lr
open PySem PySem.Spec PyProof.Rows L2
/-- a comprehension over the items of a locked dict -/
theorem lc_items {d : Addr} {o : Obj} {kvs : List (L2.Key × V)} {g : TG} {tt : TT} {te : TE} {vs : List Nat} {σ : L2.St} {H1 : Hp} {D : Addr} {Qd : Hp → Prop} (Pv : Nat → Hp → Prop) (h0 : Pv 0 (upd H1 D (.lst []))) (hl : ∀ i H, Pv i H → H d = some (.frz o (.dK kvs)))
    (hs : ∀ i k v H T, kvs[i]? = some (k, v) → Pv i H → H T = none → g (.ref T) (wipe σ vs) (upd H T (.tup [kV k, v])) fun σ2 H2 => wipe σ2 vs = wipe σ vs ∧ tt σ2 H2 fun b H3 =>
      if b = true then te σ2 H3 fun y H4 => ∃ acc, H4 D = some (.lst acc) ∧ acc.length < sizeLine ∧ Pv (i + 1) (upd H4 D (.lst (acc ++ [y]))) else Pv (i + 1) H3) (hd : ∀ H, Pv kvs.length H → Qd H) :
    ∃ W : Nat → Nat → Hp → Prop, (∃ m, W 0 m (upd H1 D (.lst []))) ∧ ∀ i m H, W i m H →
      ((Iti d o kvs).stop i H ∧ Qd H) ∨ ((Iti d o kvs).go i H ∧ ∃ Nx : Hp → Prop, (∀ H', Nx H' → ∃ m', m' < m ∧ W (i + 1) m' H') ∧ ∀ x H', (Iti d o kvs).yld i H x H' → g x (wipe σ vs) H' fun σ2 H2 => wipe σ2 vs = wipe σ vs ∧ tt σ2 H2 fun b H3 =>
        if b = true then te σ2 H3 fun y H4 => ∃ acc, H4 D = some (.lst acc) ∧ acc.length < sizeLine ∧ Nx (upd H4 D (.lst (acc ++ [y]))) else Nx H3) := by
  refine ⟨fun i m H => m = kvs.length - i ∧ i ≤ kvs.length ∧ Pv i H, ⟨kvs.length, rfl, Nat.zero_le _, h0⟩, ?_⟩
  rintro i m H ⟨rfl, hi, p⟩
  by_cases hlt : i < kvs.length
  · refine .inr ⟨⟨hl i H p, hlt⟩, Pv (i + 1), fun H' p' => ⟨kvs.length - (i + 1), by omega, rfl, hlt, p'⟩, fun x H' y => ?_⟩
    obtain ⟨T, k, v, hk, rfl, hT, rfl⟩ := y
    exact hs i k v H T hk p hT
  · have e : i = kvs.length := by omega
    subst e
    exact .inl ⟨⟨hl _ H p, Nat.le_refl _⟩, hd H p⟩
section
variable {P : Program} {w : World} {K : PySem.W.Frag} {mg : Str → Option Value} {base : Heap}
/-- the dict at d: ks its items, each number with a row of L -/
def spRowsAt (K : PySem.W.Frag) : Sp := fun vs H Q _ => ∃ (p l : Addr) (k : Int) (ds : List Deed), vs = [.ref p, .int k] ∧ RollAt K H p l ds ∧ ds.length ≤ 500 ∧
  ∀ (d : Addr) (H' : Hp) (ks : List (Int × V)) (L : List (Int × Row)), Same H H' → H' d = some (.dK (ks.map entK)) → (ks.map (·.1)).Nodup →
    Paired (fun a e => a.1 = e.1 ∧ RowAt H' a.2 e.2) ks L → (∀ n r, (n, r) ∈ L ↔ cur ds k n = some r) → Q (.ref d) H'
abbrev s_Roll_rows_at : Stmt := inClass (top 85) 5
abbrev nm_Roll_rows_at : List Str := ["self", "known", "found", "at", "number", "row"]
abbrev pm_Roll_rows_at : List Str := ["self", "known"]
theorem sc_Roll_rows_at : FnScope nm_Roll_rows_at pm_Roll_rows_at (defScope s_Roll_rows_at) := ⟨rfl, rfl, rfl, by decide +kernel, rfl, by decide +kernel, by decide +kernel⟩
theorem ok_Roll_rows_at (T : Txt K mg) {f : Addr} {fd : FuncData} (F : FnP K "rows_at" "Roll.rows_at" s_Roll_rows_at f fd) : FnOk P w K mg base CX0 1 f fd pm_Roll_rows_at (spRowsAt K) := by
  refine fnok F sc_Roll_rows_at (fun vs H Q E h => ?_) (fun cdv A outer s H vs Q E hr h => ?_)
  · obtain ⟨p, l, k, ds, rfl, _⟩ := h
    rfl
  · obtain ⟨p, l, k, ds, rfl, ⟨dx, b, xs, hp, hl, dd⟩, hlen, q⟩ := h
    have hu := hu_of hr
    have nd := sc_Roll_rows_at.nd
    refine ⟨_, (pss_cons (ps_set (i := 2) nd rfl (by first | exact Or.inl rfl | exact Or.inr rfl) pe_dnewK)
        (pss_cons (ps_for PassesOwn.never rfl (pi_list (pe_fld (pv 0) rfl)) (pg_tup rfl (pgs_cons (pg_name (i := 3) nd rfl (by first | exact Or.inl rfl | exact Or.inr rfl)) (pgs_cons (pg_name (i := 4) nd rfl (by first | exact Or.inl rfl | exact Or.inr rfl)) (pgs_cons (pg_name (i := 5) nd rfl (by first | exact Or.inl rfl | exact Or.inr rfl)) pgs_nil))))
        (pss_one (ps_if (pt_cmpR op_le (pv 3) (pv 1) (nomark _))
        (pss_one (ps_dput hu (pv 2) (pv 4) (pv 5) rfl))
        pss_nil)))
        (pss_one (ps_ret (pe_callTy (call_dictP rfl) rfl T.no_dict boot_dict (pa_cons (pe_lock (pe_lc (own := [("number", 4), ("row", 5)]) (g := (gTup K 2 (gCons (gName 4) (gCons (gName 5) gNil)))) rfl nd (pi_items (pv 2)) (blkOk_by (N := nm_Roll_rows_at) (sc := defScope s_Roll_rows_at) (by decide +kernel)) (fun _ _ _ _ _ => (pg_tup rfl (pgs_cons (pg_name (i := 4) nd rfl (by first | exact Or.inl rfl | exact Or.inr rfl)) (pgs_cons (pg_name (i := 5) nd rfl (by first | exact Or.inl rfl | exact Or.inr rfl)) pgs_nil)))) (fun _ _ _ _ _ => (pts_one (pt_cmpR op_notN (pv 5) pe_non (nomark _)))) (fun _ _ _ _ _ => (pe_tup (pa_cons (pv 4) (pa_cons (pv 5) pa_nil)))))) pa_nil)))))), ?_⟩
    intro d nd
    obtain ⟨G, eG, s1, hd⟩ := upd_abs H d (.dK []) nd
    rw [eG]
    refine ⟨_, rfl, p, _, dx, _, _, rfl, s1 _ _ hp, T.cl_Roll, T.na_Roll_deeds, rfl, l, rfl, ⟨_, SqL.of (s1 _ _ hl)⟩, ?_⟩
    have nld : l ≠ d := ne_of_none hl nd
    refine for_list (K := K) (a := l) (xs := xs) (fun i σ G' => ∃ (ks : List (Int × V)) (v3 v4 v5 : Option V), σ = [some (.ref p), some (.int k), some (.ref d), v3, v4, v5] ∧ G' d = some (.dK (ks.map entK)) ∧ But d G G' ∧ DI G' ks (ds.take i) k ∧ ks.length ≤ i)
      ⟨[], none, none, none, rfl, hd, But.refl _ _, DI.nil, Nat.le_refl _⟩ (fun i σ G' _ ⟨_, _, _, _, _, _, bt, _⟩ => SqL.of (bt _ _ (s1 _ _ hl) nld)) ?_ ?_
    · rintro i x σ G' hi ⟨ks, v3, v4, v5, rfl, hd', bt, di, hk⟩
      obtain ⟨e, he, hx⟩ := paired_at dd hi
      obtain ⟨a, rv, rfl, ha, ho⟩ := hx
      have tG : Tups H G' := s1.tups.trans (bt.tupsD hd)
      refine ⟨a, _, rfl, SqT.of (tG _ _ ha), rfl, _, _, rfl, _, _, rfl, _, _, rfl, rfl, ?_⟩
      refine ⟨_, rfl, _, rfl, _, _, rfl, rfl, _, rfl, ?_⟩
      have hil : i < ds.length := (List.getElem?_eq_some_iff.mp he).1
      by_cases c : e.at_ ≤ k
      · refine iteD c ⟨_, rfl, _, rfl, _, rfl, d, _, rfl, DPut.k (k := Sum.inl e.num) hd' (by rw [List.length_map, sizeLine_eq]; omega), ?_⟩
        have bu : But d G' (upd G' d (.dK (putK (ks.map entK) (Sum.inl e.num) rv))) := (But.refl d G').upd
        have tu := bu.tupsD hd'
        refine ⟨putK ks e.num rv, _, _, _, rfl, by rw [upd_same, putI], bt.trans bu, ?_, by have := len_put ks e.num rv; omega⟩
        rw [take_succ_at he]
        exact (di.keep tu).put c (ho.keep (tG.trans tu))
      · refine iteDF c ⟨ks, _, _, _, rfl, hd', bt, ?_, by omega⟩
        rw [take_succ_at he]
        exact di.skip c
    · rintro σ G' ⟨ks, v3, v4, v5, rfl, hd', bt, di, hk⟩
      have hxl : xs.length = ds.length := paired_len dd
      rw [hxl, List.take_length] at di
      refine ⟨d, _, hd', trivial, fun od => ?_⟩
      obtain ⟨F, eF, bF, hF⟩ := set_abs G' d (.frz od (.dK (ks.map entK)))
      rw [eF]
      refine ⟨_, rfl, d, od, _, rfl, hF, fun D nD => ?_⟩
      have nDd : D ≠ d := fun z => by rw [z, hF] at nD; cases nD
      refine lc_items (fun i G2 => Same F G2 ∧ ∃ acc : List (Addr × Int × V), G2 D = some (.lst (acc.map fun z => V.ref z.1)) ∧ acc.length ≤ i ∧ acc.map (·.2) = (ks.take i).filter (fun e => decide (e.2 ≠ .non)) ∧ ∀ z ∈ acc, G2 z.1 = some (.tup [.int z.2.1, z.2.2]))
        ⟨same_upd nD, [], upd_same, Nat.zero_le _, rfl, fun z hz => by cases hz⟩ (fun i G2 h => h.1 _ _ hF) ?_ ?_
      · rintro i kk v G2 U hi ⟨s2, acc, hD, hal, hm, ht⟩ nU
        rw [List.getElem?_map] at hi
        obtain ⟨e, he, hke⟩ := Option.map_eq_some_iff.mp hi
        have hkk : Sum.inl e.1 = kk := congrArg Prod.fst hke
        have hv : e.2 = v := congrArg Prod.snd hke
        subst hkk hv
        have hil : i < ks.length := (List.getElem?_eq_some_iff.mp he).1
        obtain ⟨G3, e3, s3, hU⟩ := upd_abs G2 U (.tup [kV (Sum.inl e.1), e.2]) nU
        rw [e3]
        refine ⟨U, _, rfl, SqT.of hU, rfl, _, _, rfl, _, _, rfl, rfl, rfl, ?_⟩
        refine ⟨_, rfl, rfl, _, rfl, ?_⟩
        by_cases c : e.2 = .non
        · refine iteN c ⟨s2.trans s3, acc, s3 _ _ hD, by omega, ?_, fun z hz => s3 _ _ (ht z hz)⟩
          rw [take_succ_at he, List.filter_append, hm, List.filter_cons_of_neg (by simpa using c), List.filter_nil, List.append_nil]
        · refine iteNF c ⟨_, rfl, _, rfl, (by show 2 ≤ sizeLine; decide), fun Z nZ => ?_⟩
          obtain ⟨G4, e4, s4, hZ⟩ := upd_abs G3 Z (.tup [kV (Sum.inl e.1), e.2]) nZ
          rw [e4]
          have nDZ : D ≠ Z := ne_of_none (s3 _ _ hD) nZ
          refine ⟨_, s4 _ _ (s3 _ _ hD), by rw [List.length_map, sizeLine_eq]; omega, ?_⟩
          have hDn : G4 D = some (.lst (acc.map fun z => V.ref z.1)) := s4 _ _ (s3 _ _ hD)
          have tu := (But.of (l := D) (o := .lst (acc.map (fun z => V.ref z.1) ++ [.ref Z])) (Same.refl G4)).tups hDn
          have nD2 : F D = none := nD
          refine ⟨?_, acc ++ [(Z, e)], by rw [upd_same, List.map_append]; rfl, by rw [List.length_append]; exact Nat.succ_le_succ hal, ?_, fun z hz => ?_⟩
          · exact ((s2.trans s3).trans s4).upd nD2
          · rw [List.map_append, hm, take_succ_at he, List.filter_append, List.filter_cons_of_pos (by simpa using c)]
            rfl
          · rcases List.mem_append.mp hz with hz | hz
            · exact tu _ _ (s4 _ _ (s3 _ _ (ht z hz)))
            · rw [List.mem_singleton.mp hz]
              exact tu _ _ hZ
      · rintro G2 ⟨s2, acc, hD, hal, hm, ht⟩
        rw [List.length_map, List.take_length] at hm
        refine ⟨s2 _ _ hF, ?_⟩
        obtain ⟨G3, e3, b3, h3⟩ := set_abs G2 d (.dK (ks.map entK))
        rw [e3]
        have t3 : ∀ b ys, G2 b = some (.tup ys) → G3 b = some (.tup ys) := fun b ys z => b3 _ _ z (ne_of z (s2 _ _ hF) (by intro y; cases y))
        refine ⟨D, acc.map (·.1), acc.map (fun z => entK z.2), rfl, ?_, ?_, fun R nR => ?_⟩
        · rw [List.map_map]
          exact SqL.of (b3 _ _ hD nDd)
        · have : ∀ l : List (Addr × Int × V), (∀ z ∈ l, G3 z.1 = some (.tup [.int z.2.1, z.2.2])) → Paired (fun p kv => SqT K G3 p [kV kv.1, kv.2]) (l.map (·.1)) (l.map fun z => entK z.2) := by
            intro l
            induction l with
            | nil => exact fun _ => .nil
            | cons a l ih => exact fun h => .cons (SqT.of (h a List.mem_cons_self)) (ih fun z hz => h z (List.mem_cons_of_mem _ hz))
          exact this acc fun z hz => t3 _ _ (ht z hz)
        · have em : acc.map (fun z => entK z.2) = (acc.map (·.2)).map entK := by rw [List.map_map]; rfl
          have nd2 : ((acc.map (·.2)).map (·.1)).Nodup := by
            rw [hm]
            exact (List.filter_sublist.map _).nodup di.1
          have ek : mergeK [] (acc.map fun z => entK z.2) = (acc.map (·.2)).map entK := by
            rw [em, merge_nd _ [] ?_, List.nil_append]
            rw [List.nil_append, List.map_map]
            have : (((fun x : L2.Key × V => x.1) ∘ entK) : Int × V → L2.Key) = Sum.inl ∘ (fun x => x.1) := rfl
            rw [this, ← List.map_map]
            exact List.Pairwise.map _ (fun a b h z => h (Sum.inl.inj z)) nd2
          rw [ek]
          obtain ⟨G4, e4, s4, hR⟩ := upd_abs G3 R (.dK ((acc.map (·.2)).map entK)) nR
          rw [e4]
          -- all of H stands
          have sH : Same H G4 := fun b o z => by
            have nb : b ≠ d := ne_of_none z nd
            exact s4 _ _ (b3 _ _ (s2 _ _ (bF _ _ (bt _ _ (s1 _ _ z) nb) nb)) nb)
          have tR : Tups G' G4 := fun b ys z => by
            have nb : b ≠ d := ne_of z hd' (by intro y; cases y)
            exact s4 _ _ (b3 _ _ (s2 _ _ (bF _ _ z nb)) nb)
          obtain ⟨L, hL, hLm⟩ := (di.keep tR).rows (l := acc.map (·.2)) (fun e => by rw [hm]; simp [List.mem_filter])
          exact q R G4 _ L sH hR nd2 hL hLm
theorem met_rows_at (T : Txt K mg) : Met P w K mg base 1 (He.ga K "Roll") "rows_at" (spRowsAt K) := by
  obtain ⟨fd, F⟩ := T.fn_Roll_rows_at
  exact met_of T.cl_Roll T.me_Roll_rows_at F (ok_Roll_rows_at T F) (fun _ _ _ _ _ _ us hl => match us, hl with | [_, _], _ => rfl)
end
end Lr

set_option maxHeartbeats 4000000
/-! Defs: the roll's deeds. -/
namespace Lr
open PySem PySem.Spec PyProof.Rows L2
theorem at_last {α : Type} {l : List α} {x : α} (h : l[l.length - 1]? = some x) : atI l (-1) = some x := by
  have hn : l ≠ [] := fun z => by rw [z] at h; simp at h
  have e := List.dropLast_concat_getLast hn
  rw [← e] at h ⊢
  have z : l.getLast hn = x := by
    rw [List.length_append, List.getElem?_append_right (by simp)] at h
    simpa using h
  rw [z]
  exact atI_last _ _
section
variable {P : Program} {w : World} {K : PySem.W.Frag} {mg : Str → Option Value} {base : Heap}
def spCheck (K : PySem.W.Frag) : Sp := fun vs H Q _ => ∃ (p l : Addr) (k n : Int) (ds : List Deed), vs = [.ref p, .int k, .int n] ∧ RollAt K H p l ds ∧ (0 ≤ k ∧ k ≤ 999999) ∧ (1 ≤ n ∧ n ≤ 1000000000) ∧ (∀ d ∈ ds, d.at_ ≤ k) ∧
  ∀ H', Same H H' → Q .non H'
abbrev s_Roll_check : Stmt := inClass (top 85) 1
abbrev nm_Roll_check : List Str := ["self", "known", "number"]
abbrev pm_Roll_check : List Str := ["self", "known", "number"]
theorem sc_Roll_check : FnScope nm_Roll_check pm_Roll_check (defScope s_Roll_check) := ⟨rfl, rfl, rfl, by decide +kernel, rfl, by decide +kernel, by decide +kernel⟩
theorem ok_Roll_check (T : Txt K mg) {f : Addr} {fd : FuncData} (F : FnP K "check" "Roll.check" s_Roll_check f fd) : FnOk P w K mg base CX0 3 f fd pm_Roll_check (spCheck K) := by
  refine fnok F sc_Roll_check (fun vs H Q E h => ?_) (fun cdv A outer s H vs Q E hr h => ?_)
  · obtain ⟨p, l, k, n, ds, rfl, _⟩ := h
    rfl
  · obtain ⟨p, l, k, n, ds, rfl, ⟨dx, b, xs, hp, hl, dd⟩, ⟨k0, k1⟩, ⟨n0, n1⟩, hk, q⟩ := h
    have hu := hu_of hr
    have nd := sc_Roll_check.nd
    have k_is_day := cal_is_day (P := P) (w := w) (base := base) T
    have k_is_whole := cal_is_whole (P := P) (w := w) (base := base) T
    refine ⟨_, (pss_cons (ps_if (pt_not (pt_val (pe_c k_is_day hr (pa_cons (pv 1) pa_nil))))
        (pss_one ps_never)
        pss_nil)
        (pss_cons (ps_if (PW.pt (pw_and (pt_cmpR (op_neD hr.units) (pe_fld (pv 0) rfl) (pe_lst pa_nil) (nomark _)) (pw_and1 (pt_cmpR op_lt (pv 1) (pe_ix ix_tup (pe_ix ix_list (pe_fld (pv 0) rfl) (pe_un un_neg pe_int) (fun _ _ => rfl)) pe_int (fun _ _ => rfl)) (nomark _)))))
        (pss_one ps_never)
        pss_nil)
        (pss_one (ps_if (PW.pt (pw_or (pt_not (pt_val (pe_c k_is_whole hr (pa_cons (pv 2) pa_nil)))) (pw_or1 (pt_not (pt_chain op_le op_le pe_int (pv 2) (pe_gi T.in_MOST_NUMBER))))))
        (pss_one ps_never)
        pss_nil)))), ?_⟩
    refine ⟨_, rfl, k, rfl, ⟨k0, k1⟩, _, rfl, iteF ?_⟩
    refine ⟨_, rfl, p, _, dx, _, _, rfl, hp, T.cl_Roll, T.na_Roll_deeds, rfl, Nat.zero_le _, fun e ne => ?_⟩
    obtain ⟨G, eG, s1, he⟩ := upd_abs H e (.lst []) ne
    rw [eG]
    have hp1 := s1 _ _ hp
    have hl1 := s1 _ _ hl
    have dd1 := dd.keep s1.tups
    refine ⟨.list (ds.map Deed.data), .list [], .lst (SqL.of hl1) (dpAll (fun _ _ z => DeedAt.dp z) dd1), dp_nil he, (map_sm Deed.sm ds).shaped (by decide), sm_nil.shaped (by decide), _, rfl, ?_⟩
    refine ite2 (fun c => ?_) (fun c => ?_)
    · have hne : 0 < ds.length := by
        cases ds with
        | nil =>
          rw [List.map_nil, eqv_nil] at c
          cases c
        | cons a r => exact Nat.succ_pos _
      have hlen : xs.length = ds.length := paired_len dd
      obtain ⟨x0, hx⟩ : ∃ x0, xs[xs.length - 1]? = some x0 := ⟨_, List.getElem?_eq_getElem (by omega)⟩
      obtain ⟨d0, hd0, a, rv, rfl, ha, _⟩ := paired_at dd1 hx
      refine ⟨_, rfl, _, rfl, p, _, dx, _, _, rfl, hp1, T.cl_Roll, T.na_Roll_deeds, rfl, _, rfl, l, _, _, _, rfl, rfl, SqL.of hl1, at_last hx, a, _, _, _, rfl, rfl, SqT.of ha, atI_nat (j := 0) rfl, _, _, rfl, rfl, _, rfl, ?_⟩
      refine iteDF (by have := hk d0 (List.mem_of_getElem? hd0); omega) ?_
      exact ⟨_, rfl, n, rfl, _, rfl, iteF ⟨_, rfl, _, _, rfl, rfl, _, rfl, iteD n0 ⟨_, _, rfl, rfl, _, rfl, iteN n1 (q _ s1)⟩⟩⟩
    · refine iteF ?_
      exact ⟨_, rfl, n, rfl, _, rfl, iteF ⟨_, rfl, _, _, rfl, rfl, _, rfl, iteD n0 ⟨_, _, rfl, rfl, _, rfl, iteN n1 (q _ s1)⟩⟩⟩
theorem met_check (T : Txt K mg) : Met P w K mg base 3 (He.ga K "Roll") "check" (spCheck K) := by
  obtain ⟨fd, F⟩ := T.fn_Roll_check
  exact met_of T.cl_Roll T.me_Roll_check F (ok_Roll_check T F) (fun _ _ _ _ _ _ us hl => match us, hl with | [_, _, _], _ => rfl)
def spKeep (K : PySem.W.Frag) : Sp := fun vs H Q _ => ∃ (p l : Addr) (k n : Int) (rv : V) (o : Option Row) (ds : List Deed), vs = [.ref p, .int k, .int n, rv] ∧ RollAt K H p l ds ∧ ORow H rv o ∧ ds.length < 500 ∧
  ∀ H', But l H H' → RollAt K H' p l (ds ++ [⟨k, n, o⟩]) → Q .non H'
abbrev s_Roll_keep : Stmt := inClass (top 85) 2
abbrev nm_Roll_keep : List Str := ["self", "known", "number", "row"]
abbrev pm_Roll_keep : List Str := ["self", "known", "number", "row"]
theorem sc_Roll_keep : FnScope nm_Roll_keep pm_Roll_keep (defScope s_Roll_keep) := ⟨rfl, rfl, rfl, by decide +kernel, rfl, by decide +kernel, by decide +kernel⟩
theorem ok_Roll_keep (T : Txt K mg) {f : Addr} {fd : FuncData} (F : FnP K "keep" "Roll.keep" s_Roll_keep f fd) : FnOk P w K mg base CX0 1 f fd pm_Roll_keep (spKeep K) := by
  refine fnok F sc_Roll_keep (fun vs H Q E h => ?_) (fun cdv A outer s H vs Q E hr h => ?_)
  · obtain ⟨p, l, k, n, rv, o, ds, rfl, _⟩ := h
    rfl
  · obtain ⟨p, l, k, n, rv, o, ds, rfl, ⟨dx, b, xs, hp, hl, dd⟩, ho, hn, q⟩ := h
    have hu := hu_of hr
    have nd := sc_Roll_keep.nd
    refine ⟨_, (pss_cons (ps_if (pt_cmpR op_eq (pe_callB call_len rfl T.no_len boot_len (pa_cons (pe_fld (pv 0) rfl) pa_nil)) (pe_gi T.in_MOST_DEEDS) (nomark _))
        (pss_one ps_never)
        pss_nil)
        (pss_one (ps_expr (pe_bm PySem.F.plainAttrs_list PySem.F.slot_list_append PySem.F.type_list_append mt_append (pe_fld (pv 0) rfl) (pa_cons (pe_tup (pa_cons (pv 1) (pa_cons (pv 2) (pa_cons (pv 3) pa_nil)))) pa_nil))))), ?_⟩
    have hlen : xs.length = ds.length := paired_len dd
    refine ⟨_, rfl, p, _, dx, _, _, rfl, hp, T.cl_Roll, T.na_Roll_deeds, rfl, .ref l, _, rfl, .inl ⟨_, SqL.of hl, rfl⟩, rfl, _, rfl, iteDF (fun z => by injection z with z; omega) ?_⟩
    refine ⟨_, rfl, p, _, dx, _, _, rfl, hp, T.cl_Roll, T.na_Roll_deeds, rfl, .inl ⟨rfl, _, SqL.of hl⟩, ?_⟩
    refine ⟨_, rfl, _, rfl, _, rfl, (by show 3 ≤ sizeLine; decide), fun t nt => ?_⟩
    obtain ⟨G, eG, s1, ht⟩ := upd_abs H t (.tup [.int k, .int n, rv]) nt
    rw [eG]
    refine ⟨l, _, _, rfl, rfl, s1 _ _ hl, by rw [sizeLine_eq]; omega, ?_⟩
    obtain ⟨G2, e2, b2, h2⟩ := set_abs G l (.lst (xs ++ [.ref t]))
    rw [e2]
    have t2 := b2.tups (s1 _ _ hl)
    have npl : p ≠ l := ne_of hp hl (by intro z; cases z)
    exact q G2 (s1.but b2) ⟨dx, b, _, b2 _ _ (s1 _ _ hp) npl, h2, paired_snoc (dd.keep (s1.tups.trans t2)) ⟨t, rv, rfl, t2 _ _ ht, ho.keep (s1.tups.trans t2)⟩⟩
theorem met_keep (T : Txt K mg) : Met P w K mg base 1 (He.ga K "Roll") "keep" (spKeep K) := by
  obtain ⟨fd, F⟩ := T.fn_Roll_keep
  exact met_of T.cl_Roll T.me_Roll_keep F (ok_Roll_keep T F) (fun _ _ _ _ _ _ us hl => match us, hl with | [_, _, _, _], _ => rfl)
def spPut (K : PySem.W.Frag) : Sp := fun vs H Q _ => ∃ (p l : Addr) (k n : Int) (ev : V) (r : Row) (ds : List Deed), vs = [.ref p, .int k, .int n, ev] ∧ RollAt K H p l ds ∧ EntAt K H ev r ∧ r.Ok ∧ ds.length < 500 ∧ (0 ≤ k ∧ k ≤ 999999) ∧ (1 ≤ n ∧ n ≤ 1000000000) ∧ (∀ d ∈ ds, d.at_ ≤ k) ∧
  ∀ H', But l H H' → RollAt K H' p l (ds ++ [⟨k, n, some r⟩]) → Q .non H'
theorem Txt.isK (T : Txt K mg) (k : Kd) : inst0 K k.cls = true := by
  cases k
  · exact T.is_Out
  · exact T.is_Fee
  · exact T.is_Pay
  · exact T.is_Due
  · exact T.is_Turn
  · exact T.is_Rate
  · exact T.is_Late
  · exact T.is_Still
theorem Txt.suK (T : Txt K mg) (k : Kd) : sub0 K k.cls "Entry" = true := by
  cases k
  · exact T.su_Out_Entry
  · exact T.su_Fee_Entry
  · exact T.su_Pay_Entry
  · exact T.su_Due_Entry
  · exact T.su_Turn_Entry
  · exact T.su_Rate_Entry
  · exact T.su_Late_Entry
  · exact T.su_Still_Entry
abbrev s_Roll_put : Stmt := inClass (top 85) 3
abbrev nm_Roll_put : List Str := ["self", "known", "number", "entry"]
abbrev pm_Roll_put : List Str := ["self", "known", "number", "entry"]
theorem sc_Roll_put : FnScope nm_Roll_put pm_Roll_put (defScope s_Roll_put) := ⟨rfl, rfl, rfl, by decide +kernel, rfl, by decide +kernel, by decide +kernel⟩
theorem ok_Roll_put (T : Txt K mg) {f : Addr} {fd : FuncData} (F : FnP K "put" "Roll.put" s_Roll_put f fd) : FnOk P w K mg base CX0 6 f fd pm_Roll_put (spPut K) := by
  refine fnok F sc_Roll_put (fun vs H Q E h => ?_) (fun cdv A outer s H vs Q E hr h => ?_)
  · obtain ⟨p, l, k, n, ev, r, ds, rfl, _⟩ := h
    rfl
  · obtain ⟨p, l, k, n, ev, r, ds, rfl, hR, ⟨ea, ed, rfl, he⟩, ok, hn, hk, hnum, hat, q⟩ := h
    have hu := hu_of hr
    have nd := sc_Roll_put.nd
    have k_entry_of := cal_entry_of (P := P) (w := w) (base := base) T
    refine ⟨_, (pss_cons (ps_expr (pe_mt hr (pv 0) (pa_cons (pv 1) (pa_cons (pv 2) pa_nil))))
        (pss_cons (ps_if (pt_not (pt_val (pe_callB call_isi rfl T.no_isinstance boot_isinstance (pa_cons (pv 3) (pa_cons (pe_glob (v := .ref _) rfl T.mg_Entry rfl) pa_nil)))))
        (pss_one ps_never)
        pss_nil)
        (pss_one (ps_expr (pe_mt hr (pv 0) (pa_cons (pv 1) (pa_cons (pv 2) (pa_cons (pe_mt0 hr (pe_c k_entry_of hr (pa_cons (pe_mt0 hr (pv 3)) pa_nil))) pa_nil)))))))), ?_⟩
    obtain ⟨dx, b, xs, hp, hl, dd⟩ := id hR
    -- self.check(known, number)
    refine ⟨_, rfl, _, spCheck K, p, dx, _, rfl, hp, (met_check T).mono (by decide), rfl, _, rfl, _, rfl, p, l, k, n, ds, rfl, hR, hk, hnum, hat, fun H1 s1 => ?_⟩
    have he1 := s1 _ _ he
    -- isinstance(entry, Entry)
    refine ⟨_, rfl, _, _, _, _, _, rfl, .own _, tyIns (T.cl r.kd) (T.isK r.kd) he1, kitSub (T.suK r.kd), _, rfl, iteF ?_⟩
    -- self.keep(known, number, entry_of(entry.row()).row())
    refine ⟨_, rfl, _, spKeep K, p, dx, _, rfl, s1 _ _ hp, (met_keep T).mono (by decide), rfl, _, rfl, _, rfl, ?_⟩
    refine ⟨_, rfl, _, spRow K, ea, ed, _, rfl, he1, (met_row T r.kd).mono (by decide), lk_no r (by decide +kernel) (by decide +kernel) (by decide +kernel) (by decide +kernel), _, r, rfl, ⟨ea, ed, rfl, he1⟩, fun v2 H2 s2 h2 => ?_⟩
    refine ⟨_, r, rfl, h2, ok, fun v3 H3 s3 h3 => ?_⟩
    obtain ⟨ea3, ed3, rfl, he3⟩ := id h3
    refine ⟨_, spRow K, ea3, ed3, _, rfl, he3, (met_row T r.kd).mono (by decide), lk_no r (by decide +kernel) (by decide +kernel) (by decide +kernel) (by decide +kernel), _, r, rfl, h3, fun v4 H4 s4 h4 => ?_⟩
    have s14 := ((s1.trans s2).trans s3).trans s4
    exact ⟨p, l, k, n, v4, some r, ds, rfl, hR.keep s14, h4, hn, fun H5 b5 h5 => q H5 (s14.but b5) h5⟩
theorem met_put (T : Txt K mg) : Met P w K mg base 6 (He.ga K "Roll") "put" (spPut K) := by
  obtain ⟨fd, F⟩ := T.fn_Roll_put
  exact met_of T.cl_Roll T.me_Roll_put F (ok_Roll_put T F) (fun _ _ _ _ _ _ us hl => match us, hl with | [_, _, _, _], _ => rfl)
def spStrike (K : PySem.W.Frag) : Sp := fun vs H Q _ => ∃ (p l : Addr) (k n : Int) (r : Row) (ds : List Deed), vs = [.ref p, .int k, .int n] ∧ RollAt K H p l ds ∧ cur ds k n = some r ∧ ds.length < 500 ∧ (0 ≤ k ∧ k ≤ 999999) ∧ (1 ≤ n ∧ n ≤ 1000000000) ∧ (∀ d ∈ ds, d.at_ ≤ k) ∧
  ∀ H', But l H H' → RollAt K H' p l (ds ++ [⟨k, n, none⟩]) → Q .non H'
abbrev s_Roll_strike : Stmt := inClass (top 85) 4
abbrev nm_Roll_strike : List Str := ["self", "known", "number"]
abbrev pm_Roll_strike : List Str := ["self", "known", "number"]
theorem sc_Roll_strike : FnScope nm_Roll_strike pm_Roll_strike (defScope s_Roll_strike) := ⟨rfl, rfl, rfl, by decide +kernel, rfl, by decide +kernel, by decide +kernel⟩
theorem ok_Roll_strike (T : Txt K mg) {f : Addr} {fd : FuncData} (F : FnP K "strike" "Roll.strike" s_Roll_strike f fd) : FnOk P w K mg base CX0 4 f fd pm_Roll_strike (spStrike K) := by
  refine fnok F sc_Roll_strike (fun vs H Q E h => ?_) (fun cdv A outer s H vs Q E hr h => ?_)
  · obtain ⟨p, l, k, n, r, ds, rfl, _⟩ := h
    rfl
  · obtain ⟨p, l, k, n, r, ds, rfl, hR, hc, hn, hk, hnum, hat, q⟩ := h
    have hu := hu_of hr
    have nd := sc_Roll_strike.nd
    refine ⟨_, (pss_cons (ps_expr (pe_mt hr (pv 0) (pa_cons (pv 1) (pa_cons (pv 2) pa_nil))))
        (pss_cons (ps_if (pt_cmp (pc_dnotin hu (pv 2) (pe_mt hr (pv 0) (pa_cons (pv 1) pa_nil))))
        (pss_one ps_never)
        pss_nil)
        (pss_one (ps_expr (pe_mt hr (pv 0) (pa_cons (pv 1) (pa_cons (pv 2) (pa_cons pe_non pa_nil)))))))), ?_⟩
    obtain ⟨dx, b, xs, hp, hl, dd⟩ := id hR
    refine ⟨_, rfl, _, spCheck K, p, dx, _, rfl, hp, (met_check T).mono (by decide), rfl, _, rfl, _, rfl, p, l, k, n, ds, rfl, hR, hk, hnum, hat, fun H1 s1 => ?_⟩
    refine ⟨_, rfl, _, rfl, _, spRowsAt K, p, dx, _, rfl, s1 _ _ hp, (met_rows_at T).mono (by decide), rfl, _, rfl, p, l, k, ds, rfl, hR.keep s1, by omega, fun d H2 ks L s2 hd nd2 hL hLm => ?_⟩
    have hs : (valV (ks.map entK) (Sum.inl n : L2.Key)).isSome = true := by
      obtain ⟨a, ha, e1, _⟩ := paired_mem (paired_flip hL) ((hLm n r).mpr hc)
      obtain ⟨a1, a2⟩ := a
      have e1' : a1 = n := e1
      subst e1'
      rw [valK, mem_val nd2 ha]
      rfl
    refine ⟨d, _, rfl, DGet.k (k := Sum.inl n) hd, _, rfl, ?_⟩
    rw [hs]
    refine iteF ?_
    have s12 := s1.trans s2
    refine ⟨_, rfl, _, spKeep K, p, dx, _, rfl, s12 _ _ hp, (met_keep T).mono (by decide), rfl, _, rfl, _, rfl, ?_⟩
    exact ⟨p, l, k, n, .non, none, ds, rfl, hR.keep s12, rfl, hn, fun H5 b5 h5 => q H5 (s12.but b5) h5⟩
theorem met_strike (T : Txt K mg) : Met P w K mg base 4 (He.ga K "Roll") "strike" (spStrike K) := by
  obtain ⟨fd, F⟩ := T.fn_Roll_strike
  exact met_of T.cl_Roll T.me_Roll_strike F (ok_Roll_strike T F) (fun _ _ _ _ _ _ us hl => match us, hl with | [_, _, _], _ => rfl)
end
end Lr

set_option maxHeartbeats 4000000
/-! Defs: what the roll tells. -/
namespace Lr
open PySem PySem.Spec PyProof.Rows L2
/-- an entry or None -/
def OEnt (K : PySem.W.Frag) (H : Hp) (v : V) : Option Row → Prop
  | none => v = .non
  | some r => EntAt K H v r
theorem OEnt.keep {K : PySem.W.Frag} {H H' : Hp} {v : V} : ∀ {o : Option Row}, OEnt K H v o → Same H H' → OEnt K H' v o
  | none, h, _ => h
  | some _, h, s => EntAt.keep h s
theorem OEnt.but {K : PySem.W.Frag} {H H' : Hp} {v : V} {l : Addr} {xs : List V} (b : But l H H') (hl : H l = some (.lst xs)) : ∀ {o : Option Row}, OEnt K H v o → OEnt K H' v o
  | none, h => h
  | some _, h => EntAt.but h b hl
/-- a pair of a whole number and an entry or None -/
def PrE (K : PySem.W.Frag) (H : Hp) (x : V) (e : Int × Option Row) : Prop := ∃ t ev, x = .ref t ∧ H t = some (.tup [.int e.1, ev]) ∧ OEnt K H ev e.2
theorem PrE.keep {K : PySem.W.Frag} {H H' : Hp} {x : V} {e : Int × Option Row} (h : PrE K H x e) (s : Same H H') : PrE K H' x e := let ⟨t, ev, a, b, c⟩ := h; ⟨t, ev, a, s _ _ b, c.keep s⟩
theorem PrE.but {K : PySem.W.Frag} {H H' : Hp} {x : V} {e : Int × Option Row} {l : Addr} {xs : List V} (h : PrE K H x e) (s : But l H H') (hl : H l = some (.lst xs)) : PrE K H' x e :=
  let ⟨t, ev, a, b, c⟩ := h; ⟨t, ev, a, s.tups hl _ _ b, c.but s hl⟩
abbrev sp2 (e : Int × Row) : Int × Option Row := (e.1, some e.2)
section
variable {P : Program} {w : World} {K : PySem.W.Frag} {mg : Str → Option Value} {base : Heap}
/-- numbers with entries, rising -/
def spStanding (K : PySem.W.Frag) : Sp := fun vs H Q _ => ∃ (p l : Addr) (k : Int) (ds : List Deed), vs = [.ref p, .int k] ∧ RollAt K H p l ds ∧ ds.length ≤ 500 ∧ RowsOk ds ∧
  ∀ (a : Addr) (xs : List V) (H' : Hp) (L : List (Int × Row)), Same H H' → H a = none → H' a = some (.lst xs) → Paired (PrE K H') xs (L.map sp2) → Stands ds k L → Q (.ref a) H'
abbrev s_Roll_standing : Stmt := inClass (top 85) 6
abbrev nm_Roll_standing : List Str := ["self", "known", "number", "row"]
abbrev pm_Roll_standing : List Str := ["self", "known"]
theorem sc_Roll_standing : FnScope nm_Roll_standing pm_Roll_standing (defScope s_Roll_standing) := ⟨rfl, rfl, rfl, by decide +kernel, rfl, by decide +kernel, by decide +kernel⟩
theorem ok_Roll_standing (T : Txt K mg) {f : Addr} {fd : FuncData} (F : FnP K "standing" "Roll.standing" s_Roll_standing f fd) : FnOk P w K mg base CX0 6 f fd pm_Roll_standing (spStanding K) := by
  refine fnok F sc_Roll_standing (fun vs H Q E h => ?_) (fun cdv A outer s H vs Q E hr h => ?_)
  · obtain ⟨p, l, k, ds, rfl, _⟩ := h
    rfl
  · obtain ⟨p, l, k, ds, rfl, hR, hn, hok, q⟩ := h
    have hu := hu_of hr
    have nd := sc_Roll_standing.nd
    have k_entry_of := cal_entry_of (P := P) (w := w) (base := base) T
    refine ⟨_, (pss_one (ps_ret (pe_lc (own := [("number", 2), ("row", 3)]) (g := (gTup K 2 (gCons (gName 2) (gCons (gName 3) gNil)))) rfl nd (pi_list (pe_callB (cr_sortedIK rfl) rfl T.no_sorted boot_sorted (pa_cons (pe_bm0 PySem.F.plainAttrs_dict PySem.F.slot_dict_items PySem.F.type_dict_items mt_itemsK (pe_mt hr (pv 0) (pa_cons (pv 1) pa_nil))) pa_nil))) (blkOk_by (N := nm_Roll_standing) (sc := defScope s_Roll_standing) (by decide +kernel)) (fun _ _ _ _ _ => (pg_tup rfl (pgs_cons (pg_name (i := 2) nd rfl (by first | exact Or.inl rfl | exact Or.inr rfl)) (pgs_cons (pg_name (i := 3) nd rfl (by first | exact Or.inl rfl | exact Or.inr rfl)) pgs_nil)))) (fun _ _ _ _ _ => pts_nil) (fun _ _ _ _ _ => (pe_tup (pa_cons (pv 2) (pa_cons (pe_c k_entry_of hr (pa_cons (pv 3) pa_nil)) pa_nil))))))), ?_⟩
    obtain ⟨dx, b, xs, hp, hl, dd⟩ := id hR
    refine ⟨_, rfl, _, spRowsAt K, p, dx, _, rfl, hp, (met_rows_at T).mono (by decide), rfl, _, rfl, p, l, k, ds, rfl, hR, hn, fun d H1 ks L s1 hd nd2 hL hLm => ?_⟩
    refine ⟨.inr (.inr (.inl ⟨rfl, .inl ⟨_, hd⟩⟩)), d, _, rfl, rfl, hd, fun v nv => ?_⟩
    obtain ⟨H2, e2, s2, hv⟩ := upd_abs H1 v (DX.itemsO v d) nv
    rw [e2]
    refine ⟨v, d, ks, rfl, hv, s2 _ _ hd, nd2, fun H3 a ps s3 na perm pw hlst htup => ?_⟩
    have s13 := (s1.trans s2).trans s3
    have s1k : Same H1 H3 := s2.trans s3
    obtain ⟨M, pM, hM⟩ := paired_perm perm hL
    have hMst : Stands ds k M := by
      refine ⟨?_, fun n r => by rw [pM.mem_iff, hLm]⟩
      have : ∀ {l : List (Int × V)} {m : List (Int × Row)}, Paired (fun a e => a.1 = e.1 ∧ RowAt H1 a.2 e.2) l m → l.map (·.1) = m.map (·.1) := by
        intro l m h
        induction h with
        | nil => rfl
        | cons a _ ih => rw [List.map_cons, List.map_cons, a.1, ih]
      have z := List.pairwise_map.mpr pw
      have z2 : ((ps.map (·.2)).map (·.1)).Pairwise (· < ·) := z
      rw [this hM] at z2
      exact List.pairwise_map.mp z2
    have psl : ps.length = M.length := by
      have := paired_len hM
      rw [List.length_map] at this
      exact this
    refine ⟨a, rfl, ⟨_, SqL.of hlst⟩, fun D nD => ?_⟩
    have hkl : M.length ≤ 500 := by
      have a1 := pM.length_eq
      have a2 : L.length ≤ ds.length := by
        have nl : (L.map (·.1)).Nodup := by
          have : ∀ {l : List (Int × V)} {m : List (Int × Row)}, Paired (fun a e => a.1 = e.1 ∧ RowAt H1 a.2 e.2) l m → l.map (·.1) = m.map (·.1) := by
            intro l m h
            induction h with
            | nil => rfl
            | cons a _ ih => rw [List.map_cons, List.map_cons, a.1, ih]
          rw [← this hL]
          exact nd2
        have sub : ∀ n ∈ L.map (·.1), n ∈ ds.map (·.num) := by
          intro n hm
          obtain ⟨e, he, rfl⟩ := List.mem_map.mp hm
          have c := (hLm e.1 e.2).mp he
          unfold cur at c
          cases z : lastO k e.1 ds with
          | none => rw [z] at c; cases c
          | some o =>
            obtain ⟨d0, h0, _, hnum, _⟩ := lastO_mem z
            exact List.mem_map.mpr ⟨d0, h0, hnum⟩
        have := List.Nodup.length_le_of_subset nl sub
        rw [List.length_map, List.length_map] at this
        exact this
      omega
    refine lc_list (K := K) (a := a) (xs := ps.map fun z => V.ref z.1) (fun i G => Same H3 G ∧ ∃ ys : List V, G D = some (.lst ys) ∧ Paired (PrE K G) ys ((M.take i).map sp2)) ⟨same_upd nD, [], upd_same, .nil⟩ (fun i G _ h => h.1.seq (SqL.of hlst)) ?_ ?_
    · rintro i x G hi ⟨s4, ys, hD, hy⟩
      rw [List.getElem?_map] at hi
      obtain ⟨z, hz, rfl⟩ := Option.map_eq_some_iff.mp hi
      have hz2 : (ps.map (·.2))[i]? = some z.2 := by rw [List.getElem?_map, hz]; rfl
      obtain ⟨e, he, e1, hr⟩ := paired_at hM hz2
      have ht := s4 _ _ (htup z (List.mem_of_getElem? hz))
      have hr' : RowAt G z.2.2 e.2 := hr.keep ((s1k.trans s4).tups)
      have ok : e.2.Ok := by
        have c := (hMst.2 e.1 e.2).mp (List.mem_of_getElem? he)
        obtain ⟨d0, h0, hrow⟩ := cur_mem c
        exact hok d0 h0 _ hrow
      refine ⟨z.1, _, rfl, SqT.of ht, rfl, _, _, rfl, _, _, rfl, rfl, rfl, ?_⟩
      refine ⟨_, rfl, _, rfl, z.2.2, e.2, rfl, hr', ok, fun ev G2 s5 hev => ⟨(by show 2 ≤ sizeLine; decide), fun U nU => ?_⟩⟩
      obtain ⟨G3, e3, s6, hU⟩ := upd_abs G2 U (.tup [.int z.2.1, ev]) nU
      rw [e3]
      have hil : i < M.length := (List.getElem?_eq_some_iff.mp he).1
      have ylen : ys.length ≤ 500 := by
        have := paired_len hy
        rw [List.length_map, List.length_take] at this
        omega
      refine ⟨ys, (s5.trans s6) _ _ hD, by rw [sizeLine_eq]; omega, ?_⟩
      obtain ⟨G4, e4, b4, hD4⟩ := set_abs G3 D (.lst (ys ++ [.ref U]))
      rw [e4]
      have hD3 := (s5.trans s6) _ _ hD
      refine ⟨?_, _, hD4, ?_⟩
      · intro bb o hb
        exact b4 _ _ ((s4.trans (s5.trans s6)) _ _ hb) (ne_of_none hb nD)
      · rw [take_succ_at he, List.map_append]
        refine paired_snoc (paired_imp (fun _ _ h => (h.keep (s5.trans s6)).but b4 hD3) hy) ⟨U, ev, rfl, ?_, ?_⟩
        · show G4 U = some (.tup [.int e.1, ev])
          rw [← e1]
          exact b4.tups hD3 _ _ hU
        · exact EntAt.but (hev.keep s6) b4 hD3
    · rintro G ⟨s4, ys, hD, hy⟩
      rw [List.length_map, psl, List.take_length] at hy
      exact q D ys G M (s13.trans s4) (s13.free nD) hD hy hMst
theorem met_standing (T : Txt K mg) : Met P w K mg base 6 (He.ga K "Roll") "standing" (spStanding K) := by
  obtain ⟨fd, F⟩ := T.fn_Roll_standing
  exact met_of T.cl_Roll T.me_Roll_standing F (ok_Roll_standing T F) (fun _ _ _ _ _ _ us hl => match us, hl with | [_, _], _ => rfl)
def spHistory (K : PySem.W.Frag) : Sp := fun vs H Q _ => ∃ (p l : Addr) (n : Int) (ds : List Deed), vs = [.ref p, .int n] ∧ RollAt K H p l ds ∧ ds.length ≤ 500 ∧ RowsOk ds ∧
  ∀ (a : Addr) (xs : List V) (H' : Hp), Same H H' → H a = none → H' a = some (.lst xs) → Paired (PrE K H') xs (hist n ds) → Q (.ref a) H'
abbrev s_Roll_history : Stmt := inClass (top 85) 9
abbrev nm_Roll_history : List Str := ["self", "number", "found", "known", "other", "row"]
abbrev pm_Roll_history : List Str := ["self", "number"]
theorem sc_Roll_history : FnScope nm_Roll_history pm_Roll_history (defScope s_Roll_history) := ⟨rfl, rfl, rfl, by decide +kernel, rfl, by decide +kernel, by decide +kernel⟩
theorem ok_Roll_history (T : Txt K mg) {f : Addr} {fd : FuncData} (F : FnP K "history" "Roll.history" s_Roll_history f fd) : FnOk P w K mg base CX0 6 f fd pm_Roll_history (spHistory K) := by
  refine fnok F sc_Roll_history (fun vs H Q E h => ?_) (fun cdv A outer s H vs Q E hr h => ?_)
  · obtain ⟨p, l, n, ds, rfl, _⟩ := h
    rfl
  · obtain ⟨p, l, n, ds, rfl, hR, hn, hok, q⟩ := h
    have hu := hu_of hr
    have nd := sc_Roll_history.nd
    have k_entry_of := cal_entry_of (P := P) (w := w) (base := base) T
    refine ⟨_, (pss_cons (ps_set (i := 2) nd rfl (by first | exact Or.inl rfl | exact Or.inr rfl) (pe_lst pa_nil))
        (pss_cons (ps_for PassesOwn.never rfl (pi_list (pe_fld (pv 0) rfl)) (pg_tup rfl (pgs_cons (pg_name (i := 3) nd rfl (by first | exact Or.inl rfl | exact Or.inr rfl)) (pgs_cons (pg_name (i := 4) nd rfl (by first | exact Or.inl rfl | exact Or.inr rfl)) (pgs_cons (pg_name (i := 5) nd rfl (by first | exact Or.inl rfl | exact Or.inr rfl)) pgs_nil))))
        (pss_one (ps_if (PW.pt (pw_and (pt_cmpR op_eq (pv 4) (pv 1) (nomark _)) (pw_and1 (pt_cmpR op_isN (pv 5) pe_non (nomark _)))))
        (pss_one (ps_expr (pe_bm PySem.F.plainAttrs_list PySem.F.slot_list_append PySem.F.type_list_append mt_append (pv 2) (pa_cons (pe_tup (pa_cons (pv 3) (pa_cons pe_non pa_nil))) pa_nil))))
        (pss_one (ps_if (pt_cmpR op_eq (pv 4) (pv 1) (nomark _))
        (pss_one (ps_expr (pe_bm PySem.F.plainAttrs_list PySem.F.slot_list_append PySem.F.type_list_append mt_append (pv 2) (pa_cons (pe_tup (pa_cons (pv 3) (pa_cons (pe_c k_entry_of hr (pa_cons (pv 5) pa_nil)) pa_nil))) pa_nil))))
        pss_nil)))))
        (pss_one (ps_ret (pv 2))))), ?_⟩
    obtain ⟨dx, b, xs, hp, hl, dd⟩ := id hR
    refine ⟨Nat.zero_le _, fun D nD => ?_⟩
    obtain ⟨G, eG, s1, hD⟩ := upd_abs H D (.lst []) nD
    rw [eG]
    have nlD : l ≠ D := ne_of_none hl nD
    refine ⟨_, rfl, p, _, dx, _, _, rfl, s1 _ _ hp, T.cl_Roll, T.na_Roll_deeds, rfl, l, rfl, ⟨_, SqL.of (s1 _ _ hl)⟩, ?_⟩
    refine for_list (K := K) (a := l) (xs := xs) (fun i σ G' => ∃ (ys : List V) (v3 v4 v5 : Option V), σ = [some (.ref p), some (.int n), some (.ref D), v3, v4, v5] ∧ Same H G' ∧ G' D = some (.lst ys) ∧ Paired (PrE K G') ys (hist n (ds.take i)))
      ⟨[], none, none, none, rfl, s1, hD, .nil⟩ (fun i σ G' _ ⟨_, _, _, _, _, s', _⟩ => SqL.of (s' _ _ hl)) ?_ ?_
    · rintro i x σ G' hi ⟨ys, v3, v4, v5, rfl, s', hD', hy⟩
      obtain ⟨e, he, hx⟩ := paired_at dd hi
      obtain ⟨a, rv, rfl, ha, ho⟩ := hx
      have hil : i < ds.length := (List.getElem?_eq_some_iff.mp he).1
      have ho' := ho.keep s'.tups
      have ylen : ys.length ≤ 500 := by
        have := paired_len hy
        have := hist_len n (ds.take i)
        rw [List.length_take] at this
        omega
      -- a pair more
      have more : ∀ {G2 : Hp} {U : Addr} {ev : V}, Same G' G2 → G2 U = none → OEnt K G2 ev e.row → e.num = n →
          ∃ G4, upd (upd G2 U (.tup [.int e.at_, ev])) D (.lst (ys ++ [.ref U])) = G4 ∧ (upd G2 U (.tup [.int e.at_, ev])) D = some (.lst ys) ∧
            (Same H G4 ∧ G4 D = some (.lst (ys ++ [.ref U])) ∧ Paired (PrE K G4) (ys ++ [.ref U]) (hist n (ds.take (i + 1)))) := by
        intro G2 U ev s2 nU hev hnum
        obtain ⟨G3, e3, s3, hU⟩ := upd_abs G2 U (.tup [.int e.at_, ev]) nU
        rw [e3]
        obtain ⟨G4, e4, b4, h4⟩ := set_abs G3 D (.lst (ys ++ [.ref U]))
        rw [e4]
        have hD3 := (s2.trans s3) _ _ hD'
        refine ⟨G4, rfl, hD3, fun bb o hb => b4 _ _ ((s'.trans (s2.trans s3)) _ _ hb) (ne_of_none hb nD), h4, ?_⟩
        rw [take_succ_at he, hist_snoc, if_pos hnum]
        exact paired_snoc (paired_imp (fun _ _ h => (h.keep (s2.trans s3)).but b4 hD3) hy) ⟨U, ev, rfl, b4.tups hD3 _ _ hU, OEnt.but b4 hD3 (hev.keep s3)⟩
      have skip : e.num ≠ n → hist n (ds.take (i + 1)) = hist n (ds.take i) := fun h => by rw [take_succ_at he, hist_snoc, if_neg h]
      refine ⟨a, _, rfl, SqT.of (s' _ _ ha), rfl, _, _, rfl, _, _, rfl, _, _, rfl, rfl, ?_⟩
      -- other == number and row is None
      refine ⟨_, rfl, _, rfl, rfl, _, rfl, ?_⟩
      by_cases c : e.num = n
      · refine iteD (congrArg V.int c) ⟨_, rfl, rfl, _, rfl, ?_⟩
        cases hrow : e.row with
        | none =>
          rw [hrow] at ho'
          have hrv : rv = .non := ho'
          refine iteD hrv ?_
          refine ⟨_, rfl, .inl ⟨rfl, _, SqL.of hD'⟩, ?_⟩
          refine ⟨_, rfl, (by show 2 ≤ sizeLine; decide), fun U nU => ?_⟩
          obtain ⟨G4, e4, h3, m1, m2, m3⟩ := more (Same.refl G') nU (ev := .non) (by rw [hrow]; rfl) c
          exact ⟨D, ys, _, rfl, rfl, h3, by rw [sizeLine_eq]; omega, by rw [e4]; exact ⟨_, _, _, _, rfl, m1, m2, m3⟩⟩
        | some r =>
          rw [hrow] at ho'
          have hrv : ¬ rv = .non := fun z => by have := (orow_non ho').mp z; cases this
          refine iteDF hrv ?_
          refine ⟨_, rfl, _, rfl, rfl, _, rfl, iteD (congrArg V.int c) ?_⟩
          refine ⟨_, rfl, .inl ⟨rfl, _, SqL.of hD'⟩, ?_⟩
          refine ⟨_, rfl, _, rfl, rv, r, rfl, ho', hok e (List.mem_of_getElem? he) r hrow, fun ev G2 s2 hev => ⟨(by show 2 ≤ sizeLine; decide), fun U nU => ?_⟩⟩
          obtain ⟨G4, e4, h3, m1, m2, m3⟩ := more s2 nU (ev := ev) (by rw [hrow]; exact hev) c
          exact ⟨D, ys, _, rfl, rfl, h3, by rw [sizeLine_eq]; omega, by rw [e4]; exact ⟨_, _, _, _, rfl, m1, m2, m3⟩⟩
      · have c' : ¬ V.int e.num = V.int n := fun z => c (V.int.inj z)
        refine iteDF c' ?_
        refine iteF ?_
        exact ⟨_, rfl, _, rfl, rfl, _, rfl, iteDF c' ⟨ys, _, _, _, rfl, s', hD', by rw [skip c]; exact hy⟩⟩
    · rintro σ G' ⟨ys, v3, v4, v5, rfl, s', hD', hy⟩
      have hxl : xs.length = ds.length := paired_len dd
      rw [hxl, List.take_length] at hy
      exact ⟨_, rfl, q D ys G' s' nD hD' hy⟩
theorem met_history (T : Txt K mg) : Met P w K mg base 6 (He.ga K "Roll") "history" (spHistory K) := by
  obtain ⟨fd, F⟩ := T.fn_Roll_history
  exact met_of T.cl_Roll T.me_Roll_history F (ok_Roll_history T F) (fun _ _ _ _ _ _ us hl => match us, hl with | [_, _], _ => rfl)
def spKnowns (K : PySem.W.Frag) : Sp := fun vs H Q _ => ∃ (p l : Addr) (ds : List Deed), vs = [.ref p] ∧ RollAt K H p l ds ∧ ds.length < 64 ∧
  ∀ (a : Addr) (ns : List Int) (H' : Hp), Same H H' → H a = none → H' a = some (.lst (ns.map V.int)) → ns.Pairwise (· < ·) → (∀ k : Int, k ∈ ns ↔ k ∈ ds.map (·.at_)) → Q (.ref a) H'
abbrev s_Roll_knowns : Stmt := inClass (top 85) 10
abbrev nm_Roll_knowns : List Str := ["self", "deed"]
abbrev pm_Roll_knowns : List Str := ["self"]
theorem sc_Roll_knowns : FnScope nm_Roll_knowns pm_Roll_knowns (defScope s_Roll_knowns) := ⟨rfl, rfl, rfl, by decide +kernel, rfl, by decide +kernel, by decide +kernel⟩
theorem ok_Roll_knowns (T : Txt K mg) {f : Addr} {fd : FuncData} (F : FnP K "knowns" "Roll.knowns" s_Roll_knowns f fd) : FnOk P w K mg base CX0 1 f fd pm_Roll_knowns (spKnowns K) := by
  refine fnok F sc_Roll_knowns (fun vs H Q E h => ?_) (fun cdv A outer s H vs Q E hr h => ?_)
  · obtain ⟨p, l, ds, rfl, _⟩ := h
    rfl
  · obtain ⟨p, l, ds, rfl, hR, hn, q⟩ := h
    have hu := hu_of hr
    have nd := sc_Roll_knowns.nd
    refine ⟨_, (pss_one (ps_ret (pe_callB (cr_sortedSet rfl) rfl T.no_sorted boot_sorted (pa_cons (pe_callTy (cr_setL rfl) rfl T.no_set boot_set (pa_cons (pe_lc (own := [("deed", 1)]) (g := (gName 1)) rfl nd (pi_list (pe_fld (pv 0) rfl)) (blkOk_by (N := nm_Roll_knowns) (sc := defScope s_Roll_knowns) (by decide +kernel)) (fun _ _ _ _ _ => (pg_name (i := 1) nd rfl (by first | exact Or.inl rfl | exact Or.inr rfl))) (fun _ _ _ _ _ => pts_nil) (fun _ _ _ _ _ => (pe_ix (r := rIxT K) ix_tup (pv 1) pe_int (fun _ _ => rfl)))) pa_nil)) pa_nil)))), ?_⟩
    obtain ⟨dx, b, xs, hp, hl, dd⟩ := id hR
    refine ⟨_, rfl, p, _, dx, _, _, rfl, hp, T.cl_Roll, T.na_Roll_deeds, rfl, l, rfl, ⟨_, SqL.of hl⟩, fun D nD => ?_⟩
    refine lc_list (K := K) (a := l) (xs := xs) (fun i G => Same H G ∧ G D = some (.lst ((((ds.take i).map (·.at_)).map V.int)))) ⟨same_upd nD, upd_same⟩ (fun i G _ h => h.1.seq (SqL.of hl)) ?_ ?_
    · rintro i x G hi ⟨s1, hD⟩
      obtain ⟨e, he, a, rv, rfl, ha, ho⟩ := paired_at dd hi
      have hil : i < ds.length := (List.getElem?_eq_some_iff.mp he).1
      refine ⟨rfl, ?_⟩
      refine ⟨_, rfl, a, _, _, _, rfl, rfl, SqT.of (s1 _ _ ha), atI_nat (j := 0) rfl, _, hD, ?_, ?_, ?_⟩
      · rw [List.length_map, List.length_map, List.length_take, sizeLine_eq]
        omega
      · exact s1.upd nD
      · rw [upd_same, take_succ_at he, List.map_append, List.map_append]
        rfl
    · rintro G ⟨s1, hD⟩
      have hxl : xs.length = ds.length := paired_len dd
      rw [hxl, List.take_length] at hD
      refine ⟨D, ds.map (·.at_), rfl, SqL.of hD, by rw [List.length_map]; omega, fun p1 n1 np1 hn1 => ?_⟩
      have s2 := same_upd (o := SetO w p1 (fun j => decide (j ∈ ds.map (·.at_))) n1) np1
      rw [List.length_map] at hn1
      refine ⟨p1, _, n1, rfl, upd_same, by omega, fun ns p2 pw mem hlen np2 => ?_⟩
      exact q p2 ns _ ((s1.trans s2).trans (same_upd np2)) ((s1.trans s2).free np2) upd_same pw (fun k => by rw [mem]; simp)
theorem met_knowns (T : Txt K mg) : Met P w K mg base 1 (He.ga K "Roll") "knowns" (spKnowns K) := by
  obtain ⟨fd, F⟩ := T.fn_Roll_knowns
  exact met_of T.cl_Roll T.me_Roll_knowns F (ok_Roll_knowns T F) (fun _ _ _ _ _ _ us hl => match us, hl with | [_], _ => rfl)
end
end Lr

set_option maxHeartbeats 4000000
/-! Defs: the law's draws. -/
namespace Lr
open PySem PySem.Spec PyProof.Rows L2
theorem int_at {ns : List Int} {i : Int} (h0 : 0 ≤ i) (h1 : i < ns.length) : ∃ c, atI (ns.map V.int) i = some (.int c) := by
  have hl : i.toNat < ns.length := by omega
  refine ⟨ns[i.toNat], ?_⟩
  have h : (ns.map V.int)[i.toNat]? = some (V.int ns[i.toNat]) := by
    rw [List.getElem?_map, List.getElem?_eq_getElem hl]
    rfl
  exact at_of (by omega) h
theorem cmul {i j : Int} (h0 : 0 ≤ i) (h1 : i ≤ 9000000000000000000) : CMul i j := .inl ⟨by omega, by omega⟩
theorem mod_lo (i : Int) {m : Int} (h : 0 < m) : 0 ≤ i % m := Int.emod_nonneg _ (by omega)
theorem mod_hi (i : Int) {m : Int} (h : 0 < m) : i % m < m := Int.emod_lt_of_pos _ h
section
variable {P : Program} {w : World} {K : PySem.W.Frag} {mg : Str → Option Value} {base : Heap}
/-- a script -/
def Scr (K : PySem.W.Frag) (H : Hp) (a : Addr) (ns : List Int) : Prop := SqL K H a (ns.map V.int) ∧ ns.length ≤ 63
theorem Scr.keep {H H' : Hp} {a : Addr} {ns : List Int} (h : Scr K H a ns) (s : Same H H') : Scr K H' a ns := ⟨s.seq h.1, h.2⟩
def spDraw (K : PySem.W.Frag) : Sp := fun vs H Q _ => ∃ (a : Addr) (ns : List Int) (k m : Int), vs = [.ref a, .int k, .int m] ∧ Scr K H a ns ∧ (0 ≤ k ∧ k ≤ 100) ∧ 0 < m ∧ ∀ z : Int, 0 ≤ z → z < m → Q (.int z) H
abbrev s_law_draw : Stmt := top 87
abbrev nm_law_draw : List Str := ["_law_script", "_law_k", "_law_many", "_law_cell_here", "_law_one", "_law_other"]
abbrev pm_law_draw : List Str := ["_law_script", "_law_k", "_law_many"]
theorem sc_law_draw : FnScope nm_law_draw pm_law_draw (defScope s_law_draw) := ⟨rfl, rfl, rfl, by decide +kernel, rfl, by decide +kernel, by decide +kernel⟩
theorem ok_law_draw (T : Txt K mg) {f : Addr} {fd : FuncData} (F : FnP K "_law_draw" "_law_draw" s_law_draw f fd) : FnOk P w K mg base CX0 1 f fd pm_law_draw (spDraw K) := by
  refine fnok F sc_law_draw (fun vs H Q E h => ?_) (fun cdv A outer s H vs Q E hr h => ?_)
  · obtain ⟨a, ns, k, m, rfl, _⟩ := h
    rfl
  · obtain ⟨a, ns, k, m, rfl, ⟨hs, hn⟩, ⟨k0, k1⟩, hm, q⟩ := h
    have hu := hu_of hr
    have nd := sc_law_draw.nd
    refine ⟨_, (pss_cons (ps_set (i := 3) nd rfl (by first | exact Or.inl rfl | exact Or.inr rfl) pe_int)
        (C8.pss_cut (ps_if (pt_cmpR op_gt (pe_callB call_len rfl T.no_len boot_len (pa_cons (pv 0) pa_nil)) pe_int (nomark _))
        (pss_one (ps_set (i := 3) nd rfl (by first | exact Or.inl rfl | exact Or.inr rfl) (pe_ix (r := rIxL K) ix_list (pv 0) (pe_op op_mod (pv 1) (pe_callB call_len rfl T.no_len boot_len (pa_cons (pv 0) pa_nil))) (fun _ _ => rfl))))
        pss_nil)
        (C8.pss_cut (ps_if (PW.pt (pw_and (pt_cmpR op_gt (pv 3) (pe_op op_pow pe_int pe_int) (nomark _)) (pw_and (pt_cmpR op_eq (pe_op op_mod (pv 3) pe_int) pe_int (nomark _)) (pw_and1 (pt_cmpR op_lt (pv 1) (pe_callB call_len rfl T.no_len boot_len (pa_cons (pv 0) pa_nil)) (nomark _))))))
        (pss_one (ps_ret (pe_op op_mod (pe_op op_fdiv (pv 3) pe_int) (pv 2))))
        pss_nil)
        (C8.pss_cut (ps_set (i := 4) nd rfl (by first | exact Or.inl rfl | exact Or.inr rfl) (pe_op op_mod (pe_op op_mul (pe_op op_add (pe_op op_mod (pv 3) pe_int) pe_int) (pe_op op_add pe_int (pe_op op_mul (pe_op op_mul pe_int (pv 1)) (pe_op op_add (pv 1) pe_int)))) pe_int))
        (C8.pss_cut (ps_set (i := 5) nd rfl (by first | exact Or.inl rfl | exact Or.inr rfl) (pe_op op_mod (pe_op op_add (pe_op op_mul (pv 4) (pv 4)) pe_int) pe_int))
        (pss_one (ps_ret (pe_op op_mod (pe_op op_fdiv (pe_op op_mod (pe_op op_add (pv 4) (pe_op op_mul (pv 5) pe_int)) pe_int) pe_int) (pv 2))))))))), ?_⟩
    refine ⟨fun σ G => G = H ∧ ∃ c : Int, σ = [some (.ref a), some (.int k), some (.int m), some (.int c), none, none], ?_, ?_⟩
    · refine ⟨_, rfl, .ref a, _, rfl, .inl ⟨_, hs, rfl⟩, _, _, rfl, rfl, _, rfl, ?_⟩
      refine ite2 (fun c => ?_) (fun c => ⟨rfl, _, rfl⟩)
      have hl : (0 : Int) < ((ns.map V.int).length : Nat) := of_decide_eq_true c
      rw [List.length_map] at hl
      obtain ⟨x, hx⟩ := int_at (ns := ns) (i := k % ((ns.map V.int).length : Nat)) (mod_lo _ (by rw [List.length_map]; exact hl)) (by rw [List.length_map]; exact mod_hi _ hl)
      exact ⟨_, rfl, _, rfl, _, rfl, .ref a, _, rfl, .inl ⟨_, hs, rfl⟩, _, _, rfl, rfl, (by rw [List.length_map]; exact hl), a, _, _, _, rfl, rfl, hs, hx, rfl, _, rfl⟩
    · rintro σ G ⟨rfl, c, rfl⟩
      refine ⟨fun σ G' => G' = G ∧ σ = [some (.ref a), some (.int k), some (.int m), some (.int c), none, none], ?_, ?_⟩
      · refine ⟨_, rfl, _, _, rfl, rfl, ⟨by decide, by decide, by decide⟩, _, _, rfl, rfl, _, rfl, ite2 (fun _ => ?_) (fun _ => iteF ⟨rfl, rfl⟩)⟩
        refine ⟨_, rfl, _, _, rfl, rfl, (by show (0 : Int) < 2; decide), rfl, _, rfl, ite2 (fun _ => ?_) (fun _ => iteF ⟨rfl, rfl⟩)⟩
        refine ⟨_, rfl, _, rfl, .ref a, _, rfl, .inl ⟨_, hs, rfl⟩, _, _, rfl, rfl, _, rfl, ite2 (fun _ => ?_) (fun _ => ⟨rfl, rfl⟩)⟩
        exact ⟨_, rfl, _, _, rfl, rfl, ⟨by decide, by decide⟩, _, rfl, _, _, rfl, rfl, hm, q _ (mod_lo _ hm) (mod_hi _ hm)⟩
      · rintro σ G' ⟨rfl, rfl⟩
        have c0 := mod_lo c (m := 2147483647) (by decide)
        have c1 := mod_hi c (m := 2147483647) (by decide)
        refine ⟨fun σ G => G = G' ∧ ∃ y : Int, (0 ≤ y ∧ y < 2147483647) ∧ σ = [some (.ref a), some (.int k), some (.int m), some (.int c), some (.int y), none], ?_, ?_⟩
        · refine ⟨_, rfl, _, _, rfl, rfl, (by show (0 : Int) < 2147483647; decide), _, _, rfl, rfl, ?_⟩
          exact ⟨_, rfl, _, _, rfl, rfl, cmul (by decide) (by decide), _, rfl, _, _, rfl, rfl, _, _, rfl, rfl, cmul (by omega) (by omega), _, _, rfl, rfl, _, _, rfl, rfl, cmul (by omega) (by omega), _, _, rfl, rfl, (by show (0 : Int) < 2147483647; decide), rfl, _,
            ⟨mod_lo _ (by decide), mod_hi _ (by decide)⟩, rfl⟩
        · rintro σ G ⟨rfl, y, ⟨d0, d1⟩, rfl⟩
          refine ⟨fun σ G' => G' = G ∧ ∃ z : Int, (0 ≤ z ∧ z < 998244353) ∧ σ = [some (.ref a), some (.int k), some (.int m), some (.int c), some (.int y), some (.int z)], ?_, ?_⟩
          · exact ⟨_, rfl, _, rfl, _, _, rfl, rfl, cmul d0 (by omega), _, _, rfl, rfl, _, _, rfl, rfl, (by show (0 : Int) < 998244353; decide), rfl, _, ⟨mod_lo _ (by decide), mod_hi _ (by decide)⟩, rfl⟩
          · rintro σ G' ⟨rfl, z, ⟨e0, e1⟩, rfl⟩
            exact ⟨_, rfl, _, rfl, _, _, rfl, rfl, cmul e0 (by omega), _, _, rfl, rfl, _, _, rfl, rfl, (by show (0 : Int) < 2147483647; decide), _, _, rfl, rfl, ⟨by decide, by decide⟩, _, rfl, _, _, rfl, rfl, hm, q _ (mod_lo _ hm) (mod_hi _ hm)⟩
theorem cal_law_draw (T : Txt K mg) : Cal P w K mg base 1 "_law_draw" (spDraw K) := by
  obtain ⟨fd, F⟩ := T.fn_law_draw
  exact cal_of F T.mg_law_draw (ok_law_draw T F) (fun _ _ _ _ _ _ us hl => match us, hl with | [_, _, _], _ => rfl)
def spCell (K : PySem.W.Frag) : Sp := fun vs H Q _ => ∃ (a : Addr) (ns : List Int) (k : Int), vs = [.ref a, .int k] ∧ Scr K H a ns ∧ (0 ≤ k ∧ k ≤ 100) ∧ ∀ z : Int, Q (.int z) H
abbrev s_law_cell : Stmt := top 88
abbrev nm_law_cell : List Str := ["_law_script", "_law_k"]
abbrev pm_law_cell : List Str := ["_law_script", "_law_k"]
theorem sc_law_cell : FnScope nm_law_cell pm_law_cell (defScope s_law_cell) := ⟨rfl, rfl, rfl, by decide +kernel, rfl, by decide +kernel, by decide +kernel⟩
theorem ok_law_cell (T : Txt K mg) {f : Addr} {fd : FuncData} (F : FnP K "_law_cell" "_law_cell" s_law_cell f fd) : FnOk P w K mg base CX0 2 f fd pm_law_cell (spCell K) := by
  refine fnok F sc_law_cell (fun vs H Q E h => ?_) (fun cdv A outer s H vs Q E hr h => ?_)
  · obtain ⟨a, ns, k, rfl, _⟩ := h
    rfl
  · obtain ⟨a, ns, k, rfl, hsc, ⟨k0, k1⟩, q⟩ := h
    have hu := hu_of hr
    have nd := sc_law_cell.nd
    have k_law_draw := cal_law_draw (P := P) (w := w) (base := base) T
    refine ⟨_, (C8.pss_cut (ps_if (PW.pt (pw_and (pt_cmpR op_lt (pv 1) (pe_callB call_len rfl T.no_len boot_len (pa_cons (pv 0) pa_nil)) (nomark _)) (pw_and (pt_cmpR op_gt (pe_ix (r := rIxL K) ix_list (pv 0) (pv 1) (fun _ _ => rfl)) (pe_op op_pow pe_int pe_int) (nomark _)) (pw_and1 (pt_cmpR op_eq (pe_op op_mod (pe_ix (r := rIxL K) ix_list (pv 0) (pv 1) (fun _ _ => rfl)) pe_int) pe_int (nomark _))))))
        (pss_one (ps_ret (pe_ix (r := rIxL K) ix_list (pv 0) (pv 1) (fun _ _ => rfl))))
        pss_nil)
        (pss_one (ps_ret (pe_op op_mul pe_int (pe_c k_law_draw hr (pa_cons (pv 0) (pa_cons (pv 1) (pa_cons (pe_op op_mul pe_int (pe_op op_pow pe_int pe_int)) pa_nil)))))))), ?_⟩
    obtain ⟨hs, hn⟩ := id hsc
    refine ⟨fun σ G => G = H ∧ σ = [some (.ref a), some (.int k)], ?_, ?_⟩
    · refine ⟨_, rfl, _, rfl, .ref a, _, rfl, .inl ⟨_, hs, rfl⟩, _, _, rfl, rfl, _, rfl, ite2 (fun c => ?_) (fun _ => iteF ⟨rfl, rfl⟩)⟩
      have hl : k < ((ns.map V.int).length : Nat) := of_decide_eq_true c
      rw [List.length_map] at hl
      obtain ⟨x, hx⟩ := int_at k0 hl
      refine ⟨_, rfl, _, rfl, a, _, _, _, rfl, rfl, hs, hx, _, _, rfl, rfl, ⟨by decide, by decide, by decide⟩, _, _, rfl, rfl, _, rfl, ite2 (fun _ => ?_) (fun _ => iteF ⟨rfl, rfl⟩)⟩
      refine ⟨_, rfl, _, rfl, a, _, _, _, rfl, rfl, hs, hx, _, _, rfl, rfl, (by show (0 : Int) < 2; decide), rfl, _, rfl, ite2 (fun _ => ?_) (fun _ => ⟨rfl, rfl⟩)⟩
      exact ⟨_, rfl, _, rfl, a, _, _, _, rfl, rfl, hs, hx, q _⟩
    · rintro σ G ⟨rfl, rfl⟩
      refine ⟨_, rfl, _, rfl, _, _, rfl, rfl, ⟨by decide, by decide, by decide⟩, _, _, rfl, rfl, cmul (by decide) (by decide), a, ns, k, _, rfl, hsc, ⟨k0, k1⟩, (by decide), fun z _ _ => ⟨_, _, rfl, rfl, cmul (by decide) (by decide), q _⟩⟩
theorem cal_law_cell (T : Txt K mg) : Cal P w K mg base 2 "_law_cell" (spCell K) := by
  obtain ⟨fd, F⟩ := T.fn_law_cell
  exact cal_of F T.mg_law_cell (ok_law_cell T F) (fun _ _ _ _ _ _ us hl => match us, hl with | [_, _], _ => rfl)
def spDraws : Sp := fun vs H Q _ => ∃ c m : Int, vs = [.int c, .int m] ∧ (0 ≤ m ∧ m ≤ 100) ∧ ∀ (a : Addr) (zs : List Int) (H' : Hp), Same H H' → H' a = some (.lst (zs.map V.int)) → zs.length = m.toNat → (∀ z ∈ zs, 0 ≤ z) → Q (.ref a) H'
abbrev s_law_draws : Stmt := top 89
abbrev nm_law_draws : List Str := ["_law_cell_here", "_law_many", "_law_found", "_law_number", "_law_one", "_law_other", "_law_k"]
abbrev pm_law_draws : List Str := ["_law_cell_here", "_law_many"]
theorem sc_law_draws : FnScope nm_law_draws pm_law_draws (defScope s_law_draws) := ⟨rfl, rfl, rfl, by decide +kernel, rfl, by decide +kernel, by decide +kernel⟩
theorem ok_law_draws (T : Txt K mg) {f : Addr} {fd : FuncData} (F : FnP K "_law_draws" "_law_draws" s_law_draws f fd) : FnOk P w K mg base CX0 1 f fd pm_law_draws spDraws := by
  refine fnok F sc_law_draws (fun vs H Q E h => ?_) (fun cdv A outer s H vs Q E hr h => ?_)
  · obtain ⟨c, m, rfl, _⟩ := h
    rfl
  · obtain ⟨c, m, rfl, ⟨m0, m1⟩, q⟩ := h
    have hu := hu_of hr
    have nd := sc_law_draws.nd
    refine ⟨_, (pss_cons (ps_set (i := 2) nd rfl (by first | exact Or.inl rfl | exact Or.inr rfl) (pe_lst pa_nil))
        (C8.pss_cut (ps_set (i := 3) nd rfl (by first | exact Or.inl rfl | exact Or.inr rfl) (pe_op op_fdiv (pv 0) pe_int))
        (C8.pss_cut (ps_set (i := 4) nd rfl (by first | exact Or.inl rfl | exact Or.inr rfl) (pe_op op_add (pe_op op_mod (pv 0) pe_int) pe_int))
        (C8.pss_cut (ps_set (i := 5) nd rfl (by first | exact Or.inl rfl | exact Or.inr rfl) (pe_op op_add (pe_op op_mod (pv 0) pe_int) pe_int))
        (pss_cons (ps_for PassesOwn.never rfl (pi_range1 rfl T.no_range (pa_cons (pv 1) pa_nil)) (pg_name (i := 6) nd rfl (by first | exact Or.inl rfl | exact Or.inr rfl))
        (C8.pss_cut (ps_set (i := 4) nd rfl (by first | exact Or.inl rfl | exact Or.inr rfl) (pe_op op_mod (pe_op op_mul (pv 4) pe_int) pe_int))
        (C8.pss_cut (ps_set (i := 5) nd rfl (by first | exact Or.inl rfl | exact Or.inr rfl) (pe_op op_mod (pe_op op_add (pe_op op_mul (pv 5) (pv 5)) (pv 4)) pe_int))
        (pss_one (ps_if (PW.pt (pw_and (pt_cmpR op_gt (pv 0) (pe_op op_pow pe_int pe_int) (nomark _)) (pw_and (pt_cmpR op_eq (pe_op op_mod (pv 0) pe_int) pe_int (nomark _)) (pw_and1 (pt_cmpR op_gt (pv 3) pe_int (nomark _))))))
        (pss_cons (ps_expr (pe_bm PySem.F.plainAttrs_list PySem.F.slot_list_append PySem.F.type_list_append mt_append (pv 2) (pa_cons (pe_op op_mod (pv 3) (pe_op op_pow pe_int pe_int)) pa_nil)))
        (pss_one (ps_set (i := 3) nd rfl (by first | exact Or.inl rfl | exact Or.inr rfl) (pe_op op_fdivW (pv 3) (pe_op op_pow pe_int pe_int)))))
        (pss_one (ps_expr (pe_bm PySem.F.plainAttrs_list PySem.F.slot_list_append PySem.F.type_list_append mt_append (pv 2) (pa_cons (pe_op op_fdiv (pe_op op_mod (pe_op op_add (pv 4) (pe_op op_mul (pv 5) pe_int)) pe_int) pe_int) pa_nil)))))))))
        (pss_one (ps_ret (pv 2)))))))), ?_⟩
    refine ⟨Nat.zero_le _, fun D nD => ?_⟩
    obtain ⟨G, eG, s1, hD⟩ := upd_abs H D (.lst []) nD
    rw [eG]
    refine ⟨fun σ G' => G' = G ∧ ∃ x : Int, σ = [some (.int c), some (.int m), some (.ref D), some (.int x), none, none, none], ⟨_, rfl, _, _, rfl, rfl, ⟨by decide, by decide⟩, rfl, _, rfl⟩, ?_⟩
    rintro σ G' ⟨rfl, x, rfl⟩
    refine ⟨fun σ G => G = G' ∧ ∃ y : Int, (0 ≤ y ∧ y < 3000000000) ∧ σ = [some (.int c), some (.int m), some (.ref D), some (.int x), some (.int y), none, none], ?_, ?_⟩
    · have c0 := mod_lo c (m := 2147483647) (by decide)
      have c1 := mod_hi c (m := 2147483647) (by decide)
      exact ⟨_, rfl, _, _, rfl, rfl, (by show (0 : Int) < 2147483647; decide), _, _, rfl, rfl, rfl, _, ⟨by omega, by omega⟩, rfl⟩
    rintro σ G ⟨rfl, y, hy, rfl⟩
    refine ⟨fun σ G' => G' = G ∧ ∃ z : Int, (0 ≤ z ∧ z < 2000000000) ∧ σ = [some (.int c), some (.int m), some (.ref D), some (.int x), some (.int y), some (.int z), none], ?_, ?_⟩
    · have c0 := mod_lo c (m := 998244353) (by decide)
      have c1 := mod_hi c (m := 998244353) (by decide)
      exact ⟨_, rfl, _, _, rfl, rfl, (by show (0 : Int) < 998244353; decide), _, _, rfl, rfl, rfl, _, ⟨by omega, by omega⟩, rfl⟩
    rintro σ G' ⟨rfl, z, hz, rfl⟩
    -- the loop
    refine ⟨_, rfl, m, rfl, by omega, by omega, ?_⟩
    refine for_range (lo := 0) (n := m.toNat) (fun i σ G => Same H G ∧ ∃ (x y z : Int) (v : Option V) (zs : List Int), (0 ≤ y ∧ y < 3000000000) ∧ (0 ≤ z ∧ z < 2000000000) ∧ σ = [some (.int c), some (.int m), some (.ref D), some (.int x), some (.int y), some (.int z), v] ∧ G D = some (.lst (zs.map V.int)) ∧ zs.length = i ∧ ∀ u ∈ zs, 0 ≤ u)
      ⟨s1, x, y, z, none, [], hy, hz, rfl, hD, rfl, fun _ h => by cases h⟩ ?_ ?_
    · rintro i σ G hi ⟨sG, x, y, z, v, zs, ⟨y0, y1⟩, ⟨z0, z1⟩, rfl, hD, hl, hp⟩
      have push : ∀ u : Int, 0 ≤ u → Same H (upd G D (.lst (zs.map V.int ++ [.int u]))) ∧ upd G D (.lst (zs.map V.int ++ [.int u])) D = some (.lst ((zs ++ [u]).map V.int)) ∧ (zs ++ [u]).length = i + 1 ∧ ∀ w ∈ zs ++ [u], 0 ≤ w := fun u hu =>
        ⟨sG.upd nD, by rw [upd_same, List.map_append]; rfl, by rw [List.length_append, hl]; rfl, fun w hw => by
          rcases List.mem_append.mp hw with h | h
          · exact hp w h
          · rw [List.mem_singleton.mp h]; exact hu⟩
      have room : (zs.map V.int).length < sizeLine := by rw [List.length_map, sizeLine_eq]; omega
      refine ⟨fun σ G' => G' = G ∧ ∃ y : Int, (0 ≤ y ∧ y < 2147483647) ∧ σ = [some (.int c), some (.int m), some (.ref D), some (.int x), some (.int y), some (.int z), some (.int (0 + i))], ?_, ?_⟩
      · exact ⟨_, rfl, _, _, rfl, rfl, cmul y0 (by omega), _, _, rfl, rfl, (by show (0 : Int) < 2147483647; decide), rfl, _, ⟨mod_lo _ (by decide), mod_hi _ (by decide)⟩, rfl⟩
      rintro σ G' ⟨rfl, y, ⟨y0, y1⟩, rfl⟩
      refine ⟨fun σ G => G = G' ∧ ∃ z : Int, (0 ≤ z ∧ z < 998244353) ∧ σ = [some (.int c), some (.int m), some (.ref D), some (.int x), some (.int y), some (.int z), some (.int (0 + i))], ?_, ?_⟩
      · exact ⟨_, rfl, _, rfl, _, _, rfl, rfl, cmul z0 (by omega), _, rfl, _, _, rfl, rfl, _, _, rfl, rfl, (by show (0 : Int) < 998244353; decide), rfl, _, ⟨mod_lo _ (by decide), mod_hi _ (by decide)⟩, rfl⟩
      rintro σ G ⟨rfl, z, ⟨z0, z1⟩, rfl⟩
      refine ⟨_, rfl, _, _, rfl, rfl, ⟨by decide, by decide, by decide⟩, _, _, rfl, rfl, _, rfl, ite2 (fun _ => ?_) (fun _ => iteF ?_)⟩
      · refine ⟨_, rfl, _, _, rfl, rfl, (by show (0 : Int) < 2; decide), rfl, _, rfl, ite2 (fun _ => ?_) (fun _ => iteF ?_)⟩
        · refine ⟨_, rfl, _, _, rfl, rfl, _, rfl, ite2 (fun _ => ?_) (fun _ => ?_)⟩
          · refine ⟨_, rfl, .inl ⟨rfl, _, SqL.of hD⟩, _, rfl, _, _, rfl, rfl, ⟨by decide, by decide, by decide⟩, _, _, rfl, rfl, (by show (0 : Int) < 10 ^ (13 : Int).toNat; decide), D, _, _, rfl, rfl, hD, room, ?_⟩
            obtain ⟨p1, p2, p3, p4⟩ := push (x % 10 ^ (13 : Int).toNat) (mod_lo _ (by decide))
            exact ⟨_, rfl, _, _, rfl, rfl, ⟨by decide, by decide, by decide⟩, _, _, rfl, rfl, wide_div (b := 44) (by show (0 : Int) < 10 ^ (13 : Int).toNat; decide) (by show ((10 : Int) ^ (13 : Int).toNat).natAbs < 2 ^ 44; decide) (by decide) (by decide), p1, _, y, z, _, _, ⟨y0, by omega⟩, ⟨z0, by omega⟩, rfl, p2, p3, p4⟩
          · exact ⟨_, rfl, .inl ⟨rfl, _, SqL.of hD⟩, _, rfl, _, rfl, _, _, rfl, rfl, cmul z0 (by omega), _, _, rfl, rfl, _, _, rfl, rfl, (by show (0 : Int) < 2147483647; decide), _, _, rfl, rfl, ⟨by decide, by decide⟩, D, _, _, rfl, rfl, hD, room,
          by
            have w0 : 0 ≤ (y + z * 69621) % 2147483647 / 7 := Int.ediv_nonneg (mod_lo _ (by decide)) (by decide)
            obtain ⟨p1, p2, p3, p4⟩ := push _ w0
            exact ⟨p1, x, y, z, _, _, ⟨y0, by omega⟩, ⟨z0, by omega⟩, rfl, p2, p3, p4⟩⟩
        · exact ⟨_, rfl, .inl ⟨rfl, _, SqL.of hD⟩, _, rfl, _, rfl, _, _, rfl, rfl, cmul z0 (by omega), _, _, rfl, rfl, _, _, rfl, rfl, (by show (0 : Int) < 2147483647; decide), _, _, rfl, rfl, ⟨by decide, by decide⟩, D, _, _, rfl, rfl, hD, room,
          by
            have w0 : 0 ≤ (y + z * 69621) % 2147483647 / 7 := Int.ediv_nonneg (mod_lo _ (by decide)) (by decide)
            obtain ⟨p1, p2, p3, p4⟩ := push _ w0
            exact ⟨p1, x, y, z, _, _, ⟨y0, by omega⟩, ⟨z0, by omega⟩, rfl, p2, p3, p4⟩⟩
      · exact ⟨_, rfl, .inl ⟨rfl, _, SqL.of hD⟩, _, rfl, _, rfl, _, _, rfl, rfl, cmul z0 (by omega), _, _, rfl, rfl, _, _, rfl, rfl, (by show (0 : Int) < 2147483647; decide), _, _, rfl, rfl, ⟨by decide, by decide⟩, D, _, _, rfl, rfl, hD, room,
          by
            have w0 : 0 ≤ (y + z * 69621) % 2147483647 / 7 := Int.ediv_nonneg (mod_lo _ (by decide)) (by decide)
            obtain ⟨p1, p2, p3, p4⟩ := push _ w0
            exact ⟨p1, x, y, z, _, _, ⟨y0, by omega⟩, ⟨z0, by omega⟩, rfl, p2, p3, p4⟩⟩
    · rintro σ G ⟨sG, x, y, z, v, zs, _, _, rfl, hD, hl, hp⟩
      exact ⟨_, rfl, q D zs G sG hD hl hp⟩
theorem cal_law_draws (T : Txt K mg) : Cal P w K mg base 1 "_law_draws" spDraws := by
  obtain ⟨fd, F⟩ := T.fn_law_draws
  exact cal_of F T.mg_law_draws (ok_law_draws T F) (fun _ _ _ _ _ _ us hl => match us, hl with | [_, _], _ => rfl)
def spPick : Sp := fun vs H Q _ => ∃ c b m : Int, vs = [.int c, .int b, .int m] ∧ (0 ≤ b ∧ b ≤ 90) ∧ 0 < m ∧ ∀ (z : Int) (H' : Hp), Same H H' → 0 ≤ z → z < m → Q (.int z) H'
abbrev s_law_pick : Stmt := top 90
abbrev nm_law_pick : List Str := ["_law_cell_here", "_law_by", "_law_many"]
abbrev pm_law_pick : List Str := ["_law_cell_here", "_law_by", "_law_many"]
theorem sc_law_pick : FnScope nm_law_pick pm_law_pick (defScope s_law_pick) := ⟨rfl, rfl, rfl, by decide +kernel, rfl, by decide +kernel, by decide +kernel⟩
theorem ok_law_pick (T : Txt K mg) {f : Addr} {fd : FuncData} (F : FnP K "_law_pick" "_law_pick" s_law_pick f fd) : FnOk P w K mg base CX0 2 f fd pm_law_pick spPick := by
  refine fnok F sc_law_pick (fun vs H Q E h => ?_) (fun cdv A outer s H vs Q E hr h => ?_)
  · obtain ⟨c, b, m, rfl, _⟩ := h
    rfl
  · obtain ⟨c, b, m, rfl, ⟨b0, b1⟩, hm, q⟩ := h
    have hu := hu_of hr
    have nd := sc_law_pick.nd
    have k_law_draws := cal_law_draws (P := P) (w := w) (base := base) T
    refine ⟨_, (pss_one (ps_ret (pe_op op_mod (pe_ix (r := rIxL K) ix_list (pe_c k_law_draws hr (pa_cons (pv 0) (pa_cons (pe_op op_add (pv 1) pe_int) pa_nil))) (pv 1) (fun _ _ => rfl)) (pv 2)))), ?_⟩
    refine ⟨_, rfl, _, rfl, _, _, rfl, rfl, c, b + 1, rfl, ⟨by omega, by omega⟩, fun a zs G s1 ha hl hp => ?_⟩
    obtain ⟨x, hx⟩ := int_at (ns := zs) (i := b) b0 (by rw [hl]; omega)
    exact ⟨_, rfl, a, _, _, _, rfl, rfl, SqL.of ha, hx, _, rfl, _, _, rfl, rfl, hm, q _ G s1 (mod_lo _ hm) (mod_hi _ hm)⟩
theorem cal_law_pick (T : Txt K mg) : Cal P w K mg base 2 "_law_pick" spPick := by
  obtain ⟨fd, F⟩ := T.fn_law_pick
  exact cal_of F T.mg_law_pick (ok_law_pick T F) (fun _ _ _ _ _ _ us hl => match us, hl with | [_, _, _], _ => rfl)
abbrev s_law_whole : Stmt := top 91
abbrev nm_law_whole : List Str := ["_law_found"]
abbrev pm_law_whole : List Str := ["_law_found"]
theorem sc_law_whole : FnScope nm_law_whole pm_law_whole (defScope s_law_whole) := ⟨rfl, rfl, rfl, by decide +kernel, rfl, by decide +kernel, by decide +kernel⟩
theorem ok_law_whole (T : Txt K mg) {f : Addr} {fd : FuncData} (F : FnP K "_law_whole" "_law_whole" s_law_whole f fd) : FnOk P w K mg base CX0 1 f fd pm_law_whole spWhole := by
  refine fnok F sc_law_whole (fun vs H Q E h => ?_) (fun cdv A outer s H vs Q E hr h => ?_)
  · obtain ⟨i, rfl, _⟩ := h
    rfl
  · obtain ⟨i, rfl, q⟩ := h
    have hu := hu_of hr
    have nd := sc_law_whole.nd
    refine ⟨_, (pss_one (ps_ret (pe_and (pe_callB call_isi rfl T.no_isinstance boot_isinstance (pa_cons (pv 0) (pa_cons (pe_bltn (v := .ty "int") rfl T.no_int boot_int rfl) pa_nil))) (pe_one (pe_not (pe_callB call_isi rfl T.no_isinstance boot_isinstance (pa_cons (pv 0) (pa_cons (pe_bltn (v := .ty "bool") rfl T.no_bool boot_bool rfl) pa_nil)))))))), ?_⟩
    refine ⟨_, rfl, _, _, _, _, _, rfl, .ty _, .base (.int _), kII, _, rfl, iteT ?_⟩
    exact ⟨_, rfl, _, _, _, _, _, rfl, .ty _, .base (.int _), kIB, _, rfl, q⟩
theorem cal_law_whole (T : Txt K mg) : Cal P w K mg base 1 "_law_whole" spWhole := by
  obtain ⟨fd, F⟩ := T.fn_law_whole
  exact cal_of F T.mg_law_whole (ok_law_whole T F) (fun _ _ _ _ _ _ us hl => match us, hl with | [_], _ => rfl)
/-- an item of a written list of four whole numbers -/
theorem four {l : List Int} {i : Int} (h0 : 0 ≤ i) (h1 : i < l.length) {p : Int → Prop} (hp : ∀ x ∈ l, p x) : ∃ c, atI (l.map V.int) i = some (.int c) ∧ p c := by
  obtain ⟨c, hc⟩ := int_at (ns := l) h0 h1
  refine ⟨c, hc, hp c ?_⟩
  have hl : i.toNat < l.length := by omega
  have h : (l.map V.int)[i.toNat]? = some (V.int l[i.toNat]) := by
    rw [List.getElem?_map, List.getElem?_eq_getElem hl]
    rfl
  have e := (at_of (z := i) (by omega) h).symm.trans hc
  have e2 : V.int l[i.toNat] = V.int c := Option.some.inj e
  rw [← V.int.inj e2]
  exact List.getElem_mem hl
def spScrI (K : PySem.W.Frag) (lo hi : Int) : Sp := fun vs H Q _ => ∃ (a : Addr) (ns : List Int), vs = [.ref a] ∧ Scr K H a ns ∧ ∀ (z : Int) (H' : Hp), Same H H' → lo ≤ z → z ≤ hi → Q (.int z) H'
abbrev s_law_base : Stmt := top 95
abbrev nm_law_base : List Str := ["_law_script"]
abbrev pm_law_base : List Str := ["_law_script"]
theorem sc_law_base : FnScope nm_law_base pm_law_base (defScope s_law_base) := ⟨rfl, rfl, rfl, by decide +kernel, rfl, by decide +kernel, by decide +kernel⟩
theorem ok_law_base (T : Txt K mg) {f : Addr} {fd : FuncData} (F : FnP K "_law_base" "_law_base" s_law_base f fd) : FnOk P w K mg base CX0 2 f fd pm_law_base (spScrI K 0 999700) := by
  refine fnok F sc_law_base (fun vs H Q E h => ?_) (fun cdv A outer s H vs Q E hr h => ?_)
  · obtain ⟨a, ns, rfl, _⟩ := h
    rfl
  · obtain ⟨a, ns, rfl, hs, q⟩ := h
    have hu := hu_of hr
    have nd := sc_law_base.nd
    have k_law_draw := cal_law_draw (P := P) (w := w) (base := base) T
    refine ⟨_, (pss_one (ps_ret (pe_ix (r := rIxL K) ix_list (pe_lst (pa_cons pe_int (pa_cons pe_int (pa_cons pe_int (pa_cons (pe_c k_law_draw hr (pa_cons (pv 0) (pa_cons pe_int (pa_cons pe_int pa_nil)))) pa_nil))))) (pe_c k_law_draw hr (pa_cons (pv 0) (pa_cons pe_int (pa_cons pe_int pa_nil)))) (fun _ _ => rfl)))), ?_⟩
    refine ⟨_, rfl, a, ns, _, _, rfl, hs, ⟨by decide, by decide⟩, (by decide), fun x x0 x1 => ⟨(by show 4 ≤ sizeLine; decide), fun l nl => ?_⟩⟩
    obtain ⟨G, eG, s1, hl⟩ := upd_abs H l (.lst [.int 0, .int 999700, .int 60, .int x]) nl
    rw [eG]
    refine ⟨_, rfl, a, ns, _, _, rfl, hs.keep s1, ⟨by decide, by decide⟩, (by decide), fun z z0 z1 => ?_⟩
    obtain ⟨c, hc, h0, h1⟩ := four (l := [0, 999700, 60, x]) (i := z) z0 z1 (p := fun c => 0 ≤ c ∧ c ≤ 999700) (by
      intro c hm
      simp only [List.mem_cons, List.not_mem_nil, or_false] at hm
      omega)
    exact ⟨l, _, _, _, rfl, rfl, SqL.of hl, hc, q c G s1 h0 h1⟩
theorem cal_law_base (T : Txt K mg) : Cal P w K mg base 2 "_law_base" (spScrI K 0 999700) := by
  obtain ⟨fd, F⟩ := T.fn_law_base
  exact cal_of F T.mg_law_base (ok_law_base T F) (fun _ _ _ _ _ _ us hl => match us, hl with | [_], _ => rfl)
abbrev s_law_grace : Stmt := top 99
abbrev nm_law_grace : List Str := ["_law_script"]
abbrev pm_law_grace : List Str := ["_law_script"]
theorem sc_law_grace : FnScope nm_law_grace pm_law_grace (defScope s_law_grace) := ⟨rfl, rfl, rfl, by decide +kernel, rfl, by decide +kernel, by decide +kernel⟩
theorem ok_law_grace (T : Txt K mg) {f : Addr} {fd : FuncData} (F : FnP K "_law_grace" "_law_grace" s_law_grace f fd) : FnOk P w K mg base CX0 2 f fd pm_law_grace (spScrI K 0 366) := by
  refine fnok F sc_law_grace (fun vs H Q E h => ?_) (fun cdv A outer s H vs Q E hr h => ?_)
  · obtain ⟨a, ns, rfl, _⟩ := h
    rfl
  · obtain ⟨a, ns, rfl, hs, q⟩ := h
    have hu := hu_of hr
    have nd := sc_law_grace.nd
    have k_law_draw := cal_law_draw (P := P) (w := w) (base := base) T
    refine ⟨_, (pss_one (ps_ret (pe_ix (r := rIxL K) ix_list (pe_lst (pa_cons pe_int (pa_cons pe_int (pa_cons pe_int (pa_cons pe_int pa_nil))))) (pe_op op_mod (pe_op op_fdiv (pe_c k_law_draw hr (pa_cons (pv 0) (pa_cons pe_int (pa_cons (pe_op op_pow pe_int pe_int) pa_nil)))) pe_int) pe_int) (fun _ _ => rfl)))), ?_⟩
    refine ⟨(by show 4 ≤ sizeLine; decide), fun l nl => ?_⟩
    obtain ⟨G, eG, s1, hl⟩ := upd_abs H l (.lst [.int 0, .int 3, .int 30, .int 366]) nl
    rw [eG]
    refine ⟨_, rfl, _, _, rfl, rfl, ⟨by decide, by decide, by decide⟩, a, ns, _, _, rfl, hs.keep s1, ⟨by decide, by decide⟩, (by decide), fun z z0 z1 => ?_⟩
    refine ⟨_, _, rfl, rfl, ⟨by decide, by decide⟩, _, _, rfl, rfl, (by show (0 : Int) < 4; decide), ?_⟩
    obtain ⟨c, hc, h0, h1⟩ := four (l := [0, 3, 30, 366]) (i := z / 12 % 4) (mod_lo _ (by decide)) (mod_hi _ (by decide)) (p := fun c => 0 ≤ c ∧ c ≤ 366) (by
      intro c hm
      simp only [List.mem_cons, List.not_mem_nil, or_false] at hm
      omega)
    exact ⟨l, _, _, _, rfl, rfl, SqL.of hl, hc, q c G s1 h0 h1⟩
theorem cal_law_grace (T : Txt K mg) : Cal P w K mg base 2 "_law_grace" (spScrI K 0 366) := by
  obtain ⟨fd, F⟩ := T.fn_law_grace
  exact cal_of F T.mg_law_grace (ok_law_grace T F) (fun _ _ _ _ _ _ us hl => match us, hl with | [_], _ => rfl)
def spScrC (K : PySem.W.Frag) : Sp := fun vs H Q _ => ∃ (a : Addr) (ns : List Int), vs = [.ref a] ∧ Scr K H a ns ∧ ∀ (v : V) (c : Ct) (H' : Hp), Same H H' → CtAt K H' v c → Q v H'
theorem ct_at {i : Int} (h0 : 0 ≤ i) (h1 : i < 4) : ∃ c : Ct, atI [V.str "plain", V.str "bank", V.str "thirty", V.str "exact"] i = some (.str c.name) := by
  have : i = 0 ∨ i = 1 ∨ i = 2 ∨ i = 3 := by omega
  rcases this with rfl | rfl | rfl | rfl
  · exact ⟨.plain, atI_nat (j := 0) rfl⟩
  · exact ⟨.bank, atI_nat (j := 1) rfl⟩
  · exact ⟨.thirty, atI_nat (j := 2) rfl⟩
  · exact ⟨.exact, atI_nat (j := 3) rfl⟩
abbrev s_law_count : Stmt := top 98
abbrev nm_law_count : List Str := ["_law_script"]
abbrev pm_law_count : List Str := ["_law_script"]
theorem sc_law_count : FnScope nm_law_count pm_law_count (defScope s_law_count) := ⟨rfl, rfl, rfl, by decide +kernel, rfl, by decide +kernel, by decide +kernel⟩
theorem ok_law_count (T : Txt K mg) {f : Addr} {fd : FuncData} (F : FnP K "_law_count" "_law_count" s_law_count f fd) : FnOk P w K mg base CX0 3 f fd pm_law_count (spScrC K) := by
  refine fnok F sc_law_count (fun vs H Q E h => ?_) (fun cdv A outer s H vs Q E hr h => ?_)
  · obtain ⟨a, ns, rfl, _⟩ := h
    rfl
  · obtain ⟨a, ns, rfl, hs, q⟩ := h
    have hu := hu_of hr
    have nd := sc_law_count.nd
    have k_law_draw := cal_law_draw (P := P) (w := w) (base := base) T
    have k_count_named := cal_count_named (P := P) (w := w) (base := base) T
    refine ⟨_, (pss_one (ps_ret (pe_c k_count_named hr (pa_cons (pe_ix (r := rIxL K) ix_list (pe_lst (pa_cons pe_str (pa_cons pe_str (pa_cons pe_str (pa_cons pe_str pa_nil))))) (pe_op op_mod (pe_op op_fdiv (pe_c k_law_draw hr (pa_cons (pv 0) (pa_cons pe_int (pa_cons (pe_op op_pow pe_int pe_int) pa_nil)))) pe_int) pe_int) (fun _ _ => rfl)) pa_nil)))), ?_⟩
    refine ⟨(by show 4 ≤ sizeLine; decide), fun l nl => ?_⟩
    obtain ⟨G, eG, s1, hl⟩ := upd_abs H l (.lst [.str "plain", .str "bank", .str "thirty", .str "exact"]) nl
    rw [eG]
    refine ⟨_, rfl, _, _, rfl, rfl, ⟨by decide, by decide, by decide⟩, a, ns, _, _, rfl, hs.keep s1, ⟨by decide, by decide⟩, (by decide), fun z z0 z1 => ?_⟩
    refine ⟨_, _, rfl, rfl, ⟨by decide, by decide⟩, _, _, rfl, rfl, (by show (0 : Int) < 4; decide), ?_⟩
    obtain ⟨c, hc⟩ := ct_at (i := z / 3 % 4) (mod_lo _ (by decide)) (mod_hi _ (by decide))
    exact ⟨l, _, _, _, rfl, rfl, SqL.of hl, hc, c, rfl, fun v H' s2 hv => q v c H' (s1.trans s2) hv⟩
theorem cal_law_count (T : Txt K mg) : Cal P w K mg base 3 "_law_count" (spScrC K) := by
  obtain ⟨fd, F⟩ := T.fn_law_count
  exact cal_of F T.mg_law_count (ok_law_count T F) (fun _ _ _ _ _ _ us hl => match us, hl with | [_], _ => rfl)
end
end Lr

set_option maxHeartbeats 4000000
/-! Defs: the law's rows. -/
namespace Lr
open PySem PySem.Spec PyProof.Rows L2
section
variable {P : Program} {w : World} {K : PySem.W.Frag} {mg : Str → Option Value} {base : Heap}
def spMade (K : PySem.W.Frag) : Sp := fun vs H Q _ => ∃ (v : V) (r : Row), vs = [v] ∧ RowAt H v r ∧ r.Ok ∧ ∀ v' H', Same H H' → EntAt K H' v' r → Q v' H'
abbrev s_law_made : Stmt := top 93
abbrev nm_law_made : List Str := ["_law_row_here", "_law_word"]
abbrev pm_law_made : List Str := ["_law_row_here"]
theorem sc_law_made : FnScope nm_law_made pm_law_made (defScope s_law_made) := ⟨rfl, rfl, rfl, by decide +kernel, rfl, by decide +kernel, by decide +kernel⟩
theorem ok_law_made (T : Txt K mg) {f : Addr} {fd : FuncData} (F : FnP K "_law_made" "_law_made" s_law_made f fd) : FnOk P w K mg base CX0 4 f fd pm_law_made (spMade K) := by
  refine fnok F sc_law_made (fun vs H Q E h => ?_) (fun cdv A outer s H vs Q E hr h => ?_)
  · obtain ⟨v, r, rfl, _⟩ := h
    rfl
  · obtain ⟨v, r, rfl, hv, ok, q⟩ := h
    have hu := hu_of hr
    have nd := sc_law_made.nd
    have k_Out := mak_Out (P := P) (w := w) (base := base) T; have k_Fee := mak_Fee (P := P) (w := w) (base := base) T; have k_Pay := mak_Pay (P := P) (w := w) (base := base) T; have k_Due := mak_Due (P := P) (w := w) (base := base) T; have k_Rate := mak_Rate (P := P) (w := w) (base := base) T; have k_Late := mak_Late (P := P) (w := w) (base := base) T; have k_Still := mak_Still (P := P) (w := w) (base := base) T; have k_Turn := mak_Turn (P := P) (w := w) (base := base) T
    refine ⟨_, (pss_cons (ps_set (i := 1) nd rfl (by first | exact Or.inl rfl | exact Or.inr rfl) (pe_ix (r := rIxT K) ix_tup (pv 0) pe_int (fun _ _ => rfl)))
        (pss_cons (ps_if (pt_cmpR op_eq (pv 1) pe_str (nomark _))
        (pss_one (ps_ret (pe_mk k_Out hr (pa_cons (pe_ix (r := rIxT K) ix_tup (pv 0) pe_int (fun _ _ => rfl)) (pa_cons (pe_ix (r := rIxT K) ix_tup (pv 0) pe_int (fun _ _ => rfl)) pa_nil)))))
        pss_nil)
        (pss_cons (ps_if (pt_cmpR op_eq (pv 1) pe_str (nomark _))
        (pss_one (ps_ret (pe_mk k_Fee hr (pa_cons (pe_ix (r := rIxT K) ix_tup (pv 0) pe_int (fun _ _ => rfl)) (pa_cons (pe_ix (r := rIxT K) ix_tup (pv 0) pe_int (fun _ _ => rfl)) pa_nil)))))
        pss_nil)
        (pss_cons (ps_if (pt_cmpR op_eq (pv 1) pe_str (nomark _))
        (pss_one (ps_ret (pe_mk k_Pay hr (pa_cons (pe_ix (r := rIxT K) ix_tup (pv 0) pe_int (fun _ _ => rfl)) (pa_cons (pe_ix (r := rIxT K) ix_tup (pv 0) pe_int (fun _ _ => rfl)) pa_nil)))))
        pss_nil)
        (pss_cons (ps_if (pt_cmpR op_eq (pv 1) pe_str (nomark _))
        (pss_one (ps_ret (pe_mk k_Due hr (pa_cons (pe_ix (r := rIxT K) ix_tup (pv 0) pe_int (fun _ _ => rfl)) (pa_cons (pe_ix (r := rIxT K) ix_tup (pv 0) pe_int (fun _ _ => rfl)) pa_nil)))))
        pss_nil)
        (pss_cons (ps_if (pt_cmpR op_eq (pv 1) pe_str (nomark _))
        (pss_one (ps_ret (pe_mk k_Rate hr (pa_cons (pe_ix (r := rIxT K) ix_tup (pv 0) pe_int (fun _ _ => rfl)) (pa_cons (pe_ix (r := rIxT K) ix_tup (pv 0) pe_int (fun _ _ => rfl)) pa_nil)))))
        pss_nil)
        (pss_cons (ps_if (pt_cmpR op_eq (pv 1) pe_str (nomark _))
        (pss_one (ps_ret (pe_mk k_Late hr (pa_cons (pe_ix (r := rIxT K) ix_tup (pv 0) pe_int (fun _ _ => rfl)) (pa_cons (pe_ix (r := rIxT K) ix_tup (pv 0) pe_int (fun _ _ => rfl)) pa_nil)))))
        pss_nil)
        (pss_cons (ps_if (pt_cmpR op_eq (pv 1) pe_str (nomark _))
        (pss_one (ps_ret (pe_mk k_Still hr (pa_cons (pe_ix (r := rIxT K) ix_tup (pv 0) pe_int (fun _ _ => rfl)) (pa_cons (pe_ix (r := rIxT K) ix_tup (pv 0) pe_int (fun _ _ => rfl)) pa_nil)))))
        pss_nil)
        (pss_one (ps_ret (pe_mk k_Turn hr (pa_cons (pe_ix (r := rIxT K) ix_tup (pv 0) pe_int (fun _ _ => rfl)) pa_nil)))))))))))), ?_⟩
    obtain ⟨p, rfl, hp⟩ := hv
    obtain ⟨k, d, t⟩ := r
    obtain ⟨_, tok⟩ := ok
    have a0 : atI (Row.vs ⟨k, d, t⟩) 0 = some (.str k.word) := atI_nat (j := 0) rfl
    have a1 : atI (Row.vs ⟨k, d, t⟩) 1 = some (.int d) := atI_nat (j := 1) rfl
    refine ⟨_, rfl, p, _, _, _, rfl, rfl, SqT.of hp, a0, ?_⟩
    by_cases hk : k = .turn
    · subst hk
      have et : t = 0 := tok
      subst et
      iterate 7 refine ⟨_, rfl, rfl, _, rfl, iteDF (by decide +kernel) ?_⟩
      exact ⟨_, rfl, p, _, _, _, rfl, rfl, SqT.of hp, a1, made_T T q⟩
    have a2 : atI (Row.vs ⟨k, d, t⟩) 2 = some (.int t) := atI_nat (j := 2) (by revert hk; cases k <;> first | (intro; rfl) | (intro hk; exact absurd rfl hk))
    cases k
    · exact ⟨_, rfl, rfl, _, rfl, iteD rfl ⟨_, rfl, p, _, _, _, rfl, rfl, SqT.of hp, a1, _, rfl, p, _, _, _, rfl, rfl, SqT.of hp, a2, made_S T .out hk rfl q⟩⟩
    · refine ⟨_, rfl, rfl, _, rfl, iteDF (by decide +kernel) ?_⟩
      exact ⟨_, rfl, rfl, _, rfl, iteD rfl ⟨_, rfl, p, _, _, _, rfl, rfl, SqT.of hp, a1, _, rfl, p, _, _, _, rfl, rfl, SqT.of hp, a2, made_S T .fee hk rfl q⟩⟩
    · iterate 2 refine ⟨_, rfl, rfl, _, rfl, iteDF (by decide +kernel) ?_⟩
      exact ⟨_, rfl, rfl, _, rfl, iteD rfl ⟨_, rfl, p, _, _, _, rfl, rfl, SqT.of hp, a1, _, rfl, p, _, _, _, rfl, rfl, SqT.of hp, a2, made_S T .pay hk rfl q⟩⟩
    · iterate 3 refine ⟨_, rfl, rfl, _, rfl, iteDF (by decide +kernel) ?_⟩
      exact ⟨_, rfl, rfl, _, rfl, iteD rfl ⟨_, rfl, p, _, _, _, rfl, rfl, SqT.of hp, a1, _, rfl, p, _, _, _, rfl, rfl, SqT.of hp, a2, made_S T .due hk rfl q⟩⟩
    · exact absurd rfl hk
    · iterate 4 refine ⟨_, rfl, rfl, _, rfl, iteDF (by decide +kernel) ?_⟩
      exact ⟨_, rfl, rfl, _, rfl, iteD rfl ⟨_, rfl, p, _, _, _, rfl, rfl, SqT.of hp, a1, _, rfl, p, _, _, _, rfl, rfl, SqT.of hp, a2, made_S T .rate hk rfl q⟩⟩
    · iterate 5 refine ⟨_, rfl, rfl, _, rfl, iteDF (by decide +kernel) ?_⟩
      exact ⟨_, rfl, rfl, _, rfl, iteD rfl ⟨_, rfl, p, _, _, _, rfl, rfl, SqT.of hp, a1, _, rfl, p, _, _, _, rfl, rfl, SqT.of hp, a2, made_S T .late hk rfl q⟩⟩
    · iterate 6 refine ⟨_, rfl, rfl, _, rfl, iteDF (by decide +kernel) ?_⟩
      exact ⟨_, rfl, rfl, _, rfl, iteD rfl ⟨_, rfl, p, _, _, _, rfl, rfl, SqT.of hp, a1, _, rfl, p, _, _, _, rfl, rfl, SqT.of hp, a2, made_S T .still hk rfl q⟩⟩
theorem cal_law_made (T : Txt K mg) : Cal P w K mg base 4 "_law_made" (spMade K) := by
  obtain ⟨fd, F⟩ := T.fn_law_made
  exact cal_of F T.mg_law_made (ok_law_made T F) (fun _ _ _ _ _ _ us hl => match us, hl with | [_], _ => rfl)
def kds : List Kd := [.out, .fee, .pay, .due, .turn, .rate, .late, .still]
theorem kd_at {i : Int} (h0 : 0 ≤ i) (h1 : i < 8) : ∃ k : Kd, atI (kds.map fun k => V.str k.word) i = some (.str k.word) := by
  have hl : i.toNat < kds.length := by show i.toNat < 8; omega
  refine ⟨kds[i.toNat], ?_⟩
  have h : (kds.map fun k => V.str k.word)[i.toNat]? = some (V.str kds[i.toNat].word) := by
    rw [List.getElem?_map, List.getElem?_eq_getElem hl]
    rfl
  exact at_of (by omega) h
def spLawRow : Sp := fun vs H Q _ => ∃ c b : Int, vs = [.int c, .int b] ∧ (0 ≤ b ∧ b ≤ 999700) ∧ ∀ (v : V) (r : Row) (H' : Hp), Same H H' → RowAt H' v r → r.Ok → Q v H'
abbrev s_law_row : Stmt := top 92
abbrev nm_law_row : List Str := ["_law_cell_here", "_law_base_here", "_law_word", "_law_day", "_law_amount"]
abbrev pm_law_row : List Str := ["_law_cell_here", "_law_base_here"]
theorem sc_law_row : FnScope nm_law_row pm_law_row (defScope s_law_row) := ⟨rfl, rfl, rfl, by decide +kernel, rfl, by decide +kernel, by decide +kernel⟩
theorem ok_law_row (T : Txt K mg) {f : Addr} {fd : FuncData} (F : FnP K "_law_row" "_law_row" s_law_row f fd) : FnOk P w K mg base CX0 3 f fd pm_law_row spLawRow := by
  refine fnok F sc_law_row (fun vs H Q E h => ?_) (fun cdv A outer s H vs Q E hr h => ?_)
  · obtain ⟨c, b, rfl, _⟩ := h
    rfl
  · obtain ⟨c, b, rfl, ⟨b0, b1⟩, q⟩ := h
    have hu := hu_of hr
    have nd := sc_law_row.nd
    have k_law_pick := cal_law_pick (P := P) (w := w) (base := base) T
    refine ⟨_, (C8.pss_cut (ps_set (i := 2) nd rfl (by first | exact Or.inl rfl | exact Or.inr rfl) (pe_ix (r := rIxL K) ix_list (pe_lst (pa_cons pe_str (pa_cons pe_str (pa_cons pe_str (pa_cons pe_str (pa_cons pe_str (pa_cons pe_str (pa_cons pe_str (pa_cons pe_str pa_nil))))))))) (pe_c k_law_pick hr (pa_cons (pv 0) (pa_cons pe_int (pa_cons pe_int pa_nil)))) (fun _ _ => rfl)))
        (C8.pss_cut (ps_set (i := 3) nd rfl (by first | exact Or.inl rfl | exact Or.inr rfl) (pe_op op_add (pv 1) (pe_c k_law_pick hr (pa_cons (pv 0) (pa_cons pe_int (pa_cons (pe_ix (r := rIxL K) ix_list (pe_lst (pa_cons pe_int (pa_cons pe_int pa_nil))) (pe_c k_law_pick hr (pa_cons (pv 0) (pa_cons pe_int (pa_cons pe_int pa_nil)))) (fun _ _ => rfl)) pa_nil))))))
        (C8.pss_cut (ps_set (i := 4) nd rfl (by first | exact Or.inl rfl | exact Or.inr rfl) (pe_op op_add pe_int (pe_c k_law_pick hr (pa_cons (pv 0) (pa_cons pe_int (pa_cons (pe_ix (r := rIxL K) ix_list (pe_lst (pa_cons pe_int (pa_cons (pe_op op_pow pe_int pe_int) (pa_cons (pe_op op_pow pe_int pe_int) pa_nil)))) (pe_c k_law_pick hr (pa_cons (pv 0) (pa_cons pe_int (pa_cons pe_int pa_nil)))) (fun _ _ => rfl)) pa_nil))))))
        (pss_cons (ps_if (pt_cmpR op_eq (pv 2) pe_str (nomark _))
        (pss_one (ps_ret (pe_tup (pa_cons (pv 2) (pa_cons (pv 3) pa_nil)))))
        pss_nil)
        (pss_cons (ps_if (pt_cmpR op_eq (pv 2) pe_str (nomark _))
        (pss_one (ps_ret (pe_tup (pa_cons (pv 2) (pa_cons (pv 3) (pa_cons (pe_ix (r := rIxL K) ix_list (pe_lst (pa_cons (pv 4) (pa_cons (pe_op op_sub pe_int (pv 4)) (pa_cons pe_int pa_nil)))) (pe_op op_fdiv (pe_c k_law_pick hr (pa_cons (pv 0) (pa_cons pe_int (pa_cons pe_int pa_nil)))) pe_int) (fun _ _ => rfl)) pa_nil))))))
        pss_nil)
        (pss_cons (ps_if (PW.pt (pw_or (pt_cmpR op_eq (pv 2) pe_str (nomark _)) (pw_or1 (pt_cmpR op_eq (pv 2) pe_str (nomark _)))))
        (pss_one (ps_ret (pe_tup (pa_cons (pv 2) (pa_cons (pv 3) (pa_cons (pe_c k_law_pick hr (pa_cons (pv 0) (pa_cons pe_int (pa_cons (pe_ix (r := rIxL K) ix_list (pe_lst (pa_cons (pe_op op_add (pe_op op_pow pe_int pe_int) pe_int) (pa_cons pe_int pa_nil))) (pe_c k_law_pick hr (pa_cons (pv 0) (pa_cons pe_int (pa_cons pe_int pa_nil)))) (fun _ _ => rfl)) pa_nil)))) pa_nil))))))
        pss_nil)
        (pss_cons (ps_if (pt_cmpR op_eq (pv 2) pe_str (nomark _))
        (pss_one (ps_ret (pe_tup (pa_cons (pv 2) (pa_cons (pv 3) (pa_cons (pe_op op_add (pe_op op_add (pv 3) pe_int) (pe_c k_law_pick hr (pa_cons (pv 0) (pa_cons pe_int (pa_cons pe_int pa_nil))))) pa_nil))))))
        pss_nil)
        (pss_one (ps_ret (pe_tup (pa_cons (pv 2) (pa_cons (pv 3) (pa_cons (pv 4) pa_nil))))))))))))), ?_⟩
    -- the word
    refine ⟨fun σ G => Same H G ∧ ∃ k : Kd, σ = [some (.int c), some (.int b), some (.str k.word), none, none], ?_, ?_⟩
    · refine ⟨(by show 8 ≤ sizeLine; decide), fun l nl => ?_⟩
      obtain ⟨G, eG, s1, hl⟩ := upd_abs H l (.lst (kds.map fun k => V.str k.word)) nl
      refine ⟨_, rfl, c, 3, 8, rfl, ⟨by decide, by decide⟩, (by decide), fun z G' s2 z0 z1 => ?_⟩
      have s2' : Same G G' := by rw [← eG]; exact s2
      obtain ⟨k, hk⟩ := kd_at z0 z1
      exact ⟨l, _, _, _, rfl, rfl, SqL.of (s2' _ _ hl), hk, s1.trans s2', k, rfl⟩
    rintro σ G ⟨s1, k, rfl⟩
    -- the day
    refine ⟨fun σ G => Same H G ∧ ∃ d : Int, (0 ≤ d ∧ d ≤ 999820) ∧ σ = [some (.int c), some (.int b), some (.str k.word), some (.int d), none], ?_, ?_⟩
    · refine ⟨_, rfl, _, rfl, (by show 2 ≤ sizeLine; decide), fun l nl => ?_⟩
      obtain ⟨G1, e1, s2, hl⟩ := upd_abs G l (.lst [.int 9, .int 120]) nl
      rw [e1]
      refine ⟨_, rfl, c, 2, 2, rfl, ⟨by decide, by decide⟩, (by decide), fun z G2 s3 z0 z1 => ?_⟩
      obtain ⟨m, hm, m0, m1⟩ := four (l := [9, 120]) (i := z) z0 z1 (p := fun m => 0 < m ∧ m ≤ 120) (by
        intro c hm
        simp only [List.mem_cons, List.not_mem_nil, or_false] at hm
        omega)
      refine ⟨l, _, _, _, rfl, rfl, SqL.of (s3 _ _ hl), hm, c, 1, m, rfl, ⟨by decide, by decide⟩, m0, fun y G3 s4 y0 y1 => ?_⟩
      exact ⟨_, _, rfl, rfl, ((s1.trans s2).trans s3).trans s4, b + y, ⟨by omega, by omega⟩, rfl⟩
    rintro σ G ⟨s1, d, ⟨d0, d1⟩, rfl⟩
    -- the amount
    refine ⟨fun σ G => Same H G ∧ ∃ t : Int, (1 ≤ t ∧ t ≤ 1000000000000) ∧ σ = [some (.int c), some (.int b), some (.str k.word), some (.int d), some (.int t)], ?_, ?_⟩
    · refine ⟨_, rfl, _, _, rfl, rfl, ⟨by decide, by decide, by decide⟩, _, _, rfl, rfl, ⟨by decide, by decide, by decide⟩, (by show 3 ≤ sizeLine; decide), fun l nl => ?_⟩
      obtain ⟨G1, e1, s2, hl⟩ := upd_abs G l (.lst ([99, 10 ^ (6 : Int).toNat, 10 ^ (12 : Int).toNat].map V.int)) nl
      refine ⟨_, rfl, c, 5, 3, rfl, ⟨by decide, by decide⟩, (by decide), fun z G2 s3 z0 z1 => ?_⟩
      have s3' : Same G1 G2 := by rw [← e1]; exact s3
      obtain ⟨m, hm, m0, m1⟩ := four (l := [99, 10 ^ (6 : Int).toNat, 10 ^ (12 : Int).toNat]) (i := z) z0 z1 (p := fun m => 0 < m ∧ m ≤ 1000000000000) (by
        intro c hm
        have e6 : (10 : Int) ^ (6 : Int).toNat = 1000000 := by decide
        have e12 : (10 : Int) ^ (12 : Int).toNat = 1000000000000 := by decide
        simp only [List.mem_cons, List.not_mem_nil, or_false, e6, e12] at hm
        omega)
      refine ⟨l, _, _, _, rfl, rfl, SqL.of (s3' _ _ hl), hm, c, 4, m, rfl, ⟨by decide, by decide⟩, m0, fun y G3 s4 y0 y1 => ?_⟩
      exact ⟨_, _, rfl, rfl, ((s1.trans s2).trans s3').trans s4, 1 + y, ⟨by omega, by omega⟩, rfl⟩
    rintro σ G ⟨s1, t, ⟨t0, t1⟩, rfl⟩
    have fin : ∀ {G2 : Hp} {p : Addr} (r : Row), Same G G2 → G2 p = none → r.Ok → Q (.ref p) (upd G2 p (.tup r.vs)) := fun r s np ok => q _ r _ ((s1.trans s).trans (same_upd np)) ⟨_, rfl, upd_same⟩ ok
    have sz3 : 3 ≤ sizeLine := by decide
    have sz2 : 2 ≤ sizeLine := by decide
    have dok : 0 ≤ d ∧ d ≤ 999999 := ⟨d0, by omega⟩
    cases k
    · -- out
      iterate 2 refine ⟨_, rfl, rfl, _, rfl, iteDF (by decide +kernel) ?_⟩
      iterate 2 refine ⟨_, rfl, rfl, _, rfl, iteDF (by decide +kernel) ?_⟩
      iterate 1 refine ⟨_, rfl, rfl, _, rfl, iteDF (by decide +kernel) ?_⟩
      exact ⟨_, rfl, _, rfl, _, rfl, sz3, fun p np => fin ⟨.out, d, t⟩ (Same.refl _) np ⟨dok, t0, t1⟩⟩
    · -- fee
      refine ⟨_, rfl, rfl, _, rfl, iteDF (by decide +kernel) ?_⟩
      refine ⟨_, rfl, rfl, _, rfl, iteD rfl ?_⟩
      refine ⟨_, rfl, _, rfl, _, rfl, _, rfl, _, _, rfl, rfl, sz3, fun l nl => ?_⟩
      obtain ⟨G1, e1, s2, hl⟩ := upd_abs G l (.lst ([t, 0 - t, 0].map V.int)) nl
      refine ⟨_, rfl, c, 6, 5, rfl, ⟨by decide, by decide⟩, (by decide), fun z G2 s3 z0 z1 => ?_⟩
      have s3' : Same G1 G2 := by rw [← e1]; exact s3
      refine ⟨_, _, rfl, rfl, ⟨by decide, by decide⟩, ?_⟩
      obtain ⟨m, hm, m0, m1⟩ := four (l := [t, 0 - t, 0]) (i := z / 2) (by omega) (by show z / 2 < 3; omega) (p := fun m => -1000000000000 ≤ m ∧ m ≤ 1000000000000) (by
        intro c hm
        simp only [List.mem_cons, List.not_mem_nil, or_false] at hm
        omega)
      exact ⟨l, _, _, _, rfl, rfl, SqL.of (s3' _ _ hl), hm, sz3, fun p np => fin ⟨.fee, d, m⟩ (s2.trans s3') np ⟨dok, m0, m1⟩⟩
    · -- pay
      iterate 5 refine ⟨_, rfl, rfl, _, rfl, iteDF (by decide +kernel) ?_⟩
      exact ⟨_, rfl, _, rfl, _, rfl, sz3, fun p np => fin ⟨.pay, d, t⟩ (Same.refl _) np ⟨dok, t0, t1⟩⟩
    · -- due
      iterate 5 refine ⟨_, rfl, rfl, _, rfl, iteDF (by decide +kernel) ?_⟩
      exact ⟨_, rfl, _, rfl, _, rfl, sz3, fun p np => fin ⟨.due, d, t⟩ (Same.refl _) np ⟨dok, t0, t1⟩⟩
    · -- turn
      refine ⟨_, rfl, rfl, _, rfl, iteD rfl ?_⟩
      exact ⟨_, rfl, _, rfl, sz2, fun p np => fin ⟨.turn, d, 0⟩ (Same.refl _) np ⟨dok, rfl⟩⟩
    · -- rate
      iterate 2 refine ⟨_, rfl, rfl, _, rfl, iteDF (by decide +kernel) ?_⟩
      refine ⟨_, rfl, rfl, _, rfl, iteD rfl ?_⟩
      refine ⟨_, rfl, _, rfl, _, rfl, _, _, rfl, rfl, ⟨by decide, by decide, by decide⟩, _, _, rfl, rfl, sz2, fun l nl => ?_⟩
      obtain ⟨G1, e1, s2, hl⟩ := upd_abs G l (.lst ([10 ^ (6 : Int).toNat + 1, 2000].map V.int)) nl
      refine ⟨_, rfl, c, 8, 2, rfl, ⟨by decide, by decide⟩, (by decide), fun z G2 s3 z0 z1 => ?_⟩
      have s3' : Same G1 G2 := by rw [← e1]; exact s3
      obtain ⟨m, hm, m0, m1⟩ := four (l := [10 ^ (6 : Int).toNat + 1, 2000]) (i := z) z0 z1 (p := fun m => 0 < m ∧ m ≤ 1000001) (by
        intro c hm
        have e6 : (10 : Int) ^ (6 : Int).toNat = 1000000 := by decide
        simp only [List.mem_cons, List.not_mem_nil, or_false, e6] at hm
        omega)
      exact ⟨l, _, _, _, rfl, rfl, SqL.of (s3' _ _ hl), hm, c, 7, m, rfl, ⟨by decide, by decide⟩, m0, fun y G3 s4 y0 y1 => ⟨sz3, fun p np => fin ⟨.rate, d, y⟩ ((s2.trans s3').trans s4) np ⟨dok, y0, (by show y ≤ 1000000; omega)⟩⟩⟩
    · -- late
      iterate 3 refine ⟨_, rfl, rfl, _, rfl, iteDF (by decide +kernel) ?_⟩
      refine ⟨_, rfl, rfl, _, rfl, iteD rfl ?_⟩
      refine ⟨_, rfl, _, rfl, _, rfl, _, _, rfl, rfl, ⟨by decide, by decide, by decide⟩, _, _, rfl, rfl, sz2, fun l nl => ?_⟩
      obtain ⟨G1, e1, s2, hl⟩ := upd_abs G l (.lst ([10 ^ (6 : Int).toNat + 1, 2000].map V.int)) nl
      refine ⟨_, rfl, c, 8, 2, rfl, ⟨by decide, by decide⟩, (by decide), fun z G2 s3 z0 z1 => ?_⟩
      have s3' : Same G1 G2 := by rw [← e1]; exact s3
      obtain ⟨m, hm, m0, m1⟩ := four (l := [10 ^ (6 : Int).toNat + 1, 2000]) (i := z) z0 z1 (p := fun m => 0 < m ∧ m ≤ 1000001) (by
        intro c hm
        have e6 : (10 : Int) ^ (6 : Int).toNat = 1000000 := by decide
        simp only [List.mem_cons, List.not_mem_nil, or_false, e6] at hm
        omega)
      exact ⟨l, _, _, _, rfl, rfl, SqL.of (s3' _ _ hl), hm, c, 7, m, rfl, ⟨by decide, by decide⟩, m0, fun y G3 s4 y0 y1 => ⟨sz3, fun p np => fin ⟨.late, d, y⟩ ((s2.trans s3').trans s4) np ⟨dok, y0, (by show y ≤ 1000000; omega)⟩⟩⟩
    · -- still
      iterate 4 refine ⟨_, rfl, rfl, _, rfl, iteDF (by decide +kernel) ?_⟩
      refine ⟨_, rfl, rfl, _, rfl, iteD rfl ?_⟩
      refine ⟨_, rfl, _, rfl, _, rfl, _, _, rfl, rfl, _, rfl, c, 9, 40, rfl, ⟨by decide, by decide⟩, (by decide), fun z G2 s3 z0 z1 => ?_⟩
      exact ⟨_, _, rfl, rfl, sz3, fun p np => fin ⟨.still, d, d + 1 + z⟩ s3 np ⟨dok, (by show d + 1 ≤ d + 1 + z; omega), (by show d + 1 + z ≤ 1000000; omega)⟩⟩
theorem cal_law_row (T : Txt K mg) : Cal P w K mg base 3 "_law_row" spLawRow := by
  obtain ⟨fd, F⟩ := T.fn_law_row
  exact cal_of F T.mg_law_row (ok_law_row T F) (fun _ _ _ _ _ _ us hl => match us, hl with | [_, _], _ => rfl)
end
end Lr

set_option maxHeartbeats 4000000
/-! Defs: what the law tells of deeds and of lists told. -/
namespace Lr
open PySem PySem.Spec PyProof.Rows L2
/-- a pair of a whole number and a row or None -/
def PrO (H : Hp) (x : V) (e : Int × Option Row) : Prop := ∃ t rv, x = .ref t ∧ H t = some (.tup [.int e.1, rv]) ∧ ORow H rv e.2
theorem PrO.keep {H H' : Hp} {x : V} {e : Int × Option Row} (h : PrO H x e) (s : Tups H H') : PrO H' x e := let ⟨t, rv, a, b, c⟩ := h; ⟨t, rv, a, s _ _ b, c.keep s⟩
theorem val_some {ks : List (Int × V)} {n : Int} (h : n ∈ ks.map (·.1)) : ∃ v, valV ks n = some v := by
  induction ks with
  | nil => cases h
  | cons a ks ih =>
    by_cases e : a.1 = n
    · exact ⟨a.2, valV_pos e⟩
    · rw [List.map_cons] at h
      rcases List.mem_cons.mp h with z | z
      · exact absurd z.symm e
      · obtain ⟨v, hv⟩ := ih z
        exact ⟨v, (valV_neg e).trans hv⟩
theorem fst_map {G : Hp} : ∀ {l : List (Int × V)} {m : List (Int × Row)}, Paired (fun a e => a.1 = e.1 ∧ RowAt G a.2 e.2) l m → l.map (·.1) = m.map (·.1)
  | _, _, .nil => rfl
  | _, _, .cons a r => by rw [List.map_cons, List.map_cons, a.1, fst_map r]
theorem pro_of {G : Hp} : ∀ {acc : List (Addr × Int × V)} {L : List (Int × Row)}, (∀ z ∈ acc, G z.1 = some (.tup [.int z.2.1, z.2.2])) → Paired (fun a e => a.1 = e.1 ∧ RowAt G a.2 e.2) (acc.map (·.2)) L →
    Paired (PrO G) (acc.map fun z => V.ref z.1) (L.map sp2)
  | [], _, _, .nil => .nil
  | a :: acc, _ :: _, h, .cons x r => .cons ⟨a.1, a.2.2, rfl, by rw [h a List.mem_cons_self, x.1], x.2⟩ (pro_of (fun z hz => h z (List.mem_cons_of_mem _ hz)) r)
section
variable {P : Program} {w : World} {K : PySem.W.Frag} {mg : Str → Option Value} {base : Heap}
def spLawStands (K : PySem.W.Frag) : Sp := fun vs H Q _ => ∃ (a : Addr) (xs : List V) (k : Int) (ds : List Deed), vs = [.ref a, .int k] ∧ H a = some (.lst xs) ∧ DeedsAt H xs ds ∧ ds.length < 64 ∧
  ∀ (R : Addr) (ys : List V) (H' : Hp) (L : List (Int × Row)), Same H H' → H R = none → H' R = some (.lst ys) → Paired (PrO H') ys (L.map sp2) → Stands ds k L → Q (.ref R) H'
abbrev s_law_stands : Stmt := top 94
abbrev nm_law_stands : List Str := ["_law_deeds_here", "_law_known", "_law_last", "_law_at", "_law_number", "_law_row_here"]
abbrev pm_law_stands : List Str := ["_law_deeds_here", "_law_known"]
theorem sc_law_stands : FnScope nm_law_stands pm_law_stands (defScope s_law_stands) := ⟨rfl, rfl, rfl, by decide +kernel, rfl, by decide +kernel, by decide +kernel⟩
theorem ok_law_stands (T : Txt K mg) {f : Addr} {fd : FuncData} (F : FnP K "_law_stands" "_law_stands" s_law_stands f fd) : FnOk P w K mg base CX0 1 f fd pm_law_stands (spLawStands K) := by
  refine fnok F sc_law_stands (fun vs H Q E h => ?_) (fun cdv A outer s H vs Q E hr h => ?_)
  · obtain ⟨a, xs, k, ds, rfl, _⟩ := h
    rfl
  · obtain ⟨l, xs, k, ds, rfl, hl, dd, hlen, q⟩ := h
    have hu := hu_of hr
    have nd := sc_law_stands.nd
    refine ⟨_, (pss_cons (ps_set (i := 2) nd rfl (by first | exact Or.inl rfl | exact Or.inr rfl) pe_dnewK)
        (pss_cons (ps_for PassesOwn.never rfl (pi_list (pv 0)) (pg_tup rfl (pgs_cons (pg_name (i := 3) nd rfl (by first | exact Or.inl rfl | exact Or.inr rfl)) (pgs_cons (pg_name (i := 4) nd rfl (by first | exact Or.inl rfl | exact Or.inr rfl)) (pgs_cons (pg_name (i := 5) nd rfl (by first | exact Or.inl rfl | exact Or.inr rfl)) pgs_nil))))
        (pss_one (ps_if (pt_cmpR op_le (pv 3) (pv 1) (nomark _))
        (pss_one (ps_dput hu (pv 2) (pv 4) (pv 5) rfl))
        pss_nil)))
        (pss_one (ps_ret (pe_lc (own := [("_law_number", 4)]) (g := (gName 4)) rfl nd (pi_list (pe_callB (call_sortedDI rfl) rfl T.no_sorted boot_sorted (pa_cons (pv 2) pa_nil))) (blkOk_by (N := nm_law_stands) (sc := defScope s_law_stands) (by decide +kernel)) (fun _ _ _ _ _ => (pg_name (i := 4) nd rfl (by first | exact Or.inl rfl | exact Or.inr rfl))) (fun _ _ _ _ _ => (pts_one (pt_cmpR op_notN (pe_dget hu (pv 2) (pv 4) (fun _ _ => rfl)) pe_non (nomark _)))) (fun _ _ _ _ _ => (pe_tup (pa_cons (pv 4) (pa_cons (pe_dget hu (pv 2) (pv 4) (fun _ _ => rfl)) pa_nil))))))))), ?_⟩
    intro d nd
    obtain ⟨G, eG, s1, hd⟩ := upd_abs H d (.dK []) nd
    rw [eG]
    have nld : l ≠ d := ne_of_none hl nd
    refine ⟨_, rfl, l, rfl, ⟨_, SqL.of (s1 _ _ hl)⟩, ?_⟩
    refine for_list (K := K) (a := l) (xs := xs) (fun i σ G' => ∃ (ks : List (Int × V)) (v3 v4 v5 : Option V), σ = [some (.ref l), some (.int k), some (.ref d), v3, v4, v5] ∧ G' d = some (.dK (ks.map entK)) ∧ But d G G' ∧ DI G' ks (ds.take i) k ∧ ks.length ≤ i)
      ⟨[], none, none, none, rfl, hd, But.refl _ _, DI.nil, Nat.le_refl _⟩ (fun i σ G' _ ⟨_, _, _, _, _, _, bt, _⟩ => SqL.of (bt _ _ (s1 _ _ hl) nld)) ?_ ?_
    · rintro i x σ G' hi ⟨ks, v3, v4, v5, rfl, hd', bt, di, hk⟩
      obtain ⟨e, he, hx⟩ := paired_at dd hi
      obtain ⟨a, rv, rfl, ha, ho⟩ := hx
      have tG : Tups H G' := s1.tups.trans (bt.tupsD hd)
      refine ⟨a, _, rfl, SqT.of (tG _ _ ha), rfl, _, _, rfl, _, _, rfl, _, _, rfl, rfl, ?_⟩
      refine ⟨_, rfl, _, rfl, _, _, rfl, rfl, _, rfl, ?_⟩
      have hil : i < ds.length := (List.getElem?_eq_some_iff.mp he).1
      by_cases c : e.at_ ≤ k
      · refine iteD c ⟨_, rfl, _, rfl, _, rfl, d, _, rfl, DPut.k (k := Sum.inl e.num) hd' (by rw [List.length_map, sizeLine_eq]; omega), ?_⟩
        have bu : But d G' (upd G' d (.dK (putK (ks.map entK) (Sum.inl e.num) rv))) := (But.refl d G').upd
        have tu := bu.tupsD hd'
        refine ⟨putK ks e.num rv, _, _, _, rfl, by rw [upd_same, putI], bt.trans bu, ?_, by have := len_put ks e.num rv; omega⟩
        rw [take_succ_at he]
        exact (di.keep tu).put c (ho.keep (tG.trans tu))
      · refine iteDF c ⟨ks, _, _, _, rfl, hd', bt, ?_, by omega⟩
        rw [take_succ_at he]
        exact di.skip c
    · rintro σ G' ⟨ks, v3, v4, v5, rfl, hd', bt, di, hk⟩
      have hxl : xs.length = ds.length := paired_len dd
      rw [hxl, List.take_length] at di
      refine ⟨_, rfl, d, ks.map entK, ks.map (·.1), rfl, .inl hd', by rw [List.map_map, List.map_map]; rfl, by rw [List.length_map]; omega, fun ns p perm le np => ?_⟩
      obtain ⟨F, eF, sF, hp⟩ := upd_abs G' p (.lst (ns.map V.int)) np
      rw [eF]
      have hnd : ns.Nodup := perm.nodup_iff.mpr di.1
      have lt : ns.Pairwise (· < ·) := by
        have := List.Pairwise.and le hnd
        exact this.imp fun ⟨a, b⟩ => by omega
      have hv : ∀ n ∈ ns, ∃ v, valV ks n = some v := fun n hn => val_some (perm.mem_iff.mp hn)
      let f : Int → Int × V := fun n => (n, (valV ks n).getD .non)
      have hm0 : ∀ e, e ∈ ns.map f ↔ e ∈ ks := by
        intro e
        constructor
        · intro he
          obtain ⟨n, hn, rfl⟩ := List.mem_map.mp he
          obtain ⟨v, h⟩ := hv n hn
          have z := val_mem h
          show (n, (valV ks n).getD .non) ∈ ks
          rw [h]
          exact z
        · intro he
          obtain ⟨n, v⟩ := e
          refine List.mem_map.mpr ⟨n, perm.mem_iff.mpr (List.mem_map.mpr ⟨_, he, rfl⟩), ?_⟩
          show (n, (valV ks n).getD .non) = (n, v)
          rw [mem_val di.1 he]
          rfl
      have hnl : ns.length ≤ 64 := by have := perm.length_eq; rw [List.length_map] at this; omega
      refine ⟨p, rfl, ⟨_, SqL.of hp⟩, fun D nD => ?_⟩
      refine lc_list (K := K) (a := p) (xs := ns.map V.int) (fun i G2 => Same F G2 ∧ ∃ acc : List (Addr × Int × V), G2 D = some (.lst (acc.map fun z => V.ref z.1)) ∧ acc.length ≤ i ∧ acc.map (·.2) = ((ns.map f).take i).filter (fun e => decide (e.2 ≠ .non)) ∧ ∀ z ∈ acc, G2 z.1 = some (.tup [.int z.2.1, z.2.2]))
        ⟨same_upd nD, [], upd_same, Nat.zero_le _, rfl, fun z hz => by cases hz⟩ (fun i G2 _ h => h.1.seq (SqL.of hp)) ?_ ?_
      · rintro i x G2 hi ⟨s2, acc, hD, hal, hm, ht⟩
        rw [List.getElem?_map] at hi
        obtain ⟨n, hn, rfl⟩ := Option.map_eq_some_iff.mp hi
        have he : (ns.map f)[i]? = some (f n) := by rw [List.getElem?_map, hn]; rfl
        have hil : i < ns.length := (List.getElem?_eq_some_iff.mp hn).1
        obtain ⟨v, hvn⟩ := hv n (List.mem_of_getElem? hn)
        have efn : f n = (n, v) := by show (n, (valV ks n).getD .non) = (n, v); rw [hvn]; rfl
        have dg : ∀ {G3 : Hp}, Same G2 G3 → DGet G3 d (.int n) (some v) := fun s3 => by
          have z := DGet.k (k := (Sum.inl n : L2.Key)) (s3 _ _ (s2 _ _ (sF _ _ hd')))
          rw [valK, hvn] at z
          exact z
        refine ⟨rfl, ?_⟩
        refine ⟨_, rfl, _, rfl, d, v, rfl, dg (Same.refl _), rfl, _, rfl, ?_⟩
        by_cases c : v = .non
        · refine iteN c ⟨s2, acc, hD, by omega, ?_, ht⟩
          rw [take_succ_at he, List.filter_append, hm, List.filter_cons_of_neg (by rw [efn]; simpa using c), List.filter_nil, List.append_nil]
        · refine iteNF c ⟨_, rfl, _, rfl, _, rfl, d, v, rfl, dg (Same.refl _), (by show 2 ≤ sizeLine; decide), fun Z nZ => ?_⟩
          obtain ⟨G4, e4, s4, hZ⟩ := upd_abs G2 Z (.tup [.int n, v]) nZ
          rw [e4]
          have hDn : G4 D = some (.lst (acc.map fun z => V.ref z.1)) := s4 _ _ hD
          refine ⟨_, hDn, by rw [List.length_map, sizeLine_eq]; omega, ?_⟩
          have tu := (But.of (l := D) (o := .lst (acc.map (fun z => V.ref z.1) ++ [.ref Z])) (Same.refl G4)).tups hDn
          have nD2 : F D = none := nD
          refine ⟨?_, acc ++ [(Z, n, v)], by rw [upd_same, List.map_append]; rfl, by rw [List.length_append]; exact Nat.succ_le_succ hal, ?_, fun z hz => ?_⟩
          · exact (s2.trans s4).upd nD2
          · rw [List.map_append, hm, take_succ_at he, List.filter_append, List.filter_cons_of_pos (by rw [efn]; simpa using c), efn]
            rfl
          · rcases List.mem_append.mp hz with hz | hz
            · exact tu _ _ (s4 _ _ (ht z hz))
            · rw [List.mem_singleton.mp hz]
              exact tu _ _ hZ
      · rintro G2 ⟨s2, acc, hD, hal, hm, ht⟩
        rw [List.length_map, List.take_of_length_le (by rw [List.length_map]; exact Nat.le_refl _)] at hm
        have tR : Tups G' G2 := (sF.trans s2).tups
        obtain ⟨L, hL, hLm⟩ := (di.keep tR).rows (l := acc.map (·.2)) (fun e => by rw [hm, List.mem_filter, hm0]; simp)
        have sH : Same H G2 := fun b o z => by
          have nb : b ≠ d := ne_of_none z nd
          exact s2 _ _ (sF _ _ (bt _ _ (s1 _ _ z) nb))
        have nDH : H D = none := by
          cases z : H D with
          | none => rfl
          | some o =>
            have nb : D ≠ d := ne_of_none z nd
            have y := sF _ _ (bt _ _ (s1 _ _ z) nb)
            rw [nD] at y
            cases y
        refine q D _ G2 L sH nDH hD (pro_of ht hL) ⟨?_, hLm⟩
        have z : (L.map (·.1)).Pairwise (· < ·) := by
          rw [← fst_map hL, hm]
          have sub : (((ns.map f).filter (fun e => decide (e.2 ≠ .non))).map (·.1)).Sublist ((ns.map f).map (·.1)) := List.filter_sublist.map _
          have e1 : (ns.map f).map (·.1) = ns := by
            rw [List.map_map]
            exact (List.map_congr_left (fun _ _ => rfl)).trans (List.map_id ns)
          rw [e1] at sub
          exact lt.sublist sub
        exact List.pairwise_map.mp z
theorem cal_law_stands (T : Txt K mg) : Cal P w K mg base 1 "_law_stands" (spLawStands K) := by
  obtain ⟨fd, F⟩ := T.fn_law_stands
  exact cal_of F T.mg_law_stands (ok_law_stands T F) (fun _ _ _ _ _ _ us hl => match us, hl with | [_, _], _ => rfl)
/-- a told list of pairs, with rows for entries -/
def spLawRows (K : PySem.W.Frag) (any : Bool) : Sp := fun vs H Q _ => ∃ (a : Addr) (xs : List V) (M : List (Int × Option Row)), vs = [.ref a] ∧ H a = some (.lst xs) ∧ Paired (PrE K H) xs M ∧ M.length ≤ 500 ∧ (any = false → ∀ e ∈ M, e.2 ≠ none) ∧
  ∀ (R : Addr) (ys : List V) (H' : Hp), Same H H' → H R = none → H' R = some (.lst ys) → Paired (PrO H') ys M → Q (.ref R) H'
theorem pro_more {H G G2 : Hp} {D U : Addr} {ys : List V} {M : List (Int × Option Row)} {e : Int × Option Row} {i : Nat} {rv : V} (s' : Same H G) (hD0 : H D = none) (hD : G D = some (.lst ys)) (hy : Paired (PrO G) ys (M.take i)) (hi : M[i]? = some e) (s2 : Same G G2)
    (nU : G2 U = none) (ho : ORow G2 rv e.2) : ∃ G4, upd (upd G2 U (.tup [.int e.1, rv])) D (.lst (ys ++ [.ref U])) = G4 ∧ (upd G2 U (.tup [.int e.1, rv])) D = some (.lst ys) ∧
      (Same H G4 ∧ G4 D = some (.lst (ys ++ [.ref U])) ∧ Paired (PrO G4) (ys ++ [.ref U]) (M.take (i + 1))) := by
  obtain ⟨G3, e3, s3, hU⟩ := upd_abs G2 U (.tup [.int e.1, rv]) nU
  rw [e3]
  obtain ⟨G4, e4, b4, h4⟩ := set_abs G3 D (.lst (ys ++ [.ref U]))
  rw [e4]
  have hD3 := (s2.trans s3) _ _ hD
  have t4 := b4.tups hD3
  refine ⟨G4, rfl, hD3, fun bb o hb => b4 _ _ ((s'.trans (s2.trans s3)) _ _ hb) (ne_of_none hb hD0), h4, ?_⟩
  rw [take_succ_at hi]
  exact paired_snoc (paired_imp (fun _ _ h => h.keep ((s2.trans s3).tups.trans t4)) hy) ⟨U, rv, rfl, t4 _ _ hU, ho.keep (s3.tups.trans t4)⟩
abbrev s_law_rows : Stmt := top 97
abbrev nm_law_rows : List Str := ["_law_found", "_law_rows_here", "_law_pair"]
abbrev pm_law_rows : List Str := ["_law_found"]
theorem sc_law_rows : FnScope nm_law_rows pm_law_rows (defScope s_law_rows) := ⟨rfl, rfl, rfl, by decide +kernel, rfl, by decide +kernel, by decide +kernel⟩
theorem ok_law_rows (T : Txt K mg) {f : Addr} {fd : FuncData} (F : FnP K "_law_rows" "_law_rows" s_law_rows f fd) : FnOk P w K mg base CX0 3 f fd pm_law_rows (spLawRows K false) := by
  refine fnok F sc_law_rows (fun vs H Q E h => ?_) (fun cdv A outer s H vs Q E hr h => ?_)
  · obtain ⟨a, xs, M, rfl, _⟩ := h
    rfl
  · obtain ⟨l, xs, M, rfl, hl, hx, hM, hno, q⟩ := h
    have hu := hu_of hr
    have nd := sc_law_rows.nd
    have k_law_whole := cal_law_whole (P := P) (w := w) (base := base) T
    refine ⟨_, (pss_cons (ps_if (pt_not (pt_val (pe_callB call_isi rfl T.no_isinstance boot_isinstance (pa_cons (pv 0) (pa_cons (pe_bltn (v := .ty "list") rfl T.no_list boot_list rfl) pa_nil)))))
        (pss_one ps_never)
        pss_nil)
        (pss_cons (ps_set (i := 1) nd rfl (by first | exact Or.inl rfl | exact Or.inr rfl) (pe_lst pa_nil))
        (pss_cons (ps_for PassesOwn.never rfl (pi_list (pv 0)) (pg_name (i := 2) nd rfl (by first | exact Or.inl rfl | exact Or.inr rfl))
        (pss_cons (ps_if (PW.pt (pw_or (pt_not (pt_val (pe_callB call_isi rfl T.no_isinstance boot_isinstance (pa_cons (pv 2) (pa_cons (pe_bltn (v := .ty "tuple") rfl T.no_tuple boot_tuple rfl) pa_nil))))) (pw_or (pt_cmpR op_ne (pe_callB call_len rfl T.no_len boot_len (pa_cons (pv 2) pa_nil)) pe_int (nomark _)) (pw_or1 (pt_not (pt_val (pe_c k_law_whole hr (pa_cons (pe_ix (r := rIxT K) ix_tup (pv 2) pe_int (fun _ _ => rfl)) pa_nil))))))))
        (pss_one ps_never)
        pss_nil)
        (pss_cons (ps_if (pt_not (pt_val (pe_callB call_isi rfl T.no_isinstance boot_isinstance (pa_cons (pe_ix (r := rIxT K) ix_tup (pv 2) pe_int (fun _ _ => rfl)) (pa_cons (pe_glob (v := .ref _) rfl T.mg_Entry rfl) pa_nil)))))
        (pss_one ps_never)
        pss_nil)
        (pss_one (ps_expr (pe_bm PySem.F.plainAttrs_list PySem.F.slot_list_append PySem.F.type_list_append mt_append (pv 1) (pa_cons (pe_tup (pa_cons (pe_ix (r := rIxT K) ix_tup (pv 2) pe_int (fun _ _ => rfl)) (pa_cons (pe_mt0 hr (pe_ix (r := rIxT K) ix_tup (pv 2) pe_int (fun _ _ => rfl))) pa_nil))) pa_nil)))))))
        (pss_one (ps_ret (pv 1)))))), ?_⟩
    refine ⟨_, rfl, _, _, _, _, _, rfl, .ty _, .base (.lst hl), kLL, _, rfl, iteF ?_⟩
    refine ⟨Nat.zero_le _, fun D nD => ?_⟩
    obtain ⟨G, eG, s1, hD⟩ := upd_abs H D (.lst []) nD
    rw [eG]
    refine ⟨_, rfl, l, rfl, ⟨_, SqL.of (s1 _ _ hl)⟩, ?_⟩
    refine for_list (K := K) (a := l) (xs := xs) (fun i σ G' => ∃ (ys : List V) (v2 : Option V), σ = [some (.ref l), some (.ref D), v2] ∧ Same H G' ∧ G' D = some (.lst ys) ∧ Paired (PrO G') ys (M.take i))
      ⟨[], none, rfl, s1, hD, .nil⟩ (fun i σ G' _ ⟨_, _, _, s', _⟩ => SqL.of (s' _ _ hl)) ?_ ?_
    · rintro i x σ G' hi ⟨ys, v2, rfl, s', hD', hy⟩
      obtain ⟨e, he, t, ev, rfl, ht, hv⟩ := paired_at hx hi
      have ht' := s' _ _ ht
      have hv' := hv.keep s'
      have a0 : atI [V.int e.1, ev] 0 = some (.int e.1) := atI_nat (j := 0) rfl
      have a1 : atI [V.int e.1, ev] 1 = some ev := atI_nat (j := 1) rfl
      have hil : i < M.length := (List.getElem?_eq_some_iff.mp he).1
      have ylen : ys.length ≤ 500 := by
        have := paired_len hy
        rw [List.length_take] at this
        omega
      obtain ⟨r, hr⟩ : ∃ r, e.2 = some r := by
        cases z : e.2 with
        | none => exact absurd z (hno rfl e (List.mem_of_getElem? he))
        | some r => exact ⟨r, rfl⟩
      rw [hr] at hv'
      obtain ⟨ea, ed, rfl, hea⟩ := id hv'
      refine ⟨_, rfl, _, _, _, _, _, rfl, .ty _, .base (.tup ht'), kTT, _, rfl, iteF ?_⟩
      refine ⟨_, rfl, .ref t, 2, rfl, .inr ⟨_, SqT.of ht', rfl⟩, rfl, _, rfl, iteN rfl ?_⟩
      refine ⟨_, rfl, t, _, _, _, rfl, rfl, SqT.of ht', a0, _, rfl, _, rfl, iteF ?_⟩
      refine ⟨_, rfl, t, _, _, _, rfl, rfl, SqT.of ht', a1, _, _, _, _, _, rfl, .own _, tyIns (T.cl r.kd) (T.isK r.kd) hea, kitSub (T.suK r.kd), _, rfl, iteF ?_⟩
      refine ⟨_, rfl, .inl ⟨rfl, _, SqL.of hD'⟩, ?_⟩
      refine ⟨_, rfl, t, _, _, _, rfl, rfl, SqT.of ht', a0, ?_⟩
      refine ⟨_, rfl, t, _, _, _, rfl, rfl, SqT.of ht', a1, _, spRow K, ea, ed, _, rfl, hea, (met_row T r.kd).mono (by decide), lk_no r (by decide +kernel) (by decide +kernel) (by decide +kernel) (by decide +kernel), _, r, rfl, ⟨ea, ed, rfl, hea⟩, fun v2 H2 s2 h2 => ?_⟩
      refine ⟨(by show 2 ≤ sizeLine; decide), fun U nU => ?_⟩
      obtain ⟨G4, e4, h3, m1, m2, m3⟩ := pro_more s' nD hD' hy he s2 nU (rv := v2) (by rw [hr]; exact h2)
      exact ⟨D, ys, _, rfl, rfl, h3, by rw [sizeLine_eq]; omega, by rw [e4]; exact ⟨_, _, rfl, m1, m2, m3⟩⟩
    · rintro σ G' ⟨ys, v2, rfl, s', hD', hy⟩
      have hxl : xs.length = M.length := paired_len hx
      rw [hxl, List.take_length] at hy
      exact ⟨_, rfl, q D ys G' s' nD hD' hy⟩
theorem cal_law_rows (T : Txt K mg) : Cal P w K mg base 3 "_law_rows" (spLawRows K false) := by
  obtain ⟨fd, F⟩ := T.fn_law_rows
  exact cal_of F T.mg_law_rows (ok_law_rows T F) (fun _ _ _ _ _ _ us hl => match us, hl with | [_], _ => rfl)
abbrev s_law_past : Stmt := top 101
abbrev nm_law_past : List Str := ["_law_found", "_law_rows_here", "_law_pair"]
abbrev pm_law_past : List Str := ["_law_found"]
theorem sc_law_past : FnScope nm_law_past pm_law_past (defScope s_law_past) := ⟨rfl, rfl, rfl, by decide +kernel, rfl, by decide +kernel, by decide +kernel⟩
theorem ok_law_past (T : Txt K mg) {f : Addr} {fd : FuncData} (F : FnP K "_law_past" "_law_past" s_law_past f fd) : FnOk P w K mg base CX0 3 f fd pm_law_past (spLawRows K true) := by
  refine fnok F sc_law_past (fun vs H Q E h => ?_) (fun cdv A outer s H vs Q E hr h => ?_)
  · obtain ⟨a, xs, M, rfl, _⟩ := h
    rfl
  · obtain ⟨l, xs, M, rfl, hl, hx, hM, hno, q⟩ := h
    have hu := hu_of hr
    have nd := sc_law_past.nd
    have k_law_whole := cal_law_whole (P := P) (w := w) (base := base) T
    refine ⟨_, (pss_cons (ps_if (pt_not (pt_val (pe_callB call_isi rfl T.no_isinstance boot_isinstance (pa_cons (pv 0) (pa_cons (pe_bltn (v := .ty "list") rfl T.no_list boot_list rfl) pa_nil)))))
        (pss_one ps_never)
        pss_nil)
        (pss_cons (ps_set (i := 1) nd rfl (by first | exact Or.inl rfl | exact Or.inr rfl) (pe_lst pa_nil))
        (pss_cons (ps_for PassesOwn.never rfl (pi_list (pv 0)) (pg_name (i := 2) nd rfl (by first | exact Or.inl rfl | exact Or.inr rfl))
        (pss_cons (ps_if (PW.pt (pw_or (pt_not (pt_val (pe_callB call_isi rfl T.no_isinstance boot_isinstance (pa_cons (pv 2) (pa_cons (pe_bltn (v := .ty "tuple") rfl T.no_tuple boot_tuple rfl) pa_nil))))) (pw_or (pt_cmpR op_ne (pe_callB call_len rfl T.no_len boot_len (pa_cons (pv 2) pa_nil)) pe_int (nomark _)) (pw_or1 (pt_not (pt_val (pe_c k_law_whole hr (pa_cons (pe_ix (r := rIxT K) ix_tup (pv 2) pe_int (fun _ _ => rfl)) pa_nil))))))))
        (pss_one ps_never)
        pss_nil)
        (pss_one (ps_if (pt_cmpR op_isN (pe_ix (r := rIxT K) ix_tup (pv 2) pe_int (fun _ _ => rfl)) pe_non (nomark _))
        (pss_one (ps_expr (pe_bm PySem.F.plainAttrs_list PySem.F.slot_list_append PySem.F.type_list_append mt_append (pv 1) (pa_cons (pe_tup (pa_cons (pe_ix (r := rIxT K) ix_tup (pv 2) pe_int (fun _ _ => rfl)) (pa_cons pe_non pa_nil))) pa_nil))))
        (pss_one (ps_expr (pe_bm PySem.F.plainAttrs_list PySem.F.slot_list_append PySem.F.type_list_append mt_append (pv 1) (pa_cons (pe_tup (pa_cons (pe_ix (r := rIxT K) ix_tup (pv 2) pe_int (fun _ _ => rfl)) (pa_cons (pe_mt0 hr (pe_ix (r := rIxT K) ix_tup (pv 2) pe_int (fun _ _ => rfl))) pa_nil))) pa_nil))))))))
        (pss_one (ps_ret (pv 1)))))), ?_⟩
    refine ⟨_, rfl, _, _, _, _, _, rfl, .ty _, .base (.lst hl), kLL, _, rfl, iteF ?_⟩
    refine ⟨Nat.zero_le _, fun D nD => ?_⟩
    obtain ⟨G, eG, s1, hD⟩ := upd_abs H D (.lst []) nD
    rw [eG]
    refine ⟨_, rfl, l, rfl, ⟨_, SqL.of (s1 _ _ hl)⟩, ?_⟩
    refine for_list (K := K) (a := l) (xs := xs) (fun i σ G' => ∃ (ys : List V) (v2 : Option V), σ = [some (.ref l), some (.ref D), v2] ∧ Same H G' ∧ G' D = some (.lst ys) ∧ Paired (PrO G') ys (M.take i))
      ⟨[], none, rfl, s1, hD, .nil⟩ (fun i σ G' _ ⟨_, _, _, s', _⟩ => SqL.of (s' _ _ hl)) ?_ ?_
    · rintro i x σ G' hi ⟨ys, v2, rfl, s', hD', hy⟩
      obtain ⟨e, he, t, ev, rfl, ht, hv⟩ := paired_at hx hi
      have ht' := s' _ _ ht
      have hv' := hv.keep s'
      have a0 : atI [V.int e.1, ev] 0 = some (.int e.1) := atI_nat (j := 0) rfl
      have a1 : atI [V.int e.1, ev] 1 = some ev := atI_nat (j := 1) rfl
      have hil : i < M.length := (List.getElem?_eq_some_iff.mp he).1
      have ylen : ys.length ≤ 500 := by
        have := paired_len hy
        rw [List.length_take] at this
        omega
      refine ⟨_, rfl, _, _, _, _, _, rfl, .ty _, .base (.tup ht'), kTT, _, rfl, iteF ?_⟩
      refine ⟨_, rfl, .ref t, 2, rfl, .inr ⟨_, SqT.of ht', rfl⟩, rfl, _, rfl, iteN rfl ?_⟩
      refine ⟨_, rfl, t, _, _, _, rfl, rfl, SqT.of ht', a0, _, rfl, _, rfl, iteF ?_⟩
      refine ⟨_, rfl, t, _, _, _, rfl, rfl, SqT.of ht', a1, rfl, _, rfl, ?_⟩
      cases hr : e.2 with
      | none =>
        rw [hr] at hv'
        have hev : ev = .non := hv'
        refine iteD hev ?_
        refine ⟨_, rfl, .inl ⟨rfl, _, SqL.of hD'⟩, ?_⟩
        refine ⟨_, rfl, t, _, _, _, rfl, rfl, SqT.of ht', a0, ?_⟩
        refine ⟨(by show 2 ≤ sizeLine; decide), fun U nU => ?_⟩
        obtain ⟨G4, e4, h3, m1, m2, m3⟩ := pro_more s' nD hD' hy he (Same.refl _) nU (rv := .non) (by rw [hr]; rfl)
        exact ⟨D, ys, _, rfl, rfl, h3, by rw [sizeLine_eq]; omega, by rw [e4]; exact ⟨_, _, rfl, m1, m2, m3⟩⟩
      | some r =>
        rw [hr] at hv'
        obtain ⟨ea, ed, rfl, hea⟩ := id hv'
        refine iteDF (fun z => nomatch z) ?_
        refine ⟨_, rfl, .inl ⟨rfl, _, SqL.of hD'⟩, ?_⟩
        refine ⟨_, rfl, t, _, _, _, rfl, rfl, SqT.of ht', a0, ?_⟩
        refine ⟨_, rfl, t, _, _, _, rfl, rfl, SqT.of ht', a1, _, spRow K, ea, ed, _, rfl, hea, (met_row T r.kd).mono (by decide), lk_no r (by decide +kernel) (by decide +kernel) (by decide +kernel) (by decide +kernel), _, r, rfl, ⟨ea, ed, rfl, hea⟩, fun v2 H2 s2 h2 => ?_⟩
        refine ⟨(by show 2 ≤ sizeLine; decide), fun U nU => ?_⟩
        obtain ⟨G4, e4, h3, m1, m2, m3⟩ := pro_more s' nD hD' hy he s2 nU (rv := v2) (by rw [hr]; exact h2)
        exact ⟨D, ys, _, rfl, rfl, h3, by rw [sizeLine_eq]; omega, by rw [e4]; exact ⟨_, _, rfl, m1, m2, m3⟩⟩
    · rintro σ G' ⟨ys, v2, rfl, s', hD', hy⟩
      have hxl : xs.length = M.length := paired_len hx
      rw [hxl, List.take_length] at hy
      exact ⟨_, rfl, q D ys G' s' nD hD' hy⟩
theorem cal_law_past (T : Txt K mg) : Cal P w K mg base 3 "_law_past" (spLawRows K true) := by
  obtain ⟨fd, F⟩ := T.fn_law_past
  exact cal_of F T.mg_law_past (ok_law_past T F) (fun _ _ _ _ _ _ us hl => match us, hl with | [_], _ => rfl)
def spLawPut (K : PySem.W.Frag) : Sp := fun vs H Q _ => ∃ (p l : Addr) (ev : V) (d : Deed) (ds : List Deed), vs = [.ref p, ev] ∧ RollAt K H p l ds ∧ DeedAt H ev d ∧ ds.length < 500 ∧ (0 ≤ d.at_ ∧ d.at_ ≤ 999999) ∧ (1 ≤ d.num ∧ d.num ≤ 1000000000) ∧ (∀ e ∈ ds, e.at_ ≤ d.at_) ∧
  (∀ r, d.row = some r → r.Ok) ∧ (d.row = none → ∃ r, cur ds d.at_ d.num = some r) ∧ ∀ H', But l H H' → RollAt K H' p l (ds ++ [d]) → Q (.bl true) H'
abbrev s_law_put : Stmt := top 100
abbrev nm_law_put : List Str := ["_law_roll", "_law_deed", "_law_known", "_law_number", "_law_row_here"]
abbrev pm_law_put : List Str := ["_law_roll", "_law_deed"]
theorem sc_law_put : FnScope nm_law_put pm_law_put (defScope s_law_put) := ⟨rfl, rfl, rfl, by decide +kernel, rfl, by decide +kernel, by decide +kernel⟩
theorem ok_law_put (T : Txt K mg) {f : Addr} {fd : FuncData} (F : FnP K "_law_put" "_law_put" s_law_put f fd) : FnOk P w K mg base CX0 7 f fd pm_law_put (spLawPut K) := by
  refine fnok F sc_law_put (fun vs H Q E h => ?_) (fun cdv A outer s H vs Q E hr h => ?_)
  · obtain ⟨p, l, ev, d, ds, rfl, _⟩ := h
    rfl
  · obtain ⟨p, l, ev, d, ds, rfl, hR, ⟨t, rv, rfl, ht, ho⟩, hn, hat, hnum, hle, hok, hst, q⟩ := h
    have hu := hu_of hr
    have nd := sc_law_put.nd
    have k_law_made := cal_law_made (P := P) (w := w) (base := base) T
    refine ⟨_, (pss_cons (ps_asg (pv 1) (pg_tup rfl (pgs_cons (pg_name (i := 2) nd rfl (by first | exact Or.inl rfl | exact Or.inr rfl)) (pgs_cons (pg_name (i := 3) nd rfl (by first | exact Or.inl rfl | exact Or.inr rfl)) (pgs_cons (pg_name (i := 4) nd rfl (by first | exact Or.inl rfl | exact Or.inr rfl)) pgs_nil)))))
        (pss_cons (ps_if (pt_cmpR op_isN (pv 4) pe_non (nomark _))
        (pss_one (ps_ret (pe_cmpR op_isN (pe_mt hr (pv 0) (pa_cons (pv 2) (pa_cons (pv 3) pa_nil))) pe_non (nomark _))))
        pss_nil)
        (pss_one (ps_ret (pe_cmpR op_isN (pe_mt hr (pv 0) (pa_cons (pv 2) (pa_cons (pv 3) (pa_cons (pe_c k_law_made hr (pa_cons (pv 4) pa_nil)) pa_nil)))) pe_non (nomark _)))))), ?_⟩
    obtain ⟨dx, b, xs, hp, hl, dd⟩ := id hR
    refine ⟨_, rfl, t, _, rfl, SqT.of ht, rfl, _, _, rfl, _, _, rfl, _, _, rfl, rfl, ?_⟩
    obtain ⟨k, n, o⟩ := d
    refine ⟨_, rfl, rfl, _, rfl, ?_⟩
    cases o with
    | none =>
      have hrv : rv = .non := ho
      refine iteD hrv ?_
      obtain ⟨r, hc⟩ := hst rfl
      refine ⟨_, rfl, _, spStrike K, p, dx, _, rfl, hp, (met_strike T).mono (by decide), rfl, _, rfl, _, rfl, p, l, k, n, r, ds, rfl, hR, hc, hn, hat, hnum, hle, fun H1 b1 h1 => ?_⟩
      exact ⟨rfl, q H1 b1 h1⟩
    | some r =>
      have hrv : ¬ rv = .non := fun z => by have := (orow_non ho).mp z; cases this
      refine iteDF hrv ?_
      refine ⟨_, rfl, _, spPut K, p, dx, _, rfl, hp, (met_put T).mono (by decide), rfl, _, rfl, _, rfl, _, rfl, rv, r, rfl, ho, hok r rfl, fun v1 H1 s1 he1 => ?_⟩
      refine ⟨p, l, k, n, v1, r, ds, rfl, hR.keep s1, he1, hok r rfl, hn, hat, hnum, hle, fun H2 b2 h2 => ?_⟩
      exact ⟨rfl, q H2 (s1.but b2) h2⟩
theorem cal_law_put (T : Txt K mg) : Cal P w K mg base 7 "_law_put" (spLawPut K) := by
  obtain ⟨fd, F⟩ := T.fn_law_put
  exact cal_of F T.mg_law_put (ok_law_put T F) (fun _ _ _ _ _ _ us hl => match us, hl with | [_, _], _ => rfl)
end
end Lr

set_option maxHeartbeats 4000000
/-! Defs: the deeds of a script. -/
namespace Lr
open PySem PySem.Spec PyProof.Rows L2
/-- a deed that may come behind others -/
def DOk (pre : List Deed) (d : Deed) : Prop := (0 ≤ d.at_ ∧ d.at_ ≤ 999999) ∧ (1 ≤ d.num ∧ d.num ≤ 1000000000) ∧ (∀ e ∈ pre, e.at_ ≤ d.at_) ∧ (∀ r, d.row = some r → r.Ok) ∧ (d.row = none → ∃ r, cur pre d.at_ d.num = some r)
def Good (ds : List Deed) : Prop := ∀ i d, ds[i]? = some d → DOk (ds.take i) d
theorem Good.nil : Good [] := fun i d h => by simp at h
theorem Good.snoc {ds : List Deed} {d : Deed} (h : Good ds) (o : DOk ds d) : Good (ds ++ [d]) := by
  intro i e he
  by_cases c : i < ds.length
  · rw [List.getElem?_append_left c] at he
    rw [List.take_append_of_le_length (Nat.le_of_lt c)]
    exact h i e he
  · have hl : i < (ds ++ [d]).length := (List.getElem?_eq_some_iff.mp he).1
    rw [List.length_append] at hl
    have hi : i = ds.length := by
      have : i < ds.length + 1 := hl
      omega
    subst hi
    rw [List.getElem?_append_right (Nat.le_refl _), Nat.sub_self] at he
    have e2 : d = e := Option.some.inj he
    subst e2
    rw [List.take_append_of_le_length (Nat.le_refl _), List.take_length]
    exact o
theorem inV_mem {n : Int} {ns : List Int} (h : inV (.int n) (ns.map V.int) = true) : n ∈ ns := by
  unfold inV at h
  rw [List.any_map] at h
  obtain ⟨m, hm, he⟩ := List.any_eq_true.mp h
  have z : m = n := by simpa [eqV] using he
  rwa [← z]
theorem flat_ints (ns : List Int) : (ns.map V.int).all flatV = true := by
  rw [List.all_map]
  exact List.all_eq_true.mpr fun _ _ => rfl
theorem Stands.len {ds : List Deed} {k : Int} {L : List (Int × Row)} (h : Stands ds k L) : L.length ≤ ds.length := by
  have nl : (L.map (·.1)).Nodup := (List.pairwise_map.mpr h.1).imp fun z => by omega
  have sub : ∀ n ∈ L.map (·.1), n ∈ ds.map (·.num) := by
    intro n hm
    obtain ⟨e, he, rfl⟩ := List.mem_map.mp hm
    have c := (h.2 e.1 e.2).mp he
    unfold cur at c
    cases z : lastO k e.1 ds with
    | none => rw [z] at c; cases c
    | some o =>
      obtain ⟨d0, h0, _, hnum, _⟩ := lastO_mem z
      exact List.mem_map.mpr ⟨d0, h0, hnum⟩
  have := List.Nodup.length_le_of_subset nl sub
  rwa [List.length_map, List.length_map] at this
def numsOf (m : Int) : List Int := [1, 2, 3, m, 7, 1000000000, 8, 20]
section
variable {P : Program} {w : World} {K : PySem.W.Frag} {mg : Str → Option Value} {base : Heap}
def spLawDeeds (K : PySem.W.Frag) : Sp := fun vs H Q _ => ∃ (a : Addr) (ns : List Int), vs = [.ref a, .int 42] ∧ Scr K H a ns ∧ ∀ (D : Addr) (xs : List V) (ds : List Deed) (m : Int) (H' : Hp), Same H H' → H D = none → H' D = some (.lst xs) → DeedsAt H' xs ds →
  12 ≤ ds.length → ds.length ≤ 40 → Good ds → (∀ d ∈ ds, d.num ∈ numsOf m) → Q (.ref D) H'
abbrev s_law_deeds : Stmt := top 96
abbrev nm_law_deeds : List Str := ["_law_script", "_law_most", "_law_base_here", "_law_numbers", "_law_known", "_law_deeds_here", "_law_k", "_law_cell_here", "_law_number", "_law_there", "_law_one", "_law_row_here"]
abbrev pm_law_deeds : List Str := ["_law_script", "_law_most"]
theorem sc_law_deeds : FnScope nm_law_deeds pm_law_deeds (defScope s_law_deeds) := ⟨rfl, rfl, rfl, by decide +kernel, rfl, by decide +kernel, by decide +kernel⟩
theorem ok_law_deeds (T : Txt K mg) {f : Addr} {fd : FuncData} (F : FnP K "_law_deeds" "_law_deeds" s_law_deeds f fd) : FnOk P w K mg base CX0 4 f fd pm_law_deeds (spLawDeeds K) := by
  refine fnok F sc_law_deeds (fun vs H Q E h => ?_) (fun cdv A outer s H vs Q E hr h => ?_)
  · obtain ⟨a, ns, rfl, _⟩ := h
    rfl
  · obtain ⟨a, ns, rfl, hs, q⟩ := h
    have hu := hu_of hr
    have nd := sc_law_deeds.nd
    have k_law_base := cal_law_base (P := P) (w := w) (base := base) T
    have k_law_draw := cal_law_draw (P := P) (w := w) (base := base) T
    have k_law_cell := cal_law_cell (P := P) (w := w) (base := base) T
    have k_law_pick := cal_law_pick (P := P) (w := w) (base := base) T
    have k_law_stands := cal_law_stands (P := P) (w := w) (base := base) T
    have k_law_row := cal_law_row (P := P) (w := w) (base := base) T
    refine ⟨_, (pss_cons (ps_set (i := 2) nd rfl (by first | exact Or.inl rfl | exact Or.inr rfl) (pe_c k_law_base hr (pa_cons (pv 0) pa_nil)))
        (C8.pss_cut (ps_set (i := 3) nd rfl (by first | exact Or.inl rfl | exact Or.inr rfl) (pe_lst (pa_cons pe_int (pa_cons pe_int (pa_cons pe_int (pa_cons (pe_op op_add pe_int (pe_c k_law_draw hr (pa_cons (pv 0) (pa_cons pe_int (pa_cons (pe_op op_pow pe_int pe_int) pa_nil))))) (pa_cons pe_int (pa_cons (pe_op op_pow pe_int pe_int) (pa_cons pe_int (pa_cons pe_int pa_nil))))))))))
        (C8.pss_cut (ps_set (i := 4) nd rfl (by first | exact Or.inl rfl | exact Or.inr rfl) (pe_op op_mod (pe_op op_fdiv (pe_c k_law_draw hr (pa_cons (pv 0) (pa_cons pe_int (pa_cons (pe_op op_pow pe_int pe_int) pa_nil)))) pe_int) pe_int))
        (pss_cons (ps_set (i := 5) nd rfl (by first | exact Or.inl rfl | exact Or.inr rfl) (pe_lst pa_nil))
        (pss_cons (ps_for PassesOwn.never rfl (pi_range2 rfl T.no_range (pa_cons pe_int (pa_cons (pe_callB (call_max2 rfl) rfl T.no_max boot_max (pa_cons pe_int (pa_cons (pe_callB (call_min2 rfl) rfl T.no_min boot_min (pa_cons (pe_callB call_len rfl T.no_len boot_len (pa_cons (pv 0) pa_nil)) (pa_cons (pv 1) pa_nil))) pa_nil))) pa_nil))) (pg_name (i := 6) nd rfl (by first | exact Or.inl rfl | exact Or.inr rfl))
        (pss_cons (ps_set (i := 7) nd rfl (by first | exact Or.inl rfl | exact Or.inr rfl) (pe_c k_law_cell hr (pa_cons (pv 0) (pa_cons (pv 6) pa_nil))))
        (C8.pss_cut (ps_set (i := 4) nd rfl (by first | exact Or.inl rfl | exact Or.inr rfl) (pe_op op_add (pv 4) (pe_ix (r := rIxL K) ix_list (pe_lst (pa_cons pe_int (pa_cons pe_int (pa_cons pe_int (pa_cons pe_int pa_nil))))) (pe_c k_law_pick hr (pa_cons (pv 7) (pa_cons pe_int (pa_cons pe_int pa_nil)))) (fun _ _ => rfl))))
        (C8.pss_cut (ps_set (i := 8) nd rfl (by first | exact Or.inl rfl | exact Or.inr rfl) (pe_ix (r := rIxL K) ix_list (pv 3) (pe_c k_law_pick hr (pa_cons (pv 7) (pa_cons pe_int (pa_cons pe_int pa_nil)))) (fun _ _ => rfl)))
        (C8.pss_cut (ps_setLc (i := 9) (own := [("_law_one", 10), ("_law_row_here", 11)]) (g := (gTup K 2 (gCons (gName 10) (gCons (gName 11) gNil)))) rfl nd rfl rfl (sw_true rfl rfl rfl (by decide +kernel)) (pi_list (pe_c k_law_stands hr (pa_cons (pv 5) (pa_cons (pv 4) pa_nil)))) (blkOk_by (N := nm_law_deeds) (sc := defScope s_law_deeds) (by decide +kernel)) (fun _ _ _ _ _ => (pg_tup rfl (pgs_cons (pg_name (i := 10) nd rfl (by first | exact Or.inl rfl | exact Or.inr rfl)) (pgs_cons (pg_name (i := 11) nd rfl (by first | exact Or.inl rfl | exact Or.inr rfl)) pgs_nil)))) (fun _ _ _ _ _ => pts_nil) (fun _ _ _ _ _ => (pv 10)))
        (pss_one (ps_if (PW.pt (pw_and (pt_cmpR op_in_seq (pv 8) (pv 9) (by rfl)) (pw_and1 (pt_cmpR op_eq (pe_c k_law_pick hr (pa_cons (pv 7) (pa_cons pe_int (pa_cons pe_int pa_nil)))) pe_int (nomark _)))))
        (pss_one (ps_expr (pe_bm PySem.F.plainAttrs_list PySem.F.slot_list_append PySem.F.type_list_append mt_append (pv 5) (pa_cons (pe_tup (pa_cons (pv 4) (pa_cons (pv 8) (pa_cons pe_non pa_nil)))) pa_nil))))
        (pss_one (ps_expr (pe_bm PySem.F.plainAttrs_list PySem.F.slot_list_append PySem.F.type_list_append mt_append (pv 5) (pa_cons (pe_tup (pa_cons (pv 4) (pa_cons (pv 8) (pa_cons (pe_c k_law_row hr (pa_cons (pv 7) (pa_cons (pv 2) pa_nil))) pa_nil)))) pa_nil)))))))))))
        (pss_one (ps_ret (pv 5)))))))), ?_⟩
    refine ⟨_, rfl, a, ns, rfl, hs, fun b H1 s1 b0 b1 => ?_⟩
    -- the numbers
    refine ⟨fun σ G => ∃ (N : Addr) (m : Int), σ = [some (.ref a), some (.int 42), some (.int b), some (.ref N), none, none, none, none, none, none, none, none] ∧ Same H1 G ∧ G N = some (.lst ((numsOf m).map V.int)) ∧ (1 ≤ m ∧ m ≤ 1000000000), ?_, ?_⟩
    · refine ⟨_, rfl, _, _, rfl, rfl, ⟨by decide, by decide, by decide⟩, a, ns, 1, 10 ^ (9 : Int).toNat, rfl, hs.keep s1, ⟨by decide, by decide⟩, (by decide), fun z z0 z1 => ?_⟩
      refine ⟨_, _, rfl, rfl, _, _, rfl, rfl, ⟨by decide, by decide, by decide⟩, (by show 8 ≤ sizeLine; decide), fun N nN => ?_⟩
      have e9 : (10 : Int) ^ (9 : Int).toNat = 1000000000 := by decide
      rw [e9] at z1
      exact ⟨N, 1 + z, rfl, same_upd nN, upd_same, by omega, by omega⟩
    rintro σ G ⟨N, m, rfl, s2, hN, m0, m1⟩
    have s12 := s1.trans s2
    refine ⟨fun σ G' => G' = G ∧ ∃ y : Int, (0 ≤ y ∧ y ≤ 998999) ∧ σ = [some (.ref a), some (.int 42), some (.int b), some (.ref N), some (.int y), none, none, none, none, none, none, none], ?_, ?_⟩
    · refine ⟨_, rfl, _, _, rfl, rfl, ⟨by decide, by decide, by decide⟩, a, ns, 0, 10 ^ (9 : Int).toNat, rfl, hs.keep s12, ⟨by decide, by decide⟩, (by decide), fun z z0 z1 => ?_⟩
      exact ⟨_, _, rfl, rfl, ⟨by decide, by decide⟩, _, _, rfl, rfl, (by show (0 : Int) < 999000; decide), rfl, _, ⟨mod_lo _ (by decide), Int.le_of_lt_add_one (mod_hi _ (by decide))⟩, rfl⟩
    rintro σ G' ⟨rfl, y, ⟨y0, y1⟩, rfl⟩
    refine ⟨Nat.zero_le _, fun D nD => ?_⟩
    obtain ⟨G0, e0, s3, hD⟩ := upd_abs G' D (.lst []) nD
    rw [e0]
    -- the range
    obtain ⟨hsq, hns⟩ := id hs
    refine ⟨_, rfl, .ref a, _, rfl, .inl ⟨_, (s12.trans s3).seq hsq, rfl⟩, _, rfl, _, _, rfl, _, _, rfl, 2, _, rfl, ?_, ?_⟩
    · rw [List.length_map]
      refine ⟨by decide, by decide, ?_, ?_⟩ <;> (split <;> (try split) <;> omega)
    have hNm : ∃ J : Nat, ((if (if (42 : Int) < ((ns.map V.int).length : Nat) then (42 : Int) else ((ns.map V.int).length : Nat)) > 14 then (if (42 : Int) < ((ns.map V.int).length : Nat) then (42 : Int) else ((ns.map V.int).length : Nat)) else 14) - 2).toNat = J ∧ 12 ≤ J ∧ J ≤ 40 := by
      refine ⟨_, rfl, ?_, ?_⟩ <;> (split <;> (try split) <;> omega)
    obtain ⟨J, eJ, J0, J1⟩ := hNm
    rw [eJ]
    refine for_range (lo := 2) (n := J) (fun i σ G => ∃ (kn : Int) (v6 v7 v8 v9 : Option V) (xs : List V) (ds : List Deed), σ = [some (.ref a), some (.int 42), some (.int b), some (.ref N), some (.int kn), some (.ref D), v6, v7, v8, v9, none, none] ∧
        Same G' G ∧ G D = some (.lst xs) ∧ DeedsAt G xs ds ∧ ds.length = i ∧ Good ds ∧ (0 ≤ kn ∧ kn ≤ 998999 + 12 * i) ∧ (∀ e ∈ ds, e.at_ ≤ kn) ∧ ∀ d ∈ ds, d.num ∈ numsOf m)
      ⟨y, none, none, none, none, [], [], rfl, s3, hD, .nil, rfl, Good.nil, ⟨y0, by omega⟩, (fun _ h => nomatch h), (fun _ h => nomatch h)⟩ ?_ ?_
    · rintro i σ G hi ⟨kn, v6, v7, v8, v9, xs, ds, rfl, sG, hD, dd, hlen, good, ⟨k0, k1⟩, hat, hnum⟩
      have sH := s12.trans sG
      refine ⟨_, rfl, _, rfl, a, ns, 2 + i, rfl, hs.keep sH, ⟨by omega, by omega⟩, fun c => ?_⟩
      -- the day of knowing
      refine ⟨fun σ G1 => ∃ kn' : Int, kn ≤ kn' ∧ kn' ≤ kn + 12 ∧ Same G G1 ∧ σ = [some (.ref a), some (.int 42), some (.int b), some (.ref N), some (.int kn'), some (.ref D), some (.int (2 + i)), some (.int c), v8, v9, none, none], ?_, ?_⟩
      · refine ⟨_, rfl, (by show 4 ≤ sizeLine; decide), fun l nl => ?_⟩
        obtain ⟨G1, e1, t1, hl⟩ := upd_abs G l (.lst ([0, 0, 1, 12].map V.int)) nl
        refine ⟨_, rfl, c, 20, 4, rfl, ⟨by decide, by decide⟩, (by decide), fun z G2 t2 z0 z1 => ?_⟩
        have t2' : Same G1 G2 := by rw [← e1]; exact t2
        obtain ⟨x, hx, x0, x1⟩ := four (l := [0, 0, 1, 12]) (i := z) z0 z1 (p := fun m => 0 ≤ m ∧ m ≤ 12) (by
          intro c hm
          simp only [List.mem_cons, List.not_mem_nil, or_false] at hm
          omega)
        exact ⟨l, _, _, _, rfl, rfl, SqL.of (t2' _ _ hl), hx, _, _, rfl, rfl, kn + x, by omega, by omega, t1.trans t2', rfl⟩
      rintro σ G1 ⟨kn', kl, kh, t1, rfl⟩
      -- the number
      refine ⟨fun σ G2 => ∃ n : Int, n ∈ numsOf m ∧ Same G1 G2 ∧ σ = [some (.ref a), some (.int 42), some (.int b), some (.ref N), some (.int kn'), some (.ref D), some (.int (2 + i)), some (.int c), some (.int n), v9, none, none], ?_, ?_⟩
      · refine ⟨_, rfl, _, rfl, c, 21, 8, rfl, ⟨by decide, by decide⟩, (by decide), fun z G2 t2 z0 z1 => ?_⟩
        obtain ⟨x, hx, x0⟩ := four (l := numsOf m) (i := z) z0 z1 (p := fun x => x ∈ numsOf m) (fun _ h => h)
        exact ⟨N, _, _, _, rfl, rfl, SqL.of (t2 _ _ ((sG.trans t1) _ _ hN)), hx, x, x0, t2, rfl⟩
      rintro σ G2 ⟨n, hn, t2, rfl⟩
      have n01 : 1 ≤ n ∧ n ≤ 1000000000 := by
        unfold numsOf at hn
        simp only [List.mem_cons, List.not_mem_nil, or_false] at hn
        omega
      have t12 := t1.trans t2
      -- what is there
      refine ⟨fun σ G3 => ∃ (U : Addr) (tn : List Int), (∀ x ∈ tn, ∃ r, cur ds kn' x = some r) ∧ G3 U = some (.lst (tn.map V.int)) ∧ Same G2 G3 ∧ σ = [some (.ref a), some (.int 42), some (.int b), some (.ref N), some (.int kn'), some (.ref D), some (.int (2 + i)), some (.int c), some (.int n), some (.ref U), none, none], ?_, ?_⟩
      · refine ⟨_, rfl, _, rfl, D, xs, kn', ds, rfl, t12 _ _ hD, dd.keep t12.tups, by omega, fun R ys G3 L t3 nR hR pr st => ?_⟩
        refine ⟨R, rfl, ⟨_, SqL.of hR⟩, fun U nU => ?_⟩
        refine lc_list (K := K) (a := R) (xs := ys) (fun i G => Same G3 G ∧ G U = some (.lst (((L.take i).map (·.1)).map V.int))) ⟨same_upd nU, upd_same⟩ (fun i G _ h => h.1.seq (SqL.of hR)) ?_ ?_
        · rintro j x G4 hj ⟨t4, hU⟩
          obtain ⟨e, he, t, rv, rfl, ht, ho⟩ := paired_at pr hj
          rw [List.getElem?_map] at he
          obtain ⟨e1, he1, rfl⟩ := Option.map_eq_some_iff.mp he
          have jl : j < L.length := (List.getElem?_eq_some_iff.mp he1).1
          refine ⟨t, _, rfl, SqT.of (t4 _ _ ht), rfl, _, _, rfl, _, _, rfl, rfl, rfl, ?_⟩
          refine ⟨_, rfl, _, hU, ?_, t4.upd nU, ?_⟩
          · rw [List.length_map, List.length_map, List.length_take, sizeLine_eq]
            have := st.len
            omega
          · rw [upd_same, take_succ_at he1, List.map_append, List.map_append]
            rfl
        · rintro G4 ⟨t4, hU⟩
          have hl : ys.length = L.length := by have := paired_len pr; rwa [List.length_map] at this
          rw [hl, List.take_length] at hU
          refine ⟨U, L.map (·.1), fun x hx => ?_, hU, t3.trans t4, rfl⟩
          obtain ⟨e, he, rfl⟩ := List.mem_map.mp hx
          exact ⟨e.2, (st.2 e.1 e.2).mp he⟩
      rintro σ G3 ⟨U, tn, htn, hU, t3, rfl⟩
      have t13 := t12.trans t3
      -- one deed more
      have more : ∀ {G4 : Hp} {p : Addr} {v : V} {o : Option Row}, Same G3 G4 → G4 p = none → ORow G4 v o → (∀ r, o = some r → r.Ok) → (o = none → ∃ r, cur ds kn' n = some r) →
          upd G4 p (.tup [.int kn', .int n, v]) D = some (.lst xs) ∧ xs.length < sizeLine ∧
          ∃ (kn : Int) (v6 v7 v8 v9 : Option V) (xs2 : List V) (ds : List Deed), [some (V.ref a), some (V.int 42), some (V.int b), some (V.ref N), some (V.int kn'), some (V.ref D), some (V.int (2 + i)), some (V.int c), some (V.int n), some (V.ref U), none, none] =
              [some (.ref a), some (.int 42), some (.int b), some (.ref N), some (.int kn), some (.ref D), v6, v7, v8, v9, none, none] ∧
            Same G' (upd (upd G4 p (.tup [.int kn', .int n, v])) D (.lst (xs ++ [.ref p]))) ∧ (upd (upd G4 p (.tup [.int kn', .int n, v])) D (.lst (xs ++ [.ref p]))) D = some (.lst xs2) ∧ DeedsAt (upd (upd G4 p (.tup [.int kn', .int n, v])) D (.lst (xs ++ [.ref p]))) xs2 ds ∧
              ds.length = i + 1 ∧ Good ds ∧ (0 ≤ kn ∧ kn ≤ 998999 + 12 * ((i + 1 : Nat) : Int)) ∧ (∀ e ∈ ds, e.at_ ≤ kn) ∧ ∀ d ∈ ds, d.num ∈ numsOf m := by
        intro G4 p v o t4 np ho hok hst
        obtain ⟨G5, e5, t5, hp⟩ := upd_abs G4 p (.tup [.int kn', .int n, v]) np
        rw [e5]
        have hD5 := (t13.trans (t4.trans t5)) _ _ hD
        obtain ⟨G6, e6, b6, h6⟩ := set_abs G5 D (.lst (xs ++ [.ref p]))
        rw [e6]
        have t6 := b6.tups hD5
        have hxl : xs.length = ds.length := paired_len dd
        refine ⟨hD5, by rw [sizeLine_eq]; omega, kn', _, _, _, _, xs ++ [.ref p], ds ++ [⟨kn', n, o⟩], rfl, ?_, h6, ?_, by rw [List.length_append, hlen]; rfl, ?_, ⟨by omega, by omega⟩, fun e he => ?_, fun e he => ?_⟩
        · exact fun bb u hb => b6 _ _ ((sG.trans (t13.trans (t4.trans t5))) _ _ hb) (ne_of_none hb nD)
        · exact paired_snoc (dd.keep ((t13.trans (t4.trans t5)).tups.trans t6)) ⟨p, v, rfl, t6 _ _ hp, ho.keep (t5.tups.trans t6)⟩
        · exact good.snoc ⟨⟨by show 0 ≤ kn'; omega, by show kn' ≤ 999999; omega⟩, n01, fun e he => by have := hat e he; show e.at_ ≤ kn'; omega, hok, hst⟩
        · rcases List.mem_append.mp he with h | h
          · have := hat e h
            omega
          · rw [List.mem_singleton.mp h]
            exact Int.le_refl _
        · rcases List.mem_append.mp he with h | h
          · exact hnum e h
          · rw [List.mem_singleton.mp h]
            exact hn
      have hD3 := t13 _ _ hD
      refine ⟨_, rfl, _, rfl, U, _, rfl, .inl (SqL.of hU), rfl, flat_ints tn, _, rfl, ite2 (fun hin => ?_) (fun _ => iteF ?_)⟩
      · refine ⟨_, rfl, c, 22, 3, rfl, ⟨by decide, by decide⟩, (by decide), fun z G4 t4 z0 z1 => ⟨rfl, _, rfl, ite2 (fun _ => ?_) (fun _ => ?_)⟩⟩
        · refine ⟨_, rfl, .inl ⟨rfl, _, SqL.of (t4 _ _ hD3)⟩, _, rfl, _, rfl, (by show 3 ≤ sizeLine; decide), fun p np => ?_⟩
          obtain ⟨m1, m2, m3⟩ := more t4 np (v := .non) (o := none) rfl (fun _ h => by cases h) (fun _ => htn n (inV_mem hin))
          exact ⟨D, xs, _, rfl, rfl, m1, m2, m3⟩
        · refine ⟨_, rfl, .inl ⟨rfl, _, SqL.of (t4 _ _ hD3)⟩, _, rfl, _, rfl, _, rfl, _, rfl, c, b, rfl, ⟨b0, b1⟩, fun v r G5 t5 hv ok => ⟨(by show 3 ≤ sizeLine; decide), fun p np => ?_⟩⟩
          obtain ⟨m1, m2, m3⟩ := more (t4.trans t5) np (v := v) (o := some r) hv (fun r' h => by cases h; exact ok) (fun h => by cases h)
          exact ⟨D, xs, _, rfl, rfl, m1, m2, m3⟩
      · refine ⟨_, rfl, .inl ⟨rfl, _, SqL.of hD3⟩, _, rfl, _, rfl, _, rfl, _, rfl, c, b, rfl, ⟨b0, b1⟩, fun v r G5 t5 hv ok => ⟨(by show 3 ≤ sizeLine; decide), fun p np => ?_⟩⟩
        obtain ⟨m1, m2, m3⟩ := more t5 np (v := v) (o := some r) hv (fun r' h => by cases h; exact ok) (fun h => by cases h)
        exact ⟨D, xs, _, rfl, rfl, m1, m2, m3⟩
    · rintro σ G ⟨kn, v6, v7, v8, v9, xs, ds, rfl, sG, hD, dd, hlen, good, _, hat, hnum⟩
      exact ⟨_, rfl, q D xs ds m G (s12.trans sG) (s12.free nD) hD dd (by omega) (by omega) good hnum⟩
theorem cal_law_deeds (T : Txt K mg) : Cal P w K mg base 4 "_law_deeds" (spLawDeeds K) := by
  obtain ⟨fd, F⟩ := T.fn_law_deeds
  exact cal_of F T.mg_law_deeds (ok_law_deeds T F) (fun _ _ _ _ _ _ us hl => match us, hl with | [_, _], _ => rfl)
end
end Lr

set_option maxHeartbeats 4000000
/-! Defs: what a roll tells is what the deeds tell. -/
namespace Lr
open PySem PySem.Spec PyProof.Rows L2
theorem PrO.dp {K : PySem.W.Frag} {H : Hp} {x : V} {e : Int × Option Row} (h : PrO H x e) : Dp K H x (hData e) := by
  obtain ⟨t, rv, rfl, ht, ho⟩ := h
  exact .tup (SqT.of ht) (.cons (.int _) (.cons ho.dp .nil))
theorem PrE.keepM {K : PySem.W.Frag} {H H' : Hp} {xs : List V} {M : List (Int × Option Row)} (h : Paired (PrE K H) xs M) (s : Same H H') : Paired (PrE K H') xs M := paired_imp (fun _ _ z => z.keep s) h
theorem PrO.keepM {H H' : Hp} {xs : List V} {M : List (Int × Option Row)} (h : Paired (PrO H) xs M) (s : Same H H') : Paired (PrO H') xs M := paired_imp (fun _ _ z => z.keep s.tups) h
theorem dp_ints {K : PySem.W.Frag} {H : Hp} : ∀ (ns : List Int), DpAll K H (ns.map V.int) (ns.map PyData.int)
  | [] => .nil
  | n :: ns => .cons (.int n) (dp_ints ns)
theorem RowsOk.of {ds : List Deed} (h : Good ds) : RowsOk ds := by
  intro d hd r hr
  obtain ⟨i, hi⟩ := List.mem_iff_getElem?.mp hd
  exact (h i d hi).2.2.2.1 r hr
section
variable {P : Program} {w : World} {K : PySem.W.Frag} {mg : Str → Option Value} {base : Heap}
def spLawTold (K : PySem.W.Frag) : Sp := fun vs H Q _ => ∃ (p l a : Addr) (xs : List V) (k n : Int) (ds : List Deed), vs = [.ref p, .ref a, .int k, .int n] ∧ RollAt K H p l ds ∧ H a = some (.lst xs) ∧ DeedsAt H xs ds ∧ ds.length < 64 ∧ RowsOk ds ∧
  (0 ≤ k ∧ k ≤ 999999) ∧ ∀ H', Same H H' → Q (.bl true) H'
abbrev s_law_told : Stmt := top 102
abbrev nm_law_told : List Str := ["_law_roll", "_law_deeds_here", "_law_known", "_law_number", "_law_k", "_law_way", "_law_found", "_law_good", "_law_at", "_law_one", "_law_row_here", "_law_deed"]
abbrev pm_law_told : List Str := ["_law_roll", "_law_deeds_here", "_law_known", "_law_number"]
theorem sc_law_told : FnScope nm_law_told pm_law_told (defScope s_law_told) := ⟨rfl, rfl, rfl, by decide +kernel, rfl, by decide +kernel, by decide +kernel⟩
theorem ok_law_told (T : Txt K mg) {f : Addr} {fd : FuncData} (F : FnP K "_law_told" "_law_told" s_law_told f fd) : FnOk P w K mg base CX0 7 f fd pm_law_told (spLawTold K) := by
  refine fnok F sc_law_told (fun vs H Q E h => ?_) (fun cdv A outer s H vs Q E hr h => ?_)
  · obtain ⟨p, l, a, xs, k, n, ds, rfl, _⟩ := h
    rfl
  · obtain ⟨p, l, a, xs, k, n, ds, rfl, hR, ha, dd, hlen, hok, ⟨k0, k1⟩, q⟩ := h
    have hu := hu_of hr
    have nd := sc_law_told.nd
    have k_law_rows := cal_law_rows (P := P) (w := w) (base := base) T
    have k_law_past := cal_law_past (P := P) (w := w) (base := base) T
    have k_law_stands := cal_law_stands (P := P) (w := w) (base := base) T
    refine ⟨_, (pss_cons (ps_for PassesOwn.never rfl (pi_range1 rfl T.no_range (pa_cons pe_int pa_nil)) (pg_name (i := 4) nd rfl (by first | exact Or.inl rfl | exact Or.inr rfl))
        (C8.pss_cut (ps_set (i := 5) nd rfl (by first | exact Or.inl rfl | exact Or.inr rfl) (pe_op op_mod (pe_op op_add (pv 4) (pv 2)) pe_int))
        (C8.pss_cut (ps_if (pt_cmpR op_eq (pv 5) pe_int (nomark _))
        (pss_cons (ps_set (i := 6) nd rfl (by first | exact Or.inl rfl | exact Or.inr rfl) (pe_mt hr (pv 0) (pa_cons (pv 2) pa_nil)))
        (pss_one (ps_set (i := 7) nd rfl (by first | exact Or.inl rfl | exact Or.inr rfl) (pe_cmpR (op_eqD hr.units) (pe_c k_law_rows hr (pa_cons (pv 6) pa_nil)) (pe_c k_law_stands hr (pa_cons (pv 1) (pa_cons (pv 2) pa_nil))) (nomark _)))))
        (pss_one (ps_if (pt_cmpR op_eq (pv 5) pe_int (nomark _))
        (pss_cons (ps_set (i := 6) nd rfl (by first | exact Or.inl rfl | exact Or.inr rfl) (pe_mt hr (pv 0) (pa_cons (pv 3) pa_nil)))
        (pss_one (ps_set (i := 7) nd rfl (by first | exact Or.inl rfl | exact Or.inr rfl) (pe_cmpR (op_eqD hr.units) (pe_c k_law_past hr (pa_cons (pv 6) pa_nil)) (pe_lc (own := [("_law_at", 8), ("_law_one", 9), ("_law_row_here", 10)]) (g := (gTup K 3 (gCons (gName 8) (gCons (gName 9) (gCons (gName 10) gNil))))) rfl nd (pi_list (pv 1)) (blkOk_by (N := nm_law_told) (sc := defScope s_law_told) (by decide +kernel)) (fun _ _ _ _ _ => (pg_tup rfl (pgs_cons (pg_name (i := 8) nd rfl (by first | exact Or.inl rfl | exact Or.inr rfl)) (pgs_cons (pg_name (i := 9) nd rfl (by first | exact Or.inl rfl | exact Or.inr rfl)) (pgs_cons (pg_name (i := 10) nd rfl (by first | exact Or.inl rfl | exact Or.inr rfl)) pgs_nil))))) (fun _ _ _ _ _ => (pts_one (pt_cmpR op_eq (pv 9) (pv 3) (nomark _)))) (fun _ _ _ _ _ => (pe_tup (pa_cons (pv 8) (pa_cons (pv 10) pa_nil))))) (nomark _)))))
        (pss_cons (ps_set (i := 6) nd rfl (by first | exact Or.inl rfl | exact Or.inr rfl) (pe_mt0 hr (pv 0)))
        (pss_one (ps_set (i := 7) nd rfl (by first | exact Or.inl rfl | exact Or.inr rfl) (pe_and (pe_callB call_isi rfl T.no_isinstance boot_isinstance (pa_cons (pv 6) (pa_cons (pe_bltn (v := .ty "list") rfl T.no_list boot_list rfl) pa_nil))) (pe_one (pe_cmpR (op_eqD hr.units) (pv 6) (pe_callB (cr_sortedSet rfl) rfl T.no_sorted boot_sorted (pa_cons (pe_callTy (cr_setL rfl) rfl T.no_set boot_set (pa_cons (pe_lc (own := [("_law_deed", 11)]) (g := (gName 11)) rfl nd (pi_list (pv 1)) (blkOk_by (N := nm_law_told) (sc := defScope s_law_told) (by decide +kernel)) (fun _ _ _ _ _ => (pg_name (i := 11) nd rfl (by first | exact Or.inl rfl | exact Or.inr rfl))) (fun _ _ _ _ _ => pts_nil) (fun _ _ _ _ _ => (pe_ix (r := rIxT K) ix_tup (pv 11) pe_int (fun _ _ => rfl)))) pa_nil)) pa_nil)) (nomark _))))))))))
        (pss_cons (ps_if (pt_not (pt_val (pv 7)))
        (pss_one ps_never)
        pss_nil)
        (pss_one (ps_expr (pe_bm0 PySem.F.plainAttrs_list PySem.F.slot_list_clear PySem.F.type_list_clear mt_clear (pv 6))))))))
        (pss_one (ps_ret pe_bl))), ?_⟩
    obtain ⟨dx, b, zs, hp, hl, dr⟩ := id hR
    refine ⟨3, rfl, (by decide), (by decide), ?_⟩
    refine for_range (lo := 0) (n := 3) (fun i σ G => Same H G ∧ ∃ (v4 v5 v6 v7 : Option V), σ = [some (.ref p), some (.ref a), some (.int k), some (.int n), v4, v5, v6, v7, none, none, none, none]) ⟨Same.refl _, none, none, none, none, rfl⟩ ?_ ?_
    · rintro i σ G hi ⟨s1, v4, v5, v6, v7, rfl⟩
      refine ⟨fun σ G' => G' = G ∧ ∃ z : Int, σ = [some (.ref p), some (.ref a), some (.int k), some (.int n), some (.int (0 + i)), some (.int z), v6, v7, none, none, none, none], ?_, ?_⟩
      · exact ⟨_, rfl, _, rfl, _, _, rfl, rfl, _, _, rfl, rfl, (by show (0 : Int) < 3; decide), rfl, _, rfl⟩
      rintro σ G' ⟨rfl, z, rfl⟩
      refine ⟨fun σ G' => ∃ (R : Addr) (ys : List V), Same H G' ∧ H R = none ∧ G' R = some (.lst ys) ∧ σ = [some (.ref p), some (.ref a), some (.int k), some (.int n), some (.int (0 + i)), some (.int z), some (.ref R), some (.bl true), none, none, none, none], ?_, ?_⟩
      · refine ⟨_, rfl, rfl, _, rfl, ite2 (fun _ => ?_) (fun _ => ?_)⟩
        · -- what stands
          refine ⟨_, rfl, _, spStanding K, p, dx, _, rfl, s1 _ _ hp, (met_standing T).mono (by decide), rfl, _, rfl, p, l, k, ds, rfl, hR.keep s1, by omega, hok, fun R ys G1 L s2 nR hR1 pr st => ?_⟩
          have ll := st.len
          refine ⟨_, rfl, R, ys, L.map sp2, rfl, hR1, pr, by rw [List.length_map]; omega, (fun _ e he => by
            obtain ⟨y, _, rfl⟩ := List.mem_map.mp he
            exact fun h => nomatch h), fun U us G2 s3 nU hU pu => ?_⟩
          have s13 := (s1.trans s2).trans s3
          refine ⟨_, rfl, _, rfl, a, xs, k, ds, rfl, s13 _ _ ha, dd.keep s13.tups, hlen, fun W ws G3 L2 s4 nW hW pw st2 => ?_⟩
          have eL := st2.uniq st
          subst eL
          refine ⟨.list ((L2.map sp2).map hData), .list ((L2.map sp2).map hData), .lst (SqL.of (s4 _ _ hU)) (dpAll (fun _ _ h => h.dp) (PrO.keepM pu s4)), .lst (SqL.of hW) (dpAll (fun _ _ h => h.dp) pw), (map_sm hData_sm _).shaped (by decide), (map_sm hData_sm _).shaped (by decide), ?_⟩
          rw [eqv_same (map_sm hData_sm (L2.map sp2))]
          exact ⟨R, ys, s13.trans s4, s1.free nR, (s3.trans s4) _ _ hR1, rfl⟩
        refine ⟨_, rfl, rfl, _, rfl, ite2 (fun _ => ?_) (fun _ => ?_)⟩
        · -- the history
          refine ⟨_, rfl, _, spHistory K, p, dx, _, rfl, s1 _ _ hp, (met_history T).mono (by decide), rfl, _, rfl, p, l, n, ds, rfl, hR.keep s1, by omega, hok, fun R ys G1 s2 nR hR1 pr => ?_⟩
          have ll := hist_len n ds
          refine ⟨_, rfl, R, ys, hist n ds, rfl, hR1, pr, by omega, (fun h => nomatch h), fun U us G2 s3 nU hU pu => ?_⟩
          have s13 := (s1.trans s2).trans s3
          refine ⟨_, rfl, a, rfl, ⟨_, SqL.of (s13 _ _ ha)⟩, fun D nD => ?_⟩
          refine lc_list (K := K) (a := a) (xs := xs) (fun i G => Same G2 G ∧ ∃ ws : List V, G D = some (.lst ws) ∧ Paired (PrO G) ws (hist n (ds.take i))) ⟨same_upd nD, [], upd_same, .nil⟩ (fun i G _ h => (s13.trans h.1).seq (SqL.of ha)) ?_ ?_
          · rintro j x G4 hj ⟨t4, ws, hD, hw⟩
            obtain ⟨e, he, t, rv, rfl, ht, ho⟩ := paired_at dd hj
            have ht4 := (s13.trans t4) _ _ ht
            have ho4 := ho.keep (s13.trans t4).tups
            have wl : ws.length < 64 := by
              have a1 := paired_len hw
              have a2 := hist_len n (ds.take j)
              rw [List.length_take] at a2
              omega
            refine ⟨t, _, rfl, SqT.of ht4, rfl, _, _, rfl, _, _, rfl, _, _, rfl, rfl, rfl, ?_⟩
            refine ⟨_, rfl, _, rfl, rfl, _, rfl, ?_⟩
            by_cases c : e.num = n
            · refine iteD (congrArg V.int c) ⟨_, rfl, _, rfl, (by show 2 ≤ sizeLine; decide), fun Z nZ => ?_⟩
              obtain ⟨G5, e5, t5, hZ⟩ := upd_abs G4 Z (.tup [.int e.at_, rv]) nZ
              rw [e5]
              have hD5 := t5 _ _ hD
              refine ⟨ws, hD5, by rw [sizeLine_eq]; omega, ?_⟩
              obtain ⟨G6, e6, b6, h6⟩ := set_abs G5 D (.lst (ws ++ [.ref Z]))
              rw [e6]
              have t6 := b6.tups hD5
              refine ⟨fun bb o hb => b6 _ _ ((t4.trans t5) _ _ hb) (ne_of_none hb nD), _, h6, ?_⟩
              rw [take_succ_at he, hist_snoc, if_pos c]
              exact paired_snoc (paired_imp (fun _ _ h => h.keep (t5.tups.trans t6)) hw) ⟨Z, rv, rfl, t6 _ _ hZ, ho4.keep (t5.tups.trans t6)⟩
            · refine iteDF (fun z => c (V.int.inj z)) ⟨t4, ws, hD, ?_⟩
              rw [take_succ_at he, hist_snoc, if_neg c]
              exact hw
          · rintro G4 ⟨t4, ws, hD, hw⟩
            have hl : xs.length = ds.length := paired_len dd
            rw [hl, List.take_length] at hw
            refine ⟨.list ((hist n ds).map hData), .list ((hist n ds).map hData), .lst (SqL.of (t4 _ _ hU)) (dpAll (fun _ _ h => h.dp) (PrO.keepM pu t4)), .lst (SqL.of hD) (dpAll (fun _ _ h => h.dp) hw), (map_sm hData_sm _).shaped (by decide), (map_sm hData_sm _).shaped (by decide), ?_⟩
            rw [eqv_same (map_sm hData_sm (hist n ds))]
            exact ⟨R, ys, s13.trans t4, s1.free nR, (s3.trans t4) _ _ hR1, rfl⟩
        · -- the days of knowing
          refine ⟨_, rfl, _, spKnowns K, p, dx, _, rfl, s1 _ _ hp, (met_knowns T).mono (by decide), rfl, p, l, ds, rfl, hR.keep s1, hlen, fun R ns G1 s2 nR hR1 pw mem => ?_⟩
          refine ⟨_, rfl, _, _, _, _, _, rfl, .ty _, .base (.lst hR1), kLL, ?_⟩
          have s12 := s1.trans s2
          refine ⟨_, rfl, iteT ?_⟩
          refine ⟨_, rfl, _, rfl, a, rfl, ⟨_, SqL.of (s12 _ _ ha)⟩, fun D nD => ?_⟩
          refine lc_list (K := K) (a := a) (xs := xs) (fun i G => Same G1 G ∧ G D = some (.lst ((((ds.take i).map (·.at_)).map V.int)))) ⟨same_upd nD, upd_same⟩ (fun i G _ h => (s12.trans h.1).seq (SqL.of ha)) ?_ ?_
          · rintro j x G hj ⟨t4, hD⟩
            obtain ⟨e, he, t, rv, rfl, ht, ho⟩ := paired_at dd hj
            refine ⟨rfl, ?_⟩
            refine ⟨_, rfl, t, _, _, _, rfl, rfl, SqT.of ((s12.trans t4) _ _ ht), atI_nat (j := 0) rfl, _, hD, ?_, ?_, ?_⟩
            · rw [List.length_map, List.length_map, List.length_take, sizeLine_eq]
              omega
            · exact t4.upd nD
            · rw [upd_same, take_succ_at he, List.map_append, List.map_append]
              rfl
          · rintro G ⟨t4, hD⟩
            have hxl : xs.length = ds.length := paired_len dd
            rw [hxl, List.take_length] at hD
            refine ⟨D, ds.map (·.at_), rfl, SqL.of hD, by rw [List.length_map]; omega, fun p1 n1 np1 hn1 => ?_⟩
            have s3 := same_upd (o := SetO w p1 (fun j => decide (j ∈ ds.map (·.at_))) n1) np1
            rw [List.length_map] at hn1
            refine ⟨p1, _, n1, rfl, upd_same, by omega, fun ns2 p2 pw2 mem2 hlen2 np2 => ?_⟩
            have s5 := (t4.trans s3).trans (same_upd (o := .lst (ns2.map V.int)) np2)
            have en : ns2 = ns := ints_uniq pw2 pw fun k => by rw [mem2, mem]; simp
            subst en
            refine ⟨.list (ns2.map PyData.int), .list (ns2.map PyData.int), .lst (SqL.of (s5 _ _ hR1)) (dp_ints ns2), .lst (SqL.of upd_same) (dp_ints ns2), (map_sm Sm.int _).shaped (by decide), (map_sm Sm.int _).shaped (by decide), ?_⟩
            rw [eqv_same (map_sm Sm.int ns2)]
            exact ⟨R, _, s12.trans s5, s1.free nR, s5 _ _ hR1, rfl⟩
      · rintro σ G2 ⟨R, ys, s2, nR, hR2, rfl⟩
        refine ⟨_, rfl, _, rfl, iteF ?_⟩
        refine ⟨_, rfl, .inl ⟨rfl, _, SqL.of hR2⟩, R, ys, rfl, rfl, hR2, ?_⟩
        exact ⟨s2.upd nR, _, _, _, _, rfl⟩
    · rintro σ G ⟨s1, v4, v5, v6, v7, rfl⟩
      exact q G s1
theorem cal_law_told (T : Txt K mg) : Cal P w K mg base 7 "_law_told" (spLawTold K) := by
  obtain ⟨fd, F⟩ := T.fn_law_told
  exact cal_of F T.mg_law_told (ok_law_told T F) (fun _ _ _ _ _ _ us hl => match us, hl with | [_, _, _, _], _ => rfl)
end
end Lr

set_option maxHeartbeats 4000000
/-! The law. -/
namespace Lr
open PySem PySem.Spec PyProof.Rows L2
theorem cut_take (xs : List V) {j : Nat} (h : j ≤ xs.length) : cutV xs none (some (j : Int)) = xs.take j := by
  unfold cutV
  rw [HT.sIx_none, HT.sIx_nat, List.drop_zero, Nat.sub_zero, Nat.min_eq_left h]
theorem mem_inV {n : Int} {ns : List Int} (h : n ∈ ns) : inV (.int n) (ns.map V.int) = true := by
  unfold inV
  rw [List.any_map]
  exact List.any_eq_true.mpr ⟨n, h, by simp [eqV]⟩
/-- a number that no deed is on -/
def nv (ds : List Deed) (n : Int) : Bool := !inV (.int n) ((ds.map (·.num)).map V.int)
theorem never_num {ds : List Deed} {m : Int} (h : ∀ d ∈ ds, d.num ∈ numsOf m) : ∃ n : Int, (([4, 5] : List Int).filter (nv ds))[0]? = some n ∧ n ∉ ds.map (·.num) := by
  have inn : ∀ n : Int, n ∈ ds.map (·.num) → n ∈ numsOf m := fun n hn => by
    obtain ⟨d, hd, rfl⟩ := List.mem_map.mp hn
    exact h d hd
  by_cases c4 : (4 : Int) ∈ ds.map (·.num)
  · have m4 := inn 4 c4
    have c5 : (5 : Int) ∉ ds.map (·.num) := fun c5 => by
      have m5 := inn 5 c5
      unfold numsOf at m4 m5
      simp only [List.mem_cons, List.not_mem_nil, or_false] at m4 m5
      omega
    refine ⟨5, ?_, c5⟩
    have e5 : nv ds 5 = true := by
      unfold nv
      cases z : inV (.int 5) ((ds.map (·.num)).map V.int) with
      | false => rfl
      | true => exact absurd (inV_mem z) c5
    rw [List.filter_cons_of_neg (by unfold nv; rw [mem_inV c4]; decide), List.filter_cons_of_pos e5]
    rfl
  · refine ⟨4, ?_, c4⟩
    have e4 : nv ds 4 = true := by
      unfold nv
      cases z : inV (.int 4) ((ds.map (·.num)).map V.int) with
      | false => rfl
      | true => exact absurd (inV_mem z) c4
    rw [List.filter_cons_of_pos e4]
    rfl
section
variable {P : Program} {w : World} {K : PySem.W.Frag} {mg : Str → Option Value} {base : Heap}
def spLaw (K : PySem.W.Frag) : Sp := fun vs H Q _ => ∃ (a : Addr) (ns : List Int), vs = [.ref a] ∧ SqL K H a (ns.map V.int) ∧ ns.length ≤ 63 ∧ ∀ H', Q (.bl true) H'
abbrev s_law : Stmt := top 103
abbrev nm_law : List Str := ["_law_script", "_law_deeds_here", "_law_roll", "_law_k", "_law_known", "_law_number", "_law_row_here", "_law_other", "_law_at", "_law_never", "_law_one", "_law_deed"]
abbrev pm_law : List Str := ["_law_script"]
theorem sc_law : FnScope nm_law pm_law (defScope s_law) := ⟨rfl, rfl, rfl, by decide +kernel, rfl, by decide +kernel, by decide +kernel⟩
theorem ok_law (T : Txt K mg) {f : Addr} {fd : FuncData} (F : FnP K "law" "law" s_law f fd) : FnOk P w K mg base CX0 9 f fd pm_law (spLaw K) := by
  refine fnok F sc_law (fun vs H Q E h => ?_) (fun cdv A outer s H vs Q E hr h => ?_)
  · obtain ⟨a, ns, rfl, _⟩ := h
    rfl
  · obtain ⟨a, ns, rfl, hsq, hns, q⟩ := h
    have hu := hu_of hr
    have nd := sc_law.nd
    have k_law_deeds := cal_law_deeds (P := P) (w := w) (base := base) T
    have k_law_count := cal_law_count (P := P) (w := w) (base := base) T
    have k_law_grace := cal_law_grace (P := P) (w := w) (base := base) T
    have k_law_told := cal_law_told (P := P) (w := w) (base := base) T
    have k_law_put := cal_law_put (P := P) (w := w) (base := base) T
    have k_law_draw := cal_law_draw (P := P) (w := w) (base := base) T
    have k_Roll := mak_Roll (P := P) (w := w) (base := base) T
    refine ⟨_, (pss_cons (ps_set (i := 1) nd rfl (by first | exact Or.inl rfl | exact Or.inr rfl) (pe_c k_law_deeds hr (pa_cons (pv 0) (pa_cons pe_int pa_nil))))
        (C8.pss_cut (ps_set (i := 2) nd rfl (by first | exact Or.inl rfl | exact Or.inr rfl) (pe_mk k_Roll hr (pa_cons (pe_c k_law_count hr (pa_cons (pv 0) pa_nil)) (pa_cons (pe_c k_law_grace hr (pa_cons (pv 0) pa_nil)) pa_nil))))
        (C8.pss_cut (ps_if (pt_not (pt_val (pe_c k_law_told hr (pa_cons (pv 2) (pa_cons (pe_lst pa_nil) (pa_cons (pe_ix (r := rIxT K) ix_tup (pe_ix (r := rIxL K) ix_list (pv 1) pe_int (fun _ _ => rfl)) pe_int (fun _ _ => rfl)) (pa_cons pe_int pa_nil)))))))
        (pss_one ps_never)
        pss_nil)
        (C8.pss_cut (ps_for PassesOwn.never rfl (pi_range1 rfl T.no_range (pa_cons (pe_callB call_len rfl T.no_len boot_len (pa_cons (pv 1) pa_nil)) pa_nil)) (pg_name (i := 3) nd rfl (by first | exact Or.inl rfl | exact Or.inr rfl))
        (pss_cons (ps_asg (pe_ix (r := rIxL K) ix_list (pv 1) (pv 3) (fun _ _ => rfl)) (pg_tup rfl (pgs_cons (pg_name (i := 4) nd rfl (by first | exact Or.inl rfl | exact Or.inr rfl)) (pgs_cons (pg_name (i := 5) nd rfl (by first | exact Or.inl rfl | exact Or.inr rfl)) (pgs_cons (pg_name (i := 6) nd rfl (by first | exact Or.inl rfl | exact Or.inr rfl)) pgs_nil)))))
        (pss_cons (ps_if (pt_not (pt_val (pe_c k_law_put hr (pa_cons (pv 2) (pa_cons (pe_ix (r := rIxL K) ix_list (pv 1) (pv 3) (fun _ _ => rfl)) pa_nil)))))
        (pss_one ps_never)
        pss_nil)
        (C8.pss_cut (ps_set (i := 7) nd rfl (by first | exact Or.inl rfl | exact Or.inr rfl) (pe_callB (call_max2 rfl) rfl T.no_max boot_max (pa_cons pe_int (pa_cons (pe_callB (call_min2 rfl) rfl T.no_min boot_min (pa_cons pe_int (pa_cons (pe_op op_sub (pe_op op_add (pv 4) (pe_c k_law_draw hr (pa_cons (pv 0) (pa_cons (pv 3) (pa_cons pe_int pa_nil))))) pe_int) pa_nil))) pa_nil))))
        (pss_one (ps_for PassesOwn.never rfl (pi_tup (pe_tup (pa_cons (pv 4) (pa_cons (pv 7) pa_nil)))) (pg_name (i := 8) nd rfl (by first | exact Or.inl rfl | exact Or.inr rfl))
        (pss_one (ps_if (pt_not (pt_val (pe_c k_law_told hr (pa_cons (pv 2) (pa_cons (pe_slice sl_list (pv 1) po_none (po_some (pe_op op_add (pv 3) pe_int))) (pa_cons (pv 8) (pa_cons (pv 5) pa_nil)))))))
        (pss_one ps_never)
        pss_nil))))))))
        (C8.pss_cut (ps_set (i := 9) nd rfl (by first | exact Or.inl rfl | exact Or.inr rfl) (pe_ix (r := rIxL K) ix_list (pe_lc (own := [("_law_one", 10)]) (g := (gName 10)) rfl nd (pi_tup (pe_tup (pa_cons pe_int (pa_cons pe_int pa_nil)))) (blkOk_by (N := nm_law) (sc := defScope s_law) (by decide +kernel)) (fun _ _ _ _ _ => (pg_name (i := 10) nd rfl (by first | exact Or.inl rfl | exact Or.inr rfl))) (fun _ _ _ _ _ => (pts_one (pt_cmpR (r := rIn K true) op_notIn_seq (pv 10) (pe_lc (own := [("_law_deed", 11)]) rfl nd (g := (gName 11)) (wi := iList K (tVar 1)) (pi_list (pv 1)) (blkOk_by (N := nm_law) (by kernel_rfl)) (fun _ _ _ _ _ => (pg_name (i := 11) nd rfl (by first | exact Or.inl rfl | exact Or.inr rfl))) (fun _ _ _ _ _ => pts_nil) (fun _ _ _ _ _ => (pe_ix (r := rIxT K) ix_tup (pv 11) pe_int (fun _ _ => rfl)))) (by rfl)))) (fun _ _ _ _ _ => (pv 10))) pe_int (fun _ _ => rfl)))
        (pss_one (ps_ret (pe_and (pe_c k_law_told hr (pa_cons (pv 2) (pa_cons (pv 1) (pa_cons pe_int (pa_cons pe_int pa_nil))))) (pe_one (pe_cmpR (op_eqD hr.units) (pe_mt hr (pv 2) (pa_cons (pv 9) pa_nil)) (pe_lst pa_nil) (nomark _))))))))))), ?_⟩
    have hs : Scr K H a ns := ⟨hsq, hns⟩
    refine ⟨_, rfl, a, ns, rfl, hs, fun D xs ds m H1 s1 nD hD dd d0 d1 good hnum => ?_⟩
    -- the roll
    refine ⟨fun σ G => ∃ (p l : Addr), Same H1 G ∧ H1 p = none ∧ H1 l = none ∧ RollAt K G p l [] ∧ σ = [some (.ref a), some (.ref D), some (.ref p), none, none, none, none, none, none, none, none, none], ?_, ?_⟩
    · refine ⟨_, rfl, a, ns, rfl, hs.keep s1, fun cv c H2 s2 hc => ?_⟩
      refine ⟨_, rfl, a, ns, rfl, hs.keep (s1.trans s2), fun g H3 s3 g0 g1 => ?_⟩
      intro x d nx nd nex
      obtain ⟨G2, e2, t2, hd⟩ := upd_abs H3 d (.own x) nd
      rw [e2]
      have nx2 : G2 x = none := by rw [← e2, upd_ne nex.symm]; exact nx
      obtain ⟨G3, e3, t3, hx⟩ := upd_abs G2 x (.ins (He.ga K "Roll") d []) nx2
      rw [e3]
      have s13 := s2.trans (s3.trans (t2.trans t3))
      refine ⟨x, d, cv, c, g, rfl, hx, hc.keep (s3.trans (t2.trans t3)), ⟨g0, g1⟩, fun l G4 b4 nl hR => ⟨rfl, ?_⟩⟩
      have nx1 : H1 x = none := (s2.trans s3).free nx
      exact ⟨x, l, fun b o hb => b4 _ _ (s13 _ _ hb) (ne_of_none hb nx1), nx1, s13.free nl, hR, rfl⟩
    rintro σ G ⟨p, l, s2, np, nl, hR, rfl⟩
    have hxl : xs.length = ds.length := paired_len dd
    have day : ∀ d ∈ ds, 0 ≤ d.at_ ∧ d.at_ ≤ 999999 := fun d hd => by
      obtain ⟨i, hi⟩ := List.mem_iff_getElem?.mp hd
      exact (good i d hi).1
    -- asked at first
    refine ⟨fun σ G' => Same G G' ∧ σ = [some (.ref a), some (.ref D), some (.ref p), none, none, none, none, none, none, none, none, none], ?_, ?_⟩
    · refine ⟨_, rfl, Nat.zero_le _, fun e ne => ?_⟩
      obtain ⟨G1, e1, t1, he⟩ := upd_abs G e (.lst []) ne
      rw [e1]
      obtain ⟨x0, hx0⟩ : ∃ x0, xs[0]? = some x0 := ⟨_, List.getElem?_eq_getElem (by omega)⟩
      obtain ⟨d', hd', t, rv, rfl, ht, ho⟩ := paired_at dd hx0
      have s2' := s2.trans t1
      refine ⟨_, rfl, D, _, _, _, rfl, rfl, SqL.of (s2' _ _ hD), atI_nat (j := 0) hx0, t, _, _, _, rfl, rfl, SqT.of (s2' _ _ ht), atI_nat (j := 0) rfl, ?_⟩
      refine ⟨p, l, e, [], d'.at_, 1, [], rfl, hR.keep t1, he, .nil, (by decide), (fun _ h => nomatch h), day d' (List.mem_of_getElem? hd'), fun G2 t2 => ?_⟩
      exact ⟨_, rfl, iteF ⟨t1.trans t2, rfl⟩⟩
    rintro σ G1 ⟨s3, rfl⟩
    have s23 := s2.trans s3
    -- deed by deed
    refine ⟨fun σ G => Same H1 G ∧ RollAt K G p l ds ∧ ∃ (v3 v4 v5 v6 v7 v8 : Option V), σ = [some (.ref a), some (.ref D), some (.ref p), v3, v4, v5, v6, v7, v8, none, none, none], ?_, ?_⟩
    · refine ⟨_, rfl, .ref D, _, rfl, .inl ⟨_, SqL.of (s23 _ _ hD), rfl⟩, _, rfl, by omega, by omega, ?_⟩
      have eJ : ((xs.length : Nat) : Int).toNat = ds.length := by rw [hxl]; exact Int.toNat_natCast _
      rw [eJ]
      refine for_range (lo := 0) (n := ds.length) (fun i σ G => Same H1 G ∧ RollAt K G p l (ds.take i) ∧ ∃ (v3 v4 v5 v6 v7 v8 : Option V), σ = [some (.ref a), some (.ref D), some (.ref p), v3, v4, v5, v6, v7, v8, none, none, none])
        ⟨s23, hR.keep s3, none, none, none, none, none, none, rfl⟩ ?_ ?_
      · rintro i σ G hi ⟨sG, hRG, v3, v4, v5, v6, v7, v8, rfl⟩
        obtain ⟨x, hx⟩ : ∃ x, xs[i]? = some x := ⟨_, List.getElem?_eq_getElem (by omega)⟩
        obtain ⟨d, hd, t, rv, rfl, ht, ho⟩ := paired_at dd hx
        have hat : atI xs (0 + (i : Int)) = some (.ref t) := by rw [Int.zero_add]; exact atI_nat hx
        have hdm := List.mem_of_getElem? hd
        obtain ⟨g1, g2, g3, g4, g5⟩ := good i d hd
        refine ⟨_, rfl, _, rfl, D, _, _, _, rfl, rfl, SqL.of (sG _ _ hD), hat, t, _, rfl, SqT.of (sG _ _ ht), rfl, _, _, rfl, _, _, rfl, _, _, rfl, rfl, ?_⟩
        have ilen : (ds.take i).length ≤ 40 := by rw [List.length_take]; omega
        refine ⟨_, rfl, _, rfl, _, rfl, D, _, _, _, rfl, rfl, SqL.of (sG _ _ hD), hat, p, l, .ref t, d, ds.take i, rfl, hRG, ⟨t, rv, rfl, sG _ _ ht, ho.keep sG.tups⟩, by omega, g1, g2, g3, g4, g5, fun G2 b2 hR2 => ⟨_, rfl, iteF ?_⟩⟩
        have sG2 : Same H1 G2 := fun b o hb => b2 _ _ (sG _ _ hb) (ne_of_none hb nl)
        rw [← take_succ_at hd] at hR2
        -- another day
        refine ⟨fun σ G' => G' = G2 ∧ ∃ o : Int, (0 ≤ o ∧ o ≤ 999999) ∧ σ = [some (.ref a), some (.ref D), some (.ref p), some (.int (0 + i)), some (.int d.at_), some (.int d.num), some rv, some (.int o), v8, none, none, none], ?_, ?_⟩
        · refine ⟨_, rfl, _, rfl, _, rfl, a, ns, 0 + i, 30, rfl, hs.keep (s1.trans sG2), ⟨by omega, by omega⟩, (by decide), fun z z0 z1 => ?_⟩
          refine ⟨_, _, rfl, rfl, _, _, rfl, rfl, _, _, rfl, _, _, rfl, rfl, _, ?_, rfl⟩
          split <;> (try split) <;> omega
        rintro σ G' ⟨rfl, o, ho01, rfl⟩
        refine ⟨_, rfl, _, rfl, (by show 2 ≤ sizeLine; decide), fun U nU => ?_⟩
        obtain ⟨G3, e3, t3, hU⟩ := upd_abs G' U (.tup [.int d.at_, .int o]) nU
        rw [e3]
        refine ⟨U, rfl, ⟨_, SqT.of hU⟩, ?_⟩
        refine for_tup (K := K) (a := U) (xs := [.int d.at_, .int o]) (fun j σ G => Same G3 G ∧ ∃ v8 : Option V, σ = [some (.ref a), some (.ref D), some (.ref p), some (.int (0 + i)), some (.int d.at_), some (.int d.num), some rv, some (.int o), v8, none, none, none])
          ⟨Same.refl _, _, rfl⟩ (fun j σ G _ h => SqT.of (h.1 _ _ hU)) ?_ ?_
        · rintro j y σ G4 hj ⟨t4, v8', rfl⟩
          obtain ⟨k, rfl, kb⟩ : ∃ k : Int, y = .int k ∧ (0 ≤ k ∧ k ≤ 999999) := by
            have hy := List.mem_of_getElem? hj
            rcases List.mem_cons.mp hy with h | h
            · exact ⟨_, h, g1⟩
            · exact ⟨_, List.mem_singleton.mp h, ho01⟩
          have s4 := sG2.trans (t3.trans t4)
          refine ⟨_, rfl, _, rfl, ?_⟩
          have ec : cutV xs none (some (0 + (i : Int) + 1)) = xs.take (i + 1) := by
            have e : (0 + (i : Int) + 1) = ((i + 1 : Nat) : Int) := by omega
            rw [e]
            exact cut_take xs (by omega)
          refine ⟨_, rfl, _, _, rfl, rfl, _, rfl, D, xs, rfl, SqL.of (s4 _ _ hD), fun W nW => ?_⟩
          obtain ⟨G6, e6, t6, hW⟩ := upd_abs G4 W (.lst (cutV xs none (some (0 + (i : Int) + 1)))) nW
          rw [e6]
          rw [ec] at hW
          refine ⟨_, rfl, _, rfl, p, l, W, xs.take (i + 1), k, d.num, ds.take (i + 1), rfl, hR2.keep (t3.trans (t4.trans t6)), hW, paired_take (i + 1) (dd.keep (s4.trans t6).tups), ?_, ?_, kb, fun G7 t7 => ?_⟩
          · rw [List.length_take]
            omega
          · exact fun e he => RowsOk.of good e (List.mem_of_mem_take he)
          · exact ⟨_, rfl, iteF ⟨t4.trans (t6.trans t7), _, rfl⟩⟩
        · rintro σ G4 ⟨t4, v8', rfl⟩
          exact ⟨sG2.trans (t3.trans t4), hR2.keep (t3.trans t4), _, _, _, _, _, _, rfl⟩
      · rintro σ G ⟨sG, hRG, v3, v4, v5, v6, v7, v8, rfl⟩
        rw [List.take_length] at hRG
        exact ⟨sG, hRG, _, _, _, _, _, _, rfl⟩
    rintro σ G2 ⟨sG, hRG, v3, v4, v5, v6, v7, v8, rfl⟩
    -- a number never put
    refine ⟨fun σ G => ∃ n : Int, n ∉ ds.map (·.num) ∧ Same G2 G ∧ σ = [some (.ref a), some (.ref D), some (.ref p), v3, v4, v5, v6, v7, v8, some (.int n), none, none], ?_, ?_⟩
    · refine ⟨(by show 2 ≤ sizeLine; decide), fun U nU => ?_⟩
      obtain ⟨G3, e3, t3, hU⟩ := upd_abs G2 U (.tup [.int 4, .int 5]) nU
      rw [e3]
      refine ⟨U, rfl, ⟨_, SqT.of hU⟩, fun W nW => ?_⟩
      refine lc_tup (K := K) (a := U) (xs := [.int 4, .int 5]) (fun i G => Same G3 G ∧ G W = some (.lst (((([4, 5] : List Int).take i).filter (nv ds)).map V.int))) ⟨same_upd nW, upd_same⟩ (fun i G _ h => SqT.of (h.1 _ _ hU)) ?_ ?_
      · rintro j y G4 hj ⟨t4, hW⟩
        have hj' : (([4, 5] : List Int).map V.int)[j]? = some y := hj
        rw [List.getElem?_map] at hj'
        obtain ⟨n, hn, rfl⟩ := Option.map_eq_some_iff.mp hj'
        have s4 := sG.trans (t3.trans t4)
        refine ⟨rfl, ?_⟩
        refine ⟨_, rfl, _, rfl, D, rfl, ⟨_, SqL.of (s4 _ _ hD)⟩, fun Z nZ => ?_⟩
        refine lc_list (K := K) (a := D) (xs := xs) (fun i G => Same G4 G ∧ G Z = some (.lst ((((ds.take i).map (·.num)).map V.int)))) ⟨same_upd nZ, upd_same⟩ (fun i G _ h => (s4.trans h.1).seq (SqL.of hD)) ?_ ?_
        · rintro q x G5 hq ⟨t5, hZ⟩
          obtain ⟨e, he, t, rv, rfl, ht, ho⟩ := paired_at dd hq
          refine ⟨rfl, ?_⟩
          refine ⟨_, rfl, t, _, _, _, rfl, rfl, SqT.of ((s4.trans t5) _ _ ht), atI_nat (j := 1) rfl, _, hZ, ?_, ?_, ?_⟩
          · rw [List.length_map, List.length_map, List.length_take, sizeLine_eq]
            omega
          · exact t5.upd nZ
          · rw [upd_same, take_succ_at he, List.map_append, List.map_append]
            rfl
        · rintro G5 ⟨t5, hZ⟩
          rw [hxl, List.take_length] at hZ
          refine ⟨Z, _, rfl, .inl (SqL.of hZ), rfl, flat_ints _, _, rfl, ?_⟩
          refine ite2 (fun c => ?_) (fun c => ?_)
          · refine ⟨_, rfl, _, t5 _ _ hW, ?_, (t4.trans t5).upd nW, ?_⟩
            · rw [List.length_map, sizeLine_eq]
              have a1 := List.length_filter_le (nv ds) (([4, 5] : List Int).take j)
              rw [List.length_take] at a1
              have a2 : ([4, 5] : List Int).length = 2 := rfl
              omega
            · rw [upd_same, take_succ_at hn, List.filter_append, List.filter_cons_of_pos (show nv ds n = true from c), List.map_append]
              rfl
          · refine ⟨t4.trans t5, ?_⟩
            rw [take_succ_at hn, List.filter_append, List.filter_cons_of_neg (show ¬ nv ds n = true from c), List.filter_nil, List.append_nil]
            exact t5 _ _ hW
      · rintro G4 ⟨t4, hW⟩
        obtain ⟨n, h0, hn⟩ := never_num hnum
        exact ⟨W, _, _, _, rfl, rfl, SqL.of hW, atI_nat (j := 0) (by
          rw [List.getElem?_map]
          exact congrArg (Option.map V.int) h0), n, hn, t3.trans t4, rfl⟩
    rintro σ G3 ⟨n, hn, t3, rfl⟩
    have s3' := sG.trans t3
    have hR3 := hRG.keep t3
    refine ⟨_, rfl, _, rfl, p, l, D, xs, 999999, 20, ds, rfl, hR3, s3' _ _ hD, dd.keep s3'.tups, by omega, RowsOk.of good, ⟨by decide, by decide⟩, fun G4 t4 => ?_⟩
    refine ⟨_, rfl, iteT ?_⟩
    obtain ⟨dx, b, zs, hp, hl, dr⟩ := id (hR3.keep t4)
    refine ⟨_, rfl, _, spHistory K, p, dx, _, rfl, hp, (met_history T).mono (by decide), rfl, _, rfl, p, l, n, ds, rfl, hR3.keep t4, by omega, RowsOk.of good, fun R ys G5 t5 nR hR5 pr => ?_⟩
    have hh : hist n ds = [] := by
      cases z : hist n ds with
      | nil => rfl
      | cons e r =>
        have he : e ∈ hist n ds := by rw [z]; exact List.mem_cons_self
        unfold hist at he
        obtain ⟨d, hd, _⟩ := List.mem_map.mp he
        obtain ⟨h1, h2⟩ := List.mem_filter.mp hd
        exact absurd (List.mem_map.mpr ⟨d, h1, by simpa using h2⟩) hn
    rw [hh] at pr
    cases pr
    refine ⟨Nat.zero_le _, fun e ne => ?_⟩
    obtain ⟨G6, e6, t6, he⟩ := upd_abs G5 e (.lst []) ne
    rw [e6]
    refine ⟨.list [], .list [], dp_nil (t6 _ _ hR5), dp_nil he, sm_nil.shaped (by decide), sm_nil.shaped (by decide), ?_⟩
    rw [eqv_nil]
    exact q G6
end
end Lr

set_option maxHeartbeats 0
/-! The head: the top run in the kernel, its facts. -/
namespace Lr
open PySem PySem.Spec PyProof.Rows L2
abbrev Rw : PySem.W.OpenRow := PySem.W.OpenLaw.row PySem.Challenge.rw_loanroll_k81_what_stands
def rt0 : List Nat := [2, 3, 68, 365, 372, 459, 487, 520, 553, 562, 600, 628, 647, 666, 685, 704, 723, 749, 768, 787, 820, 829, 836, 843, 850, 857, 864, 874, 881, 983, 1066, 1077, 1084, 1091, 1098, 1105, 1112, 1119, 1124, 1131]
def rt1 : List Nat := [1136, 1143, 1150, 1157, 1164, 1171, 1176, 1181, 67, 364, 371, 458, 486, 519, 552, 561, 599, 627, 646, 665, 684, 703, 722, 748, 767, 786, 819, 828, 835, 842, 849, 856, 863, 873, 880, 982, 1065, 1076, 1083, 1090]
def rt2 : List Nat := [1097, 1104, 1111, 1118, 1123, 1130, 1135, 1142, 1149, 1156, 1163, 1170, 1175, 1180, 428, 477, 503, 536, 576, 590, 597, 618, 625, 644, 663, 682, 701, 720, 739, 746, 765, 784, 803, 810, 817, 893, 1001, 1008, 1015, 1022]
def rt3 : List Nat := [1029, 1034, 1039, 1058, 1063, 427, 476, 502, 535, 575, 589, 596, 617, 624, 643, 662, 681, 700, 719, 738, 745, 764, 783, 802, 809, 816, 892, 1000, 1007, 1014, 1021, 1028, 1033, 1038, 1057, 1062]
/-- where the facts stand: the addresses that the facts look at -/
def rootsM : List Addr := rt0 ++ (rt1 ++ (rt2 ++ (rt3)))
abbrev AlM : Type := He.AlD × Bool
def obsM (g : Addr → Option Obj) : AlM := (He.obsD fa fn (He.frG g (rootsM)), ex (He.frG g (rootsM)))
def valM : AlM := (He.valD fn, true)
def hookM : PySem.W.Hook where
  α := AlM
  obs := fun s => obsM s.heap.get?
  val := fun _ => valM
  says := fun _ h => ∃ K : PySem.W.Frag, K.In h ∧ He.SaysD fa fn K ∧ ex K = true
  of := fun _ _ e => ⟨_, He.frG_in, congrArg (fun z : AlM => z.1) e, congrArg (fun z : AlM => z.2) e⟩
  keeps := fun _ _ _ ⟨K, hK, c⟩ k => ⟨K, PySem.W.Frag.In.keeps hK k, c⟩
def obT (s : PySem.W.SharedT) : AlM := obsM (HandSHeadRun.getT s)
theorem obT_eq (s : PySem.W.SharedT) : obT s = hookM.obs s.abs := by
  have e : HandSHeadRun.getT s = s.abs.heap.get? := funext fun a => HandSHeadRun.getT_eq s a
  show obsM (HandSHeadRun.getT s) = obsM s.abs.heap.get?
  rw [e]
def loose0 : List PySem.Str := ["_wall", "total_to", "handed", "asked", "behind", "table_of", "value_at", "joined", "stands", "moved", "breaks", "charge", "Debt", "late_days", "charged", "sum_on", "deeds_on", "do_deeds", "days_to", "account", "LoanError", "NoDay", "NoCount", "NoTerms", "TooMany", "Back", "NoNumber", "BadEntry", "FIRST_YEAR", "LAST_DAY"]
def loose1 : List PySem.Str := ["LENGTHS", "is_whole", "is_day", "is_leap", "month_days", "leap_years", "year_begins", "year_of", "date_of", "SHARES", "Count", "Bank", "Thirty", "Exact", "count_named", "MOST", "MOST_RATE", "LAST_END", "Entry", "Sum", "Out", "Fee", "Pay", "Due", "Turn", "Yearly", "Rate", "Late", "Still", "is_between"]
def loose2 : List PySem.Str := ["is_tail", "size_of", "made_of", "entry_of", "sum_by", "days_of", "MOST_ENTRIES", "MOST_GRACE", "told_as", "dues_of", "Book", "MOST_NUMBER", "MOST_DEEDS", "Roll", "_law_draw", "_law_cell", "_law_draws", "_law_pick", "_law_whole", "_law_row", "_law_made", "_law_stands", "_law_base", "_law_deeds", "_law_rows", "_law_count", "_law_grace", "_law_put", "_law_past", "_law_told"]
def loose : List PySem.Str := loose0 ++ (loose1 ++ (loose2))
theorem run (w : World) : HandSHeadRun.RunEq Rw (PySem.W.view Rw.prog [103]) hookM obT 10100 loose w := by
  intro os
  kernel_rfl
end Lr

set_option maxHeartbeats 0
open PySem PySem.W PySem.Calls PyProof.Rows
theorem PySem.Challenge.cw_loanroll_k81_what_stands_holds : PySem.Challenge.rw_loanroll_k81_what_stands.Holds := by
  w_on; o_law
  refine HandSHeadRun.head_any (r := Lr.Rw) (q := view Lr.Rw.prog [103]) (H := Lr.hookM) (ob := Lr.obT) (M := 10100) (loose := Lr.loose) (d := HandSHeadRun.topDef Lr.Rw.prog 103) (kwd := []) Lr.obT_eq
    (by kernel_rfl) (fun s => by kernel_rfl) Lr.run (by kernel_rfl) (by kernel_rfl) (by kernel_rfl) (by rfl) (by first | assumption | decide +kernel) (by decide +kernel) ⟨rfl, rfl, rfl, rfl, rfl, by decide +kernel⟩ ?hw ?hc
  case hw => w_witness2
  case hc =>
    refine L2.walk_ofE (l := PySem.Challenge.rw_loanroll_k81_what_stands) (n := 63) (k := 9) (x := "_law_script") (CX := L2.CX0) rfl (by decide) (by kernel_rfl) ⟨rfl, by decide, by decide⟩ ?F (fun _ _ _ _ z => z)
    intro w mg fa h Y G hmg0
    obtain ⟨K, KX, c, x⟩ := Y
    have hmg : mg ("law" : PySem.Str) = some (.ref fa) := by
      have e : (HandSHeadRun.topDef Lr.Rw.prog 103).name = ("law" : PySem.Str) := by kernel_rfl
      rw [← e]
      exact hmg0
    have T : Lr.Txt K mg := ⟨⟨h, KX, G⟩, c, x⟩
    have ea : fa = He.ga K "law" := by
      have e := hmg.symm.trans T.mg_law
      cases e
      rfl
    subst ea
    obtain ⟨fd, F⟩ := T.fn_law
    exact ⟨K, fd, Lr.spLaw K, KX, fun s v => L2.FunD.bindsA (ps := ["_law_script"]) F (fun _ _ _ _ _ _ us hl => match us, hl with | [_], _ => rfl) s [v] rfl, fun H a ns hl _ hS => ⟨a, ns, rfl, hS, hl, fun _ => rfl⟩, fun base _ _ => Lr.ok_law T F⟩

