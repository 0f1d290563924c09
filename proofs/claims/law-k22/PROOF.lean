import PyProof.Rows.All
import Wide.All
import OpenK.AllK
import Wide.FinOn
import HandS.ForMost
import HandS.Wide
import HandS.Defaults
import HandS.More
import HandS.Exc
import HandS.Flow
import HandS.IsInst
import HandS.Deep
import HandS.NoneIn
import HandS.SetKeys
import HandS.Zip
import HandS.DictComp
import HandS.TupAny
import HandS.WideBits
import HandS.Conv
import HandS.Strs
import HandS.Walk
import HandS.Evl
import KE.KStateDown
import Lean
import HandS.Base
import HandS.Call
import HandS.Ends
import HandS.Words
import HandS.WordsExc
import HandS.Head0
import HandS.Head1
import HandS.Head2
import HandS.HeadEnd
import HandS.HeadHook1
import HandS.HeadHook2
import HandS.OwnEq
import OpenK.KMeth
import PyProof.InstNe
import KE.IntBitsLaws
import KE.GoesMore
import KE.GoesEnum
import KE.GoesZip
import HandS.MapSum
import HandS.Sort
import PyProof.SumWalkG
import KE.KSortTupUse
import HandS.Set
import HandS.SetFor
import HandS.SetTxt0
import PySem.Challenge.RW_marktruly_k22_whole_no_marking_finds_mor
/-! part Head -/
set_option Elab.async false
set_option linter.all false
set_option maxRecDepth 100000
set_option maxHeartbeats 0
namespace MH
open PySem PySem.Spec PyProof.Rows L2
/-! ### the text by places -/
def top (i : Nat) : Stmt := PySem.Challenge.pw_marktruly_k22_whole_no_marking_finds_mor.main.body.getD i (.Pass ⟨0, 0, 0, 0⟩)
abbrev s_Changes___init : Stmt := inClass (top 10) 0
abbrev s_Changes_texts : Stmt := inClass (top 10) 2
abbrev s_Changes_of : Stmt := inClass (top 10) 3
abbrev s_Changes_readable : Stmt := inClass (top 10) 4
abbrev s_known : Stmt := top 11
abbrev s_greatest_divisor : Stmt := top 13
abbrev s_least_multiple : Stmt := top 14
abbrev s_power : Stmt := top 15
abbrev s_Share___init : Stmt := inClass (top 17) 0
abbrev s_Share___sub : Stmt := inClass (top 17) 2
abbrev s_Share___eq : Stmt := inClass (top 17) 4
abbrev s_Share_is_below : Stmt := inClass (top 17) 6
abbrev s_lesser_of : Stmt := top 18
abbrev s_at_most_one : Stmt := top 19
abbrev s_Packing___init : Stmt := inClass (top 21) 0
abbrev s_Packing_table : Stmt := inClass (top 21) 1
abbrev s_Solver___init : Stmt := inClass (top 22) 0
abbrev s_Solver_rising : Stmt := inClass (top 22) 1
abbrev s_Solver_bounding : Stmt := inClass (top 22) 2
abbrev s_Solver_exchange : Stmt := inClass (top 22) 3
abbrev s_Solver_told : Stmt := inClass (top 22) 4
abbrev s_Solver_price : Stmt := inClass (top 22) 5
abbrev s_solved : Stmt := top 23
abbrev s_worth : Stmt := top 24
abbrev s_best_row : Stmt := top 25
abbrev s_prices : Stmt := top 26
abbrev s_is_integer : Stmt := top 28
abbrev s_Table___init : Stmt := inClass (top 30) 0
abbrev s_Table_texts : Stmt := inClass (top 30) 1
abbrev s_Table_weight_of : Stmt := inClass (top 30) 2
abbrev s_Table_share_of : Stmt := inClass (top 30) 3
abbrev s_Machine___init : Stmt := inClass (top 31) 0
abbrev s_Machine_all_weights : Stmt := inClass (top 31) 1
abbrev s_Machine_texts : Stmt := inClass (top 31) 2
abbrev s_Machine_weight_of : Stmt := inClass (top 31) 3
abbrev s_Machine_share_of : Stmt := inClass (top 31) 4
abbrev s_Marking___init : Stmt := inClass (top 34) 0
abbrev s_Marking_texts : Stmt := inClass (top 34) 5
abbrev s_Marking_written_share : Stmt := inClass (top 34) 6
abbrev s_accused_by : Stmt := top 35
abbrev s_seen_at : Stmt := top 37
abbrev s_accused_weights : Stmt := top 38
abbrev s_accused_at : Stmt := top 39
abbrev s_check_written : Stmt := top 40
abbrev s_found_share : Stmt := top 41
abbrev s_gap : Stmt := top 42
abbrev s_law_integer : Stmt := top 44
abbrev s_law_gcd : Stmt := top 45
abbrev s_law_start : Stmt := top 46
abbrev s_law_draw : Stmt := top 47
abbrev s_law_wide : Stmt := top 48
abbrev s_law_is : Stmt := top 49
abbrev s_law_signs : Stmt := top 50
abbrev s_law_text : Stmt := top 51
abbrev s_law_texts : Stmt := top 52
abbrev s_law_weight : Stmt := top 53
abbrev s_law_pairs : Stmt := top 54
abbrev s_law_spec : Stmt := top 55
abbrev s_law_words : Stmt := top 56
abbrev s_law_source : Stmt := top 57
abbrev s_law_pool : Stmt := top 58
abbrev s_law_rows : Stmt := top 59
abbrev s_law_all : Stmt := top 60
abbrev s_law_pairs_are : Stmt := top 61
abbrev s_law_good : Stmt := top 62
abbrev s_law_under : Stmt := top 63
abbrev s_law_split : Stmt := top 64
abbrev s_law_small_source : Stmt := top 65
abbrev s_law_of : Stmt := top 66
abbrev s_law_accused : Stmt := top 67
abbrev s_law_sums : Stmt := top 68
abbrev s_law_row_total : Stmt := top 69
abbrev s_law_paper_cost : Stmt := top 70
abbrev s_law_level : Stmt := top 71
abbrev s_law_worth : Stmt := top 72
abbrev s_law_told : Stmt := top 73
abbrev s_law_body : Stmt := top 74
abbrev s_law : Stmt := top 75
abbrev mkD (a : Str × Option Str) (n q : Str) (s : Stmt) : He.DefD := ⟨a, n, q, defArgs s, defBody s, defScope s, [], []⟩
def fn : List He.DefD := [mkD ("Changes", some "__init__") "__init__" "Changes.__init__" s_Changes___init,
  mkD ("Changes", some "texts") "texts" "Changes.texts" s_Changes_texts,
  mkD ("Changes", some "of") "of" "Changes.of" s_Changes_of,
  mkD ("Changes", some "readable") "readable" "Changes.readable" s_Changes_readable,
  mkD ("known", none) "known" "known" s_known,
  mkD ("greatest_divisor", none) "greatest_divisor" "greatest_divisor" s_greatest_divisor,
  mkD ("least_multiple", none) "least_multiple" "least_multiple" s_least_multiple,
  mkD ("power", none) "power" "power" s_power,
  mkD ("Share", some "__init__") "__init__" "Share.__init__" s_Share___init,
  mkD ("Share", some "__sub__") "__sub__" "Share.__sub__" s_Share___sub,
  mkD ("Share", some "__eq__") "__eq__" "Share.__eq__" s_Share___eq,
  mkD ("Share", some "is_below") "is_below" "Share.is_below" s_Share_is_below,
  mkD ("lesser_of", none) "lesser_of" "lesser_of" s_lesser_of,
  mkD ("at_most_one", none) "at_most_one" "at_most_one" s_at_most_one,
  mkD ("Packing", some "__init__") "__init__" "Packing.__init__" s_Packing___init,
  mkD ("Packing", some "table") "table" "Packing.table" s_Packing_table,
  mkD ("Solver", some "__init__") "__init__" "Solver.__init__" s_Solver___init,
  mkD ("Solver", some "rising") "rising" "Solver.rising" s_Solver_rising,
  mkD ("Solver", some "bounding") "bounding" "Solver.bounding" s_Solver_bounding,
  mkD ("Solver", some "exchange") "exchange" "Solver.exchange" s_Solver_exchange,
  mkD ("Solver", some "told") "told" "Solver.told" s_Solver_told,
  mkD ("Solver", some "price") "price" "Solver.price" s_Solver_price,
  mkD ("_solved", none) "_solved" "_solved" s_solved,
  mkD ("worth", none) "worth" "worth" s_worth,
  mkD ("best_row", none) "best_row" "best_row" s_best_row,
  mkD ("prices", none) "prices" "prices" s_prices,
  mkD ("_is_integer", none) "_is_integer" "_is_integer" s_is_integer,
  mkD ("Table", some "__init__") "__init__" "Table.__init__" s_Table___init,
  mkD ("Table", some "texts") "texts" "Table.texts" s_Table_texts,
  mkD ("Table", some "weight_of") "weight_of" "Table.weight_of" s_Table_weight_of,
  mkD ("Table", some "share_of") "share_of" "Table.share_of" s_Table_share_of,
  mkD ("Machine", some "__init__") "__init__" "Machine.__init__" s_Machine___init,
  mkD ("Machine", some "all_weights") "all_weights" "Machine.all_weights" s_Machine_all_weights,
  mkD ("Machine", some "texts") "texts" "Machine.texts" s_Machine_texts,
  mkD ("Machine", some "weight_of") "weight_of" "Machine.weight_of" s_Machine_weight_of,
  mkD ("Machine", some "share_of") "share_of" "Machine.share_of" s_Machine_share_of,
  mkD ("Marking", some "__init__") "__init__" "Marking.__init__" s_Marking___init,
  mkD ("Marking", some "texts") "texts" "Marking.texts" s_Marking_texts,
  mkD ("Marking", some "written_share") "written_share" "Marking.written_share" s_Marking_written_share,
  mkD ("accused_by", none) "accused_by" "accused_by" s_accused_by,
  mkD ("seen_at", none) "seen_at" "seen_at" s_seen_at,
  mkD ("_accused_weights", none) "_accused_weights" "_accused_weights" s_accused_weights,
  mkD ("accused_at", none) "accused_at" "accused_at" s_accused_at,
  mkD ("_check_written", none) "_check_written" "_check_written" s_check_written,
  mkD ("found_share", none) "found_share" "found_share" s_found_share,
  mkD ("gap", none) "gap" "gap" s_gap,
  mkD ("_law_integer", none) "_law_integer" "_law_integer" s_law_integer,
  mkD ("_law_gcd", none) "_law_gcd" "_law_gcd" s_law_gcd,
  mkD ("_law_start", none) "_law_start" "_law_start" s_law_start,
  mkD ("_law_draw", none) "_law_draw" "_law_draw" s_law_draw,
  mkD ("_law_wide", none) "_law_wide" "_law_wide" s_law_wide,
  mkD ("_law_is", none) "_law_is" "_law_is" s_law_is,
  mkD ("_law_signs", none) "_law_signs" "_law_signs" s_law_signs,
  mkD ("_law_text", none) "_law_text" "_law_text" s_law_text,
  mkD ("_law_texts", none) "_law_texts" "_law_texts" s_law_texts,
  mkD ("_law_weight", none) "_law_weight" "_law_weight" s_law_weight,
  mkD ("_law_pairs", none) "_law_pairs" "_law_pairs" s_law_pairs,
  mkD ("_law_spec", none) "_law_spec" "_law_spec" s_law_spec,
  mkD ("_law_words", none) "_law_words" "_law_words" s_law_words,
  mkD ("_law_source", none) "_law_source" "_law_source" s_law_source,
  mkD ("_law_pool", none) "_law_pool" "_law_pool" s_law_pool,
  mkD ("_law_rows", none) "_law_rows" "_law_rows" s_law_rows,
  mkD ("_law_all", none) "_law_all" "_law_all" s_law_all,
  mkD ("_law_pairs_are", none) "_law_pairs_are" "_law_pairs_are" s_law_pairs_are,
  mkD ("_law_good", none) "_law_good" "_law_good" s_law_good,
  mkD ("_law_under", none) "_law_under" "_law_under" s_law_under,
  mkD ("_law_split", none) "_law_split" "_law_split" s_law_split,
  mkD ("_law_small_source", none) "_law_small_source" "_law_small_source" s_law_small_source,
  mkD ("_law_of", none) "_law_of" "_law_of" s_law_of,
  mkD ("_law_accused", none) "_law_accused" "_law_accused" s_law_accused,
  mkD ("_law_sums", none) "_law_sums" "_law_sums" s_law_sums,
  mkD ("_law_row_total", none) "_law_row_total" "_law_row_total" s_law_row_total,
  mkD ("_law_paper_cost", none) "_law_paper_cost" "_law_paper_cost" s_law_paper_cost,
  mkD ("_law_level", none) "_law_level" "_law_level" s_law_level,
  mkD ("_law_worth", none) "_law_worth" "_law_worth" s_law_worth,
  mkD ("_law_told", none) "_law_told" "_law_told" s_law_told,
  mkD ("_law_body", none) "_law_body" "_law_body" s_law_body,
  mkD ("law", none) "law" "law" s_law]
def fa : List He.Fa := [.glo "known", .glo "greatest_divisor", .glo "least_multiple", .glo "power", .glo "lesser_of", .glo "at_most_one", .glo "_solved", .glo "worth", .glo "best_row", .glo "prices", .glo "_is_integer", .glo "accused_by", .glo "seen_at", .glo "_accused_weights", .glo "accused_at", .glo "_check_written", .glo "found_share", .glo "gap", .glo "_law_integer", .glo "_law_gcd", .glo "_law_start", .glo "_law_draw", .glo "_law_wide", .glo "_law_is", .glo "_law_signs", .glo "_law_text", .glo "_law_texts", .glo "_law_weight", .glo "_law_pairs", .glo "_law_spec", .glo "_law_words", .glo "_law_source", .glo "_law_pool", .glo "_law_rows", .glo "_law_all", .glo "_law_pairs_are", .glo "_law_good", .glo "_law_under", .glo "_law_split", .glo "_law_small_source", .glo "_law_of", .glo "_law_accused", .glo "_law_sums", .glo "_law_row_total", .glo "_law_paper_cost", .glo "_law_level", .glo "_law_worth", .glo "_law_told", .glo "_law_body", .glo "law", .glo "Changes", .cls "Changes", .mkr "Changes", .noat "Changes" "kept", .glo "Share", .cls "Share", .mkr "Share", .noat "Share" "over", .noat "Share" "under", .glo "Packing", .cls "Packing", .mkr "Packing", .noat "Packing" "texts", .noat "Packing" "unit", .noat "Packing" "bounds", .noat "Packing" "level", .noat "Packing" "readable", .noat "Packing" "groups", .noat "Packing" "readers", .glo "Solver", .cls "Solver", .mkr "Solver", .noat "Solver" "rows", .noat "Solver" "divisor", .noat "Solver" "basis", .glo "Table", .cls "Table", .mkr "Table", .noat "Table" "weights", .noat "Table" "whole", .glo "Machine", .cls "Machine", .mkr "Machine", .noat "Machine" "alphabet", .noat "Machine" "start", .noat "Machine" "rows", .noat "Machine" "length", .noat "Machine" "unit", .noat "Machine" "whole", .noat "Machine" "weights", .glo "Marking", .cls "Marking", .mkr "Marking", .noat "Marking" "entries", .noat "Marking" "whole", .meth "Changes" "texts", .meth "Changes" "of", .meth "Changes" "readable", .meth "Share" "__sub__", .meth "Share" "__eq__", .meth "Share" "is_below", .meth "Packing" "table", .meth "Solver" "rising", .meth "Solver" "bounding", .meth "Solver" "exchange", .meth "Solver" "told", .meth "Solver" "price", .meth "Table" "texts", .meth "Table" "weight_of", .meth "Table" "share_of", .meth "Machine" "all_weights", .meth "Machine" "texts", .meth "Machine" "weight_of", .meth "Machine" "share_of", .meth "Marking" "texts", .meth "Marking" "written_share", .free "abs", .free "all", .free "bool", .free "enumerate", .free "int", .free "isinstance", .free "len", .free "list", .free "max", .free "min", .free "range", .free "set", .free "sorted", .free "str", .free "sum", .free "tuple", .free "zip", .glo "MarkError"]
def nm0 : List Str := ["_wall", "MarkError", "InvalidNumber", "InvalidPair", "InvalidKey", "UnknownText", "Seen", "Accuses", "Changes", "known", "greatest_divisor", "least_multiple", "power", "Share", "lesser_of", "at_most_one", "Packing", "Solver", "_solved", "worth"]
def nm1 : List Str := ["best_row", "prices", "_is_integer", "_text_at", "Table", "Machine", "_is_below", "Marking", "accused_by", "seen_at", "_accused_weights", "accused_at", "_check_written", "found_share", "gap", "_law_integer", "_law_gcd", "_law_start", "_law_draw", "_law_wide"]
def nm2 : List Str := ["_law_is", "_law_signs", "_law_text", "_law_texts", "_law_weight", "_law_pairs", "_law_spec", "_law_words", "_law_source", "_law_pool", "_law_rows", "_law_all", "_law_pairs_are", "_law_good", "_law_under", "_law_split", "_law_small_source", "_law_of", "_law_accused", "_law_sums"]
def nm3 : List Str := ["_law_row_total", "_law_paper_cost", "_law_level", "_law_worth", "_law_told", "_law_body"]
def names : List Str := nm0 ++ nm1 ++ nm2 ++ nm3
abbrev R : PySem.W.OpenRow := PySem.W.OpenLaw.row PySem.Challenge.rw_marktruly_k22_whole_no_marking_finds_mor
/-- the addresses that the facts are read from: the module's names, what they name, the classes' own names, the code objects -/
def fnAs (g : Addr → Option Obj) (a : Addr) : List Addr := a :: match g a with
  | some ⟨_, _, .func fd, _⟩ => He.refV fd.code
  | _ => []
def clAs (g : Addr → Option Obj) (a : Addr) : List Addr := match g a with
  | some ⟨_, _, .cls cd, _⟩ => a :: cd.ns :: (match g cd.ns with
    | some ⟨_, _, .dict es _, _⟩ => es.toList.flatMap fun e => (He.refV e.val).flatMap (fnAs g)
    | _ => [])
  | _ => fnAs g a
def asM (g : Addr → Option Obj) : List Addr := mainGlobals :: match g mainGlobals with
  | some ⟨_, _, .dict es _, _⟩ => es.toList.flatMap fun e => (He.refV e.val).flatMap (clAs g)
  | _ => []
/-- further facts of the class Share: its ==, that its != is the object's, its __class__ -/
def exB (K : PySem.W.Frag) : Bool := PySem.W.selfFirst K (He.ga K "Share") && (decide (PySem.W.findIn K (.ref (He.ga K "Share")) "__ne__" = some (some (.builtin "object.__ne__"))) &&
  (decide (PySem.W.mroIn K (He.ga K "Share") (.type "object") = some true) && (decide (PySem.W.findIn K (.ref (He.ga K "Share")) "__class__" = some (some (.builtin "object.__class__"))) &&
  (decide (PySem.W.specialIn K (.builtin "object.__class__") "__get__" = some (some (.builtin "getset_descriptor.__get__"))) && decide (PySem.W.takesIn K (.builtin "object.__class__") = some true)))))
def obsM (g : Addr → Option Obj) : He.AlD × Bool := (He.obsD fa fn (He.frG g (asM g)), exB (He.frG g (asM g)))
def hk : PySem.W.Hook where
  α := He.AlD × Bool
  obs := fun s => obsM s.heap.get?
  val := fun _ => (He.valD fn, true)
  says := fun _ h => ∃ K : PySem.W.Frag, K.In h ∧ He.SaysD fa fn K ∧ exB K = true
  of := fun _ _ e => ⟨_, He.frG_in, (Prod.mk.inj e).1, (Prod.mk.inj e).2⟩
  keeps := fun _ _ _ ⟨K, hK, c⟩ k => ⟨K, PySem.W.Frag.In.keeps hK k, c⟩
def ob (s : PySem.W.SharedT) : He.AlD × Bool := obsM (HandSHeadRun.getT s)
theorem ob_eq (s : PySem.W.SharedT) : ob s = hk.obs s.abs := by
  have e : HandSHeadRun.getT s = s.abs.heap.get? := funext (HandSHeadRun.getT_eq s)
  show obsM (HandSHeadRun.getT s) = obsM s.abs.heap.get?
  rw [e]
theorem run (w : World) : HandSHeadRun.RunEq R (PySem.W.view R.prog [75]) hk ob 6000 names w := by
  intro os
  kernel_rfl
end MH
/-! part W0 -/
set_option Elab.async false
set_option linter.all false
set_option maxRecDepth 100000
set_option maxHeartbeats 4000000
namespace MH
open PySem PySem.Spec PyProof.Rows L2
abbrev Fr := PySem.W.Frag
/-! ### defs, methods, makers as their callers see them -/
abbrev FnP (K : Fr) (nm q : Str) (st : Stmt) (f : Addr) (fd : FuncData) : Prop := FunD K nm q (defArgs st) (defBody st) (defScope st) [] [] f fd
section
variable (P : Program) (w : World) (K : Fr) (mg : Str → Option Value) (base : Heap)
/-- the module's name x is a def that keeps sp -/
def Cal (k : Nat) (x : Str) (ps : List Str) (sp : Sp) : Prop := ∃ f fd, FnOk P w K mg base CX0 k f fd ps sp ∧ mg x = some (.ref f) ∧ PySem.W.keepIn K (.ref f) = true ∧ Binds K fd ps []
/-- the class at C has a method m that keeps sp -/
def Met (k : Nat) (C : Addr) (m : Str) (ps : List Str) (sp : Sp) : Prop := ∃ f fd, FnOk P w K mg base CX0 k f fd ps sp ∧ Cls K C ∧ Meth K C m f ∧ Binds K fd ps []
/-- x(..) makes an instance of the class at C by an __init__ that keeps sp -/
def Mak (k : Nat) (x : Str) (C : Addr) (ps : List Str) (sp : Sp) : Prop := ∃ f fd, FnOk P w K mg base CX0 k f fd ps sp ∧ Mk K C f ∧ mg x = some (.ref C) ∧ Binds K fd ps []
end
/-- the promise hands over its arguments' number -/
def Ar (n : Nat) (sp : Sp) : Prop := ∀ vs H Q E, sp vs H Q E → vs.length = n
section
variable {X : Cx} {k : Nat} {x m : Str} {C : Addr} {ps : List Str} {sp : Sp} {p pos apos : Pos} {e o : Expr} {es : List Expr} {ta : TE} {t : TA}
theorem pe_cal (G : Cal X.prog X.w X.K X.mg X.base k x ps sp) (hr : Room k X.A) (ha : PA X (e :: es) t) (hg : Gl X x := by rfl)
    (hdb : (x == ("__debug__" : Str)) = false := by decide) (he : starEach (e :: es) X.env = (false, eval e X.env) :: starEach es X.env := by rfl) (hpl : (backTo pos (starEach es X.env)).any (·.1) = false := by rfl) :
    PE X (.Call (.Name x p) (e :: es) [] pos) (tCall sp [] E0 t) := by
  obtain ⟨f, fd, F, g, kp, b⟩ := G
  exact pe_call F hr hg g kp b .nil pass0 ha hdb he hpl
theorem pe_cal0 (G : Cal X.prog X.w X.K X.mg X.base k x ps sp) (hr : Room k X.A) (hg : Gl X x := by rfl) (hdb : (x == ("__debug__" : Str)) = false := by decide) :
    PE X (.Call (.Name x p) [] [] pos) (tCall sp [] E0 tNil) := by
  obtain ⟨f, fd, F, g, kp, b⟩ := G
  exact pe_call0 F hr hg g kp b .nil pass0 hdb
theorem pe_mak (G : Mak X.prog X.w X.K X.mg X.base k x C ps sp) (hr : Room (k + 1) X.A) (ha : PA X (e :: es) t) (hg : Gl X x := by rfl)
    (hdb : (x == ("__debug__" : Str)) = false := by decide) (he : starEach (e :: es) X.env = (false, eval e X.env) :: starEach es X.env := by rfl) (hpl : (backTo pos (starEach es X.env)).any (·.1) = false := by rfl) :
    PE X (.Call (.Name x p) (e :: es) [] pos) (tMake C sp [] E0 t) := by
  obtain ⟨f, fd, F, M, g, b⟩ := G
  exact pe_make M F hr hg g b .nil pass0 ha hdb he hpl
theorem pe_met {pl : Sem Bool} (G : Met X.prog X.w X.K X.mg X.base k C m ps sp) (hr : Room k X.A) (he : PE X o ta) (ha : PA X (e :: es) t)
    (hst : starEach (e :: es) X.env = (false, eval e X.env) :: starEach es X.env := by rfl) (hpl : (backTo pos (starEach es X.env)).any (·.1) = false := by rfl)
    (ht : eval (.Call (.Attribute o m apos) (e :: es) [] pos) X.env = (do
      let ov ← eval o X.env
      standAt apos.atName
      let (f, first) ← holding [ov] (getMethod ov m pl)
      callWith pos f first (backTo pos (starEach (e :: es) X.env)) (backToKw pos (keywordEach [] X.env))) := by rfl) :
    PE X (.Call (.Attribute o m apos) (e :: es) [] pos) (tMeth C m sp [] E0 ta t) := by
  obtain ⟨f, fd, F, c, M, b⟩ := G
  exact pe_meth he c M F hr b .nil pass0 ha hst hpl ht
theorem pe_met0 {pl : Sem Bool} (G : Met X.prog X.w X.K X.mg X.base k C m ps sp) (hr : Room k X.A) (he : PE X o ta)
    (ht : eval (.Call (.Attribute o m apos) [] [] pos) X.env = (do
      let ov ← eval o X.env
      standAt apos.atName
      let (f, first) ← holding [ov] (getMethod ov m pl)
      callWith pos f first (backTo pos (starEach [] X.env)) (backToKw pos (keywordEach [] X.env))) := by rfl) :
    PE X (.Call (.Attribute o m apos) [] [] pos) (tMeth C m sp [] E0 ta tNil) := by
  obtain ⟨f, fd, F, c, M, b⟩ := G
  exact pe_meth0 he c M F hr b .nil pass0 ht
/-- one of two readings -/
theorem pe_eor {t1 t2 : TE} (h1 : PE X e t1) (h2 : PE X e t2) : PE X e (fun σ H Q => t1 σ H Q ∨ t2 σ H Q) :=
  ⟨fun pins s σ H Q I h => h.elim (fun h => h1.run pins s σ H Q I h) fun h => h2.run pins s σ H Q I h⟩
end
section
variable {P : Program} {w : World} {K : Fr} {mg : Str → Option Value} {base : Heap}
/-- a def by its body -/
theorem fn_ok {N ps : List Str} {k : Nat} {sp : Sp} {nm q : Str} {st : Stmt} {f : Addr} {fd : FuncData} (F : FnP K nm q st f fd) (S : FnScope N ps (defScope st)) (len : Ar ps.length sp)
    (hbody : ∀ (cdv : Value) (A : Around) (outer : List Env) (s : Shared) (H : Hp) (vs : List V) (Q : VK) (E : XK), Room k (A.deeper (envOfC q (defScope st) s.heap.objs.size f cdv)) → sp vs H Q E →
      ∃ t, PSs (cxOf CX0 P w K mg base N q (defScope st) f cdv A outer s H E).nox (defBody st) t ∧ t { nx := fun _ H' => Q .non H', rt := Q } (start N vs) H) : FnOk P w K mg base CX0 (k + 1) f fd ps sp :=
  F.ok S len fun cdv A outer s H vs Q E hr h => by
    obtain ⟨t, a, b⟩ := hbody cdv A outer s H vs Q E hr h
    exact ⟨t, a.nox, b⟩
end

/-! ### what the top has left -/
structure Tx (K : Fr) (mg : Str → Option Value) : Prop where
  says : He.SaysD fa fn K
  ex : exB K = true
  ns : ∃ h : Heap, K.In h ∧ h.Ns mainGlobals mg
abbrev spx (n : Nat) (φ : Sp) : Sp := fun vs H Q E => vs.length = n ∧ φ vs H Q E
section
variable {P : Program} {w : World} {K : Fr} {mg : Str → Option Value} {base : Heap}
theorem Tx.g (T : Tx K mg) {x : Str} (j : Nat) (h : fa[j]? = some (.glo x)) : mg x = some (.ref (He.ga K x)) := by
  obtain ⟨hp, X, G⟩ := T.ns
  exact He.glo_ok X G (T.says.fact j h)
theorem Tx.fr (T : Tx K mg) {x : Str} (j : Nat) (h : fa[j]? = some (.free x)) : mg x = none := by
  obtain ⟨hp, X, G⟩ := T.ns
  exact He.free_ok X G (T.says.fact j h)
theorem Tx.na (T : Tx K mg) {c f : Str} (j : Nat) (h : fa[j]? = some (.noat c f)) : NoAttr K (He.ga K c) f := He.noat_ok (T.says.fact j h)
theorem Tx.cl (T : Tx K mg) {c : Str} (j : Nat) (h : fa[j]? = some (.cls c)) : Cls K (He.ga K c) := He.cls_ok (T.says.fact j h)
theorem Tx.me (T : Tx K mg) {c m : Str} (j : Nat) (h : fa[j]? = some (.meth c m)) : Meth K (He.ga K c) m (He.ma K (He.ga K c) m) := He.meth_ok (T.says.fact j h)
abbrev BodyOk (P : Program) (w : World) (K : Fr) (mg : Str → Option Value) (base : Heap) (N : List Str) (q : Str) (st : Stmt) (f : Addr) (k : Nat) (sp : Sp) : Prop :=
  ∀ (cdv : Value) (A : Around) (outer : List Env) (s : Shared) (H : Hp) (vs : List V) (Q : VK) (E : XK), Room k (A.deeper (envOfC q (defScope st) s.heap.objs.size f cdv)) → sp vs H Q E →
      ∃ t, PSs (cxOf CX0 P w K mg base N q (defScope st) f cdv A outer s H E).nox (defBody st) t ∧ t { nx := fun _ H' => Q .non H', rt := Q } (start N vs) H
abbrev BindOk (nm q : Str) (st : Stmt) (ps : List Str) : Prop :=
  ∀ (kV doc pm : Value) (an : Option Addr) (cdv ct : Value) (us : List Value), us.length = ps.length → bindArgs (PySem.W.fnOf nm q (defArgs st) (defBody st) (defScope st) .none kV doc pm an cdv ct) ⟨us, []⟩ = pure (ps.zip us)
theorem Tx.cal (T : Tx K mg) {x : Str} {st : Stmt} {N ps : List Str} {k : Nat} {sp : Sp} (i : Nat) (hi : fn[i]? = some (mkD (x, none) x x st)) (j : Nat) (hj : fa[j]? = some (.glo x)) (S : FnScope N ps (defScope st)) (len : Ar ps.length sp)
    (hb : BindOk x x st ps) (body : BodyOk P w K mg base N x st (He.ga K x) k sp) : Cal P w K mg base (k + 1) x ps sp := by
  obtain ⟨fd, F⟩ := T.says.def_ i hi
  exact ⟨_, fd, fn_ok F S len body, T.g j hj, F.kp, F.bindsN hb⟩
theorem Tx.met (T : Tx K mg) {c m q : Str} {st : Stmt} {N ps : List Str} {k : Nat} {sp : Sp} (i : Nat) (hi : fn[i]? = some (mkD (c, some m) m q st)) (j : Nat) (hj : fa[j]? = some (.cls c)) (j2 : Nat) (hj2 : fa[j2]? = some (.meth c m)) (S : FnScope N ps (defScope st)) (len : Ar ps.length sp)
    (hb : BindOk m q st ps) (body : BodyOk P w K mg base N q st (He.ma K (He.ga K c) m) k sp) : Met P w K mg base (k + 1) (He.ga K c) m ps sp := by
  obtain ⟨fd, F⟩ := T.says.def_ i hi
  exact ⟨_, fd, fn_ok F S len body, T.cl j hj, T.me j2 hj2, F.bindsN hb⟩
theorem Tx.mak (T : Tx K mg) {c q : Str} {st : Stmt} {N ps : List Str} {k : Nat} {sp : Sp} (i : Nat) (hi : fn[i]? = some (mkD (c, some "__init__") "__init__" q st)) (j : Nat) (hj : fa[j]? = some (.glo c)) (j2 : Nat) (hj2 : fa[j2]? = some (.mkr c)) (S : FnScope N ps (defScope st)) (len : Ar ps.length sp)
    (hb : BindOk "__init__" q st ps) (body : BodyOk P w K mg base N q st (He.ma K (He.ga K c) "__init__") k sp) : Mak P w K mg base (k + 1) c (He.ga K c) ps sp := by
  obtain ⟨fd, F⟩ := T.says.def_ i hi
  exact ⟨_, fd, fn_ok F S len body, He.mkr_ok (T.says.fact j2 hj2), T.g j hj, F.bindsN hb⟩
end
section
variable {K : Fr} {mg : Str → Option Value}
theorem Tx.g_Changes (T : Tx K mg) : mg "Changes" = some (.ref (He.ga K "Changes")) := T.g 50 rfl
theorem Tx.cl_Changes (T : Tx K mg) : Cls K (He.ga K "Changes") := T.cl 51 rfl
theorem Tx.n_Changes_kept (T : Tx K mg) : NoAttr K (He.ga K "Changes") "kept" := T.na 53 rfl
theorem Tx.g_Share (T : Tx K mg) : mg "Share" = some (.ref (He.ga K "Share")) := T.g 54 rfl
theorem Tx.cl_Share (T : Tx K mg) : Cls K (He.ga K "Share") := T.cl 55 rfl
theorem Tx.n_Share_over (T : Tx K mg) : NoAttr K (He.ga K "Share") "over" := T.na 57 rfl
theorem Tx.n_Share_under (T : Tx K mg) : NoAttr K (He.ga K "Share") "under" := T.na 58 rfl
theorem Tx.cl_Packing (T : Tx K mg) : Cls K (He.ga K "Packing") := T.cl 60 rfl
theorem Tx.n_Packing_texts (T : Tx K mg) : NoAttr K (He.ga K "Packing") "texts" := T.na 62 rfl
theorem Tx.n_Packing_unit (T : Tx K mg) : NoAttr K (He.ga K "Packing") "unit" := T.na 63 rfl
theorem Tx.n_Packing_bounds (T : Tx K mg) : NoAttr K (He.ga K "Packing") "bounds" := T.na 64 rfl
theorem Tx.n_Packing_level (T : Tx K mg) : NoAttr K (He.ga K "Packing") "level" := T.na 65 rfl
theorem Tx.n_Packing_readable (T : Tx K mg) : NoAttr K (He.ga K "Packing") "readable" := T.na 66 rfl
theorem Tx.n_Packing_groups (T : Tx K mg) : NoAttr K (He.ga K "Packing") "groups" := T.na 67 rfl
theorem Tx.n_Packing_readers (T : Tx K mg) : NoAttr K (He.ga K "Packing") "readers" := T.na 68 rfl
theorem Tx.cl_Solver (T : Tx K mg) : Cls K (He.ga K "Solver") := T.cl 70 rfl
theorem Tx.n_Solver_rows (T : Tx K mg) : NoAttr K (He.ga K "Solver") "rows" := T.na 72 rfl
theorem Tx.n_Solver_divisor (T : Tx K mg) : NoAttr K (He.ga K "Solver") "divisor" := T.na 73 rfl
theorem Tx.n_Solver_basis (T : Tx K mg) : NoAttr K (He.ga K "Solver") "basis" := T.na 74 rfl
theorem Tx.g_Table (T : Tx K mg) : mg "Table" = some (.ref (He.ga K "Table")) := T.g 75 rfl
theorem Tx.cl_Table (T : Tx K mg) : Cls K (He.ga K "Table") := T.cl 76 rfl
theorem Tx.n_Table_weights (T : Tx K mg) : NoAttr K (He.ga K "Table") "weights" := T.na 78 rfl
theorem Tx.n_Table_whole (T : Tx K mg) : NoAttr K (He.ga K "Table") "whole" := T.na 79 rfl
theorem Tx.g_Machine (T : Tx K mg) : mg "Machine" = some (.ref (He.ga K "Machine")) := T.g 80 rfl
theorem Tx.cl_Machine (T : Tx K mg) : Cls K (He.ga K "Machine") := T.cl 81 rfl
theorem Tx.n_Machine_alphabet (T : Tx K mg) : NoAttr K (He.ga K "Machine") "alphabet" := T.na 83 rfl
theorem Tx.n_Machine_start (T : Tx K mg) : NoAttr K (He.ga K "Machine") "start" := T.na 84 rfl
theorem Tx.n_Machine_rows (T : Tx K mg) : NoAttr K (He.ga K "Machine") "rows" := T.na 85 rfl
theorem Tx.n_Machine_length (T : Tx K mg) : NoAttr K (He.ga K "Machine") "length" := T.na 86 rfl
theorem Tx.n_Machine_unit (T : Tx K mg) : NoAttr K (He.ga K "Machine") "unit" := T.na 87 rfl
theorem Tx.n_Machine_whole (T : Tx K mg) : NoAttr K (He.ga K "Machine") "whole" := T.na 88 rfl
theorem Tx.n_Machine_weights (T : Tx K mg) : NoAttr K (He.ga K "Machine") "weights" := T.na 89 rfl
theorem Tx.cl_Marking (T : Tx K mg) : Cls K (He.ga K "Marking") := T.cl 91 rfl
theorem Tx.n_Marking_entries (T : Tx K mg) : NoAttr K (He.ga K "Marking") "entries" := T.na 93 rfl
theorem Tx.n_Marking_whole (T : Tx K mg) : NoAttr K (He.ga K "Marking") "whole" := T.na 94 rfl
theorem Tx.f_abs (T : Tx K mg) : mg "abs" = none := T.fr 116 rfl
theorem Tx.f_all (T : Tx K mg) : mg "all" = none := T.fr 117 rfl
theorem Tx.f_bool (T : Tx K mg) : mg "bool" = none := T.fr 118 rfl
theorem Tx.f_enumerate (T : Tx K mg) : mg "enumerate" = none := T.fr 119 rfl
theorem Tx.f_int (T : Tx K mg) : mg "int" = none := T.fr 120 rfl
theorem Tx.f_isinstance (T : Tx K mg) : mg "isinstance" = none := T.fr 121 rfl
theorem Tx.f_len (T : Tx K mg) : mg "len" = none := T.fr 122 rfl
theorem Tx.f_list (T : Tx K mg) : mg "list" = none := T.fr 123 rfl
theorem Tx.f_max (T : Tx K mg) : mg "max" = none := T.fr 124 rfl
theorem Tx.f_min (T : Tx K mg) : mg "min" = none := T.fr 125 rfl
theorem Tx.f_range (T : Tx K mg) : mg "range" = none := T.fr 126 rfl
theorem Tx.f_set (T : Tx K mg) : mg "set" = none := T.fr 127 rfl
theorem Tx.f_sorted (T : Tx K mg) : mg "sorted" = none := T.fr 128 rfl
theorem Tx.f_str (T : Tx K mg) : mg "str" = none := T.fr 129 rfl
theorem Tx.f_sum (T : Tx K mg) : mg "sum" = none := T.fr 130 rfl
theorem Tx.f_tuple (T : Tx K mg) : mg "tuple" = none := T.fr 131 rfl
theorem Tx.f_zip (T : Tx K mg) : mg "zip" = none := T.fr 132 rfl
end
/-! ### heaps -/
theorem new_ok {H : Hp} {o : HO} {Q : VK} (h : ∀ p H', H p = none → Same H H' → H' p = some o → Q (.ref p) H') : ∀ p, H p = none → Q (.ref p) (upd H p o) :=
  fun p np => h p _ np (fun b u e => by rw [upd_ne (ne_of_none e np)]; exact e) upd_same
theorem mut_ok {H : Hp} {l : Addr} {o : HO} {Q : Hp → Prop} (h : ∀ H', (∀ b, b ≠ l → H' b = H b) → H' l = some o → Q H') : Q (upd H l o) := h _ (fun b hb => upd_ne hb) upd_same
end MH
/-! part D1 -/
set_option Elab.async false
set_option linter.all false
set_option maxRecDepth 100000
set_option maxHeartbeats 4000000
namespace MH
open PySem PySem.Spec PyProof.Rows L2
section
variable {P : Program} {w : World} {K : Fr} {mg : Str → Option Value} {base : Heap}
/-! ### numbers -/
def sp_greatest_divisor : Sp := spx 2 fun vs H Q _ => ∃ a b : Nat, vs = [.int a, .int b] ∧ Q (.int (Nat.gcd a b : Nat)) H
theorem sc_greatest_divisor : FnScope ["a", "b"] ["a", "b"] (defScope s_greatest_divisor) := ⟨rfl, rfl, rfl, by decide +kernel, rfl, by decide +kernel, by decide +kernel⟩
theorem c_greatest_divisor (T : Tx K mg)  : Cal P w K mg base 1 "greatest_divisor" ["a", "b"] sp_greatest_divisor := by
  refine T.cal 5 rfl 1 rfl sc_greatest_divisor (fun _ _ _ _ h => h.1) (fun _ _ _ _ _ _ us hl => match us, hl with | [_, _], _ => rfl) (fun cdv A outer s H vs Q E hr h => ?_)
  have nd := sc_greatest_divisor.nd
  have hu := hu_of hr
  refine ⟨_, (pss_cons (ps_while PassesOwn.never (pt_cmpR op_gt (pv 1) pe_int (nomark _)) (pss_one (ps_par (i := 0) (j := 1) (by rfl) nd rfl rfl (by decide) rfl rfl (pa_cons (pv 1) (pa_cons (pe_op op_mod (pv 0) (pv 1)) pa_nil)) (by rfl))))
      (pss_one (ps_ret (pv 0)))), ?_⟩
  obtain ⟨_, a, b, rfl, k⟩ := h
  refine ⟨fun m σ H' => ∃ a' b' : Nat, b' = m ∧ σ = [some (.int a'), some (.int b')] ∧ H' = H ∧ Nat.gcd a' b' = Nat.gcd a b, ⟨b, a, b, rfl, rfl, rfl, rfl⟩, ?_⟩
  rintro m σ H' ⟨a', b', rfl, rfl, rfl, e⟩
  refine ⟨_, rfl, _, _, rfl, rfl, _, rfl, ?_⟩
  refine ite2 (fun c => ?_) (fun c => ?_)
  · have c' : (0 : Int) < b' := of_decide_eq_true c
    refine ⟨_, fun _ _ n => n, ?_⟩
    refine ⟨_, rfl, _, rfl, _, rfl, _, _, rfl, rfl, c', _, _, rfl, ?_⟩
    refine ⟨a' % b', Nat.mod_lt _ (by omega), b', a' % b', rfl, rfl, rfl, ?_⟩
    rw [← e, Nat.gcd_comm a' b', Nat.gcd_rec b' a', Nat.gcd_comm]
  · have c' : ¬ (0 : Int) < b' := fun z => c (decide_eq_true z)
    have e0 : b' = 0 := by omega
    subst e0
    rw [Nat.gcd_zero_right] at e
    refine ⟨_, rfl, ?_⟩
    rw [e]; exact k
/-- sizes: x below 2 ^ n -/
abbrev Bd (n : Nat) (x : Int) : Prop := x.natAbs < 2 ^ n
theorem Bd.mono {n m : Nat} {x : Int} (h : Bd n x) (l : n ≤ m) : Bd m x := Nat.lt_of_lt_of_le h (Nat.pow_le_pow_right (by decide) l)
theorem bd_mul {a b : Nat} {x y : Int} (h : Bd a x) (g : Bd b y) : Bd (a + b) (x * y) := wide_lt h g
theorem bd_add {a : Nat} {x y : Int} (h : Bd a x) (g : Bd a y) : Bd (a + 1) (x + y) := by
  unfold Bd at *
  rw [Nat.pow_succ]; omega
theorem bd_sub {a : Nat} {x y : Int} (h : Bd a x) (g : Bd a y) : Bd (a + 1) (x - y) := by
  unfold Bd at *
  rw [Nat.pow_succ]; omega
theorem wmul {a b : Nat} {x y : Int} (h : Bd a x) (g : Bd b y) (l : a + b ≤ 900000) : CMulW x y := wide_mul (h.mono (Nat.le_succ a)) (g.mono (Nat.le_succ b)) (Nat.succ_pos _) (Nat.succ_pos _) (by omega)
theorem wdiv {b : Nat} {x y : Int} (h : 0 < y) (g : Bd b y) (l : b ≤ 8000) : CDivW x y := wide_div h (g.mono (Nat.le_succ b)) (Nat.succ_pos _) (by omega)
theorem bd_nat {n : Nat} {a b : Nat} (h : Bd n (b : Int)) (l : a ≤ b) : Bd n (a : Int) := Nat.lt_of_le_of_lt (show a ≤ b from l) h
def lcmN (a b : Nat) : Nat := a / Nat.gcd a b * b
def sp_least_multiple : Sp := spx 2 fun vs H Q _ => ∃ a b : Nat, vs = [.int a, .int b] ∧ 0 < a ∧ 0 < b ∧ Bd 4000 (a : Int) ∧ Bd 4000 (b : Int) ∧ Q (.int (lcmN a b : Nat)) H
theorem sc_least_multiple : FnScope ["a", "b"] ["a", "b"] (defScope s_least_multiple) := ⟨rfl, rfl, rfl, by decide +kernel, rfl, by decide +kernel, by decide +kernel⟩
theorem c_least_multiple (T : Tx K mg) (G_greatest_divisor : Cal P w K mg base 1 "greatest_divisor" ["a", "b"] sp_greatest_divisor) : Cal P w K mg base 2 "least_multiple" ["a", "b"] sp_least_multiple := by
  refine T.cal 6 rfl 2 rfl sc_least_multiple (fun _ _ _ _ h => h.1) (fun _ _ _ _ _ _ us hl => match us, hl with | [_, _], _ => rfl) (fun cdv A outer s H vs Q E hr h => ?_)
  have nd := sc_least_multiple.nd
  have hu := hu_of hr
  refine ⟨_, (pss_one (ps_ret (pe_op op_mulW (pe_op op_fdivW (pv 0) (pe_cal G_greatest_divisor (hr.mono (by decide)) (pa_cons (pv 0) (pa_cons (pv 1) pa_nil)))) (pv 1)))), ?_⟩
  obtain ⟨_, a, b, rfl, ha, hb, ba, bb, k⟩ := h
  have hg : 0 < Nat.gcd a b := Nat.gcd_pos_of_pos_left _ ha
  have e : ((a : Int) / (Nat.gcd a b : Nat)) = ((a / Nat.gcd a b : Nat) : Int) := rfl
  refine ⟨_, rfl, _, rfl, _, rfl, rfl, a, b, rfl, _, _, rfl, rfl, wdiv (by omega) (bd_nat ba (Nat.gcd_le_left _ ha)) (by decide), _, rfl, _, _, rfl, rfl, ?_, ?_⟩
  · rw [e]
    exact wmul (bd_nat ba (Nat.div_le_self _ _)) bb (by decide)
  · show Q (.int ((a : Int) / (Nat.gcd a b : Nat) * (b : Int))) H
    rw [e, ← Int.natCast_mul]
    exact k
def sp_power : Sp := spx 2 fun vs H Q _ => ∃ a n : Nat, vs = [.int a, .int n] ∧ n ≤ 8 ∧ Bd 300 (a : Int) ∧ Q (.int ((a ^ n : Nat) : Int)) H
theorem bd_pow {k : Nat} {a : Nat} (h : Bd k (a : Int)) (i : Nat) : Bd (k * i + 1) ((a ^ i : Nat) : Int) := by
  induction i with
  | zero => exact (show (1 : Nat) < 2 ^ (k * 0 + 1) by simp)
  | succ i ih =>
    have e : ((a ^ (i + 1) : Nat) : Int) = ((a ^ i : Nat) : Int) * (a : Int) := by rw [← Int.natCast_mul]; rfl
    rw [e]
    exact (bd_mul ih h).mono (by rw [Nat.mul_succ]; omega)
theorem sc_power : FnScope ["a", "n", "found", "_"] ["a", "n"] (defScope s_power) := ⟨rfl, rfl, rfl, by decide +kernel, rfl, by decide +kernel, by decide +kernel⟩
theorem c_power (T : Tx K mg)  : Cal P w K mg base 1 "power" ["a", "n"] sp_power := by
  refine T.cal 7 rfl 3 rfl sc_power (fun _ _ _ _ h => h.1) (fun _ _ _ _ _ _ us hl => match us, hl with | [_, _], _ => rfl) (fun cdv A outer s H vs Q E hr h => ?_)
  have nd := sc_power.nd
  have hu := hu_of hr
  refine ⟨_, (pss_cons (ps_set (i := 2) nd rfl (Or.inl rfl) pe_int)
      (pss_cons (ps_for PassesOwn.never rfl (pi_range1 rfl T.f_range (pa_cons (pv 1) pa_nil)) (pg_name (i := 3) nd rfl (Or.inl rfl)) (pss_one (ps_set (i := 2) nd rfl (Or.inl rfl) (pe_op op_mulW (pv 2) (pv 0)))))
      (pss_one (ps_ret (pv 2))))), ?_⟩
  obtain ⟨_, a, n, rfl, hn, ba, k⟩ := h
  refine ⟨_, rfl, _, rfl, by omega, by omega, for_range (lo := 0) (n := n) (fun i σ H' => ∃ v, σ = [some (.int a), some (.int n), some (.int ((a ^ i : Nat) : Int)), v] ∧ H' = H) ⟨none, rfl, rfl⟩ ?_ ?_⟩
  · rintro i σ H' hi ⟨v, rfl, rfl⟩
    refine ⟨_, rfl, _, rfl, _, _, rfl, rfl, wmul (bd_pow ba i) ba (by omega), some (.int (0 + i)), ?_, rfl⟩
    show [some (V.int (a : Int)), some (V.int (n : Int)), some (V.int (((a ^ i : Nat) : Int) * (a : Int))), some (V.int (0 + i))] = _
    rw [← Int.natCast_mul]
    rfl
  · rintro σ H' ⟨v, rfl, rfl⟩
    exact ⟨_, rfl, k⟩
end
end MH
/-! part W1 -/
set_option Elab.async false
set_option linter.all false
set_option maxRecDepth 100000
set_option maxHeartbeats 4000000
namespace MH
open PySem PySem.Spec PyProof.Rows L2
/-! ### heaps: what is new, all but one -/
def fr (H H' : Hp) : Hp := fun b => match H b with
  | none => H' b
  | some _ => none
def hid (a : Addr) (H : Hp) : Hp := fun b => if b = a then none else H b
section
variable {H H1 H2 H3 H' : Hp} {a b p : Addr} {o u : HO}
theorem fr_at (h : H p = none) : fr H H' p = H' p := by unfold fr; rw [h]
theorem fr_some (h : fr H H' p = some o) : H p = none ∧ H' p = some o := by
  unfold fr at h
  cases e : H p with
  | none => rw [e] at h; exact ⟨rfl, h⟩
  | some z => rw [e] at h; cases h
theorem same_fr : Same (fr H H') H' := fun _ _ h => (fr_some h).2
theorem hid_at (h : b ≠ a) : hid a H b = H b := if_neg h
theorem hid_self : hid a H a = none := if_pos rfl
theorem hid_some (h : hid a H b = some o) : b ≠ a ∧ H b = some o := by
  unfold hid at h
  by_cases e : b = a
  · rw [if_pos e] at h; cases h
  · rw [if_neg e] at h; exact ⟨e, h⟩
theorem same_hid : Same (hid a H) H := fun _ _ h => (hid_some h).2
theorem same_hid_up (e : Same H H') : Same (hid a H) (hid a H') := fun b o h => by
  obtain ⟨n, h⟩ := hid_some h
  rw [hid_at n]; exact e b o h
theorem hid_upd : hid a (upd H a o) = hid a H := by
  funext b; unfold hid upd
  by_cases e : b = a
  · rw [if_pos e, if_pos e]
  · rw [if_neg e, if_neg e, if_neg e]
theorem same_fr_hid (h : H a = some o) : Same (fr H H') (hid a H') := fun b u e => by
  obtain ⟨n, e⟩ := fr_some e
  have : b ≠ a := fun z => by rw [z, h] at n; cases n
  rw [hid_at this]; exact e
theorem same_to_hid (e : Same H H') (h : H a = none) : Same H (hid a H') := fun b u q => by
  have : b ≠ a := fun z => by rw [z, h] at q; cases q
  rw [hid_at this]; exact e b u q
/-- new since later is new since before -/
theorem fr_old (e : Same H H1) : Same (fr H1 H2) (fr H H2) := fun b u q => by
  obtain ⟨n, q⟩ := fr_some q
  rw [fr_at (e.free n)]; exact q
theorem fr_up (e : Same H1 H2) : Same (fr H H1) (fr H H2) := fun b u q => by
  obtain ⟨n, q⟩ := fr_some q
  rw [fr_at n]; exact e b u q
theorem fr_oldS (e : Same (hid a H) (hid a H1)) (h1 : H1 a = some o) : Same (fr H1 H2) (fr H H2) := fun b u q => by
  obtain ⟨n, q⟩ := fr_some q
  have ne : b ≠ a := fun z => by rw [z, h1] at n; cases n
  have : H b = none := by
    cases z : H b with
    | none => rfl
    | some w =>
      have := e b w (by rw [hid_at ne]; exact z)
      rw [hid_at ne, n] at this; cases this
  rw [fr_at this]; exact q
theorem fr_upS (e : Same (hid a H1) (hid a H2)) (h : H a = some o) : Same (fr H H1) (fr H H2) := fun b u q => by
  obtain ⟨n, q⟩ := fr_some q
  have ne : b ≠ a := fun z => by rw [z, h] at n; cases n
  rw [fr_at n]
  have := e b u (by rw [hid_at ne]; exact q)
  rw [hid_at ne] at this; exact this
theorem same_new (h : H p = none) : Same H (upd H p o) := fun b u e => by rw [upd_ne (ne_of_none e h)]; exact e
/-- a thing that the stable part S does not hold is written -/
theorem same_mut {S : Hp} (e : Same S H) (h : S p = none) : Same S (upd H p o) := fun b u q => by
  have : b ≠ p := fun z => by rw [z, h] at q; cases q
  rw [upd_ne this]; exact e b u q
theorem same_upd {S : Hp} (h : S p = none) : Same S (upd S p o) := same_new h
/-- the stable part grows -/
theorem same_ext {S : Hp} (e : Same S H) (h : H p = some o) : Same (upd S p o) H := fun b u q => by
  by_cases z : b = p
  · rw [z, upd_same] at q; cases q; rw [z]; exact h
  · rw [upd_ne z] at q; exact e b u q
theorem sameS_to {S : Hp} (e : Same S H) (n : S a = none) (g : Same (hid a H) (hid a H')) : Same S H' := fun b u q => by
  have ne : b ≠ a := fun z => by rw [z, n] at q; cases q
  have := g b u (by rw [hid_at ne]; exact e b u q)
  rw [hid_at ne] at this; exact this
theorem keepS (g : Same (hid a H) (hid a H')) (n : p ≠ a) (h : H p = some o) : H' p = some o := by
  have := g p o (by rw [hid_at n]; exact h)
  rw [hid_at n] at this; exact this
theorem freeS (g : Same (hid a H) (hid a H')) (n : p ≠ a) (h : H' p = none) : H p = none := by
  cases z : H p with
  | none => rfl
  | some w => rw [keepS g n z] at h; cases h
end
/-- what is new, but D -/
def nw (D : Addr) (H0 H : Hp) : Hp := hid D (fr H0 H)
section
variable {H0 H H' : Hp} {a D p : Addr} {o : HO}
theorem nw_mut : nw D H0 (upd H D o) = nw D H0 H := by
  funext b; unfold nw hid fr upd
  by_cases e : b = D
  · rw [if_pos e, if_pos e]
  · rw [if_neg e, if_neg e, if_neg e]
theorem nw_up (e : Same H H') : Same (nw D H0 H) (nw D H0 H') := same_hid_up (fr_up e)
theorem nw_upS (e : Same (hid a H) (hid a H')) (h : H0 a = some o) : Same (nw D H0 H) (nw D H0 H') := same_hid_up (fr_upS e h)
theorem nw_at (h : H0 p = none) (n : p ≠ D) : nw D H0 H p = H p := by unfold nw; rw [hid_at n, fr_at h]
theorem same_nw : Same (nw D H0 H) (fr H0 H) := same_hid
theorem same_nw' : Same (nw D H0 H) H := same_hid.trans same_fr
end
/-! ### what a value is, in a heap -/
abbrev Rl (α : Type) := Hp → V → α → Prop
class Mo {α : Type} (R : Rl α) : Prop where
  up : ∀ {H H' : Hp} {v : V} {x : α}, Same H H' → R H v x → R H' v x
theorem paired_up {α β : Type} {F G : α → β → Prop} : ∀ {l₁ : List α} {l₂ : List β}, Paired F l₁ l₂ → (∀ a b, F a b → G a b) → Paired G l₁ l₂
  | _, _, .nil, _ => .nil
  | _, _, .cons r t, f => .cons (f _ _ r) (paired_up t f)
theorem paired_get {α β : Type} {F : α → β → Prop} : ∀ {l₁ : List α} {l₂ : List β} {i : Nat} {x : α}, Paired F l₁ l₂ → l₁[i]? = some x → ∃ y, l₂[i]? = some y ∧ F x y
  | _, _, _, _, .nil, e => by simp at e
  | _, _, 0, _, .cons r _, e => by simp at e; subst e; exact ⟨_, rfl, r⟩
  | _, _, i + 1, x, .cons _ t, e => by
    obtain ⟨y, h1, h2⟩ := paired_get (i := i) (x := x) t (by simpa using e)
    exact ⟨y, by simpa using h1, h2⟩
theorem paired_get' {α β : Type} {F : α → β → Prop} : ∀ {l₁ : List α} {l₂ : List β} {i : Nat} {y : β}, Paired F l₁ l₂ → l₂[i]? = some y → ∃ x, l₁[i]? = some x ∧ F x y
  | _, _, _, _, .nil, e => by simp at e
  | _, _, 0, _, .cons r _, e => by simp at e; subst e; exact ⟨_, rfl, r⟩
  | _, _, i + 1, y, .cons _ t, e => by
    obtain ⟨x, h1, h2⟩ := paired_get' (i := i) (y := y) t (by simpa using e)
    exact ⟨x, by simpa using h1, h2⟩
theorem paired_len {α β : Type} {F : α → β → Prop} {l₁ : List α} {l₂ : List β} (h : Paired F l₁ l₂) : l₁.length = l₂.length := by
  induction h with
  | nil => rfl
  | cons _ _ ih => simp [ih]
theorem paired_app {α β : Type} {F : α → β → Prop} {l₁ m₁ : List α} {l₂ m₂ : List β} (h : Paired F l₁ l₂) (g : Paired F m₁ m₂) : Paired F (l₁ ++ m₁) (l₂ ++ m₂) := by
  induction h with
  | nil => exact g
  | cons r _ ih => exact .cons r ih
theorem paired_drop {α β : Type} {F : α → β → Prop} : ∀ {l₁ : List α} {l₂ : List β} (n : Nat), Paired F l₁ l₂ → Paired F (l₁.drop n) (l₂.drop n)
  | _, _, 0, h => h
  | _, _, _ + 1, .nil => .nil
  | _, _, n + 1, .cons _ t => paired_drop n t
theorem paired_take {α β : Type} {F : α → β → Prop} : ∀ {l₁ : List α} {l₂ : List β} (n : Nat), Paired F l₁ l₂ → Paired F (l₁.take n) (l₂.take n)
  | _, _, 0, _ => .nil
  | _, _, _ + 1, .nil => .nil
  | _, _, n + 1, .cons r t => .cons r (paired_take n t)
theorem paired_map {α β : Type} {f : β → α} {F : α → β → Prop} (h : ∀ b, F (f b) b) : ∀ l : List β, Paired F (l.map f) l
  | [] => .nil
  | b :: l => .cons (h b) (paired_map h l)
theorem paired_eq {α β : Type} {f : β → α} {F : α → β → Prop} (h : ∀ a b, F a b → a = f b) {l₁ : List α} {l₂ : List β} (p : Paired F l₁ l₂) : l₁ = l₂.map f := by
  induction p with
  | nil => rfl
  | cons r _ ih => rw [List.map_cons, h _ _ r, ih]
def RInt : Rl Int := fun _ v i => v = .int i
def RStr : Rl Str := fun _ v s => v = .str s
def RLst {α : Type} (R : Rl α) : Rl (List α) := fun H v xs => ∃ a vs, v = .ref a ∧ H a = some (.lst vs) ∧ Paired (R H) vs xs
def RTup {α : Type} (R : Rl α) : Rl (List α) := fun H v xs => ∃ a vs, v = .ref a ∧ H a = some (.tup vs) ∧ Paired (R H) vs xs
def RPr {α β : Type} (R : Rl α) (S : Rl β) : Rl (α × β) := fun H v x => ∃ a u w, v = .ref a ∧ H a = some (.tup [u, w]) ∧ R H u x.1 ∧ S H w x.2
def RTr {α β γ : Type} (R : Rl α) (S : Rl β) (T : Rl γ) : Rl (α × β × γ) := fun H v x => ∃ a u w z, v = .ref a ∧ H a = some (.tup [u, w, z]) ∧ R H u x.1 ∧ S H w x.2.1 ∧ T H z x.2.2
/-- a list of two unlike things -/
def RL2 {α β : Type} (R : Rl α) (S : Rl β) : Rl (α × β) := fun H v x => ∃ a u w, v = .ref a ∧ H a = some (.lst [u, w]) ∧ R H u x.1 ∧ S H w x.2
instance : Mo RInt := ⟨fun _ h => h⟩
instance : Mo RStr := ⟨fun _ h => h⟩
instance {α : Type} {R : Rl α} [Mo R] : Mo (RLst R) := ⟨fun e h => by
  obtain ⟨a, vs, rfl, ha, p⟩ := h
  exact ⟨a, vs, rfl, e _ _ ha, paired_up p fun _ _ => Mo.up e⟩⟩
instance {α : Type} {R : Rl α} [Mo R] : Mo (RTup R) := ⟨fun e h => by
  obtain ⟨a, vs, rfl, ha, p⟩ := h
  exact ⟨a, vs, rfl, e _ _ ha, paired_up p fun _ _ => Mo.up e⟩⟩
instance {α β : Type} {R : Rl α} {S : Rl β} [Mo R] [Mo S] : Mo (RPr R S) := ⟨fun e h => by
  obtain ⟨a, u, w, rfl, ha, p, q⟩ := h
  exact ⟨a, u, w, rfl, e _ _ ha, Mo.up e p, Mo.up e q⟩⟩
instance {α β γ : Type} {R : Rl α} {S : Rl β} {T : Rl γ} [Mo R] [Mo S] [Mo T] : Mo (RTr R S T) := ⟨fun e h => by
  obtain ⟨a, u, w, z, rfl, ha, p, q, r⟩ := h
  exact ⟨a, u, w, z, rfl, e _ _ ha, Mo.up e p, Mo.up e q, Mo.up e r⟩⟩
instance {α β : Type} {R : Rl α} {S : Rl β} [Mo R] [Mo S] : Mo (RL2 R S) := ⟨fun e h => by
  obtain ⟨a, u, w, rfl, ha, p, q⟩ := h
  exact ⟨a, u, w, rfl, e _ _ ha, Mo.up e p, Mo.up e q⟩⟩
theorem ints_eq {H : Hp} {vs : List V} {ns : List Int} (p : Paired (RInt H) vs ns) : vs = ns.map V.int := paired_eq (fun _ _ h => h) p
theorem strs_eq {H : Hp} {vs : List V} {ns : List Str} (p : Paired (RStr H) vs ns) : vs = ns.map V.str := paired_eq (fun _ _ h => h) p
theorem ints_p (H : Hp) (ns : List Int) : Paired (RInt H) (ns.map V.int) ns := paired_map (f := V.int) (fun _ => rfl) ns
theorem strs_p (H : Hp) (ns : List Str) : Paired (RStr H) (ns.map V.str) ns := paired_map (f := V.str) (fun _ => rfl) ns
theorem RLst.ints {H : Hp} {v : V} {ns : List Int} (h : RLst RInt H v ns) : ∃ a, v = .ref a ∧ H a = some (.lst (ns.map V.int)) := by
  obtain ⟨a, vs, e, ha, p⟩ := h; exact ⟨a, e, ints_eq p ▸ ha⟩
theorem RLst.strs {H : Hp} {v : V} {ns : List Str} (h : RLst RStr H v ns) : ∃ a, v = .ref a ∧ H a = some (.lst (ns.map V.str)) := by
  obtain ⟨a, vs, e, ha, p⟩ := h; exact ⟨a, e, strs_eq p ▸ ha⟩
theorem RTup.ints {H : Hp} {v : V} {ns : List Int} (h : RTup RInt H v ns) : ∃ a, v = .ref a ∧ H a = some (.tup (ns.map V.int)) := by
  obtain ⟨a, vs, e, ha, p⟩ := h; exact ⟨a, e, ints_eq p ▸ ha⟩
theorem RTup.strs {H : Hp} {v : V} {ns : List Str} (h : RTup RStr H v ns) : ∃ a, v = .ref a ∧ H a = some (.tup (ns.map V.str)) := by
  obtain ⟨a, vs, e, ha, p⟩ := h; exact ⟨a, e, strs_eq p ▸ ha⟩
theorem RLst.of_ints {H : Hp} {a : Addr} {ns : List Int} (h : H a = some (.lst (ns.map V.int))) : RLst RInt H (.ref a) ns := ⟨a, _, rfl, h, ints_p H ns⟩
theorem RLst.of_strs {H : Hp} {a : Addr} {ns : List Str} (h : H a = some (.lst (ns.map V.str))) : RLst RStr H (.ref a) ns := ⟨a, _, rfl, h, strs_p H ns⟩
theorem RTup.of_ints {H : Hp} {a : Addr} {ns : List Int} (h : H a = some (.tup (ns.map V.int))) : RTup RInt H (.ref a) ns := ⟨a, _, rfl, h, ints_p H ns⟩
theorem RTup.of_strs {H : Hp} {a : Addr} {ns : List Str} (h : H a = some (.tup (ns.map V.str))) : RTup RStr H (.ref a) ns := ⟨a, _, rfl, h, strs_p H ns⟩
/-- a comprehension without ifs -/
theorem yes_t {σ : L2.St} {H : Hp} {P R : Hp → Prop} (h : P H) : tYes σ H (fun b H3 => if b = true then P H3 else R H3) := by
  show (if true = true then P H else R H)
  rw [if_pos rfl]; exact h
/-! ### fields -/
theorem lk_no {f : Str} : List.lookup f ([] : List (Str × V)) = none := rfl
theorem lk_ne {f g : Str} {v : V} {fs : List (Str × V)} (h : (f == g) = false) : List.lookup f ((g, v) :: fs) = List.lookup f fs := by
  show (match f == g with | true => some v | false => List.lookup f fs) = _
  rw [h]
theorem lk_eq {f : Str} {v : V} {fs : List (Str × V)} : List.lookup f ((f, v) :: fs) = some v := by
  show (match f == f with | true => some v | false => List.lookup f fs) = _
  rw [beq_self_eq_true]
def shF (p q : Int) : List (Str × V) := [("over", .int p), ("under", .int q)]
theorem shF_over {p q : Int} : (shF p q).lookup ("over" : Str) = some (.int p) := lk_eq
theorem shF_under {p q : Int} : (shF p q).lookup ("under" : Str) = some (.int q) := (lk_ne (by decide +kernel)).trans lk_eq
theorem shF_no {p q : Int} {f : Str} (h : (f == ("over" : Str)) = false) (g : (f == ("under" : Str)) = false) : (shF p q).lookup f = none := (lk_ne h).trans ((lk_ne g).trans rfl)
section
variable (K : Fr)
/-- a share: over, under -/
def RSh : Rl (Int × Int) := fun H v s => ∃ p dx, v = .ref p ∧ H p = some (.ins (He.ga K "Share") dx (shF s.1 s.2))
instance : Mo (RSh K) := ⟨fun e h => by
  obtain ⟨p, dx, rfl, hp⟩ := h
  exact ⟨p, dx, rfl, e _ _ hp⟩⟩
end
/-! ### rules by the kit K itself -/
section
variable {X : Cx} {K : Fr}
theorem ix_listK (e : X.K = K := by rfl) : IxR X (rIxL K) := e ▸ ix_list
theorem ix_tupK (e : X.K = K := by rfl) : IxR X (rIxT K) := e ▸ ix_tup
theorem op_inK (e : X.K = K := by rfl) : OpR X (compareOp .In) (rIn K false) := e ▸ op_in_seq
theorem op_notInK (e : X.K = K := by rfl) : OpR X (compareOp .NotIn) (rIn K true) := e ▸ op_notIn_seq
theorem call_lenK (e : X.K = K := by rfl) : CallR X (.builtin "len") (fun xs H Q => ∃ p ys, xs = [.ref p] ∧ (SqL K H p ys ∨ SqT K H p ys) ∧ Q (.int ys.length) H) := e ▸ call_len_seq
theorem pe_fldK {x : Expr} {ta : TE} {f : Str} {pos : Pos} (h : PE X x ta) (b : attributeBase x f X.env (eval x X.env) = eval x X.env) (e : X.K = K := by rfl) : PE X (.Attribute x f pos) (tFld K ta f) := e ▸ pe_fld h b
theorem pg_tupK {es : List Expr} {k : Nat} {t : TGs} {pos : Pos} (n : Nat) (hc : X.calm = true) (h : PGs X es t) (hn : (assignEach es X.env).length = n := by rfl) (hst : (assignEach es X.env).findIdx? (·.1) = none := by rfl) (e : X.K = K := by rfl) : PG X (.Tuple es k pos) (gTup K n t) := e ▸ pg_tup hc h hn hst
theorem pi_listK {tg l : Expr} {tl : TE} (h : PI X tg l (iList X.K tl)) (e : X.K = K := by rfl) : PI X tg l (iList K tl) := e ▸ h
end
end MH
/-! part D2 -/
set_option Elab.async false
set_option linter.all false
set_option maxRecDepth 100000
set_option maxHeartbeats 4000000
namespace MH
open PySem PySem.Spec PyProof.Rows L2
section
variable {P : Program} {w : World} {K : Fr} {mg : Str → Option Value} {base : Heap}
/-! ### shares -/
def gcdI (a b : Int) : Nat := Nat.gcd a.natAbs b.natAbs
def shr (a b : Int) : Int × Int := (a / (gcdI a b : Nat), b / (gcdI a b : Nat))
theorem gcdI_pos {a b : Int} (h : 0 < b) : 0 < gcdI a b := Nat.gcd_pos_of_pos_right _ (by omega)
theorem bd_div {n : Nat} {a : Int} {g : Nat} (h : Bd n a) (hg : 0 < g) : Bd n (a / (g : Int)) := by
  refine Nat.lt_of_le_of_lt ?_ h
  exact Int.natAbs_ediv_le_natAbs a g
theorem shF_ne : ¬ (("over" : Str) = "under") := by decide +kernel
theorem putF_over {p : Int} : putF "over" (.int p) [] = [(("over" : Str), V.int p)] := rfl
theorem putF_under {p q : Int} : putF "under" (.int q) [(("over" : Str), V.int p)] = shF p q := by
  show (if ("over" : Str) = "under" then _ else (("over" : Str), V.int p) :: putF "under" (.int q) []) = _
  rw [if_neg shF_ne]; rfl
/-- the promise of Share.__init__ -/
def sp_Share___init (K : Fr) : Sp := spx 3 fun vs H Q _ => ∃ (x dx : Addr) (a b : Int), vs = [.ref x, .int a, .int b] ∧ 0 < b ∧ Bd 8000 b ∧ H x = some (.ins (He.ga K "Share") dx []) ∧
  ∀ H', (∀ c, c ≠ x → H' c = H c) → H' x = some (.ins (He.ga K "Share") dx (shF (shr a b).1 (shr a b).2)) → Q .non H'
theorem sc_Share___init : FnScope ["self", "over", "under", "divisor"] ["self", "over", "under"] (defScope s_Share___init) := ⟨rfl, rfl, rfl, by decide +kernel, rfl, by decide +kernel, by decide +kernel⟩
theorem c_Share___init (T : Tx K mg) (G_greatest_divisor : Cal P w K mg base 1 "greatest_divisor" ["a", "b"] sp_greatest_divisor) : Mak P w K mg base 2 "Share" (He.ga K "Share") ["self", "over", "under"] (sp_Share___init K) := by
  refine T.mak 8 rfl 54 rfl 56 rfl sc_Share___init (fun _ _ _ _ h => h.1) (fun _ _ _ _ _ _ us hl => match us, hl with | [_, _, _], _ => rfl) (fun cdv A outer s H vs Q E hr h => ?_)
  have nd := sc_Share___init.nd
  have hu := hu_of hr
  refine ⟨_, (pss_cons (ps_if (pt_cmpR op_eq (pv 2) pe_int (nomark _)) (pss_one ps_never) pss_nil)
      (pss_cons (ps_set (i := 3) nd rfl (Or.inl rfl) (pe_cal G_greatest_divisor (hr.mono (by decide)) (pa_cons (pe_callB call_abs (by rfl) T.f_abs (by decide +kernel) (pa_cons (pv 1) pa_nil)) (pa_cons (pe_callB call_abs (by rfl) T.f_abs (by decide +kernel) (pa_cons (pv 2) pa_nil)) pa_nil))))
      (pss_cons (ps_if (pt_cmpR op_lt (pv 2) pe_int (nomark _)) (pss_one (ps_set (i := 3) nd rfl (Or.inl rfl) (pe_un un_neg (pv 3)))) pss_nil)
      (pss_cons (ps_fld (pv 0) (pe_op op_fdivW (pv 1) (pv 3)) rfl)
      (pss_one (ps_fld (pv 0) (pe_op op_fdivW (pv 2) (pv 3)) rfl)))))), ?_⟩
  obtain ⟨_, x, dx, a, b, rfl, hb, bb, hx, k⟩ := h
  have hg : 0 < gcdI a b := gcdI_pos hb
  have na : (x : Addr) = x := rfl
  -- if under == 0
  refine ⟨_, rfl, rfl, _, rfl, ?_⟩
  have e0 : decide (V.int b = V.int 0) = false := decide_eq_false (fun z => by injection z with z; omega)
  rw [e0]
  refine iteF ?_
  -- divisor
  refine ⟨_, rfl, _, rfl, _, rfl, _, rfl, rfl, a.natAbs, b.natAbs, ?_, ?_⟩
  · have h1 : (if a < 0 then -a else a) = (a.natAbs : Int) := by split <;> omega
    have h2 : (if b < 0 then -b else b) = (b.natAbs : Int) := by split <;> omega
    show [V.int (if a < 0 then -a else a), V.int (if b < 0 then -b else b)] = _
    rw [h1, h2]
  refine ⟨_, rfl, _, _, rfl, rfl, _, rfl, ?_⟩
  have e1 : decide (b < 0) = false := decide_eq_false (by omega)
  rw [e1]
  refine iteF ?_
  have bg : Bd 8000 ((gcdI a b : Nat) : Int) := by
    refine Nat.lt_of_le_of_lt ?_ bb
    exact Nat.gcd_le_right _ (by omega)
  refine ⟨_, rfl, _, rfl, _, _, rfl, rfl, wdiv (by exact Int.natCast_pos.mpr hg) bg (by decide), _, rfl, x, _, dx, _, rfl, hx, T.cl_Share, T.n_Share_over, by decide, ?_⟩
  refine ⟨_, rfl, _, rfl, _, _, rfl, rfl, wdiv (by exact Int.natCast_pos.mpr hg) bg (by decide), _, rfl, x, _, dx, _, rfl, upd_same, T.cl_Share, T.n_Share_under, (by show 1 < 1000; decide), ?_⟩
  refine k _ (fun c hc => by rw [upd_ne hc, upd_ne hc]) ?_
  rw [upd_same, putF_over, putF_under]
  rfl
/-- Share(a, b) as its callers see it -/
theorem share_make {H1 : Hp} {Q : VK} {E : XK} {a b : Int} {x dx : Addr} (nx : H1 x = none) (nd : H1 dx = none) (ne : dx ≠ x) (hb : 0 < b) (bb : Bd 8000 b) (k : ∀ H2, Same H1 H2 → RSh K (fr H1 H2) (.ref x) (shr a b) → Q .non H2) :
    sp_Share___init K (.ref x :: ([.int a, .int b] ++ [])) (upd (upd H1 dx (.own x)) x (.ins (He.ga K "Share") dx [])) Q E := by
  refine ⟨rfl, x, dx, a, b, rfl, hb, bb, upd_same, fun H' h1 h2 => k _ (fun c o e => ?_) ⟨x, dx, rfl, ?_⟩⟩
  · rw [h1 c (ne_of_none e nx), upd_ne (ne_of_none e nx), upd_ne (ne_of_none e nd)]
    exact e
  · rw [fr_at nx]; exact h2
def sp_Share_is_below (K : Fr) : Sp := spx 2 fun vs H Q _ => ∃ (u v : V) (s t : Int × Int), vs = [u, v] ∧ RSh K H u s ∧ RSh K H v t ∧ Bd 8000 s.1 ∧ Bd 8000 s.2 ∧ Bd 8000 t.1 ∧ Bd 8000 t.2 ∧ Q (.bl (decide (s.1 * t.2 < t.1 * s.2))) H
theorem sc_Share_is_below : FnScope ["self", "other"] ["self", "other"] (defScope s_Share_is_below) := ⟨rfl, rfl, rfl, by decide +kernel, rfl, by decide +kernel, by decide +kernel⟩
theorem c_Share_is_below (T : Tx K mg)  : Met P w K mg base 1 (He.ga K "Share") "is_below" ["self", "other"] (sp_Share_is_below K) := by
  refine T.met 11 rfl 55 rfl 100 rfl sc_Share_is_below (fun _ _ _ _ h => h.1) (fun _ _ _ _ _ _ us hl => match us, hl with | [_, _], _ => rfl) (fun cdv A outer s H vs Q E hr h => ?_)
  have nd := sc_Share_is_below.nd
  have hu := hu_of hr
  refine ⟨_, (pss_one (ps_ret (pe_cmpR op_lt (pe_op op_mulW (pe_fldK (K := K) (pv 0) rfl) (pe_fldK (K := K) (pv 1) rfl)) (pe_op op_mulW (pe_fldK (K := K) (pv 1) rfl) (pe_fldK (K := K) (pv 0) rfl)) (nomark _)))), ?_⟩
  obtain ⟨_, u, v, s, t, rfl, ⟨p, dp, rfl, hp⟩, ⟨q, dq, rfl, hq⟩, b1, b2, b3, b4, k⟩ := h
  exact ⟨_, rfl, _, _, _, _, _, rfl, hp, T.cl_Share, T.n_Share_over, shF_over, _, rfl, _, _, _, _, _, rfl, hq, T.cl_Share, T.n_Share_under, shF_under, _, _, rfl, rfl, wmul b1 b4 (by decide),
    _, rfl, _, _, _, _, _, rfl, hq, T.cl_Share, T.n_Share_over, shF_over, _, rfl, _, _, _, _, _, rfl, hp, T.cl_Share, T.n_Share_under, shF_under, _, _, rfl, rfl, wmul b3 b2 (by decide), _, _, rfl, rfl, k⟩
/-- the lesser one: itself -/
def sp_lesser_of (K : Fr) : Sp := spx 2 fun vs H Q _ => ∃ (u v : V) (s t : Int × Int), vs = [u, v] ∧ RSh K H u s ∧ RSh K H v t ∧ Bd 8000 s.1 ∧ Bd 8000 s.2 ∧ Bd 8000 t.1 ∧ Bd 8000 t.2 ∧ (s.1 * t.2 < t.1 * s.2 → Q u H) ∧ (¬ s.1 * t.2 < t.1 * s.2 → Q v H)
theorem sc_lesser_of : FnScope ["share", "other"] ["share", "other"] (defScope s_lesser_of) := ⟨rfl, rfl, rfl, by decide +kernel, rfl, by decide +kernel, by decide +kernel⟩
theorem c_lesser_of (T : Tx K mg) (G_Share_is_below : Met P w K mg base 1 (He.ga K "Share") "is_below" ["self", "other"] (sp_Share_is_below K)) : Cal P w K mg base 2 "lesser_of" ["share", "other"] (sp_lesser_of K) := by
  refine T.cal 12 rfl 4 rfl sc_lesser_of (fun _ _ _ _ h => h.1) (fun _ _ _ _ _ _ us hl => match us, hl with | [_, _], _ => rfl) (fun cdv A outer s H vs Q E hr h => ?_)
  have nd := sc_lesser_of.nd
  have hu := hu_of hr
  refine ⟨_, (pss_one (ps_ret (pe_ifExp (pt_val (pe_met G_Share_is_below (hr.mono (by decide)) (pv 0) (pa_cons (pv 1) pa_nil))) (pv 0) (pv 1)))), ?_⟩
  obtain ⟨_, u, v, s, t, rfl, hs, ht, b1, b2, b3, b4, k1, k2⟩ := h
  obtain ⟨p, dp, rfl, hp⟩ := id hs
  refine ⟨_, rfl, p, dp, _, rfl, hp, shF_no (by decide +kernel) (by decide +kernel), _, rfl, rfl, _, _, s, t, rfl, hs, ht, b1, b2, b3, b4, _, rfl, ?_⟩
  refine ite2 (fun c => ?_) (fun c => ?_)
  · exact ⟨_, rfl, k1 (of_decide_eq_true c)⟩
  · exact ⟨_, rfl, k2 (fun z => c (decide_eq_true z))⟩
/-- a level, or 1: itself or a new share -/
def sp_at_most_one (K : Fr) : Sp := spx 1 fun vs H Q _ => ∃ (u : V) (s : Int × Int), vs = [u] ∧ RSh K H u s ∧ Bd 7000 s.1 ∧ Bd 7000 s.2 ∧
  (∀ H', Same H H' → s.1 < s.2 → Q u H') ∧ (∀ v H', Same H H' → ¬ s.1 < s.2 → RSh K (fr H H') v (1, 1) → Q v H')
theorem sc_at_most_one : FnScope ["level"] ["level"] (defScope s_at_most_one) := ⟨rfl, rfl, rfl, by decide +kernel, rfl, by decide +kernel, by decide +kernel⟩
theorem c_at_most_one (T : Tx K mg) (G_lesser_of : Cal P w K mg base 2 "lesser_of" ["share", "other"] (sp_lesser_of K)) (G_Share___init : Mak P w K mg base 2 "Share" (He.ga K "Share") ["self", "over", "under"] (sp_Share___init K)) : Cal P w K mg base 4 "at_most_one" ["level"] (sp_at_most_one K) := by
  refine T.cal 13 rfl 5 rfl sc_at_most_one (fun _ _ _ _ h => h.1) (fun _ _ _ _ _ _ us hl => match us, hl with | [_], _ => rfl) (fun cdv A outer s H vs Q E hr h => ?_)
  have nd := sc_at_most_one.nd
  have hu := hu_of hr
  refine ⟨_, (pss_one (ps_ret (pe_cal G_lesser_of (hr.mono (by decide)) (pa_cons (pv 0) (pa_cons (pe_mak G_Share___init (hr.mono (by decide)) (pa_cons pe_int (pa_cons pe_int pa_nil))) pa_nil))))), ?_⟩
  obtain ⟨_, u, s, rfl, hs, b1, b2, k1, k2⟩ := h
  refine ⟨_, rfl, fun x dx nx nd ne => share_make (a := 1) (b := 1) nx nd ne (by decide) (by decide) fun H2 e r => ⟨rfl, ?_⟩⟩
  have r' : RSh K H2 (.ref x) (1, 1) := Mo.up same_fr r
  refine ⟨rfl, _, _, s, (1, 1), rfl, Mo.up e hs, r', b1.mono (by decide), b2.mono (by decide), by decide, by decide, fun c => ?_, fun c => ?_⟩
  · refine k1 _ e ?_
    have c' : s.1 * 1 < 1 * s.2 := c
    omega
  · refine k2 _ _ e (fun z => c ?_) r
    show s.1 * 1 < 1 * s.2
    omega
end
end MH
/-! part D3 -/
set_option Elab.async false
set_option linter.all false
set_option maxRecDepth 100000
set_option maxHeartbeats 4000000
namespace MH
open PySem PySem.Spec PyProof.Rows L2
section
variable {P : Program} {w : World} {K : Fr} {mg : Str → Option Value} {base : Heap}
/-! ### the law's draws: any number below the limit; the state stays well formed -/
def StOk (a l : Addr) (H : Hp) : Prop := ∃ (ns : List Int) (pos cell left lcg : Int), H a = some (.lst [.ref l, .int pos, .int cell, .int left, .int lcg]) ∧ H l = some (.lst (ns.map V.int)) ∧ l ≠ a ∧ 0 ≤ pos ∧ 0 ≤ cell ∧ 0 ≤ lcg ∧ lcg < 2147483647
theorem StOk.get {a l : Addr} {H : Hp} (h : StOk a l H) : (∃ o, H a = some o) ∧ (∃ o, H l = some o) ∧ l ≠ a := by
  obtain ⟨ns, p, c, f, g, h, h2, h3, _⟩ := h; exact ⟨⟨_, h⟩, ⟨_, h2⟩, h3⟩
theorem StOk.up {a l : Addr} {H H' : Hp} (h : StOk a l H) (e : Same H H') : StOk a l H' := by
  obtain ⟨ns, p, c, f, g, h, h2, h3⟩ := h; exact ⟨ns, p, c, f, g, e _ _ h, e _ _ h2, h3⟩
theorem StOk.mut {a l p : Addr} {H : Hp} {o : HO} (h : StOk a l H) (na : p ≠ a) (nl : p ≠ l) : StOk a l (upd H p o) := by
  obtain ⟨ns, q, c, f, g, h, h2, h3⟩ := h
  exact ⟨ns, q, c, f, g, by rw [upd_ne (Ne.symm na)]; exact h, by rw [upd_ne (Ne.symm nl)]; exact h2, h3⟩
theorem StOk.fresh {a l p : Addr} {H : Hp} (h : StOk a l H) (hp : H p = none) : p ≠ a ∧ p ≠ l := by
  obtain ⟨⟨_, ha⟩, ⟨_, hl⟩, _⟩ := h.get
  exact ⟨fun z => (by rw [z, ha] at hp; cases hp), fun z => (by rw [z, hl] at hp; cases hp)⟩
/-- behind a step of the state at a -/
def StStep (a l : Addr) (H H' : Hp) : Prop := Same (hid a H) (hid a H') ∧ StOk a l H'
theorem StStep.refl {a l : Addr} {H : Hp} (h : StOk a l H) : StStep a l H H := ⟨Same.refl _, h⟩
theorem StStep.trans {a l : Addr} {H H1 H2 : Hp} (h : StStep a l H H1) (g : StStep a l H1 H2) : StStep a l H H2 := ⟨h.1.trans g.1, g.2⟩
/-- more objects -/
theorem StStep.more {a l : Addr} {H H1 H2 : Hp} (h : StStep a l H H1) (e : Same H1 H2) : StStep a l H H2 := ⟨h.1.trans (same_hid_up e), h.2.up e⟩
/-- a thing of one's own is written -/
theorem StStep.mut {a l p : Addr} {H H1 : Hp} {o : HO} (h : StStep a l H H1) (hp : H p = none) (na : p ≠ a) (nl : p ≠ l) : StStep a l H (upd H1 p o) := ⟨fun b u q => by
  obtain ⟨n, q⟩ := hid_some q
  rw [hid_at n, upd_ne (ne_of_none q hp)]
  have := h.1 b u (by rw [hid_at n]; exact q)
  rw [hid_at n] at this; exact this, h.2.mut na nl⟩
def sp_law_draw : Sp := spx 2 fun vs H Q _ => ∃ (a l : Addr) (n : Int), vs = [.ref a, .int n] ∧ StOk a l H ∧ Bd 100 n ∧ ∀ (r : Int) H', 0 ≤ r → r < max n 1 → StStep a l H H' → Q (.int r) H'
theorem st_keep {a l : Addr} {H H' : Hp} {o : HO} (e : ∀ b, b ≠ a → H' b = H b) (hl : H l = some o) (n : l ≠ a) : H' l = some o := by rw [e l n]; exact hl
theorem st_same {a : Addr} {H H' : Hp} (e : ∀ b, b ≠ a → H' b = H b) : Same (hid a H) (hid a H') := fun b o h => by
  obtain ⟨n, h⟩ := hid_some h
  rw [hid_at n, e b n]; exact h
theorem sc_law_draw : FnScope ["_law_state", "_law_limit", "_law_cell", "_law_got"] ["_law_state", "_law_limit"] (defScope s_law_draw) := ⟨rfl, rfl, rfl, by decide +kernel, rfl, by decide +kernel, by decide +kernel⟩
theorem c_law_draw (T : Tx K mg)  : Cal P w K mg base 1 "_law_draw" ["_law_state", "_law_limit"] sp_law_draw := by
  refine T.cal 49 rfl 21 rfl sc_law_draw (fun _ _ _ _ h => h.1) (fun _ _ _ _ _ _ us hl => match us, hl with | [_, _], _ => rfl) (fun cdv A outer s H vs Q E hr h => ?_)
  have nd := sc_law_draw.nd
  have hu := hu_of hr
  refine ⟨_, (Evl.pss_cut (ps_if (pt_cmpR op_lt (pv 1) pe_int (nomark _)) (pss_one (ps_set (i := 1) nd rfl (Or.inl rfl) pe_int)) pss_nil)
      (Evl.pss_cut (ps_if (PW.pt (pw_and (pt_cmpR op_eq (pe_ix (ix_listK (K := K)) (pv 0) pe_int (fun _ _ => rfl)) pe_int (nomark _)) (pw_and1 (pt_cmpR op_lt (pe_ix (ix_listK (K := K)) (pv 0) pe_int (fun _ _ => rfl)) (pe_callB (call_lenK (K := K)) (by rfl) T.f_len (by decide +kernel) (pa_cons (pe_ix (ix_listK (K := K)) (pv 0) pe_int (fun _ _ => rfl)) pa_nil)) (nomark _))))) (pss_cons (ps_set (i := 2) nd rfl (Or.inl rfl) (pe_callB call_abs (by rfl) T.f_abs (by decide +kernel) (pa_cons (pe_callTy call_int1 (by rfl) T.f_int (by decide +kernel) (pa_cons (pe_ix (ix_listK (K := K)) (pe_ix (ix_listK (K := K)) (pv 0) pe_int (fun _ _ => rfl)) (pe_ix (ix_listK (K := K)) (pv 0) pe_int (fun _ _ => rfl)) (fun _ _ => rfl)) pa_nil)) pa_nil)))
      (pss_cons (ps_asg (pe_op op_add (pe_ix (ix_listK (K := K)) (pv 0) pe_int (fun _ _ => rfl)) pe_int) (pg_sub (pv 0) pe_int set_list))
      (pss_cons (ps_asg pe_int (pg_sub (pv 0) pe_int set_list))
      (pss_one (ps_if (pt_cmpR op_ge (pv 2) (pe_op op_pow pe_int pe_int) (nomark _)) (pss_cons (ps_asg (pv 2) (pg_sub (pv 0) pe_int set_list))
      (pss_one (ps_asg pe_int (pg_sub (pv 0) pe_int set_list)))) (pss_one (ps_asg (pe_op op_mod (pe_callTy call_int1 (by rfl) T.f_int (by decide +kernel) (pa_cons (pe_op op_add (pe_op op_add (pe_op op_mulW (pe_ix (ix_listK (K := K)) (pv 0) pe_int (fun _ _ => rfl)) pe_int) (pv 2)) (pe_ix (ix_listK (K := K)) (pv 0) pe_int (fun _ _ => rfl))) pa_nil)) pe_int) (pg_sub (pv 0) pe_int set_list)))))))) pss_nil)
      (pss_cons (ps_if (pt_cmpR op_gt (pe_ix (ix_listK (K := K)) (pv 0) pe_int (fun _ _ => rfl)) pe_int (nomark _)) (pss_cons (ps_set (i := 3) nd rfl (Or.inl rfl) (pe_op op_mod (pe_callTy call_int1 (by rfl) T.f_int (by decide +kernel) (pa_cons (pe_ix (ix_listK (K := K)) (pv 0) pe_int (fun _ _ => rfl)) pa_nil)) (pv 1)))
      (pss_cons (ps_asg (pe_op op_fdivW (pe_ix (ix_listK (K := K)) (pv 0) pe_int (fun _ _ => rfl)) (pv 1)) (pg_sub (pv 0) pe_int set_list))
      (pss_cons (ps_asg (pe_op op_sub (pe_ix (ix_listK (K := K)) (pv 0) pe_int (fun _ _ => rfl)) pe_int) (pg_sub (pv 0) pe_int set_list))
      (pss_cons (ps_if (PW.pt (pw_or (pt_cmpR op_eq (pe_ix (ix_listK (K := K)) (pv 0) pe_int (fun _ _ => rfl)) pe_int (nomark _)) (pw_or1 (pt_cmpR op_eq (pe_ix (ix_listK (K := K)) (pv 0) pe_int (fun _ _ => rfl)) pe_int (nomark _))))) (pss_cons (ps_asg pe_int (pg_sub (pv 0) pe_int set_list))
      (pss_one (ps_asg pe_int (pg_sub (pv 0) pe_int set_list)))) pss_nil)
      (pss_one (ps_ret (pv 3))))))) pss_nil)
      (pss_cons (ps_asg (pe_callB (call_max2 rfl) (by rfl) T.f_max (by decide +kernel) (pa_cons pe_int (pa_cons (pe_op op_sub (pe_ix (ix_listK (K := K)) (pv 0) pe_int (fun _ _ => rfl)) pe_int) pa_nil))) (pg_sub (pv 0) pe_int set_list))
      (pss_cons (ps_asg (pe_op op_mod (pe_callTy call_int1 (by rfl) T.f_int (by decide +kernel) (pa_cons (pe_op op_add (pe_op op_mulW (pe_ix (ix_listK (K := K)) (pv 0) pe_int (fun _ _ => rfl)) pe_int) pe_int) pa_nil)) pe_int) (pg_sub (pv 0) pe_int set_list))
      (pss_one (ps_ret (pe_op op_mod (pe_callTy call_int1 (by rfl) T.f_int (by decide +kernel) (pa_cons (pe_op op_mod (pe_callTy call_int1 (by rfl) T.f_int (by decide +kernel) (pa_cons (pe_op op_add (pe_op op_mulW (pe_ix (ix_listK (K := K)) (pv 0) pe_int (fun _ _ => rfl)) pe_int) pe_int) pa_nil)) pe_int) pa_nil)) (pv 1))))))))), ?_⟩
  obtain ⟨_, a, l, n, rfl, hS, hn, k⟩ := h
  obtain ⟨m, hm⟩ : ∃ m : Int, m = max n 1 := ⟨_, rfl⟩
  have bm : Bd 100 m := by rw [hm]; unfold Bd at *; omega
  refine ⟨fun σ H' => σ = [some (.ref a), some (.int m), none, none] ∧ H' = H, ?_, ?_⟩
  · refine ⟨_, rfl, _, _, rfl, rfl, _, rfl, ?_⟩
    refine ite2 (fun c => ?_) (fun c => ?_)
    · have c' : n < 2 := of_decide_eq_true c
      refine ⟨?_, rfl⟩
      have : m = 1 := by omega
      rw [this]; rfl
    · have c' : ¬ n < 2 := fun z => c (decide_eq_true z)
      refine ⟨?_, rfl⟩
      have : m = n := by omega
      rw [this]; rfl
  rintro σ H' ⟨rfl, rfl⟩
  refine ⟨fun σ H2 => (∃ v, σ = [some (.ref a), some (.int m), v, none]) ∧ StStep a l H' H2, ?_, ?_⟩
  · obtain ⟨ns, pos, cell, left, lcg, ha, hl, nl, h0, h1, h2, h3⟩ := hS
    -- state[3] == 0 and state[1] < len(state[0])
    have skip : (∃ v, [some (V.ref a), some (V.int m), none, none] = [some (V.ref a), some (V.int m), v, none]) ∧ StStep a l H' H' := ⟨⟨none, rfl⟩, StStep.refl ⟨ns, pos, cell, left, lcg, ha, hl, nl, h0, h1, h2, h3⟩⟩
    refine ⟨_, rfl, _, _, _, _, rfl, rfl, SqL.of ha, rfl, rfl, _, rfl, ?_⟩
    refine ite2 (fun c1 => ?_) (fun _ => iteF skip)
    refine ⟨_, rfl, _, _, _, _, rfl, rfl, SqL.of ha, rfl, _, rfl, _, _, _, _, rfl, rfl, SqL.of ha, rfl, l, _, rfl, .inl (SqL.of hl), _, _, rfl, rfl, _, rfl, ?_⟩
    refine ite2 (fun c2 => ?_) (fun _ => skip)
    have c2' : pos < ((ns.map V.int).length : Int) := of_decide_eq_true c2
    -- cell = abs(int(state[0][state[1]]))
    obtain ⟨p, rfl⟩ : ∃ p : Nat, pos = (p : Int) := ⟨pos.toNat, by omega⟩
    have hp : p < ns.length := by rw [List.length_map] at c2'; omega
    have hat : atI (ns.map V.int) (p : Int) = some (V.int ns[p]) := atI_nat (by rw [List.getElem?_map, List.getElem?_eq_getElem hp]; rfl)
    refine ⟨_, rfl, _, _, _, _, rfl, rfl, SqL.of ha, rfl, _, rfl, _, _, _, _, rfl, rfl, SqL.of ha, rfl, _, _, _, _, rfl, rfl, SqL.of hl, hat, .inl ⟨_, rfl, _, rfl, ?_⟩⟩
    generalize hz : (if ns[p] < 0 then -ns[p] else ns[p]) = z
    have z0 : 0 ≤ z := by rw [← hz]; split <;> omega
    -- state[1] = state[1] + 1; state[3] = 4
    refine ⟨_, rfl, _, _, _, _, rfl, rfl, SqL.of ha, rfl, _, _, rfl, rfl, _, rfl, a, _, _, 1, rfl, rfl, ha, rfl, ?_⟩
    refine ⟨_, rfl, a, _, _, 3, rfl, rfl, upd_same, rfl, ?_⟩
    rw [upd_upd]
    -- cell >= 10 ** 18
    refine ⟨_, rfl, _, _, rfl, rfl, ⟨by decide, by decide, by decide⟩, _, _, rfl, rfl, _, rfl, ?_⟩
    refine ite2 (fun c3 => ?_) (fun c3 => ?_)
    · refine ⟨_, rfl, _, rfl, a, _, _, 2, rfl, rfl, upd_same, rfl, _, rfl, a, _, _, 3, rfl, rfl, upd_same, rfl, ⟨_, rfl⟩, ?_⟩
      rw [upd_upd, upd_upd]
      exact ⟨st_same (fun b hb => upd_ne hb), ns, _, z, _, lcg, upd_same, by rw [upd_ne nl]; exact hl, nl, by omega, z0, h2, h3⟩
    · have c3' : ¬ (10 : Int) ^ (18 : Int).toNat ≤ z := fun q => c3 (decide_eq_true q)
      refine ⟨_, rfl, _, _, _, _, rfl, rfl, SqL.of upd_same, rfl, _, _, rfl, rfl, wmul (a := 32) (b := 32) ?_ (by decide) (by decide), _, rfl, _, _, rfl, rfl,
        _, rfl, _, _, _, _, rfl, rfl, SqL.of upd_same, rfl, _, _, rfl, rfl, .inl ⟨_, rfl, _, _, rfl, rfl, by show (0 : Int) < 2147483647; decide, _, rfl, a, _, _, 4, rfl, rfl, upd_same, rfl, ⟨_, rfl⟩, ?_⟩⟩
      · unfold Bd; omega
      rw [upd_upd]
      exact ⟨st_same (fun b hb => upd_ne hb), ns, _, cell, _, _, upd_same, by rw [upd_ne nl]; exact hl, nl, by omega, h1, Int.emod_nonneg _ (by decide), Int.emod_lt_of_pos _ (by decide)⟩
  · rintro σ H2 ⟨⟨v, rfl⟩, hs, ns, pos, cell, left, lcg, ha, hl, nl, h0, h1, h2, h3⟩
    have hm1 : 0 < m := by omega
    have fin : ∀ (r : Int) (H3 : Hp), 0 ≤ r → r < m → (∀ b, b ≠ a → H3 b = H2 b) → (∃ pos cell left lcg : Int, H3 a = some (.lst [.ref l, .int pos, .int cell, .int left, .int lcg]) ∧ 0 ≤ pos ∧ 0 ≤ cell ∧ 0 ≤ lcg ∧ lcg < 2147483647) → Q (.int r) H3 := by
      rintro r H3 r0 r1 e ⟨pos, cell, left, lcg, ha, q0, q1, q2, q3⟩
      exact k r H3 r0 (by omega) ⟨hs.trans (st_same e), ns, pos, cell, left, lcg, ha, st_keep e hl nl, nl, q0, q1, q2, q3⟩
    -- state[2] > 0
    refine ⟨_, rfl, _, _, _, _, rfl, rfl, SqL.of ha, rfl, _, _, rfl, rfl, _, rfl, ?_⟩
    refine ite2 (fun c => ?_) (fun c => ?_)
    · have c' : 0 < cell := of_decide_eq_true c
      refine ⟨_, rfl, _, _, _, _, rfl, rfl, SqL.of ha, rfl, .inl ⟨_, rfl, _, rfl, _, _, rfl, rfl, hm1, ?_⟩⟩
      refine ⟨_, rfl, _, _, _, _, rfl, rfl, SqL.of ha, rfl, _, rfl, _, _, rfl, rfl, wdiv hm1 bm (by decide), _, rfl, a, _, _, 2, rfl, rfl, ha, rfl, ?_⟩
      refine ⟨_, rfl, _, _, _, _, rfl, rfl, SqL.of upd_same, rfl, _, _, rfl, rfl, _, rfl, a, _, _, 3, rfl, rfl, upd_same, rfl, ?_⟩
      rw [upd_upd]
      have e0 : 0 ≤ cell / m := Int.ediv_nonneg h1 (by omega)
      have r0 := Int.emod_nonneg cell (show m ≠ 0 by omega)
      have r1 := Int.emod_lt_of_pos cell hm1
      have last : ∀ H3 : Hp, (∀ b, b ≠ a → H3 b = H2 b) → (∃ pos cell left lcg : Int, H3 a = some (.lst [.ref l, .int pos, .int cell, .int left, .int lcg]) ∧ 0 ≤ pos ∧ 0 ≤ cell ∧ 0 ≤ lcg ∧ lcg < 2147483647) → Q (.int (cell % m)) H3 := fun H3 => fin _ H3 r0 r1
      refine ⟨_, rfl, _, _, _, _, rfl, rfl, SqL.of upd_same, rfl, rfl, _, rfl, ?_⟩
      have zero : Q (.int (cell % m)) (upd (upd (upd H2 a (.lst [.ref l, .int pos, .int (cell / m), .int (left - 1), .int lcg])) a (.lst [.ref l, .int pos, .int 0, .int (left - 1), .int lcg])) a (.lst [.ref l, .int pos, .int 0, .int 0, .int lcg])) :=
        last _ (fun b hb => by rw [upd_ne hb, upd_ne hb, upd_ne hb]) ⟨pos, 0, 0, lcg, upd_same, h0, by decide, h2, h3⟩
      refine ite2 (fun c4 => ?_) (fun c4 => ?_)
      · refine iteT ?_
        exact ⟨_, rfl, a, _, _, 2, rfl, rfl, upd_same, rfl, _, rfl, a, _, _, 3, rfl, rfl, upd_same, rfl, _, rfl, zero⟩
      · refine ⟨_, rfl, _, _, _, _, rfl, rfl, SqL.of upd_same, rfl, rfl, _, rfl, ?_⟩
        refine ite2 (fun c5 => ?_) (fun c5 => ?_)
        · exact ⟨_, rfl, a, _, _, 2, rfl, rfl, upd_same, rfl, _, rfl, a, _, _, 3, rfl, rfl, upd_same, rfl, _, rfl, zero⟩
        · exact ⟨_, rfl, last _ (fun b hb => by rw [upd_ne hb]) ⟨pos, _, _, lcg, upd_same, h0, e0, h2, h3⟩⟩
    · refine ⟨_, rfl, _, _, _, _, rfl, rfl, SqL.of ha, rfl, _, _, rfl, rfl, _, _, rfl, _, rfl, a, _, _, 3, rfl, rfl, ha, rfl, ?_⟩
      refine ⟨_, rfl, _, _, _, _, rfl, rfl, SqL.of upd_same, rfl, _, _, rfl, rfl, wmul (a := 32) (b := 32) (by unfold Bd; omega) (by decide) (by decide), _, _, rfl, rfl, .inl ⟨_, rfl, _, _, rfl, rfl, by show (0 : Int) < 2147483647; decide, _, rfl, a, _, _, 4, rfl, rfl, upd_same, rfl, ?_⟩⟩
      rw [upd_upd]
      have g0 := Int.emod_nonneg (lcg * 48271 + 12345) (show (2147483647 : Int) ≠ 0 by decide)
      have g1 := Int.emod_lt_of_pos (lcg * 48271 + 12345) (show (0 : Int) < 2147483647 by decide)
      refine ⟨_, rfl, _, _, _, _, rfl, rfl, SqL.of upd_same, rfl, _, _, rfl, rfl, wmul (a := 32) (b := 32) (by unfold Bd; omega) (by decide) (by decide), _, _, rfl, rfl, .inl ⟨_, rfl, _, _, rfl, rfl, by show (0 : Int) < 2147483399; decide, .inl ⟨_, rfl, _, rfl, _, _, rfl, rfl, hm1, ?_⟩⟩⟩
      exact fin _ _ (Int.emod_nonneg _ (by omega)) (Int.emod_lt_of_pos _ hm1) (fun b hb => by rw [upd_ne hb]) ⟨pos, cell, _, _, upd_same, h0, h1, g0, g1⟩
def sp_law_integer : Sp := spx 1 fun vs H Q _ => ∃ i : Int, vs = [.int i] ∧ Q (.bl true) H
theorem sc_law_integer : FnScope ["_law_value"] ["_law_value"] (defScope s_law_integer) := ⟨rfl, rfl, rfl, by decide +kernel, rfl, by decide +kernel, by decide +kernel⟩
theorem c_law_integer (T : Tx K mg)  : Cal P w K mg base 1 "_law_integer" ["_law_value"] sp_law_integer := by
  refine T.cal 46 rfl 18 rfl sc_law_integer (fun _ _ _ _ h => h.1) (fun _ _ _ _ _ _ us hl => match us, hl with | [_], _ => rfl) (fun cdv A outer s H vs Q E hr h => ?_)
  have nd := sc_law_integer.nd
  have hu := hu_of hr
  refine ⟨_, (pss_one (ps_ret (pe_and (pe_callB call_isi (by rfl) T.f_isinstance (by decide +kernel) (pa_cons (pv 0) (pa_cons (pe_bltn (v := .ty "int") (by rfl) T.f_int (by decide +kernel) rfl) pa_nil))) (pe_one (pe_not (pe_callB call_isi (by rfl) T.f_isinstance (by decide +kernel) (pa_cons (pv 0) (pa_cons (pe_bltn (v := .ty "bool") (by rfl) T.f_bool (by decide +kernel) rfl) pa_nil)))))))), ?_⟩
  obtain ⟨_, i, rfl, k⟩ := h
  exact ⟨_, rfl, _, _, _, _, true, rfl, .ty _, .base (.int _), kit_ty (by decide +kernel), _, rfl, iteT ⟨_, rfl, _, _, _, _, false, rfl, .ty _, .base (.int _), kit_ty (by decide +kernel), _, rfl, k⟩⟩
def sp_law_start (K : Fr) : Sp := spx 1 fun vs H Q _ => ∃ (b : Addr) (ns : List Int), vs = [.ref b] ∧ SqL K H b (ns.map V.int) ∧ ∀ a l H', Same H H' → H a = none → H l = none → StOk a l H' → Q (.ref a) H'
theorem sc_law_start : FnScope ["_law_script"] ["_law_script"] (defScope s_law_start) := ⟨rfl, rfl, rfl, by decide +kernel, rfl, by decide +kernel, by decide +kernel⟩
theorem c_law_start (T : Tx K mg)  : Cal P w K mg base 1 "_law_start" ["_law_script"] (sp_law_start K) := by
  refine T.cal 48 rfl 20 rfl sc_law_start (fun _ _ _ _ h => h.1) (fun _ _ _ _ _ _ us hl => match us, hl with | [_], _ => rfl) (fun cdv A outer s H vs Q E hr h => ?_)
  have nd := sc_law_start.nd
  have hu := hu_of hr
  refine ⟨_, (pss_one (ps_ret (pe_lst (pa_cons (pe_callTy call_list_of (by rfl) T.f_list (by decide +kernel) (pa_cons (pv 0) pa_nil)) (pa_cons pe_int (pa_cons pe_int (pa_cons pe_int (pa_cons pe_int pa_nil)))))))), ?_⟩
  obtain ⟨_, b, ns, rfl, hb, k⟩ := h
  refine ⟨_, rfl, _, _, rfl, .inl hb, fun l hl => ⟨by show 5 ≤ sizeLine; decide, fun a ha => ?_⟩⟩
  have nl : l ≠ a := fun z => by rw [← z, upd_same] at ha; cases ha
  refine k a l _ ((same_new hl).trans (same_new ha)) ((same_new hl).free ha) hl ⟨ns, 0, 0, 0, 7, upd_same, ?_, nl, by decide, by decide, by decide, by decide⟩
  rw [upd_ne nl, upd_same]
theorem bd_of {n : Nat} {x : Int} {b : Nat} (h0 : 0 ≤ x) (h : x < (b : Int)) (hb : b ≤ 2 ^ n) : Bd n x := by
  unfold Bd; omega
def e40 : Int := 10 ^ 40
/-- a number below 10 ^ 40 -/
def sp_law_wide : Sp := spx 1 fun vs H Q _ => ∃ a l : Addr, vs = [.ref a] ∧ StOk a l H ∧ ∀ (r : Int) H', 0 ≤ r → r < e40 → StStep a l H H' → Q (.int r) H'
theorem pow10_le {n m : Nat} (h : n ≤ m) : (10 : Int) ^ n ≤ 10 ^ m := by
  induction h with
  | refl => exact Int.le_refl _
  | step _ ih =>
    rename_i m _
    have := Int.pow_pos (n := (10 : Int)) (m := m) (by decide)
    rw [Int.pow_succ]; omega
theorem sc_law_wide : FnScope ["_law_state", "_law_number", "_law_k", "_law_limit"] ["_law_state"] (defScope s_law_wide) := ⟨rfl, rfl, rfl, by decide +kernel, rfl, by decide +kernel, by decide +kernel⟩
theorem c_law_wide (T : Tx K mg) (G_law_draw : Cal P w K mg base 1 "_law_draw" ["_law_state", "_law_limit"] sp_law_draw) : Cal P w K mg base 2 "_law_wide" ["_law_state"] sp_law_wide := by
  refine T.cal 50 rfl 22 rfl sc_law_wide (fun _ _ _ _ h => h.1) (fun _ _ _ _ _ _ us hl => match us, hl with | [_], _ => rfl) (fun cdv A outer s H vs Q E hr h => ?_)
  have nd := sc_law_wide.nd
  have hu := hu_of hr
  refine ⟨_, (pss_cons (ps_set (i := 1) nd rfl (Or.inl rfl) pe_int)
      (pss_cons (ps_for PassesOwn.never rfl (pi_range1 rfl T.f_range (pa_cons pe_int pa_nil)) (pg_name (i := 2) nd rfl (Or.inl rfl)) (pss_one (ps_set (i := 1) nd rfl (Or.inl rfl) (pe_op op_add (pe_op op_mulW (pv 1) (pe_op op_pow pe_int pe_int)) (pe_cal G_law_draw (hr.mono (by decide)) (pa_cons (pv 0) (pa_cons (pe_op op_pow pe_int pe_int) pa_nil)))))))
      (pss_cons (ps_set (i := 3) nd rfl (Or.inl rfl) pe_int)
      (pss_cons (ps_for PassesOwn.never rfl (pi_range1 rfl T.f_range (pa_cons (pe_cal G_law_draw (hr.mono (by decide)) (pa_cons (pv 0) (pa_cons pe_int pa_nil))) pa_nil)) (pg_name (i := 2) nd rfl (Or.inl rfl)) (pss_one (ps_set (i := 3) nd rfl (Or.inl rfl) (pe_op op_mulW (pv 3) pe_int))))
      (pss_one (ps_ret (pe_op op_mod (pe_callTy call_int1 (by rfl) T.f_int (by decide +kernel) (pa_cons (pv 1) pa_nil)) (pv 3)))))))), ?_⟩
  obtain ⟨_, a, l, rfl, hS, k⟩ := h
  refine ⟨_, rfl, by decide, by decide, for_range (lo := 0) (n := 5) (fun i σ H' => ∃ (x : Int) (v u : Option V), σ = [some (.ref a), some (.int x), v, u] ∧ 0 ≤ x ∧ x < (1000000000 : Int) ^ i ∧ StStep a l H H') ⟨0, none, none, rfl, by decide, by decide, StStep.refl hS⟩ ?_ ?_⟩
  · rintro i σ H' hi ⟨x, v, u, rfl, x0, x1, hs⟩
    have hb : (1000000000 : Int) ^ i ≤ 1000000000 ^ 4 := by
      have : i = 0 ∨ i = 1 ∨ i = 2 ∨ i = 3 ∨ i = 4 := by omega
      rcases this with rfl | rfl | rfl | rfl | rfl <;> decide
    refine ⟨_, rfl, _, _, rfl, rfl, ⟨by decide, by decide, by decide⟩, _, _, rfl, rfl, wmul (a := 130) (b := 32) (bd_of (b := 1000000000 ^ 4) x0 (by omega) (by decide)) (by decide) (by decide), _, rfl, _, _, rfl, rfl, ⟨by decide, by decide, by decide⟩,
      rfl, a, l, _, rfl, hs.2, by decide, fun r H2 r0 r1 hs2 => ?_⟩
    have r1' : r < 1000000000 := r1
    refine ⟨_, _, rfl, rfl, _, _, _, rfl, ?_, ?_, hs.trans hs2⟩
    · show 0 ≤ x * (10 : Int) ^ 9 + r
      omega
    · show x * (10 : Int) ^ 9 + r < (1000000000 : Int) ^ i * 1000000000
      omega
  · rintro σ H' ⟨x, v, u, rfl, x0, x1, hs⟩
    refine ⟨_, rfl, rfl, a, l, _, rfl, hs.2, by decide, fun n H2 n0 n1 hs2 => ⟨n, rfl, by omega, by omega, ?_⟩⟩
    refine for_range (lo := 0) (n := n.toNat) (fun i σ H' => ∃ (v : Option V), σ = [some (.ref a), some (.int x), v, some (.int (10 ^ i))] ∧ H' = H2) ⟨_, rfl, rfl⟩ ?_ ?_
    · rintro i σ H' hi ⟨v, rfl, rfl⟩
      have hb : ((10 : Int) ^ i).natAbs < 2 ^ 200 := by
        have : i < 41 := by omega
        rw [Int.natAbs_pow]
        exact Nat.lt_of_le_of_lt (Nat.pow_le_pow_right (by decide) (show i ≤ 41 by omega)) (by decide)
      exact ⟨_, rfl, _, _, rfl, rfl, wmul (a := 200) (b := 10) hb (by decide) (by decide), _, rfl, rfl⟩
    · rintro σ H' ⟨v, rfl, rfl⟩
      have hp : (0 : Int) < 10 ^ n.toNat := Int.pow_pos (by decide)
      refine ⟨_, rfl, .inl ⟨_, rfl, _, rfl, _, _, rfl, rfl, hp, k _ _ (Int.emod_nonneg _ (by omega)) ?_ (hs.trans hs2)⟩⟩
      refine Int.lt_of_lt_of_le (Int.emod_lt_of_pos _ hp) ?_
      exact pow10_le (n := n.toNat) (m := 40) (by omega)
def sp_law_signs : Sp := spx 0 fun vs H Q _ => vs = [] ∧ ∀ z : Str, z.length = 94 → Q (.str z) H
theorem sc_law_signs : FnScope [] [] (defScope s_law_signs) := ⟨rfl, rfl, rfl, by decide +kernel, rfl, by decide +kernel, by decide +kernel⟩
theorem c_law_signs (T : Tx K mg)  : Cal P w K mg base 1 "_law_signs" [] sp_law_signs := by
  refine T.cal 52 rfl 24 rfl sc_law_signs (fun _ _ _ _ h => h.1) (fun _ _ _ _ _ _ us hl => match us, hl with | [], _ => rfl) (fun cdv A outer s H vs Q E hr h => ?_)
  have nd := sc_law_signs.nd
  have hu := hu_of hr
  refine ⟨_, (pss_one (ps_ret pe_str)), ?_⟩
  obtain ⟨_, rfl, k⟩ := h
  exact k _ (by decide +kernel)
theorem str_app (a b : Str) : (a ++ b).length = a.length + b.length := Array.size_append
theorem sz {n : Nat} (h : n ≤ 100000) : n ≤ sizeLine := Nat.le_trans h (by decide)
theorem sz_lt {n : Nat} (h : n < 100000) : n < sizeLine := Nat.lt_of_lt_of_le h (by decide)
/-- a text of at most so many signs -/
def sp_law_text : Sp := spx 2 fun vs H Q _ => ∃ (a l : Addr) (n : Int), vs = [.ref a, .int n] ∧ 0 ≤ n ∧ n ≤ 20 ∧ StOk a l H ∧ ∀ (t : Str) H', (t.length : Int) ≤ n → StStep a l H H' → Q (.str t) H'
theorem sc_law_text : FnScope ["_law_state", "_law_most", "_law_kind", "_law_size", "_law_signs_here", "_law_text_here", "_law_k"] ["_law_state", "_law_most"] (defScope s_law_text) := ⟨rfl, rfl, rfl, by decide +kernel, rfl, by decide +kernel, by decide +kernel⟩
theorem c_law_text (T : Tx K mg) (G_law_draw : Cal P w K mg base 1 "_law_draw" ["_law_state", "_law_limit"] sp_law_draw) (G_law_signs : Cal P w K mg base 1 "_law_signs" [] sp_law_signs) : Cal P w K mg base 2 "_law_text" ["_law_state", "_law_most"] sp_law_text := by
  refine T.cal 53 rfl 25 rfl sc_law_text (fun _ _ _ _ h => h.1) (fun _ _ _ _ _ _ us hl => match us, hl with | [_, _], _ => rfl) (fun cdv A outer s H vs Q E hr h => ?_)
  have nd := sc_law_text.nd
  have hu := hu_of hr
  refine ⟨_, (pss_cons (ps_set (i := 2) nd rfl (Or.inl rfl) (pe_cal G_law_draw (hr.mono (by decide)) (pa_cons (pv 0) (pa_cons pe_int pa_nil))))
      (pss_cons (ps_set (i := 3) nd rfl (Or.inl rfl) (pe_cal G_law_draw (hr.mono (by decide)) (pa_cons (pv 0) (pa_cons pe_int pa_nil))))
      (pss_cons (ps_set (i := 4) nd rfl (Or.inl rfl) pe_str)
      (Evl.pss_cut (ps_if (pt_cmpR op_eq (pv 2) pe_int (nomark _)) (pss_one (ps_set (i := 4) nd rfl (Or.inl rfl) pe_str)) pss_nil)
      (Evl.pss_cut (ps_if (pt_cmpR op_eq (pv 2) pe_int (nomark _)) (pss_cons (ps_set (i := 4) nd rfl (Or.inl rfl) (pe_cal0 G_law_signs (hr.mono (by decide))))
      (pss_one (ps_set (i := 3) nd rfl (Or.inl rfl) (pe_cal G_law_draw (hr.mono (by decide)) (pa_cons (pv 0) (pa_cons (pe_op op_add (pv 1) pe_int) pa_nil)))))) pss_nil)
      (pss_cons (ps_set (i := 5) nd rfl (Or.inl rfl) pe_str)
      (pss_cons (ps_for PassesOwn.never rfl (pi_range1 rfl T.f_range (pa_cons (pe_callB (call_min2 rfl) (by rfl) T.f_min (by decide +kernel) (pa_cons (pv 3) (pa_cons (pv 1) pa_nil))) pa_nil)) (pg_name (i := 6) nd rfl (Or.inl rfl)) (pss_one (ps_set (i := 5) nd rfl (Or.inl rfl) (pe_op op_add_str (pv 5) (pe_ix ix_str (pv 4) (pe_cal G_law_draw (hr.mono (by decide)) (pa_cons (pv 0) (pa_cons (pe_callB call_len_str (by rfl) T.f_len (by decide +kernel) (pa_cons (pv 4) pa_nil)) pa_nil))) (fun _ _ => rfl))))))
      (pss_one (ps_ret (pv 5)))))))))), ?_⟩
  obtain ⟨_, a, l, n, rfl, n0, n1, hS, k⟩ := h
  refine ⟨_, rfl, rfl, a, l, _, rfl, hS, by decide, fun kd H1 k0 k1 s1 => ?_⟩
  refine ⟨_, rfl, rfl, a, l, _, rfl, s1.2, by decide, fun sz0 H2 z0 z1 s2 => ?_⟩
  have s12 := s1.trans s2
  refine ⟨fun σ H' => ∃ z : Str, σ = [some (.ref a), some (.int n), some (.int kd), some (.int sz0), some (.str z), none, none] ∧ 0 < z.length ∧ z.length ≤ 94 ∧ H' = H2, ?_, ?_⟩
  · refine ⟨_, rfl, rfl, _, rfl, ?_⟩
    refine ite2 (fun _ => ?_) (fun _ => ?_)
    · exact ⟨_, rfl, by decide +kernel, by decide +kernel, rfl⟩
    · exact ⟨_, rfl, by decide +kernel, by decide +kernel, rfl⟩
  rintro σ H' ⟨z, rfl, zl, zu, rfl⟩
  refine ⟨fun σ H' => ∃ (z : Str) (m : Int), σ = [some (.ref a), some (.int n), some (.int kd), some (.int m), some (.str z), none, none] ∧ 0 < z.length ∧ z.length ≤ 94 ∧ 0 ≤ m ∧ m ≤ 30 ∧ StStep a l H H', ?_, ?_⟩
  · refine ⟨_, rfl, rfl, _, rfl, ?_⟩
    refine ite2 (fun _ => ?_) (fun _ => ?_)
    · refine ⟨rfl, rfl, fun z hz => ?_⟩
      refine ⟨_, rfl, _, rfl, _, _, rfl, rfl, rfl, a, l, _, rfl, s2.2, (by unfold Bd; omega), fun m H3 m0 m1 s3 => ?_⟩
      exact ⟨z, m, rfl, by omega, by omega, m0, by omega, s12.trans s3⟩
    · exact ⟨z, sz0, rfl, zl, zu, z0, by omega, s12⟩
  rintro σ H' ⟨z, m, rfl, zl, zu, m0, m1, s3⟩
  refine ⟨_, rfl, _, rfl, _, _, rfl, _, rfl, ?_, ?_, ?_⟩
  · split <;> omega
  · split <;> omega
  refine for_range (lo := 0) (n := (if n < m then n else m).toNat) (fun i σ H' => ∃ (t : Str) (v : Option V), σ = [some (.ref a), some (.int n), some (.int kd), some (.int m), some (.str z), some (.str t), v] ∧ t.length ≤ i ∧ StStep a l H H') ⟨_, none, rfl, by decide, s3⟩ ?_ ?_
  · rintro i σ H' hi ⟨t, v, rfl, tl, s4⟩
    have hi' : i < 30 := by split at hi <;> omega
    refine ⟨_, rfl, _, rfl, _, rfl, _, rfl, _, rfl, sz (by omega), rfl, a, l, _, rfl, s4.2, (by unfold Bd; omega), fun r H5 r0 r1 s5 => ?_⟩
    have hr : r.toNat < z.cps.toList.length := by
      have : z.cps.toList.length = z.length := by simp [PySem.Str.length]
      omega
    obtain ⟨ρ, rfl⟩ : ∃ ρ : Nat, r = (ρ : Int) := ⟨r.toNat, by omega⟩
    refine ⟨z, _, z.cps.toList[ρ], rfl, rfl, sz (by omega), atI_nat (List.getElem?_eq_getElem hr), _, _, rfl, rfl, sz (by rw [show (⟨#[z.cps.toList[ρ]]⟩ : Str).length = 1 from rfl]; omega), _, _, rfl, ?_, s4.trans s5⟩
    rw [str_app]
    exact Nat.succ_le_succ tl
  · rintro σ H' ⟨t, v, rfl, tl, s4⟩
    refine ⟨_, rfl, k t _ ?_ s4⟩
    split at tl <;> omega
end
end MH
/-! part D4 -/
set_option Elab.async false
set_option linter.all false
set_option maxRecDepth 100000
set_option maxHeartbeats 4000000
namespace MH
open PySem PySem.Spec PyProof.Rows L2
section
variable {P : Program} {w : World} {K : Fr} {mg : Str → Option Value} {base : Heap}
theorem inV_str (x : Str) (xs : List Str) : inV (.str x) (xs.map V.str) = decide (x ∈ xs) := by
  unfold inV
  rw [List.any_map]
  show (xs.any fun y => y == x) = _
  rw [Bool.eq_iff_iff, List.any_eq_true, decide_eq_true_iff]
  constructor
  · rintro ⟨y, h, e⟩; rw [beq_iff_eq] at e; rw [← e]; exact h
  · intro h; exact ⟨x, h, beq_self_eq_true x⟩
theorem flat_strs (xs : List Str) : (xs.map V.str).all flatV = true := by
  rw [List.all_map]; exact List.all_eq_true.mpr fun _ _ => rfl
theorem cutS_len (z : Str) (lo hi : Option Int) : (cutS z lo hi).length ≤ z.length := by
  have : z.length = z.cps.toList.length := by simp [PySem.Str.length]
  unfold cutS
  show (List.toArray _).size ≤ _
  rw [List.size_toArray, List.length_take, List.length_drop, this]
  omega
/-- unlike texts, at most so many, at least one if asked -/
def sp_law_texts : Sp := spx 3 fun vs H Q _ => ∃ (a l : Addr) (n m : Int), vs = [.ref a, .int n, .int m] ∧ 0 ≤ n ∧ n ≤ 40 ∧ 1 ≤ m ∧ m ≤ 20 ∧ StOk a l H ∧
  ∀ (p : Addr) (xs : List Str) H', StStep a l H H' → H p = none → p ≠ a → p ≠ l → H' p = some (.lst (xs.map V.str)) → xs.Nodup → (xs.length : Int) ≤ n → (1 ≤ n → xs ≠ []) → Q (.ref p) H'
theorem sc_law_texts : FnScope ["_law_state", "_law_many", "_law_most", "_law_one_place", "_law_base", "_law_place", "_law_found", "_law_k", "_law_text_here"] ["_law_state", "_law_many", "_law_most"] (defScope s_law_texts) := ⟨rfl, rfl, rfl, by decide +kernel, rfl, by decide +kernel, by decide +kernel⟩
theorem c_law_texts (T : Tx K mg) (G_law_draw : Cal P w K mg base 1 "_law_draw" ["_law_state", "_law_limit"] sp_law_draw) (G_law_text : Cal P w K mg base 2 "_law_text" ["_law_state", "_law_most"] sp_law_text) (G_law_signs : Cal P w K mg base 1 "_law_signs" [] sp_law_signs) : Cal P w K mg base 3 "_law_texts" ["_law_state", "_law_many", "_law_most"] sp_law_texts := by
  refine T.cal 54 rfl 26 rfl sc_law_texts (fun _ _ _ _ h => h.1) (fun _ _ _ _ _ _ us hl => match us, hl with | [_, _, _], _ => rfl) (fun cdv A outer s H vs Q E hr h => ?_)
  have nd := sc_law_texts.nd
  have hu := hu_of hr
  refine ⟨_, (pss_cons (ps_set (i := 3) nd rfl (Or.inl rfl) (pe_cmpR op_eq (pe_cal G_law_draw (hr.mono (by decide)) (pa_cons (pv 0) (pa_cons pe_int pa_nil))) pe_int (nomark _)))
      (pss_cons (ps_set (i := 4) nd rfl (Or.inl rfl) (pe_cal G_law_text (hr.mono (by decide)) (pa_cons (pv 0) (pa_cons (pe_op op_sub (pv 2) pe_int) pa_nil))))
      (pss_cons (ps_set (i := 5) nd rfl (Or.inl rfl) (pe_cal G_law_draw (hr.mono (by decide)) (pa_cons (pv 0) (pa_cons (pe_op op_add (pe_callB call_len_str (by rfl) T.f_len (by decide +kernel) (pa_cons (pv 4) pa_nil)) pe_int) pa_nil))))
      (pss_cons (ps_set (i := 6) nd rfl (Or.inl rfl) (pe_lst pa_nil))
      (pss_cons (ps_for PassesOwn.never rfl (pi_range1 rfl T.f_range (pa_cons (pv 1) pa_nil)) (pg_name (i := 7) nd rfl (Or.inl rfl)) (pss_cons (ps_if (pt_val (pv 3)) (pss_one (ps_set (i := 8) nd rfl (Or.inl rfl) (pe_op op_add_str (pe_op op_add_str (pe_slice sl_str (pv 4) po_none (po_some (pv 5))) (pe_ix ix_str (pe_cal0 G_law_signs (hr.mono (by decide))) (pe_cal G_law_draw (hr.mono (by decide)) (pa_cons (pv 0) (pa_cons pe_int pa_nil))) (fun _ _ => rfl))) (pe_slice sl_str (pv 4) (po_some (pe_op op_add (pv 5) pe_int)) po_none)))) (pss_one (ps_set (i := 8) nd rfl (Or.inl rfl) (pe_cal G_law_text (hr.mono (by decide)) (pa_cons (pv 0) (pa_cons (pv 2) pa_nil))))))
      (pss_one (ps_if (pt_cmpR (op_notInK (K := K)) (pv 8) (pv 6) (by rfl)) (pss_one (ps_expr (pe_bm PySem.F.plainAttrs_list PySem.F.slot_list_append PySem.F.type_list_append mt_append (pv 6) (pa_cons (pv 8) pa_nil)))) pss_nil))))
      (pss_one (ps_ret (pv 6)))))))), ?_⟩
  obtain ⟨_, a, l, n, m, rfl, n0, n1, m0, m1, hS, k⟩ := h
  refine ⟨_, rfl, rfl, a, l, _, rfl, hS, by decide, fun r0 H1 _ _ s1 => ⟨rfl, ?_⟩⟩
  generalize hb : decide (V.int r0 = V.int 0) = one
  refine ⟨_, rfl, _, rfl, _, _, rfl, rfl, rfl, a, l, _, rfl, (by omega), (by omega), s1.2, fun z H2 hz s2 => ?_⟩
  refine ⟨_, rfl, _, rfl, _, rfl, sz (by omega), _, _, rfl, rfl, rfl, a, l, _, rfl, s2.2, (by unfold Bd; omega), fun pl H3 p0 p1 s3 => ?_⟩
  refine ⟨Nat.zero_le _, fun p hp => ?_⟩
  obtain ⟨npa, npl⟩ := s3.2.fresh hp
  have s13 := (s1.trans s2).trans s3
  have hp0 : H p = none := freeS s13.1 npa hp
  refine ⟨_, rfl, n, rfl, by omega, by omega, for_range (lo := 0) (n := n.toNat) (fun i σ H' => ∃ (xs : List Str) (v t : Option V), σ = [some (.ref a), some (.int n), some (.int m), some (.bl one), some (.str z), some (.int pl), some (.ref p), v, t] ∧ StStep a l H H' ∧ H' p = some (.lst (xs.map V.str)) ∧ xs.Nodup ∧ xs.length ≤ i ∧ (1 ≤ i → xs ≠ [])) ⟨[], none, none, rfl, s13.mut hp0 npa npl, upd_same, List.nodup_nil, Nat.le_refl _, fun z => absurd z (by decide)⟩ ?_ ?_⟩
  · rintro i σ H' hi ⟨xs, v, t, rfl, s4, hx, nd1, hl, hne⟩
    -- the end of a turn, whatever the text
    have fin : ∀ (t : Str) (H5 : Hp), StStep a l H' H5 → (tIfS (tTest (tOp (rIn K true) (tVar 8) (tVar 6))) (tDrop (tBM K "list" rAppend (tVar 6) (tCons (tVar 8) tNil))) tNext) { nx := fun σ H' => ∃ (xs : List Str) (v t : Option V), σ = [some (.ref a), some (.int n), some (.int m), some (.bl one), some (.str z), some (.int pl), some (.ref p), v, t] ∧ StStep a l H H' ∧ H' p = some (.lst (xs.map V.str)) ∧ xs.Nodup ∧ xs.length ≤ i + 1 ∧ (1 ≤ i + 1 → xs ≠ []), rt := Q } [some (.ref a), some (.int n), some (.int m), some (.bl one), some (.str z), some (.int pl), some (.ref p), some (.int (0 + i)), some (.str t)] H5 := by
      intro t H5 s5
      have hx5 := keepS s5.1 npa hx
      refine ⟨_, rfl, _, rfl, p, _, rfl, .inl (SqL.of hx5), rfl, flat_strs xs, _, rfl, ?_⟩
      rw [inV_str]
      by_cases c : t ∈ xs
      · rw [decide_eq_true c]
        refine iteF ⟨xs, _, _, rfl, s4.trans s5, hx5, nd1, by omega, fun _ z => by rw [z] at c; cases c⟩
      · rw [decide_eq_false c]
        refine iteT ⟨_, rfl, .inl ⟨rfl, _, SqL.of hx5⟩, _, rfl, p, _, _, rfl, rfl, hx5, sz_lt (by rw [List.length_map]; omega), ?_⟩
        refine ⟨xs ++ [t], _, _, rfl, (s4.trans s5).mut hp0 npa npl, ?_, ?_, ?_, fun _ z => by simp at z⟩
        · rw [upd_same, List.map_append]; rfl
        · rw [List.nodup_append]
          refine ⟨nd1, (by simp), ?_⟩
          intro x hx y hy e
          rw [List.mem_singleton] at hy
          rw [hy] at e; rw [e] at hx; exact c hx
        · rw [List.length_append, List.length_singleton]; omega
    refine ⟨_, rfl, one, rfl, ?_⟩
    refine ite2 (fun _ => ?_) (fun _ => ?_)
    · refine ⟨_, rfl, _, rfl, pl, rfl, z, rfl, sz (by omega), rfl, rfl, fun w hw => ?_⟩
      refine ⟨_, rfl, rfl, a, l, _, rfl, s4.2, by decide, fun r H5 r0 r1 s5 => ?_⟩
      have hr : r.toNat < w.cps.toList.length := by
        have : w.cps.toList.length = w.length := by simp [PySem.Str.length]
        omega
      obtain ⟨ρ, rfl⟩ : ∃ ρ : Nat, r = (ρ : Int) := ⟨r.toNat, by omega⟩
      have c1 := cutS_len z none (some pl)
      have c2 := cutS_len z (some (pl + 1)) none
      refine ⟨w, _, w.cps.toList[ρ], rfl, rfl, sz (by omega), atI_nat (List.getElem?_eq_getElem hr), _, _, rfl, rfl, sz (by rw [show (⟨#[w.cps.toList[ρ]]⟩ : Str).length = 1 from rfl]; omega), ?_⟩
      refine ⟨_, rfl, _, rfl, _, _, rfl, rfl, _, rfl, z, rfl, sz (by omega), _, _, rfl, rfl, sz (by rw [str_app, show (⟨#[w.cps.toList[ρ]]⟩ : Str).length = 1 from rfl]; omega), ?_⟩
      exact fin _ _ s5
    · exact ⟨_, rfl, _, rfl, rfl, a, l, _, rfl, (by omega), (by omega), s4.2, fun t H5 _ s5 => fin t H5 s5⟩
  · rintro σ H' ⟨xs, v, t, rfl, s4, hx, nd1, hl, hne⟩
    exact ⟨_, rfl, k p xs _ s4 hp0 npa npl hx nd1 (by omega) fun h1 => hne (by omega)⟩
/-- a weight from 1 on, below 10 ^ 40 -/
def sp_law_weight : Sp := spx 2 fun vs H Q _ => ∃ (a l : Addr) (n : Int), vs = [.ref a, .int n] ∧ StOk a l H ∧ ∀ (r : Int) H', 1 ≤ r → r < e40 + 100 → StStep a l H H' → Q (.int r) H'
theorem e40_pos : 0 < e40 := by decide
theorem sc_law_weight : FnScope ["_law_state", "_law_kind"] ["_law_state", "_law_kind"] (defScope s_law_weight) := ⟨rfl, rfl, rfl, by decide +kernel, rfl, by decide +kernel, by decide +kernel⟩
theorem c_law_weight (T : Tx K mg) (G_law_draw : Cal P w K mg base 1 "_law_draw" ["_law_state", "_law_limit"] sp_law_draw) (G_law_wide : Cal P w K mg base 2 "_law_wide" ["_law_state"] sp_law_wide) : Cal P w K mg base 3 "_law_weight" ["_law_state", "_law_kind"] sp_law_weight := by
  refine T.cal 55 rfl 27 rfl sc_law_weight (fun _ _ _ _ h => h.1) (fun _ _ _ _ _ _ us hl => match us, hl with | [_, _], _ => rfl) (fun cdv A outer s H vs Q E hr h => ?_)
  have nd := sc_law_weight.nd
  have hu := hu_of hr
  refine ⟨_, (pss_cons (ps_if (pt_cmpR op_lt (pv 1) pe_int (nomark _)) (pss_one (ps_ret (pe_op op_add pe_int (pe_cal G_law_draw (hr.mono (by decide)) (pa_cons (pv 0) (pa_cons pe_int pa_nil)))))) pss_nil)
      (pss_cons (ps_if (pt_cmpR op_lt (pv 1) pe_int (nomark _)) (pss_one (ps_ret (pe_op op_add pe_int (pe_cal G_law_draw (hr.mono (by decide)) (pa_cons (pv 0) (pa_cons pe_int pa_nil)))))) pss_nil)
      (pss_cons (ps_if (pt_cmpR op_eq (pv 1) pe_int (nomark _)) (pss_one (ps_ret (pe_op op_add pe_int (pe_op op_mulW pe_int (pe_cal G_law_draw (hr.mono (by decide)) (pa_cons (pv 0) (pa_cons pe_int pa_nil))))))) pss_nil)
      (pss_one (ps_ret (pe_callB (call_max2 rfl) (by rfl) T.f_max (by decide +kernel) (pa_cons pe_int (pa_cons (pe_cal G_law_wide (hr.mono (by decide)) (pa_cons (pv 0) pa_nil)) pa_nil)))))))), ?_⟩
  obtain ⟨_, a, l, n, rfl, hS, k⟩ := h
  have e0 := e40_pos
  refine ⟨_, rfl, _, _, rfl, rfl, _, rfl, ?_⟩
  refine ite2 (fun _ => ?_) (fun _ => ?_)
  · exact ⟨_, rfl, rfl, a, l, _, rfl, hS, by decide, fun r H1 r0 r1 s1 => ⟨_, _, rfl, rfl, k _ _ (by omega) (by omega) s1⟩⟩
  refine ⟨_, rfl, _, _, rfl, rfl, _, rfl, ?_⟩
  refine ite2 (fun _ => ?_) (fun _ => ?_)
  · exact ⟨_, rfl, rfl, a, l, _, rfl, hS, by decide, fun r H1 r0 r1 s1 => ⟨_, _, rfl, rfl, k _ _ (by omega) (by omega) s1⟩⟩
  refine ⟨_, rfl, rfl, _, rfl, ?_⟩
  refine ite2 (fun _ => ?_) (fun _ => ?_)
  · exact ⟨_, rfl, rfl, a, l, _, rfl, hS, by decide, fun r H1 r0 r1 s1 => ⟨_, _, rfl, rfl, wmul (a := 10) (b := 10) (by decide) (by unfold Bd; omega) (by decide), _, _, rfl, rfl, k _ _ (by omega) (by omega) s1⟩⟩
  · refine ⟨_, rfl, rfl, a, l, rfl, hS, fun r H1 r0 r1 s1 => ⟨_, _, rfl, ?_⟩⟩
    refine k _ _ ?_ ?_ s1
    · split <;> omega
    · split <;> omega
abbrev Ws := List (Str × Int)
abbrev RWs : Rl Ws := RLst (RPr RStr RInt)
/-- unlike texts with weights -/
def sp_law_pairs : Sp := spx 2 fun vs H Q _ => ∃ (a l : Addr) (n : Int), vs = [.ref a, .int n] ∧ 2 ≤ n ∧ n ≤ 20 ∧ StOk a l H ∧
  ∀ (v : V) (ws : Ws) H', StStep a l H H' → RWs (fr H H') v ws → (ws.map (·.1)).Nodup → ws.length ≤ 20 → ws ≠ [] → (∀ x ∈ ws, 1 ≤ x.2 ∧ x.2 < e40 + 100) → Q v H'
theorem map_some {α β : Type} {f : α → β} {xs : List α} {i : Nat} {y : β} (h : (xs.map f)[i]? = some y) : ∃ x, xs[i]? = some x ∧ y = f x := by
  rw [List.getElem?_map] at h
  cases e : xs[i]? with
  | none => rw [e] at h; cases h
  | some x => rw [e] at h; exact ⟨x, rfl, (Option.some.inj h).symm⟩
theorem take_more {α : Type} : ∀ {l : List α} {i : Nat} {x : α}, l[i]? = some x → l.take (i + 1) = l.take i ++ [x]
  | [], i, x, h => by simp at h
  | a :: l, 0, x, h => by
    have e : a = x := Option.some.inj h
    subst e; rfl
  | a :: l, i + 1, x, h => by
    have ih := take_more (l := l) (i := i) (x := x) h
    show a :: l.take (i + 1) = a :: l.take i ++ [x]
    rw [ih]; rfl
theorem sc_law_pairs : FnScope ["_law_state", "_law_most", "_law_many", "_law_kind", "_law_text_here"] ["_law_state", "_law_most"] (defScope s_law_pairs) := ⟨rfl, rfl, rfl, by decide +kernel, rfl, by decide +kernel, by decide +kernel⟩
theorem c_law_pairs (T : Tx K mg) (G_law_draw : Cal P w K mg base 1 "_law_draw" ["_law_state", "_law_limit"] sp_law_draw) (G_law_texts : Cal P w K mg base 3 "_law_texts" ["_law_state", "_law_many", "_law_most"] sp_law_texts) (G_law_weight : Cal P w K mg base 3 "_law_weight" ["_law_state", "_law_kind"] sp_law_weight) : Cal P w K mg base 4 "_law_pairs" ["_law_state", "_law_most"] sp_law_pairs := by
  refine T.cal 56 rfl 28 rfl sc_law_pairs (fun _ _ _ _ h => h.1) (fun _ _ _ _ _ _ us hl => match us, hl with | [_, _], _ => rfl) (fun cdv A outer s H vs Q E hr h => ?_)
  have nd := sc_law_pairs.nd
  have hu := hu_of hr
  refine ⟨_, (pss_cons (ps_set (i := 2) nd rfl (Or.inl rfl) (pe_op op_add pe_int (pe_cal G_law_draw (hr.mono (by decide)) (pa_cons (pv 0) (pa_cons (pe_callB (call_min2 rfl) (by rfl) T.f_min (by decide +kernel) (pa_cons pe_int (pa_cons (pe_op op_sub (pv 1) pe_int) pa_nil))) pa_nil)))))
      (pss_cons (ps_if (pt_cmpR op_eq (pe_cal G_law_draw (hr.mono (by decide)) (pa_cons (pv 0) (pa_cons pe_int pa_nil))) pe_int (nomark _)) (pss_one (ps_set (i := 2) nd rfl (Or.inl rfl) (pe_op op_add pe_int (pe_cal G_law_draw (hr.mono (by decide)) (pa_cons (pv 0) (pa_cons (pv 1) pa_nil)))))) pss_nil)
      (pss_cons (ps_set (i := 3) nd rfl (Or.inr rfl) (pe_cal G_law_draw (hr.mono (by decide)) (pa_cons (pv 0) (pa_cons pe_int pa_nil))))
      (pss_one (ps_ret (pe_lc (own := [("_law_text_here", 4)]) (g := (gName 4)) (tt := tYes) (by rfl) nd (pi_list (pe_cal G_law_texts (hr.mono (by decide)) (pa_cons (pv 0) (pa_cons (pv 2) (pa_cons pe_int pa_nil))))) (blkOk_by (own := [("_law_text_here", 4)]) (N := ["_law_state", "_law_most", "_law_many", "_law_kind", "_law_text_here"]) (sc := defScope s_law_pairs) (by decide +kernel)) (fun _ _ _ _ _ => (pg_name (i := 4) nd rfl (Or.inl rfl))) (fun _ _ _ _ _ => pts_nil) (fun _ _ _ _ _ => (pe_tup (pa_cons (pv 4) (pa_cons (pe_cal G_law_weight (hr.mono (by decide)) (pa_cons (pv 0) (pa_cons (pv 3) pa_nil))) pa_nil)))))))))), ?_⟩
  obtain ⟨_, a, l, n, rfl, n0, n1, hS, k⟩ := h
  refine ⟨_, rfl, _, rfl, _, _, rfl, rfl, _, _, rfl, rfl, a, l, _, rfl, hS, ?_, fun r H1 r0 r1 s1 => ⟨_, _, rfl, rfl, ?_⟩⟩
  · unfold Bd; split <;> omega
  have r1' : r < 4 := by split at r1 <;> omega
  refine ⟨_, rfl, rfl, a, l, _, rfl, s1.2, by decide, fun q H2 q0 q1 s2 => ⟨rfl, _, rfl, ?_⟩⟩
  -- the rest, from any number of texts
  have rest : ∀ (many : Int) (H3 : Hp), 1 ≤ many → many ≤ 20 → StStep a l H H3 → (tSeq (tAsg (tCall sp_law_draw [] E0 (tCons (tVar 0) (tCons (tC (.int 8)) tNil))) (gName 3)) (tRet (tLc (iList K (tCall sp_law_texts [] E0 (tCons (tVar 0) (tCons (tVar 2) (tCons (tC (.int 10)) tNil))))) (gName 4) tYes (tTup (tCons (tVar 4) (tCons (tCall sp_law_weight [] E0 (tCons (tVar 0) (tCons (tVar 3) tNil))) tNil))) [4]))) { nx := fun _ H' => Q .non H', rt := Q } [some (.ref a), some (.int n), some (.int many), none, none] H3 := by
    intro many H3 m0 m1 s3
    refine ⟨_, rfl, rfl, a, l, _, rfl, s3.2, by decide, fun kd H4 _ _ s4 => ?_⟩
    refine ⟨_, rfl, _, rfl, rfl, a, l, _, _, rfl, by omega, by omega, by decide, by decide, s4.2, fun p xs H5 s5 hp npa npl hx nd1 hl hne => ?_⟩
    have s35 := (s3.trans s4).trans s5
    obtain ⟨⟨oa, hoa⟩, _, _⟩ := hS.get
    have hp0 : H p = none := freeS (s3.trans s4).1 npa hp
    refine ⟨p, rfl, ⟨_, SqL.of hx⟩, fun D hD => ?_⟩
    obtain ⟨nDa, nDl⟩ := s35.2.fresh hD
    have hD0 : H D = none := freeS s35.1 nDa hD
    have npD : p ≠ D := ne_of_none hx hD
    refine lc_list (K := K) (a := p) (xs := xs.map V.str) (fun i H' => ∃ (vs : List V) (ws : Ws), H' D = some (.lst vs) ∧ Paired (RPr RStr RInt (nw D H H')) vs ws ∧ ws.map (·.1) = xs.take i ∧ (∀ x ∈ ws, 1 ≤ x.2 ∧ x.2 < e40 + 100) ∧ StStep a l H H' ∧ H' p = some (.lst (xs.map V.str)))
      ⟨[], [], upd_same, .nil, rfl, (fun _ h => absurd h List.not_mem_nil), s35.mut hD0 nDa nDl, by rw [upd_ne npD]; exact hx⟩ (fun i H' _ ⟨_, _, _, _, _, _, _, h⟩ => SqL.of h) ?_ ?_
    · rintro i x H' hi ⟨vs, ws, hv, hw, he, hb, s6, hx6⟩
      obtain ⟨t, ht, rfl⟩ := map_some hi
      refine ⟨rfl, yes_t ?_⟩
      refine ⟨_, rfl, _, rfl, _, rfl, rfl, a, l, _, rfl, s6.2, fun wt H7 w0 w1 s7 => ?_⟩
      refine ⟨by show 2 ≤ sizeLine; decide, fun T hT => ?_⟩
      have hv7 := keepS s7.1 nDa hv
      have nTD : T ≠ D := (ne_of_none hv7 hT).symm
      have hT0 : H T = none := freeS (s6.trans s7).1 (s7.2.fresh hT).1 hT
      have hil : i < xs.length := (List.getElem?_eq_some_iff.mp ht).1
      have wl : ws.length = i := by
        have := congrArg List.length he
        rw [List.length_map, List.length_take] at this
        omega
      refine ⟨vs, by rw [upd_ne nTD.symm]; exact hv7, sz_lt (by rw [paired_len hw, wl]; omega), vs ++ [.ref T], ws ++ [(t, wt)], upd_same, ?_, ?_, ?_, ((s6.trans s7).more (same_new hT)).mut hD0 nDa nDl, ?_⟩
      · rw [nw_mut]
        refine paired_app (paired_up hw fun _ _ => Mo.up ((nw_upS s7.1 hoa).trans (nw_up (same_new hT)))) (.cons ⟨T, _, _, rfl, ?_, rfl, rfl⟩ .nil)
        rw [nw_at hT0 nTD, upd_same]
      · rw [List.map_append, he, take_more ht]; rfl
      · intro y hy
        rcases List.mem_append.mp hy with h | h
        · exact hb y h
        · rw [List.mem_singleton] at h; rw [h]; exact ⟨w0, w1⟩
      · rw [upd_ne npD, upd_ne (ne_of_none (keepS s7.1 npa hx6) hT)]
        exact keepS s7.1 npa hx6
    · rintro H' ⟨vs, ws, hv, hw, he, hb, s6, hx6⟩
      have he' : ws.map (·.1) = xs := by rw [he, List.length_map, List.take_length]
      have wl : ws.length = xs.length := by rw [← he', List.length_map]
      refine k (.ref D) ws H' s6 ⟨D, vs, rfl, by rw [fr_at hD0]; exact hv, paired_up hw fun _ _ => Mo.up same_nw⟩ (by rw [he']; exact nd1) (by omega) ?_ hb
      intro z
      rw [z] at wl
      exact hne (by omega) (List.eq_nil_of_length_eq_zero wl.symm)
  refine ite2 (fun _ => ?_) (fun _ => ?_)
  · refine ⟨_, rfl, _, rfl, rfl, a, l, _, rfl, s2.2, (by unfold Bd; omega), fun q H3 q0 q1 s3 => ⟨_, _, rfl, rfl, ?_⟩⟩
    exact rest (1 + q) H3 (by omega) (by omega) ((s1.trans s2).trans s3)
  · exact rest (2 + r) H2 (by omega) (by omega) (s1.trans s2)
end
end MH
/-! part R2 -/
set_option Elab.async false
set_option linter.all false
set_option maxRecDepth 100000
set_option maxHeartbeats 4000000
/-! shares that are compared by !=, subtracted by -; isinstance of an own class. -/
namespace MH
open PySem PySem.Spec PyProof.Rows L2
section
variable {prog : Program} {w : World} {A : Around} {E : Value → Shared → Prop} {s : Shared} {K : Fr} {x C L f : Addr} {h₀ : Heap} {m : Str → Option Value} {ox : Obj} {od : Option Obj} {b : Value}
theorem entry_neK (hu : A.units < cLine) (X : K.In s.heap) (I : PySem.W.InstAt s.heap x ox C od) (hs : PySem.W.findIn K (.ref C) "__eq__" = some (some (.ref f))) (hf : PySem.W.isFn K (.ref f) = true) {Q : Fin → Shared → Prop}
    (h : wpAny (model prog w) A (call (.ref f) [.ref x, b]) (fun v s' => ∃ r, v = .bool r ∧ Q (.done (.ret (.bool (!r)))) s') E s) : wpAny (model prog w) A (Builtin.«object.__ne__» ⟨[.ref x, b], []⟩) Q E s := by
  unfold Builtin.«object.__ne__»
  repeat (first
    | with_reducible refine wpAny_cRoomFor hu ?_
    | (refine wpAny_bind (m := callSpecialIfBound? (.ref x) (Str.ofString "__eq__") [b])
        (PySem.W.ifBound_K X I hs hf (wpAny_mono h (fun r s' hr => by
          obtain ⟨b, rfl, hq⟩ := hr
          repeat (first | exact hq | exact wpAny_pure hq | exact wpAny_truthy_bool hq | (refine wpAny_bind (m := truthy (.bool _)) (wpAny_truthy_bool ?_)) | wp_step)) fun _ _ e => e)))
    | wp_step)
theorem ifBound_neB {M : Model} {args : List Value} {Q : Option Value → Shared → Prop} (X : K.In s.heap) (I : PySem.W.InstAt s.heap x ox C od) (hn : PySem.W.findIn K (.ref C) "__ne__" = some (some (.builtin "object.__ne__")))
    (h : wpAny M A (call (.builtin "object.__ne__") (.ref x :: args)) (fun v => Q (some v)) E s) : wpAny M A (callSpecialIfBound? (.ref x) "__ne__" args) Q E s := by
  simp only [callSpecialIfBound?, bindSpecialIfBound?]
  refine wpAny_holding (wpAny_bind (wpAny_bind (wpAny_bind (I.type.here ((PySem.W.looks_findIn X hn).here ?_)))))
  refine wpAny_bind (wpAny_askSetting (wpAny_ite ?_))
  have go : wpAny M A (call (.builtin "object.__ne__") ([.ref x] ++ args) >>= fun v => pure (some v)) Q E s := wpAny_bind (wpAny_mono h (fun v s' z => wpAny_pure z) fun _ _ z => z)
  split
  · exact wpAny_bind (wpAny_of_eq (F.cmp_object.ne.bind _) (wpAny_pure (by exact go)))
  · exact wpAny_tryCatch (wpAny_bind (wpAny_of_eq (F.cmp_object.ne.bind _) (wpAny_pure (by exact go))))
theorem ne_K {Q : Value → Shared → Prop} (hu : A.units + 1 < cLine) (Fm : PyProof.Rows.Fr h₀ L s.heap m) (X₀ : K.In h₀) (I : PySem.W.InstAt s.heap x ox C od) (hb : PySem.W.Looks (model prog w) s.heap (typeOf b) (.ref C)) (hm : PySem.W.mroIn K C (.type "object") = some true)
    (hn : PySem.W.findIn K (.ref C) "__ne__" = some (some (.builtin "object.__ne__"))) (hs : PySem.W.findIn K (.ref C) "__eq__" = some (some (.ref f))) (hf : PySem.W.isFn K (.ref f) = true)
    (h : wpAny (model prog w) A.in1 (call (.ref f) [.ref x, b]) (fun v s' => ∃ r, v = .bool r ∧ Q (.bool (!r)) s') E s) : wpAny (model prog w) A (richCompare .NotEq (.ref x) b) Q E s := by
  have X := X₀.keeps Fm.keep
  have back : wpAny (model prog w) A (call (.builtin "object.__ne__") [.ref x, b]) (fun v s' => ∃ r, v = .bool r ∧ Q (.bool r) s') E s := by
    refine wpAny_call (codeAny_call_builtin F.cmp_object.ne.plain F.cmpEntry_ne (PySem.W.check_slot F.cmpKind_ne F.cmpSplit_ne (I.type.andThen (PySem.W.looks_mroIn X hm)) (F.cmpArgs_ne _ _) (entry_neK (A := A.in1) hu X I hs hf (wpAny_mono h (fun v s' z => ?_) fun _ _ e => e))))
    obtain ⟨r, rfl, q⟩ := z
    exact ⟨r, rfl, ⟨!r, rfl, q⟩⟩
  have one : wpAny (model prog w) A (tryCompare (.ref x) "__ne__" b) (fun r s' => ∃ v, r = some v ∧ Q v s') E s := by
    unfold tryCompare
    refine wpAny_bind (ifBound_neB X I hn (wpAny_mono back (fun v s' z => ?_) fun _ _ e => e))
    obtain ⟨r, rfl, q⟩ := z
    exact wpAny_pure ⟨_, rfl, q⟩
  unfold richCompare
  simp only [oneThing_ref]
  refine wpAny_holding (wpAny_bind (wpAny_cRoomFor (Nat.lt_of_succ_lt hu) ?_))
  refine wpAny_bind (I.type.here (wpAny_bind (hb.here ?_)))
  rw [show (Value.ref C != Value.ref C) = false from by simp]
  simp only [Bool.false_eq_true, if_false]
  refine wpAny_bind (wpAny_pure ?_)
  simp only [Bool.false_eq_true, if_false]
  refine wpAny_bind (wpAny_mono one (fun r s' z => ?_) fun _ _ e => e)
  obtain ⟨v, rfl, q⟩ := z
  exact wpAny_pure q
end
theorem Tx.exs {K : Fr} {mg : Str → Option Value} (T : Tx K mg) : PySem.W.selfFirst K (He.ga K "Share") = true ∧ PySem.W.findIn K (.ref (He.ga K "Share")) "__ne__" = some (some (.builtin "object.__ne__")) ∧ PySem.W.mroIn K (He.ga K "Share") (.type "object") = some true ∧
    PySem.W.findIn K (.ref (He.ga K "Share")) "__class__" = some (some (.builtin "object.__class__")) ∧ PySem.W.specialIn K (.builtin "object.__class__") "__get__" = some (some (.builtin "getset_descriptor.__get__")) ∧ PySem.W.takesIn K (.builtin "object.__class__") = some true := by
  obtain ⟨h1, h⟩ := Bool.and_eq_true_iff.mp T.ex
  obtain ⟨h2, h⟩ := Bool.and_eq_true_iff.mp h
  obtain ⟨h3, h⟩ := Bool.and_eq_true_iff.mp h
  obtain ⟨h4, h⟩ := Bool.and_eq_true_iff.mp h
  obtain ⟨h5, h6⟩ := Bool.and_eq_true_iff.mp h
  exact ⟨h1, of_decide_eq_true h2, of_decide_eq_true h3, of_decide_eq_true h4, of_decide_eq_true h5, of_decide_eq_true h6⟩
section
variable {X : Cx} {pins : List (Addr × Obj)} {σ : L2.St} {H : Hp} {s : Shared}
/-- a def called from below the running body -/
theorem run_in {A : Around} {Q : VK} {us : List Value} {vs : List V} {k : Nat} {f : Addr} {fd : FuncData} {ps : List Str} {sp : Sp} (F : FnOk X.prog X.w X.K X.mg X.base CX0 k f fd ps sp) (hr : Room k A) (hfr : A.frames = X.A.frames) (hb : Binds X.K fd ps []) (I : Inv X pins σ H s) (r : Vals vs us) (h : sp vs H Q E0) :
    wpAny (model X.prog X.w) A (call (.ref f) us) (EP X pins σ Q) X.xe s := by
  have e := I.env0
  have e0 : Env0 X.prog X.w X.K X.mg X.base A X.stack s H := ⟨by rw [hfr]; exact e.frames, e.mod, e.bs, e.bsz, e.funs, e.frf, e.hok, e.bare⟩
  have hl := F.len _ _ _ _ h
  have hu : (us ++ []).length = ps.length := by rw [List.append_nil, ← r.length]; exact hl
  have bt := hb s us I.kIn hu
  rw [List.append_nil] at bt
  refine wpAny_call (codeAny_mono (F.run A X.stack s H ⟨us, []⟩ us vs Q E0 hr e0 bt r h) fun r s' hq => ?_)
  cases r with
  | error e => exact False.elim hq
  | ok fl =>
    cases fl with
    | ret w => exact I.after hq
    | next => exact False.elim hq
    | brk => exact False.elim hq
    | cont => exact False.elim hq
end
/-- x - y of two shares, by their own __sub__ -/
def rSubS (K : Fr) (sp : Sp) : R2 := fun x y H Q => ∃ p q dx dy fs gs, x = .ref p ∧ y = .ref q ∧ H p = some (.ins (He.ga K "Share") dx fs) ∧ H q = some (.ins (He.ga K "Share") dy gs) ∧ sp [.ref p, .ref q] H (fun v H' => (∃ c, v = .ref c) ∧ Q v H') E0
theorem op_subShare {X : Cx} {k j : Nat} {sp : Sp} (T : Tx X.K X.mg) (G : Met X.prog X.w X.K X.mg X.base k (He.ga X.K "Share") "__sub__" ["self", "other"] sp) (hr : Room k X.A) : OpR X (binaryOp .Sub) (rSubS X.K sp) := by
  intro pins s σ H x y v u Q I rx ry h
  obtain ⟨p, q, dx, dy, fs, gs, rfl, rfl, hp, hq, h⟩ := h
  obtain ⟨f, fd, F, c, M, b⟩ := G
  cases rx
  cases ry
  obtain ⟨mA, J, _⟩ := ins_get I.hok hp
  obtain ⟨mB, J', _⟩ := ins_get I.hok hq
  obtain ⟨od, J, _⟩ := J.look
  obtain ⟨od', J', _⟩ := J'.look
  obtain ⟨m, hF⟩ := I.fr
  refine PySem.W.binop_K (op := .Sub) hF I.ok.mod.kin J J'.type T.exs.1 M.at_ M.fn (wpAny_mono (run_in F hr rfl b I (show Vals [V.ref p, V.ref q] [Value.ref p, Value.ref q] from .cons rfl (.cons rfl .nil)) h) (fun r s' z => ?_) fun _ _ e => e)
  obtain ⟨w, H', I', rw', ⟨c, rfl⟩, z⟩ := z
  cases rw'
  exact ⟨.ref c, H', I', rfl, z⟩
/-- x != y of two shares, by their own __eq__ -/
def rNeS (K : Fr) (sp : Sp) : R2 := fun x y H Q => ∃ p q dx dy fs gs, x = .ref p ∧ y = .ref q ∧ H p = some (.ins (He.ga K "Share") dx fs) ∧ H q = some (.ins (He.ga K "Share") dy gs) ∧ sp [.ref p, .ref q] H (fun v H' => ∃ r, v = .bl r ∧ Q (.bl (!r)) H') E0
theorem op_neShare {X : Cx} {k : Nat} {sp : Sp} (T : Tx X.K X.mg) (G : Met X.prog X.w X.K X.mg X.base k (He.ga X.K "Share") "__eq__" ["self", "other"] sp) (hr : Room (k + 1) X.A) : OpR X (compareOp .NotEq) (rNeS X.K sp) := by
  intro pins s σ H x y v u Q I rx ry h
  obtain ⟨p, q, dx, dy, fs, gs, rfl, rfl, hp, hq, h⟩ := h
  obtain ⟨f, fd, F, c, M, b⟩ := G
  cases rx
  cases ry
  obtain ⟨mA, J, _⟩ := ins_get I.hok hp
  obtain ⟨mB, J', _⟩ := ins_get I.hok hq
  obtain ⟨od, J, _⟩ := J.look
  obtain ⟨od', J', _⟩ := J'.look
  obtain ⟨m, hF⟩ := I.fr
  obtain ⟨t1, t2, t3, _⟩ := T.exs
  refine ne_K (hu_of hr) hF I.ok.mod.kin J J'.type t3 t2 M.at_ M.fn (wpAny_mono (run_in F hr.in1 rfl b I (show Vals [V.ref p, V.ref q] [Value.ref p, Value.ref q] from .cons rfl (.cons rfl .nil)) h) (fun r s' z => ?_) fun _ _ e => e)
  obtain ⟨w, H', I', rw', r, rfl, z⟩ := z
  cases rw'
  exact ⟨r, rfl, .bl (!r), H', I', rfl, z⟩
/-- a share is an instance of Share -/
theorem ty_share {K : Fr} {mg : Str → Option Value} (T : Tx K mg) {H : Hp} {a dx : Addr} {fs : List (Str × V)} (e : H a = some (.ins (He.ga K "Share") dx fs)) : TyX K H (.ref a) (.ref (He.ga K "Share")) := by
  obtain ⟨t1, t2, t3, t4, t5, t6⟩ := T.exs
  exact .base (.ins e T.cl_Share t4 t5 t6 t3)
theorem kit_self (K : Fr) (C : Addr) : PySem.W.kitOne K (.ref C) (.ref C) = some true := by
  unfold PySem.W.kitOne
  rw [if_pos (by simp)]
end MH
/-! part S1 -/
set_option Elab.async false
set_option linter.all false
set_option maxRecDepth 100000
set_option maxHeartbeats 4000000
namespace MH
/-! ### lowest terms, in plain words -/
theorem gcdI_dvd1 (a b : Int) : (gcdI a b : Int) ∣ a := Int.ofNat_dvd_left.mpr (Nat.gcd_dvd_left _ _)
theorem gcdI_dvd2 (a b : Int) : (gcdI a b : Int) ∣ b := Int.ofNat_dvd_left.mpr (Nat.gcd_dvd_right _ _)
theorem shr_mul1 (a b : Int) : (shr a b).1 * (gcdI a b : Int) = a := Int.ediv_mul_cancel (gcdI_dvd1 a b)
theorem shr_mul2 (a b : Int) : (shr a b).2 * (gcdI a b : Int) = b := Int.ediv_mul_cancel (gcdI_dvd2 a b)
theorem shr_pos {a b : Int} (h : 0 < b) : 0 < (shr a b).2 := by
  have g := gcdI_pos (a := a) h
  have e := shr_mul2 a b
  refine Int.lt_of_not_ge fun z => ?_
  have : 0 ≤ (-(shr a b).2) * (gcdI a b : Int) := Int.mul_nonneg (by omega) (by omega)
  grind
theorem shr_nonneg {a b : Int} (h : 0 < b) (ha : 0 ≤ a) : 0 ≤ (shr a b).1 := Int.ediv_nonneg ha (by omega)
theorem shr_cross {a b : Int} (h : 0 < b) : (shr a b).1 * b = a * (shr a b).2 := by
  have e1 := shr_mul1 a b
  have e2 := shr_mul2 a b
  have e : (shr a b).1 * ((shr a b).2 * (gcdI a b : Int)) = ((shr a b).1 * (gcdI a b : Int)) * (shr a b).2 := by grind
  rw [e1, e2] at e; exact e
theorem shr_cop {a b : Int} (h : 0 < b) : Nat.gcd (shr a b).1.natAbs (shr a b).2.natAbs = 1 := by
  have g := gcdI_pos (a := a) h
  have e1 : (shr a b).1.natAbs * gcdI a b = a.natAbs := by rw [← shr_mul1 a b, Int.natAbs_mul, Int.natAbs_natCast, shr_mul1]
  have e2 : (shr a b).2.natAbs * gcdI a b = b.natAbs := by rw [← shr_mul2 a b, Int.natAbs_mul, Int.natAbs_natCast, shr_mul2]
  have e3 : Nat.gcd ((shr a b).1.natAbs * gcdI a b) ((shr a b).2.natAbs * gcdI a b) = gcdI a b := by rw [e1, e2]; rfl
  rw [Nat.gcd_mul_right] at e3
  exact Nat.eq_of_mul_eq_mul_right g (by omega)
theorem low_one {p q r s : Int} (hq : 0 < q) (hs : 0 < s) (c1 : Nat.gcd p.natAbs q.natAbs = 1) (c2 : Nat.gcd r.natAbs s.natAbs = 1) (e : p * s = r * q) : p = r ∧ q = s := by
  have e' : p.natAbs * s.natAbs = r.natAbs * q.natAbs := by rw [← Int.natAbs_mul, e, Int.natAbs_mul]
  have d1 : q.natAbs ∣ s.natAbs := by
    have : q.natAbs ∣ p.natAbs * s.natAbs := ⟨r.natAbs, by rw [e', Nat.mul_comm]⟩
    exact Nat.Coprime.dvd_of_dvd_mul_left (by unfold Nat.Coprime; rw [Nat.gcd_comm]; exact c1) this
  have d2 : s.natAbs ∣ q.natAbs := by
    have : s.natAbs ∣ r.natAbs * q.natAbs := ⟨p.natAbs, by rw [← e', Nat.mul_comm]⟩
    exact Nat.Coprime.dvd_of_dvd_mul_left (by unfold Nat.Coprime; rw [Nat.gcd_comm]; exact c2) this
  have n := Nat.dvd_antisymm d1 d2
  have qs : q = s := by omega
  refine ⟨?_, qs⟩
  rw [qs] at e
  exact Int.eq_of_mul_eq_mul_right (by omega) e
/-- like shares, one share -/
theorem shr_eq {a b c d : Int} (hb : 0 < b) (hd : 0 < d) (e : a * d = c * b) : shr a b = shr c d := by
  have p1 := shr_pos (a := a) hb
  have p2 := shr_pos (a := c) hd
  have x1 := shr_cross (a := a) hb
  have x2 := shr_cross (a := c) hd
  have y : (shr a b).1 * (shr c d).2 = (shr c d).1 * (shr a b).2 := by
    refine Int.eq_of_mul_eq_mul_right (a := b * d) (Int.ne_of_gt (Int.mul_pos hb hd)) ?_
    grind
  obtain ⟨h1, h2⟩ := low_one p1 p2 (shr_cop hb) (shr_cop hd) y
  exact Prod.ext h1 h2
theorem shr_bd {n : Nat} {a b : Int} (hb : 0 < b) (h1 : Bd n a) (h2 : Bd n b) : Bd n (shr a b).1 ∧ Bd n (shr a b).2 := ⟨bd_div h1 (gcdI_pos hb), bd_div h2 (gcdI_pos hb)⟩
/-- a share's order -/
theorem shr_lt {a b c d : Int} (hb : 0 < b) (hd : 0 < d) : (shr a b).1 * (shr c d).2 < (shr c d).1 * (shr a b).2 ↔ a * d < c * b := by
  have e1 := shr_mul1 a b
  have e2 := shr_mul2 a b
  have e3 := shr_mul1 c d
  have e4 := shr_mul2 c d
  have g1 : (0 : Int) < gcdI a b := Int.natCast_pos.mpr (gcdI_pos hb)
  have g2 : (0 : Int) < gcdI c d := Int.natCast_pos.mpr (gcdI_pos hd)
  have g := Int.mul_pos g1 g2
  have x : a * d = (shr a b).1 * (shr c d).2 * ((gcdI a b : Int) * gcdI c d) := by
    rw [show (shr a b).1 * (shr c d).2 * ((gcdI a b : Int) * gcdI c d) = ((shr a b).1 * (gcdI a b : Int)) * ((shr c d).2 * (gcdI c d : Int)) by grind, e1, e4]
  have y : c * b = (shr c d).1 * (shr a b).2 * ((gcdI a b : Int) * gcdI c d) := by
    rw [show (shr c d).1 * (shr a b).2 * ((gcdI a b : Int) * gcdI c d) = ((shr c d).1 * (gcdI c d : Int)) * ((shr a b).2 * (gcdI a b : Int)) by grind, e3, e2]
  rw [x, y]
  constructor
  · intro h; exact Int.mul_lt_mul_of_pos_right h g
  · intro h; exact Int.lt_of_mul_lt_mul_right h (by omega)
end MH
/-! part D5 -/
set_option Elab.async false
set_option linter.all false
set_option maxRecDepth 100000
set_option maxHeartbeats 4000000
namespace MH
open PySem PySem.Spec PyProof.Rows L2
section
variable {P : Program} {w : World} {K : Fr} {mg : Str → Option Value} {base : Heap}
/-- x - y -/
def sp_Share___sub (K : Fr) : Sp := spx 2 fun vs H Q _ => ∃ (u v : V) (s t : Int × Int), vs = [u, v] ∧ RSh K H u s ∧ RSh K H v t ∧ Bd 3000 s.1 ∧ Bd 3000 s.2 ∧ Bd 3000 t.1 ∧ Bd 3000 t.2 ∧ 0 < s.2 ∧ 0 < t.2 ∧
  ∀ r H', Same H H' → RSh K (fr H H') r (shr (s.1 * t.2 - t.1 * s.2) (s.2 * t.2)) → Q r H'
theorem sc_Share___sub : FnScope ["self", "other"] ["self", "other"] (defScope s_Share___sub) := ⟨rfl, rfl, rfl, by decide +kernel, rfl, by decide +kernel, by decide +kernel⟩
theorem c_Share___sub (T : Tx K mg) (G_Share___init : Mak P w K mg base 2 "Share" (He.ga K "Share") ["self", "over", "under"] (sp_Share___init K)) : Met P w K mg base 4 (He.ga K "Share") "__sub__" ["self", "other"] (sp_Share___sub K) := by
  refine T.met 9 rfl 55 rfl 98 rfl sc_Share___sub (fun _ _ _ _ h => h.1) (fun _ _ _ _ _ _ us hl => match us, hl with | [_, _], _ => rfl) (fun cdv A outer s H vs Q E hr h => ?_)
  have nd := sc_Share___sub.nd
  have hu := hu_of hr
  refine ⟨_, (pss_one (ps_ret (pe_mak G_Share___init (hr.mono (by decide)) (pa_cons (pe_op op_sub (pe_op op_mulW (pe_fldK (K := K) (pv 0) rfl) (pe_fldK (K := K) (pv 1) rfl)) (pe_op op_mulW (pe_fldK (K := K) (pv 1) rfl) (pe_fldK (K := K) (pv 0) rfl))) (pa_cons (pe_op op_mulW (pe_fldK (K := K) (pv 0) rfl) (pe_fldK (K := K) (pv 1) rfl)) pa_nil))))), ?_⟩
  obtain ⟨_, u, v, s, t, rfl, ⟨p, dp, rfl, hp⟩, ⟨q, dq, rfl, hq⟩, b1, b2, b3, b4, s0, t0, k⟩ := h
  refine ⟨_, rfl, _, _, _, _, _, rfl, hp, T.cl_Share, T.n_Share_over, shF_over, _, rfl, _, _, _, _, _, rfl, hq, T.cl_Share, T.n_Share_under, shF_under, _, _, rfl, rfl, wmul b1 b4 (by decide),
    _, rfl, _, _, _, _, _, rfl, hq, T.cl_Share, T.n_Share_over, shF_over, _, rfl, _, _, _, _, _, rfl, hp, T.cl_Share, T.n_Share_under, shF_under, _, _, rfl, rfl, wmul b3 b2 (by decide), _, _, rfl, rfl,
    _, rfl, _, _, _, _, _, rfl, hp, T.cl_Share, T.n_Share_under, shF_under, _, rfl, _, _, _, _, _, rfl, hq, T.cl_Share, T.n_Share_under, shF_under, _, _, rfl, rfl, wmul b2 b4 (by decide), ?_⟩
  exact fun x dx nx nd ne => share_make nx nd ne (Int.mul_pos s0 t0) ((bd_mul b2 b4).mono (by decide)) fun H2 e r => ⟨rfl, k _ _ e r⟩
/-- x == y -/
def sp_Share___eq (K : Fr) : Sp := spx 2 fun vs H Q _ => ∃ (u v : V) (s t : Int × Int), vs = [u, v] ∧ RSh K H u s ∧ RSh K H v t ∧ Q (.bl (decide (s = t))) H
theorem sc_Share___eq : FnScope ["self", "other"] ["self", "other"] (defScope s_Share___eq) := ⟨rfl, rfl, rfl, by decide +kernel, rfl, by decide +kernel, by decide +kernel⟩
theorem c_Share___eq (T : Tx K mg)  : Met P w K mg base 1 (He.ga K "Share") "__eq__" ["self", "other"] (sp_Share___eq K) := by
  refine T.met 10 rfl 55 rfl 99 rfl sc_Share___eq (fun _ _ _ _ h => h.1) (fun _ _ _ _ _ _ us hl => match us, hl with | [_, _], _ => rfl) (fun cdv A outer s H vs Q E hr h => ?_)
  have nd := sc_Share___eq.nd
  have hu := hu_of hr
  refine ⟨_, (pss_one (ps_ret (pe_and (pe_callB call_isi (by rfl) T.f_isinstance (by decide +kernel) (pa_cons (pv 1) (pa_cons (pe_glob (v := .ref (He.ga K "Share")) rfl (T.g_Share) rfl) pa_nil))) (pe_and (pe_cmpR op_eq (pe_fldK (K := K) (pv 0) rfl) (pe_fldK (K := K) (pv 1) rfl) (nomark _)) (pe_one (pe_cmpR op_eq (pe_fldK (K := K) (pv 0) rfl) (pe_fldK (K := K) (pv 1) rfl) (nomark _))))))), ?_⟩
  obtain ⟨_, u, v, s, t, rfl, ⟨p, dp, rfl, hp⟩, ⟨q, dq, rfl, hq⟩, k⟩ := h
  refine ⟨_, rfl, _, _, _, _, true, rfl, .own _, ty_share T hq, kit_self K _, _, rfl, iteT ?_⟩
  refine ⟨_, rfl, _, _, _, _, _, rfl, hp, T.cl_Share, T.n_Share_over, shF_over, _, rfl, _, _, _, _, _, rfl, hq, T.cl_Share, T.n_Share_over, shF_over, rfl, _, rfl, ?_⟩
  refine ite2 (fun c => ?_) (fun c => ?_)
  · refine ⟨_, rfl, _, _, _, _, _, rfl, hp, T.cl_Share, T.n_Share_under, shF_under, _, rfl, _, _, _, _, _, rfl, hq, T.cl_Share, T.n_Share_under, shF_under, rfl, ?_⟩
    have c1 : s.1 = t.1 := by have := of_decide_eq_true c; injection this
    have e : decide (V.int s.2 = V.int t.2) = decide (s = t) := by
      rw [Bool.eq_iff_iff, decide_eq_true_iff, decide_eq_true_iff]
      constructor
      · intro z; injection z with z; exact Prod.ext c1 z
      · intro z; rw [z]
    rw [e]; exact k
  · have e : decide (s = t) = false := decide_eq_false fun z => c (by rw [z]; exact decide_eq_true rfl)
    rw [e] at k; exact k
/-- a share with a lower part above 0 -/
def sp_law_good (K : Fr) : Sp := spx 1 fun vs H Q _ => ∃ (u : V) (s : Int × Int), vs = [u] ∧ RSh K H u s ∧ Q (.bl (decide (0 < s.2))) H
theorem sc_law_good : FnScope ["_law_share"] ["_law_share"] (defScope s_law_good) := ⟨rfl, rfl, rfl, by decide +kernel, rfl, by decide +kernel, by decide +kernel⟩
theorem c_law_good (T : Tx K mg) (G_law_integer : Cal P w K mg base 1 "_law_integer" ["_law_value"] sp_law_integer) : Cal P w K mg base 2 "_law_good" ["_law_share"] (sp_law_good K) := by
  refine T.cal 64 rfl 36 rfl sc_law_good (fun _ _ _ _ h => h.1) (fun _ _ _ _ _ _ us hl => match us, hl with | [_], _ => rfl) (fun cdv A outer s H vs Q E hr h => ?_)
  have nd := sc_law_good.nd
  have hu := hu_of hr
  refine ⟨_, (pss_cons (ps_if (PW.pt (pw_or (pt_not (pt_val (pe_callB call_isi (by rfl) T.f_isinstance (by decide +kernel) (pa_cons (pv 0) (pa_cons (pe_glob (v := .ref (He.ga K "Share")) rfl (T.g_Share) rfl) pa_nil))))) (pw_or (pt_not (pt_val (pe_cal G_law_integer (hr.mono (by decide)) (pa_cons (pe_fldK (K := K) (pv 0) rfl) pa_nil)))) (pw_or1 (pt_not (pt_val (pe_cal G_law_integer (hr.mono (by decide)) (pa_cons (pe_fldK (K := K) (pv 0) rfl) pa_nil)))))))) (pss_one (ps_ret pe_bl)) pss_nil)
      (pss_one (ps_ret (pe_cmpR op_gt (pe_fldK (K := K) (pv 0) rfl) pe_int (nomark _))))), ?_⟩
  obtain ⟨_, u, s, rfl, ⟨p, dp, rfl, hp⟩, k⟩ := h
  refine ⟨_, rfl, _, _, _, _, true, rfl, .own _, ty_share T hp, kit_self K _, _, rfl, ?_⟩
  refine iteF ?_
  have e : Q (.bl (decide (0 < s.2))) H := k
  refine ⟨_, rfl, _, _, _, _, _, rfl, hp, T.cl_Share, T.n_Share_over, shF_over, rfl, _, rfl, _, rfl, ?_⟩
  refine iteF ⟨_, rfl, _, _, _, _, _, rfl, hp, T.cl_Share, T.n_Share_under, shF_under, rfl, _, rfl, _, rfl, ?_⟩
  refine iteF ⟨_, rfl, _, _, _, _, _, rfl, hp, T.cl_Share, T.n_Share_under, shF_under, _, _, rfl, rfl, ?_⟩
  exact k
end
end MH
/-! part D6 -/
set_option Elab.async false
set_option linter.all false
set_option maxRecDepth 100000
set_option maxHeartbeats 4000000
namespace MH
open PySem PySem.Spec PyProof.Rows L2
section
variable {P : Program} {w : World} {K : Fr} {mg : Str → Option Value} {base : Heap}
theorem iteD {p : Prop} [Decidable p] {P R : Prop} (h : p) (k : P) : if decide p = true then P else R := by rw [if_pos (decide_eq_true h)]; exact k
theorem iteN {p : Prop} [Decidable p] {P R : Prop} (h : ¬ p) (k : R) : if decide p = true then P else R := by rw [if_neg (by rw [decide_eq_false h]; decide)]; exact k
theorem blT {p : Prop} [Decidable p] {Q : VK} {H : Hp} (h : p) (k : Q (.bl true) H) : Q (.bl (decide p)) H := by rw [decide_eq_true h]; exact k
theorem blF {p : Prop} [Decidable p] {Q : VK} {H : Hp} (h : ¬ p) (k : Q (.bl false) H) : Q (.bl (decide p)) H := by rw [decide_eq_false h]; exact k
/-! ### the law's own gcd -/
/-- behind i turns: never too slow -/
structure Eu (x y i a b : Nat) : Prop where
  gcd : Nat.gcd a b = Nat.gcd x y
  ge : 1 ≤ i → b ≤ a
  fall : 1 ≤ i → a * b * 2 ^ (i - 1) ≤ x * y
  one : (i = 0 → a = x ∧ b = y)
theorem Eu.next {x y i a b : Nat} (h : Eu x y i a b) (hb : 0 < b) : Eu x y (i + 1) b (a % b) := by
  have lt := Nat.mod_lt a hb
  refine ⟨?_, fun _ => Nat.le_of_lt lt, fun _ => ?_, fun z => nomatch z⟩
  · rw [Nat.gcd_comm b, ← Nat.gcd_rec, Nat.gcd_comm]; exact h.gcd
  · show b * (a % b) * 2 ^ i ≤ x * y
    by_cases c : i = 0
    · obtain ⟨e1, e2⟩ := h.one c
      subst e1; subst e2; subst c
      have := Nat.mod_le a b
      rw [Nat.pow_zero, Nat.mul_one, Nat.mul_comm a b]
      exact Nat.mul_le_mul_left b this
    · have f := h.fall (by omega)
      have ge := h.ge (by omega)
      have half : 2 * (a % b) ≤ a := by
        have e := Nat.div_add_mod a b
        have d1 : 1 ≤ a / b := (Nat.le_div_iff_mul_le hb).mpr (by omega)
        have : b * 1 ≤ b * (a / b) := Nat.mul_le_mul_left b d1
        omega
      have e : 2 ^ i = 2 * 2 ^ (i - 1) := by
        obtain ⟨j, rfl⟩ : ∃ j, i = j + 1 := ⟨i - 1, by omega⟩
        rw [Nat.pow_succ, Nat.mul_comm]; rfl
      rw [e]
      have : b * (a % b) * (2 * 2 ^ (i - 1)) = (2 * (a % b)) * b * 2 ^ (i - 1) := by grind
      rw [this]
      exact Nat.le_trans (Nat.mul_le_mul_right _ (Nat.mul_le_mul_right b half)) f
theorem Eu.stop {x y i a b : Nat} (h : Eu x y i a b) (hi : 1 ≤ i) (big : x * y < 2 ^ (i - 1)) : b = 0 := by
  have f := h.fall hi
  have ge := h.ge hi
  refine Nat.eq_zero_of_not_pos fun z => ?_
  have : 1 * 2 ^ (i - 1) ≤ a * b * 2 ^ (i - 1) := Nat.mul_le_mul_right _ (Nat.mul_pos (by omega) z)
  omega
def sp_law_gcd : Sp := spx 2 fun vs H Q _ => ∃ a b : Nat, vs = [.int a, .int b] ∧ Bd 8000 (a : Int) ∧ Bd 8000 (b : Int) ∧ Q (.int (Nat.gcd a b : Nat)) H
theorem sc_law_gcd : FnScope ["_law_one", "_law_other", "_law_k"] ["_law_one", "_law_other"] (defScope s_law_gcd) := ⟨rfl, rfl, rfl, by decide +kernel, rfl, by decide +kernel, by decide +kernel⟩
theorem c_law_gcd (T : Tx K mg)  : Cal P w K mg base 1 "_law_gcd" ["_law_one", "_law_other"] sp_law_gcd := by
  refine T.cal 47 rfl 19 rfl sc_law_gcd (fun _ _ _ _ h => h.1) (fun _ _ _ _ _ _ us hl => match us, hl with | [_, _], _ => rfl) (fun cdv A outer s H vs Q E hr h => ?_)
  have nd := sc_law_gcd.nd
  have hu := hu_of hr
  refine ⟨_, (pss_cons (ps_for PassesOwn.never rfl (pi_range1 rfl T.f_range (pa_cons (pe_op op_add (pe_op op_mulW pe_int (pe_op op_add (pe_bits (pv 0)) (pe_bits (pv 1)))) pe_int) pa_nil)) (pg_name (i := 2) nd rfl (Or.inl rfl)) (pss_cons (ps_if (pt_cmpR op_eq (pv 1) pe_int (nomark _)) (pss_one (ps_ret (pv 0))) pss_nil)
      (pss_one (ps_par (i := 0) (j := 1) (by rfl) nd rfl rfl (by decide) rfl rfl (pa_cons (pv 1) (pa_cons (pe_op op_mod (pe_callTy call_int1 (by rfl) T.f_int (by decide +kernel) (pa_cons (pv 0) pa_nil)) (pv 1)) pa_nil)) (by rfl)))))
      (pss_one (ps_ret (pv 0)))), ?_⟩
  obtain ⟨_, a, b, rfl, ba, bb, k⟩ := h
  have l1 : Builtin.Int.intBits (a : Int) ≤ 8000 := PySem.intBits_le_iff.mpr ba
  have l2 : Builtin.Int.intBits (b : Int) ≤ 8000 := PySem.intBits_le_iff.mpr bb
  have g1 : a < 2 ^ Builtin.Int.intBits (a : Int) := (PySem.intBits_le_iff (x := (a : Int))).mp (Nat.le_refl _)
  have g2 : b < 2 ^ Builtin.Int.intBits (b : Int) := (PySem.intBits_le_iff (x := (b : Int))).mp (Nat.le_refl _)
  have big : a * b < 2 ^ (Builtin.Int.intBits (a : Int) + Builtin.Int.intBits (b : Int)) := by
    rw [Nat.pow_add]
    exact Nat.mul_lt_mul'' g1 g2
  refine ⟨_, rfl, _, rfl, _, rfl, _, rfl, _, _, rfl, rfl, _, _, rfl, rfl, wmul (a := 10) (b := 20) (by decide) (by unfold Bd; omega) (by decide), _, _, rfl, rfl, _, rfl, by omega, by omega, ?_⟩
  generalize hN : (2 * ((Builtin.Int.intBits (a : Int) : Int) + (Builtin.Int.intBits (b : Int) : Int)) + 4).toNat = N
  refine for_range (lo := 0) (n := N) (fun i σ H' => ∃ (x y : Nat) (v : Option V), σ = [some (.int x), some (.int y), v] ∧ H' = H ∧ Eu a b i x y) ⟨a, b, none, rfl, rfl, rfl, (by omega), (by omega), fun _ => ⟨rfl, rfl⟩⟩ ?_ ?_
  · rintro i σ H' hi ⟨x, y, v, rfl, rfl, hE⟩
    refine ⟨_, rfl, rfl, _, rfl, ?_⟩
    by_cases c : y = 0
    · subst c
      have e : decide (V.int ((0 : Nat) : Int) = V.int 0) = true := decide_eq_true rfl
      rw [e]
      refine iteT ⟨_, rfl, ?_⟩
      have g := hE.gcd
      rw [Nat.gcd_zero_right] at g
      show Q (.int (x : Int)) H'
      rw [g]; exact k
    · have e : decide (V.int ((y : Nat) : Int) = V.int 0) = false := decide_eq_false fun z => by injection z with z; omega
      rw [e]
      refine iteF ?_
      refine ⟨_, rfl, _, rfl, .inl ⟨_, rfl, _, rfl, _, _, rfl, rfl, by omega, _, _, rfl, y, x % y, some (.int (0 + i)), ?_, rfl, hE.next (by omega)⟩⟩
      show [some (V.int (y : Int)), some (V.int ((x : Int) % (y : Int))), some (V.int (0 + (i : Int)))] = _
      rfl
  · rintro σ H' ⟨x, y, v, rfl, rfl, hE⟩
    have y0 := hE.stop (by omega) (Nat.lt_of_lt_of_le big (Nat.pow_le_pow_right (by decide) (by omega)))
    have g := hE.gcd
    rw [y0, Nat.gcd_zero_right] at g
    refine ⟨_, rfl, ?_⟩
    show Q (.int (x : Int)) H'
    rw [g]; exact k
/-- got is over / under in lowest terms -/
def sp_law_is (K : Fr) : Sp := spx 3 fun vs H Q _ => ∃ (u : V) (a b : Int), vs = [u, .int a, .int b] ∧ 0 < b ∧ Bd 3000 a ∧ Bd 3000 b ∧ RSh K H u (shr a b) ∧ Q (.bl true) H
theorem sc_law_is : FnScope ["_law_got", "_law_over", "_law_under_here", "_law_common"] ["_law_got", "_law_over", "_law_under_here"] (defScope s_law_is) := ⟨rfl, rfl, rfl, by decide +kernel, rfl, by decide +kernel, by decide +kernel⟩
theorem c_law_is (T : Tx K mg) (G_law_integer : Cal P w K mg base 1 "_law_integer" ["_law_value"] sp_law_integer) (G_law_gcd : Cal P w K mg base 1 "_law_gcd" ["_law_one", "_law_other"] sp_law_gcd) : Cal P w K mg base 2 "_law_is" ["_law_got", "_law_over", "_law_under_here"] (sp_law_is K) := by
  refine T.cal 51 rfl 23 rfl sc_law_is (fun _ _ _ _ h => h.1) (fun _ _ _ _ _ _ us hl => match us, hl with | [_, _, _], _ => rfl) (fun cdv A outer s H vs Q E hr h => ?_)
  have nd := sc_law_is.nd
  have hu := hu_of hr
  refine ⟨_, (pss_cons (ps_if (PW.pt (pw_or (pt_not (pt_val (pe_callB call_isi (by rfl) T.f_isinstance (by decide +kernel) (pa_cons (pv 0) (pa_cons (pe_glob (v := .ref (He.ga K "Share")) rfl (T.g_Share) rfl) pa_nil))))) (pw_or (pt_not (pt_val (pe_cal G_law_integer (hr.mono (by decide)) (pa_cons (pe_fldK (K := K) (pv 0) rfl) pa_nil)))) (pw_or1 (pt_not (pt_val (pe_cal G_law_integer (hr.mono (by decide)) (pa_cons (pe_fldK (K := K) (pv 0) rfl) pa_nil)))))))) (pss_one (ps_ret pe_bl)) pss_nil)
      (pss_cons (ps_set (i := 3) nd rfl (Or.inl rfl) (pe_cal G_law_gcd (hr.mono (by decide)) (pa_cons (pe_callB call_abs (by rfl) T.f_abs (by decide +kernel) (pa_cons (pv 1) pa_nil)) (pa_cons (pv 2) pa_nil))))
      (pss_one (ps_ret (pe_and (pe_cmpR op_eq (pe_op op_mulW (pe_fldK (K := K) (pv 0) rfl) (pv 3)) (pv 1) (nomark _)) (pe_one (pe_cmpR op_eq (pe_op op_mulW (pe_fldK (K := K) (pv 0) rfl) (pv 3)) (pv 2) (nomark _)))))))), ?_⟩
  obtain ⟨_, u, a, b, rfl, b0, ba, bb, ⟨p, dp, rfl, hp⟩, k⟩ := h
  obtain ⟨t1, t2⟩ := shr_bd b0 ba bb
  refine ⟨_, rfl, _, _, _, _, true, rfl, .own _, ty_share T hp, kit_self K _, _, rfl, ?_⟩
  refine iteF ?_
  refine ⟨_, rfl, _, _, _, _, _, rfl, hp, T.cl_Share, T.n_Share_over, shF_over, rfl, _, rfl, _, rfl, ?_⟩
  refine iteF ⟨_, rfl, _, _, _, _, _, rfl, hp, T.cl_Share, T.n_Share_under, shF_under, rfl, _, rfl, _, rfl, ?_⟩
  refine iteF ?_
  have z1 : (if a < 0 then -a else a) = (a.natAbs : Int) := by split <;> omega
  have z2 : b = (b.natAbs : Int) := by omega
  have e1 := shr_mul1 a b
  have e2 := shr_mul2 a b
  have bg : Bd 3000 ((gcdI a b : Nat) : Int) := Nat.lt_of_le_of_lt (Nat.gcd_le_right _ (by omega)) bb
  refine ⟨_, rfl, _, rfl, _, rfl, rfl, a.natAbs, b.natAbs, ?_, ba.mono (by decide), bb.mono (by decide), ?_⟩
  · show [V.int (if a < 0 then -a else a), V.int b] = _
    rw [z1, ← z2]
  refine ⟨_, rfl, _, _, _, _, _, rfl, hp, T.cl_Share, T.n_Share_over, shF_over, _, rfl, _, _, rfl, rfl, wmul t1 bg (by decide), _, rfl, rfl, _, rfl, ?_⟩
  refine iteD (congrArg V.int e1) ?_
  refine ⟨_, rfl, _, _, _, _, _, rfl, hp, T.cl_Share, T.n_Share_under, shF_under, _, rfl, _, _, rfl, rfl, wmul t2 bg (by decide), _, rfl, rfl, ?_⟩
  exact blT (congrArg V.int e2) k
end
end MH
/-! part N1 -/
set_option Elab.async false
set_option linter.all false
set_option maxRecDepth 100000
set_option maxHeartbeats 4000000
/-! the order of texts, in plain words. -/
namespace MH
open PySem PySem.Spec PyProof.Rows L2
def ltT (x y : Str) : Prop := ltCps x.cps.toList y.cps.toList = true
theorem cps_inj {x y : Str} (h : x.cps.toList = y.cps.toList) : x = y := by
  cases x; cases y
  congr 1
  exact Array.toList_inj.mp h
theorem ltC_irrefl : ∀ a : List Nat, ltCps a a = false
  | [] => rfl
  | a :: r => by
    have ih := ltC_irrefl r
    show (decide (a < a) || (a == a && ltCps r r)) = false
    rw [ih, decide_eq_false (Nat.lt_irrefl a)]; simp
theorem ltC_cons {a b : Nat} {r t : List Nat} : ltCps (a :: r) (b :: t) = true ↔ a < b ∨ (a = b ∧ ltCps r t = true) := by
  show (decide (a < b) || (a == b && ltCps r t)) = true ↔ _
  simp
theorem ltC_trans : ∀ a b c : List Nat, ltCps a b = true → ltCps b c = true → ltCps a c = true
  | [], [], _, h, _ => nomatch h
  | [], _ :: _, [], _, h => nomatch h
  | [], _ :: _, _ :: _, _, _ => rfl
  | _ :: _, [], _, h, _ => nomatch h
  | _ :: _, _ :: _, [], _, h => nomatch h
  | a :: r, b :: t, c :: u, h1, h2 => by
    rw [ltC_cons] at h1 h2 ⊢
    rcases h1 with h1 | ⟨h1, h1'⟩ <;> rcases h2 with h2 | ⟨h2, h2'⟩
    · left; omega
    · left; omega
    · left; omega
    · exact .inr ⟨h1.trans h2, ltC_trans r t u h1' h2'⟩
theorem ltC_total : ∀ a b : List Nat, a ≠ b → ltCps a b = true ∨ ltCps b a = true
  | [], [], h => absurd rfl h
  | [], _ :: _, _ => .inl rfl
  | _ :: _, [], _ => .inr rfl
  | a :: r, b :: t, h => by
    rw [ltC_cons, ltC_cons]
    rcases Nat.lt_trichotomy a b with c | c | c
    · exact .inl (.inl c)
    · subst c
      rcases ltC_total r t (fun e => h (by rw [e])) with d | d
      · exact .inl (.inr ⟨rfl, d⟩)
      · exact .inr (.inr ⟨rfl, d⟩)
    · exact .inr (.inl c)
theorem ltT_irrefl (x : Str) : ¬ ltT x x := fun h => by unfold ltT at h; rw [ltC_irrefl] at h; cases h
theorem ltT_trans {x y z : Str} (h : ltT x y) (g : ltT y z) : ltT x z := ltC_trans _ _ _ h g
theorem ltT_total {x y : Str} (h : x ≠ y) : ltT x y ∨ ltT y x := ltC_total _ _ fun e => h (cps_inj e)
/-- strictly rising texts -/
abbrev StS (xs : List Str) : Prop := xs.Pairwise ltT
theorem StS.nodup {xs : List Str} (h : StS xs) : xs.Nodup := List.Pairwise.imp (fun {a b} l e => by rw [e] at l; exact ltT_irrefl b l) h
theorem StS.uniq : ∀ {xs ys : List Str}, StS xs → StS ys → (∀ t, t ∈ xs ↔ t ∈ ys) → xs = ys
  | [], [], _, _, _ => rfl
  | [], y :: _, _, _, h => absurd ((h y).mpr List.mem_cons_self) List.not_mem_nil
  | x :: _, [], _, _, h => absurd ((h x).mp List.mem_cons_self) List.not_mem_nil
  | x :: xs, y :: ys, h1, h2, h => by
    have ⟨a1, b1⟩ := List.pairwise_cons.mp h1
    have ⟨a2, b2⟩ := List.pairwise_cons.mp h2
    have e : x = y := by
      refine Classical.byContradiction fun ne => ?_
      have m1 : x ∈ ys := by rcases List.mem_cons.mp ((h x).mp List.mem_cons_self) with e | e; exact absurd e ne; exact e
      have m2 : y ∈ xs := by rcases List.mem_cons.mp ((h y).mpr List.mem_cons_self) with e | e; exact absurd e.symm ne; exact e
      exact ltT_irrefl x (ltT_trans (a1 y m2) (a2 x m1))
    subst e
    have : xs = ys := StS.uniq b1 b2 fun t => by
      constructor
      · intro m
        rcases List.mem_cons.mp ((h t).mp (List.mem_cons_of_mem _ m)) with e | e
        · have z := a1 t m; rw [e] at z; exact absurd z (ltT_irrefl x)
        · exact e
      · intro m
        rcases List.mem_cons.mp ((h t).mpr (List.mem_cons_of_mem _ m)) with e | e
        · have z := a2 t m; rw [e] at z; exact absurd z (ltT_irrefl x)
        · exact e
    rw [this]
theorem rising_le : ∀ {p : Str} {l : List Str}, risingS p l = true → (p :: l).Pairwise fun a b => ltCps b.cps.toList a.cps.toList = false
  | p, [], _ => List.pairwise_singleton _ _
  | p, x :: r, h => by
    have h' : (!ltCps x.cps.toList p.cps.toList && risingS x r) = true := h
    rw [Bool.and_eq_true, Bool.not_eq_true'] at h'
    have ih := rising_le h'.2
    refine List.pairwise_cons.mpr ⟨fun y hy => ?_, ih⟩
    rcases List.mem_cons.mp hy with e | m
    · rw [e]; exact h'.1
    · have hx := (List.pairwise_cons.mp ih).1 y m
      -- not y < x, not x < p, so not y < p
      cases c : ltCps y.cps.toList p.cps.toList with
      | false => rfl
      | true =>
        by_cases e : x = p
        · rw [e] at hx; rw [hx] at c; cases c
        · rcases ltT_total e with l | l
          · unfold ltT at l; rw [h'.1] at l; cases l
          · have := ltC_trans _ _ _ c l
            rw [hx] at this; cases this
theorem sorted_le {ys : List Str} (h : sortedS ys = true) : ys.Pairwise fun a b => ltCps b.cps.toList a.cps.toList = false := by
  cases ys with
  | nil => exact .nil
  | cons y r => exact rising_le h
theorem le_strict {ys : List Str} (h : ys.Pairwise fun a b => ltCps b.cps.toList a.cps.toList = false) (nd : ys.Nodup) : StS ys := by
  refine List.Pairwise.imp₂ (fun a b l ne => ?_) h nd
  rcases ltT_total ne with c | c
  · exact c
  · unfold ltT at c; rw [l] at c; cases c
theorem StS.of {ys : List Str} (h : sortedS ys = true) (nd : ys.Nodup) : StS ys := le_strict (sorted_le h) nd
/-- sorted and the same texts: the same list -/
theorem StS.perm {xs ys : List Str} (h : StS xs) (p : ys.Perm xs) (s : sortedS ys = true) : ys = xs :=
  (StS.of s (p.nodup_iff.mpr h.nodup)).uniq h fun t => p.mem_iff
end MH
/-! part V1 -/
set_option Elab.async false
set_option linter.all false
set_option maxRecDepth 100000
set_option maxHeartbeats 4000000
/-! dicts with texts as keys; sources. -/
namespace MH
open PySem PySem.Spec PyProof.Rows L2
section
variable {α : Type} {f : α → V} {t : Str} {x : α}
/-- a dict with texts as keys -/
def dct (f : α → V) (us : List (Str × α)) : List (L2.Key × V) := us.map fun x => (Sum.inr x.1, f x.2)
abbrev kT (t : Str) : L2.Key := Sum.inr t
theorem dct_keys (us : List (Str × α)) : (dct f us).map (·.1) = (us.map (·.1)).map Sum.inr := by unfold dct; rw [List.map_map, List.map_map]; rfl
theorem dct_len (us : List (Str × α)) : (dct f us).length = us.length := List.length_map _
theorem dct_none : ∀ {us : List (Str × α)}, t ∉ us.map (·.1) → valV (dct f us) (kT t) = none
  | [], _ => rfl
  | (s, a) :: us, h => by
    have ne : ¬ (kT s = kT t) := fun e => h (by cases e; exact List.mem_cons_self)
    show valV ((kT s, f a) :: dct f us) (kT t) = none
    rw [valV_neg ne]
    exact dct_none fun m => h (List.mem_cons_of_mem _ m)
theorem dct_some : ∀ {us : List (Str × α)}, (us.map (·.1)).Nodup → (t, x) ∈ us → valV (dct f us) (kT t) = some (f x)
  | [], _, h => absurd h List.not_mem_nil
  | (s, a) :: us, nd, h => by
    obtain ⟨n1, n2⟩ := List.nodup_cons.mp nd
    show valV ((kT s, f a) :: dct f us) (kT t) = _
    rcases List.mem_cons.mp h with e | m
    · cases e; rw [valV_pos rfl]
    · have ne : ¬ (kT s = kT t) := fun e => n1 (by cases e; exact List.mem_map.mpr ⟨_, m, rfl⟩)
      rw [valV_neg ne]; exact dct_some n2 m
/-- one more or another value -/
def dput : List (Str × α) → Str → α → List (Str × α)
  | [], t, x => [(t, x)]
  | (s, a) :: us, t, x => if s = t then (s, x) :: us else (s, a) :: dput us t x
theorem dput_new : ∀ {us : List (Str × α)}, t ∉ us.map (·.1) → dput us t x = us ++ [(t, x)]
  | [], _ => rfl
  | (s, a) :: us, h => by
    have ne : s ≠ t := fun e => h (by rw [e]; exact List.mem_cons_self)
    show (if s = t then _ else (s, a) :: dput us t x) = _
    rw [if_neg ne, dput_new fun m => h (List.mem_cons_of_mem _ m)]; rfl
theorem dct_put : ∀ {us : List (Str × α)}, (us.map (·.1)).Nodup → putK (dct f us) (kT t) (f x) = dct f (dput us t x) := by
  intro us nd
  by_cases m : t ∈ us.map (·.1)
  · have go : ∀ {us : List (Str × α)}, (us.map (·.1)).Nodup → t ∈ us.map (·.1) → (dct f us).map (fun kv => if kv.1 = kT t then (kv.1, f x) else kv) = dct f (dput us t x) := fun {us} => by
      induction us with
      | nil => intro _ m; cases m
      | cons u us ih =>
        obtain ⟨s, a⟩ := u
        intro nd m
        obtain ⟨n1, n2⟩ := List.nodup_cons.mp nd
        show (if kT s = kT t then (kT s, f x) else (kT s, f a)) :: (dct f us).map _ = dct f (if s = t then (s, x) :: us else (s, a) :: dput us t x)
        by_cases e : s = t
        · subst e
          rw [if_pos rfl, if_pos rfl]
          show _ = (kT s, f x) :: dct f us
          congr 1
          refine (List.map_congr_left fun y hy => ?_).trans (List.map_id _)
          obtain ⟨z, hz, rfl⟩ := List.mem_map.mp hy
          have : ¬ (kT z.1 = kT s) := fun e => n1 (by cases e; exact List.mem_map.mpr ⟨z, hz, rfl⟩)
          show (if kT z.1 = kT s then _ else _) = _
          rw [if_neg this]; rfl
        · have ne : ¬ (kT s = kT t) := fun z => e (by cases z; rfl)
          rw [if_neg ne, if_neg e]
          show _ = (kT s, f a) :: dct f (dput us t x)
          rw [ih n2 (by rcases List.mem_cons.mp m with z | z; exact absurd z.symm e; exact z)]
    unfold putK
    have : ((dct f us).any fun kv => decide (kv.1 = kT t)) = true := by
      rw [List.any_eq_true]
      obtain ⟨z, hz, e⟩ := List.mem_map.mp m
      exact ⟨(kT z.1, f z.2), List.mem_map.mpr ⟨z, hz, rfl⟩, by rw [e]; exact decide_eq_true rfl⟩
    rw [if_pos this]; exact go nd m
  · unfold putK
    have : ¬ ((dct f us).any fun kv => decide (kv.1 = kT t)) = true := by
      rw [List.any_eq_true]
      rintro ⟨y, hy, e⟩
      obtain ⟨z, hz, rfl⟩ := List.mem_map.mp hy
      have := of_decide_eq_true e
      exact m (by cases this; exact List.mem_map.mpr ⟨z, hz, rfl⟩)
    rw [if_neg this, dput_new m]
    unfold dct; rw [List.map_append]; rfl
theorem dput_keys : ∀ {us : List (Str × α)}, (dput us t x).map (·.1) = if t ∈ us.map (·.1) then us.map (·.1) else us.map (·.1) ++ [t]
  | [] => by simp [dput]
  | (s, a) :: us => by
    show (if s = t then (s, x) :: us else (s, a) :: dput us t x).map (·.1) = if t ∈ s :: us.map (·.1) then s :: us.map (·.1) else s :: us.map (·.1) ++ [t]
    by_cases e : s = t
    · subst e; rw [if_pos rfl, if_pos List.mem_cons_self]; rfl
    · rw [if_neg e, List.map_cons, dput_keys]
      by_cases m : t ∈ us.map (·.1)
      · rw [if_pos m, if_pos (List.mem_cons_of_mem _ m)]
      · rw [if_neg m, if_neg (fun z => by rcases List.mem_cons.mp z with z | z; exact e z.symm; exact m z)]; rfl
theorem dput_nodup {us : List (Str × α)} (nd : (us.map (·.1)).Nodup) : ((dput us t x).map (·.1)).Nodup := by
  rw [dput_keys]
  split
  · exact nd
  · next h =>
    rw [List.nodup_append]
    exact ⟨nd, by simp, fun a ha b hb e => by rw [List.mem_singleton] at hb; rw [e, hb] at ha; exact h ha⟩
theorem dget_some {H : Hp} {d : Addr} {us : List (Str × α)} (h : H d = some (.dK (dct f us))) (nd : (us.map (·.1)).Nodup) (m : (t, x) ∈ us) : DGet H d (.str t) (some (f x)) := by
  have := DGet.k (k := kT t) h
  rw [dct_some nd m] at this; exact this
theorem dget_none {H : Hp} {d : Addr} {us : List (Str × α)} (h : H d = some (.dK (dct f us))) (m : t ∉ us.map (·.1)) : DGet H d (.str t) none := by
  have := DGet.k (k := kT t) h
  rw [dct_none m] at this; exact this
theorem dget_opt {H : Hp} {d : Addr} {us : List (Str × α)} (h : H d = some (.dK (dct f us))) : DGet H d (.str t) (valV (dct f us) (kT t)) := DGet.k (k := kT t) h
theorem dput_at {H : Hp} {d : Addr} {us : List (Str × α)} (h : H d = some (.dK (dct f us))) (nd : (us.map (·.1)).Nodup) (few : us.length < 100000) : DPut H d (.str t) (f x) (upd H d (.dK (dct f (dput us t x)))) := by
  have := DPut.k (k := kT t) (v := f x) h (by rw [dct_len, sizeLine_eq]; omega)
  rw [dct_put nd] at this; exact this
end
/-- the lookup in plain words -/
def wof (ws : Ws) (t : Str) : Int := ((ws.find? fun x => decide (x.1 = t)).map (·.2)).getD 0
theorem wof_some : ∀ {ws : Ws} {t : Str} {n : Int}, (ws.map (·.1)).Nodup → (t, n) ∈ ws → wof ws t = n
  | [], _, _, _, h => absurd h List.not_mem_nil
  | (s, a) :: ws, t, n, nd, h => by
    obtain ⟨n1, n2⟩ := List.nodup_cons.mp nd
    unfold wof
    rcases List.mem_cons.mp h with e | m
    · cases e; rw [List.find?_cons_of_pos (by simp)]; rfl
    · have ne : s ≠ t := fun e => n1 (by rw [e]; exact List.mem_map.mpr ⟨_, m, rfl⟩)
      rw [List.find?_cons_of_neg (by simp [ne])]
      exact wof_some n2 m
theorem wof_none : ∀ {ws : Ws} {t : Str}, t ∉ ws.map (·.1) → wof ws t = 0
  | [], _, _ => rfl
  | (s, a) :: ws, t, h => by
    have ne : s ≠ t := fun e => h (by rw [e]; exact List.mem_cons_self)
    unfold wof
    rw [List.find?_cons_of_neg (by simp [ne])]
    exact wof_none fun m => h (List.mem_cons_of_mem _ m)
theorem val_wof {us ws : Ws} {t : Str} (p : us.Perm ws) (nd : (ws.map (·.1)).Nodup) : (valV (dct V.int us) (kT t)).getD (.int 0) = .int (wof ws t) := by
  have nd' : (us.map (·.1)).Nodup := (p.map (·.1)).nodup_iff.mpr nd
  by_cases m : t ∈ us.map (·.1)
  · obtain ⟨⟨s, n⟩, hz, e⟩ := List.mem_map.mp m
    cases e
    rw [dct_some nd' hz, wof_some nd (p.mem_iff.mp hz)]; rfl
  · rw [dct_none m, wof_none (fun z => m ((p.map (·.1)).mem_iff.mpr z))]; rfl
theorem IsD.of {H : Hp} {d : Addr} {kvs : List (L2.Key × V)} (h : H d = some (.dK kvs)) : IsD H d := .inl ⟨kvs, .inl h⟩
/-- the sum of the weights -/
def tot (ws : Ws) : Int := (ws.map (·.2)).sum
theorem sum_perm {a b : List Int} (p : a.Perm b) : a.sum = b.sum := by
  induction p with
  | nil => rfl
  | cons x _ ih => rw [List.sum_cons, List.sum_cons, ih]
  | swap x y l => simp only [List.sum_cons]; omega
  | trans _ _ h g => exact h.trans g
theorem tot_perm {us ws : Ws} (p : us.Perm ws) : tot us = tot ws := sum_perm (p.map (·.2))
/-- the words of a source: rising texts, weights from 1 on -/
structure WOk (ws : Ws) : Prop where
  st : StS (ws.map (·.1))
  pos : ∀ x ∈ ws, 1 ≤ x.2
  one : ws ≠ []
  few : ws.length ≤ 20
theorem tot_pos : ∀ {ws : Ws}, (∀ x ∈ ws, 1 ≤ x.2) → ws ≠ [] → 0 < tot ws
  | [], _, h => absurd rfl h
  | x :: ws, h, _ => by
    have h1 := h x List.mem_cons_self
    show 0 < x.2 + tot ws
    by_cases e : ws = []
    · subst e; show 0 < x.2 + 0; omega
    · have := tot_pos (fun y hy => h y (List.mem_cons_of_mem _ hy)) e; omega
section
variable (K : Fr)
/-- a source (of the class C) with the words ws -/
def SrcAt (C : Str) (H : Hp) (p : Addr) (ws : Ws) : Prop := ∃ dx fs d us, H p = some (.ins (He.ga K C) dx fs) ∧ fs.lookup ("weights" : Str) = some (.ref d) ∧ H d = some (.dK (dct V.int us)) ∧ us.Perm ws ∧ fs.lookup ("whole" : Str) = some (.int (tot ws)) ∧
  fs.lookup ("texts" : Str) = none ∧ fs.lookup ("weight_of" : Str) = none ∧ fs.lookup ("share_of" : Str) = none
def RSrc : Rl Ws := fun H v ws => ∃ p, v = .ref p ∧ (SrcAt K "Table" H p ws ∨ SrcAt K "Machine" H p ws)
theorem SrcAt.up {K : Fr} {C : Str} {H H' : Hp} {p : Addr} {ws : Ws} (e : Same H H') (h : SrcAt K C H p ws) : SrcAt K C H' p ws := by
  obtain ⟨dx, fs, d, us, h1, h2, h3, h4, h5⟩ := h
  exact ⟨dx, fs, d, us, e _ _ h1, h2, e _ _ h3, h4, h5⟩
instance : Mo (RSrc K) := ⟨fun e ⟨p, h1, h2⟩ => ⟨p, h1, h2.imp (SrcAt.up e) (SrcAt.up e)⟩⟩
end
end MH
/-! part R1 -/
set_option Elab.async false
set_option linter.all false
set_option maxRecDepth 100000
set_option maxHeartbeats 4000000
/-! zip and enumerate over lists, tuples and texts in any mix, as walked things of the layer. -/
namespace MH
open PySem PySem.Spec PyProof.Rows L2
/-- a source of items -/
inductive SK where
  | l (a : Addr) | t (a : Addr) | s (z : Str)
def SK.v : SK → V
  | .l a => .ref a
  | .t a => .ref a
  | .s z => .str z
def signsV (z : Str) : List V := z.cps.toList.map fun c => V.str ⟨#[c]⟩
def SqK (K : Fr) (H : Hp) : SK → List V → Prop
  | .l a, xs => SqL K H a xs
  | .t a, xs => SqT K H a xs
  | .s z, xs => xs = signsV z
def SK.has : SK → Addr → Prop
  | .l a, b => b = a
  | .t a, b => b = a
  | .s _, _ => False
def ItK (h : Heap) (it : Addr) (i : Nat) : SK → Prop
  | .l a => h.IsListIter it a i ∧ a ≠ it
  | .t a => h.IsTupleIter it a i ∧ a ≠ it
  | .s z => ∃ t, h.IsStrIter it (strIterType z) z t i
theorem ItK.at {h h' : Heap} {it : Addr} {i : Nat} : ∀ {k : SK}, ItK h it i k → (∀ o, h.get? it = some o → h'.get? it = some o) → ItK h' it i k
  | .l _, ⟨x, n⟩, e => ⟨x.at e, n⟩
  | .t _, ⟨x, n⟩, e => ⟨x.at e, n⟩
  | .s _, ⟨t, o, ho, r⟩, e => ⟨t, o, e _ ho, r⟩
theorem ItK.obj {h : Heap} {it : Addr} {i : Nat} : ∀ {k : SK}, ItK h it i k → ∃ o, h.get? it = some o ∧ ∀ v, o.data ≠ .cell v
  | .l _, ⟨⟨o, ho, _, hd⟩, _⟩ => ⟨o, ho, fun v q => by rw [hd] at q; cases q⟩
  | .t _, ⟨⟨o, ho, _, hd⟩, _⟩ => ⟨o, ho, fun v q => by rw [hd] at q; cases q⟩
  | .s _, ⟨_, o, ho, _, hd⟩ => ⟨o, ho, fun v q => by rw [hd] at q; cases q⟩
theorem sq_uniq {X : Cx} {pins : List (Addr × Obj)} {σ : L2.St} {H : Hp} {s : Shared} (I : Inv X pins σ H s) : ∀ {k : SK} {xs ys : List V}, SqK X.K H k xs → SqK X.K H k ys → xs = ys
  | .l _, _, _, h, g => I.list_inj h g
  | .t _, _, _, h, g => I.tuple_inj h g
  | .s _, _, _, h, g => Eq.trans h (Eq.symm g)
/-- what the iterator draws, as things stand -/
theorem draws_k {X : Cx} {pins : List (Addr × Obj)} {σ : L2.St} {H : Hp} {s : Shared} {A : Around} (I : Inv X pins σ H s) (hh : A.handled = none) (k : SK) {it : Addr} {i : Nat} {xs : List V} (hit : ItK s.heap it i k) (hq : SqK X.K H k xs) :
    ∃ (fp : List Addr) (n : Nat) (P : Nat → Value → Prop) (St : Nat → Heap → Prop), Draws X.prog X.w A it fp n P St ∧ St i s.heap ∧ n = xs.length ∧ (∀ j v, P j v → ∃ x, xs[j]? = some x ∧ RelV x v) ∧ (∀ j h, St j h → ItK h it j k) ∧ it ∈ fp ∧ ∀ b ∈ fp, b = it ∨ k.has b := by
  cases k with
  | l a =>
    obtain ⟨its, rv, p, _⟩ := I.list hq
    refine ⟨_, _, _, _, Draws.list hh it a hit.2 its.toArray, ⟨hit.1, p.isList⟩, by rw [List.size_toArray, ← rv.length], fun j v e => ?_, fun j h st => ⟨st.1, hit.2⟩, by simp, fun b hb => ?_⟩
    · have e' : its[j]? = some v := by simpa using e
      exact paired_get' rv e'
    · rcases List.mem_cons.mp hb with h | h
      · exact .inl h
      · exact .inr (List.mem_singleton.mp h)
  | t a =>
    obtain ⟨its, rv, p, _⟩ := I.tuple hq
    refine ⟨_, _, _, _, Draws.tuple hh it a hit.2 its.toArray, ⟨hit.1, p⟩, by rw [List.size_toArray, ← rv.length], fun j v e => ?_, fun j h st => ⟨st.1, hit.2⟩, by simp, fun b hb => ?_⟩
    · have e' : its[j]? = some v := by simpa using e
      exact paired_get' rv e'
    · rcases List.mem_cons.mp hb with h | h
      · exact .inl h
      · exact .inr (List.mem_singleton.mp h)
  | s z =>
    obtain ⟨t, hit⟩ := hit
    have hq : xs = signsV z := hq
    subst hq
    refine ⟨_, _, _, _, Draws.text hh it z t, hit, by simp [signsV], fun j v e => ?_, fun j h st => ⟨t, st⟩, by simp, fun b hb => .inl (List.mem_singleton.mp hb)⟩
    obtain ⟨c, u, hc, rfl⟩ := e
    refine ⟨V.str ⟨#[c]⟩, ?_, u, rfl⟩
    unfold signsV
    rw [List.getElem?_map, Array.getElem?_toList, hc]; rfl

/-! ### zip -/
/-- the sources' items, turn by turn, in new pairs -/
def ItZ (K : Fr) (k1 k2 : SK) : It :=
  ⟨fun i H => ∃ (xs ys : List V) (x y : V), SqK K H k1 xs ∧ SqK K H k2 ys ∧ xs[i]? = some x ∧ ys[i]? = some y,
    fun i H v H' => ∃ T x y, v = .ref T ∧ H T = none ∧ H' = upd H T (.tup [x, y]) ∧ (∀ xs, SqK K H k1 xs → xs[i]? = some x) ∧ ∀ ys, SqK K H k2 ys → ys[i]? = some y,
    fun i H => ∃ xs ys : List V, SqK K H k1 xs ∧ SqK K H k2 ys ∧ i ≤ xs.length ∧ i ≤ ys.length ∧ (i = xs.length ∨ i = ys.length)⟩
theorem sep_k {k1 k2 : SK} {N : Nat} {fp1 fp2 : List Addr} (h1 : ∀ b, k1.has b → b < N) (h2 : ∀ b, k2.has b → b < N) (m1 : N ∈ fp1) (m2 : N + 1 ∈ fp2) (f1 : ∀ b ∈ fp1, b = N ∨ k1.has b) (f2 : ∀ b ∈ fp2, b = N + 1 ∨ k2.has b) : ZipSep2 (N + 4) (N + 2) (N + 3) N (N + 1) fp1 fp2 := by
  have g1 : ∀ b ∈ fp1, b ≤ N := fun b hb => (f1 b hb).elim (fun e => Nat.le_of_eq e) fun e => Nat.le_of_lt (h1 b e)
  have g2 : ∀ b ∈ fp2, b = N + 1 ∨ b < N := fun b hb => (f2 b hb).imp id fun e => h2 b e
  have q : ∀ c : Nat, 0 < c → N + c ∉ fp1 := fun c hc hb => absurd (g1 _ hb) (Nat.not_le_of_lt (Nat.lt_add_of_pos_right hc))
  have q2 : ∀ c : Nat, 1 < c → N + c ∉ fp2 := fun c hc hb => by
    rcases g2 _ hb with e | e
    · exact absurd (Nat.add_left_cancel e) (Nat.ne_of_gt hc)
    · exact absurd e (Nat.not_lt_of_le (Nat.le_add_right _ _))
  have ne : ∀ {c d : Nat}, c ≠ d → N + c ≠ N + d := fun h e => h (Nat.add_left_cancel e)
  exact ⟨ne (by decide), ne (by decide), ne (by decide), (fun e => absurd (Nat.add_left_cancel (e.trans (Nat.add_zero N).symm)) (by decide)), m1, q 4 (by decide), q 3 (by decide), ne (by decide), m2, q2 4 (by decide), q2 3 (by decide),
    fun hb => (g2 _ hb).elim (fun e => absurd e (Nat.ne_of_lt (Nat.lt_succ_self N))) fun e => absurd e (Nat.lt_irrefl _), q 1 (by decide)⟩
theorem turn_zipK {P : Program} {w : World} {K : Fr} {elts : List Expr} {kk : Nat} {tpos : Pos} {k1 k2 : SK} {N : Addr} (h1 : ∀ b, k1.has b → b < N) (h2 : ∀ b, k2.has b → b < N) :
    Turn P w K (.Tuple elts kk tpos) (ItZ K k1 k2) [N + 4, N + 2, N + 3, N, N + 1] (N + 4) (fun i h => IsZip h (N + 4) (N + 2) (N + 3) .none ∧ IsTupOf2 h (N + 2) (.ref N) (.ref (N + 1)) ∧ (∃ x y, IsTupOf2 h (N + 3) x y) ∧ ItK h N i k1 ∧ ItK h (N + 1) i k2) where
  mem := List.mem_cons_self ..
  obj := fun i h st c hc => by
    obtain ⟨hz, hTI, ⟨x, y, hTO⟩, i1, i2⟩ := st
    simp only [List.mem_cons, List.not_mem_nil, or_false] at hc
    rcases hc with q | q | q | q | q
    · rw [q]; exact ⟨_, hz, fun v q => nomatch q⟩
    · rw [q]; exact ⟨_, hTI, fun v q => nomatch q⟩
    · rw [q]; exact ⟨_, hTO, fun v q => nomatch q⟩
    · rw [q]; exact i1.obj
    · rw [q]; exact i2.obj
  keep := fun i h h' st k => by
    obtain ⟨hz, hTI, ⟨x, y, hTO⟩, i1, i2⟩ := st
    exact ⟨k _ (by simp) _ hz, k (N + 2) (by simp) _ hTI, ⟨x, y, k (N + 3) (by simp) _ hTO⟩, i1.at fun o q => k N (by simp) o q, i2.at fun o q => k (N + 1) (by simp) o q⟩
  item := by
    intro X hP hw hK hc i pins s σ H E I hf st hg
    subst hP hw hK
    obtain ⟨hz, hTI, ⟨x0, y0, hTO⟩, i1, i2⟩ := st
    obtain ⟨xs, ys, x, y, hqx, hqy, hx, hy⟩ := hg
    have hh : X.A.in1.handled = none := I.ok.hd hc
    obtain ⟨fp1, n1, P1, St1, D1, s1, e1, v1, b1, m1, f1⟩ := draws_k I hh k1 i1 hqx
    obtain ⟨fp2, n2, P2, St2, D2, s2, e2, v2, b2, m2, f2⟩ := draws_k I hh k2 i2 hqy
    have S := sep_k h1 h2 m1 m2 f1 f2
    have l1 := (List.getElem?_eq_some_iff.mp hx).1
    have l2 := (List.getElem?_eq_some_iff.mp hy).1
    have hzl : N + 4 < s.heap.objs.size := Heap.lt_size hz
    refine wpAny_pyNext_zipD2_item S D1 D2 hz hTI hTO s1 s2 (by omega) (by omega) fun u1 u2 h' tk p1 p2 z' TO' t1 t2 hT hsz hk => ?_
    obtain ⟨x', hx', r1⟩ := v1 _ _ p1
    obtain ⟨y', hy', r2⟩ := v2 _ _ p2
    rw [hx] at hx'; cases hx'
    rw [hy] at hy'; cases hy'
    refine ⟨_, rfl, wpAny_letOwnedTupleGo_zip (s := { s with heap := h', toks := tk }) z' fun h'' z'' sb => ?_⟩
    have hTn : s.heap.objs.size ≠ N + 4 := Nat.ne_of_gt hzl
    have hT2 : h''.get? s.heap.objs.size = some { cls := .type "tuple", data := .seq #[u1, u2] } := (sb.2 _ hTn).trans hT
    have new : ObjOk X.prog X.w (upd H s.heap.objs.size (.tup [x, y])) h'' s.heap.objs.size (.tup [x, y]) :=
      ⟨by show 2 ≤ sizeLine; decide, [u1, u2], .cons r1 (.cons r2 .nil), ⟨_, hT2, rfl, _, rfl⟩⟩
    have I1 : Inv X pins σ (upd H s.heap.objs.size (.tup [x, y])) { s with heap := h'', toks := tk } :=
      I.turnedNew (ch := [N + 4, N + 2, N + 3, N, N + 1]) (fun c o hb q => by
        simp only [List.mem_cons, List.not_mem_nil, or_false, not_or] at hb
        obtain ⟨c1, c2, c3, c4, c5⟩ := hb
        exact (sb.2 c c1).trans (hk c o c1 c3 c4 c5 q)) hf (Nat.le_refl _) new
    have lt : ∀ c ∈ [N + 4, N + 2, N + 3, N, N + 1], c < s.heap.objs.size := fun c hcm => by
      have : c ≤ N + 4 := by
        simp only [List.mem_cons, List.not_mem_nil, or_false] at hcm
        rcases hcm with q | q | q | q | q <;> rw [q] <;> first | exact Nat.le_refl _ | exact Nat.add_le_add_left (show 2 ≤ 4 by decide) N | exact Nat.add_le_add_left (show 3 ≤ 4 by decide) N | exact Nat.add_le_add_left (show 1 ≤ 4 by decide) N | exact Nat.le_add_right N 4
      exact Nat.lt_of_le_of_lt this hzl
    refine ⟨.ref s.heap.objs.size, _, I1, rfl, ⟨_, x, y, rfl, I.hok.fresh (Nat.le_refl _), rfl, fun l hl => by rw [sq_uniq I hl hqx]; exact hx, fun l hl => by rw [sq_uniq I hl hqy]; exact hy⟩, ⟨z'', ?_, ⟨u1, u2, ?_⟩, ?_, ?_⟩, fun c hcm => ?_⟩
    · exact (sb.2 _ S.TIz).trans (hk _ _ S.TIz S.TITO S.TIi1 S.TIi2 hTI)
    · exact (sb.2 _ S.TOz).trans TO'
    · exact (b1 _ _ t1).at fun o q => (sb.2 _ (Ne.symm S.zi1)).trans q
    · exact (b2 _ _ t2).at fun o q => (sb.2 _ (Ne.symm S.zi2)).trans q
    · rw [upd_ne (Nat.ne_of_lt (lt c hcm))]
      exact (hf c hcm).1
  done := by
    intro X hP hw hK hc i pins s σ H E I hf st hg
    subst hP hw hK
    obtain ⟨hz, hTI, ⟨x0, y0, hTO⟩, i1, i2⟩ := st
    obtain ⟨xs, ys, hqx, hqy, l1, l2, hend⟩ := hg
    have hh : X.A.in1.handled = none := I.ok.hd hc
    obtain ⟨fp1, n1, P1, St1, D1, s1, e1, v1, b1, m1, f1⟩ := draws_k I hh k1 i1 hqx
    obtain ⟨fp2, n2, P2, St2, D2, s2, e2, v2, b2, m2, f2⟩ := draws_k I hh k2 i2 hqy
    have S := sep_k h1 h2 m1 m2 f1 f2
    refine wpAny_pyNext_zipD2_end S D1 D2 hz hTI hTO s1 s2 (by omega) (by omega) (by omega) fun h' tk hk => ⟨rfl, ?_⟩
    exact I.turnedL (ch := [N + 4, N + 2, N + 3, N, N + 1]) (fun c o hb q => by
      simp only [List.mem_cons, List.not_mem_nil, or_false, not_or] at hb
      obtain ⟨c1, c2, c3, c4, c5⟩ := hb
      exact hk c o c1 c3 c4 c5 q) hf
  self := fun A i s Q E st h => wpAny_pyIter_zip st.1 h
/-- iter of a source begins -/
theorem begin_k {X : Cx} {pins : List (Addr × Obj)} {σ : L2.St} {H : Hp} {s : Shared} {u : Value} (I : Inv X pins σ H s) (k : SK) {xs : List V} (hq : SqK X.K H k xs) (r : RelV k.v u) :
    ∃ (o : Obj) (B : Heap → Prop), Begins u o B ∧ B s.heap ∧ (∀ b, k.has b → b < s.heap.objs.size) ∧ ∀ (h : Heap) (it : Addr), h.get? it = some o → (∀ b, k.has b → b ≠ it) → ItK h it 0 k := by
  cases k with
  | l a =>
    obtain ⟨its, rv, p, _⟩ := I.list hq
    cases r
    exact ⟨_, _, begins_list a its.toArray, p.isList, fun b hb => by cases hb; exact p.lt, fun h it e n => ⟨⟨_, e, rfl, rfl⟩, n a rfl⟩⟩
  | t a =>
    obtain ⟨its, rv, p, _⟩ := I.tuple hq
    cases r
    obtain ⟨o, ho, hr⟩ := id p
    exact ⟨_, _, begins_tuple a its.toArray, p, fun b hb => by cases hb; exact Heap.lt_size ho, fun h it e n => ⟨⟨_, e, rfl, rfl⟩, n a rfl⟩⟩
  | s z =>
    obtain ⟨t, rfl⟩ := r
    exact ⟨_, _, begins_text z t, trivial, fun b hb => hb.elim, fun h it e n => ⟨t, _, e, rfl, rfl⟩⟩
def iZipK (K : Fr) (ta : TA) : TI := fun σ H R => ta σ H fun vs H1 => ∃ (k1 k2 : SK) (xs ys : List V), vs = [k1.v, k2.v] ∧ SqK K H1 k1 xs ∧ SqK K H1 k2 ys ∧ R (ItZ K k1 k2) H1
theorem pi_zipK {X : Cx} {e e2 : Expr} {ta : TA} {p pos tpos : Pos} {elts : List Expr} {kk : Nat} (hg : Gl X "zip") (hm : X.mg "zip" = none) (ha : PA X [e, e2] ta)
    (hs : starEach [e, e2] X.env = (false, eval e X.env) :: starEach [e2] X.env := by rfl) (hpl : (backTo pos (starEach [e2] X.env)).any (·.1) = false := by rfl) :
    PI X (.Tuple elts kk tpos) (.Call (.Name "zip" p) [e, e2] [] pos) (iZipK X.K ta) := by
  refine ⟨fun pins s σ H R I h => ?_⟩
  refine Call_ (ld_blt I hg hm PyProof.Rows.boot_zip (PyProof.Rows.callWith_type1 (thn (ha.run pos pins s σ H _ I h) fun us s1 ⟨vs, H1, I1, r1, q1⟩ => ?_) hs hpl))
  obtain ⟨k1, k2, xs, ys, ex, hqx, hqy, q⟩ := q1
  subst ex
  cases r1 with
  | cons r rr =>
    cases rr with
    | cons r' rr =>
      cases rr
      obtain ⟨o1, B1, G1, g1, lt1, i1⟩ := begin_k I1 k1 hqx r
      obtain ⟨o2, B2, G2, g2, lt2, i2⟩ := begin_k I1 k2 hqy r'
      refine zip_begins2 G1 G2 g1 g2 fun h' hz hTI hTO e1 e2 hsz hk => wpAny_pyIter_zip hz ?_
      have I2 : Inv X pins σ H1 { s1 with heap := h' } := I1.kept (t' := s1.toks) hk
      refine ⟨s1.heap.objs.size + 4, [s1.heap.objs.size + 4, s1.heap.objs.size + 2, s1.heap.objs.size + 3, s1.heap.objs.size, s1.heap.objs.size + 1], _, _, H1, rfl, I2, turn_zipK lt1 lt2,
        ⟨hz, hTI, ⟨_, _, hTO⟩, i1 _ _ e1 fun b hb => Nat.ne_of_lt (lt1 b hb), i2 _ _ e2 fun b hb => Nat.ne_of_lt (Nat.lt_succ_of_lt (lt2 b hb))⟩, fun c hcm => ?_, q⟩
      have hle : s1.heap.objs.size ≤ c := by
        simp only [List.mem_cons, List.not_mem_nil, or_false] at hcm
        rcases hcm with q | q | q | q | q <;> rw [q] <;> first | exact Nat.le_add_right _ _ | exact Nat.le_refl _
      exact I1.fpOk hle (I1.hok.fresh hle)

/-- a loop over such a zip, the sources standing still -/
theorem for_zipK {K : Fr} {k1 k2 : SK} {xs ys : List V} {g : TG} {tb : TS} {D : Ends} {σ : L2.St} {H : Hp} (hl : xs.length = ys.length) (Pv : Nat → L2.St → Hp → Prop) (h0 : Pv 0 σ H) (hq : ∀ i σ H, Pv i σ H → SqK K H k1 xs ∧ SqK K H k2 ys)
    (hs : ∀ (i : Nat) (x y : V) (T : Addr) (σ : L2.St) (H : Hp), xs[i]? = some x → ys[i]? = some y → Pv i σ H → H T = none → g (.ref T) σ (upd H T (.tup [x, y])) fun σ2 H2 => tb { D with nx := Pv (i + 1), ct := Pv (i + 1), bk := D.nx } σ2 H2)
    (hd : ∀ σ H, Pv xs.length σ H → D.nx σ H) :
    ∃ W : Nat → Nat → L2.St → Hp → Prop, (∃ m, W 0 m σ H) ∧ ∀ i m σ H, W i m σ H →
      ((ItZ K k1 k2).stop i H ∧ D.nx σ H) ∨ ((ItZ K k1 k2).go i H ∧ ∃ N : L2.St → Hp → Prop, (∀ σ' H', N σ' H' → ∃ m', m' < m ∧ W (i + 1) m' σ' H') ∧ ∀ v H', (ItZ K k1 k2).yld i H v H' → g v σ H' fun σ2 H2 => tb { D with nx := N, ct := N, bk := D.nx } σ2 H2) := by
  refine ⟨fun i m σ H => m + i = xs.length ∧ Pv i σ H, ⟨xs.length, rfl, h0⟩, fun i m σ H ⟨hm, p⟩ => ?_⟩
  obtain ⟨q1, q2⟩ := hq i σ H p
  by_cases c : i < xs.length
  · refine .inr ⟨⟨xs, ys, xs[i], ys[i], q1, q2, List.getElem?_eq_getElem c, List.getElem?_eq_getElem (by omega)⟩, Pv (i + 1), fun σ' H' p' => ⟨m - 1, by omega, by omega, p'⟩, fun v H' hy => ?_⟩
    obtain ⟨T, x, y, rfl, hT, rfl, hx, hy⟩ := hy
    exact hs i x y T σ H (hx _ q1) (hy _ q2) p hT
  · have e : i = xs.length := by omega
    exact .inl ⟨⟨xs, ys, q1, q2, by omega, by omega, .inl e⟩, hd σ H (e ▸ p)⟩
/-- a comprehension over such a zip -/
theorem lc_zipK {K : Fr} {k1 k2 : SK} {xs ys : List V} {g : TG} {tt : TT} {te : TE} {vs : List Nat} {σ : L2.St} {H1 : Hp} {D : Addr} {Qd : Hp → Prop} (hl : xs.length = ys.length) (Pv : Nat → Hp → Prop) (h0 : Pv 0 (upd H1 D (.lst []))) (hq : ∀ i H, Pv i H → SqK K H k1 xs ∧ SqK K H k2 ys)
    (hs : ∀ (i : Nat) (x y : V) (T : Addr) (H : Hp), xs[i]? = some x → ys[i]? = some y → Pv i H → H T = none → g (.ref T) (wipe σ vs) (upd H T (.tup [x, y])) fun σ2 H2 => wipe σ2 vs = wipe σ vs ∧ tt σ2 H2 fun b H3 =>
      if b = true then te σ2 H3 fun z H4 => ∃ acc, H4 D = some (.lst acc) ∧ acc.length < sizeLine ∧ Pv (i + 1) (upd H4 D (.lst (acc ++ [z]))) else Pv (i + 1) H3) (hd : ∀ H, Pv xs.length H → Qd H) :
    ∃ W : Nat → Nat → Hp → Prop, (∃ m, W 0 m (upd H1 D (.lst []))) ∧ ∀ i m H, W i m H →
      ((ItZ K k1 k2).stop i H ∧ Qd H) ∨ ((ItZ K k1 k2).go i H ∧ ∃ Nx : Hp → Prop, (∀ H', Nx H' → ∃ m', m' < m ∧ W (i + 1) m' H') ∧ ∀ v H', (ItZ K k1 k2).yld i H v H' → g v (wipe σ vs) H' fun σ2 H2 => wipe σ2 vs = wipe σ vs ∧ tt σ2 H2 fun b H3 =>
        if b = true then te σ2 H3 fun z H4 => ∃ acc, H4 D = some (.lst acc) ∧ acc.length < sizeLine ∧ Nx (upd H4 D (.lst (acc ++ [z]))) else Nx H3) := by
  refine ⟨fun i m H => m + i = xs.length ∧ Pv i H, ⟨xs.length, rfl, h0⟩, fun i m H ⟨hm, p⟩ => ?_⟩
  obtain ⟨q1, q2⟩ := hq i H p
  by_cases c : i < xs.length
  · refine .inr ⟨⟨xs, ys, xs[i], ys[i], q1, q2, List.getElem?_eq_getElem c, List.getElem?_eq_getElem (by omega)⟩, Pv (i + 1), fun H' p' => ⟨m - 1, by omega, by omega, p'⟩, fun v H' hy => ?_⟩
    obtain ⟨T, x, y, rfl, hT, rfl, hx, hy⟩ := hy
    exact hs i x y T H (hx _ q1) (hy _ q2) p hT
  · have e : i = xs.length := by omega
    exact .inl ⟨⟨xs, ys, q1, q2, by omega, by omega, .inl e⟩, hd H (e ▸ p)⟩

/-! ### enumerate -/
def ItE (K : Fr) (k : SK) : It :=
  ⟨fun i H => ∃ (xs : List V) (x : V), SqK K H k xs ∧ xs[i]? = some x,
    fun i H v H' => ∃ T x, v = .ref T ∧ H T = none ∧ H' = upd H T (.tup [.int (i : Nat), x]) ∧ ∀ xs, SqK K H k xs → xs[i]? = some x,
    fun i H => ∃ xs : List V, SqK K H k xs ∧ i = xs.length⟩
theorem turn_enumK {P : Program} {w : World} {K : Fr} {elts : List Expr} {kk : Nat} {tpos : Pos} {k : SK} {N : Addr} (h1 : ∀ b, k.has b → b < N) :
    Turn P w K (.Tuple elts kk tpos) (ItE K k) [N + 1, N] (N + 1) (fun i h => (∃ old, IsEnum h (N + 1) N ((i : Nat) : Int) old) ∧ ItK h N i k) where
  mem := List.mem_cons_self ..
  obj := fun i h st c hc => by
    obtain ⟨⟨old, he⟩, i1⟩ := st
    simp only [List.mem_cons, List.not_mem_nil, or_false] at hc
    rcases hc with q | q
    · rw [q]; exact ⟨_, he, fun v q => nomatch q⟩
    · rw [q]; exact i1.obj
  keep := fun i h h' st k => by
    obtain ⟨⟨old, he⟩, i1⟩ := st
    exact ⟨⟨old, k _ (by simp) _ he⟩, i1.at fun o q => k N (by simp) o q⟩
  item := by
    intro X hP hw hK hc i pins s σ H E I hf st hg
    subst hP hw hK
    obtain ⟨⟨old, he⟩, i1⟩ := st
    obtain ⟨xs, x, hqx, hx⟩ := hg
    have hh : X.A.in1.handled = none := I.ok.hd hc
    obtain ⟨fp1, n1, P1, St1, D1, s1, e1, v1, b1, m1, f1⟩ := draws_k I hh k i1 hqx
    have l1 := (List.getElem?_eq_some_iff.mp hx).1
    have hel : N + 1 < s.heap.objs.size := Heap.lt_size he
    have hne : N + 1 ≠ N := Nat.succ_ne_self N
    have hef : N + 1 ∉ fp1 := fun hb => (f1 _ hb).elim hne fun e => absurd (h1 _ e) (Nat.not_lt_of_le (Nat.le_succ N))
    refine wpAny_pyNext_enum_itemC D1 he s1 (by omega) hne hef fun u h' tk p1 ho t1 hT hsz hk => ?_
    obtain ⟨x', hx', r1⟩ := v1 _ _ p1
    rw [hx] at hx'; cases hx'
    refine ⟨_, rfl, wpAny_letOwnedTupleGo_enum (s := { s with heap := h', toks := tk + 1 }) ho fun h'' he' sb => ?_⟩
    have hTn : s.heap.objs.size ≠ N + 1 := Nat.ne_of_gt hel
    have hT2 : h''.get? s.heap.objs.size = some { cls := .type "tuple", data := .seq #[.int ((i : Nat) : Int) tk, u] } := (sb.2 _ hTn).trans hT
    have new : ObjOk X.prog X.w (upd H s.heap.objs.size (.tup [.int (i : Nat), x])) h'' s.heap.objs.size (.tup [.int (i : Nat), x]) :=
      ⟨by show 2 ≤ sizeLine; decide, [.int ((i : Nat) : Int) tk, u], .cons ⟨_, rfl⟩ (.cons r1 .nil), ⟨_, hT2, rfl, _, rfl⟩⟩
    have I1 : Inv X pins σ (upd H s.heap.objs.size (.tup [.int (i : Nat), x])) { s with heap := h'', toks := tk + 1 } :=
      I.turnedNew (ch := [N + 1, N]) (fun c o hb q => by
        simp only [List.mem_cons, List.not_mem_nil, or_false, not_or] at hb
        exact (sb.2 c hb.1).trans (hk c o hb.1 hb.2 q)) hf (Nat.le_refl _) new
    refine ⟨.ref s.heap.objs.size, _, I1, rfl, ⟨_, x, rfl, I.hok.fresh (Nat.le_refl _), rfl, fun l hl => by rw [sq_uniq I hl hqx]; exact hx⟩, ⟨⟨u, ?_⟩, ?_⟩, fun c hcm => ?_⟩
    · have e1 : ((i + 1 : Nat) : Int) = (i : Int) + 1 := by omega
      rw [e1]; exact he'
    · exact (b1 _ _ t1).at fun o q => (sb.2 _ (Ne.symm hne)).trans q
    · have hlt : c < s.heap.objs.size := by
        simp only [List.mem_cons, List.not_mem_nil, or_false] at hcm
        rcases hcm with q | q <;> rw [q]
        · exact hel
        · exact Nat.lt_of_succ_lt hel
      rw [upd_ne (Nat.ne_of_lt hlt)]
      exact (hf c hcm).1
  done := by
    intro X hP hw hK hc i pins s σ H E I hf st hg
    subst hP hw hK
    obtain ⟨⟨old, he⟩, i1⟩ := st
    obtain ⟨xs, hqx, hx⟩ := hg
    have hh : X.A.in1.handled = none := I.ok.hd hc
    obtain ⟨fp1, n1, P1, St1, D1, s1, e1, v1, b1, m1, f1⟩ := draws_k I hh k i1 hqx
    have s1' : St1 n1 s.heap := by rw [e1, ← hx]; exact s1
    obtain ⟨f0, f1, f2, f3, f4, f5⟩ := hf N (by simp)
    exact wpAny_pyNext_enum_endD D1 he s1' fun h' eb => ⟨rfl, I.turned (t' := s.toks) (fun b o hb q => eb b o hb q) f0 f1 f3 f4 f5⟩
  self := fun A i s Q E st h => let ⟨⟨_, he⟩, _⟩ := st; wpAny_pyIter_enum he h
/-- enumerate(v) of any beginning source -/
theorem meets_enum1 {v : Value} {o : Obj} {H : Heap → Prop} (B : Begins v o H) :
    Meets (Builtin.«enumerate.__new__» ⟨[.type "enumerate", v], []⟩) (fun _ R s => H s.heap ∧
      R (.ok (.ret (.ref (s.heap.push o).objs.size))) { s with heap := (s.heap.push o).push { cls := .type "enumerate", data := .fields #[.none, .bool false, .ref s.heap.objs.size, rawInt 0, .none, .none] } }) :=
  .of_wp fun prog w A R s z => by
    obtain ⟨hp, g, d, tk, os⟩ := s
    obtain ⟨h1, h⟩ := z
    have hsub := sub_enumerate
    have q1 : ∀ {A' : Around} {E : Value → Shared → Prop} {Q : Value → Shared → Prop}, Q (.ref hp.objs.size) ⟨hp.push o, g, d, tk, os⟩ → wpAny (model prog w) A' (pyIter v) Q E ⟨hp, g, d, tk, os⟩ :=
      fun q => B.iter prog w _ _ ⟨hp, g, d, tk, os⟩ _ h1 q
    wp_walk using q1
    refine wpAny_stack_any fun st => wpAny_pure ?_
    split
    · rename_i c _ _ _ _ _
      cases (c == Value.type "enumerate") <;> (wp_walk using q1; exact ⟨_, rfl, h⟩)
    · wp_walk using q1
      exact ⟨_, rfl, h⟩
theorem call_enum1 {prog : Program} {w : World} {A : Around} {E : Value → Shared → Prop} {s : Shared} {v : Value} {o : Obj} {H : Heap → Prop} {Q : Value → Shared → Prop} (B : Begins v o H) (h1 : H s.heap)
    (h : ∀ h', IsEnum h' (s.heap.objs.size + 1) s.heap.objs.size 0 .none → h'.get? s.heap.objs.size = some o → (∀ b o, s.heap.get? b = some o → h'.get? b = some o) → Q (.ref (s.heap.objs.size + 1)) { s with heap := h' }) :
    wpAny (model prog w) A (call (.type "enumerate") [v]) Q E s := by
  refine callType_new F.called_enumerate (by decide) (F.typeCall_enumerate_1 _) (F.newCall_enumerate_1 _) (fun obj => F.args_object_init_2 obj _) F.entry_enumerate_new (meets_enum1 B) ⟨h1, ?_⟩
  have hz : (s.heap.push o).objs.size = s.heap.objs.size + 1 := Heap.size_push ..
  show _ ∧ _
  rw [hz]
  have he : IsEnum ((s.heap.push o).push { cls := .type "enumerate", data := .fields #[.none, .bool false, .ref s.heap.objs.size, rawInt 0, .none, .none] }) (s.heap.objs.size + 1) s.heap.objs.size 0 .none := by
    have q := Heap.get?_push_size (s.heap.push o) (o := { cls := .type "enumerate", data := .fields #[.none, .bool false, .ref s.heap.objs.size, rawInt 0, .none, .none] }) rfl
    rw [hz] at q; exact q
  exact ⟨⟨_, he, rfl⟩, h _ he (Heap.get?_push_of_some _ (Heap.get?_push_size _ B.free)) fun b o x => Heap.get?_push_of_some _ (Heap.get?_push_of_some _ x)⟩
def iEnumK (K : Fr) (ta : TA) : TI := fun σ H R => ta σ H fun vs H1 => ∃ (k : SK) (xs : List V), vs = [k.v] ∧ SqK K H1 k xs ∧ R (ItE K k) H1
theorem pi_enumK {X : Cx} {e : Expr} {ta : TA} {p pos tpos : Pos} {elts : List Expr} {kk : Nat} (hg : Gl X "enumerate") (hm : X.mg "enumerate" = none) (ha : PA X [e] ta) (hs : starEach [e] X.env = [(false, eval e X.env)] := by rfl) :
    PI X (.Tuple elts kk tpos) (.Call (.Name "enumerate" p) [e] [] pos) (iEnumK X.K ta) := by
  refine ⟨fun pins s σ H R I h => ?_⟩
  refine Call_ (ld_blt I hg hm boot_enumerate (PyProof.Rows.callWith_type1 (thn (ha.run pos pins s σ H _ I h) fun us s1 ⟨vs, H1, I1, r1, q1⟩ => ?_) hs rfl))
  obtain ⟨k, xs, ex, hq, q⟩ := q1
  subst ex
  cases r1 with
  | cons r rr =>
    cases rr
    obtain ⟨o1, B1, G1, g1, lt1, i1⟩ := begin_k I1 k hq r
    refine call_enum1 G1 g1 fun h' he e1 hk => wpAny_pyIter_enum he ?_
    have I2 : Inv X pins σ H1 { s1 with heap := h' } := I1.kept (t' := s1.toks) hk
    refine ⟨s1.heap.objs.size + 1, [s1.heap.objs.size + 1, s1.heap.objs.size], _, _, H1, rfl, I2, turn_enumK lt1, ⟨⟨.none, he⟩, i1 _ _ e1 fun b hb => Nat.ne_of_lt (lt1 b hb)⟩, fun c hcm => ?_, q⟩
    have hle : s1.heap.objs.size ≤ c := by
      simp only [List.mem_cons, List.not_mem_nil, or_false] at hcm
      rcases hcm with q | q <;> rw [q] <;> first | exact Nat.le_add_right _ _ | exact Nat.le_refl _
    exact I1.fpOk hle (I1.hok.fresh hle)
theorem for_enumK {K : Fr} {k : SK} {xs : List V} {g : TG} {tb : TS} {D : Ends} {σ : L2.St} {H : Hp} (Pv : Nat → L2.St → Hp → Prop) (h0 : Pv 0 σ H) (hq : ∀ i σ H, Pv i σ H → SqK K H k xs)
    (hs : ∀ (i : Nat) (x : V) (T : Addr) (σ : L2.St) (H : Hp), xs[i]? = some x → Pv i σ H → H T = none → g (.ref T) σ (upd H T (.tup [.int (i : Nat), x])) fun σ2 H2 => tb { D with nx := Pv (i + 1), ct := Pv (i + 1), bk := D.nx } σ2 H2)
    (hd : ∀ σ H, Pv xs.length σ H → D.nx σ H) :
    ∃ W : Nat → Nat → L2.St → Hp → Prop, (∃ m, W 0 m σ H) ∧ ∀ i m σ H, W i m σ H →
      ((ItE K k).stop i H ∧ D.nx σ H) ∨ ((ItE K k).go i H ∧ ∃ N : L2.St → Hp → Prop, (∀ σ' H', N σ' H' → ∃ m', m' < m ∧ W (i + 1) m' σ' H') ∧ ∀ v H', (ItE K k).yld i H v H' → g v σ H' fun σ2 H2 => tb { D with nx := N, ct := N, bk := D.nx } σ2 H2) := by
  refine ⟨fun i m σ H => m + i = xs.length ∧ Pv i σ H, ⟨xs.length, rfl, h0⟩, fun i m σ H ⟨hm, p⟩ => ?_⟩
  have q1 := hq i σ H p
  by_cases c : i < xs.length
  · refine .inr ⟨⟨xs, xs[i], q1, List.getElem?_eq_getElem c⟩, Pv (i + 1), fun σ' H' p' => ⟨m - 1, by omega, by omega, p'⟩, fun v H' hy => ?_⟩
    obtain ⟨T, x, rfl, hT, rfl, hx⟩ := hy
    exact hs i x T σ H (hx _ q1) p hT
  · have e : i = xs.length := by omega
    exact .inl ⟨⟨xs, q1, e⟩, hd σ H (e ▸ p)⟩
theorem lc_enumK {K : Fr} {k : SK} {xs : List V} {g : TG} {tt : TT} {te : TE} {vs : List Nat} {σ : L2.St} {H1 : Hp} {D : Addr} {Qd : Hp → Prop} (Pv : Nat → Hp → Prop) (h0 : Pv 0 (upd H1 D (.lst []))) (hq : ∀ i H, Pv i H → SqK K H k xs)
    (hs : ∀ (i : Nat) (x : V) (T : Addr) (H : Hp), xs[i]? = some x → Pv i H → H T = none → g (.ref T) (wipe σ vs) (upd H T (.tup [.int (i : Nat), x])) fun σ2 H2 => wipe σ2 vs = wipe σ vs ∧ tt σ2 H2 fun b H3 =>
      if b = true then te σ2 H3 fun z H4 => ∃ acc, H4 D = some (.lst acc) ∧ acc.length < sizeLine ∧ Pv (i + 1) (upd H4 D (.lst (acc ++ [z]))) else Pv (i + 1) H3) (hd : ∀ H, Pv xs.length H → Qd H) :
    ∃ W : Nat → Nat → Hp → Prop, (∃ m, W 0 m (upd H1 D (.lst []))) ∧ ∀ i m H, W i m H →
      ((ItE K k).stop i H ∧ Qd H) ∨ ((ItE K k).go i H ∧ ∃ Nx : Hp → Prop, (∀ H', Nx H' → ∃ m', m' < m ∧ W (i + 1) m' H') ∧ ∀ v H', (ItE K k).yld i H v H' → g v (wipe σ vs) H' fun σ2 H2 => wipe σ2 vs = wipe σ vs ∧ tt σ2 H2 fun b H3 =>
        if b = true then te σ2 H3 fun z H4 => ∃ acc, H4 D = some (.lst acc) ∧ acc.length < sizeLine ∧ Nx (upd H4 D (.lst (acc ++ [z]))) else Nx H3) := by
  refine ⟨fun i m H => m + i = xs.length ∧ Pv i H, ⟨xs.length, rfl, h0⟩, fun i m H ⟨hm, p⟩ => ?_⟩
  have q1 := hq i H p
  by_cases c : i < xs.length
  · refine .inr ⟨⟨xs, xs[i], q1, List.getElem?_eq_getElem c⟩, Pv (i + 1), fun H' p' => ⟨m - 1, by omega, by omega, p'⟩, fun v H' hy => ?_⟩
    obtain ⟨T, x, rfl, hT, rfl, hx⟩ := hy
    exact hs i x T H (hx _ q1) p hT
  · have e : i = xs.length := by omega
    exact .inl ⟨⟨xs, q1, e⟩, hd H (e ▸ p)⟩
end MH
/-! part R3 -/
set_option Elab.async false
set_option linter.all false
set_option maxRecDepth 100000
set_option maxHeartbeats 4000000
/-! sum(d.values()), a dict of ints. -/
namespace MH
open PySem PySem.Spec PyProof.Rows L2
section
variable {X : Cx} {o : Expr} {td : TE} {p pos ap mp : Pos}
theorem pre_ints : ∀ (ns : List Int) (n : Nat), n ≤ ns.length → preSum (fun i => ns.getD i 0) n = (ns.take n).sum
  | _, 0, _ => by simp [preSum]
  | ns, n + 1, h => by
    have l : n < ns.length := h
    show preSum _ n + ns.getD n 0 = _
    rw [pre_ints ns n (Nat.le_of_lt l), List.getD_eq_getElem?_getD, List.getElem?_eq_getElem l, List.take_succ, List.getElem?_eq_getElem l, List.sum_append]
    simp
/-- the sum of a dict's ints -/
def tSumVals (td : TE) : TE := fun σ H Q => td σ H fun x H1 => ∃ (d : Addr) (kvs : List (L2.Key × V)) (ns : List Int), x = V.ref d ∧ H1 d = some (.dK kvs) ∧ kvs.map (·.2) = ns.map V.int ∧ Q (.int ns.sum) H1
theorem pe_sumVals (hc : X.calm = true) (T : Tx X.K X.mg) (hd : PE X o td) (hg : Gl X "sum" := by rfl) (hb : attributeBase o "values" X.env (eval o X.env) = eval o X.env := by rfl)
    (hl : (ap.endLine == mp.line) = true := by rfl)
    (hs : starEach [Expr.Call (.Attribute o "values" ap) [] [] mp] X.env = [(false, eval (Expr.Call (.Attribute o "values" ap) [] [] mp) X.env)] := by rfl) :
    PE X (.Call (.Name "sum" p) [.Call (.Attribute o "values" ap) [] [] mp] [] pos) (tSumVals td) := by
  constructor
  intro pins s σ H Q I h
  refine wpAny_Call_Name_kw (ld_blt I hg T.f_sum (u := .builtin "sum") (by first | rfl | decide +kernel) ?_ (by first | decide +kernel | decide) (by first | decide +kernel | decide))
  rw [hs]
  refine PySem.callWith_builtin1 (wpAny_Call_method0_late hb hl (thn (hd.run pins s σ H _ I h) ?_))
  rintro v s1 ⟨x, H1, I1, r1, d, kvs, ns, rfl, hD, hv, q⟩
  cases r1
  obtain ⟨_, room, us, rel, dof⟩ := dk_of I1.hok hD
  obtain ⟨ep, at0⟩ := dof.dictAt
  obtain ⟨ob, es, ho, exd, _⟩ := id at0
  refine ⟨"dict", "dict.values", F.plainAttrs_dict, F.slot_dict_values, F.type_dict_values, ⟨ob, ho, exd.1⟩, ?_, Calls.callWith_builtin rfl (PySem.evalArgs_none ?_)⟩
  · intro b e
    cases e
    exact ⟨ob, ho, exd.2.1⟩
  refine call_meetsIn F.slot_dict_values ⟨ob, ho, exd.1⟩ F.entry_dict_values (F.args_dict_values_1 _) (meets_dict_values (mixKind X.prog X.w) d room) ⟨⟨us, dof⟩, ?_⟩
  -- the view is laid; it is walked
  generalize hh1 : s1.heap.push { cls := .type "dict_values", data := .fields #[.ref d] } = h1
  have old : ∀ b u, s1.heap.get? b = some u → h1.get? b = some u := fun b u e => by rw [← hh1]; exact Heap.get?_push_of_some _ e
  have sz1 : h1.objs.size = s1.heap.objs.size + 1 := by rw [← hh1]; exact Heap.size_push _ _
  have view : h1.get? s1.heap.objs.size = some { cls := .type "dict_values", data := .fields #[.ref d] } := by rw [← hh1]; exact Heap.get?_push_size _ rfl
  have at1 : h1.DictAt (mixKind X.prog X.w) d us ep := at0.keep old
  have dlt : d < s1.heap.objs.size := Heap.lt_size ho
  have len : us.length = ns.length := by
    have e := congrArg List.length hv
    rw [List.length_map, List.length_map] at e
    rw [← e]; exact (KV.length rel).symm
  have val : ∀ (i : Nat) (v : Value), (∃ k, us[i]? = some (k, v)) → ∃ t, v = .int (ns.getD i 0) t := fun i v ⟨k, hk⟩ => by
    obtain ⟨y, g1, g2⟩ := KV.at' rel hk
    have e : (ns.map V.int)[i]? = some y := by rw [← hv, List.getElem?_map, g1]; rfl
    rw [List.getElem?_map] at e
    cases z : ns[i]? with
    | none => rw [z] at e; cases e
    | some j =>
      rw [z] at e
      cases e
      obtain ⟨t, e3⟩ := g2
      exact ⟨t, by rw [e3, List.getD_eq_getElem?_getD, z]; rfl⟩
  refine PySem.call_sum_walkG (wpAny_pyIter_values (v := s1.heap.objs.size) (d := d) ⟨_, view, rfl, rfl⟩ at1 ?_)
  refine ⟨_, _, _, _, _, _, fun i => ns.getD i 0, rfl, Walks.dictValues (knd := mixKind X.prog X.w) (A := X.A.in1) (I.ok.hd hc) h1.objs.size d (by rw [sz1]; exact Nat.ne_of_lt (Nat.lt_succ_of_lt dlt)) us ep, ⟨⟨_, Heap.get?_push_size _ rfl, rfl, rfl⟩, at1.keep fun b u e => Heap.get?_push_of_some _ e⟩, ?_, val, ?_⟩
  · intro b hb
    show b < (h1.push _).objs.size
    rw [Heap.size_push]
    rcases List.mem_cons.mp hb with e | hb
    · rw [e]; exact Nat.lt_succ_self _
    · rw [List.mem_singleton.mp hb, sz1]
      exact Nat.lt_succ_of_lt (Nat.lt_succ_of_lt dlt)
  · intro h' tk t' keep
    refine ⟨.int ns.sum, H1, I1.kept fun b u e => keep b u (fun z => ?_) (Heap.get?_push_of_some _ (old b u e)), ⟨t', ?_⟩, q⟩
    · have e1 := List.mem_singleton.mp z
      have e2 := Heap.lt_size e
      rw [e1] at e2
      have e3 : h1.objs.size < s1.heap.objs.size := e2
      rw [sz1] at e3
      exact Nat.not_succ_lt_self e3
    · rw [len, pre_ints ns _ (Nat.le_refl _), List.take_length]
end
end MH
/-! part R4 -/
set_option Elab.async false
set_option linter.all false
set_option maxRecDepth 100000
set_option maxHeartbeats 4000000
/-! sorted(xs), xs a list of pairs (text, int), all texts unlike. -/
namespace MH
open PySem PySem.Spec PyProof.Rows L2
theorem paired_perm {α β : Type} {F : α → β → Prop} {l m : List α} (p : l.Perm m) : ∀ {l' : List β}, Paired F l l' → ∃ m', Paired F m m' ∧ m'.Perm l' := by
  induction p with
  | nil => intro l' h; cases h; exact ⟨[], .nil, .refl _⟩
  | cons x _ ih =>
    intro l' h
    cases h with
    | cons r t =>
      obtain ⟨m', h1, h2⟩ := ih t
      exact ⟨_ :: m', .cons r h1, h2.cons _⟩
  | swap x y l =>
    intro l' h
    cases h with
    | cons r t =>
      cases t with
      | cons r' t' => exact ⟨_ :: _ :: _, .cons r' (.cons r t'), .swap _ _ _⟩
  | trans _ _ ih1 ih2 =>
    intro l' h
    obtain ⟨m', h1, h2⟩ := ih1 h
    obtain ⟨n', h3, h4⟩ := ih2 h1
    exact ⟨n', h3, h4.trans h2⟩
def shW : Nat → Bool := fun i => i == 0
theorem itemsW {x : Str} {n : Int} {t u : Tok} : tupItems shW 0 (#[Value.str x t, Value.int n u] : Array Value).toList = some [Sum.inr x.cps.toList, Sum.inl n] := rfl
/-- sorted(list of pairs): by text -/
def rSortedW (K : Fr) : List V → Hp → VK → Prop := fun args H Q => ∃ (a : Addr) (vs : List V) (ws : List (Str × Int)), args = [V.ref a] ∧ SqL K H a vs ∧ Paired (RPr RStr RInt H) vs ws ∧ (ws.map (·.1)).Nodup ∧
  ∀ vs' ws' p, Paired (RPr RStr RInt H) vs' ws' → ws'.Perm ws → StS (ws'.map (·.1)) → H p = none → Q (.ref p) (upd H p (.lst vs'))
section
variable {X : Cx}
theorem keyW {h : Heap} {H : Hp} {pr : Program} {w : World} (hok : HOk pr w H h) {v : V} {x : Str × Int} (r : RPr RStr RInt H v x) : ∃ t, v = .ref t ∧ G.tupKeyC h shW (.ref t) = some [Sum.inr x.1.cps.toList, Sum.inl x.2] ∧ ∃ f, TupOf h shW (.ref t) f := by
  obtain ⟨t, u, z, rfl, ht, rfl, rfl⟩ := r
  obtain ⟨_, its, rv, o, ho, hc, n, hd⟩ := hok _ _ ht
  obtain ⟨u1, u2, rfl, ⟨t1, rfl⟩, ⟨t2, rfl⟩⟩ := vals2 rv
  exact ⟨t, rfl, G.tupKeyC_of ho hc hd itemsW, .str x.1 t1, t, o, _, n, rfl, ho, hc, hd, rfl, fun e => (nomatch e), fun _ => ⟨_, _, rfl⟩⟩
theorem all_refs {F : V → Str × Int → Prop} (hF : ∀ v x, F v x → ∃ t, v = .ref t) : ∀ {vs : List V} {us : List Value} {ws : List (Str × Int)}, Vals vs us → Paired F vs ws → vs = us.map backV ∧ ∀ u ∈ us, ∃ t, u = Value.ref t
  | _, _, _, .nil, .nil => ⟨rfl, fun _ h => absurd h List.not_mem_nil⟩
  | _, _, _, .cons r t, .cons r' t' => by
    obtain ⟨a, rfl⟩ := hF _ _ r'
    cases r
    obtain ⟨h1, h2⟩ := all_refs hF t t'
    refine ⟨by rw [List.map_cons, ← h1]; rfl, fun u hu => ?_⟩
    rcases List.mem_cons.mp hu with e | e
    · exact ⟨a, e⟩
    · exact h2 u e
theorem tupsW {h : Heap} : ∀ {us : List Value}, (∀ u ∈ us, ∃ f, TupOf h shW u f) → ∃ fs, TupsOf h shW us fs
  | [], _ => ⟨[], .nil⟩
  | u :: us, hu => by
    obtain ⟨f, hf⟩ := hu u List.mem_cons_self
    obtain ⟨fs, hs⟩ := tupsW (us := us) fun y hy => hu y (List.mem_cons_of_mem _ hy)
    exact ⟨f :: fs, .cons hf hs⟩
theorem cr_sortedW : CallR X (.builtin "sorted") (rSortedW X.K) := by
  intro pins s σ H args us Q I r h
  obtain ⟨a, vs, ws, rfl, hs, hp, nd, q⟩ := h
  obtain ⟨its, rv, hl, hz⟩ := I.list hs
  obtain ⟨u, rfl, ru⟩ := vals1 r
  cases ru
  have key := fun {v : V} {x : Str × Int} => keyW (v := v) (x := x) I.hok
  obtain ⟨e1, e2⟩ := all_refs (fun v x r => (key r).imp fun t z => z.1) rv hp
  -- each one's key
  have each : ∀ v ∈ its, ∃ x, RPr RStr RInt H (backV v) x ∧ G.tupKeyC s.heap shW v = some [Sum.inr x.1.cps.toList, Sum.inl x.2] ∧ ∃ f, TupOf s.heap shW v f := fun v hv => by
    obtain ⟨t, rfl⟩ := e2 v hv
    have hm : V.ref t ∈ vs := by rw [e1]; exact List.mem_map.mpr ⟨_, hv, rfl⟩
    obtain ⟨i, hi⟩ := List.mem_iff_getElem?.mp hm
    obtain ⟨x, _, hx⟩ := paired_get hp hi
    obtain ⟨t', e, k1, k2⟩ := key hx
    cases e
    exact ⟨x, hx, k1, k2⟩
  obtain ⟨fs, ht⟩ := tupsW fun u hu => (each u hu).elim fun x h => h.2.2
  refine G.sorted_tups hl.isList ht (fun v hv => (each v hv).elim fun x h => ⟨_, h.2.1⟩) (by rw [← rv.length]; exact hz) fun st' pm so _ => ?_
  have pl : (arrOf st').toList.Perm (its.zip its) := by rw [← pairsOf_toList]; exact Array.perm_iff_toList_perm.mp pm
  have po : ((arrOf st').map (·.2)).toList.Perm its := by
    rw [Array.toList_map]
    have := pl.map (·.2)
    rw [show (its.zip its).map (·.2) = its from by rw [List.map_snd_zip (Nat.le_refl _)]] at this
    exact this
  obtain ⟨ws', h1, h2⟩ := paired_perm (po.symm.map backV) (e1 ▸ hp)
  obtain ⟨ep, hat⟩ := sortedAll_at s.heap its ((arrOf st').map (·.2))
  have refs : ∀ u ∈ ((arrOf st').map (·.2)).toList, ∃ t, u = Value.ref t := fun u hu => e2 u (po.mem_iff.mp hu)
  refine ⟨.ref _, upd H (s.heap.objs.size + 1) (.lst (((arrOf st').map (·.2)).toList.map backV)), I.laid (t' := s.toks) (fun _ _ => sortedAll_old) (Nat.le_succ _) ⟨?_, _, ep, vals_back refs, hat⟩, rfl, q _ ws' _ h1 h2 ?_ (I.hok.fresh (Nat.le_succ _))⟩
  · rw [List.length_map, po.length_eq, ← rv.length]; exact hz
  · have nd' : (ws'.map (·.1)).Nodup := (h2.map (·.1)).nodup_iff.mpr nd
    refine le_strict ?_ nd'
    rw [List.pairwise_iff_getElem]
    intro i j hi hj ij
    have sz : (arrOf st').size = its.length := by rw [← Array.length_toList, pl.length_eq]; simp
    have lw : ws'.length = its.length := by rw [← paired_len h1, List.length_map, po.length_eq]
    rw [List.length_map] at hi hj
    have one : ∀ k (hk : k < ws'.length), KK (G.tupKindC s.heap shW) (arrOf st') k = [Sum.inr (ws'[k]).1.cps.toList, Sum.inl (ws'[k]).2] := fun k hk => by
      have ka : k < (arrOf st').size := by omega
      have ga : (arrOf st')[k]? = some (arrOf st')[k] := Array.getElem?_eq_getElem ka
      have mem : (arrOf st')[k] ∈ its.zip its := pl.mem_iff.mp (Array.mem_toList_iff.mpr (Array.getElem_mem ka))
      obtain ⟨d1, d2⟩ := mem_zip_self mem
      obtain ⟨t, et⟩ := e2 _ d2
      have gv : (((arrOf st').map (·.2)).toList.map backV)[k]? = some (.ref t) := by
        rw [List.getElem?_map, Array.getElem?_toList, Array.getElem?_map, ga]
        show some (backV (arrOf st')[k].2) = _
        rw [← d1, et]; rfl
      obtain ⟨x, hx, rx⟩ := paired_get h1 gv
      have ex : ws'[k] = x := by
        have := List.getElem?_eq_getElem hk
        rw [this] at hx; exact Option.some.inj hx
      obtain ⟨t', et', kx, _⟩ := key rx
      cases et'
      show (match (arrOf st')[k]? with | some p => ((G.tupKindC s.heap shW).keyOf p.1).getD (G.tupKindC s.heap shW).dflt | none => _) = _
      rw [ga]
      show (G.tupKeyC s.heap shW (arrOf st')[k].1).getD _ = _
      rw [et, kx, ex]; rfl
    have so' := so i j (Nat.le_of_lt ij) (by rw [pairsOf_size]; omega)
    rw [one i hi, one j hj] at so'
    have so2 := (lex_false.mp so').1
    rw [List.getElem_map, List.getElem_map, ltCps_eq]
    exact so2
end
end MH
/-! part R5 -/
set_option Elab.async false
set_option linter.all false
set_option maxRecDepth 100000
set_option maxHeartbeats 6000000
/-! sorted(set(xs)), xs a list of texts. -/
namespace MH
open PySem PySem.Spec PyProof.Rows L2
abbrev SKd (P : Program) (w : World) := PySem.strKind P w
/-- the set of the texts l at a, that can be walked -/
def SetX (P : Program) (w : World) (h : Heap) (a : Addr) (l : List Str) : Prop :=
  ∃ D : Froz.SD, h.get? a = some (Froz.sObj "set" D) ∧ Froz.TxOk P w D l ∧ Ris D.2.2.place.toList ∧ (w.params.followText "set-order" = true ∨ D.2.2.led = true)
section
variable {P : Program} {w : World} {A : Around} {E : Value → Shared → Prop} {s : Shared} {a : Addr} {l : List Str}
theorem SetX.at {h h' : Heap} (R : SetX P w h a l) (k : ∀ o, h.get? a = some o → h'.get? a = some o) : SetX P w h' a l := by
  obtain ⟨D, h1, r⟩ := R
  exact ⟨D, k _ h1, r⟩
theorem setX_none {h : Heap} (e : h.get? a = some { cls := .type "set", dict := none, data := .set #[] 0 (.fresh 0 0 (!w.params.followText "set-order")) }) : SetX P w h a [] := by
  refine ⟨(#[], 0, .fresh 0 0 (!w.params.followText "set-order")), e, .nil rfl, List.Pairwise.nil, ?_⟩
  show _ ∨ (!w.params.followText "set-order") = true
  cases w.params.followText "set-order" <;> simp
theorem addTx_walk {D : Froz.SD} (h : Int) (v : Value) (r : Ris D.2.2.place.toList) (lw : w.params.followText "set-order" = true ∨ D.2.2.led = true) :
    Ris (Froz.addTx h v D).2.2.place.toList ∧ (w.params.followText "set-order" = true ∨ (Froz.addTx h v D).2.2.led = true) := by
  obtain ⟨es, ep, t⟩ := D
  have r1 := layNew_ris t es h v r
  have l1 := layNew_led t es h v
  unfold Froz.addTx Froz.tailTx
  generalize hZ : (if (layNew (es, ep, t).2.2 (es, ep, t).1 h v).2.1.plain = true then { (layNew (es, ep, t).2.2 (es, ep, t).1 h v).2.1 with plain := false } else (layNew (es, ep, t).2.2 (es, ep, t).1 h v).2.1) = Z
  have z1 : Ris Z.place.toList := by
    rw [← hZ]
    split <;> exact r1
  have z2 : Z.led = t.led := by
    rw [← hZ]
    split <;> exact l1
  by_cases c : (!(layNew (es, ep, t).2.2 (es, ep, t).1 h v).2.2.1 && Z.tooFull) = true
  · rw [if_pos c]
    exact ⟨relayAll_ris _ _ _, lw.imp id fun z => (relayAll_led _ _ _).trans (z2.trans z)⟩
  · rw [if_neg c]
    exact ⟨z1, lw.imp id fun z => z2.trans z⟩
theorem setX_add {k : Str} {u : Tok} {Q : Bool → Shared → Prop} (R : SetX P w s.heap a l) (b : l.length + 1 < scanBound)
    (old : k ∈ l → Q false s) (new : k ∉ l → ∀ h', Heap.SameBut a s.heap h' → SetX P w h' a (k :: l) → Q true { s with heap := h' }) :
    wpAny (model P w) A (setAddHashed a (.str k u) (hashStr w k)) Q E s := by
  obtain ⟨D, hD, F, r, lw⟩ := R
  by_cases m : k ∈ l
  · obtain ⟨es, ep, t⟩ := D
    have dt : (Froz.sObj "set" (es, ep, t)).data = .set es ep t := rfl
    have fit : t.fits es.size = true := F.fit
    have el : ElemsOf (SKd P w) es.toList := F.el
    have few : es.size < scanBound := by
      have z : es.size = l.length := F.sz
      omega
    unfold setAddHashed setAddHashedIn
    refine wpAny_holding (wpAny_bind (wpAny_setState_of hD dt fit ?_))
    dsimp only
    rw [byScan_of rfl few el]
    simp only [↓reduceIte]
    unfold setAddByScan
    refine wpAny_bind (wpAny_bind (wpAny_rule (wpAny_bind (wpAny_setScan_of (knd := SKd P w) (k := k) (Froz.is_str k u) hD dt fit el ?_))))
    cases f : List.findIdx? (fun e => (SKd P w).is k e.2) es.toList with
    | some j => exact wpAny_pure (wpAny_pure (old m))
    | none =>
      obtain ⟨e, he, q⟩ := (F.mem k).mp m
      have c := List.findIdx?_eq_none_iff.mp f e he
      rw [q] at c; cases c
  · obtain ⟨r', lw'⟩ := addTx_walk (hashStr w k) (.str k u) r lw
    refine Froz.add_x hD F m b (new m _ ⟨?_, fun c ne => ?_⟩ ⟨_, Froz.get_upd _ hD rfl, Froz.add_ok u F, r', lw'⟩)
    · exact Heap.size_update _ _ _
    · exact Heap.get?_update_ne _ _ _ _ ne
/-- the set of the first i texts -/
def SetI (P : Program) (w : World) (h : Heap) (a : Addr) (xs : List Str) (i : Nat) : Prop := ∃ l, SetX P w h a l ∧ l.Nodup ∧ (∀ t, t ∈ l ↔ t ∈ xs.take i) ∧ l.length ≤ i
theorem upd_loop {R : Result → Shared → Prop} {I : Addr} {fp wr : List Addr} {G : Array GenState → Array GenState → Prop} {n : Nat} {Pv : Nat → Value → Prop} {St : Nat → Shared → Prop}
    (W : WalksS P w A.in1 I fp wr G n Pv St) {d : Addr} (hd : d ∉ fp) {xs : List Str} (hn : n = xs.length) (hb : n + 1 < scanBound) (hv : ∀ i v, Pv i v → ∃ x t, xs[i]? = some x ∧ v = .str x t) :
    ∀ (k i : Nat) (s : Shared), i + k = n → St i s → SetI P w s.heap d xs i → (∀ s', Moved (d :: wr) G s s' → SetI P w s'.heap d xs n → R (.ok (.ret .none)) s') →
      codeAny (model P w) A (.builtin "set.update.loop" ⟨[.ref d, .ref I], []⟩) R s := by
  have dw : d ∉ wr := fun z => hd (W.sub _ z)
  have more : ∀ b ∈ wr, b ∈ d :: wr := fun _ z => List.mem_cons_of_mem _ z
  intro k
  induction k with
  | zero =>
    intro i s hi st ⟨l, hl, r⟩ fin
    obtain rfl : i = n := by omega
    refine codeAny_builtin F.entry_set_update_loop ?_
    rw [Around.under_plainId F.plain_set_update_loop _]
    show wpAny _ A.in1 (pyNext (.ref I) >>= _) _ _ s
    exact wpAny_bind (W.done s _ _ st fun s' m => wpAny_pure (fin s' (m.mono more) ⟨l, hl.at fun o e => m.heap d o dw e, r⟩))
  | succ k ih =>
    intro i s hi st ⟨l, hl, l1, l2, l3⟩ fin
    refine codeAny_builtin F.entry_set_update_loop ?_
    rw [Around.under_plainId F.plain_set_update_loop _]
    show wpAny _ A.in1 (pyNext (.ref I) >>= _) _ _ s
    refine wpAny_bind (W.item i s _ _ (by omega) st fun v s' hp st' m => ?_)
    obtain ⟨x, t, hx, rfl⟩ := hv i v hp
    have hl' : SetX P w s'.heap d l := hl.at fun o e => m.heap d o dw e
    show wpAny _ A.in1 (holding [Value.str x t] (setAdd d (.str x t)) >>= _) _ _ s'
    refine wpAny_bind (wpAny_holding ?_)
    unfold setAdd
    refine wpAny_holding (wpAny_bind ((SKd P w).pyHash (k := x) (Froz.is_str x t) ?_))
    have tk : xs.take (i + 1) = xs.take i ++ [x] := by rw [List.take_add_one, hx]; rfl
    refine setX_add (s := { s' with toks := s'.toks + 1 }) hl' (by omega) (fun mem => ?_) (fun mem h' sb hX => ?_)
    · refine wpAny_pure ⟨plainId_quiet F.plain_set_update_loop _, ih (i + 1) _ (by omega) (W.frame _ s' _ _ st' (Nat.le_succ _) fun b hb o e => e) ⟨l, hl', l1, fun y => ?_, by omega⟩ fun s'' m2 hs => fin s'' (Moved.trans W.gtrans ((m.mono more).then_heap (Nat.le_succ _) fun b o hb e => e) m2) hs⟩
      rw [tk, List.mem_append, List.mem_singleton, ← l2]
      exact ⟨.inl, fun z => z.elim id fun e => e ▸ mem⟩
    · refine wpAny_pure ⟨plainId_quiet F.plain_set_update_loop _, ih (i + 1) _ (by omega) (W.frame _ s' _ _ st' (Nat.le_succ _) fun b hb o e => ?_) ⟨x :: l, hX, List.nodup_cons.mpr ⟨mem, l1⟩, fun y => ?_, ?_⟩ fun s'' m2 hs => fin s'' (Moved.trans W.gtrans ((m.mono more).then_heap (Nat.le_succ _) fun b o hb e => ?_) m2) hs⟩
      · rw [sb.2 b fun z => hd (z ▸ hb)]; exact e
      · rw [tk, List.mem_append, List.mem_singleton, List.mem_cons, l2]; exact Or.comm
      · show l.length + 1 ≤ i + 1; omega
      · rw [sb.2 b fun z => hb (z ▸ List.mem_cons_self)]; exact e
abbrev ob0 (w : World) : Obj := { cls := .type "set", dict := none, data := .set #[] 0 (.fresh 0 0 (!w.params.followText "set-order")) }
theorem setX_list {L : Addr} {its : Array Value} {xs : List Str} {Q : Value → Shared → Prop} (hh : A.handled = none) (hl : s.heap.IsList L its) (hi : StrsAre its.toList xs) (hb : xs.length + 1 < scanBound)
    (hq : ∀ h' tk, SetI P w h' s.heap.objs.size xs xs.length → (∀ b o, s.heap.get? b = some o → h'.get? b = some o) → Q (.ref s.heap.objs.size) { s with heap := h', toks := tk }) :
    wpAny (model P w) A (call (.type "set") [.ref L]) Q E s := by
  have size : its.size = xs.length := by
    have z := StrsAre.len_eq hi
    rw [Array.length_toList] at z; omega
  obtain ⟨_, _, hmro⟩ := PySem.F.called_set.mro
  have made := PySem.F.called_set.made
  have sub0 := PySem.F.called_set.sub
  refine wpAny_call (codeAny_of_tree (?_ : wpAny _ _ (callAny (.type "set") _) _ _ _))
  refine wpAny_pure ⟨Code.quiet_builtin _ (by decide +kernel), codeAny_builtin PySem.F.entry_type_call ?_⟩
  rw [Around.under_plain (weight_type_call_type "set" [.ref L] []) rfl]
  have a1 := PySem.F.called_set.notType
  have a2 := PySem.F.called_set.canCreate
  have a3 := PySem.F.typeCall_set_1 (.ref L)
  repeat any_goals (first | assumption | wp_step)
  refine codeAny_mono (code_set_led1 (.ref L) (E := E) (Q₁ := fun v z => v = .ref s.heap.objs.size ∧ z = { s with heap := s.heap.push (ob0 w) }) ⟨rfl, rfl⟩) fun r z hr => ?_
  cases r with
  | error e => exact hr
  | ok fl =>
    cases fl with
    | ret v =>
      obtain ⟨rfl, rfl⟩ := hr
      have at0 : (s.heap.push (ob0 w)).get? s.heap.objs.size = some (ob0 w) := Heap.get?_push_size _ rfl
      have ty0 : Shared.TypeIs { s with heap := s.heap.push (ob0 w) } (.ref s.heap.objs.size) "set" := ⟨_, at0, rfl⟩
      have b1 := PySem.F.called_set.init.lookup
      have b2 := PySem.F.called_set.init.bind (.ref s.heap.objs.size)
      repeat any_goals (first | assumption | wp_step)
      refine codeAny_mono (codeAny_call_builtin (R := wants (fun r z => r = .none ∧ ∃ h' tk, z = { s with heap := h', toks := tk } ∧ SetI P w h' s.heap.objs.size xs xs.length ∧ (∀ b o, s.heap.get? b = some o → h'.get? b = some o)) E)
        PySem.F.called_set.init.plain PySem.F.entry_set_init (check_set_init_1 ty0 ?_)) fun r2 z2 hr2 => ?_
      · have size0 : (s.heap.push (ob0 w)).objs.size = s.heap.objs.size + 1 := Heap.size_push ..
        obtain ⟨⟨ocls, odict, odata, oslots⟩, oL, hc, nl, hdat⟩ := hl
        simp only at hc hdat
        subst hc; subst hdat
        have oL' : (s.heap.push (ob0 w)).get? L = some { cls := .type "list", dict := odict, data := .seq its nl, slots := oslots } := Heap.get?_push_of_some _ oL
        have c1 := PySem.F.sub_list_set
        have c2 := PySem.F.sub_list_frozenset
        have c3 : (Value.type "list" == Value.type "dict") = false := by decide
        have isL : (s.heap.push (ob0 w)).IsList L its := ⟨_, oL', rfl, nl, rfl⟩
        unfold Builtin.«set.__init__» noKeywords Builtin.Frozenset.updateFrom
        generalize hP : pyIter = PI
        wp_walk
        subst hP
        refine wpAny_pyIter_list isL (wpAny_bind (wpAny_runValue ?_))
        have lt : L < s.heap.objs.size := Heap.lt_size oL
        refine upd_loop ((Walks.list (by simp [hh]) _ L (by rw [size0]; exact Nat.ne_of_lt (Nat.lt_succ_of_lt lt)) its).toS) (d := s.heap.objs.size) ?_ size (by omega) (fun i v hv => ?_) its.size 0 _ (Nat.zero_add _)
          ⟨⟨_, Heap.get?_push_size _ rfl, rfl, rfl⟩, isL.push _⟩ ⟨[], setX_none (Heap.get?_push_of_some _ at0), List.nodup_nil, fun t => by simp, Nat.le_refl _⟩ fun z m hs => ?_
        · show s.heap.objs.size ∉ [(s.heap.push (ob0 w)).objs.size, L]
          rw [size0, List.mem_cons, List.mem_singleton]
          rintro (e | e)
          · exact absurd e (Nat.ne_of_lt (Nat.lt_succ_self _))
          · exact absurd e.symm (Nat.ne_of_lt lt)
        · have il : i < xs.length := by rw [← size]; exact (Array.getElem?_eq_some_iff.mp hv).1
          obtain ⟨t, e⟩ := SS.strs_at hi i v (by rw [Array.getElem?_toList]; exact hv)
          exact ⟨xs[i], t, List.getElem?_eq_getElem il, by rw [e, List.getD_eq_getElem?_getD, List.getElem?_eq_getElem il]; rfl⟩
        · obtain ⟨hz, gz, dz, tz, oz⟩ := z
          have e1 : gz = s.gens := m.gens
          have e2 : dz = s.drawn := m.drawn
          have e3 : oz = s.os := m.os
          subst e1; subst e2; subst e3
          rw [size] at hs
          show wpAny _ _ _ _ _ _
          refine wpAny_pure (?_ : wpAny _ _ (ret Value.none) _ _ _)
          refine wpAny_pure ⟨rfl, hz, tz, rfl, hs, fun b o e => m.heap b o (fun mem => ?_) (Heap.get?_push_of_some _ (Heap.get?_push_of_some _ e))⟩
          have bl : b < s.heap.objs.size := Heap.lt_size e
          rcases List.mem_cons.mp mem with q | q
          · exact absurd q (Nat.ne_of_lt bl)
          · have q := List.mem_singleton.mp q
            rw [size0] at q
            exact absurd q (Nat.ne_of_lt (Nat.lt_succ_of_lt bl))
      · cases r2 with
        | error e => exact hr2
        | ok f2 =>
          cases f2 with
          | ret r =>
            obtain ⟨rfl, h', tk, rfl, h3, h4⟩ := hr2
            repeat any_goals (first | assumption | wp_step)
            exact hq _ _ h3 h4
          | _ => exact hr2.elim
    | _ => exact hr.elim
end
end MH
/-! part R6 -/
set_option Elab.async false
set_option linter.all false
set_option maxRecDepth 100000
set_option maxHeartbeats 4000000
namespace MH
open PySem PySem.Spec PyProof.Rows L2
theorem perm_of {α : Type} [BEq α] [LawfulBEq α] : ∀ {l m : List α}, l.Nodup → (∀ x ∈ l, x ∈ m) → m.length = l.length → m.Perm l
  | [], m, _, _, h => by
    have : m = [] := List.length_eq_zero_iff.mp h
    rw [this]
  | x :: l, m, nd, sub, h => by
    obtain ⟨n1, n2⟩ := List.nodup_cons.mp nd
    have hx := sub x List.mem_cons_self
    have p := List.perm_cons_erase hx
    have e := List.length_erase_of_mem hx
    have h' : m.length = l.length + 1 := h
    refine p.trans (.cons x (perm_of n2 (fun y hy => ?_) (by omega)))
    have ne : y ≠ x := fun z => n1 (z ▸ hy)
    exact (List.mem_erase_of_ne ne).mpr (sub y (List.mem_cons_of_mem _ hy))
section
variable {P : Program} {w : World} {A : Around} {E : Value → Shared → Prop} {s : Shared} {a : Addr} {xs : List Str}
theorem sorted_setX {n : Nat} {Q : Value → Shared → Prop} (R : SetI P w s.heap a xs n) (hh : A.handled = none) (h64 : n < 64)
    (hq : ∀ z p (out : Array Value) (c : Nat) (ys : List Str), (∀ b o, s.heap.get? b = some o → z.heap.get? b = some o) → z.gens = s.gens → z.os = s.os → s.heap.objs.size ≤ p → z.heap.get? p = some (seqObj "list" out c) →
      StrsAre out.toList ys → StS ys → (∀ t, t ∈ ys ↔ t ∈ xs.take n) → ys.length ≤ n → Q (.ref p) z) :
    wpAny (model P w) A (call (.builtin "sorted") [.ref a]) Q E s := by
  obtain ⟨l, ⟨⟨es, ep, t⟩, ho, F, r, lw⟩, nd, mem, ln⟩ := R
  have esl : es.size = l.length := F.sz
  have few : es.size < scanBound := by unfold scanBound; omega
  refine Calls.call_function_entry kind_sorted plain_sorted entry_sorted (args_sorted1 _) ?_
  unfold Builtin.«sorted»
  refine wpAny_bind (m := checkCount "sorted" 1 1 _) (wpAny_pure (wpAny_bind ?_))
  refine collect_set (A := A.in1) hh ⟨_, ho, rfl, rfl⟩ F.fit few r lw fun z vs keep le g o pm => ?_
  have vl : vs.length = l.length := by rw [pm.length_eq, List.length_map, Array.length_toList]; exact esl
  have each : ∀ v ∈ vs, ∃ x u, v = Value.str x u := fun v hv => by
    obtain ⟨e, he, q⟩ := List.mem_map.mp (pm.mem_iff.mp hv)
    obtain ⟨⟨k, hk, _⟩, _⟩ := F.el e he
    obtain ⟨u, e2⟩ := Value.isStrOf_shape hk
    exact ⟨k, u, by rw [← q]; exact e2⟩
  have st := strsAre_map vs each
  have same : ∀ k, k ∈ vs.map strOf ↔ k ∈ l := fun k => by
    rw [F.mem k]
    constructor
    · intro h
      obtain ⟨v, hv, e⟩ := List.mem_map.mp h
      obtain ⟨x, u, rfl⟩ := each v hv
      obtain ⟨y, hy, q⟩ := List.mem_map.mp (pm.mem_iff.mp hv)
      refine ⟨y, hy, ?_⟩
      rw [q, ← e]; exact Froz.is_str _ _
    · rintro ⟨y, hy, q⟩
      obtain ⟨u, e2⟩ := Value.isStrOf_shape q
      refine List.mem_map.mpr ⟨y.2, pm.mem_iff.mpr (List.mem_map.mpr ⟨y, hy, rfl⟩), ?_⟩
      rw [e2]; rfl
  have pk : (vs.map strOf).Perm l := perm_of nd (fun k hk => (same k).mpr hk) (by rw [List.length_map, vl])
  refine wpAny_bind (wpAny_newList ?_ (by rw [vl, sizeLine_eq]; omega))
  have nw : (z.heap.push (seqObj "list" vs.toArray 0)).get? z.heap.objs.size = some (seqObj "list" vs.toArray 0) := Heap.get?_push_size _ rfl
  refine wpAny_bind (wpAny_holding (wpAny_call_entry slot_list_sort ⟨_, nw, rfl⟩ entry_list_sort (list_sort_treeK strKind_oneLt nw st.keysOf (fun _ _ _ e => keyKind_strs (by rw [← e]; exact st)) (by omega) fun st' p1 p2 => ⟨_, rfl, ?_⟩) (args_list_sort _)))
  obtain ⟨ys, y1, y2, y3⟩ := sorted_out_str st p1 p2
  obtain ⟨c, hc⟩ := sortedHeap_at (vs := vs) (out := (arrOf st').map (·.2)) nw
  have py := y2.trans pk
  refine wpAny_pure ⟨_, rfl, hq _ z.heap.objs.size _ c ys (fun b u e => ?_) g o le hc y1 (StS.of y3 (py.nodup_iff.mpr nd)) (fun k => by rw [py.mem_iff, mem]) (by rw [py.length_eq]; exact ln)⟩
  have q := keep b u e
  have lt := Heap.lt_size q
  show (sortedHeap (z.heap.push (seqObj "list" vs.toArray 0)) z.heap.objs.size vs _).get? b = some u
  rw [sortedHeap_old (Nat.ne_of_lt lt) (by rw [size_push']; exact Nat.lt_succ_of_lt lt)]
  exact Heap.get?_push_of_some _ q
end
/-- the set of the texts xs at a -/
def SetXO (P : Program) (w : World) (a : Addr) (xs : List Str) : HO := .ext fun h => SetI P w h a xs xs.length
section
variable {X : Cx}
def rSetX (X : Cx) : List V → Hp → VK → Prop := fun args H Q => ∃ (a : Addr) (xs : List Str), args = [V.ref a] ∧ SqL X.K H a (xs.map V.str) ∧ xs.length < 64 ∧ ∀ p, H p = none → Q (.ref p) (upd H p (SetXO X.prog X.w p xs))
theorem cr_setX (hc : X.calm = true) : CallR X (.type "set") (rSetX X) := by
  intro pins s σ H args us Q I r h
  obtain ⟨a, xs, rfl, hs, few, q⟩ := h
  obtain ⟨its, rv, hl, hz⟩ := I.list hs
  rw [Vals.ref1 r]
  refine setX_list (I.ok.hd hc) hl.isList (by simpa using rv.strs) (by unfold scanBound; omega) fun h' tk hS k => ?_
  have ex : ∃ o, h'.get? s.heap.objs.size = some o := by
    obtain ⟨l, ⟨D, e, _⟩, _⟩ := hS
    exact ⟨_, e⟩
  refine ⟨.ref _, upd H s.heap.objs.size (SetXO X.prog X.w s.heap.objs.size xs), I.laid (t' := tk) k (Nat.le_refl _) ⟨hS, ex, fun h1 h2 p q => ?_⟩, rfl, q _ (I.hok.fresh (Nat.le_refl _))⟩
  obtain ⟨l, hl, r⟩ := p
  exact ⟨l, hl.at q, r⟩
def rSortedX (X : Cx) : List V → Hp → VK → Prop := fun args H Q => ∃ (a : Addr) (xs : List Str), args = [V.ref a] ∧ H a = some (SetXO X.prog X.w a xs) ∧ xs.length < 64 ∧
  ∀ (ys : List Str) (p : Addr), StS ys → (∀ t, t ∈ ys ↔ t ∈ xs) → H p = none → Q (.ref p) (upd H p (.lst (ys.map V.str)))
theorem cr_sortedX (hc : X.calm = true) : CallR X (.builtin "sorted") (rSortedX X) := by
  intro pins s σ H args us Q I r h
  obtain ⟨a, xs, rfl, ha, few, q⟩ := h
  rw [Vals.ref1 r]
  have R : SetI X.prog X.w s.heap a xs xs.length := (I.hok a _ ha).1
  refine sorted_setX R (I.ok.hd hc) few fun z p out c ys k g o hp hat st so mem ln => ?_
  have nn : H p = none := I.hok.fresh hp
  have small : (ys.map V.str).length ≤ sizeLine := by rw [List.length_map, sizeLine_eq]; omega
  have J : Inv X pins σ (upd H p (.lst (ys.map V.str))) { s with heap := z.heap, gens := z.gens, drawn := z.drawn, toks := z.toks } :=
    I.call (ch := []) (Un.laid k hp nn) (I.hok.laid k hp ⟨small, out.toList, c, vals_of_strs st, hat⟩) (by rw [g]; exact I.bare) (fun _ e => nomatch e)
  have e : z = { s with heap := z.heap, gens := z.gens, drawn := z.drawn, toks := z.toks } := by
    cases z; cases s; cases o; rfl
  rw [e]
  exact ⟨.ref p, _, J, rfl, q ys p so (fun t => by rw [mem t, List.take_length]) nn⟩
end
end MH
/-! part D7 -/
set_option Elab.async false
set_option linter.all false
set_option maxRecDepth 100000
set_option maxHeartbeats 4000000
namespace MH
open PySem PySem.Spec PyProof.Rows L2
section
variable {P : Program} {w : World} {K : Fr} {mg : Str → Option Value} {base : Heap}
theorem sameS_mut {H H1 : Hp} {x d : Addr} {o : HO} (g : Same (hid x H) (hid x H1)) (hd : H d = none) (ne : d ≠ x) : Same (hid x H) (hid x (upd H1 d o)) := fun b u e => by
  obtain ⟨n, e'⟩ := hid_some e
  have nb : b ≠ d := fun z => by rw [z, hd] at e'; cases e'
  rw [hid_at n, upd_ne nb]
  have := g b u e
  rw [hid_at n] at this; exact this
def sp_is_integer : Sp := spx 1 fun vs H Q _ => ∃ i : Int, vs = [.int i] ∧ Q (.bl true) H
theorem sc_is_integer : FnScope ["value"] ["value"] (defScope s_is_integer) := ⟨rfl, rfl, rfl, by decide +kernel, rfl, by decide +kernel, by decide +kernel⟩
theorem c_is_integer (T : Tx K mg)  : Cal P w K mg base 1 "_is_integer" ["value"] sp_is_integer := by
  refine T.cal 26 rfl 10 rfl sc_is_integer (fun _ _ _ _ h => h.1) (fun _ _ _ _ _ _ us hl => match us, hl with | [_], _ => rfl) (fun cdv A outer s H vs Q E hr h => ?_)
  have nd := sc_is_integer.nd
  have hu := hu_of hr
  refine ⟨_, (pss_one (ps_ret (pe_and (pe_callB call_isi (by rfl) T.f_isinstance (by decide +kernel) (pa_cons (pv 0) (pa_cons (pe_bltn (v := .ty "int") (by rfl) T.f_int (by decide +kernel) rfl) pa_nil))) (pe_one (pe_not (pe_callB call_isi (by rfl) T.f_isinstance (by decide +kernel) (pa_cons (pv 0) (pa_cons (pe_bltn (v := .ty "bool") (by rfl) T.f_bool (by decide +kernel) rfl) pa_nil)))))))), ?_⟩
  obtain ⟨_, i, rfl, k⟩ := h
  exact ⟨_, rfl, _, _, _, _, true, rfl, .ty _, .base (.int _), kit_ty (by decide +kernel), _, rfl, iteT ⟨_, rfl, _, _, _, _, false, rfl, .ty _, .base (.int _), kit_ty (by decide +kernel), _, rfl, k⟩⟩
/-- Table(pairs) -/
def sp_Table___init (K : Fr) : Sp := spx 2 fun vs H Q _ => ∃ (x dx : Addr) (v : V) (us : Ws), vs = [.ref x, v] ∧ H x = some (.ins (He.ga K "Table") dx []) ∧ RWs (hid x H) v us ∧ (us.map (·.1)).Nodup ∧ (∀ y ∈ us, 1 ≤ y.2) ∧ us.length < 100 ∧
  ∀ d H', H d = none → Same (hid x H) (hid x H') → H' x = some (.ins (He.ga K "Table") dx [("weights", .ref d), ("whole", .int (tot us))]) → H' d = some (.dK (dct V.int us)) → Q .non H'
theorem sc_Table___init : FnScope ["self", "pairs", "weights", "at", "text", "weight"] ["self", "pairs"] (defScope s_Table___init) := ⟨rfl, rfl, rfl, by decide +kernel, rfl, by decide +kernel, by decide +kernel⟩
theorem c_Table___init (T : Tx K mg) (G_is_integer : Cal P w K mg base 1 "_is_integer" ["value"] sp_is_integer) : Mak P w K mg base 2 "Table" (He.ga K "Table") ["self", "pairs"] (sp_Table___init K) := by
  refine T.mak 27 rfl 75 rfl 77 rfl sc_Table___init (fun _ _ _ _ h => h.1) (fun _ _ _ _ _ _ us hl => match us, hl with | [_, _], _ => rfl) (fun cdv A outer s H vs Q E hr h => ?_)
  have nd := sc_Table___init.nd
  have hu := hu_of hr
  refine ⟨_, (pss_cons (ps_set (i := 2) nd rfl (Or.inl rfl) pe_dnewK)
      (pss_cons (ps_for PassesOwn.never rfl (pi_enumK (by rfl) T.f_enumerate (pa_cons (pv 1) pa_nil)) (pg_tupK (K := K) 2 rfl (pgs_cons (pg_name (i := 3) nd rfl (Or.inl rfl)) (pgs_cons (pg_tupK (K := K) 2 rfl (pgs_cons (pg_name (i := 4) nd rfl (Or.inl rfl)) (pgs_cons (pg_name (i := 5) nd rfl (Or.inl rfl)) pgs_nil))) pgs_nil))) (pss_cons (ps_if (PW.pt (pw_or (pt_not (pt_val (pe_cal G_is_integer (hr.mono (by decide)) (pa_cons (pv 5) pa_nil)))) (pw_or (pt_cmpR op_lt (pv 5) pe_int (nomark _)) (pw_or1 (pt_cmp (pc_din hu (pv 4) (pv 2))))))) (pss_one ps_never) pss_nil)
      (pss_one (ps_dput hu (pv 2) (pv 4) (pv 5) rfl))))
      (pss_cons (ps_fld (pv 0) (pv 2) rfl)
      (pss_one (ps_fld (pv 0) (pe_sumVals rfl T (pv 2)) rfl))))), ?_⟩
  obtain ⟨_, x, dx, v, us, rfl, hx, ⟨a, xs, rfl, ha, hp⟩, nd0, hpos, few, k⟩ := h
  obtain ⟨nax, ha⟩ := hid_some ha
  intro d hd
  have nd1 : d ≠ x := (ne_of_none hx hd).symm
  have nda : d ≠ a := (ne_of_none ha hd).symm
  refine ⟨_, rfl, .l a, xs, rfl, SqL.of (by rw [upd_ne nda.symm]; exact ha), for_enumK (xs := xs) (fun i σ H' => ∃ u2 u3 u4, σ = [some (.ref x), some (.ref a), some (.ref d), u2, u3, u4] ∧ Same (hid x H) (hid x H') ∧ H' x = some (.ins (He.ga K "Table") dx []) ∧ H' d = some (.dK (dct V.int (us.take i)))) ⟨none, none, none, rfl, ?_, by rw [upd_ne nd1.symm]; exact hx, upd_same⟩ ?_ ?_ ?_⟩
  · exact same_hid_up (same_new hd)
  · rintro i σ H' ⟨_, _, _, _, g, _⟩
    exact SqL.of (keepS g nax ha)
  · rintro i v T σ H' hi ⟨u2, u3, u4, rfl, g, hx', hd'⟩ hT
    obtain ⟨⟨t, n⟩, hu, ⟨pa, _, _, rfl, hpa, rfl, rfl⟩⟩ := paired_get hp hi
    obtain ⟨npx, hpa⟩ := hid_some hpa
    have hpa' := keepS g npx hpa
    refine ⟨T, _, rfl, SqT.of upd_same, rfl, _, _, rfl, _, _, rfl, pa, _, rfl, SqT.of (by rw [upd_ne (ne_of_none hpa' hT)]; exact hpa'), rfl, _, _, rfl, _, _, rfl, rfl, rfl, ?_⟩
    have nTd : T ≠ d := (ne_of_none hd' hT).symm
    have nTx : T ≠ x := (ne_of_none hx' hT).symm
    have sp : us.take i ++ (t, n) :: us.drop (i + 1) = us := by
      have := List.getElem?_eq_some_iff.mp hu
      obtain ⟨il, e⟩ := this
      rw [← e, List.getElem_cons_drop, List.take_append_drop]
    have ndx : (us.map (·.1)).Nodup := nd0
    have nt : t ∉ (us.take i).map (·.1) := fun m => by
      rw [← sp, List.map_append, List.nodup_append] at ndx
      exact ndx.2.2 t m t List.mem_cons_self rfl
    have ndt : ((us.take i).map (·.1)).Nodup := by
      rw [← sp, List.map_append, List.nodup_append] at ndx
      exact ndx.1
    have hd2 : (upd H' T (.tup [.int (i : Nat), V.ref pa])) d = some (.dK (dct V.int (us.take i))) := by rw [upd_ne nTd.symm]; exact hd'
    refine ⟨_, rfl, rfl, n, rfl, _, rfl, ?_⟩
    refine iteF ⟨_, rfl, n, 1, rfl, rfl, _, rfl, ?_⟩
    refine iteN (by have := hpos _ (List.mem_of_getElem? hu); show ¬ n < 1; have h1 : 1 ≤ n := this; omega) ?_
    refine ⟨_, rfl, _, rfl, d, none, rfl, dget_none hd2 nt, _, rfl, ?_⟩
    refine iteF ?_
    refine ⟨_, rfl, _, rfl, _, rfl, d, _, rfl, dput_at hd2 ndt (by rw [List.length_take]; omega), _, _, _, rfl, ?_, ?_, ?_⟩
    · have h1 : Same (hid x H) (hid x (upd H' T (.tup [.int (i : Nat), V.ref pa]))) := g.trans (same_hid_up (same_new hT))
      exact sameS_mut h1 hd nd1
    · rw [upd_ne nd1.symm, upd_ne nTx.symm]; exact hx'
    · rw [upd_same, dput_new nt, take_more hu]
  · rintro σ H' ⟨u2, u3, u4, rfl, g, hx', hd'⟩
    rw [paired_len hp, List.take_length] at hd'
    refine ⟨_, rfl, _, rfl, x, _, dx, _, rfl, hx', T.cl_Table, T.n_Table_weights, by decide, ?_⟩
    refine ⟨_, rfl, d, _, us.map (·.2), rfl, by rw [upd_ne nd1]; exact hd', by unfold dct; rw [List.map_map, List.map_map]; rfl, _, rfl, x, _, dx, _, rfl, upd_same, T.cl_Table, T.n_Table_whole, by show 1 < 1000; decide, ?_⟩
    refine k d _ hd ?_ ?_ ?_
    · rw [hid_upd, hid_upd]; exact g
    · rw [upd_same]
      show some (HO.ins _ dx (putF _ _ [(("weights" : Str), V.ref d)])) = _
      unfold putF
      rw [if_neg (by decide +kernel)]; rfl
    · rw [upd_ne nd1, upd_ne nd1]; exact hd'
/-- Table(pairs) as its callers see it -/
theorem table_make {H1 : Hp} {Q : VK} {E : XK} {v : V} {us ws : Ws} {x dx : Addr} (nx : H1 x = none) (nd : H1 dx = none) (ne : dx ≠ x) (hv : RWs H1 v us) (n0 : (us.map (·.1)).Nodup) (p : ∀ y ∈ us, 1 ≤ y.2) (l : us.length < 100) (pm : us.Perm ws)
    (k : ∀ H2, Same H1 H2 → RSrc K (fr H1 H2) (.ref x) ws → Q .non H2) :
    sp_Table___init K (.ref x :: ([v] ++ [])) (upd (upd H1 dx (.own x)) x (.ins (He.ga K "Table") dx [])) Q E := by
  have e0 : Same H1 (hid x (upd (upd H1 dx (.own x)) x (.ins (He.ga K "Table") dx []))) := same_to_hid ((same_new nd).trans (same_new (by rw [upd_ne (Ne.symm ne)]; exact nx))) nx
  refine ⟨rfl, x, dx, v, us, rfl, upd_same, Mo.up e0 hv, n0, p, l, fun d H' hd g h1 h2 => ?_⟩
  have dne : d ≠ x := fun z => by rw [z, upd_same] at hd; cases hd
  have dnx : d ≠ dx := fun z => by rw [z, upd_ne ne, upd_same] at hd; cases hd
  have d0 : H1 d = none := by rw [upd_ne dne, upd_ne dnx] at hd; exact hd
  have e1 : Same H1 H' := (e0.trans g).trans same_hid
  refine k H' e1 ⟨x, rfl, .inl ⟨dx, [("weights", .ref d), ("whole", .int (tot us))], d, us, ?_, lk_eq, ?_, pm, ?_, rfl, rfl, rfl⟩⟩
  · rw [fr_at nx]; exact h1
  · rw [fr_at d0]; exact h2
  · rw [lk_ne (by decide +kernel), lk_eq, tot_perm pm]
def sp_src_texts (K : Fr) (C : Str) : Sp := spx 1 fun vs H Q _ => ∃ (p : Addr) (ws : Ws), vs = [.ref p] ∧ SrcAt K C H p ws ∧ WOk ws ∧ ∀ q H', Same H H' → RTup RStr (fr H H') q (ws.map (·.1)) → Q q H'
abbrev sp_Table_texts (K : Fr) := sp_src_texts K "Table"
abbrev sp_Machine_texts (K : Fr) := sp_src_texts K "Machine"
theorem sc_Table_texts : FnScope ["self"] ["self"] (defScope s_Table_texts) := ⟨rfl, rfl, rfl, by decide +kernel, rfl, by decide +kernel, by decide +kernel⟩
theorem c_Table_texts (T : Tx K mg)  : Met P w K mg base 1 (He.ga K "Table") "texts" ["self"] (sp_Table_texts K) := by
  refine T.met 28 rfl 76 rfl 107 rfl sc_Table_texts (fun _ _ _ _ h => h.1) (fun _ _ _ _ _ _ us hl => match us, hl with | [_], _ => rfl) (fun cdv A outer s H vs Q E hr h => ?_)
  have nd := sc_Table_texts.nd
  have hu := hu_of hr
  refine ⟨_, (pss_one (ps_ret (pe_callTy call_tuple_of (by rfl) T.f_tuple (by decide +kernel) (pa_cons (pe_callB (call_sortedD rfl) (by rfl) T.f_sorted (by decide +kernel) (pa_cons (pe_fldK (K := K) (pv 0) rfl) pa_nil)) pa_nil)))), ?_⟩
  obtain ⟨_, p, ws, rfl, ⟨dx, fs, d, us, h1, h2, h3, pm, h5, h6⟩, ok, k⟩ := h
  have few := ok.few
  refine ⟨_, rfl, p, _, dx, fs, _, rfl, h1, T.cl_Table, T.n_Table_weights, h2, d, _, us.map (·.1), rfl, .inl h3, dct_keys us, by rw [List.length_map, pm.length_eq]; omega, fun ys q pm' so hq => ?_⟩
  have e : ys = ws.map (·.1) := ok.st.perm (pm'.trans (pm.map (·.1))) so
  subst e
  refine ⟨q, _, rfl, .inl ⟨SqL.of upd_same, fun r hr => ?_⟩⟩
  have nqr : q ≠ r := fun z => by rw [← z, upd_same] at hr; cases hr
  have r0 : H r = none := by rw [upd_ne nqr.symm] at hr; exact hr
  refine k _ _ ((same_new hq).trans (same_new hr)) (RTup.of_strs ?_)
  rw [fr_at r0, upd_same]

theorem sc_Machine_texts : FnScope ["self"] ["self"] (defScope s_Machine_texts) := ⟨rfl, rfl, rfl, by decide +kernel, rfl, by decide +kernel, by decide +kernel⟩
theorem c_Machine_texts (T : Tx K mg)  : Met P w K mg base 1 (He.ga K "Machine") "texts" ["self"] (sp_Machine_texts K) := by
  refine T.met 33 rfl 81 rfl 111 rfl sc_Machine_texts (fun _ _ _ _ h => h.1) (fun _ _ _ _ _ _ us hl => match us, hl with | [_], _ => rfl) (fun cdv A outer s H vs Q E hr h => ?_)
  have nd := sc_Machine_texts.nd
  have hu := hu_of hr
  refine ⟨_, (pss_one (ps_ret (pe_callTy call_tuple_of (by rfl) T.f_tuple (by decide +kernel) (pa_cons (pe_callB (call_sortedD rfl) (by rfl) T.f_sorted (by decide +kernel) (pa_cons (pe_fldK (K := K) (pv 0) rfl) pa_nil)) pa_nil)))), ?_⟩
  obtain ⟨_, p, ws, rfl, ⟨dx, fs, d, us, h1, h2, h3, pm, h5, h6⟩, ok, k⟩ := h
  have few := ok.few
  refine ⟨_, rfl, p, _, dx, fs, _, rfl, h1, T.cl_Machine, T.n_Machine_weights, h2, d, _, us.map (·.1), rfl, .inl h3, dct_keys us, by rw [List.length_map, pm.length_eq]; omega, fun ys q pm' so hq => ?_⟩
  have e : ys = ws.map (·.1) := ok.st.perm (pm'.trans (pm.map (·.1))) so
  subst e
  refine ⟨q, _, rfl, .inl ⟨SqL.of upd_same, fun r hr => ?_⟩⟩
  have nqr : q ≠ r := fun z => by rw [← z, upd_same] at hr; cases hr
  have r0 : H r = none := by rw [upd_ne nqr.symm] at hr; exact hr
  refine k _ _ ((same_new hq).trans (same_new hr)) (RTup.of_strs ?_)
  rw [fr_at r0, upd_same]

def sp_src_weight_of (K : Fr) (C : Str) : Sp := spx 2 fun vs H Q _ => ∃ (p : Addr) (ws : Ws) (t : Str), vs = [.ref p, .str t] ∧ SrcAt K C H p ws ∧ WOk ws ∧ Q (.int (wof ws t)) H
abbrev sp_Table_weight_of (K : Fr) := sp_src_weight_of K "Table"
abbrev sp_Machine_weight_of (K : Fr) := sp_src_weight_of K "Machine"
def sp_src_share_of (K : Fr) (C : Str) : Sp := spx 2 fun vs H Q _ => ∃ (p : Addr) (ws : Ws) (t : Str), vs = [.ref p, .str t] ∧ SrcAt K C H p ws ∧ WOk ws ∧ Bd 3000 (tot ws) ∧ ∀ r H', Same H H' → RSh K (fr H H') r (shr (wof ws t) (tot ws)) → Q r H'
abbrev sp_Table_share_of (K : Fr) := sp_src_share_of K "Table"
abbrev sp_Machine_share_of (K : Fr) := sp_src_share_of K "Machine"
theorem sc_Table_weight_of : FnScope ["self", "text"] ["self", "text"] (defScope s_Table_weight_of) := ⟨rfl, rfl, rfl, by decide +kernel, rfl, by decide +kernel, by decide +kernel⟩
theorem c_Table_weight_of (T : Tx K mg)  : Met P w K mg base 1 (He.ga K "Table") "weight_of" ["self", "text"] (sp_Table_weight_of K) := by
  refine T.met 29 rfl 76 rfl 108 rfl sc_Table_weight_of (fun _ _ _ _ h => h.1) (fun _ _ _ _ _ _ us hl => match us, hl with | [_, _], _ => rfl) (fun cdv A outer s H vs Q E hr h => ?_)
  have nd := sc_Table_weight_of.nd
  have hu := hu_of hr
  refine ⟨_, (pss_one (ps_ret (pe_dget2 hu (pe_fldK (K := K) (pv 0) rfl) (pv 1) pe_int ⟨rfl, rfl, rfl, rfl⟩))), ?_⟩
  obtain ⟨_, p, ws, t, rfl, ⟨dx, fs, d, us, h1, h2, h3, pm, h5, h6⟩, ok, k⟩ := h
  refine ⟨_, rfl, p, _, dx, fs, _, rfl, h1, T.cl_Table, T.n_Table_weights, h2, d, rfl, IsD.of h3, _, rfl, _, dget_opt h3, ?_⟩
  rw [val_wof pm ok.st.nodup]
  exact k
theorem sc_Table_share_of : FnScope ["self", "text"] ["self", "text"] (defScope s_Table_share_of) := ⟨rfl, rfl, rfl, by decide +kernel, rfl, by decide +kernel, by decide +kernel⟩
theorem c_Table_share_of (T : Tx K mg) (G_Share___init : Mak P w K mg base 2 "Share" (He.ga K "Share") ["self", "over", "under"] (sp_Share___init K)) (G_Table_weight_of : Met P w K mg base 1 (He.ga K "Table") "weight_of" ["self", "text"] (sp_Table_weight_of K)) : Met P w K mg base 4 (He.ga K "Table") "share_of" ["self", "text"] (sp_Table_share_of K) := by
  refine T.met 30 rfl 76 rfl 109 rfl sc_Table_share_of (fun _ _ _ _ h => h.1) (fun _ _ _ _ _ _ us hl => match us, hl with | [_, _], _ => rfl) (fun cdv A outer s H vs Q E hr h => ?_)
  have nd := sc_Table_share_of.nd
  have hu := hu_of hr
  refine ⟨_, (pss_one (ps_ret (pe_mak G_Share___init (hr.mono (by decide)) (pa_cons (pe_met G_Table_weight_of (hr.mono (by decide)) (pv 0) (pa_cons (pv 1) pa_nil)) (pa_cons (pe_fldK (K := K) (pv 0) rfl) pa_nil))))), ?_⟩
  obtain ⟨_, p, ws, t, rfl, hs, ok, bd, k⟩ := h
  obtain ⟨dx, fs, d, us, h1, h2, h3, pm, h5, h6⟩ := id hs
  refine ⟨_, rfl, p, dx, fs, rfl, h1, h6.2.1, _, rfl, rfl, p, ws, t, rfl, hs, ok, _, rfl, p, _, dx, fs, _, rfl, h1, T.cl_Table, T.n_Table_whole, h5, ?_⟩
  exact fun x dx nx nd ne => share_make nx nd ne (tot_pos ok.pos ok.one) (bd.mono (by decide)) fun H2 e r => ⟨rfl, k _ _ e r⟩
theorem sc_Machine_weight_of : FnScope ["self", "text"] ["self", "text"] (defScope s_Machine_weight_of) := ⟨rfl, rfl, rfl, by decide +kernel, rfl, by decide +kernel, by decide +kernel⟩
theorem c_Machine_weight_of (T : Tx K mg)  : Met P w K mg base 1 (He.ga K "Machine") "weight_of" ["self", "text"] (sp_Machine_weight_of K) := by
  refine T.met 34 rfl 81 rfl 112 rfl sc_Machine_weight_of (fun _ _ _ _ h => h.1) (fun _ _ _ _ _ _ us hl => match us, hl with | [_, _], _ => rfl) (fun cdv A outer s H vs Q E hr h => ?_)
  have nd := sc_Machine_weight_of.nd
  have hu := hu_of hr
  refine ⟨_, (pss_one (ps_ret (pe_dget2 hu (pe_fldK (K := K) (pv 0) rfl) (pv 1) pe_int ⟨rfl, rfl, rfl, rfl⟩))), ?_⟩
  obtain ⟨_, p, ws, t, rfl, ⟨dx, fs, d, us, h1, h2, h3, pm, h5, h6⟩, ok, k⟩ := h
  refine ⟨_, rfl, p, _, dx, fs, _, rfl, h1, T.cl_Machine, T.n_Machine_weights, h2, d, rfl, IsD.of h3, _, rfl, _, dget_opt h3, ?_⟩
  rw [val_wof pm ok.st.nodup]
  exact k
theorem sc_Machine_share_of : FnScope ["self", "text"] ["self", "text"] (defScope s_Machine_share_of) := ⟨rfl, rfl, rfl, by decide +kernel, rfl, by decide +kernel, by decide +kernel⟩
theorem c_Machine_share_of (T : Tx K mg) (G_Share___init : Mak P w K mg base 2 "Share" (He.ga K "Share") ["self", "over", "under"] (sp_Share___init K)) (G_Machine_weight_of : Met P w K mg base 1 (He.ga K "Machine") "weight_of" ["self", "text"] (sp_Machine_weight_of K)) : Met P w K mg base 4 (He.ga K "Machine") "share_of" ["self", "text"] (sp_Machine_share_of K) := by
  refine T.met 35 rfl 81 rfl 113 rfl sc_Machine_share_of (fun _ _ _ _ h => h.1) (fun _ _ _ _ _ _ us hl => match us, hl with | [_, _], _ => rfl) (fun cdv A outer s H vs Q E hr h => ?_)
  have nd := sc_Machine_share_of.nd
  have hu := hu_of hr
  refine ⟨_, (pss_one (ps_ret (pe_mak G_Share___init (hr.mono (by decide)) (pa_cons (pe_met G_Machine_weight_of (hr.mono (by decide)) (pv 0) (pa_cons (pv 1) pa_nil)) (pa_cons (pe_fldK (K := K) (pv 0) rfl) pa_nil))))), ?_⟩
  obtain ⟨_, p, ws, t, rfl, hs, ok, bd, k⟩ := h
  obtain ⟨dx, fs, d, us, h1, h2, h3, pm, h5, h6⟩ := id hs
  refine ⟨_, rfl, p, dx, fs, rfl, h1, h6.2.1, _, rfl, rfl, p, ws, t, rfl, hs, ok, _, rfl, p, _, dx, fs, _, rfl, h1, T.cl_Machine, T.n_Machine_whole, h5, ?_⟩
  exact fun x dx nx nd ne => share_make nx nd ne (tot_pos ok.pos ok.one) (bd.mono (by decide)) fun H2 e r => ⟨rfl, k _ _ e r⟩
end
end MH
/-! part R7 -/
set_option Elab.async false
set_option linter.all false
set_option maxRecDepth 100000
set_option maxHeartbeats 4000000
/-! comprehensions by what their items are. -/
namespace MH
open PySem PySem.Spec PyProof.Rows L2
/-- steps of the heap from H0 on that keep what is one's own -/
structure StepK (H0 : Hp) (F : Hp → Hp → Prop) : Prop where
  refl : ∀ {H}, F H H
  trans : ∀ {H H1 H2}, F H H1 → F H1 H2 → F H H2
  same : ∀ {H H'}, Same H H' → F H H'
  own : ∀ {H H' p o}, F H0 H → F H H' → H0 p = none → H p = some o → H' p = some o
  fresh : ∀ {H p}, F H0 H → H p = none → H0 p = none
  wr : ∀ {H p o}, F H0 H → H0 p = none → F H0 (upd H p o)
  nw : ∀ {H H' D}, F H0 H → F H H' → Same (nw D H0 H) (nw D H0 H')
theorem stepS (H0 : Hp) : StepK H0 Same where
  refl := Same.refl _
  trans := fun a b => a.trans b
  same := id
  own := fun _ g _ h => g _ _ h
  fresh := fun e h => e.free h
  wr := fun e h => same_mut e h
  nw := fun _ e => nw_up e
/-- with the law's state -/
def StF (a l : Addr) : Hp → Hp → Prop := fun H H' => StOk a l H → StStep a l H H'
theorem stepSt {a l : Addr} {H0 : Hp} (h0 : StOk a l H0) : StepK H0 (StF a l) where
  refl := fun h => .refl h
  trans := fun f g h => (f h).trans (g (f h).2)
  same := fun e h => (StStep.refl h).more e
  own := fun f g n h => by
    have s := f h0
    have t := g s.2
    refine keepS t.1 (fun z => ?_) h
    obtain ⟨⟨_, e⟩, _⟩ := h0.get
    rw [z, e] at n; cases n
  fresh := fun f h => by
    have s := f h0
    refine freeS s.1 (s.2.fresh h).1 h
  wr := fun f n _ => (f h0).mut n (h0.fresh n).1 (h0.fresh n).2
  nw := fun f g => by
    have s := f h0
    have t := g s.2
    obtain ⟨⟨_, e⟩, _⟩ := h0.get
    exact nw_upS t.1 e
section
variable {β : Type} {J : It} {n : Nat} {G : Hp → Prop} {Y : Nat → Hp → V → Hp → Prop} {F : Hp → Hp → Prop} {H0 : Hp} {D : Addr} {g : TG} {tt : TT} {te : TE} {vs : List Nat} {σ : L2.St} {Qd : Hp → Prop}
/-- a comprehension: its items ys tell bs by R in the view N of the heap; Φ of the turn and bs -/
theorem lc_rel (wk : Walk J n G Y) (SF : StepK H0 F) (R : Rl β) [Mo R] (Φ : Nat → List β → Prop) (N : Hp → Hp) (hN : ∀ H o, N (upd H D o) = N H) (hNF : ∀ H H', F H0 H → F H H' → Same (N H) (N H'))
    (hD : H0 D = none) (hG : ∀ H, F H0 H → G H) (hY : ∀ i H x H', Y i H x H' → F H H') (few : n < sizeLine) (z : Φ 0 [])
    (step : ∀ i x bs H H' (Kc : VK) (Rc : Hp → Prop), i < n → Φ i bs → F H0 H → F H0 H' → (∃ o, H' D = some o) → Y i H x H' →
      (∀ b y H2, F H' H2 → R (N H2) y b → Φ (i + 1) (bs ++ [b]) → Kc y H2) → (∀ H2, F H' H2 → Φ (i + 1) bs → Rc H2) →
      g x (wipe σ vs) H' fun σ2 H2 => wipe σ2 vs = wipe σ vs ∧ tt σ2 H2 fun c H3 => if c = true then te σ2 H3 Kc else Rc H3)
    (hd : ∀ H ys bs, F H0 H → H D = some (.lst ys) → Paired (R (N H)) ys bs → Φ n bs → Qd H) :
    ∃ W : Nat → Nat → Hp → Prop, (∃ m, W 0 m (upd H0 D (.lst []))) ∧ ∀ i m H, W i m H →
      (J.stop i H ∧ Qd H) ∨ (J.go i H ∧ ∃ Nx : Hp → Prop, (∀ H', Nx H' → ∃ m', m' < m ∧ W (i + 1) m' H') ∧ ∀ x H', J.yld i H x H' → g x (wipe σ vs) H' fun σ2 H2 => wipe σ2 vs = wipe σ vs ∧ tt σ2 H2 fun b H3 =>
        if b = true then te σ2 H3 fun y H4 => ∃ acc, H4 D = some (.lst acc) ∧ acc.length < sizeLine ∧ Nx (upd H4 D (.lst (acc ++ [y]))) else Nx H3) := by
  refine lc_it wk (fun i H => F H0 H ∧ ∃ ys bs, H D = some (.lst ys) ∧ Paired (R (N H)) ys bs ∧ Φ i bs ∧ bs.length ≤ i) ⟨SF.same (same_new hD), [], [], upd_same, .nil, z, Nat.le_refl _⟩ (fun i H _ h => hG H h.1) ?_ ?_
  · rintro i x H H' hi ⟨f, ys, bs, hv, hp, hφ, hl⟩ hy
    have f' := hY _ _ _ _ hy
    have v' := SF.own f f' hD hv
    refine step i x bs H H' _ _ hi hφ f (SF.trans f f') ⟨_, v'⟩ hy (fun b y H2 f2 r φ => ?_) (fun H2 f2 φ => ?_)
    · have v2 := SF.own (SF.trans f f') f2 hD v'
      refine ⟨ys, v2, by rw [paired_len hp]; omega, SF.wr (SF.trans (SF.trans f f') f2) hD, ys ++ [y], bs ++ [b], upd_same, ?_, φ, by simp; omega⟩
      rw [hN]
      exact paired_app (paired_up hp fun _ _ => Mo.up (hNF _ _ f (SF.trans f' f2))) (.cons r .nil)
    · exact ⟨SF.trans (SF.trans f f') f2, ys, bs, SF.own (SF.trans f f') f2 hD v', paired_up hp fun _ _ => Mo.up (hNF _ _ f (SF.trans f' f2)), φ, by omega⟩
  · rintro H ⟨f, ys, bs, hv, hp, hφ, _⟩
    exact hd H ys bs f hv hp hφ
/-- .. of new things -/
theorem lc_new (wk : Walk J n G Y) (SF : StepK H0 F) (R : Rl β) [Mo R] (Φ : Nat → List β → Prop)
    (hD : H0 D = none) (hG : ∀ H, F H0 H → G H) (hY : ∀ i H x H', Y i H x H' → F H H') (few : n < sizeLine) (z : Φ 0 [])
    (step : ∀ i x bs H H' (Kc : VK) (Rc : Hp → Prop), i < n → Φ i bs → F H0 H → F H0 H' → (∃ o, H' D = some o) → Y i H x H' →
      (∀ b y H2, F H' H2 → R (fr H' H2) y b → Φ (i + 1) (bs ++ [b]) → Kc y H2) → (∀ H2, F H' H2 → Φ (i + 1) bs → Rc H2) →
      g x (wipe σ vs) H' fun σ2 H2 => wipe σ2 vs = wipe σ vs ∧ tt σ2 H2 fun c H3 => if c = true then te σ2 H3 Kc else Rc H3)
    (hd : ∀ H ys bs, F H0 H → H D = some (.lst ys) → RLst R (fr H0 H) (.ref D) bs → Φ n bs → Qd H) :
    ∃ W : Nat → Nat → Hp → Prop, (∃ m, W 0 m (upd H0 D (.lst []))) ∧ ∀ i m H, W i m H →
      (J.stop i H ∧ Qd H) ∨ (J.go i H ∧ ∃ Nx : Hp → Prop, (∀ H', Nx H' → ∃ m', m' < m ∧ W (i + 1) m' H') ∧ ∀ x H', J.yld i H x H' → g x (wipe σ vs) H' fun σ2 H2 => wipe σ2 vs = wipe σ vs ∧ tt σ2 H2 fun b H3 =>
        if b = true then te σ2 H3 fun y H4 => ∃ acc, H4 D = some (.lst acc) ∧ acc.length < sizeLine ∧ Nx (upd H4 D (.lst (acc ++ [y]))) else Nx H3) := by
  refine lc_rel wk SF R Φ (nw D H0) (fun H o => nw_mut) (fun H H' f f' => SF.nw f f') hD hG hY few z (fun i x bs H H' Kc Rc hi φ f f' d y k1 k2 => ?_) (fun H ys bs f hv hp φ => hd H ys bs f hv ⟨D, ys, rfl, by rw [fr_at hD]; exact hv, paired_up hp fun _ _ => Mo.up same_nw⟩ φ)
  refine step i x bs H H' Kc Rc hi φ f f' d y (fun b y H2 f2 r φ => k1 b y H2 f2 (Mo.up (fun p o e => ?_) r) φ) k2
  obtain ⟨e1, e2⟩ := fr_some e
  obtain ⟨o', ho⟩ := d
  have n : p ≠ D := fun z => by rw [z, ho] at e1; cases e1
  rw [nw_at (SF.fresh f' e1) n]; exact e2
end
/-! ### walks of the generic sources -/
section
variable {K : Fr} {k k1 k2 : SK} {xs ys : List V}
theorem walk_zipK (h : xs.length = ys.length) : Walk (ItZ K k1 k2) xs.length (fun H => SqK K H k1 xs ∧ SqK K H k2 ys) (YPair (fun i => xs[i]?) (fun i => ys[i]?)) := by
  refine ⟨fun i _ hi q => ⟨xs, ys, xs[i], ys[i], q.1, q.2, List.getElem?_eq_getElem hi, List.getElem?_eq_getElem (by omega)⟩, fun _ q => ⟨xs, ys, q.1, q.2, by omega, by omega, .inl rfl⟩, fun i H v H' _ q y => ?_⟩
  obtain ⟨T, x, y, rfl, hT, rfl, hx, hy⟩ := y
  exact ⟨T, x, y, rfl, hT, rfl, hx _ q.1, hy _ q.2⟩
theorem walk_enumK : Walk (ItE K k) xs.length (fun H => SqK K H k xs) (YPair (fun i => some (.int (i : Nat))) (fun i => xs[i]?)) := by
  refine ⟨fun i _ hi q => ⟨xs, xs[i], q, List.getElem?_eq_getElem hi⟩, fun _ q => ⟨xs, q, rfl⟩, fun i H v H' _ q y => ?_⟩
  obtain ⟨T, x, rfl, hT, rfl, hx⟩ := y
  exact ⟨T, _, x, rfl, hT, rfl, rfl, hx _ q⟩
theorem yAt_same {i : Nat} {H H' : Hp} {x : V} (h : YAt xs i H x H') : Same H H' := by rw [h.1]; exact Same.refl _
theorem yFn_same {f : Nat → V} {i : Nat} {H H' : Hp} {x : V} (h : YFn f i H x H') : Same H H' := by rw [h.1]; exact Same.refl _
theorem yPair_same {f g : Nat → Option V} {i : Nat} {H H' : Hp} {x : V} (h : YPair f g i H x H') : Same H H' := by
  obtain ⟨T, _, _, _, hT, rfl, _⟩ := h
  exact same_new hT
end
end MH
/-! part D8 -/
set_option Elab.async false
set_option linter.all false
set_option maxRecDepth 100000
set_option maxHeartbeats 4000000
namespace MH
open PySem PySem.Spec PyProof.Rows L2
section
variable {P : Program} {w : World} {K : Fr} {mg : Str → Option Value} {base : Heap}
theorem lstS_at {H : Hp} {D : Addr} {xs : List Str} (h : RLst RStr H (.ref D) xs) : H D = some (.lst (xs.map V.str)) := by
  obtain ⟨a, e, h⟩ := h.strs; cases e; exact h
theorem lstI_at {H : Hp} {D : Addr} {xs : List Int} (h : RLst RInt H (.ref D) xs) : H D = some (.lst (xs.map V.int)) := by
  obtain ⟨a, e, h⟩ := h.ints; cases e; exact h
/-- the pool: the words' texts, and some more -/
def sp_law_pool : Sp := spx 3 fun vs H Q _ => ∃ (a l : Addr) (v : V) (ws : Ws) (m : Int), vs = [.ref a, v, .int m] ∧ 0 ≤ m ∧ m ≤ 10 ∧ StOk a l H ∧ RWs (hid a H) v ws ∧ (ws.map (·.1)).Nodup ∧ ws.length ≤ 40 ∧
  ∀ u (ex : List Str) H', StStep a l H H' → RLst RStr (fr H H') u (ws.map (·.1) ++ ex) → (ws.map (·.1) ++ ex).Nodup → ex.length ≤ 10 → Q u H'
theorem sc_law_pool : FnScope ["_law_state", "_law_words_here", "_law_most", "_law_pool_here", "_law_text_here", "_law_word"] ["_law_state", "_law_words_here", "_law_most"] (defScope s_law_pool) := ⟨rfl, rfl, rfl, by decide +kernel, rfl, by decide +kernel, by decide +kernel⟩
theorem c_law_pool (T : Tx K mg) (G_law_texts : Cal P w K mg base 3 "_law_texts" ["_law_state", "_law_many", "_law_most"] sp_law_texts) (G_law_draw : Cal P w K mg base 1 "_law_draw" ["_law_state", "_law_limit"] sp_law_draw) : Cal P w K mg base 4 "_law_pool" ["_law_state", "_law_words_here", "_law_most"] sp_law_pool := by
  refine T.cal 60 rfl 32 rfl sc_law_pool (fun _ _ _ _ h => h.1) (fun _ _ _ _ _ _ us hl => match us, hl with | [_, _, _], _ => rfl) (fun cdv A outer s H vs Q E hr h => ?_)
  have nd := sc_law_pool.nd
  have hu := hu_of hr
  refine ⟨_, (pss_cons (ps_setLc (i := 3) (own := [("_law_word", 5)]) (g := (gName 5)) (tt := tYes) (by rfl) nd rfl rfl (sw_true rfl rfl rfl (by decide +kernel)) (pi_list (pv 1)) (blkOk_by (own := [("_law_word", 5)]) (N := ["_law_state", "_law_words_here", "_law_most", "_law_pool_here", "_law_text_here", "_law_word"]) (sc := defScope s_law_pool) (by decide +kernel)) (fun _ _ _ _ _ => (pg_name (i := 5) nd rfl (Or.inl rfl))) (fun _ _ _ _ _ => pts_nil) (fun _ _ _ _ _ => (pe_ix (ix_tupK (K := K)) (pv 5) pe_int (fun _ _ => rfl))))
      (pss_cons (ps_for PassesOwn.never rfl (pi_list (pe_cal G_law_texts (hr.mono (by decide)) (pa_cons (pv 0) (pa_cons (pe_cal G_law_draw (hr.mono (by decide)) (pa_cons (pv 0) (pa_cons (pe_op op_add (pv 2) pe_int) pa_nil))) (pa_cons pe_int pa_nil))))) (pg_name (i := 4) nd rfl (Or.inl rfl)) (pss_one (ps_if (pt_cmpR (op_notInK (K := K)) (pv 4) (pv 3) (by rfl)) (pss_one (ps_expr (pe_bm PySem.F.plainAttrs_list PySem.F.slot_list_append PySem.F.type_list_append mt_append (pv 3) (pa_cons (pv 4) pa_nil)))) pss_nil)))
      (pss_one (ps_ret (pv 3))))), ?_⟩
  obtain ⟨_, a, l, v, ws, m, rfl, m0, m1, hS, ⟨p, vs, rfl, hp, hw⟩, nd1, few, k⟩ := h
  obtain ⟨npa, hp⟩ := hid_some hp
  refine ⟨_, rfl, p, rfl, ⟨_, SqL.of hp⟩, fun D hD => ?_⟩
  refine lc_new (n := vs.length) walk_list (stepS H) RStr (fun i bs => bs = (ws.map (·.1)).take i) hD (fun H' e => SqL.of (e _ _ hp)) (fun i H x H' y => yAt_same y) (by rw [paired_len hw]; exact sz_lt (by omega)) rfl (fun i x bs H1 H2 Kc Rc hi hb e1 e2 _ hy k1 _ => ?_) (fun H1 ys bs e1 hv hr hb => ?_)
  · obtain ⟨y, hy2, ⟨q, u1, u2, rfl, hq, rfl, r2⟩⟩ := paired_get hw hy.2
    have hq' := e2 _ _ (hid_some hq).2
    refine ⟨rfl, yes_t ?_⟩
    refine ⟨_, rfl, q, _, 0, _, rfl, rfl, SqT.of hq', rfl, k1 y.1 _ _ (Same.refl _) rfl ?_⟩
    rw [hb, ← take_more]
    rw [List.getElem?_map, hy2]; rfl
  have hb' : bs = ws.map (·.1) := by rw [hb, paired_len hw, List.take_of_length_le (by rw [List.length_map]; exact Nat.le_refl _)]
  subst hb'
  have hS1 := hS.up e1
  obtain ⟨nDa, nDl⟩ := hS.fresh hD
  have hD1 := same_fr _ _ (lstS_at hr)
  have s1 : StStep a l H H1 := (StStep.refl hS).more e1
  refine ⟨_, rfl, _, rfl, _, rfl, _, _, rfl, rfl, rfl, a, l, _, rfl, s1.2, by unfold Bd; omega, fun r H2 r0 r1 s2 => ?_⟩
  refine ⟨rfl, a, l, r, 10, rfl, r0, by omega, by decide, by decide, s2.2, fun q xs H3 s3 hq nqa nql hx nx hl _ => ?_⟩
  have s13 := s1.trans s2
  have hq0 : H q = none := freeS s13.1 nqa hq
  have hD2 := keepS s2.1 nDa hD1
  have nqD : q ≠ D := (ne_of_none hD2 hq).symm
  have hD3 := keepS s3.1 nDa hD2
  refine ⟨q, rfl, ⟨_, SqL.of hx⟩, for_list (K := K) (xs := xs.map V.str) (fun i σ H' => ∃ ex v w, σ = [some (.ref a), some (.ref p), some (.int m), some (.ref D), v, w] ∧ H' D = some (.lst ((ws.map (·.1) ++ ex).map V.str)) ∧ (ws.map (·.1) ++ ex).Nodup ∧ ex.length ≤ i ∧ StStep a l H H' ∧ H' q = some (.lst (xs.map V.str)))
    ⟨[], none, none, rfl, by rw [List.append_nil]; exact hD3, by rw [List.append_nil]; exact nd1, Nat.le_refl _, s13.trans s3, hx⟩ (fun i σ H' _ ⟨_, _, _, _, _, _, _, _, h⟩ => SqL.of h) ?_ ?_⟩
  · rintro i x σ H' hi ⟨ex, v, w, rfl, hD', nd', hl', s', hx'⟩
    obtain ⟨t, ht, rfl⟩ := map_some hi
    refine ⟨_, rfl, _, rfl, D, _, rfl, .inl (SqL.of hD'), rfl, flat_strs _, _, rfl, ?_⟩
    rw [inV_str]
    by_cases c : t ∈ ws.map (·.1) ++ ex
    · rw [decide_eq_true c]
      exact iteF ⟨ex, _, _, rfl, hD', nd', by omega, s', hx'⟩
    · rw [decide_eq_false c]
      refine iteT ⟨_, rfl, .inl ⟨rfl, _, SqL.of hD'⟩, _, rfl, D, _, _, rfl, rfl, hD', sz_lt ?_, ?_⟩
      · have : i < xs.length := (List.getElem?_eq_some_iff.mp ht).1
        rw [List.length_map, List.length_append, List.length_map]; omega
      refine ⟨ex ++ [t], _, _, rfl, by rw [upd_same, ← List.append_assoc, List.map_append (l₁ := ws.map (·.1) ++ ex)]; rfl, ?_, by rw [List.length_append, List.length_singleton]; omega, s'.mut hD nDa nDl, by rw [upd_ne nqD]; exact hx'⟩
      rw [← List.append_assoc, List.nodup_append]
      exact ⟨nd', by simp, fun y hy z hz e => c (by rw [List.mem_singleton] at hz; rw [← hz, ← e]; exact hy)⟩
  · rintro σ H' ⟨ex, v, w, rfl, hD', nd', hl', s', hx'⟩
    rw [List.length_map] at hl'
    exact ⟨_, rfl, k _ ex _ s' (RLst.of_strs (by rw [fr_at hD]; exact hD')) nd' (by omega)⟩
end
end MH
/-! part D9 -/
set_option Elab.async false
set_option linter.all false
set_option maxRecDepth 100000
set_option maxHeartbeats 4000000
namespace MH
open PySem PySem.Spec PyProof.Rows L2
section
variable {P : Program} {w : World} {K : Fr} {mg : Str → Option Value} {base : Heap}
abbrev Rows := List (Str × List Str)
abbrev RRows : Rl Rows := RLst (RPr RStr (RLst RStr))
theorem sub_len : ∀ {l m : List Str}, l.Nodup → (∀ x ∈ l, x ∈ m) → l.length ≤ m.length
  | [], _, _, _ => Nat.zero_le _
  | x :: l, m, nd, sub => by
    obtain ⟨n1, n2⟩ := List.nodup_cons.mp nd
    have hx := sub x List.mem_cons_self
    have e := List.length_erase_of_mem hx
    have p := List.length_pos_of_mem hx
    have := sub_len n2 (m := m.erase x) fun y hy => (List.mem_erase_of_ne (fun (z : y = x) => n1 (z ▸ hy))).mpr (sub y (List.mem_cons_of_mem _ hy))
    show l.length + 1 ≤ m.length
    omega
/-- all the readable texts -/
structure AllOf (rows : Rows) (ys : List Str) : Prop where
  st : StS ys
  mem : ∀ t, t ∈ ys ↔ ∃ r ∈ rows, t ∈ r.2
def sp_law_all : Sp := spx 1 fun vs H Q _ => ∃ (v : V) (rows : Rows) (pool : List Str), vs = [v] ∧ RRows H v rows ∧ (∀ r ∈ rows, ∀ t ∈ r.2, t ∈ pool) ∧ pool.length < 60 ∧
  ∀ u ys H', Same H H' → RLst RStr (fr H H') u ys → AllOf rows ys → Q u H'
theorem sc_law_all : FnScope ["_law_rows_here", "_law_found", "_law_text_here", "_law_readable", "_law_other"] ["_law_rows_here"] (defScope s_law_all) := ⟨rfl, rfl, rfl, by decide +kernel, rfl, by decide +kernel, by decide +kernel⟩
theorem c_law_all (T : Tx K mg)  : Cal P w K mg base 1 "_law_all" ["_law_rows_here"] sp_law_all := by
  refine T.cal 62 rfl 34 rfl sc_law_all (fun _ _ _ _ h => h.1) (fun _ _ _ _ _ _ us hl => match us, hl with | [_], _ => rfl) (fun cdv A outer s H vs Q E hr h => ?_)
  have nd := sc_law_all.nd
  have hu := hu_of hr
  refine ⟨_, (pss_cons (ps_set (i := 1) nd rfl (Or.inl rfl) pe_dnewK)
      (pss_cons (ps_for PassesOwn.never rfl (pi_list (pv 0)) (pg_tupK (K := K) 2 rfl (pgs_cons (pg_name (i := 2) nd rfl (Or.inl rfl)) (pgs_cons (pg_name (i := 3) nd rfl (Or.inl rfl)) pgs_nil))) (pss_one (ps_for PassesOwn.never rfl (pi_list (pv 3)) (pg_name (i := 4) nd rfl (Or.inl rfl)) (pss_one (ps_dput hu (pv 1) (pv 4) pe_bl rfl)))))
      (pss_one (ps_ret (pe_callB cr_sortedS (by rfl) T.f_sorted (by decide +kernel) (pa_cons (pe_callTy (call_listD rfl) (by rfl) T.f_list (by decide +kernel) (pa_cons (pv 1) pa_nil)) pa_nil)))))), ?_⟩
  obtain ⟨_, v, rows, pool, rfl, ⟨p, vs, rfl, hp, hw⟩, sub, few, k⟩ := h
  intro D hD
  have npD : p ≠ D := ne_of_none hp hD
  refine ⟨_, rfl, p, rfl, ⟨_, SqL.of (by rw [upd_ne npD]; exact hp)⟩, for_list (K := K) (xs := vs) (fun i σ H' => ∃ us u2 u3 u4, σ = [some (.ref p), some (.ref D), u2, u3, u4] ∧ Same H H' ∧ H' D = some (.dK (dct V.bl us)) ∧ (us.map (·.1)).Nodup ∧ ∀ t, t ∈ us.map (·.1) ↔ ∃ r ∈ rows.take i, t ∈ r.2)
    ⟨[], none, none, none, rfl, same_new hD, upd_same, List.nodup_nil, fun t => by simp⟩ (fun i σ H' _ ⟨_, _, _, _, _, e, _⟩ => SqL.of (e _ _ hp)) ?_ ?_⟩
  · rintro i x σ H' hi ⟨us, u2, u3, u4, rfl, e, hd, nd1, mem⟩
    obtain ⟨⟨t, rd⟩, hr, ⟨q, y, z, rfl, hq, rfl, hz⟩⟩ := paired_get hw hi
    obtain ⟨b, rfl, hb⟩ := hz.strs
    have hb' := e _ _ hb
    have nbD : b ≠ D := ne_of_none hb hD
    refine ⟨q, _, rfl, SqT.of (e _ _ hq), rfl, _, _, rfl, _, _, rfl, rfl, _, rfl, b, rfl, ⟨_, SqL.of hb'⟩, for_list (K := K) (xs := rd.map V.str) (fun j σ H2 => ∃ us u4, σ = [some (.ref p), some (.ref D), some (.str t), some (.ref b), u4] ∧ Same H H2 ∧ H2 D = some (.dK (dct V.bl us)) ∧ (us.map (·.1)).Nodup ∧ ∀ t, t ∈ us.map (·.1) ↔ (∃ r ∈ rows.take i, t ∈ r.2) ∨ t ∈ rd.take j)
      ⟨us, u4, rfl, e, hd, nd1, fun t => by rw [mem]; simp⟩ (fun j σ H2 _ ⟨_, _, _, e, _⟩ => SqL.of (e _ _ hb)) ?_ ?_⟩
    · rintro j y σ H2 hj ⟨us2, u5, rfl, e2, hd2, nd2, mem2⟩
      obtain ⟨o, ho, rfl⟩ := map_some hj
      have few2 : us2.length < 1000 := by
        have l := sub_len nd2 (m := pool) fun t ht => by
          rcases (mem2 t).mp ht with ⟨r, hr, m⟩ | m
          · exact sub r (List.mem_of_mem_take hr) t m
          · exact sub _ (List.mem_of_getElem? hr) t (List.mem_of_mem_take m)
        rw [List.length_map] at l; omega
      refine ⟨_, rfl, _, rfl, D, _, rfl, dput_at (f := V.bl) (x := true) hd2 nd2 (by omega), dput us2 o true, _, rfl, same_mut e2 hD, upd_same, dput_nodup nd2, fun t => ?_⟩
      rw [take_more ho, List.mem_append, List.mem_singleton, dput_keys]
      by_cases c : o ∈ us2.map (·.1)
      · rw [if_pos c, mem2]
        constructor
        · rintro (h | h); exact .inl h; exact .inr (.inl h)
        · rintro (h | h | h)
          · exact .inl h
          · exact .inr h
          · rw [h]; exact (mem2 o).mp c
      · rw [if_neg c, List.mem_append, List.mem_singleton, mem2, or_assoc]
    · rintro σ H2 ⟨us2, u5, rfl, e2, hd2, nd2, mem2⟩
      refine ⟨us2, _, _, _, rfl, e2, hd2, nd2, fun t => ?_⟩
      rw [mem2, List.length_map, List.take_length, take_more hr]
      constructor
      · rintro (⟨r, h1, h2⟩ | h)
        · exact ⟨r, List.mem_append_left _ h1, h2⟩
        · exact ⟨_, List.mem_append_right _ (List.mem_singleton.mpr rfl), h⟩
      · rintro ⟨r, h1, h2⟩
        rcases List.mem_append.mp h1 with h1 | h1
        · exact .inl ⟨r, h1, h2⟩
        · rw [List.mem_singleton] at h1; rw [h1] at h2; exact .inr h2
  · rintro σ H' ⟨us, u2, u3, u4, rfl, e, hd, nd1, mem⟩
    rw [paired_len hw, List.take_length] at mem
    have l := sub_len nd1 (m := pool) fun t ht => by
      obtain ⟨r, hr, m⟩ := (mem t).mp ht
      exact sub r hr t m
    refine ⟨_, rfl, D, _, rfl, .inl hd, fun q hq => ?_⟩
    have e3 : (dct V.bl us).map (fun kv => kV kv.1) = (us.map (·.1)).map V.str := by unfold dct; rw [List.map_map, List.map_map]; rfl
    refine ⟨q, us.map (·.1), rfl, SqL.of (by rw [upd_same, e3]), by omega, fun ys r pm so hr => ?_⟩
    have nqr : q ≠ r := fun z => by rw [← z, upd_same] at hr; cases hr
    have r0 : H' r = none := by rw [upd_ne nqr.symm] at hr; exact hr
    refine k _ ys _ (e.trans ((same_new hq).trans (same_new hr))) (RLst.of_strs ?_) ⟨StS.of so (pm.nodup_iff.mpr nd1), fun t => by rw [pm.mem_iff, mem]⟩
    rw [fr_at (e.free r0), upd_same]
theorem nodup_idx {α : Type} {xs : List α} (nd : xs.Nodup) {i j : Nat} {x : α} (h : xs[i]? = some x) (g : xs[j]? = some x) : i = j := by
  obtain ⟨a, ea⟩ := List.getElem?_eq_some_iff.mp h
  obtain ⟨b, eb⟩ := List.getElem?_eq_some_iff.mp g
  have p := List.pairwise_iff_getElem.mp nd
  rcases Nat.lt_trichotomy i j with c | c | c
  · exact absurd (ea.trans eb.symm) (p i j a b c)
  · exact c
  · exact absurd (eb.trans ea.symm) (p j i b a c)
/-- a row: its text, the texts readable there -/
structure RowOk (pool : List Str) (r : Str × List Str) : Prop where
  st : StS r.2
  own : r.1 ∈ r.2
  sub : ∀ t ∈ r.2, t ∈ pool
  few : r.2.length ≤ 8
structure ROk (ks pool : List Str) (rows : Rows) : Prop where
  first : ∃ es, rows.map (·.1) = ks ++ es
  nd : (rows.map (·.1)).Nodup
  each : ∀ r ∈ rows, RowOk pool r
  few : rows.length ≤ 60
theorem cut_drop (xs : List V) {k : Nat} (h : k ≤ xs.length) : cutV xs (some (k : Int)) none = xs.drop k := by
  unfold cutV
  rw [HT.sIx_nat, HT.sIx_none, Nat.min_eq_left h, List.take_of_length_le (by rw [List.length_drop]; exact Nat.le_refl _)]
theorem cut_take (xs : List V) {k : Nat} (h : k ≤ xs.length) : cutV xs none (some (k : Int)) = xs.take k := by
  unfold cutV
  rw [HT.sIx_nat, HT.sIx_none, Nat.min_eq_left h, List.drop_zero, Nat.sub_zero]
def sp_law_rows : Sp := spx 3 fun vs H Q _ => ∃ (a l : Addr) (v u : V) (ws : Ws) (ex : List Str), vs = [.ref a, v, u] ∧ StOk a l H ∧ RWs (hid a H) v ws ∧ RLst RStr (hid a H) u (ws.map (·.1) ++ ex) ∧ (ws.map (·.1) ++ ex).Nodup ∧ ws ≠ [] ∧ ws.length ≤ 40 ∧ ex.length ≤ 10 ∧
  ∀ o rows H', StStep a l H H' → RRows (fr H H') o rows → ROk (ws.map (·.1)) (ws.map (·.1) ++ ex) rows → Q o H'
theorem sc_law_rows : FnScope ["_law_state", "_law_words_here", "_law_pool_here", "_law_dense", "_law_left", "_law_rows_here", "_law_word", "_law_found", "_law_k", "_law_other", "_law_text_here"] ["_law_state", "_law_words_here", "_law_pool_here"] (defScope s_law_rows) := ⟨rfl, rfl, rfl, by decide +kernel, rfl, by decide +kernel, by decide +kernel⟩
theorem c_law_rows (T : Tx K mg) (G_law_draw : Cal P w K mg base 1 "_law_draw" ["_law_state", "_law_limit"] sp_law_draw) : Cal P w K mg base 2 "_law_rows" ["_law_state", "_law_words_here", "_law_pool_here"] sp_law_rows := by
  refine T.cal 61 rfl 33 rfl sc_law_rows (fun _ _ _ _ h => h.1) (fun _ _ _ _ _ _ us hl => match us, hl with | [_, _, _], _ => rfl) (fun cdv A outer s H vs Q E hr h => ?_)
  have nd := sc_law_rows.nd
  have hu := hu_of hr
  refine ⟨_, (pss_cons (ps_set (i := 3) nd rfl (Or.inl rfl) (pe_op op_add pe_int (pe_cal G_law_draw (hr.mono (by decide)) (pa_cons (pv 0) (pa_cons pe_int pa_nil)))))
      (pss_cons (ps_set (i := 4) nd rfl (Or.inl rfl) pe_int)
      (pss_cons (ps_set (i := 5) nd rfl (Or.inl rfl) (pe_lst pa_nil))
      (pss_cons (ps_for PassesOwn.never rfl (pi_list (pv 1)) (pg_name (i := 6) nd rfl (Or.inl rfl)) (pss_cons (ps_set (i := 7) nd rfl (Or.inl rfl) (pe_lst (pa_cons (pe_ix (ix_tupK (K := K)) (pv 6) pe_int (fun _ _ => rfl)) pa_nil)))
      (pss_cons (ps_for PassesOwn.never rfl (pi_range1 rfl T.f_range (pa_cons (pe_callB (call_min2 rfl) (by rfl) T.f_min (by decide +kernel) (pa_cons (pv 4) (pa_cons (pe_cal G_law_draw (hr.mono (by decide)) (pa_cons (pv 0) (pa_cons (pe_op op_add (pv 3) pe_int) pa_nil))) pa_nil))) pa_nil)) (pg_name (i := 8) nd rfl (Or.inl rfl)) (pss_cons (ps_set (i := 9) nd rfl (Or.inl rfl) (pe_ix (ix_listK (K := K)) (pv 2) (pe_cal G_law_draw (hr.mono (by decide)) (pa_cons (pv 0) (pa_cons (pe_callB (call_lenK (K := K)) (by rfl) T.f_len (by decide +kernel) (pa_cons (pv 2) pa_nil)) pa_nil))) (fun _ _ => rfl)))
      (pss_one (ps_if (pt_cmpR (op_notInK (K := K)) (pv 9) (pv 7) (by rfl)) (pss_cons (ps_expr (pe_bm PySem.F.plainAttrs_list PySem.F.slot_list_append PySem.F.type_list_append mt_append (pv 7) (pa_cons (pv 9) pa_nil)))
      (pss_one (ps_set (i := 4) nd rfl (Or.inl rfl) (pe_op op_sub (pv 4) pe_int)))) pss_nil))))
      (pss_one (ps_expr (pe_bm PySem.F.plainAttrs_list PySem.F.slot_list_append PySem.F.type_list_append mt_append (pv 5) (pa_cons (pe_tup (pa_cons (pe_ix (ix_tupK (K := K)) (pv 6) pe_int (fun _ _ => rfl)) (pa_cons (pe_callB cr_sortedS (by rfl) T.f_sorted (by decide +kernel) (pa_cons (pv 7) pa_nil)) pa_nil))) pa_nil)))))))
      (pss_cons (ps_for PassesOwn.never rfl (pi_list (pe_slice sl_list (pv 2) (po_some (pe_callB (call_lenK (K := K)) (by rfl) T.f_len (by decide +kernel) (pa_cons (pv 1) pa_nil))) po_none)) (pg_name (i := 10) nd rfl (Or.inl rfl)) (pss_one (ps_if (PW.pt (pw_and (pt_cmpR op_eq (pe_cal G_law_draw (hr.mono (by decide)) (pa_cons (pv 0) (pa_cons pe_int pa_nil))) pe_int (nomark _)) (pw_and1 (pt_cmpR op_lt (pe_callB (call_lenK (K := K)) (by rfl) T.f_len (by decide +kernel) (pa_cons (pv 5) pa_nil)) pe_int (nomark _))))) (pss_one (ps_expr (pe_bm PySem.F.plainAttrs_list PySem.F.slot_list_append PySem.F.type_list_append mt_append (pv 5) (pa_cons (pe_tup (pa_cons (pv 10) (pa_cons (pe_callB cr_sortedS (by rfl) T.f_sorted (by decide +kernel) (pa_cons (pe_lst (pa_cons (pv 10) (pa_cons (pe_ix (ix_listK (K := K)) (pv 2) pe_int (fun _ _ => rfl)) pa_nil))) pa_nil)) pa_nil))) pa_nil)))) pss_nil)))
      (pss_one (ps_ret (pv 5)))))))), ?_⟩
  obtain ⟨_, a, l, v, u, ws, ex, rfl, hS, ⟨p, vs, rfl, hp, hw⟩, hpool, ndp, wne, few, fewe, k⟩ := h
  obtain ⟨q, rfl, hq⟩ := hpool.strs
  obtain ⟨npa, hp⟩ := hid_some hp
  obtain ⟨nqa, hq⟩ := hid_some hq
  obtain ⟨pool, hpool⟩ : ∃ pool, pool = ws.map (·.1) ++ ex := ⟨_, rfl⟩
  rw [← hpool] at k ndp hq
  have plen : pool.length = ws.length + ex.length := by rw [hpool, List.length_append, List.length_map]
  have plen0 : 0 < ws.length := List.length_pos_iff.mpr wne
  obtain ⟨⟨oa, hoa⟩, _, _⟩ := hS.get
  refine ⟨_, rfl, rfl, a, l, _, rfl, hS, by decide, fun r0 H1 r00 r01 s1 => ⟨_, _, rfl, rfl, by show 0 ≤ sizeLine; decide, fun D hD => ?_⟩⟩
  have hD0 : H D = none := freeS s1.1 (s1.2.fresh hD).1 hD
  obtain ⟨nDa, nDl⟩ := hS.fresh hD0
  have nrm : ∀ {T : Addr} {H' : Hp}, StStep a l H H' → H' T = none → H T = none := fun s' hT => freeS s'.1 (s'.2.fresh hT).1 hT
  refine ⟨_, rfl, p, rfl, ⟨_, SqL.of (by rw [upd_ne (ne_of_none (keepS s1.1 npa hp) hD)]; exact keepS s1.1 npa hp)⟩, for_list (K := K) (xs := vs) (fun i σ H' => ∃ (lf : Int) (vs2 : List V) (rs : Rows) (u6 u7 u8 u9 u10 : Option V), σ = [some (.ref a), some (.ref p), some (.ref q), some (.int (1 + r0)), some (.int lf), some (.ref D), u6, u7, u8, u9, u10] ∧ StStep a l H H' ∧ H' D = some (.lst vs2) ∧
      Paired (RPr RStr (RLst RStr) (nw D H H')) vs2 rs ∧ rs.map (·.1) = (ws.map (·.1)).take i ∧ (∀ r ∈ rs, RowOk pool r) ∧ lf ≤ 36 ∧ -(8 * (i : Int)) ≤ lf) ⟨36, [], [], none, none, none, none, none, rfl, s1.mut hD0 nDa nDl, upd_same, .nil, rfl, (fun _ h => absurd h List.not_mem_nil), by omega, by omega⟩
      (fun i σ H' _ ⟨_, _, _, _, _, _, _, _, _, s', _⟩ => SqL.of (keepS s'.1 npa hp)) ?_ ?_⟩
  · rintro i x σ H' hi ⟨lf, vs2, rs, u6, u7, u8, u9, u10, rfl, s', hv, hr, he, hok, l1, l2⟩
    have hi' : i < ws.length := by rw [← paired_len hw]; exact (List.getElem?_eq_some_iff.mp hi).1
    obtain ⟨⟨t, n⟩, ht, ⟨b, y, z, rfl, hb, rfl, rfl⟩⟩ := paired_get hw hi
    obtain ⟨nba, hb⟩ := hid_some hb
    have hb' := keepS s'.1 nba hb
    refine ⟨_, rfl, b, _, 0, _, rfl, rfl, SqT.of hb', rfl, by show 1 ≤ sizeLine; decide, fun F hF => ?_⟩
    have nFa := (s'.2.fresh hF).1
    have nFl := (s'.2.fresh hF).2
    have hF0 := nrm s' hF
    have nFD : F ≠ D := (ne_of_none hv hF).symm
    have nFq : F ≠ q := (ne_of_none (keepS s'.1 nqa hq) hF).symm
    have tin : t ∈ pool := by
      rw [hpool]; exact List.mem_append_left _ (List.mem_map.mpr ⟨_, List.mem_of_getElem? ht, rfl⟩)
    refine ⟨_, rfl, _, rfl, _, rfl, _, _, rfl, rfl, rfl, a, l, _, rfl, s'.2.mut nFa nFl, by unfold Bd; omega, fun r H2 r20 r21 s2 => ?_⟩
    have sF : StStep a l H' H2 := ((StStep.refl s'.2).mut hF nFa nFl).trans s2
    have hF2 := keepS s2.1 nFa (upd_same (H := H') (a := F) (o := .lst [V.str t]))
    refine ⟨_, _, rfl, _, rfl, by split <;> omega, by split <;> omega, ?_⟩
    generalize hN : (if r < lf then r else lf).toNat = N
    have hN4 : N ≤ 4 := by rw [← hN]; split <;> omega
    refine for_range (lo := 0) (n := N) (fun j σ H3 => ∃ (fs : List Str) (lf' : Int) (u8 u9 : Option V), σ = [some (.ref a), some (.ref p), some (.ref q), some (.int (1 + r0)), some (.int lf'), some (.ref D), some (.ref b), some (.ref F), u8, u9, u10] ∧ StStep a l H' H3 ∧ H3 F = some (.lst (fs.map V.str)) ∧ fs.Nodup ∧ t ∈ fs ∧ (∀ y ∈ fs, y ∈ pool) ∧ fs.length ≤ 1 + j ∧ lf' ≤ 36 ∧ -(8 * (i : Int)) - j ≤ lf')
      ⟨[t], lf, u8, u9, rfl, sF, hF2, by simp, by simp, by simpa using tin, by simp, l1, by omega⟩ ?_ ?_
    · rintro j σ H3 hj ⟨fs, lf', u8, u9, rfl, s3, hf, fnd, tfs, fsub, flen, m1, m2⟩
      have hq3 := keepS (s'.trans s3).1 nqa hq
      refine ⟨_, rfl, _, rfl, _, rfl, q, _, rfl, .inl (SqL.of hq3), rfl, a, l, _, rfl, s3.2, by unfold Bd; rw [List.length_map]; omega, fun ρ H4 ρ0 ρ1 s4 => ?_⟩
      obtain ⟨ι, rfl⟩ : ∃ ι : Nat, ρ = (ι : Int) := ⟨ρ.toNat, by omega⟩
      rw [List.length_map] at ρ1
      have il : ι < pool.length := by omega
      have hq4 := keepS s4.1 nqa hq3
      have hf4 := keepS s4.1 nFa hf
      have s34 := s3.trans s4
      refine ⟨_, _, _, V.str pool[ι], rfl, rfl, SqL.of hq4, atI_nat (by rw [List.getElem?_map, List.getElem?_eq_getElem il]; rfl), ?_⟩
      refine ⟨_, rfl, _, rfl, F, _, rfl, .inl (SqL.of hf4), rfl, flat_strs _, _, rfl, ?_⟩
      rw [inV_str]
      by_cases c : pool[ι] ∈ fs
      · rw [decide_eq_true c]
        exact iteF ⟨fs, lf', _, _, rfl, s34, hf4, fnd, tfs, fsub, by omega, m1, by omega⟩
      · rw [decide_eq_false c]
        refine iteT ⟨_, rfl, .inl ⟨rfl, _, SqL.of hf4⟩, _, rfl, F, _, _, rfl, rfl, hf4, sz_lt (by rw [List.length_map]; omega), _, rfl, _, _, rfl, rfl, ?_⟩
        refine ⟨fs ++ [pool[ι]], lf' - 1, _, _, rfl, s34.mut hF nFa nFl, by rw [upd_same, List.map_append]; rfl, ?_, List.mem_append_left _ tfs, ?_, by rw [List.length_append, List.length_singleton]; omega, by omega, by omega⟩
        · rw [List.nodup_append]
          exact ⟨fnd, by simp, fun y hy z hz e => c (by rw [List.mem_singleton] at hz; rw [← hz, ← e]; exact hy)⟩
        · intro y hy
          rcases List.mem_append.mp hy with h | h
          · exact fsub y h
          · rw [List.mem_singleton] at h; rw [h]; exact List.getElem_mem il
    · rintro σ H3 ⟨fs, lf', u8, u9, rfl, s3, hf, fnd, tfs, fsub, flen, m1, m2⟩
      have hD3 := keepS s3.1 nDa hv
      have hb3 := keepS s3.1 nba hb'
      refine ⟨_, rfl, .inl ⟨rfl, _, SqL.of hD3⟩, _, rfl, b, _, 0, _, rfl, rfl, SqT.of hb3, rfl, _, rfl, F, fs, rfl, SqL.of hf, by omega, fun ys L pm so hL => ⟨by show 2 ≤ sizeLine; decide, fun T hT => ?_⟩⟩
      have sok := StS.of so (pm.nodup_iff.mpr fnd)
      have nTL : T ≠ L := fun z => by rw [z, upd_same] at hT; cases hT
      have hT3 : H3 T = none := by rw [upd_ne nTL] at hT; exact hT
      have s13 := s'.trans s3
      have hT0 := nrm s13 hT3
      have hL0 := nrm s13 hL
      have nTD : T ≠ D := (ne_of_none hD3 hT3).symm
      have nLD : L ≠ D := (ne_of_none hD3 hL).symm
      have hH : Same H3 (upd (upd H3 L (.lst (ys.map V.str))) T (.tup [.str t, .ref L])) := (same_new hL).trans (same_new hT)
      refine ⟨D, vs2, _, rfl, rfl, hH _ _ hD3, ?_, ?_⟩
      · have l := paired_len hr
        have e := congrArg List.length he
        rw [List.length_map, List.length_take, List.length_map] at e
        exact sz_lt (by omega)
      refine ⟨lf', vs2 ++ [.ref T], rs ++ [(t, ys)], _, _, _, _, _, rfl, (s13.more hH).mut hD0 nDa nDl, upd_same, ?_, ?_, ?_, m1, by omega⟩
      · rw [nw_mut]
        refine paired_app (paired_up hr fun _ _ => Mo.up ((nw_upS s3.1 hoa).trans (nw_up hH))) (.cons ⟨T, .str t, .ref L, rfl, ?_, rfl, RLst.of_strs ?_⟩ .nil)
        · rw [nw_at hT0 nTD, upd_same]
        · rw [nw_at hL0 nLD, upd_ne nTL.symm, upd_same]
      · rw [List.map_append, he, take_more (by rw [List.getElem?_map, ht]; rfl)]; rfl
      · intro r hr
        rcases List.mem_append.mp hr with h | h
        · exact hok r h
        · rw [List.mem_singleton] at h; rw [h]
          exact ⟨sok, pm.mem_iff.mpr tfs, fun y hy => fsub y (pm.mem_iff.mp hy), by rw [pm.length_eq]; omega⟩
  · rintro σ H' ⟨lf, vs2, rs, u6, u7, u8, u9, u10, rfl, s', hv, hr, he, hok, l1, l2⟩
    rw [paired_len hw, List.take_of_length_le (by rw [List.length_map]; exact Nat.le_refl _)] at he
    have hp' := keepS s'.1 npa hp
    have hq' := keepS s'.1 nqa hq
    refine ⟨_, rfl, _, rfl, p, _, rfl, .inl (SqL.of hp'), _, rfl, q, _, rfl, SqL.of hq', fun S hS' => ?_⟩
    have hcut : cutV (pool.map V.str) (some (vs.length : Int)) none = ex.map V.str := by
      rw [cut_drop _ (by rw [List.length_map, paired_len hw]; omega), paired_len hw, hpool, List.map_append, List.drop_left' (by simp)]
    rw [hcut]
    obtain ⟨nSa, nSl⟩ := s'.2.fresh hS'
    have hS0 := nrm s' hS'
    have nSD : S ≠ D := (ne_of_none hv hS').symm
    have sS : StStep a l H (upd H' S (.lst (ex.map V.str))) := s'.more (same_new hS')
    refine ⟨S, rfl, ⟨_, SqL.of upd_same⟩, for_list (K := K) (xs := ex.map V.str) (fun i σ H' => ∃ (vs2 : List V) (rs : Rows) (es : List Str) (u10 : Option V), σ = [some (.ref a), some (.ref p), some (.ref q), some (.int (1 + r0)), some (.int lf), some (.ref D), u6, u7, u8, u9, u10] ∧ StStep a l H H' ∧ H' D = some (.lst vs2) ∧
      Paired (RPr RStr (RLst RStr) (nw D H H')) vs2 rs ∧ rs.map (·.1) = ws.map (·.1) ++ es ∧ (rs.map (·.1)).Nodup ∧ (∀ y ∈ es, y ∈ ex.take i) ∧ es.length ≤ i ∧ (∀ r ∈ rs, RowOk pool r) ∧ H' S = some (.lst (ex.map V.str)))
      ⟨vs2, rs, [], u10, rfl, sS, by rw [upd_ne nSD.symm]; exact hv, paired_up hr fun _ _ => Mo.up (nw_up (same_new hS')), by rw [he, List.append_nil], ?_, (fun _ h => absurd h List.not_mem_nil), Nat.le_refl _, hok, upd_same⟩
      (fun i σ H' _ ⟨_, _, _, _, _, _, _, _, _, _, _, _, _, h⟩ => SqL.of h) ?_ ?_⟩
    · rw [he]
      rw [hpool, List.nodup_append] at ndp
      exact ndp.1
    · rintro i x σ H1 hi ⟨vs2, rs, es, u10, rfl, s', hv, hr, he, hnd, hes, hel, hok, hSx⟩
      obtain ⟨t, ht, rfl⟩ := map_some hi
      refine ⟨_, rfl, rfl, a, l, _, rfl, s'.2, by decide, fun d H2 d0 d1 s2 => ⟨rfl, _, rfl, ?_⟩⟩
      have s12 := s'.trans s2
      have hD2 := keepS s2.1 nDa hv
      have hS2 := keepS s2.1 nSa hSx
      have hr2 := paired_up hr fun _ _ => Mo.up (nw_upS (D := D) s2.1 hoa)
      have stay : ∃ (vs2 : List V) (rs : Rows) (es : List Str) (u10 : Option V), [some (V.ref a), some (V.ref p), some (V.ref q), some (V.int (1 + r0)), some (V.int lf), some (V.ref D), u6, u7, u8, u9, some (V.str t)] = [some (V.ref a), some (V.ref p), some (V.ref q), some (V.int (1 + r0)), some (V.int lf), some (V.ref D), u6, u7, u8, u9, u10] ∧ StStep a l H H2 ∧ H2 D = some (.lst vs2) ∧
          Paired (RPr RStr (RLst RStr) (nw D H H2)) vs2 rs ∧ rs.map (·.1) = ws.map (·.1) ++ es ∧ (rs.map (·.1)).Nodup ∧ (∀ y ∈ es, y ∈ ex.take (i + 1)) ∧ es.length ≤ i + 1 ∧ (∀ r ∈ rs, RowOk pool r) ∧ H2 S = some (.lst (ex.map V.str)) :=
        ⟨vs2, rs, es, _, rfl, s12, hD2, hr2, he, hnd, fun y hy => by rw [take_more ht]; exact List.mem_append_left _ (hes y hy), by omega, hok, hS2⟩
      refine ite2 (fun _ => ?_) (fun _ => iteF stay)
      refine ⟨_, rfl, D, _, rfl, .inl (SqL.of hD2), _, _, rfl, rfl, _, rfl, ?_⟩
      refine ite2 (fun _ => ?_) (fun _ => stay)
      have hq2 := keepS s12.1 nqa hq
      have p0 : (pool.map V.str)[0]? = some (.str pool[0]) := by rw [List.getElem?_map, List.getElem?_eq_getElem (by omega)]; rfl
      refine ⟨_, rfl, .inl ⟨rfl, _, SqL.of hD2⟩, _, rfl, _, rfl, _, rfl, q, _, 0, _, rfl, rfl, SqL.of hq2, atI_nat p0, by show 2 ≤ sizeLine; decide, fun B hB => ?_⟩
      have ne0 : t ≠ pool[0] := fun e => by
        have i1 : i < ex.length := (List.getElem?_eq_some_iff.mp ht).1
        have g1 : pool[ws.length + i]? = some t := by rw [hpool, List.getElem?_append_right (by simp), List.length_map, Nat.add_sub_cancel_left, ht]
        have g0 : pool[0]? = some t := (List.getElem?_eq_getElem (by omega)).trans (congrArg some e.symm)
        have := nodup_idx ndp g0 g1
        omega
      refine ⟨B, [t, pool[0]], rfl, SqL.of upd_same, by show 2 < 64; decide, fun ys L pm so hL => ⟨by show 2 ≤ sizeLine; decide, fun T hT => ?_⟩⟩
      have nTL : T ≠ L := fun z => by rw [z, upd_same] at hT; cases hT
      have hTB : (upd H2 B (.lst ([t, pool[0]].map V.str))) T = none := by rw [upd_ne nTL] at hT; exact hT
      have nTB : T ≠ B := fun z => by rw [z, upd_same] at hTB; cases hTB
      have hT2 : H2 T = none := by rw [upd_ne nTB] at hTB; exact hTB
      have nLB : L ≠ B := fun z => by rw [z, upd_same] at hL; cases hL
      have hL2 : H2 L = none := by rw [upd_ne nLB] at hL; exact hL
      have hT0 := nrm s12 hT2
      have hL0 := nrm s12 hL2
      have nTD : T ≠ D := (ne_of_none hD2 hT2).symm
      have nLD : L ≠ D := (ne_of_none hD2 hL2).symm
      have hH : Same H2 (upd (upd (upd H2 B (.lst ([t, pool[0]].map V.str))) L (.lst (ys.map V.str))) T (.tup [.str t, .ref L])) := ((same_new hB).trans (same_new hL)).trans (same_new hT)
      have nd2 : [t, pool[0]].Nodup := by simp [ne0]
      have sok := StS.of so (pm.nodup_iff.mpr nd2)
      have rl := paired_len hr
      have rl2 := congrArg List.length he
      rw [List.length_map, List.length_append, List.length_map] at rl2
      have i1 : i < ex.length := (List.getElem?_eq_some_iff.mp ht).1
      have tp : t ∈ pool := by rw [hpool]; exact List.mem_append_right _ (List.mem_of_getElem? ht)
      refine ⟨D, vs2, _, rfl, rfl, hH _ _ hD2, sz_lt (by omega), ?_⟩
      refine ⟨vs2 ++ [.ref T], rs ++ [(t, ys)], es ++ [t], _, rfl, (s12.more hH).mut hD0 nDa nDl, upd_same, ?_, ?_, ?_, ?_, ?_, ?_, ?_⟩
      · rw [nw_mut]
        refine paired_app (paired_up hr2 fun _ _ => Mo.up (nw_up hH)) (.cons ⟨T, .str t, .ref L, rfl, ?_, rfl, RLst.of_strs ?_⟩ .nil)
        · rw [nw_at hT0 nTD, upd_same]
        · rw [nw_at hL0 nLD, upd_ne nTL.symm, upd_same]
      · rw [List.map_append, he, List.append_assoc]; rfl
      · rw [List.map_append, List.nodup_append]
        refine ⟨hnd, by simp, fun y hy z hz e => ?_⟩
        rw [List.map_cons, List.map_nil, List.mem_singleton] at hz
        rw [e, hz, he] at hy
        have hpp := ndp
        rw [hpool, List.nodup_append] at hpp
        rcases List.mem_append.mp hy with h | h
        · exact hpp.2.2 t h t (List.mem_of_getElem? ht) rfl
        · have hx := hpp.2.1
          have hm := hes t h
          rw [← List.take_append_drop (i + 1) ex, take_more ht, List.nodup_append, List.nodup_append] at hx
          exact hx.1.2.2 t hm t (List.mem_singleton.mpr rfl) rfl
      · intro y hy
        rw [take_more ht]
        rcases List.mem_append.mp hy with h | h
        · exact List.mem_append_left _ (hes y h)
        · exact List.mem_append_right _ h
      · rw [List.length_append, List.length_singleton]; omega
      · intro r hr
        rcases List.mem_append.mp hr with h | h
        · exact hok r h
        · rw [List.mem_singleton] at h; rw [h]
          refine ⟨sok, pm.mem_iff.mpr List.mem_cons_self, fun y hy => ?_, by rw [pm.length_eq]; show 2 ≤ 8; decide⟩
          rcases List.mem_cons.mp (pm.mem_iff.mp hy) with h | h
          · rw [h]; exact tp
          · rw [List.mem_singleton] at h; rw [h]; exact List.getElem_mem _
      · rw [upd_ne nSD]; exact hH _ _ hS2
    · rintro σ H1 ⟨vs2, rs, es, u10, rfl, s', hv, hr, he, hnd, hes, hel, hok, hSx⟩
      have rl2 := congrArg List.length he
      rw [List.length_map, List.length_append, List.length_map] at rl2
      rw [List.length_map] at hel
      refine ⟨_, rfl, k (.ref D) rs H1 s' ⟨D, vs2, rfl, by rw [fr_at hD0]; exact hv, paired_up hr fun _ _ => Mo.up same_nw⟩ ⟨⟨es, he⟩, hnd, hok, by omega⟩⟩
end
end MH
/-! part D10 -/
set_option Elab.async false
set_option linter.all false
set_option maxRecDepth 100000
set_option maxHeartbeats 4000000
namespace MH
open PySem PySem.Spec PyProof.Rows L2
section
variable {P : Program} {w : World} {K : Fr} {mg : Str → Option Value} {base : Heap}
/-- the readable texts of a row -/
def sp_law_of : Sp := spx 2 fun vs H Q _ => ∃ (v : V) (rows : Rows) (t : Str) (r : Str × List Str), vs = [v, .str t] ∧ RRows H v rows ∧ r ∈ rows ∧ r.1 = t ∧ (rows.map (·.1)).Nodup ∧ ∀ u, RLst RStr H u r.2 → Q u H
theorem sc_law_of : FnScope ["_law_rows_here", "_law_text_here", "_law_known", "_law_readable"] ["_law_rows_here", "_law_text_here"] (defScope s_law_of) := ⟨rfl, rfl, rfl, by decide +kernel, rfl, by decide +kernel, by decide +kernel⟩
theorem c_law_of (T : Tx K mg)  : Cal P w K mg base 1 "_law_of" ["_law_rows_here", "_law_text_here"] sp_law_of := by
  refine T.cal 68 rfl 40 rfl sc_law_of (fun _ _ _ _ h => h.1) (fun _ _ _ _ _ _ us hl => match us, hl with | [_, _], _ => rfl) (fun cdv A outer s H vs Q E hr h => ?_)
  have nd := sc_law_of.nd
  have hu := hu_of hr
  refine ⟨_, (pss_cons (ps_for PassesOwn.never rfl (pi_list (pv 0)) (pg_tupK (K := K) 2 rfl (pgs_cons (pg_name (i := 2) nd rfl (Or.inl rfl)) (pgs_cons (pg_name (i := 3) nd rfl (Or.inl rfl)) pgs_nil))) (pss_one (ps_if (pt_cmpR op_eq (pv 2) (pv 1) (nomark _)) (pss_one (ps_ret (pv 3))) pss_nil)))
      (pss_one (ps_ret (pe_lst (pa_cons (pv 1) pa_nil))))), ?_⟩
  obtain ⟨_, v, rows, t, r, rfl, ⟨p, vs, rfl, hp, hw⟩, hr, rfl, nd1, k⟩ := h
  refine ⟨_, rfl, p, rfl, ⟨_, SqL.of hp⟩, for_list (K := K) (xs := vs) (fun i σ H' => H' = H ∧ ∃ u2 u3, σ = [some (.ref p), some (.str r.1), u2, u3] ∧ r.1 ∉ (rows.take i).map (·.1)) ⟨rfl, none, none, rfl, by simp⟩ (fun i σ H' _ ⟨e, _⟩ => SqL.of (by rw [e]; exact hp)) ?_ ?_⟩
  · rintro i x σ H' hi ⟨rfl, u2, u3, rfl, no⟩
    obtain ⟨⟨t, rd⟩, ht, ⟨q, y, z, rfl, hq, rfl, hz⟩⟩ := paired_get hw hi
    refine ⟨q, _, rfl, SqT.of hq, rfl, _, _, rfl, _, _, rfl, rfl, _, rfl, _, rfl, rfl, _, rfl, ?_⟩
    by_cases c : t = r.1
    · have e : r = (t, rd) := by
        obtain ⟨j, hj⟩ := List.mem_iff_getElem?.mp hr
        have a1 : (rows.map (·.1))[j]? = some r.1 := by rw [List.getElem?_map, hj]; rfl
        have a2 : (rows.map (·.1))[i]? = some r.1 := by rw [List.getElem?_map, ht, ← c]; rfl
        have := nodup_idx nd1 a1 a2
        rw [this, ht] at hj; exact (Option.some.inj hj).symm
      refine iteD (congrArg V.str c) ⟨_, rfl, k z ?_⟩
      rw [e]; exact hz
    · refine iteN (fun z => c (by injection z)) ⟨rfl, _, _, rfl, ?_⟩
      rw [take_more ht, List.map_append]
      intro m
      rcases List.mem_append.mp m with h | h
      · exact no h
      · exact c (List.mem_singleton.mp h).symm
  · rintro σ H' ⟨rfl, u2, u3, rfl, no⟩
    rw [paired_len hw, List.take_length] at no
    exact absurd (List.mem_map.mpr ⟨r, hr, rfl⟩) no
theorem cut_few (xs : List Str) (k : Nat) : cutV (xs.map V.str) none (some (k : Int)) = (xs.take k).map V.str := by
  unfold cutV
  rw [HT.sIx_nat, HT.sIx_none, List.drop_zero, Nat.sub_zero, List.length_map, List.map_take]
  by_cases h : k ≤ xs.length
  · rw [Nat.min_eq_left h]
  · rw [Nat.min_eq_right (by omega), List.take_of_length_le (by rw [List.length_map]; exact Nat.le_refl _), List.take_of_length_le (by rw [List.length_map]; omega)]
/-- whom an entry accuses: any texts, not too many -/
def sp_law_accused : Sp := spx 3 fun vs H Q _ => ∃ (a l : Addr) (v u : V) (rd pool : List Str), vs = [.ref a, v, u] ∧ StOk a l H ∧ RLst RStr (hid a H) v rd ∧ RLst RStr (hid a H) u pool ∧ rd.length ≤ 8 ∧ pool.length ≤ 60 ∧ rd ≠ [] ∧ rd.Nodup ∧ pool.Nodup ∧ (∀ y ∈ rd, y ∈ pool) ∧
  ∀ (o : Addr) (ac : List Str) H', StStep a l H H' → H' o = some (.lst (ac.map V.str)) → H o = none → ac.Nodup → (∀ y ∈ ac, y ∈ pool) → Q (.ref o) H'
theorem sc_law_accused : FnScope ["_law_state", "_law_readable", "_law_pool_here", "_law_kind", "_law_at", "_law_k", "_law_text_here"] ["_law_state", "_law_readable", "_law_pool_here"] (defScope s_law_accused) := ⟨rfl, rfl, rfl, by decide +kernel, rfl, by decide +kernel, by decide +kernel⟩
theorem c_law_accused (T : Tx K mg) (G_law_draw : Cal P w K mg base 1 "_law_draw" ["_law_state", "_law_limit"] sp_law_draw) : Cal P w K mg base 2 "_law_accused" ["_law_state", "_law_readable", "_law_pool_here"] sp_law_accused := by
  refine T.cal 69 rfl 41 rfl sc_law_accused (fun _ _ _ _ h => h.1) (fun _ _ _ _ _ _ us hl => match us, hl with | [_, _, _], _ => rfl) (fun cdv A outer s H vs Q E hr h => ?_)
  have nd := sc_law_accused.nd
  have hu := hu_of hr
  refine ⟨_, (pss_cons (ps_set (i := 3) nd rfl (Or.inl rfl) (pe_cal G_law_draw (hr.mono (by decide)) (pa_cons (pv 0) (pa_cons pe_int pa_nil))))
      (pss_cons (ps_if (pt_cmpR op_eq (pv 3) pe_int (nomark _)) (pss_one (ps_ret (pe_lst pa_nil))) pss_nil)
      (pss_cons (ps_set (i := 4) nd rfl (Or.inl rfl) (pe_cal G_law_draw (hr.mono (by decide)) (pa_cons (pv 0) (pa_cons (pe_callB (call_lenK (K := K)) (by rfl) T.f_len (by decide +kernel) (pa_cons (pv 1) pa_nil)) pa_nil))))
      (pss_cons (ps_if (pt_cmpR op_eq (pv 3) pe_int (nomark _)) (pss_one (ps_ret (pe_op op_cat (pe_slice sl_list (pv 1) po_none (po_some (pv 4))) (pe_slice sl_list (pv 1) (po_some (pe_op op_add (pv 4) pe_int)) po_none)))) pss_nil)
      (pss_cons (ps_if (pt_cmpR op_eq (pv 3) pe_int (nomark _)) (pss_one (ps_ret (pe_op op_cat (pv 1) (pe_lc (own := [("_law_text_here", 6)]) (g := (gName 6)) (by rfl) nd (pi_list (pe_slice sl_list (pv 2) po_none (po_some (pe_cal G_law_draw (hr.mono (by decide)) (pa_cons (pv 0) (pa_cons pe_int pa_nil)))))) (blkOk_by (own := [("_law_text_here", 6)]) (N := ["_law_state", "_law_readable", "_law_pool_here", "_law_kind", "_law_at", "_law_k", "_law_text_here"]) (sc := defScope s_law_accused) (by decide +kernel)) (fun _ _ _ _ _ => (pg_name (i := 6) nd rfl (Or.inl rfl))) (fun _ _ _ _ _ => (pts_one (pt_cmpR (op_notInK (K := K)) (pv 6) (pv 1) (by rfl)))) (fun _ _ _ _ _ => (pv 6)))))) pss_nil)
      (pss_one (ps_ret (pe_lc (own := [("_law_k", 5)]) (g := (gName 5)) (tt := tYes) (by rfl) nd (pi_range1 rfl T.f_range (pa_cons (pe_callB (call_lenK (K := K)) (by rfl) T.f_len (by decide +kernel) (pa_cons (pv 1) pa_nil)) pa_nil)) (blkOk_by (own := [("_law_k", 5)]) (N := ["_law_state", "_law_readable", "_law_pool_here", "_law_kind", "_law_at", "_law_k", "_law_text_here"]) (sc := defScope s_law_accused) (by decide +kernel)) (fun _ _ _ _ _ => (pg_name (i := 5) nd rfl (Or.inl rfl))) (fun _ _ _ _ _ => pts_nil) (fun _ _ _ _ _ => (pe_ix (ix_listK (K := K)) (pv 1) (pe_op op_sub (pe_op op_sub (pe_callB (call_lenK (K := K)) (by rfl) T.f_len (by decide +kernel) (pa_cons (pv 1) pa_nil)) pe_int) (pv 5)) (fun _ _ => rfl))))))))))), ?_⟩
  obtain ⟨_, a, l, v, u, rd, pool, rfl, hS, hv, hu', l1, l2, ne, ndr, ndp, sub, k⟩ := h
  obtain ⟨p, rfl, hp⟩ := hv.strs
  obtain ⟨q, rfl, hq⟩ := hu'.strs
  obtain ⟨npa, hp⟩ := hid_some hp
  obtain ⟨nqa, hq⟩ := hid_some hq
  refine ⟨_, rfl, rfl, a, l, _, rfl, hS, by decide, fun r H1 r0 r1 s1 => ⟨_, rfl, rfl, _, rfl, ?_⟩⟩
  refine ite2 (fun _ => ?_) (fun _ => ?_)
  · refine ⟨by show 0 ≤ sizeLine; decide, fun o ho => ?_⟩
    exact k o [] _ (s1.more (same_new ho)) upd_same (freeS s1.1 (s1.2.fresh ho).1 ho) List.nodup_nil (fun _ h => absurd h List.not_mem_nil)
  have hp1 := keepS s1.1 npa hp
  have hq1 := keepS s1.1 nqa hq
  refine ⟨_, rfl, _, rfl, p, _, rfl, .inl (SqL.of hp1), rfl, a, l, _, rfl, s1.2, by unfold Bd; rw [List.length_map]; omega, fun ρ H2 ρ0 ρ1 s2 => ?_⟩
  have rl : 0 < rd.length := List.length_pos_iff.mpr ne
  rw [List.length_map] at ρ1
  obtain ⟨τ, rfl⟩ : ∃ τ : Nat, ρ = (τ : Int) := ⟨ρ.toNat, by omega⟩
  have s12 := s1.trans s2
  have hp2 := keepS s2.1 npa hp1
  have hq2 := keepS s2.1 nqa hq1
  have fr0 : ∀ {T : Addr} {H' : Hp}, StStep a l H H' → H' T = none → H T = none := fun s' hT => freeS s'.1 (s'.2.fresh hT).1 hT
  refine ⟨_, rfl, rfl, _, rfl, ?_⟩
  refine ite2 (fun _ => ?_) (fun _ => ?_)
  · have c1 := cut_few rd τ
    have c3 : cutV (rd.map V.str) (some ((τ : Int) + 1)) none = (rd.drop (τ + 1)).map V.str := by
      have := cut_drop (rd.map V.str) (k := τ + 1) (by rw [List.length_map]; omega)
      rw [List.map_drop]; exact this
    generalize hy1 : rd.take τ = y1 at c1
    generalize hy2 : rd.drop (τ + 1) = y2 at c3
    have yl1 : y1.length ≤ rd.length := by rw [← hy1, List.length_take]; omega
    have yl2 : y2.length ≤ rd.length := by rw [← hy2, List.length_drop]; omega
    have ysub : (y1 ++ y2).Sublist rd := by rw [← hy1, ← hy2, ← List.eraseIdx_eq_take_drop_succ]; exact List.eraseIdx_sublist ..
    refine ⟨_, rfl, _, rfl, τ, rfl, p, _, rfl, SqL.of hp2, fun A1 hA1 => ?_⟩
    rw [c1]
    have hp3 : (upd H2 A1 (.lst (y1.map V.str))) p = some (.lst (rd.map V.str)) := same_new hA1 _ _ hp2
    refine ⟨_, rfl, _, rfl, τ, 1, rfl, rfl, _, rfl, p, _, rfl, SqL.of hp3, fun A2 hA2 => ?_⟩
    rw [c3]
    have n12 : A1 ≠ A2 := fun z => by rw [← z, upd_same] at hA2; cases hA2
    refine ⟨A1, A2, y1.map V.str, y2.map V.str, rfl, rfl, by rw [upd_ne n12, upd_same], upd_same, by rw [List.length_map, List.length_map, sizeLine_eq]; omega, fun A3 hA3 => ?_⟩
    have s3 := s12.more (((same_new hA1).trans (same_new hA2)).trans (same_new (o := .lst (y1.map V.str ++ y2.map V.str)) hA3))
    refine k A3 (y1 ++ y2) _ s3 (by rw [upd_same, List.map_append]) (fr0 (s12.more ((same_new hA1).trans (same_new hA2))) hA3) (ndr.sublist ysub) (fun y hy => sub y (ysub.mem hy))
  refine ⟨_, rfl, rfl, _, rfl, ?_⟩
  refine ite2 (fun _ => ?_) (fun _ => ?_)
  · refine ⟨_, rfl, _, rfl, _, rfl, rfl, a, l, _, rfl, s12.2, by decide, fun g H3 g0 g1 s3 => ⟨_, rfl, ?_⟩⟩
    obtain ⟨γ, rfl⟩ : ∃ γ : Nat, g = (γ : Int) := ⟨g.toNat, by omega⟩
    have s13 := s12.trans s3
    have hp3 := keepS s3.1 npa hp2
    have hq3 := keepS s3.1 nqa hq2
    have c1 := cut_few pool γ
    generalize hy1 : pool.take γ = y1 at c1
    have yl : y1.length ≤ 60 := by rw [← hy1, List.length_take]; omega
    have ynd : y1.Nodup := by rw [← hy1]; exact ndp.sublist (List.take_sublist _ _)
    have ysub : ∀ y ∈ y1, y ∈ pool := fun y hy => by rw [← hy1] at hy; exact List.mem_of_mem_take hy
    refine ⟨q, _, rfl, SqL.of hq3, fun A1 hA1 => ?_⟩
    rw [c1]
    have s4 := s13.more (same_new (o := .lst (y1.map V.str)) hA1)
    have hp4 : (upd H3 A1 (.lst (y1.map V.str))) p = some (.lst (rd.map V.str)) := same_new hA1 _ _ hp3
    generalize hH4 : upd H3 A1 (.lst (y1.map V.str)) = H4 at s4 hp4
    have hA4 : H4 A1 = some (.lst (y1.map V.str)) := by rw [← hH4]; exact upd_same
    refine ⟨A1, rfl, ⟨_, SqL.of hA4⟩, fun D hD => ?_⟩
    refine lc_new (n := (y1.map V.str).length) walk_list (stepS H4) RStr (fun i bs => bs.Nodup ∧ ∀ y ∈ bs, y ∈ y1.take i ∧ y ∉ rd) hD (fun H' e => SqL.of (e _ _ hA4)) (fun i H x H' y => yAt_same y) (sz_lt (by rw [List.length_map]; omega)) ⟨List.nodup_nil, fun _ h => absurd h List.not_mem_nil⟩ (fun i x bs H5 H6 Kc Rc hi hb e1 e2 _ hy k1 k2 => ?_) (fun H5 ys bs e1 hv' hr' hb => ?_)
    · obtain ⟨t, ht, rfl⟩ := map_some hy.2
      have hp6 := e2 _ _ hp4
      refine ⟨rfl, _, rfl, _, rfl, p, _, rfl, .inl (SqL.of hp6), rfl, flat_strs _, _, rfl, ?_⟩
      rw [inV_str]
      by_cases c : t ∈ rd
      · rw [decide_eq_true c]
        exact iteF (k2 _ (Same.refl _) ⟨hb.1, fun y hy => ⟨by rw [take_more ht]; exact List.mem_append_left _ (hb.2 y hy).1, (hb.2 y hy).2⟩⟩)
      · rw [decide_eq_false c]
        refine iteT ⟨_, rfl, k1 t _ _ (Same.refl _) rfl ⟨?_, fun y hy => ?_⟩⟩
        · rw [List.nodup_append]
          refine ⟨hb.1, by simp, fun y hy z hz e => ?_⟩
          rw [List.mem_singleton] at hz
          have m := (hb.2 y hy).1
          rw [e, hz] at m
          have hx := ynd
          rw [← List.take_append_drop (i + 1) y1, take_more ht, List.nodup_append, List.nodup_append] at hx
          exact hx.1.2.2 t m t (List.mem_singleton.mpr rfl) rfl
        · rw [take_more ht]
          rcases List.mem_append.mp hy with h | h
          · exact ⟨List.mem_append_left _ (hb.2 y h).1, (hb.2 y h).2⟩
          · rw [List.mem_singleton] at h; rw [h]
            exact ⟨List.mem_append_right _ (List.mem_singleton.mpr rfl), c⟩
    · have hD5 := same_fr _ _ (lstS_at hr')
      have bl : bs.length ≤ y1.length := sub_len hb.1 fun y hy => List.mem_of_mem_take (hb.2 y hy).1
      refine ⟨p, D, rd.map V.str, bs.map V.str, rfl, rfl, e1 _ _ hp4, hD5, by rw [List.length_map, List.length_map, sizeLine_eq]; omega, fun A3 hA3 => ?_⟩
      exact k A3 (rd ++ bs) _ ((s4.more e1).more (same_new hA3)) (by rw [upd_same, List.map_append]) (fr0 (s4.more e1) hA3) (List.nodup_append.mpr ⟨ndr, hb.1, fun y hy z hz e => (hb.2 z hz).2 (e ▸ hy)⟩) (fun y hy => (List.mem_append.mp hy).elim (sub y) fun h => ysub y (List.mem_of_mem_take (hb.2 y h).1))
  · refine ⟨_, rfl, p, _, rfl, .inl (SqL.of hp2), _, rfl, by omega, by rw [List.length_map]; omega, fun D hD => ?_⟩
    refine lc_new (n := (((rd.map V.str).length : Nat) : Int).toNat) walk_range (stepS H2) RStr (fun i bs => bs = rd.reverse.take i) hD (fun _ _ => trivial) (fun i H x H' y => yFn_same y) (by rw [List.length_map, Int.toNat_natCast]; exact sz_lt (by omega)) rfl (fun i x bs H5 H6 Kc Rc hi hb e1 e2 _ hy k1 k2 => ?_) (fun H5 ys bs e1 hv' hr' hb => ?_)
    · obtain ⟨rfl, rfl⟩ := hy
      rw [List.length_map, Int.toNat_natCast] at hi
      have hp6 := e2 _ _ hp2
      have ix : ((((rd.map V.str).length : Nat) : Int) - 1 - (0 + (i : Int))) = ((rd.length - 1 - i : Nat) : Int) := by rw [List.length_map]; omega
      have il : rd.length - 1 - i < rd.length := by omega
      refine ⟨rfl, yes_t ?_⟩
      refine ⟨_, rfl, _, rfl, p, _, rfl, .inl (SqL.of hp6), _, _, rfl, rfl, _, rfl, _, _, rfl, rfl, _, _, _, V.str rd[rd.length - 1 - i], rfl, rfl, SqL.of hp6, ?_, k1 _ _ _ (Same.refl _) rfl ?_⟩
      · rw [ix]
        exact atI_nat (by rw [List.getElem?_map, List.getElem?_eq_getElem il]; rfl)
      · rw [hb, take_more]
        rw [List.getElem?_reverse hi, List.getElem?_eq_getElem il]
    · have hD5 := same_fr _ _ (lstS_at hr')
      rw [List.length_map, Int.toNat_natCast, List.take_of_length_le (by rw [List.length_reverse]; exact Nat.le_refl _)] at hb
      exact k D bs _ (s12.more e1) hD5 (fr0 s12 hD) (by rw [hb]; exact (List.reverse_perm rd).nodup_iff.mpr ndr) (fun y hy => by rw [hb, List.mem_reverse] at hy; exact sub y hy)
end
end MH
/-! part D11 -/
set_option Elab.async false
set_option linter.all false
set_option maxRecDepth 100000
set_option maxHeartbeats 4000000
namespace MH
open PySem PySem.Spec PyProof.Rows L2
/-! ### sums by text, in plain words -/
abbrev Prts := List (Int × Str)
abbrev RPrts : Rl Prts := RLst (RPr RInt RStr)
def psum : Prts → Str → Int
  | [], _ => 0
  | (n, s) :: r, t => (if s = t then n else 0) + psum r t
theorem psum_app : ∀ (a b : Prts) (t : Str), psum (a ++ b) t = psum a t + psum b t
  | [], b, t => by show psum b t = 0 + psum b t; omega
  | (n, s) :: a, b, t => by
    show (if s = t then n else 0) + psum (a ++ b) t = (if s = t then n else 0) + psum a t + psum b t
    rw [psum_app a b t]; omega
def swp (ws : Ws) : Prts := ws.map fun x => (x.2, x.1)
theorem wof_psum : ∀ {ws : Ws} {t : Str}, (ws.map (·.1)).Nodup → psum (swp ws) t = wof ws t
  | [], _, _ => rfl
  | (s, n) :: ws, t, nd => by
    obtain ⟨n1, n2⟩ := List.nodup_cons.mp nd
    show (if s = t then n else 0) + psum (swp ws) t = _
    rw [wof_psum n2]
    by_cases e : s = t
    · subst e
      rw [if_pos rfl, wof_none n1, wof_some nd List.mem_cons_self]; omega
    · rw [if_neg e]
      unfold wof
      rw [List.find?_cons_of_neg (by simp [e])]; omega
def tops (ps : Prts) : Int := (ps.map (·.1)).sum
theorem tops_app (a b : Prts) : tops (a ++ b) = tops a + tops b := by unfold tops; rw [List.map_append, List.sum_append]
/-- the words' weights, times f, in parts -/
structure PsOk (ws : Ws) (f : Int) (ps : Prts) : Prop where
  f1 : 1 ≤ f
  f3 : f ≤ 3
  each : ∀ x ∈ ps, 1 ≤ x.1 ∧ x.1 ≤ 3 * 10 ^ 12 ∧ x.2 ∈ ws.map (·.1)
  sums : ∀ t, psum ps t = f * psum (swp ws) t
  all : tops ps = f * tot ws
  few : ps.length ≤ 3 * ws.length
  one : ws.length ≤ ps.length
section
variable {P : Program} {w : World} {K : Fr} {mg : Str → Option Value} {base : Heap}
def sp_law_split : Sp := spx 2 fun vs H Q _ => ∃ (a l : Addr) (v : V) (ws : Ws), vs = [.ref a, v] ∧ StOk a l H ∧ RWs (hid a H) v ws ∧ (∀ x ∈ ws, 1 ≤ x.2 ∧ x.2 ≤ 10 ^ 12) ∧ ws ≠ [] ∧ ws.length ≤ 40 ∧
  ∀ o f ps H', StStep a l H H' → RPrts (fr H H') o ps → PsOk ws f ps → Q o H'
theorem sc_law_split : FnScope ["_law_state", "_law_words_here", "_law_factor", "_law_parts", "_law_text_here", "_law_weight_here", "_law_left", "_law_k", "_law_part", "_law_turn"] ["_law_state", "_law_words_here"] (defScope s_law_split) := ⟨rfl, rfl, rfl, by decide +kernel, rfl, by decide +kernel, by decide +kernel⟩
theorem c_law_split (T : Tx K mg) (G_law_draw : Cal P w K mg base 1 "_law_draw" ["_law_state", "_law_limit"] sp_law_draw) (G_law_wide : Cal P w K mg base 2 "_law_wide" ["_law_state"] sp_law_wide) : Cal P w K mg base 3 "_law_split" ["_law_state", "_law_words_here"] sp_law_split := by
  refine T.cal 66 rfl 38 rfl sc_law_split (fun _ _ _ _ h => h.1) (fun _ _ _ _ _ _ us hl => match us, hl with | [_, _], _ => rfl) (fun cdv A outer s H vs Q E hr h => ?_)
  have nd := sc_law_split.nd
  have hu := hu_of hr
  refine ⟨_, (pss_cons (ps_set (i := 2) nd rfl (Or.inl rfl) (pe_op op_add pe_int (pe_cal G_law_draw (hr.mono (by decide)) (pa_cons (pv 0) (pa_cons pe_int pa_nil)))))
      (pss_cons (ps_set (i := 3) nd rfl (Or.inl rfl) (pe_lst pa_nil))
      (pss_cons (ps_for PassesOwn.never rfl (pi_list (pv 1)) (pg_tupK (K := K) 2 rfl (pgs_cons (pg_name (i := 4) nd rfl (Or.inl rfl)) (pgs_cons (pg_name (i := 5) nd rfl (Or.inl rfl)) pgs_nil))) (pss_cons (ps_set (i := 6) nd rfl (Or.inl rfl) (pe_op op_mulW (pv 5) (pv 2)))
      (pss_cons (ps_for PassesOwn.never rfl (pi_range1 rfl T.f_range (pa_cons pe_int pa_nil)) (pg_name (i := 7) nd rfl (Or.inl rfl)) (pss_one (ps_if (PW.pt (pw_and (pt_cmpR op_gt (pv 6) pe_int (nomark _)) (pw_and1 (pt_cmpR op_eq (pe_cal G_law_draw (hr.mono (by decide)) (pa_cons (pv 0) (pa_cons pe_int pa_nil))) pe_int (nomark _))))) (pss_cons (ps_set (i := 8) nd rfl (Or.inl rfl) (pe_op op_add pe_int (pe_op op_mod (pe_callTy call_int1 (by rfl) T.f_int (by decide +kernel) (pa_cons (pe_cal G_law_wide (hr.mono (by decide)) (pa_cons (pv 0) pa_nil)) pa_nil)) (pe_op op_sub (pv 6) pe_int))))
      (pss_cons (ps_expr (pe_bm PySem.F.plainAttrs_list PySem.F.slot_list_append PySem.F.type_list_append mt_append (pv 3) (pa_cons (pe_tup (pa_cons (pv 8) (pa_cons (pv 4) pa_nil))) pa_nil)))
      (pss_one (ps_set (i := 6) nd rfl (Or.inl rfl) (pe_op op_sub (pv 6) (pv 8)))))) pss_nil)))
      (pss_one (ps_expr (pe_bm PySem.F.plainAttrs_list PySem.F.slot_list_append PySem.F.type_list_append mt_append (pv 3) (pa_cons (pe_tup (pa_cons (pv 6) (pa_cons (pv 4) pa_nil))) pa_nil)))))))
      (pss_cons (ps_set (i := 9) nd rfl (Or.inl rfl) (pe_cal G_law_draw (hr.mono (by decide)) (pa_cons (pv 0) (pa_cons (pe_callB (call_lenK (K := K)) (by rfl) T.f_len (by decide +kernel) (pa_cons (pv 3) pa_nil)) pa_nil))))
      (pss_one (ps_ret (pe_op op_cat (pe_slice sl_list (pv 3) (po_some (pv 9)) po_none) (pe_slice sl_list (pv 3) po_none (po_some (pv 9)))))))))), ?_⟩
  obtain ⟨_, a, l, v, ws, rfl, hS, ⟨p, vs, rfl, hp, hw⟩, hpos, ne, few, k⟩ := h
  obtain ⟨npa, hp⟩ := hid_some hp
  obtain ⟨⟨oa, hoa⟩, _, _⟩ := hS.get
  have fr0 : ∀ {T : Addr} {H' : Hp}, StStep a l H H' → H' T = none → H T = none := fun s' hT => freeS s'.1 (s'.2.fresh hT).1 hT
  refine ⟨_, rfl, rfl, a, l, _, rfl, hS, by decide, fun r H1 r0 r1 s1 => ⟨_, _, rfl, rfl, by show 0 ≤ sizeLine; decide, fun D hD => ?_⟩⟩
  have hD0 := fr0 s1 hD
  obtain ⟨nDa, nDl⟩ := hS.fresh hD0
  have f1 : 1 ≤ 1 + r := by omega
  have f3 : 1 + r ≤ 3 := by omega
  refine ⟨_, rfl, p, rfl, ⟨_, SqL.of (by rw [upd_ne (ne_of_none (keepS s1.1 npa hp) hD)]; exact keepS s1.1 npa hp)⟩, for_list (K := K) (xs := vs) (fun i σ H' => ∃ (vs2 : List V) (ps : Prts) (u4 u5 u6 u7 u8 : Option V), σ = [some (.ref a), some (.ref p), some (.int (1 + r)), some (.ref D), u4, u5, u6, u7, u8, none] ∧ StStep a l H H' ∧ H' D = some (.lst vs2) ∧
      Paired (RPr RInt RStr (nw D H H')) vs2 ps ∧ PsOk (ws.take i) (1 + r) ps) ?_ (fun i σ H' _ ⟨_, _, _, _, _, _, _, _, s', _⟩ => SqL.of (keepS s'.1 npa hp)) ?_ ?_⟩
  · exact ⟨[], [], none, none, none, none, none, rfl, s1.mut hD0 nDa nDl, upd_same, .nil, f1, f3, (fun _ h => absurd h List.not_mem_nil), (fun t => by show (0 : Int) = (1 + r) * 0; omega), (by show (0 : Int) = (1 + r) * 0; omega), Nat.le_refl _, Nat.le_refl _⟩
  · rintro i x σ H' hi ⟨vs2, ps, u4, u5, u6, u7, u8, rfl, s', hv, hr, ok⟩
    obtain ⟨⟨t, n⟩, ht, ⟨b, y, z, rfl, hb, rfl, rfl⟩⟩ := paired_get hw hi
    obtain ⟨nba, hb⟩ := hid_some hb
    obtain ⟨n1, n2⟩ := hpos _ (List.mem_of_getElem? ht)
    have n1 : 1 ≤ n := n1
    have n2 : n ≤ 10 ^ 12 := n2
    have nf1 : 1 ≤ n * (1 + r) := by
      have := Int.mul_le_mul_of_nonneg_left f1 (show 0 ≤ n by omega); omega
    have nf3 : n * (1 + r) ≤ 3 * 10 ^ 12 := by
      have := Int.mul_le_mul_of_nonneg_left f3 (show 0 ≤ n by omega); omega
    have il : i < ws.length := (List.getElem?_eq_some_iff.mp ht).1
    have tl : (ws.take i).length = i := by rw [List.length_take]; omega
    have tm : t ∈ (ws.take (i + 1)).map (·.1) := by rw [take_more ht, List.map_append]; exact List.mem_append_right _ (List.mem_singleton.mpr rfl)
    have up : ∀ {s : Str}, s ∈ (ws.take i).map (·.1) → s ∈ (ws.take (i + 1)).map (·.1) := fun m => by rw [take_more ht, List.map_append]; exact List.mem_append_left _ m
    refine ⟨b, _, rfl, SqT.of (keepS s'.1 nba hb), rfl, _, _, rfl, _, _, rfl, rfl, _, rfl, _, rfl, _, _, rfl, rfl, wmul (a := 50) (b := 10) (by unfold Bd; omega) (by unfold Bd; omega) (by decide), ?_⟩
    refine ⟨2, rfl, by decide, by decide, for_range (lo := 0) (n := 2) (fun j σ H' => ∃ (vs2 : List V) (ps : Prts) (lf : Int) (u7 u8 : Option V), σ = [some (.ref a), some (.ref p), some (.int (1 + r)), some (.ref D), some (.str t), some (.int n), some (.int lf), u7, u8, none] ∧ StStep a l H H' ∧ H' D = some (.lst vs2) ∧
      Paired (RPr RInt RStr (nw D H H')) vs2 ps ∧ 1 ≤ lf ∧ lf ≤ n * (1 + r) ∧ (∀ x ∈ ps, 1 ≤ x.1 ∧ x.1 ≤ 3 * 10 ^ 12 ∧ x.2 ∈ (ws.take (i + 1)).map (·.1)) ∧ (∀ s, psum ps s = (1 + r) * psum (swp (ws.take i)) s + if t = s then n * (1 + r) - lf else 0) ∧ tops ps = (1 + r) * tot (ws.take i) + (n * (1 + r) - lf) ∧ ps.length ≤ 3 * i + j ∧ i ≤ ps.length)
      ⟨vs2, ps, n * (1 + r), u7, u8, rfl, s', hv, hr, nf1, Int.le_refl _, (fun x hx => ⟨(ok.each x hx).1, (ok.each x hx).2.1, up (ok.each x hx).2.2⟩), (fun s => by rw [ok.sums]; split <;> omega), (by rw [ok.all]; omega), (by have := ok.few; omega), (by have := ok.one; omega)⟩ ?_ ?_⟩
    · rintro j σ H2 hj ⟨vs2, ps, lf, u7, u8, rfl, s', hv, hr, lf1, lf2, each, sums, all, len1, len2⟩
      refine ⟨_, rfl, _, _, rfl, rfl, _, rfl, ?_⟩
      have stay : ∀ {H3 : Hp}, StStep a l H2 H3 → ∃ (vs2 : List V) (ps : Prts) (lf' : Int) (u7 u8' : Option V), [some (V.ref a), some (V.ref p), some (V.int (1 + r)), some (V.ref D), some (V.str t), some (V.int n), some (V.int lf), some (V.int (0 + (j : Int))), u8, none] = [some (V.ref a), some (V.ref p), some (V.int (1 + r)), some (V.ref D), some (V.str t), some (V.int n), some (V.int lf'), u7, u8', none] ∧ StStep a l H H3 ∧ H3 D = some (.lst vs2) ∧
        Paired (RPr RInt RStr (nw D H H3)) vs2 ps ∧ 1 ≤ lf' ∧ lf' ≤ n * (1 + r) ∧ (∀ x ∈ ps, 1 ≤ x.1 ∧ x.1 ≤ 3 * 10 ^ 12 ∧ x.2 ∈ (ws.take (i + 1)).map (·.1)) ∧ (∀ s, psum ps s = (1 + r) * psum (swp (ws.take i)) s + if t = s then n * (1 + r) - lf' else 0) ∧ tops ps = (1 + r) * tot (ws.take i) + (n * (1 + r) - lf') ∧ ps.length ≤ 3 * i + (j + 1) ∧ i ≤ ps.length :=
        fun s3 => ⟨vs2, ps, lf, _, _, rfl, s'.trans s3, keepS s3.1 nDa hv, paired_up hr fun _ _ => Mo.up (nw_upS s3.1 hoa), lf1, lf2, each, sums, all, by omega, len2⟩
      refine ite2 (fun c => ?_) (fun _ => iteF (stay (.refl s'.2)))
      have c' : 1 < lf := of_decide_eq_true c
      refine ⟨_, rfl, rfl, a, l, _, rfl, s'.2, by decide, fun d H3 d0 d1 s3 => ⟨rfl, _, rfl, ?_⟩⟩
      refine ite2 (fun _ => ?_) (fun _ => stay s3)
      refine ⟨_, rfl, rfl, a, l, rfl, s3.2, fun wd H4 w0 w1 s4 => .inl ⟨_, rfl, _, rfl, _, _, rfl, rfl, _, _, rfl, rfl, (by omega), _, _, rfl, rfl, ?_⟩⟩
      have m0 : 0 ≤ wd % (lf - 1) := Int.emod_nonneg _ (by omega)
      have m1 : wd % (lf - 1) < lf - 1 := Int.emod_lt_of_pos _ (by omega)
      generalize wd % (lf - 1) = x at m0 m1
      have s34 := s3.trans s4
      have hv4 := keepS s34.1 nDa hv
      have hr4 := paired_up hr fun _ _ => Mo.up (nw_upS (D := D) s34.1 hoa)
      have rl := paired_len hr
      refine ⟨_, rfl, .inl ⟨rfl, _, SqL.of hv4⟩, _, rfl, _, rfl, by show 2 ≤ sizeLine; decide, fun T hT => ?_⟩
      have nTD : T ≠ D := (ne_of_none hv4 hT).symm
      have hT0 := fr0 (s'.trans s34) hT
      refine ⟨D, vs2, _, rfl, rfl, same_new hT _ _ hv4, sz_lt (by omega), _, rfl, _, rfl, _, _, rfl, rfl, ?_⟩
      refine ⟨vs2 ++ [.ref T], ps ++ [(1 + x, t)], lf - (1 + x), _, _, rfl, ((s'.trans s34).more (same_new hT)).mut hD0 nDa nDl, upd_same, ?_, by omega, by omega, ?_, fun s => ?_, ?_, by rw [List.length_append, List.length_singleton]; omega, by rw [List.length_append]; omega⟩
      · rw [nw_mut]
        refine paired_app (paired_up hr4 fun _ _ => Mo.up (nw_up (same_new hT))) (.cons ⟨T, _, _, rfl, ?_, rfl, rfl⟩ .nil)
        rw [nw_at hT0 nTD, upd_same]
      · intro y hy
        rcases List.mem_append.mp hy with h | h
        · exact each y h
        · rw [List.mem_singleton] at h; rw [h]
          exact ⟨by show 1 ≤ 1 + x; omega, by show 1 + x ≤ _; omega, tm⟩
      · rw [psum_app, sums]
        show _ + ((if t = s then 1 + x else 0) + 0) = _
        split <;> omega
      · rw [tops_app, all]
        show _ + ((1 + x) + 0) = _
        omega
    · rintro σ H2 ⟨vs2, ps, lf, u7, u8, rfl, s', hv, hr, lf1, lf2, each, sums, all, len1, len2⟩
      have rl := paired_len hr
      refine ⟨_, rfl, .inl ⟨rfl, _, SqL.of hv⟩, _, rfl, _, rfl, by show 2 ≤ sizeLine; decide, fun T hT => ?_⟩
      have nTD : T ≠ D := (ne_of_none hv hT).symm
      have hT0 := fr0 s' hT
      refine ⟨D, vs2, _, rfl, rfl, same_new hT _ _ hv, sz_lt (by omega), ?_⟩
      refine ⟨vs2 ++ [.ref T], ps ++ [(lf, t)], _, _, _, _, _, rfl, (s'.more (same_new hT)).mut hD0 nDa nDl, upd_same, ?_, f1, f3, ?_, fun s => ?_, ?_, ?_, ?_⟩
      · rw [nw_mut]
        refine paired_app (paired_up hr fun _ _ => Mo.up (nw_up (same_new hT))) (.cons ⟨T, _, _, rfl, ?_, rfl, rfl⟩ .nil)
        rw [nw_at hT0 nTD, upd_same]
      · intro y hy
        rcases List.mem_append.mp hy with h | h
        · exact each y h
        · rw [List.mem_singleton] at h; rw [h]
          exact ⟨lf1, by show lf ≤ _; omega, tm⟩
      · rw [psum_app, sums, take_more ht]
        have : psum (swp (ws.take i ++ [(t, n)])) s = psum (swp (ws.take i)) s + if t = s then n else 0 := by
          unfold swp; rw [List.map_append, psum_app]
          show _ + ((if t = s then n else 0) + 0) = _
          omega
        rw [this]
        show _ + ((if t = s then lf else 0) + 0) = _
        generalize psum (swp (ws.take i)) s = z1
        split
        · grind
        · grind
      · rw [tops_app, all, take_more ht]
        have : tot (ws.take i ++ [(t, n)]) = tot (ws.take i) + n := by
          unfold tot; rw [List.map_append, List.sum_append]; show _ + (n + 0) = _; omega
        rw [this]
        show _ + (lf + 0) = _
        generalize tot (ws.take i) = z1
        grind
      · rw [List.length_append, List.length_singleton, List.length_take]; omega
      · rw [List.length_append, List.length_singleton, List.length_take]; omega
  · rintro σ H' ⟨vs2, ps, u4, u5, u6, u7, u8, rfl, s', hv, hr, ok⟩
    rw [paired_len hw, List.take_length] at ok
    have rl := paired_len hr
    have o1 := ok.few
    have o2 := ok.one
    have wl : 0 < ws.length := List.length_pos_iff.mpr ne
    refine ⟨_, rfl, _, rfl, D, _, rfl, .inl (SqL.of hv), rfl, a, l, _, rfl, s'.2, by unfold Bd; omega, fun d H2 d0 d1 s2 => ?_⟩
    obtain ⟨τ, rfl⟩ : ∃ τ : Nat, d = (τ : Int) := ⟨d.toNat, by omega⟩
    have τl : τ ≤ vs2.length := by omega
    have s3 := s'.trans s2
    have hv2 := keepS s2.1 nDa hv
    have hr2 := paired_up hr fun _ _ => Mo.up (nw_upS (D := D) s2.1 hoa)
    refine ⟨_, rfl, _, rfl, (τ : Int), rfl, D, _, rfl, SqL.of hv2, fun A1 hA1 => ?_⟩
    rw [cut_drop _ τl]
    refine ⟨_, rfl, _, rfl, (τ : Int), rfl, D, _, rfl, SqL.of (same_new hA1 _ _ hv2), fun A2 hA2 => ?_⟩
    rw [cut_take _ τl]
    have n12 : A1 ≠ A2 := fun z => by rw [← z, upd_same] at hA2; cases hA2
    refine ⟨A1, A2, vs2.drop τ, vs2.take τ, rfl, rfl, by rw [upd_ne n12, upd_same], upd_same, by rw [List.length_drop, List.length_take, sizeLine_eq]; omega, fun A3 hA3 => ?_⟩
    have e3 : Same H2 (upd (upd (upd H2 A1 (.lst (vs2.drop τ))) A2 (.lst (vs2.take τ))) A3 (.lst (vs2.drop τ ++ vs2.take τ))) := ((same_new hA1).trans (same_new hA2)).trans (same_new hA3)
    have hA30 := fr0 (s3.more ((same_new hA1).trans (same_new hA2))) hA3
    refine k (.ref A3) (1 + r) (ps.drop τ ++ ps.take τ) _ (s3.more e3) ⟨A3, _, rfl, by rw [fr_at hA30, upd_same], ?_⟩ ⟨f1, f3, fun x hx => ok.each x ?_, fun t => ?_, ?_, ?_, ?_⟩
    · have := paired_up hr2 fun _ _ => Mo.up (same_nw.trans (fr_up e3))
      exact paired_app (paired_drop τ this) (paired_take τ this)
    · rcases List.mem_append.mp hx with h | h
      · exact List.mem_of_mem_drop h
      · exact List.mem_of_mem_take h
    · rw [← ok.sums, psum_app]
      have : psum (ps.take τ ++ ps.drop τ) t = psum ps t := by rw [List.take_append_drop]
      rw [← this, psum_app]; omega
    · rw [← ok.all, tops_app]
      have : tops (ps.take τ ++ ps.drop τ) = tops ps := by rw [List.take_append_drop]
      rw [← this, tops_app]; omega
    · rw [List.length_append, List.length_drop, List.length_take]; omega
    · rw [List.length_append, List.length_drop, List.length_take]; omega
end
end MH
/-! part D12 -/
set_option Elab.async false
set_option linter.all false
set_option maxRecDepth 100000
set_option maxHeartbeats 4000000
namespace MH
open PySem PySem.Spec PyProof.Rows L2
abbrev Ents := List (Int × Str × List Str)
abbrev REnts : Rl Ents := RLst (RTr RInt RStr (RLst RStr))
/-- the weight of the entries that accuse t -/
def acs : Ents → Str → Int
  | [], _ => 0
  | (n, _, ac) :: r, t => (if t ∈ ac then n else 0) + acs r t
theorem acs_app : ∀ (a b : Ents) (t : Str), acs (a ++ b) t = acs a t + acs b t
  | [], b, t => by show acs b t = 0 + acs b t; omega
  | (n, s, ac) :: a, b, t => by
    show (if t ∈ ac then n else 0) + acs (a ++ b) t = (if t ∈ ac then n else 0) + acs a t + acs b t
    rw [acs_app a b t]; omega
def topE (es : Ents) : Int := (es.map (·.1)).sum
theorem acs_le : ∀ {es : Ents} {t : Str}, (∀ e ∈ es, 1 ≤ e.1) → 0 ≤ acs es t ∧ acs es t ≤ topE es
  | [], _, _ => ⟨Int.le_refl _, Int.le_refl _⟩
  | (n, s, ac) :: r, t, h => by
    obtain ⟨a, b⟩ := acs_le (es := r) (t := t) fun e he => h e (List.mem_cons_of_mem _ he)
    have n1 : 1 ≤ n := h _ List.mem_cons_self
    show 0 ≤ (if t ∈ ac then n else 0) + acs r t ∧ (if t ∈ ac then n else 0) + acs r t ≤ n + topE r
    split <;> omega
theorem wof_dput : ∀ {us : Ws} {o t : Str} {x : Int}, wof (dput us o x) t = if t = o then x else wof us t
  | [], o, t, x => by
    show wof [(o, x)] t = _
    unfold wof
    by_cases e : o = t
    · subst e; rw [List.find?_cons_of_pos (by simp), if_pos rfl]; rfl
    · rw [List.find?_cons_of_neg (by simp [e]), if_neg (Ne.symm e)]
  | (s, a) :: us, o, t, x => by
    show wof (if s = o then (s, x) :: us else (s, a) :: dput us o x) t = _
    by_cases e : s = o
    · subst e
      rw [if_pos rfl]
      unfold wof
      by_cases c : s = t
      · subst c; rw [List.find?_cons_of_pos (by simp), if_pos rfl]; rfl
      · rw [List.find?_cons_of_neg (by simp [c]), List.find?_cons_of_neg (by simp [c]), if_neg (Ne.symm c)]
    · rw [if_neg e]
      by_cases c : s = t
      · subst c
        rw [if_neg e]
        unfold wof
        rw [List.find?_cons_of_pos (by simp), List.find?_cons_of_pos (by simp)]
      · have ih := wof_dput (us := us) (o := o) (t := t) (x := x)
        unfold wof at ih ⊢
        rw [List.find?_cons_of_neg (by simp [c]), List.find?_cons_of_neg (by simp [c])]
        exact ih
/-- the accused texts' sums -/
structure SmOk (es : Ents) (pool : List Str) (us : Ws) : Prop where
  nd : (us.map (·.1)).Nodup
  val : ∀ t, wof us t = acs es t
  sub : ∀ t ∈ us.map (·.1), t ∈ pool
section
variable {P : Program} {w : World} {K : Fr} {mg : Str → Option Value} {base : Heap}
def sp_law_sums : Sp := spx 1 fun vs H Q _ => ∃ (v : V) (es : Ents) (pool : List Str), vs = [v] ∧ REnts H v es ∧ (∀ e ∈ es, e.2.2.Nodup ∧ ∀ t ∈ e.2.2, t ∈ pool) ∧ pool.length ≤ 60 ∧
  ∀ (d : Addr) us H', Same H H' → H d = none → H' d = some (.dK (dct V.int us)) → SmOk es pool us → Q (.ref d) H'
theorem sc_law_sums : FnScope ["_law_entries", "_law_sums_here", "_law_weight_here", "_law_text_here", "_law_accused_here", "_law_other"] ["_law_entries"] (defScope s_law_sums) := ⟨rfl, rfl, rfl, by decide +kernel, rfl, by decide +kernel, by decide +kernel⟩
theorem c_law_sums (T : Tx K mg)  : Cal P w K mg base 1 "_law_sums" ["_law_entries"] sp_law_sums := by
  refine T.cal 70 rfl 42 rfl sc_law_sums (fun _ _ _ _ h => h.1) (fun _ _ _ _ _ _ us hl => match us, hl with | [_], _ => rfl) (fun cdv A outer s H vs Q E hr h => ?_)
  have nd := sc_law_sums.nd
  have hu := hu_of hr
  refine ⟨_, (pss_cons (ps_set (i := 1) nd rfl (Or.inl rfl) pe_dnewK)
      (pss_cons (ps_for PassesOwn.never rfl (pi_list (pv 0)) (pg_tupK (K := K) 3 rfl (pgs_cons (pg_name (i := 2) nd rfl (Or.inl rfl)) (pgs_cons (pg_name (i := 3) nd rfl (Or.inl rfl)) (pgs_cons (pg_name (i := 4) nd rfl (Or.inl rfl)) pgs_nil)))) (pss_one (ps_for PassesOwn.never rfl (pi_list (pv 4)) (pg_name (i := 5) nd rfl (Or.inl rfl)) (pss_one (ps_dput hu (pv 1) (pv 5) (pe_op op_add (pe_dget2 hu (pv 1) (pv 5) pe_int ⟨rfl, rfl, rfl, rfl⟩) (pv 2)) rfl)))))
      (pss_one (ps_ret (pv 1))))), ?_⟩
  obtain ⟨_, v, es, pool, rfl, ⟨p, vs, rfl, hp, hw⟩, hes, few, k⟩ := h
  intro D hD
  have npD : p ≠ D := ne_of_none hp hD
  refine ⟨_, rfl, p, rfl, ⟨_, SqL.of (by rw [upd_ne npD]; exact hp)⟩, for_list (K := K) (xs := vs) (fun i σ H' => ∃ us u2 u3 u4 u5, σ = [some (.ref p), some (.ref D), u2, u3, u4, u5] ∧ Same H H' ∧ H' D = some (.dK (dct V.int us)) ∧ SmOk (es.take i) pool us)
    ⟨[], none, none, none, none, rfl, same_new hD, upd_same, List.nodup_nil, (fun t => rfl), fun _ h => absurd h List.not_mem_nil⟩ (fun i σ H' _ ⟨_, _, _, _, _, _, e, _⟩ => SqL.of (e _ _ hp)) ?_ ?_⟩
  · rintro i x σ H' hi ⟨us, u2, u3, u4, u5, rfl, e, hd, ok⟩
    obtain ⟨⟨n, t, ac⟩, hr, ⟨q, y1, y2, y3, rfl, hq, rfl, rfl, hz⟩⟩ := paired_get hw hi
    obtain ⟨b, rfl, hb⟩ := hz.strs
    obtain ⟨and, asub⟩ := hes _ (List.mem_of_getElem? hr)
    have hb' := e _ _ hb
    refine ⟨q, _, rfl, SqT.of (e _ _ hq), rfl, _, _, rfl, _, _, rfl, _, _, rfl, rfl, _, rfl, b, rfl, ⟨_, SqL.of hb'⟩, for_list (K := K) (xs := ac.map V.str) (fun j σ H2 => ∃ us u5, σ = [some (.ref p), some (.ref D), some (.int n), some (.str t), some (.ref b), u5] ∧ Same H H2 ∧ H2 D = some (.dK (dct V.int us)) ∧ (us.map (·.1)).Nodup ∧ (∀ t, wof us t = acs (es.take i) t + if t ∈ ac.take j then n else 0) ∧ ∀ t ∈ us.map (·.1), t ∈ pool)
      ⟨us, u5, rfl, e, hd, ok.nd, (fun t => by rw [ok.val]; simp), ok.sub⟩ (fun j σ H2 _ ⟨_, _, _, e, _⟩ => SqL.of (e _ _ hb)) ?_ ?_⟩
    · rintro j y σ H2 hj ⟨us2, u6, rfl, e2, hd2, nd2, val2, sub2⟩
      obtain ⟨o, ho, rfl⟩ := map_some hj
      have l2 := sub_len nd2 sub2
      rw [List.length_map] at l2
      refine ⟨_, rfl, D, rfl, IsD.of hd2, _, rfl, _, dget_opt hd2, ?_⟩
      have hv := val_wof (t := o) (List.Perm.refl us2) nd2
      rw [hv]
      refine ⟨_, rfl, _, _, rfl, rfl, _, rfl, _, rfl, D, _, rfl, dput_at (f := V.int) hd2 nd2 (by omega), dput us2 o (wof us2 o + n), _, rfl, same_mut e2 hD, upd_same, dput_nodup nd2, fun s => ?_, fun s hs => ?_⟩
      · rw [wof_dput, take_more ho]
        by_cases c : s = o
        · subst c
          have nin : s ∉ ac.take j := fun m => by
            have hx : ac.Nodup := and
            rw [← List.take_append_drop (j + 1) ac, take_more ho, List.nodup_append, List.nodup_append] at hx
            exact hx.1.2.2 s m s (List.mem_singleton.mpr rfl) rfl
          rw [if_pos rfl, val2, if_neg nin, if_pos (List.mem_append_right _ (List.mem_singleton.mpr rfl))]; omega
        · rw [if_neg c, val2]
          have : s ∈ ac.take j ++ [o] ↔ s ∈ ac.take j := by simp [c]
          simp only [this]
      · rw [dput_keys] at hs
        split at hs
        · exact sub2 s hs
        · rcases List.mem_append.mp hs with h | h
          · exact sub2 s h
          · rw [List.mem_singleton] at h; rw [h]; exact asub o (List.mem_of_getElem? ho)
    · rintro σ H2 ⟨us2, u6, rfl, e2, hd2, nd2, val2, sub2⟩
      refine ⟨us2, _, _, _, _, rfl, e2, hd2, nd2, fun s => ?_, sub2⟩
      rw [val2, List.length_map, List.take_length, take_more hr, acs_app]
      show _ = _ + ((if s ∈ ac then n else 0) + 0)
      omega
  · rintro σ H' ⟨us, u2, u3, u4, u5, rfl, e, hd, ok⟩
    rw [paired_len hw, List.take_length] at ok
    exact ⟨_, rfl, k D us H' e hD hd ok⟩
theorem upd_back {H : Hp} {d : Addr} {o x : HO} (h : H d = some o) : upd (upd H d x) d o = H := by
  funext b
  by_cases e : b = d
  · rw [e, upd_same, h]
  · rw [upd_ne e, upd_ne e]
/-- a level that no accused text's share is above -/
structure LvOk (us : Ws) (total p q : Int) : Prop where
  p1 : 1 ≤ p
  q1 : 1 ≤ q
  pb : p ≤ 10 ^ 18
  qb : q ≤ 10 ^ 18
  holds : ∀ t, wof us t * q ≤ p * total
def sp_law_level : Sp := spx 3 fun vs H Q _ => ∃ (a l d : Addr) (us : Ws) (total : Int), vs = [.ref a, .ref d, .int total] ∧ StOk a l H ∧ d ≠ a ∧ d ≠ l ∧ H d = some (.dK (dct V.int us)) ∧ (us.map (·.1)).Nodup ∧ (∀ x ∈ us, 0 ≤ x.2 ∧ x.2 ≤ total) ∧ us.length ≤ 60 ∧ 1 ≤ total ∧ total ≤ 10 ^ 16 ∧
  ∀ (o : Addr) p q H', StStep a l H H' → H o = none → H' o = some (.lst [.int p, .int q]) → LvOk us total p q → Q (.ref o) H'
theorem sc_law_level : FnScope ["_law_state", "_law_sums_here", "_law_total", "_law_most", "_law_text_here", "_law_kind"] ["_law_state", "_law_sums_here", "_law_total"] (defScope s_law_level) := ⟨rfl, rfl, rfl, by decide +kernel, rfl, by decide +kernel, by decide +kernel⟩
theorem c_law_level (T : Tx K mg) (G_law_draw : Cal P w K mg base 1 "_law_draw" ["_law_state", "_law_limit"] sp_law_draw) : Cal P w K mg base 2 "_law_level" ["_law_state", "_law_sums_here", "_law_total"] sp_law_level := by
  refine T.cal 73 rfl 45 rfl sc_law_level (fun _ _ _ _ h => h.1) (fun _ _ _ _ _ _ us hl => match us, hl with | [_, _, _], _ => rfl) (fun cdv A outer s H vs Q E hr h => ?_)
  have nd := sc_law_level.nd
  have hu := hu_of hr
  refine ⟨_, (pss_cons (ps_set (i := 3) nd rfl (Or.inl rfl) pe_int)
      (pss_cons (ps_lock (ps_for PassesOwn.never rfl (pi_keys (pv 1)) (pg_name (i := 4) nd rfl (Or.inl rfl)) (pss_one (ps_set (i := 3) nd rfl (Or.inl rfl) (pe_callB (call_max2 rfl) (by rfl) T.f_max (by decide +kernel) (pa_cons (pv 3) (pa_cons (pe_dget hu (pv 1) (pv 4) (fun _ _ => rfl)) pa_nil)))))))
      (pss_cons (ps_set (i := 5) nd rfl (Or.inl rfl) (pe_cal G_law_draw (hr.mono (by decide)) (pa_cons (pv 0) (pa_cons pe_int pa_nil))))
      (pss_cons (ps_if (pt_cmpR op_eq (pv 5) pe_int (nomark _)) (pss_one (ps_ret (pe_lst (pa_cons (pe_op op_add (pv 2) (pe_cal G_law_draw (hr.mono (by decide)) (pa_cons (pv 0) (pa_cons pe_int pa_nil)))) (pa_cons (pv 2) pa_nil))))) pss_nil)
      (pss_cons (ps_if (pt_cmpR op_eq (pv 3) pe_int (nomark _)) (pss_one (ps_ret (pe_lst (pa_cons (pe_op op_add pe_int (pe_cal G_law_draw (hr.mono (by decide)) (pa_cons (pv 0) (pa_cons pe_int pa_nil)))) (pa_cons pe_int pa_nil))))) pss_nil)
      (pss_cons (ps_if (pt_cmpR op_eq (pv 5) pe_int (nomark _)) (pss_one (ps_ret (pe_lst (pa_cons (pe_op op_add (pv 3) (pe_cal G_law_draw (hr.mono (by decide)) (pa_cons (pv 0) (pa_cons pe_int pa_nil)))) (pa_cons (pv 2) pa_nil))))) pss_nil)
      (pss_one (ps_ret (pe_lst (pa_cons (pe_op op_mulW (pv 3) pe_int) (pa_cons (pe_op op_mulW (pv 2) pe_int) pa_nil))))))))))), ?_⟩
  obtain ⟨_, a, l, d, us, total, rfl, hS, nda, ndl, hd, nd1, hx, few, t1, t2, k⟩ := h
  refine ⟨d, _, hd, trivial, fun od => ?_⟩
  have wle : ∀ t, 0 ≤ wof us t ∧ wof us t ≤ total ∧ ∀ m, 0 ≤ m → (∀ x ∈ us, x.2 ≤ m) → wof us t ≤ m := fun t => by
    by_cases m : t ∈ us.map (·.1)
    · obtain ⟨⟨s, n⟩, hm, e⟩ := List.mem_map.mp m
      cases e
      rw [wof_some nd1 hm]
      exact ⟨(hx _ hm).1, (hx _ hm).2, fun m _ h => h _ hm⟩
    · rw [wof_none m]
      exact ⟨Int.le_refl _, by omega, fun m h _ => h⟩
  have fr0 : ∀ {T : Addr} {H' : Hp}, StStep a l H H' → H' T = none → H T = none := fun s' hT => freeS s'.1 (s'.2.fresh hT).1 hT
  refine ⟨_, rfl, d, od, rfl, .inl ⟨_, upd_same, for_it walk_keys (fun i σ H' => ∃ (most : Int) (u4 : Option V), σ = [some (.ref a), some (.ref d), some (.int total), some (.int most), u4, none] ∧ H' = upd H d (.frz od (.dK (dct V.int us))) ∧ 0 ≤ most ∧ most ≤ total ∧ ∀ x ∈ us.take i, x.2 ≤ most)
    ⟨0, none, rfl, rfl, Int.le_refl _, by omega, fun _ h => absurd h List.not_mem_nil⟩ (fun i σ H' _ ⟨_, _, _, e, _⟩ => by rw [e]; exact upd_same) ?_ ?_⟩⟩
  · rintro i x σ H1 H2 hi ⟨most, u4, rfl, rfl, m0, m1, hm⟩ ⟨rfl, kk, v, hk, rfl⟩
    obtain ⟨⟨t, n⟩, ht, e⟩ := map_some hk
    cases e
    have mem := List.mem_of_getElem? ht
    refine ⟨_, rfl, _, rfl, _, rfl, d, .int n, rfl, .inl ⟨dct V.int us, kT t, .inr ⟨od, upd_same⟩, rfl, (dct_some (f := V.int) nd1 mem).symm⟩, _, _, rfl, ?_⟩
    obtain ⟨n0, n1⟩ := hx _ mem
    have n0 : 0 ≤ n := n0
    have n1 : n ≤ total := n1
    refine ⟨if n > most then n else most, _, rfl, rfl, by split <;> omega, by split <;> omega, fun y hy => ?_⟩
    rw [take_more ht] at hy
    rcases List.mem_append.mp hy with h | h
    · have := hm y h; split <;> omega
    · rw [List.mem_singleton] at h; rw [h]; show n ≤ _; split <;> omega
  · rintro σ H1 ⟨most, u4, rfl, rfl, m0, m1, hm⟩
    rw [dct_len, List.take_length] at hm
    refine ⟨upd_same, ?_⟩
    rw [upd_back hd]
    have wm := fun t => (wle t).2.2 most m0 hm
    have fin : ∀ (H1 : Hp) (p q : Int), StStep a l H H1 → LvOk us total p q → ∀ o, H1 o = none → Q (.ref o) (upd H1 o (.lst [.int p, .int q])) := fun H1 p q s1 ok o ho =>
      k o p q _ (s1.more (same_new ho)) (fr0 s1 ho) upd_same ok
    refine ⟨_, rfl, rfl, a, l, _, rfl, hS, by decide, fun r H1 r0 r1 s1 => ⟨_, rfl, rfl, _, rfl, ?_⟩⟩
    refine ite2 (fun _ => ?_) (fun _ => ?_)
    · refine ⟨_, rfl, _, rfl, rfl, a, l, _, rfl, s1.2, by decide, fun δ H2 d0 d1 s2 => ⟨_, _, rfl, rfl, _, rfl, by show 2 ≤ sizeLine; decide, fun o ho => ?_⟩⟩
      refine fin H2 (total + δ) total (s1.trans s2) ⟨by omega, t1, by omega, by omega, fun t => ?_⟩ o ho
      exact Int.mul_le_mul_of_nonneg_right (by have := (wle t).2.1; omega) (by omega)
    refine ⟨_, rfl, rfl, _, rfl, ?_⟩
    refine ite2 (fun c => ?_) (fun c => ?_)
    · have z : most = 0 := by have := of_decide_eq_true c; injection this
      refine ⟨_, rfl, rfl, a, l, _, rfl, s1.2, by decide, fun δ H2 d0 d1 s2 => ⟨_, _, rfl, rfl, by show 2 ≤ sizeLine; decide, fun o ho => ?_⟩⟩
      refine fin H2 (1 + δ) 12 (s1.trans s2) ⟨by omega, by decide, by omega, by decide, fun t => ?_⟩ o ho
      have h1 := wm t
      have h2 : 0 ≤ (1 + δ) * total := Int.mul_nonneg (by omega) (by omega)
      omega
    have mpos : 1 ≤ most := by
      have : most ≠ 0 := fun z => c (decide_eq_true (congrArg V.int z))
      omega
    refine ⟨_, rfl, rfl, _, rfl, ?_⟩
    refine ite2 (fun _ => ?_) (fun _ => ?_)
    · refine ⟨_, rfl, _, rfl, rfl, a, l, _, rfl, s1.2, by decide, fun δ H2 d0 d1 s2 => ⟨_, _, rfl, rfl, _, rfl, by show 2 ≤ sizeLine; decide, fun o ho => ?_⟩⟩
      refine fin H2 (most + δ) total (s1.trans s2) ⟨by omega, t1, by omega, by omega, fun t => ?_⟩ o ho
      exact Int.mul_le_mul_of_nonneg_right (by have := wm t; omega) (by omega)
    · refine ⟨_, rfl, _, _, rfl, rfl, wmul (a := 60) (b := 10) (by unfold Bd; omega) (by decide) (by decide), _, rfl, _, _, rfl, rfl, wmul (a := 60) (b := 10) (by unfold Bd; omega) (by decide) (by decide), by show 2 ≤ sizeLine; decide, fun o ho => ?_⟩
      refine fin H1 (most * 2) (total * 2) s1 ⟨by omega, by omega, by omega, by omega, fun t => ?_⟩ o ho
      have h1 := Int.mul_le_mul_of_nonneg_right (wm t) (show 0 ≤ total by omega)
      have e1 : wof us t * (total * 2) = wof us t * total * 2 := by grind
      have e2 : most * 2 * total = most * total * 2 := by grind
      rw [e1, e2]; omega
end
end MH
/-! part D13 -/
set_option Elab.async false
set_option linter.all false
set_option maxRecDepth 100000
set_option maxHeartbeats 4000000
namespace MH
open PySem PySem.Spec PyProof.Rows L2
/-- one of the kept rows -/
def KRow (H : Hp) : Str × V → Str × List Str → Prop := fun x r => x.1 = r.1 ∧ RTup RStr H x.2 r.2
def ChAt (K : Fr) (H : Hp) (p : Addr) (rows : Rows) : Prop := ∃ dx d us, H p = some (.ins (He.ga K "Changes") dx [("kept", .ref d)]) ∧ H d = some (.dK (dct id us)) ∧ Paired (KRow H) us rows
/-- changes: a text, its readable ones, each -/
def RChg (K : Fr) : Rl Rows := fun H v rows => ∃ p, v = .ref p ∧ ChAt K H p rows
theorem KRow.up {H H' : Hp} (e : Same H H') {x : Str × V} {r : Str × List Str} (h : KRow H x r) : KRow H' x r := ⟨h.1, Mo.up e h.2⟩
theorem krow_keys {H : Hp} {us : List (Str × V)} {rows : Rows} (h : Paired (KRow H) us rows) : us.map (·.1) = rows.map (·.1) := by
  induction h with
  | nil => rfl
  | cons r _ ih => rw [List.map_cons, List.map_cons, ih, r.1]
instance (K : Fr) : Mo (RChg K) := ⟨fun e ⟨p, h, dx, d, us, h1, h2, h3⟩ => ⟨p, h, dx, d, us, e _ _ h1, e _ _ h2, paired_up h3 fun _ _ => KRow.up e⟩⟩
section
variable {P : Program} {w : World} {K : Fr} {mg : Str → Option Value} {base : Heap}
def sp_Changes___init (K : Fr) : Sp := spx 2 fun vs H Q _ => ∃ (x dx : Addr) (v : V) (rows : Rows) (pool : List Str), vs = [.ref x, v] ∧ H x = some (.ins (He.ga K "Changes") dx []) ∧ RRows (hid x H) v rows ∧ (rows.map (·.1)).Nodup ∧ (∀ r ∈ rows, RowOk pool r) ∧ rows.length ≤ 60 ∧
  ∀ H', Same (hid x H) (hid x H') → (∃ d us, H d = none ∧ H' x = some (.ins (He.ga K "Changes") dx [("kept", .ref d)]) ∧ H' d = some (.dK (dct id us)) ∧ Paired (KRow (hid d (fr H H'))) us rows) → Q .non H'
theorem sc_Changes___init : FnScope ["self", "rows", "kept", "at", "text", "readable"] ["self", "rows"] (defScope s_Changes___init) := ⟨rfl, rfl, rfl, by decide +kernel, rfl, by decide +kernel, by decide +kernel⟩
theorem c_Changes___init (T : Tx K mg)  : Mak P w K mg base 1 "Changes" (He.ga K "Changes") ["self", "rows"] (sp_Changes___init K) := by
  refine T.mak 0 rfl 50 rfl 52 rfl sc_Changes___init (fun _ _ _ _ h => h.1) (fun _ _ _ _ _ _ us hl => match us, hl with | [_, _], _ => rfl) (fun cdv A outer s H vs Q E hr h => ?_)
  have nd := sc_Changes___init.nd
  have hu := hu_of hr
  refine ⟨_, (pss_cons (ps_set (i := 2) nd rfl (Or.inl rfl) pe_dnewK)
      (pss_cons (ps_for PassesOwn.never rfl (pi_enumK (by rfl) T.f_enumerate (pa_cons (pv 1) pa_nil)) (pg_tupK (K := K) 2 rfl (pgs_cons (pg_name (i := 3) nd rfl (Or.inl rfl)) (pgs_cons (pg_tupK (K := K) 2 rfl (pgs_cons (pg_name (i := 4) nd rfl (Or.inl rfl)) (pgs_cons (pg_name (i := 5) nd rfl (Or.inl rfl)) pgs_nil))) pgs_nil))) (pss_cons (ps_if (pt_cmp (pc_din hu (pv 4) (pv 2))) (pss_one ps_never) pss_nil)
      (pss_one (ps_dput hu (pv 2) (pv 4) (pe_callTy call_tuple_of (by rfl) T.f_tuple (by decide +kernel) (pa_cons (pe_callB (cr_sortedX rfl) (by rfl) T.f_sorted (by decide +kernel) (pa_cons (pe_callTy (cr_setX rfl) (by rfl) T.f_set (by decide +kernel) (pa_cons (pe_op op_cat (pe_lst (pa_cons (pv 4) pa_nil)) (pe_callTy call_list_of (by rfl) T.f_list (by decide +kernel) (pa_cons (pv 5) pa_nil))) pa_nil)) pa_nil)) pa_nil)) rfl))))
      (pss_one (ps_fld (pv 0) (pv 2) rfl)))), ?_⟩
  obtain ⟨_, x, dx, v, rows, pool, rfl, hx, ⟨a, vs, rfl, ha, hp⟩, nd0, hok, few, k⟩ := h
  obtain ⟨nax, ha⟩ := hid_some ha
  intro d hd
  have ndx : d ≠ x := (ne_of_none hx hd).symm
  have nda : d ≠ a := (ne_of_none ha hd).symm
  refine ⟨_, rfl, .l a, vs, rfl, SqL.of (by rw [upd_ne nda.symm]; exact ha), for_enumK (xs := vs) (fun i σ H' => ∃ us u3 u4 u5, σ = [some (.ref x), some (.ref a), some (.ref d), u3, u4, u5] ∧ Same (hid x H) (hid x H') ∧ H' x = some (.ins (He.ga K "Changes") dx []) ∧ H' d = some (.dK (dct id us)) ∧ Paired (KRow (hid d (fr H H'))) us (rows.take i)) ⟨[], none, none, none, rfl, same_hid_up (same_new hd), by rw [upd_ne ndx.symm]; exact hx, upd_same, .nil⟩ ?_ ?_ ?_⟩
  · rintro i σ H' ⟨_, _, _, _, _, g, _⟩
    exact SqL.of (keepS g nax ha)
  · rintro i v T σ H1 hi ⟨us, u3, u4, u5, rfl, g, hx1, hd1, hr⟩ hT
    obtain ⟨⟨t, rd⟩, hu1, ⟨pa, _, z, rfl, hpa, rfl, hz⟩⟩ := paired_get hp hi
    obtain ⟨b, rfl, hb⟩ := hz.strs
    obtain ⟨npx, hpa⟩ := hid_some hpa
    obtain ⟨nbx, hb⟩ := hid_some hb
    have hpa1 := keepS g npx hpa
    have hb1 := keepS g nbx hb
    have ok := hok _ (List.mem_of_getElem? hu1)
    refine ⟨T, _, rfl, SqT.of upd_same, rfl, _, _, rfl, _, _, rfl, pa, _, rfl, SqT.of (by rw [upd_ne (ne_of_none hpa1 hT)]; exact hpa1), rfl, _, _, rfl, _, _, rfl, rfl, rfl, ?_⟩
    generalize hH2 : upd H1 T (.tup [.int (i : Nat), V.ref pa]) = H2
    have e2 : Same H1 H2 := by rw [← hH2]; exact same_new hT
    have keys := krow_keys hr
    have nt : t ∉ us.map (·.1) := by
      rw [keys]
      intro m
      have hx : (rows.map (·.1)).Nodup := nd0
      rw [← List.take_append_drop (i + 1) rows, take_more hu1, List.map_append, List.map_append, List.nodup_append, List.nodup_append] at hx
      exact hx.1.2.2 t m t (List.mem_singleton.mpr rfl) rfl
    have ndu : (us.map (·.1)).Nodup := by
      rw [keys]
      have hx : (rows.map (·.1)).Nodup := nd0
      rw [← List.take_append_drop i rows, List.map_append, List.nodup_append] at hx
      exact hx.1
    have ul : us.length ≤ 60 := by rw [paired_len hr, List.length_take]; omega
    refine ⟨_, rfl, _, rfl, d, none, rfl, dget_none (f := id) (e2 _ _ hd1) nt, _, rfl, iteF ?_⟩
    refine ⟨_, rfl, by show 1 ≤ sizeLine; decide, fun A1 hA1 => ?_⟩
    refine ⟨_, rfl, b, _, rfl, .inl (SqL.of (same_new hA1 _ _ (e2 _ _ hb1))), fun A2 hA2 => ?_⟩
    have n12 : A1 ≠ A2 := fun z => by rw [← z, upd_same] at hA2; cases hA2
    have rl : rd.length ≤ 8 := ok.few
    refine ⟨A1, A2, [.str t], rd.map V.str, rfl, rfl, by rw [upd_ne n12, upd_same], upd_same, by rw [List.length_map, sizeLine_eq]; show 1 + _ ≤ _; omega, fun A3 hA3 => ?_⟩
    refine ⟨A3, t :: rd, rfl, SqL.of upd_same, by show rd.length + 1 < 64; omega, fun A4 hA4 => ⟨A4, t :: rd, rfl, upd_same, by show rd.length + 1 < 64; omega, fun ys A5 so mem hA5 => ⟨A5, ys.map V.str, rfl, .inl ⟨SqL.of upd_same, fun A6 hA6 => ?_⟩⟩⟩⟩
    have ye : ys = rd := so.uniq ok.st fun s => by
      rw [mem, List.mem_cons]
      exact ⟨fun h => h.elim (fun e => by rw [e]; exact ok.own) id, .inr⟩
    subst ye
    have e6 : Same H2 (upd (upd (upd (upd (upd (upd H2 A1 (.lst [.str t])) A2 (.lst (ys.map V.str))) A3 (.lst ([.str t] ++ ys.map V.str))) A4 (SetXO P w A4 (t :: ys))) A5 (.lst (ys.map V.str))) A6 (.tup (ys.map V.str))) :=
      ((((same_new hA1).trans (same_new hA2)).trans (same_new hA3)).trans (same_new hA4)).trans ((same_new hA5).trans (same_new hA6))
    have a6 : H A6 = none := by
      have h2 : H2 A6 = none := (((((same_new hA1).trans (same_new hA2)).trans (same_new hA3)).trans (same_new hA4)).trans (same_new hA5)).free hA6
      have h1 := e2.free h2
      exact freeS g (fun z => by rw [z, hx1] at h1; cases h1) h1
    have nd6 : A6 ≠ d := fun z => by
      have h2 : H2 A6 = none := (((((same_new hA1).trans (same_new hA2)).trans (same_new hA3)).trans (same_new hA4)).trans (same_new hA5)).free hA6
      rw [z, e2 _ _ hd1] at h2; cases h2
    have e16 := e2.trans e6
    refine ⟨_, rfl, _, rfl, d, _, rfl, dput_at (f := id) (e16 _ _ hd1) ndu (by omega), dput us t (.ref A6), _, _, _, rfl, sameS_mut (g.trans (same_hid_up e16)) hd ndx, ?_, upd_same, ?_⟩
    · rw [upd_ne ndx.symm]; exact e16 _ _ hx1
    · rw [dput_new nt, take_more hu1]
      have vw : Same (hid d (fr H H1)) (hid d (fr H (upd (upd (upd (upd (upd (upd (upd H2 A1 (.lst [.str t])) A2 (.lst (ys.map V.str))) A3 (.lst ([.str t] ++ ys.map V.str))) A4 (SetXO P w A4 (t :: ys))) A5 (.lst (ys.map V.str))) A6 (.tup (ys.map V.str))) d (.dK (dct id (dput us t (.ref A6))))))) := by
        have := nw_mut (D := d) (H0 := H) (H := (upd (upd (upd (upd (upd (upd H2 A1 (.lst [.str t])) A2 (.lst (ys.map V.str))) A3 (.lst ([.str t] ++ ys.map V.str))) A4 (SetXO P w A4 (t :: ys))) A5 (.lst (ys.map V.str))) A6 (.tup (ys.map V.str)))) (o := .dK (dct id (dput us t (.ref A6))))
        unfold nw at this
        rw [this]
        exact same_hid_up (fr_up e16)
      rw [dput_new nt] at vw
      refine paired_app (paired_up hr fun _ _ => KRow.up vw) (.cons ⟨rfl, RTup.of_strs ?_⟩ .nil)
      rw [hid_at nd6, fr_at a6, upd_ne nd6, upd_same]
  · rintro σ H' ⟨us, u3, u4, u5, rfl, g, hx1, hd1, hr⟩
    rw [paired_len hp, List.take_length] at hr
    refine ⟨_, rfl, _, rfl, x, _, dx, _, rfl, hx1, T.cl_Changes, T.n_Changes_kept, by decide, ?_⟩
    refine k _ (by rw [hid_upd]; exact g) ⟨d, us, hd, by rw [upd_same]; rfl, by rw [upd_ne ndx]; exact hd1, paired_up hr fun _ _ => KRow.up (same_hid_up fun b u e => ?_)⟩
    obtain ⟨z1, z2⟩ := fr_some e
    rw [fr_at z1, upd_ne (fun z => by rw [z, hx] at z1; cases z1)]; exact z2
/-- Changes(rows) as its callers see it -/
theorem changes_make {H1 : Hp} {Q : VK} {E : XK} {v : V} {rows : Rows} {pool : List Str} {x dx : Addr} (nx : H1 x = none) (nd : H1 dx = none) (ne : dx ≠ x) (hv : RRows H1 v rows) (n0 : (rows.map (·.1)).Nodup) (ok : ∀ r ∈ rows, RowOk pool r) (l : rows.length ≤ 60)
    (k : ∀ H2, Same H1 H2 → RChg K (fr H1 H2) (.ref x) rows → Q .non H2) :
    sp_Changes___init K (.ref x :: ([v] ++ [])) (upd (upd H1 dx (.own x)) x (.ins (He.ga K "Changes") dx [])) Q E := by
  have e0 : Same H1 (hid x (upd (upd H1 dx (.own x)) x (.ins (He.ga K "Changes") dx []))) := same_to_hid ((same_new nd).trans (same_new (by rw [upd_ne (Ne.symm ne)]; exact nx))) nx
  refine ⟨rfl, x, dx, v, rows, pool, rfl, upd_same, Mo.up e0 hv, n0, ok, l, fun H' g ⟨d, us, hd, h1, h2, h3⟩ => ?_⟩
  have dne : d ≠ x := fun z => by rw [z, upd_same] at hd; cases hd
  have dnx : d ≠ dx := fun z => by rw [z, upd_ne ne, upd_same] at hd; cases hd
  have d0 : H1 d = none := by rw [upd_ne dne, upd_ne dnx] at hd; exact hd
  have e1 : Same H1 H' := (e0.trans g).trans same_hid
  refine k H' e1 ⟨x, rfl, dx, d, us, by rw [fr_at nx]; exact h1, by rw [fr_at d0]; exact h2, paired_up h3 fun _ _ => KRow.up fun b u e => ?_⟩
  obtain ⟨z1, z2⟩ := fr_some (hid_some e).2
  have bx : b ≠ x := fun z => by rw [z, upd_same] at z1; cases z1
  have bdx : b ≠ dx := fun z => by rw [z, upd_ne ne, upd_same] at z1; cases z1
  rw [upd_ne bx, upd_ne bdx] at z1
  rw [fr_at z1]; exact z2
end
end MH
/-! part D14 -/
set_option Elab.async false
set_option linter.all false
set_option maxRecDepth 100000
set_option maxHeartbeats 4000000
namespace MH
open PySem PySem.Spec PyProof.Rows L2
section
variable {P : Program} {w : World} {K : Fr} {mg : Str → Option Value} {base : Heap}
theorem krow_get {H : Hp} : ∀ {us : List (Str × V)} {rows : Rows} {r : Str × List Str}, Paired (KRow H) us rows → r ∈ rows → ∃ v, (r.1, v) ∈ us ∧ RTup RStr H v r.2
  | _, _, _, .nil, h => absurd h List.not_mem_nil
  | _, _, r, .cons (b := b) k t, h => by
    rename_i a _ _
    rcases List.mem_cons.mp h with e | e
    · exact ⟨a.2, by rw [e, ← k.1]; exact List.mem_cons_self, by rw [e]; exact k.2⟩
    · obtain ⟨v, h1, h2⟩ := krow_get t e
      exact ⟨v, List.mem_cons_of_mem _ h1, h2⟩
def sp_Changes_of (K : Fr) : Sp := spx 2 fun vs H Q _ => ∃ (p : Addr) (rows : Rows) (r : Str × List Str), vs = [.ref p, .str r.1] ∧ ChAt K H p rows ∧ (rows.map (·.1)).Nodup ∧ r ∈ rows ∧ ∀ v, RTup RStr H v r.2 → Q v H
theorem sc_Changes_of : FnScope ["self", "text"] ["self", "text"] (defScope s_Changes_of) := ⟨rfl, rfl, rfl, by decide +kernel, rfl, by decide +kernel, by decide +kernel⟩
theorem c_Changes_of (T : Tx K mg)  : Met P w K mg base 1 (He.ga K "Changes") "of" ["self", "text"] (sp_Changes_of K) := by
  refine T.met 2 rfl 51 rfl 96 rfl sc_Changes_of (fun _ _ _ _ h => h.1) (fun _ _ _ _ _ _ us hl => match us, hl with | [_, _], _ => rfl) (fun cdv A outer s H vs Q E hr h => ?_)
  have nd := sc_Changes_of.nd
  have hu := hu_of hr
  refine ⟨_, (pss_cons (ps_if (pt_cmp (pc_dnotin hu (pv 1) (pe_fldK (K := K) (pv 0) rfl))) (pss_one ps_never) pss_nil)
      (pss_one (ps_ret (pe_dget hu (pe_fldK (K := K) (pv 0) rfl) (pv 1) (fun _ _ => rfl))))), ?_⟩
  obtain ⟨_, p, rows, r, rfl, ⟨dx, d, us, h1, h2, h3⟩, nd1, hr, k⟩ := h
  obtain ⟨v, hm, hv⟩ := krow_get h3 hr
  have ndu : (us.map (·.1)).Nodup := by rw [krow_keys h3]; exact nd1
  have g := dget_some (f := id) h2 ndu hm
  refine ⟨_, rfl, _, rfl, p, _, dx, _, _, rfl, h1, T.cl_Changes, T.n_Changes_kept, lk_eq, d, _, rfl, g, _, rfl, iteF ?_⟩
  exact ⟨_, rfl, p, _, dx, _, _, rfl, h1, T.cl_Changes, T.n_Changes_kept, lk_eq, _, rfl, d, _, rfl, g, k v hv⟩
def sp_Changes_texts (K : Fr) : Sp := spx 1 fun vs H Q _ => ∃ (p : Addr) (rows : Rows), vs = [.ref p] ∧ ChAt K H p rows ∧ (rows.map (·.1)).Nodup ∧ rows.length ≤ 60 ∧ ∀ v ys H', Same H H' → RTup RStr (fr H H') v ys → (∀ t, t ∈ ys ↔ t ∈ rows.map (·.1)) → Q v H'
theorem sc_Changes_texts : FnScope ["self"] ["self"] (defScope s_Changes_texts) := ⟨rfl, rfl, rfl, by decide +kernel, rfl, by decide +kernel, by decide +kernel⟩
theorem c_Changes_texts (T : Tx K mg)  : Met P w K mg base 1 (He.ga K "Changes") "texts" ["self"] (sp_Changes_texts K) := by
  refine T.met 1 rfl 51 rfl 95 rfl sc_Changes_texts (fun _ _ _ _ h => h.1) (fun _ _ _ _ _ _ us hl => match us, hl with | [_], _ => rfl) (fun cdv A outer s H vs Q E hr h => ?_)
  have nd := sc_Changes_texts.nd
  have hu := hu_of hr
  refine ⟨_, (pss_one (ps_ret (pe_callTy call_tuple_of (by rfl) T.f_tuple (by decide +kernel) (pa_cons (pe_callB (call_sortedD rfl) (by rfl) T.f_sorted (by decide +kernel) (pa_cons (pe_fldK (K := K) (pv 0) rfl) pa_nil)) pa_nil)))), ?_⟩
  obtain ⟨_, p, rows, rfl, ⟨dx, d, us, h1, h2, h3⟩, nd1, few, k⟩ := h
  have keys := krow_keys h3
  have ul := paired_len h3
  refine ⟨_, rfl, p, _, dx, _, _, rfl, h1, T.cl_Changes, T.n_Changes_kept, lk_eq, d, _, us.map (·.1), rfl, .inl h2, dct_keys us, by rw [List.length_map]; omega, fun ys q pm so hq => ?_⟩
  refine ⟨q, _, rfl, .inl ⟨SqL.of upd_same, fun r hr => ?_⟩⟩
  have nqr : q ≠ r := fun z => by rw [← z, upd_same] at hr; cases hr
  have r0 : H r = none := by rw [upd_ne nqr.symm] at hr; exact hr
  refine k _ ys _ ((same_new hq).trans (same_new hr)) (RTup.of_strs ?_) fun t => by rw [pm.mem_iff, keys]
  rw [fr_at r0, upd_same]
def sp_Changes_readable (K : Fr) : Sp := spx 1 fun vs H Q _ => ∃ (p : Addr) (rows : Rows) (pool : List Str), vs = [.ref p] ∧ ChAt K H p rows ∧ (∀ r ∈ rows, ∀ t ∈ r.2, t ∈ pool) ∧ pool.length < 60 ∧ ∀ v ys H', Same H H' → RTup RStr (fr H H') v ys → AllOf rows ys → Q v H'
theorem sc_Changes_readable : FnScope ["self", "found", "texts", "text"] ["self"] (defScope s_Changes_readable) := ⟨rfl, rfl, rfl, by decide +kernel, rfl, by decide +kernel, by decide +kernel⟩
theorem c_Changes_readable (T : Tx K mg)  : Met P w K mg base 1 (He.ga K "Changes") "readable" ["self"] (sp_Changes_readable K) := by
  refine T.met 3 rfl 51 rfl 97 rfl sc_Changes_readable (fun _ _ _ _ h => h.1) (fun _ _ _ _ _ _ us hl => match us, hl with | [_], _ => rfl) (fun cdv A outer s H vs Q E hr h => ?_)
  have nd := sc_Changes_readable.nd
  have hu := hu_of hr
  refine ⟨_, (pss_cons (ps_set (i := 1) nd rfl (Or.inl rfl) pe_dnewK)
      (pss_cons (ps_lock (ps_for PassesOwn.never rfl (pi_values (pe_fldK (K := K) (pv 0) rfl)) (pg_name (i := 2) nd rfl (Or.inl rfl)) (pss_one (ps_for PassesOwn.never rfl (pi_tup (pv 2)) (pg_name (i := 3) nd rfl (Or.inl rfl)) (pss_one (ps_dput hu (pv 1) (pv 3) pe_bl rfl))))))
      (pss_one (ps_ret (pe_callTy call_tuple_of (by rfl) T.f_tuple (by decide +kernel) (pa_cons (pe_callB (call_sortedD rfl) (by rfl) T.f_sorted (by decide +kernel) (pa_cons (pv 1) pa_nil)) pa_nil)))))), ?_⟩
  obtain ⟨_, p, rows, pool, rfl, ⟨dx, d, us, h1, h2, h3⟩, sub, few, k⟩ := h
  intro D hD
  have ndD : d ≠ D := ne_of_none h2 hD
  have npD : p ≠ D := ne_of_none h1 hD
  have npd : p ≠ d := fun z => by rw [z, h2] at h1; cases h1
  refine ⟨d, .dK (dct id us), by rw [upd_ne ndD]; exact h2, trivial, fun od => ?_⟩
  -- all but D, d locked
  have hSD : ∀ {o : HO}, (upd H d o) D = none := fun {o} => by rw [upd_ne ndD.symm]; exact hD
  have hp0 : (upd H d (.frz od (.dK (dct id us)))) p = some (.ins (He.ga K "Changes") dx [("kept", .ref d)]) := by rw [upd_ne npd]; exact h1
  have hl0 : Same (upd H d (.frz od (.dK (dct id us)))) (upd (upd H D (.dK [])) d (.frz od (.dK (dct id us)))) := fun b o e => by
    by_cases z : b = d
    · rw [z, upd_same] at e ⊢; exact e
    · rw [upd_ne z] at e ⊢
      rw [upd_ne (fun q => by rw [q, hD] at e; cases e)]; exact e
  refine ⟨_, rfl, p, _, dx, _, _, rfl, hl0 _ _ hp0, T.cl_Changes, T.n_Changes_kept, lk_eq, d, od, _, rfl, upd_same, for_it walk_values (fun i σ H' => ∃ fs u2 u3, σ = [some (.ref p), some (.ref D), u2, u3] ∧ Same (upd H d (.frz od (.dK (dct id us)))) H' ∧ H' D = some (.dK (dct V.bl fs)) ∧ (fs.map (·.1)).Nodup ∧ ∀ t, t ∈ fs.map (·.1) ↔ ∃ r ∈ rows.take i, t ∈ r.2)
    ⟨[], none, none, rfl, hl0, by rw [upd_ne ndD.symm, upd_same]; rfl, List.nodup_nil, fun t => by simp⟩ (fun i σ H' _ ⟨_, _, _, _, e, _⟩ => e _ _ upd_same) ?_ ?_⟩
  · rintro i x σ H1 H2 hi ⟨fs, u2, u3, rfl, e, hd, ndf, mem⟩ ⟨rfl, kk, hk⟩
    obtain ⟨y, hy, e3⟩ := map_some hk
    obtain ⟨r, hr, kr⟩ := paired_get h3 hy
    cases e3
    obtain ⟨b, eb, hb⟩ := kr.2.strs
    have nbd : b ≠ d := fun z => by rw [z, h2] at hb; cases hb
    have hb1 : (upd H d (.frz od (.dK (dct id us)))) b = some (.tup (r.2.map V.str)) := by rw [upd_ne nbd]; exact hb
    refine ⟨_, rfl, b, eb, ⟨_, SqT.of (e _ _ hb1)⟩, for_tup (K := K) (xs := r.2.map V.str) (fun j σ H3 => ∃ fs u3, σ = [some (.ref p), some (.ref D), some y.2, u3] ∧ Same (upd H d (.frz od (.dK (dct id us)))) H3 ∧ H3 D = some (.dK (dct V.bl fs)) ∧ (fs.map (·.1)).Nodup ∧ ∀ t, t ∈ fs.map (·.1) ↔ (∃ r ∈ rows.take i, t ∈ r.2) ∨ t ∈ r.2.take j)
      ⟨fs, u3, rfl, e, hd, ndf, fun t => by rw [mem]; simp⟩ (fun j σ H3 _ ⟨_, _, _, e, _⟩ => SqT.of (e _ _ hb1)) ?_ ?_⟩
    · rintro j z σ H3 hj ⟨fs2, u5, rfl, e2, hd2, nd2, mem2⟩
      obtain ⟨o, ho, rfl⟩ := map_some hj
      have l := sub_len nd2 (m := pool) fun t ht => by
        rcases (mem2 t).mp ht with ⟨r', hr', m⟩ | m
        · exact sub r' (List.mem_of_mem_take hr') t m
        · exact sub _ (List.mem_of_getElem? hr) t (List.mem_of_mem_take m)
      rw [List.length_map] at l
      refine ⟨_, rfl, _, rfl, D, _, rfl, dput_at (f := V.bl) (x := true) hd2 nd2 (by omega), dput fs2 o true, _, rfl, same_mut e2 hSD, upd_same, dput_nodup nd2, fun t => ?_⟩
      rw [take_more ho, List.mem_append, List.mem_singleton, dput_keys]
      by_cases c : o ∈ fs2.map (·.1)
      · rw [if_pos c, mem2]
        constructor
        · rintro (h | h); exact .inl h; exact .inr (.inl h)
        · rintro (h | h | h)
          · exact .inl h
          · exact .inr h
          · rw [h]; exact (mem2 o).mp c
      · rw [if_neg c, List.mem_append, List.mem_singleton, mem2, or_assoc]
    · rintro σ H3 ⟨fs2, u5, rfl, e2, hd2, nd2, mem2⟩
      refine ⟨fs2, _, _, rfl, e2, hd2, nd2, fun t => ?_⟩
      rw [mem2, List.length_map, List.take_length, take_more hr]
      constructor
      · rintro (⟨r', h1, h2⟩ | h)
        · exact ⟨r', List.mem_append_left _ h1, h2⟩
        · exact ⟨_, List.mem_append_right _ (List.mem_singleton.mpr rfl), h⟩
      · rintro ⟨r', h1, h2⟩
        rcases List.mem_append.mp h1 with h1 | h1
        · exact .inl ⟨r', h1, h2⟩
        · rw [List.mem_singleton] at h1; rw [h1] at h2; exact .inr h2
  · rintro σ H1 ⟨fs, u2, u3, rfl, e, hd, ndf, mem⟩
    rw [dct_len, paired_len h3, List.take_length] at mem
    refine ⟨e _ _ upd_same, ?_⟩
    have l := sub_len ndf (m := pool) fun t ht => by
      obtain ⟨r, hr, m⟩ := (mem t).mp ht
      exact sub r hr t m
    have e2 : Same H (upd H1 d (.dK (dct id us))) := fun b o q => by
      by_cases z : b = d
      · rw [z, h2] at q; rw [z, upd_same]; exact q
      · rw [upd_ne z]; exact e b o (by rw [upd_ne z]; exact q)
    refine ⟨_, rfl, D, _, fs.map (·.1), rfl, .inl (by rw [upd_ne ndD.symm]; exact hd), dct_keys fs, by omega, fun ys q pm so hq => ?_⟩
    refine ⟨q, _, rfl, .inl ⟨SqL.of upd_same, fun r hr => ?_⟩⟩
    have nqr : q ≠ r := fun z => by rw [← z, upd_same] at hr; cases hr
    have r0 : (upd H1 d (.dK (dct id us))) r = none := by rw [upd_ne nqr.symm] at hr; exact hr
    refine k _ ys _ (e2.trans ((same_new hq).trans (same_new hr))) (RTup.of_strs ?_) ⟨StS.of so (pm.nodup_iff.mpr ndf), fun t => by rw [pm.mem_iff, mem]⟩
    rw [fr_at (e2.free r0), upd_same]
section
variable {σ : L2.St} {H : Hp} {Q : VK} {p : Addr} {ws : Ws} {i j : Nat}
theorem src_texts (h0 : σ[i]? = some (some (.ref p))) (hs : SrcAt K "Table" H p ws ∨ SrcAt K "Machine" H p ws) (ok : WOk ws) (k : ∀ q H', Same H H' → RTup RStr (fr H H') q (ws.map (·.1)) → Q q H') :
    tMeth (He.ga K "Table") "texts" (sp_Table_texts K) [] E0 (tVar i) tNil σ H Q ∨ tMeth (He.ga K "Machine") "texts" (sp_Machine_texts K) [] E0 (tVar i) tNil σ H Q := by
  rcases hs with hs | hs
  · obtain ⟨dx, fs, d, us, h1, h2, h3, pm, h5, h6⟩ := id hs
    exact .inl ⟨_, h0, p, dx, fs, rfl, h1, h6.1, rfl, p, ws, rfl, hs, ok, k⟩
  · obtain ⟨dx, fs, d, us, h1, h2, h3, pm, h5, h6⟩ := id hs
    exact .inr ⟨_, h0, p, dx, fs, rfl, h1, h6.1, rfl, p, ws, rfl, hs, ok, k⟩
theorem src_weight {t : Str} (h0 : σ[i]? = some (some (.ref p))) (h1 : σ[j]? = some (some (.str t))) (hs : SrcAt K "Table" H p ws ∨ SrcAt K "Machine" H p ws) (ok : WOk ws) (k : Q (.int (wof ws t)) H) :
    tMeth (He.ga K "Table") "weight_of" (sp_Table_weight_of K) [] E0 (tVar i) (tCons (tVar j) tNil) σ H Q ∨ tMeth (He.ga K "Machine") "weight_of" (sp_Machine_weight_of K) [] E0 (tVar i) (tCons (tVar j) tNil) σ H Q := by
  rcases hs with hs | hs
  · obtain ⟨dx, fs, d, us, e1, h2, h3, pm, h5, h6⟩ := id hs
    exact .inl ⟨_, h0, p, dx, fs, rfl, e1, h6.2.1, _, h1, rfl, p, ws, t, rfl, hs, ok, k⟩
  · obtain ⟨dx, fs, d, us, e1, h2, h3, pm, h5, h6⟩ := id hs
    exact .inr ⟨_, h0, p, dx, fs, rfl, e1, h6.2.1, _, h1, rfl, p, ws, t, rfl, hs, ok, k⟩
theorem src_share {t : Str} (h0 : σ[i]? = some (some (.ref p))) (h1 : σ[j]? = some (some (.str t))) (hs : SrcAt K "Table" H p ws ∨ SrcAt K "Machine" H p ws) (ok : WOk ws) (bd : Bd 3000 (tot ws)) (k : ∀ r H', Same H H' → RSh K (fr H H') r (shr (wof ws t) (tot ws)) → Q r H') :
    tMeth (He.ga K "Table") "share_of" (sp_Table_share_of K) [] E0 (tVar i) (tCons (tVar j) tNil) σ H Q ∨ tMeth (He.ga K "Machine") "share_of" (sp_Machine_share_of K) [] E0 (tVar i) (tCons (tVar j) tNil) σ H Q := by
  rcases hs with hs | hs
  · obtain ⟨dx, fs, d, us, e1, h2, h3, pm, h5, h6⟩ := id hs
    exact .inl ⟨_, h0, p, dx, fs, rfl, e1, h6.2.2, _, h1, rfl, p, ws, t, rfl, hs, ok, bd, k⟩
  · obtain ⟨dx, fs, d, us, e1, h2, h3, pm, h5, h6⟩ := id hs
    exact .inr ⟨_, h0, p, dx, fs, rfl, e1, h6.2.2, _, h1, rfl, p, ws, t, rfl, hs, ok, bd, k⟩
end
def sp_known (K : Fr) : Sp := spx 2 fun vs H Q _ => ∃ (u v : V) (ws : Ws) (rows : Rows), vs = [u, v] ∧ RSrc K H u ws ∧ WOk ws ∧ RChg K H v rows ∧ (rows.map (·.1)).Nodup ∧ (∀ t ∈ ws.map (·.1), t ∈ rows.map (·.1)) ∧ ∀ H', Same H H' → Q .non H'
theorem sc_known : FnScope ["source", "changes", "text"] ["source", "changes"] (defScope s_known) := ⟨rfl, rfl, rfl, by decide +kernel, rfl, by decide +kernel, by decide +kernel⟩
theorem c_known (T : Tx K mg) (G_Table_texts : Met P w K mg base 1 (He.ga K "Table") "texts" ["self"] (sp_Table_texts K)) (G_Machine_texts : Met P w K mg base 1 (He.ga K "Machine") "texts" ["self"] (sp_Machine_texts K)) (G_Changes_of : Met P w K mg base 1 (He.ga K "Changes") "of" ["self", "text"] (sp_Changes_of K)) : Cal P w K mg base 2 "known" ["source", "changes"] (sp_known K) := by
  refine T.cal 4 rfl 0 rfl sc_known (fun _ _ _ _ h => h.1) (fun _ _ _ _ _ _ us hl => match us, hl with | [_, _], _ => rfl) (fun cdv A outer s H vs Q E hr h => ?_)
  have nd := sc_known.nd
  have hu := hu_of hr
  refine ⟨_, (pss_one (ps_for PassesOwn.never rfl (pi_tup (pe_eor (pe_met0 G_Table_texts (hr.mono (by decide)) (pv 0)) (pe_met0 G_Machine_texts (hr.mono (by decide)) (pv 0)))) (pg_name (i := 2) nd rfl (Or.inl rfl)) (pss_one (ps_expr (pe_met G_Changes_of (hr.mono (by decide)) (pv 1) (pa_cons (pv 2) pa_nil)))))), ?_⟩
  obtain ⟨_, u, v, ws, rows, rfl, ⟨p, rfl, hs⟩, ok, ⟨q, rfl, hc⟩, nd1, sub, k⟩ := h
  refine src_texts rfl hs ok fun o H1 e1 hr => ?_
  obtain ⟨b, rfl, hb⟩ := hr.strs
  have hb := same_fr _ _ hb
  refine ⟨b, rfl, ⟨_, SqT.of hb⟩, for_tup (K := K) (xs := (ws.map (·.1)).map V.str) (fun i σ H' => H' = H1 ∧ ∃ u2, σ = [some (.ref p), some (.ref q), u2]) ⟨rfl, none, rfl⟩ (fun i σ H' _ ⟨e, _⟩ => SqT.of (by rw [e]; exact hb)) ?_ ?_⟩
  · rintro i x σ H' hi ⟨rfl, u2, rfl⟩
    obtain ⟨t, ht, rfl⟩ := map_some hi
    obtain ⟨r, hr, rfl⟩ := List.mem_map.mp (sub t (List.mem_of_getElem? ht))
    obtain ⟨dx, d, us, h1, h2, h3⟩ := hc
    refine ⟨_, rfl, q, dx, _, rfl, e1 _ _ h1, lk_ne (by decide +kernel), _, rfl, rfl, q, rows, r, rfl, ⟨dx, d, us, e1 _ _ h1, e1 _ _ h2, paired_up h3 fun _ _ => KRow.up e1⟩, nd1, hr, fun v _ => ⟨rfl, _, rfl⟩⟩
  · rintro σ H' ⟨rfl, u2, rfl⟩
    exact k _ e1
end
end MH
/-! part D15 -/
set_option Elab.async false
set_option linter.all false
set_option maxRecDepth 100000
set_option maxHeartbeats 4000000
namespace MH
open PySem PySem.Spec PyProof.Rows L2
/-- texts in any order -/
def RPm : Rl (List Str) := fun H v ac => ∃ ys, RTup RStr H v ys ∧ ys.Perm ac
instance : Mo RPm := ⟨fun e ⟨ys, h, p⟩ => ⟨ys, Mo.up e h, p⟩⟩
abbrev RKept : Rl Ents := RTup (RTr RInt RStr RPm)
def MkAt (K : Fr) (H : Hp) (p : Addr) (es : Ents) : Prop := ∃ dx t, H p = some (.ins (He.ga K "Marking") dx [("entries", .ref t), ("whole", .int (topE es))]) ∧ RKept H (.ref t) es
def RMrk (K : Fr) : Rl Ents := fun H v es => ∃ p, v = .ref p ∧ MkAt K H p es
theorem MkAt.up {K : Fr} {H H' : Hp} {p : Addr} {es : Ents} (e : Same H H') (h : MkAt K H p es) : MkAt K H' p es := by
  obtain ⟨dx, t, h1, h2⟩ := h
  exact ⟨dx, t, e _ _ h1, Mo.up e h2⟩
instance (K : Fr) : Mo (RMrk K) := ⟨fun e ⟨p, h, g⟩ => ⟨p, h, g.up e⟩⟩
/-- the entries -/
structure EOk (es : Ents) : Prop where
  pos : ∀ e ∈ es, 1 ≤ e.1 ∧ e.1 ≤ 3 * 10 ^ 12
  ac : ∀ e ∈ es, e.2.2.Nodup ∧ e.2.2.length ≤ 60
  few : es.length ≤ 60
  one : es ≠ []
section
variable {P : Program} {w : World} {K : Fr} {mg : Str → Option Value} {base : Heap}
def sp_Marking___init (K : Fr) : Sp := spx 2 fun vs H Q _ => ∃ (x dx : Addr) (v : V) (es : Ents), vs = [.ref x, v] ∧ H x = some (.ins (He.ga K "Marking") dx []) ∧ REnts (hid x H) v es ∧ EOk es ∧
  ∀ H', Same (hid x H) (hid x H') → (∃ t, H' x = some (.ins (He.ga K "Marking") dx [("entries", .ref t), ("whole", .int (topE es))]) ∧ RKept (fr H H') (.ref t) es) → Q .non H'
theorem sc_Marking___init : FnScope ["self", "entries", "kept", "whole", "at", "weight", "text", "accused"] ["self", "entries"] (defScope s_Marking___init) := ⟨rfl, rfl, rfl, by decide +kernel, rfl, by decide +kernel, by decide +kernel⟩
theorem c_Marking___init (T : Tx K mg)  : Mak P w K mg base 1 "Marking" (He.ga K "Marking") ["self", "entries"] (sp_Marking___init K) := by
  refine T.mak 36 rfl 90 rfl 92 rfl sc_Marking___init (fun _ _ _ _ h => h.1) (fun _ _ _ _ _ _ us hl => match us, hl with | [_, _], _ => rfl) (fun cdv A outer s H vs Q E hr h => ?_)
  have nd := sc_Marking___init.nd
  have hu := hu_of hr
  refine ⟨_, (pss_cons (ps_set (i := 2) nd rfl (Or.inl rfl) (pe_lst pa_nil))
      (pss_cons (ps_set (i := 3) nd rfl (Or.inl rfl) pe_int)
      (pss_cons (ps_for PassesOwn.never rfl (pi_enumK (by rfl) T.f_enumerate (pa_cons (pv 1) pa_nil)) (pg_tupK (K := K) 2 rfl (pgs_cons (pg_name (i := 4) nd rfl (Or.inl rfl)) (pgs_cons (pg_tupK (K := K) 3 rfl (pgs_cons (pg_name (i := 5) nd rfl (Or.inl rfl)) (pgs_cons (pg_name (i := 6) nd rfl (Or.inl rfl)) (pgs_cons (pg_name (i := 7) nd rfl (Or.inl rfl)) pgs_nil)))) pgs_nil))) (pss_cons (ps_if (PW.pt (pw_or (pt_not (pt_val (pe_callB call_isi (by rfl) T.f_isinstance (by decide +kernel) (pa_cons (pv 5) (pa_cons (pe_bltn (v := .ty "int") (by rfl) T.f_int (by decide +kernel) rfl) pa_nil))))) (pw_or (pt_val (pe_callB call_isi (by rfl) T.f_isinstance (by decide +kernel) (pa_cons (pv 5) (pa_cons (pe_bltn (v := .ty "bool") (by rfl) T.f_bool (by decide +kernel) rfl) pa_nil)))) (pw_or1 (pt_cmpR op_lt (pv 5) pe_int (nomark _)))))) (pss_one ps_never) pss_nil)
      (pss_cons (ps_expr (pe_bm PySem.F.plainAttrs_list PySem.F.slot_list_append PySem.F.type_list_append mt_append (pv 2) (pa_cons (pe_tup (pa_cons (pv 5) (pa_cons (pv 6) (pa_cons (pe_callTy call_tuple_of (by rfl) T.f_tuple (by decide +kernel) (pa_cons (pe_callB cr_sortedS (by rfl) T.f_sorted (by decide +kernel) (pa_cons (pv 7) pa_nil)) pa_nil)) pa_nil)))) pa_nil)))
      (pss_one (ps_aug (i := 3) nd rfl (Or.inl rfl) (pv 5) ip_add)))))
      (pss_cons (ps_fld (pv 0) (pe_callTy call_tuple_of (by rfl) T.f_tuple (by decide +kernel) (pa_cons (pv 2) pa_nil)) rfl)
      (pss_one (ps_fld (pv 0) (pv 3) rfl)))))), ?_⟩
  obtain ⟨_, x, dx, v, es, rfl, hx, ⟨a, vs, rfl, ha, hp⟩, ok, k⟩ := h
  obtain ⟨nax, ha⟩ := hid_some ha
  have few := ok.few
  refine ⟨by show 0 ≤ sizeLine; decide, fun D hD => ?_⟩
  have nDx : D ≠ x := (ne_of_none hx hD).symm
  have nDa : D ≠ a := (ne_of_none ha hD).symm
  refine ⟨_, rfl, .l a, vs, rfl, SqL.of (by rw [upd_ne nDa.symm]; exact ha), for_enumK (xs := vs) (fun i σ H' => ∃ vs2 u4 u5 u6 u7, σ = [some (.ref x), some (.ref a), some (.ref D), some (.int (topE (es.take i))), u4, u5, u6, u7] ∧ Same (hid x H) (hid x H') ∧ H' x = some (.ins (He.ga K "Marking") dx []) ∧ H' D = some (.lst vs2) ∧ Paired (RTr RInt RStr RPm (nw D H H')) vs2 (es.take i)) ⟨[], none, none, none, none, rfl, same_hid_up (same_new hD), by rw [upd_ne nDx.symm]; exact hx, upd_same, .nil⟩ ?_ ?_ ?_⟩
  · rintro i σ H' ⟨_, _, _, _, _, _, g, _⟩
    exact SqL.of (keepS g nax ha)
  · rintro i v T σ H1 hi ⟨vs2, u4, u5, u6, u7, rfl, g, hx1, hD1, hr⟩ hT
    obtain ⟨⟨n, t, ac⟩, hu1, ⟨pa, y1, y2, y3, rfl, hpa, rfl, rfl, hz⟩⟩ := paired_get hp hi
    obtain ⟨b, rfl, hb⟩ := hz.strs
    obtain ⟨npx, hpa⟩ := hid_some hpa
    obtain ⟨nbx, hb⟩ := hid_some hb
    have hpa1 := keepS g npx hpa
    have hb1 := keepS g nbx hb
    obtain ⟨n1, n2⟩ := ok.pos _ (List.mem_of_getElem? hu1)
    have n1 : 1 ≤ n := n1
    obtain ⟨and, acl⟩ := ok.ac _ (List.mem_of_getElem? hu1)
    have acl : ac.length ≤ 60 := acl
    have il : i < es.length := (List.getElem?_eq_some_iff.mp hu1).1
    have ul := paired_len hr
    rw [List.length_take] at ul
    refine ⟨T, _, rfl, SqT.of upd_same, rfl, _, _, rfl, _, _, rfl, pa, _, rfl, SqT.of (by rw [upd_ne (ne_of_none hpa1 hT)]; exact hpa1), rfl, _, _, rfl, _, _, rfl, _, _, rfl, rfl, rfl, ?_⟩
    generalize hH2 : upd H1 T (.tup [.int (i : Nat), V.ref pa]) = H2
    have e2 : Same H1 H2 := by rw [← hH2]; exact same_new hT
    refine ⟨_, rfl, _, _, _, _, true, rfl, .ty _, .base (.int _), kit_ty (by decide +kernel), _, rfl, ?_⟩
    refine iteF ⟨_, rfl, _, _, _, _, false, rfl, .ty _, .base (.int _), kit_ty (by decide +kernel), _, rfl, ?_⟩
    refine iteF ⟨_, rfl, _, _, rfl, rfl, _, rfl, ?_⟩
    refine iteN (by show ¬ n < 1; omega) ?_
    have hD2 := e2 _ _ hD1
    refine ⟨_, rfl, .inl ⟨rfl, _, SqL.of hD2⟩, _, rfl, _, rfl, _, rfl, b, ac, rfl, SqL.of (e2 _ _ hb1), by omega, fun ys L pm so hL => ⟨L, _, rfl, .inl ⟨SqL.of upd_same, fun U hU => ⟨by show 3 ≤ sizeLine; decide, fun R hR => ?_⟩⟩⟩⟩
    have e6 : Same H2 (upd (upd (upd H2 L (.lst (ys.map V.str))) U (.tup (ys.map V.str))) R (.tup [.int n, .str t, .ref U])) := ((same_new hL).trans (same_new hU)).trans (same_new hR)
    have e16 := e2.trans e6
    have nUR : U ≠ R := fun z => by rw [← z, upd_same] at hR; cases hR
    have hU2 : H2 U = none := (same_new hL).free hU
    have hR2 : H2 R = none := ((same_new hL).trans (same_new hU)).free hR
    have back : ∀ {z : Addr}, H2 z = none → H z = none := fun {z} h => freeS g (fun q => by rw [q, e2 _ _ hx1] at h; cases h) (e2.free h)
    have nUD : U ≠ D := (ne_of_none hD2 hU2).symm
    have nRD : R ≠ D := (ne_of_none hD2 hR2).symm
    have nRx : R ≠ x := (ne_of_none (e2 _ _ hx1) hR2).symm
    refine ⟨D, vs2, _, rfl, rfl, e6 _ _ hD2, sz_lt (by omega), _, rfl, _, rfl, _, _, rfl, rfl, ?_⟩
    refine ⟨vs2 ++ [.ref R], some (.int (i : Nat)), some (.int n), some (.str t), some (.ref b), ?_, sameS_mut (g.trans (same_hid_up e16)) hD nDx, by rw [upd_ne nDx.symm]; exact e16 _ _ hx1, upd_same, ?_⟩
    · have : topE (es.take (i + 1)) = topE (es.take i) + n := by
        rw [take_more hu1]; unfold topE; rw [List.map_append, List.sum_append]; show _ + (n + 0) = _; omega
      rw [this]; rfl
    · rw [nw_mut, take_more hu1]
      refine paired_app (paired_up hr fun _ _ => Mo.up (nw_up e16)) (.cons ⟨R, _, _, .ref U, rfl, ?_, rfl, rfl, ys, RTup.of_strs ?_, pm⟩ .nil)
      · rw [nw_at (back hR2) nRD, upd_same]
      · rw [nw_at (back hU2) nUD, upd_ne nUR, upd_same]
  · rintro σ H' ⟨vs2, u4, u5, u6, u7, rfl, g, hx1, hD1, hr⟩
    rw [paired_len hp, List.take_length] at hr
    refine ⟨_, rfl, D, vs2, rfl, .inl ⟨SqL.of hD1, fun U hU => ?_⟩⟩
    have nUx : U ≠ x := (ne_of_none hx1 hU).symm
    have hU0 : H U = none := freeS g nUx hU
    have hx2 : (upd H' U (.tup vs2)) x = some (.ins (He.ga K "Marking") dx []) := same_new hU _ _ hx1
    refine ⟨_, rfl, x, _, dx, _, rfl, hx2, T.cl_Marking, T.n_Marking_entries, by decide, ?_⟩
    refine ⟨_, rfl, _, rfl, x, _, dx, _, rfl, upd_same, T.cl_Marking, T.n_Marking_whole, by show 1 < 1000; decide, ?_⟩
    refine k _ (by rw [hid_upd, hid_upd]; exact g.trans (same_hid_up (same_new hU))) ⟨U, ?_, U, vs2, rfl, ?_, paired_up hr fun _ _ => Mo.up fun b o e => ?_⟩
    · rw [upd_same, paired_len hp, List.take_length]
      show some (HO.ins _ dx (putF _ _ [(("entries" : Str), V.ref U)])) = _
      unfold putF
      rw [if_neg (by decide +kernel)]; rfl
    · rw [fr_at hU0, upd_ne nUx, upd_ne nUx, upd_same]
    · obtain ⟨z1, z2⟩ := fr_some (hid_some e).2
      have bx : b ≠ x := fun z => by rw [z, hx] at z1; cases z1
      rw [fr_at z1, upd_ne bx, upd_ne bx]; exact same_new hU _ _ z2
theorem marking_make {H1 : Hp} {Q : VK} {E : XK} {v : V} {es : Ents} {x dx : Addr} (nx : H1 x = none) (nd : H1 dx = none) (ne : dx ≠ x) (hv : REnts H1 v es) (ok : EOk es) (k : ∀ H2, Same H1 H2 → RMrk K (fr H1 H2) (.ref x) es → Q .non H2) :
    sp_Marking___init K (.ref x :: ([v] ++ [])) (upd (upd H1 dx (.own x)) x (.ins (He.ga K "Marking") dx [])) Q E := by
  have e0 : Same H1 (hid x (upd (upd H1 dx (.own x)) x (.ins (He.ga K "Marking") dx []))) := same_to_hid ((same_new nd).trans (same_new (by rw [upd_ne (Ne.symm ne)]; exact nx))) nx
  refine ⟨rfl, x, dx, v, es, rfl, upd_same, Mo.up e0 hv, ok, fun H' g ⟨t, h1, h2⟩ => ?_⟩
  have e1 : Same H1 H' := (e0.trans g).trans same_hid
  refine k H' e1 ⟨x, rfl, dx, t, by rw [fr_at nx]; exact h1, Mo.up (fun b o e => ?_) h2⟩
  obtain ⟨z1, z2⟩ := fr_some e
  have bx : b ≠ x := fun z => by rw [z, upd_same] at z1; cases z1
  have bdx : b ≠ dx := fun z => by rw [z, upd_ne ne, upd_same] at z1; cases z1
  rw [upd_ne bx, upd_ne bdx] at z1
  rw [fr_at z1]; exact z2
end
end MH
/-! part D16 -/
set_option Elab.async false
set_option linter.all false
set_option maxRecDepth 100000
set_option maxHeartbeats 4000000
namespace MH
open PySem PySem.Spec PyProof.Rows L2
def prs (es : Ents) : Prts := es.map fun e => (e.1, e.2.1)
theorem tops_prs (es : Ents) : tops (prs es) = topE es := by unfold tops prs topE; rw [List.map_map]; rfl
theorem topE_pos {es : Ents} (ok : EOk es) : 0 < topE es := by
  have h : ∀ {es : Ents}, (∀ e ∈ es, 1 ≤ e.1) → 0 ≤ topE es := fun {es} => by
    induction es with
    | nil => intro _; exact Int.le_refl _
    | cons e r ih =>
      intro h
      have a := h e List.mem_cons_self
      have b := ih fun y hy => h y (List.mem_cons_of_mem _ hy)
      show 0 ≤ e.1 + topE r; omega
  cases e : es with
  | nil => exact absurd e ok.one
  | cons a r =>
    have p := ok.pos
    rw [e] at p
    have a1 := (p a List.mem_cons_self).1
    have b := h (es := r) fun y hy => (p y (List.mem_cons_of_mem _ hy)).1
    show 0 < a.1 + topE r; omega
theorem topE_le {es : Ents} (ok : EOk es) : topE es ≤ 10 ^ 15 := by
  have h : ∀ {es : Ents}, (∀ e ∈ es, e.1 ≤ 3 * 10 ^ 12) → topE es ≤ 3 * 10 ^ 12 * es.length := fun {es} => by
    induction es with
    | nil => intro _; exact Int.le_refl _
    | cons e r ih =>
      intro h
      have a := h e List.mem_cons_self
      have b := ih fun y hy => h y (List.mem_cons_of_mem _ hy)
      show e.1 + topE r ≤ 3 * 10 ^ 12 * ((r.length + 1 : Nat) : Int)
      omega
  have := h (es := es) fun e he => (ok.pos e he).2
  have l := ok.few
  omega
theorem topE_bd {es : Ents} (ok : EOk es) : Bd 60 (topE es) := by
  have a := topE_pos ok
  have b := topE_le ok
  unfold Bd; omega
section
variable {P : Program} {w : World} {K : Fr} {mg : Str → Option Value} {base : Heap}
def sp_Marking_texts (K : Fr) : Sp := spx 1 fun vs H Q _ => ∃ (p : Addr) (es : Ents), vs = [.ref p] ∧ MkAt K H p es ∧ EOk es ∧ ∀ v ys H', Same H H' → RTup RStr (fr H H') v ys → StS ys → (∀ t, t ∈ ys ↔ t ∈ es.map (·.2.1)) → Q v H'
theorem sc_Marking_texts : FnScope ["self", "weight", "text", "accused"] ["self"] (defScope s_Marking_texts) := ⟨rfl, rfl, rfl, by decide +kernel, rfl, by decide +kernel, by decide +kernel⟩
theorem c_Marking_texts (T : Tx K mg)  : Met P w K mg base 1 (He.ga K "Marking") "texts" ["self"] (sp_Marking_texts K) := by
  refine T.met 37 rfl 91 rfl 114 rfl sc_Marking_texts (fun _ _ _ _ h => h.1) (fun _ _ _ _ _ _ us hl => match us, hl with | [_], _ => rfl) (fun cdv A outer s H vs Q E hr h => ?_)
  have nd := sc_Marking_texts.nd
  have hu := hu_of hr
  refine ⟨_, (pss_one (ps_ret (pe_callTy call_tuple_of (by rfl) T.f_tuple (by decide +kernel) (pa_cons (pe_callB (cr_sortedX rfl) (by rfl) T.f_sorted (by decide +kernel) (pa_cons (pe_callTy (cr_setX rfl) (by rfl) T.f_set (by decide +kernel) (pa_cons (pe_lc (own := [("weight", 1), ("text", 2), ("accused", 3)]) (g := (gTup K 3 (gCons (gName 1) (gCons (gName 2) (gCons (gName 3) gNil))))) (tt := tYes) (by rfl) nd (pi_tup (pe_fldK (K := K) (pv 0) rfl)) (blkOk_by (own := [("weight", 1), ("text", 2), ("accused", 3)]) (N := ["self", "weight", "text", "accused"]) (sc := defScope s_Marking_texts) (by decide +kernel)) (fun _ _ _ _ _ => (pg_tupK (K := K) 3 rfl (pgs_cons (pg_name (i := 1) nd rfl (Or.inl rfl)) (pgs_cons (pg_name (i := 2) nd rfl (Or.inl rfl)) (pgs_cons (pg_name (i := 3) nd rfl (Or.inl rfl)) pgs_nil))))) (fun _ _ _ _ _ => pts_nil) (fun _ _ _ _ _ => (pv 2))) pa_nil)) pa_nil)) pa_nil)))), ?_⟩
  obtain ⟨_, p, es, rfl, ⟨dx, t, h1, ⟨t', vs, et, ht, hp⟩⟩, ok, k⟩ := h
  cases et
  have few := ok.few
  have vl := paired_len hp
  refine ⟨_, rfl, p, _, dx, _, _, rfl, h1, T.cl_Marking, T.n_Marking_entries, lk_eq, t, rfl, ⟨_, SqT.of ht⟩, fun D hD => ?_⟩
  refine lc_new (n := vs.length) walk_tup (stepS H) RStr (fun i bs => bs = (es.map (·.2.1)).take i) hD (fun H' e => SqT.of (e _ _ ht)) (fun i H x H' y => yAt_same y) (sz_lt (by omega)) rfl (fun i x bs H1 H2 Kc Rc hi hb e1 e2 _ hy k1 _ => ?_) (fun H1 ys bs e1 hv hr hb => ?_)
  · obtain ⟨⟨n, s, ac⟩, hy2, ⟨q, u1, u2, u3, rfl, hq, rfl, rfl, _⟩⟩ := paired_get hp hy.2
    refine ⟨q, _, rfl, SqT.of (e2 _ _ hq), rfl, _, _, rfl, _, _, rfl, _, _, rfl, rfl, rfl, yes_t ?_⟩
    refine ⟨_, rfl, k1 s _ _ (Same.refl _) rfl ?_⟩
    rw [hb, ← take_more]
    rw [List.getElem?_map, hy2]; rfl
  · rw [vl, List.take_of_length_le (by rw [List.length_map]; exact Nat.le_refl _)] at hb
    subst hb
    have hD1 := same_fr _ _ (lstS_at hr)
    have xl : (es.map (·.2.1)).length < 64 := by rw [List.length_map]; omega
    refine ⟨D, _, rfl, SqL.of hD1, xl, fun A4 hA4 => ⟨A4, _, rfl, upd_same, xl, fun ys A5 so mem hA5 => ⟨A5, ys.map V.str, rfl, .inl ⟨SqL.of upd_same, fun A6 hA6 => ?_⟩⟩⟩⟩
    have e6 : Same H1 (upd (upd (upd H1 A4 (SetXO P w A4 (es.map (·.2.1)))) A5 (.lst (ys.map V.str))) A6 (.tup (ys.map V.str))) := ((same_new hA4).trans (same_new hA5)).trans (same_new hA6)
    refine k _ ys _ (e1.trans e6) (RTup.of_strs ?_) so mem
    rw [fr_at (e1.free (((same_new hA4).trans (same_new hA5)).free hA6)), upd_same]
def sp_Marking_written_share (K : Fr) : Sp := spx 2 fun vs H Q _ => ∃ (p : Addr) (es : Ents) (t : Str), vs = [.ref p, .str t] ∧ MkAt K H p es ∧ EOk es ∧ ∀ v H', Same H H' → RSh K (fr H H') v (shr (psum (prs es) t) (topE es)) → Q v H'
theorem sc_Marking_written_share : FnScope ["self", "text", "weight", "own", "accused"] ["self", "text"] (defScope s_Marking_written_share) := ⟨rfl, rfl, rfl, by decide +kernel, rfl, by decide +kernel, by decide +kernel⟩
theorem c_Marking_written_share (T : Tx K mg) (G_Share___init : Mak P w K mg base 2 "Share" (He.ga K "Share") ["self", "over", "under"] (sp_Share___init K)) : Met P w K mg base 4 (He.ga K "Marking") "written_share" ["self", "text"] (sp_Marking_written_share K) := by
  refine T.met 38 rfl 91 rfl 115 rfl sc_Marking_written_share (fun _ _ _ _ h => h.1) (fun _ _ _ _ _ _ us hl => match us, hl with | [_, _], _ => rfl) (fun cdv A outer s H vs Q E hr h => ?_)
  have nd := sc_Marking_written_share.nd
  have hu := hu_of hr
  refine ⟨_, (pss_one (ps_ret (pe_mak G_Share___init (hr.mono (by decide)) (pa_cons (pe_callB (cr_sum rfl) (by rfl) T.f_sum (by decide +kernel) (pa_cons (pe_lc (own := [("weight", 2), ("own", 3), ("accused", 4)]) (g := (gTup K 3 (gCons (gName 2) (gCons (gName 3) (gCons (gName 4) gNil))))) (by rfl) nd (pi_tup (pe_fldK (K := K) (pv 0) rfl)) (blkOk_by (own := [("weight", 2), ("own", 3), ("accused", 4)]) (N := ["self", "text", "weight", "own", "accused"]) (sc := defScope s_Marking_written_share) (by decide +kernel)) (fun _ _ _ _ _ => (pg_tupK (K := K) 3 rfl (pgs_cons (pg_name (i := 2) nd rfl (Or.inl rfl)) (pgs_cons (pg_name (i := 3) nd rfl (Or.inl rfl)) (pgs_cons (pg_name (i := 4) nd rfl (Or.inl rfl)) pgs_nil))))) (fun _ _ _ _ _ => (pts_one (pt_cmpR op_eq (pv 3) (pv 1) (nomark _)))) (fun _ _ _ _ _ => (pv 2))) pa_nil)) (pa_cons (pe_fldK (K := K) (pv 0) rfl) pa_nil))))), ?_⟩
  obtain ⟨_, p, es, t, rfl, ⟨dx, tt, h1, ⟨t', vs, et, ht, hp⟩⟩, ok, k⟩ := h
  cases et
  have few := ok.few
  have vl := paired_len hp
  refine ⟨_, rfl, p, _, dx, _, _, rfl, h1, T.cl_Marking, T.n_Marking_entries, lk_eq, tt, rfl, ⟨_, SqT.of ht⟩, fun D hD => ?_⟩
  refine lc_new (n := vs.length) walk_tup (stepS H) RInt (fun i bs => bs.sum = psum (prs (es.take i)) t) hD (fun H' e => SqT.of (e _ _ ht)) (fun i H x H' y => yAt_same y) (sz_lt (by omega)) rfl (fun i x bs H1 H2 Kc Rc hi hb e1 e2 _ hy k1 k2 => ?_) (fun H1 ys bs e1 hv hr hb => ?_)
  · obtain ⟨⟨n, s, ac⟩, hy2, ⟨q, u1, u2, u3, rfl, hq, rfl, rfl, _⟩⟩ := paired_get hp hy.2
    have more : psum (prs (es.take (i + 1))) t = psum (prs (es.take i)) t + if s = t then n else 0 := by
      rw [take_more hy2]; unfold prs; rw [List.map_append, psum_app]
      show _ + ((if s = t then n else 0) + 0) = _; omega
    refine ⟨q, _, rfl, SqT.of (e2 _ _ hq), rfl, _, _, rfl, _, _, rfl, _, _, rfl, rfl, rfl, ?_⟩
    refine ⟨_, rfl, _, rfl, rfl, _, rfl, ?_⟩
    by_cases c : s = t
    · refine iteD (congrArg V.str c) ⟨_, rfl, k1 n _ _ (Same.refl _) rfl ?_⟩
      rw [List.sum_append, hb, more, if_pos c]; show _ + (n + 0) = _; omega
    · refine iteN (fun z => c (by injection z)) (k2 _ (Same.refl _) ?_)
      rw [hb, more, if_neg c]; omega
  · rw [vl, List.take_length] at hb
    have hD1 := same_fr _ _ (lstI_at hr)
    refine ⟨D, bs, rfl, SqL.of hD1, _, rfl, p, _, dx, _, _, rfl, e1 _ _ h1, T.cl_Marking, T.n_Marking_whole, (lk_ne (by decide +kernel)).trans lk_eq, ?_⟩
    rw [hb]
    exact fun x dx nx nd ne => share_make nx nd ne (topE_pos ok) ((topE_bd ok).mono (by decide)) fun H2 e r => ⟨rfl, k _ _ (e1.trans e) (Mo.up (fr_old e1) r)⟩
def RBl : Rl Bool := fun _ v b => v = .bl b
instance : Mo RBl := ⟨fun _ h => h⟩
theorem bls_eq {H : Hp} {vs : List V} {ns : List Bool} (p : Paired (RBl H) vs ns) : vs = ns.map V.bl := paired_eq (fun _ _ h => h) p
/-- all of the readable are accused -/
def sp_accused_by : Sp := spx 2 fun vs H Q _ => ∃ (u v : V) (ac ac' rd : List Str), vs = [u, v] ∧ RTup RStr H u ac' ∧ ac'.Perm ac ∧ RTup RStr H v rd ∧ rd.length ≤ 60 ∧ ∀ H', Same H H' → Q (.bl (rd.all fun t => decide (t ∈ ac))) H'
theorem sc_accused_by : FnScope ["accused", "readable", "text"] ["accused", "readable"] (defScope s_accused_by) := ⟨rfl, rfl, rfl, by decide +kernel, rfl, by decide +kernel, by decide +kernel⟩
theorem c_accused_by (T : Tx K mg)  : Cal P w K mg base 1 "accused_by" ["accused", "readable"] sp_accused_by := by
  refine T.cal 39 rfl 11 rfl sc_accused_by (fun _ _ _ _ h => h.1) (fun _ _ _ _ _ _ us hl => match us, hl with | [_, _], _ => rfl) (fun cdv A outer s H vs Q E hr h => ?_)
  have nd := sc_accused_by.nd
  have hu := hu_of hr
  refine ⟨_, (pss_one (ps_ret (pe_callB (cr_all rfl) (by rfl) T.f_all (by decide +kernel) (pa_cons (pe_lc (own := [("text", 2)]) (g := (gName 2)) (tt := tYes) (by rfl) nd (pi_tup (pv 1)) (blkOk_by (own := [("text", 2)]) (N := ["accused", "readable", "text"]) (sc := defScope s_accused_by) (by decide +kernel)) (fun _ _ _ _ _ => (pg_name (i := 2) nd rfl (Or.inl rfl))) (fun _ _ _ _ _ => pts_nil) (fun _ _ _ _ _ => (pe_cmpR (op_inK (K := K)) (pv 2) (pv 0) (by rfl)))) pa_nil)))), ?_⟩
  obtain ⟨_, u, v, ac, ac', rd, rfl, hu', pm, hv', few, k⟩ := h
  obtain ⟨p, rfl, hp⟩ := hu'.strs
  obtain ⟨q, rfl, hq⟩ := hv'.strs
  refine ⟨_, rfl, q, rfl, ⟨_, SqT.of hq⟩, fun D hD => ?_⟩
  refine lc_new (n := (rd.map V.str).length) walk_tup (stepS H) RBl (fun i bs => bs = (rd.take i).map fun t => decide (t ∈ ac)) hD (fun H' e => SqT.of (e _ _ hq)) (fun i H x H' y => yAt_same y) (by rw [List.length_map]; exact sz_lt (by omega)) rfl (fun i x bs H1 H2 Kc Rc hi hb e1 e2 _ hy k1 _ => ?_) (fun H1 ys bs e1 hv hr hb => ?_)
  · obtain ⟨t, ht, rfl⟩ := map_some hy.2
    refine ⟨rfl, yes_t ?_⟩
    refine ⟨_, rfl, _, rfl, p, _, rfl, .inr (SqT.of (e2 _ _ hp)), rfl, flat_strs _, k1 (decide (t ∈ ac)) _ _ (Same.refl _) ?_ ?_⟩
    · show V.bl _ = V.bl _
      rw [show (if false = true then !inV (.str t) (ac'.map V.str) else inV (.str t) (ac'.map V.str)) = inV (.str t) (ac'.map V.str) from rfl, inV_str]
      simp only [pm.mem_iff]
    · rw [hb, take_more ht, List.map_append]; rfl
  · rw [List.length_map, List.take_length] at hb
    obtain ⟨a, vs, ea, ha, hpp⟩ := hr
    cases ea
    have hD1 : H1 D = some (.lst (bs.map V.bl)) := by rw [← bls_eq hpp]; exact same_fr _ _ ha
    refine ⟨D, bs, rfl, SqL.of hD1, ?_⟩
    have : bs.all id = rd.all fun t => decide (t ∈ ac) := by rw [hb, List.all_map]; rfl
    rw [this]
    exact k H1 e1
/-- the lookup of a text's readable ones -/
def rdOf (rows : Rows) (t : Str) : List Str := ((rows.find? fun r => decide (r.1 = t)).map (·.2)).getD []
theorem rdOf_mem : ∀ {rows : Rows} {r : Str × List Str}, (rows.map (·.1)).Nodup → r ∈ rows → rdOf rows r.1 = r.2
  | [], _, _, h => absurd h List.not_mem_nil
  | (s, a) :: rows, r, nd, h => by
    obtain ⟨n1, n2⟩ := List.nodup_cons.mp nd
    unfold rdOf
    rcases List.mem_cons.mp h with e | m
    · subst e; rw [List.find?_cons_of_pos (by simp)]; rfl
    · have ne : s ≠ r.1 := fun e => n1 (by rw [e]; exact List.mem_map.mpr ⟨_, m, rfl⟩)
      rw [List.find?_cons_of_neg (by simp [ne])]
      exact rdOf_mem n2 m
def fnd (rd : Str → List Str) : Ents → Int
  | [] => 0
  | (n, t, ac) :: r => (if (rd t).all (fun x => decide (x ∈ ac)) then n else 0) + fnd rd r
theorem fnd_app (rd : Str → List Str) : ∀ a b : Ents, fnd rd (a ++ b) = fnd rd a + fnd rd b
  | [], b => by show fnd rd b = 0 + fnd rd b; omega
  | (n, t, ac) :: a, b => by
    show (if (rd t).all (fun x => decide (x ∈ ac)) then n else 0) + fnd rd (a ++ b) = (if (rd t).all (fun x => decide (x ∈ ac)) then n else 0) + fnd rd a + fnd rd b
    rw [fnd_app rd a b]; omega
def sp_check_written (K : Fr) : Sp := spx 2 fun vs H Q _ => ∃ (p q : Addr) (rows : Rows) (es : Ents), vs = [.ref p, .ref q] ∧ ChAt K H p rows ∧ (rows.map (·.1)).Nodup ∧ rows.length ≤ 60 ∧ MkAt K H q es ∧ EOk es ∧ (∀ e ∈ es, e.2.1 ∈ rows.map (·.1)) ∧ ∀ H', Same H H' → Q .non H'
theorem ChAt.up {K : Fr} {H H' : Hp} {p : Addr} {rows : Rows} (e : Same H H') (h : ChAt K H p rows) : ChAt K H' p rows := by
  obtain ⟨dx, d, us, h1, h2, h3⟩ := h
  exact ⟨dx, d, us, e _ _ h1, e _ _ h2, paired_up h3 fun _ _ => KRow.up e⟩
theorem sc_check_written : FnScope ["changes", "marking", "texts", "text"] ["changes", "marking"] (defScope s_check_written) := ⟨rfl, rfl, rfl, by decide +kernel, rfl, by decide +kernel, by decide +kernel⟩
theorem c_check_written (T : Tx K mg) (G_Changes_texts : Met P w K mg base 1 (He.ga K "Changes") "texts" ["self"] (sp_Changes_texts K)) (G_Marking_texts : Met P w K mg base 1 (He.ga K "Marking") "texts" ["self"] (sp_Marking_texts K)) : Cal P w K mg base 2 "_check_written" ["changes", "marking"] (sp_check_written K) := by
  refine T.cal 43 rfl 15 rfl sc_check_written (fun _ _ _ _ h => h.1) (fun _ _ _ _ _ _ us hl => match us, hl with | [_, _], _ => rfl) (fun cdv A outer s H vs Q E hr h => ?_)
  have nd := sc_check_written.nd
  have hu := hu_of hr
  refine ⟨_, (pss_cons (ps_set (i := 2) nd rfl (Or.inl rfl) (pe_met0 G_Changes_texts (hr.mono (by decide)) (pv 0)))
      (pss_one (ps_for PassesOwn.never rfl (pi_tup (pe_met0 G_Marking_texts (hr.mono (by decide)) (pv 1))) (pg_name (i := 3) nd rfl (Or.inl rfl)) (pss_one (ps_if (pt_cmpR (op_notInK (K := K)) (pv 3) (pv 2) (by rfl)) (pss_one ps_never) pss_nil))))), ?_⟩
  obtain ⟨_, p, q, rows, es, rfl, hc, nd1, few, hm, ok, sub, k⟩ := h
  obtain ⟨dx, d, us, h1, h2, h3⟩ := id hc
  refine ⟨_, rfl, p, dx, _, rfl, h1, lk_ne (by decide +kernel), rfl, p, rows, rfl, hc, nd1, few, fun v ys H1 e1 hv my => ?_⟩
  obtain ⟨a, rfl, ha⟩ := hv.strs
  have ha := same_fr _ _ ha
  obtain ⟨mdx, mt, m1, m2⟩ := id hm
  refine ⟨_, rfl, q, mdx, _, rfl, e1 _ _ m1, (lk_ne (by decide +kernel)).trans (lk_ne (by decide +kernel)), rfl, q, es, rfl, hm.up e1, ok, fun u zs H2 e2 hu2 st mz => ?_⟩
  obtain ⟨b, rfl, hb⟩ := hu2.strs
  have hb := same_fr _ _ hb
  refine ⟨b, rfl, ⟨_, SqT.of hb⟩, for_tup (K := K) (xs := zs.map V.str) (fun i σ H' => H' = H2 ∧ ∃ u3, σ = [some (.ref p), some (.ref q), some (.ref a), u3]) ⟨rfl, none, rfl⟩ (fun i σ H' _ ⟨e, _⟩ => SqT.of (by rw [e]; exact hb)) ?_ ?_⟩
  · rintro i x σ H' hi ⟨rfl, u3, rfl⟩
    obtain ⟨t, ht, rfl⟩ := map_some hi
    refine ⟨_, rfl, _, rfl, a, _, rfl, .inr (SqT.of (e2 _ _ ha)), rfl, flat_strs _, _, rfl, ?_⟩
    rw [inV_str]
    have : t ∈ ys := by
      rw [my]
      obtain ⟨e, he, rfl⟩ := List.mem_map.mp ((mz t).mp (List.mem_of_getElem? ht))
      exact sub e he
    rw [decide_eq_true this]
    exact iteF ⟨rfl, _, rfl⟩
  · rintro σ H' ⟨rfl, u3, rfl⟩
    exact k _ (e1.trans e2)
def sp_found_share (K : Fr) : Sp := spx 2 fun vs H Q _ => ∃ (p q : Addr) (rows : Rows) (pool : List Str) (es : Ents), vs = [.ref p, .ref q] ∧ ChAt K H p rows ∧ (rows.map (·.1)).Nodup ∧ rows.length ≤ 60 ∧ (∀ r ∈ rows, RowOk pool r) ∧ MkAt K H q es ∧ EOk es ∧ (∀ e ∈ es, e.2.1 ∈ rows.map (·.1)) ∧
  ∀ v H', Same H H' → RSh K (fr H H') v (shr (fnd (rdOf rows) es) (topE es)) → Q v H'
theorem sc_found_share : FnScope ["changes", "marking", "weights", "weight", "text", "accused"] ["changes", "marking"] (defScope s_found_share) := ⟨rfl, rfl, rfl, by decide +kernel, rfl, by decide +kernel, by decide +kernel⟩
theorem c_found_share (T : Tx K mg) (G_check_written : Cal P w K mg base 2 "_check_written" ["changes", "marking"] (sp_check_written K)) (G_accused_by : Cal P w K mg base 1 "accused_by" ["accused", "readable"] sp_accused_by) (G_Changes_of : Met P w K mg base 1 (He.ga K "Changes") "of" ["self", "text"] (sp_Changes_of K)) (G_Share___init : Mak P w K mg base 2 "Share" (He.ga K "Share") ["self", "over", "under"] (sp_Share___init K)) : Cal P w K mg base 4 "found_share" ["changes", "marking"] (sp_found_share K) := by
  refine T.cal 44 rfl 16 rfl sc_found_share (fun _ _ _ _ h => h.1) (fun _ _ _ _ _ _ us hl => match us, hl with | [_, _], _ => rfl) (fun cdv A outer s H vs Q E hr h => ?_)
  have nd := sc_found_share.nd
  have hu := hu_of hr
  refine ⟨_, (pss_cons (ps_expr (pe_cal G_check_written (hr.mono (by decide)) (pa_cons (pv 0) (pa_cons (pv 1) pa_nil))))
      (pss_cons (ps_setLc (i := 2) (own := [("weight", 3), ("text", 4), ("accused", 5)]) (g := (gTup K 3 (gCons (gName 3) (gCons (gName 4) (gCons (gName 5) gNil))))) (by rfl) nd rfl rfl (sw_true rfl rfl rfl (by decide +kernel)) (pi_tup (pe_fldK (K := K) (pv 1) rfl)) (blkOk_by (own := [("weight", 3), ("text", 4), ("accused", 5)]) (N := ["changes", "marking", "weights", "weight", "text", "accused"]) (sc := defScope s_found_share) (by decide +kernel)) (fun _ _ _ _ _ => (pg_tupK (K := K) 3 rfl (pgs_cons (pg_name (i := 3) nd rfl (Or.inl rfl)) (pgs_cons (pg_name (i := 4) nd rfl (Or.inl rfl)) (pgs_cons (pg_name (i := 5) nd rfl (Or.inl rfl)) pgs_nil))))) (fun _ _ _ _ _ => (pts_one (pt_val (pe_cal G_accused_by (hr.mono (by decide)) (pa_cons (pv 5) (pa_cons (pe_met G_Changes_of (hr.mono (by decide)) (pv 0) (pa_cons (pv 4) pa_nil)) pa_nil)))))) (fun _ _ _ _ _ => (pv 3)))
      (pss_one (ps_ret (pe_mak G_Share___init (hr.mono (by decide)) (pa_cons (pe_callB (cr_sum rfl) (by rfl) T.f_sum (by decide +kernel) (pa_cons (pv 2) pa_nil)) (pa_cons (pe_fldK (K := K) (pv 1) rfl) pa_nil))))))), ?_⟩
  obtain ⟨_, p, q, rows, pool, es, rfl, hc, nd1, few, rok, hm, ok, sub, k⟩ := h
  refine ⟨_, rfl, _, rfl, rfl, p, q, rows, es, rfl, hc, nd1, few, hm, ok, sub, fun H1 e1 => ?_⟩
  obtain ⟨dx, d, us, h1, h2, h3⟩ := id hc
  obtain ⟨mdx, mt, m1, ⟨t', vs, et, ht, hp⟩⟩ := id hm
  cases et
  have fewe := ok.few
  have vl := paired_len hp
  refine ⟨_, rfl, q, _, mdx, _, _, rfl, e1 _ _ m1, T.cl_Marking, T.n_Marking_entries, lk_eq, mt, rfl, ⟨_, SqT.of (e1 _ _ ht)⟩, fun D hD => ?_⟩
  refine lc_new (n := vs.length) walk_tup (stepS H1) RInt (fun i bs => bs.sum = fnd (rdOf rows) (es.take i)) hD (fun H' e => SqT.of (e _ _ (e1 _ _ ht))) (fun i H x H' y => yAt_same y) (sz_lt (by omega)) rfl (fun i x bs H2 H3 Kc Rc hi hb e2 e3 _ hy k1 k2 => ?_) (fun H2 ys bs e2 hv hr hb => ?_)
  · obtain ⟨⟨n, s, ac⟩, hy2, ⟨z, u1, u2, u3, rfl, hz, rfl, rfl, hac⟩⟩ := paired_get hp hy.2
    obtain ⟨ac', hac, pmac⟩ := hac
    have e13 := e1.trans e3
    obtain ⟨r, hr, er⟩ := List.mem_map.mp (sub _ (List.mem_of_getElem? hy2))
    have er : r.1 = s := er
    subst er
    refine ⟨z, _, rfl, SqT.of (e13 _ _ hz), rfl, _, _, rfl, _, _, rfl, _, _, rfl, rfl, rfl, ?_⟩
    refine ⟨_, rfl, _, rfl, p, dx, _, rfl, e13 _ _ h1, lk_ne (by decide +kernel), _, rfl, rfl, p, rows, r, rfl, hc.up e13, nd1, hr, fun v hv => ?_⟩
    refine ⟨rfl, _, v, ac, ac', r.2, rfl, Mo.up e13 hac, pmac, hv, (by have := (rok r hr).few; omega), fun H4 e4 => ⟨_, rfl, ?_⟩⟩
    have more : fnd (rdOf rows) (es.take (i + 1)) = fnd (rdOf rows) (es.take i) + if (r.2.all fun x => decide (x ∈ ac)) = true then n else 0 := by
      rw [take_more hy2, fnd_app, ← rdOf_mem nd1 hr]
      show _ + ((if (rdOf rows r.1).all (fun x => decide (x ∈ ac)) = true then n else 0) + 0) = _; omega
    refine ite2 (fun c => ?_) (fun c => ?_)
    · refine ⟨_, rfl, k1 n _ _ e4 rfl ?_⟩
      rw [List.sum_append, hb, more, if_pos c]; show _ + (n + 0) = _; omega
    · refine k2 _ e4 ?_
      rw [hb, more, if_neg c]; omega
  · rw [vl, List.take_length] at hb
    have hD1 := same_fr _ _ (lstI_at hr)
    have e12 := e1.trans e2
    refine ⟨_, rfl, D, bs, rfl, SqL.of hD1, _, rfl, q, _, mdx, _, _, rfl, e12 _ _ m1, T.cl_Marking, T.n_Marking_whole, (lk_ne (by decide +kernel)).trans lk_eq, ?_⟩
    rw [hb]
    exact fun x dx nx nd ne => share_make nx nd ne (topE_pos ok) ((topE_bd ok).mono (by decide)) fun H2 e r => ⟨rfl, k _ _ (e12.trans e) (Mo.up (fr_old e12) r)⟩
end
end MH
/-! part R8 -/
set_option Elab.async false
set_option linter.all false
set_option maxRecDepth 100000
set_option maxHeartbeats 4000000
/-! y = {k: v for ..}, y a local name. -/
namespace MH
open PySem PySem.Spec PyProof.Rows L2
/-- in the comprehension's own scope -/
abbrev InC (X : Cx) (sc : Scope) (Φ : Cx → Prop) : Prop := ∀ (z : Shared) (G : Hp) (c : Addr) (l : List (Str × Addr)) (b : List Addr), Φ (X.blk z G sc (compEnvC sc l c X.env) b)
section
variable {X : Cx}
theorem ps_setDc {i : Nat} {y : Str} {py pos spos : Pos} {kx vx tg it : Expr} {ifs : List Expr} {sc : Scope} {own : List (Str × Nat)} {wi : TI} {g : TG} {tt : TT} {tk tv : TE}
    (calm : X.calm = true) (nd : X.N.Nodup) (at_ : X.N[i]? = some y) (loc : X.env.scope.names.lookup y = some .local)
    (sw : swapsWith (.DictComp kx vx [⟨tg, it, ifs, 0⟩] sc pos) (some (.Name y py)) spos.line X.env = pure true)
    (hi : PI X tg it wi) (ok : BlkOk X.N X.env.scope sc own) (hg : InC X sc fun Z => PG Z tg g) (ht : InC X sc fun Z => PTs Z ifs tt) (hk : InC X sc fun Z => PE Z kx tk) (hv : InC X sc fun Z => PE Z vx tv)
    (fold : ∀ x, foldedSetIterable it X.env x = pure x := by intro _; rfl) :
    PS X (.Assign [.Name y py] (.DictComp kx vx [⟨tg, it, ifs, 0⟩] sc pos) spos) (tAsg (tDc wi g tt tk tv (own.map (·.2))) (gName i)) := by
  constructor
  intro pins s σ H D I h
  rw [exec_Assign_Name_used _ _ _ _ sw]
  refine wpAny_bind (wpAny_standAt (wpAny_bind ?_))
  show wpAny _ X.A (do
    let _ ← comprehension (.DictComp kx vx [⟨tg, it, ifs, 0⟩] sc pos) sc X.env (firstIterPos [⟨tg, it, ifs, 0⟩] pos) newDict false (eval it X.env) (some (assign (.Name y py) X.env))) _ _ s
  have core := dc_core (pos := pos) (use := some (assign (.Name y py) X.env)) (pos' := firstIterPos [⟨tg, it, ifs, 0⟩] pos) (Qf := fun _ z => SP X pins D .next z) (Q := fun x H1 => gName i x σ H1 D.nx) calm nd I hi ok hg ht hk hv fold h
  refine wpAny_bind (thn (core fun L C z m H' I' q hn f => ?_) fun _ _ hq => wpAny_pure (wpAny_pure hq))
  obtain ⟨f0, f1, f2, f3, f4, f5⟩ := f
  refine wpAny_assign_Name (store_ok2 (v := V.ref L) I' nd at_ (.inl loc) rfl (fun z2 I2 ⟨a, sb, ha⟩ => ⟨m, hn.sameBut sb ?_, fun h3 sb3 => ⟨_, H', ?_, q⟩⟩) (.inr loc))
  · rcases ha with e | e
    · rw [e]; exact f1
    · exact fun e2 => f4 y a e e2.symm
  · exact I2.turned (t' := z2.toks) (fun b o hb e => (sb3.2 b hb).trans e) f0 f1 f3 f4 f5
theorem sw_dict {kx vx : Expr} {gs : List Comprehension} {sc : Scope} {pos py : Pos} {y : Str} {l : Nat} {env : Env} (k : env.scope.kind = .function) (loc : env.scope.names.lookup y = some .local) (line : (py.line == pos.line) = true)
    (no : (sc.names.any fun (n, k) => n == y && (k == .local || k == .cell)) = false) : swapsWith (.DictComp kx vx gs sc pos) (some (.Name y py)) l env = pure true := by
  have e1 : env.kindOf y = some .local := loc
  have e2 : env.blockKind = .function := by
    unfold Env.blockKind
    rw [k]; rfl
  unfold swapsWith
  simp only [e2, e1, no, Expr.pos, line]
  rfl
end
end MH
/-! part D17 -/
set_option Elab.async false
set_option linter.all false
set_option maxRecDepth 100000
set_option maxHeartbeats 4000000
namespace MH
open PySem PySem.Spec PyProof.Rows L2
section
variable {P : Program} {w : World} {K : Fr} {mg : Str → Option Value} {base : Heap}
def sp_accused_weights (K : Fr) : Sp := spx 1 fun vs H Q _ => ∃ (p : Addr) (es : Ents) (pool : List Str), vs = [.ref p] ∧ MkAt K H p es ∧ EOk es ∧ (∀ e ∈ es, ∀ t ∈ e.2.2, t ∈ pool) ∧ pool.length ≤ 60 ∧
  ∀ (d : Addr) us H', Same H H' → H d = none → H' d = some (.dK (dct V.int us)) → SmOk es pool us → Q (.ref d) H'
theorem sc_accused_weights : FnScope ["marking", "found", "weight", "_", "accused", "text"] ["marking"] (defScope s_accused_weights) := ⟨rfl, rfl, rfl, by decide +kernel, rfl, by decide +kernel, by decide +kernel⟩
theorem c_accused_weights (T : Tx K mg)  : Cal P w K mg base 1 "_accused_weights" ["marking"] (sp_accused_weights K) := by
  refine T.cal 41 rfl 13 rfl sc_accused_weights (fun _ _ _ _ h => h.1) (fun _ _ _ _ _ _ us hl => match us, hl with | [_], _ => rfl) (fun cdv A outer s H vs Q E hr h => ?_)
  have nd := sc_accused_weights.nd
  have hu := hu_of hr
  refine ⟨_, (pss_cons (ps_set (i := 1) nd rfl (Or.inl rfl) pe_dnewK)
      (pss_cons (ps_for PassesOwn.never rfl (pi_tup (pe_fldK (K := K) (pv 0) rfl)) (pg_tupK (K := K) 3 rfl (pgs_cons (pg_name (i := 2) nd rfl (Or.inl rfl)) (pgs_cons (pg_name (i := 3) nd rfl (Or.inl rfl)) (pgs_cons (pg_name (i := 4) nd rfl (Or.inl rfl)) pgs_nil)))) (pss_one (ps_for PassesOwn.never rfl (pi_tup (pv 4)) (pg_name (i := 5) nd rfl (Or.inl rfl)) (pss_one (ps_dput hu (pv 1) (pv 5) (pe_op op_add (pe_dget2 hu (pv 1) (pv 5) pe_int ⟨rfl, rfl, rfl, rfl⟩) (pv 2)) rfl)))))
      (pss_one (ps_ret (pv 1))))), ?_⟩
  obtain ⟨_, q, es, pool, rfl, ⟨dx, mt, h1, ⟨t', vs, et, hp, hw⟩⟩, eok, hes, few, k⟩ := h
  cases et
  intro D hD
  have npD : mt ≠ D := ne_of_none hp hD
  have nqD : q ≠ D := ne_of_none h1 hD
  refine ⟨_, rfl, q, _, dx, _, _, rfl, by rw [upd_ne nqD]; exact h1, T.cl_Marking, T.n_Marking_entries, lk_eq, mt, rfl, ⟨_, SqT.of (by rw [upd_ne npD]; exact hp)⟩, for_tup (K := K) (xs := vs) (fun i σ H' => ∃ us u2 u3 u4 u5, σ = [some (.ref q), some (.ref D), u2, u3, u4, u5] ∧ Same H H' ∧ H' D = some (.dK (dct V.int us)) ∧ SmOk (es.take i) pool us)
    ⟨[], none, none, none, none, rfl, same_new hD, upd_same, List.nodup_nil, (fun t => rfl), fun _ h => absurd h List.not_mem_nil⟩ (fun i σ H' _ ⟨_, _, _, _, _, _, e, _⟩ => SqT.of (e _ _ hp)) ?_ ?_⟩
  · rintro i x σ H' hi ⟨us, u2, u3, u4, u5, rfl, e, hd, ok⟩
    obtain ⟨⟨n, t, ac⟩, hr, ⟨z, y1, y2, y3, rfl, hq, rfl, rfl, ⟨ac', hz, pm⟩⟩⟩ := paired_get hw hi
    obtain ⟨b, rfl, hb⟩ := hz.strs
    have and : ac'.Nodup := pm.nodup_iff.mpr (eok.ac _ (List.mem_of_getElem? hr)).1
    have asub : ∀ t ∈ ac', t ∈ pool := fun t ht => hes _ (List.mem_of_getElem? hr) t (pm.mem_iff.mp ht)
    have hb' := e _ _ hb
    refine ⟨z, _, rfl, SqT.of (e _ _ hq), rfl, _, _, rfl, _, _, rfl, _, _, rfl, rfl, _, rfl, b, rfl, ⟨_, SqT.of hb'⟩, for_tup (K := K) (xs := ac'.map V.str) (fun j σ H2 => ∃ us u5, σ = [some (.ref q), some (.ref D), some (.int n), some (.str t), some (.ref b), u5] ∧ Same H H2 ∧ H2 D = some (.dK (dct V.int us)) ∧ (us.map (·.1)).Nodup ∧ (∀ t, wof us t = acs (es.take i) t + if t ∈ ac'.take j then n else 0) ∧ ∀ t ∈ us.map (·.1), t ∈ pool)
      ⟨us, u5, rfl, e, hd, ok.nd, (fun t => by rw [ok.val]; simp), ok.sub⟩ (fun j σ H2 _ ⟨_, _, _, e, _⟩ => SqT.of (e _ _ hb)) ?_ ?_⟩
    · rintro j y σ H2 hj ⟨us2, u6, rfl, e2, hd2, nd2, val2, sub2⟩
      obtain ⟨o, ho, rfl⟩ := map_some hj
      have l2 := sub_len nd2 sub2
      rw [List.length_map] at l2
      refine ⟨_, rfl, D, rfl, IsD.of hd2, _, rfl, _, dget_opt hd2, ?_⟩
      have hv := val_wof (t := o) (List.Perm.refl us2) nd2
      rw [hv]
      refine ⟨_, rfl, _, _, rfl, rfl, _, rfl, _, rfl, D, _, rfl, dput_at (f := V.int) hd2 nd2 (by omega), dput us2 o (wof us2 o + n), _, rfl, same_mut e2 hD, upd_same, dput_nodup nd2, fun s => ?_, fun s hs => ?_⟩
      · rw [wof_dput, take_more ho]
        by_cases c : s = o
        · subst c
          have nin : s ∉ ac'.take j := fun m => by
            have hx : ac'.Nodup := and
            rw [← List.take_append_drop (j + 1) ac', take_more ho, List.nodup_append, List.nodup_append] at hx
            exact hx.1.2.2 s m s (List.mem_singleton.mpr rfl) rfl
          rw [if_pos rfl, val2, if_neg nin, if_pos (List.mem_append_right _ (List.mem_singleton.mpr rfl))]; omega
        · rw [if_neg c, val2]
          have : s ∈ ac'.take j ++ [o] ↔ s ∈ ac'.take j := by simp [c]
          simp only [this]
      · rw [dput_keys] at hs
        split at hs
        · exact sub2 s hs
        · rcases List.mem_append.mp hs with h | h
          · exact sub2 s h
          · rw [List.mem_singleton] at h; rw [h]; exact asub o (List.mem_of_getElem? ho)
    · rintro σ H2 ⟨us2, u6, rfl, e2, hd2, nd2, val2, sub2⟩
      refine ⟨us2, _, _, _, _, rfl, e2, hd2, nd2, fun s => ?_, sub2⟩
      rw [val2, List.length_map, List.take_length, take_more hr, acs_app]
      show _ = _ + ((if s ∈ ac then n else 0) + 0)
      have : s ∈ ac' ↔ s ∈ ac := pm.mem_iff
      simp only [this]; omega
  · rintro σ H' ⟨us, u2, u3, u4, u5, rfl, e, hd, ok⟩
    rw [paired_len hw, List.take_length] at ok
    exact ⟨_, rfl, k D us H' e hD hd ok⟩
def sp_accused_at (K : Fr) : Sp := spx 2 fun vs H Q _ => ∃ (p : Addr) (u : V) (es : Ents) (pool : List Str) (s : Int × Int), vs = [.ref p, u] ∧ MkAt K H p es ∧ EOk es ∧ (∀ e ∈ es, ∀ t ∈ e.2.2, t ∈ pool) ∧ pool.length ≤ 60 ∧ RSh K H u s ∧ Bd 3000 s.1 ∧ Bd 3000 s.2 ∧ (∀ t, acs es t * s.2 ≤ s.1 * topE es) ∧
  ∀ H', Same H H' → Q .non H'
theorem sc_accused_at : FnScope ["marking", "level", "weights", "text"] ["marking", "level"] (defScope s_accused_at) := ⟨rfl, rfl, rfl, by decide +kernel, rfl, by decide +kernel, by decide +kernel⟩
theorem c_accused_at (T : Tx K mg) (G_accused_weights : Cal P w K mg base 1 "_accused_weights" ["marking"] (sp_accused_weights K)) (G_Share___init : Mak P w K mg base 2 "Share" (He.ga K "Share") ["self", "over", "under"] (sp_Share___init K)) (G_Share_is_below : Met P w K mg base 1 (He.ga K "Share") "is_below" ["self", "other"] (sp_Share_is_below K)) : Cal P w K mg base 4 "accused_at" ["marking", "level"] (sp_accused_at K) := by
  refine T.cal 42 rfl 14 rfl sc_accused_at (fun _ _ _ _ h => h.1) (fun _ _ _ _ _ _ us hl => match us, hl with | [_, _], _ => rfl) (fun cdv A outer s H vs Q E hr h => ?_)
  have nd := sc_accused_at.nd
  have hu := hu_of hr
  refine ⟨_, (pss_cons (ps_set (i := 2) nd rfl (Or.inl rfl) (pe_cal G_accused_weights (hr.mono (by decide)) (pa_cons (pv 0) pa_nil)))
      (pss_cons (ps_for PassesOwn.never rfl (pi_list (pe_callB (call_sortedD rfl) (by rfl) T.f_sorted (by decide +kernel) (pa_cons (pv 2) pa_nil))) (pg_name (i := 3) nd rfl (Or.inl rfl)) (pss_one (ps_if (pt_val (pe_met G_Share_is_below (hr.mono (by decide)) (pv 1) (pa_cons (pe_mak G_Share___init (hr.mono (by decide)) (pa_cons (pe_dget hu (pv 2) (pv 3) (fun _ _ => rfl)) (pa_cons (pe_fldK (K := K) (pv 0) rfl) pa_nil))) pa_nil))) (pss_one (ps_ret (pv 3))) pss_nil)))
      (pss_one (ps_ret pe_non)))), ?_⟩
  obtain ⟨_, p, u, es, pool, s, rfl, hm, eok, hes, few, hs, b1, b2, hl, k⟩ := h
  obtain ⟨dx, mt, h1, _⟩ := id hm
  obtain ⟨sp, sdx, rfl, hsp⟩ := id hs
  refine ⟨_, rfl, rfl, p, es, pool, rfl, hm, eok, hes, few, fun d us H1 e1 hd0 hd ok => ?_⟩
  have l2 := sub_len ok.nd ok.sub
  refine ⟨_, rfl, d, _, us.map (·.1), rfl, .inl hd, dct_keys us, by omega, fun ys L pm so hL => ?_⟩
  refine ⟨L, rfl, ⟨_, SqL.of upd_same⟩, for_list (K := K) (xs := ys.map V.str) (fun i σ H' => ∃ u3, σ = [some (.ref p), some (.ref sp), some (.ref d), u3] ∧ Same (upd H1 L (.lst (ys.map V.str))) H') ⟨none, rfl, Same.refl _⟩ (fun i σ H' _ ⟨_, _, e⟩ => SqL.of (e _ _ upd_same)) ?_ ?_⟩
  · rintro i x σ H2 hi ⟨u3, rfl, e2⟩
    obtain ⟨t, ht, rfl⟩ := map_some hi
    have e12 : Same H1 H2 := (same_new hL).trans e2
    obtain ⟨⟨t', n⟩, hn, et⟩ := List.mem_map.mp (pm.mem_iff.mp (List.mem_of_getElem? ht))
    cases et
    have nv : n = acs es t' := by rw [← ok.val, wof_some ok.nd hn]
    have g := dget_some (f := V.int) (e12 _ _ hd) ok.nd hn
    have tp := topE_pos eok
    have e02 := e1.trans e12
    have nb := acs_le (es := es) (t := t') fun e he => (eok.pos e he).1
    have tb := topE_le eok
    have bn : Bd 60 n := by rw [nv]; unfold Bd; omega
    obtain ⟨t1, t2⟩ := shr_bd tp bn (topE_bd eok)
    refine ⟨_, rfl, sp, sdx, _, rfl, e02 _ _ hsp, shF_no (by decide +kernel) (by decide +kernel), _, rfl, _, rfl, d, .int n, rfl, g, _, rfl, p, _, dx, _, _, rfl, e02 _ _ h1, T.cl_Marking, T.n_Marking_whole, (lk_ne (by decide +kernel)).trans lk_eq, ?_⟩
    refine fun x dx nx nd ne => share_make nx nd ne tp ((topE_bd eok).mono (by decide)) fun H3 e3 r => ⟨rfl, ?_⟩
    refine ⟨rfl, _, _, s, shr n (topE es), rfl, Mo.up (e02.trans e3) hs, Mo.up same_fr r, b1.mono (by decide), b2.mono (by decide), t1.mono (by decide), t2.mono (by decide), _, rfl, ?_⟩
    refine iteN (fun lt => ?_) ⟨_, rfl, e2.trans e3⟩
    have m1 := shr_mul1 n (topE es)
    have m2 := shr_mul2 n (topE es)
    have g0 : (0 : Int) < gcdI n (topE es) := Int.natCast_pos.mpr (gcdI_pos tp)
    have hle := hl t'
    rw [← nv] at hle
    have lt' := Int.mul_lt_mul_of_pos_right lt g0
    have a1 : s.1 * (shr n (topE es)).2 * (gcdI n (topE es) : Int) = s.1 * topE es := by rw [Int.mul_assoc, m2]
    have a2 : (shr n (topE es)).1 * s.2 * (gcdI n (topE es) : Int) = n * s.2 := by rw [Int.mul_comm _ s.2, Int.mul_assoc, m1, Int.mul_comm]
    rw [a1, a2] at lt'
    omega
  · rintro σ H2 ⟨u3, rfl, e2⟩
    exact k _ (e1.trans ((same_new hL).trans e2))
def sp_seen_at (K : Fr) : Sp := spx 2 fun vs H Q _ => ∃ (p q : Addr) (ws : Ws) (es : Ents), vs = [.ref p, .ref q] ∧ (SrcAt K "Table" H p ws ∨ SrcAt K "Machine" H p ws) ∧ WOk ws ∧ MkAt K H q es ∧ EOk es ∧ Bd 3000 (tot ws) ∧ (∀ e ∈ es, e.2.1 ∈ ws.map (·.1)) ∧ (∀ t, psum (prs es) t * tot ws = wof ws t * topE es) ∧
  ∀ H', Same H H' → Q .non H'
theorem sc_seen_at : FnScope ["source", "marking", "text", "texts"] ["source", "marking"] (defScope s_seen_at) := ⟨rfl, rfl, rfl, by decide +kernel, rfl, by decide +kernel, by decide +kernel⟩
theorem c_seen_at (T : Tx K mg) (G_Table_texts : Met P w K mg base 1 (He.ga K "Table") "texts" ["self"] (sp_Table_texts K)) (G_Machine_texts : Met P w K mg base 1 (He.ga K "Machine") "texts" ["self"] (sp_Machine_texts K)) (G_Marking_texts : Met P w K mg base 1 (He.ga K "Marking") "texts" ["self"] (sp_Marking_texts K)) (G_Marking_written_share : Met P w K mg base 4 (He.ga K "Marking") "written_share" ["self", "text"] (sp_Marking_written_share K)) (G_Table_share_of : Met P w K mg base 4 (He.ga K "Table") "share_of" ["self", "text"] (sp_Table_share_of K)) (G_Machine_share_of : Met P w K mg base 4 (He.ga K "Machine") "share_of" ["self", "text"] (sp_Machine_share_of K)) (G_Share___eq : Met P w K mg base 1 (He.ga K "Share") "__eq__" ["self", "other"] (sp_Share___eq K)) : Cal P w K mg base 5 "seen_at" ["source", "marking"] (sp_seen_at K) := by
  refine T.cal 40 rfl 12 rfl sc_seen_at (fun _ _ _ _ h => h.1) (fun _ _ _ _ _ _ us hl => match us, hl with | [_, _], _ => rfl) (fun cdv A outer s H vs Q E hr h => ?_)
  have nd := sc_seen_at.nd
  have hu := hu_of hr
  refine ⟨_, (pss_cons (ps_setDc (i := 3) (own := [("text", 2)]) (g := (gName 2)) (tt := tYes) (by rfl) nd rfl rfl (sw_dict rfl rfl rfl (by decide +kernel)) (pi_tup (pe_op op_catA (pe_eor (pe_met0 G_Table_texts (hr.mono (by decide)) (pv 0)) (pe_met0 G_Machine_texts (hr.mono (by decide)) (pv 0))) (pe_met0 G_Marking_texts (hr.mono (by decide)) (pv 1)))) (blkOk_by (own := [("text", 2)]) (N := ["source", "marking", "text", "texts"]) (sc := defScope s_seen_at) (by decide +kernel)) (fun _ _ _ _ _ => (pg_name (i := 2) nd rfl (Or.inl rfl))) (fun _ _ _ _ _ => pts_nil) (fun _ _ _ _ _ => (pv 2)) (fun _ _ _ _ _ => pe_bl))
      (pss_cons (ps_for PassesOwn.never rfl (pi_list (pe_callB (call_sortedD rfl) (by rfl) T.f_sorted (by decide +kernel) (pa_cons (pv 3) pa_nil))) (pg_name (i := 2) nd rfl (Or.inl rfl)) (pss_one (ps_if (pt_cmpR (op_neShare T G_Share___eq (hr.mono (by decide))) (pe_met G_Marking_written_share (hr.mono (by decide)) (pv 1) (pa_cons (pv 2) pa_nil)) (pe_eor (pe_met G_Table_share_of (hr.mono (by decide)) (pv 0) (pa_cons (pv 2) pa_nil)) (pe_met G_Machine_share_of (hr.mono (by decide)) (pv 0) (pa_cons (pv 2) pa_nil))) (nomark _)) (pss_one (ps_ret (pv 2))) pss_nil)))
      (pss_one (ps_ret pe_non)))), ?_⟩
  obtain ⟨_, p, q, ws, es, rfl, hs, wok, hm, eok, bd, hsub, hl, k⟩ := h
  refine src_texts rfl hs wok fun o H1 e1 hr => ?_
  obtain ⟨a, rfl, ha⟩ := hr.strs
  have ha := same_fr _ _ ha
  obtain ⟨mdx, mt, m1, m2⟩ := id hm
  refine ⟨_, rfl, q, mdx, _, rfl, e1 _ _ m1, (lk_ne (by decide +kernel)).trans (lk_ne (by decide +kernel)), rfl, q, es, rfl, hm.up e1, eok, fun u zs H2 e2 hu2 st mz => ?_⟩
  obtain ⟨b, rfl, hb⟩ := hu2.strs
  have hb := same_fr _ _ hb
  have zne : zs ≠ [] := fun z => by
    cases ee : es with
    | nil => exact eok.one ee
    | cons e r =>
      have := (mz e.2.1).mpr (by rw [ee]; exact List.mem_cons_self)
      rw [z] at this; exact List.not_mem_nil this
  have zsub : ∀ t ∈ zs, t ∈ ws.map (·.1) := fun t ht => by
    obtain ⟨e, he, rfl⟩ := List.mem_map.mp ((mz t).mp ht)
    exact hsub e he
  have zl := sub_len st.nodup zsub
  rw [List.length_map] at zl
  have wl := wok.few
  refine ⟨a, b, (ws.map (·.1)).map V.str, zs.map V.str, rfl, rfl, SqT.of (e2 _ _ ha), SqT.of hb, by rw [List.length_map, List.length_map, List.length_map, sizeLine_eq]; omega, fun z => absurd (by simpa using z) wok.one, fun _ z => absurd (by simpa using z) zne, fun _ _ C hC => ?_⟩
  rw [← List.map_append]
  generalize hxs : ws.map (·.1) ++ zs = xs
  have xsub : ∀ t ∈ xs, t ∈ ws.map (·.1) := fun t ht => by
    rw [← hxs] at ht
    exact (List.mem_append.mp ht).elim id (zsub t)
  generalize hH3 : upd H2 C (.tup (xs.map V.str)) = H3
  have e23 : Same H2 H3 := by rw [← hH3]; exact same_new hC
  have hC3 : H3 C = some (.tup (xs.map V.str)) := by rw [← hH3]; exact upd_same
  refine ⟨C, rfl, ⟨_, SqT.of hC3⟩, fun D hD => ?_⟩
  refine dc_tup (K := K) (a := C) (xs := xs.map V.str) (fun i H' => Same H3 H' ∧ ∃ us, H' D = some (.dK (dct V.bl us)) ∧ (us.map (·.1)).Nodup ∧ ∀ t ∈ us.map (·.1), t ∈ ws.map (·.1)) ⟨same_new hD, [], upd_same, List.nodup_nil, fun _ h => absurd h List.not_mem_nil⟩ (fun i H' _ ⟨e, _⟩ => SqT.of (e _ _ hC3)) ?_ ?_
  · rintro i x H4 hi ⟨e4, us, hd, nd1, sub⟩
    obtain ⟨t, ht, rfl⟩ := map_some hi
    have l := sub_len nd1 sub
    rw [List.length_map, List.length_map] at l
    refine ⟨rfl, yes_t ?_⟩
    refine ⟨_, rfl, dct V.bl us, kT t, rfl, hd, by rw [dct_len, sizeLine_eq]; omega, same_mut e4 hD, dput us t true, ?_, dput_nodup nd1, fun y hy => ?_⟩
    · rw [upd_same]; exact congrArg (fun z => some (HO.dK z)) (dct_put (f := V.bl) (x := true) nd1)
    · rw [dput_keys] at hy
      split at hy
      · exact sub y hy
      · rcases List.mem_append.mp hy with h | h
        · exact sub y h
        · rw [List.mem_singleton] at h; rw [h]; exact xsub t (List.mem_of_getElem? ht)
  · rintro H4 ⟨e4, us, hd, nd1, sub⟩
    have l := sub_len nd1 sub
    rw [List.length_map, List.length_map] at l
    have e04 := ((e1.trans e2).trans e23).trans e4
    refine ⟨_, rfl, D, _, us.map (·.1), rfl, .inl hd, dct_keys us, by rw [List.length_map]; omega, fun ys L pm so hL => ?_⟩
    refine ⟨L, rfl, ⟨_, SqL.of upd_same⟩, for_list (K := K) (xs := ys.map V.str) (fun i σ H' => ∃ u3, σ = [some (.ref p), some (.ref q), u3, some (.ref D)] ∧ Same (upd H4 L (.lst (ys.map V.str))) H') ⟨none, rfl, Same.refl _⟩ (fun i σ H' _ ⟨_, _, e⟩ => SqL.of (e _ _ upd_same)) ?_ ?_⟩
    · rintro i x σ H5 hi ⟨u3, rfl, e5⟩
      obtain ⟨t, ht, rfl⟩ := map_some hi
      have e05 := (e04.trans (same_new hL)).trans e5
      refine ⟨_, rfl, q, mdx, _, rfl, e05 _ _ m1, (lk_ne (by decide +kernel)).trans (lk_ne (by decide +kernel)), _, rfl, rfl, q, es, t, rfl, hm.up e05, eok, fun v H6 e6 r6 => ?_⟩
      have e06 := e05.trans e6
      refine src_share rfl rfl (hs.imp (SrcAt.up e06) (SrcAt.up e06)) wok bd fun r H7 e7 r7 => ?_
      have r6' := Mo.up (same_fr.trans e7) r6
      have r7' := Mo.up same_fr r7
      obtain ⟨x1, d1, rfl, g1⟩ := id r6'
      obtain ⟨x2, d2, rfl, g2⟩ := id r7'
      refine ⟨x1, x2, d1, d2, _, _, rfl, rfl, g1, g2, rfl, _, _, _, _, rfl, r6', r7', _, rfl, ?_⟩
      have eq : shr (psum (prs es) t) (topE es) = shr (wof ws t) (tot ws) := shr_eq (topE_pos eok) (tot_pos wok.pos wok.one) (hl t)
      rw [decide_eq_true eq]
      refine ⟨_, rfl, iteF ⟨_, rfl, e5.trans (e6.trans e7)⟩⟩
    · rintro σ H5 ⟨u3, rfl, e5⟩
      exact k _ ((e04.trans (same_new hL)).trans e5)
end
end MH
/-! part M1_Det -/
set_option Elab.async false
set_option linter.all false
set_option maxRecDepth 100000
/-! Mathematics 1: finite sums and determinants over Int, plain Lean. -/
namespace MK

/-- f 0 + .. + f (n - 1) -/
def sm : Nat → (Nat → Int) → Int
  | 0, _ => 0
  | n + 1, f => sm n f + f n

theorem sm_congr {f g : Nat → Int} : ∀ {n : Nat}, (∀ i, i < n → f i = g i) → sm n f = sm n g
  | 0, _ => rfl
  | n + 1, h => by
    show sm n f + f n = sm n g + g n
    rw [sm_congr (n := n) (fun i hi => h i (by omega)), h n (by omega)]
theorem sm_zero {f : Nat → Int} : ∀ {n : Nat}, (∀ i, i < n → f i = 0) → sm n f = 0
  | 0, _ => rfl
  | n + 1, h => by
    show sm n f + f n = 0
    rw [sm_zero (n := n) (fun i hi => h i (by omega)), h n (by omega)]; rfl
theorem sm_add (n : Nat) (f g : Nat → Int) : sm n (fun i => f i + g i) = sm n f + sm n g := by
  induction n with
  | zero => rfl
  | succ n ih => show sm n _ + (f n + g n) = sm n f + f n + (sm n g + g n); rw [ih]; omega
theorem sm_mul (n : Nat) (a : Int) (f : Nat → Int) : sm n (fun i => a * f i) = a * sm n f := by
  induction n with
  | zero => show (0 : Int) = a * 0; omega
  | succ n ih => show sm n _ + _ = a * (sm n f + f n); rw [ih]; grind
theorem sm_one {f : Nat → Int} {n p : Nat} (hp : p < n) (h : ∀ i, i < n → i ≠ p → f i = 0) : sm n f = f p := by
  induction n with
  | zero => omega
  | succ n ih =>
    show sm n f + f n = f p
    by_cases e : p = n
    · subst e
      rw [sm_zero fun i hi => h i (by omega) (by omega)]; omega
    · rw [ih (by omega) (fun i hi => h i (by omega)), h n (by omega) (by omega)]; omega
theorem sm_two {f : Nat → Int} {n p q : Nat} (hp : p < n) (hq : q < n) (pq : p ≠ q) (h : ∀ i, i < n → i ≠ p → i ≠ q → f i = 0) : sm n f = f p + f q := by
  have e : sm n f = sm n (fun i => (if i = p then f p else 0) + (if i = q then f q else 0)) := by
    refine sm_congr fun i hi => ?_
    by_cases e1 : i = p
    · subst e1; simp [pq]
    · by_cases e2 : i = q
      · subst e2; simp [e1]
      · simp [e1, e2, h i hi e1 e2]
  rw [e, sm_add, sm_one (p := p) hp (fun i _ hi => by simp [hi]), sm_one (p := q) hq (fun i _ hi => by simp [hi])]
  simp
theorem sm_nonneg {f : Nat → Int} : ∀ {n : Nat}, (∀ i, i < n → 0 ≤ f i) → 0 ≤ sm n f
  | 0, _ => Int.le_refl 0
  | n + 1, h => by
    show 0 ≤ sm n f + f n
    have := sm_nonneg (n := n) (f := f) (fun i hi => h i (by omega))
    have := h n (by omega)
    omega
theorem sm_le {f g : Nat → Int} : ∀ {n : Nat}, (∀ i, i < n → f i ≤ g i) → sm n f ≤ sm n g
  | 0, _ => Int.le_refl 0
  | n + 1, h => by
    show sm n f + f n ≤ sm n g + g n
    have := sm_le (n := n) (f := f) (g := g) (fun i hi => h i (by omega))
    have := h n (by omega)
    omega
theorem sm_pos_of {f : Nat → Int} : ∀ {n : Nat}, 0 < sm n f → ∃ i, i < n ∧ 0 < f i
  | 0, h => absurd (show (0 : Int) < 0 from h) (by decide)
  | n + 1, h => by
    by_cases c : 0 < f n
    · exact ⟨n, by omega, c⟩
    · have h' : 0 < sm n f + f n := h
      obtain ⟨i, hi, hf⟩ := sm_pos_of (n := n) (f := f) (by omega)
      exact ⟨i, by omega, hf⟩
theorem sm_ge_one {f : Nat → Int} {n p : Nat} (hp : p < n) (h : ∀ i, i < n → 0 ≤ f i) : f p ≤ sm n f := by
  induction n with
  | zero => omega
  | succ n ih =>
    show f p ≤ sm n f + f n
    by_cases e : p = n
    · subst e
      have := sm_nonneg (n := p) (f := f) fun i hi => h i (by omega)
      omega
    · have := ih (by omega) fun i hi => h i (by omega)
      have := h n (by omega)
      omega
theorem sm_swap (n m : Nat) (f : Nat → Nat → Int) : sm n (fun i => sm m (fun j => f i j)) = sm m (fun j => sm n (fun i => f i j)) := by
  induction n with
  | zero => exact (sm_zero fun _ _ => rfl).symm
  | succ n ih =>
    show sm n _ + _ = _
    rw [ih, ← sm_add]
    rfl
theorem sm_split (a b : Nat) (f : Nat → Int) : sm (a + b) f = sm a f + sm b (fun i => f (a + i)) := by
  induction b with
  | zero => show sm a f = sm a f + 0; omega
  | succ b ih => show sm (a + b) f + f (a + b) = sm a f + (sm b _ + f (a + b)); rw [ih]; omega

/-! ### determinants: rows v 0, .., v (k - 1), expanded by the first coordinate -/
def ups (v : Nat → Nat → Int) (i : Nat) (x : Nat → Int) : Nat → Nat → Int := fun k => if k = i then x else v k
def drp (v : Nat → Nat → Int) (p : Nat) : Nat → Nat → Int := fun i => if i < p then v i else v (i + 1)
def tls (v : Nat → Nat → Int) : Nat → Nat → Int := fun i j => v i (j + 1)
def sgn (p : Nat) : Int := if p % 2 = 0 then 1 else -1
def det : Nat → (Nat → Nat → Int) → Int
  | 0, _ => 1
  | k + 1, v => sm (k + 1) fun p => sgn p * v p 0 * det k (tls (drp v p))

theorem sgn_succ (p : Nat) : sgn (p + 1) = - sgn p := by
  unfold sgn
  by_cases h : p % 2 = 0
  · rw [if_neg (by omega), if_pos h]
  · rw [if_pos (by omega), if_neg h]; rfl
theorem ups_self {v : Nat → Nat → Int} {i : Nat} {x : Nat → Int} : ups v i x i = x := if_pos rfl
theorem ups_ne {v : Nat → Nat → Int} {i k : Nat} {x : Nat → Int} (h : k ≠ i) : ups v i x k = v k := if_neg h
theorem ups_id (v : Nat → Nat → Int) (i : Nat) : ups v i (v i) = v := by
  funext k; unfold ups; split
  · next h => rw [h]
  · rfl
theorem ups_ups (v : Nat → Nat → Int) (i : Nat) (x y : Nat → Int) : ups (ups v i x) i y = ups v i y := by
  funext k; unfold ups; split <;> rfl
theorem ups_comm (v : Nat → Nat → Int) {i j : Nat} (h : i ≠ j) (x y : Nat → Int) : ups (ups v i x) j y = ups (ups v j y) i x := by
  funext k; unfold ups; split
  · next e => rw [if_neg (by omega)]
  · rfl

theorem det_congr : ∀ {k : Nat} {v w : Nat → Nat → Int}, (∀ i, i < k → ∀ j, j < k → v i j = w i j) → det k v = det k w
  | 0, _, _, _ => rfl
  | k + 1, v, w, h => by
    show sm (k + 1) _ = sm (k + 1) _
    refine sm_congr fun p hp => ?_
    have e : det k (tls (drp v p)) = det k (tls (drp w p)) := det_congr fun i hi j hj => by
      unfold tls drp
      split
      · exact h i (by omega) (j + 1) (by omega)
      · exact h (i + 1) (by omega) (j + 1) (by omega)
    rw [h p hp 0 (by omega), e]
theorem drp_ups_self (v : Nat → Nat → Int) (i : Nat) (x : Nat → Int) : drp (ups v i x) i = drp v i := by
  funext k; unfold drp ups; split
  · next h => rw [if_neg (by omega)]
  · next h => rw [if_neg (by omega)]
theorem drp_ups_ne (v : Nat → Nat → Int) {p i : Nat} (h : p ≠ i) (x : Nat → Int) : tls (drp (ups v i x) p) = ups (tls (drp v p)) (if i < p then i else i - 1) (fun j => x (j + 1)) := by
  funext k j
  unfold tls drp ups
  by_cases c : i < p
  · rw [if_pos c]
    by_cases c2 : k < p
    · simp only [c2, if_true]; split <;> rfl
    · simp only [c2, if_false]; rw [if_neg (by omega), if_neg (by omega)]
  · rw [if_neg c]
    by_cases c2 : k < p
    · simp only [c2, if_true]; rw [if_neg (by omega), if_neg (by omega)]
    · simp only [c2, if_false]
      by_cases e : k + 1 = i
      · rw [if_pos e, if_pos (by omega)]
      · rw [if_neg e, if_neg (by omega)]
theorem det_lin : ∀ {k : Nat} {v : Nat → Nat → Int} {i : Nat} (a b : Int) (x y : Nat → Int), i < k →
    det k (ups v i (fun j => a * x j + b * y j)) = a * det k (ups v i x) + b * det k (ups v i y)
  | 0, _, _, _, _, _, _, h => absurd h (Nat.not_lt_zero _)
  | k + 1, v, i, a, b, x, y, h => by
    show sm (k + 1) _ = a * sm (k + 1) _ + b * sm (k + 1) _
    rw [← sm_mul, ← sm_mul, ← sm_add]
    refine sm_congr fun p hp => ?_
    by_cases e : p = i
    · subst e
      rw [drp_ups_self, drp_ups_self, drp_ups_self, ups_self, ups_self, ups_self]
      grind
    · rw [drp_ups_ne v e, drp_ups_ne v e, drp_ups_ne v e, ups_ne e, ups_ne e, ups_ne e, det_lin a b _ _ (by split <;> omega)]
      grind
theorem det_smul {k : Nat} {v : Nat → Nat → Int} {i : Nat} (a : Int) (x : Nat → Int) (h : i < k) : det k (ups v i (fun j => a * x j)) = a * det k (ups v i x) := by
  have := det_lin (v := v) a 0 x x h
  have e : (fun j => a * x j + 0 * x j) = (fun j => a * x j) := by funext j; omega
  rw [e] at this
  rw [this]; omega
theorem det_add {k : Nat} {v : Nat → Nat → Int} {i : Nat} (x y : Nat → Int) (h : i < k) : det k (ups v i (fun j => x j + y j)) = det k (ups v i x) + det k (ups v i y) := by
  have := det_lin (v := v) 1 1 x y h
  have e : (fun j => 1 * x j + 1 * y j) = (fun j => x j + y j) := by funext j; omega
  rw [e] at this
  rw [this]; omega
theorem det_sum {k : Nat} {v : Nat → Nat → Int} {i : Nat} (h : i < k) (c : Nat → Int) (x : Nat → Nat → Int) : ∀ n : Nat,
    det k (ups v i (fun j => sm n (fun q => c q * x q j))) = sm n (fun q => c q * det k (ups v i (x q)))
  | 0 => by
    have := det_smul (v := v) 0 (fun _ => 0) h
    have e : (fun _ : Nat => (0 : Int) * 0) = (fun j => sm 0 (fun q => c q * x q j)) := by funext j; rfl
    rw [e] at this
    rw [this]; show (0 : Int) * _ = 0; omega
  | n + 1 => by
    have e : (fun j => sm (n + 1) (fun q => c q * x q j)) = (fun j => (fun j => sm n (fun q => c q * x q j)) j + (fun j => c n * x n j) j) := rfl
    rw [e, det_add _ _ h, det_sum h c x n, det_smul _ _ h]
    rfl
theorem det_adj : ∀ {k p : Nat} {v : Nat → Nat → Int}, p + 1 < k → v p = v (p + 1) → det k v = 0
  | 0, _, _, h, _ => absurd h (Nat.not_lt_zero _)
  | k + 1, p, v, h, hv => by
    show sm (k + 1) _ = 0
    rw [sm_two (p := p) (q := p + 1) (by omega) h (by omega) fun q hq h1 h2 => ?_]
    · have e : drp v p = drp v (p + 1) := by
        funext i; unfold drp
        by_cases c : i < p
        · rw [if_pos c, if_pos (by omega)]
        · rw [if_neg c]
          by_cases c2 : i = p
          · rw [if_pos (by omega), c2, hv]
          · rw [if_neg (by omega)]
      rw [e, hv, sgn_succ]; grind
    · have e : det k (tls (drp v q)) = 0 := by
        by_cases c : q < p
        · refine det_adj (p := p - 1) (by omega) ?_
          funext j; unfold tls drp
          rw [if_neg (by omega), if_neg (by omega)]
          have : p - 1 + 1 = p := by omega
          rw [this, hv]
        · refine det_adj (p := p) (by omega) ?_
          funext j; unfold tls drp
          rw [if_pos (by omega), if_pos (by omega), hv]
      rw [e]; omega
theorem det_swap {k p : Nat} {v : Nat → Nat → Int} (h : p + 1 < k) (x y : Nat → Int) : det k (ups (ups v p y) (p + 1) x) = - det k (ups (ups v p x) (p + 1) y) := by
  have z : det k (ups (ups v p (fun j => x j + y j)) (p + 1) (fun j => x j + y j)) = 0 := det_adj h (by rw [ups_self, ups_ne (by omega), ups_self])
  have zx : det k (ups (ups v p x) (p + 1) x) = 0 := det_adj h (by rw [ups_self, ups_ne (by omega), ups_self])
  have zy : det k (ups (ups v p y) (p + 1) y) = 0 := det_adj h (by rw [ups_self, ups_ne (by omega), ups_self])
  rw [det_add _ _ h] at z
  rw [ups_comm v (i := p) (j := p + 1) (by omega), det_add _ _ (by omega), ups_comm v (i := p) (j := p + 1) (by omega), det_add _ _ (by omega)] at z
  rw [← ups_comm v (i := p) (j := p + 1) (by omega), ← ups_comm v (i := p) (j := p + 1) (by omega), ← ups_comm v (i := p) (j := p + 1) (by omega), ← ups_comm v (i := p) (j := p + 1) (by omega), zx, zy] at z
  omega
theorem det_alt {k : Nat} : ∀ (t p : Nat) {v : Nat → Nat → Int}, p + 1 + t < k → v p = v (p + 1 + t) → det k v = 0
  | 0, p, v, h, e => det_adj h e
  | t + 1, p, v, h, e => by
    have s := det_swap (v := v) (k := k) (p := p + 1 + t) h (v (p + 1 + t)) (v (p + 1 + t + 1))
    rw [ups_id, ups_id] at s
    have z : det k (ups (ups v (p + 1 + t) (v (p + 1 + t + 1))) (p + 1 + t + 1) (v (p + 1 + t))) = 0 := by
      refine det_alt t p (by omega) ?_
      rw [ups_ne (by omega), ups_ne (by omega), ups_ne (by omega), ups_self]
      exact e
    omega
theorem det_eq0 {k p q : Nat} {v : Nat → Nat → Int} (hp : p < k) (hq : q < k) (pq : p ≠ q) (e : v p = v q) : det k v = 0 := by
  by_cases c : p < q
  · have : p + 1 + (q - p - 1) = q := by omega
    exact det_alt (q - p - 1) p (by omega) (by rw [this]; exact e)
  · have : q + 1 + (p - q - 1) = p := by omega
    exact det_alt (p - q - 1) q (by omega) (by rw [this]; exact e.symm)
/-- a slot filled by another slot's row -/
theorem det_dup {k p q : Nat} {v : Nat → Nat → Int} (hp : p < k) (hq : q < k) (pq : p ≠ q) : det k (ups v p (v q)) = 0 :=
  det_eq0 hp hq pq (by rw [ups_self, ups_ne (Ne.symm pq)])
def unitV : Nat → Nat → Int := fun i j => if i = j then 1 else 0
theorem det_unit : ∀ k : Nat, det k unitV = 1
  | 0 => rfl
  | k + 1 => by
    show sm (k + 1) _ = 1
    rw [sm_one (p := 0) (by omega) fun i _ hi => ?_]
    · have e : tls (drp unitV 0) = unitV := by
        funext i j; unfold tls drp unitV
        rw [if_neg (by omega)]
        by_cases c : i = j
        · rw [if_pos c, if_pos (by omega)]
        · rw [if_neg c, if_neg (by omega)]
      rw [e, det_unit k]; rfl
    · unfold unitV; rw [if_neg hi]; omega

/-! ### a bound -/
def fct : Nat → Int
  | 0 => 1
  | n + 1 => ((n : Int) + 1) * fct n
def pr : Nat → (Nat → Int) → Int
  | 0, _ => 1
  | n + 1, c => pr n c * c n
theorem fct_pos : ∀ n, 0 < fct n
  | 0 => by decide
  | n + 1 => Int.mul_pos (by omega) (fct_pos n)
theorem pr_nonneg {c : Nat → Int} (h : ∀ i, 0 ≤ c i) : ∀ n, 0 ≤ pr n c
  | 0 => show (0 : Int) ≤ 1 by decide
  | n + 1 => Int.mul_nonneg (pr_nonneg h n) (h n)
theorem pr_congr {c e : Nat → Int} : ∀ {n : Nat}, (∀ i, i < n → c i = e i) → pr n c = pr n e
  | 0, _ => rfl
  | n + 1, h => by show pr n c * c n = pr n e * e n; rw [pr_congr (n := n) fun i hi => h i (by omega), h n (by omega)]
theorem pr_drop (c : Nat → Int) {p : Nat} : ∀ {n : Nat}, p ≤ n → pr n (fun i => if i < p then c i else c (i + 1)) * c p = pr (n + 1) c
  | 0, h => by
    have : p = 0 := by omega
    subst this; rfl
  | n + 1, h => by
    by_cases e : p = n + 1
    · subst e
      show _ = pr (n + 1) c * c (n + 1)
      rw [pr_congr fun i hi => if_pos hi]
    · show pr n _ * (if n < p then c n else c (n + 1)) * c p = pr (n + 1) c * c (n + 1)
      rw [if_neg (by omega), ← pr_drop c (p := p) (n := n) (by omega)]
      grind
theorem abs_mul_le {a b x y : Int} (h1 : -a ≤ x ∧ x ≤ a) (h2 : -b ≤ y ∧ y ≤ b) : -(a * b) ≤ x * y ∧ x * y ≤ a * b := by
  have p1 : 0 ≤ (a - x) * (b + y) := Int.mul_nonneg (by omega) (by omega)
  have p2 : 0 ≤ (a + x) * (b - y) := Int.mul_nonneg (by omega) (by omega)
  have p3 : 0 ≤ (a - x) * (b - y) := Int.mul_nonneg (by omega) (by omega)
  have p4 : 0 ≤ (a + x) * (b + y) := Int.mul_nonneg (by omega) (by omega)
  constructor
  · have e : (a - x) * (b - y) + (a + x) * (b + y) = 2 * (a * b) + 2 * (x * y) := by grind
    omega
  · have e : (a - x) * (b + y) + (a + x) * (b - y) = 2 * (a * b) - 2 * (x * y) := by grind
    omega
theorem sm_abs {f : Nat → Int} {B : Int} : ∀ {n : Nat}, (∀ i, i < n → -B ≤ f i ∧ f i ≤ B) → -(n * B) ≤ sm n f ∧ sm n f ≤ n * B
  | 0, _ => by show -(((0 : Nat) : Int) * B) ≤ 0 ∧ 0 ≤ ((0 : Nat) : Int) * B; simp
  | n + 1, h => by
    have i1 := sm_abs (n := n) (f := f) (B := B) fun i hi => h i (by omega)
    have i2 := h n (by omega)
    have e : ((n + 1 : Nat) : Int) * B = n * B + B := by grind
    show -(((n + 1 : Nat) : Int) * B) ≤ sm n f + f n ∧ sm n f + f n ≤ ((n + 1 : Nat) : Int) * B
    rw [e]; omega
theorem det_bound : ∀ {k : Nat} {v : Nat → Nat → Int} {c : Nat → Int}, (∀ i, 0 ≤ c i) → (∀ i, i < k → ∀ j, j < k → -(c i) ≤ v i j ∧ v i j ≤ c i) →
    -(fct k * pr k c) ≤ det k v ∧ det k v ≤ fct k * pr k c
  | 0, _, _, _, _ => show -((1 : Int) * 1) ≤ 1 ∧ (1 : Int) ≤ 1 * 1 by decide
  | k + 1, v, c, hc, h => by
    have g : ∀ p, p < k + 1 → -(fct k * pr (k + 1) c) ≤ sgn p * v p 0 * det k (tls (drp v p)) ∧ sgn p * v p 0 * det k (tls (drp v p)) ≤ fct k * pr (k + 1) c := fun p hp => by
      have i1 := det_bound (k := k) (v := tls (drp v p)) (c := fun i => if i < p then c i else c (i + 1)) (fun i => by split <;> exact hc _) fun i hi j hj => by
        unfold tls drp
        split
        · exact h i (by omega) (j + 1) (by omega)
        · exact h (i + 1) (by omega) (j + 1) (by omega)
      have i2 := h p hp 0 (by omega)
      have i3 : -(c p) ≤ sgn p * v p 0 ∧ sgn p * v p 0 ≤ c p := by unfold sgn; split <;> omega
      have i4 := abs_mul_le i3 i1
      have e : c p * (fct k * pr k (fun i => if i < p then c i else c (i + 1))) = fct k * pr (k + 1) c := by
        rw [← pr_drop c (p := p) (n := k) (by omega)]; grind
      rw [e] at i4
      exact i4
    have s := sm_abs g
    have e : ((k + 1 : Nat) : Int) * (fct k * pr (k + 1) c) = fct (k + 1) * pr (k + 1) c := by
      show _ = ((k : Int) + 1) * fct k * _
      grind
    rw [e] at s
    exact s
end MK
/-! part M2_Tab -/
set_option Elab.async false
set_option linter.all false
set_option maxRecDepth 100000
/-! Mathematics 2: the tableau of integers over one divisor; exact division; Bland's rule ends; what the end tells. -/
namespace MK

/-- the i-th vector of the basis, its k-th coordinate -/
def bv (m : Nat) (A : Nat → Nat → Int) (B : Nat → Nat) : Nat → Nat → Int := fun i k => if i < m then A k (B i) else if k = m then 1 else 0
/-- what the first table must be -/
structure Std (m n : Nat) (A : Nat → Nat → Int) : Prop where
  slack : ∀ i, i < m → ∀ k, k ≤ m → A k (n + i) = if k = i then 1 else 0
  rhs : ∀ i, i < m → 0 ≤ A i (n + m)
  nonneg : ∀ k, k < m → ∀ j, j < n + m → 0 ≤ A k j
  held : ∀ j, j < n → ∃ k, k < m ∧ 0 < A k j
structure Inv (m n : Nat) (A : Nat → Nat → Int) (T : Nat → Nat → Int) (d : Int) (B : Nat → Nat) : Prop where
  dpos : 0 < d
  ddet : det (m + 1) (bv m A B) = d
  colf : ∀ j, j ≤ n + m → ∀ k, k ≤ m → d * A k j = sm (m + 1) (fun i => T i j * bv m A B i k)
  rowf : ∀ i, i ≤ m → ∀ j, j ≤ n + m → T i j = sm m (fun k => T i (n + k) * A k j) + (if i = m then d * A m j else 0)
  bas : ∀ i r, i ≤ m → r < m → T i (B r) = if i = r then d else 0
  blt : ∀ r, r < m → B r < n + m
  rhs : ∀ i, i < m → 0 ≤ T i (n + m)
def piv (T : Nat → Nat → Int) (d : Int) (r c : Nat) : Nat → Nat → Int := fun i j => if i = r then T i j else (T i j * T r c - T i c * T r j) / d
def upB (B : Nat → Nat) (r c : Nat) : Nat → Nat := fun i => if i = r then c else B i

section
variable {m n : Nat} {A T : Nat → Nat → Int} {d : Int} {B : Nat → Nat}

theorem inv_start (S : Std m n A) : Inv m n A A 1 (fun i => n + i) := by
  have hb : ∀ i, i < m + 1 → ∀ k, k < m + 1 → bv m A (fun i => n + i) i k = unitV i k := fun i hi k hk => by
    unfold bv unitV
    by_cases c : i < m
    · rw [if_pos c, S.slack i c k (by omega)]
      by_cases e : i = k
      · rw [if_pos e, if_pos e.symm]
      · rw [if_neg e, if_neg (fun z => e z.symm)]
    · rw [if_neg c]
      by_cases e : k = m
      · rw [if_pos e, if_pos (by omega)]
      · rw [if_neg e, if_neg (by omega)]
  refine ⟨by decide, ?_, fun j hj k hk => ?_, fun i hi j hj => ?_, fun i r hi hr => ?_, fun r hr => by omega, S.rhs⟩
  · rw [det_congr hb, det_unit]
  · rw [sm_one (p := k) (by omega) fun i hi ne => ?_]
    · show 1 * A k j = A k j * bv m A (fun i => n + i) k k
      rw [hb k (by omega) k (by omega)]; unfold unitV; rw [if_pos rfl]; omega
    · show A i j * bv m A (fun i => n + i) i k = 0
      rw [hb i hi k (by omega)]; unfold unitV; rw [if_neg ne]; omega
  · by_cases c : i = m
    · subst c
      rw [if_pos rfl, sm_zero fun k hk => ?_]
      · omega
      · rw [S.slack k hk i (by omega), if_neg (by omega)]; omega
    · rw [if_neg c, sm_one (p := i) (by omega) fun k hk ne => ?_]
      · rw [S.slack i (by omega) i hi, if_pos rfl]; omega
      · rw [S.slack k hk i hi, if_neg (Ne.symm ne)]; omega
  · rw [S.slack r hr i hi]

/-- Cramer -/
theorem expand {D : Int} {x : Nat → Int} {c : Nat → Int} {w : Nat → Nat → Int} {k i : Nat} (hi : i < k) (h : ∀ j, j < k → D * x j = sm k (fun q => c q * w q j)) : D * det k (ups w i x) = c i * det k w := by
  rw [← det_smul _ _ hi]
  have e : det k (ups w i (fun j => D * x j)) = det k (ups w i (fun j => sm k (fun q => c q * w q j))) := det_congr fun a ha j hj => by
    unfold ups; split
    · exact h j hj
    · rfl
  rw [e, det_sum hi, sm_one (p := i) hi fun q hq ne => ?_]
  · rw [ups_id]
  · rw [det_dup hi hq (Ne.symm ne)]; omega
theorem cancel {a b c : Int} (h : 0 < a) (e : a * b = a * c) : b = c := Int.eq_of_mul_eq_mul_left (by omega) e

theorem Inv.entry (I : Inv m n A T d B) {i j : Nat} (hi : i ≤ m) (hj : j ≤ n + m) : T i j = det (m + 1) (ups (bv m A B) i (fun k => A k j)) := by
  have e := expand (D := d) (x := fun k => A k j) (c := fun q => T q j) (w := bv m A B) (k := m + 1) (i := i) (by omega) fun k hk => I.colf j hj k (by omega)
  rw [I.ddet] at e
  refine cancel I.dpos ?_
  rw [e]; grind
theorem bv_up (m : Nat) (A : Nat → Nat → Int) (B : Nat → Nat) {r c : Nat} (hr : r < m) : bv m A (upB B r c) = ups (bv m A B) r (fun k => A k c) := by
  funext i k
  unfold bv upB ups
  by_cases e : i = r
  · subst e; simp [hr]
  · simp [e]

section
variable {r c : Nat}
/-- the new table's coefficients, times the old divisor -/
def nco (T : Nat → Nat → Int) (d : Int) (r c j : Nat) : Nat → Int := fun q => if q = r then d * T r j else T q j * T r c - T q c * T r j
theorem Inv.nco_col (I : Inv m n A T d B) (hr : r < m) (hc : c < n + m) {j k : Nat} (hj : j ≤ n + m) (hk : k ≤ m) :
    d * T r c * A k j = sm (m + 1) (fun q => nco T d r c j q * bv m A (upB B r c) q k) := by
  have e1 := I.colf j hj k hk
  have e2 := I.colf c (by omega) k hk
  have e3 : sm (m + 1) (fun q => nco T d r c j q * bv m A (upB B r c) q k) = sm (m + 1) (fun q => (T r c * (T q j * bv m A B q k) + (-(T r j)) * (T q c * bv m A B q k)) + (if q = r then d * T r j * A k c else 0)) := by
    refine sm_congr fun q hq => ?_
    unfold nco
    rw [bv_up m A B hr]
    by_cases e : q = r
    · subst e
      rw [if_pos rfl, if_pos rfl, ups_self]; grind
    · rw [if_neg e, if_neg e, ups_ne e]; grind
  rw [e3, sm_add, sm_add, sm_mul, sm_mul, ← e1, ← e2, sm_one (p := r) (by omega) fun q _ ne => if_neg ne, if_pos rfl]
  grind
theorem Inv.exact (I : Inv m n A T d B) (hr : r < m) (hc : c < n + m) (hp : 0 < T r c) {i j : Nat} (hi : i ≤ m) (hj : j ≤ n + m) (ne : i ≠ r) :
    d * det (m + 1) (ups (bv m A (upB B r c)) i (fun k => A k j)) = T i j * T r c - T i c * T r j := by
  have e := expand (D := d * T r c) (x := fun k => A k j) (c := nco T d r c j) (w := bv m A (upB B r c)) (k := m + 1) (i := i) (by omega) fun k hk => I.nco_col hr hc hj (by omega)
  have e2 : det (m + 1) (bv m A (upB B r c)) = T r c := by rw [bv_up m A B hr, I.entry (by omega) (by omega)]
  rw [e2] at e
  unfold nco at e
  rw [if_neg ne] at e
  refine cancel hp ?_
  grind
/-- the divisions leave nothing -/
theorem Inv.piv_exact (I : Inv m n A T d B) (hr : r < m) (hc : c < n + m) (hp : 0 < T r c) {i j : Nat} (hi : i ≤ m) (hj : j ≤ n + m) : d * piv T d r c i j = nco T d r c j i := by
  unfold piv nco
  by_cases ne : i = r
  · subst ne
    rw [if_pos rfl, if_pos rfl]
  · rw [if_neg ne, if_neg ne, ← I.exact hr hc hp hi hj ne, Int.mul_ediv_cancel_left _ (by have := I.dpos; omega)]
theorem Inv.step (I : Inv m n A T d B) (hr : r < m) (hc : c < n + m) (hp : 0 < T r c) (hq : ∀ i, i < m → 0 < T i c → T r (n + m) * T i c ≤ T i (n + m) * T r c) :
    Inv m n A (piv T d r c) (T r c) (upB B r c) := by
  have dp := I.dpos
  have E : ∀ {i j : Nat}, i ≤ m → j ≤ n + m → d * piv T d r c i j = nco T d r c j i := fun hi hj => I.piv_exact hr hc hp hi hj
  have R : ∀ j, piv T d r c r j = T r j := fun j => by unfold piv; rw [if_pos rfl]
  refine ⟨hp, ?_, fun j hj k hk => ?_, fun i hi j hj => ?_, fun i q hi hq' => ?_, fun q hq' => ?_, fun i hi => ?_⟩
  · rw [bv_up m A B hr, I.entry (by omega) (by omega)]
  · refine cancel dp ?_
    rw [← sm_mul]
    have e := I.nco_col hr hc hj hk
    rw [← Int.mul_assoc, e]
    refine sm_congr fun q hq' => ?_
    rw [← E (by omega) hj]; grind
  · by_cases ne : i = r
    · subst ne
      rw [if_neg (by omega), R, I.rowf i hi j hj, if_neg (by omega)]
      refine congrArg (· + 0) (sm_congr fun k hk => ?_)
      rw [R]
    · refine cancel dp ?_
      rw [E hi hj]
      have e1 := I.rowf i hi j hj
      have e2 := I.rowf r (by omega) j hj
      rw [if_neg (by omega)] at e2
      have e3 : d * (sm m (fun k => piv T d r c i (n + k) * A k j) + (if i = m then T r c * A m j else 0)) = sm m (fun k => T r c * (T i (n + k) * A k j) + (-(T i c)) * (T r (n + k) * A k j)) + (if i = m then T r c * (d * A m j) else 0) := by
        rw [Int.mul_add, ← sm_mul]
        refine congr (congrArg HAdd.hAdd (sm_congr fun k hk => ?_)) ?_
        · rw [← Int.mul_assoc, E hi (by omega)]
          unfold nco; rw [if_neg ne]; grind
        · split <;> grind
      rw [e3, sm_add, sm_mul, sm_mul]
      unfold nco; rw [if_neg ne]
      by_cases c0 : i = m
      · rw [if_pos c0] at e1 ⊢; rw [e1]; grind
      · rw [if_neg c0] at e1 ⊢; rw [e1]; grind
  · by_cases e : q = r
    · subst e
      have : upB B q c q = c := if_pos rfl
      rw [this]
      by_cases ne : i = q
      · subst ne; rw [if_pos rfl, R]
      · rw [if_neg ne]
        refine cancel dp ?_
        rw [E hi (by omega)]; unfold nco; rw [if_neg ne]; grind
    · have e2 : upB B r c q = B q := if_neg e
      rw [e2]
      have b1 := I.bas r q (by omega) hq'
      rw [if_neg (Ne.symm e)] at b1
      by_cases ne : i = r
      · subst ne; rw [R, b1, if_neg (Ne.symm e)]
      · have b2 := I.bas i q hi hq'
        refine cancel dp ?_
        rw [E hi (by have := I.blt q hq'; omega)]; unfold nco; rw [if_neg ne, b1, b2]
        split <;> grind
  · unfold upB
    split
    · exact hc
    · exact I.blt q hq'
  · by_cases ne : i = r
    · subst ne; rw [R]; exact I.rhs i hi
    · have e := E (i := i) (j := n + m) (by omega) (by omega)
      unfold nco at e; rw [if_neg ne] at e
      have z : 0 ≤ T i (n + m) * T r c - T i c * T r (n + m) := by
        have r1 := I.rhs i hi
        have r2 := I.rhs r hr
        by_cases c0 : 0 < T i c
        · have := hq i hi c0; grind
        · have z1 : 0 ≤ T i (n + m) * T r c := Int.mul_nonneg r1 (by omega)
          have z2 : 0 ≤ (-(T i c)) * T r (n + m) := Int.mul_nonneg (by omega) r2
          grind
      rw [← e] at z
      exact Int.nonneg_of_mul_nonneg_right z dp
end

/-- each column is bounded -/
theorem Inv.bounded (I : Inv m n A T d B) (S : Std m n A) {c : Nat} (hc : c < n + m) : ∃ i, i < m ∧ 0 < T i c := by
  obtain ⟨k, hk, hp⟩ : ∃ k, k < m ∧ 0 < A k c := by
    by_cases h : c < n
    · exact S.held c h
    · refine ⟨c - n, by omega, ?_⟩
      have e : n + (c - n) = c := by omega
      have := S.slack (c - n) (by omega) (c - n) (by omega)
      rw [e, if_pos rfl] at this
      omega
  have e := I.colf c (by omega) k (by omega)
  have z : 0 < sm (m + 1) (fun i => T i c * bv m A B i k) := by rw [← e]; exact Int.mul_pos I.dpos hp
  obtain ⟨i, hi, hf⟩ := sm_pos_of z
  by_cases c0 : i < m
  · refine ⟨i, c0, ?_⟩
    have a0 : 0 ≤ bv m A B i k := by unfold bv; rw [if_pos c0]; exact S.nonneg k hk _ (I.blt i c0)
    refine Int.lt_of_not_ge fun le => ?_
    have : 0 ≤ (-(T i c)) * bv m A B i k := Int.mul_nonneg (by omega) a0
    grind
  · exfalso
    have : bv m A B i k = 0 := by unfold bv; rw [if_neg c0, if_neg (by omega)]
    rw [this] at hf; omega

/-- a basis is no column twice -/
theorem Inv.inj (I : Inv m n A T d B) {i j : Nat} (hi : i < m) (hj : j < m) (e : B i = B j) : i = j := by
  have a := I.bas i i (by omega) hi
  have b := I.bas i j (by omega) hj
  rw [if_pos rfl] at a
  rw [← e, a] at b
  by_cases c : i = j
  · exact c
  · rw [if_neg c] at b; have := I.dpos; omega

/-- the table is told by the basis -/
theorem Inv.same {T' : Nat → Nat → Int} {d' : Int} {B' : Nat → Nat} (I : Inv m n A T d B) (I' : Inv m n A T' d' B') (e : ∀ i, i < m → B i = B' i) : d = d' ∧ ∀ i, i ≤ m → ∀ j, j ≤ n + m → T i j = T' i j := by
  have eb : bv m A B = bv m A B' := by
    funext i k; unfold bv; split
    · next h => rw [e i h]
    · rfl
  refine ⟨by rw [← I.ddet, ← I'.ddet, eb], fun i hi j hj => by rw [I.entry hi hj, I'.entry hi hj, eb]⟩

/-- two tables: a column's price in one, by the other -/
theorem Inv.cross {T' : Nat → Nat → Int} {d' : Int} {B' : Nat → Nat} (I : Inv m n A T d B) (I' : Inv m n A T' d' B') {s : Nat} (hs : s < n + m) :
    d * T' m s = sm m (fun i => T i s * T' m (B i)) + T m s * d' := by
  have e1 := I'.rowf m (Nat.le_refl _) s (by omega)
  rw [if_pos rfl] at e1
  -- y k
  have e2 : d * T' m s = sm (m + 1) (fun k => (if k < m then T' m (n + k) else d') * (d * A k s)) := by
    show _ = sm m _ + (if m < m then T' m (n + m) else d') * (d * A m s)
    rw [if_neg (Nat.lt_irrefl m), e1, Int.mul_add, ← sm_mul]
    refine congr (congrArg HAdd.hAdd (sm_congr fun k hk => ?_)) (by grind)
    rw [if_pos hk]; grind
  have e3 : d * T' m s = sm (m + 1) (fun k => sm (m + 1) (fun i => T i s * ((if k < m then T' m (n + k) else d') * bv m A B i k))) := by
    rw [e2]
    refine sm_congr fun k hk => ?_
    rw [I.colf s (by omega) k (by omega), ← sm_mul]
    refine sm_congr fun i hi => ?_
    grind
  rw [e3, sm_swap]
  show sm m _ + _ = _
  refine congr (congrArg HAdd.hAdd (sm_congr fun i hi => ?_)) ?_
  · rw [sm_mul]
    refine congrArg (T i s * ·) ?_
    have e4 := I'.rowf m (Nat.le_refl _) (B i) (by have := I.blt i hi; omega)
    rw [if_pos rfl] at e4
    rw [e4]
    show sm m _ + _ = _
    refine congr (congrArg HAdd.hAdd (sm_congr fun k hk => ?_)) ?_
    · rw [if_pos hk]; unfold bv; rw [if_pos hi]
    · dsimp only; rw [if_neg (Nat.lt_irrefl m)]; unfold bv; rw [if_pos hi]
  · dsimp only
    rw [sm_mul]
    refine congrArg (T m s * ·) ?_
    rw [sm_one (p := m) (by omega) fun k hk ne => ?_]
    · rw [if_neg (Nat.lt_irrefl m)]; unfold bv; rw [if_neg (Nat.lt_irrefl m), if_pos rfl]; omega
    · unfold bv; rw [if_neg (Nat.lt_irrefl m), if_neg ne]; omega
end
end MK
/-! part M3_Bland -/
set_option Elab.async false
set_option linter.all false
set_option maxRecDepth 100000
/-! Mathematics 3: Bland's rule ends. -/
namespace MK
/-- too many for the holes -/
theorem pigeon : ∀ (M : Nat) (f : Nat → Nat), (∀ t, t ≤ M → f t < M) → ∃ i j, i < j ∧ j ≤ M ∧ f i = f j
  | 0, f, h => absurd (h 0 (Nat.le_refl 0)) (Nat.not_lt_zero _)
  | M + 1, f, h => by
    by_cases c : ∃ i, i ≤ M ∧ f i = f (M + 1)
    · obtain ⟨i, hi, e⟩ := c
      exact ⟨i, M + 1, by omega, Nat.le_refl _, e⟩
    · have c' : ∀ i, i ≤ M → f i ≠ f (M + 1) := fun i hi e => c ⟨i, hi, e⟩
      obtain ⟨i, j, h1, h2, h3⟩ := pigeon M (fun t => if f t < f (M + 1) then f t else f t - 1) fun t ht => by
        have a := h t (by omega)
        have b := h (M + 1) (Nat.le_refl _)
        have e := c' t ht
        split <;> omega
      refine ⟨i, j, h1, by omega, ?_⟩
      have e1 := c' i (by omega)
      have e2 := c' j h2
      split at h3 <;> split at h3 <;> omega
def enc (b : Nat) (B : Nat → Nat) : Nat → Nat
  | 0 => 0
  | k + 1 => enc b B k * b + B k
theorem enc_lt {b : Nat} {B : Nat → Nat} : ∀ {k : Nat}, (∀ i, i < k → B i < b) → enc b B k < b ^ k
  | 0, _ => Nat.one_pos
  | k + 1, h => by
    have ih := enc_lt (B := B) (b := b) (k := k) fun i hi => h i (by omega)
    have hk := h k (by omega)
    show enc b B k * b + B k < b ^ k * b
    have : (enc b B k + 1) * b ≤ b ^ k * b := Nat.mul_le_mul_right b ih
    rw [Nat.add_mul] at this
    omega
theorem enc_inj {b : Nat} {B C : Nat → Nat} : ∀ {k : Nat}, (∀ i, i < k → B i < b) → (∀ i, i < k → C i < b) → enc b B k = enc b C k → ∀ i, i < k → B i = C i
  | 0, _, _, _, i, hi => absurd hi (Nat.not_lt_zero _)
  | k + 1, hB, hC, e, i, hi => by
    have b1 := hB k (by omega)
    have c1 := hC k (by omega)
    have e' : enc b B k * b + B k = enc b C k * b + C k := e
    have z1 : (enc b B k * b + B k) % b = B k := by rw [Nat.add_comm, Nat.add_mul_mod_self_right, Nat.mod_eq_of_lt b1]
    have z2 : (enc b C k * b + C k) % b = C k := by rw [Nat.add_comm, Nat.add_mul_mod_self_right, Nat.mod_eq_of_lt c1]
    have ek : B k = C k := by rw [← z1, ← z2, e']
    have e2 : enc b B k = enc b C k := by
      rw [ek] at e'
      exact Nat.eq_of_mul_eq_mul_right (by omega) (Nat.add_right_cancel e')
    by_cases h : i = k
    · rw [h]; exact ek
    · exact enc_inj (fun i hi => hB i (by omega)) (fun i hi => hC i (by omega)) e2 i (by omega)

structure TS where
  T : Nat → Nat → Int
  d : Int
  B : Nat → Nat
/-- the choices of a step: column c enters, row r leaves -/
structure Chs (m n : Nat) (s : TS) (r c : Nat) : Prop where
  c_lt : c < n + m
  neg : s.T m c < 0
  first : ∀ j, j < c → 0 ≤ s.T m j
  r_lt : r < m
  pos : 0 < s.T r c
  least : ∀ i, i < m → 0 < s.T i c → s.T r (n + m) * s.T i c < s.T i (n + m) * s.T r c ∨ (s.T r (n + m) * s.T i c = s.T i (n + m) * s.T r c ∧ s.B r ≤ s.B i)
def TS.piv (s : TS) (r c : Nat) : TS := ⟨MK.piv s.T s.d r c, s.T r c, upB s.B r c⟩
def Stp (m n : Nat) (s s' : TS) : Prop := ∃ r c, Chs m n s r c ∧ s' = s.piv r c
def TOk (m n : Nat) (A : Nat → Nat → Int) (s : TS) : Prop := Inv m n A s.T s.d s.B
theorem TOk.step {m n : Nat} {A : Nat → Nat → Int} {s : TS} {r c : Nat} (I : TOk m n A s) (h : Chs m n s r c) : TOk m n A (s.piv r c) :=
  Inv.step I h.r_lt h.c_lt h.pos fun i hi hp => by
    rcases h.least i hi hp with e | ⟨e, _⟩ <;> omega
/-- no run is as long -/
def Ends (m n : Nat) (s : TS) (k : Nat) : Prop := ∀ f : Nat → TS, f 0 = s → ¬ ∀ t, t < k → Stp m n (f t) (f (t + 1))
theorem Ends.next {m n k : Nat} {s s' : TS} (h : Ends m n s k) (st : Stp m n s s') : ∃ j, j < k ∧ Ends m n s' j := by
  cases k with
  | zero => exact absurd (fun t ht => absurd ht (Nat.not_lt_zero _)) (h (fun _ => s) rfl)
  | succ j =>
    refine ⟨j, Nat.lt_succ_self j, fun f f0 hf => h (fun t => match t with | 0 => s | t + 1 => f t) rfl fun t ht => ?_⟩
    cases t with
    | zero => exact (f0 ▸ st : Stp m n s (f 0))
    | succ t => exact hf t (by omega)

theorem frac_trans {a b c d e f : Int} (hb : 0 < b) (hd : 0 < d) (hf : 0 < f) (h1 : a * d ≤ c * b) (h2 : c * f ≤ e * d) : a * f ≤ e * b := by
  refine Int.le_of_mul_le_mul_right (a := d) ?_ hd
  have x1 : a * d * f ≤ c * b * f := Int.mul_le_mul_of_nonneg_right h1 (by omega)
  have x2 : c * f * b ≤ e * d * b := Int.mul_le_mul_of_nonneg_right h2 (by omega)
  grind

section
variable {m n : Nat} {A : Nat → Nat → Int} {f : Nat → TS} {r c : Nat → Nat} {M : Nat}
/-- a run from a good table -/
structure Run (m n : Nat) (A : Nat → Nat → Int) (f : Nat → TS) (r c : Nat → Nat) (M : Nat) : Prop where
  ok : ∀ t, t ≤ M → TOk m n A (f t)
  ch : ∀ t, t < M → Chs m n (f t) (r t) (c t)
  nx : ∀ t, t < M → f (t + 1) = (f t).piv (r t) (c t)
theorem Run.rhs_step (R : Run m n A f r c M) {t i : Nat} (ht : t < M) (hi : i ≤ m) (ne : i ≠ r t) :
    (f t).d * (f (t + 1)).T i (n + m) = (f t).T i (n + m) * (f t).T (r t) (c t) - (f t).T i (c t) * (f t).T (r t) (n + m) := by
  have e := Inv.piv_exact (R.ok t (by omega)) (R.ch t ht).r_lt (R.ch t ht).c_lt (R.ch t ht).pos hi (Nat.le_refl (n + m))
  rw [R.nx t ht]
  show (f t).d * piv (f t).T (f t).d (r t) (c t) i (n + m) = _
  rw [e]; unfold nco; rw [if_neg ne]
theorem Run.d_next (R : Run m n A f r c M) {t : Nat} (ht : t < M) : (f (t + 1)).d = (f t).T (r t) (c t) := by rw [R.nx t ht]; rfl
theorem Run.d_pos (R : Run m n A f r c M) {t : Nat} (ht : t ≤ M) : 0 < (f t).d := (R.ok t ht).dpos
/-- the sum never falls -/
theorem Run.rise (R : Run m n A f r c M) {t : Nat} (ht : t < M) : (f t).T m (n + m) * (f (t + 1)).d ≤ (f (t + 1)).T m (n + m) * (f t).d := by
  have h := R.ch t ht
  have e := R.rhs_step ht (Nat.le_refl m) (by have := h.r_lt; omega)
  rw [R.d_next ht]
  have z : 0 ≤ (-(f t).T m (c t)) * (f t).T (r t) (n + m) := Int.mul_nonneg (by have := h.neg; omega) ((R.ok t (by omega)).rhs _ h.r_lt)
  grind
theorem Run.rise_to (R : Run m n A f r c M) {t : Nat} : ∀ k, t + k ≤ M → (f t).T m (n + m) * (f (t + k)).d ≤ (f (t + k)).T m (n + m) * (f t).d
  | 0, _ => Int.le_refl _
  | k + 1, h => frac_trans (R.d_pos (t := t) (by omega)) (R.d_pos (t := t + k) (by omega)) (R.d_pos (t := t + k + 1) h) (R.rise_to k (by omega)) (R.rise (t := t + k) (by omega))
/-- a round: the table at j is the one at i -/
structure Rnd (m n : Nat) (A : Nat → Nat → Int) (f : Nat → TS) (r c : Nat → Nat) (M i j : Nat) : Prop where
  R : Run m n A f r c M
  ij : i < j
  jM : j ≤ M
  same : ∀ k, k < m → (f i).B k = (f j).B k
variable {i j : Nat}
theorem Rnd.eqs (G : Rnd m n A f r c M i j) : (f i).d = (f j).d ∧ ∀ k, k ≤ m → ∀ l, l ≤ n + m → (f i).T k l = (f j).T k l :=
  Inv.same (G.R.ok i (by have := G.ij; have := G.jM; omega)) (G.R.ok j G.jM) G.same
/-- every step of a round leaves the sum -/
theorem Rnd.flat (G : Rnd m n A f r c M i j) {t : Nat} (hi : i ≤ t) (hj : t < j) : (f t).T (r t) (n + m) = 0 := by
  have ij := G.ij
  have jM := G.jM
  have tM : t < M := by omega
  obtain ⟨ed, eT⟩ := G.eqs
  have a1 := G.R.rise_to (t := i) (t - i) (by omega)
  have a3 := G.R.rise_to (t := t + 1) (j - (t + 1)) (by omega)
  rw [show i + (t - i) = t by omega] at a1
  rw [show t + 1 + (j - (t + 1)) = j by omega, ← ed, ← eT m (Nat.le_refl m) (n + m) (Nat.le_refl _)] at a3
  have di := G.R.d_pos (t := i) (by omega)
  have dt := G.R.d_pos (t := t) (by omega)
  have ds := G.R.d_pos (t := t + 1) (by omega)
  have up := frac_trans ds di dt a3 a1
  have h := G.R.ch t tM
  have e := G.R.rhs_step tM (Nat.le_refl m) (by have := h.r_lt; omega)
  rw [G.R.d_next tM] at up
  have z : 0 ≤ (f t).T (r t) (n + m) := (G.R.ok t (by omega)).rhs _ h.r_lt
  have w : (-(f t).T m (c t)) * (f t).T (r t) (n + m) ≤ 0 := by grind
  rcases Int.lt_or_eq_of_le z with p | p
  · have := Int.mul_pos (a := -(f t).T m (c t)) (by have := h.neg; omega) p
    omega
  · exact p.symm
/-- in the basis -/
def Bas (m : Nat) (s : TS) (v : Nat) : Prop := ∃ k, k < m ∧ s.B k = v
theorem Run.bas_next (R : Run m n A f r c M) {t v : Nat} (ht : t < M) : Bas m (f (t + 1)) v ↔ (v = c t ∨ (Bas m (f t) v ∧ v ≠ (f t).B (r t))) := by
  have h := R.ch t ht
  have e : ∀ k, (f (t + 1)).B k = if k = r t then c t else (f t).B k := fun k => by rw [R.nx t ht]; rfl
  constructor
  · rintro ⟨k, hk, e1⟩
    rw [e] at e1
    by_cases z : k = r t
    · rw [if_pos z] at e1; exact .inl e1.symm
    · rw [if_neg z] at e1
      refine .inr ⟨⟨k, hk, e1⟩, fun e2 => z ?_⟩
      exact Inv.inj (R.ok t (by omega)) hk h.r_lt (e1.trans e2)
  · rintro (rfl | ⟨⟨k, hk, e1⟩, ne⟩)
    · exact ⟨r t, h.r_lt, by rw [e, if_pos rfl]⟩
    · refine ⟨k, hk, ?_⟩
      rw [e, if_neg (fun z => ne (by rw [← e1, z]))]; exact e1
theorem Rnd.bas_same (G : Rnd m n A f r c M i j) (v : Nat) : Bas m (f i) v ↔ Bas m (f j) v :=
  ⟨fun ⟨k, hk, e⟩ => ⟨k, hk, by rw [← G.same k hk]; exact e⟩, fun ⟨k, hk, e⟩ => ⟨k, hk, by rw [G.same k hk]; exact e⟩⟩
/-- what a round's every step keeps holds in all of it, if it holds once -/
theorem Rnd.around (G : Rnd m n A f r c M i j) {φ : Nat → Prop} (st : ∀ t, i ≤ t → t < j → φ t → φ (t + 1)) (wrap : φ j → φ i) {p q : Nat} (hp : i ≤ p) (hp' : p ≤ j) (hq : i ≤ q) (hq' : q ≤ j) (h : φ p) : φ q := by
  have go : ∀ k t, i ≤ t → t + k ≤ j → φ t → φ (t + k) := fun k => by
    induction k with
    | zero => intro t _ _ z; exact z
    | succ k ih => intro t a b z; exact st (t + k) (by omega) (by omega) (ih t a (by omega) z)
  have hj : φ j := by have := go (j - p) p hp (by omega) h; rwa [show p + (j - p) = j by omega] at this
  have := go (q - i) i (Nat.le_refl i) (by omega) (wrap hj)
  rwa [show i + (q - i) = q by omega] at this
/-- the column of a basic one is no price -/
theorem TOk.price0 {s : TS} {v : Nat} (I : TOk m n A s) (h : Bas m s v) : s.T m v = 0 := by
  obtain ⟨k, hk, rfl⟩ := h
  have := Inv.bas I m k (Nat.le_refl m) hk
  rw [if_neg (by omega)] at this; exact this
theorem Rnd.no (G : Rnd m n A f r c M i j) : False := by
  have ij := G.ij
  have jM := G.jM
  have R := G.R
  -- the greatest column that enters
  obtain ⟨p, hp, hp', top⟩ : ∃ p, i ≤ p ∧ p < j ∧ ∀ q, i ≤ q → q < j → c q ≤ c p := by
    have go : ∀ k, i + k < j → ∃ p, i ≤ p ∧ p ≤ i + k ∧ ∀ q, i ≤ q → q ≤ i + k → c q ≤ c p := fun k => by
      induction k with
      | zero => intro _; exact ⟨i, Nat.le_refl i, Nat.le_refl _, fun q a b => by rw [show q = i by omega]; exact Nat.le_refl _⟩
      | succ k ih =>
        intro h
        obtain ⟨p, a, b, d⟩ := ih (by omega)
        by_cases z : c (i + (k + 1)) ≤ c p
        · refine ⟨p, a, by omega, fun q qa qb => ?_⟩
          by_cases e : q ≤ i + k
          · exact d q qa e
          · rw [show q = i + (k + 1) by omega]; exact z
        · refine ⟨i + (k + 1), by omega, Nat.le_refl _, fun q qa qb => ?_⟩
          by_cases e : q ≤ i + k
          · have := d q qa e; omega
          · rw [show q = i + (k + 1) by omega]; exact Nat.le_refl _
    obtain ⟨p, a, b, d⟩ := go (j - 1 - i) (by omega)
    exact ⟨p, a, by omega, fun q qa qb => d q qa (by omega)⟩
  have hP := R.ch p (by omega)
  have notbas : ∀ {t}, t < M → ¬ Bas m (f t) (c t) := fun {t} ht hb => by
    have := (R.ok t (by omega)).price0 hb
    have := (R.ch t ht).neg
    omega
  -- it leaves, too
  obtain ⟨q, hq, hq', lv⟩ : ∃ q, i ≤ q ∧ q < j ∧ (f q).B (r q) = c p := by
    refine Classical.byContradiction fun no => ?_
    have no' : ∀ q, i ≤ q → q < j → c p ≠ (f q).B (r q) := fun q a b e => no ⟨q, a, b, e.symm⟩
    have b1 : Bas m (f (p + 1)) (c p) := (R.bas_next (by omega)).mpr (.inl rfl)
    have := G.around (φ := fun t => Bas m (f t) (c p)) (fun t a b z => (R.bas_next (by omega)).mpr (.inr ⟨z, no' t a b⟩)) (G.bas_same _).mpr (p := p + 1) (q := p) (by omega) (by omega) hp (by omega) b1
    exact notbas (by omega) this
  have hQ := R.ch q (by omega)
  have basq : Bas m (f q) (c p) := ⟨r q, hQ.r_lt, lv⟩
  have lt : c q < c p := by
    have := top q hq hq'
    rcases Nat.lt_or_eq_of_le this with h | h
    · exact h
    · exact absurd (h ▸ basq) (notbas (by omega))
  have x := Inv.cross (R.ok q (by omega)) (R.ok p (by omega)) hQ.c_lt
  have s0 : 0 ≤ (f p).T m (c q) := hP.first _ lt
  have dq := R.d_pos (t := q) (by omega)
  have dp := R.d_pos (t := p) (by omega)
  have y1 : 0 ≤ (f q).d * (f p).T m (c q) := Int.mul_nonneg (by omega) s0
  have y2 : 0 < (-(f q).T m (c q)) * (f p).d := Int.mul_pos (by have := hQ.neg; omega) dp
  have y3 : 0 < sm m (fun k => (f q).T k (c q) * (f p).T m ((f q).B k)) := by grind
  obtain ⟨k, hk, hf⟩ := sm_pos_of y3
  have basv : Bas m (f q) ((f q).B k) := ⟨k, hk, rfl⟩
  have nb : ¬ Bas m (f p) ((f q).B k) := fun z => by
    have := (R.ok p (by omega)).price0 z
    rw [this] at hf; omega
  -- it enters in the round
  have le : (f q).B k ≤ c p := by
    refine Nat.le_of_not_lt fun gt => ?_
    have := G.around (φ := fun t => ¬ Bas m (f t) ((f q).B k)) (fun t a b z w => ?_) (fun z w => z ((G.bas_same _).mp w)) hp (by omega : p ≤ j) hq (by omega : q ≤ j) nb
    · exact this basv
    · rcases (R.bas_next (by omega)).mp w with e | ⟨e, _⟩
      · have := top t a b; omega
      · exact z e
  by_cases e : k = r q
  · rw [e, lv] at hf
    have a1 := hQ.pos
    have a2 := hP.neg
    have : 0 < (f q).T (r q) (c q) * (-(f p).T m (c p)) := Int.mul_pos a1 (by omega)
    grind
  · have lt' : (f q).B k < c p := by
      rcases Nat.lt_or_eq_of_le le with h | h
      · exact h
      · exact absurd (Inv.inj (R.ok q (by omega)) hk hQ.r_lt (h.trans lv.symm)) e
    have b0 : 0 ≤ (f p).T m ((f q).B k) := hP.first _ lt'
    have pos : 0 < (f q).T k (c q) := by
      refine Int.lt_of_not_ge fun z => ?_
      have : 0 ≤ (-(f q).T k (c q)) * (f p).T m ((f q).B k) := Int.mul_nonneg (by omega) b0
      grind
    -- its value is naught
    have zero := G.around (φ := fun t => ∀ l, l < m → (f t).B l = (f q).B k → (f t).T l (n + m) = 0) (fun t a b z l hl el => ?_) (fun z l hl el => by
      rw [G.eqs.2 l (by omega) _ (Nat.le_refl _)]; exact z l hl (by rw [← G.same l hl]; exact el)) hp (by omega : p ≤ j) hq (by omega : q ≤ j) (fun l hl el => absurd ⟨l, hl, el⟩ nb) k hk rfl
    · rcases hQ.least k hk pos with h | ⟨_, h⟩
      · rw [zero, G.flat hq hq'] at h; omega
      · rw [lv] at h; omega
    · have hT := R.ch t (by omega)
      have e1 : (f (t + 1)).B l = if l = r t then c t else (f t).B l := by rw [R.nx t (by omega)]; rfl
      by_cases w : l = r t
      · have : (f (t + 1)).T l (n + m) = (f t).T l (n + m) := by rw [R.nx t (by omega)]; show piv _ _ _ _ _ _ = _; unfold piv; rw [if_pos w]
        rw [this, w, G.flat a b]
      · rw [e1, if_neg w] at el
        have e2 := R.rhs_step (t := t) (i := l) (by omega) (by omega) w
        rw [z l hl el, G.flat a b] at e2
        have dt := R.d_pos (t := t) (by omega)
        have e3 : (f t).d * (f (t + 1)).T l (n + m) = (f t).d * 0 := by rw [e2]; grind
        exact cancel dt e3
end
/-- Bland's rule ends -/
theorem ends {m n : Nat} {A : Nat → Nat → Int} {s : TS} (I : TOk m n A s) : Ends m n s ((n + m) ^ m) := fun f f0 hf => by
  have hc : ∀ t, ∃ rc : Nat × Nat, t < (n + m) ^ m → Chs m n (f t) rc.1 rc.2 ∧ f (t + 1) = (f t).piv rc.1 rc.2 := fun t => by
    by_cases h : t < (n + m) ^ m
    · obtain ⟨r, c, a, b⟩ := hf t h
      exact ⟨(r, c), fun _ => ⟨a, b⟩⟩
    · exact ⟨(0, 0), fun z => absurd z h⟩
  have ch := fun t => Classical.choose_spec (hc t)
  have ok : ∀ t, t ≤ (n + m) ^ m → TOk m n A (f t) := fun t => by
    induction t with
    | zero => intro _; rw [f0]; exact I
    | succ t ih =>
      intro h
      obtain ⟨a, b⟩ := ch t (by omega)
      rw [b]; exact (ih (by omega)).step a
  obtain ⟨i, j, ij, jM, e⟩ := pigeon ((n + m) ^ m) (fun t => if t ≤ (n + m) ^ m then enc (n + m) (f t).B m else 0) fun t ht => by
    rw [if_pos ht]
    exact enc_lt fun i hi => (ok t ht).blt i hi
  rw [if_pos (by omega), if_pos jM] at e
  exact Rnd.no (A := A) (f := f) (r := fun t => (Classical.choose (hc t)).1) (c := fun t => (Classical.choose (hc t)).2) (M := (n + m) ^ m) (i := i) (j := j)
    ⟨⟨ok, fun t ht => (ch t ht).1, fun t ht => (ch t ht).2⟩, ij, jM, enc_inj (fun k hk => (ok i (by omega)).blt k hk) (fun k hk => (ok j jM).blt k hk) e⟩
end MK
/-! part M4_Opt -/
set_option Elab.async false
set_option linter.all false
set_option maxRecDepth 100000
/-! Mathematics 4: what the last table tells; no marking finds more; bounds. -/
namespace MK
section
variable {m n : Nat} {A : Nat → Nat → Int} {s : TS}
/-- x: each column's value (times the divisor) -/
structure Vals (m n : Nat) (s : TS) (x : Nat → Int) : Prop where
  bas : ∀ k, k < m → x (s.B k) = s.T k (n + m)
  non : ∀ j, ¬ Bas m s j → x j = 0
theorem Vals.nonneg {x : Nat → Int} (V : Vals m n s x) (I : TOk m n A s) (j : Nat) : 0 ≤ x j := by
  by_cases h : Bas m s j
  · obtain ⟨k, hk, rfl⟩ := h
    rw [V.bas k hk]; exact Inv.rhs I k hk
  · rw [V.non j h]; exact Int.le_refl 0
theorem sm_bas {g : Nat → Int} (I : TOk m n A s) (h : ∀ j, ¬ Bas m s j → g j = 0) : sm m (fun k => g (s.B k)) = sm (n + m) g := by
  have e1 : sm (n + m) g = sm (n + m) (fun j => sm m (fun k => if s.B k = j then g j else 0)) := by
    refine sm_congr fun j hj => ?_
    by_cases b : Bas m s j
    · obtain ⟨k, hk, e⟩ := b
      rw [sm_one (p := k) hk fun i hi ne => if_neg fun z => ne (Inv.inj I hi hk (z.trans e.symm)), if_pos e]
    · rw [h j b, sm_zero fun i hi => ?_]
      split <;> rfl
  rw [e1, sm_swap]
  refine sm_congr fun k hk => ?_
  rw [sm_one (p := s.B k) (Inv.blt I k hk) fun i hi ne => if_neg (Ne.symm ne), if_pos rfl]
theorem Vals.rows {x : Nat → Int} (V : Vals m n s x) (I : TOk m n A s) {k : Nat} (hk : k ≤ m) : s.d * A k (n + m) = sm (n + m) (fun j => x j * A k j) + (if k = m then s.T m (n + m) else 0) := by
  have e := Inv.colf I (n + m) (Nat.le_refl _) k hk
  rw [e]
  show sm m _ + _ = _
  refine congr (congrArg HAdd.hAdd ?_) ?_
  · rw [← sm_bas I (g := fun j => x j * A k j) fun j b => by rw [V.non j b]; omega]
    refine sm_congr fun i hi => ?_
    rw [V.bas i hi]; unfold bv; rw [if_pos hi]
  · dsimp only; unfold bv; rw [if_neg (Nat.lt_irrefl m)]
    split
    · omega
    · omega
/-- the table that is asked: a unit for each slack, -1 below -/
structure Pk (m n : Nat) (A : Nat → Nat → Int) : Prop where
  std : Std m n A
  low : ∀ j, j < n → A m j = -1
  end0 : A m (n + m) = 0
theorem sm_last {n m : Nat} {g : Nat → Int} (h : ∀ i, i < m → g (n + i) = 0) : sm (n + m) g = sm n g := by
  rw [sm_split, sm_zero h]; omega
theorem Vals.sum {x : Nat → Int} (V : Vals m n s x) (I : TOk m n A s) (P : Pk m n A) : s.T m (n + m) = sm n x := by
  have e := V.rows I (Nat.le_refl m)
  rw [if_pos rfl, P.end0, sm_last fun i hi => by rw [P.std.slack i hi m (Nat.le_refl m), if_neg (by omega)]; omega] at e
  have e2 : sm n (fun j => x j * A m j) = sm n (fun j => (-1) * x j) := sm_congr fun j hj => by rw [P.low j hj]; omega
  rw [e2, sm_mul] at e
  omega
theorem Vals.held {x : Nat → Int} (V : Vals m n s x) (I : TOk m n A s) (P : Pk m n A) {k : Nat} (hk : k < m) : sm n (fun j => x j * A k j) ≤ s.d * A k (n + m) := by
  have e := V.rows I (k := k) (by omega)
  rw [if_neg (by omega), sm_split] at e
  have : 0 ≤ sm m (fun i => x (n + i) * A k (n + i)) := sm_nonneg fun i hi => Int.mul_nonneg (V.nonneg I _) (P.std.nonneg k hk _ (by omega))
  omega
/-- the end -/
def Best (m n : Nat) (s : TS) : Prop := ∀ j, j < n + m → 0 ≤ s.T m j
theorem price_ge (I : TOk m n A s) (P : Pk m n A) (O : Best m n s) {j : Nat} (hj : j < n) : s.d ≤ sm m (fun k => s.T m (n + k) * A k j) := by
  have e := Inv.rowf I m (Nat.le_refl m) j (by omega)
  rw [if_pos rfl, P.low j hj] at e
  have := O j (by omega)
  omega
theorem price_sum (I : TOk m n A s) (P : Pk m n A) : s.T m (n + m) = sm m (fun k => s.T m (n + k) * A k (n + m)) := by
  have e := Inv.rowf I m (Nat.le_refl m) (n + m) (Nat.le_refl _)
  rw [if_pos rfl, P.end0] at e
  omega
/-- two ends: one worth -/
theorem best_one {t : TS} (I : TOk m n A s) (J : TOk m n A t) (O : Best m n s) (O' : Best m n t) (P : Pk m n A) : s.T m (n + m) * t.d = t.T m (n + m) * s.d := by
  have go : ∀ {s t : TS}, TOk m n A s → TOk m n A t → Best m n t → s.T m (n + m) * t.d ≤ t.T m (n + m) * s.d := fun {s t} I J O => by
    rw [price_sum J P]
    have h : ∀ k, k < m → 0 ≤ t.T m (n + k) := fun k hk => O _ (by omega)
    -- by the values of s
    have x := Inv.colf I
    have e : s.d * sm m (fun k => t.T m (n + k) * A k (n + m)) = sm m (fun k => t.T m (n + k) * (s.d * A k (n + m))) := by
      rw [← sm_mul]; exact sm_congr fun k hk => by grind
    have e1 : sm m (fun k => t.T m (n + k) * (s.d * A k (n + m))) = sm m (fun k => sm m (fun i => s.T i (n + m) * (t.T m (n + k) * A k (s.B i)))) := sm_congr fun k hk => by
      rw [x (n + m) (Nat.le_refl _) k (by omega), ← sm_mul]
      show sm m _ + _ = _
      have z : bv m A s.B m k = 0 := by unfold bv; rw [if_neg (Nat.lt_irrefl m), if_neg (by omega)]
      dsimp only
      rw [z]
      have : sm m (fun i => t.T m (n + k) * (s.T i (n + m) * bv m A s.B i k)) = sm m (fun i => s.T i (n + m) * (t.T m (n + k) * A k (s.B i))) := sm_congr fun i hi => by
        unfold bv; rw [if_pos hi]; grind
      rw [this]; omega
    have e2 : ∀ i, i < m → sm m (fun k => t.T m (n + k) * A k (s.B i)) = t.T m (s.B i) - t.d * A m (s.B i) := fun i hi => by
      have := Inv.rowf J m (Nat.le_refl m) (s.B i) (by have := Inv.blt I i hi; omega)
      rw [if_pos rfl] at this; omega
    have e3 : s.T m (n + m) * t.d = sm m (fun i => s.T i (n + m) * (-(t.d * A m (s.B i)))) := by
      have := x (n + m) (Nat.le_refl _) m (Nat.le_refl m)
      rw [P.end0] at this
      have this : s.d * 0 = sm m (fun i => s.T i (n + m) * bv m A s.B i m) + s.T m (n + m) * bv m A s.B m m := this
      have z : bv m A s.B m m = 1 := by unfold bv; rw [if_neg (Nat.lt_irrefl m), if_pos rfl]
      rw [z] at this
      have w : sm m (fun i => s.T i (n + m) * (-(t.d * A m (s.B i)))) = (-t.d) * sm m (fun i => s.T i (n + m) * bv m A s.B i m) := by
        rw [← sm_mul]
        exact sm_congr fun i hi => by unfold bv; rw [if_pos hi]; grind
      rw [w]; grind
    rw [e3, Int.mul_comm _ s.d, e, e1, sm_swap]
    refine sm_le fun i hi => ?_
    rw [sm_mul, e2 i hi]
    refine Int.mul_le_mul_of_nonneg_left ?_ (Inv.rhs I i hi)
    have := O (s.B i) (Inv.blt I i hi)
    omega
  exact Int.le_antisymm (go I J O') (go J I O)
/-- no marking finds more -/
theorem weak {y f b : Nat → Int} {a : Nat → Nat → Int} {d u t : Int} (hy : ∀ k, k < m → 0 ≤ y k) (hd : ∀ i, i < n → d ≤ sm m (fun k => y k * a k i)) (hf : ∀ i, i < n → 0 ≤ f i) (hu : 0 ≤ u)
    (hb : ∀ k, k < m → sm n (fun i => f i * a k i) * u ≤ b k * t) : sm n f * d * u ≤ sm m (fun k => y k * b k) * t := by
  have e1 : sm n f * d ≤ sm n (fun i => f i * sm m (fun k => y k * a k i)) := by
    rw [Int.mul_comm, ← sm_mul]
    refine sm_le fun i hi => ?_
    rw [Int.mul_comm]; exact Int.mul_le_mul_of_nonneg_left (hd i hi) (hf i hi)
  have e2 : sm n (fun i => f i * sm m (fun k => y k * a k i)) = sm m (fun k => y k * sm n (fun i => f i * a k i)) := by
    rw [show sm n (fun i => f i * sm m (fun k => y k * a k i)) = sm n (fun i => sm m (fun k => y k * (f i * a k i))) from sm_congr fun i hi => by rw [← sm_mul]; exact sm_congr fun k hk => by grind]
    rw [sm_swap]
    exact sm_congr fun k hk => sm_mul _ _ _
  rw [e2] at e1
  refine Int.le_trans (Int.mul_le_mul_of_nonneg_right e1 hu) ?_
  rw [Int.mul_comm _ u, ← sm_mul, Int.mul_comm _ t, ← sm_mul]
  refine sm_le fun k hk => ?_
  have := Int.mul_le_mul_of_nonneg_left (hb k hk) (hy k hk)
  grind
/-! ### bounds -/
theorem pr_one {c : Nat → Int} {p : Nat} {C : Int} : ∀ {k : Nat}, p < k → (∀ i, i < k → c i = if i = p then C else 1) → pr k c = C
  | 0, h, _ => absurd h (Nat.not_lt_zero _)
  | k + 1, h, e => by
    show pr k c * c k = C
    by_cases z : p = k
    · subst z
      have : pr p c = 1 := by
        have : ∀ q, q ≤ p → pr q c = 1 := fun q => by
          induction q with
          | zero => intro _; rfl
          | succ q ih => intro h; show pr q c * c q = 1; rw [ih (by omega), e q (by omega), if_neg (by omega)]; rfl
        exact this p (Nat.le_refl p)
      rw [this, e p (by omega), if_pos rfl]; omega
    · rw [pr_one (k := k) (by omega) fun i hi => e i (by omega), e k (by omega), if_neg (by omega)]; omega
theorem entry_bound (I : TOk m n A s) {C : Int} (hC : 1 ≤ C) (h : ∀ k, k ≤ m → ∀ j, j < n + m → -1 ≤ A k j ∧ A k j ≤ 1) (hr : ∀ k, k ≤ m → -C ≤ A k (n + m) ∧ A k (n + m) ≤ C) {i j : Nat} (hi : i ≤ m) (hj : j ≤ n + m) :
    -(fct (m + 1) * C) ≤ s.T i j ∧ s.T i j ≤ fct (m + 1) * C := by
  have e := Inv.entry I hi hj
  have b := det_bound (k := m + 1) (v := ups (bv m A s.B) i (fun k => A k j)) (c := fun q => if q = i then C else 1) (fun q => by split <;> omega) fun q hq l hl => by
    by_cases z : q = i
    · rw [if_pos z, z, ups_self]
      by_cases w : j = n + m
      · rw [w]; exact hr l (by omega)
      · have := h l (by omega) j (by omega); omega
    · rw [if_neg z, ups_ne z]; unfold bv
      by_cases w : q < m
      · rw [if_pos w]; exact h l (by omega) _ (Inv.blt I q w)
      · rw [if_neg w]; split <;> omega
  rw [pr_one (p := i) (C := C) (by omega) fun q _ => rfl, ← e] at b
  exact b
theorem d_bound (I : TOk m n A s) (h : ∀ k, k ≤ m → ∀ j, j < n + m → -1 ≤ A k j ∧ A k j ≤ 1) : s.d ≤ fct (m + 1) := by
  have b := det_bound (k := m + 1) (v := bv m A s.B) (c := fun _ => 1) (fun q => by omega) fun q hq l hl => by
    unfold bv
    by_cases w : q < m
    · rw [if_pos w]; exact h l (by omega) _ (Inv.blt I q w)
    · rw [if_neg w]; split <;> omega
  have e : pr (m + 1) (fun _ => (1 : Int)) = 1 := by
    have : ∀ q, pr q (fun _ => (1 : Int)) = 1 := fun q => by
      induction q with
      | zero => rfl
      | succ q ih => show pr q _ * 1 = 1; rw [ih]; rfl
    exact this _
  rw [e, Inv.ddet I] at b
  omega
theorem fct_le : ∀ {k l : Nat}, k ≤ l → fct k ≤ fct l := fun {k l} h => by
  induction l with
  | zero => rw [show k = 0 by omega]; exact Int.le_refl _
  | succ l ih =>
    by_cases e : k = l + 1
    · rw [e]; exact Int.le_refl _
    · have a := ih (by omega)
      have p := fct_pos l
      have : fct l * 1 ≤ ((l : Int) + 1) * fct l := by
        rw [Int.mul_comm ((l : Int) + 1)]
        exact Int.mul_le_mul_of_nonneg_left (by omega) (by omega)
      show fct k ≤ ((l : Int) + 1) * fct l
      omega
end
end MK
/-! part D18 -/
set_option Elab.async false
set_option linter.all false
set_option maxRecDepth 100000
set_option maxHeartbeats 4000000
namespace MH
open PySem PySem.Spec PyProof.Rows L2
/-! ### the solver's table as a list of lists -/
def ent (T : List (List Int)) (i j : Nat) : Int := (T.getD i []).getD j 0
structure Shp (T : List (List Int)) (m N : Nat) : Prop where
  len : T.length = m + 1
  row : ∀ r ∈ T, r.length = N + 1
def SolB (K : Fr) (H : Hp) (p b : Addr) (T : List (List Int)) (d : Int) (B : List Nat) : Prop :=
  ∃ dx r vs, H p = some (.ins (He.ga K "Solver") dx [("rows", .ref r), ("divisor", .int d), ("basis", .ref b)]) ∧ H r = some (.lst vs) ∧ Paired (RLst RInt (hid b H)) vs T ∧ H b = some (.lst (B.map fun (x : Nat) => V.int (x : Int))) ∧ r ≠ b
def SolAt (K : Fr) (H : Hp) (p : Addr) (T : List (List Int)) (d : Int) (B : List Nat) : Prop := ∃ b, SolB K H p b T d B
theorem SolAt.up {K : Fr} {H H' : Hp} {p : Addr} {T : List (List Int)} {d : Int} {B : List Nat} (e : Same H H') (h : SolAt K H p T d B) : SolAt K H' p T d B := by
  obtain ⟨b, dx, r, vs, h1, h2, h3, h4, h5⟩ := h
  exact ⟨b, dx, r, vs, e _ _ h1, e _ _ h2, paired_up h3 fun _ _ => Mo.up (same_hid_up e), e _ _ h4, h5⟩
theorem atI_last {α : Type} {xs : List α} {v : α} (h : xs[xs.length - 1]? = some v) (p : 0 < xs.length) : atI xs (-1) = some v := by
  unfold atI ixN
  rw [if_neg (by decide), if_pos (by omega)]
  have : ((-1 : Int) + (xs.length : Int)).toNat = xs.length - 1 := by omega
  rw [show (Option.some ((-1 : Int) + (xs.length : Int)).toNat).bind (fun j => xs[j]?) = xs[((-1 : Int) + (xs.length : Int)).toNat]? from rfl, this]; exact h
theorem cut_init (xs : List V) : cutV xs none (some (-1)) = xs.take (xs.length - 1) := by
  have e : HT.sIx xs.length xs.length (some (-1)) = xs.length - 1 := by
    show (if (-1 : Int) < 0 then ((-1 : Int) + (xs.length : Int)).toNat else min (-1 : Int).toNat xs.length) = _
    rw [if_pos (by decide : (-1 : Int) < 0)]; omega
  unfold cutV
  rw [e, HT.sIx_none, List.drop_zero, Nat.sub_zero]
theorem ent_at {T : List (List Int)} {i j : Nat} {row : List Int} {x : Int} (h : T[i]? = some row) (g : row[j]? = some x) : ent T i j = x := by
  unfold ent
  rw [List.getD_eq_getElem?_getD, List.getD_eq_getElem?_getD, h, Option.getD_some, g, Option.getD_some]
section
variable {P : Program} {w : World} {K : Fr} {mg : Str → Option Value} {base : Heap}
theorem rows_at {H : Hp} {vs : List V} {T1 : List (List Int)} {m N i : Nat} (h3 : Paired (RLst RInt H) vs T1) (sh : Shp T1 m N) (hi : i ≤ m) :
    ∃ a, vs[i]? = some (.ref a) ∧ H a = some (.lst ((T1.getD i []).map V.int)) ∧ (T1.getD i []).length = N + 1 ∧ (∀ j : Nat, j ≤ N → atI ((T1.getD i []).map V.int) (j : Int) = some (.int (ent T1 i j))) ∧ atI ((T1.getD i []).map V.int) (-1) = some (.int (ent T1 i N)) ∧ T1[i]? = some (T1.getD i []) := by
  have tl := sh.len
  have hT : T1[i]? = some T1[i] := List.getElem?_eq_getElem (by omega)
  obtain ⟨v, hv, rv⟩ := paired_get' h3 hT
  obtain ⟨a, rfl, ha⟩ := rv.ints
  have g : T1.getD i [] = T1[i] := by rw [List.getD_eq_getElem?_getD, hT]; rfl
  rw [g]
  have rl := sh.row _ (List.getElem_mem (l := T1) (n := i) (by omega))
  have at_ : ∀ j : Nat, j ≤ N → (T1[i])[j]? = some (ent T1 i j) := fun j hj => by
    rw [List.getElem?_eq_getElem (by omega)]
    exact congrArg some (ent_at hT (List.getElem?_eq_getElem (by omega))).symm
  refine ⟨a, hv, ha, rl, fun j hj => atI_nat (by rw [List.getElem?_map, at_ j hj]; rfl), atI_last ?_ (by rw [List.length_map]; omega), hT⟩
  rw [List.length_map, rl, Nat.add_sub_cancel, List.getElem?_map, at_ N (Nat.le_refl _)]; rfl
def sp_Solver_price (K : Fr) : Sp := spx 2 fun vs H Q _ => ∃ (p : Addr) (c : Nat) (T : List (List Int)) (d : Int) (B : List Nat) (m N : Nat), vs = [.ref p, .int c] ∧ SolAt K H p T d B ∧ Shp T m N ∧ c ≤ N ∧ Q (.int (ent T m c)) H
theorem sc_Solver_price : FnScope ["self", "column"] ["self", "column"] (defScope s_Solver_price) := ⟨rfl, rfl, rfl, by decide +kernel, rfl, by decide +kernel, by decide +kernel⟩
theorem c_Solver_price (T : Tx K mg)  : Met P w K mg base 1 (He.ga K "Solver") "price" ["self", "column"] (sp_Solver_price K) := by
  refine T.met 21 rfl 70 rfl 106 rfl sc_Solver_price (fun _ _ _ _ h => h.1) (fun _ _ _ _ _ _ us hl => match us, hl with | [_, _], _ => rfl) (fun cdv A outer s H vs Q E hr h => ?_)
  have nd := sc_Solver_price.nd
  have hu := hu_of hr
  refine ⟨_, (pss_one (ps_ret (pe_ix (ix_listK (K := K)) (pe_ix (ix_listK (K := K)) (pe_fldK (K := K) (pv 0) rfl) (pe_un un_neg pe_int) (fun _ _ => rfl)) (pv 1) (fun _ _ => rfl)))), ?_⟩
  obtain ⟨_, p, c, T1, d, B, m, N, rfl, ⟨b, dx, r, vs, h1, h2, h3', h4, h5⟩, sh, hc, k⟩ := h
  have h3 := paired_up h3' fun _ _ => Mo.up (R := RLst RInt) (same_hid (a := b) (H := H))
  have vl := paired_len h3
  have tl := sh.len
  have hT : T1[m]? = some (T1[m]) := List.getElem?_eq_getElem (by omega)
  obtain ⟨v, hv, rv⟩ := paired_get' h3 hT
  obtain ⟨a, rfl, ha⟩ := rv.ints
  have rl : (T1[m]).length = N + 1 := sh.row _ (List.getElem_mem _)
  have hc' : c < (T1[m]).length := by omega
  have e : ent T1 m c = (T1[m])[c] := ent_at hT (List.getElem?_eq_getElem hc')
  rw [e] at k
  exact ⟨_, rfl, p, _, dx, _, _, rfl, h1, T.cl_Solver, T.n_Solver_rows, lk_eq, 1, rfl, r, _, -1, _, rfl, rfl, SqL.of h2, atI_last (by rw [vl, tl]; exact hv) (by omega), _, rfl, a, _, _, _, rfl, rfl, SqL.of ha, atI_nat (by rw [List.getElem?_map, List.getElem?_eq_getElem hc']; rfl), k⟩
/-- the first column with a price below 0, or none -/
def sp_Solver_rising (K : Fr) : Sp := spx 1 fun vs H Q _ => ∃ (p : Addr) (T : List (List Int)) (d : Int) (B : List Nat) (m N : Nat), vs = [.ref p] ∧ SolAt K H p T d B ∧ Shp T m N ∧
  (∀ H', Same H H' → (∀ j, j < N → 0 ≤ ent T m j) → Q .non H') ∧ ∀ (c : Nat) H', Same H H' → c < N → ent T m c < 0 → (∀ j, j < c → 0 ≤ ent T m j) → Q (.int c) H'
theorem sc_Solver_rising : FnScope ["self", "column", "entry"] ["self"] (defScope s_Solver_rising) := ⟨rfl, rfl, rfl, by decide +kernel, rfl, by decide +kernel, by decide +kernel⟩
theorem c_Solver_rising (T : Tx K mg)  : Met P w K mg base 1 (He.ga K "Solver") "rising" ["self"] (sp_Solver_rising K) := by
  refine T.met 17 rfl 70 rfl 102 rfl sc_Solver_rising (fun _ _ _ _ h => h.1) (fun _ _ _ _ _ _ us hl => match us, hl with | [_], _ => rfl) (fun cdv A outer s H vs Q E hr h => ?_)
  have nd := sc_Solver_rising.nd
  have hu := hu_of hr
  refine ⟨_, (pss_cons (ps_for PassesOwn.never rfl (pi_enumK (by rfl) T.f_enumerate (pa_cons (pe_slice sl_list (pe_ix (ix_listK (K := K)) (pe_fldK (K := K) (pv 0) rfl) (pe_un un_neg pe_int) (fun _ _ => rfl)) po_none (po_some (pe_un un_neg pe_int))) pa_nil)) (pg_tupK (K := K) 2 rfl (pgs_cons (pg_name (i := 1) nd rfl (Or.inl rfl)) (pgs_cons (pg_name (i := 2) nd rfl (Or.inl rfl)) pgs_nil))) (pss_one (ps_if (pt_cmpR op_lt (pv 2) pe_int (nomark _)) (pss_one (ps_ret (pv 1))) pss_nil)))
      (pss_one (ps_ret pe_non))), ?_⟩
  obtain ⟨_, p, T1, d, B, m, N, rfl, ⟨b, dx, r, vs, h1, h2, h3', h4, h5⟩, sh, k0, k1⟩ := h
  have h3 := paired_up h3' fun _ _ => Mo.up (R := RLst RInt) (same_hid (a := b) (H := H))
  have vl := paired_len h3
  have tl := sh.len
  have hT : T1[m]? = some (T1[m]) := List.getElem?_eq_getElem (by omega)
  obtain ⟨v, hv, rv⟩ := paired_get' h3 hT
  obtain ⟨a, rfl, ha⟩ := rv.ints
  have rl : (T1[m]).length = N + 1 := sh.row _ (List.getElem_mem _)
  have e : ∀ j x, (T1[m])[j]? = some x → ent T1 m j = x := fun j x hx => ent_at hT hx
  refine ⟨_, rfl, p, _, dx, _, _, rfl, h1, T.cl_Solver, T.n_Solver_rows, lk_eq, 1, rfl, r, _, -1, _, rfl, rfl, SqL.of h2, atI_last (by rw [vl, tl]; exact hv) (by omega), 1, rfl, -1, rfl, a, _, rfl, SqL.of ha, fun S hS => ?_⟩
  rw [cut_init]
  have cutE : (((T1[m]).map V.int).take (((T1[m]).map V.int).length - 1)) = ((T1[m]).take N).map V.int := by
    rw [List.length_map, rl, Nat.add_sub_cancel, List.map_take]
  rw [cutE]
  refine ⟨.l S, ((T1[m]).take N).map V.int, rfl, SqL.of upd_same, for_enumK (xs := ((T1[m]).take N).map V.int) (fun i σ H' => ∃ u1 u2, σ = [some (.ref p), u1, u2] ∧ Same (upd H S (.lst (((T1[m]).take N).map V.int))) H' ∧ ∀ j, j < i → 0 ≤ ent T1 m j) ⟨none, none, rfl, Same.refl _, fun j hj => absurd hj (Nat.not_lt_zero _)⟩ (fun i σ H' ⟨_, _, _, e, _⟩ => SqL.of (e _ _ upd_same)) ?_ ?_⟩
  · rintro i x T2 σ H' hi ⟨u1, u2, rfl, e', h0⟩ hT2
    obtain ⟨x, hx, rfl⟩ := map_some hi
    have il : i < N := by have := (List.getElem?_eq_some_iff.mp hx).1; rw [List.length_take] at this; omega
    have hx' : (T1[m])[i]? = some x := by rw [List.getElem?_take, if_pos il] at hx; exact hx
    have ee := e i x hx'
    refine ⟨T2, _, rfl, SqT.of upd_same, rfl, _, _, rfl, _, _, rfl, rfl, _, rfl, _, _, rfl, rfl, _, rfl, ?_⟩
    refine ite2 (fun c => ?_) (fun c => ?_)
    · have c' : x < 0 := of_decide_eq_true c
      exact ⟨_, rfl, k1 i _ ((same_new hS).trans (e'.trans (same_new hT2))) il (by rw [ee]; exact c') h0⟩
    · have c' : ¬ x < 0 := fun z => c (decide_eq_true z)
      refine ⟨_, _, rfl, e'.trans (same_new hT2), fun j hj => ?_⟩
      by_cases q : j < i
      · exact h0 j q
      · rw [show j = i by omega, ee]; omega
  · rintro σ H' ⟨u1, u2, rfl, e', h0⟩
    have l : (((T1[m]).take N).map V.int).length = N := by rw [List.length_map, List.length_take]; omega
    rw [l] at h0
    exact k0 _ ((same_new hS).trans e') h0
/-- row r is no worse than row i -/
def Lst (T : List (List Int)) (B : List Nat) (N c r i : Nat) : Prop := ent T r N * ent T i c < ent T i N * ent T r c ∨ (ent T r N * ent T i c = ent T i N * ent T r c ∧ B.getD r 0 ≤ B.getD i 0)
theorem Lst.trans {T : List (List Int)} {B : List Nat} {N c a b i : Nat} (pa : 0 < ent T a c) (pb : 0 < ent T b c) (pi : 0 < ent T i c) (h : Lst T B N c a b) (g : Lst T B N c b i) : Lst T B N c a i := by
  unfold Lst at *
  generalize ent T a N = xa at *
  generalize ent T b N = xb at *
  generalize ent T i N = xi at *
  generalize ent T a c = ca at *
  generalize ent T b c = cb at *
  generalize ent T i c = ci at *
  have le1 : xa * cb ≤ xb * ca := by rcases h with h | h <;> omega
  have le2 : xb * ci ≤ xi * cb := by rcases g with h | h <;> omega
  have m1 : xa * cb * ci ≤ xb * ca * ci := Int.mul_le_mul_of_nonneg_right le1 (by omega)
  have m2 : xb * ci * ca ≤ xi * cb * ca := Int.mul_le_mul_of_nonneg_right le2 (by omega)
  have q1 : xa * ci * cb ≤ xi * ca * cb := by grind
  have fin : xa * ci ≤ xi * ca := Int.le_of_mul_le_mul_right q1 pb
  by_cases st : xa * ci < xi * ca
  · exact .inl st
  · have eq : xa * ci = xi * ca := by omega
    have eqm : xa * ci * cb = xi * ca * cb := by rw [eq]
    refine .inr ⟨eq, ?_⟩
    rcases h with h | ⟨h, hb⟩
    · have := Int.mul_lt_mul_of_pos_right h pi
      exfalso; grind
    · rcases g with g | ⟨g, gb⟩
      · have := Int.mul_lt_mul_of_pos_right g pa
        exfalso; grind
      · omega
theorem Lst.total {T : List (List Int)} {B : List Nat} {N c a b : Nat} (h : ¬ (ent T a N * ent T b c < ent T b N * ent T a c ∨ (ent T a N * ent T b c = ent T b N * ent T a c ∧ B.getD a 0 < B.getD b 0))) : Lst T B N c b a := by
  unfold Lst
  generalize ent T a N * ent T b c = x at *
  generalize ent T b N * ent T a c = y at *
  by_cases e : y < x
  · exact .inl e
  · refine .inr ⟨by omega, ?_⟩
    refine Nat.le_of_not_lt fun z => h ?_
    by_cases e2 : x < y
    · exact .inl e2
    · exact .inr ⟨by omega, z⟩
structure TBd (T : List (List Int)) (m N : Nat) : Prop where
  bd : ∀ i, i ≤ m → ∀ j, j ≤ N → Bd 3000 (ent T i j)
def sp_Solver_bounding (K : Fr) : Sp := spx 2 fun vs H Q _ => ∃ (p : Addr) (c : Nat) (T : List (List Int)) (d : Int) (B : List Nat) (m N : Nat), vs = [.ref p, .int c] ∧ SolAt K H p T d B ∧ Shp T m N ∧ TBd T m N ∧ c < N ∧ B.length = m ∧ (∃ i, i < m ∧ 0 < ent T i c) ∧
  ∀ (r : Nat) H', Same H H' → r < m → 0 < ent T r c → (∀ i, i < m → 0 < ent T i c → Lst T B N c r i) → Q (.int r) H'
theorem sc_Solver_bounding : FnScope ["self", "column", "best", "at", "row", "one", "other"] ["self", "column"] (defScope s_Solver_bounding) := ⟨rfl, rfl, rfl, by decide +kernel, rfl, by decide +kernel, by decide +kernel⟩
theorem c_Solver_bounding (T : Tx K mg)  : Met P w K mg base 1 (He.ga K "Solver") "bounding" ["self", "column"] (sp_Solver_bounding K) := by
  refine T.met 18 rfl 70 rfl 103 rfl sc_Solver_bounding (fun _ _ _ _ h => h.1) (fun _ _ _ _ _ _ us hl => match us, hl with | [_, _], _ => rfl) (fun cdv A outer s H vs Q E hr h => ?_)
  have nd := sc_Solver_bounding.nd
  have hu := hu_of hr
  refine ⟨_, (pss_cons (ps_set (i := 2) nd rfl (Or.inl rfl) pe_non)
      (pss_cons (ps_for PassesOwn.never rfl (pi_enumK (by rfl) T.f_enumerate (pa_cons (pe_slice sl_list (pe_fldK (K := K) (pv 0) rfl) po_none (po_some (pe_un un_neg pe_int))) pa_nil)) (pg_tupK (K := K) 2 rfl (pgs_cons (pg_name (i := 3) nd rfl (Or.inl rfl)) (pgs_cons (pg_name (i := 4) nd rfl (Or.inl rfl)) pgs_nil))) (pss_one (ps_if (pt_cmpR op_gt (pe_ix (ix_listK (K := K)) (pv 4) (pv 1) (fun _ _ => rfl)) pe_int (nomark _)) (pss_one (ps_if (pt_cmpR op_isN (pv 2) pe_non (nomark _)) (pss_one (ps_set (i := 2) nd rfl (Or.inl rfl) (pv 3))) (pss_cons (ps_set (i := 5) nd rfl (Or.inl rfl) (pe_op op_mulW (pe_ix (ix_listK (K := K)) (pv 4) (pe_un un_neg pe_int) (fun _ _ => rfl)) (pe_ix (ix_listK (K := K)) (pe_ix (ix_listK (K := K)) (pe_fldK (K := K) (pv 0) rfl) (pv 2) (fun _ _ => rfl)) (pv 1) (fun _ _ => rfl))))
      (pss_cons (ps_set (i := 6) nd rfl (Or.inl rfl) (pe_op op_mulW (pe_ix (ix_listK (K := K)) (pe_ix (ix_listK (K := K)) (pe_fldK (K := K) (pv 0) rfl) (pv 2) (fun _ _ => rfl)) (pe_un un_neg pe_int) (fun _ _ => rfl)) (pe_ix (ix_listK (K := K)) (pv 4) (pv 1) (fun _ _ => rfl))))
      (pss_one (ps_if (PW.pt (pw_or (pt_cmpR op_lt (pv 5) (pv 6) (nomark _)) (pw_or1 (PW.pt (pw_and (pt_cmpR op_eq (pv 5) (pv 6) (nomark _)) (pw_and1 (pt_cmpR op_lt (pe_ix (ix_listK (K := K)) (pe_fldK (K := K) (pv 0) rfl) (pv 3) (fun _ _ => rfl)) (pe_ix (ix_listK (K := K)) (pe_fldK (K := K) (pv 0) rfl) (pv 2) (fun _ _ => rfl)) (nomark _)))))))) (pss_one (ps_set (i := 2) nd rfl (Or.inl rfl) (pv 3))) pss_nil)))))) pss_nil)))
      (pss_one (ps_ret (pv 2))))), ?_⟩
  obtain ⟨_, p, c, T1, d, B, m, N, rfl, ⟨b, dx, r, vs, h1, h2, h3', h4, h5⟩, sh, bd, hc, bl, ⟨i0, hi0, pi0⟩, k⟩ := h
  have h3 := paired_up h3' fun _ _ => Mo.up (R := RLst RInt) (same_hid (a := b) (H := H))
  have vl := paired_len h3
  have tl := sh.len
  have rowAt : ∀ i, i ≤ m → _ := fun i hi => rows_at h3 sh (i := i) hi
  refine ⟨_, rfl, p, _, dx, _, _, rfl, h1, T.cl_Solver, T.n_Solver_rows, lk_eq, 1, rfl, -1, rfl, r, _, rfl, SqL.of h2, fun S hS => ?_⟩
  rw [cut_init, vl, tl, Nat.add_sub_cancel]
  have e0 : Same H (upd H S (.lst (vs.take m))) := same_new hS
  refine ⟨.l S, vs.take m, rfl, SqL.of upd_same, for_enumK (xs := vs.take m) (fun i σ H' => ∃ u3 u4 u5 u6 bv, σ = [some (.ref p), some (.int c), some bv, u3, u4, u5, u6] ∧ Same (upd H S (.lst (vs.take m))) H' ∧
      ((bv = .non ∧ ∀ j, j < i → ¬ 0 < ent T1 j c) ∨ ∃ q : Nat, bv = .int q ∧ q < m ∧ 0 < ent T1 q c ∧ ∀ j, j < i → 0 < ent T1 j c → Lst T1 B N c q j)) ⟨none, none, none, none, .non, rfl, Same.refl _, .inl ⟨rfl, fun j hj => absurd hj (Nat.not_lt_zero _)⟩⟩ (fun i σ H' ⟨_, _, _, _, _, _, e, _⟩ => SqL.of (e _ _ upd_same)) ?_ ?_⟩
  · rintro i x T2 σ H' hi ⟨u3, u4, u5, u6, bv, rfl, e', hb⟩ hT2
    have il : i < m := by have := (List.getElem?_eq_some_iff.mp hi).1; rw [List.length_take] at this; omega
    rw [List.getElem?_take, if_pos il] at hi
    obtain ⟨a, ha1, ha2, ha3, ha4, ha5, _⟩ := rowAt i (by omega)
    rw [ha1] at hi; cases hi
    generalize hH2 : upd H' T2 (.tup [.int (i : Nat), V.ref a]) = H2
    have e2 : Same H H2 := (e0.trans e').trans (by rw [← hH2]; exact same_new hT2)
    have e3 : Same (upd H S (.lst (vs.take m))) H2 := e'.trans (by rw [← hH2]; exact same_new hT2)
    have hT2' : H2 T2 = some (.tup [.int (i : Nat), V.ref a]) := by rw [← hH2]; exact upd_same
    refine ⟨T2, _, rfl, SqT.of hT2', rfl, _, _, rfl, _, _, rfl, rfl, ?_⟩
    refine ⟨_, rfl, _, rfl, a, _, (c : Int), _, rfl, rfl, SqL.of (e2 _ _ ha2), ha4 c (by omega), _, _, rfl, rfl, _, rfl, ?_⟩
    refine ite2 (fun cp => ?_) (fun cp => ?_)
    · have cp' : 0 < ent T1 i c := of_decide_eq_true cp
      rcases hb with ⟨rfl, hb2⟩ | ⟨q, rfl, hq2, hq3, hq4⟩
      · refine ⟨_, rfl, rfl, _, rfl, iteD rfl ⟨_, rfl, some (.int (i : Nat)), some (.ref a), u5, u6, .int (i : Nat), rfl, e3, .inr ⟨i, rfl, il, cp', fun j hj pj => ?_⟩⟩⟩
        by_cases z : j < i
        · exact absurd pj (hb2 j z)
        · rw [show j = i by omega]; exact .inr ⟨rfl, Nat.le_refl _⟩
      · obtain ⟨aq, hq5, hq6, hq7, hq8, hq9, _⟩ := rowAt q (by omega)
        have bi := bd.bd i (by omega)
        have bq := bd.bd q (by omega)
        refine ⟨_, rfl, rfl, _, rfl, iteN (fun z => nomatch z) ?_⟩
        refine ⟨_, rfl, 1, rfl, a, _, -1, _, rfl, rfl, SqL.of (e2 _ _ ha2), ha5, _, rfl, p, _, dx, _, _, rfl, e2 _ _ h1, T.cl_Solver, T.n_Solver_rows, lk_eq, _, rfl, r, _, (q : Int), .ref aq, rfl, rfl, SqL.of (e2 _ _ h2), atI_nat hq5, _, rfl, aq, _, (c : Int), _, rfl, rfl, SqL.of (e2 _ _ hq6), hq8 c (by omega), _, _, rfl, rfl, wmul (bi N (Nat.le_refl _)) (bq c (by omega)) (by decide), ?_⟩
        refine ⟨_, rfl, p, _, dx, _, _, rfl, e2 _ _ h1, T.cl_Solver, T.n_Solver_rows, lk_eq, _, rfl, r, _, (q : Int), .ref aq, rfl, rfl, SqL.of (e2 _ _ h2), atI_nat hq5, 1, rfl, aq, _, -1, _, rfl, rfl, SqL.of (e2 _ _ hq6), hq9, _, rfl, _, rfl, a, _, (c : Int), _, rfl, rfl, SqL.of (e2 _ _ ha2), ha4 c (by omega), _, _, rfl, rfl, wmul (bq N (Nat.le_refl _)) (bi c (by omega)) (by decide), ?_⟩
        have take : (ent T1 i N * ent T1 q c < ent T1 q N * ent T1 i c ∨ (ent T1 i N * ent T1 q c = ent T1 q N * ent T1 i c ∧ B.getD i 0 < B.getD q 0)) → ∀ j, j < i + 1 → 0 < ent T1 j c → Lst T1 B N c i j := fun h j hj pj => by
          by_cases z : j < i
          · refine Lst.trans cp' hq3 pj ?_ (hq4 j z pj)
            rcases h with h | ⟨h1, h2⟩
            · exact .inl h
            · exact .inr ⟨h1, Nat.le_of_lt h2⟩
          · rw [show j = i by omega]; exact .inr ⟨rfl, Nat.le_refl _⟩
        have keep : ¬ (ent T1 i N * ent T1 q c < ent T1 q N * ent T1 i c ∨ (ent T1 i N * ent T1 q c = ent T1 q N * ent T1 i c ∧ B.getD i 0 < B.getD q 0)) → ∀ j, j < i + 1 → 0 < ent T1 j c → Lst T1 B N c q j := fun h j hj pj => by
          by_cases z : j < i
          · exact hq4 j z pj
          · rw [show j = i by omega]; exact Lst.total h
        have bas : ∀ {x : Nat}, x < m → atI (B.map fun (x : Nat) => V.int (x : Int)) (x : Int) = some (.int (B.getD x 0 : Nat)) := fun {x} hx => atI_nat (by
          rw [List.getElem?_map, List.getD_eq_getElem?_getD, List.getElem?_eq_getElem (by omega)]; rfl)
        refine ⟨_, rfl, _, rfl, _, _, rfl, rfl, _, rfl, ?_⟩
        refine ite2 (fun c1 => ?_) (fun c1 => ?_)
        · refine iteT ⟨_, rfl, _, _, _, _, .int (i : Nat), rfl, e3, .inr ⟨i, rfl, il, cp', take (.inl (of_decide_eq_true c1))⟩⟩
        have c1' : ¬ ent T1 i N * ent T1 q c < ent T1 q N * ent T1 i c := fun z => c1 (decide_eq_true z)
        refine ⟨_, rfl, _, rfl, rfl, _, rfl, ?_⟩
        refine ite2 (fun c2 => ?_) (fun c2 => ?_)
        · have c2' : ent T1 i N * ent T1 q c = ent T1 q N * ent T1 i c := by have := of_decide_eq_true c2; injection this
          refine ⟨_, rfl, p, _, dx, _, _, rfl, e2 _ _ h1, T.cl_Solver, T.n_Solver_basis, (lk_ne (by decide +kernel)).trans ((lk_ne (by decide +kernel)).trans lk_eq), _, rfl, b, _, (i : Int), _, rfl, rfl, SqL.of (e2 _ _ h4), bas il,
            _, rfl, p, _, dx, _, _, rfl, e2 _ _ h1, T.cl_Solver, T.n_Solver_basis, (lk_ne (by decide +kernel)).trans ((lk_ne (by decide +kernel)).trans lk_eq), _, rfl, b, _, (q : Int), _, rfl, rfl, SqL.of (e2 _ _ h4), bas hq2, _, _, rfl, rfl, _, rfl, ?_⟩
          refine ite2 (fun c3 => ?_) (fun c3 => ?_)
          · have c3' : B.getD i 0 < B.getD q 0 := by have := of_decide_eq_true c3; omega
            exact ⟨_, rfl, _, _, _, _, .int (i : Nat), rfl, e3, .inr ⟨i, rfl, il, cp', take (.inr ⟨c2', c3'⟩)⟩⟩
          · have c3' : ¬ B.getD i 0 < B.getD q 0 := fun z => c3 (decide_eq_true (by omega))
            exact ⟨_, _, _, _, .int q, rfl, e3, .inr ⟨q, rfl, hq2, hq3, keep fun h => h.elim c1' fun h => c3' h.2⟩⟩
        · have c2' : ¬ ent T1 i N * ent T1 q c = ent T1 q N * ent T1 i c := fun z => c2 (decide_eq_true (congrArg V.int z))
          exact iteF ⟨_, _, _, _, .int q, rfl, e3, .inr ⟨q, rfl, hq2, hq3, keep fun h => h.elim c1' fun h => c2' h.1⟩⟩
    · have cp' : ¬ 0 < ent T1 i c := fun z => cp (decide_eq_true z)
      refine ⟨_, _, _, _, _, rfl, e3, ?_⟩
      rcases hb with ⟨hb1, hb2⟩ | ⟨q, hq1, hq2, hq3, hq4⟩
      · refine .inl ⟨hb1, fun j hj => ?_⟩
        by_cases z : j < i
        · exact hb2 j z
        · rw [show j = i by omega]; exact cp'
      · refine .inr ⟨q, hq1, hq2, hq3, fun j hj pj => ?_⟩
        by_cases z : j < i
        · exact hq4 j z pj
        · rw [show j = i by omega] at pj; exact absurd pj cp'
  · rintro σ H' ⟨u3, u4, u5, u6, bv, rfl, e', hb⟩
    have l : (vs.take m).length = m := by rw [List.length_take]; omega
    rw [l] at hb
    rcases hb with ⟨hb1, hb2⟩ | ⟨q, hq1, hq2, hq3, hq4⟩
    · exact absurd pi0 (hb2 i0 hi0)
    · subst hq1
      exact ⟨_, rfl, k q _ (e0.trans e') hq2 hq3 hq4⟩
/-- the table behind a step -/
def nxtT (T : List (List Int)) (d : Int) (r c m N : Nat) : List (List Int) := (List.range (m + 1)).map fun i => (List.range (N + 1)).map fun j => MK.piv (ent T) d r c i j
theorem nxt_ent {T : List (List Int)} {d : Int} {r c m N i j : Nat} (hi : i ≤ m) (hj : j ≤ N) : ent (nxtT T d r c m N) i j = MK.piv (ent T) d r c i j := by
  refine ent_at (row := (List.range (N + 1)).map fun j => MK.piv (ent T) d r c i j) ?_ ?_
  · unfold nxtT
    rw [List.getElem?_map, List.getElem?_eq_getElem (by rw [List.length_range]; omega), List.getElem_range]; rfl
  · rw [List.getElem?_map, List.getElem?_eq_getElem (by rw [List.length_range]; omega), List.getElem_range]; rfl
theorem nxt_shp {T : List (List Int)} {d : Int} {r c m N : Nat} : Shp (nxtT T d r c m N) m N := by
  refine ⟨by unfold nxtT; rw [List.length_map, List.length_range], fun x hx => ?_⟩
  unfold nxtT at hx
  obtain ⟨i, _, rfl⟩ := List.mem_map.mp hx
  rw [List.length_map, List.length_range]
def sp_Solver_exchange (K : Fr) : Sp := spx 3 fun vs H Q _ => ∃ (p b : Addr) (r c : Nat) (T : List (List Int)) (d : Int) (B : List Nat) (m N : Nat), vs = [.ref p, .int r, .int c] ∧ SolB K H p b T d B ∧ Shp T m N ∧ TBd T m N ∧ r < m ∧ c < N ∧ B.length = m ∧ 0 < d ∧ Bd 3000 d ∧ m ≤ 1000 ∧ N ≤ 5000 ∧
  ∀ H', SolB K H' p b (nxtT T d r c m N) (ent T r c) (B.set r c) → (∀ x o, x ≠ p → x ≠ b → H x = some o → H' x = some o) → Q .non H'
theorem sc_Solver_exchange : FnScope ["self", "at", "column", "row", "pivot", "made", "other", "entries", "one", "own"] ["self", "at", "column"] (defScope s_Solver_exchange) := ⟨rfl, rfl, rfl, by decide +kernel, rfl, by decide +kernel, by decide +kernel⟩
theorem c_Solver_exchange (T : Tx K mg)  : Met P w K mg base 1 (He.ga K "Solver") "exchange" ["self", "at", "column"] (sp_Solver_exchange K) := by
  refine T.met 19 rfl 70 rfl 104 rfl sc_Solver_exchange (fun _ _ _ _ h => h.1) (fun _ _ _ _ _ _ us hl => match us, hl with | [_, _, _], _ => rfl) (fun cdv A outer s H vs Q E hr h => ?_)
  have nd := sc_Solver_exchange.nd
  have hu := hu_of hr
  refine ⟨_, (pss_cons (ps_set (i := 3) nd rfl (Or.inl rfl) (pe_ix (ix_listK (K := K)) (pe_fldK (K := K) (pv 0) rfl) (pv 1) (fun _ _ => rfl)))
      (pss_cons (ps_set (i := 4) nd rfl (Or.inr rfl) (pe_ix (ix_listK (K := K)) (pv 3) (pv 2) (fun _ _ => rfl)))
      (pss_cons (ps_set (i := 5) nd rfl (Or.inl rfl) (pe_lst pa_nil))
      (pss_cons (ps_for PassesOwn.never rfl (pi_enumK (by rfl) T.f_enumerate (pa_cons (pe_fldK (K := K) (pv 0) rfl) pa_nil)) (pg_tupK (K := K) 2 rfl (pgs_cons (pg_name (i := 6) nd rfl (Or.inl rfl)) (pgs_cons (pg_name (i := 7) nd rfl (Or.inr rfl)) pgs_nil))) (pss_one (ps_if (pt_cmpR op_eq (pv 6) (pv 1) (nomark _)) (pss_one (ps_expr (pe_bm PySem.F.plainAttrs_list PySem.F.slot_list_append PySem.F.type_list_append mt_append (pv 5) (pa_cons (pv 7) pa_nil)))) (pss_one (ps_expr (pe_bm PySem.F.plainAttrs_list PySem.F.slot_list_append PySem.F.type_list_append mt_append (pv 5) (pa_cons (pe_lc (own := [("one", 8), ("own", 9)]) (g := (gTup K 2 (gCons (gName 8) (gCons (gName 9) gNil)))) (tt := tYes) (by rfl) nd (pi_zipK (by rfl) T.f_zip (pa_cons (pv 7) (pa_cons (pv 3) pa_nil))) (blkOk_by (own := [("one", 8), ("own", 9)]) (N := ["self", "at", "column", "row", "pivot", "made", "other", "entries", "one", "own"]) (sc := defScope s_Solver_exchange) (by decide +kernel)) (fun _ _ _ _ _ => (pg_tupK (K := K) 2 rfl (pgs_cons (pg_name (i := 8) nd rfl (Or.inl rfl)) (pgs_cons (pg_name (i := 9) nd rfl (Or.inl rfl)) pgs_nil)))) (fun _ _ _ _ _ => pts_nil) (fun _ _ _ _ _ => (pe_op op_fdivW (pe_op op_sub (pe_op op_mulW (pv 8) (pv 4)) (pe_op op_mulW (pe_ix (ix_listK (K := K)) (pv 7) (pv 2) (fun _ _ => rfl)) (pv 9))) (pe_fldK (K := K) (pv 0) rfl)))) pa_nil)))))))
      (pss_cons (ps_fld (pv 0) (pv 5) rfl)
      (pss_cons (ps_fld (pv 0) (pv 4) rfl)
      (pss_one (ps_asg (pv 2) (pg_sub (pe_fldK (K := K) (pv 0) rfl) (pv 1) set_list))))))))), ?_⟩
  obtain ⟨_, p, b, r, c, T1, d, B, m, N, rfl, ⟨dx, ra, vs, h1, h2, h3', h4, h5⟩, sh, bd, hr, hc, bl, d0, bdd, mb, Nb, k⟩ := h
  have h3 := paired_up h3' fun _ _ => Mo.up (R := RLst RInt) (same_hid (a := b) (H := H))
  have vl := paired_len h3
  have tl := sh.len
  have rowAt : ∀ i, i ≤ m → _ := fun i hi => rows_at h3 sh (i := i) hi
  obtain ⟨ar, hr1, hr2, hr3, hr4, _, _⟩ := rowAt r (by omega)
  refine ⟨_, rfl, p, _, dx, _, _, rfl, h1, T.cl_Solver, T.n_Solver_rows, lk_eq, _, rfl, ra, _, (r : Int), .ref ar, rfl, rfl, SqL.of h2, atI_nat hr1, ?_⟩
  refine ⟨_, rfl, _, rfl, ar, _, (c : Int), _, rfl, rfl, SqL.of hr2, hr4 c (by omega), by show 0 ≤ sizeLine; decide, fun D hD => ?_⟩
  have nDp : D ≠ p := (ne_of_none h1 hD).symm
  have nDb : D ≠ b := (ne_of_none h4 hD).symm
  have hp1 : (upd H D (.lst [])) p = _ := same_new hD _ _ h1
  have hra1 : (upd H D (.lst [])) ra = _ := same_new hD _ _ h2
  refine ⟨_, rfl, p, _, dx, _, _, rfl, hp1, T.cl_Solver, T.n_Solver_rows, lk_eq, .l ra, vs, rfl, SqL.of hra1, for_enumK (xs := vs) (fun i σ H' => ∃ vs2 u6 u7, σ = [some (.ref p), some (.int r), some (.int c), some (.ref ar), some (.int (ent T1 r c)), some (.ref D), u6, u7, none, none] ∧ Same H H' ∧ H' D = some (.lst vs2) ∧ Paired (RLst RInt (hid D (hid b H'))) vs2 ((nxtT T1 d r c m N).take i))
    ⟨[], none, none, rfl, same_new hD, upd_same, .nil⟩ (fun i σ H' ⟨_, _, _, _, e, _⟩ => SqL.of (e _ _ h2)) ?_ ?_⟩
  · rintro i x T2 σ H' hi ⟨vs2, u6, u7, rfl, e', hD', hp2⟩ hT2
    have il : i < m + 1 := by have := (List.getElem?_eq_some_iff.mp hi).1; omega
    obtain ⟨a, ha1, ha2, ha3, ha4, ha5, ha6⟩ := rowAt i (by omega)
    rw [ha1] at hi; cases hi
    have hnx : (nxtT T1 d r c m N)[i]? = some ((List.range (N + 1)).map fun j => MK.piv (ent T1) d r c i j) := by
      unfold nxtT
      rw [List.getElem?_map, List.getElem?_eq_getElem (by rw [List.length_range]; omega), List.getElem_range]; rfl
    have l2 := paired_len hp2
    rw [List.length_take] at l2
    generalize hH2 : upd H' T2 (.tup [.int (i : Nat), V.ref a]) = H2
    have e2' : Same H' H2 := by rw [← hH2]; exact same_new hT2
    have e2 : Same H H2 := e'.trans e2'
    have hT2' : H2 T2 = some (.tup [.int (i : Nat), V.ref a]) := by rw [← hH2]; exact upd_same
    have hD2 := e2' _ _ hD'
    have nab : a ≠ b := by
      obtain ⟨v, hv, rv⟩ := paired_get' h3' ha6
      rw [ha1] at hv; cases hv
      obtain ⟨a', ea, hx⟩ := rv.ints
      cases ea
      exact (hid_some hx).1
    have naD : a ≠ D := ne_of_none ha2 hD
    refine ⟨T2, _, rfl, SqT.of hT2', rfl, _, _, rfl, _, _, rfl, rfl, _, rfl, _, rfl, rfl, _, rfl, ?_⟩
    by_cases c0 : i = r
    · subst c0
      refine iteD rfl ?_
      refine ⟨_, rfl, .inl ⟨rfl, _, SqL.of hD2⟩, _, rfl, D, vs2, _, rfl, rfl, hD2, sz_lt (by omega), vs2 ++ [.ref a], _, _, rfl, same_mut e2 hD, upd_same, ?_⟩
      rw [take_more hnx]
      have vw : Same (hid D (hid b H')) (hid D (hid b (upd H2 D (.lst (vs2 ++ [.ref a]))))) := fun x o q => by
        obtain ⟨n1, q⟩ := hid_some q
        obtain ⟨n2, q⟩ := hid_some q
        rw [hid_at n1, hid_at n2, upd_ne n1]; exact e2' _ _ q
      refine paired_app (paired_up hp2 fun _ _ => Mo.up vw) (.cons (RLst.of_ints ?_) .nil)
      rw [hid_at naD, hid_at nab, upd_ne naD, e2 _ _ ha2]
      congr 2
      refine List.ext_getElem? fun j => ?_
      rw [List.getElem?_map, List.getElem?_map, List.getElem?_map]
      by_cases jl : j ≤ N
      · have g : (T1.getD i [])[j]? = some (ent T1 i j) := by
          rw [List.getElem?_eq_getElem (by omega)]
          exact congrArg some (ent_at ha6 (List.getElem?_eq_getElem (by omega))).symm
        rw [g, List.getElem?_eq_getElem (by rw [List.length_range]; omega), List.getElem_range]
        show some (V.int (ent T1 i j)) = some (V.int (MK.piv (ent T1) d i c i j))
        unfold MK.piv; rw [if_pos rfl]
      · rw [List.getElem?_eq_none (by omega), List.getElem?_eq_none (by rw [List.length_range]; omega)]; rfl
    · refine iteN (fun z => c0 (by injection z with z; omega)) ?_
      refine ⟨_, rfl, .inl ⟨rfl, _, SqL.of hD2⟩, _, rfl, _, rfl, .l a, .l ar, (T1.getD i []).map V.int, (T1.getD r []).map V.int, rfl, SqL.of (e2 _ _ ha2), SqL.of (e2 _ _ hr2), fun S hS => ?_⟩
      have nSD : S ≠ D := (ne_of_none hD2 hS).symm
      have nSb : S ≠ b := (ne_of_none (e2 _ _ h4) hS).symm
      have e3 : Same H2 (upd H2 S (.lst [])) := same_new hS
      refine lc_new (n := ((T1.getD i []).map V.int).length) (walk_zipK (by rw [List.length_map, List.length_map, ha3, hr3])) (stepS H2) RInt (fun j bs => bs = ((List.range (N + 1)).map fun j => MK.piv (ent T1) d r c i j).take j) hS
        (fun H'' e => ⟨SqL.of (e _ _ (e2 _ _ ha2)), SqL.of (e _ _ (e2 _ _ hr2))⟩) (fun j H'' x H3 y => yPair_same y) (by rw [List.length_map, ha3, sizeLine_eq]; omega) rfl (fun j x bs H4 H5 Kc Rc hj hb e4 e5 _ hy k1 _ => ?_) (fun H4 ys bs e4 hv hr' hb => ?_)
      · obtain ⟨TT, x1, x2, rfl, hTT, rfl, hx1, hx2⟩ := hy
        rw [List.length_map, ha3] at hj
        have g1 : ((T1.getD i []).map V.int)[j]? = some (.int (ent T1 i j)) := by
          rw [List.getElem?_map, List.getElem?_eq_getElem (by omega)]
          exact congrArg (fun z => some (V.int z)) (ent_at ha6 (List.getElem?_eq_getElem (by omega))).symm
        obtain ⟨_, _, _, gr3, _, _, gr6⟩ := rowAt r (by omega)
        have g2 : ((T1.getD r []).map V.int)[j]? = some (.int (ent T1 r j)) := by
          rw [List.getElem?_map, List.getElem?_eq_getElem (by omega)]
          exact congrArg (fun z => some (V.int z)) (ent_at gr6 (List.getElem?_eq_getElem (by omega))).symm
        have q1 : some (V.int (ent T1 i j)) = some x1 := g1.symm.trans hx1
        have q2 : some (V.int (ent T1 r j)) = some x2 := g2.symm.trans hx2
        cases q1; cases q2
        refine ⟨TT, _, rfl, SqT.of upd_same, rfl, _, _, rfl, _, _, rfl, rfl, rfl, yes_t ?_⟩
        have e05 := e2.trans e5
        refine ⟨_, rfl, _, rfl, _, _, rfl, rfl, wmul (bd.bd i (by omega) j (by omega)) (bd.bd r (by omega) c (by omega)) (by decide), _, rfl, _, rfl, a, _, (c : Int), _, rfl, rfl, SqL.of (e05 _ _ ha2), ha4 c (by omega), _, rfl, _, _, rfl, rfl, wmul (bd.bd i (by omega) c (by omega)) (bd.bd r (by omega) j (by omega)) (by decide), _, _, rfl, rfl, _, rfl, p, _, dx, _, _, rfl, e05 _ _ h1, T.cl_Solver, T.n_Solver_divisor, (lk_ne (by decide +kernel)).trans lk_eq, _, _, rfl, rfl, wdiv d0 bdd (by decide), k1 _ _ _ (Same.refl _) rfl ?_⟩
        rw [hb, take_more]
        rw [List.getElem?_map, List.getElem?_eq_getElem (by rw [List.length_range]; omega), List.getElem_range]
        show some (MK.piv (ent T1) d r c i j) = _
        unfold MK.piv; rw [if_neg c0]
      · rw [List.length_map, ha3, List.take_of_length_le (by rw [List.length_map, List.length_range]; exact Nat.le_refl _)] at hb
        have hS4 := same_fr _ _ (lstI_at hr')
        have hD4 := e4 _ _ hD2
        have e04 := e2.trans e4
        refine ⟨D, vs2, _, rfl, rfl, hD4, sz_lt (by omega), vs2 ++ [.ref S], _, _, rfl, same_mut e04 hD, upd_same, ?_⟩
        rw [take_more hnx]
        have vw : Same (hid D (hid b H')) (hid D (hid b (upd H4 D (.lst (vs2 ++ [.ref S]))))) := fun x o q => by
          obtain ⟨n1, q⟩ := hid_some q
          obtain ⟨n2, q⟩ := hid_some q
          rw [hid_at n1, hid_at n2, upd_ne n1]; exact e4 _ _ (e2' _ _ q)
        refine paired_app (paired_up hp2 fun _ _ => Mo.up vw) (.cons (RLst.of_ints ?_) .nil)
        rw [hid_at nSD, hid_at nSb, upd_ne nSD, hS4, hb]
  · rintro σ H' ⟨vs2, u6, u7, rfl, e', hD', hp2⟩
    have nl : (nxtT T1 d r c m N).length = m + 1 := nxt_shp.len
    rw [vl, tl, List.take_of_length_le (by omega)] at hp2
    have npb : p ≠ b := fun z => by rw [z, h4] at h1; cases h1
    refine ⟨_, rfl, _, rfl, p, _, dx, _, rfl, e' _ _ h1, T.cl_Solver, T.n_Solver_rows, (by show 3 < 1000; decide), ?_⟩
    refine ⟨_, rfl, _, rfl, p, _, dx, _, rfl, upd_same, T.cl_Solver, T.n_Solver_divisor, (by show 3 < 1000; decide), ?_⟩
    refine ⟨_, rfl, _, rfl, p, _, dx, _, _, rfl, upd_same, T.cl_Solver, T.n_Solver_basis, (lk_ne (by decide +kernel)).trans ((lk_ne (by decide +kernel)).trans lk_eq), _, rfl, ?_⟩
    have hb' := e' _ _ h4
    have ix : ixN (B.map fun (x : Nat) => V.int (x : Int)).length (r : Int) = some r := by
      unfold ixN
      rw [if_pos (Int.natCast_nonneg r), if_pos (by rw [List.length_map]; omega)]; rfl
    refine ⟨b, _, (r : Int), r, rfl, rfl, by rw [upd_ne npb.symm, upd_ne npb.symm]; exact hb', ix, ?_⟩
    refine k _ ⟨dx, D, vs2, ?_, ?_, paired_up hp2 fun v xs hv => ?_, ?_, nDb⟩ fun x o xp xb hx => ?_
    · rw [upd_ne npb, upd_same]; rfl
    · rw [upd_ne nDb, upd_ne nDp, upd_ne nDp]; exact hD'
    · obtain ⟨a, rfl, ha⟩ := hv.ints
      obtain ⟨aD, ha⟩ := hid_some ha
      obtain ⟨ab, ha⟩ := hid_some ha
      have ap : a ≠ p := fun z => by rw [z, e' _ _ h1] at ha; cases ha
      refine RLst.of_ints ?_
      rw [hid_at ab, upd_ne ab, upd_ne ap, upd_ne ap]; exact ha
    · rw [upd_same, List.map_set]
    · rw [upd_ne xb, upd_ne xp, upd_ne xp]; exact e' _ _ hx
theorem inV_nat (x : Nat) (xs : List Nat) : inV (.int (x : Int)) (xs.map fun (y : Nat) => V.int (y : Int)) = decide (x ∈ xs) := by
  unfold inV
  rw [List.any_map, Bool.eq_iff_iff, List.any_eq_true, decide_eq_true_iff]
  constructor
  · rintro ⟨y, h, e⟩
    have e : ((y : Int) == (x : Int)) = true := e
    rw [beq_iff_eq] at e
    have : y = x := by omega
    rw [← this]; exact h
  · intro h; exact ⟨x, h, beq_self_eq_true (x : Int)⟩
theorem first_idx : ∀ {B : List Nat} {c : Nat}, c ∈ B → ∃ r : Nat, B[r]? = some c ∧ ∀ j : Nat, j < r → B[j]? ≠ some c
  | [], _, h => absurd h List.not_mem_nil
  | b :: B, c, h => by
    by_cases e : b = c
    · exact ⟨0, by rw [e]; rfl, fun j hj => absurd hj (Nat.not_lt_zero _)⟩
    · obtain ⟨r, h1, h2⟩ := first_idx (B := B) (c := c) (by rcases List.mem_cons.mp h with z | z; exact absurd z.symm e; exact z)
      refine ⟨r + 1, h1, fun j hj => ?_⟩
      cases j with
      | zero => exact fun z => e (Option.some.inj z)
      | succ j => exact h2 j (by omega)
def sp_Solver_told (K : Fr) : Sp := spx 2 fun vs H Q _ => ∃ (p : Addr) (c : Nat) (T : List (List Int)) (d : Int) (B : List Nat) (m N : Nat), vs = [.ref p, .int c] ∧ SolAt K H p T d B ∧ Shp T m N ∧ B.length = m ∧
  (∀ r, B[r]? = some c → (∀ j, j < r → B[j]? ≠ some c) → Q (.int (ent T r N)) H) ∧ (c ∉ B → Q (.int 0) H)
theorem sc_Solver_told : FnScope ["self", "column"] ["self", "column"] (defScope s_Solver_told) := ⟨rfl, rfl, rfl, by decide +kernel, rfl, by decide +kernel, by decide +kernel⟩
theorem c_Solver_told (T : Tx K mg)  : Met P w K mg base 1 (He.ga K "Solver") "told" ["self", "column"] (sp_Solver_told K) := by
  refine T.met 20 rfl 70 rfl 105 rfl sc_Solver_told (fun _ _ _ _ h => h.1) (fun _ _ _ _ _ _ us hl => match us, hl with | [_, _], _ => rfl) (fun cdv A outer s H vs Q E hr h => ?_)
  have nd := sc_Solver_told.nd
  have hu := hu_of hr
  refine ⟨_, (pss_cons (ps_if (pt_cmpR (op_inK (K := K)) (pv 1) (pe_fldK (K := K) (pv 0) rfl) (by rfl)) (pss_one (ps_ret (pe_ix (ix_listK (K := K)) (pe_ix (ix_listK (K := K)) (pe_fldK (K := K) (pv 0) rfl) (pe_bm PySem.F.plainAttrs_list PySem.F.slot_list_index PySem.F.type_list_index mt_index (pe_fldK (K := K) (pv 0) rfl) (pa_cons (pv 1) pa_nil)) (fun _ _ => rfl)) (pe_un un_neg pe_int) (fun _ _ => rfl)))) pss_nil)
      (pss_one (ps_ret pe_int))), ?_⟩
  obtain ⟨_, p, c, T1, d, B, m, N, rfl, ⟨b, dx, r, vs, h1, h2, h3', h4, h5⟩, sh, bl, k0, k1⟩ := h
  have h3 := paired_up h3' fun _ _ => Mo.up (R := RLst RInt) (same_hid (a := b) (H := H))
  have vl := paired_len h3
  have tl := sh.len
  have rowAt : ∀ i, i ≤ m → _ := fun i hi => rows_at h3 sh (i := i) hi
  have flat : (B.map fun (x : Nat) => V.int (x : Int)).all flatV = true := by rw [List.all_map]; exact List.all_eq_true.mpr fun _ _ => rfl
  refine ⟨_, rfl, _, rfl, p, _, dx, _, _, rfl, h1, T.cl_Solver, T.n_Solver_basis, (lk_ne (by decide +kernel)).trans ((lk_ne (by decide +kernel)).trans lk_eq), b, _, rfl, .inl (SqL.of h4), rfl, flat, _, rfl, ?_⟩
  have inv : (if false = true then !inV (V.int (c : Int)) (B.map fun (x : Nat) => V.int (x : Int)) else inV (V.int (c : Int)) (B.map fun (x : Nat) => V.int (x : Int))) = decide (c ∈ B) := inV_nat c B
  rw [inv]
  by_cases m0 : c ∈ B
  · rw [decide_eq_true m0]
    obtain ⟨q, hq1, hq2⟩ := first_idx m0
    have ql : q < B.length := (List.getElem?_eq_some_iff.mp hq1).1
    obtain ⟨a, ha1, ha2, ha3, ha4, ha5, ha6⟩ := rowAt q (by omega)
    refine iteT ⟨_, rfl, p, _, dx, _, _, rfl, h1, T.cl_Solver, T.n_Solver_rows, lk_eq, _, rfl, p, _, dx, _, _, rfl, h1, T.cl_Solver, T.n_Solver_basis, (lk_ne (by decide +kernel)).trans ((lk_ne (by decide +kernel)).trans lk_eq), .inl ⟨rfl, _, SqL.of h4⟩, _, rfl, b, _, .int (c : Int), q, .int (c : Int), rfl, rfl, SqL.of h4, rfl, flat, ?_, beq_self_eq_true (c : Int), fun j z hj hz => ?_, ?_⟩
    · rw [List.getElem?_map, hq1]; rfl
    · rw [List.getElem?_map] at hz
      cases e : B[j]? with
      | none => rw [e] at hz; cases hz
      | some y =>
        rw [e] at hz; cases hz
        show ((y : Int) == (c : Int)) = false
        rw [beq_eq_false_iff_ne]
        intro z
        have : y = c := by omega
        exact hq2 j hj (by rw [e, this])
    · exact ⟨r, _, (q : Int), .ref a, rfl, rfl, SqL.of h2, atI_nat ha1, 1, rfl, a, _, -1, _, rfl, rfl, SqL.of ha2, ha5, k0 q hq1 hq2⟩
  · rw [decide_eq_false m0]
    exact iteF (k1 m0)
end
end MH
/-! part D19 -/
set_option Elab.async false
set_option linter.all false
set_option maxRecDepth 100000
set_option maxHeartbeats 4000000
namespace MH
open PySem PySem.Spec PyProof.Rows L2
/-- a table to be solved -/
structure Tab (T0 : List (List Int)) (m n : Nat) (C : Int) : Prop where
  shp : Shp T0 m (n + m)
  pk : MK.Pk m n (ent T0)
  small : ∀ k, k ≤ m → ∀ j, j < n + m → -1 ≤ ent T0 k j ∧ ent T0 k j ≤ 1
  rhs : ∀ k, k ≤ m → -C ≤ ent T0 k (n + m) ∧ ent T0 k (n + m) ≤ C
  one : 1 ≤ C
  big : Bd 2900 (MK.fct (m + 1) * C)
  mb : m ≤ 100
  nb : n ≤ 100
/-- lists that hold the state s -/
structure Ag (m n : Nat) (T : List (List Int)) (d : Int) (B : List Nat) (s : MK.TS) : Prop where
  shp : Shp T m (n + m)
  d : d = s.d
  len : B.length = m
  bas : ∀ i, i < m → B[i]? = some (s.B i)
  ent : ∀ i, i ≤ m → ∀ j, j ≤ n + m → ent T i j = s.T i j
theorem Ag.bd {m n : Nat} {T0 T : List (List Int)} {d C : Int} {B : List Nat} {s : MK.TS} (h : Ag m n T d B s) (tb : Tab T0 m n C) (I : MK.TOk m n (MH.ent T0) s) : TBd T m (n + m) ∧ 0 < d ∧ Bd 3000 d := by
  have big : MK.fct (m + 1) * C < 2 ^ 2900 := by
    have := tb.big
    unfold Bd at this
    have p := MK.fct_pos (m + 1)
    have q : 0 ≤ MK.fct (m + 1) * C := Int.mul_nonneg (by omega) (by have := tb.one; omega)
    omega
  have p29 : (2 : Int) ^ 2900 ≤ 2 ^ 3000 := by
    have : (2 : Nat) ^ 2900 ≤ 2 ^ 3000 := Nat.pow_le_pow_right (by decide) (by decide)
    exact_mod_cast this
  refine ⟨⟨fun i hi j hj => ?_⟩, ?_, ?_⟩
  · rw [h.ent i hi j hj]
    have e := MK.entry_bound I tb.one tb.small tb.rhs hi hj
    unfold Bd
    generalize s.T i j = x at *
    generalize MK.fct (m + 1) * C = y at *
    have : (x.natAbs : Int) < 2 ^ 3000 := by omega
    exact_mod_cast this
  · rw [h.d]; exact I.dpos
  · rw [h.d]
    have e := MK.d_bound I tb.small
    have pos := I.dpos
    have p := MK.fct_pos (m + 1)
    have le : MK.fct (m + 1) * 1 ≤ MK.fct (m + 1) * C := Int.mul_le_mul_of_nonneg_left tb.one (by omega)
    unfold Bd
    have : (s.d.natAbs : Int) < 2 ^ 3000 := by omega
    exact_mod_cast this
theorem Ag.step {m n : Nat} {T : List (List Int)} {d : Int} {B : List Nat} {s : MK.TS} {r c : Nat} (h : Ag m n T d B s) (hr : r < m) (hc : c < n + m) : Ag m n (nxtT T d r c m (n + m)) (MH.ent T r c) (B.set r c) (s.piv r c) := by
  refine ⟨nxt_shp, h.ent r (by omega) c (by omega), by rw [List.length_set]; exact h.len, fun i hi => ?_, fun i hi j hj => ?_⟩
  · show (B.set r c)[i]? = some (if i = r then c else s.B i)
    by_cases e : i = r
    · subst e
      rw [if_pos rfl, List.getElem?_set_self (by rw [h.len]; exact hr)]
    · rw [if_neg e, List.getElem?_set_ne (Ne.symm e)]; exact h.bas i hi
  · rw [nxt_ent hi hj]
    show MK.piv (MH.ent T) d r c i j = MK.piv s.T s.d r c i j
    unfold MK.piv
    rw [h.ent i hi j hj, h.ent r (by omega) c (by omega), h.ent i hi c (by omega), h.ent r (by omega) j hj, h.d]
theorem Ag.getD {m n : Nat} {T : List (List Int)} {d : Int} {B : List Nat} {s : MK.TS} (h : Ag m n T d B s) {i : Nat} (hi : i < m) : B.getD i 0 = s.B i := by
  rw [List.getD_eq_getElem?_getD, h.bas i hi]; rfl
section
variable {P : Program} {w : World} {K : Fr} {mg : Str → Option Value} {base : Heap}
/-- the solver's end -/
structure Sol (K : Fr) (T0 : List (List Int)) (m n : Nat) (H : Hp) (p : Addr) (T : List (List Int)) (d : Int) (B : List Nat) (s : MK.TS) : Prop where
  at_ : SolAt K H p T d B
  ag : Ag m n T d B s
  ok : MK.TOk m n (ent T0) s
  best : MK.Best m n s
def sp_Solver___init (K : Fr) : Sp := spx 3 fun vs H Q _ => ∃ (x dx r : Addr) (T0 : List (List Int)) (vs0 : List V) (m n : Nat) (C : Int), vs = [.ref x, .ref r, .int n] ∧ H x = some (.ins (He.ga K "Solver") dx []) ∧ H r = some (.lst vs0) ∧ Paired (RLst RInt (hid x H)) vs0 T0 ∧ Tab T0 m n C ∧
  ∀ H' T d B s, Sol K T0 m n H' x T d B s → (∀ y o, y ≠ x → H y = some o → H' y = some o) → Q .non H'
theorem sc_Solver___init : FnScope ["self", "rows", "many", "column", "at"] ["self", "rows", "many"] (defScope s_Solver___init) := ⟨rfl, rfl, rfl, by decide +kernel, rfl, by decide +kernel, by decide +kernel⟩
theorem c_Solver___init (T : Tx K mg) (G_Solver_rising : Met P w K mg base 1 (He.ga K "Solver") "rising" ["self"] (sp_Solver_rising K)) (G_Solver_bounding : Met P w K mg base 1 (He.ga K "Solver") "bounding" ["self", "column"] (sp_Solver_bounding K)) (G_Solver_exchange : Met P w K mg base 1 (He.ga K "Solver") "exchange" ["self", "at", "column"] (sp_Solver_exchange K)) : Mak P w K mg base 2 "Solver" (He.ga K "Solver") ["self", "rows", "many"] (sp_Solver___init K) := by
  refine T.mak 16 rfl 69 rfl 71 rfl sc_Solver___init (fun _ _ _ _ h => h.1) (fun _ _ _ _ _ _ us hl => match us, hl with | [_, _, _], _ => rfl) (fun cdv A outer s H vs Q E hr h => ?_)
  have nd := sc_Solver___init.nd
  have hu := hu_of hr
  refine ⟨_, (pss_cons (ps_fld (pv 0) (pv 1) rfl)
      (pss_cons (ps_fld (pv 0) pe_int rfl)
      (pss_cons (ps_fld (pv 0) (pe_lc (own := [("at", 4)]) (g := (gName 4)) (tt := tYes) (by rfl) nd (pi_range1 rfl T.f_range (pa_cons (pe_op op_sub (pe_callB (call_lenK (K := K)) (by rfl) T.f_len (by decide +kernel) (pa_cons (pv 1) pa_nil)) pe_int) pa_nil)) (blkOk_by (own := [("at", 4)]) (N := ["self", "rows", "many", "column", "at"]) (sc := defScope s_Solver___init) (by decide +kernel)) (fun _ _ _ _ _ => (pg_name (i := 4) nd rfl (Or.inl rfl))) (fun _ _ _ _ _ => pts_nil) (fun _ _ _ _ _ => (pe_op op_add (pv 2) (pv 4)))) rfl)
      (pss_cons (ps_set (i := 3) nd rfl (Or.inl rfl) (pe_met0 G_Solver_rising (hr.mono (by decide)) (pv 0)))
      (pss_one (ps_while PassesOwn.never (pt_cmpR op_notN (pv 3) pe_non (nomark _)) (pss_cons (ps_expr (pe_met G_Solver_exchange (hr.mono (by decide)) (pv 0) (pa_cons (pe_met G_Solver_bounding (hr.mono (by decide)) (pv 0) (pa_cons (pv 3) pa_nil)) (pa_cons (pv 3) pa_nil))))
      (pss_one (ps_set (i := 3) nd rfl (Or.inl rfl) (pe_met0 G_Solver_rising (hr.mono (by decide)) (pv 0))))))))))), ?_⟩
  obtain ⟨_, x, dx, r, T0, vs0, m, n, C, rfl, hx, hr, hp, tb, k⟩ := h
  have vl := paired_len hp
  have tl := tb.shp.len
  have mb := tb.mb
  have nb := tb.nb
  have nrx : r ≠ x := fun z => by rw [z, hx] at hr; cases hr
  refine ⟨_, rfl, _, rfl, x, _, dx, _, rfl, hx, T.cl_Solver, T.n_Solver_rows, by decide, ?_⟩
  refine ⟨_, rfl, x, _, dx, _, rfl, upd_same, T.cl_Solver, T.n_Solver_divisor, by show 1 < 1000; decide, ?_⟩
  refine ⟨_, rfl, r, _, rfl, .inl (SqL.of (by rw [upd_ne nrx, upd_ne nrx]; exact hr)), _, _, rfl, rfl, _, rfl, by omega, by rw [vl, tl]; omega, fun b hb => ?_⟩
  generalize hHc : upd (upd H x (HO.ins (He.ga K "Solver") dx (putF "rows" (V.ref r) []))) x (HO.ins (He.ga K "Solver") dx (putF "divisor" (V.int 1) (putF "rows" (V.ref r) []))) = Hc at hb
  have hcx : Hc x = some (.ins (He.ga K "Solver") dx [("rows", .ref r), ("divisor", .int 1)]) := by rw [← hHc, upd_same]; rfl
  have hco : ∀ y, y ≠ x → Hc y = H y := fun y hy => by rw [← hHc, upd_ne hy, upd_ne hy]
  have nbx : b ≠ x := fun z => by rw [z, hcx] at hb; cases hb
  have hb0 : H b = none := by rw [← hco b nbx]; exact hb
  have ml : ((vs0.length : Int) - 1).toNat = m := by omega
  rw [ml]
  refine lc_new (n := m) walk_range (stepS Hc) RInt (fun i bs => bs = (List.range i).map fun (q : Nat) => ((n + q : Nat) : Int)) hb (fun _ _ => trivial) (fun i H x H' y => yFn_same y) (by rw [sizeLine_eq]; omega) rfl (fun i y bs H1 H2 Kc Rc hi hb e1 e2 _ hy k1 _ => ?_) (fun H4 ys bs e4 hv hr' hbs => ?_)
  · obtain ⟨rfl, rfl⟩ := hy
    refine ⟨rfl, yes_t ⟨_, rfl, _, rfl, _, _, rfl, rfl, k1 _ _ _ (Same.refl _) rfl ?_⟩⟩
    rw [hb, List.range_succ, List.map_append]
    congr 1
    show [(n : Int) + (0 + (i : Int))] = [((n + i : Nat) : Int)]
    congr 1; omega
  have hb4 := same_fr _ _ (lstI_at hr')
  obtain ⟨B0, hB0⟩ : ∃ B0, B0 = (List.range m).map fun q => n + q := ⟨_, rfl⟩
  have hb4' : H4 b = some (.lst (B0.map fun (y : Nat) => V.int (y : Int))) := by
    rw [hb4, hbs, hB0, List.map_map, List.map_map]; rfl
  refine ⟨_, rfl, x, _, dx, _, rfl, e4 _ _ hcx, T.cl_Solver, T.n_Solver_basis, by show 2 < 1000; decide, ?_⟩
  generalize hH5 : upd H4 x _ = H5
  have h5x : H5 x = some (.ins (He.ga K "Solver") dx [("rows", .ref r), ("divisor", .int 1), ("basis", .ref b)]) := by rw [← hH5, upd_same]; rfl
  have h5o : ∀ y o, y ≠ x → H y = some o → H5 y = some o := fun y o hy h => by rw [← hH5, upd_ne hy]; exact e4 _ _ (by rw [hco y hy]; exact h)
  have nrb : r ≠ b := ne_of_none hr hb0
  have sol5 : SolB K H5 x b T0 1 B0 := by
    refine ⟨dx, r, vs0, h5x, h5o _ _ nrx hr, paired_up hp fun v xs hv => Mo.up (fun y o q => ?_) hv, by rw [← hH5, upd_ne nbx]; exact hb4', nrb⟩
    obtain ⟨n1, q⟩ := hid_some q
    rw [hid_at (ne_of_none q hb0)]; exact h5o _ _ n1 q
  have ag0 : Ag m n T0 1 B0 ⟨ent T0, 1, fun i => n + i⟩ := by
    refine ⟨tb.shp, rfl, by rw [hB0, List.length_map, List.length_range], fun i hi => ?_, fun _ _ _ _ => rfl⟩
    rw [hB0, List.getElem?_map, List.getElem?_eq_getElem (by rw [List.length_range]; exact hi), List.getElem_range]; rfl
  have ok0 : MK.TOk m n (ent T0) ⟨ent T0, 1, fun i => n + i⟩ := MK.inv_start tb.pk.std
  have noR : ∀ {r : Addr} {d : Int}, List.lookup ("rising" : Str) [(("rows" : Str), V.ref r), ("divisor", .int d), ("basis", .ref b)] = none := fun {r d} => rfl
  have noB : ∀ {r : Addr} {d : Int}, List.lookup ("bounding" : Str) [(("rows" : Str), V.ref r), ("divisor", .int d), ("basis", .ref b)] = none := fun {r d} => rfl
  have noE : ∀ {r : Addr} {d : Int}, List.lookup ("exchange" : Str) [(("rows" : Str), V.ref r), ("divisor", .int d), ("basis", .ref b)] = none := fun {r d} => rfl
  -- what the loop keeps
  let W : Nat → L2.St → Hp → Prop := fun q σ H' => ∃ (T : List (List Int)) (d : Int) (B : List Nat) (s : MK.TS) (cv : V), σ = [some (.ref x), some (.ref r), some (.int n), some cv, none] ∧ SolB K H' x b T d B ∧ Ag m n T d B s ∧ MK.TOk m n (ent T0) s ∧ MK.Ends m n s q ∧ (∀ y o, y ≠ x → H y = some o → H' y = some o) ∧
    ((cv = .non ∧ MK.Best m n s) ∨ ∃ c : Nat, cv = .int c ∧ c < n + m ∧ s.T m c < 0 ∧ ∀ j, j < c → 0 ≤ s.T m j)
  have rise : ∀ {σ' : L2.St} {H' : Hp} {T : List (List Int)} {d : Int} {B : List Nat} {s : MK.TS} {q : Nat} {Q' : VK}, σ'[0]? = some (some (.ref x)) → SolB K H' x b T d B → Ag m n T d B s → MK.TOk m n (ent T0) s → MK.Ends m n s q → (∀ y o, y ≠ x → H y = some o → H' y = some o) →
      (∀ cv H2, W q [some (.ref x), some (.ref r), some (.int n), some cv, none] H2 → Q' cv H2) → tMeth (He.ga K "Solver") "rising" (sp_Solver_rising K) [] E0 (tVar 0) tNil σ' H' Q' := fun {σ' H' T d B s q Q'} v0 sol ag ok en old fin => by
    obtain ⟨dx0, r0, vs0', f1, f2, f3, f4, f5⟩ := id sol
    refine ⟨_, v0, x, dx0, _, rfl, f1, noR, rfl, x, T, d, B, m, n + m, rfl, ⟨b, sol⟩, ag.shp, fun H2 e h0 => fin _ _ ?_, fun c H2 e hc neg first => fin _ _ ?_⟩
    · obtain ⟨dx', r', vs', g1, g2, g3, g4, g5⟩ := sol
      exact ⟨T, d, B, s, .non, rfl, ⟨dx', r', vs', e _ _ g1, e _ _ g2, paired_up g3 fun _ _ => Mo.up (same_hid_up e), e _ _ g4, g5⟩, ag, ok, en, fun y o hy h => e _ _ (old y o hy h), .inl ⟨rfl, fun j hj => by rw [← ag.ent m (Nat.le_refl m) j (by omega)]; exact h0 j hj⟩⟩
    · obtain ⟨dx', r', vs', g1, g2, g3, g4, g5⟩ := sol
      refine ⟨T, d, B, s, .int c, rfl, ⟨dx', r', vs', e _ _ g1, e _ _ g2, paired_up g3 fun _ _ => Mo.up (same_hid_up e), e _ _ g4, g5⟩, ag, ok, en, fun y o hy h => e _ _ (old y o hy h), .inr ⟨c, rfl, hc, ?_, fun j hj => ?_⟩⟩
      · rw [← ag.ent m (Nat.le_refl m) c (by omega)]; exact neg
      · rw [← ag.ent m (Nat.le_refl m) j (by omega)]; exact first j hj
  refine rise rfl sol5 ag0 ok0 (MK.ends ok0) h5o fun cv H6 hW => ?_
  refine ⟨W, ⟨_, hW⟩, ?_⟩
  rintro q σ H' ⟨T1, d, B, s, cv, rfl, sol, ag, ok, en, old, hcv⟩
  rcases hcv with ⟨rfl, best⟩ | ⟨c, rfl, hc, neg, first⟩
  · refine ⟨_, rfl, rfl, _, rfl, ?_⟩
    rw [show (!decide (V.non = V.non)) = false from rfl]
    exact iteF (k H' T1 d B s ⟨⟨b, sol⟩, ag, ok, best⟩ old)
  · refine ⟨_, rfl, rfl, _, rfl, ?_⟩
    rw [show (!decide (V.int (c : Int) = V.non)) = true from by rw [decide_eq_false (fun z => nomatch z)]; rfl]
    refine iteT ⟨fun σ' H' => ∃ m', m' < q ∧ W m' σ' H', fun _ _ h => h, ?_⟩
    obtain ⟨bd, dp, dbd⟩ := ag.bd tb ok
    obtain ⟨dx', r', vs', g1, g2, g3, g4, g5⟩ := id sol
    obtain ⟨i0, hi0, pi0⟩ := MK.Inv.bounded ok tb.pk.std hc
    refine ⟨_, rfl, x, dx', _, rfl, g1, noE, _, rfl, x, dx', _, rfl, g1, noB, _, rfl, rfl, x, c, T1, d, B, m, n + m, rfl, ⟨b, sol⟩, ag.shp, bd, hc, ag.len, ⟨i0, hi0, by rw [ag.ent i0 (by omega) c (by omega)]; exact pi0⟩, fun r1 H2 e2 hr1 pr1 least => ?_⟩
    have sol2 : SolB K H2 x b T1 d B := ⟨dx', r', vs', e2 _ _ g1, e2 _ _ g2, paired_up g3 fun _ _ => Mo.up (same_hid_up e2), e2 _ _ g4, g5⟩
    have ch : MK.Chs m n s r1 c := by
      refine ⟨hc, neg, first, hr1, by rw [← ag.ent r1 (by omega) c (by omega)]; exact pr1, fun i hi pi => ?_⟩
      have := least i hi (by rw [ag.ent i (by omega) c (by omega)]; exact pi)
      unfold Lst at this
      rw [ag.ent r1 (by omega) (n + m) (Nat.le_refl _), ag.ent i (by omega) c (by omega), ag.ent i (by omega) (n + m) (Nat.le_refl _), ag.ent r1 (by omega) c (by omega), ag.getD hr1, ag.getD hi] at this
      exact this
    obtain ⟨q', hq', en'⟩ := en.next ⟨r1, c, ch, rfl⟩
    refine ⟨_, rfl, rfl, x, b, r1, c, T1, d, B, m, n + m, rfl, sol2, ag.shp, bd, hr1, hc, ag.len, dp, dbd, by omega, by omega, fun H3 sol3 same3 => ?_⟩
    have old3 : ∀ y o, y ≠ x → H y = some o → H3 y = some o := fun y o hy h => same3 y o hy (ne_of_none h hb0) (e2 _ _ (old y o hy h))
    exact rise rfl sol3 (ag.step hr1 hc) (MK.TOk.step ok ch) en' old3 fun cv H6 hW => ⟨q', hq', hW⟩
end
end MH
/-! part D20 -/
set_option Elab.async false
set_option linter.all false
set_option maxRecDepth 100000
set_option maxHeartbeats 4000000
namespace MH
open PySem PySem.Spec PyProof.Rows L2
structure PkD where
  texts : List Str
  unit : Int
  bounds : List Int
  lev : Int
  readable : List Str
  groups : List (List Int)
  readers : List Str
def PkD.sides (D : PkD) : List (List Int) := (List.range D.texts.length).map (fun i => [((i : Nat) : Int)]) ++ D.groups
def PkD.ends (D : PkD) : List Int := D.bounds ++ D.groups.map fun _ => D.lev
def PkD.row (D : PkD) (i : Nat) : List Int := (List.range D.texts.length).map (fun j => if ((j : Nat) : Int) ∈ D.sides.getD i [] then 1 else 0) ++ (List.range D.sides.length).map (fun o => if o = i then 1 else 0) ++ [D.ends.getD i 0]
def PkD.last (D : PkD) : List Int := (List.range D.texts.length).map (fun _ => -1) ++ (List.range (D.sides.length + 1)).map (fun _ => 0)
def PkD.tab (D : PkD) : List (List Int) := (List.range D.sides.length).map D.row ++ [D.last]
def PkAt (K : Fr) (H : Hp) (p : Addr) (D : PkD) : Prop := ∃ dx vt vb vr vg vd, H p = some (.ins (He.ga K "Packing") dx [("texts", vt), ("unit", .int D.unit), ("bounds", vb), ("level", .int D.lev), ("readable", vr), ("groups", vg), ("readers", vd)]) ∧
  RTup RStr H vt D.texts ∧ RLst RInt H vb D.bounds ∧ RTup RStr H vr D.readable ∧ RLst (RTup RInt) H vg D.groups ∧ RLst RStr H vd D.readers
theorem PkAt.up {K : Fr} {H H' : Hp} {p : Addr} {D : PkD} (e : Same H H') (h : PkAt K H p D) : PkAt K H' p D := by
  obtain ⟨dx, vt, vb, vr, vg, vd, h0, h1, h2, h3, h4, h5⟩ := h
  exact ⟨dx, vt, vb, vr, vg, vd, e _ _ h0, Mo.up e h1, Mo.up e h2, Mo.up e h3, Mo.up e h4, Mo.up e h5⟩
structure PkSz (D : PkD) : Prop where
  texts : D.texts.length ≤ 30
  groups : D.groups.length ≤ 60
  bounds : D.bounds.length = D.texts.length
theorem huD_of {k : Nat} {A : Around} (hr : Room k A) : A.units + 65 < cLine := by have := hr.un; omega
theorem sides_len (D : PkD) : D.sides.length = D.texts.length + D.groups.length := by unfold PkD.sides; rw [List.length_append, List.length_map, List.length_range]
theorem inV_int (x : Int) (xs : List Int) : inV (.int x) (xs.map V.int) = decide (x ∈ xs) := by
  unfold inV
  rw [List.any_map, Bool.eq_iff_iff, List.any_eq_true, decide_eq_true_iff]
  constructor
  · rintro ⟨y, h, e⟩
    have e : (y == x) = true := e
    rw [beq_iff_eq] at e; rw [← e]; exact h
  · intro h; exact ⟨x, h, beq_self_eq_true x⟩
theorem flat_ints (xs : List Int) : (xs.map V.int).all flatV = true := by rw [List.all_map]; exact List.all_eq_true.mpr fun _ _ => rfl
section
variable {P : Program} {w : World} {K : Fr} {mg : Str → Option Value} {base : Heap}
def sp_Packing_table (K : Fr) : Sp := spx 1 fun vs H Q _ => ∃ (p : Addr) (D : PkD), vs = [.ref p] ∧ PkAt K H p D ∧ PkSz D ∧ ∀ (r : Addr) vs' H', Same H H' → H' r = some (.lst vs') → Paired (RLst RInt H') vs' D.tab → Q (.ref r) H'
theorem sc_Packing_table : FnScope ["self", "many", "sides", "ends", "rows", "at", "side", "own", "slack", "place", "_", "other"] ["self"] (defScope s_Packing_table) := ⟨rfl, rfl, rfl, by decide +kernel, rfl, by decide +kernel, by decide +kernel⟩
theorem c_Packing_table (T : Tx K mg)  : Met P w K mg base 1 (He.ga K "Packing") "table" ["self"] (sp_Packing_table K) := by
  refine T.met 15 rfl 60 rfl 101 rfl sc_Packing_table (fun _ _ _ _ h => h.1) (fun _ _ _ _ _ _ us hl => match us, hl with | [_], _ => rfl) (fun cdv A outer s H vs Q E hr h => ?_)
  have nd := sc_Packing_table.nd
  have hu := hu_of hr
  refine ⟨_, (pss_cons (ps_set (i := 1) nd rfl (Or.inl rfl) (pe_callB (call_lenK (K := K)) (by rfl) T.f_len (by decide +kernel) (pa_cons (pe_fldK (K := K) (pv 0) rfl) pa_nil)))
      (pss_cons (ps_set (i := 2) nd rfl (Or.inl rfl) (pe_op op_cat (pe_lc (own := [("place", 9)]) (g := (gName 9)) (tt := tYes) (by rfl) nd (pi_range1 rfl T.f_range (pa_cons (pv 1) pa_nil)) (blkOk_by (own := [("place", 9)]) (N := ["self", "many", "sides", "ends", "rows", "at", "side", "own", "slack", "place", "_", "other"]) (sc := defScope s_Packing_table) (by decide +kernel)) (fun _ _ _ _ _ => (pg_name (i := 9) nd rfl (Or.inl rfl))) (fun _ _ _ _ _ => pts_nil) (fun _ _ _ _ _ => (pe_tup (pa_cons (pv 9) pa_nil)))) (pe_fldK (K := K) (pv 0) rfl)))
      (pss_cons (ps_set (i := 3) nd rfl (Or.inl rfl) (pe_op op_cat (pe_fldK (K := K) (pv 0) rfl) (pe_lc (own := [("_", 10)]) (g := (gName 10)) (tt := tYes) (by rfl) nd (pi_list (pe_fldK (K := K) (pv 0) rfl)) (blkOk_by (own := [("_", 10)]) (N := ["self", "many", "sides", "ends", "rows", "at", "side", "own", "slack", "place", "_", "other"]) (sc := defScope s_Packing_table) (by decide +kernel)) (fun _ _ _ _ _ => (pg_name (i := 10) nd rfl (Or.inl rfl))) (fun _ _ _ _ _ => pts_nil) (fun _ _ _ _ _ => (pe_fldK (K := K) (pv 0) rfl)))))
      (pss_cons (ps_set (i := 4) nd rfl (Or.inl rfl) (pe_lst pa_nil))
      (pss_cons (ps_for PassesOwn.never rfl (pi_enumK (by rfl) T.f_enumerate (pa_cons (pv 2) pa_nil)) (pg_tupK (K := K) 2 rfl (pgs_cons (pg_name (i := 5) nd rfl (Or.inr rfl)) (pgs_cons (pg_name (i := 6) nd rfl (Or.inr rfl)) pgs_nil))) (pss_cons (ps_setLc (i := 7) (own := [("place", 9)]) (g := (gName 9)) (tt := tYes) (by rfl) nd rfl rfl (sw_true rfl rfl rfl (by decide +kernel)) (pi_range1 rfl T.f_range (pa_cons (pv 1) pa_nil)) (blkOk_by (own := [("place", 9)]) (N := ["self", "many", "sides", "ends", "rows", "at", "side", "own", "slack", "place", "_", "other"]) (sc := defScope s_Packing_table) (by decide +kernel)) (fun _ _ _ _ _ => (pg_name (i := 9) nd rfl (Or.inl rfl))) (fun _ _ _ _ _ => pts_nil) (fun _ _ _ _ _ => (pe_callTy call_int1 (by rfl) T.f_int (by decide +kernel) (pa_cons (pe_cmpR (op_inK (K := K)) (pv 9) (pv 6) (by rfl)) pa_nil))))
      (pss_cons (ps_setLc (i := 8) (own := [("other", 11)]) (g := (gName 11)) (tt := tYes) (by rfl) nd rfl rfl (sw_true rfl rfl rfl (by decide +kernel)) (pi_range1 rfl T.f_range (pa_cons (pe_callB (call_lenK (K := K)) (by rfl) T.f_len (by decide +kernel) (pa_cons (pv 2) pa_nil)) pa_nil)) (blkOk_by (own := [("other", 11)]) (N := ["self", "many", "sides", "ends", "rows", "at", "side", "own", "slack", "place", "_", "other"]) (sc := defScope s_Packing_table) (by decide +kernel)) (fun _ _ _ _ _ => (pg_name (i := 11) nd rfl (Or.inl rfl))) (fun _ _ _ _ _ => pts_nil) (fun _ _ _ _ _ => (pe_callTy call_int1 (by rfl) T.f_int (by decide +kernel) (pa_cons (pe_cmpR op_eq (pv 11) (pv 5) (nomark _)) pa_nil))))
      (pss_one (ps_expr (pe_bm PySem.F.plainAttrs_list PySem.F.slot_list_append PySem.F.type_list_append mt_append (pv 4) (pa_cons (pe_op op_cat (pe_op op_cat (pv 7) (pv 8)) (pe_lst (pa_cons (pe_ix (ix_listK (K := K)) (pv 3) (pv 5) (fun _ _ => rfl)) pa_nil))) pa_nil)))))))
      (pss_cons (ps_expr (pe_bm PySem.F.plainAttrs_list PySem.F.slot_list_append PySem.F.type_list_append mt_append (pv 4) (pa_cons (pe_op op_cat (pe_lc (own := [("_", 10)]) (g := (gName 10)) (tt := tYes) (by rfl) nd (pi_range1 rfl T.f_range (pa_cons (pv 1) pa_nil)) (blkOk_by (own := [("_", 10)]) (N := ["self", "many", "sides", "ends", "rows", "at", "side", "own", "slack", "place", "_", "other"]) (sc := defScope s_Packing_table) (by decide +kernel)) (fun _ _ _ _ _ => (pg_name (i := 10) nd rfl (Or.inl rfl))) (fun _ _ _ _ _ => pts_nil) (fun _ _ _ _ _ => (pe_un un_neg pe_int))) (pe_lc (own := [("_", 10)]) (g := (gName 10)) (tt := tYes) (by rfl) nd (pi_range1 rfl T.f_range (pa_cons (pe_op op_add (pe_callB (call_lenK (K := K)) (by rfl) T.f_len (by decide +kernel) (pa_cons (pv 2) pa_nil)) pe_int) pa_nil)) (blkOk_by (own := [("_", 10)]) (N := ["self", "many", "sides", "ends", "rows", "at", "side", "own", "slack", "place", "_", "other"]) (sc := defScope s_Packing_table) (by decide +kernel)) (fun _ _ _ _ _ => (pg_name (i := 10) nd rfl (Or.inl rfl))) (fun _ _ _ _ _ => pts_nil) (fun _ _ _ _ _ => pe_int))) pa_nil)))
      (pss_one (ps_ret (pv 4))))))))), ?_⟩
  obtain ⟨_, p, D, rfl, ⟨dx, vt, vb, vr, vg, vd, h0, ht, hb, hr, hg, hd⟩, sz, k⟩ := h
  have z1 := sz.texts
  have z2 := sz.groups
  have z3 := sz.bounds
  obtain ⟨at_, rfl, hat⟩ := ht.strs
  obtain ⟨ab, rfl, hab⟩ := hb.ints
  obtain ⟨ag, gs, rfl, hag, hgp⟩ := hg
  have gl := paired_len hgp
  have look : ∀ {f : Str} {v : V}, List.lookup f [(("texts" : Str), V.ref at_), ("unit", .int D.unit), ("bounds", .ref ab), ("level", .int D.lev), ("readable", vr), ("groups", .ref ag), ("readers", vd)] = some v → List.lookup f [(("texts" : Str), V.ref at_), ("unit", .int D.unit), ("bounds", .ref ab), ("level", .int D.lev), ("readable", vr), ("groups", .ref ag), ("readers", vd)] = some v := id
  refine ⟨_, rfl, p, _, dx, _, _, rfl, h0, T.cl_Packing, T.n_Packing_texts, rfl, at_, _, rfl, .inr (SqT.of hat), ?_⟩
  rw [List.length_map]
  -- sides
  refine ⟨_, rfl, _, rfl, by omega, by omega, fun A1 hA1 => ?_⟩
  refine lc_new (n := ((D.texts.length : Nat) : Int).toNat) walk_range (stepS H) (RTup RInt) (fun i bs => bs = (List.range i).map fun q => [((q : Nat) : Int)]) hA1 (fun _ _ => trivial) (fun i H x H' y => yFn_same y) (by rw [Int.toNat_natCast, sizeLine_eq]; omega) rfl (fun i y bs H1 H2 Kc Rc hi hbs e1 e2 _ hy k1 _ => ?_) (fun H1 ys bs e1 hv1 hr1 hbs => ?_)
  · obtain ⟨rfl, rfl⟩ := hy
    refine ⟨rfl, yes_t ⟨_, rfl, by show 1 ≤ sizeLine; decide, fun q hq => k1 [((i : Nat) : Int)] _ _ (same_new hq) (RTup.of_ints ?_) ?_⟩⟩
    · rw [fr_at hq, upd_same]
      show some (HO.tup [V.int (0 + (i : Int))]) = some (HO.tup [V.int (i : Int)])
      rw [Int.zero_add]
    · rw [hbs, List.range_succ, List.map_append]; rfl
  rw [Int.toNat_natCast] at hbs
  have hA1' := hr1
  have sl := sides_len D
  -- the sides
  refine ⟨_, rfl, p, _, dx, _, _, rfl, e1 _ _ h0, T.cl_Packing, T.n_Packing_groups, rfl, ?_⟩
  obtain ⟨a1, ys1, ea1, ha1, hp1⟩ := hr1
  cases ea1
  have ya : ys = ys1 := by have := hv1.symm.trans (same_fr _ _ ha1); injection this with z; injection z
  subst ya
  have yl := paired_len hp1
  rw [hbs, List.length_map, List.length_range] at yl
  refine ⟨A1, ag, ys, gs, rfl, rfl, hv1, e1 _ _ hag, by rw [yl, gl, sizeLine_eq]; omega, fun A2 hA2 => ?_⟩
  generalize hH2 : upd H1 A2 (.lst (ys ++ gs)) = H2
  have e2 : Same H1 H2 := by rw [← hH2]; exact same_new hA2
  have e02 := e1.trans e2
  have h2A : H2 A2 = some (.lst (ys ++ gs)) := by rw [← hH2]; exact upd_same
  have sp : Paired (RTup RInt H2) (ys ++ gs) D.sides := by
    unfold PkD.sides
    rw [← hbs]
    exact paired_app (paired_up hp1 fun _ _ => Mo.up (same_fr.trans e2)) (paired_up hgp fun _ _ => Mo.up e02)
  -- the ends
  refine ⟨_, rfl, p, _, dx, _, _, rfl, e02 _ _ h0, T.cl_Packing, T.n_Packing_bounds, rfl, _, rfl, p, _, dx, _, _, rfl, e02 _ _ h0, T.cl_Packing, T.n_Packing_groups, rfl, ag, rfl, ⟨_, SqL.of (e02 _ _ hag)⟩, fun A3 hA3 => ?_⟩
  refine lc_new (n := gs.length) walk_list (stepS H2) RInt (fun i bs => bs = (D.groups.take i).map fun _ => D.lev) hA3 (fun H' e => SqL.of (e _ _ (e02 _ _ hag))) (fun i H x H' y => yAt_same y) (by rw [gl, sizeLine_eq]; omega) rfl (fun i y bs H3 H4 Kc Rc hi hbs e3 e4 _ hy k1 _ => ?_) (fun H3 ys3 bs3 e3 hv3 hr3 hbs3 => ?_)
  · refine ⟨rfl, yes_t ⟨_, rfl, p, _, dx, _, _, rfl, (e02.trans e4) _ _ h0, T.cl_Packing, T.n_Packing_level, rfl, k1 _ _ _ (Same.refl _) rfl ?_⟩⟩
    have : D.groups[i]? = some D.groups[i] := List.getElem?_eq_getElem (by omega)
    rw [hbs, take_more this, List.map_append]; rfl
  rw [gl, List.take_length] at hbs3
  have hA3' := same_fr _ _ (lstI_at hr3)
  have e03 := e02.trans e3
  refine ⟨ab, A3, D.bounds.map V.int, bs3.map V.int, rfl, rfl, e03 _ _ hab, hA3', by rw [List.length_map, List.length_map, hbs3, List.length_map, sizeLine_eq]; omega, fun A4 hA4 => ?_⟩
  have hends : D.bounds.map V.int ++ bs3.map V.int = D.ends.map V.int := by unfold PkD.ends; rw [hbs3, List.map_append]
  rw [hends]
  generalize hH4 : upd H3 A4 (.lst (D.ends.map V.int)) = H4
  have e4 : Same H3 H4 := by rw [← hH4]; exact same_new hA4
  have e04 := e03.trans e4
  have h4A : H4 A4 = some (.lst (D.ends.map V.int)) := by rw [← hH4]; exact upd_same
  have e24 := e3.trans e4
  have el : D.ends.length = D.sides.length := by rw [sl]; unfold PkD.ends; rw [List.length_append, List.length_map, z3]
  have svl := paired_len sp
  refine ⟨by show 0 ≤ sizeLine; decide, fun A5 hA5 => ?_⟩
  have n52 : A2 ≠ A5 := ne_of_none (e24 _ _ h2A) hA5
  refine ⟨_, rfl, .l A2, ys ++ gs, rfl, SqL.of (same_new hA5 _ _ (e24 _ _ h2A)), for_enumK (xs := ys ++ gs) (fun i σ H' => ∃ vs2 u5 u6 u7 u8, σ = [some (.ref p), some (.int D.texts.length), some (.ref A2), some (.ref A4), some (.ref A5), u5, u6, u7, u8, none, none, none] ∧ Same H4 H' ∧ H' A5 = some (.lst vs2) ∧ Paired (RLst RInt (hid A5 H')) vs2 ((List.range i).map D.row))
    ⟨[], none, none, none, none, rfl, same_new hA5, upd_same, .nil⟩ (fun i σ H' ⟨_, _, _, _, _, _, e, _⟩ => SqL.of (e _ _ (e24 _ _ h2A))) ?_ ?_⟩
  · rintro i x T2 σ H' hi ⟨vs2, u5, u6, u7, u8, rfl, e', hD', hp2⟩ hT2
    have l2 := paired_len hp2
    rw [List.length_map, List.length_range] at l2
    have il : i < D.sides.length := by rw [← svl]; exact (List.getElem?_eq_some_iff.mp hi).1
    obtain ⟨sd, hsd, rsd⟩ := paired_get sp hi
    obtain ⟨as, rfl, has⟩ := rsd.ints
    have hsd' : D.sides.getD i [] = sd := by rw [List.getD_eq_getElem?_getD, hsd]; rfl
    generalize hH6 : upd H' T2 (.tup [.int (i : Nat), V.ref as]) = H6
    have e6' : Same H' H6 := by rw [← hH6]; exact same_new hT2
    have e46 := e'.trans e6'
    have e26 := e24.trans e46
    have e06 := e04.trans e46
    have hT2' : H6 T2 = some (.tup [.int (i : Nat), V.ref as]) := by rw [← hH6]; exact upd_same
    refine ⟨T2, _, rfl, SqT.of hT2', rfl, _, _, rfl, _, _, rfl, rfl, ?_⟩
    -- own
    refine ⟨_, rfl, _, rfl, by omega, by omega, fun B1 hB1 => ?_⟩
    refine lc_new (n := ((D.texts.length : Nat) : Int).toNat) walk_range (stepS H6) RInt (fun j bs => bs = (List.range j).map fun (q : Nat) => if (q : Int) ∈ sd then (1 : Int) else 0) hB1 (fun _ _ => trivial) (fun i H x H' y => yFn_same y) (by rw [Int.toNat_natCast, sizeLine_eq]; omega) rfl (fun j y bs G1 G2 Kc Rc hj hb g1 g2 _ hy k1 _ => ?_) (fun G1 yso bso g1 hvo hro hbo => ?_)
    · obtain ⟨rfl, rfl⟩ := hy
      refine ⟨rfl, yes_t ⟨_, rfl, _, rfl, as, _, rfl, .inr (SqT.of (g2 _ _ (e26 _ _ has))), rfl, flat_ints _, .inr ⟨_, rfl, k1 (if (j : Int) ∈ sd then 1 else 0) _ _ (Same.refl _) ?_ ?_⟩⟩⟩
      · show V.int (if (if false = true then !inV (V.int (0 + (j : Int))) (sd.map V.int) else inV (V.int (0 + (j : Int))) (sd.map V.int)) = true then 1 else 0) = V.int _
        rw [show (if false = true then !inV (V.int (0 + (j : Int))) (sd.map V.int) else inV (V.int (0 + (j : Int))) (sd.map V.int)) = inV (V.int (0 + (j : Int))) (sd.map V.int) from rfl, inV_int, Int.zero_add]
        by_cases c : (j : Int) ∈ sd
        · rw [decide_eq_true c, if_pos rfl, if_pos c]
        · rw [decide_eq_false c, if_neg (by decide), if_neg c]
      · rw [hb, List.range_succ, List.map_append]; rfl
    rw [Int.toNat_natCast] at hbo
    have hBo := same_fr _ _ (lstI_at hro)
    -- slack
    refine ⟨_, rfl, A2, _, rfl, .inl (SqL.of ((e46.trans g1) _ _ (e24 _ _ h2A))), _, rfl, by omega, by rw [svl]; omega, fun B2 hB2 => ?_⟩
    rw [svl]
    refine lc_new (n := ((D.sides.length : Nat) : Int).toNat) walk_range (stepS G1) RInt (fun j bs => bs = (List.range j).map fun (q : Nat) => if q = i then (1 : Int) else 0) hB2 (fun _ _ => trivial) (fun i H x H' y => yFn_same y) (by rw [Int.toNat_natCast, sizeLine_eq]; omega) rfl (fun j y bs G3 G2 Kc Rc hj hb g3 g2 _ hy k1 _ => ?_) (fun G2 yss bss g2 hvs hrs hbs' => ?_)
    · obtain ⟨rfl, rfl⟩ := hy
      refine ⟨rfl, yes_t ⟨_, rfl, _, rfl, rfl, .inr ⟨_, rfl, k1 (if j = i then 1 else 0) _ _ (Same.refl _) ?_ ?_⟩⟩⟩
      · show V.int (if decide (V.int (0 + (j : Int)) = V.int (i : Int)) = true then 1 else 0) = V.int _
        by_cases c : j = i
        · subst c; rw [if_pos rfl, if_pos (decide_eq_true (by rw [Int.zero_add]))]
        · rw [if_neg c, if_neg (by rw [decide_eq_false (fun z => c (by injection z with z; omega))]; decide)]
      · rw [hb, List.range_succ, List.map_append]; rfl
    rw [Int.toNat_natCast] at hbs'
    have hBs := same_fr _ _ (lstI_at hrs)
    have g12 := g1.trans g2
    have e0G := e06.trans g12
    have hD2 : G2 A5 = some (.lst vs2) := g12 _ _ (e6' _ _ hD')
    have eat : D.ends[i]? = some (D.ends.getD i 0) := by rw [List.getD_eq_getElem?_getD, List.getElem?_eq_getElem (by omega)]; rfl
    refine ⟨_, rfl, .inl ⟨rfl, _, SqL.of hD2⟩, _, rfl, _, rfl, B1, B2, _, _, rfl, rfl, g2 _ _ hBo, hBs, by rw [List.length_map, List.length_map, hbo, hbs', List.length_map, List.length_map, List.length_range, List.length_range, sizeLine_eq]; omega, fun B3 hB3 => ?_⟩
    have h4B : (upd G2 B3 (.lst (bso.map V.int ++ bss.map V.int))) A4 = some (.lst (D.ends.map V.int)) := same_new hB3 _ _ ((e46.trans g12) _ _ h4A)
    refine ⟨_, rfl, _, rfl, A4, _, (i : Int), .int (D.ends.getD i 0), rfl, rfl, SqL.of h4B, atI_nat (by rw [List.getElem?_map, eat]; rfl), by show 1 ≤ sizeLine; decide, fun B4 hB4 => ?_⟩
    have n34 : B3 ≠ B4 := fun z => by rw [← z, upd_same] at hB4; cases hB4
    refine ⟨B3, B4, _, _, rfl, rfl, by rw [upd_ne n34, upd_same], upd_same, by rw [List.length_append, List.length_map, List.length_map, hbo, hbs', List.length_map, List.length_map, List.length_range, List.length_range, sizeLine_eq]; show _ + 1 ≤ _; omega, fun B5 hB5 => ?_⟩
    generalize hG5 : upd (upd (upd G2 B3 (.lst (bso.map V.int ++ bss.map V.int))) B4 (.lst [V.int (D.ends.getD i 0)])) B5 (.lst (bso.map V.int ++ bss.map V.int ++ [V.int (D.ends.getD i 0)])) = G5
    have g25 : Same G2 G5 := by rw [← hG5]; exact ((same_new hB3).trans (same_new hB4)).trans (same_new hB5)
    have hB5' : G5 B5 = some (.lst ((D.row i).map V.int)) := by
      rw [← hG5, upd_same]
      unfold PkD.row
      rw [hbo, hbs', hsd', List.map_append, List.map_append]; rfl
    have n55 : B5 ≠ A5 := fun z => by
      have : G2 B5 = none := ((same_new hB3).trans (same_new hB4)).free hB5
      rw [z, hD2] at this; cases this
    refine ⟨A5, vs2, _, rfl, rfl, g25 _ _ hD2, sz_lt (by omega), vs2 ++ [.ref B5], _, _, _, _, rfl, same_mut (e46.trans (g12.trans g25)) hA5, upd_same, ?_⟩
    rw [List.range_succ, List.map_append]
    have vw : Same (hid A5 H') (hid A5 (upd G5 A5 (.lst (vs2 ++ [.ref B5])))) := by
      rw [hid_upd]; exact same_hid_up (e6'.trans (g12.trans g25))
    refine paired_app (paired_up hp2 fun _ _ => Mo.up vw) (.cons (RLst.of_ints ?_) .nil)
    rw [hid_at n55, upd_ne n55]; exact hB5'
  · rintro σ H' ⟨vs2, u5, u6, u7, u8, rfl, e', hD', hp2⟩
    have l2 := paired_len hp2
    rw [List.length_map, List.length_range] at l2
    rw [svl] at hp2 l2
    refine ⟨_, rfl, .inl ⟨rfl, _, SqL.of hD'⟩, _, rfl, _, rfl, by omega, by omega, fun B1 hB1 => ?_⟩
    refine lc_new (n := ((D.texts.length : Nat) : Int).toNat) walk_range (stepS H') RInt (fun j bs => bs = (List.range j).map fun _ => (-1 : Int)) hB1 (fun _ _ => trivial) (fun i H x H' y => yFn_same y) (by rw [Int.toNat_natCast, sizeLine_eq]; omega) rfl (fun j y bs G1 G2 Kc Rc hj hb g1 g2 _ hy k1 _ => ?_) (fun G1 yso bso g1 hvo hro hbo => ?_)
    · obtain ⟨rfl, rfl⟩ := hy
      refine ⟨rfl, yes_t ⟨1, rfl, k1 (-1) _ _ (Same.refl _) rfl ?_⟩⟩
      rw [hb, List.range_succ, List.map_append]; rfl
    rw [Int.toNat_natCast] at hbo
    have hBo := same_fr _ _ (lstI_at hro)
    refine ⟨_, rfl, A2, _, rfl, .inl (SqL.of (g1 _ _ (e' _ _ (e24 _ _ h2A)))), _, _, rfl, rfl, _, rfl, by omega, by rw [svl]; omega, fun B2 hB2 => ?_⟩
    have sl1 : ((((ys ++ gs).length : Nat) : Int) + 1).toNat = D.sides.length + 1 := by rw [svl]; omega
    rw [sl1]
    refine lc_new (n := D.sides.length + 1) walk_range (stepS G1) RInt (fun j bs => bs = (List.range j).map fun _ => (0 : Int)) hB2 (fun _ _ => trivial) (fun i H x H' y => yFn_same y) (by rw [sizeLine_eq]; omega) rfl (fun j y bs G3 G2 Kc Rc hj hb g3 g2 _ hy k1 _ => ?_) (fun G2 yss bss g2 hvs hrs hbs' => ?_)
    · obtain ⟨rfl, rfl⟩ := hy
      refine ⟨rfl, yes_t (k1 0 _ _ (Same.refl _) rfl ?_)⟩
      rw [hb, List.range_succ, List.map_append]; rfl
    have hBs := same_fr _ _ (lstI_at hrs)
    have g12 := g1.trans g2
    have hD2 : G2 A5 = some (.lst vs2) := g12 _ _ hD'
    refine ⟨B1, B2, _, _, rfl, rfl, g2 _ _ hBo, hBs, by rw [List.length_map, List.length_map, hbo, hbs', List.length_map, List.length_map, List.length_range, List.length_range, sizeLine_eq]; omega, fun B3 hB3 => ?_⟩
    have n3 : B3 ≠ A5 := (ne_of_none hD2 hB3).symm
    refine ⟨A5, vs2, _, rfl, rfl, same_new hB3 _ _ hD2, sz_lt (by omega), _, rfl, k A5 (vs2 ++ [.ref B3]) _ ?_ upd_same ?_⟩
    · exact same_mut (e04.trans (e'.trans (g12.trans (same_new hB3)))) (e04.free hA5)
    · have vw : Same (hid A5 H') (upd (upd G2 B3 (.lst (bso.map V.int ++ bss.map V.int))) A5 (.lst (vs2 ++ [.ref B3]))) := fun x o q => by
        obtain ⟨n1, q⟩ := hid_some q
        rw [upd_ne n1]; exact same_new hB3 _ _ (g12 _ _ q)
      unfold PkD.tab
      refine paired_app (paired_up hp2 fun _ _ => Mo.up vw) (.cons (RLst.of_ints ?_) .nil)
      rw [upd_ne n3, upd_same]
      unfold PkD.last
      rw [hbo, hbs', List.map_append]
end
end MH
/-! part E1 -/
set_option Elab.async false
set_option linter.all false
set_option maxRecDepth 100000
set_option maxHeartbeats 4000000
/-! a tuple of ints in a list of such. -/
namespace MH
open PySem PySem.Spec PyProof.Rows L2
def dInts (g : List Int) : List PyData := g.map PyData.int
def dGrp (g : List Int) : PyData := .tuple (dInts g)
theorem eqv_ints : ∀ a b : List Int, PyData.eqvAll (dInts a) (dInts b) = decide (a = b)
  | [], [] => rfl
  | [], _ :: _ => rfl
  | _ :: _, [] => rfl
  | x :: a, y :: b => by
    show ((x == y) && PyData.eqvAll (dInts a) (dInts b)) = _
    rw [eqv_ints a b, Bool.eq_iff_iff, Bool.and_eq_true, beq_iff_eq, decide_eq_true_iff, decide_eq_true_iff, List.cons.injEq]
theorem eqv_grp (a b : List Int) : PyData.eqv (dGrp a) (dGrp b) = decide (a = b) := eqv_ints a b
theorem any_grp (gs : List (List Int)) (x : List Int) : ((gs.map dGrp).any fun z => PyData.eqv z (dGrp x)) = decide (x ∈ gs) := by
  rw [List.any_map, Bool.eq_iff_iff, List.any_eq_true, decide_eq_true_iff]
  constructor
  · rintro ⟨y, h, e⟩
    have e : PyData.eqv (dGrp y) (dGrp x) = true := e
    rw [eqv_grp] at e
    rw [← of_decide_eq_true e]; exact h
  · intro h; exact ⟨x, h, by show PyData.eqv (dGrp x) (dGrp x) = true; rw [eqv_grp]; exact decide_eq_true rfl⟩
theorem dp_ints {K : Fr} {H : Hp} : ∀ g : List Int, DpAll K H (g.map V.int) (dInts g)
  | [] => .nil
  | x :: g => .cons (.int x) (dp_ints g)
theorem dp_grp {K : Fr} {H : Hp} {v : V} {g : List Int} (h : RTup RInt H v g) : Dp K H v (dGrp g) := by
  obtain ⟨a, rfl, ha⟩ := h.ints
  exact .tup (SqT.of ha) (dp_ints g)
theorem dp_grps {K : Fr} {H : Hp} {vs : List V} {gs : List (List Int)} (h : Paired (RTup RInt H) vs gs) : DpAll K H vs (gs.map dGrp) := by
  induction h with
  | nil => exact .nil
  | cons r _ ih => exact .cons (dp_grp r) ih
theorem lay_ints : ∀ g : List Int, PyData.canLayAll0 (dInts g) = true ∧ PyData.depthAll (dInts g) = 0
  | [] => ⟨rfl, rfl⟩
  | x :: g => by
    obtain ⟨a, b⟩ := lay_ints g
    refine ⟨?_, ?_⟩
    · show (true && PyData.canLayAll0 (dInts g)) = true
      rw [a]; rfl
    · show max 0 (PyData.depthAll (dInts g)) = 0
      rw [b]; rfl
theorem shaped_grp (g : List Int) : SeqAt.shaped (dGrp g) = true := by
  obtain ⟨a, b⟩ := lay_ints g
  show (PyData.canLayAll0 (dInts g) && decide (PyData.depthAll (dInts g) + 1 ≤ 64)) = true
  rw [a, b]; rfl
theorem lay_grps : ∀ gs : List (List Int), PyData.canLayAll0 (gs.map dGrp) = true ∧ PyData.depthAll (gs.map dGrp) ≤ 1
  | [] => ⟨rfl, by decide⟩
  | g :: gs => by
    obtain ⟨a, b⟩ := lay_grps gs
    obtain ⟨c, d⟩ := lay_ints g
    refine ⟨?_, ?_⟩
    · show (PyData.canLayAll0 (dInts g) && PyData.canLayAll0 (gs.map dGrp)) = true
      rw [a, c]; rfl
    · show max (PyData.depthAll (dInts g) + 1) (PyData.depthAll (gs.map dGrp)) ≤ 1
      rw [d]; omega
theorem shaped_grps (gs : List (List Int)) : SeqAt.shaped (.list (gs.map dGrp)) = true := by
  obtain ⟨a, b⟩ := lay_grps gs
  show (PyData.canLayAll0 (gs.map dGrp) && decide (PyData.depthAll (gs.map dGrp) + 1 ≤ 64)) = true
  rw [a, decide_eq_true (by omega)]; rfl
end MH
/-! part D21 -/
set_option Elab.async false
set_option linter.all false
set_option maxRecDepth 100000
set_option maxHeartbeats 6000000
namespace MH
open PySem PySem.Spec PyProof.Rows L2
/-- the places below i whose text's readable ones hold r -/
def plc (ks : List Str) (rd : Str → List Str) (i : Nat) (r : Str) : List Int := ((List.range i).filter fun q => decide (r ∈ rd (ks.getD q Str.empty))).map fun (q : Nat) => (q : Int)
theorem plc_succ (ks : List Str) (rd : Str → List Str) (i : Nat) (r : Str) : plc ks rd (i + 1) r = plc ks rd i r ++ if r ∈ rd (ks.getD i Str.empty) then [(i : Int)] else [] := by
  unfold plc
  rw [List.range_succ, List.filter_append, List.map_append]
  congr 1
  by_cases c : r ∈ rd (ks.getD i Str.empty)
  · rw [if_pos c, List.filter_cons_of_pos (by rw [decide_eq_true c])]; rfl
  · rw [if_neg c, List.filter_cons_of_neg (by rw [decide_eq_false c]; decide)]; rfl
/-- min(level, 1) -/
def lmin (s : Int × Int) : Int × Int := if s.1 < s.2 then s else (1, 1)
/-- what the packing must tell -/
structure PkOk (ws : Ws) (rows : Rows) (s : Int × Int) (D : PkD) : Prop where
  texts : D.texts = ws.map (·.1)
  unit : ∃ u v, 0 < u ∧ 0 < v ∧ D.unit = tot ws * u ∧ D.unit = (lmin s).2 * v ∧ D.bounds = ws.map (fun x => x.2 * u) ∧ D.lev = (lmin s).1 * v
  readable : AllOf rows D.readable
  groups : D.groups = D.readers.map (plc D.texts (rdOf rows) D.texts.length)
  nd : D.readers.Nodup
  sub : ∀ r ∈ D.readers, r ∈ D.readable
  ne : ∀ g ∈ D.groups, g ≠ []
  cover : ∀ r, plc D.texts (rdOf rows) D.texts.length r ≠ [] → plc D.texts (rdOf rows) D.texts.length r ∈ D.groups
  sz : PkSz D
  ub : Bd 1000 D.unit
theorem lcm_both {a b : Nat} (ha : 0 < a) (hb : 0 < b) : lcmN a b = a * (b / Nat.gcd a b) ∧ lcmN a b = b * (a / Nat.gcd a b) := by
  have g1 := Nat.div_mul_cancel (Nat.gcd_dvd_left a b)
  have g2 := Nat.div_mul_cancel (Nat.gcd_dvd_right a b)
  unfold lcmN
  refine ⟨?_, Nat.mul_comm _ _⟩
  have : a / Nat.gcd a b * (b / Nat.gcd a b * Nat.gcd a b) = a / Nat.gcd a b * Nat.gcd a b * (b / Nat.gcd a b) := by rw [Nat.mul_assoc, Nat.mul_comm (Nat.gcd a b)]
  rw [g2, g1] at this; exact this
theorem tot_ge : ∀ {ws : Ws} {y : Str × Int}, (∀ x ∈ ws, 0 ≤ x.2) → y ∈ ws → y.2 ≤ tot ws
  | [], _, _, h => absurd h List.not_mem_nil
  | z :: ws, y, p, h => by
    have nn : ∀ {ws : Ws}, (∀ x ∈ ws, 0 ≤ x.2) → 0 ≤ tot ws := fun {ws} => by
      induction ws with
      | nil => intro _; exact Int.le_refl _
      | cons a r ih =>
        intro q
        have a1 := q a List.mem_cons_self
        have b1 := ih fun x hx => q x (List.mem_cons_of_mem _ hx)
        show 0 ≤ a.2 + tot r; omega
    have t0 := nn fun x hx => p x (List.mem_cons_of_mem _ hx)
    show y.2 ≤ z.2 + tot ws
    rcases List.mem_cons.mp h with e | m
    · rw [e]; omega
    · have := tot_ge (fun x hx => p x (List.mem_cons_of_mem _ hx)) m
      have := p z List.mem_cons_self
      omega
/-- the lists of places, one each -/
structure Grp (Hb H' : Hp) (d : Addr) (us : List (Str × V)) (g : Str → List Int) : Prop where
  nd : (us.map (·.1)).Nodup
  keys : ∀ t, t ∈ us.map (·.1) ↔ g t ≠ []
  nv : (us.map (·.2)).Nodup
  at_ : ∀ y ∈ us, ∃ l, y.2 = .ref l ∧ Hb l = none ∧ l ≠ d ∧ H' l = some (.lst ((g y.1).map V.int))
theorem nodup_inj {α β : Type} {f : α → β} : ∀ {xs : List α}, (xs.map f).Nodup → ∀ {a b : α}, a ∈ xs → b ∈ xs → f a = f b → a = b
  | [], _, _, _, h, _, _ => absurd h List.not_mem_nil
  | x :: xs, nd, a, b, ha, hb, e => by
    obtain ⟨n1, n2⟩ := List.nodup_cons.mp nd
    rcases List.mem_cons.mp ha with ea | ha <;> rcases List.mem_cons.mp hb with eb | hb
    · rw [ea, eb]
    · exact absurd (List.mem_map.mpr ⟨b, hb, by rw [← e, ea]⟩) n1
    · exact absurd (List.mem_map.mpr ⟨a, ha, by rw [e, eb]⟩) n1
    · exact nodup_inj n2 ha hb e
theorem plc_ne {ks : List Str} {rd : Str → List Str} {i : Nat} {r : Str} (h : plc ks rd i r ≠ []) : ∃ q, q < i ∧ r ∈ rd (ks.getD q Str.empty) := by
  unfold plc at h
  obtain ⟨y, hy⟩ : ∃ y, y ∈ List.map (fun (q : Nat) => (q : Int)) ((List.range i).filter fun q => decide (r ∈ rd (ks.getD q Str.empty))) := List.exists_mem_of_ne_nil _ h
  obtain ⟨q, hq, _⟩ := List.mem_map.mp hy
  obtain ⟨h1, h2⟩ := List.mem_filter.mp hq
  exact ⟨q, List.mem_range.mp h1, of_decide_eq_true h2⟩
section
variable {P : Program} {w : World} {K : Fr} {mg : Str → Option Value} {base : Heap}
def sp_Packing___init (K : Fr) : Sp := spx 4 fun vs H Q _ => ∃ (x dx : Addr) (u v l : V) (ws : Ws) (rows : Rows) (pool : List Str) (s : Int × Int), vs = [.ref x, u, v, l] ∧ H x = some (.ins (He.ga K "Packing") dx []) ∧ RSrc K (hid x H) u ws ∧ WOk ws ∧ RChg K (hid x H) v rows ∧ RSh K (hid x H) l s ∧
  (rows.map (·.1)).Nodup ∧ (∀ r ∈ rows, RowOk pool r) ∧ pool.length < 60 ∧ (∀ t ∈ ws.map (·.1), t ∈ rows.map (·.1)) ∧ 0 < s.1 ∧ 0 < s.2 ∧ Bd 100 s.1 ∧ Bd 100 s.2 ∧ Bd 100 (tot ws) ∧
  ∀ H' D, (∀ y o, y ≠ x → H y = some o → H' y = some o) → PkAt K H' x D → PkOk ws rows s D → Q .non H'
theorem sc_Packing___init : FnScope ["self", "source", "changes", "level", "text", "rows", "place", "read", "group"] ["self", "source", "changes", "level"] (defScope s_Packing___init) := ⟨rfl, rfl, rfl, by decide +kernel, rfl, by decide +kernel, by decide +kernel⟩
theorem c_Packing___init (T : Tx K mg) (G_known : Cal P w K mg base 2 "known" ["source", "changes"] (sp_known K)) (G_at_most_one : Cal P w K mg base 4 "at_most_one" ["level"] (sp_at_most_one K)) (G_Table_texts : Met P w K mg base 1 (He.ga K "Table") "texts" ["self"] (sp_Table_texts K)) (G_Machine_texts : Met P w K mg base 1 (He.ga K "Machine") "texts" ["self"] (sp_Machine_texts K)) (G_least_multiple : Cal P w K mg base 2 "least_multiple" ["a", "b"] sp_least_multiple) (G_Table_weight_of : Met P w K mg base 1 (He.ga K "Table") "weight_of" ["self", "text"] (sp_Table_weight_of K)) (G_Machine_weight_of : Met P w K mg base 1 (He.ga K "Machine") "weight_of" ["self", "text"] (sp_Machine_weight_of K)) (G_Changes_readable : Met P w K mg base 1 (He.ga K "Changes") "readable" ["self"] (sp_Changes_readable K)) (G_Changes_of : Met P w K mg base 1 (He.ga K "Changes") "of" ["self", "text"] (sp_Changes_of K)) : Mak P w K mg base 5 "Packing" (He.ga K "Packing") ["self", "source", "changes", "level"] (sp_Packing___init K) := by
  refine T.mak 14 rfl 59 rfl 61 rfl sc_Packing___init (fun _ _ _ _ h => h.1) (fun _ _ _ _ _ _ us hl => match us, hl with | [_, _, _, _], _ => rfl) (fun cdv A outer s H vs Q E hr h => ?_)
  have nd := sc_Packing___init.nd
  have hu := hu_of hr
  have huD := huD_of hr
  refine ⟨_, (pss_cons (ps_expr (pe_cal G_known (hr.mono (by decide)) (pa_cons (pv 1) (pa_cons (pv 2) pa_nil))))
      (Evl.pss_cut (ps_set (i := 3) nd rfl (Or.inl rfl) (pe_cal G_at_most_one (hr.mono (by decide)) (pa_cons (pv 3) pa_nil)))
      (pss_cons (ps_fld (pv 0) (pe_eor (pe_met0 G_Table_texts (hr.mono (by decide)) (pv 1)) (pe_met0 G_Machine_texts (hr.mono (by decide)) (pv 1))) rfl)
      (pss_cons (ps_fld (pv 0) (pe_cal G_least_multiple (hr.mono (by decide)) (pa_cons (pe_fldK (K := K) (pv 1) rfl) (pa_cons (pe_fldK (K := K) (pv 3) rfl) pa_nil))) rfl)
      (pss_cons (ps_fld (pv 0) (pe_lc (own := [("text", 4)]) (g := (gName 4)) (tt := tYes) (by rfl) nd (pi_tup (pe_fldK (K := K) (pv 0) rfl)) (blkOk_by (own := [("text", 4)]) (N := ["self", "source", "changes", "level", "text", "rows", "place", "read", "group"]) (sc := defScope s_Packing___init) (by decide +kernel)) (fun _ _ _ _ _ => (pg_name (i := 4) nd rfl (Or.inl rfl))) (fun _ _ _ _ _ => pts_nil) (fun _ _ _ _ _ => (pe_op op_mulW (pe_eor (pe_met G_Table_weight_of (hr.mono (by decide)) (pv 1) (pa_cons (pv 4) pa_nil)) (pe_met G_Machine_weight_of (hr.mono (by decide)) (pv 1) (pa_cons (pv 4) pa_nil))) (pe_op op_fdivW (pe_fldK (K := K) (pv 0) rfl) (pe_fldK (K := K) (pv 1) rfl))))) rfl)
      (pss_cons (ps_fld (pv 0) (pe_op op_mulW (pe_fldK (K := K) (pv 3) rfl) (pe_op op_fdivW (pe_fldK (K := K) (pv 0) rfl) (pe_fldK (K := K) (pv 3) rfl))) rfl)
      (pss_cons (ps_fld (pv 0) (pe_met0 G_Changes_readable (hr.mono (by decide)) (pv 2)) rfl)
      (pss_cons (ps_fld (pv 0) (pe_lst pa_nil) rfl)
      (pss_cons (ps_fld (pv 0) (pe_lst pa_nil) rfl)
      (Evl.pss_cut (ps_set (i := 5) nd rfl (Or.inl rfl) pe_dnewK)
      (Evl.pss_cut (ps_for PassesOwn.never rfl (pi_enumK (by rfl) T.f_enumerate (pa_cons (pe_fldK (K := K) (pv 0) rfl) pa_nil)) (pg_tupK (K := K) 2 rfl (pgs_cons (pg_name (i := 6) nd rfl (Or.inl rfl)) (pgs_cons (pg_name (i := 4) nd rfl (Or.inl rfl)) pgs_nil))) (pss_one (ps_for PassesOwn.never rfl (pi_tup (pe_met G_Changes_of (hr.mono (by decide)) (pv 2) (pa_cons (pv 4) pa_nil))) (pg_name (i := 7) nd rfl (Or.inl rfl)) (pss_one (ps_expr (pe_bm PySem.F.plainAttrs_list PySem.F.slot_list_append PySem.F.type_list_append mt_append (pe_dsetd (pv 5) (pv 7) (pe_lst pa_nil) ⟨rfl, rfl, rfl, rfl⟩) (pa_cons (pv 6) pa_nil)))))))
      (pss_one (ps_for PassesOwn.never rfl (pi_list (pe_callB (call_sortedD rfl) (by rfl) T.f_sorted (by decide +kernel) (pa_cons (pv 5) pa_nil))) (pg_name (i := 7) nd rfl (Or.inl rfl)) (pss_cons (ps_set (i := 8) nd rfl (Or.inl rfl) (pe_callTy call_tuple_of (by rfl) T.f_tuple (by decide +kernel) (pa_cons (pe_dget hu (pv 5) (pv 7) (fun _ _ => rfl)) pa_nil)))
      (pss_one (ps_if (pt_cmpR (op_notInD huD) (pv 8) (pe_fldK (K := K) (pv 0) rfl) (by rfl)) (pss_cons (ps_expr (pe_bm PySem.F.plainAttrs_list PySem.F.slot_list_append PySem.F.type_list_append mt_append (pe_fldK (K := K) (pv 0) rfl) (pa_cons (pv 8) pa_nil)))
      (pss_one (ps_expr (pe_bm PySem.F.plainAttrs_list PySem.F.slot_list_append PySem.F.type_list_append mt_append (pe_fldK (K := K) (pv 0) rfl) (pa_cons (pv 7) pa_nil))))) pss_nil)))))))))))))))), ?_⟩
  obtain ⟨_, x, dx, u, v, l, ws, rows, pool, s1, rfl, hx, hsrc, wok, hchg, hsh, nd1, rok, pl, sub, s0, s2, b1, b2, b3, k⟩ := h
  have tp := tot_pos wok.pos wok.one
  have l0 : 0 < (lmin s1).2 := by unfold lmin; split <;> simp_all
  have l1 : 0 < (lmin s1).1 := by unfold lmin; split <;> simp_all
  have lb1 : Bd 100 (lmin s1).1 := by unfold lmin; split; exact b1; decide
  have lb2 : Bd 100 (lmin s1).2 := by unfold lmin; split; exact b2; decide
  -- known, level
  refine ⟨_, rfl, _, rfl, rfl, u, v, ws, rows, rfl, Mo.up same_hid hsrc, wok, Mo.up same_hid hchg, nd1, sub, fun H1 e1 => ?_⟩
  refine ⟨fun σ H' => ∃ lv, σ = [some (.ref x), some u, some v, some lv, none, none, none, none, none] ∧ Same (hid x H) (hid x H') ∧ H' x = some (.ins (He.ga K "Packing") dx []) ∧ RSh K (hid x H') lv (lmin s1), ?_, ?_⟩
  · refine ⟨_, rfl, rfl, l, s1, rfl, Mo.up (same_hid.trans e1) hsh, b1.mono (by decide), b2.mono (by decide), fun H2 e2 lt => ?_, fun lv H2 e2 nlt r => ?_⟩
    · refine ⟨l, rfl, same_hid_up (e1.trans e2), e2 _ _ (e1 _ _ hx), ?_⟩
      unfold lmin; rw [if_pos lt]; exact Mo.up (same_hid_up (e1.trans e2)) hsh
    · refine ⟨lv, rfl, same_hid_up (e1.trans e2), e2 _ _ (e1 _ _ hx), ?_⟩
      unfold lmin; rw [if_neg nlt]; exact Mo.up (same_fr_hid (e1 _ _ hx)) r
  clear e1 H1
  rintro σ H1 ⟨lv, rfl, g1, hx1, hlv⟩
  obtain ⟨A, hA⟩ : ∃ A : Nat, (A : Int) = tot ws := ⟨(tot ws).toNat, by omega⟩
  obtain ⟨B, hB⟩ : ∃ B : Nat, (B : Int) = (lmin s1).2 := ⟨(lmin s1).2.toNat, by omega⟩
  have A0 : 0 < A := by omega
  have B0 : 0 < B := by omega
  obtain ⟨lu1, lu2⟩ := lcm_both A0 B0
  have gpos : 0 < Nat.gcd A B := Nat.gcd_pos_of_pos_left _ A0
  have u0 : 0 < B / Nat.gcd A B := Nat.div_pos (Nat.le_of_dvd B0 (Nat.gcd_dvd_right _ _)) gpos
  have v0 : 0 < A / Nat.gcd A B := Nat.div_pos (Nat.le_of_dvd A0 (Nat.gcd_dvd_left _ _)) gpos
  obtain ⟨U, hU⟩ : ∃ U : Int, U = ((lcmN A B : Nat) : Int) := ⟨_, rfl⟩
  obtain ⟨uu, huu⟩ : ∃ uu : Int, uu = ((B / Nat.gcd A B : Nat) : Int) := ⟨_, rfl⟩
  obtain ⟨vv, hvv⟩ : ∃ vv : Int, vv = ((A / Nat.gcd A B : Nat) : Int) := ⟨_, rfl⟩
  have hU1 : U = tot ws * uu := by rw [hU, huu, ← hA, lu1, Int.natCast_mul]
  have hU2 : U = (lmin s1).2 * vv := by rw [hU, hvv, ← hB, lu2, Int.natCast_mul]
  have uu0 : 0 < uu := by omega
  have vv0 : 0 < vv := by omega
  have bA : Bd 100 (A : Int) := by rw [hA]; exact b3
  have bB : Bd 100 (B : Int) := by rw [hB]; exact lb2
  have buu : Bd 100 uu := by rw [huu]; exact bd_nat bB (Nat.div_le_self _ _)
  have bvv : Bd 100 vv := by rw [hvv]; exact bd_nat bA (Nat.div_le_self _ _)
  have bU : Bd 200 U := by rw [hU1]; exact bd_mul b3 buu
  have dU1 : U / tot ws = uu := by rw [hU1]; exact Int.mul_ediv_cancel_left _ (by omega)
  have dU2 : U / (lmin s1).2 = vv := by rw [hU2]; exact Int.mul_ediv_cancel_left _ (by omega)
  -- the fields
  obtain ⟨ps, rfl, hps⟩ := id hsrc
  obtain ⟨lp, ldx, rfl, hlp⟩ := id hlv
  obtain ⟨cp, rfl, hcp⟩ := id hchg
  have srcIn : ∀ {H' : Hp}, Same (hid x H) (hid x H') → SrcAt K "Table" H' ps ws ∨ SrcAt K "Machine" H' ps ws := fun g => hps.imp (SrcAt.up (g.trans same_hid)) (SrcAt.up (g.trans same_hid))
  have whole : ∀ {H' : Hp}, Same (hid x H) (hid x H') → ∃ C dx fs, H' ps = some (.ins C dx fs) ∧ Cls K C ∧ NoAttr K C "whole" ∧ fs.lookup ("whole" : Str) = some (.int (tot ws)) := fun g => by
    rcases srcIn g with ⟨dx, fs, d, us, h1, h2, h3, pm, h5, h6⟩ | ⟨dx, fs, d, us, h1, h2, h3, pm, h5, h6⟩
    · exact ⟨_, dx, fs, h1, T.cl_Table, T.n_Table_whole, h5⟩
    · exact ⟨_, dx, fs, h1, T.cl_Machine, T.n_Machine_whole, h5⟩
  have back : ∀ {H' : Hp} {y : Addr}, Same (hid x H) (hid x H') → y ≠ x → H' y = none → H y = none := fun g n h => freeS g n h
  refine src_texts rfl (srcIn g1) wok fun q H2 e2 hq => ?_
  obtain ⟨at_, rfl, hat⟩ := hq.strs
  have hat := same_fr _ _ hat
  refine ⟨_, rfl, x, _, dx, _, rfl, e2 _ _ hx1, T.cl_Packing, T.n_Packing_texts, by decide, ?_⟩
  generalize hH3 : upd H2 x _ = H3
  have hx3 : H3 x = some (.ins (He.ga K "Packing") dx [("texts", .ref at_)]) := by rw [← hH3, upd_same]; rfl
  have k3 : Same (hid x H2) (hid x H3) := by rw [← hH3, hid_upd]; exact Same.refl _
  have k13 : Same (hid x H1) (hid x H3) := (same_hid_up e2).trans k3
  have g3 := g1.trans k13
  have natx : at_ ≠ x := fun z => by rw [z, e2 _ _ hx1] at hat; cases hat
  have hat3 := keepS k3 natx hat
  obtain ⟨C3, dx3, fs3, w1, w2, w3, w4⟩ := whole g3
  have hl3 := same_hid _ _ (k13 _ _ hlp)
  refine ⟨_, rfl, ps, C3, dx3, fs3, _, rfl, w1, w2, w3, w4, _, rfl, lp, _, ldx, _, _, rfl, hl3, T.cl_Share, T.n_Share_under, shF_under, rfl, A, B, by rw [hA, hB]; rfl, A0, B0, bA.mono (by decide), bB.mono (by decide), ?_⟩
  rw [← hU]
  refine ⟨_, rfl, x, _, dx, _, rfl, hx3, T.cl_Packing, T.n_Packing_unit, by show 1 < 1000; decide, ?_⟩
  generalize hH4 : upd H3 x _ = H4
  have hx4 : H4 x = some (.ins (He.ga K "Packing") dx [("texts", .ref at_), ("unit", .int U)]) := by rw [← hH4, upd_same]; rfl
  have k4 : Same (hid x H3) (hid x H4) := by rw [← hH4, hid_upd]; exact Same.refl _
  have k14 := k13.trans k4
  have g4 := g1.trans k14
  have hat4 := keepS k4 natx hat3
  -- bounds
  refine ⟨_, rfl, x, _, dx, _, _, rfl, hx4, T.cl_Packing, T.n_Packing_texts, rfl, at_, rfl, ⟨_, SqT.of hat4⟩, fun ab hab => ?_⟩
  have nabx : ab ≠ x := (ne_of_none hx4 hab).symm
  have wl := wok.few
  refine lc_new (n := ((ws.map (·.1)).map V.str).length) walk_tup (stepS H4) RInt (fun i bs => bs = (ws.map fun y => y.2 * uu).take i) hab (fun H' e => SqT.of (e _ _ hat4)) (fun i H x H' y => yAt_same y) (by rw [List.length_map, List.length_map]; exact sz_lt (by omega)) rfl (fun i y bs G1 G2 Kc Rc hi hb f1 f2 _ hy k1 _ => ?_) (fun H5 ys bs e5 hv5 hr5 hbs => ?_)
  · obtain ⟨t, ht, rfl⟩ := map_some hy.2
    obtain ⟨⟨t', n⟩, hn, et⟩ := map_some ht
    cases et
    have gg : Same (hid x H) (hid x G2) := g4.trans (same_hid_up f2)
    obtain ⟨C5, dx5, fs5, y1, y2, y3, y4⟩ := whole gg
    refine ⟨rfl, yes_t ?_⟩
    refine src_weight rfl rfl (srcIn gg) wok ?_
    refine ⟨_, rfl, x, _, dx, _, _, rfl, f2 _ _ hx4, T.cl_Packing, T.n_Packing_unit, rfl, _, rfl, ps, C5, dx5, fs5, _, rfl, y1, y2, y3, y4, _, _, rfl, rfl, wdiv tp b3 (by decide), ?_⟩
    have wn : wof ws t' = n := wof_some wok.st.nodup (List.mem_of_getElem? hn)
    have nb : Bd 100 n := by
      have h1 := wok.pos _ (List.mem_of_getElem? hn)
      have h2 := tot_ge (fun y hy => by have := wok.pos y hy; omega) (List.mem_of_getElem? hn)
      have h1 : 1 ≤ n := h1
      have h2 : n ≤ tot ws := h2
      unfold Bd at *; omega
    refine ⟨_, _, rfl, rfl, ?_, k1 (n * uu) _ _ (Same.refl _) ?_ ?_⟩
    · show CMulW (wof ws t') (U / tot ws)
      rw [wn, dU1]; exact wmul nb buu (by decide)
    · show V.int (wof ws t' * (U / tot ws)) = V.int (n * uu)
      rw [wn, dU1]
    · rw [hb, take_more]
      rw [List.getElem?_map, hn]; rfl
  rw [List.length_map, List.length_map, List.take_of_length_le (by rw [List.length_map]; exact Nat.le_refl _)] at hbs
  have hab5 := same_fr _ _ (lstI_at hr5)
  rw [hbs] at hab5
  refine ⟨_, rfl, x, _, dx, _, rfl, e5 _ _ hx4, T.cl_Packing, T.n_Packing_bounds, by show 2 < 1000; decide, ?_⟩
  generalize hH6 : upd H5 x _ = H6
  have hx6 : H6 x = some (.ins (He.ga K "Packing") dx [("texts", .ref at_), ("unit", .int U), ("bounds", .ref ab)]) := by rw [← hH6, upd_same]; rfl
  have k6 : Same (hid x H4) (hid x H6) := by rw [← hH6, hid_upd]; exact same_hid_up e5
  have k16 := k14.trans k6
  have g6 := g1.trans k16
  have hat6 := keepS k6 natx hat4
  have hab6 : H6 ab = some (.lst ((ws.map fun y => y.2 * uu).map V.int)) := by rw [← hH6, upd_ne nabx]; exact hab5
  have hl6 := same_hid _ _ (k16 _ _ hlp)
  -- level
  refine ⟨_, rfl, lp, _, ldx, _, _, rfl, hl6, T.cl_Share, T.n_Share_over, shF_over, _, rfl, x, _, dx, _, _, rfl, hx6, T.cl_Packing, T.n_Packing_unit, rfl, _, rfl, lp, _, ldx, _, _, rfl, hl6, T.cl_Share, T.n_Share_under, shF_under, _, _, rfl, rfl, wdiv l0 lb2 (by decide), _, _, rfl, rfl, by rw [dU2]; exact wmul lb1 bvv (by decide), ?_⟩
  refine ⟨_, rfl, x, _, dx, _, rfl, hx6, T.cl_Packing, T.n_Packing_level, by show 3 < 1000; decide, ?_⟩
  generalize hH7 : upd H6 x _ = H7
  have hx7 : H7 x = some (.ins (He.ga K "Packing") dx [("texts", .ref at_), ("unit", .int U), ("bounds", .ref ab), ("level", .int ((lmin s1).1 * vv))]) := by
    rw [← hH7, upd_same]
    show some (HO.ins _ dx [(("texts" : Str), V.ref at_), ("unit", .int U), ("bounds", .ref ab), ("level", .int ((lmin s1).1 * (U / (lmin s1).2)))]) = _
    rw [dU2]
  have k7 : Same (hid x H6) (hid x H7) := by rw [← hH7, hid_upd]; exact Same.refl _
  have k17 := k16.trans k7
  have g7 := g1.trans k17
  have hat7 := keepS k7 natx hat6
  have hab7 := keepS k7 nabx hab6
  -- readable
  have hcp7 : ChAt K H7 cp rows := ChAt.up (g7.trans same_hid) hcp
  obtain ⟨cdx, cd, cus, c1, c2, c3⟩ := id hcp7
  refine ⟨_, rfl, cp, cdx, _, rfl, c1, lk_ne (by decide +kernel), rfl, cp, rows, pool, rfl, hcp7, (fun r hr t ht => (rok r hr).sub t ht), pl, fun rv re H8 e8 hrv hall => ?_⟩
  refine ⟨_, rfl, x, _, dx, _, rfl, e8 _ _ hx7, T.cl_Packing, T.n_Packing_readable, by show 4 < 1000; decide, ?_⟩
  generalize hH9 : upd H8 x _ = H9
  have hx9 : H9 x = some (.ins (He.ga K "Packing") dx [("texts", .ref at_), ("unit", .int U), ("bounds", .ref ab), ("level", .int ((lmin s1).1 * vv)), ("readable", rv)]) := by rw [← hH9, upd_same]; rfl
  have k9 : Same (hid x H7) (hid x H9) := by rw [← hH9, hid_upd]; exact same_hid_up e8
  have g9 := g7.trans k9
  have hat9 := keepS k9 natx hat7
  have hab9 := keepS k9 nabx hab7
  have hrv9 : RTup RStr (hid x H9) rv re := Mo.up (by rw [← hH9, hid_upd]; exact same_fr_hid hx7) hrv
  -- groups
  refine ⟨by show 0 ≤ sizeLine; decide, fun ag hag => ?_⟩
  have nagx : ag ≠ x := (ne_of_none hx9 hag).symm
  have nag : ab ≠ ag := ne_of_none hab9 hag
  refine ⟨_, rfl, x, _, dx, _, rfl, same_new hag _ _ hx9, T.cl_Packing, T.n_Packing_groups, by show 5 < 1000; decide, ?_⟩
  generalize hHa : upd (upd H9 ag (.lst [])) x _ = Ha
  have hxa : Ha x = some (.ins (He.ga K "Packing") dx [("texts", .ref at_), ("unit", .int U), ("bounds", .ref ab), ("level", .int ((lmin s1).1 * vv)), ("readable", rv), ("groups", .ref ag)]) := by rw [← hHa, upd_same]; rfl
  have ka : Same (hid x H9) (hid x Ha) := by rw [← hHa, hid_upd]; exact same_hid_up (same_new hag)
  have haga : Ha ag = some (.lst []) := by rw [← hHa, upd_ne nagx, upd_same]
  have ga := g9.trans ka
  have hata := keepS ka natx hat9
  have haba := keepS ka nabx hab9
  have hrva := Mo.up ka hrv9
  refine ⟨by show 0 ≤ sizeLine; decide, fun ad had => ?_⟩
  have nadx : ad ≠ x := (ne_of_none hxa had).symm
  have nad : ab ≠ ad := ne_of_none haba had
  have nagd : ag ≠ ad := ne_of_none haga had
  refine ⟨_, rfl, x, _, dx, _, rfl, same_new had _ _ hxa, T.cl_Packing, T.n_Packing_readers, by show 6 < 1000; decide, ?_⟩
  generalize hHb : upd (upd Ha ad (.lst [])) x _ = Hb
  have hxb : Hb x = some (.ins (He.ga K "Packing") dx [("texts", .ref at_), ("unit", .int U), ("bounds", .ref ab), ("level", .int ((lmin s1).1 * vv)), ("readable", rv), ("groups", .ref ag), ("readers", .ref ad)]) := by rw [← hHb, upd_same]; rfl
  have kb : Same (hid x Ha) (hid x Hb) := by rw [← hHb, hid_upd]; exact same_hid_up (same_new had)
  have hadb : Hb ad = some (.lst []) := by rw [← hHb, upd_ne nadx, upd_same]
  have gb := ga.trans kb
  have hatb := keepS kb natx hata
  have habb := keepS kb nabx haba
  have hrvb := Mo.up kb hrva
  have hagb := keepS kb nagx haga
  have had0 : H ad = none := back ga nadx had
  have hag0 : H ag = none := back g9 nagx hag
  -- rows
  have vwN := hxb
  refine ⟨fun σ H' => ∃ d, σ = [some (.ref x), some (.ref ps), some (.ref cp), some (.ref lp), none, some (.ref d), none, none, none] ∧ Hb d = none ∧ H' = upd Hb d (.dK []), ?_, ?_⟩
  · exact fun d hd => ⟨d, rfl, hd, rfl⟩
  rintro σ Hc ⟨d, rfl, hdb, rfl⟩
  obtain ⟨ks, hks⟩ : ∃ ks, ks = ws.map (·.1) := ⟨_, rfl⟩
  have kl : ks.length = ws.length := by rw [hks, List.length_map]
  have rdP : ∀ {t r : Str}, t ∈ ks → r ∈ rdOf rows t → r ∈ pool := fun {t r} ht hr => by
    rw [hks] at ht
    obtain ⟨q, hq, rfl⟩ := List.mem_map.mp (sub t ht)
    rw [rdOf_mem nd1 hq] at hr
    exact (rok q hq).sub r hr
  have plP : ∀ {i : Nat} {r : Str}, i ≤ ks.length → plc ks (rdOf rows) i r ≠ [] → r ∈ pool := fun {i r} hi h => by
    obtain ⟨q, hq, hm⟩ := plc_ne h
    refine rdP (t := ks.getD q Str.empty) ?_ hm
    rw [List.getD_eq_getElem?_getD, List.getElem?_eq_getElem (by omega)]
    exact List.getElem_mem _
  have hcpb : ChAt K Hb cp rows := ChAt.up (gb.trans same_hid) hcp
  rw [← hks] at hatb
  -- the places
  refine ⟨fun σ H' => ∃ us u4 u6 u7, σ = [some (.ref x), some (.ref ps), some (.ref cp), some (.ref lp), u4, some (.ref d), u6, u7, none] ∧ Same Hb H' ∧ H' d = some (.dK (dct id us)) ∧ Grp Hb H' d us (plc ks (rdOf rows) ks.length), ?_, ?_⟩
  · have xl : ((ks.map V.str)).length = ks.length := List.length_map _
    refine ⟨_, rfl, x, _, dx, _, _, rfl, same_new hdb _ _ hxb, T.cl_Packing, T.n_Packing_texts, rfl, .t at_, ks.map V.str, rfl, SqT.of (same_new hdb _ _ hatb), for_enumK (xs := ks.map V.str) (fun i σ H' => ∃ us u4 u6 u7, σ = [some (.ref x), some (.ref ps), some (.ref cp), some (.ref lp), u4, some (.ref d), u6, u7, none] ∧ Same Hb H' ∧ H' d = some (.dK (dct id us)) ∧ Grp Hb H' d us (plc ks (rdOf rows) i))
      ⟨[], none, none, none, rfl, same_new hdb, upd_same, List.nodup_nil, fun t => ⟨fun h => absurd h List.not_mem_nil, fun h => absurd rfl h⟩, List.nodup_nil, fun _ h => absurd h List.not_mem_nil⟩ (fun i σ H' ⟨_, _, _, _, _, e, _⟩ => SqT.of (e _ _ hatb)) ?_ ?_⟩
    · rintro i y T2 σ H1' hi ⟨us, u4, u6, u7, rfl, e', hd', hg'⟩ hT2
      obtain ⟨t, ht, rfl⟩ := map_some hi
      have il : i < ks.length := (List.getElem?_eq_some_iff.mp ht).1
      have tk : t ∈ ks := List.mem_of_getElem? ht
      have tg : ks.getD i Str.empty = t := by rw [List.getD_eq_getElem?_getD, ht]; rfl
      obtain ⟨r, hr, ert⟩ := List.mem_map.mp (sub t (by rw [← hks]; exact tk))
      have ert : r.1 = t := ert
      subst ert
      have rdr := rdOf_mem nd1 hr
      generalize hK2 : upd H1' T2 (.tup [.int (i : Nat), .str r.1]) = K2
      have e2' : Same H1' K2 := by rw [← hK2]; exact same_new hT2
      have eb2 := e'.trans e2'
      have hT2' : K2 T2 = some (.tup [.int (i : Nat), .str r.1]) := by rw [← hK2]; exact upd_same
      refine ⟨T2, _, rfl, SqT.of hT2', rfl, _, _, rfl, _, _, rfl, rfl, ?_⟩
      have hcp2 := ChAt.up eb2 hcpb
      obtain ⟨cdx, cd, cus, c1, c2, c3⟩ := id hcp2
      refine ⟨_, rfl, cp, cdx, _, rfl, c1, lk_ne (by decide +kernel), _, rfl, rfl, cp, rows, r, rfl, hcp2, nd1, hr, fun v hv => ?_⟩
      obtain ⟨b, rfl, hb⟩ := hv.strs
      have rnd := (rok r hr).st.nodup
      have rpo := (rok r hr).sub
      refine ⟨b, rfl, ⟨_, SqT.of hb⟩, for_tup (K := K) (xs := r.2.map V.str) (fun j σ H3 => ∃ us u7, σ = [some (.ref x), some (.ref ps), some (.ref cp), some (.ref lp), some (.str r.1), some (.ref d), some (.int (i : Nat)), u7, none] ∧ Same Hb H3 ∧ H3 b = some (.tup (r.2.map V.str)) ∧ H3 d = some (.dK (dct id us)) ∧ Grp Hb H3 d us (fun s => plc ks (rdOf rows) i s ++ if s ∈ r.2.take j then [(i : Int)] else []))
        ⟨us, u7, rfl, eb2, hb, e2' _ _ hd', ⟨hg'.nd, fun s => by rw [hg'.keys]; simp, hg'.nv, fun y hy => ?_⟩⟩ (fun j σ H3 _ ⟨_, _, _, _, h, _⟩ => SqT.of h) ?_ ?_⟩
      · obtain ⟨l, h1, h2, h3, h4⟩ := hg'.at_ y hy
        exact ⟨l, h1, h2, h3, by rw [e2' _ _ h4]; simp⟩
      · rintro j z σ H3 hj ⟨us3, u7', rfl, e3, hb3, hd3, hg3⟩
        obtain ⟨o, ho, rfl⟩ := map_some hj
        have om : o ∈ r.2 := List.mem_of_getElem? ho
        have nin : o ∉ r.2.take j := fun m => by
          have hx : r.2.Nodup := rnd
          rw [← List.take_append_drop (j + 1) r.2, take_more ho, List.nodup_append, List.nodup_append] at hx
          exact hx.1.2.2 o m o (List.mem_singleton.mpr rfl) rfl
        have gd : IsD H3 d := IsD.of hd3
        have pk : ∀ s, plc ks (rdOf rows) i s ++ (if s ∈ r.2.take j then [(i : Int)] else []) ≠ [] → s ∈ pool := fun s h => by
          by_cases c : s ∈ r.2.take j
          · exact rpo s (List.mem_of_mem_take c)
          · rw [if_neg c, List.append_nil] at h; exact plP (by omega) h
        have ul := sub_len hg3.nd (m := pool) fun s hs => pk s ((hg3.keys s).mp hs)
        rw [List.length_map] at ul
        have more : ∀ s, plc ks (rdOf rows) i s ++ (if s ∈ r.2.take (j + 1) then [(i : Int)] else []) = if s = o then plc ks (rdOf rows) i s ++ [(i : Int)] else plc ks (rdOf rows) i s ++ (if s ∈ r.2.take j then [(i : Int)] else []) := fun s => by
          rw [take_more ho]
          by_cases c : s = o
          · subst c; rw [if_pos rfl, if_pos (List.mem_append_right _ (List.mem_singleton.mpr rfl))]
          · rw [if_neg c]
            have : s ∈ r.2.take j ++ [o] ↔ s ∈ r.2.take j := by simp [c]
            simp only [this]
        refine ⟨_, rfl, d, rfl, gd, _, rfl, by show 0 ≤ sizeLine; decide, fun N hN => ⟨dct id us3, kT o, same_new hN _ _ hd3, rfl, by rw [dct_len, sizeLine_eq]; omega, fun v hv => ?_, fun hv => ?_⟩⟩
        · -- the list is there
          have ok : o ∈ us3.map (·.1) := Classical.byContradiction fun c => by rw [dct_none c] at hv; cases hv
          obtain ⟨⟨o', v'⟩, hm, eo⟩ := List.mem_map.mp ok
          cases eo
          have v0 : v' = v := by rw [dct_some (f := id) hg3.nd hm] at hv; exact Option.some.inj hv
          subst v0
          obtain ⟨l, el, l1', l2', l3'⟩ := hg3.at_ _ hm
          have el : v' = .ref l := el
          subst el
          rw [if_neg nin, List.append_nil] at l3'
          have nlN : l ≠ N := ne_of_none l3' hN
          have nld : l ≠ d := l2'
          have nlb : l ≠ b := fun z => by rw [z, hb3] at l3'; cases l3'
          have plen : (plc ks (rdOf rows) i o').length ≤ 60 := by
            unfold plc; rw [List.length_map]
            have := List.length_filter_le (fun q => decide (o' ∈ rdOf rows (ks.getD q Str.empty))) (List.range i)
            rw [List.length_range] at this; omega
          refine ⟨.inl ⟨rfl, _, SqL.of (same_new hN _ _ l3')⟩, _, rfl, l, _, _, rfl, rfl, same_new hN _ _ l3', sz_lt (by rw [List.length_map]; exact Nat.lt_of_le_of_lt plen (by decide)), ?_⟩
          refine ⟨us3, _, rfl, same_mut (e3.trans (same_new hN)) l1', by rw [upd_ne nlb.symm]; exact same_new hN _ _ hb3, by rw [upd_ne nld.symm]; exact same_new hN _ _ hd3, hg3.nd, fun s => ?_, hg3.nv, fun y hy => ?_⟩
          · rw [more]
            by_cases c : s = o'
            · subst c; rw [if_pos rfl]
              exact ⟨fun _ => by simp, fun _ => ok⟩
            · rw [if_neg c]; exact hg3.keys s
          · obtain ⟨l', h1, h2, h3, h4⟩ := hg3.at_ y hy
            by_cases c : y.1 = o'
            · have : y = (o', .ref l) := nodup_inj hg3.nd hy hm c
              subst this
              refine ⟨l, rfl, l1', nld, ?_⟩
              rw [upd_same, more, if_pos rfl, List.map_append]; rfl
            · have nll : l' ≠ l := fun z => c (by
                have : y = (o', .ref l) := nodup_inj hg3.nv hy hm (by rw [h1, z])
                rw [this])
              refine ⟨l', h1, h2, h3, ?_⟩
              rw [upd_ne nll, more, if_neg c]; exact same_new hN _ _ h4
        · -- a new list
          have nk : o ∉ us3.map (·.1) := fun c => by
            obtain ⟨⟨o', v'⟩, hm, eo⟩ := List.mem_map.mp c
            cases eo
            rw [dct_some (f := id) hg3.nd hm] at hv; cases hv
          have g0 : plc ks (rdOf rows) i o = [] := Classical.byContradiction fun c => nk ((hg3.keys o).mpr (by rw [if_neg nin, List.append_nil]; exact c))
          have nNd : N ≠ d := (ne_of_none hd3 hN).symm
          have nNb : N ≠ b := (ne_of_none hb3 hN).symm
          have hNb : Hb N = none := e3.free hN
          have pd : putK (dct id us3) (kT o) (.ref N) = dct id (dput us3 o (.ref N)) := dct_put (f := id) (x := V.ref N) hg3.nd
          rw [pd]
          have hN3 : (upd (upd H3 N (.lst [])) d (.dK (dct id (dput us3 o (.ref N))))) N = some (.lst []) := by rw [upd_ne nNd, upd_same]
          refine ⟨.inl ⟨rfl, _, SqL.of hN3⟩, _, rfl, N, _, _, rfl, rfl, hN3, by show 0 < sizeLine; decide, ?_⟩
          refine ⟨dput us3 o (.ref N), _, rfl, ?_, by rw [upd_ne nNb.symm, upd_ne (fun z => by rw [z, hd3] at hb3; cases hb3)]; exact same_new hN _ _ hb3, by rw [upd_ne nNd.symm, upd_same], dput_nodup hg3.nd, fun s => ?_, ?_, fun y hy => ?_⟩
          · exact same_mut (same_mut (e3.trans (same_new hN)) hdb) hNb
          · rw [more, dput_keys, if_neg nk, List.mem_append, List.mem_singleton]
            by_cases c : s = o
            · subst c; rw [if_pos rfl]
              exact ⟨fun _ => by simp, fun _ => .inr rfl⟩
            · rw [if_neg c, ← hg3.keys s]
              exact ⟨fun h => h.elim id fun z => absurd z c, .inl⟩
          · rw [dput_new nk, List.map_append, List.nodup_append]
            refine ⟨hg3.nv, by simp, fun a ha b' hb' e => ?_⟩
            rw [List.map_cons, List.map_nil, List.mem_singleton] at hb'
            obtain ⟨y, hy, ey⟩ := List.mem_map.mp ha
            obtain ⟨l', h1, h2, h3, h4⟩ := hg3.at_ y hy
            have : l' = N := by
              have q : V.ref l' = V.ref N := by rw [← h1, ey, e, hb']
              injection q
            rw [this, hN] at h4; cases h4
          · rw [dput_new nk] at hy
            rcases List.mem_append.mp hy with h | h
            · obtain ⟨l', h1, h2, h3, h4⟩ := hg3.at_ y h
              have c : y.1 ≠ o := fun z => nk (by rw [← z]; exact List.mem_map.mpr ⟨y, h, rfl⟩)
              have nlN : l' ≠ N := ne_of_none h4 hN
              refine ⟨l', h1, h2, h3, ?_⟩
              rw [upd_ne nlN, upd_ne h3, more, if_neg c]; exact same_new hN _ _ h4
            · rw [List.mem_singleton] at h; subst h
              refine ⟨N, rfl, hNb, nNd, ?_⟩
              rw [upd_same, more, if_pos rfl, g0]; rfl
      · rintro σ H3 ⟨us3, u7', rfl, e3, hb3, hd3, hg3⟩
        have eq : (fun s => plc ks (rdOf rows) i s ++ if s ∈ r.2.take (r.2.map V.str).length then [(i : Int)] else []) = plc ks (rdOf rows) (i + 1) := by
          funext s
          rw [List.length_map, List.take_length, plc_succ, tg, rdr]
        rw [eq] at hg3
        exact ⟨us3, _, _, _, rfl, e3, hd3, hg3⟩
    · rintro σ H' ⟨us, u4, u6, u7, rfl, e', hd', hg'⟩
      rw [xl] at hg'
      exact ⟨us, u4, u6, u7, rfl, e', hd', hg'⟩
  rintro σ H' ⟨us, u4, u6, u7, rfl, e', hd', hg'⟩
  obtain ⟨G, hG⟩ : ∃ G, G = plc ks (rdOf rows) ks.length := ⟨_, rfl⟩
  rw [← hG] at hg'
  have gP : ∀ s, G s ≠ [] → s ∈ pool := fun s h => by rw [hG] at h; exact plP (Nat.le_refl _) h
  have ul := sub_len hg'.nd (m := pool) fun s hs => gP s ((hg'.keys s).mp hs)
  refine ⟨_, rfl, d, _, us.map (·.1), rfl, .inl hd', dct_keys us, by omega, fun ys L pm so hL => ?_⟩
  have ynd : ys.Nodup := pm.nodup_iff.mpr hg'.nd
  have yl := pm.length_eq
  generalize hHs : upd H' L (.lst (ys.map V.str)) = Hs
  have es : Same H' Hs := by rw [← hHs]; exact same_new hL
  have hLs : Hs L = some (.lst (ys.map V.str)) := by rw [← hHs]; exact upd_same
  have ebs := e'.trans es
  have nLag : L ≠ ag := (ne_of_none (e' _ _ hagb) hL).symm
  have nLad : L ≠ ad := (ne_of_none (e' _ _ hadb) hL).symm
  have kp : ∀ {H2 : Hp} {y : Addr} {o : HO}, Same (hid ag (hid ad Hs)) (hid ag (hid ad H2)) → y ≠ ag → y ≠ ad → Hs y = some o → H2 y = some o := fun {H2 y o} g n1 n2 h => by
    have := g y o (by rw [hid_at n1, hid_at n2]; exact h)
    rw [hid_at n1, hid_at n2] at this; exact this
  have nxg : x ≠ ag := nagx.symm
  have nxd : x ≠ ad := nadx.symm
  have ndg : d ≠ ag := fun z => by rw [z, e' _ _ hagb] at hd'; cases hd'
  have ndd : d ≠ ad := fun z => by rw [z, e' _ _ hadb] at hd'; cases hd'
  refine ⟨L, rfl, ⟨_, SqL.of hLs⟩, for_list (K := K) (xs := ys.map V.str) (fun i σ H2 => ∃ gs gvs rds u7 u8, σ = [some (.ref x), some (.ref ps), some (.ref cp), some (.ref lp), u4, some (.ref d), u6, u7, u8] ∧ Same (hid ag (hid ad Hs)) (hid ag (hid ad H2)) ∧ H2 ag = some (.lst gvs) ∧ H2 ad = some (.lst (rds.map V.str)) ∧
      Paired (RTup RInt (hid ag (hid ad H2))) gvs gs ∧ gs = rds.map G ∧ rds.Nodup ∧ (∀ r ∈ rds, r ∈ ys.take i) ∧ (∀ r ∈ ys.take i, G r ∈ gs) ∧ gs.length ≤ i)
    ⟨[], [], [], u7, none, rfl, Same.refl _, ebs _ _ hagb, ebs _ _ hadb, .nil, rfl, List.nodup_nil, (fun _ h => absurd h List.not_mem_nil), (fun _ h => absurd h List.not_mem_nil), Nat.le_refl _⟩ (fun i σ H2 _ ⟨_, _, _, _, _, _, g, _⟩ => SqL.of (kp g nLag nLad hLs)) ?_ ?_⟩
  · rintro i y σ H2 hi ⟨gs, gvs, rds, u7, u8, rfl, g2, hga, hra, hgp, hgs, rnd, rsub, cov, glen⟩
    obtain ⟨t, ht, rfl⟩ := map_some hi
    have il : i < ys.length := (List.getElem?_eq_some_iff.mp ht).1
    have tm := List.mem_of_getElem? ht
    obtain ⟨⟨t', v⟩, hm, et⟩ := List.mem_map.mp (pm.mem_iff.mp tm)
    cases et
    obtain ⟨l, el, l1', l2', l3'⟩ := hg'.at_ _ hm
    have el : v = .ref l := el
    subst el
    have nlg : l ≠ ag := fun z => by rw [z, hagb] at l1'; cases l1'
    have nld : l ≠ ad := fun z => by rw [z, hadb] at l1'; cases l1'
    have hl2 : H2 l = some (.lst ((G t').map V.int)) := kp g2 nlg nld (es _ _ l3')
    have hd2 := kp g2 ndg ndd (es _ _ hd')
    have gvl := paired_len hgp
    refine ⟨_, rfl, _, rfl, d, _, rfl, dget_some (f := id) hd2 hg'.nd hm, l, _, rfl, .inl ⟨SqL.of hl2, fun N hN => ?_⟩⟩
    have nNg : N ≠ ag := (ne_of_none hga hN).symm
    have nNd : N ≠ ad := (ne_of_none hra hN).symm
    generalize hH3 : upd H2 N (.tup ((G t').map V.int)) = H3
    have e3 : Same H2 H3 := by rw [← hH3]; exact same_new hN
    have hN3 : H3 N = some (.tup ((G t').map V.int)) := by rw [← hH3]; exact upd_same
    have g3 : Same (hid ag (hid ad Hs)) (hid ag (hid ad H3)) := g2.trans (same_hid_up (same_hid_up e3))
    have hgp3 := paired_up hgp fun _ _ => Mo.up (R := RTup RInt) (same_hid_up (a := ag) (same_hid_up (a := ad) e3))
    have hx3' := kp g3 nxg nxd (ebs _ _ hxb)
    have hga3 := e3 _ _ hga
    have hra3 := e3 _ _ hra
    refine ⟨_, rfl, _, rfl, x, _, dx, _, _, rfl, hx3', T.cl_Packing, T.n_Packing_groups, rfl, dGrp (G t'), gs.map dGrp, dp_grp (RTup.of_ints hN3), .lst (SqL.of hga3) (dp_grps (paired_up hgp3 fun _ _ => Mo.up (same_hid.trans same_hid))), shaped_grp _, shaped_grps _, _, rfl, ?_⟩
    rw [any_grp]
    by_cases c : G t' ∈ gs
    · rw [decide_eq_true c]
      refine iteF ⟨gs, gvs, rds, _, _, rfl, g3, hga3, hra3, hgp3, hgs, rnd, fun r hr => by rw [take_more ht]; exact List.mem_append_left _ (rsub r hr), fun r hr => ?_, by omega⟩
      rw [take_more ht] at hr
      rcases List.mem_append.mp hr with h | h
      · exact cov r h
      · rw [List.mem_singleton] at h; rw [h]; exact c
    · rw [decide_eq_false c]
      refine iteT ?_
      refine ⟨_, rfl, x, _, dx, _, _, rfl, hx3', T.cl_Packing, T.n_Packing_groups, rfl, .inl ⟨rfl, _, SqL.of hga3⟩, _, rfl, ag, gvs, _, rfl, rfl, hga3, sz_lt (by omega), ?_⟩
      have hx4' : (upd H3 ag (.lst (gvs ++ [.ref N]))) x = _ := (upd_ne nxg).trans hx3'
      have hra4 : (upd H3 ag (.lst (gvs ++ [.ref N]))) ad = some (.lst (rds.map V.str)) := by rw [upd_ne nagd.symm]; exact hra3
      have rl : rds.length ≤ i := by rw [hgs, List.length_map] at glen; exact glen
      refine ⟨_, rfl, x, _, dx, _, _, rfl, hx4', T.cl_Packing, T.n_Packing_readers, rfl, .inl ⟨rfl, _, SqL.of hra4⟩, _, rfl, ad, _, _, rfl, rfl, hra4, sz_lt (by rw [List.length_map]; omega), ?_⟩
      have tn : t' ∉ rds := fun m => c (by rw [hgs]; exact List.mem_map.mpr ⟨t', m, rfl⟩)
      have vw : ∀ {o o' : HO}, hid ag (hid ad (upd (upd H3 ag o) ad o')) = hid ag (hid ad H3) := fun {o o'} => by
        funext q
        by_cases q1 : q = ag
        · rw [q1, hid_self, hid_self]
        · rw [hid_at q1, hid_at q1]
          by_cases q2 : q = ad
          · rw [q2, hid_self, hid_self]
          · rw [hid_at q2, hid_at q2, upd_ne q2, upd_ne q1]
      refine ⟨gs ++ [G t'], gvs ++ [.ref N], rds ++ [t'], _, _, rfl, by rw [vw]; exact g3, by rw [upd_ne nagd, upd_same], by rw [upd_same, List.map_append]; rfl, ?_, by rw [hgs, List.map_append]; rfl, ?_, fun r hr => ?_, fun r hr => ?_, by rw [List.length_append, List.length_singleton]; omega⟩
      · rw [vw]
        refine paired_app hgp3 (.cons (RTup.of_ints ?_) .nil)
        rw [hid_at nNg, hid_at nNd]; exact hN3
      · rw [List.nodup_append]
        exact ⟨rnd, by simp, fun a ha b hb e => tn (by rw [List.mem_singleton] at hb; rw [← hb, ← e]; exact ha)⟩
      · rw [take_more ht]
        rcases List.mem_append.mp hr with h | h
        · exact List.mem_append_left _ (rsub r h)
        · exact List.mem_append_right _ h
      · rw [take_more ht] at hr
        rcases List.mem_append.mp hr with h | h
        · exact List.mem_append_left _ (cov r h)
        · rw [List.mem_singleton] at h; rw [h]; exact List.mem_append_right _ (List.mem_singleton.mpr rfl)
  · rintro σ H2 ⟨gs, gvs, rds, u7, u8, rfl, g2, hga, hra, hgp, hgs, rnd, rsub, cov, glen⟩
    rw [List.length_map, List.take_length] at rsub cov
    rw [List.length_map] at glen
    have inG : ∀ r, r ∈ ys ↔ G r ≠ [] := fun r => by rw [pm.mem_iff, hg'.keys]
    have atg : at_ ≠ ag := fun z => by rw [z, hagb] at hatb; cases hatb
    have atd : at_ ≠ ad := fun z => by rw [z, hadb] at hatb; cases hatb
    refine k H2 ⟨ks, U, ws.map fun y => y.2 * uu, (lmin s1).1 * vv, re, gs, rds⟩ (fun y o hy h => ?_) ⟨dx, .ref at_, .ref ab, rv, .ref ag, .ref ad, kp g2 nxg nxd (ebs _ _ hxb), RTup.of_strs (kp g2 atg atd (ebs _ _ hatb)), RLst.of_ints (kp g2 nag nad (ebs _ _ habb)), ?_, ⟨ag, gvs, rfl, hga, paired_up hgp fun _ _ => Mo.up (same_hid.trans same_hid)⟩, RLst.of_strs hra⟩ ?_
    · have yg : y ≠ ag := fun z => by rw [z, hag0] at h; cases h
      have yd : y ≠ ad := fun z => by rw [z, had0] at h; cases h
      refine kp g2 yg yd (ebs _ _ ?_)
      have := gb y o (by rw [hid_at hy]; exact h)
      rw [hid_at hy] at this; exact this
    · obtain ⟨a', ea, ha'⟩ := hrvb.strs
      have ha' := (hid_some ha').2
      have n1 : a' ≠ ag := fun z => by rw [z, hagb] at ha'; cases ha'
      have n2 : a' ≠ ad := fun z => by rw [z, hadb] at ha'; cases ha'
      rw [ea]; exact RTup.of_strs (kp g2 n1 n2 (ebs _ _ ha'))
    · refine ⟨hks, ⟨uu, vv, uu0, vv0, hU1, hU2, rfl, rfl⟩, hall, by rw [hgs, hG], rnd, fun r hr => ?_, fun g hg => ?_, fun r hr => ?_, ⟨?_, ?_, ?_⟩, bU.mono (by decide)⟩
      · have := (inG r).mp (rsub r hr)
        rw [hG] at this
        obtain ⟨q, hq, hm⟩ := plc_ne this
        have tk : ks.getD q Str.empty ∈ ks := by
          rw [List.getD_eq_getElem?_getD, List.getElem?_eq_getElem hq]; exact List.getElem_mem _
        obtain ⟨row, hrow, erow⟩ := List.mem_map.mp (sub _ (by rw [← hks]; exact tk))
        rw [← erow, rdOf_mem nd1 hrow] at hm
        exact (hall.mem r).mpr ⟨row, hrow, hm⟩
      · have hg : g ∈ gs := hg
        rw [hgs] at hg
        obtain ⟨r, hr, rfl⟩ := List.mem_map.mp hg
        exact (inG r).mp (rsub r hr)
      · have hr : plc ks (rdOf rows) ks.length r ≠ [] := hr
        show plc ks (rdOf rows) ks.length r ∈ gs
        rw [← hG] at hr ⊢
        exact cov r ((inG r).mpr hr)
      · show ks.length ≤ 30; omega
      · show gs.length ≤ 60; omega
      · show (ws.map fun y => y.2 * uu).length = ks.length
        rw [List.length_map, kl]
end
end MH
/-! part Q1 -/
set_option Elab.async false
set_option linter.all false
set_option maxRecDepth 100000
set_option maxHeartbeats 4000000
/-! the packing's table is a table to be solved (plain). -/
namespace MH
open PySem PySem.Spec PyProof.Rows L2
theorem three_at {a b : List Int} {e : Int} {n m : Nat} (ha : a.length = n) (hb : b.length = m) :
    (∀ j, j < n → (a ++ b ++ [e])[j]? = a[j]?) ∧ (∀ j, j < m → (a ++ b ++ [e])[n + j]? = b[j]?) ∧ (a ++ b ++ [e])[n + m]? = some e := by
  refine ⟨fun j hj => ?_, fun j hj => ?_, ?_⟩
  · rw [List.append_assoc, List.getElem?_append_left (by omega)]
  · rw [List.append_assoc, List.getElem?_append_right (by omega), ha, Nat.add_sub_cancel_left, List.getElem?_append_left (by omega)]
  · rw [List.getElem?_append_right (by rw [List.length_append]; omega), List.length_append, ha, hb, Nat.sub_self]; rfl
theorem rng_at {f : Nat → Int} {n j : Nat} (h : j < n) : ((List.range n).map f)[j]? = some (f j) := by
  rw [List.getElem?_map, List.getElem?_eq_getElem (by rw [List.length_range]; exact h), List.getElem_range]; rfl
section
variable (D : PkD)
theorem tab_row {i : Nat} (h : i < D.sides.length) : D.tab[i]? = some (D.row i) := by
  unfold PkD.tab
  rw [List.getElem?_append_left (by rw [List.length_map, List.length_range]; exact h), List.getElem?_map, List.getElem?_eq_getElem (by rw [List.length_range]; exact h), List.getElem_range]; rfl
theorem tab_last : D.tab[D.sides.length]? = some D.last := by
  unfold PkD.tab
  rw [List.getElem?_append_right (by rw [List.length_map, List.length_range]; exact Nat.le_refl _), List.length_map, List.length_range, Nat.sub_self]; rfl
theorem ent_own {i j : Nat} (hi : i < D.sides.length) (hj : j < D.texts.length) : ent D.tab i j = if (j : Int) ∈ D.sides.getD i [] then 1 else 0 := by
  refine ent_at (tab_row D hi) ?_
  obtain ⟨h, _, _⟩ := three_at (a := (List.range D.texts.length).map (fun j => if ((j : Nat) : Int) ∈ D.sides.getD i [] then (1 : Int) else 0)) (b := (List.range D.sides.length).map (fun o => if o = i then (1 : Int) else 0)) (e := D.ends.getD i 0) (n := D.texts.length) (m := D.sides.length) (by rw [List.length_map, List.length_range]) (by rw [List.length_map, List.length_range])
  unfold PkD.row
  rw [h j hj, rng_at hj]
theorem ent_slack {i j : Nat} (hi : i < D.sides.length) (hj : j < D.sides.length) : ent D.tab i (D.texts.length + j) = if j = i then 1 else 0 := by
  refine ent_at (tab_row D hi) ?_
  obtain ⟨_, h, _⟩ := three_at (a := (List.range D.texts.length).map (fun j => if ((j : Nat) : Int) ∈ D.sides.getD i [] then (1 : Int) else 0)) (b := (List.range D.sides.length).map (fun o => if o = i then (1 : Int) else 0)) (e := D.ends.getD i 0) (n := D.texts.length) (m := D.sides.length) (by rw [List.length_map, List.length_range]) (by rw [List.length_map, List.length_range])
  unfold PkD.row
  rw [h j hj, rng_at hj]
theorem ent_end {i : Nat} (hi : i < D.sides.length) : ent D.tab i (D.texts.length + D.sides.length) = D.ends.getD i 0 := by
  refine ent_at (tab_row D hi) ?_
  obtain ⟨_, _, h⟩ := three_at (a := (List.range D.texts.length).map (fun j => if ((j : Nat) : Int) ∈ D.sides.getD i [] then (1 : Int) else 0)) (b := (List.range D.sides.length).map (fun o => if o = i then (1 : Int) else 0)) (e := D.ends.getD i 0) (n := D.texts.length) (m := D.sides.length) (by rw [List.length_map, List.length_range]) (by rw [List.length_map, List.length_range])
  unfold PkD.row
  exact h
theorem ent_low {j : Nat} (hj : j < D.texts.length) : ent D.tab D.sides.length j = -1 := by
  refine ent_at (tab_last D) ?_
  unfold PkD.last
  rw [List.getElem?_append_left (by rw [List.length_map, List.length_range]; exact hj), rng_at hj]
theorem ent_low0 {j : Nat} (hj : j ≤ D.sides.length) : ent D.tab D.sides.length (D.texts.length + j) = 0 := by
  refine ent_at (tab_last D) ?_
  unfold PkD.last
  rw [List.getElem?_append_right (by rw [List.length_map, List.length_range]; omega), List.length_map, List.length_range, Nat.add_sub_cancel_left, rng_at (by omega)]
theorem side_own {i : Nat} (h : i < D.texts.length) : D.sides.getD i [] = [(i : Int)] := by
  unfold PkD.sides
  rw [List.getD_eq_getElem?_getD, List.getElem?_append_left (by rw [List.length_map, List.length_range]; exact h), List.getElem?_map, List.getElem?_eq_getElem (by rw [List.length_range]; exact h), List.getElem_range]; rfl
theorem side_grp {g : Nat} : D.sides.getD (D.texts.length + g) [] = D.groups.getD g [] := by
  unfold PkD.sides
  rw [List.getD_eq_getElem?_getD, List.getElem?_append_right (by rw [List.length_map, List.length_range]; omega), List.length_map, List.length_range, Nat.add_sub_cancel_left, List.getD_eq_getElem?_getD]
theorem end_own {i : Nat} (hb : D.bounds.length = D.texts.length) (h : i < D.texts.length) : D.ends.getD i 0 = D.bounds.getD i 0 := by
  unfold PkD.ends
  rw [List.getD_eq_getElem?_getD, List.getElem?_append_left (by omega), List.getD_eq_getElem?_getD]
theorem end_grp {g : Nat} (hb : D.bounds.length = D.texts.length) (h : g < D.groups.length) : D.ends.getD (D.texts.length + g) 0 = D.lev := by
  unfold PkD.ends
  rw [List.getD_eq_getElem?_getD, List.getElem?_append_right (by omega), hb, Nat.add_sub_cancel_left, List.getElem?_map, List.getElem?_eq_getElem h]; rfl
theorem fct101 : MK.fct 101 < 2 ^ 600 := by decide +kernel
theorem pk_tab {ws : Ws} {rows : Rows} {s : Int × Int} {D : PkD} (ok : PkOk ws rows s D) (wok : WOk ws) (s1 : 0 < s.1) (s2 : 0 < s.2) : Tab D.tab D.sides.length D.texts.length D.unit := by
  obtain ⟨u, v, u0, v0, U1, U2, hb, hl⟩ := ok.unit
  have tp := tot_pos wok.pos wok.one
  have l1 : 0 < (lmin s).1 := by unfold lmin; split <;> simp_all
  have l12 : (lmin s).1 ≤ (lmin s).2 := by unfold lmin; split <;> simp_all; omega
  have Upos : 0 < D.unit := by rw [U1]; exact Int.mul_pos tp u0
  have sl := sides_len D
  have z1 := ok.sz.texts
  have z2 := ok.sz.groups
  have z3 := ok.sz.bounds
  have lev : 0 ≤ D.lev ∧ D.lev ≤ D.unit := by
    rw [hl, U2]
    exact ⟨Int.mul_nonneg (by omega) (by omega), Int.mul_le_mul_of_nonneg_right l12 (by omega)⟩
  have bnd : ∀ i, i < D.texts.length → 0 ≤ D.bounds.getD i 0 ∧ D.bounds.getD i 0 ≤ D.unit := fun i hi => by
    have wl : i < ws.length := by rw [ok.texts, List.length_map] at hi; exact hi
    rw [hb, List.getD_eq_getElem?_getD, List.getElem?_map, List.getElem?_eq_getElem wl]
    show 0 ≤ ws[i].2 * u ∧ ws[i].2 * u ≤ D.unit
    have p := wok.pos _ (List.getElem_mem wl)
    have q := tot_ge (fun x hx => by have := wok.pos x hx; omega) (List.getElem_mem wl)
    rw [U1]
    exact ⟨Int.mul_nonneg (by omega) (by omega), Int.mul_le_mul_of_nonneg_right q (by omega)⟩
  have endB : ∀ i, i < D.sides.length → 0 ≤ D.ends.getD i 0 ∧ D.ends.getD i 0 ≤ D.unit := fun i hi => by
    by_cases c : i < D.texts.length
    · rw [end_own D z3 c]; exact bnd i c
    · have := end_grp D (g := i - D.texts.length) z3 (by omega)
      rw [show D.texts.length + (i - D.texts.length) = i by omega] at this
      rw [this]; exact lev
  refine ⟨⟨?_, fun r hr => ?_⟩, ⟨⟨fun i hi k hk => ?_, fun i hi => ?_, fun k hk j hj => ?_, fun j hj => ?_⟩, fun j hj => ent_low D hj, ent_low0 D (Nat.le_refl _)⟩, fun k hk j hj => ?_, fun k hk => ?_, Upos, ?_, by omega, by omega⟩
  · unfold PkD.tab; rw [List.length_append, List.length_map, List.length_range]; rfl
  · unfold PkD.tab at hr
    rcases List.mem_append.mp hr with h | h
    · obtain ⟨i, _, rfl⟩ := List.mem_map.mp h
      unfold PkD.row
      rw [List.length_append, List.length_append, List.length_map, List.length_range, List.length_map, List.length_range]; rfl
    · rw [List.mem_singleton] at h; rw [h]
      unfold PkD.last
      rw [List.length_append, List.length_map, List.length_range, List.length_map, List.length_range]; rfl
  · by_cases c : k = D.sides.length
    · rw [c, ent_low0 D (by omega), if_neg (by omega)]
    · rw [ent_slack D (by omega) hi]
      by_cases e : i = k
      · rw [if_pos e, if_pos e.symm]
      · rw [if_neg e, if_neg (Ne.symm e)]
  · rw [ent_end D hi]; exact (endB i hi).1
  · by_cases c : j < D.texts.length
    · rw [ent_own D hk c]; split <;> omega
    · have := ent_slack D (i := k) (j := j - D.texts.length) hk (by omega)
      rw [show D.texts.length + (j - D.texts.length) = j by omega] at this
      rw [this]; split <;> omega
  · refine ⟨j, by omega, ?_⟩
    rw [ent_own D (by omega) hj, side_own D hj, if_pos (List.mem_singleton.mpr rfl)]; omega
  · by_cases e : k = D.sides.length
    · by_cases c : j < D.texts.length
      · rw [e, ent_low D c]; omega
      · have := ent_low0 D (j := j - D.texts.length) (by omega)
        rw [show D.texts.length + (j - D.texts.length) = j by omega] at this
        rw [e, this]; omega
    · by_cases c : j < D.texts.length
      · rw [ent_own D (by omega) c]; split <;> omega
      · have := ent_slack D (i := k) (j := j - D.texts.length) (by omega) (by omega)
        rw [show D.texts.length + (j - D.texts.length) = j by omega] at this
        rw [this]; split <;> omega
  · by_cases e : k = D.sides.length
    · rw [e, ent_low0 D (Nat.le_refl _)]; omega
    · rw [ent_end D (by omega)]
      have := endB k (by omega); omega
  · have f1 : MK.fct (D.sides.length + 1) ≤ MK.fct 101 := MK.fct_le (by omega)
    have f0 := MK.fct_pos (D.sides.length + 1)
    have f2 := fct101
    have ub : Bd 1000 D.unit := ok.ub
    have b1 : Bd 600 (MK.fct (D.sides.length + 1)) := by
      unfold Bd
      have : ((MK.fct (D.sides.length + 1)).natAbs : Int) < 2 ^ 600 := by omega
      exact_mod_cast this
    exact (bd_mul b1 ub).mono (by decide)
end
end MH
/-! part D22 -/
set_option Elab.async false
set_option linter.all false
set_option maxRecDepth 100000
set_option maxHeartbeats 4000000
namespace MH
open PySem PySem.Spec PyProof.Rows L2
/-- solved -/
structure Slv (ws : Ws) (rows : Rows) (s : Int × Int) (D : PkD) (t : MK.TS) : Prop where
  pk : PkOk ws rows s D
  ok : MK.TOk D.sides.length D.texts.length (ent D.tab) t
  best : MK.Best D.sides.length D.texts.length t
/-- what a solving needs -/
structure Ask (K : Fr) (H : Hp) (u v l : V) (ws : Ws) (rows : Rows) (pool : List Str) (s : Int × Int) : Prop where
  src : RSrc K H u ws
  wok : WOk ws
  chg : RChg K H v rows
  lev : RSh K H l s
  nd : (rows.map (·.1)).Nodup
  rok : ∀ r ∈ rows, RowOk pool r
  pool : pool.length < 60
  sub : ∀ t ∈ ws.map (·.1), t ∈ rows.map (·.1)
  s1 : 0 < s.1
  s2 : 0 < s.2
  b1 : Bd 100 s.1
  b2 : Bd 100 s.2
  bt : Bd 100 (tot ws)
theorem Ask.up {K : Fr} {H H' : Hp} {u v l : V} {ws : Ws} {rows : Rows} {pool : List Str} {s : Int × Int} (e : Same H H') (h : Ask K H u v l ws rows pool s) : Ask K H' u v l ws rows pool s :=
  ⟨Mo.up e h.src, h.wok, Mo.up e h.chg, Mo.up e h.lev, h.nd, h.rok, h.pool, h.sub, h.s1, h.s2, h.b1, h.b2, h.bt⟩
section
variable {P : Program} {w : World} {K : Fr} {mg : Str → Option Value} {base : Heap}
theorem packing_make {H1 : Hp} {Q : VK} {E : XK} {u v l : V} {ws : Ws} {rows : Rows} {pool : List Str} {s : Int × Int} {x dx : Addr} (nx : H1 x = none) (nd : H1 dx = none) (ne : dx ≠ x) (a : Ask K H1 u v l ws rows pool s)
    (k : ∀ H2 D, Same H1 H2 → PkAt K H2 x D → PkOk ws rows s D → Q .non H2) :
    sp_Packing___init K (.ref x :: ([u, v, l] ++ [])) (upd (upd H1 dx (.own x)) x (.ins (He.ga K "Packing") dx [])) Q E := by
  have e0 : Same H1 (hid x (upd (upd H1 dx (.own x)) x (.ins (He.ga K "Packing") dx []))) := same_to_hid ((same_new nd).trans (same_new (by rw [upd_ne (Ne.symm ne)]; exact nx))) nx
  refine ⟨rfl, x, dx, u, v, l, ws, rows, pool, s, rfl, upd_same, Mo.up e0 a.src, a.wok, Mo.up e0 a.chg, Mo.up e0 a.lev, a.nd, a.rok, a.pool, a.sub, a.s1, a.s2, a.b1, a.b2, a.bt, fun H' D old pk ok => k H' D (fun y o h => ?_) pk ok⟩
  have := e0 y o h
  obtain ⟨n, h2⟩ := hid_some this
  exact old y o n h2
theorem solver_make {H1 : Hp} {Q : VK} {E : XK} {r : Addr} {vs0 : List V} {T0 : List (List Int)} {m n : Nat} {C : Int} {x dx : Addr} (nx : H1 x = none) (nd : H1 dx = none) (ne : dx ≠ x) (hr : H1 r = some (.lst vs0)) (hp : Paired (RLst RInt H1) vs0 T0) (tb : Tab T0 m n C)
    (k : ∀ H2 T d B s, Same H1 H2 → Sol K T0 m n H2 x T d B s → Q .non H2) :
    sp_Solver___init K (.ref x :: ([.ref r, .int n] ++ [])) (upd (upd H1 dx (.own x)) x (.ins (He.ga K "Solver") dx [])) Q E := by
  have e0 : Same H1 (hid x (upd (upd H1 dx (.own x)) x (.ins (He.ga K "Solver") dx []))) := same_to_hid ((same_new nd).trans (same_new (by rw [upd_ne (Ne.symm ne)]; exact nx))) nx
  refine ⟨rfl, x, dx, r, T0, vs0, m, n, C, rfl, upd_same, same_hid _ _ (e0 _ _ hr), paired_up hp fun _ _ => Mo.up e0, tb, fun H' T d B s sol old => k H' T d B s (fun y o h => ?_) sol⟩
  obtain ⟨n, h2⟩ := hid_some (e0 y o h)
  exact old y o n h2
def sp_solved (K : Fr) : Sp := spx 3 fun vs H Q _ => ∃ (u v l : V) (ws : Ws) (rows : Rows) (pool : List Str) (s : Int × Int), vs = [u, v, l] ∧ Ask K H u v l ws rows pool s ∧
  ∀ (o p q : Addr) (D : PkD) T d B t H', Same H H' → H' o = some (.tup [.ref p, .ref q]) → PkAt K H' p D → Sol K D.tab D.sides.length D.texts.length H' q T d B t → PkOk ws rows s D → Q (.ref o) H'
theorem sc_solved : FnScope ["source", "changes", "level", "packing"] ["source", "changes", "level"] (defScope s_solved) := ⟨rfl, rfl, rfl, by decide +kernel, rfl, by decide +kernel, by decide +kernel⟩
theorem c_solved (T : Tx K mg) (G_Packing___init : Mak P w K mg base 5 "Packing" (He.ga K "Packing") ["self", "source", "changes", "level"] (sp_Packing___init K)) (G_Solver___init : Mak P w K mg base 2 "Solver" (He.ga K "Solver") ["self", "rows", "many"] (sp_Solver___init K)) (G_Packing_table : Met P w K mg base 1 (He.ga K "Packing") "table" ["self"] (sp_Packing_table K)) : Cal P w K mg base 7 "_solved" ["source", "changes", "level"] (sp_solved K) := by
  refine T.cal 22 rfl 6 rfl sc_solved (fun _ _ _ _ h => h.1) (fun _ _ _ _ _ _ us hl => match us, hl with | [_, _, _], _ => rfl) (fun cdv A outer s H vs Q E hr h => ?_)
  have nd := sc_solved.nd
  have hu := hu_of hr
  refine ⟨_, (pss_cons (ps_set (i := 3) nd rfl (Or.inl rfl) (pe_mak G_Packing___init (hr.mono (by decide)) (pa_cons (pv 0) (pa_cons (pv 1) (pa_cons (pv 2) pa_nil)))))
      (pss_one (ps_ret (pe_tup (pa_cons (pv 3) (pa_cons (pe_mak G_Solver___init (hr.mono (by decide)) (pa_cons (pe_met0 G_Packing_table (hr.mono (by decide)) (pv 3)) (pa_cons (pe_callB (call_lenK (K := K)) (by rfl) T.f_len (by decide +kernel) (pa_cons (pe_fldK (K := K) (pv 3) rfl) pa_nil)) pa_nil))) pa_nil)))))), ?_⟩
  obtain ⟨_, u, v, l, ws, rows, pool, s, rfl, a, k⟩ := h
  refine ⟨_, rfl, _, rfl, _, rfl, fun p dp np ndp nep => packing_make np ndp nep a fun H1 D e1 pk ok => ⟨rfl, ?_⟩⟩
  obtain ⟨dx, vt, vb, vr, vg, vd, h0, ht, _⟩ := id pk
  obtain ⟨at_, rfl, hat⟩ := ht.strs
  have tb := pk_tab ok a.wok a.s1 a.s2
  refine ⟨_, rfl, _, rfl, p, dx, _, rfl, h0, rfl, rfl, p, D, rfl, pk, ok.sz, fun r vs' H2 e2 hr hp => ?_⟩
  refine ⟨_, rfl, p, _, dx, _, _, rfl, e2 _ _ h0, T.cl_Packing, T.n_Packing_texts, rfl, at_, _, rfl, .inr (SqT.of (e2 _ _ hat)), ?_⟩
  rw [List.length_map]
  refine fun q dq nq ndq neq => solver_make nq ndq neq hr hp tb fun H3 T1 d B t e3 sol => ⟨rfl, ?_⟩
  refine ⟨by show 2 ≤ sizeLine; decide, fun o ho => ?_⟩
  have e4 : Same H3 (upd H3 o (.tup [.ref p, .ref q])) := same_new ho
  refine k o p q D T1 d B t _ (((e1.trans e2).trans e3).trans e4) upd_same (pk.up ((e2.trans e3).trans e4)) ⟨sol.at_.up e4, sol.ag, sol.ok, sol.best⟩ ok
def sp_worth (K : Fr) : Sp := spx 3 fun vs H Q _ => ∃ (u v l : V) (ws : Ws) (rows : Rows) (pool : List Str) (s : Int × Int), vs = [u, v, l] ∧ Ask K H u v l ws rows pool s ∧
  ∀ (D : PkD) t r H', Same H H' → Slv ws rows s D t → RSh K (fr H H') r (shr (t.T D.sides.length (D.texts.length + D.sides.length)) (t.d * D.unit)) → Bd 3000 (t.T D.sides.length (D.texts.length + D.sides.length)) → Bd 3000 t.d → Q r H'
theorem sc_worth : FnScope ["source", "changes", "level", "packing", "solver"] ["source", "changes", "level"] (defScope s_worth) := ⟨rfl, rfl, rfl, by decide +kernel, rfl, by decide +kernel, by decide +kernel⟩
theorem c_worth (T : Tx K mg) (G_solved : Cal P w K mg base 7 "_solved" ["source", "changes", "level"] (sp_solved K)) (G_Share___init : Mak P w K mg base 2 "Share" (He.ga K "Share") ["self", "over", "under"] (sp_Share___init K)) : Cal P w K mg base 8 "worth" ["source", "changes", "level"] (sp_worth K) := by
  refine T.cal 23 rfl 7 rfl sc_worth (fun _ _ _ _ h => h.1) (fun _ _ _ _ _ _ us hl => match us, hl with | [_, _, _], _ => rfl) (fun cdv A outer s H vs Q E hr h => ?_)
  have nd := sc_worth.nd
  have hu := hu_of hr
  refine ⟨_, (pss_cons (ps_asg (pe_cal G_solved (hr.mono (by decide)) (pa_cons (pv 0) (pa_cons (pv 1) (pa_cons (pv 2) pa_nil)))) (pg_tupK (K := K) 2 rfl (pgs_cons (pg_name (i := 3) nd rfl (Or.inl rfl)) (pgs_cons (pg_name (i := 4) nd rfl (Or.inl rfl)) pgs_nil))))
      (pss_one (ps_ret (pe_mak G_Share___init (hr.mono (by decide)) (pa_cons (pe_ix (ix_listK (K := K)) (pe_ix (ix_listK (K := K)) (pe_fldK (K := K) (pv 4) rfl) (pe_un un_neg pe_int) (fun _ _ => rfl)) (pe_un un_neg pe_int) (fun _ _ => rfl)) (pa_cons (pe_op op_mulW (pe_fldK (K := K) (pv 4) rfl) (pe_fldK (K := K) (pv 3) rfl)) pa_nil)))))), ?_⟩
  obtain ⟨_, u, v, l, ws, rows, pool, s, rfl, a, k⟩ := h
  refine ⟨_, rfl, _, rfl, _, rfl, rfl, u, v, l, ws, rows, pool, s, rfl, a, fun o p q D T1 d B t H1 e1 ho pk sol ok => ?_⟩
  have tb := pk_tab ok a.wok a.s1 a.s2
  obtain ⟨bd, dp, dbd⟩ := sol.ag.bd tb sol.ok
  obtain ⟨dx, vt, vb, vr, vg, vd, h0, _⟩ := id pk
  obtain ⟨b, sdx, ra, vs, s1, s2, s3', s4, s5⟩ := sol.at_
  have s3 := paired_up s3' fun _ _ => Mo.up (R := RLst RInt) (same_hid (a := b) (H := H1))
  have vl := paired_len s3
  have tl := sol.ag.shp.len
  obtain ⟨ar, r1, r2, r3, r4, r5, r6⟩ := rows_at s3 sol.ag.shp (Nat.le_refl D.sides.length)
  have m0 := sol.ag.ent D.sides.length (Nat.le_refl _) (D.texts.length + D.sides.length) (Nat.le_refl _)
  obtain ⟨u0, v0, u0', v0', U1, U2, _, _⟩ := ok.unit
  have Up : 0 < D.unit := by rw [U1]; exact Int.mul_pos (tot_pos a.wok.pos a.wok.one) u0'
  refine ⟨o, _, rfl, SqT.of ho, rfl, _, _, rfl, _, _, rfl, rfl, ?_⟩
  refine ⟨_, rfl, q, _, sdx, _, _, rfl, s1, T.cl_Solver, T.n_Solver_rows, lk_eq, 1, rfl, ra, _, -1, _, rfl, rfl, SqL.of s2, atI_last (by rw [vl, tl]; exact r1) (by omega), 1, rfl, ar, _, -1, _, rfl, rfl, SqL.of r2, r5, _, rfl, q, _, sdx, _, _, rfl, s1, T.cl_Solver, T.n_Solver_divisor, (lk_ne (by decide +kernel)).trans lk_eq, _, rfl, p, _, dx, _, _, rfl, h0, T.cl_Packing, T.n_Packing_unit, rfl, _, _, rfl, rfl, wmul dbd ok.ub (by decide), ?_⟩
  refine fun x dx nx nd ne => share_make nx nd ne (Int.mul_pos dp Up) ((bd_mul dbd ok.ub).mono (by decide)) fun H2 e r => ⟨rfl, ?_⟩
  refine k D t _ H2 (e1.trans e) ⟨ok, sol.ok, sol.best⟩ ?_ ?_ ?_
  · rw [← m0, ← sol.ag.d]; exact Mo.up (fr_old e1) r
  · rw [← m0]; exact bd.bd _ (Nat.le_refl _) _ (Nat.le_refl _)
  · rw [← sol.ag.d]; exact dbd
end
end MH
/-! part D23 -/
set_option Elab.async false
set_option linter.all false
set_option maxRecDepth 100000
set_option maxHeartbeats 4000000
namespace MH
open PySem PySem.Spec PyProof.Rows L2
/-- the marking is unseen for the source, its accused shares are not above the level -/
structure Fit (ws : Ws) (s : Int × Int) (pool : List Str) (es : Ents) : Prop where
  ok : EOk es
  sub : ∀ e ∈ es, e.2.1 ∈ ws.map (·.1)
  seen : ∀ t, psum (prs es) t * tot ws = wof ws t * topE es
  acc : ∀ t, acs es t * s.2 ≤ s.1 * topE es
  acp : ∀ e ∈ es, ∀ t ∈ e.2.2, t ∈ pool
section
variable {P : Program} {w : World} {K : Fr} {mg : Str → Option Value} {base : Heap}
/-- worth less found -/
def gapV (D : PkD) (t : MK.TS) (f tt : Int) : Int × Int :=
  let a := shr (t.T D.sides.length (D.texts.length + D.sides.length)) (t.d * D.unit)
  let b := shr f tt
  shr (a.1 * b.2 - b.1 * a.2) (a.2 * b.2)
theorem fnd_le (rd : Str → List Str) : ∀ {es : Ents}, (∀ e ∈ es, 1 ≤ e.1) → 0 ≤ fnd rd es ∧ fnd rd es ≤ topE es
  | [], _ => ⟨Int.le_refl _, Int.le_refl _⟩
  | (n, t, ac) :: r, h => by
    obtain ⟨a, b⟩ := fnd_le rd (es := r) fun e he => h e (List.mem_cons_of_mem _ he)
    have n1 : 1 ≤ n := h _ List.mem_cons_self
    show 0 ≤ (if (rd t).all (fun x => decide (x ∈ ac)) = true then n else 0) + fnd rd r ∧ (if (rd t).all (fun x => decide (x ∈ ac)) = true then n else 0) + fnd rd r ≤ n + topE r
    split <;> omega
theorem slv_bd {ws : Ws} {rows : Rows} {s : Int × Int} {D : PkD} {t : MK.TS} (h : Slv ws rows s D t) (wok : WOk ws) (s1 : 0 < s.1) (s2 : 0 < s.2) : Bd 600 t.d ∧ ∀ i j, i ≤ D.sides.length → j ≤ D.texts.length + D.sides.length → Bd 1700 (t.T i j) := by
  have tb := pk_tab h.pk wok s1 s2
  have f1 : MK.fct (D.sides.length + 1) ≤ MK.fct 101 := MK.fct_le (by have := tb.mb; omega)
  have f0 := MK.fct_pos (D.sides.length + 1)
  have f2 := fct101
  have dp := h.ok.dpos
  have db := MK.d_bound h.ok tb.small
  have b1 : Bd 600 (MK.fct (D.sides.length + 1)) := by
    unfold Bd
    have : ((MK.fct (D.sides.length + 1)).natAbs : Int) < 2 ^ 600 := by omega
    exact_mod_cast this
  have b2 := bd_mul b1 h.pk.ub
  refine ⟨?_, fun i j hi hj => ?_⟩
  · unfold Bd at *; omega
  · have e := MK.entry_bound h.ok tb.one tb.small tb.rhs hi hj
    refine Bd.mono (n := 1600) ?_ (by decide)
    have q : 0 ≤ MK.fct (D.sides.length + 1) * D.unit := Int.mul_nonneg (by omega) (by have := tb.one; omega)
    generalize t.T i j = x at *
    generalize MK.fct (D.sides.length + 1) * D.unit = y at *
    unfold Bd at *
    omega
def sp_gap (K : Fr) : Sp := spx 4 fun vs H Q _ => ∃ (u v l m : V) (ws : Ws) (rows : Rows) (pool : List Str) (s : Int × Int) (es : Ents), vs = [u, v, l, m] ∧ Ask K H u v l ws rows pool s ∧ rows.length ≤ 60 ∧ RMrk K H m es ∧ Fit ws s pool es ∧
  ∀ (D : PkD) t r H', Same H H' → Slv ws rows s D t → RSh K (fr H H') r (gapV D t (fnd (rdOf rows) es) (topE es)) → Q r H'
theorem sc_gap : FnScope ["source", "changes", "level", "marking", "seen", "accused"] ["source", "changes", "level", "marking"] (defScope s_gap) := ⟨rfl, rfl, rfl, by decide +kernel, rfl, by decide +kernel, by decide +kernel⟩
theorem c_gap (T : Tx K mg) (G_known : Cal P w K mg base 2 "known" ["source", "changes"] (sp_known K)) (G_seen_at : Cal P w K mg base 5 "seen_at" ["source", "marking"] (sp_seen_at K)) (G_accused_at : Cal P w K mg base 4 "accused_at" ["marking", "level"] (sp_accused_at K)) (G_worth : Cal P w K mg base 8 "worth" ["source", "changes", "level"] (sp_worth K)) (G_found_share : Cal P w K mg base 4 "found_share" ["changes", "marking"] (sp_found_share K)) (G_Share___sub : Met P w K mg base 4 (He.ga K "Share") "__sub__" ["self", "other"] (sp_Share___sub K)) : Cal P w K mg base 9 "gap" ["source", "changes", "level", "marking"] (sp_gap K) := by
  refine T.cal 45 rfl 17 rfl sc_gap (fun _ _ _ _ h => h.1) (fun _ _ _ _ _ _ us hl => match us, hl with | [_, _, _, _], _ => rfl) (fun cdv A outer s H vs Q E hr h => ?_)
  have nd := sc_gap.nd
  have hu := hu_of hr
  refine ⟨_, (pss_cons (ps_expr (pe_cal G_known (hr.mono (by decide)) (pa_cons (pv 0) (pa_cons (pv 1) pa_nil))))
      (pss_cons (ps_set (i := 4) nd rfl (Or.inl rfl) (pe_cal G_seen_at (hr.mono (by decide)) (pa_cons (pv 0) (pa_cons (pv 3) pa_nil))))
      (pss_cons (ps_if (pt_cmpR op_notN (pv 4) pe_non (nomark _)) (pss_one ps_never) pss_nil)
      (pss_cons (ps_set (i := 5) nd rfl (Or.inl rfl) (pe_cal G_accused_at (hr.mono (by decide)) (pa_cons (pv 3) (pa_cons (pv 2) pa_nil))))
      (pss_cons (ps_if (pt_cmpR op_notN (pv 5) pe_non (nomark _)) (pss_one ps_never) pss_nil)
      (pss_one (ps_ret (pe_op (op_subShare (j := 0) T G_Share___sub (hr.mono (by decide))) (pe_cal G_worth (hr.mono (by decide)) (pa_cons (pv 0) (pa_cons (pv 1) (pa_cons (pv 2) pa_nil)))) (pe_cal G_found_share (hr.mono (by decide)) (pa_cons (pv 1) (pa_cons (pv 3) pa_nil))))))))))), ?_⟩
  obtain ⟨_, u, v, l, m, ws, rows, pool, s, es, rfl, a, rl, ⟨mp, rfl, hm⟩, ft, k⟩ := h
  obtain ⟨sp, rfl, hsp⟩ := id a.src
  obtain ⟨cp, rfl, hcp⟩ := id a.chg
  have eok := ft.ok
  refine ⟨_, rfl, _, rfl, rfl, .ref sp, .ref cp, ws, rows, rfl, a.src, a.wok, a.chg, a.nd, a.sub, fun H1 e1 => ?_⟩
  refine ⟨_, rfl, _, rfl, rfl, sp, mp, ws, es, rfl, hsp.imp (SrcAt.up e1) (SrcAt.up e1), a.wok, hm.up e1, eok, a.bt.mono (by decide), ft.sub, ft.seen, fun H2 e2 => ?_⟩
  refine ⟨_, rfl, rfl, _, rfl, iteF ?_⟩
  have e02 := e1.trans e2
  refine ⟨_, rfl, _, rfl, rfl, mp, l, es, pool, s, rfl, hm.up e02, eok, ft.acp, (by have := a.pool; omega), Mo.up e02 a.lev, a.b1.mono (by decide), a.b2.mono (by decide), ft.acc, fun H3 e3 => ?_⟩
  refine ⟨_, rfl, rfl, _, rfl, iteF ?_⟩
  have e03 := e02.trans e3
  refine ⟨_, rfl, _, rfl, _, rfl, rfl, .ref sp, .ref cp, l, ws, rows, pool, s, rfl, a.up e03, fun D t r H4 e4 slv hr _ _ => ?_⟩
  have e04 := e03.trans e4
  refine ⟨_, rfl, _, rfl, rfl, cp, mp, rows, pool, es, rfl, hcp.up e04, a.nd, rl, a.rok, hm.up e04, eok, fun e he => a.sub _ (ft.sub e he), fun f H5 e5 hf => ?_⟩
  have r5 := Mo.up (same_fr.trans e5) hr
  have f5 := Mo.up same_fr hf
  obtain ⟨x1, d1, rfl, g1⟩ := id r5
  obtain ⟨x2, d2, rfl, g2⟩ := id f5
  have tp := topE_pos eok
  have dp := slv.ok.dpos
  obtain ⟨u0, v0, u0', v0', U1, U2, _, _⟩ := slv.pk.unit
  have Up : 0 < D.unit := by rw [U1]; exact Int.mul_pos (tot_pos a.wok.pos a.wok.one) u0'
  have bU := slv.pk.ub
  have dU : 0 < t.d * D.unit := Int.mul_pos dp Up
  obtain ⟨bd, bT⟩ := slv_bd slv a.wok a.s1 a.s2
  obtain ⟨t1, t2⟩ := shr_bd (n := 2000) dU ((bT _ _ (Nat.le_refl _) (Nat.le_refl _)).mono (by decide)) ((bd_mul bd bU).mono (by decide))
  have fl := fnd_le (rdOf rows) (es := es) fun e he => (eok.pos e he).1
  have tb := topE_le eok
  have bf : Bd 60 (fnd (rdOf rows) es) := by unfold Bd; omega
  obtain ⟨f1, f2⟩ := shr_bd tp bf (topE_bd eok)
  refine ⟨x1, x2, d1, d2, _, _, rfl, rfl, g1, g2, rfl, _, _, _, _, rfl, r5, f5, t1.mono (by decide), t2.mono (by decide), f1.mono (by decide), f2.mono (by decide), shr_pos dU, shr_pos tp, fun y H6 e6 hy => ?_⟩
  obtain ⟨y1, yd, rfl, hy1⟩ := id hy
  exact ⟨⟨_, rfl⟩, k D t _ H6 (e04.trans (e5.trans e6)) slv (Mo.up (fr_old (e04.trans e5)) hy)⟩
end
end MH
/-! part D24 -/
set_option Elab.async false
set_option linter.all false
set_option maxRecDepth 100000
set_option maxHeartbeats 4000000
namespace MH
open PySem PySem.Spec PyProof.Rows L2
/-- a column's value -/
noncomputable def xv (m N : Nat) (t : MK.TS) (c : Nat) : Int := open Classical in if h : ∃ k, k < m ∧ t.B k = c then t.T (Classical.choose h) N else 0
theorem xv_bas {m n : Nat} {A : Nat → Nat → Int} {t : MK.TS} (I : MK.TOk m n A t) {k : Nat} (hk : k < m) (N : Nat) : xv m N t (t.B k) = t.T k N := by
  unfold xv
  have h : ∃ q, q < m ∧ t.B q = t.B k := ⟨k, hk, rfl⟩
  rw [dif_pos h]
  obtain ⟨a, b⟩ := Classical.choose_spec h
  rw [MK.Inv.inj I a hk b]
theorem xv_non {m N : Nat} {t : MK.TS} {c : Nat} (h : ¬ MK.Bas m t c) : xv m N t c = 0 := by
  unfold xv
  exact dif_neg (show ¬ ∃ k, k < m ∧ t.B k = c from h)
theorem xv_vals {m n : Nat} {A : Nat → Nat → Int} {t : MK.TS} (I : MK.TOk m n A t) : MK.Vals m n t (xv m (n + m) t) := ⟨fun k hk => xv_bas I hk _, fun j h => xv_non h⟩
abbrev Prs := List (Str × (Int × Int))
abbrev RPrs (K : Fr) : Rl Prs := RTup (RPr RStr (RSh K))
noncomputable def PkD.best (D : PkD) (t : MK.TS) : Prs := (List.range D.texts.length).map fun i => (D.texts.getD i Str.empty, shr (xv D.sides.length (D.texts.length + D.sides.length) t i) (t.d * D.unit))
section
variable {P : Program} {w : World} {K : Fr} {mg : Str → Option Value} {base : Heap}
def sp_best_row (K : Fr) : Sp := spx 3 fun vs H Q _ => ∃ (u v l : V) (ws : Ws) (rows : Rows) (pool : List Str) (s : Int × Int), vs = [u, v, l] ∧ Ask K H u v l ws rows pool s ∧
  ∀ (D : PkD) t r H', Same H H' → Slv ws rows s D t → RPrs K (fr H H') r (D.best t) → Q r H'
theorem sc_best_row : FnScope ["source", "changes", "level", "packing", "solver", "under", "place", "text"] ["source", "changes", "level"] (defScope s_best_row) := ⟨rfl, rfl, rfl, by decide +kernel, rfl, by decide +kernel, by decide +kernel⟩
theorem c_best_row (T : Tx K mg) (G_solved : Cal P w K mg base 7 "_solved" ["source", "changes", "level"] (sp_solved K)) (G_Share___init : Mak P w K mg base 2 "Share" (He.ga K "Share") ["self", "over", "under"] (sp_Share___init K)) (G_Solver_told : Met P w K mg base 1 (He.ga K "Solver") "told" ["self", "column"] (sp_Solver_told K)) : Cal P w K mg base 8 "best_row" ["source", "changes", "level"] (sp_best_row K) := by
  refine T.cal 24 rfl 8 rfl sc_best_row (fun _ _ _ _ h => h.1) (fun _ _ _ _ _ _ us hl => match us, hl with | [_, _, _], _ => rfl) (fun cdv A outer s H vs Q E hr h => ?_)
  have nd := sc_best_row.nd
  have hu := hu_of hr
  refine ⟨_, (pss_cons (ps_asg (pe_cal G_solved (hr.mono (by decide)) (pa_cons (pv 0) (pa_cons (pv 1) (pa_cons (pv 2) pa_nil)))) (pg_tupK (K := K) 2 rfl (pgs_cons (pg_name (i := 3) nd rfl (Or.inl rfl)) (pgs_cons (pg_name (i := 4) nd rfl (Or.inr rfl)) pgs_nil))))
      (pss_cons (ps_set (i := 5) nd rfl (Or.inr rfl) (pe_op op_mulW (pe_fldK (K := K) (pv 4) rfl) (pe_fldK (K := K) (pv 3) rfl)))
      (pss_one (ps_ret (pe_callTy call_tuple_of (by rfl) T.f_tuple (by decide +kernel) (pa_cons (pe_lc (own := [("place", 6), ("text", 7)]) (g := (gTup K 2 (gCons (gName 6) (gCons (gName 7) gNil)))) (tt := tYes) (by rfl) nd (pi_enumK (by rfl) T.f_enumerate (pa_cons (pe_fldK (K := K) (pv 3) rfl) pa_nil)) (blkOk_by (own := [("place", 6), ("text", 7)]) (N := ["source", "changes", "level", "packing", "solver", "under", "place", "text"]) (sc := defScope s_best_row) (by decide +kernel)) (fun _ _ _ _ _ => (pg_tupK (K := K) 2 rfl (pgs_cons (pg_name (i := 6) nd rfl (Or.inl rfl)) (pgs_cons (pg_name (i := 7) nd rfl (Or.inl rfl)) pgs_nil)))) (fun _ _ _ _ _ => pts_nil) (fun _ _ _ _ _ => (pe_tup (pa_cons (pv 7) (pa_cons (pe_mak G_Share___init (hr.mono (by decide)) (pa_cons (pe_met G_Solver_told (hr.mono (by decide)) (pv 4) (pa_cons (pv 6) pa_nil)) (pa_cons (pv 5) pa_nil))) pa_nil))))) pa_nil)))))), ?_⟩
  obtain ⟨_, u, v, l, ws, rows, pool, s, rfl, a, k⟩ := h
  refine ⟨_, rfl, _, rfl, _, rfl, rfl, u, v, l, ws, rows, pool, s, rfl, a, fun o p q D T1 d B t H1 e1 ho pk sol ok => ?_⟩
  have slv : Slv ws rows s D t := ⟨ok, sol.ok, sol.best⟩
  obtain ⟨dbd, tbd⟩ := slv_bd slv a.wok a.s1 a.s2
  have dp := sol.ok.dpos
  have ag := sol.ag
  have tb := pk_tab ok a.wok a.s1 a.s2
  have nb := tb.nb
  obtain ⟨dx, vt, vb, vr, vg, vd, h0, ht, _⟩ := id pk
  obtain ⟨at_, rfl, hat⟩ := ht.strs
  obtain ⟨b, sdx, ra, vs, s1, s2, s3', s4, s5⟩ := id sol.at_
  obtain ⟨u0, v0, u0', v0', U1, U2, _, _⟩ := ok.unit
  have Up : 0 < D.unit := by rw [U1]; exact Int.mul_pos (tot_pos a.wok.pos a.wok.one) u0'
  have ed := ag.d
  have dU : 0 < t.d * D.unit := Int.mul_pos dp Up
  have bdU : Bd 1600 (t.d * D.unit) := bd_mul dbd ok.ub
  refine ⟨o, _, rfl, SqT.of ho, rfl, _, _, rfl, _, _, rfl, rfl, ?_⟩
  refine ⟨_, rfl, q, _, sdx, _, _, rfl, s1, T.cl_Solver, T.n_Solver_divisor, (lk_ne (by decide +kernel)).trans lk_eq, _, rfl, p, _, dx, _, _, rfl, h0, T.cl_Packing, T.n_Packing_unit, rfl, _, _, rfl, rfl, by rw [ed]; exact wmul dbd ok.ub (by decide), ?_⟩
  rw [ed]
  refine ⟨_, rfl, p, _, dx, _, _, rfl, h0, T.cl_Packing, T.n_Packing_texts, rfl, .t at_, D.texts.map V.str, rfl, SqT.of hat, fun C hC => ?_⟩
  refine lc_new (n := (D.texts.map V.str).length) walk_enumK (stepS H1) (RPr RStr (RSh K)) (fun i bs => bs = (D.best t).take i) hC (fun H' e => SqT.of (e _ _ hat)) (fun i H x H' y => yPair_same y) (by rw [List.length_map]; exact sz_lt (by omega)) rfl (fun i y bs G1 G2 Kc Rc hi hb f1 f2 _ hy k1 _ => ?_) (fun H5 ys bs e5 hv5 hr5 hbs => ?_)
  · obtain ⟨TT, x1, x2, rfl, hTT, rfl, hx1, hx2⟩ := hy
    have hx1 : some (V.int (i : Int)) = some x1 := hx1
    cases hx1
    obtain ⟨tx, htx, rfl⟩ := map_some hx2
    have il : i < D.texts.length := (List.getElem?_eq_some_iff.mp htx).1
    refine ⟨TT, _, rfl, SqT.of upd_same, rfl, _, _, rfl, _, _, rfl, rfl, rfl, yes_t ?_⟩
    generalize hG : upd G1 TT (.tup [.int (i : Nat), V.str tx]) = G2 at f2 k1 ⊢
    have fin : ∀ {xx : Int}, xx = xv D.sides.length (D.texts.length + D.sides.length) t i → ∀ (x dx : Addr), G2 x = none → G2 dx = none → dx ≠ x → sp_Share___init K (.ref x :: ([.int xx, .int (t.d * D.unit)] ++ [])) (upd (upd G2 dx (.own x)) x (.ins (He.ga K "Share") dx [])) (fun v H' => v = .non ∧ tNil (L2.start (["source", "changes", "level", "packing", "solver", "under"] : List Str) []) H' fun xs H2 => (V.str tx :: V.ref x :: xs).length ≤ sizeLine ∧ ∀ p, H2 p = none → Kc (.ref p) (upd H2 p (.tup (V.str tx :: V.ref x :: xs)))) E0 := fun {xx} exx x dx nx nd ne =>
      share_make nx nd ne dU (bdU.mono (by decide)) fun H2 e r => ⟨rfl, by show 2 ≤ sizeLine; decide, fun p0 hp0 => k1 (tx, shr xx (t.d * D.unit)) _ _ (e.trans (same_new hp0)) ⟨p0, _, _, rfl, by rw [fr_at (e.free hp0), upd_same], rfl, Mo.up (fr_up (same_new hp0)) r⟩ (by
        rw [hb, exx, take_more]
        unfold PkD.best
        rw [List.getElem?_map, List.getElem?_eq_getElem (by rw [List.length_range]; exact il), List.getElem_range]
        show some (D.texts.getD i Str.empty, _) = some (tx, _)
        rw [List.getD_eq_getElem?_getD, htx]; rfl)⟩
    refine ⟨_, rfl, _, rfl, q, sdx, _, rfl, f2 _ _ s1, rfl, _, rfl, rfl, q, i, T1, d, B, D.sides.length, D.texts.length + D.sides.length, rfl, sol.at_.up f2, ag.shp, ag.len, fun r hr _ => ⟨_, rfl, ?_⟩, fun hn => ⟨_, rfl, ?_⟩⟩
    · have rm : r < D.sides.length := by rw [← ag.len]; exact (List.getElem?_eq_some_iff.mp hr).1
      have br : t.B r = i := by have := ag.bas r rm; rw [hr] at this; exact (Option.some.inj this).symm
      refine fin ?_
      rw [ag.ent r (by omega) _ (Nat.le_refl _), ← br, xv_bas sol.ok rm]
    · refine fin (xv_non fun ⟨k', hk', ek⟩ => hn ?_).symm
      have := ag.bas k' hk'
      rw [ek] at this
      exact List.mem_of_getElem? this
  · have bl : (D.best t).length = D.texts.length := by unfold PkD.best; rw [List.length_map, List.length_range]
    rw [List.length_map, List.take_of_length_le (by omega)] at hbs
    obtain ⟨c', vs5, ec, hc5, hp5⟩ := hr5
    cases ec
    refine ⟨C, _, rfl, .inl ⟨SqL.of hv5, fun r hr => ?_⟩⟩
    have yy : ys = vs5 := by have := hv5.symm.trans (same_fr _ _ hc5); injection this with z; injection z
    subst yy; subst hbs
    refine k D t (.ref r) _ (e1.trans (e5.trans (same_new hr))) slv ⟨r, ys, rfl, by rw [fr_at ((e1.trans e5).free hr), upd_same], paired_up hp5 fun _ _ => Mo.up ((fr_up (same_new hr)).trans (fr_old e1))⟩
end
end MH
/-! part D25 -/
set_option Elab.async false
set_option linter.all false
set_option maxRecDepth 100000
set_option maxHeartbeats 4000000
namespace MH
open PySem PySem.Spec PyProof.Rows L2
section
variable {P : Program} {w : World} {K : Fr} {mg : Str → Option Value} {base : Heap}
/-- the prices: of the texts, of the readable ones -/
def PkD.own (D : PkD) (t : MK.TS) : Prs := (List.range D.texts.length).map fun i => (D.texts.getD i Str.empty, shr (t.T D.sides.length (D.texts.length + i)) t.d)
def PkD.asked (D : PkD) (t : MK.TS) : Prs := (List.range D.readers.length).map fun g => (D.readers.getD g Str.empty, shr (t.T D.sides.length (2 * D.texts.length + g)) t.d)
def PkD.others (D : PkD) (t : MK.TS) : Prs := D.readable.map fun r => (r, (((D.asked t).find? fun y => decide (y.1 = r)).map (·.2)).getD (0, 1))
theorem asked_keys (D : PkD) (t : MK.TS) : (D.asked t).map (·.1) = D.readers := by
  unfold PkD.asked
  rw [List.map_map]
  refine List.ext_getElem (by rw [List.length_map, List.length_range]) fun i h1 h2 => ?_
  rw [List.getElem_map, List.getElem_range]
  show D.readers.getD i Str.empty = D.readers[i]
  rw [List.getD_eq_getElem?_getD, List.getElem?_eq_getElem h2]; rfl
theorem pr_keys {F : Str × V → Str × (Int × Int) → Prop} (hF : ∀ x y, F x y → x.1 = y.1) {us : List (Str × V)} {ps : Prs} (h : Paired F us ps) : us.map (·.1) = ps.map (·.1) := by
  induction h with
  | nil => rfl
  | cons r _ ih => rw [List.map_cons, List.map_cons, ih, hF _ _ r]
theorem pr_find {F : Str × V → Str × (Int × Int) → Prop} (hF : ∀ x y, F x y → x.1 = y.1) {r : Str} : ∀ {us : List (Str × V)} {ps : Prs}, Paired F us ps →
    (valV (dct id us) (kT r) = none ∧ ps.find? (fun y => decide (y.1 = r)) = none) ∨ ∃ x y, valV (dct id us) (kT r) = some x.2 ∧ ps.find? (fun y => decide (y.1 = r)) = some y ∧ F x y
  | _, _, .nil => .inl ⟨rfl, rfl⟩
  | _, _, .cons (a := a) (b := b) h t => by
    by_cases e : b.1 = r
    · refine .inr ⟨a, b, ?_, ?_, h⟩
      · exact valV_pos (p := (kT a.1, a.2)) (by rw [hF _ _ h, e])
      · rw [List.find?_cons_of_pos (by simp [e])]
    · have e' : ¬ (kT a.1 = kT r) := fun z => e (by rw [← hF _ _ h]; cases z; rfl)
      have v1 : ∀ {us : List (Str × V)}, valV (dct id (a :: us)) (kT r) = valV (dct id us) (kT r) := fun {us} => valV_neg (p := (kT a.1, a.2)) e'
      rw [v1, List.find?_cons_of_neg (by simp [e])]
      exact pr_find hF t
def sp_prices (K : Fr) : Sp := spx 3 fun vs H Q _ => ∃ (u v l : V) (ws : Ws) (rows : Rows) (pool : List Str) (s : Int × Int), vs = [u, v, l] ∧ Ask K H u v l ws rows pool s ∧
  ∀ (D : PkD) t r H', Same H H' → Slv ws rows s D t → RPr (RPrs K) (RPrs K) (fr H H') r (D.own t, D.others t) → Q r H'
theorem sc_prices : FnScope ["source", "changes", "level", "packing", "solver", "many", "place", "own", "asked", "read", "others", "text"] ["source", "changes", "level"] (defScope s_prices) := ⟨rfl, rfl, rfl, by decide +kernel, rfl, by decide +kernel, by decide +kernel⟩
theorem c_prices (T : Tx K mg) (G_solved : Cal P w K mg base 7 "_solved" ["source", "changes", "level"] (sp_solved K)) (G_Share___init : Mak P w K mg base 2 "Share" (He.ga K "Share") ["self", "over", "under"] (sp_Share___init K)) (G_Solver_price : Met P w K mg base 1 (He.ga K "Solver") "price" ["self", "column"] (sp_Solver_price K)) : Cal P w K mg base 8 "prices" ["source", "changes", "level"] (sp_prices K) := by
  refine T.cal 25 rfl 9 rfl sc_prices (fun _ _ _ _ h => h.1) (fun _ _ _ _ _ _ us hl => match us, hl with | [_, _, _], _ => rfl) (fun cdv A outer s H vs Q E hr h => ?_)
  have nd := sc_prices.nd
  have hu := hu_of hr
  refine ⟨_, (pss_cons (ps_asg (pe_cal G_solved (hr.mono (by decide)) (pa_cons (pv 0) (pa_cons (pv 1) (pa_cons (pv 2) pa_nil)))) (pg_tupK (K := K) 2 rfl (pgs_cons (pg_name (i := 3) nd rfl (Or.inl rfl)) (pgs_cons (pg_name (i := 4) nd rfl (Or.inr rfl)) pgs_nil))))
      (pss_cons (ps_set (i := 5) nd rfl (Or.inr rfl) (pe_callB (call_lenK (K := K)) (by rfl) T.f_len (by decide +kernel) (pa_cons (pe_fldK (K := K) (pv 3) rfl) pa_nil)))
      (pss_cons (ps_setLc (i := 7) (own := [("place", 6), ("text", 11)]) (g := (gTup K 2 (gCons (gName 6) (gCons (gName 11) gNil)))) (tt := tYes) (by rfl) nd rfl rfl (sw_true rfl rfl rfl (by decide +kernel)) (pi_enumK (by rfl) T.f_enumerate (pa_cons (pe_fldK (K := K) (pv 3) rfl) pa_nil)) (blkOk_by (own := [("place", 6), ("text", 11)]) (N := ["source", "changes", "level", "packing", "solver", "many", "place", "own", "asked", "read", "others", "text"]) (sc := defScope s_prices) (by decide +kernel)) (fun _ _ _ _ _ => (pg_tupK (K := K) 2 rfl (pgs_cons (pg_name (i := 6) nd rfl (Or.inl rfl)) (pgs_cons (pg_name (i := 11) nd rfl (Or.inl rfl)) pgs_nil)))) (fun _ _ _ _ _ => pts_nil) (fun _ _ _ _ _ => (pe_tup (pa_cons (pv 11) (pa_cons (pe_mak G_Share___init (hr.mono (by decide)) (pa_cons (pe_met G_Solver_price (hr.mono (by decide)) (pv 4) (pa_cons (pe_op op_add (pv 5) (pv 6)) pa_nil)) (pa_cons (pe_fldK (K := K) (pv 4) rfl) pa_nil))) pa_nil)))))
      (pss_cons (ps_set (i := 8) nd rfl (Or.inr rfl) pe_dnewK)
      (pss_cons (ps_for PassesOwn.never rfl (pi_enumK (by rfl) T.f_enumerate (pa_cons (pe_fldK (K := K) (pv 3) rfl) pa_nil)) (pg_tupK (K := K) 2 rfl (pgs_cons (pg_name (i := 6) nd rfl (Or.inl rfl)) (pgs_cons (pg_name (i := 9) nd rfl (Or.inl rfl)) pgs_nil))) (pss_one (ps_dput hu (pv 8) (pv 9) (pe_mak G_Share___init (hr.mono (by decide)) (pa_cons (pe_met G_Solver_price (hr.mono (by decide)) (pv 4) (pa_cons (pe_op op_add (pe_op op_mulW pe_int (pv 5)) (pv 6)) pa_nil)) (pa_cons (pe_fldK (K := K) (pv 4) rfl) pa_nil))) rfl)))
      (pss_cons (ps_setLc (i := 10) (own := [("read", 9)]) (g := (gName 9)) (tt := tYes) (by rfl) nd rfl rfl (sw_true rfl rfl rfl (by decide +kernel)) (pi_tup (pe_fldK (K := K) (pv 3) rfl)) (blkOk_by (own := [("read", 9)]) (N := ["source", "changes", "level", "packing", "solver", "many", "place", "own", "asked", "read", "others", "text"]) (sc := defScope s_prices) (by decide +kernel)) (fun _ _ _ _ _ => (pg_name (i := 9) nd rfl (Or.inl rfl))) (fun _ _ _ _ _ => pts_nil) (fun _ _ _ _ _ => (pe_tup (pa_cons (pv 9) (pa_cons (pe_dget2 hu (pv 8) (pv 9) (pe_mak G_Share___init (hr.mono (by decide)) (pa_cons pe_int (pa_cons pe_int pa_nil))) ⟨rfl, rfl, rfl, rfl⟩) pa_nil)))))
      (pss_one (ps_ret (pe_tup (pa_cons (pe_callTy call_tuple_of (by rfl) T.f_tuple (by decide +kernel) (pa_cons (pv 7) pa_nil)) (pa_cons (pe_callTy call_tuple_of (by rfl) T.f_tuple (by decide +kernel) (pa_cons (pv 10) pa_nil)) pa_nil))))))))))), ?_⟩
  obtain ⟨_, u, v, l, ws, rows, pool, s, rfl, a, k⟩ := h
  refine ⟨_, rfl, _, rfl, _, rfl, rfl, u, v, l, ws, rows, pool, s, rfl, a, fun o p q D T1 d B t H1 e1 ho pk sol ok => ?_⟩
  have slv : Slv ws rows s D t := ⟨ok, sol.ok, sol.best⟩
  obtain ⟨dbd, tbd⟩ := slv_bd slv a.wok a.s1 a.s2
  have dp := sol.ok.dpos
  have ag := sol.ag
  have tb := pk_tab ok a.wok a.s1 a.s2
  have nb := tb.nb
  have sl := sides_len D
  have gl : D.groups.length = D.readers.length := by rw [ok.groups, List.length_map]
  obtain ⟨dx, vt, vb, vr, vg, vd, h0, ht, hb_, hrd, hgr, hrs⟩ := id pk
  obtain ⟨at_, rfl, hat⟩ := ht.strs
  obtain ⟨ar, rfl, har⟩ := hrd.strs
  obtain ⟨as, rfl, has⟩ := hrs.strs
  obtain ⟨b, sdx, ra, vs, s1, s2, s3', s4, s5⟩ := id sol.at_
  have ed := ag.d
  refine ⟨o, _, rfl, SqT.of ho, rfl, _, _, rfl, _, _, rfl, rfl, ?_⟩
  refine ⟨_, rfl, p, _, dx, _, _, rfl, h0, T.cl_Packing, T.n_Packing_texts, rfl, at_, _, rfl, .inr (SqT.of hat), ?_⟩
  rw [List.length_map]
  -- own
  refine ⟨_, rfl, p, _, dx, _, _, rfl, h0, T.cl_Packing, T.n_Packing_texts, rfl, .t at_, D.texts.map V.str, rfl, SqT.of hat, fun C hC => ?_⟩
  refine lc_new (n := (D.texts.map V.str).length) walk_enumK (stepS H1) (RPr RStr (RSh K)) (fun i bs => bs = (D.own t).take i) hC (fun H' e => SqT.of (e _ _ hat)) (fun i H x H' y => yPair_same y) (by rw [List.length_map]; exact sz_lt (by omega)) rfl (fun i y bs G1 G2 Kc Rc hi hb f1 f2 _ hy k1 _ => ?_) (fun H2 ys bs e2 hv2 hr2 hbs => ?_)
  · obtain ⟨TT, x1, x2, rfl, hTT, rfl, hx1, hx2⟩ := hy
    have hx1 : some (V.int (i : Int)) = some x1 := hx1
    cases hx1
    obtain ⟨tx, htx, rfl⟩ := map_some hx2
    have il : i < D.texts.length := (List.getElem?_eq_some_iff.mp htx).1
    refine ⟨TT, _, rfl, SqT.of upd_same, rfl, _, _, rfl, _, _, rfl, rfl, rfl, yes_t ?_⟩
    generalize hG : upd G1 TT (.tup [.int (i : Nat), V.str tx]) = G2 at f2 k1 ⊢
    refine ⟨_, rfl, _, rfl, q, sdx, _, rfl, f2 _ _ s1, rfl, _, rfl, _, rfl, _, _, rfl, rfl, rfl, q, D.texts.length + i, T1, d, B, D.sides.length, D.texts.length + D.sides.length, rfl, sol.at_.up f2, ag.shp, by omega, _, rfl, q, _, sdx, _, _, rfl, f2 _ _ s1, T.cl_Solver, T.n_Solver_divisor, (lk_ne (by decide +kernel)).trans lk_eq, ?_⟩
    rw [ag.ent D.sides.length (Nat.le_refl _) (D.texts.length + i) (by omega), ed]
    refine fun x dx nx nd ne => share_make nx nd ne dp (dbd.mono (by decide)) fun H2 e r => ⟨rfl, by show 2 ≤ sizeLine; decide, fun p0 hp0 => k1 (tx, shr (t.T D.sides.length (D.texts.length + i)) t.d) _ _ (e.trans (same_new hp0)) ⟨p0, _, _, rfl, by rw [fr_at (e.free hp0), upd_same], rfl, Mo.up (fr_up (same_new hp0)) r⟩ ?_⟩
    rw [hb, take_more]
    unfold PkD.own
    rw [List.getElem?_map, List.getElem?_eq_getElem (by rw [List.length_range]; exact il), List.getElem_range]
    show some (D.texts.getD i Str.empty, _) = some (tx, _)
    rw [List.getD_eq_getElem?_getD, htx]; rfl
  have ol : (D.own t).length = D.texts.length := by unfold PkD.own; rw [List.length_map, List.length_range]
  rw [List.length_map, List.take_of_length_le (by omega)] at hbs
  subst hbs
  obtain ⟨c', vs2, ec, hc2, hp2⟩ := hr2
  cases ec
  have yy : ys = vs2 := by have := hv2.symm.trans (same_fr _ _ hc2); injection this with z; injection z
  subst yy
  have e12 := e1.trans e2
  -- asked
  refine fun d0 hd0 => ?_
  have hd00 : H d0 = none := e12.free hd0
  have rl : D.readers.length ≤ 60 := by have := ok.sz.groups; omega
  have askL : (D.asked t).length = D.readers.length := by unfold PkD.asked; rw [List.length_map, List.length_range]
  refine ⟨_, rfl, p, _, dx, _, _, rfl, same_new hd0 _ _ (e2 _ _ h0), T.cl_Packing, T.n_Packing_readers, rfl, .l as, D.readers.map V.str, rfl, SqL.of (same_new hd0 _ _ (e2 _ _ has)), for_enumK (xs := D.readers.map V.str) (fun i σ H' => ∃ us u6 u9, σ = [some u, some v, some l, some (.ref p), some (.ref q), some (.int D.texts.length), u6, some (.ref C), some (.ref d0), u9, none, none] ∧ Same H2 H' ∧ H' d0 = some (.dK (dct id us)) ∧ Paired (fun (x : Str × V) (y : Str × (Int × Int)) => x.1 = y.1 ∧ RSh K (hid d0 (fr H H')) x.2 y.2) us ((D.asked t).take i))
    ⟨[], none, none, rfl, same_new hd0, upd_same, .nil⟩ (fun i σ H' ⟨_, _, _, _, e, _⟩ => SqL.of (e _ _ (e2 _ _ has))) ?_ ?_⟩
  · rintro i y T2 σ H' hi ⟨us, u6, u9, rfl, e', hd', hp'⟩ hT2
    obtain ⟨rd, hrd1, rfl⟩ := map_some hi
    have il : i < D.readers.length := (List.getElem?_eq_some_iff.mp hrd1).1
    refine ⟨T2, _, rfl, SqT.of upd_same, rfl, _, _, rfl, _, _, rfl, rfl, ?_⟩
    generalize hG : upd H' T2 (.tup [.int (i : Nat), V.str rd]) = G2
    have eg : Same H' G2 := by rw [← hG]; exact same_new hT2
    have e2g := (e2.trans e').trans eg
    have hdg := eg _ _ hd'
    refine ⟨_, rfl, q, sdx, _, rfl, e2g _ _ s1, rfl, _, rfl, _, _, rfl, rfl, wmul (a := 10) (b := 20) (by decide) (by unfold Bd; omega) (by decide), _, rfl, _, _, rfl, rfl, rfl, q, 2 * D.texts.length + i, T1, d, B, D.sides.length, D.texts.length + D.sides.length, rfl, sol.at_.up e2g, ag.shp, by omega, _, rfl, q, _, sdx, _, _, rfl, e2g _ _ s1, T.cl_Solver, T.n_Solver_divisor, (lk_ne (by decide +kernel)).trans lk_eq, ?_⟩
    rw [ag.ent D.sides.length (Nat.le_refl _) (2 * D.texts.length + i) (by omega), ed]
    have ask_i : (D.asked t)[i]? = some (rd, shr (t.T D.sides.length (2 * D.texts.length + i)) t.d) := by
      unfold PkD.asked
      rw [List.getElem?_map, List.getElem?_eq_getElem (by rw [List.length_range]; exact il), List.getElem_range]
      show some (D.readers.getD i Str.empty, _) = some (rd, _)
      rw [List.getD_eq_getElem?_getD, hrd1]; rfl
    have keys := pr_keys (fun _ _ h => h.1) hp'
    have kk : us.map (·.1) = D.readers.take i := by rw [keys, List.map_take, asked_keys]
    have ndk : (us.map (·.1)).Nodup := by rw [kk]; exact ok.nd.sublist (List.take_sublist _ _)
    have nk : rd ∉ us.map (·.1) := by
      rw [kk]; intro m
      have hx := ok.nd
      rw [← List.take_append_drop (i + 1) D.readers, take_more hrd1, List.nodup_append, List.nodup_append] at hx
      exact hx.1.2.2 rd m rd (List.mem_singleton.mpr rfl) rfl
    have ul : us.length ≤ 60 := by have := congrArg List.length kk; rw [List.length_map, List.length_take] at this; omega
    have d1 : H1 d0 = none := e2.free hd0
    refine fun x dx nx nd ne => share_make nx nd ne dp (dbd.mono (by decide)) fun H3 e r => ⟨rfl, _, rfl, _, rfl, d0, _, rfl, dput_at (f := id) (x := V.ref x) (e _ _ hdg) ndk (by omega), dput us rd (.ref x), _, _, rfl, same_mut ((e'.trans eg).trans e) hd0, upd_same, ?_⟩
    rw [dput_new nk, take_more ask_i]
    have vw : ∀ {o : HO}, Same (hid d0 (fr H H')) (hid d0 (fr H (upd H3 d0 o))) := fun {o} y o' h' => by
      obtain ⟨n1, h'⟩ := hid_some h'
      obtain ⟨n2, h'⟩ := fr_some h'
      rw [hid_at n1, fr_at n2, upd_ne n1]; exact e _ _ (eg _ _ h')
    refine paired_app (paired_up hp' fun _ _ h => ⟨h.1, Mo.up vw h.2⟩) (.cons ⟨rfl, Mo.up (fun y o' h' => ?_) r⟩ .nil)
    obtain ⟨n1, h'⟩ := fr_some h'
    have yd : y ≠ d0 := fun z => by rw [z, hdg] at n1; cases n1
    have y0 : H y = none := (e1.trans e2g).free n1
    rw [hid_at yd, fr_at y0, upd_ne yd]; exact h'
  rintro σ H' ⟨us, u6, u9, rfl, e', hd', hp'⟩
  rw [List.length_map, ← askL, List.take_length] at hp'
  have e2' := e2.trans e'
  -- others
  refine ⟨_, rfl, p, _, dx, _, _, rfl, e2' _ _ h0, T.cl_Packing, T.n_Packing_readable, rfl, ar, rfl, ⟨_, SqT.of (e2' _ _ har)⟩, fun E' hE' => ?_⟩
  have e0 := e1.trans e2'
  have hd0H : H d0 = none := hd00
  have rdl : D.readable.length < 60 := by
    have := sub_len (ok.readable.st.nodup) (m := pool) fun r hr => by
      obtain ⟨row, hrow, hm⟩ := (ok.readable.mem r).mp hr
      exact (a.rok row hrow).sub r hm
    have := a.pool; omega
  refine lc_rel (n := (D.readable.map V.str).length) walk_tup (stepS H') (RPr RStr (RSh K)) (fun i bs => bs = (D.others t).take i) (nw E' H) (fun X o => nw_mut) (fun X X' _ g => nw_up g) hE' (fun H'' e => SqT.of (e _ _ (e2' _ _ har))) (fun i H x H' y => yAt_same y) (by rw [List.length_map]; exact sz_lt (by omega)) rfl (fun i y bs G1 G2 Kc Rc hi hb f1 f2 hE2 hy k1 _ => ?_) (fun H5 ys5 bs5 e5 hv5 hp5 hbs5 => ?_)
  · obtain ⟨r, hr, rfl⟩ := map_some hy.2
    have oth_i : (D.others t)[i]? = some (r, (((D.asked t).find? fun y => decide (y.1 = r)).map (·.2)).getD (0, 1)) := by
      unfold PkD.others; rw [List.getElem?_map, hr]; rfl
    refine ⟨rfl, yes_t ⟨_, rfl, _, rfl, d0, rfl, IsD.of (f2 _ _ hd'), _, rfl, fun x dx nx nd ne => ?_⟩⟩
    refine share_make nx nd ne (by decide) (by decide) fun H3 e r3 => ⟨rfl, _, dget_opt (f := id) (e _ _ (f2 _ _ hd')), by show 2 ≤ sizeLine; decide, fun p0 hp0 => ?_⟩
    obtain ⟨oE, hoE⟩ := hE2
    have nE : p0 ≠ E' := (ne_of_none (e _ _ hoE) hp0).symm
    have g3 : Same G2 H3 := e
    have pH : H p0 = none := (e0.trans (f2.trans g3)).free hp0
    have sh : RSh K (nw E' H (upd H3 p0 (.tup [.str r, (valV (dct id us) (kT r)).getD (.ref x)]))) ((valV (dct id us) (kT r)).getD (.ref x)) ((((D.asked t).find? fun y => decide (y.1 = r)).map (·.2)).getD (0, 1)) := by
      rcases pr_find (fun _ _ h => h.1) (r := r) hp' with ⟨z1, z2⟩ | ⟨x1, y1, z1, z2, z3⟩
      · rw [z1, z2]
        refine Mo.up (fun y o' h' => ?_) r3
        obtain ⟨n1, h'⟩ := fr_some h'
        have yE : y ≠ E' := fun z => by rw [z, hoE] at n1; cases n1
        rw [nw_at ((e0.trans f2).free n1) yE]; exact same_new hp0 _ _ h'
      · rw [z1, z2]
        refine Mo.up (fun y o' h' => ?_) z3.2
        obtain ⟨n1, h'⟩ := hid_some h'
        obtain ⟨n2, h'⟩ := fr_some h'
        have yE : y ≠ E' := ne_of_none h' hE'
        rw [nw_at n2 yE]; exact same_new hp0 _ _ (g3 _ _ (f2 _ _ h'))
    refine k1 (r, (((D.asked t).find? fun y => decide (y.1 = r)).map (·.2)).getD (0, 1)) _ _ (g3.trans (same_new hp0)) ⟨p0, _, _, rfl, by rw [nw_at pH nE, upd_same], rfl, sh⟩ (by rw [hb, take_more oth_i])
  · have otl : (D.others t).length = D.readable.length := by unfold PkD.others; rw [List.length_map]
    rw [List.length_map, List.take_of_length_le (by omega)] at hbs5
    subst hbs5
    have hC5 : H5 C = some (.lst ys) := e5 _ _ (e' _ _ hv2)
    refine ⟨_, rfl, C, _, rfl, .inl ⟨SqL.of hC5, fun r1 hr1 => ?_⟩⟩
    have nE1 : E' ≠ r1 := ne_of_none hv5 hr1
    have hv6 : (upd H5 r1 (.tup ys)) E' = some (.lst ys5) := same_new hr1 _ _ hv5
    refine ⟨_, rfl, E', _, rfl, .inl ⟨SqL.of hv6, fun r2 hr2 => ⟨by show 2 ≤ sizeLine; decide, fun r3 hr3 => ?_⟩⟩⟩
    have q1 : Same H5 (upd (upd (upd H5 r1 (.tup ys)) r2 (.tup ys5)) r3 (.tup [.ref r1, .ref r2])) := ((same_new hr1).trans (same_new hr2)).trans (same_new hr3)
    have e05 := e0.trans e5
    have n12 : r1 ≠ r2 := fun z => by rw [← z, upd_same] at hr2; cases hr2
    have n13 : r1 ≠ r3 := fun z => by rw [← z, upd_ne n12, upd_same] at hr3; cases hr3
    have n23 : r2 ≠ r3 := fun z => by rw [← z, upd_same] at hr3; cases hr3
    have f2 : H r2 = none := (e05.trans (same_new hr1)).free hr2
    have f3 : H r3 = none := ((e05.trans (same_new hr1)).trans (same_new hr2)).free hr3
    refine k D t (.ref r3) _ (e05.trans q1) slv ⟨r3, .ref r1, .ref r2, rfl, by rw [fr_at f3, upd_same], ⟨r1, ys, rfl, by rw [fr_at (e05.free hr1), upd_ne n13, upd_ne n12, upd_same], paired_up hp2 fun _ _ => Mo.up ((fr_up ((e'.trans e5).trans q1)).trans (fr_old e1))⟩, ⟨r2, ys5, rfl, by rw [fr_at f2, upd_ne n23, upd_same], paired_up hp5 fun _ _ => Mo.up (same_nw.trans (fr_up q1))⟩⟩
end
end MH
/-! part D26 -/
set_option Elab.async false
set_option linter.all false
set_option maxRecDepth 100000
set_option maxHeartbeats 4000000
namespace MH
open PySem PySem.Spec PyProof.Rows L2
section
variable {P : Program} {w : World} {K : Fr} {mg : Str → Option Value} {base : Heap}
/-- pairs of those texts, shares with a lower part above 0 -/
def sp_law_pairs_are (K : Fr) : Sp := spx 2 fun vs H Q _ => ∃ (u v : V) (ps : Prs), vs = [u, v] ∧ RPrs K H u ps ∧ RLst RStr H v (ps.map (·.1)) ∧ (∀ y ∈ ps, 0 < y.2.2) ∧ ps.length ≤ 60 ∧ ∀ H', Same H H' → Q (.bl true) H'
theorem sc_law_pairs_are : FnScope ["_law_got", "_law_texts_here", "_law_pair", "_law_text_here"] ["_law_got", "_law_texts_here"] (defScope s_law_pairs_are) := ⟨rfl, rfl, rfl, by decide +kernel, rfl, by decide +kernel, by decide +kernel⟩
theorem c_law_pairs_are (T : Tx K mg) (G_law_good : Cal P w K mg base 2 "_law_good" ["_law_share"] (sp_law_good K)) : Cal P w K mg base 3 "_law_pairs_are" ["_law_got", "_law_texts_here"] (sp_law_pairs_are K) := by
  refine T.cal 63 rfl 35 rfl sc_law_pairs_are (fun _ _ _ _ h => h.1) (fun _ _ _ _ _ _ us hl => match us, hl with | [_, _], _ => rfl) (fun cdv A outer s H vs Q E hr h => ?_)
  have nd := sc_law_pairs_are.nd
  have hu := hu_of hr
  refine ⟨_, (pss_cons (ps_if (PW.pt (pw_or (pt_not (pt_val (pe_callB call_isi (by rfl) T.f_isinstance (by decide +kernel) (pa_cons (pv 0) (pa_cons (pe_bltn (v := .ty "tuple") (by rfl) T.f_tuple (by decide +kernel) rfl) pa_nil))))) (pw_or1 (pt_cmpR op_ne (pe_callB (call_lenK (K := K)) (by rfl) T.f_len (by decide +kernel) (pa_cons (pv 0) pa_nil)) (pe_callB (call_lenK (K := K)) (by rfl) T.f_len (by decide +kernel) (pa_cons (pv 1) pa_nil)) (nomark _))))) (pss_one (ps_ret pe_bl)) pss_nil)
      (pss_cons (ps_for PassesOwn.never rfl (pi_zipK (by rfl) T.f_zip (pa_cons (pv 0) (pa_cons (pv 1) pa_nil))) (pg_tupK (K := K) 2 rfl (pgs_cons (pg_name (i := 2) nd rfl (Or.inl rfl)) (pgs_cons (pg_name (i := 3) nd rfl (Or.inl rfl)) pgs_nil))) (pss_cons (ps_if (PW.pt (pw_or (pt_not (pt_val (pe_callB call_isi (by rfl) T.f_isinstance (by decide +kernel) (pa_cons (pv 2) (pa_cons (pe_bltn (v := .ty "tuple") (by rfl) T.f_tuple (by decide +kernel) rfl) pa_nil))))) (pw_or (pt_cmpR op_ne (pe_callB (call_lenK (K := K)) (by rfl) T.f_len (by decide +kernel) (pa_cons (pv 2) pa_nil)) pe_int (nomark _)) (pw_or (pt_not (pt_val (pe_callB call_isi (by rfl) T.f_isinstance (by decide +kernel) (pa_cons (pe_ix (ix_tupK (K := K)) (pv 2) pe_int (fun _ _ => rfl)) (pa_cons (pe_bltn (v := .ty "str") (by rfl) T.f_str (by decide +kernel) rfl) pa_nil))))) (pw_or1 (pt_cmpR op_ne (pe_ix (ix_tupK (K := K)) (pv 2) pe_int (fun _ _ => rfl)) (pv 3) (nomark _))))))) (pss_one (ps_ret pe_bl)) pss_nil)
      (pss_one (ps_if (pt_not (pt_val (pe_cal G_law_good (hr.mono (by decide)) (pa_cons (pe_ix (ix_tupK (K := K)) (pv 2) pe_int (fun _ _ => rfl)) pa_nil)))) (pss_one (ps_ret pe_bl)) pss_nil))))
      (pss_one (ps_ret pe_bl)))), ?_⟩
  obtain ⟨_, u, v, ps, rfl, ⟨a, vs, rfl, ha, hp⟩, hv, pos, few, k⟩ := h
  obtain ⟨b, rfl, hb⟩ := hv.strs
  have pl := paired_len hp
  refine ⟨_, rfl, _, _, _, _, true, rfl, .ty _, .base (.tup ha), kit_ty (by decide +kernel), _, rfl, ?_⟩
  refine iteF ⟨_, rfl, a, _, rfl, .inr (SqT.of ha), _, rfl, b, _, rfl, .inl (SqL.of hb), rfl, _, rfl, ?_⟩
  have el : (!decide (V.int (vs.length : Int) = V.int ((((ps.map (·.1)).map V.str).length : Nat) : Int))) = false := by
    rw [pl, List.length_map, List.length_map]
    rw [decide_eq_true rfl]; rfl
  rw [el]
  refine iteF ⟨_, rfl, _, rfl, .t a, .l b, vs, (ps.map (·.1)).map V.str, rfl, SqT.of ha, SqL.of hb, for_zipK (xs := vs) (ys := (ps.map (·.1)).map V.str) (by rw [List.length_map, List.length_map, pl]) (fun i σ H' => ∃ u2 u3, σ = [some (.ref a), some (.ref b), u2, u3] ∧ Same H H') ⟨none, none, rfl, Same.refl _⟩ (fun i σ H' ⟨_, _, _, e⟩ => ⟨SqT.of (e _ _ ha), SqL.of (e _ _ hb)⟩) ?_ ?_⟩
  · rintro i x y T2 σ H' hi hj ⟨u2, u3, rfl, e⟩ hT2
    obtain ⟨⟨t, s⟩, hy, ⟨q, y1, y2, rfl, hq, rfl, hsh⟩⟩ := paired_get hp hi
    rw [List.map_map, List.getElem?_map, hy] at hj
    have hj : some (V.str t) = some y := hj
    cases hj
    have e2 : Same H (upd H' T2 (.tup [.ref q, .str t])) := e.trans (same_new hT2)
    have hq2 := e2 _ _ hq
    have p0 : 0 < s.2 := pos _ (List.mem_of_getElem? hy)
    refine ⟨T2, _, rfl, SqT.of upd_same, rfl, _, _, rfl, _, _, rfl, rfl, ?_⟩
    refine ⟨_, rfl, _, _, _, _, true, rfl, .ty _, .base (.tup hq2), kit_ty (by decide +kernel), _, rfl, ?_⟩
    refine iteF ⟨_, rfl, q, _, rfl, .inr (SqT.of hq2), rfl, _, rfl, ?_⟩
    refine iteF ⟨_, rfl, q, _, 0, _, rfl, rfl, SqT.of hq2, rfl, _, _, _, _, true, rfl, .ty _, .base (.str _), kit_ty (by decide +kernel), _, rfl, ?_⟩
    refine iteF ⟨_, rfl, q, _, 0, _, rfl, rfl, SqT.of hq2, rfl, _, rfl, rfl, _, rfl, ?_⟩
    rw [show (!decide (V.str t = V.str t)) = false from by rw [decide_eq_true rfl]; rfl]
    refine iteF ⟨_, rfl, q, _, 1, _, rfl, rfl, SqT.of hq2, rfl, rfl, _, s, rfl, Mo.up e2 hsh, _, rfl, ?_⟩
    rw [decide_eq_true p0]
    exact iteF ⟨_, _, rfl, e2⟩
  · rintro σ H' ⟨u2, u3, rfl, e⟩
    exact k H' e
def sp_law_under (K : Fr) : Sp := spx 1 fun vs H Q _ => ∃ (u : V) (ps : Prs), vs = [u] ∧ RPrs K H u ps ∧ (∀ y ∈ ps, 0 < y.2.2 ∧ Bd 1700 y.2.2) ∧ ps.length ≤ 150 ∧ ∀ c H', Same H H' → 0 < c → Bd 260000 c → (∀ y ∈ ps, y.2.2 ∣ c) → Q (.int c) H'
theorem sc_law_under : FnScope ["_law_pairs_here", "_law_under_here", "_law_text_here", "_law_share"] ["_law_pairs_here"] (defScope s_law_under) := ⟨rfl, rfl, rfl, by decide +kernel, rfl, by decide +kernel, by decide +kernel⟩
theorem c_law_under (T : Tx K mg)  : Cal P w K mg base 1 "_law_under" ["_law_pairs_here"] (sp_law_under K) := by
  refine T.cal 65 rfl 37 rfl sc_law_under (fun _ _ _ _ h => h.1) (fun _ _ _ _ _ _ us hl => match us, hl with | [_], _ => rfl) (fun cdv A outer s H vs Q E hr h => ?_)
  have nd := sc_law_under.nd
  have hu := hu_of hr
  refine ⟨_, (pss_cons (ps_set (i := 1) nd rfl (Or.inl rfl) pe_int)
      (pss_cons (ps_for PassesOwn.never rfl (pi_tup (pv 0)) (pg_tupK (K := K) 2 rfl (pgs_cons (pg_name (i := 2) nd rfl (Or.inl rfl)) (pgs_cons (pg_name (i := 3) nd rfl (Or.inl rfl)) pgs_nil))) (pss_one (ps_if (pt_cmpR op_ne (pe_op op_mod (pe_callTy call_int1 (by rfl) T.f_int (by decide +kernel) (pa_cons (pv 1) pa_nil)) (pe_fldK (K := K) (pv 3) rfl)) pe_int (nomark _)) (pss_one (ps_set (i := 1) nd rfl (Or.inl rfl) (pe_op op_mulW (pv 1) (pe_fldK (K := K) (pv 3) rfl)))) pss_nil)))
      (pss_one (ps_ret (pv 1))))), ?_⟩
  obtain ⟨_, u, ps, rfl, ⟨a, vs, rfl, ha, hp⟩, pos, few, k⟩ := h
  have pl := paired_len hp
  refine ⟨_, rfl, a, rfl, ⟨_, SqT.of ha⟩, for_tup (K := K) (xs := vs) (fun i σ H' => ∃ c u2 u3, σ = [some (.ref a), some (.int c), u2, u3] ∧ H' = H ∧ 0 < c ∧ Bd (1 + 1700 * i) c ∧ ∀ y ∈ ps.take i, y.2.2 ∣ c) ⟨1, none, none, rfl, rfl, by decide, by decide, fun _ h => absurd h List.not_mem_nil⟩ (fun i σ H' _ ⟨_, _, _, _, e, _⟩ => SqT.of (by rw [e]; exact ha)) ?_ ?_⟩
  · rintro i x σ H' hi ⟨c, u2, u3, rfl, rfl, c0, cb, dv⟩
    obtain ⟨⟨t, s⟩, hy, ⟨q, y1, y2, rfl, hq, rfl, ⟨sp, sdx, rfl, hsp⟩⟩⟩ := paired_get hp hi
    have hy0 := hy
    obtain ⟨p0, pb⟩ := pos _ (List.mem_of_getElem? hy)
    have p0 : 0 < s.2 := p0
    have pb : Bd 1700 s.2 := pb
    have il : i < ps.length := (List.getElem?_eq_some_iff.mp hy).1
    refine ⟨q, _, rfl, SqT.of hq, rfl, _, _, rfl, _, _, rfl, rfl, ?_⟩
    have more : ∀ c' : Int, c ∣ c' → s.2 ∣ c' → ∀ y ∈ ps.take (i + 1), y.2.2 ∣ c' := fun c' h1 h2 y hy => by
      rw [take_more hy0] at hy
      rcases List.mem_append.mp hy with h | h
      · exact Int.dvd_trans (dv y h) h1
      · rw [List.mem_singleton] at h; rw [h]; exact h2
    refine ⟨_, rfl, .inl ⟨_, rfl, _, rfl, sp, _, sdx, _, _, rfl, hsp, T.cl_Share, T.n_Share_under, shF_under, _, _, rfl, rfl, p0, rfl, _, rfl, ?_⟩⟩
    by_cases z : c % s.2 = 0
    · rw [show (!decide (V.int (c % s.2) = V.int 0)) = false from by rw [z, decide_eq_true rfl]; rfl]
      exact iteF ⟨c, _, _, rfl, rfl, c0, cb.mono (by omega), more c (Int.dvd_refl c) (Int.dvd_of_emod_eq_zero z)⟩
    · rw [show (!decide (V.int (c % s.2) = V.int 0)) = true from by rw [decide_eq_false (fun q => z (by injection q))]; rfl]
      refine iteT ⟨_, rfl, _, rfl, sp, _, sdx, _, _, rfl, hsp, T.cl_Share, T.n_Share_under, shF_under, _, _, rfl, rfl, wmul cb pb (by omega), c * s.2, _, _, rfl, rfl, Int.mul_pos c0 p0, (bd_mul cb pb).mono (by omega), more _ (Int.dvd_mul_right c s.2) (Int.dvd_mul_left c s.2)⟩
  · rintro σ H' ⟨c, u2, u3, rfl, rfl, c0, cb, dv⟩
    rw [pl, List.take_length] at dv
    exact ⟨_, rfl, k c _ (Same.refl _) c0 (cb.mono (by omega)) dv⟩
end
end MH
/-! part D27 -/
set_option Elab.async false
set_option linter.all false
set_option maxRecDepth 100000
set_option maxHeartbeats 4000000
namespace MH
open PySem PySem.Spec PyProof.Rows L2
/-- a share over a common lower part -/
def am (c : Int) (y : Str × (Int × Int)) : Int := y.2.1 * (c / y.2.2)
theorem bd_am {c : Int} {y : Str × (Int × Int)} (h : 0 < y.2.2) (hc : Bd 260000 c) (hy : Bd 1700 y.2.1) : Bd 261700 (am c y) := by
  have : Bd 260000 (c / y.2.2) := Nat.lt_of_le_of_lt (Int.natAbs_ediv_le_natAbs _ _) hc
  exact (bd_mul hy this).mono (by decide)
/-- the amounts of those whose row holds r, the first i -/
def tk (as : List Int) (rows : Rows) (r : Str) (i : Nat) : Int := ((List.range i).map fun q => if r ∈ (rows.getD q (Str.empty, [])).2 then as.getD q 0 else 0).sum
theorem tk_succ (as : List Int) (rows : Rows) (r : Str) (i : Nat) : tk as rows r (i + 1) = tk as rows r i + if r ∈ (rows.getD i (Str.empty, [])).2 then as.getD i 0 else 0 := by
  unfold tk
  rw [List.range_succ, List.map_append, List.sum_append]; simp
section
variable {P : Program} {w : World} {K : Fr} {mg : Str → Option Value} {base : Heap}
def sp_law_row_total (K : Fr) : Sp := spx 5 fun vs H Q _ => ∃ (u v r : V) (p q : Int) (ps : Prs) (ws : Ws) (rows : Rows) (pool : List Str), vs = [u, v, r, .int p, .int q] ∧ RPrs K H u ps ∧ RWs H v ws ∧ RRows H r rows ∧ ps.length = ws.length ∧ ws.length ≤ rows.length ∧ ws.length ≤ 20 ∧
  (∀ y ∈ ps, 0 < y.2.2 ∧ Bd 1700 y.2.2 ∧ Bd 1700 y.2.1 ∧ 0 ≤ y.2.1) ∧ (∀ x ∈ ws, 0 ≤ x.2) ∧ Bd 100 (tot ws) ∧ Bd 100 p ∧ Bd 100 q ∧ (∀ r ∈ rows, ∀ t ∈ r.2, t ∈ pool) ∧ pool.length < 60 ∧
  (∀ (i : Nat) (y : Str × (Int × Int)) (x : Str × Int), ps[i]? = some y → ws[i]? = some x → y.2.1 * tot ws ≤ x.2 * y.2.2) ∧
  (∀ c, 0 < c → (∀ y ∈ ps, y.2.2 ∣ c) → ∀ t, tk (ps.map (am c)) rows t ws.length * q ≤ (if q < p then q else p) * c) ∧
  ∀ (o : Addr) c H', Same H H' → 0 < c → Bd 260000 c → (∀ y ∈ ps, y.2.2 ∣ c) → H' o = some (.lst [.int (ps.map (am c)).sum, .int c]) → H o = none → Q (.ref o) H'
theorem sc_law_row_total : FnScope ["_law_row", "_law_words_here", "_law_rows_here", "_law_over", "_law_under_here", "_law_word", "_law_whole", "_law_common", "_law_amounts", "_law_amount", "_law_other", "_law_total", "_law_at", "_law_pair"] ["_law_row", "_law_words_here", "_law_rows_here", "_law_over", "_law_under_here"] (defScope s_law_row_total) := ⟨rfl, rfl, rfl, by decide +kernel, rfl, by decide +kernel, by decide +kernel⟩
theorem c_law_row_total (T : Tx K mg) (G_law_under : Cal P w K mg base 1 "_law_under" ["_law_pairs_here"] (sp_law_under K)) (G_law_all : Cal P w K mg base 1 "_law_all" ["_law_rows_here"] sp_law_all) : Cal P w K mg base 2 "_law_row_total" ["_law_row", "_law_words_here", "_law_rows_here", "_law_over", "_law_under_here"] (sp_law_row_total K) := by
  refine T.cal 71 rfl 43 rfl sc_law_row_total (fun _ _ _ _ h => h.1) (fun _ _ _ _ _ _ us hl => match us, hl with | [_, _, _, _, _], _ => rfl) (fun cdv A outer s H vs Q E hr h => ?_)
  have nd := sc_law_row_total.nd
  have hu := hu_of hr
  refine ⟨_, (pss_cons (ps_set (i := 6) nd rfl (Or.inl rfl) (pe_callB (cr_sum rfl) (by rfl) T.f_sum (by decide +kernel) (pa_cons (pe_lc (own := [("_law_word", 5)]) (g := (gName 5)) (tt := tYes) (by rfl) nd (pi_list (pv 1)) (blkOk_by (own := [("_law_word", 5)]) (N := ["_law_row", "_law_words_here", "_law_rows_here", "_law_over", "_law_under_here", "_law_word", "_law_whole", "_law_common", "_law_amounts", "_law_amount", "_law_other", "_law_total", "_law_at", "_law_pair"]) (sc := defScope s_law_row_total) (by decide +kernel)) (fun _ _ _ _ _ => (pg_name (i := 5) nd rfl (Or.inl rfl))) (fun _ _ _ _ _ => pts_nil) (fun _ _ _ _ _ => (pe_ix (ix_tupK (K := K)) (pv 5) pe_int (fun _ _ => rfl)))) pa_nil)))
      (pss_cons (ps_set (i := 7) nd rfl (Or.inr rfl) (pe_cal G_law_under (hr.mono (by decide)) (pa_cons (pv 0) pa_nil)))
      (pss_cons (ps_setLc (i := 8) (own := [("_law_pair", 13)]) (g := (gName 13)) (tt := tYes) (by rfl) nd rfl rfl (sw_true rfl rfl rfl (by decide +kernel)) (pi_tup (pv 0)) (blkOk_by (own := [("_law_pair", 13)]) (N := ["_law_row", "_law_words_here", "_law_rows_here", "_law_over", "_law_under_here", "_law_word", "_law_whole", "_law_common", "_law_amounts", "_law_amount", "_law_other", "_law_total", "_law_at", "_law_pair"]) (sc := defScope s_law_row_total) (by decide +kernel)) (fun _ _ _ _ _ => (pg_name (i := 13) nd rfl (Or.inl rfl))) (fun _ _ _ _ _ => pts_nil) (fun _ _ _ _ _ => (pe_op op_mulW (pe_fldK (K := K) (pe_ix (ix_tupK (K := K)) (pv 13) pe_int (fun _ _ => rfl)) rfl) (pe_op op_fdivW (pv 7) (pe_fldK (K := K) (pe_ix (ix_tupK (K := K)) (pv 13) pe_int (fun _ _ => rfl)) rfl)))))
      (pss_cons (ps_for PassesOwn.never rfl (pi_zipK (by rfl) T.f_zip (pa_cons (pv 1) (pa_cons (pv 8) pa_nil))) (pg_tupK (K := K) 2 rfl (pgs_cons (pg_name (i := 5) nd rfl (Or.inl rfl)) (pgs_cons (pg_name (i := 9) nd rfl (Or.inl rfl)) pgs_nil))) (pss_one (ps_if (PW.pt (pw_or (pt_cmpR op_lt (pv 9) pe_int (nomark _)) (pw_or1 (pt_cmpR op_gt (pe_op op_mulW (pv 9) (pv 6)) (pe_op op_mulW (pe_ix (ix_tupK (K := K)) (pv 5) pe_int (fun _ _ => rfl)) (pv 7)) (nomark _))))) (pss_one (ps_ret pe_non)) pss_nil)))
      (pss_cons (ps_for PassesOwn.never rfl (pi_list (pe_cal G_law_all (hr.mono (by decide)) (pa_cons (pv 2) pa_nil))) (pg_name (i := 10) nd rfl (Or.inl rfl)) (pss_cons (ps_set (i := 11) nd rfl (Or.inl rfl) pe_int)
      (pss_cons (ps_for PassesOwn.never rfl (pi_range1 rfl T.f_range (pa_cons (pe_callB (call_lenK (K := K)) (by rfl) T.f_len (by decide +kernel) (pa_cons (pv 1) pa_nil)) pa_nil)) (pg_name (i := 12) nd rfl (Or.inl rfl)) (pss_one (ps_if (pt_cmpR (op_inK (K := K)) (pv 10) (pe_ix (ix_tupK (K := K)) (pe_ix (ix_listK (K := K)) (pv 2) (pv 12) (fun _ _ => rfl)) pe_int (fun _ _ => rfl)) (by rfl)) (pss_one (ps_set (i := 11) nd rfl (Or.inl rfl) (pe_op op_add (pv 11) (pe_ix (ix_listK (K := K)) (pv 8) (pv 12) (fun _ _ => rfl))))) pss_nil)))
      (pss_one (ps_if (pt_cmpR op_gt (pe_op op_mulW (pv 11) (pv 4)) (pe_op op_mulW (pe_callB (call_min2 rfl) (by rfl) T.f_min (by decide +kernel) (pa_cons (pv 3) (pa_cons (pv 4) pa_nil))) (pv 7)) (nomark _)) (pss_one (ps_ret pe_non)) pss_nil)))))
      (pss_one (ps_ret (pe_lst (pa_cons (pe_callB (cr_sum rfl) (by rfl) T.f_sum (by decide +kernel) (pa_cons (pv 8) pa_nil)) (pa_cons (pv 7) pa_nil)))))))))), ?_⟩
  obtain ⟨_, u, v, r, p, q, ps, ws, rows, pool, rfl, hu1, hv1, hr1, pl, wr, wl, pos, wpos, tb, pb, qb, sub, few, h1, h2, k⟩ := h
  obtain ⟨va, vv, rfl, hva, hvp⟩ := id hv1
  obtain ⟨ra, rv, rfl, hra, hrp⟩ := id hr1
  have rlen := paired_len hrp
  have vl := paired_len hvp
  refine ⟨_, rfl, va, rfl, ⟨_, SqL.of hva⟩, fun C hC => ?_⟩
  refine lc_new (n := vv.length) walk_list (stepS H) RInt (fun i bs => bs = (ws.map (·.2)).take i) hC (fun H' e => SqL.of (e _ _ hva)) (fun i H x H' y => yAt_same y) (by rw [vl]; exact sz_lt (by omega)) rfl (fun i x bs G1 G2 Kc Rc hi hb e1 e2 _ hy k1 _ => ?_) (fun H1 ys bs e1 hv hr hb => ?_)
  · obtain ⟨y, hy2, ⟨z, u1, u2, rfl, hz, r1, rfl⟩⟩ := paired_get hvp hy.2
    refine ⟨rfl, yes_t ⟨_, rfl, z, _, 1, _, rfl, rfl, SqT.of (e2 _ _ hz), rfl, k1 y.2 _ _ (Same.refl _) rfl ?_⟩⟩
    rw [hb, take_more]
    rw [List.getElem?_map, hy2]; rfl
  rw [vl, List.take_of_length_le (by rw [List.length_map]; exact Nat.le_refl _)] at hb
  have hC1 := same_fr _ _ (lstI_at hr)
  refine ⟨C, bs, rfl, SqL.of hC1, ?_⟩
  rw [hb]
  refine ⟨_, rfl, rfl, u, ps, rfl, Mo.up e1 hu1, (fun y hy => ⟨(pos y hy).1, (pos y hy).2.1⟩), by omega, fun c H2 e2 c0 cb dv => ?_⟩
  have e02 := e1.trans e2
  obtain ⟨ua, uv, rfl, hua, hup⟩ := id hu1
  have ulen := paired_len hup
  refine ⟨_, rfl, ua, rfl, ⟨_, SqT.of (e02 _ _ hua)⟩, fun E' hE' => ?_⟩
  refine lc_new (n := uv.length) walk_tup (stepS H2) RInt (fun i bs => bs = (ps.map (am c)).take i) hE' (fun H' e => SqT.of (e _ _ (e02 _ _ hua))) (fun i H x H' y => yAt_same y) (by rw [ulen]; exact sz_lt (by omega)) rfl (fun i x bs G1 G2 Kc Rc hi hb e3 e4 _ hy k1 _ => ?_) (fun H3 ys3 bs3 e3 hv3 hr3 hb3 => ?_)
  · obtain ⟨y, hy2, ⟨z, u1, u2, rfl, hz, r1, ⟨sp, sdx, rfl, hsp⟩⟩⟩ := paired_get hup hy.2
    obtain ⟨y0, y1, y2, _⟩ := pos y (List.mem_of_getElem? hy2)
    have e04 := e02.trans e4
    have cd : Bd 260000 (c / y.2.2) := Nat.lt_of_le_of_lt (Int.natAbs_ediv_le_natAbs _ _) cb
    refine ⟨rfl, yes_t ⟨_, rfl, z, _, 1, _, rfl, rfl, SqT.of (e04 _ _ hz), rfl, sp, _, sdx, _, _, rfl, e04 _ _ hsp, T.cl_Share, T.n_Share_over, shF_over, _, rfl, _, rfl, z, _, 1, _, rfl, rfl, SqT.of (e04 _ _ hz), rfl, sp, _, sdx, _, _, rfl, e04 _ _ hsp, T.cl_Share, T.n_Share_under, shF_under, _, _, rfl, rfl, wdiv y0 y1 (by decide), _, _, rfl, rfl, wmul y2 cd (by decide), k1 (am c y) _ _ (Same.refl _) rfl ?_⟩⟩
    rw [hb, take_more]
    rw [List.getElem?_map, hy2]; rfl
  rw [ulen, List.take_of_length_le (by rw [List.length_map]; exact Nat.le_refl _)] at hb3
  subst hb3
  have hE3 := same_fr _ _ (lstI_at hr3)
  have e03 := e02.trans e3
  -- no amount too great
  have totE : (ws.map (·.2)).sum = tot ws := rfl
  rw [totE]
  have hva3 := e03 _ _ hva
  refine ⟨_, rfl, _, rfl, .l va, .l E', vv, (ps.map (am c)).map V.int, rfl, SqL.of hva3, SqL.of hE3, for_zipK (xs := vv) (ys := (ps.map (am c)).map V.int) (by rw [List.length_map, List.length_map, vl, pl]) (fun i σ H' => ∃ u5 u9, σ = [some (.ref ua), some (.ref va), some (.ref ra), some (.int p), some (.int q), u5, some (.int (tot ws)), some (.int c), some (.ref E'), u9, none, none, none, none] ∧ Same H3 H') ⟨none, none, rfl, Same.refl _⟩ (fun i σ H' ⟨_, _, _, e⟩ => ⟨SqL.of (e _ _ hva3), SqL.of (e _ _ hE3)⟩) ?_ ?_⟩
  · rintro i x y T2 σ H4 hi hj ⟨u5, u9, rfl, e4⟩ hT2
    obtain ⟨w1, hw1, ⟨z, y1, y2, rfl, hz, r1, rfl⟩⟩ := paired_get hvp hi
    rw [List.getElem?_map, List.getElem?_map] at hj
    have il : i < ps.length := by rw [pl]; exact (List.getElem?_eq_some_iff.mp hw1).1
    have hps : ps[i]? = some ps[i] := List.getElem?_eq_getElem il
    rw [hps] at hj
    have hj : some (V.int (am c ps[i])) = some y := hj
    cases hj
    have e5 := e03.trans (e4.trans (same_new (o := .tup [.ref z, .int (am c ps[i])]) hT2))
    obtain ⟨g0, g1, g2, g3⟩ := pos _ (List.getElem_mem il)
    have cd0 : 0 ≤ c / ps[i].2.2 := Int.ediv_nonneg (by omega) (by omega)
    have am0 : 0 ≤ am c ps[i] := Int.mul_nonneg g3 cd0
    have amb := bd_am g0 cb g2
    have wb : Bd 100 w1.2 := by
      have a1 := wpos _ (List.mem_of_getElem? hw1)
      have a2 := tot_ge wpos (List.mem_of_getElem? hw1)
      unfold Bd at *; omega
    refine ⟨T2, _, rfl, SqT.of upd_same, rfl, _, _, rfl, _, _, rfl, rfl, ?_⟩
    refine ⟨_, rfl, _, _, rfl, rfl, _, rfl, ?_⟩
    refine iteN (by omega) ?_
    refine ⟨_, rfl, _, rfl, _, _, rfl, rfl, wmul amb tb (by decide), _, rfl, z, _, 1, _, rfl, rfl, SqT.of (e5 _ _ hz), rfl, _, rfl, _, _, rfl, rfl, wmul wb cb (by decide), _, _, rfl, rfl, _, rfl, ?_⟩
    refine iteN (fun lt => ?_) ⟨_, _, rfl, e4.trans (same_new hT2)⟩
    have key := h1 i _ _ hps hw1
    have dvi := dv _ (List.getElem_mem il)
    have ec : ps[i].2.2 * (c / ps[i].2.2) = c := Int.mul_ediv_cancel' dvi
    have m1 := Int.mul_le_mul_of_nonneg_right key cd0
    have lt : w1.2 * c < am c ps[i] * tot ws := lt
    unfold am at lt
    have a1 : ps[i].2.1 * tot ws * (c / ps[i].2.2) = ps[i].2.1 * (c / ps[i].2.2) * tot ws := by grind
    have a2 : w1.2 * ps[i].2.2 * (c / ps[i].2.2) = w1.2 * c := by rw [Int.mul_assoc, ec]
    rw [a1, a2] at m1
    omega
  · rintro σ H4 ⟨u5, u9, rfl, e4⟩
    have e04 := e03.trans e4
    -- no text's amounts too great
    refine ⟨_, rfl, rfl, .ref ra, rows, pool, rfl, Mo.up e04 hr1, sub, few, fun o ys H5 e5 ho hall => ?_⟩
    obtain ⟨L, rfl, hL⟩ := ho.strs
    have hL := same_fr _ _ hL
    have e05 := e04.trans e5
    have hE5 := (e4.trans e5) _ _ hE3
    refine ⟨L, rfl, ⟨_, SqL.of hL⟩, for_list (K := K) (xs := ys.map V.str) (fun i σ H' => H' = H5 ∧ ∃ u10 u11 u12, σ = [some (.ref ua), some (.ref va), some (.ref ra), some (.int p), some (.int q), u5, some (.int (tot ws)), some (.int c), some (.ref E'), u9, u10, u11, u12, none]) ⟨rfl, none, none, none, rfl⟩ (fun i σ H' _ ⟨e, _⟩ => SqL.of (by rw [e]; exact hL)) ?_ ?_⟩
    · rintro i x σ H' hi ⟨rfl, u10, u11, u12, rfl⟩
      obtain ⟨t, ht, rfl⟩ := map_some hi
      refine ⟨_, rfl, va, _, rfl, .inl (SqL.of (e05 _ _ hva)), _, rfl, by omega, by rw [vl]; omega, ?_⟩
      rw [vl]
      refine for_range (lo := 0) (n := ((ws.length : Nat) : Int).toNat) (fun j σ H'' => H'' = H' ∧ ∃ u12, σ = [some (.ref ua), some (.ref va), some (.ref ra), some (.int p), some (.int q), u5, some (.int (tot ws)), some (.int c), some (.ref E'), u9, some (.str t), some (.int (tk (ps.map (am c)) rows t j)), u12, none] ∧ Bd (261700 + j) (tk (ps.map (am c)) rows t j)) ⟨rfl, u12, rfl, by show Bd 261700 0; unfold Bd; exact Nat.two_pow_pos _⟩ ?_ ?_
      · rintro j σ H'' hj ⟨rfl, u12, rfl, tbd⟩
        rw [Int.toNat_natCast] at hj
        have hrow : rows[j]? = some rows[j] := List.getElem?_eq_getElem (by omega)
        obtain ⟨rw1, hrv1, ⟨z, z1, z2, rfl, hz, rz, hz2⟩⟩ := paired_get' hrp hrow
        obtain ⟨lb, rfl, hlb⟩ := hz2.strs
        have gr : rows.getD j (Str.empty, []) = rows[j] := by rw [List.getD_eq_getElem?_getD, hrow]; rfl
        have hpj : ps[j]? = some ps[j] := List.getElem?_eq_getElem (by omega)
        have gp : (ps.map (am c)).getD j 0 = am c ps[j] := by rw [List.getD_eq_getElem?_getD, List.getElem?_map, hpj]; rfl
        obtain ⟨g0, g1, g2, g3⟩ := pos _ (List.getElem_mem (l := ps) (n := j) (by omega))
        have amb := bd_am g0 cb g2
        have ts := tk_succ (ps.map (am c)) rows t j
        rw [gr, gp] at ts
        have ix : (0 + (j : Int)) = (j : Int) := Int.zero_add _
        refine ⟨_, rfl, _, rfl, _, rfl, ra, _, (0 + (j : Int)), .ref z, rfl, rfl, SqL.of (e05 _ _ hra), by rw [ix]; exact atI_nat hrv1, z, _, 1, _, rfl, rfl, SqT.of (e05 _ _ hz), rfl, lb, _, rfl, .inl (SqL.of (e05 _ _ hlb)), rfl, flat_strs _, _, rfl, ?_⟩
        rw [show (if false = true then !inV (V.str t) (rows[j].2.map V.str) else inV (V.str t) (rows[j].2.map V.str)) = inV (V.str t) (rows[j].2.map V.str) from rfl, inV_str]
        by_cases m0 : t ∈ rows[j].2
        · rw [if_pos m0] at ts
          refine iteD m0 ⟨_, rfl, _, rfl, _, rfl, E', _, (0 + (j : Int)), .int (am c ps[j]), rfl, rfl, SqL.of hE5, by rw [ix]; exact atI_nat (by rw [List.getElem?_map, List.getElem?_map, hpj]; rfl), _, _, rfl, rfl, rfl, some (.int (0 + (j : Int))), ?_, ?_⟩
          · rw [ts]; rfl
          · rw [ts]; exact bd_add tbd (amb.mono (Nat.le_add_right _ _))
        · rw [if_neg m0] at ts
          refine iteN m0 ⟨rfl, some (.int (0 + (j : Int))), ?_, ?_⟩
          · rw [ts, Int.add_zero]; rfl
          · rw [ts, Int.add_zero]; exact tbd.mono (by omega)
      · rintro σ H'' ⟨rfl, u12, rfl, tbd⟩
        rw [Int.toNat_natCast] at tbd
        have key := h2 c c0 dv t
        have mb : Bd 100 (if q < p then q else p) := by split; exact qb; exact pb
        refine ⟨_, rfl, _, rfl, _, _, rfl, rfl, by rw [Int.toNat_natCast]; exact wmul tbd qb (by omega), _, rfl, _, rfl, _, _, rfl, _, rfl, _, _, rfl, rfl, wmul mb cb (by decide), _, _, rfl, rfl, _, rfl, ?_⟩
        rw [Int.toNat_natCast]
        exact iteN (by omega) ⟨rfl, _, _, _, rfl⟩
    · rintro σ H' ⟨rfl, u10, u11, u12, rfl⟩
      refine ⟨_, rfl, E', _, rfl, SqL.of hE5, _, rfl, by show 2 ≤ sizeLine; decide, fun o ho => ?_⟩
      exact k o c _ (e05.trans (same_new ho)) c0 cb dv upd_same (e05.free ho)
end
end MH
/-! part D28 -/
set_option Elab.async false
set_option linter.all false
set_option maxRecDepth 100000
set_option maxHeartbeats 4000000
namespace MH
open PySem PySem.Spec PyProof.Rows L2
/-- the seconds of those readable in the i-th row -/
def tp (c : Int) (qs : Prs) (rd : List Str) : Int := (qs.map fun y => if y.1 ∈ rd then am c y else 0).sum
theorem tp_succ (c : Int) (qs : Prs) (rd : List Str) {i : Nat} {y : Str × (Int × Int)} (h : qs[i]? = some y) : tp c (qs.take (i + 1)) rd = tp c (qs.take i) rd + if y.1 ∈ rd then am c y else 0 := by
  unfold tp
  rw [take_more h, List.map_append, List.sum_append]; simp
theorem bd_sums {B : Nat} : ∀ l : List Int, (∀ x ∈ l, Bd B x) → Bd (B + l.length) l.sum
  | [], _ => by show Bd (B + 0) 0; unfold Bd; exact Nat.two_pow_pos _
  | x :: l, h => by
    have := bd_sums l fun y hy => h y (List.mem_cons_of_mem _ hy)
    rw [List.sum_cons, Int.add_comm]
    exact bd_add this ((h x List.mem_cons_self).mono (Nat.le_add_right _ _))
section
variable {P : Program} {w : World} {K : Fr} {mg : Str → Option Value} {base : Heap}
def sp_law_paper_cost (K : Fr) : Sp := spx 5 fun vs H Q _ => ∃ (u v r : V) (p q : Int) (ps qs : Prs) (ws : Ws) (rows : Rows), vs = [u, v, r, .int p, .int q] ∧ RPr (RPrs K) (RPrs K) H u (ps, qs) ∧ RWs H v ws ∧ RRows H r rows ∧ ps.length = ws.length ∧ ws.length ≤ rows.length ∧ ws.length ≤ 20 ∧ ws ≠ [] ∧ qs.length ≤ 60 ∧ qs ≠ [] ∧
  (∀ y ∈ ps ++ qs, 0 < y.2.2 ∧ Bd 1700 y.2.2 ∧ Bd 1700 y.2.1 ∧ 0 ≤ y.2.1) ∧ (∀ x ∈ ws, 0 ≤ x.2) ∧ Bd 100 (tot ws) ∧ Bd 100 p ∧ Bd 100 q ∧
  (∀ c, 0 < c → (∀ y ∈ ps ++ qs, y.2.2 ∣ c) → ∀ (i : Nat) (y : Str × (Int × Int)), ps[i]? = some y → c ≤ am c y + tp c qs (rows.getD i (Str.empty, [])).2) ∧
  ∀ (o : Addr) c H', Same H H' → 0 < c → Bd 260000 c → (∀ y ∈ ps ++ qs, y.2.2 ∣ c) → H' o = some (.lst [.int (((ws.zip ps).map fun z => z.1.2 * am c z.2).sum * q + (if q < p then q else p) * tot ws * (qs.map (am c)).sum), .int (tot ws * q * c)]) → H o = none → Q (.ref o) H'
theorem sc_law_paper_cost : FnScope ["_law_paper", "_law_words_here", "_law_rows_here", "_law_over", "_law_under_here", "_law_whole", "_law_common", "_law_pair", "_law_firsts", "_law_seconds", "_law_at", "_law_total", "_law_amount", "_law_due", "_law_word"] ["_law_paper", "_law_words_here", "_law_rows_here", "_law_over", "_law_under_here"] (defScope s_law_paper_cost) := ⟨rfl, rfl, rfl, by decide +kernel, rfl, by decide +kernel, by decide +kernel⟩
theorem c_law_paper_cost (T : Tx K mg) (G_law_under : Cal P w K mg base 1 "_law_under" ["_law_pairs_here"] (sp_law_under K)) : Cal P w K mg base 2 "_law_paper_cost" ["_law_paper", "_law_words_here", "_law_rows_here", "_law_over", "_law_under_here"] (sp_law_paper_cost K) := by
  refine T.cal 72 rfl 44 rfl sc_law_paper_cost (fun _ _ _ _ h => h.1) (fun _ _ _ _ _ _ us hl => match us, hl with | [_, _, _, _, _], _ => rfl) (fun cdv A outer s H vs Q E hr h => ?_)
  have nd := sc_law_paper_cost.nd
  have hu := hu_of hr
  refine ⟨_, (pss_cons (ps_set (i := 5) nd rfl (Or.inl rfl) (pe_callB (cr_sum rfl) (by rfl) T.f_sum (by decide +kernel) (pa_cons (pe_lc (own := [("_law_word", 14)]) (g := (gName 14)) (tt := tYes) (by rfl) nd (pi_list (pv 1)) (blkOk_by (own := [("_law_word", 14)]) (N := ["_law_paper", "_law_words_here", "_law_rows_here", "_law_over", "_law_under_here", "_law_whole", "_law_common", "_law_pair", "_law_firsts", "_law_seconds", "_law_at", "_law_total", "_law_amount", "_law_due", "_law_word"]) (sc := defScope s_law_paper_cost) (by decide +kernel)) (fun _ _ _ _ _ => (pg_name (i := 14) nd rfl (Or.inl rfl))) (fun _ _ _ _ _ => pts_nil) (fun _ _ _ _ _ => (pe_ix (ix_tupK (K := K)) (pv 14) pe_int (fun _ _ => rfl)))) pa_nil)))
      (pss_cons (ps_set (i := 6) nd rfl (Or.inr rfl) (pe_cal G_law_under (hr.mono (by decide)) (pa_cons (pe_op op_catA (pe_ix (ix_tupK (K := K)) (pv 0) pe_int (fun _ _ => rfl)) (pe_ix (ix_tupK (K := K)) (pv 0) pe_int (fun _ _ => rfl))) pa_nil)))
      (pss_cons (ps_setLc (i := 8) (own := [("_law_pair", 7)]) (g := (gName 7)) (tt := tYes) (by rfl) nd rfl rfl (sw_true rfl rfl rfl (by decide +kernel)) (pi_tup (pe_ix (ix_tupK (K := K)) (pv 0) pe_int (fun _ _ => rfl))) (blkOk_by (own := [("_law_pair", 7)]) (N := ["_law_paper", "_law_words_here", "_law_rows_here", "_law_over", "_law_under_here", "_law_whole", "_law_common", "_law_pair", "_law_firsts", "_law_seconds", "_law_at", "_law_total", "_law_amount", "_law_due", "_law_word"]) (sc := defScope s_law_paper_cost) (by decide +kernel)) (fun _ _ _ _ _ => (pg_name (i := 7) nd rfl (Or.inl rfl))) (fun _ _ _ _ _ => pts_nil) (fun _ _ _ _ _ => (pe_op op_mulW (pe_fldK (K := K) (pe_ix (ix_tupK (K := K)) (pv 7) pe_int (fun _ _ => rfl)) rfl) (pe_op op_fdivW (pv 6) (pe_fldK (K := K) (pe_ix (ix_tupK (K := K)) (pv 7) pe_int (fun _ _ => rfl)) rfl)))))
      (pss_cons (ps_setLc (i := 9) (own := [("_law_pair", 7)]) (g := (gName 7)) (tt := tYes) (by rfl) nd rfl rfl (sw_true rfl rfl rfl (by decide +kernel)) (pi_tup (pe_ix (ix_tupK (K := K)) (pv 0) pe_int (fun _ _ => rfl))) (blkOk_by (own := [("_law_pair", 7)]) (N := ["_law_paper", "_law_words_here", "_law_rows_here", "_law_over", "_law_under_here", "_law_whole", "_law_common", "_law_pair", "_law_firsts", "_law_seconds", "_law_at", "_law_total", "_law_amount", "_law_due", "_law_word"]) (sc := defScope s_law_paper_cost) (by decide +kernel)) (fun _ _ _ _ _ => (pg_name (i := 7) nd rfl (Or.inl rfl))) (fun _ _ _ _ _ => pts_nil) (fun _ _ _ _ _ => (pe_op op_mulW (pe_fldK (K := K) (pe_ix (ix_tupK (K := K)) (pv 7) pe_int (fun _ _ => rfl)) rfl) (pe_op op_fdivW (pv 6) (pe_fldK (K := K) (pe_ix (ix_tupK (K := K)) (pv 7) pe_int (fun _ _ => rfl)) rfl)))))
      (pss_cons (ps_if (PW.pt (pw_or (pt_cmpR op_lt (pe_callB (cr_min rfl) (by rfl) T.f_min (by decide +kernel) (pa_cons (pv 8) pa_nil)) pe_int (nomark _)) (pw_or1 (pt_cmpR op_lt (pe_callB (cr_min rfl) (by rfl) T.f_min (by decide +kernel) (pa_cons (pv 9) pa_nil)) pe_int (nomark _))))) (pss_one (ps_ret pe_non)) pss_nil)
      (pss_cons (ps_for PassesOwn.never rfl (pi_range1 rfl T.f_range (pa_cons (pe_callB (call_lenK (K := K)) (by rfl) T.f_len (by decide +kernel) (pa_cons (pv 1) pa_nil)) pa_nil)) (pg_name (i := 10) nd rfl (Or.inl rfl)) (pss_cons (ps_set (i := 11) nd rfl (Or.inl rfl) (pe_ix (ix_listK (K := K)) (pv 8) (pv 10) (fun _ _ => rfl)))
      (pss_cons (ps_for PassesOwn.never rfl (pi_zipK (by rfl) T.f_zip (pa_cons (pe_ix (ix_tupK (K := K)) (pv 0) pe_int (fun _ _ => rfl)) (pa_cons (pv 9) pa_nil))) (pg_tupK (K := K) 2 rfl (pgs_cons (pg_name (i := 7) nd rfl (Or.inl rfl)) (pgs_cons (pg_name (i := 12) nd rfl (Or.inl rfl)) pgs_nil))) (pss_one (ps_if (pt_cmpR (op_inK (K := K)) (pe_ix (ix_tupK (K := K)) (pv 7) pe_int (fun _ _ => rfl)) (pe_ix (ix_tupK (K := K)) (pe_ix (ix_listK (K := K)) (pv 2) (pv 10) (fun _ _ => rfl)) pe_int (fun _ _ => rfl)) (by rfl)) (pss_one (ps_set (i := 11) nd rfl (Or.inl rfl) (pe_op op_add (pv 11) (pv 12)))) pss_nil)))
      (pss_one (ps_if (pt_cmpR op_lt (pv 11) (pv 6) (nomark _)) (pss_one (ps_ret pe_non)) pss_nil)))))
      (pss_cons (ps_set (i := 13) nd rfl (Or.inl rfl) (pe_op op_mulW (pe_callB (cr_sum rfl) (by rfl) T.f_sum (by decide +kernel) (pa_cons (pe_lc (own := [("_law_word", 14), ("_law_amount", 12)]) (g := (gTup K 2 (gCons (gName 14) (gCons (gName 12) gNil)))) (tt := tYes) (by rfl) nd (pi_zipK (by rfl) T.f_zip (pa_cons (pv 1) (pa_cons (pv 8) pa_nil))) (blkOk_by (own := [("_law_word", 14), ("_law_amount", 12)]) (N := ["_law_paper", "_law_words_here", "_law_rows_here", "_law_over", "_law_under_here", "_law_whole", "_law_common", "_law_pair", "_law_firsts", "_law_seconds", "_law_at", "_law_total", "_law_amount", "_law_due", "_law_word"]) (sc := defScope s_law_paper_cost) (by decide +kernel)) (fun _ _ _ _ _ => (pg_tupK (K := K) 2 rfl (pgs_cons (pg_name (i := 14) nd rfl (Or.inl rfl)) (pgs_cons (pg_name (i := 12) nd rfl (Or.inl rfl)) pgs_nil)))) (fun _ _ _ _ _ => pts_nil) (fun _ _ _ _ _ => (pe_op op_mulW (pe_ix (ix_tupK (K := K)) (pv 14) pe_int (fun _ _ => rfl)) (pv 12)))) pa_nil)) (pv 4)))
      (pss_one (ps_ret (pe_lst (pa_cons (pe_op op_add (pv 13) (pe_op op_mulW (pe_op op_mulW (pe_callB (call_min2 rfl) (by rfl) T.f_min (by decide +kernel) (pa_cons (pv 3) (pa_cons (pv 4) pa_nil))) (pv 5)) (pe_callB (cr_sum rfl) (by rfl) T.f_sum (by decide +kernel) (pa_cons (pv 9) pa_nil)))) (pa_cons (pe_op op_mulW (pe_op op_mulW (pv 5) (pv 4)) (pv 6)) pa_nil)))))))))))), ?_⟩
  obtain ⟨_, u, v, r, p, q, ps, qs, ws, rows, rfl, hu1, hv1, hr1, pl, wr, wl, wne, ql, qne, pos, wpos, tb, pb, qb, h1, k⟩ := h
  obtain ⟨va, vv, rfl, hva, hvp⟩ := id hv1
  obtain ⟨ra, rv, rfl, hra, hrp⟩ := id hr1
  have rlen := paired_len hrp
  have vl := paired_len hvp
  obtain ⟨ua, up, uq, rfl, hua, hps, hqs⟩ := id hu1
  obtain ⟨pa, pv, rfl, hpa, hpp⟩ := id hps
  obtain ⟨qa, qv, rfl, hqa, hqp⟩ := id hqs
  have plen := paired_len hpp
  have qlen := paired_len hqp
  refine ⟨_, rfl, va, rfl, ⟨_, SqL.of hva⟩, fun C hC => ?_⟩
  refine lc_new (n := vv.length) walk_list (stepS H) RInt (fun i bs => bs = (ws.map (·.2)).take i) hC (fun H' e => SqL.of (e _ _ hva)) (fun i H x H' y => yAt_same y) (by rw [vl]; exact sz_lt (by omega)) rfl (fun i x bs G1 G2 Kc Rc hi hb e1 e2 _ hy k1 _ => ?_) (fun H1 ys bs e1 hv hr hb => ?_)
  · obtain ⟨y, hy2, ⟨z, u1, u2, rfl, hz, r1, rfl⟩⟩ := paired_get hvp hy.2
    refine ⟨rfl, yes_t ⟨_, rfl, z, _, 1, _, rfl, rfl, SqT.of (e2 _ _ hz), rfl, k1 y.2 _ _ (Same.refl _) rfl ?_⟩⟩
    rw [hb, take_more]
    rw [List.getElem?_map, hy2]; rfl
  rw [vl, List.take_of_length_le (by rw [List.length_map]; exact Nat.le_refl _)] at hb
  have hC1 := same_fr _ _ (lstI_at hr)
  refine ⟨C, bs, rfl, SqL.of hC1, ?_⟩
  rw [hb]
  -- the common lower part
  have e1a := e1 _ _ hua
  have pne : ps ≠ [] := fun e => wne (List.eq_nil_of_length_eq_zero (by rw [← pl, e]; rfl))
  have qlen : qv.length = qs.length := qlen
  have plen : pv.length = ps.length := plen
  have pos1 := fun y (hy : y ∈ ps) => pos y (List.mem_append_left _ hy)
  have pos2 := fun y (hy : y ∈ qs) => pos y (List.mem_append_right _ hy)
  refine ⟨_, rfl, ua, _, 0, _, rfl, rfl, SqT.of e1a, rfl, _, rfl, ua, _, 1, _, rfl, rfl, SqT.of e1a, rfl, pa, qa, pv, qv, rfl, rfl, SqT.of (e1 _ _ hpa), SqT.of (e1 _ _ hqa), by rw [plen, qlen, sizeLine_eq]; omega, fun e => absurd (List.eq_nil_of_length_eq_zero (by rw [← plen, e]; rfl)) pne, fun _ e => absurd (List.eq_nil_of_length_eq_zero (by rw [← qlen, e]; rfl)) qne, fun _ _ Tc hT => ?_⟩
  have e01 : Same H (upd H1 Tc (.tup (pv ++ qv))) := e1.trans (same_new hT)
  refine ⟨rfl, .ref Tc, ps ++ qs, rfl, ⟨Tc, _, rfl, upd_same, paired_app (paired_up hpp fun a b h => Mo.up e01 h) (paired_up hqp fun a b h => Mo.up e01 h)⟩, (fun y hy => ⟨(pos y hy).1, (pos y hy).2.1⟩), by rw [List.length_append]; omega, fun c H2 e2 c0 cb dv => ?_⟩
  have e02 := e01.trans e2
  have dv1 := fun y (hy : y ∈ ps) => dv y (List.mem_append_left _ hy)
  have dv2 := fun y (hy : y ∈ qs) => dv y (List.mem_append_right _ hy)
  have e2a := e02 _ _ hua
  refine ⟨_, rfl, ua, _, 0, _, rfl, rfl, SqT.of e2a, rfl, pa, rfl, ⟨_, SqT.of (e02 _ _ hpa)⟩, fun E' hE' => ?_⟩
  refine lc_new (n := pv.length) walk_tup (stepS H2) RInt (fun i bs => bs = (ps.map (am c)).take i) hE' (fun H' e => SqT.of (e _ _ (e02 _ _ hpa))) (fun i H x H' y => yAt_same y) (by rw [plen]; exact sz_lt (by omega)) rfl (fun i x bs G1 G2 Kc Rc hi hb e3 e4 _ hy k1 _ => ?_) (fun H3 ys3 bs3 e3 hv3 hr3 hb3 => ?_)
  · obtain ⟨y, hy2, ⟨z, u1, u2, rfl, hz, r1, ⟨sp, sdx, rfl, hsp⟩⟩⟩ := paired_get hpp hy.2
    obtain ⟨y0, y1, y2, _⟩ := pos1 y (List.mem_of_getElem? hy2)
    have e04 := e02.trans e4
    have cd : Bd 260000 (c / y.2.2) := Nat.lt_of_le_of_lt (Int.natAbs_ediv_le_natAbs _ _) cb
    refine ⟨rfl, yes_t ⟨_, rfl, z, _, 1, _, rfl, rfl, SqT.of (e04 _ _ hz), rfl, sp, _, sdx, _, _, rfl, e04 _ _ hsp, T.cl_Share, T.n_Share_over, shF_over, _, rfl, _, rfl, z, _, 1, _, rfl, rfl, SqT.of (e04 _ _ hz), rfl, sp, _, sdx, _, _, rfl, e04 _ _ hsp, T.cl_Share, T.n_Share_under, shF_under, _, _, rfl, rfl, wdiv y0 y1 (by decide), _, _, rfl, rfl, wmul y2 cd (by decide), k1 (am c y) _ _ (Same.refl _) rfl ?_⟩⟩
    rw [hb, take_more]
    rw [List.getElem?_map, hy2]; rfl
  rw [plen, List.take_of_length_le (by rw [List.length_map]; exact Nat.le_refl _)] at hb3
  subst hb3
  have hE3 := same_fr _ _ (lstI_at hr3)
  have e03 := e02.trans e3
  have e3a := e03 _ _ hua
  refine ⟨_, rfl, ua, _, 1, _, rfl, rfl, SqT.of e3a, rfl, qa, rfl, ⟨_, SqT.of (e03 _ _ hqa)⟩, fun F' hF' => ?_⟩
  refine lc_new (n := qv.length) walk_tup (stepS H3) RInt (fun i bs => bs = (qs.map (am c)).take i) hF' (fun H' e => SqT.of (e _ _ (e03 _ _ hqa))) (fun i H x H' y => yAt_same y) (by rw [qlen]; exact sz_lt (by omega)) rfl (fun i x bs G1 G2 Kc Rc hi hb e3 e4 _ hy k1 _ => ?_) (fun H4 ys4 bs4 e4 hv4 hr4 hb4 => ?_)
  · obtain ⟨y, hy2, ⟨z, u1, u2, rfl, hz, r1, ⟨sp, sdx, rfl, hsp⟩⟩⟩ := paired_get hqp hy.2
    obtain ⟨y0, y1, y2, _⟩ := pos2 y (List.mem_of_getElem? hy2)
    have e04 := e03.trans e4
    have cd : Bd 260000 (c / y.2.2) := Nat.lt_of_le_of_lt (Int.natAbs_ediv_le_natAbs _ _) cb
    refine ⟨rfl, yes_t ⟨_, rfl, z, _, 1, _, rfl, rfl, SqT.of (e04 _ _ hz), rfl, sp, _, sdx, _, _, rfl, e04 _ _ hsp, T.cl_Share, T.n_Share_over, shF_over, _, rfl, _, rfl, z, _, 1, _, rfl, rfl, SqT.of (e04 _ _ hz), rfl, sp, _, sdx, _, _, rfl, e04 _ _ hsp, T.cl_Share, T.n_Share_under, shF_under, _, _, rfl, rfl, wdiv y0 y1 (by decide), _, _, rfl, rfl, wmul y2 cd (by decide), k1 (am c y) _ _ (Same.refl _) rfl ?_⟩⟩
    rw [hb, take_more]
    rw [List.getElem?_map, hy2]; rfl
  rw [qlen, List.take_of_length_le (by rw [List.length_map]; exact Nat.le_refl _)] at hb4
  subst hb4
  have hF4 := same_fr _ _ (lstI_at hr4)
  have hE4 := e4 _ _ hE3
  have e04 := e03.trans e4
  have am0 : ∀ y ∈ ps ++ qs, 0 ≤ am c y := fun y hy => Int.mul_nonneg (pos y hy).2.2.2 (Int.ediv_nonneg (by omega) (by have := (pos y hy).1; omega))
  have amb : ∀ y ∈ ps ++ qs, Bd 261700 (am c y) := fun y hy => bd_am (pos y hy).1 cb (pos y hy).2.2.1
  have mn1 : ∀ m ∈ ps.map (am c), ¬ m < 0 := fun m hm lt => by
    obtain ⟨y, hy, rfl⟩ := List.mem_map.mp hm
    have := am0 y (List.mem_append_left _ hy); omega
  have mn2 : ∀ m ∈ qs.map (am c), ¬ m < 0 := fun m hm lt => by
    obtain ⟨y, hy, rfl⟩ := List.mem_map.mp hm
    have := am0 y (List.mem_append_right _ hy); omega
  have pl0 : 0 < ps.length := Nat.pos_of_ne_zero fun e => pne (List.eq_nil_of_length_eq_zero e)
  have ql0 : 0 < qs.length := Nat.pos_of_ne_zero fun e => qne (List.eq_nil_of_length_eq_zero e)
  refine ⟨_, rfl, E', _, rfl, SqL.of hE4, by rw [List.length_map]; exact pl0, fun m1 hm1 _ => ?_⟩
  refine ⟨_, _, rfl, rfl, _, rfl, iteN (mn1 _ hm1) ⟨_, rfl, F', _, rfl, SqL.of hF4, by rw [List.length_map]; exact ql0, fun m2 hm2 _ => ⟨_, _, rfl, rfl, _, rfl, iteN (mn2 _ hm2) ?_⟩⟩⟩
  have hva4 := e04 _ _ hva
  refine ⟨_, rfl, va, _, rfl, .inl (SqL.of hva4), _, rfl, by omega, by rw [vl]; omega, ?_⟩
  rw [vl]
  refine for_range (lo := 0) (n := ((ws.length : Nat) : Int).toNat) (fun j σ H'' => ∃ u7 u10 u11 u12, σ = [some (.ref ua), some (.ref va), some (.ref ra), some (.int p), some (.int q), some (.int (ws.map (·.2)).sum), some (.int c), u7, some (.ref E'), some (.ref F'), u10, u11, u12, none, none] ∧ Same H4 H'') ⟨none, none, none, none, rfl, Same.refl _⟩ ?_ ?_
  · rintro j σ H5 hj ⟨u7, u10, u11, u12, rfl, e5⟩
    rw [Int.toNat_natCast] at hj
    have e05 := e04.trans e5
    have ix : (0 + (j : Int)) = (j : Int) := Int.zero_add _
    have hpj : ps[j]? = some ps[j] := List.getElem?_eq_getElem (by omega)
    have hrow : rows[j]? = some rows[j] := List.getElem?_eq_getElem (by omega)
    obtain ⟨rw1, hrv1, ⟨z, z1, z2, rfl, hz, rz, hz2⟩⟩ := paired_get' hrp hrow
    obtain ⟨lb, rfl, hlb⟩ := hz2.strs
    have hE5 := e5 _ _ hE4
    have hF5 := e5 _ _ hF4
    refine ⟨_, rfl, _, rfl, E', _, (0 + (j : Int)), .int (am c ps[j]), rfl, rfl, SqL.of hE5, by rw [ix]; exact atI_nat (by rw [List.getElem?_map, List.getElem?_map, hpj]; rfl), ?_⟩
    refine ⟨_, rfl, ua, _, 1, _, rfl, rfl, SqT.of (e05 _ _ hua), rfl, _, rfl, .t qa, .l F', qv, (qs.map (am c)).map V.int, rfl, SqT.of (e05 _ _ hqa), SqL.of hF5, for_zipK (xs := qv) (ys := (qs.map (am c)).map V.int) (by rw [List.length_map, List.length_map, qlen]) (fun i σ H' => ∃ u7 u12, σ = [some (.ref ua), some (.ref va), some (.ref ra), some (.int p), some (.int q), some (.int (ws.map (·.2)).sum), some (.int c), u7, some (.ref E'), some (.ref F'), some (.int (0 + (j : Int))), some (.int (am c ps[j] + tp c (qs.take i) rows[j].2)), u12, none, none] ∧ Same H5 H') ⟨u7, u12, by rw [show tp c (qs.take 0) rows[j].2 = 0 from rfl, Int.add_zero]; rfl, Same.refl _⟩ (fun i σ H' ⟨_, _, _, e⟩ => ⟨SqT.of ((e05.trans e) _ _ hqa), SqL.of (e _ _ hF5)⟩) ?_ ?_⟩
    · rintro i x y T2 σ H6 hi hj2 ⟨u7, u12, rfl, e6⟩ hT2
      obtain ⟨w1, hw1, ⟨z3, y1, y2, rfl, hz3, rfl, hsh⟩⟩ := paired_get hqp hi
      have hw1 : qs[i]? = some w1 := hw1
      rw [List.getElem?_map, List.getElem?_map, hw1] at hj2
      have hj2 : some (V.int (am c w1)) = some y := hj2
      cases hj2
      have e7 : Same H5 (upd H6 T2 (.tup [.ref z3, .int (am c w1)])) := e6.trans (same_new hT2)
      have e07 := e05.trans e7
      have ts := tp_succ c qs rows[j].2 hw1
      refine ⟨T2, _, rfl, SqT.of upd_same, rfl, _, _, rfl, _, _, rfl, rfl, ?_⟩
      refine ⟨_, rfl, z3, _, 0, _, rfl, rfl, SqT.of (e07 _ _ hz3), rfl, _, rfl, _, rfl, ra, _, (0 + (j : Int)), .ref z, rfl, rfl, SqL.of (e07 _ _ hra), by rw [ix]; exact atI_nat hrv1, z, _, 1, _, rfl, rfl, SqT.of (e07 _ _ hz), rfl, lb, _, rfl, .inl (SqL.of (e07 _ _ hlb)), rfl, flat_strs _, _, rfl, ?_⟩
      rw [show (if false = true then !inV (V.str w1.1) (rows[j].2.map V.str) else inV (V.str w1.1) (rows[j].2.map V.str)) = inV (V.str w1.1) (rows[j].2.map V.str) from rfl, inV_str]
      by_cases m0 : w1.1 ∈ rows[j].2
      · rw [if_pos m0] at ts
        refine iteD m0 ⟨_, rfl, _, rfl, _, _, rfl, rfl, some (.ref z3), some (.int (am c w1)), ?_, e7⟩
        rw [ts, ← Int.add_assoc]; rfl
      · rw [if_neg m0] at ts
        refine iteN m0 ⟨some (.ref z3), some (.int (am c w1)), ?_, e7⟩
        rw [ts, Int.add_zero]; rfl
    · rintro σ H6 ⟨u7, u12, rfl, e6⟩
      rw [qlen, List.take_of_length_le (Nat.le_refl _)]
      have key := h1 c c0 dv j _ hpj
      rw [show rows.getD j (Str.empty, []) = rows[j] by rw [List.getD_eq_getElem?_getD, hrow]; rfl] at key
      refine ⟨_, rfl, _, rfl, _, _, rfl, rfl, _, rfl, ?_⟩
      exact iteN (by omega) ⟨_, _, _, _, rfl, e5.trans e6⟩
  · rintro σ H5 ⟨u7, u10, u11, u12, rfl, e5⟩
    have e05 := e04.trans e5
    have hE5 := e5 _ _ hE4
    have hF5 := e5 _ _ hF4
    have hva5 := e05 _ _ hva
    refine ⟨_, rfl, _, rfl, .l va, .l E', vv, (ps.map (am c)).map V.int, rfl, SqL.of hva5, SqL.of hE5, fun S hS => ?_⟩
    refine lc_new (n := vv.length) (walk_zipK (by rw [List.length_map, List.length_map, vl, pl])) (stepS H5) RInt (fun i bs => bs = ((ws.zip ps).map fun z => z.1.2 * am c z.2).take i) hS
        (fun H'' e => ⟨SqL.of (e _ _ hva5), SqL.of (e _ _ hE5)⟩) (fun j H'' x H3 y => yPair_same y) (by rw [vl]; exact sz_lt (by omega)) rfl (fun i x bs G1 G2 Kc Rc hi hb e6 e7 _ hy k1 _ => ?_) (fun H6 ys6 bs6 e6 hv6 hr6 hb6 => ?_)
    · obtain ⟨TT, x1, x2, rfl, hTT, rfl, hx1, hx2⟩ := hy
      obtain ⟨w1, hw1, ⟨z, y1, y2, rfl, hz, r1, rfl⟩⟩ := paired_get hvp hx1
      have il : i < ps.length := by omega
      have hps : ps[i]? = some ps[i] := List.getElem?_eq_getElem il
      have hx2 : ((ps.map (am c)).map V.int)[i]? = some x2 := hx2
      rw [List.getElem?_map, List.getElem?_map, hps] at hx2
      have hx2 : some (V.int (am c ps[i])) = some x2 := hx2
      cases hx2
      have e07 := e05.trans e7
      have wb : Bd 100 w1.2 := by
        have a1 := wpos _ (List.mem_of_getElem? hw1)
        have a2 := tot_ge wpos (List.mem_of_getElem? hw1)
        unfold Bd at *; omega
      refine ⟨TT, _, rfl, SqT.of upd_same, rfl, _, _, rfl, _, _, rfl, rfl, rfl, yes_t ?_⟩
      refine ⟨_, rfl, z, _, 1, _, rfl, rfl, SqT.of (e07 _ _ hz), rfl, _, rfl, _, _, rfl, rfl, wmul wb (amb _ (List.mem_append_left _ (List.getElem_mem il))) (by decide), k1 (w1.2 * am c ps[i]) _ _ (Same.refl _) rfl ?_⟩
      rw [hb, take_more]
      rw [List.getElem?_map, (List.getElem?_zip_eq_some (z := (w1, ps[i]))).mpr ⟨hw1, hps⟩]; rfl
    have zl : ((ws.zip ps).map fun z => z.1.2 * am c z.2).length = vv.length := by rw [List.length_map, List.length_zip, vl, pl, Nat.min_self]
    rw [List.take_of_length_le (by rw [zl]; exact Nat.le_refl _)] at hb6
    subst hb6
    have hS6 := same_fr _ _ (lstI_at hr6)
    have zb : Bd (262000 + 20) ((ws.zip ps).map fun z => z.1.2 * am c z.2).sum := (bd_sums (B := 262000) _ fun x hx => by
      obtain ⟨z, hz, rfl⟩ := List.mem_map.mp hx
      have z1 := (List.of_mem_zip hz)
      have a1 := wpos _ z1.1
      have a2 := tot_ge wpos z1.1
      exact (bd_mul (a := 100) (b := 261700) (by unfold Bd at *; omega) (amb _ (List.mem_append_left _ z1.2))).mono (by decide)).mono (by rw [zl, vl]; omega)
    refine ⟨S, _, rfl, SqL.of hS6, _, rfl, _, _, rfl, rfl, wmul zb qb (by decide), ?_⟩
    have mb : Bd 100 (if q < p then q else p) := by split; exact qb; exact pb
    have sb : Bd (261700 + 60) (qs.map (am c)).sum := (bd_sums (B := 261700) _ fun x hx => by
      obtain ⟨z, hz, rfl⟩ := List.mem_map.mp hx
      exact amb _ (List.mem_append_right _ hz)).mono (by rw [List.length_map]; omega)
    have totE : (ws.map (·.2)).sum = tot ws := rfl
    rw [totE]
    refine ⟨_, rfl, _, rfl, _, rfl, _, _, rfl, _, rfl, _, _, rfl, rfl, wmul mb tb (by decide), _, rfl, F', _, rfl, SqL.of (e6 _ _ hF5), _, _, rfl, rfl, wmul (bd_mul mb tb) sb (by decide), _, _, rfl, rfl, _, rfl, _, rfl, _, _, rfl, rfl, wmul tb qb (by decide), _, rfl, _, _, rfl, rfl, wmul (bd_mul tb qb) cb (by decide), by show 2 ≤ sizeLine; decide, fun o ho => ?_⟩
    exact k o c _ ((e05.trans e6).trans (same_new ho)) c0 cb dv upd_same ((e05.trans e6).free ho)
end
end MH
/-! part Q2 -/
set_option Elab.async false
set_option linter.all false
set_option maxRecDepth 100000
set_option maxHeartbeats 4000000
namespace MH
open PySem PySem.Spec PyProof.Rows L2
open MK (sm sm_congr sm_mul sm_split sm_one sm_zero sm_le sm_nonneg sm_add sm_swap)
theorem sum_rng (f : Nat → Int) : ∀ n, ((List.range n).map f).sum = sm n f
  | 0 => rfl
  | n + 1 => by rw [List.range_succ, List.map_append, List.sum_append, sum_rng f n]; show _ + (f n + 0) = sm n f + f n; omega
theorem plc_mem {ks : List Str} {rd : Str → List Str} {n j : Nat} {r : Str} : (j : Int) ∈ plc ks rd n r ↔ j < n ∧ r ∈ rd (ks.getD j Str.empty) := by
  unfold plc
  rw [List.mem_map]
  constructor
  · rintro ⟨q, hq, e⟩
    have : q = j := by exact_mod_cast e
    subst this
    obtain ⟨a, b⟩ := List.mem_filter.mp hq
    exact ⟨List.mem_range.mp a, of_decide_eq_true b⟩
  · rintro ⟨a, b⟩
    exact ⟨j, List.mem_filter.mpr ⟨List.mem_range.mpr a, decide_eq_true b⟩, rfl⟩
/-- the sum over the texts whose readable ones hold r -/
def hld (ks : List Str) (rd : Str → List Str) (f : Nat → Int) (r : Str) : Int := sm ks.length fun i => f i * (if r ∈ rd (ks.getD i Str.empty) then 1 else 0)
structure Fea (ws : Ws) (rows : Rows) (s : Int × Int) (f : Nat → Int) (t : Int) : Prop where
  nn : ∀ i, i < ws.length → 0 ≤ f i
  own : ∀ i x, ws[i]? = some x → f i * tot ws ≤ x.2 * t
  lev : ∀ r, hld (ws.map (·.1)) (rdOf rows) f r * (lmin s).2 ≤ (lmin s).1 * t
section
variable {ws : Ws} {rows : Rows} {s : Int × Int} {D : PkD} {t : MK.TS}
theorem own_ent {i j : Nat} (hi : i < D.texts.length) (hj : j < D.texts.length) : ent D.tab i j = if j = i then 1 else 0 := by
  have sl := sides_len D
  rw [ent_own D (by omega) hj, side_own D hi]
  by_cases c : j = i
  · rw [if_pos c, if_pos (by rw [c]; exact List.mem_singleton.mpr rfl)]
  · rw [if_neg c, if_neg (fun z => c (by have := List.mem_singleton.mp z; omega))]
theorem grp_ent (ok : PkOk ws rows s D) {g j : Nat} (hg : g < D.groups.length) (hj : j < D.texts.length) : ent D.tab (D.texts.length + g) j = if D.readers.getD g Str.empty ∈ rdOf rows (D.texts.getD j Str.empty) then 1 else 0 := by
  have sl := sides_len D
  have gl : D.groups.length = D.readers.length := by rw [ok.groups, List.length_map]
  rw [ent_own D (by omega) hj, side_grp]
  have e : D.groups.getD g [] = plc D.texts (rdOf rows) D.texts.length (D.readers.getD g Str.empty) := by
    rw [List.getD_eq_getElem?_getD]
    have q : D.groups[g]? = some (plc D.texts (rdOf rows) D.texts.length (D.readers.getD g Str.empty)) := by
      have h : D.readers[g]? = some (D.readers.getD g Str.empty) := by rw [List.getD_eq_getElem?_getD, List.getElem?_eq_getElem (by omega)]; rfl
      rw [ok.groups, List.getElem?_map, h]; rfl
    rw [q]; rfl
  rw [e]
  by_cases c : D.readers.getD g Str.empty ∈ rdOf rows (D.texts.getD j Str.empty)
  · rw [if_pos c, if_pos (plc_mem.mpr ⟨hj, c⟩)]
  · rw [if_neg c, if_neg (fun z => c (plc_mem.mp z).2)]
theorem own_end (ok : PkOk ws rows s D) {u : Int} (hb : D.bounds = ws.map (fun x => x.2 * u)) {i : Nat} {x : Str × Int} (hx : ws[i]? = some x) : ent D.tab i (D.texts.length + D.sides.length) = x.2 * u := by
  have sl := sides_len D
  have il : i < D.texts.length := by rw [ok.texts, List.length_map]; exact (List.getElem?_eq_some_iff.mp hx).1
  rw [ent_end D (by omega), end_own D ok.sz.bounds il, hb, List.getD_eq_getElem?_getD, List.getElem?_map, hx]; rfl
theorem grp_end (ok : PkOk ws rows s D) {g : Nat} (hg : g < D.groups.length) : ent D.tab (D.texts.length + g) (D.texts.length + D.sides.length) = D.lev := by
  have sl := sides_len D
  rw [ent_end D (by omega), end_grp D ok.sz.bounds hg]
theorem lmin_pos {s : Int × Int} (s1 : 0 < s.1) (s2 : 0 < s.2) : 0 < (lmin s).1 ∧ 0 < (lmin s).2 := by unfold lmin; split <;> simp_all
/-- no feasible one is worth more -/
theorem fea_le (S : Slv ws rows s D t) (wok : WOk ws) (s1 : 0 < s.1) (s2 : 0 < s.2) {f : Nat → Int} {T : Int} (F : Fea ws rows s f T) :
    sm D.texts.length f * (t.d * D.unit) ≤ t.T D.sides.length (D.texts.length + D.sides.length) * T := by
  have tb := pk_tab S.pk wok s1 s2
  obtain ⟨u, v, u0, v0, U1, U2, hb, hl⟩ := S.pk.unit
  have sl := sides_len D
  have tl : D.texts.length = ws.length := by rw [S.pk.texts, List.length_map]
  have e := MK.weak (m := D.sides.length) (n := D.texts.length) (y := fun k => t.T D.sides.length (D.texts.length + k)) (f := f) (b := fun k => ent D.tab k (D.texts.length + D.sides.length)) (a := ent D.tab) (d := t.d) (u := D.unit) (t := T)
    (fun k hk => S.best _ (by omega)) (fun i hi => MK.price_ge S.ok tb.pk S.best hi) (fun i hi => F.nn i (by omega)) (by have := tb.one; omega) (fun k hk => ?_)
  · rw [← MK.price_sum S.ok tb.pk] at e
    rw [← Int.mul_assoc]; exact e
  · by_cases c : k < D.texts.length
    · have hx : ws[k]? = some ws[k] := List.getElem?_eq_getElem (by omega)
      show sm D.texts.length (fun i => f i * ent D.tab k i) * D.unit ≤ ent D.tab k (D.texts.length + D.sides.length) * T
      rw [own_end S.pk hb hx, sm_one (p := k) c fun i hi ne => by rw [own_ent c hi, if_neg ne, Int.mul_zero], own_ent c c, if_pos rfl, Int.mul_one, U1]
      have := Int.mul_le_mul_of_nonneg_right (F.own k _ hx) (Int.le_of_lt u0)
      grind
    · obtain ⟨g, rfl⟩ : ∃ g, k = D.texts.length + g := ⟨k - D.texts.length, by omega⟩
      show sm D.texts.length (fun i => f i * ent D.tab (D.texts.length + g) i) * D.unit ≤ ent D.tab (D.texts.length + g) (D.texts.length + D.sides.length) * T
      rw [grp_end S.pk (by omega)]
      have h1 : sm D.texts.length (fun i => f i * ent D.tab (D.texts.length + g) i) = hld (ws.map (·.1)) (rdOf rows) f (D.readers.getD g Str.empty) := by
        unfold hld
        rw [← S.pk.texts]
        exact sm_congr fun i hi => by rw [grp_ent S.pk (by omega) hi]
      rw [h1, U2, hl]
      have := Int.mul_le_mul_of_nonneg_right (F.lev (D.readers.getD g Str.empty)) (Int.le_of_lt v0)
      grind
theorem slv_vals (S : Slv ws rows s D t) (wok : WOk ws) (s1 : 0 < s.1) (s2 : 0 < s.2) : t.T D.sides.length (D.texts.length + D.sides.length) = sm D.texts.length (xv D.sides.length (D.texts.length + D.sides.length) t) :=
  (xv_vals S.ok).sum S.ok (pk_tab S.pk wok s1 s2).pk
theorem slv_fea (S : Slv ws rows s D t) (wok : WOk ws) (s1 : 0 < s.1) (s2 : 0 < s.2) : Fea ws rows s (xv D.sides.length (D.texts.length + D.sides.length) t) (t.d * D.unit) := by
  have tb := pk_tab S.pk wok s1 s2
  have V := xv_vals S.ok
  obtain ⟨u, v, u0, v0, U1, U2, hb, hl⟩ := S.pk.unit
  obtain ⟨l1, l2⟩ := lmin_pos s1 s2
  have sl := sides_len D
  have dp := S.ok.dpos
  have up : 0 < D.unit := by have := tb.one; omega
  have tl : D.texts.length = ws.length := by rw [S.pk.texts, List.length_map]
  refine ⟨fun i hi => V.nonneg S.ok i, fun i x hx => ?_, fun r => ?_⟩
  · have il : i < D.texts.length := by rw [tl]; exact (List.getElem?_eq_some_iff.mp hx).1
    have h := V.held S.ok tb.pk (k := i) (by omega)
    rw [own_end S.pk hb hx, sm_one (p := i) il fun j hj ne => by rw [own_ent il hj, if_neg ne, Int.mul_zero], own_ent il il, if_pos rfl, Int.mul_one] at h
    have := Int.mul_le_mul_of_nonneg_right h (Int.le_of_lt (tot_pos wok.pos wok.one))
    rw [U1]; grind
  · by_cases c : plc D.texts (rdOf rows) D.texts.length r = []
    · have h0 : hld (ws.map (·.1)) (rdOf rows) (xv D.sides.length (D.texts.length + D.sides.length) t) r = 0 := by
        unfold hld
        rw [← S.pk.texts]
        refine sm_zero fun i hi => ?_
        rw [if_neg fun z => ?_, Int.mul_zero]
        have := plc_mem.mpr ⟨hi, z⟩
        rw [c] at this; exact absurd this List.not_mem_nil
      rw [h0, Int.zero_mul]
      exact Int.mul_nonneg (by omega) (Int.mul_nonneg (by omega) (by omega))
    · have m1 := S.pk.cover r c
      obtain ⟨g, hg, eg⟩ := List.getElem_of_mem m1
      have h := V.held S.ok tb.pk (k := D.texts.length + g) (by omega)
      rw [grp_end S.pk hg, hl] at h
      have h1 : sm D.texts.length (fun j => xv D.sides.length (D.texts.length + D.sides.length) t j * ent D.tab (D.texts.length + g) j) = hld (ws.map (·.1)) (rdOf rows) (xv D.sides.length (D.texts.length + D.sides.length) t) r := by
        unfold hld
        rw [← S.pk.texts]
        refine sm_congr fun i hi => ?_
        rw [ent_own D (by omega) hi, side_grp, List.getD_eq_getElem?_getD, List.getElem?_eq_getElem hg, Option.getD_some, eg]
        congr 1
        by_cases q : r ∈ rdOf rows (D.texts.getD i Str.empty)
        · rw [if_pos q, if_pos (plc_mem.mpr ⟨hi, q⟩)]
        · rw [if_neg q, if_neg (fun z => q (plc_mem.mp z).2)]
      rw [h1] at h
      have := Int.mul_le_mul_of_nonneg_right h (Int.le_of_lt l2)
      rw [U2]; grind
/-- two solvings, one worth -/
theorem slv_one {D' : PkD} {t' : MK.TS} (S : Slv ws rows s D t) (S' : Slv ws rows s D' t') (wok : WOk ws) (s1 : 0 < s.1) (s2 : 0 < s.2) :
    t.T D.sides.length (D.texts.length + D.sides.length) * (t'.d * D'.unit) = t'.T D'.sides.length (D'.texts.length + D'.sides.length) * (t.d * D.unit) := by
  have e1 := fea_le S wok s1 s2 (slv_fea S' wok s1 s2)
  have e2 := fea_le S' wok s1 s2 (slv_fea S wok s1 s2)
  have tl : D'.texts.length = D.texts.length := by rw [S.pk.texts, S'.pk.texts]
  rw [tl, ← slv_vals S wok s1 s2] at e2
  rw [← tl, ← slv_vals S' wok s1 s2] at e1
  rw [tl] at e1 ⊢
  exact Int.le_antisymm e2 e1
end
end MH
/-! part Q3 -/
set_option Elab.async false
set_option linter.all false
set_option maxRecDepth 100000
set_option maxHeartbeats 4000000
/-! what the told row and prices are worth (plain). -/
namespace MH
open PySem PySem.Spec PyProof.Rows L2
open MK (sm sm_congr sm_mul sm_split sm_one sm_zero sm_le sm_nonneg sm_add sm_swap)
theorem map_rng {α β : Type} (xs : List α) (F : α → β) (z : α) : xs.map F = (List.range xs.length).map fun i => F (xs.getD i z) := by
  refine List.ext_getElem (by rw [List.length_map, List.length_map, List.length_range]) fun i h1 h2 => ?_
  have h : i < xs.length := by rw [List.length_map] at h1; exact h1
  rw [List.getElem_map, List.getElem_map, List.getElem_range, List.getD_eq_getElem?_getD, List.getElem?_eq_getElem h]; rfl
theorem sum_lst {α : Type} (xs : List α) (F : α → Int) (z : α) : (xs.map F).sum = sm xs.length fun i => F (xs.getD i z) := by rw [map_rng xs F z, sum_rng]
theorem getD_at {α : Type} {xs : List α} {i : Nat} {x z : α} (h : xs[i]? = some x) : xs.getD i z = x := by rw [List.getD_eq_getElem?_getD, h]; rfl
theorem getD_mem {α : Type} {xs : List α} {i : Nat} {z : α} (h : i < xs.length) : xs.getD i z ∈ xs := by
  rw [getD_at (List.getElem?_eq_getElem h)]; exact List.getElem_mem h
theorem getD_inj {α : Type} {xs : List α} (nd : xs.Nodup) {i j : Nat} {z : α} (hi : i < xs.length) (hj : j < xs.length) (e : xs.getD i z = xs.getD j z) : i = j := by
  rw [getD_at (List.getElem?_eq_getElem hi), getD_at (List.getElem?_eq_getElem hj)] at e
  exact nodup_idx nd (List.getElem?_eq_getElem hi) (by rw [e]; exact List.getElem?_eq_getElem hj)
theorem am_shr {c a b : Int} {t : Str} (hb : 0 < b) (dv : (shr a b).2 ∣ c) : am c (t, shr a b) * b = a * c := by
  have e := shr_cross (a := a) hb
  have m : (shr a b).2 * (c / (shr a b).2) = c := Int.mul_ediv_cancel' dv
  show (shr a b).1 * (c / (shr a b).2) * b = a * c
  have : (shr a b).1 * (c / (shr a b).2) * b = ((shr a b).1 * b) * (c / (shr a b).2) := by grind
  rw [this, e, Int.mul_assoc, m]
theorem lmin_shr {p q : Int} (hp : 0 < p) (hq : 0 < q) : (lmin (shr p q)).1 * q = (if q < p then q else p) * (lmin (shr p q)).2 := by
  have e := shr_cross (a := p) hq
  have g : (0 : Int) < gcdI p q := Int.natCast_pos.mpr (gcdI_pos hq)
  have m1 := shr_mul1 p q
  have m2 := shr_mul2 p q
  unfold lmin
  by_cases c : (shr p q).1 < (shr p q).2
  · rw [if_pos c]
    have : p < q := by
      have := Int.mul_lt_mul_of_pos_right c g
      omega
    rw [if_neg (by omega)]; exact e
  · rw [if_neg c]
    have : q ≤ p := by
      have := Int.mul_le_mul_of_nonneg_right (Int.not_lt.mp c) (Int.le_of_lt g)
      omega
    show 1 * q = _ * 1
    split <;> omega
section
variable {ws : Ws} {rows : Rows} {s : Int × Int} {D : PkD} {t : MK.TS}
theorem best_len : (D.best t).length = D.texts.length := by unfold PkD.best; rw [List.length_map, List.length_range]
theorem own_len : (D.own t).length = D.texts.length := by unfold PkD.own; rw [List.length_map, List.length_range]
theorem best_at {i : Nat} (h : i < D.texts.length) : (D.best t)[i]? = some (D.texts.getD i Str.empty, shr (xv D.sides.length (D.texts.length + D.sides.length) t i) (t.d * D.unit)) := by
  unfold PkD.best; rw [List.getElem?_map, List.getElem?_eq_getElem (by rw [List.length_range]; exact h), List.getElem_range]; rfl
theorem own_at {i : Nat} (h : i < D.texts.length) : (D.own t)[i]? = some (D.texts.getD i Str.empty, shr (t.T D.sides.length (D.texts.length + i)) t.d) := by
  unfold PkD.own; rw [List.getElem?_map, List.getElem?_eq_getElem (by rw [List.length_range]; exact h), List.getElem_range]; rfl
theorem best_keys : (D.best t).map (·.1) = D.texts := by
  have := map_rng D.texts id Str.empty
  rw [List.map_id] at this
  unfold PkD.best; rw [List.map_map]; exact this.symm
theorem own_keys : (D.own t).map (·.1) = D.texts := by
  have := map_rng D.texts id Str.empty
  rw [List.map_id] at this
  unfold PkD.own; rw [List.map_map]; exact this.symm
theorem oth_keys : (D.others t).map (·.1) = D.readable := by unfold PkD.others; rw [List.map_map]; exact List.map_id _
/-- the price of a readable text -/
def vr (D : PkD) (t : MK.TS) (r : Str) : Int × Int := (((D.asked t).find? fun y => decide (y.1 = r)).map (·.2)).getD (0, 1)
theorem oth_eq : D.others t = D.readable.map fun r => (r, vr D t r) := rfl
theorem vr_cases (D : PkD) (t : MK.TS) (r : Str) : (vr D t r = (0, 1) ∧ r ∉ D.readers) ∨ ∃ g, g < D.readers.length ∧ D.readers.getD g Str.empty = r ∧ vr D t r = shr (t.T D.sides.length (2 * D.texts.length + g)) t.d := by
  unfold vr
  cases h : (D.asked t).find? fun y => decide (y.1 = r) with
  | none =>
    refine .inl ⟨rfl, fun m => ?_⟩
    rw [← asked_keys D t] at m
    obtain ⟨y, hy, e⟩ := List.mem_map.mp m
    have := List.find?_eq_none.mp h y hy
    exact this (decide_eq_true e)
  | some y =>
    have m := List.mem_of_find?_eq_some h
    have p : y.1 = r := by
      have := List.find?_some h
      simpa using this
    unfold PkD.asked at m
    obtain ⟨g, hg, e⟩ := List.mem_map.mp m
    subst e
    exact .inr ⟨g, List.mem_range.mp hg, p, rfl⟩
theorem am_other (dp : 0 < t.d) (nd : D.readers.Nodup) {r : Str} {c : Int} (dv : (vr D t r).2 ∣ c) : am c (r, vr D t r) * t.d = c * sm D.readers.length (fun g => if D.readers.getD g Str.empty = r then t.T D.sides.length (2 * D.texts.length + g) else 0) := by
  rcases vr_cases D t r with ⟨e, n⟩ | ⟨g, hg, e1, e2⟩
  · rw [sm_zero fun g hg => if_neg fun z => n (by rw [← z]; exact getD_mem hg), e]
    show 0 * (c / 1) * t.d = c * 0
    rw [Int.zero_mul, Int.zero_mul, Int.mul_zero]
  · rw [sm_one (p := g) hg fun i hi ne => if_neg fun z => ne (getD_inj nd hi hg (z.trans e1.symm)), if_pos e1, e2, Int.mul_comm c]
    exact am_shr dp (by rw [← e2]; exact dv)
/-- the readable texts' amounts, of those that p takes -/
theorem sum_others (dp : 0 < t.d) (nd : D.readers.Nodup) (ndr : D.readable.Nodup) (sub : ∀ r ∈ D.readers, r ∈ D.readable) {c : Int} (dv : ∀ y ∈ D.others t, y.2.2 ∣ c) (p : Str → Prop) [DecidablePred p] :
    ((D.others t).map fun y => if p y.1 then am c y else 0).sum * t.d = c * sm D.readers.length (fun g => t.T D.sides.length (2 * D.texts.length + g) * (if p (D.readers.getD g Str.empty) then 1 else 0)) := by
  rw [oth_eq, List.map_map, sum_lst D.readable _ Str.empty, Int.mul_comm, ← sm_mul]
  have e1 : sm D.readable.length (fun i => t.d * (((fun y => if p y.1 then am c y else 0) ∘ fun r => (r, vr D t r)) (D.readable.getD i Str.empty))) =
      sm D.readable.length (fun i => c * sm D.readers.length (fun g => if D.readers.getD g Str.empty = D.readable.getD i Str.empty then t.T D.sides.length (2 * D.texts.length + g) * (if p (D.readers.getD g Str.empty) then 1 else 0) else 0)) := sm_congr fun i hi => by
    have m := getD_mem (z := Str.empty) hi
    have d1 : (vr D t (D.readable.getD i Str.empty)).2 ∣ c := dv (_, _) (by rw [oth_eq]; exact List.mem_map.mpr ⟨_, m, rfl⟩)
    show t.d * (if p (D.readable.getD i Str.empty) then am c (D.readable.getD i Str.empty, vr D t (D.readable.getD i Str.empty)) else 0) = _
    by_cases h : p (D.readable.getD i Str.empty)
    · rw [if_pos h, Int.mul_comm, am_other dp nd d1]
      congr 1
      refine sm_congr fun g hg => ?_
      by_cases z : D.readers.getD g Str.empty = D.readable.getD i Str.empty
      · rw [if_pos z, if_pos z, z, if_pos h, Int.mul_one]
      · rw [if_neg z, if_neg z]
    · rw [if_neg h, Int.mul_zero, sm_zero fun g hg => ?_, Int.mul_zero]
      by_cases z : D.readers.getD g Str.empty = D.readable.getD i Str.empty
      · rw [if_pos z, z, if_neg h, Int.mul_zero]
      · rw [if_neg z]
  rw [e1, sm_mul, sm_swap]
  congr 1
  refine sm_congr fun g hg => ?_
  have m := sub _ (getD_mem (z := Str.empty) hg)
  obtain ⟨j, hj, ej⟩ := List.getElem_of_mem m
  have ej' : D.readable.getD j Str.empty = D.readers.getD g Str.empty := by rw [getD_at (List.getElem?_eq_getElem hj)]; exact ej
  rw [sm_one (p := j) hj fun i hi ne => if_neg fun z => ne (getD_inj ndr hi hj (z.symm.trans ej'.symm)), if_pos ej'.symm]
structure Wel (ws : Ws) (rows : Rows) (s : Int × Int) : Prop where
  wok : WOk ws
  s1 : 0 < s.1
  s2 : 0 < s.2
theorem slv_dU (S : Slv ws rows s D t) (W : Wel ws rows s) : 0 < t.d ∧ 0 < D.unit ∧ 0 < t.d * D.unit := by
  have tb := pk_tab S.pk W.wok W.s1 W.s2
  have dp := S.ok.dpos
  have up : 0 < D.unit := by have := tb.one; omega
  exact ⟨dp, up, Int.mul_pos dp up⟩
abbrev Shy (y : Str × (Int × Int)) : Prop := 0 < y.2.2 ∧ Bd 1700 y.2.2 ∧ Bd 1700 y.2.1 ∧ 0 ≤ y.2.1
theorem shy_of {x : Str} {a b : Int} (hb : 0 < b) (h1 : Bd 1700 a) (h2 : Bd 1700 b) (h0 : 0 ≤ a) : Shy (x, shr a b) := by
  obtain ⟨q1, q2⟩ := shr_bd hb h1 h2
  exact ⟨shr_pos hb, q2, q1, shr_nonneg hb h0⟩
theorem best_shy (S : Slv ws rows s D t) (W : Wel ws rows s) : ∀ y ∈ D.best t, Shy y := fun y hy => by
  obtain ⟨dp, up, du⟩ := slv_dU S W
  obtain ⟨bd, bT⟩ := slv_bd S W.wok W.s1 W.s2
  unfold PkD.best at hy
  obtain ⟨i, hi, rfl⟩ := List.mem_map.mp hy
  have V := xv_vals S.ok
  refine shy_of du ?_ ((bd_mul bd S.pk.ub).mono (by decide)) (V.nonneg S.ok i)
  by_cases h : MK.Bas D.sides.length t i
  · obtain ⟨k, hk, rfl⟩ := h
    rw [xv_bas S.ok hk]; exact bT k _ (by omega) (Nat.le_refl _)
  · rw [xv_non h]; exact Nat.two_pow_pos _
theorem own_shy (S : Slv ws rows s D t) (W : Wel ws rows s) : ∀ y ∈ D.own t, Shy y := fun y hy => by
  obtain ⟨dp, up, du⟩ := slv_dU S W
  obtain ⟨bd, bT⟩ := slv_bd S W.wok W.s1 W.s2
  have sl := sides_len D
  unfold PkD.own at hy
  obtain ⟨i, hi, rfl⟩ := List.mem_map.mp hy
  have hi := List.mem_range.mp hi
  exact shy_of dp (bT _ _ (Nat.le_refl _) (by omega)) (bd.mono (by decide)) (S.best _ (by omega))
theorem oth_shy (S : Slv ws rows s D t) (W : Wel ws rows s) : ∀ y ∈ D.others t, Shy y := fun y hy => by
  obtain ⟨dp, up, du⟩ := slv_dU S W
  obtain ⟨bd, bT⟩ := slv_bd S W.wok W.s1 W.s2
  have sl := sides_len D
  have gl : D.groups.length = D.readers.length := by rw [S.pk.groups, List.length_map]
  rw [oth_eq] at hy
  obtain ⟨r, hr, rfl⟩ := List.mem_map.mp hy
  rcases vr_cases D t r with ⟨e, n⟩ | ⟨g, hg, e1, e2⟩
  · rw [e]; exact ⟨(by decide : (0 : Int) < 1), (by decide : (1 : Int).natAbs < 2 ^ 1700), (by decide : (0 : Int).natAbs < 2 ^ 1700), (by decide : (0 : Int) ≤ 0)⟩
  · rw [e2]; exact shy_of dp (bT _ _ (Nat.le_refl _) (by omega)) (bd.mono (by decide)) (S.best _ (by omega))
/-- the rows begin with the words -/
theorem row_at (ro : ROk (ws.map (·.1)) pool rows) {i : Nat} (hi : i < ws.length) : (rows.getD i (Str.empty, [])).2 = rdOf rows ((ws.map (·.1)).getD i Str.empty) := by
  obtain ⟨es, e⟩ := ro.first
  have il : i < rows.length := by
    have := congrArg List.length e
    rw [List.length_map, List.length_append, List.length_map] at this; omega
  have h1 : (rows.map (·.1))[i]? = some rows[i].1 := by rw [List.getElem?_map, List.getElem?_eq_getElem il]; rfl
  have h2 : (ws.map (·.1)).getD i Str.empty = rows[i].1 := by
    refine getD_at ?_
    rw [e, List.getElem?_append_left (by rw [List.length_map]; exact hi)] at h1; exact h1
  rw [h2, rdOf_mem ro.nd (List.getElem_mem il), getD_at (List.getElem?_eq_getElem il)]
theorem am_best (S : Slv ws rows s D t) (W : Wel ws rows s) {c : Int} (dv : ∀ y ∈ D.best t, y.2.2 ∣ c) {i : Nat} (hi : i < D.texts.length) :
    ((D.best t).map (am c)).getD i 0 * (t.d * D.unit) = xv D.sides.length (D.texts.length + D.sides.length) t i * c := by
  have e := best_at (t := t) hi
  rw [getD_at (by rw [List.getElem?_map, e]; rfl)]
  exact am_shr (slv_dU S W).2.2 (dv _ (List.mem_of_getElem? e))
theorem am_own (S : Slv ws rows s D t) (W : Wel ws rows s) {c : Int} (dv : ∀ y ∈ D.own t, y.2.2 ∣ c) {i : Nat} (hi : i < D.texts.length) :
    am c ((D.own t).getD i (Str.empty, (0, 1))) * t.d = t.T D.sides.length (D.texts.length + i) * c := by
  have e := own_at (t := t) hi
  rw [getD_at e]
  exact am_shr (slv_dU S W).1 (dv _ (List.mem_of_getElem? e))
/-- the row's first premise -/
theorem row_h1 (S : Slv ws rows s D t) (W : Wel ws rows s) : ∀ (i : Nat) (y : Str × (Int × Int)) (x : Str × Int), (D.best t)[i]? = some y → ws[i]? = some x → y.2.1 * tot ws ≤ x.2 * y.2.2 := fun i y x hy hx => by
  obtain ⟨dp, up, du⟩ := slv_dU S W
  have il : i < D.texts.length := by rw [S.pk.texts, List.length_map]; exact (List.getElem?_eq_some_iff.mp hx).1
  have e := best_at (t := t) il
  rw [hy] at e
  cases e
  have f := (slv_fea S W.wok W.s1 W.s2).own i x hx
  have cr := shr_cross (a := xv D.sides.length (D.texts.length + D.sides.length) t i) du
  have p := shr_pos (a := xv D.sides.length (D.texts.length + D.sides.length) t i) du
  refine Int.le_of_mul_le_mul_right ?_ du
  have m := Int.mul_le_mul_of_nonneg_right f (Int.le_of_lt p)
  show (shr _ _).1 * tot ws * (t.d * D.unit) ≤ x.2 * (shr _ _).2 * (t.d * D.unit)
  generalize t.d * D.unit = u at *
  generalize shr (xv D.sides.length (D.texts.length + D.sides.length) t i) u = z at *
  have a1 : z.1 * tot ws * u = xv D.sides.length (D.texts.length + D.sides.length) t i * tot ws * z.2 := by
    have : z.1 * tot ws * u = (z.1 * u) * tot ws := by grind
    rw [this, cr]; grind
  rw [a1]
  have : x.2 * z.2 * u = x.2 * u * z.2 := by grind
  rw [this]; exact m
theorem tk_sm (as : List Int) (rows : Rows) (r : Str) (i : Nat) : tk as rows r i = sm i fun q => if r ∈ (rows.getD q (Str.empty, [])).2 then as.getD q 0 else 0 := by unfold tk; rw [sum_rng]
/-- the row's second premise -/
theorem row_h2 {pool : List Str} {p q : Int} (hp : 0 < p) (hq : 0 < q) (S : Slv ws rows (shr p q) D t) (W : Wel ws rows (shr p q)) (ro : ROk (ws.map (·.1)) pool rows) :
    ∀ c, 0 < c → (∀ y ∈ D.best t, y.2.2 ∣ c) → ∀ r, tk ((D.best t).map (am c)) rows r ws.length * q ≤ (if q < p then q else p) * c := fun c c0 dv r => by
  obtain ⟨dp, up, du⟩ := slv_dU S W
  have tl : D.texts.length = ws.length := by rw [S.pk.texts, List.length_map]
  obtain ⟨l1, l2⟩ := lmin_pos W.s1 W.s2
  have f := (slv_fea S W.wok W.s1 W.s2).lev r
  have lm := lmin_shr hp hq
  have e : tk ((D.best t).map (am c)) rows r ws.length * (t.d * D.unit) = hld (ws.map (·.1)) (rdOf rows) (xv D.sides.length (D.texts.length + D.sides.length) t) r * c := by
    rw [tk_sm, Int.mul_comm, ← sm_mul]
    unfold hld
    rw [List.length_map, Int.mul_comm _ c, ← sm_mul]
    refine sm_congr fun i hi => ?_
    rw [row_at ro hi]
    have a := am_best S W dv (i := i) (by omega)
    split
    · rw [Int.mul_comm, a, Int.mul_one, Int.mul_comm]
    · rw [Int.mul_zero, Int.mul_zero, Int.mul_zero]
  generalize hK : tk ((D.best t).map (am c)) rows r ws.length = kk at *
  generalize hld (ws.map (·.1)) (rdOf rows) (xv D.sides.length (D.texts.length + D.sides.length) t) r = hh at *
  generalize lmin (shr p q) = ll at *
  generalize (if q < p then q else p) = mm at *
  generalize t.d * D.unit = u at *
  -- kk u = hh c; hh l2 ≤ l1 u; l1 q = mm l2
  have b1 : kk * ll.2 * u ≤ ll.1 * c * u := by
    have m := Int.mul_le_mul_of_nonneg_right f (Int.le_of_lt c0)
    have q1 : kk * ll.2 * u = (kk * u) * ll.2 := by grind
    have q2 : hh * c * ll.2 = hh * ll.2 * c := by grind
    have q3 : ll.1 * c * u = ll.1 * u * c := by grind
    rw [q1, e, q2, q3]; exact m
  have b2 : kk * ll.2 ≤ ll.1 * c := Int.le_of_mul_le_mul_right b1 du
  have b3 : kk * q * ll.2 ≤ mm * c * ll.2 := by
    have m := Int.mul_le_mul_of_nonneg_right b2 (Int.le_of_lt hq)
    have q1 : kk * q * ll.2 = kk * ll.2 * q := by grind
    have q2 : mm * c * ll.2 = (mm * ll.2) * c := by grind
    have q3 : ll.1 * c * q = (ll.1 * q) * c := by grind
    rw [q1, q2, ← lm, ← q3]; exact m
  exact Int.le_of_mul_le_mul_right b3 l2
/-- the prices' premise -/
theorem paper_h (S : Slv ws rows s D t) (W : Wel ws rows s) {pool : List Str} (ro : ROk (ws.map (·.1)) pool rows) :
    ∀ c, 0 < c → (∀ y ∈ D.own t ++ D.others t, y.2.2 ∣ c) → ∀ (i : Nat) (y : Str × (Int × Int)), (D.own t)[i]? = some y → c ≤ am c y + tp c (D.others t) (rows.getD i (Str.empty, [])).2 := fun c c0 dv i y hy => by
  obtain ⟨dp, up, du⟩ := slv_dU S W
  have tl : D.texts.length = ws.length := by rw [S.pk.texts, List.length_map]
  have gl : D.groups.length = D.readers.length := by rw [S.pk.groups, List.length_map]
  have sl := sides_len D
  have tb := pk_tab S.pk W.wok W.s1 W.s2
  have il : i < D.texts.length := by have := (List.getElem?_eq_some_iff.mp hy).1; rw [own_len] at this; exact this
  have a := am_own S W (fun y hy => dv y (List.mem_append_left _ hy)) il
  rw [getD_at hy] at a
  have b : tp c (D.others t) (rows.getD i (Str.empty, [])).2 * t.d = _ := sum_others dp S.pk.nd S.pk.readable.st.nodup S.pk.sub (fun y hy => dv y (List.mem_append_right _ hy)) (fun r => r ∈ (rows.getD i (Str.empty, [])).2)
  have g := MK.price_ge S.ok tb.pk S.best il
  rw [show D.sides.length = D.texts.length + D.readers.length by omega, sm_split] at g
  rw [show D.texts.length + D.readers.length = D.sides.length by omega] at g
  have g1 : sm D.texts.length (fun k => t.T D.sides.length (D.texts.length + k) * ent D.tab k i) = t.T D.sides.length (D.texts.length + i) := by
    rw [sm_one (p := i) il fun j hj ne => by rw [own_ent hj il, if_neg (Ne.symm ne), Int.mul_zero], own_ent il il, if_pos rfl, Int.mul_one]
  have g2 : sm D.readers.length (fun k => t.T D.sides.length (D.texts.length + (D.texts.length + k)) * ent D.tab (D.texts.length + k) i) = sm D.readers.length (fun g => t.T D.sides.length (2 * D.texts.length + g) * (if D.readers.getD g Str.empty ∈ (rows.getD i (Str.empty, [])).2 then 1 else 0)) := sm_congr fun k hk => by
    rw [grp_ent S.pk (by omega) il, show D.texts.length + (D.texts.length + k) = 2 * D.texts.length + k by omega, row_at ro (by omega), ← S.pk.texts]
  rw [g1, g2] at g
  refine Int.le_of_mul_le_mul_right (a := t.d) ?_ dp
  rw [Int.add_mul, a, b]
  have := Int.mul_le_mul_of_nonneg_left g (Int.le_of_lt c0)
  grind
/-- the row's sum -/
theorem row_sum (S : Slv ws rows s D t) (W : Wel ws rows s) {c : Int} (dv : ∀ y ∈ D.best t, y.2.2 ∣ c) : ((D.best t).map (am c)).sum * (t.d * D.unit) = t.T D.sides.length (D.texts.length + D.sides.length) * c := by
  rw [slv_vals S W.wok W.s1 W.s2]
  have e : ((D.best t).map (am c)).sum = sm D.texts.length fun i => ((D.best t).map (am c)).getD i 0 := by
    have := sum_lst ((D.best t).map (am c)) id 0
    rw [List.map_id, List.length_map, best_len] at this; exact this
  rw [e, Int.mul_comm _ (t.d * D.unit), ← sm_mul, Int.mul_comm _ c, ← sm_mul]
  exact sm_congr fun i hi => by rw [Int.mul_comm, am_best S W dv hi, Int.mul_comm]
/-- the prices' cost -/
theorem paper_sum {p q : Int} (hp : 0 < p) (hq : 0 < q) (S : Slv ws rows (shr p q) D t) (W : Wel ws rows (shr p q)) {c : Int} (dv : ∀ y ∈ D.own t ++ D.others t, y.2.2 ∣ c) :
    (((ws.zip (D.own t)).map fun z => z.1.2 * am c z.2).sum * q + (if q < p then q else p) * tot ws * ((D.others t).map (am c)).sum) * (t.d * D.unit) = t.T D.sides.length (D.texts.length + D.sides.length) * (tot ws * q * c) := by
  obtain ⟨dp, up, du⟩ := slv_dU S W
  have tl : D.texts.length = ws.length := by rw [S.pk.texts, List.length_map]
  have gl : D.groups.length = D.readers.length := by rw [S.pk.groups, List.length_map]
  have sl := sides_len D
  have tb := pk_tab S.pk W.wok W.s1 W.s2
  obtain ⟨u, v, u0, v0, U1, U2, hb, hl⟩ := S.pk.unit
  have lm := lmin_shr hp hq
  -- the texts' part
  have e1 : ((ws.zip (D.own t)).map fun z => z.1.2 * am c z.2).sum * t.d = c * sm D.texts.length (fun i => (ws.getD i (Str.empty, 0)).2 * t.T D.sides.length (D.texts.length + i)) := by
    rw [sum_lst _ _ ((Str.empty, 0), (Str.empty, (0, 1)))]
    rw [List.length_zip, own_len, ← tl, Nat.min_self, Int.mul_comm, ← sm_mul, ← sm_mul]
    refine sm_congr fun i hi => ?_
    have h1 : ws[i]? = some (ws[i]'(by omega)) := List.getElem?_eq_getElem (by omega)
    have h2 : (D.own t)[i]? = some ((D.own t)[i]'(by rw [own_len]; omega)) := List.getElem?_eq_getElem (by rw [own_len]; omega)
    have a := am_own S W (fun y hy => dv y (List.mem_append_left _ hy)) hi
    rw [getD_at h2] at a
    rw [getD_at ((List.getElem?_zip_eq_some (z := (ws[i]'(by omega), (D.own t)[i]'(by rw [own_len]; omega)))).mpr ⟨h1, h2⟩), getD_at h1]
    dsimp only
    generalize am c ((D.own t)[i]'(by rw [own_len]; omega)) = z at *
    grind
  -- the readable ones' part
  have e2 : ((D.others t).map (am c)).sum * t.d = c * sm D.readers.length (fun g => t.T D.sides.length (2 * D.texts.length + g)) := by
    have b := sum_others dp S.pk.nd S.pk.readable.st.nodup S.pk.sub (fun y hy => dv y (List.mem_append_right _ hy)) (fun _ => True)
    rw [show ((D.others t).map (am c)) = (D.others t).map fun y => if True then am c y else 0 from List.map_congr_left fun y _ => (if_pos trivial).symm, b]
    congr 1
    exact sm_congr fun g hg => by rw [if_pos trivial, Int.mul_one]
  -- the last sum by prices
  have e3 := MK.price_sum S.ok tb.pk
  rw [show sm D.sides.length = sm (D.texts.length + D.readers.length) by rw [show D.sides.length = D.texts.length + D.readers.length by omega], sm_split] at e3
  have e4 : sm D.texts.length (fun k => t.T D.sides.length (D.texts.length + k) * ent D.tab k (D.texts.length + D.sides.length)) = u * sm D.texts.length (fun i => (ws.getD i (Str.empty, 0)).2 * t.T D.sides.length (D.texts.length + i)) := by
    rw [← sm_mul]
    refine sm_congr fun k hk => ?_
    have h1 : ws[k]? = some (ws[k]'(by omega)) := List.getElem?_eq_getElem (by omega)
    rw [own_end S.pk hb h1, getD_at h1]; grind
  have e5 : sm D.readers.length (fun k => t.T D.sides.length (D.texts.length + (D.texts.length + k)) * ent D.tab (D.texts.length + k) (D.texts.length + D.sides.length)) = D.lev * sm D.readers.length (fun g => t.T D.sides.length (2 * D.texts.length + g)) := by
    rw [← sm_mul]
    exact sm_congr fun k hk => by rw [grp_end S.pk (by omega), show D.texts.length + (D.texts.length + k) = 2 * D.texts.length + k by omega, Int.mul_comm]
  rw [e4, e5] at e3
  rw [e3, hl]
  generalize ((ws.zip (D.own t)).map fun z => z.1.2 * am c z.2).sum = A at *
  generalize ((D.others t).map (am c)).sum = B at *
  generalize sm D.texts.length (fun i => (ws.getD i (Str.empty, 0)).2 * t.T D.sides.length (D.texts.length + i)) = X at *
  generalize sm D.readers.length (fun g => t.T D.sides.length (2 * D.texts.length + g)) = Y at *
  generalize lmin (shr p q) = ll at *
  generalize (if q < p then q else p) = mm at *
  have x1 : (A * q + mm * tot ws * B) * (t.d * D.unit) = (A * t.d) * q * D.unit + mm * tot ws * (B * t.d) * D.unit := by grind
  rw [x1, e1, e2]
  have x2 : c * X * q * D.unit = c * X * q * (tot ws * u) := by rw [U1]
  have x3 : mm * tot ws * (c * Y) * D.unit = mm * tot ws * (c * Y) * (ll.2 * v) := by rw [U2]
  rw [x2, x3]
  have x4 : mm * tot ws * (c * Y) * (ll.2 * v) = (mm * ll.2) * (tot ws * c * Y * v) := by grind
  rw [x4, ← lm]; grind
/-- row and prices: one worth -/
theorem row_paper {p q : Int} {D' : PkD} {t' : MK.TS} (hp : 0 < p) (hq : 0 < q) (S : Slv ws rows (shr p q) D t) (S' : Slv ws rows (shr p q) D' t') (W : Wel ws rows (shr p q)) {c c' : Int} (dv : ∀ y ∈ D.best t, y.2.2 ∣ c) (dv' : ∀ y ∈ D'.own t' ++ D'.others t', y.2.2 ∣ c') :
    ((D.best t).map (am c)).sum * (tot ws * q * c') = (((ws.zip (D'.own t')).map fun z => z.1.2 * am c' z.2).sum * q + (if q < p then q else p) * tot ws * ((D'.others t').map (am c')).sum) * c := by
  have e1 := row_sum S W dv
  have e2 := paper_sum hp hq S' W dv'
  have e3 := slv_one S S' W.wok W.s1 W.s2
  have u1 := (slv_dU S W).2.2
  have u2 := (slv_dU S' W).2.2
  generalize ((D.best t).map (am c)).sum = A at *
  generalize (((ws.zip (D'.own t')).map fun z => z.1.2 * am c' z.2).sum * q + (if q < p then q else p) * tot ws * ((D'.others t').map (am c')).sum) = B at *
  generalize t.T D.sides.length (D.texts.length + D.sides.length) = T at *
  generalize t'.T D'.sides.length (D'.texts.length + D'.sides.length) = T' at *
  generalize t.d * D.unit = u at *
  generalize t'.d * D'.unit = u' at *
  refine Int.eq_of_mul_eq_mul_right (a := u * u') (Int.ne_of_gt (Int.mul_pos u1 u2)) ?_
  have a1 : A * (tot ws * q * c') * (u * u') = (A * u) * (tot ws * q * c') * u' := by grind
  have a2 : B * c * (u * u') = (B * u') * c * u := by grind
  rw [a1, a2, e1, e2]
  have : T * c * (tot ws * q * c') * u' = (T * u') * c * (tot ws * q * c') := by grind
  rw [this, e3]; grind
end
end MH
/-! part Q4 -/
set_option Elab.async false
set_option linter.all false
set_option maxRecDepth 100000
set_option maxHeartbeats 4000000
/-! a marking is a row (plain). -/
namespace MH
open PySem PySem.Spec PyProof.Rows L2
open MK (sm sm_congr sm_mul sm_split sm_one sm_zero sm_le sm_nonneg sm_add sm_swap)
/-- the weight of the entries that write t and are found -/
def fnt (rd : Str → List Str) : Ents → Str → Int
  | [], _ => 0
  | (n, s, ac) :: r, t => (if s = t then (if (rd s).all (fun x => decide (x ∈ ac)) = true then n else 0) else 0) + fnt rd r t
theorem fnt_le (rd : Str → List Str) : ∀ {es : Ents} {t : Str}, (∀ e ∈ es, 1 ≤ e.1) → 0 ≤ fnt rd es t ∧ fnt rd es t ≤ psum (prs es) t
  | [], _, _ => ⟨Int.le_refl _, Int.le_refl _⟩
  | (n, s, ac) :: r, t, h => by
    obtain ⟨a, b⟩ := fnt_le rd (es := r) (t := t) fun e he => h e (List.mem_cons_of_mem _ he)
    have n1 : 1 ≤ n := h _ List.mem_cons_self
    show 0 ≤ (if s = t then (if (rd s).all (fun x => decide (x ∈ ac)) = true then n else 0) else 0) + fnt rd r t ∧ (if s = t then (if (rd s).all (fun x => decide (x ∈ ac)) = true then n else 0) else 0) + fnt rd r t ≤ (if s = t then n else 0) + psum (prs r) t
    by_cases c : s = t
    · rw [if_pos c, if_pos c]; split <;> omega
    · rw [if_neg c, if_neg c]; omega
theorem fnt_sum {rd : Str → List Str} {ks : List Str} (nd : ks.Nodup) : ∀ {es : Ents}, (∀ e ∈ es, e.2.1 ∈ ks) → sm ks.length (fun i => fnt rd es (ks.getD i Str.empty)) = fnd rd es
  | [], _ => sm_zero fun _ _ => rfl
  | (n, s, ac) :: r, h => by
    have ih := fnt_sum (rd := rd) nd (es := r) fun e he => h e (List.mem_cons_of_mem _ he)
    obtain ⟨j, hj, ej⟩ := List.getElem_of_mem (h _ List.mem_cons_self)
    have ej' : ks.getD j Str.empty = s := by rw [getD_at (List.getElem?_eq_getElem hj)]; exact ej
    show sm ks.length (fun i => (if s = ks.getD i Str.empty then (if (rd s).all (fun x => decide (x ∈ ac)) = true then n else 0) else 0) + fnt rd r (ks.getD i Str.empty)) = (if (rd s).all (fun x => decide (x ∈ ac)) then n else 0) + fnd rd r
    rw [sm_add, ih, sm_one (p := j) hj fun i hi ne => if_neg fun z => ne (getD_inj nd hi hj (z.symm.trans ej'.symm)), if_pos ej'.symm]
theorem fnt_hld {rd : Str → List Str} {ks : List Str} (nd : ks.Nodup) (q : Str) : ∀ {es : Ents}, (∀ e ∈ es, e.2.1 ∈ ks) → (∀ e ∈ es, 1 ≤ e.1) → hld ks rd (fun i => fnt rd es (ks.getD i Str.empty)) q ≤ acs es q
  | [], _, _ => by
    show sm ks.length (fun i => 0 * _) ≤ 0
    rw [sm_zero fun _ _ => Int.zero_mul _]; exact Int.le_refl _
  | (n, s, ac) :: r, h, p => by
    have ih := fnt_hld (rd := rd) nd q (es := r) (fun e he => h e (List.mem_cons_of_mem _ he)) fun e he => p e (List.mem_cons_of_mem _ he)
    have n1 : 1 ≤ n := p _ List.mem_cons_self
    obtain ⟨j, hj, ej⟩ := List.getElem_of_mem (h _ List.mem_cons_self)
    have ej' : ks.getD j Str.empty = s := by rw [getD_at (List.getElem?_eq_getElem hj)]; exact ej
    have e : hld ks rd (fun i => fnt rd ((n, s, ac) :: r) (ks.getD i Str.empty)) q = sm ks.length (fun i => (if s = ks.getD i Str.empty then (if (rd s).all (fun x => decide (x ∈ ac)) = true then n else 0) else 0) * (if q ∈ rd (ks.getD i Str.empty) then 1 else 0)) + hld ks rd (fun i => fnt rd r (ks.getD i Str.empty)) q := by
      unfold hld
      rw [← sm_add]
      exact sm_congr fun i hi => Int.add_mul _ _ _
    rw [e, sm_one (p := j) hj fun i hi ne => by rw [if_neg fun z => ne (getD_inj nd hi hj (z.symm.trans ej'.symm)), Int.zero_mul], if_pos ej'.symm, ej']
    show _ ≤ (if q ∈ ac then n else 0) + acs r q
    by_cases c : (rd s).all (fun x => decide (x ∈ ac)) = true
    · rw [if_pos c]
      by_cases m : q ∈ rd s
      · have := of_decide_eq_true (List.all_eq_true.mp c q m)
        rw [if_pos m, if_pos this, Int.mul_one]; omega
      · rw [if_neg m, Int.mul_zero]; split <;> omega
    · rw [if_neg c, Int.zero_mul]; split <;> omega
section
variable {ws : Ws} {rows : Rows} {s : Int × Int} {D D' : PkD} {t t' : MK.TS} {pool : List Str} {es : Ents}
theorem fit_fea (W : Wel ws rows s) (F : Fit ws s pool es) : Fea ws rows s (fun i => fnt (rdOf rows) es ((ws.map (·.1)).getD i Str.empty)) (topE es) := by
  have pos : ∀ e ∈ es, 1 ≤ e.1 := fun e he => (F.ok.pos e he).1
  obtain ⟨l1, l2⟩ := lmin_pos W.s1 W.s2
  have tp := tot_pos W.wok.pos W.wok.one
  refine ⟨fun i hi => (fnt_le _ pos).1, fun i x hx => ?_, fun r => ?_⟩
  · have e : (ws.map (·.1)).getD i Str.empty = x.1 := getD_at (by rw [List.getElem?_map, hx]; rfl)
    rw [e]
    have h1 := (fnt_le (rdOf rows) (t := x.1) pos).2
    have h2 := F.seen x.1
    rw [wof_some W.wok.st.nodup (show (x.1, x.2) ∈ ws from List.mem_of_getElem? hx)] at h2
    have := Int.mul_le_mul_of_nonneg_right h1 (Int.le_of_lt tp)
    omega
  · have h1 := fnt_hld (rd := rdOf rows) W.wok.st.nodup r F.sub pos
    have h2 := F.acc r
    have h3 := (acs_le (es := es) (t := r) pos).2
    have m1 := Int.mul_le_mul_of_nonneg_right h1 (Int.le_of_lt l2)
    refine Int.le_trans m1 ?_
    unfold lmin
    by_cases c : s.1 < s.2
    · rw [if_pos c]; exact h2
    · rw [if_neg c]
      show acs es r * 1 ≤ 1 * topE es
      omega
/-- the worth is not below what is found -/
theorem fit_le (S : Slv ws rows s D t) (W : Wel ws rows s) (F : Fit ws s pool es) : fnd (rdOf rows) es * (t.d * D.unit) ≤ t.T D.sides.length (D.texts.length + D.sides.length) * topE es := by
  have h := fea_le S W.wok W.s1 W.s2 (fit_fea W F)
  have e : sm D.texts.length (fun i => fnt (rdOf rows) es ((ws.map (·.1)).getD i Str.empty)) = fnd (rdOf rows) es := by
    rw [S.pk.texts]; exact fnt_sum W.wok.st.nodup F.sub
  rw [e] at h; exact h
theorem told_le (S : Slv ws rows s D t) (W : Wel ws rows s) (F : Fit ws s pool es) {c : Int} (c0 : 0 < c) (dv : ∀ y ∈ D.best t, y.2.2 ∣ c) : fnd (rdOf rows) es * c ≤ ((D.best t).map (am c)).sum * topE es := by
  have h1 := fit_le S W F
  have h2 := row_sum S W dv
  have u0 := (slv_dU S W).2.2
  generalize ((D.best t).map (am c)).sum = A at *
  generalize t.T D.sides.length (D.texts.length + D.sides.length) = T at *
  generalize t.d * D.unit = u at *
  refine Int.le_of_mul_le_mul_right (a := u) ?_ u0
  have := Int.mul_le_mul_of_nonneg_right h1 (Int.le_of_lt c0)
  have e1 : A * topE es * u = (A * u) * topE es := by grind
  rw [e1, h2]
  grind
theorem gap_ok (S : Slv ws rows s D t) (S' : Slv ws rows s D' t') (W : Wel ws rows s) (F : Fit ws s pool es) {c : Int} (c0 : 0 < c) (dv : ∀ y ∈ D.best t, y.2.2 ∣ c) {g : Int × Int} (hg : g = gapV D' t' (fnd (rdOf rows) es) (topE es)) :
    0 < g.2 ∧ 0 ≤ g.1 ∧ g.1 * c * topE es = (((D.best t).map (am c)).sum * topE es - fnd (rdOf rows) es * c) * g.2 := by
  have h1 := fit_le S' W F
  have h2 := row_sum S W dv
  have h3 := slv_one S S' W.wok W.s1 W.s2
  have u0 := (slv_dU S W).2.2
  have u0' := (slv_dU S' W).2.2
  have tp := topE_pos F.ok
  unfold gapV at hg
  dsimp only at hg
  generalize ((D.best t).map (am c)).sum = A at *
  generalize t.T D.sides.length (D.texts.length + D.sides.length) = T at *
  generalize t'.T D'.sides.length (D'.texts.length + D'.sides.length) = T' at *
  generalize t.d * D.unit = u at *
  generalize t'.d * D'.unit = u' at *
  generalize fnd (rdOf rows) es = f at *
  generalize topE es = tt at *
  have a2 := shr_pos (a := T') u0'
  have b2 := shr_pos (a := f) tp
  have ac := shr_cross (a := T') u0'
  have bc := shr_cross (a := f) tp
  generalize shr T' u' = a at *
  generalize shr f tt = b at *
  have m0 : 0 < a.2 * b.2 := Int.mul_pos a2 b2
  have gc := shr_cross (a := a.1 * b.2 - b.1 * a.2) m0
  have gp := shr_pos (a := a.1 * b.2 - b.1 * a.2) m0
  have key : (a.1 * b.2 - b.1 * a.2) * (u' * tt) = (a.2 * b.2) * (T' * tt - f * u') := by
    have q1 : (a.1 * b.2 - b.1 * a.2) * (u' * tt) = (a.1 * u') * b.2 * tt - (b.1 * tt) * a.2 * u' := by grind
    rw [q1, ac, bc]; grind
  have nn : 0 ≤ a.1 * b.2 - b.1 * a.2 := by
    refine Int.le_of_mul_le_mul_right (a := u' * tt) ?_ (Int.mul_pos u0' tp)
    rw [key, Int.zero_mul]
    exact Int.mul_nonneg (Int.le_of_lt m0) (by omega)
  have gn := shr_nonneg m0 nn
  rw [← hg] at gc gp gn
  refine ⟨gp, gn, ?_⟩
  generalize a.1 * b.2 - b.1 * a.2 = N at *
  generalize a.2 * b.2 = M at *
  refine Int.eq_of_mul_eq_mul_right (a := M * (u' * u)) (Int.ne_of_gt (Int.mul_pos m0 (Int.mul_pos u0' u0))) ?_
  have q1 : g.1 * c * tt * (M * (u' * u)) = (g.1 * M) * c * (u' * tt) * u := by grind
  have q2 : N * g.2 * c * (u' * tt) * u = (N * (u' * tt)) * g.2 * c * u := by grind
  have q3 : (A * tt - f * c) * g.2 * (M * (u' * u)) = ((A * u) * u' * tt - f * c * u * u') * g.2 * M := by grind
  rw [q1, gc, q2, key, q3, h2]
  have q4 : T * c * u' * tt = (T * u') * c * tt := by grind
  rw [q4, h3]; grind
theorem gap_one (S : Slv ws rows s D t) (S' : Slv ws rows s D' t') (W : Wel ws rows s) {f tt : Int} : gapV D t f tt = gapV D' t' f tt := by
  have e := shr_eq (slv_dU S W).2.2 (slv_dU S' W).2.2 (slv_one S S' W.wok W.s1 W.s2)
  unfold gapV
  dsimp only
  rw [e]
end
end MH
/-! part D29 -/
set_option Elab.async false
set_option linter.all false
set_option maxRecDepth 100000
set_option maxHeartbeats 4000000
namespace MH
open PySem PySem.Spec PyProof.Rows L2
theorem rdOf_none : ∀ {rows : Rows} {t : Str}, t ∉ rows.map (·.1) → rdOf rows t = []
  | [], _, _ => rfl
  | (s, a) :: rows, t, h => by
    have ne : s ≠ t := fun e => h (by rw [e]; exact List.mem_cons_self)
    unfold rdOf
    rw [List.find?_cons_of_neg (by simp [ne])]
    exact rdOf_none fun m => h (List.mem_cons_of_mem _ m)
theorem rdOf_perm {rows rows' : Rows} (p : rows.Perm rows') (nd : (rows.map (·.1)).Nodup) : rdOf rows = rdOf rows' := by
  have nd' : (rows'.map (·.1)).Nodup := (p.map (·.1)).nodup_iff.mp nd
  funext t
  by_cases m : t ∈ rows.map (·.1)
  · obtain ⟨r, hr, rfl⟩ := List.mem_map.mp m
    rw [rdOf_mem nd hr, rdOf_mem nd' (p.mem_iff.mp hr)]
  · rw [rdOf_none m, rdOf_none fun z => m ((p.map (·.1)).mem_iff.mpr z)]
theorem slv_perm {ws : Ws} {rows rows' : Rows} {s : Int × Int} {D : PkD} {t : MK.TS} (p : rows.Perm rows') (nd : (rows.map (·.1)).Nodup) (S : Slv ws rows s D t) : Slv ws rows' s D t := by
  obtain ⟨⟨a1, a2, a3, a4, a5, a6, a7, a8, a9, a10⟩, b, c⟩ := S
  rw [rdOf_perm p nd] at a4 a8
  exact ⟨⟨a1, a2, ⟨a3.st, fun t => (a3.mem t).trans ⟨fun ⟨r, h1, h2⟩ => ⟨r, p.mem_iff.mp h1, h2⟩, fun ⟨r, h1, h2⟩ => ⟨r, p.mem_iff.mpr h1, h2⟩⟩⟩, a4, a5, a6, a7, a8, a9, a10⟩, b, c⟩
theorem shr_pos1 {a b : Int} (ha : 0 < a) (h : 0 < b) : 0 < (shr a b).1 := by
  have g := gcdI_pos (a := a) h
  have e := shr_mul1 a b
  refine Int.lt_of_not_ge fun z => ?_
  have : 0 ≤ (-(shr a b).1) * (gcdI a b : Int) := Int.mul_nonneg (by omega) (by omega)
  grind
theorem neF {x y : V} {P R : Prop} (e : x = y) (k : R) : if (!decide (x = y)) = true then P else R := by rw [decide_eq_true e]; exact k
/-- what stands: the source, its words, the rows, the changes (their rows the other way round) -/
structure Bse (K : Fr) (H : Hp) (u v wv rv : V) (ws : Ws) (rows : Rows) (pool : List Str) : Prop where
  src : RSrc K H u ws
  wok : WOk ws
  bt : Bd 100 (tot ws)
  chg : RChg K H v rows.reverse
  wrd : RWs H wv ws
  row : RRows H rv rows
  ro : ROk (ws.map (·.1)) pool rows
  pool : pool.length < 60
section
variable {K : Fr} {H H' : Hp} {u v wv rv : V} {ws : Ws} {rows : Rows} {pool : List Str} {p q : Int}
theorem Bse.up (e : Same H H') (h : Bse K H u v wv rv ws rows pool) : Bse K H' u v wv rv ws rows pool :=
  ⟨Mo.up e h.src, h.wok, h.bt, Mo.up e h.chg, Mo.up e h.wrd, Mo.up e h.row, h.ro, h.pool⟩
theorem rev_perm {α : Type} (l : List α) : l.reverse.Perm l := List.reverse_perm l
theorem Bse.nd (h : Bse K H u v wv rv ws rows pool) : (rows.reverse.map (·.1)).Nodup := ((rev_perm rows).map (·.1)).nodup_iff.mpr h.ro.nd
theorem Bse.slv (h : Bse K H u v wv rv ws rows pool) {s : Int × Int} {D : PkD} {t : MK.TS} (S : Slv ws rows.reverse s D t) : Slv ws rows s D t := slv_perm (rev_perm rows) h.nd S
theorem Bse.sub (h : Bse K H u v wv rv ws rows pool) : ∀ t ∈ ws.map (·.1), t ∈ rows.map (·.1) := fun t ht => by
  obtain ⟨es, e⟩ := h.ro.first
  rw [e]; exact List.mem_append_left _ ht
theorem Bse.len (h : Bse K H u v wv rv ws rows pool) : ws.length ≤ rows.length := by
  obtain ⟨es, e⟩ := h.ro.first
  have := congrArg List.length e
  rw [List.length_map, List.length_append, List.length_map] at this; omega
theorem Bse.ask {l : V} (h : Bse K H u v wv rv ws rows pool) (hl : RSh K H l (shr p q)) (hp : 0 < p) (hq : 0 < q) (bp : Bd 100 p) (bq : Bd 100 q) : Ask K H u v l ws rows.reverse pool (shr p q) := by
  obtain ⟨b1, b2⟩ := shr_bd hq bp bq
  exact ⟨h.src, h.wok, h.chg, hl, h.nd, fun r hr => h.ro.each r (List.mem_reverse.mp hr), h.pool, fun t ht => ((rev_perm rows).map (·.1)).mem_iff.mpr (h.sub t ht), shr_pos1 hp hq, shr_pos hq, b1, b2, h.bt⟩
theorem Bse.wel (h : Bse K H u v wv rv ws rows pool) (hp : 0 < p) (hq : 0 < q) : Wel ws rows (shr p q) := ⟨h.wok, shr_pos1 hp hq, shr_pos hq⟩
theorem Bse.rsub (h : Bse K H u v wv rv ws rows pool) : ∀ r ∈ rows, ∀ t ∈ r.2, t ∈ pool := fun r hr => (h.ro.each r hr).sub
end
section
variable {P : Program} {w : World} {K : Fr} {mg : Str → Option Value} {base : Heap}
def sp_law_worth (K : Fr) : Sp := spx 5 fun vs H Q _ => ∃ (u v wv rv : V) (la : Addr) (ws : Ws) (rows : Rows) (pool : List Str) (p q : Int), vs = [u, v, .ref la, wv, rv] ∧ Bse K H u v wv rv ws rows pool ∧ H la = some (.lst [.int p, .int q]) ∧ 0 < p ∧ 0 < q ∧ Bd 100 p ∧ Bd 100 q ∧
  ∀ (o : Addr) (D : PkD) t c H', Same H H' → Slv ws rows (shr p q) D t → 0 < c → Bd 260000 c → (∀ y ∈ D.best t, y.2.2 ∣ c) → H' o = some (.lst [.int ((D.best t).map (am c)).sum, .int c]) → Q (.ref o) H'
theorem sc_law_worth : FnScope ["_law_source_here", "_law_changed", "_law_level_here", "_law_words_here", "_law_rows_here", "_law_share", "_law_row", "_law_paper", "_law_low", "_law_high", "_law_word"] ["_law_source_here", "_law_changed", "_law_level_here", "_law_words_here", "_law_rows_here"] (defScope s_law_worth) := ⟨rfl, rfl, rfl, by decide +kernel, rfl, by decide +kernel, by decide +kernel⟩
theorem c_law_worth (T : Tx K mg) (G_Share___init : Mak P w K mg base 2 "Share" (He.ga K "Share") ["self", "over", "under"] (sp_Share___init K)) (G_best_row : Cal P w K mg base 8 "best_row" ["source", "changes", "level"] (sp_best_row K)) (G_prices : Cal P w K mg base 8 "prices" ["source", "changes", "level"] (sp_prices K)) (G_law_pairs_are : Cal P w K mg base 3 "_law_pairs_are" ["_law_got", "_law_texts_here"] (sp_law_pairs_are K)) (G_law_all : Cal P w K mg base 1 "_law_all" ["_law_rows_here"] sp_law_all) (G_law_row_total : Cal P w K mg base 2 "_law_row_total" ["_law_row", "_law_words_here", "_law_rows_here", "_law_over", "_law_under_here"] (sp_law_row_total K)) (G_law_paper_cost : Cal P w K mg base 2 "_law_paper_cost" ["_law_paper", "_law_words_here", "_law_rows_here", "_law_over", "_law_under_here"] (sp_law_paper_cost K)) : Cal P w K mg base 9 "_law_worth" ["_law_source_here", "_law_changed", "_law_level_here", "_law_words_here", "_law_rows_here"] (sp_law_worth K) := by
  refine T.cal 74 rfl 46 rfl sc_law_worth (fun _ _ _ _ h => h.1) (fun _ _ _ _ _ _ us hl => match us, hl with | [_, _, _, _, _], _ => rfl) (fun cdv A outer s H vs Q E hr h => ?_)
  have nd := sc_law_worth.nd
  have hu := hu_of hr
  refine ⟨_, (pss_cons (ps_set (i := 5) nd rfl (Or.inl rfl) (pe_mak G_Share___init (hr.mono (by decide)) (pa_cons (pe_ix (ix_listK (K := K)) (pv 2) pe_int (fun _ _ => rfl)) (pa_cons (pe_ix (ix_listK (K := K)) (pv 2) pe_int (fun _ _ => rfl)) pa_nil))))
      (pss_cons (ps_set (i := 6) nd rfl (Or.inl rfl) (pe_cal G_best_row (hr.mono (by decide)) (pa_cons (pv 0) (pa_cons (pv 1) (pa_cons (pv 5) pa_nil)))))
      (pss_cons (ps_set (i := 7) nd rfl (Or.inl rfl) (pe_cal G_prices (hr.mono (by decide)) (pa_cons (pv 0) (pa_cons (pv 1) (pa_cons (pv 5) pa_nil)))))
      (pss_cons (ps_if (PW.pt (pw_or (pt_not (pt_val (pe_cal G_law_pairs_are (hr.mono (by decide)) (pa_cons (pv 6) (pa_cons (pe_lc (own := [("_law_word", 10)]) (g := (gName 10)) (tt := tYes) (by rfl) nd (pi_list (pv 3)) (blkOk_by (own := [("_law_word", 10)]) (N := ["_law_source_here", "_law_changed", "_law_level_here", "_law_words_here", "_law_rows_here", "_law_share", "_law_row", "_law_paper", "_law_low", "_law_high", "_law_word"]) (sc := defScope s_law_worth) (by decide +kernel)) (fun _ _ _ _ _ => (pg_name (i := 10) nd rfl (Or.inl rfl))) (fun _ _ _ _ _ => pts_nil) (fun _ _ _ _ _ => (pe_ix (ix_tupK (K := K)) (pv 10) pe_int (fun _ _ => rfl)))) pa_nil))))) (pw_or (pt_not (pt_val (pe_callB call_isi (by rfl) T.f_isinstance (by decide +kernel) (pa_cons (pv 7) (pa_cons (pe_bltn (v := .ty "tuple") (by rfl) T.f_tuple (by decide +kernel) rfl) pa_nil))))) (pw_or1 (pt_cmpR op_ne (pe_callB (call_lenK (K := K)) (by rfl) T.f_len (by decide +kernel) (pa_cons (pv 7) pa_nil)) pe_int (nomark _)))))) (pss_one (ps_ret pe_non)) pss_nil)
      (pss_cons (ps_if (PW.pt (pw_or (pt_not (pt_val (pe_cal G_law_pairs_are (hr.mono (by decide)) (pa_cons (pe_ix (ix_tupK (K := K)) (pv 7) pe_int (fun _ _ => rfl)) (pa_cons (pe_lc (own := [("_law_word", 10)]) (g := (gName 10)) (tt := tYes) (by rfl) nd (pi_list (pv 3)) (blkOk_by (own := [("_law_word", 10)]) (N := ["_law_source_here", "_law_changed", "_law_level_here", "_law_words_here", "_law_rows_here", "_law_share", "_law_row", "_law_paper", "_law_low", "_law_high", "_law_word"]) (sc := defScope s_law_worth) (by decide +kernel)) (fun _ _ _ _ _ => (pg_name (i := 10) nd rfl (Or.inl rfl))) (fun _ _ _ _ _ => pts_nil) (fun _ _ _ _ _ => (pe_ix (ix_tupK (K := K)) (pv 10) pe_int (fun _ _ => rfl)))) pa_nil))))) (pw_or1 (pt_not (pt_val (pe_cal G_law_pairs_are (hr.mono (by decide)) (pa_cons (pe_ix (ix_tupK (K := K)) (pv 7) pe_int (fun _ _ => rfl)) (pa_cons (pe_cal G_law_all (hr.mono (by decide)) (pa_cons (pv 4) pa_nil)) pa_nil)))))))) (pss_one (ps_ret pe_non)) pss_nil)
      (pss_cons (ps_set (i := 8) nd rfl (Or.inl rfl) (pe_cal G_law_row_total (hr.mono (by decide)) (pa_cons (pv 6) (pa_cons (pv 3) (pa_cons (pv 4) (pa_cons (pe_ix (ix_listK (K := K)) (pv 2) pe_int (fun _ _ => rfl)) (pa_cons (pe_ix (ix_listK (K := K)) (pv 2) pe_int (fun _ _ => rfl)) pa_nil)))))))
      (pss_cons (ps_set (i := 9) nd rfl (Or.inl rfl) (pe_cal G_law_paper_cost (hr.mono (by decide)) (pa_cons (pv 7) (pa_cons (pv 3) (pa_cons (pv 4) (pa_cons (pe_ix (ix_listK (K := K)) (pv 2) pe_int (fun _ _ => rfl)) (pa_cons (pe_ix (ix_listK (K := K)) (pv 2) pe_int (fun _ _ => rfl)) pa_nil)))))))
      (pss_cons (ps_if (PW.pt (pw_or (pt_cmpR op_isN (pv 8) pe_non (nomark _)) (pw_or (pt_cmpR op_isN (pv 9) pe_non (nomark _)) (pw_or1 (pt_cmpR op_ne (pe_op op_mulW (pe_ix (ix_listK (K := K)) (pv 8) pe_int (fun _ _ => rfl)) (pe_ix (ix_listK (K := K)) (pv 9) pe_int (fun _ _ => rfl))) (pe_op op_mulW (pe_ix (ix_listK (K := K)) (pv 9) pe_int (fun _ _ => rfl)) (pe_ix (ix_listK (K := K)) (pv 8) pe_int (fun _ _ => rfl))) (nomark _)))))) (pss_one (ps_ret pe_non)) pss_nil)
      (pss_one (ps_ret (pv 8))))))))))), ?_⟩
  obtain ⟨_, u, v, wv, rv, la, ws, rows, pool, p, q, rfl, B, hla, hp, hq, bp, bq, k⟩ := h
  have W := B.wel hp hq
  have few := B.wok.few
  have wr := B.len
  obtain ⟨va, vv, rfl, hva, hvp⟩ := id B.wrd
  have vl := paired_len hvp
  -- the level, the row, the prices
  refine ⟨_, rfl, la, _, 0, _, rfl, rfl, SqL.of hla, rfl, _, rfl, la, _, 1, _, rfl, rfl, SqL.of hla, rfl, fun x dx nx ndx ne => share_make nx ndx ne hq (bq.mono (by decide)) fun H1 e1 hsh0 => ⟨rfl, ?_⟩⟩
  have hsh := Mo.up same_fr hsh0
  have ask1 := (B.up e1).ask hsh hp hq bp bq
  refine ⟨_, rfl, _, rfl, _, rfl, rfl, u, v, .ref x, ws, rows.reverse, pool, shr p q, rfl, ask1, fun D t r H2 e2 slv0 hr0 => ?_⟩
  refine ⟨_, rfl, _, rfl, _, rfl, rfl, u, v, .ref x, ws, rows.reverse, pool, shr p q, rfl, ask1.up e2, fun D' t' r' H3 e3 slv0' hr0' => ?_⟩
  have S := B.slv slv0
  have S' := B.slv slv0'
  have e03 := (e1.trans e2).trans e3
  have hrow := Mo.up (same_fr.trans e3) hr0
  have hpap := Mo.up same_fr hr0'
  clear slv0 slv0' hr0 hr0' hsh0
  have tl : D.texts.length = ws.length := by rw [S.pk.texts, List.length_map]
  have tl' : D'.texts.length = ws.length := by rw [S'.pk.texts, List.length_map]
  have sh1 := best_shy S W
  have sh2 := own_shy S' W
  have sh3 := oth_shy S' W
  obtain ⟨pa, p1, p2, rfl, hpa, hp1, hp2⟩ := id hpap
  have all' : AllOf rows D'.readable := S'.pk.readable
  have rdl : D'.readable.length < 60 := by
    have := sub_len all'.st.nodup (m := pool) fun r hr => by
      obtain ⟨row, hrow, hm⟩ := (all'.mem r).mp hr
      exact B.rsub row hrow r hm
    have := B.pool; omega
  -- the row's texts
  refine ⟨_, rfl, _, rfl, va, rfl, ⟨_, SqL.of (e03 _ _ hva)⟩, fun C hC => ?_⟩
  refine lc_new (n := vv.length) walk_list (stepS H3) RStr (fun i bs => bs = (ws.map (·.1)).take i) hC (fun H' e => SqL.of (e _ _ (e03 _ _ hva))) (fun i H x H' y => yAt_same y) (by rw [vl]; exact sz_lt (by omega)) rfl (fun i x bs G1 G2 Kc Rc hi hb f1 f2 _ hy k1 _ => ?_) (fun H4 ys bs e4 hv4 hr4 hb4 => ?_)
  · obtain ⟨y, hy2, ⟨z, u1, u2, rfl, hz, rfl, r2⟩⟩ := paired_get hvp hy.2
    refine ⟨rfl, yes_t ⟨_, rfl, z, _, 0, _, rfl, rfl, SqT.of (f2 _ _ (e03 _ _ hz)), rfl, k1 y.1 _ _ (Same.refl _) rfl ?_⟩⟩
    rw [hb, take_more]
    rw [List.getElem?_map, hy2]; rfl
  rw [vl, List.take_of_length_le (by rw [List.length_map]; exact Nat.le_refl _)] at hb4
  subst hb4
  have hC4 := Mo.up same_fr hr4
  refine ⟨rfl, r, .ref C, D.best t, rfl, Mo.up e4 hrow, by rw [best_keys, S.pk.texts]; exact hC4, fun y hy => (sh1 y hy).1, by rw [best_len]; omega, fun H5 e5 => ?_⟩
  have e35 := e4.trans e5
  have hpa5 := e35 _ _ hpa
  refine ⟨_, rfl, iteF ⟨_, rfl, _, _, _, _, true, rfl, .ty _, .base (.tup hpa5), kit_ty (by decide +kernel), _, rfl, ?_⟩⟩
  refine iteF ⟨_, rfl, pa, _, rfl, .inr (SqT.of hpa5), rfl, _, rfl, ?_⟩
  refine iteF ?_
  -- the prices' texts
  have e05 := e03.trans e35
  refine ⟨_, rfl, pa, _, 0, _, rfl, rfl, SqT.of hpa5, rfl, _, rfl, va, rfl, ⟨_, SqL.of (e05 _ _ hva)⟩, fun C2 hC2 => ?_⟩
  refine lc_new (n := vv.length) walk_list (stepS H5) RStr (fun i bs => bs = (ws.map (·.1)).take i) hC2 (fun H' e => SqL.of (e _ _ (e05 _ _ hva))) (fun i H x H' y => yAt_same y) (by rw [vl]; exact sz_lt (by omega)) rfl (fun i x bs G1 G2 Kc Rc hi hb f1 f2 _ hy k1 _ => ?_) (fun H6 ys6 bs6 e6 hv6 hr6 hb6 => ?_)
  · obtain ⟨y, hy2, ⟨z, u1, u2, rfl, hz, rfl, r2⟩⟩ := paired_get hvp hy.2
    refine ⟨rfl, yes_t ⟨_, rfl, z, _, 0, _, rfl, rfl, SqT.of (f2 _ _ (e05 _ _ hz)), rfl, k1 y.1 _ _ (Same.refl _) rfl ?_⟩⟩
    rw [hb, take_more]
    rw [List.getElem?_map, hy2]; rfl
  rw [vl, List.take_of_length_le (by rw [List.length_map]; exact Nat.le_refl _)] at hb6
  subst hb6
  have hC6 := Mo.up same_fr hr6
  have e36 := e35.trans e6
  refine ⟨rfl, p1, .ref C2, D'.own t', rfl, Mo.up e36 hp1, by rw [own_keys, S'.pk.texts]; exact hC6, fun y hy => (sh2 y hy).1, by rw [own_len]; omega, fun H7 e7 => ?_⟩
  have e37 := e36.trans e7
  have e07 := e03.trans e37
  refine ⟨_, rfl, iteF ⟨_, rfl, pa, _, 1, _, rfl, rfl, SqT.of (e37 _ _ hpa), rfl, _, rfl, rfl, rv, rows, pool, rfl, Mo.up e07 B.row, B.rsub, B.pool, fun ua ys8 H8 e8 hua all8 => ?_⟩⟩
  have ysr : ys8 = D'.readable := StS.uniq all8.st all'.st fun t => (all8.mem t).trans (all'.mem t).symm
  subst ysr
  have e38 := e37.trans e8
  refine ⟨rfl, p2, ua, D'.others t', rfl, Mo.up e38 hp2, by rw [oth_keys]; exact Mo.up same_fr hua, fun y hy => (sh3 y hy).1, by unfold PkD.others; rw [List.length_map]; omega, fun H9 e9 => ?_⟩
  refine ⟨_, rfl, iteF ?_⟩
  have e39 := e38.trans e9
  have e09 := e03.trans e39
  -- the row's sum
  have hla9 := e09 _ _ hla
  refine ⟨_, rfl, _, rfl, _, rfl, _, rfl, la, _, 0, _, rfl, rfl, SqL.of hla9, rfl, _, rfl, la, _, 1, _, rfl, rfl, SqL.of hla9, rfl, rfl, r, .ref va, rv, p, q, D.best t, ws, rows, pool, rfl, Mo.up e39 hrow, Mo.up e09 B.wrd, Mo.up e09 B.row, by rw [best_len]; exact tl, wr, few, sh1, (fun x hx => by have := B.wok.pos x hx; omega), B.bt, bp, bq, B.rsub, B.pool, row_h1 S W, row_h2 hp hq S W B.ro, fun o c Ha ea c0 cb dv ho _ => ?_⟩
  have e3a := e39.trans ea
  have e0a := e03.trans e3a
  have hlaa := e0a _ _ hla
  have one' : ws ≠ [] := B.wok.one
  have rne : D'.others t' ≠ [] := fun z => by
    have h0 : D'.readable = [] := by rw [← oth_keys (t := t'), z]; rfl
    obtain ⟨x0, hx0⟩ := List.exists_mem_of_ne_nil _ one'
    obtain ⟨r0, hr0, er⟩ := List.mem_map.mp (B.sub x0.1 (List.mem_map.mpr ⟨_, hx0, rfl⟩))
    have := (all'.mem r0.1).mpr ⟨r0, hr0, (B.ro.each r0 hr0).own⟩
    rw [h0] at this; exact absurd this List.not_mem_nil
  refine ⟨_, rfl, _, rfl, _, rfl, _, rfl, la, _, 0, _, rfl, rfl, SqL.of hlaa, rfl, _, rfl, la, _, 1, _, rfl, rfl, SqL.of hlaa, rfl, rfl, .ref pa, .ref va, rv, p, q, D'.own t', D'.others t', ws, rows, rfl, ⟨pa, p1, p2, rfl, e3a _ _ hpa, Mo.up e3a hp1, Mo.up e3a hp2⟩, Mo.up e0a B.wrd, Mo.up e0a B.row, by rw [own_len]; exact tl', wr, few, one', by unfold PkD.others; rw [List.length_map]; omega, rne, (fun y hy => (List.mem_append.mp hy).elim (sh2 y) (sh3 y)), (fun x hx => by have := B.wok.pos x hx; omega), B.bt, bp, bq, paper_h S' W B.ro, fun o' c' Hb eb c0' cb' dv' ho' _ => ?_⟩
  have hob := eb _ _ ho
  refine ⟨_, rfl, rfl, _, rfl, iteF ⟨_, rfl, rfl, _, rfl, iteF ?_⟩⟩
  have E := row_paper hp hq S S' W dv dv'
  have bA : Bd (261700 + 20) ((D.best t).map (am c)).sum := (bd_sums (B := 261700) _ fun x hx => by
    obtain ⟨z, hz, rfl⟩ := List.mem_map.mp hx
    exact bd_am (sh1 z hz).1 cb (sh1 z hz).2.2.1).mono (by rw [List.length_map, best_len]; omega)
  have bY : Bd (261700 + 60) ((D'.others t').map (am c')).sum := (bd_sums (B := 261700) _ fun x hx => by
    obtain ⟨z, hz, rfl⟩ := List.mem_map.mp hx
    exact bd_am (sh3 z hz).1 cb' (sh3 z hz).2.2.1).mono (by rw [List.length_map, oth_eq, List.length_map]; omega)
  have mb : Bd 100 (if q < p then q else p) := by split; exact bq; exact bp
  have bX : Bd (262000 + 20) ((ws.zip (D'.own t')).map fun z => z.1.2 * am c' z.2).sum := (bd_sums (B := 262000) _ fun x hx => by
    obtain ⟨z, hz, rfl⟩ := List.mem_map.mp hx
    have z1 := (List.of_mem_zip hz)
    have a1 := B.wok.pos _ z1.1
    have a2 := tot_ge (fun x hx => by have := B.wok.pos x hx; omega) z1.1
    exact (bd_mul (a := 100) (b := 261700) (by have := B.bt; unfold Bd at *; omega) (bd_am (sh2 _ z1.2).1 cb' (sh2 _ z1.2).2.2.1)).mono (by decide)).mono (by rw [List.length_map, List.length_zip, own_len]; omega)
  have bH := bd_add ((bd_mul bX bq).mono (show 262000 + 20 + 100 ≤ 262200 by decide)) ((bd_mul (bd_mul mb B.bt) bY).mono (show 100 + 100 + (261700 + 60) ≤ 262200 by decide))
  refine ⟨_, rfl, o, _, 0, _, rfl, rfl, SqL.of hob, rfl, _, rfl, o', _, 1, _, rfl, rfl, SqL.of ho', rfl, _, _, rfl, rfl, wmul bA (bd_mul (bd_mul B.bt bq) cb') (by decide), _, rfl, o', _, 0, _, rfl, rfl, SqL.of ho', rfl, _, rfl, o, _, 1, _, rfl, rfl, SqL.of hob, rfl, _, _, rfl, rfl, wmul bH cb (by decide), rfl, _, rfl, ?_⟩
  exact neF (congrArg V.int E) ⟨_, rfl, k o D t c Hb (e0a.trans eb) S c0 cb dv hob⟩
end
end MH
/-! part D30 -/
set_option Elab.async false
set_option linter.all false
set_option maxRecDepth 100000
set_option maxHeartbeats 4000000
namespace MH
open PySem PySem.Spec PyProof.Rows L2
theorem gapV_bd {ws : Ws} {rows : Rows} {s : Int × Int} {D : PkD} {t : MK.TS} {f tt : Int} (S : Slv ws rows s D t) (W : Wel ws rows s) (tp : 0 < tt) (bf : Bd 60 f) (bt : Bd 60 tt) : Bd 1800 (gapV D t f tt).1 ∧ Bd 1800 (gapV D t f tt).2 := by
  obtain ⟨bd, bT⟩ := slv_bd S W.wok W.s1 W.s2
  obtain ⟨dp, up, du⟩ := slv_dU S W
  obtain ⟨t1, t2⟩ := shr_bd (n := 1700) du (bT _ _ (Nat.le_refl _) (Nat.le_refl _)) ((bd_mul bd S.pk.ub).mono (by decide))
  obtain ⟨f1, f2⟩ := shr_bd tp bf bt
  unfold gapV
  dsimp only
  exact shr_bd (Int.mul_pos (shr_pos du) (shr_pos tp)) ((bd_sub (bd_mul t1 f2) ((bd_mul f1 t2).mono (show 60 + 1700 ≤ 1700 + 60 by decide))).mono (by decide)) ((bd_mul t2 f2).mono (by decide))
section
variable {P : Program} {w : World} {K : Fr} {mg : Str → Option Value} {base : Heap}
def sp_law_told (K : Fr) : Sp := spx 7 fun vs H Q _ => ∃ (u v mv ev wv rv : V) (la : Addr) (ws : Ws) (rows : Rows) (pool : List Str) (p q : Int) (es : Ents), vs = [u, v, .ref la, mv, ev, wv, rv] ∧ Bse K H u v wv rv ws rows pool ∧ H la = some (.lst [.int p, .int q]) ∧ 0 < p ∧ 0 < q ∧ Bd 100 p ∧ Bd 100 q ∧
  RMrk K H mv es ∧ REnts H ev es ∧ Fit ws (shr p q) pool es ∧ ∀ H', Same H H' → Q (.bl true) H'
theorem sc_law_told : FnScope ["_law_source_here", "_law_changed", "_law_level_here", "_law_marking", "_law_entries", "_law_words_here", "_law_rows_here", "_law_total", "_law_found", "_law_weight_here", "_law_text_here", "_law_accused_here", "_law_due", "_law_got", "_law_entry", "_law_other"] ["_law_source_here", "_law_changed", "_law_level_here", "_law_marking", "_law_entries", "_law_words_here", "_law_rows_here"] (defScope s_law_told) := ⟨rfl, rfl, rfl, by decide +kernel, rfl, by decide +kernel, by decide +kernel⟩
theorem c_law_told (T : Tx K mg) (G_law_of : Cal P w K mg base 1 "_law_of" ["_law_rows_here", "_law_text_here"] sp_law_of) (G_law_is : Cal P w K mg base 2 "_law_is" ["_law_got", "_law_over", "_law_under_here"] (sp_law_is K)) (G_found_share : Cal P w K mg base 4 "found_share" ["changes", "marking"] (sp_found_share K)) (G_accused_at : Cal P w K mg base 4 "accused_at" ["marking", "level"] (sp_accused_at K)) (G_Share___init : Mak P w K mg base 2 "Share" (He.ga K "Share") ["self", "over", "under"] (sp_Share___init K)) (G_law_worth : Cal P w K mg base 9 "_law_worth" ["_law_source_here", "_law_changed", "_law_level_here", "_law_words_here", "_law_rows_here"] (sp_law_worth K)) (G_gap : Cal P w K mg base 9 "gap" ["source", "changes", "level", "marking"] (sp_gap K)) (G_law_good : Cal P w K mg base 2 "_law_good" ["_law_share"] (sp_law_good K)) : Cal P w K mg base 10 "_law_told" ["_law_source_here", "_law_changed", "_law_level_here", "_law_marking", "_law_entries", "_law_words_here", "_law_rows_here"] (sp_law_told K) := by
  refine T.cal 75 rfl 47 rfl sc_law_told (fun _ _ _ _ h => h.1) (fun _ _ _ _ _ _ us hl => match us, hl with | [_, _, _, _, _, _, _], _ => rfl) (fun cdv A outer s H vs Q E hr h => ?_)
  have nd := sc_law_told.nd
  have hu := hu_of hr
  refine ⟨_, (pss_cons (ps_set (i := 7) nd rfl (Or.inl rfl) (pe_callB (cr_sum rfl) (by rfl) T.f_sum (by decide +kernel) (pa_cons (pe_lc (own := [("_law_entry", 14)]) (g := (gName 14)) (tt := tYes) (by rfl) nd (pi_list (pv 4)) (blkOk_by (own := [("_law_entry", 14)]) (N := ["_law_source_here", "_law_changed", "_law_level_here", "_law_marking", "_law_entries", "_law_words_here", "_law_rows_here", "_law_total", "_law_found", "_law_weight_here", "_law_text_here", "_law_accused_here", "_law_due", "_law_got", "_law_entry", "_law_other"]) (sc := defScope s_law_told) (by decide +kernel)) (fun _ _ _ _ _ => (pg_name (i := 14) nd rfl (Or.inl rfl))) (fun _ _ _ _ _ => pts_nil) (fun _ _ _ _ _ => (pe_ix (ix_tupK (K := K)) (pv 14) pe_int (fun _ _ => rfl)))) pa_nil)))
      (pss_cons (ps_set (i := 8) nd rfl (Or.inl rfl) pe_int)
      (pss_cons (ps_for PassesOwn.never rfl (pi_list (pv 4)) (pg_tupK (K := K) 3 rfl (pgs_cons (pg_name (i := 9) nd rfl (Or.inl rfl)) (pgs_cons (pg_name (i := 10) nd rfl (Or.inl rfl)) (pgs_cons (pg_name (i := 11) nd rfl (Or.inr rfl)) pgs_nil)))) (pss_one (ps_if (pt_cmpR op_eq (pe_callB (call_lenK (K := K)) (by rfl) T.f_len (by decide +kernel) (pa_cons (pe_lc (own := [("_law_other", 15)]) (g := (gName 15)) (by rfl) nd (pi_list (pe_cal G_law_of (hr.mono (by decide)) (pa_cons (pv 6) (pa_cons (pv 10) pa_nil)))) (blkOk_by (own := [("_law_other", 15)]) (N := ["_law_source_here", "_law_changed", "_law_level_here", "_law_marking", "_law_entries", "_law_words_here", "_law_rows_here", "_law_total", "_law_found", "_law_weight_here", "_law_text_here", "_law_accused_here", "_law_due", "_law_got", "_law_entry", "_law_other"]) (sc := defScope s_law_told) (by decide +kernel)) (fun _ _ _ _ _ => (pg_name (i := 15) nd rfl (Or.inl rfl))) (fun _ _ _ _ _ => (pts_one (pt_cmpR (op_notInK (K := K)) (pv 15) (pv 11) (by rfl)))) (fun _ _ _ _ _ => (pv 15))) pa_nil)) pe_int (nomark _)) (pss_one (ps_set (i := 8) nd rfl (Or.inl rfl) (pe_op op_add (pv 8) (pv 9)))) pss_nil)))
      (pss_cons (ps_if (pt_not (pt_val (pe_cal G_law_is (hr.mono (by decide)) (pa_cons (pe_cal G_found_share (hr.mono (by decide)) (pa_cons (pv 1) (pa_cons (pv 3) pa_nil))) (pa_cons (pv 8) (pa_cons (pv 7) pa_nil)))))) (pss_one (ps_ret pe_bl)) pss_nil)
      (pss_cons (ps_if (pt_cmpR op_notN (pe_cal G_accused_at (hr.mono (by decide)) (pa_cons (pv 3) (pa_cons (pe_mak G_Share___init (hr.mono (by decide)) (pa_cons (pe_ix (ix_listK (K := K)) (pv 2) pe_int (fun _ _ => rfl)) (pa_cons (pe_ix (ix_listK (K := K)) (pv 2) pe_int (fun _ _ => rfl)) pa_nil))) pa_nil))) pe_non (nomark _)) (pss_one (ps_ret pe_bl)) pss_nil)
      (pss_cons (ps_set (i := 12) nd rfl (Or.inl rfl) (pe_cal G_law_worth (hr.mono (by decide)) (pa_cons (pv 0) (pa_cons (pv 1) (pa_cons (pv 2) (pa_cons (pv 5) (pa_cons (pv 6) pa_nil)))))))
      (pss_cons (ps_set (i := 13) nd rfl (Or.inl rfl) (pe_cal G_gap (hr.mono (by decide)) (pa_cons (pv 0) (pa_cons (pv 1) (pa_cons (pe_mak G_Share___init (hr.mono (by decide)) (pa_cons (pe_ix (ix_listK (K := K)) (pv 2) pe_int (fun _ _ => rfl)) (pa_cons (pe_ix (ix_listK (K := K)) (pv 2) pe_int (fun _ _ => rfl)) pa_nil))) (pa_cons (pv 3) pa_nil))))))
      (pss_cons (ps_if (PW.pt (pw_or (pt_cmpR op_isN (pv 12) pe_non (nomark _)) (pw_or (pt_not (pt_val (pe_cal G_law_good (hr.mono (by decide)) (pa_cons (pv 13) pa_nil)))) (pw_or1 (pt_cmpR op_lt (pe_op op_mulW (pe_ix (ix_listK (K := K)) (pv 12) pe_int (fun _ _ => rfl)) (pv 7)) (pe_op op_mulW (pv 8) (pe_ix (ix_listK (K := K)) (pv 12) pe_int (fun _ _ => rfl))) (nomark _)))))) (pss_one (ps_ret pe_bl)) pss_nil)
      (pss_one (ps_ret (pe_and (pe_cmpR op_eq (pe_op op_mulW (pe_op op_mulW (pe_fldK (K := K) (pv 13) rfl) (pe_ix (ix_listK (K := K)) (pv 12) pe_int (fun _ _ => rfl))) (pv 7)) (pe_op op_mulW (pe_op op_sub (pe_op op_mulW (pe_ix (ix_listK (K := K)) (pv 12) pe_int (fun _ _ => rfl)) (pv 7)) (pe_op op_mulW (pv 8) (pe_ix (ix_listK (K := K)) (pv 12) pe_int (fun _ _ => rfl)))) (pe_fldK (K := K) (pv 13) rfl)) (nomark _)) (pe_one (pe_cmpR op_ge (pe_fldK (K := K) (pv 13) rfl) pe_int (nomark _)))))))))))))), ?_⟩
  obtain ⟨_, u, v, mv, ev, wv, rv, la, ws, rows, pool, p, q, es, rfl, B, hla, hp, hq, bp, bq, hm0, he0, F, k⟩ := h
  have W := B.wel hp hq
  obtain ⟨ea, evs, rfl, hea, hep⟩ := id he0
  obtain ⟨mp, rfl, hm⟩ := id hm0
  obtain ⟨cp, rfl, hc⟩ := id B.chg
  have eok := F.ok
  have fewe := eok.few
  have el := paired_len hep
  have erv := rdOf_perm (rev_perm rows) B.nd
  have rl : rows.reverse.length ≤ 60 := by rw [List.length_reverse]; exact B.ro.few
  have rok : ∀ r ∈ rows.reverse, RowOk pool r := fun r hr => B.ro.each r (List.mem_reverse.mp hr)
  have tp := topE_pos eok
  have bt := topE_bd eok
  have fl := fnd_le (rdOf rows) (es := es) fun e he => (eok.pos e he).1
  have bf : Bd 60 (fnd (rdOf rows) es) := by unfold Bd at *; omega
  have esub : ∀ e ∈ es, e.2.1 ∈ rows.map (·.1) := fun e he => B.sub _ (F.sub e he)
  have esub' : ∀ e ∈ es, e.2.1 ∈ rows.reverse.map (·.1) := fun e he => ((rev_perm rows).map (·.1)).mem_iff.mpr (esub e he)
  -- total
  refine ⟨_, rfl, ea, rfl, ⟨_, SqL.of hea⟩, fun C hC => ?_⟩
  refine lc_new (n := evs.length) walk_list (stepS H) RInt (fun i bs => bs = (es.map (·.1)).take i) hC (fun H' e => SqL.of (e _ _ hea)) (fun i H x H' y => yAt_same y) (by rw [el]; exact sz_lt (by omega)) rfl (fun i x bs G1 G2 Kc Rc hi hb e1 e2 _ hy k1 _ => ?_) (fun H1 ys bs e1 hv1 hr1 hb => ?_)
  · obtain ⟨y, hy2, ⟨z, u1, u2, u3, rfl, hz, rfl, r2, r3⟩⟩ := paired_get hep hy.2
    refine ⟨rfl, yes_t ⟨_, rfl, z, _, 0, _, rfl, rfl, SqT.of (e2 _ _ hz), rfl, k1 y.1 _ _ (Same.refl _) rfl ?_⟩⟩
    rw [hb, take_more]
    rw [List.getElem?_map, hy2]; rfl
  rw [el, List.take_of_length_le (by rw [List.length_map]; exact Nat.le_refl _)] at hb
  subst hb
  have hC1 := same_fr _ _ (lstI_at hr1)
  refine ⟨C, _, rfl, SqL.of hC1, ?_⟩
  rw [show (es.map (·.1)).sum = topE es from rfl]
  -- found
  refine ⟨_, rfl, ea, rfl, ⟨_, SqL.of (e1 _ _ hea)⟩, for_list (K := K) (xs := evs) (fun i σ H' => ∃ u9 u10 u11, σ = [some u, some (.ref cp), some (.ref la), some (.ref mp), some (.ref ea), some wv, some rv, some (.int (topE es)), some (.int (fnd (rdOf rows) (es.take i))), u9, u10, u11, none, none, none, none] ∧ Same H H') ⟨none, none, none, rfl, e1⟩ (fun i σ H' _ ⟨_, _, _, _, e⟩ => SqL.of (e _ _ hea)) ?_ ?_⟩
  · rintro i x σ H' hi ⟨u9, u10, u11, rfl, e⟩
    obtain ⟨⟨n, t, ac⟩, hy, ⟨z, y1, y2, y3, rfl, hz, rfl, rfl, hz3⟩⟩ := paired_get hep hi
    obtain ⟨b, rfl, hb⟩ := hz3.strs
    have hb' := e _ _ hb
    have hin := List.mem_of_getElem? hy
    obtain ⟨r, hr, er⟩ := List.mem_map.mp (esub _ hin)
    have er : r.1 = t := er
    have erd : rdOf rows t = r.2 := by rw [← er]; exact rdOf_mem B.ro.nd hr
    have rdl : r.2.length ≤ 8 := (B.ro.each r hr).few
    refine ⟨z, _, rfl, SqT.of (e _ _ hz), rfl, _, _, rfl, _, _, rfl, _, _, rfl, rfl, ?_⟩
    refine ⟨_, rfl, _, rfl, rfl, rv, rows, t, r, rfl, Mo.up e B.row, hr, er, B.ro.nd, fun ul hul => ?_⟩
    obtain ⟨b2, rfl, hb2⟩ := hul.strs
    refine ⟨b2, rfl, ⟨_, SqL.of hb2⟩, fun D hD => ?_⟩
    refine lc_new (n := (r.2.map V.str).length) walk_list (stepS H') RStr (fun i bs => bs = (r.2.take i).filter fun y => decide (y ∉ ac)) hD (fun H' e => SqL.of (e _ _ hb2)) (fun i H x H' y => yAt_same y) (by rw [List.length_map]; exact sz_lt (by omega)) rfl (fun j x bs G1 G2 Kc Rc hj hbs f1 f2 _ hy2 k1 k2 => ?_) (fun H2 ys bs e2 hv2 hr2 hbs => ?_)
    · obtain ⟨o, ho, rfl⟩ := map_some hy2.2
      refine ⟨rfl, _, rfl, _, rfl, b, _, rfl, .inl (SqL.of (f2 _ _ hb')), rfl, flat_strs _, _, rfl, ?_⟩
      rw [inV_str]
      by_cases c : o ∈ ac
      · rw [decide_eq_true c]
        refine iteF (k2 _ (Same.refl _) ?_)
        rw [hbs, take_more ho, List.filter_append, List.filter_cons_of_neg (by simp [c]), List.filter_nil, List.append_nil]
      · rw [decide_eq_false c]
        refine iteT ⟨_, rfl, k1 o _ _ (Same.refl _) rfl ?_⟩
        rw [hbs, take_more ho, List.filter_append, List.filter_cons_of_pos (by simp [c]), List.filter_nil]
    · rw [List.length_map, List.take_length] at hbs
      have hD2 := same_fr _ _ (lstS_at hr2)
      have more : fnd (rdOf rows) (es.take (i + 1)) = fnd (rdOf rows) (es.take i) + if r.2.all (fun x => decide (x ∈ ac)) = true then n else 0 := by
        rw [take_more hy, fnd_app]
        show _ + ((if (rdOf rows t).all (fun x => decide (x ∈ ac)) = true then n else 0) + 0) = _
        rw [erd, Int.add_zero]
      refine ⟨D, _, rfl, .inl (SqL.of hD2), rfl, _, rfl, ?_⟩
      rw [List.length_map]
      by_cases c : r.2.all (fun x => decide (x ∈ ac)) = true
      · rw [if_pos c] at more
        have z0 : bs = [] := by
          rw [hbs, List.filter_eq_nil_iff]
          intro y hy3
          have := of_decide_eq_true (List.all_eq_true.mp c y hy3)
          simp [this]
        refine iteD (by rw [z0]; rfl) ⟨_, rfl, _, rfl, _, _, rfl, rfl, some (.int n), some (.str t), some (.ref b), ?_, e.trans e2⟩
        rw [more]; rfl
      · rw [if_neg c, Int.add_zero] at more
        refine iteN (fun z => c ?_) ⟨some (.int n), some (.str t), some (.ref b), ?_, e.trans e2⟩
        · have z : (bs.length : Int) = 0 := by injection z
          have z0 : bs = [] := List.eq_nil_of_length_eq_zero (by omega)
          rw [hbs, List.filter_eq_nil_iff] at z0
          rw [List.all_eq_true]
          intro y hy3
          have := z0 y hy3
          simpa using this
        · rw [more]; rfl
  rintro σ H2 ⟨u9, u10, u11, rfl, e2⟩
  rw [el, List.take_length]
  -- the found share
  have fin := fun (H' : Hp) (e : Same H H') => (⟨B.up e, e _ _ hla, hm.up e⟩ : Bse K H' u (.ref cp) wv rv ws rows pool ∧ H' la = some (.lst [.int p, .int q]) ∧ MkAt K H' mp es)
  refine ⟨_, rfl, _, rfl, rfl, cp, mp, rows.reverse, pool, es, rfl, hc.up e2, B.nd, rl, rok, hm.up e2, eok, esub', fun f H3 e3 hf => ?_⟩
  have e03 := e2.trans e3
  rw [erv] at hf
  refine ⟨_, rfl, _, rfl, rfl, f, _, _, rfl, tp, bf.mono (by decide), bt.mono (by decide), Mo.up same_fr hf, _, rfl, iteF ?_⟩
  -- no text accused too often
  refine ⟨_, rfl, _, rfl, la, _, 0, _, rfl, rfl, SqL.of (e03 _ _ hla), rfl, _, rfl, la, _, 1, _, rfl, rfl, SqL.of (e03 _ _ hla), rfl, fun x dx nx ndx ne => share_make nx ndx ne hq (bq.mono (by decide)) fun H4 e4 hs4 => ⟨rfl, ?_⟩⟩
  obtain ⟨b1, b2⟩ := shr_bd hq bp bq
  have e04 := e03.trans e4
  refine ⟨rfl, mp, .ref x, es, pool, shr p q, rfl, hm.up e04, eok, F.acp, (by have := B.pool; omega), Mo.up same_fr hs4, b1.mono (by decide), b2.mono (by decide), F.acc, fun H5 e5 => ?_⟩
  refine ⟨rfl, _, rfl, iteF ?_⟩
  have e05 := e04.trans e5
  -- the worth
  refine ⟨_, rfl, _, rfl, _, rfl, _, rfl, _, rfl, rfl, u, .ref cp, wv, rv, la, ws, rows, pool, p, q, rfl, B.up e05, e05 _ _ hla, hp, hq, bp, bq, fun o D t c H6 e6 S c0 cb dv ho => ?_⟩
  have e06 := e05.trans e6
  -- the gap
  refine ⟨_, rfl, _, rfl, _, rfl, la, _, 0, _, rfl, rfl, SqL.of (e06 _ _ hla), rfl, _, rfl, la, _, 1, _, rfl, rfl, SqL.of (e06 _ _ hla), rfl, fun x2 dx2 nx2 ndx2 ne2 => share_make nx2 ndx2 ne2 hq (bq.mono (by decide)) fun H7 e7 hs7 => ⟨rfl, _, rfl, ?_⟩⟩
  have e07 := e06.trans e7
  refine ⟨rfl, u, .ref cp, .ref x2, .ref mp, ws, rows.reverse, pool, shr p q, es, rfl, (B.up e07).ask (Mo.up same_fr hs7) hp hq bp bq, rl, ⟨mp, rfl, hm.up e07⟩, F, fun D' t' g H8 e8 S0' hg0 => ?_⟩
  have S' := B.slv S0'
  rw [erv] at hg0
  have hg := Mo.up (same_fr) hg0
  obtain ⟨gp, gdx, rfl, hgp⟩ := id hg
  have ho8 := (e7.trans e8) _ _ ho
  obtain ⟨g2, g1, ge⟩ := gap_ok S S' W F c0 dv rfl
  have tle := told_le S W F c0 dv
  obtain ⟨gb1, gb2⟩ := gapV_bd S' W tp bf bt
  have tl : D.texts.length = ws.length := by rw [S.pk.texts, List.length_map]
  have few := B.wok.few
  have sh1 := best_shy S W
  have bA : Bd (261700 + 20) ((D.best t).map (am c)).sum := (bd_sums (B := 261700) _ fun x hx => by
    obtain ⟨z, hz, rfl⟩ := List.mem_map.mp hx
    exact bd_am (sh1 z hz).1 cb (sh1 z hz).2.2.1).mono (by rw [List.length_map, best_len]; omega)
  have w1 := bd_mul bA bt
  have w2 := bd_mul bf cb
  have w3 := bd_sub (w1.mono (show 261700 + 20 + 60 ≤ 262000 by decide)) (w2.mono (show 60 + 260000 ≤ 262000 by decide))
  have w4 := bd_mul gb1 cb
  refine ⟨_, rfl, rfl, _, rfl, iteF ⟨_, rfl, rfl, .ref gp, _, rfl, hg, _, rfl, ?_⟩⟩
  rw [decide_eq_true g2]
  refine iteF ⟨_, rfl, o, _, 0, _, rfl, rfl, SqL.of ho8, rfl, _, rfl, _, _, rfl, rfl, wmul bA bt (by decide), _, rfl, _, rfl, o, _, 1, _, rfl, rfl, SqL.of ho8, rfl, _, _, rfl, rfl, wmul bf cb (by decide), _, _, rfl, rfl, _, rfl, iteN (by omega) ?_⟩
  refine ⟨_, rfl, gp, _, gdx, _, _, rfl, hgp, T.cl_Share, T.n_Share_over, shF_over, _, rfl, o, _, 1, _, rfl, rfl, SqL.of ho8, rfl, _, _, rfl, rfl, wmul gb1 cb (by decide), _, rfl, _, _, rfl, rfl, wmul w4 bt (by decide), ?_⟩
  refine ⟨_, rfl, o, _, 0, _, rfl, rfl, SqL.of ho8, rfl, _, rfl, _, _, rfl, rfl, wmul bA bt (by decide), _, rfl, _, rfl, o, _, 1, _, rfl, rfl, SqL.of ho8, rfl, _, _, rfl, rfl, wmul bf cb (by decide), _, _, rfl, rfl, _, rfl, gp, _, gdx, _, _, rfl, hgp, T.cl_Share, T.n_Share_under, shF_under, _, _, rfl, rfl, wmul w3 gb2 (by decide), rfl, _, rfl, iteD (congrArg V.int ge) ?_⟩
  refine ⟨_, rfl, gp, _, gdx, _, _, rfl, hgp, T.cl_Share, T.n_Share_over, shF_over, _, _, rfl, rfl, blT g1 (k H8 (e07.trans e8))⟩
end
end MH
/-! part T1 -/
set_option Elab.async false
set_option linter.all false
set_option maxRecDepth 100000
set_option maxHeartbeats 4000000
/-! a machine's words, in plain words. -/
namespace MH
open PySem PySem.Spec PyProof.Rows L2
abbrev MRow := List (Int × Int)
abbrev MRows := List MRow
/-- text, state, weight -/
abbrev Wd := Str × Int × Int
def rsum (r : MRow) : Int := (r.map (·.1)).sum
def rowAt (rows : MRows) (s : Int) : MRow := rows.getD s.toNat []
def sg (c : Nat) : Str := ⟨#[c]⟩
/-- what is begun, one letter longer -/
def nxt1 (cs : List Nat) (rows : MRows) (U : Int) (e : Wd) : List Wd := ((cs.zip (rowAt rows e.2.1)).filter fun x => decide (0 < x.2.1)).map fun x => (e.1 ++ sg x.1, x.2.2, e.2.2 * x.2.1 * (U / rsum (rowAt rows e.2.1)))
def lv (cs : List Nat) (rows : MRows) (U st : Int) : Nat → List Wd
  | 0 => [(Str.ofString "", st, 1)]
  | k + 1 => (lv cs rows U st k).flatMap (nxt1 cs rows U)
def wds (es : List Wd) : Ws := es.map fun e => (e.1, e.2.2)
/-- the least common multiple of the rows' sums -/
def unitN (rows : MRows) : Nat := rows.foldl (fun a r => lcmN a (rsum r).toNat) 1
structure MOk (cs : List Nat) (st : Int) (rows : MRows) : Prop where
  inc : cs.Pairwise (· < ·)
  c1 : 1 ≤ cs.length
  c3 : cs.length ≤ 3
  r2 : rows.length ≤ 2
  st0 : 0 ≤ st
  st1 : st < rows.length
  each : ∀ r ∈ rows, r.length = cs.length ∧ 0 < rsum r ∧ ∀ x ∈ r, 0 ≤ x.1 ∧ x.1 ≤ 4 ∧ 0 ≤ x.2 ∧ x.2 < rows.length
theorem rsum_le : ∀ {r : MRow}, (∀ x ∈ r, 0 ≤ x.1 ∧ x.1 ≤ 4) → 0 ≤ rsum r ∧ rsum r ≤ 4 * r.length
  | [], _ => ⟨Int.le_refl _, Int.le_refl _⟩
  | x :: r, h => by
    obtain ⟨a, b⟩ := rsum_le (r := r) fun y hy => h y (List.mem_cons_of_mem _ hy)
    have := h x List.mem_cons_self
    show 0 ≤ x.1 + rsum r ∧ x.1 + rsum r ≤ 4 * ((r.length + 1 : Nat) : Int)
    omega
section
variable {cs : List Nat} {rows : MRows} {U st : Int}
theorem MOk.row (h : MOk cs st rows) {s : Int} (h0 : 0 ≤ s) (h1 : s < rows.length) : rowAt rows s ∈ rows ∧ rows[s.toNat]? = some (rowAt rows s) := by
  have l : s.toNat < rows.length := by omega
  have e : rows[s.toNat]? = some rows[s.toNat] := List.getElem?_eq_getElem l
  have : rowAt rows s = rows[s.toNat] := by unfold rowAt; rw [List.getD_eq_getElem?_getD, e]; rfl
  rw [this]; exact ⟨List.getElem_mem l, e⟩
theorem MOk.sum (h : MOk cs st rows) {r : MRow} (hr : r ∈ rows) : 0 < rsum r ∧ rsum r ≤ 12 := by
  obtain ⟨a, b, c⟩ := h.each r hr
  have q := rsum_le (r := r) fun x hx => ⟨(c x hx).1, (c x hx).2.1⟩
  have := h.c3
  rw [a] at q; omega
theorem lcmN_eq (a b : Nat) : lcmN a b = Nat.lcm a b := by
  unfold lcmN Nat.lcm
  exact Nat.div_mul_right_comm (Nat.gcd_dvd_left a b) b
theorem unit_go : ∀ {l : MRows} {a : Nat}, 0 < a → (∀ r ∈ l, 0 < rsum r ∧ rsum r ≤ 12) → 0 < l.foldl (fun a r => lcmN a (rsum r).toNat) a ∧ l.foldl (fun a r => lcmN a (rsum r).toNat) a ≤ a * 12 ^ l.length ∧ a ∣ l.foldl (fun a r => lcmN a (rsum r).toNat) a ∧ ∀ r ∈ l, (rsum r).toNat ∣ l.foldl (fun a r => lcmN a (rsum r).toNat) a
  | [], a, h, _ => ⟨h, by simp, Nat.dvd_refl _, fun _ h => absurd h List.not_mem_nil⟩
  | r :: l, a, h, p => by
    have p1 := p r List.mem_cons_self
    have r0 : 0 < (rsum r).toNat := by omega
    have e := lcmN_eq a (rsum r).toNat
    have b0 : 0 < lcmN a (rsum r).toNat := by rw [e]; exact Nat.lcm_pos h r0
    have b1 : lcmN a (rsum r).toNat ≤ a * 12 := by
      rw [e]
      refine Nat.le_trans (Nat.le_of_dvd (Nat.mul_pos h r0) (Nat.lcm_dvd_mul a _)) ?_
      exact Nat.mul_le_mul_left a (by omega)
    obtain ⟨i1, i2, i3, i4⟩ := unit_go (l := l) b0 fun x hx => p x (List.mem_cons_of_mem _ hx)
    refine ⟨i1, ?_, ?_, fun x hx => ?_⟩
    · refine Nat.le_trans i2 ?_
      rw [List.length_cons, Nat.pow_succ, Nat.mul_comm (12 ^ l.length), ← Nat.mul_assoc]
      exact Nat.mul_le_mul_right _ b1
    · exact Nat.dvd_trans (by rw [e]; exact Nat.dvd_lcm_left _ _) i3
    · rcases List.mem_cons.mp hx with z | z
      · rw [z]; exact Nat.dvd_trans (by rw [e]; exact Nat.dvd_lcm_right _ _) i3
      · exact i4 x z
/-- the unit -/
theorem MOk.unit (h : MOk cs st rows) : 0 < unitN rows ∧ unitN rows ≤ 144 ∧ ∀ r ∈ rows, rsum r ∣ (unitN rows : Int) := by
  obtain ⟨a, b, _, d⟩ := unit_go (l := rows) (a := 1) Nat.one_pos fun r hr => h.sum hr
  refine ⟨a, ?_, fun r hr => ?_⟩
  · refine Nat.le_trans b ?_
    rw [Nat.one_mul]
    exact Nat.le_trans (Nat.pow_le_pow_right (by decide) h.r2) (by decide)
  · have p := h.sum hr
    have := d r hr
    have e : ((rsum r).toNat : Int) = rsum r := Int.toNat_of_nonneg (by omega)
    rw [← e]; exact Int.natCast_dvd_natCast.mpr this
/-- every word begun: its state, its weight, its length -/
theorem lv_ok (h : MOk cs st rows) (hU : U = unitN rows) : ∀ k, ∀ e ∈ lv cs rows U st k, 0 ≤ e.2.1 ∧ e.2.1 < rows.length ∧ 1 ≤ e.2.2 ∧ e.2.2 ≤ (4 * U) ^ k ∧ e.1.length = k
  | 0, e, he => by
    rw [show e = (Str.ofString "", st, 1) from List.mem_singleton.mp he]
    exact ⟨h.st0, h.st1, Int.le_refl _, (by rw [Int.pow_zero]; exact Int.le_refl _), rfl⟩
  | k + 1, e, he => by
    obtain ⟨u0, u1, ud⟩ := h.unit
    obtain ⟨e0, m0, m1⟩ := List.mem_flatMap.mp he
    obtain ⟨i1, i2, i3, i4, i5⟩ := lv_ok h hU k e0 m0
    obtain ⟨hr, _⟩ := h.row i1 i2
    have rs := h.sum hr
    obtain ⟨_, _, each⟩ := h.each _ hr
    obtain ⟨x, hx, rfl⟩ := List.mem_map.mp m1
    obtain ⟨hx1, hx2⟩ := List.mem_filter.mp hx
    have p0 : 0 < x.2.1 := of_decide_eq_true hx2
    have z := each x.2 (List.of_mem_zip (a := x.1) (b := x.2) hx1).2
    have U0 : 0 < U := by omega
    have d := ud _ hr
    rw [← hU] at d
    have q := Int.ediv_mul_cancel d
    have q0 : 1 ≤ U / rsum (rowAt rows e0.2.1) := by
      have : 0 < U / rsum (rowAt rows e0.2.1) := Int.ediv_pos_of_pos_of_dvd U0 (by omega) d
      omega
    have q1 : U / rsum (rowAt rows e0.2.1) ≤ U := Int.ediv_le_self _ (by omega)
    generalize U / rsum (rowAt rows e0.2.1) = v at *
    have n1 : 1 ≤ e0.2.2 * x.2.1 := by
      have := Int.mul_pos (show 0 < e0.2.2 by omega) p0
      omega
    refine ⟨z.2.2.1, z.2.2.2, ?_, ?_, ?_⟩
    · show 1 ≤ e0.2.2 * x.2.1 * v
      have := Int.mul_pos (show 0 < e0.2.2 * x.2.1 by omega) (show 0 < v by omega)
      omega
    · show e0.2.2 * x.2.1 * v ≤ (4 * U) ^ (k + 1)
      have a1 : e0.2.2 * x.2.1 ≤ (4 * U) ^ k * 4 := Int.le_trans (Int.mul_le_mul_of_nonneg_right i4 (by omega)) (Int.mul_le_mul_of_nonneg_left z.2.1 (by have := i3; omega))
      have a2 : e0.2.2 * x.2.1 * v ≤ (4 * U) ^ k * 4 * U := Int.le_trans (Int.mul_le_mul_of_nonneg_right a1 (by omega)) (Int.mul_le_mul_of_nonneg_left q1 (by have := i3; omega))
      rw [Int.pow_succ, ← Int.mul_assoc]; exact a2
    · show (e0.1 ++ sg x.1).length = k + 1
      have : (e0.1 ++ sg x.1).length = e0.1.length + (sg x.1).length := Array.size_append
      rw [this, i5]; rfl
/-- the weights' sum -/
theorem sum_nxt (w v : Int) : ∀ {cs : List Nat} {r : MRow} (t : Str), cs.length = r.length → (∀ x ∈ r, 0 ≤ x.1) → ((((cs.zip r).filter fun x => decide (0 < x.2.1)).map fun x => ((t ++ sg x.1, x.2.2, w * x.2.1 * v) : Wd)).map fun e => e.2.2).sum = w * rsum r * v
  | [], [], _, _, _ => by show (0 : Int) = w * 0 * v; grind
  | c :: cs, x :: r, t, l, p => by
    have ih := sum_nxt w v (cs := cs) (r := r) t (by simpa using l) fun y hy => p y (List.mem_cons_of_mem _ hy)
    have p0 := p x List.mem_cons_self
    have e : w * rsum (x :: r) * v = w * x.1 * v + w * rsum r * v := by
      show w * (x.1 + rsum r) * v = _; grind
    rw [List.zip_cons_cons]
    by_cases c0 : 0 < x.1
    · rw [List.filter_cons_of_pos (by simpa using c0), List.map_cons, List.map_cons, List.sum_cons, ih, e]
    · rw [List.filter_cons_of_neg (by simpa using c0), ih, e]
      have : x.1 = 0 := by omega
      rw [this]; grind
theorem lv_sum (h : MOk cs st rows) (hU : U = unitN rows) : ∀ k, ((lv cs rows U st k).map fun e => e.2.2).sum = U ^ k
  | 0 => by rw [Int.pow_zero]; rfl
  | k + 1 => by
    have ih := lv_sum h hU k
    have ok := lv_ok h hU k
    obtain ⟨_, _, ud⟩ := h.unit
    have go : ∀ l : List Wd, (∀ e ∈ l, 0 ≤ e.2.1 ∧ e.2.1 < rows.length) → ((l.flatMap (nxt1 cs rows U)).map fun e => e.2.2).sum = U * (l.map fun e => e.2.2).sum := fun l => by
      induction l with
      | nil => intro _; rw [List.flatMap_nil]; show (0 : Int) = U * 0; omega
      | cons e l ih =>
        intro p
        obtain ⟨a, b⟩ := p e List.mem_cons_self
        obtain ⟨hr, _⟩ := h.row a b
        obtain ⟨r1, r2, r3⟩ := h.each _ hr
        rw [List.flatMap_cons, List.map_append, List.sum_append, ih fun x hx => p x (List.mem_cons_of_mem _ hx), List.map_cons, List.sum_cons]
        have s1 : ((nxt1 cs rows U e).map fun e => e.2.2).sum = e.2.2 * rsum (rowAt rows e.2.1) * (U / rsum (rowAt rows e.2.1)) := sum_nxt _ _ e.1 r1.symm fun x hx => (r3 x hx).1
        have d := ud _ hr
        rw [← hU] at d
        have q := Int.ediv_mul_cancel d
        rw [s1]
        generalize U / rsum (rowAt rows e.2.1) = v at *
        generalize rsum (rowAt rows e.2.1) = s at *
        rw [← q]; grind
    show (((lv cs rows U st k).flatMap (nxt1 cs rows U)).map fun e => e.2.2).sum = U ^ (k + 1)
    rw [go _ fun e he => ⟨(ok e he).1, (ok e he).2.1⟩, ih, Int.pow_succ, Int.mul_comm]
/-! ### in order -/
theorem app_cps (t : Str) (c : Nat) : (t ++ sg c).cps.toList = t.cps.toList ++ [c] := by
  show (t.cps ++ #[c]).toList = _
  rw [Array.toList_append]
theorem lt_app : ∀ {x y : List Nat} {c d : Nat}, x.length = y.length → ltCps x y = true → ltCps (x ++ [c]) (y ++ [d]) = true
  | [], [], _, _, _, h => by rw [ltC_irrefl] at h; cases h
  | a :: x, b :: y, c, d, l, h => by
    rw [List.cons_append, List.cons_append, ltC_cons]
    rcases ltC_cons.mp h with h | ⟨h, g⟩
    · exact .inl h
    · exact .inr ⟨h, lt_app (by simpa using l) g⟩
theorem lt_one : ∀ {x : List Nat} {c d : Nat}, c < d → ltCps (x ++ [c]) (x ++ [d]) = true
  | [], c, d, h => ltC_cons.mpr (.inl h)
  | a :: x, c, d, h => by rw [List.cons_append, List.cons_append]; exact ltC_cons.mpr (.inr ⟨rfl, lt_one h⟩)
theorem zip_lt : ∀ {cs : List Nat} {r : MRow}, cs.Pairwise (· < ·) → (cs.zip r).Pairwise fun x y => x.1 < y.1
  | [], _, _ => by rw [List.zip_nil_left]; exact .nil
  | _ :: _, [], _ => .nil
  | c :: cs, x :: r, h => by
    obtain ⟨a, b⟩ := List.pairwise_cons.mp h
    rw [List.zip_cons_cons]
    exact List.pairwise_cons.mpr ⟨fun y hy => a _ (List.of_mem_zip (a := y.1) (b := y.2) hy).1, zip_lt b⟩
theorem lv_lt (h : MOk cs st rows) (hU : U = unitN rows) : ∀ k, (lv cs rows U st k).Pairwise fun x y => ltT x.1 y.1
  | 0 => List.pairwise_singleton _ _
  | k + 1 => by
    have ih := lv_lt h hU k
    have ok := lv_ok h hU k
    show ((lv cs rows U st k).flatMap (nxt1 cs rows U)).Pairwise _
    rw [List.pairwise_flatMap]
    refine ⟨fun e he => ?_, ?_⟩
    · unfold nxt1
      rw [List.pairwise_map]
      refine ((zip_lt h.inc).filter _).imp fun {x y} hxy => ?_
      show ltCps _ _ = true
      rw [app_cps, app_cps]; exact lt_one hxy
    · refine (List.Pairwise.imp_of_mem (fun {x y} hx hy hxy => ?_) ih)
      intro p hp q hq
      obtain ⟨p1, _, rfl⟩ := List.mem_map.mp hp
      obtain ⟨q1, _, rfl⟩ := List.mem_map.mp hq
      show ltCps _ _ = true
      rw [app_cps, app_cps]
      have l1 : x.1.cps.toList.length = k := (ok x hx).2.2.2.2
      have l2 : y.1.cps.toList.length = k := (ok y hy).2.2.2.2
      exact lt_app (by rw [l1, l2]) hxy
theorem lv_few (h : MOk cs st rows) : ∀ k, (lv cs rows U st k).length ≤ 3 ^ k
  | 0 => Nat.le_refl _
  | k + 1 => by
    have ih := lv_few h k
    have one : ∀ e, (nxt1 cs rows U e).length ≤ 3 := fun e => by
      unfold nxt1
      rw [List.length_map]
      refine Nat.le_trans (List.length_filter_le _ _) ?_
      rw [List.length_zip]
      have := h.c3
      omega
    have go : ∀ l : List Wd, (l.flatMap (nxt1 cs rows U)).length ≤ l.length * 3 := fun l => by
      induction l with
      | nil => exact Nat.le_refl _
      | cons e l ih => rw [List.flatMap_cons, List.length_append, List.length_cons]; have := one e; omega
    have := go (lv cs rows U st k)
    show ((lv cs rows U st k).flatMap (nxt1 cs rows U)).length ≤ 3 ^ (k + 1)
    rw [Nat.pow_succ]; omega
theorem lv_wle (h : MOk cs st rows) (hU : U = unitN rows) {k : Nat} (hk : k ≤ 3) : ∀ e ∈ lv cs rows U st k, e.2.2 ≤ 10 ^ 12 := fun e he => by
  have ok := lv_ok h hU k
  obtain ⟨u0, u1, _⟩ := h.unit
  have a := (ok e he).2.2.2.1
  have U1 : U ≤ 144 := by omega
  have U0 : 0 < U := by omega
  refine Int.le_trans a ?_
  have b : (4 * U) ^ k ≤ (576 : Int) ^ k := by
    have : ∀ k : Nat, (4 * U) ^ k ≤ (576 : Int) ^ k := fun k => by
      induction k with
      | zero => rw [Int.pow_zero, Int.pow_zero]; exact Int.le_refl _
      | succ k ih =>
        rw [Int.pow_succ, Int.pow_succ]
        have z0 : 0 ≤ (4 * U) ^ k := Int.le_of_lt (Int.pow_pos (by omega))
        exact Int.le_trans (Int.mul_le_mul_of_nonneg_left (show 4 * U ≤ 576 by omega) z0) (Int.mul_le_mul_of_nonneg_right ih (by decide))
    exact this k
  have c : (576 : Int) ^ k ≤ 10 ^ 12 := by
    rcases k with _ | _ | _ | _ | k
    · decide
    · decide
    · decide
    · decide
    · omega
  omega
/-- some of one word's next ones -/
def grow (e : Wd) (v : Int) (l : List (Nat × (Int × Int))) : List Wd := (l.filter fun x => decide (0 < x.2.1)).map fun x => (e.1 ++ sg x.1, x.2.2, e.2.2 * x.2.1 * v)
theorem grow_more (e : Wd) (v : Int) {l : List (Nat × (Int × Int))} {m : Nat} {x : Nat × (Int × Int)} (h : l[m]? = some x) : grow e v (l.take (m + 1)) = grow e v (l.take m) ++ if 0 < x.2.1 then [(e.1 ++ sg x.1, x.2.2, e.2.2 * x.2.1 * v)] else [] := by
  unfold grow
  rw [take_more h, List.filter_append, List.map_append]
  congr 1
  by_cases c : 0 < x.2.1
  · rw [if_pos c, List.filter_cons_of_pos (by rw [decide_eq_true c])]; rfl
  · rw [if_neg c, List.filter_cons_of_neg (by rw [decide_eq_false c]; decide)]; rfl
theorem grow_len (e : Wd) (v : Int) (l : List (Nat × (Int × Int))) : (grow e v l).length ≤ l.length := by
  unfold grow; rw [List.length_map]; exact List.length_filter_le _ _
theorem unit_more {rows : MRows} {i : Nat} {r : MRow} (h : rows[i]? = some r) : unitN (rows.take (i + 1)) = lcmN (unitN (rows.take i)) (rsum r).toNat := by
  unfold unitN
  rw [take_more h, List.foldl_append]; rfl
theorem unit_take (h : MOk cs st rows) (i : Nat) : 0 < unitN (rows.take i) ∧ unitN (rows.take i) ≤ 144 := by
  obtain ⟨a, b, _⟩ := unit_go (l := rows.take i) (a := 1) Nat.one_pos fun r hr => h.sum (List.mem_of_mem_take hr)
  refine ⟨a, Nat.le_trans b ?_⟩
  rw [Nat.one_mul]
  have := h.r2
  exact Nat.le_trans (Nat.pow_le_pow_right (by decide) (show (rows.take i).length ≤ 2 by rw [List.length_take]; omega)) (by decide)
theorem flat_more {l : List Wd} {f : Wd → List Wd} {j : Nat} {e : Wd} (h : l[j]? = some e) : (l.take (j + 1)).flatMap f = (l.take j).flatMap f ++ f e := by
  rw [take_more h, List.flatMap_append, List.flatMap_cons, List.flatMap_nil, List.append_nil]
theorem flat_len {l : List Wd} {j : Nat} (h : MOk cs st rows) : ((l.take j).flatMap (nxt1 cs rows U)).length ≤ 3 * j := by
  have one : ∀ e, (nxt1 cs rows U e).length ≤ 3 := fun e => by
    unfold nxt1
    rw [List.length_map]
    refine Nat.le_trans (List.length_filter_le _ _) ?_
    rw [List.length_zip]
    have := h.c3
    omega
  have go : ∀ l : List Wd, (l.flatMap (nxt1 cs rows U)).length ≤ 3 * l.length := fun l => by
    induction l with
    | nil => exact Nat.le_refl _
    | cons e l ih => rw [List.flatMap_cons, List.length_append, List.length_cons]; have := one e; omega
  have := go (l.take j)
  have : (l.take j).length ≤ j := by rw [List.length_take]; omega
  omega
theorem lv_nd (h : MOk cs st rows) (hU : U = unitN rows) (k : Nat) : ((lv cs rows U st k).map (·.1)).Nodup := by
  have : ((lv cs rows U st k).map (·.1)).Pairwise ltT := List.pairwise_map.mpr (lv_lt h hU k)
  exact StS.nodup this
theorem pre_sub {l : List Wd} {f : Wd → List Wd} {j : Nat} {e : Wd} (h : l[j]? = some e) {p : List Wd} (hp : p.Sublist (f e)) : ((l.take j).flatMap f ++ p).Sublist (l.flatMap f) := by
  have a : ((l.take j).flatMap f ++ p).Sublist ((l.take (j + 1)).flatMap f) := by
    rw [flat_more h]; exact (List.Sublist.refl _).append hp
  have b : ((l.take (j + 1)).flatMap f).Sublist (l.flatMap f) := by
    have e2 : l.flatMap f = (l.take (j + 1)).flatMap f ++ (l.drop (j + 1)).flatMap f := by rw [← List.flatMap_append, List.take_append_drop]
    rw [e2]; exact List.sublist_append_left _ _
  exact a.trans b
theorem grow_sub (e : Wd) (v : Int) (l : List (Nat × (Int × Int))) (m : Nat) : (grow e v (l.take m)).Sublist (grow e v l) := by
  unfold grow; exact ((List.take_sublist m l).filter _).map _
/-- a machine's words are a source's -/
theorem mach_ok (h : MOk cs st rows) (hU : U = unitN rows) {k : Nat} (hk : k ≤ 3) (few : (lv cs rows U st k).length ≤ 20) : WOk (wds (lv cs rows U st k)) ∧ tot (wds (lv cs rows U st k)) = U ^ k ∧ ∀ x ∈ wds (lv cs rows U st k), x.2 ≤ 10 ^ 12 := by
  have ok := lv_ok h hU k
  obtain ⟨u0, u1, _⟩ := h.unit
  have t : tot (wds (lv cs rows U st k)) = U ^ k := by
    have := lv_sum h hU k
    unfold tot wds
    rw [List.map_map]; exact this
  refine ⟨⟨?_, fun x hx => ?_, fun z => ?_, ?_⟩, t, fun x hx => ?_⟩
  · unfold wds
    show (List.map (fun x : Str × Int => x.1) (List.map (fun e : Wd => (e.1, e.2.2)) _)).Pairwise ltT
    rw [List.map_map]
    exact List.pairwise_map.mpr (lv_lt h hU k)
  · obtain ⟨e, he, rfl⟩ := List.mem_map.mp hx
    exact (ok e he).2.2.1
  · rw [z] at t
    have t : (0 : Int) = U ^ k := t
    have : 0 < U ^ k := Int.pow_pos (by omega)
    omega
  · unfold wds; rw [List.length_map]; exact few
  · obtain ⟨e, he, rfl⟩ := List.mem_map.mp hx
    exact lv_wle h hU hk e he
end
end MH
/-! part D31 -/
set_option Elab.async false
set_option linter.all false
set_option maxRecDepth 100000
set_option maxHeartbeats 4000000
namespace MH
open PySem PySem.Spec PyProof.Rows L2
abbrev RMRow : Rl MRow := RLst (RPr RInt RInt)
abbrev RMRows : Rl MRows := RLst RMRow
/-- what a machine is made of, as a list -/
def RSpc : Rl (Str × Int × MRows × Int) := fun H v x => ∃ o ra, v = .ref o ∧ H o = some (.lst [.str x.1, .int x.2.1, ra, .int x.2.2.2]) ∧ RMRows H ra x.2.2.1
instance : Mo RSpc := ⟨fun e ⟨o, ra, h1, h2, h3⟩ => ⟨o, ra, h1, e _ _ h2, Mo.up e h3⟩⟩
/-- a row's bounds -/
structure RowB (n M : Nat) (r : MRow) : Prop where
  len : r.length = n
  each : ∀ x ∈ r, 0 ≤ x.1 ∧ x.1 ≤ 4 ∧ 0 ≤ x.2 ∧ x.2 < M
theorem rsum_pos : ∀ {r : MRow} {y : Int × Int}, (∀ x ∈ r, 0 ≤ x.1) → y ∈ r → 1 ≤ y.1 → 0 < rsum r
  | [], _, _, h, _ => absurd h List.not_mem_nil
  | x :: r, y, p, h, q => by
    have nn : ∀ {r : MRow}, (∀ x ∈ r, 0 ≤ x.1) → 0 ≤ rsum r := fun {r} => by
      induction r with
      | nil => intro _; exact Int.le_refl _
      | cons a r ih =>
        intro q
        have a1 := q a List.mem_cons_self
        have b1 := ih fun x hx => q x (List.mem_cons_of_mem _ hx)
        show 0 ≤ a.1 + rsum r; omega
    show 0 < x.1 + rsum r
    have p0 := p x List.mem_cons_self
    have t0 := nn fun z hz => p z (List.mem_cons_of_mem _ hz)
    rcases List.mem_cons.mp h with e | m
    · rw [← e]; omega
    · have := rsum_pos (fun z hz => p z (List.mem_cons_of_mem _ hz)) m q; omega
theorem paired_set {α β : Type} {F : α → β → Prop} : ∀ {l : List α} {m : List β} {j : Nat} {x : α} {y : β}, Paired F l m → F x y → Paired F (l.set j x) (m.set j y)
  | _, _, _, _, _, .nil, _ => .nil
  | _, _, 0, _, _, .cons _ t, h => .cons h t
  | _, _, j + 1, _, _, .cons r t, h => .cons r (paired_set t h)
theorem abc_cut (n : Nat) (h1 : 1 ≤ n) (h3 : n ≤ 3) : (cutS "abc" none (some (n : Int))).cps.toList.Pairwise (· < ·) ∧ (cutS "abc" none (some (n : Int))).cps.toList.length = n := by
  rcases n with _ | _ | _ | _ | n
  · omega
  · decide +kernel
  · decide +kernel
  · decide +kernel
  · omega
section
variable {P : Program} {w : World} {K : Fr} {mg : Str → Option Value} {base : Heap}
def sp_law_spec : Sp := spx 1 fun vs H Q _ => ∃ (a l : Addr), vs = [.ref a] ∧ StOk a l H ∧
  ∀ (o : V) (z : Str) (st : Int) (rows : MRows) (len : Int) H', StStep a l H H' → RSpc (fr H H') o (z, st, rows, len) → MOk z.cps.toList st rows → 0 ≤ len → len ≤ 3 → Q o H'
theorem sc_law_spec : FnScope ["_law_state", "_law_letters", "_law_many", "_law_rows_here", "_law_k", "_law_row", "_law_length", "_law_place", "_law_pair"] ["_law_state"] (defScope s_law_spec) := ⟨rfl, rfl, rfl, by decide +kernel, rfl, by decide +kernel, by decide +kernel⟩
theorem c_law_spec (T : Tx K mg) (G_law_draw : Cal P w K mg base 1 "_law_draw" ["_law_state", "_law_limit"] sp_law_draw) : Cal P w K mg base 2 "_law_spec" ["_law_state"] sp_law_spec := by
  refine T.cal 57 rfl 29 rfl sc_law_spec (fun _ _ _ _ h => h.1) (fun _ _ _ _ _ _ us hl => match us, hl with | [_], _ => rfl) (fun cdv A outer s H vs Q E hr h => ?_)
  have nd := sc_law_spec.nd
  have hu := hu_of hr
  refine ⟨_, (pss_cons (ps_set (i := 1) nd rfl (Or.inl rfl) (pe_op op_add pe_int (pe_cal G_law_draw (hr.mono (by decide)) (pa_cons (pv 0) (pa_cons pe_int pa_nil)))))
      (Evl.pss_cut (ps_if (pt_cmpR op_eq (pe_cal G_law_draw (hr.mono (by decide)) (pa_cons (pv 0) (pa_cons pe_int pa_nil))) pe_int (nomark _)) (pss_one (ps_set (i := 1) nd rfl (Or.inl rfl) pe_int)) pss_nil)
      (pss_cons (ps_set (i := 2) nd rfl (Or.inr rfl) (pe_op op_add pe_int (pe_cal G_law_draw (hr.mono (by decide)) (pa_cons (pv 0) (pa_cons pe_int pa_nil)))))
      (pss_cons (ps_set (i := 3) nd rfl (Or.inl rfl) (pe_lst pa_nil))
      (pss_cons (ps_for PassesOwn.never rfl (pi_range1 rfl T.f_range (pa_cons (pv 2) pa_nil)) (pg_name (i := 4) nd rfl (Or.inl rfl)) (pss_cons (ps_setLc (i := 5) (own := [("_law_place", 7)]) (g := (gName 7)) (tt := tYes) (by rfl) nd rfl rfl (sw_true rfl rfl rfl (by decide +kernel)) (pi_range1 rfl T.f_range (pa_cons (pv 1) pa_nil)) (blkOk_by (own := [("_law_place", 7)]) (N := ["_law_state", "_law_letters", "_law_many", "_law_rows_here", "_law_k", "_law_row", "_law_length", "_law_place", "_law_pair"]) (sc := defScope s_law_spec) (by decide +kernel)) (fun _ _ _ _ _ => (pg_name (i := 7) nd rfl (Or.inl rfl))) (fun _ _ _ _ _ => pts_nil) (fun _ _ _ _ _ => (pe_tup (pa_cons (pe_cal G_law_draw (hr.mono (by decide)) (pa_cons (pv 0) (pa_cons pe_int pa_nil))) (pa_cons (pe_cal G_law_draw (hr.mono (by decide)) (pa_cons (pv 0) (pa_cons (pv 2) pa_nil))) pa_nil)))))
      (Evl.pss_cut (ps_if (pt_cmpR op_eq (pe_callB (cr_sum rfl) (by rfl) T.f_sum (by decide +kernel) (pa_cons (pe_lc (own := [("_law_pair", 8)]) (g := (gName 8)) (tt := tYes) (by rfl) nd (pi_list (pv 5)) (blkOk_by (own := [("_law_pair", 8)]) (N := ["_law_state", "_law_letters", "_law_many", "_law_rows_here", "_law_k", "_law_row", "_law_length", "_law_place", "_law_pair"]) (sc := defScope s_law_spec) (by decide +kernel)) (fun _ _ _ _ _ => (pg_name (i := 8) nd rfl (Or.inl rfl))) (fun _ _ _ _ _ => pts_nil) (fun _ _ _ _ _ => (pe_ix (ix_tupK (K := K)) (pv 8) pe_int (fun _ _ => rfl)))) pa_nil)) pe_int (nomark _)) (pss_one (ps_asg (pe_tup (pa_cons (pe_op op_add pe_int (pe_cal G_law_draw (hr.mono (by decide)) (pa_cons (pv 0) (pa_cons pe_int pa_nil)))) (pa_cons (pe_op op_sub (pv 2) pe_int) pa_nil))) (pg_sub (pv 5) (pe_cal G_law_draw (hr.mono (by decide)) (pa_cons (pv 0) (pa_cons (pv 1) pa_nil))) set_list))) pss_nil)
      (pss_one (ps_expr (pe_bm PySem.F.plainAttrs_list PySem.F.slot_list_append PySem.F.type_list_append mt_append (pv 3) (pa_cons (pv 5) pa_nil)))))))
      (pss_cons (ps_set (i := 6) nd rfl (Or.inl rfl) (pe_op op_add pe_int (pe_cal G_law_draw (hr.mono (by decide)) (pa_cons (pv 0) (pa_cons pe_int pa_nil)))))
      (Evl.pss_cut (ps_if (pt_cmpR op_eq (pe_cal G_law_draw (hr.mono (by decide)) (pa_cons (pv 0) (pa_cons pe_int pa_nil))) pe_int (nomark _)) (pss_one (ps_set (i := 6) nd rfl (Or.inl rfl) pe_int)) pss_nil)
      (pss_one (ps_ret (pe_lst (pa_cons (pe_slice sl_str pe_str po_none (po_some (pv 1))) (pa_cons (pe_cal G_law_draw (hr.mono (by decide)) (pa_cons (pv 0) (pa_cons (pv 2) pa_nil))) (pa_cons (pv 3) (pa_cons (pv 6) pa_nil)))))))))))))), ?_⟩
  obtain ⟨_, a, l, rfl, hS, k⟩ := h
  obtain ⟨⟨oa, hoa⟩, _, _⟩ := hS.get
  have fr0 : ∀ {T : Addr} {H' : Hp}, StStep a l H H' → H' T = none → H T = none := fun s' hT => freeS s'.1 (s'.2.fresh hT).1 hT
  -- letters
  refine ⟨_, rfl, rfl, a, l, _, rfl, hS, by decide, fun r H1 r0 r1 s1 => ⟨_, _, rfl, rfl, ?_⟩⟩
  refine ⟨fun σ H' => ∃ n : Nat, 1 ≤ n ∧ n ≤ 3 ∧ σ = [some (.ref a), some (.int (n : Int)), none, none, none, none, none, none, none] ∧ StStep a l H H', ?_, ?_⟩
  · refine ⟨_, rfl, rfl, a, l, _, rfl, s1.2, by decide, fun q H2 q0 q1 s2 => ⟨rfl, _, rfl, ?_⟩⟩
    refine ite2 (fun _ => ?_) (fun _ => ?_)
    · exact ⟨1, by decide, by decide, rfl, s1.trans s2⟩
    · obtain ⟨n, hn⟩ : ∃ n : Nat, (n : Int) = 2 + r := ⟨(2 + r).toNat, by omega⟩
      exact ⟨n, by omega, by omega, by rw [hn]; rfl, s1.trans s2⟩
  clear s1
  rintro σ H1 ⟨n, n1, n3, rfl, s1⟩
  -- many, rows
  refine ⟨_, rfl, rfl, a, l, _, rfl, s1.2, by decide, fun r H2 r0 r1 s2 => ⟨_, _, rfl, rfl, ?_⟩⟩
  obtain ⟨M, hM⟩ : ∃ M : Nat, (M : Int) = 1 + r := ⟨(1 + r).toNat, by omega⟩
  have M1 : 1 ≤ M := by omega
  have M2 : M ≤ 2 := by omega
  have s2' := s1.trans s2
  refine ⟨by show 0 ≤ sizeLine; decide, fun D hD => ?_⟩
  have hD0 := fr0 s2' hD
  obtain ⟨nDa, nDl⟩ := hS.fresh hD0
  refine ⟨_, rfl, _, rfl, by omega, by omega, for_range (lo := 0) (n := (1 + r).toNat) (fun i σ H' => ∃ (vs2 : List V) (rs : MRows) (u4 u5 : Option V), σ = [some (.ref a), some (.int (n : Int)), some (.int (1 + r)), some (.ref D), u4, u5, none, none, none] ∧ StStep a l H H' ∧ H' D = some (.lst vs2) ∧ Paired (RMRow (nw D H H')) vs2 rs ∧ rs.length = i ∧ ∀ x ∈ rs, RowB n M x ∧ 0 < rsum x) ⟨[], [], none, none, rfl, s2'.mut hD0 nDa nDl, upd_same, .nil, rfl, fun _ h => absurd h List.not_mem_nil⟩ ?_ ?_⟩
  · rintro i σ H3 hi ⟨vs2, rs, u4, u5, rfl, s3, hv3, hr3, rl, rok⟩
    -- a row
    refine ⟨_, rfl, _, rfl, by omega, by omega, fun E hE => ?_⟩
    have S3 := s3.2
    have hE0 := fr0 s3 hE
    obtain ⟨nEa, nEl⟩ := hS.fresh hE0
    have nED : E ≠ D := (ne_of_none hv3 hE).symm
    refine lc_new (n := ((n : Nat) : Int).toNat) walk_range (stepSt S3) (RPr RInt RInt) (fun i bs => bs.length = i ∧ ∀ x ∈ bs, 0 ≤ x.1 ∧ x.1 ≤ 4 ∧ 0 ≤ x.2 ∧ x.2 < M) hE (fun _ _ => trivial) (fun i H x H' y => (stepSt S3).same (yFn_same y)) (by rw [Int.toNat_natCast]; exact sz_lt (by omega)) ⟨rfl, fun _ h => absurd h List.not_mem_nil⟩ (fun j x bs G1 G2 Kc Rc hj hbs f1 f2 _ hy k1 _ => ?_) (fun H4 ys row f4 hv4 hr4 hrow => ?_)
    · obtain ⟨rfl, rfl⟩ := hy
      have s := f2 S3
      refine ⟨rfl, yes_t ⟨_, rfl, rfl, a, l, _, rfl, s.2, by decide, fun p1 H5 p10 p11 s5 => ⟨_, rfl, _, rfl, rfl, a, l, _, rfl, s5.2, by unfold Bd; omega, fun p2 H6 p20 p21 s6 => ⟨by show 2 ≤ sizeLine; decide, fun TT hT => ?_⟩⟩⟩⟩
      have hT0 : G2 TT = none := freeS (s5.trans s6).1 (s6.2.fresh hT).1 hT
      refine k1 (p1, p2) _ _ (fun _ => (s5.trans s6).more (same_new hT)) ⟨TT, _, _, rfl, by rw [fr_at hT0, upd_same], rfl, rfl⟩ ⟨by rw [List.length_append, hbs.1]; rfl, fun y hy => ?_⟩
      rcases List.mem_append.mp hy with h | h
      · exact hbs.2 y h
      · rw [List.mem_singleton] at h; rw [h]
        refine ⟨p10, ?_, p20, ?_⟩ <;> (dsimp only; omega)
    rw [Int.toNat_natCast] at hrow
    have s4 := f4 S3
    have s04 := s3.trans s4
    obtain ⟨⟨oa3, hoa3⟩, _, _⟩ := S3.get
    have hv4D := keepS s4.1 nDa hv3
    -- its sum
    obtain ⟨E', vs4, ec, hE4, hp4⟩ := id hr4
    cases ec
    have hE4' := same_fr _ _ hE4
    have y4 : ys = vs4 := by have := hv4.symm.trans hE4'; injection this with z; injection z
    subst y4
    have pl := paired_len hp4
    have rb : RowB n M row := ⟨hrow.1, hrow.2⟩
    refine ⟨fun σ H' => ∃ (vs5 : List V) (row' : MRow), σ = [some (.ref a), some (.int (n : Int)), some (.int (1 + r)), some (.ref D), some (.int (0 + (i : Int))), some (.ref E), none, none, none] ∧ StStep a l H3 H' ∧ H' D = some (.lst vs2) ∧ H' E = some (.lst vs5) ∧ Paired (RPr RInt RInt (hid E (fr H3 H'))) vs5 row' ∧ RowB n M row' ∧ 0 < rsum row', ?_, ?_⟩
    · refine ⟨_, rfl, E, rfl, ⟨_, SqL.of hv4⟩, fun C hC => ?_⟩
      refine lc_new (n := ys.length) walk_list (stepS H4) RInt (fun i bs => bs = (row.map (·.1)).take i) hC (fun H' e => SqL.of (e _ _ hv4)) (fun i H x H' y => yAt_same y) (by rw [pl]; exact sz_lt (by omega)) rfl (fun j x bs G1 G2 Kc Rc hj hb e1 e2 _ hy k1 _ => ?_) (fun H5 ys5 bs5 e5 hv5 hr5 hb5 => ?_)
      · obtain ⟨y, hy2, ⟨z, u1, u2, rfl, hz, rfl, r2⟩⟩ := paired_get hp4 hy.2
        refine ⟨rfl, yes_t ⟨_, rfl, z, _, 0, _, rfl, rfl, SqT.of (e2 _ _ (same_fr _ _ hz)), rfl, k1 y.1 _ _ (Same.refl _) rfl ?_⟩⟩
        rw [hb, take_more]
        rw [List.getElem?_map, hy2]; rfl
      rw [pl, List.take_of_length_le (by rw [List.length_map]; exact Nat.le_refl _)] at hb5
      subst hb5
      have hC5 := same_fr _ _ (lstI_at hr5)
      have s5 := s4.more e5
      have hE5 := e5 _ _ hv4
      have hD5 := e5 _ _ hv4D
      have hp5 : Paired (RPr RInt RInt (hid E (fr H3 H5))) ys row := paired_up hp4 fun v x ⟨z, u1, u2, q0, q1, q2⟩ => ⟨z, u1, u2, q0, by
        obtain ⟨w1, w2⟩ := fr_some q1
        have nzE : z ≠ E := fun e => by rw [e, hv4] at w2; cases w2
        rw [hid_at nzE, fr_at w1]; exact e5 _ _ w2, q2⟩
      refine ⟨C, _, rfl, SqL.of hC5, rfl, _, rfl, ?_⟩
      rw [show (row.map (·.1)).sum = rsum row from rfl]
      have nn := rsum_le (r := row) fun x hx => ⟨(rb.each x hx).1, (rb.each x hx).2.1⟩
      by_cases c : rsum row = 0
      · refine iteD (congrArg V.int c) ?_
        refine ⟨_, rfl, rfl, a, l, _, rfl, s5.2, by decide, fun p H6 p0 p1 s6 => ⟨_, _, rfl, rfl, _, rfl, _, _, rfl, rfl, by show 2 ≤ sizeLine; decide, fun TT hT => ?_⟩⟩
        have s6' := (s5.trans s6).more (same_new (o := .tup [.int (1 + p), .int (1 + r - 1)]) hT)
        refine ⟨_, rfl, _, rfl, _, rfl, rfl, a, l, _, rfl, s6'.2, by unfold Bd; omega, fun j H7 j0 j1 s7 => ?_⟩
        have s7' := s6'.trans s7
        have hE7 := keepS s7.1 nEa (same_new hT _ _ (keepS s6.1 nEa hE5))
        have hD7 := keepS s7.1 nDa (same_new hT _ _ (keepS s6.1 nDa hD5))
        obtain ⟨jj, rfl⟩ : ∃ jj : Nat, j = (jj : Int) := ⟨j.toNat, by omega⟩
        have jl : jj < ys.length := by rw [pl, rb.len]; omega
        refine ⟨E, _, _, jj, rfl, rfl, hE7, Evl.ixN_nat jl, ?_⟩
        have hT7 := keepS s7.1 (fun e => by
          obtain ⟨⟨_, q⟩, _, _⟩ := (s5.trans s6).2.get
          rw [e, q] at hT; cases hT) (show (upd H6 TT (.tup [.int (1 + p), .int (1 + r - 1)])) TT = some (.tup [.int (1 + p), .int (1 + r - 1)]) from upd_same)
        have hT3 : H3 TT = none := freeS (s5.trans s6).1 ((s5.trans s6).2.fresh hT).1 hT
        have nTE : TT ≠ E := fun e => by rw [e, keepS s6.1 nEa hE5] at hT; cases hT
        have sv : Same (hid E (fr H3 H5)) (hid E (fr H3 (upd H7 E (.lst (ys.set jj (.ref TT)))))) := fun b u e => by
          obtain ⟨n1, e⟩ := hid_some e
          obtain ⟨n2, e⟩ := fr_some e
          have nba : b ≠ a := fun z => by rw [z, hoa3] at n2; cases n2
          rw [hid_at n1, fr_at n2, upd_ne n1]
          exact keepS s7.1 nba (same_new hT _ _ (keepS s6.1 nba e))
        refine ⟨ys.set jj (.ref TT), row.set jj (1 + p, 1 + r - 1), rfl, s7'.mut hE nEa nEl, by rw [upd_ne nED.symm]; exact hD7, upd_same, paired_set (paired_up hp5 fun _ _ => Mo.up sv) ⟨TT, _, _, rfl, by rw [hid_at nTE, fr_at hT3, upd_ne nTE]; exact hT7, rfl, rfl⟩, ⟨by rw [List.length_set]; exact rb.len, fun x hx => ?_⟩, ?_⟩
        · rcases List.mem_or_eq_of_mem_set hx with h | h
          · exact rb.each x h
          · rw [h]; refine ⟨?_, ?_, ?_, ?_⟩ <;> (dsimp only; omega)
        · refine rsum_pos (y := (1 + p, 1 + r - 1)) (fun x hx => ?_) (List.mem_iff_getElem?.mpr ⟨jj, by rw [List.getElem?_set_self (by rw [← pl]; exact jl)]⟩) (by dsimp only; omega)
          rcases List.mem_or_eq_of_mem_set hx with h | h
          · exact (rb.each x h).1
          · rw [h]; dsimp only; omega
      · exact iteN (fun z => c (by injection z)) ⟨ys, row, rfl, s5, hD5, hE5, hp5, rb, by omega⟩
    · rintro σ H5 ⟨vs5, row', rfl, s5, hD5, hE5, hp5, rb', pos'⟩
      have s05 := s3.trans s5
      refine ⟨_, rfl, .inl ⟨rfl, _, SqL.of hD5⟩, _, rfl, D, _, _, rfl, rfl, hD5, by rw [paired_len hr3, rl]; exact sz_lt (by omega), ?_⟩
      refine ⟨vs2 ++ [.ref E], rs ++ [row'], _, _, rfl, s05.mut hD0 nDa nDl, upd_same, ?_, by rw [List.length_append, rl]; rfl, fun x hx => ?_⟩
      · rw [nw_mut]
        refine paired_app (paired_up hr3 fun _ _ => Mo.up (nw_upS s5.1 hoa)) (.cons ⟨E, vs5, rfl, by rw [nw_at hE0 nED]; exact hE5, paired_up hp5 fun v x ⟨z, u1, u2, q0, q1, q2⟩ => ⟨z, u1, u2, q0, ?_, q2⟩⟩ .nil)
        obtain ⟨w1, w2⟩ := hid_some q1
        obtain ⟨w3, w4⟩ := fr_some w2
        have nzD : z ≠ D := fun e => by rw [e, hv3] at w3; cases w3
        rw [nw_at (fr0 s3 w3) nzD]; exact w4
      · rcases List.mem_append.mp hx with h | h
        · exact rok x h
        · rw [List.mem_singleton] at h; rw [h]; exact ⟨rb', pos'⟩
  rintro σ H3 ⟨vs2, rs, u4, u5, rfl, s3, hv3, hr3, rl, rok⟩
  have rl : rs.length = M := by omega
  -- length
  refine ⟨_, rfl, rfl, a, l, _, rfl, s3.2, by decide, fun q H4 q0 q1 s4 => ⟨_, _, rfl, rfl, ?_⟩⟩
  refine ⟨fun σ H' => ∃ len : Int, 0 ≤ len ∧ len ≤ 3 ∧ σ = [some (.ref a), some (.int (n : Int)), some (.int (1 + r)), some (.ref D), u4, u5, some (.int len), none, none] ∧ StStep a l H3 H', ?_, ?_⟩
  · refine ⟨_, rfl, rfl, a, l, _, rfl, s4.2, by decide, fun p H5 p0 p1 s5 => ⟨rfl, _, rfl, ?_⟩⟩
    refine ite2 (fun _ => ?_) (fun _ => ?_)
    · exact ⟨0, by decide, by decide, rfl, s4.trans s5⟩
    · exact ⟨1 + q, by omega, by omega, rfl, s4.trans s5⟩
  rintro σ H5 ⟨len, len0, len3, rfl, s5⟩
  refine ⟨_, rfl, _, rfl, _, rfl, (by decide +kernel), ?_⟩
  refine ⟨_, rfl, _, rfl, rfl, a, l, _, rfl, s5.2, by unfold Bd; omega, fun st H6 st0 st1 s6 => ⟨_, rfl, _, rfl, by show 4 ≤ sizeLine; decide, fun o ho => ?_⟩⟩
  have s36 := s5.trans s6
  have s06 := (s3.trans s36).more (same_new (o := .lst [.str (cutS "abc" none (some (n : Int))), .int st, .ref D, .int len]) ho)
  have hD6 := keepS s36.1 nDa hv3
  have noD : D ≠ o := ne_of_none hD6 ho
  obtain ⟨c1, c2⟩ := abc_cut n n1 n3
  refine k (.ref o) _ st rs len _ s06 ⟨o, .ref D, rfl, by rw [fr_at (fr0 (s3.trans s36) ho), upd_same], D, vs2, rfl, by rw [fr_at hD0, upd_ne noD]; exact hD6, paired_up hr3 fun _ _ => Mo.up ?_⟩ ⟨c1, by rw [c2]; exact n1, by rw [c2]; exact n3, by omega, st0, by omega, fun x hx => ?_⟩ len0 len3
  · exact same_nw.trans ((fr_upS s36.1 hoa).trans (fr_up (same_new ho)))
  · obtain ⟨b, p⟩ := rok x hx
    exact ⟨by rw [c2]; exact b.len, p, fun y hy => by rw [rl]; exact b.each y hy⟩
end
end MH
/-! part D32 -/
set_option Elab.async false
set_option linter.all false
set_option maxRecDepth 100000
set_option maxHeartbeats 6000000
namespace MH
open PySem PySem.Spec PyProof.Rows L2
theorem wd_bd {x : Int} (h0 : 0 ≤ x) (h : x ≤ 10 ^ 12) : Bd 50 x := by unfold Bd; omega
theorem rowAt_p {H : Hp} {rvs : List V} {rows : MRows} {cs : List Nat} {st s : Int} (hrw : Paired (RMRow H) rvs rows) (m : MOk cs st rows) (h0 : 0 ≤ s) (h1 : s < rows.length) : ∃ v, atI rvs s = some v ∧ RMRow H v (rowAt rows s) := by
  obtain ⟨_, e⟩ := m.row h0 h1
  obtain ⟨v, hv, r⟩ := paired_get' hrw e
  refine ⟨v, ?_, r⟩
  have := atI_nat hv
  rw [Int.toNat_of_nonneg h0] at this; exact this
section
variable {P : Program} {w : World} {K : Fr} {mg : Str → Option Value} {base : Heap}
abbrev RWd : Rl Wd := RTr RStr RInt RInt
def sp_law_words : Sp := spx 2 fun vs H Q _ => ∃ (u : V) (z : Str) (st : Int) (rows : MRows) (len : Int) (L : Nat), vs = [u, .int L] ∧ RSpc H u (z, st, rows, len) ∧ MOk z.cps.toList st rows ∧ L ≤ 3 ∧
  ∀ v H', Same H H' → RWs (fr H H') v (wds (lv z.cps.toList rows (unitN rows) st L)) → Q v H'
theorem sc_law_words : FnScope ["_law_spec_here", "_law_length", "_law_unit", "_law_row", "_law_pair", "_law_total", "_law_found", "_law_k", "_law_longer", "_law_text_here", "_law_at", "_law_weight_here", "_law_sign", "_law_word"] ["_law_spec_here", "_law_length"] (defScope s_law_words) := ⟨rfl, rfl, rfl, by decide +kernel, rfl, by decide +kernel, by decide +kernel⟩
theorem c_law_words (T : Tx K mg) (G_law_gcd : Cal P w K mg base 1 "_law_gcd" ["_law_one", "_law_other"] sp_law_gcd) : Cal P w K mg base 2 "_law_words" ["_law_spec_here", "_law_length"] sp_law_words := by
  refine T.cal 58 rfl 30 rfl sc_law_words (fun _ _ _ _ h => h.1) (fun _ _ _ _ _ _ us hl => match us, hl with | [_, _], _ => rfl) (fun cdv A outer s H vs Q E hr h => ?_)
  have nd := sc_law_words.nd
  have hu := hu_of hr
  refine ⟨_, (pss_cons (ps_set (i := 2) nd rfl (Or.inl rfl) pe_int)
      (Evl.pss_cut (ps_for PassesOwn.never rfl (pi_list (pe_ix (ix_listK (K := K)) (pv 0) pe_int (fun _ _ => rfl))) (pg_name (i := 3) nd rfl (Or.inl rfl)) (pss_cons (ps_set (i := 5) nd rfl (Or.inl rfl) (pe_callB (cr_sum rfl) (by rfl) T.f_sum (by decide +kernel) (pa_cons (pe_lc (own := [("_law_pair", 4)]) (g := (gName 4)) (tt := tYes) (by rfl) nd (pi_list (pv 3)) (blkOk_by (own := [("_law_pair", 4)]) (N := ["_law_spec_here", "_law_length", "_law_unit", "_law_row", "_law_pair", "_law_total", "_law_found", "_law_k", "_law_longer", "_law_text_here", "_law_at", "_law_weight_here", "_law_sign", "_law_word"]) (sc := defScope s_law_words) (by decide +kernel)) (fun _ _ _ _ _ => (pg_name (i := 4) nd rfl (Or.inl rfl))) (fun _ _ _ _ _ => pts_nil) (fun _ _ _ _ _ => (pe_ix (ix_tupK (K := K)) (pv 4) pe_int (fun _ _ => rfl)))) pa_nil)))
      (pss_one (ps_set (i := 2) nd rfl (Or.inl rfl) (pe_op op_fdivW (pe_op op_mulW (pv 2) (pv 5)) (pe_cal G_law_gcd (hr.mono (by decide)) (pa_cons (pv 2) (pa_cons (pv 5) pa_nil))))))))
      (pss_cons (ps_set (i := 6) nd rfl (Or.inl rfl) (pe_lst (pa_cons (pe_tup (pa_cons pe_str (pa_cons (pe_ix (ix_listK (K := K)) (pv 0) pe_int (fun _ _ => rfl)) (pa_cons pe_int pa_nil)))) pa_nil)))
      (pss_cons (ps_for PassesOwn.never rfl (pi_range1 rfl T.f_range (pa_cons (pv 1) pa_nil)) (pg_name (i := 7) nd rfl (Or.inl rfl)) (pss_cons (ps_set (i := 8) nd rfl (Or.inl rfl) (pe_lst pa_nil))
      (pss_cons (ps_for PassesOwn.never rfl (pi_list (pv 6)) (pg_tupK (K := K) 3 rfl (pgs_cons (pg_name (i := 9) nd rfl (Or.inl rfl)) (pgs_cons (pg_name (i := 10) nd rfl (Or.inl rfl)) (pgs_cons (pg_name (i := 11) nd rfl (Or.inl rfl)) pgs_nil)))) (pss_cons (ps_set (i := 5) nd rfl (Or.inl rfl) (pe_callB (cr_sum rfl) (by rfl) T.f_sum (by decide +kernel) (pa_cons (pe_lc (own := [("_law_pair", 4)]) (g := (gName 4)) (tt := tYes) (by rfl) nd (pi_list (pe_ix (ix_listK (K := K)) (pe_ix (ix_listK (K := K)) (pv 0) pe_int (fun _ _ => rfl)) (pv 10) (fun _ _ => rfl))) (blkOk_by (own := [("_law_pair", 4)]) (N := ["_law_spec_here", "_law_length", "_law_unit", "_law_row", "_law_pair", "_law_total", "_law_found", "_law_k", "_law_longer", "_law_text_here", "_law_at", "_law_weight_here", "_law_sign", "_law_word"]) (sc := defScope s_law_words) (by decide +kernel)) (fun _ _ _ _ _ => (pg_name (i := 4) nd rfl (Or.inl rfl))) (fun _ _ _ _ _ => pts_nil) (fun _ _ _ _ _ => (pe_ix (ix_tupK (K := K)) (pv 4) pe_int (fun _ _ => rfl)))) pa_nil)))
      (pss_one (ps_for PassesOwn.never rfl (pi_zipK (by rfl) T.f_zip (pa_cons (pe_ix (ix_listK (K := K)) (pv 0) pe_int (fun _ _ => rfl)) (pa_cons (pe_ix (ix_listK (K := K)) (pe_ix (ix_listK (K := K)) (pv 0) pe_int (fun _ _ => rfl)) (pv 10) (fun _ _ => rfl)) pa_nil))) (pg_tupK (K := K) 2 rfl (pgs_cons (pg_name (i := 12) nd rfl (Or.inl rfl)) (pgs_cons (pg_name (i := 4) nd rfl (Or.inl rfl)) pgs_nil))) (pss_one (ps_if (pt_cmpR op_gt (pe_ix (ix_tupK (K := K)) (pv 4) pe_int (fun _ _ => rfl)) pe_int (nomark _)) (pss_one (ps_expr (pe_bm PySem.F.plainAttrs_list PySem.F.slot_list_append PySem.F.type_list_append mt_append (pv 8) (pa_cons (pe_tup (pa_cons (pe_op op_add_str (pv 9) (pv 12)) (pa_cons (pe_ix (ix_tupK (K := K)) (pv 4) pe_int (fun _ _ => rfl)) (pa_cons (pe_op op_mulW (pe_op op_mulW (pv 11) (pe_ix (ix_tupK (K := K)) (pv 4) pe_int (fun _ _ => rfl))) (pe_op op_fdivW (pv 2) (pv 5))) pa_nil)))) pa_nil)))) pss_nil))))))
      (pss_one (ps_set (i := 6) nd rfl (Or.inl rfl) (pv 8))))))
      (pss_one (ps_ret (pe_lc (own := [("_law_word", 13)]) (g := (gName 13)) (tt := tYes) (by rfl) nd (pi_list (pv 6)) (blkOk_by (own := [("_law_word", 13)]) (N := ["_law_spec_here", "_law_length", "_law_unit", "_law_row", "_law_pair", "_law_total", "_law_found", "_law_k", "_law_longer", "_law_text_here", "_law_at", "_law_weight_here", "_law_sign", "_law_word"]) (sc := defScope s_law_words) (by decide +kernel)) (fun _ _ _ _ _ => (pg_name (i := 13) nd rfl (Or.inl rfl))) (fun _ _ _ _ _ => pts_nil) (fun _ _ _ _ _ => (pe_tup (pa_cons (pe_ix (ix_tupK (K := K)) (pv 13) pe_int (fun _ _ => rfl)) (pa_cons (pe_ix (ix_tupK (K := K)) (pv 13) pe_int (fun _ _ => rfl)) pa_nil))))))))))), ?_⟩
  obtain ⟨_, u, z, st, rows, len, L, rfl, ⟨o, ra, rfl, ho, ⟨rp, rvs, e0, hrp, hrw⟩⟩, mok, L3, k⟩ := h
  dsimp only at e0 ho hrw
  subst e0
  have rl := paired_len hrw
  have r2 := mok.r2
  have c3 := mok.c3
  obtain ⟨u0, u1, ud⟩ := mok.unit
  -- the unit
  refine ⟨fun σ H' => ∃ u3 u5, σ = [some (.ref o), some (.int (L : Int)), some (.int (unitN rows : Int)), u3, none, u5, none, none, none, none, none, none, none, none] ∧ Same H H', ?_, ?_⟩
  · refine ⟨_, rfl, o, _, 2, _, rfl, rfl, SqL.of ho, rfl, rp, rfl, ⟨_, SqL.of hrp⟩, for_list (K := K) (xs := rvs) (fun i σ H' => ∃ u3 u5, σ = [some (.ref o), some (.int (L : Int)), some (.int (unitN (rows.take i) : Int)), u3, none, u5, none, none, none, none, none, none, none, none] ∧ Same H H') ⟨none, none, rfl, Same.refl _⟩ (fun i σ H' _ ⟨_, _, _, e⟩ => SqL.of (e _ _ hrp)) ?_ ?_⟩
    · rintro i x σ H1 hi ⟨u3, u5, rfl, e1⟩
      obtain ⟨row, hrow, ⟨rb, ys, rfl, hrb, hyp⟩⟩ := paired_get hrw hi
      have hin := List.mem_of_getElem? hrow
      have yl := paired_len hyp
      have rlen := (mok.each row hin).1
      refine ⟨_, rfl, rb, rfl, ⟨_, SqL.of (e1 _ _ hrb)⟩, fun C hC => ?_⟩
      refine lc_new (n := ys.length) walk_list (stepS H1) RInt (fun i bs => bs = (row.map (·.1)).take i) hC (fun H' e => SqL.of (e _ _ (e1 _ _ hrb))) (fun i H x H' y => yAt_same y) (by rw [yl]; exact sz_lt (by omega)) rfl (fun j x bs G1 G2 Kc Rc hj hb f1 f2 _ hy k1 _ => ?_) (fun H2 ys2 bs2 e2 hv2 hr2 hb2 => ?_)
      · obtain ⟨y, hy2, ⟨q, u1, u2, rfl, hz, rfl, r2⟩⟩ := paired_get hyp hy.2
        refine ⟨rfl, yes_t ⟨_, rfl, q, _, 0, _, rfl, rfl, SqT.of (f2 _ _ (e1 _ _ hz)), rfl, k1 y.1 _ _ (Same.refl _) rfl ?_⟩⟩
        rw [hb, take_more]
        rw [List.getElem?_map, hy2]; rfl
      rw [yl, List.take_of_length_le (by rw [List.length_map]; exact Nat.le_refl _)] at hb2
      subst hb2
      have hC2 := same_fr _ _ (lstI_at hr2)
      refine ⟨C, _, rfl, SqL.of hC2, ?_⟩
      rw [show (row.map (·.1)).sum = rsum row from rfl]
      obtain ⟨p0, p1⟩ := mok.sum hin
      obtain ⟨a0, a1⟩ := unit_take mok i
      have um := unit_more hrow
      generalize unitN (rows.take i) = A at *
      obtain ⟨B, hB⟩ : ∃ B : Nat, (B : Int) = rsum row := ⟨(rsum row).toNat, by omega⟩
      have B1 : (rsum row).toNat = B := by omega
      rw [B1, lcmN_eq] at um
      have g0 : 0 < Nat.gcd A B := Nat.gcd_pos_of_pos_left _ a0
      have gl : Nat.gcd A B ≤ A := Nat.gcd_le_left _ a0
      rw [← hB]
      refine ⟨_, rfl, _, rfl, _, _, rfl, rfl, wmul (a := 50) (b := 50) (by unfold Bd; omega) (by unfold Bd; omega) (by decide), ?_⟩
      refine ⟨_, rfl, _, rfl, rfl, A, B, rfl, by unfold Bd; omega, by unfold Bd; omega, _, _, rfl, rfl, wdiv (b := 50) (by omega) (by unfold Bd; omega) (by decide), some (.ref rb), some (.int (B : Int)), ?_, e1.trans e2⟩
      rw [um]; rfl
    · rintro σ H1 ⟨u3, u5, rfl, e1⟩
      rw [rl, List.take_length]
      exact ⟨u3, u5, rfl, e1⟩
  rintro σ H1 ⟨u3, u5, rfl, e1⟩
  obtain ⟨U, hU⟩ : ∃ U : Int, U = unitN rows := ⟨_, rfl⟩
  rw [← hU] at k ⊢
  have U0 : 0 < U := by omega
  have U1 : U ≤ 144 := by omega
  generalize hcs : z.cps.toList = cs at *
  -- what is found
  refine ⟨_, rfl, o, _, 1, _, rfl, rfl, SqL.of (e1 _ _ ho), rfl, by show 3 ≤ sizeLine; decide, fun T0 hT0 => ⟨by show 1 ≤ sizeLine; decide, fun F0 hF0 => ?_⟩⟩
  have hT00 : H T0 = none := e1.free hT0
  have nTF : T0 ≠ F0 := fun e => by rw [← e, upd_same] at hF0; cases hF0
  have hF00 : H F0 = none := (e1.trans (same_new hT0)).free hF0
  refine ⟨_, rfl, _, rfl, by omega, by omega, for_range (lo := 0) (n := ((L : Nat) : Int).toNat) (fun i σ H' => ∃ (F : Addr) (vs2 : List V) (u3 u4 u5 u7 u8 u9 u10 u11 u12 : Option V), σ = [some (.ref o), some (.int (L : Int)), some (.int U), u3, u4, u5, some (.ref F), u7, u8, u9, u10, u11, u12, none] ∧ Same H H' ∧ H' F = some (.lst vs2) ∧ Paired (RWd (fr H H')) vs2 (lv cs rows U st i))
    ⟨F0, _, u3, none, u5, none, none, none, none, none, none, rfl, (e1.trans (same_new hT0)).trans (same_new hF0), upd_same, .cons ⟨T0, _, _, _, rfl, by rw [fr_at hT00, upd_ne nTF, upd_same], rfl, rfl, rfl⟩ .nil⟩ ?_ ?_⟩
  · rintro i σ H2 hi ⟨F, vs2, u3, u4, u5, u7, u8, u9, u10, u11, u12, rfl, e2, hF, hfp⟩
    rw [Int.toNat_natCast] at hi
    have i3 : i ≤ 3 := by omega
    have lok := lv_ok mok hU i
    have lw := lv_wle mok hU i3
    have lfew := lv_few (U := U) mok i
    have l27 : (lv cs rows U st i).length ≤ 27 := Nat.le_trans lfew (Nat.pow_le_pow_right (by decide) i3)
    have fl := paired_len hfp
    refine ⟨by show 0 ≤ sizeLine; decide, fun D hD => ?_⟩
    have hD0 : H D = none := e2.free hD
    have nFD : F ≠ D := ne_of_none hF hD
    refine ⟨_, rfl, F, rfl, ⟨_, SqL.of (by rw [upd_ne nFD]; exact hF)⟩, for_list (K := K) (xs := vs2) (fun j σ H' => ∃ (vs3 : List V) (u4 u5 u9 u10 u11 u12 : Option V), σ = [some (.ref o), some (.int (L : Int)), some (.int U), u3, u4, u5, some (.ref F), some (.int (0 + (i : Int))), some (.ref D), u9, u10, u11, u12, none] ∧ Same H2 H' ∧ H' D = some (.lst vs3) ∧ Paired (RWd (nw D H H')) vs3 (((lv cs rows U st i).take j).flatMap (nxt1 cs rows U)))
      ⟨[], u4, u5, u9, u10, u11, u12, rfl, same_new hD, upd_same, .nil⟩ (fun j σ H' _ ⟨_, _, _, _, _, _, _, _, e, _⟩ => SqL.of (e _ _ hF)) ?_ ?_⟩
    · rintro j x σ H3 hj ⟨vs3, u4, u5, u9, u10, u11, u12, rfl, e3, hD3, hp3⟩
      obtain ⟨⟨t, s, wt⟩, hw, ⟨q, y1, y2, y3, rfl, hq, rfl, rfl, rfl⟩⟩ := paired_get hfp hj
      have hin := List.mem_of_getElem? hw
      obtain ⟨s0, s1, w1, _, tl⟩ := lok _ hin
      have w12 := lw _ hin
      dsimp only at s0 s1 w1 tl w12
      have e03 := e2.trans e3
      have jl : j < 27 := by have := (List.getElem?_eq_some_iff.mp hw).1; omega
      obtain ⟨hrin, _⟩ := mok.row s0 s1
      obtain ⟨rv, hrv, ⟨rb, ys, er, hrb, hyp⟩⟩ := rowAt_p hrw mok s0 s1
      subst er
      have yl := paired_len hyp
      obtain ⟨rlen, rpos, reach⟩ := mok.each _ hrin
      obtain ⟨p0, p1⟩ := mok.sum hrin
      have fm := flat_more (f := nxt1 cs rows U) hw
      have fe : nxt1 cs rows U (t, s, wt) = grow (t, s, wt) (U / rsum (rowAt rows s)) (cs.zip (rowAt rows s)) := rfl
      have fln := flat_len (U := U) (l := lv cs rows U st i) (j := j) mok
      generalize hrow : rowAt rows s = row at *
      refine ⟨q, _, rfl, SqT.of (e3 _ _ (same_fr _ _ hq)), rfl, _, _, rfl, _, _, rfl, _, _, rfl, rfl, ?_⟩
      -- the row's sum
      refine ⟨_, rfl, o, _, 2, _, rfl, rfl, SqL.of (e03 _ _ ho), rfl, _, rfl, rp, _, s, _, rfl, rfl, SqL.of (e03 _ _ hrp), hrv, rb, rfl, ⟨_, SqL.of (e03 _ _ hrb)⟩, fun C hC => ?_⟩
      refine lc_new (n := ys.length) walk_list (stepS H3) RInt (fun i bs => bs = (row.map (·.1)).take i) hC (fun H' e => SqL.of (e _ _ (e03 _ _ hrb))) (fun i H x H' y => yAt_same y) (by rw [yl]; exact sz_lt (by omega)) rfl (fun j x bs G1 G2 Kc Rc hj hb f1 f2 _ hy k1 _ => ?_) (fun H4 ys2 bs2 e4 hv4 hr4 hb4 => ?_)
      · obtain ⟨y, hy2, ⟨q, u1, u2, rfl, hz, rfl, r2⟩⟩ := paired_get hyp hy.2
        refine ⟨rfl, yes_t ⟨_, rfl, q, _, 0, _, rfl, rfl, SqT.of (f2 _ _ (e03 _ _ hz)), rfl, k1 y.1 _ _ (Same.refl _) rfl ?_⟩⟩
        rw [hb, take_more]
        rw [List.getElem?_map, hy2]; rfl
      rw [yl, List.take_of_length_le (by rw [List.length_map]; exact Nat.le_refl _)] at hb4
      subst hb4
      have hC4 := same_fr _ _ (lstI_at hr4)
      refine ⟨C, _, rfl, SqL.of hC4, ?_⟩
      rw [show (row.map (·.1)).sum = rsum row from rfl]
      have v0 : 0 ≤ U / rsum row := Int.ediv_nonneg (by omega) (by omega)
      have v1 : U / rsum row ≤ U := Int.ediv_le_self _ (by omega)
      have e04 := e03.trans e4
      have e34 := e3.trans e4
      have hD4 := e4 _ _ hD3
      have hp4 := paired_up hp3 fun _ _ => Mo.up (R := RWd) (nw_up (D := D) (H0 := H) e4)
      have zl : (cs.zip row).length = cs.length := by rw [List.length_zip, rlen, Nat.min_self]
      clear hp3 hr4 hv4
      -- its letters
      refine ⟨_, rfl, o, _, 0, _, rfl, rfl, SqL.of (e04 _ _ ho), rfl, _, rfl, o, _, 2, _, rfl, rfl, SqL.of (e04 _ _ ho), rfl, _, rfl, rp, _, s, _, rfl, rfl, SqL.of (e04 _ _ hrp), hrv, .s z, .l rb, signsV z, ys, rfl, rfl, SqL.of (e04 _ _ hrb), ?_⟩
      have sl : (signsV z).length = ys.length := by unfold signsV; rw [List.length_map, hcs, yl, rlen]
      have sz0 : ∀ m : Nat, ((((lv cs rows U st i).take j).flatMap (nxt1 cs rows U) ++ grow (t, s, wt) (U / rsum row) ((cs.zip row).take m)).length) < 90 := fun m => by
        have g1 := grow_len (t, s, wt) (U / rsum row) ((cs.zip row).take m)
        have g2 : ((cs.zip row).take m).length ≤ 3 := by rw [List.length_take]; omega
        rw [List.length_append]; omega
      refine for_zipK (xs := signsV z) (ys := ys) sl (fun m σ H' => ∃ (vs5 : List V) (u4 u12 : Option V), σ = [some (.ref o), some (.int (L : Int)), some (.int U), u3, u4, some (.int (rsum row)), some (.ref F), some (.int (0 + (i : Int))), some (.ref D), some (.str t), some (.int s), some (.int wt), u12, none] ∧ Same H2 H' ∧ H' D = some (.lst vs5) ∧ Paired (RWd (nw D H H')) vs5 (((lv cs rows U st i).take j).flatMap (nxt1 cs rows U) ++ grow (t, s, wt) (U / rsum row) ((cs.zip row).take m)))
        ⟨vs3, u4, u12, rfl, e34, hD4, by rw [show grow (t, s, wt) (U / rsum row) ((cs.zip row).take 0) = [] from rfl, List.append_nil]; exact hp4⟩ (fun m σ H' ⟨_, _, _, _, e, _⟩ => ⟨rfl, SqL.of (e _ _ (e2 _ _ hrb))⟩) ?_ ?_
      · rintro m x y TT σ H5 hx hy ⟨vs5, u4, u12, rfl, e5, hD5, hp5⟩ hTT
        obtain ⟨c, hc, rfl⟩ := map_some hx
        rw [hcs] at hc
        obtain ⟨⟨pt, tg⟩, hpt, ⟨q2, z1, z2, rfl, hq2, rfl, rfl⟩⟩ := paired_get hyp hy
        have zat : (cs.zip row)[m]? = some (c, (pt, tg)) := (List.getElem?_zip_eq_some (z := (c, (pt, tg)))).mpr ⟨hc, hpt⟩
        obtain ⟨pt0, pt4, _, _⟩ := reach _ (List.mem_of_getElem? hpt)
        dsimp only at pt0 pt4
        have gm := grow_more (t, s, wt) (U / rsum row) zat
        have sz1 := sz0 m
        rw [← paired_len hp5] at sz1
        refine ⟨TT, _, rfl, SqT.of upd_same, rfl, _, _, rfl, _, _, rfl, rfl, ?_⟩
        have e56 : Same H5 (upd H5 TT (.tup [V.str ⟨#[c]⟩, .ref q2])) := same_new hTT
        generalize upd H5 TT (.tup [V.str ⟨#[c]⟩, .ref q2]) = H6 at e56 ⊢
        have e6 := e5.trans e56
        have hD6 := e56 _ _ hD5
        have hq6 := e6 _ _ (e2 _ _ hq2)
        have hp6 := paired_up hp5 fun _ _ => Mo.up (R := RWd) (nw_up (D := D) (H0 := H) e56)
        refine ⟨_, rfl, q2, _, 0, _, rfl, rfl, SqT.of hq6, rfl, _, _, rfl, rfl, _, rfl, ?_⟩
        by_cases c0 : 0 < pt
        · refine iteD c0 ?_
          dsimp only at gm
          rw [if_pos c0] at gm
          have tsz : t.length + (sg c).length ≤ sizeLine := by
            have e1 : (sg c).length = 1 := rfl
            rw [e1, sizeLine_eq]; omega
          have n1 : 0 ≤ wt * pt := Int.mul_nonneg (by omega) (by omega)
          have n2 : Bd 55 (wt * pt) := bd_mul (a := 50) (b := 5) (wd_bd (by omega) w12) (by unfold Bd; omega)
          refine ⟨_, rfl, .inl ⟨rfl, _, SqL.of hD6⟩, _, rfl, _, rfl, _, _, rfl, rfl, tsz, _, rfl, q2, _, 1, _, rfl, rfl, SqT.of hq6, rfl, _, rfl, _, rfl, q2, _, 0, _, rfl, rfl, SqT.of hq6, rfl, _, _, rfl, rfl, wmul (a := 50) (b := 5) (wd_bd (by omega) w12) (by unfold Bd; omega) (by decide), _, rfl, _, rfl, _, _, rfl, rfl, wdiv (b := 50) p0 (by unfold Bd; omega) (by decide), _, _, rfl, rfl, wmul (a := 55) (b := 50) n2 (by unfold Bd; omega) (by decide), by show 3 ≤ sizeLine; decide, fun T2 hT2 => ?_⟩
          have hD7 : (upd H6 T2 (.tup [V.str (t ++ ⟨#[c]⟩), .int tg, .int (wt * pt * (U / rsum row))])) D = some (.lst vs5) := same_new hT2 _ _ hD6
          have nTD : T2 ≠ D := (ne_of_none hD6 hT2).symm
          have hT20 : H T2 = none := (e2.trans e6).free hT2
          refine ⟨D, _, _, rfl, rfl, hD7, sz_lt (by omega), vs5 ++ [.ref T2], _, _, rfl, same_mut (e6.trans (same_new hT2)) hD, upd_same, ?_⟩
          rw [nw_mut, gm, ← List.append_assoc]
          exact paired_app (paired_up hp6 fun _ _ => Mo.up (R := RWd) (nw_up (same_new hT2))) (.cons ⟨T2, .str (t ++ sg c), .int tg, .int (wt * pt * (U / rsum row)), rfl, by rw [nw_at hT20 nTD, upd_same]; rfl, rfl, rfl, rfl⟩ .nil)
        · dsimp only at gm
          rw [if_neg c0, List.append_nil] at gm
          exact iteN c0 ⟨vs5, _, _, rfl, e6, hD6, by rw [gm]; exact hp6⟩
      · rintro σ H5 ⟨vs5, u4, u12, rfl, e5, hD5, hp5⟩
        refine ⟨vs5, u4, _, _, _, _, _, rfl, e5, hD5, ?_⟩
        rw [fm, fe]
        rw [show ((cs.zip row).take (signsV z).length) = cs.zip row from List.take_of_length_le (by rw [zl, sl, yl, rlen]; exact Nat.le_refl _)] at hp5
        exact hp5
    · rintro σ H3 ⟨vs3, u4, u5, u9, u10, u11, u12, rfl, e3, hD3, hp3⟩
      rw [fl, List.take_length] at hp3
      exact ⟨_, rfl, D, vs3, u3, u4, u5, _, _, u9, u10, u11, u12, rfl, e2.trans e3, hD3, paired_up hp3 fun _ _ => Mo.up same_nw⟩
  · rintro σ H2 ⟨F, vs2, u3, u4, u5, u7, u8, u9, u10, u11, u12, rfl, e2, hF, hfp⟩
    rw [Int.toNat_natCast] at hfp
    have lfew := lv_few (U := U) mok L
    have l27 : (lv cs rows U st L).length ≤ 27 := Nat.le_trans lfew (Nat.pow_le_pow_right (by decide) L3)
    have fl := paired_len hfp
    refine ⟨_, rfl, F, rfl, ⟨_, SqL.of hF⟩, fun C hC => ?_⟩
    refine lc_new (n := vs2.length) walk_list (stepS H2) (RPr RStr RInt) (fun i bs => bs = (wds (lv cs rows U st L)).take i) hC (fun H' e => SqL.of (e _ _ hF)) (fun i H x H' y => yAt_same y) (by rw [fl]; exact sz_lt (by omega)) rfl (fun i x bs G1 G2 Kc Rc hi hb f1 f2 _ hy k1 _ => ?_) (fun H3 ys3 bs3 e3 hv3 hr3 hb3 => ?_)
    · obtain ⟨⟨t, s, wt⟩, hw, ⟨q, y1, y2, y3, rfl, hq, rfl, rfl, rfl⟩⟩ := paired_get hfp hy.2
      have hqG := f2 _ _ (same_fr _ _ hq)
      refine ⟨rfl, yes_t ⟨_, rfl, q, _, 0, _, rfl, rfl, SqT.of hqG, rfl, _, rfl, q, _, 2, _, rfl, rfl, SqT.of hqG, rfl, by show 2 ≤ sizeLine; decide, fun T2 hT2 => k1 (t, wt) _ _ (same_new hT2) ⟨T2, _, _, rfl, by rw [fr_at hT2, upd_same], rfl, rfl⟩ ?_⟩⟩
      rw [hb, take_more]
      unfold wds
      rw [List.getElem?_map, hw]; rfl
    · rw [fl, List.take_of_length_le (by unfold wds; rw [List.length_map]; exact Nat.le_refl _)] at hb3
      subst hb3
      exact k (.ref C) H3 (e2.trans e3) (Mo.up (fr_old e2) hr3)
end
end MH
/-! part D33 -/
set_option Elab.async false
set_option linter.all false
set_option maxRecDepth 100000
set_option maxHeartbeats 6000000
namespace MH
open PySem PySem.Spec PyProof.Rows L2
section
variable {J : It} {n : Nat} {G : Hp → Prop} {Y : Nat → Hp → V → Hp → Prop}
/-- a dict comprehension over a walk -/
theorem dc_it (w : Walk J n G Y) {g : TG} {tt : TT} {tk tv : TE} {vs : List Nat} {σ : L2.St} {H1 : Hp} {D : Addr} {Qd : Hp → Prop} (Pv : Nat → Hp → Prop) (h0 : Pv 0 (upd H1 D (.dK []))) (hG : ∀ i H, i ≤ n → Pv i H → G H)
    (hs : ∀ i x H H', i < n → Pv i H → Y i H x H' → g x (wipe σ vs) H' fun σ2 H2 => wipe σ2 vs = wipe σ vs ∧ tt σ2 H2 fun b H3 =>
      if b = true then tk σ2 H3 fun y H4 => tv σ2 H4 fun z H5 => ∃ kvs k, y = kV k ∧ H5 D = some (.dK kvs) ∧ kvs.length < sizeLine ∧ Pv (i + 1) (upd H5 D (.dK (putK kvs k z))) else Pv (i + 1) H3) (hd : ∀ H, Pv n H → Qd H) :
    ∃ W : Nat → Nat → Hp → Prop, (∃ m, W 0 m (upd H1 D (.dK []))) ∧ ∀ i m H, W i m H →
      (J.stop i H ∧ Qd H) ∨ (J.go i H ∧ ∃ Nx : Hp → Prop, (∀ H', Nx H' → ∃ m', m' < m ∧ W (i + 1) m' H') ∧ ∀ x H', J.yld i H x H' → g x (wipe σ vs) H' fun σ2 H2 => wipe σ2 vs = wipe σ vs ∧ tt σ2 H2 fun b H3 =>
        if b = true then tk σ2 H3 fun y H4 => tv σ2 H4 fun z H5 => ∃ kvs k, y = kV k ∧ H5 D = some (.dK kvs) ∧ kvs.length < sizeLine ∧ Nx (upd H5 D (.dK (putK kvs k z))) else Nx H3) := by
  refine ⟨fun i m H => m = n - i ∧ i ≤ n ∧ Pv i H, ⟨n, by simp, Nat.zero_le _, h0⟩, ?_⟩
  rintro i m H ⟨rfl, hi, p⟩
  have q := hG i H hi p
  by_cases hlt : i < n
  · exact .inr ⟨w.goes i H hlt q, Pv (i + 1), fun H' p' => ⟨n - (i + 1), by omega, rfl, hlt, p'⟩, fun x H' y => hs i x H H' hlt p (w.yields i H x H' hlt q y)⟩
  · have e : i = n := by omega
    subst e
    exact .inl ⟨w.stops H q, hd H p⟩
end
/-- a machine's fields -/
structure MchF (fs : List (Str × V)) (z : Str) (st : Int) (R : V) (ms : MRows) (L : Nat) : Prop where
  alph : fs.lookup ("alphabet" : Str) = some (.str z)
  start : fs.lookup ("start" : Str) = some (.int st)
  rows : fs.lookup ("rows" : Str) = some R
  len : fs.lookup ("length" : Str) = some (.int (L : Int))
  unit : fs.lookup ("unit" : Str) = some (.int (unitN ms : Int))
abbrev RTRows : Rl MRows := RTup (RTup (RPr RInt RInt))
def MchAt (K : Fr) (H : Hp) (x : Addr) (z : Str) (st : Int) (rows : MRows) (L : Nat) : Prop := ∃ dx fs R, H x = some (.ins (He.ga K "Machine") dx fs) ∧ MchF fs z st R rows L ∧ RTRows H R rows
def KWd (H : Hp) : Str × V → Wd → Prop := fun y e => y.1 = e.1 ∧ RPr RInt RInt H y.2 (e.2.2, e.2.1)
theorem KWd.upT {H H' : Hp} (e : ∀ q ys, H q = some (.tup ys) → H' q = some (.tup ys)) {y : Str × V} {x : Wd} (h : KWd H y x) : KWd H' y x := by
  obtain ⟨a, q, u1, u2, e0, hq, r1, r2⟩ := h
  exact ⟨a, q, u1, u2, e0, e _ _ hq, r1, r2⟩
theorem KWd.up {H H' : Hp} (e : Same H H') {y : Str × V} {x : Wd} (h : KWd H y x) : KWd H' y x := KWd.upT (fun q ys h => e _ _ h) h
theorem kwd_keys {H : Hp} {us : List (Str × V)} {es : List Wd} (h : Paired (KWd H) us es) : us.map (·.1) = es.map (·.1) := by
  induction h with
  | nil => rfl
  | cons r _ ih => rw [List.map_cons, List.map_cons, ih, r.1]
theorem dct_at {α : Type} {f : α → V} {us : List (Str × α)} {j : Nat} {y : Str × α} (h : us[j]? = some y) : (dct f us)[j]? = some (kT y.1, f y.2) := by
  unfold dct; rw [List.getElem?_map, h]; rfl
theorem rowAt_t {H : Hp} {rvs : List V} {rows : MRows} {cs : List Nat} {st s : Int} (hrw : Paired (RTup (RPr RInt RInt) H) rvs rows) (m : MOk cs st rows) (h0 : 0 ≤ s) (h1 : s < rows.length) : ∃ v, atI rvs s = some v ∧ RTup (RPr RInt RInt) H v (rowAt rows s) := by
  obtain ⟨_, e⟩ := m.row h0 h1
  obtain ⟨v, hv, r⟩ := paired_get' hrw e
  refine ⟨v, ?_, r⟩
  have := atI_nat hv
  rw [Int.toNat_of_nonneg h0] at this; exact this
section
variable {P : Program} {w : World} {K : Fr} {mg : Str → Option Value} {base : Heap}
def sp_Machine_all_weights (K : Fr) : Sp := spx 1 fun vs H Q _ => ∃ (x : Addr) (z : Str) (st : Int) (rows : MRows) (L : Nat), vs = [.ref x] ∧ MchAt K H x z st rows L ∧ MOk z.cps.toList st rows ∧ L ≤ 3 ∧
  ∀ (d : Addr) H', Same H H' → H d = none → H' d = some (.dK (dct V.int (wds (lv z.cps.toList rows (unitN rows) st L)))) → Q (.ref d) H'
theorem sc_Machine_all_weights : FnScope ["self", "begun", "_", "longer", "text", "weight", "state", "row", "part", "times", "letter", "target"] ["self"] (defScope s_Machine_all_weights) := ⟨rfl, rfl, rfl, by decide +kernel, rfl, by decide +kernel, by decide +kernel⟩
theorem c_Machine_all_weights (T : Tx K mg)  : Met P w K mg base 1 (He.ga K "Machine") "all_weights" ["self"] (sp_Machine_all_weights K) := by
  refine T.met 32 rfl 81 rfl 110 rfl sc_Machine_all_weights (fun _ _ _ _ h => h.1) (fun _ _ _ _ _ _ us hl => match us, hl with | [_], _ => rfl) (fun cdv A outer s H vs Q E hr h => ?_)
  have nd := sc_Machine_all_weights.nd
  have hu := hu_of hr
  refine ⟨_, (pss_cons (ps_set (i := 1) nd rfl (Or.inl rfl) (pe_disp (pps_cons pe_str (pe_tup (pa_cons pe_int (pa_cons (pe_fldK (K := K) (pv 0) rfl) pa_nil))) pps_nil) (by rfl) (by rfl) (fun z => by cases z) (by decide)))
      (pss_cons (ps_for PassesOwn.never rfl (pi_range1 rfl T.f_range (pa_cons (pe_fldK (K := K) (pv 0) rfl) pa_nil)) (pg_name (i := 2) nd rfl (Or.inl rfl)) (pss_cons (ps_set (i := 3) nd rfl (Or.inl rfl) pe_dnewK)
      (pss_cons (ps_lock (ps_for PassesOwn.never rfl (pi_items (pv 1)) (pg_tupK (K := K) 2 rfl (pgs_cons (pg_name (i := 4) nd rfl (Or.inl rfl)) (pgs_cons (pg_tupK (K := K) 2 rfl (pgs_cons (pg_name (i := 5) nd rfl (Or.inl rfl)) (pgs_cons (pg_name (i := 6) nd rfl (Or.inl rfl)) pgs_nil))) pgs_nil))) (pss_cons (ps_set (i := 7) nd rfl (Or.inl rfl) (pe_ix (ix_tupK (K := K)) (pe_fldK (K := K) (pv 0) rfl) (pv 6) (fun _ _ => rfl)))
      (pss_cons (ps_set (i := 9) nd rfl (Or.inl rfl) (pe_op op_fdivW (pe_fldK (K := K) (pv 0) rfl) (pe_callB (cr_sum rfl) (by rfl) T.f_sum (by decide +kernel) (pa_cons (pe_lc (own := [("part", 8), ("_", 2)]) (g := (gTup K 2 (gCons (gName 8) (gCons (gName 2) gNil)))) (tt := tYes) (by rfl) nd (pi_tup (pv 7)) (blkOk_by (own := [("part", 8), ("_", 2)]) (N := ["self", "begun", "_", "longer", "text", "weight", "state", "row", "part", "times", "letter", "target"]) (sc := defScope s_Machine_all_weights) (by decide +kernel)) (fun _ _ _ _ _ => (pg_tupK (K := K) 2 rfl (pgs_cons (pg_name (i := 8) nd rfl (Or.inl rfl)) (pgs_cons (pg_name (i := 2) nd rfl (Or.inl rfl)) pgs_nil)))) (fun _ _ _ _ _ => pts_nil) (fun _ _ _ _ _ => (pv 8))) pa_nil))))
      (pss_one (ps_for PassesOwn.never rfl (pi_zipK (by rfl) T.f_zip (pa_cons (pe_fldK (K := K) (pv 0) rfl) (pa_cons (pv 7) pa_nil))) (pg_tupK (K := K) 2 rfl (pgs_cons (pg_name (i := 10) nd rfl (Or.inl rfl)) (pgs_cons (pg_tupK (K := K) 2 rfl (pgs_cons (pg_name (i := 8) nd rfl (Or.inl rfl)) (pgs_cons (pg_name (i := 11) nd rfl (Or.inl rfl)) pgs_nil))) pgs_nil))) (pss_one (ps_if (pt_cmpR op_gt (pv 8) pe_int (nomark _)) (pss_one (ps_dput hu (pv 3) (pe_op op_add_str (pv 4) (pv 10)) (pe_tup (pa_cons (pe_op op_mulW (pe_op op_mulW (pv 5) (pv 8)) (pv 9)) (pa_cons (pv 11) pa_nil))) rfl)) pss_nil))))))))
      (pss_one (ps_set (i := 1) nd rfl (Or.inl rfl) (pv 3))))))
      (pss_one (ps_ret (pe_lock (pe_dc (own := [("text", 4), ("weight", 5), ("_", 2)]) (g := (gTup K 2 (gCons (gName 4) (gCons (gTup K 2 (gCons (gName 5) (gCons (gName 2) gNil))) gNil)))) (tt := tYes) (by rfl) nd (pi_items (pv 1)) (blkOk_by (own := [("text", 4), ("weight", 5), ("_", 2)]) (N := ["self", "begun", "_", "longer", "text", "weight", "state", "row", "part", "times", "letter", "target"]) (sc := defScope s_Machine_all_weights) (by decide +kernel)) (fun _ _ _ _ _ => (pg_tupK (K := K) 2 rfl (pgs_cons (pg_name (i := 4) nd rfl (Or.inl rfl)) (pgs_cons (pg_tupK (K := K) 2 rfl (pgs_cons (pg_name (i := 5) nd rfl (Or.inl rfl)) (pgs_cons (pg_name (i := 2) nd rfl (Or.inl rfl)) pgs_nil))) pgs_nil)))) (fun _ _ _ _ _ => pts_nil) (fun _ _ _ _ _ => (pv 4)) (fun _ _ _ _ _ => (pv 5)))))))), ?_⟩
  obtain ⟨_, x, z, st, rows, L, rfl, ⟨dx, fs, R, hx, mf, ⟨rp, rvs, rfl, hrp, hrw⟩⟩, mok, L3, k⟩ := h
  have rl := paired_len hrw
  have c3 := mok.c3
  obtain ⟨u0, u1, ud⟩ := mok.unit
  have mfu := mf.unit
  obtain ⟨U, hU⟩ : ∃ U : Int, U = unitN rows := ⟨_, rfl⟩
  rw [← hU] at k mfu
  have U0 : 0 < U := by omega
  have U1 : U ≤ 144 := by omega
  generalize hcs : z.cps.toList = cs at *
  -- the empty beginning
  refine fun F0 hF0 => ?_
  have nxF : x ≠ F0 := ne_of_none hx hF0
  refine ⟨_, rfl, x, _, dx, fs, _, rfl, by rw [upd_ne nxF]; exact hx, T.cl_Machine, T.n_Machine_start, mf.start, by show 2 ≤ sizeLine; decide, fun T0 hT0 => ?_⟩
  have nTF : T0 ≠ F0 := fun e => by rw [e, upd_same] at hT0; cases hT0
  have hT00 : H T0 = none := by rw [upd_ne nTF] at hT0; exact hT0
  refine ⟨by rw [upd_ne nTF.symm, upd_same], [(kT "", .ref T0)], rfl, (by show 1 ≤ 15; decide), ?_⟩
  -- letter by letter
  refine ⟨_, rfl, x, _, dx, fs, _, rfl, by rw [upd_ne nxF, upd_ne (ne_of_none hx hT00), upd_ne nxF]; exact hx, T.cl_Machine, T.n_Machine_length, mf.len, _, rfl, by omega, by omega, for_range (lo := 0) (n := ((L : Nat) : Int).toNat) (fun i σ H' => ∃ (F : Addr) (us : List (Str × V)) (u2 u3 u4 u5 u6 u7 u8 u9 u10 u11 : Option V), σ = [some (.ref x), some (.ref F), u2, u3, u4, u5, u6, u7, u8, u9, u10, u11] ∧ Same H H' ∧ H F = none ∧ H' F = some (.dK (dct id us)) ∧ Paired (KWd (fr H H')) us (lv cs rows U st i))
    ⟨F0, [("", .ref T0)], none, none, none, none, none, none, none, none, none, none, rfl, ?_, hF0, upd_same, .cons ⟨rfl, T0, _, _, rfl, by rw [fr_at hT00, upd_ne nTF, upd_same], rfl, rfl⟩ .nil⟩ ?_ ?_⟩
  · exact same_mut (same_mut (same_new hF0) hT00) hF0
  · rintro i σ H2 hi ⟨F, us, u2, u3, u4, u5, u6, u7, u8, u9, u10, u11, rfl, e2, hF00, hF, hfp⟩
    rw [Int.toNat_natCast] at hi
    have i3 : i ≤ 3 := by omega
    have lok := lv_ok mok hU i
    have lw := lv_wle mok hU i3
    have lfew := lv_few (U := U) mok i
    have l27 : (lv cs rows U st i).length ≤ 27 := Nat.le_trans lfew (Nat.pow_le_pow_right (by decide) i3)
    have fl := paired_len hfp
    have ndl := lv_nd mok hU (i + 1)
    refine fun D hD => ?_
    have hD0 : H D = none := e2.free hD
    have nFD : F ≠ D := ne_of_none hF hD
    refine ⟨F, .dK (dct id us), by rw [upd_ne nFD]; exact hF, trivial, fun od => ?_⟩
    -- what stands still: all but D, F locked
    obtain ⟨HB, hHB⟩ : ∃ HB : Hp, HB = upd H2 F (.frz od (.dK (dct id us))) := ⟨_, rfl⟩
    have hBD : HB D = none := by rw [hHB, upd_ne nFD.symm]; exact hD
    have hBF : HB F = some (.frz od (.dK (dct id us))) := by rw [hHB, upd_same]
    have eB : Same H HB := fun b o e => by
      have : b ≠ F := ne_of_none e hF00
      rw [hHB, upd_ne this]; exact e2 _ _ e
    have eB1 : Same HB (upd (upd H2 D (.dK [])) F (.frz od (.dK (dct id us)))) := fun b o e => by
      by_cases c : b = F
      · rw [c, upd_same]; rw [c, hBF] at e; exact e
      · rw [hHB, upd_ne c] at e
        rw [upd_ne c]; exact same_new hD _ _ e
    have tB : ∀ q ys, fr H H2 q = some (.tup ys) → fr H HB q = some (.tup ys) := fun q ys h => by
      obtain ⟨a, b⟩ := fr_some h
      have : q ≠ F := fun e => by rw [e, hF] at b; cases b
      rw [fr_at a, hHB, upd_ne this]; exact b
    have hfB := paired_up hfp fun _ _ => KWd.upT tB
    refine ⟨_, rfl, F, od, _, rfl, upd_same, for_it walk_items (fun j σ H' => ∃ (us3 : List (Str × V)) (u2 u4 u5 u6 u7 u8 u9 u10 u11 : Option V), σ = [some (.ref x), some (.ref F), u2, some (.ref D), u4, u5, u6, u7, u8, u9, u10, u11] ∧ Same HB H' ∧ H' D = some (.dK (dct id us3)) ∧ Paired (KWd (nw D H H')) us3 (((lv cs rows U st i).take j).flatMap (nxt1 cs rows U)))
      ⟨[], some (.int (0 + (i : Int))), u4, u5, u6, u7, u8, u9, u10, u11, rfl, eB1, by rw [upd_ne nFD.symm, upd_same]; rfl, .nil⟩ (fun j σ H' _ ⟨_, _, _, _, _, _, _, _, _, _, _, e, _⟩ => e _ _ hBF) ?_ ?_⟩
    · rintro j v σ H3 H4 hj ⟨us3, u2, u4, u5, u6, u7, u8, u9, u10, u11, rfl, e3, hD3, hp3⟩ ⟨TT, k1, v1, rfl, hTT, rfl, hk1, hv1⟩
      rw [dct_len] at hj
      have hyj : us[j]? = some us[j] := List.getElem?_eq_getElem hj
      obtain ⟨⟨t, s, wt⟩, hw, ⟨ke, q, y1, y2, er, hq, ri1, ri2⟩⟩ := paired_get hfB hyj
      have da := dct_at (f := id) hyj
      have hk1 : ((dct id us)[j]?.map fun kv => kV kv.1) = some k1 := hk1
      have hv1 : ((dct id us)[j]?.map Prod.snd) = some v1 := hv1
      rw [da] at hk1 hv1
      have hk1 : some (V.str us[j].1) = some k1 := hk1
      have hv1 : some us[j].2 = some v1 := hv1
      cases hk1
      rw [er] at hv1
      cases hv1
      have ke : us[j].1 = t := ke
      rw [ke] at *
      have ri1 : y1 = .int wt := ri1
      have ri2 : y2 = .int s := ri2
      subst ri1 ri2
      have hin := List.mem_of_getElem? hw
      obtain ⟨s0, s1, w1, _, tl⟩ := lok _ hin
      have w12 := lw _ hin
      dsimp only at s0 s1 w1 tl w12
      have jl : j < 27 := by have := (List.getElem?_eq_some_iff.mp hw).1; omega
      obtain ⟨hrin, _⟩ := mok.row s0 s1
      obtain ⟨rv, hrv, ⟨rb, ys, er2, hrb, hyp⟩⟩ := rowAt_t hrw mok s0 s1
      subst er2
      have yl := paired_len hyp
      obtain ⟨rlen, rpos, reach⟩ := mok.each _ hrin
      obtain ⟨p0, p1⟩ := mok.sum hrin
      have fm := flat_more (f := nxt1 cs rows U) hw
      have fe : nxt1 cs rows U (t, s, wt) = grow (t, s, wt) (U / rsum (rowAt rows s)) (cs.zip (rowAt rows s)) := rfl
      have fln := flat_len (U := U) (l := lv cs rows U st i) (j := j) mok
      have presub : ∀ m, (((lv cs rows U st i).take j).flatMap (nxt1 cs rows U) ++ grow (t, s, wt) (U / rsum (rowAt rows s)) ((cs.zip (rowAt rows s)).take m)).Sublist (lv cs rows U st (i + 1)) := fun m => pre_sub hw (by rw [fe]; exact grow_sub _ _ _ _)
      generalize hrow : rowAt rows s = row at *
      have hq3 := e3 _ _ (same_fr _ _ hq)
      have nqT : q ≠ TT := ne_of_none hq3 hTT
      refine ⟨TT, _, rfl, SqT.of upd_same, rfl, _, _, rfl, _, _, rfl, q, _, rfl, SqT.of (by rw [upd_ne nqT]; exact hq3), rfl, _, _, rfl, _, _, rfl, rfl, rfl, ?_⟩
      have e34 : Same H3 (upd H3 TT (.tup [V.str t, .ref q])) := same_new hTT
      generalize upd H3 TT (.tup [V.str t, .ref q]) = H4 at e34 ⊢
      have eB4 := e3.trans e34
      have e04 := eB.trans eB4
      have hx4 := e04 _ _ hx
      -- the row, its sum
      refine ⟨_, rfl, x, _, dx, fs, _, rfl, hx4, T.cl_Machine, T.n_Machine_rows, mf.rows, _, rfl, rp, _, s, _, rfl, rfl, SqT.of (e04 _ _ hrp), hrv, ?_⟩
      refine ⟨_, rfl, x, _, dx, fs, _, rfl, hx4, T.cl_Machine, T.n_Machine_unit, mfu, _, rfl, rb, rfl, ⟨_, SqT.of (e04 _ _ hrb)⟩, fun C hC => ?_⟩
      refine lc_new (n := ys.length) walk_tup (stepS H4) RInt (fun i bs => bs = (row.map (·.1)).take i) hC (fun H' e => SqT.of (e _ _ (e04 _ _ hrb))) (fun i H x H' y => yAt_same y) (by rw [yl]; exact sz_lt (by omega)) rfl (fun j x bs G1 G2 Kc Rc hj hb f1 f2 _ hy k1 _ => ?_) (fun H5 ys2 bs2 e5 hv5 hr5 hb5 => ?_)
      · obtain ⟨⟨pt, tg⟩, hy2, ⟨q2, u1, u2, rfl, hz, rfl, rfl⟩⟩ := paired_get hyp hy.2
        refine ⟨q2, _, rfl, SqT.of (f2 _ _ (e04 _ _ hz)), rfl, _, _, rfl, _, _, rfl, rfl, rfl, yes_t ⟨_, rfl, k1 pt _ _ (Same.refl _) rfl ?_⟩⟩
        rw [hb, take_more]
        rw [List.getElem?_map, hy2]; rfl
      rw [yl, List.take_of_length_le (by rw [List.length_map]; exact Nat.le_refl _)] at hb5
      subst hb5
      have hC5 := same_fr _ _ (lstI_at hr5)
      refine ⟨C, _, rfl, SqL.of hC5, ?_⟩
      rw [show (row.map (·.1)).sum = rsum row from rfl]
      have v0 : 0 ≤ U / rsum row := Int.ediv_nonneg (by omega) (by omega)
      have v1 : U / rsum row ≤ U := Int.ediv_le_self _ (by omega)
      refine ⟨_, _, rfl, rfl, wdiv (b := 50) p0 (by unfold Bd; omega) (by decide), ?_⟩
      have eB5 := eB4.trans e5
      have e05 := e04.trans e5
      have hx5 := e05 _ _ hx
      have hD5 := (e34.trans e5) _ _ hD3
      have hp5 := paired_up hp3 fun _ _ => KWd.up (nw_up (D := D) (H0 := H) (e34.trans e5))
      have zl : (cs.zip row).length = cs.length := by rw [List.length_zip, rlen, Nat.min_self]
      clear hp3 hr5 hv5
      have sl : (signsV z).length = ys.length := by unfold signsV; rw [List.length_map, hcs, yl, rlen]
      have sz0 : ∀ m : Nat, ((((lv cs rows U st i).take j).flatMap (nxt1 cs rows U) ++ grow (t, s, wt) (U / rsum row) ((cs.zip row).take m)).length) < 90 := fun m => by
        have g1 := grow_len (t, s, wt) (U / rsum row) ((cs.zip row).take m)
        have g2 : ((cs.zip row).take m).length ≤ 3 := by rw [List.length_take]; omega
        rw [List.length_append]; omega
      -- its letters
      refine ⟨_, rfl, x, _, dx, fs, _, rfl, hx5, T.cl_Machine, T.n_Machine_alphabet, mf.alph, _, rfl, .s z, .t rb, signsV z, ys, rfl, rfl, SqT.of (e05 _ _ hrb), ?_⟩
      refine for_zipK (xs := signsV z) (ys := ys) sl (fun m σ H' => ∃ (us5 : List (Str × V)) (u8 u10 u11 : Option V), σ = [some (.ref x), some (.ref F), u2, some (.ref D), some (.str t), some (.int wt), some (.int s), some (.ref rb), u8, some (.int (U / rsum row)), u10, u11] ∧ Same HB H' ∧ H' D = some (.dK (dct id us5)) ∧ Paired (KWd (nw D H H')) us5 (((lv cs rows U st i).take j).flatMap (nxt1 cs rows U) ++ grow (t, s, wt) (U / rsum row) ((cs.zip row).take m)))
        ⟨us3, u8, u10, u11, rfl, eB5, hD5, by rw [show grow (t, s, wt) (U / rsum row) ((cs.zip row).take 0) = [] from rfl, List.append_nil]; exact hp5⟩ (fun m σ H' ⟨_, _, _, _, _, e, _⟩ => ⟨rfl, SqT.of (e _ _ (eB _ _ hrb))⟩) ?_ ?_
      · rintro m x1 y TS σ H6 hx1 hy ⟨us5, u8, u10, u11, rfl, e6, hD6, hp6⟩ hTS
        obtain ⟨c, hc, rfl⟩ := map_some hx1
        rw [hcs] at hc
        obtain ⟨⟨pt, tg⟩, hpt, ⟨q2, z1, z2, rfl, hq2, rfl, rfl⟩⟩ := paired_get hyp hy
        have zat : (cs.zip row)[m]? = some (c, (pt, tg)) := (List.getElem?_zip_eq_some (z := (c, (pt, tg)))).mpr ⟨hc, hpt⟩
        obtain ⟨pt0, pt4, _, _⟩ := reach _ (List.mem_of_getElem? hpt)
        dsimp only at pt0 pt4
        have gm := grow_more (t, s, wt) (U / rsum row) zat
        have sz1 := sz0 m
        rw [← paired_len hp6] at sz1
        have hq6 := e6 _ _ (eB _ _ hq2)
        have nq2 : q2 ≠ TS := ne_of_none hq6 hTS
        refine ⟨TS, _, rfl, SqT.of upd_same, rfl, _, _, rfl, _, _, rfl, q2, _, rfl, SqT.of (by rw [upd_ne nq2]; exact hq6), rfl, _, _, rfl, _, _, rfl, rfl, rfl, ?_⟩
        have e67 : Same H6 (upd H6 TS (.tup [V.str ⟨#[c]⟩, .ref q2])) := same_new hTS
        generalize upd H6 TS (.tup [V.str ⟨#[c]⟩, .ref q2]) = H7 at e67 ⊢
        have e7 := e6.trans e67
        have hD7 := e67 _ _ hD6
        have hp7 := paired_up hp6 fun _ _ => KWd.up (nw_up (D := D) (H0 := H) e67)
        refine ⟨_, rfl, _, _, rfl, rfl, _, rfl, ?_⟩
        by_cases c0 : 0 < pt
        · refine iteD c0 ?_
          dsimp only at gm
          rw [if_pos c0] at gm
          have tsz : t.length + (sg c).length ≤ sizeLine := by
            have e1 : (sg c).length = 1 := rfl
            rw [e1, sizeLine_eq]; omega
          have n1 : 0 ≤ wt * pt := Int.mul_nonneg (by omega) (by omega)
          have n2 : Bd 55 (wt * pt) := bd_mul (a := 50) (b := 5) (wd_bd (by omega) w12) (by unfold Bd; omega)
          have keys := kwd_keys hp6
          have ndp : ((((lv cs rows U st i).take j).flatMap (nxt1 cs rows U) ++ grow (t, s, wt) (U / rsum row) ((cs.zip row).take (m + 1))).map (·.1)).Nodup := ndl.sublist ((presub (m + 1)).map _)
          rw [gm, ← List.append_assoc, List.map_append, ← keys, List.nodup_append] at ndp
          have ndk : (us5.map (·.1)).Nodup := ndp.1
          have nk : (t ++ sg c) ∉ us5.map (·.1) := fun h => ndp.2.2 _ h _ (List.mem_singleton.mpr rfl) rfl
          refine ⟨_, rfl, _, rfl, _, _, rfl, rfl, wmul (a := 50) (b := 5) (wd_bd (by omega) w12) (by unfold Bd; omega) (by decide), _, rfl, _, _, rfl, rfl, wmul (a := 55) (b := 50) n2 (by unfold Bd; omega) (by decide), _, rfl, by show 2 ≤ sizeLine; decide, fun T2 hT2 => ?_⟩
          have hD8 : (upd H7 T2 (.tup [.int (wt * pt * (U / rsum row)), .int tg])) D = some (.dK (dct id us5)) := same_new hT2 _ _ hD7
          have nTD : T2 ≠ D := (ne_of_none hD7 hT2).symm
          have hT20 : H T2 = none := (eB.trans e7).free hT2
          refine ⟨_, rfl, _, rfl, _, rfl, _, _, rfl, rfl, tsz, D, _, rfl, dput_at (f := id) (x := V.ref T2) hD8 ndk (by omega), dput us5 (t ++ sg c) (.ref T2), _, _, _, rfl, same_mut (e7.trans (same_new hT2)) hBD, upd_same, ?_⟩
          rw [dput_new nk, nw_mut, gm, ← List.append_assoc]
          exact paired_app (paired_up hp7 fun _ _ => KWd.up (nw_up (same_new hT2))) (.cons ⟨rfl, T2, .int (wt * pt * (U / rsum row)), .int tg, rfl, by rw [nw_at hT20 nTD, upd_same], rfl, rfl⟩ .nil)
        · dsimp only at gm
          rw [if_neg c0, List.append_nil] at gm
          exact iteN c0 ⟨us5, _, _, _, rfl, e7, hD7, by rw [gm]; exact hp7⟩
      · rintro σ H6 ⟨us5, u8, u10, u11, rfl, e6, hD6, hp6⟩
        refine ⟨us5, _, _, _, _, _, _, _, _, _, rfl, e6, hD6, ?_⟩
        rw [fm, fe]
        rw [show ((cs.zip row).take (signsV z).length) = cs.zip row from List.take_of_length_le (by rw [zl, sl, yl, rlen]; exact Nat.le_refl _)] at hp6
        exact hp6
    · rintro σ H3 ⟨us3, u2, u4, u5, u6, u7, u8, u9, u10, u11, rfl, e3, hD3, hp3⟩
      rw [dct_len, fl, List.take_length] at hp3
      refine ⟨e3 _ _ hBF, ?_⟩
      have hF3 := e3 _ _ hBF
      have e5 : Same H (upd H3 F (.dK (dct id us))) := fun b o e => by
        have : b ≠ F := ne_of_none e hF00
        rw [upd_ne this]; exact (eB.trans e3) _ _ e
      refine ⟨_, rfl, D, us3, _, _, _, _, _, _, _, _, _, _, rfl, e5, hD0, by rw [upd_ne nFD.symm]; exact hD3, paired_up hp3 fun _ _ => KWd.upT fun q ys h => ?_⟩
      obtain ⟨a, b⟩ := hid_some h
      obtain ⟨c, d⟩ := fr_some b
      have : q ≠ F := fun e => by rw [e, hF3] at d; cases d
      rw [fr_at c, upd_ne this]; exact d
  · rintro σ H2 ⟨F, us, u2, u3, u4, u5, u6, u7, u8, u9, u10, u11, rfl, e2, hF00, hF, hfp⟩
    rw [Int.toNat_natCast] at hfp
    have lfew := lv_few (U := U) mok L
    have l27 : (lv cs rows U st L).length ≤ 27 := Nat.le_trans lfew (Nat.pow_le_pow_right (by decide) L3)
    have fl := paired_len hfp
    have ndl := lv_nd mok hU L
    have wk : (wds (lv cs rows U st L)).map (·.1) = (lv cs rows U st L).map (·.1) := by unfold wds; rw [List.map_map]; rfl
    have wl : (wds (lv cs rows U st L)).length = us.length := by unfold wds; rw [List.length_map, fl]
    refine ⟨F, .dK (dct id us), hF, trivial, fun od => ?_⟩
    obtain ⟨HB, hHB⟩ : ∃ HB : Hp, HB = upd H2 F (.frz od (.dK (dct id us))) := ⟨_, rfl⟩
    rw [← hHB]
    have hBF : HB F = some (.frz od (.dK (dct id us))) := by rw [hHB, upd_same]
    have tB : ∀ q ys, fr H H2 q = some (.tup ys) → fr H HB q = some (.tup ys) := fun q ys h => by
      obtain ⟨a, b⟩ := fr_some h
      have : q ≠ F := fun e => by rw [e, hF] at b; cases b
      rw [fr_at a, hHB, upd_ne this]; exact b
    have hfB := paired_up hfp fun _ _ => KWd.upT tB
    refine ⟨_, rfl, F, od, _, rfl, hBF, fun D hD => ?_⟩
    have nFD : F ≠ D := ne_of_none hBF hD
    have hD2 : H2 D = none := by rw [hHB, upd_ne nFD.symm] at hD; exact hD
    refine dc_it walk_items (fun j H' => Same HB H' ∧ H' D = some (.dK (dct V.int ((wds (lv cs rows U st L)).take j)))) ⟨same_new hD, upd_same⟩ (fun j H' _ ⟨e, _⟩ => e _ _ hBF) ?_ ?_
    · rintro j v H3 H4 hj ⟨e3, hD3⟩ ⟨TT, k1, v1, rfl, hTT, rfl, hk1, hv1⟩
      rw [dct_len] at hj
      have hyj : us[j]? = some us[j] := List.getElem?_eq_getElem hj
      obtain ⟨⟨t, s, wt⟩, hw, ⟨ke, q, y1, y2, er, hq, ri1, ri2⟩⟩ := paired_get hfB hyj
      have da := dct_at (f := id) hyj
      have hk1 : ((dct id us)[j]?.map fun kv => kV kv.1) = some k1 := hk1
      have hv1 : ((dct id us)[j]?.map Prod.snd) = some v1 := hv1
      rw [da] at hk1 hv1
      have hk1 : some (V.str us[j].1) = some k1 := hk1
      have hv1 : some us[j].2 = some v1 := hv1
      cases hk1
      rw [er] at hv1
      cases hv1
      have ke : us[j].1 = t := ke
      rw [ke] at *
      have ri1 : y1 = .int wt := ri1
      have ri2 : y2 = .int s := ri2
      subst ri1 ri2
      have hq3 := e3 _ _ (same_fr _ _ hq)
      have nqT : q ≠ TT := ne_of_none hq3 hTT
      have nTD : TT ≠ D := (ne_of_none hD3 hTT).symm
      have hwj : (wds (lv cs rows U st L))[j]? = some (t, wt) := by unfold wds; rw [List.getElem?_map, hw]; rfl
      have ndw : ((wds (lv cs rows U st L)).map (·.1)).Nodup := by rw [wk]; exact ndl
      have ndp : (((wds (lv cs rows U st L)).take j).map (·.1)).Nodup := ndw.sublist ((List.take_sublist _ _).map _)
      have nk : t ∉ ((wds (lv cs rows U st L)).take j).map (·.1) := fun m => by
        have hx2 := ndw
        rw [← List.take_append_drop (j + 1) (wds (lv cs rows U st L)), take_more hwj, List.map_append, List.map_append, List.nodup_append, List.nodup_append] at hx2
        exact hx2.1.2.2 t m t (List.mem_singleton.mpr rfl) rfl
      refine ⟨TT, _, rfl, SqT.of upd_same, rfl, _, _, rfl, _, _, rfl, q, _, rfl, SqT.of (by rw [upd_ne nqT]; exact hq3), rfl, _, _, rfl, _, _, rfl, rfl, rfl, rfl, yes_t ⟨_, rfl, _, rfl, dct V.int ((wds (lv cs rows U st L)).take j), kT t, rfl, by rw [upd_ne nTD.symm]; exact hD3, by rw [dct_len, List.length_take, sizeLine_eq]; omega, same_mut (e3.trans (same_new hTT)) hD, ?_⟩⟩
      rw [upd_same, take_more hwj, ← dput_new nk]
      exact congrArg (fun z => some (HO.dK z)) (dct_put (f := V.int) (x := wt) ndp)
    · rintro H3 ⟨e3, hD3⟩
      rw [dct_len, ← wl, List.take_length] at hD3
      refine ⟨e3 _ _ hBF, k D _ (fun b o e => ?_) (e2.free hD2) (by rw [upd_ne nFD.symm]; exact hD3)⟩
      have : b ≠ F := ne_of_none e hF00
      rw [upd_ne this]
      refine e3 _ _ ?_
      rw [hHB, upd_ne this]; exact e2 _ _ e
end
end MH
/-! part D34 -/
set_option Elab.async false
set_option linter.all false
set_option maxRecDepth 100000
set_option maxHeartbeats 6000000
namespace MH
open PySem PySem.Spec PyProof.Rows L2
theorem call_tupK {X : Cx} {K : Fr} (e : X.K = K := by rfl) : CallR X (.type "tuple") (fun xs H Q => ∃ p ys, xs = [.ref p] ∧ ((SqL K H p ys ∧ ∀ l, H l = none → Q (.ref l) (upd H l (.tup ys))) ∨ (SqT K H p ys ∧ Q (.ref p) H))) := e ▸ call_tuple_of
section
variable {P : Program} {w : World} {K : Fr} {mg : Str → Option Value} {base : Heap}
abbrev mf5 (z : Str) (st : Int) (R : V) (L : Nat) (u : Int) : List (Str × V) := [("alphabet", .str z), ("start", .int st), ("rows", R), ("length", .int (L : Int)), ("unit", .int u)]
abbrev mf7 (z : Str) (st : Int) (R : V) (L : Nat) (u t : Int) (d : Addr) : List (Str × V) := [("alphabet", .str z), ("start", .int st), ("rows", R), ("length", .int (L : Int)), ("unit", .int u), ("whole", .int t), ("weights", .ref d)]
def sp_Machine___init (K : Fr) : Sp := spx 5 fun vs H Q _ => ∃ (x dx : Addr) (z : Str) (st : Int) (v : V) (rows : MRows) (L : Nat), vs = [.ref x, .str z, .int st, v, .int (L : Int)] ∧ H x = some (.ins (He.ga K "Machine") dx []) ∧ RMRows (hid x H) v rows ∧ MOk z.cps.toList st rows ∧ L ≤ 3 ∧
  ∀ (d : Addr) (R : V) H', H d = none → Same (hid x H) (hid x H') → H' x = some (.ins (He.ga K "Machine") dx (mf7 z st R L (unitN rows : Int) ((unitN rows ^ L : Nat) : Int) d)) → H' d = some (.dK (dct V.int (wds (lv z.cps.toList rows (unitN rows) st L)))) → Q .non H'
theorem sc_Machine___init : FnScope ["self", "alphabet", "start", "rows", "length", "row", "weight", "state", "_"] ["self", "alphabet", "start", "rows", "length"] (defScope s_Machine___init) := ⟨rfl, rfl, rfl, by decide +kernel, rfl, by decide +kernel, by decide +kernel⟩
theorem c_Machine___init (T : Tx K mg) (G_least_multiple : Cal P w K mg base 2 "least_multiple" ["a", "b"] sp_least_multiple) (G_power : Cal P w K mg base 1 "power" ["a", "n"] sp_power) (G_Machine_all_weights : Met P w K mg base 1 (He.ga K "Machine") "all_weights" ["self"] (sp_Machine_all_weights K)) : Mak P w K mg base 3 "Machine" (He.ga K "Machine") ["self", "alphabet", "start", "rows", "length"] (sp_Machine___init K) := by
  refine T.mak 31 rfl 80 rfl 82 rfl sc_Machine___init (fun _ _ _ _ h => h.1) (fun _ _ _ _ _ _ us hl => match us, hl with | [_, _, _, _, _], _ => rfl) (fun cdv A outer s H vs Q E hr h => ?_)
  have nd := sc_Machine___init.nd
  have hu := hu_of hr
  refine ⟨_, (pss_cons (ps_fld (pv 0) (pv 1) rfl)
      (pss_cons (ps_fld (pv 0) (pv 2) rfl)
      (pss_cons (ps_fld (pv 0) (pe_callTy call_tuple_of (by rfl) T.f_tuple (by decide +kernel) (pa_cons (pe_lc (own := [("row", 5)]) (g := (gName 5)) (tt := tYes) (by rfl) nd (pi_list (pv 3)) (blkOk_by (own := [("row", 5)]) (N := ["self", "alphabet", "start", "rows", "length", "row", "weight", "state", "_"]) (sc := defScope s_Machine___init) (by decide +kernel)) (fun _ _ _ _ _ => (pg_name (i := 5) nd rfl (Or.inl rfl))) (fun _ _ _ _ _ => pts_nil) (fun _ _ _ _ _ => (pe_callTy (call_tupK (K := K)) (by rfl) T.f_tuple (by decide +kernel) (pa_cons (pe_lc (own := [("weight", 6), ("state", 7)]) (g := (gTup K 2 (gCons (gName 6) (gCons (gName 7) gNil)))) (tt := tYes) (by rfl) nd (pi_listK (K := K) (pi_list (pv 5))) (blkOk_by (own := [("weight", 6), ("state", 7)]) (N := ["self", "alphabet", "start", "rows", "length", "row", "weight", "state", "_"]) (sc := ⟨.function, [(".0", .local), ("row", .local), ("tuple", .globalImplicit)], false, false, []⟩) (by decide +kernel)) (fun _ _ _ _ _ => (pg_tupK (K := K) 2 rfl (pgs_cons (pg_name (i := 6) nd rfl (Or.inl rfl)) (pgs_cons (pg_name (i := 7) nd rfl (Or.inl rfl)) pgs_nil)))) (fun _ _ _ _ _ => pts_nil) (fun _ _ _ _ _ => (pe_tup (pa_cons (pv 6) (pa_cons (pv 7) pa_nil))))) pa_nil)))) pa_nil)) rfl)
      (pss_cons (ps_fld (pv 0) (pv 4) rfl)
      (pss_cons (ps_fld (pv 0) pe_int rfl)
      (pss_cons (ps_for PassesOwn.never rfl (pi_tup (pe_fldK (K := K) (pv 0) rfl)) (pg_name (i := 5) nd rfl (Or.inl rfl)) (pss_one (ps_fld (pv 0) (pe_cal G_least_multiple (hr.mono (by decide)) (pa_cons (pe_fldK (K := K) (pv 0) rfl) (pa_cons (pe_callB (cr_sum rfl) (by rfl) T.f_sum (by decide +kernel) (pa_cons (pe_lc (own := [("weight", 6), ("_", 8)]) (g := (gTup K 2 (gCons (gName 6) (gCons (gName 8) gNil)))) (tt := tYes) (by rfl) nd (pi_tup (pv 5)) (blkOk_by (own := [("weight", 6), ("_", 8)]) (N := ["self", "alphabet", "start", "rows", "length", "row", "weight", "state", "_"]) (sc := defScope s_Machine___init) (by decide +kernel)) (fun _ _ _ _ _ => (pg_tupK (K := K) 2 rfl (pgs_cons (pg_name (i := 6) nd rfl (Or.inl rfl)) (pgs_cons (pg_name (i := 8) nd rfl (Or.inl rfl)) pgs_nil)))) (fun _ _ _ _ _ => pts_nil) (fun _ _ _ _ _ => (pv 6))) pa_nil)) pa_nil))) rfl)))
      (pss_cons (ps_fld (pv 0) (pe_cal G_power (hr.mono (by decide)) (pa_cons (pe_fldK (K := K) (pv 0) rfl) (pa_cons (pv 4) pa_nil))) rfl)
      (pss_one (ps_fld (pv 0) (pe_met0 G_Machine_all_weights (hr.mono (by decide)) (pv 0)) rfl))))))))), ?_⟩
  obtain ⟨_, x, dx, z, st, v, rows, L, rfl, hx, ⟨rp, rvs, rfl, hrp, hrw⟩, mok, L3, k⟩ := h
  have rl := paired_len hrw
  have r2 := mok.r2
  have c3 := mok.c3
  obtain ⟨u0, u1, ud⟩ := mok.unit
  -- alphabet, start
  refine ⟨_, rfl, _, rfl, x, _, dx, _, rfl, hx, T.cl_Machine, T.n_Machine_alphabet, by decide, ?_⟩
  have g1 : hid x (upd H x (.ins (He.ga K "Machine") dx (putF "alphabet" (.str z) []))) = hid x H := hid_upd
  have x1 : (upd H x (.ins (He.ga K "Machine") dx (putF "alphabet" (.str z) []))) x = some (.ins (He.ga K "Machine") dx [("alphabet", .str z)]) := upd_same
  generalize upd H x (.ins (He.ga K "Machine") dx (putF "alphabet" (.str z) [])) = H1 at g1 x1 ⊢
  refine ⟨_, rfl, _, rfl, x, _, dx, _, rfl, x1, T.cl_Machine, T.n_Machine_start, (by show 1 < 1000; decide), ?_⟩
  have g2 : hid x (upd H1 x (.ins (He.ga K "Machine") dx (putF "start" (.int st) [("alphabet", .str z)]))) = hid x H := hid_upd.trans g1
  have x2 : (upd H1 x (.ins (He.ga K "Machine") dx (putF "start" (.int st) [("alphabet", .str z)]))) x = some (.ins (He.ga K "Machine") dx [("alphabet", .str z), ("start", .int st)]) := upd_same
  generalize upd H1 x (.ins (He.ga K "Machine") dx (putF "start" (.int st) [("alphabet", .str z)])) = H2 at g2 x2 ⊢
  -- the rows as tuples
  obtain ⟨nrx, hrp2⟩ : rp ≠ x ∧ H2 rp = some (.lst rvs) := hid_some (by rw [g2]; exact hrp)
  have hrw2 : Paired (RMRow H2) rvs rows := paired_up hrw fun _ _ h => Mo.up same_hid (by rw [g2]; exact h)
  refine ⟨_, rfl, rp, rfl, ⟨_, SqL.of hrp2⟩, fun D hD => ?_⟩
  refine lc_new (n := rvs.length) walk_list (stepS H2) (RTup (RPr RInt RInt)) (fun i bs => bs = rows.take i) hD (fun H' e => SqL.of (e _ _ hrp2)) (fun i H x H' y => yAt_same y) (by rw [rl]; exact sz_lt (by omega)) rfl (fun i x bs G1 G2 Kc Rc hi hb f1 f2 _ hy k1 _ => ?_) (fun H3 ys bs e3 hv3 hr3 hb3 => ?_)
  · obtain ⟨row, hrow, ⟨rb, ys, rfl, hrb, hyp⟩⟩ := paired_get hrw2 hy.2
    have yl := paired_len hyp
    have rlen := (mok.each row (List.mem_of_getElem? hrow)).1
    refine ⟨rfl, yes_t ⟨_, rfl, rb, rfl, ⟨_, SqL.of (f2 _ _ hrb)⟩, fun D2 hD2 => ?_⟩⟩
    refine lc_new (n := ys.length) walk_list (stepS G2) (RPr RInt RInt) (fun i bs => bs = row.take i) hD2 (fun H' e => SqL.of (e _ _ (f2 _ _ hrb))) (fun i H x H' y => yAt_same y) (by rw [yl]; exact sz_lt (by omega)) rfl (fun j x bs2 G3 G4 Kc2 Rc2 hj hb2 f3 f4 _ hy2 k2 _ => ?_) (fun H4 ys4 bs4 e4 hv4 hr4 hb4 => ?_)
    · obtain ⟨⟨pt, tg⟩, hyy, ⟨q2, u1, u2, rfl, hz, rfl, rfl⟩⟩ := paired_get hyp hy2.2
      refine ⟨q2, _, rfl, SqT.of (f4 _ _ (f2 _ _ hz)), rfl, _, _, rfl, _, _, rfl, rfl, rfl, yes_t ⟨_, rfl, _, rfl, by show 2 ≤ sizeLine; decide, fun T2 hT2 => k2 (pt, tg) _ _ (same_new hT2) ⟨T2, _, _, rfl, by rw [fr_at hT2, upd_same], rfl, rfl⟩ ?_⟩⟩
      rw [hb2, take_more hyy]
    · rw [yl, List.take_of_length_le (Nat.le_refl _)] at hb4
      subst hb4
      obtain ⟨D2', vs4, ec, hD4, hp4⟩ := hr4
      cases ec
      have y4 : ys4 = vs4 := by have := hv4.symm.trans (same_fr _ _ hD4); injection this with z; injection z
      subst y4
      refine ⟨D2, _, rfl, .inl ⟨SqL.of hv4, fun r hr => k1 bs4 _ _ (e4.trans (same_new hr)) ⟨r, ys4, rfl, by rw [fr_at (e4.free hr), upd_same], paired_up hp4 fun _ _ => Mo.up (fr_up (same_new hr))⟩ ?_⟩⟩
      rw [hb, take_more hrow]
  rw [rl, List.take_of_length_le (Nat.le_refl _)] at hb3
  subst hb3
  obtain ⟨D', vs3, ec, hD3, hp3⟩ := hr3
  cases ec
  have y3 : ys = vs3 := by have := hv3.symm.trans (same_fr _ _ hD3); injection this with z; injection z
  subst y3
  refine ⟨D, _, rfl, .inl ⟨SqL.of hv3, fun R hR => ?_⟩⟩
  have e23 : Same H2 (upd H3 R (.tup ys)) := e3.trans (same_new hR)
  have hRR : RTRows (fr H2 (upd H3 R (.tup ys))) (.ref R) bs := ⟨R, ys, rfl, by rw [fr_at (e3.free hR), upd_same], paired_up hp3 fun _ _ => Mo.up (fr_up (same_new hR))⟩
  generalize upd H3 R (.tup ys) = H4 at e23 hRR ⊢
  have g4 : Same (hid x H) (hid x H4) := by rw [← g2]; exact same_hid_up e23
  have x4 := e23 _ _ x2
  have hR4 := Mo.up (same_fr_hid x2) hRR
  clear hRR hp3 hD3 hv3 e3 hR hrp2 hrw2
  refine ⟨_, rfl, x, _, dx, _, rfl, x4, T.cl_Machine, T.n_Machine_rows, (by show 2 < 1000; decide), ?_⟩
  have g5 : hid x (upd H4 x (.ins (He.ga K "Machine") dx (putF "rows" (.ref R) [("alphabet", .str z), ("start", .int st)]))) = hid x H4 := hid_upd
  have x5 : (upd H4 x (.ins (He.ga K "Machine") dx (putF "rows" (.ref R) [("alphabet", .str z), ("start", .int st)]))) x = some (.ins (He.ga K "Machine") dx [("alphabet", .str z), ("start", .int st), ("rows", .ref R)]) := upd_same
  generalize upd H4 x (.ins (He.ga K "Machine") dx (putF "rows" (.ref R) [("alphabet", .str z), ("start", .int st)])) = H5 at g5 x5 ⊢
  -- length, unit
  refine ⟨_, rfl, _, rfl, x, _, dx, _, rfl, x5, T.cl_Machine, T.n_Machine_length, (by show 3 < 1000; decide), ?_⟩
  have g6 : hid x (upd H5 x (.ins (He.ga K "Machine") dx (putF "length" (.int (L : Int)) [("alphabet", .str z), ("start", .int st), ("rows", .ref R)]))) = hid x H4 := hid_upd.trans g5
  have x6 : (upd H5 x (.ins (He.ga K "Machine") dx (putF "length" (.int (L : Int)) [("alphabet", .str z), ("start", .int st), ("rows", .ref R)]))) x = some (.ins (He.ga K "Machine") dx [("alphabet", .str z), ("start", .int st), ("rows", .ref R), ("length", .int (L : Int))]) := upd_same
  generalize upd H5 x (.ins (He.ga K "Machine") dx (putF "length" (.int (L : Int)) [("alphabet", .str z), ("start", .int st), ("rows", .ref R)])) = H6 at g6 x6 ⊢
  refine ⟨_, rfl, x, _, dx, _, rfl, x6, T.cl_Machine, T.n_Machine_unit, (by show 4 < 1000; decide), ?_⟩
  have g7 : hid x (upd H6 x (.ins (He.ga K "Machine") dx (putF "unit" (.int 1) [("alphabet", .str z), ("start", .int st), ("rows", .ref R), ("length", .int (L : Int))]))) = hid x H4 := hid_upd.trans g6
  have x7 : (upd H6 x (.ins (He.ga K "Machine") dx (putF "unit" (.int 1) [("alphabet", .str z), ("start", .int st), ("rows", .ref R), ("length", .int (L : Int))]))) x = some (.ins (He.ga K "Machine") dx (mf5 z st (.ref R) L 1)) := upd_same
  generalize upd H6 x (.ins (He.ga K "Machine") dx (putF "unit" (.int 1) [("alphabet", .str z), ("start", .int st), ("rows", .ref R), ("length", .int (L : Int))])) = H7 at g7 x7 ⊢
  rw [← g7] at g4 hR4
  clear g1 g2 g5 g6 x1 x2 x4 x5 x6 e23 g7
  obtain ⟨R', ts, eR, hRt, htp⟩ := id hR4
  cases eR
  obtain ⟨nRx, hR7⟩ := hid_some hRt
  have tl := paired_len htp
  -- the unit
  refine ⟨_, rfl, x, _, dx, _, _, rfl, x7, T.cl_Machine, T.n_Machine_rows, rfl, R, rfl, ⟨_, SqT.of hR7⟩, for_tup (K := K) (xs := ts) (fun i σ H' => ∃ u5, σ = [some (.ref x), some (.str z), some (.int st), some (.ref rp), some (.int (L : Int)), u5, none, none, none] ∧ Same (hid x H7) (hid x H') ∧ H' x = some (.ins (He.ga K "Machine") dx (mf5 z st (.ref R) L (unitN (bs.take i) : Int)))) ⟨none, rfl, Same.refl _, x7⟩ (fun i σ H' _ ⟨_, _, g, _⟩ => SqT.of (keepS g nRx hR7)) ?_ ?_⟩
  · rintro i y σ H8 hi ⟨u5, rfl, g8, x8⟩
    obtain ⟨row, hrow, ⟨rb, ys, rfl, hrb, hyp⟩⟩ := paired_get htp hi
    obtain ⟨nbx, hrb7⟩ := hid_some hrb
    have hrb8 := keepS g8 nbx hrb7
    have hin := List.mem_of_getElem? hrow
    have yl := paired_len hyp
    have rlen := (mok.each row hin).1
    have hyp8 := paired_up hyp fun _ _ => Mo.up (R := RPr RInt RInt) (g8.trans same_hid)
    refine ⟨_, rfl, x, _, dx, _, _, rfl, x8, T.cl_Machine, T.n_Machine_unit, rfl, _, rfl, rb, rfl, ⟨_, SqT.of hrb8⟩, fun C hC => ?_⟩
    refine lc_new (n := ys.length) walk_tup (stepS H8) RInt (fun i bs => bs = (row.map (·.1)).take i) hC (fun H' e => SqT.of (e _ _ hrb8)) (fun i H x H' y => yAt_same y) (by rw [yl]; exact sz_lt (by omega)) rfl (fun j x bs G1 G2 Kc Rc hj hb f1 f2 _ hy k1 _ => ?_) (fun H9 ys2 bs2 e9 hv9 hr9 hb9 => ?_)
    · obtain ⟨⟨pt, tg⟩, hy2, ⟨q2, u1, u2, rfl, hz, rfl, rfl⟩⟩ := paired_get hyp8 hy.2
      refine ⟨q2, _, rfl, SqT.of (f2 _ _ hz), rfl, _, _, rfl, _, _, rfl, rfl, rfl, yes_t ⟨_, rfl, k1 pt _ _ (Same.refl _) rfl ?_⟩⟩
      rw [hb, take_more]
      rw [List.getElem?_map, hy2]; rfl
    rw [yl, List.take_of_length_le (by rw [List.length_map]; exact Nat.le_refl _)] at hb9
    subst hb9
    have hC9 := same_fr _ _ (lstI_at hr9)
    refine ⟨C, _, rfl, SqL.of hC9, ?_⟩
    rw [show (row.map (·.1)).sum = rsum row from rfl]
    obtain ⟨p0, p1⟩ := mok.sum hin
    obtain ⟨a0, a1⟩ := unit_take mok i
    have um := unit_more hrow
    obtain ⟨B, hB⟩ : ∃ B : Nat, (B : Int) = rsum row := ⟨(rsum row).toNat, by omega⟩
    have B1 : (rsum row).toNat = B := by omega
    rw [B1] at um
    rw [← hB]
    have x9 := e9 _ _ x8
    refine ⟨rfl, unitN (bs.take i), B, rfl, a0, by omega, by unfold Bd; omega, by unfold Bd; omega, _, rfl, x, _, dx, _, rfl, x9, T.cl_Machine, T.n_Machine_unit, (by show 5 < 1000; decide), some (.ref rb), rfl, ?_, ?_⟩
    · rw [hid_upd]; exact g8.trans (same_hid_up e9)
    · rw [upd_same, um]; rfl
  rintro σ H8 ⟨u5, rfl, g8, x8⟩
  rw [tl, List.take_length] at x8
  -- whole, weights
  refine ⟨_, rfl, x, _, dx, _, _, rfl, x8, T.cl_Machine, T.n_Machine_unit, rfl, _, rfl, rfl, unitN bs, L, rfl, by omega, by unfold Bd; omega, _, rfl, x, _, dx, _, rfl, x8, T.cl_Machine, T.n_Machine_whole, (by show 5 < 1000; decide), ?_⟩
  have g9 : hid x (upd H8 x (.ins (He.ga K "Machine") dx (putF "whole" (.int ((unitN bs ^ L : Nat) : Int)) (mf5 z st (.ref R) L (unitN bs : Int))))) = hid x H8 := hid_upd
  have x9 : (upd H8 x (.ins (He.ga K "Machine") dx (putF "whole" (.int ((unitN bs ^ L : Nat) : Int)) (mf5 z st (.ref R) L (unitN bs : Int))))) x = some (.ins (He.ga K "Machine") dx [("alphabet", .str z), ("start", .int st), ("rows", .ref R), ("length", .int (L : Int)), ("unit", .int (unitN bs : Int)), ("whole", .int ((unitN bs ^ L : Nat) : Int))]) := upd_same
  generalize upd H8 x (.ins (He.ga K "Machine") dx (putF "whole" (.int ((unitN bs ^ L : Nat) : Int)) (mf5 z st (.ref R) L (unitN bs : Int)))) = H9 at g9 x9 ⊢
  rw [← g9] at g8
  have hR9 : RTRows H9 (.ref R) bs := Mo.up same_hid (Mo.up g8 hR4)
  refine ⟨_, rfl, x, dx, _, rfl, x9, rfl, rfl, x, z, st, bs, L, rfl, ⟨dx, _, .ref R, x9, ⟨rfl, rfl, rfl, rfl, rfl⟩, hR9⟩, mok, L3, fun d Ha ea hd0 hd => ?_⟩
  have xa := ea _ _ x9
  have ga := (g4.trans g8).trans (same_hid_up ea)
  have nxd : x ≠ d := ne_of_none x9 hd0
  refine ⟨_, rfl, x, _, dx, _, rfl, xa, T.cl_Machine, T.n_Machine_weights, (by show 6 < 1000; decide), ?_⟩
  have hd9 : H d = none := freeS (g4.trans g8) (Ne.symm nxd) hd0
  exact k d (.ref R) _ hd9 (by rw [hid_upd]; exact ga) (by rw [upd_same]; rfl) (by rw [upd_ne (Ne.symm nxd)]; exact hd)
/-- Machine(..) as its callers see it -/
theorem machine_make {H1 : Hp} {Q : VK} {E : XK} {z : Str} {st : Int} {v : V} {rows : MRows} {L : Nat} {x dx : Addr} (nx : H1 x = none) (nd : H1 dx = none) (ne : dx ≠ x) (hv : RMRows H1 v rows) (mok : MOk z.cps.toList st rows) (L3 : L ≤ 3)
    (few : (lv z.cps.toList rows (unitN rows) st L).length ≤ 20) (k : ∀ H2, Same H1 H2 → RSrc K (fr H1 H2) (.ref x) (wds (lv z.cps.toList rows (unitN rows) st L)) → Q .non H2) :
    sp_Machine___init K (.ref x :: ([.str z, .int st, v, .int (L : Int)] ++ [])) (upd (upd H1 dx (.own x)) x (.ins (He.ga K "Machine") dx [])) Q E := by
  have e0 : Same H1 (hid x (upd (upd H1 dx (.own x)) x (.ins (He.ga K "Machine") dx []))) := same_to_hid ((same_new nd).trans (same_new (by rw [upd_ne (Ne.symm ne)]; exact nx))) nx
  obtain ⟨wok, wt, _⟩ := mach_ok mok rfl L3 few
  refine ⟨rfl, x, dx, z, st, v, rows, L, rfl, upd_same, Mo.up e0 hv, mok, L3, fun d R H' hd g h1 h2 => ?_⟩
  have dne : d ≠ x := fun z => by rw [z, upd_same] at hd; cases hd
  have dnx : d ≠ dx := fun z => by rw [z, upd_ne ne, upd_same] at hd; cases hd
  have d0 : H1 d = none := by rw [upd_ne dne, upd_ne dnx] at hd; exact hd
  have e1 : Same H1 H' := (e0.trans g).trans same_hid
  refine k H' e1 ⟨x, rfl, .inr ⟨dx, mf7 z st R L (unitN rows : Int) ((unitN rows ^ L : Nat) : Int) d, d, wds (lv z.cps.toList rows (unitN rows) st L), ?_, rfl, ?_, List.Perm.refl _, ?_, rfl, rfl, rfl⟩⟩
  · rw [fr_at nx]; exact h1
  · rw [fr_at d0]; exact h2
  · rw [wt]; exact congrArg (fun z => some (V.int z)) (Int.natCast_pow _ _)
end
end MH
/-! part S2 -/
set_option Elab.async false
set_option linter.all false
set_option maxRecDepth 100000
set_option maxHeartbeats 4000000
namespace MH
open PySem PySem.Spec PyProof.Rows L2
/-- the source and its words, told as a list -/
def sp_law_small_source (K : Fr) : Sp := spx 2 fun vs H Q _ => ∃ (a l : Addr), vs = [.ref a, .int 6] ∧ StOk a l H ∧
  ∀ (o : Addr) (u v : V) (ws : Ws) H', StStep a l H H' → H' o = some (.lst [u, v]) → RSrc K (hid a H') u ws → RWs (hid a H') v ws → WOk ws → (∀ x ∈ ws, x.2 ≤ 10 ^ 12) → Q (.ref o) H'
theorem st_str {a l : Addr} {H : Hp} {v : V} {xs : List Str} (h : StOk a l H) (r : RLst RStr H v xs) : RLst RStr (hid a H) v xs := by
  obtain ⟨p, rfl, hp⟩ := r.strs
  obtain ⟨ns, pos, cell, left, lcg, h1, _⟩ := h
  have ne : p ≠ a := fun z => by
    rw [z, h1] at hp
    injection hp with z1
    injection z1 with z2
    cases xs with
    | nil => cases z2
    | cons x xs => injection z2 with z3; cases z3
  exact RLst.of_strs (by rw [hid_at ne]; exact hp)
theorem st_ws {a l : Addr} {H : Hp} {v : V} {ws : Ws} (h : StOk a l H) (r : RWs H v ws) : RWs (hid a H) v ws := by
  obtain ⟨p, vs, rfl, hp, hq⟩ := r
  obtain ⟨ns, pos, cell, left, lcg, h1, _⟩ := h
  have ne : p ≠ a := fun z => by
    rw [z, h1] at hp
    injection hp with z1
    injection z1 with z2
    rw [← z2] at hq
    cases hq with
    | cons _ t => cases t with
      | cons r2 _ => obtain ⟨_, _, _, e, _⟩ := r2; cases e
  refine ⟨p, vs, rfl, by rw [hid_at ne]; exact hp, paired_up hq fun _ _ ⟨q, u1, u2, e, hq, r⟩ => ⟨q, u1, u2, e, ?_, r⟩⟩
  have : q ≠ a := fun z => by rw [z, h1] at hq; cases hq
  rw [hid_at this]; exact hq
theorem st_src {K : Fr} {a l : Addr} {H : Hp} {v : V} {ws : Ws} (h : StOk a l H) (r : RSrc K H v ws) : RSrc K (hid a H) v ws := by
  obtain ⟨ns, pos, cell, left, lcg, h1, _⟩ := h
  have go : ∀ {C : Str} {p : Addr}, SrcAt K C H p ws → SrcAt K C (hid a H) p ws := fun {C p} ⟨dx, fs, d, us, g1, g2, g3, g4⟩ => by
    have n1 : p ≠ a := fun z => by rw [z, h1] at g1; cases g1
    have n2 : d ≠ a := fun z => by rw [z, h1] at g3; cases g3
    exact ⟨dx, fs, d, us, by rw [hid_at n1]; exact g1, g2, by rw [hid_at n2]; exact g3, g4⟩
  obtain ⟨p, e, s⟩ := r
  exact ⟨p, e, s.imp go go⟩
theorem src_perm {K : Fr} {H : Hp} {v : V} {us ws : Ws} (p : us.Perm ws) (r : RSrc K H v us) : RSrc K H v ws := by
  have go : ∀ {C : Str} {x : Addr}, SrcAt K C H x us → SrcAt K C H x ws := fun {C x} ⟨dx, fs, d, vs, g1, g2, g3, g4, g5, g6⟩ => ⟨dx, fs, d, vs, g1, g2, g3, g4.trans p, by rw [← tot_perm p]; exact g5, g6⟩
  obtain ⟨x, e, s⟩ := r
  exact ⟨x, e, s.imp go go⟩
theorem tot_le {B : Int} : ∀ {ws : Ws}, (∀ x ∈ ws, x.2 ≤ B) → tot ws ≤ ws.length * B
  | [], _ => by show (0 : Int) ≤ ((0 : Nat) : Int) * B; omega
  | x :: ws, h => by
    have a := h x List.mem_cons_self
    have b := tot_le (ws := ws) fun y hy => h y (List.mem_cons_of_mem _ hy)
    show x.2 + tot ws ≤ ((ws.length + 1 : Nat) : Int) * B
    have : ((ws.length + 1 : Nat) : Int) * B = ws.length * B + B := by rw [Int.natCast_add, Int.add_mul]; omega
    omega
/-- the marking that is made is a fit one -/
theorem fit_of {ws : Ws} {ps : Prts} {f p q : Int} {es : Ents} {pool : List Str} {us : Ws} (wok : WOk ws) (pok : PsOk ws f ps) (e : prs es = ps) (hac : ∀ x ∈ es, x.2.2.Nodup ∧ ∀ t ∈ x.2.2, t ∈ pool) (pl : pool.length ≤ 60)
    (sok : SmOk es pool us) (lv : LvOk us (topE es) p q) : Fit ws (shr p q) pool es := by
  have few := wok.few
  have el : es.length = ps.length := by rw [← e]; unfold prs; rw [List.length_map]
  have pf := pok.few
  have po := pok.one
  have w0 : 0 < ws.length := List.length_pos_iff.mpr wok.one
  have each : ∀ x ∈ es, (x.1, x.2.1) ∈ ps := fun x hx => by rw [← e]; exact List.mem_map.mpr ⟨x, hx, rfl⟩
  have top : topE es = f * tot ws := by rw [← tops_prs, e]; exact pok.all
  refine ⟨⟨fun x hx => ?_, fun x hx => ⟨(hac x hx).1, Nat.le_trans (sub_len (hac x hx).1 (hac x hx).2) pl⟩, by omega, fun z => by rw [z] at el; have : (0 : Nat) = ps.length := el; omega⟩, fun x hx => ?_, fun t => ?_, fun t => ?_, fun x hx => (hac x hx).2⟩
  · obtain ⟨a, b, _⟩ := pok.each _ (each x hx)
    exact ⟨a, b⟩
  · exact (pok.each _ (each x hx)).2.2
  · rw [e, pok.sums, wof_psum wok.st.nodup, top]; grind
  · have h := lv.holds t
    rw [sok.val] at h
    have q0 : 0 < q := by have := lv.q1; omega
    have g : (0 : Int) < gcdI p q := Int.natCast_pos.mpr (gcdI_pos q0)
    have m1 := shr_mul1 p q
    have m2 := shr_mul2 p q
    generalize shr p q = z at *
    refine Int.le_of_mul_le_mul_right (a := (gcdI p q : Int)) ?_ g
    have q1 : acs es t * z.2 * (gcdI p q : Int) = acs es t * (z.2 * (gcdI p q : Int)) := by grind
    have q2 : z.1 * topE es * (gcdI p q : Int) = (z.1 * (gcdI p q : Int)) * topE es := by grind
    rw [q1, q2, m1, m2]; exact h
end MH
/-! part D35 -/
set_option Elab.async false
set_option linter.all false
set_option maxRecDepth 100000
set_option maxHeartbeats 6000000
namespace MH
open PySem PySem.Spec PyProof.Rows L2
section
variable {P : Program} {w : World} {K : Fr} {mg : Str → Option Value} {base : Heap}
def sp_law_source (K : Fr) : Sp := spx 2 fun vs H Q _ => ∃ (a l : Addr), vs = [.ref a, .int 6] ∧ StOk a l H ∧
  ∀ (o : Addr) (u v : V) (ws : Ws) H', StStep a l H H' → H' o = some (.lst [u, v]) → RSrc K (hid a H') u ws → RWs (hid a H') v ws → WOk ws → Q (.ref o) H'
theorem sc_law_source : FnScope ["_law_state", "_law_most", "_law_spec_here", "_law_length", "_law_k", "_law_pairs_here"] ["_law_state", "_law_most"] (defScope s_law_source) := ⟨rfl, rfl, rfl, by decide +kernel, rfl, by decide +kernel, by decide +kernel⟩
theorem c_law_source (T : Tx K mg) (G_law_draw : Cal P w K mg base 1 "_law_draw" ["_law_state", "_law_limit"] sp_law_draw) (G_law_spec : Cal P w K mg base 2 "_law_spec" ["_law_state"] sp_law_spec) (G_law_words : Cal P w K mg base 2 "_law_words" ["_law_spec_here", "_law_length"] sp_law_words) (G_Machine___init : Mak P w K mg base 3 "Machine" (He.ga K "Machine") ["self", "alphabet", "start", "rows", "length"] (sp_Machine___init K)) (G_law_pairs : Cal P w K mg base 4 "_law_pairs" ["_law_state", "_law_most"] sp_law_pairs) (G_Table___init : Mak P w K mg base 2 "Table" (He.ga K "Table") ["self", "pairs"] (sp_Table___init K)) : Cal P w K mg base 5 "_law_source" ["_law_state", "_law_most"] (sp_law_source K) := by
  refine T.cal 59 rfl 31 rfl sc_law_source (fun _ _ _ _ h => h.1) (fun _ _ _ _ _ _ us hl => match us, hl with | [_, _], _ => rfl) (fun cdv A outer s H vs Q E hr h => ?_)
  have nd := sc_law_source.nd
  have hu := hu_of hr
  refine ⟨_, (pss_cons (ps_if (pt_cmpR op_eq (pe_cal G_law_draw (hr.mono (by decide)) (pa_cons (pv 0) (pa_cons pe_int pa_nil))) pe_int (nomark _)) (pss_cons (ps_set (i := 2) nd rfl (Or.inl rfl) (pe_cal G_law_spec (hr.mono (by decide)) (pa_cons (pv 0) pa_nil)))
      (pss_cons (ps_set (i := 3) nd rfl (Or.inl rfl) (pe_ix (ix_listK (K := K)) (pv 2) pe_int (fun _ _ => rfl)))
      (pss_cons (ps_for PassesOwn.never rfl (pi_range1 rfl T.f_range (pa_cons pe_int pa_nil)) (pg_name (i := 4) nd rfl (Or.inl rfl)) (pss_one (ps_if (PW.pt (pw_and (pt_cmpR op_gt (pv 3) pe_int (nomark _)) (pw_and1 (pt_cmpR op_gt (pe_callB (call_lenK (K := K)) (by rfl) T.f_len (by decide +kernel) (pa_cons (pe_cal G_law_words (hr.mono (by decide)) (pa_cons (pv 2) (pa_cons (pv 3) pa_nil))) pa_nil)) (pv 1) (nomark _))))) (pss_one (ps_set (i := 3) nd rfl (Or.inl rfl) (pe_op op_sub (pv 3) pe_int))) pss_nil)))
      (pss_one (ps_ret (pe_lst (pa_cons (pe_mak G_Machine___init (hr.mono (by decide)) (pa_cons (pe_ix (ix_listK (K := K)) (pv 2) pe_int (fun _ _ => rfl)) (pa_cons (pe_ix (ix_listK (K := K)) (pv 2) pe_int (fun _ _ => rfl)) (pa_cons (pe_ix (ix_listK (K := K)) (pv 2) pe_int (fun _ _ => rfl)) (pa_cons (pv 3) pa_nil))))) (pa_cons (pe_cal G_law_words (hr.mono (by decide)) (pa_cons (pv 2) (pa_cons (pv 3) pa_nil))) pa_nil)))))))) pss_nil)
      (pss_cons (ps_set (i := 5) nd rfl (Or.inl rfl) (pe_cal G_law_pairs (hr.mono (by decide)) (pa_cons (pv 0) (pa_cons (pv 1) pa_nil))))
      (pss_one (ps_ret (pe_lst (pa_cons (pe_mak G_Table___init (hr.mono (by decide)) (pa_cons (pv 5) pa_nil)) (pa_cons (pe_callB cr_sortedW (by rfl) T.f_sorted (by decide +kernel) (pa_cons (pv 5) pa_nil)) pa_nil))))))), ?_⟩
  obtain ⟨_, a, l, rfl, hS, k⟩ := h
  refine ⟨_, rfl, rfl, a, l, _, rfl, hS, by decide, fun r H1 r0 r1 s1 => ⟨rfl, _, rfl, ?_⟩⟩
  refine ite2 (fun _ => ?_) (fun _ => ?_)
  · -- a machine
    refine ⟨_, rfl, rfl, a, l, rfl, s1.2, fun o z st rows len H2 s2 ho mok len0 len3 => ?_⟩
    have hs := Mo.up same_fr ho
    obtain ⟨so, ra, rfl, hso, hra⟩ := id hs
    dsimp only at hso hra
    have s02 := s1.trans s2
    refine ⟨_, rfl, so, _, 3, _, rfl, rfl, SqL.of hso, rfl, ?_⟩
    obtain ⟨U, hU⟩ : ∃ U : Int, U = unitN rows := ⟨_, rfl⟩
    obtain ⟨L0, rfl⟩ : ∃ L0 : Nat, len = (L0 : Int) := ⟨len.toNat, by omega⟩
    refine ⟨3, rfl, by decide, by decide, for_range (lo := 0) (n := 3) (fun i σ H' => ∃ (L : Nat) (u4 : Option V), σ = [some (.ref a), some (.int 6), some (.ref so), some (.int (L : Int)), u4, none] ∧ L ≤ 3 ∧ Same H2 H' ∧ (1 ≤ i → (lv z.cps.toList rows (unitN rows) st L).length ≤ 20)) ⟨L0, none, rfl, by omega, Same.refl _, fun h => absurd h (by decide)⟩ ?_ ?_⟩
    · rintro i σ H3 hi ⟨L, u4, rfl, L3, e3, few⟩
      refine ⟨_, rfl, _, _, rfl, rfl, _, rfl, ?_⟩
      have lf := fun k => lv_few (U := unitN rows) mok k
      by_cases c : (L : Int) > 0
      · refine iteD c ⟨_, rfl, _, rfl, rfl, .ref so, z, st, rows, (L0 : Int), L, rfl, Mo.up e3 hs, mok, L3, fun v H4 e4 hv => ?_⟩
        obtain ⟨p, vs, rfl, hp, hw⟩ := Mo.up same_fr hv
        have wl := paired_len hw
        have wl2 : (wds (lv z.cps.toList rows (unitN rows) st L)).length = (lv z.cps.toList rows (unitN rows) st L).length := by unfold wds; rw [List.length_map]
        refine ⟨p, _, rfl, .inl (SqL.of hp), _, rfl, _, _, rfl, rfl, _, rfl, ?_⟩
        by_cases c2 : (vs.length : Int) > 6
        · obtain ⟨M, rfl⟩ : ∃ M : Nat, L = M + 1 := ⟨L - 1, by omega⟩
          have lfm := lf M
          have : 3 ^ M ≤ 3 ^ 2 := Nat.pow_le_pow_right (by decide) (by omega)
          exact iteD c2 ⟨_, rfl, _, _, rfl, rfl, M, _, by rw [show ((M : Nat) : Int) = ((M + 1 : Nat) : Int) - 1 by omega]; rfl, by omega, e3.trans e4, fun _ => by omega⟩
        · exact iteN c2 ⟨L, _, rfl, L3, e3.trans e4, fun _ => by omega⟩
      · have : L = 0 := by omega
        subst this
        exact iteN c ⟨0, _, rfl, L3, e3, fun _ => Nat.le_trans (lf 0) (by decide)⟩
    · rintro σ H3 ⟨L, u4, rfl, L3, e3, few⟩
      have few := few (by decide)
      have hso3 := e3 _ _ hso
      obtain ⟨wok, _, _⟩ := mach_ok mok rfl L3 few
      refine ⟨_, rfl, so, _, 0, _, rfl, rfl, SqL.of hso3, rfl, _, rfl, so, _, 1, _, rfl, rfl, SqL.of hso3, rfl, _, rfl, so, _, 2, _, rfl, rfl, SqL.of hso3, rfl, _, rfl, fun x dx nx ndx ne => machine_make nx ndx ne (Mo.up e3 hra) mok L3 few fun H4 e4 hsrc => ⟨rfl, ?_⟩⟩
      refine ⟨_, rfl, _, rfl, rfl, .ref so, z, st, rows, (L0 : Int), L, rfl, Mo.up (e3.trans e4) hs, mok, L3, fun v H5 e5 hv => ⟨by show 2 ≤ sizeLine; decide, fun oo hoo => ?_⟩⟩
      have e6 : Same H5 (upd H5 oo (.lst [.ref x, v])) := same_new hoo
      have s6 := s02.more (((e3.trans e4).trans e5).trans e6)
      exact k oo (.ref x) v _ _ s6 upd_same (st_src s6.2 (Mo.up (same_fr.trans (e5.trans e6)) hsrc)) (st_ws s6.2 (Mo.up (same_fr.trans e6) hv)) wok
  · -- a table
    refine ⟨_, rfl, _, rfl, rfl, a, l, 6, rfl, by decide, by decide, s1.2, fun v us H2 s2 hv nd1 len1 ne1 bnd => ?_⟩
    have hv2 := Mo.up same_fr hv
    have s02 := s1.trans s2
    obtain ⟨p, vs, rfl, hp, hw⟩ := id hv2
    refine ⟨_, rfl, fun x dx nx ndx ne => table_make nx ndx ne hv2 nd1 (fun y hy => (bnd y hy).1) (by omega) (List.Perm.refl _) fun H3 e3 hsrc => ⟨rfl, ?_⟩⟩
    refine ⟨_, rfl, p, vs, us, rfl, SqL.of (e3 _ _ hp), paired_up hw fun _ _ => Mo.up e3, nd1, fun vs' ws' p' hw' pm so hp' => ⟨by show 2 ≤ sizeLine; decide, fun oo hoo => ?_⟩⟩
    have e4 : Same H3 (upd H3 p' (.lst vs')) := same_new hp'
    have e5 : Same (upd H3 p' (.lst vs')) (upd (upd H3 p' (.lst vs')) oo (.lst [.ref x, .ref p'])) := same_new hoo
    have s5 := s02.more ((e3.trans e4).trans e5)
    refine k oo (.ref x) (.ref p') ws' _ s5 upd_same (st_src s5.2 (src_perm pm.symm (Mo.up (same_fr.trans (e4.trans e5)) hsrc))) (st_ws s5.2 ⟨p', vs', rfl, e5 _ _ upd_same, paired_up hw' fun _ _ => Mo.up (e4.trans e5)⟩) ⟨so, fun y hy => (bnd y (pm.mem_iff.mp hy)).1, fun z => ne1 ?_, by rw [pm.length_eq]; exact len1⟩
    rw [z] at pm; exact pm.symm.eq_nil
theorem sc_law_small_source : FnScope ["_law_state", "_law_most", "_law_source_here", "_law_words_here", "_law_word"] ["_law_state", "_law_most"] (defScope s_law_small_source) := ⟨rfl, rfl, rfl, by decide +kernel, rfl, by decide +kernel, by decide +kernel⟩
theorem c_law_small_source (T : Tx K mg) (G_law_source : Cal P w K mg base 5 "_law_source" ["_law_state", "_law_most"] (sp_law_source K)) (G_Table___init : Mak P w K mg base 2 "Table" (He.ga K "Table") ["self", "pairs"] (sp_Table___init K)) : Cal P w K mg base 6 "_law_small_source" ["_law_state", "_law_most"] (sp_law_small_source K) := by
  refine T.cal 67 rfl 39 rfl sc_law_small_source (fun _ _ _ _ h => h.1) (fun _ _ _ _ _ _ us hl => match us, hl with | [_, _], _ => rfl) (fun cdv A outer s H vs Q E hr h => ?_)
  have nd := sc_law_small_source.nd
  have hu := hu_of hr
  refine ⟨_, (pss_cons (ps_asg (pe_cal G_law_source (hr.mono (by decide)) (pa_cons (pv 0) (pa_cons (pv 1) pa_nil))) (pg_unl rfl (pgs_cons (pg_name (i := 2) nd rfl (Or.inl rfl)) (pgs_cons (pg_name (i := 3) nd rfl (Or.inl rfl)) pgs_nil))))
      (pss_cons (ps_if (pt_cmpR op_lt (pe_callB (cr_max rfl) (by rfl) T.f_max (by decide +kernel) (pa_cons (pe_lc (own := [("_law_word", 4)]) (g := (gName 4)) (tt := tYes) (by rfl) nd (pi_list (pv 3)) (blkOk_by (own := [("_law_word", 4)]) (N := ["_law_state", "_law_most", "_law_source_here", "_law_words_here", "_law_word"]) (sc := defScope s_law_small_source) (by decide +kernel)) (fun _ _ _ _ _ => (pg_name (i := 4) nd rfl (Or.inl rfl))) (fun _ _ _ _ _ => pts_nil) (fun _ _ _ _ _ => (pe_ix (ix_tupK (K := K)) (pv 4) pe_int (fun _ _ => rfl)))) pa_nil)) (pe_op op_pow pe_int pe_int) (nomark _)) (pss_one (ps_ret (pe_lst (pa_cons (pv 2) (pa_cons (pv 3) pa_nil))))) pss_nil)
      (pss_cons (ps_setLc (i := 3) (own := [("_law_word", 4)]) (g := (gName 4)) (tt := tYes) (by rfl) nd rfl rfl (sw_true rfl rfl rfl (by decide +kernel)) (pi_list (pv 3)) (blkOk_by (own := [("_law_word", 4)]) (N := ["_law_state", "_law_most", "_law_source_here", "_law_words_here", "_law_word"]) (sc := defScope s_law_small_source) (by decide +kernel)) (fun _ _ _ _ _ => (pg_name (i := 4) nd rfl (Or.inl rfl))) (fun _ _ _ _ _ => pts_nil) (fun _ _ _ _ _ => (pe_tup (pa_cons (pe_ix (ix_tupK (K := K)) (pv 4) pe_int (fun _ _ => rfl)) (pa_cons (pe_op op_add pe_int (pe_op op_mod (pe_callTy call_int1 (by rfl) T.f_int (by decide +kernel) (pa_cons (pe_ix (ix_tupK (K := K)) (pv 4) pe_int (fun _ _ => rfl)) pa_nil)) (pe_op op_sub (pe_op op_pow pe_int pe_int) pe_int))) pa_nil)))))
      (pss_one (ps_ret (pe_lst (pa_cons (pe_mak G_Table___init (hr.mono (by decide)) (pa_cons (pv 3) pa_nil)) (pa_cons (pv 3) pa_nil)))))))), ?_⟩
  obtain ⟨_, a, l, rfl, hS, k⟩ := h
  refine ⟨_, rfl, _, rfl, rfl, a, l, rfl, hS, fun o u v ws H1 s1 ho hu hv wok => ⟨o, _, rfl, SqL.of ho, rfl, _, _, rfl, _, _, rfl, rfl, ?_⟩⟩
  have few := wok.few
  obtain ⟨p, vs, rfl, hp, hw⟩ := Mo.up same_hid hv
  have wl := paired_len hw
  -- the greatest weight
  refine ⟨_, rfl, p, rfl, ⟨_, SqL.of hp⟩, fun C hC => ?_⟩
  refine lc_new (n := vs.length) walk_list (stepS H1) RInt (fun i bs => bs = (ws.map (·.2)).take i) hC (fun H' e => SqL.of (e _ _ hp)) (fun i H x H' y => yAt_same y) (by rw [wl]; exact sz_lt (by omega)) rfl (fun i x bs G1 G2 Kc Rc hi hb e1 e2 _ hy k1 _ => ?_) (fun H2 ys bs e2 hv2 hr2 hb2 => ?_)
  · obtain ⟨y, hy2, ⟨z, u1, u2, rfl, hz, r1, rfl⟩⟩ := paired_get hw hy.2
    refine ⟨rfl, yes_t ⟨_, rfl, z, _, 1, _, rfl, rfl, SqT.of (e2 _ _ hz), rfl, k1 y.2 _ _ (Same.refl _) rfl ?_⟩⟩
    rw [hb, take_more]
    rw [List.getElem?_map, hy2]; rfl
  rw [wl, List.take_of_length_le (by rw [List.length_map]; exact Nat.le_refl _)] at hb2
  subst hb2
  have hC2 := same_fr _ _ (lstI_at hr2)
  have w0 : 0 < ws.length := List.length_pos_iff.mpr wok.one
  refine ⟨C, _, rfl, SqL.of hC2, by rw [List.length_map]; exact w0, fun m hm hmax => ?_⟩
  refine ⟨_, _, rfl, rfl, ⟨by decide, by decide, by decide⟩, _, _, rfl, rfl, _, rfl, ?_⟩
  by_cases c : m < 10 ^ 12
  · refine iteD c ⟨_, rfl, _, rfl, by show 2 ≤ sizeLine; decide, fun oo hoo => ?_⟩
    have s2 := s1.more (e2.trans (same_new (o := .lst [u, .ref p]) hoo))
    have e3 : Same (hid a H1) (hid a (upd H2 oo (.lst [u, .ref p]))) := same_hid_up (e2.trans (same_new hoo))
    refine k oo u (.ref p) ws _ s2 upd_same (Mo.up e3 hu) (Mo.up e3 hv) wok fun x hx => ?_
    have := hmax x.2 (List.mem_map.mpr ⟨x, hx, rfl⟩)
    omega
  · refine iteN c ?_
    -- lesser ones
    obtain ⟨ws2, hws2⟩ : ∃ ws2 : Ws, ws2 = ws.map fun x => (x.1, 1 + x.2 % (10 ^ 12 - 1)) := ⟨_, rfl⟩
    have wl2 : ws2.length = ws.length := by rw [hws2, List.length_map]
    have wk : ws2.map (·.1) = ws.map (·.1) := by rw [hws2, List.map_map]; rfl
    have wb : ∀ x ∈ ws2, 1 ≤ x.2 ∧ x.2 ≤ 10 ^ 12 := fun x hx => by
      rw [hws2] at hx
      obtain ⟨y, hy, rfl⟩ := List.mem_map.mp hx
      dsimp only
      omega
    refine ⟨_, rfl, p, rfl, ⟨_, SqL.of (e2 _ _ hp)⟩, fun D hD => ?_⟩
    refine lc_new (n := vs.length) walk_list (stepS H2) (RPr RStr RInt) (fun i bs => bs = ws2.take i) hD (fun H' e => SqL.of (e _ _ (e2 _ _ hp))) (fun i H x H' y => yAt_same y) (by rw [wl]; exact sz_lt (by omega)) rfl (fun i x bs G1 G2 Kc Rc hi hb f1 f2 _ hy k1 _ => ?_) (fun H3 ys3 bs3 e3 hv3 hr3 hb3 => ?_)
    · obtain ⟨⟨t, n⟩, hy2, ⟨z, u1, u2, rfl, hz, rfl, rfl⟩⟩ := paired_get hw hy.2
      have hzG := f2 _ _ (e2 _ _ hz)
      refine ⟨rfl, yes_t ⟨_, rfl, z, _, 0, _, rfl, rfl, SqT.of hzG, rfl, _, rfl, z, _, 1, _, rfl, rfl, SqT.of hzG, rfl, .inl ⟨_, rfl, _, _, rfl, rfl, ⟨by decide, by decide, by decide⟩, _, _, rfl, rfl, _, _, rfl, rfl, (by show (0 : Int) < 10 ^ 12 - 1; decide), _, _, rfl, rfl, by show 2 ≤ sizeLine; decide, fun T2 hT2 => k1 (t, 1 + n % (10 ^ 12 - 1)) _ _ (same_new hT2) ⟨T2, .str t, .int (1 + n % (10 ^ 12 - 1)), rfl, by rw [fr_at hT2, upd_same]; rfl, rfl, rfl⟩ ?_⟩⟩⟩
      rw [hb, take_more]
      rw [hws2, List.getElem?_map, hy2]; rfl
    · rw [wl, ← wl2, List.take_length] at hb3
      subst hb3
      have hr3' := Mo.up same_fr hr3
      have s3 := s1.more (e2.trans e3)
      refine ⟨_, rfl, fun x dx nx ndx ne => table_make nx ndx ne hr3' (by rw [wk]; exact wok.st.nodup) (fun y hy => (wb y hy).1) (by omega) (List.Perm.refl _) fun H4 e4 hsrc => ⟨rfl, _, rfl, by show 2 ≤ sizeLine; decide, fun oo hoo => ?_⟩⟩
      have e5 : Same H4 (upd H4 oo (.lst [.ref x, .ref D])) := same_new hoo
      have s5 := s3.more (e4.trans e5)
      refine k oo (.ref x) (.ref D) bs3 _ s5 upd_same (st_src s5.2 (Mo.up (same_fr.trans e5) hsrc)) (st_ws s5.2 (Mo.up (e4.trans e5) hr3')) ⟨by rw [wk]; exact wok.st, fun y hy => (wb y hy).1, fun z => ?_, by omega⟩ fun y hy => (wb y hy).2
      rw [z] at wl2
      have : (0 : Nat) = ws.length := wl2
      omega
end
end MH
/-! part D36 -/
set_option Elab.async false
set_option linter.all false
set_option maxRecDepth 100000
set_option maxHeartbeats 6000000
namespace MH
open PySem PySem.Spec PyProof.Rows L2
/-- a level that fits -/
structure LvAt (H : Hp) (o : Addr) (ws : Ws) (pool : List Str) (es : Ents) (p q : Int) : Prop where
  at_ : H o = some (.lst [.int p, .int q])
  p0 : 0 < p
  q0 : 0 < q
  pb : Bd 100 p
  qb : Bd 100 q
  fit : Fit ws (shr p q) pool es
theorem LvAt.up {H H' : Hp} {o : Addr} {ws : Ws} {pool : List Str} {es : Ents} {p q : Int} (e : Same H H') (h : LvAt H o ws pool es p q) : LvAt H' o ws pool es p q := ⟨e _ _ h.at_, h.p0, h.q0, h.pb, h.qb, h.fit⟩
theorem lv_bd {us : Ws} {t p q : Int} (h : LvOk us t p q) : 0 < p ∧ 0 < q ∧ Bd 100 p ∧ Bd 100 q := by
  have a := h.p1
  have b := h.q1
  have c := h.pb
  have d := h.qb
  refine ⟨by omega, by omega, ?_, ?_⟩ <;> (unfold Bd; omega)
section
variable {P : Program} {w : World} {K : Fr} {mg : Str → Option Value} {base : Heap}
def sp_law_body (K : Fr) : Sp := spx 1 fun vs H Q _ => ∃ (b : Addr) (ns : List Int), vs = [.ref b] ∧ SqL K H b (ns.map V.int) ∧ ∀ H', Q (.bl true) H'
theorem sc_law_body : FnScope ["_law_script", "_law_state", "_law_source_here", "_law_words_here", "_law_pool_here", "_law_rows_here", "_law_parts", "_law_entries", "_law_sums_here", "_law_total", "_law_first", "_law_second", "_law_marking", "_law_changed", "_law_told_here", "_law_level_here", "_law_again", "_law_part", "_law_entry", "_law_k"] ["_law_script"] (defScope s_law_body) := ⟨rfl, rfl, rfl, by decide +kernel, rfl, by decide +kernel, by decide +kernel⟩
theorem c_law_body (T : Tx K mg) (G_law_start : Cal P w K mg base 1 "_law_start" ["_law_script"] (sp_law_start K)) (G_law_small_source : Cal P w K mg base 6 "_law_small_source" ["_law_state", "_law_most"] (sp_law_small_source K)) (G_law_pool : Cal P w K mg base 4 "_law_pool" ["_law_state", "_law_words_here", "_law_most"] sp_law_pool) (G_law_rows : Cal P w K mg base 2 "_law_rows" ["_law_state", "_law_words_here", "_law_pool_here"] sp_law_rows) (G_law_split : Cal P w K mg base 3 "_law_split" ["_law_state", "_law_words_here"] sp_law_split) (G_law_accused : Cal P w K mg base 2 "_law_accused" ["_law_state", "_law_readable", "_law_pool_here"] sp_law_accused) (G_law_of : Cal P w K mg base 1 "_law_of" ["_law_rows_here", "_law_text_here"] sp_law_of) (G_law_sums : Cal P w K mg base 1 "_law_sums" ["_law_entries"] sp_law_sums) (G_law_level : Cal P w K mg base 2 "_law_level" ["_law_state", "_law_sums_here", "_law_total"] sp_law_level) (G_Marking___init : Mak P w K mg base 1 "Marking" (He.ga K "Marking") ["self", "entries"] (sp_Marking___init K)) (G_Changes___init : Mak P w K mg base 1 "Changes" (He.ga K "Changes") ["self", "rows"] (sp_Changes___init K)) (G_gap : Cal P w K mg base 9 "gap" ["source", "changes", "level", "marking"] (sp_gap K)) (G_Share___init : Mak P w K mg base 2 "Share" (He.ga K "Share") ["self", "over", "under"] (sp_Share___init K)) (G_seen_at : Cal P w K mg base 5 "seen_at" ["source", "marking"] (sp_seen_at K)) (G_law_told : Cal P w K mg base 10 "_law_told" ["_law_source_here", "_law_changed", "_law_level_here", "_law_marking", "_law_entries", "_law_words_here", "_law_rows_here"] (sp_law_told K)) (G_law_good : Cal P w K mg base 2 "_law_good" ["_law_share"] (sp_law_good K)) : Cal P w K mg base 11 "_law_body" ["_law_script"] (sp_law_body K) := by
  refine T.cal 76 rfl 48 rfl sc_law_body (fun _ _ _ _ h => h.1) (fun _ _ _ _ _ _ us hl => match us, hl with | [_], _ => rfl) (fun cdv A outer s H vs Q E hr h => ?_)
  have nd := sc_law_body.nd
  have hu := hu_of hr
  refine ⟨_, (pss_cons (ps_set (i := 1) nd rfl (Or.inr rfl) (pe_cal G_law_start (hr.mono (by decide)) (pa_cons (pv 0) pa_nil)))
      (pss_cons (ps_asg (pe_cal G_law_small_source (hr.mono (by decide)) (pa_cons (pv 1) (pa_cons pe_int pa_nil))) (pg_unl rfl (pgs_cons (pg_name (i := 2) nd rfl (Or.inl rfl)) (pgs_cons (pg_name (i := 3) nd rfl (Or.inl rfl)) pgs_nil))))
      (pss_cons (ps_set (i := 4) nd rfl (Or.inr rfl) (pe_cal G_law_pool (hr.mono (by decide)) (pa_cons (pv 1) (pa_cons (pv 3) (pa_cons pe_int pa_nil)))))
      (pss_cons (ps_set (i := 5) nd rfl (Or.inr rfl) (pe_cal G_law_rows (hr.mono (by decide)) (pa_cons (pv 1) (pa_cons (pv 3) (pa_cons (pv 4) pa_nil)))))
      (pss_cons (ps_set (i := 6) nd rfl (Or.inl rfl) (pe_cal G_law_split (hr.mono (by decide)) (pa_cons (pv 1) (pa_cons (pv 3) pa_nil))))
      (Evl.pss_cut (ps_setLc (i := 7) (own := [("_law_part", 17)]) (g := (gName 17)) (tt := tYes) (by rfl) nd rfl rfl (sw_true rfl rfl rfl (by decide +kernel)) (pi_list (pv 6)) (blkOk_by (own := [("_law_part", 17)]) (N := ["_law_script", "_law_state", "_law_source_here", "_law_words_here", "_law_pool_here", "_law_rows_here", "_law_parts", "_law_entries", "_law_sums_here", "_law_total", "_law_first", "_law_second", "_law_marking", "_law_changed", "_law_told_here", "_law_level_here", "_law_again", "_law_part", "_law_entry", "_law_k"]) (sc := defScope s_law_body) (by decide +kernel)) (fun _ _ _ _ _ => (pg_name (i := 17) nd rfl (Or.inl rfl))) (fun _ _ _ _ _ => pts_nil) (fun _ _ _ _ _ => (pe_tup (pa_cons (pe_ix (ix_tupK (K := K)) (pv 17) pe_int (fun _ _ => rfl)) (pa_cons (pe_ix (ix_tupK (K := K)) (pv 17) pe_int (fun _ _ => rfl)) (pa_cons (pe_cal G_law_accused (hr.mono (by decide)) (pa_cons (pv 1) (pa_cons (pe_cal G_law_of (hr.mono (by decide)) (pa_cons (pv 5) (pa_cons (pe_ix (ix_tupK (K := K)) (pv 17) pe_int (fun _ _ => rfl)) pa_nil))) (pa_cons (pv 4) pa_nil)))) pa_nil))))))
      (pss_cons (ps_set (i := 8) nd rfl (Or.inl rfl) (pe_cal G_law_sums (hr.mono (by decide)) (pa_cons (pv 7) pa_nil)))
      (pss_cons (ps_set (i := 9) nd rfl (Or.inl rfl) (pe_callB (cr_sum rfl) (by rfl) T.f_sum (by decide +kernel) (pa_cons (pe_lc (own := [("_law_entry", 18)]) (g := (gName 18)) (tt := tYes) (by rfl) nd (pi_list (pv 7)) (blkOk_by (own := [("_law_entry", 18)]) (N := ["_law_script", "_law_state", "_law_source_here", "_law_words_here", "_law_pool_here", "_law_rows_here", "_law_parts", "_law_entries", "_law_sums_here", "_law_total", "_law_first", "_law_second", "_law_marking", "_law_changed", "_law_told_here", "_law_level_here", "_law_again", "_law_part", "_law_entry", "_law_k"]) (sc := defScope s_law_body) (by decide +kernel)) (fun _ _ _ _ _ => (pg_name (i := 18) nd rfl (Or.inl rfl))) (fun _ _ _ _ _ => pts_nil) (fun _ _ _ _ _ => (pe_ix (ix_tupK (K := K)) (pv 18) pe_int (fun _ _ => rfl)))) pa_nil)))
      (pss_cons (ps_set (i := 10) nd rfl (Or.inl rfl) (pe_cal G_law_level (hr.mono (by decide)) (pa_cons (pv 1) (pa_cons (pv 8) (pa_cons (pv 9) pa_nil)))))
      (pss_cons (ps_set (i := 11) nd rfl (Or.inl rfl) (pe_cal G_law_level (hr.mono (by decide)) (pa_cons (pv 1) (pa_cons (pv 8) (pa_cons (pv 9) pa_nil)))))
      (pss_cons (ps_set (i := 12) nd rfl (Or.inl rfl) (pe_mak G_Marking___init (hr.mono (by decide)) (pa_cons (pv 7) pa_nil)))
      (Evl.pss_cut (ps_set (i := 13) nd rfl (Or.inl rfl) (pe_mak G_Changes___init (hr.mono (by decide)) (pa_cons (pe_lc (own := [("_law_k", 19)]) (g := (gName 19)) (tt := tYes) (by rfl) nd (pi_range1 rfl T.f_range (pa_cons (pe_callB (call_lenK (K := K)) (by rfl) T.f_len (by decide +kernel) (pa_cons (pv 5) pa_nil)) pa_nil)) (blkOk_by (own := [("_law_k", 19)]) (N := ["_law_script", "_law_state", "_law_source_here", "_law_words_here", "_law_pool_here", "_law_rows_here", "_law_parts", "_law_entries", "_law_sums_here", "_law_total", "_law_first", "_law_second", "_law_marking", "_law_changed", "_law_told_here", "_law_level_here", "_law_again", "_law_part", "_law_entry", "_law_k"]) (sc := defScope s_law_body) (by decide +kernel)) (fun _ _ _ _ _ => (pg_name (i := 19) nd rfl (Or.inl rfl))) (fun _ _ _ _ _ => pts_nil) (fun _ _ _ _ _ => (pe_ix (ix_listK (K := K)) (pv 5) (pe_op op_sub (pe_op op_sub (pe_callB (call_lenK (K := K)) (by rfl) T.f_len (by decide +kernel) (pa_cons (pv 5) pa_nil)) pe_int) (pv 19)) (fun _ _ => rfl)))) pa_nil)))
      (pss_cons (ps_set (i := 14) nd rfl (Or.inl rfl) (pe_cal G_gap (hr.mono (by decide)) (pa_cons (pv 2) (pa_cons (pv 13) (pa_cons (pe_mak G_Share___init (hr.mono (by decide)) (pa_cons (pe_ix (ix_listK (K := K)) (pv 10) pe_int (fun _ _ => rfl)) (pa_cons (pe_ix (ix_listK (K := K)) (pv 10) pe_int (fun _ _ => rfl)) pa_nil))) (pa_cons (pv 12) pa_nil))))))
      (pss_cons (ps_for PassesOwn.never rfl (pi_list (pe_lst (pa_cons (pv 11) (pa_cons (pv 10) pa_nil)))) (pg_name (i := 15) nd rfl (Or.inl rfl)) (pss_cons (ps_if (pt_cmpR op_notN (pe_cal G_seen_at (hr.mono (by decide)) (pa_cons (pv 2) (pa_cons (pv 12) pa_nil))) pe_non (nomark _)) (pss_one (ps_ret pe_bl)) pss_nil)
      (pss_one (ps_if (pt_not (pt_val (pe_cal G_law_told (hr.mono (by decide)) (pa_cons (pv 2) (pa_cons (pv 13) (pa_cons (pv 15) (pa_cons (pv 12) (pa_cons (pv 7) (pa_cons (pv 3) (pa_cons (pv 5) pa_nil)))))))))) (pss_one (ps_ret pe_bl)) pss_nil))))
      (pss_cons (ps_set (i := 16) nd rfl (Or.inl rfl) (pe_cal G_gap (hr.mono (by decide)) (pa_cons (pv 2) (pa_cons (pv 13) (pa_cons (pe_mak G_Share___init (hr.mono (by decide)) (pa_cons (pe_ix (ix_listK (K := K)) (pv 10) pe_int (fun _ _ => rfl)) (pa_cons (pe_ix (ix_listK (K := K)) (pv 10) pe_int (fun _ _ => rfl)) pa_nil))) (pa_cons (pv 12) pa_nil))))))
      (pss_one (ps_ret (pe_and (pe_cal G_law_good (hr.mono (by decide)) (pa_cons (pv 14) pa_nil)) (pe_and (pe_cal G_law_good (hr.mono (by decide)) (pa_cons (pv 16) pa_nil)) (pe_one (pe_cmpR op_eq (pe_op op_mulW (pe_fldK (K := K) (pv 14) rfl) (pe_fldK (K := K) (pv 16) rfl)) (pe_op op_mulW (pe_fldK (K := K) (pv 16) rfl) (pe_fldK (K := K) (pv 14) rfl)) (nomark _)))))))))))))))))))))), ?_⟩
  obtain ⟨_, b, ns, rfl, hb, k⟩ := h
  -- the state, the source, the pool, the rows, the parts
  refine ⟨_, rfl, rfl, b, ns, rfl, hb, fun a l H1 _ _ _ hS1 => ?_⟩
  refine ⟨_, rfl, rfl, a, l, rfl, hS1, fun o u v ws H2 s2 ho hu2 hv2 wok w12 => ⟨o, _, rfl, SqL.of ho, rfl, _, _, rfl, _, _, rfl, rfl, ?_⟩⟩
  have few := wok.few
  clear ho hb
  refine ⟨_, rfl, _, rfl, rfl, a, l, v, ws, 6, rfl, by decide, by decide, s2.2, hv2, wok.st.nodup, by omega, fun pu ex H3 s3 hpu3 ndp exl => ?_⟩
  obtain ⟨⟨oa2, hoa2⟩, _, _⟩ := s2.2.get
  have hpu3 := Mo.up (same_fr_hid hoa2) hpu3
  refine ⟨_, rfl, _, rfl, _, rfl, rfl, a, l, v, pu, ws, ex, rfl, s3.2, Mo.up s3.1 hv2, hpu3, ndp, wok.one, by omega, exl, fun rv rows H4 s4 hrv4 ro => ?_⟩
  obtain ⟨⟨oa3, hoa3⟩, _, _⟩ := s3.2.get
  have hrv4 := Mo.up (same_fr_hid hoa3) hrv4
  refine ⟨_, rfl, _, rfl, rfl, a, l, v, ws, rfl, s4.2, Mo.up (s3.1.trans s4.1) hv2, fun x hx => ⟨wok.pos x hx, w12 x hx⟩, wok.one, by omega, fun pv_ f ps H5 s5 hps5 pok => ?_⟩
  obtain ⟨⟨oa4, hoa4⟩, _, _⟩ := s4.2.get
  have hps5 := Mo.up (same_fr_hid hoa4) hps5
  have hv5 := Mo.up ((s3.1.trans s4.1).trans s5.1) hv2
  have hu5 := Mo.up ((s3.1.trans s4.1).trans s5.1) hu2
  have hpu5 := Mo.up (s4.1.trans s5.1) hpu3
  have hrv5 := Mo.up s5.1 hrv4
  have S5 := s5.2
  clear hu2 hv2 hpu3 hrv4
  generalize hpool : ws.map (·.1) ++ ex = pool at *
  have plen : pool.length ≤ 30 := by rw [← hpool, List.length_append, List.length_map]; omega
  obtain ⟨pa, pvs, rfl, hpa, hpp⟩ := id hps5
  obtain ⟨npa, hpa5⟩ := hid_some hpa
  have pl := paired_len hpp
  have pfew := pok.few
  have kin : ∀ x ∈ ps, x.2 ∈ rows.map (·.1) := fun x hx => by
    obtain ⟨es, e⟩ := ro.first
    rw [e]; exact List.mem_append_left _ (pok.each x hx).2.2
  -- the entries
  refine ⟨fun σ H' => ∃ (D : Addr) (es : Ents), σ = [some (.ref b), some (.ref a), some u, some v, some pu, some rv, some (.ref pa), some (.ref D), none, none, none, none, none, none, none, none, none, none, none, none] ∧ StStep a l H5 H' ∧ REnts (hid a H') (.ref D) es ∧ prs es = ps ∧ (∀ x ∈ es, x.2.2.Nodup ∧ ∀ t ∈ x.2.2, t ∈ pool), ?_, ?_⟩
  · refine ⟨_, rfl, pa, rfl, ⟨_, SqL.of hpa5⟩, fun D hD => ?_⟩
    refine lc_new (n := pvs.length) walk_list (stepSt S5) (RTr RInt RStr (RLst RStr)) (fun i bs => prs bs = ps.take i ∧ ∀ x ∈ bs, x.2.2.Nodup ∧ ∀ t ∈ x.2.2, t ∈ pool) hD (fun H' f => SqL.of (keepS (f S5).1 npa hpa5)) (fun i H x H' y => (stepSt S5).same (yAt_same y)) (by rw [pl]; exact sz_lt (by omega)) ⟨rfl, fun _ h => absurd h List.not_mem_nil⟩ (fun i x bs G1 G2 Kc Rc hi hbs f1 f2 _ hy k1 _ => ?_) (fun H6 ys bs f6 hv6 hr6 hb6 => ?_)
    · obtain ⟨⟨n, t⟩, hy2, ⟨z, u1, u2, rfl, hz, rfl, rfl⟩⟩ := paired_get hpp hy.2
      have s := f2 S5
      obtain ⟨nza, hz5⟩ := hid_some hz
      have hzG := keepS s.1 nza hz5
      obtain ⟨r, hr, er⟩ := List.mem_map.mp (kin _ (List.mem_of_getElem? hy2))
      have er : r.1 = t := er
      have rk := ro.each r hr
      refine ⟨rfl, yes_t ⟨_, rfl, z, _, 0, _, rfl, rfl, SqT.of hzG, rfl, _, rfl, z, _, 1, _, rfl, rfl, SqT.of hzG, rfl, _, rfl, _, rfl, _, rfl, z, _, 1, _, rfl, rfl, SqT.of hzG, rfl, rfl, rv, rows, t, r, rfl, Mo.up same_hid (Mo.up s.1 hrv5), hr, er, ro.nd, fun ul hul => ⟨_, rfl, rfl, a, l, ul, pu, r.2, pool, rfl, s.2, st_str s.2 hul, Mo.up s.1 hpu5, rk.few, by omega, fun e => absurd rk.own (by rw [e]; exact List.not_mem_nil), rk.st.nodup, ndp, rk.sub, fun o ac G3 s3' ho ho0 nac sac => ?_⟩⟩⟩
      refine ⟨by show 3 ≤ sizeLine; decide, fun TT hT => ?_⟩
      have hT0 : G2 TT = none := freeS s3'.1 (s3'.2.fresh hT).1 hT
      have noT : o ≠ TT := ne_of_none ho hT
      refine k1 (n, t, ac) _ _ (fun _ => s3'.more (same_new hT)) ⟨TT, _, _, _, rfl, by rw [fr_at hT0, upd_same], rfl, rfl, RLst.of_strs (by rw [fr_at ho0, upd_ne noT]; exact ho)⟩ ⟨?_, fun y hy' => ?_⟩
      · rw [take_more hy2, ← hbs.1]; unfold prs; rw [List.map_append]; rfl
      · rcases List.mem_append.mp hy' with h | h
        · exact hbs.2 y h
        · rw [List.mem_singleton] at h; rw [h]; exact ⟨nac, sac⟩
    · obtain ⟨⟨oa5, hoa5⟩, _, _⟩ := S5.get
      rw [pl, List.take_length] at hb6
      exact ⟨D, bs, rfl, f6 S5, Mo.up (same_fr_hid hoa5) hr6, hb6.1, hb6.2⟩
  rintro σ H6 ⟨D, es, rfl, s6, hes6, ees, hac⟩
  -- the sums, the total
  have top : topE es = f * tot ws := by rw [← tops_prs, ees]; exact pok.all
  have totp := tot_pos wok.pos wok.one
  have totl := tot_le w12
  have f1 := pok.f1
  have f3 := pok.f3
  have esl : es.length = ps.length := by rw [← ees]; unfold prs; rw [List.length_map]
  have el60 : es.length ≤ 60 := by omega
  have tb : tot ws ≤ 20 * 10 ^ 12 := by
    have : (ws.length : Int) * 10 ^ 12 ≤ 20 * 10 ^ 12 := Int.mul_le_mul_of_nonneg_right (by omega) (by decide)
    omega
  have t1 : 1 ≤ topE es ∧ topE es ≤ 10 ^ 16 := by
    rw [top]
    have a1 : 1 * tot ws ≤ f * tot ws := Int.mul_le_mul_of_nonneg_right f1 (by omega)
    have a2 : f * tot ws ≤ 3 * tot ws := Int.mul_le_mul_of_nonneg_right f3 (by omega)
    omega
  have epos : ∀ e ∈ es, 1 ≤ e.1 := fun e he => (pok.each (e.1, e.2.1) (by rw [← ees]; exact List.mem_map.mpr ⟨e, he, rfl⟩)).1
  refine ⟨_, rfl, rfl, .ref D, es, pool, rfl, Mo.up same_hid hes6, hac, by omega, fun d us H7 e7 hd0 hd sok => ?_⟩
  have s7 := s6.more e7
  obtain ⟨nda, ndl⟩ := s6.2.fresh hd0
  have hes7 := Mo.up (same_hid_up e7) hes6
  have ul := sub_len sok.nd sok.sub
  rw [List.length_map] at ul
  have usb : ∀ x ∈ us, 0 ≤ x.2 ∧ x.2 ≤ topE es := fun x hx => by
    have := acs_le (t := x.1) epos
    rw [← sok.val, wof_some sok.nd (show (x.1, x.2) ∈ us from hx)] at this
    exact this
  obtain ⟨ea, evs, ee, hea, hep⟩ := id hes7
  cases ee
  obtain ⟨nDa, hea⟩ := hid_some hea
  have el := paired_len hep
  refine ⟨_, rfl, D, rfl, ⟨_, SqL.of hea⟩, fun C hC => ?_⟩
  refine lc_new (n := evs.length) walk_list (stepS H7) RInt (fun i bs => bs = (es.map (·.1)).take i) hC (fun H' e => SqL.of (e _ _ hea)) (fun i H x H' y => yAt_same y) (by rw [el]; exact sz_lt (by omega)) rfl (fun i x bs G1 G2 Kc Rc hi hb e1 e2 _ hy k1 _ => ?_) (fun H8 ys bs e8 hv8 hr8 hb8 => ?_)
  · obtain ⟨y, hy2, ⟨z, u1, u2, u3, rfl, hz, rfl, r2, r3⟩⟩ := paired_get hep hy.2
    refine ⟨rfl, yes_t ⟨_, rfl, z, _, 0, _, rfl, rfl, SqT.of (e2 _ _ (hid_some hz).2), rfl, k1 y.1 _ _ (Same.refl _) rfl ?_⟩⟩
    rw [hb, take_more]
    rw [List.getElem?_map, hy2]; rfl
  rw [el, List.take_of_length_le (by rw [List.length_map]; exact Nat.le_refl _)] at hb8
  subst hb8
  have hC8 := same_fr _ _ (lstI_at hr8)
  refine ⟨C, _, rfl, SqL.of hC8, ?_⟩
  rw [show (es.map (·.1)).sum = topE es from rfl]
  have s8 := s7.more e8
  have hd8 := e8 _ _ hd
  clear hd hea hep hr8 hv8
  -- the levels
  refine ⟨_, rfl, _, rfl, _, rfl, rfl, a, l, d, us, topE es, rfl, s8.2, nda, ndl, hd8, sok.nd, usb, by omega, t1.1, t1.2, fun o1 p1 q1 H9 s9 o10 ho1 lv1 => ?_⟩
  have hd9 := keepS s9.1 nda hd8
  obtain ⟨n1a, _⟩ := s8.2.fresh o10
  refine ⟨_, rfl, _, rfl, _, rfl, rfl, a, l, d, us, topE es, rfl, s9.2, nda, ndl, hd9, sok.nd, usb, by omega, t1.1, t1.2, fun o2 p2 q2 H10 s10 o20 ho2 lv2 => ?_⟩
  have ho1 := keepS s10.1 n1a ho1
  have s510 := ((s8.trans s9).trans s10).1
  have F1 := fit_of wok pok ees hac (by omega) sok lv1
  have F2 := fit_of wok pok ees hac (by omega) sok lv2
  obtain ⟨z1, z2, z3, z4⟩ := lv_bd lv1
  obtain ⟨z5, z6, z7, z8⟩ := lv_bd lv2
  have L1 : LvAt H10 o1 ws pool es p1 q1 := ⟨ho1, z1, z2, z3, z4, F1⟩
  have L2_ : LvAt H10 o2 ws pool es p2 q2 := ⟨ho2, z5, z6, z7, z8, F2⟩
  have hu10 := Mo.up same_hid (Mo.up s510 hu5)
  have hv10 := Mo.up same_hid (Mo.up s510 hv5)
  have hrv10 := Mo.up same_hid (Mo.up s510 hrv5)
  have hes10 : REnts H10 (.ref D) es := Mo.up same_hid (Mo.up (((same_hid_up e8).trans s9.1).trans s10.1) hes7)
  have bt : Bd 100 (tot ws) := by unfold Bd; omega
  clear hu5 hv5 hrv5 hpu5 hes6 hes7 hps5 hpa hpp hpa5
  clear s2 s3 s4 s5 s6 s7 s8 s9 s10 S5
  have eok := F1.ok
  -- the marking, the changes
  refine ⟨_, rfl, fun mx mdx nmx nmdx mne => marking_make nmx nmdx mne hes10 eok fun H11 e11 hm11 => ⟨rfl, ?_⟩⟩
  have hm11 := Mo.up same_fr hm11
  obtain ⟨ra, rvs, rfl, hra, hrp⟩ := Mo.up e11 hrv10
  have rl := paired_len hrp
  have rfew := ro.few
  refine ⟨fun σ H' => ∃ cv, σ = [some (.ref b), some (.ref a), some u, some v, some pu, some (.ref ra), some (.ref pa), some (.ref D), some (.ref d), some (.int (topE es)), some (.ref o1), some (.ref o2), some (.ref mx), some cv, none, none, none, none, none, none] ∧ Same H11 H' ∧ RChg K H' cv rows.reverse, ?_, ?_⟩
  · refine ⟨_, rfl, ra, _, rfl, .inl (SqL.of hra), _, rfl, by omega, by omega, fun Dc hDc => ?_⟩
    refine lc_rel (n := ((rvs.length : Nat) : Int).toNat) walk_range (stepS H11) (RPr RStr (RLst RStr)) (fun i bs => bs = rows.reverse.take i) (hid Dc) (fun H o => hid_upd) (fun H H' _ e => same_hid_up e) hDc (fun _ _ => trivial) (fun i H x H' y => yFn_same y) (by rw [Int.toNat_natCast]; exact sz_lt (by omega)) rfl (fun i x bs G1 G2 Kc Rc hi hbs f1 f2 _ hy k1 _ => ?_) (fun H12 ys bs e12 hv12 hr12 hb12 => ?_)
    · obtain ⟨rfl, rfl⟩ := hy
      rw [Int.toNat_natCast] at hi
      have hraG := f2 _ _ hra
      have ix : (((rvs.length : Nat) : Int) - 1 - (0 + (i : Int))) = ((rvs.length - 1 - i : Nat) : Int) := by omega
      have il : rvs.length - 1 - i < rvs.length := by omega
      have hrv : rvs[rvs.length - 1 - i]? = some (rvs[rvs.length - 1 - i]'il) := List.getElem?_eq_getElem il
      obtain ⟨row, hrow, hrr⟩ := paired_get hrp hrv
      refine ⟨rfl, yes_t ⟨_, rfl, _, rfl, ra, _, rfl, .inl (SqL.of hraG), _, _, rfl, rfl, _, rfl, _, _, rfl, rfl, _, _, _, rvs[rvs.length - 1 - i]'il, rfl, rfl, SqL.of hraG, by rw [ix]; exact atI_nat hrv, k1 row _ _ (Same.refl _) (Mo.up (same_to_hid f2 hDc) hrr) ?_⟩⟩
      rw [hbs, take_more]
      rw [List.getElem?_reverse (by omega), ← rl]; exact hrow
    · rw [Int.toNat_natCast, rl, List.take_of_length_le (by rw [List.length_reverse]; exact Nat.le_refl _)] at hb12
      subst hb12
      have hrr : RRows H12 (.ref Dc) rows.reverse := ⟨Dc, ys, rfl, hv12, paired_up hr12 fun _ _ => Mo.up same_hid⟩
      refine fun cx cdx ncx ncdx cne => changes_make ncx ncdx cne hrr (((rev_perm rows).map (·.1)).nodup_iff.mpr ro.nd) (fun r hr => ro.each r (List.mem_reverse.mp hr)) (by rw [List.length_reverse]; exact rfew) fun H13 e13 hc13 => ⟨rfl, .ref cx, rfl, e12.trans e13, Mo.up same_fr hc13⟩
  rintro σ H13 ⟨cv, rfl, e13, hc13⟩
  have e1013 := e11.trans e13
  have Bs : Bse K H13 u cv v (.ref ra) ws rows pool := ⟨Mo.up e1013 hu10, wok, bt, hc13, Mo.up e1013 hv10, Mo.up e1013 hrv10, ro, by omega⟩
  have hm13 := Mo.up e13 hm11
  have hes13 := Mo.up e1013 hes10
  have L1 := L1.up e1013
  have L2_ := L2_.up e1013
  clear hu10 hv10 hrv10 hes10 hm11 ho1 ho2 hd8 hd9
  have rl60 : rows.reverse.length ≤ 60 := by rw [List.length_reverse]; exact rfew
  have erv := rdOf_perm (rev_perm rows) Bs.nd
  have W1 := Bs.wel z1 z2
  have tp := topE_pos eok
  have bte := topE_bd eok
  have fl := fnd_le (rdOf rows) (es := es) epos
  have bf : Bd 60 (fnd (rdOf rows) es) := by unfold Bd at *; omega
  -- a gap
  refine ⟨_, rfl, _, rfl, _, rfl, o1, _, 0, _, rfl, rfl, SqL.of L1.at_, rfl, _, rfl, o1, _, 1, _, rfl, rfl, SqL.of L1.at_, rfl, fun x2 dx2 nx2 ndx2 ne2 => share_make nx2 ndx2 ne2 z2 (z4.mono (by decide)) fun H14 e14 hs14 => ⟨rfl, _, rfl, ?_⟩⟩
  refine ⟨rfl, u, cv, .ref x2, .ref mx, ws, rows.reverse, pool, shr p1 q1, es, rfl, (Bs.up e14).ask (Mo.up same_fr hs14) z1 z2 z3 z4, rl60, Mo.up e14 hm13, F1, fun D1 t1 g1 H15 e15 S1 hg1 => ?_⟩
  have S1 := Bs.slv S1
  rw [erv] at hg1
  have hg1 := Mo.up same_fr hg1
  have e1315 := e14.trans e15
  -- both levels
  refine ⟨_, rfl, _, rfl, by show 2 ≤ sizeLine; decide, fun L hL => ⟨L, rfl, ⟨_, SqL.of upd_same⟩, for_list (K := K) (xs := [.ref o2, .ref o1]) (fun i σ H' => ∃ u15, σ = [some (.ref b), some (.ref a), some u, some v, some pu, some (.ref ra), some (.ref pa), some (.ref D), some (.ref d), some (.int (topE es)), some (.ref o1), some (.ref o2), some (.ref mx), some cv, some g1, u15, none, none, none, none] ∧ Same H13 H' ∧ Same H15 H' ∧ H' L = some (.lst [.ref o2, .ref o1])) ⟨none, rfl, e1315.trans (same_new hL), same_new hL, upd_same⟩ (fun i σ H' _ ⟨_, _, _, _, h⟩ => SqL.of h) ?_ ?_⟩⟩
  · rintro i x σ H16 hi ⟨u15, rfl, e16, e1516, hL16⟩
    obtain ⟨oo, p, q, rfl, LL⟩ : ∃ oo p q, x = .ref oo ∧ LvAt H13 oo ws pool es p q := by
      rcases i with _ | _ | i
      · exact ⟨o2, p2, q2, (Option.some.inj hi).symm, L2_⟩
      · exact ⟨o1, p1, q1, (Option.some.inj hi).symm, L1⟩
      · cases hi
    obtain ⟨sp, rfl, hsp⟩ := id Bs.src
    obtain ⟨mp, em, hmp⟩ := id hm13
    cases em
    refine ⟨_, rfl, _, rfl, rfl, sp, mx, ws, es, rfl, hsp.imp (SrcAt.up e16) (SrcAt.up e16), wok, hmp.up e16, eok, bt.mono (by decide), F1.sub, F1.seen, fun H17 e17 => ⟨rfl, _, rfl, iteF ?_⟩⟩
    have e1317 := e16.trans e17
    refine ⟨_, rfl, _, rfl, _, rfl, _, rfl, _, rfl, _, rfl, _, rfl, rfl, .ref sp, cv, .ref mx, .ref D, v, .ref ra, oo, ws, rows, pool, p, q, es, rfl, Bs.up e1317, e1317 _ _ LL.at_, LL.p0, LL.q0, LL.pb, LL.qb, Mo.up e1317 hm13, Mo.up e1317 hes13, LL.fit, fun H18 e18 => ⟨_, rfl, iteF ⟨_, rfl, e1317.trans e18, (e1516.trans e17).trans e18, e18 _ _ (e17 _ _ hL16)⟩⟩⟩
  · rintro σ H16 ⟨u15, rfl, e16, e1516, _⟩
    have L1 := L1.up e16
    -- asked again
    refine ⟨_, rfl, _, rfl, _, rfl, o1, _, 0, _, rfl, rfl, SqL.of L1.at_, rfl, _, rfl, o1, _, 1, _, rfl, rfl, SqL.of L1.at_, rfl, fun x3 dx3 nx3 ndx3 ne3 => share_make nx3 ndx3 ne3 z2 (z4.mono (by decide)) fun H17 e17 hs17 => ⟨rfl, _, rfl, ?_⟩⟩
    have e1317 := e16.trans e17
    refine ⟨rfl, u, cv, .ref x3, .ref mx, ws, rows.reverse, pool, shr p1 q1, es, rfl, (Bs.up e1317).ask (Mo.up same_fr hs17) z1 z2 z3 z4, rl60, Mo.up e1317 hm13, F1, fun D2 t2 g2 H18 e18 S2 hg2 => ?_⟩
    have S2 := Bs.slv S2
    rw [erv] at hg2
    have hg2 := Mo.up same_fr hg2
    have hg1 := Mo.up ((e1516.trans e17).trans e18) hg1
    rw [gap_one S2 S1 W1] at hg2
    obtain ⟨gp1, gd1, rfl, hgp1⟩ := id hg1
    obtain ⟨gp2, gd2, rfl, hgp2⟩ := id hg2
    obtain ⟨b1, b2⟩ := gapV_bd S1 W1 tp bf bte
    have pos : 0 < (gapV D1 t1 (fnd (rdOf rows) es) (topE es)).2 := by
      unfold gapV
      dsimp only
      exact shr_pos (Int.mul_pos (shr_pos (slv_dU S1 W1).2.2) (shr_pos tp))
    refine ⟨_, rfl, rfl, .ref gp1, _, rfl, hg1, _, rfl, iteD pos ⟨_, rfl, rfl, .ref gp2, _, rfl, hg2, _, rfl, iteD pos ?_⟩⟩
    refine ⟨_, rfl, gp1, _, gd1, _, _, rfl, hgp1, T.cl_Share, T.n_Share_over, shF_over, _, rfl, gp2, _, gd2, _, _, rfl, hgp2, T.cl_Share, T.n_Share_under, shF_under, _, _, rfl, rfl, wmul b1 b2 (by decide), _, rfl, gp2, _, gd2, _, _, rfl, hgp2, T.cl_Share, T.n_Share_over, shF_over, _, rfl, gp1, _, gd1, _, _, rfl, hgp1, T.cl_Share, T.n_Share_under, shF_under, _, _, rfl, rfl, wmul b1 b2 (by decide), rfl, ?_⟩
    exact blT rfl (k _)
end
end MH
/-! part D37 -/
set_option Elab.async false
set_option linter.all false
set_option maxRecDepth 100000
set_option maxHeartbeats 4000000
namespace MH
open PySem PySem.Spec PyProof.Rows L2
section
variable {P : Program} {w : World} {K : Fr} {mg : Str → Option Value} {base : Heap}
def sp_law (K : Fr) : Sp := spx 1 fun vs H Q _ => ∃ (b : Addr) (ns : List Int), vs = [.ref b] ∧ SqL K H b (ns.map V.int) ∧ ∀ H', Q (.bl true) H'
theorem sc_law : FnScope ["_law_script"] ["_law_script"] (defScope s_law) := ⟨rfl, rfl, rfl, by decide +kernel, rfl, by decide +kernel, by decide +kernel⟩
theorem c_law (T : Tx K mg) (G_law_body : Cal P w K mg base 11 "_law_body" ["_law_script"] (sp_law_body K)) : Cal P w K mg base 12 "law" ["_law_script"] (sp_law K) := by
  refine T.cal 77 rfl 49 rfl sc_law (fun _ _ _ _ h => h.1) (fun _ _ _ _ _ _ us hl => match us, hl with | [_], _ => rfl) (fun cdv A outer s H vs Q E hr h => ?_)
  have nd := sc_law.nd
  have hu := hu_of hr
  refine ⟨_, (pss_one (ps_try_thru0 (pss_one (ps_ret (pe_cal G_law_body (hr.mono (by decide)) (pa_cons (pv 0) pa_nil)))))), ?_⟩
  obtain ⟨_, b, ns, rfl, hb, k⟩ := h
  exact ⟨_, rfl, rfl, b, ns, rfl, hb, k⟩
theorem ok_law (T : Tx K mg) (G : Cal P w K mg base 11 "_law_body" ["_law_script"] (sp_law_body K)) {f : Addr} {fd : FuncData} (F : FnP K "law" "law" s_law f fd) : FnOk P w K mg base CX0 12 f fd ["_law_script"] (sp_law K) := by
  refine fn_ok F sc_law (fun _ _ _ _ h => h.1) (fun cdv A outer s H vs Q E hr h => ?_)
  have nd := sc_law.nd
  refine ⟨_, (pss_one (ps_try_thru0 (pss_one (ps_ret (pe_cal G (hr.mono (by decide)) (pa_cons (pv 0) pa_nil)))))), ?_⟩
  obtain ⟨_, b, ns, rfl, hb, k⟩ := h
  exact ⟨_, rfl, rfl, b, ns, rfl, hb, k⟩
end
end MH
/-! part End -/
set_option Elab.async false
set_option linter.all false
set_option maxRecDepth 100000
set_option maxHeartbeats 0
namespace MH
open PySem PySem.Spec PyProof.Rows L2
section
variable {P : Program} {w : World} {K : Fr} {mg : Str → Option Value} {base : Heap}
theorem all_body (T : Tx K mg) : Cal P w K mg base 11 "_law_body" ["_law_script"] (sp_law_body K) := by
  have G_law_start := c_law_start (P := P) (w := w) (K := K) (mg := mg) (base := base) T
  have G_law_draw := c_law_draw (P := P) (w := w) (K := K) (mg := mg) (base := base) T
  have G_law_spec := c_law_spec (P := P) (w := w) (K := K) (mg := mg) (base := base) T G_law_draw
  have G_law_gcd := c_law_gcd (P := P) (w := w) (K := K) (mg := mg) (base := base) T
  have G_law_words := c_law_words (P := P) (w := w) (K := K) (mg := mg) (base := base) T G_law_gcd
  have G_greatest_divisor := c_greatest_divisor (P := P) (w := w) (K := K) (mg := mg) (base := base) T
  have G_least_multiple := c_least_multiple (P := P) (w := w) (K := K) (mg := mg) (base := base) T G_greatest_divisor
  have G_power := c_power (P := P) (w := w) (K := K) (mg := mg) (base := base) T
  have G_Machine_all_weights := c_Machine_all_weights (P := P) (w := w) (K := K) (mg := mg) (base := base) T
  have G_Machine___init := c_Machine___init (P := P) (w := w) (K := K) (mg := mg) (base := base) T G_least_multiple G_power G_Machine_all_weights
  have G_law_signs := c_law_signs (P := P) (w := w) (K := K) (mg := mg) (base := base) T
  have G_law_text := c_law_text (P := P) (w := w) (K := K) (mg := mg) (base := base) T G_law_draw G_law_signs
  have G_law_texts := c_law_texts (P := P) (w := w) (K := K) (mg := mg) (base := base) T G_law_draw G_law_text G_law_signs
  have G_law_wide := c_law_wide (P := P) (w := w) (K := K) (mg := mg) (base := base) T G_law_draw
  have G_law_weight := c_law_weight (P := P) (w := w) (K := K) (mg := mg) (base := base) T G_law_draw G_law_wide
  have G_law_pairs := c_law_pairs (P := P) (w := w) (K := K) (mg := mg) (base := base) T G_law_draw G_law_texts G_law_weight
  have G_is_integer := c_is_integer (P := P) (w := w) (K := K) (mg := mg) (base := base) T
  have G_Table___init := c_Table___init (P := P) (w := w) (K := K) (mg := mg) (base := base) T G_is_integer
  have G_law_source := c_law_source (P := P) (w := w) (K := K) (mg := mg) (base := base) T G_law_draw G_law_spec G_law_words G_Machine___init G_law_pairs G_Table___init
  have G_law_small_source := c_law_small_source (P := P) (w := w) (K := K) (mg := mg) (base := base) T G_law_source G_Table___init
  have G_law_pool := c_law_pool (P := P) (w := w) (K := K) (mg := mg) (base := base) T G_law_texts G_law_draw
  have G_law_rows := c_law_rows (P := P) (w := w) (K := K) (mg := mg) (base := base) T G_law_draw
  have G_law_split := c_law_split (P := P) (w := w) (K := K) (mg := mg) (base := base) T G_law_draw G_law_wide
  have G_law_accused := c_law_accused (P := P) (w := w) (K := K) (mg := mg) (base := base) T G_law_draw
  have G_law_of := c_law_of (P := P) (w := w) (K := K) (mg := mg) (base := base) T
  have G_law_sums := c_law_sums (P := P) (w := w) (K := K) (mg := mg) (base := base) T
  have G_law_level := c_law_level (P := P) (w := w) (K := K) (mg := mg) (base := base) T G_law_draw
  have G_Marking___init := c_Marking___init (P := P) (w := w) (K := K) (mg := mg) (base := base) T
  have G_Changes___init := c_Changes___init (P := P) (w := w) (K := K) (mg := mg) (base := base) T
  have G_Table_texts := c_Table_texts (P := P) (w := w) (K := K) (mg := mg) (base := base) T
  have G_Machine_texts := c_Machine_texts (P := P) (w := w) (K := K) (mg := mg) (base := base) T
  have G_Changes_of := c_Changes_of (P := P) (w := w) (K := K) (mg := mg) (base := base) T
  have G_known := c_known (P := P) (w := w) (K := K) (mg := mg) (base := base) T G_Table_texts G_Machine_texts G_Changes_of
  have G_Marking_texts := c_Marking_texts (P := P) (w := w) (K := K) (mg := mg) (base := base) T
  have G_Share___init := c_Share___init (P := P) (w := w) (K := K) (mg := mg) (base := base) T G_greatest_divisor
  have G_Marking_written_share := c_Marking_written_share (P := P) (w := w) (K := K) (mg := mg) (base := base) T G_Share___init
  have G_Table_weight_of := c_Table_weight_of (P := P) (w := w) (K := K) (mg := mg) (base := base) T
  have G_Table_share_of := c_Table_share_of (P := P) (w := w) (K := K) (mg := mg) (base := base) T G_Share___init G_Table_weight_of
  have G_Machine_weight_of := c_Machine_weight_of (P := P) (w := w) (K := K) (mg := mg) (base := base) T
  have G_Machine_share_of := c_Machine_share_of (P := P) (w := w) (K := K) (mg := mg) (base := base) T G_Share___init G_Machine_weight_of
  have G_Share___eq := c_Share___eq (P := P) (w := w) (K := K) (mg := mg) (base := base) T
  have G_seen_at := c_seen_at (P := P) (w := w) (K := K) (mg := mg) (base := base) T G_Table_texts G_Machine_texts G_Marking_texts G_Marking_written_share G_Table_share_of G_Machine_share_of G_Share___eq
  have G_accused_weights := c_accused_weights (P := P) (w := w) (K := K) (mg := mg) (base := base) T
  have G_Share_is_below := c_Share_is_below (P := P) (w := w) (K := K) (mg := mg) (base := base) T
  have G_accused_at := c_accused_at (P := P) (w := w) (K := K) (mg := mg) (base := base) T G_accused_weights G_Share___init G_Share_is_below
  have G_lesser_of := c_lesser_of (P := P) (w := w) (K := K) (mg := mg) (base := base) T G_Share_is_below
  have G_at_most_one := c_at_most_one (P := P) (w := w) (K := K) (mg := mg) (base := base) T G_lesser_of G_Share___init
  have G_Changes_readable := c_Changes_readable (P := P) (w := w) (K := K) (mg := mg) (base := base) T
  have G_Packing___init := c_Packing___init (P := P) (w := w) (K := K) (mg := mg) (base := base) T G_known G_at_most_one G_Table_texts G_Machine_texts G_least_multiple G_Table_weight_of G_Machine_weight_of G_Changes_readable G_Changes_of
  have G_Solver_rising := c_Solver_rising (P := P) (w := w) (K := K) (mg := mg) (base := base) T
  have G_Solver_bounding := c_Solver_bounding (P := P) (w := w) (K := K) (mg := mg) (base := base) T
  have G_Solver_exchange := c_Solver_exchange (P := P) (w := w) (K := K) (mg := mg) (base := base) T
  have G_Solver___init := c_Solver___init (P := P) (w := w) (K := K) (mg := mg) (base := base) T G_Solver_rising G_Solver_bounding G_Solver_exchange
  have G_Packing_table := c_Packing_table (P := P) (w := w) (K := K) (mg := mg) (base := base) T
  have G_solved := c_solved (P := P) (w := w) (K := K) (mg := mg) (base := base) T G_Packing___init G_Solver___init G_Packing_table
  have G_worth := c_worth (P := P) (w := w) (K := K) (mg := mg) (base := base) T G_solved G_Share___init
  have G_Changes_texts := c_Changes_texts (P := P) (w := w) (K := K) (mg := mg) (base := base) T
  have G_check_written := c_check_written (P := P) (w := w) (K := K) (mg := mg) (base := base) T G_Changes_texts G_Marking_texts
  have G_accused_by := c_accused_by (P := P) (w := w) (K := K) (mg := mg) (base := base) T
  have G_found_share := c_found_share (P := P) (w := w) (K := K) (mg := mg) (base := base) T G_check_written G_accused_by G_Changes_of G_Share___init
  have G_Share___sub := c_Share___sub (P := P) (w := w) (K := K) (mg := mg) (base := base) T G_Share___init
  have G_gap := c_gap (P := P) (w := w) (K := K) (mg := mg) (base := base) T G_known G_seen_at G_accused_at G_worth G_found_share G_Share___sub
  have G_law_integer := c_law_integer (P := P) (w := w) (K := K) (mg := mg) (base := base) T
  have G_law_is := c_law_is (P := P) (w := w) (K := K) (mg := mg) (base := base) T G_law_integer G_law_gcd
  have G_Solver_told := c_Solver_told (P := P) (w := w) (K := K) (mg := mg) (base := base) T
  have G_best_row := c_best_row (P := P) (w := w) (K := K) (mg := mg) (base := base) T G_solved G_Share___init G_Solver_told
  have G_Solver_price := c_Solver_price (P := P) (w := w) (K := K) (mg := mg) (base := base) T
  have G_prices := c_prices (P := P) (w := w) (K := K) (mg := mg) (base := base) T G_solved G_Share___init G_Solver_price
  have G_law_good := c_law_good (P := P) (w := w) (K := K) (mg := mg) (base := base) T G_law_integer
  have G_law_pairs_are := c_law_pairs_are (P := P) (w := w) (K := K) (mg := mg) (base := base) T G_law_good
  have G_law_all := c_law_all (P := P) (w := w) (K := K) (mg := mg) (base := base) T
  have G_law_under := c_law_under (P := P) (w := w) (K := K) (mg := mg) (base := base) T
  have G_law_row_total := c_law_row_total (P := P) (w := w) (K := K) (mg := mg) (base := base) T G_law_under G_law_all
  have G_law_paper_cost := c_law_paper_cost (P := P) (w := w) (K := K) (mg := mg) (base := base) T G_law_under
  have G_law_worth := c_law_worth (P := P) (w := w) (K := K) (mg := mg) (base := base) T G_Share___init G_best_row G_prices G_law_pairs_are G_law_all G_law_row_total G_law_paper_cost
  have G_law_told := c_law_told (P := P) (w := w) (K := K) (mg := mg) (base := base) T G_law_of G_law_is G_found_share G_accused_at G_Share___init G_law_worth G_gap G_law_good
  have G_law_body := c_law_body (P := P) (w := w) (K := K) (mg := mg) (base := base) T G_law_start G_law_small_source G_law_pool G_law_rows G_law_split G_law_accused G_law_of G_law_sums G_law_level G_Marking___init G_Changes___init G_gap G_Share___init G_seen_at G_law_told G_law_good
  exact G_law_body
end
theorem facts {P : Program} {w : World} {K : Fr} {h : Heap} {mg : Str → Option Value} {f : Addr} (X : K.In h) (G : h.Ns mainGlobals mg) (hfa : mg ("law" : Str) = some (.ref f)) (c : He.SaysD fa fn K) (ex : exB K = true) :
    ∃ fd : FuncData, (∀ (s : Shared) (v : Value), BindsTo s fd ⟨[v], []⟩ [("_law_script", v)]) ∧ ∀ base : Heap, K.In base → base.Ns mainGlobals mg → FnOk P w K mg base CX0 12 f fd ["_law_script"] (sp_law K) := by
  have T : Tx K mg := ⟨c, ex, h, X, G⟩
  obtain ⟨fd, F⟩ := c.def_ 77 (d := mkD ("law", none) "law" "law" s_law) rfl
  have e := hfa.symm.trans (T.g 49 (x := "law") rfl)
  cases e
  have b := FunD.bindsA (ps := ["_law_script"]) F fun _ _ _ _ _ _ us hl => match us, hl with | [_], _ => rfl
  exact ⟨fd, fun s v => b s [v] rfl, fun base _ _ => ok_law T (all_body T) F⟩
end MH
open PySem PySem.W PySem.Calls PyProof.Rows
set_option maxHeartbeats 0 in
theorem PySem.Challenge.cw_marktruly_k22_whole_no_marking_finds_mor_holds : PySem.Challenge.rw_marktruly_k22_whole_no_marking_finds_mor.Holds := by
  w_on; o_law
  refine HandSHeadRun.head_any (r := OpenLaw.row PySem.Challenge.rw_marktruly_k22_whole_no_marking_finds_mor) (q := view (OpenLaw.row PySem.Challenge.rw_marktruly_k22_whole_no_marking_finds_mor).prog [75]) (H := MH.hk) (ob := MH.ob) (M := 6000) (loose := MH.names) (d := HandSHeadRun.topDef (OpenLaw.row PySem.Challenge.rw_marktruly_k22_whole_no_marking_finds_mor).prog 75) (kwd := []) MH.ob_eq
    (by kernel_rfl) (fun s => by kernel_rfl) MH.run (by kernel_rfl) (by kernel_rfl) (by kernel_rfl) (by rfl) (by first | assumption | decide +kernel) (by decide +kernel) ⟨rfl, rfl, rfl, rfl, rfl, by decide +kernel⟩ ?hw ?hc
  case hw => w_witness2
  case hc =>
    refine L2.walk_ofE (l := PySem.Challenge.rw_marktruly_k22_whole_no_marking_finds_mor) (n := 63) (k := 12) (x := "_law_script") (CX := L2.CX0) rfl (by decide) (by kernel_rfl) ⟨rfl, by decide, by decide⟩ ?F (fun _ _ _ _ z => z)
    intro w mg fa h Y G hmg0
    obtain ⟨K, KX, c, ex⟩ := Y
    have hmg : mg ("law" : PySem.Str) = some (.ref fa) := by
      have e : (HandSHeadRun.topDef (OpenLaw.row PySem.Challenge.rw_marktruly_k22_whole_no_marking_finds_mor).prog 75).name = ("law" : PySem.Str) := by kernel_rfl
      rw [← e]
      exact hmg0
    obtain ⟨fd, hb, hF⟩ := MH.facts (P := (PySem.Challenge.rw_marktruly_k22_whole_no_marking_finds_mor).prog) (w := w) KX G hmg c ex
    exact ⟨K, fd, MH.sp_law K, KX, hb, fun H a ns hl _ hS => ⟨rfl, a, ns, rfl, hS, fun _ => rfl⟩, hF⟩
