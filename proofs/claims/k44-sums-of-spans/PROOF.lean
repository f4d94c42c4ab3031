import PyProof.Rows.All
import Wide.All
import OpenK.AllK
import Wide.FinOn
import KE.KStateDown
import HandS.ForMost
import HandS.ForExc
import HandS.Defaults
import HandS.Words
import HandS.Star
import HandS.Wide
import HandS.ClsMeth
import HandS.Property
import HandS.ExcSuper
import KE.KExcIs
import HandS.Lambda
import HandS.Head0
import HandS.Head1
import HandS.Head2
import HandS.HeadHook1
import HandS.HeadHook2
import HandS.HeadHook3
import HandS.HeadHook4
import HandS.EndTab
import HandS.HeadWalk
import KE.KExcSuper
import KE.KSuper
import PySem.Challenge.RW_crossmeans_k44_sums_of_spans
import HandS.IsInst
import HandS.More
import HandS.Walk
import HandS.SortKw
import KE.SortKeyHeap
import KE.SortData
import HandS.ExcOwn
import HandS.ExcInit
import HandS.ExcField
import HandS.ExcIs
import HandS.TryMany
import HandS.OwnEq
import HandS.SlotsOwn
import PyProof.InstEq
import KE.GoesMore
import KE.GoesEnum
set_option Elab.async false
set_option linter.all false
set_option maxRecDepth 100000
set_option maxHeartbeats 4000000
/-! R1: the statements of the top, one look at the heap behind it, its run. -/
namespace K4
open PySem PySem.Spec PyProof.Rows L2 StX LamX
open He (ga ma ba eqO eqO_ok dflB dflB_ok kwdB kwdB_ok frT asD frT_in tabsB codeOf cT emptyTab emptyTab_eq frT_none Fa)
def top (i : Nat) : Stmt := PySem.Challenge.pw_crossmeans_k44_sums_of_spans.main.body.getD i (.Pass ⟨0, 0, 0, 0⟩)
def s_shared_divisor : Stmt := top 24
def s_common_divisor : Stmt := top 16
def s_lowest : Stmt := top 17
def s_shortened : Stmt := top 25
def s_product_sum : Stmt := top 26
def s_cleared : Stmt := top 31
def s_first_place : Stmt := top 32
def s_is_whole : Stmt := top 13
def s_is_number : Stmt := top 15
def s_ratio : Stmt := top 21
def s_as_ratio : Stmt := top 22
def s_whole_cells : Stmt := top 27
def s_row_cells : Stmt := top 34
def s_away_from : Stmt := top 29
def s_new_axes : Stmt := top 30
def s_reduced_rows : Stmt := top 33
def st_TooMany : Stmt := inClass (top 11) 0
def st_UnlikePlots : Stmt := inClass (top 6) 0
def s_check_plots : Stmt := top 49
def s_check_plots_tables : Stmt := top 54
def s_check_partings : Stmt := top 51
def s_check_counts : Stmt := top 52
def s_Table___init__ : Stmt := inClass (top 57) 0
def s_Table_plots : Stmt := inClass (top 57) 1
def s_Table_cells : Stmt := inClass (top 57) 2
def s_Table_zeros : Stmt := inClass (top 57) 7
def s_Table___eq__ : Stmt := inClass (top 57) 13
def s_is_whole_partings : Stmt := top 37
def s_is_label : Stmt := top 39
def s_need_plots : Stmt := top 40
def s_need_labels : Stmt := top 42
def s_least_plots : Stmt := top 43
def s_named_lots : Stmt := top 44
def s_Parting___init__ : Stmt := inClass (top 46) 0
def s_Parting_plots : Stmt := inClass (top 46) 1
def s_Parting_names : Stmt := inClass (top 46) 3
def s_Parting_lots : Stmt := inClass (top 46) 4
def s_Parting_one : Stmt := inClass (top 46) 9
def s_marks_of : Stmt := top 28
def s_Span___init__ : Stmt := inClass (top 60) 0
def s_Span_plots : Stmt := inClass (top 60) 1
def s_Span_rows : Stmt := inClass (top 60) 3
def s_Span_dimension : Stmt := inClass (top 60) 2
def s_Span___eq__ : Stmt := inClass (top 60) 9
def s_Span___or__ : Stmt := inClass (top 60) 8
def s_Span_widened : Stmt := inClass (top 60) 7
def s_Span_of_partings : Stmt := inClass (top 60) 10
def s__law_gcd : Stmt := top 73
def s__law_ratio : Stmt := top 74
def s__law_asratio : Stmt := top 75
def s__law_mul : Stmt := top 77
def s__law_add : Stmt := top 76
def s__law_div : Stmt := top 78
def s__law_dot : Stmt := top 79
def s__law_addcells : Stmt := top 80
def s__law_asratios : Stmt := top 81
def s__law_iszero : Stmt := top 90
def s__law_rest : Stmt := top 88
def s__law_upright : Stmt := top 89
def s__law_same : Stmt := top 68
def s__law_iswhole : Stmt := top 69
def s__law_isnumber : Stmt := top 70
def s__law_isratio : Stmt := top 71
def s__law_areratios : Stmt := top 72
def s__law_cellsof : Stmt := top 87
def s__law_isreduced : Stmt := top 91
def s__law_isspan : Stmt := top 92
def s__law_store : Stmt := top 62
def s__law_mixed : Stmt := top 63
def s__law_take : Stmt := top 64
def s__law_once : Stmt := top 65
def s__law_pick : Stmt := top 66
def s__law_long : Stmt := top 67
def s__law_otherplots : Stmt := top 83
def s__law_canon : Stmt := top 82
def s__law_lots : Stmt := top 84
def s__law_numberrow : Stmt := top 85
def s__law_listed : Stmt := top 86
def s__law_equals : Stmt := top 96
def s__law_parted : Stmt := top 95
def s__law_refusal : Stmt := top 93
def s__law_refuses : Stmt := top 94
def s_law : Stmt := top 97
abbrev FnY : Type := Option (Str × Str × Arguments × FuncBody × Scope × Addr × List Str × Addr)
def fnY (K : PySem.W.Frag) (a : Addr) : FnY := match K.lookup a with
  | some ⟨_, _, .func fd, _⟩ => some (fd.name, fd.qualname, fd.params, fd.body, fd.scope, fd.globals, fd.closure.map (·.1), fd.builtins)
  | _ => none
/-- one def: where it stands, its name, qualified name, statement, defaults -/
structure Pd where
  ad : PySem.W.Frag → Addr
  name : Str
  qual : Str
  st : Stmt
  dfl : PySem.W.Frag → List V
def Pd.val (d : Pd) : FnY := some (d.name, d.qual, defArgs d.st, .stmts (defBody d.st), defScope d.st, mainGlobals, [], builtinsNs)
def Pd.ok (K : PySem.W.Frag) (d : Pd) : Bool := PySem.W.keepIn K (.ref (d.ad K)) && (match K.lookup (d.ad K) with
  | some ⟨_, _, .func fd, _⟩ => PySem.W.codeIn K fd.code d.qual && dflB K fd.defaults (d.dfl K)
  | _ => false)
/-- a property's getter, a classmethod's def -/
def prG (K : PySem.W.Frag) (p : Addr) (T : String) : Addr := match PySem.W.recIn K p T with
  | some (.ref g :: _) => g
  | _ => 0
/-- the first default -/
def dfl0 (K : PySem.W.Frag) (f : Addr) : Addr := match K.lookup f with
  | some ⟨_, _, .func fd, _⟩ => (match fd.defaults with
    | .ref T => (match K.lookup T with
      | some ⟨_, _, .seq its _, _⟩ => (match its.toList with
        | .ref a :: _ => a
        | _ => 0)
      | _ => 0)
    | _ => 0)
  | _ => 0

def pd_shared_divisor : Pd := ⟨fun K => He.ga K "shared_divisor", "shared_divisor", "shared_divisor", s_shared_divisor, fun K => []⟩
def pd_common_divisor : Pd := ⟨fun K => He.ga K "common_divisor", "common_divisor", "common_divisor", s_common_divisor, fun K => []⟩
def pd_lowest : Pd := ⟨fun K => He.ga K "lowest", "lowest", "lowest", s_lowest, fun K => []⟩
def pd_shortened : Pd := ⟨fun K => He.ga K "shortened", "shortened", "shortened", s_shortened, fun K => []⟩
def pd_product_sum : Pd := ⟨fun K => He.ga K "product_sum", "product_sum", "product_sum", s_product_sum, fun K => []⟩
def pd_cleared : Pd := ⟨fun K => He.ga K "cleared", "cleared", "cleared", s_cleared, fun K => []⟩
def pd_first_place : Pd := ⟨fun K => He.ga K "first_place", "first_place", "first_place", s_first_place, fun K => []⟩
def pd_is_whole_ratios : Pd := ⟨fun K => He.ga K "is_whole_ratios", "is_whole", "is_whole", s_is_whole, fun K => []⟩
def pd_is_number : Pd := ⟨fun K => He.ga K "is_number", "is_number", "is_number", s_is_number, fun K => []⟩
def pd_whole_cells : Pd := ⟨fun K => He.ga K "whole_cells", "whole_cells", "whole_cells", s_whole_cells, fun K => []⟩
def pd_row_cells : Pd := ⟨fun K => He.ga K "row_cells", "row_cells", "row_cells", s_row_cells, fun K => []⟩
def pd_away_from : Pd := ⟨fun K => He.ga K "away_from", "away_from", "away_from", s_away_from, fun K => []⟩
def pd_new_axes : Pd := ⟨fun K => He.ga K "new_axes", "new_axes", "new_axes", s_new_axes, fun K => []⟩
def pd_check_plots_aid_strata : Pd := ⟨fun K => He.ga K "check_plots_aid_strata", "check_plots", "check_plots", s_check_plots, fun K => []⟩
def pd_check_plots_tables : Pd := ⟨fun K => He.ga K "check_plots_tables", "check_plots", "check_plots", s_check_plots_tables, fun K => []⟩
def pd_check_counts : Pd := ⟨fun K => He.ga K "check_counts", "check_counts", "check_counts", s_check_counts, fun K => []⟩
def pd_is_whole_partings : Pd := ⟨fun K => He.ga K "is_whole_partings", "is_whole", "is_whole", s_is_whole_partings, fun K => []⟩
def pd_is_label : Pd := ⟨fun K => He.ga K "is_label", "is_label", "is_label", s_is_label, fun K => []⟩
def pd_need_plots : Pd := ⟨fun K => He.ga K "need_plots", "need_plots", "need_plots", s_need_plots, fun K => []⟩
def pd_need_labels : Pd := ⟨fun K => He.ga K "need_labels", "need_labels", "need_labels", s_need_labels, fun K => []⟩
def pd_least_plots : Pd := ⟨fun K => He.ga K "least_plots", "least_plots", "least_plots", s_least_plots, fun K => []⟩
def pd_named_lots : Pd := ⟨fun K => He.ga K "named_lots", "named_lots", "named_lots", s_named_lots, fun K => []⟩
def pd_marks_of : Pd := ⟨fun K => He.ga K "marks_of", "marks_of", "marks_of", s_marks_of, fun K => []⟩
def pd__law_gcd : Pd := ⟨fun K => He.ga K "_law_gcd", "_law_gcd", "_law_gcd", s__law_gcd, fun K => []⟩
def pd__law_ratio : Pd := ⟨fun K => He.ga K "_law_ratio", "_law_ratio", "_law_ratio", s__law_ratio, fun K => []⟩
def pd__law_asratio : Pd := ⟨fun K => He.ga K "_law_asratio", "_law_asratio", "_law_asratio", s__law_asratio, fun K => []⟩
def pd__law_mul : Pd := ⟨fun K => He.ga K "_law_mul", "_law_mul", "_law_mul", s__law_mul, fun K => []⟩
def pd__law_add : Pd := ⟨fun K => He.ga K "_law_add", "_law_add", "_law_add", s__law_add, fun K => []⟩
def pd__law_div : Pd := ⟨fun K => He.ga K "_law_div", "_law_div", "_law_div", s__law_div, fun K => []⟩
def pd__law_dot : Pd := ⟨fun K => He.ga K "_law_dot", "_law_dot", "_law_dot", s__law_dot, fun K => []⟩
def pd__law_addcells : Pd := ⟨fun K => He.ga K "_law_addcells", "_law_addcells", "_law_addcells", s__law_addcells, fun K => []⟩
def pd__law_asratios : Pd := ⟨fun K => He.ga K "_law_asratios", "_law_asratios", "_law_asratios", s__law_asratios, fun K => []⟩
def pd__law_iszero : Pd := ⟨fun K => He.ga K "_law_iszero", "_law_iszero", "_law_iszero", s__law_iszero, fun K => []⟩
def pd__law_rest : Pd := ⟨fun K => He.ga K "_law_rest", "_law_rest", "_law_rest", s__law_rest, fun K => []⟩
def pd__law_upright : Pd := ⟨fun K => He.ga K "_law_upright", "_law_upright", "_law_upright", s__law_upright, fun K => []⟩
def pd__law_same : Pd := ⟨fun K => He.ga K "_law_same", "_law_same", "_law_same", s__law_same, fun K => []⟩
def pd__law_iswhole : Pd := ⟨fun K => He.ga K "_law_iswhole", "_law_iswhole", "_law_iswhole", s__law_iswhole, fun K => []⟩
def pd__law_isnumber : Pd := ⟨fun K => He.ga K "_law_isnumber", "_law_isnumber", "_law_isnumber", s__law_isnumber, fun K => []⟩
def pd__law_isratio : Pd := ⟨fun K => He.ga K "_law_isratio", "_law_isratio", "_law_isratio", s__law_isratio, fun K => []⟩
def pd__law_areratios : Pd := ⟨fun K => He.ga K "_law_areratios", "_law_areratios", "_law_areratios", s__law_areratios, fun K => []⟩
def pd__law_cellsof : Pd := ⟨fun K => He.ga K "_law_cellsof", "_law_cellsof", "_law_cellsof", s__law_cellsof, fun K => []⟩
def pd__law_isreduced : Pd := ⟨fun K => He.ga K "_law_isreduced", "_law_isreduced", "_law_isreduced", s__law_isreduced, fun K => []⟩
def pd__law_isspan : Pd := ⟨fun K => He.ga K "_law_isspan", "_law_isspan", "_law_isspan", s__law_isspan, fun K => []⟩
def pd__law_store : Pd := ⟨fun K => He.ga K "_law_store", "_law_store", "_law_store", s__law_store, fun K => []⟩
def pd__law_mixed : Pd := ⟨fun K => He.ga K "_law_mixed", "_law_mixed", "_law_mixed", s__law_mixed, fun K => []⟩
def pd__law_take : Pd := ⟨fun K => He.ga K "_law_take", "_law_take", "_law_take", s__law_take, fun K => []⟩
def pd__law_once : Pd := ⟨fun K => He.ga K "_law_once", "_law_once", "_law_once", s__law_once, fun K => []⟩
def pd__law_pick : Pd := ⟨fun K => He.ga K "_law_pick", "_law_pick", "_law_pick", s__law_pick, fun K => []⟩
def pd__law_long : Pd := ⟨fun K => He.ga K "_law_long", "_law_long", "_law_long", s__law_long, fun K => []⟩
def pd__law_otherplots : Pd := ⟨fun K => He.ga K "_law_otherplots", "_law_otherplots", "_law_otherplots", s__law_otherplots, fun K => []⟩
def pd__law_canon : Pd := ⟨fun K => He.ga K "_law_canon", "_law_canon", "_law_canon", s__law_canon, fun K => []⟩
def pd__law_lots : Pd := ⟨fun K => He.ga K "_law_lots", "_law_lots", "_law_lots", s__law_lots, fun K => []⟩
def pd__law_numberrow : Pd := ⟨fun K => He.ga K "_law_numberrow", "_law_numberrow", "_law_numberrow", s__law_numberrow, fun K => []⟩
def pd__law_listed : Pd := ⟨fun K => He.ga K "_law_listed", "_law_listed", "_law_listed", s__law_listed, fun K => []⟩
def pd__law_equals : Pd := ⟨fun K => He.ga K "_law_equals", "_law_equals", "_law_equals", s__law_equals, fun K => []⟩
def pd__law_parted : Pd := ⟨fun K => He.ga K "_law_parted", "_law_parted", "_law_parted", s__law_parted, fun K => []⟩
def pd__law_refusal : Pd := ⟨fun K => He.ga K "_law_refusal", "_law_refusal", "_law_refusal", s__law_refusal, fun K => []⟩
def pd__law_refuses : Pd := ⟨fun K => He.ga K "_law_refuses", "_law_refuses", "_law_refuses", s__law_refuses, fun K => []⟩
def pd_reduced_rows : Pd := ⟨fun K => He.ga K "reduced_rows", "reduced_rows", "reduced_rows", s_reduced_rows, fun K => []⟩
def pd_check_partings : Pd := ⟨fun K => He.ga K "check_partings", "check_partings", "check_partings", s_check_partings, fun K => [.int 1]⟩
def pd_ratio : Pd := ⟨fun K => He.ga K "ratio", "ratio", "ratio", s_ratio, fun K => [.int 1]⟩
def pd_as_ratio : Pd := ⟨fun K => He.ga K "as_ratio", "as_ratio", "as_ratio", s_as_ratio, fun K => [.int 0]⟩
def pd_law : Pd := ⟨fun K => He.ga K "law", "law", "law", s_law, fun K => []⟩
def pd_Table___init__ : Pd := ⟨fun K => He.ma K (He.ga K "Table") "__init__", "__init__", "Table.__init__", s_Table___init__, fun K => []⟩
def pd_Table___eq__ : Pd := ⟨fun K => He.ma K (He.ga K "Table") "__eq__", "__eq__", "Table.__eq__", s_Table___eq__, fun K => []⟩
def pd_Parting___init__ : Pd := ⟨fun K => He.ma K (He.ga K "Parting") "__init__", "__init__", "Parting.__init__", s_Parting___init__, fun K => []⟩
def pd_Span___init__ : Pd := ⟨fun K => He.ma K (He.ga K "Span") "__init__", "__init__", "Span.__init__", s_Span___init__, fun K => [.ref (dfl0 K (He.ma K (He.ga K "Span") "__init__"))]⟩
def pd_Span___eq__ : Pd := ⟨fun K => He.ma K (He.ga K "Span") "__eq__", "__eq__", "Span.__eq__", s_Span___eq__, fun K => []⟩
def pd_Span___or__ : Pd := ⟨fun K => He.ma K (He.ga K "Span") "__or__", "__or__", "Span.__or__", s_Span___or__, fun K => []⟩
def pd_Span_widened : Pd := ⟨fun K => He.ma K (He.ga K "Span") "widened", "widened", "Span.widened", s_Span_widened, fun K => []⟩
def pd_Table_plots : Pd := ⟨fun K => prG K (He.ma K (He.ga K "Table") "plots") "property", "plots", "Table.plots", s_Table_plots, fun K => []⟩
def pd_Table_cells : Pd := ⟨fun K => prG K (He.ma K (He.ga K "Table") "cells") "property", "cells", "Table.cells", s_Table_cells, fun K => []⟩
def pd_Parting_plots : Pd := ⟨fun K => prG K (He.ma K (He.ga K "Parting") "plots") "property", "plots", "Parting.plots", s_Parting_plots, fun K => []⟩
def pd_Parting_names : Pd := ⟨fun K => prG K (He.ma K (He.ga K "Parting") "names") "property", "names", "Parting.names", s_Parting_names, fun K => []⟩
def pd_Parting_lots : Pd := ⟨fun K => prG K (He.ma K (He.ga K "Parting") "lots") "property", "lots", "Parting.lots", s_Parting_lots, fun K => []⟩
def pd_Span_plots : Pd := ⟨fun K => prG K (He.ma K (He.ga K "Span") "plots") "property", "plots", "Span.plots", s_Span_plots, fun K => []⟩
def pd_Span_rows : Pd := ⟨fun K => prG K (He.ma K (He.ga K "Span") "rows") "property", "rows", "Span.rows", s_Span_rows, fun K => []⟩
def pd_Span_dimension : Pd := ⟨fun K => prG K (He.ma K (He.ga K "Span") "dimension") "property", "dimension", "Span.dimension", s_Span_dimension, fun K => []⟩
def pd_Table_zeros : Pd := ⟨fun K => prG K (He.ma K (He.ga K "Table") "zeros") "classmethod", "zeros", "Table.zeros", s_Table_zeros, fun K => []⟩
def pd_Parting_one : Pd := ⟨fun K => prG K (He.ma K (He.ga K "Parting") "one") "classmethod", "one", "Parting.one", s_Parting_one, fun K => []⟩
def pd_Span_of_partings : Pd := ⟨fun K => prG K (He.ma K (He.ga K "Span") "of_partings") "classmethod", "of_partings", "Span.of_partings", s_Span_of_partings, fun K => []⟩
def pds0 : List Pd := [pd_shared_divisor, pd_common_divisor, pd_lowest, pd_shortened, pd_product_sum, pd_cleared, pd_first_place, pd_is_whole_ratios, pd_is_number, pd_whole_cells, pd_row_cells, pd_away_from, pd_new_axes, pd_check_plots_aid_strata, pd_check_plots_tables, pd_check_counts, pd_is_whole_partings, pd_is_label, pd_need_plots, pd_need_labels, pd_least_plots, pd_named_lots, pd_marks_of, pd__law_gcd, pd__law_ratio]
def pds1 : List Pd := [pd__law_asratio, pd__law_mul, pd__law_add, pd__law_div, pd__law_dot, pd__law_addcells, pd__law_asratios, pd__law_iszero, pd__law_rest, pd__law_upright, pd__law_same, pd__law_iswhole, pd__law_isnumber, pd__law_isratio, pd__law_areratios, pd__law_cellsof, pd__law_isreduced, pd__law_isspan, pd__law_store, pd__law_mixed, pd__law_take, pd__law_once, pd__law_pick, pd__law_long, pd__law_otherplots]
def pds2 : List Pd := [pd__law_canon, pd__law_lots, pd__law_numberrow, pd__law_listed, pd__law_equals, pd__law_parted, pd__law_refusal, pd__law_refuses, pd_reduced_rows, pd_check_partings, pd_ratio, pd_as_ratio, pd_law, pd_Table___init__, pd_Table___eq__, pd_Parting___init__, pd_Span___init__, pd_Span___eq__, pd_Span___or__, pd_Span_widened, pd_Table_plots, pd_Table_cells, pd_Parting_plots, pd_Parting_names, pd_Parting_lots]
def pds3 : List Pd := [pd_Span_plots, pd_Span_rows, pd_Span_dimension, pd_Table_zeros, pd_Parting_one, pd_Span_of_partings]
def pds : List Pd := pds0 ++ (pds1 ++ (pds2 ++ (pds3)))
def glo0 : List Str := ["shared_divisor", "common_divisor", "lowest", "shortened", "product_sum", "cleared", "first_place", "is_whole_ratios", "is_number", "whole_cells", "row_cells", "away_from", "new_axes", "check_plots_aid_strata", "check_plots_tables", "check_counts", "is_whole_partings", "is_label", "need_plots", "need_labels", "least_plots", "named_lots", "marks_of", "_law_gcd", "_law_ratio"]
def glo1 : List Str := ["_law_asratio", "_law_mul", "_law_add", "_law_div", "_law_dot", "_law_addcells", "_law_asratios", "_law_iszero", "_law_rest", "_law_upright", "_law_same", "_law_iswhole", "_law_isnumber", "_law_isratio", "_law_areratios", "_law_cellsof", "_law_isreduced", "_law_isspan", "_law_store", "_law_mixed", "_law_take", "_law_once", "_law_pick", "_law_long", "_law_otherplots"]
def glo2 : List Str := ["_law_canon", "_law_lots", "_law_numberrow", "_law_listed", "_law_equals", "_law_parted", "_law_refusal", "_law_refuses", "reduced_rows", "check_partings", "ratio", "as_ratio"]
def gloNames : List Str := glo0 ++ (glo1 ++ (glo2))
def as0 : List Nat := [0, 3, 6, 4, 31, 44, 56, 68, 89, 110, 131, 152, 164, 185, 500, 649, 744, 30, 43, 55, 67, 88, 109, 130, 151]
def as1 : List Nat := [163, 184, 499, 648, 743, 444, 454, 464, 602, 610, 739, 446, 456, 466, 604, 612, 741, 2, 1, 383, 391, 399, 407, 415, 445]
def as2 : List Nat := [455, 465, 560, 568, 603, 611, 675, 683, 691, 740, 74, 95, 116, 137, 170, 259, 258, 208, 207, 215, 214, 264, 263, 269, 268]
def as3 : List Nat := [296, 295, 301, 300, 194, 193, 201, 200, 274, 273, 311, 310, 284, 283, 291, 290, 511, 510, 533, 532, 526, 525, 318, 317, 325]
def as4 : List Nat := [324, 332, 331, 346, 345, 351, 350, 356, 355, 279, 278, 828, 827, 835, 834, 842, 841, 856, 855, 849, 848, 863, 862, 870, 869]
def as5 : List Nat := [875, 874, 880, 879, 937, 936, 925, 924, 932, 931, 793, 792, 800, 799, 807, 806, 814, 813, 821, 820, 918, 917, 942, 941, 947]
def as6 : List Nat := [946, 753, 752, 760, 759, 767, 766, 774, 773, 781, 780, 786, 785, 894, 893, 887, 886, 899, 898, 906, 905, 911, 910, 971, 970]
def as7 : List Nat := [964, 963, 954, 953, 959, 958, 306, 305, 519, 518, 512, 244, 243, 237, 252, 251, 245, 976, 975, 552, 551, 639, 638, 375, 374]
def as8 : List Nat := [667, 666, 662, 661, 733, 732, 726, 725, 719, 718, 559, 558, 567, 566, 382, 381, 398, 397, 406, 405, 674, 673, 690, 689, 682]
def as9 : List Nat := [681, 601, 600, 443, 442, 738, 737, 182, 181, 86, 85]
/-- the addresses that are looked at -/
def asL : List Addr := as0 ++ (as1 ++ (as2 ++ (as3 ++ (as4 ++ (as5 ++ (as6 ++ (as7 ++ (as8 ++ (as9)))))))))
def recB (K : PySem.W.Frag) (p : Addr) (T : String) : Bool := match PySem.W.recIn K p T with
  | some (.ref _ :: _) => true
  | _ => false
def proB (K : PySem.W.Frag) (C : Addr) (f : Str) : Bool := eqO (PySem.W.findIn K (.ref C) f) (some (some (.ref (ma K C f)))) && (eqO (PySem.W.specialIn K (.ref (ma K C f)) "__get__") (some (some (.builtin "property.__get__"))) && (decide (PySem.W.takesIn K (.ref (ma K C f)) = some true) && recB K (ma K C f) "property"))
def getB (o : Option PySem.W.CFound) (p C : Addr) : Bool := match o with
  | some (.get (.builtin n) (.ref q) .none (.ref D)) => n == "classmethod.__get__" && (q == p && D == C)
  | _ => false
def clmB (K : PySem.W.Frag) (C : Addr) (m : Str) : Bool := getB (PySem.W.findCls K (.ref C) (.type "type") m) (ma K C m) C && (recB K (ma K C m) "classmethod" && PySem.W.fnIn K (prG K (ma K C m) "classmethod"))
def rdB (K : PySem.W.Frag) (C : Addr) : Bool := PySem.W.readsIn K C (.type "type") && eqO (PySem.W.specialIn K (.ref C) "__getattribute__") (some (some (.builtin "type.__getattribute__")))
/-- the ways of object.__class__ -/
def clsB (K : PySem.W.Frag) (C : Addr) : Bool := eqO (PySem.W.findIn K (.ref C) "__class__") (some (some (.builtin "object.__class__"))) && (eqO (PySem.W.specialIn K (.builtin "object.__class__") "__get__") (some (some (.builtin "getset_descriptor.__get__"))) && (decide (PySem.W.takesIn K (.builtin "object.__class__") = some true) && decide (PySem.W.mroIn K C (.type "object") = some true)))
def xclB (K : PySem.W.Frag) (C : Addr) : Bool := clsB K C && (eqO (PySem.W.findIn K (.ref C) "__getattribute__") (some (some (.builtin "BaseException.__getattribute__"))) && (eqO (PySem.W.findIn K (.ref C) "__getattr__") (some none) && (decide (PySem.W.subIn K (.ref C) (.type "BaseException") = some true) && PySem.W.hasDictIn K C)))
/-- an exception class with an __init__ -/
def e2clsB (K : PySem.W.Frag) (C : Addr) : Bool := match K.lookup C with
  | some ⟨.type "type", _, .cls cd, sl⟩ => (match cd.mro, sl.toList with
    | .ref C' :: bm, [_, _, _, _, some (.builtin n), _] => C' == C && (n == "ValueError.__new__" && (!cd.hasDel && (cd.hasDict && PySem.HandSPX.refsVE bm)))
    | _, _ => false)
  | _ => false
def e2core (K : PySem.W.Frag) (C : Addr) (q file : Str) (cl : List (Str × Addr)) (df cd : Value) : Bool := match cl, df, cd with
  | [(_, cc)], .none, .ref cda => PySem.W.codeIn K (.ref cda) q && ((match K.lookup cda with
      | some ⟨_, _, .fields vs, _⟩ => (match (vs[2]? : Option Value) with
        | some (.str z _) => file == z
        | _ => false)
      | _ => false) && (match K.lookup cc with
      | some ⟨_, _, .cell (some (.ref C')), _⟩ => C' == C
      | _ => false))
  | _, _, _ => false
def e2fnB (K : PySem.W.Frag) (C fI : Addr) (q file : Str) : Bool := match K.lookup fI with
  | some ⟨_, _, .func fd, _⟩ => e2core K C q file fd.closure fd.defaults fd.code
  | _ => false
def e2val (q : Str) (st : Stmt) : FnY := some ("__init__", q, defArgs st, .stmts (defBody st), defScope st, mainGlobals, ["__class__"], builtinsNs)
def e2B (K : PySem.W.Frag) (x q f1 f2 file : Str) : Bool := e2clsB K (ga K x) && (eqO (PySem.W.nsIn K mainGlobals x) (some (some (.ref (ga K x)))) && (eqO (PySem.W.findIn K (.ref (ga K x)) "__setattr__") (some (some (.builtin "object.__setattr__"))) && (eqO (PySem.W.findIn K (.ref (ga K x)) f1) (some none) && (eqO (PySem.W.findIn K (.ref (ga K x)) f2) (some none) &&
  (eqO (PySem.W.findIn K (.ref (ga K x)) "__init__") (some (some (.ref (ma K (ga K x) "__init__")))) && (decide (PySem.W.typeIn K (.ref (ma K (ga K x) "__init__")) = some (.type "function")) && (PySem.W.keepIn K (.ref (ga K x)) && (decide (PySem.W.subIn K (.ref (ga K x)) (.type "BaseException") = some true) && (decide (PySem.W.typeIn K (.ref (ga K x)) = some (.type "type")) &&
  (decide (PySem.W.mroIn K (ga K x) (.ref (ga K x)) = some true) && (eqO (PySem.W.ks_superIn K (ga K x) (ga K x) "__init__") (some (some (.builtin "ValueError.__init__"))) && (decide (PySem.W.subIn K (.ref (ga K x)) (.type "ValueError") = some true) && (eqO (PySem.W.nsIn K PySem.cStatics "thirdparty.any") (some none) && (eqO (PySem.W.nsIn K mainGlobals "super") (some none) && e2fnB K (ga K x) (ma K (ga K x) "__init__") q file))))))))))))))
/-- an empty tuple -/
def tup0B (K : PySem.W.Frag) (a : Addr) : Bool := match K.lookup a with
  | some ⟨.type c, _, .seq its _, _⟩ => c == "tuple" && its.isEmpty
  | _ => false
/-- no audit hook, no _pylong -/
def seerB (K : PySem.W.Frag) : Bool := PySem.W.nsOkIn K cStatics && (PySem.W.nsOkIn K sysModules && (eqO (PySem.W.nsIn K cStatics "sys.audit-hooks") (some none) && (eqO (PySem.W.nsIn K cStatics "sys.dict") (some none) && (eqO (PySem.W.nsIn K sysModules "_pylong") (some none) && (eqO (PySem.W.nsIn K mainGlobals "__builtins__") (some (some (.ref (ga K "__builtins__")))) && (match K.lookup (ga K "__builtins__") with
  | some ⟨.type c, some d, _, _⟩ => c == "module" && d == builtinsNs
  | _ => false))))))
def freeNames : List Str := ["abs", "len", "sum", "any", "min", "max", "isinstance", "int", "bool", "str", "list", "tuple", "zip", "enumerate", "sorted", "range", "ValueError"]
def ownNames : List Str := ["Table", "Parting", "Span"]
def noAtts : List (Str × Str) := [("Table", "cell_row"), ("Parting", "own_names"), ("Parting", "own_lots"), ("Span", "plot_count"), ("Span", "basis"), ("Span", "axes")]
def proNames : List (Str × Str) := [("Table", "plots"), ("Table", "cells"), ("Parting", "plots"), ("Parting", "names"), ("Parting", "lots"), ("Span", "plots"), ("Span", "rows"), ("Span", "dimension")]
def clmNames : List (Str × Str) := [("Table", "zeros"), ("Parting", "one"), ("Span", "of_partings")]
def metNames : List (Str × Str) := [("Table", "__eq__"), ("Span", "__eq__"), ("Span", "__or__"), ("Span", "widened")]
def exmFacts : List (Str × Str × Bool) := [("NoPlots", "NoPlots", true), ("TooMany", "NoPlots", false), ("TooMany", "TooMany", true), ("UnlikePlots", "NoPlots", false), ("UnlikePlots", "TooMany", false), ("UnlikePlots", "UnlikePlots", true)]
def kitFacts : List (Str × Str × Bool) := [("NoPlots", "InputError", true), ("NoPlots", "UnlikePlots", false), ("TooMany", "LimitError", true), ("TooMany", "InputError", false), ("UnlikePlots", "InputError", true)]
def xNames : List Str := ["NoPlots", "TooMany", "UnlikePlots"]
def cglo : List Str := ["law", "NoPlots", "TooMany", "UnlikePlots", "InputError", "LimitError"]
def theFile : Str := PySem.Challenge.pw_crossmeans_k44_sums_of_spans.main.file
def factsB (K : PySem.W.Frag) : List Bool := [(gloNames ++ (ownNames ++ cglo)).all (fun x => (Fa.glo x).ok K), freeNames.all (fun x => (Fa.free x).ok K), ((Fa.int "MOST_PLOTS" 16).ok K && ((Fa.int "MOST_PARTINGS" 16).ok K && (Fa.int "MOST_TABLES" 64).ok K)),
  ownNames.all (fun x => (Fa.cls x).ok K), ownNames.all (fun x => (Fa.mkr x).ok K), ownNames.all (fun x => clsB K (ga K x)), noAtts.all (fun p => (Fa.noat p.1 p.2).ok K), proNames.all (fun p => proB K (ga K p.1) p.2),
  clmNames.all (fun p => rdB K (ga K p.1) && clmB K (ga K p.1) p.2), metNames.all (fun p => (Fa.meth p.1 p.2).ok K), exmFacts.all (fun p => (Fa.exm p.1 p.2.1 p.2.2).ok K), kitFacts.all (fun p => decide (PySem.W.kitOne K (.ref (ga K p.1)) (.ref (ga K p.2.1)) = some p.2.2)),
  (decide (PySem.W.kitOne K (.ref (ga K "UnlikePlots")) (.type "ValueError") = some true) && decide (PySem.W.kitOne K (.type "list") (.ref (ga K "Span")) = some false)), xNames.all (fun x => xclB K (ga K x)), (Fa.exc "NoPlots").ok K,
  (e2B K "TooMany" "TooMany.__init__" "what" "limit" theFile && e2B K "UnlikePlots" "UnlikePlots.__init__" "left_plots" "right_plots" theFile),
  (PySem.W.selfFirst K (ga K "Span") && (eqO (PySem.W.findIn K (.ref (ga K "Span")) "__ne__") (some (some (.builtin "object.__ne__"))) && (PySem.W.notFirst K (ga K "Span") (.ref (ga K "Span")) && PySem.W.notFirst K (ga K "Span") (.type "list")))), tup0B K (dfl0 K (ma K (ga K "Span") "__init__")), seerB K]
def tabDefs : List He.Defn := [("reduced_rows", none)]
def asY (_ : Addr → Option Obj) : List Addr := asL
abbrev AlY : Type := List Bool × List FnY
def obsK (g : Addr → Option Obj) (K : PySem.W.Frag) : AlY := (factsB K ++ (tabsB g tabDefs K :: pds.map fun d => d.ok K), (pds.map fun d => fnY K (d.ad K)) ++ [fnY K (ma K (ga K "TooMany") "__init__"), fnY K (ma K (ga K "UnlikePlots") "__init__")])
def obsY (g : Addr → Option Obj) : Bool × List FnY := ((obsK g (frT g (asY g))).1.all id, (obsK g (frT g (asY g))).2)
def valY : Bool × List FnY := (true, pds.map Pd.val ++ [e2val "TooMany.__init__" st_TooMany, e2val "UnlikePlots.__init__" st_UnlikePlots])
end K4
noncomputable section
namespace K4
open PySem PySem.W PySem.Calls PyProof.Rows
abbrev R : PySem.W.OpenRow := PySem.W.OpenLaw.row PySem.Challenge.rw_crossmeans_k44_sums_of_spans
def lo0 : List Str := ["_wall", "__name__", "CrossError", "InputError", "LimitError", "NoPlots", "UnlikePlots", "BadLabel", "BadPlot", "BadNumber", "ZeroDivisor", "TooMany", "is_whole", "is_whole_ratios", "is_number", "common_divisor", "lowest", "added", "multiplied", "opposite", "ratio", "as_ratio", "shared_divisor", "shortened", "product_sum"]
def lo1 : List Str := ["whole_cells", "marks_of", "away_from", "new_axes", "cleared", "first_place", "reduced_rows", "row_cells", "MOST_PLOTS", "is_whole_partings", "is_label", "need_plots", "need_like_plots", "need_labels", "least_plots", "named_lots", "joined_labels", "Parting", "MOST_PARTINGS", "check_plots", "check_plots_aid_strata", "check_partings", "check_counts", "check_plots_tables", "check_same"]
def lo2 : List Str := ["Table", "MOST_TABLES", "Span", "_law_store", "_law_mixed", "_law_take", "_law_once", "_law_pick", "_law_long", "_law_same", "_law_iswhole", "_law_isnumber", "_law_isratio", "_law_areratios", "_law_gcd", "_law_ratio", "_law_asratio", "_law_add", "_law_mul", "_law_div", "_law_dot", "_law_addcells", "_law_asratios", "_law_canon", "_law_otherplots"]
def lo3 : List Str := ["_law_lots", "_law_numberrow", "_law_listed", "_law_cellsof", "_law_rest", "_law_upright", "_law_iszero", "_law_isreduced", "_law_isspan", "_law_refusal", "_law_refuses", "_law_parted", "_law_equals"]
def loose : List Str := lo0 ++ (lo1 ++ (lo2 ++ (lo3)))
def obY (s : PySem.W.SharedT) : Bool × List FnY := obsY (HandSHeadRun.getT s)
set_option maxHeartbeats 0 in
/-- the state behind the top, as far as it is looked at: one run in the kernel -/
theorem run0 (w : World) (os : OsState) : (HandSHeadRun.endF (HandSHeadRun.stepQ (HandSHeadRun.denQ HandSHeadRun.tabQ) R.prog w) 20000 R.prog w os).map (fun s => (HandSHeadRun.looksF R.prog (boot_heap w.params) s.abs, HandSHeadRun.seenQ (PySem.W.view R.prog [97]) loose (importedModules R.prog.main.body) (fun s => xlAt (PySem.W.view R.prog [97]) [] s && recOk R.toRowW.records s) s.abs, obY s)) = some (true, openGood (PySem.W.view R.prog [97]) loose, valY) := by
  kernel_rfl
end K4
end
/-! MA: vectors Nat to Rat, spans, reduced systems, their uniqueness. Plain core Lean. -/
namespace M4

abbrev Vec := Nat → Rat

/-- all sums of multiples -/
inductive Sp (S : Vec → Prop) : Vec → Prop
  | zero : Sp S (fun _ => 0)
  | add {u v : Vec} (c : Rat) : S u → Sp S v → Sp S (fun i => c * u i + v i)

section
variable {S T : Vec → Prop}
theorem Sp.cast {u v : Vec} (h : Sp S u) (e : ∀ i, u i = v i) : Sp S v := by
  have : u = v := funext e
  rw [← this]; exact h
theorem Sp.mem {u : Vec} (h : S u) : Sp S u :=
  (Sp.add 1 h Sp.zero).cast fun i => by grind
theorem Sp.smul {u : Vec} (c : Rat) (h : Sp S u) : Sp S (fun i => c * u i) := by
  induction h with
  | zero => exact Sp.zero.cast fun i => by grind
  | add d hu _ ih => exact (Sp.add (c * d) hu ih).cast fun i => by grind
theorem Sp.plus {u v : Vec} (h : Sp S u) (k : Sp S v) : Sp S (fun i => u i + v i) := by
  induction h with
  | zero => exact k.cast fun i => by grind
  | add d hu _ ih => exact (Sp.add d hu ih).cast fun i => by grind
theorem Sp.comb {u v : Vec} (c d : Rat) (h : Sp S u) (k : Sp S v) : Sp S (fun i => c * u i + d * v i) := (h.smul c).plus (k.smul d)
theorem Sp.trans {v : Vec} (h : Sp S v) (k : ∀ u, S u → Sp T u) : Sp T v := by
  induction h with
  | zero => exact Sp.zero
  | add d hu _ ih => exact ((k _ hu).smul d).plus ih
theorem Sp.mono {v : Vec} (h : Sp S v) (k : ∀ u, S u → T u) : Sp T v := h.trans fun u hu => Sp.mem (k u hu)
/-- a linear zero set -/
theorem Sp.vanish {v : Vec} (h : Sp S v) {i : Nat} (k : ∀ u, S u → u i = 0) : v i = 0 := by
  induction h with
  | zero => rfl
  | add d hu _ ih => have := k _ hu; grind
end

/-- the same span -/
def SpE (S T : Vec → Prop) : Prop := ∀ v, Sp S v ↔ Sp T v
theorem SpE.of {S T : Vec → Prop} (h : ∀ u, S u → Sp T u) (k : ∀ u, T u → Sp S u) : SpE S T := fun _ => ⟨fun z => z.trans h, fun z => z.trans k⟩
theorem SpE.refl (S : Vec → Prop) : SpE S S := fun _ => Iff.rfl
theorem SpE.symm {S T : Vec → Prop} (h : SpE S T) : SpE T S := fun v => (h v).symm
theorem SpE.trans {S T U : Vec → Prop} (h : SpE S T) (k : SpE T U) : SpE S U := fun v => (h v).trans (k v)

/-! ### reduced systems: pairs (place, row) -/
abbrev Sys := List (Nat × Vec)
def Sys.S (R : Sys) : Vec → Prop := fun v => ∃ p, (p, v) ∈ R
structure Red (R : Sys) : Prop where
  nz : ∀ p r, (p, r) ∈ R → r p ≠ 0
  lead : ∀ p r, (p, r) ∈ R → ∀ i, i < p → r i = 0
  off : ∀ p r, (p, r) ∈ R → ∀ q s, (q, s) ∈ R → q ≠ p → r q = 0
  nodup : (R.map (·.1)).Nodup

def lin : Sys → Vec → Vec
  | [], _ => fun _ => 0
  | (p, r) :: R, w => fun i => w p / r p * r i + lin R w i
theorem lin_zero : ∀ (R : Sys) (i : Nat), lin R (fun _ => 0) i = 0
  | [], _ => rfl
  | (p, r) :: R, i => by
    have := lin_zero R i
    show (0 : Rat) / r p * r i + lin R (fun _ => 0) i = 0
    grind
theorem lin_add : ∀ (R : Sys) (c : Rat) (u v : Vec) (i : Nat), lin R (fun j => c * u j + v j) i = c * lin R u i + lin R v i
  | [], c, u, v, i => by show (0 : Rat) = c * 0 + 0; grind
  | (p, r) :: R, c, u, v, i => by
    have := lin_add R c u v i
    show (c * u p + v p) / r p * r i + lin R (fun j => c * u j + v j) i = c * (u p / r p * r i + lin R u i) + (v p / r p * r i + lin R v i)
    rw [this]
    grind
theorem lin_none : ∀ (R : Sys) (w : Vec), (∀ p r, (p, r) ∈ R → w p = 0) → ∀ i, lin R w i = 0
  | [], _, _, _ => rfl
  | (p, r) :: R, w, h, i => by
    have h1 := h p r List.mem_cons_self
    have h2 := lin_none R w (fun q s hq => h q s (List.mem_cons_of_mem _ hq)) i
    show w p / r p * r i + lin R w i = 0
    rw [h1, h2]
    grind
theorem nodup_cons' {p : Nat} {r : Vec} {R : Sys} (h : (((p, r) :: R).map (·.1)).Nodup) : (∀ s, (p, s) ∉ R) ∧ (R.map (·.1)).Nodup := by
  rw [List.map_cons, List.nodup_cons] at h
  exact ⟨fun s hs => h.1 (List.mem_map.mpr ⟨(p, s), hs, rfl⟩), h.2⟩
theorem lin_row : ∀ (R : Sys) (q : Nat) (s : Vec), (q, s) ∈ R → s q ≠ 0 → (∀ p r, (p, r) ∈ R → p ≠ q → s p = 0) → (R.map (·.1)).Nodup → ∀ i, lin R s i = s i
  | [], _, _, h, _, _, _, _ => by cases h
  | (p, r) :: R, q, s, h, nz, off, nd, i => by
    obtain ⟨n1, n2⟩ := nodup_cons' nd
    show s p / r p * r i + lin R s i = s i
    rcases List.mem_cons.mp h with e | h
    · have e1 : q = p := congrArg Prod.fst e
      have e2 : s = r := congrArg Prod.snd e
      subst e1 e2
      have z : lin R s i = 0 := lin_none R s (fun p' r' hp => off p' r' (List.mem_cons_of_mem _ hp) fun e => n1 r' (e ▸ hp)) i
      rw [z]
      grind
    · have hp : p ≠ q := fun e => n1 s (e ▸ h)
      have z := off p r List.mem_cons_self hp
      have ih := lin_row R q s h nz (fun p' r' hp' => off p' r' (List.mem_cons_of_mem _ hp')) n2 i
      rw [z, ih]
      grind
theorem lin_span {R : Sys} (h : Red R) {w : Vec} (hw : Sp R.S w) : ∀ i, lin R w i = w i := by
  induction hw with
  | zero => exact lin_zero R
  | @add u v c hu _ ih =>
    intro i
    obtain ⟨q, hq⟩ := hu
    rw [lin_add, ih, lin_row R q u hq (h.nz _ _ hq) (fun p r hp hne => h.off _ _ hq p r hp hne) h.nodup]
/-- a vector of the span that is zero at all places is zero -/
theorem red_zero {R : Sys} (h : Red R) {w : Vec} (hw : Sp R.S w) (z : ∀ p r, (p, r) ∈ R → w p = 0) : ∀ i, w i = 0 := fun i => by
  rw [← lin_span h hw i]
  exact lin_none R w z i
theorem lin_some : ∀ (R : Sys) (w : Vec) (i : Nat), lin R w i ≠ 0 → ∃ p r, (p, r) ∈ R ∧ w p ≠ 0 ∧ r i ≠ 0
  | [], _, _, h => absurd rfl h
  | (p, r) :: R, w, i, h => by
    by_cases h1 : w p ≠ 0 ∧ r i ≠ 0
    · exact ⟨p, r, List.mem_cons_self, h1.1, h1.2⟩
    · have h2 : lin R w i ≠ 0 := fun z => h (by
        show w p / r p * r i + lin R w i = 0
        rw [z]
        by_cases h3 : w p = 0
        · rw [h3]; grind
        · have h4 : r i = 0 := by
            by_cases h5 : r i = 0
            · exact h5
            · exact absurd ⟨h3, h5⟩ h1
          rw [h4]; grind)
      obtain ⟨p', r', m, a, b⟩ := lin_some R w i h2
      exact ⟨p', r', List.mem_cons_of_mem _ m, a, b⟩
/-- the first nonzero index of a vector of the span is a place -/
theorem red_lead {R : Sys} (h : Red R) {w : Vec} (hw : Sp R.S w) {m : Nat} (nz : w m ≠ 0) (z : ∀ i, i < m → w i = 0) : ∃ r, (m, r) ∈ R := by
  have e := lin_span h hw m
  obtain ⟨p, r, hp, a, b⟩ := lin_some R w m (by rw [e]; exact nz)
  have h1 : ¬ p < m := fun q => a (z p q)
  have h2 : ¬ m < p := fun q => b (h.lead p r hp m q)
  have e2 : p = m := by omega
  exact ⟨r, e2 ▸ hp⟩
theorem red_places {R R' : Sys} (h : Red R) (h' : Red R') (e : SpE R.S R'.S) {p : Nat} {r : Vec} (hp : (p, r) ∈ R) : ∃ r', (p, r') ∈ R' :=
  red_lead h' ((e r).mp (Sp.mem ⟨p, hp⟩)) (h.nz p r hp) (h.lead p r hp)
/-- rows at the same place are multiples of each other -/
theorem red_same {R R' : Sys} (h : Red R) (h' : Red R') (e : SpE R.S R'.S) {p : Nat} {r r' : Vec} (hp : (p, r) ∈ R) (hp' : (p, r') ∈ R') (i : Nat) : r i * r' p = r' i * r p := by
  have hw : Sp R.S (fun i => r' p * r i + (- r p) * r' i) := Sp.comb _ _ (Sp.mem ⟨p, hp⟩) ((e r').mpr (Sp.mem ⟨p, hp'⟩))
  have z := red_zero h hw (fun q s hq => by
    show r' p * r q + (- r p) * r' q = 0
    by_cases hqp : q = p
    · rw [hqp]; grind
    · obtain ⟨s', hq'⟩ := red_places h h' e hq
      rw [h.off p r hp q s hq hqp, h'.off p r' hp' q s' hq' hqp]
      grind) i
  have z' : r' p * r i + (- r p) * r' i = 0 := z
  grind
theorem red_len {R R' : Sys} (h : Red R) (h' : Red R') (e : SpE R.S R'.S) : R.length = R'.length := by
  have sub : ∀ {R R' : Sys}, Red R → Red R' → SpE R.S R'.S → R.length ≤ R'.length := fun {R R'} h h' e => by
    have h1 : (R.map (·.1)) ⊆ (R'.map (·.1)) := fun p hp => by
      obtain ⟨⟨q, r⟩, hq, rfl⟩ := List.mem_map.mp hp
      obtain ⟨r', hr'⟩ := red_places h h' e hq
      exact List.mem_map.mpr ⟨_, hr', rfl⟩
    have h2 := List.Nodup.length_le_of_subset h.nodup h1
    simpa using h2
  exact Nat.le_antisymm (sub h h' e) (sub h' h e.symm)
end M4
/-! MB: integer rows, the program's elimination. Plain core Lean. -/
namespace M4

def ent (zs : List Int) (i : Nat) : Int := zs.getD i 0
def vec (zs : List Int) : Vec := fun i => ((ent zs i : Int) : Rat)
theorem ent_ge {zs : List Int} {i : Nat} (h : zs.length ≤ i) : ent zs i = 0 := by
  unfold ent; rw [List.getD_eq_getElem?_getD, List.getElem?_eq_none h]; rfl
theorem ent_lt {zs : List Int} {i : Nat} (h : i < zs.length) : ent zs i = zs[i] := by
  unfold ent; rw [List.getD_eq_getElem?_getD, List.getElem?_eq_getElem h]; rfl
theorem ent_get {zs : List Int} {i : Nat} {z : Int} (h : zs[i]? = some z) : ent zs i = z := by
  unfold ent; rw [List.getD_eq_getElem?_getD, h]; rfl
theorem ent_map {zs : List Int} {f : Int → Int} (h0 : f 0 = 0) (i : Nat) : ent (zs.map f) i = f (ent zs i) := by
  unfold ent; rw [List.getD_eq_getElem?_getD, List.getD_eq_getElem?_getD, List.getElem?_map]
  cases zs[i]? <;> simp [h0]
theorem ent_ext {zs ws : List Int} (hl : zs.length = ws.length) (h : ∀ i, ent zs i = ent ws i) : zs = ws := by
  refine List.ext_getElem hl fun i h1 h2 => ?_
  have := h i
  rw [ent_lt h1, ent_lt h2] at this
  exact this

/-! ### the greatest common divisor of a list -/
def gfold (g : Nat) (zs : List Int) : Nat := zs.foldl (fun g z => Int.gcd (g : Int) z) g
def vgcd (zs : List Int) : Nat := gfold 0 zs
theorem gfold_dvd : ∀ (zs : List Int) (g : Nat), gfold g zs ∣ g ∧ ∀ z ∈ zs, ((gfold g zs : Nat) : Int) ∣ z
  | [], g => ⟨Nat.dvd_refl _, fun _ h => by cases h⟩
  | z :: zs, g => by
    obtain ⟨h1, h2⟩ := gfold_dvd zs (Int.gcd g z)
    show gfold (Int.gcd g z) zs ∣ g ∧ ∀ y ∈ z :: zs, ((gfold (Int.gcd g z) zs : Nat) : Int) ∣ y
    have a : (gfold (Int.gcd g z) zs) ∣ g := by
      have b : Int.gcd (g : Int) z ∣ g := by
        have := Int.gcd_dvd_left (g : Int) z
        exact Int.natCast_dvd_natCast.mp this
      exact Nat.dvd_trans h1 b
    refine ⟨a, fun y hy => ?_⟩
    rcases List.mem_cons.mp hy with rfl | hy
    · exact Int.dvd_trans (Int.natCast_dvd_natCast.mpr h1) (Int.gcd_dvd_right (g : Int) y)
    · exact h2 y hy
theorem gfold_max : ∀ (zs : List Int) (g d : Nat), d ∣ g → (∀ z ∈ zs, (d : Int) ∣ z) → d ∣ gfold g zs
  | [], _, _, h, _ => h
  | z :: zs, g, d, h, k => by
    refine gfold_max zs _ d ?_ fun y hy => k y (List.mem_cons_of_mem _ hy)
    exact Int.natCast_dvd_natCast.mp (Int.dvd_coe_gcd (Int.natCast_dvd_natCast.mpr h) (k z List.mem_cons_self))
theorem vgcd_dvd {zs : List Int} {z : Int} (h : z ∈ zs) : ((vgcd zs : Nat) : Int) ∣ z := (gfold_dvd zs 0).2 z h
theorem vgcd_max {zs : List Int} {d : Nat} (h : ∀ z ∈ zs, (d : Int) ∣ z) : d ∣ vgcd zs := gfold_max zs 0 d (Nat.dvd_zero _) h
theorem vgcd_zero {zs : List Int} (h : vgcd zs = 0) : ∀ z ∈ zs, z = 0 := fun z hz => by
  have := vgcd_dvd hz
  rw [h] at this
  exact Int.zero_dvd.mp this
theorem ent_mem {zs : List Int} (i : Nat) : ent zs i = 0 ∨ ent zs i ∈ zs := by
  by_cases h : i < zs.length
  · rw [ent_lt h]; exact .inr (List.getElem_mem h)
  · exact .inl (ent_ge (by omega))
theorem vgcd_dvd_ent (zs : List Int) (i : Nat) : ((vgcd zs : Nat) : Int) ∣ ent zs i := by
  rcases ent_mem (zs := zs) i with h | h
  · rw [h]; exact Int.dvd_zero _
  · exact vgcd_dvd h
theorem vgcd_max_ent {zs : List Int} {d : Nat} (h : ∀ i, (d : Int) ∣ ent zs i) : d ∣ vgcd zs := vgcd_max fun z hz => by
  obtain ⟨i, hi, e⟩ := List.getElem_of_mem hz
  have := h i
  rw [ent_lt hi, e] at this
  exact this
theorem vgcd_zero_ent {zs : List Int} (h : vgcd zs = 0) (i : Nat) : ent zs i = 0 := by
  have := vgcd_dvd_ent zs i
  rw [h] at this
  exact Int.zero_dvd.mp this

/-! ### shortened -/
def short (zs : List Int) : List Int := zs.map fun z => z / ((vgcd zs : Nat) : Int)
theorem short_len (zs : List Int) : (short zs).length = zs.length := List.length_map _
theorem ent_short (zs : List Int) (i : Nat) : ((vgcd zs : Nat) : Int) * ent (short zs) i = ent zs i := by
  unfold short
  rw [ent_map (by simp)]
  exact Int.mul_ediv_cancel' (vgcd_dvd_ent zs i)
/-- what is shortened is primitive, or zero -/
theorem short_prim {zs : List Int} (h : vgcd zs ≠ 0) : vgcd (short zs) = 1 := by
  have a : ∀ i, (((vgcd zs * vgcd (short zs) : Nat)) : Int) ∣ ent zs i := fun i => by
    rw [← ent_short zs i, Int.natCast_mul]
    exact Int.mul_dvd_mul_left _ (vgcd_dvd_ent _ i)
  have b := vgcd_max_ent a
  have c : vgcd zs * vgcd (short zs) ∣ vgcd zs * 1 := by rw [Nat.mul_one]; exact b
  exact Nat.dvd_one.mp (Nat.dvd_of_mul_dvd_mul_left (Nat.pos_of_ne_zero h) c)

/-! ### cleared -/
def lc (a b : Int) (v r : List Int) : List Int := List.zipWith (fun x y => a * x - b * y) v r
theorem lc_len {a b : Int} {v r : List Int} (h : v.length = r.length) : (lc a b v r).length = v.length := by
  unfold lc; rw [List.length_zipWith]; omega
theorem ent_lc {a b : Int} {v r : List Int} (h : v.length = r.length) (i : Nat) : ent (lc a b v r) i = a * ent v i - b * ent r i := by
  by_cases hi : i < v.length
  · rw [ent_lt (by rw [lc_len h]; exact hi), ent_lt hi, ent_lt (h ▸ hi)]
    unfold lc; rw [List.getElem_zipWith]
  · rw [ent_ge (by rw [lc_len h]; omega), ent_ge (by omega : v.length ≤ i), ent_ge (by omega : r.length ≤ i)]
    simp
def cleared (v r : List Int) (p : Nat) : List Int := if ent v p = 0 then v else short (lc (ent r p) (ent v p) v r)
theorem cleared_len {v r : List Int} {p : Nat} (h : v.length = r.length) : (cleared v r p).length = v.length := by
  unfold cleared; split
  · rfl
  · rw [short_len, lc_len h]
theorem cleared_spec {v r : List Int} {p : Nat} (h : v.length = r.length) (hp : 0 < ent r p) : ∃ g : Int, 0 < g ∧ ∀ i, g * ent (cleared v r p) i = ent r p * ent v i - ent v p * ent r i := by
  unfold cleared; split
  · rename_i e
    exact ⟨ent r p, hp, fun i => by rw [e]; simp⟩
  · by_cases z : vgcd (lc (ent r p) (ent v p) v r) = 0
    · refine ⟨1, by decide, fun i => ?_⟩
      have e1 := vgcd_zero_ent z i
      have e2 : ent (short (lc (ent r p) (ent v p) v r)) i = 0 := by
        unfold short; rw [ent_map (by simp), e1]; simp
      rw [e2, ← ent_lc h, e1]; rfl
    · refine ⟨_, Int.natCast_pos.mpr (Nat.pos_of_ne_zero z), fun i => ?_⟩
      rw [ent_short, ent_lc h]

/-! ### the elimination -/
abbrev IRows := List (Nat × List Int)
def toSys (rows : IRows) : Sys := rows.map fun pr => (pr.1, vec pr.2)
theorem mem_toSys {rows : IRows} {p : Nat} {r : Vec} : (p, r) ∈ toSys rows ↔ ∃ zs, (p, zs) ∈ rows ∧ r = vec zs := by
  unfold toSys
  rw [List.mem_map]
  constructor
  · rintro ⟨⟨q, zs⟩, h, e⟩
    cases e
    exact ⟨zs, h, rfl⟩
  · rintro ⟨zs, h, rfl⟩
    exact ⟨(p, zs), h, rfl⟩
structure IRed (n : Nat) (rows : IRows) : Prop where
  len : ∀ p zs, (p, zs) ∈ rows → zs.length = n
  pos : ∀ p zs, (p, zs) ∈ rows → 0 < ent zs p
  lead : ∀ p zs, (p, zs) ∈ rows → ∀ i, i < p → ent zs i = 0
  off : ∀ p zs, (p, zs) ∈ rows → ∀ q ws, (q, ws) ∈ rows → q ≠ p → ent zs q = 0
  nodup : (rows.map (·.1)).Nodup
theorem cast0 {z : Int} : ((z : Int) : Rat) = 0 ↔ z = 0 := Rat.intCast_eq_zero_iff
theorem IRed.red {n : Nat} {rows : IRows} (h : IRed n rows) : Red (toSys rows) where
  nz := fun p r hp => by
    obtain ⟨zs, hz, rfl⟩ := mem_toSys.mp hp
    intro e
    have := h.pos p zs hz
    have e2 := cast0.mp e
    omega
  lead := fun p r hp i hi => by
    obtain ⟨zs, hz, rfl⟩ := mem_toSys.mp hp
    exact cast0.mpr (h.lead p zs hz i hi)
  off := fun p r hp q s hq hne => by
    obtain ⟨zs, hz, rfl⟩ := mem_toSys.mp hp
    obtain ⟨ws, hw, rfl⟩ := mem_toSys.mp hq
    exact cast0.mpr (h.off p zs hz q ws hw hne)
  nodup := by
    have e : (toSys rows).map (·.1) = rows.map (·.1) := by unfold toSys; rw [List.map_map]; rfl
    rw [e]; exact h.nodup
theorem IRed.lt {n : Nat} {rows : IRows} (h : IRed n rows) {p : Nat} {zs : List Int} (m : (p, zs) ∈ rows) : p < n := by
  have a := h.pos p zs m
  have b := h.len p zs m
  by_cases c : p < n
  · exact c
  · rw [ent_ge (by omega)] at a; omega

def clearAll (rows : IRows) (v : List Int) : List Int := rows.foldl (fun rest pr => cleared rest pr.2 pr.1) v
def anyNZ (v : List Int) : Bool := v.any fun z => decide (z ≠ 0)
def firstPl (v : List Int) : Nat := v.findIdx fun z => decide (z ≠ 0)
def leadOf (rest : List Int) : List Int := if 0 < ent rest (firstPl rest) then rest else rest.map fun z => -z
def insertR (rows : IRows) (v : List Int) : IRows :=
  if anyNZ (clearAll rows v) then
    rows.map (fun pr => (pr.1, cleared pr.2 (leadOf (clearAll rows v)) (firstPl (clearAll rows v)))) ++ [(firstPl (clearAll rows v), leadOf (clearAll rows v))]
  else rows
def elim (vs : List (List Int)) : IRows := vs.foldl insertR []

theorem anyNZ_false {v : List Int} (h : anyNZ v = false) (i : Nat) : ent v i = 0 := by
  rcases ent_mem (zs := v) i with e | e
  · exact e
  · unfold anyNZ at h
    have := List.any_eq_false.mp h _ e
    simpa using this
theorem firstPl_spec {v : List Int} (h : anyNZ v = true) : firstPl v < v.length ∧ ent v (firstPl v) ≠ 0 ∧ ∀ i, i < firstPl v → ent v i = 0 := by
  unfold anyNZ at h
  have hl : firstPl v < v.length := by
    unfold firstPl
    rw [List.findIdx_lt_length]
    obtain ⟨x, hx, px⟩ := List.any_eq_true.mp h
    exact ⟨x, hx, px⟩
  refine ⟨hl, ?_, fun i hi => ?_⟩
  · rw [ent_lt hl]
    have := List.findIdx_getElem (xs := v) (p := fun z => decide (z ≠ 0)) (w := hl)
    exact of_decide_eq_true this
  · rw [ent_lt (Nat.lt_trans hi hl)]
    have := List.not_of_lt_findIdx (xs := v) (p := fun z => decide (z ≠ 0)) hi
    simpa using this

section
variable {n : Nat} {rows0 : IRows}
theorem clearAll_len (h0 : IRed n rows0) : ∀ (rows : IRows) (v : List Int), (∀ x ∈ rows, x ∈ rows0) → v.length = n → (clearAll rows v).length = n
  | [], _, _, h => h
  | (p, r) :: rows, v, hs, h => by
    show (clearAll rows (cleared v r p)).length = n
    have hr := h0.len p r (hs _ List.mem_cons_self)
    exact clearAll_len h0 rows _ (fun x hx => hs x (List.mem_cons_of_mem _ hx)) (by rw [cleared_len (by omega)]; exact h)
theorem cleared_zero (h0 : IRed n rows0) {p : Nat} {r v : List Int} (hp : (p, r) ∈ rows0) (hv : v.length = n) : ent (cleared v r p) p = 0 ∧ ∀ q s, (q, s) ∈ rows0 → ent v q = 0 → ent (cleared v r p) q = 0 := by
  have hr := h0.len p r hp
  obtain ⟨g, hg, e⟩ := cleared_spec (v := v) (r := r) (p := p) (by omega) (h0.pos p r hp)
  have key : ∀ q, ent r p * ent v q - ent v p * ent r q = 0 → ent (cleared v r p) q = 0 := fun q hq => by
    have := e q
    rw [hq] at this
    rcases Int.mul_eq_zero.mp this with z | z
    · omega
    · exact z
  have z1 : ent (cleared v r p) p = 0 := key p (by rw [Int.mul_comm]; omega)
  refine ⟨z1, fun q s hq z => ?_⟩
  by_cases hqp : q = p
  · rw [hqp]; exact z1
  · refine key q ?_
    rw [z, h0.off p r hp q s hq hqp]; simp
theorem clearAll_zero (h0 : IRed n rows0) : ∀ (rows : IRows) (v : List Int), (∀ x ∈ rows, x ∈ rows0) → v.length = n → ∀ q s, (q, s) ∈ rows0 → (ent v q = 0 ∨ (∃ s', (q, s') ∈ rows)) → ent (clearAll rows v) q = 0
  | [], v, _, _, q, s, hq, h => by
    rcases h with h | ⟨_, h⟩
    · exact h
    · cases h
  | (p, r) :: rows, v, hs, hv, q, s, hq, h => by
    show ent (clearAll rows (cleared v r p)) q = 0
    have hp := hs _ List.mem_cons_self
    have hr := h0.len p r hp
    obtain ⟨z1, z2⟩ := cleared_zero h0 hp hv
    refine clearAll_zero h0 rows _ (fun x hx => hs x (List.mem_cons_of_mem _ hx)) (by rw [cleared_len (by omega)]; exact hv) q s hq ?_
    rcases h with h | ⟨s', h⟩
    · exact .inl (z2 q s hq h)
    · rcases List.mem_cons.mp h with e | h
      · have e1 : q = p := congrArg Prod.fst e
        rw [e1]; exact .inl z1
      · exact .inr ⟨s', h⟩
/-- what is cleared: a multiple of the vector and of something in the span -/
theorem clearAll_span (h0 : IRed n rows0) : ∀ (rows : IRows) (v : List Int), (∀ x ∈ rows, x ∈ rows0) → v.length = n → ∃ a : Rat, a ≠ 0 ∧ ∃ u, Sp (toSys rows0).S u ∧ ∀ i, vec (clearAll rows v) i = a * vec v i + u i
  | [], v, _, _ => ⟨1, by decide, _, Sp.zero, fun i => by show vec v i = 1 * vec v i + 0; grind⟩
  | (p, r) :: rows, v, hs, hv => by
    have hp := hs _ List.mem_cons_self
    have hr := h0.len p r hp
    obtain ⟨a, ha, u, hu, e⟩ := clearAll_span h0 rows (cleared v r p) (fun x hx => hs x (List.mem_cons_of_mem _ hx)) (by rw [cleared_len (by omega)]; exact hv)
    obtain ⟨g, hg, eg⟩ := cleared_spec (v := v) (r := r) (p := p) (by omega) (h0.pos p r hp)
    have hgq : ((g : Int) : Rat) ≠ 0 := fun z => by have := cast0.mp z; omega
    have hpq : vec r p ≠ 0 := fun z => by have := cast0.mp z; have := h0.pos p r hp; omega
    refine ⟨a * (vec r p / g), ?_, fun i => (a * (- (vec v p / g))) * vec r i + u i, ?_, fun i => ?_⟩
    · intro z
      grind
    · exact Sp.add _ (show (toSys rows0).S (vec r) from ⟨p, mem_toSys.mpr ⟨r, hp, rfl⟩⟩) hu
    · show vec (clearAll rows (cleared v r p)) i = _
      rw [e i]
      have q : ((g : Int) : Rat) * vec (cleared v r p) i = vec r p * vec v i - vec v p * vec r i := by
        unfold vec
        rw [← Rat.intCast_mul, eg i, Rat.intCast_sub, Rat.intCast_mul, Rat.intCast_mul]
      grind
end

theorem leadOf_spec {v : List Int} (h : anyNZ v = true) : (leadOf v).length = v.length ∧ 0 < ent (leadOf v) (firstPl v) ∧ ∃ c : Int, (c = 1 ∨ c = -1) ∧ ∀ i, ent (leadOf v) i = c * ent v i := by
  obtain ⟨h1, h2, h3⟩ := firstPl_spec h
  unfold leadOf
  split
  · rename_i hp
    exact ⟨rfl, hp, 1, .inl rfl, fun i => by omega⟩
  · rename_i hp
    have e : ∀ i, ent (v.map fun z => -z) i = -1 * ent v i := fun i => by rw [ent_map (by simp)]; omega
    exact ⟨List.length_map _, by rw [e]; omega, -1, .inr rfl, e⟩

/-- THE INSERTION -/
theorem insert_spec {n : Nat} {rows : IRows} (h : IRed n rows) {v : List Int} (hv : v.length = n) :
    IRed n (insertR rows v) ∧ SpE (toSys (insertR rows v)).S (fun u => (toSys rows).S u ∨ u = vec v) ∧
    ((insertR rows v).length = rows.length ∧ Sp (toSys rows).S (vec v) ∨ (insertR rows v).length = rows.length + 1 ∧ ¬ Sp (toSys rows).S (vec v)) := by
  obtain ⟨a, ha, u, hu, eu⟩ := clearAll_span h rows v (fun _ z => z) hv
  have hw : (clearAll rows v).length = n := clearAll_len h rows v (fun _ z => z) hv
  have hz : ∀ q s, (q, s) ∈ rows → ent (clearAll rows v) q = 0 := fun q s hq => clearAll_zero h rows v (fun _ z => z) hv q s hq (.inr ⟨s, hq⟩)
  unfold insertR
  generalize clearAll rows v = w at *
  cases c : anyNZ w with
  | false =>
    have z := anyNZ_false c
    have hin : Sp (toSys rows).S (vec v) := (hu.smul (-(1 / a))).cast fun i => by
      have q := eu i
      have q2 : vec w i = 0 := cast0.mpr (z i)
      rw [q2] at q
      grind
    rw [if_neg (by decide)]
    exact ⟨h, SpE.of (fun y hy => Sp.mem (.inl hy)) (fun y hy => hy.elim (fun q => Sp.mem q) fun e => e ▸ hin), .inl ⟨rfl, hin⟩⟩
  | true =>
    rw [if_pos rfl]
    obtain ⟨l1, l2, l3⟩ := firstPl_spec c
    obtain ⟨m1, m2, cc, hc, m3⟩ := leadOf_spec c
    generalize leadOf w = ld at *
    generalize firstPl w = at_ at *
    have hc0 : cc ≠ 0 := by omega
    have ldz : ∀ i, ent w i = 0 → ent ld i = 0 := fun i e => by rw [m3, e]; simp
    have notin : ¬ Sp (toSys rows).S (vec v) := fun hin => by
      have z := red_zero h.red ((hin.smul a).plus hu) (fun p r hp => by
        obtain ⟨zs, hz', _⟩ := mem_toSys.mp hp
        have q := eu p
        have q2 : vec w p = 0 := cast0.mpr (hz p zs hz')
        show a * vec v p + u p = 0
        rw [← q, q2]) at_
      have z2 : vec w at_ = 0 := by rw [eu]; exact z
      exact l2 (cast0.mp z2)
    -- the kept rows
    have kept : ∀ p zs, (p, zs) ∈ rows → ∃ g : Int, 0 < g ∧ ∀ i, g * ent (cleared zs ld at_) i = ent ld at_ * ent zs i - ent zs at_ * ent ld i := fun p zs hp =>
      cleared_spec (by rw [h.len p zs hp, m1, hw]) m2
    have zer : ∀ {g x y : Int}, 0 < g → g * x = y → y = 0 → x = 0 := fun {g x y} hg e z => by
      rw [z] at e
      rcases Int.mul_eq_zero.mp e with q | q
      · omega
      · exact q
    have ne_at : ∀ p zs, (p, zs) ∈ rows → p ≠ at_ := fun p zs hp e => l2 (e ▸ hz p zs hp)
    have mem : ∀ {p zs}, (p, zs) ∈ (rows.map (fun pr => (pr.1, cleared pr.2 ld at_)) ++ [(at_, ld)]) → (∃ ys, (p, ys) ∈ rows ∧ zs = cleared ys ld at_) ∨ (p = at_ ∧ zs = ld) := fun {p zs} hm => by
      rcases List.mem_append.mp hm with hm | hm
      · obtain ⟨⟨q, ys⟩, hq, e⟩ := List.mem_map.mp hm
        have e1 : q = p := congrArg Prod.fst e
        have e2 : cleared ys ld at_ = zs := congrArg Prod.snd e
        exact .inl ⟨ys, e1 ▸ hq, e2.symm⟩
      · have e := List.mem_singleton.mp hm
        exact .inr ⟨congrArg Prod.fst e, congrArg Prod.snd e⟩
    have memL : ∀ {p ys}, (p, ys) ∈ rows → (p, cleared ys ld at_) ∈ (rows.map (fun pr => (pr.1, cleared pr.2 ld at_)) ++ [(at_, ld)]) := fun {p ys} hm =>
      List.mem_append_left _ (List.mem_map.mpr ⟨(p, ys), hm, rfl⟩)
    have memR : (at_, ld) ∈ (rows.map (fun pr => (pr.1, cleared pr.2 ld at_)) ++ [(at_, ld)]) := List.mem_append_right _ List.mem_cons_self
    refine ⟨⟨fun p zs hm => ?_, fun p zs hm => ?_, fun p zs hm i hi => ?_, fun p zs hm q ws hm' hne => ?_, ?_⟩, SpE.of (fun y hy => ?_) (fun y hy => ?_), .inr ⟨?_, notin⟩⟩
    · rcases mem hm with ⟨ys, hy, rfl⟩ | ⟨rfl, rfl⟩
      · rw [cleared_len (by rw [h.len p ys hy, m1, hw]), h.len p ys hy]
      · rw [m1, hw]
    · rcases mem hm with ⟨ys, hy, rfl⟩ | ⟨rfl, rfl⟩
      · obtain ⟨g, hg, e⟩ := kept p ys hy
        have e1 := e p
        rw [ldz p (hz p ys hy)] at e1
        have e2 : g * ent (cleared ys ld at_) p = ent ld at_ * ent ys p := by rw [e1]; simp
        have e3 : 0 < g * ent (cleared ys ld at_) p := by rw [e2]; exact Int.mul_pos m2 (h.pos p ys hy)
        exact Int.pos_of_mul_pos_right e3 hg
      · exact m2
    · rcases mem hm with ⟨ys, hy, rfl⟩ | ⟨rfl, rfl⟩
      · obtain ⟨g, hg, e⟩ := kept p ys hy
        refine zer hg (e i) ?_
        rw [h.lead p ys hy i hi]
        by_cases hlt : at_ < p
        · rw [h.lead p ys hy at_ hlt]; simp
        · have hne := ne_at p ys hy
          rw [ldz i (l3 i (by omega))]; simp
      · exact ldz i (l3 i hi)
    · rcases mem hm with ⟨ys, hy, rfl⟩ | ⟨rfl, rfl⟩
      · obtain ⟨g, hg, e⟩ := kept p ys hy
        refine zer hg (e q) ?_
        rcases mem hm' with ⟨xs, hx, rfl⟩ | ⟨rfl, rfl⟩
        · rw [h.off p ys hy q xs hx hne, ldz q (hz q xs hx)]; simp
        · rw [Int.mul_comm]; omega
      · rcases mem hm' with ⟨xs, hx, rfl⟩ | ⟨rfl, rfl⟩
        · exact ldz q (hz q xs hx)
        · exact absurd rfl hne
    · have e : (rows.map (fun pr => (pr.1, cleared pr.2 ld at_)) ++ [(at_, ld)]).map (·.1) = rows.map (·.1) ++ [at_] := by
        rw [List.map_append, List.map_map]; rfl
      rw [e]
      refine List.nodup_append.mpr ⟨h.nodup, by simp, ?_⟩
      intro x hx y hy
      obtain ⟨⟨p, zs⟩, hp, rfl⟩ := List.mem_map.mp hx
      rw [List.mem_singleton.mp hy]
      exact ne_at p zs hp
    · -- new rows within rows and v
      have sld : Sp (fun u => (toSys rows).S u ∨ u = vec v) (vec ld) := by
        have q : Sp (fun u => (toSys rows).S u ∨ u = vec v) (fun i => a * vec v i + u i) := ((Sp.mem (.inr rfl)).smul a).plus (hu.mono fun _ z => .inl z)
        refine (q.smul (cc : Rat)).cast fun i => ?_
        rw [← eu i]
        unfold vec
        rw [← Rat.intCast_mul, m3 i]
      obtain ⟨p, hp⟩ := hy
      obtain ⟨zs, hm, rfl⟩ := mem_toSys.mp hp
      rcases mem hm with ⟨ys, hy, rfl⟩ | ⟨rfl, rfl⟩
      · obtain ⟨g, hg, e⟩ := kept p ys hy
        have hgq : ((g : Int) : Rat) ≠ 0 := fun z => by have := cast0.mp z; omega
        have sy : Sp (fun u => (toSys rows).S u ∨ u = vec v) (vec ys) := Sp.mem (.inl ⟨p, mem_toSys.mpr ⟨ys, hy, rfl⟩⟩)
        refine (Sp.comb (vec ld at_ / g) (- (vec ys at_ / g)) sy sld).cast fun i => ?_
        have q : ((g : Int) : Rat) * vec (cleared ys ld at_) i = vec ld at_ * vec ys i - vec ys at_ * vec ld i := by
          unfold vec
          rw [← Rat.intCast_mul, e i, Rat.intCast_sub, Rat.intCast_mul, Rat.intCast_mul]
        grind
      · exact sld
    · have sld : Sp (toSys (rows.map (fun pr => (pr.1, cleared pr.2 ld at_)) ++ [(at_, ld)])).S (vec ld) := Sp.mem ⟨at_, mem_toSys.mpr ⟨ld, memR, rfl⟩⟩
      have old : ∀ y, (toSys rows).S y → Sp (toSys (rows.map (fun pr => (pr.1, cleared pr.2 ld at_)) ++ [(at_, ld)])).S y := fun y ⟨p, hp⟩ => by
        obtain ⟨ys, hy, rfl⟩ := mem_toSys.mp hp
        obtain ⟨g, hg, e⟩ := kept p ys hy
        have hlq : vec ld at_ ≠ 0 := fun z => by have := cast0.mp z; omega
        have sy : Sp (toSys (rows.map (fun pr => (pr.1, cleared pr.2 ld at_)) ++ [(at_, ld)])).S (vec (cleared ys ld at_)) := Sp.mem ⟨p, mem_toSys.mpr ⟨_, memL hy, rfl⟩⟩
        refine (Sp.comb ((g : Rat) / vec ld at_) (vec ys at_ / vec ld at_) sy sld).cast fun i => ?_
        have q : ((g : Int) : Rat) * vec (cleared ys ld at_) i = vec ld at_ * vec ys i - vec ys at_ * vec ld i := by
          unfold vec
          rw [← Rat.intCast_mul, e i, Rat.intCast_sub, Rat.intCast_mul, Rat.intCast_mul]
        grind
      rcases hy with hy | rfl
      · exact old y hy
      · refine (Sp.comb ((cc : Rat) / a) (-(1 / a)) sld (hu.trans old)).cast fun i => ?_
        have q : vec ld i = (cc : Rat) * vec w i := by
          unfold vec
          rw [← Rat.intCast_mul, m3 i]
        have q2 := eu i
        have q3 : (cc : Rat) * (cc : Rat) = 1 := by
          rw [← Rat.intCast_mul]
          rcases hc with rfl | rfl <;> rfl
        grind
    · rw [List.length_append, List.length_map]; rfl
end M4
/-! MC: the elimination of a list; ranks. Plain core Lean. -/
namespace M4

/-- the rows of a list of integer vectors -/
def VS (vs : List (List Int)) : Vec → Prop := fun u => ∃ v ∈ vs, u = vec v
def elimFrom (rows : IRows) (vs : List (List Int)) : IRows := vs.foldl insertR rows
theorem elim_eq (vs : List (List Int)) : elim vs = elimFrom [] vs := rfl
theorem elimFrom_spec {n : Nat} : ∀ (vs : List (List Int)) (rows : IRows), IRed n rows → (∀ v ∈ vs, v.length = n) →
    IRed n (elimFrom rows vs) ∧ SpE (toSys (elimFrom rows vs)).S (fun u => (toSys rows).S u ∨ VS vs u) ∧ rows.length ≤ (elimFrom rows vs).length ∧
    ((elimFrom rows vs).length = rows.length → ∀ v ∈ vs, Sp (toSys rows).S (vec v))
  | [], rows, h, _ => ⟨h, SpE.of (fun u hu => Sp.mem (.inl hu)) (fun u hu => hu.elim (fun q => Sp.mem q) fun ⟨_, q, _⟩ => (nomatch q)), Nat.le_refl _, fun _ v hv => (nomatch hv)⟩
  | v :: vs, rows, h, hl => by
    obtain ⟨a, b, c⟩ := insert_spec h (hl v List.mem_cons_self)
    obtain ⟨a', b', c', d'⟩ := elimFrom_spec vs (insertR rows v) a (fun u hu => hl u (List.mem_cons_of_mem _ hu))
    refine ⟨a', b'.trans (SpE.of (fun u hu => ?_) (fun u hu => ?_)), ?_, fun e => ?_⟩
    · rcases hu with hu | ⟨y, hy, rfl⟩
      · refine ((b u).mp (Sp.mem hu)).trans fun y hy => ?_
        rcases hy with hy | rfl
        · exact Sp.mem (.inl hy)
        · exact Sp.mem (.inr ⟨v, List.mem_cons_self, rfl⟩)
      · exact Sp.mem (.inr ⟨y, List.mem_cons_of_mem _ hy, rfl⟩)
    · have in1 : ∀ y, ((toSys rows).S y ∨ y = vec v) → Sp (fun u => (toSys (insertR rows v)).S u ∨ VS vs u) y := fun y hy =>
        ((b y).mpr (Sp.mem hy)).mono fun _ z => .inl z
      rcases hu with hu | ⟨y, hy, rfl⟩
      · exact in1 u (.inl hu)
      · rcases List.mem_cons.mp hy with rfl | hy
        · exact in1 _ (.inr rfl)
        · exact Sp.mem (.inr ⟨y, hy, rfl⟩)
    · have : rows.length ≤ (insertR rows v).length := by rcases c with c | c <;> omega
      exact Nat.le_trans this c'
    · have e' : (elimFrom (insertR rows v) vs).length = rows.length := e
      rcases c with ⟨c1, c2⟩ | ⟨c1, _⟩
      · intro y hy
        rcases List.mem_cons.mp hy with rfl | hy
        · exact c2
        · refine (d' (by omega) y hy).trans fun z hz => ?_
          refine ((b z).mp (Sp.mem hz)).trans fun x hx => ?_
          rcases hx with hx | rfl
          · exact Sp.mem hx
          · exact c2
      · omega
theorem ired_nil (n : Nat) : IRed n [] := ⟨fun _ _ h => (nomatch h), fun _ _ h => (nomatch h), fun _ _ h => (nomatch h), fun _ _ h => (nomatch h), List.nodup_nil⟩
theorem elim_spec {n : Nat} {vs : List (List Int)} (h : ∀ v ∈ vs, v.length = n) : IRed n (elim vs) ∧ SpE (toSys (elim vs)).S (VS vs) := by
  obtain ⟨a, b, _, _⟩ := elimFrom_spec vs [] (ired_nil n) h
  refine ⟨a, b.trans (SpE.of (fun u hu => ?_) fun u hu => Sp.mem (.inr hu))⟩
  rcases hu with ⟨p, hp⟩ | hu
  · cases hp
  · exact Sp.mem hu
def rank (vs : List (List Int)) : Nat := (elim vs).length
theorem rank_span {n : Nat} {vs ws : List (List Int)} (h : ∀ v ∈ vs, v.length = n) (k : ∀ v ∈ ws, v.length = n) (e : SpE (VS vs) (VS ws)) : rank vs = rank ws := by
  obtain ⟨a, b⟩ := elim_spec h
  obtain ⟨a', b'⟩ := elim_spec k
  have q := red_len a.red a'.red (b.trans (e.trans b'.symm))
  unfold toSys at q
  unfold rank
  simpa using q
theorem VS_append {vs ws : List (List Int)} {u : Vec} : VS (vs ++ ws) u ↔ VS vs u ∨ VS ws u := by
  unfold VS
  constructor
  · rintro ⟨v, hv, e⟩
    rcases List.mem_append.mp hv with q | q
    · exact .inl ⟨v, q, e⟩
    · exact .inr ⟨v, q, e⟩
  · rintro (⟨v, q, e⟩ | ⟨v, q, e⟩)
    · exact ⟨v, List.mem_append_left _ q, e⟩
    · exact ⟨v, List.mem_append_right _ q, e⟩
theorem elim_append (vs ws : List (List Int)) : elim (vs ++ ws) = elimFrom (elim vs) ws := List.foldl_append ..
/-- the rank stays exactly if nothing new comes in -/
theorem rank_append {n : Nat} {vs ws : List (List Int)} (h : ∀ v ∈ vs, v.length = n) (k : ∀ v ∈ ws, v.length = n) :
    rank (vs ++ ws) = rank vs ↔ SpE (VS (vs ++ ws)) (VS vs) := by
  constructor
  · intro e
    obtain ⟨a, b⟩ := elim_spec h
    obtain ⟨_, _, _, d⟩ := elimFrom_spec ws (elim vs) a k
    have q := d (by unfold rank at e; rw [elim_append] at e; exact e)
    refine SpE.of (fun u hu => ?_) fun u hu => Sp.mem (VS_append.mpr (.inl hu))
    rcases VS_append.mp hu with hu | ⟨v, hv, rfl⟩
    · exact Sp.mem hu
    · exact (b _).mp (q v hv)
  · intro e
    exact rank_span (fun v hv => (List.mem_append.mp hv).elim (h v) (k v)) h e

/-! ### sorted: one order of the rows -/
def Srt (rows : IRows) : Prop := rows.Pairwise fun a b => a.1 < b.1
theorem IRed.perm {n : Nat} {rows rows' : IRows} (h : IRed n rows) (p : rows'.Perm rows) : IRed n rows' :=
  ⟨fun a b m => h.len a b (p.mem_iff.mp m), fun a b m => h.pos a b (p.mem_iff.mp m), fun a b m => h.lead a b (p.mem_iff.mp m),
   fun a b m c d m' => h.off a b (p.mem_iff.mp m) c d (p.mem_iff.mp m'), (List.Perm.map _ p).nodup_iff.mpr h.nodup⟩
theorem toSys_perm {rows rows' : IRows} (p : rows'.Perm rows) : SpE (toSys rows').S (toSys rows).S := by
  have q : (toSys rows').Perm (toSys rows) := List.Perm.map _ p
  exact SpE.of (fun u ⟨x, hx⟩ => Sp.mem ⟨x, q.mem_iff.mp hx⟩) fun u ⟨x, hx⟩ => Sp.mem ⟨x, q.mem_iff.mpr hx⟩
/-- the reduced basis as rows of ratios -/
def ratRow (p : Nat) (zs : List Int) : List Rat := zs.map fun (z : Int) => (z : Rat) / ((ent zs p : Int) : Rat)
def ratRows (rows : IRows) : List (List Rat) := rows.map fun pr => ratRow pr.1 pr.2
/-- two sorted reduced systems of the same span have the same reduced basis -/
theorem rat_unique {n : Nat} : ∀ {rows rows' : IRows}, IRed n rows → IRed n rows' → Srt rows → Srt rows' → SpE (toSys rows).S (toSys rows').S → rows.map (·.1) = rows'.map (·.1) ∧ ratRows rows = ratRows rows' := by
  intro rows rows' h h' s s' e
  have pl : ∀ {rows rows' : IRows}, IRed n rows → IRed n rows' → SpE (toSys rows).S (toSys rows').S → ∀ {p zs}, (p, zs) ∈ rows → ∃ ws, (p, ws) ∈ rows' := fun {rows rows'} h h' e {p zs} hp => by
    obtain ⟨r', hr'⟩ := red_places h.red h'.red e (mem_toSys.mpr ⟨zs, hp, rfl⟩)
    obtain ⟨ws, hw, _⟩ := mem_toSys.mp hr'
    exact ⟨ws, hw⟩
  have same : ∀ {p zs ws}, (p, zs) ∈ rows → (p, ws) ∈ rows' → ratRow p zs = ratRow p ws := fun {p zs ws} hp hp' => by
    have hz := h.len p zs hp
    have hw := h'.len p ws hp'
    have a := h.pos p zs hp
    have b := h'.pos p ws hp'
    have a' : ((ent zs p : Int) : Rat) ≠ 0 := fun z => by have := cast0.mp z; omega
    have b' : ((ent ws p : Int) : Rat) ≠ 0 := fun z => by have := cast0.mp z; omega
    refine List.ext_getElem (by simp [ratRow, hz, hw]) fun i h1 h2 => ?_
    have h1' : i < zs.length := by simpa [ratRow] using h1
    have h2' : i < ws.length := by simpa [ratRow] using h2
    have q := red_same h.red h'.red e (mem_toSys.mpr ⟨zs, hp, rfl⟩) (mem_toSys.mpr ⟨ws, hp', rfl⟩) i
    unfold vec at q
    rw [ent_lt h1', ent_lt h2'] at q
    simp only [ratRow, List.getElem_map]
    grind
  have aux : ∀ (rows rows' : IRows), Srt rows → Srt rows' → (∀ {p zs}, (p, zs) ∈ rows → ∃ ws, (p, ws) ∈ rows') → (∀ {p zs}, (p, zs) ∈ rows' → ∃ ws, (p, ws) ∈ rows) →
      (∀ {p zs ws}, (p, zs) ∈ rows → (p, ws) ∈ rows' → ratRow p zs = ratRow p ws) → rows.map (·.1) = rows'.map (·.1) ∧ ratRows rows = ratRows rows' := by
    intro rows
    induction rows with
    | nil =>
      intro rows' _ _ _ k _
      cases rows' with
      | nil => exact ⟨rfl, rfl⟩
      | cons x r =>
        obtain ⟨ws, hw⟩ := k (p := x.1) (zs := x.2) List.mem_cons_self
        cases hw
    | cons x r ih =>
      intro rows' s s' k k' sm
      cases rows' with
      | nil =>
        obtain ⟨ws, hw⟩ := k (p := x.1) (zs := x.2) List.mem_cons_self
        cases hw
      | cons y r' =>
        obtain ⟨s1, s2⟩ := List.pairwise_cons.mp s
        obtain ⟨s1', s2'⟩ := List.pairwise_cons.mp s'
        have exy : x.1 = y.1 := by
          obtain ⟨ws, hw⟩ := k (p := x.1) (zs := x.2) List.mem_cons_self
          obtain ⟨zs, hz⟩ := k' (p := y.1) (zs := y.2) List.mem_cons_self
          rcases List.mem_cons.mp hw with e1 | e1
          · have e3 := congrArg (fun z : Nat × List Int => z.1) e1
            exact e3
          · rcases List.mem_cons.mp hz with e2 | e2
            · have e3 := congrArg (fun z : Nat × List Int => z.1) e2
              exact e3.symm
            · have l1 : y.1 < x.1 := s1' (x.1, ws) e1
              have l2 : x.1 < y.1 := s1 (y.1, zs) e2
              omega
        have tl : ∀ {p zs}, (p, zs) ∈ r → ∃ ws, (p, ws) ∈ r' := fun {p zs} hp => by
          have l : x.1 < p := s1 _ hp
          obtain ⟨ws, hw⟩ := k (List.mem_cons_of_mem _ hp)
          rcases List.mem_cons.mp hw with e1 | e1
          · have : p = y.1 := congrArg Prod.fst e1
            omega
          · exact ⟨ws, e1⟩
        have tl' : ∀ {p zs}, (p, zs) ∈ r' → ∃ ws, (p, ws) ∈ r := fun {p zs} hp => by
          have l : y.1 < p := s1' _ hp
          obtain ⟨ws, hw⟩ := k' (List.mem_cons_of_mem _ hp)
          rcases List.mem_cons.mp hw with e1 | e1
          · have : p = x.1 := congrArg Prod.fst e1
            omega
          · exact ⟨ws, e1⟩
        obtain ⟨i1, i2⟩ := ih r' s2 s2' tl tl' fun hp hp' => sm (List.mem_cons_of_mem _ hp) (List.mem_cons_of_mem _ hp')
        have hd : ratRow x.1 x.2 = ratRow y.1 y.2 := by
          have := sm (p := x.1) (zs := x.2) (ws := y.2) List.mem_cons_self (by rw [exy]; exact List.mem_cons_self)
          rw [this, exy]
        refine ⟨?_, ?_⟩
        · rw [List.map_cons, List.map_cons, exy, i1]
        · unfold ratRows at *
          rw [List.map_cons, List.map_cons, hd, i2]
  exact aux rows rows' s s' (pl h h' e) (pl h' h e.symm) same
end M4
/-! MD: the law's Gram-Schmidt over lists of ratios. Plain core Lean. -/
namespace M4

def qe (l : List Rat) (i : Nat) : Rat := l.getD i 0
def qv (l : List Rat) : Vec := fun i => qe l i
theorem qe_ge {l : List Rat} {i : Nat} (h : l.length ≤ i) : qe l i = 0 := by
  unfold qe; rw [List.getD_eq_getElem?_getD, List.getElem?_eq_none h]; rfl
theorem qe_lt {l : List Rat} {i : Nat} (h : i < l.length) : qe l i = l[i] := by
  unfold qe; rw [List.getD_eq_getElem?_getD, List.getElem?_eq_getElem h]; rfl
theorem qe_get {l : List Rat} {i : Nat} {z : Rat} (h : l[i]? = some z) : qe l i = z := by
  unfold qe; rw [List.getD_eq_getElem?_getD, h]; rfl
theorem qe_some {l : List Rat} {i : Nat} (h : i < l.length) : l[i]? = some (qe l i) := by
  rw [qe_lt h, List.getElem?_eq_getElem h]

/-- the sum of the first products -/
def dotN (u v : Vec) : Nat → Rat
  | 0 => 0
  | k + 1 => dotN u v k + u k * v k
theorem dot_comm (u v : Vec) : ∀ n, dotN u v n = dotN v u n
  | 0 => rfl
  | n + 1 => by
    have := dot_comm u v n
    show dotN u v n + u n * v n = dotN v u n + v n * u n
    grind
theorem dot_lin (c : Rat) (u u' v : Vec) : ∀ n, dotN (fun i => c * u i + u' i) v n = c * dotN u v n + dotN u' v n
  | 0 => by show (0 : Rat) = c * 0 + 0; grind
  | n + 1 => by
    have := dot_lin c u u' v n
    show dotN (fun i => c * u i + u' i) v n + (c * u n + u' n) * v n = c * (dotN u v n + u n * v n) + (dotN u' v n + u' n * v n)
    grind
theorem dot_zero (v : Vec) : ∀ n, dotN (fun _ => 0) v n = 0
  | 0 => rfl
  | n + 1 => by
    have := dot_zero v n
    show dotN (fun _ => 0) v n + 0 * v n = 0
    grind
theorem dot_cong {u u' v v' : Vec} : ∀ n, (∀ i, i < n → u i = u' i) → (∀ i, i < n → v i = v' i) → dotN u v n = dotN u' v' n
  | 0, _, _ => rfl
  | n + 1, h, k => by
    show dotN u v n + u n * v n = dotN u' v' n + u' n * v' n
    rw [dot_cong n (fun i hi => h i (by omega)) (fun i hi => k i (by omega)), h n (by omega), k n (by omega)]
theorem sq_nonneg (x : Rat) : 0 ≤ x * x := by
  rcases Rat.le_total (a := 0) (b := x) with h | h
  · exact Rat.mul_nonneg h h
  · have h2 : 0 ≤ -x := by grind
    have := Rat.mul_nonneg h2 h2
    grind
theorem dot_self (u : Vec) : ∀ n, 0 ≤ dotN u u n ∧ (dotN u u n = 0 → ∀ i, i < n → u i = 0)
  | 0 => ⟨Rat.le_refl, fun _ i h => by omega⟩
  | n + 1 => by
    obtain ⟨a, b⟩ := dot_self u n
    have c := sq_nonneg (u n)
    refine ⟨Rat.add_nonneg a c, fun h i hi => ?_⟩
    have h' : dotN u u n + u n * u n = 0 := h
    have h1 : dotN u u n = 0 := by grind
    have h2 : u n * u n = 0 := by grind
    rcases Rat.mul_eq_zero.mp h2 with z | z <;>
    · by_cases e : i = n
      · rw [e]; exact z
      · exact b h1 i (by omega)

def addQ (l r : List Rat) (f : Rat) : List Rat := (List.range l.length).map fun k => qe l k + f * qe r k
theorem addQ_len (l r : List Rat) (f : Rat) : (addQ l r f).length = l.length := by unfold addQ; simp
theorem qe_addQ {l r : List Rat} {f : Rat} {i : Nat} (h : i < l.length) : qe (addQ l r f) i = qe l i + f * qe r i := by
  rw [qe_lt (by rw [addQ_len]; exact h)]
  unfold addQ
  rw [List.getElem_map, List.getElem_range]
theorem qv_addQ {l r : List Rat} {f : Rat} (h : r.length = l.length) (i : Nat) : qv (addQ l r f) i = qv l i + f * qv r i := by
  unfold qv
  by_cases hi : i < l.length
  · exact qe_addQ hi
  · rw [qe_ge (by rw [addQ_len]; omega), qe_ge (by omega : l.length ≤ i), qe_ge (by omega : r.length ≤ i)]
    grind
def dotQ (l r : List Rat) : Rat := dotN (qv l) (qv r) l.length
def step (rest row : List Rat) : List Rat := addQ rest row (-1 * (dotQ rest row / dotQ row row))
def restQ (basis : List (List Rat)) (v : List Rat) : List Rat := basis.foldl step v
def isZ (l : List Rat) : Bool := l.all fun q => decide (q = 0)
def uprightF (basis rows : List (List Rat)) : List (List Rat) := rows.foldl (fun b v => if isZ (restQ b v) then b else b ++ [restQ b v]) basis
def upright (rows : List (List Rat)) : List (List Rat) := uprightF [] rows
def VQ (rows : List (List Rat)) : Vec → Prop := fun u => ∃ q ∈ rows, u = qv q

structure OB (n : Nat) (basis : List (List Rat)) : Prop where
  len : ∀ u ∈ basis, u.length = n
  nz : ∀ u ∈ basis, dotN (qv u) (qv u) n ≠ 0
  orth : basis.Pairwise fun u v => dotN (qv u) (qv v) n = 0

theorem restQ_len (basis : List (List Rat)) : ∀ v, (restQ basis v).length = v.length := by
  induction basis with
  | nil => intro v; rfl
  | cons u b ih =>
    intro v
    show (restQ b (step v u)).length = v.length
    rw [ih]; exact addQ_len _ _ _
theorem isZ_iff {l : List Rat} : isZ l = true ↔ ∀ i, qv l i = 0 := by
  unfold isZ
  rw [List.all_eq_true]
  constructor
  · intro h i
    unfold qv
    by_cases hi : i < l.length
    · rw [qe_lt hi]; exact of_decide_eq_true (h _ (List.getElem_mem hi))
    · exact qe_ge (by omega)
  · intro h x hx
    obtain ⟨i, hi, e⟩ := List.getElem_of_mem hx
    have := h i
    unfold qv at this
    rw [qe_lt hi, e] at this
    exact decide_eq_true this
/-- a linear condition that all of the span meets -/
theorem Sp.ortho {S : Vec → Prop} {w : Vec} (h : Sp S w) {v : Vec} {n : Nat} (k : ∀ u, S u → dotN u v n = 0) : dotN w v n = 0 := by
  induction h with
  | zero => exact dot_zero v n
  | add c hu _ ih => rw [dot_lin, ih, k _ hu]; grind

theorem rest_aux {n : Nat} {B0 : List (List Rat)} (h0 : ∀ u ∈ B0, dotN (qv u) (qv u) n ≠ 0) (hl : ∀ u ∈ B0, u.length = n) : ∀ (basis : List (List Rat)) (v : List Rat) (done : List (List Rat)),
    v.length = n → (∀ u ∈ basis, u ∈ B0) → basis.Pairwise (fun u w => dotN (qv u) (qv w) n = 0) → (∀ u ∈ done, ∀ w ∈ basis, dotN (qv u) (qv w) n = 0) → (∀ u ∈ done, dotN (qv v) (qv u) n = 0) →
    (∃ x, Sp (VQ basis) x ∧ ∀ i, qv (restQ basis v) i = qv v i + x i) ∧ (∀ u, u ∈ done ∨ u ∈ basis → dotN (qv (restQ basis v)) (qv u) n = 0)
  | [], v, done, hv, _, _, _, hd => ⟨⟨_, Sp.zero, fun i => by show qv v i = qv v i + 0; grind⟩, fun u hu => hu.elim (hd u) fun q => (nomatch q)⟩
  | r :: basis, v, done, hv, hs, hp, hdb, hd => by
    have hr := hs r List.mem_cons_self
    have lr := hl r hr
    obtain ⟨p1, p2⟩ := List.pairwise_cons.mp hp
    have e : ∀ i, qv (step v r) i = (-1 * (dotQ v r / dotQ r r)) * qv r i + qv v i := fun i => by
      have := qv_addQ (l := v) (r := r) (f := -1 * (dotQ v r / dotQ r r)) (by omega) i
      unfold step
      rw [this]; grind
    have ed : ∀ u : List Rat, dotN (qv (step v r)) (qv u) n = (-1 * (dotQ v r / dotQ r r)) * dotN (qv r) (qv u) n + dotN (qv v) (qv u) n := fun u => by
      rw [← dot_lin]
      exact dot_cong n (fun i _ => e i) (fun _ _ => rfl)
    have q1 : dotQ v r = dotN (qv v) (qv r) n := by unfold dotQ; rw [hv]
    have q2 : dotQ r r = dotN (qv r) (qv r) n := by unfold dotQ; rw [lr]
    have nz := h0 r hr
    obtain ⟨⟨x, hx, ex⟩, o⟩ := rest_aux h0 hl basis (step v r) (done ++ [r]) (by unfold step; rw [addQ_len]; exact hv) (fun u hu => hs u (List.mem_cons_of_mem _ hu)) p2
      (fun u hu w hw => by
        rcases List.mem_append.mp hu with hu | hu
        · exact hdb u hu w (List.mem_cons_of_mem _ hw)
        · rw [List.mem_singleton.mp hu]; exact p1 w hw)
      (fun u hu => by
        rw [ed]
        rcases List.mem_append.mp hu with hu | hu
        · rw [hd u hu, dot_comm, hdb u hu r List.mem_cons_self]; grind
        · rw [List.mem_singleton.mp hu, q1, q2]; grind)
    refine ⟨⟨fun i => (-1 * (dotQ v r / dotQ r r)) * qv r i + x i, Sp.add _ ⟨r, List.mem_cons_self, rfl⟩ (hx.mono fun u ⟨q, hq, z⟩ => ⟨q, List.mem_cons_of_mem _ hq, z⟩), fun i => ?_⟩, fun u hu => ?_⟩
    · show qv (restQ basis (step v r)) i = _
      rw [ex i, e i]; grind
    · refine o u ?_
      rcases hu with hu | hu
      · exact .inl (List.mem_append_left _ hu)
      · rcases List.mem_cons.mp hu with rfl | hu
        · exact .inl (List.mem_append_right _ List.mem_cons_self)
        · exact .inr hu
theorem rest_spec {n : Nat} {basis : List (List Rat)} (h : OB n basis) {v : List Rat} (hv : v.length = n) :
    (∃ x, Sp (VQ basis) x ∧ ∀ i, qv (restQ basis v) i = qv v i + x i) ∧ ∀ u ∈ basis, dotN (qv (restQ basis v)) (qv u) n = 0 := by
  obtain ⟨a, b⟩ := rest_aux h.nz h.len basis v [] hv (fun _ z => z) h.orth (fun _ z => (nomatch z)) (fun _ z => (nomatch z))
  exact ⟨a, fun u hu => b u (.inr hu)⟩
/-- nothing is left exactly of what lies in the span -/
theorem rest_zero {n : Nat} {basis : List (List Rat)} (h : OB n basis) {v : List Rat} (hv : v.length = n) : isZ (restQ basis v) = true ↔ Sp (VQ basis) (qv v) := by
  obtain ⟨⟨x, hx, ex⟩, o⟩ := rest_spec h hv
  rw [isZ_iff]
  constructor
  · intro z
    refine (hx.smul (-1)).cast fun i => ?_
    have := ex i
    rw [z i] at this
    grind
  · intro hin i
    have hw : Sp (VQ basis) (qv (restQ basis v)) := (hin.plus hx).cast fun i => (ex i).symm
    have self : dotN (qv (restQ basis v)) (qv (restQ basis v)) n = 0 := hw.ortho fun u ⟨q, hq, e⟩ => by rw [e, dot_comm]; exact o q hq
    have := (dot_self _ n).2 self
    by_cases hi : i < n
    · exact this i hi
    · exact qe_ge (by rw [restQ_len]; omega)

/-! ### wholes -/
def comF (c : Nat) (qs : List Rat) : Nat := qs.foldl (fun c q => c * (q.den / Nat.gcd c q.den)) c
def com (qs : List Rat) : Nat := comF 1 qs
theorem lcm_step {c d : Nat} (hc : 0 < c) (hd : 0 < d) : c * (d / Nat.gcd c d) = Nat.lcm c d := by
  unfold Nat.lcm
  rw [Nat.mul_div_assoc _ (Nat.gcd_dvd_right c d)]
theorem comF_spec : ∀ (qs : List Rat) (c : Nat), 0 < c → 0 < comF c qs ∧ c ∣ comF c qs ∧ (∀ q ∈ qs, q.den ∣ comF c qs) ∧ ∀ E, c ∣ E → (∀ q ∈ qs, q.den ∣ E) → comF c qs ∣ E
  | [], c, h => ⟨h, Nat.dvd_refl _, fun _ z => (nomatch z), fun _ z _ => z⟩
  | q :: qs, c, h => by
    have hq : 0 < q.den := Nat.pos_of_ne_zero q.den_nz
    have e := lcm_step h hq
    have hl : 0 < Nat.lcm c q.den := Nat.lcm_pos h hq
    obtain ⟨a, b, d, m⟩ := comF_spec qs (Nat.lcm c q.den) hl
    have e2 : comF c (q :: qs) = comF (Nat.lcm c q.den) qs := by
      show comF (c * (q.den / Nat.gcd c q.den)) qs = _
      rw [e]
    rw [e2]
    refine ⟨a, Nat.dvd_trans (Nat.dvd_lcm_left _ _) b, fun y hy => ?_, fun E hE k => m E (Nat.lcm_dvd hE (k q List.mem_cons_self)) fun y hy => k y (List.mem_cons_of_mem _ hy)⟩
    rcases List.mem_cons.mp hy with rfl | hy
    · exact Nat.dvd_trans (Nat.dvd_lcm_right _ _) b
    · exact d y hy
theorem com_pos (qs : List Rat) : 0 < com qs := (comF_spec qs 1 (by decide)).1
theorem com_dvd {qs : List Rat} {q : Rat} (h : q ∈ qs) : q.den ∣ com qs := (comF_spec qs 1 (by decide)).2.2.1 q h
theorem com_min {qs : List Rat} {E : Nat} (h : ∀ q ∈ qs, q.den ∣ E) : com qs ∣ E := (comF_spec qs 1 (by decide)).2.2.2 E (Nat.one_dvd _) h
def whole (qs : List Rat) : List Int := qs.map fun q => q.num * ((com qs / q.den : Nat) : Int)
theorem whole_len (qs : List Rat) : (whole qs).length = qs.length := List.length_map _
theorem num_mul (q : Rat) {E : Nat} (h : q.den ∣ E) : ((q.num * ((E / q.den : Nat) : Int) : Int) : Rat) = (E : Rat) * q := by
  obtain ⟨k, rfl⟩ := h
  have hd : 0 < q.den := Nat.pos_of_ne_zero q.den_nz
  rw [Nat.mul_div_cancel_left _ hd, Rat.intCast_mul]
  have hq : q = (q.num : Rat) / (q.den : Rat) := by
    rw [← Rat.mkRat_eq_div, Rat.mkRat_self]
  have hdq : ((q.den : Nat) : Rat) ≠ 0 := by
    intro z
    have := (Rat.natCast_eq_zero_iff).mp z
    omega
  have c1 : (((q.den * k : Nat)) : Rat) = (q.den : Rat) * (k : Rat) := Rat.natCast_mul _ _
  have c2 : (((k : Nat) : Int) : Rat) = (k : Rat) := rfl
  rw [c1, c2]
  grind
theorem vec_whole (qs : List Rat) (i : Nat) : vec (whole qs) i = (com qs : Rat) * qv qs i := by
  unfold vec qv
  by_cases hi : i < qs.length
  · rw [ent_lt (by rw [whole_len]; exact hi), qe_lt hi]
    unfold whole
    rw [List.getElem_map]
    exact num_mul _ (com_dvd (List.getElem_mem hi))
  · rw [ent_ge (by rw [whole_len]; omega), qe_ge (by omega)]
    show (0 : Rat) = _
    grind
theorem comq (qs : List Rat) : ((com qs : Nat) : Rat) ≠ 0 := fun z => by
  have := (Rat.natCast_eq_zero_iff).mp z
  have := com_pos qs
  omega
theorem VS_whole (rows : List (List Rat)) : SpE (VS (rows.map whole)) (VQ rows) := by
  refine SpE.of (fun u hu => ?_) (fun u hu => ?_)
  · obtain ⟨v, hv, rfl⟩ := hu
    obtain ⟨q, hq, rfl⟩ := List.mem_map.mp hv
    exact ((Sp.mem ⟨q, hq, rfl⟩ : Sp (VQ rows) (qv q)).smul (com q : Rat)).cast fun i => (vec_whole q i).symm
  · obtain ⟨q, hq, rfl⟩ := hu
    have hm : Sp (VS (rows.map whole)) (vec (whole q)) := Sp.mem ⟨_, List.mem_map.mpr ⟨q, hq, rfl⟩, rfl⟩
    refine (hm.smul (1 / (com q : Rat))).cast fun i => ?_
    have := vec_whole q i
    have := comq q
    grind

/-- GRAM-SCHMIDT beside the elimination -/
theorem upright_aux {n : Nat} : ∀ (rows basis : List (List Rat)) (ir : IRows), OB n basis → IRed n ir → SpE (VQ basis) (toSys ir).S → basis.length = ir.length → (∀ v ∈ rows, v.length = n) →
    OB n (uprightF basis rows) ∧ SpE (VQ (uprightF basis rows)) (fun u => VQ basis u ∨ VQ rows u) ∧ (uprightF basis rows).length = (elimFrom ir (rows.map whole)).length
  | [], basis, ir, h, _, _, hl, _ => ⟨h, SpE.of (fun u hu => Sp.mem (.inl hu)) (fun u hu => hu.elim (fun q => Sp.mem q) fun ⟨_, q, _⟩ => (nomatch q)), hl⟩
  | v :: rows, basis, ir, h, k, e, hl, hn => by
    have hv := hn v List.mem_cons_self
    obtain ⟨k1, k2, k3⟩ := insert_spec k (v := whole v) (by rw [whole_len]; exact hv)
    obtain ⟨⟨x, hx, ex⟩, o⟩ := rest_spec h hv
    have zz := rest_zero h hv
    have mulv : ∀ S : Vec → Prop, Sp S (vec (whole v)) ↔ Sp S (qv v) := fun S => by
      have := comq v
      constructor
      · intro q
        refine (q.smul (1 / (com v : Rat))).cast fun i => ?_
        have := vec_whole v i
        grind
      · intro q
        exact (q.smul (com v : Rat)).cast fun i => (vec_whole v i).symm
    have cv : SpE (fun u => (toSys ir).S u ∨ u = vec (whole v)) (fun u => VQ basis u ∨ u = qv v) := by
      refine SpE.of (fun u hu => ?_) (fun u hu => ?_)
      · rcases hu with hu | rfl
        · exact ((e u).mpr (Sp.mem hu)).mono fun _ z => .inl z
        · exact (mulv _).mpr (Sp.mem (.inr rfl))
      · rcases hu with hu | rfl
        · exact ((e u).mp (Sp.mem hu)).mono fun _ z => .inl z
        · exact (mulv _).mp (Sp.mem (.inr rfl))
    -- one step
    have step1 : ∃ b', b' = (if isZ (restQ basis v) then basis else basis ++ [restQ basis v]) ∧ OB n b' ∧ SpE (VQ b') (fun u => VQ basis u ∨ u = qv v) ∧ b'.length = (insertR ir (whole v)).length := by
      refine ⟨_, rfl, ?_⟩
      by_cases z : isZ (restQ basis v) = true
      · rw [if_pos z]
        have hin := zz.mp z
        refine ⟨h, SpE.of (fun u hu => Sp.mem (.inl hu)) (fun u hu => hu.elim (fun q => Sp.mem q) fun q => q ▸ hin), ?_⟩
        rcases k3 with ⟨c1, _⟩ | ⟨_, c2⟩
        · omega
        · exact absurd ((mulv _).mpr ((e _).mp hin)) c2
      · rw [if_neg z]
        have nin : ¬ Sp (VQ basis) (qv v) := fun q => z (zz.mpr q)
        refine ⟨⟨fun u hu => ?_, fun u hu => ?_, ?_⟩, SpE.of (fun u hu => ?_) (fun u hu => ?_), ?_⟩
        · rcases List.mem_append.mp hu with hu | hu
          · exact h.len u hu
          · rw [List.mem_singleton.mp hu, restQ_len]; exact hv
        · rcases List.mem_append.mp hu with hu | hu
          · exact h.nz u hu
          · rw [List.mem_singleton.mp hu]
            intro q
            have q2 := (dot_self _ n).2 q
            refine z (isZ_iff.mpr fun i => ?_)
            by_cases hi : i < n
            · exact q2 i hi
            · exact qe_ge (by rw [restQ_len]; omega)
        · refine List.pairwise_append.mpr ⟨h.orth, by simp, fun u hu w hw => ?_⟩
          rw [List.mem_singleton.mp hw, dot_comm]
          exact o u hu
        · obtain ⟨q, hq, rfl⟩ := hu
          rcases List.mem_append.mp hq with hq | hq
          · exact Sp.mem (.inl ⟨q, hq, rfl⟩)
          · rw [List.mem_singleton.mp hq]
            exact ((Sp.mem (.inr rfl) : Sp (fun u => VQ basis u ∨ u = qv v) (qv v)).plus (hx.mono fun _ y => .inl y)).cast fun i => (ex i).symm
        · rcases hu with ⟨q, hq, rfl⟩ | rfl
          · exact Sp.mem ⟨q, List.mem_append_left _ hq, rfl⟩
          · have m1 : Sp (VQ (basis ++ [restQ basis v])) (qv (restQ basis v)) := Sp.mem ⟨_, List.mem_append_right _ List.mem_cons_self, rfl⟩
            have m2 : Sp (VQ (basis ++ [restQ basis v])) x := hx.mono fun u ⟨q, hq, z⟩ => ⟨q, List.mem_append_left _ hq, z⟩
            refine (m1.plus (m2.smul (-1))).cast fun i => ?_
            have := ex i
            grind
        · rw [List.length_append]
          show basis.length + 1 = _
          rcases k3 with ⟨_, c2⟩ | ⟨c1, _⟩
          · exact absurd ((e _).mpr ((mulv _).mp c2)) nin
          · omega
    obtain ⟨b', eb, h1, h2, h3⟩ := step1
    obtain ⟨r1, r2, r3⟩ := upright_aux rows b' (insertR ir (whole v)) h1 k1 (h2.trans (cv.symm.trans k2.symm)) h3 (fun u hu => hn u (List.mem_cons_of_mem _ hu))
    have eu : uprightF basis (v :: rows) = uprightF b' rows := by rw [eb]; rfl
    rw [eu]
    refine ⟨r1, r2.trans (SpE.of (fun u hu => ?_) (fun u hu => ?_)), r3⟩
    · rcases hu with hu | ⟨q, hq, rfl⟩
      · refine ((h2 u).mp (Sp.mem hu)).trans fun y hy => ?_
        rcases hy with hy | rfl
        · exact Sp.mem (.inl hy)
        · exact Sp.mem (.inr ⟨v, List.mem_cons_self, rfl⟩)
      · exact Sp.mem (.inr ⟨q, List.mem_cons_of_mem _ hq, rfl⟩)
    · have in1 : ∀ y, (VQ basis y ∨ y = qv v) → Sp (fun u => VQ b' u ∨ VQ rows u) y := fun y hy => ((h2 y).mpr (Sp.mem hy)).mono fun _ z => .inl z
      rcases hu with hu | ⟨q, hq, rfl⟩
      · exact in1 u (.inl hu)
      · rcases List.mem_cons.mp hq with rfl | hq
        · exact in1 _ (.inr rfl)
        · exact Sp.mem (.inr ⟨q, hq, rfl⟩)
theorem ob_nil (n : Nat) : OB n [] := ⟨fun _ z => (nomatch z), fun _ z => (nomatch z), List.Pairwise.nil⟩
theorem upright_spec {n : Nat} {rows : List (List Rat)} (h : ∀ v ∈ rows, v.length = n) : OB n (upright rows) ∧ SpE (VQ (upright rows)) (VQ rows) ∧ (upright rows).length = rank (rows.map whole) := by
  obtain ⟨a, b, c⟩ := upright_aux rows [] [] (ob_nil n) (ired_nil n) (SpE.of (fun u ⟨_, q, _⟩ => (nomatch q)) (fun u ⟨_, q⟩ => (nomatch q))) rfl h
  refine ⟨a, b.trans (SpE.of (fun u hu => ?_) fun u hu => Sp.mem (.inr hu)), c⟩
  rcases hu with ⟨_, q, _⟩ | hu
  · cases q
  · exact Sp.mem hu
end M4
/-! ME: bounds of sizes. Plain core Lean. -/
namespace M4

def Bd (x : Int) (e : Nat) : Prop := x.natAbs ≤ 2 ^ e
theorem pow_le {a b : Nat} (h : a ≤ b) : 2 ^ a ≤ 2 ^ b := Nat.pow_le_pow_right (by decide) h
theorem pow_pos' (a : Nat) : 0 < 2 ^ a := Nat.pow_pos (by decide)
theorem Bd.mono {x : Int} {a b : Nat} (h : Bd x a) (k : a ≤ b) : Bd x b := Nat.le_trans h (pow_le k)
theorem Bd.zero (e : Nat) : Bd 0 e := Nat.zero_le _
theorem Bd.neg {x : Int} {e : Nat} (h : Bd x e) : Bd (-x) e := by unfold Bd at *; rw [Int.natAbs_neg]; exact h
theorem Bd.mul {x y : Int} {a b : Nat} (h : Bd x a) (k : Bd y b) : Bd (x * y) (a + b) := by
  unfold Bd at *; rw [Int.natAbs_mul, Nat.pow_add]; exact Nat.mul_le_mul h k
theorem Bd.sub2 {x y : Int} {e : Nat} (h : Bd x e) (k : Bd y e) : Bd (x - y) (e + 1) := by
  unfold Bd at *
  have : (x - y).natAbs ≤ x.natAbs + y.natAbs := Int.natAbs_sub_le x y
  rw [Nat.pow_succ]; omega
theorem Bd.add2 {x y : Int} {e : Nat} (h : Bd x e) (k : Bd y e) : Bd (x + y) (e + 1) := by
  unfold Bd at *
  have : (x + y).natAbs ≤ x.natAbs + y.natAbs := Int.natAbs_add_le x y
  rw [Nat.pow_succ]; omega
theorem Bd.of_mul {t x : Int} {e : Nat} (h : Bd (t * x) e) (ht : t ≠ 0) : Bd x e := by
  unfold Bd at *
  rw [Int.natAbs_mul] at h
  have : 1 ≤ t.natAbs := by omega
  exact Nat.le_trans (Nat.le_mul_of_pos_left _ this) h

/-! ### primitive vectors -/
theorem prim_mul {c : List Int} (hc : vgcd c = 1) {a b : Int} (ha : a ≠ 0) {z : Nat → Int} (h : ∀ i, a * z i = b * ent c i) : ∃ t, (∀ i, z i = t * ent c i) ∧ a * t = b := by
  have hg : Int.gcd a b ≠ 0 := by
    intro q
    exact ha (Int.gcd_eq_zero_iff.mp q).1
  have ga : ((Int.gcd a b : Nat) : Int) ∣ a := Int.gcd_dvd_left a b
  have gb : ((Int.gcd a b : Nat) : Int) ∣ b := Int.gcd_dvd_right a b
  obtain ⟨a', ea⟩ := ga
  obtain ⟨b', eb⟩ := gb
  have g0 : ((Int.gcd a b : Nat) : Int) ≠ 0 := by omega
  have cop : Int.gcd a' b' = 1 := by
    have e1 : Int.gcd a b = Int.gcd a b * Int.gcd a' b' := by
      have : Int.gcd (((Int.gcd a b : Nat) : Int) * a') (((Int.gcd a b : Nat) : Int) * b') = (((Int.gcd a b : Nat) : Int)).natAbs * Int.gcd a' b' := Int.gcd_mul_left _ _ _
      rw [← ea, ← eb] at this
      simpa using this
    have e2 : Int.gcd a b * 1 = Int.gcd a b * Int.gcd a' b' := by omega
    exact (Nat.eq_of_mul_eq_mul_left (Nat.pos_of_ne_zero hg) e2).symm
  have key : ∀ i, a' * z i = b' * ent c i := fun i => by
    have q := h i
    have q2 : ((Int.gcd a b : Nat) : Int) * (a' * z i) = ((Int.gcd a b : Nat) : Int) * (b' * ent c i) := by
      rw [← Int.mul_assoc, ← Int.mul_assoc, ← ea, ← eb]; exact q
    exact Int.eq_of_mul_eq_mul_left g0 q2
  have dv : ∀ i, ((a'.natAbs : Nat) : Int) ∣ ent c i := fun i => by
    have d1 : a' ∣ b' * ent c i := ⟨z i, (key i).symm⟩
    have d3 : a'.natAbs ∣ b'.natAbs * (ent c i).natAbs := by rw [← Int.natAbs_mul]; exact Int.natAbs_dvd_natAbs.mpr d1
    have cop' : Nat.Coprime a'.natAbs b'.natAbs := cop
    have d4 : a'.natAbs ∣ (ent c i).natAbs := cop'.dvd_of_dvd_mul_left d3
    exact Int.natAbs_dvd.mpr (Int.natAbs_dvd_natAbs.mp d4)
  have a1 : a'.natAbs = 1 := by
    have := vgcd_max_ent dv
    rw [hc] at this
    exact Nat.dvd_one.mp this
  have a2 : a' * a' = 1 := by
    rcases Int.natAbs_eq a' with e | e <;> rw [a1] at e <;> rw [e] <;> rfl
  refine ⟨a' * b', fun i => ?_, ?_⟩
  · have := key i
    grind
  · grind
def Prim (zs : List Int) : Prop := vgcd zs = 1 ∨ ∀ i, ent zs i = 0
theorem prim_short (zs : List Int) : Prim (short zs) := by
  by_cases h : vgcd zs = 0
  · refine .inr fun i => ?_
    unfold short
    rw [ent_map (by simp), h]; simp
  · exact .inl (short_prim h)
theorem prim_cleared {v r : List Int} {p : Nat} (h : Prim v) : Prim (cleared v r p) := by
  unfold cleared; split
  · exact h
  · exact prim_short _
theorem prim_clearAll : ∀ (rows : IRows) {v : List Int}, Prim v → Prim (clearAll rows v)
  | [], _, h => h
  | (_, _) :: rows, _, h => prim_clearAll rows (prim_cleared h)
theorem vgcd_scale {zs ws : List Int} {c : Int} (hc : c = 1 ∨ c = -1) (h : ∀ i, ent ws i = c * ent zs i) : vgcd ws = vgcd zs := by
  have d1 : vgcd ws ∣ vgcd zs := vgcd_max_ent fun i => by
    have e : ent zs i = c * ent ws i := by rw [h i]; rcases hc with rfl | rfl <;> omega
    rw [e]; exact Int.dvd_mul_of_dvd_right (vgcd_dvd_ent ws i)
  have d2 : vgcd zs ∣ vgcd ws := vgcd_max_ent fun i => by
    rw [h i]; exact Int.dvd_mul_of_dvd_right (vgcd_dvd_ent zs i)
  exact Nat.dvd_antisymm d1 d2
theorem prim_lead {w : List Int} (h : Prim w) (k : anyNZ w = true) : Prim (leadOf w) := by
  obtain ⟨_, _, c, hc, e⟩ := leadOf_spec k
  rcases h with h | h
  · exact .inl ((vgcd_scale hc e).trans h)
  · exact .inr fun i => by rw [e, h]; simp
def PrimR (rows : IRows) : Prop := ∀ p zs, (p, zs) ∈ rows → Prim zs
theorem prim_insert {rows : IRows} (h : PrimR rows) {v : List Int} (hv : Prim v) : PrimR (insertR rows v) := by
  unfold insertR
  split
  · rename_i k
    intro p zs hm
    rcases List.mem_append.mp hm with hm | hm
    · obtain ⟨⟨q, ys⟩, hq, e⟩ := List.mem_map.mp hm
      cases e
      exact prim_cleared (h q ys hq)
    · have e := List.mem_singleton.mp hm
      cases e
      exact prim_lead (prim_clearAll rows hv) k
  · exact h
theorem prim_elim : ∀ (vs : List (List Int)) {rows : IRows}, PrimR rows → (∀ v ∈ vs, Prim v) → PrimR (elimFrom rows vs)
  | [], _, h, _ => h
  | v :: vs, _, h, k => prim_elim vs (prim_insert h (k v List.mem_cons_self)) fun u hu => k u (List.mem_cons_of_mem _ hu)

/-! ### the elimination's bound -/
structure EB (rows : IRows) (D : Int) (m : Nat) : Prop where
  pos : 0 < D
  le : Bd D m
  row : ∀ p zs, (p, zs) ∈ rows → ∃ t : Int, 0 < t ∧ t * ent zs p = D ∧ ∀ i, Bd (t * ent zs i) m
theorem EB.mono {rows : IRows} {D : Int} {m m' : Nat} (h : EB rows D m) (k : m ≤ m') : EB rows D m' :=
  ⟨h.pos, h.le.mono k, fun p zs hm => let ⟨t, a, b, c⟩ := h.row p zs hm; ⟨t, a, b, fun i => (c i).mono k⟩⟩
theorem EB.entb {rows : IRows} {D : Int} {m : Nat} (h : EB rows D m) {p : Nat} {zs : List Int} (hm : (p, zs) ∈ rows) (i : Nat) : Bd (ent zs i) m := by
  obtain ⟨t, a, _, c⟩ := h.row p zs hm
  exact (c i).of_mul (by omega)
theorem eb_nil (m : Nat) : EB [] 1 m := ⟨by decide, by unfold Bd; exact pow_pos' m, fun _ _ z => (nomatch z)⟩

theorem clear_bd {n : Nat} {rows0 : IRows} {D : Int} {m b : Nat} (h0 : IRed n rows0) (e0 : EB rows0 D m) {v : List Int} (vb : ∀ i, Bd (ent v i) b) :
    ∀ (rows : IRows) (w : List Int) (Z : Nat → Int) (k : Nat), (∀ x ∈ rows, x ∈ rows0) → (rows.map (·.1)).Nodup → w.length = n → (∃ t : Int, 0 < t ∧ ∀ i, Z i = t * ent w i) → (∀ i, (Z i).natAbs ≤ (k + 1) * 2 ^ (m + b)) →
      (∀ p s, (p, s) ∈ rows → Z p = D * ent v p) → ∃ Z' : Nat → Int, (∃ t : Int, 0 < t ∧ ∀ i, Z' i = t * ent (clearAll rows w) i) ∧ ∀ i, (Z' i).natAbs ≤ (k + rows.length + 1) * 2 ^ (m + b)
  | [], w, Z, k, _, _, _, ht, hb, _ => ⟨Z, ht, fun i => hb i⟩
  | (p, r) :: rows, w, Z, k, hs, hnd, hw, ⟨t, ht, et⟩, hb, hz => by
    have hp := hs _ List.mem_cons_self
    have lr := h0.len p r hp
    obtain ⟨tr, htr, etr, btr⟩ := e0.row p r hp
    have rp := h0.pos p r hp
    have nd : p ∉ rows.map (·.1) ∧ (rows.map (·.1)).Nodup := List.nodup_cons.mp hnd
    have D0 := e0.pos
    have Zp := hz p r List.mem_cons_self
    -- the next Z
    have core : ∃ t' : Int, 0 < t' ∧ ∀ i, Z i - ent v p * (tr * ent r i) = t' * ent (cleared w r p) i := by
      have eD : ∀ i, D * (Z i - ent v p * (tr * ent r i)) = t * tr * (ent r p * ent w i - ent w p * ent r i) := fun i => by
        have e1 := et i
        have e2 := et p
        rw [Zp] at e2
        grind
      unfold cleared
      split
      · rename_i wp
        have vp : ent v p = 0 := by
          have e2 := et p
          rw [Zp, wp] at e2
          have e3 : D * ent v p = 0 := by rw [e2]; simp
          rcases Int.mul_eq_zero.mp e3 with q | q
          · omega
          · exact q
        exact ⟨t, ht, fun i => by rw [vp, et i]; simp⟩
      · have hl : w.length = r.length := by omega
        by_cases g0 : vgcd (lc (ent r p) (ent w p) w r) = 0
        · refine ⟨1, by decide, fun i => ?_⟩
          have u0 := vgcd_zero_ent g0 i
          rw [ent_lc hl] at u0
          have c0 : ent (short (lc (ent r p) (ent w p) w r)) i = 0 := by
            unfold short; rw [ent_map (by simp), g0]; simp
          rw [c0]
          have := eD i
          rw [u0] at this
          have e3 : D * (Z i - ent v p * (tr * ent r i)) = 0 := by rw [this]; simp
          rcases Int.mul_eq_zero.mp e3 with q | q
          · omega
          · rw [q]; rfl
        · have eg : ∀ i, D * (Z i - ent v p * (tr * ent r i)) = (t * tr * ((vgcd (lc (ent r p) (ent w p) w r) : Nat) : Int)) * ent (short (lc (ent r p) (ent w p) w r)) i := fun i => by
            rw [eD i, ← ent_lc hl, ← ent_short (lc (ent r p) (ent w p) w r) i]; grind
          obtain ⟨t', h1, h2⟩ := prim_mul (short_prim g0) (by omega : D ≠ 0) eg
          have gp : (0 : Int) < ((vgcd (lc (ent r p) (ent w p) w r) : Nat) : Int) := Int.natCast_pos.mpr (Nat.pos_of_ne_zero g0)
          have hpos : 0 < D * t' := by rw [h2]; exact Int.mul_pos (Int.mul_pos ht htr) gp
          exact ⟨t', Int.pos_of_mul_pos_right hpos D0, h1⟩
    obtain ⟨Z', q1, q2⟩ := clear_bd h0 e0 vb rows (cleared w r p) (fun i => Z i - ent v p * (tr * ent r i)) (k + 1) (fun x hx => hs x (List.mem_cons_of_mem _ hx)) nd.2 (by rw [cleared_len (by omega)]; exact hw) core
      (fun i => by
        have a1 := hb i
        have a2 : Bd (ent v p * (tr * ent r i)) (b + m) := (vb p).mul (btr i)
        unfold Bd at a2
        have a3 : (Z i - ent v p * (tr * ent r i)).natAbs ≤ (Z i).natAbs + (ent v p * (tr * ent r i)).natAbs := Int.natAbs_sub_le _ _
        rw [Nat.add_comm b m] at a2
        show (Z i - ent v p * (tr * ent r i)).natAbs ≤ _
        have a4 : (k + 1 + 1) * 2 ^ (m + b) = (k + 1) * 2 ^ (m + b) + 2 ^ (m + b) := by rw [Nat.add_mul, Nat.one_mul]
        omega)
      (fun q s hq => by
        have hne : q ≠ p := fun e => nd.1 (List.mem_map.mpr ⟨(q, s), hq, e⟩)
        have o := h0.off p r hp q s (hs _ (List.mem_cons_of_mem _ hq)) hne
        show Z q - ent v p * (tr * ent r q) = _
        rw [o, hz q s (List.mem_cons_of_mem _ hq)]; simp)
    refine ⟨Z', q1, fun i => ?_⟩
    have := q2 i
    rw [List.length_cons]
    have e : k + 1 + rows.length + 1 = k + (rows.length + 1) + 1 := by omega
    rw [e] at this
    exact this
theorem clear_start {n : Nat} {rows0 : IRows} {D : Int} {m b : Nat} (h0 : IRed n rows0) (e0 : EB rows0 D m) {v : List Int} (hv : v.length = n) (vb : ∀ i, Bd (ent v i) b) {rows : IRows} (hs : ∀ x ∈ rows, x ∈ rows0) (nd : (rows.map (·.1)).Nodup) :
    ∃ Z : Nat → Int, (∃ t : Int, 0 < t ∧ ∀ i, Z i = t * ent (clearAll rows v) i) ∧ ∀ i, (Z i).natAbs ≤ (rows.length + 1) * 2 ^ (m + b) := by
  obtain ⟨Z, a, c⟩ := clear_bd h0 e0 vb rows v (fun i => D * ent v i) 0 hs nd hv ⟨D, e0.pos, fun _ => rfl⟩
    (fun i => by
      have : Bd (D * ent v i) (m + b) := e0.le.mul (vb i)
      unfold Bd at this
      show (D * ent v i).natAbs ≤ _
      rw [Nat.zero_add, Nat.one_mul]; exact this) (fun _ _ _ => rfl)
  refine ⟨Z, a, fun i => ?_⟩
  have := c i
  rw [Nat.zero_add] at this
  exact this
/-- what is cleared stays small -/
theorem clear_small {n : Nat} {rows0 : IRows} {D : Int} {m b : Nat} (h0 : IRed n rows0) (e0 : EB rows0 D m) {v : List Int} (hv : v.length = n) (vb : ∀ i, Bd (ent v i) b) {rows : IRows} (hs : ∀ x ∈ rows, x ∈ rows0) (nd : (rows.map (·.1)).Nodup) (hl : rows.length ≤ 7) (i : Nat) :
    Bd (ent (clearAll rows v) i) (m + b + 3) := by
  obtain ⟨Z, ⟨t, ht, e⟩, c⟩ := clear_start h0 e0 hv vb hs nd
  have : Bd (t * ent (clearAll rows v) i) (m + b + 3) := by
    rw [← e i]
    unfold Bd
    have h1 := c i
    have h2 : (rows.length + 1) * 2 ^ (m + b) ≤ 2 ^ 3 * 2 ^ (m + b) := Nat.mul_le_mul (by omega) (Nat.le_refl _)
    rw [Nat.pow_add 2 (m + b) 3, Nat.mul_comm]
    omega
  exact this.of_mul (by omega)
theorem insert_bd {n : Nat} {rows : IRows} {D : Int} {m b : Nat} (h : IRed n rows) (e0 : EB rows D m) {v : List Int} (hv : v.length = n) (vb : ∀ i, Bd (ent v i) b) (hl : rows.length ≤ 7) :
    (insertR rows v).length = rows.length ∧ insertR rows v = rows ∨ (insertR rows v).length = rows.length + 1 ∧ ∃ D', EB (insertR rows v) D' (2 * m + b + 4) := by
  obtain ⟨Z, ⟨t, ht, e⟩, c⟩ := clear_start h e0 hv vb (fun _ z => z) h.nodup
  have hw : (clearAll rows v).length = n := clearAll_len h rows v (fun _ z => z) hv
  have hz : ∀ q s, (q, s) ∈ rows → ent (clearAll rows v) q = 0 := fun q s hq => clearAll_zero h rows v (fun _ z => z) hv q s hq (.inr ⟨s, hq⟩)
  have Zb : ∀ i, Bd (Z i) (m + b + 3) := fun i => by
    unfold Bd
    have h1 := c i
    have h2 : (rows.length + 1) * 2 ^ (m + b) ≤ 2 ^ 3 * 2 ^ (m + b) := Nat.mul_le_mul (by omega) (Nat.le_refl _)
    rw [Nat.pow_add 2 (m + b) 3, Nat.mul_comm]
    omega
  unfold insertR
  generalize clearAll rows v = w at *
  cases k : anyNZ w with
  | false => exact .inl ⟨rfl, by rw [if_neg (by decide)]⟩
  | true =>
    rw [if_pos rfl]
    refine .inr ⟨by rw [List.length_append, List.length_map]; rfl, ?_⟩
    obtain ⟨l1, l2, l3⟩ := firstPl_spec k
    obtain ⟨m1, m2, cc, hc, m3⟩ := leadOf_spec k
    generalize leadOf w = ld at *
    generalize firstPl w = at_ at *
    have cz : ∀ i, cc * Z i = t * ent ld i := fun i => by rw [e i, m3 i]; grind
    have czb : ∀ i, Bd (cc * Z i) (m + b + 3) := fun i => by
      rcases hc with rfl | rfl
      · rw [Int.one_mul]; exact Zb i
      · have := (Zb i).neg
        rw [show (-1 : Int) * Z i = - Z i by omega]; exact this
    have lead0 : ∀ p zs, (p, zs) ∈ rows → ent ld p = 0 := fun p zs hp => by rw [m3, hz p zs hp]; simp
    have czpos : 0 < cc * Z at_ := by rw [cz]; exact Int.mul_pos ht m2
    have D0 := e0.pos
    refine ⟨D * (cc * Z at_), Int.mul_pos D0 czpos, ((e0.le.mul (czb at_))).mono (by omega), fun p zs hm => ?_⟩
    rcases List.mem_append.mp hm with hm | hm
    · obtain ⟨⟨q, ys⟩, hq, ee⟩ := List.mem_map.mp hm
      cases ee
      obtain ⟨tp, htp, etp, btp⟩ := e0.row q ys hq
      obtain ⟨g, hg, eg⟩ := cleared_spec (v := ys) (r := ld) (p := at_) (by rw [h.len q ys hq, m1, hw]) m2
      have key : ∀ i, (tp * t * g) * ent (cleared ys ld at_) i = (cc * Z at_) * (tp * ent ys i) - (tp * ent ys at_) * (cc * Z i) := fun i => by
        have := eg i
        have := cz i
        have := cz at_
        grind
      refine ⟨tp * t * g, Int.mul_pos (Int.mul_pos htp ht) hg, ?_, fun i => ?_⟩
      · rw [key q, cz q, lead0 q ys hq, etp]; grind
      · rw [key i]
        have b1 : Bd ((cc * Z at_) * (tp * ent ys i)) (m + b + 3 + m) := (czb at_).mul (btp i)
        have b2 : Bd ((tp * ent ys at_) * (cc * Z i)) (m + b + 3 + m) := ((btp at_).mul (czb i)).mono (by omega)
        exact (b1.sub2 b2).mono (by omega)
    · have ee := List.mem_singleton.mp hm
      cases ee
      refine ⟨D * t, Int.mul_pos D0 ht, ?_, fun i => ?_⟩
      · rw [cz at_]; grind
      · rw [show D * t * ent ld i = D * (cc * Z i) by rw [cz i]; grind]
        exact (e0.le.mul (czb i)).mono (by omega)
/-- the exponents by the count of rows -/
def mk_ (b : Nat) : Nat → Nat
  | 0 => 0
  | k + 1 => 2 * mk_ b k + b + 4
theorem mk_mono (b : Nat) {j k : Nat} (h : j ≤ k) : mk_ b j ≤ mk_ b k := by
  induction k with
  | zero => have : j = 0 := by omega
            rw [this]; exact Nat.le_refl _
  | succ k ih =>
    by_cases e : j = k + 1
    · rw [e]; exact Nat.le_refl _
    · have := ih (by omega)
      show mk_ b j ≤ 2 * mk_ b k + b + 4
      omega
theorem mk_le_b {b b' : Nat} (h : b ≤ b') : ∀ k, mk_ b k ≤ mk_ b' k
  | 0 => Nat.le_refl _
  | k + 1 => by
    have := mk_le_b h k
    show 2 * mk_ b k + b + 4 ≤ 2 * mk_ b' k + b' + 4
    omega
theorem IRed.count {n : Nat} {rows : IRows} (h : IRed n rows) : rows.length ≤ n := by
  have h1 : (rows.map (·.1)) ⊆ List.range n := fun p hp => by
    obtain ⟨⟨q, zs⟩, hq, rfl⟩ := List.mem_map.mp hp
    exact List.mem_range.mpr (h.lt hq)
  have h2 := List.Nodup.length_le_of_subset h.nodup h1
  simpa using h2
theorem elim_bd {n b : Nat} (hn : n ≤ 7) : ∀ (vs : List (List Int)) (rows : IRows), IRed n rows → (∃ D, EB rows D (mk_ b rows.length)) → (∀ v ∈ vs, v.length = n) → (∀ v ∈ vs, ∀ i, Bd (ent v i) b) →
    ∃ D, EB (elimFrom rows vs) D (mk_ b (elimFrom rows vs).length)
  | [], _, _, h, _, _ => h
  | v :: vs, rows, h, ⟨D, e⟩, hl, hb => by
    obtain ⟨a, _, _⟩ := insert_spec h (hl v List.mem_cons_self)
    have hc := h.count
    refine elim_bd hn vs (insertR rows v) a ?_ (fun u hu => hl u (List.mem_cons_of_mem _ hu)) (fun u hu => hb u (List.mem_cons_of_mem _ hu))
    rcases insert_bd h e (hl v List.mem_cons_self) (hb v List.mem_cons_self) (by omega) with ⟨_, q⟩ | ⟨q, D', q'⟩
    · rw [q]; exact ⟨D, e⟩
    · rw [q]; exact ⟨D', q'⟩
/-- primitive rows are bounded by any elimination of the same span -/
theorem canon_bd {n : Nat} {rows rows' : IRows} {D : Int} {m : Nat} (h : IRed n rows) (hp : PrimR rows) (h' : IRed n rows') (e' : EB rows' D m) (e : SpE (toSys rows).S (toSys rows').S) :
    EB rows D m := by
  refine ⟨e'.pos, e'.le, fun p zs hm => ?_⟩
  obtain ⟨r', hr'⟩ := red_places h.red h'.red e (mem_toSys.mpr ⟨zs, hm, rfl⟩)
  obtain ⟨ws, hw, rfl⟩ := mem_toSys.mp hr'
  obtain ⟨t, ht, et, bt⟩ := e'.row p ws hw
  have zp := h.pos p zs hm
  have D0 := e'.pos
  have prim : vgcd zs = 1 := by
    rcases hp p zs hm with q | q
    · exact q
    · have := q p; omega
  have key : ∀ i, ent zs p * (t * ent ws i) = D * ent zs i := fun i => by
    have q := red_same h.red h'.red e (mem_toSys.mpr ⟨zs, hm, rfl⟩) (mem_toSys.mpr ⟨ws, hw, rfl⟩) i
    unfold vec at q
    rw [← Rat.intCast_mul, ← Rat.intCast_mul] at q
    have q2 := Rat.intCast_inj.mp q
    grind
  obtain ⟨s, h1, h2⟩ := prim_mul prim (by omega : ent zs p ≠ 0) key
  refine ⟨s, ?_, ?_, fun i => ?_⟩
  · have : 0 < ent zs p * s := by omega
    exact Int.pos_of_mul_pos_right this zp
  · rw [Int.mul_comm]; exact h2
  · rw [← h1 i]; exact bt i
end M4
/-! MF: bounds of ratios. Plain core Lean. -/
namespace M4

def SB (q : Rat) (e : Nat) : Prop := q.num.natAbs ≤ 2 ^ e ∧ q.den ≤ 2 ^ e
theorem SB.mono {q : Rat} {a b : Nat} (h : SB q a) (k : a ≤ b) : SB q b := ⟨Nat.le_trans h.1 (pow_le k), Nat.le_trans h.2 (pow_le k)⟩
theorem SB.num {q : Rat} {a : Nat} (h : SB q a) : Bd q.num a := h.1
theorem SB.den {q : Rat} {a : Nat} (h : SB q a) : Bd (q.den : Int) a := by unfold Bd; rw [Int.natAbs_natCast]; exact h.2
theorem natq {E : Nat} (h : 0 < E) : ((E : Nat) : Rat) ≠ 0 := fun z => by
  have := (Rat.natCast_eq_zero_iff).mp z
  omega
theorem rat_eq (q : Rat) : (q.den : Rat) * q = (q.num : Rat) := by
  have hd := natq (Nat.pos_of_ne_zero q.den_nz)
  have hq : q = (q.num : Rat) / (q.den : Rat) := by rw [← Rat.mkRat_eq_div, Rat.mkRat_self]
  grind
theorem den_of {q : Rat} {E : Nat} {z : Int} (h : (E : Rat) * q = (z : Rat)) : q.den ∣ E ∧ q.num * ((E / q.den : Nat) : Int) = z := by
  have hd := natq (Nat.pos_of_ne_zero q.den_nz)
  have e := rat_eq q
  have e2 : ((E : Int) * q.num : Int) = z * (q.den : Int) := by
    have : (((E : Int) * q.num : Int) : Rat) = ((z * (q.den : Int) : Int) : Rat) := by
      rw [Rat.intCast_mul, Rat.intCast_mul]
      have c1 : (((E : Nat) : Int) : Rat) = (E : Rat) := rfl
      have c2 : (((q.den : Nat) : Int) : Rat) = (q.den : Rat) := rfl
      rw [c1, c2]
      grind
    exact Rat.intCast_inj.mp this
  have d1 : q.den ∣ E := by
    have a : q.den ∣ E * q.num.natAbs := by
      have : (q.den : Int) ∣ (E : Int) * q.num := ⟨z, by rw [e2, Int.mul_comm]⟩
      have := Int.natAbs_dvd_natAbs.mpr this
      rw [Int.natAbs_mul] at this
      simpa using this
    exact (Nat.Coprime.symm q.reduced).dvd_of_dvd_mul_right a
  refine ⟨d1, ?_⟩
  have := num_mul q d1
  rw [h] at this
  exact Rat.intCast_inj.mp this
theorem sb_of {q : Rat} {E : Nat} {z : Int} {e : Nat} (hE : 0 < E) (h : (E : Rat) * q = (z : Rat)) (b1 : E ≤ 2 ^ e) (b2 : Bd z e) : SB q e := by
  obtain ⟨d, n⟩ := den_of h
  refine ⟨?_, Nat.le_trans (Nat.le_of_dvd hE d) b1⟩
  have h1 : 0 < E / q.den := Nat.div_pos (Nat.le_of_dvd hE d) (Nat.pos_of_ne_zero q.den_nz)
  unfold Bd at b2
  rw [← n, Int.natAbs_mul, Int.natAbs_natCast] at b2
  exact Nat.le_trans (Nat.le_mul_of_pos_right _ h1) b2
theorem sb_int (z : Int) {e : Nat} (h : Bd z e) : SB (z : Rat) e := ⟨h, pow_pos' e⟩
theorem sb_zero (e : Nat) : SB 0 e := ⟨Nat.zero_le _, pow_pos' e⟩
/-- a quotient of ints is small -/
theorem sb_div {n d : Int} {a b : Nat} (hn : Bd n a) (hd : Bd d b) (h0 : d ≠ 0) : SB ((n : Rat) / (d : Rat)) (max a b) := by
  have hdq : ((d : Int) : Rat) ≠ 0 := fun z => h0 (cast0.mp z)
  refine sb_of (E := d.natAbs) (z := d.sign * n) (by omega) ?_ (Nat.le_trans hd (pow_le (Nat.le_max_right a b))) ?_
  · rw [Rat.intCast_mul]
    have : ((d.natAbs : Nat) : Rat) = ((d.sign : Int) : Rat) * (d : Rat) := by
      have q : ((d.natAbs : Nat) : Int) = d.sign * d := (Int.sign_mul_self d).symm
      have q2 : (((d.natAbs : Nat) : Int) : Rat) = ((d.sign * d : Int) : Rat) := by rw [q]
      rw [Rat.intCast_mul] at q2
      exact q2
    rw [this]
    grind
  · refine Bd.mono ?_ (Nat.le_max_left a b)
    unfold Bd at *
    rw [Int.natAbs_mul]
    have : d.sign.natAbs ≤ 1 := by
      rw [Int.natAbs_sign]; split <;> omega
    exact Nat.le_trans (Nat.mul_le_mul this (Nat.le_refl _)) (by omega)
theorem SB.mul {x y : Rat} {a b : Nat} (h : SB x a) (k : SB y b) : SB (x * y) (a + b) := by
  have e1 := rat_eq x
  have e2 := rat_eq y
  refine sb_of (E := x.den * y.den) (z := x.num * y.num) (Nat.mul_pos (Nat.pos_of_ne_zero x.den_nz) (Nat.pos_of_ne_zero y.den_nz)) ?_ ?_ (h.num.mul k.num)
  · rw [Rat.natCast_mul, Rat.intCast_mul]; grind
  · rw [Nat.pow_add]; exact Nat.mul_le_mul h.2 k.2
theorem SB.add {x y : Rat} {a b : Nat} (h : SB x a) (k : SB y b) : SB (x + y) (a + b + 1) := by
  have e1 := rat_eq x
  have e2 := rat_eq y
  refine sb_of (E := x.den * y.den) (z := x.num * (y.den : Int) + y.num * (x.den : Int)) (Nat.mul_pos (Nat.pos_of_ne_zero x.den_nz) (Nat.pos_of_ne_zero y.den_nz)) ?_ ?_ ?_
  · rw [Rat.natCast_mul, Rat.intCast_add, Rat.intCast_mul, Rat.intCast_mul]
    have c1 : (((x.den : Nat) : Int) : Rat) = (x.den : Rat) := rfl
    have c2 : (((y.den : Nat) : Int) : Rat) = (y.den : Rat) := rfl
    rw [c1, c2]; grind
  · refine Nat.le_trans ?_ (pow_le (Nat.le_succ _))
    rw [Nat.pow_add]; exact Nat.mul_le_mul h.2 k.2
  · exact (h.num.mul k.den).add2 ((k.num.mul h.den).mono (by omega))
theorem SB.div {x y : Rat} {a b : Nat} (h : SB x a) (k : SB y b) : SB (x / y) (a + b) := by
  by_cases y0 : y = 0
  · rw [y0, show x / (0 : Rat) = 0 by grind]; exact sb_zero _
  · have e1 := rat_eq x
    have e2 := rat_eq y
    have yn : y.num ≠ 0 := fun z => y0 (Rat.num_eq_zero.mp z)
    have xd := natq (Nat.pos_of_ne_zero x.den_nz)
    have yd := natq (Nat.pos_of_ne_zero y.den_nz)
    have ynq : ((y.num : Int) : Rat) ≠ 0 := fun z => yn (cast0.mp z)
    have q : x / y = ((x.num * (y.den : Int) : Int) : Rat) / (((x.den : Int) * y.num : Int) : Rat) := by
      rw [Rat.intCast_mul, Rat.intCast_mul]
      have c1 : (((x.den : Nat) : Int) : Rat) = (x.den : Rat) := rfl
      have c2 : (((y.den : Nat) : Int) : Rat) = (y.den : Rat) := rfl
      rw [c1, c2]; grind
    rw [q]
    refine (sb_div (h.num.mul k.den) (h.den.mul k.num) ?_).mono (by omega)
    intro z
    rcases Int.mul_eq_zero.mp z with z | z
    · have := x.den_nz; omega
    · exact yn z

/-! ### rows of ratios with a common denominator -/
def BQ (qs : List Rat) (m : Nat) : Prop := ∃ E : Nat, 0 < E ∧ E ≤ 2 ^ m ∧ ∀ i, ∃ z : Int, (E : Rat) * qe qs i = (z : Rat) ∧ Bd z m
theorem BQ.mono {qs : List Rat} {a b : Nat} (h : BQ qs a) (k : a ≤ b) : BQ qs b := by
  obtain ⟨E, h1, h2, h3⟩ := h
  exact ⟨E, h1, Nat.le_trans h2 (pow_le k), fun i => let ⟨z, a, c⟩ := h3 i; ⟨z, a, c.mono k⟩⟩
theorem BQ.sb {qs : List Rat} {m : Nat} (h : BQ qs m) (i : Nat) : SB (qe qs i) m := by
  obtain ⟨E, h1, h2, h3⟩ := h
  obtain ⟨z, a, c⟩ := h3 i
  exact sb_of h1 a h2 c
theorem BQ.mem {qs : List Rat} {m : Nat} (h : BQ qs m) {q : Rat} (hq : q ∈ qs) : SB q m := by
  obtain ⟨i, hi, e⟩ := List.getElem_of_mem hq
  have := h.sb i
  rw [qe_lt hi, e] at this
  exact this
theorem BQ.whole {qs : List Rat} {m : Nat} (h : BQ qs m) : com qs ≤ 2 ^ m ∧ ∀ i, Bd (ent (whole qs) i) m := by
  obtain ⟨E, h1, h2, h3⟩ := h
  have d : com qs ∣ E := com_min fun q hq => by
    obtain ⟨i, hi, e⟩ := List.getElem_of_mem hq
    obtain ⟨z, a, _⟩ := h3 i
    rw [qe_lt hi, e] at a
    exact (den_of a).1
  refine ⟨Nat.le_trans (Nat.le_of_dvd h1 d) h2, fun i => ?_⟩
  obtain ⟨z, a, c⟩ := h3 i
  obtain ⟨k, ek⟩ := d
  have hk : k ≠ 0 := by
    intro z
    rw [z] at ek
    omega
  have e : (k : Int) * ent (M4.whole qs) i = z := by
    have v := vec_whole qs i
    unfold vec qv at v
    have : (((k : Int) * ent (M4.whole qs) i : Int) : Rat) = (z : Rat) := by
      rw [Rat.intCast_mul, v, ← a, ek, Rat.natCast_mul]
      have c1 : (((k : Nat) : Int) : Rat) = (k : Rat) := rfl
      rw [c1]; grind
    exact Rat.intCast_inj.mp this
  have b : Bd ((k : Int) * ent (M4.whole qs) i) m := by rw [e]; exact c
  exact b.of_mul (by omega)
theorem ratRow_len (p : Nat) (zs : List Int) : (ratRow p zs).length = zs.length := List.length_map _
theorem qe_ratRow {p : Nat} {zs : List Int} (i : Nat) : qe (ratRow p zs) i = vec zs i / vec zs p := by
  by_cases h : i < zs.length
  · rw [qe_lt (by rw [ratRow_len]; exact h)]
    unfold ratRow vec
    rw [List.getElem_map, ent_lt h]
  · rw [qe_ge (by rw [ratRow_len]; omega)]
    unfold vec
    rw [ent_ge (by omega : zs.length ≤ i)]
    show (0 : Rat) = ((0 : Int) : Rat) / _
    have : ((0 : Int) : Rat) = 0 := rfl
    rw [this]; grind
theorem EB.bq {rows : IRows} {D : Int} {m : Nat} (h : EB rows D m) {p : Nat} {zs : List Int} (hm : (p, zs) ∈ rows) : BQ (ratRow p zs) m := by
  obtain ⟨t, ht, et, bt⟩ := h.row p zs hm
  have D0 := h.pos
  have zp : ent zs p ≠ 0 := fun z => by rw [z] at et; simp at et; omega
  refine ⟨D.toNat, by omega, ?_, fun i => ⟨t * ent zs i, ?_, bt i⟩⟩
  · have := h.le
    unfold Bd at this
    omega
  · rw [qe_ratRow]
    have c : ((D.toNat : Nat) : Rat) = ((D : Int) : Rat) := by
      have : ((D.toNat : Nat) : Int) = D := Int.toNat_of_nonneg (by omega)
      have c2 : (((D.toNat : Nat) : Int) : Rat) = ((D : Int) : Rat) := by rw [this]
      exact c2
    have zq : ((ent zs p : Int) : Rat) ≠ 0 := fun z => zp (cast0.mp z)
    have e2 : ((D : Int) : Rat) = (t : Rat) * (ent zs p : Rat) := by rw [← et, Rat.intCast_mul]
    rw [c, e2, Rat.intCast_mul]
    unfold vec
    grind
theorem BQ.addQ {l r : List Rat} {a b : Nat} {f : Rat} {c : Int} (h : BQ l a) (k : BQ r b) (hf : (3 : Rat) * f = (c : Rat)) (hc : c.natAbs ≤ 4) : BQ (addQ l r f) (a + b + 3) := by
  obtain ⟨E, h1, h2, h3⟩ := h
  obtain ⟨F, k1, k2, k3⟩ := k
  have hEF : E * F ≤ 2 ^ (a + b) := by rw [Nat.pow_add]; exact Nat.mul_le_mul h2 k2
  have p0 := pow_pos' (a + b)
  have pe : 2 ^ (a + b + 3) = 8 * 2 ^ (a + b) := by rw [Nat.pow_add]; omega
  refine ⟨3 * (E * F), by have := Nat.mul_pos h1 k1; omega, by omega, fun i => ?_⟩
  by_cases hi : i < l.length
  · obtain ⟨y, hy, by_⟩ := h3 i
    obtain ⟨z, hz, bz⟩ := k3 i
    refine ⟨3 * ((F : Int) * y) + c * ((E : Int) * z), ?_, ?_⟩
    · rw [qe_addQ hi, Rat.natCast_mul, Rat.natCast_mul, Rat.intCast_add, Rat.intCast_mul, Rat.intCast_mul, Rat.intCast_mul, Rat.intCast_mul, ← hy, ← hz, ← hf]
      have c1 : (((E : Nat) : Int) : Rat) = (E : Rat) := rfl
      have c2 : (((F : Nat) : Int) : Rat) = (F : Rat) := rfl
      have c3 : ((3 : Int) : Rat) = 3 := rfl
      have c4 : ((3 : Nat) : Rat) = 3 := rfl
      rw [c1, c2, c3, c4]; grind
    · have q1 : Bd ((F : Int) * y) (b + a) := (show Bd (F : Int) b by unfold Bd; rw [Int.natAbs_natCast]; exact k2).mul by_
      have q2 : Bd ((E : Int) * z) (a + b) := (show Bd (E : Int) a by unfold Bd; rw [Int.natAbs_natCast]; exact h2).mul bz
      unfold Bd at *
      rw [Nat.add_comm b a] at q1
      have t1 : (3 * ((F : Int) * y) + c * ((E : Int) * z)).natAbs ≤ (3 * ((F : Int) * y)).natAbs + (c * ((E : Int) * z)).natAbs := Int.natAbs_add_le _ _
      rw [Int.natAbs_mul 3, Int.natAbs_mul c] at t1
      have t2 : c.natAbs * ((E : Int) * z).natAbs ≤ 4 * 2 ^ (a + b) := Nat.mul_le_mul hc q2
      have t3 : (3 : Int).natAbs = 3 := rfl
      rw [t3] at t1
      omega
  · exact ⟨0, by rw [qe_ge (by rw [addQ_len]; omega)]; show _ = (0 : Rat); grind, Bd.zero _⟩
theorem dot_int {l r : List Rat} {E F : Nat} {a b : Nat} (h : ∀ i, ∃ z : Int, (E : Rat) * qe l i = (z : Rat) ∧ Bd z a) (k : ∀ i, ∃ z : Int, (F : Rat) * qe r i = (z : Rat) ∧ Bd z b) :
    ∀ n, ∃ z : Int, ((E * F : Nat) : Rat) * dotN (qv l) (qv r) n = (z : Rat) ∧ z.natAbs ≤ n * 2 ^ (a + b)
  | 0 => ⟨0, by show _ * (0 : Rat) = 0; grind, by simp⟩
  | n + 1 => by
    obtain ⟨z, ez, bz⟩ := dot_int h k n
    obtain ⟨x, ex, bx⟩ := h n
    obtain ⟨y, ey, by_⟩ := k n
    refine ⟨z + x * y, ?_, ?_⟩
    · show ((E * F : Nat) : Rat) * (dotN (qv l) (qv r) n + qe l n * qe r n) = _
      rw [Rat.intCast_add, Rat.intCast_mul, ← ez, ← ex, ← ey, Rat.natCast_mul]; grind
    · have q := bx.mul by_
      unfold Bd at q
      have t1 : (z + x * y).natAbs ≤ z.natAbs + (x * y).natAbs := Int.natAbs_add_le _ _
      rw [Nat.add_mul, Nat.one_mul]; omega
theorem BQ.dot {l r : List Rat} {a b : Nat} (h : BQ l a) (k : BQ r b) {n : Nat} (hn : n ≤ 8) : SB (dotN (qv l) (qv r) n) (a + b + 3) := by
  obtain ⟨E, h1, h2, h3⟩ := h
  obtain ⟨F, k1, k2, k3⟩ := k
  obtain ⟨z, ez, bz⟩ := dot_int h3 k3 n
  have hEF : E * F ≤ 2 ^ (a + b) := by rw [Nat.pow_add]; exact Nat.mul_le_mul h2 k2
  have pe : 2 ^ (a + b + 3) = 8 * 2 ^ (a + b) := by rw [Nat.pow_add]; omega
  refine sb_of (Nat.mul_pos h1 k1) ez (by omega) ?_
  unfold Bd
  have : n * 2 ^ (a + b) ≤ 8 * 2 ^ (a + b) := Nat.mul_le_mul hn (Nat.le_refl _)
  omega
theorem BQ.step {rest row : List Rat} {a u : Nat} (h : BQ rest a) (k : BQ row u) (hl : row.length = rest.length) (hn : rest.length ≤ 7) (nz : dotQ row row ≠ 0) : BQ (step rest row) (a + 2 * u + 4) := by
  obtain ⟨E, h1, h2, h3⟩ := h
  obtain ⟨F, k1, k2, k3⟩ := k
  obtain ⟨s, es, bs⟩ := dot_int h3 k3 rest.length
  obtain ⟨N, eN, bN⟩ := dot_int k3 k3 row.length
  have Eq := natq h1
  have Fq := natq k1
  have dself := (dot_self (qv row) row.length).1
  have N0 : N ≠ 0 := fun z => by
    rw [z] at eN
    have e2 : ((F * F : Nat) : Rat) * dotQ row row = 0 := eN
    rw [Rat.natCast_mul] at e2
    grind
  have Npos : 0 < N := by
    have FF : (0 : Rat) ≤ ((F * F : Nat) : Rat) := Rat.natCast_nonneg
    have e2 : (0 : Rat) ≤ (N : Rat) := by rw [← eN]; exact Rat.mul_nonneg FF dself
    have := Rat.intCast_nonneg.mp e2
    omega
  have p0 := pow_pos' (2 * u)
  have p1 := pow_pos' (a + 2 * u)
  have uu : 2 ^ (u + u) = 2 ^ (2 * u) := by rw [show u + u = 2 * u by omega]
  have pe : 2 ^ (a + 2 * u + 4) = 16 * 2 ^ (a + 2 * u) := by rw [Nat.pow_add]; omega
  have pa : 2 ^ (a + 2 * u) = 2 ^ a * 2 ^ (2 * u) := Nat.pow_add ..
  have bN' : N.natAbs ≤ 7 * 2 ^ (2 * u) := by
    rw [uu] at bN
    exact Nat.le_trans bN (Nat.mul_le_mul (by omega) (Nat.le_refl _))
  have bs' : s.natAbs ≤ 7 * 2 ^ (a + u) := Nat.le_trans bs (Nat.mul_le_mul hn (Nat.le_refl _))
  refine ⟨E * N.natAbs, Nat.mul_pos h1 (by omega), ?_, fun i => ?_⟩
  · have : E * N.natAbs ≤ 2 ^ a * (7 * 2 ^ (2 * u)) := Nat.mul_le_mul h2 bN'
    have e : 2 ^ a * (7 * 2 ^ (2 * u)) = 7 * 2 ^ (a + 2 * u) := by rw [pa]; generalize 2 ^ a = x; generalize 2 ^ (2 * u) = y; grind
    omega
  · by_cases hi : i < rest.length
    · obtain ⟨x, ex, bx⟩ := h3 i
      obtain ⟨y, ey, by_⟩ := k3 i
      refine ⟨N * x - s * y, ?_, ?_⟩
      · have q : qe (M4.step rest row) i = qe rest i + (-1 * (dotQ rest row / dotQ row row)) * qe row i := qe_addQ hi
        have c1 : ((N.natAbs : Nat) : Rat) = (N : Rat) := by
          have : ((N.natAbs : Nat) : Int) = N := Int.natAbs_of_nonneg (by omega)
          have c2 : (((N.natAbs : Nat) : Int) : Rat) = ((N : Int) : Rat) := by rw [this]
          exact c2
        rw [q, Rat.natCast_mul, c1, Rat.intCast_sub, Rat.intCast_mul, Rat.intCast_mul, ← ex, ← ey, ← es, ← eN, Rat.natCast_mul, Rat.natCast_mul]
        have d1 : dotN (qv rest) (qv row) rest.length = dotQ rest row := rfl
        have d2 : dotN (qv row) (qv row) row.length = dotQ row row := rfl
        rw [d1, d2]
        grind
      · unfold Bd at *
        have t1 : (N * x - s * y).natAbs ≤ (N * x).natAbs + (s * y).natAbs := Int.natAbs_sub_le _ _
        rw [Int.natAbs_mul, Int.natAbs_mul] at t1
        have t2 : N.natAbs * x.natAbs ≤ (7 * 2 ^ (2 * u)) * 2 ^ a := Nat.mul_le_mul bN' bx
        have t3 : s.natAbs * y.natAbs ≤ (7 * 2 ^ (a + u)) * 2 ^ u := Nat.mul_le_mul bs' by_
        have e1 : (7 * 2 ^ (2 * u)) * 2 ^ a = 7 * 2 ^ (a + 2 * u) := by rw [pa]; generalize 2 ^ a = x; generalize 2 ^ (2 * u) = y; grind
        have e2 : (7 * 2 ^ (a + u)) * 2 ^ u = 7 * 2 ^ (a + 2 * u) := by
          rw [show a + 2 * u = (a + u) + u by omega, Nat.pow_add 2 (a + u) u]
          generalize 2 ^ (a + u) = x; generalize 2 ^ u = y; grind
        omega
    · refine ⟨0, ?_, Bd.zero _⟩
      have : qe (M4.step rest row) i = 0 := qe_ge (by unfold M4.step; rw [addQ_len]; omega)
      rw [this]; show _ = (0 : Rat); grind
/-- what is added to the exponents behind j rows -/
def dj (v : Nat) : Nat → Nat
  | 0 => 0
  | j + 1 => dj v j + 2 * (v + dj v j) + 4
theorem dj_mono (v : Nat) {j k : Nat} (h : j ≤ k) : dj v j ≤ dj v k := by
  induction k with
  | zero => have : j = 0 := by omega
            rw [this]; exact Nat.le_refl _
  | succ k ih =>
    by_cases e : j = k + 1
    · rw [e]; exact Nat.le_refl _
    · have := ih (by omega)
      show dj v j ≤ dj v k + 2 * (v + dj v k) + 4
      omega
/-- a basis whose j-th row has v + dj v j bits -/
def GB (v : Nat) (basis : List (List Rat)) : Prop := ∀ j u, basis[j]? = some u → BQ u (v + dj v j)
theorem rest_bq {n v : Nat} {basis : List (List Rat)} (h : OB n basis) (g : GB v basis) (hn : n ≤ 7) {a : Nat} {w : List Rat} (hw : w.length = n) (hb : BQ w a) : ∀ j, j ≤ basis.length → BQ (restQ (basis.take j) w) (a + dj v j)
  | 0, _ => hb
  | j + 1, hj => by
    have ih := rest_bq h g hn hw hb j (by omega)
    have hlt : j < basis.length := by omega
    have e : basis.take (j + 1) = basis.take j ++ [basis[j]] := by rw [List.take_succ_eq_append_getElem hlt]
    have e2 : restQ (basis.take (j + 1)) w = step (restQ (basis.take j) w) basis[j] := by
      unfold restQ; rw [e, List.foldl_append]; rfl
    rw [e2]
    have hu : basis[j] ∈ basis := List.getElem_mem hlt
    have lu := h.len _ hu
    have lr : (restQ (basis.take j) w).length = n := by rw [restQ_len]; exact hw
    have nz : dotQ basis[j] basis[j] ≠ 0 := by
      have := h.nz _ hu
      unfold dotQ; rw [lu]; exact this
    have := ih.step (g j _ (List.getElem?_eq_getElem hlt)) (by rw [lu, lr]) (by omega) nz
    exact this.mono (by show _ ≤ a + (dj v j + 2 * (v + dj v j) + 4); omega)
theorem upright_bq {n v : Nat} (hn : n ≤ 7) : ∀ (rows basis : List (List Rat)) (ir : IRows), OB n basis → IRed n ir → SpE (VQ basis) (toSys ir).S → basis.length = ir.length → (∀ q ∈ rows, q.length = n) → GB v basis → (∀ q ∈ rows, BQ q v) →
    GB v (uprightF basis rows)
  | [], _, _, _, _, _, _, _, g, _ => g
  | q :: rows, basis, ir, h, k, e, hl, hln, g, hb => by
    have step1 := upright_aux [q] basis ir h k e hl (fun u hu => hln u (by rw [List.mem_singleton.mp hu]; exact List.mem_cons_self))
    obtain ⟨s1, s2, s3⟩ := step1
    obtain ⟨k1, k2, _⟩ := insert_spec k (v := whole q) (by rw [whole_len]; exact hln q List.mem_cons_self)
    have g' : GB v (uprightF basis [q]) := by
      show GB v (if isZ (restQ basis q) then basis else basis ++ [restQ basis q])
      split
      · exact g
      · intro j u hj
        by_cases hlt : j < basis.length
        · rw [List.getElem?_append_left hlt] at hj
          exact g j u hj
        · rw [List.getElem?_append_right (by omega)] at hj
          have e0 : j - basis.length = 0 := by
            by_cases z : j - basis.length = 0
            · exact z
            · rw [List.getElem?_eq_none (by simp; omega)] at hj; cases hj
          rw [e0] at hj
          have eu : restQ basis q = u := Option.some.inj hj
          have ej : j = basis.length := by omega
          rw [← eu, ej]
          have := rest_bq h g hn (hln q List.mem_cons_self) (hb q List.mem_cons_self) basis.length (Nat.le_refl _)
          rw [List.take_length] at this
          exact this
    have e' : SpE (VQ (uprightF basis [q])) (toSys (insertR ir (whole q))).S := by
      refine s2.trans (SpE.trans ?_ k2.symm)
      have := comq q
      refine SpE.of (fun u hu => ?_) (fun u hu => ?_)
      · rcases hu with hu | ⟨y, hy, rfl⟩
        · exact ((e u).mp (Sp.mem hu)).mono fun _ z => .inl z
        · rw [List.mem_singleton.mp hy]
          have m : Sp (fun u => (toSys ir).S u ∨ u = vec (whole q)) (vec (whole q)) := Sp.mem (.inr rfl)
          refine (m.smul (1 / (com q : Rat))).cast fun i => ?_
          have := vec_whole q i
          grind
      · rcases hu with hu | rfl
        · exact ((e u).mpr (Sp.mem hu)).mono fun _ z => .inl z
        · have m : Sp (fun u => VQ basis u ∨ VQ [q] u) (qv q) := Sp.mem (.inr ⟨q, List.mem_cons_self, rfl⟩)
          exact (m.smul (com q : Rat)).cast fun i => (vec_whole q i).symm
    exact upright_bq hn rows (uprightF basis [q]) (insertR ir (whole q)) s1 k1 e' s3 (fun u hu => hln u (List.mem_cons_of_mem _ hu)) g' (fun u hu => hb u (List.mem_cons_of_mem _ hu))
theorem upright_gb {n v : Nat} (hn : n ≤ 7) {rows : List (List Rat)} (h : ∀ q ∈ rows, q.length = n) (hb : ∀ q ∈ rows, BQ q v) : GB v (upright rows) :=
  upright_bq hn rows [] [] (ob_nil n) (ired_nil n) (SpE.of (fun u ⟨_, q, _⟩ => (nomatch q)) (fun u ⟨_, q⟩ => (nomatch q))) rfl h (fun _ _ z => by simp at z) hb
end M4
/-! MG: partings: least-plot names, lots, marks. -/
namespace M4
/-- the least plot of the like label -/
def fi (ls : List Int) (z : Int) : Option Nat := ls.findIdx? fun y => decide (y = z)
def canonN (ls : List Int) : List Nat := ls.map fun x => (fi ls x).getD 0
def Canon (ns : List Nat) : Prop := ∀ (i m : Nat), ns[i]? = some m → m ≤ i ∧ ns[m]? = some m
def lotOf (ns : List Nat) (m : Nat) : List Nat := (List.range ns.length).filter fun k => decide (ns[k]? = some m)
def lotsOf (ns : List Nat) : List (List Nat) := ((List.range ns.length).map (lotOf ns)).filter fun l => !l.isEmpty
theorem fi_some {ls : List Int} {z : Int} {j : Nat} (h : fi ls z = some j) : ls[j]? = some z ∧ ∀ k, k < j → ls[k]? ≠ some z := by
  unfold fi at h
  rw [List.findIdx?_eq_some_iff_getElem] at h
  obtain ⟨hj, e, k⟩ := h
  refine ⟨by rw [List.getElem?_eq_getElem hj]; simpa using e, fun i hi hz => ?_⟩
  have := k i hi
  obtain ⟨h1, h2⟩ := List.getElem?_eq_some_iff.mp hz
  simp [h2] at this
theorem fi_mem {ls : List Int} {z : Int} {i : Nat} (h : ls[i]? = some z) : ∃ j, fi ls z = some j ∧ j ≤ i := by
  cases e : fi ls z with
  | none =>
    unfold fi at e
    rw [List.findIdx?_eq_none_iff] at e
    have := e z (List.mem_of_getElem? h)
    simp at this
  | some j =>
    refine ⟨j, rfl, ?_⟩
    by_cases c : j ≤ i
    · exact c
    · exact absurd h ((fi_some e).2 i (by omega))
theorem fi_iff {ls : List Int} {z : Int} {j : Nat} (h : ls[j]? = some z) (k : ∀ i, i < j → ls[i]? ≠ some z) : fi ls z = some j := by
  obtain ⟨m, e, hm⟩ := fi_mem h
  obtain ⟨e1, e2⟩ := fi_some e
  have : m = j := by
    by_cases c : m < j
    · exact absurd e1 (k m c)
    · omega
  rw [e, this]
theorem canonN_len (ls : List Int) : (canonN ls).length = ls.length := by unfold canonN; simp
theorem canonN_get {ls : List Int} {i : Nat} {z : Int} (h : ls[i]? = some z) : ∃ j, (canonN ls)[i]? = some j ∧ fi ls z = some j := by
  obtain ⟨j, e, _⟩ := fi_mem h
  refine ⟨j, ?_, e⟩
  unfold canonN
  rw [List.getElem?_map, h]
  show some ((fi ls z).getD 0) = _
  rw [e]; rfl
theorem canon_canonN (ls : List Int) : Canon (canonN ls) := by
  intro i m h
  have hi : i < ls.length := by
    have := (List.getElem?_eq_some_iff.mp h).1
    rw [canonN_len] at this; exact this
  obtain ⟨j, e1, e2⟩ := canonN_get (List.getElem?_eq_getElem hi)
  rw [h] at e1
  have e3 : m = j := Option.some.inj e1
  subst e3
  obtain ⟨m', e4, hle⟩ := fi_mem (List.getElem?_eq_getElem hi)
  rw [e2] at e4
  cases e4
  obtain ⟨e5, e6⟩ := fi_some e2
  obtain ⟨j', e7, e8⟩ := canonN_get e5
  rw [e2] at e8
  cases e8
  exact ⟨hle, e7⟩
theorem canonN_fix {ns : List Nat} (h : Canon ns) : canonN (ns.map fun (n : Nat) => (n : Int)) = ns := by
  refine List.ext_getElem? fun i => ?_
  cases e : ns[i]? with
  | none =>
    rw [List.getElem?_eq_none_iff] at e ⊢
    rw [canonN_len, List.length_map]; exact e
  | some m =>
    obtain ⟨j, e1, e2⟩ := canonN_get (ls := ns.map fun (n : Nat) => (n : Int)) (i := i) (z := (m : Int)) (by rw [List.getElem?_map, e]; rfl)
    obtain ⟨_, hm⟩ := h i m e
    have : fi (ns.map fun (n : Nat) => (n : Int)) (m : Int) = some m := by
      refine fi_iff (by rw [List.getElem?_map, hm]; rfl) fun k hk hz => ?_
      rw [List.getElem?_map] at hz
      cases e3 : ns[k]? with
      | none => rw [e3] at hz; cases hz
      | some q =>
        rw [e3] at hz
        have hq : (q : Int) = (m : Int) := Option.some.inj hz
        have := (h k q e3).1
        omega
    rw [this] at e2
    rw [e1, ← Option.some.inj e2]
theorem mem_lotOf {ns : List Nat} {m k : Nat} : k ∈ lotOf ns m ↔ ns[k]? = some m := by
  unfold lotOf
  rw [List.mem_filter, List.mem_range]
  constructor
  · rintro ⟨_, h⟩; simpa using h
  · intro h; exact ⟨(List.getElem?_eq_some_iff.mp h).1, by simpa using h⟩
/-- where the names are least plots, the first plot of a lot is its name -/
theorem lot_head {ns : List Nat} (h : Canon ns) {m : Nat} (hm : ns[m]? = some m) : ∃ r, lotOf ns m = m :: r := by
  have hl := (List.getElem?_eq_some_iff.mp hm).1
  unfold lotOf
  have e : List.range ns.length = List.range m ++ m :: (List.range ns.length).drop (m + 1) := by
    have e1 := List.take_append_drop m (List.range ns.length)
    rw [List.take_range, Nat.min_eq_left (by omega)] at e1
    have e2 : (List.range ns.length).drop m = m :: (List.range ns.length).drop (m + 1) := by
      rw [List.drop_eq_getElem_cons (by simpa using hl)]
      simp
    rw [e2] at e1
    exact e1.symm
  rw [e, List.filter_append, List.filter_cons, if_pos (by simpa using hm)]
  have e2 : (List.range m).filter (fun k => decide (ns[k]? = some m)) = [] := by
    rw [List.filter_eq_nil_iff]
    intro k hk hz
    have := (h k m (by simpa using hz)).1
    have := List.mem_range.mp hk
    omega
  rw [e2]
  exact ⟨_, rfl⟩
theorem lot_empty {ns : List Nat} (h : Canon ns) {m : Nat} : (lotOf ns m).isEmpty = !decide (ns[m]? = some m) := by
  by_cases c : ns[m]? = some m
  · obtain ⟨r, e⟩ := lot_head h c
    rw [e]; simp [c]
  · have : lotOf ns m = [] := by
      refine List.eq_nil_iff_forall_not_mem.mpr fun k hk => ?_
      exact c (h k m (mem_lotOf.mp hk)).2
    rw [this]; simp [c]
/-- the lots, by the names that are their own -/
theorem lots_canon {ns : List Nat} (h : Canon ns) : lotsOf ns = ((List.range ns.length).filter fun m => decide (ns[m]? = some m)).map (lotOf ns) := by
  unfold lotsOf
  rw [List.filter_map]
  congr 1
  refine List.filter_congr fun m _ => ?_
  show (!(lotOf ns m).isEmpty) = _
  rw [lot_empty h]; simp
theorem lots_head {ns : List Nat} (h : Canon ns) {l : List Nat} (hl : l ∈ lotsOf ns) : ∃ m r, l = m :: r ∧ ns[m]? = some m ∧ l = lotOf ns m := by
  rw [lots_canon h] at hl
  obtain ⟨m, hm, rfl⟩ := List.mem_map.mp hl
  have hm2 : ns[m]? = some m := by simpa using (List.mem_filter.mp hm).2
  obtain ⟨r, e⟩ := lot_head h hm2
  exact ⟨m, r, e, hm2, rfl⟩
/-- the marks of the lots, as whole vectors -/
def markOf (ns : List Nat) (l : List Nat) : List Int := ns.map fun n => if n = l.headD 0 then 1 else 0
def marksOf (ns : List Nat) : List (List Int) := (lotsOf ns).map (markOf ns)
theorem mark_eq {ns : List Nat} (h : Canon ns) {l : List Nat} (hl : l ∈ lotsOf ns) : markOf ns l = (List.range ns.length).map fun p => if p ∈ l then 1 else 0 := by
  obtain ⟨m, r, e, hm, e2⟩ := lots_head h hl
  have hh : l.headD 0 = m := by rw [e]; rfl
  unfold markOf
  rw [hh]
  refine List.ext_getElem (by simp) fun i h1 h2 => ?_
  rw [List.getElem_map, List.getElem_map, List.getElem_range]
  have hi : i < ns.length := by simpa using h1
  have : (i ∈ l) ↔ ns[i] = m := by
    rw [e2, mem_lotOf, List.getElem?_eq_getElem hi]
    simp
  by_cases c : ns[i] = m
  · rw [if_pos c, if_pos (this.mpr c)]
  · rw [if_neg c, if_neg (fun z => c (this.mp z))]
end M4
/-! MH: reduced bases of listed rows. Plain core Lean. -/
namespace M4
theorem prim_whole {qs : List Rat} {p : Nat} (h : qe qs p = 1) : vgcd (whole qs) = 1 := by
  have e : ∀ i, ((ent (whole qs) i : Int) : Rat) = (com qs : Rat) * qe qs i := vec_whole qs
  have ep : ent (whole qs) p = (com qs : Int) := by
    have q := e p
    rw [h] at q
    have q2 : ((ent (whole qs) p : Int) : Rat) = (((com qs : Nat) : Int) : Rat) := by
      rw [q]
      show (com qs : Rat) * 1 = (com qs : Rat)
      grind
    exact Rat.intCast_inj.mp q2
  have gd : vgcd (whole qs) ∣ com qs := by
    have := vgcd_dvd_ent (whole qs) p
    rw [ep] at this
    exact Int.natCast_dvd_natCast.mp this
  obtain ⟨k, ek⟩ := gd
  have c0 := com_pos qs
  have g0 : 0 < vgcd (whole qs) := Nat.pos_of_ne_zero fun z => by rw [z] at ek; omega
  have gq := natq g0
  have hk : com qs ∣ k := com_min fun q hq => by
    obtain ⟨i, hi, ei⟩ := List.getElem_of_mem hq
    obtain ⟨z, ez⟩ := vgcd_dvd_ent (whole qs) i
    refine (den_of (E := k) (z := z) ?_).1
    have q1 := e i
    rw [ez, ek, qe_lt hi, ei, Rat.intCast_mul, Rat.natCast_mul] at q1
    have c1 : (((vgcd (whole qs) : Nat) : Int) : Rat) = (vgcd (whole qs) : Rat) := rfl
    rw [c1] at q1
    grind
  have k0 : 0 < k := Nat.pos_of_ne_zero fun z => by rw [z] at ek; omega
  have le := Nat.le_of_dvd k0 hk
  generalize vgcd (whole qs) = g at *
  by_cases g1 : g = 1
  · exact g1
  · have : 2 * k ≤ g * k := Nat.mul_le_mul (by omega) (Nat.le_refl _)
    omega
theorem prim_zero {qs : List Rat} (h : ∀ i, qe qs i = 0) : Prim (whole qs) := .inr fun i => by
  have q := vec_whole qs i
  unfold vec qv at q
  rw [h i] at q
  exact cast0.mp (by rw [q]; grind)
theorem EB.perm {rows rows' : IRows} {D : Int} {m : Nat} (h : EB rows D m) (p : rows'.Perm rows) : EB rows' D m := ⟨h.pos, h.le, fun a b q => h.row a b (p.mem_iff.mp q)⟩
theorem mem_ratRows {rows : IRows} {q : List Rat} (h : q ∈ ratRows rows) : ∃ p zs, (p, zs) ∈ rows ∧ q = ratRow p zs := by
  unfold ratRows at h
  obtain ⟨⟨p, zs⟩, hm, rfl⟩ := List.mem_map.mp h
  exact ⟨p, zs, hm, rfl⟩
theorem vec_ne {n : Nat} {rows : IRows} (h : IRed n rows) {p : Nat} {zs : List Int} (m : (p, zs) ∈ rows) : vec zs p ≠ 0 := fun z => by
  have := cast0.mp z
  have := h.pos p zs m
  omega
theorem one_at {n : Nat} {rows : IRows} (h : IRed n rows) {q : List Rat} (hq : q ∈ ratRows rows) : ∃ p, qe q p = 1 := by
  obtain ⟨p, zs, m, rfl⟩ := mem_ratRows hq
  refine ⟨p, ?_⟩
  rw [qe_ratRow]
  have := vec_ne h m
  grind
theorem VQ_rat {n : Nat} {rows : IRows} (h : IRed n rows) : SpE (VQ (ratRows rows)) (toSys rows).S := by
  refine SpE.of (fun u hu => ?_) (fun u hu => ?_)
  · obtain ⟨q, hq, rfl⟩ := hu
    obtain ⟨p, zs, m, rfl⟩ := mem_ratRows hq
    have z := vec_ne h m
    have s : Sp (toSys rows).S (vec zs) := Sp.mem ⟨p, mem_toSys.mpr ⟨zs, m, rfl⟩⟩
    refine (s.smul (1 / vec zs p)).cast fun i => ?_
    show _ = qe (ratRow p zs) i
    rw [qe_ratRow]; grind
  · obtain ⟨p, hp⟩ := hu
    obtain ⟨zs, m, rfl⟩ := mem_toSys.mp hp
    have z := vec_ne h m
    have s : Sp (VQ (ratRows rows)) (qv (ratRow p zs)) := Sp.mem ⟨_, List.mem_map.mpr ⟨(p, zs), m, rfl⟩, rfl⟩
    refine (s.smul (vec zs p)).cast fun i => ?_
    show vec zs p * qe (ratRow p zs) i = _
    rw [qe_ratRow]; grind
theorem VQ_append {l r : List (List Rat)} {u : Vec} : VQ (l ++ r) u ↔ VQ l u ∨ VQ r u := by
  constructor
  · rintro ⟨v, hv, e⟩
    rcases List.mem_append.mp hv with q | q
    · exact .inl ⟨v, q, e⟩
    · exact .inr ⟨v, q, e⟩
  · rintro (⟨v, q, e⟩ | ⟨v, q, e⟩)
    · exact ⟨v, List.mem_append_left _ q, e⟩
    · exact ⟨v, List.mem_append_right _ q, e⟩
theorem SpE.or {S S' T T' : Vec → Prop} (h : SpE S S') (k : SpE T T') : SpE (fun u => S u ∨ T u) (fun u => S' u ∨ T' u) := by
  refine SpE.of (fun u hu => ?_) (fun u hu => ?_)
  · rcases hu with hu | hu
    · exact ((h u).mp (Sp.mem hu)).mono fun _ z => .inl z
    · exact ((k u).mp (Sp.mem hu)).mono fun _ z => .inr z
  · rcases hu with hu | hu
    · exact ((h u).mpr (Sp.mem hu)).mono fun _ z => .inl z
    · exact ((k u).mpr (Sp.mem hu)).mono fun _ z => .inr z
theorem VQ_app (l r : List (List Rat)) : SpE (VQ (l ++ r)) (fun u => VQ l u ∨ VQ r u) := SpE.of (fun _ hu => Sp.mem (VQ_append.mp hu)) fun _ hu => Sp.mem (VQ_append.mpr hu)
/-- rows are the reduced basis of a span, and they are small -/
structure RS (n : Nat) (S : Vec → Prop) (a : Nat) (rows : IRows) : Prop where
  red : IRed n rows
  srt : Srt rows
  spn : SpE (toSys rows).S S
  eb : ∃ D, EB rows D a
theorem RS.cast {n : Nat} {S T : Vec → Prop} {a : Nat} {rows : IRows} (h : RS n S a rows) (e : SpE S T) : RS n T a rows := ⟨h.red, h.srt, h.spn.trans e, h.eb⟩
theorem wl {n : Nat} {tabs : List (List Rat)} (h : ∀ q ∈ tabs, q.length = n) : ∀ v ∈ tabs.map whole, v.length = n := fun v hv => by
  obtain ⟨q, hq, rfl⟩ := List.mem_map.mp hv
  rw [whole_len]; exact h q hq
theorem eb_direct {n b : Nat} (hn : n ≤ 6) {vs : List (List Int)} (h : ∀ v ∈ vs, v.length = n ∧ ∀ i, Bd (ent v i) b) : ∃ D, EB (elim vs) D (mk_ b 6) := by
  have a := (elim_spec fun v hv => (h v hv).1).1
  obtain ⟨D, e⟩ := elim_bd (b := b) (by omega : n ≤ 7) vs [] (ired_nil n) ⟨1, eb_nil _⟩ (fun v hv => (h v hv).1) fun v hv => (h v hv).2
  have hc := a.count
  rw [elim_eq] at hc ⊢
  exact ⟨D, e.mono (mk_mono b (by omega))⟩
theorem wholes {n b : Nat} {tabs : List (List Rat)} (h : ∀ q ∈ tabs, q.length = n ∧ BQ q b) : ∀ v ∈ tabs.map whole, v.length = n ∧ ∀ i, Bd (ent v i) b := fun v hv => by
  obtain ⟨q, hq, rfl⟩ := List.mem_map.mp hv
  exact ⟨by rw [whole_len]; exact (h q hq).1, (h q hq).2.whole.2⟩
theorem rs_direct {n b : Nat} (hn : n ≤ 6) {tabs : List (List Rat)} {rows : IRows} (h : ∀ q ∈ tabs, q.length = n ∧ BQ q b) (p : rows.Perm (elim (tabs.map whole))) (s : Srt rows) : RS n (VQ tabs) (mk_ b 6) rows := by
  obtain ⟨a, e⟩ := elim_spec (wl fun q hq => (h q hq).1)
  obtain ⟨D, eb⟩ := eb_direct hn (wholes h)
  exact ⟨a.perm p, s, (toSys_perm p).trans (e.trans (VS_whole tabs)), D, eb.perm p⟩
theorem eb_union {n b : Nat} (hn : n ≤ 6) {tabs listed : List (List Rat)} (ht : ∀ q ∈ tabs, q.length = n ∧ Prim (whole q)) (hl : ∀ q ∈ listed, q.length = n ∧ BQ q b) (e : SpE (VQ tabs) (VQ listed)) : ∃ D, EB (elim (tabs.map whole)) D (mk_ b 6) := by
  obtain ⟨D, eb⟩ := eb_direct hn (wholes hl)
  obtain ⟨a1, e1⟩ := elim_spec (wl fun q hq => (ht q hq).1)
  obtain ⟨a2, e2⟩ := elim_spec (wl fun q hq => (hl q hq).1)
  have pr : PrimR (elim (tabs.map whole)) := by
    rw [elim_eq]
    exact prim_elim _ (fun _ _ z => (nomatch z)) fun v hv => by
      obtain ⟨q, hq, rfl⟩ := List.mem_map.mp hv
      exact (ht q hq).2
  exact ⟨D, canon_bd a1 pr a2 eb ((e1.trans ((VS_whole tabs).trans e)).trans ((VS_whole listed).symm.trans e2.symm))⟩
theorem rs_union {n b : Nat} (hn : n ≤ 6) {tabs listed : List (List Rat)} {rows : IRows} (ht : ∀ q ∈ tabs, q.length = n ∧ Prim (whole q)) (hl : ∀ q ∈ listed, q.length = n ∧ BQ q b) (e : SpE (VQ tabs) (VQ listed)) (p : rows.Perm (elim (tabs.map whole))) (s : Srt rows) : RS n (VQ listed) (mk_ b 6) rows := by
  obtain ⟨a1, e1⟩ := elim_spec (wl fun q hq => (ht q hq).1)
  obtain ⟨D, eb⟩ := eb_union hn ht hl e
  exact ⟨a1.perm p, s, (toSys_perm p).trans (e1.trans ((VS_whole tabs).trans e)), D, eb.perm p⟩
theorem RS.rat_len {n a : Nat} {S : Vec → Prop} {rows : IRows} (h : RS n S a rows) : ∀ q ∈ ratRows rows, q.length = n := fun q hq => by
  obtain ⟨p, zs, m, rfl⟩ := mem_ratRows hq
  rw [ratRow_len]; exact h.red.len p zs m
theorem RS.rat_bq {n a : Nat} {S : Vec → Prop} {rows : IRows} (h : RS n S a rows) : ∀ q ∈ ratRows rows, BQ q a := fun q hq => by
  obtain ⟨p, zs, m, rfl⟩ := mem_ratRows hq
  obtain ⟨D, e⟩ := h.eb
  exact e.bq m
theorem RS.rat_prim {n a : Nat} {S : Vec → Prop} {rows : IRows} (h : RS n S a rows) : ∀ q ∈ ratRows rows, Prim (whole q) := fun q hq => by
  obtain ⟨p, hp⟩ := one_at h.red hq
  exact .inl (prim_whole hp)
theorem RS.count {n a : Nat} {S : Vec → Prop} {rows : IRows} (h : RS n S a rows) : (ratRows rows).length ≤ n := by
  unfold ratRows
  rw [List.length_map]; exact h.red.count
theorem RS.vq {n a : Nat} {S : Vec → Prop} {rows : IRows} (h : RS n S a rows) : SpE (VQ (ratRows rows)) S := (VQ_rat h.red).trans h.spn
theorem rs_eq {n a b : Nat} {S T : Vec → Prop} {rows rows' : IRows} (h : RS n S a rows) (k : RS n T b rows') : ratRows rows = ratRows rows' ↔ SpE S T := by
  constructor
  · intro e
    have h1 := h.vq
    rw [e] at h1
    exact h1.symm.trans k.vq
  · intro e
    exact (rat_unique h.red k.red h.srt k.srt (h.spn.trans (e.trans k.spn.symm))).2
theorem up_rank {n : Nat} {l : List (List Rat)} (h : ∀ q ∈ l, q.length = n) : (upright l).length = rank (l.map whole) := (upright_spec h).2.2
theorem up_span {n : Nat} {l r : List (List Rat)} (h : ∀ q ∈ l, q.length = n) (k : ∀ q ∈ r, q.length = n) (e : SpE (VQ l) (VQ r)) : (upright l).length = (upright r).length := by
  rw [up_rank h, up_rank k]
  exact rank_span (wl h) (wl k) ((VS_whole l).trans (e.trans (VS_whole r).symm))
theorem up_append {n : Nat} {l r : List (List Rat)} (h : ∀ q ∈ l, q.length = n) (k : ∀ q ∈ r, q.length = n) : (upright (l ++ r)).length = (upright l).length ↔ SpE (VQ (l ++ r)) (VQ l) := by
  have hk : ∀ q ∈ l ++ r, q.length = n := fun q hq => (List.mem_append.mp hq).elim (h q) (k q)
  constructor
  · intro e
    rw [up_rank hk, up_rank h, List.map_append] at e
    have := (rank_append (wl h) (wl k)).mp e
    rw [← List.map_append] at this
    exact (VS_whole _).symm.trans (this.trans (VS_whole l))
  · intro e
    exact up_span hk h e
theorem VQ_comm (l r : List (List Rat)) : SpE (VQ (l ++ r)) (VQ (r ++ l)) := SpE.of (fun _ hu => Sp.mem (VQ_append.mpr (VQ_append.mp hu).symm)) fun _ hu => Sp.mem (VQ_append.mpr (VQ_append.mp hu).symm)
/-- all three ranks are the same exactly if the spans are -/
theorem ranks_same {n : Nat} {l r : List (List Rat)} (h : ∀ q ∈ l, q.length = n) (k : ∀ q ∈ r, q.length = n) : ((upright (l ++ r)).length = (upright l).length ∧ (upright (l ++ r)).length = (upright r).length) ↔ SpE (VQ l) (VQ r) := by
  have hk : ∀ q ∈ l ++ r, q.length = n := fun q hq => (List.mem_append.mp hq).elim (h q) (k q)
  have kh : ∀ q ∈ r ++ l, q.length = n := fun q hq => (List.mem_append.mp hq).elim (k q) (h q)
  constructor
  · rintro ⟨e1, e2⟩
    rw [up_span hk kh (VQ_comm l r)] at e2
    exact ((up_append h k).mp e1).symm.trans ((VQ_comm l r).trans ((up_append k h).mp e2))
  · intro e
    have c : SpE (VQ (l ++ r)) (VQ l) := SpE.of (fun u hu => (VQ_append.mp hu).elim (fun z => Sp.mem z) fun z => (e u).mpr (Sp.mem z)) fun u hu => Sp.mem (VQ_append.mpr (.inl hu))
    exact ⟨up_span hk h c, up_span hk k (c.trans e)⟩
theorem RS.len_up {n a : Nat} {l : List (List Rat)} {rows : IRows} (R : RS n (VQ l) a rows) (h : ∀ q ∈ l, q.length = n) : (ratRows rows).length = (upright l).length := by
  obtain ⟨a1, e1⟩ := elim_spec (wl h)
  have e := red_len R.red.red a1.red (R.spn.trans ((VS_whole l).symm.trans e1.symm))
  rw [up_rank h]
  unfold toSys at e
  unfold ratRows rank
  simpa using e
/-- nothing of the reduced rows is left behind the upright ones -/
theorem RS.zero {n a : Nat} {l : List (List Rat)} {rows : IRows} (R : RS n (VQ l) a rows) (h : ∀ q ∈ l, q.length = n) : ∀ q ∈ ratRows rows, isZ (restQ (upright l) q) = true := fun q hq => by
  obtain ⟨ob, e, _⟩ := upright_spec h
  refine (rest_zero ob (R.rat_len q hq)).mpr ((e _).mpr ((R.vq _).mp (Sp.mem ⟨q, hq, rfl⟩)))
end M4
/-! K0: rules of our own. -/
namespace K4
open PySem PySem.Spec PyProof.Rows L2
open M4 (Bd)

/-! ### products, quotients of ints of any size -/
def CMulB (i j : Int) : Prop := ∃ a b : Nat, Bd i a ∧ Bd j b ∧ a + b ≤ 134000000
theorem bd_bits {x : Int} {a : Nat} (h : Bd x a) : Builtin.Int.intBits x ≤ a + 1 := by
  have b : Builtin.Int.intBits x ≤ x.natAbs.log2 + 1 := by
    unfold Builtin.Int.intBits
    split <;> omega
  have l : x.natAbs.log2 ≤ a := by
    by_cases z : x.natAbs = 0
    · rw [z]; exact Nat.zero_le _
    · have : x.natAbs < 2 ^ (a + 1) := by
        unfold Bd at h
        have := Nat.pow_lt_pow_right (a := 2) (by decide) (Nat.lt_succ_self a)
        omega
      have := (Nat.log2_lt z).mpr this
      omega
  omega
theorem CMulB.ok {i j : Int} (h : CMulB i j) : IntMulOk i j := by
  obtain ⟨a, b, ha, hb, hab⟩ := h
  have h1 := bd_bits ha
  have h2 := bd_bits hb
  have e : bitsLine = 134217728 := by decide
  unfold IntMulOk
  intro z
  rw [Bool.and_eq_true] at z
  have z2 := z.2
  unfold Builtin.Int.intTooBig at z2
  have z3 := of_decide_eq_true z2
  rw [e] at z3
  omega
section
variable {X : Cx}
theorem op_mulB : OpR X (binaryOp .Mult) (rI CMulB fun i j => .int (i * j)) := opI fun _ _ _ _ _ _ _ hc q => mul_int q hc.ok
end
/-- what is asked of the program and its text for a long division -/
structure Seer (P : Program) (K : PySem.W.Frag) (mg : Str → Option Value) : Prop where
  tree : P.given.tree = none
  seer : ∀ h : Heap, K.In h → h.Ns mainGlobals mg → (∃ mb, h.Ns builtinsNs mb ∧ ∀ x : Str, x ≠ "__name__" → mb x = bootBuiltins x) → h.NoSeer
theorem Ns_keeps {h h' : Heap} {a : Addr} {m : Str → Option Value} (n : h.Ns a m) (k : ∀ b o, h.get? b = some o → h'.get? b = some o) : h'.Ns a m := n.keepsP k
section
variable {X : Cx}
theorem pylong_room (T : Seer X.prog X.K X.mg) (hr : Room 32 X.A) (hst : ∃ env l, X.stack = env :: l ∧ env.scope.isGenerator = false ∧ env.scope.isCoroutine = false ∧ env.builtins = builtinsNs ∧ env.globals = mainGlobals)
    {pins : List (Addr × Obj)} {σ : L2.St} {H : Hp} {s : Shared} (I : Inv X pins σ H s) : PylongRoom (model X.prog X.w) X.A s := by
  obtain ⟨env, l, e, h1, h2, h3, h4⟩ := hst
  have bk := I.bk
  have nolim : s.heap.NoLimit := I.nolimit
  have m := I.mod
  have seer : s.heap.NoSeer := (T.seer X.base m.kin m.glob m.blt).keeps bk
  refine PylongRoom.of nolim ?_ (SeerAt.of (env := env) (l := l) seer T.tree (by rw [I.ok.frames, e]) h1 h2 h3 h4)
  have := hr.dp
  show X.A.depth + 100 < recursionLimit
  omega
/-- // by any divisor but zero -/
theorem op_fdivA (T : Seer X.prog X.K X.mg) (hr : Room 32 X.A) (hst : ∃ env l, X.stack = env :: l ∧ env.scope.isGenerator = false ∧ env.scope.isCoroutine = false ∧ env.builtins = builtinsNs ∧ env.globals = mainGlobals) :
    OpR X (binaryOp .FloorDiv) (rI (fun _ j => j ≠ 0) fun i j => .int (i.fdiv j)) := by
  intro pins s σ H x y v u Q I rx ry h
  obtain ⟨i, j, rfl, rfl, hc, q⟩ := h
  obtain ⟨t, rfl⟩ := rx
  obtain ⟨t', rfl⟩ := ry
  exact floordiv_int hc ⟨.int (i.fdiv j), H, I.tok _, ⟨_, rfl⟩, q⟩ (.inr (pylong_room T hr hst I))
end

/-! ### any of a list of ints -/
theorem truth_ints {prog : Program} {w : World} {A : Around} {zs : List Int} {its : List Value} (r : Vals (zs.map V.int) its) :
    TruthOf prog w A (fun i v => its.toArray[i]? = some v) (fun i => (zs.map fun z => decide (z ≠ 0)).getD i false) := fun i v s Q E hv hq => by
  have hv' : its[i]? = some v := by simpa using hv
  have hlt : i < its.length := (List.getElem?_eq_some_iff.mp hv').1
  have hl := r.length
  rw [List.length_map] at hl
  have hz : (zs.map V.int)[i]? = some (V.int (zs[i]'(by omega))) := by
    rw [List.getElem?_map, List.getElem?_eq_getElem (by omega)]; rfl
  obtain ⟨u, hu, ru⟩ := r.get hz
  rw [hv'] at hu
  cases hu
  obtain ⟨t, rfl⟩ := ru
  have hg : (zs.map fun z => decide (z ≠ 0)).getD i false = (zs[i]'(by omega) != 0) := by
    rw [List.getD_eq_getElem?_getD, List.getElem?_map, List.getElem?_eq_getElem (by omega)]
    show decide _ = _
    rw [bne, decide_not]; rfl
  have hq' : Q ((zs.map fun z => decide (z ≠ 0)).getD i false) s := hq
  rw [hg] at hq'
  exact PySem.P.truthy_int hq'
section
variable {X : Cx}
def rAnyI (K : PySem.W.Frag) : List V → Hp → VK → Prop := fun vs H Q => ∃ (a : Addr) (zs : List Int), vs = [V.ref a] ∧ SqL K H a (zs.map V.int) ∧ Q (.bl (zs.any fun z => decide (z ≠ 0))) H
theorem cr_anyI (hc : X.calm = true) : CallR X (.builtin "any") (rAnyI X.K) := by
  intro pins s σ H vs us Q I r h
  obtain ⟨a, zs, rfl, hs, q⟩ := h
  obtain ⟨its, rv, hl, _⟩ := I.list hs
  rw [Vals.ref1 r]
  have hlen := rv.length
  refine call_any_walk (iter_any hl.isList fun s₂ e2 st hne => ?_)
  subst e2
  refine ⟨_, _, _, _, _, _, _, rfl, Walks.list (A := X.A.in1) (I.ok.hd hc) _ a hne its.toArray, st, truth_ints rv, fun h' tk hk => ?_⟩
  refine ⟨.bl _, H, I.kept fun b o eo => hk b o (fun hmem => ?_) (Heap.get?_push_of_some _ eo), ?_, q⟩
  · rcases List.mem_cons.mp hmem with e1 | hmem
    · exact absurd (e1 ▸ Heap.lt_size eo) (Nat.lt_irrefl _)
    · cases hmem
  · show Value.bool _ = Value.bool _
    rw [List.length_map] at hlen
    have e : its.toArray.size = (zs.map fun z => decide (z ≠ 0)).length := by rw [List.size_toArray, List.length_map]; omega
    rw [e, L2.any_range, List.any_map]
    rfl
end

/-! ### a def as it stands, and what it is worth -/
/-- the def st stands at f -/
def Def (K : PySem.W.Frag) (f : Addr) (name qual : Str) (st : Stmt) (dvs : List V) : Prop := ∃ fd, FunD K name qual (defArgs st) (defBody st) (defScope st) dvs [] f fd
/-- the module's name x stands for a def that keeps sp -/
structure Cal (P : Program) (w : World) (K : PySem.W.Frag) (mg : Str → Option Value) (base : Heap) (CX : CXT) (k : Nat) (x : Str) (sp : Sp) : Prop where
  ok : ∃ f, FnR P w K mg base CX k f sp ∧ PySem.W.keepIn K (.ref f) = true ∧ mg x = some (.ref f)
def tCal (sp : Sp) (E : XK) (t : TA) : TE := fun σ H Q => t σ H fun vs H1 => sp vs H1 Q E
section
variable {X : Cx} {CX : CXT} {k : Nat} {x : Str} {sp : Sp} {E : XK} {p pos : Pos} {e : Expr} {es : List Expr} {t : TA}
theorem pe_cal (C : Cal X.prog X.w X.K X.mg X.base CX k x sp) (hr : Room k X.A) (ha : PA X (e :: es) t) (hx : Passes CX X E := by exact pass0) (hg : Gl X x := by rfl) (hd : (x == ("__debug__" : Str)) = false := by decide)
    (he : starEach (e :: es) X.env = (false, eval e X.env) :: starEach es X.env := by rfl) (hpl : (backTo pos (starEach es X.env)).any (·.1) = false := by rfl) :
    PE X (.Call (.Name x p) (e :: es) [] pos) (tCal sp E t) := by
  obtain ⟨f, F, hk, hm⟩ := C.ok
  refine ⟨fun pins s σ H Q I h => ?_⟩
  refine wpAny_Call_Name_kw (ld_glob I hg hm ?_ hd)
  refine PySem.W.callWith_K (h₀ := X.base) I.ok.mod.kin hk (thn (ha.run pos pins s σ H _ I h) fun us s1 ⟨vs, H1, I1, r, q⟩ => ⟨I1.kIn, ?_⟩) he hpl
  exact wpAny_call (run_fnR F hr hx I1 r q)
end
section
variable {P : Program} {w : World} {K : PySem.W.Frag} {mg : Str → Option Value} {base : Heap} {CX : CXT}
theorem Cal.mono {j k : Nat} {x : Str} {sp : Sp} (C : Cal P w K mg base CX j x sp) (h : j ≤ k) : Cal P w K mg base CX k x sp := by
  obtain ⟨f, F, a, b⟩ := C.ok
  exact ⟨f, F.mono h, a, b⟩
/-- by its body: no defaults -/
theorem Def.fnR {f : Addr} {name qual : Str} {st : Stmt} {N ps : List Str} {k : Nat} {sp : Sp} (D : Def K f name qual st []) (S : FnScope N ps (defScope st))
    (hb : ∀ (kV doc pm : Value) (an : Option Addr) (cdv ct : Value) (us : List Value), us.length = ps.length → bindArgs (PySem.W.fnOf name qual (defArgs st) (defBody st) (defScope st) .none kV doc pm an cdv ct) ⟨us, []⟩ = pure (ps.zip us))
    (len : ∀ vs H Q E, sp vs H Q E → vs.length = ps.length)
    (hbody : ∀ (cdv : Value) (A : Around) (outer : List Env) (s : Shared) (H : Hp) (vs : List V) (Q : VK) (E : XK), Room k (A.deeper (envOfC qual (defScope st) s.heap.objs.size f cdv)) → sp vs H Q E →
      ∃ t, PSs (cxOf CX P w K mg base N qual (defScope st) f cdv A outer s H E) (defBody st) t ∧ t { nx := fun _ H' => Q .non H', rt := Q } (start N vs) H) : FnR P w K mg base CX (k + 1) f sp := by
  obtain ⟨fd, F⟩ := D
  have := (F.ok S len hbody).raw (FunD.bindsN F hb) .nil
  exact this.imp fun vs H Q E h => by rw [List.append_nil]; exact h
theorem Def.fnR0 {f : Addr} {name qual : Str} {st : Stmt} {N ps : List Str} {k : Nat} {sp : Sp} (D : Def K f name qual st []) (S : FnScope N ps (defScope st))
    (hb : ∀ (kV doc pm : Value) (an : Option Addr) (cdv ct : Value) (us : List Value), us.length = ps.length → bindArgs (PySem.W.fnOf name qual (defArgs st) (defBody st) (defScope st) .none kV doc pm an cdv ct) ⟨us, []⟩ = pure (ps.zip us))
    (len : ∀ vs H Q E, sp vs H Q E → vs.length = ps.length)
    (hbody : ∀ (cdv : Value) (A : Around) (outer : List Env) (s : Shared) (H : Hp) (vs : List V) (Q : VK) (E : XK), Room k (A.deeper (envOfC qual (defScope st) s.heap.objs.size f cdv)) → sp vs H Q E →
      ∃ t, PSs (cxOf CX0 P w K mg base N qual (defScope st) f cdv A outer s H E).nox (defBody st) t ∧ t { nx := fun _ H' => Q .non H', rt := Q } (start N vs) H) : FnR P w K mg base CX0 (k + 1) f sp :=
  D.fnR S hb len fun cdv A outer s H vs Q E hr h => by
    obtain ⟨t, a, b⟩ := hbody cdv A outer s H vs Q E hr h
    exact ⟨t, a.nox, b⟩
/-- all positional values written, defaults stand -/
theorem Def.fnRd {f : Addr} {name qual : Str} {st : Stmt} {N ps : List Str} {k : Nat} {dvs : List V} {sp : Sp} (D : Def K f name qual st dvs) (hd : dvs ≠ []) (S : FnScope N ps (defScope st)) (n j : Nat) (hn : n + (dvs.length - j) = ps.length)
    (hb : ∀ (T : Addr) (kV doc pm : Value) (an : Option Addr) (cdv ct : Value) (us its : List Value), us.length = n → its.length = dvs.length →
      ∃ k, bindArgs (PySem.W.fnOf name qual (defArgs st) (defBody st) (defScope st) (.ref T) kV doc pm an cdv ct) ⟨us, []⟩ = seqItems? (.ref T) >>= k ∧ k (some its.toArray) = pure (ps.zip (us ++ its.drop j)))
    (len : ∀ vs H Q E, sp vs H Q E → vs.length = ps.length)
    (hbody : ∀ (cdv : Value) (A : Around) (outer : List Env) (s : Shared) (H : Hp) (vs : List V) (Q : VK) (E : XK), Room k (A.deeper (envOfC qual (defScope st) s.heap.objs.size f cdv)) → sp vs H Q E →
      ∃ t, PSs (cxOf CX P w K mg base N qual (defScope st) f cdv A outer s H E) (defBody st) t ∧ t { nx := fun _ H' => Q .non H', rt := Q } (start N vs) H) : FnR P w K mg base CX (k + 1) f (fun vs H Q E => sp (vs ++ dvs.drop j) H Q E) := by
  obtain ⟨fd, F⟩ := D
  obtain ⟨ds, r, b⟩ := FunD.binds1 F n j hd hn hb
  exact (F.ok S len hbody).raw b r
end
end K4
/-! K1: heaps, lists of things, comprehensions and loops in general. -/
namespace K4
open PySem PySem.Spec PyProof.Rows L2
open M4 (Bd)

theorem iteC {c : Bool} {A B : Prop} (h : c = true) (k : A) : if c = true then A else B := by rw [if_pos h]; exact k
theorem iteN {c : Bool} {A B : Prop} (h : c = false) (k : B) : if c = true then A else B := by rw [if_neg (by rw [h]; decide)]; exact k
/-! ### Paired -/
theorem pGet {α β : Type} {F : α → β → Prop} : ∀ {l : List α} {m : List β}, Paired F l m → ∀ {i : Nat} {x : α}, l[i]? = some x → ∃ y, m[i]? = some y ∧ F x y
  | _, _, .nil, i, x, h => by simp at h
  | _, _, .cons r _, 0, x, h => by simp at h; subst h; exact ⟨_, rfl, r⟩
  | _, _, .cons _ t, i + 1, x, h => by
    obtain ⟨y, a, b⟩ := pGet t (i := i) (x := x) (by simpa using h)
    exact ⟨y, by simpa using a, b⟩
theorem pGet2 {α β : Type} {F : α → β → Prop} : ∀ {l : List α} {m : List β}, Paired F l m → ∀ {i : Nat} {y : β}, m[i]? = some y → ∃ x, l[i]? = some x ∧ F x y
  | _, _, .nil, i, x, h => by simp at h
  | _, _, .cons r _, 0, x, h => by simp at h; subst h; exact ⟨_, rfl, r⟩
  | _, _, .cons _ t, i + 1, x, h => by
    obtain ⟨y, a, b⟩ := pGet2 t (i := i) (y := x) (by simpa using h)
    exact ⟨y, by simpa using a, b⟩
theorem pLen {α β : Type} {F : α → β → Prop} {l : List α} {m : List β} (h : Paired F l m) : l.length = m.length := PySem.Paired.length h
theorem pImp {α β : Type} {F G : α → β → Prop} {l : List α} {m : List β} (h : Paired F l m) (k : ∀ a b, F a b → G a b) : Paired G l m := L2.Paired.mapP h k
theorem pApp {α β : Type} {F : α → β → Prop} : ∀ {l l' : List α} {m m' : List β}, Paired F l m → Paired F l' m' → Paired F (l ++ l') (m ++ m')
  | _, _, _, _, .nil, h => h
  | _, _, _, _, .cons r t, h => .cons r (pApp t h)
theorem pOf {α β : Type} {F : α → β → Prop} : ∀ {l : List α} {m : List β}, l.length = m.length → (∀ (i : Nat) x y, l[i]? = some x → m[i]? = some y → F x y) → Paired F l m
  | [], [], _, _ => .nil
  | [], _ :: _, h, _ => by simp at h
  | _ :: _, [], h, _ => by simp at h
  | a :: l, b :: m, h, k => .cons (k 0 a b rfl rfl) (pOf (by simpa using h) fun i x y hx hy => k (i + 1) x y (by simpa using hx) (by simpa using hy))
theorem pEqMap {α β : Type} {f : α → β} : ∀ {l : List α} {m : List β}, Paired (fun x y => y = f x) l m → m = l.map f
  | _, _, .nil => rfl
  | _, _, .cons r t => by rw [List.map_cons, ← r, ← pEqMap t]
theorem pMapL {α β γ : Type} {F : γ → β → Prop} {f : α → γ} : ∀ {l : List α} {m : List β}, Paired (fun x y => F (f x) y) l m → Paired F (l.map f) m
  | _, _, .nil => .nil
  | _, _, .cons r t => .cons r (pMapL t)
theorem pUnmapL {α β γ : Type} {F : γ → β → Prop} {f : α → γ} : ∀ {l : List α} {m : List β}, Paired F (l.map f) m → Paired (fun x y => F (f x) y) l m
  | [], _, h => by cases h; exact .nil
  | _ :: _, _, h => by cases h with | cons r t => exact .cons r (pUnmapL t)
theorem pComp {α β γ : Type} {F : α → β → Prop} {G : β → γ → Prop} : ∀ {l : List α} {m : List β} {n : List γ}, Paired F l m → Paired G m n → Paired (fun x z => ∃ y, F x y ∧ G y z) l n
  | _, _, _, .nil, .nil => .nil
  | _, _, _, .cons r t, .cons r' t' => .cons ⟨_, r, r'⟩ (pComp t t')
theorem pFlip {α β : Type} {F : α → β → Prop} : ∀ {l : List α} {m : List β}, Paired F l m → Paired (fun y x => F x y) m l
  | _, _, .nil => .nil
  | _, _, .cons r t => .cons r (pFlip t)

/-! ### heaps -/
def cut (H : Hp) (a : Addr) : Hp := fun b => if b = a then none else H b
theorem cut_same {H : Hp} {a : Addr} : cut H a a = none := if_pos rfl
theorem cut_ne {H : Hp} {a b : Addr} (h : b ≠ a) : cut H a b = H b := if_neg h
theorem cut_some {H : Hp} {a b : Addr} {o : HO} (h : cut H a b = some o) : b ≠ a ∧ H b = some o := by
  by_cases e : b = a
  · rw [e, cut_same] at h; cases h
  · rw [cut_ne e] at h; exact ⟨e, h⟩
theorem same_cut (H : Hp) (a : Addr) : Same (cut H a) H := fun _ _ h => (cut_some h).2
theorem none_back {H H' : Hp} {a : Addr} (s : Same H H') (h : H' a = none) : H a = none := by
  cases e : H a with
  | none => rfl
  | some o => rw [s _ _ e] at h; cases h
theorem Same.cut {H H' : Hp} (h : Same H H') (a : Addr) : Same (cut H a) (cut H' a) := fun b o e => by
  obtain ⟨n, e⟩ := cut_some e
  rw [cut_ne n]; exact h b o e
theorem same_cut_none {H : Hp} {a : Addr} (h : H a = none) : Same H (cut H a) := fun b o e => by
  rw [cut_ne (ne_of_none e h)]; exact e
theorem cut_upd {H : Hp} {a : Addr} {o : HO} : cut (upd H a o) a = cut H a := by
  funext b
  by_cases e : b = a
  · rw [e, cut_same, cut_same]
  · rw [cut_ne e, cut_ne e, upd_ne e]
theorem cut_none {H : Hp} {a : Addr} (h : H a = none) : cut H a = H := by
  funext b
  by_cases e : b = a
  · rw [e, cut_same, h]
  · rw [cut_ne e]
theorem same_upd {H : Hp} {a : Addr} {o : HO} (h : H a = none) : Same H (upd H a o) := fun b u e => by
  rw [upd_ne (ne_of_none e h)]; exact e
theorem Same.upd {H H' : Hp} {a : Addr} {o : HO} (s : Same H H') (h : H' a = none) : Same H (upd H' a o) := s.trans (same_upd h)
theorem Same.tup {K : PySem.W.Frag} {H H' : Hp} {a : Addr} {xs : List V} (e : Same H H') (h : SqT K H a xs) : SqT K H' a xs := by
  rcases h with (h | ⟨o, h⟩) | h
  · exact .inl (.inl (e _ _ h))
  · exact .inl (.inr ⟨o, e _ _ h⟩)
  · exact .inr h
/-- an object that is new behind D stands beside D -/
theorem new_ne {H : Hp} {D p : Addr} {o : HO} (hD : H D = some o) (hp : H p = none) : p ≠ D := fun e => by rw [e, hD] at hp; cases hp
theorem cut_new {H H' : Hp} {D p : Addr} {o u : HO} (hD : H D = some o) (hp : H p = none) (h : H' p = some u) : cut H' D p = some u := by
  rw [cut_ne (new_ne hD hp)]; exact h

/-! ### what stands for what -/
abbrev RelH (δ : Type) := Hp → V → δ → Prop
def Mono {δ : Type} (R : RelH δ) : Prop := ∀ H H' v d, Same H H' → R H v d → R H' v d
def isI : RelH Int := fun _ v z => v = .int z
def rt (q : Rat) : HO := .tup [.int q.num, .int q.den]
def isQ : RelH Rat := fun H v q => ∃ a, v = .ref a ∧ H a = some (rt q)
def isL {δ : Type} (R : RelH δ) : RelH (List δ) := fun H v ds => ∃ a vs, v = .ref a ∧ H a = some (.lst vs) ∧ Paired (fun d x => R H x d) ds vs
def isT {δ : Type} (R : RelH δ) : RelH (List δ) := fun H v ds => ∃ a vs, v = .ref a ∧ H a = some (.tup vs) ∧ Paired (fun d x => R H x d) ds vs
def isP {δ ε : Type} (R : RelH δ) (S : RelH ε) : RelH (δ × ε) := fun H v d => ∃ a x y, v = .ref a ∧ H a = some (.tup [x, y]) ∧ R H x d.1 ∧ S H y d.2
theorem mono_I : Mono isI := fun _ _ _ _ _ h => h
theorem mono_Q : Mono isQ := fun _ _ _ _ s ⟨a, e, h⟩ => ⟨a, e, s _ _ h⟩
theorem mono_L {δ : Type} {R : RelH δ} (m : Mono R) : Mono (isL R) := fun _ _ _ _ s ⟨a, vs, e, h, p⟩ => ⟨a, vs, e, s _ _ h, pImp p (fun _ _ r => m _ _ _ _ s r)⟩
theorem mono_T {δ : Type} {R : RelH δ} (m : Mono R) : Mono (isT R) := fun _ _ _ _ s ⟨a, vs, e, h, p⟩ => ⟨a, vs, e, s _ _ h, pImp p (fun _ _ r => m _ _ _ _ s r)⟩
theorem mono_P {δ ε : Type} {R : RelH δ} {S : RelH ε} (m : Mono R) (n : Mono S) : Mono (isP R S) := fun _ _ _ _ s ⟨a, x, y, e, h, p, q⟩ => ⟨a, x, y, e, s _ _ h, m _ _ _ _ s p, n _ _ _ _ s q⟩
theorem isLI {H : Hp} {v : V} {zs : List Int} : isL isI H v zs ↔ ∃ a, v = .ref a ∧ H a = some (.lst (zs.map V.int)) := by
  constructor
  · rintro ⟨a, vs, e, h, p⟩
    exact ⟨a, e, by rw [h, pEqMap p]⟩
  · rintro ⟨a, e, h⟩
    refine ⟨a, _, e, h, ?_⟩
    exact pOf (by simp) fun i x y hx hy => by
      rw [List.getElem?_map, hx] at hy
      exact (Option.some.inj hy).symm

/-! ### a comprehension in general -/
section
variable {J : It} {n : Nat} {G : Hp → Prop} {Y : Nat → Hp → V → Hp → Prop}
theorem range_filter_succ (keep : Nat → Bool) (i : Nat) : (List.range (i + 1)).filter keep = (List.range i).filter keep ++ (if keep i = true then [i] else []) := by
  rw [List.range_succ, List.filter_append]
  congr 1
  cases h : keep i <;> simp [h]
/-- with a test: R tells what the i-th gives; keep which stay -/
theorem lcf (w : Walk J n G Y) {g : TG} {tt : TT} {te : TE} {vs : List Nat} {σ : L2.St} {H1 : Hp} {D : Addr} {Qd : Hp → Prop} (R : Nat → Hp → V → Prop) (keep : Nat → Bool) (hD : H1 D = none) (hn : n ≤ sizeLine)
    (mono : ∀ i H H' v, Same H H' → R i H v → R i H' v) (hG : ∀ H, Same H1 H → G H)
    (hs : ∀ i x H H', i < n → Same H1 (cut H D) → (∃ acc, H D = some (.lst acc)) → Y i H x H' → ∀ (Q : VK) (Q' : Hp → Prop), (keep i = true → ∀ y H4, Same H H4 → R i (cut H4 D) y → Q y H4) → (keep i = false → ∀ H3, Same H H3 → Q' H3) →
      g x (wipe σ vs) H' fun σ2 H2 => wipe σ2 vs = wipe σ vs ∧ tt σ2 H2 fun b H3 => if b = true then te σ2 H3 Q else Q' H3)
    (hd : ∀ H ys, Same H1 H → H D = some (.lst ys) → Paired (fun i y => R i H y) ((List.range n).filter keep) ys → Qd H) :
    ∃ W : Nat → Nat → Hp → Prop, (∃ m, W 0 m (upd H1 D (.lst []))) ∧ ∀ i m H, W i m H →
      (J.stop i H ∧ Qd H) ∨ (J.go i H ∧ ∃ Nx : Hp → Prop, (∀ H', Nx H' → ∃ m', m' < m ∧ W (i + 1) m' H') ∧ ∀ x H', J.yld i H x H' → g x (wipe σ vs) H' fun σ2 H2 => wipe σ2 vs = wipe σ vs ∧ tt σ2 H2 fun b H3 =>
        if b = true then te σ2 H3 fun y H4 => ∃ acc, H4 D = some (.lst acc) ∧ acc.length < sizeLine ∧ Nx (upd H4 D (.lst (acc ++ [y]))) else Nx H3) := by
  have up : ∀ H, Same H1 (cut H D) → Same H1 H := fun H s => s.trans (same_cut H D)
  refine lc_it w (fun i H => Same H1 (cut H D) ∧ ∃ acc, H D = some (.lst acc) ∧ acc.length ≤ i ∧ Paired (fun j y => R j (cut H D) y) ((List.range i).filter keep) acc) ⟨?_, [], upd_same, Nat.zero_le _, .nil⟩ (fun i H _ ⟨s, _⟩ => hG H (up H s)) ?_ ?_
  · rw [cut_upd]; exact same_cut_none hD
  · rintro i x H H' hi ⟨s, acc, hacc, hl, hp⟩ y
    refine hs i x H H' hi s ⟨_, hacc⟩ y _ _ (fun ek v H4 s4 r => ?_) (fun ek H3 s3 => ?_)
    · have hacc4 := s4 _ _ hacc
      refine ⟨acc, hacc4, by omega, ?_, acc ++ [v], upd_same, by rw [List.length_append]; show acc.length + 1 ≤ i + 1; omega, ?_⟩
      · rw [cut_upd]; exact s.trans (Same.cut s4 D)
      · rw [cut_upd, range_filter_succ, if_pos ek]
        exact pApp (pImp hp (fun j y q => mono _ _ _ _ (Same.cut s4 D) q)) (.cons r .nil)
    · refine ⟨s.trans (Same.cut s3 D), acc, s3 _ _ hacc, by omega, ?_⟩
      rw [range_filter_succ, if_neg (by rw [ek]; decide), List.append_nil]
      exact pImp hp (fun j y q => mono _ _ _ _ (Same.cut s3 D) q)
  · rintro H ⟨s, acc, hacc, hl, hp⟩
    exact hd H acc (up H s) hacc (pImp hp (fun j y q => mono _ _ _ _ (same_cut H D) q))
/-- without a test -/
theorem lcm (w : Walk J n G Y) {g : TG} {te : TE} {vs : List Nat} {σ : L2.St} {H1 : Hp} {D : Addr} {Qd : Hp → Prop} (R : Nat → Hp → V → Prop) (hD : H1 D = none) (hn : n ≤ sizeLine)
    (mono : ∀ i H H' v, Same H H' → R i H v → R i H' v) (hG : ∀ H, Same H1 H → G H)
    (hs : ∀ i x H H', i < n → Same H1 (cut H D) → (∃ acc, H D = some (.lst acc)) → Y i H x H' → ∀ Q : VK, (∀ y H4, Same H H4 → R i (cut H4 D) y → Q y H4) → g x (wipe σ vs) H' fun σ2 H2 => wipe σ2 vs = wipe σ vs ∧ te σ2 H2 Q)
    (hd : ∀ H ys, Same H1 H → H D = some (.lst ys) → Paired (fun i y => R i H y) (List.range n) ys → Qd H) :
    ∃ W : Nat → Nat → Hp → Prop, (∃ m, W 0 m (upd H1 D (.lst []))) ∧ ∀ i m H, W i m H →
      (J.stop i H ∧ Qd H) ∨ (J.go i H ∧ ∃ Nx : Hp → Prop, (∀ H', Nx H' → ∃ m', m' < m ∧ W (i + 1) m' H') ∧ ∀ x H', J.yld i H x H' → g x (wipe σ vs) H' fun σ2 H2 => wipe σ2 vs = wipe σ vs ∧ tYes σ2 H2 fun b H3 =>
        if b = true then te σ2 H3 fun y H4 => ∃ acc, H4 D = some (.lst acc) ∧ acc.length < sizeLine ∧ Nx (upd H4 D (.lst (acc ++ [y]))) else Nx H3) := by
  refine lcf w R (fun _ => true) hD hn mono hG (fun i x H H' hi s o y Q Q' k1 _ => ?_) (fun H ys s hD p => hd H ys s hD ?_)
  · have e : ∀ (σ2 : L2.St) (H2 : Hp), (tYes σ2 H2 fun b H3 => if b = true then te σ2 H3 Q else Q' H3) = te σ2 H2 Q := fun σ2 H2 => by
      show (if true = true then te σ2 H2 Q else Q' H2) = _
      rw [if_pos rfl]
    simp only [e]
    exact hs i x H H' hi s o y Q (k1 rfl)
  · have e : (List.range n).filter (fun _ => true) = List.range n := List.filter_eq_self.mpr fun _ _ => rfl
    rw [e] at p; exact p
end

/-! ### rules with K written out (so that they may stand in a comprehension) -/
section
variable {X : Cx} (K : PySem.W.Frag)
def rIxN : R2 := fun x y H Q => ∃ (p : Addr) (xs : List V) (i : Nat) (v : V), x = .ref p ∧ y = .int i ∧ (SqL K H p xs ∨ SqT K H p xs) ∧ xs[i]? = some v ∧ Q v H
theorem ix_n (h : X.K = K := by rfl) : IxR X (rIxN K) := by
  subst h
  intro value slice pins s σ H x y v u Q I rx ry hh hs
  obtain ⟨p, xs, i, z, rfl, rfl, hq, he, q⟩ := hh
  rcases hq with hq | hq
  · exact ix_list value slice pins s σ H _ _ v u Q I rx ry ⟨p, xs, i, z, rfl, rfl, hq, atI_nat he, q⟩ hs
  · exact ix_tup value slice pins s σ H _ _ v u Q I rx ry ⟨p, xs, i, z, rfl, rfl, hq, atI_nat he, q⟩ hs
theorem call_lenK (h : X.K = K := by rfl) : CallR X (.builtin "len") (fun xs H Q => ∃ p ys, xs = [.ref p] ∧ (SqL K H p ys ∨ SqT K H p ys) ∧ Q (.int ys.length) H) := by subst h; exact call_len_seq
theorem call_listK (h : X.K = K := by rfl) : CallR X (.type "list") (fun xs H Q => ∃ p ys, xs = [.ref p] ∧ (SqL K H p ys ∨ SqT K H p ys) ∧ ∀ l, H l = none → Q (.ref l) (upd H l (.lst ys))) := by subst h; exact call_list_of
theorem call_tupleK (h : X.K = K := by rfl) : CallR X (.type "tuple") (fun xs H Q => ∃ p ys, xs = [.ref p] ∧ ((SqL K H p ys ∧ ∀ l, H l = none → Q (.ref l) (upd H l (.tup ys))) ∨ (SqT K H p ys ∧ Q (.ref p) H))) := by subst h; exact call_tuple_of
theorem call_isiK' (h : X.K = K := by rfl) : CallR X (.builtin "isinstance") (rIsi K) := by subst h; exact call_isi
theorem cr_sumK (hc : X.calm = true) (h : X.K = K := by rfl) : CallR X (.builtin "sum") (rSum K) := by subst h; exact cr_sum hc
theorem cr_maxK (hc : X.calm = true) (h : X.K = K := by rfl) : CallR X (.builtin "max") (rMax K) := by subst h; exact cr_max hc
theorem cr_minK' (hc : X.calm = true) (h : X.K = K := by rfl) : CallR X (.builtin "min") (rMin K) := by subst h; exact cr_min hc
theorem cr_anyIK (hc : X.calm = true) (h : X.K = K := by rfl) : CallR X (.builtin "any") (rAnyI K) := by subst h; exact cr_anyI hc
theorem op_inK (h : X.K = K := by rfl) : OpR X (compareOp .In) (rIn K false) := by subst h; exact op_in_seq
theorem op_notInK (h : X.K = K := by rfl) : OpR X (compareOp .NotIn) (rIn K true) := by subst h; exact op_notIn_seq
theorem op_eqDK (hu : X.A.units + 64 < cLine) (h : X.K = K := by rfl) : OpR X (compareOp .Eq) (rEqD K) := by subst h; exact op_eqD hu
theorem op_neDK (hu : X.A.units + 64 < cLine) (h : X.K = K := by rfl) : OpR X (compareOp .NotEq) (rNeD K) := by subst h; exact op_neD hu
theorem sl_listK (h : X.K = K := by rfl) : SlR X (rSlL K) := by subst h; exact sl_list
variable {e l : Expr} {te tl : TE} {es : List Expr} {t : TA} {pos p : Pos} {tg : Expr} {f : Str}
theorem pi_listK (hl : PE X l tl) (h : X.K = K := by rfl) : PI X tg l (iList K tl) := by subst h; exact pi_list hl
theorem pi_tupK (hl : PE X l tl) (h : X.K = K := by rfl) : PI X tg l (iTup K tl) := by subst h; exact pi_tup hl
theorem pt_truthK (ha : PE X e te) (he : ∀ whole, isTrue e X.env whole = (do let v ← whole; standAt e.pos; holding [v] (truthy v)) := by intro _; rfl) (h : X.K = K := by rfl) :
    PT X e (fun σ H Q => te σ H fun x H' => ∃ k, TruV K x H' k ∧ Q k H') := by subst h; exact pt_truth ha he
theorem pe_fldK (he : PE X e te) (hb : attributeBase e f X.env (eval e X.env) = eval e X.env := by rfl) (h : X.K = K := by rfl) : PE X (.Attribute e f pos) (tFld K te f) := by subst h; exact pe_fld he hb
theorem pa_starK (he : PE X e te) (hr : PA X es t) (hs : starEach (.Starred e p :: es) X.env = (true, eval e X.env) :: starEach es X.env := by rfl) (h : X.K = K := by rfl) : PA X (.Starred e p :: es) (StX.tStar K te t) := by subst h; exact StX.pa_star he hr hs
variable {elts : List Expr} {kk : Nat} {tpos : Pos} {e2 : Expr} {ta : TA}
theorem pi_enumK (hm : X.mg "enumerate" = none) (ha : PA X [e] ta) (hg : Gl X "enumerate" := by rfl) (hs : starEach [e] X.env = [(false, eval e X.env)] := by rfl) (h : X.K = K := by rfl) : PI X (.Tuple elts kk tpos) (.Call (.Name "enumerate" p) [e] [] pos) (iEnum K ta) := by subst h; exact pi_enum hg hm ha hs
theorem pi_zipK (hm : X.mg "zip" = none) (ha : PA X [e, e2] ta) (hg : Gl X "zip" := by rfl) (hs : starEach [e, e2] X.env = (false, eval e X.env) :: starEach [e2] X.env := by rfl) (hpl : (backTo pos (starEach [e2] X.env)).any (·.1) = false := by rfl) (h : X.K = K := by rfl) :
    PI X (.Tuple elts kk tpos) (.Call (.Name "zip" p) [e, e2] [] pos) (iZip K ta) := by subst h; exact pi_zip hg hm ha hs hpl
end
end K4
/-! K2: ints and vectors. -/
namespace K4
open PySem PySem.Spec PyProof.Rows L2
open M4 (Bd)
theorem b_abs : bootBuiltins "abs" = some (.builtin "abs") := by decide +kernel
theorem b_len : bootBuiltins "len" = some (.builtin "len") := by decide +kernel
theorem b_sum : bootBuiltins "sum" = some (.builtin "sum") := by decide +kernel
theorem b_any : bootBuiltins "any" = some (.builtin "any") := by decide +kernel
theorem b_min : bootBuiltins "min" = some (.builtin "min") := by decide +kernel
theorem b_max : bootBuiltins "max" = some (.builtin "max") := by decide +kernel
theorem b_isinstance : bootBuiltins "isinstance" = some (.builtin "isinstance") := by decide +kernel
theorem b_int : bootBuiltins "int" = some (.type "int") := by decide +kernel
theorem b_bool : bootBuiltins "bool" = some (.type "bool") := by decide +kernel
theorem b_str : bootBuiltins "str" = some (.type "str") := by decide +kernel
theorem b_list : bootBuiltins "list" = some (.type "list") := by decide +kernel
theorem b_tuple : bootBuiltins "tuple" = some (.type "tuple") := by decide +kernel
theorem Def.kp {K : PySem.W.Frag} {f : Addr} {name qual : Str} {st : Stmt} {dvs : List V} (D : Def K f name qual st dvs) : PySem.W.keepIn K (.ref f) = true := by
  obtain ⟨fd, F⟩ := D
  exact F.kp
theorem Def.cal {P : Program} {w : World} {K : PySem.W.Frag} {mg : Str → Option Value} {base : Heap} {CX : CXT} {k : Nat} {f : Addr} {x name qual : Str} {st : Stmt} {dvs : List V} {sp : L2.Sp} (D : Def K f name qual st dvs) (hm : mg x = some (.ref f)) (F : FnR P w K mg base CX k f sp) :
    Cal P w K mg base CX k x sp := ⟨f, F, D.kp, hm⟩
/-- a global def: where it stands -/
structure Glo (K : PySem.W.Frag) (mg : Str → Option Value) (x name : Str) (st : Stmt) : Prop where
  d : ∃ f, Def K f name name st [] ∧ mg x = some (.ref f)
theorem Glo.cal {P : Program} {w : World} {K : PySem.W.Frag} {mg : Str → Option Value} {base : Heap} {x name : Str} {st : Stmt} {N ps : List Str} {k : Nat} {sp : L2.Sp} (D : Glo K mg x name st) (S : FnScope N ps (defScope st))
    (hb : ∀ (kV doc pm : Value) (an : Option Addr) (cdv ct : Value) (us : List Value), us.length = ps.length → bindArgs (PySem.W.fnOf name name (defArgs st) (defBody st) (defScope st) .none kV doc pm an cdv ct) ⟨us, []⟩ = pure (ps.zip us))
    (len : ∀ vs H Q E, sp vs H Q E → vs.length = ps.length)
    (hbody : ∀ (f : Addr) (cdv : Value) (A : Around) (outer : List Env) (s : Shared) (H : Hp) (vs : List V) (Q : VK) (E : XK), Room k (A.deeper (envOfC name (defScope st) s.heap.objs.size f cdv)) → sp vs H Q E →
      ∃ t, PSs (cxOf CX0 P w K mg base N name (defScope st) f cdv A outer s H E).nox (defBody st) t ∧ t { nx := fun _ H' => Q .non H', rt := Q } (start N vs) H) : Cal P w K mg base CX0 (k + 1) x sp := by
  obtain ⟨f, D, hm⟩ := D.d
  exact D.cal hm (D.fnR0 S hb len (hbody f))

/-! ### shared_divisor, common_divisor -/
def spShared : L2.Sp := fun vs H Q _ => ∃ a b : Int, vs = [.int a, .int b] ∧ Q (.int (Int.gcd a b)) H
theorem sc_shared_divisor : FnScope ["left", "right"] ["left", "right"] (defScope s_shared_divisor) := ⟨rfl, rfl, rfl, by decide +kernel, rfl, by decide +kernel, by decide +kernel⟩

section
variable {P : Program} {w : World} {K : PySem.W.Frag} {mg : Str → Option Value} {base : Heap}
theorem natAbs_ite (i : Int) : (if i < 0 then -i else i) = (i.natAbs : Int) := by
  split <;> omega
theorem gcd_step {a b g : Nat} (h : Nat.gcd a b = g) (hb : b ≠ 0) : Nat.gcd b (a % b) = g := by
  rw [← h, Nat.gcd_comm a b, Nat.gcd_rec b a, Nat.gcd_comm]
theorem ok_shared_divisor (D : Glo K mg "shared_divisor" "shared_divisor" s_shared_divisor) (T_abs : mg "abs" = none) : Cal P w K mg base CX0 33 "shared_divisor" spShared := by
  refine D.cal sc_shared_divisor (fun _ _ _ _ _ _ us hl => match us, hl with | [_, _], _ => rfl) (fun vs H Q E h => ?_) (fun f cdv A outer s H vs Q E hr h => ?_)
  · obtain ⟨a, b, rfl, _⟩ := h; rfl
  · obtain ⟨a, b, rfl, k⟩ := h
    refine ⟨_, (pss_cons (ps_par (i := 0) (j := 1) (by rfl) sc_shared_divisor.nd rfl rfl (by decide) rfl rfl (pa_cons (pe_callB call_abs (by rfl) T_abs b_abs (pa_cons (pv 0) pa_nil)) (pa_cons (pe_callB call_abs (by rfl) T_abs b_abs (pa_cons (pv 1) pa_nil)) pa_nil)) (by rfl))
      (pss_cons (ps_while PassesOwn.never (pt_truthK K (pv 1)) (pss_one (ps_par (i := 0) (j := 1) (by rfl) sc_shared_divisor.nd rfl rfl (by decide) rfl rfl (pa_cons (pv 1) (pa_cons (pe_op op_mod (pv 0) (pv 1)) pa_nil)) (by rfl))))
      (pss_one (ps_ret (pv 0))))), ?_⟩
    refine ⟨_, rfl, a, rfl, _, rfl, b, rfl, _, _, rfl, ?_⟩
    rw [natAbs_ite, natAbs_ite]
    refine ⟨fun m σ H' => ∃ x y : Nat, σ = [some (.int x), some (.int y)] ∧ H' = H ∧ Nat.gcd x y = Int.gcd a b ∧ m = y, ⟨_, _, _, rfl, rfl, rfl, rfl⟩, ?_⟩
    rintro m σ H' ⟨x, y, rfl, rfl, hg, rfl⟩
    refine ⟨_, rfl, _, rfl, ?_⟩
    by_cases hy : m = 0
    · subst hy
      refine iteF ⟨_, rfl, ?_⟩
      rw [Nat.gcd_zero_right] at hg
      rw [hg]; exact k
    · refine iteC (by simpa using hy) ?_
      refine ⟨fun σ H2 => ∃ x y : Nat, σ = [some (.int x), some (.int y)] ∧ H2 = H' ∧ Nat.gcd x y = Int.gcd a b ∧ y < m, ?_, ?_⟩
      · rintro σ' H2 ⟨x, y, rfl, rfl, h1, h2⟩
        exact ⟨y, h2, x, y, rfl, rfl, h1, rfl⟩
      · refine ⟨_, rfl, _, rfl, _, rfl, _, _, rfl, rfl, (by show (0 : Int) < m; omega), _, _, rfl, ?_⟩
        exact ⟨m, x % m, rfl, rfl, gcd_step hg hy, Nat.mod_lt _ (by omega)⟩

/-! ### common_divisor, lowest -/
theorem fmod_abs (a : Int) {b : Int} (h : b ≠ 0) : (a.fmod b).natAbs < b.natAbs := by
  have h1 := Int.emod_nonneg a h
  have h2 := Int.emod_lt a h
  rw [Int.fmod_eq_emod]
  by_cases c : 0 ≤ b ∨ b ∣ a
  · rw [if_pos c]; omega
  · rw [if_neg c]
    have n0 : a % b ≠ 0 := fun z => c (.inr (Int.dvd_of_emod_eq_zero z))
    omega
theorem gcd_fmod (a b : Int) : Int.gcd b (a.fmod b) = Int.gcd a b := by
  rw [Int.fmod_def, Int.gcd_sub_mul_left_right, Int.gcd_comm]
theorem sc_common_divisor : FnScope ["one", "two"] ["one", "two"] (defScope s_common_divisor) := ⟨rfl, rfl, rfl, by decide +kernel, rfl, by decide +kernel, by decide +kernel⟩

theorem ok_common_divisor (D : Glo K mg "common_divisor" "common_divisor" s_common_divisor) (T_abs : mg "abs" = none) : Cal P w K mg base CX0 33 "common_divisor" spShared := by
  refine D.cal sc_common_divisor (fun _ _ _ _ _ _ us hl => match us, hl with | [_, _], _ => rfl) (fun vs H Q E h => ?_) (fun f cdv A outer s H vs Q E hr h => ?_)
  · obtain ⟨a, b, rfl, _⟩ := h; rfl
  · obtain ⟨a, b, rfl, k⟩ := h
    refine ⟨_, (pss_cons (ps_while PassesOwn.never (pt_cmpR op_ne (pv 1) pe_int (nomark _)) (pss_one (ps_par (i := 0) (j := 1) (by rfl) sc_common_divisor.nd rfl rfl (by decide) rfl rfl (pa_cons (pv 1) (pa_cons (pe_op op_modN (pv 0) (pv 1)) pa_nil)) (by rfl))))
      (pss_one (ps_ret (pe_callB call_abs (by rfl) T_abs b_abs (pa_cons (pv 0) pa_nil))))), ?_⟩
    refine ⟨fun m σ H' => ∃ x y : Int, σ = [some (.int x), some (.int y)] ∧ H' = H ∧ Int.gcd x y = Int.gcd a b ∧ m = y.natAbs, ⟨_, _, _, rfl, rfl, rfl, rfl⟩, ?_⟩
    rintro m σ H' ⟨x, y, rfl, rfl, hg, rfl⟩
    refine ⟨_, rfl, rfl, _, rfl, ?_⟩
    by_cases hy : y = 0
    · subst hy
      refine iteN (by decide) ⟨_, rfl, _, rfl, ?_⟩
      rw [natAbs_ite]
      rw [Int.gcd_zero_right] at hg
      rw [hg]; exact k
    · refine iteC (by simpa using hy) ?_
      refine ⟨fun σ H2 => ∃ x' y' : Int, σ = [some (.int x'), some (.int y')] ∧ H2 = H' ∧ Int.gcd x' y' = Int.gcd a b ∧ y'.natAbs < y.natAbs, ?_, ?_⟩
      · rintro σ' H2 ⟨x', y', rfl, rfl, h1, h2⟩
        exact ⟨_, h2, x', y', rfl, rfl, h1, rfl⟩
      · refine ⟨_, rfl, _, rfl, _, rfl, _, _, rfl, rfl, hy, _, _, rfl, ?_⟩
        exact ⟨y, x.fmod y, rfl, rfl, (gcd_fmod x y).trans hg, fmod_abs x hy⟩
/-- what lowest gives -/
theorem lowest_eq {n d : Int} (h : d ≠ 0) : n.fdiv (if d < 0 then -((Int.gcd n d : Nat) : Int) else ((Int.gcd n d : Nat) : Int)) = ((n : Rat) / (d : Rat)).num ∧ d.fdiv (if d < 0 then -((Int.gcd n d : Nat) : Int) else ((Int.gcd n d : Nat) : Int)) = (((n : Rat) / (d : Rat)).den : Int) := by
  have g0 : Int.gcd d n ≠ 0 := fun z => h (Int.gcd_eq_zero_iff.mp z).1
  have dn : ((Int.gcd d n : Nat) : Int) ∣ n := Int.gcd_dvd_right d n
  have dd : ((Int.gcd d n : Nat) : Int) ∣ d := Int.gcd_dvd_left d n
  rw [Int.gcd_comm n d, ← Rat.divInt_eq_div, Rat.num_divInt, Rat.den_divInt, if_neg h]
  generalize Int.gcd d n = g at *
  have gp : (0 : Int) < (g : Int) := by omega
  obtain ⟨n', rfl⟩ := dn
  obtain ⟨d', rfl⟩ := dd
  have gq : (g : Int) ≠ 0 := by omega
  have nab : ((g : Int) * d').natAbs = g * d'.natAbs := by rw [Int.natAbs_mul, Int.natAbs_natCast]
  rw [nab, Nat.mul_div_cancel_left _ (by omega)]
  have d0 : d' ≠ 0 := fun z => h (by rw [z]; simp)
  by_cases s : (g : Int) * d' < 0
  · have sg : ((g : Int) * d').sign = -1 := Int.sign_eq_neg_one_iff_neg.mpr s
    have d1 : d' < 0 := by
      by_cases z : 0 ≤ d'
      · have := Int.mul_nonneg (Int.le_of_lt gp) z; omega
      · omega
    rw [if_pos s, sg, Int.fdiv_neg gq, Int.fdiv_neg gq, if_pos ⟨n', rfl⟩, if_pos ⟨d', rfl⟩, Int.mul_fdiv_cancel_left _ gq, Int.mul_fdiv_cancel_left _ gq]
    refine ⟨?_, by omega⟩
    rw [show (-1 : Int) * ((g : Int) * n') = (g : Int) * (-n') by grind, Int.mul_ediv_cancel_left _ gq]
  · have s' : 0 < (g : Int) * d' := by have := Int.mul_ne_zero gq d0; omega
    have sg : ((g : Int) * d').sign = 1 := Int.sign_eq_one_iff_pos.mpr s'
    have d1 : 0 < d' := Int.pos_of_mul_pos_right s' gp
    rw [if_neg s, sg, Int.mul_fdiv_cancel_left _ gq, Int.mul_fdiv_cancel_left _ gq]
    refine ⟨?_, by omega⟩
    rw [Int.one_mul, Int.mul_ediv_cancel_left _ gq]
theorem int_num (n : Int) : ((n : Rat) / ((1 : Int) : Rat)).num = n ∧ ((n : Rat) / ((1 : Int) : Rat)).den = 1 := by
  have e : (n : Rat) / ((1 : Int) : Rat) = (n : Rat) := by
    have : ((1 : Int) : Rat) = 1 := rfl
    rw [this]; grind
  rw [e]; exact ⟨rfl, rfl⟩
theorem rt_of {a b : Int} {q : Rat} (h1 : a = q.num) (h2 : b = (q.den : Int)) : HO.tup [.int a, .int b] = rt q := by rw [h1, h2]; rfl
/-- a new object -/
abbrev New (H : Hp) (o : HO) (Q : VK) : Prop := ∀ p H', Same H H' → H p = none → H' p = some o → Q (.ref p) H'
def spLowest : L2.Sp := fun vs H Q _ => ∃ n d : Int, vs = [.int n, .int d] ∧ d ≠ 0 ∧ New H (rt ((n : Rat) / (d : Rat))) Q
theorem sc_lowest : FnScope ["num", "den", "divisor"] ["num", "den"] (defScope s_lowest) := ⟨rfl, rfl, rfl, by decide +kernel, rfl, by decide +kernel, by decide +kernel⟩

theorem ok_lowest (D : Glo K mg "lowest" "lowest" s_lowest) (ok_common_divisor : Cal P w K mg base CX0 33 "common_divisor" spShared) (seer : Seer P K mg) : Cal P w K mg base CX0 35 "lowest" spLowest := by
  refine D.cal sc_lowest (fun _ _ _ _ _ _ us hl => match us, hl with | [_, _], _ => rfl) (fun vs H Q E h => ?_) (fun f cdv A outer s H vs Q E hr h => ?_)
  · obtain ⟨a, b, rfl, _⟩ := h; rfl
  · obtain ⟨n, d, rfl, h0, k⟩ := h
    refine ⟨_, (pss_cons (ps_if (pt_cmpR op_eq (pv 1) pe_int (nomark _)) (pss_one (ps_ret (pe_tup (pa_cons (pv 0) (pa_cons pe_int pa_nil))))) pss_nil)
      (pss_cons (ps_set (i := 2) sc_lowest.nd rfl (by first | exact Or.inl rfl | exact Or.inr rfl) (pe_cal ok_common_divisor (hr.mono (by decide)) (pa_cons (pv 0) (pa_cons (pv 1) pa_nil))))
      (pss_cons (ps_if (pt_cmpR op_lt (pv 1) pe_int (nomark _)) (pss_one (ps_set (i := 2) sc_lowest.nd rfl (by first | exact Or.inl rfl | exact Or.inr rfl) (pe_un un_neg (pv 2)))) pss_nil)
      (pss_one (ps_ret (pe_tup (pa_cons (pe_op (op_fdivA seer (hr.mono (by decide)) ⟨_, _, rfl, rfl, rfl, rfl, rfl⟩) (pv 0) (pv 2)) (pa_cons (pe_op (op_fdivA seer (hr.mono (by decide)) ⟨_, _, rfl, rfl, rfl, rfl, rfl⟩) (pv 1) (pv 2)) pa_nil)))))))), ?_⟩
    refine ⟨_, rfl, rfl, _, rfl, ?_⟩
    by_cases h1 : d = 1
    · subst h1
      refine iteC (by decide) ⟨_, rfl, by show 2 ≤ sizeLine; decide, fun p hp => k p _ (same_upd hp) hp (upd_same.trans (congrArg some (rt_of (int_num n).1.symm (by rw [(int_num n).2]; rfl))))⟩
    · refine iteN (by simpa using h1) ?_
      refine ⟨_, rfl, _, rfl, n, d, rfl, ?_⟩
      refine ⟨_, rfl, _, _, rfl, rfl, _, rfl, ?_⟩
      obtain ⟨e1, e2⟩ := lowest_eq (n := n) h0
      have g0 : Int.gcd n d ≠ 0 := fun z => h0 (Int.gcd_eq_zero_iff.mp z).2
      by_cases hd : d < 0
      · rw [if_pos hd] at e1 e2
        refine iteC (by simpa using hd) ?_
        refine ⟨_, rfl, _, rfl, _, rfl, _, rfl, _, _, rfl, rfl, by omega, _, rfl, _, rfl, _, _, rfl, rfl, by omega, by show 2 ≤ sizeLine; decide, fun p hp => k p _ (same_upd hp) hp (upd_same.trans (congrArg some (rt_of e1 e2)))⟩
      · rw [if_neg hd] at e1 e2
        refine iteN (by simpa using hd) ?_
        refine ⟨_, rfl, _, rfl, _, _, rfl, rfl, by omega, _, rfl, _, rfl, _, _, rfl, rfl, by omega, by show 2 ≤ sizeLine; decide, fun p hp => k p _ (same_upd hp) hp (upd_same.trans (congrArg some (rt_of e1 e2)))⟩
end
end K4
/-! K3: vectors of ints. -/
namespace K4
open PySem PySem.Spec PyProof.Rows L2
open M4 (Bd)
section
variable {P : Program} {w : World} {K : PySem.W.Frag} {mg : Str → Option Value} {base : Heap}
theorem ints_get {zs : List Int} {i : Nat} {x : V} (h : (zs.map V.int)[i]? = some x) : i < zs.length ∧ x = .int (M4.ent zs i) ∧ zs[i]? = some (M4.ent zs i) := by
  have hi := (List.getElem?_eq_some_iff.mp h).1
  rw [List.length_map] at hi
  rw [List.getElem?_map, List.getElem?_eq_getElem hi] at h
  rw [M4.ent_lt hi]
  exact ⟨hi, (Option.some.inj h).symm, List.getElem?_eq_getElem hi⟩
theorem ints_at {zs : List Int} {i : Nat} (h : i < zs.length) : (zs.map V.int)[i]? = some (.int (M4.ent zs i)) := by
  rw [List.getElem?_map, List.getElem?_eq_getElem h, M4.ent_lt h]; rfl
theorem ints_done {zs : List Int} {n : Nat} (hn : zs.length = n) {ys : List V} (p : Paired (fun i y => y = V.int (M4.ent zs i)) (List.range n) ys) : ys = zs.map V.int := by
  rw [pEqMap p, ← hn]
  refine List.ext_getElem (by simp) fun i h1 h2 => ?_
  have h3 : i < zs.length := by simpa using h2
  simp [M4.ent_lt h3]
theorem take_succ_get {α : Type} {l : List α} {i : Nat} {x : α} (h : l[i]? = some x) : l.take (i + 1) = l.take i ++ [x] := by
  obtain ⟨hi, e⟩ := List.getElem?_eq_some_iff.mp h
  rw [List.take_succ_eq_append_getElem hi, e]
theorem small_line {n : Nat} (h : n ≤ 1000) : n ≤ sizeLine := Nat.le_of_lt (small1000 h)

/-! ### shortened -/
def spShort : L2.Sp := fun vs H Q _ => ∃ (a : Addr) (zs : List Int), vs = [.ref a] ∧ H a = some (.lst (zs.map V.int)) ∧ zs.length ≤ 1000 ∧ New H (.lst ((M4.short zs).map V.int)) Q
theorem sc_shortened : FnScope ["vector", "shared", "entry"] ["vector"] (defScope s_shortened) := ⟨rfl, rfl, rfl, by decide +kernel, rfl, by decide +kernel, by decide +kernel⟩

theorem ok_shortened (D : Glo K mg "shortened" "shortened" s_shortened) (ok_shared_divisor : Cal P w K mg base CX0 33 "shared_divisor" spShared) (seer : Seer P K mg) (T_list : mg "list" = none) : Cal P w K mg base CX0 35 "shortened" spShort := by
  refine D.cal sc_shortened (fun _ _ _ _ _ _ us hl => match us, hl with | [_], _ => rfl) (fun vs H Q E h => ?_) (fun f cdv A outer s H vs Q E hr h => ?_)
  · obtain ⟨a, zs, rfl, _⟩ := h; rfl
  · obtain ⟨a, zs, rfl, hS, hl, k⟩ := h
    refine ⟨_, (pss_cons (ps_set (i := 1) sc_shortened.nd rfl (by first | exact Or.inl rfl | exact Or.inr rfl) pe_int)
      (pss_cons (ps_for PassesOwn.never rfl (pi_listK K (pv 0)) (pg_name (i := 2) sc_shortened.nd rfl (by first | exact Or.inl rfl | exact Or.inr rfl)) (pss_one (ps_set (i := 1) sc_shortened.nd rfl (by first | exact Or.inl rfl | exact Or.inr rfl) (pe_cal ok_shared_divisor (hr.mono (by decide)) (pa_cons (pv 1) (pa_cons (pv 2) pa_nil))))))
      (pss_cons (ps_if (pt_cmpR op_eq (pv 1) pe_int (nomark _)) (pss_one (ps_ret (pe_callTy (call_listK K) (by rfl) T_list b_list (pa_cons (pv 0) pa_nil)))) pss_nil)
      (pss_one (ps_ret (pe_lc (own := [("entry", 2)]) (tt := tYes) (g := (gName 2)) rfl sc_shortened.nd (pi_listK K (pv 0)) (blkOk_by (N := ["vector", "shared", "entry"]) (sc := defScope s_shortened) (by decide +kernel)) (fun _ _ _ _ _ => (pg_name (i := 2) sc_shortened.nd rfl (by first | exact Or.inl rfl | exact Or.inr rfl))) (fun _ _ _ _ _ => pts_nil) (fun _ _ _ _ _ => (pe_op (op_fdivA seer (hr.mono (by decide)) ⟨_, _, rfl, rfl, rfl, rfl, rfl⟩) (pv 2) (pv 1))))))))), ?_⟩
    refine ⟨_, rfl, a, rfl, ⟨_, SqL.of hS⟩, for_list (K := K) (a := a) (xs := zs.map V.int) (fun i σ H' => H' = H ∧ ∃ v, σ = [some (.ref a), some (.int (M4.gfold 0 (zs.take i))), v])
      ⟨rfl, _, rfl⟩ (fun i σ H' _ ⟨e, _⟩ => e ▸ SqL.of hS) ?_ ?_⟩
    · rintro i x σ H' hx ⟨rfl, v, rfl⟩
      obtain ⟨hi, rfl, hz⟩ := ints_get hx
      refine ⟨_, rfl, _, rfl, _, _, rfl, ?_⟩
      refine ⟨rfl, some (.int (M4.ent zs i)), ?_⟩
      rw [take_succ_get hz]
      unfold M4.gfold
      rw [List.foldl_append]
      rfl
    · rintro σ H' ⟨rfl, v, rfl⟩
      rw [List.length_map, List.take_length]
      have eg : M4.gfold 0 zs = M4.vgcd zs := rfl
      rw [eg]
      refine ⟨_, rfl, rfl, _, rfl, ?_⟩
      by_cases h0 : M4.vgcd zs = 0
      · refine iteC (by rw [h0]; decide) ?_
        refine ⟨_, rfl, a, _, rfl, .inl (SqL.of hS), fun l hl => k l _ (same_upd hl) hl ?_⟩
        rw [upd_same]
        have e : M4.short zs = zs := M4.ent_ext (M4.short_len zs) fun i => by
          rw [M4.vgcd_zero_ent h0 i]
          unfold M4.short
          rw [M4.ent_map (by simp), h0]; simp
        rw [e]
      · refine iteN (by simpa using h0) ?_
        refine ⟨_, rfl, a, rfl, ⟨_, SqL.of hS⟩, fun L hL => lcm (walk_list (xs := zs.map V.int)) (fun i _ v => v = V.int (M4.ent (M4.short zs) i)) hL (by rw [List.length_map]; exact small_line hl) (fun _ _ _ _ _ q => q)
          (fun H' s => s.seq (SqL.of hS)) (fun i x H1 H2 hi s o y Q k => ?_) (fun H' ys s hL' p => ?_)⟩
        · obtain ⟨rfl, hx⟩ := y
          obtain ⟨hi, rfl, hz⟩ := ints_get hx
          refine ⟨rfl, _, rfl, _, rfl, _, _, rfl, rfl, by omega, ?_⟩
          refine k _ _ (Same.refl _) ?_
          show V.int _ = V.int _
          unfold M4.short
          rw [M4.ent_map (by simp), Int.fdiv_eq_ediv_of_nonneg _ (by omega)]
        · rw [List.length_map] at p
          have e := ints_done (M4.short_len zs) p
          rw [e] at hL'
          exact k L _ s hL hL'

/-! ### product_sum -/
def psum (zs ws : List Int) : Int := (List.zipWith (fun x y => x * y) zs ws).sum
def spPsum : L2.Sp := fun vs H Q _ => ∃ (a b : Addr) (zs ws : List Int), vs = [.ref a, .ref b] ∧ H a = some (.lst (zs.map V.int)) ∧ H b = some (.lst (ws.map V.int)) ∧ zs.length = ws.length ∧ zs.length ≤ 1000 ∧
  (∃ m n, (∀ i, Bd (M4.ent zs i) m) ∧ (∀ i, Bd (M4.ent ws i) n) ∧ m + n ≤ 134000000) ∧ ∀ H', Same H H' → Q (.int (psum zs ws)) H'
theorem sc_product_sum : FnScope ["left", "right", "one", "two"] ["left", "right"] (defScope s_product_sum) := ⟨rfl, rfl, rfl, by decide +kernel, rfl, by decide +kernel, by decide +kernel⟩

theorem zw_ent {f : Int → Int → Int} {zs ws : List Int} (h : zs.length = ws.length) {i : Nat} (hi : i < zs.length) : M4.ent (List.zipWith f zs ws) i = f (M4.ent zs i) (M4.ent ws i) := by
  rw [M4.ent_lt (by rw [List.length_zipWith]; omega), M4.ent_lt hi, M4.ent_lt (h ▸ hi), List.getElem_zipWith]
theorem ok_product_sum (D : Glo K mg "product_sum" "product_sum" s_product_sum) (T_zip : mg "zip" = none) (T_sum : mg "sum" = none) : Cal P w K mg base CX0 33 "product_sum" spPsum := by
  refine D.cal sc_product_sum (fun _ _ _ _ _ _ us hl => match us, hl with | [_, _], _ => rfl) (fun vs H Q E h => ?_) (fun f cdv A outer s H vs Q E hr h => ?_)
  · obtain ⟨a, b, zs, ws, rfl, _⟩ := h; rfl
  · obtain ⟨a, b, zs, ws, rfl, hS, hS', hl, hn, ⟨m, n, hm, hb, hmn⟩, k⟩ := h
    refine ⟨_, (pss_one (ps_ret (pe_callB (cr_sumK K rfl) (by rfl) T_sum b_sum (pa_cons (pe_lc (own := [("one", 2), ("two", 3)]) (tt := tYes) (g := (gTup K 2 (gCons (gName 2) (gCons (gName 3) gNil)))) rfl sc_product_sum.nd (pi_zipK K T_zip (pa_cons (pv 0) (pa_cons (pv 1) pa_nil))) (blkOk_by (N := ["left", "right", "one", "two"]) (sc := defScope s_product_sum) (by decide +kernel)) (fun _ _ _ _ _ => (pg_tup rfl (pgs_cons (pg_name (i := 2) sc_product_sum.nd rfl (by first | exact Or.inl rfl | exact Or.inr rfl)) (pgs_cons (pg_name (i := 3) sc_product_sum.nd rfl (by first | exact Or.inl rfl | exact Or.inr rfl)) pgs_nil)))) (fun _ _ _ _ _ => pts_nil) (fun _ _ _ _ _ => (pe_op op_mulB (pv 2) (pv 3)))) pa_nil)))), ?_⟩
    refine ⟨_, rfl, _, rfl, a, b, _, _, rfl, SqL.of hS, SqL.of hS', fun L hL => lcm (walk_zip (xs := zs.map V.int) (ys := ws.map V.int) rfl) (fun i _ v => v = V.int (M4.ent (List.zipWith (fun x y => x * y) zs ws) i)) hL (by rw [List.length_map, List.length_map]; exact small_line (by omega)) (fun _ _ _ _ _ q => q)
          (fun H' s => ⟨s.seq (SqL.of hS), s.seq (SqL.of hS')⟩) (fun i x H1 H2 hi s o y Q k => ?_) (fun H' ys s hL' p => ?_)⟩
    · obtain ⟨t, x1, x2, rfl, ht, rfl, hx1, hx2⟩ := y
      obtain ⟨hi1, rfl, hz1⟩ := ints_get hx1
      obtain ⟨hi2, rfl, hz2⟩ := ints_get hx2
      refine ⟨t, _, rfl, .inl (.inl upd_same), rfl, _, _, rfl, _, _, rfl, rfl, rfl, ?_⟩
      refine ⟨_, rfl, _, rfl, _, _, rfl, rfl, ⟨m, n, hm i, hb i, hmn⟩, ?_⟩
      refine k _ _ (same_upd ht) ?_
      show V.int _ = V.int _
      rw [zw_ent hl hi1]
    · rw [List.length_map, List.length_map] at p
      have e := ints_done (zs := List.zipWith (fun x y => x * y) zs ws) (by rw [List.length_zipWith]) p
      rw [e] at hL'
      exact ⟨L, List.zipWith (fun x y => x * y) zs ws, rfl, SqL.of hL', k _ s⟩
end
end K4
/-! K4: cleared, first_place. -/
namespace K4
open PySem PySem.Spec PyProof.Rows L2
open M4 (Bd)
section
variable {P : Program} {w : World} {K : PySem.W.Frag} {mg : Str → Option Value} {base : Heap}
/-! ### cleared -/
def spCleared : L2.Sp := fun vs H Q _ => ∃ (a b : Addr) (zs ws : List Int) (p : Nat), vs = [.ref a, .ref b, .int p] ∧ H a = some (.lst (zs.map V.int)) ∧ H b = some (.lst (ws.map V.int)) ∧ zs.length = ws.length ∧ zs.length ≤ 1000 ∧ p < zs.length ∧
  (∃ m n, (∀ i, Bd (M4.ent zs i) m) ∧ (∀ i, Bd (M4.ent ws i) n) ∧ m + n ≤ 134000000) ∧ ∀ c H', Same H H' → (H c = none ∨ c = a) → H' c = some (.lst ((M4.cleared zs ws p).map V.int)) → Q (.ref c) H'
theorem sc_cleared : FnScope ["vector", "row", "at", "one", "two"] ["vector", "row", "at"] (defScope s_cleared) := ⟨rfl, rfl, rfl, by decide +kernel, rfl, by decide +kernel, by decide +kernel⟩

theorem ok_cleared (D : Glo K mg "cleared" "cleared" s_cleared) (ok_shortened : Cal P w K mg base CX0 35 "shortened" spShort) (T_zip : mg "zip" = none) : Cal P w K mg base CX0 37 "cleared" spCleared := by
  refine D.cal sc_cleared (fun _ _ _ _ _ _ us hl => match us, hl with | [_, _, _], _ => rfl) (fun vs H Q E h => ?_) (fun f cdv A outer s H vs Q E hr h => ?_)
  · obtain ⟨a, b, zs, ws, p, rfl, _⟩ := h; rfl
  · obtain ⟨a, b, zs, ws, p, rfl, hS, hS', hl, hn, hp, ⟨m, n, hm, hb, hmn⟩, k⟩ := h
    refine ⟨_, (pss_cons (ps_if (pt_cmpR op_eq (pe_ix (ix_n K) (pv 0) (pv 2) (fun _ _ => rfl)) pe_int (nomark _)) (pss_one (ps_ret (pv 0))) pss_nil)
      (pss_one (ps_ret (pe_cal ok_shortened (hr.mono (by decide)) (pa_cons (pe_lc (own := [("one", 3), ("two", 4)]) (tt := tYes) (g := (gTup K 2 (gCons (gName 3) (gCons (gName 4) gNil)))) rfl sc_cleared.nd (pi_zipK K T_zip (pa_cons (pv 0) (pa_cons (pv 1) pa_nil))) (blkOk_by (N := ["vector", "row", "at", "one", "two"]) (sc := defScope s_cleared) (by decide +kernel)) (fun _ _ _ _ _ => (pg_tup rfl (pgs_cons (pg_name (i := 3) sc_cleared.nd rfl (by first | exact Or.inl rfl | exact Or.inr rfl)) (pgs_cons (pg_name (i := 4) sc_cleared.nd rfl (by first | exact Or.inl rfl | exact Or.inr rfl)) pgs_nil)))) (fun _ _ _ _ _ => pts_nil) (fun _ _ _ _ _ => (pe_op op_sub (pe_op op_mulB (pe_ix (ix_n K) (pv 1) (pv 2) (fun _ _ => rfl)) (pv 3)) (pe_op op_mulB (pe_ix (ix_n K) (pv 0) (pv 2) (fun _ _ => rfl)) (pv 4))))) pa_nil))))), ?_⟩
    have hp' : p < ws.length := by omega
    refine ⟨_, rfl, _, rfl, a, _, p, _, rfl, rfl, .inl (SqL.of hS), ints_at hp, rfl, _, rfl, ?_⟩
    by_cases h0 : M4.ent zs p = 0
    · refine iteC (by rw [h0]; decide) ⟨_, rfl, k a H (Same.refl _) (.inr rfl) ?_⟩
      unfold M4.cleared
      rw [if_pos h0]; exact hS
    · refine iteN (by simpa using h0) ?_
      refine ⟨_, rfl, _, rfl, a, b, _, _, rfl, SqL.of hS, SqL.of hS', fun L hL => lcm (walk_zip (xs := zs.map V.int) (ys := ws.map V.int) rfl) (fun i _ v => v = V.int (M4.ent (M4.lc (M4.ent ws p) (M4.ent zs p) zs ws) i)) hL (by rw [List.length_map, List.length_map]; exact small_line (by omega)) (fun _ _ _ _ _ q => q)
          (fun H' s => ⟨s.seq (SqL.of hS), s.seq (SqL.of hS')⟩) (fun i x H1 H2 hi s o y Q k => ?_) (fun H' ys s hL' q => ?_)⟩
      · obtain ⟨t, x1, x2, rfl, ht, rfl, hx1, hx2⟩ := y
        obtain ⟨hi1, rfl, hz1⟩ := ints_get hx1
        obtain ⟨hi2, rfl, hz2⟩ := ints_get hx2
        have s1 : Same H (upd H1 t (.tup [V.int (M4.ent zs i), V.int (M4.ent ws i)])) := Same.upd (s.trans (same_cut _ _)) ht
        refine ⟨t, _, rfl, .inl (.inl upd_same), rfl, _, _, rfl, _, _, rfl, rfl, rfl, ?_⟩
        refine ⟨_, rfl, _, rfl, b, _, p, _, rfl, rfl, .inl (SqL.of (s1 _ _ hS')), ints_at hp', _, rfl, _, _, rfl, rfl, ⟨n, m, hb p, hm i, by omega⟩, ?_⟩
        refine ⟨_, rfl, _, rfl, a, _, p, _, rfl, rfl, .inl (SqL.of (s1 _ _ hS)), ints_at hp, _, rfl, _, _, rfl, rfl, ⟨m, n, hm p, hb i, hmn⟩, ?_⟩
        refine ⟨_, _, rfl, rfl, ?_⟩
        refine k _ _ (same_upd ht) ?_
        show V.int _ = V.int _
        rw [M4.ent_lc hl]
      · rw [List.length_map, List.length_map] at q
        have e := ints_done (zs := M4.lc (M4.ent ws p) (M4.ent zs p) zs ws) (by rw [M4.lc_len hl]; omega) q
        rw [e] at hL'
        refine ⟨L, _, rfl, hL', by rw [M4.lc_len hl]; omega, fun c H2 s2 hc hH2 => k c H2 (s.trans s2) (.inl (none_back s hc)) ?_⟩
        unfold M4.cleared
        rw [if_neg h0]; exact hH2

/-! ### first_place -/
def spFirst : L2.Sp := fun vs H Q _ => ∃ (a : Addr) (zs : List Int), vs = [.ref a] ∧ H a = some (.lst (zs.map V.int)) ∧ zs.length ≤ 1000 ∧ M4.anyNZ zs = true ∧ ∀ H', Same H H' → Q (.int (M4.firstPl zs)) H'
theorem sc_first_place : FnScope ["vector", "at", "entry"] ["vector"] (defScope s_first_place) := ⟨rfl, rfl, rfl, by decide +kernel, rfl, by decide +kernel, by decide +kernel⟩

theorem ok_first_place (D : Glo K mg "first_place" "first_place" s_first_place) (T_enumerate : mg "enumerate" = none) (T_min : mg "min" = none) : Cal P w K mg base CX0 33 "first_place" spFirst := by
  refine D.cal sc_first_place (fun _ _ _ _ _ _ us hl => match us, hl with | [_], _ => rfl) (fun vs H Q E h => ?_) (fun f cdv A outer s H vs Q E hr h => ?_)
  · obtain ⟨a, zs, rfl, _⟩ := h; rfl
  · obtain ⟨a, zs, rfl, hS, hn, hz, k⟩ := h
    refine ⟨_, (pss_one (ps_ret (pe_callB (cr_minK' K rfl) (by rfl) T_min b_min (pa_cons (pe_lc (own := [("at", 1), ("entry", 2)]) (g := (gTup K 2 (gCons (gName 1) (gCons (gName 2) gNil)))) rfl sc_first_place.nd (pi_enumK K T_enumerate (pa_cons (pv 0) pa_nil)) (blkOk_by (N := ["vector", "at", "entry"]) (sc := defScope s_first_place) (by decide +kernel)) (fun _ _ _ _ _ => (pg_tup rfl (pgs_cons (pg_name (i := 1) sc_first_place.nd rfl (by first | exact Or.inl rfl | exact Or.inr rfl)) (pgs_cons (pg_name (i := 2) sc_first_place.nd rfl (by first | exact Or.inl rfl | exact Or.inr rfl)) pgs_nil)))) (fun _ _ _ _ _ => (pts_one (pt_cmpR op_ne (pv 2) pe_int (nomark _)))) (fun _ _ _ _ _ => (pv 1))) pa_nil)))), ?_⟩
    refine ⟨_, rfl, a, _, rfl, SqL.of hS, fun L hL => lcf (walk_enum (xs := zs.map V.int)) (fun i _ v => v = V.int i) (fun i => decide (M4.ent zs i ≠ 0)) hL (by rw [List.length_map]; exact small_line (by omega)) (fun _ _ _ _ _ q => q)
          (fun H' s => s.seq (SqL.of hS)) (fun i x H1 H2 hi s o y Q Q' k1 k2 => ?_) (fun H' ys s hL' q => ?_)⟩
    · obtain ⟨t, x1, x2, rfl, ht, rfl, hx1, hx2⟩ := y
      cases hx1
      obtain ⟨hi2, rfl, hz2⟩ := ints_get hx2
      refine ⟨t, _, rfl, .inl (.inl upd_same), rfl, _, _, rfl, _, _, rfl, rfl, rfl, ?_⟩
      refine ⟨_, rfl, rfl, _, rfl, ?_⟩
      by_cases h0 : M4.ent zs i = 0
      · exact iteN (by rw [h0]; decide) (k2 (by rw [h0]; decide) _ (same_upd ht))
      · exact iteC (by simpa using h0) ⟨_, rfl, k1 (by simpa using h0) _ _ (same_upd ht) rfl⟩
    · rw [List.length_map] at q
      obtain ⟨f1, f2, f3⟩ := M4.firstPl_spec hz
      have e := pEqMap q
      have e2 : ys = (((List.range zs.length).filter fun i => decide (M4.ent zs i ≠ 0)).map fun i : Nat => (i : Int)).map V.int := by rw [e, List.map_map]; rfl
      rw [e2] at hL'
      have mem : M4.firstPl zs ∈ (List.range zs.length).filter fun i => decide (M4.ent zs i ≠ 0) := List.mem_filter.mpr ⟨List.mem_range.mpr f1, by simpa using f2⟩
      refine ⟨L, _, rfl, SqL.of hL', by rw [List.length_map]; exact List.length_pos_of_mem mem, fun m hm hle => ?_⟩
      obtain ⟨j, hj, rfl⟩ := List.mem_map.mp hm
      obtain ⟨hj1, hj2⟩ := List.mem_filter.mp hj
      have h1 : (j : Int) ≤ (M4.firstPl zs : Int) := hle _ (List.mem_map.mpr ⟨_, mem, rfl⟩)
      have h2 : ¬ j < M4.firstPl zs := fun z => (of_decide_eq_true hj2) (f3 j z)
      have e3 : j = M4.firstPl zs := by omega
      rw [e3]
      exact k _ s
end
end K4
/-! K5: ratios. -/
namespace K4
open PySem PySem.Spec PyProof.Rows L2
open M4 (Bd)
section
variable {P : Program} {w : World} {K : PySem.W.Frag} {mg : Str → Option Value} {base : Heap}
theorem kit_int_int : PySem.W.kitOne K (.type "int") (.type "int") = some true := kit_ty (by decide +kernel)
theorem kit_int_bool : PySem.W.kitOne K (.type "int") (.type "bool") = some false := kit_ty (by decide +kernel)
theorem kit_int_tuple : PySem.W.kitOne K (.type "int") (.type "tuple") = some false := kit_ty (by decide +kernel)
theorem kit_tuple_tuple : PySem.W.kitOne K (.type "tuple") (.type "tuple") = some true := kit_ty (by decide +kernel)
/-- a number of point 2 and its ratio -/
def isNum : RelH Rat := fun H v q => (∃ z : Int, v = .int z ∧ q = (z : Rat)) ∨ ∃ (a : Addr) (n d : Int), v = .ref a ∧ H a = some (.tup [.int n, .int d]) ∧ d ≠ 0 ∧ q = (n : Rat) / (d : Rat)
theorem mono_num : Mono isNum := fun _ _ _ _ s h => by
  rcases h with h | ⟨a, n, d, e, h, r⟩
  · exact .inl h
  · exact .inr ⟨a, n, d, e, s _ _ h, r⟩
theorem num_of_q {H : Hp} {v : V} {q : Rat} (h : isQ H v q) : isNum H v q := by
  obtain ⟨a, e, h⟩ := h
  refine .inr ⟨a, q.num, q.den, e, h, by have := q.den_nz; omega, ?_⟩
  have e1 := M4.rat_eq q
  have hd := M4.natq (Nat.pos_of_ne_zero q.den_nz)
  have c1 : (((q.den : Nat) : Int) : Rat) = (q.den : Rat) := rfl
  rw [c1]; grind

/-! ### is_whole -/
def spWhole : L2.Sp := fun vs H Q _ => ∃ z : Int, vs = [.int z] ∧ Q (.bl true) H
theorem sc_is_whole : FnScope ["value"] ["value"] (defScope s_is_whole) := ⟨rfl, rfl, rfl, by decide +kernel, rfl, by decide +kernel, by decide +kernel⟩

theorem ok_is_whole (D : Glo K mg "is_whole_ratios" "is_whole" s_is_whole) (T_isinstance : mg "isinstance" = none) (T_int : mg "int" = none) (T_bool : mg "bool" = none) : Cal P w K mg base CX0 33 "is_whole_ratios" spWhole := by
  refine D.cal sc_is_whole (fun _ _ _ _ _ _ us hl => match us, hl with | [_], _ => rfl) (fun vs H Q E h => ?_) (fun f cdv A outer s H vs Q E hr h => ?_)
  · obtain ⟨z, rfl, _⟩ := h; rfl
  · obtain ⟨z, rfl, k⟩ := h
    refine ⟨_, (pss_one (ps_ret (pe_and (pe_callB (call_isiK' K) (by rfl) T_isinstance b_isinstance (pa_cons (pv 0) (pa_cons (pe_bltn (v := .ty "int") (by rfl) T_int b_int rfl) pa_nil))) (pe_one (pe_not (pe_callB (call_isiK' K) (by rfl) T_isinstance b_isinstance (pa_cons (pv 0) (pa_cons (pe_bltn (v := .ty "bool") (by rfl) T_bool b_bool rfl) pa_nil)))))))), ?_⟩
    refine ⟨_, rfl, _, _, _, _, _, rfl, .ty "int", .base (.int z), kit_int_int, _, rfl, iteT ?_⟩
    refine ⟨_, rfl, _, _, _, _, _, rfl, .ty "bool", .base (.int z), kit_int_bool, _, rfl, ?_⟩
    exact k

/-! ### is_number -/
def spNumber : L2.Sp := fun vs H Q _ => ∃ (v : V) (q : Rat), vs = [v] ∧ isNum H v q ∧ Q (.bl true) H
theorem sc_is_number : FnScope ["value"] ["value"] (defScope s_is_number) := ⟨rfl, rfl, rfl, by decide +kernel, rfl, by decide +kernel, by decide +kernel⟩

theorem ok_is_number (D : Glo K mg "is_number" "is_number" s_is_number) (ok_is_whole_ratios : Cal P w K mg base CX0 33 "is_whole_ratios" spWhole) (T_isinstance : mg "isinstance" = none) (T_tuple : mg "tuple" = none) (T_len : mg "len" = none) : Cal P w K mg base CX0 35 "is_number" spNumber := by
  refine D.cal sc_is_number (fun _ _ _ _ _ _ us hl => match us, hl with | [_], _ => rfl) (fun vs H Q E h => ?_) (fun f cdv A outer s H vs Q E hr h => ?_)
  · obtain ⟨v, q, rfl, _⟩ := h; rfl
  · obtain ⟨v, q, rfl, hn, k⟩ := h
    refine ⟨_, (pss_cons (ps_if (pt_val (pe_callB (call_isiK' K) (by rfl) T_isinstance b_isinstance (pa_cons (pv 0) (pa_cons (pe_bltn (v := .ty "tuple") (by rfl) T_tuple b_tuple rfl) pa_nil)))) (pss_one (ps_ret (pe_and (pe_cmpR op_eq (pe_callB (call_lenK K) (by rfl) T_len b_len (pa_cons (pv 0) pa_nil)) pe_int (nomark _)) (pe_and (pe_cal ok_is_whole_ratios (hr.mono (by decide)) (pa_cons (pe_ix (ix_n K) (pv 0) pe_int (fun _ _ => rfl)) pa_nil)) (pe_and (pe_cal ok_is_whole_ratios (hr.mono (by decide)) (pa_cons (pe_ix (ix_n K) (pv 0) pe_int (fun _ _ => rfl)) pa_nil)) (pe_one (pe_cmpR op_ne (pe_ix (ix_n K) (pv 0) pe_int (fun _ _ => rfl)) pe_int (nomark _)))))))) pss_nil)
      (pss_one (ps_ret (pe_cal ok_is_whole_ratios (hr.mono (by decide)) (pa_cons (pv 0) pa_nil))))), ?_⟩
    rcases hn with ⟨z, rfl, _⟩ | ⟨a, n, d, rfl, ha, hd, _⟩
    · refine ⟨_, rfl, _, _, _, _, _, rfl, .ty "tuple", .base (.int z), kit_int_tuple, _, rfl, iteF ?_⟩
      exact ⟨_, rfl, z, rfl, k⟩
    · refine ⟨_, rfl, _, _, _, _, _, rfl, .ty "tuple", .base (.tup ha), kit_tuple_tuple, _, rfl, iteT ?_⟩
      have hT : SqT K H a [.int n, .int d] := .inl (.inl ha)
      refine ⟨_, rfl, a, _, rfl, .inr hT, rfl, _, rfl, iteT ?_⟩
      refine ⟨_, rfl, a, _, 0, _, rfl, rfl, .inr hT, rfl, n, rfl, _, rfl, iteT ?_⟩
      refine ⟨_, rfl, a, _, 1, _, rfl, rfl, .inr hT, rfl, d, rfl, _, rfl, iteT ?_⟩
      refine ⟨_, rfl, a, _, 1, _, rfl, rfl, .inr hT, rfl, rfl, ?_⟩
      have e : (!decide (V.int d = V.int 0)) = true := by simpa using hd
      show Q (V.bl (!decide (V.int d = V.int 0))) H
      rw [e]; exact k

/-! ### ratio, as_ratio -/
theorem sc_ratio : FnScope ["num", "den"] ["num", "den"] (defScope s_ratio) := ⟨rfl, rfl, rfl, by decide +kernel, rfl, by decide +kernel, by decide +kernel⟩

theorem ok_ratio (D : ∃ f, Def K f "ratio" "ratio" s_ratio [.int 1] ∧ mg "ratio" = some (.ref f)) (ok_lowest : Cal P w K mg base CX0 35 "lowest" spLowest) : Cal P w K mg base CX0 37 "ratio" spLowest := by
  obtain ⟨f, D, hm⟩ := D
  refine ⟨f, ?_, D.kp, hm⟩
  refine (D.fnRd (sp := spLowest) (by simp) sc_ratio 2 1 rfl (fun _ _ _ _ _ _ _ us its h1 h2 => match us, its, h1, h2 with | [_, _], [_], _, _ => ⟨_, rfl, rfl⟩) (fun vs H Q E h => ?_) (fun cdv A outer s H vs Q E hr h => ?_)).imp (fun vs H Q E h => by rw [show vs ++ List.drop 1 [V.int 1] = vs by simp]; exact h)
  · obtain ⟨a, b, rfl, _⟩ := h; rfl
  · obtain ⟨n, d, rfl, h0, k⟩ := h
    refine ⟨_, PSs.nox (pss_cons (ps_if (pt_cmpR op_eq (pv 1) pe_int (nomark _)) (pss_one ps_never) pss_nil)
      (pss_one (ps_ret (pe_cal ok_lowest (hr.mono (by decide)) (pa_cons (pv 0) (pa_cons (pv 1) pa_nil)))))), ?_⟩
    refine ⟨_, rfl, rfl, _, rfl, iteN (by simpa using h0) ?_⟩
    exact ⟨_, rfl, _, rfl, n, d, rfl, h0, k⟩
def spAsRatio : L2.Sp := fun vs H Q _ => ∃ (v : V) (q : Rat) (at_ : Int), vs = [v, .int at_] ∧ isNum H v q ∧ New H (rt q) Q
theorem sc_as_ratio : FnScope ["number", "at"] ["number", "at"] (defScope s_as_ratio) := ⟨rfl, rfl, rfl, by decide +kernel, rfl, by decide +kernel, by decide +kernel⟩

theorem ok_as_ratio (D : ∃ f, Def K f "as_ratio" "as_ratio" s_as_ratio [.int 0] ∧ mg "as_ratio" = some (.ref f)) (ok_lowest : Cal P w K mg base CX0 35 "lowest" spLowest) (ok_is_number : Cal P w K mg base CX0 35 "is_number" spNumber)
    (T_isinstance : mg "isinstance" = none) (T_tuple : mg "tuple" = none) : Cal P w K mg base CX0 37 "as_ratio" spAsRatio := by
  obtain ⟨f, D, hm⟩ := D
  refine ⟨f, ?_, D.kp, hm⟩
  refine (D.fnRd (sp := spAsRatio) (by simp) sc_as_ratio 2 1 rfl (fun _ _ _ _ _ _ _ us its h1 h2 => match us, its, h1, h2 with | [_, _], [_], _, _ => ⟨_, rfl, rfl⟩) (fun vs H Q E h => ?_) (fun cdv A outer s H vs Q E hr h => ?_)).imp (fun vs H Q E h => by rw [show vs ++ List.drop 1 [V.int 0] = vs by simp]; exact h)
  · obtain ⟨v, q, t, rfl, _⟩ := h; rfl
  · obtain ⟨v, q, t, rfl, hn, k⟩ := h
    refine ⟨_, PSs.nox (pss_cons (ps_if (pt_not (pt_val (pe_cal ok_is_number (hr.mono (by decide)) (pa_cons (pv 0) pa_nil)))) (pss_one ps_never) pss_nil)
      (pss_cons (ps_if (pt_val (pe_callB (call_isiK' K) (by rfl) T_isinstance b_isinstance (pa_cons (pv 0) (pa_cons (pe_bltn (v := .ty "tuple") (by rfl) T_tuple b_tuple rfl) pa_nil)))) (pss_one (ps_ret (pe_cal ok_lowest (hr.mono (by decide)) (pa_cons (pe_ix (ix_n K) (pv 0) pe_int (fun _ _ => rfl)) (pa_cons (pe_ix (ix_n K) (pv 0) pe_int (fun _ _ => rfl)) pa_nil))))) pss_nil)
      (pss_one (ps_ret (pe_tup (pa_cons (pv 0) (pa_cons pe_int pa_nil))))))), ?_⟩
    refine ⟨_, rfl, v, q, rfl, hn, _, rfl, iteF ?_⟩
    rcases hn with ⟨z, rfl, rfl⟩ | ⟨a, n, d, rfl, ha, hd, rfl⟩
    · refine ⟨_, rfl, _, _, _, _, _, rfl, .ty "tuple", .base (.int z), kit_int_tuple, _, rfl, iteF ?_⟩
      exact ⟨_, rfl, by show 2 ≤ sizeLine; decide, fun p hp => k p _ (same_upd hp) hp (upd_same.trans (congrArg some (rt_of rfl rfl)))⟩
    · refine ⟨_, rfl, _, _, _, _, _, rfl, .ty "tuple", .base (.tup ha), kit_tuple_tuple, _, rfl, iteT ?_⟩
      have hT : SqT K H a [.int n, .int d] := .inl (.inl ha)
      exact ⟨_, rfl, a, _, 0, _, rfl, rfl, .inr hT, rfl, _, rfl, a, _, 1, _, rfl, rfl, .inr hT, rfl, n, d, rfl, hd, k⟩
end
end K4
/-! K6: cells to wholes and back; axes. -/
namespace K4
open PySem PySem.Spec PyProof.Rows L2
open M4 (Bd SB BQ dj)
section
variable {P : Program} {w : World} {K : PySem.W.Frag} {mg : Str → Option Value} {base : Heap}
theorem pRange {α β : Type} {F : α → β → Prop} {l : List α} {n : Nat} {f : Nat → α} {ys : List β} (hn : l.length = n) (h : ∀ i (hi : i < l.length), f i = l[i]) (p : Paired (fun i y => F (f i) y) (List.range n) ys) : Paired F l ys := by
  have e : l = (List.range n).map f := by
    subst hn
    exact List.ext_getElem (by simp) fun i h1 h2 => by simp [h i h1]
  rw [e]; exact pMapL p
theorem mulB_of {i j : Int} {a b : Nat} (h : Bd i a) (k : Bd j b) (l : a + b ≤ 134000000) : CMulB i j := ⟨a, b, h, k, l⟩

/-! ### whole_cells -/
theorem com_prefix (qs : List Rat) (i : Nat) : 0 < M4.comF 1 (qs.take i) ∧ M4.comF 1 (qs.take i) ∣ M4.com qs := by
  have h0 := (M4.comF_spec (qs.take i) 1 (by decide)).1
  refine ⟨h0, ?_⟩
  have e : M4.com qs = M4.comF (M4.comF 1 (qs.take i)) (qs.drop i) := by
    have := List.take_append_drop i qs
    unfold M4.com
    conv => lhs; rw [← this]
    unfold M4.comF
    rw [List.foldl_append]
  rw [e]
  exact (M4.comF_spec (qs.drop i) _ h0).2.1
theorem com_step {qs : List Rat} {i : Nat} {q : Rat} (h : qs[i]? = some q) : M4.comF 1 (qs.take (i + 1)) = M4.comF 1 (qs.take i) * (q.den / Nat.gcd (M4.comF 1 (qs.take i)) q.den) := by
  rw [take_succ_get h]
  unfold M4.comF
  rw [List.foldl_append]; rfl
theorem bd_nat {n e : Nat} (h : n ≤ 2 ^ e) : Bd (n : Int) e := by unfold M4.Bd; rw [Int.natAbs_natCast]; exact h
def spWhole_cells : L2.Sp := fun vs H Q _ => ∃ (a : Addr) (qs : List Rat) (m : Nat), vs = [.ref a] ∧ isT isQ H (.ref a) qs ∧ qs.length ≤ 1000 ∧ BQ qs m ∧ m + m ≤ 134000000 ∧
  ∀ p l H', Same H H' → H l = none → H' p = some (.tup [.ref l, .int (M4.com qs)]) → H' l = some (.lst ((M4.whole qs).map .int)) → Q (.ref p) H'
theorem sc_whole_cells : FnScope ["cells", "common", "cell"] ["cells"] (defScope s_whole_cells) := ⟨rfl, rfl, rfl, by decide +kernel, rfl, by decide +kernel, by decide +kernel⟩

theorem ok_whole_cells (D : Glo K mg "whole_cells" "whole_cells" s_whole_cells) (ok_shared_divisor : Cal P w K mg base CX0 33 "shared_divisor" spShared) (seer : Seer P K mg) : Cal P w K mg base CX0 35 "whole_cells" spWhole_cells := by
  refine D.cal sc_whole_cells (fun _ _ _ _ _ _ us hl => match us, hl with | [_], _ => rfl) (fun vs H Q E h => ?_) (fun f cdv A outer s H vs Q E hr h => ?_)
  · obtain ⟨a, qs, m, rfl, _⟩ := h; rfl
  · obtain ⟨a, qs, m, rfl, ⟨a', cvs, e, hS, hp⟩, hl, hb, hm, k⟩ := h
    cases e
    have hw := hb.whole
    have hlen := pLen hp
    have hT : SqT K H a cvs := .inl (.inl hS)
    refine ⟨_, (pss_cons (ps_set (i := 1) sc_whole_cells.nd rfl (by first | exact Or.inl rfl | exact Or.inr rfl) pe_int)
      (pss_cons (ps_for PassesOwn.never rfl (pi_tupK K (pv 0)) (pg_name (i := 2) sc_whole_cells.nd rfl (by first | exact Or.inl rfl | exact Or.inr rfl)) (pss_one (ps_set (i := 1) sc_whole_cells.nd rfl (by first | exact Or.inl rfl | exact Or.inr rfl) (pe_op op_mulB (pv 1) (pe_op (op_fdivA seer (hr.mono (by decide)) ⟨_, _, rfl, rfl, rfl, rfl, rfl⟩) (pe_ix (ix_n K) (pv 2) pe_int (fun _ _ => rfl)) (pe_cal ok_shared_divisor (hr.mono (by decide)) (pa_cons (pv 1) (pa_cons (pe_ix (ix_n K) (pv 2) pe_int (fun _ _ => rfl)) pa_nil))))))))
      (pss_one (ps_ret (pe_tup (pa_cons (pe_lc (own := [("cell", 2)]) (tt := tYes) (g := (gName 2)) rfl sc_whole_cells.nd (pi_tupK K (pv 0)) (blkOk_by (N := ["cells", "common", "cell"]) (sc := defScope s_whole_cells) (by decide +kernel)) (fun _ _ _ _ _ => (pg_name (i := 2) sc_whole_cells.nd rfl (by first | exact Or.inl rfl | exact Or.inr rfl))) (fun _ _ _ _ _ => pts_nil) (fun _ _ _ _ _ => (pe_op op_mulB (pe_ix (ix_n K) (pv 2) pe_int (fun _ _ => rfl)) (pe_op (op_fdivA seer (hr.mono (by decide)) ⟨_, _, rfl, rfl, rfl, rfl, rfl⟩) (pv 1) (pe_ix (ix_n K) (pv 2) pe_int (fun _ _ => rfl)))))) (pa_cons (pv 1) pa_nil))))))), ?_⟩
    refine ⟨_, rfl, a, rfl, ⟨_, hT⟩, for_tup (K := K) (a := a) (xs := cvs) (fun i σ H' => H' = H ∧ ∃ v, σ = [some (.ref a), some (.int (M4.comF 1 (qs.take i))), v])
      ⟨rfl, _, rfl⟩ (fun i σ H' _ ⟨e, _⟩ => e ▸ hT) ?_ ?_⟩
    · rintro i x σ H' hx ⟨rfl, v, rfl⟩
      obtain ⟨q, hq, t, rfl, ht⟩ := pGet2 hp hx
      have hqt : SqT K H' t [.int q.num, .int q.den] := .inl (.inl ht)
      obtain ⟨c0, cd⟩ := com_prefix qs i
      have cs := com_step hq
      have sb := hb.mem (List.mem_of_getElem? hq)
      generalize M4.comF 1 (qs.take i) = c at *
      have g0 : Nat.gcd c q.den ≠ 0 := fun z => by have := (Nat.gcd_eq_zero_iff.mp z).1; omega
      have eg : Int.gcd (c : Int) (q.den : Int) = Nat.gcd c q.den := rfl
      have ed : ((q.den : Int)).fdiv ((Int.gcd (c : Int) (q.den : Int) : Nat) : Int) = ((q.den / Nat.gcd c q.den : Nat) : Int) := by
        rw [eg, Int.fdiv_eq_ediv_of_nonneg _ (by omega)]; rfl
      refine ⟨_, rfl, _, rfl, t, _, 1, _, rfl, rfl, .inr hqt, rfl, _, rfl, _, rfl, t, _, 1, _, rfl, rfl, .inr hqt, rfl, _, _, rfl, ?_⟩
      refine ⟨_, _, rfl, rfl, by rw [eg]; omega, _, _, rfl, rfl, ?_, ?_⟩
      · show CMulB (c : Int) (((q.den : Int)).fdiv ((Int.gcd (c : Int) (q.den : Int) : Nat) : Int))
        rw [ed]
        exact mulB_of (bd_nat (Nat.le_trans (Nat.le_of_dvd (M4.com_pos qs) cd) hw.1)) (bd_nat (Nat.le_trans (Nat.div_le_self _ _) sb.2)) hm
      · refine ⟨rfl, some (.ref t), ?_⟩
        show [some (V.ref a), some (V.int ((c : Int) * ((q.den : Int)).fdiv ((Int.gcd (c : Int) (q.den : Int) : Nat) : Int))), some (V.ref t)] = _
        rw [ed, cs, Int.natCast_mul]
    · rintro σ H' ⟨rfl, v, rfl⟩
      rw [← hlen, List.take_length]
      have ec : M4.comF 1 qs = M4.com qs := rfl
      rw [ec]
      refine ⟨_, rfl, a, rfl, ⟨_, hT⟩, fun L hL => lcm (walk_tup (xs := cvs)) (fun i _ v => v = V.int (M4.ent (M4.whole qs) i)) hL (small_line (by omega)) (fun _ _ _ _ _ q => q)
          (fun H' s => Same.tup s hT) (fun i x H1 H2 hi s o y Q k => ?_) (fun H2 ys s2 hL' p => ?_)⟩
      · obtain ⟨rfl, hx⟩ := y
        obtain ⟨q, hq, t, rfl, ht⟩ := pGet2 hp hx
        have ht2 := (s.trans (same_cut _ _)) _ _ ht
        have hqt : SqT K H2 t [.int q.num, .int q.den] := .inl (.inl ht2)
        have mq := List.mem_of_getElem? hq
        have sb := hb.mem mq
        have d0 : (q.den : Int) ≠ 0 := by have := q.den_nz; omega
        have ed : ((M4.com qs : Nat) : Int).fdiv (q.den : Int) = ((M4.com qs / q.den : Nat) : Int) := by
          rw [Int.fdiv_eq_ediv_of_nonneg _ (by omega)]; rfl
        refine ⟨rfl, _, rfl, t, _, 0, _, rfl, rfl, .inr hqt, rfl, _, rfl, _, rfl, t, _, 1, _, rfl, rfl, .inr hqt, rfl, ?_⟩
        refine ⟨_, _, rfl, rfl, d0, _, _, rfl, rfl, ?_, ?_⟩
        · show CMulB q.num (((M4.com qs : Nat) : Int).fdiv (q.den : Int))
          rw [ed]
          exact mulB_of sb.num (bd_nat (Nat.le_trans (Nat.div_le_self _ _) hw.1)) hm
        · refine k _ _ (Same.refl _) ?_
          show V.int (q.num * ((M4.com qs : Nat) : Int).fdiv (q.den : Int)) = _
          rw [ed]
          have hlt : i < qs.length := (List.getElem?_eq_some_iff.mp hq).1
          rw [M4.ent_lt (by rw [M4.whole_len]; exact hlt)]
          unfold M4.whole
          rw [List.getElem_map]
          have : qs[i] = q := (List.getElem?_eq_some_iff.mp hq).2
          rw [this]
      · have e := ints_done (zs := M4.whole qs) (by rw [M4.whole_len, hlen]) p
        rw [e] at hL'
        refine ⟨_, rfl, by show 2 ≤ sizeLine; decide, fun p hp => k p L _ (Same.upd s2 hp) hL upd_same ?_⟩
        rw [upd_ne (ne_of_none hL' hp)]; exact hL'

/-! ### row_cells -/
def spRow_cells : L2.Sp := fun vs H Q _ => ∃ (a : Addr) (zs : List Int) (p : Nat), vs = [.int p, .ref a] ∧ H a = some (.lst (zs.map V.int)) ∧ zs.length ≤ 1000 ∧ M4.ent zs p ≠ 0 ∧
  ∀ l H', Same H H' → isL isQ H' (.ref l) (M4.ratRow p zs) → Q (.ref l) H'
theorem sc_row_cells : FnScope ["place", "row", "entry"] ["place", "row"] (defScope s_row_cells) := ⟨rfl, rfl, rfl, by decide +kernel, rfl, by decide +kernel, by decide +kernel⟩

theorem ok_row_cells (D : Glo K mg "row_cells" "row_cells" s_row_cells) (ok_ratio : Cal P w K mg base CX0 37 "ratio" spLowest) : Cal P w K mg base CX0 39 "row_cells" spRow_cells := by
  refine D.cal sc_row_cells (fun _ _ _ _ _ _ us hl => match us, hl with | [_, _], _ => rfl) (fun vs H Q E h => ?_) (fun f cdv A outer s H vs Q E hr h => ?_)
  · obtain ⟨a, zs, p, rfl, _⟩ := h; rfl
  · obtain ⟨a, zs, p, rfl, hS, hl, h0, k⟩ := h
    have hp : p < zs.length := by
      by_cases c : p < zs.length
      · exact c
      · exact absurd (M4.ent_ge (by omega)) h0
    refine ⟨_, (pss_one (ps_ret (pe_lc (own := [("entry", 2)]) (tt := tYes) (g := (gName 2)) rfl sc_row_cells.nd (pi_listK K (pv 1)) (blkOk_by (N := ["place", "row", "entry"]) (sc := defScope s_row_cells) (by decide +kernel)) (fun _ _ _ _ _ => (pg_name (i := 2) sc_row_cells.nd rfl (by first | exact Or.inl rfl | exact Or.inr rfl))) (fun _ _ _ _ _ => pts_nil) (fun _ _ _ _ _ => (pe_cal ok_ratio (hr.mono (by decide)) (pa_cons (pv 2) (pa_cons (pe_ix (ix_n K) (pv 1) (pv 0) (fun _ _ => rfl)) pa_nil))))))), ?_⟩
    refine ⟨_, rfl, a, rfl, ⟨_, SqL.of hS⟩, fun L hL => lcm (walk_list (xs := zs.map V.int)) (fun i H v => isQ H v (M4.qe (M4.ratRow p zs) i)) hL (by rw [List.length_map]; exact small_line hl) (fun _ _ _ _ s q => mono_Q _ _ _ _ s q)
          (fun H' s => s.seq (SqL.of hS)) (fun i x H1 H2 hi s o y Q k => ?_) (fun H2 ys s2 hL' q => ?_)⟩
    · obtain ⟨rfl, hx⟩ := y
      obtain ⟨hi1, rfl, hz1⟩ := ints_get hx
      obtain ⟨oD, hD⟩ := o
      have hS2 := (s.trans (same_cut _ _)) _ _ hS
      refine ⟨rfl, _, rfl, _, rfl, _, rfl, a, _, p, _, rfl, rfl, .inl (SqL.of hS2), ints_at hp, ?_⟩
      refine ⟨_, _, rfl, h0, fun c H3 s3 hc hc3 => k _ _ s3 ⟨c, rfl, ?_⟩⟩
      rw [cut_new hD hc hc3, M4.qe_ratRow]; rfl
    · rw [List.length_map] at q
      refine k L _ s2 ⟨L, ys, rfl, hL', pRange (f := M4.qe (M4.ratRow p zs)) (by rw [M4.ratRow_len]) (fun i hi => M4.qe_lt hi) q⟩
end
end K4
/-! K7: axes. -/
namespace K4
open PySem PySem.Spec PyProof.Rows L2
open M4 (Bd SB BQ dj)
section
variable {P : Program} {w : World} {K : PySem.W.Frag} {mg : Str → Option Value} {base : Heap}
theorem psum_le : ∀ (zs ws : List Int) (a b : Nat), (∀ z ∈ zs, Bd z a) → (∀ z ∈ ws, Bd z b) → (psum zs ws).natAbs ≤ zs.length * 2 ^ (a + b)
  | [], _, _, _, _, _ => by simp [psum]
  | _ :: _, [], _, _, _, _ => by simp [psum]
  | z :: zs, x :: ws, a, b, h, k => by
    have ih := psum_le zs ws a b (fun y hy => h y (List.mem_cons_of_mem _ hy)) (fun y hy => k y (List.mem_cons_of_mem _ hy))
    have q := (h z List.mem_cons_self).mul (k x List.mem_cons_self)
    unfold M4.Bd at q
    have e : psum (z :: zs) (x :: ws) = z * x + psum zs ws := by
      unfold psum
      rw [List.zipWith_cons_cons, List.sum_cons]
    rw [e, List.length_cons, Nat.add_mul, Nat.one_mul]
    have := Int.natAbs_add_le (z * x) (psum zs ws)
    omega
theorem ent_all {zs : List Int} {e : Nat} (h : ∀ i, Bd (M4.ent zs i) e) : ∀ z ∈ zs, Bd z e := fun z hz => by
  obtain ⟨i, hi, q⟩ := List.getElem_of_mem hz
  have := h i
  rw [M4.ent_lt hi, q] at this
  exact this
theorem psum_bd {zs ws : List Int} {a b : Nat} (hl : zs.length ≤ 8) (h : ∀ i, Bd (M4.ent zs i) a) (k : ∀ i, Bd (M4.ent ws i) b) : Bd (psum zs ws) (a + b + 3) := by
  have q := psum_le zs ws a b (ent_all h) (ent_all k)
  have e : zs.length * 2 ^ (a + b) ≤ 8 * 2 ^ (a + b) := Nat.mul_le_mul hl (Nat.le_refl _)
  unfold M4.Bd
  rw [Nat.pow_add 2 (a + b) 3]
  omega
theorem short_bd {zs : List Int} {e : Nat} (h : ∀ i, Bd (M4.ent zs i) e) (i : Nat) : Bd (M4.ent (M4.short zs) i) e := by
  by_cases g : M4.vgcd zs = 0
  · have : M4.ent (M4.short zs) i = 0 := by
      unfold M4.short
      rw [M4.ent_map (by simp), g]; simp
    rw [this]; exact M4.Bd.zero e
  · have q := h i
    rw [← M4.ent_short zs i] at q
    exact q.of_mul (by omega)

/-! ### away_from -/
/-- axes of n places: the j-th has r + dj r j bits -/
def AxB (n r : Nat) (axs : List (List Int)) : Prop := ∀ j ax, axs[j]? = some ax → ax.length = n ∧ ∀ i, Bd (M4.ent ax i) (r + dj r j)
def spAway : L2.Sp := fun vs H Q _ => ∃ (a b : Addr) (zs : List Int) (axs : List (List Int)) (n r : Nat), vs = [.ref a, .ref b] ∧ H a = some (.lst (zs.map V.int)) ∧ isL (isL isI) H (.ref b) axs ∧ zs.length = n ∧ n ≤ 7 ∧ axs.length ≤ 7 ∧
  (∀ i, Bd (M4.ent zs i) r) ∧ AxB n r axs ∧ 3 * (r + dj r axs.length) + 10 ≤ 134000000 ∧
  ∀ c ws H', Same H H' → H' c = some (.lst (ws.map V.int)) → ws.length = n → (∀ i, Bd (M4.ent ws i) (r + dj r axs.length)) → Q (.ref c) H'
theorem sc_away_from : FnScope ["vector", "axes", "rest", "axis", "along", "size", "one", "two"] ["vector", "axes"] (defScope s_away_from) := ⟨rfl, rfl, rfl, by decide +kernel, rfl, by decide +kernel, by decide +kernel⟩

theorem ok_away_from (D : Glo K mg "away_from" "away_from" s_away_from) (ok_product_sum : Cal P w K mg base CX0 33 "product_sum" spPsum) (ok_shortened : Cal P w K mg base CX0 35 "shortened" spShort) (T_zip : mg "zip" = none) (T_list : mg "list" = none) :
    Cal P w K mg base CX0 37 "away_from" spAway := by
  refine D.cal sc_away_from (fun _ _ _ _ _ _ us hl => match us, hl with | [_, _], _ => rfl) (fun vs H Q E h => ?_) (fun f cdv A outer s H vs Q E hr h => ?_)
  · obtain ⟨a, b, zs, axs, n, r, rfl, _⟩ := h; rfl
  · obtain ⟨a, b, zs, axs, n, r, rfl, hS, ⟨b', avs, e, hA, hp⟩, hl, hn, han, hb, hab, hm, k⟩ := h
    cases e
    have hlen := pLen hp
    refine ⟨_, (pss_cons (ps_set (i := 2) sc_away_from.nd rfl (by first | exact Or.inl rfl | exact Or.inr rfl) (pe_callTy (call_listK K) (by rfl) T_list b_list (pa_cons (pv 0) pa_nil)))
      (pss_cons (ps_for PassesOwn.never rfl (pi_listK K (pv 1)) (pg_name (i := 3) sc_away_from.nd rfl (by first | exact Or.inl rfl | exact Or.inr rfl)) (pss_cons (ps_set (i := 4) sc_away_from.nd rfl (by first | exact Or.inl rfl | exact Or.inr rfl) (pe_cal ok_product_sum (hr.mono (by decide)) (pa_cons (pv 2) (pa_cons (pv 3) pa_nil))))
      (pss_one (ps_if (pt_cmpR op_ne (pv 4) pe_int (nomark _)) (pss_cons (ps_set (i := 5) sc_away_from.nd rfl (by first | exact Or.inl rfl | exact Or.inr rfl) (pe_cal ok_product_sum (hr.mono (by decide)) (pa_cons (pv 3) (pa_cons (pv 3) pa_nil))))
      (pss_one (ps_set (i := 2) sc_away_from.nd rfl (by first | exact Or.inl rfl | exact Or.inr rfl) (pe_cal ok_shortened (hr.mono (by decide)) (pa_cons (pe_lc (own := [("one", 6), ("two", 7)]) (tt := tYes) (g := (gTup K 2 (gCons (gName 6) (gCons (gName 7) gNil)))) rfl sc_away_from.nd (pi_zipK K T_zip (pa_cons (pv 2) (pa_cons (pv 3) pa_nil))) (blkOk_by (N := ["vector", "axes", "rest", "axis", "along", "size", "one", "two"]) (sc := defScope s_away_from) (by decide +kernel)) (fun _ _ _ _ _ => (pg_tup rfl (pgs_cons (pg_name (i := 6) sc_away_from.nd rfl (by first | exact Or.inl rfl | exact Or.inr rfl)) (pgs_cons (pg_name (i := 7) sc_away_from.nd rfl (by first | exact Or.inl rfl | exact Or.inr rfl)) pgs_nil)))) (fun _ _ _ _ _ => pts_nil) (fun _ _ _ _ _ => (pe_op op_sub (pe_op op_mulB (pv 5) (pv 6)) (pe_op op_mulB (pv 4) (pv 7))))) pa_nil))))) pss_nil))))
      (pss_one (ps_ret (pv 2))))), ?_⟩
    refine ⟨_, rfl, a, _, rfl, .inl (SqL.of hS), fun L hL => ?_⟩
    refine ⟨_, rfl, b, rfl, ⟨_, SqL.of (same_upd hL _ _ hA)⟩, for_list (K := K) (a := b) (xs := avs) (fun i σ H' => Same H H' ∧ ∃ c ws o1 o2 o3, σ = [some (.ref a), some (.ref b), some (.ref c), o1, o2, o3, none, none] ∧ H' c = some (.lst (ws.map V.int)) ∧ ws.length = n ∧ ∀ i', Bd (M4.ent ws i') (r + dj r i))
      ⟨same_upd hL, L, zs, none, none, none, rfl, upd_same, hl, hb⟩ (fun i σ H' _ ⟨s, _⟩ => SqL.of (s _ _ hA)) ?_ ?_⟩
    · rintro i x σ H' hx ⟨s, c, ws, o1, o2, o3, rfl, hc, hwl, hwb⟩
      obtain ⟨ax, hax, rx⟩ := pGet2 hp hx
      obtain ⟨c2, rfl, hc2⟩ := isLI.mp (mono_L mono_I _ _ _ _ s rx)
      obtain ⟨axl, axb⟩ := hab i ax hax
      have hi : i < axs.length := (List.getElem?_eq_some_iff.mp hax).1
      have dm := M4.dj_mono r (Nat.le_of_lt hi)
      have dm1 := M4.dj_mono r (show i + 1 ≤ axs.length from hi)
      have ds : dj r (i + 1) = dj r i + 2 * (r + dj r i) + 4 := rfl
      -- the first product
      refine ⟨_, rfl, _, rfl, c, c2, ws, ax, rfl, hc, hc2, by omega, by omega, ⟨_, _, hwb, axb, by omega⟩, fun H2 s2 => ?_⟩
      have sH2 := s.trans s2
      have pb := psum_bd (zs := ws) (ws := ax) (by omega) hwb axb
      refine ⟨_, rfl, rfl, _, rfl, ?_⟩
      by_cases h0 : psum ws ax = 0
      · refine iteN (by rw [h0]; decide) ⟨sH2, c, ws, _, _, o3, rfl, s2 _ _ hc, hwl, fun i' => (hwb i').mono (by omega)⟩
      · refine iteC (by simpa using h0) ?_
        -- the second
        refine ⟨_, rfl, _, rfl, c2, c2, ax, ax, rfl, s2 _ _ hc2, s2 _ _ hc2, rfl, by omega, ⟨_, _, axb, axb, by omega⟩, fun H3 s3 => ?_⟩
        have sH3 := sH2.trans s3
        have s23 := s2.trans s3
        have sb := psum_bd (zs := ax) (ws := ax) (by omega) axb axb
        refine ⟨_, rfl, _, rfl, c, c2, _, _, rfl, SqL.of (s23 _ _ hc), SqL.of (s23 _ _ hc2), fun L2 hL2 => lcm (walk_zip (xs := ws.map V.int) (ys := ax.map V.int) rfl) (fun i _ v => v = V.int (M4.ent (M4.lc (psum ax ax) (psum ws ax) ws ax) i)) hL2 (by rw [List.length_map, List.length_map]; exact small_line (by omega)) (fun _ _ _ _ _ q => q)
          (fun H' s => ⟨s.seq (SqL.of (s23 _ _ hc)), s.seq (SqL.of (s23 _ _ hc2))⟩) (fun j x H5 H6 hj s5 o y Q k => ?_) (fun H5 ys s5 hL' q => ?_)⟩
        · obtain ⟨t, x1, x2, rfl, ht, rfl, hx1, hx2⟩ := y
          obtain ⟨hi1, rfl, hz1⟩ := ints_get hx1
          obtain ⟨hi2, rfl, hz2⟩ := ints_get hx2
          refine ⟨t, _, rfl, .inl (.inl upd_same), rfl, _, _, rfl, _, _, rfl, rfl, rfl, ?_⟩
          refine ⟨_, rfl, _, rfl, _, _, rfl, rfl, mulB_of sb (hwb j) (by omega), ?_⟩
          refine ⟨_, rfl, _, rfl, _, _, rfl, rfl, mulB_of pb (axb j) (by omega), ?_⟩
          refine ⟨_, _, rfl, rfl, ?_⟩
          refine k _ _ (same_upd ht) ?_
          show V.int _ = V.int _
          rw [M4.ent_lc (by omega)]
        · rw [List.length_map, List.length_map] at q
          have e := ints_done (zs := M4.lc (psum ax ax) (psum ws ax) ws ax) (by rw [M4.lc_len (by omega)]; omega) q
          rw [e] at hL'
          refine ⟨L2, _, rfl, hL', by rw [M4.lc_len (by omega)]; omega, fun c3 H7 s7 hc3 hH7 => ?_⟩
          refine ⟨(sH3.trans s5).trans s7, c3, M4.short (M4.lc (psum ax ax) (psum ws ax) ws ax), _, _, _, rfl, hH7, by rw [M4.short_len, M4.lc_len (by omega)]; exact hwl, fun i' => ?_⟩
          refine short_bd (fun i'' => ?_) i'
          rw [M4.ent_lc (by omega)]
          have b1 : Bd (psum ax ax * M4.ent ws i'') ((r + dj r i + (r + dj r i) + 3) + (r + dj r i)) := sb.mul (hwb i'')
          have b2 : Bd (psum ws ax * M4.ent ax i'') ((r + dj r i + (r + dj r i) + 3) + (r + dj r i)) := pb.mul (axb i'')
          exact (b1.sub2 b2).mono (by omega)
    · rintro σ H' ⟨s, c, ws, o1, o2, o3, rfl, hc, hwl, hwb⟩
      rw [← hlen] at hwb
      exact ⟨_, rfl, k c ws H' s hc hwl hwb⟩

/-! ### new_axes -/
def spNew_axes : L2.Sp := fun vs H Q _ => ∃ (a b : Addr) (vss : List (List Int)) (n r : Nat), vs = [.ref a, .ref b] ∧ H a = some (.lst []) ∧ isL (isL isI) H (.ref b) vss ∧ n ≤ 7 ∧ vss.length ≤ 6 ∧
  (∀ v ∈ vss, v.length = n ∧ ∀ i, Bd (M4.ent v i) r) ∧ 3 * (r + dj r 5) + 10 ≤ 134000000 ∧ ∀ c H', Same H H' → Q (.ref c) H'
theorem sc_new_axes : FnScope ["axes", "vectors", "found", "vector", "rest"] ["axes", "vectors"] (defScope s_new_axes) := ⟨rfl, rfl, rfl, by decide +kernel, rfl, by decide +kernel, by decide +kernel⟩

theorem ok_new_axes (D : Glo K mg "new_axes" "new_axes" s_new_axes) (ok_away_from : Cal P w K mg base CX0 37 "away_from" spAway) (T_any : mg "any" = none) : Cal P w K mg base CX0 39 "new_axes" spNew_axes := by
  refine D.cal sc_new_axes (fun _ _ _ _ _ _ us hl => match us, hl with | [_, _], _ => rfl) (fun vs H Q E h => ?_) (fun f cdv A outer s H vs Q E hr h => ?_)
  · obtain ⟨a, b, vss, n, r, rfl, _⟩ := h; rfl
  · obtain ⟨a, b, vss, n, r, rfl, hS, ⟨b', vvs, e, hA, hp⟩, hn, hl, hv, hm, k⟩ := h
    cases e
    have hlen := pLen hp
    refine ⟨_, (pss_cons (ps_set (i := 2) sc_new_axes.nd rfl (by first | exact Or.inl rfl | exact Or.inr rfl) (pe_lst pa_nil))
      (pss_cons (ps_for PassesOwn.never rfl (pi_listK K (pv 1)) (pg_name (i := 3) sc_new_axes.nd rfl (by first | exact Or.inl rfl | exact Or.inr rfl)) (pss_cons (ps_set (i := 4) sc_new_axes.nd rfl (by first | exact Or.inl rfl | exact Or.inr rfl) (pe_cal ok_away_from (hr.mono (by decide)) (pa_cons (pv 3) (pa_cons (pe_lst (pa_starK K (pv 0) (pa_starK K (pv 2) pa_nil))) pa_nil))))
      (pss_one (ps_if (pt_val (pe_callB (cr_anyIK K rfl) (by rfl) T_any b_any (pa_cons (pv 4) pa_nil))) (pss_one (ps_set (i := 2) sc_new_axes.nd rfl (by first | exact Or.inl rfl | exact Or.inr rfl) (pe_lst (pa_starK K (pv 2) (pa_cons (pv 4) pa_nil))))) pss_nil))))
      (pss_one (ps_ret (pv 2))))), ?_⟩
    refine ⟨Nat.zero_le _, fun L hL => ?_⟩
    refine ⟨_, rfl, b, rfl, ⟨_, SqL.of (same_upd hL _ _ hA)⟩, for_list (K := K) (a := b) (xs := vvs) (fun i σ H' => Same H H' ∧ ∃ c fvs axs o1 o2, σ = [some (.ref a), some (.ref b), some (.ref c), o1, o2] ∧ H' c = some (.lst fvs) ∧ Paired (fun ax x => isL isI H' x ax) axs fvs ∧ axs.length ≤ i ∧ AxB n r axs)
      ⟨same_upd hL, L, [], [], none, none, rfl, upd_same, .nil, Nat.le_refl _, fun _ _ z => by simp at z⟩ (fun i σ H' _ ⟨s, _⟩ => SqL.of (s _ _ hA)) ?_ ?_⟩
    · rintro i x σ H' hx ⟨s, c, fvs, axs, o1, o2, rfl, hc, hf, hfl, hab⟩
      obtain ⟨v, hv1, rx⟩ := pGet2 hp hx
      obtain ⟨c2, rfl, hc2⟩ := isLI.mp (mono_L mono_I _ _ _ _ s rx)
      obtain ⟨vl, vb⟩ := hv v (List.mem_of_getElem? hv1)
      have hi : i < vss.length := (List.getElem?_eq_some_iff.mp hv1).1
      have hfl2 := pLen hf
      have dm := M4.dj_mono r (show axs.length ≤ 5 by omega)
      refine ⟨_, rfl, _, rfl, a, [], rfl, .inr (SqL.of (s _ _ hS)), _, rfl, c, fvs, rfl, .inr (SqL.of hc), ?_⟩
      have e0 : ([] : List V) ++ (fvs ++ []) = fvs := by simp
      refine ⟨by show (([] : List V) ++ (fvs ++ [])).length ≤ sizeLine; rw [e0]; exact small_line (by omega), fun M hM => ?_⟩
      have sM : Same H' (upd H' M (.lst (([] : List V) ++ (fvs ++ [])))) := same_upd hM
      refine ⟨c2, M, v, axs, n, r, rfl, sM _ _ hc2, ⟨M, fvs, rfl, upd_same.trans (congrArg (fun l => some (HO.lst l)) e0), pImp hf (fun _ _ q => mono_L mono_I _ _ _ _ sM q)⟩, vl, by omega, by omega, vb, hab, by omega, fun c3 ws H3 s3 hc3 hwl hwb => ?_⟩
      have s03 := sM.trans s3
      have hf3 : Paired (fun ax x => isL isI H3 x ax) axs fvs := pImp hf (fun _ _ q => mono_L mono_I _ _ _ _ s03 q)
      refine ⟨_, rfl, c3, ws, rfl, SqL.of hc3, _, rfl, ?_⟩
      by_cases h0 : (ws.any fun z => decide (z ≠ 0)) = true
      · refine iteC h0 ?_
        refine ⟨_, rfl, c, fvs, rfl, .inr (SqL.of (s03 _ _ hc)), _, rfl, ?_⟩
        refine ⟨by rw [List.length_append]; exact small_line (by show fvs.length + 1 ≤ 1000; omega), fun N hN => ?_⟩
        have sN : Same H3 (upd H3 N (.lst (fvs ++ [V.ref c3]))) := same_upd hN
        refine ⟨(s.trans s03).trans sN, N, fvs ++ [V.ref c3], axs ++ [ws], _, _, rfl, upd_same, ?_, by rw [List.length_append]; show axs.length + 1 ≤ i + 1; omega, fun j ax hj => ?_⟩
        · exact pApp (pImp hf3 (fun _ _ q => mono_L mono_I _ _ _ _ sN q)) (.cons (isLI.mpr ⟨c3, rfl, sN _ _ hc3⟩) .nil)
        · by_cases hlt : j < axs.length
          · rw [List.getElem?_append_left hlt] at hj
            exact hab j ax hj
          · rw [List.getElem?_append_right (by omega)] at hj
            have e0 : j - axs.length = 0 := by
              by_cases z : j - axs.length = 0
              · exact z
              · rw [List.getElem?_eq_none (by simp; omega)] at hj; cases hj
            rw [e0] at hj
            have ew : ws = ax := Option.some.inj hj
            have ej : j = axs.length := by omega
            rw [← ew, ej]
            exact ⟨hwl, hwb⟩
      · refine iteN (by simpa using h0) ⟨s.trans s03, c, fvs, axs, _, _, rfl, s03 _ _ hc, hf3, by omega, hab⟩
    · rintro σ H' ⟨s, c, fvs, axs, o1, o2, rfl, hc, hf, hfl, hab⟩
      exact ⟨_, rfl, k c H' s⟩
end
end K4
/-! K8: sorted by a lambda that reads the first place of a pair. -/
namespace K4
open PySem PySem.Spec PyProof.Rows L2 LamX
open M4 (Bd)
section
variable {prog : Program} {w : World}
/-- the lambda's object -/
abbrev lamObj (q : Str) (params : Arguments) (body : Expr) (scope : Scope) (cl : List (Str × Addr)) (pm : Value) (c' : Addr) (ctv : Value) : Obj := PySem.W.kla_obj "<lambda>" q params body scope cl pm c' ctv
theorem lam_turn {A : Around} {s : Shared} {f c' t : Addr} {q x : Str} {params : Arguments} {scope : Scope} {cl : List (Str × Addr)} {pm ctv : Value} {p1 p2 p3 : Pos} {j : Nat} {its : Array Value} {z : Int} {u : Tok}
    (hroom : A.depth < recursionLimit) (lim : s.heap.NoLimit) (ho : s.heap.get? f = some (lamObj q params (.Subscript (.Name x p1) (.Constant (.int 0) j p2) p3) scope cl pm c' ctv)) (hc : s.heap.CodeRec (.ref c') q)
    (hk : scope.kind = .function) (hco : scope.isCoroutine = false) (hg : scope.isGenerator = false) (hn : scope.names = [(x, .local)])
    (hb : bindArgs (PySem.W.kla_fn "<lambda>" q params (.Subscript (.Name x p1) (.Constant (.int 0) j p2) p3) scope cl pm (.ref c') ctv) ⟨[.ref t], []⟩ = pure [(x, .ref t)])
    (ht : IsTup s.heap t its) (h0 : its[0]? = some (.int z u)) (hd : (x == ("__debug__" : Str)) = false := by decide) :
    wpAny (model prog w) A (call (.ref f) [.ref t]) (PySem.W.KeyPure (.int z) s) (fun _ _ => False) s := by
  have hlx : scope.names.lookup x = some .local := by rw [hn]; simp [List.lookup]
  have rc : codeAny (model prog w) A (.call (.ref f) ⟨[.ref t], []⟩) (fun r s' => ∃ v, r = .ok (.ret v) ∧ PySem.W.KeyPure (.int z) s v s') s := by
    refine PySem.W.kla_callFunE hroom ho rfl hco hg rfl hc ?_
    rw [hb]
    refine wpAny_pure (wpAny_newFunctionEnv (fun y hy => ?_) (fun y hy => ?_) (fun h₁ hns hsb => ⟨lim.fresh _ hsb, ?_⟩) hk)
    · rw [hn] at hy
      rw [List.mem_singleton.mp hy]; intro z; cases z
    · rw [List.mem_singleton.mp hy]; exact hlx
    · have kp : ∀ b o, s.heap.get? b = some o → h₁.get? b = some o := fun b o e => hsb.extBut b o (Nat.ne_of_lt (Heap.lt_size e)) (Heap.get?_push_of_some _ e)
      refine PySem.W.kla_codeExpr (Subscript_ ?_)
      refine wpAny_Name (wpAny_loadName_local hk hlx hns (v := .ref t) (by simp [List.lookup]) ?_) hd
      refine wpAny_Constant_int ?_
      refine subscriptTail_builtinR (x := .int z u) (ht.keeps kp).typeIs slot_tuple_getitem.lookup (getItem_tuple (k := 0) (j := 0) (ht.keeps kp) (by decide) (by decide) ?_ h0 ⟨rfl, ?_⟩)
      · have h1 : 0 < its.size := by
          obtain ⟨a, _⟩ := Array.getElem?_eq_some_iff.mp h0
          exact a
        exact PyProof.Rows.seqIndex?_zero h1
      · exact ⟨_, rfl, h₁, _, rfl, kp, .int _ _⟩
  refine wpAny_call (codeAny_mono rc fun r s' hq => ?_)
  obtain ⟨v, rfl, hv⟩ := hq
  exact hv
end

theorem b_sorted : bootBuiltins "sorted" = some (.builtin "sorted") := by decide +kernel
theorem paired_each {α β : Type} {R : α → β → Prop} : ∀ {l : List α} {m : List β}, Paired R l m → PySem.W.EachIs R l m
  | _, _, .nil => .nil
  | _, _, .cons r t => .cons r (paired_each t)
theorem each_vals {R : Value → Int × V → Prop} (hR : ∀ u d, R u d → RelV d.2 u) : ∀ {l : List Value} {m : List (Int × V)}, PySem.W.EachIs R l m → Vals (m.map (·.2)) l
  | _, _, .nil => .nil
  | _, _, .cons r t => .cons (hR _ _ r) (each_vals hR t)
theorem seqT_ext {K : PySem.W.Frag} {H H' : Hp} {a : Addr} {xs : List V} (e : ExtN H H') (h : SqT K H a xs) : SqT K H' a xs := by
  rcases h with (h | ⟨o, h⟩) | h
  · exact .inl (.inl (e _ _ h (fun ps z => by cases z)))
  · exact .inl (.inr ⟨o, e _ _ h (fun ps z => by cases z)⟩)
  · exact .inr h
theorem seqL_ext {K : PySem.W.Frag} {H H' : Hp} {a : Addr} {xs : List V} (e : ExtN H H') (h : SqL K H a xs) : SqL K H' a xs := by
  rcases h with (h | ⟨o, h⟩) | h
  · exact .inl (.inl (e _ _ h (fun ps z => by cases z)))
  · exact .inl (.inr ⟨o, e _ _ h (fun ps z => by cases z)⟩)
  · exact .inr h
/-- the pair d stands at the item x -/
def PairAt (K : PySem.W.Frag) (H : Hp) (d : Int × V) (x : V) : Prop := x = d.2 ∧ ∃ (p : Addr) (y : V), d.2 = .ref p ∧ SqT K H p [.int d.1, y]
def byPlace (ds : List (Int × V)) : List (Int × V) := ds.mergeSort fun a b => decide (a.1 ≤ b.1)
def tSort (K : PySem.W.Frag) (T : List (Addr × Str)) (t : TA) : TE := fun σ H Q => t σ H fun vs H1 => ∃ (a : Addr) (xs : List V) (ds : List (Int × V)), vs = [.ref a] ∧ SqL K H1 a xs ∧ Paired (PairAt K H1) ds xs ∧ Tabs T H1 ∧
  ∀ H2 p, ExtN H1 H2 → Tabs T H2 → H2 p = none → Q (.ref p) (upd H2 p (.lst ((byPlace ds).map (·.2))))
section
variable {X : Cx}
theorem pe_sorted {T : List (Addr × Str)} {c P : Addr} {k : Nat} {e : Expr} {t : TA} {x : Str} {params : Arguments} {scope : Scope} {p pos p1 p2 p3 lpos kpos : Pos} {j : Nat} (hr : Room k X.A) (TB : TabB X.base X.mg c P) (hcode : X.env.code = .ref c) (hmT : (P, X.env.qual ++ "<lambda>") ∈ T)
    (hu : ∀ p ∈ T, p.1 = P → p.2 = X.env.qual ++ "<lambda>") (hm : X.mg "sorted" = none) (ha : PA X [e] t) (hg : Gl X "sorted" := by rfl)
    (hk : scope.kind = .function := by rfl) (hco : scope.isCoroutine = false := by rfl) (hgen : scope.isGenerator = false := by rfl) (hn : scope.names = [(x, .local)] := by rfl) (hdef : defaultsOf params X.env = ([], []) := by rfl)
    (hb : ∀ (q : Str) (cl : List (Str × Addr)) (pm cv ctv v : Value), bindArgs (PySem.W.kla_fn "<lambda>" q params (.Subscript (.Name x p1) (.Constant (.int 0) j p2) p3) scope cl pm cv ctv) ⟨[v], []⟩ = pure [(x, v)] := by intro _ _ _ _ _ _; rfl)
    (hd : (x == ("__debug__" : Str)) = false := by decide) (he : backTo pos (starEach [e] X.env) = (false, eval e X.env) :: backTo pos (starEach [] X.env) := by rfl) (hpl : (backTo pos (starEach [e] X.env)).any (·.1) = false := by rfl)
    :
    PE X (.Call (.Name "sorted" p) [e] [⟨some "key", .Lambda params (.Subscript (.Name x p1) (.Constant (.int 0) j p2) p3) scope lpos, kpos⟩] pos) (tSort X.K T t) := by
  refine ⟨fun pins s σ H Q I h => ?_⟩
  refine wpAny_Call_Name_kw (ld_blt I hg hm b_sorted ?_ (by decide) (by decide))
  refine PyProof.Rows.callWith_kw (thn (ha.run pos pins s σ H _ I h) fun us s1 ⟨vs, H1, I1, r1, q1⟩ => ?_) he hpl rfl rfl
  obtain ⟨a, xs, ds, rfl, hs, hp, hT, q⟩ := q1
  obtain rfl := Vals.ref1 r1
  have hfree : ∀ y ∈ scope.names, y.2 = .free → ∃ c, X.env.cells.lookup y.1 = some c := fun y hy z => by
    rw [hn] at hy
    rw [List.mem_singleton.mp hy] at z
    cases z
  show wpAny _ _ (evalAll [(do let v ← eval (.Lambda params (.Subscript (.Name x p1) (.Constant (.int 0) j p2) p3) scope lpos) X.env; standAt pos; pure v)]) _ _ s1
  refine wpAny_evalAll_cons (wpAny_bind (lam_make2 I1 TB hcode hmT hu hT hdef hfree fun f c' pm ctv H2 s2 I2 eN T2 hf hfn hfr hco' => wpAny_bind (wpAny_standAt (wpAny_pure (wpAny_evalAll_nil ?_)))))
  have hs2 : SqL X.K H2 a xs := seqL_ext eN hs
  obtain ⟨its, rv, pl, hz⟩ := I2.list hs2
  have hlen := rv.length
  have hdl := pLen hp
  obtain ⟨⟨oc, ov, ot, e1, e2, e3⟩, _, _⟩ := I2.hok c' _ hco'
  have cr : s2.heap.CodeRec (.ref c') (X.env.qual ++ "<lambda>") := ⟨c', oc, ov, ot, rfl, e1, e2, e3⟩
  have each : PySem.W.EachIs (fun (u : Value) (d : Int × V) => RelV d.2 u ∧ ∃ (p : Addr) (tv : Array Value) (tk : Tok), u = .ref p ∧ IsTup s2.heap p tv ∧ tv[0]? = some (.int d.1 tk)) its ds := by
    refine paired_each (pOf (by omega) fun i u d hu hd' => ?_)
    obtain ⟨x', hx, rfl, p', y, ep, hq⟩ := pGet hp hd'
    obtain ⟨u', hu', ru⟩ := rv.get hx
    rw [hu] at hu'
    cases hu'
    refine ⟨ru, p', ?_⟩
    rw [ep] at ru
    obtain ⟨tv, rt', pt, _⟩ := I2.tuple (seqT_ext eN hq)
    have r0 : u = .ref p' := ru
    cases rt' with
    | cons r0' _ =>
      obtain ⟨tk, rfl⟩ := r0'
      exact ⟨_, tk, r0, pt, rfl⟩
  have hdp := hr.dp
  have hun := hr.un
  refine PySem.W.sorted_key_data (b := false) (fun d : Int × V => .int d.1) pl.isList each (PySem.W.AllAlike.of fun _ _ => by simp [PySem.W.alike]) (PySem.W.Sortable.others fun b => ⟨by simp, by simp⟩) (by omega) (fun b _ => ?_) (PyProof.Rows.ksk_s1 _ _) (fun _ => PyProof.Rows.ksk_l1 _ _) (fun _ => PyProof.Rows.ksk_t1 _ _)
    (fun v d ⟨_, p', tv, tk, ev, pt, h0⟩ _ h tk' kp => ?_) fun out c2 h' tk kp fr hD hol eo => ?_
  · show X.A.units + 2 + 0 < cLine
    omega
  · subst ev
    refine lam_turn (s := { s2 with heap := h, toks := tk' }) (q := X.env.qual ++ "<lambda>") (by show X.A.depth < recursionLimit; omega) (I2.nolimit.keeps kp) (kp _ _ hf) (cr.keeps kp) hk hco hgen hn (hb _ _ _ _ _ _) (pt.keeps kp) h0 hd
  · rw [PySem.W.dataLe_int] at eo
    have vals := each_vals (fun u d z => z.1) eo
    have hl2 : ((byPlace ds).map (·.2)).length ≤ sizeLine := by
      unfold byPlace
      rw [List.length_map, List.length_mergeSort]
      omega
    exact ⟨.ref _, upd H2 (s2.heap.objs.size + 1) (.lst ((byPlace ds).map (·.2))), I2.laid (t' := tk) kp (Nat.le_succ _) ⟨hl2, out, c2, vals, hD⟩, rfl, q H2 _ eN T2 (I2.hok.fresh (Nat.le_succ _))⟩
end
end K4
/-! K9: reduced_rows. -/
namespace K4
open PySem PySem.Spec PyProof.Rows L2 LamX
open M4 (Bd EB IRed)
/-- a global def whose code object is the one at c -/
structure GloC (K : PySem.W.Frag) (mg : Str → Option Value) (x name : Str) (st : Stmt) (c : Addr) : Prop where
  d : ∃ (f : Addr) (fd : FuncData), FunD K name name (defArgs st) (defBody st) (defScope st) [] [] f fd ∧ fd.code = .ref c ∧ mg x = some (.ref f)
theorem GloC.cal {P : Program} {w : World} {K : PySem.W.Frag} {mg : Str → Option Value} {base : Heap} {x name : Str} {st : Stmt} {c : Addr} {N ps : List Str} {k : Nat} {sp : L2.Sp} (D : GloC K mg x name st c) (S : FnScope N ps (defScope st))
    (hb : ∀ (kV doc pm : Value) (an : Option Addr) (cdv ct : Value) (us : List Value), us.length = ps.length → bindArgs (PySem.W.fnOf name name (defArgs st) (defBody st) (defScope st) .none kV doc pm an cdv ct) ⟨us, []⟩ = pure (ps.zip us))
    (len : ∀ vs H Q E, sp vs H Q E → vs.length = ps.length)
    (hbody : ∀ (f : Addr) (A : Around) (outer : List Env) (s : Shared) (H : Hp) (vs : List V) (Q : VK) (E : XK), Room k (A.deeper (envOfC name (defScope st) s.heap.objs.size f (.ref c))) → sp vs H Q E →
      ∃ t, PSs (cxOf CX0 P w K mg base N name (defScope st) f (.ref c) A outer s H E).nox (defBody st) t ∧ t { nx := fun _ H' => Q .non H', rt := Q } (start N vs) H) : Cal P w K mg base CX0 (k + 1) x sp := by
  obtain ⟨f, fd, F, hc, hm⟩ := D.d
  have kp := F.kp
  obtain ⟨oc, od, dV, kV, doc, pm, an, cdv, ct, osl, rfl, lk, hcd, d1, d2⟩ := F.ex
  obtain rfl : cdv = .ref c := hc
  have ok := fn_of (CX := CX0) (P := P) (w := w) (mg := mg) (base := base) (k := k) (sp := sp) lk hcd S len fun A outer s H vs Q E hr hsp => by
    obtain ⟨t, a, b⟩ := hbody f A outer s H vs Q E hr hsp
    exact ⟨t, a.nox, b⟩
  refine ⟨f, ?_, kp, hm⟩
  have := ok.raw (FunD.bindsN F hb) .nil
  exact this.imp fun vs H Q E h => by rw [List.append_nil]; exact h

def isN : RelH Nat := fun _ v n => v = .int n
theorem mono_N : Mono isN := fun _ _ _ _ _ h => h
def isRow : RelH (Nat × List Int) := isP isN (isL isI)
theorem mono_Row : Mono isRow := mono_P mono_N (mono_L mono_I)
def lamT (P : Addr) : List (Addr × Str) := [(P, (("reduced_rows" : Str) ++ ".<locals>.") ++ "<lambda>")]
theorem extN_of {H H' : Hp} (s : Same H H') : ExtN H H' := ExtN.of s
/-- what the elimination keeps -/
def EBn (n b : Nat) (R : M4.IRows) : Prop := IRed n R ∧ ∃ D, EB R D (M4.mk_ b R.length)
theorem EBn.bd {n b : Nat} {R : M4.IRows} (h : EBn n b R) (hn : n ≤ 6) {p : Nat} {zs : List Int} (hm : (p, zs) ∈ R) (i : Nat) : Bd (M4.ent zs i) (M4.mk_ b 6) := by
  obtain ⟨a, D, e⟩ := h
  have := a.count
  exact (e.entb hm i).mono (M4.mk_mono b (by omega))
theorem EBn.clear {n b : Nat} {R : M4.IRows} (h : EBn n b R) (hn : n ≤ 6) {v : List Int} (hv : v.length = n) (vb : ∀ i, Bd (M4.ent v i) b) (j i : Nat) : Bd (M4.ent (M4.clearAll (R.take j) v) i) (M4.mk_ b 6 + b + 3) := by
  obtain ⟨a, D, e⟩ := h
  have hc := a.count
  have sub : (R.take j).Sublist R := List.take_sublist j R
  have hl := sub.length_le
  refine (M4.clear_small a e hv vb (rows := R.take j) (fun x hx => sub.subset hx) ((sub.map _).nodup a.nodup) (by omega) i).mono ?_
  have := M4.mk_mono b (show R.length ≤ 6 by omega)
  omega
theorem ebn {n b : Nat} (hn : n ≤ 6) {vss : List (List Int)} (h : ∀ v ∈ vss, v.length = n ∧ ∀ i, Bd (M4.ent v i) b) : EBn n b (M4.elim vss) := by
  refine ⟨(M4.elim_spec fun v hv => (h v hv).1).1, ?_⟩
  rw [M4.elim_eq]
  exact M4.elim_bd (by omega) vss [] (M4.ired_nil n) ⟨1, M4.eb_nil _⟩ (fun v hv => (h v hv).1) fun v hv => (h v hv).2
theorem elim_take {vss : List (List Int)} {i : Nat} {v : List Int} (h : vss[i]? = some v) : M4.elim (vss.take (i + 1)) = M4.insertR (M4.elim (vss.take i)) v := by
  rw [take_succ_get h]
  unfold M4.elim
  rw [List.foldl_append]; rfl
theorem clear_take {R : M4.IRows} {i : Nat} {p : Nat} {zs : List Int} (h : R[i]? = some (p, zs)) (v : List Int) : M4.clearAll (R.take (i + 1)) v = M4.cleared (M4.clearAll (R.take i) v) zs p := by
  rw [take_succ_get h]
  unfold M4.clearAll
  rw [List.foldl_append]; rfl
theorem lead_bd {v : List Int} {e : Nat} (h : ∀ i, Bd (M4.ent v i) e) (i : Nat) : Bd (M4.ent (M4.leadOf v) i) e := by
  unfold M4.leadOf
  split
  · exact h i
  · rw [M4.ent_map (by simp)]; exact (h i).neg
theorem ite_join {ta tb : TE} {σ : L2.St} {H : Hp} {Q : VK} {c : Bool} (Y : VK → Prop) (hA : c = true → ∀ Q, Y Q → ta σ H Q) (hB : c = false → ∀ Q, Y Q → tb σ H Q) (h : Y Q) : if c = true then ta σ H Q else tb σ H Q := by
  cases c with
  | true => exact hA rfl Q h
  | false => exact hB rfl Q h
def MonoN {δ : Type} (R : RelH δ) : Prop := ∀ H H' v d, ExtN H H' → R H v d → R H' v d
theorem monoN_I : MonoN isI := fun _ _ _ _ _ h => h
theorem monoN_N : MonoN isN := fun _ _ _ _ _ h => h
theorem monoN_Q : MonoN isQ := fun _ _ _ _ s ⟨a, e, h⟩ => ⟨a, e, s _ _ h (fun _ z => by cases z)⟩
theorem monoN_L {δ : Type} {R : RelH δ} (m : MonoN R) : MonoN (isL R) := fun _ _ _ _ s ⟨a, vs, e, h, p⟩ => ⟨a, vs, e, s _ _ h (fun _ z => by cases z), pImp p (fun _ _ r => m _ _ _ _ s r)⟩
theorem monoN_T {δ : Type} {R : RelH δ} (m : MonoN R) : MonoN (isT R) := fun _ _ _ _ s ⟨a, vs, e, h, p⟩ => ⟨a, vs, e, s _ _ h (fun _ z => by cases z), pImp p (fun _ _ r => m _ _ _ _ s r)⟩
theorem monoN_P {δ ε : Type} {R : RelH δ} {S : RelH ε} (m : MonoN R) (n : MonoN S) : MonoN (isP R S) := fun _ _ _ _ s ⟨a, x, y, e, h, p, q⟩ => ⟨a, x, y, e, s _ _ h (fun _ z => by cases z), m _ _ _ _ s p, n _ _ _ _ s q⟩
theorem monoN_Row : MonoN isRow := monoN_P monoN_N (monoN_L monoN_I)
theorem srt_of {rows R : M4.IRows} (p : rows.Perm R) (nd : (R.map (·.1)).Nodup) (h : rows.Pairwise fun a b => a.1 ≤ b.1) : M4.Srt rows := by
  have nd2 : (rows.map (·.1)).Nodup := (p.map _).nodup_iff.mpr nd
  have nd3 : rows.Pairwise fun a b => a.1 ≠ b.1 := List.pairwise_map.mp nd2
  exact h.imp₂ (fun a b h1 h2 => by omega) nd3
def spReduced (P0 : Addr) : L2.Sp := fun vs H Q _ => ∃ (a : Addr) (vss : List (List Int)) (n b : Nat), vs = [.ref a] ∧ isL (isL isI) H (.ref a) vss ∧ n ≤ 6 ∧ (∀ v ∈ vss, v.length = n ∧ ∀ i, Bd (M4.ent v i) b) ∧ 2 * M4.mk_ b 6 + 2 * b + 10 ≤ 134000000 ∧ Tabs (lamT P0) H ∧
  ∀ c H' rows, ExtN H H' → Tabs (lamT P0) H' → isL isRow H' (.ref c) rows → rows.Perm (M4.elim vss) → M4.Srt rows → Q (.ref c) H'
section
variable {P : Program} {w : World} {K : PySem.W.Frag} {mg : Str → Option Value} {base : Heap}
theorem sc_reduced_rows : FnScope ["vectors", "rows", "vector", "rest", "place", "row", "at", "lead", "kept", "entry"] ["vectors"] (defScope s_reduced_rows) := ⟨rfl, rfl, rfl, by decide +kernel, rfl, by decide +kernel, by decide +kernel⟩

theorem ok_reduced_rows {c0 P0 : Addr} (D : GloC K mg "reduced_rows" "reduced_rows" s_reduced_rows c0) (TB : TabB base mg c0 P0) (ok_cleared : Cal P w K mg base CX0 37 "cleared" spCleared) (ok_first_place : Cal P w K mg base CX0 33 "first_place" spFirst) (T_any : mg "any" = none) (T_sorted : mg "sorted" = none) :
    Cal P w K mg base CX0 39 "reduced_rows" (spReduced P0) := by
  refine D.cal sc_reduced_rows (fun _ _ _ _ _ _ us hl => match us, hl with | [_], _ => rfl) (fun vs H Q E h => ?_) (fun f A outer s H vs Q E hr h => ?_)
  · obtain ⟨a, vss, n, b, rfl, _⟩ := h; rfl
  · obtain ⟨a, vss, n, b, rfl, ⟨a', vvs, e, hA, hp⟩, hn, hv, hm, hT, k⟩ := h
    cases e
    have hlen := pLen hp
    refine ⟨_, (pss_cons (ps_set (i := 1) sc_reduced_rows.nd rfl (by first | exact Or.inl rfl | exact Or.inr rfl) (pe_lst pa_nil))
      (pss_cons (ps_for PassesOwn.never rfl (pi_listK K (pv 0)) (pg_name (i := 2) sc_reduced_rows.nd rfl (by first | exact Or.inl rfl | exact Or.inr rfl)) (pss_cons (ps_set (i := 3) sc_reduced_rows.nd rfl (by first | exact Or.inl rfl | exact Or.inr rfl) (pv 2))
      (pss_cons (ps_for PassesOwn.never rfl (pi_listK K (pv 1)) (pg_tup rfl (pgs_cons (pg_name (i := 4) sc_reduced_rows.nd rfl (by first | exact Or.inl rfl | exact Or.inr rfl)) (pgs_cons (pg_name (i := 5) sc_reduced_rows.nd rfl (by first | exact Or.inl rfl | exact Or.inr rfl)) pgs_nil))) (pss_one (ps_set (i := 3) sc_reduced_rows.nd rfl (by first | exact Or.inl rfl | exact Or.inr rfl) (pe_cal ok_cleared (hr.mono (by decide)) (pa_cons (pv 3) (pa_cons (pv 5) (pa_cons (pv 4) pa_nil)))))))
      (pss_one (ps_if (pt_val (pe_callB (cr_anyIK K rfl) (by rfl) T_any b_any (pa_cons (pv 3) pa_nil))) (pss_cons (ps_set (i := 6) sc_reduced_rows.nd rfl (by first | exact Or.inl rfl | exact Or.inr rfl) (pe_cal ok_first_place (hr.mono (by decide)) (pa_cons (pv 3) pa_nil)))
      (pss_cons (ps_set (i := 7) sc_reduced_rows.nd rfl (by first | exact Or.inl rfl | exact Or.inr rfl) (pe_ifExp (pt_cmpR op_gt (pe_ix (ix_n K) (pv 3) (pv 6) (fun _ _ => rfl)) pe_int (nomark _)) (pv 3) (pe_lc (own := [("entry", 9)]) (tt := tYes) (g := (gName 9)) rfl sc_reduced_rows.nd (pi_listK K (pv 3)) (blkOk_by (N := ["vectors", "rows", "vector", "rest", "place", "row", "at", "lead", "kept", "entry"]) (sc := defScope s_reduced_rows) (by decide +kernel)) (fun _ _ _ _ _ => (pg_name (i := 9) sc_reduced_rows.nd rfl (by first | exact Or.inl rfl | exact Or.inr rfl))) (fun _ _ _ _ _ => pts_nil) (fun _ _ _ _ _ => (pe_un un_neg (pv 9))))))
      (pss_cons (ps_setLc (i := 8) (own := [("place", 4), ("row", 5)]) (tt := tYes) (g := (gTup K 2 (gCons (gName 4) (gCons (gName 5) gNil)))) rfl sc_reduced_rows.nd rfl rfl (sw_true rfl rfl rfl (by decide +kernel)) (pi_listK K (pv 1)) (blkOk_by (N := ["vectors", "rows", "vector", "rest", "place", "row", "at", "lead", "kept", "entry"]) (sc := defScope s_reduced_rows) (by decide +kernel)) (fun _ _ _ _ _ => (pg_tup rfl (pgs_cons (pg_name (i := 4) sc_reduced_rows.nd rfl (by first | exact Or.inl rfl | exact Or.inr rfl)) (pgs_cons (pg_name (i := 5) sc_reduced_rows.nd rfl (by first | exact Or.inl rfl | exact Or.inr rfl)) pgs_nil)))) (fun _ _ _ _ _ => pts_nil) (fun _ _ _ _ _ => (pe_tup (pa_cons (pv 4) (pa_cons (pe_cal ok_cleared (hr.mono (by decide)) (pa_cons (pv 5) (pa_cons (pv 7) (pa_cons (pv 6) pa_nil)))) pa_nil)))))
      (pss_one (ps_set (i := 1) sc_reduced_rows.nd rfl (by first | exact Or.inl rfl | exact Or.inr rfl) (pe_lst (pa_starK K (pv 8) (pa_cons (pe_tup (pa_cons (pv 6) (pa_cons (pv 7) pa_nil))) pa_nil)))))))) pss_nil)))))
      (pss_one (ps_ret (pe_sorted hr TB rfl (List.mem_singleton.mpr rfl) (fun p hp _ => by rw [List.mem_singleton.mp hp]) T_sorted (pa_cons (pv 1) pa_nil)))))), ?_⟩
    refine ⟨Nat.zero_le _, fun L hL => ?_⟩
    refine ⟨_, rfl, a, rfl, ⟨_, SqL.of (same_upd hL _ _ hA)⟩, for_list (K := K) (a := a) (xs := vvs) (fun i σ H' => Same H H' ∧ ∃ c rvs R o2 o3 o4 o5 o6 o7 o8, σ = [some (.ref a), some (.ref c), o2, o3, o4, o5, o6, o7, o8, none] ∧ H' c = some (.lst rvs) ∧ Paired (fun r x => isRow H' x r) R rvs ∧ R = M4.elim (vss.take i))
      ⟨same_upd hL, L, [], [], none, none, none, none, none, none, none, rfl, upd_same, .nil, rfl⟩ (fun i σ H' _ ⟨s, _⟩ => SqL.of (s _ _ hA)) ?_ ?_⟩
    · rintro i x σ H' hx ⟨s, c, rvs, R, o2, o3, o4, o5, o6, o7, o8, rfl, hc, hR, eR⟩
      obtain ⟨v, hv1, rx⟩ := pGet2 hp hx
      obtain ⟨c2, rfl, hc2⟩ := isLI.mp (mono_L mono_I _ _ _ _ s rx)
      obtain ⟨vl, vb⟩ := hv v (List.mem_of_getElem? hv1)
      have EN : EBn n b R := by rw [eR]; exact ebn hn fun v hv' => hv v (List.mem_of_mem_take hv')
      have hRc := EN.1.count
      have hRl := pLen hR
      refine ⟨_, rfl, ?_⟩
      refine ⟨_, rfl, c, rfl, ⟨_, SqL.of hc⟩, for_list (K := K) (a := c) (xs := rvs) (fun j σ H2 => Same H' H2 ∧ ∃ d o4 o5, σ = [some (.ref a), some (.ref c), some (.ref c2), some (.ref d), o4, o5, o6, o7, o8, none] ∧ H2 d = some (.lst ((M4.clearAll (R.take j) v).map V.int)))
        ⟨Same.refl _, c2, o4, o5, rfl, hc2⟩ (fun j σ H2 _ ⟨s, _⟩ => SqL.of (s _ _ hc)) ?_ ?_⟩
      · rintro j x σ H2 hx ⟨s2, d, o4, o5, rfl, hd⟩
        obtain ⟨⟨p, zs⟩, hr1, rx⟩ := pGet2 hR hx
        obtain ⟨t, x1, x2, rfl, ht, h1, h2⟩ := mono_Row _ _ _ _ s2 rx
        obtain rfl : x1 = .int p := h1
        obtain ⟨c3, rfl, hc3⟩ := isLI.mp h2
        have hmem := List.mem_of_getElem? hr1
        have zl := EN.1.len p zs hmem
        have hj : (M4.clearAll (R.take j) v).length = n := M4.clearAll_len EN.1 _ _ (fun x hx => List.mem_of_mem_take hx) vl
        refine ⟨t, _, rfl, .inl (.inl ht), rfl, _, _, rfl, _, _, rfl, rfl, ?_⟩
        refine ⟨_, rfl, _, rfl, _, rfl, d, c3, _, zs, p, rfl, hd, hc3, by omega, by omega, ?_, ⟨_, _, EN.clear hn vl vb j, EN.bd hn hmem, by omega⟩, fun d' H3 s3 _ hd' => ?_⟩
        · have := EN.1.lt hmem; omega
        · refine ⟨s2.trans s3, d', _, _, rfl, ?_⟩
          rw [clear_take hr1]; exact hd'
      · rintro σ H2 ⟨s2, d, o4, o5, rfl, hd⟩
        rw [← hRl, List.take_length] at hd
        have hW : (M4.clearAll R v).length = n := M4.clearAll_len EN.1 _ _ (fun x hx => hx) vl
        have bW : ∀ i, Bd (M4.ent (M4.clearAll R v) i) (M4.mk_ b 6 + b + 3) := fun i => by
          have := EN.clear hn vl vb R.length i
          rw [List.take_length] at this; exact this
        have eR' : M4.elim (vss.take (i + 1)) = M4.insertR R v := by rw [elim_take hv1, ← eR]
        unfold M4.insertR at eR'
        generalize M4.clearAll R v = W at *
        have s02 := s.trans s2
        refine ⟨_, rfl, d, W, rfl, SqL.of hd, _, rfl, ?_⟩
        by_cases h0 : M4.anyNZ W = true
        · refine iteC h0 ?_
          rw [if_pos h0] at eR'
          obtain ⟨f1, f2, f3⟩ := M4.firstPl_spec h0
          obtain ⟨l1, l2, _⟩ := M4.leadOf_spec h0
          have bL := lead_bd bW
          refine ⟨_, rfl, d, W, rfl, hd, by omega, h0, fun H3 s3 => ?_⟩
          have hd3 := s3 _ _ hd
          refine ⟨_, rfl, _, rfl, d, _, _, _, rfl, rfl, .inl (SqL.of hd3), ints_at f1, _, _, rfl, rfl, _, rfl, ?_⟩
          refine ite_join (fun Q => ∀ e H4, Same H3 H4 → H4 e = some (.lst ((M4.leadOf W).map V.int)) → Q (.ref e) H4) (fun c0 Q k => ?_) (fun c0 Q k => ?_) (fun e H4 s4 he => ?_)
          · have c1 : 0 < M4.ent W (M4.firstPl W) := by simpa using c0
            refine ⟨_, rfl, k d H3 (Same.refl _) ?_⟩
            unfold M4.leadOf
            rw [if_pos c1]; exact hd3
          · have c1 : ¬ 0 < M4.ent W (M4.firstPl W) := by simpa using c0
            refine ⟨_, rfl, d, rfl, ⟨_, SqL.of hd3⟩, fun M hM => lcm (walk_list (xs := W.map V.int)) (fun i _ v => v = V.int (M4.ent (M4.leadOf W) i)) hM (by rw [List.length_map]; exact small_line (by omega)) (fun _ _ _ _ _ q => q)
              (fun H' s => s.seq (SqL.of hd3)) (fun i x H5 H6 hi s5 o y Q k => ?_) (fun H5 ys s5 hM' q => ?_)⟩
            · obtain ⟨rfl, hx⟩ := y
              obtain ⟨hi1, rfl, hz1⟩ := ints_get hx
              refine ⟨rfl, _, rfl, _, rfl, k _ _ (Same.refl _) ?_⟩
              show V.int _ = V.int _
              unfold M4.leadOf
              rw [if_neg c1, M4.ent_map (by simp)]
            · rw [List.length_map] at q
              have e := ints_done (zs := M4.leadOf W) l1 q
              rw [e] at hM'
              exact k M H5 s5 hM'
          · have s24 := s3.trans s4
            have s14 := s2.trans s24
            have hc4 := s14 _ _ hc
            refine ⟨_, rfl, c, rfl, ⟨_, SqL.of hc4⟩, fun M hM => lcm (walk_list (xs := rvs)) (fun j H v => ∃ p zs, R[j]? = some (p, zs) ∧ isRow H v (p, M4.cleared zs (M4.leadOf W) (M4.firstPl W))) hM (small_line (by omega)) (fun _ _ _ _ s ⟨p, zs, h, q⟩ => ⟨p, zs, h, mono_Row _ _ _ _ s q⟩)
              (fun H' s => s.seq (SqL.of hc4)) (fun j x H5 H6 hj s5 o y Q k => ?_) (fun H5 ys s5 hM' q => ?_)⟩
            · obtain ⟨rfl, hx⟩ := y
              obtain ⟨oD, hD⟩ := o
              obtain ⟨⟨p, zs⟩, hr1, rx⟩ := pGet2 hR hx
              have s15 := s14.trans s5
              obtain ⟨t, x1, x2, rfl, ht, h1, h2⟩ := mono_Row _ _ _ _ s15 rx
              obtain rfl : x1 = .int p := h1
              obtain ⟨c3, rfl, hc3⟩ := isLI.mp h2
              have hmem := List.mem_of_getElem? hr1
              have zl := EN.1.len p zs hmem
              have up := same_cut H6 M
              refine ⟨t, _, rfl, .inl (.inl (up _ _ ht)), rfl, _, _, rfl, _, _, rfl, rfl, rfl, ?_⟩
              refine ⟨_, rfl, _, rfl, _, rfl, _, rfl, c3, e, zs, M4.leadOf W, M4.firstPl W, rfl, up _ _ hc3, (s5.trans up) _ _ he, by omega, by omega, by omega, ⟨_, _, EN.bd hn hmem, bL, by omega⟩, fun d' H7 s7 nd hd' => ?_⟩
              refine ⟨by show 2 ≤ sizeLine; decide, fun t' ht' => k _ _ (Same.upd s7 ht') ⟨p, zs, hr1, t', .int p, .ref d', rfl, ?_, rfl, isLI.mpr ⟨d', rfl, ?_⟩⟩⟩
              · exact cut_new (s7 _ _ hD) ht' upd_same
              · rw [cut_ne, upd_ne (ne_of_none hd' ht')]
                · exact hd'
                · rcases nd with nd | rfl
                  · exact new_ne hD nd
                  · exact (cut_some hc3).1
            · -- kept
              have s15 := s14.trans s5
              have he5 := s5 _ _ he
              have hyl := pLen q
              rw [List.length_range] at hyl
              have hK : Paired (fun r x => isRow H5 x r) (R.map fun pr => (pr.1, M4.cleared pr.2 (M4.leadOf W) (M4.firstPl W))) ys := by
                refine pOf (by rw [List.length_map]; omega) fun j r x hr hx => ?_
                obtain ⟨j', hj', p, zs, h1, h2⟩ := pGet2 q hx
                have hj2 := (List.getElem?_eq_some_iff.mp hx).1
                rw [List.getElem?_range (by omega)] at hj'
                cases hj'
                rw [List.getElem?_map, h1] at hr
                cases hr
                exact h2
              refine ⟨_, rfl, M, ys, rfl, .inr (SqL.of hM'), _, rfl, _, rfl, by show 2 ≤ sizeLine; decide, fun t ht => ?_⟩
              refine ⟨by rw [List.length_append]; exact small_line (by show ys.length + 1 ≤ 1000; omega), fun N hN => ?_⟩
              have s6 : Same H5 (upd H5 t (.tup [.int (M4.firstPl W), .ref e])) := same_upd ht
              have s7 : Same H5 (upd (upd H5 t (.tup [.int (M4.firstPl W), .ref e])) N (.lst (ys ++ [V.ref t]))) := Same.upd s6 hN
              refine ⟨(s.trans s15).trans s7, N, ys ++ [V.ref t], _, _, _, _, _, _, _, _, rfl, upd_same, ?_, eR'.symm⟩
              refine pApp (pImp hK fun _ _ q => mono_Row _ _ _ _ s7 q) (.cons ⟨t, .int (M4.firstPl W), .ref e, rfl, ?_, rfl, isLI.mpr ⟨e, rfl, s7 _ _ he5⟩⟩ .nil)
              rw [upd_ne (ne_of_none upd_same hN)]; exact upd_same
        · have h1 : M4.anyNZ W = false := by simpa using h0
          refine iteN h1 ⟨s02, c, rvs, R, _, _, _, _, _, _, _, rfl, s2 _ _ hc, pImp hR (fun _ _ q => mono_Row _ _ _ _ s2 q), ?_⟩
          rw [eR', if_neg (by rw [h1]; decide)]
    · rintro σ H' ⟨s, c, rvs, R, o2, o3, o4, o5, o6, o7, o8, rfl, hc, hR, eR⟩
      rw [← hlen, List.take_length] at eR
      have hRl := pLen hR
      refine ⟨_, rfl, c, rvs, (R.zip rvs).map (fun q => ((q.1.1 : Int), q.2)), rfl, SqL.of hc, ?_, hT.ext s, fun H2 p eN T2 hp => ?_⟩
      · refine pOf (by rw [List.length_map, List.length_zip]; omega) fun j d x hd hx => ?_
        obtain ⟨r, hr1, rx⟩ := pGet2 hR hx
        rw [List.getElem?_map, (List.getElem?_zip_eq_some (z := (r, x))).mpr ⟨hr1, hx⟩] at hd
        cases hd
        obtain ⟨t, x1, x2, rfl, ht, h1, h2⟩ := rx
        obtain rfl : x1 = .int r.1 := h1
        exact ⟨rfl, t, x2, rfl, .inl (.inl ht)⟩
      · have hpn : (upd H2 p (.lst ((byPlace ((R.zip rvs).map (fun q => ((q.1.1 : Int), q.2)))).map (·.2)))) p = some (.lst ((byPlace ((R.zip rvs).map (fun q => ((q.1.1 : Int), q.2)))).map (·.2))) := upd_same
        have sU : Same H2 (upd H2 p (.lst ((byPlace ((R.zip rvs).map (fun q => ((q.1.1 : Int), q.2)))).map (·.2)))) := same_upd hp
        have eN2 := ((extN_of s).trans eN).trans (extN_of sU)
        generalize upd H2 p (.lst ((byPlace ((R.zip rvs).map (fun q => ((q.1.1 : Int), q.2)))).map (·.2))) = Hn at *
        have ebp : byPlace ((R.zip rvs).map (fun q => ((q.1.1 : Int), q.2))) = ((R.zip rvs).mergeSort fun x y => decide ((x.1.1 : Int) ≤ (y.1.1 : Int))).map (fun q => ((q.1.1 : Int), q.2)) := by
          unfold byPlace
          exact (List.map_mergeSort (f := fun q : (Nat × List Int) × V => ((q.1.1 : Int), q.2)) (fun _ _ _ _ => rfl)).symm
        have pm := List.mergeSort_perm (R.zip rvs) (fun x y => decide ((x.1.1 : Int) ≤ (y.1.1 : Int)))
        have ezip : (R.zip rvs).map (·.1) = R := by rw [List.map_fst_zip (by omega)]
        have pR : (((R.zip rvs).mergeSort fun x y => decide ((x.1.1 : Int) ≤ (y.1.1 : Int))).map (·.1)).Perm R := by
          have := pm.map (·.1)
          rw [ezip] at this; exact this
        refine k p _ (((R.zip rvs).mergeSort fun x y => decide ((x.1.1 : Int) ≤ (y.1.1 : Int))).map (·.1)) eN2 (T2.ext sU) ⟨p, _, rfl, hpn, ?_⟩ (by rw [← eR]; exact pR) ?_
        · rw [ebp, List.map_map]
          refine pOf (by rw [List.length_map, List.length_map]) fun j r x hr hx => ?_
          rw [List.getElem?_map] at hr hx
          cases hq : ((R.zip rvs).mergeSort fun x y => decide ((x.1.1 : Int) ≤ (y.1.1 : Int)))[j]? with
          | none => rw [hq] at hr; cases hr
          | some q =>
            rw [hq] at hr hx
            cases hr
            cases hx
            have hm := pm.mem_iff.mp (List.mem_of_getElem? hq)
            obtain ⟨j2, hj2⟩ := List.getElem?_of_mem hm
            obtain ⟨z1, z2⟩ := List.getElem?_zip_eq_some.mp hj2
            obtain ⟨r2, hr2, rx⟩ := pGet2 hR z2
            rw [hr2] at z1
            cases z1
            exact monoN_Row _ _ _ _ ((eN.trans (extN_of sU))) rx
        · have nd : (R.map (·.1)).Nodup := by rw [eR]; exact (ebn hn hv).1.nodup
          exact srt_of pR nd (by
            have := List.pairwise_mergeSort (le := fun (x y : (Nat × List Int) × V) => decide ((x.1.1 : Int) ≤ (y.1.1 : Int))) (fun a b c h1 h2 => by simp at *; omega) (fun a b => by simp; omega) (R.zip rvs)
            exact List.pairwise_map.mpr (this.imp fun h => by simpa using h))
end
end K4
/-! K10: own exceptions whose __init__ says super().__init__(text) and stores two fields. -/
namespace K4
open PySem PySem.Spec PyProof.Rows L2
/-- the text of such an __init__ -/
structure E2St (f1 f2 m : Str) (st : Stmt) : Prop where
  bind : ∀ (q : Str) (kV doc pm : Value) (an : Option Addr) (cdv ct : Value) (cc : Addr) (a b c : Value), bindArgs (PySem.W.ksFn "__init__" q (defArgs st) (defBody st) (defScope st) .none kV doc pm an cdv ct cc) ⟨[a, b, c], []⟩ = pure [(("self" : Str), a), (f1, b), (f2, c)]
  body : ∃ (p0 p1 p2 p3 p4 p5 q1 q2 q3 q4 r1 r2 r3 r4 : Pos) (j : Nat), defBody st = [.Expr (.Call (.Attribute (.Call (.Name "super" p0) [] [] p1) "__init__" p2) [.Constant (.str m) j p3] [] p4) p5,
    .Assign [.Attribute (.Name "self" q1) f1 q2] (.Name f1 q3) q4, .Assign [.Attribute (.Name "self" r1) f2 r2] (.Name f2 r3) r4] ∧ (p2.endLine == p4.line) = true
  par : ∃ ar : Arg, ((defArgs st).posonlyargs ++ (defArgs st).args).head? = some ar ∧ ar.arg = ("self" : Str)
  ls : (defScope st).names.lookup ("self" : Str) = some .local
  l1 : (defScope st).names.lookup f1 = some .local
  l2 : (defScope st).names.lookup f2 = some .local
  sup : (defScope st).names.lookup ("super" : Str) = some .globalImplicit
  cls : (defScope st).names.lookup ("__class__" : Str) = some .free
  nocell : ∀ y ∈ (defScope st).names, y.2 ≠ .cell
  kind : (defScope st).kind = .function
  co : (defScope st).isCoroutine = false
  gen : (defScope st).isGenerator = false
  n1 : (f1 == ("__debug__" : Str)) = false
  n2 : (f2 == ("__debug__" : Str)) = false
  ne : f1 ≠ f2
  s1 : f1 ≠ ("self" : Str)
  s2 : f2 ≠ ("self" : Str)
/-- what the written part says of it -/
structure E2Txt (P : Program) (K : PySem.W.Frag) (mg : Str → Option Value) (x q : Str) (C fI : Addr) (f1 f2 : Str) (st : Stmt) : Prop where
  gC : mg x = some (.ref C)
  cls : ∃ nm qn N bs bm sn sub ab col dd k0 k1 k2 k3 k5, K.lookup C = some (excClassObj nm qn C N bs bm true sn sub ab col dd k0 k1 k2 k3 k5 "ValueError.__new__") ∧ PySem.HandSPX.refsVE bm = true
  sa : PySem.W.findIn K (.ref C) "__setattr__" = some (some (.builtin "object.__setattr__"))
  n1 : PySem.W.findIn K (.ref C) f1 = some none
  n2 : PySem.W.findIn K (.ref C) f2 = some none
  iC : PySem.W.findIn K (.ref C) "__init__" = some (some (.ref fI))
  tC : PySem.W.typeIn K (.ref fI) = some (.type "function")
  kC : PySem.W.keepIn K (.ref C) = true
  exC : PySem.W.subIn K (.ref C) (.type "BaseException") = some true
  tyC : PySem.W.typeIn K (.ref C) = some (.type "type")
  sub : PySem.W.mroIn K C (.ref C) = some true
  suI : PySem.W.ks_superIn K C C "__init__" = some (some (.builtin "ValueError.__init__"))
  suB : PySem.W.subIn K (.ref C) (.type "ValueError") = some true
  suT : PySem.W.nsIn K PySem.cStatics "thirdparty.any" = some none
  mgS : mg "super" = none
  htop : (P.main.scope.names.lookup ("super" : Str)).isSome = false
  fn : ∃ (oc : Value) (od : Option Addr) (kV doc pm : Value) (an : Option Addr) (cda : Addr) (ct : Value) (osl : Array (Option Value)) (cc : Addr),
    K.lookup fI = some ⟨oc, od, .func (PySem.W.ksFn "__init__" q (defArgs st) (defBody st) (defScope st) .none kV doc pm an (.ref cda) ct cc), osl⟩ ∧ PySem.W.codeIn K (.ref cda) q = true ∧
    (∃ (ccl : Value) (cdd : Option Addr) (vs : Array Value) (ccs : Array (Option Value)) (file : Str) (tf : Tok), K.lookup cda = some ⟨ccl, cdd, .fields vs, ccs⟩ ∧ vs[2]? = some (.str file tf) ∧ ((P.main.file : Str) == file) = true) ∧
    ∃ (cl : Value) (cld : Option Addr) (csl : Array (Option Value)), K.lookup cc = some ⟨cl, cld, .cell (some (.ref C)), csl⟩
/-- what __init__ leaves of a fresh exception at x -/
structure End2 (h h' : Heap) (x C dx t1 : Addr) (f1 f2 : Str) (u v : Value) : Prop where
  keep : ∀ b o, b ≠ x → h.get? b = some o → h'.get? b = some o
  obj : h'.get? x = some { cls := .ref C, dict := some dx, data := .fields #[.ref t1, .none, .none, .none, .bool false, .none] }
  dbig : h.objs.size ≤ dx
  dne : dx ≠ x
  ns : h'.Ns1 dx (fun y => if y = f2 then some v else if y = f1 then some u else none)
theorem lk3 {n1 n2 n3 : Str} {a b c : Value} (h12 : n1 ≠ n2) (h13 : n1 ≠ n3) (h23 : n2 ≠ n3) : [(n1, a), (n2, b), (n3, c)].reverse.lookup n1 = some a ∧ [(n1, a), (n2, b), (n3, c)].reverse.lookup n2 = some b ∧ [(n1, a), (n2, b), (n3, c)].reverse.lookup n3 = some c := by
  have e12 : (n1 == n2) = false := by simpa using h12
  have e13 : (n1 == n3) = false := by simpa using h13
  have e23 : (n2 == n3) = false := by simpa using h23
  have e1 : (n1 == n1) = true := by simp
  have e2 : (n2 == n2) = true := by simp
  have e3 : (n3 == n3) = true := by simp
  simp [List.lookup, e12, e13, e23]
theorem b_super : bootBuiltins "super" = some (.type "super") := by decide +kernel
section
open PySem.W PySem.Calls PySem.HandSPX
variable {prog : Program} {w : World} {A : Around} {E : Value → Shared → Prop} {R : Result → Shared → Prop} {K : Frag} {mg mb : Str → Option Value} {x q : Str} {C fI : Addr} {f1 f2 m : Str} {st : Stmt}
theorem method_line {o : Expr} {name : Str} {apos pos p3 : Pos} {m : Str} {j : Nat} {env : Env} (h : (apos.endLine == pos.line) = true) :
    eval (.Call (.Attribute o name apos) [.Constant (.str m) j p3] [] pos) env = (do
      let ov ← attributeBase o name env (eval o env)
      standAt apos.atName
      let (f, first) ← holding [ov] (getMethod ov name (do return (← importBound o env).getD true))
      callWith pos f first (backTo pos (starEach [.Constant (.str m) j p3] env)) []) := by
  rw [arm_eval_Call]
  have e : ∀ ov, methodCall o name apos pos env ov ([Expr.Constant (.str m) j p3].length + ([] : List Keyword).length) (backTo pos (starEach [.Constant (.str m) j p3] env)) (backToKw pos (keywordEach [] env)) = (do
      let (f, first) ← holding [ov] (getMethod ov name (do return (← importBound o env).getD true))
      callWith pos f first (backTo pos (starEach [.Constant (.str m) j p3] env)) []) := fun ov => by
    unfold methodCall methodCallPos
    rw [h]
    rfl
  simp only [e]
theorem call_wrap {nm qn : Str} {N e u t0 : Addr} {bs bm : List Value} {hdct : Bool} {sn : List Str} {sub : List Value} {ab : Bool} {col : Option Bool} {dd : Option Addr} {k0 k1 k2 k3 k5 : Option Value} {h : Heap} {g : Array GenState} {d : Drawn} {t : Nat} {os : OsState} {rest : List Value} {Q : Value → Shared → Prop}
    (hC : h.get? C = some (excClassObj nm qn C N bs bm hdct sn sub ab col dd k0 k1 k2 k3 k5 "ValueError.__new__")) (he : h.get? e = some (excO C t0)) (hu : h.get? u = some (kxs_mw "ValueError.__init__" e)) (hrest : rest.length ≤ sizeLine)
    (hq : ∀ h' t1, (∀ b o, b ≠ e → h.get? b = some o → h'.get? b = some o) → h'.get? e = some (excO C t1) → Q .none ⟨h', g, d, t, os⟩) : wpAny (model prog w) A (call (.ref u) rest) Q E ⟨h, g, d, t, os⟩ := by
  refine wpAny_call (codeAny_of_tree ?_)
  show wpAny _ A.in1 (callAny (.ref u) ⟨rest, []⟩) _ _ _
  simp only [callAny]
  refine wpAny_bind (wpAny_load hu ?_)
  simp only [kxs_mw, show (Value.type "method-wrapper" == Value.type "method" || Value.type "method-wrapper" == Value.type "builtin_function_or_method" || Value.type "method-wrapper" == Value.type "method-wrapper") = true by decide, if_true]
  refine KFB.if_so (by decide) ?_
  refine wpAny_bind (check_bound_init F.excBase_ValueError.toExcCallFacts hC he rfl ?_)
  refine wpAny_bind (wpAny_pure (wpAny_pure ?_))
  refine ⟨plainId_quiet F.excBase_ValueError.init.plain _, codeAny_builtin F.excBase_ValueError.initEntry ?_⟩
  rw [Around.under_plainId F.excBase_ValueError.init.plain _]
  exact exc_init_tree (cls := .ref C) (t0 := t0) (dv := none) (c2 := .none) (c3 := .none) (b4 := .bool false) he hrest fun h' k e' _ => hq h' _ k e'
theorem e2_init {s : Shared} (S : E2St f1 f2 m st) (T : E2Txt prog K mg x q C fI f1 f2 st) {a t0 : Addr} {u v : Value} (X : K.In s.heap) (G : s.heap.Ns mainGlobals mg) (B : s.heap.Ns builtinsNs mb) (hbb : ∀ x : Str, x ≠ "__name__" → mb x = bootBuiltins x) (hlim : s.heap.NoLimit)
    (hx : s.heap.get? a = some (excO C t0)) (hnx : K.lookup a = none) (hroom : A.depth < recursionLimit)
    (hq : ∀ h' tk dx t1, End2 s.heap h' a C dx t1 f1 f2 u v → R (.ok (.ret .none)) { s with heap := h', toks := tk }) :
    codeAny (model prog w) A (.call (.ref fI) ⟨[.ref a, u, v], []⟩) R s := by
  obtain ⟨oc, od, kV, doc, pm, an, cda, ct, osl, cc, lk, hcd, ⟨ccl, cdd, cvs, ccs, file, tf, lc, hvs, hfile⟩, cl, cld, csl, lcell⟩ := T.fn
  obtain ⟨nm, qn, N, bs, bm, sn, sub, ab, col, dd, k0, k1, k2, k3, k5, hC, hbm⟩ := T.cls
  obtain ⟨p0, p1, p2, p3, p4, p5, q1, q2, q3, q4, r1, r2, r3, r4, j, hbd, hline⟩ := S.body
  obtain ⟨ar, har, hars⟩ := S.par
  have hcl : clsIn K C = some { name := nm, bases := bs, mro := .ref C :: bm, ns := N, qualname := qn, hasDict := true, slotNames := sn, subclasses := sub, abstract := ab, collection := col, hasDel := false } := by unfold clsIn; rw [hC] <;> rfl
  refine ks_codeAny_call_defAt (fd := ksFn "__init__" q (defArgs st) (defBody st) (defScope st) .none kV doc pm an (.ref cda) ct cc) (body := defBody st) (binds := [(("self" : Str), .ref a), (f1, u), (f2, v)]) hroom (X _ _ lk) rfl hlim (codeRec_of X hcd) rfl (BindsTo.of_eq (S.bind _ _ _ _ _ _ _ _ _ _ _)) S.nocell (fun y hy => ?_) (fun h₁ hns k => ?_) S.co S.gen S.kind
  · simp at hy
    rcases hy with rfl | rfl | rfl
    · exact S.ls
    · exact S.l1
    · exact S.l2
  have X₁ : K.In h₁ := X.keeps k
  have hx₁ := k _ _ hx
  have I₁ : InstAt h₁ a (excO C t0) C none := ⟨hx₁, rfl, rfl, trivial⟩
  have hne : a ≠ C := ks_ne X₁ I₁ hcl
  have hxL : s.heap.objs.size ≠ a := Nat.ne_of_gt (Heap.lt_size hx)
  have sz : s.heap.objs.size < h₁.objs.size := hns.lt
  rw [hbd]
  show PySem.wpAt (model prog w) (A.deeper (ksEnv q (defScope st) s.heap.objs.size fI (.ref cda) cc)) (.func _ (ksEnv q (defScope st) s.heap.objs.size fI (.ref cda) cc)) (execs _ (ksEnv q (defScope st) s.heap.objs.size fI (.ref cda) cc)) _ _ _
  generalize s.toks + _ = tk0
  refine ks_wpAt_execs_cons (ks_wpAt_Expr_any (ks_wpAt_MethodCall ?_ (method_line hline)) (by simp [interactive, S.kind]))
  refine ks_wpAt_super_base (env := ksEnv q (defScope st) s.heap.objs.size fI (.ref cda) cc) S.sup S.cls (by decide) rfl (X₁ _ _ lk) rfl har rfl (X₁ _ _ lc) rfl hvs hfile T.htop ?_
  refine ks_loadName_global S.kind S.sup (loadGlobal_builtin (env := ksEnv q (defScope st) s.heap.objs.size fI (.ref cda) cc) (G.keepsP k) T.mgS (B.keepsP k) ((hbb _ (by decide +kernel)).trans b_super) ⟨rfl, ?_⟩)
  refine wpAny_loadName_free S.kind S.cls rfl ⟨_, X₁ _ _ lcell, rfl⟩ ?_
  rw [hars]
  refine wpAny_loadName_local S.kind S.ls hns (v := .ref a) (lk3 S.s1.symm S.s2.symm S.ne).1 ?_
  refine ks_wpAny_isType_cls (X₁ _ _ hC) rfl ⟨rfl, ?_⟩
  refine ks_wpAny_call_super (X₁ _ _ hC) rfl hx₁ rfl (fun c e => by cases e) (looks_mroIn X₁ T.sub) (fun h₂ e₂ kp₂ => ?_)
  have X₂ : K.In h₂ := X₁.keeps kp₂
  have hx₂ := kp₂ _ _ hx₁
  have I₂ : InstAt h₂ a (excO C t0) C none := ⟨hx₂, rfl, rfl, trivial⟩
  refine kxs_getMethod kxs_ValueError e₂ (looks_opaque X₂ T.suT) (l₀ := .ref C :: bm) (fun A Q E s k q => wpAny_bind ((looks_clsIn X₂ hcl) A _ E s k (wpAny_pure q))) rfl X₂ ?_ (I₂.type.andThen (looks_subIn X₂ T.suB)) hne (by decide) ?_
  · have e := T.suI
    unfold ks_superIn at e
    rw [hcl] at e
    exact e
  have k₃ : ∀ b o, h₂.get? b = some o → (h₂.push (kxs_mw "ValueError.__init__" a)).get? b = some o := fun b o e => Heap.get?_push_of_some _ e
  have hw₃ : (h₂.push (kxs_mw "ValueError.__init__" a)).get? h₂.objs.size = some (kxs_mw "ValueError.__init__" a) := Heap.get?_push_size _ rfl
  generalize h₂.push (kxs_mw "ValueError.__init__" a) = h₃ at *
  have X₃ : K.In h₃ := X₂.keeps k₃
  have hx₃ := k₃ _ _ hx₂
  refine kxs_callWith (i := "ValueError.__init__") (x := a) rfl (evalArgs_plain ?_)
  show wpAny _ _ (spliced ((false, eval (.Constant (.str m) j p3) (ksEnv q (defScope st) s.heap.objs.size fI (.ref cda) cc)) :: backTo p4 (starEach [] (ksEnv q (defScope st) s.heap.objs.size fI (.ref cda) cc)))) _ _ _
  refine Calls.spliced_cons (Calls.Constant_str (Calls.spliced_nil ⟨hw₃, ?_⟩))
  refine call_wrap (X₃ _ _ hC) hx₃ hw₃ (by show 1 ≤ sizeLine; rw [sizeLine_eq]; omega) (fun h₄ t1 k₄ hx₄ => ?_)
  have k14 : ∀ b o, b ≠ a → h₁.get? b = some o → h₄.get? b = some o := fun b o hb e => k₄ b o hb (k₃ b o (kp₂ b o e))
  have X₄ : K.In h₄ := fun b o e => k14 b o (fun z => by rw [z, hnx] at e; cases e) (X₁ b o e)
  have hns₄ : h₄.Ns s.heap.objs.size fun y => [(("self" : Str), Value.ref a), (f1, u), (f2, v)].reverse.lookup y := by
    obtain ⟨o, es, ep, e, r⟩ := hns
    exact ⟨o, es, ep, k14 _ _ hxL e, r⟩
  refine wpAt_of_wpAny (wpAny_execs_cons (plainObj_wpAny_Assign_Attribute ?_))
  refine wpAny_Name (wpAny_loadName_local S.kind S.l1 hns₄ (lk3 S.s1.symm S.s2.symm S.ne).2.1 ?_) S.n1
  refine wpAny_Name (wpAny_loadName_local S.kind S.ls hns₄ (lk3 S.s1.symm S.s2.symm S.ne).1 ?_) (by decide)
  refine set_plain X₄ (ox := excO C t1) (od := none) ⟨hx₄, rfl, rfl, trivial⟩ T.sa ?_
  refine PySem.HandSPX.exc_osa X₄ hx₄ hcl (show PySem.HandSPX.refsVE (.ref C :: bm) = true from hbm) rfl T.n1 (fun h₅ tk₅ dx k₅ dn dne hx₅ hn₅ => ?_)
  have X₅ : K.In h₅ := fun b o e => k₅ b o (fun z => by rw [z, hnx] at e; cases e) (X₄ b o e)
  have hns₅ : h₅.Ns s.heap.objs.size fun y => [(("self" : Str), Value.ref a), (f1, u), (f2, v)].reverse.lookup y := by
    obtain ⟨o, es, ep, e, r⟩ := hns₄
    exact ⟨o, es, ep, k₅ _ _ hxL e, r⟩
  refine wpAny_execs_cons (plainObj_wpAny_Assign_Attribute ?_)
  refine wpAny_Name (wpAny_loadName_local S.kind S.l2 hns₅ (lk3 S.s1.symm S.s2.symm S.ne).2.2 ?_) S.n2
  refine wpAny_Name (wpAny_loadName_local S.kind S.ls hns₅ (lk3 S.s1.symm S.s2.symm S.ne).1 ?_) (by decide)
  obtain ⟨oD, _, _, hoD, _, _⟩ := hn₅.count (Within.cons f1 u (m := fun _ => none) (ns := []) (fun y hy => absurd rfl hy))
  refine set_plain X₅ (ox := { cls := .ref C, dict := some dx, data := .fields #[.ref t1, .none, .none, .none, .bool false, .none] }) (od := some oD) ⟨hx₅, rfl, rfl, hoD⟩ T.sa ?_
  refine PySem.OEX.osa_old X₅ hx₅ hn₅ (Within.cons f1 u (m := fun _ => none) (ns := []) (fun y hy => absurd rfl hy)) (by show 1 ≤ 1000; omega) hcl (show PySem.HandSPX.refsVE (.ref C :: bm) = true from hbm) rfl T.n2 (fun h₆ tk₆ k₆ hn₆ => ?_)
  show wpAny _ _ (execs _ _) _ _ _
  have gt : s.heap.objs.size ≤ h₄.objs.size := by
    obtain ⟨o, es, ep, e, r⟩ := hns₄
    exact Nat.le_of_lt (Heap.lt_size e)
  refine wpAny_execs_nil (hq h₆ tk₆ dx t1 ⟨fun b o hb e => ?_, k₆ _ _ (Ne.symm dne) hx₅, Nat.le_trans gt dn, dne, hn₆⟩)
  exact k₆ b o (Nat.ne_of_lt (Nat.lt_of_lt_of_le (Heap.lt_size e) (Nat.le_trans gt dn))) (k₅ b o hb (k14 b o hb (k b o e)))
theorem e2_made {s : Shared} (S : E2St f1 f2 m st) (T : E2Txt prog K mg x q C fI f1 f2 st) {u v : Value} (X : K.In s.heap) (G : s.heap.Ns mainGlobals mg) (B : s.heap.Ns builtinsNs mb) (hbb : ∀ x : Str, x ≠ "__name__" → mb x = bootBuiltins x) (hlim : s.heap.NoLimit) (hroom : A.depth + 1 < recursionLimit)
    (hq : ∀ h' tk e d t1, s.heap.objs.size ≤ e → s.heap.objs.size ≤ d → d ≠ e → (∀ b o, s.heap.get? b = some o → h'.get? b = some o) → h'.get? e = some { cls := .ref C, dict := some d, data := .fields #[.ref t1, .none, .none, .none, .bool false, .none] } →
      h'.Ns1 d (fun y => if y = f2 then some v else if y = f1 then some u else none) → R (.ok (.ret (.ref e))) { s with heap := h', toks := tk }) :
    codeAny (model prog w) A (.call (.ref C) ⟨[u, v], []⟩) R s := by
  obtain ⟨nm, qn, N, bs, bm, sn, sub, ab, col, dd, k0, k1, k2, k3, k5, hC, hbm⟩ := T.cls
  obtain ⟨hp, g, dr, tk, os⟩ := s
  have k : ∀ b o, hp.get? b = some o → ((hp.push (kdv_tup [u, v])).push (excO C hp.objs.size)).get? b = some o := fun b o e => Heap.get?_push_of_some _ (Heap.get?_push_of_some _ e)
  have hget : ((hp.push (kdv_tup [u, v])).push (excO C hp.objs.size)).get? (hp.objs.size + 1) = some (excO C hp.objs.size) := by heap_get
  have hnx : K.lookup (hp.objs.size + 1) = none := by
    cases e : K.lookup (hp.objs.size + 1) with
    | none => rfl
    | some o =>
      have z : hp.get? (hp.objs.size + 1) = some o := X _ _ e
      exact absurd (Nat.lt_of_succ_lt (Heap.lt_size z)) (Nat.lt_irrefl _)
  refine PySem.HandSPX.call_own F.excBase_ValueError (fun X => PySem.HandSPX.refsVE_contains X bm hbm) (X _ _ hC) (looks_findIn X T.iC) (fun self => bind_fn X self T.tC) (by show 2 ≤ sizeLine; rw [sizeLine_eq]; omega) ?_
  refine e2_init (s := ⟨(hp.push (kdv_tup [u, v])).push (excO C hp.objs.size), g, dr, tk, os⟩) S T (X.keeps k) (G.keepsP k) (B.keepsP k) hbb (hlim.keeps k) hget hnx ?_ fun h' tk' dx t1 ⟨k', hx, dn, dne, hns⟩ => ?_
  · show A.depth + 1 < recursionLimit
    exact hroom
  · have old : ∀ b o, hp.get? b = some o → h'.get? b = some o := fun b o e => k' b o (Nat.ne_of_lt (Nat.lt_succ_of_lt (Heap.lt_size e))) (k b o e)
    have z : hp.objs.size + 1 + 1 ≤ dx := by
      first
        | (simpa only [Heap.size_push] using dn)
        | exact dn
        | (have q := dn; rw [Heap.size_push, Heap.size_push] at q; exact q)
    exact ⟨rfl, hq h' tk' (hp.objs.size + 1) dx t1 (Nat.le_succ _) (Nat.le_trans (Nat.le_trans (Nat.le_succ _) (Nat.le_succ _)) z) dne old hx hns⟩
end
theorem relO2 {f1 f2 : Str} {u v : V} {u' v' : Value} (r1 : RelV u u') (r2 : RelV v v') (f : Str) : RelO (List.lookup f [(f2, v), (f1, u)]) (if f = f2 then some v' else if f = f1 then some u' else none) := by
  by_cases h2 : f = f2
  · rw [if_pos h2]
    have e : List.lookup f [(f2, v), (f1, u)] = some v := by rw [h2]; simp [List.lookup]
    rw [e]; exact r2
  · have e2 : (f == f2) = false := by simpa using h2
    rw [if_neg h2]
    by_cases h1 : f = f1
    · rw [if_pos h1]
      have e : List.lookup f [(f2, v), (f1, u)] = some u := by
        rw [List.lookup, e2, h1]; simp [List.lookup]
      rw [e]; exact r1
    · have e1 : (f == f1) = false := by simpa using h1
      rw [if_neg h1]
      have e : List.lookup f [(f2, v), (f1, u)] = none := by simp [List.lookup, e1, e2]
      rw [e]; trivial
def tMk2 (C : Addr) (f1 f2 : Str) (ta : TA) : L2.St → Hp → XK → Prop := fun σ H Q => ta σ H fun vs H1 => ∃ u v, vs = [u, v] ∧ ∀ d, H1 d = none → Q (.ref C) (some d) (upd H1 d (.xd [(f2, v), (f1, u)]))
section
variable {X : Cx} {x q : Str} {C fI : Addr} {f1 f2 m : Str} {st : Stmt}
theorem pmk_e2 {e : Expr} {es : List Expr} {ta : TA} {p pos : Pos} {k : Nat} (S : E2St f1 f2 m st) (T : E2Txt X.prog X.K X.mg x q C fI f1 f2 st) (hr : Room k X.A) (ha : PA X (e :: es) ta) (hg : Gl X x := by rfl) (hdb : (x == ("__debug__" : Str)) = false := by decide)
    (he : starEach (e :: es) X.env = (false, eval e X.env) :: starEach es X.env := by rfl) (hpl : (backTo pos (starEach es X.env)).any (·.1) = false := by rfl) :
    PMk X (.Call (.Name x p) (e :: es) [] pos) (tMk2 C f1 f2 ta) := by
  intro pins s σ H Q I h
  refine wpAny_Call_Name_kw (ld_glob I hg T.gC ?_ hdb)
  refine PySem.W.callWith_K (h₀ := X.base) I.ok.mod.kin T.kC (thn (ha.run pos pins s σ H _ I h) fun us s1 ⟨vs, H1, I1, r1, u, v, ev, q1⟩ => ⟨I1.kIn, ?_⟩) he hpl
  subst ev
  obtain ⟨u', v', rfl, ru, rv⟩ := r1.two
  show wpAny _ _ (call (.ref C) [u', v']) _ _ _
  have hlim := I1.nolimit
  obtain ⟨mb, hb, hbb⟩ := I1.mod.blt
  have G1 := I1.mod.glob.keepsP I1.bk
  have B1 := hb.keepsP I1.bk
  obtain ⟨hp, g, dr, tk, os⟩ := s1
  refine wpAny_call (e2_made S T I1.kIn G1 B1 hbb hlim (by have := hr.dp; omega) fun h' tk' e d t1 he hd hde k hoe hns => ?_)
  show MkP X pins σ Q (.ref e) ⟨h', g, dr, tk', os⟩
  obtain ⟨G', g1, g2⟩ := restrict h' fun b => decide (b ≠ e)
  have gk : ∀ b, b ≠ e → G'.get? b = h'.get? b := fun b hb => g1 b (decide_eq_true hb)
  have ge : G'.get? e = none := g2 e (by simp)
  have old : ∀ b o, hp.get? b = some o → G'.get? b = some o := fun b o q => (gk b (Nat.ne_of_lt (Nat.lt_of_lt_of_le (Heap.lt_size q) he))).trans (k b o q)
  have ob : ObjOk X.prog X.w (upd H1 d (.xd [(f2, v), (f1, u)])) G' d (.xd [(f2, v), (f1, u)]) :=
    ⟨_, hns.at (fun o q => (gk d hde).trans q), fun f => relO2 ru rv f⟩
  have J : Inv X pins σ (upd H1 d (.xd [(f2, v), (f1, u)])) ⟨G', g, dr, tk', os⟩ := I1.laid (t' := tk') old hd ob
  refine ⟨e, _, _, ⟨G', g, dr, tk', os⟩, _, .ref C, some d, rfl, J, fun b o q => ?_, ge, hoe, ⟨rfl, rfl⟩, rfl, rfl, ?_, rfl, I1.bare, raises_own T.exC T.tyC, q1 d (I1.hok.fresh hd)⟩
  · by_cases hb : b = e
    · have q' : G'.get? b = some o := q
      rw [hb, ge] at q'; cases q'
    · exact (gk b hb).symm.trans q
  · rw [upd_ne (Ne.symm hde)]
    exact I1.hok.fresh he
end
end K4
/-! K11: own exceptions raised and caught. -/
namespace K4
open PySem PySem.Spec PyProof.Rows L2
section
variable {X : Cx} {C : Addr} {bmB : List Value} {B newId initId : String}
/-- X() of an own class without an __init__ of its own -/
theorem pmk_own0 {x : Str} {p pos : Pos} (F : ExcBaseFacts B newId initId bmB) (q : PySem.W.excIn X.K C bmB newId = true) (gC : X.mg x = some (.ref C)) (kC : PySem.W.keepIn X.K (.ref C) = true) (r : Raises X (.ref C)) (hg : Gl X x := by rfl)
    (hdb : (x == ("__debug__" : Str)) = false := by decide) : PMk X (.Call (.Name x p) [] [] pos) (fun _ H Q => Q (.ref C) none H) := by
  intro pins s σ H Q I h
  refine wpAny_Call_Name_kw (ld_glob I hg gC ?_ hdb)
  refine PySem.W.callWith_K0 I.kIn kC ?_
  obtain ⟨bm, N, nm, qn, bs, hdct, sn, sub, ab, col, dd, k0, k1, k2, k3, k5, mN, hC, hN, hni, T⟩ := exc_obj I.kIn q
  refine wpAny_call_exc_subT F T hC hN hni (fun h' e hm => ?_) (Nat.zero_le _)
  exact mk_of I hm r h (I.hok.gone hm.new)
end
/-! ### several clauses, each with a name -/
def wManyAs (K : PySem.W.Frag) (i : Nat) (Wout : WX) (D : Ends) : List (Value × (Addr → Value → Option Addr → TS)) → WX
  | [] => Wout
  | (c, ts) :: r => fun cls d σ H => ∃ b, PySem.W.exmOne K cls c = some b ∧
    (b = true → ∀ a, H a = none → ts a cls d { nx := fun σ' H' => D.nx (σ'.set i none) H', rt := D.rt, bk := fun σ' H' => D.bk (σ'.set i none) H', ct := fun σ' H' => D.ct (σ'.set i none) H' } (σ.set i (some (.ref a))) H) ∧ (b = false → wManyAs K i Wout D r cls d σ H)
inductive HdsAs (X : Cx) (n : Str) : List ExceptHandler → List (Value × (Addr → Value → Option Addr → TS)) → Prop
  | nil : HdsAs X n [] []
  | cons {x : Str} {c : Value} {ts : Addr → Value → Option Addr → TS} {b₀ : Stmt} {suite : List Stmt} {np pos' : Pos} {hds : List ExceptHandler} {l : List (Value × (Addr → Value → Option Addr → TS))} (hc : Names X x c)
      (hsu : ∀ (a : Addr) (oe : Obj) (cls : Value) (d : Option Addr) (pn : List (Addr × Obj)), Zc cls d oe → (∃ vs, oe.data = .fields vs) → PSs (X.suite a ((a, oe) :: pn)) (b₀ :: suite) (ts a cls d)) (r : HdsAs X n hds l) :
      HdsAs X n (.ExceptHandler (some (.Name x np)) (some n) (b₀ :: suite) pos' :: hds) ((c, ts) :: l)
section
variable {X : Cx} {n : Str} {i : Nat} {body : List Stmt} {h₀ : ExceptHandler} {hds : List ExceptHandler} {l : List (Value × (Addr → Value → Option Addr → TS))} {pos : Pos} {tb : WX → TS} {Wout : WX}
theorem ps_try_many_as (hs : X.stack = X.env :: X.outer) (hf : X.env.frame = some X.env.locals) (hN : X.N.Nodup) (hi : X.N[i]? = some n) (hln : X.env.kindOf n = some .local) (tk : Takes X Wout)
    (hb : ∀ (W : WX) (pn : List (Addr × Obj)) (xe : Value → Shared → Prop), Takes (X.tr pn xe) W → PassesOwn (model X.prog X.w) X.A X.env xe → PSs (X.tr pn xe) body (tb W))
    (hh : HdsAs X n (h₀ :: hds) l) : PS X (.Try body (h₀ :: hds) [] [] pos) (fun D σ H => tb (wManyAs X.K i Wout D l) D σ H) := by
  refine ⟨fun pins s σ H D I h => ?_⟩
  have ok := I.ok
  have hfr : X.A.frames = some (X.env :: X.outer) := by rw [ok.frames, hs]
  have hloc : Loc X.env.scope n := .inl hln
  refine wpAny_Try_except ?_
  refine wpAny_mono ((hb (wManyAs X.K i Wout D l) (X.pn ++ pins) (fun e s₁ => wpAny (model X.prog X.w) X.A (noteFrame e X.env) (fun _ s₂ => wpAny (model X.prog X.w) X.A (setFlight e none) (fun _ s₃ =>
    wpAny (model X.prog X.w) X.A (handleBy e X.env (h₀ :: hds)) (SP X pins D) X.xe s₃) X.xe s₂) X.xe s₁) (fun u s' xx => ?_) PassesOwn.looking).run [] s σ H D (I.toTry _) h) (fun f s1 hsp => ?_) (fun e s1 he => he)
  · -- the catch
    obtain ⟨a, B, sI, pins', σ', H', cls, d, rfl, J', nb, up, sky, na, os, ag, w⟩ := xx
    have J : Inv X pins σ' H' sI := J'.ofTry ok
    have sky' : Sky B (X.env :: X.outer) a (Zc cls d) X.env.locals s'.heap := by rw [← hs]; exact sky
    show wpAny (model X.prog X.w) X.A (noteFrame (.ref a) X.env) _ _ _
    refine Sky.land Zc.steady hfr hf sky' fun h3 fl3 up3 => ?_
    have J3 : Inv X pins σ' H' { s' with heap := h3 } := J.landed nb fl3.1 (up.trans up3) os ag
    obtain ⟨oe3, vs3, he3, hz3, hd3⟩ := fl3.there
    have notFr : ∀ {h : Heap} {o : Obj} {vs : Array Value}, h.FunFrames B (X.env :: X.outer) → h.get? a = some o → o.data = .fields vs → a ∉ frs (X.env :: X.outer) := fun {h o vs} ff e dd hm => by
      obtain ⟨_, o', e', hnf⟩ := ff.mem hm
      rw [e] at e'; cases e'
      exact hnf _ dd
    have nfr := notFr fl3.2.2.1 he3 hd3
    have nL : a ≠ X.env.locals := fun z => nfr (List.mem_filterMap.mpr ⟨X.env, List.mem_cons_self, by rw [hf, z]⟩)
    have nF : a ∉ X.fs := fun hm => by
      obtain ⟨e, he, q⟩ := List.mem_filterMap.mp hm
      exact nfr (List.mem_filterMap.mpr ⟨e, List.mem_cons_of_mem _ he, q⟩)
    have S3 := J3.suite he3 hd3 na nL nF
    have go : ∀ {hds' : List ExceptHandler} {l' : List (Value × (Addr → Value → Option Addr → TS))}, HdsAs X n hds' l' → wManyAs X.K i Wout D l' cls d σ' H' →
        wpAny (model X.prog X.w) X.A (handleBy (.ref a) X.env hds') (SP X pins D) X.xe { s' with heap := h3 } := by
      intro hds' l' hk
      induction hk with
      | nil =>
        intro w
        refine wpAny_handleBy_nil ?_
        obtain ⟨k1, k2, k3, oe, vs, T, oT, ts', he, hz, hd, h1, hr⟩ := id fl3
        unfold PySem.passOn
        refine wpAny_bind (wpAny_field he hd h1 ?_)
        rw [if_neg (show ¬ ((Value.ref T == Value.none) = true) from by simp)]
        have fin : wpAny (model X.prog X.w) X.A (setFlight (.ref a) X.env.frame) (fun _ s4 => wpAny (model X.prog X.w) X.A (throw (.ref a) : Sem Flow) (SP X pins D) X.xe s4) X.xe { s' with heap := h3 } := by
          rw [hf]
          refine HandSPX.setFlight_upZ fl3 fun h4 hh4 up4 => wpAny_throw (tk _ _ ?_)
          exact ⟨a, B, sI, pins, σ', H', cls, d, rfl, J, nb, (up.trans up3).trans up4, .inr (.inr (by rw [hs]; exact hh4)), na, os, ag, w⟩
        first
          | exact wpAny_bind (wpAny_pure (wpAny_bind fin))
          | exact wpAny_bind fin
      | @cons x c ts b₀ suite np pos' hds2 l2 hc hsu r ih =>
        intro w
        obtain ⟨b, hb1, hyes, hno⟩ := w
        refine wpAny_handleBy_cons (codeAny_handlers_test ?_) (by intro q; cases q)
        have LT : PySem.W.Looks (model X.prog X.w) h3 (typeOf (.ref a)) cls := fun A Q E s k q => wpAny_typeOf_ref (k _ _ he3) (by rw [hz3.1]; exact q)
        have LM := PySem.W.exm_one (M := model X.prog X.w) (J3.kIn) LT hb1
        have test : ∀ {Q : Value → Shared → Prop} {E : Value → Shared → Prop}, Q c { s' with heap := h3 } → wpAny (model X.prog X.w) (X.A.mark (some (.ref a))) (eval (.Name x np) X.env) Q E { s' with heap := h3 } := fun {Q E} q => by
          obtain ⟨hg, hdbg, hm | ⟨hm, hv, hnn⟩⟩ := hc
          · exact ld_glob (X := X.suite a ((a, oe3) :: (X.pn ++ pins))) S3 hg hm q hdbg
          · exact ld_blt (X := X.suite a ((a, oe3) :: (X.pn ++ pins))) S3 hg hm hv q hnn hdbg
        refine test (LM.here ?_)
        cases b with
        | true =>
          refine codeAny_handlers_suite_as ?_
          refine HandSPX.lands_againZ fl3 fun h4 fl4 up4 => ?_
          have J4 : Inv X pins σ' H' { s' with heap := h4 } := J.landed nb fl4.1 ((up.trans up3).trans up4) os ag
          obtain ⟨oe4, vs4, he4, hz4, hd4⟩ := fl4.there
          have S4 := J4.suite he4 hd4 na nL nF
          refine store_ok (X := X.suite a ((a, oe4) :: (X.pn ++ pins))) (v := .ref a) S4 hN hi hloc rfl (fun s5 S5 => ?_) (.inr hln)
          refine wpAny_mono ((hsu a oe4 cls d (X.pn ++ pins) hz4 ⟨_, hd4⟩).run [] s5 _ H' _ S5 (hyes rfl a na)) (fun f s6 hsp => ?_) (fun _ _ z => False.elim z)
          have end_ : ∀ {σ6 : L2.St} {H6 : Hp} {Q : Shared → Prop}, Inv (X.suite a ((a, oe4) :: (X.pn ++ pins))) [] σ6 H6 s6 → (∀ s7, Inv X pins (σ6.set i none) H6 s7 → Q s7) →
              wpAny (model X.prog X.w) X.A (do bindName X.env n .none; unbindBehindTheSuite X.env n pos') (fun _ s7 => Q s7) X.xe s6 := fun {σ6 H6 Q} S6 hq => gone_ok (S6.unsuite ok) hN hi hln hq
          cases f with
          | next =>
            obtain ⟨σ6, H6, S6, q6⟩ := hsp
            exact end_ S6 fun s7 J7 => ⟨_, _, J7, q6⟩
          | brk =>
            obtain ⟨σ6, H6, S6, q6⟩ := hsp
            exact end_ S6 fun s7 J7 => ⟨_, _, J7, q6⟩
          | cont =>
            obtain ⟨σ6, H6, S6, q6⟩ := hsp
            exact end_ S6 fun s7 J7 => ⟨_, _, J7, q6⟩
          | ret u =>
            obtain ⟨v6, σ6, H6, S6, r6, q6⟩ := hsp
            exact end_ S6 fun s7 J7 => ⟨_, _, _, J7, r6, q6⟩
        | false =>
          show wpAny _ X.A (handleBy (.ref a) X.env hds2) _ _ _
          exact ih (hno rfl)
    exact go hh w
  · cases f with
    | next =>
      obtain ⟨σ', H', J', q⟩ := hsp
      exact wpAny_execs_nil ⟨σ', H', J'.ofTry ok, q⟩
    | brk =>
      obtain ⟨σ', H', J', q⟩ := hsp
      exact ⟨σ', H', J'.ofTry ok, q⟩
    | cont =>
      obtain ⟨σ', H', J', q⟩ := hsp
      exact ⟨σ', H', J'.ofTry ok, q⟩
    | ret u =>
      obtain ⟨v, σ', H', J', r, q⟩ := hsp
      exact ⟨v, σ', H', J'.ofTry ok, r, q⟩
end
/-! ### isinstance of the exception that a suite holds -/
/-- what the class D must say -/
structure ExcCl (K : PySem.W.Frag) (D : Addr) : Prop where
  hg : PySem.W.findIn K (.ref D) "__getattribute__" = some (some (.builtin "BaseException.__getattribute__"))
  hk : PySem.W.findIn K (.ref D) "__getattr__" = some none
  hs : PySem.W.subIn K (.ref D) (.type "BaseException") = some true
  hd : PySem.W.hasDictIn K D = true
  ha : PySem.W.findIn K (.ref D) "__class__" = some (some (.builtin "object.__class__"))
  hn : PySem.W.specialIn K (.builtin "object.__class__") "__get__" = some (some (.builtin "getset_descriptor.__get__"))
  ht : PySem.W.takesIn K (.builtin "object.__class__") = some true
  hm : PySem.W.mroIn K D (.type "object") = some true
theorem ExcCl.xf {K : PySem.W.Frag} {D : Addr} (h : ExcCl K D) : XfC K D := ⟨h.hg, h.hk, h.hs, h.hd⟩
def rIsX (K : PySem.W.Frag) (a : Addr) (cls : Value) (d : Option Addr) : List V → Hp → VK → Prop := fun xs H Q => ∃ (D : Addr) (c : V) (cv : Value) (b : Bool), cls = .ref D ∧ ExcCl K D ∧ (d = none ∨ ∃ dd fs, d = some dd ∧ H dd = some (.xd fs)) ∧ xs = [.ref a, c] ∧ (∀ u, RelV c u → u = cv) ∧ PySem.W.kitOne K (.ref D) cv = some b ∧ Q (.bl b) H
theorem call_isX {X : Cx} {a : Addr} {oe : Obj} {cls : Value} {d : Option Addr} {pn : List (Addr × Obj)} (hz : Zc cls d oe) (hf : ∃ vs, oe.data = .fields vs) : CallR (X.suite a ((a, oe) :: pn)) (.builtin "isinstance") (rIsX X.K a cls d) := by
  intro pins s σ H xs us Q I r h
  obtain ⟨D, c, cv, b, rfl, C, hd, rfl, hcv, e, q⟩ := h
  obtain ⟨u1, u2, rfl, rx, rt⟩ := r.two
  cases (show u1 = Value.ref a from rx)
  have ec := hcv _ rt
  subst ec
  obtain ⟨hget, _⟩ := I.pin (a, oe) (List.mem_append.mpr (.inl List.mem_cons_self))
  obtain ⟨vs, hv⟩ := hf
  have J : ∃ od, PySem.W.InstAt s.heap a oe D od := by
    obtain ⟨oc, ocd, oda, osl⟩ := oe
    obtain ⟨h1, h2⟩ := hz
    dsimp only at h1 h2 hv
    subst h1 h2 hv
    rcases hd with rfl | ⟨dd, fs, rfl, hdd⟩
    · exact ⟨none, hget, rfl, rfl, trivial⟩
    · have hx : ObjOk X.prog X.w H s.heap dd (.xd fs) := I.hok dd _ hdd
      obtain ⟨mA, hns, hr⟩ := hx
      obtain ⟨od, ho, hl⟩ := lookIn_ns hns
      exact ⟨some od, hget, rfl, rfl, ho⟩
  obtain ⟨od, J⟩ := J
  have hcl : (PySem.W.clsIn X.K D).isSome = true := by
    obtain ⟨cd, hc, _⟩ := PySem.W.any_some C.hd
    rw [hc]; rfl
  exact PySem.W.kia_one (PySem.W.kitx_exc (od := od) hcl C.hg C.hk C.hs C.ha C.hn C.ht C.hm) I.kIn J e (fun z => nomatch z) fun tk => ⟨.bl b, H, I.kept (t' := tk) fun _ _ z => z, rfl, q⟩
end K4
/-! K12: checks, tables. -/
namespace K4
open PySem PySem.Spec PyProof.Rows L2 StX
open M4 (Bd)
/-- the text's facts of an own exception class without an __init__ -/
structure E0Txt (K : PySem.W.Frag) (mg : Str → Option Value) (x : Str) (C : Addr) : Prop where
  ex : PySem.W.excIn K C [.type "ValueError", .type "Exception", .type "BaseException", .type "object"] "ValueError.__new__" = true
  gC : mg x = some (.ref C)
  kC : PySem.W.keepIn K (.ref C) = true
  exC : PySem.W.subIn K (.ref C) (.type "BaseException") = some true
  tyC : PySem.W.typeIn K (.ref C) = some (.type "type")
/-! ### what may be let out, and what may not -/
section
variable {P : Program} {w : World} {K : PySem.W.Frag} {mg : Str → Option Value} {base : Heap} {k : Nat} {x : Str} {C : Addr} {sp : L2.Sp}
/-- a promise, where nothing may be let out -/
def calmSp (sp : L2.Sp) : L2.Sp := fun vs H Q _ => sp vs H Q fun _ _ _ => False
theorem FnR.calm {f : Addr} (F : FnR P w K mg base (L2.CX P w) k f sp) : FnR P w K mg base CX0 k f (calmSp sp) := fun A outer s H us vs Q E hr e0 r h =>
  codeAny_mono (F A outer s H us vs Q (fun _ _ _ => False) hr e0 r h) fun res s' hq => by
    cases res with
    | error e =>
      obtain ⟨_, _, _, _, _, _, _, _, _, _, _, _, z⟩ := hq
      exact z.elim
    | ok fl => cases fl <;> exact hq
theorem Cal.calm (C : Cal P w K mg base (L2.CX P w) k x sp) : Cal P w K mg base CX0 k x (calmSp sp) := by
  obtain ⟨f, F, a, b⟩ := C.ok
  exact ⟨f, FnR.calm F, a, b⟩
/-- the class of the module's name x -/
structure CalM (P : Program) (w : World) (K : PySem.W.Frag) (mg : Str → Option Value) (base : Heap) (CX : CXT) (k : Nat) (x : Str) (C : Addr) (sp : L2.Sp) : Prop where
  ok : ∃ f, FnR P w K mg base CX k f sp ∧ Mk K C f ∧ mg x = some (.ref C)
theorem CalM.calm (M : CalM P w K mg base (L2.CX P w) k x C sp) : CalM P w K mg base CX0 k x C (calmSp sp) := by
  obtain ⟨f, F, a, b⟩ := M.ok
  exact ⟨f, FnR.calm F, a, b⟩
theorem CalM.mono {CX : CXT} {j : Nat} (M : CalM P w K mg base CX j x C sp) (h : j ≤ k) : CalM P w K mg base CX k x C sp := by
  obtain ⟨f, F, a, b⟩ := M.ok
  exact ⟨f, F.mono h, a, b⟩
/-- a property of the class C -/
structure CalP (P : Program) (w : World) (K : PySem.W.Frag) (mg : Str → Option Value) (base : Heap) (CX : CXT) (k : Nat) (C : Addr) (f : Str) (sp : L2.Sp) : Prop where
  cls : Cls K C
  ok : ∃ p g, PropOf K C f p g ∧ FnR P w K mg base CX k g sp
/-- a method of the class C -/
structure CalF (P : Program) (w : World) (K : PySem.W.Frag) (mg : Str → Option Value) (base : Heap) (CX : CXT) (k : Nat) (C : Addr) (f : Str) (sp : L2.Sp) : Prop where
  cls : Cls K C
  ok : ∃ g, Meth K C f g ∧ FnR P w K mg base CX k g sp
theorem Glo.calX {name : Str} {st : Stmt} {N ps : List Str} (D : Glo K mg x name st) (S : FnScope N ps (defScope st))
    (hb : ∀ (kV doc pm : Value) (an : Option Addr) (cdv ct : Value) (us : List Value), us.length = ps.length → bindArgs (PySem.W.fnOf name name (defArgs st) (defBody st) (defScope st) .none kV doc pm an cdv ct) ⟨us, []⟩ = pure (ps.zip us))
    (len : ∀ vs H Q E, sp vs H Q E → vs.length = ps.length)
    (hbody : ∀ (f : Addr) (cdv : Value) (A : Around) (outer : List Env) (s : Shared) (H : Hp) (vs : List V) (Q : VK) (E : XK), Room k (A.deeper (envOfC name (defScope st) s.heap.objs.size f cdv)) → sp vs H Q E →
      ∃ t, PSs (cxOf (L2.CX P w) P w K mg base N name (defScope st) f cdv A outer s H E) (defBody st) t ∧ t { nx := fun _ H' => Q .non H', rt := Q } (start N vs) H) : Cal P w K mg base (L2.CX P w) (k + 1) x sp := by
  obtain ⟨f, D, hm⟩ := D.d
  exact D.cal hm (D.fnR S hb len (hbody f))
end
section
variable {X : Cx} {CX : CXT} {k : Nat} {x f : Str} {C : Addr} {sp : L2.Sp} {E : XK} {p pos apos : Pos} {e o : Expr} {es : List Expr} {t : TA} {ta : TE}
theorem pe_mk (M : CalM X.prog X.w X.K X.mg X.base CX k x C sp) (hr : Room (k + 1) X.A) (ha : PA X (e :: es) t) (hx : Passes CX X E := by exact pass0) (hg : Gl X x := by rfl) (hd : (x == ("__debug__" : Str)) = false := by decide)
    (he : starEach (e :: es) X.env = (false, eval e X.env) :: starEach es X.env := by rfl) (hpl : (backTo pos (starEach es X.env)).any (·.1) = false := by rfl) :
    PE X (.Call (.Name x p) (e :: es) [] pos) (tMakeR C sp E t) := by
  obtain ⟨f, F, M, hm⟩ := M.ok
  exact pe_makeR M F hr hg hm hx ha hd he hpl
/-- cls(e, ..), cls a local name that holds the class at C -/
def tMakeV (i : Nat) (C : Addr) (sp : L2.Sp) (E : XK) (t : TA) : TE := fun σ H Q => σ[i]? = some (some (.ref C)) ∧ tMakeR C sp E t σ H Q
theorem pe_mkV {i : Nat} {y : Str} (M : CalM X.prog X.w X.K X.mg X.base CX k y C sp) (hr : Room (k + 1) X.A) (hN : X.N[i]? = some x) (hv : Vis X.env.scope x) (ha : PA X (e :: es) t) (hx : Passes CX X E := by exact pass0)
    (hd : (x == ("__debug__" : Str)) = false := by decide) (hcd : (x == ("__classdict__" : Str)) = false := by decide)
    (he : starEach (e :: es) X.env = (false, eval e X.env) :: starEach es X.env := by rfl) (hpl : (backTo pos (starEach es X.env)).any (·.1) = false := by rfl) : PE X (.Call (.Name x p) (e :: es) [] pos) (tMakeV i C sp E t) := by
  obtain ⟨f, F, M, hm⟩ := M.ok
  refine ⟨fun pins s σ H Q I h => ?_⟩
  obtain ⟨hs, h⟩ := h
  refine wpAny_Call_Name_kw (thn ((pe_var (pos := p) (i := i) hN hv hd hcd).run pins s σ H (fun v H1 => v = .ref C ∧ H1 = H) I ⟨.ref C, hs, rfl, rfl⟩) fun u s1 ⟨v, H1, I1, r1, ev, eH⟩ => ?_)
  subst ev
  rw [eH] at I1
  cases r1
  refine PySem.W.callWith_K (h₀ := X.base) I.ok.mod.kin M.kp (thn (ha.run pos pins s1 σ H _ I1 h) fun us s2 ⟨vs, H2, I2, r, q⟩ => ⟨I2.kIn, ?_⟩) he hpl
  exact run_makeR M F hr hx I2 r q
def tPropR (C : Addr) (sp : L2.Sp) (E : XK) (ta : TE) : TE := fun σ H Q => ta σ H fun x H1 => ∃ a dx fs, x = .ref a ∧ H1 a = some (.ins C dx fs) ∧ sp [.ref a] H1 Q E
theorem pe_propR (he : PE X e ta) (c : CalP X.prog X.w X.K X.mg X.base CX0 k C f sp) (hr : Room (k + 1) X.A) (hab : attributeBase e f X.env (eval e X.env) = eval e X.env := by rfl) : PE X (.Attribute e f pos) (tPropR C sp (fun _ _ _ => False) ta) := by
  obtain ⟨p, g, hp, F⟩ := c.ok
  refine ⟨fun pins s σ H Q I h => ?_⟩
  refine attr_of hab (thn (he.run pins s σ H _ I h) fun u s1 ⟨x, H1, I1, rx, a, dx, fs, ex, ea, q⟩ => ?_)
  subst ex
  obtain rfl : u = Value.ref a := rx
  obtain ⟨mA, O, _, _, _, _⟩ := ins_get I1.hok ea
  obtain ⟨od, J, _⟩ := O.look
  obtain ⟨rest, hrec⟩ := hp.rec_
  have I2 := I1.tok (s1.toks + 1)
  have hc : (PySem.W.clsIn X.K C).isSome = true := by
    obtain ⟨cd, hc, _⟩ := PySem.W.any_some c.cls.hd
    rw [hc]; rfl
  refine PySem.W.get_bind I1.kIn J (PySem.W.plainGet_of (c.cls.get f)).1 (PySem.W.findObj_data hc hp.at_ hp.get hp.tak) (PySem.W.plainGet_of (c.cls.get f)).2 (wpAny_call (PySem.W.prop_get (s := { s1 with toks := s1.toks + 1 }) I1.kIn hrec ?_))
  refine codeAny_mono (F X.A.in1 X.stack { s1 with toks := s1.toks + 1 } H1 [.ref a] [.ref a] Q _ hr.in1 I2.env0.in1 (.cons rfl .nil) q) fun r s' hq => ?_
  cases r with
  | error er => exact False.elim hq
  | ok fl =>
    cases fl with
    | ret u =>
      obtain ⟨v, H', I3, rv, q3⟩ := I2.after hq
      show wpAny _ _ (handedOut u) _ _ _
      rw [PySem.W.handedOut_of (handed_of rv)]
      exact wpAny_pure ⟨v, H', I3, rv, q3⟩
    | next => exact False.elim hq
    | brk => exact False.elim hq
    | cont => exact False.elim hq
end
/-! ### checks -/
section
variable {P : Program} {w : World} {K : PySem.W.Frag} {mg : Str → Option Value} {base : Heap} {C_NoPlots C_TooMany C_UnlikePlots I_TooMany I_UnlikePlots : Addr}
theorem S_TooMany : E2St "what" "limit" "the limit is exceeded" st_TooMany := by
  refine ⟨fun _ _ _ _ _ _ _ _ _ _ _ => rfl, ⟨_, _, _, _, _, _, _, _, _, _, _, _, _, _, _, rfl, by decide +kernel⟩, ⟨_, rfl, rfl⟩, by decide +kernel, by decide +kernel, by decide +kernel, by decide +kernel, by decide +kernel, by decide +kernel, rfl, rfl, rfl, by decide, by decide, by decide, by decide, by decide⟩
theorem S_UnlikePlots : E2St "left_plots" "right_plots" "the counts of plots are not equal" st_UnlikePlots := by
  refine ⟨fun _ _ _ _ _ _ _ _ _ _ _ => rfl, ⟨_, _, _, _, _, _, _, _, _, _, _, _, _, _, _, rfl, by decide +kernel⟩, ⟨_, rfl, rfl⟩, by decide +kernel, by decide +kernel, by decide +kernel, by decide +kernel, by decide +kernel, by decide +kernel, rfl, rfl, rfl, by decide, by decide, by decide, by decide, by decide⟩
abbrev TxMany (P : Program) (K : PySem.W.Frag) (mg : Str → Option Value) (C I : Addr) : Prop := E2Txt P K mg "TooMany" "TooMany.__init__" C I "what" "limit" st_TooMany
abbrev TxUnlike (P : Program) (K : PySem.W.Frag) (mg : Str → Option Value) (C I : Addr) : Prop := E2Txt P K mg "UnlikePlots" "UnlikePlots.__init__" C I "left_plots" "right_plots" st_UnlikePlots
/-- TooMany(what, limit) is let out -/
def Many (CM : Addr) (what : Str) (limit : Int) (H : Hp) (E : XK) : Prop := ∀ d H', Same H H' → H' d = some (.xd [("limit", .int limit), ("what", .str what)]) → E (.ref CM) (some d) H'
def Unlike (CU : Addr) (l r : Int) (H : Hp) (E : XK) : Prop := ∀ d H', Same H H' → H' d = some (.xd [("right_plots", .int r), ("left_plots", .int l)]) → E (.ref CU) (some d) H'
def NoPl (CN : Addr) (H : Hp) (E : XK) : Prop := ∀ H', Same H H' → E (.ref CN) none H'
theorem Many.imp {CM : Addr} {what : Str} {limit : Int} {H H' : Hp} {E : XK} (h : Many CM what limit H E) (s : Same H H') : Many CM what limit H' E := fun d H2 s2 => h d H2 (s.trans s2)
theorem Unlike.imp {CM : Addr} {l r : Int} {H H' : Hp} {E : XK} (h : Unlike CM l r H E) (s : Same H H') : Unlike CM l r H' E := fun d H2 s2 => h d H2 (s.trans s2)
theorem NoPl.imp {CM : Addr} {H H' : Hp} {E : XK} (h : NoPl CM H E) (s : Same H H') : NoPl CM H' E := fun H2 s2 => h H2 (s.trans s2)
def spCheck (CN CM : Addr) : L2.Sp := fun vs H Q E => ∃ n : Int, vs = [.int n] ∧ (n < 1 → NoPl CN H E) ∧ (n > 16 → Many CM "plots" 16 H E) ∧ (1 ≤ n → n ≤ 16 → Q .non H)
theorem sc_check_plots : FnScope ["plots"] ["plots"] (defScope s_check_plots) := ⟨rfl, rfl, rfl, by decide +kernel, rfl, by decide +kernel, by decide +kernel⟩

theorem ok_check_plots_aid_strata (D : Glo K mg "check_plots_aid_strata" "check_plots" s_check_plots) (T_NoPlots : E0Txt K mg "NoPlots" C_NoPlots) (T_TooMany : TxMany P K mg C_TooMany I_TooMany) (g_MOST_PLOTS : ∃ t, mg "MOST_PLOTS" = some (.int 16 t)) :
    Cal P w K mg base (L2.CX P w) 33 "check_plots_aid_strata" (spCheck C_NoPlots C_TooMany) := by
  refine D.calX sc_check_plots (fun _ _ _ _ _ _ us hl => match us, hl with | [_], _ => rfl) (fun vs H Q E h => ?_) (fun f cdv A outer s H vs Q E hr h => ?_)
  · obtain ⟨n, rfl, _⟩ := h; rfl
  · obtain ⟨n, rfl, h1, h2, k⟩ := h
    refine ⟨_, (pss_cons (ps_if (pt_cmpR op_lt (pv 0) pe_int (nomark _)) (pss_one (ps_raise rfl (takes_of rfl rfl rfl rfl) (pmk_own0 PySem.F.excBase_ValueError T_NoPlots.ex T_NoPlots.gC T_NoPlots.kC (raises_own T_NoPlots.exC T_NoPlots.tyC)))) pss_nil)
      (pss_one (ps_if (pt_cmpR op_gt (pv 0) (pe_glob (v := .int 16) rfl g_MOST_PLOTS.choose_spec ⟨_, rfl⟩) (nomark _)) (pss_one (ps_raise rfl (takes_of rfl rfl rfl rfl) (pmk_e2 S_TooMany T_TooMany hr (pa_cons pe_str (pa_cons (pe_glob (v := .int 16) rfl g_MOST_PLOTS.choose_spec ⟨_, rfl⟩) pa_nil))))) pss_nil))), ?_⟩
    refine ⟨_, rfl, _, _, rfl, rfl, _, rfl, ?_⟩
    by_cases c : n < 1
    · exact iteC (by simpa using c) (h1 c H (Same.refl _))
    · refine iteN (by simpa using c) ⟨_, rfl, _, _, rfl, rfl, _, rfl, ?_⟩
      by_cases c2 : n > 16
      · exact iteC (by simpa using c2) ⟨_, _, rfl, fun d hd => h2 c2 d _ (same_upd hd) upd_same⟩
      · exact iteN (by simpa using c2) (k (by omega) (by omega))
theorem sc_check_plots_tables : FnScope ["plots"] ["plots"] (defScope s_check_plots_tables) := ⟨rfl, rfl, rfl, by decide +kernel, rfl, by decide +kernel, by decide +kernel⟩

theorem ok_check_plots_tables (D : Glo K mg "check_plots_tables" "check_plots" s_check_plots_tables) (T_NoPlots : E0Txt K mg "NoPlots" C_NoPlots) (T_TooMany : TxMany P K mg C_TooMany I_TooMany) (g_MOST_PLOTS : ∃ t, mg "MOST_PLOTS" = some (.int 16 t)) :
    Cal P w K mg base (L2.CX P w) 33 "check_plots_tables" (spCheck C_NoPlots C_TooMany) := by
  refine D.calX sc_check_plots_tables (fun _ _ _ _ _ _ us hl => match us, hl with | [_], _ => rfl) (fun vs H Q E h => ?_) (fun f cdv A outer s H vs Q E hr h => ?_)
  · obtain ⟨n, rfl, _⟩ := h; rfl
  · obtain ⟨n, rfl, h1, h2, k⟩ := h
    refine ⟨_, (pss_cons (ps_if (pt_cmpR op_lt (pv 0) pe_int (nomark _)) (pss_one (ps_raise rfl (takes_of rfl rfl rfl rfl) (pmk_own0 PySem.F.excBase_ValueError T_NoPlots.ex T_NoPlots.gC T_NoPlots.kC (raises_own T_NoPlots.exC T_NoPlots.tyC)))) pss_nil)
      (pss_one (ps_if (pt_cmpR op_gt (pv 0) (pe_glob (v := .int 16) rfl g_MOST_PLOTS.choose_spec ⟨_, rfl⟩) (nomark _)) (pss_one (ps_raise rfl (takes_of rfl rfl rfl rfl) (pmk_e2 S_TooMany T_TooMany hr (pa_cons pe_str (pa_cons (pe_glob (v := .int 16) rfl g_MOST_PLOTS.choose_spec ⟨_, rfl⟩) pa_nil))))) pss_nil))), ?_⟩
    refine ⟨_, rfl, _, _, rfl, rfl, _, rfl, ?_⟩
    by_cases c : n < 1
    · exact iteC (by simpa using c) (h1 c H (Same.refl _))
    · refine iteN (by simpa using c) ⟨_, rfl, _, _, rfl, rfl, _, rfl, ?_⟩
      by_cases c2 : n > 16
      · exact iteC (by simpa using c2) ⟨_, _, rfl, fun d hd => h2 c2 d _ (same_upd hd) upd_same⟩
      · exact iteN (by simpa using c2) (k (by omega) (by omega))
end
end K4
/-! K13: counts, tables. -/
namespace K4
open PySem PySem.Spec PyProof.Rows L2 StX
open M4 (Bd)
section
variable {P : Program} {w : World} {K : PySem.W.Frag} {mg : Str → Option Value} {base : Heap} {C_NoPlots C_TooMany C_UnlikePlots I_TooMany I_UnlikePlots C_Table : Addr}
/-! ### check_partings -/
def spCheckP (CN CM : Addr) : L2.Sp := fun vs H Q E => ∃ (a : Addr) (least : Int) (xs : List V), vs = [.ref a, .int least] ∧ H a = some (.lst xs) ∧ ((xs.length : Int) < least → NoPl CN H E) ∧ (least ≤ xs.length → xs.length > 16 → Many CM "partings" 16 H E) ∧ (least ≤ xs.length → xs.length ≤ 16 → Q .non H)
theorem sc_check_partings : FnScope ["partings", "least"] ["partings", "least"] (defScope s_check_partings) := ⟨rfl, rfl, rfl, by decide +kernel, rfl, by decide +kernel, by decide +kernel⟩

theorem ok_check_partings (D : ∃ f, Def K f "check_partings" "check_partings" s_check_partings [.int 1] ∧ mg "check_partings" = some (.ref f)) (T_NoPlots : E0Txt K mg "NoPlots" C_NoPlots) (T_TooMany : TxMany P K mg C_TooMany I_TooMany) (g_MOST_PARTINGS : ∃ t, mg "MOST_PARTINGS" = some (.int 16 t)) (T_len : mg "len" = none) :
    Cal P w K mg base (L2.CX P w) 33 "check_partings" (spCheckP C_NoPlots C_TooMany) := by
  obtain ⟨f, D, hm⟩ := D
  refine ⟨f, ?_, D.kp, hm⟩
  refine (D.fnRd (sp := spCheckP C_NoPlots C_TooMany) (by simp) sc_check_partings 2 1 rfl (fun _ _ _ _ _ _ _ us its h1 h2 => match us, its, h1, h2 with | [_, _], [_], _, _ => ⟨_, rfl, rfl⟩) (fun vs H Q E h => ?_) (fun cdv A outer s H vs Q E hr h => ?_)).imp (fun vs H Q E h => by rw [show vs ++ List.drop 1 [V.int 1] = vs by simp]; exact h)
  · obtain ⟨a, l, xs, rfl, _⟩ := h; rfl
  · obtain ⟨a, least, xs, rfl, ha, h1, h2, k⟩ := h
    refine ⟨_, (pss_cons (ps_if (pt_cmpR op_lt (pe_callB (call_lenK K) (by rfl) T_len b_len (pa_cons (pv 0) pa_nil)) (pv 1) (nomark _)) (pss_one (ps_raise rfl (takes_of rfl rfl rfl rfl) (pmk_own0 PySem.F.excBase_ValueError T_NoPlots.ex T_NoPlots.gC T_NoPlots.kC (raises_own T_NoPlots.exC T_NoPlots.tyC)))) pss_nil)
      (pss_one (ps_if (pt_cmpR op_gt (pe_callB (call_lenK K) (by rfl) T_len b_len (pa_cons (pv 0) pa_nil)) (pe_glob (v := .int 16) rfl g_MOST_PARTINGS.choose_spec ⟨_, rfl⟩) (nomark _)) (pss_one (ps_raise rfl (takes_of rfl rfl rfl rfl) (pmk_e2 S_TooMany T_TooMany hr (pa_cons pe_str (pa_cons (pe_glob (v := .int 16) rfl g_MOST_PARTINGS.choose_spec ⟨_, rfl⟩) pa_nil))))) pss_nil))), ?_⟩
    refine ⟨_, rfl, a, xs, rfl, .inl (SqL.of ha), _, rfl, _, _, rfl, rfl, _, rfl, ?_⟩
    by_cases c : (xs.length : Int) < least
    · exact iteC (by simpa using c) (h1 c H (Same.refl _))
    · refine iteN (by simpa using c) ⟨_, rfl, a, xs, rfl, .inl (SqL.of ha), _, _, rfl, rfl, _, rfl, ?_⟩
      by_cases c2 : (xs.length : Int) > 16
      · exact iteC (by simpa using c2) ⟨_, _, rfl, fun d hd => h2 (by omega) (by omega) d _ (same_upd hd) upd_same⟩
      · exact iteN (by simpa using c2) (k (by omega) (by omega))
/-! ### check_counts -/
/-- a getter of a whole number: R tells it -/
def spNum (R : Hp → Addr → Int → Prop) : L2.Sp := fun vs H Q _ => ∃ (a : Addr) (n : Int), vs = [.ref a] ∧ R H a n ∧ Q (.int n) H
def spCounts (CU C : Addr) (R : Hp → Addr → Int → Prop) : L2.Sp := fun vs H Q E => ∃ (n : Int) (a : Addr) (xs : List V) (ms : List Int), vs = [.int n, .ref a] ∧ H a = some (.lst xs) ∧ Paired (fun m x => ∃ b dx fs, x = .ref b ∧ H b = some (.ins C dx fs) ∧ R H b m) ms xs ∧
  (ms.find? (fun m => decide (m ≠ n)) = none → Q .non H) ∧ (∀ m, ms.find? (fun m => decide (m ≠ n)) = some m → Unlike CU n m H E)
theorem find_take {α : Type} {p : α → Bool} {l : List α} {i : Nat} {x : α} (h : l[i]? = some x) (n : (l.take i).find? p = none) (hx : p x = true) : l.find? p = some x := by
  obtain ⟨hi, e⟩ := List.getElem?_eq_some_iff.mp h
  have e2 : l = l.take i ++ x :: l.drop (i + 1) := by
    rw [← e, List.getElem_cons_drop, List.take_append_drop]
  rw [e2, List.find?_append, n]
  simp [hx]
theorem sc_check_counts : FnScope ["plots", "things", "thing"] ["plots", "things"] (defScope s_check_counts) := ⟨rfl, rfl, rfl, by decide +kernel, rfl, by decide +kernel, by decide +kernel⟩

theorem ok_check_counts {C : Addr} {R : Hp → Addr → Int → Prop} (D : Glo K mg "check_counts" "check_counts" s_check_counts) (T_UnlikePlots : TxUnlike P K mg C_UnlikePlots I_UnlikePlots) (GP : CalP P w K mg base CX0 33 C "plots" (spNum R)) :
    Cal P w K mg base (L2.CX P w) 35 "check_counts" (spCounts C_UnlikePlots C R) := by
  refine D.calX sc_check_counts (fun _ _ _ _ _ _ us hl => match us, hl with | [_, _], _ => rfl) (fun vs H Q E h => ?_) (fun f cdv A outer s H vs Q E hr h => ?_)
  · obtain ⟨n, a, xs, ms, rfl, _⟩ := h; rfl
  · obtain ⟨n, a, xs, ms, rfl, ha, hp, k1, k2⟩ := h
    have hl := pLen hp
    refine ⟨_, (pss_one (ps_for (passes_of rfl) rfl (pi_listK K (pv 1)) (pg_name (i := 2) sc_check_counts.nd rfl (by first | exact Or.inl rfl | exact Or.inr rfl)) (pss_one (ps_if (pt_cmpR op_ne (pe_propR (pv 2) GP (hr.mono (by decide))) (pv 0) (nomark _)) (pss_one (ps_raise rfl (takes_of rfl rfl rfl rfl) (pmk_e2 S_UnlikePlots T_UnlikePlots hr (pa_cons (pv 0) (pa_cons (pe_propR (pv 2) GP (hr.mono (by decide))) pa_nil))))) pss_nil)))), ?_⟩
    refine ⟨_, rfl, a, rfl, ⟨_, SqL.of ha⟩, for_list (K := K) (a := a) (xs := xs) (fun i σ H' => H' = H ∧ (∃ o, σ = [some (.int n), some (.ref a), o]) ∧ (ms.take i).find? (fun m => decide (m ≠ n)) = none)
      ⟨rfl, ⟨_, rfl⟩, rfl⟩ (fun i σ H' _ ⟨e, _⟩ => e ▸ SqL.of ha) ?_ ?_⟩
    · rintro i x σ H' hx ⟨rfl, ⟨o, rfl⟩, hn⟩
      obtain ⟨m, hm, b, dx, fs, rfl, hb, hR⟩ := pGet2 hp hx
      refine ⟨_, rfl, b, dx, fs, rfl, hb, b, m, rfl, hR, _, rfl, rfl, _, rfl, ?_⟩
      by_cases c : m = n
      · refine iteN (by simpa using c) ⟨rfl, ⟨_, rfl⟩, ?_⟩
        rw [take_succ_get hm, List.find?_append, hn]
        simp [c]
      · refine iteC (by simpa using c) ⟨_, rfl, _, rfl, b, dx, fs, rfl, hb, b, m, rfl, hR, _, _, rfl, fun d hd => ?_⟩
        exact k2 m (find_take hm hn (by simpa using c)) d _ (same_upd hd) upd_same
    · rintro σ H' ⟨rfl, ⟨o, rfl⟩, hn⟩
      rw [← hl, List.take_length] at hn
      exact k1 hn
/-- .. of no things: an empty tuple -/
def spCounts0 : L2.Sp := fun vs H Q _ => ∃ (n : Int) (t : Addr), vs = [.int n, .ref t] ∧ SqT K H t [] ∧ Q .non H
theorem ok_check_counts0 {C : Addr} {R : Hp → Addr → Int → Prop} (D : Glo K mg "check_counts" "check_counts" s_check_counts) (T_UnlikePlots : TxUnlike P K mg C_UnlikePlots I_UnlikePlots) (GP : CalP P w K mg base CX0 33 C "plots" (spNum R)) :
    Cal P w K mg base (L2.CX P w) 35 "check_counts" (spCounts0 (K := K)) := by
  refine D.calX sc_check_counts (fun _ _ _ _ _ _ us hl => match us, hl with | [_, _], _ => rfl) (fun vs H Q E h => ?_) (fun f cdv A outer s H vs Q E hr h => ?_)
  · obtain ⟨n, t, rfl, _⟩ := h; rfl
  · obtain ⟨n, t, rfl, ht, k⟩ := h
    refine ⟨_, (pss_one (ps_for (passes_of rfl) rfl (pi_tupK K (pv 1)) (pg_name (i := 2) sc_check_counts.nd rfl (by first | exact Or.inl rfl | exact Or.inr rfl)) (pss_one (ps_if (pt_cmpR op_ne (pe_propR (pv 2) GP (hr.mono (by decide))) (pv 0) (nomark _)) (pss_one (ps_raise rfl (takes_of rfl rfl rfl rfl) (pmk_e2 S_UnlikePlots T_UnlikePlots hr (pa_cons (pv 0) (pa_cons (pe_propR (pv 2) GP (hr.mono (by decide))) pa_nil))))) pss_nil)))), ?_⟩
    refine ⟨_, rfl, t, rfl, ⟨_, ht⟩, for_tup (K := K) (a := t) (xs := []) (fun i σ H' => H' = H) rfl (fun i σ H' _ e => e ▸ ht) (fun i x σ H' hx _ => by simp at hx) (fun σ H' e => e ▸ k)⟩
theorem Cal.or {CX : CXT} {k : Nat} {x : Str} {sp sp' : L2.Sp} (C : Cal P w K mg base CX k x sp) (C' : Cal P w K mg base CX k x sp') : Cal P w K mg base CX k x (fun vs H Q E => sp vs H Q E ∨ sp' vs H Q E) := by
  obtain ⟨f, F, a, b⟩ := C.ok
  obtain ⟨f', F', _, b'⟩ := C'.ok
  rw [b] at b'
  cases b'
  exact ⟨f, fun A outer s H us vs Q E hr e0 r h => h.elim (F A outer s H us vs Q E hr e0 r) (F' A outer s H us vs Q E hr e0 r), a, b⟩

/-! ### Table -/
def isTab (CT : Addr) : RelH (List Rat) := fun H v qs => ∃ a dx t, v = .ref a ∧ H a = some (.ins CT dx [("cell_row", t)]) ∧ isT isQ H t qs
theorem mono_Tab {CT : Addr} : Mono (isTab CT) := fun _ _ _ _ s ⟨a, dx, t, e, h, q⟩ => ⟨a, dx, t, e, s _ _ h, mono_T mono_Q _ _ _ _ s q⟩
theorem monoN_Tab {CT : Addr} : MonoN (isTab CT) := fun _ _ _ _ s ⟨a, dx, t, e, h, q⟩ => ⟨a, dx, t, e, s _ _ h (fun _ z => by cases z), monoN_T monoN_Q _ _ _ _ s q⟩
def spTable_init (CT : Addr) : L2.Sp := fun vs H Q _ => ∃ (x dx a : Addr) (qs : List Rat), vs = [.ref x, .ref a] ∧ H x = some (.ins CT dx []) ∧ isL isNum (cut H x) (.ref a) qs ∧ 1 ≤ qs.length ∧ qs.length ≤ 16 ∧
  ∀ t H', Same (cut H x) (cut H' x) → H' x = some (.ins CT dx [("cell_row", t)]) → isT isQ (cut H' x) t qs → Q .non H'
/-- a method of the class at C: its def at f -/
structure MkT (K : PySem.W.Frag) (mg : Str → Option Value) (x q : Str) (C : Addr) (st : Stmt) (dvs : List V) : Prop where
  cls : Cls K C
  d : ∃ f, Def K f "__init__" q st dvs ∧ Mk K C f ∧ mg x = some (.ref C)
theorem sc_Table___init__ : FnScope ["self", "cells", "at", "number"] ["self", "cells"] (defScope s_Table___init__) := ⟨rfl, rfl, rfl, by decide +kernel, rfl, by decide +kernel, by decide +kernel⟩

theorem ok_Table_init (D : MkT K mg "Table" "Table.__init__" C_Table s_Table___init__ []) (nC : NoAttr K C_Table "cell_row") (ok_check_plots_tables : Cal P w K mg base (L2.CX P w) 33 "check_plots_tables" (spCheck C_NoPlots C_TooMany)) (ok_as_ratio : Cal P w K mg base CX0 37 "as_ratio" spAsRatio)
    (T_len : mg "len" = none) (T_tuple : mg "tuple" = none) (T_enumerate : mg "enumerate" = none) : CalM P w K mg base CX0 39 "Table" C_Table (spTable_init C_Table) := by
  have cT := D.cls
  obtain ⟨f, D, M, hm⟩ := D.d
  refine ⟨f, D.fnR0 sc_Table___init__ (fun _ _ _ _ _ _ us hl => match us, hl with | [_, _], _ => rfl) (fun vs H Q E h => ?_) (fun cdv A outer s H vs Q E hr h => ?_), M, hm⟩
  · obtain ⟨x, dx, a, qs, rfl, _⟩ := h; rfl
  · obtain ⟨x, dx, a, qs, rfl, hx, ⟨a', nvs, e, hA, hp⟩, h1, h16, k⟩ := h
    cases e
    obtain ⟨hax, hA'⟩ := cut_some hA
    have hl := pLen hp
    refine ⟨_, (pss_cons (ps_expr (pe_cal ok_check_plots_tables.calm (hr.mono (by decide)) (pa_cons (pe_callB (call_lenK K) (by rfl) T_len b_len (pa_cons (pv 1) pa_nil)) pa_nil)))
      (pss_one (ps_fld (pv 0) (pe_callTy (call_tupleK K) (by rfl) T_tuple b_tuple (pa_cons (pe_lc (own := [("at", 2), ("number", 3)]) (tt := tYes) (g := (gTup K 2 (gCons (gName 2) (gCons (gName 3) gNil)))) rfl sc_Table___init__.nd (pi_enumK K T_enumerate (pa_cons (pv 1) pa_nil)) (blkOk_by (N := ["self", "cells", "at", "number"]) (sc := defScope s_Table___init__) (by decide +kernel)) (fun _ _ _ _ _ => (pg_tup rfl (pgs_cons (pg_name (i := 2) sc_Table___init__.nd rfl (by first | exact Or.inl rfl | exact Or.inr rfl)) (pgs_cons (pg_name (i := 3) sc_Table___init__.nd rfl (by first | exact Or.inl rfl | exact Or.inr rfl)) pgs_nil)))) (fun _ _ _ _ _ => pts_nil) (fun _ _ _ _ _ => (pe_cal ok_as_ratio (hr.mono (by decide)) (pa_cons (pv 3) (pa_cons (pv 2) pa_nil))))) pa_nil)) rfl))), ?_⟩
    refine ⟨_, rfl, a, _, rfl, .inl (SqL.of hA'), _, rfl, fun c => absurd c (by omega), fun c => absurd c (by omega), fun _ _ => ?_⟩
    refine ⟨_, rfl, a, _, rfl, SqL.of hA', fun L hL => lcm (walk_enum (xs := nvs)) (fun i H v => ∃ q, qs[i]? = some q ∧ isQ H v q) hL (small_line (by omega)) (fun _ _ _ _ s ⟨q, h, r⟩ => ⟨q, h, mono_Q _ _ _ _ s r⟩)
          (fun H' s => s.seq (SqL.of hA')) (fun i y H1 H2 hi s o yy Q k => ?_) (fun H1 ys s hL' q => ?_)⟩
    · obtain ⟨t, x1, x2, rfl, ht, rfl, hx1, hx2⟩ := yy
      cases hx1
      obtain ⟨oD, hD⟩ := o
      obtain ⟨q, hq, rn⟩ := pGet2 hp hx2
      have s1 : Same H (upd H1 t (.tup [V.int i, x2])) := Same.upd (s.trans (same_cut _ _)) ht
      refine ⟨t, _, rfl, .inl (.inl upd_same), rfl, _, _, rfl, _, _, rfl, rfl, rfl, ?_⟩
      refine ⟨_, rfl, _, rfl, x2, q, i, rfl, mono_num _ _ _ _ ((same_cut H x).trans s1) rn, fun c H3 s3 hc hc3 => k _ _ ((same_upd ht).trans s3) ⟨q, hq, c, rfl, ?_⟩⟩
      rw [cut_ne]
      · exact hc3
      · exact new_ne (same_upd ht _ _ hD) hc
    · have hyl := pLen q
      rw [List.length_range] at hyl
      have s2 := s
      refine ⟨L, ys, rfl, .inl ⟨SqL.of hL', fun l hl2 => ?_⟩⟩
      have s3 : Same H (upd H1 l (.tup ys)) := Same.upd s hl2
      refine ⟨_, rfl, x, C_Table, dx, [], rfl, s3 _ _ hx, cT, nC, by show 0 < 1000; omega, ?_⟩
      have nl : l ≠ x := fun z => by rw [z, s _ _ hx] at hl2; cases hl2
      refine k (.ref l) _ ?_ upd_same ⟨l, ys, rfl, ?_, ?_⟩
      · rw [cut_upd]; exact Same.cut s3 x
      · rw [cut_upd, cut_ne nl]; exact upd_same
      · rw [cut_upd]
        refine pOf (by omega) fun j qv y hj hy => ?_
        obtain ⟨j', hj', q', h1', t2, rfl, ht2⟩ := pGet2 q hy
        have hj2 := (List.getElem?_eq_some_iff.mp hy).1
        rw [List.getElem?_range (by omega)] at hj'
        cases hj'
        rw [h1'] at hj
        cases hj
        refine ⟨t2, rfl, ?_⟩
        have n2 : t2 ≠ x := fun z => by rw [z, s _ _ hx] at ht2; cases ht2
        rw [cut_ne n2, upd_ne (ne_of_none ht2 hl2)]
        exact ht2
end
end K4
/-! K14: == of tuples of own things; own ==, != and |; the rest of Table. -/
namespace GQ
open PySem PySem.SeqAt
open AutoSeq1 (wpAny_loadPart')
open MeetsSeq MeetsSeq2 MeetsSeq3 SeqRoads2
section
variable {prog : Program} {w : World} {A : Around} {R : Result → Shared → Prop}
theorem tuple_eqB (l b : Addr) (items items2 : Array Value) (n n2 : Nat) (dd dd2 : Option Addr) (sl sl2 : Array (Option Value)) (I : Shared → Prop) (e : Nat → Bool)
    (turn : ∀ i (h1 : i < items.size) (h2 : i < items2.size) s, I s → wpAny (model prog w) A.in1 (eqBool items[i] items2[i]) (fun r s' => r = e i ∧ I s') (fun e s' => R (.error e) s') s)
    (fin : ∀ s, I s → R (.ok (.ret (.bool ((List.range (min items.size items2.size)).all e && items.size == items2.size)))) s) {s : Shared} (hl1 : s.heap.get? l = some { cls := .type "tuple", dict := dd, data := .seq items n, slots := sl }) (hb1 : s.heap.get? b = some { cls := .type "tuple", dict := dd2, data := .seq items2 n2, slots := sl2 }) (h : I s) :
    wpAny (model prog w) A.in1 (Builtin.«tuple.__eq__» ⟨[.ref l, .ref b], []⟩) (FinOf prog w A R) (fun e s' => R (.error e) s') s := by
  have f2 := AutoSeq1.sub_tuple_tuple
  have hZ : (items.toList.zip items2.toList).length = min items.size items2.size := by simp
  have h0 := h
  obtain ⟨hp, g, d, tk, os⟩ := s
  wp_walk using wpAny_loadPart' hl1, wpAny_loadPart' hb1, wpAny_forIn_list _ (fun rest b s' => b.1 = none ∧ I s' ∧ ∃ i, rest = (items.toList.zip items2.toList).drop i ∧ (List.range (min items.size items2.size)).all e = ((List.range (min items.size items2.size)).drop i).all e) _
  case turn =>
    rintro ⟨y, x⟩ rest b s' ⟨hb', hI, i, hz, hR⟩
    have hlt : i < (items.toList.zip items2.toList).length := by
      rcases Nat.lt_or_ge i (items.toList.zip items2.toList).length with h' | h'
      · exact h'
      · rw [List.drop_of_length_le h'] at hz; cases hz
    have hm : i < min items.size items2.size := hZ ▸ hlt
    have h1 : i < items.size := Nat.lt_of_lt_of_le hm (Nat.min_le_left _ _)
    have h2 : i < items2.size := Nat.lt_of_lt_of_le hm (Nat.min_le_right _ _)
    rw [List.drop_eq_getElem_cons hlt] at hz
    injection hz with hyx hrest
    have hy : y = items[i] := by have := congrArg Prod.fst hyx; simpa using this
    have hx : x = items2[i] := by have := congrArg Prod.snd hyx; simpa using this
    subst hy hx
    have hd : (List.range (min items.size items2.size)).drop i = i :: (List.range (min items.size items2.size)).drop (i + 1) := by simp [List.drop_eq_getElem_cons, hm]
    rw [hd, List.all_cons] at hR
    refine wpAny_bind (wpAny_mono (turn i h1 h2 s' hI) (fun r s2 q2 => ?_) fun _ _ x => x)
    obtain ⟨hr, q2⟩ := q2
    subst hr
    have hf := fin s2 q2
    rw [hR] at hf
    cases hy : e i with
    | true =>
      rw [hy] at hR hf
      wp_walk
      exact ⟨rfl, q2, i + 1, hrest, by simpa using hR⟩
    | false =>
      rw [hy] at hf
      wp_walk
      simpa using hf
  case fin =>
    rintro ⟨b1, b2⟩ s' ⟨hb', hI, i, hz, hR⟩
    simp only at hb'
    subst hb'
    have hge : min items.size items2.size ≤ i := by
      rcases Nat.lt_or_ge i (items.toList.zip items2.toList).length with h' | h'
      · rw [List.drop_eq_getElem_cons h'] at hz; cases hz
      · exact hZ ▸ h'
    have hf := fin s' hI
    rw [hR, List.drop_of_length_le (by simpa using hge)] at hf
    wp_walk
    simpa [Builtin.Tuple.tupleCompareSizes] using hf
  case h =>
    exact ⟨rfl, h0, 0, rfl, by simp⟩
end
section
variable {prog : Program} {w : World} {A : Around} {E : Value → Shared → Prop} {s : Shared}
theorem rc_tupB {l b : Addr} {items items2 : Array Value} {Q : Value → Shared → Prop} (hu : A.units < cLine) (I : Shared → Prop) (e : Nat → Bool)
    (hl : s.heap.IsTuple l items) (hb : s.heap.IsTuple b items2)
    (turn : ∀ i (h1 : i < items.size) (h2 : i < items2.size) s, I s → wpAny (model prog w) A.in1 (eqBool items[i] items2[i]) (fun r s' => r = e i ∧ I s') E s)
    (fin : ∀ s, I s → Q (.bool ((List.range (min items.size items2.size)).all e && items.size == items2.size)) s) (h : I s) : wpAny (model prog w) A (richCompare .Eq (.ref l) (.ref b)) Q E s := by
  obtain ⟨⟨cls, dd, data, sl⟩, ho, hc, n, hd⟩ := id hl
  obtain ⟨⟨cls2, dd2, data2, sl2⟩, ho2, hc2, n2, hd2⟩ := id hb
  simp only at hc hd hc2 hd2
  subst hc hd hc2 hd2
  refine wpAny_richCompare_same_room (op := .Eq) ⟨_, ho, rfl⟩ ⟨_, ho2, rfl⟩ F.slot_tuple_eq (call_here F.slot_tuple_eq ⟨_, ho, rfl⟩ F.entry_tuple_eq (F.args_tuple_eq_2 _ _) ?_) hu
  exact tuple_eqB (R := wants (fun v s' => v ≠ .notImplemented ∧ Q v s') E) l b items items2 n n2 dd dd2 sl sl2 I e turn (fun s' q => ⟨(fun x => nomatch x), fin s' q⟩) ho ho2 h
end
end GQ
namespace PySem.W
open PySem PySem.Spec PySem.Calls PyProof.Rows
section
variable {prog : Program} {w : World} {A : Around} {E : Value → Shared → Prop} {s : Shared} {K : Frag} {x C f : Addr} {ox : Obj} {od : Option Obj} {name : Str} {b tb : Value}
theorem ifBound_B {M : Model} {args : List Value} {id : String} {Q : Option Value → Shared → Prop} (X : K.In s.heap) (I : InstAt s.heap x ox C od) (hs : findIn K (.ref C) name = some (some (.builtin id))) (hb : bindSpecial (.builtin id) (.ref x) = pure (.builtin id, [.ref x]))
    (h : wpAny M A (call (.builtin id) (.ref x :: args)) (fun v => Q (some v)) E s) : wpAny M A (callSpecialIfBound? (.ref x) name args) Q E s := by
  simp only [callSpecialIfBound?, bindSpecialIfBound?]
  refine wpAny_holding (wpAny_bind (wpAny_bind (wpAny_bind (I.type.here ((looks_findIn X hs).here ?_)))))
  simp only [hb]
  refine wpAny_bind (wpAny_askSetting (wpAny_ite ?_))
  have fin : wpAny M A (call (.builtin id) ([.ref x] ++ args) >>= fun v => pure (some v)) Q E s := wpAny_bind (wpAny_mono h (fun v s' h' => wpAny_pure h') fun _ _ h' => h')
  split
  · exact wpAny_bind (wpAny_pure (wpAny_pure fin))
  · exact wpAny_tryCatch (wpAny_bind (wpAny_pure (wpAny_pure fin)))
/-- x != y where the class has __eq__ alone -/
theorem ne_K {Q : Value → Shared → Prop} (hu : A.units + 1 < cLine) (X : K.In s.heap) (I : InstAt s.heap x ox C od) (hb : Looks (model prog w) s.heap (typeOf b) tb) (hn : notFirst K C tb = true)
    (hne : findIn K (.ref C) "__ne__" = some (some (.builtin "object.__ne__"))) (hm : mroIn K C (.type "object") = some true) (hs : findIn K (.ref C) "__eq__" = some (some (.ref f))) (hf : isFn K (.ref f) = true)
    (h : wpAny (model prog w) A.in1 (call (.ref f) [.ref x, b]) (fun v s' => ∃ r, v = .bool r ∧ Q (.bool (!r)) s') E s) : wpAny (model prog w) A (richCompare .NotEq (.ref x) b) Q E s := by
  have ent : ∀ {P : Fin → Shared → Prop}, wpAny (model prog w) A.in1 (call (.ref f) [.ref x, b]) (fun v s' => ∃ r, v = .bool r ∧ P (.done (.ret (.bool (!r)))) s') E s → wpAny (model prog w) A.in1 (Builtin.«object.__ne__» ⟨[.ref x, b], []⟩) P E s := fun {P} h => by
    unfold Builtin.«object.__ne__»
    repeat (first
      | with_reducible refine wpAny_cRoomFor hu ?_
      | (refine wpAny_bind (m := callSpecialIfBound? (.ref x) (Str.ofString "__eq__") [b])
          (ifBound_K X I hs hf (wpAny_mono h (fun r s' hr => by
            obtain ⟨b, rfl, hq⟩ := hr
            repeat (first | exact hq | exact wpAny_pure hq | exact wpAny_truthy_bool hq | (refine wpAny_bind (m := truthy (.bool _)) (wpAny_truthy_bool ?_)) | wp_step)) fun _ _ e => e)))
      | wp_step)
  have one : wpAny (model prog w) A (tryCompare (.ref x) "__ne__" b) (fun r s' => ∃ v, r = some v ∧ Q v s') E s := by
    unfold tryCompare
    have sub : Looks (model prog w) s.heap (isInstance (.ref x) (.type "object")) true := I.type.andThen (looks_mroIn X hm)
    refine wpAny_bind (ifBound_B X I hne (PySem.F.cmp_object.ne.bind _) (wpAny_call (codeAny_call_builtin PySem.F.cmp_object.ne.plain PySem.F.cmpEntry_ne (check_slot PySem.F.cmpKind_ne PySem.F.cmpSplit_ne sub (PySem.F.cmpArgs_ne _ _) (ent (wpAny_mono h (fun v s' hv => ?_) fun _ _ e => e))))))
    obtain ⟨r, rfl, hq⟩ := hv
    first | exact ⟨r, rfl, wpAny_pure ⟨_, rfl, hq⟩⟩ | exact ⟨r, rfl, wpAny_pure (wpAny_pure ⟨_, rfl, hq⟩)⟩
  unfold richCompare
  simp only [oneThing_ref]
  refine wpAny_holding (wpAny_bind (wpAny_cRoomFor (Nat.lt_of_succ_lt hu) ?_))
  rw [PySem.cmpInfo_NotEq]
  dsimp only
  refine wpAny_bind (I.type.here (wpAny_bind (hb.here ?_)))
  split
  · rename_i q
    have e : subIn K tb (.ref C) = some false := by
      rcases Bool.or_eq_true_iff.mp hn with e | e
      · rw [beq_iff_eq.mp e] at q; simp at q
      · exact beq_iff_eq.mp e
    refine wpAny_bind ((looks_subIn X e).here ?_)
    simp only [Bool.false_eq_true, if_false]
    refine wpAny_bind (wpAny_mono one (fun r s' z => ?_) fun _ _ e => e)
    obtain ⟨v, rfl, hq⟩ := z
    exact wpAny_pure hq
  · refine wpAny_bind (wpAny_pure ?_)
    simp only [Bool.false_eq_true, if_false]
    refine wpAny_bind (wpAny_mono one (fun r s' z => ?_) fun _ _ e => e)
    obtain ⟨v, rfl, hq⟩ := z
    exact wpAny_pure hq
end
end PySem.W
namespace K4
open PySem PySem.Spec PyProof.Rows L2 StX
open M4 (Bd)
section
variable {P : Program} {w : World} {K : PySem.W.Frag} {mg : Str → Option Value} {base : Heap} {C_Table : Addr}
/-! ### data -/
def qd (q : Rat) : PyData := .tuple [.int q.num, .int q.den]
def td (qs : List Rat) : PyData := .tuple (qs.map qd)
theorem dp_q {H : Hp} {v : V} {q : Rat} (h : isQ H v q) : Dp K H v (qd q) := by
  obtain ⟨a, rfl, h⟩ := h
  exact .tup (.inl (.inl h)) (.cons (.int _) (.cons (.int _) .nil))
theorem dp_all {α : Type} {H : Hp} {R : RelH α} {f : α → PyData} (k : ∀ v x, R H v x → Dp K H v (f x)) : ∀ {xs : List α} {vs : List V}, Paired (fun x v => R H v x) xs vs → DpAll K H vs (xs.map f)
  | _, _, .nil => .nil
  | _, _, .cons r t => .cons (k _ _ r) (dp_all k t)
theorem dp_T {H : Hp} {v : V} {qs : List Rat} (h : isT isQ H v qs) : Dp K H v (td qs) := by
  obtain ⟨a, vs, rfl, h, p⟩ := h
  exact .tup (.inl (.inl h)) (dp_all (fun _ _ => dp_q) p)
theorem rat_eqv (q r : Rat) : PyData.eqv (qd q) (qd r) = decide (q = r) := by
  have e : PyData.eqv (qd q) (qd r) = ((q.num == r.num) && (((q.den : Int) == (r.den : Int)) && true)) := by
    unfold qd
    simp [PyData.eqv, PyData.eqvAll]
  rw [e, Bool.and_true]
  by_cases h : q = r
  · subst h; simp
  · have : ¬ (q.num = r.num ∧ q.den = r.den) := fun z => h (Rat.ext z.1 z.2)
    simp only [h, decide_false]
    by_cases hn : q.num = r.num
    · have hd : q.den ≠ r.den := fun z => this ⟨hn, z⟩
      simp [hn]; omega
    · simp [hn]
theorem eqv_all {α : Type} [DecidableEq α] {f : α → PyData} (h : ∀ x y, PyData.eqv (f x) (f y) = decide (x = y)) : ∀ xs ys : List α, PyData.eqvAll (xs.map f) (ys.map f) = decide (xs = ys)
  | [], [] => by simp [PyData.eqvAll]
  | [], _ :: _ => by simp [PyData.eqvAll]
  | _ :: _, [] => by simp [PyData.eqvAll]
  | x :: xs, y :: ys => by
    rw [List.map_cons, List.map_cons, PyData.eqvAll, h, eqv_all h xs ys]
    by_cases e : x = y <;> by_cases e2 : xs = ys <;> simp [e, e2]
theorem td_eqv (qs rs : List Rat) : PyData.eqv (td qs) (td rs) = decide (qs = rs) := by
  unfold td
  rw [PyData.eqv]
  exact eqv_all rat_eqv qs rs
theorem can_all {α : Type} {f : α → PyData} (h : ∀ x, (f x).canLay0 = true) : ∀ xs : List α, PyData.canLayAll0 (xs.map f) = true
  | [] => by simp [PyData.canLayAll0]
  | x :: xs => by rw [List.map_cons, PyData.canLayAll0, h, can_all h xs]; rfl
theorem depth_all {α : Type} {f : α → PyData} {n : Nat} (h : ∀ x, (f x).depth ≤ n) : ∀ xs : List α, PyData.depthAll (xs.map f) ≤ n
  | [] => by simp [PyData.depthAll]
  | x :: xs => by
    have := depth_all h xs
    have := h x
    rw [List.map_cons, PyData.depthAll]
    omega
theorem shaped_q (q : Rat) : SeqAt.shaped (qd q) = true := by
  unfold SeqAt.shaped qd
  simp [PyData.canLay0, PyData.canLayAll0, PyData.depth, PyData.depthAll]
theorem shaped_T (qs : List Rat) : SeqAt.shaped (td qs) = true := by
  have h1 : ∀ q, (qd q).canLay0 = true := fun q => SeqAt.canLay_of_shaped (shaped_q q)
  have h2 : ∀ q, (qd q).depth ≤ 1 := fun q => by unfold qd; simp [PyData.depth, PyData.depthAll]
  have h3 := can_all h1 qs
  have h4 := depth_all h2 qs
  unfold SeqAt.shaped td
  rw [PyData.canLay0, PyData.depth, h3]
  simp; omega
end
end K4
/-! K15: operators of own classes; the rest of Table. -/
namespace K4
open PySem PySem.Spec PyProof.Rows L2 StX
open M4 (Bd)
/-! ### own == , != and | -/
/-- the other side: an instance or a list -/
inductive Oth (K : PySem.W.Frag) (H : Hp) : V → Value → Prop
  | ins {b C dx : Addr} {fs : List (Str × V)} (e : H b = some (.ins C dx fs)) : Oth K H (.ref b) (.ref C)
  | lst {b : Addr} {xs : List V} (e : H b = some (.lst xs)) : Oth K H (.ref b) (.type "list")
section
variable {X : Cx} {CX : CXT} {pins : List (Addr × Obj)} {σ : L2.St} {H : Hp} {s : Shared} {C f : Addr} {k : Nat} {sp : L2.Sp} {E : XK}
theorem Oth.looks {M : Model} {v : V} {u tb : Value} (I : Inv X pins σ H s) (o : Oth X.K H v tb) (r : RelV v u) : PySem.W.Looks M s.heap (typeOf u) tb := by
  cases o with
  | @ins b C dx fs e =>
    cases r
    obtain ⟨mA, O, _⟩ := ins_get I.hok e
    obtain ⟨od, J, _⟩ := O.look
    exact J.type
  | @lst b xs e =>
    cases r
    obtain ⟨_, _, n, _, h1⟩ := (show ObjOk X.prog X.w H s.heap b (.lst xs) from I.hok b _ e)
    exact fun A Q E s k q => wpAny_typeOf_ref (k _ _ h1) q
/-- x == y, by the own __eq__ of x's class -/
def rEqO (K : PySem.W.Frag) (C : Addr) (sp : L2.Sp) (E : XK) : R2 := fun x y H Q => ∃ a dx fs tb, x = .ref a ∧ H a = some (.ins C dx fs) ∧ Oth K H y tb ∧ PySem.W.notFirst K C tb = true ∧ sp [x, y] H Q E
theorem op_eqO (hs : PySem.W.findIn X.K (.ref C) "__eq__" = some (some (.ref f))) (hf : PySem.W.isFn X.K (.ref f) = true) (F : FnR X.prog X.w X.K X.mg X.base CX k f sp) (hr : Room k X.A) (hx : Passes CX X E) : OpR X (compareOp .Eq) (rEqO X.K C sp E) := by
  intro pins s σ H x y v u Q I rx ry h
  obtain ⟨a, dx, fs, tb, rfl, ha, ho, hn, q⟩ := h
  cases (show v = Value.ref a from rx)
  obtain ⟨mA, O, _⟩ := ins_get I.hok ha
  obtain ⟨od, J, _⟩ := O.look
  obtain ⟨m, hF⟩ := I.fr
  show wpAny _ _ (richCompare .Eq _ _) _ _ _
  refine PySem.W.cmp_K (op := .Eq) hr.units0 hF I.ok.mod.kin J (ho.looks I ry) hn hs hf ?_
  refine wpAny_mono (wpAny_call (run_fnR (us := [.ref a, u]) (vs := [.ref a, y]) F hr hx I (.cons rfl (.cons ry .nil)) q)) (fun w s' z => ?_) fun _ _ x => x
  obtain ⟨z', H', I', rz, qz⟩ := z
  exact SlX.cmpback rz ⟨z', H', I', rz, qz⟩
/-- x != y, by the own __eq__ of x's class, which gives a truth value -/
def rNeO (K : PySem.W.Frag) (C : Addr) (sp : L2.Sp) (E : XK) : R2 := fun x y H Q => ∃ a dx fs tb, x = .ref a ∧ H a = some (.ins C dx fs) ∧ Oth K H y tb ∧ PySem.W.notFirst K C tb = true ∧ sp [x, y] H (fun v H' => ∃ b, v = .bl b ∧ Q (.bl (!b)) H') E
theorem op_neO (hs : PySem.W.findIn X.K (.ref C) "__eq__" = some (some (.ref f))) (hf : PySem.W.isFn X.K (.ref f) = true) (hne : PySem.W.findIn X.K (.ref C) "__ne__" = some (some (.builtin "object.__ne__"))) (hm : PySem.W.mroIn X.K C (.type "object") = some true)
    (F : FnR X.prog X.w X.K X.mg X.base CX0 k f sp) (hr : Room (k + 1) X.A) : OpR X (compareOp .NotEq) (rNeO X.K C sp (fun _ _ _ => False)) := by
  intro pins s σ H x y v u Q I rx ry h
  obtain ⟨a, dx, fs, tb, rfl, ha, ho, hn, q⟩ := h
  cases (show v = Value.ref a from rx)
  obtain ⟨mA, O, _⟩ := ins_get I.hok ha
  obtain ⟨od, J, _⟩ := O.look
  show wpAny _ _ (richCompare .NotEq _ _) _ _ _
  refine PySem.W.ne_K (by have := hr.un; omega) I.kIn J (ho.looks I ry) hn hne hm hs hf ?_
  refine wpAny_mono (wpAny_call (codeAny_mono (F X.A.in1 X.stack s H [.ref a, u] [.ref a, y] _ _ hr.in1 I.env0.in1 (.cons rfl (.cons ry .nil)) q) fun r s' hq => ?_)) (fun w s' z => z) fun _ _ x => x
  cases r with
  | error e => exact False.elim hq
  | ok fl =>
    cases fl with
    | ret w =>
      obtain ⟨z', H', I', rz, b, rfl, qz⟩ := I.after hq
      cases (show w = Value.bool b from rz)
      exact ⟨b, rfl, .bl (!b), H', I', rfl, qz⟩
    | next => exact False.elim hq
    | brk => exact False.elim hq
    | cont => exact False.elim hq
/-- x | y, two instances of one class -/
def rOrO (C : Addr) (sp : L2.Sp) (E : XK) : R2 := fun x y H Q => ∃ a dx fs b dy gs, x = .ref a ∧ y = .ref b ∧ H a = some (.ins C dx fs) ∧ H b = some (.ins C dy gs) ∧ sp [x, y] H Q E
theorem op_orO (hc : PySem.W.selfFirst X.K C = true) (hs : PySem.W.findIn X.K (.ref C) "__or__" = some (some (.ref f))) (hf : PySem.W.isFn X.K (.ref f) = true) (F : FnR X.prog X.w X.K X.mg X.base CX k f sp) (hr : Room k X.A) (hx : Passes CX X E) : OpR X (binaryOp .BitOr) (rOrO C sp E) := by
  intro pins s σ H x y v u Q I rx ry h
  obtain ⟨a, dx, fs, b, dy, gs, rfl, rfl, ha, hb, q⟩ := h
  cases (show v = Value.ref a from rx)
  have ry' := ry
  cases (show u = Value.ref b from ry)
  obtain ⟨mA, O, _⟩ := ins_get I.hok ha
  obtain ⟨od, J, _⟩ := O.look
  obtain ⟨m, hF⟩ := I.fr
  refine PySem.W.binop_K (op := .BitOr) hF I.ok.mod.kin J (Oth.looks I (.ins hb) ry') hc hs hf ?_
  refine wpAny_mono (wpAny_call (run_fnR (us := [.ref a, .ref b]) (vs := [.ref a, .ref b]) F hr hx I (.cons rfl (.cons rfl .nil)) q)) (fun w s' z => ?_) fun _ _ x => x
  obtain ⟨z', H', I', rz, qz⟩ := z
  exact SlX.cmpback rz ⟨z', H', I', rz, qz⟩
end
/-! ### == of two tuples of instances -/
section
variable {X : Cx} {C f : Addr} {k : Nat} {sp : L2.Sp}
def rEqTs {α : Type} [DecidableEq α] (K : PySem.W.Frag) (R : RelH α) : R2 := fun x y H Q => ∃ xs ys, isT R H x xs ∧ isT R H y ys ∧ Q (.bl (decide (xs = ys))) H
theorem all_eq {α : Type} [DecidableEq α] (xs ys : List α) (e : Nat → Bool) (h : ∀ i x y, xs[i]? = some x → ys[i]? = some y → e i = decide (x = y)) : ((List.range (min xs.length ys.length)).all e && (xs.length == ys.length)) = decide (xs = ys) := by
  by_cases q : xs = ys
  · subst q
    simp only [Nat.min_self, beq_self_eq_true, Bool.and_true, decide_true]
    refine List.all_eq_true.mpr fun i hi => ?_
    have hi' := List.mem_range.mp hi
    rw [h i _ _ (List.getElem?_eq_getElem hi') (List.getElem?_eq_getElem hi')]
    simp
  · have : ((List.range (min xs.length ys.length)).all e && (xs.length == ys.length)) = false := by
      cases z : ((List.range (min xs.length ys.length)).all e && (xs.length == ys.length)) with
      | false => rfl
      | true =>
        obtain ⟨z1, z2⟩ := Bool.and_eq_true_iff.mp z
        have hl := beq_iff_eq.mp z2
        refine absurd (List.ext_getElem hl fun i h1 h2 => ?_) q
        have := List.all_eq_true.mp z1 i (List.mem_range.mpr (by omega))
        rw [h i _ _ (List.getElem?_eq_getElem h1) (List.getElem?_eq_getElem h2)] at this
        exact of_decide_eq_true this
    rw [this]; simp [q]
theorem op_eqTs {α : Type} [DecidableEq α] {R : RelH α} (hR : ∀ H v x, R H v x → ∃ a dx fs, v = .ref a ∧ H a = some (.ins C dx fs)) (inj : ∀ H v x y, R H v x → R H v y → x = y) (hs : PySem.W.findIn X.K (.ref C) "__eq__" = some (some (.ref f))) (hf : PySem.W.isFn X.K (.ref f) = true)
    (F : FnR X.prog X.w X.K X.mg X.base CX0 k f sp) (hsp : ∀ v u x y H Q E, R H v x → R H u y → Q (.bl (decide (x = y))) H → sp [v, u] H Q E) (hr : Room (k + 1) X.A) : OpR X (compareOp .Eq) (rEqTs X.K R) := by
  intro pins s σ H x y v u Q I rx ry h
  obtain ⟨xs, ys, ⟨a, vs, rfl, ha, hp⟩, ⟨b, us, rfl, hb, hq⟩, q⟩ := h
  cases (show v = Value.ref a from rx)
  cases (show u = Value.ref b from ry)
  obtain ⟨its, rv, p1, _⟩ := I.tuple (.inl (.inl ha))
  obtain ⟨its2, ru, p2, _⟩ := I.tuple (.inl (.inl hb))
  have hu := hr.in1.un
  have hu2 : X.A.units + 1 + 16 * k + 200 < cLine := hu
  have key : ∀ (i : Nat) (x y : α), xs[i]? = some x → ys[i]? = some y → (match xs[i]?, ys[i]? with | some x, some y => decide (x = y) | _, _ => true) = decide (x = y) := fun i x y h1 h2 => by rw [h1, h2]
  show wpAny _ _ (richCompare .Eq _ _) _ _ _
  refine GQ.rc_tupB (s := s) (items := its.toArray) (items2 := its2.toArray) (by omega) (fun s' => Inv X pins σ H s') (fun i => match xs[i]?, ys[i]? with | some x, some y => decide (x = y) | _, _ => true) ?_ ?_ (fun i h1 h2 s' J => ?_) (fun s' J => ?_) I
  · obtain ⟨o, h1, h2, n, h3⟩ := p1
    exact ⟨o, h1, h2, n, h3⟩
  · obtain ⟨o, h1, h2, n, h3⟩ := p2
    exact ⟨o, h1, h2, n, h3⟩
  · have l1 : i < its.length := by simpa using h1
    have l2 : i < its2.length := by simpa using h2
    have e1 := pLen hp
    have e2 := pLen hq
    have e3 := rv.length
    have e4 := ru.length
    obtain ⟨v1, g1, r1⟩ := pGet hp (List.getElem?_eq_getElem (show i < xs.length by omega))
    obtain ⟨v2, g2, r2⟩ := pGet hq (List.getElem?_eq_getElem (show i < ys.length by omega))
    obtain ⟨w1, k1, t1⟩ := rv.get g1
    obtain ⟨w2, k2, t2⟩ := ru.get g2
    have a1 : its.toArray[i] = w1 := by
      have := (List.getElem?_eq_some_iff.mp k1).2
      simpa using this
    have a2 : its2.toArray[i] = w2 := by
      have := (List.getElem?_eq_some_iff.mp k2).2
      simpa using this
    rw [a1, a2, List.getElem?_eq_getElem (show i < xs.length by omega), List.getElem?_eq_getElem (show i < ys.length by omega)]
    obtain ⟨c1, dx1, fs1, rfl, hc1⟩ := hR _ _ _ r1
    obtain ⟨c2, dx2, fs2, rfl, hc2⟩ := hR _ _ _ r2
    cases t1
    cases t2
    by_cases hne : c1 = c2
    · subst hne
      have := inj _ _ _ _ r1 r2
      have hb : decide (xs[i]'(by omega) = ys[i]'(by omega)) = true := by simpa using this
      exact SeqAt.EqAt.same (.ref c1) _ _ _ _ ⟨hb.symm, J⟩
    · refine GQ.eqBool_refG hne ?_
      obtain ⟨mA, O, _⟩ := ins_get J.hok hc1
      obtain ⟨od, JI, _⟩ := O.look
      obtain ⟨m, hF⟩ := J.fr
      refine PySem.W.cmp_K (op := .Eq) (by show X.A.units + 1 < cLine; omega) hF J.ok.mod.kin JI (Oth.looks J (.ins hc2) rfl) (by unfold PySem.W.notFirst; simp) hs hf ?_
      refine wpAny_mono (wpAny_call (codeAny_mono (F X.A.in1 X.stack s' H [.ref c1, .ref c2] [.ref c1, .ref c2] (fun v H' => H' = H ∧ v = .bl (decide (xs[i]'(by omega) = ys[i]'(by omega)))) (fun _ _ _ => False) hr.in1 J.env0.in1 (.cons rfl (.cons rfl .nil)) (by exact hsp _ _ _ _ _ _ _ r1 r2 ⟨rfl, rfl⟩)) fun r s2 hq2 => ?_)) (fun w s2 z => z) fun _ _ x => x
      cases r with
      | error e => exact False.elim hq2
      | ok fl =>
        cases fl with
        | ret w =>
          obtain ⟨z', H', I', rz, rfl, rfl⟩ := J.after hq2
          cases (show w = Value.bool _ from rz)
          exact ⟨_, rfl, rfl, I'⟩
        | next => exact False.elim hq2
        | brk => exact False.elim hq2
        | cont => exact False.elim hq2
  · have e1 := pLen hp
    have e2 := pLen hq
    have e3 := rv.length
    have e4 := ru.length
    have fin := all_eq xs ys _ key
    rw [List.size_toArray, List.size_toArray, ← e3, ← e4, ← e1, ← e2, fin]
    exact ⟨.bl _, H, J, rfl, q⟩
end
/-! ### the rest of Table -/
section
variable {P : Program} {w : World} {K : PySem.W.Frag} {mg : Str → Option Value} {base : Heap} {C_NoPlots C_TooMany I_TooMany C_Table : Addr}
/-- a getter -/
structure PrD (K : PySem.W.Frag) (C : Addr) (f q : Str) (st : Stmt) : Prop where
  cls : Cls K C
  d : ∃ p g, PropOf K C f p g ∧ Def K g f q st []
def RTab (CT : Addr) : Hp → Addr → Int → Prop := fun H a n => ∃ dx t vs, H a = some (.ins CT dx [("cell_row", .ref t)]) ∧ H t = some (.tup vs) ∧ n = vs.length
theorem rTab {H : Hp} {a : Addr} {qs : List Rat} (h : isTab C_Table H (.ref a) qs) : RTab C_Table H a qs.length := by
  obtain ⟨a', dx, t, e, ha, ⟨t', vs, rfl, ht, p⟩⟩ := h
  cases e
  exact ⟨dx, t', vs, ha, ht, by rw [pLen p]⟩
theorem sc_Table_plots : FnScope ["self"] ["self"] (defScope s_Table_plots) := ⟨rfl, rfl, rfl, by decide +kernel, rfl, by decide +kernel, by decide +kernel⟩

theorem ok_Table_plots (D : PrD K C_Table "plots" "Table.plots" s_Table_plots) (nC : NoAttr K C_Table "cell_row") (T_len : mg "len" = none) : CalP P w K mg base CX0 33 C_Table "plots" (spNum (RTab C_Table)) := by
  have cT := D.cls
  obtain ⟨p, g, hp, D⟩ := D.d
  refine ⟨cT, p, g, hp, D.fnR0 sc_Table_plots (fun _ _ _ _ _ _ us hl => match us, hl with | [_], _ => rfl) (fun vs H Q E h => ?_) (fun cdv A outer s H vs Q E hr h => ?_)⟩
  · obtain ⟨a, n, rfl, _⟩ := h; rfl
  · obtain ⟨a, n, rfl, ⟨dx, t, vs, ha, ht, rfl⟩, k⟩ := h
    refine ⟨_, (pss_one (ps_ret (pe_callB (call_lenK K) (by rfl) T_len b_len (pa_cons (pe_fldK K (pv 0)) pa_nil)))), ?_⟩
    exact ⟨_, rfl, a, C_Table, dx, _, .ref t, rfl, ha, cT, nC, rfl, t, vs, rfl, .inr (.inl (.inl ht)), k⟩
/-- a getter of a field -/
def spFldOf (C : Addr) (f : Str) : L2.Sp := fun vs H Q _ => ∃ (a dx : Addr) (fs : List (Str × V)) (v : V), vs = [.ref a] ∧ H a = some (.ins C dx fs) ∧ fs.lookup f = some v ∧ Q v H
theorem sc_Table_cells : FnScope ["self"] ["self"] (defScope s_Table_cells) := ⟨rfl, rfl, rfl, by decide +kernel, rfl, by decide +kernel, by decide +kernel⟩

theorem ok_Table_cells (D : PrD K C_Table "cells" "Table.cells" s_Table_cells) (nC : NoAttr K C_Table "cell_row") : CalP P w K mg base CX0 33 C_Table "cells" (spFldOf C_Table "cell_row") := by
  have cT := D.cls
  obtain ⟨p, g, hp, D⟩ := D.d
  refine ⟨cT, p, g, hp, D.fnR0 sc_Table_cells (fun _ _ _ _ _ _ us hl => match us, hl with | [_], _ => rfl) (fun vs H Q E h => ?_) (fun cdv A outer s H vs Q E hr h => ?_)⟩
  · obtain ⟨a, dx, fs, v, rfl, _⟩ := h; rfl
  · obtain ⟨a, dx, fs, v, rfl, ha, hl, k⟩ := h
    refine ⟨_, (pss_one (ps_ret (pe_fldK K (pv 0)))), ?_⟩
    exact ⟨_, rfl, a, C_Table, dx, fs, v, rfl, ha, cT, nC, hl, k⟩
end
end K4
/-! K16: Table.zeros, Table == Table; labels. -/
namespace K4
open PySem PySem.Spec PyProof.Rows L2 StX
open M4 (Bd)
section
variable {P : Program} {w : World} {K : PySem.W.Frag} {mg : Str → Option Value} {base : Heap} {C_NoPlots C_TooMany I_TooMany C_Table : Addr}
/-- a classmethod of the class C -/
structure CalC (P : Program) (w : World) (K : PySem.W.Frag) (mg : Str → Option Value) (base : Heap) (CX : CXT) (k : Nat) (C : Addr) (m : Str) (sp : L2.Sp) : Prop where
  ok : ∃ mc p g, ClX.CRead K C mc ∧ ClX.CMet K C mc m p g ∧ FnR P w K mg base CX k g sp
structure CmD (K : PySem.W.Frag) (C : Addr) (m q : Str) (st : Stmt) : Prop where
  d : ∃ mc p g, ClX.CRead K C mc ∧ ClX.CMet K C mc m p g ∧ Def K g m q st []
def spZeros (CT : Addr) : L2.Sp := fun vs H Q _ => ∃ n : Nat, vs = [.ref CT, .int n] ∧ 1 ≤ n ∧ n ≤ 16 ∧ ∀ a H', Same H H' → (H a = none) → isTab CT H' (.ref a) (List.replicate n 0) → Q (.ref a) H'
theorem same_made {H H' : Hp} {x dx C : Addr} (hx : H x = none) (hd : H dx = none) (hne : dx ≠ x) (s : Same (cut (upd (upd H dx (.own x)) x (.ins C dx [])) x) (cut H' x)) : Same H H' := fun b o e => by
  have hb : b ≠ x := ne_of_none e hx
  have hb2 : b ≠ dx := ne_of_none e hd
  have := s b o (by rw [cut_ne hb, upd_ne hb, upd_ne hb2]; exact e)
  exact (cut_some this).2
theorem sc_Table_zeros : FnScope ["cls", "plots", "spare"] ["cls", "plots"] (defScope s_Table_zeros) := ⟨rfl, rfl, rfl, by decide +kernel, rfl, by decide +kernel, by decide +kernel⟩

theorem ok_Table_zeros (D : CmD K C_Table "zeros" "Table.zeros" s_Table_zeros) (ok_check_plots_tables : Cal P w K mg base (L2.CX P w) 33 "check_plots_tables" (spCheck C_NoPlots C_TooMany)) (ok_Table : CalM P w K mg base CX0 39 "Table" C_Table (spTable_init C_Table)) (T_range : mg "range" = none) :
    CalC P w K mg base CX0 41 C_Table "zeros" (spZeros C_Table) := by
  obtain ⟨mc, p, g, h1, h2, D⟩ := D.d
  refine ⟨mc, p, g, h1, h2, D.fnR0 sc_Table_zeros (fun _ _ _ _ _ _ us hl => match us, hl with | [_, _], _ => rfl) (fun vs H Q E h => ?_) (fun cdv A outer s H vs Q E hr h => ?_)⟩
  · obtain ⟨n, rfl, _⟩ := h; rfl
  · obtain ⟨n, rfl, l1, l16, k⟩ := h
    refine ⟨_, (pss_cons (ps_expr (pe_cal ok_check_plots_tables.calm (hr.mono (by decide)) (pa_cons (pv 1) pa_nil)))
      (pss_one (ps_ret (pe_mkV (i := 0) ok_Table (hr.mono (by decide)) rfl (Or.inl rfl) (pa_cons (pe_lc (own := [("spare", 2)]) (tt := tYes) (g := (gName 2)) rfl sc_Table_zeros.nd (pi_range1 (by rfl) T_range (pa_cons (pv 1) pa_nil)) (blkOk_by (N := ["cls", "plots", "spare"]) (sc := defScope s_Table_zeros) (by decide +kernel)) (fun _ _ _ _ _ => (pg_name (i := 2) sc_Table_zeros.nd rfl (by first | exact Or.inl rfl | exact Or.inr rfl))) (fun _ _ _ _ _ => pts_nil) (fun _ _ _ _ _ => pe_int)) pa_nil))))), ?_⟩
    refine ⟨_, rfl, n, rfl, fun c => absurd c (by omega), fun c => absurd c (by omega), fun _ _ => ?_⟩
    refine ⟨rfl, _, rfl, n, rfl, by omega, by omega, fun L hL => lcm (walk_range (lo := 0) (n := (n : Int).toNat)) (fun i _ v => v = V.int 0) hL (small_line (by omega)) (fun _ _ _ _ _ q => q) (fun _ _ => trivial) (fun i y H1 H2 hi s o yy Q k => ?_) (fun H1 ys s hL' q => ?_)⟩
    · obtain ⟨rfl, rfl⟩ := yy
      exact ⟨rfl, k _ _ (Same.refl _) rfl⟩
    · have ey : ys = List.replicate n (V.int 0) := by
        rw [pEqMap q]
        refine List.ext_getElem (by simp) fun i h1 h2 => by simp
      intro x dx hx hd hne
      refine ⟨x, dx, L, List.replicate n 0, rfl, upd_same, ?_, by simpa using l1, by simpa using l16, fun t H3 s3 hx3 hq3 => ⟨rfl, ?_⟩⟩
      · refine ⟨L, ys, rfl, ?_, ?_⟩
        · have n1 : L ≠ x := ne_of_none hL' hx
          have n2 : L ≠ dx := ne_of_none hL' hd
          rw [cut_ne n1, upd_ne n1, upd_ne n2]; exact hL'
        · refine pOf (by rw [ey]; simp) fun i qv y hi hy => ?_
          rw [ey] at hy
          obtain ⟨_, e1⟩ := List.getElem?_eq_some_iff.mp hi
          obtain ⟨_, e2⟩ := List.getElem?_eq_some_iff.mp hy
          rw [List.getElem_replicate] at e1 e2
          exact .inl ⟨0, e2.symm, by rw [← e1]; rfl⟩
      · have s4 := same_made hx hd hne s3
        exact k x H3 (s.trans s4) (none_back s hx) ⟨x, dx, t, rfl, hx3, mono_T mono_Q _ _ _ _ (same_cut H3 x) hq3⟩

/-! ### Table == Table -/
theorem isT_inj {α : Type} {R : RelH α} {H : Hp} (hR : ∀ v x y, R H v x → R H v y → x = y) {v : V} {xs ys : List α} (h : isT R H v xs) (h' : isT R H v ys) : xs = ys := by
  obtain ⟨a, vs, rfl, ha, p⟩ := h
  obtain ⟨a', vs', e, ha', p'⟩ := h'
  cases e
  rw [ha] at ha'
  cases ha'
  have e1 := pLen p
  have e2 := pLen p'
  refine List.ext_getElem (by omega) fun i h1 h2 => ?_
  obtain ⟨v, g, r⟩ := pGet p (List.getElem?_eq_getElem h1)
  obtain ⟨v', g', r'⟩ := pGet p' (List.getElem?_eq_getElem h2)
  rw [g] at g'
  cases g'
  exact hR _ _ _ r r'
theorem isQ_inj {H : Hp} {v : V} {x y : Rat} (h : isQ H v x) (h' : isQ H v y) : x = y := by
  obtain ⟨a, rfl, ha⟩ := h
  obtain ⟨a', e, ha'⟩ := h'
  cases e
  rw [ha] at ha'
  unfold rt at ha'
  simp only [Option.some.injEq, HO.tup.injEq, List.cons.injEq, V.int.injEq, and_true] at ha'
  exact Rat.ext ha'.1 (by omega)
theorem isTab_inj {H : Hp} {v : V} {x y : List Rat} (h : isTab C_Table H v x) (h' : isTab C_Table H v y) : x = y := by
  obtain ⟨a, dx, t, rfl, ha, q⟩ := h
  obtain ⟨a', dx', t', e, ha', q'⟩ := h'
  cases e
  rw [ha] at ha'
  cases ha'
  exact isT_inj (fun _ _ _ => isQ_inj) q q'
/-- the facts of isinstance for the instances of C -/
structure InsF (K : PySem.W.Frag) (C : Addr) : Prop where
  cl : Cls K C
  ha : PySem.W.findIn K (.ref C) "__class__" = some (some (.builtin "object.__class__"))
  hn : PySem.W.specialIn K (.builtin "object.__class__") "__get__" = some (some (.builtin "getset_descriptor.__get__"))
  ht : PySem.W.takesIn K (.builtin "object.__class__") = some true
  hm : PySem.W.mroIn K C (.type "object") = some true
theorem InsF.ty {C : Addr} (F : InsF K C) {H : Hp} {a dx : Addr} {fs : List (Str × V)} (h : H a = some (.ins C dx fs)) : TyOf K H (.ref a) (.ref C) := .ins h F.cl F.ha F.hn F.ht F.hm
def spTabEq (CT : Addr) : L2.Sp := fun vs H Q _ => ∃ (v u : V) (xs ys : List Rat), vs = [v, u] ∧ isTab CT H v xs ∧ isTab CT H u ys ∧ Q (.bl (decide (xs = ys))) H
theorem hu64 {k : Nat} {A : Around} (hr : Room k A) : A.units + 64 < cLine := by have := hr.un; omega
theorem kit_same {v : Value} : PySem.W.kitOne K v v = some true := by unfold PySem.W.kitOne; rw [if_pos (beq_self_eq_true v)]
theorem sc_Table___eq__ : FnScope ["self", "other"] ["self", "other"] (defScope s_Table___eq__) := ⟨rfl, rfl, rfl, by decide +kernel, rfl, by decide +kernel, by decide +kernel⟩

theorem ok_Table_eq {f : Addr} (D : Def K f "__eq__" "Table.__eq__" s_Table___eq__ []) (F : InsF K C_Table) (nC : NoAttr K C_Table "cell_row") (c_Table : mg "Table" = some (.ref C_Table)) (T_isinstance : mg "isinstance" = none) : FnR P w K mg base CX0 33 f (spTabEq C_Table) := by
  refine D.fnR0 sc_Table___eq__ (fun _ _ _ _ _ _ us hl => match us, hl with | [_, _], _ => rfl) (fun vs H Q E h => ?_) (fun cdv A outer s H vs Q E hr h => ?_)
  · obtain ⟨v, u, xs, ys, rfl, _⟩ := h; rfl
  · obtain ⟨v, u, xs, ys, rfl, ⟨a, dx, t, rfl, ha, hx⟩, ⟨b, dy, t2, rfl, hb, hy⟩, k⟩ := h
    refine ⟨_, (pss_one (ps_ret (pe_and (pe_callB (call_isiK' K) (by rfl) T_isinstance b_isinstance (pa_cons (pv 1) (pa_cons (pe_glob (v := .ref C_Table) rfl c_Table rfl) pa_nil))) (pe_one (pe_cmpR (op_eqDK K (hu64 hr)) (pe_fldK K (pv 0)) (pe_fldK K (pv 1)) (nomark _)))))), ?_⟩
    refine ⟨_, rfl, _, _, _, _, _, rfl, .own C_Table, .base (F.ty hb), kit_same, _, rfl, iteT ?_⟩
    refine ⟨_, rfl, a, C_Table, dx, _, t, rfl, ha, F.cl, nC, rfl, _, rfl, b, C_Table, dy, _, t2, rfl, hb, F.cl, nC, rfl, ?_⟩
    refine ⟨_, _, dp_T hx, dp_T hy, shaped_T _, shaped_T _, ?_⟩
    rw [td_eqv]; exact k
end
end K4
/-! K17: enumerate over a tuple. -/
namespace PySem
open Sem (wp)
open AutoSeq1 (wpAny_loadPart')
theorem meets_enumerate_newT (l : Addr) (items : Array Value) (n : Nat) (dct : Option Addr) (sl : Array (Option Value)) :
    Meets (Builtin.«enumerate.__new__» ⟨[.type "enumerate", .ref l], []⟩) (fun _ R s => s.heap.get? l = some { cls := .type "tuple", dict := dct, data := .seq items n, slots := sl } ∧
      R (.ok (.ret (.ref (s.heap.push { cls := .type "tuple_iterator", data := .fields #[.ref l, .int 0 0] }).objs.size)))
        { s with heap := (s.heap.push { cls := .type "tuple_iterator", data := .fields #[.ref l, .int 0 0] }).push { cls := .type "enumerate", data := .fields #[.none, .bool false, .ref s.heap.objs.size, rawInt 0, .none, .none] } }) :=
  .of_wp fun prog w A R s h => by
    obtain ⟨hp, g, d, tk, os⟩ := s; obtain ⟨hl, h⟩ := h
    have hsub := sub_enumerate
    have hL : Heap.IsTuple (Shared.heap ⟨hp, g, d, tk, os⟩) l items := ⟨_, hl, rfl, n, rfl⟩
    wp_walk using wpAny_loadPart' hl
    refine wpAny_stack_any fun st => wpAny_pure ?_
    split
    · rename_i c _ _ _ _ _
      cases (c == Value.type "enumerate")
      · wp_walk using wpAny_loadPart' hl, wpAny_pyIter_tuple hL
        exact ⟨_, rfl, h⟩
      · wp_walk using wpAny_loadPart' hl, wpAny_pyIter_tuple hL
        exact ⟨_, rfl, h⟩
    · wp_walk using wpAny_loadPart' hl, wpAny_pyIter_tuple hL
      exact ⟨_, rfl, h⟩
section
variable {prog : Program} {w : World} {A : Around} {E : Value → Shared → Prop} {s : Shared}
theorem call_enumerate_tup {l : Addr} {items : Array Value} {Q : Value → Shared → Prop} (hL : s.heap.IsTuple l items)
    (h : ∀ h', IsEnum h' (s.heap.objs.size + 1) s.heap.objs.size 0 .none → h'.IsTupleIter s.heap.objs.size l 0 → h'.objs.size = s.heap.objs.size + 2 →
      (∀ b o, s.heap.get? b = some o → h'.get? b = some o) → Q (.ref (s.heap.objs.size + 1)) { s with heap := h' }) :
    wpAny (model prog w) A (call (.type "enumerate") [.ref l]) Q E s := by
  obtain ⟨⟨c, dct, dt, sl⟩, hl, hc, n, hd⟩ := hL
  replace hc : c = .type "tuple" := hc
  replace hd : dt = .seq items n := hd
  subst hc hd
  refine callType_new F.called_enumerate (by decide) (F.typeCall_enumerate_1 _) (F.newCall_enumerate_1 _) (fun obj => F.args_object_init_2 obj _) F.entry_enumerate_new
    (meets_enumerate_newT l items n dct sl) ⟨hl, ?_⟩
  have hz : (s.heap.push { cls := .type "tuple_iterator", data := .fields #[.ref l, .int 0 0] }).objs.size = s.heap.objs.size + 1 := Heap.size_push ..
  show _ ∧ _
  rw [hz]
  have he : IsEnum ((s.heap.push { cls := .type "tuple_iterator", data := .fields #[.ref l, .int 0 0] }).push
      { cls := .type "enumerate", data := .fields #[.none, .bool false, .ref s.heap.objs.size, rawInt 0, .none, .none] }) (s.heap.objs.size + 1) s.heap.objs.size 0 .none := by
    have := Heap.get?_push_size (s.heap.push { cls := .type "tuple_iterator", data := .fields #[.ref l, .int 0 0] })
      (o := { cls := .type "enumerate", data := .fields #[.none, .bool false, .ref s.heap.objs.size, rawInt 0, .none, .none] }) rfl
    rw [hz] at this; exact this
  refine ⟨⟨_, he, rfl⟩, h _ he ⟨_, Heap.get?_push_of_some _ (Heap.get?_push_size _ rfl), rfl, rfl⟩ (by rw [Heap.size_push, hz]) fun b o x => Heap.get?_push_of_some _ (Heap.get?_push_of_some _ x)⟩
end
end PySem
namespace K4
open PySem PySem.Spec PyProof.Rows L2 StX
/-- the tuple at a, each item in a new pair -/
def IteT (K : PySem.W.Frag) (a : Addr) : It :=
  ⟨fun i H => ∃ (xs : List V) (x : V), SqT K H a xs ∧ xs[i]? = some x, fun i H v H' => ∃ T x, v = .ref T ∧ H T = none ∧ H' = upd H T (.tup [.int (i : Nat), x]) ∧ ∀ xs, SqT K H a xs → xs[i]? = some x, fun i H => ∃ xs : List V, SqT K H a xs ∧ xs.length ≤ i⟩
theorem turn_enumT {P : Program} {w : World} {K : PySem.W.Frag} {elts : List Expr} {kk : Nat} {tpos : Pos} (a e it : Addr) :
    Turn P w K (.Tuple elts kk tpos) (IteT K a) [e, it] e (fun i h => (∃ old, IsEnum h e it ((i : Nat) : Int) old) ∧ h.IsTupleIter it a i ∧ e ≠ it) where
  mem := by simp
  obj := fun i h st b hb => by
    obtain ⟨⟨old, he⟩, ⟨o, ho, hc, hd⟩, _⟩ := st
    have e' : b = e ∨ b = it := by simpa using hb
    rcases e' with z | z
    · rw [z]; exact ⟨_, he, fun v q => nomatch q⟩
    · rw [z]; exact ⟨o, ho, fun v q => by rw [hd] at q; cases q⟩
  keep := fun i h h' st k => let ⟨⟨old, he⟩, hi, hne⟩ := st; ⟨⟨old, k e (by simp) _ he⟩, hi.at fun o q => k it (by simp) o q, hne⟩
  item := by
    intro X hP hw hK hc i pins s σ H E I hf st hg
    subst hP hw hK
    obtain ⟨⟨old, he⟩, hit, hne⟩ := st
    obtain ⟨xs, x, hq, hx⟩ := hg
    obtain ⟨its, rv, p, hz⟩ := I.tuple hq
    obtain ⟨u, hu, ru⟩ := rv.get hx
    have hel : e < s.heap.objs.size := Heap.lt_size he
    have hil : it < s.heap.objs.size := by obtain ⟨_, q, _⟩ := hit; exact Heap.lt_size q
    have pt : s.heap.IsTuple a its.toArray := p
    have hat : a ≠ it := fun z => by
      obtain ⟨o, h1, h2, _⟩ := pt
      obtain ⟨o', h1', h2', _⟩ := hit
      rw [z, h1'] at h1
      cases h1
      rw [h2'] at h2
      injection h2 with z2
      exact absurd z2 (by decide)
    have hae : e ∉ [it, a] := fun z => by
      simp at z
      rcases z with z | z
      · exact hne z
      · obtain ⟨o, h1, h2, _⟩ := pt
        rw [← z, he] at h1
        cases h1
        injection h2 with z2
        exact absurd z2 (by decide)
    have hlt : i < its.toArray.size := by
      have := (List.getElem?_eq_some_iff.mp hu).1
      simpa using this
    have D := Draws.tuple (prog := X.prog) (w := X.w) (A := X.A.in1) (I.ok.hd hc) it a hat its.toArray
    refine wpAny_pyNext_enum_itemD D he ⟨hit, pt⟩ hlt hne hae fun v h' tk hv ho hit' hT hsz hk => ?_
    have ev : v = u := by
      have hv2 : its[i]? = some v := by simpa using hv
      rw [hu] at hv2
      exact (Option.some.inj hv2).symm
    subst ev
    refine ⟨_, rfl, wpAny_letOwnedTupleGo_enum (s := { s with heap := h', toks := tk + 1 }) ho fun h'' he' sb => ?_⟩
    have hT2 : h''.get? s.heap.objs.size = some { cls := .type "tuple", data := .seq #[.int i tk, v] } := (sb.2 _ (Nat.ne_of_gt hel)).trans hT
    have new : ObjOk X.prog X.w (upd H s.heap.objs.size (.tup [.int (i : Nat), x])) h'' s.heap.objs.size (.tup [.int (i : Nat), x]) :=
      ⟨by show 2 ≤ sizeLine; decide, [.int i tk, v], .cons ⟨_, rfl⟩ (.cons ru .nil), ⟨_, hT2, rfl, _, rfl⟩⟩
    have I1 : Inv X pins σ (upd H s.heap.objs.size (.tup [.int (i : Nat), x])) { s with heap := h'', toks := tk + 1 } :=
      I.turnedNew (ch := [e, it]) (fun b ob hb q => (sb.2 b (fun z => hb (by simp [z]))).trans (hk b ob (fun z => hb (by simp [z])) (fun z => hb (by simp [z])) q)) hf (Nat.le_refl _) new
    refine ⟨.ref s.heap.objs.size, _, I1, rfl, ⟨_, x, rfl, I.hok.fresh (Nat.le_refl _), rfl, fun ys hy => by rw [I.tuple_inj hy hq]; exact hx⟩, ⟨⟨v, ?_⟩, hit'.1.at fun o q => (sb.2 it (Ne.symm hne)).trans q, hne⟩, fun b hb => ?_⟩
    · have e1 : ((i + 1 : Nat) : Int) = (i : Int) + 1 := by omega
      rw [e1]; exact he'
    · have hb' : b < s.heap.objs.size := by
        have e' : b = e ∨ b = it := by simpa using hb
        rcases e' with z | z
        · rw [z]; exact hel
        · rw [z]; exact hil
      rw [upd_ne (Nat.ne_of_lt hb')]
      exact (hf b hb).1
  done := by
    intro X hP hw hK hc i pins s σ H E I hf st hg
    subst hP hw hK
    obtain ⟨⟨old, he⟩, hit, hne⟩ := st
    obtain ⟨xs, hq, hx⟩ := hg
    obtain ⟨its, rv, p, hz⟩ := I.tuple hq
    obtain ⟨f0, f1, f2, f3, f4, f5⟩ := hf it (by simp)
    have hl := rv.length
    have pt : s.heap.IsTuple a its.toArray := p
    have hT : s.TypeIs (.ref e) "enumerate" := ⟨_, he, rfl⟩
    unfold pyNext
    refine wpAny_bind (wpAny_attempt (wpAny_callSpecial?_slot (name := Str.ofString "__next__") hT F.slot_enumerate_next
      (wpAny_call_entry F.slot_enumerate_next hT F.entry_enumerate_next ?_ (F.args_enumerate_next_1 _))))
    show wpAny _ _ (field (.ref e) 2 >>= _) _ _ _
    refine wpAny_bind (wpAny_field he rfl (x := .ref it) rfl ?_)
    refine wpAny_bind (wpAny_nextOf_tuple_end (I.ok.hd hc) hit pt (by simp; omega) fun h' x he' hx' => ?_)
    obtain ⟨o, ho, hc⟩ := hx'
    refine wpAny_bind (wpAny_isInstance (T := "StopIteration") (b := true) ⟨o, ho, hc⟩ isSubtype_stop ?_)
    exact wpAny_pure ⟨rfl, I.turned (t' := s.toks) (fun b o hb q => he' b o hb q) f0 f1 f3 f4 f5⟩
  self := fun A i s Q E st h => let ⟨⟨_, he⟩, _⟩ := st; wpAny_pyIter_enum he h
def iEnumT (K : PySem.W.Frag) (ta : TA) : TI := fun σ H R => ta σ H fun vs H1 => ∃ a xs, vs = [.ref a] ∧ SqT K H1 a xs ∧ R (IteT K a) H1
theorem pi_enumT {X : Cx} {e : Expr} {ta : TA} {p pos tpos : Pos} {elts : List Expr} {kk : Nat} (hm : X.mg "enumerate" = none) (ha : PA X [e] ta) (hg : Gl X "enumerate" := by rfl) (hs : starEach [e] X.env = [(false, eval e X.env)] := by rfl) :
    PI X (.Tuple elts kk tpos) (.Call (.Name "enumerate" p) [e] [] pos) (iEnumT X.K ta) := by
  refine ⟨fun pins s σ H R I h => ?_⟩
  refine Call_ (ld_blt I hg hm boot_enumerate (PyProof.Rows.callWith_type1 (thn (ha.run pos pins s σ H _ I h) fun us s1 ⟨vs, H1, I1, r1, q1⟩ => ?_) hs rfl))
  obtain ⟨a, xs, ex, hq, q⟩ := q1
  subst ex
  cases r1 with
  | cons r rr =>
    cases rr
    cases r
    obtain ⟨its, rv, p', hz⟩ := I1.tuple hq
    refine call_enumerate_tup (show s1.heap.IsTuple a its.toArray from p') fun h' he hit hsz hk => wpAny_pyIter_enum he ?_
    have I2 : Inv X pins σ H1 { s1 with heap := h' } := I1.kept (t' := s1.toks) hk
    refine ⟨s1.heap.objs.size + 1, [s1.heap.objs.size + 1, s1.heap.objs.size], _, _, H1, rfl, I2, turn_enumT a (s1.heap.objs.size + 1) s1.heap.objs.size, ⟨⟨.none, he⟩, hit, Nat.succ_ne_self _⟩, fun b hb => ?_, q⟩
    have e' : b = s1.heap.objs.size + 1 ∨ b = s1.heap.objs.size := by simpa using hb
    have hle : s1.heap.objs.size ≤ b := by
      rcases e' with z | z
      · rw [z]; exact Nat.le_add_right _ _
      · rw [z]; exact Nat.le_refl _
    exact I1.fpOk hle (I1.hok.fresh hle)
theorem walk_enumT {K : PySem.W.Frag} {a : Addr} {xs : List V} : Walk (IteT K a) xs.length (fun H => SqT K H a xs) (YPair (fun i => some (.int (i : Nat))) (fun i => xs[i]?)) := by
  refine ⟨fun i _ hi q => ⟨xs, xs[i], q, by simp [hi]⟩, fun _ q => ⟨xs, q, Nat.le_refl _⟩, fun i H v H' _ q y => ?_⟩
  obtain ⟨T, x, h1, h2, h3, h4⟩ := y
  exact ⟨T, .int (i : Nat), x, h1, h2, h3, rfl, h4 xs q⟩
section
variable (K : PySem.W.Frag)
theorem pi_enumTK {X : Cx} {e : Expr} {ta : TA} {p pos tpos : Pos} {elts : List Expr} {kk : Nat} (hm : X.mg "enumerate" = none) (ha : PA X [e] ta) (hg : Gl X "enumerate" := by rfl) (hs : starEach [e] X.env = [(false, eval e X.env)] := by rfl) (h : X.K = K := by rfl) :
    PI X (.Tuple elts kk tpos) (.Call (.Name "enumerate" p) [e] [] pos) (iEnumT K ta) := by subst h; exact pi_enumT hm ha hg hs
end
end K4
/-! K18: labels, lots, partings. -/
namespace K4
open PySem PySem.Spec PyProof.Rows L2 StX
open M4 (Bd fi canonN lotOf lotsOf Canon)
section
variable {P : Program} {w : World} {K : PySem.W.Frag} {mg : Str → Option Value} {base : Heap} {C_Parting : Addr}
/-! ### checks of labels -/
theorem sc_is_whole_partings : FnScope ["value"] ["value"] (defScope s_is_whole_partings) := ⟨rfl, rfl, rfl, by decide +kernel, rfl, by decide +kernel, by decide +kernel⟩

theorem ok_is_whole_partings (D : Glo K mg "is_whole_partings" "is_whole" s_is_whole_partings) (T_isinstance : mg "isinstance" = none) (T_int : mg "int" = none) (T_bool : mg "bool" = none) : Cal P w K mg base CX0 33 "is_whole_partings" spWhole := by
  refine D.cal sc_is_whole_partings (fun _ _ _ _ _ _ us hl => match us, hl with | [_], _ => rfl) (fun vs H Q E h => ?_) (fun f cdv A outer s H vs Q E hr h => ?_)
  · obtain ⟨z, rfl, _⟩ := h; rfl
  · obtain ⟨z, rfl, k⟩ := h
    refine ⟨_, (pss_one (ps_ret (pe_and (pe_callB (call_isiK' K) (by rfl) T_isinstance b_isinstance (pa_cons (pv 0) (pa_cons (pe_bltn (v := .ty "int") (by rfl) T_int b_int rfl) pa_nil))) (pe_one (pe_not (pe_callB (call_isiK' K) (by rfl) T_isinstance b_isinstance (pa_cons (pv 0) (pa_cons (pe_bltn (v := .ty "bool") (by rfl) T_bool b_bool rfl) pa_nil)))))))), ?_⟩
    refine ⟨_, rfl, _, _, _, _, _, rfl, .ty "int", .base (.int z), kit_int_int, _, rfl, iteT ?_⟩
    refine ⟨_, rfl, _, _, _, _, _, rfl, .ty "bool", .base (.int z), kit_int_bool, _, rfl, ?_⟩
    exact k
theorem sc_is_label : FnScope ["value"] ["value"] (defScope s_is_label) := ⟨rfl, rfl, rfl, by decide +kernel, rfl, by decide +kernel, by decide +kernel⟩

theorem ok_is_label (D : Glo K mg "is_label" "is_label" s_is_label) (ok_is_whole_partings : Cal P w K mg base CX0 33 "is_whole_partings" spWhole) (T_isinstance : mg "isinstance" = none) (T_str : mg "str" = none) : Cal P w K mg base CX0 35 "is_label" spWhole := by
  refine D.cal sc_is_label (fun _ _ _ _ _ _ us hl => match us, hl with | [_], _ => rfl) (fun vs H Q E h => ?_) (fun f cdv A outer s H vs Q E hr h => ?_)
  · obtain ⟨z, rfl, _⟩ := h; rfl
  · obtain ⟨z, rfl, k⟩ := h
    refine ⟨_, (pss_one (ps_ret (pe_or (pe_cal ok_is_whole_partings (hr.mono (by decide)) (pa_cons (pv 0) pa_nil)) (pe_one (pe_callB (call_isiK' K) (by rfl) T_isinstance b_isinstance (pa_cons (pv 0) (pa_cons (pe_bltn (v := .ty "str") (by rfl) T_str b_str rfl) pa_nil))))))), ?_⟩
    exact ⟨_, rfl, z, rfl, _, rfl, iteT k⟩
def spNeedPl : L2.Sp := fun vs H Q _ => ∃ n : Int, vs = [.int n] ∧ 1 ≤ n ∧ n ≤ 16 ∧ Q .non H
theorem sc_need_plots : FnScope ["plots"] ["plots"] (defScope s_need_plots) := ⟨rfl, rfl, rfl, by decide +kernel, rfl, by decide +kernel, by decide +kernel⟩

theorem ok_need_plots (D : Glo K mg "need_plots" "need_plots" s_need_plots) (g_MOST_PLOTS : ∃ t, mg "MOST_PLOTS" = some (.int 16 t)) : Cal P w K mg base CX0 33 "need_plots" spNeedPl := by
  refine D.cal sc_need_plots (fun _ _ _ _ _ _ us hl => match us, hl with | [_], _ => rfl) (fun vs H Q E h => ?_) (fun f cdv A outer s H vs Q E hr h => ?_)
  · obtain ⟨n, rfl, _⟩ := h; rfl
  · obtain ⟨n, rfl, h1, h2, k⟩ := h
    refine ⟨_, (pss_cons (ps_if (pt_cmpR op_lt (pv 0) pe_int (nomark _)) (pss_one ps_never) pss_nil)
      (pss_one (ps_if (pt_cmpR op_gt (pv 0) (pe_glob (v := .int 16) rfl g_MOST_PLOTS.choose_spec ⟨_, rfl⟩) (nomark _)) (pss_one ps_never) pss_nil))), ?_⟩
    refine ⟨_, rfl, _, _, rfl, rfl, _, rfl, iteN (by simpa using h1) ⟨_, rfl, _, _, rfl, rfl, _, rfl, iteN (by simpa using h2) k⟩⟩
def spNeedLb : L2.Sp := fun vs H Q _ => ∃ (a : Addr) (ls : List Int), vs = [.ref a] ∧ H a = some (.lst (ls.map V.int)) ∧ 1 ≤ ls.length ∧ ls.length ≤ 16 ∧ ∀ H', Same H H' → Q .non H'
theorem sc_need_labels : FnScope ["labels", "at", "label"] ["labels"] (defScope s_need_labels) := ⟨rfl, rfl, rfl, by decide +kernel, rfl, by decide +kernel, by decide +kernel⟩

theorem ok_need_labels (D : Glo K mg "need_labels" "need_labels" s_need_labels) (ok_need_plots : Cal P w K mg base CX0 33 "need_plots" spNeedPl) (ok_is_label : Cal P w K mg base CX0 35 "is_label" spWhole) (T_len : mg "len" = none) (T_enumerate : mg "enumerate" = none) : Cal P w K mg base CX0 37 "need_labels" spNeedLb := by
  refine D.cal sc_need_labels (fun _ _ _ _ _ _ us hl => match us, hl with | [_], _ => rfl) (fun vs H Q E h => ?_) (fun f cdv A outer s H vs Q E hr h => ?_)
  · obtain ⟨a, ls, rfl, _⟩ := h; rfl
  · obtain ⟨a, ls, rfl, hS, h1, h2, k⟩ := h
    refine ⟨_, (pss_cons (ps_expr (pe_cal ok_need_plots (hr.mono (by decide)) (pa_cons (pe_callB (call_lenK K) (by rfl) T_len b_len (pa_cons (pv 0) pa_nil)) pa_nil)))
      (pss_one (ps_for PassesOwn.never rfl (pi_enumK K T_enumerate (pa_cons (pv 0) pa_nil)) (pg_tup rfl (pgs_cons (pg_name (i := 1) sc_need_labels.nd rfl (by first | exact Or.inl rfl | exact Or.inr rfl)) (pgs_cons (pg_name (i := 2) sc_need_labels.nd rfl (by first | exact Or.inl rfl | exact Or.inr rfl)) pgs_nil))) (pss_one (ps_if (pt_not (pt_val (pe_cal ok_is_label (hr.mono (by decide)) (pa_cons (pv 2) pa_nil)))) (pss_one ps_never) pss_nil))))), ?_⟩
    refine ⟨_, rfl, a, _, rfl, .inl (SqL.of hS), _, rfl, by rw [List.length_map]; omega, by rw [List.length_map]; omega, ?_⟩
    refine ⟨_, rfl, a, _, rfl, SqL.of hS, for_it (walk_enum (xs := ls.map V.int)) (fun i σ H' => Same H H' ∧ ∃ o1 o2, σ = [some (.ref a), o1, o2]) ⟨Same.refl _, _, _, rfl⟩ (fun i σ H' _ ⟨s, _⟩ => s.seq (SqL.of hS)) ?_ ?_⟩
    · rintro i x σ H1 H2 hi ⟨s, o1, o2, rfl⟩ y
      obtain ⟨t, x1, x2, rfl, ht, rfl, hx1, hx2⟩ := y
      cases hx1
      obtain ⟨hi2, rfl, hz2⟩ := ints_get hx2
      refine ⟨t, _, rfl, .inl (.inl upd_same), rfl, _, _, rfl, _, _, rfl, rfl, ?_⟩
      exact ⟨_, rfl, _, rfl, _, rfl, iteN rfl ⟨Same.upd s ht, _, _, rfl⟩⟩
    · rintro σ H' ⟨s, o1, o2, rfl⟩
      exact k H' s
/-! ### least_plots -/
theorem fi_succ {ls : List Int} {i : Nat} {x : Int} (h : ls[i]? = some x) (z : Int) : fi (ls.take (i + 1)) z = (fi (ls.take i) z).or (if x = z then some i else none) := by
  have hi := (List.getElem?_eq_some_iff.mp h).1
  rw [take_succ_get h]
  unfold M4.fi
  rw [List.findIdx?_append]
  congr 1
  by_cases c : x = z
  · rw [if_pos c]
    simp [c]; omega
  · rw [if_neg c]; simp [c]
def spLeast : L2.Sp := fun vs H Q _ => ∃ (a : Addr) (ls : List Int), vs = [.ref a] ∧ H a = some (.lst (ls.map V.int)) ∧ ls.length ≤ 16 ∧ ∀ c H', Same H H' → H c = none → isT isN H' (.ref c) (canonN ls) → Q (.ref c) H'
theorem sc_least_plots : FnScope ["labels", "found", "at", "label"] ["labels"] (defScope s_least_plots) := ⟨rfl, rfl, rfl, by decide +kernel, rfl, by decide +kernel, by decide +kernel⟩

theorem ok_least_plots (D : Glo K mg "least_plots" "least_plots" s_least_plots) (T_enumerate : mg "enumerate" = none) (T_tuple : mg "tuple" = none) : Cal P w K mg base CX0 33 "least_plots" spLeast := by
  refine D.cal sc_least_plots (fun _ _ _ _ _ _ us hl => match us, hl with | [_], _ => rfl) (fun vs H Q E h => ?_) (fun f cdv A outer s H vs Q E hr h => ?_)
  · obtain ⟨a, ls, rfl, _⟩ := h; rfl
  · obtain ⟨a, ls, rfl, hS, h2, k⟩ := h
    refine ⟨_, (pss_cons (ps_set (i := 1) sc_least_plots.nd rfl (by first | exact Or.inl rfl | exact Or.inr rfl) pe_dnewK)
      (pss_cons (ps_for PassesOwn.never rfl (pi_enumK K T_enumerate (pa_cons (pv 0) pa_nil)) (pg_tup rfl (pgs_cons (pg_name (i := 2) sc_least_plots.nd rfl (by first | exact Or.inl rfl | exact Or.inr rfl)) (pgs_cons (pg_name (i := 3) sc_least_plots.nd rfl (by first | exact Or.inl rfl | exact Or.inr rfl)) pgs_nil))) (pss_one (ps_if (pt_cmp (pc_dnotin (hu_of hr) (pv 3) (pv 1))) (pss_one (ps_dput (hu_of hr) (pv 1) (pv 3) (pv 2) rfl)) pss_nil)))
      (pss_one (ps_ret (pe_callTy (call_tupleK K) (by rfl) T_tuple b_tuple (pa_cons (pe_lc (own := [("label", 3)]) (tt := tYes) (g := (gName 3)) rfl sc_least_plots.nd (pi_listK K (pv 0)) (blkOk_by (N := ["labels", "found", "at", "label"]) (sc := defScope s_least_plots) (by decide +kernel)) (fun _ _ _ _ _ => (pg_name (i := 3) sc_least_plots.nd rfl (by first | exact Or.inl rfl | exact Or.inr rfl))) (fun _ _ _ _ _ => pts_nil) (fun _ _ _ _ _ => (pe_dget (hu_of hr) (pv 1) (pv 3) (fun _ _ => rfl)))) pa_nil)))))), ?_⟩
    intro D hD
    have hS2 : (upd H D (.dK [])) a = some (.lst (ls.map V.int)) := same_upd hD _ _ hS
    refine ⟨_, rfl, a, _, rfl, SqL.of hS2, for_it (walk_enum (xs := ls.map V.int)) (fun i σ H' => Same H H' ∧ ∃ o1 o2 kvs, σ = [some (.ref a), some (.ref D), o1, o2] ∧ H' D = some (.dK kvs) ∧ kvs.length ≤ i ∧ ∀ z : Int, valV kvs (.inl z) = (fi (ls.take i) z).map fun (j : Nat) => V.int j)
      ⟨same_upd hD, _, _, [], rfl, upd_same, Nat.le_refl _, fun z => rfl⟩ (fun i σ H' _ ⟨s, _⟩ => s.seq (SqL.of hS)) ?_ ?_⟩
    · rintro i x σ H1 H2 hi ⟨s, o1, o2, kvs, rfl, hd, hl, hv⟩ y
      obtain ⟨t, x1, x2, rfl, ht, rfl, hx1, hx2⟩ := y
      cases hx1
      obtain ⟨hi2, rfl, hz2⟩ := ints_get hx2
      have htD : (upd H1 t (.tup [V.int i, V.int (M4.ent ls i)])) D = some (.dK kvs) := same_upd ht _ _ hd
      have s1 : Same H (upd H1 t (.tup [V.int i, V.int (M4.ent ls i)])) := Same.upd s ht
      refine ⟨t, _, rfl, .inl (.inl upd_same), rfl, _, _, rfl, _, _, rfl, rfl, ?_⟩
      have g := DGet.k (k := .inl (M4.ent ls i)) htD
      refine ⟨_, rfl, _, rfl, D, _, rfl, g, _, rfl, ?_⟩
      have e := hv (M4.ent ls i)
      cases c : fi (ls.take i) (M4.ent ls i) with
      | some j =>
        rw [c] at e
        rw [e]
        refine iteN rfl ⟨s1, _, _, kvs, rfl, htD, by omega, fun z => ?_⟩
        rw [fi_succ hz2, hv z]
        by_cases cz : M4.ent ls i = z
        · rw [← cz, c]; rfl
        · rw [if_neg cz, Option.or_none]
      | none =>
        rw [c] at e
        rw [e]
        have hk : kvs.length < sizeLine := by have := small_line (show kvs.length + 1 ≤ 1000 by omega); omega
        refine iteC rfl ⟨_, rfl, _, rfl, _, rfl, D, _, rfl, DPut.k (k := .inl (M4.ent ls i)) htD hk, ?_⟩
        refine ⟨fun b o hb => ?_, _, _, _, rfl, upd_same, ?_, fun z => ?_⟩
        · rw [upd_ne (fun z => by rw [z, hD] at hb; cases hb)]; exact s1 b o hb
        · rw [putK_new _ (by rw [e]; rfl), List.length_append]
          show kvs.length + 1 ≤ i + 1; omega
        · rw [valV_put, fi_succ hz2, hv z]
          by_cases cz : M4.ent ls i = z
          · rw [← cz, c, if_pos rfl, if_pos rfl]; rfl
          · rw [if_neg (fun q => cz (Sum.inl.inj q).symm), if_neg cz, Option.or_none]
    · rintro σ H' ⟨s, o1, o2, kvs, rfl, hd, hl, hv⟩
      rw [List.length_map, List.take_length] at hv
      have hS' := s _ _ hS
      refine ⟨_, rfl, a, rfl, ⟨_, SqL.of hS'⟩, fun L hL => lcm (walk_list (xs := ls.map V.int)) (fun i _ v => v = V.int ((canonN ls).getD i 0 : Nat)) hL (by rw [List.length_map]; exact small_line (by omega)) (fun _ _ _ _ _ q => q)
          (fun H'' s => s.seq (SqL.of hS')) (fun i x H1 H2 hi s o y Q k => ?_) (fun H1 ys s1 hL' q => ?_)⟩
      · obtain ⟨rfl, hx⟩ := y
        obtain ⟨hi2, rfl, hz2⟩ := ints_get hx
        obtain ⟨j, e1, e2⟩ := M4.canonN_get hz2
        have hd2 := (s.trans (same_cut _ _)) _ _ hd
        have g := DGet.k (k := .inl (M4.ent ls i)) hd2
        rw [hv, e2] at g
        refine ⟨rfl, _, rfl, _, rfl, D, _, rfl, g, ?_⟩
        refine k _ _ (Same.refl _) ?_
        show V.int _ = V.int _
        rw [List.getD_eq_getElem?_getD, e1]; rfl
      · rw [List.length_map] at q
        have hyl := pLen q
        rw [List.length_range] at hyl
        refine ⟨L, ys, rfl, .inl ⟨SqL.of hL', fun l hl2 => ?_⟩⟩
        have s2 : Same H (upd H1 l (.tup ys)) := Same.upd (s.trans s1) hl2
        refine k l _ s2 (none_back (s.trans s1) hl2) ⟨l, ys, rfl, upd_same, pOf (by rw [M4.canonN_len]; omega) fun j n v hj hy => ?_⟩
        obtain ⟨j', hj', e⟩ := pGet2 q hy
        have hj2 := (List.getElem?_eq_some_iff.mp hy).1
        rw [List.getElem?_range (by omega)] at hj'
        cases hj'
        rw [e, List.getD_eq_getElem?_getD, hj]; rfl
end
end K4
/-! K19: lots, partings, marks. -/
namespace K4
open PySem PySem.Spec PyProof.Rows L2 StX
open M4 (Bd fi canonN lotOf lotsOf Canon)
section
variable {J : It} {n : Nat} {G : Hp → Prop} {Y : Nat → Hp → V → Hp → Prop}
/-- without a test; told of the whole list so far -/
theorem lcl (w : Walk J n G Y) {g : TG} {te : TE} {vs : List Nat} {σ : L2.St} {H1 : Hp} {D : Addr} {Qd : Hp → Prop} (PL : Nat → Hp → List V → Prop) (hD : H1 D = none) (hn : n ≤ sizeLine) (h0 : PL 0 H1 [])
    (mono : ∀ i H H' l, Same H H' → PL i H l → PL i H' l) (hG : ∀ H, Same H1 H → G H)
    (hs : ∀ i x H H' acc, i < n → Same H1 (cut H D) → H D = some (.lst acc) → PL i (cut H D) acc → Y i H x H' → ∀ Q : VK, (∀ y H4, Same H H4 → PL (i + 1) (cut H4 D) (acc ++ [y]) → Q y H4) → g x (wipe σ vs) H' fun σ2 H2 => wipe σ2 vs = wipe σ vs ∧ te σ2 H2 Q)
    (hd : ∀ H ys, Same H1 H → H D = some (.lst ys) → PL n H ys → Qd H) :
    ∃ W : Nat → Nat → Hp → Prop, (∃ m, W 0 m (upd H1 D (.lst []))) ∧ ∀ i m H, W i m H →
      (J.stop i H ∧ Qd H) ∨ (J.go i H ∧ ∃ Nx : Hp → Prop, (∀ H', Nx H' → ∃ m', m' < m ∧ W (i + 1) m' H') ∧ ∀ x H', J.yld i H x H' → g x (wipe σ vs) H' fun σ2 H2 => wipe σ2 vs = wipe σ vs ∧ tYes σ2 H2 fun b H3 =>
        if b = true then te σ2 H3 fun y H4 => ∃ acc, H4 D = some (.lst acc) ∧ acc.length < sizeLine ∧ Nx (upd H4 D (.lst (acc ++ [y]))) else Nx H3) := by
  have up : ∀ H, Same H1 (cut H D) → Same H1 H := fun H s => s.trans (same_cut H D)
  refine lc_it w (fun i H => Same H1 (cut H D) ∧ ∃ acc, H D = some (.lst acc) ∧ acc.length ≤ i ∧ PL i (cut H D) acc) ⟨?_, [], upd_same, Nat.zero_le _, ?_⟩ (fun i H _ ⟨s, _⟩ => hG H (up H s)) ?_ ?_
  · rw [cut_upd]; exact same_cut_none hD
  · rw [cut_upd]; exact mono _ _ _ _ (same_cut_none hD) h0
  · rintro i x H H' hi ⟨s, acc, hacc, hl, hp⟩ y
    have e : ∀ (σ2 : L2.St) (H2 : Hp) (Q : VK) (Q' : Hp → Prop), (tYes σ2 H2 fun b H3 => if b = true then te σ2 H3 Q else Q' H3) = te σ2 H2 Q := fun σ2 H2 Q Q' => by
      show (if true = true then te σ2 H2 Q else Q' H2) = _
      rw [if_pos rfl]
    simp only [e]
    refine hs i x H H' acc hi s hacc hp y _ (fun v H4 s4 r => ?_)
    have hacc4 := s4 _ _ hacc
    refine ⟨acc, hacc4, by omega, ?_, acc ++ [v], upd_same, by rw [List.length_append]; show acc.length + 1 ≤ i + 1; omega, ?_⟩
    · rw [cut_upd]; exact s.trans (Same.cut s4 D)
    · rw [cut_upd]; exact r
  · rintro H ⟨s, acc, hacc, hl, hp⟩
    exact hd H acc (up H s) hacc (mono _ _ _ _ (same_cut H D) hp)
end
section
variable {P : Program} {w : World} {K : PySem.W.Frag} {mg : Str → Option Value} {base : Heap} {C_Parting : Addr}
/-! ### named_lots -/
def nv (l : List Nat) : List V := l.map fun (n : Nat) => V.int (n : Int)
/-- what of the lots is gathered in the first j plots -/
def lotTo (ns : List Nat) (j m : Nat) : List Nat := (List.range j).filter fun k => decide (ns[k]? = some m)
theorem isT_N {H : Hp} {a : Addr} {ns : List Nat} (h : isT isN H (.ref a) ns) : H a = some (.tup (nv ns)) := by
  obtain ⟨a', vs, e, h, p⟩ := h
  cases e
  rw [h, pEqMap (f := fun n : Nat => V.int n) p]; rfl
theorem nv_isT {H : Hp} {a : Addr} {ns : List Nat} (h : H a = some (.tup (nv ns))) : isT isN H (.ref a) ns :=
  ⟨a, nv ns, rfl, h, pOf (by unfold nv; simp) fun i x y hx hy => by
    unfold nv at hy
    rw [List.getElem?_map, hx] at hy
    exact (Option.some.inj hy).symm⟩
theorem mono_TTN : Mono (isT (isT isN)) := mono_T (mono_T mono_N)
def spLots : L2.Sp := fun vs H Q _ => ∃ (a : Addr) (ns : List Nat), vs = [.ref a] ∧ isT isN H (.ref a) ns ∧ ns.length ≤ 16 ∧ (∀ n ∈ ns, n < ns.length) ∧ ∀ c H', Same H H' → H c = none → isT (isT isN) H' (.ref c) (lotsOf ns) → Q (.ref c) H'
theorem sc_named_lots : FnScope ["names", "rows", "at", "name", "row"] ["names"] (defScope s_named_lots) := ⟨rfl, rfl, rfl, by decide +kernel, rfl, by decide +kernel, by decide +kernel⟩

theorem ok_named_lots (D : Glo K mg "named_lots" "named_lots" s_named_lots) (T_enumerate : mg "enumerate" = none) (T_tuple : mg "tuple" = none) : Cal P w K mg base CX0 33 "named_lots" spLots := by
  refine D.cal sc_named_lots (fun _ _ _ _ _ _ us hl => match us, hl with | [_], _ => rfl) (fun vs H Q E h => ?_) (fun f cdv A outer s H vs Q E hr h => ?_)
  · obtain ⟨a, ns, rfl, _⟩ := h; rfl
  · obtain ⟨a, ns, rfl, hS, h16, hlt, k⟩ := h
    have hS := isT_N hS
    have hnl : (nv ns).length = ns.length := by unfold nv; simp
    refine ⟨_, (pss_cons (ps_setLc (i := 1) (own := [("name", 3)]) (tt := tYes) (g := (gName 3)) rfl sc_named_lots.nd rfl rfl (sw_true rfl rfl rfl (by decide +kernel)) (pi_tupK K (pv 0)) (blkOk_by (N := ["names", "rows", "at", "name", "row"]) (sc := defScope s_named_lots) (by decide +kernel)) (fun _ _ _ _ _ => (pg_name (i := 3) sc_named_lots.nd rfl (by first | exact Or.inl rfl | exact Or.inr rfl))) (fun _ _ _ _ _ => pts_nil) (fun _ _ _ _ _ => (pe_lst pa_nil)))
      (pss_cons (ps_for PassesOwn.never rfl (pi_enumTK K T_enumerate (pa_cons (pv 0) pa_nil)) (pg_tup rfl (pgs_cons (pg_name (i := 2) sc_named_lots.nd rfl (by first | exact Or.inl rfl | exact Or.inr rfl)) (pgs_cons (pg_name (i := 3) sc_named_lots.nd rfl (by first | exact Or.inl rfl | exact Or.inr rfl)) pgs_nil))) (pss_one (ps_expr (pe_bm PySem.F.plainAttrs_list PySem.F.slot_list_append PySem.F.type_list_append mt_append (pe_ix (ix_n K) (pv 1) (pv 3) (fun _ _ => rfl)) (pa_cons (pv 2) pa_nil)))))
      (pss_one (ps_ret (pe_callTy (call_tupleK K) (by rfl) T_tuple b_tuple (pa_cons (pe_lc (own := [("row", 4)]) (g := (gName 4)) rfl sc_named_lots.nd (pi_listK K (pv 1)) (blkOk_by (N := ["names", "rows", "at", "name", "row"]) (sc := defScope s_named_lots) (by decide +kernel)) (fun _ _ _ _ _ => (pg_name (i := 4) sc_named_lots.nd rfl (by first | exact Or.inl rfl | exact Or.inr rfl))) (fun _ _ _ _ _ => (pts_one (pt_truthK K (pv 4)))) (fun _ _ _ _ _ => (pe_callTy (call_tupleK K) (by rfl) T_tuple b_tuple (pa_cons (pv 4) pa_nil)))) pa_nil)))))), ?_⟩
    obtain ⟨H0, eH0⟩ : ∃ H0 : Hp, H0 = H := ⟨H, rfl⟩
    refine ⟨_, rfl, a, rfl, ⟨_, .inl (.inl hS)⟩, fun L hL => lcl (walk_tup (xs := nv ns)) (fun i H l => ∃ ps : List Addr, l = ps.map V.ref ∧ ps.Nodup ∧ ps.length = i ∧ ∀ p ∈ ps, H p = some (.lst []) ∧ H0 p = none) hL (small_line (by omega)) ⟨[], rfl, List.nodup_nil, rfl, fun _ z => by simp at z⟩
      (fun i H H' l s ⟨ps, e1, e2, e3, e4⟩ => ⟨ps, e1, e2, e3, fun p hp => ⟨s _ _ (e4 p hp).1, (e4 p hp).2⟩⟩) (fun H' s => Same.tup s (.inl (.inl hS))) (fun i x H1 H2 acc hi s hacc ⟨ps, e1, e2, e3, e4⟩ y Q k => ?_) (fun H1 ys s1 hL1 ⟨ps, e1, e2, e3, e4⟩ => ?_)⟩
    · obtain ⟨rfl, hx⟩ := y
      refine ⟨rfl, Nat.zero_le _, fun p hp => k _ _ (same_upd hp) ⟨ps ++ [p], by rw [e1]; simp, ?_, by simp [e3], fun q hq => ?_⟩⟩
      · rw [List.nodup_append]
        refine ⟨e2, by simp, fun q hq q' hq' => ?_⟩
        simp at hq'
        subst hq'
        intro z
        subst z
        have := (cut_some (e4 q hq).1).2
        rw [hp] at this; cases this
      · have npL : p ≠ L := new_ne hacc hp
        rcases List.mem_append.mp hq with hq | hq
        · obtain ⟨hq2, hq3⟩ := e4 q hq
          obtain ⟨n1, h1⟩ := cut_some hq2
          exact ⟨by rw [cut_ne n1, upd_ne (ne_of_none h1 hp)]; exact h1, hq3⟩
        · have : q = p := by simpa using hq
          rw [this]
          exact ⟨by rw [cut_ne npL]; exact upd_same, by rw [eH0]; exact none_back (s.trans (same_cut _ _)) hp⟩
    · have hlen : ps.length = ns.length := by rw [e3, hnl]
      have a1 : H1 a = some (.tup (nv ns)) := s1 _ _ hS
      subst eH0
      have Lps : ∀ p ∈ ps, p ≠ L := fun p hp z => by
        have h2 := (e4 p hp).1
        rw [z, hL1] at h2
        injection h2 with h3
        injection h3 with h4
        rw [e1] at h4
        have : ps = [] := List.map_eq_nil_iff.mp h4
        rw [this] at hp; cases hp
      refine ⟨_, rfl, a, _, rfl, .inl (.inl a1), for_it (walk_enumT (xs := nv ns)) (fun i σ H' => Same H0 H' ∧ ∃ o2 o3, σ = [some (.ref a), some (.ref L), o2, o3, none] ∧ H' L = some (.lst (ps.map V.ref)) ∧ ∀ m p, ps[m]? = some p → H' p = some (.lst (nv (lotTo ns i m))))
        ⟨s1, _, _, rfl, by rw [hL1, e1], fun m p hp => (e4 p (List.mem_of_getElem? hp)).1⟩ (fun i σ H' _ ⟨s, _⟩ => Same.tup s (.inl (.inl hS))) ?_ ?_⟩
      · rintro i x σ H2 H3 hi ⟨s2, o2, o3, rfl, h2L, h2p⟩ y
        obtain ⟨t, x1, x2, rfl, ht, rfl, hx1, hx2⟩ := y
        cases hx1
        rw [hnl] at hi
        have ens : ns[i]? = some (ns[i]) := List.getElem?_eq_getElem hi
        have hx2' : x2 = V.int (ns[i] : Nat) := by
          have hx3 : (nv ns)[i]? = some x2 := hx2
          unfold nv at hx3
          rw [List.getElem?_map, ens] at hx3
          exact (Option.some.inj hx3).symm
        subst hx2'
        have hm : ns[i] < ps.length := by rw [hlen]; exact hlt _ (List.getElem_mem hi)
        have ep : ps[ns[i]]? = some (ps[ns[i]]) := List.getElem?_eq_getElem hm
        have hps := h2p _ _ ep
        have nLt : L ≠ t := ne_of_none h2L ht
        have npt : ∀ m p, ps[m]? = some p → p ≠ t := fun m p hp => ne_of_none (h2p m p hp) ht
        have s3 : Same H0 (upd H2 t (.tup [V.int i, V.int (ns[i] : Nat)])) := Same.upd s2 ht
        refine ⟨t, _, rfl, .inl (.inl upd_same), rfl, _, _, rfl, _, _, rfl, rfl, ?_⟩
        refine ⟨_, rfl, _, rfl, L, _, ns[i], _, rfl, rfl, .inl (SqL.of (by rw [upd_ne nLt]; exact h2L)), by rw [List.getElem?_map, ep]; rfl, ?_, _, rfl, ps[ns[i]], _, _, rfl, rfl, by rw [upd_ne (npt _ _ ep)]; exact hps, ?_, ?_⟩
        · exact Or.inl ⟨rfl, _, SqL.of (by rw [upd_ne (npt _ _ ep)]; exact hps)⟩
        · have : (nv (lotTo ns i ns[i])).length ≤ i := by
            unfold nv lotTo
            rw [List.length_map]
            exact Nat.le_trans (List.length_filter_le _ _) (by simp)
          have := small_line (show i + 1 ≤ 1000 by omega)
          omega
        · refine ⟨fun b o hb => ?_, _, _, rfl, ?_, fun m p hp => ?_⟩
          · rw [upd_ne (fun z => by have := (e4 _ (List.getElem_mem hm)).2; rw [← z, hb] at this; cases this)]
            exact s3 b o hb
          · rw [upd_ne (Ne.symm (Lps _ (List.getElem_mem hm))), upd_ne nLt]; exact h2L
          · have e5 : lotTo ns (i + 1) m = lotTo ns i m ++ (if ns[i] = m then [i] else []) := by
              unfold lotTo
              rw [range_filter_succ]
              congr 1
              by_cases c : ns[i] = m
              · rw [if_pos c, if_pos (by rw [ens, c]; simp)]
              · rw [if_neg c, if_neg (by rw [ens]; simpa using c)]
            by_cases c : ns[i] = m
            · have : p = ps[ns[i]] := by
                rw [← c, ep] at hp
                exact (Option.some.inj hp).symm
              rw [this, upd_same, e5, if_pos c, c]
              unfold nv
              rw [List.map_append]
              rfl
            · have np : p ≠ ps[ns[i]] := fun z => by
                obtain ⟨hm2, e6⟩ := List.getElem?_eq_some_iff.mp hp
                rw [z] at e6
                exact c ((List.getElem_inj e2).mp e6).symm
              rw [upd_ne np, upd_ne (npt m p hp), e5, if_neg c, List.append_nil]
              exact h2p m p hp
      · rintro σ H' ⟨s2, o2, o3, rfl, h2L, h2p⟩
        rw [hnl] at h2p
        have elot : ∀ m, lotTo ns ns.length m = lotOf ns m := fun m => rfl
        refine ⟨_, rfl, L, rfl, ⟨_, SqL.of h2L⟩, fun M hM => lcf (tt := fun σ H Q => tVar 4 σ H fun x H' => ∃ k, TruV K x H' k ∧ Q k H') (walk_list (xs := ps.map V.ref)) (fun i H v => isT isN H v (lotOf ns i)) (fun i => !(lotOf ns i).isEmpty) hM (by rw [List.length_map]; exact small_line (by omega)) (fun _ _ _ _ s q => mono_T mono_N _ _ _ _ s q)
          (fun H'' s => s.seq (SqL.of h2L)) (fun i x H4 H5 hi s o y Q Q' k1 k2 => ?_) (fun H4 ys s4 hM' q => ?_)⟩
        · obtain ⟨rfl, hx⟩ := y
          rw [List.length_map] at hi
          have ep : ps[i]? = some (ps[i]) := List.getElem?_eq_getElem hi
          rw [List.getElem?_map, ep] at hx
          cases hx
          have hp := (s.trans (same_cut _ _)) _ _ (h2p _ _ ep)
          rw [elot] at hp
          refine ⟨rfl, _, rfl, (!(lotOf ns i).isEmpty), .inl ⟨_, SqL.of hp, by unfold nv; cases lotOf ns i <;> rfl⟩, ?_⟩
          cases c : (lotOf ns i).isEmpty with
          | true => exact iteN rfl (k2 (by rw [c]; rfl) _ (Same.refl _))
          | false =>
            refine iteC rfl ⟨_, rfl, _, _, rfl, .inl ⟨SqL.of hp, fun l hl => k1 (by rw [c]; rfl) _ _ (same_upd hl) (nv_isT ?_)⟩⟩
            rw [cut_ne (fun z => by obtain ⟨o', ho'⟩ := o; rw [z, ho'] at hl; cases hl)]
            exact upd_same
        · refine ⟨M, ys, rfl, .inl ⟨SqL.of hM', fun l hl => ?_⟩⟩
          have s5 : Same H0 (upd H4 l (.tup ys)) := Same.upd (s2.trans s4) hl
          refine k l _ s5 (none_back (s2.trans s4) hl) ⟨l, ys, rfl, upd_same, ?_⟩
          rw [List.length_map, hlen] at q
          unfold M4.lotsOf
          rw [List.filter_map]
          refine pMapL (pImp q fun i v r => mono_T mono_N _ _ _ _ (same_upd hl) r)
end
end K4
/-! K20: Parting. -/
namespace K4
open PySem PySem.Spec PyProof.Rows L2 StX
open M4 (Bd fi canonN lotOf lotsOf Canon)
section
variable {P : Program} {w : World} {K : PySem.W.Frag} {mg : Str → Option Value} {base : Heap} {C_Parting : Addr}
def isPar (CP : Addr) : RelH (List Nat) := fun H v ns => ∃ a dx t1 t2, v = .ref a ∧ H a = some (.ins CP dx [("own_names", t1), ("own_lots", t2)]) ∧ isT isN H t1 ns ∧ isT (isT isN) H t2 (lotsOf ns)
theorem mono_Par {CP : Addr} : Mono (isPar CP) := fun _ _ _ _ s ⟨a, dx, t1, t2, e, h, q1, q2⟩ => ⟨a, dx, t1, t2, e, s _ _ h, mono_T mono_N _ _ _ _ s q1, mono_TTN _ _ _ _ s q2⟩
theorem monoN_Par {CP : Addr} : MonoN (isPar CP) := fun _ _ _ _ s ⟨a, dx, t1, t2, e, h, q1, q2⟩ => ⟨a, dx, t1, t2, e, s _ _ h (fun _ z => by cases z), monoN_T monoN_N _ _ _ _ s q1, monoN_T (monoN_T monoN_N) _ _ _ _ s q2⟩
theorem canon_lt {ls : List Int} : ∀ n ∈ canonN ls, n < (canonN ls).length := fun n hn => by
  obtain ⟨i, hi⟩ := List.getElem?_of_mem hn
  exact (List.getElem?_eq_some_iff.mp (M4.canon_canonN ls i n hi).2).1
def spParting_init (CP : Addr) : L2.Sp := fun vs H Q _ => ∃ (x dx a : Addr) (ls : List Int), vs = [.ref x, .ref a] ∧ H x = some (.ins CP dx []) ∧ cut H x a = some (.lst (ls.map V.int)) ∧ 1 ≤ ls.length ∧ ls.length ≤ 16 ∧
  ∀ t1 t2 H', Same (cut H x) (cut H' x) → H' x = some (.ins CP dx [("own_names", t1), ("own_lots", t2)]) → isT isN (cut H' x) t1 (canonN ls) → isT (isT isN) (cut H' x) t2 (lotsOf (canonN ls)) → Q .non H'
theorem sc_Parting___init__ : FnScope ["self", "labels"] ["self", "labels"] (defScope s_Parting___init__) := ⟨rfl, rfl, rfl, by decide +kernel, rfl, by decide +kernel, by decide +kernel⟩

theorem ok_Parting_init (D : MkT K mg "Parting" "Parting.__init__" C_Parting s_Parting___init__ []) (n1 : NoAttr K C_Parting "own_names") (n2 : NoAttr K C_Parting "own_lots") (ok_need_labels : Cal P w K mg base CX0 37 "need_labels" spNeedLb) (ok_least_plots : Cal P w K mg base CX0 33 "least_plots" spLeast)
    (ok_named_lots : Cal P w K mg base CX0 33 "named_lots" spLots) : CalM P w K mg base CX0 39 "Parting" C_Parting (spParting_init C_Parting) := by
  have cT := D.cls
  obtain ⟨f, D, M, hm⟩ := D.d
  refine ⟨f, D.fnR0 sc_Parting___init__ (fun _ _ _ _ _ _ us hl => match us, hl with | [_, _], _ => rfl) (fun vs H Q E h => ?_) (fun cdv A outer s H vs Q E hr h => ?_), M, hm⟩
  · obtain ⟨x, dx, a, ls, rfl, _⟩ := h; rfl
  · obtain ⟨x, dx, a, ls, rfl, hx, hA, h1, h16, k⟩ := h
    obtain ⟨hax, hA'⟩ := cut_some hA
    refine ⟨_, (pss_cons (ps_expr (pe_cal ok_need_labels (hr.mono (by decide)) (pa_cons (pv 1) pa_nil)))
      (pss_cons (ps_fld (pv 0) (pe_cal ok_least_plots (hr.mono (by decide)) (pa_cons (pv 1) pa_nil)) rfl)
      (pss_one (ps_fld (pv 0) (pe_cal ok_named_lots (hr.mono (by decide)) (pa_cons (pe_fldK K (pv 0)) pa_nil)) rfl)))), ?_⟩
    refine ⟨_, rfl, a, ls, rfl, hA', h1, h16, fun H1 s1 => ?_⟩
    refine ⟨_, rfl, a, ls, rfl, s1 _ _ hA', h16, fun c H2 s2 hc hq => ?_⟩
    have s12 := s1.trans s2
    have hx2 := s12 _ _ hx
    have cx : c ≠ x := fun z => by
      obtain ⟨a', vs, e, h, _⟩ := hq
      cases e
      rw [z, hx2] at h; cases h
    refine ⟨_, rfl, x, C_Parting, dx, [], rfl, hx2, cT, n1, by show 0 < 1000; omega, ?_⟩
    have eU : cut (upd H2 x (.ins C_Parting dx (putF "own_names" (.ref c) []))) x = cut H2 x := cut_upd
    have hq2 : isT isN (upd H2 x (.ins C_Parting dx (putF "own_names" (.ref c) []))) (.ref c) (canonN ls) := by
      obtain ⟨a', vs, e, h, p⟩ := hq
      cases e
      exact ⟨c, vs, rfl, by rw [upd_ne cx]; exact h, pImp p fun _ _ r => r⟩
    refine ⟨_, rfl, x, C_Parting, dx, _, .ref c, rfl, upd_same, cT, n1, rfl, c, canonN ls, rfl, hq2, by rw [M4.canonN_len]; exact h16, canon_lt, fun d H3 s3 hd hl => ?_⟩
    have hx3 := s3 _ _ (upd_same (H := H2) (a := x) (o := .ins C_Parting dx (putF "own_names" (.ref c) [])))
    have sC : Same (cut H2 x) (cut H3 x) := by
      have := Same.cut s3 x
      rw [eU] at this; exact this
    refine ⟨_, rfl, x, C_Parting, dx, _, rfl, hx3, cT, n2, by show 1 < 1000; omega, ?_⟩
    refine k (.ref c) (.ref d) _ ?_ upd_same ?_ ?_
    · rw [cut_upd]; exact (Same.cut s12 x).trans sC
    · rw [cut_upd]
      refine mono_T mono_N _ _ _ _ sC ?_
      obtain ⟨a', vs, e, h, p⟩ := hq
      cases e
      exact ⟨c, vs, rfl, by rw [cut_ne cx]; exact h, pImp p fun _ _ r => r⟩
    · rw [cut_upd]
      obtain ⟨a', vs, e, h, p⟩ := hl
      cases e
      have dx' : d ≠ x := fun z => by rw [z, hx3] at h; cases h
      refine ⟨d, vs, rfl, by rw [cut_ne dx']; exact h, pImp p fun l v r => ?_⟩
      obtain ⟨b, us, rfl, hb, p2⟩ := r
      have bx : b ≠ x := fun z => by rw [z, hx3] at hb; cases hb
      exact ⟨b, us, rfl, by rw [cut_ne bx]; exact hb, pImp p2 fun _ _ r => r⟩
def RPar (CP : Addr) : Hp → Addr → Int → Prop := fun H a n => ∃ ns, isPar CP H (.ref a) ns ∧ n = ns.length
theorem sc_Parting_plots : FnScope ["self"] ["self"] (defScope s_Parting_plots) := ⟨rfl, rfl, rfl, by decide +kernel, rfl, by decide +kernel, by decide +kernel⟩

theorem ok_Parting_plots (D : PrD K C_Parting "plots" "Parting.plots" s_Parting_plots) (n1 : NoAttr K C_Parting "own_names") (T_len : mg "len" = none) : CalP P w K mg base CX0 33 C_Parting "plots" (spNum (RPar C_Parting)) := by
  have cT := D.cls
  obtain ⟨p, g, hp, D⟩ := D.d
  refine ⟨cT, p, g, hp, D.fnR0 sc_Parting_plots (fun _ _ _ _ _ _ us hl => match us, hl with | [_], _ => rfl) (fun vs H Q E h => ?_) (fun cdv A outer s H vs Q E hr h => ?_)⟩
  · obtain ⟨a, n, rfl, _⟩ := h; rfl
  · obtain ⟨a, n, rfl, ⟨ns, ⟨a', dx, t1, t2, e, ha, hq, _⟩, rfl⟩, k⟩ := h
    cases e
    obtain ⟨t, vs, rfl, ht, pp⟩ := hq
    refine ⟨_, (pss_one (ps_ret (pe_callB (call_lenK K) (by rfl) T_len b_len (pa_cons (pe_fldK K (pv 0)) pa_nil)))), ?_⟩
    rw [pLen pp] at k
    exact ⟨_, rfl, a, C_Parting, dx, _, .ref t, rfl, ha, cT, n1, rfl, t, vs, rfl, .inr (.inl (.inl ht)), k⟩
theorem sc_Parting_names : FnScope ["self"] ["self"] (defScope s_Parting_names) := ⟨rfl, rfl, rfl, by decide +kernel, rfl, by decide +kernel, by decide +kernel⟩

theorem ok_Parting_names (D : PrD K C_Parting "names" "Parting.names" s_Parting_names) (nC : NoAttr K C_Parting "own_names") : CalP P w K mg base CX0 33 C_Parting "names" (spFldOf C_Parting "own_names") := by
  have cT := D.cls
  obtain ⟨p, g, hp, D⟩ := D.d
  refine ⟨cT, p, g, hp, D.fnR0 sc_Parting_names (fun _ _ _ _ _ _ us hl => match us, hl with | [_], _ => rfl) (fun vs H Q E h => ?_) (fun cdv A outer s H vs Q E hr h => ?_)⟩
  · obtain ⟨a, dx, fs, v, rfl, _⟩ := h; rfl
  · obtain ⟨a, dx, fs, v, rfl, ha, hl, k⟩ := h
    refine ⟨_, (pss_one (ps_ret (pe_fldK K (pv 0)))), ?_⟩
    exact ⟨_, rfl, a, C_Parting, dx, fs, v, rfl, ha, cT, nC, hl, k⟩
theorem sc_Parting_lots : FnScope ["self"] ["self"] (defScope s_Parting_lots) := ⟨rfl, rfl, rfl, by decide +kernel, rfl, by decide +kernel, by decide +kernel⟩

theorem ok_Parting_lots (D : PrD K C_Parting "lots" "Parting.lots" s_Parting_lots) (nC : NoAttr K C_Parting "own_lots") : CalP P w K mg base CX0 33 C_Parting "lots" (spFldOf C_Parting "own_lots") := by
  have cT := D.cls
  obtain ⟨p, g, hp, D⟩ := D.d
  refine ⟨cT, p, g, hp, D.fnR0 sc_Parting_lots (fun _ _ _ _ _ _ us hl => match us, hl with | [_], _ => rfl) (fun vs H Q E h => ?_) (fun cdv A outer s H vs Q E hr h => ?_)⟩
  · obtain ⟨a, dx, fs, v, rfl, _⟩ := h; rfl
  · obtain ⟨a, dx, fs, v, rfl, ha, hl, k⟩ := h
    refine ⟨_, (pss_one (ps_ret (pe_fldK K (pv 0)))), ?_⟩
    exact ⟨_, rfl, a, C_Parting, dx, fs, v, rfl, ha, cT, nC, hl, k⟩
def spOne (CP : Addr) : L2.Sp := fun vs H Q _ => ∃ n : Nat, vs = [.ref CP, .int n] ∧ 1 ≤ n ∧ n ≤ 16 ∧ ∀ a H' ns, Same H H' → isPar CP H' (.ref a) ns → ns.length = n → Canon ns → Q (.ref a) H'
theorem sc_Parting_one : FnScope ["cls", "plots"] ["cls", "plots"] (defScope s_Parting_one) := ⟨rfl, rfl, rfl, by decide +kernel, rfl, by decide +kernel, by decide +kernel⟩

theorem ok_Parting_one (D : CmD K C_Parting "one" "Parting.one" s_Parting_one) (ok_need_plots : Cal P w K mg base CX0 33 "need_plots" spNeedPl) (ok_Parting : CalM P w K mg base CX0 39 "Parting" C_Parting (spParting_init C_Parting)) :
    CalC P w K mg base CX0 41 C_Parting "one" (spOne C_Parting) := by
  obtain ⟨mc, p, g, h1, h2, D⟩ := D.d
  refine ⟨mc, p, g, h1, h2, D.fnR0 sc_Parting_one (fun _ _ _ _ _ _ us hl => match us, hl with | [_, _], _ => rfl) (fun vs H Q E h => ?_) (fun cdv A outer s H vs Q E hr h => ?_)⟩
  · obtain ⟨n, rfl, _⟩ := h; rfl
  · obtain ⟨n, rfl, l1, l16, k⟩ := h
    refine ⟨_, (pss_cons (ps_expr (pe_cal ok_need_plots (hr.mono (by decide)) (pa_cons (pv 1) pa_nil)))
      (pss_one (ps_ret (pe_mkV (i := 0) ok_Parting (hr.mono (by decide)) rfl (Or.inl rfl) (pa_cons (pe_op op_rep (pe_lst (pa_cons pe_int pa_nil)) (pv 1)) pa_nil))))), ?_⟩
    refine ⟨_, rfl, n, rfl, by omega, by omega, ?_⟩
    refine ⟨rfl, by show 1 ≤ sizeLine; decide, fun L hL => ⟨_, rfl, L, n, _, rfl, rfl, upd_same, by omega, by omega, by have := small_line (show n ≤ 1000 by omega); simp; omega, fun M hM => ?_⟩⟩
    intro x dx hx hd hne
    have eL : (List.replicate (n : Int).toNat [V.int 0]).flatten = (List.replicate n (0 : Int)).map V.int := by
      rw [Int.toNat_natCast]
      induction n with
      | zero => rfl
      | succ m ih => simp [List.replicate_succ]
    have nMx : M ≠ x := ne_of_none upd_same hx
    have nMd : M ≠ dx := ne_of_none upd_same hd
    refine ⟨x, dx, M, List.replicate n 0, rfl, upd_same, ?_, by simpa using l1, by simpa using l16, fun t1 t2 H3 s3 hx3 hq1 hq2 => ⟨rfl, ?_⟩⟩
    · rw [cut_ne nMx, upd_ne nMx, upd_ne nMd, upd_same, eL]
    · have s4 := same_made hx hd hne s3
      exact k x H3 (canonN (List.replicate n 0)) (((same_upd hL).trans (same_upd hM)).trans s4) ⟨x, dx, t1, t2, rfl, hx3, mono_T mono_N _ _ _ _ (same_cut H3 x) hq1, mono_TTN _ _ _ _ (same_cut H3 x) hq2⟩ (by rw [M4.canonN_len]; simp) (M4.canon_canonN _)
/-! ### marks_of -/
/-- what of H' is new behind H -/
def newp (H H' : Hp) : Hp := fun b => match H b with | none => H' b | some _ => none
theorem newp_of {H H' : Hp} {b : Addr} {o : HO} (h : H b = none) (e : H' b = some o) : newp H H' b = some o := by unfold newp; rw [h]; exact e
theorem newp_some {H H' : Hp} {b : Addr} {o : HO} (h : newp H H' b = some o) : H b = none ∧ H' b = some o := by
  unfold newp at h
  cases e : H b with
  | none => rw [e] at h; exact ⟨rfl, h⟩
  | some u => rw [e] at h; cases h
theorem newp_mono {H H' H'' : Hp} (s : Same H' H'') : Same (newp H H') (newp H H'') := fun b o h => by
  obtain ⟨h1, h2⟩ := newp_some h
  exact newp_of h1 (s _ _ h2)
theorem newp_same {H H' : Hp} : Same (newp H H') H' := fun b o h => (newp_some h).2
theorem newp_cut {H H' : Hp} {D : Addr} {o : HO} (h : H D = some o) : Same (newp H H') (cut H' D) := fun b u e => by
  obtain ⟨h1, h2⟩ := newp_some e
  rw [cut_ne (fun z => by rw [z, h] at h1; cases h1)]; exact h2
theorem newp_back {H H1 H2 : Hp} (s : Same H H1) : Same (newp H1 H2) (newp H H2) := fun b o h => by
  obtain ⟨h1, h2⟩ := newp_some h
  exact newp_of (none_back s h1) h2
def spMarks (CP : Addr) : L2.Sp := fun vs H Q _ => ∃ (a : Addr) (ns : List Nat), vs = [.ref a] ∧ isPar CP H (.ref a) ns ∧ Canon ns ∧ ns.length ≤ 16 ∧ ∀ c H', Same H H' → isL (isL isI) (newp H H') (.ref c) (M4.marksOf ns) → Q (.ref c) H'
theorem sc_marks_of : FnScope ["parting", "lot", "name"] ["parting"] (defScope s_marks_of) := ⟨rfl, rfl, rfl, by decide +kernel, rfl, by decide +kernel, by decide +kernel⟩

theorem ok_marks_of (D : Glo K mg "marks_of" "marks_of" s_marks_of) (GN : CalP P w K mg base CX0 33 C_Parting "names" (spFldOf C_Parting "own_names")) (GL : CalP P w K mg base CX0 33 C_Parting "lots" (spFldOf C_Parting "own_lots")) (T_int : mg "int" = none) : Cal P w K mg base CX0 37 "marks_of" (spMarks C_Parting) := by
  refine D.cal sc_marks_of (fun _ _ _ _ _ _ us hl => match us, hl with | [_], _ => rfl) (fun vs H Q E h => ?_) (fun f cdv A outer s H vs Q E hr h => ?_)
  · obtain ⟨a, ns, rfl, _⟩ := h; rfl
  · obtain ⟨a, ns, rfl, ⟨a', dx, t1, t2, e, ha, hq1, hq2⟩, hC, h16, k⟩ := h
    cases e
    obtain ⟨t, e1⟩ : ∃ t, t1 = V.ref t := by obtain ⟨t, _, e, _⟩ := hq1; exact ⟨t, e⟩
    subst e1
    have hN := isT_N hq1
    obtain ⟨t', lvs, e2, ht', hp2⟩ := hq2
    subst e2
    have hl2 := pLen hp2
    have hll : (lotsOf ns).length ≤ ns.length := by
      unfold M4.lotsOf
      exact Nat.le_trans (List.length_filter_le _ _) (by simp)
    refine ⟨_, (pss_one (ps_ret (pe_lc (own := [("lot", 1)]) (tt := tYes) (g := (gName 1)) rfl sc_marks_of.nd (pi_tupK K (pe_propR (pv 0) GL (hr.mono (by decide)))) (blkOk_by (N := ["parting", "lot", "name"]) (sc := defScope s_marks_of) (by decide +kernel)) (fun _ _ _ _ _ => (pg_name (i := 1) sc_marks_of.nd rfl (by first | exact Or.inl rfl | exact Or.inr rfl))) (fun _ _ _ _ _ => pts_nil) (fun _ _ _ _ _ => (pe_lc (own := [("name", 2)]) (tt := tYes) (g := (gName 2)) rfl sc_marks_of.nd (pi_tupK K (pe_propR (pv 0) GN (hr.mono (by decide)))) (blkOk_by (N := ["parting", "lot", "name"]) (sc := { kind := .function, names := [(PySem.Str.ofString ".0", .local), (PySem.Str.ofString "lot", .cell), (PySem.Str.ofString "parting", .cell)], isGenerator := false, isCoroutine := false }) (by decide +kernel)) (fun _ _ _ _ _ => (pg_name (i := 2) sc_marks_of.nd rfl (by first | exact Or.inl rfl | exact Or.inr rfl))) (fun _ _ _ _ _ => pts_nil) (fun _ _ _ _ _ => (pe_callTy call_int1 (by rfl) T_int b_int (pa_cons (pe_cmpR op_eq (pv 2) (pe_ix (ix_n K) (pv 1) pe_int (fun _ _ => rfl)) (nomark _)) pa_nil)))))))), ?_⟩
    obtain ⟨H0, eH0⟩ : ∃ H0 : Hp, H0 = H := ⟨H, rfl⟩
    refine ⟨_, rfl, a, dx, _, rfl, ha, a, dx, _, .ref t', rfl, ha, rfl, t', rfl, ⟨_, .inl (.inl ht')⟩, fun L hL => lcm (walk_tup (xs := lvs)) (fun i H v => ∃ l, (lotsOf ns)[i]? = some l ∧ isL isI (newp H0 H) v (M4.markOf ns l)) hL (small_line (by omega)) (fun _ _ _ _ s ⟨l, h, r⟩ => ⟨l, h, mono_L mono_I _ _ _ _ (newp_mono s) r⟩)
        (fun H' s => Same.tup s (.inl (.inl ht'))) (fun i x H1 H2 hi s o y Q k => ?_) (fun H1 ys s1 hL' q => ?_)⟩
    · obtain ⟨rfl, hx⟩ := y
      obtain ⟨oD, hD⟩ := o
      obtain ⟨l, hl, lt, lns, rfl, hlt, hlp⟩ := pGet2 hp2 hx
      have s1 := s.trans (same_cut _ _)
      obtain ⟨m, r, el, hm, _⟩ := M4.lots_head hC (List.mem_of_getElem? hl)
      have hlns : lns = nv l := by rw [pEqMap (f := fun n : Nat => V.int (n : Int)) hlp]; rfl
      have hlt2 := s1 _ _ hlt
      rw [hlns] at hlt2
      refine ⟨rfl, _, rfl, a, dx, _, rfl, s1 _ _ ha, a, dx, _, .ref t, rfl, s1 _ _ ha, rfl, t, rfl, ⟨_, .inl (.inl (s1 _ _ hN))⟩, fun M hM => lcm (walk_tup (xs := nv ns)) (fun i _ v => v = V.int (M4.ent (M4.markOf ns l) i)) hM (by unfold nv; rw [List.length_map]; exact small_line (by omega)) (fun _ _ _ _ _ q => q)
        (fun H' s => Same.tup (s1.trans s) (.inl (.inl hN))) (fun j x H5 H6 hj s5 o y Q k => ?_) (fun H5 ys s5 hM' q => ?_)⟩
      · obtain ⟨rfl, hx⟩ := y
        have hj2 : j < ns.length := by simpa [nv] using hj
        have ex : x = V.int (ns[j] : Nat) := by
          unfold nv at hx
          rw [List.getElem?_map, List.getElem?_eq_getElem hj2] at hx
          exact (Option.some.inj hx).symm
        subst ex
        have hl5 := (s5.trans (same_cut _ _)) _ _ hlt2
        refine ⟨rfl, _, rfl, _, rfl, lt, nv l, 0, V.int (m : Nat), rfl, rfl, .inr (.inl (.inl hl5)), by rw [el]; rfl, rfl, ?_⟩
        refine .inr ⟨_, rfl, k _ _ (Same.refl _) ?_⟩
        show V.int _ = V.int _
        have e1 : M4.ent (M4.markOf ns l) j = if ns[j] = l.headD 0 then 1 else 0 := by
          rw [M4.ent_lt (by unfold M4.markOf; simpa using hj2)]
          unfold M4.markOf
          rw [List.getElem_map]
        rw [e1, el]
        show V.int (if decide (V.int (ns[j] : Nat) = V.int (m : Nat)) = true then 1 else 0) = _
        by_cases c : ns[j] = m
        · simp [c]
        · have : ¬ ((ns[j] : Nat) : Int) = (m : Int) := by omega
          simp [c]
          exact this
      · have hml : (nv ns).length = ns.length := by unfold nv; simp
        rw [hml] at q
        have e := ints_done (zs := M4.markOf ns l) (by unfold M4.markOf; simp) q
        rw [e] at hM'
        have nM : M ≠ L := new_ne hD hM
        refine k _ _ s5 ⟨l, hl, isLI.mpr ⟨M, rfl, ?_⟩⟩
        refine newp_of ?_ ?_
        · rw [eH0]; exact none_back s1 hM
        · rw [cut_ne nM]; exact hM'
    · have hyl := pLen q
      rw [List.length_range] at hyl
      refine k L _ s1 ⟨L, ys, rfl, newp_of hL hL', ?_⟩
      refine pOf (by unfold M4.marksOf; rw [List.length_map]; omega) fun j mk v hj hv => ?_
      obtain ⟨j', hj', l, hl, r⟩ := pGet2 q hv
      have hj2 := (List.getElem?_eq_some_iff.mp hv).1
      rw [List.getElem?_range (by omega)] at hj'
      cases hj'
      unfold M4.marksOf at hj
      rw [List.getElem?_map, hl] at hj
      cases hj
      rw [← eH0]
      exact r
end
end K4
/-! K21: Span.__init__. -/
namespace K4
open PySem PySem.Spec PyProof.Rows L2 StX LamX
open M4 (Bd BQ dj)
/-! ### what stands beside an instance, beside a list -/
def OffI {δ : Type} (R : RelH δ) : Prop := ∀ (H : Hp) (x C dx : Addr) (fs : List (Str × V)) (v : V) (d : δ), H x = some (.ins C dx fs) → R H v d → R (cut H x) v d
def OffL {δ : Type} (R : RelH δ) : Prop := ∀ (H : Hp) (x : Addr) (xs : List V) (v : V) (d : δ), H x = some (.lst xs) → R H v d → R (cut H x) v d
theorem offI_I : OffI isI := fun _ _ _ _ _ _ _ _ h => h
theorem offI_N : OffI isN := fun _ _ _ _ _ _ _ _ h => h
theorem offI_Q : OffI isQ := fun H x C dx fs v d hx ⟨a, e, h⟩ => ⟨a, e, by rw [cut_ne (fun z => by rw [z, hx] at h; cases h)]; exact h⟩
theorem offI_L {δ : Type} {R : RelH δ} (m : OffI R) : OffI (isL R) := fun H x C dx fs v d hx ⟨a, vs, e, h, p⟩ => ⟨a, vs, e, by rw [cut_ne (fun z => by rw [z, hx] at h; cases h)]; exact h, pImp p fun _ _ r => m _ _ _ _ _ _ _ hx r⟩
theorem offI_T {δ : Type} {R : RelH δ} (m : OffI R) : OffI (isT R) := fun H x C dx fs v d hx ⟨a, vs, e, h, p⟩ => ⟨a, vs, e, by rw [cut_ne (fun z => by rw [z, hx] at h; cases h)]; exact h, pImp p fun _ _ r => m _ _ _ _ _ _ _ hx r⟩
theorem offI_P {δ ε : Type} {R : RelH δ} {S : RelH ε} (m : OffI R) (n : OffI S) : OffI (isP R S) := fun H x C dx fs v d hx ⟨a, y, z, e, h, p, q⟩ => ⟨a, y, z, e, by rw [cut_ne (fun z => by rw [z, hx] at h; cases h)]; exact h, m _ _ _ _ _ _ _ hx p, n _ _ _ _ _ _ _ hx q⟩
theorem offI_Row : OffI isRow := offI_P offI_N (offI_L offI_I)
theorem offL_Q : OffL isQ := fun H x xs v d hx ⟨a, e, h⟩ => ⟨a, e, by rw [cut_ne (fun z => by rw [z, hx] at h; cases h)]; exact h⟩
theorem offL_T {δ : Type} {R : RelH δ} (m : OffL R) : OffL (isT R) := fun H x xs v d hx ⟨a, vs, e, h, p⟩ => ⟨a, vs, e, by rw [cut_ne (fun z => by rw [z, hx] at h; cases h)]; exact h, pImp p fun _ _ r => m _ _ _ _ _ hx r⟩
theorem offL_Tab {CT : Addr} : OffL (isTab CT) := fun H x xs v d hx ⟨a, dx, t, e, h, q⟩ => ⟨a, dx, t, e, by rw [cut_ne (fun z => by rw [z, hx] at h; cases h)]; exact h, offL_T offL_Q _ _ _ _ _ hx q⟩
theorem tabs_off {T : List (Addr × Str)} {H : Hp} {x C dx : Addr} {fs : List (Str × V)} (hx : H x = some (.ins C dx fs)) (h : Tabs T H) : Tabs T (cut H x) := fun p hp => by
  obtain ⟨ps, h1, h2, h3⟩ := h p hp
  refine ⟨ps, by rw [cut_ne (fun z => by rw [z, hx] at h1; cases h1)]; exact h1, h2, fun pos cv hc => ?_⟩
  obtain ⟨c, e1, e2⟩ := h3 pos cv hc
  refine ⟨c, e1, ?_⟩
  rw [cut_ne (fun z => by
    rw [z, hx] at e2
    unfold CodeO at e2
    cases e2)]
  exact e2
theorem ExtN.cut {H H' : Hp} (e : ExtN H H') (x : Addr) : ExtN (cut H x) (cut H' x) := fun b o h n => by
  obtain ⟨h1, h2⟩ := cut_some h
  rw [cut_ne h1]; exact e b o h2 n
theorem hxE_ {P : Program} {w : World} {K : PySem.W.Frag} {mg : Str → Option Value} {base : Heap} {N : List Str} {q : Str} {sc : Scope} {f : Addr} {cdv : Value} {A : Around} {outer : List Env} {s : Shared} {H : Hp} {E : XK} :
    Passes (L2.CX P w) (cxOf (L2.CX P w) P w K mg base N q sc f cdv A outer s H E) E := passes_call (takes_of rfl rfl rfl rfl) (fun _ _ _ _ h => h)
/-! ### Span.__init__ -/
/-- the lengths: the first that is another -/
def badT (n : Int) (tabs : List (List Rat)) : Option Int := (tabs.map fun q => (q.length : Int)).find? fun m => decide (m ≠ n)
structure GoodT (n b r : Nat) (tabs : List (List Rat)) : Prop where
  hn : n ≤ 6
  tab : ∀ q ∈ tabs, q.length = n ∧ BQ q b
  sz : 2 * M4.mk_ b 6 + 2 * b + 10 ≤ 134000000
  row : ∀ p zs, (p, zs) ∈ M4.elim (tabs.map M4.whole) → ∀ i, Bd (M4.ent zs i) r
  ax : 3 * (r + dj r 5) + 10 ≤ 134000000
def isSpan (CS CT : Addr) : RelH (Int × List (List Rat)) := fun H v d => ∃ a dx b ax, v = .ref a ∧ H a = some (.ins CS dx [("plot_count", .int d.1), ("basis", b), ("axes", ax)]) ∧ isT (isTab CT) H b d.2
theorem mono_Span {CS CT : Addr} : Mono (isSpan CS CT) := fun _ _ _ _ s ⟨a, dx, b, ax, e, h, q⟩ => ⟨a, dx, b, ax, e, s _ _ h, mono_T mono_Tab _ _ _ _ s q⟩
theorem monoN_Span {CS CT : Addr} : MonoN (isSpan CS CT) := fun _ _ _ _ s ⟨a, dx, b, ax, e, h, q⟩ => ⟨a, dx, b, ax, e, s _ _ h (fun _ z => by cases z), monoN_T monoN_Tab _ _ _ _ s q⟩
/-- what a made span tells: its rows are the reduced ones of the tables -/
def SpanOf (tabs : List (List Rat)) (rows : M4.IRows) : Prop := rows.Perm (M4.elim (tabs.map M4.whole)) ∧ M4.Srt rows
def spSpan_init (CS CT CM CU P0 : Addr) : L2.Sp := fun vs H Q E => ∃ (x dx a : Addr) (plots : Int) (tabs : List (List Rat)), vs = [.ref x, .int plots, .ref a] ∧ H x = some (.ins CS dx []) ∧ isL (isTab CT) (cut H x) (.ref a) tabs ∧ 1 ≤ plots ∧ plots ≤ 16 ∧ Tabs (lamT P0) H ∧
  (tabs.length > 64 → Many CM "tables" 64 H E) ∧ (tabs.length ≤ 64 → ∀ m, badT plots tabs = some m → Unlike CU plots m H E) ∧
  (tabs.length ≤ 64 → badT plots tabs = none → ∃ n b r, GoodT n b r tabs ∧ ∀ bs ax H' rows, ExtN (cut H x) (cut H' x) → Tabs (lamT P0) H' → H' x = some (.ins CS dx [("plot_count", .int plots), ("basis", bs), ("axes", ax)]) → isT (isTab CT) (cut H' x) bs (M4.ratRows rows) → SpanOf tabs rows → Q .non H')
section
variable {P : Program} {w : World} {K : PySem.W.Frag} {mg : Str → Option Value} {base : Heap} {C_NoPlots C_TooMany C_UnlikePlots I_TooMany I_UnlikePlots C_Table C_Span P0 T0 : Addr}
theorem sc_Span___init__ : FnScope ["self", "plots", "tables", "reduced", "table", "place", "row"] ["self", "plots", "tables"] (defScope s_Span___init__) := ⟨rfl, rfl, rfl, by decide +kernel, rfl, by decide +kernel, by decide +kernel⟩

theorem ok_Span_init (D : MkT K mg "Span" "Span.__init__" C_Span s_Span___init__ [.ref T0]) (nP : NoAttr K C_Span "plot_count") (nB : NoAttr K C_Span "basis") (nA : NoAttr K C_Span "axes") (T_TooMany : TxMany P K mg C_TooMany I_TooMany) (g_MOST_TABLES : ∃ t, mg "MOST_TABLES" = some (.int 64 t))
    (ok_check_plots_aid_strata : Cal P w K mg base (L2.CX P w) 33 "check_plots_aid_strata" (spCheck C_NoPlots C_TooMany)) (ok_check_counts : Cal P w K mg base (L2.CX P w) 35 "check_counts" (spCounts C_UnlikePlots C_Table (RTab C_Table)))
    (ok_reduced_rows : Cal P w K mg base CX0 39 "reduced_rows" (spReduced P0)) (ok_whole_cells : Cal P w K mg base CX0 35 "whole_cells" spWhole_cells) (ok_row_cells : Cal P w K mg base CX0 39 "row_cells" spRow_cells) (ok_new_axes : Cal P w K mg base CX0 39 "new_axes" spNew_axes)
    (ok_Table : CalM P w K mg base CX0 39 "Table" C_Table (spTable_init C_Table)) (GC : CalP P w K mg base CX0 33 C_Table "cells" (spFldOf C_Table "cell_row")) (T_len : mg "len" = none) (T_tuple : mg "tuple" = none) :
    CalM P w K mg base (L2.CX P w) 42 "Span" C_Span (spSpan_init C_Span C_Table C_TooMany C_UnlikePlots P0) := by
  have cS := D.cls
  obtain ⟨f, D, M, hm⟩ := D.d
  refine ⟨f, (D.fnRd (sp := spSpan_init C_Span C_Table C_TooMany C_UnlikePlots P0) (by simp) sc_Span___init__ 3 1 rfl (fun _ _ _ _ _ _ _ us its h1 h2 => match us, its, h1, h2 with | [_, _, _], [_], _, _ => ⟨_, rfl, rfl⟩) (fun vs H Q E h => ?_) (fun cdv A outer s H vs Q E hr h => ?_)).imp (fun vs H Q E h => by rw [show vs ++ List.drop 1 [V.ref T0] = vs by simp]; exact h), M, hm⟩
  · obtain ⟨x, dx, a, n, tabs, rfl, _⟩ := h; rfl
  · obtain ⟨x, dx, a, plots, tabs, rfl, hx, ⟨a', tvs, e, hA, hp⟩, p1, p16, hT, e1, e2, k⟩ := h
    cases e
    obtain ⟨nax, hA'⟩ := cut_some hA
    have hp0 : Paired (fun q v => isTab C_Table H v q) tabs tvs := pImp hp fun _ _ r => mono_Tab _ _ _ _ (same_cut H x) r
    have hl := pLen hp
    have hxE := hxE_ (P := P) (w := w) (K := K) (mg := mg) (base := base) (N := ["self", "plots", "tables", "reduced", "table", "place", "row"]) (q := "Span.__init__") (sc := defScope s_Span___init__) (f := f) (cdv := cdv) (A := A) (outer := outer) (s := s) (H := H) (E := E)
    refine ⟨_, (pss_cons (ps_expr (pe_cal ok_check_plots_aid_strata (hr.mono (by decide)) (pa_cons (pv 1) pa_nil) (hx := hxE)))
      (pss_cons (ps_if (pt_cmpR op_gt (pe_callB (call_lenK K) (by rfl) T_len b_len (pa_cons (pv 2) pa_nil)) (pe_glob (v := .int 64) rfl g_MOST_TABLES.choose_spec ⟨_, rfl⟩) (nomark _)) (pss_one (ps_raise rfl (takes_of rfl rfl rfl rfl) (pmk_e2 S_TooMany T_TooMany hr (pa_cons pe_str (pa_cons (pe_glob (v := .int 64) rfl g_MOST_TABLES.choose_spec ⟨_, rfl⟩) pa_nil))))) pss_nil)
      (pss_cons (ps_expr (pe_cal ok_check_counts (hr.mono (by decide)) (pa_cons (pv 1) (pa_cons (pv 2) pa_nil)) (hx := hxE)))
      (pss_cons (ps_set (i := 3) sc_Span___init__.nd rfl (by first | exact Or.inl rfl | exact Or.inr rfl) (pe_cal ok_reduced_rows (hr.mono (by decide)) (pa_cons (pe_lc (own := [("table", 4)]) (tt := tYes) (g := (gName 4)) rfl sc_Span___init__.nd (pi_listK K (pv 2)) (blkOk_by (N := ["self", "plots", "tables", "reduced", "table", "place", "row"]) (sc := defScope s_Span___init__) (by decide +kernel)) (fun _ _ _ _ _ => (pg_name (i := 4) sc_Span___init__.nd rfl (by first | exact Or.inl rfl | exact Or.inr rfl))) (fun _ _ _ _ _ => pts_nil) (fun _ _ _ _ _ => (pe_ix (ix_n K) (pe_cal ok_whole_cells (hr.mono (by decide)) (pa_cons (pe_propR (pv 4) GC (hr.mono (by decide))) pa_nil)) pe_int (fun _ _ => rfl)))) pa_nil)))
      (pss_cons (ps_fld (pv 0) (pv 1) rfl)
      (pss_cons (ps_fld (pv 0) (pe_callTy (call_tupleK K) (by rfl) T_tuple b_tuple (pa_cons (pe_lc (own := [("place", 5), ("row", 6)]) (tt := tYes) (g := (gTup K 2 (gCons (gName 5) (gCons (gName 6) gNil)))) rfl sc_Span___init__.nd (pi_listK K (pv 3)) (blkOk_by (N := ["self", "plots", "tables", "reduced", "table", "place", "row"]) (sc := defScope s_Span___init__) (by decide +kernel)) (fun _ _ _ _ _ => (pg_tup rfl (pgs_cons (pg_name (i := 5) sc_Span___init__.nd rfl (by first | exact Or.inl rfl | exact Or.inr rfl)) (pgs_cons (pg_name (i := 6) sc_Span___init__.nd rfl (by first | exact Or.inl rfl | exact Or.inr rfl)) pgs_nil)))) (fun _ _ _ _ _ => pts_nil) (fun _ _ _ _ _ => (pe_mk ok_Table (hr.mono (by decide)) (pa_cons (pe_cal ok_row_cells (hr.mono (by decide)) (pa_cons (pv 5) (pa_cons (pv 6) pa_nil))) pa_nil)))) pa_nil)) rfl)
      (pss_one (ps_fld (pv 0) (pe_cal ok_new_axes (hr.mono (by decide)) (pa_cons (pe_lst pa_nil) (pa_cons (pe_lc (own := [("place", 5), ("row", 6)]) (tt := tYes) (g := (gTup K 2 (gCons (gName 5) (gCons (gName 6) gNil)))) rfl sc_Span___init__.nd (pi_listK K (pv 3)) (blkOk_by (N := ["self", "plots", "tables", "reduced", "table", "place", "row"]) (sc := defScope s_Span___init__) (by decide +kernel)) (fun _ _ _ _ _ => (pg_tup rfl (pgs_cons (pg_name (i := 5) sc_Span___init__.nd rfl (by first | exact Or.inl rfl | exact Or.inr rfl)) (pgs_cons (pg_name (i := 6) sc_Span___init__.nd rfl (by first | exact Or.inl rfl | exact Or.inr rfl)) pgs_nil)))) (fun _ _ _ _ _ => pts_nil) (fun _ _ _ _ _ => (pv 6))) pa_nil))) rfl)))))))), ?_⟩
    refine ⟨_, rfl, plots, rfl, fun c => absurd c (by omega), fun c => absurd c (by omega), fun _ _ => ?_⟩
    refine ⟨_, rfl, a, _, rfl, .inl (SqL.of hA'), _, _, rfl, rfl, _, rfl, ?_⟩
    by_cases c64 : (tvs.length : Int) > 64
    · exact iteC (by simpa using c64) ⟨_, _, rfl, fun d hd => e1 (by omega) d _ (same_upd hd) upd_same⟩
    · refine iteN (by simpa using c64) ?_
      refine ⟨_, rfl, _, rfl, plots, a, tvs, tabs.map (fun q : List Rat => (q.length : Int)), rfl, hA', pMapL (pImp hp0 fun q v r => ?_), fun hb => ?_, fun m hm => e2 (by omega) m (show badT plots tabs = some m from hm)⟩
      · obtain ⟨b, dy, t, rfl, hb, q'⟩ := r
        exact ⟨b, dy, _, rfl, hb, rTab ⟨b, dy, t, rfl, hb, q'⟩⟩
      obtain ⟨n, b, r, G, k⟩ := k (by omega) hb
      have htl : tvs.length ≤ 64 := by omega
      refine ⟨_, rfl, a, rfl, ⟨_, SqL.of hA'⟩, fun L hL => lcm (walk_list (xs := tvs)) (fun i H v => ∃ q, tabs[i]? = some q ∧ isL isI H v (M4.whole q)) hL (small_line (by omega)) (fun _ _ _ _ s ⟨q, h, r⟩ => ⟨q, h, mono_L mono_I _ _ _ _ s r⟩)
        (fun H' s => s.seq (SqL.of hA')) (fun i y H1 H2 hi s o yy Q k => ?_) (fun H1 ys s1 hL' q => ?_)⟩
      · obtain ⟨rfl, hy⟩ := yy
        obtain ⟨oD, hD⟩ := o
        obtain ⟨q, hq, b', dy, t, rfl, hb', hq'⟩ := pGet2 hp0 hy
        have s1 := s.trans (same_cut _ _)
        obtain ⟨t', e⟩ : ∃ t', t = V.ref t' := by obtain ⟨t', _, e, _⟩ := hq'; exact ⟨t', e⟩
        subst e
        obtain ⟨ql, qb⟩ := G.tab q (List.mem_of_getElem? hq)
        have Ghn := G.hn
        have Gsz := G.sz
        refine ⟨rfl, _, rfl, b', dy, _, rfl, s1 _ _ hb', b', dy, _, .ref t', rfl, s1 _ _ hb', rfl, t', q, b, rfl, mono_T mono_Q _ _ _ _ s1 hq', by omega, qb, by omega, fun p l H3 s3 hl0 hp3 hl3 => ?_⟩
        refine ⟨p, _, 0, .ref l, rfl, rfl, .inr (.inl (.inl hp3)), rfl, k _ _ s3 ⟨q, hq, isLI.mpr ⟨l, rfl, ?_⟩⟩⟩
        rw [cut_ne (new_ne hD hl0)]; exact hl3
      · have hyl := pLen q
        rw [List.length_range] at hyl
        have hvs : isL (isL isI) H1 (.ref L) (tabs.map M4.whole) := ⟨L, ys, rfl, hL', pMapL (pOf (by omega) fun j qv v hj hv => by
          obtain ⟨j', hj', q', h1, h2⟩ := pGet2 q hv
          have hj2 := (List.getElem?_eq_some_iff.mp hv).1
          rw [List.getElem?_range (by omega)] at hj'
          cases hj'
          rw [h1] at hj
          cases hj
          exact h2)⟩
        have hv : ∀ v ∈ tabs.map M4.whole, v.length = n ∧ ∀ i, Bd (M4.ent v i) b := fun v hm => by
          obtain ⟨q, hq, rfl⟩ := List.mem_map.mp hm
          obtain ⟨ql, qb⟩ := G.tab q hq
          exact ⟨by rw [M4.whole_len]; exact ql, qb.whole.2⟩
        refine ⟨L, _, n, b, rfl, hvs, G.hn, hv, G.sz, hT.ext s1, fun c H2 rows eN T2 hrows perm srt => ?_⟩
        have IR : M4.IRed n rows := (M4.elim_spec fun v hm => (hv v hm).1).1.perm perm
        have hcnt := IR.count
        have Ghn := G.hn
        have e02 : ExtN H H2 := (extN_of s1).trans eN
        have hx2 : H2 x = some (.ins C_Span dx []) := e02 _ _ hx (fun _ z => by cases z)
        -- the first field
        refine ⟨_, rfl, _, rfl, x, C_Span, dx, [], rfl, hx2, cS, nP, by show 0 < 1000; omega, ?_⟩
        have hrows2 := offI_Row |> fun m => offI_L m H2 x C_Span dx [] _ _ hx2 hrows
        have T2c := tabs_off hx2 T2
        have hx3 : (upd H2 x (.ins C_Span dx (putF "plot_count" (.int plots) []))) x = some (.ins C_Span dx (putF "plot_count" (.int plots) [])) := upd_same
        have hc3 : cut (upd H2 x (.ins C_Span dx (putF "plot_count" (.int plots) []))) x = cut H2 x := cut_upd
        generalize upd H2 x (.ins C_Span dx (putF "plot_count" (.int plots) [])) = H3 at *
        rw [← hc3] at hrows2 T2c
        have hrows3 := mono_L mono_Row _ _ _ _ (same_cut H3 x) hrows2
        obtain ⟨c', rvs, e, hc, hpr⟩ := hrows3
        cases e
        have hrl := pLen hpr
        -- the second
        refine ⟨_, rfl, c, rfl, ⟨_, SqL.of hc⟩, fun L2 hL2 => lcm (walk_list (xs := rvs)) (fun i H v => ∃ p zs, rows[i]? = some (p, zs) ∧ isTab C_Table H v (M4.ratRow p zs)) hL2 (small_line (by omega)) (fun _ _ _ _ s ⟨p, zs, h, r⟩ => ⟨p, zs, h, mono_Tab _ _ _ _ s r⟩)
          (fun H' s => s.seq (SqL.of hc)) (fun i y H4 H5 hi s4 o yy Q k => ?_) (fun H4 ys4 s4 hL4 q4 => ?_)⟩
        · obtain ⟨rfl, hy⟩ := yy
          obtain ⟨oD, hD⟩ := o
          obtain ⟨⟨p, zs⟩, hr1, rx⟩ := pGet2 hpr hy
          have s34 := s4.trans (same_cut _ _)
          obtain ⟨t, x1, x2, rfl, ht, h1, h2⟩ := mono_Row _ _ _ _ s34 rx
          obtain rfl : x1 = .int p := h1
          obtain ⟨c3, rfl, hc3'⟩ := isLI.mp h2
          have hmem := List.mem_of_getElem? hr1
          have zl := IR.len p zs hmem
          have zp := IR.pos p zs hmem
          have zlt := IR.lt hmem
          refine ⟨t, _, rfl, .inl (.inl ht), rfl, _, _, rfl, _, _, rfl, rfl, rfl, ?_⟩
          refine ⟨_, rfl, _, rfl, c3, zs, p, rfl, hc3', by omega, by omega, fun l H6 s6 hl6 => ?_⟩
          intro x2 dx2 hx2' hd2 hne2
          obtain ⟨l', lvs, e, hll, hlp⟩ := hl6
          cases e
          have nlx : l ≠ x2 := ne_of_none hll hx2'
          have nld : l ≠ dx2 := ne_of_none hll hd2
          have sM : Same H6 (cut (upd (upd H6 dx2 (.own x2)) x2 (.ins C_Table dx2 [])) x2) := fun b o e => by
            have hb : b ≠ x2 := ne_of_none e hx2'
            rw [cut_ne hb, upd_ne hb, upd_ne (ne_of_none e hd2)]; exact e
          refine ⟨x2, dx2, l, M4.ratRow p zs, rfl, upd_same, ⟨l, lvs, rfl, sM _ _ hll, pImp hlp fun q v r => num_of_q (mono_Q _ _ _ _ sM r)⟩, by rw [M4.ratRow_len]; omega, by rw [M4.ratRow_len]; omega, fun t2 H7 s7 hx7 hq7 => ⟨rfl, ?_⟩⟩
          have s67 := same_made hx2' hd2 hne2 s7
          refine k _ _ (s6.trans s67) ⟨p, zs, hr1, ?_⟩
          have hD7 := (s6.trans s67) _ _ hD
          exact offL_Tab H7 L2 _ _ _ hD7 ⟨x2, dx2, t2, rfl, hx7, mono_T mono_Q _ _ _ _ (same_cut H7 x2) hq7⟩
        · have hyl4 := pLen q4
          rw [List.length_range] at hyl4
          refine ⟨L2, ys4, rfl, .inl ⟨SqL.of hL4, fun l hl4 => ?_⟩⟩
          have s5 : Same H3 (upd H4 l (.tup ys4)) := Same.upd s4 hl4
          have hb5 : isT (isTab C_Table) (upd H4 l (.tup ys4)) (.ref l) (M4.ratRows rows) := ⟨l, ys4, rfl, upd_same, by
            unfold M4.ratRows
            refine pMapL (pOf (by omega) fun j rv v hj hv => ?_)
            obtain ⟨j', hj', p, zs, h1, h2⟩ := pGet2 q4 hv
            have hj2 := (List.getElem?_eq_some_iff.mp hv).1
            rw [List.getElem?_range (by omega)] at hj'
            cases hj'
            rw [h1] at hj
            cases hj
            exact mono_Tab _ _ _ _ (same_upd hl4) h2⟩
          have hx5 := s5 _ _ hx3
          generalize upd H4 l (.tup ys4) = H5 at *
          refine ⟨_, rfl, x, C_Span, dx, _, rfl, hx5, cS, nB, by show 1 < 1000; omega, ?_⟩
          have hb6 : isT (isTab C_Table) (cut H5 x) (.ref l) (M4.ratRows rows) := by
            obtain ⟨l', us, e, hl, pp⟩ := hb5
            cases e
            refine ⟨l, us, rfl, by rw [cut_ne (fun z => by rw [z, hx5] at hl; cases hl)]; exact hl, pImp pp fun q v r => ?_⟩
            obtain ⟨b2, dy, t, rfl, hb2, hq2⟩ := r
            refine ⟨b2, dy, t, rfl, ?_, offI_T offI_Q H5 x C_Span dx _ _ _ hx5 hq2⟩
            rw [cut_ne (fun z => by
              rw [z, hx5] at hb2
              injection hb2 with hb3
              injection hb3 with _ _ hb4
              have h5 : [("plot_count" : Str)] = [("cell_row" : Str)] := congrArg (List.map fun (q : Str × V) => q.1) hb4
              exact absurd h5 (by decide))]
            exact hb2
          have hx6 : (upd H5 x (.ins C_Span dx (putF "basis" (.ref l) (putF "plot_count" (.int plots) [])))) x = some (.ins C_Span dx (putF "basis" (.ref l) (putF "plot_count" (.int plots) []))) := upd_same
          have hc6 : cut (upd H5 x (.ins C_Span dx (putF "basis" (.ref l) (putF "plot_count" (.int plots) [])))) x = cut H5 x := cut_upd
          have s35 : Same (cut H3 x) (cut H5 x) := Same.cut s5 x
          generalize upd H5 x (.ins C_Span dx (putF "basis" (.ref l) (putF "plot_count" (.int plots) []))) = H6 at *
          rw [← hc6] at hb6 s35
          have hrows6 := mono_L mono_Row _ _ _ _ (s35.trans (same_cut H6 x)) hrows2
          obtain ⟨c', rvs6, e, hc6', hpr6⟩ := hrows6
          cases e
          have hrl6 := pLen hpr6
          -- the third
          refine ⟨Nat.zero_le _, fun La hLa => ?_⟩
          have sA : Same H6 (upd H6 La (.lst [])) := same_upd hLa
          refine ⟨_, rfl, c, rfl, ⟨_, SqL.of (sA _ _ hc6')⟩, fun Lb hLb => lcm (walk_list (xs := rvs6)) (fun i H v => ∃ p zs, rows[i]? = some (p, zs) ∧ isL isI H v zs) hLb (small_line (by omega)) (fun _ _ _ _ s ⟨p, zs, h, r⟩ => ⟨p, zs, h, mono_L mono_I _ _ _ _ s r⟩)
            (fun H' s => (sA.trans s).seq (SqL.of hc6')) (fun i y H7 H8 hi s7 o yy Q k => ?_) (fun H7 ys7 s7 hL7 q7 => ?_)⟩
          · obtain ⟨rfl, hy⟩ := yy
            obtain ⟨⟨p, zs⟩, hr1, rx⟩ := pGet2 hpr6 hy
            have rx2 := mono_Row _ _ _ _ (sA.trans s7) rx
            obtain ⟨t, x1, x2, rfl, ht, h1, h2⟩ := rx2
            obtain rfl : x1 = .int p := h1
            refine ⟨t, _, rfl, .inl (.inl (same_cut _ _ _ _ ht)), rfl, _, _, rfl, _, _, rfl, rfl, rfl, ?_⟩
            exact ⟨_, rfl, k _ _ (Same.refl _) ⟨p, zs, hr1, h2⟩⟩
          · have hyl7 := pLen q7
            rw [List.length_range] at hyl7
            have hLa7 := s7 _ _ (upd_same (H := H6) (a := La) (o := .lst []))
            refine ⟨La, Lb, rows.map (·.2), n, r, rfl, hLa7, ⟨Lb, ys7, rfl, hL7, pMapL (pOf (by omega) fun j rv v hj hv => ?_)⟩, by omega, by rw [List.length_map]; omega, fun v hv => ?_, G.ax, fun ca H8 s8 => ?_⟩
            · obtain ⟨j', hj', p, zs, h1, h2⟩ := pGet2 q7 hv
              have hj2 := (List.getElem?_eq_some_iff.mp hv).1
              rw [List.getElem?_range (by omega)] at hj'
              cases hj'
              rw [h1] at hj
              cases hj
              exact h2
            · obtain ⟨⟨p, zs⟩, hm, rfl⟩ := List.mem_map.mp hv
              exact ⟨IR.len p zs hm, G.row p zs (perm.mem_iff.mp hm)⟩
            · have s68 := (sA.trans s7).trans s8
              have hx8 := s68 _ _ hx6
              refine ⟨_, rfl, x, C_Span, dx, _, rfl, hx8, cS, nA, by show 2 < 1000; omega, ?_⟩
              have sC := Same.cut s68 x
              refine k (.ref l) (.ref ca) _ rows ?_ ?_ upd_same ?_ ⟨perm, srt⟩
              · rw [cut_upd]
                have e1 := ExtN.cut e02 x
                rw [← hc3] at e1
                exact (e1.trans (extN_of s35)).trans (extN_of sC)
              · refine T2c.ext ((s35.trans sC).trans ?_)
                refine fun b o hb => ?_
                obtain ⟨h1, h2⟩ := cut_some hb
                rw [upd_ne h1]; exact h2
              · rw [cut_upd]
                exact mono_T mono_Tab _ _ _ _ sC hb6
end
end K4
/-! K22: the rest of Span. -/
namespace K4
open PySem PySem.Spec PyProof.Rows L2 StX LamX
open M4 (Bd BQ dj)
section
variable {P : Program} {w : World} {K : PySem.W.Frag} {mg : Str → Option Value} {base : Heap} {C_NoPlots C_TooMany C_UnlikePlots I_TooMany I_UnlikePlots C_Table C_Span C_Parting P0 T0 : Addr}
/-! ### Span(plots) -/
def spSpan_init0 (CS CT P0 : Addr) : L2.Sp := fun vs H Q E => ∃ (x dx : Addr) (plots : Int), vs = [.ref x, .int plots] ∧ H x = some (.ins CS dx []) ∧ 1 ≤ plots ∧ plots ≤ 16 ∧ Tabs (lamT P0) H ∧
  ∀ bs ax H', ExtN (cut H x) (cut H' x) → Tabs (lamT P0) H' → H' x = some (.ins CS dx [("plot_count", .int plots), ("basis", bs), ("axes", ax)]) → isT (isTab CT) (cut H' x) bs [] → Q .non H'
theorem ok_Span_init0 (hT0 : ∀ H : Hp, SqT K H T0 []) (D : MkT K mg "Span" "Span.__init__" C_Span s_Span___init__ [.ref T0]) (nP : NoAttr K C_Span "plot_count") (nB : NoAttr K C_Span "basis") (nA : NoAttr K C_Span "axes") (T_TooMany : TxMany P K mg C_TooMany I_TooMany) (g_MOST_TABLES : ∃ t, mg "MOST_TABLES" = some (.int 64 t))
    (ok_check_plots_aid_strata : Cal P w K mg base (L2.CX P w) 33 "check_plots_aid_strata" (spCheck C_NoPlots C_TooMany)) (ok_check_counts0 : Cal P w K mg base (L2.CX P w) 35 "check_counts" (spCounts0 (K := K)))
    (ok_reduced_rows : Cal P w K mg base CX0 39 "reduced_rows" (spReduced P0)) (ok_whole_cells : Cal P w K mg base CX0 35 "whole_cells" spWhole_cells) (ok_row_cells : Cal P w K mg base CX0 39 "row_cells" spRow_cells) (ok_new_axes : Cal P w K mg base CX0 39 "new_axes" spNew_axes)
    (ok_Table : CalM P w K mg base CX0 39 "Table" C_Table (spTable_init C_Table)) (GC : CalP P w K mg base CX0 33 C_Table "cells" (spFldOf C_Table "cell_row")) (T_len : mg "len" = none) (T_tuple : mg "tuple" = none) :
    CalM P w K mg base (L2.CX P w) 42 "Span" C_Span (spSpan_init0 C_Span C_Table P0) := by
  have cS := D.cls
  obtain ⟨f, D, M, hm⟩ := D.d
  refine ⟨f, (D.fnRd (sp := fun vs H Q E => ∃ us, vs = us ++ [V.ref T0] ∧ spSpan_init0 C_Span C_Table P0 us H Q E) (by simp) sc_Span___init__ 2 0 rfl (fun _ _ _ _ _ _ _ us its h1 h2 => match us, its, h1, h2 with | [_, _], [_], _, _ => ⟨_, rfl, rfl⟩) (fun vs H Q E h => ?_) (fun cdv A outer s H vs Q E hr h => ?_)).imp (fun vs H Q E h => ⟨vs, by simp, h⟩), M, hm⟩
  · obtain ⟨us, rfl, x, dx, n, rfl, _⟩ := h; rfl
  · obtain ⟨us, rfl, x, dx, plots, rfl, hx, p1, p16, hT, k⟩ := h
    have hxE := hxE_ (P := P) (w := w) (K := K) (mg := mg) (base := base) (N := ["self", "plots", "tables", "reduced", "table", "place", "row"]) (q := "Span.__init__") (sc := defScope s_Span___init__) (f := f) (cdv := cdv) (A := A) (outer := outer) (s := s) (H := H) (E := E)
    refine ⟨_, (pss_cons (ps_expr (pe_cal ok_check_plots_aid_strata (hr.mono (by decide)) (pa_cons (pv 1) pa_nil) (hx := hxE)))
      (pss_cons (ps_if (pt_cmpR op_gt (pe_callB (call_lenK K) (by rfl) T_len b_len (pa_cons (pv 2) pa_nil)) (pe_glob (v := .int 64) rfl g_MOST_TABLES.choose_spec ⟨_, rfl⟩) (nomark _)) (pss_one (ps_raise rfl (takes_of rfl rfl rfl rfl) (pmk_e2 S_TooMany T_TooMany hr (pa_cons pe_str (pa_cons (pe_glob (v := .int 64) rfl g_MOST_TABLES.choose_spec ⟨_, rfl⟩) pa_nil))))) pss_nil)
      (pss_cons (ps_expr (pe_cal ok_check_counts0 (hr.mono (by decide)) (pa_cons (pv 1) (pa_cons (pv 2) pa_nil)) (hx := hxE)))
      (pss_cons (ps_set (i := 3) sc_Span___init__.nd rfl (by first | exact Or.inl rfl | exact Or.inr rfl) (pe_cal ok_reduced_rows (hr.mono (by decide)) (pa_cons (pe_lc (own := [("table", 4)]) (tt := tYes) (g := (gName 4)) rfl sc_Span___init__.nd (pi_tupK K (pv 2)) (blkOk_by (N := ["self", "plots", "tables", "reduced", "table", "place", "row"]) (sc := defScope s_Span___init__) (by decide +kernel)) (fun _ _ _ _ _ => (pg_name (i := 4) sc_Span___init__.nd rfl (by first | exact Or.inl rfl | exact Or.inr rfl))) (fun _ _ _ _ _ => pts_nil) (fun _ _ _ _ _ => (pe_ix (ix_n K) (pe_cal ok_whole_cells (hr.mono (by decide)) (pa_cons (pe_propR (pv 4) GC (hr.mono (by decide))) pa_nil)) pe_int (fun _ _ => rfl)))) pa_nil)))
      (pss_cons (ps_fld (pv 0) (pv 1) rfl)
      (pss_cons (ps_fld (pv 0) (pe_callTy (call_tupleK K) (by rfl) T_tuple b_tuple (pa_cons (pe_lc (own := [("place", 5), ("row", 6)]) (tt := tYes) (g := (gTup K 2 (gCons (gName 5) (gCons (gName 6) gNil)))) rfl sc_Span___init__.nd (pi_listK K (pv 3)) (blkOk_by (N := ["self", "plots", "tables", "reduced", "table", "place", "row"]) (sc := defScope s_Span___init__) (by decide +kernel)) (fun _ _ _ _ _ => (pg_tup rfl (pgs_cons (pg_name (i := 5) sc_Span___init__.nd rfl (by first | exact Or.inl rfl | exact Or.inr rfl)) (pgs_cons (pg_name (i := 6) sc_Span___init__.nd rfl (by first | exact Or.inl rfl | exact Or.inr rfl)) pgs_nil)))) (fun _ _ _ _ _ => pts_nil) (fun _ _ _ _ _ => (pe_mk ok_Table (hr.mono (by decide)) (pa_cons (pe_cal ok_row_cells (hr.mono (by decide)) (pa_cons (pv 5) (pa_cons (pv 6) pa_nil))) pa_nil)))) pa_nil)) rfl)
      (pss_one (ps_fld (pv 0) (pe_cal ok_new_axes (hr.mono (by decide)) (pa_cons (pe_lst pa_nil) (pa_cons (pe_lc (own := [("place", 5), ("row", 6)]) (tt := tYes) (g := (gTup K 2 (gCons (gName 5) (gCons (gName 6) gNil)))) rfl sc_Span___init__.nd (pi_listK K (pv 3)) (blkOk_by (N := ["self", "plots", "tables", "reduced", "table", "place", "row"]) (sc := defScope s_Span___init__) (by decide +kernel)) (fun _ _ _ _ _ => (pg_tup rfl (pgs_cons (pg_name (i := 5) sc_Span___init__.nd rfl (by first | exact Or.inl rfl | exact Or.inr rfl)) (pgs_cons (pg_name (i := 6) sc_Span___init__.nd rfl (by first | exact Or.inl rfl | exact Or.inr rfl)) pgs_nil)))) (fun _ _ _ _ _ => pts_nil) (fun _ _ _ _ _ => (pv 6))) pa_nil))) rfl)))))))), ?_⟩
    refine ⟨_, rfl, plots, rfl, fun c => absurd c (by omega), fun c => absurd c (by omega), fun _ _ => ?_⟩
    refine ⟨_, rfl, T0, _, rfl, .inr (hT0 _), _, _, rfl, rfl, _, rfl, iteN rfl ?_⟩
    refine ⟨_, rfl, _, rfl, plots, T0, rfl, hT0 _, ?_⟩
    refine ⟨_, rfl, T0, rfl, ⟨_, hT0 _⟩, fun L hL => lcm (walk_tup (xs := [])) (fun i H v => True) hL (Nat.zero_le _) (fun _ _ _ _ _ _ => trivial)
        (fun H' s => hT0 _) (fun i y H1 H2 hi => absurd hi (Nat.not_lt_zero _)) (fun H1 ys s1 hL' q => ?_)⟩
    have hyl := pLen q
    have ey : ys = [] := by cases ys with | nil => rfl | cons _ _ => simp at hyl
    subst ey
    refine ⟨L, [], 0, 0, rfl, ⟨L, [], rfl, hL', .nil⟩, by decide, fun v hm => by simp at hm, by decide, hT.ext s1, fun c H2 rows eN T2 hrows perm srt => ?_⟩
    have er : rows = [] := List.Perm.eq_nil perm
    subst er
    have e02 : ExtN H H2 := (extN_of s1).trans eN
    have hx2 : H2 x = some (.ins C_Span dx []) := e02 _ _ hx (fun _ z => by cases z)
    refine ⟨_, rfl, _, rfl, x, C_Span, dx, [], rfl, hx2, cS, nP, by show 0 < 1000; omega, ?_⟩
    have hrows2 := offI_L offI_Row H2 x C_Span dx [] _ _ hx2 hrows
    have T2c := tabs_off hx2 T2
    have hx3 : (upd H2 x (.ins C_Span dx (putF "plot_count" (.int plots) []))) x = some (.ins C_Span dx (putF "plot_count" (.int plots) [])) := upd_same
    have hc3 : cut (upd H2 x (.ins C_Span dx (putF "plot_count" (.int plots) []))) x = cut H2 x := cut_upd
    generalize upd H2 x (.ins C_Span dx (putF "plot_count" (.int plots) [])) = H3 at *
    rw [← hc3] at hrows2 T2c
    have hrows3 := mono_L mono_Row _ _ _ _ (same_cut H3 x) hrows2
    obtain ⟨c', rvs, e, hc, hpr⟩ := hrows3
    cases e
    cases hpr
    refine ⟨_, rfl, c, rfl, ⟨_, SqL.of hc⟩, fun L2 hL2 => lcm (walk_list (xs := [])) (fun i H v => True) hL2 (Nat.zero_le _) (fun _ _ _ _ _ _ => trivial)
      (fun H' s => s.seq (SqL.of hc)) (fun i y H4 H5 hi => absurd hi (Nat.not_lt_zero _)) (fun H4 ys4 s4 hL4 q4 => ?_)⟩
    have hyl4 := pLen q4
    have ey : ys4 = [] := by cases ys4 with | nil => rfl | cons _ _ => simp at hyl4
    subst ey
    refine ⟨L2, [], rfl, .inl ⟨SqL.of hL4, fun l hl4 => ?_⟩⟩
    have s5 : Same H3 (upd H4 l (.tup [])) := Same.upd s4 hl4
    have hl5 : (upd H4 l (.tup [])) l = some (.tup []) := upd_same
    have hx5 := s5 _ _ hx3
    generalize upd H4 l (.tup []) = H5 at *
    refine ⟨_, rfl, x, C_Span, dx, _, rfl, hx5, cS, nB, by show 1 < 1000; omega, ?_⟩
    have hb6 : cut H5 x l = some (.tup []) := by rw [cut_ne (fun z => by rw [z, hx5] at hl5; cases hl5)]; exact hl5
    have hx6 : (upd H5 x (.ins C_Span dx (putF "basis" (.ref l) (putF "plot_count" (.int plots) [])))) x = some (.ins C_Span dx (putF "basis" (.ref l) (putF "plot_count" (.int plots) []))) := upd_same
    have hc6 : cut (upd H5 x (.ins C_Span dx (putF "basis" (.ref l) (putF "plot_count" (.int plots) [])))) x = cut H5 x := cut_upd
    have s35 : Same (cut H3 x) (cut H5 x) := Same.cut s5 x
    generalize upd H5 x (.ins C_Span dx (putF "basis" (.ref l) (putF "plot_count" (.int plots) []))) = H6 at *
    rw [← hc6] at hb6 s35
    have hrows6 := mono_L mono_Row _ _ _ _ (s35.trans (same_cut H6 x)) hrows2
    obtain ⟨c', rvs6, e, hc6', hpr6⟩ := hrows6
    cases e
    cases hpr6
    refine ⟨Nat.zero_le _, fun La hLa => ?_⟩
    have sA : Same H6 (upd H6 La (.lst [])) := same_upd hLa
    refine ⟨_, rfl, c, rfl, ⟨_, SqL.of (sA _ _ hc6')⟩, fun Lb hLb => lcm (walk_list (xs := [])) (fun i H v => True) hLb (Nat.zero_le _) (fun _ _ _ _ _ _ => trivial)
      (fun H' s => (sA.trans s).seq (SqL.of hc6')) (fun i y H7 H8 hi => absurd hi (Nat.not_lt_zero _)) (fun H7 ys7 s7 hL7 q7 => ?_)⟩
    have hyl7 := pLen q7
    have ey : ys7 = [] := by cases ys7 with | nil => rfl | cons _ _ => simp at hyl7
    subst ey
    have hLa7 := s7 _ _ (upd_same (H := H6) (a := La) (o := .lst []))
    refine ⟨La, Lb, [], 0, 0, rfl, hLa7, ⟨Lb, [], rfl, hL7, .nil⟩, by omega, by decide, fun v hv => by simp at hv, by decide, fun ca H8 s8 => ?_⟩
    have s68 := (sA.trans s7).trans s8
    have hx8 := s68 _ _ hx6
    refine ⟨_, rfl, x, C_Span, dx, _, rfl, hx8, cS, nA, by show 2 < 1000; omega, ?_⟩
    have sC := Same.cut s68 x
    refine k (.ref l) (.ref ca) _ ?_ ?_ upd_same ?_
    · rw [cut_upd]
      have e1 := ExtN.cut e02 x
      rw [← hc3] at e1
      exact (e1.trans (extN_of s35)).trans (extN_of sC)
    · refine T2c.ext ((s35.trans sC).trans ?_)
      refine fun b o hb => ?_
      obtain ⟨h1, h2⟩ := cut_some hb
      rw [upd_ne h1]; exact h2
    · rw [cut_upd]
      exact ⟨l, [], rfl, sC _ _ hb6, .nil⟩
theorem CalM.or {CX : CXT} {k : Nat} {x : Str} {C : Addr} {sp sp' : L2.Sp} (M : CalM P w K mg base CX k x C sp) (M' : CalM P w K mg base CX k x C sp') : CalM P w K mg base CX k x C (fun vs H Q E => sp vs H Q E ∨ sp' vs H Q E) := by
  obtain ⟨f, F, a, b⟩ := M.ok
  obtain ⟨f', F', a', b'⟩ := M'.ok
  have e : f = f' := by
    have h1 := a.init
    rw [a'.init] at h1
    cases h1; rfl
  subst e
  exact ⟨f, fun A outer s H us vs Q E hr e0 r h => h.elim (F A outer s H us vs Q E hr e0 r) (F' A outer s H us vs Q E hr e0 r), a, b⟩
/-! ### getters -/
def RSpan (CS CT : Addr) : Hp → Addr → Int → Prop := fun H a n => ∃ rows, isSpan CS CT H (.ref a) (n, rows)
theorem sc_Span_plots : FnScope ["self"] ["self"] (defScope s_Span_plots) := ⟨rfl, rfl, rfl, by decide +kernel, rfl, by decide +kernel, by decide +kernel⟩

theorem ok_Span_plots (D : PrD K C_Span "plots" "Span.plots" s_Span_plots) (nP : NoAttr K C_Span "plot_count") : CalP P w K mg base CX0 33 C_Span "plots" (spFldOf C_Span "plot_count") := by
  have cT := D.cls
  obtain ⟨p, g, hp, D⟩ := D.d
  refine ⟨cT, p, g, hp, D.fnR0 sc_Span_plots (fun _ _ _ _ _ _ us hl => match us, hl with | [_], _ => rfl) (fun vs H Q E h => ?_) (fun cdv A outer s H vs Q E hr h => ?_)⟩
  · obtain ⟨a, dx, fs, v, rfl, _⟩ := h; rfl
  · obtain ⟨a, dx, fs, v, rfl, ha, hl, k⟩ := h
    refine ⟨_, (pss_one (ps_ret (pe_fldK K (pv 0)))), ?_⟩
    exact ⟨_, rfl, a, C_Span, dx, fs, v, rfl, ha, cT, nP, hl, k⟩
theorem ok_Span_plotsN (G : CalP P w K mg base CX0 33 C_Span "plots" (spFldOf C_Span "plot_count")) : CalP P w K mg base CX0 33 C_Span "plots" (spNum (RSpan C_Span C_Table)) := by
  obtain ⟨c, p, g, hp, F⟩ := G
  refine ⟨c, p, g, hp, F.imp fun vs H Q E h => ?_⟩
  obtain ⟨a, n, rfl, ⟨rows, a', dx, b, ax, e, ha, _⟩, k⟩ := h
  cases e
  exact ⟨a, dx, _, .int n, rfl, ha, rfl, k⟩
theorem sc_Span_rows : FnScope ["self"] ["self"] (defScope s_Span_rows) := ⟨rfl, rfl, rfl, by decide +kernel, rfl, by decide +kernel, by decide +kernel⟩

theorem ok_Span_rows (D : PrD K C_Span "rows" "Span.rows" s_Span_rows) (nP : NoAttr K C_Span "basis") : CalP P w K mg base CX0 33 C_Span "rows" (spFldOf C_Span "basis") := by
  have cT := D.cls
  obtain ⟨p, g, hp, D⟩ := D.d
  refine ⟨cT, p, g, hp, D.fnR0 sc_Span_rows (fun _ _ _ _ _ _ us hl => match us, hl with | [_], _ => rfl) (fun vs H Q E h => ?_) (fun cdv A outer s H vs Q E hr h => ?_)⟩
  · obtain ⟨a, dx, fs, v, rfl, _⟩ := h; rfl
  · obtain ⟨a, dx, fs, v, rfl, ha, hl, k⟩ := h
    refine ⟨_, (pss_one (ps_ret (pe_fldK K (pv 0)))), ?_⟩
    exact ⟨_, rfl, a, C_Span, dx, fs, v, rfl, ha, cT, nP, hl, k⟩
def spDim (CS CT : Addr) : L2.Sp := fun vs H Q _ => ∃ (a : Addr) (d : Int × List (List Rat)), vs = [.ref a] ∧ isSpan CS CT H (.ref a) d ∧ Q (.int d.2.length) H
theorem sc_Span_dimension : FnScope ["self"] ["self"] (defScope s_Span_dimension) := ⟨rfl, rfl, rfl, by decide +kernel, rfl, by decide +kernel, by decide +kernel⟩

theorem ok_Span_dimension (D : PrD K C_Span "dimension" "Span.dimension" s_Span_dimension) (nP : NoAttr K C_Span "basis") (T_len : mg "len" = none) : CalP P w K mg base CX0 33 C_Span "dimension" (spDim C_Span C_Table) := by
  have cT := D.cls
  obtain ⟨p, g, hp, D⟩ := D.d
  refine ⟨cT, p, g, hp, D.fnR0 sc_Span_dimension (fun _ _ _ _ _ _ us hl => match us, hl with | [_], _ => rfl) (fun vs H Q E h => ?_) (fun cdv A outer s H vs Q E hr h => ?_)⟩
  · obtain ⟨a, d, rfl, _⟩ := h; rfl
  · obtain ⟨a, d, rfl, ⟨a', dx, b, ax, e, ha, hq⟩, k⟩ := h
    cases e
    obtain ⟨t, vs, rfl, ht, pp⟩ := hq
    rw [pLen pp] at k
    refine ⟨_, (pss_one (ps_ret (pe_callB (call_lenK K) (by rfl) T_len b_len (pa_cons (pe_fldK K (pv 0)) pa_nil)))), ?_⟩
    exact ⟨_, rfl, a, C_Span, dx, _, .ref t, rfl, ha, cT, nP, rfl, t, vs, rfl, .inr (.inl (.inl ht)), k⟩
/-! ### Span == Span -/
def spSpanEq (CS CT : Addr) : L2.Sp := fun vs H Q _ => ∃ (a : Addr) (v : V) (d : Int × List (List Rat)), vs = [.ref a, v] ∧ isSpan CS CT H (.ref a) d ∧ ((∃ d', isSpan CS CT H v d' ∧ Q (.bl (decide (d = d'))) H) ∨ ∃ b xs, v = .ref b ∧ H b = some (.lst xs) ∧ Q (.bl false) H)
theorem tabEq_sp : ∀ (v u : V) (x y : List Rat) (H : Hp) (Q : VK) (E : XK), isTab C_Table H v x → isTab C_Table H u y → Q (.bl (decide (x = y))) H → spTabEq C_Table [v, u] H Q E := fun v u x y H Q E h1 h2 k => ⟨v, u, x, y, rfl, h1, h2, k⟩
theorem offTs : ∀ (H : Hp) (v : V) (x : List Rat), isTab C_Table H v x → ∃ a dx fs, v = .ref a ∧ H a = some (.ins C_Table dx fs) := fun H v x ⟨a, dx, t, e, h, _⟩ => ⟨a, dx, _, e, h⟩
theorem sc_Span___eq__ : FnScope ["self", "other"] ["self", "other"] (defScope s_Span___eq__) := ⟨rfl, rfl, rfl, by decide +kernel, rfl, by decide +kernel, by decide +kernel⟩

theorem ok_Span_eq {f g : Addr} (D : Def K f "__eq__" "Span.__eq__" s_Span___eq__ []) (F : InsF K C_Span) (nP : NoAttr K C_Span "plot_count") (nB : NoAttr K C_Span "basis") (c_Span : mg "Span" = some (.ref C_Span)) (kL : PySem.W.kitOne K (.type "list") (.ref C_Span) = some false) (T_isinstance : mg "isinstance" = none)
    (hTe : PySem.W.findIn K (.ref C_Table) "__eq__" = some (some (.ref g))) (hTf : PySem.W.isFn K (.ref g) = true) (ok_Teq : FnR P w K mg base CX0 33 g (spTabEq C_Table)) : FnR P w K mg base CX0 36 f (spSpanEq C_Span C_Table) := by
  refine D.fnR0 sc_Span___eq__ (fun _ _ _ _ _ _ us hl => match us, hl with | [_, _], _ => rfl) (fun vs H Q E h => ?_) (fun cdv A outer s H vs Q E hr h => ?_)
  · obtain ⟨a, v, d, rfl, _⟩ := h; rfl
  · obtain ⟨a, v, d, rfl, ⟨a', dx, b, ax, e, ha, hq⟩, k⟩ := h
    cases e
    refine ⟨_, (pss_cons (ps_if (pt_not (pt_val (pe_callB (call_isiK' K) (by rfl) T_isinstance b_isinstance (pa_cons (pv 1) (pa_cons (pe_glob (v := .ref C_Span) rfl c_Span rfl) pa_nil))))) (pss_one (ps_ret pe_bl)) pss_nil)
      (pss_one (ps_ret (pe_and (pe_cmpR op_eq (pe_fldK K (pv 0)) (pe_fldK K (pv 1)) (nomark _)) (pe_one (pe_cmpR (op_eqTs offTs (fun _ _ _ _ h1 h2 => isTab_inj h1 h2) hTe hTf ok_Teq tabEq_sp (hr.mono (by decide))) (pe_fldK K (pv 0)) (pe_fldK K (pv 1)) (nomark _))))))), ?_⟩
    rcases k with ⟨d', ⟨a2, dx2, b2, ax2, rfl, ha2, hq2⟩, k⟩ | ⟨b2, xs, rfl, hb2, k⟩
    · refine ⟨_, rfl, _, _, _, _, _, rfl, .own C_Span, .base (F.ty ha2), kit_same, _, rfl, iteN rfl ?_⟩
      refine ⟨_, rfl, a, C_Span, dx, _, _, rfl, ha, F.cl, nP, rfl, _, rfl, a2, C_Span, dx2, _, _, rfl, ha2, F.cl, nP, rfl, rfl, _, rfl, ?_⟩
      by_cases c : d.1 = d'.1
      · refine iteC (by simpa using c) ⟨_, rfl, a, C_Span, dx, _, b, rfl, ha, F.cl, nB, rfl, _, rfl, a2, C_Span, dx2, _, b2, rfl, ha2, F.cl, nB, rfl, ?_⟩
        refine ⟨d.2, d'.2, hq, hq2, ?_⟩
        have : decide (d.2 = d'.2) = decide (d = d') := by
          by_cases c2 : d.2 = d'.2
          · have : d = d' := Prod.ext c c2
            simp [c2, this]
          · have : d ≠ d' := fun z => c2 (by rw [z])
            simp [c2, this]
        rw [this]; exact k
      · refine iteN (by simpa using c) ?_
        have e1 : decide (d = d') = false := by simp; intro z; exact c (by rw [z])
        rw [e1] at k
        exact k
    · refine ⟨_, rfl, _, _, _, _, _, rfl, .own C_Span, .base (.lst hb2), kL, _, rfl, iteC rfl ?_⟩
      exact k
end
end K4
/-! K23: Span | Span, widened. -/
namespace K4
open PySem PySem.Spec PyProof.Rows L2 StX LamX
open M4 (Bd BQ dj)
theorem extN_made {H H' : Hp} {x dx C : Addr} (hx : H x = none) (hd : H dx = none) (hne : dx ≠ x) (s : ExtN (cut (upd (upd H dx (.own x)) x (.ins C dx [])) x) (cut H' x)) : ExtN H H' := fun b o e n => by
  have hb : b ≠ x := ne_of_none e hx
  have hb2 : b ≠ dx := ne_of_none e hd
  have := s b o (by rw [cut_ne hb, upd_ne hb, upd_ne hb2]; exact e) n
  exact (cut_some this).2
theorem same_mk {H : Hp} {x dx C : Addr} (hx : H x = none) (hd : H dx = none) (hne : dx ≠ x) : Same H (upd (upd H dx (.own x)) x (.ins C dx [])) := fun b o e => by
  rw [upd_ne (ne_of_none e hx), upd_ne (ne_of_none e hd)]; exact e
theorem same_mkc {H : Hp} {x dx C : Addr} (hx : H x = none) (hd : H dx = none) (hne : dx ≠ x) : Same H (cut (upd (upd H dx (.own x)) x (.ins C dx [])) x) := fun b o e => by
  rw [cut_ne (ne_of_none e hx), upd_ne (ne_of_none e hx), upd_ne (ne_of_none e hd)]; exact e
section
variable {P : Program} {w : World} {K : PySem.W.Frag} {mg : Str → Option Value} {base : Heap} {C_NoPlots C_TooMany C_UnlikePlots I_TooMany I_UnlikePlots C_Table C_Span C_Parting P0 T0 : Addr}
def spOr (CS CT CU P0 : Addr) : L2.Sp := fun vs H Q E => ∃ (a b : Addr) (n1 n2 : Int) (r1 r2 : List (List Rat)), vs = [.ref a, .ref b] ∧ isSpan CS CT H (.ref a) (n1, r1) ∧ isSpan CS CT H (.ref b) (n2, r2) ∧ Tabs (lamT P0) H ∧ (n1 ≠ n2 → Unlike CU n1 n2 H E) ∧
  (n1 = n2 → 1 ≤ n1 ∧ n1 ≤ 16 ∧ (r1 ++ r2).length ≤ 64 ∧ badT n1 (r1 ++ r2) = none ∧ ∃ n b r, GoodT n b r (r1 ++ r2) ∧ ∀ v H' rows, ExtN H H' → Tabs (lamT P0) H' → isSpan CS CT H' v (n1, M4.ratRows rows) → SpanOf (r1 ++ r2) rows → Q v H')
theorem sc_Span___or__ : FnScope ["self", "other"] ["self", "other"] (defScope s_Span___or__) := ⟨rfl, rfl, rfl, by decide +kernel, rfl, by decide +kernel, by decide +kernel⟩

theorem ok_Span_or {f : Addr} (D : Def K f "__or__" "Span.__or__" s_Span___or__ []) (cS : Cls K C_Span) (nP : NoAttr K C_Span "plot_count") (nB : NoAttr K C_Span "basis") (ok_check_counts : Cal P w K mg base (L2.CX P w) 35 "check_counts" (spCounts C_UnlikePlots C_Span (RSpan C_Span C_Table)))
    (ok_Span : CalM P w K mg base (L2.CX P w) 42 "Span" C_Span (spSpan_init C_Span C_Table C_TooMany C_UnlikePlots P0)) : FnR P w K mg base (L2.CX P w) 44 f (spOr C_Span C_Table C_UnlikePlots P0) := by
  refine D.fnR sc_Span___or__ (fun _ _ _ _ _ _ us hl => match us, hl with | [_, _], _ => rfl) (fun vs H Q E h => ?_) (fun cdv A outer s H vs Q E hr h => ?_)
  · obtain ⟨a, b, n1, n2, r1, r2, rfl, _⟩ := h; rfl
  · obtain ⟨a, b, n1, n2, r1, r2, rfl, ⟨a', dx, b1, ax, e, ha, hq1⟩, hb0, hT, e1, k⟩ := h
    cases e
    obtain ⟨b', dx2, b2, ax2, e, hb, hq2⟩ := id hb0
    cases e
    have hxE := hxE_ (P := P) (w := w) (K := K) (mg := mg) (base := base) (N := ["self", "other"]) (q := "Span.__or__") (sc := defScope s_Span___or__) (f := f) (cdv := cdv) (A := A) (outer := outer) (s := s) (H := H) (E := E)
    refine ⟨_, (pss_cons (ps_expr (pe_cal ok_check_counts (hr.mono (by decide)) (pa_cons (pe_fldK K (pv 0)) (pa_cons (pe_lst (pa_cons (pv 1) pa_nil)) pa_nil)) (hx := hxE)))
      (pss_one (ps_ret (pe_mk ok_Span (hr.mono (by decide)) (pa_cons (pe_fldK K (pv 0)) (pa_cons (pe_lst (pa_starK K (pe_fldK K (pv 0)) (pa_starK K (pe_fldK K (pv 1)) pa_nil))) pa_nil)) (hx := hxE))))), ?_⟩
    refine ⟨_, rfl, a, C_Span, dx, _, _, rfl, ha, cS, nP, rfl, _, rfl, by show 1 ≤ sizeLine; decide, fun L hL => ?_⟩
    have sL : Same H (upd H L (.lst [.ref b])) := same_upd hL
    refine ⟨n1, L, [.ref b], [n2], rfl, upd_same, .cons ⟨b, dx2, _, rfl, sL _ _ hb, r2, mono_Span _ _ _ _ sL hb0⟩ .nil, fun hn => ?_, fun m hm => ?_⟩
    · have en : n1 = n2 := by
        by_cases c : n2 = n1
        · exact c.symm
        · simp [c] at hn
      subst en
      obtain ⟨p1, p16, hlen, hbad, n, b', r, G, k⟩ := k rfl
      obtain ⟨t1, us1, rfl, ht1, hp1⟩ := hq1
      obtain ⟨t2, us2, rfl, ht2, hp2⟩ := hq2
      have hl1 : r1.length = us1.length := pLen hp1
      have hl2 : r2.length = us2.length := pLen hp2
      rw [List.length_append] at hlen
      refine ⟨_, rfl, a, C_Span, dx, _, _, rfl, sL _ _ ha, cS, nP, rfl, _, rfl, a, C_Span, dx, _, _, rfl, sL _ _ ha, cS, nB, rfl, t1, us1, rfl, .inl (.inl (.inl (sL _ _ ht1))), _, rfl, b, C_Span, dx2, _, _, rfl, sL _ _ hb, cS, nB, rfl, t2, us2, rfl, .inl (.inl (.inl (sL _ _ ht2))), ?_⟩
      have e0 : us1 ++ (us2 ++ []) = us1 ++ us2 := by simp
      refine ⟨by show (us1 ++ (us2 ++ [])).length ≤ sizeLine; rw [e0, List.length_append]; exact small_line (by omega), fun M hM => ?_⟩
      have sM : Same H (upd (upd H L (.lst [.ref b])) M (.lst (us1 ++ (us2 ++ [])))) := sL.trans (same_upd hM)
      have hMM : (upd (upd H L (.lst [.ref b])) M (.lst (us1 ++ (us2 ++ [])))) M = some (.lst (us1 ++ us2)) := upd_same.trans (congrArg (fun l => some (HO.lst l)) e0)
      generalize upd (upd H L (.lst [.ref b])) M (.lst (us1 ++ (us2 ++ []))) = H2 at *
      intro x dx' hx hd hne
      have sm := same_mkc (C := C_Span) hx hd hne
      refine ⟨x, dx', M, n1, r1 ++ r2, rfl, upd_same, ⟨M, us1 ++ us2, rfl, sm _ _ hMM, ?_⟩, p1, p16, hT.ext (sM.trans (same_mk hx hd hne)), fun c => absurd c (by rw [List.length_append]; omega), fun _ m hm => (by rw [hbad] at hm; cases hm), fun _ _ => ⟨n, b', r, G, fun bs ax' H' rows eN T' hx' hb' so => ⟨rfl, ?_⟩⟩⟩
      · exact pApp (pImp hp1 fun _ _ q => mono_Tab _ _ _ _ (sM.trans sm) q) (pImp hp2 fun _ _ q => mono_Tab _ _ _ _ (sM.trans sm) q)
      · have e2 := extN_made hx hd hne eN
        exact k (.ref x) H' rows ((extN_of sM).trans e2) T' ⟨x, dx', bs, ax', rfl, hx', mono_T mono_Tab _ _ _ _ (same_cut H' x) hb'⟩ so
    · have hne : n1 ≠ n2 := fun z => by subst z; simp at hm
      have em : m = n2 := by
        have c : n2 ≠ n1 := fun z => hne z.symm
        simp [c] at hm
        exact hm.symm
      rw [em]
      exact Unlike.imp (e1 hne) sL
def spWiden (CS CT CM CU P0 : Addr) : L2.Sp := fun vs H Q E => ∃ (a t : Addr) (n1 : Int) (r1 tabs : List (List Rat)), vs = [.ref a, .ref t] ∧ isSpan CS CT H (.ref a) (n1, r1) ∧ isL (isTab CT) H (.ref t) tabs ∧ Tabs (lamT P0) H ∧ 1 ≤ n1 ∧ n1 ≤ 16 ∧
  (tabs.length > 64 → Many CM "tables" 64 H E) ∧ (tabs.length ≤ 64 → ∀ m, badT n1 tabs = some m → Unlike CU n1 m H E) ∧
  (tabs.length ≤ 64 → badT n1 tabs = none → (∃ n b r, GoodT n b r tabs) ∧ ∀ rows2, SpanOf tabs rows2 → (r1 ++ M4.ratRows rows2).length ≤ 64 ∧ badT n1 (r1 ++ M4.ratRows rows2) = none ∧ ∃ n b r, GoodT n b r (r1 ++ M4.ratRows rows2) ∧
    ∀ v H' rows, ExtN H H' → Tabs (lamT P0) H' → isSpan CS CT H' v (n1, M4.ratRows rows) → SpanOf (r1 ++ M4.ratRows rows2) rows → Q v H')
theorem sc_Span_widened : FnScope ["self", "tables"] ["self", "tables"] (defScope s_Span_widened) := ⟨rfl, rfl, rfl, by decide +kernel, rfl, by decide +kernel, by decide +kernel⟩

theorem ok_Span_widened {f g : Addr} (D : Def K f "widened" "Span.widened" s_Span_widened []) (cS : Cls K C_Span) (nP : NoAttr K C_Span "plot_count") (hsf : PySem.W.selfFirst K C_Span = true) (hor : PySem.W.findIn K (.ref C_Span) "__or__" = some (some (.ref g))) (hfn : PySem.W.isFn K (.ref g) = true)
    (ok_or : FnR P w K mg base (L2.CX P w) 44 g (spOr C_Span C_Table C_UnlikePlots P0)) (ok_Span : CalM P w K mg base (L2.CX P w) 42 "Span" C_Span (spSpan_init C_Span C_Table C_TooMany C_UnlikePlots P0)) : FnR P w K mg base (L2.CX P w) 46 f (spWiden C_Span C_Table C_TooMany C_UnlikePlots P0) := by
  refine D.fnR sc_Span_widened (fun _ _ _ _ _ _ us hl => match us, hl with | [_, _], _ => rfl) (fun vs H Q E h => ?_) (fun cdv A outer s H vs Q E hr h => ?_)
  · obtain ⟨a, t, n1, r1, tabs, rfl, _⟩ := h; rfl
  · obtain ⟨a, t, n1, r1, tabs, rfl, hs0, hL, hT, p1, p16, e1, e2, k⟩ := h
    obtain ⟨a', dx, b1, ax, e, ha, hq1⟩ := id hs0
    cases e
    have hxE := hxE_ (P := P) (w := w) (K := K) (mg := mg) (base := base) (N := ["self", "tables"]) (q := "Span.widened") (sc := defScope s_Span_widened) (f := f) (cdv := cdv) (A := A) (outer := outer) (s := s) (H := H) (E := E)
    refine ⟨_, (pss_one (ps_ret (pe_op (op_orO hsf hor hfn ok_or (hr.mono (by decide)) hxE) (pv 0) (pe_mk ok_Span (hr.mono (by decide)) (pa_cons (pe_fldK K (pv 0)) (pa_cons (pv 1) pa_nil)) (hx := hxE))))), ?_⟩
    refine ⟨_, rfl, _, rfl, a, C_Span, dx, _, _, rfl, ha, cS, nP, rfl, _, rfl, ?_⟩
    intro x dx' hx hd hne
    have sm := same_mkc (C := C_Span) hx hd hne
    have sk := same_mk (C := C_Span) hx hd hne
    refine ⟨x, dx', t, n1, tabs, rfl, upd_same, mono_L mono_Tab _ _ _ _ sm hL, p1, p16, hT.ext sk, fun c => Many.imp (e1 c) sk, fun c m hm => Unlike.imp (e2 c m hm) sk, fun c64 hb => ?_⟩
    obtain ⟨⟨n, b, r, G⟩, k⟩ := k c64 hb
    refine ⟨n, b, r, G, fun bs ax' H' rows2 eN T' hx' hb' so2 => ⟨rfl, ?_⟩⟩
    have eH := extN_made hx hd hne eN
    obtain ⟨l64, bad2, n', b', r', G', k⟩ := k rows2 so2
    have ha' := eH _ _ ha (fun _ z => by cases z)
    have hs' : isSpan C_Span C_Table H' (.ref a) (n1, r1) := monoN_Span _ _ _ _ eH hs0
    have hs2 : isSpan C_Span C_Table H' (.ref x) (n1, M4.ratRows rows2) := ⟨x, dx', bs, ax', rfl, hx', mono_T mono_Tab _ _ _ _ (same_cut H' x) hb'⟩
    refine ⟨a, dx, _, x, dx', _, rfl, rfl, ha', hx', a, x, n1, n1, r1, _, rfl, hs', hs2, T', fun z => absurd rfl z, fun _ => ⟨p1, p16, l64, bad2, n', b', r', G', fun v H2 rows eN2 T2 hv so => ?_⟩⟩
    exact k v H2 rows (eH.trans eN2) T2 hv so
end
end K4
/-! K24: Span.of_partings. -/
namespace K4
open PySem PySem.Spec PyProof.Rows L2 StX LamX
open M4 (Bd BQ dj Canon)
section
variable {J : It} {n : Nat} {G : Hp → Prop} {Y : Nat → Hp → V → Hp → Prop}
/-- a loop of a comprehension whose turn is any reading -/
theorem out_it (w : Walk J n G Y) {g : TG} {tt : TT} {body : L2.St → Hp → (Hp → Prop) → Prop} {vs : List Nat} {σ : L2.St} {Hs : Hp} {Qd : Hp → Prop} (Pv : Nat → Hp → Prop) (h0 : Pv 0 Hs) (hG : ∀ i H, i ≤ n → Pv i H → G H)
    (hs : ∀ i x H H', i < n → Pv i H → Y i H x H' → g x (wipe σ vs) H' fun σ2 H2 => wipe σ2 vs = wipe σ vs ∧ tt σ2 H2 fun b H3 => if b = true then body σ2 H3 (Pv (i + 1)) else Pv (i + 1) H3) (hd : ∀ H, Pv n H → Qd H) :
    ∃ W : Nat → Nat → Hp → Prop, (∃ m, W 0 m Hs) ∧ ∀ i m H, W i m H →
      (J.stop i H ∧ Qd H) ∨ (J.go i H ∧ ∃ Nx : Hp → Prop, (∀ H', Nx H' → ∃ m', m' < m ∧ W (i + 1) m' H') ∧ ∀ x H', J.yld i H x H' → g x (wipe σ vs) H' fun σ2 H2 => wipe σ2 vs = wipe σ vs ∧ tt σ2 H2 fun b H3 =>
        if b = true then body σ2 H3 Nx else Nx H3) := by
  refine ⟨fun i m H => m = n - i ∧ i ≤ n ∧ Pv i H, ⟨n, by simp, Nat.zero_le _, h0⟩, ?_⟩
  rintro i m H ⟨rfl, hi, p⟩
  have q := hG i H hi p
  by_cases hlt : i < n
  · exact .inr ⟨w.goes i H hlt q, Pv (i + 1), fun H' p' => ⟨n - (i + 1), by omega, rfl, hlt, p'⟩, fun x H' y => hs i x H H' hlt p (w.yields i H x H' hlt q y)⟩
  · have e : i = n := by omega
    subst e
    exact .inl ⟨w.stops H q, hd H p⟩
end
def badN (n : Int) (pars : List (List Nat)) : Option Int := (pars.map fun ns => (ns.length : Int)).find? fun m => decide (m ≠ n)
def marksAll (pars : List (List Nat)) : List (List Int) := pars.flatMap M4.marksOf
def rowTabs (rows : M4.IRows) : List (List Rat) := rows.map fun pr => pr.2.map fun (z : Int) => (z : Rat)
theorem marks_len {ns : List Nat} {v : List Int} (h : v ∈ M4.marksOf ns) : v.length = ns.length := by
  unfold M4.marksOf at h
  obtain ⟨l, _, rfl⟩ := List.mem_map.mp h
  unfold M4.markOf
  simp
theorem marks_bd {ns : List Nat} {v : List Int} (h : v ∈ M4.marksOf ns) (i : Nat) : Bd (M4.ent v i) 0 := by
  unfold M4.marksOf at h
  obtain ⟨l, _, rfl⟩ := List.mem_map.mp h
  rcases M4.ent_mem (zs := M4.markOf ns l) i with e | e
  · rw [e]; exact M4.Bd.zero 0
  · generalize M4.ent (M4.markOf ns l) i = z at *
    unfold M4.markOf at e
    obtain ⟨n, _, rfl⟩ := List.mem_map.mp e
    split
    · show (1 : Int).natAbs ≤ 1; decide
    · exact M4.Bd.zero 0
theorem marksOf_len (ns : List Nat) : (M4.marksOf ns).length ≤ ns.length := by
  unfold M4.marksOf M4.lotsOf
  rw [List.length_map]
  exact Nat.le_trans (List.length_filter_le _ _) (by simp)
theorem bad_none {n : Int} {pars : List (List Nat)} (h : badN n pars = none) : ∀ ns ∈ pars, (ns.length : Int) = n := fun ns hm => by
  unfold badN at h
  rw [List.find?_eq_none] at h
  have := h (ns.length : Int) (List.mem_map.mpr ⟨ns, hm, rfl⟩)
  simpa using this
theorem flat_take {α β : Type} {f : α → List β} {l : List α} {i : Nat} {x : α} (h : l[i]? = some x) : (l.take (i + 1)).flatMap f = (l.take i).flatMap f ++ f x := by
  rw [take_succ_get h, List.flatMap_append]; simp
theorem flat_len {α β : Type} {f : α → List β} {k : Nat} (hf : ∀ x, (f x).length ≤ k) : ∀ l : List α, (l.flatMap f).length ≤ l.length * k
  | [] => by simp
  | x :: l => by
    have := flat_len hf l
    have := hf x
    rw [List.flatMap_cons, List.length_append, List.length_cons, Nat.add_mul]
    omega
section
variable {P : Program} {w : World} {K : PySem.W.Frag} {mg : Str → Option Value} {base : Heap} {C_NoPlots C_TooMany C_UnlikePlots I_TooMany I_UnlikePlots C_Table C_Span C_Parting P0 T0 : Addr}
def spOfPar (CS CT CP CN CM CU P0 : Addr) : L2.Sp := fun vs H Q E => ∃ (a : Addr) (plots : Int) (pars : List (List Nat)), vs = [.ref CS, .int plots, .ref a] ∧ isL (isPar CP) H (.ref a) pars ∧ (∀ ns ∈ pars, Canon ns ∧ ns.length ≤ 16) ∧ plots ≤ 16 ∧ Tabs (lamT P0) H ∧
  (plots < 1 → NoPl CN H E) ∧ (1 ≤ plots → pars.length > 16 → Many CM "partings" 16 H E) ∧ (1 ≤ plots → pars.length ≤ 16 → ∀ m, badN plots pars = some m → Unlike CU plots m H E) ∧
  (1 ≤ plots → pars.length ≤ 16 → badN plots pars = none → plots ≤ 6 ∧ ∀ rows1, rows1.Perm (M4.elim (marksAll pars)) → M4.Srt rows1 → (∃ n b r, GoodT n b r (rowTabs rows1)) ∧ ∀ v H' rows, ExtN H H' → Tabs (lamT P0) H' → isSpan CS CT H' v (plots, M4.ratRows rows) → SpanOf (rowTabs rows1) rows → Q v H')
theorem sc_Span_of_partings : FnScope ["cls", "plots", "partings", "reduced", "parting", "mark", "place", "row"] ["cls", "plots", "partings"] (defScope s_Span_of_partings) := ⟨rfl, rfl, rfl, by decide +kernel, rfl, by decide +kernel, by decide +kernel⟩

theorem ok_Span_of_partings (D : CmD K C_Span "of_partings" "Span.of_partings" s_Span_of_partings) (ok_check_plots_aid_strata : Cal P w K mg base (L2.CX P w) 33 "check_plots_aid_strata" (spCheck C_NoPlots C_TooMany)) (ok_check_partings : Cal P w K mg base (L2.CX P w) 33 "check_partings" (spCheckP C_NoPlots C_TooMany))
    (ok_check_counts : Cal P w K mg base (L2.CX P w) 35 "check_counts" (spCounts C_UnlikePlots C_Parting (RPar C_Parting))) (ok_reduced_rows : Cal P w K mg base CX0 39 "reduced_rows" (spReduced P0)) (ok_marks_of : Cal P w K mg base CX0 37 "marks_of" (spMarks C_Parting))
    (ok_Table : CalM P w K mg base CX0 39 "Table" C_Table (spTable_init C_Table)) (ok_Span : CalM P w K mg base (L2.CX P w) 42 "Span" C_Span (spSpan_init C_Span C_Table C_TooMany C_UnlikePlots P0)) : CalC P w K mg base (L2.CX P w) 44 C_Span "of_partings" (spOfPar C_Span C_Table C_Parting C_NoPlots C_TooMany C_UnlikePlots P0) := by
  obtain ⟨mc, p, g, h1, h2, D⟩ := D.d
  refine ⟨mc, p, g, h1, h2, D.fnR sc_Span_of_partings (fun _ _ _ _ _ _ us hl => match us, hl with | [_, _, _], _ => rfl) (fun vs H Q E h => ?_) (fun cdv A outer s H vs Q E hr h => ?_)⟩
  · obtain ⟨a, n, pars, rfl, _⟩ := h; rfl
  · obtain ⟨a, plots, pars, rfl, ⟨a', pvs, e, hA, hp⟩, hC, p16, hT, e0, e1, e2, k⟩ := h
    cases e
    have hl := pLen hp
    have hxE := hxE_ (P := P) (w := w) (K := K) (mg := mg) (base := base) (N := ["cls", "plots", "partings", "reduced", "parting", "mark", "place", "row"]) (q := "Span.of_partings") (sc := defScope s_Span_of_partings) (f := g) (cdv := cdv) (A := A) (outer := outer) (s := s) (H := H) (E := E)
    refine ⟨_, (pss_cons (ps_expr (pe_cal ok_check_plots_aid_strata (hr.mono (by decide)) (pa_cons (pv 1) pa_nil) (hx := hxE)))
      (pss_cons (ps_expr (pe_cal ok_check_partings (hr.mono (by decide)) (pa_cons (pv 2) (pa_cons pe_int pa_nil)) (hx := hxE)))
      (pss_cons (ps_expr (pe_cal ok_check_counts (hr.mono (by decide)) (pa_cons (pv 1) (pa_cons (pv 2) pa_nil)) (hx := hxE)))
      (pss_cons (ps_set (i := 3) sc_Span_of_partings.nd rfl (by first | exact Or.inl rfl | exact Or.inr rfl) (pe_cal ok_reduced_rows (hr.mono (by decide)) (pa_cons (pe_lc2 (own := [("parting", 4), ("mark", 5)]) (vs1 := [5]) (g := (gName 4)) (g1 := (gName 5)) (tt := tYes) (tt1 := tYes) rfl sc_Span_of_partings.nd (pi_listK K (pv 2)) (blkOk_by (N := ["cls", "plots", "partings", "reduced", "parting", "mark", "place", "row"]) (sc := defScope s_Span_of_partings) (by decide +kernel)) (by decide) (fun _ _ _ _ _ => (pg_name (i := 4) sc_Span_of_partings.nd rfl (by first | exact Or.inl rfl | exact Or.inr rfl))) (fun _ _ _ _ _ => pts_nil) (fun _ _ _ _ _ => (pi_listK K (pe_cal ok_marks_of (hr.mono (by decide)) (pa_cons (pv 4) pa_nil)))) (fun _ _ _ _ _ => (pg_name (i := 5) sc_Span_of_partings.nd rfl (by first | exact Or.inl rfl | exact Or.inr rfl))) (fun _ _ _ _ _ => pts_nil) (fun _ _ _ _ _ => (pv 5))) pa_nil)))
      (pss_one (ps_ret (pe_mkV (i := 0) ok_Span (hr.mono (by decide)) rfl (Or.inl rfl) (pa_cons (pv 1) (pa_cons (pe_lc (own := [("place", 6), ("row", 7)]) (tt := tYes) (g := (gTup K 2 (gCons (gName 6) (gCons (gName 7) gNil)))) rfl sc_Span_of_partings.nd (pi_listK K (pv 3)) (blkOk_by (N := ["cls", "plots", "partings", "reduced", "parting", "mark", "place", "row"]) (sc := defScope s_Span_of_partings) (by decide +kernel)) (fun _ _ _ _ _ => (pg_tup rfl (pgs_cons (pg_name (i := 6) sc_Span_of_partings.nd rfl (by first | exact Or.inl rfl | exact Or.inr rfl)) (pgs_cons (pg_name (i := 7) sc_Span_of_partings.nd rfl (by first | exact Or.inl rfl | exact Or.inr rfl)) pgs_nil)))) (fun _ _ _ _ _ => pts_nil) (fun _ _ _ _ _ => (pe_mk ok_Table (hr.mono (by decide)) (pa_cons (pv 7) pa_nil)))) pa_nil)) (hx := hxE)))))))), ?_⟩
    refine ⟨_, rfl, plots, rfl, e0, fun c => absurd c (by omega), fun p1 _ => ?_⟩
    refine ⟨_, rfl, a, 0, pvs, rfl, hA, fun c => absurd c (by omega), fun _ c => e1 p1 (by omega), fun _ c => ?_⟩
    refine ⟨_, rfl, _, rfl, plots, a, pvs, pars.map (fun ns : List Nat => (ns.length : Int)), rfl, hA, pMapL (pImp hp fun ns v r => ?_), fun hb => ?_, fun m hm => e2 p1 (by omega) m (show badN plots pars = some m from hm)⟩
    · obtain ⟨b, dy, t1, t2, rfl, hb, q'⟩ := r
      exact ⟨b, dy, _, rfl, hb, ns, ⟨b, dy, t1, t2, rfl, hb, q'⟩, rfl⟩
    obtain ⟨p6, k⟩ := k p1 (by omega) hb
    have hpl := bad_none (show badN plots pars = none from hb)
    have big : ∀ l : List (List Nat), l.length ≤ 16 → (l.map fun ns => M4.marksOf ns) = (l.map M4.marksOf) := fun _ _ => rfl
    refine ⟨_, rfl, a, rfl, ⟨_, SqL.of hA⟩, fun L hL => out_it (walk_list (xs := pvs)) (fun i H' => Same H (cut H' L) ∧ ∃ acc, H' L = some (.lst acc) ∧ acc.length ≤ i * 16 ∧ Paired (fun z v => isL isI (cut H' L) v z) ((pars.take i).flatMap M4.marksOf) acc)
      ⟨by rw [cut_upd]; exact same_cut_none hL, [], upd_same, Nat.zero_le _, .nil⟩ (fun i H' _ ⟨s, _⟩ => (s.trans (same_cut _ _)).seq (SqL.of hA)) (fun i x H1 H2 hi ⟨s, acc, hacc, hal, hap⟩ y => ?_) (fun H1 ⟨s1, acc, hacc, hal, hap⟩ => ?_)⟩
    · obtain ⟨rfl, hx⟩ := y
      obtain ⟨ns, hns, rp⟩ := pGet2 hp hx
      obtain ⟨b, dy, t1, t2, e, _⟩ := id rp
      subst e
      have s1 := s.trans (same_cut _ _)
      have hmem := List.mem_of_getElem? hns
      obtain ⟨c1, c2⟩ := hC ns hmem
      have hlen := hpl ns hmem
      refine ⟨rfl, _, rfl, b, ns, rfl, mono_Par _ _ _ _ s1 rp, c1, c2, fun c H4 s4 hm => ?_⟩
      obtain ⟨c', mvs, e, hcm, hmp⟩ := hm
      cases e
      obtain ⟨hc0, hc4⟩ := newp_some hcm
      have hml := pLen hmp
      have hmk := marksOf_len ns
      have nL : Same (newp H2 H4) (cut H4 L) := newp_cut hacc
      refine ⟨c, rfl, ⟨_, SqL.of hc4⟩, out_it (walk_list (xs := mvs)) (fun j H' => Same H (cut H' L) ∧ Same (newp H2 H4) (cut H' L) ∧ ∃ acc', H' L = some (.lst acc') ∧ acc'.length ≤ i * 16 + j ∧ Paired (fun z v => isL isI (cut H' L) v z) ((pars.take i).flatMap M4.marksOf ++ (M4.marksOf ns).take j) acc')
        ⟨s.trans (Same.cut s4 L), nL, acc, s4 _ _ hacc, by omega, by rw [List.take_zero, List.append_nil]; exact pImp hap fun _ _ q => mono_L mono_I _ _ _ _ (Same.cut s4 L) q⟩
        (fun j H' _ ⟨_, sn, _⟩ => .inl (.inl ((cut_some (sn _ _ hcm)).2))) (fun j x H5 H6 hj ⟨s5, sn, acc', ha', hal', hap'⟩ y => ?_) (fun H5 ⟨s5, sn, acc', ha', hal', hap'⟩ => ?_)⟩
      · obtain ⟨rfl, hx⟩ := y
        obtain ⟨z, hz, rz⟩ := pGet2 hmp hx
        have rz5 := mono_L mono_I _ _ _ _ sn rz
        refine ⟨rfl, _, rfl, acc', ha', ?_, ?_, ?_, acc' ++ [x], upd_same, by rw [List.length_append]; show acc'.length + 1 ≤ i * 16 + (j + 1); omega, ?_⟩
        · have hi2 : i < 16 := by omega
          have := small_line (show 16 * 16 + 17 ≤ 1000 by decide)
          have : i * 16 ≤ 15 * 16 := Nat.mul_le_mul_right 16 (by omega)
          omega
        · rw [cut_upd]; exact s5
        · rw [cut_upd]; exact sn
        · rw [cut_upd, take_succ_get hz, ← List.append_assoc]
          exact pApp hap' (.cons rz5 .nil)
      · refine ⟨s5, acc', ha', by omega, ?_⟩
        rw [flat_take hns]
        rw [← hml, List.take_length] at hap'
        exact hap'
    · rw [← hl, List.take_length] at hap
      have hvs : isL (isL isI) H1 (.ref L) (marksAll pars) := ⟨L, acc, rfl, hacc, pImp hap fun _ _ q => mono_L mono_I _ _ _ _ (same_cut _ _) q⟩
      have sH1 := s1.trans (same_cut _ _)
      have hv : ∀ v ∈ marksAll pars, v.length = plots.toNat ∧ ∀ i, Bd (M4.ent v i) 0 := fun v hm => by
        obtain ⟨ns, hns, hv⟩ := List.mem_flatMap.mp hm
        refine ⟨?_, marks_bd hv⟩
        have := hpl ns hns
        rw [marks_len hv]; omega
      refine ⟨L, _, plots.toNat, 0, rfl, hvs, by omega, hv, by decide, hT.ext sH1, fun c H2 rows1 eN T2 hrows perm srt => ?_⟩
      have IR : M4.IRed plots.toNat rows1 := (M4.elim_spec fun v hm => (hv v hm).1).1.perm perm
      have hcnt := IR.count
      obtain ⟨⟨n, b, r, G⟩, k⟩ := k rows1 perm srt
      obtain ⟨c', rvs, e, hc, hpr⟩ := hrows
      cases e
      have hrl := pLen hpr
      have e02 : ExtN H H2 := (extN_of sH1).trans eN
      refine ⟨rfl, _, rfl, _, rfl, c, rfl, ⟨_, SqL.of hc⟩, fun L2 hL2 => lcm (walk_list (xs := rvs)) (fun i H v => ∃ p zs, rows1[i]? = some (p, zs) ∧ isTab C_Table H v (zs.map fun (z : Int) => (z : Rat))) hL2 (small_line (by omega)) (fun _ _ _ _ s ⟨p, zs, h, r⟩ => ⟨p, zs, h, mono_Tab _ _ _ _ s r⟩)
        (fun H' s => s.seq (SqL.of hc)) (fun i y H4 H5 hi s4 o yy Q k => ?_) (fun H4 ys4 s4 hL4 q4 => ?_)⟩
      · obtain ⟨rfl, hy⟩ := yy
        obtain ⟨oD, hD⟩ := o
        obtain ⟨⟨p, zs⟩, hr1, rx⟩ := pGet2 hpr hy
        have s34 := s4.trans (same_cut _ _)
        obtain ⟨t, x1, x2, rfl, ht, h1, h2⟩ := mono_Row _ _ _ _ s34 rx
        obtain rfl : x1 = .int p := h1
        obtain ⟨c3, rfl, hc3'⟩ := isLI.mp h2
        have hmem := List.mem_of_getElem? hr1
        have zl := IR.len p zs hmem
        refine ⟨t, _, rfl, .inl (.inl ht), rfl, _, _, rfl, _, _, rfl, rfl, rfl, ?_⟩
        refine ⟨_, rfl, ?_⟩
        intro x2 dx2 hx2' hd2 hne2
        have sM := same_mkc (C := C_Table) hx2' hd2 hne2
        refine ⟨x2, dx2, c3, zs.map (fun (z : Int) => (z : Rat)), rfl, upd_same, ⟨c3, _, rfl, sM _ _ hc3', ?_⟩, by rw [List.length_map]; omega, by rw [List.length_map]; omega, fun t2 H7 s7 hx7 hq7 => ⟨rfl, ?_⟩⟩
        · refine pOf (by simp) fun j q v hj hv => ?_
          rw [List.getElem?_map] at hj hv
          cases hz : zs[j]? with
          | none => rw [hz] at hj; cases hj
          | some z =>
            rw [hz] at hj hv
            cases hj
            cases hv
            exact .inl ⟨z, rfl, rfl⟩
        · have s67 := same_made hx2' hd2 hne2 s7
          refine k _ _ s67 ⟨p, zs, hr1, ?_⟩
          have hD7 := s67 _ _ hD
          exact offL_Tab H7 L2 _ _ _ hD7 ⟨x2, dx2, t2, rfl, hx7, mono_T mono_Q _ _ _ _ (same_cut H7 x2) hq7⟩
      · have hyl4 := pLen q4
        rw [List.length_range] at hyl4
        have hts : isL (isTab C_Table) H4 (.ref L2) (rowTabs rows1) := ⟨L2, ys4, rfl, hL4, by
          unfold rowTabs
          refine pMapL (pOf (by omega) fun j rv v hj hv => ?_)
          obtain ⟨j', hj', p, zs, h1, h2⟩ := pGet2 q4 hv
          have hj2 := (List.getElem?_eq_some_iff.mp hv).1
          rw [List.getElem?_range (by omega)] at hj'
          cases hj'
          rw [h1] at hj
          cases hj
          exact h2⟩
        intro x dx' hx hd hne
        have sm := same_mkc (C := C_Span) hx hd hne
        have sk := same_mk (C := C_Span) hx hd hne
        have hlr : (rowTabs rows1).length = rows1.length := by unfold rowTabs; simp
        have hbd : badT plots (rowTabs rows1) = none := by
          unfold badT
          rw [List.find?_eq_none]
          intro m hm
          obtain ⟨q, hq, rfl⟩ := List.mem_map.mp hm
          unfold rowTabs at hq
          obtain ⟨⟨p, zs⟩, hz, rfl⟩ := List.mem_map.mp hq
          have := IR.len p zs hz
          simp; omega
        refine ⟨x, dx', L2, plots, rowTabs rows1, rfl, upd_same, mono_L mono_Tab _ _ _ _ sm hts, p1, p16, (T2.ext s4).ext sk, fun c => absurd c (by omega), fun _ m hm => (by rw [hbd] at hm; cases hm), fun _ _ => ⟨n, b, r, G, fun bs ax' H' rows eN' T' hx' hb' so => ⟨rfl, ?_⟩⟩⟩
        have e3 := extN_made hx hd hne eN'
        exact k (.ref x) H' rows ((e02.trans (extN_of s4)).trans e3) T' ⟨x, dx', bs, ax', rfl, hx', mono_T mono_Tab _ _ _ _ (same_cut H' x) hb'⟩ so
end
end K4
/-! K25: the law's ratios. -/
namespace K4
open PySem PySem.Spec PyProof.Rows L2 StX LamX
open M4 (Bd SB BQ qe qv dotN dotQ addQ restQ upright uprightF isZ OB GB dj)
section
variable {P : Program} {w : World} {K : PySem.W.Frag} {mg : Str → Option Value} {base : Heap}
theorem lratio_eq {n d : Int} (h : 0 < d) : n.fdiv ((max 1 (Int.gcd n d) : Nat) : Int) = ((n : Rat) / (d : Rat)).num ∧ d.fdiv ((max 1 (Int.gcd n d) : Nat) : Int) = (((n : Rat) / (d : Rat)).den : Int) := by
  have e := lowest_eq (n := n) (d := d) (by omega)
  rw [if_neg (by omega)] at e
  have g : Int.gcd n d ≠ 0 := fun z => by
    have := (Int.gcd_eq_zero_iff.mp z).2
    omega
  rw [show max 1 (Int.gcd n d) = Int.gcd n d by omega]
  exact e
def spGcdL : L2.Sp := fun vs H Q _ => ∃ a b : Int, vs = [.int a, .int b] ∧ Q (.int ((max 1 (Int.gcd a b) : Nat) : Int)) H
theorem sc__law_gcd : FnScope ["_law_one", "_law_two"] ["_law_one", "_law_two"] (defScope s__law_gcd) := ⟨rfl, rfl, rfl, by decide +kernel, rfl, by decide +kernel, by decide +kernel⟩

theorem ok__law_gcd (D : Glo K mg "_law_gcd" "_law_gcd" s__law_gcd) (T_abs : mg "abs" = none) (T_int : mg "int" = none) (T_max : mg "max" = none) : Cal P w K mg base CX0 33 "_law_gcd" spGcdL := by
  refine D.cal sc__law_gcd (fun _ _ _ _ _ _ us hl => match us, hl with | [_, _], _ => rfl) (fun vs H Q E h => ?_) (fun f cdv A outer s H vs Q E hr h => ?_)
  · obtain ⟨a, b, rfl, _⟩ := h; rfl
  · obtain ⟨a, b, rfl, k⟩ := h
    refine ⟨_, (pss_cons (ps_set (i := 0) sc__law_gcd.nd rfl (by first | exact Or.inl rfl | exact Or.inr rfl) (pe_callB call_abs (by rfl) T_abs b_abs (pa_cons (pv 0) pa_nil)))
      (pss_cons (ps_set (i := 1) sc__law_gcd.nd rfl (by first | exact Or.inl rfl | exact Or.inr rfl) (pe_callB call_abs (by rfl) T_abs b_abs (pa_cons (pv 1) pa_nil)))
      (pss_cons (ps_while PassesOwn.never (pt_cmpR op_gt (pv 1) pe_int (nomark _)) (pss_one (ps_par (i := 0) (j := 1) (by rfl) sc__law_gcd.nd rfl rfl (by decide) rfl rfl (pa_cons (pv 1) (pa_cons (pe_op op_mod (pe_callTy call_int1 (by rfl) T_int b_int (pa_cons (pv 0) pa_nil)) (pv 1)) pa_nil)) (by rfl))))
      (pss_one (ps_ret (pe_callB (call_max2 rfl) (by rfl) T_max b_max (pa_cons pe_int (pa_cons (pv 0) pa_nil)))))))), ?_⟩
    refine ⟨_, rfl, a, rfl, _, rfl, b, rfl, ?_⟩
    rw [natAbs_ite, natAbs_ite]
    refine ⟨fun m σ H' => ∃ x y : Nat, σ = [some (.int x), some (.int y)] ∧ H' = H ∧ Nat.gcd x y = Int.gcd a b ∧ m = y, ⟨_, _, _, rfl, rfl, rfl, rfl⟩, ?_⟩
    rintro m σ H' ⟨x, y, rfl, rfl, hg, rfl⟩
    refine ⟨_, rfl, _, _, rfl, rfl, _, rfl, ?_⟩
    by_cases hy : m = 0
    · subst hy
      refine iteN (by decide) ?_
      rw [Nat.gcd_zero_right] at hg
      refine ⟨_, rfl, _, _, rfl, ?_⟩
      have e : (if (x : Int) > 1 then (x : Int) else 1) = ((max 1 (Int.gcd a b) : Nat) : Int) := by
        rw [hg]; split <;> omega
      rw [e]; exact k
    · refine iteC (by simp; omega) ?_
      refine ⟨fun σ H2 => ∃ x y : Nat, σ = [some (.int x), some (.int y)] ∧ H2 = H' ∧ Nat.gcd x y = Int.gcd a b ∧ y < m, ?_, ?_⟩
      · rintro σ' H2 ⟨x, y, rfl, rfl, h1, h2⟩
        exact ⟨y, h2, x, y, rfl, rfl, h1, rfl⟩
      · refine ⟨_, rfl, _, rfl, .inl ⟨_, rfl, _, rfl, _, _, rfl, rfl, (by show (0 : Int) < m; omega), _, _, rfl, ?_⟩⟩
        exact ⟨m, x % m, rfl, rfl, gcd_step hg hy, Nat.mod_lt _ (by omega)⟩
def spRatioL : L2.Sp := fun vs H Q _ => ∃ n d : Int, vs = [.int n, .int d] ∧ New H (rt ((n : Rat) / (d : Rat))) Q
theorem sc__law_ratio : FnScope ["_law_num", "_law_den", "_law_part"] ["_law_num", "_law_den"] (defScope s__law_ratio) := ⟨rfl, rfl, rfl, by decide +kernel, rfl, by decide +kernel, by decide +kernel⟩

theorem ok__law_ratio (D : Glo K mg "_law_ratio" "_law_ratio" s__law_ratio) (ok__law_gcd : Cal P w K mg base CX0 33 "_law_gcd" spGcdL) (seer : Seer P K mg) (T_int : mg "int" = none) : Cal P w K mg base CX0 35 "_law_ratio" spRatioL := by
  refine D.cal sc__law_ratio (fun _ _ _ _ _ _ us hl => match us, hl with | [_, _], _ => rfl) (fun vs H Q E h => ?_) (fun f cdv A outer s H vs Q E hr h => ?_)
  · obtain ⟨a, b, rfl, _⟩ := h; rfl
  · obtain ⟨n, d, rfl, k⟩ := h
    refine ⟨_, (pss_cons (ps_if (pt_cmpR op_eq (pv 1) pe_int (nomark _)) (pss_one (ps_ret (pe_tup (pa_cons pe_int (pa_cons pe_int pa_nil))))) pss_nil)
      (pss_cons (ps_if (pt_cmpR op_lt (pv 1) pe_int (nomark _)) (pss_cons (ps_set (i := 0) sc__law_ratio.nd rfl (by first | exact Or.inl rfl | exact Or.inr rfl) (pe_op op_sub pe_int (pv 0)))
      (pss_one (ps_set (i := 1) sc__law_ratio.nd rfl (by first | exact Or.inl rfl | exact Or.inr rfl) (pe_op op_sub pe_int (pv 1))))) pss_nil)
      (pss_cons (ps_set (i := 2) sc__law_ratio.nd rfl (by first | exact Or.inl rfl | exact Or.inr rfl) (pe_cal ok__law_gcd (hr.mono (by decide)) (pa_cons (pv 0) (pa_cons (pv 1) pa_nil))))
      (pss_one (ps_ret (pe_tup (pa_cons (pe_op (op_fdivA seer (hr.mono (by decide)) ⟨_, _, rfl, rfl, rfl, rfl, rfl⟩) (pe_callTy call_int1 (by rfl) T_int b_int (pa_cons (pv 0) pa_nil)) (pv 2)) (pa_cons (pe_op (op_fdivA seer (hr.mono (by decide)) ⟨_, _, rfl, rfl, rfl, rfl, rfl⟩) (pe_callTy call_int1 (by rfl) T_int b_int (pa_cons (pv 1) pa_nil)) (pv 2)) pa_nil)))))))), ?_⟩
    refine ⟨_, rfl, rfl, _, rfl, ?_⟩
    by_cases h0 : d = 0
    · subst h0
      refine iteC (by decide) ⟨by show 2 ≤ sizeLine; decide, fun p hp => k p _ (same_upd hp) hp ?_⟩
      rw [upd_same, show (n : Rat) / ((0 : Int) : Rat) = 0 by have : ((0 : Int) : Rat) = 0 := rfl; rw [this]; grind]
      rfl
    · refine iteN (by simpa using h0) ?_
      refine ⟨_, rfl, _, _, rfl, rfl, _, rfl, ?_⟩
      have fin : ∀ n' d' : Int, 0 < d' → (n' : Rat) / (d' : Rat) = (n : Rat) / (d : Rat) → ∀ p, H p = none → Q (.ref p) (upd H p (.tup [.int (n'.fdiv ((max 1 (Int.gcd n' d') : Nat) : Int)), .int (d'.fdiv ((max 1 (Int.gcd n' d') : Nat) : Int))])) := fun n' d' hd e p hp => by
        refine k p _ (same_upd hp) hp ?_
        obtain ⟨e1, e2⟩ := lratio_eq (n := n') hd
        rw [upd_same, ← e]
        exact congrArg some (rt_of e1 e2)
      have g0 : ∀ n' d' : Int, ((max 1 (Int.gcd n' d') : Nat) : Int) ≠ 0 := fun n' d' => by omega
      by_cases hs : d < 0
      · refine iteC (by simpa using hs) ?_
        refine ⟨_, rfl, _, _, rfl, rfl, ?_⟩
        refine ⟨_, rfl, _, _, rfl, rfl, ?_⟩
        refine ⟨_, rfl, _, rfl, _, _, rfl, ?_⟩
        refine ⟨_, rfl, .inl ⟨_, rfl, _, rfl, _, _, rfl, rfl, g0 _ _, _, rfl, .inl ⟨_, rfl, _, rfl, _, _, rfl, rfl, g0 _ _, by show 2 ≤ sizeLine; decide, fin (0 - n) (0 - d) (by omega) ?_⟩⟩⟩
        have hd : ((d : Int) : Rat) ≠ 0 := fun z => h0 (M4.cast0.mp z)
        rw [Rat.intCast_sub, Rat.intCast_sub]
        have c0 : ((0 : Int) : Rat) = 0 := rfl
        rw [c0]; grind
      · refine iteN (by simpa using hs) ?_
        refine ⟨_, rfl, _, rfl, _, _, rfl, ?_⟩
        exact ⟨_, rfl, .inl ⟨_, rfl, _, rfl, _, _, rfl, rfl, g0 _ _, _, rfl, .inl ⟨_, rfl, _, rfl, _, _, rfl, rfl, g0 _ _, by show 2 ≤ sizeLine; decide, fin n d (by omega) rfl⟩⟩⟩
/-! ### numbers -/
def isF (b : Nat) : RelH Rat := fun H v q => ∃ (a : Addr) (n d : Int), v = .ref a ∧ H a = some (.tup [.int n, .int d]) ∧ d ≠ 0 ∧ q = (n : Rat) / (d : Rat) ∧ Bd n b ∧ Bd d b
theorem rat_self (q : Rat) : q = (q.num : Rat) / ((q.den : Int) : Rat) := by
  have : (((q.den : Nat) : Int) : Rat) = (q.den : Rat) := rfl
  rw [this, ← Rat.mkRat_eq_div, Rat.mkRat_self]
theorem isF_of {H : Hp} {v : V} {q : Rat} {b : Nat} (h : isQ H v q) (s : SB q b) : isF b H v q := by
  obtain ⟨a, e, h⟩ := h
  exact ⟨a, _, _, e, h, by have := q.den_nz; omega, rat_self q, s.num, s.den⟩
theorem isF.mono {b c : Nat} (h : b ≤ c) {H : Hp} {v : V} {q : Rat} : isF b H v q → isF c H v q := fun ⟨a, n, d, e, h1, h2, h3, h4, h5⟩ => ⟨a, n, d, e, h1, h2, h3, h4.mono h, h5.mono h⟩
theorem mono_F {b : Nat} : Mono (isF b) := fun _ _ _ _ s ⟨a, n, d, e, h1, h2⟩ => ⟨a, n, d, e, s _ _ h1, h2⟩
theorem sc__law_asratio : FnScope ["_law_number"] ["_law_number"] (defScope s__law_asratio) := ⟨rfl, rfl, rfl, by decide +kernel, rfl, by decide +kernel, by decide +kernel⟩

def spAsratio : L2.Sp := fun vs H Q _ => ∃ (v : V) (q : Rat), vs = [v] ∧ isNum H v q ∧ New H (rt q) Q
theorem ok__law_asratio (D : Glo K mg "_law_asratio" "_law_asratio" s__law_asratio) (ok__law_ratio : Cal P w K mg base CX0 35 "_law_ratio" spRatioL) (T_isinstance : mg "isinstance" = none) (T_tuple : mg "tuple" = none) : Cal P w K mg base CX0 37 "_law_asratio" spAsratio := by
  refine D.cal sc__law_asratio (fun _ _ _ _ _ _ us hl => match us, hl with | [_], _ => rfl) (fun vs H Q E h => ?_) (fun f cdv A outer s H vs Q E hr h => ?_)
  · obtain ⟨v, q, rfl, _⟩ := h; rfl
  · obtain ⟨v, q, rfl, hn, k⟩ := h
    refine ⟨_, (pss_cons (ps_if (pt_val (pe_callB (call_isiK' K) (by rfl) T_isinstance b_isinstance (pa_cons (pv 0) (pa_cons (pe_bltn (v := .ty "tuple") (by rfl) T_tuple b_tuple rfl) pa_nil)))) (pss_one (ps_ret (pe_cal ok__law_ratio (hr.mono (by decide)) (pa_cons (pe_ix (ix_n K) (pv 0) pe_int (fun _ _ => rfl)) (pa_cons (pe_ix (ix_n K) (pv 0) pe_int (fun _ _ => rfl)) pa_nil))))) pss_nil)
      (pss_one (ps_ret (pe_tup (pa_cons (pv 0) (pa_cons pe_int pa_nil)))))), ?_⟩
    rcases hn with ⟨z, rfl, rfl⟩ | ⟨a, n, d, rfl, ha, hd, rfl⟩
    · refine ⟨_, rfl, _, _, _, _, _, rfl, .ty "tuple", .base (.int z), kit_int_tuple, _, rfl, iteF ?_⟩
      exact ⟨_, rfl, by show 2 ≤ sizeLine; decide, fun p hp => k p _ (same_upd hp) hp (upd_same.trans (congrArg some (rt_of rfl rfl)))⟩
    · refine ⟨_, rfl, _, _, _, _, _, rfl, .ty "tuple", .base (.tup ha), kit_tuple_tuple, _, rfl, iteT ?_⟩
      have hT : SqT K H a [.int n, .int d] := .inl (.inl ha)
      exact ⟨_, rfl, a, _, 0, _, rfl, rfl, .inr hT, rfl, _, rfl, a, _, 1, _, rfl, rfl, .inr hT, rfl, n, d, rfl, k⟩
/-! ### sums, products, quotients -/
def spBin (f : Rat → Rat → Rat) : L2.Sp := fun vs H Q _ => ∃ (x y : V) (a b : Rat) (p q : Nat), vs = [x, y] ∧ isF p H x a ∧ isF q H y b ∧ p + q ≤ 134000000 ∧ New H (rt (f a b)) Q
theorem mulB {i j : Int} {a b : Nat} (h1 : Bd i a) (h2 : Bd j b) (h : a + b ≤ 134000000) : CMulB i j := ⟨a, b, h1, h2, h⟩
theorem sc__law_mul : FnScope ["_law_left", "_law_right"] ["_law_left", "_law_right"] (defScope s__law_mul) := ⟨rfl, rfl, rfl, by decide +kernel, rfl, by decide +kernel, by decide +kernel⟩

theorem ok__law_mul (D : Glo K mg "_law_mul" "_law_mul" s__law_mul) (ok__law_ratio : Cal P w K mg base CX0 35 "_law_ratio" spRatioL) : Cal P w K mg base CX0 37 "_law_mul" (spBin fun a b => a * b) := by
  refine D.cal sc__law_mul (fun _ _ _ _ _ _ us hl => match us, hl with | [_, _], _ => rfl) (fun vs H Q E h => ?_) (fun f cdv A outer s H vs Q E hr h => ?_)
  · obtain ⟨x, y, a, b, p, q, rfl, _⟩ := h; rfl
  · obtain ⟨x, y, qa, qb, p, q, rfl, ⟨a, n, d, rfl, ha, hd, ea, n1, d1⟩, ⟨b, m, e, rfl, hb, he, eb, n2, d2⟩, hpq, k⟩ := h
    have hA : SqT K H a [.int n, .int d] := .inl (.inl ha)
    have hB : SqT K H b [.int m, .int e] := .inl (.inl hb)
    refine ⟨_, (pss_one (ps_ret (pe_cal ok__law_ratio (hr.mono (by decide)) (pa_cons (pe_op op_mulB (pe_ix (ix_n K) (pv 0) pe_int (fun _ _ => rfl)) (pe_ix (ix_n K) (pv 1) pe_int (fun _ _ => rfl))) (pa_cons (pe_op op_mulB (pe_ix (ix_n K) (pv 0) pe_int (fun _ _ => rfl)) (pe_ix (ix_n K) (pv 1) pe_int (fun _ _ => rfl))) pa_nil))))), ?_⟩
    refine ⟨_, rfl, a, _, 0, _, rfl, rfl, .inr hA, rfl, _, rfl, b, _, 0, _, rfl, rfl, .inr hB, rfl, n, m, rfl, rfl, mulB n1 n2 hpq, ?_⟩
    refine ⟨_, rfl, a, _, 1, _, rfl, rfl, .inr hA, rfl, _, rfl, b, _, 1, _, rfl, rfl, .inr hB, rfl, d, e, rfl, rfl, mulB d1 d2 hpq, _, _, rfl, ?_⟩
    have g : ((n * m : Int) : Rat) / ((d * e : Int) : Rat) = qa * qb := by
      rw [ea, eb, Rat.intCast_mul, Rat.intCast_mul]
      have := fun z => hd (M4.cast0.mp z)
      have := fun z => he (M4.cast0.mp z)
      grind
    rw [g]
    exact k
theorem sc__law_add : FnScope ["_law_left", "_law_right"] ["_law_left", "_law_right"] (defScope s__law_add) := ⟨rfl, rfl, rfl, by decide +kernel, rfl, by decide +kernel, by decide +kernel⟩

theorem ok__law_add (D : Glo K mg "_law_add" "_law_add" s__law_add) (ok__law_ratio : Cal P w K mg base CX0 35 "_law_ratio" spRatioL) : Cal P w K mg base CX0 37 "_law_add" (spBin fun a b => a + b) := by
  refine D.cal sc__law_add (fun _ _ _ _ _ _ us hl => match us, hl with | [_, _], _ => rfl) (fun vs H Q E h => ?_) (fun f cdv A outer s H vs Q E hr h => ?_)
  · obtain ⟨x, y, a, b, p, q, rfl, _⟩ := h; rfl
  · obtain ⟨x, y, qa, qb, p, q, rfl, ⟨a, n, d, rfl, ha, hd, ea, n1, d1⟩, ⟨b, m, e, rfl, hb, he, eb, n2, d2⟩, hpq, k⟩ := h
    have hA : SqT K H a [.int n, .int d] := .inl (.inl ha)
    have hB : SqT K H b [.int m, .int e] := .inl (.inl hb)
    refine ⟨_, (pss_one (ps_ret (pe_cal ok__law_ratio (hr.mono (by decide)) (pa_cons (pe_op op_add (pe_op op_mulB (pe_ix (ix_n K) (pv 0) pe_int (fun _ _ => rfl)) (pe_ix (ix_n K) (pv 1) pe_int (fun _ _ => rfl))) (pe_op op_mulB (pe_ix (ix_n K) (pv 1) pe_int (fun _ _ => rfl)) (pe_ix (ix_n K) (pv 0) pe_int (fun _ _ => rfl)))) (pa_cons (pe_op op_mulB (pe_ix (ix_n K) (pv 0) pe_int (fun _ _ => rfl)) (pe_ix (ix_n K) (pv 1) pe_int (fun _ _ => rfl))) pa_nil))))), ?_⟩
    refine ⟨_, rfl, a, _, 0, _, rfl, rfl, .inr hA, rfl, _, rfl, b, _, 1, _, rfl, rfl, .inr hB, rfl, n, e, rfl, rfl, mulB n1 d2 hpq, ?_⟩
    refine ⟨_, rfl, b, _, 0, _, rfl, rfl, .inr hB, rfl, _, rfl, a, _, 1, _, rfl, rfl, .inr hA, rfl, m, d, rfl, rfl, mulB n2 d1 (by omega), _, _, rfl, rfl, ?_⟩
    refine ⟨_, rfl, a, _, 1, _, rfl, rfl, .inr hA, rfl, _, rfl, b, _, 1, _, rfl, rfl, .inr hB, rfl, d, e, rfl, rfl, mulB d1 d2 hpq, _, _, rfl, ?_⟩
    have g : ((n * e + m * d : Int) : Rat) / ((d * e : Int) : Rat) = qa + qb := by
      rw [ea, eb, Rat.intCast_add, Rat.intCast_mul, Rat.intCast_mul, Rat.intCast_mul]
      have := fun z => hd (M4.cast0.mp z)
      have := fun z => he (M4.cast0.mp z)
      grind
    rw [g]
    exact k
theorem sc__law_div : FnScope ["_law_left", "_law_right"] ["_law_left", "_law_right"] (defScope s__law_div) := ⟨rfl, rfl, rfl, by decide +kernel, rfl, by decide +kernel, by decide +kernel⟩

theorem ok__law_div (D : Glo K mg "_law_div" "_law_div" s__law_div) (ok__law_ratio : Cal P w K mg base CX0 35 "_law_ratio" spRatioL) : Cal P w K mg base CX0 37 "_law_div" (spBin fun a b => a / b) := by
  refine D.cal sc__law_div (fun _ _ _ _ _ _ us hl => match us, hl with | [_, _], _ => rfl) (fun vs H Q E h => ?_) (fun f cdv A outer s H vs Q E hr h => ?_)
  · obtain ⟨x, y, a, b, p, q, rfl, _⟩ := h; rfl
  · obtain ⟨x, y, qa, qb, p, q, rfl, ⟨a, n, d, rfl, ha, hd, ea, n1, d1⟩, ⟨b, m, e, rfl, hb, he, eb, n2, d2⟩, hpq, k⟩ := h
    have hA : SqT K H a [.int n, .int d] := .inl (.inl ha)
    have hB : SqT K H b [.int m, .int e] := .inl (.inl hb)
    refine ⟨_, (pss_one (ps_ret (pe_cal ok__law_ratio (hr.mono (by decide)) (pa_cons (pe_op op_mulB (pe_ix (ix_n K) (pv 0) pe_int (fun _ _ => rfl)) (pe_ix (ix_n K) (pv 1) pe_int (fun _ _ => rfl))) (pa_cons (pe_op op_mulB (pe_ix (ix_n K) (pv 0) pe_int (fun _ _ => rfl)) (pe_ix (ix_n K) (pv 1) pe_int (fun _ _ => rfl))) pa_nil))))), ?_⟩
    refine ⟨_, rfl, a, _, 0, _, rfl, rfl, .inr hA, rfl, _, rfl, b, _, 1, _, rfl, rfl, .inr hB, rfl, n, e, rfl, rfl, mulB n1 d2 hpq, ?_⟩
    refine ⟨_, rfl, a, _, 1, _, rfl, rfl, .inr hA, rfl, _, rfl, b, _, 0, _, rfl, rfl, .inr hB, rfl, d, m, rfl, rfl, mulB d1 n2 hpq, _, _, rfl, ?_⟩
    have g : ((n * e : Int) : Rat) / ((d * m : Int) : Rat) = qa / qb := by
      rw [ea, eb, Rat.intCast_mul, Rat.intCast_mul]
      have := fun z => hd (M4.cast0.mp z)
      have := fun z => he (M4.cast0.mp z)
      grind
    rw [g]
    exact k
end
end K4
/-! K26: the law's rows of ratios. -/
namespace K4
open PySem PySem.Spec PyProof.Rows L2 StX LamX
open M4 (Bd SB BQ qe qv dotN dotQ addQ restQ upright uprightF isZ OB GB dj)
section
variable {P : Program} {w : World} {K : PySem.W.Frag} {mg : Str → Option Value} {base : Heap}
def spDot : L2.Sp := fun vs H Q _ => ∃ (x y : V) (l r : List Rat) (a b : Nat), vs = [x, y] ∧ isL isQ H x l ∧ isL isQ H y r ∧ l.length = r.length ∧ l.length ≤ 7 ∧ BQ l a ∧ BQ r b ∧ 2 * (a + b) + 10 ≤ 134000000 ∧ New H (rt (dotQ l r)) Q
theorem row_at {H : Hp} {vs : List V} {l : List Rat} (p : Paired (fun q v => isQ H v q) l vs) {i : Nat} (hi : i < l.length) : ∃ v, vs[i]? = some v ∧ isQ H v (qe l i) := pGet p (M4.qe_some hi)
theorem at0 {xs : List V} {i : Nat} {v : V} (h : xs[i]? = some v) : xs[0 + i]? = some v := by rw [Nat.zero_add]; exact h
theorem sc__law_dot : FnScope ["_law_left", "_law_right", "_law_result", "_law_k"] ["_law_left", "_law_right"] (defScope s__law_dot) := ⟨rfl, rfl, rfl, by decide +kernel, rfl, by decide +kernel, by decide +kernel⟩

theorem ok__law_dot (D : Glo K mg "_law_dot" "_law_dot" s__law_dot) (ok__law_add : Cal P w K mg base CX0 37 "_law_add" (spBin fun a b => a + b)) (ok__law_mul : Cal P w K mg base CX0 37 "_law_mul" (spBin fun a b => a * b)) (T_len : mg "len" = none) (T_range : mg "range" = none) : Cal P w K mg base CX0 39 "_law_dot" spDot := by
  refine D.cal sc__law_dot (fun _ _ _ _ _ _ us hl => match us, hl with | [_, _], _ => rfl) (fun vs H Q E h => ?_) (fun f cdv A outer s H vs Q E hr h => ?_)
  · obtain ⟨x, y, l, r, a, b, rfl, _⟩ := h; rfl
  · obtain ⟨x, y, l, r, p, q, rfl, ⟨a, avs, rfl, hA, hpa⟩, ⟨b, bvs, rfl, hB, hpb⟩, hl, h7, bl, br, hsz, k⟩ := h
    have la := pLen hpa
    have lb := pLen hpb
    refine ⟨_, (pss_cons (ps_set (i := 2) sc__law_dot.nd rfl (by first | exact Or.inl rfl | exact Or.inr rfl) (pe_tup (pa_cons pe_int (pa_cons pe_int pa_nil))))
      (pss_cons (ps_for PassesOwn.never rfl (pi_range1 (by rfl) T_range (pa_cons (pe_callB (call_lenK K) (by rfl) T_len b_len (pa_cons (pv 0) pa_nil)) pa_nil)) (pg_name (i := 3) sc__law_dot.nd rfl (by first | exact Or.inl rfl | exact Or.inr rfl)) (pss_one (ps_set (i := 2) sc__law_dot.nd rfl (by first | exact Or.inl rfl | exact Or.inr rfl) (pe_cal ok__law_add (hr.mono (by decide)) (pa_cons (pv 2) (pa_cons (pe_cal ok__law_mul (hr.mono (by decide)) (pa_cons (pe_ix (ix_n K) (pv 0) (pv 3) (fun _ _ => rfl)) (pa_cons (pe_ix (ix_n K) (pv 1) (pv 3) (fun _ _ => rfl)) pa_nil))) pa_nil))))))
      (pss_one (ps_ret (pv 2))))), ?_⟩
    refine ⟨by show 2 ≤ sizeLine; decide, fun p0 hp0 => ?_⟩
    have s0 : Same H (upd H p0 (.tup [V.int 0, V.int 1])) := same_upd hp0
    refine ⟨_, rfl, a, _, rfl, .inl (SqL.of (s0 _ _ hA)), _, rfl, by omega, by omega, for_it (walk_range (lo := 0)) (fun i σ H' => Same H H' ∧ ∃ c o, σ = [some (.ref a), some (.ref b), some (.ref c), o] ∧ H c = none ∧ H' c = some (rt (dotN (qv l) (qv r) i))) ⟨s0, p0, none, rfl, hp0, upd_same⟩ (fun _ _ _ _ _ => trivial) ?_ ?_⟩
    · rintro i x σ H' H2 hi ⟨s, c, o, rfl, hcn, hv⟩ y
      obtain ⟨rfl, rfl⟩ := y
      have hi2 : i < l.length := by omega
      obtain ⟨u1, g1, q1⟩ := row_at hpa hi2
      obtain ⟨u2, g2, q2⟩ := row_at hpb (by omega : i < r.length)
      have d1 := bl.sb i
      have d2 := br.sb i
      have dp := bl.dot br (n := i) (by omega)
      refine ⟨_, rfl, _, rfl, _, rfl, a, avs, _, u1, rfl, rfl, .inl (SqL.of (s _ _ hA)), at0 g1, _, rfl, _, rfl, b, bvs, _, u2, rfl, rfl, .inl (SqL.of (s _ _ hB)), at0 g2, ?_⟩
      refine ⟨u1, u2, _, _, p, q, rfl, isF_of (mono_Q _ _ _ _ s q1) d1, isF_of (mono_Q _ _ _ _ s q2) d2, by omega, fun m H3 s3 _ hm => ?_⟩
      refine ⟨.ref c, .ref m, _, _, _, _, rfl, isF_of ⟨c, rfl, s3 _ _ hv⟩ dp, isF_of ⟨m, rfl, hm⟩ (d1.mul d2), by omega, fun m2 H4 s4 hn2 hm2 => ?_⟩
      exact ⟨(s.trans s3).trans s4, m2, _, rfl, none_back (s.trans s3) hn2, hm2⟩
    · rintro σ H' ⟨s, c, o, rfl, hcn, hc⟩
      refine ⟨_, rfl, k c H' s hcn ?_⟩
      rw [hc]
      unfold dotQ
      rw [la]
      rfl
/-! ### rows from rows -/
theorem newL {H' : Hp} {D : Addr} {ys : List V} {δ : Type} {R : RelH δ} {ds : List δ} {n : Nat} (hD : H' D = some (.lst ys)) (hn : ds.length = n) (f : Nat → δ → Prop) (hf : ∀ i d, ds[i]? = some d → f i d) (h : Paired (fun i y => ∀ d, f i d → R H' y d) (List.range n) ys) : isL R H' (.ref D) ds := by
  have e := pLen h
  rw [List.length_range] at e
  refine ⟨D, ys, rfl, hD, pOf (by omega) fun i d y hd hy => ?_⟩
  obtain ⟨j, hj, q⟩ := pGet2 h hy
  have hi := (List.getElem?_eq_some_iff.mp hd).1
  rw [List.getElem?_range (by omega)] at hj
  cases hj
  exact q d (hf i d hd)
/-- a row, added to -/
def spAddcells : L2.Sp := fun vs H Q _ => ∃ (x y z : V) (l r : List Rat) (g : Rat) (a b c : Nat), vs = [x, y, z] ∧ isL isQ H x l ∧ isL isQ H y r ∧ isF c H z g ∧ l.length = r.length ∧ l.length ≤ 7 ∧ (∀ i, SB (qe l i) a) ∧ (∀ i, SB (qe r i) b) ∧ SB g c ∧ a + b + c ≤ 134000000 ∧
  ∀ p H', Same H H' → H p = none → isL isQ H' (.ref p) (addQ l r g) → Q (.ref p) H'
theorem sc__law_addcells : FnScope ["_law_left", "_law_right", "_law_factor", "_law_k"] ["_law_left", "_law_right", "_law_factor"] (defScope s__law_addcells) := ⟨rfl, rfl, rfl, by decide +kernel, rfl, by decide +kernel, by decide +kernel⟩

theorem ok__law_addcells (D : Glo K mg "_law_addcells" "_law_addcells" s__law_addcells) (ok__law_add : Cal P w K mg base CX0 37 "_law_add" (spBin fun a b => a + b)) (ok__law_mul : Cal P w K mg base CX0 37 "_law_mul" (spBin fun a b => a * b)) (T_len : mg "len" = none) (T_range : mg "range" = none) : Cal P w K mg base CX0 39 "_law_addcells" spAddcells := by
  refine D.cal sc__law_addcells (fun _ _ _ _ _ _ us hl => match us, hl with | [_, _, _], _ => rfl) (fun vs H Q E h => ?_) (fun f cdv A outer s H vs Q E hr h => ?_)
  · obtain ⟨x, y, z, l, r, g, a, b, c, rfl, _⟩ := h; rfl
  · obtain ⟨x, y, z, l, r, g, p, q, t, rfl, ⟨a, avs, rfl, hA, hpa⟩, ⟨b, bvs, rfl, hB, hpb⟩, hz, hl, h7, bl, br, bg, hsz, k⟩ := h
    have la := pLen hpa
    have lb := pLen hpb
    refine ⟨_, (pss_one (ps_ret (pe_lc (own := [("_law_k", 3)]) (tt := tYes) (g := (gName 3)) rfl sc__law_addcells.nd (pi_range1 (by rfl) T_range (pa_cons (pe_callB (call_lenK K) (by rfl) T_len b_len (pa_cons (pv 0) pa_nil)) pa_nil)) (blkOk_by (N := ["_law_left", "_law_right", "_law_factor", "_law_k"]) (sc := defScope s__law_addcells) (by decide +kernel)) (fun _ _ _ _ _ => (pg_name (i := 3) sc__law_addcells.nd rfl (by first | exact Or.inl rfl | exact Or.inr rfl))) (fun _ _ _ _ _ => pts_nil) (fun _ _ _ _ _ => (pe_cal ok__law_add (hr.mono (by decide)) (pa_cons (pe_ix (ix_n K) (pv 0) (pv 3) (fun _ _ => rfl)) (pa_cons (pe_cal ok__law_mul (hr.mono (by decide)) (pa_cons (pv 2) (pa_cons (pe_ix (ix_n K) (pv 1) (pv 3) (fun _ _ => rfl)) pa_nil))) pa_nil))))))), ?_⟩
    refine ⟨_, rfl, a, _, rfl, .inl (SqL.of hA), _, rfl, by omega, by omega, fun L hL => lcm (walk_range (lo := 0)) (fun i H v => isQ H v (qe l i + g * qe r i)) hL (small_line (by omega)) (fun _ _ _ _ s q => mono_Q _ _ _ _ s q) (fun _ _ => trivial) (fun i y H1 H2 hi s o yy Q k => ?_) (fun H1 ys s hL' q => ?_)⟩
    · obtain ⟨rfl, rfl⟩ := yy
      obtain ⟨oD, hD⟩ := o
      have s1 := s.trans (same_cut _ _)
      have hi2 : i < l.length := by omega
      obtain ⟨u1, g1, q1⟩ := row_at hpa hi2
      obtain ⟨u2, g2, q2⟩ := row_at hpb (by omega : i < r.length)
      refine ⟨rfl, _, rfl, _, rfl, a, avs, _, u1, rfl, rfl, .inl (SqL.of (s1 _ _ hA)), at0 g1, _, rfl, _, rfl, _, rfl, b, bvs, _, u2, rfl, rfl, .inl (SqL.of (s1 _ _ hB)), at0 g2, ?_⟩
      refine ⟨z, u2, _, _, _, _, rfl, mono_F _ _ _ _ s1 hz, isF_of (mono_Q _ _ _ _ s1 q2) (br i), by omega, fun m H3 s3 _ hm => ?_⟩
      refine ⟨u1, .ref m, _, _, _, _, rfl, isF_of (mono_Q _ _ _ _ (s1.trans s3) q1) (bl i), isF_of ⟨m, rfl, hm⟩ (bg.mul (br i)), by omega, fun m2 H4 s4 hn2 hm2 => ?_⟩
      exact k _ _ (s3.trans s4) ⟨m2, rfl, cut_new (s3 _ _ hD) hn2 hm2⟩
    · refine k L H1 s hL (newL (n := l.length) hL' (M4.addQ_len _ _ _) (fun i d => d = qe l i + g * qe r i) (fun i d hd => ?_) ?_)
      · have hi := (List.getElem?_eq_some_iff.mp hd).1
        rw [M4.addQ_len] at hi
        have := M4.qe_get hd
        rw [M4.qe_addQ hi] at this
        exact this.symm
      · rw [← la] at q
        exact pImp q fun i y h d e => by rw [e]; exact h
def spAsratios : L2.Sp := fun vs H Q _ => ∃ (x : V) (l : List Rat), vs = [x] ∧ isL isNum H x l ∧ l.length ≤ 100 ∧ ∀ p H', Same H H' → H p = none → isL isQ H' (.ref p) l → Q (.ref p) H'
theorem sc__law_asratios : FnScope ["_law_row", "_law_number"] ["_law_row"] (defScope s__law_asratios) := ⟨rfl, rfl, rfl, by decide +kernel, rfl, by decide +kernel, by decide +kernel⟩

theorem ok__law_asratios (D : Glo K mg "_law_asratios" "_law_asratios" s__law_asratios) (ok__law_asratio : Cal P w K mg base CX0 37 "_law_asratio" spAsratio) : Cal P w K mg base CX0 39 "_law_asratios" spAsratios := by
  refine D.cal sc__law_asratios (fun _ _ _ _ _ _ us hl => match us, hl with | [_], _ => rfl) (fun vs H Q E h => ?_) (fun f cdv A outer s H vs Q E hr h => ?_)
  · obtain ⟨x, l, rfl, _⟩ := h; rfl
  · obtain ⟨x, l, rfl, ⟨a, avs, rfl, hA, hpa⟩, h7, k⟩ := h
    have la := pLen hpa
    refine ⟨_, (pss_one (ps_ret (pe_lc (own := [("_law_number", 1)]) (tt := tYes) (g := (gName 1)) rfl sc__law_asratios.nd (pi_listK K (pv 0)) (blkOk_by (N := ["_law_row", "_law_number"]) (sc := defScope s__law_asratios) (by decide +kernel)) (fun _ _ _ _ _ => (pg_name (i := 1) sc__law_asratios.nd rfl (by first | exact Or.inl rfl | exact Or.inr rfl))) (fun _ _ _ _ _ => pts_nil) (fun _ _ _ _ _ => (pe_cal ok__law_asratio (hr.mono (by decide)) (pa_cons (pv 1) pa_nil)))))), ?_⟩
    refine ⟨_, rfl, a, rfl, ⟨_, SqL.of hA⟩, fun L hL => lcm (walk_list (xs := avs)) (fun i H v => ∃ q, l[i]? = some q ∧ isQ H v q) hL (small_line (by omega)) (fun _ _ _ _ s ⟨q, h, r⟩ => ⟨q, h, mono_Q _ _ _ _ s r⟩) (fun H' s => s.seq (SqL.of hA)) (fun i y H1 H2 hi s o yy Q k => ?_) (fun H1 ys s hL' q => ?_)⟩
    · obtain ⟨rfl, hx⟩ := yy
      obtain ⟨oD, hD⟩ := o
      have s1 := s.trans (same_cut _ _)
      obtain ⟨q, hq, rn⟩ := pGet2 hpa hx
      refine ⟨rfl, _, rfl, y, q, rfl, mono_num _ _ _ _ s1 rn, fun m H3 s3 hm hm2 => ?_⟩
      exact k _ _ s3 ⟨q, hq, m, rfl, cut_new hD hm hm2⟩
    · refine k L H1 s hL (newL (n := l.length) hL' rfl (fun i d => l[i]? = some d) (fun i d hd => hd) ?_)
      rw [← la] at q
      exact pImp q fun i y ⟨q, h, r⟩ d e => by rw [h] at e; cases e; exact r
end
end K4
/-! K27: the law's rest, its upright rows. -/
namespace K4
open PySem PySem.Spec PyProof.Rows L2 StX LamX
open M4 (Bd SB BQ qe qv dotN dotQ addQ restQ upright uprightF isZ OB GB dj)
section
variable {P : Program} {w : World} {K : PySem.W.Frag} {mg : Str → Option Value} {base : Heap}
def spIszero : L2.Sp := fun vs H Q _ => ∃ (x : V) (l : List Rat), vs = [x] ∧ isL isQ H x l ∧ l.length ≤ 100 ∧ ∀ H', Same H H' → Q (.bl (isZ l)) H'
theorem zero_q : qd 0 = .tuple [.int 0, .int 1] := rfl
theorem dp_01 {H : Hp} {p : Addr} {i j : Int} (h : H p = some (.tup [.int i, .int j])) : Dp K H (.ref p) (.tuple [.int i, .int j]) := .tup (.inl (.inl h)) (.cons (.int _) (.cons (.int _) .nil))
theorem sc__law_iszero : FnScope ["_law_cells", "_law_cell"] ["_law_cells"] (defScope s__law_iszero) := ⟨rfl, rfl, rfl, by decide +kernel, rfl, by decide +kernel, by decide +kernel⟩

theorem ok__law_iszero (D : Glo K mg "_law_iszero" "_law_iszero" s__law_iszero) (T_len : mg "len" = none) : Cal P w K mg base CX0 33 "_law_iszero" spIszero := by
  refine D.cal sc__law_iszero (fun _ _ _ _ _ _ us hl => match us, hl with | [_], _ => rfl) (fun vs H Q E h => ?_) (fun f cdv A outer s H vs Q E hr h => ?_)
  · obtain ⟨x, l, rfl, _⟩ := h; rfl
  · obtain ⟨x, l, rfl, ⟨a, avs, rfl, hA, hpa⟩, h7, k⟩ := h
    have la := pLen hpa
    refine ⟨_, (pss_one (ps_ret (pe_cmpR op_eq (pe_callB (call_lenK K) (by rfl) T_len b_len (pa_cons (pe_lc (own := [("_law_cell", 1)]) (g := (gName 1)) rfl sc__law_iszero.nd (pi_listK K (pv 0)) (blkOk_by (N := ["_law_cells", "_law_cell"]) (sc := defScope s__law_iszero) (by decide +kernel)) (fun _ _ _ _ _ => (pg_name (i := 1) sc__law_iszero.nd rfl (by first | exact Or.inl rfl | exact Or.inr rfl))) (fun _ _ _ _ _ => (pts_one (pt_cmpR (op_neDK K (hu64 hr)) (pv 1) (pe_tup (pa_cons pe_int (pa_cons pe_int pa_nil))) (nomark _)))) (fun _ _ _ _ _ => (pv 1))) pa_nil)) pe_int (nomark _)))), ?_⟩
    refine ⟨_, rfl, a, rfl, ⟨_, SqL.of hA⟩, fun L hL => lcf (walk_list (xs := avs)) (fun i H v => True) (fun i => !decide (qe l i = 0)) hL (small_line (by omega)) (fun _ _ _ _ s q => q) (fun H' s => s.seq (SqL.of hA)) (fun i y H1 H2 hi s o yy Q Q' k k' => ?_) (fun H1 ys s hL' q => ?_)⟩
    · obtain ⟨rfl, hx⟩ := yy
      obtain ⟨q, hq, rq⟩ := pGet2 hpa hx
      have eq := M4.qe_get hq
      have rq1 := mono_Q _ _ _ _ (s.trans (same_cut _ _)) rq
      refine ⟨rfl, _, rfl, by show 2 ≤ sizeLine; decide, fun p hp => ?_⟩
      refine ⟨qd q, qd 0, dp_q (mono_Q _ _ _ _ (same_upd hp) rq1), dp_01 upd_same, shaped_q _, shaped_q _, _, rfl, ?_⟩
      rw [rat_eqv]
      by_cases h0 : q = 0
      · exact iteN (by simp [h0]) (k' (by simp [eq, h0]) _ (same_upd hp))
      · exact iteC (by simp [h0]) ⟨_, rfl, k (by simp [eq, h0]) _ _ (same_upd hp) trivial⟩
    · have e := pLen q
      refine ⟨L, ys, rfl, .inl (SqL.of hL'), rfl, ?_⟩
      have e2 : isZ l = decide (ys.length = 0) := by
        rw [← e, Bool.eq_iff_iff, M4.isZ_iff, decide_eq_true_iff, List.length_eq_zero_iff, List.filter_eq_nil_iff]
        constructor
        · intro h i _
          have := h i
          unfold qv at this
          simp [this]
        · intro h i
          by_cases hi : i < l.length
          · have := h i (List.mem_range.mpr (by omega))
            unfold qv
            simpa using this
          · exact M4.qe_ge (by omega)
      have k1 := k H1 s
      rw [e2] at k1
      have e3 : decide (V.int (ys.length : Int) = V.int 0) = decide (ys.length = 0) := by
        by_cases z : ys.length = 0 <;> simp [z]
      show Q (.bl (decide (V.int (ys.length : Int) = V.int 0))) H1
      rw [e3]; exact k1
/-! ### rest -/
def spRest : L2.Sp := fun vs H Q _ => ∃ (x y : V) (basis : List (List Rat)) (cells : List Rat) (n v a : Nat), vs = [x, y] ∧ isL (isL isQ) H x basis ∧ isL isQ H y cells ∧ OB n basis ∧ GB v basis ∧ n ≤ 7 ∧ cells.length = n ∧ BQ cells a ∧
  2 * (a + dj v basis.length) + 4 * (v + dj v basis.length) + 20 ≤ 134000000 ∧ ∀ p H', Same H H' → H p = none → isL isQ H' (.ref p) (restQ basis cells) → Q (.ref p) H'
theorem sb_one : SB (-1 : Rat) 0 := ⟨by decide, by decide⟩
theorem isQ_L {H : Hp} {c : Addr} {l : List Rat} {vs : List V} (h : H c = some (.lst vs)) (p : Paired (fun q v => isQ H v q) l vs) : isL isQ H (.ref c) l := ⟨c, vs, rfl, h, p⟩
theorem restQ_take {basis : List (List Rat)} {cells u : List Rat} {j : Nat} (h : basis[j]? = some u) : restQ (basis.take (j + 1)) cells = M4.step (restQ (basis.take j) cells) u := by
  rw [take_succ_get h]
  unfold restQ
  rw [List.foldl_append]; rfl
theorem sc__law_rest : FnScope ["_law_basis", "_law_cells", "_law_rest_here", "_law_row"] ["_law_basis", "_law_cells"] (defScope s__law_rest) := ⟨rfl, rfl, rfl, by decide +kernel, rfl, by decide +kernel, by decide +kernel⟩

theorem ok__law_rest (D : Glo K mg "_law_rest" "_law_rest" s__law_rest) (ok__law_dot : Cal P w K mg base CX0 39 "_law_dot" spDot) (ok__law_div : Cal P w K mg base CX0 37 "_law_div" (spBin fun a b => a / b)) (ok__law_mul : Cal P w K mg base CX0 37 "_law_mul" (spBin fun a b => a * b)) (ok__law_addcells : Cal P w K mg base CX0 39 "_law_addcells" spAddcells) (T_list : mg "list" = none) : Cal P w K mg base CX0 41 "_law_rest" spRest := by
  refine D.cal sc__law_rest (fun _ _ _ _ _ _ us hl => match us, hl with | [_, _], _ => rfl) (fun vs H Q E h => ?_) (fun f cdv A outer s H vs Q E hr h => ?_)
  · obtain ⟨x, y, basis, cells, n, v, a, rfl, _⟩ := h; rfl
  · obtain ⟨x, y, basis, cells, n, v, t, rfl, ⟨a, bvs, rfl, hA, hpa⟩, ⟨b, cvs, rfl, hB, hpb⟩, ob, gb, h7, hcl, hbq, hsz, k⟩ := h
    have la := pLen hpa
    have lb := pLen hpb
    refine ⟨_, (pss_cons (ps_set (i := 2) sc__law_rest.nd rfl (by first | exact Or.inl rfl | exact Or.inr rfl) (pe_callTy (call_listK K) (by rfl) T_list b_list (pa_cons (pv 1) pa_nil)))
      (pss_cons (ps_for PassesOwn.never rfl (pi_listK K (pv 0)) (pg_name (i := 3) sc__law_rest.nd rfl (by first | exact Or.inl rfl | exact Or.inr rfl)) (pss_one (ps_set (i := 2) sc__law_rest.nd rfl (by first | exact Or.inl rfl | exact Or.inr rfl) (pe_cal ok__law_addcells (hr.mono (by decide)) (pa_cons (pv 2) (pa_cons (pv 3) (pa_cons (pe_cal ok__law_mul (hr.mono (by decide)) (pa_cons (pe_tup (pa_cons (pe_un un_neg pe_int) (pa_cons pe_int pa_nil))) (pa_cons (pe_cal ok__law_div (hr.mono (by decide)) (pa_cons (pe_cal ok__law_dot (hr.mono (by decide)) (pa_cons (pv 2) (pa_cons (pv 3) pa_nil))) (pa_cons (pe_cal ok__law_dot (hr.mono (by decide)) (pa_cons (pv 3) (pa_cons (pv 3) pa_nil))) pa_nil))) pa_nil))) pa_nil)))))))
      (pss_one (ps_ret (pv 2))))), ?_⟩
    refine ⟨_, rfl, b, _, rfl, .inl (SqL.of hB), fun c hc => ?_⟩
    have s0 : Same H (upd H c (.lst cvs)) := same_upd hc
    refine ⟨_, rfl, a, rfl, ⟨_, SqL.of (s0 _ _ hA)⟩, for_list (K := K) (a := a) (xs := bvs) (fun i σ H' => Same H H' ∧ ∃ c o, σ = [some (.ref a), some (.ref b), some (.ref c), o] ∧ H c = none ∧ isL isQ H' (.ref c) (restQ (basis.take i) cells))
      ⟨s0, c, none, rfl, hc, c, cvs, rfl, upd_same, pImp hpb fun _ _ q => mono_Q _ _ _ _ s0 q⟩ (fun i σ H' _ ⟨s, _⟩ => SqL.of (s _ _ hA)) ?_ ?_⟩
    · rintro i x σ H' hx ⟨s, c, o, rfl, hcn, hc⟩
      obtain ⟨u, hu, ru⟩ := pGet2 hpa hx
      have hi := (List.getElem?_eq_some_iff.mp hu).1
      have hm := List.mem_of_getElem? hu
      have ul := ob.len u hm
      have ru1 := mono_L mono_Q _ _ _ _ s ru
      have rl : (restQ (basis.take i) cells).length = n := by rw [M4.restQ_len]; exact hcl
      have rb := M4.rest_bq ob gb h7 hcl hbq i (by omega)
      have ub := gb i u hu
      have dm := M4.dj_mono v (show i + 1 ≤ basis.length from hi)
      have ds : dj v (i + 1) = dj v i + 2 * (v + dj v i) + 4 := rfl
      have d1 : SB (dotQ (restQ (basis.take i) cells) u) ((t + dj v i) + (v + dj v i) + 3) := rb.dot ub (by omega)
      have d2 : SB (dotQ u u) ((v + dj v i) + (v + dj v i) + 3) := ub.dot ub (by omega)
      -- one turn
      refine ⟨_, rfl, _, rfl, ?_⟩
      refine ⟨_, rfl, by show 2 ≤ sizeLine; decide, fun p hp => ?_⟩
      have s1 : Same H' (upd H' p (.tup [V.int (-1), V.int 1])) := same_upd hp
      have hF : isF 0 (upd H' p (.tup [V.int (-1), V.int 1])) (.ref p) (-1) := ⟨p, -1, 1, rfl, upd_same, by decide, by have e1 : ((-1 : Int) : Rat) = -1 := rfl; have e2 : ((1 : Int) : Rat) = 1 := rfl; rw [e1, e2]; grind, by show (-1 : Int).natAbs ≤ 1; decide, by show (1 : Int).natAbs ≤ 1; decide⟩
      refine ⟨_, rfl, _, rfl, .ref c, x, _, u, _, _, rfl, mono_L mono_Q _ _ _ _ s1 hc, mono_L mono_Q _ _ _ _ s1 ru1, by omega, by omega, rb, ub, by omega, fun m1 H1 s2 hn1 hm1 => ?_⟩
      refine ⟨_, rfl, _, rfl, x, x, u, u, _, _, rfl, mono_L mono_Q _ _ _ _ (s1.trans s2) ru1, mono_L mono_Q _ _ _ _ (s1.trans s2) ru1, rfl, by omega, ub, ub, by omega, fun m2 H2 s3 hn2 hm2 => ?_⟩
      refine ⟨_, _, _, _, _, _, rfl, isF_of ⟨m1, rfl, s3 _ _ hm1⟩ d1, isF_of ⟨m2, rfl, hm2⟩ d2, by omega, fun m3 H3 s4 hn3 hm3 => ?_⟩
      have d3 := d1.div d2
      refine ⟨_, _, _, _, _, _, rfl, mono_F _ _ _ _ (s2.trans (s3.trans s4)) hF, isF_of ⟨m3, rfl, hm3⟩ d3, by omega, fun m4 H4 s5 hn4 hm4 => ?_⟩
      have d4 := sb_one.mul d3
      have s14 := (s2.trans (s3.trans s4)).trans s5
      refine ⟨.ref c, x, .ref m4, _, u, _, _, _, _, rfl, mono_L mono_Q _ _ _ _ (s1.trans s14) hc, mono_L mono_Q _ _ _ _ (s1.trans s14) ru1, isF_of ⟨m4, rfl, hm4⟩ d4, by omega, by omega, rb.sb, ub.sb, d4, by omega, fun m5 H5 s6 hn5 hm5 => ?_⟩
      have s05 := (s1.trans s14).trans s6
      refine ⟨s.trans s05, m5, _, rfl, none_back (s.trans (s1.trans s14)) hn5, ?_⟩
      rw [restQ_take hu]
      exact hm5
    · rintro σ H' ⟨s, c, o, rfl, hcn, hc⟩
      refine ⟨_, rfl, k c H' s hcn ?_⟩
      rw [← la, List.take_length] at hc
      exact hc
/-! ### upright -/
theorem offL_in {δ : Type} {R : RelH δ} (m : OffL R) {H : Hp} {c p : Addr} {xs : List V} {l : List δ} (hc : H c = some (.lst xs)) (n : p ≠ c) (h : isL R H (.ref p) l) : isL R (cut H c) (.ref p) l := by
  obtain ⟨a, vs, e, ha, pp⟩ := h
  cases e
  exact ⟨p, vs, rfl, by rw [cut_ne n]; exact ha, pImp pp fun _ _ r => m _ _ _ _ _ hc r⟩
def spUpright : L2.Sp := fun vs H Q _ => ∃ (x : V) (rows : List (List Rat)) (n v : Nat), vs = [x] ∧ isL (isL isQ) H x rows ∧ n ≤ 6 ∧ rows.length ≤ 200 ∧ (∀ q ∈ rows, q.length = n ∧ BQ q v) ∧ 6 * (v + dj v 6) + 20 ≤ 134000000 ∧
  ∀ p H', Same H H' → H p = none → isL (isL isQ) H' (.ref p) (upright rows) → Q (.ref p) H'
theorem upright_take {rows : List (List Rat)} {q : List Rat} {j : Nat} (h : rows[j]? = some q) : upright (rows.take (j + 1)) = if isZ (restQ (upright (rows.take j)) q) then upright (rows.take j) else upright (rows.take j) ++ [restQ (upright (rows.take j)) q] := by
  rw [take_succ_get h]
  unfold upright uprightF
  rw [List.foldl_append]; rfl
theorem upright_le {n : Nat} {rows : List (List Rat)} (h : ∀ q ∈ rows, q.length = n) : (upright rows).length ≤ n := by
  rw [(M4.upright_spec h).2.2]
  unfold M4.rank
  exact ((M4.elim_spec (n := n) fun v hv => by obtain ⟨q, hq, rfl⟩ := List.mem_map.mp hv; rw [M4.whole_len]; exact h q hq).1).count
theorem sc__law_upright : FnScope ["_law_rows", "_law_basis", "_law_cells", "_law_rest_here"] ["_law_rows"] (defScope s__law_upright) := ⟨rfl, rfl, rfl, by decide +kernel, rfl, by decide +kernel, by decide +kernel⟩

theorem ok__law_upright (D : Glo K mg "_law_upright" "_law_upright" s__law_upright) (ok__law_rest : Cal P w K mg base CX0 41 "_law_rest" spRest) (ok__law_iszero : Cal P w K mg base CX0 33 "_law_iszero" spIszero) : Cal P w K mg base CX0 43 "_law_upright" spUpright := by
  refine D.cal sc__law_upright (fun _ _ _ _ _ _ us hl => match us, hl with | [_], _ => rfl) (fun vs H Q E h => ?_) (fun f cdv A outer s H vs Q E hr h => ?_)
  · obtain ⟨x, rows, n, v, rfl, _⟩ := h; rfl
  · obtain ⟨x, rows, n, v, rfl, ⟨a, rvs, rfl, hA, hpa⟩, h6, h200, hrw, hsz, k⟩ := h
    have la := pLen hpa
    refine ⟨_, (pss_cons (ps_set (i := 1) sc__law_upright.nd rfl (by first | exact Or.inl rfl | exact Or.inr rfl) (pe_lst pa_nil))
      (pss_cons (ps_for PassesOwn.never rfl (pi_listK K (pv 0)) (pg_name (i := 2) sc__law_upright.nd rfl (by first | exact Or.inl rfl | exact Or.inr rfl)) (pss_cons (ps_set (i := 3) sc__law_upright.nd rfl (by first | exact Or.inl rfl | exact Or.inr rfl) (pe_cal ok__law_rest (hr.mono (by decide)) (pa_cons (pv 1) (pa_cons (pv 2) pa_nil))))
      (pss_one (ps_if (pt_not (pt_val (pe_cal ok__law_iszero (hr.mono (by decide)) (pa_cons (pv 3) pa_nil)))) (pss_one (ps_expr (pe_bm PySem.F.plainAttrs_list PySem.F.slot_list_append PySem.F.type_list_append mt_append (pv 1) (pa_cons (pv 3) pa_nil)))) pss_nil))))
      (pss_one (ps_ret (pv 1))))), ?_⟩
    refine ⟨Nat.zero_le _, fun c hc => ?_⟩
    have s0 : Same H (upd H c (.lst [])) := same_upd hc
    refine ⟨_, rfl, a, rfl, ⟨_, SqL.of (s0 _ _ hA)⟩, for_list (K := K) (a := a) (xs := rvs) (fun i σ H' => Same H (cut H' c) ∧ ∃ o o2 bvs, σ = [some (.ref a), some (.ref c), o, o2] ∧ H' c = some (.lst bvs) ∧ Paired (fun q v => isL isQ (cut H' c) v q) (upright (rows.take i)) bvs)
      ⟨by rw [cut_upd]; exact same_cut_none hc, none, none, [], rfl, upd_same, .nil⟩ (fun i σ H' _ ⟨s, _⟩ => SqL.of ((s.trans (same_cut _ _)) _ _ hA)) ?_ ?_⟩
    · rintro i x σ H' hx ⟨s, o, o2, bvs, rfl, hcl, hcp⟩
      obtain ⟨q, hq, rq⟩ := pGet2 hpa hx
      have hi := (List.getElem?_eq_some_iff.mp hq).1
      have s1 := s.trans (same_cut H' c)
      have hsub : ∀ u ∈ rows.take i, u.length = n ∧ BQ u v := fun u hu => hrw u (List.mem_of_mem_take hu)
      obtain ⟨ql, qb⟩ := hrw q (List.mem_of_getElem? hq)
      obtain ⟨ob, _, _⟩ := M4.upright_spec (n := n) (rows := rows.take i) fun u hu => (hsub u hu).1
      have gb := M4.upright_gb (n := n) (v := v) (by omega) (rows := rows.take i) (fun u hu => (hsub u hu).1) (fun u hu => (hsub u hu).2)
      have le := upright_le (n := n) (rows := rows.take i) fun u hu => (hsub u hu).1
      have dm := M4.dj_mono v (show (upright (rows.take i)).length ≤ 6 by omega)
      have bl := pLen hcp
      refine ⟨_, rfl, _, rfl, .ref c, x, _, q, n, v, v, rfl, ⟨c, bvs, rfl, hcl, pImp hcp fun _ _ r => mono_L mono_Q _ _ _ _ (same_cut _ _) r⟩, mono_L mono_Q _ _ _ _ s1 rq, ob, gb, by omega, ql, qb, by omega, fun p H2 s2 hp hpl => ?_⟩
      have hcl2 := s2 _ _ hcl
      have npc : p ≠ c := new_ne hcl hp
      have hpc : isL isQ (cut H2 c) (.ref p) (restQ (upright (rows.take i)) q) := offL_in offL_Q hcl2 npc hpl
      refine ⟨_, rfl, .ref p, _, rfl, hpl, by rw [M4.restQ_len]; omega, fun H3 s3 => ?_⟩
      have s23 := s2.trans s3
      have keep : Same H (cut H3 c) := s.trans (Same.cut s23 c)
      have hcp3 : Paired (fun q v => isL isQ (cut H3 c) v q) (upright (rows.take i)) bvs := pImp hcp fun _ _ r => mono_L mono_Q _ _ _ _ (Same.cut s23 c) r
      have e := upright_take hq
      refine ⟨_, rfl, ?_⟩
      by_cases hz : isZ (restQ (upright (rows.take i)) q) = true
      · refine iteN (by simp [hz]) ⟨keep, _, _, bvs, rfl, s3 _ _ hcl2, ?_⟩
        rw [e, if_pos hz]
        exact hcp3
      · refine iteC (by simp [hz]) ?_
        refine ⟨_, rfl, .inl ⟨rfl, _, SqL.of (s3 _ _ hcl2)⟩, _, rfl, ?_⟩
        refine ⟨c, bvs, _, rfl, rfl, s3 _ _ hcl2, ?_, ?_, _, _, _, rfl, upd_same, ?_⟩
        · have := small_line (show bvs.length + 1 ≤ 1000 by omega); exact this
        · rw [cut_upd]; exact keep
        · rw [cut_upd, e, if_neg hz]
          exact pApp hcp3 (.cons (mono_L mono_Q _ _ _ _ (Same.cut s3 c) hpc) .nil)
    · rintro σ H' ⟨s, o, o2, bvs, rfl, hcl, hcp⟩
      refine ⟨_, rfl, k c H' (s.trans (same_cut _ _)) hc ⟨c, bvs, rfl, hcl, ?_⟩⟩
      rw [← la, List.take_length] at hcp
      exact pImp hcp fun _ _ r => mono_L mono_Q _ _ _ _ (same_cut _ _) r
end
end K4
/-! K28: the law's same. -/
namespace K4
open PySem PySem.Spec PyProof.Rows L2 StX LamX
open M4 (Bd SB BQ qe qv dotN dotQ addQ restQ upright uprightF isZ OB GB dj)
section
variable {P : Program} {w : World} {K : PySem.W.Frag} {mg : Str → Option Value} {base : Heap}
def Sca : V → Prop
  | .int _ => True
  | .bl _ => True
  | .str z => z.length ≤ sizeLine
  | _ => False
theorem kit_bool_bool : PySem.W.kitOne K (.type "bool") (.type "bool") = some true := kit_ty (by decide +kernel)
theorem kit_str_bool : PySem.W.kitOne K (.type "str") (.type "bool") = some false := kit_ty (by decide +kernel)
theorem kit_str_int : PySem.W.kitOne K (.type "str") (.type "int") = some false := kit_ty (by decide +kernel)
theorem kit_str_str : PySem.W.kitOne K (.type "str") (.type "str") = some true := kit_ty (by decide +kernel)
theorem kit_tuple_bool : PySem.W.kitOne K (.type "tuple") (.type "bool") = some false := kit_ty (by decide +kernel)
theorem kit_tuple_int : PySem.W.kitOne K (.type "tuple") (.type "int") = some false := kit_ty (by decide +kernel)
theorem kit_tuple_str : PySem.W.kitOne K (.type "tuple") (.type "str") = some false := kit_ty (by decide +kernel)
theorem kit_list_tuple : PySem.W.kitOne K (.type "list") (.type "tuple") = some false := kit_ty (by decide +kernel)
def spSameS : L2.Sp := fun vs H Q _ => ∃ v, vs = [v, v] ∧ Sca v ∧ Q (.bl true) H
theorem sc__law_same : FnScope ["_law_left", "_law_right", "_law_k"] ["_law_left", "_law_right"] (defScope s__law_same) := ⟨rfl, rfl, rfl, by decide +kernel, rfl, by decide +kernel, by decide +kernel⟩

theorem ok_same0 (D : Glo K mg "_law_same" "_law_same" s__law_same) (T_isinstance : mg "isinstance" = none) (T_int : mg "int" = none) (T_bool : mg "bool" = none) (T_str : mg "str" = none) : Cal P w K mg base CX0 33 "_law_same" spSameS := by
  refine D.cal sc__law_same (fun _ _ _ _ _ _ us hl => match us, hl with | [_, _], _ => rfl) (fun vs H Q E h => ?_) (fun f cdv A outer s H vs Q E hr h => ?_)
  · obtain ⟨v, rfl, _⟩ := h; rfl
  · obtain ⟨v, rfl, hv, k⟩ := h
    refine ⟨_, (pss_cons (ps_if (pt_cmpR op_isN (pv 1) pe_non (nomark _)) (pss_one (ps_ret (pe_cmpR op_isN (pv 0) pe_non (nomark _)))) pss_nil)
      (pss_cons (ps_if (pt_val (pe_callB (call_isiK' K) (by rfl) T_isinstance b_isinstance (pa_cons (pv 1) (pa_cons (pe_bltn (v := .ty "bool") (by rfl) T_bool b_bool rfl) pa_nil)))) (pss_one (ps_ret (pe_and (pe_callB (call_isiK' K) (by rfl) T_isinstance b_isinstance (pa_cons (pv 0) (pa_cons (pe_bltn (v := .ty "bool") (by rfl) T_bool b_bool rfl) pa_nil))) (pe_one (pe_cmpR op_eq (pv 0) (pv 1) (nomark _)))))) pss_nil)
      (pss_cons (ps_if (pt_val (pe_callB (call_isiK' K) (by rfl) T_isinstance b_isinstance (pa_cons (pv 1) (pa_cons (pe_bltn (v := .ty "int") (by rfl) T_int b_int rfl) pa_nil)))) (pss_one (ps_ret (pe_and (pe_callB (call_isiK' K) (by rfl) T_isinstance b_isinstance (pa_cons (pv 0) (pa_cons (pe_bltn (v := .ty "int") (by rfl) T_int b_int rfl) pa_nil))) (pe_and (pe_not (pe_callB (call_isiK' K) (by rfl) T_isinstance b_isinstance (pa_cons (pv 0) (pa_cons (pe_bltn (v := .ty "bool") (by rfl) T_bool b_bool rfl) pa_nil)))) (pe_one (pe_cmpR op_eq (pv 0) (pv 1) (nomark _))))))) pss_nil)
      (pss_cons (ps_if (pt_val (pe_callB (call_isiK' K) (by rfl) T_isinstance b_isinstance (pa_cons (pv 1) (pa_cons (pe_bltn (v := .ty "str") (by rfl) T_str b_str rfl) pa_nil)))) (pss_one (ps_ret (pe_and (pe_callB (call_isiK' K) (by rfl) T_isinstance b_isinstance (pa_cons (pv 0) (pa_cons (pe_bltn (v := .ty "str") (by rfl) T_str b_str rfl) pa_nil))) (pe_one (pe_cmpR op_eq (pv 0) (pv 1) (nomark _)))))) pss_nil)
      (pss_cons ps_never
      (pss_cons ps_never
      (pss_one (ps_ret pe_bl)))))))), ?_⟩
    cases v with
    | int z =>
      refine ⟨_, rfl, rfl, _, rfl, iteF ?_⟩
      refine ⟨_, rfl, _, _, _, _, _, rfl, .ty "bool", .base (.int z), kit_int_bool, _, rfl, iteF ?_⟩
      refine ⟨_, rfl, _, _, _, _, _, rfl, .ty "int", .base (.int z), kit_int_int, _, rfl, iteT ?_⟩
      refine ⟨_, rfl, _, _, _, _, _, rfl, .ty "int", .base (.int z), kit_int_int, _, rfl, iteT ?_⟩
      refine ⟨_, rfl, _, _, _, _, _, rfl, .ty "bool", .base (.int z), kit_int_bool, _, rfl, ?_⟩
      refine ⟨_, rfl, iteC rfl ⟨_, rfl, _, rfl, rfl, ?_⟩⟩
      rw [decide_eq_true rfl]; exact k
    | bl b =>
      refine ⟨_, rfl, rfl, _, rfl, iteF ?_⟩
      refine ⟨_, rfl, _, _, _, _, _, rfl, .ty "bool", .base (.bl b), kit_bool_bool, _, rfl, iteT ?_⟩
      refine ⟨_, rfl, _, _, _, _, _, rfl, .ty "bool", .base (.bl b), kit_bool_bool, _, rfl, iteT ?_⟩
      refine ⟨_, rfl, _, rfl, rfl, ?_⟩
      rw [decide_eq_true rfl]; exact k
    | str z =>
      refine ⟨_, rfl, rfl, _, rfl, iteF ?_⟩
      refine ⟨_, rfl, _, _, _, _, _, rfl, .ty "bool", .base (.str z), kit_str_bool, _, rfl, iteF ?_⟩
      refine ⟨_, rfl, _, _, _, _, _, rfl, .ty "int", .base (.str z), kit_str_int, _, rfl, iteF ?_⟩
      refine ⟨_, rfl, _, _, _, _, _, rfl, .ty "str", .base (.str z), kit_str_str, _, rfl, iteT ?_⟩
      refine ⟨_, rfl, _, _, _, _, _, rfl, .ty "str", .base (.str z), kit_str_str, _, rfl, iteT ?_⟩
      refine ⟨_, rfl, _, rfl, rfl, ?_⟩
      rw [decide_eq_true rfl]; exact k
    | _ => exact hv.elim
def spSame : L2.Sp := fun vs H Q _ => ∃ (a b : Addr) (xs : List V), vs = [.ref a, .ref b] ∧ H a = some (.tup xs) ∧ H b = some (.tup xs) ∧ (∀ x ∈ xs, Sca x) ∧ xs.length ≤ 100 ∧ Q (.bl true) H
theorem ok_same (D : Glo K mg "_law_same" "_law_same" s__law_same) (ok__law_same : Cal P w K mg base CX0 33 "_law_same" spSameS) (T_isinstance : mg "isinstance" = none) (T_int : mg "int" = none) (T_bool : mg "bool" = none) (T_str : mg "str" = none) (T_tuple : mg "tuple" = none) (T_list : mg "list" = none) (T_len : mg "len" = none) (T_range : mg "range" = none) : Cal P w K mg base CX0 35 "_law_same" spSame := by
  refine D.cal sc__law_same (fun _ _ _ _ _ _ us hl => match us, hl with | [_, _], _ => rfl) (fun vs H Q E h => ?_) (fun f cdv A outer s H vs Q E hr h => ?_)
  · obtain ⟨a, b, xs, rfl, _⟩ := h; rfl
  · obtain ⟨a, b, xs, rfl, ha, hb, hx, hl, k⟩ := h
    refine ⟨_, (pss_cons (ps_if (pt_cmpR op_isN (pv 1) pe_non (nomark _)) (pss_one (ps_ret (pe_cmpR op_isN (pv 0) pe_non (nomark _)))) pss_nil)
      (pss_cons (ps_if (pt_val (pe_callB (call_isiK' K) (by rfl) T_isinstance b_isinstance (pa_cons (pv 1) (pa_cons (pe_bltn (v := .ty "bool") (by rfl) T_bool b_bool rfl) pa_nil)))) (pss_one (ps_ret (pe_and (pe_callB (call_isiK' K) (by rfl) T_isinstance b_isinstance (pa_cons (pv 0) (pa_cons (pe_bltn (v := .ty "bool") (by rfl) T_bool b_bool rfl) pa_nil))) (pe_one (pe_cmpR op_eq (pv 0) (pv 1) (nomark _)))))) pss_nil)
      (pss_cons (ps_if (pt_val (pe_callB (call_isiK' K) (by rfl) T_isinstance b_isinstance (pa_cons (pv 1) (pa_cons (pe_bltn (v := .ty "int") (by rfl) T_int b_int rfl) pa_nil)))) (pss_one (ps_ret (pe_and (pe_callB (call_isiK' K) (by rfl) T_isinstance b_isinstance (pa_cons (pv 0) (pa_cons (pe_bltn (v := .ty "int") (by rfl) T_int b_int rfl) pa_nil))) (pe_and (pe_not (pe_callB (call_isiK' K) (by rfl) T_isinstance b_isinstance (pa_cons (pv 0) (pa_cons (pe_bltn (v := .ty "bool") (by rfl) T_bool b_bool rfl) pa_nil)))) (pe_one (pe_cmpR op_eq (pv 0) (pv 1) (nomark _))))))) pss_nil)
      (pss_cons (ps_if (pt_val (pe_callB (call_isiK' K) (by rfl) T_isinstance b_isinstance (pa_cons (pv 1) (pa_cons (pe_bltn (v := .ty "str") (by rfl) T_str b_str rfl) pa_nil)))) (pss_one (ps_ret (pe_and (pe_callB (call_isiK' K) (by rfl) T_isinstance b_isinstance (pa_cons (pv 0) (pa_cons (pe_bltn (v := .ty "str") (by rfl) T_str b_str rfl) pa_nil))) (pe_one (pe_cmpR op_eq (pv 0) (pv 1) (nomark _)))))) pss_nil)
      (pss_cons (ps_if (pt_val (pe_callB (call_isiK' K) (by rfl) T_isinstance b_isinstance (pa_cons (pv 1) (pa_cons (pe_bltn (v := .ty "tuple") (by rfl) T_tuple b_tuple rfl) pa_nil)))) (pss_one (ps_if (PW.pt (pw_or (pt_not (pt_val (pe_callB (call_isiK' K) (by rfl) T_isinstance b_isinstance (pa_cons (pv 0) (pa_cons (pe_bltn (v := .ty "tuple") (by rfl) T_tuple b_tuple rfl) pa_nil))))) (pw_or1 (pt_cmpR op_ne (pe_callB (call_lenK K) (by rfl) T_len b_len (pa_cons (pv 0) pa_nil)) (pe_callB (call_lenK K) (by rfl) T_len b_len (pa_cons (pv 1) pa_nil)) (nomark _))))) (pss_one (ps_ret pe_bl)) pss_nil)) (pss_one (ps_if (PW.pt (pw_or (pt_not (pt_val (pe_callB (call_isiK' K) (by rfl) T_isinstance b_isinstance (pa_cons (pv 1) (pa_cons (pe_bltn (v := .ty "list") (by rfl) T_list b_list rfl) pa_nil))))) (pw_or (pt_not (pt_val (pe_callB (call_isiK' K) (by rfl) T_isinstance b_isinstance (pa_cons (pv 0) (pa_cons (pe_bltn (v := .ty "list") (by rfl) T_list b_list rfl) pa_nil))))) (pw_or1 (pt_cmpR op_ne (pe_callB (call_lenK K) (by rfl) T_len b_len (pa_cons (pv 0) pa_nil)) (pe_callB (call_lenK K) (by rfl) T_len b_len (pa_cons (pv 1) pa_nil)) (nomark _)))))) (pss_one (ps_ret pe_bl)) pss_nil)))
      (pss_cons (ps_for PassesOwn.never rfl (pi_range1 (by rfl) T_range (pa_cons (pe_callB (call_lenK K) (by rfl) T_len b_len (pa_cons (pv 1) pa_nil)) pa_nil)) (pg_name (i := 2) sc__law_same.nd rfl (by first | exact Or.inl rfl | exact Or.inr rfl)) (pss_one (ps_if (pt_not (pt_val (pe_cal ok__law_same (hr.mono (by decide)) (pa_cons (pe_ix (ix_n K) (pv 0) (pv 2) (fun _ _ => rfl)) (pa_cons (pe_ix (ix_n K) (pv 1) (pv 2) (fun _ _ => rfl)) pa_nil))))) (pss_one (ps_ret pe_bl)) pss_nil)))
      (pss_one (ps_ret pe_bl)))))))), ?_⟩
    have hA : SqT K H a xs := .inl (.inl ha)
    have hB : SqT K H b xs := .inl (.inl hb)
    refine ⟨_, rfl, rfl, _, rfl, iteF ?_⟩
    refine ⟨_, rfl, _, _, _, _, _, rfl, .ty "bool", .base (.tup hb), kit_tuple_bool, _, rfl, iteF ?_⟩
    refine ⟨_, rfl, _, _, _, _, _, rfl, .ty "int", .base (.tup hb), kit_tuple_int, _, rfl, iteF ?_⟩
    refine ⟨_, rfl, _, _, _, _, _, rfl, .ty "str", .base (.tup hb), kit_tuple_str, _, rfl, iteF ?_⟩
    refine ⟨_, rfl, _, _, _, _, _, rfl, .ty "tuple", .base (.tup hb), kit_tuple_tuple, _, rfl, iteT ?_⟩
    refine ⟨_, rfl, _, _, _, _, _, rfl, .ty "tuple", .base (.tup ha), kit_tuple_tuple, _, rfl, iteF ?_⟩
    refine ⟨_, rfl, a, _, rfl, .inr hA, _, rfl, b, _, rfl, .inr hB, rfl, _, rfl, ?_⟩
    refine iteN (by simp) ?_
    refine ⟨_, rfl, b, _, rfl, .inr hB, _, rfl, by omega, by omega, for_it (walk_range (lo := 0)) (fun i σ H' => H' = H ∧ ∃ o, σ = [some (.ref a), some (.ref b), o]) ⟨rfl, none, rfl⟩ (fun _ _ _ _ _ => trivial) ?_ ?_⟩
    · rintro i x σ H' H2 hi ⟨rfl, o, rfl⟩ y
      obtain ⟨rfl, rfl⟩ := y
      have hi2 : i < xs.length := by omega
      have g := List.getElem?_eq_getElem hi2
      refine ⟨_, rfl, _, rfl, a, xs, _, _, rfl, rfl, .inr hA, at0 g, _, rfl, _, rfl, b, xs, _, _, rfl, rfl, .inr hB, at0 g, ?_⟩
      refine ⟨_, rfl, hx _ (List.getElem_mem hi2), _, rfl, ?_⟩
      exact iteF ⟨rfl, _, rfl⟩
    · rintro σ H' ⟨rfl, o, rfl⟩
      exact k
end
end K4
/-! K29: the law's looks at ratios, at a table's cells. -/
namespace K4
open PySem PySem.Spec PyProof.Rows L2 StX LamX
open M4 (Bd SB BQ qe qv dotN dotQ addQ restQ upright uprightF isZ OB GB dj)
section
variable {P : Program} {w : World} {K : PySem.W.Frag} {mg : Str → Option Value} {base : Heap} {C_Table : Addr}
theorem sc__law_iswhole : FnScope ["_law_value"] ["_law_value"] (defScope s__law_iswhole) := ⟨rfl, rfl, rfl, by decide +kernel, rfl, by decide +kernel, by decide +kernel⟩

theorem ok__law_iswhole (D : Glo K mg "_law_iswhole" "_law_iswhole" s__law_iswhole) (T_isinstance : mg "isinstance" = none) (T_int : mg "int" = none) (T_bool : mg "bool" = none) : Cal P w K mg base CX0 33 "_law_iswhole" spWhole := by
  refine D.cal sc__law_iswhole (fun _ _ _ _ _ _ us hl => match us, hl with | [_], _ => rfl) (fun vs H Q E h => ?_) (fun f cdv A outer s H vs Q E hr h => ?_)
  · obtain ⟨z, rfl, _⟩ := h; rfl
  · obtain ⟨z, rfl, k⟩ := h
    refine ⟨_, (pss_one (ps_ret (pe_and (pe_callB (call_isiK' K) (by rfl) T_isinstance b_isinstance (pa_cons (pv 0) (pa_cons (pe_bltn (v := .ty "int") (by rfl) T_int b_int rfl) pa_nil))) (pe_one (pe_not (pe_callB (call_isiK' K) (by rfl) T_isinstance b_isinstance (pa_cons (pv 0) (pa_cons (pe_bltn (v := .ty "bool") (by rfl) T_bool b_bool rfl) pa_nil)))))))), ?_⟩
    refine ⟨_, rfl, _, _, _, _, _, rfl, .ty "int", .base (.int z), kit_int_int, _, rfl, iteT ?_⟩
    refine ⟨_, rfl, _, _, _, _, _, rfl, .ty "bool", .base (.int z), kit_int_bool, _, rfl, ?_⟩
    exact k
def spIsQ : L2.Sp := fun vs H Q _ => ∃ (v : V) (q : Rat), vs = [v] ∧ isQ H v q ∧ Q (.bl true) H
theorem sc__law_isnumber : FnScope ["_law_value"] ["_law_value"] (defScope s__law_isnumber) := ⟨rfl, rfl, rfl, by decide +kernel, rfl, by decide +kernel, by decide +kernel⟩

theorem ok__law_isnumber (D : Glo K mg "_law_isnumber" "_law_isnumber" s__law_isnumber) (ok__law_iswhole : Cal P w K mg base CX0 33 "_law_iswhole" spWhole) (T_isinstance : mg "isinstance" = none) (T_tuple : mg "tuple" = none) (T_len : mg "len" = none) : Cal P w K mg base CX0 35 "_law_isnumber" spIsQ := by
  refine D.cal sc__law_isnumber (fun _ _ _ _ _ _ us hl => match us, hl with | [_], _ => rfl) (fun vs H Q E h => ?_) (fun f cdv A outer s H vs Q E hr h => ?_)
  · obtain ⟨v, q, rfl, _⟩ := h; rfl
  · obtain ⟨v, q, rfl, ⟨a, rfl, ha⟩, k⟩ := h
    refine ⟨_, (pss_cons (ps_if (pt_val (pe_callB (call_isiK' K) (by rfl) T_isinstance b_isinstance (pa_cons (pv 0) (pa_cons (pe_bltn (v := .ty "tuple") (by rfl) T_tuple b_tuple rfl) pa_nil)))) (pss_one (ps_ret (pe_and (pe_cmpR op_eq (pe_callB (call_lenK K) (by rfl) T_len b_len (pa_cons (pv 0) pa_nil)) pe_int (nomark _)) (pe_and (pe_cal ok__law_iswhole (hr.mono (by decide)) (pa_cons (pe_ix (ix_n K) (pv 0) pe_int (fun _ _ => rfl)) pa_nil)) (pe_and (pe_cal ok__law_iswhole (hr.mono (by decide)) (pa_cons (pe_ix (ix_n K) (pv 0) pe_int (fun _ _ => rfl)) pa_nil)) (pe_one (pe_cmpR op_ne (pe_ix (ix_n K) (pv 0) pe_int (fun _ _ => rfl)) pe_int (nomark _)))))))) pss_nil)
      (pss_one (ps_ret (pe_cal ok__law_iswhole (hr.mono (by decide)) (pa_cons (pv 0) pa_nil))))), ?_⟩
    have hT : SqT K H a [.int q.num, .int q.den] := .inl (.inl ha)
    refine ⟨_, rfl, _, _, _, _, _, rfl, .ty "tuple", .base (.tup ha), kit_tuple_tuple, _, rfl, iteT ?_⟩
    refine ⟨_, rfl, a, _, rfl, .inr hT, rfl, _, rfl, iteT ?_⟩
    refine ⟨_, rfl, a, _, 0, _, rfl, rfl, .inr hT, rfl, _, rfl, _, rfl, iteT ?_⟩
    refine ⟨_, rfl, a, _, 1, _, rfl, rfl, .inr hT, rfl, _, rfl, _, rfl, iteT ?_⟩
    refine ⟨_, rfl, a, _, 1, _, rfl, rfl, .inr hT, rfl, rfl, ?_⟩
    have hd := q.den_nz
    have e : (!decide (V.int (q.den : Int) = V.int 0)) = true := by simp [hd]
    show Q (V.bl (!decide (V.int (q.den : Int) = V.int 0))) H
    rw [e]; exact k
theorem sc__law_isratio : FnScope ["_law_value"] ["_law_value"] (defScope s__law_isratio) := ⟨rfl, rfl, rfl, by decide +kernel, rfl, by decide +kernel, by decide +kernel⟩

theorem ok__law_isratio (D : Glo K mg "_law_isratio" "_law_isratio" s__law_isratio) (ok__law_isnumber : Cal P w K mg base CX0 35 "_law_isnumber" spIsQ) (ok__law_gcd : Cal P w K mg base CX0 33 "_law_gcd" spGcdL) (T_isinstance : mg "isinstance" = none) (T_tuple : mg "tuple" = none) : Cal P w K mg base CX0 37 "_law_isratio" spIsQ := by
  refine D.cal sc__law_isratio (fun _ _ _ _ _ _ us hl => match us, hl with | [_], _ => rfl) (fun vs H Q E h => ?_) (fun f cdv A outer s H vs Q E hr h => ?_)
  · obtain ⟨v, q, rfl, _⟩ := h; rfl
  · obtain ⟨v, q, rfl, hq, k⟩ := h
    obtain ⟨a, rfl, ha⟩ := id hq
    refine ⟨_, (pss_one (ps_ret (pe_and (pe_cal ok__law_isnumber (hr.mono (by decide)) (pa_cons (pv 0) pa_nil)) (pe_and (pe_callB (call_isiK' K) (by rfl) T_isinstance b_isinstance (pa_cons (pv 0) (pa_cons (pe_bltn (v := .ty "tuple") (by rfl) T_tuple b_tuple rfl) pa_nil))) (pe_and (pe_cmpR op_gt (pe_ix (ix_n K) (pv 0) pe_int (fun _ _ => rfl)) pe_int (nomark _)) (pe_one (pe_cmpR op_eq (pe_cal ok__law_gcd (hr.mono (by decide)) (pa_cons (pe_ix (ix_n K) (pv 0) pe_int (fun _ _ => rfl)) (pa_cons (pe_ix (ix_n K) (pv 0) pe_int (fun _ _ => rfl)) pa_nil))) pe_int (nomark _)))))))), ?_⟩
    have hT : SqT K H a [.int q.num, .int q.den] := .inl (.inl ha)
    refine ⟨_, rfl, _, q, rfl, hq, _, rfl, iteT ?_⟩
    refine ⟨_, rfl, _, _, _, _, _, rfl, .ty "tuple", .base (.tup ha), kit_tuple_tuple, _, rfl, iteT ?_⟩
    have hd := q.den_nz
    refine ⟨_, rfl, a, _, 1, _, rfl, rfl, .inr hT, rfl, _, _, rfl, rfl, _, rfl, iteC (by simp; omega) ?_⟩
    refine ⟨_, rfl, a, _, 0, _, rfl, rfl, .inr hT, rfl, _, rfl, a, _, 1, _, rfl, rfl, .inr hT, rfl, _, _, rfl, rfl, ?_⟩
    have e : max 1 (Int.gcd q.num (q.den : Int)) = 1 := by
      have := q.reduced
      rw [Int.gcd, Int.natAbs_natCast, this]; rfl
    rw [e]; exact k
def spAreQ : L2.Sp := fun vs H Q _ => ∃ (x : V) (l : List Rat), vs = [x, .int l.length] ∧ isL isQ H x l ∧ l.length ≤ 100 ∧ Q (.bl true) H
theorem sc__law_areratios : FnScope ["_law_value", "_law_many", "_law_entry"] ["_law_value", "_law_many"] (defScope s__law_areratios) := ⟨rfl, rfl, rfl, by decide +kernel, rfl, by decide +kernel, by decide +kernel⟩

theorem ok__law_areratios (D : Glo K mg "_law_areratios" "_law_areratios" s__law_areratios) (ok__law_isratio : Cal P w K mg base CX0 37 "_law_isratio" spIsQ) (T_isinstance : mg "isinstance" = none) (T_list : mg "list" = none) (T_len : mg "len" = none) : Cal P w K mg base CX0 39 "_law_areratios" spAreQ := by
  refine D.cal sc__law_areratios (fun _ _ _ _ _ _ us hl => match us, hl with | [_, _], _ => rfl) (fun vs H Q E h => ?_) (fun f cdv A outer s H vs Q E hr h => ?_)
  · obtain ⟨x, l, rfl, _⟩ := h; rfl
  · obtain ⟨x, l, rfl, ⟨a, avs, rfl, hA, hpa⟩, h7, k⟩ := h
    have la := pLen hpa
    refine ⟨_, (pss_cons (ps_if (PW.pt (pw_or (pt_not (pt_val (pe_callB (call_isiK' K) (by rfl) T_isinstance b_isinstance (pa_cons (pv 0) (pa_cons (pe_bltn (v := .ty "list") (by rfl) T_list b_list rfl) pa_nil))))) (pw_or1 (pt_cmpR op_ne (pe_callB (call_lenK K) (by rfl) T_len b_len (pa_cons (pv 0) pa_nil)) (pv 1) (nomark _))))) (pss_one (ps_ret pe_bl)) pss_nil)
      (pss_cons (ps_for PassesOwn.never rfl (pi_listK K (pv 0)) (pg_name (i := 2) sc__law_areratios.nd rfl (by first | exact Or.inl rfl | exact Or.inr rfl)) (pss_one (ps_if (pt_not (pt_val (pe_cal ok__law_isratio (hr.mono (by decide)) (pa_cons (pv 2) pa_nil)))) (pss_one (ps_ret pe_bl)) pss_nil)))
      (pss_one (ps_ret pe_bl)))), ?_⟩
    refine ⟨_, rfl, _, _, _, _, _, rfl, .ty "list", .base (.lst hA), kit_same, _, rfl, iteF ?_⟩
    refine ⟨_, rfl, a, _, rfl, .inl (SqL.of hA), _, rfl, rfl, _, rfl, iteN (by simp [la]) ?_⟩
    refine ⟨_, rfl, a, rfl, ⟨_, SqL.of hA⟩, for_list (K := K) (a := a) (xs := avs) (fun i σ H' => H' = H ∧ ∃ o, σ = [some (.ref a), some (.int l.length), o]) ⟨rfl, none, rfl⟩ (fun i σ H' _ ⟨s, _⟩ => s ▸ SqL.of hA) ?_ ?_⟩
    · rintro i x σ H' hx ⟨rfl, o, rfl⟩
      obtain ⟨q, hq, rq⟩ := pGet2 hpa hx
      refine ⟨_, rfl, _, q, rfl, rq, _, rfl, iteF ⟨rfl, _, rfl⟩⟩
    · rintro σ H' ⟨rfl, o, rfl⟩
      exact k
def spCellsof (CT : Addr) : L2.Sp := fun vs H Q _ => ∃ (v : V) (q : List Rat), vs = [v, .int q.length] ∧ isTab CT H v q ∧ q.length ≤ 16 ∧ ∀ p H', Same H H' → H p = none → isL isQ H' (.ref p) q → Q (.ref p) H'
theorem sc__law_cellsof : FnScope ["_law_table", "_law_plots", "_law_cells"] ["_law_table", "_law_plots"] (defScope s__law_cellsof) := ⟨rfl, rfl, rfl, by decide +kernel, rfl, by decide +kernel, by decide +kernel⟩

theorem ok__law_cellsof (D : Glo K mg "_law_cellsof" "_law_cellsof" s__law_cellsof) (F : InsF K C_Table) (c_Table : mg "Table" = some (.ref C_Table)) (GC : CalP P w K mg base CX0 33 C_Table "cells" (spFldOf C_Table "cell_row")) (ok__law_areratios : Cal P w K mg base CX0 39 "_law_areratios" spAreQ) (T_isinstance : mg "isinstance" = none) (T_list : mg "list" = none) (T_tuple : mg "tuple" = none) (T_len : mg "len" = none) : Cal P w K mg base CX0 41 "_law_cellsof" (spCellsof C_Table) := by
  refine D.cal sc__law_cellsof (fun _ _ _ _ _ _ us hl => match us, hl with | [_, _], _ => rfl) (fun vs H Q E h => ?_) (fun f cdv A outer s H vs Q E hr h => ?_)
  · obtain ⟨v, q, rfl, _⟩ := h; rfl
  · obtain ⟨v, q, rfl, ⟨a, dx, t, rfl, ha, ⟨t', tvs, e, ht, hpt⟩⟩, h16, k⟩ := h
    cases e
    have lt := pLen hpt
    refine ⟨_, (pss_cons (ps_if (PW.pt (pw_or (pt_not (pt_val (pe_callB (call_isiK' K) (by rfl) T_isinstance b_isinstance (pa_cons (pv 0) (pa_cons (pe_glob (v := .ref C_Table) rfl c_Table rfl) pa_nil))))) (pw_or (pt_not (pt_val (pe_callB (call_isiK' K) (by rfl) T_isinstance b_isinstance (pa_cons (pe_propR (pv 0) GC (hr.mono (by decide))) (pa_cons (pe_bltn (v := .ty "tuple") (by rfl) T_tuple b_tuple rfl) pa_nil))))) (pw_or1 (pt_cmpR op_ne (pe_callB (call_lenK K) (by rfl) T_len b_len (pa_cons (pe_propR (pv 0) GC (hr.mono (by decide))) pa_nil)) (pv 1) (nomark _)))))) (pss_one (ps_ret pe_non)) pss_nil)
      (pss_cons (ps_set (i := 2) sc__law_cellsof.nd rfl (by first | exact Or.inl rfl | exact Or.inr rfl) (pe_callTy (call_listK K) (by rfl) T_list b_list (pa_cons (pe_propR (pv 0) GC (hr.mono (by decide))) pa_nil)))
      (pss_cons (ps_if (pt_not (pt_val (pe_cal ok__law_areratios (hr.mono (by decide)) (pa_cons (pv 2) (pa_cons (pv 1) pa_nil))))) (pss_one (ps_ret pe_non)) pss_nil)
      (pss_one (ps_ret (pv 2)))))), ?_⟩
    refine ⟨_, rfl, _, _, _, _, _, rfl, .own C_Table, .base (F.ty ha), kit_same, _, rfl, iteF ?_⟩
    have rd : ∀ (H' : Hp), Same H H' → ∀ {Q : VK}, Q (.ref t') H' → ∃ (a' dx' : Addr) (fs : List (Str × V)), V.ref a = .ref a' ∧ H' a' = some (.ins C_Table dx' fs) ∧ spFldOf C_Table "cell_row" [.ref a'] H' Q fun _ _ _ => False := fun H' s Q q => ⟨a, dx, _, rfl, s _ _ ha, a, dx, _, _, rfl, s _ _ ha, rfl, q⟩
    have hT : SqT K H t' tvs := .inl (.inl ht)
    refine ⟨_, rfl, rd H (Same.refl _) ⟨_, _, _, _, _, rfl, .ty "tuple", .base (.tup ht), kit_tuple_tuple, _, rfl, iteF ?_⟩⟩
    refine ⟨_, rfl, rd H (Same.refl _) ⟨t', _, rfl, .inr hT, _, rfl, rfl, _, rfl, iteN (by simp [lt]) ?_⟩⟩
    refine ⟨_, rfl, rd H (Same.refl _) ⟨t', _, rfl, .inr hT, fun L hL => ?_⟩⟩
    have s1 : Same H (upd H L (.lst tvs)) := same_upd hL
    have hLq : isL isQ (upd H L (.lst tvs)) (.ref L) q := ⟨L, tvs, rfl, upd_same, pImp hpt fun _ _ r => mono_Q _ _ _ _ s1 r⟩
    refine ⟨_, rfl, _, rfl, .ref L, q, rfl, hLq, by omega, _, rfl, iteF ?_⟩
    exact ⟨_, rfl, k L _ s1 hL hLq⟩
end
end K4
/-! K30: the law's isreduced. -/
namespace K4
open PySem PySem.Spec PyProof.Rows L2 StX LamX
open M4 (Bd SB BQ qe qv dotN dotQ addQ restQ upright uprightF isZ OB GB dj)
/-- rows of a reduced system with their places -/
structure RRF (n : Nat) (rows : List (List Rat)) (ps : List Nat) : Prop where
  ln : ps.length = rows.length
  len : ∀ q ∈ rows, q.length = n
  row : ∀ (i p : Nat) (q : List Rat), ps[i]? = some p → rows[i]? = some q → p < n ∧ qe q p = 1 ∧ (∀ j, j < p → qe q j = 0) ∧ ∀ (k : Nat) (u : List Rat), rows[k]? = some u → k ≠ i → qe u p = 0
  inc : ∀ (i p p' : Nat), ps[i]? = some p → ps[i + 1]? = some p' → p < p'
theorem filter_first {n p : Nat} {f : Nat → Bool} (hp : p < n) (h0 : ∀ j, j < p → f j = false) (h1 : f p = true) : ∃ l, (List.range n).filter f = p :: l := by
  obtain ⟨m, rfl⟩ : ∃ m, n = (p + 1) + m := ⟨n - (p + 1), by omega⟩
  rw [List.range_add, List.filter_append, List.range_succ, List.filter_append]
  have e1 : (List.range p).filter f = [] := by
    rw [List.filter_eq_nil_iff]
    intro j hj
    rw [h0 j (List.mem_range.mp hj)]; simp
  have e2 : [p].filter f = [p] := by simp [h1]
  rw [e1, e2]
  exact ⟨_, rfl⟩
theorem count_range_eq_one' {p : Nat} : ∀ n : Nat, List.count p (List.range n) = if p < n then 1 else 0
  | 0 => rfl
  | n + 1 => by
    rw [List.range_succ, List.count_append, count_range_eq_one' n, List.count_singleton]
    have hb : (n == p) = decide (n = p) := rfl
    rw [hb]
    by_cases h2 : n = p
    · subst h2; simp
    · by_cases h1 : p < n
      · simp [h1, h2, show p < n + 1 by omega]
      · simp [h1, h2, show ¬ p < n + 1 by omega]
theorem filter_one {n p : Nat} {f : Nat → Bool} (hp : p < n) (h0 : ∀ j, j < n → j ≠ p → f j = false) (h1 : f p = true) : ((List.range n).filter f).length = 1 := by
  have e : (List.range n).filter f = (List.range n).filter fun j => j == p := by
    refine List.filter_congr fun j hj => ?_
    by_cases z : j = p
    · rw [z, h1]; simp
    · rw [h0 j (List.mem_range.mp hj) z]; simp [z]
  rw [e, ← List.countP_eq_length_filter]
  show List.count p (List.range n) = 1
  rw [count_range_eq_one' n, if_pos hp]
section
variable {P : Program} {w : World} {K : PySem.W.Frag} {mg : Str → Option Value} {base : Heap} {C_Table : Addr}
def lastOf (ps : List Nat) : Nat → Int
  | 0 => -1
  | i + 1 => ((ps.getD i 0 : Nat) : Int)
def spIsreduced : L2.Sp := fun vs H Q _ => ∃ (x : V) (rows : List (List Rat)) (ps : List Nat) (n : Nat), vs = [x] ∧ isL (isL isQ) H x rows ∧ RRF n rows ps ∧ n ≤ 16 ∧ rows.length ≤ 100 ∧ ∀ H', Same H H' → Q (.bl true) H'
theorem sc__law_isreduced : FnScope ["_law_rows", "_law_last", "_law_row", "_law_places", "_law_k", "_law_other"] ["_law_rows"] (defScope s__law_isreduced) := ⟨rfl, rfl, rfl, by decide +kernel, rfl, by decide +kernel, by decide +kernel⟩

theorem ok__law_isreduced (D : Glo K mg "_law_isreduced" "_law_isreduced" s__law_isreduced) (T_len : mg "len" = none) (T_range : mg "range" = none) : Cal P w K mg base CX0 33 "_law_isreduced" spIsreduced := by
  refine D.cal sc__law_isreduced (fun _ _ _ _ _ _ us hl => match us, hl with | [_], _ => rfl) (fun vs H Q E h => ?_) (fun f cdv A outer s H vs Q E hr h => ?_)
  · obtain ⟨x, rows, ps, n, rfl, _⟩ := h; rfl
  · obtain ⟨x, rows, ps, n, rfl, ⟨a, avs, rfl, hA, hpa⟩, R, hn, h100, k⟩ := h
    have la := pLen hpa
    refine ⟨_, (pss_cons (ps_set (i := 1) sc__law_isreduced.nd rfl (by first | exact Or.inl rfl | exact Or.inr rfl) (pe_un un_neg pe_int))
      (pss_cons (ps_for PassesOwn.never rfl (pi_listK K (pv 0)) (pg_name (i := 2) sc__law_isreduced.nd rfl (by first | exact Or.inl rfl | exact Or.inr rfl)) (pss_cons (ps_setLc (i := 3) (own := [("_law_k", 4)]) (g := (gName 4)) rfl sc__law_isreduced.nd rfl rfl (sw_true rfl rfl rfl (by decide +kernel)) (pi_range1 (by rfl) T_range (pa_cons (pe_callB (call_lenK K) (by rfl) T_len b_len (pa_cons (pv 2) pa_nil)) pa_nil)) (blkOk_by (N := ["_law_rows", "_law_last", "_law_row", "_law_places", "_law_k", "_law_other"]) (sc := defScope s__law_isreduced) (by decide +kernel)) (fun _ _ _ _ _ => (pg_name (i := 4) sc__law_isreduced.nd rfl (by first | exact Or.inl rfl | exact Or.inr rfl))) (fun _ _ _ _ _ => (pts_one (pt_cmpR (op_neDK K (hu64 hr)) (pe_ix (ix_n K) (pv 2) (pv 4) (fun _ _ => rfl)) (pe_tup (pa_cons pe_int (pa_cons pe_int pa_nil))) (nomark _)))) (fun _ _ _ _ _ => (pv 4)))
      (pss_cons (ps_if (PW.pt (pw_or (pt_cmpR op_eq (pe_callB (call_lenK K) (by rfl) T_len b_len (pa_cons (pv 3) pa_nil)) pe_int (nomark _)) (pw_or (pt_cmpR op_le (pe_ix (ix_n K) (pv 3) pe_int (fun _ _ => rfl)) (pv 1) (nomark _)) (pw_or1 (pt_cmpR (op_neDK K (hu64 hr)) (pe_ix (ix_n K) (pv 2) (pe_ix (ix_n K) (pv 3) pe_int (fun _ _ => rfl)) (fun _ _ => rfl)) (pe_tup (pa_cons pe_int (pa_cons pe_int pa_nil))) (nomark _)))))) (pss_one (ps_ret pe_bl)) pss_nil)
      (pss_cons (ps_set (i := 1) sc__law_isreduced.nd rfl (by first | exact Or.inl rfl | exact Or.inr rfl) (pe_ix (ix_n K) (pv 3) pe_int (fun _ _ => rfl)))
      (pss_one (ps_if (pt_cmpR op_ne (pe_callB (call_lenK K) (by rfl) T_len b_len (pa_cons (pe_lc (own := [("_law_other", 5)]) (g := (gName 5)) rfl sc__law_isreduced.nd (pi_listK K (pv 0)) (blkOk_by (N := ["_law_rows", "_law_last", "_law_row", "_law_places", "_law_k", "_law_other"]) (sc := defScope s__law_isreduced) (by decide +kernel)) (fun _ _ _ _ _ => (pg_name (i := 5) sc__law_isreduced.nd rfl (by first | exact Or.inl rfl | exact Or.inr rfl))) (fun _ _ _ _ _ => (pts_one (pt_cmpR (op_neDK K (hu64 hr)) (pe_ix (ix_n K) (pv 5) (pv 1) (fun _ _ => rfl)) (pe_tup (pa_cons pe_int (pa_cons pe_int pa_nil))) (nomark _)))) (fun _ _ _ _ _ => (pv 5))) pa_nil)) pe_int (nomark _)) (pss_one (ps_ret pe_bl)) pss_nil))))))
      (pss_one (ps_ret pe_bl)))), ?_⟩
    refine ⟨_, rfl, ?_⟩
    refine ⟨_, rfl, a, rfl, ⟨_, SqL.of hA⟩, for_list (K := K) (a := a) (xs := avs) (fun i σ H' => Same H H' ∧ ∃ o1 o2, σ = [some (.ref a), some (.int (lastOf ps i)), o1, o2, none, none]) ⟨Same.refl _, none, none, rfl⟩ (fun i σ H' _ ⟨s, _⟩ => SqL.of (s _ _ hA)) ?_ ?_⟩
    · rintro i x σ H' hx ⟨s, o1, o2, rfl⟩
      obtain ⟨q, hq, rq⟩ := pGet2 hpa hx
      have hi := (List.getElem?_eq_some_iff.mp hq).1
      obtain ⟨b, bvs, rfl, hB, hpb⟩ := mono_L mono_Q _ _ _ _ s rq
      have lb := pLen hpb
      have ql := R.len q (List.mem_of_getElem? hq)
      obtain ⟨p, hp⟩ : ∃ p, ps[i]? = some p := ⟨_, List.getElem?_eq_getElem (by have := R.ln; omega)⟩
      obtain ⟨p1, p2, p3, p4⟩ := R.row i p q hp hq
      refine ⟨_, rfl, b, _, rfl, .inl (SqL.of hB), _, rfl, by omega, by omega, fun L hL => lcf (walk_range (lo := 0)) (fun i _ v => v = V.int i) (fun j => !decide (qe q j = 0)) hL (small_line (by omega)) (fun _ _ _ _ _ q => q) (fun _ _ => trivial) (fun j y H1 H2 hj s1 o yy Q Q' k k' => ?_) (fun H1 ys s1 hL' q1 => ?_)⟩
      · obtain ⟨rfl, rfl⟩ := yy
        have s2 := s1.trans (same_cut _ _)
        have hj2 : j < q.length := by omega
        obtain ⟨u, g, ru⟩ := row_at hpb hj2
        refine ⟨rfl, _, rfl, _, rfl, b, bvs, _, u, rfl, rfl, .inl (SqL.of (s2 _ _ hB)), at0 g, by show 2 ≤ sizeLine; decide, fun p hp => ?_⟩
        refine ⟨qd (qe q j), qd 0, dp_q (mono_Q _ _ _ _ (s2.trans (same_upd hp)) ru), dp_01 upd_same, shaped_q _, shaped_q _, _, rfl, ?_⟩
        rw [rat_eqv]
        by_cases h0 : qe q j = 0
        · exact iteN (by simp [h0]) (k' (by simp [h0]) _ (same_upd hp))
        · exact iteC (by simp [h0]) ⟨_, rfl, k (by simp [h0]) _ _ (same_upd hp) (by show V.int _ = V.int _; rw [Int.zero_add])⟩
      · obtain ⟨l, hl⟩ := filter_first (n := n) (f := fun j => !decide (qe q j = 0)) p1 (fun j hj => by simp [p3 j hj]) (by simp [p2])
        have en : ((bvs.length : Int)).toNat = n := by omega
        rw [en, hl] at q1
        obtain ⟨v0, g0, e0⟩ := pGet q1 (i := 0) (x := p) rfl
        subst e0
        have yl : ys.length ≠ 0 := by
          have := (List.getElem?_eq_some_iff.mp g0).1
          omega
        have s2 := s.trans s1
        have hB1 := s1 _ _ hB
        refine ⟨_, rfl, L, ys, rfl, .inl (SqL.of hL'), rfl, _, rfl, iteN (by simp [yl]) ?_⟩
        have lt : lastOf ps i < (p : Int) := by
          cases i with
          | zero => show (-1 : Int) < p; omega
          | succ i =>
            obtain ⟨p', hp'⟩ : ∃ p', ps[i]? = some p' := ⟨_, List.getElem?_eq_getElem (by have := (List.getElem?_eq_some_iff.mp hp).1; omega)⟩
            have := R.inc i p' p hp' hp
            show ((ps.getD i 0 : Nat) : Int) < p
            rw [List.getD_eq_getElem?_getD, hp']
            show ((p' : Nat) : Int) < p
            omega
        refine ⟨_, rfl, L, ys, 0, _, rfl, rfl, .inl (SqL.of hL'), g0, _, rfl, _, _, rfl, rfl, _, rfl, iteN (by simp; omega) ?_⟩
        obtain ⟨u, g, ru⟩ := row_at hpb (by omega : p < q.length)
        refine ⟨_, rfl, _, rfl, L, ys, 0, _, rfl, rfl, .inl (SqL.of hL'), g0, b, bvs, _, u, rfl, rfl, .inl (SqL.of hB1), g, by show 2 ≤ sizeLine; decide, fun p' hp' => ?_⟩
        have s3 : Same H1 (upd H1 p' (.tup [V.int 1, V.int 1])) := same_upd hp'
        refine ⟨qd (qe q p), qd 1, dp_q (mono_Q _ _ _ _ (s1.trans s3) ru), dp_01 upd_same, shaped_q _, shaped_q _, _, rfl, ?_⟩
        rw [rat_eqv]
        refine iteN (by simp [p2]) ?_
        have hL3 := s3 _ _ hL'
        refine ⟨_, rfl, L, ys, 0, _, rfl, rfl, .inl (SqL.of hL3), g0, ?_⟩
        have s23 := s2.trans s3
        refine ⟨_, rfl, a, rfl, ⟨_, SqL.of (s23 _ _ hA)⟩, fun M hM => lcf (walk_list (xs := avs)) (fun i H v => True) (fun j => !decide (qe (rows.getD j []) p = 0)) hM (small_line (by omega)) (fun _ _ _ _ s q => q) (fun H' s => s.seq (SqL.of (s23 _ _ hA))) (fun j y H4 H5 hj s5 o yy Q Q' k k' => ?_) (fun H4 zs s4 hM' q4 => ?_)⟩
        · obtain ⟨rfl, hx⟩ := yy
          obtain ⟨u, hu, ru⟩ := pGet2 hpa hx
          have s05 := s23.trans (s5.trans (same_cut _ _))
          obtain ⟨c, cvs, rfl, hC, hpc⟩ := mono_L mono_Q _ _ _ _ s05 ru
          have ul := R.len u (List.mem_of_getElem? hu)
          obtain ⟨t, g, rt⟩ := row_at hpc (by omega : p < u.length)
          have eu : rows.getD j [] = u := by rw [List.getD_eq_getElem?_getD, hu]; rfl
          refine ⟨rfl, _, rfl, _, rfl, c, cvs, _, t, rfl, rfl, .inl (SqL.of hC), g, by show 2 ≤ sizeLine; decide, fun p'' hp'' => ?_⟩
          refine ⟨qd (qe u p), qd 0, dp_q (mono_Q _ _ _ _ (same_upd hp'') rt), dp_01 upd_same, shaped_q _, shaped_q _, _, rfl, ?_⟩
          rw [rat_eqv]
          by_cases h0 : qe u p = 0
          · exact iteN (by simp [h0]) (k' (by simp only [eu]; simp [h0]) _ (same_upd hp''))
          · exact iteC (by simp [h0]) ⟨_, rfl, k (by simp only [eu]; simp [h0]) _ _ (same_upd hp'') trivial⟩
        · have l1 := pLen q4
          have l2 := filter_one (n := avs.length) (p := i) (f := fun j => !decide (qe (rows.getD j []) p = 0)) (by omega) (fun j hj hne => by
            have : j < rows.length := by omega
            have g := p4 j (rows.getD j []) (by rw [List.getD_eq_getElem?_getD, List.getElem?_eq_getElem this]; rfl) hne
            simp only [g]; rfl) (by
            rw [List.getD_eq_getElem?_getD, hq]
            show (!decide (qe q p = 0)) = true
            rw [p2]; rfl)
          rw [l2] at l1
          refine ⟨M, zs, rfl, .inl (SqL.of hM'), rfl, _, rfl, iteN (by simp [← l1]) ?_⟩
          refine ⟨s23.trans s4, some (.ref b), some (.ref L), ?_⟩
          have el : lastOf ps (i + 1) = (p : Int) := by
            show ((ps.getD i 0 : Nat) : Int) = p
            rw [List.getD_eq_getElem?_getD, hp]; rfl
          rw [el]
          rfl
    · rintro σ H' ⟨s, o1, o2, rfl⟩
      exact k H' s
end
end K4
/-! K31: the law's isspan. -/
namespace K4
open PySem PySem.Spec PyProof.Rows L2 StX LamX
open M4 (Bd SB BQ qe qv dotN dotQ addQ restQ upright uprightF isZ OB GB dj)
theorem filter_no {α : Type} (l : List α) : l.filter (fun _ => false) = [] := by
  rw [List.filter_eq_nil_iff]
  exact fun _ _ => by simp
structure SpanOk (n b a : Nat) (rows listed : List (List Rat)) : Prop where
  hn : n ≤ 6
  rr : ∃ ps, RRF n rows ps
  lis : ∀ q ∈ listed, q.length = n ∧ BQ q b
  l200 : listed.length ≤ 200
  rowsb : ∀ q ∈ rows, BQ q a
  sz1 : 6 * (b + dj b 6) + 20 ≤ 134000000
  sz2 : 2 * (a + dj b 6) + 4 * (b + dj b 6) + 20 ≤ 134000000
  cnt : rows.length = (upright listed).length
  zero : ∀ q ∈ rows, isZ (restQ (upright listed) q) = true
section
variable {P : Program} {w : World} {K : PySem.W.Frag} {mg : Str → Option Value} {base : Heap} {C_Table C_Span : Addr}
def spIsspan (CS CT : Addr) : L2.Sp := fun vs H Q _ => ∃ (v x : V) (n : Nat) (rows listed : List (List Rat)) (b a : Nat), vs = [v, x, .int n] ∧ isSpan CS CT H v ((n : Int), rows) ∧ isL (isL isQ) H x listed ∧ SpanOk n b a rows listed ∧ ∀ H', Same H H' → Q (.bl true) H'
theorem sc__law_isspan : FnScope ["_law_span", "_law_listed_here", "_law_plots", "_law_rows", "_law_basis", "_law_table", "_law_row"] ["_law_span", "_law_listed_here", "_law_plots"] (defScope s__law_isspan) := ⟨rfl, rfl, rfl, by decide +kernel, rfl, by decide +kernel, by decide +kernel⟩

theorem ok__law_isspan (D : Glo K mg "_law_isspan" "_law_isspan" s__law_isspan) (F : InsF K C_Span) (c_Span : mg "Span" = some (.ref C_Span)) (GSP : CalP P w K mg base CX0 33 C_Span "plots" (spFldOf C_Span "plot_count")) (GSR : CalP P w K mg base CX0 33 C_Span "rows" (spFldOf C_Span "basis")) (GSD : CalP P w K mg base CX0 33 C_Span "dimension" (spDim C_Span C_Table))
    (ok__law_cellsof : Cal P w K mg base CX0 41 "_law_cellsof" (spCellsof C_Table)) (ok__law_isreduced : Cal P w K mg base CX0 33 "_law_isreduced" spIsreduced) (ok__law_upright : Cal P w K mg base CX0 43 "_law_upright" spUpright) (ok__law_same : Cal P w K mg base CX0 35 "_law_same" spSame) (ok__law_iszero : Cal P w K mg base CX0 33 "_law_iszero" spIszero) (ok__law_rest : Cal P w K mg base CX0 41 "_law_rest" spRest)
    (T_isinstance : mg "isinstance" = none) (T_tuple : mg "tuple" = none) (T_len : mg "len" = none) : Cal P w K mg base CX0 45 "_law_isspan" (spIsspan C_Span C_Table) := by
  refine D.cal sc__law_isspan (fun _ _ _ _ _ _ us hl => match us, hl with | [_, _, _], _ => rfl) (fun vs H Q E h => ?_) (fun f cdv A outer s H vs Q E hr h => ?_)
  · obtain ⟨v, x, n, rows, listed, b, a, rfl, _⟩ := h; rfl
  · obtain ⟨v, x, n, rows, listed, bl, al, rfl, hv, hx, W, k⟩ := h
    obtain ⟨a, dx, t, ax, rfl, ha, hb⟩ := id hv
    obtain ⟨t', tvs, e, ht, hpt⟩ := hb
    cases e
    have lt : rows.length = tvs.length := pLen hpt
    obtain ⟨ps, R⟩ := W.rr
    have hn := W.hn
    have le := upright_le (n := n) (rows := listed) fun u hu => (W.lis u hu).1
    have cnt := W.cnt
    refine ⟨_, (pss_cons (ps_if (PW.pt (pw_or (pt_not (pt_val (pe_callB (call_isiK' K) (by rfl) T_isinstance b_isinstance (pa_cons (pv 0) (pa_cons (pe_glob (v := .ref C_Span) rfl c_Span rfl) pa_nil))))) (pw_or1 (pt_not (pt_val (pe_callB (call_isiK' K) (by rfl) T_isinstance b_isinstance (pa_cons (pe_propR (pv 0) GSR (hr.mono (by decide))) (pa_cons (pe_bltn (v := .ty "tuple") (by rfl) T_tuple b_tuple rfl) pa_nil)))))))) (pss_one (ps_ret pe_bl)) pss_nil)
      (pss_cons (ps_setLc (i := 3) (own := [("_law_table", 5)]) (tt := tYes) (g := (gName 5)) rfl sc__law_isspan.nd rfl rfl (sw_true rfl rfl rfl (by decide +kernel)) (pi_tupK K (pe_propR (pv 0) GSR (hr.mono (by decide)))) (blkOk_by (N := ["_law_span", "_law_listed_here", "_law_plots", "_law_rows", "_law_basis", "_law_table", "_law_row"]) (sc := defScope s__law_isspan) (by decide +kernel)) (fun _ _ _ _ _ => (pg_name (i := 5) sc__law_isspan.nd rfl (by first | exact Or.inl rfl | exact Or.inr rfl))) (fun _ _ _ _ _ => pts_nil) (fun _ _ _ _ _ => (pe_cal ok__law_cellsof (hr.mono (by decide)) (pa_cons (pv 5) (pa_cons (pv 2) pa_nil)))))
      (pss_cons (ps_if (PW.pt (pw_or (pt_cmpR op_gt (pe_callB (call_lenK K) (by rfl) T_len b_len (pa_cons (pe_lc (own := [("_law_row", 6)]) (g := (gName 6)) rfl sc__law_isspan.nd (pi_listK K (pv 3)) (blkOk_by (N := ["_law_span", "_law_listed_here", "_law_plots", "_law_rows", "_law_basis", "_law_table", "_law_row"]) (sc := defScope s__law_isspan) (by decide +kernel)) (fun _ _ _ _ _ => (pg_name (i := 6) sc__law_isspan.nd rfl (by first | exact Or.inl rfl | exact Or.inr rfl))) (fun _ _ _ _ _ => (pts_one (pt_cmpR op_isN (pv 6) pe_non (nomark _)))) (fun _ _ _ _ _ => (pv 6))) pa_nil)) pe_int (nomark _)) (pw_or1 (pt_not (pt_val (pe_cal ok__law_isreduced (hr.mono (by decide)) (pa_cons (pv 3) pa_nil))))))) (pss_one (ps_ret pe_bl)) pss_nil)
      (pss_cons (ps_set (i := 4) sc__law_isspan.nd rfl (by first | exact Or.inl rfl | exact Or.inr rfl) (pe_cal ok__law_upright (hr.mono (by decide)) (pa_cons (pv 1) pa_nil)))
      (pss_cons (ps_if (PW.pt (pw_or (pt_not (pt_val (pe_cal ok__law_same (hr.mono (by decide)) (pa_cons (pe_tup (pa_cons (pe_propR (pv 0) GSP (hr.mono (by decide))) (pa_cons (pe_propR (pv 0) GSD (hr.mono (by decide))) pa_nil))) (pa_cons (pe_tup (pa_cons (pv 2) (pa_cons (pe_callB (call_lenK K) (by rfl) T_len b_len (pa_cons (pv 4) pa_nil)) pa_nil))) pa_nil))))) (pw_or1 (pt_cmpR op_ne (pe_callB (call_lenK K) (by rfl) T_len b_len (pa_cons (pv 3) pa_nil)) (pe_callB (call_lenK K) (by rfl) T_len b_len (pa_cons (pv 4) pa_nil)) (nomark _))))) (pss_one (ps_ret pe_bl)) pss_nil)
      (pss_one (ps_ret (pe_cmpR op_eq (pe_callB (call_lenK K) (by rfl) T_len b_len (pa_cons (pe_lc (own := [("_law_row", 6)]) (g := (gName 6)) rfl sc__law_isspan.nd (pi_listK K (pv 3)) (blkOk_by (N := ["_law_span", "_law_listed_here", "_law_plots", "_law_rows", "_law_basis", "_law_table", "_law_row"]) (sc := defScope s__law_isspan) (by decide +kernel)) (fun _ _ _ _ _ => (pg_name (i := 6) sc__law_isspan.nd rfl (by first | exact Or.inl rfl | exact Or.inr rfl))) (fun _ _ _ _ _ => (pts_one (pt_not (pt_val (pe_cal ok__law_iszero (hr.mono (by decide)) (pa_cons (pe_cal ok__law_rest (hr.mono (by decide)) (pa_cons (pv 4) (pa_cons (pv 6) pa_nil))) pa_nil)))))) (fun _ _ _ _ _ => (pv 6))) pa_nil)) pe_int (nomark _))))))))), ?_⟩
    have rd : ∀ (H' : Hp), Same H H' → ∀ {f : Str} {v : V} {Q : VK}, ([("plot_count", .int (n : Int)), ("basis", .ref t'), ("axes", ax)] : List (Str × V)).lookup f = some v → Q v H' → ∃ (a' dx' : Addr) (fs : List (Str × V)), V.ref a = .ref a' ∧ H' a' = some (.ins C_Span dx' fs) ∧ spFldOf C_Span f [.ref a'] H' Q fun _ _ _ => False := fun H' s f v Q h q => ⟨a, dx, _, rfl, s _ _ ha, a, dx, _, _, rfl, s _ _ ha, h, q⟩
    have hT : SqT K H t' tvs := .inl (.inl ht)
    refine ⟨_, rfl, _, _, _, _, _, rfl, .own C_Span, .base (F.ty ha), kit_same, _, rfl, iteF ?_⟩
    refine ⟨_, rfl, rd H (Same.refl _) rfl ⟨_, _, _, _, _, rfl, .ty "tuple", .base (.tup ht), kit_tuple_tuple, _, rfl, iteF ?_⟩⟩
    refine ⟨_, rfl, rd H (Same.refl _) rfl ⟨t', rfl, ⟨_, hT⟩, fun L hL => lcm (walk_tup (xs := tvs)) (fun i H v => ∃ q, rows[i]? = some q ∧ isL isQ H v q) hL (small_line (by omega)) (fun _ _ _ _ s ⟨q, h, r⟩ => ⟨q, h, mono_L mono_Q _ _ _ _ s r⟩) (fun H' s => .inl (.inl (s _ _ ht))) (fun i y H1 H2 hi s o yy Q k => ?_) (fun H1 ys s1 hL' q => ?_)⟩⟩
    · obtain ⟨rfl, hy⟩ := yy
      obtain ⟨oD, hD⟩ := o
      obtain ⟨q, hq, rt⟩ := pGet2 hpt hy
      have ql := R.len q (List.mem_of_getElem? hq)
      refine ⟨rfl, _, rfl, _, rfl, y, q, by rw [ql], mono_Tab _ _ _ _ (s.trans (same_cut _ _)) rt, by omega, fun p H3 s3 hn3 hp => ?_⟩
      exact k _ _ s3 ⟨q, hq, offL_in offL_Q (s3 _ _ hD) (new_ne hD hn3) hp⟩
    · have hR1 : isL (isL isQ) H1 (.ref L) rows := newL (n := rows.length) hL' rfl (fun i d => rows[i]? = some d) (fun i d hd => hd) (by
        rw [← lt] at q
        exact pImp q fun i y ⟨q, h, r⟩ d e => by rw [h] at e; cases e; exact r)
      obtain ⟨L0, ys0, e0, hL0, hpy⟩ := id hR1
      cases e0
      rw [hL'] at hL0
      cases hL0
      have ly : rows.length = ys.length := pLen hpy
      refine ⟨_, rfl, L, rfl, ⟨_, SqL.of hL'⟩, fun M hM => lcf (walk_list (xs := ys)) (fun i H v => True) (fun _ => false) hM (small_line (by omega)) (fun _ _ _ _ s q => q) (fun H' s => s.seq (SqL.of hL')) (fun j y H4 H5 hj s5 o yy Q Q' k k' => ?_) (fun H2 zs s2 hM' q2 => ?_)⟩
      · obtain ⟨rfl, hy⟩ := yy
        obtain ⟨u, hu, ⟨c, cvs, rfl, _, _⟩⟩ := pGet2 hpy hy
        refine ⟨rfl, _, rfl, rfl, _, rfl, iteN rfl (k' rfl _ (Same.refl _))⟩
      have l2 := pLen q2
      rw [filter_no, List.length_nil] at l2
      refine ⟨M, zs, rfl, .inl (SqL.of hM'), _, _, rfl, rfl, _, rfl, iteN (by rw [← l2]; rfl) ?_⟩
      have s02 := s1.trans s2
      refine ⟨_, rfl, .ref L, rows, ps, n, rfl, mono_L (mono_L mono_Q) _ _ _ _ s2 hR1, R, by omega, by omega, fun H3 s3 => ⟨_, rfl, iteF ?_⟩⟩
      have s03 := s02.trans s3
      refine ⟨_, rfl, x, listed, n, bl, rfl, mono_L (mono_L mono_Q) _ _ _ _ s03 hx, W.hn, W.l200, W.lis, W.sz1, fun p H4 s4 hn4 hp4 => ?_⟩
      have s04 := s03.trans s4
      obtain ⟨p', bvs, e, hpb, hpp⟩ := id hp4
      cases e
      have lb := pLen hpp
      refine ⟨_, rfl, rd H4 s04 rfl ⟨_, rfl, a, dx, _, rfl, s04 _ _ ha, a, ((n : Int), rows), rfl, mono_Span _ _ _ _ s04 hv, by show 2 ≤ sizeLine; decide, fun t1 ht1 => ?_⟩⟩
      have s5 : Same H4 (upd H4 t1 (.tup [V.int n, V.int rows.length])) := same_upd ht1
      refine ⟨_, rfl, _, rfl, p, bvs, rfl, .inl (SqL.of (s5 _ _ hpb)), by show 2 ≤ sizeLine; decide, fun t2 ht2 => ?_⟩
      have s6 : Same _ (upd (upd H4 t1 (.tup [V.int n, V.int rows.length])) t2 (.tup [V.int n, V.int bvs.length])) := same_upd ht2
      have s46 := s5.trans s6
      have hsc : ∀ y ∈ [V.int (n : Int), V.int (rows.length : Int)], Sca y := by
        intro y hy
        simp only [List.mem_cons, List.not_mem_nil, or_false] at hy
        rcases hy with rfl | rfl <;> trivial
      refine ⟨t1, t2, [V.int n, V.int rows.length], rfl, s6 _ _ upd_same, by rw [upd_same, ← lb, ← cnt], hsc, by show 2 ≤ 100; decide, _, rfl, iteF ?_⟩
      have s16 := (s2.trans s3).trans (s4.trans s46)
      refine ⟨_, rfl, L, ys, rfl, .inl (SqL.of (s16 _ _ hL')), _, rfl, p, bvs, rfl, .inl (SqL.of (s46 _ _ hpb)), rfl, _, rfl, iteN (by simp; omega) ?_⟩
      have hR6 := mono_L (mono_L mono_Q) _ _ _ _ s16 hR1
      have hp6 := mono_L (mono_L mono_Q) _ _ _ _ s46 hp4
      have ob := (M4.upright_spec (n := n) (rows := listed) fun u hu => (W.lis u hu).1).1
      have gb := M4.upright_gb (n := n) (v := bl) (by omega) (rows := listed) (fun u hu => (W.lis u hu).1) (fun u hu => (W.lis u hu).2)
      have dm := M4.dj_mono bl (show (upright listed).length ≤ 6 by omega)
      have sz2 := W.sz2
      refine ⟨_, rfl, L, rfl, ⟨_, SqL.of (s16 _ _ hL')⟩, fun N hN => lcf (walk_list (xs := ys)) (fun i H v => True) (fun _ => false) hN (small_line (by omega)) (fun _ _ _ _ s q => q) (fun H' s => s.seq (SqL.of (s16 _ _ hL'))) (fun j y H7 H8 hj s8 o yy Q Q' k k' => ?_) (fun H7 zs2 s7 hN' q7 => ?_)⟩
      · obtain ⟨rfl, hy⟩ := yy
        obtain ⟨u, hu, ru⟩ := pGet2 hpy hy
        have hm := List.mem_of_getElem? hu
        have ul := R.len u hm
        have s8' := s8.trans (same_cut _ _)
        refine ⟨rfl, _, rfl, _, rfl, .ref p, y, _, u, n, bl, al, rfl, mono_L (mono_L mono_Q) _ _ _ _ s8' hp6, mono_L mono_Q _ _ _ _ (s16.trans s8') ru, ob, gb, by omega, ul, W.rowsb u hm, by omega, fun m H9 s9 hn9 hm9 => ?_⟩
        refine ⟨.ref m, _, rfl, hm9, by rw [M4.restQ_len]; omega, fun H10 s10 => ⟨_, rfl, ?_⟩⟩
        refine iteN (by rw [W.zero u hm]; rfl) (k' rfl _ (s9.trans s10))
      have l7 := pLen q7
      rw [filter_no, List.length_nil] at l7
      refine ⟨N, zs2, rfl, .inl (SqL.of hN'), rfl, ?_⟩
      have k7 := k H7 ((s1.trans s16).trans s7)
      rw [← l7]; exact k7
end
end K4
/-! K32: the law's store. -/
namespace K4
open PySem PySem.Spec PyProof.Rows L2 StX LamX
open M4 (Bd)
section
variable {X : Cx}
theorem op_mulO : OpR X (binaryOp .Mult) (rI IntMulOk fun i j => .int (i * j)) := opI fun _ _ _ _ _ _ _ hc q => mul_int q hc
end
theorem mulO_l {i j : Int} (h : Bd i 62) : IntMulOk i j := .of_left (Nat.le_trans (bd_bits h) (by decide))
theorem mulO_r {i j : Int} (h : Bd j 62) : IntMulOk i j := .of_right (Nat.le_trans (bd_bits h) (by decide))
theorem bd_mod {i m : Int} (h : 0 < m) (hm : m ≤ 2 ^ 62) : Bd (i % m) 62 := by
  have h1 := Int.emod_nonneg i (by omega : m ≠ 0)
  have h2 := Int.emod_lt_of_pos i h
  unfold Bd
  omega
theorem bd_k {z : Int} (h : z.natAbs ≤ 2 ^ 62) : Bd z 62 := h
section
variable {P : Program} {w : World} {K : PySem.W.Frag} {mg : Str → Option Value} {base : Heap} {C_Table C_Span : Addr}
/-- the store: a list of six -/
def Sto (c : Addr) (ns : List Int) (H : Hp) (st : Addr) : Prop := ∃ (p cnt : Nat) (cur seed turn : Int), H st = some (.lst [.ref c, .int p, .int cur, .int cnt, .int seed, .int turn]) ∧ cut H st c = some (.lst (ns.map V.int)) ∧ p ≤ ns.length ∧ (0 < cnt → 1 ≤ p) ∧ ns.length ≤ sizeLine
def spStore (K : PySem.W.Frag) : L2.Sp := fun vs H Q _ => ∃ (a : Addr) (ns : List Int), vs = [.ref a] ∧ SqL K H a (ns.map V.int) ∧ ns.length ≤ sizeLine ∧ ∀ st c H', Same H (cut H' st) → H st = none → Sto c ns H' st → Q (.ref st) H'
theorem sc__law_store : FnScope ["_law_script", "_law_cells", "_law_seed", "_law_cell"] ["_law_script"] (defScope s__law_store) := ⟨rfl, rfl, rfl, by decide +kernel, rfl, by decide +kernel, by decide +kernel⟩

theorem ok__law_store (D : Glo K mg "_law_store" "_law_store" s__law_store) (T_len : mg "len" = none) (T_int : mg "int" = none) : Cal P w K mg base CX0 33 "_law_store" (spStore K) := by
  refine D.cal sc__law_store (fun _ _ _ _ _ _ us hl => match us, hl with | [_], _ => rfl) (fun vs H Q E h => ?_) (fun f cdv A outer s H vs Q E hr h => ?_)
  · obtain ⟨a, ns, rfl, _⟩ := h; rfl
  · obtain ⟨a, ns, rfl, ha, hl, k⟩ := h
    refine ⟨_, (pss_cons (ps_setLc (i := 1) (own := [("_law_cell", 3)]) (tt := tYes) (g := (gName 3)) rfl sc__law_store.nd rfl rfl (sw_true rfl rfl rfl (by decide +kernel)) (pi_listK K (pv 0)) (blkOk_by (N := ["_law_script", "_law_cells", "_law_seed", "_law_cell"]) (sc := defScope s__law_store) (by decide +kernel)) (fun _ _ _ _ _ => (pg_name (i := 3) sc__law_store.nd rfl (by first | exact Or.inl rfl | exact Or.inr rfl))) (fun _ _ _ _ _ => pts_nil) (fun _ _ _ _ _ => (pe_callTy call_int1 (by rfl) T_int b_int (pa_cons (pv 3) pa_nil))))
      (pss_cons (ps_set (i := 2) sc__law_store.nd rfl (by first | exact Or.inl rfl | exact Or.inr rfl) (pe_op op_mulO pe_int (pe_op op_add (pe_callB (call_lenK K) (by rfl) T_len b_len (pa_cons (pv 1) pa_nil)) pe_int)))
      (pss_cons (ps_for PassesOwn.never rfl (pi_listK K (pv 1)) (pg_name (i := 3) sc__law_store.nd rfl (by first | exact Or.inl rfl | exact Or.inr rfl)) (pss_one (ps_set (i := 2) sc__law_store.nd rfl (by first | exact Or.inl rfl | exact Or.inr rfl) (pe_op op_mod (pe_callTy call_int1 (by rfl) T_int b_int (pa_cons (pe_op op_add (pe_op op_mulO (pv 2) pe_int) (pv 3)) pa_nil)) pe_int))))
      (pss_one (ps_ret (pe_lst (pa_cons (pv 1) (pa_cons pe_int (pa_cons pe_int (pa_cons pe_int (pa_cons (pv 2) (pa_cons pe_int pa_nil)))))))))))), ?_⟩
    refine ⟨_, rfl, a, rfl, ⟨_, ha⟩, fun L hL => lcm (walk_list (xs := ns.map V.int)) (fun i _ v => v = V.int (M4.ent ns i)) hL (by rw [List.length_map]; exact hl) (fun _ _ _ _ _ q => q) (fun H' s => s.seq ha) (fun i y H1 H2 hi s o yy Q k => ?_) (fun H1 ys s1 hL' q => ?_)⟩
    · obtain ⟨rfl, hx⟩ := yy
      obtain ⟨_, rfl, _⟩ := ints_get hx
      exact ⟨rfl, _, rfl, .inl ⟨_, rfl, k _ _ (Same.refl _) rfl⟩⟩
    · rw [List.length_map] at q
      have e := ints_done rfl q
      rw [e] at hL'
      refine ⟨_, rfl, L, _, rfl, .inl (SqL.of hL'), _, _, rfl, rfl, _, _, rfl, rfl, mulO_l (bd_k (by decide)), ?_⟩
      refine ⟨_, rfl, L, rfl, ⟨_, SqL.of hL'⟩, for_list (K := K) (a := L) (xs := ns.map V.int) (fun i σ H' => H' = H1 ∧ ∃ z o, σ = [some (.ref a), some (.ref L), some (.int z), o]) ⟨rfl, _, none, rfl⟩ (fun i σ H' _ ⟨s, _⟩ => s ▸ SqL.of hL') ?_ ?_⟩
      · rintro i x σ H' hx ⟨rfl, z, o, rfl⟩
        obtain ⟨_, rfl, _⟩ := ints_get hx
        refine ⟨_, rfl, _, _, rfl, rfl, mulO_r (bd_k (by decide)), _, rfl, _, _, rfl, rfl, .inl ⟨_, rfl, _, _, rfl, rfl, (by decide : (0 : Int) < 2305843009213693951), ?_⟩⟩
        exact ⟨rfl, _, _, rfl⟩
      · rintro σ H' ⟨rfl, z, o, rfl⟩
        refine ⟨_, rfl, _, rfl, by show 6 ≤ sizeLine; decide, fun st hst => ?_⟩
        have s2 : Same H' (upd H' st (.lst [.ref L, .int 0, .int 0, .int 0, .int z, .int 0])) := same_upd hst
        refine k st L _ ?_ (none_back s1 hst) ⟨0, 0, 0, z, 0, upd_same, ?_, Nat.zero_le _, fun c => absurd c (by omega), hl⟩
        · rw [cut_upd]; exact s1.trans (same_cut_none hst)
        · rw [cut_upd]; exact same_cut_none hst _ _ hL'
def spMixed : L2.Sp := fun vs H Q _ => ∃ a b : Int, vs = [.int a, .int b] ∧ ∀ z : Int, Q (.int z) H
theorem sc__law_mixed : FnScope ["_law_number", "_law_turn", "_law_mix"] ["_law_number", "_law_turn"] (defScope s__law_mixed) := ⟨rfl, rfl, rfl, by decide +kernel, rfl, by decide +kernel, by decide +kernel⟩

theorem ok__law_mixed (D : Glo K mg "_law_mixed" "_law_mixed" s__law_mixed) (T_int : mg "int" = none) : Cal P w K mg base CX0 33 "_law_mixed" spMixed := by
  refine D.cal sc__law_mixed (fun _ _ _ _ _ _ us hl => match us, hl with | [_, _], _ => rfl) (fun vs H Q E h => ?_) (fun f cdv A outer s H vs Q E hr h => ?_)
  · obtain ⟨a, b, rfl, _⟩ := h; rfl
  · obtain ⟨a, b, rfl, k⟩ := h
    refine ⟨_, (pss_cons (ps_set (i := 2) sc__law_mixed.nd rfl (by first | exact Or.inl rfl | exact Or.inr rfl) (pe_op op_mod (pe_callTy call_int1 (by rfl) T_int b_int (pa_cons (pe_op op_add (pe_op op_add (pe_op op_mulO (pv 0) pe_int) (pe_op op_mulO (pv 1) pe_int)) pe_int) pa_nil)) pe_int))
      (pss_cons (ps_set (i := 2) sc__law_mixed.nd rfl (by first | exact Or.inl rfl | exact Or.inr rfl) (pe_op op_mod (pe_callTy call_int1 (by rfl) T_int b_int (pa_cons (pe_op op_mulO (pv 2) (pv 2)) pa_nil)) pe_int))
      (pss_cons (ps_set (i := 2) sc__law_mixed.nd rfl (by first | exact Or.inl rfl | exact Or.inr rfl) (pe_op op_mod (pe_callTy call_int1 (by rfl) T_int b_int (pa_cons (pe_op op_add (pe_op op_add (pe_op op_mulO (pv 2) pe_int) (pv 1)) pe_int) pa_nil)) pe_int))
      (pss_one (ps_ret (pe_op op_mod (pe_callTy call_int1 (by rfl) T_int b_int (pa_cons (pe_op op_mulO (pv 2) (pv 2)) pa_nil)) pe_int)))))), ?_⟩
    have m1 : (0 : Int) < 2305843009213693951 := by decide
    have m2 : (0 : Int) < 1000000000000000003 := by decide
    have c2 : Bd 1865811235122147685 62 := bd_k (by decide)
    refine ⟨_, rfl, _, _, rfl, rfl, mulO_r (bd_k (by decide)), _, rfl, _, _, rfl, rfl, mulO_r (bd_k (by decide)), _, _, rfl, rfl, _, _, rfl, rfl, .inl ⟨_, rfl, _, _, rfl, rfl, m1, ?_⟩⟩
    refine ⟨_, rfl, _, rfl, _, _, rfl, rfl, mulO_l (bd_mod m1 (by decide)), .inl ⟨_, rfl, _, _, rfl, rfl, m2, ?_⟩⟩
    refine ⟨_, rfl, _, _, rfl, rfl, mulO_l (bd_mod m2 (by decide)), _, rfl, _, _, rfl, rfl, _, _, rfl, rfl, .inl ⟨_, rfl, _, _, rfl, rfl, m1, ?_⟩⟩
    refine ⟨_, rfl, _, rfl, _, _, rfl, rfl, mulO_l (bd_mod m1 (by decide)), .inl ⟨_, rfl, _, _, rfl, rfl, m2, k _⟩⟩
/-! ### take -/
theorem gn {i : Nat} {v : V} {σ : L2.St} {H : Hp} {Q : L2.St → Hp → Prop} (h : Q (List.set σ i (some v)) H) : gName i v σ H Q := h
theorem seq_by {A B : TS} {D : Ends} {σ : L2.St} {H : Hp} (M : L2.St → Hp → Prop) (h : ∀ D' : Ends, (∀ σ H, M σ H → D'.nx σ H) → A D' σ H) (k : ∀ σ H, M σ H → B D σ H) : tSeq A B D σ H := h _ k
theorem ite_any {b : Bool} {A B : Prop} (h : A) (k : B) : if b = true then A else B := by cases b <;> assumption
theorem ite_dec {p : Prop} [Decidable p] {A B : Prop} (h : p → A) (k : ¬ p → B) : if decide p = true then A else B := by
  by_cases c : p
  · rw [if_pos (decide_eq_true c)]; exact h c
  · rw [if_neg (by simpa using c)]; exact k c
theorem seq_ret {A B : TS} {D : Ends} {σ : L2.St} {H : Hp} (M : L2.St → Hp → Prop) (h : ∀ D' : Ends, (∀ v H, D.rt v H → D'.rt v H) → (∀ σ H, M σ H → D'.nx σ H) → A D' σ H) (k : ∀ σ H, M σ H → B D σ H) : tSeq A B D σ H := h _ (fun _ _ z => z) k
theorem n13 (b : Bool) : (0 : Int) ≤ 1 + 2 * (if b = true then 1 else 0) ∧ (1 : Int) + 2 * (if b = true then 1 else 0) ≤ 3 := by cases b <;> decide
def spTake : L2.Sp := fun vs H Q _ => ∃ (st : Addr) (m : Int) (c : Addr) (ns : List Int), vs = [.ref st, .int m] ∧ Sto c ns H st ∧ m ≤ 1000 ∧ ∀ (z : Int) H', 0 ≤ z → z < max 1 m → Same (cut H st) (cut H' st) → Sto c ns H' st → Q (.int z) H'
theorem sc__law_take : FnScope ["_law_store_here", "_law_many", "_law_cell", "_law_digit", "_law_number", "_law_mix", "_law_k"] ["_law_store_here", "_law_many"] (defScope s__law_take) := ⟨rfl, rfl, rfl, by decide +kernel, rfl, by decide +kernel, by decide +kernel⟩

theorem ok__law_take (D : Glo K mg "_law_take" "_law_take" s__law_take) (ok__law_mixed : Cal P w K mg base CX0 33 "_law_mixed" spMixed) (seer : Seer P K mg) (T_int : mg "int" = none) (T_len : mg "len" = none) (T_abs : mg "abs" = none) (T_range : mg "range" = none) : Cal P w K mg base CX0 35 "_law_take" spTake := by
  refine D.cal sc__law_take (fun _ _ _ _ _ _ us hl => match us, hl with | [_, _], _ => rfl) (fun vs H Q E h => ?_) (fun f cdv A outer s H vs Q E hr h => ?_)
  · obtain ⟨a, b, c, ns, rfl, _⟩ := h; rfl
  · obtain ⟨st, m, c, ns, rfl, S, hm, k⟩ := h
    refine ⟨_, (pss_cons (ps_if (pt_cmpR op_lt (pv 1) pe_int (nomark _)) (pss_one (ps_ret pe_int)) pss_nil)
      (pss_cons (ps_if (PW.pt (pw_and (pt_cmpR op_lt (pe_ix (ix_n K) (pv 0) pe_int (fun _ _ => rfl)) pe_int (nomark _)) (pw_and (pt_cmpR op_lt (pe_ix (ix_n K) (pv 0) pe_int (fun _ _ => rfl)) pe_int (nomark _)) (pw_and1 (pt_cmpR op_lt (pe_ix (ix_n K) (pv 0) pe_int (fun _ _ => rfl)) (pe_callB (call_lenK K) (by rfl) T_len b_len (pa_cons (pe_ix (ix_n K) (pv 0) pe_int (fun _ _ => rfl)) pa_nil)) (nomark _)))))) (pss_cons (ps_set (i := 2) sc__law_take.nd rfl (by first | exact Or.inl rfl | exact Or.inr rfl) (pe_callB call_abs (by rfl) T_abs b_abs (pa_cons (pe_ix (ix_n K) (pe_ix (ix_n K) (pv 0) pe_int (fun _ _ => rfl)) (pe_ix (ix_n K) (pv 0) pe_int (fun _ _ => rfl)) (fun _ _ => rfl)) pa_nil)))
      (pss_cons (ps_asg (pe_op op_add (pe_ix (ix_n K) (pv 0) pe_int (fun _ _ => rfl)) pe_int) (pg_sub (pv 0) pe_int set_list))
      (pss_one (ps_if (pt_cmpR op_lt (pv 2) (pe_op op_pow pe_int pe_int) (nomark _)) (pss_one (ps_asg pe_int (pg_sub (pv 0) pe_int set_list))) (pss_one (ps_asg (pv 2) (pg_sub (pv 0) pe_int set_list))))))) pss_nil)
      (pss_cons (ps_if (pt_cmpR op_gt (pe_ix (ix_n K) (pv 0) pe_int (fun _ _ => rfl)) pe_int (nomark _)) (pss_cons (ps_set (i := 3) sc__law_take.nd rfl (by first | exact Or.inl rfl | exact Or.inr rfl) (pe_op op_mod (pe_callTy call_int1 (by rfl) T_int b_int (pa_cons (pe_ix (ix_n K) (pv 0) pe_int (fun _ _ => rfl)) pa_nil)) (pv 1)))
      (pss_cons (ps_asg (pe_op (op_fdivA seer (hr.mono (by decide)) ⟨_, _, rfl, rfl, rfl, rfl, rfl⟩) (pe_callTy call_int1 (by rfl) T_int b_int (pa_cons (pe_ix (ix_n K) (pv 0) pe_int (fun _ _ => rfl)) pa_nil)) (pv 1)) (pg_sub (pv 0) pe_int set_list))
      (pss_one (ps_ret (pv 3))))) pss_nil)
      (pss_cons (ps_set (i := 4) sc__law_take.nd rfl (by first | exact Or.inl rfl | exact Or.inr rfl) (pe_ix (ix_n K) (pv 0) pe_int (fun _ _ => rfl)))
      (pss_cons (ps_if (pt_cmpR op_gt (pe_ix (ix_n K) (pv 0) pe_int (fun _ _ => rfl)) pe_int (nomark _)) (pss_cons (ps_asg (pe_op op_sub (pe_ix (ix_n K) (pv 0) pe_int (fun _ _ => rfl)) pe_int) (pg_sub (pv 0) pe_int set_list))
      (pss_one (ps_set (i := 4) sc__law_take.nd rfl (by first | exact Or.inl rfl | exact Or.inr rfl) (pe_op op_add (pv 4) (pe_op op_mulO pe_int (pe_ix (ix_n K) (pe_ix (ix_n K) (pv 0) pe_int (fun _ _ => rfl)) (pe_op op_sub (pe_ix (ix_n K) (pv 0) pe_int (fun _ _ => rfl)) pe_int) (fun _ _ => rfl))))))) pss_nil)
      (pss_cons (ps_asg (pe_op op_add (pe_ix (ix_n K) (pv 0) pe_int (fun _ _ => rfl)) pe_int) (pg_sub (pv 0) pe_int set_list))
      (pss_cons (ps_set (i := 5) sc__law_take.nd rfl (by first | exact Or.inl rfl | exact Or.inr rfl) pe_int)
      (pss_cons (ps_for PassesOwn.never rfl (pi_range1 (by rfl) T_range (pa_cons (pe_op op_add pe_int (pe_op op_mulO pe_int (pe_callTy call_int1 (by rfl) T_int b_int (pa_cons (pe_cmpR op_gt (pv 1) (pe_op op_pow pe_int pe_int) (nomark _)) pa_nil)))) pa_nil)) (pg_name (i := 6) sc__law_take.nd rfl (by first | exact Or.inl rfl | exact Or.inr rfl)) (pss_one (ps_set (i := 5) sc__law_take.nd rfl (by first | exact Or.inl rfl | exact Or.inr rfl) (pe_op op_add (pe_op op_mulO (pv 5) (pe_op op_pow pe_int pe_int)) (pe_cal ok__law_mixed (hr.mono (by decide)) (pa_cons (pv 4) (pa_cons (pe_op op_add (pe_op op_mulO pe_int (pe_ix (ix_n K) (pv 0) pe_int (fun _ _ => rfl))) (pv 6)) pa_nil)))))))
      (pss_one (ps_ret (pe_op op_mod (pe_callTy call_int1 (by rfl) T_int b_int (pa_cons (pv 5) pa_nil)) (pv 1)))))))))))), ?_⟩
    refine ⟨_, rfl, _, _, rfl, rfl, _, rfl, ?_⟩
    by_cases c0 : m < 2
    · exact iteC (by simpa using c0) (k 0 H (by omega) (by omega) (Same.refl _) S)
    obtain ⟨p0, cnt0, cur0, seed, turn, hst, hC, hp0, hcp0, hns⟩ := S
    have m0 : 0 < m := by omega
    have pw : CPow 10 18 := ⟨by decide, by decide, by decide⟩
    refine iteN (by simpa using c0) ?_
    unfold tNext
    dsimp only
    refine seq_by (A := tIfS _ _ _) (fun σ H' => ∃ (o : Option V) (p cnt : Nat) (cur : Int), σ = [some (.ref st), some (.int m), o, none, none, none, none] ∧ H' st = some (.lst [.ref c, .int p, .int cur, .int cnt, .int seed, .int turn]) ∧ Same (cut H st) (cut H' st) ∧ p ≤ ns.length ∧ (0 < cnt → 1 ≤ p)) (fun D' kD => ?_) ?_
    · have skip := kD [some (.ref st), some (.int m), none, none, none, none, none] H ⟨none, p0, cnt0, cur0, rfl, hst, Same.refl _, hp0, hcp0⟩
      refine ⟨_, rfl, st, _, 2, _, rfl, rfl, .inl (SqL.of hst), rfl, _, _, rfl, rfl, _, rfl, ite_dec (fun c1 => ?_) (fun _ => iteN rfl skip)⟩
      refine ⟨_, rfl, st, _, 3, _, rfl, rfl, .inl (SqL.of hst), rfl, _, _, rfl, rfl, _, rfl, ite_dec (fun c2 => ?_) (fun _ => iteN rfl skip)⟩
      have hC0 : SqL K H c (ns.map V.int) := SqL.of (same_cut H st _ _ hC)
      refine ⟨_, rfl, st, _, 1, _, rfl, rfl, .inl (SqL.of hst), rfl, _, rfl, st, _, 0, _, rfl, rfl, .inl (SqL.of hst), rfl, c, _, rfl, .inl hC0, _, _, rfl, rfl, _, rfl, ite_dec (fun c3 => ?_) (fun _ => skip)⟩
      rw [List.length_map] at c3
      have hp1 : p0 < ns.length := by omega
      refine ⟨_, rfl, st, _, 0, _, rfl, rfl, .inl (SqL.of hst), rfl, _, rfl, st, _, 1, _, rfl, rfl, .inl (SqL.of hst), rfl, c, _, p0, _, rfl, rfl, .inl hC0, ints_at hp1, _, rfl, ?_⟩
      refine ⟨_, rfl, st, _, 1, _, rfl, rfl, .inl (SqL.of hst), rfl, _, _, rfl, rfl, _, rfl, st, _, 1, 1, rfl, rfl, hst, rfl, ?_⟩
      refine ⟨_, rfl, _, _, rfl, rfl, pw, _, _, rfl, rfl, _, rfl, ite_any ?_ ?_⟩
      · refine ⟨_, rfl, st, _, 3, 3, rfl, rfl, upd_same, rfl, kD _ _ ⟨_, p0 + 1, 4, cur0, rfl, upd_same, ?_, by omega, fun _ => by omega⟩⟩
        rw [cut_upd, cut_upd]; exact Same.refl _
      · refine ⟨_, rfl, _, rfl, st, _, 2, 2, rfl, rfl, upd_same, rfl, kD _ _ ⟨_, p0 + 1, cnt0, _, rfl, upd_same, ?_, by omega, fun _ => by omega⟩⟩
        rw [cut_upd, cut_upd]; exact Same.refl _
    rintro σ H1 ⟨o, p1, cnt1, cur1, rfl, h1, s1, hp1, hcp1⟩
    have mk : ∀ (H' : Hp) (p cnt : Nat) (cur turn : Int), H' st = some (.lst [.ref c, .int p, .int cur, .int cnt, .int seed, .int turn]) → Same (cut H st) (cut H' st) → p ≤ ns.length → (0 < cnt → 1 ≤ p) → Sto c ns H' st := fun H' p cnt cur turn h s hp hc => ⟨p, cnt, cur, seed, turn, h, s _ _ hC, hp, hc, hns⟩
    refine ⟨_, rfl, st, _, 2, _, rfl, rfl, .inl (SqL.of h1), rfl, _, _, rfl, rfl, _, rfl, ite_dec (fun c1 => ?_) (fun c1 => ?_)⟩
    · refine ⟨_, rfl, st, _, 2, _, rfl, rfl, .inl (SqL.of h1), rfl, .inl ⟨_, rfl, _, rfl, _, _, rfl, rfl, m0, ?_⟩⟩
      refine ⟨_, rfl, st, _, 2, _, rfl, rfl, .inl (SqL.of h1), rfl, .inl ⟨_, rfl, _, rfl, _, _, rfl, rfl, by omega, _, rfl, st, _, 2, 2, rfl, rfl, h1, rfl, ?_⟩⟩
      refine ⟨_, rfl, k _ _ (Int.emod_nonneg _ (by omega)) (by have := Int.emod_lt_of_pos cur1 m0; omega) (by rw [cut_upd]; exact s1) (mk _ p1 cnt1 _ turn upd_same (by rw [cut_upd]; exact s1) hp1 hcp1)⟩
    refine ⟨_, rfl, st, _, 4, _, rfl, rfl, .inl (SqL.of h1), rfl, ?_⟩
    refine gn ?_
    dsimp only
    refine seq_by (A := tIfS _ _ _) (fun σ H' => ∃ (p cnt : Nat) (number : Int), σ = [some (.ref st), some (.int m), o, none, some (.int number), none, none] ∧ H' st = some (.lst [.ref c, .int p, .int cur1, .int cnt, .int seed, .int turn]) ∧ Same (cut H st) (cut H' st) ∧ p ≤ ns.length ∧ (0 < cnt → 1 ≤ p)) (fun D' kD => ?_) ?_
    · refine ⟨_, rfl, st, _, 3, _, rfl, rfl, .inl (SqL.of h1), rfl, _, _, rfl, rfl, _, rfl, ite_dec (fun c2 => ?_) (fun c2 => kD _ _ ⟨p1, cnt1, _, rfl, h1, s1, hp1, hcp1⟩)⟩
      have pos : 1 ≤ p1 := hcp1 (by omega)
      refine ⟨_, rfl, st, _, 3, _, rfl, rfl, .inl (SqL.of h1), rfl, _, _, rfl, rfl, _, rfl, st, _, 3, 3, rfl, rfl, h1, rfl, ?_⟩
      have h2 := upd_same (H := H1) (a := st) (o := .lst ([V.ref c, .int p1, .int cur1, .int cnt1, .int seed, .int turn].set 3 (.int ((cnt1 : Int) - 1))))
      have sC : SqL K (upd H1 st (.lst ([V.ref c, .int p1, .int cur1, .int cnt1, .int seed, .int turn].set 3 (.int ((cnt1 : Int) - 1))))) c (ns.map V.int) := by
        have s2 : Same (cut H st) (upd H1 st (.lst ([V.ref c, .int p1, .int cur1, .int cnt1, .int seed, .int turn].set 3 (.int ((cnt1 : Int) - 1))))) := s1.trans (by
          have := same_cut (upd H1 st (.lst ([V.ref c, .int p1, .int cur1, .int cnt1, .int seed, .int turn].set 3 (.int ((cnt1 : Int) - 1))))) st
          rw [cut_upd] at this; exact this)
        exact SqL.of (s2 _ _ hC)
      refine ⟨_, rfl, _, rfl, st, _, 0, _, rfl, rfl, .inl (SqL.of h2), rfl, _, rfl, st, _, 1, _, rfl, rfl, .inl (SqL.of h2), rfl, _, _, rfl, rfl, c, _, p1 - 1, _, rfl, congrArg V.int (by omega), .inl sC, ints_at (by omega), _, _, rfl, rfl, mulO_l (bd_k (by decide)), _, _, rfl, rfl, ?_⟩
      refine kD _ _ ⟨p1, cnt1 - 1, _, rfl, ?_, by rw [cut_upd]; exact s1, hp1, fun _ => pos⟩
      rw [h2, show ((cnt1 - 1 : Nat) : Int) = (cnt1 : Int) - 1 by omega]
      rfl
    rintro σ H2 ⟨p2, cnt2, number, rfl, h2, s2, hp2, hcp2⟩
    refine ⟨_, rfl, st, _, 5, _, rfl, rfl, .inl (SqL.of h2), rfl, _, _, rfl, rfl, _, rfl, st, _, 5, 5, rfl, rfl, h2, rfl, ?_⟩
    have h3 := upd_same (H := H2) (a := st) (o := .lst ([V.ref c, .int p2, .int cur1, .int cnt2, .int seed, .int turn].set 5 (.int (turn + 1))))
    have s3 : Same (cut H st) (cut (upd H2 st (.lst ([V.ref c, .int p2, .int cur1, .int cnt2, .int seed, .int turn].set 5 (.int (turn + 1))))) st) := by rw [cut_upd]; exact s2
    have fin := mk _ p2 cnt2 cur1 (turn + 1) h3 s3 hp2 hcp2
    generalize upd H2 st (.lst ([V.ref c, .int p2, .int cur1, .int cnt2, .int seed, .int turn].set 5 (.int (turn + 1)))) = H3 at *
    have pw12 : CPow 10 12 := ⟨by decide, by decide, by decide⟩
    obtain ⟨lo, hi⟩ := n13 (decide ((10 : Int) ^ (12 : Int).toNat < m))
    dsimp only
    refine ⟨_, rfl, _, _, rfl, rfl, pw12, _, _, rfl, rfl, .inr ⟨_, rfl, _, _, rfl, rfl, mulO_l (bd_k (by decide)), _, _, rfl, rfl, _, rfl, by omega, by omega, for_it (g := gName 6) (walk_range (lo := 0)) (fun i σ H' => H' = H3 ∧ ∃ z o2, σ = [some (.ref st), some (.int m), o, none, some (.int number), some (.int z), o2]) ⟨rfl, 0, none, rfl⟩ (fun _ _ _ _ _ => trivial) ?_ ?_⟩⟩
    · rintro i x σ H' H4 hi ⟨rfl, z, o2, rfl⟩ y
      obtain ⟨rfl, rfl⟩ := y
      refine ⟨_, rfl, _, _, rfl, rfl, pw, _, _, rfl, rfl, mulO_r (bd_k (by decide)), ?_⟩
      refine ⟨_, rfl, _, rfl, st, _, 5, _, rfl, rfl, .inl (SqL.of h3), rfl, _, _, rfl, rfl, mulO_l (bd_k (by decide)), _, rfl, _, _, rfl, rfl, _, _, rfl, fun z => ⟨_, _, rfl, rfl, rfl, _, _, rfl⟩⟩
    · rintro σ H' ⟨rfl, z, o2, rfl⟩
      exact ⟨_, rfl, .inl ⟨_, rfl, _, rfl, _, _, rfl, rfl, m0, k _ _ (Int.emod_nonneg _ (by omega)) (by have := Int.emod_lt_of_pos z m0; omega) s3 fin⟩⟩
end
end K4
/-! K33: the law's picks. -/
namespace K4
open PySem PySem.Spec PyProof.Rows L2 StX LamX
open M4 (Bd)
/-- beside the store nothing has changed -/
def Stays (st : Addr) (H H' : Hp) : Prop := Same (cut H st) (cut H' st)
theorem Stays.refl {st : Addr} (H : Hp) : Stays st H H := Same.refl _
theorem Stays.trans {st : Addr} {H H1 H2 : Hp} (h : Stays st H H1) (k : Stays st H1 H2) : Stays st H H2 := Same.trans h k
theorem Stays.off {st : Addr} {H H' : Hp} (h : Stays st H H') : Same (cut H st) H' := Same.trans h (same_cut _ _)
theorem Sto.keep {c : Addr} {ns : List Int} {H H' : Hp} {st : Addr} (S : Sto c ns H st) (s : Same H H') : Sto c ns H' st := by
  obtain ⟨p, cnt, cur, seed, turn, h, hc, r⟩ := S
  exact ⟨p, cnt, cur, seed, turn, s _ _ h, Same.cut s st _ _ hc, r⟩
theorem Stays.of {st : Addr} {H H' : Hp} (s : Same H H') : Stays st H H' := Same.cut s st
theorem Sto.some {c : Addr} {ns : List Int} {H : Hp} {st : Addr} (S : Sto c ns H st) : ∃ xs, H st = some (.lst xs) := let ⟨_, _, _, _, _, h, _⟩ := S; ⟨_, h⟩
section
variable {P : Program} {w : World} {K : PySem.W.Frag} {mg : Str → Option Value} {base : Heap} {C_Table C_Span : Addr}
def spOnce : L2.Sp := fun vs H Q _ => ∃ (st : Addr) (m : Int) (c : Addr) (ns : List Int), vs = [.ref st, .int m] ∧ Sto c ns H st ∧ m ≤ 1000 ∧ ∀ (b : Bool) H', Stays st H H' → Sto c ns H' st → Q (.bl b) H'
theorem sc__law_once : FnScope ["_law_store_here", "_law_many"] ["_law_store_here", "_law_many"] (defScope s__law_once) := ⟨rfl, rfl, rfl, by decide +kernel, rfl, by decide +kernel, by decide +kernel⟩

theorem ok__law_once (D : Glo K mg "_law_once" "_law_once" s__law_once) (ok__law_take : Cal P w K mg base CX0 35 "_law_take" spTake) : Cal P w K mg base CX0 37 "_law_once" spOnce := by
  refine D.cal sc__law_once (fun _ _ _ _ _ _ us hl => match us, hl with | [_, _], _ => rfl) (fun vs H Q E h => ?_) (fun f cdv A outer s H vs Q E hr h => ?_)
  · obtain ⟨a, b, c, ns, rfl, _⟩ := h; rfl
  · obtain ⟨st, m, c, ns, rfl, S, hm, k⟩ := h
    refine ⟨_, (pss_one (ps_ret (pe_cmpR op_eq (pe_cal ok__law_take (hr.mono (by decide)) (pa_cons (pv 0) (pa_cons (pv 1) pa_nil))) pe_int (nomark _)))), ?_⟩
    exact ⟨_, rfl, _, rfl, st, m, c, ns, rfl, S, hm, fun z H' _ _ s S' => ⟨rfl, k _ H' s S'⟩⟩
def spPick (K : PySem.W.Frag) : L2.Sp := fun vs H Q _ => ∃ (st r : Addr) (xs : List V) (c : Addr) (ns : List Int), vs = [.ref st, .ref r] ∧ Sto c ns H st ∧ (SqL K (cut H st) r xs ∨ SqT K (cut H st) r xs) ∧ 1 ≤ xs.length ∧ xs.length ≤ 1000 ∧ ∀ (i : Nat) v H', xs[i]? = some v → Stays st H H' → Sto c ns H' st → Q v H'
theorem sc__law_pick : FnScope ["_law_store_here", "_law_row"] ["_law_store_here", "_law_row"] (defScope s__law_pick) := ⟨rfl, rfl, rfl, by decide +kernel, rfl, by decide +kernel, by decide +kernel⟩

theorem ok__law_pick (D : Glo K mg "_law_pick" "_law_pick" s__law_pick) (ok__law_take : Cal P w K mg base CX0 35 "_law_take" spTake) (T_len : mg "len" = none) : Cal P w K mg base CX0 37 "_law_pick" (spPick K) := by
  refine D.cal sc__law_pick (fun _ _ _ _ _ _ us hl => match us, hl with | [_, _], _ => rfl) (fun vs H Q E h => ?_) (fun f cdv A outer s H vs Q E hr h => ?_)
  · obtain ⟨a, b, xs, c, ns, rfl, _⟩ := h; rfl
  · obtain ⟨st, r, xs, c, ns, rfl, S, hr', h1, h2, k⟩ := h
    have sq : ∀ H', Same (cut H st) H' → SqL K H' r xs ∨ SqT K H' r xs := fun H' s => hr'.imp (fun h => s.seq h) (fun h => Same.tup s h)
    refine ⟨_, (pss_one (ps_ret (pe_ix (ix_n K) (pv 1) (pe_cal ok__law_take (hr.mono (by decide)) (pa_cons (pv 0) (pa_cons (pe_callB (call_lenK K) (by rfl) T_len b_len (pa_cons (pv 1) pa_nil)) pa_nil))) (fun _ _ => rfl)))), ?_⟩
    refine ⟨_, rfl, _, rfl, _, rfl, r, xs, rfl, sq H (same_cut _ _), st, _, c, ns, rfl, S, by omega, fun z H' z0 z1 s S' => ?_⟩
    have hz : z.toNat < xs.length := by omega
    refine ⟨r, xs, z.toNat, _, rfl, congrArg V.int (by omega), sq H' (Stays.off s), List.getElem?_eq_getElem hz, k z.toNat _ H' (List.getElem?_eq_getElem hz) s S'⟩
def spLong : L2.Sp := fun vs H Q _ => ∃ (r : Addr) (xs : List V) (m : Nat), vs = [.ref r, .int m] ∧ H r = some (.lst xs) ∧ 1 ≤ xs.length ∧ m ≤ 100 ∧ ∀ p H' ys, Same H H' → H p = none → H' p = some (.lst ys) → ys.length = m → (∀ y ∈ ys, y ∈ xs) → Q (.ref p) H'
theorem sc__law_long : FnScope ["_law_row", "_law_many", "_law_k"] ["_law_row", "_law_many"] (defScope s__law_long) := ⟨rfl, rfl, rfl, by decide +kernel, rfl, by decide +kernel, by decide +kernel⟩

theorem ok__law_long (D : Glo K mg "_law_long" "_law_long" s__law_long) (T_len : mg "len" = none) (T_int : mg "int" = none) (T_range : mg "range" = none) : Cal P w K mg base CX0 33 "_law_long" spLong := by
  refine D.cal sc__law_long (fun _ _ _ _ _ _ us hl => match us, hl with | [_, _], _ => rfl) (fun vs H Q E h => ?_) (fun f cdv A outer s H vs Q E hr h => ?_)
  · obtain ⟨a, b, m, rfl, _⟩ := h; rfl
  · obtain ⟨r, xs, m, rfl, hr', h1, hm, k⟩ := h
    refine ⟨_, (pss_one (ps_ret (pe_lc (own := [("_law_k", 2)]) (tt := tYes) (g := (gName 2)) rfl sc__law_long.nd (pi_range1 (by rfl) T_range (pa_cons (pv 1) pa_nil)) (blkOk_by (N := ["_law_row", "_law_many", "_law_k"]) (sc := defScope s__law_long) (by decide +kernel)) (fun _ _ _ _ _ => (pg_name (i := 2) sc__law_long.nd rfl (by first | exact Or.inl rfl | exact Or.inr rfl))) (fun _ _ _ _ _ => pts_nil) (fun _ _ _ _ _ => (pe_ix (ix_n K) (pv 0) (pe_op op_mod (pe_callTy call_int1 (by rfl) T_int b_int (pa_cons (pv 2) pa_nil)) (pe_callB (call_lenK K) (by rfl) T_len b_len (pa_cons (pv 0) pa_nil))) (fun _ _ => rfl)))))), ?_⟩
    refine ⟨_, rfl, _, rfl, by omega, by omega, fun L hL => lcm (walk_range (lo := 0)) (fun i _ v => v ∈ xs) hL (small_line (by omega)) (fun _ _ _ _ _ q => q) (fun _ _ => trivial) (fun i y H1 H2 hi s o yy Q k => ?_) (fun H1 ys s hL' q => ?_)⟩
    · obtain ⟨rfl, rfl⟩ := yy
      have s1 := s.trans (same_cut _ _)
      have hx := s1 _ _ hr'
      have l0 : (0 : Int) < (xs.length : Int) := by omega
      have e1 := Int.emod_nonneg (0 + (i : Int)) (by omega : (xs.length : Int) ≠ 0)
      have e2 := Int.emod_lt_of_pos (0 + (i : Int)) l0
      have hz : ((0 + (i : Int)) % (xs.length : Int)).toNat < xs.length := by omega
      refine ⟨rfl, _, rfl, _, rfl, .inl ⟨_, rfl, _, rfl, r, xs, rfl, .inl (SqL.of hx), _, _, rfl, rfl, l0, r, xs, _, _, rfl, congrArg V.int (by rw [Int.toNat_of_nonneg e1]), .inl (SqL.of hx), List.getElem?_eq_getElem hz, ?_⟩⟩
      exact k _ _ (Same.refl _) (List.getElem_mem hz)
    · have e := pLen q
      rw [List.length_range] at e
      refine k L H1 ys s hL hL' (by omega) fun y hy => ?_
      obtain ⟨i, hi⟩ := List.mem_iff_getElem?.mp hy
      obtain ⟨_, _, r⟩ := pGet2 q hi
      exact r
def spOther : L2.Sp := fun vs H Q _ => ∃ (st : Addr) (n : Int) (c : Addr) (ns : List Int), vs = [.ref st, .int n] ∧ Sto c ns H st ∧ 1 ≤ n ∧ n ≤ 6 ∧ ∀ (m : Int) H', 1 ≤ m → m ≤ 16 → m ≠ n → Stays st H H' → Sto c ns H' st → Q (.int m) H'
theorem sc__law_otherplots : FnScope ["_law_store_here", "_law_plots", "_law_other"] ["_law_store_here", "_law_plots"] (defScope s__law_otherplots) := ⟨rfl, rfl, rfl, by decide +kernel, rfl, by decide +kernel, by decide +kernel⟩

theorem ok__law_otherplots (D : Glo K mg "_law_otherplots" "_law_otherplots" s__law_otherplots) (ok__law_take : Cal P w K mg base CX0 35 "_law_take" spTake) (ok__law_once : Cal P w K mg base CX0 37 "_law_once" spOnce) (T_max : mg "max" = none) : Cal P w K mg base CX0 39 "_law_otherplots" spOther := by
  refine D.cal sc__law_otherplots (fun _ _ _ _ _ _ us hl => match us, hl with | [_, _], _ => rfl) (fun vs H Q E h => ?_) (fun f cdv A outer s H vs Q E hr h => ?_)
  · obtain ⟨a, b, c, ns, rfl, _⟩ := h; rfl
  · obtain ⟨st, n, c, ns, rfl, S, n1, n6, k⟩ := h
    refine ⟨_, (pss_cons (ps_set (i := 2) sc__law_otherplots.nd rfl (by first | exact Or.inl rfl | exact Or.inr rfl) (pe_op op_add pe_int (pe_cal ok__law_take (hr.mono (by decide)) (pa_cons (pv 0) (pa_cons pe_int pa_nil)))))
      (pss_cons (ps_if (pt_val (pe_cal ok__law_once (hr.mono (by decide)) (pa_cons (pv 0) (pa_cons pe_int pa_nil)))) (pss_one (ps_set (i := 2) sc__law_otherplots.nd rfl (by first | exact Or.inl rfl | exact Or.inr rfl) (pe_callB (call_max2 rfl) (by rfl) T_max b_max (pa_cons pe_int (pa_cons (pe_op op_sub (pv 1) pe_int) pa_nil))))) pss_nil)
      (pss_cons (ps_if (pt_cmpR op_ge (pv 2) (pv 1) (nomark _)) (pss_one (ps_set (i := 2) sc__law_otherplots.nd rfl (by first | exact Or.inl rfl | exact Or.inr rfl) (pe_op op_add (pv 2) pe_int))) pss_nil)
      (pss_one (ps_ret (pv 2)))))), ?_⟩
    refine ⟨_, rfl, st, 15, c, ns, rfl, S, by decide, fun z H1 z0 z1 s1 S1 => ?_⟩
    refine ⟨_, _, rfl, rfl, ?_⟩
    refine gn ?_
    dsimp only
    refine seq_by (A := tIfS _ _ _) (fun σ H' => ∃ m : Int, σ = [some (.ref st), some (.int n), some (.int m)] ∧ 1 ≤ m ∧ m ≤ 15 ∧ Stays st H H' ∧ Sto c ns H' st) (fun D' kD => ?_) ?_
    · refine ⟨_, rfl, st, 2, c, ns, rfl, S1, by decide, fun b H2 s2 S2 => ⟨_, rfl, ?_⟩⟩
      refine ite_any ?_ ?_
      · refine ⟨_, rfl, _, _, rfl, rfl, _, _, rfl, ?_⟩
        refine kD _ _ ⟨_, rfl, ?_, ?_, s1.trans s2, S2⟩ <;> split <;> omega
      · exact kD _ _ ⟨1 + z, rfl, by omega, by omega, s1.trans s2, S2⟩
    rintro σ H2 ⟨m, rfl, m1, m15, s2, S2⟩
    refine ⟨_, rfl, _, rfl, _, _, rfl, rfl, _, rfl, ite_dec (fun hc => ?_) (fun hc => ?_)⟩
    · exact ⟨_, rfl, _, _, rfl, rfl, _, rfl, k _ H2 (by omega) (by omega) (by omega) s2 S2⟩
    · exact ⟨_, rfl, k m H2 m1 (by omega) (by omega) s2 S2⟩
end
end K4
/-! K34: the law's canon, its lots. -/
namespace K4
open PySem PySem.Spec PyProof.Rows L2 StX LamX
open M4 (Bd fi canonN lotOf lotsOf Canon)
section
variable {P : Program} {w : World} {K : PySem.W.Frag} {mg : Str → Option Value} {base : Heap} {C_Table C_Span : Addr}
def nvs (l : List Nat) : List V := l.map fun (n : Nat) => V.int (n : Int)
def spCanonL : L2.Sp := fun vs H Q _ => ∃ (a : Addr) (ls : List Int), vs = [.ref a] ∧ H a = some (.lst (ls.map V.int)) ∧ ls.length ≤ 100 ∧ ∀ p H', Same H H' → H' p = some (.tup (nvs (canonN ls))) → Q (.ref p) H'
theorem sc__law_canon : FnScope ["_law_labels", "_law_names", "_law_k", "_law_at", "_law_j"] ["_law_labels"] (defScope s__law_canon) := ⟨rfl, rfl, rfl, by decide +kernel, rfl, by decide +kernel, by decide +kernel⟩

theorem ok__law_canon (D : Glo K mg "_law_canon" "_law_canon" s__law_canon) (T_len : mg "len" = none) (T_range : mg "range" = none) (T_tuple : mg "tuple" = none) : Cal P w K mg base CX0 33 "_law_canon" spCanonL := by
  refine D.cal sc__law_canon (fun _ _ _ _ _ _ us hl => match us, hl with | [_], _ => rfl) (fun vs H Q E h => ?_) (fun f cdv A outer s H vs Q E hr h => ?_)
  · obtain ⟨a, ls, rfl, _⟩ := h; rfl
  · obtain ⟨a, ls, rfl, hA, h100, k⟩ := h
    refine ⟨_, (pss_cons (ps_set (i := 1) sc__law_canon.nd rfl (by first | exact Or.inl rfl | exact Or.inr rfl) (pe_lst pa_nil))
      (pss_cons (ps_for PassesOwn.never rfl (pi_range1 (by rfl) T_range (pa_cons (pe_callB (call_lenK K) (by rfl) T_len b_len (pa_cons (pv 0) pa_nil)) pa_nil)) (pg_name (i := 2) sc__law_canon.nd rfl (by first | exact Or.inl rfl | exact Or.inr rfl)) (pss_cons (ps_set (i := 3) sc__law_canon.nd rfl (by first | exact Or.inl rfl | exact Or.inr rfl) (pv 2))
      (pss_cons (ps_for PassesOwn.never rfl (pi_range1 (by rfl) T_range (pa_cons (pv 2) pa_nil)) (pg_name (i := 4) sc__law_canon.nd rfl (by first | exact Or.inl rfl | exact Or.inr rfl)) (pss_one (ps_if (pt_cmpR op_eq (pe_ix (ix_n K) (pv 0) (pv 4) (fun _ _ => rfl)) (pe_ix (ix_n K) (pv 0) (pv 2) (fun _ _ => rfl)) (nomark _)) (pss_cons (ps_set (i := 3) sc__law_canon.nd rfl (by first | exact Or.inl rfl | exact Or.inr rfl) (pv 4))
      (pss_one ps_break)) pss_nil)))
      (pss_one (ps_expr (pe_bm PySem.F.plainAttrs_list PySem.F.slot_list_append PySem.F.type_list_append mt_append (pv 1) (pa_cons (pv 3) pa_nil)))))))
      (pss_one (ps_ret (pe_callTy (call_tupleK K) (by rfl) T_tuple b_tuple (pa_cons (pv 1) pa_nil)))))), ?_⟩
    refine ⟨Nat.zero_le _, fun L hL => ?_⟩
    have s0 : Same H (upd H L (.lst [])) := same_upd hL
    refine ⟨_, rfl, a, _, rfl, .inl (SqL.of (s0 _ _ hA)), _, rfl, by omega, by rw [List.length_map]; omega, for_it (walk_range (lo := 0)) (fun i σ H' => Same H (cut H' L) ∧ ∃ o2 o3 o4, σ = [some (.ref a), some (.ref L), o2, o3, o4] ∧ H' L = some (.lst (nvs ((canonN ls).take i)))) ⟨by rw [cut_upd]; exact same_cut_none hL, none, none, none, rfl, upd_same⟩ (fun _ _ _ _ _ => trivial) ?_ ?_⟩
    · rintro i x σ H' H2 hi ⟨s, o2, o3, o4, rfl, hcl⟩ y
      obtain ⟨rfl, ex⟩ := y
      have ex' : x = V.int (i : Int) := by rw [ex]; show V.int (0 + (i : Int)) = _; rw [Int.zero_add]
      subst ex'
      rw [List.length_map] at hi
      have hi2 : i < ls.length := by omega
      have hz := List.getElem?_eq_getElem hi2
      obtain ⟨j0, g0, f0⟩ := M4.canonN_get hz
      obtain ⟨f1, f2⟩ := M4.fi_some f0
      have hA1 := (s.trans (same_cut _ _)) _ _ hA
      have gi : (ls.map V.int)[i]? = some (.int (ls[i])) := by rw [List.getElem?_map, hz]; rfl
      refine gn ?_
      dsimp only
      refine ⟨_, rfl, ?_⟩
      refine gn ?_
      dsimp only
      refine seq_by (A := tFor _ _ _) (fun σ H'' => H'' = H2 ∧ ∃ o4, σ = [some (.ref a), some (.ref L), some (.int i), some (.int j0), o4]) (fun D' kD => ?_) ?_
      · refine ⟨_, rfl, i, rfl, by omega, by omega, for_it (walk_range (lo := 0)) (fun j σ H'' => H'' = H2 ∧ (∀ m, m < j → ls[m]? ≠ some ls[i]) ∧ ∃ o4, σ = [some (.ref a), some (.ref L), some (.int i), some (.int i), o4]) ⟨rfl, fun _ z => absurd z (by omega), _, rfl⟩ (fun _ _ _ _ _ => trivial) ?_ ?_⟩
        · rintro j x σ H1 H2 hj ⟨rfl, hno, o4, rfl⟩ y
          obtain ⟨rfl, ex⟩ := y
          have ex' : x = V.int (j : Int) := by rw [ex]; show V.int (0 + (j : Int)) = _; rw [Int.zero_add]
          subst ex'
          have hj2 : j < ls.length := by omega
          have hzj := List.getElem?_eq_getElem hj2
          have gj : (ls.map V.int)[j]? = some (.int (ls[j])) := by rw [List.getElem?_map, hzj]; rfl
          refine ⟨_, rfl, _, rfl, a, _, j, _, rfl, rfl, .inl (SqL.of hA1), gj, _, rfl, _, rfl, a, _, i, _, rfl, rfl, .inl (SqL.of hA1), gi, rfl, _, rfl, ite_dec (fun c => ?_) (fun c => ?_)⟩
          · have c' : ls[j] = ls[i] := by injection c
            have e0 : j0 = j := by
              have := M4.fi_iff (ls := ls) (z := ls[i]) (j := j) (by rw [hzj, c']) (fun m hm => hno m hm)
              rw [f0] at this
              exact Option.some.inj this
            exact ⟨_, rfl, kD _ _ ⟨rfl, _, by rw [e0]; rfl⟩⟩
          · refine ⟨rfl, fun m hm => ?_, _, rfl⟩
            by_cases z : m = j
            · rw [z, hzj]
              exact fun q => c (congrArg V.int (Option.some.inj q))
            · exact hno m (by omega)
        · rintro σ H1 ⟨rfl, hno, o4, rfl⟩
          have e0 : j0 = i := by
            have := M4.fi_iff (ls := ls) (z := ls[i]) (j := i) hz (fun m hm => hno m (by omega))
            rw [f0] at this
            exact Option.some.inj this
          exact kD _ _ ⟨rfl, _, by rw [e0]⟩
      · rintro σ H1 ⟨rfl, o4', rfl⟩
        refine ⟨_, rfl, .inl ⟨rfl, _, SqL.of hcl⟩, _, rfl, ?_⟩
        refine ⟨L, _, _, rfl, rfl, hcl, ?_, ?_, _, _, _, rfl, ?_⟩
        · have := small_line (show (nvs ((canonN ls).take i)).length + 1 ≤ 1000 by unfold nvs; rw [List.length_map, List.length_take]; omega); exact this
        · rw [cut_upd]; exact s
        · rw [upd_same, take_succ_get g0]
          unfold nvs
          rw [List.map_append]; rfl
    · rintro σ H' ⟨s, o2, o3, o4, rfl, hcl⟩
      rw [List.length_map, show ((ls.length : Int)).toNat = ls.length by omega, ← M4.canonN_len ls, List.take_length] at hcl
      refine ⟨_, rfl, L, _, rfl, .inl ⟨SqL.of hcl, fun p hp => ?_⟩⟩
      exact k p _ (Same.upd (s.trans (same_cut _ _)) hp) upd_same
def spLotsL : L2.Sp := fun vs H Q _ => ∃ (a : Addr) (ns : List Nat), vs = [.ref a] ∧ H a = some (.tup (nvs ns)) ∧ Canon ns ∧ ns.length ≤ 16 ∧ ∀ p H', Same H H' → isT (isT isN) H' (.ref p) (lotsOf ns) → Q (.ref p) H'
theorem nvs_at {ns : List Nat} {i m : Nat} (h : ns[i]? = some m) : (nvs ns)[i]? = some (.int (m : Int)) := by unfold nvs; rw [List.getElem?_map, h]; rfl
theorem own_dec {ns : List Nat} {i m k : Nat} (h : ns[i]? = some m) : decide (V.int (m : Int) = V.int (k : Int)) = decide (ns[i]? = some k) := by
  rw [h]
  by_cases e : m = k
  · subst e; simp
  · rw [decide_eq_false (by intro z; injection z with z; omega), decide_eq_false (by intro z; exact e (Option.some.inj z))]
theorem range_filter_succ' {f : Nat → Bool} (i : Nat) : (List.range (i + 1)).filter f = (List.range i).filter f ++ if f i then [i] else [] := by
  rw [List.range_succ, List.filter_append]
  cases h : f i <;> simp [h]
theorem sc__law_lots : FnScope ["_law_names", "_law_lots_here", "_law_name", "_law_k"] ["_law_names"] (defScope s__law_lots) := ⟨rfl, rfl, rfl, by decide +kernel, rfl, by decide +kernel, by decide +kernel⟩

theorem ok__law_lots (D : Glo K mg "_law_lots" "_law_lots" s__law_lots) (T_len : mg "len" = none) (T_range : mg "range" = none) (T_tuple : mg "tuple" = none) : Cal P w K mg base CX0 33 "_law_lots" spLotsL := by
  refine D.cal sc__law_lots (fun _ _ _ _ _ _ us hl => match us, hl with | [_], _ => rfl) (fun vs H Q E h => ?_) (fun f cdv A outer s H vs Q E hr h => ?_)
  · obtain ⟨a, ns, rfl, _⟩ := h; rfl
  · obtain ⟨a, ns, rfl, hA, hC, h16, k⟩ := h
    have ln : (nvs ns).length = ns.length := by unfold nvs; rw [List.length_map]
    refine ⟨_, (pss_cons (ps_set (i := 1) sc__law_lots.nd rfl (by first | exact Or.inl rfl | exact Or.inr rfl) (pe_lst pa_nil))
      (pss_cons (ps_for PassesOwn.never rfl (pi_range1 (by rfl) T_range (pa_cons (pe_callB (call_lenK K) (by rfl) T_len b_len (pa_cons (pv 0) pa_nil)) pa_nil)) (pg_name (i := 2) sc__law_lots.nd rfl (by first | exact Or.inl rfl | exact Or.inr rfl)) (pss_one (ps_if (pt_cmpR op_eq (pe_ix (ix_n K) (pv 0) (pv 2) (fun _ _ => rfl)) (pv 2) (nomark _)) (pss_one (ps_expr (pe_bm PySem.F.plainAttrs_list PySem.F.slot_list_append PySem.F.type_list_append mt_append (pv 1) (pa_cons (pe_callTy (call_tupleK K) (by rfl) T_tuple b_tuple (pa_cons (pe_lc (own := [("_law_k", 3)]) (g := (gName 3)) rfl sc__law_lots.nd (pi_range1 (by rfl) T_range (pa_cons (pe_callB (call_lenK K) (by rfl) T_len b_len (pa_cons (pv 0) pa_nil)) pa_nil)) (blkOk_by (N := ["_law_names", "_law_lots_here", "_law_name", "_law_k"]) (sc := defScope s__law_lots) (by decide +kernel)) (fun _ _ _ _ _ => (pg_name (i := 3) sc__law_lots.nd rfl (by first | exact Or.inl rfl | exact Or.inr rfl))) (fun _ _ _ _ _ => (pts_one (pt_cmpR op_eq (pe_ix (ix_n K) (pv 0) (pv 3) (fun _ _ => rfl)) (pv 2) (nomark _)))) (fun _ _ _ _ _ => (pv 3))) pa_nil)) pa_nil)))) pss_nil)))
      (pss_one (ps_ret (pe_callTy (call_tupleK K) (by rfl) T_tuple b_tuple (pa_cons (pv 1) pa_nil)))))), ?_⟩
    refine ⟨Nat.zero_le _, fun L hL => ?_⟩
    have s0 : Same H (upd H L (.lst [])) := same_upd hL
    have hT : ∀ H', Same H H' → SqT K H' a (nvs ns) := fun H' s => .inl (.inl (s _ _ hA))
    refine ⟨_, rfl, a, _, rfl, .inr (hT _ s0), _, rfl, by omega, by omega, for_it (walk_range (lo := 0)) (fun i σ H' => Same H (cut H' L) ∧ ∃ o2 vs, σ = [some (.ref a), some (.ref L), o2, none] ∧ H' L = some (.lst vs) ∧ vs.length ≤ i ∧ Paired (fun l v => isT isN (cut H' L) v l) (((List.range i).filter fun m => decide (ns[m]? = some m)).map (lotOf ns)) vs) ⟨by rw [cut_upd]; exact same_cut_none hL, none, [], rfl, upd_same, Nat.le_refl _, .nil⟩ (fun _ _ _ _ _ => trivial) ?_ ?_⟩
    · rintro i x σ H' H2 hi ⟨s, o2, vs, rfl, hcl, hvl, hcp⟩ y
      obtain ⟨rfl, ex⟩ := y
      have ex' : x = V.int (i : Int) := by rw [ex]; show V.int (0 + (i : Int)) = _; rw [Int.zero_add]
      subst ex'
      have hi2 : i < ns.length := by omega
      obtain ⟨m, hm⟩ : ∃ m, ns[i]? = some m := ⟨_, List.getElem?_eq_getElem hi2⟩
      have s1 := s.trans (same_cut _ _)
      refine ⟨_, rfl, _, rfl, a, _, i, _, rfl, rfl, .inr (hT _ s1), nvs_at hm, _, rfl, rfl, _, rfl, ?_⟩
      rw [own_dec hm]
      rw [range_filter_succ']
      refine ite_dec (fun c => ?_) (fun c => ?_)
      · rw [if_pos (decide_eq_true c), List.map_append]
        refine ⟨_, rfl, .inl ⟨rfl, _, SqL.of hcl⟩, ?_⟩
        refine ⟨_, rfl, a, _, rfl, .inr (hT _ s1), _, rfl, by omega, by omega, fun M hM => lcf (walk_range (lo := 0)) (fun j _ v => v = V.int (j : Int)) (fun j => decide (ns[j]? = some i)) hM (small_line (by omega)) (fun _ _ _ _ s q => q) (fun _ _ => trivial) (fun j y H4 H5 hj s5 o yy Q Q' k k' => ?_) (fun H4 zs s4 hM' q4 => ?_)⟩
        · obtain ⟨rfl, ey⟩ := yy
          have ey' : y = V.int (j : Int) := by rw [ey]; show V.int (0 + (j : Int)) = _; rw [Int.zero_add]
          subst ey'
          have hj2 : j < ns.length := by omega
          obtain ⟨m2, hm2⟩ : ∃ m, ns[j]? = some m := ⟨_, List.getElem?_eq_getElem hj2⟩
          refine ⟨rfl, _, rfl, _, rfl, a, _, j, _, rfl, rfl, .inr (hT _ (s1.trans (s5.trans (same_cut _ _)))), nvs_at hm2, _, rfl, rfl, _, rfl, ?_⟩
          rw [own_dec hm2]
          exact ite_dec (fun c => ⟨_, rfl, k (decide_eq_true c) _ _ (Same.refl _) rfl⟩) (fun c => k' (decide_eq_false c) _ (Same.refl _))
        · have e := pEqMap q4
          have el : zs = nvs (lotOf ns i) := by
            rw [e, ln]; unfold nvs lotOf; rfl
          subst el
          refine ⟨M, _, rfl, .inl ⟨SqL.of hM', fun t ht => ?_⟩⟩
          have s6 : Same H4 (upd H4 t (.tup (nvs (lotOf ns i)))) := same_upd ht
          have hcl4 := s6 _ _ (s4 _ _ hcl)
          have nt : t ≠ L := new_ne (s4 _ _ hcl) ht
          refine ⟨L, vs, _, rfl, rfl, hcl4, ?_, ?_, _, vs ++ [.ref t], rfl, upd_same, by rw [List.length_append]; show vs.length + 1 ≤ i + 1; omega, ?_⟩
          · have := small_line (show vs.length + 1 ≤ 1000 by omega); exact this
          · rw [cut_upd]; exact s.trans (Same.cut (s4.trans s6) L)
          · rw [cut_upd]
            refine pApp (pImp hcp fun _ _ r => mono_T mono_N _ _ _ _ (Same.cut (s4.trans s6) L) r) (.cons ⟨t, _, rfl, by rw [cut_ne nt]; exact upd_same, ?_⟩ .nil)
            unfold nvs
            exact pOf (by simp) fun j d y hd hy => by
              rw [List.getElem?_map, hd] at hy
              exact (Option.some.inj hy).symm
      · rw [if_neg (by simpa using c), List.append_nil]
        exact ⟨s, _, vs, rfl, hcl, by omega, hcp⟩
    · rintro σ H' ⟨s, o2, vs, rfl, hcl, hvl, hcp⟩
      rw [ln, show ((ns.length : Int)).toNat = ns.length by omega, ← M4.lots_canon hC] at hcp
      refine ⟨_, rfl, L, _, rfl, .inl ⟨SqL.of hcl, fun p hp => ?_⟩⟩
      have s6 : Same H' (upd H' p (.tup vs)) := same_upd hp
      refine k p _ ((s.trans (same_cut _ _)).trans s6) ⟨p, vs, rfl, upd_same, pImp hcp fun _ _ r => mono_T mono_N _ _ _ _ ((same_cut _ _).trans s6) r⟩
end
end K4
/-! K35: the law's rows of numbers. -/
namespace K4
open PySem PySem.Spec PyProof.Rows L2 StX LamX
open M4 (Bd BQ qe)
def NQ (q : Rat) : Prop := ∃ n d : Int, q = (n : Rat) / (d : Rat) ∧ n.natAbs ≤ 99 ∧ 1 ≤ d.natAbs ∧ d.natAbs ≤ 99
theorem NQ.int {z : Int} (h : z.natAbs ≤ 99) : NQ (z : Rat) := ⟨z, 1, by have : ((1 : Int) : Rat) = 1 := rfl; rw [this]; grind, h, by decide, by decide⟩
theorem cut_comm (H : Hp) (a b : Addr) : cut (cut H a) b = cut (cut H b) a := by
  funext x
  unfold cut
  split <;> split <;> rfl
theorem Sto.upd {c : Addr} {ns : List Int} {H : Hp} {st L : Addr} {o : HO} (S : Sto c ns H st) (h1 : st ≠ L) (h2 : c ≠ L) : Sto c ns (upd H L o) st := by
  obtain ⟨p, cnt, cur, seed, turn, h, hc, r⟩ := S
  refine ⟨p, cnt, cur, seed, turn, by rw [upd_ne h1]; exact h, ?_, r⟩
  obtain ⟨n, e⟩ := cut_some hc
  rw [cut_ne n, upd_ne h2]; exact e
theorem Sto.ne {c : Addr} {ns : List Int} {H : Hp} {st L : Addr} (S : Sto c ns H st) (h : H L = none) : st ≠ L ∧ c ≠ L := by
  obtain ⟨p, cnt, cur, seed, turn, h1, hc, r⟩ := S
  obtain ⟨n, e⟩ := cut_some hc
  exact ⟨fun z => (by rw [z, h] at h1; cases h1), fun z => (by rw [z, h] at e; cases e)⟩
/-- beside the store and a list of our own nothing has changed -/
def Off2 (st L : Addr) (H H' : Hp) : Prop := Same (cut (cut H L) st) (cut (cut H' L) st)
theorem off2_st {st L : Addr} {H H' : Hp} (s : Stays st H H') : Off2 st L H H' := by
  unfold Off2
  rw [cut_comm H, cut_comm H']
  exact Same.cut s L
theorem off2_upd {st L : Addr} {H : Hp} {o : HO} : Off2 st L H (upd H L o) := by
  unfold Off2
  rw [cut_upd]; exact Same.refl _
theorem off2_same {st L : Addr} {H H' : Hp} (s : Same H H') : Off2 st L H H' := Same.cut (Same.cut s L) st
theorem stays_at {st L : Addr} {H H' : Hp} {o : HO} (s : Stays st H H') (n : L ≠ st) (h : H L = some o) : H' L = some o := (cut_some (s L o (by rw [cut_ne n]; exact h))).2
section
variable {P : Program} {w : World} {K : PySem.W.Frag} {mg : Str → Option Value} {base : Heap} {C_Table C_Span : Addr}
def spNumrow : L2.Sp := fun vs H Q _ => ∃ (st : Addr) (n : Nat) (most : Int) (c : Addr) (ns : List Int), vs = [.ref st, .int n, .int most] ∧ Sto c ns H st ∧ n ≤ 6 ∧ 1 ≤ most ∧ most ≤ 99 ∧ ∀ p H' qs, Stays st H H' → Sto c ns H' st → H p = none → isL isNum (cut H' st) (.ref p) qs → qs.length = n → (∀ q ∈ qs, NQ q) → Q (.ref p) H'
theorem sc__law_numberrow : FnScope ["_law_store_here", "_law_many", "_law_most", "_law_row", "_law_kind", "_law_k", "_law_num", "_law_den"] ["_law_store_here", "_law_many", "_law_most"] (defScope s__law_numberrow) := ⟨rfl, rfl, rfl, by decide +kernel, rfl, by decide +kernel, by decide +kernel⟩

theorem ok__law_numberrow (D : Glo K mg "_law_numberrow" "_law_numberrow" s__law_numberrow) (ok__law_take : Cal P w K mg base CX0 35 "_law_take" spTake) (seer : Seer P K mg) (T_int : mg "int" = none) (T_range : mg "range" = none) : Cal P w K mg base CX0 37 "_law_numberrow" spNumrow := by
  refine D.cal sc__law_numberrow (fun _ _ _ _ _ _ us hl => match us, hl with | [_, _, _], _ => rfl) (fun vs H Q E h => ?_) (fun f cdv A outer s H vs Q E hr h => ?_)
  · obtain ⟨a, b, m, c, ns, rfl, _⟩ := h; rfl
  · obtain ⟨st, n, most, c, ns, rfl, S, n6, m1, m99, k⟩ := h
    refine ⟨_, (pss_cons (ps_set (i := 3) sc__law_numberrow.nd rfl (by first | exact Or.inl rfl | exact Or.inr rfl) (pe_lst pa_nil))
      (pss_cons (ps_set (i := 4) sc__law_numberrow.nd rfl (by first | exact Or.inl rfl | exact Or.inr rfl) (pe_cal ok__law_take (hr.mono (by decide)) (pa_cons (pv 0) (pa_cons pe_int pa_nil))))
      (pss_cons (ps_for PassesOwn.never rfl (pi_range1 (by rfl) T_range (pa_cons (pv 1) pa_nil)) (pg_name (i := 5) sc__law_numberrow.nd rfl (by first | exact Or.inl rfl | exact Or.inr rfl)) (pss_cons (ps_set (i := 6) sc__law_numberrow.nd rfl (by first | exact Or.inl rfl | exact Or.inr rfl) (pe_op op_sub (pe_cal ok__law_take (hr.mono (by decide)) (pa_cons (pv 0) (pa_cons (pe_op op_add (pe_op op_mulO pe_int (pv 2)) pe_int) pa_nil))) (pv 2)))
      (pss_cons (ps_set (i := 7) sc__law_numberrow.nd rfl (by first | exact Or.inl rfl | exact Or.inr rfl) (pe_op op_add pe_int (pe_cal ok__law_take (hr.mono (by decide)) (pa_cons (pv 0) (pa_cons (pv 2) pa_nil)))))
      (pss_one (ps_if (pt_cmpR op_eq (pv 4) pe_int (nomark _)) (pss_one (ps_expr (pe_bm PySem.F.plainAttrs_list PySem.F.slot_list_append PySem.F.type_list_append mt_append (pv 3) (pa_cons (pe_op op_add (pe_callTy call_int1 (by rfl) T_int b_int (pa_cons (pe_cmpR op_eq (pv 6) pe_int (nomark _)) pa_nil)) (pe_callTy call_int1 (by rfl) T_int b_int (pa_cons (pe_cmpR op_gt (pv 6) (pe_op (op_fdivA seer (hr.mono (by decide)) ⟨_, _, rfl, rfl, rfl, rfl, rfl⟩) (pv 2) pe_int) (nomark _)) pa_nil))) pa_nil)))) (pss_one (ps_if (PW.pt (pw_or (pt_cmpR op_eq (pv 4) pe_int (nomark _)) (pw_or1 (pt_cmpR op_eq (pv 7) pe_int (nomark _))))) (pss_one (ps_expr (pe_bm PySem.F.plainAttrs_list PySem.F.slot_list_append PySem.F.type_list_append mt_append (pv 3) (pa_cons (pv 6) pa_nil)))) (pss_one (ps_expr (pe_bm PySem.F.plainAttrs_list PySem.F.slot_list_append PySem.F.type_list_append mt_append (pv 3) (pa_cons (pe_tup (pa_cons (pv 6) (pa_cons (pe_op op_mulO (pv 7) (pe_op op_sub pe_int (pe_op op_mulO pe_int (pe_callTy call_int1 (by rfl) T_int b_int (pa_cons (pe_cmpR op_gt (pv 6) (pv 7) (nomark _)) pa_nil))))) pa_nil))) pa_nil)))))))))))
      (pss_one (ps_ret (pv 3)))))), ?_⟩
    refine ⟨Nat.zero_le _, fun L hL => ?_⟩
    have s0 : Same H (upd H L (.lst [])) := same_upd hL
    obtain ⟨nst, nc⟩ := S.ne hL
    refine ⟨_, rfl, st, 3, c, ns, rfl, S.keep s0, by decide, fun kd H1 kd0 kd3 s1 S1 => ?_⟩
    refine ⟨_, rfl, n, rfl, by omega, by omega, for_it (walk_range (lo := 0)) (fun i σ H' => ∃ o5 o6 o7 acc qs, σ = [some (.ref st), some (.int n), some (.int most), some (.ref L), some (.int kd), o5, o6, o7] ∧ H' L = some (.lst acc) ∧ Sto c ns H' st ∧ Off2 st L H H' ∧ Paired (fun q v => isNum (cut (cut H' L) st) v q) qs acc ∧ qs.length = i ∧ ∀ q ∈ qs, NQ q)
      ⟨none, none, none, [], [], rfl, stays_at s1 (Ne.symm nst) upd_same, S1, (off2_upd (o := .lst [])).trans (off2_st s1), .nil, rfl, fun _ z => by simp at z⟩ (fun _ _ _ _ _ => trivial) ?_ ?_⟩
    · rintro i x σ H2 H3 hi ⟨o5, o6, o7, acc0, qs, rfl, hLa, S2, f2, hp, hql, hnq⟩ y
      obtain ⟨rfl, ex⟩ := y
      subst ex
      have hal := pLen hp
      refine ⟨_, rfl, _, rfl, _, _, rfl, rfl, mulO_l (bd_k (by decide)), _, _, rfl, rfl, st, 2 * most + 1, c, ns, rfl, S2, by omega, fun z H4 z0 z1 s4 S4 => ?_⟩
      refine ⟨_, rfl, _, _, rfl, rfl, ?_⟩
      refine gn ?_
      dsimp only
      refine ⟨_, rfl, _, rfl, st, most, c, ns, rfl, S4, by omega, fun d H5 d0 d1 s5 S5 => ?_⟩
      refine ⟨_, _, rfl, rfl, ?_⟩
      have hL5 := stays_at s5 (Ne.symm nst) (stays_at s4 (Ne.symm nst) hLa)
      have f5 : Off2 st L _ H5 := (off2_st s4).trans (off2_st s5)
      have app : ∀ (H6 : Hp) (v : V) (q : Rat), Same H5 H6 → isNum (cut (cut H6 L) st) v q → NQ q → ∀ (o5 o6 o7 : Option V), ∃ o5' o6' o7' acc qs, [some (.ref st), some (.int n), some (.int most), some (.ref L), some (.int kd), o5, o6, o7] = [some (.ref st), some (.int n), some (.int most), some (.ref L), some (.int kd), o5', o6', o7'] ∧ (upd H6 L (.lst (acc0 ++ [v]))) L = some (.lst acc) ∧ Sto c ns (upd H6 L (.lst (acc0 ++ [v]))) st ∧ Off2 st L H (upd H6 L (.lst (acc0 ++ [v]))) ∧ Paired (fun q v' => isNum (cut (cut (upd H6 L (.lst (acc0 ++ [v]))) L) st) v' q) qs acc ∧ qs.length = i + 1 ∧ ∀ q ∈ qs, NQ q := fun H6 v q s6 hv hn o5 o6 o7 => by
        refine ⟨o5, o6, o7, acc0 ++ [v], qs ++ [q], rfl, upd_same, (S5.keep s6).upd nst nc, (f2.trans (f5.trans (off2_same s6))).trans off2_upd, ?_, by rw [List.length_append]; show qs.length + 1 = i + 1; omega, fun u hu => ?_⟩
        · rw [cut_upd]
          exact pApp (pImp hp fun _ _ r => mono_num _ _ _ _ (f5.trans (off2_same s6)) r) (.cons hv .nil)
        · rcases List.mem_append.mp hu with hu | hu
          · exact hnq u hu
          · rw [List.mem_singleton.mp hu]; exact hn
      have sl : acc0.length < sizeLine := by
        have := small_line (show acc0.length + 1 ≤ 1000 by omega); exact this
      have zz : (z - most).natAbs ≤ 99 := by omega
      refine gn ?_
      dsimp only
      refine ⟨_, rfl, rfl, _, rfl, ite_any ?_ ?_⟩
      · refine ⟨_, rfl, .inl ⟨rfl, _, SqL.of hL5⟩, _, rfl, rfl, .inr ⟨_, rfl, _, rfl, _, rfl, _, _, rfl, rfl, (by decide : (2 : Int) ≠ 0), _, _, rfl, rfl, .inr ⟨_, rfl, _, _, rfl, rfl, ?_⟩⟩⟩
        refine ⟨L, acc0, _, rfl, rfl, hL5, sl, app H5 _ _ (Same.refl _) (.inl ⟨_, rfl, rfl⟩) (.int ?_) _ _ _⟩
        split <;> split <;> decide
      · refine ⟨_, rfl, rfl, _, rfl, ite_any (iteC rfl ?_) ⟨_, rfl, rfl, _, rfl, ite_any ?_ ?_⟩⟩
        · refine ⟨_, rfl, .inl ⟨rfl, _, SqL.of hL5⟩, _, rfl, ?_⟩
          exact ⟨L, acc0, _, rfl, rfl, hL5, sl, app H5 _ _ (Same.refl _) (.inl ⟨_, rfl, rfl⟩) (.int zz) _ _ _⟩
        · refine ⟨_, rfl, .inl ⟨rfl, _, SqL.of hL5⟩, _, rfl, ?_⟩
          exact ⟨L, acc0, _, rfl, rfl, hL5, sl, app H5 _ _ (Same.refl _) (.inl ⟨_, rfl, rfl⟩) (.int zz) _ _ _⟩
        · refine ⟨_, rfl, .inl ⟨rfl, _, SqL.of hL5⟩, _, rfl, _, rfl, _, rfl, _, rfl, _, _, rfl, rfl, .inr ⟨_, rfl, _, _, rfl, rfl, mulO_l (bd_k (by decide)), _, _, rfl, rfl, _, _, rfl, rfl, mulO_l (bd_k (by omega)), by show 2 ≤ sizeLine; decide, fun t ht => ?_⟩⟩
          have s6 : Same H5 (upd H5 t (.tup [.int (z - most), .int ((1 + d) * (1 - 2 * (if decide (1 + d < z - most) = true then 1 else 0)))])) := same_upd ht
          have n1 : t ≠ L := new_ne hL5 ht
          obtain ⟨sx, hsx⟩ := S5.some
          have n2 : t ≠ st := new_ne hsx ht
          have hd : ((1 + d) * (1 - 2 * (if decide (1 + d < z - most) = true then 1 else 0))).natAbs = (1 + d).natAbs := by
            split
            · rw [show (1 + d) * (1 - 2 * 1) = -(1 + d) by omega, Int.natAbs_neg]
            · rw [show (1 + d) * (1 - 2 * 0) = (1 + d) by omega]
          refine ⟨L, acc0, _, rfl, rfl, s6 _ _ hL5, sl, app _ _ _ s6 (.inr ⟨t, _, _, rfl, by rw [cut_ne n2, cut_ne n1]; exact upd_same, ?_, rfl⟩) ⟨_, _, rfl, zz, by rw [hd]; omega, by rw [hd]; omega⟩ _ _ _⟩
          intro z0
          rw [z0] at hd
          have : (0 : Int).natAbs = 0 := rfl
          omega
    · rintro σ H' ⟨o5, o6, o7, acc, qs, rfl, hLa, S2, f2, hp, hql, hnq⟩
      refine ⟨_, rfl, k L H' qs ?_ S2 hL ⟨L, acc, rfl, by rw [cut_ne (Ne.symm nst)]; exact hLa, pImp hp fun _ _ r => mono_num _ _ _ _ ?_ r⟩ (by omega) hnq⟩
      · have : Same (cut H st) (cut (cut H' L) st) := by
          unfold Off2 at f2
          rw [cut_none hL] at f2; exact f2
        rw [cut_comm] at this
        exact this.trans (same_cut _ _)
      · rw [cut_comm]; exact same_cut _ _
end
end K4
/-! K36: the law's listed rows. -/
namespace K4
open PySem PySem.Spec PyProof.Rows L2 StX LamX
open M4 (Bd BQ SB qe addQ)
theorem nq_all : ∀ (l : List Rat), (∀ q ∈ l, NQ q) → ∃ E : Nat, 0 < E ∧ E ≤ 99 ^ l.length ∧ ∀ i, ∃ z : Int, (E : Rat) * qe l i = (z : Rat) ∧ z.natAbs ≤ 99 * 99 ^ l.length
  | [], _ => ⟨1, by decide, by decide, fun i => ⟨0, by rw [M4.qe_ge (by simp)]; show _ = (0 : Rat); grind, by decide⟩⟩
  | q :: l, h => by
    obtain ⟨E, e1, e2, e3⟩ := nq_all l fun u hu => h u (List.mem_cons_of_mem _ hu)
    obtain ⟨n, d, eq, hn, d1, d2⟩ := h q List.mem_cons_self
    have d0 : d ≠ 0 := fun z => by rw [z] at d1; simp at d1
    have dq : ((d : Int) : Rat) ≠ 0 := fun z => d0 (M4.cast0.mp z)
    have pe : 99 ^ (q :: l).length = 99 * 99 ^ l.length := by rw [List.length_cons, Nat.pow_succ, Nat.mul_comm]
    have ab : ((d.natAbs : Nat) : Rat) = ((d.sign : Int) : Rat) * (d : Rat) := by
      have q : ((d.natAbs : Nat) : Int) = d.sign * d := (Int.sign_mul_self d).symm
      have q2 : (((d.natAbs : Nat) : Int) : Rat) = ((d.sign * d : Int) : Rat) := by rw [q]
      rw [Rat.intCast_mul] at q2
      exact q2
    have p0 : 0 < 99 ^ l.length := Nat.pow_pos (by decide)
    refine ⟨d.natAbs * E, Nat.mul_pos d1 e1, ?_, fun i => ?_⟩
    · rw [pe]; exact Nat.mul_le_mul d2 e2
    · cases i with
      | zero =>
        refine ⟨d.sign * n * (E : Int), ?_, ?_⟩
        · have e0 : qe (q :: l) 0 = q := rfl
          rw [e0, eq, Rat.natCast_mul, ab, Rat.intCast_mul, Rat.intCast_mul]
          have c1 : (((E : Nat) : Int) : Rat) = (E : Rat) := rfl
          rw [c1]; grind
        · rw [Int.natAbs_mul, Int.natAbs_mul, Int.natAbs_natCast, pe]
          have sg : d.sign.natAbs ≤ 1 := by rw [Int.natAbs_sign]; split <;> omega
          have t1 : d.sign.natAbs * n.natAbs ≤ 1 * 99 := Nat.mul_le_mul sg hn
          have t2 : d.sign.natAbs * n.natAbs * E ≤ 1 * 99 * 99 ^ l.length := Nat.mul_le_mul t1 e2
          omega
      | succ i =>
        obtain ⟨z, ez, bz⟩ := e3 i
        refine ⟨(d.natAbs : Int) * z, ?_, ?_⟩
        · have e0 : qe (q :: l) (i + 1) = qe l i := rfl
          rw [e0, Rat.natCast_mul, Rat.intCast_mul, ← ez]
          have c1 : (((d.natAbs : Nat) : Int) : Rat) = (d.natAbs : Rat) := rfl
          rw [c1]; grind
        · rw [Int.natAbs_mul, Int.natAbs_natCast, pe]
          exact Nat.mul_le_mul d2 bz
theorem nq_bq {l : List Rat} (h : ∀ q ∈ l, NQ q) (h6 : l.length ≤ 6) : BQ l 47 := by
  obtain ⟨E, e1, e2, e3⟩ := nq_all l h
  have p : 99 ^ l.length ≤ 99 ^ 6 := Nat.pow_le_pow_right (by decide) h6
  have n1 : 99 ^ 6 ≤ 2 ^ 47 := by decide
  have n2 : 99 * 99 ^ 6 ≤ 2 ^ 47 := by decide
  refine ⟨E, e1, by omega, fun i => ?_⟩
  obtain ⟨z, a, b⟩ := e3 i
  exact ⟨z, a, by unfold Bd; omega⟩
def bb : Nat → Nat
  | 0 => 47
  | 1 => 47
  | 2 => 97
  | 3 => 197
  | 4 => 397
  | _ => 797
theorem bb_step : ∀ k, k < 5 → 1 ≤ k → 2 * bb k + 3 ≤ bb (k + 1) := by decide
theorem bb_47 : ∀ k, k < 6 → 47 ≤ bb k := by decide
theorem bb_mono : ∀ k, k < 5 → bb k ≤ bb (k + 1) := by decide
theorem bb_797 : ∀ k, k < 6 → bb k ≤ 797 := by decide
theorem bq_zero (n b : Nat) : BQ (List.replicate n 0) b := ⟨1, by decide, M4.pow_pos' b, fun i => ⟨0, by
  have : qe (List.replicate n 0) i = 0 := by
    unfold qe
    rw [List.getD_eq_getElem?_getD, List.getElem?_replicate]
    split <;> rfl
  rw [this]; show _ = (0 : Rat); grind, M4.Bd.zero b⟩⟩
theorem off_two {H : Hp} {L st p : Addr} {q : List Rat} {xs ys : List V} (h : isL isQ H (.ref p) q) (hL : H L = some (.lst xs)) (hst : H st = some (.lst ys)) (ne : st ≠ L) (n1 : p ≠ L) (n2 : p ≠ st) : isL isQ (cut (cut H L) st) (.ref p) q :=
  offL_in offL_Q (by rw [cut_ne ne]; exact hst) n2 (offL_in offL_Q hL n1 h)
/-- the rows so far -/
structure LI (c : Addr) (ns : List Int) (st L : Addr) (n i : Nat) (H H' : Hp) (acc : List V) (rows : List (List Rat)) : Prop where
  at_ : H' L = some (.lst acc)
  sto : Sto c ns H' st
  off : Off2 st L H H'
  pr : Paired (fun q v => isL isQ (cut (cut H' L) st) v q) rows acc
  ln : rows.length = i
  bd : ∀ q ∈ rows, q.length = n ∧ BQ q (bb i)
theorem LI.step {c : Addr} {ns : List Int} {st L : Addr} {n i : Nat} {H H' H2 : Hp} {acc : List V} {rows : List (List Rat)} (I : LI c ns st L n i H H' acc rows) (h1 : H2 L = some (.lst acc)) (h2 : Sto c ns H2 st) (h3 : Off2 st L H' H2) : LI c ns st L n i H H2 acc rows :=
  ⟨h1, h2, I.off.trans h3, pImp I.pr fun _ _ r => mono_L mono_Q _ _ _ _ h3 r, I.ln, I.bd⟩
theorem LI.same {c : Addr} {ns : List Int} {st L : Addr} {n i : Nat} {H H' H2 : Hp} {acc : List V} {rows : List (List Rat)} (I : LI c ns st L n i H H' acc rows) (s : Same H' H2) : LI c ns st L n i H H2 acc rows :=
  I.step (s _ _ I.at_) (I.sto.keep s) (off2_same s)
theorem LI.stays {c : Addr} {ns : List Int} {st L : Addr} {n i : Nat} {H H' H2 : Hp} {acc : List V} {rows : List (List Rat)} (I : LI c ns st L n i H H' acc rows) (ne : st ≠ L) (s : Stays st H' H2) (S : Sto c ns H2 st) : LI c ns st L n i H H2 acc rows :=
  I.step (stays_at s (Ne.symm ne) I.at_) S (off2_st s)
/-- the factor x/3 -/
theorem third {x : Int} (h : x.natAbs ≤ 4) {H : Hp} {p : Addr} (hp : H p = some (.tup [.int x, .int 3])) : isF 2 H (.ref p) ((x : Rat) / ((3 : Int) : Rat)) ∧ SB ((x : Rat) / ((3 : Int) : Rat)) 2 ∧ (3 : Rat) * ((x : Rat) / ((3 : Int) : Rat)) = (x : Rat) := by
  have b1 : Bd x 2 := h
  have b2 : Bd (3 : Int) 2 := by show (3 : Int).natAbs ≤ 4; decide
  refine ⟨⟨p, x, 3, rfl, hp, by decide, rfl, b1, b2⟩, ?_, ?_⟩
  · have := M4.sb_div b1 b2 (by decide)
    exact this
  · have c3 : ((3 : Int) : Rat) = 3 := rfl
    rw [c3]; grind
section
variable {P : Program} {w : World} {K : PySem.W.Frag} {mg : Str → Option Value} {base : Heap} {C_Table C_Span : Addr}
def spListed : L2.Sp := fun vs H Q _ => ∃ (st : Addr) (n : Nat) (most : Int) (c : Addr) (ns : List Int), vs = [.ref st, .int n, .int most] ∧ Sto c ns H st ∧ n ≤ 6 ∧ 1 ≤ most ∧ most ≤ 99 ∧
  ∀ p H' rows, Stays st H H' → Sto c ns H' st → H p = none → isL (isL isQ) (cut H' st) (.ref p) rows → rows.length ≤ 5 → (∀ q ∈ rows, q.length = n ∧ BQ q 797) → Q (.ref p) H'
theorem sc__law_listed : FnScope ["_law_store_here", "_law_plots", "_law_most", "_law_listed_here", "_law_k", "_law_row", "_law_kind", "_law_cell"] ["_law_store_here", "_law_plots", "_law_most"] (defScope s__law_listed) := ⟨rfl, rfl, rfl, by decide +kernel, rfl, by decide +kernel, by decide +kernel⟩

theorem ok__law_listed (D : Glo K mg "_law_listed" "_law_listed" s__law_listed) (ok__law_take : Cal P w K mg base CX0 35 "_law_take" spTake) (ok__law_pick : Cal P w K mg base CX0 37 "_law_pick" (spPick K)) (ok__law_numberrow : Cal P w K mg base CX0 37 "_law_numberrow" spNumrow) (ok__law_asratios : Cal P w K mg base CX0 39 "_law_asratios" spAsratios) (ok__law_addcells : Cal P w K mg base CX0 39 "_law_addcells" spAddcells) (T_range : mg "range" = none) : Cal P w K mg base CX0 41 "_law_listed" spListed := by
  refine D.cal sc__law_listed (fun _ _ _ _ _ _ us hl => match us, hl with | [_, _, _], _ => rfl) (fun vs H Q E h => ?_) (fun f cdv A outer s H vs Q E hr h => ?_)
  · obtain ⟨a, b, m, c, ns, rfl, _⟩ := h; rfl
  · obtain ⟨st, n, most, c, ns, rfl, S, n6, m1, m99, k⟩ := h
    refine ⟨_, (pss_cons (ps_set (i := 3) sc__law_listed.nd rfl (by first | exact Or.inl rfl | exact Or.inr rfl) (pe_lst pa_nil))
      (pss_cons (ps_for PassesOwn.never rfl (pi_range1 (by rfl) T_range (pa_cons (pe_cal ok__law_take (hr.mono (by decide)) (pa_cons (pv 0) (pa_cons pe_int pa_nil))) pa_nil)) (pg_name (i := 4) sc__law_listed.nd rfl (by first | exact Or.inl rfl | exact Or.inr rfl)) (pss_cons (ps_set (i := 5) sc__law_listed.nd rfl (by first | exact Or.inl rfl | exact Or.inr rfl) (pe_cal ok__law_asratios (hr.mono (by decide)) (pa_cons (pe_cal ok__law_numberrow (hr.mono (by decide)) (pa_cons (pv 0) (pa_cons (pv 1) (pa_cons (pv 2) pa_nil)))) pa_nil)))
      (pss_cons (ps_set (i := 6) sc__law_listed.nd rfl (by first | exact Or.inl rfl | exact Or.inr rfl) (pe_cal ok__law_take (hr.mono (by decide)) (pa_cons (pv 0) (pa_cons pe_int pa_nil))))
      (pss_cons (ps_if (PW.pt (pw_and (pt_cmpR op_lt (pv 6) pe_int (nomark _)) (pw_and1 (pt_cmpR op_gt (pv 4) pe_int (nomark _))))) (pss_one (ps_set (i := 5) sc__law_listed.nd rfl (by first | exact Or.inl rfl | exact Or.inr rfl) (pe_cal ok__law_addcells (hr.mono (by decide)) (pa_cons (pe_cal ok__law_pick (hr.mono (by decide)) (pa_cons (pv 0) (pa_cons (pv 3) pa_nil))) (pa_cons (pe_cal ok__law_pick (hr.mono (by decide)) (pa_cons (pv 0) (pa_cons (pv 3) pa_nil))) (pa_cons (pe_tup (pa_cons (pe_op op_sub (pe_cal ok__law_take (hr.mono (by decide)) (pa_cons (pv 0) (pa_cons pe_int pa_nil))) pe_int) (pa_cons pe_int pa_nil))) pa_nil)))))) pss_nil)
      (pss_cons (ps_if (pt_cmpR op_eq (pv 6) pe_int (nomark _)) (pss_one (ps_setLc (i := 5) (own := [("_law_cell", 7)]) (tt := tYes) (g := (gName 7)) rfl sc__law_listed.nd rfl rfl (sw_true rfl rfl rfl (by decide +kernel)) (pi_listK K (pv 5)) (blkOk_by (N := ["_law_store_here", "_law_plots", "_law_most", "_law_listed_here", "_law_k", "_law_row", "_law_kind", "_law_cell"]) (sc := defScope s__law_listed) (by decide +kernel)) (fun _ _ _ _ _ => (pg_name (i := 7) sc__law_listed.nd rfl (by first | exact Or.inl rfl | exact Or.inr rfl))) (fun _ _ _ _ _ => pts_nil) (fun _ _ _ _ _ => (pe_tup (pa_cons pe_int (pa_cons pe_int pa_nil)))))) pss_nil)
      (pss_one (ps_expr (pe_bm PySem.F.plainAttrs_list PySem.F.slot_list_append PySem.F.type_list_append mt_append (pv 3) (pa_cons (pv 5) pa_nil)))))))))
      (pss_one (ps_ret (pv 3))))), ?_⟩
    refine ⟨Nat.zero_le _, fun L hL => ?_⟩
    have s0 : Same H (upd H L (.lst [])) := same_upd hL
    obtain ⟨nst, nc⟩ := S.ne hL
    refine ⟨_, rfl, st, 6, c, ns, rfl, S.keep s0, by decide, fun z H1 z0 z6 s1 S1 => ?_⟩
    refine ⟨z.toNat, by rw [Int.toNat_of_nonneg z0], by omega, by omega, for_it (walk_range (lo := 0)) (fun i σ H' => ∃ o4 o5 o6 acc rows, σ = [some (.ref st), some (.int n), some (.int most), some (.ref L), o4, o5, o6, none] ∧ LI c ns st L n i H H' acc rows)
      ⟨none, none, none, [], [], rfl, stays_at s1 (Ne.symm nst) upd_same, S1, (off2_upd (o := .lst [])).trans (off2_st s1), .nil, rfl, fun _ z => by simp at z⟩ (fun _ _ _ _ _ => trivial) ?_ ?_⟩
    · rintro i x σ H2 H3 hi ⟨o4, o5, o6, acc, rows, rfl, I⟩ y
      obtain ⟨rfl, ex⟩ := y
      have ex' : x = V.int (i : Int) := by rw [ex]; show V.int (0 + (i : Int)) = _; rw [Int.zero_add]
      subst ex'
      have i5 : i < 5 := by omega
      have al : rows.length = acc.length := pLen I.pr
      have il := I.ln
      have b797 := bb_797 i (by omega)
      refine gn ?_
      dsimp only
      refine ⟨_, rfl, _, rfl, _, rfl, st, n, most, c, ns, rfl, I.sto, n6, m1, m99, fun p3 H3 qs s3 S3 hn3 hq3 ql3 nq3 => ?_⟩
      have I3 := I.stays nst s3 S3
      refine ⟨.ref p3, qs, rfl, mono_L mono_num _ _ _ _ (same_cut _ _) hq3, by omega, fun p4 H4 s4 hn4 hq4 => ?_⟩
      have I4 := I3.same s4
      obtain ⟨xst3, hst3⟩ := S3.some
      have hrow4 := off_two hq4 I4.at_ (s4 _ _ hst3) nst (new_ne I3.at_ hn4) (new_ne hst3 hn4)
      refine gn ?_
      dsimp only
      refine ⟨_, rfl, st, 6, c, ns, rfl, I4.sto, by decide, fun kd H5 kd0 kd6 s5 S5 => ?_⟩
      have I5 := I4.stays nst s5 S5
      have hrow5 := mono_L mono_Q _ _ _ _ (off2_st (L := L) s5) hrow4
      refine gn ?_
      dsimp only
      have q47 : BQ qs 47 := nq_bq nq3 (by omega)
      refine seq_by (A := tIfS _ _ _) (fun σ H' => ∃ r q, σ = [some (.ref st), some (.int n), some (.int most), some (.ref L), some (.int i), some (.ref r), some (.int kd), none] ∧ LI c ns st L n i H H' acc rows ∧ isL isQ (cut (cut H' L) st) (.ref r) q ∧ q.length = n ∧ BQ q (bb (i + 1))) (fun D' kD => ?_) ?_
      · have skip := kD _ _ ⟨p4, qs, rfl, I5, hrow5, ql3, q47.mono (bb_47 _ (by omega))⟩
        refine ⟨_, rfl, _, _, rfl, rfl, _, rfl, ite_dec (fun c1 => ⟨_, rfl, _, _, rfl, rfl, _, rfl, ite_dec (fun c2 => ?_) (fun _ => skip)⟩) (fun _ => iteN rfl skip)⟩
        have ils : ∀ H', H' L = some (.lst acc) → SqL K (cut H' st) L acc := fun H' h => SqL.of (by rw [cut_ne (Ne.symm nst)]; exact h)
        refine ⟨_, rfl, _, rfl, st, L, acc, c, ns, rfl, S5, .inl (ils _ I5.at_), by omega, by omega, fun j v H6 hj s6 S6 => ?_⟩
        have I6 := I5.stays nst s6 S6
        refine ⟨_, rfl, _, rfl, st, L, acc, c, ns, rfl, S6, .inl (ils _ I6.at_), by omega, by omega, fun j2 v2 H7 hj2 s7 S7 => ?_⟩
        have I7 := I6.stays nst s7 S7
        refine ⟨_, rfl, st, 5, c, ns, rfl, S7, by decide, fun t H8 t0 t5 s8 S8 => ?_⟩
        have I8 := I7.stays nst s8 S8
        refine ⟨_, _, rfl, rfl, by show 2 ≤ sizeLine; decide, fun p9 hp9 => ?_⟩
        have s9 : Same H8 (upd H8 p9 (.tup [.int (t - 2), .int 3])) := same_upd hp9
        have I9 := I8.same s9
        obtain ⟨q1, hq1, r1⟩ := pGet2 I9.pr hj
        obtain ⟨q2, hq2, r2⟩ := pGet2 I9.pr hj2
        obtain ⟨l1, b1⟩ := I.bd q1 (List.mem_of_getElem? hq1)
        obtain ⟨l2, b2⟩ := I.bd q2 (List.mem_of_getElem? hq2)
        have h4 : (t - 2).natAbs ≤ 4 := by omega
        obtain ⟨fF, fS, f3⟩ := third h4 (H := upd H8 p9 (.tup [.int (t - 2), .int 3])) upd_same
        have up2 : ∀ {H' : Hp}, Same (cut (cut H' L) st) H' := (same_cut _ _).trans (same_cut _ _)
        refine ⟨v, v2, .ref p9, q1, q2, _, _, _, _, rfl, mono_L mono_Q _ _ _ _ up2 r1, mono_L mono_Q _ _ _ _ up2 r2, fF, by omega, by omega, b1.sb, b2.sb, fS, by omega, fun p10 H10 s10 hn10 hq10 => ?_⟩
        have I10 := I9.same s10
        obtain ⟨xst9, hst9⟩ := I9.sto.some
        have bst := bb_step i i5 (by omega)
        exact kD _ _ ⟨p10, _, rfl, I10, off_two hq10 I10.at_ (s10 _ _ hst9) nst (new_ne I9.at_ hn10) (new_ne hst9 hn10), by rw [M4.addQ_len]; exact l1, (b1.addQ b2 f3 h4).mono (by omega)⟩
      rintro σ H6 ⟨r, q, rfl, I6, hr6, ql, qb⟩
      refine seq_by (A := tIfS _ _ _) (fun σ H' => ∃ r q, σ = [some (.ref st), some (.int n), some (.int most), some (.ref L), some (.int i), some (.ref r), some (.int kd), none] ∧ LI c ns st L n i H H' acc rows ∧ isL isQ (cut (cut H' L) st) (.ref r) q ∧ q.length = n ∧ BQ q (bb (i + 1))) (fun D' kD => ?_) ?_
      · refine ⟨_, rfl, rfl, _, rfl, ite_any ?_ (kD _ _ ⟨r, q, rfl, I6, hr6, ql, qb⟩)⟩
        obtain ⟨r', rvs, e, hrv, hrp⟩ := id hr6
        cases e
        have hrv' := (cut_some (cut_some hrv).2).2
        have rl : q.length = rvs.length := pLen hrp
        refine ⟨_, rfl, r, rfl, ⟨_, SqL.of hrv'⟩, fun M hM => lcm (walk_list (xs := rvs)) (fun i H v => isQ H v 0) hM (small_line (by omega)) (fun _ _ _ _ s q => mono_Q _ _ _ _ s q) (fun H' s => s.seq (SqL.of hrv')) (fun j y H7 H8 hj s8 o yy Q k => ?_) (fun H7 zs s7 hM' q7 => ?_)⟩
        · obtain ⟨rfl, hy⟩ := yy
          obtain ⟨oD, hD⟩ := o
          refine ⟨rfl, by show 2 ≤ sizeLine; decide, fun t ht => k _ _ (same_upd ht) ⟨t, rfl, ?_⟩⟩
          rw [cut_ne (new_ne hD ht)]; exact upd_same
        · have I7 := I6.same s7
          obtain ⟨xst6, hst6⟩ := I6.sto.some
          have hz : isL isQ H7 (.ref M) (List.replicate n 0) := newL (n := n) hM' (by simp) (fun _ d => d = 0) (fun i d hd => by
            rw [List.getElem?_replicate] at hd
            split at hd
            · exact (Option.some.inj hd).symm
            · cases hd) (by
            rw [← rl, ql] at q7
            exact pImp q7 fun i y r d e => by rw [e]; exact r)
          exact kD _ _ ⟨M, _, rfl, I7, off_two hz I7.at_ (s7 _ _ hst6) nst (new_ne I6.at_ hM) (new_ne hst6 hM), by simp, bq_zero _ _⟩
      rintro σ H7 ⟨r, q, rfl, I7, hr7, ql, qb⟩
      refine ⟨_, rfl, .inl ⟨rfl, _, SqL.of I7.at_⟩, _, rfl, ?_⟩
      refine ⟨L, acc, _, rfl, rfl, I7.at_, ?_, _, _, _, acc ++ [.ref r], rows ++ [q], rfl, ?_⟩
      · have := small_line (show acc.length + 1 ≤ 1000 by omega); exact this
      · refine ⟨upd_same, I7.sto.upd nst nc, I7.off.trans off2_upd, ?_, by rw [List.length_append]; show rows.length + 1 = i + 1; omega, fun u hu => ?_⟩
        · rw [cut_upd]
          exact pApp I7.pr (.cons hr7 .nil)
        · rcases List.mem_append.mp hu with hu | hu
          · obtain ⟨a1, a2⟩ := I.bd u hu
            exact ⟨a1, a2.mono (bb_mono i i5)⟩
          · rw [List.mem_singleton.mp hu]; exact ⟨ql, qb⟩
    · rintro σ H' ⟨o4, o5, o6, acc, rows, rfl, I⟩
      have e5 : rows.length ≤ 5 := by rw [I.ln]; omega
      refine ⟨_, rfl, k L H' rows ?_ I.sto hL ⟨L, acc, rfl, by rw [cut_ne (Ne.symm nst)]; exact I.at_, pImp I.pr fun _ _ r => mono_L mono_Q _ _ _ _ ?_ r⟩ e5 fun q hq => ⟨(I.bd q hq).1, (I.bd q hq).2.mono (bb_797 _ (by omega))⟩⟩
      · have f2 := I.off
        have : Same (cut H st) (cut (cut H' L) st) := by
          unfold Off2 at f2
          rw [cut_none hL] at f2; exact f2
        rw [cut_comm] at this
        exact this.trans (same_cut _ _)
      · rw [cut_comm]; exact same_cut _ _
end
end K4
/-! K37: the law's equals. -/
namespace K4
open PySem PySem.Spec PyProof.Rows L2 StX LamX
section
variable {P : Program} {w : World} {K : PySem.W.Frag} {mg : Str → Option Value} {base : Heap} {C_Table C_Span : Addr}
def spEquals (CS CT : Addr) : L2.Sp := fun vs H Q _ => ∃ (a : Addr) (v : V) (d : Int × List (List Rat)) (due : Bool), vs = [.ref a, v, .bl due] ∧ isSpan CS CT H (.ref a) d ∧ ((∃ d', isSpan CS CT H v d' ∧ due = decide (d = d')) ∨ (∃ b xs, v = .ref b ∧ H b = some (.lst xs)) ∧ due = false) ∧ ∀ H', Same H H' → Q (.bl true) H'
theorem sc__law_equals : FnScope ["_law_span", "_law_other", "_law_due"] ["_law_span", "_law_other", "_law_due"] (defScope s__law_equals) := ⟨rfl, rfl, rfl, by decide +kernel, rfl, by decide +kernel, by decide +kernel⟩

theorem ok__law_equals {g : Addr} (D : Glo K mg "_law_equals" "_law_equals" s__law_equals) (hSe : PySem.W.findIn K (.ref C_Span) "__eq__" = some (some (.ref g))) (hSf : PySem.W.isFn K (.ref g) = true) (hSn : PySem.W.findIn K (.ref C_Span) "__ne__" = some (some (.builtin "object.__ne__"))) (hSm : PySem.W.mroIn K C_Span (.type "object") = some true)
    (nfS : PySem.W.notFirst K C_Span (.ref C_Span) = true) (nfL : PySem.W.notFirst K C_Span (.type "list") = true) (ok_Seq : FnR P w K mg base CX0 36 g (spSpanEq C_Span C_Table)) (ok__law_same : Cal P w K mg base CX0 35 "_law_same" spSame) : Cal P w K mg base CX0 39 "_law_equals" (spEquals C_Span C_Table) := by
  refine D.cal sc__law_equals (fun _ _ _ _ _ _ us hl => match us, hl with | [_, _, _], _ => rfl) (fun vs H Q E h => ?_) (fun f cdv A outer s H vs Q E hr h => ?_)
  · obtain ⟨a, v, d, due, rfl, _⟩ := h; rfl
  · obtain ⟨a, v, d, due, rfl, hs, hk, k⟩ := h
    obtain ⟨a', dx, b, ax, e, ha, hq⟩ := id hs
    cases e
    have ho : ∃ tb, Oth K H v tb ∧ PySem.W.notFirst K C_Span tb = true := by
      rcases hk with ⟨d', ⟨a2, dx2, b2, ax2, rfl, ha2, _⟩, _⟩ | ⟨⟨b2, xs, rfl, hb2⟩, _⟩
      · exact ⟨_, .ins ha2, nfS⟩
      · exact ⟨_, .lst hb2, nfL⟩
    obtain ⟨tb, ho, hn⟩ := ho
    have sp : ∀ (Q : VK) (E : XK), Q (.bl due) H → spSpanEq C_Span C_Table [.ref a, v] H Q E := fun Q E q => by
      refine ⟨a, v, d, rfl, hs, ?_⟩
      rcases hk with ⟨d', h1, rfl⟩ | ⟨⟨b2, xs, rfl, hb2⟩, rfl⟩
      · exact .inl ⟨d', h1, q⟩
      · exact .inr ⟨b2, xs, rfl, hb2, q⟩
    refine ⟨_, (pss_one (ps_ret (pe_cal ok__law_same (hr.mono (by decide)) (pa_cons (pe_tup (pa_cons (pe_cmpR (op_eqO hSe hSf ok_Seq (hr.mono (by decide)) pass0) (pv 0) (pv 1) (nomark _)) (pa_cons (pe_cmpR (op_neO hSe hSf hSn hSm ok_Seq (hr.mono (by decide))) (pv 0) (pv 1) (nomark _)) pa_nil))) (pa_cons (pe_tup (pa_cons (pv 2) (pa_cons (pe_not (pv 2)) pa_nil))) pa_nil))))), ?_⟩
    refine ⟨_, rfl, _, rfl, a, dx, _, tb, rfl, ha, ho, hn, sp _ _ ?_⟩
    refine ⟨_, rfl, _, rfl, a, dx, _, tb, rfl, ha, ho, hn, sp _ _ ⟨_, rfl, by show 2 ≤ sizeLine; decide, fun t1 ht1 => ?_⟩⟩
    have s1 : Same H (upd H t1 (.tup [.bl due, .bl (!due)])) := same_upd ht1
    refine ⟨_, rfl, _, rfl, due, rfl, by show 2 ≤ sizeLine; decide, fun t2 ht2 => ?_⟩
    have s2 : Same (upd H t1 (.tup [.bl due, .bl (!due)])) (upd (upd H t1 (.tup [.bl due, .bl (!due)])) t2 (.tup [.bl due, .bl (!due)])) := same_upd ht2
    refine ⟨t1, t2, _, rfl, s2 _ _ upd_same, upd_same, fun y hy => ?_, by show 2 ≤ 100; decide, k _ (s1.trans s2)⟩
    simp only [List.mem_cons, List.not_mem_nil, or_false] at hy
    rcases hy with rfl | rfl <;> trivial
end
end K4
/-! K38: calls of methods and classmethods, what a try lets through. -/
namespace K4
open PySem PySem.Spec PyProof.Rows L2 StX LamX
section
variable {X : Cx} {CX : CXT} {k : Nat} {f C : Addr} {sp : L2.Sp} {E : XK} {m : Str} {pos apos : Pos} {e o : Expr} {es : List Expr} {ta : TE} {t : TA}
theorem passL {W : WX} (tk : Takes X W) : Passes (L2.CX X.prog X.w) X (fun cls d H => ∀ σ : L2.St, σ.length = X.N.length → W cls d σ H) :=
  fun _ σ _ _ e s' I c => tk e s' (XE.of_call I (fun _ _ _ h => h σ I.len) c)
/-- o.m(e, ..), an own method -/
def tMethR (C : Addr) (m : Str) (sp : L2.Sp) (E : XK) (ta : TE) (t : TA) : TE := fun σ H Q => ta σ H fun x H1 => ∃ a dx fs, x = .ref a ∧ H1 a = some (.ins C dx fs) ∧ fs.lookup m = none ∧ t σ H1 fun vs H2 => sp (.ref a :: vs) H2 Q E
theorem pe_methR {pl : Sem Bool} (he : PE X o ta) (c : Cls X.K C) (hm : Meth X.K C m f) (F : FnR X.prog X.w X.K X.mg X.base CX k f sp) (hr : Room k X.A) (hx : Passes CX X E) (ha : PA X (e :: es) t)
    (hst : starEach (e :: es) X.env = (false, eval e X.env) :: starEach es X.env := by rfl) (hpl : (backTo pos (starEach es X.env)).any (·.1) = false := by rfl)
    (ht : eval (.Call (.Attribute o m apos) (e :: es) [] pos) X.env = (do
      let ov ← eval o X.env
      standAt apos.atName
      let (f, first) ← holding [ov] (getMethod ov m pl)
      callWith pos f first (backTo pos (starEach (e :: es) X.env)) (backToKw pos (keywordEach [] X.env))) := by rfl) :
    PE X (.Call (.Attribute o m apos) (e :: es) [] pos) (tMethR C m sp E ta t) := by
  refine ⟨fun pins s σ H Q I h => ?_⟩
  refine PySem.W.methodCall_KW (pl := pl) (thn (he.run pins s σ H _ I h) fun u s1 ⟨x, H1, I1, rx, a, dx, fs, ex, ea, l, q⟩ => ?_) ht
  subst ex
  obtain rfl : u = Value.ref a := rx
  refine getmeth_ok I1 ea c hm l ?_
  refine PySem.W.callWith_K (first := [.ref a]) (h₀ := X.base) I.ok.mod.kin hm.kp (thn (ha.run pos pins s1 σ H1 _ I1 q) fun us s2 ⟨vs, H2, I2, r, q2⟩ => ⟨I2.kIn, ?_⟩) hst hpl
  exact wpAny_call (run_fnR (us := .ref a :: us) (vs := .ref a :: vs) F hr hx I2 (.cons rfl r) q2)
/-- C.m(e, ..), a classmethod -/
def tCM (C : Addr) (sp : L2.Sp) (E : XK) (ta : TE) (t : TA) : TE := fun σ H Q => ta σ H fun x H1 => x = .ref C ∧ t σ H1 fun vs H2 => sp (.ref C :: vs) H2 Q E
theorem pe_cm (he : PE X o ta) (c : CalC X.prog X.w X.K X.mg X.base CX k C m sp) (hr : Room k X.A) (hx : Passes CX X E) (ha : PA X (e :: es) t) {pl : Sem Bool}
    (hst : starEach (e :: es) X.env = (false, eval e X.env) :: starEach es X.env := by rfl) (hpl : (backTo pos (starEach es X.env)).any (·.1) = false := by rfl)
    (ht : eval (.Call (.Attribute o m apos) (e :: es) [] pos) X.env = (do
      let ov ← eval o X.env
      standAt apos.atName
      let (f, first) ← holding [ov] (getMethod ov m pl)
      callWith pos f first (backTo pos (starEach (e :: es) X.env)) (backToKw pos (keywordEach [] X.env))) := by rfl) :
    PE X (.Call (.Attribute o m apos) (e :: es) [] pos) (tCM C sp E ta t) := by
  obtain ⟨mc, p, g, h1, h2, F⟩ := c.ok
  exact ClX.pe_cmeth he h1 h2 F hr hx ha hst hpl ht
end
theorem CalC.calm {P : Program} {w : World} {K : PySem.W.Frag} {mg : Str → Option Value} {base : Heap} {k : Nat} {C : Addr} {m : Str} {sp : L2.Sp} (c : CalC P w K mg base (L2.CX P w) k C m sp) : CalC P w K mg base CX0 k C m (calmSp sp) := by
  obtain ⟨mc, p, g, h1, h2, F⟩ := c.ok
  exact ⟨mc, p, g, h1, h2, FnR.calm F⟩
end K4
/-! K39: the law's parted. -/
namespace K4
open PySem PySem.Spec PyProof.Rows L2 StX LamX
open M4 (Bd BQ dj Canon canonN lotsOf)
/-! ### addresses that are ours alone -/
def hide (ls : List Addr) (H : Hp) : Hp := fun b => if b ∈ ls then none else H b
theorem hide_some {ls : List Addr} {H : Hp} {b : Addr} {o : HO} (h : hide ls H b = some o) : b ∉ ls ∧ H b = some o := by
  unfold hide at h
  split at h
  · cases h
  · exact ⟨‹_›, h⟩
theorem hide_at {ls : List Addr} {H : Hp} {b : Addr} (h : b ∉ ls) : hide ls H b = H b := if_neg h
theorem hide_nil (H : Hp) : hide [] H = H := by funext b; unfold hide; simp
theorem hide_cons (a : Addr) (ls : List Addr) (H : Hp) : hide (a :: ls) H = cut (hide ls H) a := by
  funext b
  by_cases e : b = a
  · subst e; rw [cut_same]; unfold hide; simp
  · rw [cut_ne e]; unfold hide; simp [e]
theorem hide_one (a : Addr) (H : Hp) : hide [a] H = cut H a := by rw [hide_cons, hide_nil]
theorem same_hide (ls : List Addr) (H : Hp) : Same (hide ls H) H := fun _ _ h => (hide_some h).2
theorem hide_mono {ls : List Addr} {H H' : Hp} (s : Same H H') : Same (hide ls H) (hide ls H') := fun b o h => by
  obtain ⟨n, e⟩ := hide_some h
  rw [hide_at n]; exact s b o e
theorem hide_ext {ls : List Addr} {H H' : Hp} (s : ExtN H H') : ExtN (hide ls H) (hide ls H') := fun b o h n => by
  obtain ⟨n', e⟩ := hide_some h
  rw [hide_at n']; exact s b o e n
theorem hide_upd {ls : List Addr} {H : Hp} {a : Addr} {o : HO} (h : a ∈ ls) : hide ls (upd H a o) = hide ls H := by
  funext b
  by_cases e : b ∈ ls
  · unfold hide; rw [if_pos e, if_pos e]
  · rw [hide_at e, hide_at e, upd_ne (fun z => e (by rw [z]; exact h))]
theorem hide_stays {ls : List Addr} {st : Addr} {H H' : Hp} (h : st ∈ ls) (s : Stays st H H') : Same (hide ls H) (hide ls H') := fun b o e => by
  obtain ⟨n, e⟩ := hide_some e
  have nb : b ≠ st := fun z => n (z ▸ h)
  rw [hide_at n]
  exact (cut_some (s b o (by rw [cut_ne nb]; exact e))).2
theorem hide_none {ls : List Addr} {a : Addr} {H : Hp} (h : H a = none) : hide (a :: ls) H = hide ls H := by
  funext b
  unfold hide
  by_cases e : b = a
  · subst e; simp [h]
  · simp [e]
/-- every one of them is a list -/
def Lists (ls : List Addr) (H : Hp) : Prop := ∀ a ∈ ls, ∃ xs, H a = some (.lst xs)
theorem off_hide {δ : Type} {R : RelH δ} (m : OffL R) {H : Hp} {v : V} {d : δ} : ∀ {ls : List Addr}, Lists ls H → R H v d → R (hide ls H) v d
  | [], _, r => by rw [hide_nil]; exact r
  | a :: ls, hl, r => by
    have ih := off_hide m (fun b hb => hl b (List.mem_cons_of_mem _ hb)) r
    rw [hide_cons]
    obtain ⟨xs, hx⟩ := hl a List.mem_cons_self
    by_cases e : a ∈ ls
    · rw [cut_none (by unfold hide; rw [if_pos e])]; exact ih
    · exact m _ _ xs _ _ (by rw [hide_at e]; exact hx) ih
theorem off_hideL {δ : Type} {R : RelH δ} (m : OffL R) {H : Hp} {p : Addr} {ds : List δ} {ls : List Addr} (hl : Lists ls H) (n : p ∉ ls) (h : isL R H (.ref p) ds) : isL R (hide ls H) (.ref p) ds := by
  obtain ⟨a, vs, e, ha, pp⟩ := h
  cases e
  exact ⟨p, vs, rfl, by rw [hide_at n]; exact ha, pImp pp fun _ _ r => off_hide m hl r⟩
theorem offL_N : OffL isN := fun _ _ _ _ _ _ h => h
theorem offL_Par {CP : Addr} : OffL (isPar CP) := fun H x xs v d hx ⟨a, dx, t1, t2, e, h, q1, q2⟩ => ⟨a, dx, t1, t2, e, by rw [cut_ne (fun z => by rw [z, hx] at h; cases h)]; exact h, offL_T offL_N _ _ _ _ _ hx q1, offL_T (offL_T offL_N) _ _ _ _ _ hx q2⟩
theorem offL_Span {CS CT : Addr} : OffL (isSpan CS CT) := fun H x xs v d hx ⟨a, dx, b, ax, e, h, q⟩ => ⟨a, dx, b, ax, e, by rw [cut_ne (fun z => by rw [z, hx] at h; cases h)]; exact h, offL_T offL_Tab _ _ _ _ _ hx q⟩
theorem Lists.same {ls : List Addr} {H H' : Hp} (h : Lists ls H) (s : Same H H') : Lists ls H' := fun a ha => let ⟨xs, e⟩ := h a ha; ⟨xs, s _ _ e⟩
theorem Lists.upd {ls : List Addr} {H : Hp} {a : Addr} {xs : List V} (h : Lists ls H) : Lists ls (upd H a (.lst xs)) := fun b hb => by
  by_cases e : b = a
  · subst e; exact ⟨xs, upd_same⟩
  · obtain ⟨ys, hy⟩ := h b hb
    exact ⟨ys, by rw [upd_ne e]; exact hy⟩
theorem Lists.new {ls : List Addr} {H : Hp} {p : Addr} (h : Lists ls H) (hp : H p = none) : p ∉ ls := fun z => by
  obtain ⟨xs, e⟩ := h p z
  rw [hp] at e; cases e
theorem Lists.ext {ls : List Addr} {H H' : Hp} (h : Lists ls H) (s : ExtN H H') : Lists ls H' := fun a ha => let ⟨xs, e⟩ := h a ha; ⟨xs, s _ _ e (fun _ z => by cases z)⟩
/-- the marks as rows of ratios -/
def markRows (pars : List (List Nat)) : List (List Rat) := (marksAll pars).map fun v => v.map fun (z : Int) => (z : Rat)
/-- what the mathematics says of partings -/
def PartMath : Prop := ∀ (n : Nat) (pars : List (List Nat)), 1 ≤ n → n ≤ 6 → pars.length ≤ 3 → (∀ ns ∈ pars, Canon ns ∧ ns.length = n) → ∀ rows1, rows1.Perm (M4.elim (marksAll pars)) → M4.Srt rows1 → (∃ n b r, GoodT n b r (rowTabs rows1)) ∧ ∀ rows, SpanOf (rowTabs rows1) rows → ∃ b a, SpanOk n b a (M4.ratRows rows) (markRows pars)
theorem Sto.keepN {c : Addr} {ns : List Int} {H H' : Hp} {st : Addr} (S : Sto c ns H st) (s : ExtN H H') : Sto c ns H' st := by
  obtain ⟨p, cnt, cur, seed, turn, h, hc, r⟩ := S
  exact ⟨p, cnt, cur, seed, turn, s _ _ h (fun _ z => by cases z), ExtN.cut s st _ _ hc (fun _ z => by cases z), r⟩
theorem hide_sub (a : Addr) (ls : List Addr) (H : Hp) : Same (hide (a :: ls) H) (hide ls H) := by rw [hide_cons]; exact same_cut _ _
/-- the partings and marks so far -/
structure PInv (CP st L1 L2 c : Addr) (ns : List Int) (n i : Nat) (H H' : Hp) (pars : List (List Nat)) (pvs mvs : List V) : Prop where
  a1 : H' L1 = some (.lst pvs)
  a2 : H' L2 = some (.lst mvs)
  sto : Sto c ns H' st
  off : Same (hide [st, L1, L2] H) (hide [st, L1, L2] H')
  pr : Paired (fun ns v => isPar CP (hide [st, L1, L2] H') v ns) pars pvs
  mr : Paired (fun q v => isL isQ (hide [st, L1, L2] H') v q) (markRows pars) mvs
  ln : pars.length = i
  ok : ∀ ns ∈ pars, Canon ns ∧ ns.length = n
theorem PInv.step {CP st L1 L2 c : Addr} {ns : List Int} {n i : Nat} {H H' H2 : Hp} {pars : List (List Nat)} {pvs mvs : List V} (I : PInv CP st L1 L2 c ns n i H H' pars pvs mvs) (h1 : H2 L1 = some (.lst pvs)) (h2 : H2 L2 = some (.lst mvs)) (h3 : Sto c ns H2 st) (s : Same (hide [st, L1, L2] H') (hide [st, L1, L2] H2)) : PInv CP st L1 L2 c ns n i H H2 pars pvs mvs :=
  ⟨h1, h2, h3, I.off.trans s, pImp I.pr fun _ _ r => mono_Par _ _ _ _ s r, pImp I.mr fun _ _ r => mono_L mono_Q _ _ _ _ s r, I.ln, I.ok⟩
theorem PInv.same {CP st L1 L2 c : Addr} {ns : List Int} {n i : Nat} {H H' H2 : Hp} {pars : List (List Nat)} {pvs mvs : List V} (I : PInv CP st L1 L2 c ns n i H H' pars pvs mvs) (s : Same H' H2) : PInv CP st L1 L2 c ns n i H H2 pars pvs mvs :=
  I.step (s _ _ I.a1) (s _ _ I.a2) (I.sto.keep s) (hide_mono s)
theorem PInv.lists {CP st L1 L2 c : Addr} {ns : List Int} {n i : Nat} {H H' : Hp} {pars : List (List Nat)} {pvs mvs : List V} (I : PInv CP st L1 L2 c ns n i H H' pars pvs mvs) : Lists [st, L1, L2] H' := fun a ha => by
  simp only [List.mem_cons, List.not_mem_nil, or_false] at ha
  rcases ha with rfl | rfl | rfl
  · exact I.sto.some
  · exact ⟨_, I.a1⟩
  · exact ⟨_, I.a2⟩
theorem marksAll_snoc (pars : List (List Nat)) (ns : List Nat) : markRows (pars ++ [ns]) = markRows pars ++ (M4.marksOf ns).map fun v => v.map fun (z : Int) => (z : Rat) := by
  unfold markRows marksAll
  rw [List.flatMap_append, List.map_append]
  simp
theorem nvs_fix {ls : List Int} : ∃ l2 : List Int, nvs (canonN ls) = l2.map V.int ∧ canonN l2 = canonN ls ∧ l2.length = ls.length := by
  refine ⟨(canonN ls).map fun (n : Nat) => (n : Int), ?_, M4.canonN_fix (M4.canon_canonN ls), by rw [List.length_map, M4.canonN_len]⟩
  unfold nvs
  rw [List.map_map]; rfl
theorem marks_get {ns : List Nat} (hC : Canon ns) {j : Nat} {l : List Nat} (hl : (lotsOf ns)[j]? = some l) : (M4.marksOf ns)[j]? = some ((List.range ns.length).map fun p => if p ∈ l then 1 else 0) := by
  unfold M4.marksOf
  rw [List.getElem?_map, hl]
  show some (M4.markOf ns l) = _
  rw [M4.mark_eq hC (List.mem_of_getElem? hl)]
theorem marksAll_len {n : Nat} : ∀ pars : List (List Nat), (∀ ns ∈ pars, ns.length = n) → (marksAll pars).length ≤ pars.length * n
  | [], _ => by simp [marksAll]
  | ns :: pars, h => by
    have ih := marksAll_len pars fun u hu => h u (List.mem_cons_of_mem _ hu)
    have h1 := marksOf_len ns
    have h2 := h ns List.mem_cons_self
    unfold marksAll at *
    rw [List.flatMap_cons, List.length_append, List.length_cons, Nat.add_mul]
    omega
theorem inV_nvs {l : List Nat} {j : Nat} : inV (.int (j : Int)) (nvs l) = decide (j ∈ l) := by
  unfold inV nvs
  rw [List.any_map, Bool.eq_iff_iff, List.any_eq_true, decide_eq_true_iff]
  constructor
  · rintro ⟨x, hx, h⟩
    have : eqV (V.int (x : Int)) (V.int (j : Int)) = true := h
    unfold eqV at this
    simp at this
    have e : x = j := by omega
    rw [← e]; exact hx
  · intro h
    exact ⟨j, h, by show eqV (V.int (j : Int)) (V.int (j : Int)) = true; unfold eqV; simp⟩
theorem tabs_cut {T : List (Addr × Str)} {H : Hp} {x : Addr} {xs : List V} (hx : H x = some (.lst xs)) (h : Tabs T H) : Tabs T (cut H x) := fun p hp => by
  obtain ⟨ps, h1, h2, h3⟩ := h p hp
  refine ⟨ps, by rw [cut_ne (fun z => by rw [z, hx] at h1; cases h1)]; exact h1, h2, fun pos cv hc => ?_⟩
  obtain ⟨c, e1, e2⟩ := h3 pos cv hc
  refine ⟨c, e1, ?_⟩
  rw [cut_ne (fun z => by
    rw [z, hx] at e2
    unfold CodeO at e2
    cases e2)]
  exact e2
theorem badN_ok {n : Nat} {pars : List (List Nat)} (h : ∀ ns ∈ pars, ns.length = n) : badN (n : Int) pars = none := by
  unfold badN
  rw [List.find?_eq_none]
  intro m hm
  obtain ⟨ns, hns, rfl⟩ := List.mem_map.mp hm
  rw [h ns hns]; simp
section
variable {P : Program} {w : World} {K : PySem.W.Frag} {mg : Str → Option Value} {base : Heap} {C_NoPlots C_TooMany C_UnlikePlots C_Table C_Span C_Parting P0 : Addr}
def spParted (CP P0 : Addr) : L2.Sp := fun vs H Q _ => ∃ (st : Addr) (n : Nat) (c : Addr) (ns : List Int), vs = [.ref st, .int n] ∧ Sto c ns H st ∧ 1 ≤ n ∧ n ≤ 6 ∧ Tabs (lamT P0) H ∧
  ∀ p H' pars, ExtN (cut H st) (cut H' st) → Sto c ns H' st → Tabs (lamT P0) H' → isL (isPar CP) (cut H' st) (.ref p) pars → pars.length ≤ 3 → (∀ ns ∈ pars, Canon ns ∧ ns.length = n) → Q (.ref p) H'
theorem sc__law_parted : FnScope ["_law_store_here", "_law_plots", "_law_partings", "_law_marks", "_law_k", "_law_names", "_law_lot", "_law_plot", "_law_p"] ["_law_store_here", "_law_plots"] (defScope s__law_parted) := ⟨rfl, rfl, rfl, by decide +kernel, rfl, by decide +kernel, by decide +kernel⟩

theorem ok__law_parted (HM : PartMath) (D : Glo K mg "_law_parted" "_law_parted" s__law_parted) (c_Span : mg "Span" = some (.ref C_Span)) (ok__law_take : Cal P w K mg base CX0 35 "_law_take" spTake) (ok__law_canon : Cal P w K mg base CX0 33 "_law_canon" spCanonL) (ok__law_lots : Cal P w K mg base CX0 33 "_law_lots" spLotsL) (ok_Parting : CalM P w K mg base CX0 39 "Parting" C_Parting (spParting_init C_Parting))
    (ok_of_partings : CalC P w K mg base (L2.CX P w) 44 C_Span "of_partings" (spOfPar C_Span C_Table C_Parting C_NoPlots C_TooMany C_UnlikePlots P0)) (ok__law_isspan : Cal P w K mg base CX0 45 "_law_isspan" (spIsspan C_Span C_Table)) (T_int : mg "int" = none) (T_list : mg "list" = none) (T_range : mg "range" = none) : Cal P w K mg base CX0 48 "_law_parted" (spParted C_Parting P0) := by
  refine D.cal sc__law_parted (fun _ _ _ _ _ _ us hl => match us, hl with | [_, _], _ => rfl) (fun vs H Q E h => ?_) (fun f cdv A outer s H vs Q E hr h => ?_)
  · obtain ⟨a, b, c, ns, rfl, _⟩ := h; rfl
  · obtain ⟨st, n, c, ns, rfl, S, n1, n6, hT, k⟩ := h
    refine ⟨_, (pss_cons (ps_set (i := 2) sc__law_parted.nd rfl (by first | exact Or.inl rfl | exact Or.inr rfl) (pe_lst pa_nil))
      (pss_cons (ps_set (i := 3) sc__law_parted.nd rfl (by first | exact Or.inl rfl | exact Or.inr rfl) (pe_lst pa_nil))
      (pss_cons (ps_for PassesOwn.never rfl (pi_range1 (by rfl) T_range (pa_cons (pe_cal ok__law_take (hr.mono (by decide)) (pa_cons (pv 0) (pa_cons pe_int pa_nil))) pa_nil)) (pg_name (i := 4) sc__law_parted.nd rfl (by first | exact Or.inl rfl | exact Or.inr rfl)) (pss_cons (ps_set (i := 5) sc__law_parted.nd rfl (by first | exact Or.inl rfl | exact Or.inr rfl) (pe_cal ok__law_canon (hr.mono (by decide)) (pa_cons (pe_lc (own := [("_law_plot", 7)]) (tt := tYes) (g := (gName 7)) rfl sc__law_parted.nd (pi_range1 (by rfl) T_range (pa_cons (pv 1) pa_nil)) (blkOk_by (N := ["_law_store_here", "_law_plots", "_law_partings", "_law_marks", "_law_k", "_law_names", "_law_lot", "_law_plot", "_law_p"]) (sc := defScope s__law_parted) (by decide +kernel)) (fun _ _ _ _ _ => (pg_name (i := 7) sc__law_parted.nd rfl (by first | exact Or.inl rfl | exact Or.inr rfl))) (fun _ _ _ _ _ => pts_nil) (fun _ _ _ _ _ => (pe_cal ok__law_take (hr.mono (by decide)) (pa_cons (pv 0) (pa_cons pe_int pa_nil))))) pa_nil)))
      (pss_cons (ps_expr (pe_bm PySem.F.plainAttrs_list PySem.F.slot_list_append PySem.F.type_list_append mt_append (pv 2) (pa_cons (pe_mk ok_Parting (hr.mono (by decide)) (pa_cons (pe_callTy (call_listK K) (by rfl) T_list b_list (pa_cons (pv 5) pa_nil)) pa_nil)) pa_nil)))
      (pss_one (ps_for PassesOwn.never rfl (pi_tupK K (pe_cal ok__law_lots (hr.mono (by decide)) (pa_cons (pv 5) pa_nil))) (pg_name (i := 6) sc__law_parted.nd rfl (by first | exact Or.inl rfl | exact Or.inr rfl)) (pss_one (ps_expr (pe_bm PySem.F.plainAttrs_list PySem.F.slot_list_append PySem.F.type_list_append mt_append (pv 3) (pa_cons (pe_lc (own := [("_law_p", 8)]) (tt := tYes) (g := (gName 8)) rfl sc__law_parted.nd (pi_range1 (by rfl) T_range (pa_cons (pv 1) pa_nil)) (blkOk_by (N := ["_law_store_here", "_law_plots", "_law_partings", "_law_marks", "_law_k", "_law_names", "_law_lot", "_law_plot", "_law_p"]) (sc := defScope s__law_parted) (by decide +kernel)) (fun _ _ _ _ _ => (pg_name (i := 8) sc__law_parted.nd rfl (by first | exact Or.inl rfl | exact Or.inr rfl))) (fun _ _ _ _ _ => pts_nil) (fun _ _ _ _ _ => (pe_tup (pa_cons (pe_callTy call_int1 (by rfl) T_int b_int (pa_cons (pe_cmpR (op_inK K) (pv 8) (pv 6) (by rfl)) pa_nil)) (pa_cons pe_int pa_nil))))) pa_nil)))))))))
      (pss_cons (ps_if (pt_val (pe_cal ok__law_isspan (hr.mono (by decide)) (pa_cons (pe_cm (pe_glob (v := .ref C_Span) rfl c_Span rfl) ok_of_partings.calm (hr.mono (by decide)) pass0 (pa_cons (pv 1) (pa_cons (pv 2) pa_nil))) (pa_cons (pv 3) (pa_cons (pv 1) pa_nil))))) (pss_one (ps_ret (pv 2))) pss_nil)
      (pss_one (ps_ret pe_non)))))), ?_⟩
    refine ⟨Nat.zero_le _, fun L1 hL1 => ?_⟩
    have s1 : Same H (upd H L1 (.lst [])) := same_upd hL1
    refine gn ?_
    dsimp only
    refine ⟨Nat.zero_le _, fun L2 hL2 => ?_⟩
    have s2 : Same (upd H L1 (.lst [])) (upd (upd H L1 (.lst [])) L2 (.lst [])) := same_upd hL2
    obtain ⟨ne1, nc1⟩ := S.ne hL1
    obtain ⟨ne2, nc2⟩ := (S.keep s1).ne hL2
    have n12 : L2 ≠ L1 := new_ne upd_same hL2
    have S2 := (S.keep s1).keep s2
    have h1 : (upd (upd H L1 (.lst [])) L2 (.lst [])) L1 = some (.lst []) := s2 _ _ upd_same
    refine gn ?_
    dsimp only
    refine ⟨_, rfl, st, 4, c, ns, rfl, S2, by decide, fun z H3 z0 z4 s3 S3 => ?_⟩
    refine ⟨z.toNat, by rw [Int.toNat_of_nonneg z0], by omega, by omega, for_it (walk_range (lo := 0)) (fun i σ H' => ∃ o4 o5 o6 pars pvs mvs, σ = [some (.ref st), some (.int n), some (.ref L1), some (.ref L2), o4, o5, o6, none, none] ∧ PInv C_Parting st L1 L2 c ns n i H H' pars pvs mvs)
      ⟨none, none, none, [], [], [], rfl, stays_at s3 (Ne.symm ne1) h1, stays_at s3 (Ne.symm ne2) upd_same, S3, (hide_mono (s1.trans s2)).trans (hide_stays List.mem_cons_self s3), .nil, .nil, rfl, fun _ z => by simp at z⟩ (fun _ _ _ _ _ => trivial) ?_ ?_⟩
    · rintro i x σ H4 H5 hi ⟨o4, o5, o6, pars, pvs, mvs, rfl, I⟩ y
      obtain ⟨rfl, ex⟩ := y
      subst ex
      refine gn ?_
      dsimp only
      have hst : st ∈ [st, L1, L2] := List.mem_cons_self
      refine ⟨_, rfl, n, rfl, by omega, by omega, fun D hD => out_it (walk_range (lo := 0)) (fun j H' => Same (hide [st, L1, L2] H5) (hide (D :: [st, L1, L2]) H') ∧ H' L1 = some (.lst pvs) ∧ H' L2 = some (.lst mvs) ∧ Sto c ns H' st ∧ ∃ zs : List Int, H' D = some (.lst (zs.map V.int)) ∧ zs.length = j)
        ⟨by rw [hide_upd List.mem_cons_self, hide_none hD]; exact Same.refl _, same_upd hD _ _ I.a1, same_upd hD _ _ I.a2, I.sto.keep (same_upd hD), [], upd_same, rfl⟩ (fun _ _ _ _ => trivial) (fun j x H6 H7 hj ⟨f, g1, g2, S6, zs, hz, hzl⟩ y => ?_) (fun H6 ⟨f, g1, g2, S6, zs, hz, hzl⟩ => ?_)⟩
      · obtain ⟨rfl, ey⟩ := y
        subst ey
        obtain ⟨nD1, nD2⟩ := I.sto.ne hD
        have nD3 : D ≠ L1 := new_ne I.a1 hD
        have nD4 : D ≠ L2 := new_ne I.a2 hD
        refine ⟨rfl, _, rfl, st, 3, c, ns, rfl, S6, by decide, fun u H8 u0 u3 s8 S8 => ?_⟩
        refine ⟨_, stays_at s8 (Ne.symm nD1) hz, by rw [List.length_map]; have := small_line (show zs.length + 1 ≤ 1000 by omega); exact this, ?_⟩
        refine ⟨?_, by rw [upd_ne (Ne.symm nD3)]; exact stays_at s8 (Ne.symm ne1) g1, by rw [upd_ne (Ne.symm nD4)]; exact stays_at s8 (Ne.symm ne2) g2, S8.upd nD1 (fun z => ?_), zs ++ [u], by rw [upd_same, List.map_append]; rfl, by rw [List.length_append, hzl]; rfl⟩
        · rw [hide_upd List.mem_cons_self]
          exact f.trans (hide_stays (List.mem_cons_of_mem _ hst) s8)
        · exact nD2 z
      · have I6 : PInv C_Parting st L1 L2 c ns n i H H6 pars pvs mvs := I.step g1 g2 S6 (f.trans (hide_sub _ _ _))
        have zl : zs.length = n := by omega
        refine ⟨D, zs, rfl, hz, by omega, fun p H7 s7 hp => ?_⟩
        have I7 := I6.same s7
        refine gn ?_
        dsimp only
        refine ⟨_, rfl, .inl ⟨rfl, _, SqL.of I7.a1⟩, ?_⟩
        obtain ⟨l2, el, ec, ell⟩ := nvs_fix (ls := zs)
        have hT7 : SqT K H7 p (nvs (canonN zs)) := .inl (.inl hp)
        refine ⟨_, rfl, p, _, rfl, .inr hT7, fun l hl => ?_⟩
        intro x dx hx hd hne
        have s8 : Same H7 (upd H7 l (.lst (nvs (canonN zs)))) := same_upd hl
        have nlx : l ≠ x := ne_of_none upd_same hx
        have nld : l ≠ dx := ne_of_none upd_same hd
        refine ⟨x, dx, l, l2, rfl, upd_same, by rw [cut_ne nlx, upd_ne nlx, upd_ne nld, upd_same, el], by omega, by omega, fun t1 t2 H9 s9 hx9 q1 q2 => ⟨rfl, ?_⟩⟩
        have s89 := same_made hx hd hne s9
        have s79 := s8.trans s89
        have I9 := I7.same s79
        rw [ec] at q1 q2
        have hpar : isPar C_Parting H9 (.ref x) (canonN zs) := ⟨x, dx, t1, t2, rfl, hx9, mono_T mono_N _ _ _ _ (same_cut _ _) q1, mono_TTN _ _ _ _ (same_cut _ _) q2⟩
        have pl := pLen I9.pr
        have cl : (canonN zs).length = n := by rw [M4.canonN_len]; exact zl
        refine ⟨L1, pvs, _, rfl, rfl, I9.a1, by have := small_line (show pvs.length + 1 ≤ 1000 by have := I.ln; omega); exact this, ?_⟩
        have hm1 : L1 ∈ [st, L1, L2] := by simp
        have hm2 : L2 ∈ [st, L1, L2] := by simp
        dsimp only
        have hpar9 := off_hide offL_Par I9.lists hpar
        have np1 : p ≠ L1 := fun z => by
          have e1 := I7.a1
          rw [← z, hp] at e1; cases e1
        have e10 : hide [st, L1, L2] (upd H9 L1 (.lst (pvs ++ [.ref x]))) = hide [st, L1, L2] H9 := hide_upd hm1
        refine ⟨_, rfl, p, canonN zs, rfl, by rw [upd_ne np1]; exact s79 _ _ hp, M4.canon_canonN _, by omega, fun p2 H11 s11 hp2 => ?_⟩
        obtain ⟨p2', lvs, e, h2, hlp⟩ := hp2
        cases e
        have ll := pLen hlp
        have hml : (M4.marksOf (canonN zs)).length = (lotsOf (canonN zs)).length := by unfold M4.marksOf; rw [List.length_map]
        have f9 : Same (hide [st, L1, L2] H9) (hide [st, L1, L2] H11) := by
          have := hide_mono (ls := [st, L1, L2]) s11
          rw [e10] at this; exact this
        have np2 : p2 ∉ [st, L1, L2] := fun z => by
          have I11 : ∃ xs, H11 p2 = some (.lst xs) := by
            simp only [List.mem_cons, List.not_mem_nil, or_false] at z
            rcases z with rfl | rfl | rfl
            · obtain ⟨xs, hx⟩ := (I9.sto.upd ne1 nc1 (o := .lst (pvs ++ [.ref x]))).some
              exact ⟨xs, s11 _ _ hx⟩
            · exact ⟨_, s11 _ _ upd_same⟩
            · exact ⟨_, s11 _ _ (by rw [upd_ne n12]; exact I9.a2)⟩
          obtain ⟨xs, hx⟩ := I11
          rw [h2] at hx; cases hx
        refine ⟨p2, rfl, ⟨_, .inl (.inl h2)⟩, for_it (walk_tup (xs := lvs)) (fun j σ H' => ∃ o4 o5 o6 mvs', σ = [some (.ref st), some (.int n), some (.ref L1), some (.ref L2), o4, o5, o6, none, none] ∧ H' L1 = some (.lst (pvs ++ [.ref x])) ∧ H' L2 = some (.lst mvs') ∧ Sto c ns H' st ∧ Same (hide [st, L1, L2] H11) (hide [st, L1, L2] H') ∧ Paired (fun q v => isL isQ (hide [st, L1, L2] H') v q) (markRows pars ++ ((M4.marksOf (canonN zs)).take j).map fun v => v.map fun (z : Int) => (z : Rat)) mvs')
          ⟨_, _, _, mvs, rfl, s11 _ _ upd_same, s11 _ _ (by rw [upd_ne n12]; exact I9.a2), (I9.sto.upd ne1 nc1).keep s11, Same.refl _, by rw [List.take_zero, List.map_nil, List.append_nil]; exact pImp I9.mr fun _ _ r => mono_L mono_Q _ _ _ _ f9 r⟩
          (fun j σ H' _ ⟨_, _, _, _, _, _, _, _, f, _⟩ => .inl (.inl ((same_hide _ _) _ _ (f _ _ (by rw [hide_at np2]; exact h2))))) ?_ ?_⟩
        · rintro j xl σ H12 H13 hj ⟨o4, o5, o6, mvs', rfl, g1, g2, S', f, hmk⟩ y
          obtain ⟨rfl, hxl⟩ := y
          obtain ⟨lt, hlt, rl⟩ := pGet2 hlp hxl
          have L11 : Lists [st, L1, L2] H11 := fun a ha => by
            simp only [List.mem_cons, List.not_mem_nil, or_false] at ha
            rcases ha with rfl | rfl | rfl
            · obtain ⟨xs, hx⟩ := (I9.sto.upd ne1 nc1 (o := .lst (pvs ++ [.ref x]))).some
              exact ⟨xs, s11 _ _ hx⟩
            · exact ⟨_, s11 _ _ upd_same⟩
            · exact ⟨_, s11 _ _ (by rw [upd_ne n12]; exact I9.a2)⟩
          have rl2 := mono_T mono_N _ _ _ _ (f.trans (same_hide _ _)) (off_hide (offL_T offL_N) L11 rl)
          obtain ⟨t, tvs, rfl, ht, htp⟩ := rl2
          have et : tvs = nvs lt := pEqMap htp
          subst et
          have hmg := marks_get (M4.canon_canonN zs) hlt
          have ml := pLen hmk
          refine ⟨_, rfl, .inl ⟨rfl, _, SqL.of g2⟩, ?_⟩
          refine ⟨_, rfl, n, rfl, by omega, by omega, fun M hM => lcm (walk_range (lo := 0)) (fun i H v => isQ H v (if i ∈ lt then 1 else 0)) hM (small_line (by omega)) (fun _ _ _ _ s q => mono_Q _ _ _ _ s q) (fun _ _ => trivial) (fun i y H14 H15 hi s5 o yy Q k => ?_) (fun H14 ys s14 hM' q14 => ?_)⟩
          · obtain ⟨rfl, ey⟩ := yy
            have ey' : y = V.int (i : Int) := by rw [ey]; show V.int (0 + (i : Int)) = _; rw [Int.zero_add]
            subst ey'
            obtain ⟨oD, hD⟩ := o
            have htt := (s5.trans (same_cut _ _)) _ _ ht
            refine ⟨rfl, _, rfl, _, rfl, t, _, rfl, .inr (.inl (.inl htt)), rfl, by rw [List.all_eq_true]; intro u hu; unfold nvs at hu; obtain ⟨m, _, rfl⟩ := List.mem_map.mp hu; rfl, .inr ⟨_, rfl, by show 2 ≤ sizeLine; decide, fun t2 ht2 => k _ _ (same_upd ht2) ⟨t2, rfl, ?_⟩⟩⟩
            rw [cut_ne (new_ne hD ht2), upd_same]
            show some (HO.tup [V.int (if inV (.int (i : Int)) (nvs lt) = true then 1 else 0), .int 1]) = _
            rw [inV_nvs]
            by_cases c : i ∈ lt
            · simp [c]; rfl
            · simp [c]; rfl
          · rw [Int.toNat_natCast] at q14
            have hrow : isL isQ H14 (.ref M) (((List.range (canonN zs).length).map fun p => if p ∈ lt then (1 : Int) else 0).map fun (z : Int) => (z : Rat)) := newL (n := n) hM' (by simp [cl]) (fun i d => d = if i ∈ lt then 1 else 0) (fun i d hd => by
              rw [List.getElem?_map, List.getElem?_map] at hd
              cases hr : (List.range (canonN zs).length)[i]? with
              | none => rw [hr] at hd; cases hd
              | some m =>
                rw [hr] at hd
                obtain ⟨hi, e⟩ := List.getElem?_eq_some_iff.mp hr
                rw [List.getElem_range] at e
                subst e
                have e2 : ((if i ∈ lt then (1 : Int) else 0 : Int) : Rat) = d := Option.some.inj hd
                rw [← e2]; split <;> rfl) (by exact pImp q14 fun i y r d e => by rw [e]; exact r)
            have s14' := s14
            have g2' := s14 _ _ g2
            have LM : Lists [st, L1, L2] H14 := fun a ha => by
              simp only [List.mem_cons, List.not_mem_nil, or_false] at ha
              rcases ha with rfl | rfl | rfl
              · exact (S'.keep s14).some
              · exact ⟨_, s14 _ _ g1⟩
              · exact ⟨_, g2'⟩
            have nM : M ∉ [st, L1, L2] := fun z => by
              have : Lists [st, L1, L2] H13 := fun a ha => by
                simp only [List.mem_cons, List.not_mem_nil, or_false] at ha
                rcases ha with rfl | rfl | rfl
                · exact S'.some
                · exact ⟨_, g1⟩
                · exact ⟨_, g2⟩
              exact this.new hM z
            have hrow' := off_hideL offL_Q LM nM hrow
            refine ⟨L2, mvs', _, rfl, rfl, g2', ?_, ?_⟩
            · have m1 := marksAll_len (n := n) pars fun u hu => (I.ok u hu).2
              have m2 : (markRows pars).length = (marksAll pars).length := by unfold markRows; rw [List.length_map]
              rw [List.length_append, List.length_map, List.length_take] at ml
              have m3 : pars.length * n ≤ 4 * 6 := Nat.mul_le_mul (by have := I.ln; omega) n6
              have := small_line (show mvs'.length + 1 ≤ 1000 by have := M4.canonN_len zs; have := marksOf_len (canonN zs); omega); exact this
            · refine ⟨_, _, _, mvs' ++ [.ref M], rfl, by rw [upd_ne (Ne.symm n12)]; exact s14 _ _ g1, upd_same, (S'.keep s14).upd ne2 nc2, ?_, ?_⟩
              · rw [hide_upd hm2]; exact f.trans (hide_mono s14)
              · rw [hide_upd hm2, take_succ_get hmg, List.map_append, ← List.append_assoc]
                exact pApp (pImp hmk fun _ _ r => mono_L mono_Q _ _ _ _ (hide_mono s14) r) (.cons hrow' .nil)
        · rintro σ H' ⟨o4, o5, o6, mvs', rfl, g1, g2, S', f, hmk⟩
          rw [← ll, ← hml, List.take_length] at hmk
          refine ⟨o4, o5, o6, pars ++ [canonN zs], pvs ++ [.ref x], mvs', rfl, g1, g2, S', I9.off.trans (f9.trans f), pApp (pImp I9.pr fun _ _ r => mono_Par _ _ _ _ (f9.trans f) r) (.cons (mono_Par _ _ _ _ (f9.trans f) hpar9) .nil), by rw [marksAll_snoc]; exact hmk, by rw [List.length_append, I.ln]; rfl, fun u hu => ?_⟩
          rcases List.mem_append.mp hu with hu | hu
          · exact I.ok u hu
          · rw [List.mem_singleton.mp hu]; exact ⟨M4.canon_canonN _, cl⟩
    · rintro σ H' ⟨o4, o5, o6, pars, pvs, mvs, rfl, I⟩
      have hL2n : H L2 = none := none_back s1 hL2
      have eh : hide [st, L1, L2] H = cut H st := by
        rw [hide_cons, hide_none hL1, hide_none hL2n, hide_nil]
      obtain ⟨xst, hxst⟩ := S.some
      have c0 : Same (cut H st) (hide [st, L1, L2] H') := by have := I.off; rw [eh] at this; exact this
      have c1 : Same (cut H st) (cut H' st) := by
        have e2 : Same (hide [st, L1, L2] H') (cut H' st) := fun b o h => by
          obtain ⟨n, e⟩ := hide_some h
          rw [cut_ne (fun z => n (by rw [z]; exact List.mem_cons_self))]; exact e
        exact c0.trans e2
      have T' : Tabs (lamT P0) H' := ((tabs_cut hxst hT).ext c1).ext (same_cut _ _)
      have l3 : pars.length ≤ 3 := by rw [I.ln]; omega
      have pr' : Paired (fun ns v => isPar C_Parting H' v ns) pars pvs := pImp I.pr fun _ _ r => mono_Par _ _ _ _ (same_hide _ _) r
      refine ⟨rfl, _, rfl, _, rfl, L1, n, pars, rfl, ⟨L1, pvs, rfl, I.a1, pr'⟩, fun u hu => ⟨(I.ok u hu).1, by rw [(I.ok u hu).2]; omega⟩, by omega, T', fun c => absurd c (by omega), fun _ c => absurd c (by omega), fun _ _ m hm => ?_, fun _ _ _ => ⟨by omega, fun rows1 perm srt => ?_⟩⟩
      · rw [badN_ok fun u hu => (I.ok u hu).2] at hm; cases hm
      · obtain ⟨gt, so⟩ := HM n pars n1 n6 l3 I.ok rows1 perm srt
        refine ⟨gt, fun v H2 rows eN T2 hsp hso => ?_⟩
        obtain ⟨b, a, W⟩ := so rows hso
        have hm2 : isL (isL isQ) H' (.ref L2) (markRows pars) := ⟨L2, mvs, rfl, I.a2, pImp I.mr fun _ _ r => mono_L mono_Q _ _ _ _ (same_hide _ _) r⟩
        refine ⟨_, rfl, _, rfl, v, .ref L2, n, _, _, b, a, rfl, hsp, monoN_L (monoN_L monoN_Q) _ _ _ _ eN hm2, W, fun H3 s3 => ⟨_, rfl, iteC rfl ⟨_, rfl, ?_⟩⟩⟩
        refine k L1 H3 pars (((extN_of c1).trans (ExtN.cut eN st)).trans (extN_of (Same.cut s3 st))) ((I.sto.keepN eN).keep s3) (T2.ext s3) ?_ l3 I.ok
        have e5 : ExtN (cut H' st) (cut H3 st) := (ExtN.cut eN st).trans (extN_of (Same.cut s3 st))
        have hin : isL (isPar C_Parting) (cut H' st) (.ref L1) pars := ⟨L1, pvs, rfl, by rw [cut_ne (Ne.symm ne1)]; exact I.a1, pImp I.pr fun _ _ r => mono_Par _ _ _ _ (fun b o h => by
          obtain ⟨n, e⟩ := hide_some h
          rw [cut_ne (fun z => n (by rw [z]; exact List.mem_cons_self))]; exact e) r⟩
        exact monoN_L monoN_Par _ _ _ _ e5 hin
end
end K4
/-! K40: the law's refusal. -/
namespace K4
open PySem PySem.Spec PyProof.Rows L2 StX LamX
def EL (n : Nat) (W : WX) : XK := fun cls d H => ∀ σ : L2.St, σ.length = n → W cls d σ H
theorem passE {X : Cx} {W : WX} {P : Program} {w : World} {n : Nat} (tk : Takes X W) (hp : P = X.prog) (hw : w = X.w) (hn : X.N.length = n) : Passes (L2.CX P w) X (EL n W) := by
  subst hp hw hn
  exact passL tk
section
variable {P : Program} {w : World} {K : PySem.W.Frag} {mg : Str → Option Value} {base : Heap} {C_NoPlots C_TooMany C_UnlikePlots C_InputError C_LimitError C_Table C_Span C_Parting P0 : Addr}
theorem sc__law_refusal : FnScope ["_law_kind", "_law_span", "_law_more", "e"] ["_law_kind", "_law_span", "_law_more"] (defScope s__law_refusal) := ⟨rfl, rfl, rfl, by decide +kernel, rfl, by decide +kernel, by decide +kernel⟩

/-- what a caught error gives -/
def XR (CN CM CU : Addr) (Q : VK) : XK := fun cls d H =>
  (cls = .ref CN ∧ (d = none ∨ ∃ dd fs, d = some dd ∧ H dd = some (.xd fs)) ∧ ∀ p H', Same H H' → H' p = some (.tup [.str "NoPlots", .bl true]) → Q (.ref p) H') ∨
  (∃ dd what limit, cls = .ref CM ∧ d = some dd ∧ H dd = some (.xd [("limit", limit), ("what", what)]) ∧ ∀ p H', Same H H' → H' p = some (.tup [.str "TooMany", what, limit, .bl true]) → Q (.ref p) H') ∨
  ∃ dd l r, cls = .ref CU ∧ d = some dd ∧ H dd = some (.xd [("right_plots", r), ("left_plots", l)]) ∧ ∀ p H', Same H H' → H' p = some (.tup [.str "UnlikePlots", l, r, .bl true]) → Q (.ref p) H'
def spRefusal (CS CT CP CN CM CU P0 : Addr) : L2.Sp := fun vs H Q _ => ∃ (kd : Int) (x y : V), vs = [.int kd, x, y] ∧ ∀ E : XK, (∀ cls d H', XR CN CM CU Q cls d H' → E cls d H') →
  (kd = 0 ∧ spWiden CS CT CM CU P0 [x, y] H (fun _ H' => Q .non H') E) ∨ (kd = 1 ∧ spOr CS CT CU P0 [x, y] H (fun v H' => V.non = V.non ∧ Q (.bl (decide (v = .non))) H') E) ∨ (kd = 2 ∧ spOfPar CS CT CP CN CM CU P0 [.ref CS, x, y] H (fun _ H' => Q .non H') E)
set_option maxHeartbeats 400000 in
theorem ok__law_refusal {fW g : Addr} (D : Glo K mg "_law_refusal" "_law_refusal" s__law_refusal) (c_Span : mg "Span" = some (.ref C_Span)) (cS : Cls K C_Span) (mW : Meth K C_Span "widened" fW) (ok_widened : FnR P w K mg base (L2.CX P w) 46 fW (spWiden C_Span C_Table C_TooMany C_UnlikePlots P0))
    (hsf : PySem.W.selfFirst K C_Span = true) (hor : PySem.W.findIn K (.ref C_Span) "__or__" = some (some (.ref g))) (hfn : PySem.W.isFn K (.ref g) = true) (ok_or : FnR P w K mg base (L2.CX P w) 44 g (spOr C_Span C_Table C_UnlikePlots P0))
    (c_NoPlots : mg "NoPlots" = some (.ref C_NoPlots)) (c_TooMany : mg "TooMany" = some (.ref C_TooMany)) (c_UnlikePlots : mg "UnlikePlots" = some (.ref C_UnlikePlots)) (c_InputError : mg "InputError" = some (.ref C_InputError)) (c_LimitError : mg "LimitError" = some (.ref C_LimitError)) (T_ValueError : mg "ValueError" = none) (b_ValueError : bootBuiltins "ValueError" = some (.type "ValueError")) (T_isinstance : mg "isinstance" = none) (eNN : PySem.W.exmOne K (.ref C_NoPlots) (.ref C_NoPlots) = some true) (eMN : PySem.W.exmOne K (.ref C_TooMany) (.ref C_NoPlots) = some false) (eMM : PySem.W.exmOne K (.ref C_TooMany) (.ref C_TooMany) = some true) (eUN : PySem.W.exmOne K (.ref C_UnlikePlots) (.ref C_NoPlots) = some false) (eUM : PySem.W.exmOne K (.ref C_UnlikePlots) (.ref C_TooMany) = some false) (eUU : PySem.W.exmOne K (.ref C_UnlikePlots) (.ref C_UnlikePlots) = some true) (kNI : PySem.W.kitOne K (.ref C_NoPlots) (.ref C_InputError) = some true) (kNU : PySem.W.kitOne K (.ref C_NoPlots) (.ref C_UnlikePlots) = some false) (kML : PySem.W.kitOne K (.ref C_TooMany) (.ref C_LimitError) = some true) (kMI : PySem.W.kitOne K (.ref C_TooMany) (.ref C_InputError) = some false) (kUI : PySem.W.kitOne K (.ref C_UnlikePlots) (.ref C_InputError) = some true) (kUV : PySem.W.kitOne K (.ref C_UnlikePlots) (.type "ValueError") = some true) (xN : ExcCl K C_NoPlots) (xM : ExcCl K C_TooMany) (xU : ExcCl K C_UnlikePlots) (nM1 : PySem.W.findIn K (.ref C_TooMany) "what" = some none) (nM2 : PySem.W.findIn K (.ref C_TooMany) "limit" = some none) (nU1 : PySem.W.findIn K (.ref C_UnlikePlots) "left_plots" = some none) (nU2 : PySem.W.findIn K (.ref C_UnlikePlots) "right_plots" = some none)
    (ok_of_partings : CalC P w K mg base (L2.CX P w) 44 C_Span "of_partings" (spOfPar C_Span C_Table C_Parting C_NoPlots C_TooMany C_UnlikePlots P0)) : Cal P w K mg base CX0 48 "_law_refusal" (spRefusal C_Span C_Table C_Parting C_NoPlots C_TooMany C_UnlikePlots P0) := by
  refine D.cal sc__law_refusal (fun _ _ _ _ _ _ us hl => match us, hl with | [_, _, _], _ => rfl) (fun vs H Q E h => by obtain ⟨_, _, _, rfl, _⟩ := h; rfl) (fun f cdv A outer s H vs Q E hr h => ?_)
  obtain ⟨kd, x, y, rfl, h⟩ := h
  refine ⟨_, pss_cons (ps_try_many_as (i := 3) (Wout := fun _ _ _ _ => False) rfl rfl sc__law_refusal.nd rfl rfl (fun u s' ⟨_, _, _, _, _, _, _, _, _, _, _, _, _, _, _, _, z⟩ => z.elim) (fun W pn xe tk po => pss_one (ps_if (pt_cmpR op_eq (pv 0) pe_int (nomark _)) (pss_one (ps_expr (pe_methR (pv 1) cS mW ok_widened (hr.mono (by decide)) (passE (n := 4) tk rfl rfl rfl) (pa_cons (pv 2) pa_nil))))
    (pss_one (ps_if (pt_cmpR op_eq (pv 0) pe_int (nomark _)) (pss_one (ps_ret (pe_cmpR op_isN (pe_op (op_orO hsf hor hfn ok_or (hr.mono (by decide)) (passE (n := 4) tk rfl rfl rfl)) (pv 1) (pv 2)) pe_non (nomark _)))) (pss_one (ps_expr (pe_cm (pe_glob (v := .ref C_Span) rfl c_Span rfl) ok_of_partings (hr.mono (by decide)) (passE (n := 4) tk rfl rfl rfl) (pa_cons (pv 1) (pa_cons (pv 2) pa_nil))))))))) (.cons (c := .ref C_NoPlots) ⟨rfl, by decide, .inl c_NoPlots⟩ (fun a oe cls d pn hz hv => pss_one (ps_ret (pe_tup (pa_cons pe_str (pa_cons (pe_and (pe_callB (call_isX hz hv) (by rfl) T_isinstance b_isinstance (pa_cons (pv 3) (pa_cons (pe_glob (v := .ref C_InputError) rfl c_InputError rfl) pa_nil))) (pe_one (pe_not (pe_callB (call_isX hz hv) (by rfl) T_isinstance b_isinstance (pa_cons (pv 3) (pa_cons (pe_glob (v := .ref C_UnlikePlots) rfl c_UnlikePlots rfl) pa_nil)))))) pa_nil))))) (.cons (c := .ref C_TooMany) ⟨rfl, by decide, .inl c_TooMany⟩ (fun a oe cls d pn hz hv => pss_one (ps_ret (pe_tup (pa_cons pe_str (pa_cons (pe_xf (C := C_TooMany) xM.xf nM1 hz hv (pv 3)) (pa_cons (pe_xf (C := C_TooMany) xM.xf nM2 hz hv (pv 3)) (pa_cons (pe_and (pe_callB (call_isX hz hv) (by rfl) T_isinstance b_isinstance (pa_cons (pv 3) (pa_cons (pe_glob (v := .ref C_LimitError) rfl c_LimitError rfl) pa_nil))) (pe_one (pe_not (pe_callB (call_isX hz hv) (by rfl) T_isinstance b_isinstance (pa_cons (pv 3) (pa_cons (pe_glob (v := .ref C_InputError) rfl c_InputError rfl) pa_nil)))))) pa_nil))))))) (.cons (c := .ref C_UnlikePlots) ⟨rfl, by decide, .inl c_UnlikePlots⟩ (fun a oe cls d pn hz hv => pss_one (ps_ret (pe_tup (pa_cons pe_str (pa_cons (pe_xf (C := C_UnlikePlots) xU.xf nU1 hz hv (pv 3)) (pa_cons (pe_xf (C := C_UnlikePlots) xU.xf nU2 hz hv (pv 3)) (pa_cons (pe_and (pe_callB (call_isX hz hv) (by rfl) T_isinstance b_isinstance (pa_cons (pv 3) (pa_cons (pe_glob (v := .ref C_InputError) rfl c_InputError rfl) pa_nil))) (pe_one (pe_callB (call_isX hz hv) (by rfl) T_isinstance b_isinstance (pa_cons (pv 3) (pa_cons (pe_bltn (v := .ty "ValueError") (by rfl) T_ValueError b_ValueError rfl) pa_nil))))) pa_nil))))))) .nil)))) (pss_one (ps_ret pe_non)), ?_⟩
  unfold tSeq
  dsimp only
  generalize hW : wManyAs _ _ _ _ _ = W
  have hE : ∀ cls d H', XR C_NoPlots C_TooMany C_UnlikePlots Q cls d H' → EL 4 W cls d H' := by
    intro cls d H' hx σ hl
    rw [← hW]
    obtain ⟨o0, o1, o2, o3, rfl⟩ : ∃ a b c d, σ = [a, b, c, d] := by
      match σ, hl with
      | [a, b, c, d], _ => exact ⟨a, b, c, d, rfl⟩
    rcases hx with ⟨rfl, hd, k⟩ | ⟨dd, what, limit, rfl, rfl, hdd, k⟩ | ⟨dd, l, r, rfl, rfl, hdd, k⟩
    · refine ⟨true, eNN, fun _ a ha => ?_, fun z => by cases z⟩
      refine ⟨_, rfl, C_NoPlots, _, .ref C_InputError, true, rfl, xN, hd, rfl, fun u h => h, kNI, _, rfl, iteT ?_⟩
      refine ⟨_, rfl, C_NoPlots, _, .ref C_UnlikePlots, false, rfl, xN, hd, rfl, fun u h => h, kNU, _, rfl, by show 2 ≤ sizeLine; decide, fun p hp => k p _ (same_upd hp) upd_same⟩
    · refine ⟨false, eMN, fun z => (by cases z), fun _ => ⟨true, eMM, fun _ a ha => ?_, fun z => (by cases z)⟩⟩
      have hd : (some dd : Option Addr) = none ∨ ∃ d2 fs, some dd = some d2 ∧ H' d2 = some (.xd fs) := .inr ⟨dd, _, rfl, hdd⟩
      refine ⟨_, rfl, rfl, rfl, dd, _, _, rfl, hdd, rfl, _, rfl, rfl, rfl, dd, _, _, rfl, hdd, rfl, ?_⟩
      refine ⟨_, rfl, C_TooMany, _, .ref C_LimitError, true, rfl, xM, hd, rfl, fun u h => h, kML, _, rfl, iteT ?_⟩
      refine ⟨_, rfl, C_TooMany, _, .ref C_InputError, false, rfl, xM, hd, rfl, fun u h => h, kMI, _, rfl, by show 4 ≤ sizeLine; decide, fun p hp => k p _ (same_upd hp) upd_same⟩
    · refine ⟨false, eUN, fun z => (by cases z), fun _ => ⟨false, eUM, fun z => (by cases z), fun _ => ⟨true, eUU, fun _ a ha => ?_, fun z => (by cases z)⟩⟩⟩
      have hd : (some dd : Option Addr) = none ∨ ∃ d2 fs, some dd = some d2 ∧ H' d2 = some (.xd fs) := .inr ⟨dd, _, rfl, hdd⟩
      refine ⟨_, rfl, rfl, rfl, dd, _, _, rfl, hdd, rfl, _, rfl, rfl, rfl, dd, _, _, rfl, hdd, rfl, ?_⟩
      refine ⟨_, rfl, C_UnlikePlots, _, .ref C_InputError, true, rfl, xU, hd, rfl, fun u h => h, kUI, _, rfl, iteT ?_⟩
      exact ⟨_, rfl, C_UnlikePlots, _, .type "ValueError", true, rfl, xU, hd, rfl, fun u h => h, kUV, by show 4 ≤ sizeLine; decide, fun p hp => k p _ (same_upd hp) upd_same⟩
  rcases h (EL 4 W) hE with ⟨rfl, h2⟩ | ⟨rfl, h2⟩ | ⟨rfl, h2⟩
  · refine ⟨_, rfl, rfl, _, rfl, iteC (by decide) ?_⟩
    have h0 := h2
    obtain ⟨a, t, n1, r1, tabs, e, ⟨a', dx, b, ax, e2, ha, _⟩, _⟩ := h0
    cases e
    cases e2
    exact ⟨_, rfl, a, dx, _, rfl, ha, rfl, _, rfl, h2⟩
  · refine ⟨_, rfl, rfl, _, rfl, iteN (by decide) ⟨_, rfl, rfl, _, rfl, iteC (by decide) ?_⟩⟩
    have h0 := h2
    obtain ⟨a, b, n1, n2, r1, r2, e, ⟨a', dx, b1, ax, e2, ha, _⟩, ⟨b', dy, b2, ay, e3, hb, _⟩, _⟩ := h0
    cases e
    cases e2
    cases e3
    exact ⟨_, rfl, _, rfl, a, dx, _, b, dy, _, rfl, rfl, ha, hb, h2⟩
  · refine ⟨_, rfl, rfl, _, rfl, iteN (by decide) ⟨_, rfl, rfl, _, rfl, iteN (by decide) ?_⟩⟩
    exact ⟨rfl, _, rfl, _, rfl, h2⟩
end
end K4
/-! K41: the law's refuses. -/
namespace K4
open PySem PySem.Spec PyProof.Rows L2 StX LamX
open M4 (Bd BQ dj Canon canonN lotsOf)
/-- tables of a span that may be widened by them -/
def WideOk (n : Int) (r1 tabs : List (List Rat)) : Prop := (∃ n b r, GoodT n b r tabs) ∧ ∀ rows2, SpanOf tabs rows2 → (r1 ++ M4.ratRows rows2).length ≤ 64 ∧ badT n (r1 ++ M4.ratRows rows2) = none ∧ ∃ n b r, GoodT n b r (r1 ++ M4.ratRows rows2)
theorem badT_ok {n : Nat} {tabs : List (List Rat)} (h : ∀ q ∈ tabs, q.length = n) : badT (n : Int) tabs = none := by
  unfold badT
  rw [List.find?_eq_none]
  intro m hm
  obtain ⟨ns, hns, rfl⟩ := List.mem_map.mp hm
  rw [h ns hns]; simp
theorem badT_last {n : Nat} {tabs : List (List Rat)} {q : List Rat} (h : ∀ q ∈ tabs, q.length = n) (hq : q.length ≠ n) : badT (n : Int) (tabs ++ [q]) = some (q.length : Int) := by
  have e := badT_ok h
  unfold badT at *
  rw [List.map_append, List.find?_append, e]
  have : ¬ ((q.length : Int) = (n : Int)) := by omega
  simp [this]
theorem badN_last {n : Nat} {pars : List (List Nat)} {q : List Nat} (h : ∀ q ∈ pars, q.length = n) (hq : q.length ≠ n) : badN (n : Int) (pars ++ [q]) = some (q.length : Int) := by
  have e := badN_ok h
  unfold badN at *
  rw [List.map_append, List.find?_append, e]
  have : ¬ ((q.length : Int) = (n : Int)) := by omega
  simp [this]
theorem pTake {α β : Type} {F : α → β → Prop} : ∀ (k : Nat) {l : List α} {m : List β}, Paired F l m → Paired F (l.take k) (m.take k)
  | 0, _, _, _ => by rw [List.take_zero, List.take_zero]; exact .nil
  | _ + 1, _, _, .nil => .nil
  | k + 1, _, _, .cons r t => .cons r (pTake k t)
theorem pPick {α β : Type} {F : α → β → Prop} {l : List α} {m : List β} (h : Paired F l m) : ∀ ys : List β, (∀ y ∈ ys, y ∈ m) → ∃ l', Paired F l' ys ∧ ∀ u ∈ l', u ∈ l
  | [], _ => ⟨[], .nil, fun _ z => by simp at z⟩
  | y :: ys, hy => by
    obtain ⟨l', p, q⟩ := pPick h ys fun z hz => hy z (List.mem_cons_of_mem _ hz)
    obtain ⟨i, hi⟩ := List.mem_iff_getElem?.mp (hy y List.mem_cons_self)
    obtain ⟨x, hx, r⟩ := pGet2 h hi
    refine ⟨x :: l', .cons r p, fun u hu => ?_⟩
    rcases List.mem_cons.mp hu with rfl | hu
    · exact List.mem_of_getElem? hx
    · exact q u hu
section
variable {CS CT CP CN CM CU P0 a b t : Addr} {H : Hp} {Q : VK} {n m : Int} {r1 r2 tabs : List (List Rat)} {pars : List (List Nat)}
theorem ref_un0 (hs : isSpan CS CT H (.ref a) (n, r1)) (hl : isL (isTab CT) H (.ref t) tabs) (hT : Tabs (lamT P0) H) (n1 : 1 ≤ n) (n16 : n ≤ 16) (h64 : tabs.length ≤ 64) (hb : badT n tabs = some m)
    (k : ∀ p H', Same H H' → H' p = some (.tup [.str "UnlikePlots", .int n, .int m, .bl true]) → Q (.ref p) H') : spRefusal CS CT CP CN CM CU P0 [.int 0, .ref a, .ref t] H Q E0 := by
  refine ⟨0, _, _, rfl, fun E hE => .inl ⟨rfl, a, t, n, r1, tabs, rfl, hs, hl, hT, n1, n16, fun c => absurd c (by omega), fun _ m' hm d H' s hd => ?_, fun _ hb' => by rw [hb] at hb'; cases hb'⟩⟩
  rw [hb] at hm
  cases hm
  exact hE _ _ _ (.inr (.inr ⟨d, _, _, rfl, rfl, hd, fun p H2 s2 hp => k p H2 (s.trans s2) hp⟩))
theorem ref_many0 (hs : isSpan CS CT H (.ref a) (n, r1)) (hl : isL (isTab CT) H (.ref t) tabs) (hT : Tabs (lamT P0) H) (n1 : 1 ≤ n) (n16 : n ≤ 16) (h64 : tabs.length > 64)
    (k : ∀ p H', Same H H' → H' p = some (.tup [.str "TooMany", .str "tables", .int 64, .bl true]) → Q (.ref p) H') : spRefusal CS CT CP CN CM CU P0 [.int 0, .ref a, .ref t] H Q E0 := by
  refine ⟨0, _, _, rfl, fun E hE => .inl ⟨rfl, a, t, n, r1, tabs, rfl, hs, hl, hT, n1, n16, fun c d H' s hd => ?_, fun c => absurd c (by omega), fun c => absurd c (by omega)⟩⟩
  exact hE _ _ _ (.inr (.inl ⟨d, _, _, rfl, rfl, hd, fun p H2 s2 hp => k p H2 (s.trans s2) hp⟩))
theorem ref_un1 (hs : isSpan CS CT H (.ref a) (n, r1)) (hs2 : isSpan CS CT H (.ref b) (m, r2)) (hT : Tabs (lamT P0) H) (hne : n ≠ m)
    (k : ∀ p H', Same H H' → H' p = some (.tup [.str "UnlikePlots", .int n, .int m, .bl true]) → Q (.ref p) H') : spRefusal CS CT CP CN CM CU P0 [.int 1, .ref a, .ref b] H Q E0 := by
  refine ⟨1, _, _, rfl, fun E hE => .inr (.inl ⟨rfl, a, b, n, m, r1, r2, rfl, hs, hs2, hT, fun _ d H' s hd => ?_, fun c => absurd c hne⟩)⟩
  exact hE _ _ _ (.inr (.inr ⟨d, _, _, rfl, rfl, hd, fun p H2 s2 hp => k p H2 (s.trans s2) hp⟩))
theorem ref_un2 (hl : isL (isPar CP) H (.ref a) pars) (hc : ∀ ns ∈ pars, Canon ns ∧ ns.length ≤ 16) (hT : Tabs (lamT P0) H) (n1 : 1 ≤ n) (n16 : n ≤ 16) (h16 : pars.length ≤ 16) (hb : badN n pars = some m)
    (k : ∀ p H', Same H H' → H' p = some (.tup [.str "UnlikePlots", .int n, .int m, .bl true]) → Q (.ref p) H') : spRefusal CS CT CP CN CM CU P0 [.int 2, .int n, .ref a] H Q E0 := by
  refine ⟨2, _, _, rfl, fun E hE => .inr (.inr ⟨rfl, a, n, pars, rfl, hl, hc, n16, hT, fun c => absurd c (by omega), fun _ c => absurd c (by omega), fun _ _ m' hm d H' s hd => ?_, fun _ _ hb' => by rw [hb] at hb'; cases hb'⟩)⟩
  rw [hb] at hm
  cases hm
  exact hE _ _ _ (.inr (.inr ⟨d, _, _, rfl, rfl, hd, fun p H2 s2 hp => k p H2 (s.trans s2) hp⟩))
theorem ref_many2 (hl : isL (isPar CP) H (.ref a) pars) (hc : ∀ ns ∈ pars, Canon ns ∧ ns.length ≤ 16) (hT : Tabs (lamT P0) H) (n1 : 1 ≤ n) (n16 : n ≤ 16) (h16 : pars.length > 16)
    (k : ∀ p H', Same H H' → H' p = some (.tup [.str "TooMany", .str "partings", .int 16, .bl true]) → Q (.ref p) H') : spRefusal CS CT CP CN CM CU P0 [.int 2, .int n, .ref a] H Q E0 := by
  refine ⟨2, _, _, rfl, fun E hE => .inr (.inr ⟨rfl, a, n, pars, rfl, hl, hc, n16, hT, fun c => absurd c (by omega), fun _ _ d H' s hd => ?_, fun _ c => absurd c (by omega), fun _ c => absurd c (by omega)⟩)⟩
  exact hE _ _ _ (.inr (.inl ⟨d, _, _, rfl, rfl, hd, fun p H2 s2 hp => k p H2 (s.trans s2) hp⟩))
theorem ref_no2 (hl : isL (isPar CP) H (.ref a) pars) (hc : ∀ ns ∈ pars, Canon ns ∧ ns.length ≤ 16) (hT : Tabs (lamT P0) H)
    (k : ∀ p H', Same H H' → H' p = some (.tup [.str "NoPlots", .bl true]) → Q (.ref p) H') : spRefusal CS CT CP CN CM CU P0 [.int 2, .int 0, .ref a] H Q E0 := by
  refine ⟨2, _, _, rfl, fun E hE => .inr (.inr ⟨rfl, a, 0, pars, rfl, hl, hc, by decide, hT, fun _ H' s => ?_, fun c => absurd c (by decide), fun c => absurd c (by decide), fun c => absurd c (by decide)⟩)⟩
  exact hE _ _ _ (.inl ⟨rfl, .inl rfl, fun p H2 s2 hp => k p H2 (s.trans s2) hp⟩)
theorem ref_ok0 (hs : isSpan CS CT H (.ref a) (n, r1)) (hl : isL (isTab CT) H (.ref t) tabs) (hT : Tabs (lamT P0) H) (n1 : 1 ≤ n) (n16 : n ≤ 16) (h64 : tabs.length ≤ 64) (hb : badT n tabs = none) (W : WideOk n r1 tabs)
    (k : ∀ H', ExtN H H' → Tabs (lamT P0) H' → Q .non H') : spRefusal CS CT CP CN CM CU P0 [.int 0, .ref a, .ref t] H Q E0 := by
  refine ⟨0, _, _, rfl, fun E hE => .inl ⟨rfl, a, t, n, r1, tabs, rfl, hs, hl, hT, n1, n16, fun c => absurd c (by omega), fun _ m' hm => (by rw [hb] at hm; cases hm), fun _ _ => ⟨W.1, fun rows2 so => ?_⟩⟩⟩
  obtain ⟨w1, w2, w3⟩ := W.2 rows2 so
  obtain ⟨n', b', r', G⟩ := w3
  exact ⟨w1, w2, n', b', r', G, fun v H' rows e T' _ _ => k H' e T'⟩
theorem ref_ok2 {N : Nat} (HM : PartMath) (hl : isL (isPar CP) H (.ref a) pars) (hc : ∀ ns ∈ pars, Canon ns ∧ ns.length = N) (hT : Tabs (lamT P0) H) (n1 : 1 ≤ N) (n6 : N ≤ 6) (h3 : pars.length ≤ 3)
    (k : ∀ H', ExtN H H' → Tabs (lamT P0) H' → Q .non H') : spRefusal CS CT CP CN CM CU P0 [.int 2, .int (N : Int), .ref a] H Q E0 := by
  refine ⟨2, _, _, rfl, fun E hE => .inr (.inr ⟨rfl, a, N, pars, rfl, hl, fun u hu => ⟨(hc u hu).1, by rw [(hc u hu).2]; omega⟩, by omega, hT, fun c => absurd c (by omega), fun _ c => absurd c (by omega), fun _ _ m hm => ?_, fun _ _ _ => ⟨by omega, fun rows1 perm srt => ?_⟩⟩)⟩
  · rw [badN_ok fun u hu => (hc u hu).2] at hm; cases hm
  · exact ⟨(HM N pars n1 n6 h3 hc rows1 perm srt).1, fun v H' rows e T' _ _ => k H' e T'⟩
end
/-- what the refusals lean on -/
structure Bk (CS CT CP P0 a t pp u : Addr) (n m : Nat) (r1 tabs : List (List Rat)) (pars : List (List Nat)) (H : Hp) : Prop where
  sp : isSpan CS CT H (.ref a) ((n : Int), r1)
  tl : isL (isTab CT) H (.ref t) tabs
  pl : isL (isPar CP) H (.ref pp) pars
  tb : Tabs (lamT P0) H
  un : H u = some (.tup [.str "UnlikePlots", .int n, .int m, .bl true])
theorem Bk.ext {CS CT CP P0 a t pp u : Addr} {n m : Nat} {r1 tabs : List (List Rat)} {pars : List (List Nat)} {H H' : Hp} (B : Bk CS CT CP P0 a t pp u n m r1 tabs pars H) (e : ExtN H H') (T : Tabs (lamT P0) H') : Bk CS CT CP P0 a t pp u n m r1 tabs pars H' :=
  ⟨monoN_Span _ _ _ _ e B.sp, monoN_L monoN_Tab _ _ _ _ e B.tl, monoN_L monoN_Par _ _ _ _ e B.pl, T, e _ _ B.un (fun _ z => by cases z)⟩
theorem Bk.same {CS CT CP P0 a t pp u : Addr} {n m : Nat} {r1 tabs : List (List Rat)} {pars : List (List Nat)} {H H' : Hp} (B : Bk CS CT CP P0 a t pp u n m r1 tabs pars H) (s : Same H H') : Bk CS CT CP P0 a t pp u n m r1 tabs pars H' := B.ext (extN_of s) (B.tb.ext s)
theorem sca_un {n m : Int} : ∀ x ∈ [V.str "UnlikePlots", .int n, .int m, .bl true], Sca x := by
  intro x hx
  simp only [List.mem_cons, List.not_mem_nil, or_false] at hx
  rcases hx with rfl | rfl | rfl | rfl
  · show Str.length _ ≤ sizeLine; decide
  all_goals trivial
theorem sca_many {s : Str} {n : Int} (h : s.length ≤ sizeLine) : ∀ x ∈ [V.str "TooMany", .str s, .int n, .bl true], Sca x := by
  intro x hx
  simp only [List.mem_cons, List.not_mem_nil, or_false] at hx
  rcases hx with rfl | rfl | rfl | rfl
  · show Str.length _ ≤ sizeLine; decide
  · exact h
  all_goals trivial
theorem sca_no : ∀ x ∈ [V.str "NoPlots", .bl true], Sca x := by
  intro x hx
  simp only [List.mem_cons, List.not_mem_nil, or_false] at hx
  rcases hx with rfl | rfl
  · show Str.length _ ≤ sizeLine; decide
  all_goals trivial
section
variable {P : Program} {w : World} {K : PySem.W.Frag} {mg : Str → Option Value} {base : Heap} {C_NoPlots C_TooMany C_UnlikePlots C_Table C_Span C_Parting P0 : Addr}
def spRefuses (CS CT CP P0 : Addr) : L2.Sp := fun vs H Q _ => ∃ (sp t pp : Addr) (n m : Nat) (r1 tabs : List (List Rat)) (pars : List (List Nat)), vs = [.ref sp, .ref t, .ref pp, .int n, .int m] ∧ isSpan CS CT H (.ref sp) ((n : Int), r1) ∧ isL (isTab CT) H (.ref t) tabs ∧ isL (isPar CP) H (.ref pp) pars ∧
  1 ≤ n ∧ n ≤ 6 ∧ 1 ≤ m ∧ m ≤ 16 ∧ m ≠ n ∧ Tabs (lamT P0) H ∧ (∀ q ∈ tabs, q.length = n) ∧ tabs.length ≤ 64 ∧ pars.length ≤ 3 ∧ (∀ ns ∈ pars, Canon ns ∧ ns.length = n) ∧ WideOk n r1 tabs ∧ ∀ H', ExtN H H' → Tabs (lamT P0) H' → Q (.bl true) H'
theorem sc__law_refuses : FnScope ["_law_span", "_law_tables", "_law_partings", "_law_plots", "_law_other", "_law_unlike", "_law_strange", "_law_k"] ["_law_span", "_law_tables", "_law_partings", "_law_plots", "_law_other"] (defScope s__law_refuses) := ⟨rfl, rfl, rfl, by decide +kernel, rfl, by decide +kernel, by decide +kernel⟩

theorem ok__law_refuses (HM : PartMath) (D : Glo K mg "_law_refuses" "_law_refuses" s__law_refuses) (c_Span : mg "Span" = some (.ref C_Span)) (c_Table : mg "Table" = some (.ref C_Table)) (c_Parting : mg "Parting" = some (.ref C_Parting)) (ok__law_same : Cal P w K mg base CX0 35 "_law_same" spSame) (ok__law_refusal : Cal P w K mg base CX0 48 "_law_refusal" (spRefusal C_Span C_Table C_Parting C_NoPlots C_TooMany C_UnlikePlots P0))
    (ok_zeros : CalC P w K mg base CX0 41 C_Table "zeros" (spZeros C_Table)) (ok_one : CalC P w K mg base CX0 41 C_Parting "one" (spOne C_Parting)) (ok_Span : CalM P w K mg base (L2.CX P w) 42 "Span" C_Span (spSpan_init0 C_Span C_Table P0)) (ok__law_long : Cal P w K mg base CX0 33 "_law_long" spLong) (T_len : mg "len" = none) (T_range : mg "range" = none) : Cal P w K mg base CX0 50 "_law_refuses" (spRefuses C_Span C_Table C_Parting P0) := by
  refine D.cal sc__law_refuses (fun _ _ _ _ _ _ us hl => match us, hl with | [_, _, _, _, _], _ => rfl) (fun vs H Q E h => ?_) (fun f cdv A outer s H vs Q E hr h => ?_)
  · obtain ⟨a, b, c, n, m, r1, tabs, pars, rfl, _⟩ := h; rfl
  · obtain ⟨sp, t, pp, n, m, r1, tabs, pars, rfl, hS, hL, hP, n1, n6, m1, m16, hne, hT, hlen, h64, h3, hpo, W, k⟩ := h
    refine ⟨_, (pss_cons (ps_set (i := 5) sc__law_refuses.nd rfl (by first | exact Or.inl rfl | exact Or.inr rfl) (pe_tup (pa_cons pe_str (pa_cons (pv 3) (pa_cons (pv 4) (pa_cons pe_bl pa_nil))))))
      (pss_cons (ps_set (i := 6) sc__law_refuses.nd rfl (by first | exact Or.inl rfl | exact Or.inr rfl) (pe_op op_cat (pe_slice (sl_listK K) (pv 1) po_none (po_some pe_int)) (pe_lst (pa_cons (pe_cm (pe_glob (v := .ref C_Table) rfl c_Table rfl) ok_zeros (hr.mono (by decide)) pass0 (pa_cons (pv 4) pa_nil)) pa_nil))))
      (pss_cons (ps_if (pt_not (pt_val (pe_cal ok__law_same (hr.mono (by decide)) (pa_cons (pe_cal ok__law_refusal (hr.mono (by decide)) (pa_cons pe_int (pa_cons (pv 0) (pa_cons (pv 6) pa_nil)))) (pa_cons (pv 5) pa_nil))))) (pss_one (ps_ret pe_bl)) pss_nil)
      (pss_cons (ps_set (i := 6) sc__law_refuses.nd rfl (by first | exact Or.inl rfl | exact Or.inr rfl) (pe_op op_cat (pv 6) (pe_lc (own := [("_law_k", 7)]) (tt := tYes) (g := (gName 7)) rfl sc__law_refuses.nd (pi_range1 (by rfl) T_range (pa_cons (pe_op op_sub pe_int (pe_callB (call_lenK K) (by rfl) T_len b_len (pa_cons (pv 6) pa_nil))) pa_nil)) (blkOk_by (N := ["_law_span", "_law_tables", "_law_partings", "_law_plots", "_law_other", "_law_unlike", "_law_strange", "_law_k"]) (sc := defScope s__law_refuses) (by decide +kernel)) (fun _ _ _ _ _ => (pg_name (i := 7) sc__law_refuses.nd rfl (by first | exact Or.inl rfl | exact Or.inr rfl))) (fun _ _ _ _ _ => pts_nil) (fun _ _ _ _ _ => (pe_cm (pe_glob (v := .ref C_Table) rfl c_Table rfl) ok_zeros (hr.mono (by decide)) pass0 (pa_cons (pv 3) pa_nil))))))
      (pss_cons (ps_if (pt_not (pt_val (pe_cal ok__law_same (hr.mono (by decide)) (pa_cons (pe_cal ok__law_refusal (hr.mono (by decide)) (pa_cons pe_int (pa_cons (pv 0) (pa_cons (pv 6) pa_nil)))) (pa_cons (pe_tup (pa_cons pe_str (pa_cons pe_str (pa_cons pe_int (pa_cons pe_bl pa_nil))))) pa_nil))))) (pss_one (ps_ret pe_bl)) pss_nil)
      (pss_cons (ps_if (pt_not (pt_val (pe_cal ok__law_same (hr.mono (by decide)) (pa_cons (pe_cal ok__law_refusal (hr.mono (by decide)) (pa_cons pe_int (pa_cons (pv 0) (pa_cons (pe_mk ok_Span.calm (hr.mono (by decide)) (pa_cons (pv 4) pa_nil)) pa_nil)))) (pa_cons (pv 5) pa_nil))))) (pss_one (ps_ret pe_bl)) pss_nil)
      (pss_cons (ps_set (i := 6) sc__law_refuses.nd rfl (by first | exact Or.inl rfl | exact Or.inr rfl) (pe_op op_cat (pv 2) (pe_lst (pa_cons (pe_cm (pe_glob (v := .ref C_Parting) rfl c_Parting rfl) ok_one (hr.mono (by decide)) pass0 (pa_cons (pv 4) pa_nil)) pa_nil))))
      (pss_cons (ps_if (pt_not (pt_val (pe_cal ok__law_same (hr.mono (by decide)) (pa_cons (pe_cal ok__law_refusal (hr.mono (by decide)) (pa_cons pe_int (pa_cons (pv 3) (pa_cons (pv 6) pa_nil)))) (pa_cons (pv 5) pa_nil))))) (pss_one (ps_ret pe_bl)) pss_nil)
      (pss_cons (ps_if (pt_not (pt_val (pe_cal ok__law_same (hr.mono (by decide)) (pa_cons (pe_cal ok__law_refusal (hr.mono (by decide)) (pa_cons pe_int (pa_cons (pv 3) (pa_cons (pe_cal ok__law_long (hr.mono (by decide)) (pa_cons (pv 6) (pa_cons pe_int pa_nil))) pa_nil)))) (pa_cons (pe_tup (pa_cons pe_str (pa_cons pe_str (pa_cons pe_int (pa_cons pe_bl pa_nil))))) pa_nil))))) (pss_one (ps_ret pe_bl)) pss_nil)
      (pss_cons (ps_if (pt_not (pt_val (pe_cal ok__law_same (hr.mono (by decide)) (pa_cons (pe_cal ok__law_refusal (hr.mono (by decide)) (pa_cons pe_int (pa_cons pe_int (pa_cons (pe_cal ok__law_long (hr.mono (by decide)) (pa_cons (pv 6) (pa_cons pe_int pa_nil))) pa_nil)))) (pa_cons (pe_tup (pa_cons pe_str (pa_cons pe_bl pa_nil))) pa_nil))))) (pss_one (ps_ret pe_bl)) pss_nil)
      (pss_one (ps_ret (pe_and (pe_cmpR op_isN (pe_cal ok__law_refusal (hr.mono (by decide)) (pa_cons pe_int (pa_cons (pv 0) (pa_cons (pv 1) pa_nil)))) pe_non (nomark _)) (pe_one (pe_cmpR op_isN (pe_cal ok__law_refusal (hr.mono (by decide)) (pa_cons pe_int (pa_cons (pv 3) (pa_cons (pv 2) pa_nil)))) pe_non (nomark _)))))))))))))))), ?_⟩
    refine ⟨_, rfl, _, rfl, by show 4 ≤ sizeLine; decide, fun u hu => ?_⟩
    have s1 : Same H (upd H u (.tup [.str "UnlikePlots", .int n, .int m, .bl true])) := same_upd hu
    have B1 : Bk C_Span C_Table C_Parting P0 sp t pp u n m r1 tabs pars (upd H u (.tup [.str "UnlikePlots", .int n, .int m, .bl true])) := ⟨mono_Span _ _ _ _ s1 hS, mono_L mono_Tab _ _ _ _ s1 hL, mono_L mono_Par _ _ _ _ s1 hP, hT.ext s1, upd_same⟩
    have e1 := extN_of s1
    generalize upd H u (.tup [.str "UnlikePlots", .int n, .int m, .bl true]) = H1 at *
    refine gn ?_
    dsimp only
    -- the strange tables
    obtain ⟨t', tvs, e, ht, hpt⟩ := B1.tl
    cases e
    have lt : tabs.length = tvs.length := pLen hpt
    refine ⟨_, rfl, _, rfl, t, tvs, rfl, SqL.of ht, fun p1 hp1 => ?_⟩
    have ec : cutV tvs none (some 3) = tvs.take 3 := by
      unfold cutV HT.sIx
      show List.take (min 3 tvs.length - 0) (List.drop 0 tvs) = List.take 3 tvs
      rw [List.drop_zero, Nat.sub_zero]
      by_cases c : 3 ≤ tvs.length
      · rw [Nat.min_eq_left c]
      · rw [Nat.min_eq_right (by omega), List.take_length, List.take_of_length_le (by omega)]
    have s2 : Same H1 (upd H1 p1 (.lst (cutV tvs none (some 3)))) := same_upd hp1
    have hp1' := upd_same (H := H1) (a := p1) (o := .lst (cutV tvs none (some 3)))
    rw [ec] at s2 hp1' ⊢
    have B2 := B1.same s2
    generalize upd H1 p1 (.lst (tvs.take 3)) = H2 at *
    refine ⟨rfl, _, rfl, m, rfl, m1, m16, fun z H3 s3 hz0 hz => ?_⟩
    have B3 := B2.same s3
    refine ⟨by show 1 ≤ sizeLine; decide, fun p2 hp2 => ?_⟩
    have s4 : Same H3 (upd H3 p2 (.lst [.ref z])) := same_upd hp2
    have hp2' := upd_same (H := H3) (a := p2) (o := .lst [.ref z])
    have B4 := B3.same s4
    generalize upd H3 p2 (.lst [.ref z]) = H4 at *
    have s14 := s2.trans (s3.trans s4)
    have hp14 := (s3.trans s4) _ _ hp1'
    refine ⟨p1, p2, _, _, rfl, rfl, hp14, hp2', by have := small_line (show (tvs.take 3).length + 1 ≤ 1000 by rw [List.length_take]; omega); exact this, fun p3 hp3 => ?_⟩
    have s5 : Same H4 (upd H4 p3 (.lst (tvs.take 3 ++ [.ref z]))) := same_upd hp3
    have hp3' := upd_same (H := H4) (a := p3) (o := .lst (tvs.take 3 ++ [.ref z]))
    have B5 := B4.same s5
    have L5 : isL (isTab C_Table) (upd H4 p3 (.lst (tvs.take 3 ++ [.ref z]))) (.ref p3) (tabs.take 3 ++ [List.replicate m 0]) := ⟨p3, _, rfl, hp3', pApp (pTake 3 (pImp hpt fun _ _ r => mono_Tab _ _ _ _ (s14.trans s5) r)) (.cons (mono_Tab _ _ _ _ (s4.trans s5) hz) .nil)⟩
    have e5 := e1.trans (extN_of (s14.trans s5))
    generalize upd H4 p3 (.lst (tvs.take 3 ++ [.ref z])) = H5 at *
    refine gn ?_
    dsimp only
    have bad5 : badT (n : Int) (tabs.take 3 ++ [List.replicate m 0]) = some (m : Int) := by
      have := badT_last (n := n) (tabs := tabs.take 3) (q := List.replicate m 0) (fun q hq => hlen q (List.mem_of_mem_take hq)) (by rw [List.length_replicate]; exact hne)
      rw [List.length_replicate] at this; exact this
    refine ⟨_, rfl, _, rfl, ref_un0 B5.sp L5 B5.tb (by omega) (by omega) (by rw [List.length_append, List.length_take, List.length_singleton]; omega) bad5 fun p H6 s6 hp => ?_⟩
    have B6 := B5.same s6
    refine ⟨_, rfl, ⟨p, u, _, rfl, hp, B6.un, sca_un, by show 4 ≤ 100; decide, ?_⟩⟩
    refine ⟨_, rfl, iteF ?_⟩
    -- 65 tables
    have L6 := mono_L mono_Tab _ _ _ _ s6 L5
    have e6 := e5.trans (extN_of s6)
    have hp6 := s6 _ _ hp3'
    have l3 : (tvs.take 3 ++ [V.ref z]).length ≤ 4 ∧ 1 ≤ (tvs.take 3 ++ [V.ref z]).length := by rw [List.length_append, List.length_take, List.length_singleton]; omega
    have l3' : (tabs.take 3 ++ [List.replicate m 0]).length = (tvs.take 3 ++ [V.ref z]).length := by rw [List.length_append, List.length_append, List.length_take, List.length_take]; simp; omega
    refine ⟨_, rfl, _, rfl, p3, _, rfl, .inl (SqL.of hp6), _, _, rfl, rfl, _, rfl, by omega, by omega, fun L hL => lcm (walk_range (lo := 0)) (fun i H v => isTab C_Table H v (List.replicate n 0)) hL (small_line (by omega)) (fun _ _ _ _ s q => mono_Tab _ _ _ _ s q) (fun _ _ => trivial) (fun i y H7 H8 hi s7 o yy Q k => ?_) (fun H7 ys s7 hL' q => ?_)⟩
    · obtain ⟨rfl, rfl⟩ := yy
      obtain ⟨oD, hD⟩ := o
      exact ⟨rfl, rfl, _, rfl, n, rfl, n1, by omega, fun z H9 s9 hz0 hz => k _ _ s9 (offL_Tab _ _ _ _ _ (s9 _ _ hD) hz)⟩
    have hyl := pLen q
    rw [List.length_range] at hyl
    have B7 := B6.same s7
    have hp7 := s7 _ _ hp6
    refine ⟨p3, L, _, _, rfl, rfl, hp7, hL', by have := small_line (show (tvs.take 3 ++ [V.ref z]).length + ys.length ≤ 1000 by omega); exact this, fun p4 hp4 => ?_⟩
    have s8 : Same H7 (upd H7 p4 (.lst ((tvs.take 3 ++ [V.ref z]) ++ ys))) := same_upd hp4
    have hp4' := upd_same (H := H7) (a := p4) (o := .lst ((tvs.take 3 ++ [V.ref z]) ++ ys))
    have B8 := B7.same s8
    have L8 : isL (isTab C_Table) (upd H7 p4 (.lst ((tvs.take 3 ++ [V.ref z]) ++ ys))) (.ref p4) ((tabs.take 3 ++ [List.replicate m 0]) ++ List.replicate ys.length (List.replicate n 0)) := by
      obtain ⟨p3', vs', e, h', pp'⟩ := L6
      cases e
      rw [hp6] at h'
      cases h'
      refine ⟨p4, _, rfl, hp4', pApp (pImp pp' fun _ _ r => mono_Tab _ _ _ _ (s7.trans s8) r) (pOf (by simp) fun i x y hx hy => ?_)⟩
      rw [List.getElem?_replicate] at hx
      split at hx
      · cases hx
        obtain ⟨_, _, r⟩ := pGet2 q hy
        exact mono_Tab _ _ _ _ s8 r
      · cases hx
    have e8 := e6.trans (extN_of (s7.trans s8))
    generalize upd H7 p4 (.lst ((tvs.take 3 ++ [V.ref z]) ++ ys)) = H8 at *
    refine gn ?_
    dsimp only
    refine ⟨_, rfl, _, rfl, ref_many0 B8.sp L8 B8.tb (by omega) (by omega) (by rw [List.length_append, l3', List.length_replicate]; omega) fun q9 H9 s9 hq9 => ⟨by show 4 ≤ sizeLine; decide, fun w9 hw9 => ⟨q9, w9, _, rfl, same_upd hw9 _ _ hq9, upd_same, sca_many (by decide), by show 4 ≤ 100; decide, ⟨_, rfl, iteF ?_⟩⟩⟩⟩
    have B9 := B8.same (s9.trans (same_upd (o := .tup [.str "TooMany", .str "tables", .int 64, .bl true]) hw9))
    have e9 := e8.trans (extN_of (s9.trans (same_upd (o := .tup [.str "TooMany", .str "tables", .int 64, .bl true]) hw9)))
    generalize upd H9 w9 (.tup [.str "TooMany", .str "tables", .int 64, .bl true]) = H10 at *
    -- another span
    refine ⟨_, rfl, _, rfl, ?_⟩
    intro x dx hx hd hnx
    have sk := same_mk (C := C_Span) hx hd hnx
    refine ⟨x, dx, m, rfl, upd_same, by omega, by omega, B9.tb.ext sk, fun bs ax H11 eN T' hx' hb' => ⟨rfl, ?_⟩⟩
    have eH := extN_made hx hd hnx eN
    have B11 := B9.ext eH T'
    have e11 := e9.trans eH
    have hs2 : isSpan C_Span C_Table H11 (.ref x) ((m : Int), []) := ⟨x, dx, bs, ax, rfl, hx', mono_T mono_Tab _ _ _ _ (same_cut H11 x) hb'⟩
    refine ref_un1 B11.sp hs2 B11.tb (by omega) fun q12 H12 s12 hq12 => ⟨_, rfl, q12, u, _, rfl, hq12, (B11.same s12).un, sca_un, by show 4 ≤ 100; decide, ⟨_, rfl, iteF ?_⟩⟩
    have B12 := B11.same s12
    have e12 := e11.trans (extN_of s12)
    -- the strange partings
    refine ⟨_, rfl, rfl, _, rfl, m, rfl, m1, m16, fun z2 H13 ns s13 hz2 hz2l hz2c => ?_⟩
    have B13 := B12.same s13
    refine ⟨by show 1 ≤ sizeLine; decide, fun p5 hp5 => ?_⟩
    have s14' : Same H13 (upd H13 p5 (.lst [.ref z2])) := same_upd hp5
    have hp5' := upd_same (H := H13) (a := p5) (o := .lst [.ref z2])
    have B14 := B13.same s14'
    have e14 := e12.trans (extN_of (s13.trans s14'))
    generalize upd H13 p5 (.lst [.ref z2]) = H14 at *
    obtain ⟨pp', pvs, e, hpp, hpv⟩ := B14.pl
    cases e
    have lp : pars.length = pvs.length := pLen hpv
    refine ⟨pp, p5, _, _, rfl, rfl, hpp, hp5', by have := small_line (show pvs.length + 1 ≤ 1000 by omega); exact this, fun p6 hp6 => ?_⟩
    have s15 : Same H14 (upd H14 p6 (.lst (pvs ++ [.ref z2]))) := same_upd hp6
    have hp6' := upd_same (H := H14) (a := p6) (o := .lst (pvs ++ [.ref z2]))
    have B15 := B14.same s15
    have L15 : isL (isPar C_Parting) (upd H14 p6 (.lst (pvs ++ [.ref z2]))) (.ref p6) (pars ++ [ns]) := ⟨p6, _, rfl, hp6', pApp (pImp hpv fun _ _ r => mono_Par _ _ _ _ s15 r) (.cons (mono_Par _ _ _ _ (s14'.trans s15) hz2) .nil)⟩
    have e15 := e14.trans (extN_of s15)
    generalize upd H14 p6 (.lst (pvs ++ [.ref z2])) = H15 at *
    refine gn ?_
    dsimp only
    have hcs : ∀ us ∈ pars ++ [ns], Canon us ∧ us.length ≤ 16 := fun us hu => by
      rcases List.mem_append.mp hu with hu | hu
      · exact ⟨(hpo us hu).1, by rw [(hpo us hu).2]; omega⟩
      · rw [List.mem_singleton.mp hu]; exact ⟨hz2c, by omega⟩
    have bad15 : badN (n : Int) (pars ++ [ns]) = some (m : Int) := by
      have := badN_last (n := n) (pars := pars) (q := ns) (fun q hq => (hpo q hq).2) (by omega)
      rw [hz2l] at this; exact this
    refine ⟨_, rfl, _, rfl, ref_un2 L15 hcs B15.tb (by omega) (by omega) (by rw [List.length_append, List.length_singleton]; omega) bad15 fun q16 H16 s16 hq16 => ⟨_, rfl, q16, u, _, rfl, hq16, (B15.same s16).un, sca_un, by show 4 ≤ 100; decide, ⟨_, rfl, iteF ?_⟩⟩⟩
    have B16 := B15.same s16
    have L16 := mono_L mono_Par _ _ _ _ s16 L15
    have hp16 := s16 _ _ hp6'
    have e16 := e15.trans (extN_of s16)
    have l17 : 1 ≤ (pvs ++ [V.ref z2]).length := by rw [List.length_append, List.length_singleton]; omega
    refine ⟨_, rfl, _, rfl, p6, _, 17, rfl, hp16, l17, by decide, fun p7 H17 ys7 s17 _ hp7 hy7 hm7 => ?_⟩
    have B17 := B16.same s17
    obtain ⟨p6', vs6, e, h6, pv6⟩ := mono_L mono_Par _ _ _ _ s17 L16
    cases e
    rw [s17 _ _ hp16] at h6
    cases h6
    obtain ⟨us7, pr7, mem7⟩ := pPick pv6 ys7 hm7
    have l7 := pLen pr7
    refine ref_many2 ⟨p7, _, rfl, hp7, pr7⟩ (fun us hu => hcs us (mem7 us hu)) B17.tb (by omega) (by omega) (by omega) fun q18 H18 s18 hq18 => ⟨by show 4 ≤ sizeLine; decide, fun w18 hw18 => ⟨q18, w18, _, rfl, same_upd hw18 _ _ hq18, upd_same, sca_many (by decide), by show 4 ≤ 100; decide, ⟨_, rfl, iteF ?_⟩⟩⟩
    have s18' := s17.trans (s18.trans (same_upd (o := .tup [.str "TooMany", .str "partings", .int 16, .bl true]) hw18))
    have B18 := B16.same s18'
    have L18 := mono_L mono_Par _ _ _ _ s18' L16
    have hp18 := s18' _ _ hp16
    have e18 := e16.trans (extN_of s18')
    generalize upd H18 w18 (.tup [.str "TooMany", .str "partings", .int 16, .bl true]) = H19 at *
    refine ⟨_, rfl, p6, _, 17, rfl, hp18, l17, by decide, fun p8 H20 ys8 s20 _ hp8 hy8 hm8 => ?_⟩
    have B20 := B18.same s20
    obtain ⟨p6', vs6, e, h6, pv6⟩ := mono_L mono_Par _ _ _ _ s20 L18
    cases e
    rw [s20 _ _ hp18] at h6
    cases h6
    obtain ⟨us8, pr8, mem8⟩ := pPick pv6 ys8 hm8
    refine ref_no2 ⟨p8, _, rfl, hp8, pr8⟩ (fun us hu => hcs us (mem8 us hu)) B20.tb fun q21 H21 s21 hq21 => ⟨by show 2 ≤ sizeLine; decide, fun w21 hw21 => ⟨q21, w21, _, rfl, same_upd hw21 _ _ hq21, upd_same, sca_no, by show 2 ≤ 100; decide, ⟨_, rfl, iteF ?_⟩⟩⟩
    have s21' := s20.trans (s21.trans (same_upd (o := .tup [.str "NoPlots", .bl true]) hw21))
    have B21 := B18.same s21'
    have e21 := e18.trans (extN_of s21')
    generalize upd H21 w21 (.tup [.str "NoPlots", .bl true]) = H22 at *
    refine ⟨_, rfl, _, rfl, ref_ok0 B21.sp B21.tl B21.tb (by omega) (by omega) h64 (badT_ok hlen) W fun H23 e23 T23 => ⟨rfl, _, rfl, iteC (decide_eq_true rfl) ?_⟩⟩
    have B23 := B21.ext e23 T23
    refine ⟨_, rfl, _, rfl, ref_ok2 HM B23.pl hpo B23.tb n1 n6 h3 fun H24 e24 T24 => ⟨rfl, ?_⟩⟩
    rw [decide_eq_true rfl]
    exact k H24 (e21.trans (e23.trans e24)) T24
end
end K4
/-! K42: the mathematics meets the promises. -/
namespace K4
open PySem PySem.Spec PyProof.Rows L2 StX LamX
open M4 (Bd BQ dj qe qv Canon canonN lotsOf RS SpE VQ VS ratRows ratRow mk_ IRed upright restQ)
theorem rrf_of {n a : Nat} {S : M4.Vec → Prop} {rows : M4.IRows} (R : RS n S a rows) : RRF n (ratRows rows) (rows.map (·.1)) := by
  have get : ∀ {i : Nat} {q : List Rat}, (ratRows rows)[i]? = some q → ∃ p zs, rows[i]? = some (p, zs) ∧ q = ratRow p zs := fun {i q} h => by
    unfold M4.ratRows at h
    rw [List.getElem?_map] at h
    cases e : rows[i]? with
    | none => rw [e] at h; cases h
    | some x =>
      obtain ⟨p, zs⟩ := x
      rw [e] at h
      cases h
      exact ⟨p, zs, rfl, rfl⟩
  have plc : ∀ {i p : Nat}, (rows.map (·.1))[i]? = some p → ∃ zs, rows[i]? = some (p, zs) := fun {i p} h => by
    rw [List.getElem?_map] at h
    cases e : rows[i]? with
    | none => rw [e] at h; cases h
    | some x =>
      obtain ⟨p', zs⟩ := x
      rw [e] at h
      cases h
      exact ⟨zs, rfl⟩
  refine ⟨by unfold M4.ratRows; simp, R.rat_len, fun i p q hp hq => ?_, fun i p p' hp hp' => ?_⟩
  · obtain ⟨zs, h1⟩ := plc hp
    obtain ⟨p2, zs2, h2, rfl⟩ := get hq
    rw [h1] at h2
    cases h2
    have m := List.mem_of_getElem? h1
    have z := M4.vec_ne R.red m
    refine ⟨R.red.lt m, ?_, fun j hj => ?_, fun k u hu hk => ?_⟩
    · rw [M4.qe_ratRow]; grind
    · rw [M4.qe_ratRow]
      have : M4.vec zs j = 0 := M4.cast0.mpr (R.red.lead p zs m j hj)
      rw [this]; grind
    · obtain ⟨p3, zs3, h3, rfl⟩ := get hu
      have m3 := List.mem_of_getElem? h3
      have ne : p ≠ p3 := fun e => by
        have nd := R.red.nodup
        have g1 : (rows.map (·.1))[i]? = some p := hp
        have g2 : (rows.map (·.1))[k]? = some p := by rw [List.getElem?_map, h3, e]; rfl
        obtain ⟨l1, e1⟩ := List.getElem?_eq_some_iff.mp g1
        obtain ⟨l2, e2⟩ := List.getElem?_eq_some_iff.mp g2
        exact hk ((List.getElem_inj nd).mp (e2.trans e1.symm))
      have : M4.vec zs3 p = 0 := M4.cast0.mpr (R.red.off p3 zs3 m3 p zs m ne)
      rw [M4.qe_ratRow, this]; grind
  · obtain ⟨zs, h1⟩ := plc hp
    obtain ⟨zs', h2⟩ := plc hp'
    obtain ⟨l1, e1⟩ := List.getElem?_eq_some_iff.mp h1
    obtain ⟨l2, e2⟩ := List.getElem?_eq_some_iff.mp h2
    have := List.pairwise_iff_getElem.mp R.srt i (i + 1) l1 l2 (by omega)
    rw [e1, e2] at this
    exact this
theorem spanOk_of {n a b : Nat} {listed : List (List Rat)} {rows : M4.IRows} (hn : n ≤ 6) (R : RS n (VQ listed) a rows) (hl : ∀ q ∈ listed, q.length = n ∧ BQ q b) (h200 : listed.length ≤ 200) (s1 : 6 * (b + dj b 6) + 20 ≤ 134000000) (s2 : 2 * (a + dj b 6) + 4 * (b + dj b 6) + 20 ≤ 134000000) :
    SpanOk n b a (ratRows rows) listed :=
  ⟨hn, ⟨_, rrf_of R⟩, hl, h200, R.rat_bq, s1, s2, R.len_up fun q hq => (hl q hq).1, R.zero fun q hq => (hl q hq).1⟩
theorem goodT_direct {n b r : Nat} (hn : n ≤ 6) {tabs : List (List Rat)} (h : ∀ q ∈ tabs, q.length = n ∧ BQ q b) (sz : 2 * mk_ b 6 + 2 * b + 10 ≤ 134000000) (ax : 3 * (mk_ b 6 + dj (mk_ b 6) 5) + 10 ≤ 134000000) : GoodT n b (mk_ b 6) tabs := by
  obtain ⟨D, e⟩ := M4.eb_direct hn (M4.wholes h)
  exact ⟨hn, h, sz, fun p zs hm i => e.entb hm i, ax⟩
theorem spanOf_rs {n b : Nat} (hn : n ≤ 6) {tabs : List (List Rat)} {rows : M4.IRows} (h : ∀ q ∈ tabs, q.length = n ∧ BQ q b) (so : SpanOf tabs rows) : RS n (VQ tabs) (mk_ b 6) rows := M4.rs_direct hn h so.1 so.2
/-! ### partings -/
theorem ratOf_bq {zs : List Int} {b : Nat} (h : ∀ i, Bd (M4.ent zs i) b) : BQ (zs.map fun (z : Int) => (z : Rat)) b := by
  refine ⟨1, by decide, M4.pow_pos' b, fun i => ⟨M4.ent zs i, ?_, h i⟩⟩
  have e : qe (zs.map fun (z : Int) => (z : Rat)) i = (M4.ent zs i : Rat) := by
    unfold M4.qe M4.ent
    rw [List.getD_eq_getElem?_getD, List.getD_eq_getElem?_getD, List.getElem?_map]
    cases zs[i]? <;> rfl
  rw [e]
  have c : ((1 : Nat) : Rat) = 1 := rfl
  rw [c]; grind
theorem ratOf_qv (zs : List Int) : qv (zs.map fun (z : Int) => (z : Rat)) = M4.vec zs := by
  funext i
  unfold M4.qv M4.vec M4.qe M4.ent
  rw [List.getD_eq_getElem?_getD, List.getD_eq_getElem?_getD, List.getElem?_map]
  cases zs[i]? <;> rfl
theorem VQ_ratOf (vs : List (List Int)) : SpE (VQ (vs.map fun v => v.map fun (z : Int) => (z : Rat))) (VS vs) := by
  refine SpE.of (fun u hu => ?_) (fun u hu => ?_)
  · obtain ⟨q, hq, rfl⟩ := hu
    obtain ⟨v, hv, rfl⟩ := List.mem_map.mp hq
    exact M4.Sp.mem ⟨v, hv, ratOf_qv v⟩
  · obtain ⟨v, hv, rfl⟩ := hu
    exact M4.Sp.mem ⟨_, List.mem_map.mpr ⟨v, hv, rfl⟩, (ratOf_qv v).symm⟩
theorem part_math : PartMath := by
  intro n pars n1 n6 h3 hp rows1 perm srt
  have hv : ∀ v ∈ marksAll pars, v.length = n ∧ ∀ i, Bd (M4.ent v i) 0 := fun v hm => by
    obtain ⟨ns, hns, hv⟩ := List.mem_flatMap.mp hm
    exact ⟨(marks_len hv).trans (hp ns hns).2, marks_bd hv⟩
  obtain ⟨a1, e1⟩ := M4.elim_spec fun v hm => (hv v hm).1
  obtain ⟨D, eb⟩ := M4.eb_direct n6 hv
  have IR := a1.perm perm
  have eb1 := eb.perm perm
  have ht : ∀ q ∈ rowTabs rows1, q.length = n ∧ BQ q 252 := fun q hq => by
    unfold rowTabs at hq
    obtain ⟨⟨p, zs⟩, hz, rfl⟩ := List.mem_map.mp hq
    refine ⟨by rw [List.length_map]; exact IR.len p zs hz, ratOf_bq fun i => ?_⟩
    have := eb1.entb hz i
    exact this.mono (by decide)
  refine ⟨⟨n, 252, mk_ 252 6, goodT_direct (r := 0) n6 ht (by decide) (by decide)⟩, fun rows so => ⟨0, mk_ 252 6, ?_⟩⟩
  have R := spanOf_rs n6 ht so
  have e2 : SpE (VQ (rowTabs rows1)) (VQ (markRows pars)) := by
    have q1 : SpE (VQ (rowTabs rows1)) (M4.toSys rows1).S := by
      refine SpE.of (fun u hu => ?_) (fun u hu => ?_)
      · obtain ⟨q, hq, rfl⟩ := hu
        unfold rowTabs at hq
        obtain ⟨⟨p, zs⟩, hz, rfl⟩ := List.mem_map.mp hq
        exact M4.Sp.mem ⟨p, M4.mem_toSys.mpr ⟨zs, hz, ratOf_qv zs⟩⟩
      · obtain ⟨p, hp⟩ := hu
        obtain ⟨zs, hz, rfl⟩ := M4.mem_toSys.mp hp
        exact M4.Sp.mem ⟨_, List.mem_map.mpr ⟨(p, zs), hz, rfl⟩, (ratOf_qv zs).symm⟩
    exact q1.trans ((M4.toSys_perm perm).trans (e1.trans (VQ_ratOf _).symm))
  refine spanOk_of n6 (R.cast e2) (fun q hq => ?_) ?_ (by decide) (by decide)
  · unfold markRows at hq
    obtain ⟨v, hvm, rfl⟩ := List.mem_map.mp hq
    exact ⟨by rw [List.length_map]; exact (hv v hvm).1, ratOf_bq (hv v hvm).2⟩
  · unfold markRows
    rw [List.length_map]
    have := marksAll_len pars fun ns hns => (hp ns hns).2
    have : pars.length * n ≤ 3 * 6 := Nat.mul_le_mul h3 n6
    omega
/-! ### the law's lists -/
/-- rows of n cells that are small -/
def Small (n : Nat) (l : List (List Rat)) : Prop := ∀ q ∈ l, q.length = n ∧ BQ q 1597
theorem Small.app {n : Nat} {l r : List (List Rat)} (h : Small n l) (k : Small n r) : Small n (l ++ r) := fun q hq => (List.mem_append.mp hq).elim (h q) (k q)
theorem Small.len {n : Nat} {l : List (List Rat)} (h : Small n l) : ∀ q ∈ l, q.length = n := fun q hq => (h q hq).1
abbrev bigM : Nat := 100863
theorem mkM : mk_ 1597 6 = bigM := by decide
theorem Small.good {n : Nat} (hn : n ≤ 6) {l : List (List Rat)} (h : Small n l) : GoodT n 1597 bigM l := goodT_direct (r := 0) hn h (by decide) (by decide)
theorem Small.rs {n : Nat} (hn : n ≤ 6) {l : List (List Rat)} (h : Small n l) {rows : M4.IRows} (so : SpanOf l rows) : RS n (VQ l) bigM rows := spanOf_rs hn h so
theorem Small.ok {n : Nat} (hn : n ≤ 6) {l : List (List Rat)} (h : Small n l) (h200 : l.length ≤ 200) {rows : M4.IRows} (R : RS n (VQ l) bigM rows) : SpanOk n 1597 bigM (ratRows rows) l := spanOk_of hn R h h200 (by decide) (by decide)
section
variable {n : Nat} {S T : M4.Vec → Prop} {l : List (List Rat)} {rows1 rows2 : M4.IRows}
theorem uni_tab (R1 : RS n S bigM rows1) (R2 : RS n T bigM rows2) : ∀ q ∈ ratRows rows1 ++ ratRows rows2, q.length = n ∧ M4.Prim (M4.whole q) := fun q hq => by
  rcases List.mem_append.mp hq with hq | hq
  · exact ⟨R1.rat_len q hq, R1.rat_prim q hq⟩
  · exact ⟨R2.rat_len q hq, R2.rat_prim q hq⟩
theorem uni_e (R1 : RS n S bigM rows1) (R2 : RS n T bigM rows2) (e : SpE (fun u => S u ∨ T u) (VQ l)) : SpE (VQ (ratRows rows1 ++ ratRows rows2)) (VQ l) := (M4.VQ_app _ _).trans ((M4.SpE.or R1.vq R2.vq).trans e)
theorem uni_good (hn : n ≤ 6) (h : Small n l) (R1 : RS n S bigM rows1) (R2 : RS n T bigM rows2) (e : SpE (fun u => S u ∨ T u) (VQ l)) : GoodT n bigM bigM (ratRows rows1 ++ ratRows rows2) := by
  obtain ⟨D, eb⟩ := M4.eb_union hn (uni_tab R1 R2) h (uni_e R1 R2 e)
  refine ⟨hn, fun q hq => ⟨(uni_tab R1 R2 q hq).1, ?_⟩, by decide, fun p zs hm i => eb.entb hm i, by decide⟩
  rcases List.mem_append.mp hq with hq | hq
  · exact R1.rat_bq q hq
  · exact R2.rat_bq q hq
theorem uni_rs (hn : n ≤ 6) (h : Small n l) (R1 : RS n S bigM rows1) (R2 : RS n T bigM rows2) (e : SpE (fun u => S u ∨ T u) (VQ l)) {rows : M4.IRows} (so : SpanOf (ratRows rows1 ++ ratRows rows2) rows) : RS n (VQ l) bigM rows :=
  M4.rs_union hn (uni_tab R1 R2) h (uni_e R1 R2 e) so.1 so.2
theorem uni_64 (hn : n ≤ 6) (R1 : RS n S bigM rows1) (R2 : RS n T bigM rows2) : (ratRows rows1 ++ ratRows rows2).length ≤ 64 := by
  have := R1.count
  have := R2.count
  rw [List.length_append]; omega
theorem uni_bad (R1 : RS n S bigM rows1) (R2 : RS n T bigM rows2) : badT (n : Int) (ratRows rows1 ++ ratRows rows2) = none := badT_ok fun q hq => (uni_tab R1 R2 q hq).1
end
theorem wideOk_of {n : Nat} (hn : n ≤ 6) {l r : List (List Rat)} (hl : Small n l) (hr : Small n r) {rows : M4.IRows} (R : RS n (VQ l) bigM rows) : WideOk (n : Int) (ratRows rows) r :=
  ⟨⟨n, 1597, bigM, hr.good hn⟩, fun rows2 so =>
    have R2 := hr.rs hn so
    have e := (M4.VQ_app l r).symm
    ⟨uni_64 hn R R2, uni_bad R R2, n, bigM, bigM, uni_good hn (hl.app hr) R R2 e⟩⟩
theorem dec_iff {p q : Prop} [Decidable p] [Decidable q] (h : p ↔ q) : decide p = decide q := by
  by_cases c : p
  · rw [decide_eq_true c, decide_eq_true (h.mp c)]
  · rw [decide_eq_false c, decide_eq_false (fun z => c (h.mpr z))]
/-- the sizes told by the law -/
def up (l : List (List Rat)) : Nat := (upright l).length
theorem due_two {n : Nat} {l r : List (List Rat)} (hl : Small n l) (hr : Small n r) {rows1 rows2 : M4.IRows} (R1 : RS n (VQ l) bigM rows1) (R2 : RS n (VQ r) bigM rows2) :
    decide (min (min (up l) (up r)) (up (l ++ r)) = max (max (up l) (up r)) (up (l ++ r))) = decide (((n : Int), ratRows rows1) = ((n : Int), ratRows rows2)) := by
  refine dec_iff ?_
  have a := M4.ranks_same hl.len hr.len
  have b := M4.rs_eq R1 R2
  have c : (((n : Int), ratRows rows1) = ((n : Int), ratRows rows2)) ↔ ratRows rows1 = ratRows rows2 := ⟨fun z => congrArg Prod.snd z, fun z => by rw [z]⟩
  rw [c, b, ← a]
  unfold up
  omega
theorem due_one {n : Nat} {l r : List (List Rat)} (hl : Small n l) (hr : Small n r) {rows1 rows2 : M4.IRows} (R1 : RS n (VQ l) bigM rows1) (R2 : RS n (VQ (l ++ r)) bigM rows2) :
    decide (up l = up (l ++ r)) = decide (((n : Int), ratRows rows1) = ((n : Int), ratRows rows2)) := by
  refine dec_iff ?_
  have a := M4.up_append hl.len hr.len
  have b := M4.rs_eq R1 R2
  have c : (((n : Int), ratRows rows1) = ((n : Int), ratRows rows2)) ↔ ratRows rows1 = ratRows rows2 := ⟨fun z => congrArg Prod.snd z, fun z => by rw [z]⟩
  rw [c, b]
  unfold up
  exact ⟨fun e => (a.mp e.symm).symm, fun e => (a.mpr e.symm).symm⟩
theorem due_none {n : Nat} {l : List (List Rat)} (hl : Small n l) {rows1 : M4.IRows} (R1 : RS n (VQ l) bigM rows1) :
    decide (up l = 0) = decide (((n : Int), ([] : List (List Rat))) = ((n : Int), ratRows rows1)) := by
  refine dec_iff ?_
  have e := R1.len_up hl.len
  have c : (((n : Int), ([] : List (List Rat))) = ((n : Int), ratRows rows1)) ↔ ratRows rows1 = [] := ⟨fun z => (congrArg Prod.snd z).symm, fun z => by rw [z]⟩
  rw [c]
  unfold up
  rw [← e]
  exact List.length_eq_zero_iff
theorem due_same {n : Nat} {S T : M4.Vec → Prop} {rows1 rows2 : M4.IRows} (R1 : RS n S bigM rows1) (R2 : RS n T bigM rows2) (e : SpE S T) : true = decide (((n : Int), ratRows rows1) = ((n : Int), ratRows rows2)) := by
  rw [(M4.rs_eq R1 R2).mpr e]
  simp
end K4
/-! K43: the law. -/
namespace K4
open PySem PySem.Spec PyProof.Rows L2 StX LamX
open M4 (Bd BQ SB dj qe Canon canonN lotsOf RS SpE VQ VS ratRows addQ)
/-! ### small things -/
theorem pick_n {z : Int} (z0 : 0 ≤ z) (z6 : z < max 1 6) {i : Nat} {v : V} (h : [V.int (1 + z), .int 3, .int 3, .int 4, .int 4, .int 5, .int 6][i]? = some v) : ∃ n : Nat, v = .int n ∧ 1 ≤ n ∧ n ≤ 6 := by
  have m := List.mem_of_getElem? h
  simp only [List.mem_cons, List.not_mem_nil, or_false] at m
  rcases m with rfl | rfl | rfl | rfl | rfl | rfl | rfl
  · exact ⟨(1 + z).toNat, congrArg V.int (by omega), by omega, by omega⟩
  · exact ⟨3, rfl, by decide, by decide⟩
  · exact ⟨3, rfl, by decide, by decide⟩
  · exact ⟨4, rfl, by decide, by decide⟩
  · exact ⟨4, rfl, by decide, by decide⟩
  · exact ⟨5, rfl, by decide, by decide⟩
  · exact ⟨6, rfl, by decide, by decide⟩
theorem pick_m {i : Nat} {v : V} (h : [V.int 9, .int 9, .int 99][i]? = some v) : ∃ m : Int, v = .int m ∧ 1 ≤ m ∧ m ≤ 99 := by
  have m := List.mem_of_getElem? h
  simp only [List.mem_cons, List.not_mem_nil, or_false] at m
  rcases m with rfl | rfl | rfl
  · exact ⟨9, rfl, by decide, by decide⟩
  · exact ⟨9, rfl, by decide, by decide⟩
  · exact ⟨99, rfl, by decide, by decide⟩
theorem pick_k {i : Nat} {v : V} (h : [V.int 5, .int 5, .int 5, .int 5, .int 5, .int 64][i]? = some v) : ∃ m : Nat, v = .int m ∧ 5 ≤ m ∧ m ≤ 64 := by
  have m := List.mem_of_getElem? h
  simp only [List.mem_cons, List.not_mem_nil, or_false] at m
  rcases m with rfl | rfl | rfl | rfl | rfl | rfl
  · exact ⟨5, rfl, by decide, by decide⟩
  · exact ⟨5, rfl, by decide, by decide⟩
  · exact ⟨5, rfl, by decide, by decide⟩
  · exact ⟨5, rfl, by decide, by decide⟩
  · exact ⟨5, rfl, by decide, by decide⟩
  · exact ⟨64, rfl, by decide, by decide⟩
theorem tabs_stays {T : List (Addr × Str)} {c : Addr} {ns : List Int} {H H' : Hp} {st : Addr} (h : Tabs T H) (S : Sto c ns H st) (s : Stays st H H') : Tabs T H' := by
  obtain ⟨xs, hst⟩ := S.some
  exact ((tabs_cut hst h).ext s).ext (same_cut _ _)
theorem pIdx {α : Type} {F : α → V → Prop} {l : List α} {n : Nat} {ys : List V} (hn : l.length = n) (p : Paired (fun i y => ∃ q, l[i]? = some q ∧ F q y) (List.range n) ys) : Paired F l ys := by
  have e := pLen p
  rw [List.length_range] at e
  refine pOf (by omega) fun i x y hx hy => ?_
  obtain ⟨j, hj, q, h1, h2⟩ := pGet2 p hy
  have hi := (List.getElem?_eq_some_iff.mp hy).1
  rw [List.getElem?_range (by omega)] at hj
  cases hj
  rw [h1] at hx
  cases hx
  exact h2
theorem due_mm {n : Nat} {l r : List (List Rat)} (hl : Small n l) (hr : Small n r) {rows1 rows2 : M4.IRows} (R1 : RS n (VQ l) bigM rows1) (R2 : RS n (VQ r) bigM rows2) {mn mx : Int} (h1 : mn ∈ [((up l : Nat) : Int), (up r : Nat), (up (l ++ r) : Nat)]) (h2 : ∀ y ∈ [((up l : Nat) : Int), (up r : Nat), (up (l ++ r) : Nat)], mn ≤ y) (h3 : mx ∈ [((up l : Nat) : Int), (up r : Nat), (up (l ++ r) : Nat)]) (h4 : ∀ y ∈ [((up l : Nat) : Int), (up r : Nat), (up (l ++ r) : Nat)], y ≤ mx) :
    decide (V.int mn = V.int mx) = decide (((n : Int), ratRows rows1) = ((n : Int), ratRows rows2)) := by
  rw [← due_two hl hr R1 R2]
  refine dec_iff ?_
  have a1 := h2 _ List.mem_cons_self
  have a2 := h2 ((up r : Nat) : Int) (by simp)
  have a3 := h2 ((up (l ++ r) : Nat) : Int) (by simp)
  have b1 := h4 _ List.mem_cons_self
  have b2 := h4 ((up r : Nat) : Int) (by simp)
  have b3 := h4 ((up (l ++ r) : Nat) : Int) (by simp)
  simp only [List.mem_cons, List.not_mem_nil, or_false] at h1 h3
  rw [V.int.injEq]
  omega
theorem ints_nums {f : Nat → Int} {H : Hp} {n : Nat} {ys : List V} (p : Paired (fun i y => y = V.int (f i)) (List.range n) ys) : Paired (fun q v => isNum H v q) ((List.range n).map fun i => ((f i : Int) : Rat)) ys :=
  pMapL (pImp p fun i y e => .inl ⟨f i, e, rfl⟩)
/-- a fact that what only grows keeps -/
def Mn (p : Hp → Prop) : Prop := ∀ G G', ExtN G G' → p G → p G'
theorem Mn.and {p q : Hp → Prop} (h : Mn p) (k : Mn q) : Mn fun G => p G ∧ q G := fun G G' e ⟨a, b⟩ => ⟨h G G' e a, k G G' e b⟩
theorem mn_of {δ : Type} {R : RelH δ} (m : MonoN R) (v : V) (d : δ) : Mn fun G => R G v d := fun G G' e h => m G G' v d e h
theorem mn_pair {α : Type} {R : RelH α} (m : MonoN R) (xs : List α) (vs : List V) : Mn fun G => Paired (fun q v => R G v q) xs vs := fun G G' e h => pImp h fun _ _ r => m _ _ _ _ e r
theorem mn_lst (p : Addr) (xs : List V) : Mn fun G => G p = some (.lst xs) := fun G G' e h => e _ _ h (fun _ z => by cases z)
theorem hide_extst {ls : List Addr} {st : Addr} {H H' : Hp} (h : st ∈ ls) (e : ExtN (cut H st) (cut H' st)) : ExtN (hide ls H) (hide ls H') := fun b o hb n => by
  obtain ⟨nb, e1⟩ := hide_some hb
  have ns : b ≠ st := fun z => nb (z ▸ h)
  rw [hide_at nb]
  exact (cut_some (e b o (by rw [cut_ne ns]; exact e1) n)).2
/-- the law's own lists, and all that stands beside them -/
structure Lw (P0 st T O c : Addr) (ns : List Int) (tvs ovs : List V) (p : Hp → Prop) (H : Hp) : Prop where
  sto : Sto c ns H st
  tb : Tabs (lamT P0) H
  aT : H T = some (.lst tvs)
  aO : H O = some (.lst ovs)
  nT : T ≠ st
  nO : O ≠ st
  nTO : T ≠ O
  fx : p (hide [st, T, O] H)
  mn : Mn p
section
variable {P0 st T O c : Addr} {ns : List Int} {tvs ovs : List V} {p : Hp → Prop} {H H' : Hp}
theorem Lw.lists (I : Lw P0 st T O c ns tvs ovs p H) : Lists [st, T, O] H := fun a ha => by
  simp only [List.mem_cons, List.not_mem_nil, or_false] at ha
  rcases ha with rfl | rfl | rfl
  · exact I.sto.some
  · exact ⟨_, I.aT⟩
  · exact ⟨_, I.aO⟩
theorem Lw.ext (I : Lw P0 st T O c ns tvs ovs p H) (e : ExtN H H') (t : Tabs (lamT P0) H') : Lw P0 st T O c ns tvs ovs p H' :=
  ⟨I.sto.keepN e, t, e _ _ I.aT (fun _ z => by cases z), e _ _ I.aO (fun _ z => by cases z), I.nT, I.nO, I.nTO, I.mn _ _ (hide_ext e) I.fx, I.mn⟩
theorem Lw.same (I : Lw P0 st T O c ns tvs ovs p H) (s : Same H H') : Lw P0 st T O c ns tvs ovs p H' := I.ext (extN_of s) (I.tb.ext s)
theorem Lw.stays (I : Lw P0 st T O c ns tvs ovs p H) (s : Stays st H H') (S : Sto c ns H' st) : Lw P0 st T O c ns tvs ovs p H' :=
  ⟨S, tabs_stays I.tb I.sto s, stays_at s I.nT I.aT, stays_at s I.nO I.aO, I.nT, I.nO, I.nTO, I.mn _ _ (extN_of (hide_stays List.mem_cons_self s)) I.fx, I.mn⟩
theorem Lw.extst (I : Lw P0 st T O c ns tvs ovs p H) (e : ExtN (cut H st) (cut H' st)) (S : Sto c ns H' st) (t : Tabs (lamT P0) H') : Lw P0 st T O c ns tvs ovs p H' := by
  have at_ : ∀ {b : Addr} {xs : List V}, b ≠ st → H b = some (.lst xs) → H' b = some (.lst xs) := fun {b xs} n h => (cut_some (e b _ (by rw [cut_ne n]; exact h) (fun _ z => by cases z))).2
  exact ⟨S, t, at_ I.nT I.aT, at_ I.nO I.aO, I.nT, I.nO, I.nTO, I.mn _ _ (hide_extst List.mem_cons_self e) I.fx, I.mn⟩
theorem Lw.add (I : Lw P0 st T O c ns tvs ovs p H) (q : Hp → Prop) (mq : Mn q) (h : q (hide [st, T, O] H)) : Lw P0 st T O c ns tvs ovs (fun G => p G ∧ q G) H :=
  ⟨I.sto, I.tb, I.aT, I.aO, I.nT, I.nO, I.nTO, ⟨I.fx, h⟩, I.mn.and mq⟩
theorem Lw.here (I : Lw P0 st T O c ns tvs ovs p H) : p H := I.mn _ _ (extN_of (same_hide _ _)) I.fx
theorem Lw.span {CS CT : Addr} {v : V} {d : Int × List (List Rat)} (I : Lw P0 st T O c ns tvs ovs p H) (h : isSpan CS CT H v d) : Lw P0 st T O c ns tvs ovs (fun G => p G ∧ isSpan CS CT G v d) H := I.add _ (mn_of monoN_Span v d) (off_hide offL_Span I.lists h)
theorem Lw.lst {b : Addr} {xs : List V} (I : Lw P0 st T O c ns tvs ovs p H) (n : b ∉ [st, T, O]) (h : H b = some (.lst xs)) : Lw P0 st T O c ns tvs ovs (fun G => p G ∧ G b = some (.lst xs)) H := I.add _ (mn_lst b xs) (by rw [hide_at n]; exact h)
end
section
variable {P : Program} {w : World} {K : PySem.W.Frag} {mg : Str → Option Value} {base : Heap} {C_NoPlots C_TooMany C_UnlikePlots C_Table C_Span C_Parting P0 : Addr}
def spLaw (K : PySem.W.Frag) (P0 : Addr) : L2.Sp := fun vs H Q _ => ∃ (a : Addr) (ns : List Int), vs = [.ref a] ∧ SqL K H a (ns.map V.int) ∧ ns.length ≤ sizeLine ∧ Tabs (lamT P0) H ∧ ∀ H', Q (.bl true) H'
theorem sc_law : FnScope ["_law_script", "_law_store_here", "_law_plots", "_law_left", "_law_right", "_law_k", "_law_tables", "_law_others", "_law_one", "_law_two", "_law_both", "_law_wide", "_law_sizes", "_law_other", "_law_partings", "_law_more", "_law_cells", "_law_rows"] ["_law_script"] (defScope s_law) := ⟨rfl, rfl, rfl, by decide +kernel, rfl, by decide +kernel, by decide +kernel⟩

theorem FunD.ok0 {f : Addr} {fd : FuncData} {name qual : Str} {st : Stmt} {N ps : List Str} {k : Nat} {dvs : List V} {sp : L2.Sp} (F : FunD K name qual (defArgs st) (defBody st) (defScope st) dvs [] f fd) (S : FnScope N ps (defScope st)) (len : ∀ vs H Q E, sp vs H Q E → vs.length = ps.length)
    (hbody : ∀ (cdv : Value) (A : Around) (outer : List Env) (s : Shared) (H : Hp) (vs : List V) (Q : VK) (E : XK), Room k (A.deeper (envOfC qual (defScope st) s.heap.objs.size f cdv)) → sp vs H Q E →
      ∃ t, PSs (cxOf CX0 P w K mg base N qual (defScope st) f cdv A outer s H E).nox (defBody st) t ∧ t { nx := fun _ H' => Q .non H', rt := Q } (start N vs) H) : FnOk P w K mg base CX0 (k + 1) f fd ps sp :=
  F.ok S len fun cdv A outer s H vs Q E hr h => by
    obtain ⟨t, a, b⟩ := hbody cdv A outer s H vs Q E hr h
    exact ⟨t, a.nox, b⟩
theorem ok_law {fW g f0 : Addr} {fd : FuncData} (D : FunD K "law" "law" (defArgs s_law) (defBody s_law) (defScope s_law) [] [] f0 fd) (c_Span : mg "Span" = some (.ref C_Span)) (c_Table : mg "Table" = some (.ref C_Table)) (cS : Cls K C_Span) (mW : Meth K C_Span "widened" fW) (ok_widened : FnR P w K mg base (L2.CX P w) 46 fW (spWiden C_Span C_Table C_TooMany C_UnlikePlots P0))
    (hsf : PySem.W.selfFirst K C_Span = true) (hor : PySem.W.findIn K (.ref C_Span) "__or__" = some (some (.ref g))) (hfn : PySem.W.isFn K (.ref g) = true) (ok_or : FnR P w K mg base (L2.CX P w) 44 g (spOr C_Span C_Table C_UnlikePlots P0))
    (ok_Span : CalM P w K mg base (L2.CX P w) 42 "Span" C_Span (spSpan_init C_Span C_Table C_TooMany C_UnlikePlots P0)) (ok_Span0 : CalM P w K mg base (L2.CX P w) 42 "Span" C_Span (spSpan_init0 C_Span C_Table P0)) (ok_Table : CalM P w K mg base CX0 39 "Table" C_Table (spTable_init C_Table)) (ok_zeros : CalC P w K mg base CX0 41 C_Table "zeros" (spZeros C_Table))
    (ok__law_store : Cal P w K mg base CX0 33 "_law_store" (spStore K)) (ok__law_take : Cal P w K mg base CX0 35 "_law_take" spTake) (ok__law_once : Cal P w K mg base CX0 37 "_law_once" spOnce) (ok__law_pick : Cal P w K mg base CX0 37 "_law_pick" (spPick K)) (ok__law_listed : Cal P w K mg base CX0 41 "_law_listed" spListed) (ok__law_addcells : Cal P w K mg base CX0 39 "_law_addcells" spAddcells)
    (ok__law_isspan : Cal P w K mg base CX0 45 "_law_isspan" (spIsspan C_Span C_Table)) (ok__law_upright : Cal P w K mg base CX0 43 "_law_upright" spUpright) (ok__law_equals : Cal P w K mg base CX0 39 "_law_equals" (spEquals C_Span C_Table)) (ok__law_otherplots : Cal P w K mg base CX0 39 "_law_otherplots" spOther) (ok__law_parted : Cal P w K mg base CX0 48 "_law_parted" (spParted C_Parting P0)) (ok__law_refuses : Cal P w K mg base CX0 50 "_law_refuses" (spRefuses C_Span C_Table C_Parting P0))
    (T_len : mg "len" = none) (T_range : mg "range" = none) (T_list : mg "list" = none) (T_min : mg "min" = none) (T_max : mg "max" = none) : FnOk P w K mg base CX0 52 f0 fd ["_law_script"] (spLaw K P0) := by
  refine FunD.ok0 D sc_law (fun vs H Q E h => ?_) (fun cdv A outer s H vs Q E hr h => ?_)
  · obtain ⟨a, ns, rfl, _⟩ := h; rfl
  · obtain ⟨a, ns, rfl, ha, hl, hT, k⟩ := h
    refine ⟨_, (pss_cons (ps_set (i := 1) sc_law.nd rfl (by first | exact Or.inl rfl | exact Or.inr rfl) (pe_cal ok__law_store (hr.mono (by decide)) (pa_cons (pv 0) pa_nil)))
      (pss_cons (ps_set (i := 2) sc_law.nd rfl (by first | exact Or.inl rfl | exact Or.inr rfl) (pe_cal ok__law_pick (hr.mono (by decide)) (pa_cons (pv 1) (pa_cons (pe_tup (pa_cons (pe_op op_add pe_int (pe_cal ok__law_take (hr.mono (by decide)) (pa_cons (pv 1) (pa_cons pe_int pa_nil)))) (pa_cons pe_int (pa_cons pe_int (pa_cons pe_int (pa_cons pe_int (pa_cons pe_int (pa_cons pe_int pa_nil)))))))) pa_nil))))
      (pss_cons (ps_set (i := 3) sc_law.nd rfl (by first | exact Or.inl rfl | exact Or.inr rfl) (pe_cal ok__law_listed (hr.mono (by decide)) (pa_cons (pv 1) (pa_cons (pv 2) (pa_cons (pe_cal ok__law_pick (hr.mono (by decide)) (pa_cons (pv 1) (pa_cons (pe_tup (pa_cons pe_int (pa_cons pe_int (pa_cons pe_int pa_nil)))) pa_nil))) pa_nil)))))
      (pss_cons (ps_set (i := 4) sc_law.nd rfl (by first | exact Or.inl rfl | exact Or.inr rfl) (pe_cal ok__law_listed (hr.mono (by decide)) (pa_cons (pv 1) (pa_cons (pv 2) (pa_cons pe_int pa_nil)))))
      (pss_cons (ps_if (PW.pt (pw_and (pt_cmpR op_gt (pe_callB (call_lenK K) (by rfl) T_len b_len (pa_cons (pv 3) pa_nil)) pe_int (nomark _)) (pw_and1 (pt_val (pe_cal ok__law_once (hr.mono (by decide)) (pa_cons (pv 1) (pa_cons pe_int pa_nil))))))) (pss_cons (ps_set (i := 4) sc_law.nd rfl (by first | exact Or.inl rfl | exact Or.inr rfl) (pe_lst pa_nil))
      (pss_one (ps_for PassesOwn.never rfl (pi_range1 (by rfl) T_range (pa_cons (pe_op op_add pe_int (pe_cal ok__law_take (hr.mono (by decide)) (pa_cons (pv 1) (pa_cons pe_int pa_nil)))) pa_nil)) (pg_name (i := 5) sc_law.nd rfl (by first | exact Or.inl rfl | exact Or.inr rfl)) (pss_one (ps_expr (pe_bm PySem.F.plainAttrs_list PySem.F.slot_list_append PySem.F.type_list_append mt_append (pv 4) (pa_cons (pe_cal ok__law_addcells (hr.mono (by decide)) (pa_cons (pe_cal ok__law_pick (hr.mono (by decide)) (pa_cons (pv 1) (pa_cons (pv 3) pa_nil))) (pa_cons (pe_cal ok__law_pick (hr.mono (by decide)) (pa_cons (pv 1) (pa_cons (pv 3) pa_nil))) (pa_cons (pe_tup (pa_cons (pe_op op_sub (pe_cal ok__law_take (hr.mono (by decide)) (pa_cons (pv 1) (pa_cons pe_int pa_nil))) pe_int) (pa_cons pe_int pa_nil))) pa_nil)))) pa_nil))))))) pss_nil)
      (pss_cons (ps_setLc (i := 6) (own := [("_law_cells", 16)]) (tt := tYes) (g := (gName 16)) rfl sc_law.nd rfl rfl (sw_true rfl rfl rfl (by decide +kernel)) (pi_listK K (pv 3)) (blkOk_by (N := ["_law_script", "_law_store_here", "_law_plots", "_law_left", "_law_right", "_law_k", "_law_tables", "_law_others", "_law_one", "_law_two", "_law_both", "_law_wide", "_law_sizes", "_law_other", "_law_partings", "_law_more", "_law_cells", "_law_rows"]) (sc := defScope s_law) (by decide +kernel)) (fun _ _ _ _ _ => (pg_name (i := 16) sc_law.nd rfl (by first | exact Or.inl rfl | exact Or.inr rfl))) (fun _ _ _ _ _ => pts_nil) (fun _ _ _ _ _ => (pe_mk ok_Table (hr.mono (by decide)) (pa_cons (pe_callTy (call_listK K) (by rfl) T_list b_list (pa_cons (pv 16) pa_nil)) pa_nil))))
      (pss_cons (ps_setLc (i := 7) (own := [("_law_cells", 16)]) (tt := tYes) (g := (gName 16)) rfl sc_law.nd rfl rfl (sw_true rfl rfl rfl (by decide +kernel)) (pi_listK K (pv 4)) (blkOk_by (N := ["_law_script", "_law_store_here", "_law_plots", "_law_left", "_law_right", "_law_k", "_law_tables", "_law_others", "_law_one", "_law_two", "_law_both", "_law_wide", "_law_sizes", "_law_other", "_law_partings", "_law_more", "_law_cells", "_law_rows"]) (sc := defScope s_law) (by decide +kernel)) (fun _ _ _ _ _ => (pg_name (i := 16) sc_law.nd rfl (by first | exact Or.inl rfl | exact Or.inr rfl))) (fun _ _ _ _ _ => pts_nil) (fun _ _ _ _ _ => (pe_mk ok_Table (hr.mono (by decide)) (pa_cons (pe_callTy (call_listK K) (by rfl) T_list b_list (pa_cons (pv 16) pa_nil)) pa_nil))))
      (pss_cons (ps_set (i := 8) sc_law.nd rfl (by first | exact Or.inl rfl | exact Or.inr rfl) (pe_mk ok_Span.calm (hr.mono (by decide)) (pa_cons (pv 2) (pa_cons (pv 6) pa_nil))))
      (pss_cons (ps_set (i := 9) sc_law.nd rfl (by first | exact Or.inl rfl | exact Or.inr rfl) (pe_mk ok_Span.calm (hr.mono (by decide)) (pa_cons (pv 2) (pa_cons (pv 7) pa_nil))))
      (pss_cons (ps_set (i := 10) sc_law.nd rfl (by first | exact Or.inl rfl | exact Or.inr rfl) (pe_op op_cat (pv 3) (pv 4)))
      (pss_cons (ps_set (i := 11) sc_law.nd rfl (by first | exact Or.inl rfl | exact Or.inr rfl) (pe_methR (pv 8) cS mW (FnR.calm ok_widened) (hr.mono (by decide)) pass0 (pa_cons (pv 7) pa_nil)))
      (pss_cons (ps_if (PW.pt (pw_or (pt_not (pt_val (pe_cal ok__law_isspan (hr.mono (by decide)) (pa_cons (pv 11) (pa_cons (pv 10) (pa_cons (pv 2) pa_nil)))))) (pw_or1 (pt_not (pt_val (pe_cal ok__law_isspan (hr.mono (by decide)) (pa_cons (pe_op (op_orO hsf hor hfn (FnR.calm ok_or) (hr.mono (by decide)) pass0) (pv 8) (pv 9)) (pa_cons (pv 10) (pa_cons (pv 2) pa_nil))))))))) (pss_one (ps_ret pe_bl)) pss_nil)
      (pss_cons (ps_setLc (i := 12) (own := [("_law_rows", 17)]) (tt := tYes) (g := (gName 17)) rfl sc_law.nd rfl rfl (sw_true rfl rfl rfl (by decide +kernel)) (pi_tupK K (pe_tup (pa_cons (pv 3) (pa_cons (pv 4) (pa_cons (pv 10) pa_nil))))) (blkOk_by (N := ["_law_script", "_law_store_here", "_law_plots", "_law_left", "_law_right", "_law_k", "_law_tables", "_law_others", "_law_one", "_law_two", "_law_both", "_law_wide", "_law_sizes", "_law_other", "_law_partings", "_law_more", "_law_cells", "_law_rows"]) (sc := defScope s_law) (by decide +kernel)) (fun _ _ _ _ _ => (pg_name (i := 17) sc_law.nd rfl (by first | exact Or.inl rfl | exact Or.inr rfl))) (fun _ _ _ _ _ => pts_nil) (fun _ _ _ _ _ => (pe_callB (call_lenK K) (by rfl) T_len b_len (pa_cons (pe_cal ok__law_upright (hr.mono (by decide)) (pa_cons (pv 17) pa_nil)) pa_nil))))
      (pss_cons (ps_if (PW.pt (pw_or (pt_not (pt_val (pe_cal ok__law_equals (hr.mono (by decide)) (pa_cons (pv 8) (pa_cons (pv 9) (pa_cons (pe_cmpR op_eq (pe_callB (cr_minK' K rfl) (by rfl) T_min b_min (pa_cons (pv 12) pa_nil)) (pe_callB (cr_maxK K rfl) (by rfl) T_max b_max (pa_cons (pv 12) pa_nil)) (nomark _)) pa_nil)))))) (pw_or1 (pt_not (pt_val (pe_cal ok__law_equals (hr.mono (by decide)) (pa_cons (pv 11) (pa_cons (pe_op (op_orO hsf hor hfn (FnR.calm ok_or) (hr.mono (by decide)) pass0) (pv 9) (pv 8)) (pa_cons pe_bl pa_nil))))))))) (pss_one (ps_ret pe_bl)) pss_nil)
      (pss_cons (ps_if (PW.pt (pw_or (pt_not (pt_val (pe_cal ok__law_equals (hr.mono (by decide)) (pa_cons (pv 8) (pa_cons (pv 11) (pa_cons (pe_cmpR op_eq (pe_ix (ix_n K) (pv 12) pe_int (fun _ _ => rfl)) (pe_ix (ix_n K) (pv 12) pe_int (fun _ _ => rfl)) (nomark _)) pa_nil)))))) (pw_or1 (pt_not (pt_val (pe_cal ok__law_equals (hr.mono (by decide)) (pa_cons (pv 8) (pa_cons (pv 6) (pa_cons pe_bl pa_nil))))))))) (pss_one (ps_ret pe_bl)) pss_nil)
      (pss_cons (ps_set (i := 13) sc_law.nd rfl (by first | exact Or.inl rfl | exact Or.inr rfl) (pe_cal ok__law_otherplots (hr.mono (by decide)) (pa_cons (pv 1) (pa_cons (pv 2) pa_nil))))
      (pss_cons (ps_if (PW.pt (pw_or (pt_not (pt_val (pe_cal ok__law_equals (hr.mono (by decide)) (pa_cons (pe_mk ok_Span0.calm (hr.mono (by decide)) (pa_cons (pv 2) pa_nil)) (pa_cons (pe_mk ok_Span0.calm (hr.mono (by decide)) (pa_cons (pv 13) pa_nil)) (pa_cons pe_bl pa_nil)))))) (pw_or1 (pt_not (pt_val (pe_cal ok__law_equals (hr.mono (by decide)) (pa_cons (pe_mk ok_Span0.calm (hr.mono (by decide)) (pa_cons (pv 2) pa_nil)) (pa_cons (pv 8) (pa_cons (pe_cmpR op_eq (pe_ix (ix_n K) (pv 12) pe_int (fun _ _ => rfl)) pe_int (nomark _)) pa_nil))))))))) (pss_one (ps_ret pe_bl)) pss_nil)
      (pss_cons (ps_set (i := 14) sc_law.nd rfl (by first | exact Or.inl rfl | exact Or.inr rfl) (pe_cal ok__law_parted (hr.mono (by decide)) (pa_cons (pv 1) (pa_cons (pv 2) pa_nil))))
      (pss_cons (ps_if (pt_cmpR op_isN (pv 14) pe_non (nomark _)) (pss_one (ps_ret pe_bl)) pss_nil)
      (pss_cons (ps_set (i := 15) sc_law.nd rfl (by first | exact Or.inl rfl | exact Or.inr rfl) (pe_op op_cat (pv 7) (pe_lc (own := [("_law_k", 5)]) (tt := tYes) (g := (gName 5)) rfl sc_law.nd (pi_range1 (by rfl) T_range (pa_cons (pe_op op_sub (pe_cal ok__law_pick (hr.mono (by decide)) (pa_cons (pv 1) (pa_cons (pe_tup (pa_cons pe_int (pa_cons pe_int (pa_cons pe_int (pa_cons pe_int (pa_cons pe_int (pa_cons pe_int pa_nil))))))) pa_nil))) (pe_callB (call_lenK K) (by rfl) T_len b_len (pa_cons (pv 7) pa_nil))) pa_nil)) (blkOk_by (N := ["_law_script", "_law_store_here", "_law_plots", "_law_left", "_law_right", "_law_k", "_law_tables", "_law_others", "_law_one", "_law_two", "_law_both", "_law_wide", "_law_sizes", "_law_other", "_law_partings", "_law_more", "_law_cells", "_law_rows"]) (sc := defScope s_law) (by decide +kernel)) (fun _ _ _ _ _ => (pg_name (i := 5) sc_law.nd rfl (by first | exact Or.inl rfl | exact Or.inr rfl))) (fun _ _ _ _ _ => pts_nil) (fun _ _ _ _ _ => (pe_cm (pe_glob (v := .ref C_Table) rfl c_Table rfl) ok_zeros (hr.mono (by decide)) pass0 (pa_cons (pv 2) pa_nil))))))
      (pss_cons (ps_if (pt_not (pt_val (pe_cal ok__law_refuses (hr.mono (by decide)) (pa_cons (pv 8) (pa_cons (pv 15) (pa_cons (pv 14) (pa_cons (pv 2) (pa_cons (pv 13) pa_nil)))))))) (pss_one (ps_ret pe_bl)) pss_nil)
      (pss_cons (ps_expr (pe_bm PySem.F.plainAttrs_list PySem.F.slot_list_append PySem.F.type_list_append mt_append (pv 7) (pa_cons (pe_mk ok_Table (hr.mono (by decide)) (pa_cons (pe_lc (own := [("_law_k", 5)]) (tt := tYes) (g := (gName 5)) rfl sc_law.nd (pi_range1 (by rfl) T_range (pa_cons (pv 2) pa_nil)) (blkOk_by (N := ["_law_script", "_law_store_here", "_law_plots", "_law_left", "_law_right", "_law_k", "_law_tables", "_law_others", "_law_one", "_law_two", "_law_both", "_law_wide", "_law_sizes", "_law_other", "_law_partings", "_law_more", "_law_cells", "_law_rows"]) (sc := defScope s_law) (by decide +kernel)) (fun _ _ _ _ _ => (pg_name (i := 5) sc_law.nd rfl (by first | exact Or.inl rfl | exact Or.inr rfl))) (fun _ _ _ _ _ => pts_nil) (fun _ _ _ _ _ => (pe_op op_add (pv 5) pe_int))) pa_nil)) pa_nil)))
      (pss_cons (ps_expr (pe_bm PySem.F.plainAttrs_list PySem.F.slot_list_append PySem.F.type_list_append mt_append (pv 6) (pa_cons (pe_mk ok_Table (hr.mono (by decide)) (pa_cons (pe_lc (own := [("_law_k", 5)]) (tt := tYes) (g := (gName 5)) rfl sc_law.nd (pi_range1 (by rfl) T_range (pa_cons (pv 2) pa_nil)) (blkOk_by (N := ["_law_script", "_law_store_here", "_law_plots", "_law_left", "_law_right", "_law_k", "_law_tables", "_law_others", "_law_one", "_law_two", "_law_both", "_law_wide", "_law_sizes", "_law_other", "_law_partings", "_law_more", "_law_cells", "_law_rows"]) (sc := defScope s_law) (by decide +kernel)) (fun _ _ _ _ _ => (pg_name (i := 5) sc_law.nd rfl (by first | exact Or.inl rfl | exact Or.inr rfl))) (fun _ _ _ _ _ => pts_nil) (fun _ _ _ _ _ => (pe_op op_sub pe_int (pv 5)))) pa_nil)) pa_nil)))
      (pss_one (ps_ret (pe_and (pe_cal ok__law_isspan (hr.mono (by decide)) (pa_cons (pv 11) (pa_cons (pv 10) (pa_cons (pv 2) pa_nil)))) (pe_and (pe_cal ok__law_isspan (hr.mono (by decide)) (pa_cons (pv 8) (pa_cons (pv 3) (pa_cons (pv 2) pa_nil)))) (pe_one (pe_cal ok__law_isspan (hr.mono (by decide)) (pa_cons (pv 9) (pa_cons (pv 4) (pa_cons (pv 2) pa_nil)))))))))))))))))))))))))))))))), ?_⟩
    -- the store, the count of plots
    refine ⟨_, rfl, a, ns, rfl, ha, hl, fun st c H1 s1 hst S1 => ?_⟩
    have T1 : Tabs (lamT P0) H1 := (hT.ext s1).ext (same_cut _ _)
    refine gn ?_
    dsimp only
    refine ⟨_, rfl, _, rfl, st, 6, c, ns, rfl, S1, by decide, fun z H2 z0 z6 s2 S2 => ?_⟩
    have T2 := tabs_stays T1 S1 s2
    refine ⟨_, _, rfl, rfl, by show 7 ≤ sizeLine; decide, fun t ht => ?_⟩
    obtain ⟨nt, _⟩ := S2.ne ht
    have s3 : Same H2 (upd H2 t (.tup [.int (1 + z), .int 3, .int 3, .int 4, .int 4, .int 5, .int 6])) := same_upd ht
    refine ⟨st, t, _, c, ns, rfl, S2.keep s3, .inr (.inl (.inl (by rw [cut_ne (Ne.symm nt)]; exact upd_same))), by show 1 ≤ 7; decide, by show 7 ≤ 1000; decide, fun i v H4 hi s4 S4 => ?_⟩
    have T4 := tabs_stays (T2.ext s3) (S2.keep s3) s4
    obtain ⟨n, rfl, n1, n6⟩ := pick_n z0 z6 hi
    clear s1 s2 s3 s4 T1 T2 S1 S2
    refine gn ?_
    dsimp only
    -- the left rows
    refine ⟨_, rfl, _, rfl, _, rfl, by show 3 ≤ sizeLine; decide, fun t5 ht5 => ?_⟩
    obtain ⟨nt5, _⟩ := S4.ne ht5
    have s5 : Same H4 (upd H4 t5 (.tup [.int 9, .int 9, .int 99])) := same_upd ht5
    refine ⟨st, t5, _, c, ns, rfl, S4.keep s5, .inr (.inl (.inl (by rw [cut_ne (Ne.symm nt5)]; exact upd_same))), by show 1 ≤ 3; decide, by show 3 ≤ 1000; decide, fun i5 v5 H6 hi5 s6 S6 => ?_⟩
    have T6 := tabs_stays (T4.ext s5) (S4.keep s5) s6
    obtain ⟨most, rfl, m1, m99⟩ := pick_m hi5
    refine ⟨st, n, most, c, ns, rfl, S6, n6, m1, m99, fun lp H7 left s7 S7 hlp hleft l5 lsm => ?_⟩
    have T7 := tabs_stays T6 S6 s7
    clear s5 s6 T6 S6 T4 S4
    refine gn ?_
    dsimp only
    -- the right rows
    refine ⟨_, rfl, _, rfl, st, n, 9, c, ns, rfl, S7, n6, by decide, by decide, fun rp0 H8 right0 s8 S8 hrp0 hright0 r50 rsm0 => ?_⟩
    have T8 := tabs_stays T7 S7 s8
    have hleft8 := mono_L (mono_L mono_Q) _ _ _ _ s8 hleft
    refine gn ?_
    dsimp only
    have big : ∀ {q : List Rat}, BQ q 797 → BQ q 1597 := fun h => h.mono (by decide)
    have hlS : Small n left := fun q hq => ⟨(lsm q hq).1, big (lsm q hq).2⟩
    refine seq_by (A := tIfS _ _ _) (fun σ H' => ∃ rp right o5, σ = [some (.ref a), some (.ref st), some (.int n), some (.ref lp), some (.ref rp), o5, none, none, none, none, none, none, none, none, none, none, none, none] ∧ Sto c ns H' st ∧ Tabs (lamT P0) H' ∧ isL (isL isQ) (cut H' st) (.ref lp) left ∧ isL (isL isQ) (cut H' st) (.ref rp) right ∧ Small n right ∧ right.length ≤ 5) (fun D' kD => ?_) ?_
    · have skip : ∀ H', Stays st H8 H' → Sto c ns H' st → D'.nx _ H' := fun H' s S => kD [some (.ref a), some (.ref st), some (.int n), some (.ref lp), some (.ref rp0), none, none, none, none, none, none, none, none, none, none, none, none, none] H' ⟨rp0, right0, _, rfl, S, tabs_stays T8 S8 s, mono_L (mono_L mono_Q) _ _ _ _ s hleft8, mono_L (mono_L mono_Q) _ _ _ _ s hright0, fun q hq => ⟨(rsm0 q hq).1, big (rsm0 q hq).2⟩, r50⟩
      obtain ⟨lp', lvs, e, hlv, hlvp⟩ := id hleft8
      cases e
      have ll := pLen hlvp
      obtain ⟨nlst, hlv8⟩ := cut_some hlv
      refine ⟨_, rfl, lp, _, rfl, .inl (SqL.of hlv8), _, _, rfl, rfl, _, rfl, ite_dec (fun c1 => ?_) (fun _ => iteN rfl (skip H8 (Stays.refl _) S8))⟩
      refine ⟨_, rfl, st, 2, c, ns, rfl, S8, by decide, fun b H9 s9 S9 => ⟨_, rfl, ite_any ?_ (skip H9 s9 S9)⟩⟩
      have hleft9 := mono_L (mono_L mono_Q) _ _ _ _ s9 hleft8
      have T9 := tabs_stays T8 S8 s9
      refine ⟨Nat.zero_le _, fun L hL => ?_⟩
      have s10 : Same H9 (upd H9 L (.lst [])) := same_upd hL
      obtain ⟨nst, nc⟩ := S9.ne hL
      have eh : hide [L, st] (upd H9 L (.lst [])) = cut H9 st := by rw [hide_upd List.mem_cons_self, hide_none hL, hide_one]
      have hl10 : isL (isL isQ) (hide [L, st] (upd H9 L (.lst []))) (.ref lp) left := by rw [eh]; exact hleft9
      have hL10 := upd_same (H := H9) (a := L) (o := .lst [])
      have S10 := S9.keep s10
      have T10 := T9.ext s10
      generalize upd H9 L (.lst []) = H10 at *
      refine gn ?_
      dsimp only
      refine ⟨_, rfl, st, 4, c, ns, rfl, S10, by decide, fun z H11 z0 z4 s11 S11 => ?_⟩
      refine ⟨_, _, rfl, rfl, (1 + z).toNat, by rw [Int.toNat_of_nonneg (by omega)], by omega, by omega, for_it (walk_range (lo := 0)) (fun i σ H' => ∃ o5 acc rows, σ = [some (.ref a), some (.ref st), some (.int n), some (.ref lp), some (.ref L), o5, none, none, none, none, none, none, none, none, none, none, none, none] ∧ H' L = some (.lst acc) ∧ Sto c ns H' st ∧ Tabs (lamT P0) H' ∧ Same (hide [L, st] H10) (hide [L, st] H') ∧ Paired (fun q v => isL isQ (hide [L, st] H') v q) rows acc ∧ rows.length = i ∧ Small n rows)
        ⟨none, [], [], rfl, stays_at s11 (Ne.symm nst) hL10, S11, tabs_stays T10 S10 s11, hide_stays (by simp) s11, .nil, rfl, fun _ z => by simp at z⟩ (fun _ _ _ _ _ => trivial) ?_ ?_⟩
      · rintro i x σ H12 H13 hi ⟨o5, acc, rows, rfl, hacc, S12, T12, f12, hr12, rl, rs⟩ y
        obtain ⟨rfl, ex⟩ := y
        subst ex
        have al := pLen hr12
        refine gn ?_
        dsimp only
        have hst : st ∈ [L, st] := by simp
        have lf : ∀ {H' : Hp}, Same (hide [L, st] H10) (hide [L, st] H') → ∃ vs, H' lp = some (.lst vs) ∧ cut H' st lp = some (.lst vs) ∧ Paired (fun q v => isL isQ H' v q) left vs := fun {H'} f => by
          obtain ⟨p, vs, e, hp, hpp⟩ := mono_L (mono_L mono_Q) _ _ _ _ f hl10
          cases e
          obtain ⟨hn, hp'⟩ := hide_some hp
          exact ⟨vs, hp', by rw [cut_ne (fun z => hn (by rw [z]; exact hst))]; exact hp', pImp hpp fun _ _ r => mono_L mono_Q _ _ _ _ (same_hide _ _) r⟩
        obtain ⟨vs0, h0, h0c, hp0⟩ := lf f12
        have l0 := pLen hp0
        refine ⟨_, rfl, .inl ⟨rfl, _, SqL.of hacc⟩, ?_⟩
        refine ⟨_, rfl, _, rfl, st, lp, vs0, c, ns, rfl, S12, .inl (SqL.of h0c), by omega, by omega, fun j1 v1 H14 hj1 s14 S14 => ?_⟩
        have f14 := f12.trans (hide_stays hst s14)
        obtain ⟨vs1, h1, h1c, hp1⟩ := lf f14
        have ev1 : vs1 = vs0 := by
          have := stays_at s14 (fun z => (cut_some h0c).1 z) h0
          rw [h1] at this
          cases this; rfl
        subst ev1
        refine ⟨_, rfl, _, rfl, st, lp, vs1, c, ns, rfl, S14, .inl (SqL.of h1c), by omega, by omega, fun j2 v2 H15 hj2 s15 S15 => ?_⟩
        refine ⟨_, rfl, st, 7, c, ns, rfl, S15, by decide, fun u H16 u0 u7 s16 S16 => ?_⟩
        refine ⟨_, _, rfl, rfl, by show 2 ≤ sizeLine; decide, fun p9 hp9 => ?_⟩
        have s9' : Same H16 (upd H16 p9 (.tup [.int (u - 2), .int 3])) := same_upd hp9
        have s1416 := (Stays.trans s14 (Stays.trans s15 s16)).trans (Stays.of s9')
        have S17 := S16.keep s9'
        have f17 := f12.trans (hide_stays hst s1416)
        have T17 := tabs_stays T12 S12 s1416
        have hacc17 := stays_at s1416 (Ne.symm nst) hacc
        have h4 : (u - 2).natAbs ≤ 4 := by omega
        obtain ⟨fF, fS, f3⟩ := third h4 (H := upd H16 p9 (.tup [.int (u - 2), .int 3])) upd_same
        generalize upd H16 p9 (.tup [.int (u - 2), .int 3]) = H17 at *
        obtain ⟨vs2, h2, h2c, hp2⟩ := lf f17
        have ev2 : vs2 = vs1 := by
          have := stays_at s1416 (fun z => (cut_some h0c).1 z) h0
          rw [h2] at this
          cases this; rfl
        subst ev2
        obtain ⟨q1, hq1, r1⟩ := pGet2 hp2 hj1
        obtain ⟨q2, hq2, r2⟩ := pGet2 hp2 hj2
        obtain ⟨k1, b1⟩ := lsm q1 (List.mem_of_getElem? hq1)
        obtain ⟨k2, b2⟩ := lsm q2 (List.mem_of_getElem? hq2)
        refine ⟨v1, v2, .ref p9, q1, q2, _, _, _, _, rfl, r1, r2, fF, by omega, by omega, b1.sb, b2.sb, fS, by omega, fun p10 H18 s18 hn18 hq18 => ?_⟩
        have hacc18 := s18 _ _ hacc17
        have lists18 : Lists [L, st] H18 := fun b hb => by
          simp only [List.mem_cons, List.not_mem_nil, or_false] at hb
          rcases hb with rfl | rfl
          · exact ⟨_, hacc18⟩
          · exact (S17.keep s18).some
        have lists17 : Lists [L, st] H17 := fun b hb => by
          simp only [List.mem_cons, List.not_mem_nil, or_false] at hb
          rcases hb with rfl | rfl
          · exact ⟨_, hacc17⟩
          · exact S17.some
        have hrow := off_hideL offL_Q lists18 (lists17.new hn18) hq18
        have f18 := f17.trans (hide_mono s18)
        have f1218 := (hide_stays hst s1416).trans (hide_mono (ls := [L, st]) s18)
        refine ⟨L, acc, _, rfl, rfl, hacc18, ?_, some (.int (0 + (i : Int))), acc ++ [.ref p10], rows ++ [addQ q1 q2 (((u - 2 : Int) : Rat) / ((3 : Int) : Rat))], rfl, upd_same, (S17.keep s18).upd nst nc, ?_, ?_, ?_, ?_, fun q hq => ?_⟩
        · have := small_line (show acc.length + 1 ≤ 1000 by omega); exact this
        · have T18 := T17.ext s18
          have := (tabs_cut hacc18 T18)
          refine this.ext fun b o h => ?_
          obtain ⟨n1, h1⟩ := cut_some h
          rw [upd_ne n1]; exact h1
        · rw [hide_upd List.mem_cons_self]; exact f18
        · rw [hide_upd List.mem_cons_self]
          exact pApp (pImp hr12 fun _ _ r => mono_L mono_Q _ _ _ _ f1218 r) (.cons hrow .nil)
        · rw [List.length_append, rl]; rfl
        · rcases List.mem_append.mp hq with hq | hq
          · exact rs q hq
          · rw [List.mem_singleton.mp hq]
            exact ⟨by rw [M4.addQ_len]; exact k1, (b1.addQ b2 f3 h4).mono (by decide)⟩
      · rintro σ H12 ⟨o5, acc, rows, rfl, hacc, S12, T12, f12, hr12, rl, rs⟩
        have sub : Same (hide [L, st] H12) (cut H12 st) := fun b o h => by
          obtain ⟨n1, h1⟩ := hide_some h
          rw [cut_ne (fun z => n1 (by rw [z]; simp))]; exact h1
        refine kD _ _ ⟨L, rows, o5, rfl, S12, T12, ?_, ⟨L, acc, rfl, by rw [cut_ne (Ne.symm nst)]; exact hacc, pImp hr12 fun _ _ r => mono_L mono_Q _ _ _ _ sub r⟩, rs, by rw [rl]; omega⟩
        exact mono_L (mono_L mono_Q) _ _ _ _ (f12.trans sub) hl10
    · rintro σ H9 ⟨rp, right, o5, rfl, S9, T9, hleft9, hright9, hrS, r5⟩
      -- the tables
      obtain ⟨lp', lvs, e, hlv, hlvp⟩ := id hleft9
      cases e
      have ll := pLen hlvp
      have hlv9 := (cut_some hlv).2
      have hlvp9 : Paired (fun q v => isL isQ H9 v q) left lvs := pImp hlvp fun _ _ r => mono_L mono_Q _ _ _ _ (same_cut _ _) r
      refine ⟨_, rfl, lp, rfl, ⟨_, SqL.of hlv9⟩, fun T hT => lcm (walk_list (xs := lvs)) (fun i H v => ∃ q, left[i]? = some q ∧ isTab C_Table H v q) hT (small_line (by omega)) (fun _ _ _ _ s ⟨q, h, r⟩ => ⟨q, h, mono_Tab _ _ _ _ s r⟩)
        (fun H' s => s.seq (SqL.of hlv9)) (fun i y H1 H2 hi s o yy Q k => ?_) (fun H10 tvs s10 hT' q => ?_)⟩
      · obtain ⟨rfl, hy⟩ := yy
        obtain ⟨oD, hD⟩ := o
        obtain ⟨q, hq, ⟨rp1, rvs, rfl, hrv, hrp⟩⟩ := pGet2 hlvp9 hy
        have s1 := s.trans (same_cut _ _)
        have ql := (hlS q (List.mem_of_getElem? hq)).1
        refine ⟨rfl, _, rfl, rp1, rvs, rfl, .inl (SqL.of (s1 _ _ hrv)), fun l hl => ?_⟩
        intro x dx hx hd hne
        have sl : Same H2 (upd H2 l (.lst rvs)) := same_upd hl
        have nlx : l ≠ x := ne_of_none upd_same hx
        have nld : l ≠ dx := ne_of_none upd_same hd
        have sM := same_mkc (C := C_Table) hx hd hne
        refine ⟨x, dx, l, q, rfl, upd_same, ⟨l, rvs, rfl, by rw [cut_ne nlx, upd_ne nlx, upd_ne nld, upd_same], pImp hrp fun _ _ r => num_of_q (mono_Q _ _ _ _ ((s1.trans sl).trans sM) r)⟩, by omega, by omega, fun t2 H7 s7 hx7 hq7 => ⟨rfl, ?_⟩⟩
        have s67 := sl.trans (same_made hx hd hne s7)
        exact k _ _ s67 ⟨q, hq, offL_Tab H7 T _ _ _ (s67 _ _ hD) ⟨x, dx, t2, rfl, hx7, mono_T mono_Q _ _ _ _ (same_cut H7 x) hq7⟩⟩
      have hTp : Paired (fun q v => isTab C_Table H10 v q) left tvs := pIdx ll q
      refine gn ?_
      dsimp only
      -- the others
      obtain ⟨rp', wvs, e, hwv, hwvp⟩ := id hright9
      cases e
      have wl := pLen hwvp
      have hwv10 := s10 _ _ (cut_some hwv).2
      have hwvp10 : Paired (fun q v => isL isQ H10 v q) right wvs := pImp hwvp fun _ _ r => mono_L mono_Q _ _ _ _ ((same_cut _ _).trans s10) r
      refine ⟨_, rfl, rp, rfl, ⟨_, SqL.of hwv10⟩, fun O hO => lcm (walk_list (xs := wvs)) (fun i H v => ∃ q, right[i]? = some q ∧ isTab C_Table H v q) hO (small_line (by omega)) (fun _ _ _ _ s ⟨q, h, r⟩ => ⟨q, h, mono_Tab _ _ _ _ s r⟩)
        (fun H' s => s.seq (SqL.of hwv10)) (fun i y H1 H2 hi s o yy Q k => ?_) (fun H11 ovs s11 hO' q => ?_)⟩
      · obtain ⟨rfl, hy⟩ := yy
        obtain ⟨oD, hD⟩ := o
        obtain ⟨q, hq, ⟨rp1, rvs, rfl, hrv, hrp⟩⟩ := pGet2 hwvp10 hy
        have s1 := s.trans (same_cut _ _)
        have ql := (hrS q (List.mem_of_getElem? hq)).1
        refine ⟨rfl, _, rfl, rp1, rvs, rfl, .inl (SqL.of (s1 _ _ hrv)), fun l hl => ?_⟩
        intro x dx hx hd hne
        have sl : Same H2 (upd H2 l (.lst rvs)) := same_upd hl
        have nlx : l ≠ x := ne_of_none upd_same hx
        have nld : l ≠ dx := ne_of_none upd_same hd
        have sM := same_mkc (C := C_Table) hx hd hne
        refine ⟨x, dx, l, q, rfl, upd_same, ⟨l, rvs, rfl, by rw [cut_ne nlx, upd_ne nlx, upd_ne nld, upd_same], pImp hrp fun _ _ r => num_of_q (mono_Q _ _ _ _ ((s1.trans sl).trans sM) r)⟩, by omega, by omega, fun t2 H7 s7 hx7 hq7 => ⟨rfl, ?_⟩⟩
        have s67 := sl.trans (same_made hx hd hne s7)
        exact k _ _ s67 ⟨q, hq, offL_Tab H7 O _ _ _ (s67 _ _ hD) ⟨x, dx, t2, rfl, hx7, mono_T mono_Q _ _ _ _ (same_cut H7 x) hq7⟩⟩
      have hOp : Paired (fun q v => isTab C_Table H11 v q) right ovs := pIdx wl q
      have s911 := s10.trans s11
      have sub9 : Same (cut H9 st) (hide [st, T, O] H11) := fun b o h => by
        obtain ⟨n1, h1⟩ := cut_some h
        have n2 : b ≠ T := ne_of_none h1 hT
        have n3 : b ≠ O := ne_of_none h1 (none_back s10 hO)
        rw [hide_at (by simp [n1, n2, n3])]
        exact s911 _ _ h1
      have nT := (S9.ne hT).1
      have nO := ((S9.keep s10).ne hO).1
      have nTO : T ≠ O := fun z => by rw [← z, hT'] at hO; cases hO
      have L11 : Lists [st, T, O] H11 := fun b hb => by
        simp only [List.mem_cons, List.not_mem_nil, or_false] at hb
        rcases hb with rfl | rfl | rfl
        · exact (S9.keep s911).some
        · exact ⟨_, s11 _ _ hT'⟩
        · exact ⟨_, hO'⟩
      have I11 : Lw P0 st T O c ns tvs ovs (fun G => (isL (isL isQ) G (.ref lp) left ∧ isL (isL isQ) G (.ref rp) right) ∧ Paired (fun q v => isTab C_Table G v q) left tvs ∧ Paired (fun q v => isTab C_Table G v q) right ovs) H11 :=
        ⟨S9.keep s911, T9.ext s911, s11 _ _ hT', hO', Ne.symm nT, Ne.symm nO, nTO, ⟨⟨mono_L (mono_L mono_Q) _ _ _ _ sub9 hleft9, mono_L (mono_L mono_Q) _ _ _ _ sub9 hright9⟩, pImp hTp fun _ _ r => off_hide offL_Tab L11 (mono_Tab _ _ _ _ s11 r), pImp hOp fun _ _ r => off_hide offL_Tab L11 r⟩,
          ((mn_of (monoN_L (monoN_L monoN_Q)) _ _).and (mn_of (monoN_L (monoN_L monoN_Q)) _ _)).and ((mn_pair monoN_Tab _ _).and (mn_pair monoN_Tab _ _))⟩
      clear hleft9 hright9 hTp hOp L11 sub9 T9 S9
      refine gn ?_
      dsimp only
      -- one
      refine ⟨_, rfl, _, rfl, ?_⟩
      intro x1 dx1 hx1 hd1 hne1
      have bad1 : badT (n : Int) left = none := badT_ok hlS.len
      refine ⟨x1, dx1, T, n, left, rfl, upd_same, ⟨T, tvs, rfl, same_mkc hx1 hd1 hne1 _ _ I11.aT, pImp I11.here.2.1 fun _ _ r => mono_Tab _ _ _ _ (same_mkc hx1 hd1 hne1) r⟩, by omega, by omega, I11.tb.ext (same_mk hx1 hd1 hne1), fun c => absurd c (by omega), fun _ m hm => (by rw [bad1] at hm; cases hm), fun _ _ => ⟨n, 1597, bigM, hlS.good n6, fun bs1 ax1 H12 rows1 eN1 T12 hx12 hb12 so1 => ⟨rfl, ?_⟩⟩⟩
      have I12 := I11.ext (extN_made hx1 hd1 hne1 eN1) T12
      have sp1 : isSpan C_Span C_Table H12 (.ref x1) ((n : Int), ratRows rows1) := ⟨x1, dx1, bs1, ax1, rfl, hx12, mono_T mono_Tab _ _ _ _ (same_cut H12 x1) hb12⟩
      have R1 := hlS.rs n6 so1
      replace I12 := I12.span sp1
      clear sp1 eN1 hb12
      refine gn ?_
      dsimp only
      -- two
      refine ⟨_, rfl, _, rfl, ?_⟩
      intro x2 dx2 hx2 hd2 hne2
      have bad2 : badT (n : Int) right = none := badT_ok hrS.len
      refine ⟨x2, dx2, O, n, right, rfl, upd_same, ⟨O, ovs, rfl, same_mkc hx2 hd2 hne2 _ _ I12.aO, pImp I12.here.1.2.2 fun _ _ r => mono_Tab _ _ _ _ (same_mkc hx2 hd2 hne2) r⟩, by omega, by omega, I12.tb.ext (same_mk hx2 hd2 hne2), fun c => absurd c (by omega), fun _ m hm => (by rw [bad2] at hm; cases hm), fun _ _ => ⟨n, 1597, bigM, hrS.good n6, fun bs2 ax2 H13 rows2 eN2 T13 hx13 hb13 so2 => ⟨rfl, ?_⟩⟩⟩
      have I13 := I12.ext (extN_made hx2 hd2 hne2 eN2) T13
      have sp2 : isSpan C_Span C_Table H13 (.ref x2) ((n : Int), ratRows rows2) := ⟨x2, dx2, bs2, ax2, rfl, hx13, mono_T mono_Tab _ _ _ _ (same_cut H13 x2) hb13⟩
      have R2 := hrS.rs n6 so2
      replace I13 := I13.span sp2
      clear sp2 eN2 hb13 I12 I11
      refine gn ?_
      dsimp only
      -- both
      obtain ⟨lp', lvs1, e, hlv1, hlp1⟩ := I13.fx.1.1.1.1
      cases e
      obtain ⟨rp', rvs1, e, hrv1, hrp1⟩ := I13.fx.1.1.1.2
      cases e
      have el := pLen hlp1
      have er := pLen hrp1
      refine ⟨_, rfl, _, rfl, lp, rp, _, _, rfl, rfl, (hide_some hlv1).2, (hide_some hrv1).2, by have := small_line (show lvs1.length + rvs1.length ≤ 1000 by omega); exact this, fun bp hbp => ?_⟩
      have nbp := I13.lists.new hbp
      have sB : Same H13 (upd H13 bp (.lst (lvs1 ++ rvs1))) := same_upd hbp
      have hB : isL (isL isQ) (hide [st, T, O] (upd H13 bp (.lst (lvs1 ++ rvs1)))) (.ref bp) (left ++ right) := ⟨bp, _, rfl, by rw [hide_at nbp]; exact upd_same, pApp (pImp hlp1 fun _ _ r => mono_L mono_Q _ _ _ _ (hide_mono sB) r) (pImp hrp1 fun _ _ r => mono_L mono_Q _ _ _ _ (hide_mono sB) r)⟩
      have I14 := (I13.same sB).add _ (mn_of (monoN_L (monoN_L monoN_Q)) (.ref bp) (left ++ right)) hB
      clear hB sB hbp nbp I13 hlp1 hrp1 hlv1 hrv1
      generalize upd H13 bp (.lst (lvs1 ++ rvs1)) = H14 at *
      refine gn ?_
      dsimp only
      -- wide
      have F14 := I14.here
      obtain ⟨x1', d1, b1, a1, e, hx1', _⟩ := F14.1.1.2
      cases e
      have bS := hlS.app hrS
      have eU := (M4.VQ_app left right).symm
      refine ⟨_, rfl, x1, d1, _, rfl, hx1', rfl, _, rfl, x1, O, n, ratRows rows1, right, rfl, F14.1.1.2, ⟨O, ovs, rfl, I14.aO, F14.1.1.1.2.2⟩, I14.tb, by omega, by omega, fun c => absurd c (by omega), fun _ m hm => (by rw [bad2] at hm; cases hm), fun _ _ => ⟨⟨n, 1597, bigM, hrS.good n6⟩, fun rows2' so2' => ?_⟩⟩
      have R2' := hrS.rs n6 so2'
      refine ⟨uni_64 n6 R1 R2', uni_bad R1 R2', n, bigM, bigM, uni_good n6 bS R1 R2' eU, fun vw H15 rowsW eW T15 spW soW => ?_⟩
      have RW := uni_rs n6 bS R1 R2' eU soW
      obtain ⟨xw, _, _, _, rfl, _, _⟩ := id spW
      have I15 := (I14.ext eW T15).span spW
      clear F14 I14 spW eW
      refine gn ?_
      dsimp only
      -- isspan of wide, of one | two
      have okW := bS.ok n6 (by rw [List.length_append]; omega) RW
      refine ⟨_, rfl, _, rfl, _, rfl, .ref xw, .ref bp, n, _, _, 1597, bigM, rfl, I15.here.2, I15.here.1.2, okW, fun H16 s16 => ⟨_, rfl, iteF ?_⟩⟩
      have I16 := I15.same s16
      clear I15
      have F16 := I16.here
      obtain ⟨x1', d1', b1', a1', e, hx1', _⟩ := F16.1.1.1.2
      cases e
      obtain ⟨x2', d2, b2, a2, e, hx2', _⟩ := F16.1.1.2
      cases e
      refine ⟨_, rfl, _, rfl, x1, d1', _, x2, d2, _, rfl, rfl, hx1', hx2', x1, x2, n, n, ratRows rows1, ratRows rows2, rfl, F16.1.1.1.2, F16.1.1.2, I16.tb, fun z => absurd rfl z, fun _ => ⟨by omega, by omega, uni_64 n6 R1 R2, uni_bad R1 R2, n, bigM, bigM, uni_good n6 bS R1 R2 eU, fun v17 H17 rows17 e17 T17 sp17 so17 => ?_⟩⟩
      have R17 := uni_rs n6 bS R1 R2 eU so17
      have I17 := I16.ext e17 T17
      refine ⟨_, rfl, _, rfl, v17, .ref bp, n, _, _, 1597, bigM, rfl, sp17, I17.here.1.2, bS.ok n6 (by rw [List.length_append]; omega) R17, fun H18 s18 => ⟨_, rfl, iteF ?_⟩⟩
      have I18 := I17.same s18
      clear I17 I16 sp17 F16
      -- the sizes
      have smallS : ∀ l ∈ [left, right, left ++ right], Small n l ∧ l.length ≤ 200 := fun l hl => by
        simp only [List.mem_cons, List.not_mem_nil, or_false] at hl
        rcases hl with rfl | rfl | rfl
        · exact ⟨hlS, by omega⟩
        · exact ⟨hrS, by omega⟩
        · exact ⟨bS, by rw [List.length_append]; omega⟩
      refine ⟨_, rfl, _, rfl, _, rfl, by show 3 ≤ sizeLine; decide, fun t3 ht3 => ?_⟩
      have s19 : Same H18 (upd H18 t3 (.tup [.ref lp, .ref rp, .ref bp])) := same_upd ht3
      have I19 := I18.same s19
      have ht3' := upd_same (H := H18) (a := t3) (o := .tup [.ref lp, .ref rp, .ref bp])
      clear I18
      generalize upd H18 t3 (.tup [.ref lp, .ref rp, .ref bp]) = H19 at *
      have F19 := I19.here
      have pr19 : Paired (fun l v => isL (isL isQ) H19 v l) [left, right, left ++ right] [V.ref lp, V.ref rp, V.ref bp] := .cons F19.1.1.1.1.1.1 (.cons F19.1.1.1.1.1.2 (.cons F19.1.2 .nil))
      refine ⟨t3, rfl, ⟨_, .inl (.inl ht3')⟩, fun sz hsz => lcm (walk_tup (xs := [V.ref lp, V.ref rp, V.ref bp])) (fun i H v => ∃ l, [left, right, left ++ right][i]? = some l ∧ v = V.int (up l : Nat)) hsz (by show 3 ≤ sizeLine; decide) (fun _ _ _ _ s q => q) (fun H' s => .inl (.inl (s _ _ ht3'))) (fun i y H1 H2 hi s o yy Q k => ?_) (fun H20 ys s20 hsz' q => ?_)⟩
      · obtain ⟨rfl, hy⟩ := yy
        obtain ⟨l, hl, rl⟩ := pGet2 pr19 hy
        obtain ⟨sl, l200⟩ := smallS l (List.mem_of_getElem? hl)
        refine ⟨rfl, _, rfl, y, l, n, 1597, rfl, mono_L (mono_L mono_Q) _ _ _ _ (s.trans (same_cut _ _)) rl, n6, l200, sl, by decide, fun p H3 s3 hn3 hp3 => ?_⟩
        obtain ⟨p', us, e, hp, hpp⟩ := hp3
        cases e
        refine ⟨p, us, rfl, .inl (SqL.of hp), k _ _ s3 ⟨l, hl, ?_⟩⟩
        rw [← pLen hpp]; rfl
      have esz : ys = [V.int (up left : Nat), .int (up right : Nat), .int (up (left ++ right) : Nat)] := by
        have q' : Paired (fun l v => v = V.int (up l : Nat)) [left, right, left ++ right] ys := pIdx rfl q
        rw [pEqMap q']; rfl
      subst esz
      have I20 := (I19.same s20).lst (I19.lists.new (none_back (Same.refl _) hsz)) hsz'
      clear I19 F19 pr19 q
      refine gn ?_
      dsimp only
      -- one == two, wide == two | one
      have F20 := I20.here
      refine ⟨_, rfl, _, rfl, _, rfl, sz, [((up left : Nat) : Int), (up right : Nat), (up (left ++ right) : Nat)], rfl, SqL.of F20.2, by show 0 < 3; decide, fun mn hmn lmn => ⟨_, rfl, sz, [((up left : Nat) : Int), (up right : Nat), (up (left ++ right) : Nat)], rfl, SqL.of F20.2, by show 0 < 3; decide, fun mx hmx lmx => ⟨rfl, x1, .ref x2, _, _, rfl, F20.1.1.1.1.2, .inl ⟨_, F20.1.1.1.2, due_mm hlS hrS R1 R2 hmn lmn hmx lmx⟩, fun H21 s21 => ⟨_, rfl, iteF ?_⟩⟩⟩⟩
      have I21 := I20.same s21
      clear I20 F20
      have F21 := I21.here
      obtain ⟨x1', d1', b1', a1', e, hx1', _⟩ := F21.1.1.1.1.2
      cases e
      obtain ⟨x2', d2, b2, a2, e, hx2', _⟩ := F21.1.1.1.2
      cases e
      have bS' := hrS.app hlS
      have eU' := (M4.VQ_app right left).symm
      refine ⟨_, rfl, _, rfl, _, rfl, x2, d2, _, x1, d1', _, rfl, rfl, hx2', hx1', x2, x1, n, n, ratRows rows2, ratRows rows1, rfl, F21.1.1.1.2, F21.1.1.1.1.2, I21.tb, fun z => absurd rfl z, fun _ => ⟨by omega, by omega, uni_64 n6 R2 R1, uni_bad R2 R1, n, bigM, bigM, uni_good n6 bS' R2 R1 eU', fun v22 H22 rows22 e22 T22 sp22 so22 => ?_⟩⟩
      have R22 := uni_rs n6 bS' R2 R1 eU' so22
      have I22 := I21.ext e22 T22
      refine ⟨xw, v22, _, true, rfl, I22.here.1.2, .inl ⟨_, sp22, due_same RW R22 (M4.VQ_comm left right)⟩, fun H23 s23 => ⟨_, rfl, iteF ?_⟩⟩
      have I23 := I22.same s23
      clear I22 I21 F21 sp22
      -- one == wide, one == a list
      have F23 := I23.here
      refine ⟨_, rfl, _, rfl, _, rfl, sz, _, 0, _, rfl, rfl, .inl (SqL.of F23.2), rfl, _, rfl, sz, _, 2, _, rfl, rfl, .inl (SqL.of F23.2), rfl, rfl, x1, .ref xw, _, _, rfl, F23.1.1.1.1.2, .inl ⟨_, F23.1.2, ?_⟩, fun H24 s24 => ⟨_, rfl, iteF ?_⟩⟩
      · rw [← due_one hlS hrS R1 RW]
        refine dec_iff ?_
        rw [V.int.injEq]; omega
      have I24 := I23.same s24
      refine ⟨_, rfl, _, rfl, x1, .ref T, _, false, rfl, I24.here.1.1.1.1.2, .inr ⟨⟨T, _, rfl, I24.aT⟩, rfl⟩, fun H25 s25 => ⟨_, rfl, iteF ?_⟩⟩
      have I25 := I24.same s25
      clear I23 I24 F23
      -- spans of no tables
      refine ⟨_, rfl, _, rfl, st, n, c, ns, rfl, I25.sto, by omega, by omega, fun m' H26 m1 m16 hmn s26 S26 => ?_⟩
      obtain ⟨m, rfl⟩ : ∃ m : Nat, m' = (m : Int) := ⟨m'.toNat, by omega⟩
      have I26 := I25.stays s26 S26
      clear I25
      refine gn ?_
      dsimp only
      refine ⟨_, rfl, ?_⟩
      intro x3 dx3 hx3 hd3 hne3
      refine ⟨x3, dx3, n, rfl, upd_same, by omega, by omega, I26.tb.ext (same_mk hx3 hd3 hne3), fun bs3 ax3 H27 eN3 T27 hx27 hb27 => ⟨rfl, ?_⟩⟩
      have sp3 : isSpan C_Span C_Table H27 (.ref x3) ((n : Int), []) := ⟨x3, dx3, bs3, ax3, rfl, hx27, mono_T mono_Tab _ _ _ _ (same_cut H27 x3) hb27⟩
      have I27 := I26.ext (extN_made hx3 hd3 hne3 eN3) T27
      clear I26
      refine ⟨_, rfl, ?_⟩
      intro x4 dx4 hx4 hd4 hne4
      refine ⟨x4, dx4, m, rfl, upd_same, by omega, by omega, I27.tb.ext (same_mk hx4 hd4 hne4), fun bs4 ax4 H28 eN4 T28 hx28 hb28 => ⟨rfl, ?_⟩⟩
      have sp4 : isSpan C_Span C_Table H28 (.ref x4) ((m : Int), []) := ⟨x4, dx4, bs4, ax4, rfl, hx28, mono_T mono_Tab _ _ _ _ (same_cut H28 x4) hb28⟩
      have eM := extN_made hx4 hd4 hne4 eN4
      have I28 := I27.ext eM T28
      clear I27
      refine ⟨x3, .ref x4, _, false, rfl, monoN_Span _ _ _ _ eM sp3, .inl ⟨_, sp4, ?_⟩, fun H29 s29 => ⟨_, rfl, iteF ?_⟩⟩
      · have : ¬ (((n : Int), ([] : List (List Rat))) = ((m : Int), [])) := fun z => hmn (congrArg Prod.fst z).symm
        rw [decide_eq_false this]
      have I29 := I28.same s29
      clear I28 sp3 sp4
      refine ⟨_, rfl, ?_⟩
      intro x5 dx5 hx5 hd5 hne5
      refine ⟨x5, dx5, n, rfl, upd_same, by omega, by omega, I29.tb.ext (same_mk hx5 hd5 hne5), fun bs5 ax5 H30 eN5 T30 hx30 hb30 => ⟨rfl, ?_⟩⟩
      have sp5 : isSpan C_Span C_Table H30 (.ref x5) ((n : Int), []) := ⟨x5, dx5, bs5, ax5, rfl, hx30, mono_T mono_Tab _ _ _ _ (same_cut H30 x5) hb30⟩
      have I30 := I29.ext (extN_made hx5 hd5 hne5 eN5) T30
      clear I29
      have F30 := I30.here
      refine ⟨_, rfl, _, rfl, sz, _, 0, _, rfl, rfl, .inl (SqL.of F30.2), rfl, rfl, x5, .ref x1, _, _, rfl, sp5, .inl ⟨_, F30.1.1.1.1.2, ?_⟩, fun H31 s31 => ⟨_, rfl, iteF ?_⟩⟩
      · rw [← due_none hlS R1]
        refine dec_iff ?_
        rw [V.int.injEq]; omega
      have I31 := I30.same s31
      clear I30 F30 sp5
      -- parted
      refine ⟨_, rfl, _, rfl, st, n, c, ns, rfl, I31.sto, n1, n6, I31.tb, fun pp H32 pars e32 S32 T32 hpar p3 pok => ?_⟩
      have I32 := I31.extst e32 S32 T32
      clear I31
      refine gn ?_
      dsimp only
      refine ⟨_, rfl, rfl, _, rfl, iteN (by simp) ?_⟩
      -- more
      refine ⟨_, rfl, _, rfl, by show 6 ≤ sizeLine; decide, fun t33 ht33 => ?_⟩
      have s33 : Same H32 (upd H32 t33 (.tup [.int 5, .int 5, .int 5, .int 5, .int 5, .int 64])) := same_upd ht33
      have I33 := I32.same s33
      have hpar33 := mono_L mono_Par _ _ _ _ (Same.cut s33 st) hpar
      have n33 := (I32.sto.ne ht33).1
      have h33 : cut (upd H32 t33 (.tup [.int 5, .int 5, .int 5, .int 5, .int 5, .int 64])) st t33 = some (.tup [.int 5, .int 5, .int 5, .int 5, .int 5, .int 64]) := by rw [cut_ne (Ne.symm n33)]; exact upd_same
      generalize upd H32 t33 (.tup [.int 5, .int 5, .int 5, .int 5, .int 5, .int 64]) = H33 at *
      clear I32 hpar
      refine ⟨st, t33, _, c, ns, rfl, I33.sto, .inr (.inl (.inl h33)), by show 1 ≤ 6; decide, by show 6 ≤ 1000; decide, fun i33 v33 H34 hi33 s34 S34 => ?_⟩
      have I34 := I33.stays s34 S34
      have hpar34 := mono_L mono_Par _ _ _ _ s34 hpar33
      obtain ⟨mk, rfl, mk5, mk64⟩ := pick_k hi33
      clear I33 hpar33
      have lo : right.length = ovs.length := pLen I34.here.1.1.1.1.1.2.2
      refine ⟨_, rfl, O, ovs, rfl, .inl (SqL.of I34.aO), _, _, rfl, rfl, _, rfl, by omega, by omega, fun L hL => lcm (walk_range (lo := 0)) (fun i H v => isTab C_Table H v (List.replicate n 0)) hL (small_line (by omega)) (fun _ _ _ _ s q => mono_Tab _ _ _ _ s q) (fun _ _ => trivial) (fun i y H7 H8 hi s7 o yy Q k => ?_) (fun H35 ys s35 hL' q => ?_)⟩
      · obtain ⟨rfl, rfl⟩ := yy
        obtain ⟨oD, hD⟩ := o
        exact ⟨rfl, rfl, _, rfl, n, rfl, n1, by omega, fun z H9 s9 hz0 hz => k _ _ s9 (offL_Tab _ _ _ _ _ (s9 _ _ hD) hz)⟩
      have hyl := pLen q
      rw [List.length_range] at hyl
      have I35 := I34.same s35
      have hpar35 := mono_L mono_Par _ _ _ _ (Same.cut s35 st) hpar34
      clear I34 hpar34
      refine ⟨O, L, _, _, rfl, rfl, I35.aO, hL', by have := small_line (show ovs.length + ys.length ≤ 1000 by omega); exact this, fun mp hmp => ?_⟩
      have s36 : Same H35 (upd H35 mp (.lst (ovs ++ ys))) := same_upd hmp
      have I36 := I35.same s36
      have hpar36 := mono_L mono_Par _ _ _ _ ((Same.cut s36 st).trans (same_cut _ _)) hpar35
      have hmore : isL (isTab C_Table) (upd H35 mp (.lst (ovs ++ ys))) (.ref mp) (right ++ List.replicate ys.length (List.replicate n 0)) := ⟨mp, _, rfl, upd_same, pApp I36.here.1.1.1.1.1.2.2 (pOf (by simp) fun i x y hx hy => by
        rw [List.getElem?_replicate] at hx
        split at hx
        · cases hx
          obtain ⟨_, _, r⟩ := pGet2 q hy
          exact mono_Tab _ _ _ _ s36 r
        · cases hx)⟩
      clear I35 hpar35
      generalize upd H35 mp (.lst (ovs ++ ys)) = H36 at *
      refine gn ?_
      dsimp only
      have mS : Small n (right ++ List.replicate ys.length (List.replicate n 0)) := hrS.app fun q hq => by
        rw [List.eq_of_mem_replicate hq]
        exact ⟨by simp, bq_zero _ _⟩
      refine ⟨_, rfl, _, rfl, _, rfl, _, rfl, _, rfl, x1, mp, pp, n, m, ratRows rows1, _, pars, rfl, I36.here.1.1.1.1.2, hmore, hpar36, n1, n6, by omega, by omega, fun z => hmn (by rw [z]), I36.tb, mS.len, by rw [List.length_append, List.length_replicate]; omega, p3, pok, wideOk_of n6 hlS mS R1, fun H37 e37 T37 => ⟨_, rfl, iteF ?_⟩⟩
      have I37 := I36.ext e37 T37
      clear I36 hmore hpar36
      -- the lists passed are changed
      refine ⟨_, rfl, .inl ⟨rfl, _, SqL.of I37.aO⟩, ?_⟩
      refine ⟨_, rfl, n, rfl, by omega, by omega, fun L5 hL5 => lcm (walk_range (lo := 0)) (fun i _ v => v = V.int (0 + (i : Int) + 1)) hL5 (small_line (by omega)) (fun _ _ _ _ _ q => q) (fun _ _ => trivial) (fun i y H7 H8 hi s7 o yy Q k => ?_) (fun H38 ys5 s38 hL5' q5 => ?_)⟩
      · obtain ⟨rfl, rfl⟩ := yy
        exact ⟨rfl, _, rfl, _, _, rfl, rfl, k _ _ (Same.refl _) rfl⟩
      intro x6 dx6 hx6 hd6 hne6
      rw [Int.toNat_natCast] at q5
      have sM := same_mkc (C := C_Table) hx6 hd6 hne6
      refine ⟨x6, dx6, L5, _, rfl, upd_same, ⟨L5, ys5, rfl, sM _ _ hL5', ints_nums q5⟩, by simpa using n1, by simp; omega, fun t6 H39 s39 hx39 hq39 => ⟨rfl, ?_⟩⟩
      have I39 := (I37.same s38).same (same_made hx6 hd6 hne6 s39)
      clear I37
      refine ⟨O, ovs, _, rfl, rfl, I39.aO, by have := small_line (show ovs.length + 1 ≤ 1000 by omega); exact this, ?_⟩
      have hmO : O ∈ [st, T, O] := by simp
      have hmT : T ∈ [st, T, O] := by simp
      have fx40 := I39.fx
      rw [← hide_upd (H := H39) (o := .lst (ovs ++ [.ref x6])) hmO] at fx40
      have aT40 : (upd H39 O (.lst (ovs ++ [.ref x6]))) T = some (.lst tvs) := by rw [upd_ne nTO]; exact I39.aT
      have mn := I39.mn
      have lt : left.length = tvs.length := pLen I39.fx.1.1.1.1.1.2.1
      clear I39
      generalize upd H39 O (.lst (ovs ++ [.ref x6])) = H40 at *
      refine ⟨_, rfl, .inl ⟨rfl, _, SqL.of aT40⟩, ?_⟩
      refine ⟨_, rfl, n, rfl, by omega, by omega, fun L7 hL7 => lcm (walk_range (lo := 0)) (fun i _ v => v = V.int (1 - (0 + (i : Int)))) hL7 (small_line (by omega)) (fun _ _ _ _ _ q => q) (fun _ _ => trivial) (fun i y H7 H8 hi s7 o yy Q k => ?_) (fun H41 ys7 s41 hL7' q7 => ?_)⟩
      · obtain ⟨rfl, rfl⟩ := yy
        exact ⟨rfl, _, rfl, _, _, rfl, rfl, k _ _ (Same.refl _) rfl⟩
      intro x8 dx8 hx8 hd8 hne8
      rw [Int.toNat_natCast] at q7
      have sM8 := same_mkc (C := C_Table) hx8 hd8 hne8
      refine ⟨x8, dx8, L7, _, rfl, upd_same, ⟨L7, ys7, rfl, sM8 _ _ hL7', ints_nums q7⟩, by simpa using n1, by simp; omega, fun t8 H42 s42 hx42 hq42 => ⟨rfl, ?_⟩⟩
      have s4042 := s41.trans (same_made hx8 hd8 hne8 s42)
      refine ⟨T, tvs, _, rfl, rfl, s4042 _ _ aT40, by have := small_line (show tvs.length + 1 ≤ 1000 by omega); exact this, ?_⟩
      have fx43 := mn _ _ (extN_of (hide_mono (ls := [st, T, O]) s4042)) fx40
      rw [← hide_upd (H := H42) (o := .lst (tvs ++ [.ref x8])) hmT] at fx43
      have F43 := mn _ _ (extN_of (same_hide _ _)) fx43
      generalize upd H42 T (.lst (tvs ++ [.ref x8])) = H43 at *
      refine ⟨_, rfl, _, rfl, _, rfl, .ref xw, .ref bp, n, _, _, 1597, bigM, rfl, F43.1.2, F43.1.1.2, okW, fun H44 s44 => ⟨_, rfl, iteT ?_⟩⟩
      have F44 := mn _ _ (extN_of s44) F43
      refine ⟨_, rfl, _, rfl, _, rfl, .ref x1, .ref lp, n, _, _, 1597, bigM, rfl, F44.1.1.1.1.2, F44.1.1.1.1.1.1.1, hlS.ok n6 (by omega) R1, fun H45 s45 => ⟨_, rfl, iteT ?_⟩⟩
      have F45 := mn _ _ (extN_of s45) F44
      exact ⟨_, rfl, _, rfl, _, rfl, .ref x2, .ref rp, n, _, _, 1597, bigM, rfl, F45.1.1.1.2, F45.1.1.1.1.1.1.2, hrS.ok n6 (by omega) R2, fun H46 _ => k H46⟩
end
end K4
/-! K44: what the look tells. -/
namespace K4
open PySem PySem.Spec PyProof.Rows L2 StX LamX
open He (ga ma ba eqO eqO_ok dflB dflB_ok kwdB kwdB_ok frT asD frT_in tabsB codeOf cT emptyTab emptyTab_eq frT_none Fa)
theorem Pd.def_ {K : PySem.W.Frag} {d : Pd} (e : fnY K (d.ad K) = d.val) (c : d.ok K = true) : Def K (d.ad K) d.name d.qual d.st (d.dfl K) := by
  obtain ⟨kp, c2⟩ := ba c
  unfold fnY at e
  cases q : K.lookup (d.ad K) with
  | none =>
    rw [q] at c2
    cases c2
  | some o =>
    obtain ⟨oc, od, dt, osl⟩ := o
    rw [q] at c2 e
    cases dt with
    | func fd =>
      obtain ⟨n1, n2, n3, n4, n5, n6, n7, n8, n9, n10, n11, n12, n13, n14, n15⟩ := fd
      have e2 : (some (n1, n2, n3, n4, n5, n6, n7.map (·.1), n15) : FnY) = some (d.name, d.qual, defArgs d.st, .stmts (defBody d.st), defScope d.st, mainGlobals, [], builtinsNs) := e
      simp only [Option.some.injEq, Prod.mk.injEq] at e2
      obtain ⟨h1, h2, h3, h4, h5, h6, h7, h8⟩ := e2
      obtain rfl := List.map_eq_nil_iff.mp h7
      subst h1 h2 h3 h4 h5 h6 h8
      have c3 : (PySem.W.codeIn K n13 d.qual && dflB K n8 (d.dfl K)) = true := c2
      obtain ⟨k1, k2⟩ := ba c3
      exact ⟨_, ⟨oc, od, n8, n9, n10, n11, n12, n13, n14, osl, rfl, q, k1, dflB_ok k2, kwdB_ok (kws := []) rfl⟩, kp⟩
    | _ => cases c2
theorem recB_ok {K : PySem.W.Frag} {p : Addr} {T : String} (h : recB K p T = true) : ∃ rest, PySem.W.recIn K p T = some (.ref (prG K p T) :: rest) := by
  unfold recB at h
  unfold prG
  split at h
  · rename_i g rest e
    rw [e]; exact ⟨rest, rfl⟩
  · cases h
theorem proB_ok {K : PySem.W.Frag} {C : Addr} {f : Str} (h : proB K C f = true) : PropOf K C f (ma K C f) (prG K (ma K C f) "property") := by
  obtain ⟨h1, h⟩ := ba h
  obtain ⟨h2, h⟩ := ba h
  obtain ⟨h3, h4⟩ := ba h
  exact ⟨eqO_ok h1, eqO_ok h2, of_decide_eq_true h3, recB_ok h4⟩
theorem getB_ok {o : Option PySem.W.CFound} {p C : Addr} (h : getB o p C = true) : o = some (.get (.builtin "classmethod.__get__") (.ref p) .none (.ref C)) := by
  unfold getB at h
  split at h
  · obtain ⟨h1, h⟩ := ba h
    obtain ⟨h2, h3⟩ := ba h
    rw [eq_of_beq h1, eq_of_beq h2, eq_of_beq h3]
  · cases h
theorem clmB_ok {K : PySem.W.Frag} {C : Addr} {m : Str} (h : clmB K C m = true) : ClX.CMet K C (.type "type") m (ma K C m) (prG K (ma K C m) "classmethod") := by
  obtain ⟨h1, h⟩ := ba h
  obtain ⟨h2, h3⟩ := ba h
  exact ⟨getB_ok h1, recB_ok h2, h3⟩
theorem rdB_ok {K : PySem.W.Frag} {C : Addr} (h : rdB K C = true) : ClX.CRead K C (.type "type") := by
  obtain ⟨h1, h2⟩ := ba h
  exact ⟨h1, eqO_ok h2⟩
theorem clsB_ok {K : PySem.W.Frag} {C : Addr} (h : clsB K C = true) : PySem.W.findIn K (.ref C) "__class__" = some (some (.builtin "object.__class__")) ∧ PySem.W.specialIn K (.builtin "object.__class__") "__get__" = some (some (.builtin "getset_descriptor.__get__")) ∧ PySem.W.takesIn K (.builtin "object.__class__") = some true ∧ PySem.W.mroIn K C (.type "object") = some true := by
  obtain ⟨h1, h⟩ := ba h
  obtain ⟨h2, h⟩ := ba h
  obtain ⟨h3, h4⟩ := ba h
  exact ⟨eqO_ok h1, eqO_ok h2, of_decide_eq_true h3, of_decide_eq_true h4⟩
theorem xclB_ok {K : PySem.W.Frag} {C : Addr} (h : xclB K C = true) : ExcCl K C := by
  obtain ⟨h0, h⟩ := ba h
  obtain ⟨h1, h⟩ := ba h
  obtain ⟨h2, h⟩ := ba h
  obtain ⟨h3, h4⟩ := ba h
  obtain ⟨a, b, c, d⟩ := clsB_ok h0
  exact ⟨eqO_ok h1, eqO_ok h2, of_decide_eq_true h3, h4, a, b, c, d⟩
theorem e2clsB_ok {K : PySem.W.Frag} {C : Addr} (h : e2clsB K C = true) : ∃ nm qn N bs bm sn sub ab col dd k0 k1 k2 k3 k5, K.lookup C = some (excClassObj nm qn C N bs bm true sn sub ab col dd k0 k1 k2 k3 k5 "ValueError.__new__") ∧ PySem.HandSPX.refsVE bm = true := by
  unfold e2clsB at h
  split at h
  · rename_i dd cd sl ho
    split at h
    · rename_i C' bm k0 k1 k2 k3 n k5 hm hs
      obtain ⟨h1, h⟩ := ba h
      obtain ⟨h2, h⟩ := ba h
      obtain ⟨h3, h⟩ := ba h
      obtain ⟨h4, h5⟩ := ba h
      obtain ⟨nm, bs, mro, ns, qn, hd, sn, sub, ab, col, del⟩ := cd
      obtain rfl := eq_of_beq h1
      obtain rfl := eq_of_beq h2
      dsimp only at hm h3 h4
      subst hm h4
      have hdel : del = false := by simpa using h3
      subst hdel
      have hsl : sl = #[k0, k1, k2, k3, some (.builtin "ValueError.__new__"), k5] := by
        obtain ⟨l⟩ := sl
        simp only at hs
        rw [hs]
      subst hsl
      exact ⟨nm, qn, ns, bs, bm, sn, sub, ab, col, dd, k0, k1, k2, k3, k5, ho, h5⟩
    · cases h
  · cases h
theorem e2fn_ok {K : PySem.W.Frag} {C fI : Addr} {q file : Str} {st : Stmt} (e : fnY K fI = e2val q st) (h : e2fnB K C fI q file = true) : ∃ (oc : Value) (od : Option Addr) (kV doc pm : Value) (an : Option Addr) (cda : Addr) (ct : Value) (osl : Array (Option Value)) (cc : Addr),
    K.lookup fI = some ⟨oc, od, .func (PySem.W.ksFn "__init__" q (defArgs st) (defBody st) (defScope st) .none kV doc pm an (.ref cda) ct cc), osl⟩ ∧ PySem.W.codeIn K (.ref cda) q = true ∧
    (∃ (ccl : Value) (cdd : Option Addr) (vs : Array Value) (ccs : Array (Option Value)) (f : Str) (tf : Tok), K.lookup cda = some ⟨ccl, cdd, .fields vs, ccs⟩ ∧ vs[2]? = some (.str f tf) ∧ (file == f) = true) ∧
    ∃ (cl : Value) (cld : Option Addr) (csl : Array (Option Value)), K.lookup cc = some ⟨cl, cld, .cell (some (.ref C)), csl⟩ := by
  unfold e2fnB at h
  unfold fnY e2val at e
  cases hq : K.lookup fI with
  | none => rw [hq] at h; cases h
  | some o =>
    obtain ⟨oc, od, dt, osl⟩ := o
    rw [hq] at h e
    cases dt with
    | func fd =>
      obtain ⟨n1, n2, n3, n4, n5, n6, n7, n8, n9, n10, n11, n12, n13, n14, n15⟩ := fd
      have h2 : e2core K C q file n7 n8 n13 = true := h
      clear h
      have h := h2
      clear h2
      unfold e2core at h
      split at h
      · rename_i n13 n7 n8 x cc cda
        simp only [Option.some.injEq, Prod.mk.injEq, List.map_cons, List.map_nil, List.cons.injEq, and_true] at e
        obtain ⟨e1, e2, e3, e4, e5, e6, e7, e8⟩ := e
        subst e1 e2 e3 e4 e5 e6 e7 e8
        obtain ⟨h1, h⟩ := ba h
        obtain ⟨h2, h3⟩ := ba h
        refine ⟨oc, od, n9, n10, n11, n12, cda, n14, osl, cc, rfl, h1, ?_, ?_⟩
        · split at h2
          · rename_i a b vs c hl
            split at h2
            · rename_i z t hz
              exact ⟨a, b, vs, c, z, t, hl, hz, h2⟩
            · cases h2
          · cases h2
        · split at h3
          · rename_i a b C' c hl
            rw [eq_of_beq h3] at hl
            exact ⟨a, b, c, hl⟩
          · cases h3
      · cases h
    | _ => cases h
theorem e2B_ok {P : Program} {K : PySem.W.Frag} {h : Heap} {mg : Str → Option Value} {x q f1 f2 : Str} {st : Stmt} (X : K.In h) (G : h.Ns mainGlobals mg) (c : e2B K x q f1 f2 P.main.file = true) (e : fnY K (ma K (ga K x) "__init__") = e2val q st) (ht : (P.main.scope.names.lookup ("super" : Str)).isSome = false) : E2Txt P K mg x q (ga K x) (ma K (ga K x) "__init__") f1 f2 st := by
  obtain ⟨c1, c⟩ := ba c
  obtain ⟨c2, c⟩ := ba c
  obtain ⟨c3, c⟩ := ba c
  obtain ⟨c4, c⟩ := ba c
  obtain ⟨c5, c⟩ := ba c
  obtain ⟨c6, c⟩ := ba c
  obtain ⟨c7, c⟩ := ba c
  obtain ⟨c8, c⟩ := ba c
  obtain ⟨c9, c⟩ := ba c
  obtain ⟨c10, c⟩ := ba c
  obtain ⟨c11, c⟩ := ba c
  obtain ⟨c12, c⟩ := ba c
  obtain ⟨c13, c⟩ := ba c
  obtain ⟨c14, c⟩ := ba c
  obtain ⟨c15, c16⟩ := ba c
  exact ⟨PySem.W.mg_of X G (eqO_ok c2), e2clsB_ok c1, eqO_ok c3, eqO_ok c4, eqO_ok c5, eqO_ok c6, of_decide_eq_true c7, c8, of_decide_eq_true c9, of_decide_eq_true c10, of_decide_eq_true c11, eqO_ok c12, of_decide_eq_true c13, eqO_ok c14, PySem.W.mg_none_of X G (eqO_ok c15), ht, e2fn_ok e c16⟩
theorem tup0B_ok {K : PySem.W.Frag} {a : Addr} (h : tup0B K a = true) (H : Hp) : SqT K H a [] := by
  unfold tup0B at h
  split at h
  · rename_i c od its n osl q
    obtain ⟨h1, h2⟩ := ba h
    have e := Array.isEmpty_iff.mp h2
    subst e
    exact .inr ⟨_, #[], n, q, congrArg Value.type (eq_of_beq h1), rfl, by simp, .nil⟩
  · cases h
theorem seerB_ok {P : Program} {K : PySem.W.Frag} {mg : Str → Option Value} (c : seerB K = true) (ht : P.given.tree = none) : Seer P K mg := by
  obtain ⟨c1, c⟩ := ba c
  obtain ⟨c2, c⟩ := ba c
  obtain ⟨c3, c⟩ := ba c
  obtain ⟨c4, c⟩ := ba c
  obtain ⟨c5, c⟩ := ba c
  obtain ⟨c6, c7⟩ := ba c
  refine ⟨ht, fun h X G B => ⟨?_, ?_, B, ?_⟩⟩
  · exact ⟨_, .of_isNs (PySem.W.isNs_of_in X c1), PySem.W.nsMap_none_of_in X c1 (eqO_ok c3), PySem.W.nsMap_none_of_in X c1 (eqO_ok c4)⟩
  · exact ⟨_, .of_isNs (PySem.W.isNs_of_in X c2), PySem.W.nsMap_none_of_in X c2 (eqO_ok c5)⟩
  · split at c7
    · rename_i cc d dt sl q
      obtain ⟨h1, h2⟩ := ba c7
      exact ⟨mg, _, _, G, PySem.W.mg_of X G (eqO_ok c6), X _ _ q, congrArg Value.type (eq_of_beq h1), congrArg some (eq_of_beq h2)⟩
    · cases c7
structure Facts (K : PySem.W.Frag) : Prop where
  glo : (gloNames ++ (ownNames ++ cglo)).all (fun x => (Fa.glo x).ok K) = true
  free : freeNames.all (fun x => (Fa.free x).ok K) = true
  nums : ((Fa.int "MOST_PLOTS" 16).ok K && ((Fa.int "MOST_PARTINGS" 16).ok K && (Fa.int "MOST_TABLES" 64).ok K)) = true
  cls : ownNames.all (fun x => (Fa.cls x).ok K) = true
  mkr : ownNames.all (fun x => (Fa.mkr x).ok K) = true
  ins : ownNames.all (fun x => clsB K (ga K x)) = true
  noat : noAtts.all (fun p => (Fa.noat p.1 p.2).ok K) = true
  pro : proNames.all (fun p => proB K (ga K p.1) p.2) = true
  clm : clmNames.all (fun p => rdB K (ga K p.1) && clmB K (ga K p.1) p.2) = true
  met : metNames.all (fun p => (Fa.meth p.1 p.2).ok K) = true
  exm : exmFacts.all (fun p => (Fa.exm p.1 p.2.1 p.2.2).ok K) = true
  kit : kitFacts.all (fun p => decide (PySem.W.kitOne K (.ref (ga K p.1)) (.ref (ga K p.2.1)) = some p.2.2)) = true
  kit2 : (decide (PySem.W.kitOne K (.ref (ga K "UnlikePlots")) (.type "ValueError") = some true) && decide (PySem.W.kitOne K (.type "list") (.ref (ga K "Span")) = some false)) = true
  xcl : xNames.all (fun x => xclB K (ga K x)) = true
  np : (Fa.exc "NoPlots").ok K = true
  e2 : (e2B K "TooMany" "TooMany.__init__" "what" "limit" theFile && e2B K "UnlikePlots" "UnlikePlots.__init__" "left_plots" "right_plots" theFile) = true
  span : (PySem.W.selfFirst K (ga K "Span") && (eqO (PySem.W.findIn K (.ref (ga K "Span")) "__ne__") (some (some (.builtin "object.__ne__"))) && (PySem.W.notFirst K (ga K "Span") (.ref (ga K "Span")) && PySem.W.notFirst K (ga K "Span") (.type "list")))) = true
  dfl : tup0B K (dfl0 K (ma K (ga K "Span") "__init__")) = true
  seer : seerB K = true
theorem facts_of {K : PySem.W.Frag} (h : (factsB K).all id = true) : Facts K := by
  have g : ∀ (i : Nat) (b : Bool), (factsB K)[i]? = some b → b = true := fun i b e => List.all_eq_true.mp h b (List.mem_of_getElem? e)
  exact ⟨g 0 _ rfl, g 1 _ rfl, g 2 _ rfl, g 3 _ rfl, g 4 _ rfl, g 5 _ rfl, g 6 _ rfl, g 7 _ rfl, g 8 _ rfl, g 9 _ rfl, g 10 _ rfl, g 11 _ rfl, g 12 _ rfl, g 13 _ rfl, g 14 _ rfl, g 15 _ rfl, g 16 _ rfl, g 17 _ rfl, g 18 _ rfl⟩
structure SaysY (h : Heap) (K : PySem.W.Frag) : Prop where
  f : Facts K
  d : ∀ (i : Nat) (d : Pd), pds[i]? = some d → Def K (d.ad K) d.name d.qual d.st (d.dfl K)
  e1 : fnY K (ma K (ga K "TooMany") "__init__") = e2val "TooMany.__init__" st_TooMany
  e2 : fnY K (ma K (ga K "UnlikePlots") "__init__") = e2val "UnlikePlots.__init__" st_UnlikePlots
  hd : PySem.W.codeHdIn K (cT K ("reduced_rows", none)).1 (cT K ("reduced_rows", none)).2 = true
  out : K.lookup (cT K ("reduced_rows", none)).2 = none
  empty : h.get? (cT K ("reduced_rows", none)).2 = some { cls := .none, data := .fields #[] }
theorem saysY_of {h : Heap} (e : obsY h.get? = valY) : SaysY h (frT h.get? (asY h.get?)) := by
  unfold obsY valY at e
  rw [Prod.mk.injEq] at e
  obtain ⟨e1, e2⟩ := e
  generalize hK : frT h.get? (asY h.get?) = K at *
  unfold obsK at e1 e2
  dsimp only at e1 e2
  rw [List.all_append, List.all_cons] at e1
  obtain ⟨a1, a2⟩ := ba e1
  obtain ⟨a3, a4⟩ := ba a2
  obtain ⟨b1, b2⟩ := List.append_inj e2 (by simp)
  simp only [List.cons.injEq, and_true] at b2
  have a3' : (tabDefs.all fun p => PySem.W.codeHdIn K (cT K p).1 (cT K p).2 && (match h.get? (cT K p).2 with
    | some o => emptyTab o
    | none => false)) = true := a3
  have a5 := List.all_eq_true.mp a3' ("reduced_rows", none) (by unfold tabDefs; exact List.mem_cons_self)
  obtain ⟨a6, a7⟩ := ba a5
  have tb : ∃ o, h.get? (cT K ("reduced_rows", none)).2 = some o ∧ emptyTab o = true := by
    split at a7
    · rename_i o q
      exact ⟨o, q, a7⟩
    · cases a7
  obtain ⟨o, q, z⟩ := tb
  have ee : h.get? (cT K ("reduced_rows", none)).2 = some { cls := .none, data := .fields #[] } := by rw [q, emptyTab_eq z]
  have ff := facts_of a1
  have b21 := b2.1
  have b22 := b2.2
  have oo : K.lookup (cT K ("reduced_rows", none)).2 = none := by
    have z2 := frT_none (g := h.get?) (as := asY h.get?) q z
    rw [hK] at z2; exact z2
  have dd : ∀ (i : Nat) (d : Pd), pds[i]? = some d → Def K (d.ad K) d.name d.qual d.st (d.dfl K) := by
   intro i d hd
   have k1 : d.ok K = true := List.all_eq_true.mp a4 _ (List.mem_of_getElem? (i := i) (by rw [List.getElem?_map, hd]; rfl))
   have k2 : (pds.map fun d => fnY K (d.ad K))[i]? = (pds.map Pd.val)[i]? := by rw [b1]
   rw [List.getElem?_map, List.getElem?_map, hd] at k2
   exact Pd.def_ (Option.some.inj k2) k1
  exact SaysY.mk ff dd b21 b22 a6 oo ee
def hkY : PySem.W.Hook where
  α := Bool × List FnY
  obs := fun s => obsY s.heap.get?
  val := fun _ => valY
  says := fun _ h => ∃ K : PySem.W.Frag, K.In h ∧ SaysY h K
  of := fun _ _ e => ⟨_, frT_in, saysY_of e⟩
  keeps := fun _ _ _ ⟨K, hK, c⟩ k => ⟨K, PySem.W.Frag.In.keeps hK k, ⟨c.f, c.d, c.e1, c.e2, c.hd, c.out, k _ _ c.empty⟩⟩
end K4
/-! K45: the top run, for the Hook. -/
noncomputable section
namespace K4
open PySem PySem.W PySem.Calls PyProof.Rows
theorem obY_eq (s : PySem.W.SharedT) : obY s = hkY.obs s.abs := by
  have e : HandSHeadRun.getT s = s.abs.heap.get? := funext (HandSHeadRun.getT_eq s)
  unfold obY
  rw [e]; rfl
theorem run_ (w : World) : HandSHeadRun.RunEq R (PySem.W.view R.prog [97]) hkY obY 20000 loose w := fun os => run0 w os
end K4
end
/-! K46: all promises joined. -/
namespace K4
open PySem PySem.Spec PyProof.Rows L2 StX LamX
open M4 (Bd BQ dj)
theorem chain {P : Program} {w : World} {K : PySem.W.Frag} {mg : Str → Option Value} {base : Heap} {C_NoPlots C_TooMany C_UnlikePlots C_InputError C_LimitError I_TooMany I_UnlikePlots C_Table C_Parting C_Span P0 T0 c0 f_Teq f_Seq f_or f_wid f0 : Addr} {fd : FuncData}
    (D_shared_divisor : Glo K mg "shared_divisor" "shared_divisor" s_shared_divisor)
    (T_abs : mg "abs" = none)
    (D_common_divisor : Glo K mg "common_divisor" "common_divisor" s_common_divisor)
    (D_lowest : Glo K mg "lowest" "lowest" s_lowest)
    (seer : Seer P K mg)
    (D_shortened : Glo K mg "shortened" "shortened" s_shortened)
    (T_list : mg "list" = none)
    (D_product_sum : Glo K mg "product_sum" "product_sum" s_product_sum)
    (T_zip : mg "zip" = none)
    (T_sum : mg "sum" = none)
    (D_cleared : Glo K mg "cleared" "cleared" s_cleared)
    (D_first_place : Glo K mg "first_place" "first_place" s_first_place)
    (T_enumerate : mg "enumerate" = none)
    (T_min : mg "min" = none)
    (D_is_whole : Glo K mg "is_whole_ratios" "is_whole" s_is_whole)
    (T_isinstance : mg "isinstance" = none)
    (T_int : mg "int" = none)
    (T_bool : mg "bool" = none)
    (D_is_number : Glo K mg "is_number" "is_number" s_is_number)
    (T_tuple : mg "tuple" = none)
    (T_len : mg "len" = none)
    (D_ratio : ∃ f, Def K f "ratio" "ratio" s_ratio [.int 1] ∧ mg "ratio" = some (.ref f))
    (D_as_ratio : ∃ f, Def K f "as_ratio" "as_ratio" s_as_ratio [.int 0] ∧ mg "as_ratio" = some (.ref f))
    (D_whole_cells : Glo K mg "whole_cells" "whole_cells" s_whole_cells)
    (D_row_cells : Glo K mg "row_cells" "row_cells" s_row_cells)
    (D_away_from : Glo K mg "away_from" "away_from" s_away_from)
    (D_new_axes : Glo K mg "new_axes" "new_axes" s_new_axes)
    (T_any : mg "any" = none)
    (D_reduced_rows : GloC K mg "reduced_rows" "reduced_rows" s_reduced_rows c0)
    (TB : TabB base mg c0 P0)
    (T_sorted : mg "sorted" = none)
    (D_check_plots_aid_strata : Glo K mg "check_plots_aid_strata" "check_plots" s_check_plots)
    (T_NoPlots : E0Txt K mg "NoPlots" C_NoPlots)
    (T_TooMany : TxMany P K mg C_TooMany I_TooMany)
    (g_MOST_PLOTS : ∃ t, mg "MOST_PLOTS" = some (.int 16 t))
    (D_check_plots_tables : Glo K mg "check_plots_tables" "check_plots" s_check_plots_tables)
    (D_check_partings : ∃ f, Def K f "check_partings" "check_partings" s_check_partings [.int 1] ∧ mg "check_partings" = some (.ref f))
    (g_MOST_PARTINGS : ∃ t, mg "MOST_PARTINGS" = some (.int 16 t))
    (D_check_counts : Glo K mg "check_counts" "check_counts" s_check_counts)
    (T_UnlikePlots : TxUnlike P K mg C_UnlikePlots I_UnlikePlots)
    (D_Table_init : MkT K mg "Table" "Table.__init__" C_Table s_Table___init__ [])
    (na_Table_cell_row : NoAttr K C_Table "cell_row")
    (D_Table_plots : PrD K C_Table "plots" "Table.plots" s_Table_plots)
    (D_Table_cells : PrD K C_Table "cells" "Table.cells" s_Table_cells)
    (D_Table_zeros : CmD K C_Table "zeros" "Table.zeros" s_Table_zeros)
    (T_range : mg "range" = none)
    (D_Table_eq : Def K f_Teq "__eq__" "Table.__eq__" s_Table___eq__ [])
    (ins_Table : InsF K C_Table)
    (c_Table : mg "Table" = some (.ref C_Table))
    (D_is_whole_partings : Glo K mg "is_whole_partings" "is_whole" s_is_whole_partings)
    (D_is_label : Glo K mg "is_label" "is_label" s_is_label)
    (T_str : mg "str" = none)
    (D_need_plots : Glo K mg "need_plots" "need_plots" s_need_plots)
    (D_need_labels : Glo K mg "need_labels" "need_labels" s_need_labels)
    (D_least_plots : Glo K mg "least_plots" "least_plots" s_least_plots)
    (D_named_lots : Glo K mg "named_lots" "named_lots" s_named_lots)
    (D_Parting_init : MkT K mg "Parting" "Parting.__init__" C_Parting s_Parting___init__ [])
    (na_Parting_own_names : NoAttr K C_Parting "own_names")
    (na_Parting_own_lots : NoAttr K C_Parting "own_lots")
    (D_Parting_plots : PrD K C_Parting "plots" "Parting.plots" s_Parting_plots)
    (D_Parting_names : PrD K C_Parting "names" "Parting.names" s_Parting_names)
    (D_Parting_lots : PrD K C_Parting "lots" "Parting.lots" s_Parting_lots)
    (D_Parting_one : CmD K C_Parting "one" "Parting.one" s_Parting_one)
    (D_marks_of : Glo K mg "marks_of" "marks_of" s_marks_of)
    (D_Span_init : MkT K mg "Span" "Span.__init__" C_Span s_Span___init__ [.ref T0])
    (na_Span_plot_count : NoAttr K C_Span "plot_count")
    (na_Span_basis : NoAttr K C_Span "basis")
    (na_Span_axes : NoAttr K C_Span "axes")
    (g_MOST_TABLES : ∃ t, mg "MOST_TABLES" = some (.int 64 t))
    (hT0 : ∀ H : Hp, SqT K H T0 [])
    (D_Span_init0 : MkT K mg "Span" "Span.__init__" C_Span s_Span___init__ [.ref T0])
    (D_Span_plots : PrD K C_Span "plots" "Span.plots" s_Span_plots)
    (D_Span_rows : PrD K C_Span "rows" "Span.rows" s_Span_rows)
    (D_Span_dimension : PrD K C_Span "dimension" "Span.dimension" s_Span_dimension)
    (D_Span_eq : Def K f_Seq "__eq__" "Span.__eq__" s_Span___eq__ [])
    (ins_Span : InsF K C_Span)
    (c_Span : mg "Span" = some (.ref C_Span))
    (kL : PySem.W.kitOne K (.type "list") (.ref C_Span) = some false)
    (hTe : PySem.W.findIn K (.ref C_Table) "__eq__" = some (some (.ref f_Teq)))
    (hTf : PySem.W.isFn K (.ref f_Teq) = true)
    (D_Span_or : Def K f_or "__or__" "Span.__or__" s_Span___or__ [])
    (cls_Span : Cls K C_Span)
    (D_Span_widened : Def K f_wid "widened" "Span.widened" s_Span_widened [])
    (hsf : PySem.W.selfFirst K C_Span = true)
    (hor : PySem.W.findIn K (.ref C_Span) "__or__" = some (some (.ref f_or)))
    (hfn : PySem.W.isFn K (.ref f_or) = true)
    (D_Span_of_partings : CmD K C_Span "of_partings" "Span.of_partings" s_Span_of_partings)
    (D__law_gcd : Glo K mg "_law_gcd" "_law_gcd" s__law_gcd)
    (T_max : mg "max" = none)
    (D__law_ratio : Glo K mg "_law_ratio" "_law_ratio" s__law_ratio)
    (D__law_asratio : Glo K mg "_law_asratio" "_law_asratio" s__law_asratio)
    (D__law_mul : Glo K mg "_law_mul" "_law_mul" s__law_mul)
    (D__law_add : Glo K mg "_law_add" "_law_add" s__law_add)
    (D__law_div : Glo K mg "_law_div" "_law_div" s__law_div)
    (D__law_dot : Glo K mg "_law_dot" "_law_dot" s__law_dot)
    (D__law_addcells : Glo K mg "_law_addcells" "_law_addcells" s__law_addcells)
    (D__law_asratios : Glo K mg "_law_asratios" "_law_asratios" s__law_asratios)
    (D__law_iszero : Glo K mg "_law_iszero" "_law_iszero" s__law_iszero)
    (D__law_rest : Glo K mg "_law_rest" "_law_rest" s__law_rest)
    (D__law_upright : Glo K mg "_law_upright" "_law_upright" s__law_upright)
    (D_same0 : Glo K mg "_law_same" "_law_same" s__law_same)
    (D_same : Glo K mg "_law_same" "_law_same" s__law_same)
    (D__law_iswhole : Glo K mg "_law_iswhole" "_law_iswhole" s__law_iswhole)
    (D__law_isnumber : Glo K mg "_law_isnumber" "_law_isnumber" s__law_isnumber)
    (D__law_isratio : Glo K mg "_law_isratio" "_law_isratio" s__law_isratio)
    (D__law_areratios : Glo K mg "_law_areratios" "_law_areratios" s__law_areratios)
    (D__law_cellsof : Glo K mg "_law_cellsof" "_law_cellsof" s__law_cellsof)
    (D__law_isreduced : Glo K mg "_law_isreduced" "_law_isreduced" s__law_isreduced)
    (D__law_isspan : Glo K mg "_law_isspan" "_law_isspan" s__law_isspan)
    (D__law_store : Glo K mg "_law_store" "_law_store" s__law_store)
    (D__law_mixed : Glo K mg "_law_mixed" "_law_mixed" s__law_mixed)
    (D__law_take : Glo K mg "_law_take" "_law_take" s__law_take)
    (D__law_once : Glo K mg "_law_once" "_law_once" s__law_once)
    (D__law_pick : Glo K mg "_law_pick" "_law_pick" s__law_pick)
    (D__law_long : Glo K mg "_law_long" "_law_long" s__law_long)
    (D__law_otherplots : Glo K mg "_law_otherplots" "_law_otherplots" s__law_otherplots)
    (D__law_canon : Glo K mg "_law_canon" "_law_canon" s__law_canon)
    (D__law_lots : Glo K mg "_law_lots" "_law_lots" s__law_lots)
    (D__law_numberrow : Glo K mg "_law_numberrow" "_law_numberrow" s__law_numberrow)
    (D__law_listed : Glo K mg "_law_listed" "_law_listed" s__law_listed)
    (D__law_equals : Glo K mg "_law_equals" "_law_equals" s__law_equals)
    (hSe : PySem.W.findIn K (.ref C_Span) "__eq__" = some (some (.ref f_Seq)))
    (hSf : PySem.W.isFn K (.ref f_Seq) = true)
    (hSn : PySem.W.findIn K (.ref C_Span) "__ne__" = some (some (.builtin "object.__ne__")))
    (hSm : PySem.W.mroIn K C_Span (.type "object") = some true)
    (nfS : PySem.W.notFirst K C_Span (.ref C_Span) = true)
    (nfL : PySem.W.notFirst K C_Span (.type "list") = true)
    (D__law_parted : Glo K mg "_law_parted" "_law_parted" s__law_parted)
    (D__law_refusal : Glo K mg "_law_refusal" "_law_refusal" s__law_refusal)
    (mW : Meth K C_Span "widened" f_wid)
    (c_NoPlots : mg "NoPlots" = some (.ref C_NoPlots))
    (c_TooMany : mg "TooMany" = some (.ref C_TooMany))
    (c_UnlikePlots : mg "UnlikePlots" = some (.ref C_UnlikePlots))
    (c_InputError : mg "InputError" = some (.ref C_InputError))
    (c_LimitError : mg "LimitError" = some (.ref C_LimitError))
    (T_ValueError : mg "ValueError" = none)
    (b_ValueError : bootBuiltins "ValueError" = some (.type "ValueError"))
    (eNN : PySem.W.exmOne K (.ref C_NoPlots) (.ref C_NoPlots) = some true)
    (eMN : PySem.W.exmOne K (.ref C_TooMany) (.ref C_NoPlots) = some false)
    (eMM : PySem.W.exmOne K (.ref C_TooMany) (.ref C_TooMany) = some true)
    (eUN : PySem.W.exmOne K (.ref C_UnlikePlots) (.ref C_NoPlots) = some false)
    (eUM : PySem.W.exmOne K (.ref C_UnlikePlots) (.ref C_TooMany) = some false)
    (eUU : PySem.W.exmOne K (.ref C_UnlikePlots) (.ref C_UnlikePlots) = some true)
    (kNI : PySem.W.kitOne K (.ref C_NoPlots) (.ref C_InputError) = some true)
    (kNU : PySem.W.kitOne K (.ref C_NoPlots) (.ref C_UnlikePlots) = some false)
    (kML : PySem.W.kitOne K (.ref C_TooMany) (.ref C_LimitError) = some true)
    (kMI : PySem.W.kitOne K (.ref C_TooMany) (.ref C_InputError) = some false)
    (kUI : PySem.W.kitOne K (.ref C_UnlikePlots) (.ref C_InputError) = some true)
    (kUV : PySem.W.kitOne K (.ref C_UnlikePlots) (.type "ValueError") = some true)
    (xN : ExcCl K C_NoPlots)
    (xM : ExcCl K C_TooMany)
    (xU : ExcCl K C_UnlikePlots)
    (nM1 : PySem.W.findIn K (.ref C_TooMany) "what" = some none)
    (nM2 : PySem.W.findIn K (.ref C_TooMany) "limit" = some none)
    (nU1 : PySem.W.findIn K (.ref C_UnlikePlots) "left_plots" = some none)
    (nU2 : PySem.W.findIn K (.ref C_UnlikePlots) "right_plots" = some none)
    (D__law_refuses : Glo K mg "_law_refuses" "_law_refuses" s__law_refuses)
    (c_Parting : mg "Parting" = some (.ref C_Parting))
    (D_law : FunD K "law" "law" (defArgs s_law) (defBody s_law) (defScope s_law) [] [] f0 fd)
    : FnOk P w K mg base CX0 52 f0 fd ["_law_script"] (spLaw K P0) := by
  have ok_shared_divisor : Cal P w K mg base CX0 33 "shared_divisor" spShared := K4.ok_shared_divisor D_shared_divisor T_abs
  have ok_common_divisor : Cal P w K mg base CX0 33 "common_divisor" spShared := K4.ok_common_divisor D_common_divisor T_abs
  have ok_lowest : Cal P w K mg base CX0 35 "lowest" spLowest := K4.ok_lowest D_lowest ok_common_divisor seer
  have ok_shortened : Cal P w K mg base CX0 35 "shortened" spShort := K4.ok_shortened D_shortened ok_shared_divisor seer T_list
  have ok_product_sum : Cal P w K mg base CX0 33 "product_sum" spPsum := K4.ok_product_sum D_product_sum T_zip T_sum
  have ok_cleared : Cal P w K mg base CX0 37 "cleared" spCleared := K4.ok_cleared D_cleared ok_shortened T_zip
  have ok_first_place : Cal P w K mg base CX0 33 "first_place" spFirst := K4.ok_first_place D_first_place T_enumerate T_min
  have ok_is_whole : Cal P w K mg base CX0 33 "is_whole_ratios" spWhole := K4.ok_is_whole D_is_whole T_isinstance T_int T_bool
  have ok_is_number : Cal P w K mg base CX0 35 "is_number" spNumber := K4.ok_is_number D_is_number ok_is_whole T_isinstance T_tuple T_len
  have ok_ratio : Cal P w K mg base CX0 37 "ratio" spLowest := K4.ok_ratio D_ratio ok_lowest
  have ok_as_ratio : Cal P w K mg base CX0 37 "as_ratio" spAsRatio := K4.ok_as_ratio D_as_ratio ok_lowest ok_is_number T_isinstance T_tuple
  have ok_whole_cells : Cal P w K mg base CX0 35 "whole_cells" spWhole_cells := K4.ok_whole_cells D_whole_cells ok_shared_divisor seer
  have ok_row_cells : Cal P w K mg base CX0 39 "row_cells" spRow_cells := K4.ok_row_cells D_row_cells ok_ratio
  have ok_away_from : Cal P w K mg base CX0 37 "away_from" spAway := K4.ok_away_from D_away_from ok_product_sum ok_shortened T_zip T_list
  have ok_new_axes : Cal P w K mg base CX0 39 "new_axes" spNew_axes := K4.ok_new_axes D_new_axes ok_away_from T_any
  have ok_reduced_rows : Cal P w K mg base CX0 39 "reduced_rows" (spReduced P0) := K4.ok_reduced_rows D_reduced_rows TB ok_cleared ok_first_place T_any T_sorted
  have ok_check_plots_aid_strata : Cal P w K mg base (L2.CX P w) 33 "check_plots_aid_strata" (spCheck C_NoPlots C_TooMany) := K4.ok_check_plots_aid_strata D_check_plots_aid_strata T_NoPlots T_TooMany g_MOST_PLOTS
  have ok_check_plots_tables : Cal P w K mg base (L2.CX P w) 33 "check_plots_tables" (spCheck C_NoPlots C_TooMany) := K4.ok_check_plots_tables D_check_plots_tables T_NoPlots T_TooMany g_MOST_PLOTS
  have ok_check_partings : Cal P w K mg base (L2.CX P w) 33 "check_partings" (spCheckP C_NoPlots C_TooMany) := K4.ok_check_partings D_check_partings T_NoPlots T_TooMany g_MOST_PARTINGS T_len
  have ok_Table_init : CalM P w K mg base CX0 39 "Table" C_Table (spTable_init C_Table) := K4.ok_Table_init D_Table_init na_Table_cell_row ok_check_plots_tables ok_as_ratio T_len T_tuple T_enumerate
  have ok_Table_plots : CalP P w K mg base CX0 33 C_Table "plots" (spNum (RTab C_Table)) := K4.ok_Table_plots D_Table_plots na_Table_cell_row T_len
  have ok_check_counts_Table : Cal P w K mg base (L2.CX P w) 35 "check_counts" (spCounts C_UnlikePlots C_Table (RTab C_Table)) := K4.ok_check_counts D_check_counts T_UnlikePlots ok_Table_plots
  have ok_check_counts0 : Cal P w K mg base (L2.CX P w) 35 "check_counts" (spCounts0 (K := K)) := K4.ok_check_counts0 D_check_counts T_UnlikePlots ok_Table_plots
  have ok_Table_cells : CalP P w K mg base CX0 33 C_Table "cells" (spFldOf C_Table "cell_row") := K4.ok_Table_cells D_Table_cells na_Table_cell_row
  have ok_Table_zeros : CalC P w K mg base CX0 41 C_Table "zeros" (spZeros C_Table) := K4.ok_Table_zeros D_Table_zeros ok_check_plots_tables ok_Table_init T_range
  have ok_Table_eq : FnR P w K mg base CX0 33 f_Teq (spTabEq C_Table) := K4.ok_Table_eq D_Table_eq ins_Table na_Table_cell_row c_Table T_isinstance
  have ok_is_whole_partings : Cal P w K mg base CX0 33 "is_whole_partings" spWhole := K4.ok_is_whole_partings D_is_whole_partings T_isinstance T_int T_bool
  have ok_is_label : Cal P w K mg base CX0 35 "is_label" spWhole := K4.ok_is_label D_is_label ok_is_whole_partings T_isinstance T_str
  have ok_need_plots : Cal P w K mg base CX0 33 "need_plots" spNeedPl := K4.ok_need_plots D_need_plots g_MOST_PLOTS
  have ok_need_labels : Cal P w K mg base CX0 37 "need_labels" spNeedLb := K4.ok_need_labels D_need_labels ok_need_plots ok_is_label T_len T_enumerate
  have ok_least_plots : Cal P w K mg base CX0 33 "least_plots" spLeast := K4.ok_least_plots D_least_plots T_enumerate T_tuple
  have ok_named_lots : Cal P w K mg base CX0 33 "named_lots" spLots := K4.ok_named_lots D_named_lots T_enumerate T_tuple
  have ok_Parting_init : CalM P w K mg base CX0 39 "Parting" C_Parting (spParting_init C_Parting) := K4.ok_Parting_init D_Parting_init na_Parting_own_names na_Parting_own_lots ok_need_labels ok_least_plots ok_named_lots
  have ok_Parting_plots : CalP P w K mg base CX0 33 C_Parting "plots" (spNum (RPar C_Parting)) := K4.ok_Parting_plots D_Parting_plots na_Parting_own_names T_len
  have ok_check_counts_Parting : Cal P w K mg base (L2.CX P w) 35 "check_counts" (spCounts C_UnlikePlots C_Parting (RPar C_Parting)) := K4.ok_check_counts D_check_counts T_UnlikePlots ok_Parting_plots
  have ok_Parting_names : CalP P w K mg base CX0 33 C_Parting "names" (spFldOf C_Parting "own_names") := K4.ok_Parting_names D_Parting_names na_Parting_own_names
  have ok_Parting_lots : CalP P w K mg base CX0 33 C_Parting "lots" (spFldOf C_Parting "own_lots") := K4.ok_Parting_lots D_Parting_lots na_Parting_own_lots
  have ok_Parting_one : CalC P w K mg base CX0 41 C_Parting "one" (spOne C_Parting) := K4.ok_Parting_one D_Parting_one ok_need_plots ok_Parting_init
  have ok_marks_of : Cal P w K mg base CX0 37 "marks_of" (spMarks C_Parting) := K4.ok_marks_of D_marks_of ok_Parting_names ok_Parting_lots T_int
  have ok_Span_init : CalM P w K mg base (L2.CX P w) 42 "Span" C_Span (spSpan_init C_Span C_Table C_TooMany C_UnlikePlots P0) := K4.ok_Span_init D_Span_init na_Span_plot_count na_Span_basis na_Span_axes T_TooMany g_MOST_TABLES ok_check_plots_aid_strata ok_check_counts_Table ok_reduced_rows ok_whole_cells ok_row_cells ok_new_axes ok_Table_init ok_Table_cells T_len T_tuple
  have ok_Span_init0 : CalM P w K mg base (L2.CX P w) 42 "Span" C_Span (spSpan_init0 C_Span C_Table P0) := K4.ok_Span_init0 hT0 D_Span_init0 na_Span_plot_count na_Span_basis na_Span_axes T_TooMany g_MOST_TABLES ok_check_plots_aid_strata ok_check_counts0 ok_reduced_rows ok_whole_cells ok_row_cells ok_new_axes ok_Table_init ok_Table_cells T_len T_tuple
  have ok_Span_plots : CalP P w K mg base CX0 33 C_Span "plots" (spFldOf C_Span "plot_count") := K4.ok_Span_plots D_Span_plots na_Span_plot_count
  have ok_Span_plotsN : CalP P w K mg base CX0 33 C_Span "plots" (spNum (RSpan C_Span C_Table)) := K4.ok_Span_plotsN ok_Span_plots
  have ok_check_counts_Span : Cal P w K mg base (L2.CX P w) 35 "check_counts" (spCounts C_UnlikePlots C_Span (RSpan C_Span C_Table)) := K4.ok_check_counts D_check_counts T_UnlikePlots ok_Span_plotsN
  have ok_Span_rows : CalP P w K mg base CX0 33 C_Span "rows" (spFldOf C_Span "basis") := K4.ok_Span_rows D_Span_rows na_Span_basis
  have ok_Span_dimension : CalP P w K mg base CX0 33 C_Span "dimension" (spDim C_Span C_Table) := K4.ok_Span_dimension D_Span_dimension na_Span_basis T_len
  have ok_Span_eq : FnR P w K mg base CX0 36 f_Seq (spSpanEq C_Span C_Table) := K4.ok_Span_eq D_Span_eq ins_Span na_Span_plot_count na_Span_basis c_Span kL T_isinstance hTe hTf ok_Table_eq
  have ok_Span_or : FnR P w K mg base (L2.CX P w) 44 f_or (spOr C_Span C_Table C_UnlikePlots P0) := K4.ok_Span_or D_Span_or cls_Span na_Span_plot_count na_Span_basis ok_check_counts_Span ok_Span_init
  have ok_Span_widened : FnR P w K mg base (L2.CX P w) 46 f_wid (spWiden C_Span C_Table C_TooMany C_UnlikePlots P0) := K4.ok_Span_widened D_Span_widened cls_Span na_Span_plot_count hsf hor hfn ok_Span_or ok_Span_init
  have ok_Span_of_partings : CalC P w K mg base (L2.CX P w) 44 C_Span "of_partings" (spOfPar C_Span C_Table C_Parting C_NoPlots C_TooMany C_UnlikePlots P0) := K4.ok_Span_of_partings D_Span_of_partings ok_check_plots_aid_strata ok_check_partings ok_check_counts_Parting ok_reduced_rows ok_marks_of ok_Table_init ok_Span_init
  have ok__law_gcd : Cal P w K mg base CX0 33 "_law_gcd" spGcdL := K4.ok__law_gcd D__law_gcd T_abs T_int T_max
  have ok__law_ratio : Cal P w K mg base CX0 35 "_law_ratio" spRatioL := K4.ok__law_ratio D__law_ratio ok__law_gcd seer T_int
  have ok__law_asratio : Cal P w K mg base CX0 37 "_law_asratio" spAsratio := K4.ok__law_asratio D__law_asratio ok__law_ratio T_isinstance T_tuple
  have ok__law_mul : Cal P w K mg base CX0 37 "_law_mul" (spBin fun a b => a * b) := K4.ok__law_mul D__law_mul ok__law_ratio
  have ok__law_add : Cal P w K mg base CX0 37 "_law_add" (spBin fun a b => a + b) := K4.ok__law_add D__law_add ok__law_ratio
  have ok__law_div : Cal P w K mg base CX0 37 "_law_div" (spBin fun a b => a / b) := K4.ok__law_div D__law_div ok__law_ratio
  have ok__law_dot : Cal P w K mg base CX0 39 "_law_dot" spDot := K4.ok__law_dot D__law_dot ok__law_add ok__law_mul T_len T_range
  have ok__law_addcells : Cal P w K mg base CX0 39 "_law_addcells" spAddcells := K4.ok__law_addcells D__law_addcells ok__law_add ok__law_mul T_len T_range
  have ok__law_asratios : Cal P w K mg base CX0 39 "_law_asratios" spAsratios := K4.ok__law_asratios D__law_asratios ok__law_asratio
  have ok__law_iszero : Cal P w K mg base CX0 33 "_law_iszero" spIszero := K4.ok__law_iszero D__law_iszero T_len
  have ok__law_rest : Cal P w K mg base CX0 41 "_law_rest" spRest := K4.ok__law_rest D__law_rest ok__law_dot ok__law_div ok__law_mul ok__law_addcells T_list
  have ok__law_upright : Cal P w K mg base CX0 43 "_law_upright" spUpright := K4.ok__law_upright D__law_upright ok__law_rest ok__law_iszero
  have ok_same0 : Cal P w K mg base CX0 33 "_law_same" spSameS := K4.ok_same0 D_same0 T_isinstance T_int T_bool T_str
  have ok_same : Cal P w K mg base CX0 35 "_law_same" spSame := K4.ok_same D_same ok_same0 T_isinstance T_int T_bool T_str T_tuple T_list T_len T_range
  have ok__law_iswhole : Cal P w K mg base CX0 33 "_law_iswhole" spWhole := K4.ok__law_iswhole D__law_iswhole T_isinstance T_int T_bool
  have ok__law_isnumber : Cal P w K mg base CX0 35 "_law_isnumber" spIsQ := K4.ok__law_isnumber D__law_isnumber ok__law_iswhole T_isinstance T_tuple T_len
  have ok__law_isratio : Cal P w K mg base CX0 37 "_law_isratio" spIsQ := K4.ok__law_isratio D__law_isratio ok__law_isnumber ok__law_gcd T_isinstance T_tuple
  have ok__law_areratios : Cal P w K mg base CX0 39 "_law_areratios" spAreQ := K4.ok__law_areratios D__law_areratios ok__law_isratio T_isinstance T_list T_len
  have ok__law_cellsof : Cal P w K mg base CX0 41 "_law_cellsof" (spCellsof C_Table) := K4.ok__law_cellsof D__law_cellsof ins_Table c_Table ok_Table_cells ok__law_areratios T_isinstance T_list T_tuple T_len
  have ok__law_isreduced : Cal P w K mg base CX0 33 "_law_isreduced" spIsreduced := K4.ok__law_isreduced D__law_isreduced T_len T_range
  have ok__law_isspan : Cal P w K mg base CX0 45 "_law_isspan" (spIsspan C_Span C_Table) := K4.ok__law_isspan D__law_isspan ins_Span c_Span ok_Span_plots ok_Span_rows ok_Span_dimension ok__law_cellsof ok__law_isreduced ok__law_upright ok_same ok__law_iszero ok__law_rest T_isinstance T_tuple T_len
  have ok__law_store : Cal P w K mg base CX0 33 "_law_store" (spStore K) := K4.ok__law_store D__law_store T_len T_int
  have ok__law_mixed : Cal P w K mg base CX0 33 "_law_mixed" spMixed := K4.ok__law_mixed D__law_mixed T_int
  have ok__law_take : Cal P w K mg base CX0 35 "_law_take" spTake := K4.ok__law_take D__law_take ok__law_mixed seer T_int T_len T_abs T_range
  have ok__law_once : Cal P w K mg base CX0 37 "_law_once" spOnce := K4.ok__law_once D__law_once ok__law_take
  have ok__law_pick : Cal P w K mg base CX0 37 "_law_pick" (spPick K) := K4.ok__law_pick D__law_pick ok__law_take T_len
  have ok__law_long : Cal P w K mg base CX0 33 "_law_long" spLong := K4.ok__law_long D__law_long T_len T_int T_range
  have ok__law_otherplots : Cal P w K mg base CX0 39 "_law_otherplots" spOther := K4.ok__law_otherplots D__law_otherplots ok__law_take ok__law_once T_max
  have ok__law_canon : Cal P w K mg base CX0 33 "_law_canon" spCanonL := K4.ok__law_canon D__law_canon T_len T_range T_tuple
  have ok__law_lots : Cal P w K mg base CX0 33 "_law_lots" spLotsL := K4.ok__law_lots D__law_lots T_len T_range T_tuple
  have ok__law_numberrow : Cal P w K mg base CX0 37 "_law_numberrow" spNumrow := K4.ok__law_numberrow D__law_numberrow ok__law_take seer T_int T_range
  have ok__law_listed : Cal P w K mg base CX0 41 "_law_listed" spListed := K4.ok__law_listed D__law_listed ok__law_take ok__law_pick ok__law_numberrow ok__law_asratios ok__law_addcells T_range
  have ok__law_equals : Cal P w K mg base CX0 39 "_law_equals" (spEquals C_Span C_Table) := K4.ok__law_equals D__law_equals hSe hSf hSn hSm nfS nfL ok_Span_eq ok_same
  have ok__law_parted : Cal P w K mg base CX0 48 "_law_parted" (spParted C_Parting P0) := K4.ok__law_parted part_math D__law_parted c_Span ok__law_take ok__law_canon ok__law_lots ok_Parting_init ok_Span_of_partings ok__law_isspan T_int T_list T_range
  have ok__law_refusal : Cal P w K mg base CX0 48 "_law_refusal" (spRefusal C_Span C_Table C_Parting C_NoPlots C_TooMany C_UnlikePlots P0) := K4.ok__law_refusal D__law_refusal c_Span cls_Span mW ok_Span_widened hsf hor hfn ok_Span_or c_NoPlots c_TooMany c_UnlikePlots c_InputError c_LimitError T_ValueError b_ValueError T_isinstance eNN eMN eMM eUN eUM eUU kNI kNU kML kMI kUI kUV xN xM xU nM1 nM2 nU1 nU2 ok_Span_of_partings
  have ok__law_refuses : Cal P w K mg base CX0 50 "_law_refuses" (spRefuses C_Span C_Table C_Parting P0) := K4.ok__law_refuses part_math D__law_refuses c_Span c_Table c_Parting ok_same ok__law_refusal ok_Table_zeros ok_Parting_one ok_Span_init0 ok__law_long T_len T_range
  exact K4.ok_law D_law c_Span c_Table cls_Span mW ok_Span_widened hsf hor hfn ok_Span_or ok_Span_init ok_Span_init0 ok_Table_init ok_Table_zeros ok__law_store ok__law_take ok__law_once ok__law_pick ok__law_listed ok__law_addcells ok__law_isspan ok__law_upright ok__law_equals ok__law_otherplots ok__law_parted ok__law_refuses T_len T_range T_list T_min T_max
end K4
/-! K47: the base facts. -/
namespace K4
open PySem PySem.Spec PyProof.Rows L2 StX LamX
open He (ga ma ba eqO eqO_ok cT codeOf)
abbrev PG : Program := PySem.Challenge.pw_crossmeans_k44_sums_of_spans
/-- reduced_rows, by its code object -/
theorem gloC_of {K : PySem.W.Frag} {mg : Str → Option Value} (D : Def K (ga K "reduced_rows") "reduced_rows" "reduced_rows" s_reduced_rows []) (g : mg "reduced_rows" = some (.ref (ga K "reduced_rows"))) : GloC K mg "reduced_rows" "reduced_rows" s_reduced_rows (cT K ("reduced_rows", none)).1 := by
  obtain ⟨fd, F⟩ := D
  obtain ⟨oc, od, dV, kV, doc, pm, an, cdv, ct, osl, e, lk, hc, _⟩ := F.ex
  obtain ⟨c, rfl⟩ := He.codeIn_ref hc
  have e2 : codeOf K ("reduced_rows", none) = c := He.codeOf_eq (p := ("reduced_rows", none)) (fd := fd) lk (by rw [e])
  exact ⟨_, fd, F, by show fd.code = .ref (codeOf K ("reduced_rows", none)); rw [e2, e], g⟩
theorem all_of {w : World} {K : PySem.W.Frag} {mg : Str → Option Value} {h base : Heap} {fd : FuncData} (X : K.In h) (G : h.Ns mainGlobals mg) (c : SaysY h K) (F : FunD K "law" "law" (defArgs s_law) (defBody s_law) (defScope s_law) [] [] (ga K "law") fd) (TB : TabB base mg (cT K ("reduced_rows", none)).1 (cT K ("reduced_rows", none)).2) :
    FnOk PG w K mg base CX0 52 (ga K "law") fd ["_law_script"] (spLaw K (cT K ("reduced_rows", none)).2) := by
  have ht : PG.given.tree = none := rfl
  have gl : ∀ x : Str, x ∈ gloNames ++ (ownNames ++ cglo) → mg x = some (.ref (ga K x)) := fun x hx => He.glo_ok X G (List.all_eq_true.mp c.f.glo x hx)
  have fr : ∀ x : Str, x ∈ freeNames → mg x = none := fun x hx => He.free_ok X G (List.all_eq_true.mp c.f.free x hx)
  have cl : ∀ x : Str, x ∈ ownNames → Cls K (ga K x) := fun x hx => He.cls_ok (List.all_eq_true.mp c.f.cls x hx)
  have mk : ∀ x : Str, x ∈ ownNames → Mk K (ga K x) (ma K (ga K x) "__init__") := fun x hx => He.mkr_ok (List.all_eq_true.mp c.f.mkr x hx)
  have ins : ∀ x : Str, x ∈ ownNames → InsF K (ga K x) := fun x hx => by
    obtain ⟨a1, a2, a3, a4⟩ := clsB_ok (List.all_eq_true.mp c.f.ins x hx)
    exact ⟨cl x hx, a1, a2, a3, a4⟩
  have na : ∀ p : Str × Str, p ∈ noAtts → NoAttr K (ga K p.1) p.2 := fun p hp => He.noat_ok (List.all_eq_true.mp c.f.noat p hp)
  have pr : ∀ p : Str × Str, p ∈ proNames → PropOf K (ga K p.1) p.2 (ma K (ga K p.1) p.2) (prG K (ma K (ga K p.1) p.2) "property") := fun p hp => proB_ok (List.all_eq_true.mp c.f.pro p hp)
  have cm : ∀ p : Str × Str, p ∈ clmNames → ClX.CRead K (ga K p.1) (.type "type") ∧ ClX.CMet K (ga K p.1) (.type "type") p.2 (ma K (ga K p.1) p.2) (prG K (ma K (ga K p.1) p.2) "classmethod") := fun p hp => by
    obtain ⟨a1, a2⟩ := ba (List.all_eq_true.mp c.f.clm p hp)
    exact ⟨rdB_ok a1, clmB_ok a2⟩
  have me : ∀ p : Str × Str, p ∈ metNames → Meth K (ga K p.1) p.2 (ma K (ga K p.1) p.2) := fun p hp => He.meth_ok (List.all_eq_true.mp c.f.met p hp)
  have ex : ∀ p : Str × Str × Bool, p ∈ exmFacts → PySem.W.exmOne K (.ref (ga K p.1)) (.ref (ga K p.2.1)) = some p.2.2 := fun p hp => He.exm_ok (List.all_eq_true.mp c.f.exm p hp)
  have ki : ∀ p : Str × Str × Bool, p ∈ kitFacts → PySem.W.kitOne K (.ref (ga K p.1)) (.ref (ga K p.2.1)) = some p.2.2 := fun p hp => of_decide_eq_true (List.all_eq_true.mp c.f.kit p hp)
  have xc : ∀ x : Str, x ∈ xNames → ExcCl K (ga K x) := fun x hx => xclB_ok (List.all_eq_true.mp c.f.xcl x hx)
  have hs : (PG.main.scope.names.lookup ("super" : Str)).isSome = false := by decide +kernel
  have tM : TxMany PG K mg (ga K "TooMany") (ma K (ga K "TooMany") "__init__") := e2B_ok X G (ba c.f.e2).1 c.e1 hs
  have tU : TxUnlike PG K mg (ga K "UnlikePlots") (ma K (ga K "UnlikePlots") "__init__") := e2B_ok X G (ba c.f.e2).2 c.e2 hs
  have dR := gloC_of (K := K) (mg := mg) (c.d 58 pd_reduced_rows rfl) (gl "reduced_rows" (by decide +kernel))
  refine chain (C_NoPlots := ga K "NoPlots") (C_TooMany := ga K "TooMany") (C_UnlikePlots := ga K "UnlikePlots") (C_InputError := ga K "InputError") (C_LimitError := ga K "LimitError") (I_TooMany := ma K (ga K "TooMany") "__init__") (I_UnlikePlots := ma K (ga K "UnlikePlots") "__init__") (C_Table := ga K "Table") (C_Parting := ga K "Parting") (C_Span := ga K "Span") (P0 := (cT K ("reduced_rows", none)).2) (T0 := dfl0 K (ma K (ga K "Span") "__init__")) (c0 := (cT K ("reduced_rows", none)).1) (f_Teq := ma K (ga K "Table") "__eq__") (f_Seq := ma K (ga K "Span") "__eq__") (f_or := ma K (ga K "Span") "__or__") (f_wid := ma K (ga K "Span") "widened") ?_ ?_ ?_ ?_ ?_ ?_ ?_ ?_ ?_ ?_ ?_ ?_ ?_ ?_ ?_ ?_ ?_ ?_ ?_ ?_ ?_ ?_ ?_ ?_ ?_ ?_ ?_ ?_ ?_ ?_ ?_ ?_ ?_ ?_ ?_ ?_ ?_ ?_ ?_ ?_ ?_ ?_ ?_ ?_ ?_ ?_ ?_ ?_ ?_ ?_ ?_ ?_ ?_ ?_ ?_ ?_ ?_ ?_ ?_ ?_ ?_ ?_ ?_ ?_ ?_ ?_ ?_ ?_ ?_ ?_ ?_ ?_ ?_ ?_ ?_ ?_ ?_ ?_ ?_ ?_ ?_ ?_ ?_ ?_ ?_ ?_ ?_ ?_ ?_ ?_ ?_ ?_ ?_ ?_ ?_ ?_ ?_ ?_ ?_ ?_ ?_ ?_ ?_ ?_ ?_ ?_ ?_ ?_ ?_ ?_ ?_ ?_ ?_ ?_ ?_ ?_ ?_ ?_ ?_ ?_ ?_ ?_ ?_ ?_ ?_ ?_ ?_ ?_ ?_ ?_ ?_ ?_ ?_ ?_ ?_ ?_ ?_ ?_ ?_ ?_ ?_ ?_ ?_ ?_ ?_ ?_ ?_ ?_ ?_ ?_ ?_ ?_ ?_ ?_ ?_ ?_ ?_ ?_ ?_
  · exact ⟨_, (c.d 0 pd_shared_divisor rfl), (gl "shared_divisor" (by decide +kernel))⟩
  · exact fr "abs" (by decide +kernel)
  · exact ⟨_, (c.d 1 pd_common_divisor rfl), (gl "common_divisor" (by decide +kernel))⟩
  · exact ⟨_, (c.d 2 pd_lowest rfl), (gl "lowest" (by decide +kernel))⟩
  · exact seerB_ok c.f.seer ht
  · exact ⟨_, (c.d 3 pd_shortened rfl), (gl "shortened" (by decide +kernel))⟩
  · exact fr "list" (by decide +kernel)
  · exact ⟨_, (c.d 4 pd_product_sum rfl), (gl "product_sum" (by decide +kernel))⟩
  · exact fr "zip" (by decide +kernel)
  · exact fr "sum" (by decide +kernel)
  · exact ⟨_, (c.d 5 pd_cleared rfl), (gl "cleared" (by decide +kernel))⟩
  · exact ⟨_, (c.d 6 pd_first_place rfl), (gl "first_place" (by decide +kernel))⟩
  · exact fr "enumerate" (by decide +kernel)
  · exact fr "min" (by decide +kernel)
  · exact ⟨_, (c.d 7 pd_is_whole_ratios rfl), (gl "is_whole_ratios" (by decide +kernel))⟩
  · exact fr "isinstance" (by decide +kernel)
  · exact fr "int" (by decide +kernel)
  · exact fr "bool" (by decide +kernel)
  · exact ⟨_, (c.d 8 pd_is_number rfl), (gl "is_number" (by decide +kernel))⟩
  · exact fr "tuple" (by decide +kernel)
  · exact fr "len" (by decide +kernel)
  · exact ⟨_, (c.d 60 pd_ratio rfl), (gl "ratio" (by decide +kernel))⟩
  · exact ⟨_, (c.d 61 pd_as_ratio rfl), (gl "as_ratio" (by decide +kernel))⟩
  · exact ⟨_, (c.d 9 pd_whole_cells rfl), (gl "whole_cells" (by decide +kernel))⟩
  · exact ⟨_, (c.d 10 pd_row_cells rfl), (gl "row_cells" (by decide +kernel))⟩
  · exact ⟨_, (c.d 11 pd_away_from rfl), (gl "away_from" (by decide +kernel))⟩
  · exact ⟨_, (c.d 12 pd_new_axes rfl), (gl "new_axes" (by decide +kernel))⟩
  · exact fr "any" (by decide +kernel)
  · exact dR
  · exact TB
  · exact fr "sorted" (by decide +kernel)
  · exact ⟨_, (c.d 13 pd_check_plots_aid_strata rfl), (gl "check_plots_aid_strata" (by decide +kernel))⟩
  · exact ⟨(He.exc_ok c.f.np).1, gl "NoPlots" (by decide +kernel), (He.exc_ok c.f.np).2.1, (He.exc_ok c.f.np).2.2.1, (He.exc_ok c.f.np).2.2.2⟩
  · exact tM
  · exact He.int_ok X G (ba c.f.nums).1
  · exact ⟨_, (c.d 14 pd_check_plots_tables rfl), (gl "check_plots_tables" (by decide +kernel))⟩
  · exact ⟨_, (c.d 59 pd_check_partings rfl), (gl "check_partings" (by decide +kernel))⟩
  · exact He.int_ok X G (ba (ba c.f.nums).2).1
  · exact ⟨_, (c.d 15 pd_check_counts rfl), (gl "check_counts" (by decide +kernel))⟩
  · exact tU
  · exact ⟨cl "Table" (by decide +kernel), _, (c.d 63 pd_Table___init__ rfl), mk "Table" (by decide +kernel), (gl "Table" (by decide +kernel))⟩
  · exact na ("Table", "cell_row") (by decide +kernel)
  · exact ⟨cl "Table" (by decide +kernel), _, _, pr ("Table", "plots") (by decide +kernel), (c.d 70 pd_Table_plots rfl)⟩
  · exact ⟨cl "Table" (by decide +kernel), _, _, pr ("Table", "cells") (by decide +kernel), (c.d 71 pd_Table_cells rfl)⟩
  · exact ⟨_, _, _, (cm ("Table", "zeros") (by decide +kernel)).1, (cm ("Table", "zeros") (by decide +kernel)).2, (c.d 78 pd_Table_zeros rfl)⟩
  · exact fr "range" (by decide +kernel)
  · exact (c.d 64 pd_Table___eq__ rfl)
  · exact ins "Table" (by decide +kernel)
  · exact gl "Table" (by decide +kernel)
  · exact ⟨_, (c.d 16 pd_is_whole_partings rfl), (gl "is_whole_partings" (by decide +kernel))⟩
  · exact ⟨_, (c.d 17 pd_is_label rfl), (gl "is_label" (by decide +kernel))⟩
  · exact fr "str" (by decide +kernel)
  · exact ⟨_, (c.d 18 pd_need_plots rfl), (gl "need_plots" (by decide +kernel))⟩
  · exact ⟨_, (c.d 19 pd_need_labels rfl), (gl "need_labels" (by decide +kernel))⟩
  · exact ⟨_, (c.d 20 pd_least_plots rfl), (gl "least_plots" (by decide +kernel))⟩
  · exact ⟨_, (c.d 21 pd_named_lots rfl), (gl "named_lots" (by decide +kernel))⟩
  · exact ⟨cl "Parting" (by decide +kernel), _, (c.d 65 pd_Parting___init__ rfl), mk "Parting" (by decide +kernel), (gl "Parting" (by decide +kernel))⟩
  · exact na ("Parting", "own_names") (by decide +kernel)
  · exact na ("Parting", "own_lots") (by decide +kernel)
  · exact ⟨cl "Parting" (by decide +kernel), _, _, pr ("Parting", "plots") (by decide +kernel), (c.d 72 pd_Parting_plots rfl)⟩
  · exact ⟨cl "Parting" (by decide +kernel), _, _, pr ("Parting", "names") (by decide +kernel), (c.d 73 pd_Parting_names rfl)⟩
  · exact ⟨cl "Parting" (by decide +kernel), _, _, pr ("Parting", "lots") (by decide +kernel), (c.d 74 pd_Parting_lots rfl)⟩
  · exact ⟨_, _, _, (cm ("Parting", "one") (by decide +kernel)).1, (cm ("Parting", "one") (by decide +kernel)).2, (c.d 79 pd_Parting_one rfl)⟩
  · exact ⟨_, (c.d 22 pd_marks_of rfl), (gl "marks_of" (by decide +kernel))⟩
  · exact ⟨cl "Span" (by decide +kernel), _, (c.d 66 pd_Span___init__ rfl), mk "Span" (by decide +kernel), (gl "Span" (by decide +kernel))⟩
  · exact na ("Span", "plot_count") (by decide +kernel)
  · exact na ("Span", "basis") (by decide +kernel)
  · exact na ("Span", "axes") (by decide +kernel)
  · exact He.int_ok X G (ba (ba c.f.nums).2).2
  · exact tup0B_ok c.f.dfl
  · exact ⟨cl "Span" (by decide +kernel), _, (c.d 66 pd_Span___init__ rfl), mk "Span" (by decide +kernel), (gl "Span" (by decide +kernel))⟩
  · exact ⟨cl "Span" (by decide +kernel), _, _, pr ("Span", "plots") (by decide +kernel), (c.d 75 pd_Span_plots rfl)⟩
  · exact ⟨cl "Span" (by decide +kernel), _, _, pr ("Span", "rows") (by decide +kernel), (c.d 76 pd_Span_rows rfl)⟩
  · exact ⟨cl "Span" (by decide +kernel), _, _, pr ("Span", "dimension") (by decide +kernel), (c.d 77 pd_Span_dimension rfl)⟩
  · exact (c.d 67 pd_Span___eq__ rfl)
  · exact ins "Span" (by decide +kernel)
  · exact gl "Span" (by decide +kernel)
  · exact of_decide_eq_true (ba c.f.kit2).2
  · exact (me ("Table", "__eq__") (by decide +kernel)).at_
  · exact (me ("Table", "__eq__") (by decide +kernel)).fn
  · exact (c.d 68 pd_Span___or__ rfl)
  · exact cl "Span" (by decide +kernel)
  · exact (c.d 69 pd_Span_widened rfl)
  · exact (ba c.f.span).1
  · exact (me ("Span", "__or__") (by decide +kernel)).at_
  · exact (me ("Span", "__or__") (by decide +kernel)).fn
  · exact ⟨_, _, _, (cm ("Span", "of_partings") (by decide +kernel)).1, (cm ("Span", "of_partings") (by decide +kernel)).2, (c.d 80 pd_Span_of_partings rfl)⟩
  · exact ⟨_, (c.d 23 pd__law_gcd rfl), (gl "_law_gcd" (by decide +kernel))⟩
  · exact fr "max" (by decide +kernel)
  · exact ⟨_, (c.d 24 pd__law_ratio rfl), (gl "_law_ratio" (by decide +kernel))⟩
  · exact ⟨_, (c.d 25 pd__law_asratio rfl), (gl "_law_asratio" (by decide +kernel))⟩
  · exact ⟨_, (c.d 26 pd__law_mul rfl), (gl "_law_mul" (by decide +kernel))⟩
  · exact ⟨_, (c.d 27 pd__law_add rfl), (gl "_law_add" (by decide +kernel))⟩
  · exact ⟨_, (c.d 28 pd__law_div rfl), (gl "_law_div" (by decide +kernel))⟩
  · exact ⟨_, (c.d 29 pd__law_dot rfl), (gl "_law_dot" (by decide +kernel))⟩
  · exact ⟨_, (c.d 30 pd__law_addcells rfl), (gl "_law_addcells" (by decide +kernel))⟩
  · exact ⟨_, (c.d 31 pd__law_asratios rfl), (gl "_law_asratios" (by decide +kernel))⟩
  · exact ⟨_, (c.d 32 pd__law_iszero rfl), (gl "_law_iszero" (by decide +kernel))⟩
  · exact ⟨_, (c.d 33 pd__law_rest rfl), (gl "_law_rest" (by decide +kernel))⟩
  · exact ⟨_, (c.d 34 pd__law_upright rfl), (gl "_law_upright" (by decide +kernel))⟩
  · exact ⟨_, (c.d 35 pd__law_same rfl), (gl "_law_same" (by decide +kernel))⟩
  · exact ⟨_, (c.d 35 pd__law_same rfl), (gl "_law_same" (by decide +kernel))⟩
  · exact ⟨_, (c.d 36 pd__law_iswhole rfl), (gl "_law_iswhole" (by decide +kernel))⟩
  · exact ⟨_, (c.d 37 pd__law_isnumber rfl), (gl "_law_isnumber" (by decide +kernel))⟩
  · exact ⟨_, (c.d 38 pd__law_isratio rfl), (gl "_law_isratio" (by decide +kernel))⟩
  · exact ⟨_, (c.d 39 pd__law_areratios rfl), (gl "_law_areratios" (by decide +kernel))⟩
  · exact ⟨_, (c.d 40 pd__law_cellsof rfl), (gl "_law_cellsof" (by decide +kernel))⟩
  · exact ⟨_, (c.d 41 pd__law_isreduced rfl), (gl "_law_isreduced" (by decide +kernel))⟩
  · exact ⟨_, (c.d 42 pd__law_isspan rfl), (gl "_law_isspan" (by decide +kernel))⟩
  · exact ⟨_, (c.d 43 pd__law_store rfl), (gl "_law_store" (by decide +kernel))⟩
  · exact ⟨_, (c.d 44 pd__law_mixed rfl), (gl "_law_mixed" (by decide +kernel))⟩
  · exact ⟨_, (c.d 45 pd__law_take rfl), (gl "_law_take" (by decide +kernel))⟩
  · exact ⟨_, (c.d 46 pd__law_once rfl), (gl "_law_once" (by decide +kernel))⟩
  · exact ⟨_, (c.d 47 pd__law_pick rfl), (gl "_law_pick" (by decide +kernel))⟩
  · exact ⟨_, (c.d 48 pd__law_long rfl), (gl "_law_long" (by decide +kernel))⟩
  · exact ⟨_, (c.d 49 pd__law_otherplots rfl), (gl "_law_otherplots" (by decide +kernel))⟩
  · exact ⟨_, (c.d 50 pd__law_canon rfl), (gl "_law_canon" (by decide +kernel))⟩
  · exact ⟨_, (c.d 51 pd__law_lots rfl), (gl "_law_lots" (by decide +kernel))⟩
  · exact ⟨_, (c.d 52 pd__law_numberrow rfl), (gl "_law_numberrow" (by decide +kernel))⟩
  · exact ⟨_, (c.d 53 pd__law_listed rfl), (gl "_law_listed" (by decide +kernel))⟩
  · exact ⟨_, (c.d 54 pd__law_equals rfl), (gl "_law_equals" (by decide +kernel))⟩
  · exact (me ("Span", "__eq__") (by decide +kernel)).at_
  · exact (me ("Span", "__eq__") (by decide +kernel)).fn
  · exact eqO_ok (ba (ba c.f.span).2).1
  · exact (ins "Span" (by decide +kernel)).hm
  · exact (ba (ba (ba c.f.span).2).2).1
  · exact (ba (ba (ba c.f.span).2).2).2
  · exact ⟨_, (c.d 55 pd__law_parted rfl), (gl "_law_parted" (by decide +kernel))⟩
  · exact ⟨_, (c.d 56 pd__law_refusal rfl), (gl "_law_refusal" (by decide +kernel))⟩
  · exact me ("Span", "widened") (by decide +kernel)
  · exact gl "NoPlots" (by decide +kernel)
  · exact gl "TooMany" (by decide +kernel)
  · exact gl "UnlikePlots" (by decide +kernel)
  · exact gl "InputError" (by decide +kernel)
  · exact gl "LimitError" (by decide +kernel)
  · exact fr "ValueError" (by decide +kernel)
  · exact by decide +kernel
  · exact ex ("NoPlots", "NoPlots", true) (by decide +kernel)
  · exact ex ("TooMany", "NoPlots", false) (by decide +kernel)
  · exact ex ("TooMany", "TooMany", true) (by decide +kernel)
  · exact ex ("UnlikePlots", "NoPlots", false) (by decide +kernel)
  · exact ex ("UnlikePlots", "TooMany", false) (by decide +kernel)
  · exact ex ("UnlikePlots", "UnlikePlots", true) (by decide +kernel)
  · exact ki ("NoPlots", "InputError", true) (by decide +kernel)
  · exact ki ("NoPlots", "UnlikePlots", false) (by decide +kernel)
  · exact ki ("TooMany", "LimitError", true) (by decide +kernel)
  · exact ki ("TooMany", "InputError", false) (by decide +kernel)
  · exact ki ("UnlikePlots", "InputError", true) (by decide +kernel)
  · exact of_decide_eq_true (ba c.f.kit2).1
  · exact xc "NoPlots" (by decide +kernel)
  · exact xc "TooMany" (by decide +kernel)
  · exact xc "UnlikePlots" (by decide +kernel)
  · exact tM.n1
  · exact tM.n2
  · exact tU.n1
  · exact tU.n2
  · exact ⟨_, (c.d 57 pd__law_refuses rfl), (gl "_law_refuses" (by decide +kernel))⟩
  · exact gl "Parting" (by decide +kernel)
  · exact F
end K4
/-! K48: the law. -/
namespace K4
open PySem PySem.Spec PyProof.Rows L2 StX LamX
open He (ga ma cT)
theorem law_at {w : World} {mg : Str → Option Value} {fa : Addr} {h : Heap} {K : PySem.W.Frag} (X : K.In h) (c : SaysY h K) (G : h.Ns mainGlobals mg) (hfa : mg ("law" : Str) = some (.ref fa)) :
    LawAtS PySem.Challenge.rw_crossmeans_k44_sums_of_spans w K CX0 52 63 "_law_script" mg fa h := by
  have e := hfa.symm.trans (He.glo_ok X G (List.all_eq_true.mp c.f.glo "law" (by decide +kernel)))
  have ef : fa = ga K "law" := by injection e with e1; injection e1
  subst ef
  obtain ⟨fd, F⟩ := c.d 62 pd_law rfl
  refine ⟨fd, [cT K ("reduced_rows", none)], spLaw K (cT K ("reduced_rows", none)).2, fun p hp => ?_, fun p hp => ?_, fun p hp => ?_, fun s u => ?_, fun H a ns hl _ hT hS => ?_, fun base _ _ hB => ?_⟩
  · rw [List.mem_singleton.mp hp]; exact c.empty
  · rw [List.mem_singleton.mp hp]; exact c.out
  · rw [List.mem_singleton.mp hp]; exact PySem.W.codeHd_of_K X c.hd
  · have b := FunD.bindsA (ps := ["_law_script"]) F fun _ _ _ _ _ _ us hl => match us, hl with | [_], _ => rfl
    exact b s [u] rfl
  · refine ⟨a, ns, rfl, hS, Nat.le_trans hl (by decide), fun p hp => ?_, fun _ => rfl⟩
    have ep : p = ((cT K ("reduced_rows", none)).2, (("reduced_rows" : Str) ++ ".<locals>.") ++ "<lambda>") := List.mem_singleton.mp hp
    rw [ep]
    exact TabS.nil (hT _ List.mem_cons_self)
  · exact all_of X G c F (hB _ List.mem_cons_self)
end K4
open PySem PySem.W PySem.Calls PyProof.Rows
theorem PySem.Challenge.cw_crossmeans_k44_sums_of_spans_holds : PySem.Challenge.rw_crossmeans_k44_sums_of_spans.Holds := by
  w_on; o_law
  refine HandSHeadRun.head_any (r := OpenLaw.row PySem.Challenge.rw_crossmeans_k44_sums_of_spans) (q := view (OpenLaw.row PySem.Challenge.rw_crossmeans_k44_sums_of_spans).prog [97]) (H := K4.hkY) (ob := K4.obY) (M := 20000) (loose := K4.loose) (d := HandSHeadRun.topDef (OpenLaw.row PySem.Challenge.rw_crossmeans_k44_sums_of_spans).prog 97) (kwd := []) K4.obY_eq
    (by kernel_rfl) (fun s => by kernel_rfl) K4.run_ (by kernel_rfl) (by kernel_rfl) (by kernel_rfl) (by rfl) (by first | assumption | decide +kernel) (by decide +kernel) ⟨rfl, rfl, rfl, rfl, rfl, by decide +kernel⟩ ?hw ?hc
  case hw => w_witness2
  case hc =>
    refine LamX.walk_ofTsE (l := PySem.Challenge.rw_crossmeans_k44_sums_of_spans) (n := 63) (k := 52) (x := "_law_script") (CX := fun _ => L2.CX0) rfl (by decide) (by kernel_rfl) ⟨rfl, by decide, by decide⟩ ?F (fun _ _ _ _ _ z => z)
    intro w mg fa h Y G hmg0
    obtain ⟨K, KX, c⟩ := Y
    have hmg : mg ("law" : PySem.Str) = some (.ref fa) := by
      have e : (HandSHeadRun.topDef (OpenLaw.row PySem.Challenge.rw_crossmeans_k44_sums_of_spans).prog 97).name = ("law" : PySem.Str) := by kernel_rfl
      rw [← e]
      exact hmg0
    exact ⟨K, KX, K4.law_at KX c G hmg⟩
