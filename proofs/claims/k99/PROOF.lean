import PyProof.Rows.All
import Wide.All
import OpenK.AllK
import Wide.FinOn
import PyProof.EqAt
import PyProof.EqKinds
import PyProof.TupleCall
import HandS.ForMost
import HandS.Exc
import HandS.ExcInit
import HandS.WordsExc
import HandS.Evl
import HandS.Wide
import HandS.WideBits
import HandS.Property
import HandS.IsInst
import HandS.SortInts
import HandS.Conv
import HandS.HeadHook1
import HandS.HeadHook2
import KE.KExcSuper
import KE.KExcIs
import KE.KStateDown
import HandS.Head0
import HandS.Head1
import HandS.Head2
import HandS.HeadEnd
import HandS.FStr
import HandS.Nested
import HandS.HotCalls
import HandS.ExcField
import HandS.ExcIs
import PyProof.Rows.CountFlat
import PySem.Challenge.RW_bitshades_k99_whole_breaking_and_nearest
set_option Elab.async false
set_option linter.all false
set_option maxRecDepth 100000
set_option maxHeartbeats 0
/-! The text by places, and what is asked of the written part. -/
namespace Bs
open PySem PySem.Spec PyProof.Rows L2
def top (i : Nat) : Stmt := PySem.Challenge.pw_bitshades_k99_whole_breaking_and_nearest.main.body.getD i (.Pass ⟨0, 0, 0, 0⟩)
/-- the function's data at an address -/
def fdOf (K : PySem.W.Frag) (a : Addr) : FuncData := match K.lookup a with
  | some ⟨_, _, .func fd, _⟩ => fd
  | _ => default
/-- the getter of a property -/
def pg (K : PySem.W.Frag) (C : Addr) (f : Str) : Addr := match PySem.W.recIn K (He.ma K C f) "property" with
  | some (.ref g :: _) => g
  | _ => 0
/-- a def of the module: its name there, its own name, its text -/
structure Df (K : PySem.W.Frag) (mg : Str → Option Value) (g x : Str) (st : Stmt) : Prop where
  gl : mg g = some (.ref (He.ga K g))
  F : Fun K x x st (He.ga K g) (fdOf K (He.ga K g))
abbrev T_check_integer_ratios (K : PySem.W.Frag) : Addr := He.ga K "check_integer_ratios"
abbrev T_common_divisor (K : PySem.W.Frag) : Addr := He.ga K "common_divisor"
abbrev T_lowest (K : PySem.W.Frag) : Addr := He.ga K "lowest"
abbrev T_ratio (K : PySem.W.Frag) : Addr := He.ga K "ratio"
abbrev T_check_integer_tables (K : PySem.W.Frag) : Addr := He.ga K "check_integer_tables"
abbrev T_check_between (K : PySem.W.Frag) : Addr := He.ga K "check_between"
abbrev T_check_width (K : PySem.W.Frag) : Addr := He.ga K "check_width"
abbrev T_check_word (K : PySem.W.Frag) : Addr := He.ga K "check_word"
abbrev T_check_row (K : PySem.W.Frag) : Addr := He.ga K "check_row"
abbrev T_check_bits (K : PySem.W.Frag) : Addr := He.ga K "check_bits"
abbrev T_check_table_shades (K : PySem.W.Frag) : Addr := He.ga K "check_table_shades"
abbrev T_width_of_length (K : PySem.W.Frag) : Addr := He.ga K "width_of_length"
abbrev T_stepped (K : PySem.W.Frag) : Addr := He.ga K "stepped"
abbrev T_all_steps (K : PySem.W.Frag) : Addr := He.ga K "all_steps"
abbrev T_scores (K : PySem.W.Frag) : Addr := He.ga K "scores"
abbrev T_shades (K : PySem.W.Frag) : Addr := He.ga K "shades"
abbrev T_check_table_pairs (K : PySem.W.Frag) : Addr := He.ga K "check_table_pairs"
abbrev T_broken_bit (K : PySem.W.Frag) : Addr := He.ga K "broken_bit"
abbrev T_broken_bits (K : PySem.W.Frag) : Addr := He.ga K "broken_bits"
abbrev T_breaking_row (K : PySem.W.Frag) : Addr := He.ga K "breaking_row"
abbrev T_breaking_count (K : PySem.W.Frag) : Addr := He.ga K "breaking_count"
abbrev T_breaking_share (K : PySem.W.Frag) : Addr := He.ga K "breaking_share"
abbrev T_counted_votes (K : PySem.W.Frag) : Addr := He.ga K "counted_votes"
abbrev T_all_votes (K : PySem.W.Frag) : Addr := He.ga K "all_votes"
abbrev T_mended_bit (K : PySem.W.Frag) : Addr := He.ga K "mended_bit"
abbrev T_mend_log (K : PySem.W.Frag) : Addr := He.ga K "mend_log"
abbrev T_mended (K : PySem.W.Frag) : Addr := He.ga K "mended"
abbrev T_distances (K : PySem.W.Frag) : Addr := He.ga K "distances"
abbrev T_nearest (K : PySem.W.Frag) : Addr := He.ga K "nearest"
abbrev T_sum_distance (K : PySem.W.Frag) : Addr := He.ga K "sum_distance"
abbrev T_unique_nearest (K : PySem.W.Frag) : Addr := He.ga K "unique_nearest"
abbrev T_lmixed (K : PySem.W.Frag) : Addr := He.ga K "_law_mixed"
abbrev T_lwide (K : PySem.W.Frag) : Addr := He.ga K "_law_wide"
abbrev T_lstore (K : PySem.W.Frag) : Addr := He.ga K "_law_store"
abbrev T_ltake (K : PySem.W.Frag) : Addr := He.ga K "_law_take"
abbrev T_lnear (K : PySem.W.Frag) : Addr := He.ga K "_law_near"
abbrev T_lsame (K : PySem.W.Frag) : Addr := He.ga K "_law_same"
abbrev T_lspoil (K : PySem.W.Frag) : Addr := He.ga K "_law_spoil"
abbrev T_lis_table (K : PySem.W.Frag) : Addr := He.ga K "_law_is_table"
abbrev T_lsize (K : PySem.W.Frag) : Addr := He.ga K "_law_size"
abbrev T_lparity (K : PySem.W.Frag) : Addr := He.ga K "_law_parity"
abbrev T_lshuffled (K : PySem.W.Frag) : Addr := He.ga K "_law_shuffled"
abbrev T_llowest (K : PySem.W.Frag) : Addr := He.ga K "_law_lowest"
abbrev T_lbits_of (K : PySem.W.Frag) : Addr := He.ga K "_law_bits_of"
abbrev T_lbits_up (K : PySem.W.Frag) : Addr := He.ga K "_law_bits_up"
abbrev T_lbits (K : PySem.W.Frag) : Addr := He.ga K "_law_bits"
abbrev T_lbits_near (K : PySem.W.Frag) : Addr := He.ga K "_law_bits_near"
abbrev T_lfault_of (K : PySem.W.Frag) : Addr := He.ga K "_law_fault_of"
abbrev T_lcalled (K : PySem.W.Frag) : Addr := He.ga K "_law_called"
abbrev T_lask (K : PySem.W.Frag) : Addr := He.ga K "_law_ask"
abbrev T_llines (K : PySem.W.Frag) : Addr := He.ga K "_law_lines"
abbrev T_lvoted (K : PySem.W.Frag) : Addr := He.ga K "_law_voted"
abbrev T_ldues (K : PySem.W.Frag) : Addr := He.ga K "_law_dues"
abbrev T_lcubes (K : PySem.W.Frag) : Addr := He.ga K "_law_cubes"
abbrev T_lholds (K : PySem.W.Frag) : Addr := He.ga K "_law_holds"
abbrev T_lone (K : PySem.W.Frag) : Addr := He.ga K "_law_one"
abbrev T_law (K : PySem.W.Frag) : Addr := He.ga K "law"
abbrev T_tinit (K : PySem.W.Frag) : Addr := He.ma K (He.ga K "Table") "__init__"
abbrev T_twidth (K : PySem.W.Frag) : Addr := pg K (He.ga K "Table") "width"
abbrev T_tbits (K : PySem.W.Frag) : Addr := pg K (He.ga K "Table") "bits"
abbrev T_tsigns (K : PySem.W.Frag) : Addr := He.ma K (He.ga K "Table") "signs"
abbrev T_wkinit (K : PySem.W.Frag) : Addr := He.ma K (He.ga K "WrongKind") "__init__"
abbrev TC (K : PySem.W.Frag) : Addr := He.ga K "Table"
abbrev WK (K : PySem.W.Frag) : Addr := He.ga K "WrongKind"
/-- what the class Table must say -/
structure TabF (K : PySem.W.Frag) : Prop where
  cls : Cls K (TC K)
  mkr : Mk K (TC K) (T_tinit K)
  nw : NoAttr K (TC K) "wide"
  nh : NoAttr K (TC K) "held"
  m_signs : Meth K (TC K) "signs" (T_tsigns K)
  p_width : PropOf K (TC K) "width" (He.ma K (TC K) "width") (T_twidth K)
  p_bits : PropOf K (TC K) "bits" (He.ma K (TC K) "bits") (T_tbits K)
  ha : PySem.W.findIn K (.ref (TC K)) "__class__" = some (some (.builtin "object.__class__"))
  hn : PySem.W.specialIn K (.builtin "object.__class__") "__get__" = some (some (.builtin "getset_descriptor.__get__"))
  ht : PySem.W.takesIn K (.builtin "object.__class__") = some true
  hm : PySem.W.mroIn K (TC K) (.type "object") = some true
  k_self : PySem.W.kitOne K (.ref (TC K)) (.ref (TC K)) = some true
  k_none : PySem.W.kitOne K (.type "NoneType") (.ref (TC K)) = some false
  k_int : PySem.W.kitOne K (.type "int") (.ref (TC K)) = some false
  k_bool : PySem.W.kitOne K (.type "bool") (.ref (TC K)) = some false
  k_str : PySem.W.kitOne K (.type "str") (.ref (TC K)) = some false
  k_list : PySem.W.kitOne K (.type "list") (.ref (TC K)) = some false
  k_tuple : PySem.W.kitOne K (.type "tuple") (.ref (TC K)) = some false
  F_init : Fun K "__init__" "Table.__init__" (inClass (top 30) 0) (T_tinit K) (fdOf K (T_tinit K))
  F_signs : Fun K "signs" "Table.signs" (inClass (top 30) 8) (T_tsigns K) (fdOf K (T_tsigns K))
  F_width : Fun K "width" "Table.width" (inClass (top 30) 3) (T_twidth K) (fdOf K (T_twidth K))
  F_bits : Fun K "bits" "Table.bits" (inClass (top 30) 4) (T_tbits K) (fdOf K (T_tbits K))
/-- the text's file -/
def fileP : Str := PySem.Challenge.pw_bitshades_k99_whole_breaking_and_nearest.main.file
/-- the program that runs: its file, no super at its top -/
class IsP (P : Program) : Prop where
  file : P.main.file = fileP
  top : (P.main.scope.names.lookup ("super" : Str)).isSome = false
abbrev s_wkinit : Stmt := inClass (top 3) 0
/-- what the class WrongKind must say -/
structure WkF (K : PySem.W.Frag) : Prop where
  oex : OexC K (WK K)
  fi : PySem.W.findIn K (.ref (WK K)) "__init__" = some (some (.ref (T_wkinit K)))
  ft : PySem.W.typeIn K (.ref (T_wkinit K)) = some (.type "function")
  na : PySem.W.findIn K (.ref (WK K)) "argument" = some none
  fn : ∃ (cc cda : Addr) (oc oc2 oc3 : Value) (od od2 od3 an : Option Addr) (kV doc pm ct : Value) (osl osl2 osl3 : Array (Option Value)) (vs : Array Value) (tf : Tok),
    fdOf K (T_wkinit K) = PySem.W.fnX "__init__" "WrongKind.__init__" (defArgs s_wkinit) (defBody s_wkinit) (defScope s_wkinit) [("__class__", cc)] .none kV doc pm an (.ref cda) ct ∧
    K.lookup (T_wkinit K) = some ⟨oc, od, .func (fdOf K (T_wkinit K)), osl⟩ ∧ PySem.W.codeIn K (.ref cda) "WrongKind.__init__" = true ∧
    K.lookup cc = some ⟨oc2, od2, .cell (some (.ref (WK K))), osl2⟩ ∧ K.lookup cda = some ⟨oc3, od3, .fields vs, osl3⟩ ∧ vs[2]? = some (.str fileP tf)
  sub : PySem.W.mroIn K (WK K) (.ref (WK K)) = some true
  third : PySem.W.nsIn K cStatics "thirdparty.any" = some none
  sup : PySem.W.ks_superIn K (WK K) (WK K) "__init__" = some (some (.builtin "ValueError.__init__"))
  subB : PySem.W.subIn K (.ref (WK K)) (.type "ValueError") = some true
/-- an exception class whose caught instances are asked -/
structure ExcF (K : PySem.W.Frag) (D : Addr) : Prop where
  cl : (PySem.W.clsIn K D).isSome = true
  ga : PySem.W.findIn K (.ref D) "__getattribute__" = some (some (.builtin "BaseException.__getattribute__"))
  gg : PySem.W.findIn K (.ref D) "__getattr__" = some none
  sb : PySem.W.subIn K (.ref D) (.type "BaseException") = some true
  hd : PySem.W.hasDictIn K D = true
  ha : PySem.W.findIn K (.ref D) "__class__" = some (some (.builtin "object.__class__"))
  hn : PySem.W.specialIn K (.builtin "object.__class__") "__get__" = some (some (.builtin "getset_descriptor.__get__"))
  ht : PySem.W.takesIn K (.builtin "object.__class__") = some true
  hm : PySem.W.mroIn K D (.type "object") = some true
/-- what isinstance and except say of a WrongKind -/
structure WkX (K : PySem.W.Frag) : Prop where
  ex : ExcF K (WK K)
  exm : PySem.W.exmOne K (.ref (WK K)) (.ref (He.ga K "ShadeError")) = some true
  k_ValueError : PySem.W.kitOne K (.ref (WK K)) (.type "ValueError") = some true
  k_WrongKind : PySem.W.kitOne K (.ref (WK K)) (.ref (He.ga K "WrongKind")) = some true
  k_WrongSize : PySem.W.kitOne K (.ref (WK K)) (.ref (He.ga K "WrongSize")) = some false
  k_OutOfRange : PySem.W.kitOne K (.ref (WK K)) (.ref (He.ga K "OutOfRange")) = some false
  k_BadText : PySem.W.kitOne K (.ref (WK K)) (.ref (He.ga K "BadText")) = some false
  k_NotATable : PySem.W.kitOne K (.ref (WK K)) (.ref (He.ga K "NotATable")) = some false
  k_Spent : PySem.W.kitOne K (.ref (WK K)) (.ref (He.ga K "Spent")) = some false
  k_TooFewPlaces : PySem.W.kitOne K (.ref (WK K)) (.ref (He.ga K "TooFewPlaces")) = some false
  k_WrongPaper : PySem.W.kitOne K (.ref (WK K)) (.ref (He.ga K "WrongPaper")) = some false
  k_UnknownName : PySem.W.kitOne K (.ref (WK K)) (.ref (He.ga K "UnknownName")) = some false
  k_NameTaken : PySem.W.kitOne K (.ref (WK K)) (.ref (He.ga K "NameTaken")) = some false
  k_NothingToUndo : PySem.W.kitOne K (.ref (WK K)) (.ref (He.ga K "NothingToUndo")) = some false
  k_BookFull : PySem.W.kitOne K (.ref (WK K)) (.ref (He.ga K "BookFull")) = some false
/-- all that the walk leans on -/
structure Fx (K : PySem.W.Frag) (mg : Str → Option Value) : Prop where
  tab : TabF K
  wk : WkF K
  wx : WkX K
  mw : ∃ t, mg "MOST_WIDTH" = some (.int 6 t)
  g_ShadeError : mg "ShadeError" = some (.ref (He.ga K "ShadeError"))
  g_WrongKind : mg "WrongKind" = some (.ref (He.ga K "WrongKind"))
  g_WrongSize : mg "WrongSize" = some (.ref (He.ga K "WrongSize"))
  g_OutOfRange : mg "OutOfRange" = some (.ref (He.ga K "OutOfRange"))
  g_BadText : mg "BadText" = some (.ref (He.ga K "BadText"))
  g_NotATable : mg "NotATable" = some (.ref (He.ga K "NotATable"))
  g_Spent : mg "Spent" = some (.ref (He.ga K "Spent"))
  g_TooFewPlaces : mg "TooFewPlaces" = some (.ref (He.ga K "TooFewPlaces"))
  g_WrongPaper : mg "WrongPaper" = some (.ref (He.ga K "WrongPaper"))
  g_UnknownName : mg "UnknownName" = some (.ref (He.ga K "UnknownName"))
  g_NameTaken : mg "NameTaken" = some (.ref (He.ga K "NameTaken"))
  g_NothingToUndo : mg "NothingToUndo" = some (.ref (He.ga K "NothingToUndo"))
  g_BookFull : mg "BookFull" = some (.ref (He.ga K "BookFull"))
  g_Table : mg "Table" = some (.ref (He.ga K "Table"))
  z_len : mg "len" = none
  z_range : mg "range" = none
  z_sum : mg "sum" = none
  z_min : mg "min" = none
  z_max : mg "max" = none
  z_abs : mg "abs" = none
  z_int : mg "int" = none
  z_list : mg "list" = none
  z_tuple : mg "tuple" = none
  z_isinstance : mg "isinstance" = none
  z_bool : mg "bool" = none
  z_str : mg "str" = none
  z_super : mg "super" = none
  z_ValueError : mg "ValueError" = none
  z_enumerate : mg "enumerate" = none
  z_sorted : mg "sorted" = none
  z_zip : mg "zip" = none
  d_check_integer_ratios : Df K mg "check_integer_ratios" "check_integer" (top 16)
  d_common_divisor : Df K mg "common_divisor" "common_divisor" (top 18)
  d_lowest : Df K mg "lowest" "lowest" (top 19)
  d_ratio : Df K mg "ratio" "ratio" (top 20)
  d_check_integer_tables : Df K mg "check_integer_tables" "check_integer" (top 23)
  d_check_between : Df K mg "check_between" "check_between" (top 25)
  d_check_width : Df K mg "check_width" "check_width" (top 26)
  d_check_word : Df K mg "check_word" "check_word" (top 27)
  d_check_row : Df K mg "check_row" "check_row" (top 28)
  d_check_bits : Df K mg "check_bits" "check_bits" (top 29)
  d_check_table_shades : Df K mg "check_table_shades" "check_table" (top 32)
  d_width_of_length : Df K mg "width_of_length" "width_of_length" (top 34)
  d_stepped : Df K mg "stepped" "stepped" (top 35)
  d_all_steps : Df K mg "all_steps" "all_steps" (top 36)
  d_scores : Df K mg "scores" "scores" (top 37)
  d_shades : Df K mg "shades" "shades" (top 38)
  d_check_table_pairs : Df K mg "check_table_pairs" "check_table" (top 40)
  d_broken_bit : Df K mg "broken_bit" "broken_bit" (top 42)
  d_broken_bits : Df K mg "broken_bits" "broken_bits" (top 43)
  d_breaking_row : Df K mg "breaking_row" "breaking_row" (top 44)
  d_breaking_count : Df K mg "breaking_count" "breaking_count" (top 45)
  d_breaking_share : Df K mg "breaking_share" "breaking_share" (top 46)
  d_counted_votes : Df K mg "counted_votes" "counted_votes" (top 48)
  d_all_votes : Df K mg "all_votes" "all_votes" (top 49)
  d_mended_bit : Df K mg "mended_bit" "mended_bit" (top 50)
  d_mend_log : Df K mg "mend_log" "mend_log" (top 51)
  d_mended : Df K mg "mended" "mended" (top 52)
  d_distances : Df K mg "distances" "distances" (top 54)
  d_nearest : Df K mg "nearest" "nearest" (top 55)
  d_sum_distance : Df K mg "sum_distance" "sum_distance" (top 56)
  d_unique_nearest : Df K mg "unique_nearest" "unique_nearest" (top 57)
  d_lmixed : Df K mg "_law_mixed" "_law_mixed" (top 59)
  d_lwide : Df K mg "_law_wide" "_law_wide" (top 60)
  d_lstore : Df K mg "_law_store" "_law_store" (top 61)
  d_ltake : Df K mg "_law_take" "_law_take" (top 62)
  d_lnear : Df K mg "_law_near" "_law_near" (top 63)
  d_lsame : Df K mg "_law_same" "_law_same" (top 64)
  d_lspoil : Df K mg "_law_spoil" "_law_spoil" (top 65)
  d_lis_table : Df K mg "_law_is_table" "_law_is_table" (top 66)
  d_lsize : Df K mg "_law_size" "_law_size" (top 67)
  d_lparity : Df K mg "_law_parity" "_law_parity" (top 68)
  d_lshuffled : Df K mg "_law_shuffled" "_law_shuffled" (top 69)
  d_llowest : Df K mg "_law_lowest" "_law_lowest" (top 70)
  d_lbits_of : Df K mg "_law_bits_of" "_law_bits_of" (top 71)
  d_lbits_up : Df K mg "_law_bits_up" "_law_bits_up" (top 72)
  d_lbits : Df K mg "_law_bits" "_law_bits" (top 73)
  d_lbits_near : Df K mg "_law_bits_near" "_law_bits_near" (top 74)
  d_lfault_of : Df K mg "_law_fault_of" "_law_fault_of" (top 75)
  d_lcalled : Df K mg "_law_called" "_law_called" (top 76)
  d_lask : Df K mg "_law_ask" "_law_ask" (top 77)
  d_llines : Df K mg "_law_lines" "_law_lines" (top 78)
  d_lvoted : Df K mg "_law_voted" "_law_voted" (top 79)
  d_ldues : Df K mg "_law_dues" "_law_dues" (top 80)
  d_lcubes : Df K mg "_law_cubes" "_law_cubes" (top 81)
  d_lholds : Df K mg "_law_holds" "_law_holds" (top 82)
  d_lone : Df K mg "_law_one" "_law_one" (top 83)
  d_law : Df K mg "law" "law" (top 84)
end Bs
/-! What the head reads of the written part, and that it is all that the walk leans on. -/
namespace Bs
open PySem PySem.Spec PyProof.Rows L2
/-- a def: where, its name, its qualified name, its text, what it closes over -/
structure FD where
  at_ : PySem.W.Frag → Addr
  nm : Str
  ql : Str
  st : Stmt
  cl : List Str
abbrev FnX : Type := Option (Str × Str × Arguments × FuncBody × Scope × Addr × List Str × Addr)
def fnO (K : PySem.W.Frag) (a : Addr) : FnX := match K.lookup a with
  | some ⟨_, _, .func fd, _⟩ => some (fd.name, fd.qualname, fd.params, fd.body, fd.scope, fd.globals, fd.closure.map (·.1), fd.builtins)
  | _ => none
def FD.val (d : FD) : FnX := some (d.nm, d.ql, defArgs d.st, .stmts (defBody d.st), defScope d.st, mainGlobals, d.cl, builtinsNs)
def noV (v : Value) : Bool := match v with
  | .none => true
  | _ => false
def fnB (K : PySem.W.Frag) (d : FD) : Bool := PySem.W.keepIn K (.ref (d.at_ K)) && match K.lookup (d.at_ K) with
  | some ⟨_, _, .func fd, _⟩ => PySem.W.codeIn K fd.code d.ql && noV fd.defaults
  | _ => false
/-- a property and its getter -/
def propB (K : PySem.W.Frag) (C : Addr) (f : Str) : Bool := decide (PySem.W.findIn K (.ref C) f = some (some (.ref (He.ma K C f)))) && (decide (PySem.W.specialIn K (.ref (He.ma K C f)) "__get__" = some (some (.builtin "property.__get__"))) && (decide (PySem.W.takesIn K (.ref (He.ma K C f)) = some true) &&
  match PySem.W.recIn K (He.ma K C f) "property" with
  | some (.ref g :: _) => decide (g = pg K C f)
  | _ => false))
/-- an exception class whose own __init__ is walked -/
def oexB (K : PySem.W.Frag) (C : Addr) : Bool := match K.lookup C with
  | some ⟨.type t, _, .cls cd, sl⟩ => decide (t = "type") && (match cd.mro, sl.toList with
    | .ref C' :: bm, [_, _, _, _, some (.builtin n), _] => decide (C' = C) && (decide (n = "ValueError.__new__") && (!cd.hasDel && (cd.hasDict && PySem.HandSPX.refsVE bm)))
    | _, _ => false)
  | _ => false
/-- WrongKind.__init__: the cell of __class__, the code object's file -/
def wkB (K : PySem.W.Frag) : Bool := match K.lookup (T_wkinit K) with
  | some ⟨_, _, .func fd, _⟩ => (match fd.closure, fd.code with
    | [(_, cc)], .ref cda => (match K.lookup cc with
      | some ⟨_, _, .cell (some (.ref D)), _⟩ => decide (D = WK K)
      | _ => false) && (match K.lookup cda with
      | some ⟨_, _, .fields vs, _⟩ => (match (vs[2]? : Option Value) with
        | some (.str f _) => decide (f = fileP)
        | _ => false)
      | _ => false)
    | _, _ => false)
  | _ => false
section
variable {K : PySem.W.Frag}
theorem noV_ok {v : Value} (h : noV v = true) : v = .none := by
  cases v with
  | none => rfl
  | _ => cases h
theorem fun_of {d : FD} (hc : d.cl = []) (e : fnO K (d.at_ K) = d.val ∧ fnB K d = true) : Fun K d.nm d.ql d.st (d.at_ K) (fdOf K (d.at_ K)) := by
  obtain ⟨e1, e2⟩ := e
  obtain ⟨kp, c⟩ := He.ba e2
  unfold fnO at e1
  unfold fdOf
  cases q : K.lookup (d.at_ K) with
  | none =>
    rw [q] at c
    cases c
  | some o =>
    obtain ⟨oc, od, dt, osl⟩ := o
    rw [q] at c e1
    cases dt with
    | func fd =>
      obtain ⟨n1, n2, n3, n4, n5, n6, n7, n8, n9, n10, n11, n12, n13, n14, n15⟩ := fd
      have e3 : (some (n1, n2, n3, n4, n5, n6, n7.map (·.1), n15) : FnX) = some (d.nm, d.ql, defArgs d.st, .stmts (defBody d.st), defScope d.st, mainGlobals, d.cl, builtinsNs) := e1
      simp only [Option.some.injEq, Prod.mk.injEq] at e3
      obtain ⟨h1, h2, h3, h4, h5, h6, h7, h8⟩ := e3
      rw [hc] at h7
      have h7' := List.map_eq_nil_iff.mp h7
      obtain ⟨k1, k2⟩ := He.ba (show (PySem.W.codeIn K n13 d.ql && noV n8) = true from c)
      have h9 := noV_ok k2
      subst h1 h2 h3 h4 h5 h6 h7' h8 h9
      exact ⟨⟨oc, od, n9, n10, n11, n12, n13, n14, osl, rfl, q, k1⟩, kp⟩
    | _ => cases c
theorem prop_of {C : Addr} {f : Str} (h : propB K C f = true) : PropOf K C f (He.ma K C f) (pg K C f) := by
  obtain ⟨h1, h⟩ := He.ba h
  obtain ⟨h2, h⟩ := He.ba h
  obtain ⟨h3, h4⟩ := He.ba h
  refine ⟨of_decide_eq_true h1, of_decide_eq_true h2, of_decide_eq_true h3, ?_⟩
  cases q : PySem.W.recIn K (He.ma K C f) "property" with
  | none =>
    rw [q] at h4
    cases h4
  | some l =>
    rw [q] at h4
    cases l with
    | nil => cases h4
    | cons v r =>
      cases v with
      | ref g => exact ⟨r, by rw [of_decide_eq_true h4]⟩
      | _ => cases h4
theorem oex_of {C : Addr} (h : oexB K C = true) (sa : PySem.W.findIn K (.ref C) "__setattr__" = some (some (.builtin "object.__setattr__"))) (exC : PySem.W.subIn K (.ref C) (.type "BaseException") = some true) (tyC : PySem.W.typeIn K (.ref C) = some (.type "type"))
    (kC : PySem.W.keepIn K (.ref C) = true) : OexC K C := by
  refine ⟨?_, sa, exC, tyC, kC⟩
  unfold oexB at h
  split at h
  · rename_i t dd cd sl ho
    obtain ⟨ht, h⟩ := He.ba h
    have ht := of_decide_eq_true ht
    split at h
    · rename_i C' bm k0 k1 k2 k3 n k5 hm hs
      obtain ⟨q1, h⟩ := He.ba h
      obtain ⟨q2, h⟩ := He.ba h
      obtain ⟨q3, h⟩ := He.ba h
      obtain ⟨q4, q5⟩ := He.ba h
      have q1 := of_decide_eq_true q1
      have q2 := of_decide_eq_true q2
      obtain ⟨nm, bs, mro, ns, qn, hd, sn, sb, ab, col, del⟩ := cd
      dsimp only at hm q3 q4
      have q3 : del = false := by simpa using q3
      have hsl : sl = #[k0, k1, k2, k3, some (.builtin n), k5] := by
        obtain ⟨l⟩ := sl
        simp only at hs
        rw [hs]
      subst ht hm q1 q2 q3 q4 hsl
      exact ⟨nm, qn, ns, bs, bm, sn, sb, ab, col, dd, k0, k1, k2, k3, k5, ho, q5⟩
    · cases h
  · cases h
theorem wkfn_of {d : FD} (e : fnO K (d.at_ K) = d.val ∧ fnB K d = true) (h : wkB K = true) (h0 : d.at_ K = T_wkinit K := by rfl) (h1 : d.nm = "__init__" := by rfl) (h2 : d.ql = "WrongKind.__init__" := by rfl) (h3 : d.st = s_wkinit := by rfl) (h4 : d.cl = [("__class__" : Str)] := by rfl) :
    ∃ (cc cda : Addr) (oc oc2 oc3 : Value) (od od2 od3 an : Option Addr) (kV doc pm ct : Value) (osl osl2 osl3 : Array (Option Value)) (vs : Array Value) (tf : Tok),
    fdOf K (T_wkinit K) = PySem.W.fnX "__init__" "WrongKind.__init__" (defArgs s_wkinit) (defBody s_wkinit) (defScope s_wkinit) [("__class__", cc)] .none kV doc pm an (.ref cda) ct ∧
    K.lookup (T_wkinit K) = some ⟨oc, od, .func (fdOf K (T_wkinit K)), osl⟩ ∧ PySem.W.codeIn K (.ref cda) "WrongKind.__init__" = true ∧
    K.lookup cc = some ⟨oc2, od2, .cell (some (.ref (WK K))), osl2⟩ ∧ K.lookup cda = some ⟨oc3, od3, .fields vs, osl3⟩ ∧ vs[2]? = some (.str fileP tf) := by
  obtain ⟨at_, nm, ql, st, cl⟩ := d
  dsimp only at h0 h1 h2 h3 h4
  subst h1 h2 h3 h4
  obtain ⟨e1, e2⟩ := e
  obtain ⟨kp, c⟩ := He.ba e2
  dsimp only at e1 e2 kp c
  rw [h0] at e1 c
  unfold fnO at e1
  unfold wkB at h
  unfold fdOf
  cases q : K.lookup (T_wkinit K) with
  | none =>
    rw [q] at h
    cases h
  | some o =>
    obtain ⟨oc, od, dt, osl⟩ := o
    rw [q] at h e1 c
    cases dt with
    | func fd =>
      obtain ⟨n1, n2, n3, n4, n5, n6, n7, n8, n9, n10, n11, n12, n13, n14, n15⟩ := fd
      have e3 : (some (n1, n2, n3, n4, n5, n6, n7.map (·.1), n15) : FnX) = (some (("__init__" : Str), ("WrongKind.__init__" : Str), defArgs s_wkinit, FuncBody.stmts (defBody s_wkinit), defScope s_wkinit, mainGlobals, [("__class__" : Str)], builtinsNs) : FnX) := e1
      simp only [Option.some.injEq, Prod.mk.injEq] at e3
      obtain ⟨g1, g2, g3, g4, g5, g6, g7, g8⟩ := e3
      obtain ⟨k1, k2⟩ := He.ba (show (PySem.W.codeIn K n13 "WrongKind.__init__" && noV n8) = true from c)
      have g9 := noV_ok k2
      dsimp only at h
      split at h
      · rename_i xv x cc cda
        obtain ⟨ha, hb⟩ := He.ba h
        split at ha
        · rename_i oc2 od2 D osl2 hcc
          split at hb
          · rename_i oc3 od3 vs osl3 hcda
            split at hb
            · rename_i f tf hvs
              have ef := of_decide_eq_true hb
              have eD := of_decide_eq_true ha
              have gx : x = "__class__" := by simpa using g7
              subst g1 g2 g3 g4 g5 g6 g8 g9 gx eD ef
              exact ⟨cc, cda, oc, oc2, oc3, od, od2, od3, n12, n9, n10, n11, n14, osl, osl2, osl3, vs, tf, rfl, rfl, k1, hcc, hcda, hvs⟩
            · cases hb
          · cases hb
        · cases ha
      · cases h
    | _ => cases h
end
def fxs0 : List (PySem.W.Frag → Bool) := [fun K => (He.Fa.glo "ShadeError").ok K,
  fun K => (He.Fa.glo "WrongKind").ok K,
  fun K => (He.Fa.glo "WrongSize").ok K,
  fun K => (He.Fa.glo "OutOfRange").ok K,
  fun K => (He.Fa.glo "BadText").ok K,
  fun K => (He.Fa.glo "NotATable").ok K,
  fun K => (He.Fa.glo "Spent").ok K,
  fun K => (He.Fa.glo "TooFewPlaces").ok K,
  fun K => (He.Fa.glo "WrongPaper").ok K,
  fun K => (He.Fa.glo "UnknownName").ok K]
def fxs1 : List (PySem.W.Frag → Bool) := [fun K => (He.Fa.glo "NameTaken").ok K,
  fun K => (He.Fa.glo "NothingToUndo").ok K,
  fun K => (He.Fa.glo "BookFull").ok K,
  fun K => (He.Fa.glo "Table").ok K,
  fun K => (He.Fa.glo "check_integer_ratios").ok K,
  fun K => (He.Fa.glo "common_divisor").ok K,
  fun K => (He.Fa.glo "lowest").ok K,
  fun K => (He.Fa.glo "ratio").ok K,
  fun K => (He.Fa.glo "check_integer_tables").ok K,
  fun K => (He.Fa.glo "check_between").ok K]
def fxs2 : List (PySem.W.Frag → Bool) := [fun K => (He.Fa.glo "check_width").ok K,
  fun K => (He.Fa.glo "check_word").ok K,
  fun K => (He.Fa.glo "check_row").ok K,
  fun K => (He.Fa.glo "check_bits").ok K,
  fun K => (He.Fa.glo "check_table_shades").ok K,
  fun K => (He.Fa.glo "width_of_length").ok K,
  fun K => (He.Fa.glo "stepped").ok K,
  fun K => (He.Fa.glo "all_steps").ok K,
  fun K => (He.Fa.glo "scores").ok K,
  fun K => (He.Fa.glo "shades").ok K]
def fxs3 : List (PySem.W.Frag → Bool) := [fun K => (He.Fa.glo "check_table_pairs").ok K,
  fun K => (He.Fa.glo "broken_bit").ok K,
  fun K => (He.Fa.glo "broken_bits").ok K,
  fun K => (He.Fa.glo "breaking_row").ok K,
  fun K => (He.Fa.glo "breaking_count").ok K,
  fun K => (He.Fa.glo "breaking_share").ok K,
  fun K => (He.Fa.glo "counted_votes").ok K,
  fun K => (He.Fa.glo "all_votes").ok K,
  fun K => (He.Fa.glo "mended_bit").ok K,
  fun K => (He.Fa.glo "mend_log").ok K]
def fxs4 : List (PySem.W.Frag → Bool) := [fun K => (He.Fa.glo "mended").ok K,
  fun K => (He.Fa.glo "distances").ok K,
  fun K => (He.Fa.glo "nearest").ok K,
  fun K => (He.Fa.glo "sum_distance").ok K,
  fun K => (He.Fa.glo "unique_nearest").ok K,
  fun K => (He.Fa.glo "_law_mixed").ok K,
  fun K => (He.Fa.glo "_law_wide").ok K,
  fun K => (He.Fa.glo "_law_store").ok K,
  fun K => (He.Fa.glo "_law_take").ok K,
  fun K => (He.Fa.glo "_law_near").ok K]
def fxs5 : List (PySem.W.Frag → Bool) := [fun K => (He.Fa.glo "_law_same").ok K,
  fun K => (He.Fa.glo "_law_spoil").ok K,
  fun K => (He.Fa.glo "_law_is_table").ok K,
  fun K => (He.Fa.glo "_law_size").ok K,
  fun K => (He.Fa.glo "_law_parity").ok K,
  fun K => (He.Fa.glo "_law_shuffled").ok K,
  fun K => (He.Fa.glo "_law_lowest").ok K,
  fun K => (He.Fa.glo "_law_bits_of").ok K,
  fun K => (He.Fa.glo "_law_bits_up").ok K,
  fun K => (He.Fa.glo "_law_bits").ok K]
def fxs6 : List (PySem.W.Frag → Bool) := [fun K => (He.Fa.glo "_law_bits_near").ok K,
  fun K => (He.Fa.glo "_law_fault_of").ok K,
  fun K => (He.Fa.glo "_law_called").ok K,
  fun K => (He.Fa.glo "_law_ask").ok K,
  fun K => (He.Fa.glo "_law_lines").ok K,
  fun K => (He.Fa.glo "_law_voted").ok K,
  fun K => (He.Fa.glo "_law_dues").ok K,
  fun K => (He.Fa.glo "_law_cubes").ok K,
  fun K => (He.Fa.glo "_law_holds").ok K,
  fun K => (He.Fa.glo "_law_one").ok K]
def fxs7 : List (PySem.W.Frag → Bool) := [fun K => (He.Fa.glo "law").ok K,
  fun K => (He.Fa.free "len").ok K,
  fun K => (He.Fa.free "range").ok K,
  fun K => (He.Fa.free "sum").ok K,
  fun K => (He.Fa.free "min").ok K,
  fun K => (He.Fa.free "max").ok K,
  fun K => (He.Fa.free "abs").ok K,
  fun K => (He.Fa.free "int").ok K,
  fun K => (He.Fa.free "list").ok K,
  fun K => (He.Fa.free "tuple").ok K]
def fxs8 : List (PySem.W.Frag → Bool) := [fun K => (He.Fa.free "isinstance").ok K,
  fun K => (He.Fa.free "bool").ok K,
  fun K => (He.Fa.free "str").ok K,
  fun K => (He.Fa.free "super").ok K,
  fun K => (He.Fa.free "ValueError").ok K,
  fun K => (He.Fa.free "enumerate").ok K,
  fun K => (He.Fa.free "sorted").ok K,
  fun K => (He.Fa.free "zip").ok K,
  fun K => (He.Fa.int "MOST_WIDTH" 6).ok K,
  fun K => (He.Fa.cls "Table").ok K]
def fxs9 : List (PySem.W.Frag → Bool) := [fun K => (He.Fa.mkr "Table").ok K,
  fun K => (He.Fa.noat "Table" "wide").ok K,
  fun K => (He.Fa.noat "Table" "held").ok K,
  fun K => (He.Fa.meth "Table" "signs").ok K,
  fun K => propB K (TC K) "width",
  fun K => propB K (TC K) "bits",
  fun K => decide (PySem.W.findIn K (.ref (TC K)) "__class__" = some (some (.builtin "object.__class__"))),
  fun K => decide (PySem.W.specialIn K (.builtin "object.__class__") "__get__" = some (some (.builtin "getset_descriptor.__get__"))),
  fun K => decide (PySem.W.takesIn K (.builtin "object.__class__") = some true),
  fun K => decide (PySem.W.mroIn K (TC K) (.type "object") = some true)]
def fxs10 : List (PySem.W.Frag → Bool) := [fun K => decide (PySem.W.kitOne K (.ref (TC K)) (.ref (TC K)) = some true),
  fun K => decide (PySem.W.kitOne K (.type "NoneType") (.ref (TC K)) = some false),
  fun K => decide (PySem.W.kitOne K (.type "int") (.ref (TC K)) = some false),
  fun K => decide (PySem.W.kitOne K (.type "bool") (.ref (TC K)) = some false),
  fun K => decide (PySem.W.kitOne K (.type "str") (.ref (TC K)) = some false),
  fun K => decide (PySem.W.kitOne K (.type "list") (.ref (TC K)) = some false),
  fun K => decide (PySem.W.kitOne K (.type "tuple") (.ref (TC K)) = some false),
  fun K => oexB K (WK K),
  fun K => decide (PySem.W.findIn K (.ref (WK K)) "__setattr__" = some (some (.builtin "object.__setattr__"))),
  fun K => decide (PySem.W.subIn K (.ref (WK K)) (.type "BaseException") = some true)]
def fxs11 : List (PySem.W.Frag → Bool) := [fun K => decide (PySem.W.typeIn K (.ref (WK K)) = some (.type "type")),
  fun K => PySem.W.keepIn K (.ref (WK K)),
  fun K => decide (PySem.W.findIn K (.ref (WK K)) "__init__" = some (some (.ref (T_wkinit K)))),
  fun K => decide (PySem.W.typeIn K (.ref (T_wkinit K)) = some (.type "function")),
  fun K => decide (PySem.W.findIn K (.ref (WK K)) "argument" = some none),
  fun K => wkB K,
  fun K => decide (PySem.W.mroIn K (WK K) (.ref (WK K)) = some true),
  fun K => decide (PySem.W.nsIn K cStatics "thirdparty.any" = some none),
  fun K => decide (PySem.W.ks_superIn K (WK K) (WK K) "__init__" = some (some (.builtin "ValueError.__init__"))),
  fun K => decide (PySem.W.subIn K (.ref (WK K)) (.type "ValueError") = some true)]
def fxs12 : List (PySem.W.Frag → Bool) := [fun K => (PySem.W.clsIn K (WK K)).isSome,
  fun K => decide (PySem.W.findIn K (.ref (WK K)) "__getattribute__" = some (some (.builtin "BaseException.__getattribute__"))),
  fun K => decide (PySem.W.findIn K (.ref (WK K)) "__getattr__" = some none),
  fun K => PySem.W.hasDictIn K (WK K),
  fun K => decide (PySem.W.findIn K (.ref (WK K)) "__class__" = some (some (.builtin "object.__class__"))),
  fun K => decide (PySem.W.mroIn K (WK K) (.type "object") = some true),
  fun K => decide (PySem.W.exmOne K (.ref (WK K)) (.ref (He.ga K "ShadeError")) = some true),
  fun K => decide (PySem.W.kitOne K (.ref (WK K)) (.type "ValueError") = some true),
  fun K => decide (PySem.W.kitOne K (.ref (WK K)) (.ref (He.ga K "WrongKind")) = some true),
  fun K => decide (PySem.W.kitOne K (.ref (WK K)) (.ref (He.ga K "WrongSize")) = some false)]
def fxs13 : List (PySem.W.Frag → Bool) := [fun K => decide (PySem.W.kitOne K (.ref (WK K)) (.ref (He.ga K "OutOfRange")) = some false),
  fun K => decide (PySem.W.kitOne K (.ref (WK K)) (.ref (He.ga K "BadText")) = some false),
  fun K => decide (PySem.W.kitOne K (.ref (WK K)) (.ref (He.ga K "NotATable")) = some false),
  fun K => decide (PySem.W.kitOne K (.ref (WK K)) (.ref (He.ga K "Spent")) = some false),
  fun K => decide (PySem.W.kitOne K (.ref (WK K)) (.ref (He.ga K "TooFewPlaces")) = some false),
  fun K => decide (PySem.W.kitOne K (.ref (WK K)) (.ref (He.ga K "WrongPaper")) = some false),
  fun K => decide (PySem.W.kitOne K (.ref (WK K)) (.ref (He.ga K "UnknownName")) = some false),
  fun K => decide (PySem.W.kitOne K (.ref (WK K)) (.ref (He.ga K "NameTaken")) = some false),
  fun K => decide (PySem.W.kitOne K (.ref (WK K)) (.ref (He.ga K "NothingToUndo")) = some false),
  fun K => decide (PySem.W.kitOne K (.ref (WK K)) (.ref (He.ga K "BookFull")) = some false)]
def fxs : List (PySem.W.Frag → Bool) := fxs0 ++ (fxs1 ++ (fxs2 ++ (fxs3 ++ (fxs4 ++ (fxs5 ++ (fxs6 ++ (fxs7 ++ (fxs8 ++ (fxs9 ++ (fxs10 ++ (fxs11 ++ (fxs12 ++ (fxs13)))))))))))))
def fns0 : List FD := [⟨fun K => T_check_integer_ratios K, "check_integer", "check_integer", top 16, []⟩,
  ⟨fun K => T_common_divisor K, "common_divisor", "common_divisor", top 18, []⟩,
  ⟨fun K => T_lowest K, "lowest", "lowest", top 19, []⟩,
  ⟨fun K => T_ratio K, "ratio", "ratio", top 20, []⟩,
  ⟨fun K => T_check_integer_tables K, "check_integer", "check_integer", top 23, []⟩,
  ⟨fun K => T_check_between K, "check_between", "check_between", top 25, []⟩,
  ⟨fun K => T_check_width K, "check_width", "check_width", top 26, []⟩,
  ⟨fun K => T_check_word K, "check_word", "check_word", top 27, []⟩,
  ⟨fun K => T_check_row K, "check_row", "check_row", top 28, []⟩,
  ⟨fun K => T_check_bits K, "check_bits", "check_bits", top 29, []⟩]
def fns1 : List FD := [⟨fun K => T_check_table_shades K, "check_table", "check_table", top 32, []⟩,
  ⟨fun K => T_width_of_length K, "width_of_length", "width_of_length", top 34, []⟩,
  ⟨fun K => T_stepped K, "stepped", "stepped", top 35, []⟩,
  ⟨fun K => T_all_steps K, "all_steps", "all_steps", top 36, []⟩,
  ⟨fun K => T_scores K, "scores", "scores", top 37, []⟩,
  ⟨fun K => T_shades K, "shades", "shades", top 38, []⟩,
  ⟨fun K => T_check_table_pairs K, "check_table", "check_table", top 40, []⟩,
  ⟨fun K => T_broken_bit K, "broken_bit", "broken_bit", top 42, []⟩,
  ⟨fun K => T_broken_bits K, "broken_bits", "broken_bits", top 43, []⟩,
  ⟨fun K => T_breaking_row K, "breaking_row", "breaking_row", top 44, []⟩]
def fns2 : List FD := [⟨fun K => T_breaking_count K, "breaking_count", "breaking_count", top 45, []⟩,
  ⟨fun K => T_breaking_share K, "breaking_share", "breaking_share", top 46, []⟩,
  ⟨fun K => T_counted_votes K, "counted_votes", "counted_votes", top 48, []⟩,
  ⟨fun K => T_all_votes K, "all_votes", "all_votes", top 49, []⟩,
  ⟨fun K => T_mended_bit K, "mended_bit", "mended_bit", top 50, []⟩,
  ⟨fun K => T_mend_log K, "mend_log", "mend_log", top 51, []⟩,
  ⟨fun K => T_mended K, "mended", "mended", top 52, []⟩,
  ⟨fun K => T_distances K, "distances", "distances", top 54, []⟩,
  ⟨fun K => T_nearest K, "nearest", "nearest", top 55, []⟩,
  ⟨fun K => T_sum_distance K, "sum_distance", "sum_distance", top 56, []⟩]
def fns3 : List FD := [⟨fun K => T_unique_nearest K, "unique_nearest", "unique_nearest", top 57, []⟩,
  ⟨fun K => T_lmixed K, "_law_mixed", "_law_mixed", top 59, []⟩,
  ⟨fun K => T_lwide K, "_law_wide", "_law_wide", top 60, []⟩,
  ⟨fun K => T_lstore K, "_law_store", "_law_store", top 61, []⟩,
  ⟨fun K => T_ltake K, "_law_take", "_law_take", top 62, []⟩,
  ⟨fun K => T_lnear K, "_law_near", "_law_near", top 63, []⟩,
  ⟨fun K => T_lsame K, "_law_same", "_law_same", top 64, []⟩,
  ⟨fun K => T_lspoil K, "_law_spoil", "_law_spoil", top 65, []⟩,
  ⟨fun K => T_lis_table K, "_law_is_table", "_law_is_table", top 66, []⟩,
  ⟨fun K => T_lsize K, "_law_size", "_law_size", top 67, []⟩]
def fns4 : List FD := [⟨fun K => T_lparity K, "_law_parity", "_law_parity", top 68, []⟩,
  ⟨fun K => T_lshuffled K, "_law_shuffled", "_law_shuffled", top 69, []⟩,
  ⟨fun K => T_llowest K, "_law_lowest", "_law_lowest", top 70, []⟩,
  ⟨fun K => T_lbits_of K, "_law_bits_of", "_law_bits_of", top 71, []⟩,
  ⟨fun K => T_lbits_up K, "_law_bits_up", "_law_bits_up", top 72, []⟩,
  ⟨fun K => T_lbits K, "_law_bits", "_law_bits", top 73, []⟩,
  ⟨fun K => T_lbits_near K, "_law_bits_near", "_law_bits_near", top 74, []⟩,
  ⟨fun K => T_lfault_of K, "_law_fault_of", "_law_fault_of", top 75, []⟩,
  ⟨fun K => T_lcalled K, "_law_called", "_law_called", top 76, []⟩,
  ⟨fun K => T_lask K, "_law_ask", "_law_ask", top 77, []⟩]
def fns5 : List FD := [⟨fun K => T_llines K, "_law_lines", "_law_lines", top 78, []⟩,
  ⟨fun K => T_lvoted K, "_law_voted", "_law_voted", top 79, []⟩,
  ⟨fun K => T_ldues K, "_law_dues", "_law_dues", top 80, []⟩,
  ⟨fun K => T_lcubes K, "_law_cubes", "_law_cubes", top 81, []⟩,
  ⟨fun K => T_lholds K, "_law_holds", "_law_holds", top 82, []⟩,
  ⟨fun K => T_lone K, "_law_one", "_law_one", top 83, []⟩,
  ⟨fun K => T_law K, "law", "law", top 84, []⟩,
  ⟨fun K => T_tinit K, "__init__", "Table.__init__", inClass (top 30) 0, []⟩,
  ⟨fun K => T_twidth K, "width", "Table.width", inClass (top 30) 3, []⟩,
  ⟨fun K => T_tbits K, "bits", "Table.bits", inClass (top 30) 4, []⟩]
def fns6 : List FD := [⟨fun K => T_tsigns K, "signs", "Table.signs", inClass (top 30) 8, []⟩,
  ⟨fun K => T_wkinit K, "__init__", "WrongKind.__init__", inClass (top 3) 0, ["__class__"]⟩]
def fns : List FD := fns0 ++ (fns1 ++ (fns2 ++ (fns3 ++ (fns4 ++ (fns5 ++ (fns6))))))
/-- all that the head reads -/
def obsB (K : PySem.W.Frag) : Bool × List FnX := ((fxs.all fun f => f K) && fns.all fun d => fnB K d, fns.map fun d => fnO K (d.at_ K))
def valB : Bool × List FnX := (true, fns.map FD.val)
section
variable {K : PySem.W.Frag} {h : Heap} {mg : Str → Option Value}
theorem fact (c : obsB K = valB) (i : Nat) {f : PySem.W.Frag → Bool} (hf : fxs[i]? = some f := by rfl) : f K = true := by
  have c1 : ((fxs.all fun f => f K) && fns.all fun d => fnB K d) = true := congrArg (fun z : Bool × List FnX => z.1) c
  exact List.all_eq_true.mp (He.ba c1).1 f (List.mem_of_getElem? hf)
theorem fnat (c : obsB K = valB) (i : Nat) {d : FD} (hd : fns[i]? = some d := by rfl) : fnO K (d.at_ K) = d.val ∧ fnB K d = true := by
  have c1 : ((fxs.all fun f => f K) && fns.all fun d => fnB K d) = true := congrArg (fun z : Bool × List FnX => z.1) c
  have c2 : (fns.map fun d => fnO K (d.at_ K)) = fns.map FD.val := congrArg (fun z : Bool × List FnX => z.2) c
  have c3 : (fns.map fun d => fnO K (d.at_ K))[i]? = (fns.map FD.val)[i]? := by rw [c2]
  rw [List.getElem?_map, List.getElem?_map, hd] at c3
  exact ⟨Option.some.inj c3, List.all_eq_true.mp (He.ba c1).2 d (List.mem_of_getElem? hd)⟩
theorem tab_of (c : obsB K = valB) : TabF K where
  cls := He.cls_ok (fact c 89 (f := fun K => (He.Fa.cls "Table").ok K))
  mkr := He.mkr_ok (fact c 90 (f := fun K => (He.Fa.mkr "Table").ok K))
  nw := He.noat_ok (fact c 91 (f := fun K => (He.Fa.noat "Table" "wide").ok K))
  nh := He.noat_ok (fact c 92 (f := fun K => (He.Fa.noat "Table" "held").ok K))
  m_signs := He.meth_ok (fact c 93 (f := fun K => (He.Fa.meth "Table" "signs").ok K))
  p_width := prop_of (fact c 94 (f := fun K => propB K (TC K) "width"))
  p_bits := prop_of (fact c 95 (f := fun K => propB K (TC K) "bits"))
  ha := (of_decide_eq_true (fact c 96 (f := fun K => decide (PySem.W.findIn K (.ref (TC K)) "__class__" = some (some (.builtin "object.__class__"))))))
  hn := (of_decide_eq_true (fact c 97 (f := fun K => decide (PySem.W.specialIn K (.builtin "object.__class__") "__get__" = some (some (.builtin "getset_descriptor.__get__"))))))
  ht := (of_decide_eq_true (fact c 98 (f := fun K => decide (PySem.W.takesIn K (.builtin "object.__class__") = some true))))
  hm := (of_decide_eq_true (fact c 99 (f := fun K => decide (PySem.W.mroIn K (TC K) (.type "object") = some true))))
  k_self := (of_decide_eq_true (fact c 100 (f := fun K => decide (PySem.W.kitOne K (.ref (TC K)) (.ref (TC K)) = some true))))
  k_none := (of_decide_eq_true (fact c 101 (f := fun K => decide (PySem.W.kitOne K (.type "NoneType") (.ref (TC K)) = some false))))
  k_int := (of_decide_eq_true (fact c 102 (f := fun K => decide (PySem.W.kitOne K (.type "int") (.ref (TC K)) = some false))))
  k_bool := (of_decide_eq_true (fact c 103 (f := fun K => decide (PySem.W.kitOne K (.type "bool") (.ref (TC K)) = some false))))
  k_str := (of_decide_eq_true (fact c 104 (f := fun K => decide (PySem.W.kitOne K (.type "str") (.ref (TC K)) = some false))))
  k_list := (of_decide_eq_true (fact c 105 (f := fun K => decide (PySem.W.kitOne K (.type "list") (.ref (TC K)) = some false))))
  k_tuple := (of_decide_eq_true (fact c 106 (f := fun K => decide (PySem.W.kitOne K (.type "tuple") (.ref (TC K)) = some false))))
  F_init := (fun_of (d := ⟨fun K => T_tinit K, "__init__", "Table.__init__", inClass (top 30) 0, []⟩) rfl (fnat c 57))
  F_signs := (fun_of (d := ⟨fun K => T_tsigns K, "signs", "Table.signs", inClass (top 30) 8, []⟩) rfl (fnat c 60))
  F_width := (fun_of (d := ⟨fun K => T_twidth K, "width", "Table.width", inClass (top 30) 3, []⟩) rfl (fnat c 58))
  F_bits := (fun_of (d := ⟨fun K => T_tbits K, "bits", "Table.bits", inClass (top 30) 4, []⟩) rfl (fnat c 59))
theorem wk_of (c : obsB K = valB) : WkF K where
  oex := oex_of (fact c 107 (f := fun K => oexB K (WK K))) (of_decide_eq_true (fact c 108 (f := fun K => decide (PySem.W.findIn K (.ref (WK K)) "__setattr__" = some (some (.builtin "object.__setattr__")))))) (of_decide_eq_true (fact c 109 (f := fun K => decide (PySem.W.subIn K (.ref (WK K)) (.type "BaseException") = some true)))) (of_decide_eq_true (fact c 110 (f := fun K => decide (PySem.W.typeIn K (.ref (WK K)) = some (.type "type"))))) (fact c 111 (f := fun K => PySem.W.keepIn K (.ref (WK K))))
  fi := (of_decide_eq_true (fact c 112 (f := fun K => decide (PySem.W.findIn K (.ref (WK K)) "__init__" = some (some (.ref (T_wkinit K)))))))
  ft := (of_decide_eq_true (fact c 113 (f := fun K => decide (PySem.W.typeIn K (.ref (T_wkinit K)) = some (.type "function")))))
  na := (of_decide_eq_true (fact c 114 (f := fun K => decide (PySem.W.findIn K (.ref (WK K)) "argument" = some none))))
  fn := wkfn_of (fnat c 61 (d := ⟨fun K => T_wkinit K, "__init__", "WrongKind.__init__", inClass (top 3) 0, ["__class__"]⟩)) (fact c 115 (f := fun K => wkB K))
  sub := (of_decide_eq_true (fact c 116 (f := fun K => decide (PySem.W.mroIn K (WK K) (.ref (WK K)) = some true))))
  third := (of_decide_eq_true (fact c 117 (f := fun K => decide (PySem.W.nsIn K cStatics "thirdparty.any" = some none))))
  sup := (of_decide_eq_true (fact c 118 (f := fun K => decide (PySem.W.ks_superIn K (WK K) (WK K) "__init__" = some (some (.builtin "ValueError.__init__"))))))
  subB := (of_decide_eq_true (fact c 119 (f := fun K => decide (PySem.W.subIn K (.ref (WK K)) (.type "ValueError") = some true))))
theorem wx_of (c : obsB K = valB) : WkX K where
  ex := ⟨(fact c 120 (f := fun K => (PySem.W.clsIn K (WK K)).isSome)), (of_decide_eq_true (fact c 121 (f := fun K => decide (PySem.W.findIn K (.ref (WK K)) "__getattribute__" = some (some (.builtin "BaseException.__getattribute__")))))), (of_decide_eq_true (fact c 122 (f := fun K => decide (PySem.W.findIn K (.ref (WK K)) "__getattr__" = some none)))), (of_decide_eq_true (fact c 109 (f := fun K => decide (PySem.W.subIn K (.ref (WK K)) (.type "BaseException") = some true)))), (fact c 123 (f := fun K => PySem.W.hasDictIn K (WK K))), (of_decide_eq_true (fact c 124 (f := fun K => decide (PySem.W.findIn K (.ref (WK K)) "__class__" = some (some (.builtin "object.__class__")))))), (of_decide_eq_true (fact c 97 (f := fun K => decide (PySem.W.specialIn K (.builtin "object.__class__") "__get__" = some (some (.builtin "getset_descriptor.__get__")))))), (of_decide_eq_true (fact c 98 (f := fun K => decide (PySem.W.takesIn K (.builtin "object.__class__") = some true)))), (of_decide_eq_true (fact c 125 (f := fun K => decide (PySem.W.mroIn K (WK K) (.type "object") = some true))))⟩
  exm := (of_decide_eq_true (fact c 126 (f := fun K => decide (PySem.W.exmOne K (.ref (WK K)) (.ref (He.ga K "ShadeError")) = some true))))
  k_ValueError := (of_decide_eq_true (fact c 127 (f := fun K => decide (PySem.W.kitOne K (.ref (WK K)) (.type "ValueError") = some true))))
  k_WrongKind := (of_decide_eq_true (fact c 128 (f := fun K => decide (PySem.W.kitOne K (.ref (WK K)) (.ref (He.ga K "WrongKind")) = some true))))
  k_WrongSize := (of_decide_eq_true (fact c 129 (f := fun K => decide (PySem.W.kitOne K (.ref (WK K)) (.ref (He.ga K "WrongSize")) = some false))))
  k_OutOfRange := (of_decide_eq_true (fact c 130 (f := fun K => decide (PySem.W.kitOne K (.ref (WK K)) (.ref (He.ga K "OutOfRange")) = some false))))
  k_BadText := (of_decide_eq_true (fact c 131 (f := fun K => decide (PySem.W.kitOne K (.ref (WK K)) (.ref (He.ga K "BadText")) = some false))))
  k_NotATable := (of_decide_eq_true (fact c 132 (f := fun K => decide (PySem.W.kitOne K (.ref (WK K)) (.ref (He.ga K "NotATable")) = some false))))
  k_Spent := (of_decide_eq_true (fact c 133 (f := fun K => decide (PySem.W.kitOne K (.ref (WK K)) (.ref (He.ga K "Spent")) = some false))))
  k_TooFewPlaces := (of_decide_eq_true (fact c 134 (f := fun K => decide (PySem.W.kitOne K (.ref (WK K)) (.ref (He.ga K "TooFewPlaces")) = some false))))
  k_WrongPaper := (of_decide_eq_true (fact c 135 (f := fun K => decide (PySem.W.kitOne K (.ref (WK K)) (.ref (He.ga K "WrongPaper")) = some false))))
  k_UnknownName := (of_decide_eq_true (fact c 136 (f := fun K => decide (PySem.W.kitOne K (.ref (WK K)) (.ref (He.ga K "UnknownName")) = some false))))
  k_NameTaken := (of_decide_eq_true (fact c 137 (f := fun K => decide (PySem.W.kitOne K (.ref (WK K)) (.ref (He.ga K "NameTaken")) = some false))))
  k_NothingToUndo := (of_decide_eq_true (fact c 138 (f := fun K => decide (PySem.W.kitOne K (.ref (WK K)) (.ref (He.ga K "NothingToUndo")) = some false))))
  k_BookFull := (of_decide_eq_true (fact c 139 (f := fun K => decide (PySem.W.kitOne K (.ref (WK K)) (.ref (He.ga K "BookFull")) = some false))))
theorem fx_of (X : K.In h) (G : h.Ns mainGlobals mg) (c : obsB K = valB) : Fx K mg where
  tab := tab_of c
  wk := wk_of c
  wx := wx_of c
  mw := He.int_ok X G (fact c 88 (f := fun K => (He.Fa.int "MOST_WIDTH" 6).ok K))
  g_ShadeError := He.glo_ok X G (fact c 0 (f := fun K => (He.Fa.glo "ShadeError").ok K))
  g_WrongKind := He.glo_ok X G (fact c 1 (f := fun K => (He.Fa.glo "WrongKind").ok K))
  g_WrongSize := He.glo_ok X G (fact c 2 (f := fun K => (He.Fa.glo "WrongSize").ok K))
  g_OutOfRange := He.glo_ok X G (fact c 3 (f := fun K => (He.Fa.glo "OutOfRange").ok K))
  g_BadText := He.glo_ok X G (fact c 4 (f := fun K => (He.Fa.glo "BadText").ok K))
  g_NotATable := He.glo_ok X G (fact c 5 (f := fun K => (He.Fa.glo "NotATable").ok K))
  g_Spent := He.glo_ok X G (fact c 6 (f := fun K => (He.Fa.glo "Spent").ok K))
  g_TooFewPlaces := He.glo_ok X G (fact c 7 (f := fun K => (He.Fa.glo "TooFewPlaces").ok K))
  g_WrongPaper := He.glo_ok X G (fact c 8 (f := fun K => (He.Fa.glo "WrongPaper").ok K))
  g_UnknownName := He.glo_ok X G (fact c 9 (f := fun K => (He.Fa.glo "UnknownName").ok K))
  g_NameTaken := He.glo_ok X G (fact c 10 (f := fun K => (He.Fa.glo "NameTaken").ok K))
  g_NothingToUndo := He.glo_ok X G (fact c 11 (f := fun K => (He.Fa.glo "NothingToUndo").ok K))
  g_BookFull := He.glo_ok X G (fact c 12 (f := fun K => (He.Fa.glo "BookFull").ok K))
  g_Table := He.glo_ok X G (fact c 13 (f := fun K => (He.Fa.glo "Table").ok K))
  z_len := He.free_ok X G (fact c 71 (f := fun K => (He.Fa.free "len").ok K))
  z_range := He.free_ok X G (fact c 72 (f := fun K => (He.Fa.free "range").ok K))
  z_sum := He.free_ok X G (fact c 73 (f := fun K => (He.Fa.free "sum").ok K))
  z_min := He.free_ok X G (fact c 74 (f := fun K => (He.Fa.free "min").ok K))
  z_max := He.free_ok X G (fact c 75 (f := fun K => (He.Fa.free "max").ok K))
  z_abs := He.free_ok X G (fact c 76 (f := fun K => (He.Fa.free "abs").ok K))
  z_int := He.free_ok X G (fact c 77 (f := fun K => (He.Fa.free "int").ok K))
  z_list := He.free_ok X G (fact c 78 (f := fun K => (He.Fa.free "list").ok K))
  z_tuple := He.free_ok X G (fact c 79 (f := fun K => (He.Fa.free "tuple").ok K))
  z_isinstance := He.free_ok X G (fact c 80 (f := fun K => (He.Fa.free "isinstance").ok K))
  z_bool := He.free_ok X G (fact c 81 (f := fun K => (He.Fa.free "bool").ok K))
  z_str := He.free_ok X G (fact c 82 (f := fun K => (He.Fa.free "str").ok K))
  z_super := He.free_ok X G (fact c 83 (f := fun K => (He.Fa.free "super").ok K))
  z_ValueError := He.free_ok X G (fact c 84 (f := fun K => (He.Fa.free "ValueError").ok K))
  z_enumerate := He.free_ok X G (fact c 85 (f := fun K => (He.Fa.free "enumerate").ok K))
  z_sorted := He.free_ok X G (fact c 86 (f := fun K => (He.Fa.free "sorted").ok K))
  z_zip := He.free_ok X G (fact c 87 (f := fun K => (He.Fa.free "zip").ok K))
  d_check_integer_ratios := ⟨He.glo_ok X G (fact c 14 (f := fun K => (He.Fa.glo "check_integer_ratios").ok K)), (fun_of (d := ⟨fun K => T_check_integer_ratios K, "check_integer", "check_integer", top 16, []⟩) rfl (fnat c 0))⟩
  d_common_divisor := ⟨He.glo_ok X G (fact c 15 (f := fun K => (He.Fa.glo "common_divisor").ok K)), (fun_of (d := ⟨fun K => T_common_divisor K, "common_divisor", "common_divisor", top 18, []⟩) rfl (fnat c 1))⟩
  d_lowest := ⟨He.glo_ok X G (fact c 16 (f := fun K => (He.Fa.glo "lowest").ok K)), (fun_of (d := ⟨fun K => T_lowest K, "lowest", "lowest", top 19, []⟩) rfl (fnat c 2))⟩
  d_ratio := ⟨He.glo_ok X G (fact c 17 (f := fun K => (He.Fa.glo "ratio").ok K)), (fun_of (d := ⟨fun K => T_ratio K, "ratio", "ratio", top 20, []⟩) rfl (fnat c 3))⟩
  d_check_integer_tables := ⟨He.glo_ok X G (fact c 18 (f := fun K => (He.Fa.glo "check_integer_tables").ok K)), (fun_of (d := ⟨fun K => T_check_integer_tables K, "check_integer", "check_integer", top 23, []⟩) rfl (fnat c 4))⟩
  d_check_between := ⟨He.glo_ok X G (fact c 19 (f := fun K => (He.Fa.glo "check_between").ok K)), (fun_of (d := ⟨fun K => T_check_between K, "check_between", "check_between", top 25, []⟩) rfl (fnat c 5))⟩
  d_check_width := ⟨He.glo_ok X G (fact c 20 (f := fun K => (He.Fa.glo "check_width").ok K)), (fun_of (d := ⟨fun K => T_check_width K, "check_width", "check_width", top 26, []⟩) rfl (fnat c 6))⟩
  d_check_word := ⟨He.glo_ok X G (fact c 21 (f := fun K => (He.Fa.glo "check_word").ok K)), (fun_of (d := ⟨fun K => T_check_word K, "check_word", "check_word", top 27, []⟩) rfl (fnat c 7))⟩
  d_check_row := ⟨He.glo_ok X G (fact c 22 (f := fun K => (He.Fa.glo "check_row").ok K)), (fun_of (d := ⟨fun K => T_check_row K, "check_row", "check_row", top 28, []⟩) rfl (fnat c 8))⟩
  d_check_bits := ⟨He.glo_ok X G (fact c 23 (f := fun K => (He.Fa.glo "check_bits").ok K)), (fun_of (d := ⟨fun K => T_check_bits K, "check_bits", "check_bits", top 29, []⟩) rfl (fnat c 9))⟩
  d_check_table_shades := ⟨He.glo_ok X G (fact c 24 (f := fun K => (He.Fa.glo "check_table_shades").ok K)), (fun_of (d := ⟨fun K => T_check_table_shades K, "check_table", "check_table", top 32, []⟩) rfl (fnat c 10))⟩
  d_width_of_length := ⟨He.glo_ok X G (fact c 25 (f := fun K => (He.Fa.glo "width_of_length").ok K)), (fun_of (d := ⟨fun K => T_width_of_length K, "width_of_length", "width_of_length", top 34, []⟩) rfl (fnat c 11))⟩
  d_stepped := ⟨He.glo_ok X G (fact c 26 (f := fun K => (He.Fa.glo "stepped").ok K)), (fun_of (d := ⟨fun K => T_stepped K, "stepped", "stepped", top 35, []⟩) rfl (fnat c 12))⟩
  d_all_steps := ⟨He.glo_ok X G (fact c 27 (f := fun K => (He.Fa.glo "all_steps").ok K)), (fun_of (d := ⟨fun K => T_all_steps K, "all_steps", "all_steps", top 36, []⟩) rfl (fnat c 13))⟩
  d_scores := ⟨He.glo_ok X G (fact c 28 (f := fun K => (He.Fa.glo "scores").ok K)), (fun_of (d := ⟨fun K => T_scores K, "scores", "scores", top 37, []⟩) rfl (fnat c 14))⟩
  d_shades := ⟨He.glo_ok X G (fact c 29 (f := fun K => (He.Fa.glo "shades").ok K)), (fun_of (d := ⟨fun K => T_shades K, "shades", "shades", top 38, []⟩) rfl (fnat c 15))⟩
  d_check_table_pairs := ⟨He.glo_ok X G (fact c 30 (f := fun K => (He.Fa.glo "check_table_pairs").ok K)), (fun_of (d := ⟨fun K => T_check_table_pairs K, "check_table", "check_table", top 40, []⟩) rfl (fnat c 16))⟩
  d_broken_bit := ⟨He.glo_ok X G (fact c 31 (f := fun K => (He.Fa.glo "broken_bit").ok K)), (fun_of (d := ⟨fun K => T_broken_bit K, "broken_bit", "broken_bit", top 42, []⟩) rfl (fnat c 17))⟩
  d_broken_bits := ⟨He.glo_ok X G (fact c 32 (f := fun K => (He.Fa.glo "broken_bits").ok K)), (fun_of (d := ⟨fun K => T_broken_bits K, "broken_bits", "broken_bits", top 43, []⟩) rfl (fnat c 18))⟩
  d_breaking_row := ⟨He.glo_ok X G (fact c 33 (f := fun K => (He.Fa.glo "breaking_row").ok K)), (fun_of (d := ⟨fun K => T_breaking_row K, "breaking_row", "breaking_row", top 44, []⟩) rfl (fnat c 19))⟩
  d_breaking_count := ⟨He.glo_ok X G (fact c 34 (f := fun K => (He.Fa.glo "breaking_count").ok K)), (fun_of (d := ⟨fun K => T_breaking_count K, "breaking_count", "breaking_count", top 45, []⟩) rfl (fnat c 20))⟩
  d_breaking_share := ⟨He.glo_ok X G (fact c 35 (f := fun K => (He.Fa.glo "breaking_share").ok K)), (fun_of (d := ⟨fun K => T_breaking_share K, "breaking_share", "breaking_share", top 46, []⟩) rfl (fnat c 21))⟩
  d_counted_votes := ⟨He.glo_ok X G (fact c 36 (f := fun K => (He.Fa.glo "counted_votes").ok K)), (fun_of (d := ⟨fun K => T_counted_votes K, "counted_votes", "counted_votes", top 48, []⟩) rfl (fnat c 22))⟩
  d_all_votes := ⟨He.glo_ok X G (fact c 37 (f := fun K => (He.Fa.glo "all_votes").ok K)), (fun_of (d := ⟨fun K => T_all_votes K, "all_votes", "all_votes", top 49, []⟩) rfl (fnat c 23))⟩
  d_mended_bit := ⟨He.glo_ok X G (fact c 38 (f := fun K => (He.Fa.glo "mended_bit").ok K)), (fun_of (d := ⟨fun K => T_mended_bit K, "mended_bit", "mended_bit", top 50, []⟩) rfl (fnat c 24))⟩
  d_mend_log := ⟨He.glo_ok X G (fact c 39 (f := fun K => (He.Fa.glo "mend_log").ok K)), (fun_of (d := ⟨fun K => T_mend_log K, "mend_log", "mend_log", top 51, []⟩) rfl (fnat c 25))⟩
  d_mended := ⟨He.glo_ok X G (fact c 40 (f := fun K => (He.Fa.glo "mended").ok K)), (fun_of (d := ⟨fun K => T_mended K, "mended", "mended", top 52, []⟩) rfl (fnat c 26))⟩
  d_distances := ⟨He.glo_ok X G (fact c 41 (f := fun K => (He.Fa.glo "distances").ok K)), (fun_of (d := ⟨fun K => T_distances K, "distances", "distances", top 54, []⟩) rfl (fnat c 27))⟩
  d_nearest := ⟨He.glo_ok X G (fact c 42 (f := fun K => (He.Fa.glo "nearest").ok K)), (fun_of (d := ⟨fun K => T_nearest K, "nearest", "nearest", top 55, []⟩) rfl (fnat c 28))⟩
  d_sum_distance := ⟨He.glo_ok X G (fact c 43 (f := fun K => (He.Fa.glo "sum_distance").ok K)), (fun_of (d := ⟨fun K => T_sum_distance K, "sum_distance", "sum_distance", top 56, []⟩) rfl (fnat c 29))⟩
  d_unique_nearest := ⟨He.glo_ok X G (fact c 44 (f := fun K => (He.Fa.glo "unique_nearest").ok K)), (fun_of (d := ⟨fun K => T_unique_nearest K, "unique_nearest", "unique_nearest", top 57, []⟩) rfl (fnat c 30))⟩
  d_lmixed := ⟨He.glo_ok X G (fact c 45 (f := fun K => (He.Fa.glo "_law_mixed").ok K)), (fun_of (d := ⟨fun K => T_lmixed K, "_law_mixed", "_law_mixed", top 59, []⟩) rfl (fnat c 31))⟩
  d_lwide := ⟨He.glo_ok X G (fact c 46 (f := fun K => (He.Fa.glo "_law_wide").ok K)), (fun_of (d := ⟨fun K => T_lwide K, "_law_wide", "_law_wide", top 60, []⟩) rfl (fnat c 32))⟩
  d_lstore := ⟨He.glo_ok X G (fact c 47 (f := fun K => (He.Fa.glo "_law_store").ok K)), (fun_of (d := ⟨fun K => T_lstore K, "_law_store", "_law_store", top 61, []⟩) rfl (fnat c 33))⟩
  d_ltake := ⟨He.glo_ok X G (fact c 48 (f := fun K => (He.Fa.glo "_law_take").ok K)), (fun_of (d := ⟨fun K => T_ltake K, "_law_take", "_law_take", top 62, []⟩) rfl (fnat c 34))⟩
  d_lnear := ⟨He.glo_ok X G (fact c 49 (f := fun K => (He.Fa.glo "_law_near").ok K)), (fun_of (d := ⟨fun K => T_lnear K, "_law_near", "_law_near", top 63, []⟩) rfl (fnat c 35))⟩
  d_lsame := ⟨He.glo_ok X G (fact c 50 (f := fun K => (He.Fa.glo "_law_same").ok K)), (fun_of (d := ⟨fun K => T_lsame K, "_law_same", "_law_same", top 64, []⟩) rfl (fnat c 36))⟩
  d_lspoil := ⟨He.glo_ok X G (fact c 51 (f := fun K => (He.Fa.glo "_law_spoil").ok K)), (fun_of (d := ⟨fun K => T_lspoil K, "_law_spoil", "_law_spoil", top 65, []⟩) rfl (fnat c 37))⟩
  d_lis_table := ⟨He.glo_ok X G (fact c 52 (f := fun K => (He.Fa.glo "_law_is_table").ok K)), (fun_of (d := ⟨fun K => T_lis_table K, "_law_is_table", "_law_is_table", top 66, []⟩) rfl (fnat c 38))⟩
  d_lsize := ⟨He.glo_ok X G (fact c 53 (f := fun K => (He.Fa.glo "_law_size").ok K)), (fun_of (d := ⟨fun K => T_lsize K, "_law_size", "_law_size", top 67, []⟩) rfl (fnat c 39))⟩
  d_lparity := ⟨He.glo_ok X G (fact c 54 (f := fun K => (He.Fa.glo "_law_parity").ok K)), (fun_of (d := ⟨fun K => T_lparity K, "_law_parity", "_law_parity", top 68, []⟩) rfl (fnat c 40))⟩
  d_lshuffled := ⟨He.glo_ok X G (fact c 55 (f := fun K => (He.Fa.glo "_law_shuffled").ok K)), (fun_of (d := ⟨fun K => T_lshuffled K, "_law_shuffled", "_law_shuffled", top 69, []⟩) rfl (fnat c 41))⟩
  d_llowest := ⟨He.glo_ok X G (fact c 56 (f := fun K => (He.Fa.glo "_law_lowest").ok K)), (fun_of (d := ⟨fun K => T_llowest K, "_law_lowest", "_law_lowest", top 70, []⟩) rfl (fnat c 42))⟩
  d_lbits_of := ⟨He.glo_ok X G (fact c 57 (f := fun K => (He.Fa.glo "_law_bits_of").ok K)), (fun_of (d := ⟨fun K => T_lbits_of K, "_law_bits_of", "_law_bits_of", top 71, []⟩) rfl (fnat c 43))⟩
  d_lbits_up := ⟨He.glo_ok X G (fact c 58 (f := fun K => (He.Fa.glo "_law_bits_up").ok K)), (fun_of (d := ⟨fun K => T_lbits_up K, "_law_bits_up", "_law_bits_up", top 72, []⟩) rfl (fnat c 44))⟩
  d_lbits := ⟨He.glo_ok X G (fact c 59 (f := fun K => (He.Fa.glo "_law_bits").ok K)), (fun_of (d := ⟨fun K => T_lbits K, "_law_bits", "_law_bits", top 73, []⟩) rfl (fnat c 45))⟩
  d_lbits_near := ⟨He.glo_ok X G (fact c 60 (f := fun K => (He.Fa.glo "_law_bits_near").ok K)), (fun_of (d := ⟨fun K => T_lbits_near K, "_law_bits_near", "_law_bits_near", top 74, []⟩) rfl (fnat c 46))⟩
  d_lfault_of := ⟨He.glo_ok X G (fact c 61 (f := fun K => (He.Fa.glo "_law_fault_of").ok K)), (fun_of (d := ⟨fun K => T_lfault_of K, "_law_fault_of", "_law_fault_of", top 75, []⟩) rfl (fnat c 47))⟩
  d_lcalled := ⟨He.glo_ok X G (fact c 62 (f := fun K => (He.Fa.glo "_law_called").ok K)), (fun_of (d := ⟨fun K => T_lcalled K, "_law_called", "_law_called", top 76, []⟩) rfl (fnat c 48))⟩
  d_lask := ⟨He.glo_ok X G (fact c 63 (f := fun K => (He.Fa.glo "_law_ask").ok K)), (fun_of (d := ⟨fun K => T_lask K, "_law_ask", "_law_ask", top 77, []⟩) rfl (fnat c 49))⟩
  d_llines := ⟨He.glo_ok X G (fact c 64 (f := fun K => (He.Fa.glo "_law_lines").ok K)), (fun_of (d := ⟨fun K => T_llines K, "_law_lines", "_law_lines", top 78, []⟩) rfl (fnat c 50))⟩
  d_lvoted := ⟨He.glo_ok X G (fact c 65 (f := fun K => (He.Fa.glo "_law_voted").ok K)), (fun_of (d := ⟨fun K => T_lvoted K, "_law_voted", "_law_voted", top 79, []⟩) rfl (fnat c 51))⟩
  d_ldues := ⟨He.glo_ok X G (fact c 66 (f := fun K => (He.Fa.glo "_law_dues").ok K)), (fun_of (d := ⟨fun K => T_ldues K, "_law_dues", "_law_dues", top 80, []⟩) rfl (fnat c 52))⟩
  d_lcubes := ⟨He.glo_ok X G (fact c 67 (f := fun K => (He.Fa.glo "_law_cubes").ok K)), (fun_of (d := ⟨fun K => T_lcubes K, "_law_cubes", "_law_cubes", top 81, []⟩) rfl (fnat c 53))⟩
  d_lholds := ⟨He.glo_ok X G (fact c 68 (f := fun K => (He.Fa.glo "_law_holds").ok K)), (fun_of (d := ⟨fun K => T_lholds K, "_law_holds", "_law_holds", top 82, []⟩) rfl (fnat c 54))⟩
  d_lone := ⟨He.glo_ok X G (fact c 69 (f := fun K => (He.Fa.glo "_law_one").ok K)), (fun_of (d := ⟨fun K => T_lone K, "_law_one", "_law_one", top 83, []⟩) rfl (fnat c 55))⟩
  d_law := ⟨He.glo_ok X G (fact c 70 (f := fun K => (He.Fa.glo "law").ok K)), (fun_of (d := ⟨fun K => T_law K, "law", "law", top 84, []⟩) rfl (fnat c 56))⟩
end

end Bs
/-! The head: the top's run, what it leaves. -/
namespace BsHd
open PySem PySem.Spec PyProof.Rows L2 PySem.W PySem.Calls Bs
abbrev R : PySem.W.OpenRow := PySem.W.OpenLaw.row PySem.Challenge.rw_bitshades_k99_whole_breaking_and_nearest
def a0 : List Addr := [3, 2, 31, 53, 74, 95, 116, 128, 149, 170, 191, 212, 233, 245, 257, 458, 266, 273, 280, 287, 294, 301, 308, 315, 322, 329, 469, 476, 483, 490, 497, 502, 509, 516, 521, 526, 533, 540, 545, 550]
def a1 : List Addr := [557, 562, 567, 572, 577, 584, 591, 598, 605, 612, 619, 626, 633, 640, 647, 654, 661, 668, 675, 680, 685, 690, 695, 702, 709, 716, 721, 726, 731, 738, 745, 752, 759, 343, 407, 371, 379, 370, 378, 50]
def a2 : List Addr := [30, 52, 73, 94, 115, 127, 148, 169, 190, 211, 232, 244, 256, 457, 265, 272, 279, 286, 293, 300, 307, 314, 321, 328, 468, 475, 482, 489, 496, 501, 508, 515, 520, 525, 532, 539, 544, 549, 556, 561]
def a3 : List Addr := [566, 571, 576, 583, 590, 597, 604, 611, 618, 625, 632, 639, 646, 653, 660, 667, 674, 679, 684, 689, 694, 701, 708, 715, 720, 725, 730, 737, 744, 751, 758, 342, 406, 369, 377, 49, 38]
/-- where the objects stand that the walk leans on: the module's names, the defs, their code objects, the classes' names -/
def adrs : List Addr := a0 ++ (a1 ++ (a2 ++ (a3)))
def grab (g : Addr → Option Obj) : PySem.W.Frag := He.frG g adrs
def hk : PySem.W.Hook where
  α := Bool × List FnX
  obs := fun s => obsB (grab s.heap.get?)
  val := fun _ => valB
  says := fun _ h => ∃ K : PySem.W.Frag, K.In h ∧ obsB K = valB
  of := fun _ _ e => ⟨_, He.frG_in, e⟩
  keeps := fun _ _ _ ⟨K, hK, c⟩ k => ⟨K, PySem.W.Frag.In.keeps hK k, c⟩
def ob (s : PySem.W.SharedT) : Bool × List FnX := obsB (grab (HandSHeadRun.getT s))
theorem ob_eq (s : PySem.W.SharedT) : ob s = hk.obs s.abs := by
  have e : HandSHeadRun.getT s = s.abs.heap.get? := funext (HandSHeadRun.getT_eq s)
  show obsB (grab (HandSHeadRun.getT s)) = obsB (grab s.abs.heap.get?)
  rw [e]
def l0 : List Str := ["_wall", "ShadeError", "WrongKind", "WrongSize", "OutOfRange", "BadText", "NotATable", "Spent", "TooFewPlaces", "WrongPaper", "UnknownName", "NameTaken"]
def l1 : List Str := ["NothingToUndo", "BookFull", "check_integer", "check_integer_ratios", "common_divisor", "lowest", "ratio", "MOST_WIDTH", "check_integer_tables", "check_between", "check_width", "check_word"]
def l2 : List Str := ["check_row", "check_bits", "Table", "check_table", "check_table_shades", "width_of_length", "stepped", "all_steps", "scores", "shades", "check_table_pairs", "broken_bit"]
def l3 : List Str := ["broken_bits", "breaking_row", "breaking_count", "breaking_share", "counted_votes", "all_votes", "mended_bit", "mend_log", "mended", "distances", "nearest", "sum_distance"]
def l4 : List Str := ["unique_nearest", "_law_mixed", "_law_wide", "_law_store", "_law_take", "_law_near", "_law_same", "_law_spoil", "_law_is_table", "_law_size", "_law_parity", "_law_shuffled"]
def l5 : List Str := ["_law_lowest", "_law_bits_of", "_law_bits_up", "_law_bits", "_law_bits_near", "_law_fault_of", "_law_called", "_law_ask", "_law_lines", "_law_voted", "_law_dues", "_law_cubes"]
def l6 : List Str := ["_law_holds", "_law_one"]
def loose : List Str := l0 ++ (l1 ++ (l2 ++ (l3 ++ (l4 ++ (l5 ++ l6)))))
theorem runL (w : World) (os : OsState) : (HandSHeadRun.endF (HandSHeadRun.stepQ (HandSHeadRun.denQ HandSHeadRun.tabQ) R.prog w) 40000 R.prog w os).map (fun s => (HandSHeadRun.looksF R.prog (boot_heap w.params) s.abs, HandSHeadRun.seenQ (PySem.W.view R.prog [84]) loose (importedModules R.prog.main.body) (fun s => xlAt (PySem.W.view R.prog [84]) [] s && recOk R.toRowW.records s) s.abs)) = some (true, openGood (PySem.W.view R.prog [84]) loose) := by kernel_rfl
theorem runO (w : World) (os : OsState) : (HandSHeadRun.endF (HandSHeadRun.stepQ (HandSHeadRun.denQ HandSHeadRun.tabQ) R.prog w) 40000 R.prog w os).map ob = some valB := by kernel_rfl
theorem run (w : World) : HandSHeadRun.RunEq R (PySem.W.view R.prog [84]) hk ob 40000 loose w := by
  intro os
  obtain ⟨s, h1, h2⟩ := Option.map_eq_some_iff.mp (runL w os)
  have h3 := runO w os
  rw [h1] at h3 ⊢
  have h4 : ob s = valB := Option.some.inj h3
  rw [Prod.mk.injEq] at h2
  show some (_, _, ob s) = some (true, _, valB)
  rw [h4, h2.1, h2.2]
end BsHd
/-! Plain mathematics of tables of bits: sums over words, parities, scores. No program here. -/
namespace Bs
/-! ### sums over an initial part of the naturals -/
def Sm (n : Nat) (f : Nat → Int) : Int := ((List.range n).map f).sum
theorem Sm_zero (f : Nat → Int) : Sm 0 f = 0 := rfl
theorem Sm_succ (n : Nat) (f : Nat → Int) : Sm (n + 1) f = Sm n f + f n := by
  unfold Sm
  rw [List.range_succ, List.map_append, List.sum_append]
  simp
theorem Sm_congr {n : Nat} {f g : Nat → Int} (h : ∀ i, i < n → f i = g i) : Sm n f = Sm n g := by
  induction n with
  | zero => rfl
  | succ n ih => rw [Sm_succ, Sm_succ, ih (fun i hi => h i (by omega)), h n (by omega)]
theorem Sm_add (n : Nat) (f g : Nat → Int) : Sm n (fun i => f i + g i) = Sm n f + Sm n g := by
  induction n with
  | zero => rfl
  | succ n ih => rw [Sm_succ, Sm_succ, Sm_succ, ih]; omega
theorem Sm_sub (n : Nat) (f g : Nat → Int) : Sm n (fun i => f i - g i) = Sm n f - Sm n g := by
  induction n with
  | zero => rfl
  | succ n ih => rw [Sm_succ, Sm_succ, Sm_succ, ih]; omega
theorem Sm_mul (n : Nat) (c : Int) (f : Nat → Int) : Sm n (fun i => c * f i) = c * Sm n f := by
  induction n with
  | zero => rw [Sm_zero, Sm_zero, Int.mul_zero]
  | succ n ih => rw [Sm_succ, Sm_succ, ih, Int.mul_add]
theorem Sm_mulr (n : Nat) (c : Int) (f : Nat → Int) : Sm n (fun i => f i * c) = Sm n f * c := by
  rw [Int.mul_comm, ← Sm_mul]
  exact Sm_congr fun i _ => Int.mul_comm _ _
theorem Sm_const (n : Nat) (c : Int) : Sm n (fun _ => c) = n * c := by
  induction n with
  | zero => rw [Sm_zero]; simp
  | succ n ih =>
    rw [Sm_succ, ih]
    have e : ((n + 1 : Nat) : Int) = (n : Int) + 1 := by omega
    rw [e, Int.add_mul, Int.one_mul]
theorem Sm_neg (n : Nat) (f : Nat → Int) : Sm n (fun i => - f i) = - Sm n f := by
  induction n with
  | zero => rfl
  | succ n ih => rw [Sm_succ, Sm_succ, ih]; omega
theorem Sm_le {n : Nat} {f g : Nat → Int} (h : ∀ i, i < n → f i ≤ g i) : Sm n f ≤ Sm n g := by
  induction n with
  | zero => exact Int.le_refl _
  | succ n ih =>
    rw [Sm_succ, Sm_succ]
    have h1 := ih fun i hi => h i (by omega)
    have h2 := h n (by omega)
    omega
theorem Sm_comm (n m : Nat) (f : Nat → Nat → Int) : Sm n (fun i => Sm m (fun j => f i j)) = Sm m (fun j => Sm n (fun i => f i j)) := by
  induction n with
  | zero =>
    rw [Sm_zero]
    have e : Sm m (fun j => Sm 0 (fun i => f i j)) = Sm m (fun _ => 0) := Sm_congr fun _ _ => rfl
    rw [e, Sm_const, Int.mul_zero]
  | succ n ih =>
    rw [Sm_succ, ih, ← Sm_add]
    exact Sm_congr fun j _ => (Sm_succ n _).symm
theorem Sm_split (n m : Nat) (f : Nat → Int) : Sm (n + m) f = Sm n f + Sm m (fun i => f (n + i)) := by
  induction m with
  | zero => rw [Sm_zero, Nat.add_zero, Int.add_zero]
  | succ m ih => rw [← Nat.add_assoc, Sm_succ, ih, Sm_succ, Int.add_assoc]
theorem Sm_two (k : Nat) (f : Nat → Int) : Sm (2 ^ (k + 1)) f = Sm (2 ^ k) f + Sm (2 ^ k) (fun i => f (2 ^ k + i)) := by
  rw [show 2 ^ (k + 1) = 2 ^ k + 2 ^ k by rw [Nat.pow_succ]; omega, Sm_split]
/-! ### words -/
theorem xor_lt {k x y : Nat} (hx : x < 2 ^ k) (hy : y < 2 ^ k) : x ^^^ y < 2 ^ k := Nat.xor_lt_two_pow hx hy
theorem pow_xor {k x : Nat} (hx : x < 2 ^ k) : 2 ^ k + x = 2 ^ k ^^^ x := by
  refine Nat.eq_of_testBit_eq fun i => ?_
  rw [Nat.testBit_xor, Nat.testBit_two_pow]
  rcases Nat.lt_trichotomy i k with h | h | h
  · rw [Nat.testBit_two_pow_add_gt h, decide_eq_false (by omega)]
    simp
  · subst h
    rw [Nat.testBit_two_pow_add_eq, decide_eq_true rfl, Nat.testBit_lt_two_pow hx]
    rfl
  · have h1 : 2 ^ k + x < 2 ^ i := by
      have h2 : 2 ^ (k + 1) ≤ 2 ^ i := Nat.pow_le_pow_right (by omega) h
      rw [Nat.pow_succ] at h2
      omega
    rw [Nat.testBit_lt_two_pow h1, Nat.testBit_lt_two_pow (show x < 2 ^ i by omega), decide_eq_false (by omega)]
    rfl
theorem xor_top {k x y : Nat} (hx : x < 2 ^ k) (hy : y < 2 ^ k) : x ^^^ (2 ^ k + y) = 2 ^ k + (x ^^^ y) := by
  rw [pow_xor hy, pow_xor (xor_lt hx hy), ← Nat.xor_assoc, Nat.xor_comm x, Nat.xor_assoc]
theorem top_xor {k x y : Nat} (hx : x < 2 ^ k) (hy : y < 2 ^ k) : (2 ^ k + x) ^^^ y = 2 ^ k + (x ^^^ y) := by
  rw [pow_xor hx, pow_xor (xor_lt hx hy), Nat.xor_assoc]
theorem top_top {k x y : Nat} (hx : x < 2 ^ k) (hy : y < 2 ^ k) : (2 ^ k + x) ^^^ (2 ^ k + y) = x ^^^ y := by
  rw [xor_comm_top hx hy]
where
  xor_comm_top {k x y : Nat} (hx : x < 2 ^ k) (hy : y < 2 ^ k) : (2 ^ k + x) ^^^ (2 ^ k + y) = x ^^^ y := by
    rw [pow_xor hx, pow_xor hy, Nat.xor_comm (2 ^ k) x, Nat.xor_assoc, ← Nat.xor_assoc (2 ^ k), Nat.xor_self, Nat.zero_xor]
/-- the sum over all words does not see a shift -/
theorem Sm_xor (k : Nat) : ∀ (a : Nat) (f : Nat → Int), a < 2 ^ k → Sm (2 ^ k) (fun y => f (a ^^^ y)) = Sm (2 ^ k) f := by
  induction k with
  | zero =>
    intro a f h
    have e : a = 0 := by simpa using h
    subst e
    exact Sm_congr fun i _ => by rw [Nat.zero_xor]
  | succ k ih =>
    intro a f h
    rw [Sm_two, Sm_two]
    by_cases ha : a < 2 ^ k
    · rw [ih a f ha]
      have e : Sm (2 ^ k) (fun i => f (a ^^^ (2 ^ k + i))) = Sm (2 ^ k) (fun i => (fun j => f (2 ^ k + j)) (a ^^^ i)) := Sm_congr fun i hi => by rw [xor_top ha hi]
      rw [e, ih a (fun j => f (2 ^ k + j)) ha]
    · obtain ⟨c, rfl⟩ : ∃ c, a = 2 ^ k + c := ⟨a - 2 ^ k, by omega⟩
      have hc : c < 2 ^ k := by
        rw [Nat.pow_succ] at h
        omega
      have e1 : Sm (2 ^ k) (fun i => f ((2 ^ k + c) ^^^ i)) = Sm (2 ^ k) (fun i => (fun j => f (2 ^ k + j)) (c ^^^ i)) := Sm_congr fun i hi => by rw [top_xor hc hi]
      have e2 : Sm (2 ^ k) (fun i => f ((2 ^ k + c) ^^^ (2 ^ k + i))) = Sm (2 ^ k) (fun i => f (c ^^^ i)) := Sm_congr fun i hi => by rw [top_top hc hi]
      rw [e1, e2, ih c (fun j => f (2 ^ k + j)) hc, ih c f hc, Int.add_comm]
/-! ### parities -/
def parb : Nat → Nat → Nat → Int
  | 0, _, _ => 0
  | k + 1, S, x => if S.testBit k && x.testBit k then 1 - parb k S x else parb k S x
def chi : Nat → Nat → Nat → Int
  | 0, _, _ => 1
  | k + 1, S, x => if S.testBit k && x.testBit k then - chi k S x else chi k S x
theorem chi_parb : ∀ (k S x : Nat), chi k S x = 1 - 2 * parb k S x
  | 0, _, _ => rfl
  | k + 1, S, x => by
    have ih := chi_parb k S x
    unfold chi parb
    split <;> omega
theorem parb_bit : ∀ (k S x : Nat), parb k S x = 0 ∨ parb k S x = 1
  | 0, _, _ => .inl rfl
  | k + 1, S, x => by
    have ih := parb_bit k S x
    unfold parb
    split <;> omega
theorem chi_one (k S x : Nat) : chi k S x = 1 ∨ chi k S x = -1 := by
  have h := parb_bit k S x
  have e := chi_parb k S x
  omega
theorem chi_sq (k S x : Nat) : chi k S x * chi k S x = 1 := by
  rcases chi_one k S x with h | h <;> rw [h] <;> rfl
theorem chi_comm : ∀ (k S x : Nat), chi k S x = chi k x S
  | 0, _, _ => rfl
  | k + 1, S, x => by
    have ih := chi_comm k S x
    unfold chi
    rw [ih, Bool.and_comm]
theorem chi_congr : ∀ (k : Nat) {S T x y : Nat}, (∀ i, i < k → S.testBit i = T.testBit i) → (∀ i, i < k → x.testBit i = y.testBit i) → chi k S x = chi k T y
  | 0, _, _, _, _, _, _ => rfl
  | k + 1, S, T, x, y, h1, h2 => by
    have ih := chi_congr k (fun i hi => h1 i (by omega)) (fun i hi => h2 i (by omega))
    unfold chi
    rw [ih, h1 k (by omega), h2 k (by omega)]
theorem parb_congr (k : Nat) {S T x y : Nat} (h1 : ∀ i, i < k → S.testBit i = T.testBit i) (h2 : ∀ i, i < k → x.testBit i = y.testBit i) : parb k S x = parb k T y := by
  have e := chi_congr k h1 h2
  have e1 := chi_parb k S x
  have e2 := chi_parb k T y
  omega
theorem top_bits {k x : Nat} : ∀ i, i < k → (2 ^ k + x).testBit i = x.testBit i := fun i hi => Nat.testBit_two_pow_add_gt hi x
theorem chi_topL (k S x : Nat) : chi k (2 ^ k + S) x = chi k S x := chi_congr k top_bits fun _ _ => rfl
theorem chi_topR (k S x : Nat) : chi k S (2 ^ k + x) = chi k S x := chi_congr k (fun _ _ => rfl) top_bits
theorem parb_topL (k S x : Nat) : parb k (2 ^ k + S) x = parb k S x := parb_congr k top_bits fun _ _ => rfl
theorem parb_topR (k S x : Nat) : parb k S (2 ^ k + x) = parb k S x := parb_congr k (fun _ _ => rfl) top_bits
theorem top_bit {k x : Nat} (h : x < 2 ^ k) : (2 ^ k + x).testBit k = true := by
  rw [Nat.testBit_two_pow_add_eq, Nat.testBit_lt_two_pow h]
  rfl
theorem chi_xor : ∀ (k S x y : Nat), chi k S (x ^^^ y) = chi k S x * chi k S y
  | 0, _, _, _ => rfl
  | k + 1, S, x, y => by
    have ih := chi_xor k S x y
    unfold chi
    rw [Nat.testBit_xor, ih]
    cases S.testBit k <;> cases x.testBit k <;> cases y.testBit k <;> simp [Int.neg_mul, Int.mul_neg]
theorem chi_zero : ∀ k S, chi k S 0 = 1
  | 0, _ => rfl
  | k + 1, S => by
    unfold chi
    rw [Nat.zero_testBit, Bool.and_false]
    exact chi_zero k S
/-- sets are orthogonal -/
theorem chi_sum : ∀ (k x : Nat), x < 2 ^ k → Sm (2 ^ k) (fun S => chi k S x) = if x = 0 then 2 ^ k else 0
  | 0, x, h => by
    have e : x = 0 := by simpa using h
    subst e
    rfl
  | k + 1, x, h => by
    rw [Sm_two]
    by_cases hx : x < 2 ^ k
    · have ih := chi_sum k x hx
      have hb : x.testBit k = false := Nat.testBit_lt_two_pow hx
      have e1 : Sm (2 ^ k) (fun S => chi (k + 1) S x) = Sm (2 ^ k) (fun S => chi k S x) := Sm_congr fun S _ => by
        show (if S.testBit k && x.testBit k then _ else _) = _
        rw [hb, Bool.and_false]
        rfl
      have e2 : Sm (2 ^ k) (fun S => chi (k + 1) (2 ^ k + S) x) = Sm (2 ^ k) (fun S => chi k S x) := Sm_congr fun S _ => by
        show (if (2 ^ k + S).testBit k && x.testBit k then _ else _) = _
        rw [hb, Bool.and_false]
        exact chi_topL k S x
      rw [e1, e2, ih]
      by_cases h0 : x = 0
      · rw [if_pos h0, if_pos h0, Int.pow_succ]
        omega
      · rw [if_neg h0, if_neg h0]
        rfl
    · obtain ⟨c, rfl⟩ : ∃ c, x = 2 ^ k + c := ⟨x - 2 ^ k, by omega⟩
      have hc : c < 2 ^ k := by
        rw [Nat.pow_succ] at h
        omega
      have hb : (2 ^ k + c).testBit k = true := top_bit hc
      have e1 : Sm (2 ^ k) (fun S => chi (k + 1) S (2 ^ k + c)) = Sm (2 ^ k) (fun S => chi k S (2 ^ k + c)) := Sm_congr fun S hS => by
        show (if S.testBit k && (2 ^ k + c).testBit k then _ else _) = _
        rw [Nat.testBit_lt_two_pow hS, Bool.false_and]
        rfl
      have e2 : Sm (2 ^ k) (fun S => chi (k + 1) (2 ^ k + S) (2 ^ k + c)) = Sm (2 ^ k) (fun S => - chi k S (2 ^ k + c)) := Sm_congr fun S hS => by
        show (if (2 ^ k + S).testBit k && (2 ^ k + c).testBit k then - chi k (2 ^ k + S) (2 ^ k + c) else _) = _
        rw [top_bit hS, hb, chi_topL]
        rfl
      have hp : 0 < 2 ^ k := Nat.two_pow_pos k
      rw [e1, e2, Sm_neg, if_neg (by omega)]
      omega
/-! ### the transform -/
def hat (k : Nat) (u : Nat → Int) (S : Nat) : Int := Sm (2 ^ k) (fun x => u x * chi k S x)
def conv (k : Nat) (u v : Nat → Int) (w : Nat) : Int := Sm (2 ^ k) (fun x => u x * v (x ^^^ w))
theorem hat_conv (k : Nat) (u v : Nat → Int) (S : Nat) : hat k u S * hat k v S = hat k (conv k u v) S := by
  have e1 : hat k u S * hat k v S = Sm (2 ^ k) (fun x => Sm (2 ^ k) (fun w => (u x * v (x ^^^ w)) * chi k S w)) := by
    rw [show hat k u S = Sm (2 ^ k) (fun x => u x * chi k S x) from rfl, ← Sm_mulr]
    refine Sm_congr fun x hx => ?_
    rw [show hat k v S = Sm (2 ^ k) (fun y => v y * chi k S y) from rfl, ← Sm_xor k x (fun y => v y * chi k S y) hx, ← Sm_mul]
    refine Sm_congr fun w hw => ?_
    show u x * chi k S x * (v (x ^^^ w) * chi k S (x ^^^ w)) = _
    rw [chi_xor]
    have h := chi_sq k S x
    have e : u x * chi k S x * (v (x ^^^ w) * (chi k S x * chi k S w)) = (u x * v (x ^^^ w) * chi k S w) * (chi k S x * chi k S x) := by
      simp only [Int.mul_comm, Int.mul_left_comm, Int.mul_assoc]
    rw [e, h, Int.mul_one]
  rw [e1, Sm_comm]
  unfold hat conv
  exact Sm_congr fun w _ => Sm_mulr _ _ _
theorem hat_sum (k : Nat) (u : Nat → Int) : Sm (2 ^ k) (hat k u) = 2 ^ k * u 0 := by
  have e1 : Sm (2 ^ k) (hat k u) = Sm (2 ^ k) (fun w => u w * Sm (2 ^ k) (fun S => chi k S w)) := by
    unfold hat
    rw [Sm_comm]
    exact Sm_congr fun w _ => Sm_mul _ _ _
  rw [e1]
  have hp : 0 < 2 ^ k := Nat.two_pow_pos k
  have e2 : Sm (2 ^ k) (fun w => u w * Sm (2 ^ k) (fun S => chi k S w)) = Sm (2 ^ k) (fun w => if w = 0 then u 0 * 2 ^ k else 0) := Sm_congr fun w hw => by
    rw [chi_sum k w hw]
    by_cases h0 : w = 0
    · rw [if_pos h0, if_pos h0, h0]
    · rw [if_neg h0, if_neg h0, Int.mul_zero]
  have e3 : ∀ n (c : Int), Sm (n + 1) (fun w => if w = 0 then c else 0) = c := fun n c => by
    induction n with
    | zero => rw [Sm_succ, Sm_zero]; simp
    | succ n ih =>
      rw [Sm_succ, ih, if_neg (by omega)]
      omega
  obtain ⟨m, hm⟩ : ∃ m, 2 ^ k = m + 1 := ⟨2 ^ k - 1, by omega⟩
  rw [e2, hm, e3, Int.mul_comm]
theorem hat_dot (k : Nat) (u v : Nat → Int) : Sm (2 ^ k) (fun S => hat k u S * hat k v S) = 2 ^ k * Sm (2 ^ k) (fun x => u x * v x) := by
  rw [show Sm (2 ^ k) (fun S => hat k u S * hat k v S) = Sm (2 ^ k) (hat k (conv k u v)) from Sm_congr fun S _ => hat_conv k u v S, hat_sum]
  unfold conv
  rw [show Sm (2 ^ k) (fun x => u x * v (x ^^^ 0)) = Sm (2 ^ k) (fun x => u x * v x) from Sm_congr fun x _ => by rw [Nat.xor_zero]]
/-! ### tables -/
def xb (a b : Int) : Int := a + b - 2 * (a * b)
def IsBit (a : Int) : Prop := a = 0 ∨ a = 1
theorem xb_bit {a b : Int} (ha : IsBit a) (hb : IsBit b) : IsBit (xb a b) := by
  rcases ha with rfl | rfl <;> rcases hb with rfl | rfl <;> unfold IsBit xb <;> simp
theorem xb_sign (a b : Int) : 1 - 2 * xb a b = (1 - 2 * a) * (1 - 2 * b) := by
  have e : (1 - 2 * a) * (1 - 2 * b) = 1 - 2 * a - 2 * b + 4 * (a * b) := by
    have e2 : 2 * a * (2 * b) = 4 * (a * b) := by
      rw [Int.mul_assoc, Int.mul_left_comm a 2 b, ← Int.mul_assoc]
      rfl
    simp only [Int.sub_mul, Int.mul_sub, Int.one_mul, Int.mul_one]
    omega
  unfold xb
  omega
def sg (b : Nat → Int) (x : Nat) : Int := 1 - 2 * b x
def score (k : Nat) (b : Nat → Int) (S : Nat) : Int := hat k (sg b) S
/-- with the sum-table of S -/
def count (k : Nat) (b : Nat → Int) (S : Nat) : Int := Sm (2 ^ k) (fun x => xb (parb k S x) (b x))
def broken (k : Nat) (b : Nat → Int) : Int := Sm (2 ^ k) (fun x => Sm (2 ^ k) (fun y => xb (xb (b x) (b y)) (b (x ^^^ y))))
def ones (k : Nat) (b : Nat → Int) (x : Nat) : Int := Sm (2 ^ k) (fun y => xb (b y) (b (x ^^^ y)))
theorem natpow (k : Nat) : ((2 ^ k : Nat) : Int) = (2 : Int) ^ k := by
  induction k with
  | zero => rfl
  | succ k ih => rw [Nat.pow_succ, Int.pow_succ, Int.natCast_mul, ih]; rfl
theorem pow_pos (k : Nat) : (0 : Int) < 2 ^ k := by
  rw [← natpow]
  exact Int.natCast_pos.mpr (Nat.two_pow_pos k)
theorem score_count (k : Nat) (b : Nat → Int) (S : Nat) : score k b S = 2 ^ k - 2 * count k b S := by
  unfold score hat count
  rw [← Sm_mul]
  have e : (2 : Int) ^ k = Sm (2 ^ k) (fun _ => 1) := by rw [Sm_const, Int.mul_one, natpow]
  rw [e, ← Sm_sub]
  refine Sm_congr fun x _ => ?_
  rw [xb_sign, ← chi_parb, Int.mul_comm]
  rfl
theorem sg_sq {b : Nat → Int} (hb : ∀ x, IsBit (b x)) (x : Nat) : sg b x * sg b x = 1 := by
  unfold sg
  rcases hb x with h | h <;> rw [h] <;> rfl
theorem squares (k : Nat) {b : Nat → Int} (hb : ∀ x, IsBit (b x)) : Sm (2 ^ k) (fun S => score k b S * score k b S) = 2 ^ k * 2 ^ k := by
  unfold score
  rw [hat_dot, show Sm (2 ^ k) (fun x => sg b x * sg b x) = Sm (2 ^ k) (fun _ => 1) from Sm_congr fun x _ => sg_sq hb x, Sm_const, Int.mul_one, natpow]
theorem triples (k : Nat) (b : Nat → Int) : Sm (2 ^ k) (fun x => Sm (2 ^ k) (fun w => sg b x * sg b (x ^^^ w) * sg b w)) = 2 ^ k * 2 ^ k - 2 * broken k b := by
  unfold broken
  rw [← Sm_mul]
  have e : (2 : Int) ^ k * 2 ^ k = Sm (2 ^ k) (fun _ => 2 ^ k) := by rw [Sm_const, natpow]
  rw [e, ← Sm_sub]
  refine Sm_congr fun x _ => ?_
  have e2 : (2 : Int) ^ k = Sm (2 ^ k) (fun _ => 1) := by rw [Sm_const, Int.mul_one, natpow]
  rw [← Sm_mul, e2, ← Sm_sub]
  refine Sm_congr fun w _ => ?_
  rw [xb_sign, xb_sign]
  unfold sg
  simp only [Int.mul_comm, Int.mul_left_comm, Int.mul_assoc]
/-- the sum of the cubes of the scores -/
theorem cubes (k : Nat) (b : Nat → Int) : Sm (2 ^ k) (fun S => score k b S * score k b S * score k b S) = 2 ^ k * (2 ^ k * 2 ^ k - 2 * broken k b) := by
  have e : Sm (2 ^ k) (fun S => score k b S * score k b S * score k b S) = Sm (2 ^ k) (fun S => hat k (conv k (sg b) (sg b)) S * hat k (sg b) S) := Sm_congr fun S _ => by
    unfold score
    rw [hat_conv]
  rw [e, hat_dot]
  congr 1
  rw [← triples, Sm_comm]
  unfold conv
  exact Sm_congr fun w _ => (Sm_mulr _ _ _).symm
/-- the breaking share is never less than the distance -/
theorem share_ge (k : Nat) {b : Nat → Int} (hb : ∀ x, IsBit (b x)) {m : Int} (hm : ∀ S, S < 2 ^ k → m ≤ count k b S) : m * 2 ^ k ≤ broken k b := by
  have h1 : Sm (2 ^ k) (fun S => score k b S * score k b S * score k b S) ≤ Sm (2 ^ k) (fun S => (2 ^ k - 2 * m) * (score k b S * score k b S)) := Sm_le fun S hS => by
    rw [Int.mul_comm (2 ^ k - 2 * m)]
    refine Int.mul_le_mul_of_nonneg_left ?_ ?_
    · have h2 := score_count k b S
      have h3 := hm S hS
      omega
    · rcases Int.le_total 0 (score k b S) with h | h
      · exact Int.mul_nonneg h h
      · exact Int.mul_nonneg_of_nonpos_of_nonpos h h
  rw [cubes, Sm_mul, squares k hb] at h1
  have hp := pow_pos k
  have e1 : (2 ^ k - 2 * m) * ((2 : Int) ^ k * 2 ^ k) = 2 ^ k * (2 ^ k * 2 ^ k - 2 * (m * 2 ^ k)) := by
    rw [Int.sub_mul, Int.mul_sub]
    have e2 : 2 * m * ((2 : Int) ^ k * 2 ^ k) = 2 ^ k * (2 * (m * 2 ^ k)) := by
      simp only [Int.mul_comm, Int.mul_left_comm, Int.mul_assoc]
    omega
  rw [e1] at h1
  have h4 := Int.le_of_mul_le_mul_left h1 hp
  omega
/-! ### mending -/
theorem parb_xor (k S x y : Nat) : parb k S (x ^^^ y) = xb (parb k S x) (parb k S y) := by
  have e := chi_xor k S x y
  have e1 := chi_parb k S (x ^^^ y)
  have e2 := chi_parb k S x
  have e3 := chi_parb k S y
  have e4 := xb_sign (parb k S x) (parb k S y)
  rw [e2, e3, ← e4] at e
  omega
theorem votes0 (k : Nat) {b : Nat → Int} (hb : ∀ x, IsBit (b x)) {S x : Nat} (hx : x < 2 ^ k) (h : parb k S x = 0) : ones k b x ≤ 2 * count k b S := by
  have e : 2 * count k b S = Sm (2 ^ k) (fun y => xb (parb k S y) (b y)) + Sm (2 ^ k) (fun y => xb (parb k S (x ^^^ y)) (b (x ^^^ y))) := by
    rw [Sm_xor k x (fun y => xb (parb k S y) (b y)) hx]
    show 2 * count k b S = count k b S + count k b S
    omega
  rw [e, ← Sm_add]
  refine Sm_le fun y _ => ?_
  rw [parb_xor, h]
  have h1 := parb_bit k S y
  rcases h1 with h1 | h1 <;> rcases hb y with h2 | h2 <;> rcases hb (x ^^^ y) with h3 | h3 <;> rw [h1, h2, h3] <;> decide
theorem votes1 (k : Nat) {b : Nat → Int} (hb : ∀ x, IsBit (b x)) {S x : Nat} (hx : x < 2 ^ k) (h : parb k S x = 1) : 2 ^ k - ones k b x ≤ 2 * count k b S := by
  have e : 2 * count k b S = Sm (2 ^ k) (fun y => xb (parb k S y) (b y)) + Sm (2 ^ k) (fun y => xb (parb k S (x ^^^ y)) (b (x ^^^ y))) := by
    rw [Sm_xor k x (fun y => xb (parb k S y) (b y)) hx]
    show 2 * count k b S = count k b S + count k b S
    omega
  have e2 : (2 : Int) ^ k = Sm (2 ^ k) (fun _ => 1) := by rw [Sm_const, Int.mul_one, natpow]
  unfold ones
  rw [e, ← Sm_add, e2, ← Sm_sub]
  refine Sm_le fun y _ => ?_
  rw [parb_xor, h]
  have h1 := parb_bit k S y
  rcases h1 with h1 | h1 <;> rcases hb y with h2 | h2 <;> rcases hb (x ^^^ y) with h3 | h3 <;> rw [h1, h2, h3] <;> decide
/-- the mended bit -/
def mbit (zeros ones bit : Int) : Int := if zeros > ones then 0 else if zeros < ones then 1 else bit
theorem mend_near (k : Nat) {b : Nat → Int} (hb : ∀ x, IsBit (b x)) {S x : Nat} (hx : x < 2 ^ k) (h : 4 * count k b S < 2 ^ k) : mbit (2 ^ k - ones k b x) (ones k b x) (b x) = parb k S x := by
  unfold mbit
  rcases parb_bit k S x with e | e
  · have h1 := votes0 k hb hx e
    rw [if_pos (by omega), e]
  · have h1 := votes1 k hb hx e
    rw [if_neg (by omega), if_pos (by omega), e]
end Bs
/-! The lists that the program makes, in plain Lean: steps, lines, divisors, least counts. -/
namespace Bs
theorem getD_range {α : Type} {n i : Nat} (f : Nat → α) (d : α) (h : i < n) : ((List.range n).map f).getD i d = f i := by
  rw [List.getD_eq_getElem?_getD, List.getElem?_map, List.getElem?_range h]
  rfl
theorem get_range {α : Type} {n i : Nat} (f : Nat → α) (h : i < n) : ((List.range n).map f)[i]? = some (f i) := by
  rw [List.getElem?_map, List.getElem?_range h]
  rfl
theorem list_range {α : Type} (l : List α) (d : α) : l = (List.range l.length).map (fun i => l.getD i d) := by
  refine List.ext_getElem? fun i => ?_
  by_cases h : i < l.length
  · rw [get_range _ h, List.getD_eq_getElem?_getD, List.getElem?_eq_getElem h]
    rfl
  · rw [List.getElem?_eq_none (by omega), List.getElem?_eq_none (by rw [List.length_map, List.length_range]; omega)]
/-! ### steps -/
def stepF (p : Nat) (g : Nat → Int) (x : Nat) : Int := if x.testBit p then g (x ^^^ 2 ^ p) - g x else g x + g (x ^^^ 2 ^ p)
def stepsF : Nat → (Nat → Int) → Nat → Int
  | 0, g => g
  | p + 1, g => stepF p (stepsF p g)
theorem xor_one (q : Nat) : (q ^^^ 1) / 2 = q / 2 ∧ (q ^^^ 1) % 2 = (q + 1) % 2 := by
  refine ⟨?_, ?_⟩
  · rw [Nat.xor_div_two, show 1 / 2 = 0 from rfl, Nat.xor_zero]
  · have h := Nat.xor_mod_two_pow (a := q) (b := 1) (n := 1)
    rw [show 2 ^ 1 = 2 from rfl] at h
    rw [h]
    rcases Nat.mod_two_eq_zero_or_one q with e | e
    · rw [e]
      show 0 ^^^ 1 = _
      rw [Nat.zero_xor]
      omega
    · rw [e]
      show 1 ^^^ 1 = _
      rw [Nat.xor_self]
      omega
theorem flip_div (x p : Nat) : (x ^^^ 2 ^ p) / 2 ^ p = x / 2 ^ p ^^^ 1 := by
  rw [← Nat.shiftRight_eq_div_pow, ← Nat.shiftRight_eq_div_pow, Nat.shiftRight_xor_distrib]
  congr 1
  rw [Nat.shiftRight_eq_div_pow, Nat.div_self (Nat.two_pow_pos p)]
theorem flip_low {x p : Nat} : ∀ i, i < p → (x ^^^ 2 ^ p).testBit i = x.testBit i := fun i hi => by
  rw [Nat.testBit_xor, Nat.testBit_two_pow, decide_eq_false (by omega), Bool.xor_false]
theorem stepsF_eq : ∀ (p : Nat) (g : Nat → Int) (x : Nat), stepsF p g x = Sm (2 ^ p) (fun u => g (2 ^ p * (x / 2 ^ p) + u) * chi p x u)
  | 0, g, x => by
    show g x = Sm 1 _
    rw [Sm_succ, Sm_zero]
    show g x = 0 + g (1 * (x / 1) + 0) * 1
    rw [Nat.div_one, Nat.one_mul, Nat.add_zero]
    omega
  | p + 1, g, x => by
    have ih := stepsF_eq p g
    have hb : x.testBit p = decide (x / 2 ^ p % 2 = 1) := Nat.testBit_eq_decide_div_mod_eq
    have hq : x / 2 ^ (p + 1) = x / 2 ^ p / 2 := by rw [Nat.pow_succ, Nat.div_div_eq_div_mul]
    have hf := flip_div x p
    obtain ⟨f1, f2⟩ := xor_one (x / 2 ^ p)
    have lowc : ∀ u, chi p (x ^^^ 2 ^ p) u = chi p x u := fun u => chi_congr p flip_low fun _ _ => rfl
    have hpow : ∀ a : Nat, 2 ^ (p + 1) * a = 2 ^ p * (2 * a) := fun a => by rw [Nat.pow_succ, Nat.mul_assoc]
    show stepF p (stepsF p g) x = _
    unfold stepF
    rw [Sm_two, hq, hpow, ih, ih]
    by_cases h : x / 2 ^ p % 2 = 1
    · rw [hb, decide_eq_true h, if_pos rfl, hf]
      have e1 : x / 2 ^ p ^^^ 1 = 2 * (x / 2 ^ p / 2) := by omega
      have e2 : x / 2 ^ p = 2 * (x / 2 ^ p / 2) + 1 := by omega
      rw [e1]
      have s1 : Sm (2 ^ p) (fun u => g (2 ^ p * (2 * (x / 2 ^ p / 2)) + u) * chi p (x ^^^ 2 ^ p) u) = Sm (2 ^ p) (fun u => g (2 ^ p * (2 * (x / 2 ^ p / 2)) + u) * chi (p + 1) x u) := Sm_congr fun u hu => by
        rw [lowc]
        show _ = _ * (if x.testBit p && u.testBit p then _ else _)
        rw [Nat.testBit_lt_two_pow hu, Bool.and_false]
        rfl
      have s2 : Sm (2 ^ p) (fun u => g (2 ^ p * (2 * (x / 2 ^ p / 2)) + (2 ^ p + u)) * chi (p + 1) x (2 ^ p + u)) = - Sm (2 ^ p) (fun u => g (2 ^ p * (x / 2 ^ p) + u) * chi p x u) := by
        rw [← Sm_neg]
        refine Sm_congr fun u hu => ?_
        show _ * (if x.testBit p && (2 ^ p + u).testBit p then - chi p x (2 ^ p + u) else _) = _
        rw [hb, decide_eq_true h, top_bit hu, chi_topR]
        show g _ * (- chi p x u) = - (g _ * chi p x u)
        rw [Int.mul_neg]
        have ea : 2 ^ p * (2 * (x / 2 ^ p / 2)) + (2 ^ p + u) = 2 ^ p * (x / 2 ^ p) + u := by
          have e3 : 2 ^ p * (x / 2 ^ p) = 2 ^ p * (2 * (x / 2 ^ p / 2) + 1) := congrArg (fun z => 2 ^ p * z) e2
          rw [e3, Nat.mul_add, Nat.mul_one]
          omega
        rw [ea]
      rw [s1, s2]
      omega
    · rw [hb, decide_eq_false h, if_neg Bool.false_ne_true, hf]
      have e1 : x / 2 ^ p ^^^ 1 = 2 * (x / 2 ^ p / 2) + 1 := by omega
      have e2 : x / 2 ^ p = 2 * (x / 2 ^ p / 2) := by omega
      rw [e1]
      have s1 : Sm (2 ^ p) (fun u => g (2 ^ p * (x / 2 ^ p) + u) * chi p x u) = Sm (2 ^ p) (fun u => g (2 ^ p * (2 * (x / 2 ^ p / 2)) + u) * chi (p + 1) x u) := Sm_congr fun u hu => by
        have e3 : 2 ^ p * (x / 2 ^ p) = 2 ^ p * (2 * (x / 2 ^ p / 2)) := congrArg (fun z => 2 ^ p * z) e2
        rw [e3]
        show _ = _ * (if x.testBit p && u.testBit p then _ else _)
        rw [Nat.testBit_lt_two_pow hu, Bool.and_false]
        rfl
      have s2 : Sm (2 ^ p) (fun u => g (2 ^ p * (2 * (x / 2 ^ p / 2)) + (2 ^ p + u)) * chi (p + 1) x (2 ^ p + u)) = Sm (2 ^ p) (fun u => g (2 ^ p * (2 * (x / 2 ^ p / 2) + 1) + u) * chi p (x ^^^ 2 ^ p) u) := Sm_congr fun u hu => by
        rw [lowc]
        show _ * (if x.testBit p && (2 ^ p + u).testBit p then _ else chi p x (2 ^ p + u)) = _
        rw [hb, decide_eq_false h, Bool.false_and, if_neg Bool.false_ne_true, chi_topR, Nat.mul_add, Nat.mul_one, Nat.add_assoc]
      rw [s1, s2]
def steppedL (row : List Int) (p : Nat) : List Int :=
  (List.range row.length).map fun i => if i &&& 2 ^ p ≠ 0 then row.getD (i ^^^ 2 ^ p) 0 - row.getD i 0 else row.getD i 0 + row.getD (i ||| 2 ^ p) 0
theorem steppedL_len (row : List Int) (p : Nat) : (steppedL row p).length = row.length := by
  unfold steppedL
  rw [List.length_map, List.length_range]
theorem and_pow {i p : Nat} : (i &&& 2 ^ p ≠ 0) ↔ i.testBit p = true := by
  refine ⟨fun h => ?_, fun h z => ?_⟩
  · cases e : i.testBit p with
    | true => rfl
    | false =>
      refine absurd (Nat.eq_of_testBit_eq fun j => ?_) h
      rw [Nat.testBit_and, Nat.testBit_two_pow, Nat.zero_testBit]
      by_cases q : p = j
      · subst q
        rw [e, Bool.false_and]
      · rw [decide_eq_false q, Bool.and_false]
  · have q : (i &&& 2 ^ p).testBit p = true := by
      rw [Nat.testBit_and, Nat.testBit_two_pow, h, decide_eq_true rfl]
      rfl
    rw [z, Nat.zero_testBit] at q
    cases q
theorem or_flip {i p : Nat} (h : i.testBit p = false) : i ||| 2 ^ p = i ^^^ 2 ^ p := by
  refine Nat.eq_of_testBit_eq fun j => ?_
  rw [Nat.testBit_or, Nat.testBit_xor, Nat.testBit_two_pow]
  by_cases e : p = j
  · subst e
    rw [h, decide_eq_true rfl]
    rfl
  · rw [decide_eq_false e]
    simp
theorem steppedL_range (n p : Nat) (g : Nat → Int) (hp : p < n) : steppedL ((List.range (2 ^ n)).map g) p = (List.range (2 ^ n)).map (stepF p g) := by
  unfold steppedL
  rw [List.length_map, List.length_range]
  refine List.map_congr_left fun i hi => ?_
  have hi' : i < 2 ^ n := List.mem_range.mp hi
  have hpn : 2 ^ p < 2 ^ n := Nat.pow_lt_pow_right (by omega) hp
  unfold stepF
  cases h : i.testBit p with
  | true => rw [if_pos (and_pow.mpr h), if_pos rfl, getD_range g 0 (xor_lt hi' hpn), getD_range g 0 hi']
  | false =>
    have h2 : ¬ (i &&& 2 ^ p ≠ 0) := fun z => by
      rw [and_pow.mp z] at h
      cases h
    rw [if_neg h2, if_neg Bool.false_ne_true, or_flip h, getD_range g 0 (xor_lt hi' hpn), getD_range g 0 hi']
def allStepsL (n : Nat) (row : List Int) : List Int := (List.range n).foldl steppedL row
theorem allStepsL_upto (n : Nat) (g : Nat → Int) : ∀ m, m ≤ n → (List.range m).foldl steppedL ((List.range (2 ^ n)).map g) = (List.range (2 ^ n)).map (stepsF m g)
  | 0, _ => rfl
  | m + 1, h => by
    rw [List.range_succ, List.foldl_append, allStepsL_upto n g m (by omega)]
    exact steppedL_range n m _ (by omega)
theorem allStepsL_eq (n : Nat) (g : Nat → Int) : allStepsL n ((List.range (2 ^ n)).map g) = (List.range (2 ^ n)).map (hat n g) := by
  unfold allStepsL
  rw [allStepsL_upto n g n (Nat.le_refl n)]
  refine List.map_congr_left fun x hx => ?_
  have hx' : x < 2 ^ n := List.mem_range.mp hx
  rw [stepsF_eq, Nat.div_eq_of_lt hx', Nat.mul_zero]
  unfold hat
  exact Sm_congr fun u _ => by rw [Nat.zero_add]
/-! ### the lines of the sum-tables -/
def linesL : Nat → List (List Int)
  | 0 => [[0]]
  | k + 1 => (linesL k).map (fun r => r ++ r) ++ (linesL k).map (fun r => r ++ r.map (fun i => 1 - i))
def lineL (k S : Nat) : List Int := (List.range (2 ^ k)).map (parb k S)
theorem range_two (k : Nat) : List.range (2 ^ (k + 1)) = List.range (2 ^ k) ++ (List.range (2 ^ k)).map (fun i => 2 ^ k + i) := by
  rw [show 2 ^ (k + 1) = 2 ^ k + 2 ^ k by rw [Nat.pow_succ]; omega, List.range_add]
theorem linesL_eq : ∀ k, linesL k = (List.range (2 ^ k)).map (lineL k)
  | 0 => rfl
  | k + 1 => by
    show (linesL k).map (fun r => r ++ r) ++ (linesL k).map (fun r => r ++ r.map (fun i => 1 - i)) = _
    rw [linesL_eq k, range_two, List.map_append, List.map_map, List.map_map, List.map_map]
    congr 1
    · refine List.map_congr_left fun S hS => ?_
      have hS' : S < 2 ^ k := List.mem_range.mp hS
      show lineL k S ++ lineL k S = lineL (k + 1) S
      unfold lineL
      rw [range_two, List.map_append, List.map_map]
      congr 1
      · refine List.map_congr_left fun x _ => ?_
        show _ = (if S.testBit k && x.testBit k then _ else _)
        rw [Nat.testBit_lt_two_pow hS', Bool.false_and]
        rfl
      · refine List.map_congr_left fun x _ => ?_
        show _ = (if S.testBit k && (2 ^ k + x).testBit k then _ else parb k S (2 ^ k + x))
        rw [Nat.testBit_lt_two_pow hS', Bool.false_and, parb_topR]
        rfl
    · refine List.map_congr_left fun S hS => ?_
      have hS' : S < 2 ^ k := List.mem_range.mp hS
      show lineL k S ++ (lineL k S).map (fun i => 1 - i) = lineL (k + 1) (2 ^ k + S)
      unfold lineL
      rw [range_two, List.map_append, List.map_map, List.map_map]
      congr 1
      · refine List.map_congr_left fun x hx => ?_
        have hx' : x < 2 ^ k := List.mem_range.mp hx
        show _ = (if (2 ^ k + S).testBit k && x.testBit k then _ else parb k (2 ^ k + S) x)
        rw [Nat.testBit_lt_two_pow hx', Bool.and_false, parb_topL]
        rfl
      · refine List.map_congr_left fun x hx => ?_
        have hx' : x < 2 ^ k := List.mem_range.mp hx
        show _ = (if (2 ^ k + S).testBit k && (2 ^ k + x).testBit k then 1 - parb k (2 ^ k + S) (2 ^ k + x) else _)
        rw [top_bit hS', top_bit hx', parb_topL, parb_topR]
        rfl
theorem linesL_len (k : Nat) : (linesL k).length = 2 ^ k := by
  rw [linesL_eq, List.length_map, List.length_range]
theorem lineL_len (k S : Nat) : (lineL k S).length = 2 ^ k := by
  unfold lineL
  rw [List.length_map, List.length_range]
/-! ### the greatest common divisor, by so many turns -/
def Euc (bl i one two : Nat) : Prop := if i % 2 = 0 then two < 2 ^ (bl - i / 2) else one < 2 ^ (bl - i / 2) ∧ two < one
theorem euc_start {bl one two : Nat} (h : two < 2 ^ bl) : Euc bl 0 one two := h
theorem euc_turn {bl i one two : Nat} (h : Euc bl i one two) (h0 : 0 < two) : Euc bl (i + 1) two (one % two) := by
  have hm := Nat.mod_lt one h0
  unfold Euc at h ⊢
  by_cases e : i % 2 = 0
  · rw [if_pos e] at h
    rw [if_neg (by omega), show (i + 1) / 2 = i / 2 by omega]
    exact ⟨h, hm⟩
  · rw [if_neg e] at h
    obtain ⟨h1, h2⟩ := h
    rw [if_pos (by omega), show (i + 1) / 2 = i / 2 + 1 by omega]
    have h3 : 2 * (one % two) < one := by
      have h4 := Nat.div_add_mod one two
      have h5 : 1 ≤ one / two := (Nat.one_le_div_iff h0).mpr (by omega)
      have h6 : two * 1 ≤ two * (one / two) := Nat.mul_le_mul_left two h5
      omega
    by_cases h4 : bl - i / 2 = 0
    · rw [h4] at h1
      omega
    · have e2 : bl - i / 2 = (bl - (i / 2 + 1)) + 1 := by omega
      rw [e2, Nat.pow_succ] at h1
      omega
theorem euc_end {bl one two : Nat} (h : Euc bl (2 * bl + 3) one two) : False := by
  unfold Euc at h
  rw [if_neg (by omega), show bl - (2 * bl + 3) / 2 = 0 by omega] at h
  omega
/-! ### ratios -/
def lowT (t b : Int) : Int := t / (Int.gcd t b : Int)
def lowB (t b : Int) : Int := b / (Int.gcd t b : Int)
theorem low_spec {t b : Int} (hb : 0 < b) : ∃ g : Int, 0 < g ∧ t = lowT t b * g ∧ b = lowB t b * g ∧ 0 < lowB t b := by
  have hg : 0 < Int.gcd t b := Int.gcd_pos_of_ne_zero_right t (by omega)
  refine ⟨Int.gcd t b, by omega, ?_, ?_, ?_⟩
  · exact (Int.ediv_mul_cancel (Int.gcd_dvd_left t b)).symm
  · exact (Int.ediv_mul_cancel (Int.gcd_dvd_right t b)).symm
  · exact Int.ediv_pos_of_pos_of_dvd hb (by omega) (Int.gcd_dvd_right t b)
/-- a told shade, brought to 2^n again -/
theorem low_scaled {t b : Int} (hb : 0 < b) : lowT t b * (b / lowB t b) = t := by
  obtain ⟨g, hg, h1, h2, h3⟩ := low_spec (t := t) hb
  have e : b / lowB t b = g := by
    have e2 : b / lowB t b = (lowB t b * g) / lowB t b := by rw [← h2]
    rw [e2, Int.mul_ediv_cancel_left _ (by omega)]
  rw [e, ← h1]
/-! ### the least of a list, and where it stands first -/
def lmin : List Int → Int
  | [] => 0
  | [a] => a
  | a :: r => if a ≤ lmin r then a else lmin r
theorem lmin_spec : ∀ (l : List Int), l ≠ [] → lmin l ∈ l ∧ ∀ y ∈ l, lmin l ≤ y
  | [], h => absurd rfl h
  | [a], _ => ⟨List.mem_singleton.mpr rfl, fun y hy => by rw [List.mem_singleton.mp hy]; exact Int.le_refl _⟩
  | a :: b :: r, _ => by
    obtain ⟨h1, h2⟩ := lmin_spec (b :: r) (List.cons_ne_nil _ _)
    show (if a ≤ lmin (b :: r) then a else lmin (b :: r)) ∈ _ ∧ ∀ y ∈ _, (if a ≤ lmin (b :: r) then a else lmin (b :: r)) ≤ y
    split
    · rename_i h
      refine ⟨List.mem_cons_self, fun y hy => ?_⟩
      rcases List.mem_cons.mp hy with e | e
      · omega
      · have := h2 y e
        omega
    · refine ⟨List.mem_cons_of_mem _ h1, fun y hy => ?_⟩
      rcases List.mem_cons.mp hy with e | e
      · omega
      · exact h2 y e
theorem lmin_of {l : List Int} {m : Int} (h1 : m ∈ l) (h2 : ∀ y ∈ l, m ≤ y) : m = lmin l := by
  have hn : l ≠ [] := fun e => by
    rw [e] at h1
    cases h1
  obtain ⟨h3, h4⟩ := lmin_spec l hn
  have a := h2 _ h3
  have b := h4 _ h1
  omega
def fix (l : List Int) (m : Int) : Nat := l.findIdx fun y => decide (y = m)
theorem fix_lt {l : List Int} {m : Int} (h : m ∈ l) : fix l m < l.length := List.findIdx_lt_length_of_exists ⟨m, h, decide_eq_true rfl⟩
theorem fix_get {l : List Int} {m : Int} (h : m ∈ l) : l[fix l m]? = some m := by
  have hl := fix_lt h
  rw [List.getElem?_eq_getElem hl]
  have e := List.findIdx_getElem (p := fun y => decide (y = m)) (xs := l) (w := hl)
  exact congrArg some (of_decide_eq_true e)
theorem fix_before {l : List Int} {m : Int} {j : Nat} {z : Int} (hj : j < fix l m) (hz : l[j]? = some z) : z ≠ m := by
  obtain ⟨hl, e⟩ := List.getElem?_eq_some_iff.mp hz
  have e2 := List.not_of_lt_findIdx (p := fun y => decide (y = m)) (xs := l) (i := j) hj
  rw [← e]
  exact of_decide_eq_false (by simpa using e2)
theorem first_of {l : List Int} {m : Int} (h : m ∈ l) : ((List.range l.length).filter fun i => decide (l.getD i 0 = m))[0]? = some (fix l m) := by
  rw [← List.head?_eq_getElem?, List.head?_filter, List.find?_range_eq_some]
  have gd : ∀ {j : Nat} {z : Int}, l[j]? = some z → l.getD j 0 = z := fun {j z} e => by
    rw [List.getD_eq_getElem?_getD, e]
    rfl
  refine ⟨?_, ?_, fun j hj => ?_⟩
  · exact decide_eq_true (gd (fix_get h))
  · exact List.mem_range.mpr (fix_lt h)
  · have hl : j < l.length := Nat.lt_trans hj (fix_lt h)
    have e := List.getElem?_eq_getElem hl
    have hne := fix_before hj e
    rw [gd e, decide_eq_false hne]
    rfl
end Bs
/-! Operators upon naturals and bits; what a table is in the heap. -/
namespace Bs
open PySem PySem.Spec PyProof.Rows L2 Evl
section
variable {X : Cx}
def rNN (g : Nat → Nat → Nat) : R2 := fun x y H Q => ∃ n m : Nat, x = .int (n : Int) ∧ y = .int (m : Int) ∧ Q (.int ((g n m : Nat) : Int)) H
theorem op_xorNN : OpR X (binaryOp .BitXor) (rNN fun n m => n ^^^ m) := by
  intro pins s σ H x y v u Q I rx ry h
  obtain ⟨n, m, rfl, rfl, q⟩ := h
  refine op_xor pins s σ H _ _ v u Q I rx ry ⟨_, _, rfl, rfl, ?_⟩
  show Q (.int (Builtin.bitXor (n : Int) (m : Int))) H
  rw [_root_.Bits.bitXor_pp (Int.natCast_nonneg _) (Int.natCast_nonneg _), Int.toNat_natCast, Int.toNat_natCast]
  exact q
theorem op_orNN : OpR X (binaryOp .BitOr) (rNN fun n m => n ||| m) := by
  intro pins s σ H x y v u Q I rx ry h
  obtain ⟨n, m, rfl, rfl, q⟩ := h
  refine op_or pins s σ H _ _ v u Q I rx ry ⟨_, _, rfl, rfl, ?_⟩
  show Q (.int (Builtin.bitOr (n : Int) (m : Int))) H
  rw [_root_.Bits.bitOr_pp (Int.natCast_nonneg _) (Int.natCast_nonneg _), Int.toNat_natCast, Int.toNat_natCast]
  exact q
theorem op_andNN : OpR X (binaryOp .BitAnd) (rNN fun n m => n &&& m) := by
  intro pins s σ H x y v u Q I rx ry h
  obtain ⟨n, m, rfl, rfl, q⟩ := h
  refine op_and pins s σ H _ _ v u Q I rx ry ⟨_, _, rfl, rfl, ?_⟩
  show Q (.int (Builtin.bitAnd (n : Int) (m : Int))) H
  rw [bitAnd_pp (Int.natCast_nonneg _) (Int.natCast_nonneg _), Int.toNat_natCast, Int.toNat_natCast]
  exact q
/-- 1 << k -/
def rShl1 : R2 := fun x y H Q => ∃ k : Nat, x = .int 1 ∧ y = .int (k : Int) ∧ k ≤ 100000 ∧ Q (.int ((2 ^ k : Nat) : Int)) H
theorem op_shl1 : OpR X (binaryOp .LShift) rShl1 := by
  intro pins s σ H x y v u Q I rx ry h
  obtain ⟨k, rfl, rfl, c, q⟩ := h
  refine op_oneShl pins s σ H _ _ v u Q I rx ry ⟨k, rfl, rfl, by omega, ?_⟩
  rw [← natpow]
  exact q
def rShrNN : R2 := rNN fun n k => n / 2 ^ k
theorem op_shrNN : OpR X (binaryOp .RShift) rShrNN := by
  intro pins s σ H x y v u Q I rx ry h
  obtain ⟨n, k, rfl, rfl, q⟩ := h
  refine op_shrN pins s σ H _ _ v u Q I rx ry ⟨_, k, rfl, rfl, ?_⟩
  rw [← natpow, ← Int.natCast_ediv]
  exact q
/-- two bits -/
def rXB : R2 := fun x y H Q => ∃ a b : Int, x = .int a ∧ y = .int b ∧ IsBit a ∧ IsBit b ∧ Q (.int (xb a b)) H
theorem op_xorB : OpR X (binaryOp .BitXor) rXB := by
  intro pins s σ H x y v u Q I rx ry h
  obtain ⟨a, b, rfl, rfl, ha, hb, q⟩ := h
  refine op_xor pins s σ H _ _ v u Q I rx ry ⟨_, _, rfl, rfl, ?_⟩
  have e : Builtin.bitXor a b = xb a b := by
    rcases ha with rfl | rfl <;> rcases hb with rfl | rfl <;> decide +kernel
  show Q (.int (Builtin.bitXor a b)) H
  rw [e]
  exact q
end
/-! ### items -/
theorem atN {bs : List Int} {i : Nat} (h : i < bs.length) : atI (bs.map V.int) (i : Int) = some (.int (bs.getD i 0)) := by
  refine atI_nat ?_
  rw [List.getElem?_map, List.getElem?_eq_getElem h, List.getD_eq_getElem?_getD, List.getElem?_eq_getElem h]
  rfl
theorem bitD {bs : List Int} (h : ∀ b ∈ bs, IsBit b) (i : Nat) : IsBit (bs.getD i 0) := by
  rw [List.getD_eq_getElem?_getD]
  cases e : bs[i]? with
  | none => exact .inl rfl
  | some z => exact h z (List.mem_of_getElem? e)
/-- the bits as a function of the word -/
def bf (bs : List Int) (i : Nat) : Int := bs.getD i 0
/-- bits of a table of width n -/
structure TBits (n : Nat) (bs : List Int) : Prop where
  wide : n ≤ 6
  len : bs.length = 2 ^ n
  bit : ∀ b ∈ bs, IsBit b
theorem TBits.at {n : Nat} {bs : List Int} (h : TBits n bs) (i : Nat) : IsBit (bf bs i) := bitD h.bit i
theorem TBits.small {n : Nat} {bs : List Int} (h : TBits n bs) : 2 ^ n ≤ 64 := Nat.pow_le_pow_right (n := 2) (by decide) h.wide
theorem TBits.eq {n : Nat} {bs : List Int} (h : TBits n bs) : bs = (List.range (2 ^ n)).map (bf bs) := by
  have e := list_range bs 0
  rw [h.len] at e
  exact e
/-- a Table at a -/
def IsTab (K : PySem.W.Frag) (H : Hp) (a : Addr) (n : Nat) (bs : List Int) : Prop :=
  ∃ dx t : Addr, H a = some (.ins (TC K) dx [("wide", .int (n : Int)), ("held", .ref t)]) ∧ H t = some (.tup (bs.map V.int)) ∧ TBits n bs
theorem IsTab.ex {K : PySem.W.Frag} {H H' : Hp} {a : Addr} {n : Nat} {bs : List Int} (e : Ex H H') (h : IsTab K H a n bs) : IsTab K H' a n bs := by
  obtain ⟨dx, t, h1, h2, h3⟩ := h
  exact ⟨dx, t, e _ _ h1, e _ _ h2, h3⟩
/-- the promises' shapes beside RetL, RetV: a new tuple -/
def RetU (xs : List V) (H : Hp) (Q : VK) : Prop := ∀ p H2, H p = none → Ex H H2 → H2 p = some (.tup xs) → Q (.ref p) H2
theorem RetU.go {xs : List V} {H H' : Hp} {Q : VK} (k : RetU xs H Q) (e : Ex H H') {p : Addr} {H2 : Hp} (hp : H' p = none) (e2 : Ex H' H2) (h : H2 p = some (.tup xs)) : Q (.ref p) H2 := k p H2 (fresh_back e hp) (e.trans e2) h
theorem RetU.now {xs : List V} {H H' : Hp} {Q : VK} (k : RetU xs H Q) (e : Ex H H') {p : Addr} (hp : H' p = none) : Q (.ref p) (upd H' p (.tup xs)) := k.go e hp (Ex.new hp) upd_same
theorem RetL.now {xs : List V} {H H' : Hp} {Q : VK} (k : RetL xs H Q) (e : Ex H H') {p : Addr} (hp : H' p = none) : Q (.ref p) (upd H' p (.lst xs)) := k.go e hp (Ex.new hp) upd_same
theorem sz64 {n : Nat} (h : n ≤ 100000) : n ≤ sizeLine := sz_of h
end Bs
/-! The readings, one step each, for simp. -/
namespace Bs
open PySem PySem.Spec PyProof.Rows L2 Evl
section
variable {K : PySem.W.Frag} {σ : L2.St} {H : Hp} {Q : VK} {QB : Bool → Hp → Prop} {QA : List V → Hp → Prop} {QO : Option Int → Hp → Prop} {D : Ends} {ta tb te to : TE} {t u : TT} {tr aa : TA} {ts tu : TS}
theorem rd_var {i : Nat} : tVar i σ H Q = ∃ v, σ[i]? = some (some v) ∧ Q v H := rfl
theorem rd_c {v : V} : tC v σ H Q = Q v H := rfl
theorem rd_op {r : R2} : tOp r ta tb σ H Q = ta σ H fun x H1 => tb σ H1 fun y H2 => r x y H2 Q := rfl
theorem rd_un {r : V → Hp → VK → Prop} : tUn r ta σ H Q = ta σ H fun x H1 => r x H1 Q := rfl
theorem rd_I {C : Int → Int → Prop} {g : Int → Int → V} {x y : V} : rI C g x y H Q = ∃ i, x = .int i ∧ ∃ j, y = .int j ∧ C i j ∧ Q (g i j) H := propext ⟨fun ⟨i, j, a, b, c⟩ => ⟨i, a, j, b, c⟩, fun ⟨i, a, j, b, c⟩ => ⟨i, j, a, b, c⟩⟩
theorem rd_I0 {g : Int → Int → V} {x y : V} : rI0 g x y H Q = ∃ i, x = .int i ∧ ∃ j, y = .int j ∧ Q (g i j) H := propext ⟨fun ⟨i, j, a, b, c⟩ => ⟨i, a, j, b, c⟩, fun ⟨i, a, j, b, c⟩ => ⟨i, j, a, b, c⟩⟩
theorem rd_U {g : Int → V} {x : V} : rU g x H Q = ∃ i, x = .int i ∧ Q (g i) H := rfl
theorem rd_NN {g : Nat → Nat → Nat} {x y : V} : rNN g x y H Q = ∃ n : Nat, x = .int (n : Int) ∧ ∃ m : Nat, y = .int (m : Int) ∧ Q (.int ((g n m : Nat) : Int)) H := propext ⟨fun ⟨i, j, a, b, c⟩ => ⟨i, a, j, b, c⟩, fun ⟨i, a, j, b, c⟩ => ⟨i, j, a, b, c⟩⟩
theorem rd_shr {x y : V} : rShrNN x y H Q = ∃ n : Nat, x = .int (n : Int) ∧ ∃ k : Nat, y = .int (k : Int) ∧ Q (.int ((n / 2 ^ k : Nat) : Int)) H := propext ⟨fun ⟨i, j, a, b, c⟩ => ⟨i, a, j, b, c⟩, fun ⟨i, a, j, b, c⟩ => ⟨i, j, a, b, c⟩⟩
theorem rd_shl1 {x y : V} : rShl1 x y H Q = (x = .int 1 ∧ ∃ k : Nat, y = .int (k : Int) ∧ k ≤ 100000 ∧ Q (.int ((2 ^ k : Nat) : Int)) H) := propext ⟨fun ⟨k, a, b, c⟩ => ⟨a, k, b, c⟩, fun ⟨a, k, b, c⟩ => ⟨k, a, b, c⟩⟩
theorem rd_XB {x y : V} : rXB x y H Q = ∃ a : Int, x = .int a ∧ ∃ b : Int, y = .int b ∧ IsBit a ∧ IsBit b ∧ Q (.int (xb a b)) H := propext ⟨fun ⟨i, j, a, b, c⟩ => ⟨i, a, j, b, c⟩, fun ⟨i, a, j, b, c⟩ => ⟨i, j, a, b, c⟩⟩
theorem rd_eq {x y : V} : rEq x y H Q = (scal x y = true ∧ Q (.bl (decide (x = y))) H) := rfl
theorem rd_ne {x y : V} : rNe x y H Q = (scal x y = true ∧ Q (.bl (!decide (x = y))) H) := rfl
theorem scal_int {i j : Int} : (scal (.int i) (.int j) = true) = True := eq_true rfl
theorem rd_B : tB te σ H QB = te σ H fun x H1 => ∃ c, x = .bl c ∧ QB c H1 := rfl
theorem rd_test : tTest te σ H QB = te σ H fun x H' => ∃ k, x = .bl k ∧ QB k H' := rfl
theorem rd_and : tAnd t u σ H QB = t σ H fun c H1 => if c = true then u σ H1 QB else QB false H1 := rfl
theorem rd_or : tOr t u σ H QB = t σ H fun c H1 => if c = true then QB true H1 else u σ H1 QB := rfl
theorem rd_not : tNot t σ H QB = t σ H fun c H1 => QB (!c) H1 := rfl
theorem rd_andV : tAndV ta tb σ H Q = ta σ H fun x H1 => ∃ c, x = .bl c ∧ if c = true then tb σ H1 Q else Q (.bl false) H1 := rfl
theorem rd_orV : tOrV ta tb σ H Q = ta σ H fun x H1 => ∃ c, x = .bl c ∧ if c = true then Q (.bl true) H1 else tb σ H1 Q := rfl
theorem rd_notV : tNotV ta σ H Q = ta σ H fun x H1 => ∃ c, x = .bl c ∧ Q (.bl (!c)) H1 := rfl
theorem rd_if : tIf t ta tb σ H Q = t σ H fun c H1 => if c = true then ta σ H1 Q else tb σ H1 Q := rfl
theorem rd_nil : tNil σ H QA = QA [] H := rfl
theorem rd_cons : tCons ta tr σ H QA = ta σ H fun x H1 => tr σ H1 fun xs H2 => QA (x :: xs) H2 := rfl
theorem rd_tup : tTup aa σ H Q = aa σ H fun xs H1 => xs.length ≤ sizeLine ∧ ∀ p, H1 p = none → Q (.ref p) (upd H1 p (.tup xs)) := rfl
theorem rd_lst : tLst aa σ H Q = aa σ H fun xs H1 => xs.length ≤ sizeLine ∧ ∀ p, H1 p = none → Q (.ref p) (upd H1 p (.lst xs)) := rfl
theorem rd_call {sp : Sp} {dvs : List V} {E : XK} : tCall sp dvs E aa σ H Q = aa σ H fun vs H1 => sp (vs ++ dvs) H1 Q E := rfl
theorem rd_CB {r : List V → Hp → VK → Prop} : tCB r aa σ H Q = aa σ H fun vs H1 => r vs H1 Q := rfl
theorem rd_prop {C : Addr} {sp : Sp} {dvs : List V} {E : XK} : tProp C sp dvs E ta σ H Q = ta σ H fun x H1 => ∃ a, x = .ref a ∧ ∃ dx fs, H1 a = some (.ins C dx fs) ∧ sp (.ref a :: dvs) H1 Q E := by
  unfold tProp
  congr 1
  funext x H1
  exact propext ⟨fun ⟨a, d, f, e, z⟩ => ⟨a, e, d, f, z⟩, fun ⟨a, e, d, f, z⟩ => ⟨a, d, f, e, z⟩⟩
theorem rd_meth {C : Addr} {m : Str} {sp : Sp} {dvs : List V} {E : XK} : tMeth C m sp dvs E ta aa σ H Q = ta σ H fun x H1 => ∃ a, x = .ref a ∧ ∃ dx fs, H1 a = some (.ins C dx fs) ∧ fs.lookup m = none ∧ aa σ H1 fun vs H2 => sp (x :: (vs ++ dvs)) H2 Q E := by
  unfold tMeth
  congr 1
  funext x H1
  exact propext ⟨fun ⟨a, d, f, e, z⟩ => ⟨a, e, d, f, z⟩, fun ⟨a, e, d, f, z⟩ => ⟨a, d, f, e, z⟩⟩
theorem rd_fld {f : Str} : tFld K ta f σ H Q = ta σ H fun x H1 => ∃ a, x = .ref a ∧ ∃ C dx fs v, H1 a = some (.ins C dx fs) ∧ Cls K C ∧ NoAttr K C f ∧ fs.lookup f = some v ∧ Q v H1 := by
  unfold tFld
  congr 1
  funext x H1
  exact propext ⟨fun ⟨a, c, d, f, v, e, z⟩ => ⟨a, e, c, d, f, v, z⟩, fun ⟨a, e, c, d, f, v, z⟩ => ⟨a, c, d, f, v, e, z⟩⟩
theorem rd_make {C : Addr} {sp : Sp} {dvs : List V} {E : XK} : tMake C sp dvs E aa σ H Q = aa σ H fun vs H1 => ∀ x dx, H1 x = none → H1 dx = none → dx ≠ x →
  sp (.ref x :: (vs ++ dvs)) (upd (upd H1 dx (.own x)) x (.ins C dx [])) (fun v H2 => v = .non ∧ Q (.ref x) H2) E := rfl
theorem rd_sl {r : V → Option Int → Option Int → Hp → VK → Prop} {tl th : TO} : tSl r te tl th σ H Q = te σ H fun x H1 => tl σ H1 fun l H2 => th σ H2 fun u H3 => r x l u H3 Q := rfl
theorem rd_noPart : tNoPart σ H QO = QO none H := rfl
theorem rd_part : tPart te σ H QO = te σ H fun x H1 => ∃ i, x = .int i ∧ QO (some i) H1 := rfl
theorem rd_bm0 {T : String} {r : V → List V → Hp → VK → Prop} : tBM0 K T r to σ H Q = to σ H fun x H1 => tyV K T x H1 ∧ r x [] H1 Q := rfl
theorem rd_bm {T : String} {r : V → List V → Hp → VK → Prop} : tBM K T r to aa σ H Q = to σ H fun x H1 => tyV K T x H1 ∧ aa σ H1 fun xs H2 => r x xs H2 Q := rfl
theorem rd_bits : tBits to σ H Q = to σ H fun x H1 => ∃ i, x = .int i ∧ Q (.int (Builtin.Int.intBits i : Nat)) H1 := rfl
theorem rd_ixL {x y : V} : rIxL K x y H Q = ∃ p, x = .ref p ∧ ∃ i, y = .int i ∧ ∃ xs v, SqL K H p xs ∧ atI xs i = some v ∧ Q v H := propext ⟨fun ⟨p, xs, i, v, a, b, c⟩ => ⟨p, a, i, b, xs, v, c⟩, fun ⟨p, a, i, b, xs, v, c⟩ => ⟨p, xs, i, v, a, b, c⟩⟩
theorem rd_ixT {x y : V} : rIxT K x y H Q = ∃ p, x = .ref p ∧ ∃ i, y = .int i ∧ ∃ xs v, SqT K H p xs ∧ atI xs i = some v ∧ Q v H := propext ⟨fun ⟨p, xs, i, v, a, b, c⟩ => ⟨p, a, i, b, xs, v, c⟩, fun ⟨p, a, i, b, xs, v, c⟩ => ⟨p, xs, i, v, a, b, c⟩⟩
theorem rd_append {x : V} {vs : List V} : rAppend x vs H Q = ∃ l, x = .ref l ∧ ∃ y, vs = [y] ∧ ∃ xs, H l = some (.lst xs) ∧ xs.length < sizeLine ∧ Q .non (upd H l (.lst (xs ++ [y]))) :=
  propext ⟨fun ⟨l, xs, y, a, b, c⟩ => ⟨l, a, y, b, xs, c⟩, fun ⟨l, a, y, b, xs, c⟩ => ⟨l, xs, y, a, b, c⟩⟩
theorem ty_list {a : Addr} {xs : List V} (h : H a = some (.lst xs)) : tyV K "list" (.ref a) H := .inl ⟨rfl, _, SqL.of h⟩
theorem tru_int {i : Int} {k : Bool} : TruV K (.int i) H k = (k = (i != 0)) := rfl
theorem rd_lstRg {te : L2.St → Hp → (Int → Int → Hp → Prop) → Prop} : tLstRg te σ H Q = te σ H fun a b H1 => RgOk a b ∧ ∀ q, H1 q = none → Q (.ref q) (upd H1 q (.lst (rgV a b))) := rfl
theorem rd_rg1 {QR : Int → Int → Hp → Prop} : tRg1 ta σ H QR = ta σ H fun x H1 => ∃ n, x = .int n ∧ QR 0 n H1 := rfl
theorem rd_asg {g : TG} : tAsg te g D σ H = te σ H fun x H1 => g x σ H1 D.nx := rfl
theorem rd_name {i : Nat} {v : V} {R : L2.St → Hp → Prop} : gName i v σ H R = R (σ.set i (some v)) H := rfl
theorem rd_gnil {vs : List V} {R : L2.St → Hp → Prop} : gNil vs σ H R = (vs = [] ∧ R σ H) := rfl
theorem rd_gcons {g : TG} {gs : TGs} {vs : List V} {R : L2.St → Hp → Prop} : gCons g gs vs σ H R = ∃ v r, vs = v :: r ∧ g v σ H fun σ' H' => gs r σ' H' R := rfl
theorem rd_gcons1 {g : TG} {gs : TGs} {v : V} {vs : List V} {R : L2.St → Hp → Prop} : gCons g gs (v :: vs) σ H R = g v σ H fun σ' H' => gs vs σ' H' R := propext ⟨fun ⟨_, _, e, q⟩ => by cases e; exact q, fun q => ⟨_, _, rfl, q⟩⟩
theorem rd_gtup {n : Nat} {gs : TGs} {v : V} {R : L2.St → Hp → Prop} : gTup K n gs v σ H R = ∃ a, v = .ref a ∧ ∃ xs, SqT K H a xs ∧ xs.length = n ∧ gs xs σ H R := propext ⟨fun ⟨a, xs, e, z⟩ => ⟨a, e, xs, z⟩, fun ⟨a, e, xs, z⟩ => ⟨a, xs, e, z⟩⟩
theorem rd_gsub {ti : TE} {tt : TSet} {v : V} {R : L2.St → Hp → Prop} : gSub to ti tt v σ H R = to σ H fun o H1 => ti σ H1 fun i H2 => tt o i v H2 fun H3 => R σ H3 := rfl
theorem rd_setL {o i v : V} {R : Hp → Prop} : rSetL o i v H R = ∃ p, o = .ref p ∧ ∃ k, i = .int k ∧ ∃ xs j, H p = some (.lst xs) ∧ ixN xs.length k = some j ∧ R (upd H p (.lst (xs.set j v))) := propext ⟨fun ⟨p, xs, k, j, a, b, c⟩ => ⟨p, a, k, b, xs, j, c⟩, fun ⟨p, a, k, b, xs, j, c⟩ => ⟨p, xs, k, j, a, b, c⟩⟩
theorem rd_seq : tSeq ts tu D σ H = ts { D with nx := tu D } σ H := rfl
theorem rd_next : tNext D σ H = D.nx σ H := rfl
theorem rd_break : tBreak D σ H = D.bk σ H := rfl
theorem rd_never : tNever D σ H = False := rfl
theorem rd_drop : tDrop te D σ H = te σ H fun _ H1 => D.nx σ H1 := rfl
theorem rd_ret : tRet te D σ H = te σ H D.rt := rfl
theorem rd_retN : tRetN D σ H = D.rt .non H := rfl
theorem rd_ifS : tIfS t ts tu D σ H = t σ H fun b H1 => if b = true then ts D σ H1 else tu D σ H1 := rfl
theorem rd_par {i j : Nat} : tPar i j aa D σ H = aa σ H fun vs H1 => ∃ v w, vs = [v, w] ∧ D.nx ((σ.set i (some v)).set j (some w)) H1 := rfl
theorem rd_two {v w : V} {P : V → V → Prop} : (∃ a b, [v, w] = [a, b] ∧ P a b) = P v w := propext ⟨fun ⟨_, _, e, q⟩ => by cases e; exact q, fun q => ⟨_, _, rfl, q⟩⟩
theorem rd_aug {i : Nat} {ti : TIp} : tAug i te ti D σ H = ∃ x, σ[i]? = some (some x) ∧ te σ H fun y H1 => ti x y H1 fun z H2 => D.nx (σ.set i (some z)) H2 := rfl
theorem rd_sFld {f : Str} : sFld K ta te f D σ H = te σ H fun y H1 => ta σ H1 fun x H2 => ∃ a, x = .ref a ∧ ∃ C dx fs, H2 a = some (.ins C dx fs) ∧ Cls K C ∧ NoAttr K C f ∧ fs.length < 1000 ∧
  D.nx σ (upd H2 a (.ins C dx (putF f y fs))) := by
  unfold sFld
  congr 1
  funext y H1
  congr 1
  funext x H2
  exact propext ⟨fun ⟨a, c, d, f, e, z⟩ => ⟨a, e, c, d, f, z⟩, fun ⟨a, e, c, d, f, z⟩ => ⟨a, c, d, f, e, z⟩⟩
/-- a for loop behind its iterator -/
def Loop (J : It) (g : TG) (tb : TS) (D : Ends) (σ : L2.St) (H : Hp) : Prop := ∃ W : Nat → Nat → L2.St → Hp → Prop, (∃ m, W 0 m σ H) ∧ ∀ i m σ H, W i m σ H →
  (J.stop i H ∧ D.nx σ H) ∨ (J.go i H ∧ ∃ N : L2.St → Hp → Prop, (∀ σ' H', N σ' H' → ∃ m', m' < m ∧ W (i + 1) m' σ' H') ∧ ∀ x H', J.yld i H x H' → g x σ H' fun σ2 H2 => tb { nx := N, rt := D.rt, bk := D.nx, ct := N } σ2 H2)
theorem rd_for {wi : TI} {g : TG} {tb : TS} : tFor wi g tb D σ H = wi σ H fun J H1 => Loop J g tb D σ H1 := rfl
theorem loop_range {lo : Int} {n : Nat} {g : TG} {tb : TS} (Pv : Nat → L2.St → Hp → Prop) (h0 : Pv 0 σ H)
    (hs : ∀ (i : Nat) (σ : L2.St) (H : Hp), i < n → Pv i σ H → g (.int (lo + (i : Int))) σ H fun σ2 H2 => tb { nx := Pv (i + 1), rt := D.rt, bk := D.nx, ct := Pv (i + 1) } σ2 H2)
    (hd : ∀ (σ : L2.St) (H : Hp), Pv n σ H → D.nx σ H) : Loop (Itr lo n) g tb D σ H := for_range Pv h0 hs hd
theorem loop_list {a : Addr} {xs : List V} {g : TG} {tb : TS} (Pv : Nat → L2.St → Hp → Prop) (h0 : Pv 0 σ H) (hl : ∀ (i : Nat) (σ : L2.St) (H : Hp), i ≤ xs.length → Pv i σ H → SqL K H a xs)
    (hs : ∀ (i : Nat) (x : V) (σ : L2.St) (H : Hp), xs[i]? = some x → Pv i σ H → g x σ H fun σ2 H2 => tb { nx := Pv (i + 1), rt := D.rt, bk := D.nx, ct := Pv (i + 1) } σ2 H2)
    (hd : ∀ (σ : L2.St) (H : Hp), Pv xs.length σ H → D.nx σ H) : Loop (Itl K a) g tb D σ H := for_list Pv h0 hl hs hd
theorem loop_tup {a : Addr} {xs : List V} {g : TG} {tb : TS} (Pv : Nat → L2.St → Hp → Prop) (h0 : Pv 0 σ H) (hl : ∀ (i : Nat) (σ : L2.St) (H : Hp), i ≤ xs.length → Pv i σ H → SqT K H a xs)
    (hs : ∀ (i : Nat) (x : V) (σ : L2.St) (H : Hp), xs[i]? = some x → Pv i σ H → g x σ H fun σ2 H2 => tb { nx := Pv (i + 1), rt := D.rt, bk := D.nx, ct := Pv (i + 1) } σ2 H2)
    (hd : ∀ (σ : L2.St) (H : Hp), Pv xs.length σ H → D.nx σ H) : Loop (Itt K a) g tb D σ H := for_tup Pv h0 hl hs hd
theorem rd_iList {tl : TE} {R : It → Hp → Prop} : iList K tl σ H R = tl σ H fun x H1 => ∃ a, x = .ref a ∧ (∃ xs, SqL K H1 a xs) ∧ R (Itl K a) H1 := rfl
theorem rd_iTup {tl : TE} {R : It → Hp → Prop} : iTup K tl σ H R = tl σ H fun x H1 => ∃ a, x = .ref a ∧ (∃ xs, SqT K H1 a xs) ∧ R (Itt K a) H1 := rfl
theorem rd_iRng1 {R : It → Hp → Prop} : iRng1 aa σ H R = aa σ H fun vs H1 => ∃ j : Int, vs = [.int j] ∧ -(2 ^ 62) ≤ j ∧ j < 2 ^ 62 ∧ R (Itr 0 j.toNat) H1 := rfl
/-- a comprehension behind its iterator -/
def LcLoop (J : It) (g : TG) (tt : TT) (te : TE) (vs : List Nat) (σ : L2.St) (Q : VK) (H1 : Hp) : Prop := ∀ D, H1 D = none → ∃ W : Nat → Nat → Hp → Prop, (∃ m, W 0 m (upd H1 D (.lst []))) ∧ ∀ i m H, W i m H →
  (J.stop i H ∧ Q (.ref D) H) ∨ (J.go i H ∧ ∃ Nx : Hp → Prop, (∀ H', Nx H' → ∃ m', m' < m ∧ W (i + 1) m' H') ∧ ∀ x H', J.yld i H x H' → g x (wipe σ vs) H' fun σ2 H2 => wipe σ2 vs = wipe σ vs ∧ tt σ2 H2 fun b H3 =>
    if b = true then te σ2 H3 fun y H4 => ∃ acc, H4 D = some (.lst acc) ∧ acc.length < sizeLine ∧ Nx (upd H4 D (.lst (acc ++ [y]))) else Nx H3)
theorem rd_lc {wi : TI} {g : TG} {tt : TT} {vs : List Nat} : tLc wi g tt te vs σ H Q = wi σ H fun J H1 => LcLoop J g tt te vs σ Q H1 := rfl
/-- what a comprehension's one turn must give: the new item at the list's end -/
def Elt (g : TG) (te : TE) (vs : List Nat) (σ : L2.St) (x y : V) (H0 : Hp) : Prop := ∀ H, Ex H0 H → ∀ R : VK, (∀ H', Ex H H' → R y H') → g x (wipe σ vs) H fun σ2 H2 => wipe σ2 vs = wipe σ vs ∧ te σ2 H2 R
theorem lcl_range {n : Nat} {g : TG} {vs : List Nat} (f : Nat → V) (hn : n ≤ 10000) (he : ∀ i, i < n → Elt g te vs σ (.int (i : Int)) (f i) H) (q : RetL ((List.range n).map f) H Q) : LcLoop (Itr 0 n) g tYes te vs σ Q H := by
  intro L hL
  refine lc_range (fun i H' => Ex H H' ∧ H' L = some (.lst ((List.range i).map f))) ⟨Ex.new hL, upd_same⟩ (fun i H' hi ⟨p1, p2⟩ => ?_) (fun H' ⟨p1, p2⟩ => q L H' hL p1 p2)
  have e0 : (0 : Int) + (i : Int) = (i : Int) := Int.zero_add _
  rw [e0]
  have h := he i hi H' p1 (fun y H4 => ∃ acc, H4 L = some (.lst acc) ∧ acc.length < sizeLine ∧ (Ex H (upd H4 L (.lst (acc ++ [y]))) ∧ (upd H4 L (.lst (acc ++ [y]))) L = some (.lst ((List.range (i + 1)).map f)))) (fun H4 e4 => ?_)
  · exact h
  · refine ⟨_, e4 _ _ p2, ?_, Ex.mut (p1.trans e4) hL, ?_⟩
    · rw [List.length_map, List.length_range]
      exact sz_lt (by omega)
    · rw [upd_same, List.range_succ, List.map_append]
      rfl
theorem lcl_list {a : Addr} {xs : List V} {g : TG} {vs : List Nat} (f : Nat → V) (hx : SqL K H a xs) (hn : xs.length ≤ 10000) (he : ∀ i x, xs[i]? = some x → Elt g te vs σ x (f i) H) (q : RetL ((List.range xs.length).map f) H Q) :
    LcLoop (Itl K a) g tYes te vs σ Q H := by
  intro L hL
  refine lc_list (xs := xs) (fun i H' => Ex H H' ∧ H' L = some (.lst ((List.range i).map f))) ⟨Ex.new hL, upd_same⟩ (fun i H' _ p => ex_l p.1 hx) (fun i x H' hi ⟨p1, p2⟩ => ?_) (fun H' ⟨p1, p2⟩ => q L H' hL p1 p2)
  have hlt : i < xs.length := (List.getElem?_eq_some_iff.mp hi).1
  have h := he i x hi H' p1 (fun y H4 => ∃ acc, H4 L = some (.lst acc) ∧ acc.length < sizeLine ∧ (Ex H (upd H4 L (.lst (acc ++ [y]))) ∧ (upd H4 L (.lst (acc ++ [y]))) L = some (.lst ((List.range (i + 1)).map f)))) (fun H4 e4 => ?_)
  · exact h
  · refine ⟨_, e4 _ _ p2, ?_, Ex.mut (p1.trans e4) hL, ?_⟩
    · rw [List.length_map, List.length_range]
      exact sz_lt (by omega)
    · rw [upd_same, List.range_succ, List.map_append]
      rfl
theorem lcl_tup {a : Addr} {xs : List V} {g : TG} {vs : List Nat} (f : Nat → V) (hx : SqT K H a xs) (hn : xs.length ≤ 10000) (he : ∀ i x, xs[i]? = some x → Elt g te vs σ x (f i) H) (q : RetL ((List.range xs.length).map f) H Q) :
    LcLoop (Itt K a) g tYes te vs σ Q H := by
  intro L hL
  refine lc_tup (xs := xs) (fun i H' => Ex H H' ∧ H' L = some (.lst ((List.range i).map f))) ⟨Ex.new hL, upd_same⟩ (fun i H' _ p => ex_t p.1 hx) (fun i x H' hi ⟨p1, p2⟩ => ?_) (fun H' ⟨p1, p2⟩ => q L H' hL p1 p2)
  have hlt : i < xs.length := (List.getElem?_eq_some_iff.mp hi).1
  have h := he i x hi H' p1 (fun y H4 => ∃ acc, H4 L = some (.lst acc) ∧ acc.length < sizeLine ∧ (Ex H (upd H4 L (.lst (acc ++ [y]))) ∧ (upd H4 L (.lst (acc ++ [y]))) L = some (.lst ((List.range (i + 1)).map f)))) (fun H4 e4 => ?_)
  · exact h
  · refine ⟨_, e4 _ _ p2, ?_, Ex.mut (p1.trans e4) hL, ?_⟩
    · rw [List.length_map, List.length_range]
      exact sz_lt (by omega)
    · rw [upd_same, List.range_succ, List.map_append]
      rfl
/-! ### rules with the written part named -/
variable {X : Cx} {tg l : Expr} {tl : TE} {R : It → Hp → Prop}
theorem k_len (K : PySem.W.Frag) (h : X.K = K := by rfl) : CallR X (.builtin "len") (rLenS K) := by subst h; exact call_len_seq
theorem k_sum (K : PySem.W.Frag) (hc : X.calm = true := by rfl) (h : X.K = K := by rfl) : CallR X (.builtin "sum") (rSum K) := by subst h; exact cr_sum hc
theorem k_min (K : PySem.W.Frag) (hc : X.calm = true := by rfl) (h : X.K = K := by rfl) : CallR X (.builtin "min") (rMin K) := by subst h; exact cr_min hc
theorem k_isi (K : PySem.W.Frag) (h : X.K = K := by rfl) : CallR X (.builtin "isinstance") (rIsi K) := by subst h; exact call_isi
theorem k_isiT (K : PySem.W.Frag) (h : X.K = K := by rfl) : CallR X (.builtin "isinstance") (rIsiT K) := by subst h; exact call_isiT
theorem k_list (K : PySem.W.Frag) (h : X.K = K := by rfl) : CallR X (.type "list") (rListS K) := by subst h; exact call_list_of
def rTupS (K : PySem.W.Frag) : List V → Hp → VK → Prop := fun xs H Q => ∃ p ys, xs = [.ref p] ∧ ((SqL K H p ys ∧ ∀ l, H l = none → Q (.ref l) (upd H l (.tup ys))) ∨ (SqT K H p ys ∧ Q (.ref p) H))
theorem k_tuple (K : PySem.W.Frag) (h : X.K = K := by rfl) : CallR X (.type "tuple") (rTupS K) := by subst h; exact call_tuple_of
theorem k_sorted (K : PySem.W.Frag) (h : X.K = K := by rfl) : CallR X (.builtin "sorted") (rSortedI K) := by subst h; exact cr_sortedI
theorem k_ixL (K : PySem.W.Frag) (h : X.K = K := by rfl) : IxR X (rIxL K) := by subst h; exact ix_list
theorem k_ixT (K : PySem.W.Frag) (h : X.K = K := by rfl) : IxR X (rIxT K) := by subst h; exact ix_tup
theorem k_slL (K : PySem.W.Frag) (h : X.K = K := by rfl) : SlR X (rSlL K) := by subst h; exact sl_list
theorem ki_list (K : PySem.W.Frag) (hl : PE X l tl) (h : X.K = K := by rfl) : PI X tg l (iList K tl) := by subst h; exact pi_list hl
theorem ki_tup (K : PySem.W.Frag) (hl : PE X l tl) (h : X.K = K := by rfl) : PI X tg l (iTup K tl) := by subst h; exact pi_tup hl
theorem rd_len {vs : List V} : rLenS K vs H Q = ∃ p, vs = [.ref p] ∧ ∃ ys, (SqL K H p ys ∨ SqT K H p ys) ∧ Q (.int ys.length) H := propext ⟨fun ⟨p, ys, a, b⟩ => ⟨p, a, ys, b⟩, fun ⟨p, a, ys, b⟩ => ⟨p, ys, a, b⟩⟩
theorem rd_listS {vs : List V} : rListS K vs H Q = ∃ p, vs = [.ref p] ∧ ∃ ys, (SqL K H p ys ∨ SqT K H p ys) ∧ ∀ l, H l = none → Q (.ref l) (upd H l (.lst ys)) := propext ⟨fun ⟨p, ys, a, b⟩ => ⟨p, a, ys, b⟩, fun ⟨p, a, ys, b⟩ => ⟨p, ys, a, b⟩⟩
theorem rd_tupS {vs : List V} : rTupS K vs H Q = ∃ p, vs = [.ref p] ∧ ∃ ys, ((SqL K H p ys ∧ ∀ l, H l = none → Q (.ref l) (upd H l (.tup ys))) ∨ (SqT K H p ys ∧ Q (.ref p) H)) := propext ⟨fun ⟨p, ys, a, b⟩ => ⟨p, a, ys, b⟩, fun ⟨p, a, ys, b⟩ => ⟨p, ys, a, b⟩⟩
theorem rd_sum {vs : List V} : rSum K vs H Q = ∃ a, vs = [V.ref a] ∧ ∃ ns : List Int, SqL K H a (ns.map V.int) ∧ Q (.int ns.sum) H := propext ⟨fun ⟨p, ys, a, b⟩ => ⟨p, a, ys, b⟩, fun ⟨p, a, ys, b⟩ => ⟨p, ys, a, b⟩⟩
theorem rd_min {vs : List V} : rMin K vs H Q = ∃ a, vs = [V.ref a] ∧ ∃ ns : List Int, SqL K H a (ns.map V.int) ∧ 0 < ns.length ∧ ∀ m, m ∈ ns → (∀ y, y ∈ ns → m ≤ y) → Q (.int m) H := propext ⟨fun ⟨p, ys, a, b⟩ => ⟨p, a, ys, b⟩, fun ⟨p, a, ys, b⟩ => ⟨p, ys, a, b⟩⟩
theorem rd_iEnum {R : It → Hp → Prop} : iEnum K aa σ H R = aa σ H fun vs H1 => ∃ a xs, vs = [.ref a] ∧ SqL K H1 a xs ∧ R (Ite K a) H1 := rfl
theorem rd_yes : tYes σ H QB = QB true H := rfl
/-- one turn with a test: b whether the item is kept, y it -/
def EltT (g : TG) (tt : TT) (te : TE) (vs : List Nat) (σ : L2.St) (x : V) (b : Bool) (y : V) (H0 : Hp) : Prop := ∀ (RT : VK) (RF : Hp → Prop), (b = true → ∀ H', Ex H0 H' → RT y H') → (b = false → ∀ H', Ex H0 H' → RF H') →
  g x (wipe σ vs) H0 fun σ2 H2 => wipe σ2 vs = wipe σ vs ∧ tt σ2 H2 fun c H3 => if c = true then te σ2 H3 RT else RF H3
theorem lcl_enum {a : Addr} {xs : List V} {g : TG} {tt : TT} {te : TE} {vs : List Nat} (f : Nat → V) (kp : Nat → Bool) (hx : SqL K H a xs) (hn : xs.length ≤ 10000)
    (he : ∀ (i : Nat) (x : V) (T : Addr) (H' : Hp), xs[i]? = some x → Ex H H' → H' T = some (.tup [.int (i : Int), x]) → EltT g tt te vs σ (.ref T) (kp i) (f i) H') (q : RetL (given xs.length kp f) H Q) : LcLoop (Ite K a) g tt te vs σ Q H := by
  intro L hL
  refine ⟨fun i m H' => i + m = xs.length ∧ Ex H H' ∧ H' L = some (.lst (given i kp f)), ⟨xs.length, by omega, Ex.new hL, by rw [upd_same]; rfl⟩, fun i m H' ⟨em, p1, p2⟩ => ?_⟩
  have hs : SqL K H' a xs := ex_l p1 hx
  by_cases hi : i < xs.length
  · refine .inr ⟨⟨xs, xs[i], hs, List.getElem?_eq_getElem hi⟩, fun H'' => Ex H H'' ∧ H'' L = some (.lst (given (i + 1) kp f)), fun H'' p => ⟨m - 1, by omega, by omega, p⟩, fun v H'' hy => ?_⟩
    obtain ⟨T, x, rfl, nT, rfl, hxs⟩ := hy
    have hxi := hxs xs hs
    have eT : Ex H' (upd H' T (.tup [.int (i : Int), x])) := Ex.new nT
    have gl := given_len i kp f
    refine he i x T _ hxi (p1.trans eT) upd_same _ _ (fun hb H4 e4 => ⟨_, e4 _ _ (eT _ _ p2), sz_lt (by omega), Ex.mut ((p1.trans eT).trans e4) hL, ?_⟩) fun hb H4 e4 => ⟨(p1.trans eT).trans e4, ?_⟩
    · rw [upd_same, given_yes hb]
    · rw [given_no hb]
      exact e4 _ _ (eT _ _ p2)
  · have e : i = xs.length := by omega
    subst e
    exact .inl ⟨⟨xs, hs, by omega⟩, q L H' hL p1 p2⟩
/-! ### a comprehension of new objects -/
/-- a new list of new objects, the i-th o i -/
def RetRefs (o : Nat → HO) (n : Nat) (H : Hp) (Q : VK) : Prop := ∀ (p : Addr) (ps : List Addr) (H2 : Hp), H p = none → Ex H H2 → H2 p = some (.lst (ps.map V.ref)) → ps.length = n → (∀ (i : Nat) (a : Addr), ps[i]? = some a → H2 a = some (o i)) → (∀ (i : Nat) (a : Addr), ps[i]? = some a → H a = none) → Q (.ref p) H2
theorem RetRefs.go {o : Nat → HO} {n : Nat} {H H' : Hp} {Q : VK} (k : RetRefs o n H Q) (e : Ex H H') : RetRefs o n H' Q := fun p ps H2 hp e2 h1 h2 h3 h4 => k p ps H2 (fresh_back e hp) (e.trans e2) h1 h2 h3 fun i a hi => fresh_back e (h4 i a hi)
theorem lcl_news {J : It} {g : TG} {te : TE} {vs : List Nat} {σ : L2.St} {Q : VK} {H : Hp} (n : Nat) (o : Nat → HO) (Xi : Nat → V → Hp → Prop) (hn : n ≤ 10000)
    (hgo : ∀ (i : Nat) (H' : Hp), i < n → Ex H H' → J.go i H') (hstop : ∀ H', Ex H H' → J.stop n H') (hy : ∀ (i : Nat) (x : V) (H' H'' : Hp), i < n → Ex H H' → J.yld i H' x H'' → Ex H' H'' ∧ Xi i x H'')
    (he : ∀ (i : Nat) (x : V) (H' : Hp), i < n → Ex H H' → Xi i x H' → ∀ R : VK, (∀ (a : Addr) (H'' : Hp), H' a = none → Ex H' H'' → H'' a = some (o i) → R (.ref a) H'') → g x (wipe σ vs) H' fun σ2 H2 => wipe σ2 vs = wipe σ vs ∧ te σ2 H2 R)
    (q : RetRefs o n H Q) : LcLoop J g tYes te vs σ Q H := by
  intro L hL
  refine ⟨fun i m H' => i + m = n ∧ Ex H H' ∧ ∃ ps : List Addr, H' L = some (.lst (ps.map V.ref)) ∧ ps.length = i ∧ ∀ (j : Nat) (a : Addr), ps[j]? = some a → a ≠ L ∧ H' a = some (o j) ∧ H a = none,
    ⟨n, by omega, Ex.new hL, [], by rw [upd_same]; rfl, rfl, fun j a h => by simp at h⟩, fun i m H' ⟨em, p1, ps, p2, p3, p4⟩ => ?_⟩
  by_cases hi : i < n
  · refine .inr ⟨hgo i H' hi p1, fun H'' => Ex H H'' ∧ ∃ ps : List Addr, H'' L = some (.lst (ps.map V.ref)) ∧ ps.length = i + 1 ∧ ∀ (j : Nat) (a : Addr), ps[j]? = some a → a ≠ L ∧ H'' a = some (o j) ∧ H a = none,
      fun H'' p => ⟨m - 1, by omega, by omega, p⟩, fun x H'' hyl => ?_⟩
    obtain ⟨ey, hx⟩ := hy i x H' H'' hi p1 hyl
    refine he i x H'' hi (p1.trans ey) hx (fun y H4 => ∃ acc, H4 L = some (.lst acc) ∧ acc.length < sizeLine ∧ Ex H (upd H4 L (.lst (acc ++ [y]))) ∧ ∃ ps : List Addr, (upd H4 L (.lst (acc ++ [y]))) L = some (.lst (ps.map V.ref)) ∧ ps.length = i + 1 ∧
      ∀ (j : Nat) (a : Addr), ps[j]? = some a → a ≠ L ∧ (upd H4 L (.lst (acc ++ [y]))) a = some (o j) ∧ H a = none) fun a H4 ha e4 h4 => ?_
    have hL'' := ey _ _ p2
    have haL : a ≠ L := fun z => by
      rw [z, hL''] at ha
      cases ha
    refine ⟨_, e4 _ _ hL'', ?_, Ex.mut ((p1.trans ey).trans e4) hL, ps ++ [a], ?_, by rw [List.length_append, p3]; rfl, fun j b hj => ?_⟩
    · rw [List.length_map, p3]
      exact sz_lt (by omega)
    · rw [upd_same, List.map_append]
      rfl
    · by_cases hji : j < i
      · rw [List.getElem?_append_left (by omega)] at hj
        obtain ⟨h1, h2, h3⟩ := p4 j b hj
        exact ⟨h1, by rw [upd_ne h1]; exact e4 _ _ (ey _ _ h2), h3⟩
      · rw [List.getElem?_append_right (by omega), p3] at hj
        have hj0 : j - i = 0 := by
          cases e : j - i with
          | zero => rfl
          | succ z =>
            rw [e] at hj
            simp at hj
        rw [hj0] at hj
        have eb : a = b := Option.some.inj hj
        have ej : j = i := by omega
        rw [← eb, ej]
        exact ⟨haL, by rw [upd_ne haL]; exact h4, fresh_back (p1.trans ey) ha⟩
  · have e : i = n := by omega
    subst e
    exact .inl ⟨hstop H' p1, q L ps H' hL p1 p2 p3 (fun j a h => (p4 j a h).2.1) fun j a h => (p4 j a h).2.2⟩
theorem lcl_listN {a : Addr} {xs : List V} {g : TG} {te : TE} {vs : List Nat} {σ : L2.St} {Q : VK} {H : Hp} (o : Nat → HO) (hx : SqL K H a xs) (hn : xs.length ≤ 10000)
    (he : ∀ (i : Nat) (x : V) (H' : Hp), xs[i]? = some x → Ex H H' → ∀ R : VK, (∀ (a : Addr) (H'' : Hp), H' a = none → Ex H' H'' → H'' a = some (o i) → R (.ref a) H'') → g x (wipe σ vs) H' fun σ2 H2 => wipe σ2 vs = wipe σ vs ∧ te σ2 H2 R)
    (q : RetRefs o xs.length H Q) : LcLoop (Itl K a) g tYes te vs σ Q H :=
  lcl_news xs.length o (fun i x _ => xs[i]? = some x) hn (fun i H' hi e => ⟨xs, xs[i], ex_l e hx, List.getElem?_eq_getElem hi⟩) (fun H' e => ⟨xs, ex_l e hx, Nat.le_refl _⟩)
    (fun i x H' H'' hi e ⟨h1, h2⟩ => by subst h1; exact ⟨Ex.refl _, h2 xs (ex_l e hx)⟩) (fun i x H' hi e hxi => he i x H' hxi e) q
theorem lcl_rangeN {n : Nat} {g : TG} {te : TE} {vs : List Nat} {σ : L2.St} {Q : VK} {H : Hp} (o : Nat → HO) (hn : n ≤ 10000)
    (he : ∀ (i : Nat) (H' : Hp), i < n → Ex H H' → ∀ R : VK, (∀ (a : Addr) (H'' : Hp), H' a = none → Ex H' H'' → H'' a = some (o i) → R (.ref a) H'') → g (.int (i : Int)) (wipe σ vs) H' fun σ2 H2 => wipe σ2 vs = wipe σ vs ∧ te σ2 H2 R)
    (q : RetRefs o n H Q) : LcLoop (Itr 0 n) g tYes te vs σ Q H :=
  lcl_news n o (fun i x _ => x = .int (i : Int)) hn (fun i H' hi _ => hi) (fun H' _ => Nat.le_refl _)
    (fun i x H' H'' hi e ⟨h1, h2⟩ => by subst h1; exact ⟨Ex.refl _, by rw [h2, Int.zero_add]⟩) (fun i x H' hi e hxi => by subst hxi; exact he i H' hi e) q
theorem lcl_enumN {a : Addr} {xs : List V} {g : TG} {te : TE} {vs : List Nat} {σ : L2.St} {Q : VK} {H : Hp} (o : Nat → HO) (hx : SqL K H a xs) (hn : xs.length ≤ 10000)
    (he : ∀ (i : Nat) (x : V) (T : Addr) (H' : Hp), xs[i]? = some x → Ex H H' → H' T = some (.tup [.int (i : Int), x]) → ∀ R : VK, (∀ (a : Addr) (H'' : Hp), H' a = none → Ex H' H'' → H'' a = some (o i) → R (.ref a) H'') → g (.ref T) (wipe σ vs) H' fun σ2 H2 => wipe σ2 vs = wipe σ vs ∧ te σ2 H2 R)
    (q : RetRefs o xs.length H Q) : LcLoop (Ite K a) g tYes te vs σ Q H :=
  lcl_news xs.length o (fun i v H' => ∃ x T, xs[i]? = some x ∧ v = .ref T ∧ H' T = some (.tup [.int (i : Int), x])) hn (fun i H' hi e => ⟨xs, xs[i], ex_l e hx, List.getElem?_eq_getElem hi⟩) (fun H' e => ⟨xs, ex_l e hx, Nat.le_refl _⟩)
    (fun i v H' H'' hi e ⟨T, x, h1, h2, h3, h4⟩ => by subst h1 h3; exact ⟨Ex.new h2, x, T, h4 xs (ex_l e hx), rfl, upd_same⟩) (fun i v H' hi e ⟨x, T, h1, h2, h3⟩ => by subst h2; exact he i x T H' h1 e h3) q
/-! ### int(..) -/
def rInt : List V → Hp → VK → Prop := fun xs H Q => ∃ i, xs = [.int i] ∧ Q (.int i) H
def rIntB : List V → Hp → VK → Prop := fun xs H Q => ∃ k, xs = [.bl k] ∧ Q (.int (if k then 1 else 0)) H
theorem k_int : CallR X (.type "int") rInt := fun pins s σ H xs us Q I r h => call_int1 pins s σ H xs us Q I r (.inl h)
theorem k_intB : CallR X (.type "int") rIntB := fun pins s σ H xs us Q I r h => call_int1 pins s σ H xs us Q I r (.inr h)
theorem rd_int {vs : List V} : rInt vs H Q = ∃ i, vs = [.int i] ∧ Q (.int i) H := rfl
theorem rd_intB {vs : List V} : rIntB vs H Q = ∃ k, vs = [.bl k] ∧ Q (.int (if k then 1 else 0)) H := rfl
/-- n & 1 of a natural -/
def rBit1 : R2 := fun x y H Q => ∃ n : Nat, x = .int (n : Int) ∧ y = .int 1 ∧ Q (.int ((n % 2 : Nat) : Int)) H
theorem op_bit1 : OpR X (binaryOp .BitAnd) rBit1 := op_odd
theorem rd_bit1 {x y : V} : rBit1 x y H Q = ∃ n : Nat, x = .int (n : Int) ∧ y = .int 1 ∧ Q (.int ((n % 2 : Nat) : Int)) H := rfl
theorem rd_popAt {x : V} {vs : List V} : rPopAt x vs H Q = ∃ l, x = .ref l ∧ ∃ i, vs = [.int i] ∧ ∃ xs k y, H l = some (.lst xs) ∧ -(2 ^ 63) ≤ i ∧ i < 2 ^ 63 ∧ seqIndex? i xs.length = some k ∧ xs[k]? = some y ∧ Q y (upd H l (.lst (xs.eraseIdx k))) :=
  propext ⟨fun ⟨l, xs, i, k, y, a, b, c⟩ => ⟨l, a, i, b, xs, k, y, c⟩, fun ⟨l, a, i, b, xs, k, y, c⟩ => ⟨l, xs, i, k, y, a, b, c⟩⟩
theorem rd_slL {x : V} {lo hi : Option Int} : rSlL K x lo hi H Q = ∃ a, x = .ref a ∧ ∃ xs, SqL K H a xs ∧ ∀ p, H p = none → Q (.ref p) (upd H p (.lst (cutV xs lo hi))) := propext ⟨fun ⟨a, xs, b, c⟩ => ⟨a, b, xs, c⟩, fun ⟨a, b, xs, c⟩ => ⟨a, xs, b, c⟩⟩
theorem rd_sortedI {vs : List V} : rSortedI K vs H Q = ∃ a, vs = [V.ref a] ∧ ∃ ns : List Int, SqL K H a (ns.map V.int) ∧ ∀ (ns' : List Int) (p : Addr), ns'.Perm ns → ns'.Pairwise (· ≤ ·) → H p = none → Q (.ref p) (upd H p (.lst (ns'.map V.int))) :=
  propext ⟨fun ⟨a, xs, b, c⟩ => ⟨a, b, xs, c⟩, fun ⟨a, b, xs, c⟩ => ⟨a, xs, b, c⟩⟩
theorem vnon {x : V} : (V.non = V.non) = True := eq_true rfl
def rAddN : R2 := fun x y H Q => ∃ n m : Nat, x = .int (n : Int) ∧ y = .int (m : Int) ∧ Q (.int ((n + m : Nat) : Int)) H
theorem op_addNN : OpR X (binaryOp .Add) rAddN := op_addN
theorem rd_addN {x y : V} : rAddN x y H Q = ∃ n : Nat, x = .int (n : Int) ∧ ∃ m : Nat, y = .int (m : Int) ∧ Q (.int ((n + m : Nat) : Int)) H := propext ⟨fun ⟨i, j, a, b, c⟩ => ⟨i, a, j, b, c⟩, fun ⟨i, a, j, b, c⟩ => ⟨i, j, a, b, c⟩⟩
/-- 2 * n -/
def rDbl : R2 := fun x y H Q => ∃ n : Nat, x = .int 2 ∧ y = .int (n : Int) ∧ Q (.int ((2 * n : Nat) : Int)) H
theorem op_dbl : OpR X (binaryOp .Mult) rDbl := fun pins s σ H x y v u Q I rx ry ⟨n, h1, h2, q⟩ => op_mulN pins s σ H x y v u Q I rx ry ⟨2, n, h1, h2, by decide, q⟩
theorem rd_dbl {x y : V} : rDbl x y H Q = (x = .int 2 ∧ ∃ n : Nat, y = .int (n : Int) ∧ Q (.int ((2 * n : Nat) : Int)) H) := propext ⟨fun ⟨n, a, b, c⟩ => ⟨a, n, b, c⟩, fun ⟨a, n, b, c⟩ => ⟨n, a, b, c⟩⟩
/-- n >> 1 -/
def rHalf : R2 := fun x y H Q => ∃ n : Nat, x = .int (n : Int) ∧ y = .int 1 ∧ Q (.int ((n / 2 : Nat) : Int)) H
theorem op_half : OpR X (binaryOp .RShift) rHalf := op_halfN
theorem rd_half {x y : V} : rHalf x y H Q = ∃ n : Nat, x = .int (n : Int) ∧ y = .int 1 ∧ Q (.int ((n / 2 : Nat) : Int)) H := rfl
/-- ints made one by one, the heap going on -/
theorem lcl_rangeS {n : Nat} {g : TG} {te : TE} {vs : List Nat} {σ : L2.St} {Q : VK} {H : Hp} (I : Nat → List Int → Hp → Prop) (hn : n ≤ 10000)
    (hst : ∀ (i : Nat) (ys : List Int) (H' : Hp) (L : Addr) (o : HO), H L = none → I i ys H' → I i ys (upd H' L o)) (h0 : I 0 [] H) (hln : ∀ (i : Nat) (ys : List Int) (H' : Hp), I i ys H' → ys.length = i)
    (he : ∀ (i : Nat) (ys : List Int) (H' : Hp), i < n → I i ys H' → ∀ R : VK, (∀ (y : Int) (H'' : Hp), I (i + 1) (ys ++ [y]) H'' → (∀ (L : Addr) (o : HO), H L = none → H' L = some o → H'' L = some o) → R (.int y) H'') →
      g (.int (i : Int)) (wipe σ vs) H' fun σ2 H2 => wipe σ2 vs = wipe σ vs ∧ te σ2 H2 R)
    (q : ∀ (p : Addr) (ys : List Int) (H' : Hp), H p = none → I n ys H' → H' p = some (.lst (ys.map V.int)) → Q (.ref p) H') : LcLoop (Itr 0 n) g tYes te vs σ Q H := by
  intro L hL
  refine lc_range (fun i H' => ∃ ys : List Int, I i ys H' ∧ H' L = some (.lst (ys.map V.int))) ⟨[], hst _ _ _ _ _ hL h0, by rw [upd_same]; rfl⟩ (fun i H' hi ⟨ys, p1, p2⟩ => ?_) (fun H' ⟨ys, p1, p2⟩ => q L ys H' hL p1 p2)
  rw [Int.zero_add]
  refine he i ys H' hi p1 (fun y H4 => ∃ acc, H4 L = some (.lst acc) ∧ acc.length < sizeLine ∧ ∃ zs : List Int, I (i + 1) zs (upd H4 L (.lst (acc ++ [y]))) ∧ (upd H4 L (.lst (acc ++ [y]))) L = some (.lst (zs.map V.int))) fun y H4 h4 k4 => ?_
  refine ⟨_, k4 L _ hL p2, ?_, ys ++ [y], hst _ _ _ _ _ hL h4, ?_⟩
  · rw [List.length_map, hln i ys H' p1]
    exact sz_lt (by omega)
  · rw [upd_same, List.map_append]
    rfl
theorem isi_int {i : Int} {T : String} {b : Bool} (h : kitB "int" T = some b) (q : Q (.bl b) H) : rIsi K [.int i, .ty T] H Q :=
  ⟨_, _, _, _, _, rfl, ClsV.ty T, TyX.base (TyOf.int i), kit_ty h, q⟩
theorem cx_K {CXx : CXT} {P : Program} {w : World} {mg : Str → Option Value} {base : Heap} {N : List Str} {q : Str} {sc : Scope} {f : Addr} {cd : Value} {A : Around} {o : List Env} {s : Shared} {E : XK} : (cxOf CXx P w K mg base N q sc f cd A o s H E).K = K := rfl
theorem cx_noxK {CXx : CXT} {P : Program} {w : World} {mg : Str → Option Value} {base : Heap} {N : List Str} {q : Str} {sc : Scope} {f : Addr} {cd : Value} {A : Around} {o : List Env} {s : Shared} {E : XK} : (cxOf CXx P w K mg base N q sc f cd A o s H E).nox.K = K := rfl
theorem vint {i j : Int} : (V.int i = V.int j) = (i = j) := propext ⟨V.int.inj, fun h => h ▸ rfl⟩
theorem vbl {i j : Bool} : (V.bl i = V.bl j) = (i = j) := propext ⟨V.bl.inj, fun h => h ▸ rfl⟩
theorem vref {i j : Addr} : (V.ref i = V.ref j) = (i = j) := propext ⟨V.ref.inj, fun h => h ▸ rfl⟩
theorem natc {n m : Nat} : ((n : Int) = (m : Int)) = (n = m) := propext Int.ofNat_inj
end
end Bs
/-! The error's own __init__: super().__init__(f'..'), self.argument = argument. -/
namespace Bs
open PySem PySem.Spec PyProof.Rows L2 Evl NdefX
section
variable {P : Program} [IsP P] {w : World} {K : PySem.W.Frag} {mg : Str → Option Value} {base : Heap} {X : Cx} {pins : List (Addr × Obj)} {σ : L2.St} {H : Hp} {s : Shared}
instance cxP {CXx : CXT} {N : List Str} {q : Str} {sc : Scope} {f : Addr} {cd : Value} {A : Around} {o : List Env} {E : XK} [h : IsP P] : IsP (cxOf CXx P w K mg base N q sc f cd A o s H E).prog := h
instance noxP [h : IsP X.prog] : IsP X.nox.prog := h
/-- WrongKind.__init__(self, z) -/
def sp_wk (K : PySem.W.Frag) : Sp := fun vs H Q _ => ∃ (a : Addr) (z : Str), vs = [.ref a, .str z] ∧ z.length ≤ 100 ∧ H a = some (exo a (WK K) none) ∧
  ∀ H2 d, H d = none → d ≠ a → (∀ b o, b ≠ a → H b = some o → H2 b = some o) → H2 a = some (exo a (WK K) (some d)) → H2 d = some (exd d [("argument", .str z)]) → Q .non H2
theorem wk_oex (T : Fx K mg) : OexC K (WK K) := T.wk.oex
theorem wk_init (T : Fx K mg) : PySem.W.findIn K (.ref (WK K)) "__init__" = some (some (.ref (T_wkinit K))) := T.wk.fi
theorem wk_fn (T : Fx K mg) : PySem.W.typeIn K (.ref (T_wkinit K)) = some (.type "function") := T.wk.ft
theorem b_wkinit (T : Fx K mg) : L2.Binds K (fdOf K (T_wkinit K)) ["self", "argument"] [] := by
  obtain ⟨cc, cda, oc, oc2, oc3, od, od2, od3, an, kV, doc, pm, ct, osl, osl2, osl3, vs, tf, e, _⟩ := T.wk.fn
  rw [e]
  exact .all fun us hl => match us, hl with | [_, _], _ => rfl
/-- a state with one object more -/
theorem Inv.more {u : Addr} {o : Obj} {h' : Heap} {tk : Nat} (I : Inv X pins σ H s) (k : ∀ b q, s.heap.get? b = some q → h'.get? b = some q) (hu : s.heap.objs.size ≤ u) (ho : h'.get? u = some o) (nc : ∀ v, o.data ≠ .cell v) :
    Inv X ((u, o) :: pins) σ H { s with heap := h', toks := tk } := by
  have J := I.kept (t' := tk) k
  refine J.pins_of fun p hp => ?_
  rcases List.mem_cons.mp hp with rfl | hp
  · exact ⟨ho, I.hok.fresh hu, Nat.ne_of_gt (Nat.lt_of_lt_of_le I.lt hu), I.nofs hu, nc⟩
  · exact J.pin p (List.mem_append_right _ hp)
/-- ValueError.__init__, bound to the exception a, called -/
theorem mw_call {u a C : Addr} {rest : List Value} {A : Around} {Q : Value → Shared → Prop} {E : Value → Shared → Prop} (TT : OexC X.K C) (I : Inv X ((u, PySem.W.kxs_mw "ValueError.__init__" a) :: pins) σ H s) (e : H a = some (exo a C none)) (hl : rest.length ≤ sizeLine)
    (h : ∀ s', Inv X pins σ H s' → Q .none s') : wpAny (model X.prog X.w) A (call (.ref u) rest) Q E s := by
  obtain ⟨nm, q, N, bs, bm, sn, sub, ab, col, dd, k0, k1, k2, k3, k5, hC, _⟩ := TT.cls
  obtain ⟨t1, ho⟩ := exo_at I.hok e
  have hu := (I.pin _ (List.mem_append_right _ (List.mem_cons_self ..))).1
  have I' : Inv X pins σ H s := I.pins_of fun p hp => I.pin p (List.mem_append_right _ (List.mem_cons_of_mem _ hp))
  have hC' := I.kIn _ _ hC
  clear I
  obtain ⟨hp, g, d, t, os⟩ := s
  refine wpAny_call (codeAny_of_tree ?_); show wpAny _ A.in1 (callAny (.ref u) ⟨rest, []⟩) _ _ _; simp only [callAny]
  refine wpAny_bind (wpAny_load hu ?_); simp only [PySem.W.kxs_mw, show (Value.type "method-wrapper" == Value.type "method" || Value.type "method-wrapper" == Value.type "builtin_function_or_method" || Value.type "method-wrapper" == Value.type "method-wrapper") = true by decide, if_true]
  refine PySem.W.KFB.if_so (by decide) (wpAny_bind (PySem.W.check_bound_init PySem.F.excBase_ValueError.toExcCallFacts hC' ho rfl (wpAny_bind (wpAny_pure (wpAny_pure ⟨PySem.plainId_quiet PySem.F.excBase_ValueError.init.plain _, codeAny_builtin PySem.F.excBase_ValueError.initEntry ?_⟩)))))
  refine PySem.W.exc_init_tree (cls := .ref C) (t0 := t1) (dv := none) (c2 := .none) (c3 := .none) (b4 := .bool false) ho hl fun h' k hx _ => ?_
  have J := Inv.write (t' := t) (x := a) (e := a) (o := exo a C none) I' (by rw [e]; exact True.intro) (.inl rfl) k ⟨_, hx⟩ (exo_ok hx)
  have eu : upd H a (exo a C none) = H := funext fun b => by
    by_cases hb : b = a
    · rw [hb, upd_same, e]
    · exact upd_ne hb
  rw [eu] at J
  exact h _ J
theorem str_len (a b : Str) : (a ++ b).length = a.length + b.length := PySem.Str.length_append a b
abbrev wkN : List Str := ["self", "argument", "__class__"]
theorem wk_scope : NScope wkN ["self", "argument"] ["__class__"] (defScope s_wkinit) := nscope_by (by decide +kernel)
theorem ok_wkinit (T : Fx K mg) : FnOk P w K mg base CX0 1 (T_wkinit K) (fdOf K (T_wkinit K)) ["self", "argument"] (sp_wk K) := by
  obtain ⟨cc, cda, oc, oc2, oc3, od, od2, od3, an, kV, doc, pm, ct, osl, osl2, osl3, fv, tf, e, lk, hcd, hcc, hcda, hfv⟩ := T.wk.fn
  refine ⟨fun vs H Q E h => ?_, fun A outer s H args us vs Q E hr e0 hb r hsp => ?_⟩
  · obtain ⟨a, z, rfl, _⟩ := h
    rfl
  obtain ⟨a, z, rfl, hz, hH, q⟩ := hsp
  rw [e] at hb lk
  have KX : K.In s.heap := e0.mod.kin.keeps fun b o x => (e0.bs b o x).1
  have KB : ∀ {b : Addr} {o : Obj}, K.lookup b = some o → H b = none := fun {b o} x => (e0.bs b o (e0.mod.kin b o x)).2
  have lim : s.heap.NoLimit := e0.mod.nolimit.keeps fun b o x => (e0.bs b o x).1
  let F : NF := ⟨"__init__", "WrongKind.__init__", defArgs s_wkinit, defBody s_wkinit, defScope s_wkinit, [("__class__", cc)], cda⟩
  have C : CellsAt F.cl ["__class__"] [some (V.ref (WK K))] s.heap H := by
    have one : ∀ (y : Str) (c : Addr), F.cl.lookup y = some c → y = ("__class__" : Str) ∧ c = cc := fun y c x => by
      have m := PySem.mem_of_lookup x
      simp only [F, List.mem_singleton, Prod.mk.injEq] at m
      exact m
    refine ⟨rfl, fun y c x => ?_, fun x y c h1 h2 => (one x c h1).1.trans (one y c h2).1.symm, fun i y hy => ?_⟩
    · obtain ⟨_, rfl⟩ := one y c x
      exact ⟨KB hcc, _, _, KX _ _ hcc, rfl⟩
    · cases i with
      | zero =>
        cases hy
        refine ⟨cc, rfl, fun v hv => ?_⟩
        cases hv
        exact ⟨_, rfl, _, KX _ _ hcc, rfl⟩
      | succ i => simp at hy
  refine PySem.ks_codeAny_call_defAt hr.depth (KX _ _ lk) rfl lim (PySem.W.codeRec_of KX hcd) rfl hb wk_scope.nocell (fun ⟨n, _⟩ hy => wk_scope.par n (List.of_mem_zip hy).1) (fun h₁ hns kp => ?_) wk_scope.co wk_scope.gen wk_scope.kind
  have I0 : Inv (ncx CX0 P w K mg base wkN F (T_wkinit K) A outer s H E) [] (startF wkN [V.ref a, V.str z] [some (V.ref (WK K))]) H { s with heap := h₁, toks := s.toks + (["self", "argument"].zip us).length } := inv_startN wk_scope hr.hd e0 rfl r C hns kp
  have fin : ∀ (fl : Flow) (s' : Shared), SP (ncx CX0 P w K mg base wkN F (T_wkinit K) A outer s H E) [] { nx := fun _ H' => Q .non H', rt := Q } fl s' → CR CX0 outer P w H s Q E (.ok (.ret (match fl with | .ret v => v | _ => .none))) s' := fun fl s' hs => by
    cases fl with
    | ret u =>
      obtain ⟨v, σ', H', J, rv, qq⟩ := hs
      exact ⟨v, H', J.os, J.bare, J.base, J.hok, rv, qq⟩
    | next =>
      obtain ⟨σ', H', J, qq⟩ := hs
      exact ⟨.non, H', J.os, J.bare, J.base, J.hok, rfl, qq⟩
    | brk =>
      obtain ⟨_, _, _, qq⟩ := hs
      exact qq.elim
    | cont =>
      obtain ⟨_, _, _, qq⟩ := hs
      exact qq.elim
  refine PySem.ks_wpAt_mono (E := (ncx CX0 P w K mg base wkN F (T_wkinit K) A outer s H E).xe) ?_ fin fun _ _ x => x
  clear fin
  have XC : ∃ cd, PySem.W.clsIn K (WK K) = some cd ∧ cd.mro = .ref (WK K) :: cd.mro.drop 1 := by
    obtain ⟨nm, q, N, bs, bm, sn, sub, ab, col, dd, k0, k1, k2, k3, k5, hC, _⟩ := T.wk.oex.cls
    exact ⟨_, by unfold PySem.W.clsIn; rw [hC] <;> rfl, rfl⟩
  obtain ⟨cd, hcls, hmro⟩ := XC
  refine PySem.ks_wpAt_execs_cons (PySem.ks_wpAt_Expr_any (PySem.ks_wpAt_MethodCall ?_))
  refine PySem.ks_wpAt_super_base rfl rfl rfl rfl (kp _ _ (KX _ _ lk)) rfl rfl rfl (kp _ _ (KX _ _ hcda)) rfl hfv (by rw [IsP.file]; exact beq_self_eq_true _) IsP.top ?_
  have kB : ∀ b o, base.get? b = some o → h₁.get? b = some o := fun b o x => kp _ _ (e0.bs b o x).1
  have KH : K.In h₁ := fun b o x => kp _ _ (KX b o x)
  obtain ⟨mb, hb1, hb2⟩ := e0.mod.blt
  refine PySem.W.ks_loadName_global rfl rfl (Calls.loadGlobal_builtin (e0.mod.glob.keeps kB) T.z_super (hb1.keeps kB) ((hb2 _ (by decide)).trans (by decide +kernel : bootBuiltins "super" = some (.type "super"))) ⟨rfl, ?_⟩)
  refine wpAny_loadName_free rfl rfl rfl ⟨_, KH _ _ hcc, rfl⟩ ?_
  obtain ⟨m, hm1, hm2⟩ := I0.loc
  obtain ⟨u0, ru, lu⟩ := hm2 0 "self" (.ref a) rfl rfl (.inl rfl)
  obtain rfl : u0 = Value.ref a := ru
  have hself : m "self" = some (Value.ref a) := by
    rcases lu with ⟨_, x⟩ | ⟨x, _⟩
    · exact x
    · have k0 : (ncx CX0 P w K mg base wkN F (T_wkinit K) A outer s H E).env.kindOf "self" = some .local := rfl
      rw [k0] at x
      rcases x with x | x <;> cases x
  refine wpAny_loadName_local rfl rfl hm1 hself ?_
  obtain ⟨oD, hD1, hD2⟩ : ∃ oD, K.lookup (WK K) = some oD ∧ oD.data = .cls cd := by
    unfold PySem.W.clsIn at hcls
    split at hcls
    · rename_i c d cd' sl ho
      cases hcls
      exact ⟨_, ho, rfl⟩
    · cases hcls
  refine ks_wpAny_isType_cls (KH _ _ hD1) hD2 ⟨rfl, ?_⟩
  obtain ⟨t1, ho⟩ := exo_at I0.hok hH
  refine ks_wpAny_call_super (KH _ _ hD1) hD2 ho rfl (fun c e => by cases e) (PySem.W.looks_mroIn KH T.wk.sub) fun h2 hso k2 => ?_
  have KH2 : K.In h2 := fun b o x => k2 _ _ (KH b o x)
  have It : PySem.W.InstAt h2 a _ (WK K) none := ⟨k2 _ _ ho, rfl, rfl, trivial⟩
  have hsup := T.wk.sup
  unfold PySem.W.ks_superIn at hsup
  rw [hcls] at hsup
  refine PySem.W.kxs_getMethod PySem.W.kxs_ValueError hso (PySem.W.looks_opaque KH2 T.wk.third) (l₀ := cd.mro) (fun A Q E s k q => wpAny_bind ((PySem.W.looks_clsIn KH2 hcls) A _ E s k (wpAny_pure q))) rfl KH2 hsup (It.type.andThen (PySem.W.looks_subIn KH2 T.wk.subB)) (PySem.W.ks_ne KH2 It hcls) rfl ?_
  have up : ∀ b o, h₁.get? b = some o → (h2.push (PySem.W.kxs_mw "ValueError.__init__" a)).get? b = some o := fun b o x => Heap.get?_push_of_some _ (k2 b o x)
  have hsz : h₁.objs.size ≤ h2.objs.size := Nat.le_of_lt (Heap.lt_size hso)
  have hu : (h2.push (PySem.W.kxs_mw "ValueError.__init__" a)).get? h2.objs.size = some (PySem.W.kxs_mw "ValueError.__init__" a) := Heap.get?_push_at rfl rfl
  have I2 := fun tk => Inv.more (tk := tk) I0 up hsz hu (fun v x => by cases x)
  have una : h2.objs.size ≠ a := Nat.ne_of_gt (Heap.lt_size (k2 _ _ ho))
  have hn0 : h₁.get? h2.objs.size = none := by
    cases x : h₁.get? h2.objs.size with
    | none => rfl
    | some o => exact absurd (Heap.lt_size x) (Nat.not_lt.mpr hsz)
  refine PySem.W.kxs_callWith1 (h₀ := h₁) (L := a) (news := [(h2.objs.size, PySem.W.kxs_mw "ValueError.__init__" a)]) (fun p hp => by rw [List.mem_singleton.mp hp]; exact ⟨hu, una, hn0⟩) (List.mem_singleton.mpr rfl) ?_
  refine thn (PA.run (X := ncx CX0 P w K mg base wkN F (T_wkinit K) A outer s H E) (pa_cons (pe_joined (.cons (pe_fmt (pv 1)) (.cons pe_str .nil))) pa_nil) _ _ _ _ H (fun vs H2 => H2 = H ∧ vs.length = 1) (I2 _) ?_) fun us s2 h3 => ?_
  · refine ⟨_, rfl, .inl ⟨z, rfl, sz_of (by omega), ?_⟩⟩
    refine ⟨z, rfl, ?_, _, rfl, ?_, rfl, rfl⟩
    · rw [str_len]
      exact sz_of (Nat.le_trans (Nat.add_le_add (show Str.empty.length ≤ 0 by decide) hz) (by decide))
    · rw [str_len, str_len]
      exact sz_of (Nat.le_trans (Nat.add_le_add (Nat.add_le_add (show Str.empty.length ≤ 0 by decide) hz) (show (" is of a wrong kind" : Str).length ≤ 100 by decide +kernel)) (by decide))
  obtain ⟨vs, H2, I3, r3, e3, l3⟩ := h3
  subst e3
  refine ⟨(I3.pin _ (List.mem_append_right _ (List.mem_cons_self ..))).1, mw_call T.wk.oex I3 hH (by rw [← r3.length, l3]; exact sz_of (by decide)) fun s3 J => ?_⟩
  refine PySem.wpAt_of_wpAny ((pss_one (ps_ost (pv 0) (pv 1))).run [] s3 _ H2 _ J ?_)
  refine ⟨_, rfl, _, rfl, a, WK K, rfl, T.wk.oex, T.wk.na, .inl ⟨hH, fun dx hd ne => ?_⟩⟩
  refine q _ dx hd ne (fun b o hb ho => ?_) upd_same ?_
  · rw [upd_ne hb, upd_ne (ne_of_none ho hd)]
    exact ho
  · rw [upd_ne ne, upd_same]
end
end Bs
/-! Walk 1: ratios. -/
namespace Bs
open PySem PySem.Spec PyProof.Rows L2 Evl
local macro_rules | `(tactic| walk_at "rd") => `(tactic| try simp only [rd_var, rd_c, rd_op, rd_un, rd_I, rd_I0, rd_U, rd_NN, rd_shr, rd_shl1, rd_XB, rd_eq, rd_ne, scal_int, rd_B, rd_test, rd_and, rd_or, rd_not, rd_andV, rd_orV, rd_notV, rd_if, rd_nil, rd_cons, rd_tup, rd_lst, rd_call, rd_CB, rd_prop, rd_meth, rd_fld, rd_make, rd_sl, rd_noPart, rd_part, rd_bm0, rd_bm, rd_bits, rd_ixL, rd_ixT, rd_append, rd_addN, rd_dbl, rd_half, rd_int, rd_intB, rd_bit1, rd_popAt, rd_slL, rd_sortedI, rd_lstRg, rd_rg1, tru_int, rd_len, rd_listS, rd_tupS, rd_sum, rd_min, rd_iEnum, rd_yes, rd_asg, rd_name, rd_gnil, rd_gcons1, rd_two, rd_gtup, rd_gsub, rd_setL, rd_seq, rd_next, rd_break, rd_never, rd_drop, rd_ret, rd_retN, rd_ifS, rd_par, rd_aug, rd_sFld, rd_for, rd_iList, rd_iTup, rd_iRng1, rd_lc, vint, vbl, vref, natc, cx_K, cx_noxK, List.getElem?_cons_zero, List.getElem?_cons_succ, Option.some.injEq, exists_eq_left, exists_eq_left', exists_eq_right, exists_eq_right', true_and, and_true, List.cons.injEq, List.cons_append, List.nil_append, List.append_nil, List.set_cons_zero, List.set_cons_succ, Bool.not_true, Bool.not_false, decide_eq_true_eq, if_true, if_false, Bool.false_eq_true, reduceIte, and_self, Int.zero_add, exists_eq, exists_eq', wipe, List.map_cons, List.map_nil])
section
variable {P : Program} {w : World} {K : PySem.W.Frag} {mg : Str → Option Value} {base : Heap}
abbrev s_check_integer_ratios : Stmt := top 16
abbrev N_check_integer_ratios : List Str := ["value", "argument"]
theorem sc_check_integer_ratios : FnScope N_check_integer_ratios ["value", "argument"] (defScope s_check_integer_ratios) := ⟨rfl, rfl, rfl, by decide +kernel, rfl, by decide +kernel, by decide +kernel⟩
theorem st_check_integer_ratios {x0 x1 : V} : start N_check_integer_ratios [x0, x1] = [some x0, some x1] := rfl

theorem b_check_integer_ratios (T : Fx K mg) : L2.Binds K (fdOf K (T_check_integer_ratios K)) ["value", "argument"] [] := T.d_check_integer_ratios.F.binds (ps := ["value", "argument"]) fun _ _ _ _ _ _ us hl => match us, hl with | [_, _], _ => rfl
def sp_ci : Sp := fun vs H Q _ => ∃ (i : Int) (z : V), vs = [.int i, z] ∧ Q .non H
theorem ok_check_integer_ratios (T : Fx K mg) : FnOk P w K mg base CX0 1 (T_check_integer_ratios K) (fdOf K (T_check_integer_ratios K)) ["value", "argument"] sp_ci := by
  refine T.d_check_integer_ratios.F.ok sc_check_integer_ratios (fun vs H Q E h => ?_) (fun cdv A outer s H vs Q E hr h => ?_)
  · obtain ⟨i, z, rfl, _⟩ := h
    rfl
  · obtain ⟨i, z, rfl, q⟩ := h
    refine ⟨_, (pss_one (ps_if (PW.pt (pw_or (pt_val (pe_callB (k_isi K) (by rfl) T.z_isinstance (by decide +kernel) (pa_cons (pv 0) (pa_cons (pe_bltn (v := .ty "bool") (by rfl) T.z_bool (by decide +kernel) rfl) pa_nil)))) (pw_or1 (pt_not (pt_val (pe_callB (k_isi K) (by rfl) T.z_isinstance (by decide +kernel) (pa_cons (pv 0) (pa_cons (pe_bltn (v := .ty "int") (by rfl) T.z_int (by decide +kernel) rfl) pa_nil)))))))) (pss_one ps_never) pss_nil)), ?_⟩
    rw [st_check_integer_ratios]
    walk_at "rd"
    refine isi_int (b := false) (by decide +kernel) ?_
    walk_at "rd"
    refine isi_int (b := true) (by decide +kernel) ?_
    walk_at "rd"
    exact q
abbrev s_common_divisor : Stmt := top 18
abbrev N_common_divisor : List Str := ["one", "other", "great", "small"]
theorem sc_common_divisor : FnScope N_common_divisor ["one", "other"] (defScope s_common_divisor) := ⟨rfl, rfl, rfl, by decide +kernel, rfl, by decide +kernel, by decide +kernel⟩
theorem st_common_divisor {x0 x1 : V} : start N_common_divisor [x0, x1] = [some x0, some x1, none, none] := rfl

theorem b_common_divisor (T : Fx K mg) : L2.Binds K (fdOf K (T_common_divisor K)) ["one", "other"] [] := T.d_common_divisor.F.binds (ps := ["one", "other"]) fun _ _ _ _ _ _ us hl => match us, hl with | [_, _], _ => rfl
def sp_cd : Sp := fun vs H Q _ => ∃ a b : Int, vs = [.int a, .int b] ∧ Q (.int (Int.gcd a b : Nat)) H
theorem abs_if (a : Int) : (if a < 0 then -a else a) = (a.natAbs : Int) := by
  split <;> omega
theorem ok_common_divisor (T : Fx K mg) : FnOk P w K mg base CX0 1 (T_common_divisor K) (fdOf K (T_common_divisor K)) ["one", "other"] sp_cd := by
  refine T.d_common_divisor.F.ok sc_common_divisor (fun vs H Q E h => ?_) (fun cdv A outer s H vs Q E hr h => ?_)
  · obtain ⟨i, z, rfl, _⟩ := h
    rfl
  · obtain ⟨a, b, rfl, q⟩ := h
    refine ⟨_, (pss_cons (ps_set (i := 2) sc_common_divisor.nd rfl (by first | exact Or.inl rfl | exact Or.inr rfl) (pe_callB call_abs (by rfl) T.z_abs (by decide +kernel) (pa_cons (pv 0) pa_nil)))
      (pss_cons (ps_set (i := 3) sc_common_divisor.nd rfl (by first | exact Or.inl rfl | exact Or.inr rfl) (pe_callB call_abs (by rfl) T.z_abs (by decide +kernel) (pa_cons (pv 1) pa_nil)))
      (pss_cons (ps_while PassesOwn.never (pt_cmpR op_gt (pv 3) pe_int (nomark _)) (pss_one (ps_par (i := 2) (j := 3) (by rfl) sc_common_divisor.nd rfl rfl (by decide) rfl rfl (pa_cons (pv 3) (pa_cons (pe_op op_mod (pv 2) (pv 3)) pa_nil)) (by rfl))))
      (pss_one (ps_ret (pv 2)))))), ?_⟩
    rw [st_common_divisor]
    walk_at "rd"
    rw [abs_if, abs_if]
    refine while_by (fun σ H' => ∃ g s : Nat, σ = [some (.int a), some (.int b), some (.int (g : Int)), some (.int (s : Int))] ∧ H' = H ∧ Nat.gcd g s = Int.gcd a b)
      (fun σ _ => match σ with | [_, _, _, some (.int s)] => s.toNat | _ => 0) ⟨_, _, rfl, rfl, rfl⟩ ?_ ?_
    · rintro σ H' ⟨g, s, rfl, rfl, e⟩
      walk_at "rd"
      by_cases c : (0 : Int) < (s : Int)
      · rw [if_pos c]
        refine ⟨c, _, _, ⟨rfl, rfl⟩, ⟨s, g % s, ⟨rfl, ?_⟩, ?_⟩, ?_⟩
        · rw [Int.natCast_emod]
        · rw [Nat.gcd_comm, ← Nat.gcd_rec, Nat.gcd_comm]
          exact e
        · have := Int.emod_lt_of_pos (g : Int) c
          have := Int.emod_nonneg (g : Int) (show (s : Int) ≠ 0 by omega)
          show ((g : Int) % (s : Int)).toNat < (s : Int).toNat
          omega
      · have c' : s = 0 := by omega
        rw [if_neg c]
        subst c'
        rw [Nat.gcd_zero_right] at e
        rw [e]
        exact q
    · intro σ H Q Q' h hq
      obtain ⟨v, e, h⟩ := hq
      obtain ⟨i, j, e1, e2, k, e3, h4⟩ := h
      exact ⟨v, e, i, j, e1, e2, k, e3, h _ _ h4⟩
abbrev s_lowest : Stmt := top 19
abbrev N_lowest : List Str := ["top", "bottom", "shared"]
theorem sc_lowest : FnScope N_lowest ["top", "bottom"] (defScope s_lowest) := ⟨rfl, rfl, rfl, by decide +kernel, rfl, by decide +kernel, by decide +kernel⟩
theorem st_lowest {x0 x1 : V} : start N_lowest [x0, x1] = [some x0, some x1, none] := rfl

theorem b_lowest (T : Fx K mg) : L2.Binds K (fdOf K (T_lowest K)) ["top", "bottom"] [] := T.d_lowest.F.binds (ps := ["top", "bottom"]) fun _ _ _ _ _ _ us hl => match us, hl with | [_, _], _ => rfl
def sp_low : Sp := fun vs H Q _ => ∃ a b : Int, vs = [.int a, .int b] ∧ (0 < b ∧ b < 2 ^ 30) ∧ RetU [.int (lowT a b), .int (lowB a b)] H Q
theorem gcd_le {a b : Int} (h : 0 < b) : 0 < (Int.gcd a b : Int) ∧ (Int.gcd a b : Int) ≤ b := by
  have h1 : 0 < Int.gcd a b := Int.gcd_pos_of_ne_zero_right a (by omega)
  have h2 := Int.le_of_dvd h (Int.gcd_dvd_right a b)
  omega
theorem ok_lowest (T : Fx K mg) : FnOk P w K mg base CX0 2 (T_lowest K) (fdOf K (T_lowest K)) ["top", "bottom"] sp_low := by
  refine T.d_lowest.F.ok sc_lowest (fun vs H Q E h => ?_) (fun cdv A outer s H vs Q E hr h => ?_)
  · obtain ⟨i, z, rfl, _⟩ := h
    rfl
  · obtain ⟨a, b, rfl, hb, q⟩ := h
    refine ⟨_, (pss_cons (ps_if (pt_cmpR op_lt (pv 1) pe_int (nomark _)) (pss_cons (ps_set (i := 0) sc_lowest.nd rfl (by first | exact Or.inl rfl | exact Or.inr rfl) (pe_un un_neg (pv 0)))
      (pss_one (ps_set (i := 1) sc_lowest.nd rfl (by first | exact Or.inl rfl | exact Or.inr rfl) (pe_un un_neg (pv 1))))) pss_nil)
      (pss_cons (ps_set (i := 2) sc_lowest.nd rfl (by first | exact Or.inl rfl | exact Or.inr rfl) (pe_call (ok_common_divisor T) (hr.mono (by decide)) (by rfl) T.d_common_divisor.gl T.d_common_divisor.F.kp (b_common_divisor T) .nil pass0 (pa_cons (pv 0) (pa_cons (pv 1) pa_nil))))
      (pss_one (ps_ret (pe_tup (pa_cons (pe_op op_fdivW (pv 0) (pv 2)) (pa_cons (pe_op op_fdivW (pv 1) (pv 2)) pa_nil))))))), ?_⟩
    rw [st_lowest]
    walk_at "rd"
    rw [if_neg (by omega)]
    have hg := gcd_le (a := a) hb.1
    have hd : CDivW a (Int.gcd a b : Int) := wide_div (b := 31) hg.1 (by omega) (by decide) (by decide)
    have he : CDivW b (Int.gcd a b : Int) := wide_div (b := 31) hg.1 (by omega) (by decide) (by decide)
    refine ⟨_, _, rfl, ?_⟩
    walk_at "rd"
    exact ⟨hd, he, sz_of (by simp), fun p hp => q.now (Ex.refl _) hp⟩
abbrev s_ratio : Stmt := top 20
abbrev N_ratio : List Str := ["top", "bottom"]
theorem sc_ratio : FnScope N_ratio ["top", "bottom"] (defScope s_ratio) := ⟨rfl, rfl, rfl, by decide +kernel, rfl, by decide +kernel, by decide +kernel⟩
theorem st_ratio {x0 x1 : V} : start N_ratio [x0, x1] = [some x0, some x1] := rfl

theorem b_ratio (T : Fx K mg) : L2.Binds K (fdOf K (T_ratio K)) ["top", "bottom"] [] := T.d_ratio.F.binds (ps := ["top", "bottom"]) fun _ _ _ _ _ _ us hl => match us, hl with | [_, _], _ => rfl
theorem ok_ratio (T : Fx K mg) : FnOk P w K mg base CX0 3 (T_ratio K) (fdOf K (T_ratio K)) ["top", "bottom"] sp_low := by
  refine T.d_ratio.F.ok sc_ratio (fun vs H Q E h => ?_) (fun cdv A outer s H vs Q E hr h => ?_)
  · obtain ⟨i, z, rfl, _⟩ := h
    rfl
  · obtain ⟨a, b, rfl, hb, q⟩ := h
    refine ⟨_, (pss_cons (ps_expr (pe_call (ok_check_integer_ratios T) (hr.mono (by decide)) (by rfl) T.d_check_integer_ratios.gl T.d_check_integer_ratios.F.kp (b_check_integer_ratios T) .nil pass0 (pa_cons (pv 0) (pa_cons pe_str pa_nil))))
      (pss_cons (ps_expr (pe_call (ok_check_integer_ratios T) (hr.mono (by decide)) (by rfl) T.d_check_integer_ratios.gl T.d_check_integer_ratios.F.kp (b_check_integer_ratios T) .nil pass0 (pa_cons (pv 1) (pa_cons pe_str pa_nil))))
      (pss_cons (ps_if (pt_cmpR op_eq (pv 1) pe_int (nomark _)) (pss_one ps_never) pss_nil)
      (pss_one (ps_ret (pe_call (ok_lowest T) (hr.mono (by decide)) (by rfl) T.d_lowest.gl T.d_lowest.F.kp (b_lowest T) .nil pass0 (pa_cons (pv 0) (pa_cons (pv 1) pa_nil)))))))), ?_⟩
    rw [st_ratio]
    walk_at "rd"
    refine ⟨_, _, rfl, ?_⟩
    walk_at "rd"
    refine ⟨_, _, rfl, ?_⟩
    walk_at "rd"
    rw [if_neg (by omega)]
    exact ⟨a, b, rfl, hb, q⟩
end
end Bs
/-! Walk 2: the checks, Table. -/
namespace Bs
open PySem PySem.Spec PyProof.Rows L2 Evl
local macro_rules | `(tactic| walk_at "rd") => `(tactic| try simp only [rd_var, rd_c, rd_op, rd_un, rd_I, rd_I0, rd_U, rd_NN, rd_shr, rd_shl1, rd_XB, rd_eq, rd_ne, scal_int, rd_B, rd_test, rd_and, rd_or, rd_not, rd_andV, rd_orV, rd_notV, rd_if, rd_nil, rd_cons, rd_tup, rd_lst, rd_call, rd_CB, rd_prop, rd_meth, rd_fld, rd_make, rd_sl, rd_noPart, rd_part, rd_bm0, rd_bm, rd_bits, rd_ixL, rd_ixT, rd_append, rd_addN, rd_dbl, rd_half, rd_int, rd_intB, rd_bit1, rd_popAt, rd_slL, rd_sortedI, rd_lstRg, rd_rg1, tru_int, rd_len, rd_listS, rd_tupS, rd_sum, rd_min, rd_iEnum, rd_yes, rd_asg, rd_name, rd_gnil, rd_gcons1, rd_two, rd_gtup, rd_gsub, rd_setL, rd_seq, rd_next, rd_break, rd_never, rd_drop, rd_ret, rd_retN, rd_ifS, rd_par, rd_aug, rd_sFld, rd_for, rd_iList, rd_iTup, rd_iRng1, rd_lc, vint, vbl, vref, natc, cx_K, cx_noxK, List.getElem?_cons_zero, List.getElem?_cons_succ, Option.some.injEq, exists_eq_left, exists_eq_left', exists_eq_right, exists_eq_right', true_and, and_true, List.cons.injEq, List.cons_append, List.nil_append, List.append_nil, List.set_cons_zero, List.set_cons_succ, Bool.not_true, Bool.not_false, decide_eq_true_eq, if_true, if_false, Bool.false_eq_true, reduceIte, and_self, Int.zero_add, exists_eq, exists_eq', wipe, List.map_cons, List.map_nil])
section
variable {P : Program} {w : World} {K : PySem.W.Frag} {mg : Str → Option Value} {base : Heap}
abbrev s_check_integer_tables : Stmt := top 23
abbrev N_check_integer_tables : List Str := ["argument", "value"]
theorem sc_check_integer_tables : FnScope N_check_integer_tables ["argument", "value"] (defScope s_check_integer_tables) := ⟨rfl, rfl, rfl, by decide +kernel, rfl, by decide +kernel, by decide +kernel⟩
theorem st_check_integer_tables {x0 x1 : V} : start N_check_integer_tables [x0, x1] = [some x0, some x1] := rfl

theorem b_check_integer_tables (T : Fx K mg) : L2.Binds K (fdOf K (T_check_integer_tables K)) ["argument", "value"] [] := T.d_check_integer_tables.F.binds (ps := ["argument", "value"]) fun _ _ _ _ _ _ us hl => match us, hl with | [_, _], _ => rfl
def sp_cit : Sp := fun vs H Q _ => ∃ (i : Int) (z : V), vs = [z, .int i] ∧ Q .non H
theorem ok_check_integer_tables (T : Fx K mg) : FnOk P w K mg base CX0 1 (T_check_integer_tables K) (fdOf K (T_check_integer_tables K)) ["argument", "value"] sp_cit := by
  refine T.d_check_integer_tables.F.ok sc_check_integer_tables (fun vs H Q E h => ?_) (fun cdv A outer s H vs Q E hr h => ?_)
  · obtain ⟨i, z, rfl, _⟩ := h
    rfl
  · obtain ⟨i, z, rfl, q⟩ := h
    refine ⟨_, (pss_one (ps_if (PW.pt (pw_or (pt_val (pe_callB (k_isi K) (by rfl) T.z_isinstance (by decide +kernel) (pa_cons (pv 1) (pa_cons (pe_bltn (v := .ty "bool") (by rfl) T.z_bool (by decide +kernel) rfl) pa_nil)))) (pw_or1 (pt_not (pt_val (pe_callB (k_isi K) (by rfl) T.z_isinstance (by decide +kernel) (pa_cons (pv 1) (pa_cons (pe_bltn (v := .ty "int") (by rfl) T.z_int (by decide +kernel) rfl) pa_nil)))))))) (pss_one ps_never) pss_nil)), ?_⟩
    rw [st_check_integer_tables]
    walk_at "rd"
    refine isi_int (b := false) (by decide +kernel) ?_
    walk_at "rd"
    refine isi_int (b := true) (by decide +kernel) ?_
    walk_at "rd"
    exact q
abbrev s_check_between : Stmt := top 25
abbrev N_check_between : List Str := ["argument", "value", "least", "most"]
theorem sc_check_between : FnScope N_check_between ["argument", "value", "least", "most"] (defScope s_check_between) := ⟨rfl, rfl, rfl, by decide +kernel, rfl, by decide +kernel, by decide +kernel⟩
theorem st_check_between {x0 x1 x2 x3 : V} : start N_check_between [x0, x1, x2, x3] = [some x0, some x1, some x2, some x3] := rfl

theorem b_check_between (T : Fx K mg) : L2.Binds K (fdOf K (T_check_between K)) ["argument", "value", "least", "most"] [] := T.d_check_between.F.binds (ps := ["argument", "value", "least", "most"]) fun _ _ _ _ _ _ us hl => match us, hl with | [_, _, _, _], _ => rfl
def sp_cb : Sp := fun vs H Q _ => ∃ (i lo hi : Int) (z : V), vs = [z, .int i, .int lo, .int hi] ∧ lo ≤ i ∧ i ≤ hi ∧ Q .non H
theorem ok_check_between (T : Fx K mg) : FnOk P w K mg base CX0 2 (T_check_between K) (fdOf K (T_check_between K)) ["argument", "value", "least", "most"] sp_cb := by
  refine T.d_check_between.F.ok sc_check_between (fun vs H Q E h => ?_) (fun cdv A outer s H vs Q E hr h => ?_)
  · obtain ⟨i, lo, hi, z, rfl, _⟩ := h
    rfl
  · obtain ⟨i, lo, hi, z, rfl, h1, h2, q⟩ := h
    refine ⟨_, (pss_cons (ps_expr (pe_call (ok_check_integer_tables T) (hr.mono (by decide)) (by rfl) T.d_check_integer_tables.gl T.d_check_integer_tables.F.kp (b_check_integer_tables T) .nil pass0 (pa_cons (pv 0) (pa_cons (pv 1) pa_nil))))
      (pss_one (ps_if (PW.pt (pw_or (pt_cmpR op_lt (pv 1) (pv 2) (nomark _)) (pw_or1 (pt_cmpR op_gt (pv 1) (pv 3) (nomark _))))) (pss_one ps_never) pss_nil))), ?_⟩
    rw [st_check_between]
    walk_at "rd"
    refine ⟨_, _, rfl, ?_⟩
    walk_at "rd"
    rw [if_neg (by omega), if_neg (by omega)]
    exact q
abbrev s_check_width : Stmt := top 26
abbrev N_check_width : List Str := ["width"]
theorem sc_check_width : FnScope N_check_width ["width"] (defScope s_check_width) := ⟨rfl, rfl, rfl, by decide +kernel, rfl, by decide +kernel, by decide +kernel⟩
theorem st_check_width {x0 : V} : start N_check_width [x0] = [some x0] := rfl

theorem b_check_width (T : Fx K mg) : L2.Binds K (fdOf K (T_check_width K)) ["width"] [] := T.d_check_width.F.binds (ps := ["width"]) fun _ _ _ _ _ _ us hl => match us, hl with | [_], _ => rfl
def sp_cw : Sp := fun vs H Q _ => ∃ n : Nat, vs = [.int (n : Int)] ∧ n ≤ 6 ∧ Q .non H
theorem ok_check_width (T : Fx K mg) : FnOk P w K mg base CX0 3 (T_check_width K) (fdOf K (T_check_width K)) ["width"] sp_cw := by
  refine T.d_check_width.F.ok sc_check_width (fun vs H Q E h => ?_) (fun cdv A outer s H vs Q E hr h => ?_)
  · obtain ⟨n, rfl, _⟩ := h
    rfl
  · obtain ⟨n, rfl, h1, q⟩ := h
    refine ⟨_, (pss_one (ps_expr (pe_call (ok_check_between T) (hr.mono (by decide)) (by rfl) T.d_check_between.gl T.d_check_between.F.kp (b_check_between T) .nil pass0 (pa_cons pe_str (pa_cons (pv 0) (pa_cons pe_int (pa_cons (pe_glob (v := .int 6) (by rfl) T.mw.choose_spec ⟨_, rfl⟩) pa_nil))))))), ?_⟩
    rw [st_check_width]
    walk_at "rd"
    exact ⟨_, _, _, _, rfl, by omega, by omega, q⟩
abbrev s_check_row : Stmt := top 28
abbrev N_check_row : List Str := ["argument", "row", "least", "most"]
theorem sc_check_row : FnScope N_check_row ["argument", "row", "least", "most"] (defScope s_check_row) := ⟨rfl, rfl, rfl, by decide +kernel, rfl, by decide +kernel, by decide +kernel⟩
theorem st_check_row {x0 x1 x2 x3 : V} : start N_check_row [x0, x1, x2, x3] = [some x0, some x1, some x2, some x3] := rfl

theorem b_check_row (T : Fx K mg) : L2.Binds K (fdOf K (T_check_row K)) ["argument", "row", "least", "most"] [] := T.d_check_row.F.binds (ps := ["argument", "row", "least", "most"]) fun _ _ _ _ _ _ us hl => match us, hl with | [_, _, _, _], _ => rfl
def sp_cr (K : PySem.W.Frag) : Sp := fun vs H Q _ => ∃ (a : Addr) (xs : List V) (z : V) (n : Nat), vs = [z, .ref a, .int (n : Int), .int (n : Int)] ∧ H a = some (.lst xs) ∧ xs.length = n ∧ ∀ H2, Ex H H2 → Q .non H2
theorem kl_list : kitB "list" "list" = some true := by decide +kernel
theorem isi_rowL {H : Hp} {Q : VK} {a t : Addr} {xs : List V} (hx : H a = some (.lst xs)) (ht : H t = some (.tup [.ty "list", .ty "tuple"])) (q : Q (.bl true) H) : rIsiT K [.ref a, .ref t] H Q :=
  ⟨_, _, _, _, _, _, rfl, ht, .cons (ClsV.ty _) (.cons (ClsV.ty _) .nil), TyX.base (TyOf.lst hx), kitAny_cons (kit_ty kl_list) (fun h => nomatch h) (fun _ => rfl), q⟩
theorem ok_check_row (T : Fx K mg) : FnOk P w K mg base CX0 1 (T_check_row K) (fdOf K (T_check_row K)) ["argument", "row", "least", "most"] (sp_cr K) := by
  refine T.d_check_row.F.ok sc_check_row (fun vs H Q E h => ?_) (fun cdv A outer s H vs Q E hr h => ?_)
  · obtain ⟨i, lo, hi, z, rfl, _⟩ := h
    rfl
  · obtain ⟨a, xs, z, n, rfl, hx, hl, q⟩ := h
    refine ⟨_, (pss_cons (ps_if (pt_not (pt_val (pe_callB (k_isiT K) (by rfl) T.z_isinstance (by decide +kernel) (pa_cons (pv 1) (pa_cons (pe_tup (pa_cons (pe_bltn (v := .ty "list") (by rfl) T.z_list (by decide +kernel) rfl) (pa_cons (pe_bltn (v := .ty "tuple") (by rfl) T.z_tuple (by decide +kernel) rfl) pa_nil))) pa_nil))))) (pss_one ps_never) pss_nil)
      (pss_one (ps_if (PW.pt (pw_or (pt_cmpR op_lt (pe_callB (k_len K) (by rfl) T.z_len (by decide +kernel) (pa_cons (pv 1) pa_nil)) (pv 2) (nomark _)) (pw_or1 (pt_cmpR op_gt (pe_callB (k_len K) (by rfl) T.z_len (by decide +kernel) (pa_cons (pv 1) pa_nil)) (pv 3) (nomark _))))) (pss_one ps_never) pss_nil))), ?_⟩
    rw [st_check_row]
    walk_at "rd"
    refine ⟨sz_of (by simp), fun p hp => isi_rowL (Ex.new hp _ _ hx) upd_same ?_⟩
    walk_at "rd"
    refine ⟨_, .inl (sq_of (Ex.new hp _ _ hx)), ?_⟩
    walk_at "rd"
    rw [if_neg (by omega)]
    refine ⟨_, .inl (sq_of (Ex.new hp _ _ hx)), ?_⟩
    walk_at "rd"
    rw [if_neg (by omega)]
    exact q _ (Ex.new hp)
abbrev s_check_bits : Stmt := top 29
abbrev N_check_bits : List Str := ["bits", "least", "most", "bit"]
theorem sc_check_bits : FnScope N_check_bits ["bits", "least", "most"] (defScope s_check_bits) := ⟨rfl, rfl, rfl, by decide +kernel, rfl, by decide +kernel, by decide +kernel⟩
theorem st_check_bits {x0 x1 x2 : V} : start N_check_bits [x0, x1, x2] = [some x0, some x1, some x2, none] := rfl

theorem b_check_bits (T : Fx K mg) : L2.Binds K (fdOf K (T_check_bits K)) ["bits", "least", "most"] [] := T.d_check_bits.F.binds (ps := ["bits", "least", "most"]) fun _ _ _ _ _ _ us hl => match us, hl with | [_, _, _], _ => rfl
def sp_cbits (K : PySem.W.Frag) : Sp := fun vs H Q _ => ∃ (a : Addr) (bs : List Int) (n : Nat), vs = [.ref a, .int (n : Int), .int (n : Int)] ∧ H a = some (.lst (bs.map V.int)) ∧ bs.length = n ∧ (∀ b ∈ bs, IsBit b) ∧ ∀ H2, Ex H H2 → Q .non H2
theorem ok_check_bits (T : Fx K mg) : FnOk P w K mg base CX0 3 (T_check_bits K) (fdOf K (T_check_bits K)) ["bits", "least", "most"] (sp_cbits K) := by
  refine T.d_check_bits.F.ok sc_check_bits (fun vs H Q E h => ?_) (fun cdv A outer s H vs Q E hr h => ?_)
  · obtain ⟨i, lo, hi, rfl, _⟩ := h
    rfl
  · obtain ⟨a, bs, n, rfl, hx, hl, hb, q⟩ := h
    refine ⟨_, (pss_cons (ps_expr (pe_call (ok_check_row T) (hr.mono (by decide)) (by rfl) T.d_check_row.gl T.d_check_row.F.kp (b_check_row T) .nil pass0 (pa_cons pe_str (pa_cons (pv 0) (pa_cons (pv 1) (pa_cons (pv 2) pa_nil))))))
      (pss_one (ps_for PassesOwn.never (by rfl) (ki_list K (pv 0)) (pg_name (i := 3) sc_check_bits.nd rfl (by first | exact Or.inl rfl | exact Or.inr rfl)) (pss_one (ps_expr (pe_call (ok_check_between T) (hr.mono (by decide)) (by rfl) T.d_check_between.gl T.d_check_between.F.kp (b_check_between T) .nil pass0 (pa_cons pe_str (pa_cons (pv 3) (pa_cons pe_int (pa_cons pe_int pa_nil)))))))))), ?_⟩
    rw [st_check_bits]
    walk_at "rd"
    refine ⟨a, _, _, n, rfl, hx, by rw [List.length_map]; exact hl, fun H1 e1 => ?_⟩
    walk_at "rd"
    refine ⟨⟨_, sq_of (e1 _ _ hx)⟩, loop_list (xs := bs.map V.int) (fun i σ H' => Ex H H' ∧ ∃ v, σ = [some (.ref a), some (.int (n : Int)), some (.int (n : Int)), v]) ⟨e1, none, rfl⟩ (fun i σ H' _ p => sq_of (p.1 _ _ hx)) ?_ ?_⟩
    · rintro i x σ H' hi ⟨e, v, rfl⟩
      obtain ⟨b, hbm, rfl⟩ : ∃ b, b ∈ bs ∧ x = V.int b := by
        obtain ⟨b, h1, h2⟩ := List.mem_map.mp (List.mem_of_getElem? hi)
        exact ⟨b, h1, h2.symm⟩
      walk_at "rd"
      have hbit := hb b hbm
      refine ⟨_, _, _, _, rfl, ?_, ?_, e⟩ <;> (rcases hbit with h | h <;> omega)
    · rintro σ H' ⟨e, v, rfl⟩
      exact q _ e
abbrev s_tinit : Stmt := inClass (top 30) 0
abbrev N_tinit : List Str := ["self", "width", "bits"]
theorem sc_tinit : FnScope N_tinit ["self", "width", "bits"] (defScope s_tinit) := ⟨rfl, rfl, rfl, by decide +kernel, rfl, by decide +kernel, by decide +kernel⟩
theorem st_tinit {x0 x1 x2 : V} : start N_tinit [x0, x1, x2] = [some x0, some x1, some x2] := rfl

theorem b_tinit (T : Fx K mg) : L2.Binds K (fdOf K (T_tinit K)) ["self", "width", "bits"] [] := T.tab.F_init.binds (ps := ["self", "width", "bits"]) fun _ _ _ _ _ _ us hl => match us, hl with | [_, _, _], _ => rfl
def sp_tinit (K : PySem.W.Frag) : Sp := fun vs H Q _ => ∃ (x l dx : Addr) (n : Nat) (bs : List Int), vs = [.ref x, .int (n : Int), .ref l] ∧ H x = some (.ins (TC K) dx []) ∧ H l = some (.lst (bs.map V.int)) ∧ TBits n bs ∧
  ∀ H2 t, H t = none → (∀ b o, b ≠ x → H b = some o → H2 b = some o) → H2 x = some (.ins (TC K) dx [("wide", .int (n : Int)), ("held", .ref t)]) → H2 t = some (.tup (bs.map V.int)) → Q .non H2
theorem ok_tinit (T : Fx K mg) : FnOk P w K mg base CX0 4 (T_tinit K) (fdOf K (T_tinit K)) ["self", "width", "bits"] (sp_tinit K) := by
  refine T.tab.F_init.ok sc_tinit (fun vs H Q E h => ?_) (fun cdv A outer s H vs Q E hr h => ?_)
  · obtain ⟨x, l, dx, n, bs, rfl, _⟩ := h
    rfl
  · obtain ⟨x, l, dx, n, bs, rfl, hx, hl, hb, q⟩ := h
    refine ⟨_, (pss_cons (ps_expr (pe_call (ok_check_width T) (hr.mono (by decide)) (by rfl) T.d_check_width.gl T.d_check_width.F.kp (b_check_width T) .nil pass0 (pa_cons (pv 1) pa_nil)))
      (pss_cons (ps_expr (pe_call (ok_check_bits T) (hr.mono (by decide)) (by rfl) T.d_check_bits.gl T.d_check_bits.F.kp (b_check_bits T) .nil pass0 (pa_cons (pv 2) (pa_cons (pe_op op_shl1 pe_int (pv 1)) (pa_cons (pe_op op_shl1 pe_int (pv 1)) pa_nil)))))
      (pss_cons (ps_fld (pv 0) (pv 1) rfl)
      (pss_one (ps_fld (pv 0) (pe_callTy (k_tuple K) (by rfl) T.z_tuple (by decide +kernel) (pa_cons (pv 2) pa_nil)) rfl))))), ?_⟩
    rw [st_tinit]
    walk_at "rd"
    refine ⟨n, rfl, hb.wide, ?_⟩
    walk_at "rd"
    have hs := hb.wide
    refine ⟨by omega, by omega, l, bs, 2 ^ n, rfl, hl, hb.len, hb.bit, fun H1 e1 => ?_⟩
    walk_at "rd"
    refine ⟨_, _, _, e1 _ _ hx, T.tab.cls, T.tab.nw, by simp, ?_⟩
    have hxl : l ≠ x := ne_of hl hx (by intro z; cases z)
    refine ⟨_, .inl ⟨sq_of (by rw [upd_ne hxl]; exact e1 _ _ hl), fun t ht => ?_⟩⟩
    walk_at "rd"
    have htx : x ≠ t := fun e => by
      rw [← e, upd_same] at ht
      cases ht
    refine ⟨_, _, _, by rw [upd_ne htx, upd_same], T.tab.cls, T.tab.nh, by simp [putF], ?_⟩
    rw [upd_ne htx.symm] at ht
    refine q _ t (fresh_back e1 ht) (fun b o hbx e => ?_) ?_ ?_
    · rw [upd_ne hbx, upd_ne (ne_of_none (e1 _ _ e) ht), upd_ne hbx]
      exact e1 _ _ e
    · rw [upd_same]
      rfl
    · rw [upd_ne htx.symm, upd_same]
/-- Table(n, l) -/
def RetTab (K : PySem.W.Frag) (n : Nat) (bs : List Int) (H : Hp) (Q : VK) : Prop := ∀ p H2, H p = none → Ex H H2 → IsTab K H2 p n bs → Q (.ref p) H2
theorem make_tab {H : Hp} {Q : VK} {E : XK} {l : Addr} {n : Nat} {bs : List Int} (hl : H l = some (.lst (bs.map V.int))) (hb : TBits n bs) (q : RetTab K n bs H Q) (x dx : Addr) (hx : H x = none) (hd : H dx = none) (ne : dx ≠ x) :
    sp_tinit K [.ref x, .int (n : Int), .ref l] (upd (upd H dx (.own x)) x (.ins (TC K) dx [])) (fun v H2 => v = .non ∧ Q (.ref x) H2) E := by
  refine ⟨x, l, dx, n, bs, rfl, upd_same, by rw [upd_ne (ne_of_none hl hx), upd_ne (ne_of_none hl hd)]; exact hl, hb, fun H2 t ht k h1 h2 => ⟨rfl, q x H2 hx (fun b o e => k b o (ne_of_none e hx) ?_) ⟨dx, t, h1, h2, hb⟩⟩⟩
  rw [upd_ne (ne_of_none e hx), upd_ne (ne_of_none e hd)]
  exact e
abbrev s_twidth : Stmt := inClass (top 30) 3
abbrev N_twidth : List Str := ["self"]
theorem sc_twidth : FnScope N_twidth ["self"] (defScope s_twidth) := ⟨rfl, rfl, rfl, by decide +kernel, rfl, by decide +kernel, by decide +kernel⟩
theorem st_twidth {x0 : V} : start N_twidth [x0] = [some x0] := rfl

theorem b_twidth (T : Fx K mg) : L2.Binds K (fdOf K (T_twidth K)) ["self"] [] := T.tab.F_width.binds (ps := ["self"]) fun _ _ _ _ _ _ us hl => match us, hl with | [_], _ => rfl
def sp_tw (K : PySem.W.Frag) : Sp := fun vs H Q _ => ∃ (a : Addr) (n : Nat) (bs : List Int), vs = [.ref a] ∧ IsTab K H a n bs ∧ Q (.int (n : Int)) H
theorem ok_twidth (T : Fx K mg) : FnOk P w K mg base CX0 1 (T_twidth K) (fdOf K (T_twidth K)) ["self"] (sp_tw K) := by
  refine T.tab.F_width.ok sc_twidth (fun vs H Q E h => ?_) (fun cdv A outer s H vs Q E hr h => ?_)
  · obtain ⟨a, n, bs, rfl, _⟩ := h
    rfl
  · obtain ⟨a, n, bs, rfl, ⟨dx, t, h1, h2, h3⟩, q⟩ := h
    refine ⟨_, (pss_one (ps_ret (pe_fld (pv 0) rfl))), ?_⟩
    rw [st_twidth]
    walk_at "rd"
    exact ⟨_, _, _, _, h1, T.tab.cls, T.tab.nw, rfl, q⟩
abbrev s_tbits : Stmt := inClass (top 30) 4
abbrev N_tbits : List Str := ["self"]
theorem sc_tbits : FnScope N_tbits ["self"] (defScope s_tbits) := ⟨rfl, rfl, rfl, by decide +kernel, rfl, by decide +kernel, by decide +kernel⟩
theorem st_tbits {x0 : V} : start N_tbits [x0] = [some x0] := rfl

theorem b_tbits (T : Fx K mg) : L2.Binds K (fdOf K (T_tbits K)) ["self"] [] := T.tab.F_bits.binds (ps := ["self"]) fun _ _ _ _ _ _ us hl => match us, hl with | [_], _ => rfl
def sp_tb (K : PySem.W.Frag) : Sp := fun vs H Q _ => ∃ (a : Addr) (n : Nat) (bs : List Int), vs = [.ref a] ∧ IsTab K H a n bs ∧ ∀ t, H t = some (.tup (bs.map V.int)) → Q (.ref t) H
theorem ok_tbits (T : Fx K mg) : FnOk P w K mg base CX0 1 (T_tbits K) (fdOf K (T_tbits K)) ["self"] (sp_tb K) := by
  refine T.tab.F_bits.ok sc_tbits (fun vs H Q E h => ?_) (fun cdv A outer s H vs Q E hr h => ?_)
  · obtain ⟨a, n, bs, rfl, _⟩ := h
    rfl
  · obtain ⟨a, n, bs, rfl, ⟨dx, t, h1, h2, h3⟩, q⟩ := h
    refine ⟨_, (pss_one (ps_ret (pe_fld (pv 0) rfl))), ?_⟩
    rw [st_tbits]
    walk_at "rd"
    exact ⟨_, _, _, _, h1, T.tab.cls, T.tab.nh, rfl, q t h2⟩
abbrev s_tsigns : Stmt := inClass (top 30) 8
abbrev N_tsigns : List Str := ["self", "bit"]
theorem sc_tsigns : FnScope N_tsigns ["self"] (defScope s_tsigns) := ⟨rfl, rfl, rfl, by decide +kernel, rfl, by decide +kernel, by decide +kernel⟩
theorem st_tsigns {x0 : V} : start N_tsigns [x0] = [some x0, none] := rfl

theorem b_tsigns (T : Fx K mg) : L2.Binds K (fdOf K (T_tsigns K)) ["self"] [] := T.tab.F_signs.binds (ps := ["self"]) fun _ _ _ _ _ _ us hl => match us, hl with | [_], _ => rfl
def sgL (bs : List Int) : List Int := (List.range bs.length).map fun i => 1 - 2 * bf bs i
def sp_ts (K : PySem.W.Frag) : Sp := fun vs H Q _ => ∃ (a : Addr) (n : Nat) (bs : List Int), vs = [.ref a] ∧ IsTab K H a n bs ∧ RetL ((sgL bs).map V.int) H Q
theorem ok_tsigns (T : Fx K mg) : FnOk P w K mg base CX0 1 (T_tsigns K) (fdOf K (T_tsigns K)) ["self"] (sp_ts K) := by
  refine T.tab.F_signs.ok sc_tsigns (fun vs H Q E h => ?_) (fun cdv A outer s H vs Q E hr h => ?_)
  · obtain ⟨a, n, bs, rfl, _⟩ := h
    rfl
  · obtain ⟨a, n, bs, rfl, ⟨dx, t, h1, h2, h3⟩, q⟩ := h
    refine ⟨_, (pss_one (ps_ret (pe_lc (own := [("bit", 1)]) (g := gName 1) (tt := tYes) (by rfl) sc_tsigns.nd (ki_tup K (pe_fld (pv 0) rfl)) (blkOk_by (own := [("bit", 1)]) (N := N_tsigns) (sc := defScope s_tsigns) (by decide +kernel)) (fun _ _ _ _ _ => (pg_name (i := 1) sc_tsigns.nd rfl (by first | exact Or.inl rfl | exact Or.inr rfl))) (fun _ _ _ _ _ => pts_nil) (fun _ _ _ _ _ => (pe_op op_sub pe_int (pe_op op_mulX pe_int (pv 1))))))), ?_⟩
    rw [st_tsigns]
    walk_at "rd"
    refine ⟨_, _, _, _, h1, T.tab.cls, T.tab.nh, rfl, ?_⟩
    walk_at "rd"
    have hs := h3.small
    refine ⟨⟨_, st_of h2⟩, lcl_tup (xs := bs.map V.int) (fun i => .int (1 - 2 * bf bs i)) (st_of h2) (by rw [List.length_map, h3.len]; omega) (fun i x hi => ?_) ?_⟩
    · obtain ⟨b, hb, rfl⟩ : ∃ b, bs[i]? = some b ∧ V.int b = x := by
        rw [List.getElem?_map] at hi
        exact Option.map_eq_some_iff.mp hi
      have eb : bf bs i = b := by
        unfold bf
        rw [List.getD_eq_getElem?_getD, hb]
        rfl
      intro H' e R k
      refine ⟨rfl, ?_⟩
      walk_at "rd"
      refine ⟨?_, ?_⟩
      · refine mulx_ok (a := 2) (b := 2) (by decide) ?_ (by decide)
        rcases h3.bit b (List.mem_of_getElem? hb) with h | h <;> rw [h] <;> decide
      · have := k H' (Ex.refl _)
        rw [eb] at this
        exact this
    · have e : ((List.range (bs.map V.int).length).map fun i => V.int (1 - 2 * bf bs i)) = (sgL bs).map V.int := by
        unfold sgL
        rw [List.map_map, List.length_map]
        rfl
      rw [e]
      exact q
end
end Bs
/-! Walk 3: shades. -/
namespace Bs
open PySem PySem.Spec PyProof.Rows L2 Evl
local macro_rules | `(tactic| walk_at "rd") => `(tactic| try simp only [rd_var, rd_c, rd_op, rd_un, rd_I, rd_I0, rd_U, rd_NN, rd_shr, rd_shl1, rd_XB, rd_eq, rd_ne, scal_int, rd_B, rd_test, rd_and, rd_or, rd_not, rd_andV, rd_orV, rd_notV, rd_if, rd_nil, rd_cons, rd_tup, rd_lst, rd_call, rd_CB, rd_prop, rd_meth, rd_fld, rd_make, rd_sl, rd_noPart, rd_part, rd_bm0, rd_bm, rd_bits, rd_ixL, rd_ixT, rd_append, rd_addN, rd_dbl, rd_half, rd_int, rd_intB, rd_bit1, rd_popAt, rd_slL, rd_sortedI, rd_lstRg, rd_rg1, tru_int, rd_len, rd_listS, rd_tupS, rd_sum, rd_min, rd_iEnum, rd_yes, rd_asg, rd_name, rd_gnil, rd_gcons1, rd_two, rd_gtup, rd_gsub, rd_setL, rd_seq, rd_next, rd_break, rd_never, rd_drop, rd_ret, rd_retN, rd_ifS, rd_par, rd_aug, rd_sFld, rd_for, rd_iList, rd_iTup, rd_iRng1, rd_lc, vint, vbl, vref, natc, cx_K, cx_noxK, List.getElem?_cons_zero, List.getElem?_cons_succ, Option.some.injEq, exists_eq_left, exists_eq_left', exists_eq_right, exists_eq_right', true_and, and_true, List.cons.injEq, List.cons_append, List.nil_append, List.append_nil, List.set_cons_zero, List.set_cons_succ, Bool.not_true, Bool.not_false, decide_eq_true_eq, if_true, if_false, Bool.false_eq_true, reduceIte, and_self, Int.zero_add, exists_eq, exists_eq', wipe, List.map_cons, List.map_nil])
section
variable {P : Program} [IsP P] {w : World} {K : PySem.W.Frag} {mg : Str → Option Value} {base : Heap}
/-- no Table -/
def NoTab (K : PySem.W.Frag) (H : Hp) (v : V) : Prop := ∃ t, TyX K H v t ∧ PySem.W.kitOne K t (.ref (TC K)) = some false
/-- the error that is due then -/
def RaiseT (K : PySem.W.Frag) (H : Hp) (E : XK) : Prop := ∀ d H', H d = none → Ex H H' → H' d = some (.xd [("argument", .str "table")]) → E (.ref (WK K)) (some d) H'
/-- a def upon a table -/
def spTab (K : PySem.W.Frag) (R : Nat → List Int → Hp → VK → Prop) : Sp := fun vs H Q E => ∃ v, vs = [v] ∧ ((∃ a n bs, v = .ref a ∧ IsTab K H a n bs ∧ R n bs H Q) ∨ (NoTab K H v ∧ RaiseT K H E))
def spCT (K : PySem.W.Frag) : Sp := fun vs H Q E => ∃ v, vs = [v, .str "table"] ∧ ((∃ a n bs, v = .ref a ∧ IsTab K H a n bs ∧ Q .non H) ∨ (NoTab K H v ∧ RaiseT K H E))
theorem rd_mkO {C : Addr} {sp : Sp} {dvs : List V} {aa : TA} {σ : L2.St} {H : Hp} {QX : XK} : tMkO C sp dvs aa σ H QX = aa σ H fun vs H1 => vs.length ≤ 1000 ∧ ∀ a, H1 a = none → sp (.ref a :: (vs ++ dvs)) (upd H1 a (exo a C none))
  (fun v H2 => v = .non ∧ ∃ (d : Addr) (fs : List (Str × V)), H2 a = some (exo a C (some d)) ∧ H2 d = some (exd d fs) ∧ H1 d = none ∧ QX (.ref C) (some d) (upd (del H2 a) d (.xd fs))) (fun _ _ _ => False) := rfl
theorem isi_tab (T : Fx K mg) {H : Hp} {Q : VK} {a : Addr} {n : Nat} {bs : List Int} (h : IsTab K H a n bs) (q : Q (.bl true) H) : rIsi K [.ref a, .ref (TC K)] H Q := by
  obtain ⟨dx, t, h1, h2, h3⟩ := h
  exact ⟨_, _, _, _, _, rfl, ClsV.own _, TyX.base (TyOf.ins h1 T.tab.cls T.tab.ha T.tab.hn T.tab.ht T.tab.hm), T.tab.k_self, q⟩
theorem isi_notab {H : Hp} {Q : VK} {v : V} (h : NoTab K H v) (q : Q (.bl false) H) : rIsi K [v, .ref (TC K)] H Q := by
  obtain ⟨t, h1, h2⟩ := h
  exact ⟨_, _, _, _, _, rfl, ClsV.own _, h1, h2, q⟩
theorem raise_wk {H : Hp} {E : XK} (q : RaiseT K H E) : ∀ a, H a = none → sp_wk K [.ref a, .str "table"] (upd H a (exo a (WK K) none))
    (fun v H2 => v = .non ∧ ∃ (d : Addr) (fs : List (Str × V)), H2 a = some (exo a (WK K) (some d)) ∧ H2 d = some (exd d fs) ∧ H d = none ∧ E (.ref (WK K)) (some d) (upd (del H2 a) d (.xd fs))) (fun _ _ _ => False) := by
  intro a ha
  refine ⟨a, _, rfl, by decide, upd_same, fun H2 d hd ne k h1 h2 => ⟨rfl, d, _, h1, h2, ?_, q d _ ?_ (fun b o e => ?_) upd_same⟩⟩
  · rw [upd_ne ne] at hd
    exact hd
  · rw [upd_ne ne] at hd
    exact hd
  · have hb : b ≠ a := ne_of_none e ha
    have hbd : b ≠ d := fun z => by
      rw [upd_ne ne, ← z, e] at hd
      cases hd
    rw [upd_ne hbd, del_ne hb]
    exact k b o hb (by rw [upd_ne hb]; exact e)
abbrev s_check_table_shades : Stmt := top 32
abbrev N_check_table_shades : List Str := ["value", "argument"]
theorem sc_check_table_shades : FnScope N_check_table_shades ["value", "argument"] (defScope s_check_table_shades) := ⟨rfl, rfl, rfl, by decide +kernel, rfl, by decide +kernel, by decide +kernel⟩
theorem st_check_table_shades {x0 x1 : V} : start N_check_table_shades [x0, x1] = [some x0, some x1] := rfl

theorem b_check_table_shades (T : Fx K mg) : L2.Binds K (fdOf K (T_check_table_shades K)) ["value", "argument"] [] := T.d_check_table_shades.F.binds (ps := ["value", "argument"]) fun _ _ _ _ _ _ us hl => match us, hl with | [_, _], _ => rfl
theorem ok_check_table_shades (T : Fx K mg) : FnOk P w K mg base (L2.CX P w) 3 (T_check_table_shades K) (fdOf K (T_check_table_shades K)) ["value", "argument"] (spCT K) := by
  refine T.d_check_table_shades.F.okX sc_check_table_shades (fun vs H Q E h => ?_) (fun cdv A outer s H vs Q E hr h => ?_)
  · obtain ⟨v, rfl, _⟩ := h
    rfl
  · obtain ⟨v, rfl, h⟩ := h
    refine ⟨_, (pss_one (ps_if (pt_not (pt_val (pe_callB (k_isi K) (by rfl) T.z_isinstance (by decide +kernel) (pa_cons (pv 0) (pa_cons (pe_glob (v := .ref (He.ga K "Table")) (by rfl) T.g_Table rfl) pa_nil))))) (pss_one (ps_raise rfl (takes_of rfl rfl rfl rfl) (pmk_oex (wk_oex T) (wk_init T) (wk_fn T) (ok_wkinit T) (hr.mono (by decide)) (b_wkinit T) .nil pass0 (by rfl) T.g_WrongKind (pa_cons (pv 1) pa_nil)))) pss_nil)), ?_⟩
    rw [st_check_table_shades]
    walk_at "rd"
    rcases h with ⟨a, n, bs, rfl, h, q⟩ | ⟨h, q⟩
    · refine isi_tab T h ?_
      walk_at "rd"
      exact q
    · refine isi_notab h ?_
      walk_at "rd"
      simp only [rd_mkO]
      walk_at "rd"
      exact ⟨by simp, raise_wk q⟩
abbrev s_check_table_pairs : Stmt := top 40
abbrev N_check_table_pairs : List Str := ["value", "name"]
theorem sc_check_table_pairs : FnScope N_check_table_pairs ["value", "name"] (defScope s_check_table_pairs) := ⟨rfl, rfl, rfl, by decide +kernel, rfl, by decide +kernel, by decide +kernel⟩
theorem st_check_table_pairs {x0 x1 : V} : start N_check_table_pairs [x0, x1] = [some x0, some x1] := rfl

theorem b_check_table_pairs (T : Fx K mg) : L2.Binds K (fdOf K (T_check_table_pairs K)) ["value", "name"] [] := T.d_check_table_pairs.F.binds (ps := ["value", "name"]) fun _ _ _ _ _ _ us hl => match us, hl with | [_, _], _ => rfl
theorem ok_check_table_pairs (T : Fx K mg) : FnOk P w K mg base (L2.CX P w) 3 (T_check_table_pairs K) (fdOf K (T_check_table_pairs K)) ["value", "name"] (spCT K) := by
  refine T.d_check_table_pairs.F.okX sc_check_table_pairs (fun vs H Q E h => ?_) (fun cdv A outer s H vs Q E hr h => ?_)
  · obtain ⟨v, rfl, _⟩ := h
    rfl
  · obtain ⟨v, rfl, h⟩ := h
    refine ⟨_, (pss_one (ps_if (pt_not (pt_val (pe_callB (k_isi K) (by rfl) T.z_isinstance (by decide +kernel) (pa_cons (pv 0) (pa_cons (pe_glob (v := .ref (He.ga K "Table")) (by rfl) T.g_Table rfl) pa_nil))))) (pss_one (ps_raise rfl (takes_of rfl rfl rfl rfl) (pmk_oex (wk_oex T) (wk_init T) (wk_fn T) (ok_wkinit T) (hr.mono (by decide)) (b_wkinit T) .nil pass0 (by rfl) T.g_WrongKind (pa_cons (pv 1) pa_nil)))) pss_nil)), ?_⟩
    rw [st_check_table_pairs]
    walk_at "rd"
    rcases h with ⟨a, n, bs, rfl, h, q⟩ | ⟨h, q⟩
    · refine isi_tab T h ?_
      walk_at "rd"
      exact q
    · refine isi_notab h ?_
      walk_at "rd"
      simp only [rd_mkO]
      walk_at "rd"
      exact ⟨by simp, raise_wk q⟩
abbrev s_width_of_length : Stmt := top 34
abbrev N_width_of_length : List Str := ["length"]
theorem sc_width_of_length : FnScope N_width_of_length ["length"] (defScope s_width_of_length) := ⟨rfl, rfl, rfl, by decide +kernel, rfl, by decide +kernel, by decide +kernel⟩
theorem st_width_of_length {x0 : V} : start N_width_of_length [x0] = [some x0] := rfl

theorem b_width_of_length (T : Fx K mg) : L2.Binds K (fdOf K (T_width_of_length K)) ["length"] [] := T.d_width_of_length.F.binds (ps := ["length"]) fun _ _ _ _ _ _ us hl => match us, hl with | [_], _ => rfl
def sp_wol : Sp := fun vs H Q _ => ∃ n : Nat, vs = [.int ((2 ^ n : Nat) : Int)] ∧ Q (.int (n : Int)) H
omit [IsP P] in
theorem ok_width_of_length (T : Fx K mg) : FnOk P w K mg base CX0 1 (T_width_of_length K) (fdOf K (T_width_of_length K)) ["length"] sp_wol := by
  refine T.d_width_of_length.F.ok sc_width_of_length (fun vs H Q E h => ?_) (fun cdv A outer s H vs Q E hr h => ?_)
  · obtain ⟨v, rfl, _⟩ := h
    rfl
  · obtain ⟨n, rfl, q⟩ := h
    refine ⟨_, (pss_one (ps_ret (pe_op op_sub (pe_bits (pv 0)) pe_int))), ?_⟩
    rw [st_width_of_length]
    walk_at "rd"
    have hp := Nat.two_pow_pos n
    have e : (Builtin.Int.intBits ((2 ^ n : Nat) : Int) : Int) - 1 = (n : Int) := by
      unfold Builtin.Int.intBits
      rw [if_neg (by simp only [beq_iff_eq]; exact fun z => by have := Int.ofNat_inj.mp (show ((2 ^ n : Nat) : Int) = ((0 : Nat) : Int) from z); omega), Int.natAbs_natCast, Nat.log2_two_pow]
      omega
    rw [e]
    exact q
abbrev s_stepped : Stmt := top 35
abbrev N_stepped : List Str := ["row", "place", "gap", "made", "at"]
theorem sc_stepped : FnScope N_stepped ["row", "place"] (defScope s_stepped) := ⟨rfl, rfl, rfl, by decide +kernel, rfl, by decide +kernel, by decide +kernel⟩
theorem st_stepped {x0 x1 : V} : start N_stepped [x0, x1] = [some x0, some x1, none, none, none] := rfl

theorem b_stepped (T : Fx K mg) : L2.Binds K (fdOf K (T_stepped K)) ["row", "place"] [] := T.d_stepped.F.binds (ps := ["row", "place"]) fun _ _ _ _ _ _ us hl => match us, hl with | [_, _], _ => rfl
def sp_st (K : PySem.W.Frag) : Sp := fun vs H Q _ => ∃ (a : Addr) (row : List Int) (n p : Nat), vs = [.ref a, .int (p : Int)] ∧ H a = some (.lst (row.map V.int)) ∧ row.length = 2 ^ n ∧ n ≤ 6 ∧ p < n ∧ RetL ((steppedL row p).map V.int) H Q
omit [IsP P] in
theorem ok_stepped (T : Fx K mg) : FnOk P w K mg base CX0 1 (T_stepped K) (fdOf K (T_stepped K)) ["row", "place"] (sp_st K) := by
  refine T.d_stepped.F.ok sc_stepped (fun vs H Q E h => ?_) (fun cdv A outer s H vs Q E hr h => ?_)
  · obtain ⟨a, row, n, p, rfl, _⟩ := h
    rfl
  · obtain ⟨a, row, n, p, rfl, ha, hl, hn, hp, q⟩ := h
    refine ⟨_, (pss_cons (ps_set (i := 2) sc_stepped.nd rfl (by first | exact Or.inl rfl | exact Or.inr rfl) (pe_op op_shl1 pe_int (pv 1)))
      (pss_cons (ps_set (i := 3) sc_stepped.nd rfl (by first | exact Or.inl rfl | exact Or.inr rfl) (pe_lst pa_nil))
      (pss_cons (ps_for PassesOwn.never (by rfl) (pi_range1 (by rfl) T.z_range (pa_cons (pe_callB (k_len K) (by rfl) T.z_len (by decide +kernel) (pa_cons (pv 0) pa_nil)) pa_nil)) (pg_name (i := 4) sc_stepped.nd rfl (by first | exact Or.inl rfl | exact Or.inr rfl)) (pss_one (ps_if (pt_truth (pe_op op_andNN (pv 4) (pv 2)) (by intro _; rfl)) (pss_one (ps_expr (pe_bm PySem.F.plainAttrs_list PySem.F.slot_list_append PySem.F.type_list_append mt_append (pv 3) (pa_cons (pe_op op_sub (pe_ix (k_ixL K) (pv 0) (pe_op op_xorNN (pv 4) (pv 2)) (fun _ _ => rfl)) (pe_ix (k_ixL K) (pv 0) (pv 4) (fun _ _ => rfl))) pa_nil)))) (pss_one (ps_expr (pe_bm PySem.F.plainAttrs_list PySem.F.slot_list_append PySem.F.type_list_append mt_append (pv 3) (pa_cons (pe_op op_add (pe_ix (k_ixL K) (pv 0) (pv 4) (fun _ _ => rfl)) (pe_ix (k_ixL K) (pv 0) (pe_op op_orNN (pv 4) (pv 2)) (fun _ _ => rfl))) pa_nil)))))))
      (pss_one (ps_ret (pv 3)))))), ?_⟩
    rw [st_stepped]
    walk_at "rd"
    have h64 : 2 ^ n ≤ 64 := Nat.pow_le_pow_right (n := 2) (by decide) hn
    have hpn : 2 ^ p < 2 ^ n := Nat.pow_lt_pow_right (by decide) hp
    refine ⟨by omega, by simp, fun o ho => ?_⟩
    refine ⟨_, .inl (sq_of (Ex.new ho _ _ ha)), by omega, by rw [List.length_map, hl]; omega, ?_⟩
    rw [List.length_map, hl, Int.toNat_natCast]
    refine loop_range (fun i σ H' => Ex H H' ∧ H' o = some (.lst (((steppedL row p).take i).map V.int)) ∧ ∃ v, σ = [some (.ref a), some (.int (p : Int)), some (.int ((2 ^ p : Nat) : Int)), some (.ref o), v]) ⟨Ex.new ho, upd_same, none, rfl⟩ ?_ ?_
    · rintro i σ H' hi ⟨e, eo, v, rfl⟩
      have hx : H' a = some (.lst (row.map V.int)) := e _ _ ha
      have hs : (steppedL row p)[i]? = some (if i &&& 2 ^ p ≠ 0 then row.getD (i ^^^ 2 ^ p) 0 - row.getD i 0 else row.getD i 0 + row.getD (i ||| 2 ^ p) 0) := by
        unfold steppedL
        exact get_range _ (by omega)
      have ai : ∀ j, j < 2 ^ n → atI (row.map V.int) ((j : Nat) : Int) = some (.int (row.getD j 0)) := fun j hj => atN (by omega)
      have end_ : ∀ y : Int, (steppedL row p)[i]? = some y → Ex H (upd H' o (.lst (((steppedL row p).take i).map V.int ++ [.int y]))) ∧ (upd H' o (.lst (((steppedL row p).take i).map V.int ++ [.int y]))) o = some (.lst (((steppedL row p).take (i + 1)).map V.int)) := fun y hy => by
        refine ⟨Ex.mut e ho, ?_⟩
        rw [upd_same, List.take_add_one, hy, List.map_append]
        rfl
      walk_at "rd"
      have tz : ty_list (K := K) eo = ty_list eo := rfl
      have hb : ((i &&& 2 ^ p : Nat) : Int) != 0 ↔ i &&& 2 ^ p ≠ 0 := by
        rw [bne_iff_ne]
        exact ⟨fun h z => h (by rw [z]; rfl), fun h z => h (Int.ofNat_inj.mp z)⟩
      have sz : ((steppedL row p).take i |>.map V.int).length < sizeLine := by
        rw [List.length_map, List.length_take]
        exact sz_lt (by omega)
      by_cases c : i &&& 2 ^ p ≠ 0
      · rw [if_pos c] at hs
        rw [if_pos (hb.mpr c)]
        refine ⟨ty_list eo, _, _, sq_of hx, ai _ (xor_lt hi hpn), _, _, sq_of hx, ai _ hi, _, rfl, _, rfl, _, eo, sz, ?_⟩
        exact end_ _ hs
      · rw [if_neg c] at hs
        rw [if_neg (fun z => c (hb.mp z))]
        have ho' : i ||| 2 ^ p < 2 ^ n := Nat.or_lt_two_pow hi hpn
        refine ⟨ty_list eo, _, _, sq_of hx, ai _ hi, _, _, sq_of hx, ai _ ho', _, rfl, _, rfl, _, eo, sz, ?_⟩
        exact end_ _ hs
    · rintro σ H' ⟨e, eo, v, rfl⟩
      walk_at "rd"
      rw [List.take_of_length_le (by rw [steppedL_len]; omega)] at eo
      exact q o H' ho e eo
abbrev s_all_steps : Stmt := top 36
abbrev N_all_steps : List Str := ["row", "made", "place"]
theorem sc_all_steps : FnScope N_all_steps ["row"] (defScope s_all_steps) := ⟨rfl, rfl, rfl, by decide +kernel, rfl, by decide +kernel, by decide +kernel⟩
theorem st_all_steps {x0 : V} : start N_all_steps [x0] = [some x0, none, none] := rfl

theorem b_all_steps (T : Fx K mg) : L2.Binds K (fdOf K (T_all_steps K)) ["row"] [] := T.d_all_steps.F.binds (ps := ["row"]) fun _ _ _ _ _ _ us hl => match us, hl with | [_], _ => rfl
def sp_as (K : PySem.W.Frag) : Sp := fun vs H Q _ => ∃ (a : Addr) (row : List Int) (n : Nat), vs = [.ref a] ∧ H a = some (.lst (row.map V.int)) ∧ row.length = 2 ^ n ∧ n ≤ 6 ∧ RetL ((allStepsL n row).map V.int) H Q
theorem foldl_len (row : List Int) : ∀ m, ((List.range m).foldl steppedL row).length = row.length
  | 0 => rfl
  | m + 1 => by rw [List.range_succ, List.foldl_append]; show (steppedL _ m).length = _; rw [steppedL_len, foldl_len row m]
omit [IsP P] in
theorem ok_all_steps (T : Fx K mg) : FnOk P w K mg base CX0 2 (T_all_steps K) (fdOf K (T_all_steps K)) ["row"] (sp_as K) := by
  refine T.d_all_steps.F.ok sc_all_steps (fun vs H Q E h => ?_) (fun cdv A outer s H vs Q E hr h => ?_)
  · obtain ⟨a, row, n, rfl, _⟩ := h
    rfl
  · obtain ⟨a, row, n, rfl, ha, hl, hn, q⟩ := h
    refine ⟨_, (pss_cons (ps_set (i := 1) sc_all_steps.nd rfl (by first | exact Or.inl rfl | exact Or.inr rfl) (pe_callTy (k_list K) (by rfl) T.z_list (by decide +kernel) (pa_cons (pv 0) pa_nil)))
      (pss_cons (ps_for PassesOwn.never (by rfl) (pi_range1 (by rfl) T.z_range (pa_cons (pe_call (ok_width_of_length T) (hr.mono (by decide)) (by rfl) T.d_width_of_length.gl T.d_width_of_length.F.kp (b_width_of_length T) .nil pass0 (pa_cons (pe_callB (k_len K) (by rfl) T.z_len (by decide +kernel) (pa_cons (pv 0) pa_nil)) pa_nil)) pa_nil)) (pg_name (i := 2) sc_all_steps.nd rfl (by first | exact Or.inl rfl | exact Or.inr rfl)) (pss_one (ps_set (i := 1) sc_all_steps.nd rfl (by first | exact Or.inl rfl | exact Or.inr rfl) (pe_call (ok_stepped T) (hr.mono (by decide)) (by rfl) T.d_stepped.gl T.d_stepped.F.kp (b_stepped T) .nil pass0 (pa_cons (pv 1) (pa_cons (pv 2) pa_nil))))))
      (pss_one (ps_ret (pv 1))))), ?_⟩
    rw [st_all_steps]
    walk_at "rd"
    refine ⟨_, .inl (sq_of ha), fun o ho => ?_⟩
    walk_at "rd"
    refine ⟨_, .inl (sq_of (Ex.new ho _ _ ha)), ?_⟩
    walk_at "rd"
    rw [List.length_map, hl]
    refine ⟨n, rfl, ?_⟩
    walk_at "rd"
    refine ⟨by omega, by omega, ?_⟩
    rw [Int.toNat_natCast]
    refine loop_range (fun i σ H' => Ex H H' ∧ ∃ (m : Addr) (v : Option V), σ = [some (.ref a), some (.ref m), v] ∧ H m = none ∧ H' m = some (.lst (((List.range i).foldl steppedL row).map V.int))) ⟨Ex.new ho, o, none, rfl, ho, upd_same⟩ ?_ ?_
    · rintro i σ H' hi ⟨e, m, v, rfl, hm, em⟩
      walk_at "rd"
      refine ⟨m, _, n, i, rfl, em, by rw [foldl_len, hl], hn, hi, fun p H2 hp e2 h2 => ?_⟩
      refine ⟨e.trans e2, p, _, ⟨rfl, rfl⟩, fresh_back e hp, ?_⟩
      rw [h2, List.range_succ, List.foldl_append]
      rfl
    · rintro σ H' ⟨e, m, v, rfl, hm, em⟩
      walk_at "rd"
      exact q m H' hm e em
abbrev s_scores : Stmt := top 37
abbrev N_scores : List Str := ["table"]
theorem sc_scores : FnScope N_scores ["table"] (defScope s_scores) := ⟨rfl, rfl, rfl, by decide +kernel, rfl, by decide +kernel, by decide +kernel⟩
theorem st_scores {x0 : V} : start N_scores [x0] = [some x0] := rfl

theorem b_scores (T : Fx K mg) : L2.Binds K (fdOf K (T_scores K)) ["table"] [] := T.d_scores.F.binds (ps := ["table"]) fun _ _ _ _ _ _ us hl => match us, hl with | [_], _ => rfl
def scL (n : Nat) (bs : List Int) : List Int := (List.range (2 ^ n)).map (score n (bf bs))
theorem sc_eq {n : Nat} {bs : List Int} (h : TBits n bs) : allStepsL n (sgL bs) = scL n bs := by
  unfold sgL
  rw [h.len]
  exact allStepsL_eq n (sg (bf bs))
theorem ok_scores (T : Fx K mg) : FnOk P w K mg base (L2.CX P w) 4 (T_scores K) (fdOf K (T_scores K)) ["table"] (spTab K fun n bs H Q => RetL ((scL n bs).map V.int) H Q) := by
  refine T.d_scores.F.okX sc_scores (fun vs H Q E h => ?_) (fun cdv A outer s H vs Q E hr h => ?_)
  · obtain ⟨v, rfl, _⟩ := h
    rfl
  · obtain ⟨v, rfl, h⟩ := h
    refine ⟨_, (pss_cons (ps_expr (pe_call (ok_check_table_shades T) (hr.mono (by decide)) (by rfl) T.d_check_table_shades.gl T.d_check_table_shades.F.kp (b_check_table_shades T) .nil (passes_call (takes_of rfl rfl rfl rfl) (fun _ _ _ _ h => h)) (pa_cons (pv 0) (pa_cons pe_str pa_nil))))
      (pss_one (ps_ret (pe_call (ok_all_steps T) (hr.mono (by decide)) (by rfl) T.d_all_steps.gl T.d_all_steps.F.kp (b_all_steps T) .nil pass0 (pa_cons (pe_meth0 (pv 0) T.tab.cls T.tab.m_signs (ok_tsigns T) (hr.mono (by decide)) (b_tsigns T) .nil pass0) pa_nil))))), ?_⟩
    rw [st_scores]
    walk_at "rd"
    refine ⟨_, rfl, ?_⟩
    rcases h with ⟨a, n, bs, rfl, h, q⟩ | ⟨h, q⟩
    · refine .inl ⟨a, n, bs, rfl, h, ?_⟩
      obtain ⟨dx, t, h1, h2, h3⟩ := id h
      walk_at "rd"
      refine ⟨_, _, h1, rfl, a, n, bs, rfl, h, fun p H2 hp e2 e3 => ?_⟩
      walk_at "rd"
      refine ⟨p, sgL bs, n, rfl, e3, by unfold sgL; rw [List.length_map, List.length_range, h3.len], h3.wide, ?_⟩
      rw [sc_eq h3]
      exact fun p' H' hp' e' => q p' H' (fresh_back e2 hp') (e2.trans e')
    · exact .inr ⟨h, q⟩
abbrev s_shades : Stmt := top 38
abbrev N_shades : List Str := ["table", "found", "top"]
theorem sc_shades : FnScope N_shades ["table"] (defScope s_shades) := ⟨rfl, rfl, rfl, by decide +kernel, rfl, by decide +kernel, by decide +kernel⟩
theorem st_shades {x0 : V} : start N_shades [x0] = [some x0, none, none] := rfl

theorem b_shades (T : Fx K mg) : L2.Binds K (fdOf K (T_shades K)) ["table"] [] := T.d_shades.F.binds (ps := ["table"]) fun _ _ _ _ _ _ us hl => match us, hl with | [_], _ => rfl
/-- the shades: tuples of two ints -/
def shO (n : Nat) (bs : List Int) (S : Nat) : HO := .tup [.int (lowT (score n (bf bs) S) (2 ^ n : Nat)), .int (lowB (score n (bf bs) S) (2 ^ n : Nat))]
theorem ok_shades (T : Fx K mg) : FnOk P w K mg base (L2.CX P w) 5 (T_shades K) (fdOf K (T_shades K)) ["table"] (spTab K fun n bs H Q => RetRefs (shO n bs) (2 ^ n) H Q) := by
  refine T.d_shades.F.okX sc_shades (fun vs H Q E h => ?_) (fun cdv A outer s H vs Q E hr h => ?_)
  · obtain ⟨v, rfl, _⟩ := h
    rfl
  · obtain ⟨v, rfl, h⟩ := h
    refine ⟨_, (pss_cons (ps_set (i := 1) sc_shades.nd rfl (by first | exact Or.inl rfl | exact Or.inr rfl) (pe_call (ok_scores T) (hr.mono (by decide)) (by rfl) T.d_scores.gl T.d_scores.F.kp (b_scores T) .nil (passes_call (takes_of rfl rfl rfl rfl) (fun _ _ _ _ h => h)) (pa_cons (pv 0) pa_nil)))
      (pss_one (ps_ret (pe_lc (own := [("top", 2)]) (g := gName 2) (tt := tYes) (by rfl) sc_shades.nd (ki_list K (pv 1)) (blkOk_by (own := [("top", 2)]) (N := N_shades) (sc := defScope s_shades) (by decide +kernel)) (fun _ _ _ _ _ => (pg_name (i := 2) sc_shades.nd rfl (by first | exact Or.inl rfl | exact Or.inr rfl))) (fun _ _ _ _ _ => pts_nil) (fun _ _ _ _ _ => (pe_call (ok_ratio T) (hr.mono (by decide)) (by rfl) T.d_ratio.gl T.d_ratio.F.kp (b_ratio T) .nil pass0 (pa_cons (pv 2) (pa_cons (pe_callB (k_len K) (by rfl) T.z_len (by decide +kernel) (pa_cons (pv 1) pa_nil)) pa_nil)))))))), ?_⟩
    rw [st_shades]
    walk_at "rd"
    refine ⟨_, rfl, ?_⟩
    rcases h with ⟨a, n, bs, rfl, h, q⟩ | ⟨h, q⟩
    · refine .inl ⟨a, n, bs, rfl, h, fun p H2 hp e2 e3 => ?_⟩
      walk_at "rd"
      obtain ⟨_, _, _, _, h3⟩ := id h
      have hs := h3.small
      have hl : ((scL n bs).map V.int).length = 2 ^ n := by
        unfold scL
        rw [List.length_map, List.length_map, List.length_range]
      refine ⟨⟨_, sq_of e3⟩, lcl_listN (shO n bs) (sq_of e3) (by omega) (fun i x H' hi e R k => ⟨rfl, ?_⟩) (by rw [hl]; exact q.go e2)⟩
      have hi2 : i < 2 ^ n := by
        have := (List.getElem?_eq_some_iff.mp hi).1
        omega
      have ex : x = .int (score n (bf bs) i) := by
        unfold scL at hi
        rw [List.map_map, get_range _ hi2] at hi
        exact (Option.some.inj hi).symm
      subst ex
      walk_at "rd"
      refine ⟨_, .inl (sq_of (e _ _ e3)), _, _, rfl, ?_, fun p' H'' hp' e' h' => ?_⟩
      · rw [hl]
        have hp2 := Nat.two_pow_pos n
        omega
      · rw [hl] at h'
        exact k p' H'' hp' e' h'
    · exact .inr ⟨h, q⟩
end
end Bs
/-! Walk 4: pairs, mending, nearest. -/
namespace Bs
open PySem PySem.Spec PyProof.Rows L2 Evl
local macro_rules | `(tactic| walk_at "rd") => `(tactic| try simp only [rd_var, rd_c, rd_op, rd_un, rd_I, rd_I0, rd_U, rd_NN, rd_shr, rd_shl1, rd_XB, rd_eq, rd_ne, scal_int, rd_B, rd_test, rd_and, rd_or, rd_not, rd_andV, rd_orV, rd_notV, rd_if, rd_nil, rd_cons, rd_tup, rd_lst, rd_call, rd_CB, rd_prop, rd_meth, rd_fld, rd_make, rd_sl, rd_noPart, rd_part, rd_bm0, rd_bm, rd_bits, rd_ixL, rd_ixT, rd_append, rd_addN, rd_dbl, rd_half, rd_int, rd_intB, rd_bit1, rd_popAt, rd_slL, rd_sortedI, rd_lstRg, rd_rg1, tru_int, rd_len, rd_listS, rd_tupS, rd_sum, rd_min, rd_iEnum, rd_yes, rd_asg, rd_name, rd_gnil, rd_gcons1, rd_two, rd_gtup, rd_gsub, rd_setL, rd_seq, rd_next, rd_break, rd_never, rd_drop, rd_ret, rd_retN, rd_ifS, rd_par, rd_aug, rd_sFld, rd_for, rd_iList, rd_iTup, rd_iRng1, rd_lc, vint, vbl, vref, natc, cx_K, cx_noxK, List.getElem?_cons_zero, List.getElem?_cons_succ, Option.some.injEq, exists_eq_left, exists_eq_left', exists_eq_right, exists_eq_right', true_and, and_true, List.cons.injEq, List.cons_append, List.nil_append, List.append_nil, List.set_cons_zero, List.set_cons_succ, Bool.not_true, Bool.not_false, decide_eq_true_eq, if_true, if_false, Bool.false_eq_true, reduceIte, and_self, Int.zero_add, exists_eq, exists_eq', wipe, List.map_cons, List.map_nil])
section
variable {P : Program} [IsP P] {w : World} {K : PySem.W.Frag} {mg : Str → Option Value} {base : Heap}
theorem atT {n : Nat} {bs : List Int} (h : TBits n bs) {i : Nat} (hi : i < 2 ^ n) : atI (bs.map V.int) (i : Int) = some (.int (bf bs i)) := atN (by rw [h.len]; exact hi)
abbrev s_broken_bit : Stmt := top 42
abbrev N_broken_bit : List Str := ["bits", "one", "two"]
theorem sc_broken_bit : FnScope N_broken_bit ["bits", "one", "two"] (defScope s_broken_bit) := ⟨rfl, rfl, rfl, by decide +kernel, rfl, by decide +kernel, by decide +kernel⟩
theorem st_broken_bit {x0 x1 x2 : V} : start N_broken_bit [x0, x1, x2] = [some x0, some x1, some x2] := rfl

theorem b_broken_bit (T : Fx K mg) : L2.Binds K (fdOf K (T_broken_bit K)) ["bits", "one", "two"] [] := T.d_broken_bit.F.binds (ps := ["bits", "one", "two"]) fun _ _ _ _ _ _ us hl => match us, hl with | [_, _, _], _ => rfl
def brk (bs : List Int) (x y : Nat) : Int := xb (xb (bf bs x) (bf bs y)) (bf bs (x ^^^ y))
def sp_bb (K : PySem.W.Frag) : Sp := fun vs H Q _ => ∃ (t : Addr) (bs : List Int) (n x y : Nat), vs = [.ref t, .int (x : Int), .int (y : Int)] ∧ H t = some (.tup (bs.map V.int)) ∧ TBits n bs ∧ x < 2 ^ n ∧ y < 2 ^ n ∧ Q (.int (brk bs x y)) H
omit [IsP P] in
theorem ok_broken_bit (T : Fx K mg) : FnOk P w K mg base CX0 1 (T_broken_bit K) (fdOf K (T_broken_bit K)) ["bits", "one", "two"] (sp_bb K) := by
  refine T.d_broken_bit.F.ok sc_broken_bit (fun vs H Q E h => ?_) (fun cdv A outer s H vs Q E hr h => ?_)
  · obtain ⟨t, bs, n, x, y, rfl, _⟩ := h
    rfl
  · obtain ⟨t, bs, n, x, y, rfl, ht, hb, hx, hy, q⟩ := h
    refine ⟨_, (pss_one (ps_ret (pe_op op_xorB (pe_op op_xorB (pe_ix (k_ixT K) (pv 0) (pv 1) (fun _ _ => rfl)) (pe_ix (k_ixT K) (pv 0) (pv 2) (fun _ _ => rfl))) (pe_ix (k_ixT K) (pv 0) (pe_op op_xorNN (pv 1) (pv 2)) (fun _ _ => rfl))))), ?_⟩
    rw [st_broken_bit]
    walk_at "rd"
    refine ⟨_, _, st_of ht, atT hb hx, _, _, st_of ht, atT hb hy, _, rfl, _, rfl, hb.at x, hb.at y, _, _, st_of ht, atT hb (xor_lt hx hy), ?_⟩
    walk_at "rd"
    exact ⟨xb_bit (hb.at x) (hb.at y), hb.at _, q⟩
abbrev s_broken_bits : Stmt := top 43
abbrev N_broken_bits : List Str := ["bits", "one", "members", "two"]
theorem sc_broken_bits : FnScope N_broken_bits ["bits", "one", "members"] (defScope s_broken_bits) := ⟨rfl, rfl, rfl, by decide +kernel, rfl, by decide +kernel, by decide +kernel⟩
theorem st_broken_bits {x0 x1 x2 : V} : start N_broken_bits [x0, x1, x2] = [some x0, some x1, some x2, none] := rfl

theorem b_broken_bits (T : Fx K mg) : L2.Binds K (fdOf K (T_broken_bits K)) ["bits", "one", "members"] [] := T.d_broken_bits.F.binds (ps := ["bits", "one", "members"]) fun _ _ _ _ _ _ us hl => match us, hl with | [_, _, _], _ => rfl
def wordsL (n : Nat) : List V := (List.range (2 ^ n)).map fun (i : Nat) => V.int (i : Int)
def sp_bbs (K : PySem.W.Frag) : Sp := fun vs H Q _ => ∃ (t m : Addr) (bs : List Int) (n x : Nat), vs = [.ref t, .int (x : Int), .ref m] ∧ H t = some (.tup (bs.map V.int)) ∧ TBits n bs ∧ x < 2 ^ n ∧ H m = some (.lst (wordsL n)) ∧
  RetL (((List.range (2 ^ n)).map fun y => brk bs x y).map V.int) H Q
theorem words_at {n i : Nat} {x : V} (h : (wordsL n)[i]? = some x) : i < 2 ^ n ∧ x = .int (i : Int) := by
  have hi := (List.getElem?_eq_some_iff.mp h).1
  have hi2 : i < 2 ^ n := by
    unfold wordsL at hi
    rw [List.length_map, List.length_range] at hi
    exact hi
  refine ⟨hi2, ?_⟩
  unfold wordsL at h
  rw [get_range _ hi2] at h
  exact (Option.some.inj h).symm
theorem words_len (n : Nat) : (wordsL n).length = 2 ^ n := by
  unfold wordsL
  rw [List.length_map, List.length_range]
omit [IsP P] in
theorem ok_broken_bits (T : Fx K mg) : FnOk P w K mg base CX0 2 (T_broken_bits K) (fdOf K (T_broken_bits K)) ["bits", "one", "members"] (sp_bbs K) := by
  refine T.d_broken_bits.F.ok sc_broken_bits (fun vs H Q E h => ?_) (fun cdv A outer s H vs Q E hr h => ?_)
  · obtain ⟨t, m, bs, n, x, rfl, _⟩ := h
    rfl
  · obtain ⟨t, m, bs, n, x, rfl, ht, hb, hx, hm, q⟩ := h
    refine ⟨_, (pss_one (ps_ret (pe_lc (own := [("two", 3)]) (g := gName 3) (tt := tYes) (by rfl) sc_broken_bits.nd (ki_list K (pv 2)) (blkOk_by (own := [("two", 3)]) (N := N_broken_bits) (sc := defScope s_broken_bits) (by decide +kernel)) (fun _ _ _ _ _ => (pg_name (i := 3) sc_broken_bits.nd rfl (by first | exact Or.inl rfl | exact Or.inr rfl))) (fun _ _ _ _ _ => pts_nil) (fun _ _ _ _ _ => (pe_call (ok_broken_bit T) (hr.mono (by decide)) (by rfl) T.d_broken_bit.gl T.d_broken_bit.F.kp (b_broken_bit T) .nil pass0 (pa_cons (pv 0) (pa_cons (pv 1) (pa_cons (pv 3) pa_nil)))))))), ?_⟩
    rw [st_broken_bits]
    walk_at "rd"
    have hs := hb.small
    refine ⟨⟨_, sq_of hm⟩, lcl_list (fun y => .int (brk bs x y)) (sq_of hm) (by rw [words_len]; omega) (fun i v hi H' e R k => ⟨rfl, ?_⟩) ?_⟩
    · obtain ⟨hi2, rfl⟩ := words_at hi
      walk_at "rd"
      exact ⟨t, bs, n, x, i, ⟨rfl, rfl, rfl⟩, e _ _ ht, hb, hx, hi2, k H' (Ex.refl _)⟩
    · rw [words_len, List.map_map] at *
      exact q
abbrev s_breaking_row : Stmt := top 44
abbrev N_breaking_row : List Str := ["table", "bits", "members", "one"]
theorem sc_breaking_row : FnScope N_breaking_row ["table"] (defScope s_breaking_row) := ⟨rfl, rfl, rfl, by decide +kernel, rfl, by decide +kernel, by decide +kernel⟩
theorem st_breaking_row {x0 : V} : start N_breaking_row [x0] = [some x0, none, none, none] := rfl

theorem b_breaking_row (T : Fx K mg) : L2.Binds K (fdOf K (T_breaking_row K)) ["table"] [] := T.d_breaking_row.F.binds (ps := ["table"]) fun _ _ _ _ _ _ us hl => match us, hl with | [_], _ => rfl
theorem rg_words (n : Nat) : rgV 0 ((2 ^ n : Nat) : Int) = wordsL n := by
  unfold rgV wordsL
  rw [Int.sub_zero, Int.toNat_natCast]
  refine List.map_congr_left fun i _ => ?_
  rw [Int.zero_add]
def brow (n : Nat) (bs : List Int) : List Int := (List.range (2 ^ n)).map fun x => Sm (2 ^ n) fun y => brk bs x y
theorem ok_breaking_row (T : Fx K mg) : FnOk P w K mg base (L2.CX P w) 4 (T_breaking_row K) (fdOf K (T_breaking_row K)) ["table"] (spTab K fun n bs H Q => RetL ((brow n bs).map V.int) H Q) := by
  refine T.d_breaking_row.F.okX sc_breaking_row (fun vs H Q E h => ?_) (fun cdv A outer s H vs Q E hr h => ?_)
  · obtain ⟨v, rfl, _⟩ := h
    rfl
  · obtain ⟨v, rfl, h⟩ := h
    refine ⟨_, (pss_cons (ps_expr (pe_call (ok_check_table_pairs T) (hr.mono (by decide)) (by rfl) T.d_check_table_pairs.gl T.d_check_table_pairs.F.kp (b_check_table_pairs T) .nil (passes_call (takes_of rfl rfl rfl rfl) (fun _ _ _ _ h => h)) (pa_cons (pv 0) (pa_cons pe_str pa_nil))))
      (pss_cons (ps_set (i := 1) sc_breaking_row.nd rfl (by first | exact Or.inl rfl | exact Or.inr rfl) (pe_prop (pv 0) T.tab.cls T.tab.p_bits (ok_tbits T) (hr.mono (by decide)) (b_tbits T) .nil pass0 rfl))
      (pss_cons (ps_set (i := 2) sc_breaking_row.nd rfl (by first | exact Or.inl rfl | exact Or.inr rfl) (pe_listRg (by rfl) (by rfl) T.z_list (prg_1 (by rfl) T.z_range (pe_op op_shl1 pe_int (pe_prop (pv 0) T.tab.cls T.tab.p_width (ok_twidth T) (hr.mono (by decide)) (b_twidth T) .nil pass0 rfl)))))
      (pss_one (ps_ret (pe_lc (own := [("one", 3)]) (g := gName 3) (tt := tYes) (by rfl) sc_breaking_row.nd (ki_list K (pv 2)) (blkOk_by (own := [("one", 3)]) (N := N_breaking_row) (sc := defScope s_breaking_row) (by decide +kernel)) (fun _ _ _ _ _ => (pg_name (i := 3) sc_breaking_row.nd rfl (by first | exact Or.inl rfl | exact Or.inr rfl))) (fun _ _ _ _ _ => pts_nil) (fun _ _ _ _ _ => (pe_callB (k_sum K) (by rfl) T.z_sum (by decide +kernel) (pa_cons (pe_call (ok_broken_bits T) (hr.mono (by decide)) (by rfl) T.d_broken_bits.gl T.d_broken_bits.F.kp (b_broken_bits T) .nil pass0 (pa_cons (pv 1) (pa_cons (pv 3) (pa_cons (pv 2) pa_nil)))) pa_nil))))))))), ?_⟩
    rw [st_breaking_row]
    walk_at "rd"
    refine ⟨_, rfl, ?_⟩
    rcases h with ⟨a, n, bs, rfl, h, q⟩ | ⟨h, q⟩
    · refine .inl ⟨a, n, bs, rfl, h, ?_⟩
      obtain ⟨dx, t, h1, h2, h3⟩ := id h
      have hs := h3.small
      have hw := h3.wide
      walk_at "rd"
      refine ⟨_, _, h1, a, n, bs, rfl, h, fun t' ht' => ?_⟩
      walk_at "rd"
      refine ⟨_, _, h1, a, n, bs, rfl, h, ?_⟩
      walk_at "rd"
      refine ⟨by omega, RgOk.of_le (by omega) (Int.le_trans (Int.ofNat_le.mpr hs) (by decide)) (by omega) (Int.natCast_nonneg _), fun m hm => ?_⟩
      rw [rg_words]
      walk_at "rd"
      refine ⟨⟨_, sq_of upd_same⟩, lcl_list (fun x => .int (Sm (2 ^ n) fun y => brk bs x y)) (sq_of upd_same) (by rw [words_len]; omega) (fun i v hi H' e R k => ⟨rfl, ?_⟩) ?_⟩
      · obtain ⟨hi2, rfl⟩ := words_at hi
        walk_at "rd"
        refine ⟨t', m, bs, n, i, ⟨rfl, rfl, rfl⟩, e _ _ (Ex.new hm _ _ ht'), h3, hi2, e _ _ upd_same, fun p H2 hp e2 h2 => ?_⟩
        walk_at "rd"
        exact ⟨_, sq_of h2, k H2 e2⟩
      · rw [words_len]
        have e : ((List.range (2 ^ n)).map fun x => V.int (Sm (2 ^ n) fun y => brk bs x y)) = (brow n bs).map V.int := by
          unfold brow
          rw [List.map_map]
          rfl
        rw [e]
        exact fun p H2 hp e2 h2 => q p H2 (fresh_back (Ex.new hm) hp) ((Ex.new hm).trans e2) h2
    · exact .inr ⟨h, q⟩
abbrev s_breaking_count : Stmt := top 45
abbrev N_breaking_count : List Str := ["table"]
theorem sc_breaking_count : FnScope N_breaking_count ["table"] (defScope s_breaking_count) := ⟨rfl, rfl, rfl, by decide +kernel, rfl, by decide +kernel, by decide +kernel⟩
theorem st_breaking_count {x0 : V} : start N_breaking_count [x0] = [some x0] := rfl

theorem b_breaking_count (T : Fx K mg) : L2.Binds K (fdOf K (T_breaking_count K)) ["table"] [] := T.d_breaking_count.F.binds (ps := ["table"]) fun _ _ _ _ _ _ us hl => match us, hl with | [_], _ => rfl
theorem brow_sum (n : Nat) (bs : List Int) : (brow n bs).sum = broken n (bf bs) := rfl
theorem ok_breaking_count (T : Fx K mg) : FnOk P w K mg base (L2.CX P w) 5 (T_breaking_count K) (fdOf K (T_breaking_count K)) ["table"] (spTab K fun n bs H Q => RetV (.int (broken n (bf bs))) H Q) := by
  refine T.d_breaking_count.F.okX sc_breaking_count (fun vs H Q E h => ?_) (fun cdv A outer s H vs Q E hr h => ?_)
  · obtain ⟨v, rfl, _⟩ := h
    rfl
  · obtain ⟨v, rfl, h⟩ := h
    refine ⟨_, (pss_one (ps_ret (pe_callB (k_sum K) (by rfl) T.z_sum (by decide +kernel) (pa_cons (pe_call (ok_breaking_row T) (hr.mono (by decide)) (by rfl) T.d_breaking_row.gl T.d_breaking_row.F.kp (b_breaking_row T) .nil (passes_call (takes_of rfl rfl rfl rfl) (fun _ _ _ _ h => h)) (pa_cons (pv 0) pa_nil)) pa_nil)))), ?_⟩
    rw [st_breaking_count]
    walk_at "rd"
    refine ⟨_, rfl, ?_⟩
    rcases h with ⟨a, n, bs, rfl, h, q⟩ | ⟨h, q⟩
    · refine .inl ⟨a, n, bs, rfl, h, fun p H2 hp e2 h2 => ?_⟩
      walk_at "rd"
      exact ⟨_, sq_of h2, q H2 e2⟩
    · exact .inr ⟨h, q⟩
abbrev s_breaking_share : Stmt := top 46
abbrev N_breaking_share : List Str := ["table", "count"]
theorem sc_breaking_share : FnScope N_breaking_share ["table"] (defScope s_breaking_share) := ⟨rfl, rfl, rfl, by decide +kernel, rfl, by decide +kernel, by decide +kernel⟩
theorem st_breaking_share {x0 : V} : start N_breaking_share [x0] = [some x0, none] := rfl

theorem b_breaking_share (T : Fx K mg) : L2.Binds K (fdOf K (T_breaking_share K)) ["table"] [] := T.d_breaking_share.F.binds (ps := ["table"]) fun _ _ _ _ _ _ us hl => match us, hl with | [_], _ => rfl
def bsU (n : Nat) (bs : List Int) : List V := [.int (lowT (broken n (bf bs)) (2 ^ (2 * n) : Nat)), .int (lowB (broken n (bf bs)) (2 ^ (2 * n) : Nat))]
theorem pow_bounds {n : Nat} (h : n ≤ 6) : 0 < ((2 ^ n : Nat) : Int) ∧ ((2 ^ n : Nat) : Int) < 2 ^ 30 ∧ 0 < ((2 ^ (2 * n) : Nat) : Int) ∧ ((2 ^ (2 * n) : Nat) : Int) < 2 ^ 30 := by
  have h1 := Nat.two_pow_pos n
  have h2 := Nat.two_pow_pos (2 * n)
  have h3 : 2 ^ n ≤ 2 ^ 6 := Nat.pow_le_pow_right (by decide) h
  have h4 : 2 ^ (2 * n) ≤ 2 ^ 12 := Nat.pow_le_pow_right (by decide) (by omega)
  omega
theorem ok_breaking_share (T : Fx K mg) : FnOk P w K mg base (L2.CX P w) 6 (T_breaking_share K) (fdOf K (T_breaking_share K)) ["table"] (spTab K fun n bs H Q => RetU (bsU n bs) H Q) := by
  refine T.d_breaking_share.F.okX sc_breaking_share (fun vs H Q E h => ?_) (fun cdv A outer s H vs Q E hr h => ?_)
  · obtain ⟨v, rfl, _⟩ := h
    rfl
  · obtain ⟨v, rfl, h⟩ := h
    refine ⟨_, (pss_cons (ps_set (i := 1) sc_breaking_share.nd rfl (by first | exact Or.inl rfl | exact Or.inr rfl) (pe_call (ok_breaking_count T) (hr.mono (by decide)) (by rfl) T.d_breaking_count.gl T.d_breaking_count.F.kp (b_breaking_count T) .nil (passes_call (takes_of rfl rfl rfl rfl) (fun _ _ _ _ h => h)) (pa_cons (pv 0) pa_nil)))
      (pss_one (ps_ret (pe_call (ok_ratio T) (hr.mono (by decide)) (by rfl) T.d_ratio.gl T.d_ratio.F.kp (b_ratio T) .nil pass0 (pa_cons (pv 1) (pa_cons (pe_op op_shl1 pe_int (pe_op op_mulN pe_int (pe_prop (pv 0) T.tab.cls T.tab.p_width (ok_twidth T) (hr.mono (by decide)) (b_twidth T) .nil pass0 rfl))) pa_nil)))))), ?_⟩
    rw [st_breaking_share]
    walk_at "rd"
    refine ⟨_, rfl, ?_⟩
    rcases h with ⟨a, n, bs, rfl, h, q⟩ | ⟨h, q⟩
    · refine .inl ⟨a, n, bs, rfl, h, fun H2 e2 => ?_⟩
      obtain ⟨dx, t, h1, h2, h3⟩ := id h
      walk_at "rd"
      refine ⟨_, _, e2 _ _ h1, a, n, bs, rfl, h.ex e2, 2, n, rfl, rfl, by decide, ?_⟩
      walk_at "rd"
      have hb := pow_bounds h3.wide
      have hw := h3.wide
      refine ⟨by omega, _, _, rfl, ⟨hb.2.2.1, hb.2.2.2⟩, fun p H3 hp e3 h3 => q p H3 (fresh_back e2 hp) (e2.trans e3) h3⟩
    · exact .inr ⟨h, q⟩
abbrev s_counted_votes : Stmt := top 48
abbrev N_counted_votes : List Str := ["bits", "word", "ones", "other"]
theorem sc_counted_votes : FnScope N_counted_votes ["bits", "word"] (defScope s_counted_votes) := ⟨rfl, rfl, rfl, by decide +kernel, rfl, by decide +kernel, by decide +kernel⟩
theorem st_counted_votes {x0 x1 : V} : start N_counted_votes [x0, x1] = [some x0, some x1, none, none] := rfl

theorem b_counted_votes (T : Fx K mg) : L2.Binds K (fdOf K (T_counted_votes K)) ["bits", "word"] [] := T.d_counted_votes.F.binds (ps := ["bits", "word"]) fun _ _ _ _ _ _ us hl => match us, hl with | [_, _], _ => rfl
def voO (n : Nat) (bs : List Int) (x : Nat) : HO := .tup [.int (2 ^ n - ones n (bf bs) x), .int (ones n (bf bs) x)]
def sp_cv (K : PySem.W.Frag) : Sp := fun vs H Q _ => ∃ (t : Addr) (bs : List Int) (n x : Nat), vs = [.ref t, .int (x : Int)] ∧ H t = some (.tup (bs.map V.int)) ∧ TBits n bs ∧ x < 2 ^ n ∧
  ∀ p H2, H p = none → Ex H H2 → H2 p = some (voO n bs x) → Q (.ref p) H2
theorem tlen {n : Nat} {bs : List Int} (h : TBits n bs) : (bs.map V.int).length = 2 ^ n := by rw [List.length_map, h.len]
omit [IsP P] in
theorem ok_counted_votes (T : Fx K mg) : FnOk P w K mg base CX0 1 (T_counted_votes K) (fdOf K (T_counted_votes K)) ["bits", "word"] (sp_cv K) := by
  refine T.d_counted_votes.F.ok sc_counted_votes (fun vs H Q E h => ?_) (fun cdv A outer s H vs Q E hr h => ?_)
  · obtain ⟨t, bs, n, x, rfl, _⟩ := h
    rfl
  · obtain ⟨t, bs, n, x, rfl, ht, hb, hx, q⟩ := h
    refine ⟨_, (pss_cons (ps_set (i := 2) sc_counted_votes.nd rfl (by first | exact Or.inl rfl | exact Or.inr rfl) (pe_callB (k_sum K) (by rfl) T.z_sum (by decide +kernel) (pa_cons (pe_lc (own := [("other", 3)]) (g := gName 3) (tt := tYes) (by rfl) sc_counted_votes.nd (pi_range1 (by rfl) T.z_range (pa_cons (pe_callB (k_len K) (by rfl) T.z_len (by decide +kernel) (pa_cons (pv 0) pa_nil)) pa_nil)) (blkOk_by (own := [("other", 3)]) (N := N_counted_votes) (sc := defScope s_counted_votes) (by decide +kernel)) (fun _ _ _ _ _ => (pg_name (i := 3) sc_counted_votes.nd rfl (by first | exact Or.inl rfl | exact Or.inr rfl))) (fun _ _ _ _ _ => pts_nil) (fun _ _ _ _ _ => (pe_op op_xorB (pe_ix (k_ixT K) (pv 0) (pv 3) (fun _ _ => rfl)) (pe_ix (k_ixT K) (pv 0) (pe_op op_xorNN (pv 1) (pv 3)) (fun _ _ => rfl))))) pa_nil)))
      (pss_one (ps_ret (pe_tup (pa_cons (pe_op op_sub (pe_callB (k_len K) (by rfl) T.z_len (by decide +kernel) (pa_cons (pv 0) pa_nil)) (pv 2)) (pa_cons (pv 2) pa_nil)))))), ?_⟩
    rw [st_counted_votes]
    walk_at "rd"
    have hs := hb.small
    refine ⟨_, .inr (st_of ht), by omega, by rw [tlen hb]; omega, ?_⟩
    rw [tlen hb, Int.toNat_natCast]
    refine lcl_range (fun y => .int (xb (bf bs y) (bf bs (x ^^^ y)))) (by omega) (fun y hy H' e R k => ⟨rfl, ?_⟩) (fun p H2 hp e2 h2 => ?_)
    · walk_at "rd"
      refine ⟨_, _, st_of (e _ _ ht), atT hb hy, _, _, st_of (e _ _ ht), atT hb (xor_lt hx hy), _, rfl, _, rfl, hb.at _, hb.at _, k H' (Ex.refl _)⟩
    · walk_at "rd"
      refine ⟨(List.range (2 ^ n)).map fun y => xb (bf bs y) (bf bs (x ^^^ y)), sq_of (by rw [h2, List.map_map]; rfl), _, .inr (st_of (e2 _ _ ht)), sz_of (by simp), fun r hr' => q r _ (fresh_back e2 hr') (e2.trans (Ex.new hr')) ?_⟩
      rw [upd_same, tlen hb, natpow]
      rfl
abbrev s_all_votes : Stmt := top 49
abbrev N_all_votes : List Str := ["table", "bits", "word"]
theorem sc_all_votes : FnScope N_all_votes ["table"] (defScope s_all_votes) := ⟨rfl, rfl, rfl, by decide +kernel, rfl, by decide +kernel, by decide +kernel⟩
theorem st_all_votes {x0 : V} : start N_all_votes [x0] = [some x0, none, none] := rfl

theorem b_all_votes (T : Fx K mg) : L2.Binds K (fdOf K (T_all_votes K)) ["table"] [] := T.d_all_votes.F.binds (ps := ["table"]) fun _ _ _ _ _ _ us hl => match us, hl with | [_], _ => rfl
def sp_av (K : PySem.W.Frag) : Sp := fun vs H Q _ => ∃ (a : Addr) (n : Nat) (bs : List Int), vs = [.ref a] ∧ IsTab K H a n bs ∧ RetRefs (voO n bs) (2 ^ n) H Q
omit [IsP P] in
theorem ok_all_votes (T : Fx K mg) : FnOk P w K mg base CX0 3 (T_all_votes K) (fdOf K (T_all_votes K)) ["table"] (sp_av K) := by
  refine T.d_all_votes.F.ok sc_all_votes (fun vs H Q E h => ?_) (fun cdv A outer s H vs Q E hr h => ?_)
  · obtain ⟨a, n, bs, rfl, _⟩ := h
    rfl
  · obtain ⟨a, n, bs, rfl, h, q⟩ := h
    obtain ⟨dx, t, h1, h2, h3⟩ := id h
    refine ⟨_, (pss_cons (ps_set (i := 1) sc_all_votes.nd rfl (by first | exact Or.inl rfl | exact Or.inr rfl) (pe_prop (pv 0) T.tab.cls T.tab.p_bits (ok_tbits T) (hr.mono (by decide)) (b_tbits T) .nil pass0 rfl))
      (pss_one (ps_ret (pe_lc (own := [("word", 2)]) (g := gName 2) (tt := tYes) (by rfl) sc_all_votes.nd (pi_range1 (by rfl) T.z_range (pa_cons (pe_callB (k_len K) (by rfl) T.z_len (by decide +kernel) (pa_cons (pv 1) pa_nil)) pa_nil)) (blkOk_by (own := [("word", 2)]) (N := N_all_votes) (sc := defScope s_all_votes) (by decide +kernel)) (fun _ _ _ _ _ => (pg_name (i := 2) sc_all_votes.nd rfl (by first | exact Or.inl rfl | exact Or.inr rfl))) (fun _ _ _ _ _ => pts_nil) (fun _ _ _ _ _ => (pe_call (ok_counted_votes T) (hr.mono (by decide)) (by rfl) T.d_counted_votes.gl T.d_counted_votes.F.kp (b_counted_votes T) .nil pass0 (pa_cons (pv 1) (pa_cons (pv 2) pa_nil)))))))), ?_⟩
    rw [st_all_votes]
    walk_at "rd"
    have hs := h3.small
    refine ⟨_, _, h1, a, n, bs, rfl, h, fun t' ht' => ?_⟩
    walk_at "rd"
    refine ⟨_, .inr (st_of ht'), by omega, by rw [tlen h3]; omega, ?_⟩
    rw [tlen h3, Int.toNat_natCast]
    refine lcl_rangeN (voO n bs) (by omega) (fun x H' hx e R k => ⟨rfl, ?_⟩) q
    walk_at "rd"
    exact ⟨t', bs, n, x, ⟨rfl, rfl⟩, e _ _ ht', h3, hx, fun p H2 hp e2 h2 => k p H2 hp e2 h2⟩
abbrev s_mended_bit : Stmt := top 50
abbrev N_mended_bit : List Str := ["zeros", "ones", "bit"]
theorem sc_mended_bit : FnScope N_mended_bit ["zeros", "ones", "bit"] (defScope s_mended_bit) := ⟨rfl, rfl, rfl, by decide +kernel, rfl, by decide +kernel, by decide +kernel⟩
theorem st_mended_bit {x0 x1 x2 : V} : start N_mended_bit [x0, x1, x2] = [some x0, some x1, some x2] := rfl

theorem b_mended_bit (T : Fx K mg) : L2.Binds K (fdOf K (T_mended_bit K)) ["zeros", "ones", "bit"] [] := T.d_mended_bit.F.binds (ps := ["zeros", "ones", "bit"]) fun _ _ _ _ _ _ us hl => match us, hl with | [_, _, _], _ => rfl
def sp_mb : Sp := fun vs H Q _ => ∃ a b c : Int, vs = [.int a, .int b, .int c] ∧ Q (.int (mbit a b c)) H
omit [IsP P] in
theorem ok_mended_bit (T : Fx K mg) : FnOk P w K mg base CX0 1 (T_mended_bit K) (fdOf K (T_mended_bit K)) ["zeros", "ones", "bit"] sp_mb := by
  refine T.d_mended_bit.F.ok sc_mended_bit (fun vs H Q E h => ?_) (fun cdv A outer s H vs Q E hr h => ?_)
  · obtain ⟨a, b, c, rfl, _⟩ := h
    rfl
  · obtain ⟨a, b, c, rfl, q⟩ := h
    refine ⟨_, (pss_cons (ps_if (pt_cmpR op_gt (pv 0) (pv 1) (nomark _)) (pss_one (ps_ret pe_int)) pss_nil)
      (pss_cons (ps_if (pt_cmpR op_lt (pv 0) (pv 1) (nomark _)) (pss_one (ps_ret pe_int)) pss_nil)
      (pss_one (ps_ret (pv 2))))), ?_⟩
    rw [st_mended_bit]
    walk_at "rd"
    unfold mbit at q
    by_cases h1 : b < a
    · rw [if_pos h1] at q ⊢
      exact q
    · rw [if_neg h1] at q ⊢
      by_cases h2 : a < b
      · rw [if_pos h2] at q ⊢
        exact q
      · rw [if_neg h2] at q ⊢
        exact q
abbrev s_mend_log : Stmt := top 51
abbrev N_mend_log : List Str := ["table", "bits", "word", "zeros", "ones"]
theorem sc_mend_log : FnScope N_mend_log ["table"] (defScope s_mend_log) := ⟨rfl, rfl, rfl, by decide +kernel, rfl, by decide +kernel, by decide +kernel⟩
theorem st_mend_log {x0 : V} : start N_mend_log [x0] = [some x0, none, none, none, none] := rfl

theorem b_mend_log (T : Fx K mg) : L2.Binds K (fdOf K (T_mend_log K)) ["table"] [] := T.d_mend_log.F.binds (ps := ["table"]) fun _ _ _ _ _ _ us hl => match us, hl with | [_], _ => rfl
def mdO (n : Nat) (bs : List Int) (x : Nat) : HO := .tup [.int (x : Int), .int (2 ^ n - ones n (bf bs) x), .int (ones n (bf bs) x), .int (mbit (2 ^ n - ones n (bf bs) x) (ones n (bf bs) x) (bf bs x))]
theorem ok_mend_log (T : Fx K mg) : FnOk P w K mg base (L2.CX P w) 4 (T_mend_log K) (fdOf K (T_mend_log K)) ["table"] (spTab K fun n bs H Q => RetRefs (mdO n bs) (2 ^ n) H Q) := by
  refine T.d_mend_log.F.okX sc_mend_log (fun vs H Q E h => ?_) (fun cdv A outer s H vs Q E hr h => ?_)
  · obtain ⟨v, rfl, _⟩ := h
    rfl
  · obtain ⟨v, rfl, h⟩ := h
    refine ⟨_, (pss_cons (ps_expr (pe_call (ok_check_table_pairs T) (hr.mono (by decide)) (by rfl) T.d_check_table_pairs.gl T.d_check_table_pairs.F.kp (b_check_table_pairs T) .nil (passes_call (takes_of rfl rfl rfl rfl) (fun _ _ _ _ h => h)) (pa_cons (pv 0) (pa_cons pe_str pa_nil))))
      (pss_cons (ps_set (i := 1) sc_mend_log.nd rfl (by first | exact Or.inl rfl | exact Or.inr rfl) (pe_prop (pv 0) T.tab.cls T.tab.p_bits (ok_tbits T) (hr.mono (by decide)) (b_tbits T) .nil pass0 rfl))
      (pss_one (ps_ret (pe_lc (own := [("word", 2), ("zeros", 3), ("ones", 4)]) (g := gTup K 2 ((gCons (gName 2) (gCons (gTup K 2 ((gCons (gName 3) (gCons (gName 4) gNil)))) gNil)))) (tt := tYes) (by rfl) sc_mend_log.nd (pi_enum (by rfl) T.z_enumerate (pa_cons (pe_call (ok_all_votes T) (hr.mono (by decide)) (by rfl) T.d_all_votes.gl T.d_all_votes.F.kp (b_all_votes T) .nil pass0 (pa_cons (pv 0) pa_nil)) pa_nil)) (blkOk_by (own := [("word", 2), ("zeros", 3), ("ones", 4)]) (N := N_mend_log) (sc := defScope s_mend_log) (by decide +kernel)) (fun _ _ _ _ _ => (pg_tup (by rfl) (pgs_cons (pg_name (i := 2) sc_mend_log.nd rfl (by first | exact Or.inl rfl | exact Or.inr rfl)) (pgs_cons (pg_tup (by rfl) (pgs_cons (pg_name (i := 3) sc_mend_log.nd rfl (by first | exact Or.inl rfl | exact Or.inr rfl)) (pgs_cons (pg_name (i := 4) sc_mend_log.nd rfl (by first | exact Or.inl rfl | exact Or.inr rfl)) pgs_nil))) pgs_nil)))) (fun _ _ _ _ _ => pts_nil) (fun _ _ _ _ _ => (pe_tup (pa_cons (pv 2) (pa_cons (pv 3) (pa_cons (pv 4) (pa_cons (pe_call (ok_mended_bit T) (hr.mono (by decide)) (by rfl) T.d_mended_bit.gl T.d_mended_bit.F.kp (b_mended_bit T) .nil pass0 (pa_cons (pv 3) (pa_cons (pv 4) (pa_cons (pe_ix (k_ixT K) (pv 1) (pv 2) (fun _ _ => rfl)) pa_nil)))) pa_nil))))))))))), ?_⟩
    rw [st_mend_log]
    walk_at "rd"
    refine ⟨_, rfl, ?_⟩
    rcases h with ⟨a, n, bs, rfl, h, q⟩ | ⟨h, q⟩
    · refine .inl ⟨a, n, bs, rfl, h, ?_⟩
      obtain ⟨dx, t, h1, h2, h3⟩ := id h
      have hs := h3.small
      walk_at "rd"
      refine ⟨_, _, h1, a, n, bs, rfl, h, fun t' ht' => ?_⟩
      walk_at "rd"
      refine ⟨a, n, bs, rfl, h, fun p ps H2 hp e2 hps hl hit _ => ?_⟩
      walk_at "rd"
      refine ⟨_, _, rfl, sq_of hps, ?_⟩
      have hl2 : (ps.map V.ref).length = 2 ^ n := by rw [List.length_map, hl]
      refine lcl_enumN (mdO n bs) (sq_of hps) (by omega) (fun i x T1 H' hi e hT R k => ?_) (by rw [hl2]; exact q.go e2)
      obtain ⟨pa, hpa, rfl⟩ : ∃ pa, ps[i]? = some pa ∧ V.ref pa = x := by
        rw [List.getElem?_map] at hi
        exact Option.map_eq_some_iff.mp hi
      have hi2 : i < 2 ^ n := by
        have := (List.getElem?_eq_some_iff.mp hpa).1
        omega
      have hv := e _ _ (hit i pa hpa)
      unfold voO at hv
      walk_at "rd"
      refine ⟨_, st_of hT, rfl, ?_⟩
      walk_at "rd"
      refine ⟨_, st_of hv, rfl, ?_⟩
      walk_at "rd"
      refine ⟨_, _, st_of ((e2.trans e) _ _ ht'), atT h3 hi2, ?_⟩
      refine ⟨_, _, _, rfl, sz_of (by simp), fun r hr' => ?_⟩
      exact k r _ hr' (Ex.new hr') upd_same
    · exact .inr ⟨h, q⟩
abbrev s_mended : Stmt := top 52
abbrev N_mended : List Str := ["table", "row"]
theorem sc_mended : FnScope N_mended ["table"] (defScope s_mended) := ⟨rfl, rfl, rfl, by decide +kernel, rfl, by decide +kernel, by decide +kernel⟩
theorem st_mended {x0 : V} : start N_mended [x0] = [some x0, none] := rfl

theorem b_mended (T : Fx K mg) : L2.Binds K (fdOf K (T_mended K)) ["table"] [] := T.d_mended.F.binds (ps := ["table"]) fun _ _ _ _ _ _ us hl => match us, hl with | [_], _ => rfl
def mdL (n : Nat) (bs : List Int) : List Int := (List.range (2 ^ n)).map fun x => mbit (2 ^ n - ones n (bf bs) x) (ones n (bf bs) x) (bf bs x)
theorem mdL_bits {n : Nat} {bs : List Int} (h : TBits n bs) : TBits n (mdL n bs) := by
  refine ⟨h.wide, by unfold mdL; rw [List.length_map, List.length_range], fun b hb => ?_⟩
  unfold mdL at hb
  obtain ⟨x, _, rfl⟩ := List.mem_map.mp hb
  unfold mbit
  split
  · exact .inl rfl
  · split
    · exact .inr rfl
    · exact h.at x
theorem ok_mended (T : Fx K mg) : FnOk P w K mg base (L2.CX P w) 7 (T_mended K) (fdOf K (T_mended K)) ["table"] (spTab K fun n bs H Q => RetTab K n (mdL n bs) H Q) := by
  refine T.d_mended.F.okX sc_mended (fun vs H Q E h => ?_) (fun cdv A outer s H vs Q E hr h => ?_)
  · obtain ⟨v, rfl, _⟩ := h
    rfl
  · obtain ⟨v, rfl, h⟩ := h
    refine ⟨_, (pss_cons (ps_expr (pe_call (ok_check_table_pairs T) (hr.mono (by decide)) (by rfl) T.d_check_table_pairs.gl T.d_check_table_pairs.F.kp (b_check_table_pairs T) .nil (passes_call (takes_of rfl rfl rfl rfl) (fun _ _ _ _ h => h)) (pa_cons (pv 0) (pa_cons pe_str pa_nil))))
      (pss_one (ps_ret (pe_make T.tab.mkr (ok_tinit T) (hr.mono (by decide)) (by rfl) T.g_Table (b_tinit T) .nil pass0 (pa_cons (pe_prop (pv 0) T.tab.cls T.tab.p_width (ok_twidth T) (hr.mono (by decide)) (b_twidth T) .nil pass0 rfl) (pa_cons (pe_lc (own := [("row", 1)]) (g := gName 1) (tt := tYes) (by rfl) sc_mended.nd (ki_list K (pe_call (ok_mend_log T) (hr.mono (by decide)) (by rfl) T.d_mend_log.gl T.d_mend_log.F.kp (b_mend_log T) .nil (passes_call (takes_of rfl rfl rfl rfl) (fun _ _ _ _ h => h)) (pa_cons (pv 0) pa_nil))) (blkOk_by (own := [("row", 1)]) (N := N_mended) (sc := defScope s_mended) (by decide +kernel)) (fun _ _ _ _ _ => (pg_name (i := 1) sc_mended.nd rfl (by first | exact Or.inl rfl | exact Or.inr rfl))) (fun _ _ _ _ _ => pts_nil) (fun _ _ _ _ _ => (pe_ix (k_ixT K) (pv 1) pe_int (fun _ _ => rfl)))) pa_nil)))))), ?_⟩
    rw [st_mended]
    walk_at "rd"
    refine ⟨_, rfl, ?_⟩
    rcases h with ⟨a, n, bs, rfl, h, q⟩ | ⟨h, q⟩
    · refine .inl ⟨a, n, bs, rfl, h, ?_⟩
      obtain ⟨dx, t, h1, h2, h3⟩ := id h
      have hs := h3.small
      walk_at "rd"
      refine ⟨_, _, h1, a, n, bs, rfl, h, ?_⟩
      walk_at "rd"
      refine ⟨_, rfl, .inl ⟨a, n, bs, rfl, h, fun p ps H2 hp e2 hps hl hit _ => ?_⟩⟩
      walk_at "rd"
      have hl2 : (ps.map V.ref).length = 2 ^ n := by rw [List.length_map, hl]
      refine ⟨⟨_, sq_of hps⟩, lcl_list (fun x => .int (mbit (2 ^ n - ones n (bf bs) x) (ones n (bf bs) x) (bf bs x))) (sq_of hps) (by omega) (fun i x hi H' e R k => ⟨rfl, ?_⟩) (fun l H3 hl3 e3 h3' => ?_)⟩
      · obtain ⟨pa, hpa, rfl⟩ : ∃ pa, ps[i]? = some pa ∧ V.ref pa = x := by
          rw [List.getElem?_map] at hi
          exact Option.map_eq_some_iff.mp hi
        have hv := e _ _ (hit i pa hpa)
        unfold mdO at hv
        walk_at "rd"
        exact ⟨_, _, st_of hv, atI_nat (j := 3) rfl, k H' (Ex.refl _)⟩
      · intro x dx' hx hdx ne
        have eq : H3 l = some (.lst ((mdL n bs).map V.int)) := by
          rw [h3', hl2]
          unfold mdL
          rw [List.map_map]
          rfl
        exact make_tab eq (mdL_bits h3) (fun p' H4 hp' e4 h4 => q p' H4 (fresh_back (e2.trans e3) hp') ((e2.trans e3).trans e4) h4) x dx' hx hdx ne
    · exact .inr ⟨h, q⟩
abbrev s_distances : Stmt := top 54
abbrev N_distances : List Str := ["table", "size", "mark"]
theorem sc_distances : FnScope N_distances ["table"] (defScope s_distances) := ⟨rfl, rfl, rfl, by decide +kernel, rfl, by decide +kernel, by decide +kernel⟩
theorem st_distances {x0 : V} : start N_distances [x0] = [some x0, none, none] := rfl

theorem b_distances (T : Fx K mg) : L2.Binds K (fdOf K (T_distances K)) ["table"] [] := T.d_distances.F.binds (ps := ["table"]) fun _ _ _ _ _ _ us hl => match us, hl with | [_], _ => rfl
def cntL (n : Nat) (bs : List Int) : List Int := (List.range (2 ^ n)).map (count n (bf bs))
theorem ok_distances (T : Fx K mg) : FnOk P w K mg base (L2.CX P w) 5 (T_distances K) (fdOf K (T_distances K)) ["table"] (spTab K fun n bs H Q => RetL ((cntL n bs).map V.int) H Q) := by
  refine T.d_distances.F.okX sc_distances (fun vs H Q E h => ?_) (fun cdv A outer s H vs Q E hr h => ?_)
  · obtain ⟨v, rfl, _⟩ := h
    rfl
  · obtain ⟨v, rfl, h⟩ := h
    refine ⟨_, (pss_cons (ps_expr (pe_call (ok_check_table_pairs T) (hr.mono (by decide)) (by rfl) T.d_check_table_pairs.gl T.d_check_table_pairs.F.kp (b_check_table_pairs T) .nil (passes_call (takes_of rfl rfl rfl rfl) (fun _ _ _ _ h => h)) (pa_cons (pv 0) (pa_cons pe_str pa_nil))))
      (pss_cons (ps_set (i := 1) sc_distances.nd rfl (by first | exact Or.inl rfl | exact Or.inr rfl) (pe_op op_shl1 pe_int (pe_prop (pv 0) T.tab.cls T.tab.p_width (ok_twidth T) (hr.mono (by decide)) (b_twidth T) .nil pass0 rfl)))
      (pss_one (ps_ret (pe_lc (own := [("mark", 2)]) (g := gName 2) (tt := tYes) (by rfl) sc_distances.nd (ki_list K (pe_call (ok_scores T) (hr.mono (by decide)) (by rfl) T.d_scores.gl T.d_scores.F.kp (b_scores T) .nil (passes_call (takes_of rfl rfl rfl rfl) (fun _ _ _ _ h => h)) (pa_cons (pv 0) pa_nil))) (blkOk_by (own := [("mark", 2)]) (N := N_distances) (sc := defScope s_distances) (by decide +kernel)) (fun _ _ _ _ _ => (pg_name (i := 2) sc_distances.nd rfl (by first | exact Or.inl rfl | exact Or.inr rfl))) (fun _ _ _ _ _ => pts_nil) (fun _ _ _ _ _ => (pe_op op_fdivW (pe_op op_sub (pv 1) (pv 2)) pe_int))))))), ?_⟩
    rw [st_distances]
    walk_at "rd"
    refine ⟨_, rfl, ?_⟩
    rcases h with ⟨a, n, bs, rfl, h, q⟩ | ⟨h, q⟩
    · refine .inl ⟨a, n, bs, rfl, h, ?_⟩
      obtain ⟨dx, t, h1, h2, h3⟩ := id h
      have hs := h3.small
      have hw := h3.wide
      walk_at "rd"
      refine ⟨_, _, h1, a, n, bs, rfl, h, ?_⟩
      walk_at "rd"
      refine ⟨by omega, _, rfl, .inl ⟨a, n, bs, rfl, h, fun p H2 hp e2 h2' => ?_⟩⟩
      walk_at "rd"
      have hl : ((scL n bs).map V.int).length = 2 ^ n := by
        unfold scL
        rw [List.length_map, List.length_map, List.length_range]
      refine ⟨⟨_, sq_of h2'⟩, lcl_list (fun x => .int (count n (bf bs) x)) (sq_of h2') (by omega) (fun i x hi H' e R k => ⟨rfl, ?_⟩) ?_⟩
      · have hi2 : i < 2 ^ n := by
          have := (List.getElem?_eq_some_iff.mp hi).1
          omega
        have ex : x = .int (score n (bf bs) i) := by
          unfold scL at hi
          rw [List.map_map, get_range _ hi2] at hi
          exact (Option.some.inj hi).symm
        subst ex
        walk_at "rd"
        have ec : (((2 ^ n : Nat) : Int) - score n (bf bs) i) / 2 = count n (bf bs) i := by
          rw [score_count, natpow]
          omega
        rw [ec]
        exact ⟨wide_div (b := 2) (by decide) (by decide) (by decide) (by decide), k H' (Ex.refl _)⟩
      · rw [hl]
        have e : ((List.range (2 ^ n)).map fun x => V.int (count n (bf bs) x)) = (cntL n bs).map V.int := by
          unfold cntL
          rw [List.map_map]
          rfl
        rw [e]
        exact fun p H3 hp3 e3 h3 => q p H3 (fresh_back e2 hp3) (e2.trans e3) h3
    · exact .inr ⟨h, q⟩
end
end Bs
/-! Walk 5: nearest. -/
namespace Bs
open PySem PySem.Spec PyProof.Rows L2 Evl
local macro_rules | `(tactic| walk_at "rd") => `(tactic| try simp only [rd_var, rd_c, rd_op, rd_un, rd_I, rd_I0, rd_U, rd_NN, rd_shr, rd_shl1, rd_XB, rd_eq, rd_ne, scal_int, rd_B, rd_test, rd_and, rd_or, rd_not, rd_andV, rd_orV, rd_notV, rd_if, rd_nil, rd_cons, rd_tup, rd_lst, rd_call, rd_CB, rd_prop, rd_meth, rd_fld, rd_make, rd_sl, rd_noPart, rd_part, rd_bm0, rd_bm, rd_bits, rd_ixL, rd_ixT, rd_append, rd_addN, rd_dbl, rd_half, rd_int, rd_intB, rd_bit1, rd_popAt, rd_slL, rd_sortedI, rd_lstRg, rd_rg1, tru_int, rd_len, rd_listS, rd_tupS, rd_sum, rd_min, rd_iEnum, rd_yes, rd_asg, rd_name, rd_gnil, rd_gcons1, rd_two, rd_gtup, rd_gsub, rd_setL, rd_seq, rd_next, rd_break, rd_never, rd_drop, rd_ret, rd_retN, rd_ifS, rd_par, rd_aug, rd_sFld, rd_for, rd_iList, rd_iTup, rd_iRng1, rd_lc, vint, vbl, vref, natc, cx_K, cx_noxK, List.getElem?_cons_zero, List.getElem?_cons_succ, Option.some.injEq, exists_eq_left, exists_eq_left', exists_eq_right, exists_eq_right', true_and, and_true, List.cons.injEq, List.cons_append, List.nil_append, List.append_nil, List.set_cons_zero, List.set_cons_succ, Bool.not_true, Bool.not_false, decide_eq_true_eq, if_true, if_false, Bool.false_eq_true, reduceIte, and_self, Int.zero_add, exists_eq, exists_eq', wipe, List.map_cons, List.map_nil])
section
variable {P : Program} [IsP P] {w : World} {K : PySem.W.Frag} {mg : Str → Option Value} {base : Heap}
theorem cnt_len (n : Nat) (bs : List Int) : (cntL n bs).length = 2 ^ n := by
  unfold cntL
  rw [List.length_map, List.length_range]
theorem cnt_at {n i : Nat} {bs : List Int} {z : V} (h : ((cntL n bs).map V.int)[i]? = some z) : i < 2 ^ n ∧ z = .int ((cntL n bs).getD i 0) := by
  have hi := (List.getElem?_eq_some_iff.mp h).1
  rw [List.length_map, cnt_len] at hi
  refine ⟨hi, ?_⟩
  rw [List.getElem?_map, List.getElem?_eq_getElem (by rw [cnt_len]; exact hi)] at h
  rw [List.getD_eq_getElem?_getD, List.getElem?_eq_getElem (by rw [cnt_len]; exact hi)]
  exact (Option.some.inj h).symm
def least (n : Nat) (bs : List Int) : Int := lmin (cntL n bs)
theorem cnt_ne (n : Nat) (bs : List Int) : cntL n bs ≠ [] := fun e => by
  have h := cnt_len n bs
  have hp := Nat.two_pow_pos n
  rw [e] at h
  have h2 : 0 = 2 ^ n := h
  omega
theorem least_mem (n : Nat) (bs : List Int) : least n bs ∈ cntL n bs := (lmin_spec _ (cnt_ne n bs)).1
theorem least_le (n : Nat) (bs : List Int) : ∀ y ∈ cntL n bs, least n bs ≤ y := (lmin_spec _ (cnt_ne n bs)).2
theorem count_bounds {n : Nat} {bs : List Int} (h : TBits n bs) (S : Nat) : 0 ≤ count n (bf bs) S ∧ count n (bf bs) S ≤ (2 ^ n : Nat) := by
  have hb : ∀ x, IsBit (xb (parb n S x) (bf bs x)) := fun x => xb_bit (parb_bit n S x) (h.at x)
  unfold count
  refine ⟨?_, ?_⟩
  · have e : Sm (2 ^ n) (fun _ => 0) = 0 := by rw [Sm_const, Int.mul_zero]
    rw [← e]
    exact Sm_le fun x _ => by rcases hb x with q | q <;> omega
  · have e : Sm (2 ^ n) (fun _ => 1) = ((2 ^ n : Nat) : Int) := by rw [Sm_const, Int.mul_one]
    rw [← e]
    exact Sm_le fun x _ => by rcases hb x with q | q <;> omega
theorem least_bounds {n : Nat} {bs : List Int} (h : TBits n bs) : 0 ≤ least n bs ∧ least n bs ≤ (2 ^ n : Nat) := by
  have hm := least_mem n bs
  unfold cntL at hm
  obtain ⟨S, _, e⟩ := List.mem_map.mp hm
  rw [← e]
  exact count_bounds h S
theorem mul4 {n : Nat} {bs : List Int} (h : TBits n bs) : CMulX 4 (least n bs) := by
  have h1 := least_bounds h
  have h2 : ((2 ^ n : Nat) : Int) ≤ 64 := Int.ofNat_le.mpr h.small
  exact mulx_ok (a := 3) (b := 7) (by decide) (by omega) (by decide)
abbrev s_nearest : Stmt := top 55
abbrev N_nearest : List Str := ["table", "counts", "least", "chosen", "count"]
theorem sc_nearest : FnScope N_nearest ["table"] (defScope s_nearest) := ⟨rfl, rfl, rfl, by decide +kernel, rfl, by decide +kernel, by decide +kernel⟩
theorem st_nearest {x0 : V} : start N_nearest [x0] = [some x0, none, none, none, none] := rfl

theorem b_nearest (T : Fx K mg) : L2.Binds K (fdOf K (T_nearest K)) ["table"] [] := T.d_nearest.F.binds (ps := ["table"]) fun _ _ _ _ _ _ us hl => match us, hl with | [_], _ => rfl
def kpN (n : Nat) (bs : List Int) (i : Nat) : Bool := decide ((cntL n bs).getD i 0 = least n bs)
def nearL (n : Nat) (bs : List Int) : List V := given (2 ^ n) (kpN n bs) fun (i : Nat) => V.int (i : Int)
theorem ok_nearest (T : Fx K mg) : FnOk P w K mg base (L2.CX P w) 6 (T_nearest K) (fdOf K (T_nearest K)) ["table"]
    (spTab K fun n bs H Q => ∀ p l H2, H p = none → Ex H H2 → H2 p = some (.tup [.int (least n bs), .ref l]) → H2 l = some (.lst (nearL n bs)) → Q (.ref p) H2) := by
  refine T.d_nearest.F.okX sc_nearest (fun vs H Q E h => ?_) (fun cdv A outer s H vs Q E hr h => ?_)
  · obtain ⟨v, rfl, _⟩ := h
    rfl
  · obtain ⟨v, rfl, h⟩ := h
    refine ⟨_, (pss_cons (ps_set (i := 1) sc_nearest.nd rfl (by first | exact Or.inl rfl | exact Or.inr rfl) (pe_call (ok_distances T) (hr.mono (by decide)) (by rfl) T.d_distances.gl T.d_distances.F.kp (b_distances T) .nil (passes_call (takes_of rfl rfl rfl rfl) (fun _ _ _ _ h => h)) (pa_cons (pv 0) pa_nil)))
      (pss_cons (ps_set (i := 2) sc_nearest.nd rfl (by first | exact Or.inl rfl | exact Or.inr rfl) (pe_callB (k_min K) (by rfl) T.z_min (by decide +kernel) (pa_cons (pv 1) pa_nil)))
      (pss_one (ps_ret (pe_tup (pa_cons (pv 2) (pa_cons (pe_lc (own := [("chosen", 3), ("count", 4)]) (g := gTup K 2 ((gCons (gName 3) (gCons (gName 4) gNil)))) (by rfl) sc_nearest.nd (pi_enum (by rfl) T.z_enumerate (pa_cons (pv 1) pa_nil)) (blkOk_by (own := [("chosen", 3), ("count", 4)]) (N := N_nearest) (sc := defScope s_nearest) (by decide +kernel)) (fun _ _ _ _ _ => (pg_tup (by rfl) (pgs_cons (pg_name (i := 3) sc_nearest.nd rfl (by first | exact Or.inl rfl | exact Or.inr rfl)) (pgs_cons (pg_name (i := 4) sc_nearest.nd rfl (by first | exact Or.inl rfl | exact Or.inr rfl)) pgs_nil)))) (fun _ _ _ _ _ => (pts_one (pt_cmpR op_eq (pv 4) (pv 2) (nomark _)))) (fun _ _ _ _ _ => (pv 3))) pa_nil))))))), ?_⟩
    rw [st_nearest]
    walk_at "rd"
    refine ⟨_, rfl, ?_⟩
    rcases h with ⟨a, n, bs, rfl, h, q⟩ | ⟨h, q⟩
    · refine .inl ⟨a, n, bs, rfl, h, fun p H2 hp e2 h2 => ?_⟩
      obtain ⟨dx, t, h1, h1', h3⟩ := id h
      have hs := h3.small
      have hp0 := Nat.two_pow_pos n
      walk_at "rd"
      refine ⟨_, sq_of h2, by rw [cnt_len]; omega, fun m hm1 hm2 => ?_⟩
      have em : m = least n bs := lmin_of hm1 hm2
      subst em
      walk_at "rd"
      have hl : ((cntL n bs).map V.int).length = 2 ^ n := by rw [List.length_map, cnt_len]
      refine ⟨_, _, rfl, sq_of h2, lcl_enum (fun (i : Nat) => V.int (i : Int)) (kpN n bs) (sq_of h2) (by omega) (fun i x T1 H' hi e hT => ?_) (fun l H3 hl3 e3 h3' => ?_)⟩
      · obtain ⟨hi2, rfl⟩ := cnt_at hi
        intro RT RF kt kf
        walk_at "rd"
        refine ⟨_, st_of hT, rfl, ?_⟩
        walk_at "rd"
        unfold kpN at kt kf
        by_cases c : (cntL n bs).getD i 0 = least n bs
        · rw [if_pos c]
          exact kt (decide_eq_true c) H' (Ex.refl _)
        · rw [if_neg c]
          exact kf (decide_eq_false c) H' (Ex.refl _)
      · rw [hl] at h3'
        refine ⟨sz_of (by simp), fun r hr' => q r l _ (fresh_back (e2.trans e3) hr') ((e2.trans e3).trans (Ex.new hr')) upd_same ?_⟩
        exact Ex.new hr' _ _ h3'
    · exact .inr ⟨h, q⟩
abbrev s_sum_distance : Stmt := top 56
abbrev N_sum_distance : List Str := ["table", "least"]
theorem sc_sum_distance : FnScope N_sum_distance ["table"] (defScope s_sum_distance) := ⟨rfl, rfl, rfl, by decide +kernel, rfl, by decide +kernel, by decide +kernel⟩
theorem st_sum_distance {x0 : V} : start N_sum_distance [x0] = [some x0, none] := rfl

theorem b_sum_distance (T : Fx K mg) : L2.Binds K (fdOf K (T_sum_distance K)) ["table"] [] := T.d_sum_distance.F.binds (ps := ["table"]) fun _ _ _ _ _ _ us hl => match us, hl with | [_], _ => rfl
def sdU (n : Nat) (bs : List Int) : List V := [.int (lowT (least n bs) (2 ^ n : Nat)), .int (lowB (least n bs) (2 ^ n : Nat))]
theorem ok_sum_distance (T : Fx K mg) : FnOk P w K mg base (L2.CX P w) 6 (T_sum_distance K) (fdOf K (T_sum_distance K)) ["table"] (spTab K fun n bs H Q => RetU (sdU n bs) H Q) := by
  refine T.d_sum_distance.F.okX sc_sum_distance (fun vs H Q E h => ?_) (fun cdv A outer s H vs Q E hr h => ?_)
  · obtain ⟨v, rfl, _⟩ := h
    rfl
  · obtain ⟨v, rfl, h⟩ := h
    refine ⟨_, (pss_cons (ps_set (i := 1) sc_sum_distance.nd rfl (by first | exact Or.inl rfl | exact Or.inr rfl) (pe_callB (k_min K) (by rfl) T.z_min (by decide +kernel) (pa_cons (pe_call (ok_distances T) (hr.mono (by decide)) (by rfl) T.d_distances.gl T.d_distances.F.kp (b_distances T) .nil (passes_call (takes_of rfl rfl rfl rfl) (fun _ _ _ _ h => h)) (pa_cons (pv 0) pa_nil)) pa_nil)))
      (pss_one (ps_ret (pe_call (ok_ratio T) (hr.mono (by decide)) (by rfl) T.d_ratio.gl T.d_ratio.F.kp (b_ratio T) .nil pass0 (pa_cons (pv 1) (pa_cons (pe_op op_shl1 pe_int (pe_prop (pv 0) T.tab.cls T.tab.p_width (ok_twidth T) (hr.mono (by decide)) (b_twidth T) .nil pass0 rfl)) pa_nil)))))), ?_⟩
    rw [st_sum_distance]
    walk_at "rd"
    refine ⟨_, rfl, ?_⟩
    rcases h with ⟨a, n, bs, rfl, h, q⟩ | ⟨h, q⟩
    · refine .inl ⟨a, n, bs, rfl, h, fun p H2 hp e2 h2 => ?_⟩
      obtain ⟨dx, t, h1, h1', h3⟩ := id h
      have hw := h3.wide
      have hb := pow_bounds h3.wide
      have hp0 := Nat.two_pow_pos n
      walk_at "rd"
      refine ⟨_, sq_of h2, by rw [cnt_len]; omega, fun m hm1 hm2 => ?_⟩
      have em : m = least n bs := lmin_of hm1 hm2
      subst em
      walk_at "rd"
      refine ⟨_, _, e2 _ _ h1, a, n, bs, rfl, h.ex e2, ?_⟩
      walk_at "rd"
      exact ⟨by omega, _, _, rfl, ⟨hb.1, hb.2.1⟩, fun p' H3 hp' e3 h3 => q p' H3 (fresh_back e2 hp') (e2.trans e3) h3⟩
    · exact .inr ⟨h, q⟩
abbrev s_unique_nearest : Stmt := top 57
abbrev N_unique_nearest : List Str := ["table", "least", "sets"]
theorem sc_unique_nearest : FnScope N_unique_nearest ["table"] (defScope s_unique_nearest) := ⟨rfl, rfl, rfl, by decide +kernel, rfl, by decide +kernel, by decide +kernel⟩
theorem st_unique_nearest {x0 : V} : start N_unique_nearest [x0] = [some x0, none, none] := rfl

theorem b_unique_nearest (T : Fx K mg) : L2.Binds K (fdOf K (T_unique_nearest K)) ["table"] [] := T.d_unique_nearest.F.binds (ps := ["table"]) fun _ _ _ _ _ _ us hl => match us, hl with | [_], _ => rfl
def unV (n : Nat) (bs : List Int) : V := if 4 * least n bs < ((2 ^ n : Nat) : Int) then .int (fix (cntL n bs) (least n bs) : Nat) else .non
theorem ok_unique_nearest (T : Fx K mg) : FnOk P w K mg base (L2.CX P w) 7 (T_unique_nearest K) (fdOf K (T_unique_nearest K)) ["table"] (spTab K fun n bs H Q => RetV (unV n bs) H Q) := by
  refine T.d_unique_nearest.F.okX sc_unique_nearest (fun vs H Q E h => ?_) (fun cdv A outer s H vs Q E hr h => ?_)
  · obtain ⟨v, rfl, _⟩ := h
    rfl
  · obtain ⟨v, rfl, h⟩ := h
    refine ⟨_, (pss_cons (ps_asg (pe_call (ok_nearest T) (hr.mono (by decide)) (by rfl) T.d_nearest.gl T.d_nearest.F.kp (b_nearest T) .nil (passes_call (takes_of rfl rfl rfl rfl) (fun _ _ _ _ h => h)) (pa_cons (pv 0) pa_nil)) (pg_tup (by rfl) (pgs_cons (pg_name (i := 1) sc_unique_nearest.nd rfl (by first | exact Or.inl rfl | exact Or.inr rfl)) (pgs_cons (pg_name (i := 2) sc_unique_nearest.nd rfl (by first | exact Or.inl rfl | exact Or.inr rfl)) pgs_nil))))
      (pss_cons (ps_if (pt_cmpR op_lt (pe_op op_mulX pe_int (pv 1)) (pe_op op_shl1 pe_int (pe_prop (pv 0) T.tab.cls T.tab.p_width (ok_twidth T) (hr.mono (by decide)) (b_twidth T) .nil pass0 rfl)) (nomark _)) (pss_one (ps_ret (pe_ix (k_ixL K) (pv 2) pe_int (fun _ _ => rfl)))) pss_nil)
      (pss_one (ps_ret pe_non)))), ?_⟩
    rw [st_unique_nearest]
    walk_at "rd"
    refine ⟨_, rfl, ?_⟩
    rcases h with ⟨a, n, bs, rfl, h, q⟩ | ⟨h, q⟩
    · refine .inl ⟨a, n, bs, rfl, h, fun p l H2 hp e2 h2 hl => ?_⟩
      obtain ⟨dx, t, h1, h1', h3⟩ := id h
      have hw := h3.wide
      walk_at "rd"
      refine ⟨_, st_of h2, rfl, ?_⟩
      walk_at "rd"
      refine ⟨mul4 h3, _, _, e2 _ _ h1, a, n, bs, rfl, h.ex e2, ?_⟩
      walk_at "rd"
      refine ⟨by omega, ?_⟩
      have q' := q H2 e2
      unfold unV at q'
      by_cases c : 4 * least n bs < ((2 ^ n : Nat) : Int)
      · rw [if_pos c] at q' ⊢
        refine ⟨_, _, sq_of hl, atI_nat (j := 0) ?_, q'⟩
        have hf := first_of (least_mem n bs)
        rw [cnt_len] at hf
        unfold nearL given
        rw [List.getElem?_map]
        show Option.map _ (((List.range (2 ^ n)).filter fun i => decide ((cntL n bs).getD i 0 = least n bs))[0]?) = _
        rw [hf]
        rfl
      · rw [if_neg c] at q' ⊢
        exact q'
    · exact .inr ⟨h, q⟩
end
end Bs
/-! Walk 6: the law's draws. -/
namespace Bs
open PySem PySem.Spec PyProof.Rows L2 Evl
local macro_rules | `(tactic| walk_at "rd") => `(tactic| try simp only [rd_var, rd_c, rd_op, rd_un, rd_I, rd_I0, rd_U, rd_NN, rd_shr, rd_shl1, rd_XB, rd_eq, rd_ne, scal_int, rd_B, rd_test, rd_and, rd_or, rd_not, rd_andV, rd_orV, rd_notV, rd_if, rd_nil, rd_cons, rd_tup, rd_lst, rd_call, rd_CB, rd_prop, rd_meth, rd_fld, rd_make, rd_sl, rd_noPart, rd_part, rd_bm0, rd_bm, rd_bits, rd_ixL, rd_ixT, rd_append, rd_addN, rd_dbl, rd_half, rd_int, rd_intB, rd_bit1, rd_popAt, rd_slL, rd_sortedI, rd_lstRg, rd_rg1, tru_int, rd_len, rd_listS, rd_tupS, rd_sum, rd_min, rd_iEnum, rd_yes, rd_asg, rd_name, rd_gnil, rd_gcons1, rd_two, rd_gtup, rd_gsub, rd_setL, rd_seq, rd_next, rd_break, rd_never, rd_drop, rd_ret, rd_retN, rd_ifS, rd_par, rd_aug, rd_sFld, rd_for, rd_iList, rd_iTup, rd_iRng1, rd_lc, vint, vbl, vref, natc, cx_K, cx_noxK, List.getElem?_cons_zero, List.getElem?_cons_succ, Option.some.injEq, exists_eq_left, exists_eq_left', exists_eq_right, exists_eq_right', true_and, and_true, List.cons.injEq, List.cons_append, List.nil_append, List.append_nil, List.set_cons_zero, List.set_cons_succ, Bool.not_true, Bool.not_false, decide_eq_true_eq, if_true, if_false, Bool.false_eq_true, reduceIte, and_self, Int.zero_add, exists_eq, exists_eq', wipe, List.map_cons, List.map_nil])
section
variable {P : Program} {w : World} {K : PySem.W.Frag} {mg : Str → Option Value} {base : Heap}
abbrev s_lmixed : Stmt := top 59
abbrev N_lmixed : List Str := ["_law_cell", "_law_nth", "_law_low", "_law_high"]
theorem sc_lmixed : FnScope N_lmixed ["_law_cell", "_law_nth"] (defScope s_lmixed) := ⟨rfl, rfl, rfl, by decide +kernel, rfl, by decide +kernel, by decide +kernel⟩
theorem st_lmixed {x0 x1 : V} : start N_lmixed [x0, x1] = [some x0, some x1, none, none] := rfl

theorem b_lmixed (T : Fx K mg) : L2.Binds K (fdOf K (T_lmixed K)) ["_law_cell", "_law_nth"] [] := T.d_lmixed.F.binds (ps := ["_law_cell", "_law_nth"]) fun _ _ _ _ _ _ us hl => match us, hl with | [_, _], _ => rfl
def sp_mix : Sp := fun vs H Q _ => ∃ c nth : Int, vs = [.int c, .int nth] ∧ 0 ≤ nth ∧ nth < 2 ^ 60 ∧ ∀ r : Int, 0 ≤ r → r < 2147483399 → Q (.int r) H
theorem mulx_n {i j : Int} {a b : Nat} (h1 : 0 ≤ i) (h2 : i < 2 ^ a) (h3 : 0 ≤ j) (h4 : j < 2 ^ b) (h : a + b ≤ 1000) : CMulX i j := by
  rw [← natpow] at h2 h4
  exact mulx_ok (a := a) (b := b) (by omega) (by omega) (by omega)
theorem ok_lmixed (T : Fx K mg) : FnOk P w K mg base CX0 1 (T_lmixed K) (fdOf K (T_lmixed K)) ["_law_cell", "_law_nth"] sp_mix := by
  refine T.d_lmixed.F.ok sc_lmixed (fun vs H Q E h => ?_) (fun cdv A outer s H vs Q E hr h => ?_)
  · obtain ⟨c, nth, rfl, _⟩ := h
    rfl
  · obtain ⟨c, nth, rfl, hn0, hn1, q⟩ := h
    refine ⟨_, (pss_cons (ps_set (i := 2) sc_lmixed.nd rfl (by first | exact Or.inl rfl | exact Or.inr rfl) (pe_op op_mod (pe_callTy k_int (by rfl) T.z_int (by decide +kernel) (pa_cons (pe_op op_add (pe_op op_add (pe_op op_mulX (pe_op op_mod (pe_callTy k_int (by rfl) T.z_int (by decide +kernel) (pa_cons (pv 0) pa_nil)) pe_int) pe_int) (pe_op op_mulX (pv 1) pe_int)) pe_int) pa_nil)) pe_int))
      (pss_cons (ps_set (i := 3) sc_lmixed.nd rfl (by first | exact Or.inl rfl | exact Or.inr rfl) (pe_op op_mod (pe_callTy k_int (by rfl) T.z_int (by decide +kernel) (pa_cons (pe_op op_add (pe_op op_add (pe_op op_mulX (pv 2) (pv 2)) (pe_op op_mulX (pv 1) pe_int)) pe_int) pa_nil)) pe_int))
      (pss_one (ps_ret (pe_op op_mod (pe_callTy k_int (by rfl) T.z_int (by decide +kernel) (pa_cons (pe_op op_add (pe_op op_add (pe_op op_mulX (pe_op op_fdivW (pv 3) pe_int) pe_int) (pe_op op_mulX (pe_op op_mod (pe_callTy k_int (by rfl) T.z_int (by decide +kernel) (pa_cons (pv 3) pa_nil)) pe_int) pe_int)) (pe_op op_mod (pe_callTy k_int (by rfl) T.z_int (by decide +kernel) (pa_cons (pv 2) pa_nil)) pe_int)) pa_nil)) pe_int))))), ?_⟩
    rw [st_lmixed]
    walk_at "rd"
    have a1 := Int.emod_nonneg c (show (2147483647 : Int) ≠ 0 by decide)
    have a2 := Int.emod_lt_of_pos c (show (0 : Int) < 2147483647 by decide)
    refine ⟨by decide, mulx_n (a := 31) (b := 16) a1 (by omega) (by decide) (by decide) (by decide), mulx_n (a := 60) (b := 17) hn0 hn1 (by decide) (by decide) (by decide), by decide, ?_⟩
    have b1 := Int.emod_nonneg (c % 2147483647 * 48271 + nth * 69621 + 8191) (show (2147483647 : Int) ≠ 0 by decide)
    have b2 := Int.emod_lt_of_pos (c % 2147483647 * 48271 + nth * 69621 + 8191) (show (0 : Int) < 2147483647 by decide)
    generalize (c % 2147483647 * 48271 + nth * 69621 + 8191) % 2147483647 = lo at b1 b2 ⊢
    have c1 := Int.emod_nonneg (lo * lo + nth * 40692 + 77) (show (2147483399 : Int) ≠ 0 by decide)
    have c2 := Int.emod_lt_of_pos (lo * lo + nth * 40692 + 77) (show (0 : Int) < 2147483399 by decide)
    have c0 : CMulX lo lo := mulx_n (a := 31) (b := 31) b1 (by omega) b1 (by omega) (by decide)
    generalize (lo * lo + nth * 40692 + 77) % 2147483399 = hi at c1 c2 ⊢
    refine ⟨c0, mulx_n (a := 60) (b := 17) hn0 hn1 (by decide) (by decide) (by decide), by decide, wide_div (b := 31) (by decide) (by decide) (by decide) (by decide),
      mulx_n (a := 31) (b := 16) (by omega) (by omega) (by decide) (by decide) (by decide), by decide, mulx_n (a := 31) (b := 16) (by omega) (by omega) (by decide) (by decide) (by decide), by decide, by decide, q _ (by omega) (by omega)⟩
abbrev s_lwide : Stmt := top 60
abbrev N_lwide : List Str := ["_law_cell", "_law_nth", "_law_many", "_law_told", "_law_k"]
theorem sc_lwide : FnScope N_lwide ["_law_cell", "_law_nth", "_law_many"] (defScope s_lwide) := ⟨rfl, rfl, rfl, by decide +kernel, rfl, by decide +kernel, by decide +kernel⟩
theorem st_lwide {x0 x1 x2 : V} : start N_lwide [x0, x1, x2] = [some x0, some x1, some x2, none, none] := rfl

theorem b_lwide (T : Fx K mg) : L2.Binds K (fdOf K (T_lwide K)) ["_law_cell", "_law_nth", "_law_many"] [] := T.d_lwide.F.binds (ps := ["_law_cell", "_law_nth", "_law_many"]) fun _ _ _ _ _ _ us hl => match us, hl with | [_, _, _], _ => rfl
def sp_wide : Sp := fun vs H Q _ => ∃ c nth many : Int, vs = [.int c, .int nth, .int many] ∧ 0 ≤ nth ∧ nth < 2 ^ 50 ∧ 0 < many ∧ many ≤ 2 ^ 64 ∧ ∀ r : Int, 0 ≤ r → r < many → Q (.int r) H
theorem bits65 {many : Int} (h0 : 0 < many) (h : many ≤ 2 ^ 64) : Builtin.Int.intBits many ≤ 65 := PyProof.Rows.intBits_le (k := 65) (by omega)
theorem ok_lwide (T : Fx K mg) : FnOk P w K mg base CX0 2 (T_lwide K) (fdOf K (T_lwide K)) ["_law_cell", "_law_nth", "_law_many"] sp_wide := by
  refine T.d_lwide.F.ok sc_lwide (fun vs H Q E h => ?_) (fun cdv A outer s H vs Q E hr h => ?_)
  · obtain ⟨c, nth, many, rfl, _⟩ := h
    rfl
  · obtain ⟨c, nth, many, rfl, hn0, hn1, hm0, hm1, q⟩ := h
    refine ⟨_, (pss_cons (ps_set (i := 3) sc_lwide.nd rfl (by first | exact Or.inl rfl | exact Or.inr rfl) (pe_call (ok_lmixed T) (hr.mono (by decide)) (by rfl) T.d_lmixed.gl T.d_lmixed.F.kp (b_lmixed T) .nil pass0 (pa_cons (pv 0) (pa_cons (pv 1) pa_nil))))
      (pss_cons (ps_for PassesOwn.never (by rfl) (pi_range1 (by rfl) T.z_range (pa_cons (pe_op op_fdivW (pe_bits (pv 2)) pe_int) pa_nil)) (pg_name (i := 4) sc_lwide.nd rfl (by first | exact Or.inl rfl | exact Or.inr rfl)) (pss_one (ps_set (i := 3) sc_lwide.nd rfl (by first | exact Or.inl rfl | exact Or.inr rfl) (pe_op op_add (pe_op op_mulX (pv 3) pe_int) (pe_call (ok_lmixed T) (hr.mono (by decide)) (by rfl) T.d_lmixed.gl T.d_lmixed.F.kp (b_lmixed T) .nil pass0 (pa_cons (pv 0) (pa_cons (pe_op op_add (pv 1) (pe_op op_mulX pe_int (pe_op op_add (pv 4) pe_int))) pa_nil)))))))
      (pss_one (ps_ret (pe_op op_mod (pe_callTy k_int (by rfl) T.z_int (by decide +kernel) (pa_cons (pv 3) pa_nil)) (pv 2)))))), ?_⟩
    rw [st_lwide]
    walk_at "rd"
    refine ⟨c, nth, rfl, hn0, by omega, fun r0 hr0 hr1 => ?_⟩
    walk_at "rd"
    have hb := bits65 hm0 hm1
    refine ⟨wide_div (b := 5) (by decide) (by decide) (by decide) (by decide), by omega, by omega, ?_⟩
    refine loop_range (fun i σ H' => H' = H ∧ ∃ (t : Int) (v : Option V), σ = [some (.int c), some (.int nth), some (.int many), some (.int t), v] ∧ 0 ≤ t ∧ t < 2 ^ (31 * (i + 1))) ⟨rfl, r0, none, rfl, hr0, by omega⟩ ?_ ?_
    · rintro i σ H' hi ⟨rfl, t, v, rfl, ht0, ht1⟩
      have hi3 : i < 4 := by omega
      walk_at "rd"
      refine ⟨mulx_n (a := 31 * (i + 1)) (b := 31) ht0 ht1 (by decide) (by decide) (by omega), mulx_n (a := 20) (b := 40) (by decide) (by decide) (by omega) (by omega) (by decide), c, _, rfl, by omega, by omega, fun r hr0 hr1 => ?_⟩
      walk_at "rd"
      refine ⟨_, _, ⟨rfl, rfl⟩, ?_, ?_⟩
      · have := Int.mul_nonneg ht0 (show (0 : Int) ≤ 2147483399 by decide)
        omega
      · have e : (2 : Int) ^ (31 * (i + 1 + 1)) = 2 ^ (31 * (i + 1)) * 2147483648 := by
          rw [show 31 * (i + 1 + 1) = 31 * (i + 1) + 31 by omega, Int.pow_add]
          rfl
        rw [e]
        generalize (2 : Int) ^ (31 * (i + 1)) = z at ht1
        omega
    · rintro σ H' ⟨rfl, t, v, rfl, ht0, ht1⟩
      walk_at "rd"
      exact ⟨hm0, q _ (Int.emod_nonneg _ (by omega)) (Int.emod_lt_of_pos _ hm0)⟩
/-! ### the store -/
/-- the store at st, the script's copy at l: at most c draws made -/
def SOk (H : Hp) (st l : Addr) (c : Nat) : Prop :=
  ∃ (ns : List Int) (k : Nat) (cur mix : Int) (cnt : Nat), H st = some (.lst [.ref l, .int (k : Int), .int cur, .int mix, .int (cnt : Int)]) ∧ l ≠ st ∧ H l = some (.lst (ns.map V.int)) ∧ ns.length ≤ 63 ∧ 0 ≤ cur ∧ cnt ≤ c
/-- all but the object at st stands -/
def ExB (st : Addr) (H H' : Hp) : Prop := ∀ a o, a ≠ st → H a = some o → H' a = some o
theorem ExB.refl (st : Addr) (H : Hp) : ExB st H H := fun _ _ _ h => h
theorem ExB.trans {st : Addr} {H H1 H2 : Hp} (a : ExB st H H1) (b : ExB st H1 H2) : ExB st H H2 := fun x o n h => b x o n (a x o n h)
theorem ExB.of {st : Addr} {H H' : Hp} (e : Ex H H') : ExB st H H' := fun a o _ h => e a o h
theorem ExB.new {st : Addr} {H H' : Hp} {p : Addr} {o : HO} (e : ExB st H H') (h : H p = none) : ExB st H (upd H' p o) := fun a u n ha => by
  rw [upd_ne (ne_of_none ha h)]
  exact e a u n ha
theorem ExB.at {st : Addr} {H H' : Hp} {o : HO} (e : ExB st H H') : ExB st H (upd H' st o) := fun a u n ha => by
  rw [upd_ne n]
  exact e a u n ha
theorem SOk.ex {H H' : Hp} {st l : Addr} {c : Nat} (e : Ex H H') (h : SOk H st l c) : SOk H' st l c := by
  obtain ⟨ns, k, cur, mix, cnt, h1, h2, h3, h4⟩ := h
  exact ⟨ns, k, cur, mix, cnt, e _ _ h1, h2, e _ _ h3, h4⟩
theorem SOk.mono {H : Hp} {st l : Addr} {c d : Nat} (h : SOk H st l c) (e : c ≤ d) : SOk H st l d := by
  obtain ⟨ns, k, cur, mix, cnt, h1, h2, h3, h4, h5, h6⟩ := h
  exact ⟨ns, k, cur, mix, cnt, h1, h2, h3, h4, h5, Nat.le_trans h6 e⟩
theorem SOk.new {H : Hp} {st l p : Addr} {o : HO} {c : Nat} (h : SOk H st l c) (hp : H p = none) : SOk (upd H p o) st l c := h.ex (Ex.new hp)
/-- another object changes -/
theorem SOk.upd {H : Hp} {st l p : Addr} {o : HO} {c : Nat} (h : SOk H st l c) (h1 : p ≠ st) (h2 : p ≠ l) : SOk (upd H p o) st l c := by
  obtain ⟨ns, k, cur, mix, cnt, a1, a2, a3, a4⟩ := h
  exact ⟨ns, k, cur, mix, cnt, by rw [upd_ne h1.symm]; exact a1, a2, by rw [upd_ne h2.symm]; exact a3, a4⟩
theorem SOk.st {H : Hp} {st l : Addr} {c : Nat} (h : SOk H st l c) : ∃ o, H st = some o := by
  obtain ⟨ns, k, cur, mix, cnt, a1, _⟩ := h
  exact ⟨_, a1⟩
theorem SOk.l {H : Hp} {st l : Addr} {c : Nat} (h : SOk H st l c) : ∃ o, H l = some o := by
  obtain ⟨ns, k, cur, mix, cnt, a1, a2, a3, _⟩ := h
  exact ⟨_, a3⟩
/-- a new address is neither -/
theorem SOk.ne {H : Hp} {st l p : Addr} {c : Nat} (h : SOk H st l c) (hp : H p = none) : p ≠ st ∧ p ≠ l := by
  obtain ⟨o, h1⟩ := h.st
  obtain ⟨o2, h2⟩ := h.l
  exact ⟨fun e => (by rw [← e, hp] at h1; cases h1), fun e => (by rw [← e, hp] at h2; cases h2)⟩
abbrev s_lstore : Stmt := top 61
abbrev N_lstore : List Str := ["_law_script", "_law_mixture", "_law_cell"]
theorem sc_lstore : FnScope N_lstore ["_law_script"] (defScope s_lstore) := ⟨rfl, rfl, rfl, by decide +kernel, rfl, by decide +kernel, by decide +kernel⟩
theorem st_lstore {x0 : V} : start N_lstore [x0] = [some x0, none, none] := rfl

theorem b_lstore (T : Fx K mg) : L2.Binds K (fdOf K (T_lstore K)) ["_law_script"] [] := T.d_lstore.F.binds (ps := ["_law_script"]) fun _ _ _ _ _ _ us hl => match us, hl with | [_], _ => rfl
def sp_store (K : PySem.W.Frag) : Sp := fun vs H Q _ => ∃ (a : Addr) (ns : List Int), vs = [.ref a] ∧ SqL K H a (ns.map V.int) ∧ ns.length ≤ 63 ∧ ∀ st l H2, H st = none → H l = none → Ex H H2 → SOk H2 st l 0 → Q (.ref st) H2
theorem ok_lstore (T : Fx K mg) : FnOk P w K mg base CX0 1 (T_lstore K) (fdOf K (T_lstore K)) ["_law_script"] (sp_store K) := by
  refine T.d_lstore.F.ok sc_lstore (fun vs H Q E h => ?_) (fun cdv A outer s H vs Q E hr h => ?_)
  · obtain ⟨a, ns, rfl, _⟩ := h
    rfl
  · obtain ⟨a, ns, rfl, ha, hl, q⟩ := h
    refine ⟨_, (pss_cons (ps_set (i := 1) sc_lstore.nd rfl (by first | exact Or.inl rfl | exact Or.inr rfl) pe_int)
      (pss_cons (ps_for PassesOwn.never (by rfl) (ki_list K (pv 0)) (pg_name (i := 2) sc_lstore.nd rfl (by first | exact Or.inl rfl | exact Or.inr rfl)) (pss_one (ps_set (i := 1) sc_lstore.nd rfl (by first | exact Or.inl rfl | exact Or.inr rfl) (pe_op op_mod (pe_callTy k_int (by rfl) T.z_int (by decide +kernel) (pa_cons (pe_op op_add (pe_op op_add (pe_op op_mulX (pv 1) pe_int) (pe_op op_mod (pe_callTy k_int (by rfl) T.z_int (by decide +kernel) (pa_cons (pv 2) pa_nil)) pe_int)) pe_int) pa_nil)) pe_int))))
      (pss_one (ps_ret (pe_lst (pa_cons (pe_callTy (k_list K) (by rfl) T.z_list (by decide +kernel) (pa_cons (pv 0) pa_nil)) (pa_cons pe_int (pa_cons pe_int (pa_cons (pv 1) (pa_cons pe_int pa_nil)))))))))), ?_⟩
    rw [st_lstore]
    walk_at "rd"
    refine ⟨⟨_, ha⟩, loop_list (xs := ns.map V.int) (fun i σ H' => H' = H ∧ ∃ (m : Int) (v : Option V), σ = [some (.ref a), some (.int m), v] ∧ 0 ≤ m ∧ m < 2147483629) ⟨rfl, _, none, rfl, by decide, by decide⟩ (fun i σ H' _ p => by rw [p.1]; exact ha) ?_ ?_⟩
    · rintro i x σ H' hi ⟨rfl, m, v, rfl, hm0, hm1⟩
      obtain ⟨z, rfl⟩ : ∃ z, x = V.int z := by
        rw [List.getElem?_map] at hi
        obtain ⟨z, _, e⟩ := Option.map_eq_some_iff.mp hi
        exact ⟨z, e.symm⟩
      walk_at "rd"
      refine ⟨mulx_n (a := 31) (b := 17) hm0 (by omega) (by decide) (by decide) (by decide), by decide, by decide, _, _, ⟨rfl, rfl⟩, Int.emod_nonneg _ (by decide), Int.emod_lt_of_pos _ (by decide)⟩
    · rintro σ H' ⟨rfl, m, v, rfl, hm0, hm1⟩
      walk_at "rd"
      refine ⟨_, .inl ha, fun l hl' => ?_⟩
      walk_at "rd"
      refine ⟨sz_of (by simp), fun st hst => ?_⟩
      have hne : l ≠ st := fun e => by
        rw [← e, upd_same] at hst
        cases hst
      refine q st l _ (fresh_back (Ex.new hl') hst) hl' ((Ex.new hl').trans (Ex.new hst)) ⟨ns, 0, 0, m, 0, upd_same, hne, ?_, hl, by decide, Nat.le_refl _⟩
      rw [upd_ne hne, upd_same]
abbrev s_ltake : Stmt := top 62
abbrev N_ltake : List Str := ["_law_store_here", "_law_many", "_law_cell", "_law_told"]
theorem sc_ltake : FnScope N_ltake ["_law_store_here", "_law_many"] (defScope s_ltake) := ⟨rfl, rfl, rfl, by decide +kernel, rfl, by decide +kernel, by decide +kernel⟩
theorem st_ltake {x0 x1 : V} : start N_ltake [x0, x1] = [some x0, some x1, none, none] := rfl

theorem b_ltake (T : Fx K mg) : L2.Binds K (fdOf K (T_ltake K)) ["_law_store_here", "_law_many"] [] := T.d_ltake.F.binds (ps := ["_law_store_here", "_law_many"]) fun _ _ _ _ _ _ us hl => match us, hl with | [_, _], _ => rfl
/-- a draw: r, below many; the store one draw older -/
def Drawn (st l : Addr) (c : Nat) (many : Int) (H : Hp) (Q : VK) : Prop := ∀ (r : Int) (H2 : Hp), 0 ≤ r → r < many → ExB st H H2 → SOk H2 st l (c + 1) → Q (.int r) H2
def sp_take : Sp := fun vs H Q _ => ∃ (st l : Addr) (c : Nat) (many : Int), vs = [.ref st, .int many] ∧ SOk H st l c ∧ c ≤ 1000000 ∧ 0 < many ∧ many ≤ 2 ^ 64 ∧ Drawn st l c many H Q
theorem ok_ltake (T : Fx K mg) : FnOk P w K mg base CX0 3 (T_ltake K) (fdOf K (T_ltake K)) ["_law_store_here", "_law_many"] sp_take := by
  refine T.d_ltake.F.ok sc_ltake (fun vs H Q E h => ?_) (fun cdv A outer s H vs Q E hr h => ?_)
  · obtain ⟨st, l, c, many, rfl, _⟩ := h
    rfl
  · obtain ⟨st, l, c, many, rfl, hS, hc, hm0, hm1, q⟩ := h
    refine ⟨_, (pss_cons (ps_if (pt_cmpR op_lt (pv 1) pe_int (nomark _)) (pss_one (ps_ret pe_int)) pss_nil)
      (pss_cons (ps_asg (pe_op op_add (pe_ix (k_ixL K) (pv 0) pe_int (fun _ _ => rfl)) pe_int) (pg_sub (pv 0) pe_int set_list))
      (pss_cons (ps_if (PW.pt (pw_and (pt_cmpR op_eq (pe_ix (k_ixL K) (pv 0) pe_int (fun _ _ => rfl)) pe_int (nomark _)) (pw_and1 (pt_cmpR op_lt (pe_ix (k_ixL K) (pv 0) pe_int (fun _ _ => rfl)) (pe_callB (k_len K) (by rfl) T.z_len (by decide +kernel) (pa_cons (pe_ix (k_ixL K) (pv 0) pe_int (fun _ _ => rfl)) pa_nil)) (nomark _))))) (pss_cons (ps_set (i := 2) sc_ltake.nd rfl (by first | exact Or.inl rfl | exact Or.inr rfl) (pe_callTy k_int (by rfl) T.z_int (by decide +kernel) (pa_cons (pe_ix (k_ixL K) (pe_ix (k_ixL K) (pv 0) pe_int (fun _ _ => rfl)) (pe_ix (k_ixL K) (pv 0) pe_int (fun _ _ => rfl)) (fun _ _ => rfl)) pa_nil)))
      (pss_cons (ps_asg (pe_op op_add (pe_ix (k_ixL K) (pv 0) pe_int (fun _ _ => rfl)) pe_int) (pg_sub (pv 0) pe_int set_list))
      (pss_cons (ps_if (pt_cmpR op_lt (pv 2) (pe_op op_pow pe_int pe_int) (nomark _)) (pss_one (ps_ret (pe_call (ok_lwide T) (hr.mono (by decide)) (by rfl) T.d_lwide.gl T.d_lwide.F.kp (b_lwide T) .nil pass0 (pa_cons (pv 2) (pa_cons (pe_ix (k_ixL K) (pv 0) pe_int (fun _ _ => rfl)) (pa_cons (pv 1) pa_nil)))))) pss_nil)
      (pss_one (ps_asg (pv 2) (pg_sub (pv 0) pe_int set_list)))))) pss_nil)
      (pss_cons (ps_if (pt_cmpR op_gt (pe_ix (k_ixL K) (pv 0) pe_int (fun _ _ => rfl)) pe_int (nomark _)) (pss_cons (ps_set (i := 3) sc_ltake.nd rfl (by first | exact Or.inl rfl | exact Or.inr rfl) (pe_op op_mod (pe_callTy k_int (by rfl) T.z_int (by decide +kernel) (pa_cons (pe_ix (k_ixL K) (pv 0) pe_int (fun _ _ => rfl)) pa_nil)) (pv 1)))
      (pss_cons (ps_asg (pe_op op_fdivW (pe_callTy k_int (by rfl) T.z_int (by decide +kernel) (pa_cons (pe_ix (k_ixL K) (pv 0) pe_int (fun _ _ => rfl)) pa_nil)) (pv 1)) (pg_sub (pv 0) pe_int set_list))
      (pss_one (ps_ret (pv 3))))) pss_nil)
      (pss_one (ps_ret (pe_call (ok_lwide T) (hr.mono (by decide)) (by rfl) T.d_lwide.gl T.d_lwide.F.kp (b_lwide T) .nil pass0 (pa_cons (pe_ix (k_ixL K) (pv 0) pe_int (fun _ _ => rfl)) (pa_cons (pe_ix (k_ixL K) (pv 0) pe_int (fun _ _ => rfl)) (pa_cons (pv 1) pa_nil)))))))))), ?_⟩
    rw [st_ltake]
    walk_at "rd"
    by_cases h2 : many < 2
    · rw [if_pos h2]
      exact q 0 H (by decide) (by omega) (.refl _ _) (hS.mono (by omega))
    · rw [if_neg h2]
      obtain ⟨ns, k, cur, mix, cnt, h1, hne, h3, h4, h5, h6⟩ := hS
      refine ⟨_, _, sq_of h1, atI_nat (j := 4) rfl, _, rfl, _, _, h1, rfl, ?_⟩
      obtain ⟨H1, e1⟩ : ∃ H1, H1 = upd H st (.lst [.ref l, .int (k : Int), .int cur, .int mix, .int ((cnt + 1 : Nat) : Int)]) := ⟨_, rfl⟩
      have s1 : H1 st = some (.lst [.ref l, .int (k : Int), .int cur, .int mix, .int ((cnt + 1 : Nat) : Int)]) := by rw [e1, upd_same]
      have l1 : H1 l = some (.lst (ns.map V.int)) := by rw [e1, upd_ne hne]; exact h3
      have x1 : ExB st H H1 := by rw [e1]; exact (ExB.refl st H).at
      have eu : upd H st (.lst ([V.ref l, V.int (k : Int), V.int cur, V.int mix, V.int (cnt : Int)].set (Int.toNat 4) (V.int ((cnt : Int) + 1)))) = H1 := by rw [e1]; rfl
      rw [eu]
      clear eu
      walk_at "rd"
      -- the way out where a rest is drawn from
      have rest : ∀ (H5 : Hp) (k5 : Nat) (cur5 : Int), 0 < cur5 → H5 st = some (.lst [.ref l, .int (k5 : Int), .int cur5, .int mix, .int ((cnt + 1 : Nat) : Int)]) → H5 l = some (.lst (ns.map V.int)) → ExB st H H5 →
          CDivW cur5 many ∧ Q (.int (cur5 % many)) (upd H5 st (.lst [.ref l, .int (k5 : Int), .int (cur5 / many), .int mix, .int ((cnt + 1 : Nat) : Int)])) := fun H5 k5 cur5 hc5 s5 l5 x5 => by
        refine ⟨wide_div (b := 65) hm0 (by omega) (by decide) (by decide), q _ _ (Int.emod_nonneg _ (by omega)) (Int.emod_lt_of_pos _ hm0) x5.at ?_⟩
        exact ⟨ns, k5, cur5 / many, mix, cnt + 1, upd_same, hne, by rw [upd_ne hne]; exact l5, h4, Int.ediv_nonneg (by omega) (by omega), by omega⟩
      -- .. where a cell is
      have wide : ∀ (H5 : Hp) (k5 : Nat) (cur5 z : Int), 0 ≤ cur5 → H5 st = some (.lst [.ref l, .int (k5 : Int), .int cur5, .int mix, .int ((cnt + 1 : Nat) : Int)]) → H5 l = some (.lst (ns.map V.int)) → ExB st H H5 →
          sp_wide [.int z, .int ((cnt + 1 : Nat) : Int), .int many] H5 Q E0 := fun H5 k5 cur5 z hc5 s5 l5 x5 =>
        ⟨z, _, many, rfl, Int.natCast_nonneg _, by omega, hm0, hm1, fun r hr0 hr1 => q r H5 hr0 hr1 x5 ⟨ns, k5, cur5, mix, cnt + 1, s5, hne, l5, h4, hc5, by omega⟩⟩
      refine ⟨_, _, sq_of s1, atI_nat (j := 2) rfl, rfl, ?_⟩
      walk_at "rd"
      by_cases hz : cur = 0
      · subst hz
        rw [if_pos rfl]
        refine ⟨_, _, sq_of s1, atI_nat (j := 1) rfl, _, _, sq_of s1, atI_nat (j := 0) rfl, _, rfl, _, .inl (sq_of l1), _, rfl, ?_⟩
        rw [List.length_map]
        by_cases hk : (k : Int) < (ns.length : Int)
        · rw [if_pos hk]
          have hk2 : k < ns.length := by omega
          refine ⟨_, _, sq_of s1, atI_nat (j := 0) rfl, _, _, sq_of s1, atI_nat (j := 1) rfl, _, rfl, _, rfl, _, _, sq_of l1, atN hk2, _, rfl, _, _, sq_of s1, atI_nat (j := 1) rfl, _, rfl, _, _, s1, rfl, ?_⟩
          obtain ⟨H2, e2⟩ : ∃ H2, H2 = upd H1 st (.lst [.ref l, .int ((k + 1 : Nat) : Int), .int 0, .int mix, .int ((cnt + 1 : Nat) : Int)]) := ⟨_, rfl⟩
          have s2 : H2 st = some (.lst [.ref l, .int ((k + 1 : Nat) : Int), .int 0, .int mix, .int ((cnt + 1 : Nat) : Int)]) := by rw [e2, upd_same]
          have l2 : H2 l = some (.lst (ns.map V.int)) := by rw [e2, upd_ne hne]; exact l1
          have x2 : ExB st H H2 := by rw [e2]; exact x1.at
          have eu : upd H1 st (.lst ([V.ref l, V.int (k : Int), V.int 0, V.int mix, V.int ((cnt + 1 : Nat) : Int)].set (Int.toNat 1) (V.int ((k : Int) + 1)))) = H2 := by rw [e2]; rfl
          rw [eu]
          clear eu
          refine ⟨⟨by decide, by decide, by decide⟩, ?_⟩
          by_cases hb : ns.getD k 0 < 10 ^ Int.toNat 18
          · rw [if_pos hb]
            exact ⟨_, _, sq_of s2, atI_nat (j := 4) rfl, wide H2 (k + 1) 0 _ (by decide) s2 l2 x2⟩
          · rw [if_neg hb]
            have hpos : (0 : Int) < ns.getD k 0 := by
              have : (0 : Int) < 10 ^ Int.toNat 18 := by decide
              omega
            generalize ns.getD k 0 = cell at hpos ⊢
            obtain ⟨H3, e3⟩ : ∃ H3, H3 = upd H2 st (.lst [.ref l, .int ((k + 1 : Nat) : Int), .int cell, .int mix, .int ((cnt + 1 : Nat) : Int)]) := ⟨_, rfl⟩
            have s3 : H3 st = some (.lst [.ref l, .int ((k + 1 : Nat) : Int), .int cell, .int mix, .int ((cnt + 1 : Nat) : Int)]) := by rw [e3, upd_same]
            have l3 : H3 l = some (.lst (ns.map V.int)) := by rw [e3, upd_ne hne]; exact l2
            have x3 : ExB st H H3 := by rw [e3]; exact x2.at
            refine ⟨_, _, s2, rfl, ?_⟩
            have eu : upd H2 st (.lst ([V.ref l, V.int ((k + 1 : Nat) : Int), V.int 0, V.int mix, V.int ((cnt + 1 : Nat) : Int)].set (Int.toNat 2) (V.int cell))) = H3 := by rw [e3]; rfl
            rw [eu]
            clear eu
            obtain ⟨r1, r2⟩ := rest H3 (k + 1) cell hpos s3 l3 x3
            refine ⟨_, _, sq_of s3, atI_nat (j := 2) rfl, _, rfl, ?_⟩
            rw [if_pos hpos]
            refine ⟨_, _, sq_of s3, atI_nat (j := 2) rfl, _, rfl, hm0, _, _, sq_of s3, atI_nat (j := 2) rfl, _, rfl, r1, _, _, s3, rfl, ?_⟩
            exact r2
        · rw [if_neg hk]
          refine ⟨_, _, sq_of s1, atI_nat (j := 2) rfl, _, rfl, ?_⟩
          rw [if_neg (by omega)]
          refine ⟨_, _, sq_of s1, atI_nat (j := 3) rfl, _, _, sq_of s1, atI_nat (j := 4) rfl, ?_⟩
          exact wide H1 k 0 mix (by decide) s1 l1 x1
      · rw [if_neg hz]
        refine ⟨_, _, sq_of s1, atI_nat (j := 2) rfl, _, rfl, ?_⟩
        rw [if_pos (by omega)]
        obtain ⟨r1, r2⟩ := rest H1 k cur (by omega) s1 l1 x1
        refine ⟨_, _, sq_of s1, atI_nat (j := 2) rfl, _, rfl, hm0, _, _, sq_of s1, atI_nat (j := 2) rfl, _, rfl, r1, _, _, s1, rfl, ?_⟩
        exact r2
abbrev s_lnear : Stmt := top 63
abbrev N_lnear : List Str := ["_law_store_here", "_law_low", "_law_high", "_law_kind"]
theorem sc_lnear : FnScope N_lnear ["_law_store_here", "_law_low", "_law_high"] (defScope s_lnear) := ⟨rfl, rfl, rfl, by decide +kernel, rfl, by decide +kernel, by decide +kernel⟩
theorem st_lnear {x0 x1 x2 : V} : start N_lnear [x0, x1, x2] = [some x0, some x1, some x2, none] := rfl

theorem b_lnear (T : Fx K mg) : L2.Binds K (fdOf K (T_lnear K)) ["_law_store_here", "_law_low", "_law_high"] [] := T.d_lnear.F.binds (ps := ["_law_store_here", "_law_low", "_law_high"]) fun _ _ _ _ _ _ us hl => match us, hl with | [_, _, _], _ => rfl
def sp_near : Sp := fun vs H Q _ => ∃ (st l : Addr) (c : Nat) (hi : Int), vs = [.ref st, .int 0, .int hi] ∧ SOk H st l c ∧ c ≤ 999000 ∧ 0 ≤ hi ∧ hi ≤ 1000 ∧
  ∀ (r : Int) (H2 : Hp), 0 ≤ r → r ≤ hi → ExB st H H2 → SOk H2 st l (c + 2) → Q (.int r) H2
theorem ok_lnear (T : Fx K mg) : FnOk P w K mg base CX0 4 (T_lnear K) (fdOf K (T_lnear K)) ["_law_store_here", "_law_low", "_law_high"] sp_near := by
  refine T.d_lnear.F.ok sc_lnear (fun vs H Q E h => ?_) (fun cdv A outer s H vs Q E hr h => ?_)
  · obtain ⟨st, l, c, hi, rfl, _⟩ := h
    rfl
  · obtain ⟨st, l, c, hi, rfl, hS, hc, h0, h1, q⟩ := h
    refine ⟨_, (pss_cons (ps_set (i := 3) sc_lnear.nd rfl (by first | exact Or.inl rfl | exact Or.inr rfl) (pe_call (ok_ltake T) (hr.mono (by decide)) (by rfl) T.d_ltake.gl T.d_ltake.F.kp (b_ltake T) .nil pass0 (pa_cons (pv 0) (pa_cons pe_int pa_nil))))
      (pss_cons (ps_if (pt_cmpR op_lt (pv 3) pe_int (nomark _)) (pss_one (ps_ret (pe_ix (k_ixL K) (pe_lst (pa_cons (pv 1) (pa_cons (pv 2) (pa_cons (pe_callB (call_min2 rfl) (by rfl) T.z_min (by decide +kernel) (pa_cons (pe_op op_add (pv 1) pe_int) (pa_cons (pv 2) pa_nil))) (pa_cons (pe_callB (call_max2 rfl) (by rfl) T.z_max (by decide +kernel) (pa_cons (pe_op op_sub (pv 2) pe_int) (pa_cons (pv 1) pa_nil))) pa_nil))))) (pv 3) (fun _ _ => rfl)))) pss_nil)
      (pss_one (ps_ret (pe_op op_add (pv 1) (pe_call (ok_ltake T) (hr.mono (by decide)) (by rfl) T.d_ltake.gl T.d_ltake.F.kp (b_ltake T) .nil pass0 (pa_cons (pv 0) (pa_cons (pe_op op_add (pe_op op_sub (pv 2) (pv 1)) pe_int) pa_nil)))))))), ?_⟩
    rw [st_lnear]
    walk_at "rd"
    refine ⟨st, l, c, 12, rfl, hS, by omega, by decide, by decide, fun r H1 hr0 hr1 x1 S1 => ?_⟩
    walk_at "rd"
    by_cases hk : r < 4
    · rw [if_pos hk]
      refine ⟨_, _, ⟨rfl, rfl⟩, _, _, ⟨rfl, rfl⟩, sz_of (by simp), fun p hp => ?_⟩
      have fin : ∀ z : Int, 0 ≤ z → z ≤ hi → Q (.int z) (upd H1 p (.lst [.int 0, .int hi, .int (if hi < 1 then hi else 1), .int (if 0 > hi - 1 then 0 else hi - 1)])) := fun z z0 z1 => q z _ z0 z1 (x1.trans (ExB.of (Ex.new hp))) ((S1.new hp).mono (by omega))
      have hr : r = 0 ∨ r = 1 ∨ r = 2 ∨ r = 3 := by omega
      rcases hr with rfl | rfl | rfl | rfl
      · exact ⟨_, _, sq_of upd_same, atI_nat (j := 0) rfl, fin 0 (by omega) (by omega)⟩
      · exact ⟨_, _, sq_of upd_same, atI_nat (j := 1) rfl, fin hi (by omega) (by omega)⟩
      · exact ⟨_, _, sq_of upd_same, atI_nat (j := 2) rfl, fin _ (by split <;> omega) (by split <;> omega)⟩
      · exact ⟨_, _, sq_of upd_same, atI_nat (j := 3) rfl, fin _ (by split <;> omega) (by split <;> omega)⟩
    · rw [if_neg hk]
      refine ⟨st, l, c + 1, _, rfl, S1, by omega, by omega, by omega, fun r2 H2 h20 h21 x2 S2 => ?_⟩
      walk_at "rd"
      exact q r2 H2 h20 (by omega) (x1.trans x2) S2
abbrev s_lsize : Stmt := top 67
abbrev N_lsize : List Str := ["_law_mask", "_law_many", "_law_k"]
theorem sc_lsize : FnScope N_lsize ["_law_mask"] (defScope s_lsize) := ⟨rfl, rfl, rfl, by decide +kernel, rfl, by decide +kernel, by decide +kernel⟩
theorem st_lsize {x0 : V} : start N_lsize [x0] = [some x0, none, none] := rfl

theorem b_lsize (T : Fx K mg) : L2.Binds K (fdOf K (T_lsize K)) ["_law_mask"] [] := T.d_lsize.F.binds (ps := ["_law_mask"]) fun _ _ _ _ _ _ us hl => match us, hl with | [_], _ => rfl
def sp_size : Sp := fun vs H Q _ => ∃ m : Nat, vs = [.int (m : Int)] ∧ ∀ r : Nat, r ≤ 20 → Q (.int (r : Int)) H
theorem ok_lsize (T : Fx K mg) : FnOk P w K mg base CX0 1 (T_lsize K) (fdOf K (T_lsize K)) ["_law_mask"] sp_size := by
  refine T.d_lsize.F.ok sc_lsize (fun vs H Q E h => ?_) (fun cdv A outer s H vs Q E hr h => ?_)
  · obtain ⟨m, rfl, _⟩ := h
    rfl
  · obtain ⟨m, rfl, q⟩ := h
    refine ⟨_, (pss_cons (ps_set (i := 1) sc_lsize.nd rfl (by first | exact Or.inl rfl | exact Or.inr rfl) pe_int)
      (pss_cons (ps_for PassesOwn.never (by rfl) (pi_range1 (by rfl) T.z_range (pa_cons pe_int pa_nil)) (pg_name (i := 2) sc_lsize.nd rfl (by first | exact Or.inl rfl | exact Or.inr rfl)) (pss_cons (ps_set (i := 1) sc_lsize.nd rfl (by first | exact Or.inl rfl | exact Or.inr rfl) (pe_op op_add (pv 1) (pe_op op_bit1 (pe_op op_shrNN (pv 0) (pv 2)) pe_int)))
      (pss_one (ps_if (pt_cmpR op_lt (pe_op op_shrNN (pv 0) (pv 2)) pe_int (nomark _)) (pss_one ps_break) pss_nil))))
      (pss_one (ps_ret (pv 1))))), ?_⟩
    rw [st_lsize]
    walk_at "rd"
    refine ⟨by decide, by decide, ?_⟩
    refine loop_range (fun i σ H' => H' = H ∧ ∃ (r : Nat) (v : Option V), σ = [some (.int (m : Int)), some (.int (r : Int)), v] ∧ r ≤ i) ⟨rfl, 0, none, rfl, Nat.le_refl _⟩ ?_ ?_
    · rintro i σ H' hi ⟨rfl, r, v, rfl, hr⟩
      have hi2 : i < 20 := hi
      walk_at "rd"
      have hm : m / 2 ^ i % 2 < 2 := Nat.mod_lt _ (by decide)
      have er : (r : Int) + ((m / 2 ^ i % 2 : Nat) : Int) = ((r + m / 2 ^ i % 2 : Nat) : Int) := by omega
      rw [er]
      by_cases hb : ((m / 2 ^ i : Nat) : Int) < 2
      · rw [if_pos hb]
        exact q _ (by omega)
      · rw [if_neg hb]
        exact ⟨_, _, ⟨rfl, rfl⟩, by omega⟩
    · rintro σ H' ⟨rfl, r, v, rfl, hr⟩
      walk_at "rd"
      exact q r hr
abbrev s_lparity : Stmt := top 68
abbrev N_lparity : List Str := ["_law_mask", "_law_here"]
theorem sc_lparity : FnScope N_lparity ["_law_mask", "_law_here"] (defScope s_lparity) := ⟨rfl, rfl, rfl, by decide +kernel, rfl, by decide +kernel, by decide +kernel⟩
theorem st_lparity {x0 x1 : V} : start N_lparity [x0, x1] = [some x0, some x1] := rfl

theorem b_lparity (T : Fx K mg) : L2.Binds K (fdOf K (T_lparity K)) ["_law_mask", "_law_here"] [] := T.d_lparity.F.binds (ps := ["_law_mask", "_law_here"]) fun _ _ _ _ _ _ us hl => match us, hl with | [_, _], _ => rfl
def sp_par : Sp := fun vs H Q _ => ∃ m h : Nat, vs = [.int (m : Int), .int (h : Int)] ∧ ∀ r : Int, IsBit r → Q (.int r) H
theorem ok_lparity (T : Fx K mg) : FnOk P w K mg base CX0 2 (T_lparity K) (fdOf K (T_lparity K)) ["_law_mask", "_law_here"] sp_par := by
  refine T.d_lparity.F.ok sc_lparity (fun vs H Q E h => ?_) (fun cdv A outer s H vs Q E hr h => ?_)
  · obtain ⟨m, x, rfl, _⟩ := h
    rfl
  · obtain ⟨m, x, rfl, q⟩ := h
    refine ⟨_, (pss_one (ps_ret (pe_op op_mod (pe_callTy k_int (by rfl) T.z_int (by decide +kernel) (pa_cons (pe_call (ok_lsize T) (hr.mono (by decide)) (by rfl) T.d_lsize.gl T.d_lsize.F.kp (b_lsize T) .nil pass0 (pa_cons (pe_op op_andNN (pv 0) (pv 1)) pa_nil)) pa_nil)) pe_int))), ?_⟩
    rw [st_lparity]
    walk_at "rd"
    refine ⟨_, rfl, fun r hr => ?_⟩
    walk_at "rd"
    refine ⟨by decide, q _ ?_⟩
    unfold IsBit
    omega
abbrev s_lshuffled : Stmt := top 69
abbrev N_lshuffled : List Str := ["_law_store_here", "_law_row", "_law_left", "_law_found", "_law_k"]
theorem sc_lshuffled : FnScope N_lshuffled ["_law_store_here", "_law_row"] (defScope s_lshuffled) := ⟨rfl, rfl, rfl, by decide +kernel, rfl, by decide +kernel, by decide +kernel⟩
theorem st_lshuffled {x0 x1 : V} : start N_lshuffled [x0, x1] = [some x0, some x1, none, none, none] := rfl

theorem b_lshuffled (T : Fx K mg) : L2.Binds K (fdOf K (T_lshuffled K)) ["_law_store_here", "_law_row"] [] := T.d_lshuffled.F.binds (ps := ["_law_store_here", "_law_row"]) fun _ _ _ _ _ _ us hl => match us, hl with | [_, _], _ => rfl
def sp_shuf : Sp := fun vs H Q _ => ∃ (st l a : Addr) (c : Nat) (xs : List Int), vs = [.ref st, .ref a] ∧ SOk H st l c ∧ c ≤ 999000 ∧ a ≠ st ∧ H a = some (.lst (xs.map V.int)) ∧ xs.length ≤ 64 ∧
  ∀ (p : Addr) (ys : List Int) (H2 : Hp), H p = none → ExB st H H2 → H2 p = some (.lst (ys.map V.int)) → (∀ y ∈ ys, y ∈ xs) → SOk H2 st l (c + 64) → Q (.ref p) H2
theorem map_erase {α β : Type} (f : α → β) : ∀ (l : List α) (i : Nat), (l.map f).eraseIdx i = (l.eraseIdx i).map f
  | [], _ => rfl
  | _ :: _, 0 => rfl
  | a :: l, i + 1 => congrArg (f a :: ·) (map_erase f l i)
theorem seqIx {i : Int} {n : Nat} (h0 : 0 ≤ i) (h1 : i < n) : seqIndex? i n = some i.toNat := by
  unfold seqIndex?
  rw [if_neg (show ¬ i < 0 by omega)]
  show (if (decide (0 ≤ i) && decide (i < (n : Int))) = true then some i.toNat else none) = _
  rw [decide_eq_true h0, decide_eq_true h1]
  rfl
theorem ok_lshuffled (T : Fx K mg) : FnOk P w K mg base CX0 4 (T_lshuffled K) (fdOf K (T_lshuffled K)) ["_law_store_here", "_law_row"] sp_shuf := by
  refine T.d_lshuffled.F.ok sc_lshuffled (fun vs H Q E h => ?_) (fun cdv A outer s H vs Q E hr h => ?_)
  · obtain ⟨st, l, a, c, xs, rfl, _⟩ := h
    rfl
  · obtain ⟨st, l, a, c, xs, rfl, hS, hc, hne, ha, hl, q⟩ := h
    refine ⟨_, (pss_cons (ps_set (i := 2) sc_lshuffled.nd rfl (by first | exact Or.inl rfl | exact Or.inr rfl) (pe_callTy (k_list K) (by rfl) T.z_list (by decide +kernel) (pa_cons (pv 1) pa_nil)))
      (pss_cons (ps_set (i := 3) sc_lshuffled.nd rfl (by first | exact Or.inl rfl | exact Or.inr rfl) (pe_lst pa_nil))
      (pss_cons (ps_for PassesOwn.never (by rfl) (pi_range1 (by rfl) T.z_range (pa_cons (pe_callB (k_len K) (by rfl) T.z_len (by decide +kernel) (pa_cons (pv 1) pa_nil)) pa_nil)) (pg_name (i := 4) sc_lshuffled.nd rfl (by first | exact Or.inl rfl | exact Or.inr rfl)) (pss_one (ps_expr (pe_bm PySem.F.plainAttrs_list PySem.F.slot_list_append PySem.F.type_list_append mt_append (pv 3) (pa_cons (pe_bm PySem.F.plainAttrs_list PySem.F.slot_list_pop PySem.F.type_list_pop mt_popAt (pv 2) (pa_cons (pe_call (ok_ltake T) (hr.mono (by decide)) (by rfl) T.d_ltake.gl T.d_ltake.F.kp (b_ltake T) .nil pass0 (pa_cons (pv 0) (pa_cons (pe_callB (k_len K) (by rfl) T.z_len (by decide +kernel) (pa_cons (pv 2) pa_nil)) pa_nil))) pa_nil)) pa_nil)))))
      (pss_one (ps_ret (pv 3)))))), ?_⟩
    rw [st_lshuffled]
    walk_at "rd"
    refine ⟨_, .inl (sq_of ha), fun m hm => ⟨by simp, fun p hp => ?_⟩⟩
    have em : Ex H (upd H m (.lst (xs.map V.int))) := Ex.new hm
    have ep := em.trans (Ex.new (o := .lst []) hp)
    have hmp : m ≠ p := fun e => by
      rw [← e, upd_same] at hp
      cases hp
    have hpH : H p = none := fresh_back em hp
    obtain ⟨hm1, hm2⟩ := hS.ne hm
    obtain ⟨hp1, hp2⟩ := hS.ne hpH
    refine ⟨_, .inl (sq_of (ep _ _ ha)), by omega, by rw [List.length_map]; omega, ?_⟩
    rw [List.length_map, Int.toNat_natCast]
    refine loop_range (fun i σ H' => ∃ (left found : List Int) (v : Option V), σ = [some (.ref st), some (.ref a), some (.ref m), some (.ref p), v] ∧ ExB st H H' ∧ SOk H' st l (c + i) ∧ H' m = some (.lst (left.map V.int)) ∧ H' p = some (.lst (found.map V.int)) ∧
      left.length + i = xs.length ∧ found.length = i ∧ (∀ y ∈ left, y ∈ xs) ∧ (∀ y ∈ found, y ∈ xs)) ⟨xs, [], none, rfl, ExB.of ep, hS.ex ep, by rw [upd_ne hmp, upd_same], upd_same, rfl, rfl, fun _ h => h, fun _ h => by cases h⟩ ?_ ?_
    · rintro i σ H' hi ⟨left, found, v, rfl, x, S, hm', hp', hL, hF, iL, iF⟩
      walk_at "rd"
      refine ⟨ty_list hp', ty_list hm', _, .inl (sq_of hm'), ?_⟩
      rw [List.length_map]
      refine ⟨st, l, c + i, _, rfl, S, by omega, by omega, by omega, fun r H1 hr0 hr1 x1 S1 => ?_⟩
      walk_at "rd"
      have hm1' := x1 _ _ hm1 hm'
      have hp1' := x1 _ _ hp1 hp'
      have hrl : r.toNat < left.length := by omega
      refine ⟨_, _, _, hm1', by omega, by omega, by rw [List.length_map]; exact seqIx hr0 (by omega), by rw [List.getElem?_map, List.getElem?_eq_getElem hrl]; rfl, _, by rw [upd_ne hmp.symm]; exact hp1', ?_, left.eraseIdx r.toNat, found ++ [left[r.toNat]], ?_, ?_, ?_, ?_, ?_, ?_, ?_, ?_⟩
      · rw [List.length_map]
        exact sz_lt (by omega)
      · intro b o nb hb
        rw [upd_ne (ne_of_none hb hpH), upd_ne (ne_of_none hb hm)]
        exact x1 b o nb (x b o nb hb)
      · exact ((S1.upd hm1 hm2).upd hp1 hp2)
      · rw [upd_ne hmp, upd_same, map_erase]
      · rw [upd_same, List.map_append]
        rfl
      · rw [List.length_eraseIdx_of_lt hrl]
        omega
      · rw [List.length_append, hF]
        rfl
      · exact fun y hy => iL y (List.mem_of_mem_eraseIdx hy)
      · intro y hy
        rcases List.mem_append.mp hy with h | h
        · exact iF y h
        · rw [List.mem_singleton.mp h]
          exact iL _ (List.getElem_mem hrl)
    · rintro σ H' ⟨left, found, v, rfl, x, S, hm', hp', hL, hF, iL, iF⟩
      walk_at "rd"
      exact q p found H' hpH x hp' iF (S.mono (by omega))
end
end Bs
/-! Walk 7: the law's tables. -/
namespace Bs
open PySem PySem.Spec PyProof.Rows L2 Evl
local macro_rules | `(tactic| walk_at "rd") => `(tactic| try simp only [rd_var, rd_c, rd_op, rd_un, rd_I, rd_I0, rd_U, rd_NN, rd_shr, rd_shl1, rd_XB, rd_eq, rd_ne, scal_int, rd_B, rd_test, rd_and, rd_or, rd_not, rd_andV, rd_orV, rd_notV, rd_if, rd_nil, rd_cons, rd_tup, rd_lst, rd_call, rd_CB, rd_prop, rd_meth, rd_fld, rd_make, rd_sl, rd_noPart, rd_part, rd_bm0, rd_bm, rd_bits, rd_ixL, rd_ixT, rd_append, rd_addN, rd_dbl, rd_half, rd_int, rd_intB, rd_bit1, rd_popAt, rd_slL, rd_sortedI, rd_lstRg, rd_rg1, tru_int, rd_len, rd_listS, rd_tupS, rd_sum, rd_min, rd_iEnum, rd_yes, rd_asg, rd_name, rd_gnil, rd_gcons1, rd_two, rd_gtup, rd_gsub, rd_setL, rd_seq, rd_next, rd_break, rd_never, rd_drop, rd_ret, rd_retN, rd_ifS, rd_par, rd_aug, rd_sFld, rd_for, rd_iList, rd_iTup, rd_iRng1, rd_lc, vint, vbl, vref, natc, cx_K, cx_noxK, List.getElem?_cons_zero, List.getElem?_cons_succ, Option.some.injEq, exists_eq_left, exists_eq_left', exists_eq_right, exists_eq_right', true_and, and_true, List.cons.injEq, List.cons_append, List.nil_append, List.append_nil, List.set_cons_zero, List.set_cons_succ, Bool.not_true, Bool.not_false, decide_eq_true_eq, if_true, if_false, Bool.false_eq_true, reduceIte, and_self, Int.zero_add, exists_eq, exists_eq', wipe, List.map_cons, List.map_nil])
section
variable {P : Program} {w : World} {K : PySem.W.Frag} {mg : Str → Option Value} {base : Heap}
/-- a new list of 2^n bits -/
def RetBits (st l : Addr) (c n : Nat) (H : Hp) (Q : VK) : Prop := ∀ (p : Addr) (bs : List Int) (H2 : Hp), H p = none → ExB st H H2 → SOk H2 st l c → H2 p = some (.lst (bs.map V.int)) → bs.length = 2 ^ n → (∀ b ∈ bs, IsBit b) → Q (.ref p) H2
theorem ExB.upd_new {st : Addr} {H H' : Hp} {L : Addr} {o : HO} (h : H L = none) (e : ExB st H H') : ExB st H (upd H' L o) := fun a u n ha => by
  rw [upd_ne (ne_of_none ha h)]
  exact e a u n ha
theorem fresh_backB {st : Addr} {H H' : Hp} {p : Addr} (e : ExB st H H') (hst : ∃ o, H st = some o ∧ ∃ o', H' st = some o') (h : H' p = none) : H p = none := by
  obtain ⟨o, h1, o', h2⟩ := hst
  cases q : H p with
  | none => rfl
  | some u =>
    have n : p ≠ st := fun z => by
      rw [z, h2] at h
      cases h
    rw [e p u n q] at h
    cases h
theorem SOk.back {H H' : Hp} {st l p : Addr} {c d : Nat} (h : SOk H st l c) (h' : SOk H' st l d) (e : ExB st H H') (hp : H' p = none) : H p = none := by
  obtain ⟨o, h1⟩ := h.st
  obtain ⟨o', h2⟩ := h'.st
  exact fresh_backB e ⟨o, h1, o', h2⟩ hp
theorem RetBits.go {st l : Addr} {c d n : Nat} {H H' : Hp} {Q : VK} (k : RetBits st l d n H Q) (h : SOk H st l 1000000) (h' : SOk H' st l c) (e : ExB st H H') (hcd : c ≤ d) : RetBits st l c n H' Q :=
  fun p bs H2 hp e2 S2 h2 hl hb => k p bs H2 (h.back h' e hp) (e.trans e2) (S2.mono hcd) h2 hl hb
theorem RetBits.go2 {st l : Addr} {c c0 c1 d n : Nat} {H H' : Hp} {Q : VK} (k : RetBits st l d n H Q) (h : SOk H st l c0) (h' : SOk H' st l c1) (e : ExB st H H') (hcd : c ≤ d) : RetBits st l c n H' Q :=
  fun p bs H2 hp e2 S2 h2 hl hb => k p bs H2 (h.back h' e hp) (e.trans e2) (S2.mono hcd) h2 hl hb
theorem RetBits.mono {st l : Addr} {c d n : Nat} {H : Hp} {Q : VK} (k : RetBits st l d n H Q) (hcd : c ≤ d) : RetBits st l c n H Q := fun p bs H2 hp e2 S2 h2 hl hb => k p bs H2 hp e2 (S2.mono hcd) h2 hl hb
/-- a comprehension of bits -/
theorem lcl_bits {st l : Addr} {c n : Nat} {g : TG} {te : TE} {vs : List Nat} {σ : L2.St} {Q : VK} {H : Hp} (hn : n ≤ 6) (hS : SOk H st l c)
    (he : ∀ (i : Nat) (H' : Hp), i < 2 ^ n → ExB st H H' → SOk H' st l c → ∀ R : VK, (∀ (y : Int) (H'' : Hp), IsBit y → Ex H' H'' → R (.int y) H'') → g (.int (i : Int)) (wipe σ vs) H' fun σ2 H2 => wipe σ2 vs = wipe σ vs ∧ te σ2 H2 R)
    (q : RetBits st l c n H Q) : LcLoop (Itr 0 (2 ^ n)) g tYes te vs σ Q H := by
  have h64 : 2 ^ n ≤ 64 := Nat.pow_le_pow_right (n := 2) (by decide) hn
  refine lcl_rangeS (fun i ys H' => ExB st H H' ∧ SOk H' st l c ∧ ys.length = i ∧ ∀ b ∈ ys, IsBit b) (by omega) (fun i ys H' L o hL ⟨a, b, d, e⟩ => ⟨a.upd_new hL, b.upd (hS.ne hL).1 (hS.ne hL).2, d, e⟩) ⟨.refl _ _, hS, rfl, fun b h => by cases h⟩ (fun i ys H' h => h.2.2.1) (fun i ys H' hi ⟨a, b, d, e⟩ R k => ?_)
    (fun p ys H' hp ⟨a, b, d, e⟩ h => q p ys H' hp a b h d e)
  refine he i H' hi a b R fun y H'' hy ex => k y H'' ⟨a.trans (ExB.of ex), b.ex ex, by rw [List.length_append, d]; rfl, fun z hz => ?_⟩ fun L o _ h => ex L o h
  rcases List.mem_append.mp hz with h | h
  · exact e z h
  · rw [List.mem_singleton.mp h]
    exact hy
theorem bit_mod (n : Nat) : IsBit ((n % 2 : Nat) : Int) := by
  unfold IsBit
  omega
theorem bit_if (p : Prop) [Decidable p] : IsBit (if p then 1 else 0) := by
  split
  · exact .inr rfl
  · exact .inl rfl
theorem bit_max {a b : Int} (ha : IsBit a) (hb : IsBit b) : IsBit (if a > b then a else b) := by
  split
  · exact ha
  · exact hb
theorem bit_of {r : Int} (h0 : 0 ≤ r) (h1 : r < 2) : IsBit r := by
  unfold IsBit
  omega
abbrev s_lbits_up : Stmt := top 72
abbrev N_lbits_up : List Str := ["_law_store_here", "_law_wide_here", "_law_held", "_law_row", "_law_mask", "_law_k", "_law_x"]
theorem sc_lbits_up : FnScope N_lbits_up ["_law_store_here", "_law_wide_here"] (defScope s_lbits_up) := ⟨rfl, rfl, rfl, by decide +kernel, rfl, by decide +kernel, by decide +kernel⟩
theorem st_lbits_up {x0 x1 : V} : start N_lbits_up [x0, x1] = [some x0, some x1, none, none, none, none, none] := rfl

theorem b_lbits_up (T : Fx K mg) : L2.Binds K (fdOf K (T_lbits_up K)) ["_law_store_here", "_law_wide_here"] [] := T.d_lbits_up.F.binds (ps := ["_law_store_here", "_law_wide_here"]) fun _ _ _ _ _ _ us hl => match us, hl with | [_, _], _ => rfl
abbrev s_lbits_of : Stmt := top 71
abbrev N_lbits_of : List Str := ["_law_store_here", "_law_wide_here", "_law_kind", "_law_size_here", "_law_mask", "_law_tilt", "_law_row", "_law_k", "_law_at", "_law_rule", "_law_heavy_row", "_law_least", "_law_one_here", "_law_two", "_law_x"]
theorem sc_lbits_of : FnScope N_lbits_of ["_law_store_here", "_law_wide_here", "_law_kind"] (defScope s_lbits_of) := ⟨rfl, rfl, rfl, by decide +kernel, rfl, by decide +kernel, by decide +kernel⟩
theorem st_lbits_of {x0 x1 x2 : V} : start N_lbits_of [x0, x1, x2] = [some x0, some x1, some x2, none, none, none, none, none, none, none, none, none, none, none, none] := rfl

theorem b_lbits_of (T : Fx K mg) : L2.Binds K (fdOf K (T_lbits_of K)) ["_law_store_here", "_law_wide_here", "_law_kind"] [] := T.d_lbits_of.F.binds (ps := ["_law_store_here", "_law_wide_here", "_law_kind"]) fun _ _ _ _ _ _ us hl => match us, hl with | [_, _, _], _ => rfl
def sp_bof : Sp := fun vs H Q _ => ∃ (st l : Addr) (c n : Nat) (kind : Int), vs = [.ref st, .int (n : Int), .int kind] ∧ SOk H st l c ∧ c ≤ 900000 ∧ n ≤ 6 ∧ RetBits st l (c + 200) n H Q
def sp_bup : Sp := fun vs H Q _ => ∃ (st l : Addr) (c n : Nat), vs = [.ref st, .int (n : Int)] ∧ SOk H st l c ∧ c ≤ 900000 ∧ n ≤ 6 ∧ RetBits st l (c + 10) n H Q
theorem ok_lbits_up (T : Fx K mg) : FnOk P w K mg base CX0 4 (T_lbits_up K) (fdOf K (T_lbits_up K)) ["_law_store_here", "_law_wide_here"] sp_bup := by
  refine T.d_lbits_up.F.ok sc_lbits_up (fun vs H Q E h => ?_) (fun cdv A outer s H vs Q E hr h => ?_)
  · obtain ⟨st, l, c, n, rfl, _⟩ := h
    rfl
  · obtain ⟨st, l, c, n, rfl, hS, hc, hn, q⟩ := h
    refine ⟨_, (pss_cons (ps_setLc (i := 2) (own := [("_law_k", 5)]) (g := gName 5) (tt := tYes) (by rfl) sc_lbits_up.nd rfl rfl (sw_true rfl rfl rfl (by decide +kernel)) (pi_range1 (by rfl) T.z_range (pa_cons (pe_call (ok_ltake T) (hr.mono (by decide)) (by rfl) T.d_ltake.gl T.d_ltake.F.kp (b_ltake T) .nil pass0 (pa_cons (pv 0) (pa_cons pe_int pa_nil))) pa_nil)) (blkOk_by (own := [("_law_k", 5)]) (N := N_lbits_up) (sc := defScope s_lbits_up) (by decide +kernel)) (fun _ _ _ _ _ => (pg_name (i := 5) sc_lbits_up.nd rfl (by first | exact Or.inl rfl | exact Or.inr rfl))) (fun _ _ _ _ _ => pts_nil) (fun _ _ _ _ _ => (pe_call (ok_ltake T) (hr.mono (by decide)) (by rfl) T.d_ltake.gl T.d_ltake.F.kp (b_ltake T) .nil pass0 (pa_cons (pv 0) (pa_cons (pe_op op_shl1 pe_int (pv 1)) pa_nil)))))
      (pss_cons (ps_set (i := 3) sc_lbits_up.nd rfl (by first | exact Or.inl rfl | exact Or.inr rfl) (pe_lc (own := [("_law_x", 6)]) (g := gName 6) (tt := tYes) (by rfl) sc_lbits_up.nd (pi_range1 (by rfl) T.z_range (pa_cons (pe_op op_shl1 pe_int (pv 1)) pa_nil)) (blkOk_by (own := [("_law_x", 6)]) (N := N_lbits_up) (sc := defScope s_lbits_up) (by decide +kernel)) (fun _ _ _ _ _ => (pg_name (i := 6) sc_lbits_up.nd rfl (by first | exact Or.inl rfl | exact Or.inr rfl))) (fun _ _ _ _ _ => pts_nil) (fun _ _ _ _ _ => pe_int)))
      (pss_cons (ps_for PassesOwn.never (by rfl) (ki_list K (pv 2)) (pg_name (i := 4) sc_lbits_up.nd rfl (by first | exact Or.inl rfl | exact Or.inr rfl)) (pss_one (ps_set (i := 3) sc_lbits_up.nd rfl (by first | exact Or.inl rfl | exact Or.inr rfl) (pe_lc (own := [("_law_x", 6)]) (g := gName 6) (tt := tYes) (by rfl) sc_lbits_up.nd (pi_range1 (by rfl) T.z_range (pa_cons (pe_callB (k_len K) (by rfl) T.z_len (by decide +kernel) (pa_cons (pv 3) pa_nil)) pa_nil)) (blkOk_by (own := [("_law_x", 6)]) (N := N_lbits_up) (sc := defScope s_lbits_up) (by decide +kernel)) (fun _ _ _ _ _ => (pg_name (i := 6) sc_lbits_up.nd rfl (by first | exact Or.inl rfl | exact Or.inr rfl))) (fun _ _ _ _ _ => pts_nil) (fun _ _ _ _ _ => (pe_callB (call_max2 rfl) (by rfl) T.z_max (by decide +kernel) (pa_cons (pe_ix (k_ixL K) (pv 3) (pv 6) (fun _ _ => rfl)) (pa_cons (pe_callTy k_intB (by rfl) T.z_int (by decide +kernel) (pa_cons (pe_cmpR op_eq (pe_op op_andNN (pv 6) (pv 4)) (pv 4) (nomark _)) pa_nil)) pa_nil))))))))
      (pss_one (ps_ret (pv 3)))))), ?_⟩
    rw [st_lbits_up]
    walk_at "rd"
    have h64 : 2 ^ n ≤ 64 := Nat.pow_le_pow_right (n := 2) (by decide) hn
    have hp0 := Nat.two_pow_pos n
    have i64 : ((2 ^ n : Nat) : Int) ≤ 64 := Int.ofNat_le.mpr h64
    have i0 : (0 : Int) < ((2 ^ n : Nat) : Int) := Int.ofNat_lt.mpr hp0
    refine ⟨st, l, c, 4, rfl, hS, by omega, by decide, by decide, fun r H1 r0 r1 x1 S1 => ?_⟩
    walk_at "rd"
    refine ⟨by omega, by omega, ?_⟩
    refine lcl_rangeS (fun i ys H' => ExB st H1 H' ∧ SOk H' st l (c + 1 + i) ∧ ys.length = i ∧ ∀ y ∈ ys, 0 ≤ y) (by omega) (fun i ys H' L o hL ⟨a, b, d, e⟩ => ⟨a.upd_new hL, b.upd (S1.ne hL).1 (S1.ne hL).2, d, e⟩) ⟨.refl _ _, S1, rfl, fun _ h => by cases h⟩
      (fun i ys H' h => h.2.2.1) (fun i ys H' hi ⟨a, b, d, e⟩ R k => ⟨rfl, ?_⟩) fun hv ys H2 hp ⟨a, b, d, e⟩ hys => ?_
    · walk_at "rd"
      refine ⟨by omega, st, l, c + 1 + i, _, rfl, b, by omega, i0, by omega, fun z H3 z0 z1 x3 S3 => ?_⟩
      walk_at "rd"
      refine k _ H3 ⟨a.trans x3, S3, by rw [List.length_append, d]; rfl, fun y hy => ?_⟩ fun L o hL hLo => x3 L o (S1.ne hL).1 hLo
      rcases List.mem_append.mp hy with h | h
      · exact e y h
      · rw [List.mem_singleton.mp h]
        exact z0
    · walk_at "rd"
      have X2 := x1.trans a
      refine ⟨by omega, by omega, by omega, ?_⟩
      rw [Int.toNat_natCast]
      refine lcl_bits hn b (fun i H' hi x S R k => ⟨rfl, ?_⟩) fun p bs H3 hp3 x3 S3 h3 hl hb => ?_
      · walk_at "rd"
        exact k _ _ (.inl rfl) (Ex.refl _)
      · walk_at "rd"
        have hvH : hv ≠ st := (S1.ne hp).1
        have hv3 := x3 _ _ hvH hys
        refine ⟨⟨_, sq_of hv3⟩, ?_⟩
        have hpH : H p = none := hS.back b X2 hp3
        refine loop_list (xs := ys.map V.int) (fun i σ H' => ∃ (p : Addr) (bs : List Int) (v : Option V), σ = [some (.ref st), some (.int (n : Int)), some (.ref hv), some (.ref p), v, none, none] ∧ ExB st H H' ∧ SOk H' st l (c + 5) ∧ H p = none ∧ H' hv = some (.lst (ys.map V.int)) ∧
          H' p = some (.lst (bs.map V.int)) ∧ bs.length = 2 ^ n ∧ ∀ b ∈ bs, IsBit b) ⟨p, bs, none, rfl, X2.trans x3, S3.mono (by omega), hpH, hv3, h3, hl, hb⟩ (fun i σ H' _ ⟨p, bs, v, _, _, _, _, h, _⟩ => sq_of h) ?_ ?_
        · rintro i x σ H' hi ⟨p, bs, v, rfl, x', S', pH, hv', hp', hl, hb⟩
          obtain ⟨y, hy, rfl⟩ : ∃ y, y ∈ ys ∧ x = V.int y := by
            obtain ⟨y, h1, h2⟩ := List.mem_map.mp (List.mem_of_getElem? hi)
            exact ⟨y, h1, h2.symm⟩
          obtain ⟨m, rfl⟩ := Int.eq_ofNat_of_zero_le (e y hy)
          walk_at "rd"
          refine ⟨_, .inl (sq_of hp'), by omega, by rw [List.length_map, hl]; omega, ?_⟩
          rw [List.length_map, hl, Int.toNat_natCast]
          refine lcl_bits hn S' (fun j H4 hj x4 S4 R k => ⟨rfl, ?_⟩) fun p5 bs5 H5 hp5 x5 S5 h5 hl5 hb5 => ?_
          · walk_at "rd"
            obtain ⟨np1, np2⟩ := hS.ne pH
            refine ⟨_, _, sq_of (x4 _ _ np1 hp'), atN (by omega), _, _, ⟨rfl, rfl⟩, k _ _ ?_ (Ex.refl _)⟩
            have b1 := bitD hb j
            have b2 := bit_if (j &&& m = m)
            exact bit_max b2 b1
          · exact ⟨p5, bs5, _, ⟨rfl, rfl⟩, x'.trans x5, S5, hS.back S' x' hp5, x5 _ _ hvH hv', h5, hl5, hb5⟩
        · rintro σ H' ⟨p, bs, v, rfl, x', S', pH, hv', hp', hl, hb⟩
          walk_at "rd"
          exact q p bs H' pH x' (S'.mono (by omega)) hp' hl hb
theorem ok_lbits_of (T : Fx K mg) : FnOk P w K mg base CX0 5 (T_lbits_of K) (fdOf K (T_lbits_of K)) ["_law_store_here", "_law_wide_here", "_law_kind"] sp_bof := by
  refine T.d_lbits_of.F.ok sc_lbits_of (fun vs H Q E h => ?_) (fun cdv A outer s H vs Q E hr h => ?_)
  · obtain ⟨st, l, c, n, kind, rfl, _⟩ := h
    rfl
  · obtain ⟨st, l, c, n, kind, rfl, hS, hc, hn, q⟩ := h
    refine ⟨_, (pss_cons (ps_set (i := 3) sc_lbits_of.nd rfl (by first | exact Or.inl rfl | exact Or.inr rfl) (pe_op op_shl1 pe_int (pv 1)))
      (pss_cons (ps_if (pt_cmpR op_eq (pv 2) pe_int (nomark _)) (pss_one (ps_ret (pe_call (ok_lbits_up T) (hr.mono (by decide)) (by rfl) T.d_lbits_up.gl T.d_lbits_up.F.kp (b_lbits_up T) .nil pass0 (pa_cons (pv 0) (pa_cons (pv 1) pa_nil))))) pss_nil)
      (pss_cons (ps_set (i := 4) sc_lbits_of.nd rfl (by first | exact Or.inl rfl | exact Or.inr rfl) (pe_call (ok_ltake T) (hr.mono (by decide)) (by rfl) T.d_ltake.gl T.d_ltake.F.kp (b_ltake T) .nil pass0 (pa_cons (pv 0) (pa_cons (pv 3) pa_nil))))
      (pss_cons (ps_set (i := 5) sc_lbits_of.nd rfl (by first | exact Or.inl rfl | exact Or.inr rfl) (pe_call (ok_ltake T) (hr.mono (by decide)) (by rfl) T.d_ltake.gl T.d_ltake.F.kp (b_ltake T) .nil pass0 (pa_cons (pv 0) (pa_cons pe_int pa_nil))))
      (pss_cons (ps_if (pt_cmpR op_eq (pv 2) pe_int (nomark _)) (pss_one (ps_ret (pe_lc (own := [("_law_x", 14)]) (g := gName 14) (tt := tYes) (by rfl) sc_lbits_of.nd (pi_range1 (by rfl) T.z_range (pa_cons (pv 3) pa_nil)) (blkOk_by (own := [("_law_x", 14)]) (N := N_lbits_of) (sc := defScope s_lbits_of) (by decide +kernel)) (fun _ _ _ _ _ => (pg_name (i := 14) sc_lbits_of.nd rfl (by first | exact Or.inl rfl | exact Or.inr rfl))) (fun _ _ _ _ _ => pts_nil) (fun _ _ _ _ _ => (pv 5))))) pss_nil)
      (pss_cons (ps_if (pt_cmpR op_eq (pv 2) pe_int (nomark _)) (pss_one (ps_ret (pe_lc (own := [("_law_x", 14)]) (g := gName 14) (tt := tYes) (by rfl) sc_lbits_of.nd (pi_range1 (by rfl) T.z_range (pa_cons (pv 3) pa_nil)) (blkOk_by (own := [("_law_x", 14)]) (N := N_lbits_of) (sc := defScope s_lbits_of) (by decide +kernel)) (fun _ _ _ _ _ => (pg_name (i := 14) sc_lbits_of.nd rfl (by first | exact Or.inl rfl | exact Or.inr rfl))) (fun _ _ _ _ _ => pts_nil) (fun _ _ _ _ _ => (pe_op op_xorB (pe_call (ok_lparity T) (hr.mono (by decide)) (by rfl) T.d_lparity.gl T.d_lparity.F.kp (b_lparity T) .nil pass0 (pa_cons (pv 4) (pa_cons (pv 14) pa_nil))) (pv 5)))))) pss_nil)
      (pss_cons (ps_if (pt_cmpR op_eq (pv 2) pe_int (nomark _)) (pss_cons (ps_setLc (i := 6) (own := [("_law_x", 14)]) (g := gName 14) (tt := tYes) (by rfl) sc_lbits_of.nd rfl rfl (sw_true rfl rfl rfl (by decide +kernel)) (pi_range1 (by rfl) T.z_range (pa_cons (pv 3) pa_nil)) (blkOk_by (own := [("_law_x", 14)]) (N := N_lbits_of) (sc := defScope s_lbits_of) (by decide +kernel)) (fun _ _ _ _ _ => (pg_name (i := 14) sc_lbits_of.nd rfl (by first | exact Or.inl rfl | exact Or.inr rfl))) (fun _ _ _ _ _ => pts_nil) (fun _ _ _ _ _ => (pe_call (ok_lparity T) (hr.mono (by decide)) (by rfl) T.d_lparity.gl T.d_lparity.F.kp (b_lparity T) .nil pass0 (pa_cons (pv 4) (pa_cons (pv 14) pa_nil)))))
      (pss_cons (ps_for PassesOwn.never (by rfl) (pi_range1 (by rfl) T.z_range (pa_cons (pe_op op_add pe_int (pe_call (ok_ltake T) (hr.mono (by decide)) (by rfl) T.d_ltake.gl T.d_ltake.F.kp (b_ltake T) .nil pass0 (pa_cons (pv 0) (pa_cons (pe_op op_add (pe_op op_fdivW (pv 3) pe_int) pe_int) pa_nil)))) pa_nil)) (pg_name (i := 7) sc_lbits_of.nd rfl (by first | exact Or.inl rfl | exact Or.inr rfl)) (pss_cons (ps_set (i := 8) sc_lbits_of.nd rfl (by first | exact Or.inl rfl | exact Or.inr rfl) (pe_call (ok_ltake T) (hr.mono (by decide)) (by rfl) T.d_ltake.gl T.d_ltake.F.kp (b_ltake T) .nil pass0 (pa_cons (pv 0) (pa_cons (pv 3) pa_nil))))
      (pss_one (ps_asg (pe_op op_sub pe_int (pe_ix (k_ixL K) (pv 6) (pv 8) (fun _ _ => rfl))) (pg_sub (pv 6) (pv 8) set_list)))))
      (pss_one (ps_ret (pv 6))))) pss_nil)
      (pss_cons (ps_if (pt_cmpR op_eq (pv 2) pe_int (nomark _)) (pss_one (ps_ret (pe_lc (own := [("_law_x", 14)]) (g := gName 14) (tt := tYes) (by rfl) sc_lbits_of.nd (pi_range1 (by rfl) T.z_range (pa_cons (pv 3) pa_nil)) (blkOk_by (own := [("_law_x", 14)]) (N := N_lbits_of) (sc := defScope s_lbits_of) (by decide +kernel)) (fun _ _ _ _ _ => (pg_name (i := 14) sc_lbits_of.nd rfl (by first | exact Or.inl rfl | exact Or.inr rfl))) (fun _ _ _ _ _ => pts_nil) (fun _ _ _ _ _ => (pe_op op_xorB (pe_callTy k_intB (by rfl) T.z_int (by decide +kernel) (pa_cons (pe_cmpR op_eq (pe_op op_andNN (pv 14) (pv 4)) (pv 4) (nomark _)) pa_nil)) (pv 5)))))) pss_nil)
      (pss_cons (ps_if (pt_cmpR op_eq (pv 2) pe_int (nomark _)) (pss_cons (ps_set (i := 9) sc_lbits_of.nd rfl (by first | exact Or.inl rfl | exact Or.inr rfl) (pe_call (ok_ltake T) (hr.mono (by decide)) (by rfl) T.d_ltake.gl T.d_ltake.F.kp (b_ltake T) .nil pass0 (pa_cons (pv 0) (pa_cons (pe_op op_mulX pe_int (pv 3)) pa_nil))))
      (pss_one (ps_ret (pe_lc (own := [("_law_x", 14)]) (g := gName 14) (tt := tYes) (by rfl) sc_lbits_of.nd (pi_range1 (by rfl) T.z_range (pa_cons (pv 3) pa_nil)) (blkOk_by (own := [("_law_x", 14)]) (N := N_lbits_of) (sc := defScope s_lbits_of) (by decide +kernel)) (fun _ _ _ _ _ => (pg_name (i := 14) sc_lbits_of.nd rfl (by first | exact Or.inl rfl | exact Or.inr rfl))) (fun _ _ _ _ _ => pts_nil) (fun _ _ _ _ _ => (pe_op op_bit1 (pe_op op_shrNN (pv 9) (pe_call (ok_lsize T) (hr.mono (by decide)) (by rfl) T.d_lsize.gl T.d_lsize.F.kp (b_lsize T) .nil pass0 (pa_cons (pv 14) pa_nil))) pe_int)))))) pss_nil)
      (pss_cons (ps_if (pt_cmpR op_eq (pv 2) pe_int (nomark _)) (pss_cons (ps_set (i := 10) sc_lbits_of.nd rfl (by first | exact Or.inl rfl | exact Or.inr rfl) (pe_lc (own := [("_law_k", 7)]) (g := gName 7) (tt := tYes) (by rfl) sc_lbits_of.nd (pi_range1 (by rfl) T.z_range (pa_cons (pv 1) pa_nil)) (blkOk_by (own := [("_law_k", 7)]) (N := N_lbits_of) (sc := defScope s_lbits_of) (by decide +kernel)) (fun _ _ _ _ _ => (pg_name (i := 7) sc_lbits_of.nd rfl (by first | exact Or.inl rfl | exact Or.inr rfl))) (fun _ _ _ _ _ => pts_nil) (fun _ _ _ _ _ => (pe_op op_sub (pe_call (ok_ltake T) (hr.mono (by decide)) (by rfl) T.d_ltake.gl T.d_ltake.F.kp (b_ltake T) .nil pass0 (pa_cons (pv 0) (pa_cons pe_int pa_nil))) pe_int))))
      (pss_cons (ps_set (i := 11) sc_lbits_of.nd rfl (by first | exact Or.inl rfl | exact Or.inr rfl) (pe_op op_sub (pe_call (ok_ltake T) (hr.mono (by decide)) (by rfl) T.d_ltake.gl T.d_ltake.F.kp (b_ltake T) .nil pass0 (pa_cons (pv 0) (pa_cons pe_int pa_nil))) pe_int))
      (pss_one (ps_ret (pe_lc (own := [("_law_x", 14)]) (g := gName 14) (tt := tYes) (by rfl) sc_lbits_of.nd (pi_range1 (by rfl) T.z_range (pa_cons (pv 3) pa_nil)) (blkOk_by (own := [("_law_x", 14)]) (N := N_lbits_of) (sc := defScope s_lbits_of) (by decide +kernel)) (fun _ _ _ _ _ => (pg_name (i := 14) sc_lbits_of.nd rfl (by first | exact Or.inl rfl | exact Or.inr rfl))) (fun _ _ _ _ _ => pts_nil) (fun _ _ _ _ _ => (pe_callTy k_intB (by rfl) T.z_int (by decide +kernel) (pa_cons (pe_cmpR op_gt (pe_callB (k_sum K) (by rfl) T.z_sum (by decide +kernel) (pa_cons (pe_lc (own := [("_law_k", 7)]) (g := gName 7) (tt := tYes) (by rfl) sc_lbits_of.nd (pi_range1 (by rfl) T.z_range (pa_cons (pv 1) pa_nil)) (blkOk_by (own := [("_law_k", 7)]) (N := N_lbits_of) (by rfl)) (fun _ _ _ _ _ => (pg_name (i := 7) sc_lbits_of.nd rfl (by first | exact Or.inl rfl | exact Or.inr rfl))) (fun _ _ _ _ _ => pts_nil) (fun _ _ _ _ _ => (pe_op op_mulX (pe_ix (k_ixL K) (pv 10) (pv 7) (fun _ _ => rfl)) (pe_op op_bit1 (pe_op op_shrNN (pv 14) (pv 7)) pe_int)))) pa_nil)) (pv 11) (nomark _)) pa_nil)))))))) pss_nil)
      (pss_cons (ps_if (pt_cmpR op_eq (pv 2) pe_int (nomark _)) (pss_cons (ps_set (i := 12) sc_lbits_of.nd rfl (by first | exact Or.inl rfl | exact Or.inr rfl) (pe_call (ok_ltake T) (hr.mono (by decide)) (by rfl) T.d_ltake.gl T.d_ltake.F.kp (b_ltake T) .nil pass0 (pa_cons (pv 0) (pa_cons (pe_callB (call_max2 rfl) (by rfl) T.z_max (by decide +kernel) (pa_cons pe_int (pa_cons (pv 1) pa_nil))) pa_nil))))
      (pss_cons (ps_set (i := 13) sc_lbits_of.nd rfl (by first | exact Or.inl rfl | exact Or.inr rfl) (pe_call (ok_ltake T) (hr.mono (by decide)) (by rfl) T.d_ltake.gl T.d_ltake.F.kp (b_ltake T) .nil pass0 (pa_cons (pv 0) (pa_cons (pe_callB (call_max2 rfl) (by rfl) T.z_max (by decide +kernel) (pa_cons pe_int (pa_cons (pv 1) pa_nil))) pa_nil))))
      (pss_cons (ps_set (i := 9) sc_lbits_of.nd rfl (by first | exact Or.inl rfl | exact Or.inr rfl) (pe_call (ok_ltake T) (hr.mono (by decide)) (by rfl) T.d_ltake.gl T.d_ltake.F.kp (b_ltake T) .nil pass0 (pa_cons (pv 0) (pa_cons pe_int pa_nil))))
      (pss_one (ps_ret (pe_lc (own := [("_law_x", 14)]) (g := gName 14) (tt := tYes) (by rfl) sc_lbits_of.nd (pi_range1 (by rfl) T.z_range (pa_cons (pv 3) pa_nil)) (blkOk_by (own := [("_law_x", 14)]) (N := N_lbits_of) (sc := defScope s_lbits_of) (by decide +kernel)) (fun _ _ _ _ _ => (pg_name (i := 14) sc_lbits_of.nd rfl (by first | exact Or.inl rfl | exact Or.inr rfl))) (fun _ _ _ _ _ => pts_nil) (fun _ _ _ _ _ => (pe_op op_bit1 (pe_op op_shrNN (pv 9) (pe_op op_addNN (pe_op op_bit1 (pe_op op_shrNN (pv 14) (pv 12)) pe_int) (pe_op op_dbl pe_int (pe_op op_bit1 (pe_op op_shrNN (pv 14) (pv 13)) pe_int)))) pe_int)))))))) pss_nil)
      (pss_cons (ps_if (pt_cmpR op_eq (pv 2) pe_int (nomark _)) (pss_one (ps_ret (pe_lc (own := [("_law_x", 14)]) (g := gName 14) (tt := tYes) (by rfl) sc_lbits_of.nd (pi_range1 (by rfl) T.z_range (pa_cons (pv 3) pa_nil)) (blkOk_by (own := [("_law_x", 14)]) (N := N_lbits_of) (sc := defScope s_lbits_of) (by decide +kernel)) (fun _ _ _ _ _ => (pg_name (i := 14) sc_lbits_of.nd rfl (by first | exact Or.inl rfl | exact Or.inr rfl))) (fun _ _ _ _ _ => pts_nil) (fun _ _ _ _ _ => (pe_op op_xorB (pe_op op_xorB (pe_call (ok_lparity T) (hr.mono (by decide)) (by rfl) T.d_lparity.gl T.d_lparity.F.kp (b_lparity T) .nil pass0 (pa_cons pe_int (pa_cons (pe_op op_andNN (pv 14) (pe_op op_half (pv 14) pe_int)) pa_nil))) (pe_call (ok_lparity T) (hr.mono (by decide)) (by rfl) T.d_lparity.gl T.d_lparity.F.kp (b_lparity T) .nil pass0 (pa_cons (pv 4) (pa_cons (pv 14) pa_nil)))) (pv 5)))))) pss_nil)
      (pss_one (ps_ret (pe_lc (own := [("_law_x", 14)]) (g := gName 14) (tt := tYes) (by rfl) sc_lbits_of.nd (pi_range1 (by rfl) T.z_range (pa_cons (pv 3) pa_nil)) (blkOk_by (own := [("_law_x", 14)]) (N := N_lbits_of) (sc := defScope s_lbits_of) (by decide +kernel)) (fun _ _ _ _ _ => (pg_name (i := 14) sc_lbits_of.nd rfl (by first | exact Or.inl rfl | exact Or.inr rfl))) (fun _ _ _ _ _ => pts_nil) (fun _ _ _ _ _ => (pe_callTy k_intB (by rfl) T.z_int (by decide +kernel) (pa_cons (pe_cmpR op_lt (pv 14) (pe_op op_add (pv 4) (pv 5)) (nomark _)) pa_nil)))))))))))))))))), ?_⟩
    rw [st_lbits_of]
    walk_at "rd"
    have h64 : 2 ^ n ≤ 64 := Nat.pow_le_pow_right (n := 2) (by decide) hn
    have hp0 := Nat.two_pow_pos n
    have i64 : ((2 ^ n : Nat) : Int) ≤ 64 := Int.ofNat_le.mpr h64
    have i0 : (0 : Int) < ((2 ^ n : Nat) : Int) := Int.ofNat_lt.mpr hp0
    refine ⟨by omega, ?_⟩
    by_cases h9 : kind = 9
    · rw [if_pos h9]
      exact ⟨st, l, c, n, rfl, hS, hc, hn, q.mono (by omega)⟩
    rw [if_neg h9]
    refine ⟨st, l, c, _, rfl, hS, by omega, i0, by omega, fun m0 H1 m00 m01 x1 S1 => ?_⟩
    obtain ⟨m, rfl⟩ := Int.eq_ofNat_of_zero_le m00
    walk_at "rd"
    refine ⟨st, l, c + 1, 2, rfl, S1, by omega, by decide, by decide, fun tilt H2 t0 t1 x2 S2 => ?_⟩
    have bt : IsBit tilt := bit_of t0 t1
    have X2 := x1.trans x2
    have q2 : RetBits st l (c + 2) n H2 Q := q.go (hS.mono (by omega)) S2 X2 (by omega)
    have small : ∀ k : Nat, k ≤ 100 → RetBits st l (c + k) n H Q := fun k hk => q.mono (by omega)
    walk_at "rd"
    by_cases h0 : kind = 0
    · rw [if_pos h0]
      refine ⟨by omega, by omega, ?_⟩
      rw [Int.toNat_natCast]
      refine lcl_bits hn S2 (fun i H' hi x S R k => ⟨rfl, ?_⟩) q2
      walk_at "rd"
      exact k _ _ bt (Ex.refl _)
    rw [if_neg h0]
    by_cases h1 : kind = 1
    · rw [if_pos h1]
      refine ⟨by omega, by omega, ?_⟩
      rw [Int.toNat_natCast]
      refine lcl_bits hn S2 (fun i H' hi x S R k => ⟨rfl, ?_⟩) q2
      walk_at "rd"
      refine ⟨m, i, rfl, fun r hr => ?_⟩
      walk_at "rd"
      exact ⟨hr, bt, k _ _ (xb_bit hr bt) (Ex.refl _)⟩
    rw [if_neg h1]
    by_cases h2 : kind = 2
    · rw [if_pos h2]
      refine ⟨by omega, by omega, ?_⟩
      rw [Int.toNat_natCast]
      refine lcl_bits hn S2 (fun i H' hi x S R k => ⟨rfl, ?_⟩) fun p bs H3 hp x3 S3 h3 hl hb => ?_
      · walk_at "rd"
        refine ⟨m, i, rfl, fun r hr => ?_⟩
        exact k _ _ hr (Ex.refl _)
      · walk_at "rd"
        obtain ⟨np1, np2⟩ := S2.ne hp
        have hpH : H p = none := hS.back S2 X2 hp
        refine ⟨wide_div (b := 3) (by decide) (by decide) (by decide) (by decide), st, l, c + 2, _, rfl, S3, by omega, by omega, by omega, fun j H4 j0 j1 x4 S4 => ?_⟩
        walk_at "rd"
        refine ⟨by omega, by omega, ?_⟩
        refine loop_range (fun i σ H' => ∃ (bs : List Int) (v7 v8 : Option V), σ = [some (.ref st), some (.int (n : Int)), some (.int kind), some (.int ((2 ^ n : Nat) : Int)), some (.int (m : Int)), some (.int tilt), some (.ref p), v7, v8, none, none, none, none, none, none] ∧
          ExB st H H' ∧ SOk H' st l (c + 3 + i) ∧ H' p = some (.lst (bs.map V.int)) ∧ bs.length = 2 ^ n ∧ ∀ b ∈ bs, IsBit b) ⟨bs, none, none, rfl, X2.trans (x3.trans x4), S4, x4 _ _ np1 h3, hl, hb⟩ ?_ ?_
        · rintro i σ H' hi ⟨bs, v7, v8, rfl, x, S, h, hl, hb⟩
          walk_at "rd"
          refine ⟨st, l, c + 3 + i, _, rfl, S, by omega, i0, by omega, fun r H5 r0 r1 x5 S5 => ?_⟩
          obtain ⟨rn, rfl⟩ := Int.eq_ofNat_of_zero_le r0
          have hr : rn < bs.length := by omega
          have h5 := x5 _ _ np1 h
          walk_at "rd"
          refine ⟨_, _, sq_of h5, atN hr, _, rfl, _, _, h5, ixN_nat (by rw [List.length_map]; exact hr), bs.set rn (1 - bs.getD rn 0), _, _, ⟨rfl, rfl⟩, (x.trans x5).upd_new hpH, S5.upd np1 np2, ?_, by rw [List.length_set]; exact hl, fun b hb' => ?_⟩
          · rw [upd_same, List.map_set]
          · rcases List.mem_or_eq_of_mem_set hb' with e | e
            · exact hb b e
            · have := bitD hb rn
              unfold IsBit at *
              omega
        · rintro σ H' ⟨bs, v7, v8, rfl, x, S, h, hl, hb⟩
          walk_at "rd"
          exact q p bs H' hpH x (S.mono (by omega)) h hl hb
    rw [if_neg h2]
    by_cases h3 : kind = 3
    · rw [if_pos h3]
      refine ⟨by omega, by omega, ?_⟩
      rw [Int.toNat_natCast]
      refine lcl_bits hn S2 (fun i H' hi x S R k => ⟨rfl, ?_⟩) q2
      walk_at "rd"
      exact ⟨bit_if _, bt, k _ _ (xb_bit (bit_if _) bt) (Ex.refl _)⟩
    rw [if_neg h3]
    by_cases h4 : kind = 4
    · rw [if_pos h4]
      refine ⟨mulx_n (a := 2) (b := 7) (by decide) (by decide) (by omega) (by omega) (by decide), st, l, c + 2, _, rfl, S2, by omega, by omega, by omega, fun r H3 r0 r1 x3 S3 => ?_⟩
      obtain ⟨rn, rfl⟩ := Int.eq_ofNat_of_zero_le r0
      walk_at "rd"
      refine ⟨by omega, by omega, ?_⟩
      rw [Int.toNat_natCast]
      refine lcl_bits hn S3 (fun i H' hi x S R k => ⟨rfl, ?_⟩) (q.go (hS.mono (by omega)) S3 (X2.trans x3) (by omega))
      walk_at "rd"
      refine ⟨i, rfl, fun z hz => ?_⟩
      walk_at "rd"
      exact k _ _ (bit_mod _) (Ex.refl _)
    rw [if_neg h4]
    by_cases h5 : kind = 5
    · rw [if_pos h5]
      refine ⟨by omega, by omega, ?_⟩
      rw [Int.toNat_natCast]
      refine lcl_rangeS (fun i ys H' => ExB st H2 H' ∧ SOk H' st l (c + 2 + i) ∧ ys.length = i ∧ ∀ y ∈ ys, -8 < y ∧ y < 8) (by omega) (fun i ys H' L o hL ⟨a, b, d, e⟩ => ⟨a.upd_new hL, b.upd (S2.ne hL).1 (S2.ne hL).2, d, e⟩) ⟨.refl _ _, S2, rfl, fun _ h => by cases h⟩
        (fun i ys H' h => h.2.2.1) (fun i ys H' hi ⟨a, b, d, e⟩ R k => ⟨rfl, ?_⟩) fun hv ys H3 hp ⟨a, b, d, e⟩ hys => ?_
      · walk_at "rd"
        refine ⟨st, l, c + 2 + i, 7, rfl, b, by omega, by decide, by decide, fun r H3 r0 r1 x3 S3 => ?_⟩
        walk_at "rd"
        refine k _ H3 ⟨a.trans x3, S3, by rw [List.length_append, d]; rfl, fun y hy => ?_⟩ fun L o hL hLo => x3 L o (S2.ne hL).1 hLo
        rcases List.mem_append.mp hy with h | h
        · exact e y h
        · rw [List.mem_singleton.mp h]
          omega
      · walk_at "rd"
        refine ⟨st, l, c + 2 + n, 7, rfl, b, by omega, by decide, by decide, fun r H4 r0 r1 x4 S4 => ?_⟩
        have hv4 := x4 _ _ (S2.ne hp).1 hys
        walk_at "rd"
        refine ⟨by omega, by omega, ?_⟩
        rw [Int.toNat_natCast]
        refine lcl_bits hn S4 (fun i H' hi x S R k => ⟨rfl, ?_⟩) (q.go (hS.mono (by omega)) S4 ((X2.trans a).trans x4) (by omega))
        walk_at "rd"
        refine ⟨by omega, by omega, ?_⟩
        rw [Int.toNat_natCast]
        refine lcl_rangeS (fun j zs H'' => Ex H' H'' ∧ zs.length = j) (by omega) (fun j zs H'' L o hL ⟨a, b⟩ => ⟨Ex.mut a hL, b⟩) ⟨Ex.refl _, rfl⟩ (fun j zs H'' h => h.2) (fun j zs H'' hj ⟨a, b⟩ R' k' => ⟨rfl, ?_⟩) fun p zs H'' hp' ⟨a', b'⟩ hzs => ?_
        · walk_at "rd"
          have hj2 : j < ys.length := by omega
          have hw := a _ _ (x _ _ (S2.ne hp).1 hv4)
          have hy := e _ (List.getElem_mem hj2)
          have hg : ys.getD j 0 = ys[j] := by rw [List.getD_eq_getElem?_getD, List.getElem?_eq_getElem hj2]; rfl
          refine ⟨_, _, sq_of hw, atN hj2, _, rfl, ?_, k' _ H'' ⟨a, by rw [List.length_append, b]; rfl⟩ fun L o _ h => h⟩
          rw [hg]
          exact mulx_ok (a := 4) (b := 2) (by omega) (by omega) (by decide)
        · walk_at "rd"
          exact ⟨_, sq_of hzs, k _ H'' (bit_if _) a'⟩
    rw [if_neg h5]
    by_cases h6 : kind = 6
    · rw [if_pos h6]
      have hmx : ∀ z : Int, z = (if (n : Int) > 1 then (n : Int) else 1) → 0 < z ∧ z ≤ 2 ^ 64 := fun z hz => by
        rw [hz]
        split <;> omega
      refine ⟨_, _, ⟨rfl, rfl⟩, st, l, c + 2, _, rfl, S2, by omega, (hmx _ rfl).1, (hmx _ rfl).2, fun r3 H3 r30 r31 x3 S3 => ?_⟩
      obtain ⟨a3, rfl⟩ := Int.eq_ofNat_of_zero_le r30
      walk_at "rd"
      refine ⟨_, _, ⟨rfl, rfl⟩, st, l, c + 3, _, rfl, S3, by omega, (hmx _ rfl).1, (hmx _ rfl).2, fun r4 H4 r40 r41 x4 S4 => ?_⟩
      obtain ⟨a4, rfl⟩ := Int.eq_ofNat_of_zero_le r40
      walk_at "rd"
      refine ⟨st, l, c + 4, _, rfl, S4, by omega, by decide, by decide, fun r5 H5 r50 r51 x5 S5 => ?_⟩
      obtain ⟨a5, rfl⟩ := Int.eq_ofNat_of_zero_le r50
      walk_at "rd"
      refine ⟨by omega, by omega, ?_⟩
      rw [Int.toNat_natCast]
      refine lcl_bits hn S5 (fun i H' hi x S R k => ⟨rfl, ?_⟩) (q.go (hS.mono (by omega)) S5 (X2.trans (x3.trans (x4.trans x5))) (by omega))
      walk_at "rd"
      exact k _ _ (bit_mod _) (Ex.refl _)
    rw [if_neg h6]
    by_cases h7 : kind = 7
    · rw [if_pos h7]
      refine ⟨by omega, by omega, ?_⟩
      rw [Int.toNat_natCast]
      refine lcl_bits hn S2 (fun i H' hi x S R k => ⟨rfl, ?_⟩) q2
      walk_at "rd"
      refine ⟨21, _, rfl, fun r hr => ?_⟩
      walk_at "rd"
      refine ⟨m, i, rfl, fun r2 hr2 => ?_⟩
      walk_at "rd"
      exact ⟨hr, hr2, xb_bit hr hr2, bt, k _ _ (xb_bit (xb_bit hr hr2) bt) (Ex.refl _)⟩
    rw [if_neg h7]
    refine ⟨by omega, by omega, ?_⟩
    rw [Int.toNat_natCast]
    refine lcl_bits hn S2 (fun i H' hi x S R k => ⟨rfl, ?_⟩) q2
    walk_at "rd"
    exact k _ _ (bit_if _) (Ex.refl _)
abbrev s_lbits : Stmt := top 73
abbrev N_lbits : List Str := ["_law_store_here", "_law_wide_here", "_law_kind", "_law_told", "_law_x"]
theorem sc_lbits : FnScope N_lbits ["_law_store_here", "_law_wide_here"] (defScope s_lbits) := ⟨rfl, rfl, rfl, by decide +kernel, rfl, by decide +kernel, by decide +kernel⟩
theorem st_lbits {x0 x1 : V} : start N_lbits [x0, x1] = [some x0, some x1, none, none, none] := rfl

theorem b_lbits (T : Fx K mg) : L2.Binds K (fdOf K (T_lbits K)) ["_law_store_here", "_law_wide_here"] [] := T.d_lbits.F.binds (ps := ["_law_store_here", "_law_wide_here"]) fun _ _ _ _ _ _ us hl => match us, hl with | [_, _], _ => rfl
def sp_lbits : Sp := fun vs H Q _ => ∃ (st l : Addr) (c n : Nat), vs = [.ref st, .int (n : Int)] ∧ SOk H st l c ∧ c ≤ 800000 ∧ n ≤ 6 ∧ RetBits st l (c + 300) n H Q
theorem ok_lbits (T : Fx K mg) : FnOk P w K mg base CX0 6 (T_lbits K) (fdOf K (T_lbits K)) ["_law_store_here", "_law_wide_here"] sp_lbits := by
  refine T.d_lbits.F.ok sc_lbits (fun vs H Q E h => ?_) (fun cdv A outer s H vs Q E hr h => ?_)
  · obtain ⟨st, l, c, n, rfl, _⟩ := h
    rfl
  · obtain ⟨st, l, c, n, rfl, hS, hc, hn, q⟩ := h
    refine ⟨_, (pss_cons (ps_set (i := 2) sc_lbits.nd rfl (by first | exact Or.inl rfl | exact Or.inr rfl) (pe_call (ok_ltake T) (hr.mono (by decide)) (by rfl) T.d_ltake.gl T.d_ltake.F.kp (b_ltake T) .nil pass0 (pa_cons (pv 0) (pa_cons pe_int pa_nil))))
      (pss_cons (ps_if (pt_cmpR op_lt (pv 2) pe_int (nomark _)) (pss_one (ps_ret (pe_call (ok_lbits_of T) (hr.mono (by decide)) (by rfl) T.d_lbits_of.gl T.d_lbits_of.F.kp (b_lbits_of T) .nil pass0 (pa_cons (pv 0) (pa_cons (pv 1) (pa_cons (pv 2) pa_nil)))))) pss_nil)
      (pss_cons (ps_set (i := 3) sc_lbits.nd rfl (by first | exact Or.inl rfl | exact Or.inr rfl) (pe_call (ok_ltake T) (hr.mono (by decide)) (by rfl) T.d_ltake.gl T.d_ltake.F.kp (b_ltake T) .nil pass0 (pa_cons (pv 0) (pa_cons (pe_op op_shl1 pe_int (pe_op op_shl1 pe_int (pv 1))) pa_nil))))
      (pss_one (ps_ret (pe_lc (own := [("_law_x", 4)]) (g := gName 4) (tt := tYes) (by rfl) sc_lbits.nd (pi_range1 (by rfl) T.z_range (pa_cons (pe_op op_shl1 pe_int (pv 1)) pa_nil)) (blkOk_by (own := [("_law_x", 4)]) (N := N_lbits) (sc := defScope s_lbits) (by decide +kernel)) (fun _ _ _ _ _ => (pg_name (i := 4) sc_lbits.nd rfl (by first | exact Or.inl rfl | exact Or.inr rfl))) (fun _ _ _ _ _ => pts_nil) (fun _ _ _ _ _ => (pe_op op_bit1 (pe_op op_shrNN (pv 3) (pv 4)) pe_int)))))))), ?_⟩
    rw [st_lbits]
    walk_at "rd"
    have h64 : 2 ^ n ≤ 64 := Nat.pow_le_pow_right (n := 2) (by decide) hn
    have hp0 := Nat.two_pow_pos n
    have hpp : 2 ^ (2 ^ n) ≤ 2 ^ 64 := Nat.pow_le_pow_right (by decide) h64
    have i64 : ((2 ^ n : Nat) : Int) ≤ 64 := Int.ofNat_le.mpr h64
    refine ⟨st, l, c, 16, rfl, hS, by omega, by decide, by decide, fun r H1 r0 r1 x1 S1 => ?_⟩
    walk_at "rd"
    by_cases hk : r < 10
    · rw [if_pos hk]
      exact ⟨st, l, c + 1, n, r, rfl, S1, by omega, hn, q.go2 hS S1 x1 (by omega)⟩
    · rw [if_neg hk]
      refine ⟨by omega, by omega, st, l, c + 1, _, rfl, S1, by omega, Int.ofNat_lt.mpr (Nat.two_pow_pos _), Int.le_trans (Int.ofNat_le.mpr hpp) (by decide), fun z H2 z0 z1 x2 S2 => ?_⟩
      obtain ⟨zn, rfl⟩ := Int.eq_ofNat_of_zero_le z0
      walk_at "rd"
      refine ⟨by omega, by omega, by omega, ?_⟩
      rw [Int.toNat_natCast]
      refine lcl_bits hn S2 (fun i H' hi x S R k => ⟨rfl, ?_⟩) (q.go (hS.mono (by omega)) S2 (x1.trans x2) (by omega))
      walk_at "rd"
      exact k _ _ (bit_mod _) (Ex.refl _)
abbrev s_lbits_near : Stmt := top 74
abbrev N_lbits_near : List Str := ["_law_store_here", "_law_wide_here", "_law_most", "_law_mask", "_law_many", "_law_unlike_row", "_law_row", "_law_x"]
theorem sc_lbits_near : FnScope N_lbits_near ["_law_store_here", "_law_wide_here", "_law_most"] (defScope s_lbits_near) := ⟨rfl, rfl, rfl, by decide +kernel, rfl, by decide +kernel, by decide +kernel⟩
theorem st_lbits_near {x0 x1 x2 : V} : start N_lbits_near [x0, x1, x2] = [some x0, some x1, some x2, none, none, none, none, none] := rfl

theorem b_lbits_near (T : Fx K mg) : L2.Binds K (fdOf K (T_lbits_near K)) ["_law_store_here", "_law_wide_here", "_law_most"] [] := T.d_lbits_near.F.binds (ps := ["_law_store_here", "_law_wide_here", "_law_most"]) fun _ _ _ _ _ _ us hl => match us, hl with | [_, _, _], _ => rfl
def sp_bnear : Sp := fun vs H Q _ => ∃ (st l : Addr) (c n : Nat) (most : Int), vs = [.ref st, .int (n : Int), .int most] ∧ SOk H st l c ∧ c ≤ 800000 ∧ n ≤ 6 ∧ 0 ≤ most ∧ most ≤ 100 ∧
  ∀ (r u p : Addr) (z : Int) (bs : List Int) (H2 : Hp), H p = none → ExB st H H2 → SOk H2 st l (c + 300) → H2 r = some (.tup [.int z, .ref u, .ref p]) → H2 p = some (.lst (bs.map V.int)) → bs.length = 2 ^ n → (∀ b ∈ bs, IsBit b) → Q (.ref r) H2
theorem cut_mem {xs : List Int} {lo hi : Option Int} : ∀ y, y ∈ cutV (xs.map V.int) lo hi → ∃ z, z ∈ xs ∧ y = .int z := fun y hy => by
  unfold cutV at hy
  obtain ⟨z, h1, h2⟩ := List.mem_map.mp (List.mem_of_mem_drop (List.mem_of_mem_take hy))
  exact ⟨z, h1, h2.symm⟩
theorem cut_ints {xs : List Int} {lo hi : Option Int} : ∃ zs : List Int, cutV (xs.map V.int) lo hi = zs.map V.int ∧ ∀ z ∈ zs, z ∈ xs := by
  unfold cutV
  refine ⟨(xs.drop (HT.sIx (xs.map V.int).length 0 lo)).take (HT.sIx (xs.map V.int).length (xs.map V.int).length hi - HT.sIx (xs.map V.int).length 0 lo), ?_, fun z hz => List.mem_of_mem_drop (List.mem_of_mem_take hz)⟩
  rw [List.map_take, List.map_drop]
theorem ok_lbits_near (T : Fx K mg) : FnOk P w K mg base CX0 5 (T_lbits_near K) (fdOf K (T_lbits_near K)) ["_law_store_here", "_law_wide_here", "_law_most"] sp_bnear := by
  refine T.d_lbits_near.F.ok sc_lbits_near (fun vs H Q E h => ?_) (fun cdv A outer s H vs Q E hr h => ?_)
  · obtain ⟨st, l, c, n, most, rfl, _⟩ := h
    rfl
  · obtain ⟨st, l, c, n, most, rfl, hS, hc, hn, hm0, hm1, q⟩ := h
    refine ⟨_, (pss_cons (ps_set (i := 3) sc_lbits_near.nd rfl (by first | exact Or.inl rfl | exact Or.inr rfl) (pe_call (ok_ltake T) (hr.mono (by decide)) (by rfl) T.d_ltake.gl T.d_ltake.F.kp (b_ltake T) .nil pass0 (pa_cons (pv 0) (pa_cons (pe_op op_shl1 pe_int (pv 1)) pa_nil))))
      (pss_cons (ps_set (i := 4) sc_lbits_near.nd rfl (by first | exact Or.inl rfl | exact Or.inr rfl) (pe_call (ok_lnear T) (hr.mono (by decide)) (by rfl) T.d_lnear.gl T.d_lnear.F.kp (b_lnear T) .nil pass0 (pa_cons (pv 0) (pa_cons pe_int (pa_cons (pv 2) pa_nil)))))
      (pss_cons (ps_set (i := 5) sc_lbits_near.nd rfl (by first | exact Or.inl rfl | exact Or.inr rfl) (pe_callB (k_sorted K) (by rfl) T.z_sorted (by decide +kernel) (pa_cons (pe_slice (k_slL K) (pe_call (ok_lshuffled T) (hr.mono (by decide)) (by rfl) T.d_lshuffled.gl T.d_lshuffled.F.kp (b_lshuffled T) .nil pass0 (pa_cons (pv 0) (pa_cons (pe_lc (own := [("_law_x", 7)]) (g := gName 7) (tt := tYes) (by rfl) sc_lbits_near.nd (pi_range1 (by rfl) T.z_range (pa_cons (pe_op op_shl1 pe_int (pv 1)) pa_nil)) (blkOk_by (own := [("_law_x", 7)]) (N := N_lbits_near) (sc := defScope s_lbits_near) (by decide +kernel)) (fun _ _ _ _ _ => (pg_name (i := 7) sc_lbits_near.nd rfl (by first | exact Or.inl rfl | exact Or.inr rfl))) (fun _ _ _ _ _ => pts_nil) (fun _ _ _ _ _ => (pv 7))) pa_nil))) po_none (po_some (pv 4))) pa_nil)))
      (pss_cons (ps_setLc (i := 6) (own := [("_law_x", 7)]) (g := gName 7) (tt := tYes) (by rfl) sc_lbits_near.nd rfl rfl (sw_true rfl rfl rfl (by decide +kernel)) (pi_range1 (by rfl) T.z_range (pa_cons (pe_op op_shl1 pe_int (pv 1)) pa_nil)) (blkOk_by (own := [("_law_x", 7)]) (N := N_lbits_near) (sc := defScope s_lbits_near) (by decide +kernel)) (fun _ _ _ _ _ => (pg_name (i := 7) sc_lbits_near.nd rfl (by first | exact Or.inl rfl | exact Or.inr rfl))) (fun _ _ _ _ _ => pts_nil) (fun _ _ _ _ _ => (pe_call (ok_lparity T) (hr.mono (by decide)) (by rfl) T.d_lparity.gl T.d_lparity.F.kp (b_lparity T) .nil pass0 (pa_cons (pv 3) (pa_cons (pv 7) pa_nil)))))
      (pss_cons (ps_for PassesOwn.never (by rfl) (ki_list K (pv 5)) (pg_name (i := 7) sc_lbits_near.nd rfl (by first | exact Or.inl rfl | exact Or.inr rfl)) (pss_one (ps_asg (pe_op op_sub pe_int (pe_ix (k_ixL K) (pv 6) (pv 7) (fun _ _ => rfl))) (pg_sub (pv 6) (pv 7) set_list))))
      (pss_one (ps_ret (pe_tup (pa_cons (pv 3) (pa_cons (pv 5) (pa_cons (pv 6) pa_nil))))))))))), ?_⟩
    rw [st_lbits_near]
    walk_at "rd"
    have h64 : 2 ^ n ≤ 64 := Nat.pow_le_pow_right (n := 2) (by decide) hn
    have hp0 := Nat.two_pow_pos n
    have i64 : ((2 ^ n : Nat) : Int) ≤ 64 := Int.ofNat_le.mpr h64
    have i0 : (0 : Int) < ((2 ^ n : Nat) : Int) := Int.ofNat_lt.mpr hp0
    refine ⟨by omega, st, l, c, _, rfl, hS, by omega, i0, by omega, fun m0 H1 m00 m01 x1 S1 => ?_⟩
    obtain ⟨m, rfl⟩ := Int.eq_ofNat_of_zero_le m00
    walk_at "rd"
    refine ⟨st, l, c + 1, most, rfl, S1, by omega, hm0, by omega, fun many H2 y0 y1 x2 S2 => ?_⟩
    walk_at "rd"
    have X2 := x1.trans x2
    refine ⟨by omega, by omega, by omega, ?_⟩
    rw [Int.toNat_natCast]
    refine lcl_range (fun (i : Nat) => V.int (i : Int)) (by omega) (fun i hi H' e R k => ⟨rfl, ?_⟩) fun w H3 hw e3 h3 => ?_
    · walk_at "rd"
      exact k H' (Ex.refl _)
    · walk_at "rd"
      have S3 := S2.ex e3
      have wm : (List.range (2 ^ n)).map (fun (i : Nat) => V.int (i : Int)) = ((List.range (2 ^ n)).map fun (i : Nat) => (i : Int)).map V.int := by rw [List.map_map]; rfl
      rw [wm] at h3
      refine ⟨st, l, w, c + 3, _, rfl, S3, by omega, (S2.ne hw).1, h3, by rw [List.length_map, List.length_range]; omega, fun p ys H4 hp4 x4 h4 hys S4 => ?_⟩
      walk_at "rd"
      refine ⟨_, sq_of h4, fun p5 hp5 => ?_⟩
      obtain ⟨zs, ez, hz⟩ := cut_ints (xs := ys) (lo := none) (hi := some many)
      rw [ez]
      refine ⟨zs, sq_of upd_same, fun us p6 hperm _ hp6 => ?_⟩
      have e5 : Ex H4 (upd (upd H4 p5 (.lst (zs.map V.int))) p6 (.lst (us.map V.int))) := (Ex.new hp5).trans (Ex.new hp6)
      have hus : ∀ u ∈ us, ∃ k : Nat, u = (k : Int) ∧ k < 2 ^ n := fun u hu => by
        obtain ⟨k, hk, e⟩ := List.mem_map.mp (hys u (hz u (hperm.mem_iff.mp hu)))
        exact ⟨k, e.symm, List.mem_range.mp hk⟩
      have S5 := S4.ex e5
      have X5 : ExB st H (upd (upd H4 p5 (.lst (zs.map V.int))) p6 (.lst (us.map V.int))) := (X2.trans (ExB.of e3)).trans (x4.trans (ExB.of e5))
      have h6 : (upd (upd H4 p5 (.lst (zs.map V.int))) p6 (.lst (us.map V.int))) p6 = some (.lst (us.map V.int)) := upd_same
      generalize upd (upd H4 p5 (.lst (zs.map V.int))) p6 (.lst (us.map V.int)) = H5 at e5 S5 X5 h6 ⊢
      walk_at "rd"
      refine ⟨by omega, by omega, by omega, ?_⟩
      refine lcl_bits hn S5 (fun i H' hi x S R k => ⟨rfl, ?_⟩) fun p7 bs H7 hp7 x7 S7 h7 hl hb => ?_
      · walk_at "rd"
        exact ⟨m, i, rfl, fun r hr => k _ _ hr (Ex.refl _)⟩
      · walk_at "rd"
        obtain ⟨n1, n2⟩ := S5.ne hp7
        have hpH : H p7 = none := hS.back S5 X5 hp7
        have n67 : p6 ≠ p7 := fun e => by
          rw [e, hp7] at h6
          cases h6
        have n6 : p6 ≠ st := fun e => by
          obtain ⟨o, ho⟩ := S4.st
          rw [← e] at ho
          have := Ex.new hp5 (o := .lst (zs.map V.int)) _ _ ho
          rw [hp6] at this
          cases this
        have h6' := x7 _ _ n6 h6
        refine ⟨⟨_, sq_of h6'⟩, loop_list (xs := us.map V.int) (fun i σ H' => ∃ (bs : List Int) (v : Option V), σ = [some (.ref st), some (.int (n : Int)), some (.int most), some (.int (m : Int)), some (.int many), some (.ref p6), some (.ref p7), v] ∧ ExB st H H' ∧ SOk H' st l (c + 100) ∧
          H' p6 = some (.lst (us.map V.int)) ∧ H' p7 = some (.lst (bs.map V.int)) ∧ bs.length = 2 ^ n ∧ ∀ b ∈ bs, IsBit b) ⟨bs, none, rfl, X5.trans x7, S7.mono (by omega), h6', h7, hl, hb⟩ (fun i σ H' _ ⟨bs, v, _, _, _, h, _⟩ => sq_of h) ?_ ?_⟩
        · rintro i x σ H' hi ⟨bs, v, rfl, x', S', h6, h7, hl, hb⟩
          obtain ⟨u, hu, rfl⟩ : ∃ u, u ∈ us ∧ x = V.int u := by
            obtain ⟨y, h1, h2⟩ := List.mem_map.mp (List.mem_of_getElem? hi)
            exact ⟨y, h1, h2.symm⟩
          obtain ⟨k, rfl, hk⟩ := hus u hu
          have hkl : k < bs.length := by omega
          walk_at "rd"
          refine ⟨_, _, sq_of h7, atN hkl, _, rfl, _, _, h7, ixN_nat (by rw [List.length_map]; exact hkl), bs.set k (1 - bs.getD k 0), x'.upd_new hpH, S'.upd n1 n2, by rw [upd_ne n67]; exact h6, ?_, by rw [List.length_set]; exact hl, fun b hb' => ?_⟩
          · rw [upd_same, List.map_set]
          · rcases List.mem_or_eq_of_mem_set hb' with e | e
            · exact hb b e
            · have := bitD hb k
              unfold IsBit at *
              omega
        · rintro σ H' ⟨bs, v, rfl, x', S', h6, h7, hl, hb⟩
          walk_at "rd"
          refine ⟨sz_of (by simp), fun r hr => ?_⟩
          refine q r p6 p7 _ bs _ hpH (x'.trans (ExB.of (Ex.new hr))) ((S'.new hr).mono (by omega)) upd_same (Ex.new hr _ _ h7) hl hb
abbrev s_lone : Stmt := top 83
abbrev N_lone : List Str := ["_law_store_here", "_law_wide_here"]
theorem sc_lone : FnScope N_lone ["_law_store_here", "_law_wide_here"] (defScope s_lone) := ⟨rfl, rfl, rfl, by decide +kernel, rfl, by decide +kernel, by decide +kernel⟩
theorem st_lone {x0 x1 : V} : start N_lone [x0, x1] = [some x0, some x1] := rfl

theorem b_lone (T : Fx K mg) : L2.Binds K (fdOf K (T_lone K)) ["_law_store_here", "_law_wide_here"] [] := T.d_lone.F.binds (ps := ["_law_store_here", "_law_wide_here"]) fun _ _ _ _ _ _ us hl => match us, hl with | [_, _], _ => rfl
def sp_one : Sp := fun vs H Q _ => ∃ (st l : Addr) (c n : Nat), vs = [.ref st, .int (n : Int)] ∧ SOk H st l c ∧ c ≤ 700000 ∧ n ≤ 6 ∧ RetBits st l (c + 400) n H Q
theorem ok_lone (T : Fx K mg) : FnOk P w K mg base CX0 7 (T_lone K) (fdOf K (T_lone K)) ["_law_store_here", "_law_wide_here"] sp_one := by
  refine T.d_lone.F.ok sc_lone (fun vs H Q E h => ?_) (fun cdv A outer s H vs Q E hr h => ?_)
  · obtain ⟨st, l, c, n, rfl, _⟩ := h
    rfl
  · obtain ⟨st, l, c, n, rfl, hS, hc, hn, q⟩ := h
    refine ⟨_, (pss_cons (ps_if (pt_cmpR op_eq (pe_call (ok_ltake T) (hr.mono (by decide)) (by rfl) T.d_ltake.gl T.d_ltake.F.kp (b_ltake T) .nil pass0 (pa_cons (pv 0) (pa_cons pe_int pa_nil))) pe_int (nomark _)) (pss_one (ps_ret (pe_call (ok_lbits T) (hr.mono (by decide)) (by rfl) T.d_lbits.gl T.d_lbits.F.kp (b_lbits T) .nil pass0 (pa_cons (pv 0) (pa_cons (pv 1) pa_nil))))) pss_nil)
      (pss_one (ps_ret (pe_ix (k_ixT K) (pe_call (ok_lbits_near T) (hr.mono (by decide)) (by rfl) T.d_lbits_near.gl T.d_lbits_near.F.kp (b_lbits_near T) .nil pass0 (pa_cons (pv 0) (pa_cons (pv 1) (pa_cons (pe_callB (call_min2 rfl) (by rfl) T.z_min (by decide +kernel) (pa_cons (pe_op op_shl1 pe_int (pv 1)) (pa_cons (pe_op op_add (pe_op op_fdivW (pe_op op_shl1 pe_int (pv 1)) pe_int) pe_int) pa_nil))) pa_nil)))) pe_int (fun _ _ => rfl))))), ?_⟩
    rw [st_lone]
    walk_at "rd"
    have hp0 := Nat.two_pow_pos n
    have h64 : 2 ^ n ≤ 64 := Nat.pow_le_pow_right (n := 2) (by decide) hn
    have i64 : ((2 ^ n : Nat) : Int) ≤ 64 := Int.ofNat_le.mpr h64
    have i0 : (0 : Int) < ((2 ^ n : Nat) : Int) := Int.ofNat_lt.mpr hp0
    refine ⟨st, l, c, 2, rfl, hS, by omega, by decide, by decide, fun r H1 r0 r1 x1 S1 => ?_⟩
    walk_at "rd"
    by_cases hr0 : r = 0
    · rw [if_pos hr0]
      exact ⟨st, l, c + 1, n, rfl, S1, by omega, hn, q.go2 hS S1 x1 (by omega)⟩
    · rw [if_neg hr0]
      refine ⟨by omega, by omega, wide_div (b := 3) (by decide) (by decide) (by decide) (by decide), _, _, ⟨rfl, rfl⟩, st, l, c + 1, n, _, rfl, S1, by omega, hn, ?_, ?_, ?_⟩
      · split <;> omega
      · split <;> omega
      · intro t u p z bs H2 hp x2 S2 ht hl hb h2
        exact ⟨t, rfl, _, _, st_of ht, rfl, q p bs H2 (hS.back S1 x1 hp) (x1.trans x2) (S2.mono (by omega)) hl hb h2⟩
end
end Bs
/-! Walk 8: the law's own answers. -/
namespace Bs
open PySem PySem.Spec PyProof.Rows L2 Evl
local macro_rules | `(tactic| walk_at "rd") => `(tactic| try simp only [rd_var, rd_c, rd_op, rd_un, rd_I, rd_I0, rd_U, rd_NN, rd_shr, rd_shl1, rd_XB, rd_eq, rd_ne, scal_int, rd_B, rd_test, rd_and, rd_or, rd_not, rd_andV, rd_orV, rd_notV, rd_if, rd_nil, rd_cons, rd_tup, rd_lst, rd_call, rd_CB, rd_prop, rd_meth, rd_fld, rd_make, rd_sl, rd_noPart, rd_part, rd_bm0, rd_bm, rd_bits, rd_ixL, rd_ixT, rd_append, rd_addN, rd_dbl, rd_half, rd_int, rd_intB, rd_bit1, rd_popAt, rd_slL, rd_sortedI, rd_lstRg, rd_rg1, tru_int, rd_len, rd_listS, rd_tupS, rd_sum, rd_min, rd_iEnum, rd_yes, rd_asg, rd_name, rd_gnil, rd_gcons1, rd_two, rd_gtup, rd_gsub, rd_setL, rd_seq, rd_next, rd_break, rd_never, rd_drop, rd_ret, rd_retN, rd_ifS, rd_par, rd_aug, rd_sFld, rd_for, rd_iList, rd_iTup, rd_iRng1, rd_lc, vint, vbl, vref, natc, cx_K, cx_noxK, List.getElem?_cons_zero, List.getElem?_cons_succ, Option.some.injEq, exists_eq_left, exists_eq_left', exists_eq_right, exists_eq_right', true_and, and_true, List.cons.injEq, List.cons_append, List.nil_append, List.append_nil, List.set_cons_zero, List.set_cons_succ, Bool.not_true, Bool.not_false, decide_eq_true_eq, if_true, if_false, Bool.false_eq_true, reduceIte, and_self, Int.zero_add, exists_eq, exists_eq', wipe, List.map_cons, List.map_nil])
section
variable {P : Program} {w : World} {K : PySem.W.Frag} {mg : Str → Option Value} {base : Heap} {X : Cx}
/-- an item of a list or of a tuple -/
def rIxS (K : PySem.W.Frag) : R2 := fun x y H Q => ∃ p, x = .ref p ∧ ∃ i, y = .int i ∧ ∃ xs v, (SqL K H p xs ∨ SqT K H p xs) ∧ atI xs i = some v ∧ Q v H
theorem k_ixS (K : PySem.W.Frag) (h : X.K = K := by rfl) : IxR X (rIxS K) := by
  subst h
  rintro value slice pins s σ H x y v u Q I rx ry ⟨p, e1, i, e2, xs, z, hs, ha, q⟩
  rcases hs with hs | hs
  · exact ix_list value slice pins s σ H x y v u Q I rx ry ⟨p, xs, i, z, e1, e2, hs, ha, q⟩
  · exact ix_tup value slice pins s σ H x y v u Q I rx ry ⟨p, xs, i, z, e1, e2, hs, ha, q⟩
theorem isi_of {H : Hp} {Q : VK} {v : V} {n T : String} {b : Bool} (ht : TyOf K H v (.type n)) (h : kitB n T = some b) (q : Q (.bl b) H) : rIsi K [v, .ty T] H Q :=
  ⟨_, _, _, _, _, rfl, ClsV.ty T, TyX.base ht, kit_ty h, q⟩
abbrev s_llowest : Stmt := top 70
abbrev N_llowest : List Str := ["_law_top", "_law_low", "_law_one_here", "_law_two", "_law_k", "_law_rest"]
theorem sc_llowest : FnScope N_llowest ["_law_top", "_law_low"] (defScope s_llowest) := ⟨rfl, rfl, rfl, by decide +kernel, rfl, by decide +kernel, by decide +kernel⟩
theorem st_llowest {x0 x1 : V} : start N_llowest [x0, x1] = [some x0, some x1, none, none, none, none] := rfl

theorem b_llowest (T : Fx K mg) : L2.Binds K (fdOf K (T_llowest K)) ["_law_top", "_law_low"] [] := T.d_llowest.F.binds (ps := ["_law_top", "_law_low"]) fun _ _ _ _ _ _ us hl => match us, hl with | [_, _], _ => rfl
theorem bits_up (n : Nat) : n < 2 ^ Builtin.Int.intBits (n : Int) := by
  unfold Builtin.Int.intBits
  by_cases h : n = 0
  · subst h
    decide
  · rw [if_neg (by rw [beq_iff_eq]; omega), Int.natAbs_natCast]
    exact Nat.lt_log2_self
theorem ok_llowest (T : Fx K mg) : FnOk P w K mg base CX0 1 (T_llowest K) (fdOf K (T_llowest K)) ["_law_top", "_law_low"] sp_low := by
  refine T.d_llowest.F.ok sc_llowest (fun vs H Q E h => ?_) (fun cdv A outer s H vs Q E hr h => ?_)
  · obtain ⟨i, z, rfl, _⟩ := h
    rfl
  · obtain ⟨a, b, rfl, hb, q⟩ := h
    refine ⟨_, (pss_cons (ps_set (i := 2) sc_llowest.nd rfl (by first | exact Or.inl rfl | exact Or.inr rfl) (pe_callB call_abs (by rfl) T.z_abs (by decide +kernel) (pa_cons (pv 0) pa_nil)))
      (pss_cons (ps_set (i := 3) sc_llowest.nd rfl (by first | exact Or.inl rfl | exact Or.inr rfl) (pe_callB call_abs (by rfl) T.z_abs (by decide +kernel) (pa_cons (pv 1) pa_nil)))
      (pss_cons (ps_for PassesOwn.never (by rfl) (pi_range1 (by rfl) T.z_range (pa_cons (pe_op op_add (pe_op op_mulX pe_int (pe_bits (pv 3))) pe_int) pa_nil)) (pg_name (i := 4) sc_llowest.nd rfl (by first | exact Or.inl rfl | exact Or.inr rfl)) (pss_cons (ps_if (pt_cmpR op_eq (pv 3) pe_int (nomark _)) (pss_one ps_break) pss_nil)
      (pss_cons (ps_set (i := 5) sc_llowest.nd rfl (by first | exact Or.inl rfl | exact Or.inr rfl) (pe_op op_mod (pe_callTy k_int (by rfl) T.z_int (by decide +kernel) (pa_cons (pv 2) pa_nil)) (pv 3)))
      (pss_cons (ps_set (i := 2) sc_llowest.nd rfl (by first | exact Or.inl rfl | exact Or.inr rfl) (pv 3))
      (pss_one (ps_set (i := 3) sc_llowest.nd rfl (by first | exact Or.inl rfl | exact Or.inr rfl) (pv 5)))))))
      (pss_cons (ps_if (pt_cmpR op_lt (pv 1) pe_int (nomark _)) (pss_one (ps_ret (pe_tup (pa_cons (pe_op op_sub pe_int (pe_op op_fdivW (pv 0) (pv 2))) (pa_cons (pe_op op_sub pe_int (pe_op op_fdivW (pv 1) (pv 2))) pa_nil))))) pss_nil)
      (pss_one (ps_ret (pe_tup (pa_cons (pe_op op_fdivW (pv 0) (pv 2)) (pa_cons (pe_op op_fdivW (pv 1) (pv 2)) pa_nil))))))))), ?_⟩
    rw [st_llowest]
    walk_at "rd"
    rw [abs_if, abs_if]
    have hbl : Builtin.Int.intBits ((b.natAbs : Nat) : Int) ≤ 30 := PyProof.Rows.intBits_le (k := 30) (by omega)
    have hup := bits_up b.natAbs
    generalize Builtin.Int.intBits ((b.natAbs : Nat) : Int) = bl at hbl hup ⊢
    have hg := gcd_le (a := a) hb.1
    have hd : CDivW a (Int.gcd a b : Int) := wide_div (b := 31) hg.1 (by omega) (by decide) (by decide)
    have he : CDivW b (Int.gcd a b : Int) := wide_div (b := 31) hg.1 (by omega) (by decide) (by decide)
    refine ⟨mulx_ok (a := 3) (b := 6) (by omega) (by omega) (by decide), by omega, by omega, ?_⟩
    rw [show (2 * (bl : Int) + 3).toNat = 2 * bl + 3 by omega]
    refine loop_range (fun i σ H' => ∃ (one two : Nat) (v4 v5 : Option V), σ = [some (.int a), some (.int b), some (.int (one : Int)), some (.int (two : Int)), v4, v5] ∧ H' = H ∧ Nat.gcd one two = Int.gcd a b ∧ Euc bl i one two) ⟨_, _, none, none, rfl, rfl, rfl, euc_start hup⟩ ?_ ?_
    · rintro i σ H' hi ⟨one, two, v4, v5, rfl, rfl, e1, e2⟩
      walk_at "rd"
      by_cases c : two = 0
      · subst c
        rw [Nat.gcd_zero_right] at e1
        subst e1
        rw [if_pos (by rfl)]
        walk_at "rd"
        rw [if_neg (by omega)]
        exact ⟨hd, he, sz_of (by simp), fun p hp => q.now (Ex.refl _) hp⟩
      · rw [if_neg (by omega)]
        refine ⟨by omega, two, one % two, _, _, ⟨rfl, (Int.natCast_emod _ _).symm, rfl, rfl⟩, ?_, euc_turn e2 (by omega)⟩
        · rw [Nat.gcd_comm, ← Nat.gcd_rec, Nat.gcd_comm]
          exact e1
    · rintro σ H' ⟨one, two, v4, v5, rfl, rfl, e1, e2⟩
      exact (euc_end e2).elim
/-! ### the same data -/
def Sam0 (t d : V) : Prop := (t = .non ∧ d = .non) ∨ (∃ i, t = .int i ∧ d = .int i) ∨ (∃ x, t = .str x ∧ d = .str x)
def Par (pr : V → V → Prop) (t d : V) (H : Hp) : Prop := ∃ (a b : Addr) (xs ys : List V), t = .ref a ∧ d = .ref b ∧ ((H a = some (.lst xs) ∧ H b = some (.lst ys)) ∨ (H a = some (.tup xs) ∧ H b = some (.tup ys))) ∧ xs.length = ys.length ∧ xs.length ≤ 1000 ∧
  ∀ (i : Nat) (x y : V), xs[i]? = some x → ys[i]? = some y → pr x y
def Sam : Nat → V → V → Hp → Prop
  | 0, t, d, _ => Sam0 t d
  | k + 1, t, d, H => Sam0 t d ∨ Par (fun x y => Sam k x y H) t d H
theorem Sam.of0 {k : Nat} {t d : V} {H : Hp} (h : Sam0 t d) : Sam k t d H := by
  cases k with
  | zero => exact h
  | succ k => exact Or.inl h
def sp_same (pr : V → V → Hp → Prop) : Sp := fun vs H Q _ => ∃ t d, vs = [t, d] ∧ pr t d H ∧ Q (.bl true) H
abbrev s_lsame : Stmt := top 64
abbrev N_lsame : List Str := ["_law_told", "_law_due", "_law_k"]
theorem sc_lsame : FnScope N_lsame ["_law_told", "_law_due"] (defScope s_lsame) := ⟨rfl, rfl, rfl, by decide +kernel, rfl, by decide +kernel, by decide +kernel⟩
theorem st_lsame {x0 x1 : V} : start N_lsame [x0, x1] = [some x0, some x1, none] := rfl

theorem b_lsame (T : Fx K mg) : L2.Binds K (fdOf K (T_lsame K)) ["_law_told", "_law_due"] [] := T.d_lsame.F.binds (ps := ["_law_told", "_law_due"]) fun _ _ _ _ _ _ us hl => match us, hl with | [_, _], _ => rfl
theorem lsame_step (T : Fx K mg) {l : Nat} {pr : V → V → Hp → Prop} (ih : FnOk P w K mg base CX0 l (T_lsame K) (fdOf K (T_lsame K)) ["_law_told", "_law_due"] (sp_same pr)) :
    FnOk P w K mg base CX0 (l + 1) (T_lsame K) (fdOf K (T_lsame K)) ["_law_told", "_law_due"] (sp_same fun t d H => Sam0 t d ∨ Par (fun x y => pr x y H) t d H) := by
  refine T.d_lsame.F.ok sc_lsame (fun vs H Q E h => ?_) (fun cdv A outer s H vs Q E hr h => ?_)
  · obtain ⟨t, d, rfl, _⟩ := h
    rfl
  · obtain ⟨t, d, rfl, h, q⟩ := h
    refine ⟨_, (pss_cons (ps_if (pt_cmpR op_isN (pv 1) pe_non (nomark _)) (pss_one (ps_ret (pe_cmpR op_isN (pv 0) pe_non (nomark _)))) pss_nil)
      (pss_cons (ps_if (pt_val (pe_callB (k_isi K) (by rfl) T.z_isinstance (by decide +kernel) (pa_cons (pv 1) (pa_cons (pe_bltn (v := .ty "bool") (by rfl) T.z_bool (by decide +kernel) rfl) pa_nil)))) (pss_one (ps_ret (pe_and (pe_callB (k_isi K) (by rfl) T.z_isinstance (by decide +kernel) (pa_cons (pv 0) (pa_cons (pe_bltn (v := .ty "bool") (by rfl) T.z_bool (by decide +kernel) rfl) pa_nil))) (pe_one (pe_cmpR op_eq (pv 0) (pv 1) (nomark _)))))) pss_nil)
      (pss_cons (ps_if (pt_val (pe_callB (k_isi K) (by rfl) T.z_isinstance (by decide +kernel) (pa_cons (pv 1) (pa_cons (pe_bltn (v := .ty "int") (by rfl) T.z_int (by decide +kernel) rfl) pa_nil)))) (pss_one (ps_ret (pe_and (pe_callB (k_isi K) (by rfl) T.z_isinstance (by decide +kernel) (pa_cons (pv 0) (pa_cons (pe_bltn (v := .ty "int") (by rfl) T.z_int (by decide +kernel) rfl) pa_nil))) (pe_and (pe_not (pe_callB (k_isi K) (by rfl) T.z_isinstance (by decide +kernel) (pa_cons (pv 0) (pa_cons (pe_bltn (v := .ty "bool") (by rfl) T.z_bool (by decide +kernel) rfl) pa_nil)))) (pe_one (pe_cmpR op_eq (pv 0) (pv 1) (nomark _))))))) pss_nil)
      (pss_cons (ps_if (pt_val (pe_callB (k_isi K) (by rfl) T.z_isinstance (by decide +kernel) (pa_cons (pv 1) (pa_cons (pe_bltn (v := .ty "str") (by rfl) T.z_str (by decide +kernel) rfl) pa_nil)))) (pss_one (ps_ret (pe_and (pe_callB (k_isi K) (by rfl) T.z_isinstance (by decide +kernel) (pa_cons (pv 0) (pa_cons (pe_bltn (v := .ty "str") (by rfl) T.z_str (by decide +kernel) rfl) pa_nil))) (pe_one (pe_cmpR op_eq (pv 0) (pv 1) (nomark _)))))) pss_nil)
      (pss_cons (ps_if (PW.pt (pw_and (pt_val (pe_callB (k_isi K) (by rfl) T.z_isinstance (by decide +kernel) (pa_cons (pv 1) (pa_cons (pe_bltn (v := .ty "list") (by rfl) T.z_list (by decide +kernel) rfl) pa_nil)))) (pw_and1 (pt_not (pt_val (pe_callB (k_isi K) (by rfl) T.z_isinstance (by decide +kernel) (pa_cons (pv 0) (pa_cons (pe_bltn (v := .ty "list") (by rfl) T.z_list (by decide +kernel) rfl) pa_nil)))))))) (pss_one (ps_ret pe_bl)) pss_nil)
      (pss_cons (ps_if (PW.pt (pw_and (pt_val (pe_callB (k_isi K) (by rfl) T.z_isinstance (by decide +kernel) (pa_cons (pv 1) (pa_cons (pe_bltn (v := .ty "tuple") (by rfl) T.z_tuple (by decide +kernel) rfl) pa_nil)))) (pw_and1 (pt_not (pt_val (pe_callB (k_isi K) (by rfl) T.z_isinstance (by decide +kernel) (pa_cons (pv 0) (pa_cons (pe_bltn (v := .ty "tuple") (by rfl) T.z_tuple (by decide +kernel) rfl) pa_nil)))))))) (pss_one (ps_ret pe_bl)) pss_nil)
      (pss_cons (ps_if (pt_cmpR op_ne (pe_callB (k_len K) (by rfl) T.z_len (by decide +kernel) (pa_cons (pv 0) pa_nil)) (pe_callB (k_len K) (by rfl) T.z_len (by decide +kernel) (pa_cons (pv 1) pa_nil)) (nomark _)) (pss_one (ps_ret pe_bl)) pss_nil)
      (pss_cons (ps_for PassesOwn.never (by rfl) (pi_range1 (by rfl) T.z_range (pa_cons (pe_callB (k_len K) (by rfl) T.z_len (by decide +kernel) (pa_cons (pv 1) pa_nil)) pa_nil)) (pg_name (i := 2) sc_lsame.nd rfl (by first | exact Or.inl rfl | exact Or.inr rfl)) (pss_one (ps_if (pt_not (pt_val (pe_call ((fun _ => ih) T) (hr.mono (Nat.le_refl _)) (by rfl) T.d_lsame.gl T.d_lsame.F.kp (b_lsame T) .nil pass0 (pa_cons (pe_ix (k_ixS K) (pv 0) (pv 2) (fun _ _ => rfl)) (pa_cons (pe_ix (k_ixS K) (pv 1) (pv 2) (fun _ _ => rfl)) pa_nil))))) (pss_one (ps_ret pe_bl)) pss_nil)))
      (pss_one (ps_ret pe_bl)))))))))), ?_⟩
    rw [st_lsame]
    walk_at "rd"
    rcases h with (⟨rfl, rfl⟩ | ⟨i, rfl, rfl⟩ | ⟨x, rfl, rfl⟩) | h
    · walk_at "rd"
      exact q
    · rw [if_neg (fun z => nomatch z)]
      refine isi_of (.int i) (b := false) (by decide +kernel) ?_
      walk_at "rd"
      refine isi_of (.int i) (b := true) (by decide +kernel) ?_
      walk_at "rd"
      refine isi_of (.int i) (b := true) (by decide +kernel) ?_
      walk_at "rd"
      refine isi_of (.int i) (b := false) (by decide +kernel) ?_
      walk_at "rd"
      rw [decide_eq_true True.intro]
      exact q
    · rw [if_neg (fun z => nomatch z)]
      refine isi_of (.str x) (b := false) (by decide +kernel) ?_
      walk_at "rd"
      refine isi_of (.str x) (b := false) (by decide +kernel) ?_
      walk_at "rd"
      refine isi_of (.str x) (b := true) (by decide +kernel) ?_
      walk_at "rd"
      refine isi_of (.str x) (b := true) (by decide +kernel) ?_
      walk_at "rd"
      refine ⟨rfl, ?_⟩
      rw [decide_eq_true True.intro]
      exact q
    · obtain ⟨a, b, xs, ys, rfl, rfl, hh, hl, hn, hp⟩ := h
      rw [if_neg (fun z => nomatch z)]
      rcases hh with ⟨h1, h2⟩ | ⟨h1, h2⟩
      · refine isi_of (.lst h2) (b := false) (by decide +kernel) ?_
        walk_at "rd"
        refine isi_of (.lst h2) (b := false) (by decide +kernel) ?_
        walk_at "rd"
        refine isi_of (.lst h2) (b := false) (by decide +kernel) ?_
        walk_at "rd"
        refine isi_of (.lst h2) (b := true) (by decide +kernel) ?_
        walk_at "rd"
        refine isi_of (.lst h1) (b := true) (by decide +kernel) ?_
        walk_at "rd"
        refine isi_of (.lst h2) (b := false) (by decide +kernel) ?_
        walk_at "rd"
        refine ⟨_, .inl (sq_of h1), _, .inl (sq_of h2), ?_⟩
        rw [if_neg (by rw [hl, decide_eq_true rfl]; decide)]
        refine ⟨_, .inl (sq_of h2), by omega, by omega, ?_⟩
        rw [Int.toNat_natCast]
        refine loop_range (fun i σ H' => H' = H ∧ ∃ v, σ = [some (.ref a), some (.ref b), v]) ⟨rfl, none, rfl⟩ ?_ ?_
        · rintro i σ H' hi ⟨rfl, v, rfl⟩
          have hix : i < xs.length := by omega
          walk_at "rd"
          refine ⟨_, rfl, _, rfl, _, _, .inl (sq_of h1), atI_nat (List.getElem?_eq_getElem hix), _, rfl, _, rfl, _, _, .inl (sq_of h2), atI_nat (List.getElem?_eq_getElem hi), _, _, rfl, hp i _ _ (List.getElem?_eq_getElem hix) (List.getElem?_eq_getElem hi), ?_⟩
          walk_at "rd"
        · rintro σ H' ⟨rfl, v, rfl⟩
          exact q
      · refine isi_of (.tup h2) (b := false) (by decide +kernel) ?_
        walk_at "rd"
        refine isi_of (.tup h2) (b := false) (by decide +kernel) ?_
        walk_at "rd"
        refine isi_of (.tup h2) (b := false) (by decide +kernel) ?_
        walk_at "rd"
        refine isi_of (.tup h2) (b := false) (by decide +kernel) ?_
        walk_at "rd"
        refine isi_of (.tup h2) (b := true) (by decide +kernel) ?_
        walk_at "rd"
        refine isi_of (.tup h1) (b := true) (by decide +kernel) ?_
        walk_at "rd"
        refine ⟨_, .inr (st_of h1), _, .inr (st_of h2), ?_⟩
        rw [if_neg (by rw [hl, decide_eq_true rfl]; decide)]
        refine ⟨_, .inr (st_of h2), by omega, by omega, ?_⟩
        rw [Int.toNat_natCast]
        refine loop_range (fun i σ H' => H' = H ∧ ∃ v, σ = [some (.ref a), some (.ref b), v]) ⟨rfl, none, rfl⟩ ?_ ?_
        · rintro i σ H' hi ⟨rfl, v, rfl⟩
          have hix : i < xs.length := by omega
          walk_at "rd"
          refine ⟨_, rfl, _, rfl, _, _, .inr (st_of h1), atI_nat (List.getElem?_eq_getElem hix), _, rfl, _, rfl, _, _, .inr (st_of h2), atI_nat (List.getElem?_eq_getElem hi), _, _, rfl, hp i _ _ (List.getElem?_eq_getElem hix) (List.getElem?_eq_getElem hi), ?_⟩
          walk_at "rd"
        · rintro σ H' ⟨rfl, v, rfl⟩
          exact q
theorem ok_lsame0 (T : Fx K mg) : FnOk P w K mg base CX0 1 (T_lsame K) (fdOf K (T_lsame K)) ["_law_told", "_law_due"] (sp_same fun _ _ _ => False) := by
  refine T.d_lsame.F.ok sc_lsame (fun vs H Q E h => ?_) (fun cdv A outer s H vs Q E hr h => ?_)
  · obtain ⟨_, _, _, h, _⟩ := h
    exact h.elim
  · obtain ⟨_, _, _, h, _⟩ := h
    exact h.elim
theorem ok_lsame (T : Fx K mg) : ∀ k, FnOk P w K mg base CX0 (k + 2) (T_lsame K) (fdOf K (T_lsame K)) ["_law_told", "_law_due"] (sp_same (Sam k))
  | 0 => (lsame_step T (ok_lsame0 T)).imp fun vs H Q E ⟨t, d, e, h, q⟩ => ⟨t, d, e, .inl h, q⟩
  | k + 1 => lsame_step T (ok_lsame T k)
/-! ### spoiling -/
def SpD : Nat → V → Hp → Prop
  | 0, v, _ => ∃ i, v = .int i
  | k + 1, v, H => (∃ i, v = .int i) ∨ ∃ (a : Addr) (xs : List V), v = .ref a ∧ H a = some (.tup xs) ∧ xs.length ≤ 1000 ∧ ∀ x ∈ xs, SpD k x H
theorem SpD.ex : ∀ {k : Nat} {v : V} {H H' : Hp}, Ex H H' → SpD k v H → SpD k v H'
  | 0, _, _, _, _, h => h
  | k + 1, _, _, _, e, .inl h => .inl h
  | k + 1, _, _, _, e, .inr ⟨a, xs, h1, h2, h3, h4⟩ => .inr ⟨a, xs, h1, e _ _ h2, h3, fun x hx => (h4 x hx).ex e⟩
def spF : Sp := fun _ _ _ _ => False
def sp_spo (pr : V → Hp → Prop) : Sp := fun vs H Q _ => ∃ v, vs = [v] ∧ pr v H ∧ ∀ H2, Ex H H2 → Q .non H2
abbrev s_lspoil : Stmt := top 65
abbrev N_lspoil : List Str := ["_law_given", "_law_item"]
theorem sc_lspoil : FnScope N_lspoil ["_law_given"] (defScope s_lspoil) := ⟨rfl, rfl, rfl, by decide +kernel, rfl, by decide +kernel, by decide +kernel⟩
theorem st_lspoil {x0 : V} : start N_lspoil [x0] = [some x0, none] := rfl

theorem b_lspoil (T : Fx K mg) : L2.Binds K (fdOf K (T_lspoil K)) ["_law_given"] [] := T.d_lspoil.F.binds (ps := ["_law_given"]) fun _ _ _ _ _ _ us hl => match us, hl with | [_], _ => rfl
theorem isi_lt {H : Hp} {Q : VK} {v : V} {n : String} {b : Bool} {t : Addr} (hv : TyOf K H v (.type n)) (hb : PySem.W.kitAny K (.type n) [.type "list", .type "tuple"] = some b) (ht : H t = some (.tup [.ty "list", .ty "tuple"])) (q : Q (.bl b) H) : rIsiT K [v, .ref t] H Q :=
  ⟨_, _, _, _, _, _, rfl, ht, .cons (ClsV.ty _) (.cons (ClsV.ty _) .nil), TyX.base hv, hb, q⟩
theorem kt_int : PySem.W.kitAny K (.type "int") [.type "list", .type "tuple"] = some false :=
  kitAny_cons (b := false) (kit_ty (by decide +kernel)) (fun _ => kitAny_cons (b := false) (kit_ty (by decide +kernel)) (fun _ => rfl) (fun h => nomatch h)) (fun h => nomatch h)
theorem kt_tup : PySem.W.kitAny K (.type "tuple") [.type "list", .type "tuple"] = some true :=
  kitAny_cons (b := false) (kit_ty (by decide +kernel)) (fun _ => kitAny_cons (b := true) (kit_ty (by decide +kernel)) (fun h => nomatch h) (fun _ => rfl)) (fun h => nomatch h)
theorem kt_lst : PySem.W.kitAny K (.type "list") [.type "list", .type "tuple"] = some true :=
  kitAny_cons (b := true) (kit_ty (by decide +kernel)) (fun h => nomatch h) (fun _ => rfl)
theorem lspoil_step (T : Fx K mg) {l : Nat} {pr : V → Hp → Prop} (hpr : ∀ v H H', Ex H H' → pr v H → pr v H') (ih : FnOk P w K mg base CX0 l (T_lspoil K) (fdOf K (T_lspoil K)) ["_law_given"] (sp_spo pr)) :
    FnOk P w K mg base CX0 (l + 1) (T_lspoil K) (fdOf K (T_lspoil K)) ["_law_given"] (sp_spo fun v H => (∃ i, v = .int i) ∨ ∃ (a : Addr) (xs : List V), v = .ref a ∧ H a = some (.tup xs) ∧ xs.length ≤ 1000 ∧ ∀ x ∈ xs, pr x H) := by
  refine T.d_lspoil.F.ok sc_lspoil (fun vs H Q E h => ?_) (fun cdv A outer s H vs Q E hr h => ?_)
  · obtain ⟨t, rfl, _⟩ := h
    rfl
  · obtain ⟨t, rfl, h, q⟩ := h
    refine ⟨_, (pss_cons (ps_if (pt_val (pe_callB (k_isiT K) (by rfl) T.z_isinstance (by decide +kernel) (pa_cons (pv 0) (pa_cons (pe_tup (pa_cons (pe_bltn (v := .ty "list") (by rfl) T.z_list (by decide +kernel) rfl) (pa_cons (pe_bltn (v := .ty "tuple") (by rfl) T.z_tuple (by decide +kernel) rfl) pa_nil))) pa_nil)))) (pss_one (ps_for PassesOwn.never (by rfl) (ki_list K (pe_callTy (k_list K) (by rfl) T.z_list (by decide +kernel) (pa_cons (pv 0) pa_nil))) (pg_name (i := 1) sc_lspoil.nd rfl (by first | exact Or.inl rfl | exact Or.inr rfl)) (pss_one (ps_expr (pe_call ((fun _ => ih) T) (hr.mono (Nat.le_refl _)) (by rfl) T.d_lspoil.gl T.d_lspoil.F.kp (b_lspoil T) .nil pass0 (pa_cons (pv 1) pa_nil)))))) pss_nil)
      (pss_one (ps_if (pt_val (pe_callB (k_isi K) (by rfl) T.z_isinstance (by decide +kernel) (pa_cons (pv 0) (pa_cons (pe_bltn (v := .ty "list") (by rfl) T.z_list (by decide +kernel) rfl) pa_nil)))) (pss_cons (ps_expr (pe_bm0 PySem.F.plainAttrs_list PySem.F.slot_list_reverse PySem.F.type_list_reverse mt_reverse (pv 0)))
      (pss_cons (ps_expr (pe_bm PySem.F.plainAttrs_list PySem.F.slot_list_append PySem.F.type_list_append mt_append (pv 0) (pa_cons pe_str pa_nil)))
      (pss_one (ps_asg pe_str (pg_sub (pv 0) pe_int set_list))))) pss_nil))), ?_⟩
    rw [st_lspoil]
    walk_at "rd"
    refine ⟨sz_of (by simp), fun p hp => ?_⟩
    have ep : Ex H (upd H p (.tup [.ty "list", .ty "tuple"])) := Ex.new hp
    rcases h with ⟨i, rfl⟩ | ⟨a, xs, rfl, ha, hn, hx⟩
    · refine isi_lt (.int i) kt_int upd_same ?_
      walk_at "rd"
      refine isi_of (.int i) (b := false) (by decide +kernel) ?_
      walk_at "rd"
      exact q _ ep
    · refine isi_lt (.tup (ep _ _ ha)) kt_tup upd_same ?_
      walk_at "rd"
      refine ⟨_, .inr (st_of (ep _ _ ha)), fun o ho => ?_⟩
      walk_at "rd"
      have e2 := ep.trans (Ex.new ho (o := .lst xs))
      have h2 : (upd (upd H p (.tup [.ty "list", .ty "tuple"])) o (.lst xs)) o = some (.lst xs) := upd_same
      generalize upd (upd H p (.tup [.ty "list", .ty "tuple"])) o (.lst xs) = H2 at e2 h2 ⊢
      refine ⟨⟨_, sq_of h2⟩, loop_list (xs := xs) (fun i σ H' => Ex H2 H' ∧ ∃ v, σ = [some (.ref a), v]) ⟨Ex.refl _, none, rfl⟩ (fun i σ H' _ h => sq_of (h.1 _ _ h2)) ?_ ?_⟩
      · rintro i x σ H' hi ⟨e, v, rfl⟩
        walk_at "rd"
        exact ⟨_, rfl, hpr _ _ _ (e2.trans e) (hx x (List.mem_of_getElem? hi)), fun H3 e3 => e.trans e3⟩
      · rintro σ H' ⟨e, v, rfl⟩
        walk_at "rd"
        refine isi_of (.tup (e _ _ (e2 _ _ ha))) (b := false) (by decide +kernel) ?_
        walk_at "rd"
        exact q _ (e2.trans e)
theorem ok_lspoil0 (T : Fx K mg) : FnOk P w K mg base CX0 1 (T_lspoil K) (fdOf K (T_lspoil K)) ["_law_given"] (sp_spo fun _ _ => False) := by
  refine T.d_lspoil.F.ok sc_lspoil (fun vs H Q E h => ?_) (fun cdv A outer s H vs Q E hr h => ?_)
  · obtain ⟨_, _, h, _⟩ := h
    exact h.elim
  · obtain ⟨_, _, h, _⟩ := h
    exact h.elim
theorem ok_lspoil1 (T : Fx K mg) : ∀ k, FnOk P w K mg base CX0 (k + 2) (T_lspoil K) (fdOf K (T_lspoil K)) ["_law_given"] (sp_spo (SpD k))
  | 0 => (lspoil_step T (fun _ _ _ _ h => h) (ok_lspoil0 T)).imp fun vs H Q E ⟨t, e, h, q⟩ => ⟨t, e, .inl h, q⟩
  | k + 1 => lspoil_step T (fun _ _ _ e h => h.ex e) (ok_lspoil1 T k)
theorem ixz {xs : List V} {x : V} : ixN (xs ++ [x]).length 0 = some 0 := by
  rw [List.length_append]
  show ixN _ ((0 : Nat) : Int) = some 0
  exact ixN_nat (Nat.succ_pos _)
/-- a list of such tuples: it is changed, and nothing else -/
def sp_spl : Sp := fun vs H Q _ => ∃ (a : Addr) (xs : List V), vs = [.ref a] ∧ H a = some (.lst xs) ∧ xs.length ≤ 1000 ∧ (∀ x ∈ xs, SpD 1 x H) ∧ ∀ H2, (∀ b o, b ≠ a → H b = some o → H2 b = some o) → Q .non H2
theorem ok_lspoil (T : Fx K mg) : FnOk P w K mg base CX0 4 (T_lspoil K) (fdOf K (T_lspoil K)) ["_law_given"] sp_spl := by
  have ih := ok_lspoil1 (P := P) (w := w) (base := base) T 1
  refine T.d_lspoil.F.ok sc_lspoil (fun vs H Q E h => ?_) (fun cdv A outer s H vs Q E hr h => ?_)
  · obtain ⟨t, _, rfl, _⟩ := h
    rfl
  · obtain ⟨a, xs, rfl, ha, hn, hx, q⟩ := h
    refine ⟨_, (pss_cons (ps_if (pt_val (pe_callB (k_isiT K) (by rfl) T.z_isinstance (by decide +kernel) (pa_cons (pv 0) (pa_cons (pe_tup (pa_cons (pe_bltn (v := .ty "list") (by rfl) T.z_list (by decide +kernel) rfl) (pa_cons (pe_bltn (v := .ty "tuple") (by rfl) T.z_tuple (by decide +kernel) rfl) pa_nil))) pa_nil)))) (pss_one (ps_for PassesOwn.never (by rfl) (ki_list K (pe_callTy (k_list K) (by rfl) T.z_list (by decide +kernel) (pa_cons (pv 0) pa_nil))) (pg_name (i := 1) sc_lspoil.nd rfl (by first | exact Or.inl rfl | exact Or.inr rfl)) (pss_one (ps_expr (pe_call ((fun _ => ih) T) (hr.mono (Nat.le_refl _)) (by rfl) T.d_lspoil.gl T.d_lspoil.F.kp (b_lspoil T) .nil pass0 (pa_cons (pv 1) pa_nil)))))) pss_nil)
      (pss_one (ps_if (pt_val (pe_callB (k_isi K) (by rfl) T.z_isinstance (by decide +kernel) (pa_cons (pv 0) (pa_cons (pe_bltn (v := .ty "list") (by rfl) T.z_list (by decide +kernel) rfl) pa_nil)))) (pss_cons (ps_expr (pe_bm0 PySem.F.plainAttrs_list PySem.F.slot_list_reverse PySem.F.type_list_reverse mt_reverse (pv 0)))
      (pss_cons (ps_expr (pe_bm PySem.F.plainAttrs_list PySem.F.slot_list_append PySem.F.type_list_append mt_append (pv 0) (pa_cons pe_str pa_nil)))
      (pss_one (ps_asg pe_str (pg_sub (pv 0) pe_int set_list))))) pss_nil))), ?_⟩
    rw [st_lspoil]
    walk_at "rd"
    refine ⟨sz_of (by simp), fun p hp => ?_⟩
    have ep : Ex H (upd H p (.tup [.ty "list", .ty "tuple"])) := Ex.new hp
    refine isi_lt (.lst (ep _ _ ha)) kt_lst upd_same ?_
    walk_at "rd"
    refine ⟨_, .inl (sq_of (ep _ _ ha)), fun o ho => ?_⟩
    walk_at "rd"
    have e2 := ep.trans (Ex.new ho (o := .lst xs))
    have h2 : (upd (upd H p (.tup [.ty "list", .ty "tuple"])) o (.lst xs)) o = some (.lst xs) := upd_same
    generalize upd (upd H p (.tup [.ty "list", .ty "tuple"])) o (.lst xs) = H2 at e2 h2 ⊢
    refine ⟨⟨_, sq_of h2⟩, loop_list (xs := xs) (fun i σ H' => Ex H2 H' ∧ ∃ v, σ = [some (.ref a), v]) ⟨Ex.refl _, none, rfl⟩ (fun i σ H' _ h => sq_of (h.1 _ _ h2)) ?_ ?_⟩
    · rintro i x σ H' hi ⟨e, v, rfl⟩
      walk_at "rd"
      exact ⟨_, rfl, (hx x (List.mem_of_getElem? hi)).ex (e2.trans e), fun H3 e3 => e.trans e3⟩
    · rintro σ H' ⟨e, v, rfl⟩
      walk_at "rd"
      have ha' := e _ _ (e2 _ _ ha)
      refine isi_of (.lst ha') (b := true) (by decide +kernel) ?_
      walk_at "rd"
      refine ⟨ty_list ha', a, _, rfl, rfl, ha', ty_list upd_same, _, upd_same, by rw [List.length_reverse]; exact sz_lt (by omega), _, 0, upd_same, ixz, ?_⟩
      refine q _ fun b o hb ho => ?_
      rw [upd_ne hb, upd_ne hb, upd_ne hb]
      exact e _ _ (e2 _ _ ho)
end
end Bs
/-! Walk 9: what the law says is due. -/
namespace Bs
open PySem PySem.Spec PyProof.Rows L2 Evl
local macro_rules | `(tactic| walk_at "rd") => `(tactic| try simp only [rd_var, rd_c, rd_op, rd_un, rd_I, rd_I0, rd_U, rd_NN, rd_shr, rd_shl1, rd_XB, rd_eq, rd_ne, scal_int, rd_B, rd_test, rd_and, rd_or, rd_not, rd_andV, rd_orV, rd_notV, rd_if, rd_nil, rd_cons, rd_tup, rd_lst, rd_call, rd_CB, rd_prop, rd_meth, rd_fld, rd_make, rd_sl, rd_noPart, rd_part, rd_bm0, rd_bm, rd_bits, rd_ixL, rd_ixT, rd_append, rd_addN, rd_dbl, rd_half, rd_int, rd_intB, rd_bit1, rd_popAt, rd_slL, rd_sortedI, rd_lstRg, rd_rg1, tru_int, rd_len, rd_listS, rd_tupS, rd_sum, rd_min, rd_iEnum, rd_yes, rd_asg, rd_name, rd_gnil, rd_gcons1, rd_two, rd_gtup, rd_gsub, rd_setL, rd_seq, rd_next, rd_break, rd_never, rd_drop, rd_ret, rd_retN, rd_ifS, rd_par, rd_aug, rd_sFld, rd_for, rd_iList, rd_iTup, rd_iRng1, rd_lc, vint, vbl, vref, natc, cx_K, cx_noxK, List.getElem?_cons_zero, List.getElem?_cons_succ, Option.some.injEq, exists_eq_left, exists_eq_left', exists_eq_right, exists_eq_right', true_and, and_true, List.cons.injEq, List.cons_append, List.nil_append, List.append_nil, List.set_cons_zero, List.set_cons_succ, Bool.not_true, Bool.not_false, decide_eq_true_eq, if_true, if_false, Bool.false_eq_true, reduceIte, and_self, Int.zero_add, exists_eq, exists_eq', wipe, List.map_cons, List.map_nil])
section
variable {P : Program} {w : World} {K : PySem.W.Frag} {mg : Str → Option Value} {base : Heap} {X : Cx}
abbrev s_lis_table : Stmt := top 66
abbrev N_lis_table : List Str := ["_law_given", "_law_wide_here", "_law_due"]
theorem sc_lis_table : FnScope N_lis_table ["_law_given", "_law_wide_here", "_law_due"] (defScope s_lis_table) := ⟨rfl, rfl, rfl, by decide +kernel, rfl, by decide +kernel, by decide +kernel⟩
theorem st_lis_table {x0 x1 x2 : V} : start N_lis_table [x0, x1, x2] = [some x0, some x1, some x2] := rfl

theorem b_lis_table (T : Fx K mg) : L2.Binds K (fdOf K (T_lis_table K)) ["_law_given", "_law_wide_here", "_law_due"] [] := T.d_lis_table.F.binds (ps := ["_law_given", "_law_wide_here", "_law_due"]) fun _ _ _ _ _ _ us hl => match us, hl with | [_, _, _], _ => rfl
def sp_ist (K : PySem.W.Frag) : Sp := fun vs H Q _ => ∃ (a l : Addr) (n : Nat) (bs : List Int), vs = [.ref a, .int (n : Int), .ref l] ∧ IsTab K H a n bs ∧ H l = some (.lst (bs.map V.int)) ∧ ∀ H2, Ex H H2 → Q (.bl true) H2
theorem ints_same {xs : List Int} (i : Nat) (x y : V) (h1 : (xs.map V.int)[i]? = some x) (h2 : (xs.map V.int)[i]? = some y) : Sam0 x y := by
  rw [h1] at h2
  cases h2
  obtain ⟨z, _, rfl⟩ := List.mem_map.mp (List.mem_of_getElem? h1)
  exact .inr (.inl ⟨z, rfl, rfl⟩)
theorem ok_lis_table (T : Fx K mg) : FnOk P w K mg base CX0 4 (T_lis_table K) (fdOf K (T_lis_table K)) ["_law_given", "_law_wide_here", "_law_due"] (sp_ist K) := by
  refine T.d_lis_table.F.ok sc_lis_table (fun vs H Q E h => ?_) (fun cdv A outer s H vs Q E hr h => ?_)
  · obtain ⟨a, l, n, bs, rfl, _⟩ := h
    rfl
  · obtain ⟨a, l, n, bs, rfl, h, hl, q⟩ := h
    refine ⟨_, (pss_cons (ps_if (pt_not (pt_val (pe_callB (k_isi K) (by rfl) T.z_isinstance (by decide +kernel) (pa_cons (pv 0) (pa_cons (pe_glob (v := .ref (He.ga K "Table")) (by rfl) T.g_Table rfl) pa_nil))))) (pss_one (ps_ret pe_bl)) pss_nil)
      (pss_one (ps_ret (pe_and (pe_call ((fun T => ok_lsame T 1) T) (hr.mono (by decide)) (by rfl) T.d_lsame.gl T.d_lsame.F.kp (b_lsame T) .nil pass0 (pa_cons (pe_prop (pv 0) T.tab.cls T.tab.p_width (ok_twidth T) (hr.mono (by decide)) (b_twidth T) .nil pass0 rfl) (pa_cons (pv 1) pa_nil))) (pe_one (pe_call ((fun T => ok_lsame T 1) T) (hr.mono (by decide)) (by rfl) T.d_lsame.gl T.d_lsame.F.kp (b_lsame T) .nil pass0 (pa_cons (pe_prop (pv 0) T.tab.cls T.tab.p_bits (ok_tbits T) (hr.mono (by decide)) (b_tbits T) .nil pass0 rfl) (pa_cons (pe_callTy (k_tuple K) (by rfl) T.z_tuple (by decide +kernel) (pa_cons (pv 2) pa_nil)) pa_nil)))))))), ?_⟩
    rw [st_lis_table]
    walk_at "rd"
    refine isi_tab T h ?_
    obtain ⟨dx, t, h1, h2, h3⟩ := id h
    walk_at "rd"
    refine ⟨_, _, h1, a, n, bs, rfl, h, ?_⟩
    walk_at "rd"
    refine ⟨_, _, rfl, Sam.of0 (.inr (.inl ⟨_, rfl, rfl⟩)), ?_⟩
    walk_at "rd"
    refine ⟨_, _, h1, a, n, bs, rfl, h, fun u hu => ?_⟩
    refine ⟨_, .inl ⟨sq_of hl, fun v hv => ⟨_, _, rfl, .inr ⟨u, v, _, _, rfl, rfl, .inr ⟨Ex.new hv _ _ hu, upd_same⟩, rfl, by rw [List.length_map, h3.len]; have := h3.small; omega, fun i x y hx hy => ints_same i x y hx hy⟩, ?_⟩⟩⟩
    walk_at "rd"
    exact q _ (Ex.new hv)
/-! ### the lines -/
def rCat' : R2 := rCat
theorem rd_cat {x y : V} {H : Hp} {Q : VK} : rCat x y H Q = ∃ l, x = .ref l ∧ ∃ b, y = .ref b ∧ ∃ xs zs, H l = some (.lst xs) ∧ H b = some (.lst zs) ∧ xs.length + zs.length ≤ sizeLine ∧ ∀ p, H p = none → Q (.ref p) (upd H p (.lst (xs ++ zs))) :=
  propext ⟨fun ⟨l, b, xs, zs, h1, h2, h⟩ => ⟨l, h1, b, h2, xs, zs, h⟩, fun ⟨l, h1, b, h2, xs, zs, h⟩ => ⟨l, b, xs, zs, h1, h2, h⟩⟩
local macro_rules | `(tactic| walk_at "rc") => `(tactic| simp only [rd_cat, exists_eq_left, exists_eq_left', Option.some.injEq, vref])
abbrev s_llines : Stmt := top 78
abbrev N_llines : List Str := ["_law_wide_here", "_law_rows", "_law_at", "_law_row", "_law_item"]
theorem sc_llines : FnScope N_llines ["_law_wide_here"] (defScope s_llines) := ⟨rfl, rfl, rfl, by decide +kernel, rfl, by decide +kernel, by decide +kernel⟩
theorem st_llines {x0 : V} : start N_llines [x0] = [some x0, none, none, none, none] := rfl

theorem b_llines (T : Fx K mg) : L2.Binds K (fdOf K (T_llines K)) ["_law_wide_here"] [] := T.d_llines.F.binds (ps := ["_law_wide_here"]) fun _ _ _ _ _ _ us hl => match us, hl with | [_], _ => rfl
def rwL (i j : Nat) : List Int := (linesL i).getD j []
theorem rwL_of {i j : Nat} {row : List Int} (h : (linesL i)[j]? = some row) : rwL i j = row := by
  unfold rwL
  rw [List.getD_eq_getElem?_getD, h]
  rfl
theorem linesL_row {i j : Nat} {row : List Int} (h : (linesL i)[j]? = some row) : row.length = 2 ^ i := by
  rw [linesL_eq] at h
  obtain ⟨S, _, rfl⟩ := List.mem_map.mp (List.mem_of_getElem? h)
  exact lineL_len i S
theorem rwL_at {i j : Nat} (h : j < 2 ^ i) : (linesL i)[j]? = some (rwL i j) := by
  have hl : j < (linesL i).length := by rw [linesL_len]; exact h
  rw [List.getElem?_eq_getElem hl, rwL_of (List.getElem?_eq_getElem hl)]
theorem linesL_lo {i j : Nat} (h : j < 2 ^ i) : (linesL (i + 1))[j]? = some (rwL i j ++ rwL i j) := by
  show ((linesL i).map (fun r => r ++ r) ++ (linesL i).map (fun r => r ++ r.map (fun z => 1 - z)))[j]? = _
  rw [List.getElem?_append_left (by rw [List.length_map, linesL_len]; exact h), List.getElem?_map, rwL_at h]
  rfl
theorem linesL_hi {i j : Nat} (h : j < 2 ^ i) : (linesL (i + 1))[2 ^ i + j]? = some (rwL i j ++ (rwL i j).map fun z => 1 - z) := by
  show ((linesL i).map (fun r => r ++ r) ++ (linesL i).map (fun r => r ++ r.map (fun z => 1 - z)))[2 ^ i + j]? = _
  rw [List.getElem?_append_right (by rw [List.length_map, linesL_len]; omega), List.length_map, linesL_len, Nat.add_sub_cancel_left, List.getElem?_map, rwL_at h]
  rfl
def liO (n S : Nat) : HO := .lst ((lineL n S).map V.int)
def sp_li : Sp := fun vs H Q _ => ∃ n : Nat, vs = [.int (n : Int)] ∧ n ≤ 6 ∧ RetRefs (liO n) (2 ^ n) H Q
theorem ok_llines (T : Fx K mg) : FnOk P w K mg base CX0 1 (T_llines K) (fdOf K (T_llines K)) ["_law_wide_here"] sp_li := by
  refine T.d_llines.F.ok sc_llines (fun vs H Q E h => ?_) (fun cdv A outer s H vs Q E hr h => ?_)
  · obtain ⟨n, rfl, _⟩ := h
    rfl
  · obtain ⟨n, rfl, hn, q⟩ := h
    refine ⟨_, (pss_cons (ps_set (i := 1) sc_llines.nd rfl (by first | exact Or.inl rfl | exact Or.inr rfl) (pe_lst (pa_cons (pe_lst (pa_cons pe_int pa_nil)) pa_nil)))
      (pss_cons (ps_for PassesOwn.never (by rfl) (pi_range1 (by rfl) T.z_range (pa_cons (pv 0) pa_nil)) (pg_name (i := 2) sc_llines.nd rfl (by first | exact Or.inl rfl | exact Or.inr rfl)) (pss_one (ps_set (i := 1) sc_llines.nd rfl (by first | exact Or.inl rfl | exact Or.inr rfl) (pe_op op_cat (pe_lc (own := [("_law_row", 3)]) (g := gName 3) (tt := tYes) (by rfl) sc_llines.nd (ki_list K (pv 1)) (blkOk_by (own := [("_law_row", 3)]) (N := N_llines) (sc := defScope s_llines) (by decide +kernel)) (fun _ _ _ _ _ => (pg_name (i := 3) sc_llines.nd rfl (by first | exact Or.inl rfl | exact Or.inr rfl))) (fun _ _ _ _ _ => pts_nil) (fun _ _ _ _ _ => (pe_op op_cat (pv 3) (pv 3)))) (pe_lc (own := [("_law_row", 3)]) (g := gName 3) (tt := tYes) (by rfl) sc_llines.nd (ki_list K (pv 1)) (blkOk_by (own := [("_law_row", 3)]) (N := N_llines) (sc := defScope s_llines) (by decide +kernel)) (fun _ _ _ _ _ => (pg_name (i := 3) sc_llines.nd rfl (by first | exact Or.inl rfl | exact Or.inr rfl))) (fun _ _ _ _ _ => pts_nil) (fun _ _ _ _ _ => (pe_op op_cat (pv 3) (pe_lc (own := [("_law_item", 4)]) (g := gName 4) (tt := tYes) (by rfl) sc_llines.nd (ki_list K (pv 3)) (blkOk_by (own := [("_law_item", 4)]) (N := N_llines) (by rfl)) (fun _ _ _ _ _ => (pg_name (i := 4) sc_llines.nd rfl (by first | exact Or.inl rfl | exact Or.inr rfl))) (fun _ _ _ _ _ => pts_nil) (fun _ _ _ _ _ => (pe_op op_sub pe_int (pv 4)))))))))))
      (pss_one (ps_ret (pv 1))))), ?_⟩
    rw [st_llines]
    walk_at "rd"
    refine ⟨sz_of (by simp), fun p0 hp0 => ⟨sz_of (by simp), fun r0 hr0 => ⟨by omega, by omega, ?_⟩⟩⟩
    rw [Int.toNat_natCast]
    have e0 : Ex H (upd (upd H p0 (.lst [.int 0])) r0 (.lst [.ref p0])) := (Ex.new hp0).trans (Ex.new hr0)
    refine loop_range (fun i σ H' => ∃ (r : Addr) (ps : List Addr) (v : Option V), σ = [some (.int (n : Int)), some (.ref r), v, none, none] ∧ Ex H H' ∧ H r = none ∧ H' r = some (.lst (ps.map V.ref)) ∧ ps.length = 2 ^ i ∧
      ∀ (j : Nat) (a : Addr), ps[j]? = some a → ∃ row, (linesL i)[j]? = some row ∧ H' a = some (.lst (row.map V.int)) ∧ H a = none) ⟨r0, [p0], none, rfl, e0, fresh_back (Ex.new hp0) hr0, upd_same, rfl, fun j a hj => ?_⟩ ?_ ?_
    · cases j with
      | zero =>
        cases hj
        exact ⟨[0], rfl, (Ex.new hr0) _ _ upd_same, hp0⟩
      | succ j => simp at hj
    · rintro i σ H' hi ⟨r, ps, v, rfl, e, hr, h1, h2, h3⟩
      walk_at "rd"
      have hi5 : i ≤ 6 := by omega
      have hi6 : 2 ^ i ≤ 64 := Nat.pow_le_pow_right (n := 2) (by decide) hi5
      have hl1 : (ps.map V.ref).length = 2 ^ i := by rw [List.length_map, h2]
      have at_ : ∀ (j : Nat) (x : V), (ps.map V.ref)[j]? = some x → ∃ a row, x = .ref a ∧ ps[j]? = some a ∧ (linesL i)[j]? = some row ∧ row.length = 2 ^ i ∧ H' a = some (.lst (row.map V.int)) := fun j x hx => by
        rw [List.getElem?_map] at hx
        cases hq : ps[j]? with
        | none =>
          rw [hq] at hx
          cases hx
        | some a =>
          rw [hq] at hx
          obtain ⟨row, k1, k2, _⟩ := h3 j a hq
          exact ⟨a, row, (Option.some.inj hx).symm, rfl, k1, linesL_row k1, k2⟩
      refine ⟨⟨_, sq_of h1⟩, lcl_listN (fun j => .lst ((rwL i j ++ rwL i j).map V.int)) (sq_of h1) (by omega) (fun j x H2 hj e2 R k => ⟨rfl, ?_⟩) fun p1 ps1 H2 hp1 e2 h4 h5 h6 n6 => ?_⟩
      · obtain ⟨a, row, rfl, ha, hrow, hlen, hrw⟩ := at_ j x hj
        walk_at "rd"
        refine ⟨a, a, _, _, rfl, rfl, e2 _ _ hrw, e2 _ _ hrw, by rw [List.length_map, hlen]; exact sz_of (by omega), fun q' hq' => k q' _ hq' (Ex.new hq') ?_⟩
        rw [upd_same, rwL_of hrow, List.map_append]
      · walk_at "rd"
        rw [hl1] at h5
        refine ⟨⟨_, sq_of (e2 _ _ h1)⟩, lcl_listN (fun j => .lst ((rwL i j ++ (rwL i j).map fun z => 1 - z).map V.int)) (sq_of (e2 _ _ h1)) (by omega) (fun j x H3 hj e3 R k => ⟨rfl, ?_⟩) fun p2 ps2 H3 hp2 e3 h7 h8 h9 n9 => ?_⟩
        · obtain ⟨a, row, rfl, ha, hrow, hlen, hrw⟩ := at_ j x hj
          have hrw3 := e3 _ _ (e2 _ _ hrw)
          walk_at "rd"
          refine ⟨⟨_, sq_of hrw3⟩, lcl_list (fun m => .int (1 - row.getD m 0)) (sq_of hrw3) (by rw [List.length_map, hlen]; omega) (fun m x hm H4 e4 R4 k4 => ⟨rfl, ?_⟩) fun b H4 hb e4 h10 => ?_⟩
          · rw [List.getElem?_map] at hm
            cases hq : row[m]? with
            | none =>
              rw [hq] at hm
              cases hm
            | some z =>
              rw [hq] at hm
              have ez : x = .int z := (Option.some.inj hm).symm
              have ed : row.getD m 0 = z := by rw [List.getD_eq_getElem?_getD, hq]; rfl
              rw [ed] at k4
              subst ez
              walk_at "rd"
              exact k4 _ (Ex.refl _)
          · refine ⟨a, b, _, _, rfl, rfl, e4 _ _ hrw3, h10, by rw [List.length_map, List.length_map, List.length_range, hlen]; exact sz_of (by omega), fun q' hq' => k q' _ (fresh_back e4 hq') (e4.trans (Ex.new hq')) ?_⟩
            have hrr : (List.range (row.map V.int).length).map (fun m => V.int (1 - row.getD m 0)) = (row.map fun z => 1 - z).map V.int := by
              have hlr := list_range row 0
              rw [List.length_map]
              conv => rhs; rw [hlr]
              rw [List.map_map, List.map_map]
              rfl
            rw [upd_same, rwL_of hrow, List.map_append, hrr]
        · rw [hl1] at h8
          have h4' := e3 _ _ h4
          refine ⟨p1, p2, _, _, rfl, rfl, h4', h7, by rw [List.length_map, List.length_map, h5, h8]; exact sz_of (by omega), fun q' hq' => ?_⟩
          have e5 := e.trans (e2.trans e3)
          refine ⟨q', ps1 ++ ps2, _, ⟨rfl, rfl⟩, e5.trans (Ex.new hq'), fresh_back e5 hq', by rw [upd_same, List.map_append], by rw [List.length_append, h5, h8, Nat.pow_succ]; omega, fun j a hj => ?_⟩
          have up := Ex.new hq' (o := .lst (ps1.map V.ref ++ ps2.map V.ref))
          by_cases hc : j < 2 ^ i
          · rw [List.getElem?_append_left (by omega)] at hj
            refine ⟨_, linesL_lo hc, up _ _ (e3 _ _ (h6 j a hj)), fresh_back e (n6 j a hj)⟩
          · rw [List.getElem?_append_right (by omega), h5] at hj
            have hj2 : j - 2 ^ i < 2 ^ i := by
              have := (List.getElem?_eq_some_iff.mp hj).1
              omega
            have hs : j = 2 ^ i + (j - 2 ^ i) := by omega
            refine ⟨_, (congrArg (fun m => (linesL (i + 1))[m]?) hs).trans (linesL_hi hj2), up _ _ (h9 _ a hj), fresh_back (e.trans e2) (n9 _ a hj)⟩
    · rintro σ H' ⟨r, ps, v, rfl, e, hr, h1, h2, h3⟩
      walk_at "rd"
      refine q r ps H' hr e h1 h2 (fun S a hS => ?_) fun S a hS => (h3 S a hS).choose_spec.2.2
      obtain ⟨row, k1, k2, _⟩ := h3 S a hS
      have hS2 : S < 2 ^ n := by
        have := (List.getElem?_eq_some_iff.mp hS).1
        omega
      rw [linesL_eq, get_range _ hS2] at k1
      cases k1
      exact k2
theorem Sm_bits {n : Nat} {f : Nat → Int} (h : ∀ i, IsBit (f i)) : 0 ≤ Sm n f ∧ Sm n f ≤ (n : Int) := by
  constructor
  · have := Sm_le (n := n) (f := fun _ => 0) (g := f) fun i _ => by rcases h i with e | e <;> omega
    rw [Sm_const] at this
    omega
  · have := Sm_le (n := n) (f := f) (g := fun _ => 1) fun i _ => by rcases h i with e | e <;> omega
    rw [Sm_const] at this
    omega
abbrev s_lvoted : Stmt := top 79
abbrev N_lvoted : List Str := ["_law_mine", "_law_found", "_law_x", "_law_ones", "_law_item", "_law_y"]
theorem sc_lvoted : FnScope N_lvoted ["_law_mine"] (defScope s_lvoted) := ⟨rfl, rfl, rfl, by decide +kernel, rfl, by decide +kernel, by decide +kernel⟩
theorem st_lvoted {x0 : V} : start N_lvoted [x0] = [some x0, none, none, none, none, none] := rfl

theorem b_lvoted (T : Fx K mg) : L2.Binds K (fdOf K (T_lvoted K)) ["_law_mine"] [] := T.d_lvoted.F.binds (ps := ["_law_mine"]) fun _ _ _ _ _ _ us hl => match us, hl with | [_], _ => rfl
def sp_vo : Sp := fun vs H Q _ => ∃ (l : Addr) (n : Nat) (bs : List Int), vs = [.ref l] ∧ H l = some (.lst (bs.map V.int)) ∧ TBits n bs ∧ RetL ((mdL n bs).map V.int) H Q
theorem ok_lvoted (T : Fx K mg) : FnOk P w K mg base CX0 1 (T_lvoted K) (fdOf K (T_lvoted K)) ["_law_mine"] sp_vo := by
  refine T.d_lvoted.F.ok sc_lvoted (fun vs H Q E h => ?_) (fun cdv A outer s H vs Q E hr h => ?_)
  · obtain ⟨l, n, bs, rfl, _⟩ := h
    rfl
  · obtain ⟨l, n, bs, rfl, hl, hb, q⟩ := h
    refine ⟨_, (pss_cons (ps_set (i := 1) sc_lvoted.nd rfl (by first | exact Or.inl rfl | exact Or.inr rfl) (pe_lst pa_nil))
      (pss_cons (ps_for PassesOwn.never (by rfl) (pi_range1 (by rfl) T.z_range (pa_cons (pe_callB (k_len K) (by rfl) T.z_len (by decide +kernel) (pa_cons (pv 0) pa_nil)) pa_nil)) (pg_name (i := 2) sc_lvoted.nd rfl (by first | exact Or.inl rfl | exact Or.inr rfl)) (pss_cons (ps_set (i := 3) sc_lvoted.nd rfl (by first | exact Or.inl rfl | exact Or.inr rfl) (pe_callB (k_sum K) (by rfl) T.z_sum (by decide +kernel) (pa_cons (pe_lc (own := [("_law_y", 5)]) (g := gName 5) (tt := tYes) (by rfl) sc_lvoted.nd (pi_range1 (by rfl) T.z_range (pa_cons (pe_callB (k_len K) (by rfl) T.z_len (by decide +kernel) (pa_cons (pv 0) pa_nil)) pa_nil)) (blkOk_by (own := [("_law_y", 5)]) (N := N_lvoted) (sc := defScope s_lvoted) (by decide +kernel)) (fun _ _ _ _ _ => (pg_name (i := 5) sc_lvoted.nd rfl (by first | exact Or.inl rfl | exact Or.inr rfl))) (fun _ _ _ _ _ => pts_nil) (fun _ _ _ _ _ => (pe_op op_xorB (pe_ix (k_ixL K) (pv 0) (pv 5) (fun _ _ => rfl)) (pe_ix (k_ixL K) (pv 0) (pe_op op_xorNN (pv 2) (pv 5)) (fun _ _ => rfl))))) pa_nil)))
      (pss_cons (ps_set (i := 4) sc_lvoted.nd rfl (by first | exact Or.inl rfl | exact Or.inr rfl) (pe_callTy k_intB (by rfl) T.z_int (by decide +kernel) (pa_cons (pe_cmpR op_gt (pe_op op_mulX pe_int (pv 3)) (pe_callB (k_len K) (by rfl) T.z_len (by decide +kernel) (pa_cons (pv 0) pa_nil)) (nomark _)) pa_nil)))
      (pss_cons (ps_if (pt_cmpR op_eq (pe_op op_mulX pe_int (pv 3)) (pe_callB (k_len K) (by rfl) T.z_len (by decide +kernel) (pa_cons (pv 0) pa_nil)) (nomark _)) (pss_one (ps_set (i := 4) sc_lvoted.nd rfl (by first | exact Or.inl rfl | exact Or.inr rfl) (pe_ix (k_ixL K) (pv 0) (pv 2) (fun _ _ => rfl)))) pss_nil)
      (pss_one (ps_expr (pe_bm PySem.F.plainAttrs_list PySem.F.slot_list_append PySem.F.type_list_append mt_append (pv 1) (pa_cons (pv 4) pa_nil))))))))
      (pss_one (ps_ret (pv 1))))), ?_⟩
    rw [st_lvoted]
    walk_at "rd"
    have hs := hb.small
    have hN : (bs.map V.int).length = 2 ^ n := by rw [List.length_map, hb.len]
    refine ⟨by simp, fun p hp => ⟨_, .inl (sq_of (Ex.new hp _ _ hl)), by omega, by omega, ?_⟩⟩
    rw [hN, Int.toNat_natCast]
    refine loop_range (fun i σ H' => ∃ v2 v3 v4 : Option V, σ = [some (.ref l), some (.ref p), v2, v3, v4, none] ∧ Ex H H' ∧ H' p = some (.lst (((mdL n bs).take i).map V.int))) ⟨none, none, none, rfl, Ex.new hp, upd_same⟩ ?_ ?_
    · rintro i σ H' hi ⟨v2, v3, v4, rfl, e, h1⟩
      walk_at "rd"
      have hl' := e _ _ hl
      refine ⟨_, .inl (sq_of hl'), by omega, by omega, ?_⟩
      rw [hN, Int.toNat_natCast]
      refine lcl_range (fun y => .int (xb (bf bs y) (bf bs (i ^^^ y)))) (by omega) (fun y hy H2 e2 R k => ⟨rfl, ?_⟩) (fun p2 H2 hp2 e2 h2 => ?_)
      · walk_at "rd"
        exact ⟨_, _, sq_of (e2 _ _ hl'), atT hb hy, _, _, sq_of (e2 _ _ hl'), atT hb (xor_lt hi hy), _, rfl, _, rfl, hb.at _, hb.at _, k H2 (Ex.refl _)⟩
      · walk_at "rd"
        have hl2 := e2 _ _ hl'
        have ob := Sm_bits (n := 2 ^ n) (f := fun y => xb (bf bs y) (bf bs (i ^^^ y))) fun y => xb_bit (hb.at _) (hb.at _)
        have es : ((List.range (2 ^ n)).map fun y => xb (bf bs y) (bf bs (i ^^^ y))).sum = ones n (bf bs) i := rfl
        have ob' : 0 ≤ ones n (bf bs) i ∧ ones n (bf bs) i ≤ ((2 ^ n : Nat) : Int) := ob
        have c2 : CMulX 2 (ones n (bf bs) i) := mulx_ok (a := 3) (b := 8) (by omega) (by omega) (by decide)
        refine ⟨(List.range (2 ^ n)).map fun y => xb (bf bs y) (bf bs (i ^^^ y)), sq_of (by rw [h2, List.map_map]; rfl), ?_⟩
        rw [es]
        have hp3 := e2 _ _ h1
        have fin : ∀ z : Int, mbit (((2 ^ n : Nat) : Int) - ones n (bf bs) i) (ones n (bf bs) i) (bf bs i) = z → (Ex H (upd H2 p (.lst (((mdL n bs).take i).map V.int ++ [.int z]))) ∧ (upd H2 p (.lst (((mdL n bs).take i).map V.int ++ [.int z]))) p = some (.lst (((mdL n bs).take (i + 1)).map V.int))) := fun z hz => by
          refine ⟨Ex.mut (e.trans e2) hp, ?_⟩
          have hq : (mdL n bs)[i]? = some z := by
            unfold mdL
            rw [get_range _ hi, ← hz, natpow]
          rw [upd_same, List.take_add_one, hq, List.map_append]
          rfl
        refine ⟨c2, _, .inl (sq_of hl2), c2, _, .inl (sq_of hl2), ?_⟩
        have hz : (((mdL n bs).take i).map V.int).length < sizeLine := by
          rw [List.length_map, List.length_take]
          exact sz_lt (by omega)
        rw [hN]
        by_cases c : 2 * ones n (bf bs) i = ((2 ^ n : Nat) : Int)
        · rw [if_pos c]
          refine ⟨_, _, sq_of hl2, atT hb hi, ty_list hp3, _, hp3, hz, _, _, _, ⟨rfl, rfl, rfl⟩, fin _ ?_⟩
          unfold mbit
          rw [if_neg (by omega), if_neg (by omega)]
        · rw [if_neg c]
          refine ⟨ty_list hp3, _, hp3, hz, _, _, _, ⟨rfl, rfl, rfl⟩, fin _ ?_⟩
          unfold mbit
          by_cases c3 : ((2 ^ n : Nat) : Int) < 2 * ones n (bf bs) i
          · rw [if_pos c3, if_neg (by omega), if_pos (by omega)]
          · rw [if_neg c3, if_pos (by omega)]
    · rintro σ H' ⟨v2, v3, v4, rfl, e, h1⟩
      walk_at "rd"
      rw [List.take_of_length_le (by unfold mdL; rw [List.length_map, List.length_range]; exact Nat.le_refl _)] at h1
      exact q p H' hp e h1
end
end Bs
/-! Walk 10: the dues, the cubes. -/
namespace Bs
open PySem PySem.Spec PyProof.Rows L2 Evl
local macro_rules | `(tactic| walk_at "rd") => `(tactic| try simp only [rd_var, rd_c, rd_op, rd_un, rd_I, rd_I0, rd_U, rd_NN, rd_shr, rd_shl1, rd_XB, rd_eq, rd_ne, scal_int, rd_B, rd_test, rd_and, rd_or, rd_not, rd_andV, rd_orV, rd_notV, rd_if, rd_nil, rd_cons, rd_tup, rd_lst, rd_call, rd_CB, rd_prop, rd_meth, rd_fld, rd_make, rd_sl, rd_noPart, rd_part, rd_bm0, rd_bm, rd_bits, rd_ixL, rd_ixT, rd_append, rd_addN, rd_dbl, rd_half, rd_int, rd_intB, rd_bit1, rd_popAt, rd_slL, rd_sortedI, rd_lstRg, rd_rg1, tru_int, rd_len, rd_listS, rd_tupS, rd_sum, rd_min, rd_iEnum, rd_yes, rd_asg, rd_name, rd_gnil, rd_gcons1, rd_two, rd_gtup, rd_gsub, rd_setL, rd_seq, rd_next, rd_break, rd_never, rd_drop, rd_ret, rd_retN, rd_ifS, rd_par, rd_aug, rd_sFld, rd_for, rd_iList, rd_iTup, rd_iRng1, rd_lc, vint, vbl, vref, natc, cx_K, cx_noxK, List.getElem?_cons_zero, List.getElem?_cons_succ, Option.some.injEq, exists_eq_left, exists_eq_left', exists_eq_right, exists_eq_right', true_and, and_true, List.cons.injEq, List.cons_append, List.nil_append, List.append_nil, List.set_cons_zero, List.set_cons_succ, Bool.not_true, Bool.not_false, decide_eq_true_eq, if_true, if_false, Bool.false_eq_true, reduceIte, and_self, Int.zero_add, exists_eq, exists_eq', wipe, List.map_cons, List.map_nil])
section
variable {P : Program} {w : World} {K : PySem.W.Frag} {mg : Str → Option Value} {base : Heap} {X : Cx}
theorem k_index (K : PySem.W.Frag) (h : X.K = K := by rfl) : MtR X "list.index" (rIndex K) := by subst h; exact mt_index
abbrev s_ldues : Stmt := top 80
abbrev N_ldues : List Str := ["_law_wide_here", "_law_mine", "_law_size_here", "_law_lines_here", "_law_broken", "_law_x", "_law_counts", "_law_least", "_law_found", "_law_y", "_law_row", "_law_many"]
theorem sc_ldues : FnScope N_ldues ["_law_wide_here", "_law_mine"] (defScope s_ldues) := ⟨rfl, rfl, rfl, by decide +kernel, rfl, by decide +kernel, by decide +kernel⟩
theorem st_ldues {x0 x1 : V} : start N_ldues [x0, x1] = [some x0, some x1, none, none, none, none, none, none, none, none, none, none] := rfl

theorem b_ldues (T : Fx K mg) : L2.Binds K (fdOf K (T_ldues K)) ["_law_wide_here", "_law_mine"] [] := T.d_ldues.F.binds (ps := ["_law_wide_here", "_law_mine"]) fun _ _ _ _ _ _ us hl => match us, hl with | [_, _], _ => rfl
/-- the five dues at d -/
structure Dues (H0 : Hp) (n : Nat) (bs : List Int) (H : Hp) (d : Addr) : Prop where
  ex : ∃ (p0 p1 p2 p4 : Addr) (ps : List Addr), (H0 d = none ∧ H0 p1 = none ∧ H0 p4 = none) ∧ H d = some (.lst [.ref p0, .ref p1, .ref p2, unV n bs, .ref p4]) ∧ H p0 = some (.tup (bsU n bs)) ∧ H p1 = some (.lst (ps.map V.ref)) ∧ ps.length = 2 ^ n ∧ (∀ (i : Nat) (a : Addr), ps[i]? = some a → H a = some (shO n bs i)) ∧
    H p2 = some (.tup (sdU n bs)) ∧ H p4 = some (.lst ((mdL n bs).map V.int))
def sp_du : Sp := fun vs H Q _ => ∃ (l : Addr) (n : Nat) (bs : List Int), vs = [.int (n : Int), .ref l] ∧ H l = some (.lst (bs.map V.int)) ∧ TBits n bs ∧ ∀ (d : Addr) (H2 : Hp), Ex H H2 → Dues H n bs H2 d → Q (.ref d) H2
theorem ok_ldues (T : Fx K mg) : FnOk P w K mg base CX0 2 (T_ldues K) (fdOf K (T_ldues K)) ["_law_wide_here", "_law_mine"] sp_du := by
  refine T.d_ldues.F.ok sc_ldues (fun vs H Q E h => ?_) (fun cdv A outer s H vs Q E hr h => ?_)
  · obtain ⟨l, n, bs, rfl, _⟩ := h
    rfl
  · obtain ⟨l, n, bs, rfl, hl, hb, q⟩ := h
    refine ⟨_, (pss_cons (ps_set (i := 2) sc_ldues.nd rfl (by first | exact Or.inl rfl | exact Or.inr rfl) (pe_op op_shl1 pe_int (pv 0)))
      (pss_cons (ps_set (i := 3) sc_ldues.nd rfl (by first | exact Or.inl rfl | exact Or.inr rfl) (pe_call (ok_llines T) (hr.mono (by decide)) (by rfl) T.d_llines.gl T.d_llines.F.kp (b_llines T) .nil pass0 (pa_cons (pv 0) pa_nil)))
      (pss_cons (ps_set (i := 4) sc_ldues.nd rfl (by first | exact Or.inl rfl | exact Or.inr rfl) pe_int)
      (pss_cons (ps_for PassesOwn.never (by rfl) (pi_range1 (by rfl) T.z_range (pa_cons (pv 2) pa_nil)) (pg_name (i := 5) sc_ldues.nd rfl (by first | exact Or.inl rfl | exact Or.inr rfl)) (pss_one (ps_set (i := 4) sc_ldues.nd rfl (by first | exact Or.inl rfl | exact Or.inr rfl) (pe_op op_add (pv 4) (pe_callB (k_sum K) (by rfl) T.z_sum (by decide +kernel) (pa_cons (pe_lc (own := [("_law_y", 9)]) (g := gName 9) (tt := tYes) (by rfl) sc_ldues.nd (pi_range1 (by rfl) T.z_range (pa_cons (pv 2) pa_nil)) (blkOk_by (own := [("_law_y", 9)]) (N := N_ldues) (sc := defScope s_ldues) (by decide +kernel)) (fun _ _ _ _ _ => (pg_name (i := 9) sc_ldues.nd rfl (by first | exact Or.inl rfl | exact Or.inr rfl))) (fun _ _ _ _ _ => pts_nil) (fun _ _ _ _ _ => (pe_op op_xorB (pe_op op_xorB (pe_ix (k_ixL K) (pv 1) (pv 5) (fun _ _ => rfl)) (pe_ix (k_ixL K) (pv 1) (pv 9) (fun _ _ => rfl))) (pe_ix (k_ixL K) (pv 1) (pe_op op_xorNN (pv 5) (pv 9)) (fun _ _ => rfl))))) pa_nil))))))
      (pss_cons (ps_setLc (i := 6) (own := [("_law_row", 10)]) (g := gName 10) (tt := tYes) (by rfl) sc_ldues.nd rfl rfl (sw_true rfl rfl rfl (by decide +kernel)) (ki_list K (pv 3)) (blkOk_by (own := [("_law_row", 10)]) (N := N_ldues) (sc := defScope s_ldues) (by decide +kernel)) (fun _ _ _ _ _ => (pg_name (i := 10) sc_ldues.nd rfl (by first | exact Or.inl rfl | exact Or.inr rfl))) (fun _ _ _ _ _ => pts_nil) (fun _ _ _ _ _ => (pe_callB (k_sum K) (by rfl) T.z_sum (by decide +kernel) (pa_cons (pe_lc (own := [("_law_x", 5)]) (g := gName 5) (tt := tYes) (by rfl) sc_ldues.nd (pi_range1 (by rfl) T.z_range (pa_cons (pv 2) pa_nil)) (blkOk_by (own := [("_law_x", 5)]) (N := N_ldues) (by rfl)) (fun _ _ _ _ _ => (pg_name (i := 5) sc_ldues.nd rfl (by first | exact Or.inl rfl | exact Or.inr rfl))) (fun _ _ _ _ _ => pts_nil) (fun _ _ _ _ _ => (pe_op op_xorB (pe_ix (k_ixL K) (pv 10) (pv 5) (fun _ _ => rfl)) (pe_ix (k_ixL K) (pv 1) (pv 5) (fun _ _ => rfl))))) pa_nil))))
      (pss_cons (ps_set (i := 7) sc_ldues.nd rfl (by first | exact Or.inl rfl | exact Or.inr rfl) (pe_callB (k_min K) (by rfl) T.z_min (by decide +kernel) (pa_cons (pv 6) pa_nil)))
      (pss_cons (ps_set (i := 8) sc_ldues.nd rfl (by first | exact Or.inl rfl | exact Or.inr rfl) (pe_lst (pa_cons (pe_call (ok_llowest T) (hr.mono (by decide)) (by rfl) T.d_llowest.gl T.d_llowest.F.kp (b_llowest T) .nil pass0 (pa_cons (pv 4) (pa_cons (pe_op op_mulX (pv 2) (pv 2)) pa_nil))) (pa_cons (pe_lc (own := [("_law_many", 11)]) (g := gName 11) (tt := tYes) (by rfl) sc_ldues.nd (ki_list K (pv 6)) (blkOk_by (own := [("_law_many", 11)]) (N := N_ldues) (sc := defScope s_ldues) (by decide +kernel)) (fun _ _ _ _ _ => (pg_name (i := 11) sc_ldues.nd rfl (by first | exact Or.inl rfl | exact Or.inr rfl))) (fun _ _ _ _ _ => pts_nil) (fun _ _ _ _ _ => (pe_call (ok_llowest T) (hr.mono (by decide)) (by rfl) T.d_llowest.gl T.d_llowest.F.kp (b_llowest T) .nil pass0 (pa_cons (pe_op op_sub (pv 2) (pe_op op_mulX pe_int (pv 11))) (pa_cons (pv 2) pa_nil))))) pa_nil))))
      (pss_cons (ps_expr (pe_bm PySem.F.plainAttrs_list PySem.F.slot_list_append PySem.F.type_list_append mt_append (pv 8) (pa_cons (pe_call (ok_llowest T) (hr.mono (by decide)) (by rfl) T.d_llowest.gl T.d_llowest.F.kp (b_llowest T) .nil pass0 (pa_cons (pv 7) (pa_cons (pv 2) pa_nil))) pa_nil)))
      (pss_cons (ps_if (pt_cmpR op_lt (pe_op op_mulX pe_int (pv 7)) (pv 2) (nomark _)) (pss_one (ps_ret (pe_op op_cat (pv 8) (pe_lst (pa_cons (pe_bm PySem.F.plainAttrs_list PySem.F.slot_list_index PySem.F.type_list_index (k_index K) (pv 6) (pa_cons (pv 7) pa_nil)) (pa_cons (pe_ix (k_ixL K) (pv 3) (pe_bm PySem.F.plainAttrs_list PySem.F.slot_list_index PySem.F.type_list_index (k_index K) (pv 6) (pa_cons (pv 7) pa_nil)) (fun _ _ => rfl)) pa_nil)))))) pss_nil)
      (pss_one (ps_ret (pe_op op_cat (pv 8) (pe_lst (pa_cons pe_non (pa_cons (pe_call (ok_lvoted T) (hr.mono (by decide)) (by rfl) T.d_lvoted.gl T.d_lvoted.F.kp (b_lvoted T) .nil pass0 (pa_cons (pv 1) pa_nil)) pa_nil))))))))))))))), ?_⟩
    rw [st_ldues]
    walk_at "rd"
    have hs := hb.small
    have hw := hb.wide
    have hp0 := Nat.two_pow_pos n
    have i64 : ((2 ^ n : Nat) : Int) ≤ 64 := Int.ofNat_le.mpr hs
    have hN : (bs.map V.int).length = 2 ^ n := by rw [List.length_map, hb.len]
    have eNN : ((2 ^ n : Nat) : Int) * ((2 ^ n : Nat) : Int) = ((2 ^ (2 * n) : Nat) : Int) := by
      rw [← Int.natCast_mul, ← Nat.pow_add, show n + n = 2 * n by omega]
    have pb := pow_bounds hw
    refine ⟨by omega, n, rfl, hw, fun r ps H1 hr e1 h1 h2 h3 n3 => ?_⟩
    walk_at "rd"
    refine ⟨by omega, by omega, ?_⟩
    rw [Int.toNat_natCast]
    refine loop_range (fun i σ H' => ∃ v : Option V, σ = [some (.int (n : Int)), some (.ref l), some (.int ((2 ^ n : Nat) : Int)), some (.ref r), some (.int (Sm i fun x => Sm (2 ^ n) fun y => brk bs x y)), v, none, none, none, none, none, none] ∧ Ex H1 H') ⟨none, rfl, Ex.refl _⟩ ?_ ?_
    · rintro i σ H' hi ⟨v, rfl, e⟩
      walk_at "rd"
      have hl' := e _ _ (e1 _ _ hl)
      refine ⟨by omega, by omega, ?_⟩
      rw [Int.toNat_natCast]
      refine lcl_range (fun y => .int (brk bs i y)) (by omega) (fun y hy H2 e2 R k => ⟨rfl, ?_⟩) (fun p2 H2 hp2 e2 h2 => ?_)
      · walk_at "rd"
        exact ⟨_, _, sq_of (e2 _ _ hl'), atT hb hi, _, _, sq_of (e2 _ _ hl'), atT hb hy, _, rfl, _, rfl, hb.at _, hb.at _, _, _, sq_of (e2 _ _ hl'), atT hb (xor_lt hi hy), _, rfl, xb_bit (hb.at _) (hb.at _), hb.at _, k H2 (Ex.refl _)⟩
      · walk_at "rd"
        refine ⟨(List.range (2 ^ n)).map fun y => brk bs i y, sq_of (by rw [h2, List.map_map]; rfl), _, ⟨?_, rfl⟩, e.trans e2⟩
        rw [Sm_succ]
        rfl
    · rintro σ H' ⟨v, rfl, e⟩
      walk_at "rd"
      have h1' := e _ _ h1
      have hl' := e _ _ (e1 _ _ hl)
      have hbr : (Sm (2 ^ n) fun x => Sm (2 ^ n) fun y => brk bs x y) = broken n (bf bs) := rfl
      rw [hbr]
      have hpl : (ps.map V.ref).length = 2 ^ n := by rw [List.length_map, h2]
      refine ⟨⟨_, sq_of h1'⟩, lcl_list (fun S => .int (count n (bf bs) S)) (sq_of h1') (by omega) (fun S x hx H2 e2 R k => ⟨rfl, ?_⟩) fun c H2 hc e2 hcl => ?_⟩
      · rw [List.getElem?_map] at hx
        cases hq : ps[S]? with
        | none =>
          rw [hq] at hx
          cases hx
        | some a =>
          rw [hq] at hx
          have ex : x = .ref a := (Option.some.inj hx).symm
          subst ex
          have hrow : H2 a = some (.lst ((lineL n S).map V.int)) := e2 _ _ (e _ _ (h3 S a hq))
          have hl2 := e2 _ _ hl'
          walk_at "rd"
          refine ⟨by omega, by omega, ?_⟩
          rw [Int.toNat_natCast]
          refine lcl_range (fun y => .int (xb (parb n S y) (bf bs y))) (by omega) (fun y hy H3 e3 R3 k3 => ⟨rfl, ?_⟩) (fun p3 H3 hp3 e3 h4 => ?_)
          · walk_at "rd"
            refine ⟨_, _, sq_of (e3 _ _ hrow), ?_, _, _, sq_of (e3 _ _ hl2), atT hb hy, _, rfl, _, rfl, parb_bit n S y, hb.at _, k3 H3 (Ex.refl _)⟩
            refine atI_nat ?_
            unfold lineL
            rw [List.map_map]
            exact get_range _ hy
          · walk_at "rd"
            exact ⟨(List.range (2 ^ n)).map fun y => xb (parb n S y) (bf bs y), sq_of (by rw [h4, List.map_map]; rfl), k H3 e3⟩
      · rw [hpl] at hcl
        have hcl : H2 c = some (.lst ((cntL n bs).map V.int)) := by
          rw [hcl]
          unfold cntL
          rw [List.map_map]
          rfl
        walk_at "rd"
        refine ⟨_, sq_of hcl, by rw [cnt_len]; omega, fun m hm1 hm2 => ?_⟩
        have em : m = least n bs := lmin_of hm1 hm2
        subst em
        walk_at "rd"
        refine ⟨mulx_ok (a := 7) (b := 7) (by omega) (by omega) (by decide), ?_⟩
        rw [eNN]
        refine ⟨_, _, rfl, ⟨pb.2.2.1, pb.2.2.2⟩, fun p0 H3 hp0' e3 h4 => ?_⟩
        walk_at "rd"
        have hcl3 := e3 _ _ hcl
        have hcn : ((cntL n bs).map V.int).length = 2 ^ n := by rw [List.length_map, cnt_len]
        refine ⟨⟨_, sq_of hcl3⟩, lcl_listN (shO n bs) (sq_of hcl3) (by omega) (fun S x H4 hS e4 R k => ⟨rfl, ?_⟩) fun p1 qs H4 hp1 e4 h5 h6 h7 _ => ?_⟩
        · obtain ⟨hS2, rfl⟩ := cnt_at hS
          have hcs : (cntL n bs).getD S 0 = count n (bf bs) S := getD_range _ _ hS2
          rw [hcs]
          have hcb := count_bounds hb S
          walk_at "rd"
          refine ⟨mulx_ok (a := 2) (b := 8) (by decide) (by omega) (by decide), _, _, rfl, ⟨pb.1, pb.2.1⟩, fun p5 H5 hp5 e5 h8 => k p5 H5 hp5 e5 ?_⟩
          rw [h8]
          unfold shO
          rw [score_count, natpow]
        · rw [hcn] at h6
          walk_at "rd"
          refine ⟨sz_of (by simp), fun f hf => ?_⟩
          walk_at "rd"
          have hfH3 := fresh_back e4 hf
          refine ⟨ty_list upd_same, _, _, rfl, ⟨pb.1, pb.2.1⟩, fun p2 H5 hp2 e5 h8 => ?_⟩
          have hf5 := e5 _ _ upd_same
          have np2 : p2 ≠ f := fun z => by
            rw [z, upd_same] at hp2
            cases hp2
          have E1 : Ex H H4 := (((e1.trans e).trans e2).trans e3).trans e4
          have E5 : Ex H4 H5 := (Ex.new hf).trans e5
          have E6 : Ex H4 (upd H5 f (.lst ([.ref p0, .ref p1] ++ [.ref p2]))) := Ex.mut E5 hf
          have h26 : (upd H5 f (.lst ([.ref p0, .ref p1] ++ [.ref p2]))) p2 = some (.tup (sdU n bs)) := by
            rw [upd_ne np2]
            exact h8
          have hf6 : (upd H5 f (.lst ([.ref p0, .ref p1] ++ [.ref p2]))) f = some (.lst [.ref p0, .ref p1, .ref p2]) := upd_same
          walk_at "rd"
          refine ⟨_, hf5, sz_lt (by simp), ?_⟩
          generalize upd H5 f (.lst ([.ref p0, .ref p1] ++ [.ref p2])) = H6 at E6 h26 hf6 ⊢
          have hc6 := E6 _ _ (e4 _ _ hcl3)
          have h16 := E6 _ _ h5
          have h06 := E6 _ _ (e4 _ _ h4)
          refine ⟨mul4 hb, ?_⟩
          have fin : ∀ (H7 : Hp) (b : Addr) (v : V) (p4 : Addr), Ex H6 H7 → H7 b = some (.lst [v, .ref p4]) → v = unV n bs → H7 p4 = some (.lst ((mdL n bs).map V.int)) → H p4 = none → rCat (.ref f) (.ref b) H7 Q := by
            intro H7 b v p4 e7 hb7 hv h47 n4
            refine ⟨f, b, _, _, rfl, rfl, e7 _ _ hf6, hb7, sz_of (by simp), fun d hd => ?_⟩
            have e8 := e7.trans (Ex.new hd (o := .lst ([.ref p0, .ref p1, .ref p2] ++ [v, .ref p4])))
            refine q d _ ((E1.trans E6).trans e8) ⟨p0, p1, p2, p4, qs, ⟨fresh_back ((E1.trans E6).trans e7) hd, fresh_back (((e1.trans e).trans e2).trans e3) hp1, n4⟩, ?_, e8 _ _ h06, e8 _ _ h16, h6, fun i a hi => e8 _ _ (E6 _ _ (h7 i a hi)), e8 _ _ h26, Ex.new hd _ _ h47⟩
            rw [upd_same, hv]
            rfl
          by_cases hlt : 4 * least n bs < ((2 ^ n : Nat) : Int)
          · rw [if_pos hlt]
            have lm := least_mem n bs
            have hfx := fix_lt lm
            rw [cnt_len] at hfx
            have hix : ∀ QQ : VK, QQ (.int (fix (cntL n bs) (least n bs) : Nat)) H6 → rIndex K (.ref c) [.int (least n bs)] H6 QQ := fun QQ hq => by
              refine ⟨c, _, _, fix (cntL n bs) (least n bs), .int (least n bs), rfl, rfl, sq_of hc6, rfl, ?_, ?_, ?_, fun m z' hm hz => ?_, hq⟩
              · exact List.all_eq_true.mpr fun y hy => by
                  obtain ⟨z, _, rfl⟩ := List.mem_map.mp hy
                  rfl
              · rw [List.getElem?_map, fix_get lm]
                rfl
              · show (_ == _) = true
                exact beq_self_eq_true _
              · rw [List.getElem?_map] at hz
                cases hz2 : (cntL n bs)[m]? with
                | none =>
                  rw [hz2] at hz
                  cases hz
                | some z2 =>
                  rw [hz2] at hz
                  have ez : z' = .int z2 := (Option.some.inj hz).symm
                  subst ez
                  have hne := fix_before hm hz2
                  show (z2 == least n bs) = false
                  exact beq_false_of_ne hne
            refine ⟨ty_list hc6, hix _ ?_⟩
            refine ⟨ty_list hc6, hix _ ?_⟩
            have hr6 := E6 _ _ (e4 _ _ (e3 _ _ (e2 _ _ h1')))
            have hpx : fix (cntL n bs) (least n bs) < ps.length := by omega
            have hpa : ps[fix (cntL n bs) (least n bs)]? = some ps[fix (cntL n bs) (least n bs)] := List.getElem?_eq_getElem hpx
            refine ⟨_, rfl, _, .ref ps[fix (cntL n bs) (least n bs)], sq_of hr6, atI_nat ?_, sz_of (by simp), fun b hb' => ?_⟩
            · rw [List.getElem?_map, hpa]
              rfl
            · refine fin _ b _ _ (Ex.new hb') upd_same ?_ (Ex.new hb' _ _ ?_) (n3 _ _ hpa)
              · unfold unV
                rw [if_pos hlt]
              · have ha := h3 _ _ hpa
                have hlm : lineL n (fix (cntL n bs) (least n bs)) = mdL n bs := by
                  unfold lineL mdL
                  refine List.map_congr_left fun x hx => ?_
                  have hx' := List.mem_range.mp hx
                  refine (mend_near n hb.at hx' ?_).symm
                  have hcc : count n (bf bs) (fix (cntL n bs) (least n bs)) = least n bs := by
                    have g1 := fix_get lm
                    have g2 : (cntL n bs)[fix (cntL n bs) (least n bs)]? = some (count n (bf bs) (fix (cntL n bs) (least n bs))) := get_range _ hfx
                    rw [g1] at g2
                    exact (Option.some.inj g2).symm
                  rw [hcc, ← natpow]
                  exact hlt
                rw [← hlm]
                exact E6 _ _ (e4 _ _ (e3 _ _ (e2 _ _ (e _ _ ha))))
          · rw [if_neg hlt]
            refine ⟨l, n, bs, rfl, E6 _ _ (e4 _ _ (e3 _ _ (e2 _ _ hl'))), hb, fun p4 H7 hp4 e7 h9 => ?_⟩
            walk_at "rd"
            refine ⟨sz_of (by simp), fun b hb' => ?_⟩
            refine fin _ b _ _ (e7.trans (Ex.new hb')) upd_same ?_ (Ex.new hb' _ _ h9) (fresh_back (E1.trans E6) hp4)
            unfold unV
            rw [if_neg hlt]
abbrev s_lcubes : Stmt := top 81
abbrev N_lcubes : List Str := ["_law_wide_here", "_law_told", "_law_size_here", "_law_total", "_law_item", "_law_scaled", "_law_cube"]
theorem sc_lcubes : FnScope N_lcubes ["_law_wide_here", "_law_told"] (defScope s_lcubes) := ⟨rfl, rfl, rfl, by decide +kernel, rfl, by decide +kernel, by decide +kernel⟩
theorem st_lcubes {x0 x1 : V} : start N_lcubes [x0, x1] = [some x0, some x1, none, none, none, none, none] := rfl

theorem b_lcubes (T : Fx K mg) : L2.Binds K (fdOf K (T_lcubes K)) ["_law_wide_here", "_law_told"] [] := T.d_lcubes.F.binds (ps := ["_law_wide_here", "_law_told"]) fun _ _ _ _ _ _ us hl => match us, hl with | [_, _], _ => rfl
/-- the told answers at d -/
structure Told (n : Nat) (bs : List Int) (H : Hp) (d : Addr) : Prop where
  ex : ∃ (p0 p1 p2 : Addr) (ps : List Addr), H d = some (.lst [.ref p0, .ref p1, .ref p2, unV n bs]) ∧ H p0 = some (.tup (bsU n bs)) ∧ H p1 = some (.lst (ps.map V.ref)) ∧ ps.length = 2 ^ n ∧ (∀ (i : Nat) (a : Addr), ps[i]? = some a → H a = some (shO n bs i)) ∧
    H p2 = some (.tup (sdU n bs))
theorem low_bounds {t b M : Int} (hb : 0 < b) (h1 : -M ≤ t) (h2 : t ≤ M) : -M ≤ lowT t b ∧ lowT t b ≤ M ∧ 0 < lowB t b ∧ lowB t b ≤ b := by
  obtain ⟨g, hg, e1, e2, e3⟩ := low_spec (t := t) hb
  have hB : lowB t b * 1 ≤ lowB t b * g := Int.mul_le_mul_of_nonneg_left (by omega) (by omega)
  refine ⟨?_, ?_, e3, by omega⟩
  · rcases Int.le_total 0 (lowT t b) with h | h
    · omega
    · have : -lowT t b * 1 ≤ -lowT t b * g := Int.mul_le_mul_of_nonneg_left (by omega) (by omega)
      rw [Int.neg_mul, Int.neg_mul] at this
      omega
  · rcases Int.le_total 0 (lowT t b) with h | h
    · have : lowT t b * 1 ≤ lowT t b * g := Int.mul_le_mul_of_nonneg_left (by omega) (by omega)
      omega
    · omega
theorem nab {x y : Int} {a b : Nat} (h1 : x.natAbs < 2 ^ a) (h2 : y.natAbs < 2 ^ b) : (x * y).natAbs < 2 ^ (a + b) := by
  rw [Int.natAbs_mul, Nat.pow_add]
  exact Nat.mul_lt_mul'' h1 h2
theorem sq64 {x : Int} (h0 : 0 < x) (h : x ≤ 64) : x * x ≤ 4096 := by
  have : x * x ≤ 64 * 64 := Int.mul_le_mul h h (by omega) (by decide)
  omega
theorem broken_bounds {n : Nat} {bs : List Int} (h : TBits n bs) : 0 ≤ broken n (bf bs) ∧ broken n (bf bs) ≤ ((2 ^ (2 * n) : Nat) : Int) := by
  have hi : ∀ x, 0 ≤ Sm (2 ^ n) (fun y => brk bs x y) ∧ Sm (2 ^ n) (fun y => brk bs x y) ≤ ((2 ^ n : Nat) : Int) := fun x => Sm_bits fun y => xb_bit (xb_bit (h.at _) (h.at _)) (h.at _)
  constructor
  · have := Sm_le (n := 2 ^ n) (f := fun _ => 0) (g := fun x => Sm (2 ^ n) fun y => brk bs x y) fun x _ => (hi x).1
    rw [Sm_const, Int.mul_zero] at this
    exact this
  · have := Sm_le (n := 2 ^ n) (f := fun x => Sm (2 ^ n) fun y => brk bs x y) (g := fun _ => ((2 ^ n : Nat) : Int)) fun x _ => (hi x).2
    rw [Sm_const, ← Int.natCast_mul, ← Nat.pow_add, show n + n = 2 * n by omega] at this
    exact this
theorem cub_sub (N r : Int) : N * N * N - N * (N * N - 2 * r) = 2 * (N * r) := by
  rw [Int.mul_sub, ← Int.mul_assoc, Int.mul_left_comm N 2 r]
  omega
theorem cub_alg {N r T B g l t b f : Int} (hg : 0 < g) (h1 : r = T * g) (h2 : N * N = B * g) (hf : 0 < f) (h3 : l = t * f) (h4 : N = b * f) (h0 : 0 < N) (hs : l * N ≤ r) :
    2 * T * (N * N * N) = B * (N * N * N - N * (N * N - 2 * r)) ∧ t * B ≤ T * b := by
  constructor
  · rw [cub_sub, h2, h1]
    simp only [Int.mul_comm, Int.mul_left_comm, Int.mul_assoc]
  · have hgf : 0 < g * f := Int.mul_pos hg hf
    refine Int.le_of_mul_le_mul_right (a := g * f) ?_ hgf
    have e1 : t * B * (g * f) = l * N * N := by
      rw [Int.mul_assoc l, h2, h3]
      simp only [Int.mul_comm, Int.mul_left_comm, Int.mul_assoc]
    have e2 : T * b * (g * f) = r * N := by
      rw [h4, h1]
      simp only [Int.mul_comm, Int.mul_left_comm, Int.mul_assoc]
    rw [e1, e2]
    exact Int.mul_le_mul_of_nonneg_right hs (by omega)
def sp_cu : Sp := fun vs H Q _ => ∃ (d : Addr) (n : Nat) (bs : List Int), vs = [.int (n : Int), .ref d] ∧ Told n bs H d ∧ TBits n bs ∧ Q (.bl true) H
theorem ok_lcubes (T : Fx K mg) : FnOk P w K mg base CX0 2 (T_lcubes K) (fdOf K (T_lcubes K)) ["_law_wide_here", "_law_told"] sp_cu := by
  refine T.d_lcubes.F.ok sc_lcubes (fun vs H Q E h => ?_) (fun cdv A outer s H vs Q E hr h => ?_)
  · obtain ⟨d, n, bs, rfl, _⟩ := h
    rfl
  · obtain ⟨d, n, bs, rfl, hd, hb, q⟩ := h
    refine ⟨_, (pss_cons (ps_set (i := 2) sc_lcubes.nd rfl (by first | exact Or.inl rfl | exact Or.inr rfl) (pe_op op_shl1 pe_int (pv 0)))
      (pss_cons (ps_set (i := 3) sc_lcubes.nd rfl (by first | exact Or.inl rfl | exact Or.inr rfl) pe_int)
      (pss_cons (ps_for PassesOwn.never (by rfl) (ki_list K (pe_ix (k_ixL K) (pv 1) pe_int (fun _ _ => rfl))) (pg_name (i := 4) sc_lcubes.nd rfl (by first | exact Or.inl rfl | exact Or.inr rfl)) (pss_cons (ps_set (i := 5) sc_lcubes.nd rfl (by first | exact Or.inl rfl | exact Or.inr rfl) (pe_op op_mulX (pe_ix (k_ixT K) (pv 4) pe_int (fun _ _ => rfl)) (pe_op op_fdivW (pv 2) (pe_ix (k_ixT K) (pv 4) pe_int (fun _ _ => rfl)))))
      (pss_one (ps_set (i := 3) sc_lcubes.nd rfl (by first | exact Or.inl rfl | exact Or.inr rfl) (pe_op op_add (pv 3) (pe_op op_mulX (pe_op op_mulX (pv 5) (pv 5)) (pv 5)))))))
      (pss_cons (ps_set (i := 6) sc_lcubes.nd rfl (by first | exact Or.inl rfl | exact Or.inr rfl) (pe_op op_mulX (pe_op op_mulX (pv 2) (pv 2)) (pv 2)))
      (pss_cons (ps_if (pt_cmpR op_ne (pe_op op_mulX (pe_op op_mulX pe_int (pe_ix (k_ixT K) (pe_ix (k_ixL K) (pv 1) pe_int (fun _ _ => rfl)) pe_int (fun _ _ => rfl))) (pv 6)) (pe_op op_mulX (pe_ix (k_ixT K) (pe_ix (k_ixL K) (pv 1) pe_int (fun _ _ => rfl)) pe_int (fun _ _ => rfl)) (pe_op op_sub (pv 6) (pv 3))) (nomark _)) (pss_one (ps_ret pe_bl)) pss_nil)
      (pss_one (ps_ret (pe_cmpR op_ge (pe_op op_mulX (pe_ix (k_ixT K) (pe_ix (k_ixL K) (pv 1) pe_int (fun _ _ => rfl)) pe_int (fun _ _ => rfl)) (pe_ix (k_ixT K) (pe_ix (k_ixL K) (pv 1) pe_int (fun _ _ => rfl)) pe_int (fun _ _ => rfl))) (pe_op op_mulX (pe_ix (k_ixT K) (pe_ix (k_ixL K) (pv 1) pe_int (fun _ _ => rfl)) pe_int (fun _ _ => rfl)) (pe_ix (k_ixT K) (pe_ix (k_ixL K) (pv 1) pe_int (fun _ _ => rfl)) pe_int (fun _ _ => rfl))) (nomark _))))))))), ?_⟩
    rw [st_lcubes]
    walk_at "rd"
    have hs := hb.small
    have hw := hb.wide
    have hp0 := Nat.two_pow_pos n
    have i64 : ((2 ^ n : Nat) : Int) ≤ 64 := Int.ofNat_le.mpr hs
    have i0 : (0 : Int) < ((2 ^ n : Nat) : Int) := Int.ofNat_lt.mpr hp0
    obtain ⟨p0, p1, p2, ps, h1, h2, h3, h4, h5, h6⟩ := hd.ex
    have hpl : (ps.map V.ref).length = 2 ^ n := by rw [List.length_map, h4]
    have sc3 : ∀ S, (score n (bf bs) S).natAbs < 2 ^ 7 := fun S => by
      have c1 := count_bounds hb S
      have c2 := score_count n (bf bs) S
      rw [← natpow] at c2
      omega
    refine ⟨by omega, _, _, sq_of h1, atI_nat (j := 1) rfl, p1, rfl, ⟨_, sq_of h3⟩, ?_⟩
    refine loop_list (xs := ps.map V.ref) (fun i σ H' => H' = H ∧ ∃ v4 v5 : Option V, σ = [some (.int (n : Int)), some (.ref d), some (.int ((2 ^ n : Nat) : Int)), some (.int (Sm i fun S => score n (bf bs) S * score n (bf bs) S * score n (bf bs) S)), v4, v5, none]) ⟨rfl, none, none, rfl⟩
      (fun i σ H' _ h => by rw [h.1]; exact sq_of h3) ?_ ?_
    · rintro S x σ H' hx ⟨rfl, v4, v5, rfl⟩
      obtain ⟨a, rfl, ha⟩ : ∃ a, x = .ref a ∧ H' a = some (shO n bs S) := by
        rw [List.getElem?_map] at hx
        cases hq : ps[S]? with
        | none =>
          rw [hq] at hx
          cases hx
        | some a =>
          rw [hq] at hx
          exact ⟨a, (Option.some.inj hx).symm, h5 S a hq⟩
      walk_at "rd"
      have hsc : lowT (score n (bf bs) S) ((2 ^ n : Nat) : Int) * (((2 ^ n : Nat) : Int) / lowB (score n (bf bs) S) ((2 ^ n : Nat) : Int)) = score n (bf bs) S := low_scaled i0
      have lb := low_bounds (t := score n (bf bs) S) (M := 128) i0 (by have := sc3 S; omega) (by have := sc3 S; omega)
      have hq : ((2 ^ n : Nat) : Int) / lowB (score n (bf bs) S) ((2 ^ n : Nat) : Int) ≤ 64 := Int.le_trans (Int.ediv_le_self _ (by omega)) i64
      have hq0 : 0 ≤ ((2 ^ n : Nat) : Int) / lowB (score n (bf bs) S) ((2 ^ n : Nat) : Int) := Int.ediv_nonneg (by omega) (by omega)
      refine ⟨_, _, st_of ha, atI_nat (j := 0) rfl, _, _, st_of ha, atI_nat (j := 1) rfl, _, rfl, wide_div (b := 31) lb.2.2.1 (by omega) (by decide) (by decide), _, rfl, mulx_ok (a := 8) (b := 7) (by omega) (by omega) (by decide), ?_⟩
      rw [hsc]
      refine ⟨mulx_ok (sc3 S) (sc3 S) (by decide), mulx_ok (nab (sc3 S) (sc3 S)) (sc3 S) (by decide), _, _, ⟨?_, rfl, rfl⟩⟩
      rw [Sm_succ]
    · rintro σ H' ⟨rfl, v4, v5, rfl⟩
      walk_at "rd"
      rw [hpl, cubes, ← natpow]
      have eNN : ((2 ^ n : Nat) : Int) * ((2 ^ n : Nat) : Int) = ((2 ^ (2 * n) : Nat) : Int) := by
        rw [← Int.natCast_mul, ← Nat.pow_add, show n + n = 2 * n by omega]
      have pb := pow_bounds hw
      have bb := broken_bounds hb
      have sg := share_ge n hb.at (m := least n bs) fun S hS => least_le n bs _ (by
        unfold cntL
        exact List.mem_map.mpr ⟨S, List.mem_range.mpr hS, rfl⟩)
      have lb := least_bounds hb
      rw [← natpow] at sg
      have l1 := low_bounds (t := broken n (bf bs)) (M := 4096) pb.2.2.1 (by omega) (by rw [← eNN] at bb; exact Int.le_trans bb.2 (sq64 i0 i64))
      have l2 := low_bounds (t := least n bs) (M := 64) i0 (by omega) (by omega)
      obtain ⟨g, hg, g1, g2, g3⟩ := low_spec (t := broken n (bf bs)) pb.2.2.1
      obtain ⟨f, hf, f1, f2, f3⟩ := low_spec (t := least n bs) i0
      have hB : lowB (broken n (bf bs)) ((2 ^ (2 * n) : Nat) : Int) ≤ 4096 := Int.le_trans l1.2.2.2 (by rw [← eNN]; exact sq64 i0 i64)
      have hT0 : 0 ≤ broken n (bf bs) := bb.1
      have hbM : broken n (bf bs) ≤ 4096 := by rw [← eNN] at bb; exact Int.le_trans bb.2 (sq64 i0 i64)
      obtain ⟨q1, q2⟩ := cub_alg hg g1 (eNN.trans g2) hf f1 f2 i0 sg
      have eD : ((2 ^ n : Nat) : Int) * ((2 ^ n : Nat) : Int) * ((2 ^ n : Nat) : Int) - ((2 ^ n : Nat) : Int) * (((2 ^ n : Nat) : Int) * ((2 ^ n : Nat) : Int) - 2 * broken n (bf bs)) = 2 * (((2 ^ n : Nat) : Int) * broken n (bf bs)) := cub_sub _ _
      have a7 : ((2 ^ n : Nat) : Int).natAbs < 2 ^ 7 := by omega
      have aT : (lowT (broken n (bf bs)) ((2 ^ (2 * n) : Nat) : Int)).natAbs < 2 ^ 13 := by omega
      have aB : (lowB (broken n (bf bs)) ((2 ^ (2 * n) : Nat) : Int)).natAbs < 2 ^ 13 := by omega
      have aR : (broken n (bf bs)).natAbs < 2 ^ 13 := by omega
      have a2 : (2 : Int).natAbs < 2 ^ 2 := by decide
      have aT2 : (lowT (least n bs) ((2 ^ n : Nat) : Int)).natAbs < 2 ^ 7 := by omega
      have aB2 : (lowB (least n bs) ((2 ^ n : Nat) : Int)).natAbs < 2 ^ 7 := by omega
      have aD : (((2 ^ n : Nat) : Int) * ((2 ^ n : Nat) : Int) * ((2 ^ n : Nat) : Int) - ((2 ^ n : Nat) : Int) * (((2 ^ n : Nat) : Int) * ((2 ^ n : Nat) : Int) - 2 * broken n (bf bs))).natAbs < 2 ^ (2 + (7 + 13)) := by
        rw [eD]
        exact nab a2 (nab a7 aR)
      refine ⟨mulx_ok a7 a7 (by decide), mulx_ok (nab a7 a7) a7 (by decide), _, _, sq_of h1, atI_nat (j := 0) rfl, p0, rfl, _, _, st_of h2, atI_nat (j := 0) rfl, _, rfl, mulx_ok a2 aT (by decide), mulx_ok (nab a2 aT) (nab (nab a7 a7) a7) (by decide),
        _, _, sq_of h1, atI_nat (j := 0) rfl, p0, rfl, _, _, st_of h2, atI_nat (j := 1) rfl, _, rfl, mulx_ok aB aD (by decide), ?_⟩
      rw [if_neg (by rw [decide_eq_true q1]; decide)]
      refine ⟨_, _, sq_of h1, atI_nat (j := 0) rfl, p0, rfl, _, _, st_of h2, atI_nat (j := 0) rfl, _, _, sq_of h1, atI_nat (j := 2) rfl, p2, rfl, _, _, st_of h6, atI_nat (j := 1) rfl, _, rfl, _, rfl, mulx_ok aT aB2 (by decide),
        _, _, sq_of h1, atI_nat (j := 2) rfl, p2, rfl, _, _, st_of h6, atI_nat (j := 0) rfl, _, _, sq_of h1, atI_nat (j := 0) rfl, p0, rfl, _, _, st_of h2, atI_nat (j := 1) rfl, _, rfl, _, rfl, mulx_ok aT2 aB (by decide), ?_⟩
      rw [decide_eq_true q2]
      exact q
end
end Bs
/-! A caught error: asked for its class, for its field, handed on to a def. -/
namespace Bs
open PySem PySem.Spec PyProof.Rows L2 Evl
/-- what is known of the caught object -/
structure ZP (cls : Value) (d : Option Addr) (p : Addr × Obj) : Prop where
  z : Zc cls d p.2
  f : ∃ vs, p.2.data = .fields vs
section
variable {X : Cx} {pins : List (Addr × Obj)} {σ : L2.St} {H : Hp} {s : Shared} {p : Addr × Obj} {D dd : Addr}
theorem inst_of {fs : List (Str × V)} (I : Inv X pins σ H s) (hp : p ∈ X.pn) (Z : ZP (.ref D) (some dd) p) (hd : H dd = some (.xd fs)) :
    ∃ (od : Obj) (mA : Str → Option Value), PySem.W.InstAt s.heap p.1 p.2 D (some od) ∧ (∀ n, PySem.W.lookIn n od = some (mA n)) ∧ ∀ n, RelO (fs.lookup n) (mA n) := by
  have hx : ObjOk X.prog X.w H s.heap dd (.xd fs) := I.hok dd _ hd
  obtain ⟨mA, hns, hr⟩ := hx
  obtain ⟨od, ho, hl⟩ := lookIn_ns hns
  obtain ⟨vs, hf⟩ := Z.f
  exact ⟨od, mA, ⟨(I.pin p (List.mem_append_left _ hp)).1, Z.z.1, by unfold PySem.W.notCls; rw [hf] <;> rfl, by rw [Z.z.2]; exact ho⟩, hl, hr⟩
/-- isinstance(e, c) of the caught error e, which has its dict -/
def rIsX (K : PySem.W.Frag) (a D dd : Addr) : List V → Hp → VK → Prop := fun xs H Q => ∃ c, xs = [.ref a, c] ∧ ∃ (cv : Value) (b : Bool) (fs : List (Str × V)), (∀ u, RelV c u → u = cv) ∧ H dd = some (.xd fs) ∧ PySem.W.kitOne K (.ref D) cv = some b ∧ Q (.bl b) H
theorem k_isX (K : PySem.W.Frag) (C : ExcF K D) (Z : ZP (.ref D) (some dd) p) (hp : p ∈ X.pn) (hK : X.K = K := by rfl) : CallR X (.builtin "isinstance") (rIsX K p.1 D dd) := by
  subst hK
  rintro pins s σ H xs us Q I r ⟨c, rfl, cv, b, fs, hcv, hd, e, q⟩
  obtain ⟨u1, u2, rfl, r1, r2⟩ := vals2 r
  have ec := hcv _ r2
  subst ec
  obtain rfl : u1 = Value.ref p.1 := r1
  obtain ⟨od, mA, J, _, _⟩ := inst_of I hp Z hd
  exact PySem.W.kia_one (PySem.W.kitx_exc C.cl C.ga C.gg C.sb C.ha C.hn C.ht C.hm) I.kIn J e (fun z => nomatch z) fun tk => ⟨.bl b, H, I.kept (t' := tk) fun _ _ z => z, rfl, q⟩
/-- e.f -/
def tXg (a dd : Addr) (f : Str) (te : TE) : TE := fun σ H Q => te σ H fun x H1 => x = .ref a ∧ ∃ (fs : List (Str × V)) (v : V), H1 dd = some (.xd fs) ∧ fs.lookup f = some v ∧ Q v H1
theorem pe_xg {e : Expr} {te : TE} {pos : Pos} {n : Str} (C : ExcF X.K D) (hno : PySem.W.findIn X.K (.ref D) n = some none) (Z : ZP (.ref D) (some dd) p) (hp : p ∈ X.pn) (he : PE X e te) (hb : attributeBase e n X.env (eval e X.env) = eval e X.env := by rfl) :
    PE X (.Attribute e n pos) (tXg p.1 dd n te) := by
  refine ⟨fun pins s σ H Q I h => attr_of hb (thn (he.run pins s σ H _ I h) fun u s1 ⟨x, H1, I1, rx, ex, fs, v, ea, l, q⟩ => ?_)⟩
  subst ex
  obtain rfl : u = Value.ref p.1 := rx
  obtain ⟨od, mA, J, hl, hr⟩ := inst_of I1 hp Z ea
  obtain ⟨u, hu, ru⟩ := RelO.some_of (v := v) (o := mA n) (by rw [← l]; exact hr n)
  exact HandSPX.exc_get I1.kIn J C.ga C.gg C.sb (PySem.W.findObj_own C.hd hno rfl (by rw [hl, hu])) (handed_of ru) ⟨v, H1, I1.tok _, ru, q⟩
/-! ### list.count of a bool -/
theorem bools_of : ∀ {bs : List Bool} {us : List Value}, Vals (bs.map V.bl) us → us = bs.map Value.bool
  | [], _, r => by
    cases r
    rfl
  | b :: bs, us, r => by
    rw [List.map_cons] at r
    cases r with
    | cons r1 r2 =>
      rw [bools_of r2, show _ = Value.bool b from r1]
      rfl
theorem count_bools (k : Bool) : ∀ bs : List Bool, (bs.map Value.bool).countP (isBoolOf k) = bs.countP (· == k)
  | [] => rfl
  | b :: bs => by
    rw [List.map_cons, List.countP_cons, List.countP_cons, count_bools k bs]
    rfl
def rCntB (K : PySem.W.Frag) : V → List V → Hp → VK → Prop := fun x xs H Q => ∃ p, x = .ref p ∧ ∃ k, xs = [.bl k] ∧ ∃ bs : List Bool, SqL K H p (bs.map V.bl) ∧ Q (.int (bs.countP (· == k) : Nat)) H
theorem k_cntB (K : PySem.W.Frag) (hK : X.K = K := by rfl) : MtR X "list.count" (rCntB K) := by
  subst hK
  rintro pins s σ H x xs v us Q I rx rxs ⟨p, rfl, k, rfl, bs, hs, q⟩
  cases rx
  obtain ⟨u, rfl, ru⟩ := rxs.one
  obtain rfl : u = Value.bool k := ru
  obtain ⟨its, rv, ⟨⟨cls, dd, data, sl⟩, n, ho, hc, hdn, hd⟩, hlen⟩ := I.list hs
  simp only at hc hd
  subst hc hd
  have hi := bools_of rv
  refine call_meets PySem.F.slot_list_count ⟨_, ho, rfl⟩ PySem.F.entry_list_count (PySem.F.args_list_count_2 _ _) (SeqAt.list_countAt p its.toArray n dd sl (.bool k) (isBoolOf k)) ⟨ho, fun y hy => ?_, ?_⟩
  · have hy' : y ∈ its := by simpa using hy
    rw [hi] at hy'
    obtain ⟨b, _, rfl⟩ := List.mem_map.mp hy'
    exact SeqAt.EqAt.bool_bool b k
  · refine ⟨.int (bs.countP (· == k) : Nat), H, I.tok _, ⟨s.toks, ?_⟩, q⟩
    rw [← count_bools k bs, ← hi]
end
/-! ### a def that takes the caught error -/
structure FnE (P : Program) (w : World) (K : PySem.W.Frag) (mg : Str → Option Value) (base : Heap) (k : Nat) (f : Addr) (fd : FuncData) (ps : List Str) (cls : Value) (sp : Addr → Option Addr → List V → Hp → VK → Prop) : Prop where
  len : ∀ a d vs H Q, sp a d vs H Q → vs.length = ps.length
  run : ∀ (A : Around) (outer : List Env) (s : Shared) (H : Hp) (args : Args) (us : List Value) (vs : List V) (Q : VK) (p : Addr × Obj) (d : Option Addr), L2H.RoomH k A → L2H.PinOk outer H s p → ZP cls d p → Env0 P w K mg base A outer s H → BindsTo s fd args (ps.zip us) → Vals vs us →
    sp p.1 d vs H Q → codeAny (model P w) A (.call (.ref f) args) (CR CX0 outer P w H s Q E0) s
section
variable {P : Program} {w : World} {K : PySem.W.Frag} {mg : Str → Option Value} {base : Heap}
theorem fnE_of {x qual : Str} {st : Stmt} {f : Addr} {fd : FuncData} {N ps : List Str} {k : Nat} {cls : Value} {sp : Addr → Option Addr → List V → Hp → VK → Prop} (F : Fun K x qual st f fd) (S : FnScope N ps (defScope st)) (len : ∀ a d vs H Q, sp a d vs H Q → vs.length = ps.length)
    (hbody : ∀ (cdv : Value) (A : Around) (outer : List Env) (s : Shared) (H : Hp) (vs : List V) (Q : VK) (p : Addr × Obj) (d : Option Addr), ZP cls d p → sp p.1 d vs H Q →
      ∃ t, PSs (L2H.cxH CX0 P w K mg base N qual (defScope st) f cdv A outer s H E0 p) (defBody st) t ∧ t { nx := fun _ H' => Q .non H', rt := Q } (start N vs) H) : FnE P w K mg base (k + 1) f fd ps cls sp := by
  obtain ⟨oc, od, kV, doc, pm, an, cdv, ct, osl, rfl, lk, hcd⟩ := F.ex
  refine ⟨len, fun A outer s H args us vs Q p d hr hpin Z e0 hb r hsp => ?_⟩
  have hl := len _ _ _ _ _ hsp; have KX : K.In s.heap := e0.mod.kin.keeps fun b o e => (e0.bs b o e).1; have lim : s.heap.NoLimit := e0.mod.nolimit.keeps fun b o e => (e0.bs b o e).1
  refine codeAny_call_function hr.depth (KX _ _ lk) rfl S.co S.gen rfl (PySem.W.codeRec_of KX hcd) (hb _ _ _ _ (wpAny_newFunctionEnv_cells S.kind (fun ⟨n, v⟩ hy => ?_) fun env he s1 x => ?_))
  · rcases S.par n (List.of_mem_zip hy).1 with q | q
    · exact Or.inl q
    · exact Or.inr ⟨q, PySem.W.cellsFrom_some _ _ _ (Or.inl q)⟩
  subst he
  obtain ⟨t, ht, hq⟩ := hbody cdv A outer s H vs Q p d Z hsp
  refine ⟨lim.keeps x.toInCall.keep, codeAny_func (wpAny_mono (ht.run [] s1 (start N vs) H _ (L2H.inv_startH S hpin e0 hl r x) hq) (fun fl s' hs => ?_) fun e s' hs => hs)⟩
  cases fl with
  | ret u =>
    obtain ⟨v, σ', H', J, rv, q⟩ := hs
    exact ⟨v, H', J.os, J.bare, J.base, J.hok, rv, q⟩
  | next =>
    obtain ⟨σ', H', J, q⟩ := hs
    exact ⟨V.non, H', J.os, J.bare, J.base, J.hok, rfl, q⟩
  | brk =>
    obtain ⟨_, _, _, q⟩ := hs
    exact q.elim
  | cont =>
    obtain ⟨_, _, _, q⟩ := hs
    exact q.elim
/-- f(..) in an except suite -/
def tCallE (c0 : Value) (a : Addr) (cls : Value) (d : Option Addr) (sp : Addr → Option Addr → List V → Hp → VK → Prop) (t : TA) : TE := fun σ H Q => t σ H fun vs H1 => cls = c0 ∧ sp a d vs H1 Q
theorem pe_callE {X : Cx} {k : Nat} {f a : Addr} {fd : FuncData} {ps : List Str} {c0 cls : Value} {d : Option Addr} {oe : Obj} {pn : List (Addr × Obj)} {sp : Addr → Option Addr → List V → Hp → VK → Prop} {x : Str} {q pos : Pos} {e : Expr} {es : List Expr} {t : TA}
    (F : FnE X.prog X.w X.K X.mg X.base k f fd ps c0 sp) (hr : Room k X.A) (hg : Gl X x) (hm : X.mg x = some (.ref f)) (hk : PySem.W.keepIn X.K (.ref f) = true) (hb : Binds X.K fd ps []) (hz : Zc cls d oe) (hf : ∃ vs, oe.data = .fields vs) (ha : PA (X.suite a ((a, oe) :: pn)) (e :: es) t)
    (hdb : (x == ("__debug__" : Str)) = false := by decide) (he : starEach (e :: es) X.env = (false, eval e X.env) :: starEach es X.env := by rfl) (hpl : (backTo pos (starEach es X.env)).any (·.1) = false := by rfl) :
    PE (X.suite a ((a, oe) :: pn)) (.Call (.Name x q) (e :: es) [] pos) (tCallE c0 a cls d sp t) := by
  refine ⟨fun pins s σ H Q I h => wpAny_Call_Name_kw (ld_glob (X := X.suite a ((a, oe) :: pn)) I hg hm ?_ hdb)⟩
  refine PySem.W.callWith_K (h₀ := X.base) I.ok.mod.kin hk (thn (ha.run pos pins s σ H _ I h) fun us s1 ⟨vs, H1, I1, r, ec, h1⟩ => ⟨I1.kIn, ?_⟩) he hpl
  subst ec
  have hl : us.length = ps.length := by rw [← r.length]; exact F.len _ _ _ _ _ h1
  have b := hb s1 us I1.kIn (by rw [List.append_nil]; exact hl)
  rw [List.append_nil] at b
  have P1 := I1.pin (a, oe) (List.mem_append_left _ (List.mem_cons_self ..))
  have hpin : L2H.PinOk X.stack H1 s1 (a, oe) := ⟨P1.1, P1.2.1, fun hm => (List.mem_cons.mp (I1.stkSub a hm)).elim P1.2.2.1 P1.2.2.2.1, P1.2.2.2.2⟩
  refine wpAny_call (codeAny_mono (F.run _ X.stack s1 H1 ⟨us, []⟩ us vs Q (a, oe) d ⟨hr.dp, hr.un⟩ hpin ⟨hz, hf⟩ I1.env0 b r h1) fun r s' hq => ?_)
  cases r with
  | error e => exact hq.elim
  | ok fl =>
    cases fl with
    | ret u => exact I1.after hq
    | _ => exact hq.elim
end
/-! ### f(k = v) -/
section
variable {X : Cx} {CX : CXT} {k : Nat} {f : Addr} {fd : FuncData} {ps ks : List Str} {sp : Sp} {E : XK} {x : Str} {p pos : Pos} {kws : List Keyword} {tk : TA} {g : List Value → List Value → List Value} {gV : List V → List V → List V}
theorem pe_callK0 (F : FnOk X.prog X.w X.K X.mg X.base CX k f fd ps sp) (hr : Room k X.A) (hg : Gl X x) (hm : X.mg x = some (.ref f)) (hk : PySem.W.keepIn X.K (.ref f) = true) (hb : KBinds X.K fd ps ks g gV) (hx : Passes CX X E) (hkw : PK X kws tk)
    (hall : (backToKw pos (keywordEach kws X.env)).all (·.1.isSome) = true := by rfl) (hks : (backToKw pos (keywordEach kws X.env)).filterMap (·.1) = ks := by rfl) (hdb : (x == ("__debug__" : Str)) = false := by decide)
    (hpl : ((backTo pos (starEach [] X.env)).any (·.1) || (backToKw pos (keywordEach kws X.env)).any (·.1.isNone)) = false := by rfl) : PE X (.Call (.Name x p) [] kws pos) (tCallK sp gV E tNil tk) := by
  refine ⟨fun pins s σ H Q I h => wpAny_Call_Name_kw (ld_glob I hg hm (PySem.W.callWith_KW0 (h₀ := X.base) I.ok.mod.kin hk hall (thn (hkw.run pos pins s σ H _ I h) fun ws s2 ⟨zs, H2, I2, rz, q2⟩ => ⟨I2.kIn, ?_⟩) hpl) hdb)⟩
  rw [hks]
  exact run_fnk (us := []) (vs := []) F hr hb hx I2 .nil rz q2
end
end Bs
/-! Walk 11: the refused calls. -/
namespace Bs
open PySem PySem.Spec PyProof.Rows L2 Evl
local macro_rules | `(tactic| walk_at "rd") => `(tactic| try simp only [rd_var, rd_c, rd_op, rd_un, rd_I, rd_I0, rd_U, rd_NN, rd_shr, rd_shl1, rd_XB, rd_eq, rd_ne, scal_int, rd_B, rd_test, rd_and, rd_or, rd_not, rd_andV, rd_orV, rd_notV, rd_if, rd_nil, rd_cons, rd_tup, rd_lst, rd_call, rd_CB, rd_prop, rd_meth, rd_fld, rd_make, rd_sl, rd_noPart, rd_part, rd_bm0, rd_bm, rd_bits, rd_ixL, rd_ixT, rd_append, rd_addN, rd_dbl, rd_half, rd_int, rd_intB, rd_bit1, rd_popAt, rd_slL, rd_sortedI, rd_lstRg, rd_rg1, tru_int, rd_len, rd_listS, rd_tupS, rd_sum, rd_min, rd_iEnum, rd_yes, rd_asg, rd_name, rd_gnil, rd_gcons1, rd_two, rd_gtup, rd_gsub, rd_setL, rd_seq, rd_next, rd_break, rd_never, rd_drop, rd_ret, rd_retN, rd_ifS, rd_par, rd_aug, rd_sFld, rd_for, rd_iList, rd_iTup, rd_iRng1, rd_lc, vint, vbl, vref, natc, cx_K, cx_noxK, List.getElem?_cons_zero, List.getElem?_cons_succ, Option.some.injEq, exists_eq_left, exists_eq_left', exists_eq_right, exists_eq_right', true_and, and_true, List.cons.injEq, List.cons_append, List.nil_append, List.append_nil, List.set_cons_zero, List.set_cons_succ, Bool.not_true, Bool.not_false, decide_eq_true_eq, if_true, if_false, Bool.false_eq_true, reduceIte, and_self, Int.zero_add, exists_eq, exists_eq', wipe, List.map_cons, List.map_nil])
section
variable {P : Program} [IsP P] {w : World} {K : PySem.W.Frag} {mg : Str → Option Value} {base : Heap} {X : Cx}
theorem kb_mended (T : Fx K mg) : KBinds K (fdOf K (T_mended K)) ["table"] ["table"] (fun us ws => us ++ ws) (fun vs zs => vs ++ zs) := by
  obtain ⟨oc, od, kV, doc, pm, an, cdv, ct, osl, e, lk, hcd⟩ := T.d_mended.F.ex
  rw [e]
  exact ⟨fun s us ws hK hl => match us, ws, hl with
    | [], [_], _ => BindsTo.of_eq rfl
    | [_], [], _ => BindsTo.of_eq rfl, fun h1 h2 => h1.append h2⟩
theorem isx {H : Hp} {Q : VK} {a D dd C : Addr} {b : Bool} {fs : List (Str × V)} (hd : H dd = some (.xd fs)) (hk : PySem.W.kitOne K (.ref D) (.ref C) = some b) (q : Q (.bl b) H) : rIsX K a D dd [.ref a, .ref C] H Q :=
  ⟨_, rfl, _, b, fs, fun u r => r, hd, hk, q⟩
theorem isxT {H : Hp} {Q : VK} {a D dd : Addr} {n : String} {b : Bool} {fs : List (Str × V)} (hd : H dd = some (.xd fs)) (hk : PySem.W.kitOne K (.ref D) (.type n) = some b) (q : Q (.bl b) H) : rIsX K a D dd [.ref a, .ty n] H Q :=
  ⟨_, rfl, _, b, fs, fun u r => r, hd, hk, q⟩
theorem cat_go {H : Hp} {Q : VK} {a b : Addr} {xs ys : List V} (ha : H a = some (.lst xs)) (hb : H b = some (.lst ys)) (hz : xs.length + ys.length ≤ 1000) (q : RetL (xs ++ ys) H Q) : rCat (.ref a) (.ref b) H Q :=
  ⟨a, b, xs, ys, rfl, rfl, ha, hb, sz_of (by omega), fun p hp => q p _ hp (Ex.new hp) upd_same⟩
abbrev s_lask : Stmt := top 77
abbrev N_lask : List Str := ["_law_which", "_law_given"]
theorem sc_lask : FnScope N_lask ["_law_which", "_law_given"] (defScope s_lask) := ⟨rfl, rfl, rfl, by decide +kernel, rfl, by decide +kernel, by decide +kernel⟩
theorem st_lask {x0 x1 : V} : start N_lask [x0, x1] = [some x0, some x1] := rfl

theorem b_lask (T : Fx K mg) : L2.Binds K (fdOf K (T_lask K)) ["_law_which", "_law_given"] [] := T.d_lask.F.binds (ps := ["_law_which", "_law_given"]) fun _ _ _ _ _ _ us hl => match us, hl with | [_, _], _ => rfl
def sp_ask (K : PySem.W.Frag) : Sp := fun vs H Q E => ∃ (k : Nat) (v : V), vs = [.int (k : Int), v] ∧ NoTab K H v ∧ RaiseT K H E
theorem ok_lask (T : Fx K mg) : FnOk P w K mg base (L2.CX P w) 8 (T_lask K) (fdOf K (T_lask K)) ["_law_which", "_law_given"] (sp_ask K) := by
  refine T.d_lask.F.okX sc_lask (fun vs H Q E h => ?_) (fun cdv A outer s H vs Q E hr h => ?_)
  · obtain ⟨k, v, rfl, _⟩ := h
    rfl
  · obtain ⟨k, v, rfl, h1, h2⟩ := h
    refine ⟨_, (pss_cons (ps_if (pt_cmpR op_eq (pv 0) pe_int (nomark _)) (pss_one (ps_ret (pe_call (ok_breaking_share T) (hr.mono (by decide)) (by rfl) T.d_breaking_share.gl T.d_breaking_share.F.kp (b_breaking_share T) .nil (passes_call (takes_of rfl rfl rfl rfl) (fun _ _ _ _ h => h)) (pa_cons (pv 1) pa_nil)))) pss_nil)
      (pss_cons (ps_if (pt_cmpR op_eq (pv 0) pe_int (nomark _)) (pss_one (ps_ret (pe_call (ok_shades T) (hr.mono (by decide)) (by rfl) T.d_shades.gl T.d_shades.F.kp (b_shades T) .nil (passes_call (takes_of rfl rfl rfl rfl) (fun _ _ _ _ h => h)) (pa_cons (pv 1) pa_nil)))) pss_nil)
      (pss_cons (ps_if (pt_cmpR op_eq (pv 0) pe_int (nomark _)) (pss_one (ps_ret (pe_call (ok_sum_distance T) (hr.mono (by decide)) (by rfl) T.d_sum_distance.gl T.d_sum_distance.F.kp (b_sum_distance T) .nil (passes_call (takes_of rfl rfl rfl rfl) (fun _ _ _ _ h => h)) (pa_cons (pv 1) pa_nil)))) pss_nil)
      (pss_cons (ps_if (pt_cmpR op_eq (pv 0) pe_int (nomark _)) (pss_one (ps_ret (pe_call (ok_unique_nearest T) (hr.mono (by decide)) (by rfl) T.d_unique_nearest.gl T.d_unique_nearest.F.kp (b_unique_nearest T) .nil (passes_call (takes_of rfl rfl rfl rfl) (fun _ _ _ _ h => h)) (pa_cons (pv 1) pa_nil)))) pss_nil)
      (pss_one (ps_ret (pe_callK0 (ok_mended T) (hr.mono (by decide)) (by rfl) T.d_mended.gl T.d_mended.F.kp (kb_mended T) (passes_call (takes_of rfl rfl rfl rfl) (fun _ _ _ _ h => h)) (pk_cons (pv 1) pk_nil)))))))), ?_⟩
    rw [st_lask]
    walk_at "rd"
    have bad : ∀ (R : Nat → List Int → Hp → VK → Prop), spTab K R [v] H Q E := fun R => ⟨v, rfl, .inr ⟨h1, h2⟩⟩
    split
    · exact bad _
    split
    · exact bad _
    split
    · exact bad _
    split
    · exact bad _
    exact ⟨_, rfl, bad _⟩
abbrev s_lfault_of : Stmt := top 75
abbrev N_lfault_of : List Str := ["_law_caught", "_law_flags"]
theorem sc_lfault_of : FnScope N_lfault_of ["_law_caught"] (defScope s_lfault_of) := ⟨rfl, rfl, rfl, by decide +kernel, rfl, by decide +kernel, by decide +kernel⟩
theorem st_lfault_of {x0 : V} : start N_lfault_of [x0] = [some x0, none] := rfl

theorem b_lfault_of (T : Fx K mg) : L2.Binds K (fdOf K (T_lfault_of K)) ["_law_caught"] [] := T.d_lfault_of.F.binds (ps := ["_law_caught"]) fun _ _ _ _ _ _ us hl => match us, hl with | [_], _ => rfl
def sp_fault (K : PySem.W.Frag) : Addr → Option Addr → List V → Hp → VK → Prop := fun a d vs H Q => ∃ dd, d = some dd ∧ vs = [.ref a] ∧ H dd = some (.xd [("argument", .str "table")]) ∧ RetU [.str "WrongKind", .str "table"] H Q
theorem ok_lfault (T : Fx K mg) : FnE P w K mg base 1 (T_lfault_of K) (fdOf K (T_lfault_of K)) ["_law_caught"] (.ref (WK K)) (sp_fault K) := by
  refine fnE_of T.d_lfault_of.F sc_lfault_of (fun a d vs H Q h => ?_) (fun cdv A outer s H vs Q p d Z h => ?_)
  · obtain ⟨dd, _, rfl, _⟩ := h
    rfl
  · obtain ⟨dd, rfl, rfl, hd, q⟩ := h
    refine ⟨_, (pss_cons (ps_set (i := 1) sc_lfault_of.nd rfl (by first | exact Or.inl rfl | exact Or.inr rfl) (pe_lst (pa_cons (pe_callB (k_isX K T.wx.ex Z (List.mem_singleton.mpr rfl)) (by rfl) T.z_isinstance (by decide +kernel) (pa_cons (pv 0) (pa_cons (pe_glob (v := .ref (He.ga K "WrongKind")) (by rfl) T.g_WrongKind rfl) pa_nil))) (pa_cons (pe_callB (k_isX K T.wx.ex Z (List.mem_singleton.mpr rfl)) (by rfl) T.z_isinstance (by decide +kernel) (pa_cons (pv 0) (pa_cons (pe_glob (v := .ref (He.ga K "WrongSize")) (by rfl) T.g_WrongSize rfl) pa_nil))) (pa_cons (pe_callB (k_isX K T.wx.ex Z (List.mem_singleton.mpr rfl)) (by rfl) T.z_isinstance (by decide +kernel) (pa_cons (pv 0) (pa_cons (pe_glob (v := .ref (He.ga K "OutOfRange")) (by rfl) T.g_OutOfRange rfl) pa_nil))) pa_nil)))))
      (pss_cons (ps_set (i := 1) sc_lfault_of.nd rfl (by first | exact Or.inl rfl | exact Or.inr rfl) (pe_op op_cat (pv 1) (pe_lst (pa_cons (pe_callB (k_isX K T.wx.ex Z (List.mem_singleton.mpr rfl)) (by rfl) T.z_isinstance (by decide +kernel) (pa_cons (pv 0) (pa_cons (pe_glob (v := .ref (He.ga K "BadText")) (by rfl) T.g_BadText rfl) pa_nil))) (pa_cons (pe_callB (k_isX K T.wx.ex Z (List.mem_singleton.mpr rfl)) (by rfl) T.z_isinstance (by decide +kernel) (pa_cons (pv 0) (pa_cons (pe_glob (v := .ref (He.ga K "NotATable")) (by rfl) T.g_NotATable rfl) pa_nil))) (pa_cons (pe_callB (k_isX K T.wx.ex Z (List.mem_singleton.mpr rfl)) (by rfl) T.z_isinstance (by decide +kernel) (pa_cons (pv 0) (pa_cons (pe_glob (v := .ref (He.ga K "Spent")) (by rfl) T.g_Spent rfl) pa_nil))) pa_nil))))))
      (pss_cons (ps_set (i := 1) sc_lfault_of.nd rfl (by first | exact Or.inl rfl | exact Or.inr rfl) (pe_op op_cat (pv 1) (pe_lst (pa_cons (pe_callB (k_isX K T.wx.ex Z (List.mem_singleton.mpr rfl)) (by rfl) T.z_isinstance (by decide +kernel) (pa_cons (pv 0) (pa_cons (pe_glob (v := .ref (He.ga K "TooFewPlaces")) (by rfl) T.g_TooFewPlaces rfl) pa_nil))) (pa_cons (pe_callB (k_isX K T.wx.ex Z (List.mem_singleton.mpr rfl)) (by rfl) T.z_isinstance (by decide +kernel) (pa_cons (pv 0) (pa_cons (pe_glob (v := .ref (He.ga K "WrongPaper")) (by rfl) T.g_WrongPaper rfl) pa_nil))) (pa_cons (pe_callB (k_isX K T.wx.ex Z (List.mem_singleton.mpr rfl)) (by rfl) T.z_isinstance (by decide +kernel) (pa_cons (pv 0) (pa_cons (pe_glob (v := .ref (He.ga K "UnknownName")) (by rfl) T.g_UnknownName rfl) pa_nil))) pa_nil))))))
      (pss_cons (ps_set (i := 1) sc_lfault_of.nd rfl (by first | exact Or.inl rfl | exact Or.inr rfl) (pe_op op_cat (pv 1) (pe_lst (pa_cons (pe_callB (k_isX K T.wx.ex Z (List.mem_singleton.mpr rfl)) (by rfl) T.z_isinstance (by decide +kernel) (pa_cons (pv 0) (pa_cons (pe_glob (v := .ref (He.ga K "NameTaken")) (by rfl) T.g_NameTaken rfl) pa_nil))) (pa_cons (pe_callB (k_isX K T.wx.ex Z (List.mem_singleton.mpr rfl)) (by rfl) T.z_isinstance (by decide +kernel) (pa_cons (pv 0) (pa_cons (pe_glob (v := .ref (He.ga K "NothingToUndo")) (by rfl) T.g_NothingToUndo rfl) pa_nil))) (pa_cons (pe_callB (k_isX K T.wx.ex Z (List.mem_singleton.mpr rfl)) (by rfl) T.z_isinstance (by decide +kernel) (pa_cons (pv 0) (pa_cons (pe_glob (v := .ref (He.ga K "BookFull")) (by rfl) T.g_BookFull rfl) pa_nil))) pa_nil))))))
      (pss_cons (ps_if (PW.pt (pw_or (pt_cmpR op_ne (pe_bm PySem.F.plainAttrs_list PySem.F.slot_list_count PySem.F.type_list_count (k_cntB K) (pv 1) (pa_cons pe_bl pa_nil)) pe_int (nomark _)) (pw_or (pt_not (pt_val (pe_callB (k_isX K T.wx.ex Z (List.mem_singleton.mpr rfl)) (by rfl) T.z_isinstance (by decide +kernel) (pa_cons (pv 0) (pa_cons (pe_bltn (v := .ty "ValueError") (by rfl) T.z_ValueError (by decide +kernel) rfl) pa_nil))))) (pw_or1 (pt_cmpR op_gt (pe_bm PySem.F.plainAttrs_list PySem.F.slot_list_index PySem.F.type_list_index (k_index K) (pv 1) (pa_cons pe_bl pa_nil)) pe_int (nomark _)))))) (pss_one (ps_ret (pe_tup (pa_cons pe_str (pa_cons pe_non pa_nil))))) pss_nil)
      (pss_one (ps_ret (pe_tup (pa_cons (pe_ix (k_ixL K) (pe_lst (pa_cons pe_str (pa_cons pe_str (pa_cons pe_str pa_nil)))) (pe_bm PySem.F.plainAttrs_list PySem.F.slot_list_index PySem.F.type_list_index (k_index K) (pv 1) (pa_cons pe_bl pa_nil)) (fun _ _ => rfl)) (pa_cons (pe_xg (X := L2H.cxH CX0 P w K mg base N_lfault_of "_law_fault_of" (defScope s_lfault_of) (T_lfault_of K) cdv A outer s H E0 p) T.wx.ex T.wk.na Z (List.mem_singleton.mpr rfl) (pv 0)) pa_nil)))))))))), ?_⟩
    rw [st_lfault_of]
    walk_at "rd"
    have X := T.wx
    refine isx hd X.k_WrongKind (isx hd X.k_WrongSize (isx hd X.k_OutOfRange ⟨sz_of (by simp), fun p1 hp1 => ?_⟩))
    have e1 : Ex H (upd H p1 (.lst [.bl true, .bl false, .bl false])) := Ex.new hp1
    have f1 : upd H p1 (.lst [.bl true, .bl false, .bl false]) p1 = some (.lst [.bl true, .bl false, .bl false]) := upd_same
    generalize upd H p1 (.lst [.bl true, .bl false, .bl false]) = H1 at e1 f1 ⊢
    have d1 := e1 _ _ hd
    refine isx d1 X.k_BadText (isx d1 X.k_NotATable (isx d1 X.k_Spent ⟨sz_of (by simp), fun p2 hp2 => ?_⟩))
    have e2 := Ex.new hp2 (o := .lst [.bl false, .bl false, .bl false])
    refine cat_go (e2 _ _ f1) upd_same (by simp) fun p3 H3 hp3 e3 f3 => ?_
    have d3 := e3 _ _ (e2 _ _ d1)
    refine isx d3 X.k_TooFewPlaces (isx d3 X.k_WrongPaper (isx d3 X.k_UnknownName ⟨sz_of (by simp), fun p4 hp4 => ?_⟩))
    have e4 := Ex.new hp4 (o := .lst [.bl false, .bl false, .bl false])
    refine cat_go (e4 _ _ f3) upd_same (by simp) fun p5 H5 hp5 e5 f5 => ?_
    have d5 := e5 _ _ (e4 _ _ d3)
    refine isx d5 X.k_NameTaken (isx d5 X.k_NothingToUndo (isx d5 X.k_BookFull ⟨sz_of (by simp), fun p6 hp6 => ?_⟩))
    have e6 := Ex.new hp6 (o := .lst [.bl false, .bl false, .bl false])
    refine cat_go (e6 _ _ f5) upd_same (by simp) fun p7 H7 hp7 e7 f7 => ?_
    have d7 := e7 _ _ (e6 _ _ d5)
    have E7 : Ex H H7 := (((e1.trans e2).trans (e3.trans e4)).trans (e5.trans e6)).trans e7
    have ix : ∀ (QQ : VK) (H8 : Hp), Ex H7 H8 → QQ (.int 0) H8 → rIndex K (.ref p7) [.bl true] H8 QQ := fun QQ H8 e8 hq => ⟨p7, _, _, 0, .bl true, rfl, rfl, sq_of (e8 _ _ f7), rfl, rfl, rfl, rfl, fun m z' hm => absurd hm (Nat.not_lt_zero m), hq⟩
    refine ⟨ty_list f7, p7, rfl, true, rfl, [true, false, false, false, false, false, false, false, false, false, false, false], sq_of f7, rfl, ?_⟩
    rw [if_neg (by decide)]
    refine isxT d7 X.k_ValueError ⟨true, rfl, ?_⟩
    rw [if_neg (by decide)]
    refine ⟨ty_list f7, ix _ _ (Ex.refl _) ⟨0, rfl, ?_⟩⟩
    rw [if_neg (by decide)]
    refine ⟨sz_of (by simp), fun p8 hp8 => ?_⟩
    have e8 := Ex.new hp8 (o := .lst [.str "WrongKind", .str "WrongSize", .str "OutOfRange"])
    refine ⟨ty_list (e8 _ _ f7), ix _ _ e8 ⟨0, rfl, _, .str "WrongKind", sq_of upd_same, rfl, _, rfl, rfl, _, .str "table", e8 _ _ d7, rfl, sz_of (by simp), fun p9 hp9 => ?_⟩⟩
    exact q.now (E7.trans e8) hp9
abbrev s_lcalled : Stmt := top 76
abbrev N_lcalled : List Str := ["_law_which", "_law_given", "_law_caught"]
theorem sc_lcalled : FnScope N_lcalled ["_law_which", "_law_given"] (defScope s_lcalled) := ⟨rfl, rfl, rfl, by decide +kernel, rfl, by decide +kernel, by decide +kernel⟩
theorem st_lcalled {x0 x1 : V} : start N_lcalled [x0, x1] = [some x0, some x1, none] := rfl

theorem b_lcalled (T : Fx K mg) : L2.Binds K (fdOf K (T_lcalled K)) ["_law_which", "_law_given"] [] := T.d_lcalled.F.binds (ps := ["_law_which", "_law_given"]) fun _ _ _ _ _ _ us hl => match us, hl with | [_, _], _ => rfl
/-- a refused call: ('refused', ('WrongKind', 'table')) -/
def RetRef (H : Hp) (Q : VK) : Prop := ∀ (p r : Addr) (H2 : Hp), Ex H H2 → H2 p = some (.tup [.str "refused", .ref r]) → H2 r = some (.tup [.str "WrongKind", .str "table"]) → Q (.ref p) H2
def sp_called (K : PySem.W.Frag) : Sp := fun vs H Q _ => ∃ (k : Nat) (v : V), vs = [.int (k : Int), v] ∧ NoTab K H v ∧ RetRef H Q
theorem ok_lcalled (T : Fx K mg) : FnOk P w K mg base CX0 9 (T_lcalled K) (fdOf K (T_lcalled K)) ["_law_which", "_law_given"] (sp_called K) := by
  refine T.d_lcalled.F.ok sc_lcalled (fun vs H Q E h => ?_) (fun cdv A outer s H vs Q E hr h => ?_)
  · obtain ⟨k, v, rfl, _⟩ := h
    rfl
  · obtain ⟨k, v, rfl, h1, q⟩ := h
    refine ⟨_, (pss_one (ps_try_as (i := 2) (n := "_law_caught") (c := .ref (He.ga K "ShadeError")) (Wout := fun _ _ _ _ => False) rfl rfl sc_lcalled.nd rfl rfl ⟨by rfl, by decide, .inl T.g_ShadeError⟩ (fun _ _ x => by obtain ⟨_, _, _, _, _, _, _, _, _, _, _, _, _, _, _, _, z⟩ := x; exact z.elim) (fun W pn xe tk _ => pss_one (ps_ret (pe_tup (pa_cons pe_str (pa_cons (pe_callS (ok_lask T) (hr.mono (by decide)) (by rfl) T.d_lask.gl T.d_lask.F.kp (b_lask T) (passAt tk) (pa_cons (pv 0) (pa_cons (pv 1) pa_nil))) pa_nil))))) (fun a oe cls d pn hz hf => pss_one (ps_ret (pe_tup (pa_cons pe_str (pa_cons (pe_callE (ok_lfault T) (hr.mono (by decide)) (by rfl) T.d_lfault_of.gl T.d_lfault_of.F.kp (b_lfault_of T) hz hf (pa_cons (pv 2) pa_nil)) pa_nil))))))), ?_⟩
    rw [st_lcalled]
    walk_at "rd"
    refine ⟨_, rfl, _, rfl, k, v, rfl, h1, fun d H1 hd e1 hx => ⟨true, T.wx.exm, fun _ a ha => ?_, fun h => nomatch h⟩⟩
    walk_at "rd"
    refine ⟨_, rfl, rfl, d, rfl, rfl, hx, fun p H2 hp e2 h2 => ⟨sz_of (by simp), fun p' hp' => ?_⟩⟩
    exact q p' p _ ((e1.trans e2).trans (Ex.new hp')) upd_same (Ex.new hp' _ _ h2)
end
end Bs
/-! Walk 12: _law_holds. -/
namespace Bs
open PySem PySem.Spec PyProof.Rows L2 Evl
local macro_rules | `(tactic| walk_at "rd") => `(tactic| try simp only [rd_var, rd_c, rd_op, rd_un, rd_I, rd_I0, rd_U, rd_NN, rd_shr, rd_shl1, rd_XB, rd_eq, rd_ne, scal_int, rd_B, rd_test, rd_and, rd_or, rd_not, rd_andV, rd_orV, rd_notV, rd_if, rd_nil, rd_cons, rd_tup, rd_lst, rd_call, rd_CB, rd_prop, rd_meth, rd_fld, rd_make, rd_sl, rd_noPart, rd_part, rd_bm0, rd_bm, rd_bits, rd_ixL, rd_ixT, rd_append, rd_addN, rd_dbl, rd_half, rd_int, rd_intB, rd_bit1, rd_popAt, rd_slL, rd_sortedI, rd_lstRg, rd_rg1, tru_int, rd_len, rd_listS, rd_tupS, rd_sum, rd_min, rd_iEnum, rd_yes, rd_asg, rd_name, rd_gnil, rd_gcons1, rd_two, rd_gtup, rd_gsub, rd_setL, rd_seq, rd_next, rd_break, rd_never, rd_drop, rd_ret, rd_retN, rd_ifS, rd_par, rd_aug, rd_sFld, rd_for, rd_iList, rd_iTup, rd_iRng1, rd_lc, vint, vbl, vref, natc, cx_K, cx_noxK, List.getElem?_cons_zero, List.getElem?_cons_succ, Option.some.injEq, exists_eq_left, exists_eq_left', exists_eq_right, exists_eq_right', true_and, and_true, List.cons.injEq, List.cons_append, List.nil_append, List.append_nil, List.set_cons_zero, List.set_cons_succ, Bool.not_true, Bool.not_false, decide_eq_true_eq, if_true, if_false, Bool.false_eq_true, reduceIte, and_self, Int.zero_add, exists_eq, exists_eq', wipe, List.map_cons, List.map_nil])
section
variable {P : Program} [IsP P] {w : World} {K : PySem.W.Frag} {mg : Str → Option Value} {base : Heap} {X : Cx}
theorem same_tup {k : Nat} {a b : Addr} {xs : List Int} {H : Hp} (ha : H a = some (.tup (xs.map V.int))) (hb : H b = some (.tup (xs.map V.int))) (hn : xs.length ≤ 1000) : Sam (k + 1) (.ref a) (.ref b) H :=
  .inr ⟨a, b, _, _, rfl, rfl, .inr ⟨ha, hb⟩, rfl, by rw [List.length_map]; exact hn, fun i x y hx hy => Sam.of0 (ints_same i x y hx hy)⟩
theorem unV_same (n : Nat) (bs : List Int) : Sam0 (unV n bs) (unV n bs) := by
  unfold unV
  split
  · exact .inr (.inl ⟨_, rfl, rfl⟩)
  · exact .inl ⟨rfl, rfl⟩
theorem same_refs {n : Nat} {bs : List Int} {a b : Addr} {ps qs : List Addr} {H : Hp} (ha : H a = some (.lst (ps.map V.ref))) (hb : H b = some (.lst (qs.map V.ref))) (hp : ps.length = 2 ^ n) (hq : qs.length = 2 ^ n) (hn : 2 ^ n ≤ 64)
    (h1 : ∀ (i : Nat) (c : Addr), ps[i]? = some c → H c = some (shO n bs i)) (h2 : ∀ (i : Nat) (c : Addr), qs[i]? = some c → H c = some (shO n bs i)) : Sam 2 (.ref a) (.ref b) H := by
  refine .inr ⟨a, b, _, _, rfl, rfl, .inl ⟨ha, hb⟩, by rw [List.length_map, List.length_map, hp, hq], by rw [List.length_map]; omega, fun i x y hx hy => ?_⟩
  rw [List.getElem?_map] at hx hy
  cases e1 : ps[i]? with
  | none =>
    rw [e1] at hx
    cases hx
  | some c =>
    cases e2 : qs[i]? with
    | none =>
      rw [e2] at hy
      cases hy
    | some d =>
      rw [e1] at hx
      rw [e2] at hy
      have ex : x = .ref c := (Option.some.inj hx).symm
      have ey : y = .ref d := (Option.some.inj hy).symm
      subst ex ey
      exact same_tup (xs := [_, _]) (h1 i c e1) (h2 i d e2) (by simp)
abbrev s_lholds : Stmt := top 82
abbrev N_lholds : List Str := ["_law_wide_here", "_law_mine", "_law_table", "_law_dues_here", "_law_told"]
theorem sc_lholds : FnScope N_lholds ["_law_wide_here", "_law_mine", "_law_table", "_law_dues_here"] (defScope s_lholds) := ⟨rfl, rfl, rfl, by decide +kernel, rfl, by decide +kernel, by decide +kernel⟩
theorem st_lholds {x0 x1 x2 x3 : V} : start N_lholds [x0, x1, x2, x3] = [some x0, some x1, some x2, some x3, none] := rfl

theorem b_lholds (T : Fx K mg) : L2.Binds K (fdOf K (T_lholds K)) ["_law_wide_here", "_law_mine", "_law_table", "_law_dues_here"] [] := T.d_lholds.F.binds (ps := ["_law_wide_here", "_law_mine", "_law_table", "_law_dues_here"]) fun _ _ _ _ _ _ us hl => match us, hl with | [_, _, _, _], _ => rfl
def sp_holds (K : PySem.W.Frag) : Sp := fun vs H Q _ => ∃ (l a d : Addr) (n : Nat) (bs : List Int) (H0 : Hp), vs = [.int (n : Int), .ref l, .ref a, .ref d] ∧ H l = some (.lst (bs.map V.int)) ∧ IsTab K H a n bs ∧ Dues H0 n bs H d ∧ ∀ H2, Ex H H2 → Q (.bl true) H2
theorem ok_lholds (T : Fx K mg) : FnOk P w K mg base CX0 9 (T_lholds K) (fdOf K (T_lholds K)) ["_law_wide_here", "_law_mine", "_law_table", "_law_dues_here"] (sp_holds K) := by
  refine T.d_lholds.F.ok sc_lholds (fun vs H Q E h => ?_) (fun cdv A outer s H vs Q E hr h => ?_)
  · obtain ⟨l, a, d, n, bs, H0, rfl, _⟩ := h
    rfl
  · obtain ⟨l, a, d, n, bs, H0, rfl, hl, ht, hd, q⟩ := h
    refine ⟨_, (pss_cons (ps_set (i := 4) sc_lholds.nd rfl (by first | exact Or.inl rfl | exact Or.inr rfl) (pe_lst (pa_cons (pe_call (ok_breaking_share T) (hr.mono (by decide)) (by rfl) T.d_breaking_share.gl T.d_breaking_share.F.kp (b_breaking_share T) .nil passL (pa_cons (pv 2) pa_nil)) (pa_cons (pe_call (ok_shades T) (hr.mono (by decide)) (by rfl) T.d_shades.gl T.d_shades.F.kp (b_shades T) .nil passL (pa_cons (pv 2) pa_nil)) (pa_cons (pe_call (ok_sum_distance T) (hr.mono (by decide)) (by rfl) T.d_sum_distance.gl T.d_sum_distance.F.kp (b_sum_distance T) .nil passL (pa_cons (pv 2) pa_nil)) (pa_cons (pe_call (ok_unique_nearest T) (hr.mono (by decide)) (by rfl) T.d_unique_nearest.gl T.d_unique_nearest.F.kp (b_unique_nearest T) .nil passL (pa_cons (pv 2) pa_nil)) pa_nil))))))
      (pss_cons (ps_if (PW.pt (pw_or (pt_not (pt_val (pe_call ((fun T => ok_lsame T 3) T) (hr.mono (by decide)) (by rfl) T.d_lsame.gl T.d_lsame.F.kp (b_lsame T) .nil pass0 (pa_cons (pv 4) (pa_cons (pe_slice (k_slL K) (pv 3) po_none (po_some pe_int)) pa_nil))))) (pw_or1 (pt_not (pt_val (pe_call (ok_lcubes T) (hr.mono (by decide)) (by rfl) T.d_lcubes.gl T.d_lcubes.F.kp (b_lcubes T) .nil pass0 (pa_cons (pv 0) (pa_cons (pv 4) pa_nil)))))))) (pss_one (ps_ret pe_bl)) pss_nil)
      (pss_cons (ps_expr (pe_call (ok_lspoil T) (hr.mono (by decide)) (by rfl) T.d_lspoil.gl T.d_lspoil.F.kp (b_lspoil T) .nil pass0 (pa_cons (pe_ix (k_ixL K) (pv 4) pe_int (fun _ _ => rfl)) pa_nil)))
      (pss_one (ps_ret (pe_and (pe_call (ok_lis_table T) (hr.mono (by decide)) (by rfl) T.d_lis_table.gl T.d_lis_table.F.kp (b_lis_table T) .nil pass0 (pa_cons (pe_call (ok_mended T) (hr.mono (by decide)) (by rfl) T.d_mended.gl T.d_mended.F.kp (b_mended T) .nil passL (pa_cons (pv 2) pa_nil)) (pa_cons (pv 0) (pa_cons (pe_ix (k_ixL K) (pv 3) pe_int (fun _ _ => rfl)) pa_nil)))) (pe_one (pe_call (ok_lis_table T) (hr.mono (by decide)) (by rfl) T.d_lis_table.gl T.d_lis_table.F.kp (b_lis_table T) .nil pass0 (pa_cons (pv 2) (pa_cons (pv 0) (pa_cons (pv 1) pa_nil))))))))))), ?_⟩
    rw [st_lholds]
    walk_at "rd"
    obtain ⟨dx, t0, ht1, ht2, hb⟩ := id ht
    obtain ⟨p0, p1, p2, p4, ps, _, hd0, hd1, hd2, hd3, hd4, hd5, hd6⟩ := hd.ex
    refine ⟨_, rfl, .inl ⟨a, n, bs, rfl, ht, fun q0 H1 hq0 e1 g1 => ?_⟩⟩
    refine ⟨_, rfl, .inl ⟨a, n, bs, rfl, ht.ex e1, fun q1 qs H2 hq1 e2 g2 g3 g4 _ => ?_⟩⟩
    refine ⟨_, rfl, .inl ⟨a, n, bs, rfl, (ht.ex e1).ex e2, fun q2 H3 hq2 e3 g5 => ?_⟩⟩
    refine ⟨_, rfl, .inl ⟨a, n, bs, rfl, ((ht.ex e1).ex e2).ex e3, fun H4 e4 => ⟨sz_of (by simp), fun r hr => ?_⟩⟩⟩
    have E4 : Ex H H4 := ((e1.trans e2).trans e3).trans e4
    have e5 := Ex.new hr (o := .lst [.ref q0, .ref q1, .ref q2, unV n bs])
    have k5 : upd H4 r (.lst [.ref q0, .ref q1, .ref q2, unV n bs]) r = some (.lst [.ref q0, .ref q1, .ref q2, unV n bs]) := upd_same
    generalize upd H4 r (.lst [.ref q0, .ref q1, .ref q2, unV n bs]) = H5 at e5 k5 ⊢
    have E5 := E4.trans e5
    refine ⟨_, sq_of (E5 _ _ hd0), fun r2 hr2 => ?_⟩
    have hcut : cutV [V.ref p0, .ref p1, .ref p2, unV n bs, .ref p4] none (some 4) = [V.ref p0, .ref p1, .ref p2, unV n bs] := rfl
    rw [hcut]
    have e6 := Ex.new hr2 (o := .lst [V.ref p0, .ref p1, .ref p2, unV n bs])
    have k6 : upd H5 r2 (.lst [V.ref p0, .ref p1, .ref p2, unV n bs]) r2 = some (.lst [V.ref p0, .ref p1, .ref p2, unV n bs]) := upd_same
    generalize upd H5 r2 (.lst [V.ref p0, .ref p1, .ref p2, unV n bs]) = H6 at e6 k6 ⊢
    have E6 := E5.trans e6
    have u1 := e6 _ _ (e5 _ _ (e4 _ _ (e3 _ _ (e2 _ _ g1))))
    have u2 := e6 _ _ (e5 _ _ (e4 _ _ (e3 _ _ g2)))
    have u4 : ∀ (i : Nat) (c : Addr), qs[i]? = some c → H6 c = some (shO n bs i) := fun i c hi => e6 _ _ (e5 _ _ (e4 _ _ (e3 _ _ (g4 i c hi))))
    have u5 := e6 _ _ (e5 _ _ (e4 _ _ g5))
    have k5' := e6 _ _ k5
    have w4 : ∀ (i : Nat) (c : Addr), ps[i]? = some c → H6 c = some (shO n bs i) := fun i c hi => E6 _ _ (hd4 i c hi)
    refine ⟨_, _, rfl, .inr ⟨r, r2, _, _, rfl, rfl, .inl ⟨k5', k6⟩, rfl, by simp, fun i x y hx hy => ?_⟩, ?_⟩
    · match i, hx, hy with
      | 0, hx, hy =>
        cases hx
        cases hy
        exact same_tup (k := 1) (xs := [_, _]) u1 (E6 _ _ hd1) (by simp)
      | 1, hx, hy =>
        cases hx
        cases hy
        exact same_refs u2 (E6 _ _ hd2) g3 hd3 hb.small u4 w4
      | 2, hx, hy =>
        cases hx
        cases hy
        exact same_tup (k := 1) (xs := [_, _]) u5 (E6 _ _ hd5) (by simp)
      | 3, hx, hy =>
        have hx' : some (unV n bs) = some x := hx
        have hy' : some (unV n bs) = some y := hy
        cases hx'
        cases hy'
        exact Sam.of0 (unV_same n bs)
      | i + 4, hx, hy => simp at hx
    walk_at "rd"
    refine ⟨r, n, bs, rfl, ⟨q0, q1, q2, qs, k5', u1, u2, g3, u4, u5⟩, hb, ?_⟩
    walk_at "rd"
    have hsm := hb.small
    refine ⟨_, .ref q1, sq_of k5', rfl, q1, qs.map V.ref, rfl, u2, by rw [List.length_map, g3]; omega, fun x hx => ?_, fun H7 e7 => ?_⟩
    · obtain ⟨c, hc, rfl⟩ := List.mem_map.mp hx
      obtain ⟨i, hi⟩ := List.mem_iff_getElem?.mp hc
      refine .inr ⟨c, _, rfl, u4 i c hi, by simp, fun y hy => ?_⟩
      rcases List.mem_cons.mp hy with rfl | hy
      · exact ⟨_, rfl⟩
      · rw [List.mem_singleton.mp hy]
        exact ⟨_, rfl⟩
    · have nq1 : H q1 = none := fresh_back e1 hq1
      have E7 : Ex H H7 := fun b o hbo => e7 b o (ne_of_none hbo nq1) (E6 _ _ hbo)
      refine ⟨_, rfl, .inl ⟨a, n, bs, rfl, ht.ex E7, fun m H8 hm e8 hm8 => ?_⟩⟩
      have E8 := E7.trans e8
      refine ⟨_, .ref p4, sq_of (E8 _ _ hd0), rfl, m, p4, n, mdL n bs, rfl, hm8, E8 _ _ hd6, fun H9 e9 => ⟨true, rfl, ?_⟩⟩
      rw [if_pos rfl]
      exact ⟨a, l, n, bs, rfl, ht.ex (E8.trans e9), (E8.trans e9) _ _ hl, fun H10 e10 => q _ ((E8.trans e9).trans e10)⟩
end
end Bs
/-! Walk 13: law. -/
namespace Bs
open PySem PySem.Spec PyProof.Rows L2 Evl
local macro_rules | `(tactic| walk_at "rd") => `(tactic| try simp only [rd_var, rd_c, rd_op, rd_un, rd_I, rd_I0, rd_U, rd_NN, rd_shr, rd_shl1, rd_XB, rd_eq, rd_ne, scal_int, rd_B, rd_test, rd_and, rd_or, rd_not, rd_andV, rd_orV, rd_notV, rd_if, rd_nil, rd_cons, rd_tup, rd_lst, rd_call, rd_CB, rd_prop, rd_meth, rd_fld, rd_make, rd_sl, rd_noPart, rd_part, rd_bm0, rd_bm, rd_bits, rd_ixL, rd_ixT, rd_append, rd_addN, rd_dbl, rd_half, rd_int, rd_intB, rd_bit1, rd_popAt, rd_slL, rd_sortedI, rd_lstRg, rd_rg1, tru_int, rd_len, rd_listS, rd_tupS, rd_sum, rd_min, rd_iEnum, rd_yes, rd_asg, rd_name, rd_gnil, rd_gcons1, rd_two, rd_gtup, rd_gsub, rd_setL, rd_seq, rd_next, rd_break, rd_never, rd_drop, rd_ret, rd_retN, rd_ifS, rd_par, rd_aug, rd_sFld, rd_for, rd_iList, rd_iTup, rd_iRng1, rd_lc, vint, vbl, vref, natc, cx_K, cx_noxK, List.getElem?_cons_zero, List.getElem?_cons_succ, Option.some.injEq, exists_eq_left, exists_eq_left', exists_eq_right, exists_eq_right', true_and, and_true, List.cons.injEq, List.cons_append, List.nil_append, List.append_nil, List.set_cons_zero, List.set_cons_succ, Bool.not_true, Bool.not_false, decide_eq_true_eq, if_true, if_false, Bool.false_eq_true, reduceIte, and_self, Int.zero_add, exists_eq, exists_eq', wipe, List.map_cons, List.map_nil])
section
variable {P : Program} [IsP P] {w : World} {K : PySem.W.Frag} {mg : Str → Option Value} {base : Heap} {X : Cx}
/-! ### the law's lists -/
structure Row where
  n : Nat
  bs : List Int
  r : Addr
  t : Addr
  d : Addr
structure RowOk (K : PySem.W.Frag) (M : List Addr) (H : Hp) (x : Row) : Prop where
  rM : x.r ∉ M
  row : H x.r = some (.lst (x.bs.map V.int))
  tab : IsTab K H x.t x.n x.bs
  dues : ∃ H0, Dues H0 x.n x.bs H x.d ∧ ∀ a ∈ M, H0 a ≠ none
/-- all is kept but the lists of M -/
def KeepM (M : List Addr) (H H' : Hp) : Prop := ∀ (a : Addr) (o : HO), (a ∈ M → ∀ xs, o ≠ .lst xs) → H a = some o → H' a = some o
theorem KeepM.trans {M : List Addr} {H H1 H2 : Hp} (a : KeepM M H H1) (b : KeepM M H1 H2) : KeepM M H H2 := fun x o n h => b x o n (a x o n h)
theorem KeepM.of {M : List Addr} {H H' : Hp} (e : Ex H H') : KeepM M H H' := fun x o _ h => e x o h
theorem KeepM.exb {M : List Addr} {H H' : Hp} {st : Addr} {xs : List V} (hm : st ∈ M) (hs : H st = some (.lst xs)) (e : ExB st H H') : KeepM M H H' := fun x o n h => e x o (fun z => by
  rw [z, hs] at h
  exact n (z ▸ hm) xs (Option.some.inj h).symm) h
theorem KeepM.set {M : List Addr} {H : Hp} {m : Addr} {xs : List V} {o : HO} (hm : m ∈ M) (hs : H m = some (.lst xs)) : KeepM M H (upd H m o) := fun x u n h => by
  have hx : x ≠ m := fun z => by
    rw [z, hs] at h
    exact n (z ▸ hm) xs (Option.some.inj h).symm
  rw [upd_ne hx]
  exact h
theorem RowOk.keep {K : PySem.W.Frag} {M : List Addr} {H H' : Hp} {x : Row} (R : RowOk K M H x) (k : KeepM M H H') : RowOk K M H' x := by
  obtain ⟨dx, t, h1, h2, h3⟩ := R.tab
  obtain ⟨H0, ⟨p0, p1, p2, p4, ps, ⟨n1, n2, n3⟩, g0, g1, g2, g3, g4, g5, g6⟩, hM⟩ := R.dues
  have out : ∀ {a : Addr}, H0 a = none → a ∉ M := fun {a} h z => hM a z h
  refine ⟨R.rM, k _ _ (fun z => absurd z R.rM) R.row, ⟨dx, t, k _ _ (fun _ _ z => by cases z) h1, k _ _ (fun _ _ z => by cases z) h2, h3⟩, H0, ⟨p0, p1, p2, p4, ps, ⟨n1, n2, n3⟩, k _ _ (fun z => absurd z (out n1)) g0, k _ _ (fun _ _ z => by cases z) g1,
    k _ _ (fun z => absurd z (out n2)) g2, g3, fun i a hi => k _ _ (fun _ _ z => by unfold shO at z; cases z) (g4 i a hi), k _ _ (fun _ _ z => by cases z) g5, k _ _ (fun z => absurd z (out n3)) g6⟩, hM⟩
/-- six objects apart -/
structure Fr5 (st l wl tl rl dl : Addr) : Prop where
  ws : wl ≠ st ∧ wl ≠ l
  ts : tl ≠ st ∧ tl ≠ l
  rs : rl ≠ st ∧ rl ≠ l
  ds : dl ≠ st ∧ dl ≠ l
  tw : tl ≠ wl
  rw_ : rl ≠ wl
  dw : dl ≠ wl
  rt : rl ≠ tl
  dt : dl ≠ tl
  dr : dl ≠ rl
structure S5 (st l wl tl rl dl : Addr) (H : Hp) (c : Nat) (W T R D : List V) : Prop where
  s : SOk H st l c
  w : H wl = some (.lst W)
  t : H tl = some (.lst T)
  r : H rl = some (.lst R)
  d : H dl = some (.lst D)
abbrev M5 (st wl tl rl dl : Addr) : List Addr := [st, wl, tl, rl, dl]
section
variable {st l wl tl rl dl : Addr} {H H' : Hp} {c c' : Nat} {W T R D xs : List V}
theorem SOk.lst {H : Hp} {st l : Addr} {c : Nat} (h : SOk H st l c) : ∃ xs, H st = some (.lst xs) := by
  obtain ⟨ns, k, cur, mix, cnt, a1, _⟩ := h
  exact ⟨_, a1⟩
theorem S5.ex (S : S5 st l wl tl rl dl H c W T R D) (e : Ex H H') : S5 st l wl tl rl dl H' c W T R D := ⟨S.s.ex e, e _ _ S.w, e _ _ S.t, e _ _ S.r, e _ _ S.d⟩
theorem S5.exb (S : S5 st l wl tl rl dl H c W T R D) (F : Fr5 st l wl tl rl dl) (e : ExB st H H') (s : SOk H' st l c') : S5 st l wl tl rl dl H' c' W T R D :=
  ⟨s, e _ _ F.ws.1 S.w, e _ _ F.ts.1 S.t, e _ _ F.rs.1 S.r, e _ _ F.ds.1 S.d⟩
theorem S5.setW (S : S5 st l wl tl rl dl H c W T R D) (F : Fr5 st l wl tl rl dl) : S5 st l wl tl rl dl (upd H wl (.lst xs)) c xs T R D :=
  ⟨S.s.upd F.ws.1 F.ws.2, upd_same, by rw [upd_ne F.tw]; exact S.t, by rw [upd_ne F.rw_]; exact S.r, by rw [upd_ne F.dw]; exact S.d⟩
theorem S5.setT (S : S5 st l wl tl rl dl H c W T R D) (F : Fr5 st l wl tl rl dl) : S5 st l wl tl rl dl (upd H tl (.lst xs)) c W xs R D :=
  ⟨S.s.upd F.ts.1 F.ts.2, by rw [upd_ne F.tw.symm]; exact S.w, upd_same, by rw [upd_ne F.rt]; exact S.r, by rw [upd_ne F.dt]; exact S.d⟩
theorem S5.setR (S : S5 st l wl tl rl dl H c W T R D) (F : Fr5 st l wl tl rl dl) : S5 st l wl tl rl dl (upd H rl (.lst xs)) c W T xs D :=
  ⟨S.s.upd F.rs.1 F.rs.2, by rw [upd_ne F.rw_.symm]; exact S.w, by rw [upd_ne F.rt.symm]; exact S.t, upd_same, by rw [upd_ne F.dr]; exact S.d⟩
theorem S5.setD (S : S5 st l wl tl rl dl H c W T R D) (F : Fr5 st l wl tl rl dl) : S5 st l wl tl rl dl (upd H dl (.lst xs)) c W T R xs :=
  ⟨S.s.upd F.ds.1 F.ds.2, by rw [upd_ne F.dw.symm]; exact S.w, by rw [upd_ne F.dt.symm]; exact S.t, by rw [upd_ne F.dr.symm]; exact S.r, upd_same⟩
theorem S5.some (S : S5 st l wl tl rl dl H c W T R D) : ∀ a ∈ M5 st wl tl rl dl, H a ≠ none := fun a ha z => by
  obtain ⟨xs, hx⟩ := S.s.lst
  simp only [M5, List.mem_cons, List.not_mem_nil, or_false] at ha
  rcases ha with rfl | rfl | rfl | rfl | rfl
  · rw [hx] at z
    cases z
  · rw [S.w] at z
    cases z
  · rw [S.t] at z
    cases z
  · rw [S.r] at z
    cases z
  · rw [S.d] at z
    cases z
theorem S5.out (S : S5 st l wl tl rl dl H c W T R D) {a : Addr} (h : H a = none) : a ∉ M5 st wl tl rl dl := fun z => S.some a z h
end
theorem at_last {W : List V} {v : V} {i : Nat} (h : W.length = i) : atI (W ++ [v]) (i : Int) = some v := by
  refine atI_nat ?_
  rw [List.getElem?_append_right (by omega), h, Nat.sub_self]
  rfl
theorem w16 {r : Int} (h0 : 0 ≤ r) (h1 : r < 16) : ∃ n : Nat, n ≤ 6 ∧ atI [V.int 0, V.int 1, V.int 1, V.int 2, V.int 2, V.int 2, V.int 3, V.int 3, V.int 3, V.int 3, V.int 3, V.int 4, V.int 4, V.int 4, V.int 5, V.int 6] r = some (.int (n : Int)) := by
  obtain ⟨k, rfl⟩ := Int.eq_ofNat_of_zero_le h0
  match k, h1 with
  | 0, _ => exact ⟨0, by decide, rfl⟩
  | 1, _ => exact ⟨1, by decide, rfl⟩
  | 2, _ => exact ⟨1, by decide, rfl⟩
  | 3, _ => exact ⟨2, by decide, rfl⟩
  | 4, _ => exact ⟨2, by decide, rfl⟩
  | 5, _ => exact ⟨2, by decide, rfl⟩
  | 6, _ => exact ⟨3, by decide, rfl⟩
  | 7, _ => exact ⟨3, by decide, rfl⟩
  | 8, _ => exact ⟨3, by decide, rfl⟩
  | 9, _ => exact ⟨3, by decide, rfl⟩
  | 10, _ => exact ⟨3, by decide, rfl⟩
  | 11, _ => exact ⟨4, by decide, rfl⟩
  | 12, _ => exact ⟨4, by decide, rfl⟩
  | 13, _ => exact ⟨4, by decide, rfl⟩
  | 14, _ => exact ⟨5, by decide, rfl⟩
  | 15, _ => exact ⟨6, by decide, rfl⟩
  | k + 16, h => exact absurd h (by omega)
/-- the refused values -/
inductive Itm (H : Hp) : V → Prop where
  | non : Itm H .non
  | int (i : Int) : Itm H (.int i)
  | str (x : Str) : Itm H (.str x)
  | bl (b : Bool) : Itm H (.bl b)
  | lst {a : Addr} {xs : List V} (h : H a = some (.lst xs)) : Itm H (.ref a)
  | tup {a : Addr} {xs : List V} (h : H a = some (.tup xs)) : Itm H (.ref a)
theorem Itm.ex {H H' : Hp} {v : V} (e : Ex H H') (h : Itm H v) : Itm H' v := by
  cases h with
  | non => exact .non
  | int i => exact .int i
  | str x => exact .str x
  | bl b => exact .bl b
  | lst h => exact .lst (e _ _ h)
  | tup h => exact .tup (e _ _ h)
theorem Itm.notab {K : PySem.W.Frag} {mg : Str → Option Value} {H : Hp} {v : V} (T : Fx K mg) (h : Itm H v) : NoTab K H v := by
  cases h with
  | non => exact ⟨_, .base .non, T.tab.k_none⟩
  | int i => exact ⟨_, .base (.int i), T.tab.k_int⟩
  | str x => exact ⟨_, .base (.str x), T.tab.k_str⟩
  | bl b => exact ⟨_, .base (.bl b), T.tab.k_bool⟩
  | lst h => exact ⟨_, .base (.lst h), T.tab.k_list⟩
  | tup h => exact ⟨_, .base (.tup h), T.tab.k_tuple⟩
/-- Table(n, l), at the made object -/
theorem make_at {K : PySem.W.Frag} {H : Hp} {Q : VK} {E : XK} {l : Addr} {n : Nat} {bs : List Int} (hl : H l = some (.lst (bs.map V.int))) (hb : TBits n bs) {x dx : Addr} (hx : H x = none) (hd : H dx = none) (ne : dx ≠ x) (q : ∀ H2, Ex H H2 → IsTab K H2 x n bs → Q .non H2) :
    sp_tinit K [.ref x, .int (n : Int), .ref l] (upd (upd H dx (.own x)) x (.ins (TC K) dx [])) Q E := by
  refine ⟨x, l, dx, n, bs, rfl, upd_same, by rw [upd_ne (ne_of_none hl hx), upd_ne (ne_of_none hl hd)]; exact hl, hb, fun H2 t ht k h1 h2 => q H2 (fun b o e => k b o (ne_of_none e hx) ?_) ⟨dx, t, h1, h2, hb⟩⟩
  rw [upd_ne (ne_of_none e hx), upd_ne (ne_of_none e hd)]
  exact e
theorem fresh_upd {H : Hp} {p q : Addr} {o : HO} (h : upd H p o q = none) : q ≠ p ∧ H q = none := by
  have n : q ≠ p := fun z => by
    rw [z, upd_same] at h
    cases h
  rw [upd_ne n] at h
  exact ⟨n, h⟩
abbrev s_law : Stmt := top 84
abbrev N_law : List Str := ["_law_script", "_law_store_here", "_law_widths", "_law_tables", "_law_rows", "_law_dues_here", "_law_k", "_law_twin", "_law_item", "_law_which"]
theorem sc_law : FnScope N_law ["_law_script"] (defScope s_law) := ⟨rfl, rfl, rfl, by decide +kernel, rfl, by decide +kernel, by decide +kernel⟩
theorem st_law {x0 : V} : start N_law [x0] = [some x0, none, none, none, none, none, none, none, none, none] := rfl

theorem b_law (T : Fx K mg) : L2.Binds K (fdOf K (T_law K)) ["_law_script"] [] := T.d_law.F.binds (ps := ["_law_script"]) fun _ _ _ _ _ _ us hl => match us, hl with | [_], _ => rfl
def sp_law (K : PySem.W.Frag) : Sp := fun vs H Q _ => ∃ (a : Addr) (ns : List Int), vs = [.ref a] ∧ SqL K H a (ns.map V.int) ∧ ns.length ≤ 63 ∧ ∀ H2, Q (.bl true) H2
theorem ok_law (T : Fx K mg) : FnOk P w K mg base CX0 10 (T_law K) (fdOf K (T_law K)) ["_law_script"] (sp_law K) := by
  refine T.d_law.F.ok sc_law (fun vs H Q E h => ?_) (fun cdv A outer s H vs Q E hr h => ?_)
  · obtain ⟨a, ns, rfl, _⟩ := h
    rfl
  · obtain ⟨a, ns, rfl, ha, hn, q⟩ := h
    refine ⟨_, (pss_cons (ps_set (i := 1) sc_law.nd rfl (by first | exact Or.inl rfl | exact Or.inr rfl) (pe_call (ok_lstore T) (hr.mono (by decide)) (by rfl) T.d_lstore.gl T.d_lstore.F.kp (b_lstore T) .nil pass0 (pa_cons (pv 0) pa_nil)))
      (pss_cons (ps_set (i := 2) sc_law.nd rfl (by first | exact Or.inl rfl | exact Or.inr rfl) (pe_lst pa_nil))
      (pss_cons (ps_set (i := 3) sc_law.nd rfl (by first | exact Or.inl rfl | exact Or.inr rfl) (pe_lst pa_nil))
      (pss_cons (ps_set (i := 4) sc_law.nd rfl (by first | exact Or.inl rfl | exact Or.inr rfl) (pe_lst pa_nil))
      (pss_cons (ps_set (i := 5) sc_law.nd rfl (by first | exact Or.inl rfl | exact Or.inr rfl) (pe_lst pa_nil))
      (pss_cons (ps_for PassesOwn.never (by rfl) (pi_range1 (by rfl) T.z_range (pa_cons pe_int pa_nil)) (pg_name (i := 6) sc_law.nd rfl (by first | exact Or.inl rfl | exact Or.inr rfl)) (pss_cons (ps_expr (pe_bm PySem.F.plainAttrs_list PySem.F.slot_list_append PySem.F.type_list_append mt_append (pv 2) (pa_cons (pe_ix (k_ixL K) (pe_lst (pa_cons pe_int (pa_cons pe_int (pa_cons pe_int (pa_cons pe_int (pa_cons pe_int (pa_cons pe_int (pa_cons pe_int (pa_cons pe_int (pa_cons pe_int (pa_cons pe_int (pa_cons pe_int (pa_cons pe_int (pa_cons pe_int (pa_cons pe_int (pa_cons pe_int (pa_cons pe_int pa_nil))))))))))))))))) (pe_call (ok_ltake T) (hr.mono (by decide)) (by rfl) T.d_ltake.gl T.d_ltake.F.kp (b_ltake T) .nil pass0 (pa_cons (pv 1) (pa_cons pe_int pa_nil))) (fun _ _ => rfl)) pa_nil)))
      (pss_cons (ps_expr (pe_bm PySem.F.plainAttrs_list PySem.F.slot_list_append PySem.F.type_list_append mt_append (pv 4) (pa_cons (pe_call (ok_lone T) (hr.mono (by decide)) (by rfl) T.d_lone.gl T.d_lone.F.kp (b_lone T) .nil pass0 (pa_cons (pv 1) (pa_cons (pe_ix (k_ixL K) (pv 2) (pv 6) (fun _ _ => rfl)) pa_nil))) pa_nil)))
      (pss_cons (ps_expr (pe_bm PySem.F.plainAttrs_list PySem.F.slot_list_append PySem.F.type_list_append mt_append (pv 3) (pa_cons (pe_make T.tab.mkr (ok_tinit T) (hr.mono (by decide)) (by rfl) T.g_Table (b_tinit T) .nil pass0 (pa_cons (pe_ix (k_ixL K) (pv 2) (pv 6) (fun _ _ => rfl)) (pa_cons (pe_callTy (k_list K) (by rfl) T.z_list (by decide +kernel) (pa_cons (pe_ix (k_ixL K) (pv 4) (pv 6) (fun _ _ => rfl)) pa_nil)) pa_nil))) pa_nil)))
      (pss_one (ps_expr (pe_bm PySem.F.plainAttrs_list PySem.F.slot_list_append PySem.F.type_list_append mt_append (pv 5) (pa_cons (pe_call (ok_ldues T) (hr.mono (by decide)) (by rfl) T.d_ldues.gl T.d_ldues.F.kp (b_ldues T) .nil pass0 (pa_cons (pe_ix (k_ixL K) (pv 2) (pv 6) (fun _ _ => rfl)) (pa_cons (pe_ix (k_ixL K) (pv 4) (pv 6) (fun _ _ => rfl)) pa_nil))) pa_nil))))))))
      (pss_cons (ps_for PassesOwn.never (by rfl) (ki_list K (pe_lst (pa_cons pe_int (pa_cons pe_int (pa_cons pe_int pa_nil))))) (pg_name (i := 6) sc_law.nd rfl (by first | exact Or.inl rfl | exact Or.inr rfl)) (pss_one (ps_if (pt_not (pt_val (pe_call (ok_lholds T) (hr.mono (by decide)) (by rfl) T.d_lholds.gl T.d_lholds.F.kp (b_lholds T) .nil pass0 (pa_cons (pe_ix (k_ixL K) (pv 2) (pv 6) (fun _ _ => rfl)) (pa_cons (pe_ix (k_ixL K) (pv 4) (pv 6) (fun _ _ => rfl)) (pa_cons (pe_ix (k_ixL K) (pv 3) (pv 6) (fun _ _ => rfl)) (pa_cons (pe_ix (k_ixL K) (pv 5) (pv 6) (fun _ _ => rfl)) pa_nil))))))) (pss_one (ps_ret pe_bl)) pss_nil)))
      (pss_cons (ps_set (i := 7) sc_law.nd rfl (by first | exact Or.inl rfl | exact Or.inr rfl) (pe_make T.tab.mkr (ok_tinit T) (hr.mono (by decide)) (by rfl) T.g_Table (b_tinit T) .nil pass0 (pa_cons (pe_ix (k_ixL K) (pv 2) pe_int (fun _ _ => rfl)) (pa_cons (pe_callTy (k_list K) (by rfl) T.z_list (by decide +kernel) (pa_cons (pe_ix (k_ixL K) (pv 4) pe_int (fun _ _ => rfl)) pa_nil)) pa_nil))))
      (pss_cons (ps_if (pt_not (pt_val (pe_call ((fun T => ok_lsame T 3) T) (hr.mono (by decide)) (by rfl) T.d_lsame.gl T.d_lsame.F.kp (b_lsame T) .nil pass0 (pa_cons (pe_lst (pa_cons (pe_call (ok_breaking_share T) (hr.mono (by decide)) (by rfl) T.d_breaking_share.gl T.d_breaking_share.F.kp (b_breaking_share T) .nil passL (pa_cons (pv 7) pa_nil)) (pa_cons (pe_call (ok_unique_nearest T) (hr.mono (by decide)) (by rfl) T.d_unique_nearest.gl T.d_unique_nearest.F.kp (b_unique_nearest T) .nil passL (pa_cons (pv 7) pa_nil)) pa_nil))) (pa_cons (pe_lst (pa_cons (pe_ix (k_ixL K) (pe_ix (k_ixL K) (pv 5) pe_int (fun _ _ => rfl)) pe_int (fun _ _ => rfl)) (pa_cons (pe_ix (k_ixL K) (pe_ix (k_ixL K) (pv 5) pe_int (fun _ _ => rfl)) pe_int (fun _ _ => rfl)) pa_nil))) pa_nil))))) (pss_one (ps_ret pe_bl)) pss_nil)
      (pss_cons (ps_set (i := 8) sc_law.nd rfl (by first | exact Or.inl rfl | exact Or.inr rfl) (pe_ix (k_ixL K) (pe_lst (pa_cons pe_non (pa_cons pe_int (pa_cons pe_str (pa_cons (pe_lst (pa_cons pe_int (pa_cons pe_int pa_nil))) (pa_cons pe_bl (pa_cons (pe_tup (pa_cons pe_int (pa_cons (pe_tup (pa_cons pe_int (pa_cons pe_int pa_nil))) pa_nil))) pa_nil))))))) (pe_call (ok_ltake T) (hr.mono (by decide)) (by rfl) T.d_ltake.gl T.d_ltake.F.kp (b_ltake T) .nil pass0 (pa_cons (pv 1) (pa_cons pe_int pa_nil))) (fun _ _ => rfl)))
      (pss_cons (ps_for PassesOwn.never (by rfl) (pi_range1 (by rfl) T.z_range (pa_cons pe_int pa_nil)) (pg_name (i := 9) sc_law.nd rfl (by first | exact Or.inl rfl | exact Or.inr rfl)) (pss_one (ps_if (pt_not (pt_val (pe_call ((fun T => ok_lsame T 3) T) (hr.mono (by decide)) (by rfl) T.d_lsame.gl T.d_lsame.F.kp (b_lsame T) .nil pass0 (pa_cons (pe_call (ok_lcalled T) (hr.mono (by decide)) (by rfl) T.d_lcalled.gl T.d_lcalled.F.kp (b_lcalled T) .nil pass0 (pa_cons (pv 9) (pa_cons (pv 8) pa_nil))) (pa_cons (pe_tup (pa_cons pe_str (pa_cons (pe_tup (pa_cons pe_str (pa_cons pe_str pa_nil))) pa_nil))) pa_nil))))) (pss_one (ps_ret pe_bl)) pss_nil)))
      (pss_one (ps_ret pe_bl))))))))))))), ?_⟩
    rw [st_law]
    walk_at "rd"
    refine ⟨a, ns, rfl, ha, hn, fun st l H1 hst hl0 e1 S1 => ⟨by simp, fun wl hwl => ⟨by simp, fun tl htl => ⟨by simp, fun rl hrl => ⟨by simp, fun dl hdl => ⟨by decide, by decide, ?_⟩⟩⟩⟩⟩⟩
    obtain ⟨ntw, htl1⟩ := fresh_upd htl
    obtain ⟨nrt, hrl1⟩ := fresh_upd hrl
    obtain ⟨nrw, hrl2⟩ := fresh_upd hrl1
    obtain ⟨ndr, hdl1⟩ := fresh_upd hdl
    obtain ⟨ndt, hdl2⟩ := fresh_upd hdl1
    obtain ⟨ndw, hdl3⟩ := fresh_upd hdl2
    have F : Fr5 st l wl tl rl dl := ⟨S1.ne hwl, S1.ne htl1, S1.ne hrl2, S1.ne hdl3, ntw, nrw, ndw, nrt, ndt, ndr⟩
    have S0 : S5 st l wl tl rl dl (upd (upd (upd (upd H1 wl (.lst [])) tl (.lst [])) rl (.lst [])) dl (.lst [])) 0 [] [] [] [] := by
      have eA := Ex.new (o := .lst []) hdl
      have eB := Ex.new (o := .lst []) hrl
      have eC := Ex.new (o := .lst []) htl
      exact ⟨(((S1.new hwl).new htl).new hrl).new hdl, eA _ _ (eB _ _ (eC _ _ upd_same)), eA _ _ (eB _ _ upd_same), eA _ _ upd_same, upd_same⟩
    generalize upd (upd (upd (upd H1 wl (.lst [])) tl (.lst [])) rl (.lst [])) dl (.lst []) = H0 at S0 ⊢
    clear hdl1 hdl2 hrl1 hdl hrl htl hwl e1 S1
    have two : (Int.toNat 2) = 2 := rfl
    rw [two]
    refine loop_range (fun i σ H' => ∃ (L : List Row) (v6 : Option V), σ = [some (.ref a), some (.ref st), some (.ref wl), some (.ref tl), some (.ref rl), some (.ref dl), v6, none, none, none] ∧ L.length = i ∧
      S5 st l wl tl rl dl H' (1000 * i) (L.map fun x => .int (x.n : Int)) (L.map fun x => .ref x.t) (L.map fun x => .ref x.r) (L.map fun x => .ref x.d) ∧ ∀ x ∈ L, RowOk K (M5 st wl tl rl dl) H' x) ⟨[], none, rfl, rfl, S0, fun x hx => by cases hx⟩ ?_ ?_
    · rintro i σ H' hi ⟨L, v6, rfl, hL, S, hR⟩
      walk_at "rd"
      refine ⟨ty_list S.w, sz_of (by simp), fun z hz => ?_⟩
      have SA0 := S.ex (Ex.new hz (o := .lst [V.int 0, V.int 1, V.int 1, V.int 2, V.int 2, V.int 2, V.int 3, V.int 3, V.int 3, V.int 3, V.int 3, V.int 4, V.int 4, V.int 4, V.int 5, V.int 6]))
      have KA0 := KeepM.of (M := M5 st wl tl rl dl) (Ex.new hz (o := .lst [V.int 0, V.int 1, V.int 1, V.int 2, V.int 2, V.int 2, V.int 3, V.int 3, V.int 3, V.int 3, V.int 3, V.int 4, V.int 4, V.int 4, V.int 5, V.int 6]))
      have nz := S.s.ne hz
      have kz : upd H' z (.lst [V.int 0, V.int 1, V.int 1, V.int 2, V.int 2, V.int 2, V.int 3, V.int 3, V.int 3, V.int 3, V.int 3, V.int 4, V.int 4, V.int 4, V.int 5, V.int 6]) z = some (.lst [V.int 0, V.int 1, V.int 1, V.int 2, V.int 2, V.int 2, V.int 3, V.int 3, V.int 3, V.int 3, V.int 3, V.int 4, V.int 4, V.int 4, V.int 5, V.int 6]) := upd_same
      generalize upd H' z (.lst [V.int 0, V.int 1, V.int 1, V.int 2, V.int 2, V.int 2, V.int 3, V.int 3, V.int 3, V.int 3, V.int 3, V.int 4, V.int 4, V.int 4, V.int 5, V.int 6]) = HA0 at SA0 KA0 kz ⊢
      refine ⟨st, l, _, 16, rfl, SA0.s, by omega, by decide, by decide, fun r HA r0 r1 xA sA => ?_⟩
      obtain ⟨xs0, hxs0⟩ := SA0.s.lst
      have KA := KA0.trans (KeepM.exb (List.mem_cons_self ..) hxs0 xA)
      have SA := SA0.exb F xA sA
      have kz1 := xA _ _ nz.1 kz
      clear hxs0 xA sA kz SA0 KA0
      obtain ⟨n, hn6, hat⟩ := w16 r0 r1
      refine ⟨r, rfl, _, _, sq_of kz1, hat, _, SA.w, ?_, ?_⟩
      · rw [List.length_map, hL]
        exact sz_lt (by omega)
      have lw : (L.map fun x => V.int (x.n : Int)).length = i := by rw [List.length_map, hL]
      have lt' : (L.map fun x => V.ref x.t).length = i := by rw [List.length_map, hL]
      have lr : (L.map fun x => V.ref x.r).length = i := by rw [List.length_map, hL]
      have ld : (L.map fun x => V.ref x.d).length = i := by rw [List.length_map, hL]
      have KB0 := KA.trans (KeepM.set (m := wl) (o := .lst (L.map (fun x => V.int (x.n : Int)) ++ [.int (n : Int)])) (by simp [M5]) SA.w)
      have SB := SA.setW F (xs := L.map (fun x => V.int (x.n : Int)) ++ [.int (n : Int)])
      generalize upd HA wl (.lst (L.map (fun x => V.int (x.n : Int)) ++ [.int (n : Int)])) = HB at KB0 SB ⊢
      clear SA KA
      refine ⟨ty_list SB.r, _, _, sq_of SB.w, at_last lw, st, l, _, n, rfl, SB.s, by omega, hn6, fun p bs HC hp xC sC hpc hbl hbb => ?_⟩
      have tb : TBits n bs := ⟨hn6, hbl, hbb⟩
      have pM := SB.out hp
      obtain ⟨xs1, hxs1⟩ := SB.s.lst
      have KC := KB0.trans (KeepM.exb (List.mem_cons_self ..) hxs1 xC)
      have SC := SB.exb F xC sC
      have npr : p ≠ rl := fun e => pM (by rw [e]; simp [M5])
      refine ⟨_, SC.r, by rw [lr]; exact sz_lt (by omega), ?_⟩
      have KD := KC.trans (KeepM.set (m := rl) (o := .lst (L.map (fun x => V.ref x.r) ++ [.ref p])) (by simp [M5]) SC.r)
      have SD := SC.setR F (xs := L.map (fun x => V.ref x.r) ++ [.ref p])
      have hpd : upd HC rl (.lst (L.map (fun x => V.ref x.r) ++ [.ref p])) p = some (.lst (bs.map V.int)) := by
        rw [upd_ne npr]
        exact hpc
      generalize upd HC rl (.lst (L.map (fun x => V.ref x.r) ++ [.ref p])) = HD at KD SD hpd ⊢
      clear SC KC KB0 SB hpc xC sC hxs1
      refine ⟨ty_list SD.t, _, _, sq_of SD.w, at_last lw, _, _, sq_of SD.r, at_last lr, p, rfl, _, .inl (sq_of hpd), fun y hy tt dx hx hdx ne => ?_⟩
      have eE := Ex.new hy (o := .lst (bs.map V.int))
      refine make_at upd_same tb hx hdx ne fun HE e2 hT => ⟨rfl, ?_⟩
      have eF := eE.trans e2
      have SE := SD.ex eF
      have KE := KD.trans (KeepM.of eF)
      have hpe := eF _ _ hpd
      refine ⟨_, SE.t, by rw [lt']; exact sz_lt (by omega), ?_⟩
      have kT := KeepM.set (M := M5 st wl tl rl dl) (m := tl) (o := .lst (L.map (fun x => V.ref x.t) ++ [.ref tt])) (by simp [M5]) SE.t
      have KG := KE.trans kT
      have SG := SE.setT F (xs := L.map (fun x => V.ref x.t) ++ [.ref tt])
      have hpg := kT _ _ (fun z => absurd z pM) hpe
      have hTg : IsTab K (upd HE tl (.lst (L.map (fun x => V.ref x.t) ++ [.ref tt]))) tt n bs := by
        obtain ⟨dx', t', h1, h2, h3⟩ := hT
        exact ⟨dx', t', kT _ _ (fun _ _ z => by cases z) h1, kT _ _ (fun _ _ z => by cases z) h2, h3⟩
      generalize upd HE tl (.lst (L.map (fun x => V.ref x.t) ++ [.ref tt])) = HG at KG SG hpg hTg ⊢
      clear kT SE KE hT eF eE SD KD hpd hpe
      refine ⟨ty_list SG.d, _, _, sq_of SG.w, at_last lw, _, _, sq_of SG.r, at_last lr, p, n, bs, rfl, hpg, tb, fun d HI eI hd => ?_⟩
      have SI := SG.ex eI
      have KI := KG.trans (KeepM.of eI)
      refine ⟨_, SI.d, by rw [ld]; exact sz_lt (by omega), ?_⟩
      have kJ := KeepM.set (M := M5 st wl tl rl dl) (m := dl) (o := .lst (L.map (fun x => V.ref x.d) ++ [.ref d])) (by simp [M5]) SI.d
      have SJ := SI.setD F (xs := L.map (fun x => V.ref x.d) ++ [.ref d])
      have new : RowOk K (M5 st wl tl rl dl) HI ⟨n, bs, p, tt, d⟩ := ⟨pM, eI _ _ hpg, hTg.ex eI, HG, hd, SG.some⟩
      refine ⟨L ++ [⟨n, bs, p, tt, d⟩], by rw [List.length_append, hL]; rfl, ?_, fun y hy => ?_⟩
      · rw [List.map_append, List.map_append, List.map_append, List.map_append]
        exact ⟨SJ.s.mono (by omega), SJ.w, SJ.t, SJ.r, SJ.d⟩
      · rcases List.mem_append.mp hy with hy | hy
        · exact (hR y hy).keep (KI.trans kJ)
        · rw [List.mem_singleton.mp hy]
          exact new.keep kJ
    · rintro σ H' ⟨L, v6, rfl, hL, S, hR⟩
      walk_at "rd"
      obtain ⟨x0, x1, rfl⟩ : ∃ x0 x1, L = [x0, x1] := match L, hL with
        | [x0, x1], _ => ⟨x0, x1, rfl⟩
      simp only [List.map_cons, List.map_nil] at S
      have R0 := hR x0 (by simp)
      have R1 := hR x1 (by simp)
      clear hR
      refine ⟨sz_of (by simp), fun z hz => ⟨⟨_, sq_of upd_same⟩, ?_⟩⟩
      have eZ := Ex.new hz (o := .lst [.int 0, .int 1, .int 0])
      have kz : upd H' z (.lst [.int 0, .int 1, .int 0]) z = some (.lst [.int 0, .int 1, .int 0]) := upd_same
      have S := S.ex eZ
      have R0 := R0.keep (KeepM.of eZ)
      have R1 := R1.keep (KeepM.of eZ)
      generalize upd H' z (.lst [.int 0, .int 1, .int 0]) = HZ at S R0 R1 kz ⊢
      refine loop_list (xs := [.int 0, .int 1, .int 0]) (fun i σ H' => Ex HZ H' ∧ ∃ v : Option V, σ = [some (.ref a), some (.ref st), some (.ref wl), some (.ref tl), some (.ref rl), some (.ref dl), v, none, none, none]) ⟨Ex.refl _, v6, rfl⟩ (fun i σ H' _ h => sq_of (h.1 _ _ kz)) ?_ ?_
      · rintro i x σ H' hi ⟨e, v, rfl⟩
        have S' := S.ex e
        have Q0 := R0.keep (KeepM.of e)
        have Q1 := R1.keep (KeepM.of e)
        obtain ⟨D0, du0, _⟩ := Q0.dues
        obtain ⟨D1, du1, _⟩ := Q1.dues
        have hx : x = .int 0 ∨ x = .int 1 := match i, hi with
          | 0, hi => .inl (Option.some.inj hi).symm
          | 1, hi => .inr (Option.some.inj hi).symm
          | 2, hi => .inl (Option.some.inj hi).symm
          | i + 3, hi => by simp at hi
        rcases hx with rfl | rfl
        · walk_at "rd"
          refine ⟨_, _, sq_of S'.w, rfl, _, _, sq_of S'.r, rfl, _, _, sq_of S'.t, rfl, _, _, sq_of S'.d, rfl, _, _, _, _, _, _, rfl, Q0.row, Q0.tab, du0, fun H2 e2 => ?_⟩
          walk_at "rd"
          exact e.trans e2
        · walk_at "rd"
          refine ⟨_, _, sq_of S'.w, rfl, _, _, sq_of S'.r, rfl, _, _, sq_of S'.t, rfl, _, _, sq_of S'.d, rfl, _, _, _, _, _, _, rfl, Q1.row, Q1.tab, du1, fun H2 e2 => ?_⟩
          walk_at "rd"
          exact e.trans e2
      · rintro σ H' ⟨e, v, rfl⟩
        walk_at "rd"
        have S' := S.ex e
        have Q1 := R1.keep (KeepM.of e)
        obtain ⟨_, _, _, _, tb⟩ := id Q1.tab
        refine ⟨_, _, sq_of S'.w, rfl, _, _, sq_of S'.r, rfl, x1.r, rfl, _, .inl (sq_of Q1.row), fun y hy tt dx hx hdx ne => ?_⟩
        refine make_at upd_same tb hx hdx ne fun HE e2 hT => ⟨rfl, ?_⟩
        have eE := (Ex.new hy).trans e2
        have SE := S'.ex eE
        have QE := Q1.keep (KeepM.of eE)
        obtain ⟨D1, ⟨p0, p1, p2, p4, ps, _, g0, g1, _⟩, _⟩ := QE.dues
        refine ⟨_, rfl, .inl ⟨tt, x1.n, x1.bs, rfl, hT, fun q0 HF hq0 eF hF => ?_⟩⟩
        refine ⟨_, rfl, .inl ⟨tt, x1.n, x1.bs, rfl, hT.ex eF, fun HG eG => ⟨sz_of (by simp), fun m1 hm1 => ?_⟩⟩⟩
        have e7 := Ex.new hm1 (o := .lst [.ref q0, unV x1.n x1.bs])
        have k7 : upd HG m1 (.lst [.ref q0, unV x1.n x1.bs]) m1 = some (.lst [.ref q0, unV x1.n x1.bs]) := upd_same
        generalize upd HG m1 (.lst [.ref q0, unV x1.n x1.bs]) = HJ at e7 k7 ⊢
        have e8 := (eF.trans eG).trans e7
        have SJ := SE.ex e8
        refine ⟨_, _, sq_of SJ.d, rfl, x1.d, rfl, _, _, sq_of (e8 _ _ g0), rfl, _, _, sq_of SJ.d, rfl, x1.d, rfl, _, _, sq_of (e8 _ _ g0), rfl, sz_of (by simp), fun m2 hm2 => ?_⟩
        have e9 := Ex.new hm2 (o := .lst [.ref p0, unV x1.n x1.bs])
        have k9 : upd HJ m2 (.lst [.ref p0, unV x1.n x1.bs]) m2 = some (.lst [.ref p0, unV x1.n x1.bs]) := upd_same
        generalize upd HJ m2 (.lst [.ref p0, unV x1.n x1.bs]) = HK at e9 k9 ⊢
        have SK := SJ.ex e9
        refine ⟨_, _, rfl, .inr ⟨m1, m2, _, _, rfl, rfl, .inl ⟨e9 _ _ k7, k9⟩, rfl, by simp, fun i x y hx hy => ?_⟩, ?_⟩
        · match i, hx, hy with
          | 0, hx, hy =>
            cases hx
            cases hy
            exact same_tup (k := 1) (xs := [_, _]) (e9 _ _ (e7 _ _ (eG _ _ hF))) (e9 _ _ (e8 _ _ g1)) (by simp)
          | 1, hx, hy =>
            have hx' : some (unV x1.n x1.bs) = some x := hx
            have hy' : some (unV x1.n x1.bs) = some y := hy
            cases hx'
            cases hy'
            exact Sam.of0 (unV_same _ _)
          | i + 2, hx, hy => simp at hx
        walk_at "rd"
        refine ⟨sz_of (by simp), fun z1 hz1 => ⟨sz_of (by simp), fun z2 hz2 => ⟨sz_of (by simp), fun z3 hz3 => ⟨sz_of (by simp), fun z4 hz4 => ?_⟩⟩⟩⟩
        have y1 := Ex.new hz1 (o := .lst [.int 0, .int 1])
        have y2 := Ex.new hz2 (o := .tup [.int 0, .int 1])
        have y3 := Ex.new hz3 (o := .tup [.int 1, .ref z2])
        have y4 := Ex.new hz4 (o := .lst [.non, .int 7, .str "1:01", .ref z1, .bl true, .ref z3])
        have i1 : (upd (upd (upd (upd HK z1 (.lst [.int 0, .int 1])) z2 (.tup [.int 0, .int 1])) z3 (.tup [.int 1, .ref z2])) z4 (.lst [.non, .int 7, .str "1:01", .ref z1, .bl true, .ref z3])) z1 = some (.lst [.int 0, .int 1]) := y4 _ _ (y3 _ _ (y2 _ _ upd_same))
        have i3 : (upd (upd (upd (upd HK z1 (.lst [.int 0, .int 1])) z2 (.tup [.int 0, .int 1])) z3 (.tup [.int 1, .ref z2])) z4 (.lst [.non, .int 7, .str "1:01", .ref z1, .bl true, .ref z3])) z3 = some (.tup [.int 1, .ref z2]) := y4 _ _ upd_same
        have i4 : (upd (upd (upd (upd HK z1 (.lst [.int 0, .int 1])) z2 (.tup [.int 0, .int 1])) z3 (.tup [.int 1, .ref z2])) z4 (.lst [.non, .int 7, .str "1:01", .ref z1, .bl true, .ref z3])) z4 = some (.lst [.non, .int 7, .str "1:01", .ref z1, .bl true, .ref z3]) := upd_same
        have SL := SK.ex (((y1.trans y2).trans y3).trans y4)
        have nz1 := SK.s.ne hz1
        have nz3 := ((SK.ex y1).ex y2).s.ne hz3
        have nz4 := (((SK.ex y1).ex y2).ex y3).s.ne hz4
        generalize upd (upd (upd (upd HK z1 (.lst [.int 0, .int 1])) z2 (.tup [.int 0, .int 1])) z3 (.tup [.int 1, .ref z2])) z4 (.lst [.non, .int 7, .str "1:01", .ref z1, .bl true, .ref z3]) = HL at i1 i3 i4 SL ⊢
        refine ⟨st, l, _, 6, rfl, SL.s, by decide, by decide, by decide, fun r HM r0 r1 xM sM => ?_⟩
        have j1 := xM _ _ nz1.1 i1
        have j3 := xM _ _ nz3.1 i3
        have j4 := xM _ _ nz4.1 i4
        have item : ∃ v, atI [V.non, .int 7, .str "1:01", .ref z1, .bl true, .ref z3] r = some v ∧ Itm HM v := by
          obtain ⟨k, rfl⟩ := Int.eq_ofNat_of_zero_le r0
          match k, r1 with
          | 0, _ => exact ⟨_, rfl, .non⟩
          | 1, _ => exact ⟨_, rfl, .int _⟩
          | 2, _ => exact ⟨_, rfl, .str _⟩
          | 3, _ => exact ⟨_, rfl, .lst j1⟩
          | 4, _ => exact ⟨_, rfl, .bl _⟩
          | 5, _ => exact ⟨_, rfl, .tup j3⟩
          | k + 6, h => exact absurd h (by omega)
        obtain ⟨v, hv, hI⟩ := item
        refine ⟨r, rfl, _, v, sq_of j4, hv, by decide, by decide, ?_⟩
        refine loop_range (n := 5) (fun i σ H' => Ex HM H' ∧ ∃ v9 : Option V, σ = [some (.ref a), some (.ref st), some (.ref wl), some (.ref tl), some (.ref rl), some (.ref dl), _, some (.ref tt), some v, v9]) ⟨Ex.refl _, none, rfl⟩ ?_ ?_
        · rintro i σ H' hi ⟨e, v9, rfl⟩
          walk_at "rd"
          refine ⟨i, v, rfl, (hI.ex e).notab T, fun p r' H2 e2 h1 h2 => ⟨sz_of (by simp), fun p3 hp3 => ⟨sz_of (by simp), fun p4 hp4 => ?_⟩⟩⟩
          have e3 := Ex.new hp3 (o := .tup [.str "WrongKind", .str "table"])
          have e4 := Ex.new hp4 (o := .tup [.str "refused", .ref p3])
          refine ⟨_, _, rfl, .inr ⟨p, p4, _, _, rfl, rfl, .inr ⟨e4 _ _ (e3 _ _ h1), upd_same⟩, rfl, by simp, fun j x y hx hy => ?_⟩, ?_⟩
          · match j, hx, hy with
            | 0, hx, hy =>
              cases hx
              cases hy
              exact Sam.of0 (.inr (.inr ⟨_, rfl, rfl⟩))
            | 1, hx, hy =>
              cases hx
              cases hy
              refine .inr ⟨r', p3, _, _, rfl, rfl, .inr ⟨e4 _ _ (e3 _ _ h2), e4 _ _ upd_same⟩, rfl, by simp, fun m x y hx hy => ?_⟩
              match m, hx, hy with
              | 0, hx, hy =>
                cases hx
                cases hy
                exact Sam.of0 (.inr (.inr ⟨_, rfl, rfl⟩))
              | 1, hx, hy =>
                cases hx
                cases hy
                exact Sam.of0 (.inr (.inr ⟨_, rfl, rfl⟩))
              | m + 2, hx, hy => simp at hx
            | j + 2, hx, hy => simp at hx
          walk_at "rd"
          exact ((e.trans e2).trans e3).trans e4
        · rintro σ H' ⟨e, v9, rfl⟩
          exact q _
end
end Bs
/-! The law. -/
namespace Bs
open PySem PySem.Spec PyProof.Rows L2
theorem law_binds {K : PySem.W.Frag} {mg : Str → Option Value} (T : Fx K mg) (s : Shared) (u : Value) : BindsTo s (fdOf K (T_law K)) ⟨[u], []⟩ [("_law_script", u)] := by
  obtain ⟨oc, od, kV, doc, pm, an, cdv, ct, osl, e, lk, hcd⟩ := T.d_law.F.ex
  rw [e]
  exact BindsTo.of_eq rfl
end Bs
open PySem PySem.W PySem.Calls PyProof.Rows
theorem PySem.Challenge.cw_bitshades_k99_whole_breaking_and_nearest_holds : PySem.Challenge.rw_bitshades_k99_whole_breaking_and_nearest.Holds := by
  w_on; o_law
  refine HandSHeadRun.head_any (r := OpenLaw.row PySem.Challenge.rw_bitshades_k99_whole_breaking_and_nearest) (q := view (OpenLaw.row PySem.Challenge.rw_bitshades_k99_whole_breaking_and_nearest).prog [84]) (H := BsHd.hk) (ob := BsHd.ob) (M := 40000) (loose := BsHd.loose) (d := HandSHeadRun.topDef (OpenLaw.row PySem.Challenge.rw_bitshades_k99_whole_breaking_and_nearest).prog 84) (kwd := []) BsHd.ob_eq
    (by kernel_rfl) (fun s => by kernel_rfl) BsHd.run (by kernel_rfl) (by kernel_rfl) (by kernel_rfl) (by rfl) (by first | assumption | decide +kernel) (by decide +kernel) ⟨rfl, rfl, rfl, rfl, rfl, by decide +kernel⟩ ?hw ?hc
  case hw => w_witness2
  case hc =>
    refine L2.walk_ofE (l := PySem.Challenge.rw_bitshades_k99_whole_breaking_and_nearest) (n := 63) (k := 10) (x := "_law_script") (CX := L2.CX0) rfl (by decide) (by kernel_rfl) ⟨rfl, by decide, by decide⟩ ?F (fun _ _ _ _ z => z)
    intro w mg fa h Y G hmg0
    obtain ⟨K, KX, c⟩ := Y
    have hmg : mg ("law" : PySem.Str) = some (.ref fa) := by
      have e : (HandSHeadRun.topDef (OpenLaw.row PySem.Challenge.rw_bitshades_k99_whole_breaking_and_nearest).prog 84).name = ("law" : PySem.Str) := by kernel_rfl
      rw [← e]
      exact hmg0
    have T := Bs.fx_of KX G c
    have e := hmg.symm.trans T.d_law.gl
    cases e
    haveI : Bs.IsP (PySem.Challenge.rw_bitshades_k99_whole_breaking_and_nearest).prog := ⟨rfl, by decide +kernel⟩
    exact ⟨K, Bs.fdOf K (Bs.T_law K), Bs.sp_law K, KX, Bs.law_binds T, fun H a ns hl _ hS => ⟨a, ns, rfl, hS, hl, fun _ => rfl⟩, fun base _ _ => Bs.ok_law T⟩
