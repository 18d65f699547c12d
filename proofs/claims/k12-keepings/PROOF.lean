import PyProof.Rows.All
import Wide.All
import OpenK.AllK
import Wide.FinOn
import KE.KStateDown
import HandS.Words
import HandS.WordsExc
import HandS.Defaults
import HandS.Head0
import HandS.Head1
import HandS.Head2
import HandS.HeadEnd
import HandS.HeadHook1
import HandS.HeadHook2
import HandS.Exc
import HandS.HeadNt
import HandS.HeadHook3
import HandS.HeadHook4
import HandS.ForMost
import HandS.DictComp
import HandS.IsInst
import HandS.FStr
import HandS.Wide
import HandS.WideBits
import HandS.Conv
import HandS.Nested
import HandS.Walk
import HandS.More
import HandS.ListItems
import KE.KOpsOwn
import PyProof.DictUpdate
import PyProof.TwoTypes
import HandS.WordsDict
import HandS.Ends
import HandS.ForExc
import HandS.CallSlots
import HandS.Zip
import KE.GoesEnum
import KE.KExcSuper
import HandS.ExcInit
import HandS.ExcSuper
import KE.KExcIs
import HandS.ExcValue
import HandS.ListEq
import HandS.DictEq
import HandS.DeepEq
import HandS.SlotsOwn
import HandS.Style
import HandS.Deep
import HandS.TupAny
import HandS.Flt
import HandS.TupSets
import HandS.SortOrd
import HandS.SortRule
import KE.KSortTupAny
import KE.KCallOwn
import HandS.RaiseMore
import HandS.ClsMeth
import HandS.Text
import HandS.Codes
import HandS.Rev
import KE.KDictList
import HandS.Star
import HandS.HotCalls
import HandS.HeadWalk
import PySem.Challenge.RW_bindspan_k12_keepings
set_option Elab.async false
set_option linter.all false
set_option maxRecDepth 100000
set_option maxHeartbeats 0
namespace DL
end DL
namespace DH
open PySem PySem.Spec PyProof.Rows L2 DL
open PySem.W (Frag findIn nsIn keepIn subIn typeIn hasDictIn clsIn mroIn alongIn specialIn takesIn codeIn kitOne)
abbrev eqO := He.eqO
structure SupQ where
  cls : Str
  st : Stmt
  fl : List Str
abbrev SupV : Type := Option (Arguments × FuncBody × Scope)
def initA (K : Frag) (x : Str) : Addr := He.ma K (He.ga K x) "__init__"
def supV (K : Frag) (q : SupQ) : SupV := match K.lookup (initA K q.cls) with
  | some ⟨_, _, .func fd, _⟩ => some (fd.params, fd.body, fd.scope)
  | _ => none
def SupQ.val (q : SupQ) : SupV := some (defArgs q.st, .stmts (defBody q.st), defScope q.st)
def shB (K : Frag) (C : Addr) : Bool := match K.lookup C with
  | some ⟨.type t, _, .cls cd, sl⟩ => decide (t = "type") && (match cd.mro, sl.toList with
    | .ref C' :: bm, [_, _, _, _, some (.builtin n), _] => decide (C' = C) && (decide (n = "ValueError.__new__") && (!cd.hasDel && (cd.hasDict && (PySem.HandSPX.refsVE bm && eqO (alongIn K "__init__" bm) (some (some (.builtin "ValueError.__init__")))))))
    | _, _ => false)
  | _ => false
def fileB (K : Frag) (file : Str) : Value → Bool
  | .ref c => (match K.lookup c with
    | some ⟨_, _, .fields vs, _⟩ => (match (vs[2]? : Option Value) with
      | some (.str z _) => file == z
      | _ => false)
    | _ => false)
  | _ => false
def cellB (K : Frag) (C : Addr) (cl : List (Str × Addr)) : Bool := match cl.lookup ("__class__" : Str) with
  | some cc => (match K.lookup cc with
    | some ⟨_, _, .cell (some (.ref C')), _⟩ => decide (C' = C)
    | _ => false)
  | none => false
def noneB : Value → Bool
  | .none => true
  | _ => false
def funB (K : Frag) (file : Str) (C fI : Addr) : Bool := match K.lookup fI with
  | some ⟨_, _, .func fd, _⟩ => decide (fd.globals = mainGlobals) && (decide (fd.builtins = builtinsNs) && (noneB fd.defaults && (codeIn K fd.code fd.qualname && (fileB K file fd.code && cellB K C fd.closure))))
  | _ => false
def supB (K : Frag) (file : Str) (q : SupQ) : Bool :=
  shB K (He.ga K q.cls) && (eqO (findIn K (.ref (He.ga K q.cls)) "__setattr__") (some (some (.builtin "object.__setattr__"))) && (eqO (findIn K (.ref (He.ga K q.cls)) "__getattribute__") (some (some (.builtin "BaseException.__getattribute__"))) &&
  (eqO (findIn K (.ref (He.ga K q.cls)) "__getattr__") (some none) && (q.fl.all (fun f => eqO (findIn K (.ref (He.ga K q.cls)) f) (some none)) && (eqO (findIn K (.ref (He.ga K q.cls)) "__init__") (some (some (.ref (initA K q.cls)))) &&
  (decide (typeIn K (.ref (initA K q.cls)) = some (.type "function")) && (keepIn K (.ref (He.ga K q.cls)) && (decide (subIn K (.ref (He.ga K q.cls)) (.type "BaseException") = some true) && (decide (subIn K (.ref (He.ga K q.cls)) (.type "ValueError") = some true) &&
  (eqO (nsIn K cStatics "thirdparty.any") (some none) && funB K file (He.ga K q.cls) (initA K q.cls)))))))))))
structure Ask where
  n : Nat
  fa : List He.Fa
  fn : List He.DefD
  sup : List SupQ
  file : Str
  ex : Frag → Bool
  fna : List He5.DefA := []
abbrev Al : Type := Bool × List He.FnW × List SupV
def obsK (q : Ask) (K : Frag) : Al := ((q.fa.all fun f => f.ok K) && ((q.fn.all fun d => d.ok K) && ((q.sup.all fun d => supB K q.file d) && ((q.fna.all fun d => d.ok K) && q.ex K))), q.fn.map (fun d => He.fnW K d.at_) ++ q.fna.map (fun d => He5.fnA K (d.at_ K)), q.sup.map fun d => supV K d)
def valA (q : Ask) : Al := (true, q.fn.map He.DefD.val ++ q.fna.map He5.DefA.val, q.sup.map SupQ.val)
end DH
namespace K12
open PySem L2 DL
def top (i : Nat) : Stmt := PySem.Challenge.pw_bindspan_k12_keepings.main.body.getD i (.Pass ⟨0, 0, 0, 0⟩)
abbrev s_blocks_of : Stmt := top 13
abbrev s_rebuilt : Stmt := top 14
abbrev s_add_first_lines : Stmt := top 15
abbrev s_first_lines : Stmt := top 16
abbrev s_statements : Stmt := top 17
abbrev s_changed_rows : Stmt := top 18
abbrev s_changed : Stmt := top 19
abbrev s_is_word : Stmt := top 25
abbrev s_is_identifier : Stmt := top 26
abbrev s_is_setting : Stmt := top 27
abbrev s_is_listing : Stmt := top 32
abbrev s_is_value : Stmt := top 33
abbrev s_is_access : Stmt := top 34
abbrev s_fits : Stmt := top 35
abbrev s_is_rows : Stmt := top 36
abbrev s_is_statement : Stmt := top 37
abbrev s_is_part : Stmt := top 38
abbrev s_check_form : Stmt := top 39
abbrev s_declared_parts : Stmt := top 40
abbrev s_kind_of : Stmt := top 41
abbrev s_check_known : Stmt := top 42
abbrev s_check_listing : Stmt := top 43
abbrev s_check_order : Stmt := top 44
abbrev s_check_statement : Stmt := top 45
abbrev s_with_ordered_lists : Stmt := top 46
abbrev s_settled : Stmt := top 47
abbrev s_check : Stmt := top 48
abbrev s_keepings : Stmt := top 49
abbrev s_law_tape : Stmt := top 51
abbrev s_law_draw : Stmt := top 52
abbrev s_law_kept : Stmt := top 53
abbrev s_law_signs : Stmt := top 54
abbrev s_law_spelled : Stmt := top 55
abbrev s_law_ident : Stmt := top 56
abbrev s_law_word : Stmt := top 57
abbrev s_law_heads : Stmt := top 58
abbrev s_law_idents : Stmt := top 59
abbrev s_law_pick : Stmt := top 60
abbrev s_law_captured : Stmt := top 61
abbrev s_law_pairs_above : Stmt := top 62
abbrev s_law_slot_statement : Stmt := top 63
abbrev s_law_bind : Stmt := top 64
abbrev s_law_block : Stmt := top 65
abbrev s_law_statement : Stmt := top 66
abbrev s_law_rows : Stmt := top 67
abbrev s_law_function : Stmt := top 68
abbrev s_law_parts : Stmt := top 69
abbrev s_law_blocks : Stmt := top 70
abbrev s_law_listed_rows : Stmt := top 71
abbrev s_law_listed : Stmt := top 72
abbrev s_law_due : Stmt := top 74
abbrev s_law : Stmt := top 75
structure Ad where
  f_blocks_of : Addr
  d_blocks_of : FuncData
  f_rebuilt : Addr
  d_rebuilt : FuncData
  f_add_first_lines : Addr
  d_add_first_lines : FuncData
  f_first_lines : Addr
  d_first_lines : FuncData
  f_statements : Addr
  d_statements : FuncData
  f_changed_rows : Addr
  d_changed_rows : FuncData
  f_changed : Addr
  d_changed : FuncData
  f_is_word : Addr
  d_is_word : FuncData
  f_is_identifier : Addr
  d_is_identifier : FuncData
  f_is_setting : Addr
  d_is_setting : FuncData
  f_is_listing : Addr
  d_is_listing : FuncData
  f_is_value : Addr
  d_is_value : FuncData
  f_is_access : Addr
  d_is_access : FuncData
  f_fits : Addr
  d_fits : FuncData
  f_is_rows : Addr
  d_is_rows : FuncData
  f_is_statement : Addr
  d_is_statement : FuncData
  f_is_part : Addr
  d_is_part : FuncData
  f_check_form : Addr
  d_check_form : FuncData
  f_declared_parts : Addr
  d_declared_parts : FuncData
  f_kind_of : Addr
  d_kind_of : FuncData
  f_check_known : Addr
  d_check_known : FuncData
  f_check_listing : Addr
  d_check_listing : FuncData
  f_check_order : Addr
  d_check_order : FuncData
  f_check_statement : Addr
  d_check_statement : FuncData
  f_with_ordered_lists : Addr
  d_with_ordered_lists : FuncData
  f_settled : Addr
  d_settled : FuncData
  f_check : Addr
  d_check : FuncData
  f_keepings : Addr
  d_keepings : FuncData
  f_law_tape : Addr
  d_law_tape : FuncData
  f_law_draw : Addr
  d_law_draw : FuncData
  f_law_kept : Addr
  d_law_kept : FuncData
  f_law_signs : Addr
  d_law_signs : FuncData
  f_law_spelled : Addr
  d_law_spelled : FuncData
  f_law_ident : Addr
  d_law_ident : FuncData
  f_law_word : Addr
  d_law_word : FuncData
  f_law_heads : Addr
  d_law_heads : FuncData
  f_law_idents : Addr
  d_law_idents : FuncData
  f_law_pick : Addr
  d_law_pick : FuncData
  f_law_captured : Addr
  d_law_captured : FuncData
  f_law_pairs_above : Addr
  d_law_pairs_above : FuncData
  f_law_slot_statement : Addr
  d_law_slot_statement : FuncData
  f_law_bind : Addr
  d_law_bind : FuncData
  f_law_block : Addr
  d_law_block : FuncData
  f_law_statement : Addr
  d_law_statement : FuncData
  f_law_rows : Addr
  d_law_rows : FuncData
  f_law_function : Addr
  d_law_function : FuncData
  f_law_parts : Addr
  d_law_parts : FuncData
  f_law_blocks : Addr
  d_law_blocks : FuncData
  f_law_listed_rows : Addr
  d_law_listed_rows : FuncData
  f_law_listed : Addr
  d_law_listed : FuncData
  f_law_due : Addr
  d_law_due : FuncData
  f_law : Addr
  d_law : FuncData
  c_with_ordered_lists : Addr
  P_with_ordered_lists : Addr
  t_LETTERS : Tok
  t_DIGITS : Tok
  t_LONGEST : Tok
  t_MOST_BLOCKS : Tok
  p_KEPT : Addr
  p_PART_WORDS : Addr
  p_BOUND_WORDS : Addr
  p_KEEPINGS : Addr
  p_SHAPES : Addr
  p_WANTED : Addr
def nf0 (a : Ad) : Addr → Nat := fun c => 0
def keptV : List V := [.str "name", .str "flag", .str "slot", .str "func", .str "open", .str "own", .str "look", .str "bind", .str "call", .str "keep", .str "take", .str "shift", .str "run", .str "drop", .str "apart", .str "when", .str "held", .str "fail", .str "guard", .str "else", .str "after", .str "end", .str "with", .str "of", .str "on", .str "off"]
theorem sc_blocks_of : FnScope ["statement", "word"] ["statement"] (defScope s_blocks_of) := ⟨rfl, rfl, rfl, by decide +kernel, rfl, by decide +kernel, by decide +kernel⟩
theorem sc_rebuilt : FnScope ["statement", "blocks"] ["statement", "blocks"] (defScope s_rebuilt) := ⟨rfl, rfl, rfl, by decide +kernel, rfl, by decide +kernel, by decide +kernel⟩
theorem sc_add_first_lines : FnScope ["found", "rows", "line", "place", "statement", "blocks", "at", "block"] ["found", "rows", "line", "place"] (defScope s_add_first_lines) := ⟨rfl, rfl, rfl, by decide +kernel, rfl, by decide +kernel, by decide +kernel⟩
theorem sc_first_lines : FnScope ["parts", "found", "line", "place", "part"] ["parts"] (defScope s_first_lines) := ⟨rfl, rfl, rfl, by decide +kernel, rfl, by decide +kernel, by decide +kernel⟩
theorem sc_statements : FnScope ["parts", "row"] ["parts"] (defScope s_statements) := ⟨rfl, rfl, rfl, by decide +kernel, rfl, by decide +kernel, by decide +kernel⟩
theorem sc_changed_rows : FnScope ["rows", "change", "result", "statement", "fresh", "inner", "block"] ["rows", "change"] (defScope s_changed_rows) := ⟨rfl, rfl, rfl, by decide +kernel, rfl, by decide +kernel, by decide +kernel⟩
theorem sc_changed : FnScope ["parts", "change", "result", "part"] ["parts", "change"] (defScope s_changed) := ⟨rfl, rfl, rfl, by decide +kernel, rfl, by decide +kernel, by decide +kernel⟩
theorem sc_is_word : FnScope ["value", "sign"] ["value"] (defScope s_is_word) := ⟨rfl, rfl, rfl, by decide +kernel, rfl, by decide +kernel, by decide +kernel⟩
theorem sc_is_identifier : FnScope ["value"] ["value"] (defScope s_is_identifier) := ⟨rfl, rfl, rfl, by decide +kernel, rfl, by decide +kernel, by decide +kernel⟩
theorem sc_is_setting : FnScope ["value"] ["value"] (defScope s_is_setting) := ⟨rfl, rfl, rfl, by decide +kernel, rfl, by decide +kernel, by decide +kernel⟩
theorem sc_is_listing : FnScope ["value", "item"] ["value"] (defScope s_is_listing) := ⟨rfl, rfl, rfl, by decide +kernel, rfl, by decide +kernel, by decide +kernel⟩
theorem sc_is_value : FnScope ["value"] ["value"] (defScope s_is_value) := ⟨rfl, rfl, rfl, by decide +kernel, rfl, by decide +kernel, by decide +kernel⟩
theorem sc_is_access : FnScope ["value"] ["value"] (defScope s_is_access) := ⟨rfl, rfl, rfl, by decide +kernel, rfl, by decide +kernel, by decide +kernel⟩
theorem sc_fits : FnScope ["shape", "item", "blocks"] ["shape", "item", "blocks"] (defScope s_fits) := ⟨rfl, rfl, rfl, by decide +kernel, rfl, by decide +kernel, by decide +kernel⟩
theorem sc_is_rows : FnScope ["rows", "blocks", "row"] ["rows", "blocks"] (defScope s_is_rows) := ⟨rfl, rfl, rfl, by decide +kernel, rfl, by decide +kernel, by decide +kernel⟩
theorem sc_is_statement : FnScope ["statement", "blocks", "shapes", "shape", "item"] ["statement", "blocks"] (defScope s_is_statement) := ⟨rfl, rfl, rfl, by decide +kernel, rfl, by decide +kernel, by decide +kernel⟩
theorem sc_is_part : FnScope ["part"] ["part"] (defScope s_is_part) := ⟨rfl, rfl, rfl, by decide +kernel, rfl, by decide +kernel, by decide +kernel⟩
theorem sc_check_form : FnScope ["parts", "place", "part"] ["parts"] (defScope s_check_form) := ⟨rfl, rfl, rfl, by decide +kernel, rfl, by decide +kernel, by decide +kernel⟩
theorem sc_declared_parts : FnScope ["parts", "lines", "declared", "line", "own", "place", "item"] ["parts", "lines"] (defScope s_declared_parts) := ⟨rfl, rfl, rfl, by decide +kernel, rfl, by decide +kernel, by decide +kernel⟩
theorem sc_kind_of : FnScope ["ident", "declared"] ["ident", "declared"] (defScope s_kind_of) := ⟨rfl, rfl, rfl, by decide +kernel, rfl, by decide +kernel, by decide +kernel⟩
theorem sc_check_known : FnScope ["line", "statement", "declared", "word", "at", "kinds", "ident"] ["line", "statement", "declared"] (defScope s_check_known) := ⟨rfl, rfl, rfl, by decide +kernel, rfl, by decide +kernel, by decide +kernel⟩
theorem sc_check_listing : FnScope ["line", "statement", "at", "ident"] ["line", "statement"] (defScope s_check_listing) := ⟨rfl, rfl, rfl, by decide +kernel, rfl, by decide +kernel, by decide +kernel⟩
theorem sc_check_order : FnScope ["line", "place", "statement", "declared", "word", "ident", "limit"] ["line", "place", "statement", "declared"] (defScope s_check_order) := ⟨rfl, rfl, rfl, by decide +kernel, rfl, by decide +kernel, by decide +kernel⟩
theorem sc_check_statement : FnScope ["line", "place", "statement", "declared"] ["line", "place", "statement", "declared"] (defScope s_check_statement) := ⟨rfl, rfl, rfl, by decide +kernel, rfl, by decide +kernel, by decide +kernel⟩
theorem sc_with_ordered_lists : FnScope ["parts", "order", "part", "ordered"] ["parts"] (defScope s_with_ordered_lists) := ⟨rfl, rfl, rfl, by decide +kernel, rfl, by decide +kernel, by decide +kernel⟩
theorem sc_settled : FnScope ["parts", "lines", "declared", "line", "own", "place", "item"] ["parts", "lines"] (defScope s_settled) := ⟨rfl, rfl, rfl, by decide +kernel, rfl, by decide +kernel, by decide +kernel⟩
theorem sc_check : FnScope ["parts", "row"] ["parts"] (defScope s_check) := ⟨rfl, rfl, rfl, by decide +kernel, rfl, by decide +kernel, by decide +kernel⟩
theorem sc_keepings : FnScope ["parts", "found", "line", "place", "statement", "slot"] ["parts"] (defScope s_keepings) := ⟨rfl, rfl, rfl, by decide +kernel, rfl, by decide +kernel, by decide +kernel⟩
theorem sc_law_tape : FnScope ["_law_script", "_law_k", "_law_cell"] ["_law_script", "_law_k"] (defScope s_law_tape) := ⟨rfl, rfl, rfl, by decide +kernel, rfl, by decide +kernel, by decide +kernel⟩
theorem sc_law_draw : FnScope ["_law_tape_here", "_law_many", "_law_digit", "_law_prime", "_law_base", "_law_mixed"] ["_law_tape_here", "_law_many"] (defScope s_law_draw) := ⟨rfl, rfl, rfl, by decide +kernel, rfl, by decide +kernel, by decide +kernel⟩
theorem sc_law_kept : FnScope ["_law_text"] [] (defScope s_law_kept) := ⟨rfl, rfl, rfl, by decide +kernel, rfl, by decide +kernel, by decide +kernel⟩
theorem sc_law_signs : FnScope [] [] (defScope s_law_signs) := ⟨rfl, rfl, rfl, by decide +kernel, rfl, by decide +kernel, by decide +kernel⟩
theorem sc_law_spelled : FnScope ["_law_tape_here", "_law_used", "_law_shape", "_law_size", "_law_word_here", "_law_place"] ["_law_tape_here", "_law_used"] (defScope s_law_spelled) := ⟨rfl, rfl, rfl, by decide +kernel, rfl, by decide +kernel, by decide +kernel⟩
theorem sc_law_ident : FnScope ["_law_tape_here", "_law_used", "_law_word_here", "_law_number"] ["_law_tape_here", "_law_used"] (defScope s_law_ident) := ⟨rfl, rfl, rfl, by decide +kernel, rfl, by decide +kernel, by decide +kernel⟩
theorem sc_law_word : FnScope ["_law_tape_here", "_law_size", "_law_word_here", "_law_place"] ["_law_tape_here"] (defScope s_law_word) := ⟨rfl, rfl, rfl, by decide +kernel, rfl, by decide +kernel, by decide +kernel⟩
theorem sc_law_heads : FnScope ["_law_script", "_law_most", "_law_tape_here", "_law_kinds", "_law_step", "_law_heads_here", "_law_kind", "_law_head"] ["_law_script", "_law_most"] (defScope s_law_heads) := ⟨rfl, rfl, rfl, by decide +kernel, rfl, by decide +kernel, by decide +kernel⟩
theorem sc_law_idents : FnScope ["_law_heads_here", "_law_kinds", "_law_head"] ["_law_heads_here", "_law_kinds"] (defScope s_law_idents) := ⟨rfl, rfl, rfl, by decide +kernel, rfl, by decide +kernel, by decide +kernel⟩
theorem sc_law_pick : FnScope ["_law_tape_here", "_law_pool"] ["_law_tape_here", "_law_pool"] (defScope s_law_pick) := ⟨rfl, rfl, rfl, by decide +kernel, rfl, by decide +kernel, by decide +kernel⟩
theorem sc_law_captured : FnScope ["_law_tape_here", "_law_heads_here", "_law_bound", "_law_chosen", "_law_ident_here"] ["_law_tape_here", "_law_heads_here"] (defScope s_law_captured) := ⟨rfl, rfl, rfl, by decide +kernel, rfl, by decide +kernel, by decide +kernel⟩
theorem sc_law_pairs_above : FnScope ["_law_heads_here", "_law_first", "_law_second", "_law_found", "_law_low", "_law_above", "_law_head", "_law_ident_here"] ["_law_heads_here", "_law_first", "_law_second"] (defScope s_law_pairs_above) := ⟨rfl, rfl, rfl, by decide +kernel, rfl, by decide +kernel, by decide +kernel⟩
theorem sc_law_slot_statement : FnScope ["_law_tape_here", "_law_heads_here", "_law_above", "_law_kind", "_law_slots", "_law_keeps", "_law_shifts", "_law_pair"] ["_law_tape_here", "_law_heads_here", "_law_above", "_law_kind"] (defScope s_law_slot_statement) := ⟨rfl, rfl, rfl, by decide +kernel, rfl, by decide +kernel, by decide +kernel⟩
theorem sc_law_bind : FnScope ["_law_tape_here", "_law_heads_here", "_law_rows_here", "_law_ident_here", "_law_own", "_law_head", "_law_word_here"] ["_law_tape_here", "_law_heads_here", "_law_rows_here"] (defScope s_law_bind) := ⟨rfl, rfl, rfl, by decide +kernel, rfl, by decide +kernel, by decide +kernel⟩
theorem sc_law_block : FnScope ["_law_tape_here", "_law_heads_here", "_law_above", "_law_kind", "_law_level", "_law_rows_here", "_law_flag", "_law_slot"] ["_law_tape_here", "_law_heads_here", "_law_above", "_law_kind", "_law_level"] (defScope s_law_block) := ⟨rfl, rfl, rfl, by decide +kernel, rfl, by decide +kernel, by decide +kernel⟩
theorem sc_law_statement : FnScope ["_law_tape_here", "_law_heads_here", "_law_above", "_law_level", "_law_kinds", "_law_kind"] ["_law_tape_here", "_law_heads_here", "_law_above", "_law_level"] (defScope s_law_statement) := ⟨rfl, rfl, rfl, by decide +kernel, rfl, by decide +kernel, by decide +kernel⟩
theorem sc_law_rows : FnScope ["_law_tape_here", "_law_heads_here", "_law_above", "_law_level", "_law_rows_here", "_law_step"] ["_law_tape_here", "_law_heads_here", "_law_above", "_law_level"] (defScope s_law_rows) := ⟨rfl, rfl, rfl, by decide +kernel, rfl, by decide +kernel, by decide +kernel⟩
theorem sc_law_function : FnScope ["_law_tape_here", "_law_heads_here", "_law_place", "_law_rows_here", "_law_step"] ["_law_tape_here", "_law_heads_here", "_law_place"] (defScope s_law_function) := ⟨rfl, rfl, rfl, by decide +kernel, rfl, by decide +kernel, by decide +kernel⟩
theorem sc_law_parts : FnScope ["_law_script", "_law_most", "_law_heads_here", "_law_parts_here", "_law_place", "_law_tape_here", "_law_kind", "_law_ident_here", "_law_access"] ["_law_script", "_law_most"] (defScope s_law_parts) := ⟨rfl, rfl, rfl, by decide +kernel, rfl, by decide +kernel, by decide +kernel⟩
theorem sc_law_blocks : FnScope ["_law_statement_here"] ["_law_statement_here"] (defScope s_law_blocks) := ⟨rfl, rfl, rfl, by decide +kernel, rfl, by decide +kernel, by decide +kernel⟩
theorem sc_law_listed_rows : FnScope ["_law_found", "_law_rows_here", "_law_line", "_law_place", "_law_statement_here", "_law_blocks_here", "_law_at"] ["_law_found", "_law_rows_here", "_law_line", "_law_place"] (defScope s_law_listed_rows) := ⟨rfl, rfl, rfl, by decide +kernel, rfl, by decide +kernel, by decide +kernel⟩
theorem sc_law_listed : FnScope ["_law_parts_here", "_law_found", "_law_line", "_law_place"] ["_law_parts_here"] (defScope s_law_listed) := ⟨rfl, rfl, rfl, by decide +kernel, rfl, by decide +kernel, by decide +kernel⟩
theorem sc_law_due : FnScope ["_law_parts_here", "_law_order", "_law_part", "_law_found", "_law_line", "_law_place", "_law_item", "_law_slot", "_law_captured_here", "_law_ident_here"] ["_law_parts_here"] (defScope s_law_due) := ⟨rfl, rfl, rfl, by decide +kernel, rfl, by decide +kernel, by decide +kernel⟩
theorem sc_law : FnScope ["_law_script", "_law_parts_here", "_law_made"] ["_law_script"] (defScope s_law) := ⟨rfl, rfl, rfl, by decide +kernel, rfl, by decide +kernel, by decide +kernel⟩
end K12
open PySem PySem.W PyProof.Rows in
set_option maxHeartbeats 0 in
open_top hd12 for PySem.Challenge.rw_bindspan_k12_keepings
namespace DH
open PySem PySem.Spec PyProof.Rows L2
open PySem.W (Frag findIn nsIn keepIn)
theorem andB {a b : Bool} (h : (a && b) = true) : a = true ∧ b = true := Bool.and_eq_true_iff.mp h
inductive DT0 where
  | str (s : Str) | int (i : Int) | tup (xs : List DT0)
mutual
def dvB (K : Frag) : DT0 → Value → Bool
  | .str z, u => (match u with
    | .str y _ => decide (y = z)
    | _ => false)
  | .int i, u => (match u with
    | .int j _ => decide (j = i)
    | _ => false)
  | .tup ds, u => (match u with
    | .ref a => (match K.lookup a with
      | some ⟨.type c, _, .seq its _, _⟩ => decide (c = "tuple") && (decide (its.size ≤ sizeLine) && dvsB K ds its.toList)
      | _ => false)
    | _ => false)
def dvsB (K : Frag) : List DT0 → List Value → Bool
  | [], us => us.isEmpty
  | d :: ds, us => (match us with
    | u :: us => dvB K d u && dvsB K ds us
    | [] => false)
end
def kdB (K : Frag) (x : Str) (kvs : List (Str × DT0)) : Bool := kvs.all fun q => match nsIn K (He.ga K x) q.1 with
  | some (some u) => dvB K q.2 u
  | _ => false
structure Ask3 where
  a : Ask
  kd : List (Str × List (Str × DT0))
  tf : List He.Defn
structure Says3 (q : Ask3) (w : World) (h : Heap) (K : Frag) : Prop where
  a : obsK q.a K = valA q.a
  kdw : ∀ t ∈ q.kd, He.dicW K (He.ga K t.1) = some (He.keysIn w.params (t.2.map (·.1)))
  kdb : ∀ t ∈ q.kd, kdB K t.1 t.2 = true
  hd : ∀ p ∈ q.tf, PySem.W.codeHdIn K (He.cT K p).1 (He.cT K p).2 = true
  out : ∀ p ∈ q.tf, K.lookup (He.cT K p).2 = none
  empty : ∀ p ∈ q.tf, h.get? (He.cT K p).2 = some { cls := .none, data := .fields #[] }
end DH
namespace K12
open PySem L2 DL
def df_blocks_of : He.DefD := ⟨("blocks_of", none), "blocks_of", "blocks_of", defArgs s_blocks_of, defBody s_blocks_of, defScope s_blocks_of, [], []⟩
def df_rebuilt : He.DefD := ⟨("rebuilt", none), "rebuilt", "rebuilt", defArgs s_rebuilt, defBody s_rebuilt, defScope s_rebuilt, [], []⟩
def df_add_first_lines : He.DefD := ⟨("add_first_lines", none), "add_first_lines", "add_first_lines", defArgs s_add_first_lines, defBody s_add_first_lines, defScope s_add_first_lines, [], []⟩
def df_first_lines : He.DefD := ⟨("first_lines", none), "first_lines", "first_lines", defArgs s_first_lines, defBody s_first_lines, defScope s_first_lines, [], []⟩
def df_statements : He.DefD := ⟨("statements", none), "statements", "statements", defArgs s_statements, defBody s_statements, defScope s_statements, [], []⟩
def df_changed_rows : He.DefD := ⟨("changed_rows", none), "changed_rows", "changed_rows", defArgs s_changed_rows, defBody s_changed_rows, defScope s_changed_rows, [], []⟩
def df_changed : He.DefD := ⟨("changed", none), "changed", "changed", defArgs s_changed, defBody s_changed, defScope s_changed, [], []⟩
def df_is_word : He.DefD := ⟨("is_word", none), "is_word", "is_word", defArgs s_is_word, defBody s_is_word, defScope s_is_word, [], []⟩
def df_is_identifier : He.DefD := ⟨("is_identifier", none), "is_identifier", "is_identifier", defArgs s_is_identifier, defBody s_is_identifier, defScope s_is_identifier, [], []⟩
def df_is_setting : He.DefD := ⟨("is_setting", none), "is_setting", "is_setting", defArgs s_is_setting, defBody s_is_setting, defScope s_is_setting, [], []⟩
def df_is_listing : He.DefD := ⟨("is_listing", none), "is_listing", "is_listing", defArgs s_is_listing, defBody s_is_listing, defScope s_is_listing, [], []⟩
def df_is_value : He.DefD := ⟨("is_value", none), "is_value", "is_value", defArgs s_is_value, defBody s_is_value, defScope s_is_value, [], []⟩
def df_is_access : He.DefD := ⟨("is_access", none), "is_access", "is_access", defArgs s_is_access, defBody s_is_access, defScope s_is_access, [], []⟩
def df_fits : He.DefD := ⟨("fits", none), "fits", "fits", defArgs s_fits, defBody s_fits, defScope s_fits, [], []⟩
def df_is_rows : He.DefD := ⟨("is_rows", none), "is_rows", "is_rows", defArgs s_is_rows, defBody s_is_rows, defScope s_is_rows, [], []⟩
def df_is_statement : He.DefD := ⟨("is_statement", none), "is_statement", "is_statement", defArgs s_is_statement, defBody s_is_statement, defScope s_is_statement, [], []⟩
def df_is_part : He.DefD := ⟨("is_part", none), "is_part", "is_part", defArgs s_is_part, defBody s_is_part, defScope s_is_part, [], []⟩
def df_check_form : He.DefD := ⟨("check_form", none), "check_form", "check_form", defArgs s_check_form, defBody s_check_form, defScope s_check_form, [], []⟩
def df_declared_parts : He.DefD := ⟨("declared_parts", none), "declared_parts", "declared_parts", defArgs s_declared_parts, defBody s_declared_parts, defScope s_declared_parts, [], []⟩
def df_kind_of : He.DefD := ⟨("kind_of", none), "kind_of", "kind_of", defArgs s_kind_of, defBody s_kind_of, defScope s_kind_of, [], []⟩
def df_check_known : He.DefD := ⟨("check_known", none), "check_known", "check_known", defArgs s_check_known, defBody s_check_known, defScope s_check_known, [], []⟩
def df_check_listing : He.DefD := ⟨("check_listing", none), "check_listing", "check_listing", defArgs s_check_listing, defBody s_check_listing, defScope s_check_listing, [], []⟩
def df_check_order : He.DefD := ⟨("check_order", none), "check_order", "check_order", defArgs s_check_order, defBody s_check_order, defScope s_check_order, [], []⟩
def df_check_statement : He.DefD := ⟨("check_statement", none), "check_statement", "check_statement", defArgs s_check_statement, defBody s_check_statement, defScope s_check_statement, [], []⟩
def df_with_ordered_lists : He.DefD := ⟨("with_ordered_lists", none), "with_ordered_lists", "with_ordered_lists", defArgs s_with_ordered_lists, defBody s_with_ordered_lists, defScope s_with_ordered_lists, [], []⟩
def df_settled : He.DefD := ⟨("settled", none), "settled", "settled", defArgs s_settled, defBody s_settled, defScope s_settled, [], []⟩
def df_check : He.DefD := ⟨("check", none), "check", "check", defArgs s_check, defBody s_check, defScope s_check, [], []⟩
def df_keepings : He.DefD := ⟨("keepings", none), "keepings", "keepings", defArgs s_keepings, defBody s_keepings, defScope s_keepings, [], []⟩
def df_law_tape : He.DefD := ⟨("_law_tape", none), "_law_tape", "_law_tape", defArgs s_law_tape, defBody s_law_tape, defScope s_law_tape, [], []⟩
def df_law_draw : He.DefD := ⟨("_law_draw", none), "_law_draw", "_law_draw", defArgs s_law_draw, defBody s_law_draw, defScope s_law_draw, [], []⟩
def df_law_kept : He.DefD := ⟨("_law_kept", none), "_law_kept", "_law_kept", defArgs s_law_kept, defBody s_law_kept, defScope s_law_kept, [], []⟩
def df_law_signs : He.DefD := ⟨("_law_signs", none), "_law_signs", "_law_signs", defArgs s_law_signs, defBody s_law_signs, defScope s_law_signs, [], []⟩
def df_law_spelled : He.DefD := ⟨("_law_spelled", none), "_law_spelled", "_law_spelled", defArgs s_law_spelled, defBody s_law_spelled, defScope s_law_spelled, [], []⟩
def df_law_ident : He.DefD := ⟨("_law_ident", none), "_law_ident", "_law_ident", defArgs s_law_ident, defBody s_law_ident, defScope s_law_ident, [], []⟩
def df_law_word : He.DefD := ⟨("_law_word", none), "_law_word", "_law_word", defArgs s_law_word, defBody s_law_word, defScope s_law_word, [], []⟩
def df_law_heads : He.DefD := ⟨("_law_heads", none), "_law_heads", "_law_heads", defArgs s_law_heads, defBody s_law_heads, defScope s_law_heads, [], []⟩
def df_law_idents : He.DefD := ⟨("_law_idents", none), "_law_idents", "_law_idents", defArgs s_law_idents, defBody s_law_idents, defScope s_law_idents, [], []⟩
def df_law_pick : He.DefD := ⟨("_law_pick", none), "_law_pick", "_law_pick", defArgs s_law_pick, defBody s_law_pick, defScope s_law_pick, [], []⟩
def df_law_captured : He.DefD := ⟨("_law_captured", none), "_law_captured", "_law_captured", defArgs s_law_captured, defBody s_law_captured, defScope s_law_captured, [], []⟩
def df_law_pairs_above : He.DefD := ⟨("_law_pairs_above", none), "_law_pairs_above", "_law_pairs_above", defArgs s_law_pairs_above, defBody s_law_pairs_above, defScope s_law_pairs_above, [], []⟩
def df_law_slot_statement : He.DefD := ⟨("_law_slot_statement", none), "_law_slot_statement", "_law_slot_statement", defArgs s_law_slot_statement, defBody s_law_slot_statement, defScope s_law_slot_statement, [], []⟩
def df_law_bind : He.DefD := ⟨("_law_bind", none), "_law_bind", "_law_bind", defArgs s_law_bind, defBody s_law_bind, defScope s_law_bind, [], []⟩
def df_law_block : He.DefD := ⟨("_law_block", none), "_law_block", "_law_block", defArgs s_law_block, defBody s_law_block, defScope s_law_block, [], []⟩
def df_law_statement : He.DefD := ⟨("_law_statement", none), "_law_statement", "_law_statement", defArgs s_law_statement, defBody s_law_statement, defScope s_law_statement, [], []⟩
def df_law_rows : He.DefD := ⟨("_law_rows", none), "_law_rows", "_law_rows", defArgs s_law_rows, defBody s_law_rows, defScope s_law_rows, [], []⟩
def df_law_function : He.DefD := ⟨("_law_function", none), "_law_function", "_law_function", defArgs s_law_function, defBody s_law_function, defScope s_law_function, [], []⟩
def df_law_parts : He.DefD := ⟨("_law_parts", none), "_law_parts", "_law_parts", defArgs s_law_parts, defBody s_law_parts, defScope s_law_parts, [], []⟩
def df_law_blocks : He.DefD := ⟨("_law_blocks", none), "_law_blocks", "_law_blocks", defArgs s_law_blocks, defBody s_law_blocks, defScope s_law_blocks, [], []⟩
def df_law_listed_rows : He.DefD := ⟨("_law_listed_rows", none), "_law_listed_rows", "_law_listed_rows", defArgs s_law_listed_rows, defBody s_law_listed_rows, defScope s_law_listed_rows, [], []⟩
def df_law_listed : He.DefD := ⟨("_law_listed", none), "_law_listed", "_law_listed", defArgs s_law_listed, defBody s_law_listed, defScope s_law_listed, [], []⟩
def df_law_due : He.DefD := ⟨("_law_due", none), "_law_due", "_law_due", defArgs s_law_due, defBody s_law_due, defScope s_law_due, [], []⟩
def df_law : He.DefD := ⟨("law", none), "law", "law", defArgs s_law, defBody s_law, defScope s_law, [], []⟩
def fas0 : List He.Fa := [.glo "blocks_of", .glo "rebuilt", .glo "add_first_lines", .glo "first_lines", .glo "statements", .glo "changed_rows", .glo "changed", .glo "is_word", .glo "is_identifier", .glo "is_setting", .glo "is_listing", .glo "is_value", .glo "is_access", .glo "fits", .glo "is_rows"]
def fas1 : List He.Fa := [.glo "is_statement", .glo "is_part", .glo "check_form", .glo "declared_parts", .glo "kind_of", .glo "check_known", .glo "check_listing", .glo "check_order", .glo "check_statement", .glo "with_ordered_lists", .glo "settled", .glo "check", .glo "keepings", .glo "_law_tape", .glo "_law_draw"]
def fas2 : List He.Fa := [.glo "_law_kept", .glo "_law_signs", .glo "_law_spelled", .glo "_law_ident", .glo "_law_word", .glo "_law_heads", .glo "_law_idents", .glo "_law_pick", .glo "_law_captured", .glo "_law_pairs_above", .glo "_law_slot_statement", .glo "_law_bind", .glo "_law_block", .glo "_law_statement", .glo "_law_rows"]
def fas3 : List He.Fa := [.glo "_law_function", .glo "_law_parts", .glo "_law_blocks", .glo "_law_listed_rows", .glo "_law_listed", .glo "_law_due", .glo "law", .free "zip", .free "enumerate", .free "reversed", .free "len", .free "int", .free "str", .free "all", .free "tuple"]
def fas4 : List He.Fa := [.free "list", .free "isinstance", .free "range", .str "LETTERS" "abcdefghijklmnopqrstuvwxyz", .str "DIGITS" "0123456789", .int "LONGEST" 12, .int "MOST_BLOCKS" 8, .glo "KEPT", .glo "PART_WORDS", .glo "BOUND_WORDS", .glo "KEEPINGS", .glo "SHAPES", .glo "WANTED"]
def fas : List He.Fa := fas0 ++ fas1 ++ fas2 ++ fas3 ++ fas4
def fns0 : List He.DefD := [df_blocks_of, df_rebuilt, df_add_first_lines, df_first_lines, df_statements, df_changed_rows, df_changed, df_is_word, df_is_identifier, df_is_setting, df_is_listing, df_is_value, df_is_access, df_fits, df_is_rows]
def fns1 : List He.DefD := [df_is_statement, df_is_part, df_check_form, df_declared_parts, df_kind_of, df_check_known, df_check_listing, df_check_order, df_check_statement, df_with_ordered_lists, df_settled, df_check, df_keepings, df_law_tape, df_law_draw]
def fns2 : List He.DefD := [df_law_kept, df_law_signs, df_law_spelled, df_law_ident, df_law_word, df_law_heads, df_law_idents, df_law_pick, df_law_captured, df_law_pairs_above, df_law_slot_statement, df_law_bind, df_law_block, df_law_statement, df_law_rows]
def fns3 : List He.DefD := [df_law_function, df_law_parts, df_law_blocks, df_law_listed_rows, df_law_listed, df_law_due, df_law]
def fns : List He.DefD := fns0 ++ fns1 ++ fns2 ++ fns3
def fnas : List He5.DefA := []
def sups0 : List DH.SupQ := []
def sups : List DH.SupQ := sups0
def tv_KEPT : List He.Dv := [.str "name", .str "flag", .str "slot", .str "func", .str "open", .str "own", .str "look", .str "bind", .str "call", .str "keep", .str "take", .str "shift", .str "run", .str "drop", .str "apart", .str "when", .str "held", .str "fail", .str "guard", .str "else", .str "after", .str "end", .str "with", .str "of", .str "on", .str "off"]
def tv_PART_WORDS : List He.Dv := [.str "name", .str "flag", .str "slot", .str "func"]
def tv_BOUND_WORDS : List He.Dv := [.str "name", .str "flag"]
def tv_KEEPINGS : List He.Dv := [.str "keep", .str "take", .str "shift"]
def exs (K : PySem.W.Frag) : Bool := He.tupB K "KEPT" tv_KEPT && (He.tupB K "PART_WORDS" tv_PART_WORDS && (He.tupB K "BOUND_WORDS" tv_BOUND_WORDS && (He.tupB K "KEEPINGS" tv_KEEPINGS)))
def ask : DH.Ask := { n := 0, fa := fas, fn := fns, sup := sups, file := PySem.Challenge.pw_bindspan_k12_keepings.main.file, ex := exs, fna := fnas }
def kv_SHAPES : List (PySem.Str × DH.DT0) := [("look", .tup [.str "word", .str "ident"]), ("bind", .tup [.str "ident", .str "value", .str "rows"]), ("call", .tup [.str "ident"]), ("keep", .tup [.str "ident", .str "ident", .str "listing"]), ("take", .tup [.str "ident", .str "listing"]), ("shift", .tup [.str "ident", .str "ident", .str "listing"]), ("run", .tup [.str "ident"]), ("drop", .tup [.str "ident"]), ("apart", .tup [.str "rows"]), ("when", .tup [.str "ident", .str "rows", .str "rows"]), ("held", .tup [.str "ident", .str "rows", .str "rows"]), ("fail", .tup []), ("guard", .tup [.str "rows", .str "rows"])]
def kv_WANTED : List (PySem.Str × DH.DT0) := [("look", .tup [.tup [.int 2, .tup [.str "name"]]]), ("bind", .tup [.tup [.int 1, .tup [.str "name", .str "flag"]]]), ("call", .tup [.tup [.int 1, .tup [.str "func"]]]), ("keep", .tup [.tup [.int 1, .tup [.str "slot"]], .tup [.int 2, .tup [.str "func"]]]), ("take", .tup [.tup [.int 1, .tup [.str "slot"]]]), ("shift", .tup [.tup [.int 1, .tup [.str "slot"]], .tup [.int 2, .tup [.str "slot"]]]), ("run", .tup [.tup [.int 1, .tup [.str "slot"]]]), ("drop", .tup [.tup [.int 1, .tup [.str "slot"]]]), ("apart", .tup []), ("when", .tup [.tup [.int 1, .tup [.str "flag"]]]), ("held", .tup [.tup [.int 1, .tup [.str "slot"]]]), ("fail", .tup []), ("guard", .tup [])]
def ask3 : DH.Ask3 := { a := ask, kd := [("SHAPES", kv_SHAPES), ("WANTED", kv_WANTED)], tf := [("with_ordered_lists", none)] }
abbrev R : PySem.W.OpenRow := PySem.W.OpenLaw.row PySem.Challenge.rw_bindspan_k12_keepings
def names0 : List PySem.Str := ["__name__", "BindspanError", "BadModule", "BadTree", "Duplicate", "Unknown", "BadWord", "Repeated", "OutOfOrder", "PART_WORDS", "BOUND_WORDS", "KEEPINGS", "blocks_of", "rebuilt", "add_first_lines", "first_lines", "statements", "changed_rows", "changed", "LETTERS"]
def names1 : List PySem.Str := ["DIGITS", "LONGEST", "KEPT", "is_word", "is_identifier", "is_setting", "MOST_BLOCKS", "SHAPES", "WANTED", "is_listing", "is_value", "is_access", "fits", "is_rows", "is_statement", "is_part", "check_form", "declared_parts", "kind_of", "check_known"]
def names2 : List PySem.Str := ["check_listing", "check_order", "check_statement", "with_ordered_lists", "settled", "check", "keepings", "_law_tape", "_law_draw", "_law_kept", "_law_signs", "_law_spelled", "_law_ident", "_law_word", "_law_heads", "_law_idents", "_law_pick", "_law_captured", "_law_pairs_above", "_law_slot_statement"]
def names3 : List PySem.Str := ["_law_bind", "_law_block", "_law_statement", "_law_rows", "_law_function", "_law_parts", "_law_blocks", "_law_listed_rows", "_law_listed", "_law_is_head", "_law_due"]
def names : List PySem.Str := names0 ++ names1 ++ names2 ++ names3
theorem hA (P : Params) : DH.obsK ask (hd12.heap_39 P) = DH.valA ask := by kernel_rfl
theorem hK (P : Params) : ask3.kd.map (fun t => He.dicW (hd12.heap_39 P) (He.ga (hd12.heap_39 P) t.1)) = ask3.kd.map fun t => some (He.keysIn P (t.2.map (·.1))) := by kernel_rfl
theorem hB2 (P : Params) : (ask3.kd.all fun t => DH.kdB (hd12.heap_39 P) t.1 t.2) = true := by kernel_rfl
def tbs : List Addr := [379]
theorem hT (P : Params) : (ask3.tf.all fun p => PySem.W.codeHdIn (hd12.heap_39 P) (He.cT (hd12.heap_39 P) p).1 (He.cT (hd12.heap_39 P) p).2 && (((hd12.heap_39 P).lookup (He.cT (hd12.heap_39 P) p).2).isNone && tbs.contains (He.cT (hd12.heap_39 P) p).2)) = true := by kernel_rfl
theorem says {w : World} {h : Heap} (t : ∀ p ∈ tbs, h.get? p = some { cls := .none, data := .fields #[] }) : DH.Says3 ask3 w h (hd12.heap_39 w.params) :=
  have q : ∀ p ∈ ask3.tf, PySem.W.codeHdIn (hd12.heap_39 w.params) (He.cT (hd12.heap_39 w.params) p).1 (He.cT (hd12.heap_39 w.params) p).2 = true ∧ ((hd12.heap_39 w.params).lookup (He.cT (hd12.heap_39 w.params) p).2).isNone = true ∧ tbs.contains (He.cT (hd12.heap_39 w.params) p).2 = true := fun p hp => by
    obtain ⟨a, b⟩ := DH.andB (List.all_eq_true.mp (hT w.params) p hp)
    exact ⟨a, DH.andB b⟩
  ⟨hA _, fun t ht => List.map_inj_left.mp (hK w.params) t ht, fun t ht => List.all_eq_true.mp (hB2 w.params) t ht, fun p hp => (q p hp).1, fun p hp => Option.isNone_iff_eq_none.mp (q p hp).2.1, fun p hp => t _ (List.contains_iff_mem.mp (q p hp).2.2)⟩
end K12
namespace DL
open PySem L2
/-- of a program: how many fields an own class has, which name a def at a place has -/
structure NFs where
  n : Addr → Nat
  nm : Nat → Nat → Str := fun _ _ => Str.empty
  tbs : List Addr := []
instance : CoeFun NFs (fun _ => Addr → Nat) := ⟨NFs.n⟩
/-- neither a table of code objects nor anything of another kind -/
def Pl (u : HO) : Prop := (∀ ps, u ≠ .tbl ps) ∧ ∀ f, u ≠ .ext f
/-- a def within a def: its words, the names that it captures -/
structure NFd where
  name : Str
  qual : Str
  params : Arguments
  body : List Stmt
  scope : Scope
  fr : List Str
def NFd.nf (W : NFd) (cl : List (Str × Addr)) (c : Addr) : NdefX.NF := ⟨W.name, W.qual, W.params, W.body, W.scope, cl, c⟩
/-- deep data; `fn0 W cl`: a function made of W, its cells; `fn W ds`: one whose cells are lent, what they hold; `cls a`: an object known by its address alone -/
inductive D where
  | non | bl (b : Bool) | int (i : Int) | str (s : Str) | ty (n : String) | cls (a : Addr)
  | tup (xs : List D) | lst (xs : List D) | dct (kvs : List (Key × D)) | obj (C : Addr) (fs : List (Str × D)) | scr (ns : List Int) | exc (C : Addr) (fs : List (Str × D)) | fn0 (W : NFd) (cl : List (Str × Addr)) | fn (W : NFd) (ds : List D)
section
variable (K : PySem.W.Frag) (nf : NFs) (H : Hp)
/-- a list that is read and never written any more -/
def FzL (a : Addr) (xs : List V) : Prop := ∃ o, H a = some (.frz o (.lst xs))
/-- the law's script: a list that nobody writes, or one of the module -/
def ScrL (a : Addr) (xs : List V) : Prop := FzL H a xs ∨ ∃ (o : Obj) (its : Array Value) (n : Nat), K.lookup a = some o ∧ o.cls = .type "list" ∧ o.dict = none ∧ o.data = .seq its n ∧ its.size ≤ sizeLine ∧ Vals xs its.toList
/-- an error held as a value: its object, its fields -/
def ExcV (a C : Addr) (oe : Obj) (fs : List (Str × V)) : Prop := H a = some (.frz oe (.ext fun _ => True)) ∧ oe.cls = .ref C ∧ (∃ vs, oe.data = .fields vs) ∧ ((oe.dict = none ∧ fs = []) ∨ ∃ dx od, oe.dict = some dx ∧ H dx = some (.frz od (.xd fs)))
/-- the function object at f, its code object -/
def FnV (f : Addr) (W : NFd) (cl : List (Str × Addr)) : Prop := ∃ c, H f = some (NdefX.FnO f (W.nf cl c)) ∧ H c = some (LamX.CodeO c W.qual)
/-- cells that are lent: known objects -/
structure CellsV (cl : List (Str × Addr)) (fr : List Str) (vs : List V) : Prop where
  len : vs.length = fr.length
  all : ∀ y c, cl.lookup y = some c → ∃ o v, H c = some (.frz o (.ext fun _ => True)) ∧ o.data = .cell v
  inj : ∀ x y c, cl.lookup x = some c → cl.lookup y = some c → x = y
  has : ∀ (i : Nat) (y : Str) (v : V), fr[i]? = some y → vs[i]? = some v → ∃ c o u, cl.lookup y = some c ∧ H c = some (.frz o (.ext fun _ => True)) ∧ o.data = .cell (some u) ∧ RelV v u
mutual
inductive Rel : V → D → Prop
  | non : Rel .non .non
  | bl (b : Bool) : Rel (.bl b) (.bl b)
  | int (i : Int) : Rel (.int i) (.int i)
  | str (s : Str) : Rel (.str s) (.str s)
  | ty (n : String) : Rel (.ty n) (.ty n)
  | cls (a : Addr) : Rel (.ref a) (.cls a)
  | tup {a : Addr} {vs : List V} {ds : List D} : SqT K H a vs → Rels vs ds → Rel (.ref a) (.tup ds)
  | lst {a : Addr} {vs : List V} {ds : List D} : FzL H a vs → Rels vs ds → Rel (.ref a) (.lst ds)
  | dct {a : Addr} {o : Obj} {kvs : List (Key × V)} {kds : List (Key × D)} : H a = some (.frz o (.dK kvs)) → RelK kvs kds → Rel (.ref a) (.dct kds)
  | obj {a C dx : Addr} {fs : List (Str × V)} {fds : List (Str × D)} : H a = some (.ins C dx fs) → nf C ≠ 0 → fs.length = nf C → RelF fs fds → Rel (.ref a) (.obj C fds)
  | scr {a : Addr} {ns : List Int} : ScrL K H a (ns.map .int) → Rel (.ref a) (.scr ns)
  | exc {a C : Addr} {oe : Obj} {fs : List (Str × V)} {fds : List (Str × D)} : ExcV H a C oe fs → RelF fs fds → Rel (.ref a) (.exc C fds)
  | fn0 {f : Addr} {W : NFd} {cl : List (Str × Addr)} : FnV H f W cl → Rel (.ref f) (.fn0 W cl)
  | fn {f : Addr} {W : NFd} {cl : List (Str × Addr)} {vs : List V} {ds : List D} : FnV H f W cl → CellsV H cl W.fr vs → Rels vs ds → Rel (.ref f) (.fn W ds)
inductive Rels : List V → List D → Prop
  | nil : Rels [] []
  | cons {v : V} {vs : List V} {d : D} {ds : List D} : Rel v d → Rels vs ds → Rels (v :: vs) (d :: ds)
inductive RelK : List (Key × V) → List (Key × D) → Prop
  | nil : RelK [] []
  | cons {k : Key} {v : V} {vs : List (Key × V)} {d : D} {ds : List (Key × D)} : Rel v d → RelK vs ds → RelK ((k, v) :: vs) ((k, d) :: ds)
inductive RelF : List (Str × V) → List (Str × D) → Prop
  | nil : RelF [] []
  | cons {k : Str} {v : V} {vs : List (Str × V)} {d : D} {ds : List (Str × D)} : Rel v d → RelF vs ds → RelF ((k, v) :: vs) ((k, d) :: ds)
end
end
/-- never written any more -/
def Fzn (nf : NFs) : HO → Prop
  | .tup _ => True
  | .frz _ _ => True
  | .ins C _ fs => nf C ≠ 0 ∧ fs.length = nf C
  | .ext _ => True
  | _ => False
def Stp (nf : NFs) (H H' : Hp) : Prop := ∀ a u, H a = some u → Fzn nf u → H' a = some u
section
variable {K : PySem.W.Frag} {nf : NFs} {H H' H1 H2 : Hp}
theorem Stp.refl : Stp nf H H := fun _ _ h _ => h
theorem Stp.trans (a : Stp nf H H1) (b : Stp nf H1 H2) : Stp nf H H2 := fun x u h f => b x u (a x u h f) f
theorem FzL.mono {a : Addr} {xs : List V} (e : Stp nf H H') (h : FzL H a xs) : FzL H' a xs := by
  obtain ⟨o, h⟩ := h
  exact ⟨o, e _ _ h trivial⟩
theorem FzL.rd {a : Addr} {xs : List V} (h : FzL H a xs) : Rd H a (.lst xs) := .inr h
theorem FzL.sq {a : Addr} {xs : List V} (h : FzL H a xs) : SqL K H a xs := .inl (.inr h)
theorem ScrL.mono {a : Addr} {xs : List V} (e : Stp nf H H') (h : ScrL K H a xs) : ScrL K H' a xs := h.imp (fun z => z.mono e) id
theorem ScrL.sq {a : Addr} {xs : List V} (h : ScrL K H a xs) : SqL K H a xs := by
  rcases h with h | h
  · exact h.sq
  · exact .inr h
theorem ScrL.of {a : Addr} {xs : List V} (h : SqL K H a xs) (hO : ∀ b, H b = none ∨ ∃ o xs, H b = some (.frz o (.lst xs))) : ScrL K H a xs := by
  rcases h with (h | h) | h
  · rcases hO a with z | ⟨o, ys, z⟩
    · rw [h] at z; cases z
    · rw [h] at z; cases z
  · exact .inl h
  · exact .inr h
theorem sqT_mono {a : Addr} {xs : List V} (e : Stp nf H H') (h : SqT K H a xs) : SqT K H' a xs := by
  rcases h with (h | ⟨o, h⟩) | h
  · exact .inl (.inl (e _ _ h trivial))
  · exact .inl (.inr ⟨o, e _ _ h trivial⟩)
  · exact .inr h
theorem FnV.mono {f : Addr} {W : NFd} {cl : List (Str × Addr)} (e : Stp nf H H') (h : FnV H f W cl) : FnV H' f W cl := by
  obtain ⟨c, h1, h2⟩ := h
  exact ⟨c, e _ _ h1 trivial, e _ _ h2 trivial⟩
theorem CellsV.mono {cl : List (Str × Addr)} {fr : List Str} {vs : List V} (e : Stp nf H H') (h : CellsV H cl fr vs) : CellsV H' cl fr vs :=
  ⟨h.len, fun y c z => by
    obtain ⟨o, v, h1, h2⟩ := h.all y c z
    exact ⟨o, v, e _ _ h1 trivial, h2⟩, h.inj, fun i y v h1 h2 => by
    obtain ⟨c, o, u, e1, e2, e3⟩ := h.has i y v h1 h2
    exact ⟨c, o, u, e1, e _ _ e2 trivial, e3⟩⟩
theorem ExcV.mono {a C : Addr} {oe : Obj} {fs : List (Str × V)} (e : Stp nf H H') (h : ExcV H a C oe fs) : ExcV H' a C oe fs := by
  obtain ⟨h1, h2, h3, h4⟩ := h
  refine ⟨e _ _ h1 trivial, h2, h3, h4.imp id ?_⟩
  rintro ⟨dx, od, d1, d2⟩
  exact ⟨dx, od, d1, e _ _ d2 trivial⟩
mutual
theorem Rel.mono (e : Stp nf H H') : ∀ {v : V} {d : D}, Rel K nf H v d → Rel K nf H' v d
  | _, _, .non => .non
  | _, _, .bl b => .bl b
  | _, _, .int i => .int i
  | _, _, .str s => .str s
  | _, _, .ty n => .ty n
  | _, _, .cls a => .cls a
  | _, _, .tup h r => .tup (sqT_mono e h) (Rels.mono e r)
  | _, _, .lst h r => .lst (h.mono e) (Rels.mono e r)
  | _, _, .dct h r => .dct (e _ _ h trivial) (RelK.mono e r)
  | _, _, .obj h n l r => .obj (e _ _ h ⟨n, l⟩) n l (RelF.mono e r)
  | _, _, .scr h => .scr (h.mono e)
  | _, _, .exc h r => .exc (h.mono e) (RelF.mono e r)
  | _, _, .fn0 h => .fn0 (h.mono e)
  | _, _, .fn h c r => .fn (h.mono e) (c.mono e) (Rels.mono e r)
theorem Rels.mono (e : Stp nf H H') : ∀ {vs : List V} {ds : List D}, Rels K nf H vs ds → Rels K nf H' vs ds
  | _, _, .nil => .nil
  | _, _, .cons h r => .cons (Rel.mono e h) (Rels.mono e r)
theorem RelK.mono (e : Stp nf H H') : ∀ {vs : List (Key × V)} {ds : List (Key × D)}, RelK K nf H vs ds → RelK K nf H' vs ds
  | _, _, .nil => .nil
  | _, _, .cons h r => .cons (Rel.mono e h) (RelK.mono e r)
theorem RelF.mono (e : Stp nf H H') : ∀ {vs : List (Str × V)} {ds : List (Str × D)}, RelF K nf H vs ds → RelF K nf H' vs ds
  | _, _, .nil => .nil
  | _, _, .cons h r => .cons (Rel.mono e h) (RelF.mono e r)
end
theorem Rels.length : ∀ {vs : List V} {ds : List D}, Rels K nf H vs ds → vs.length = ds.length
  | _, _, .nil => rfl
  | _, _, .cons _ r => by rw [List.length_cons, List.length_cons, Rels.length r]
theorem Rels.get : ∀ {vs : List V} {ds : List D} {i : Nat} {d : D}, Rels K nf H vs ds → ds[i]? = some d → ∃ v, vs[i]? = some v ∧ Rel K nf H v d
  | _, _, _, _, .nil, e => by simp at e
  | _, _, 0, _, .cons h _, e => by simp at e; subst e; exact ⟨_, rfl, h⟩
  | _, _, i + 1, d, .cons _ r, e => by
    obtain ⟨v, h1, h2⟩ := Rels.get (i := i) (d := d) r (by simpa using e)
    exact ⟨v, by simpa using h1, h2⟩
theorem Rels.getV : ∀ {vs : List V} {ds : List D} {i : Nat} {v : V}, Rels K nf H vs ds → vs[i]? = some v → ∃ d, ds[i]? = some d ∧ Rel K nf H v d
  | _, _, _, _, .nil, e => by simp at e
  | _, _, 0, _, .cons h _, e => by simp at e; subst e; exact ⟨_, rfl, h⟩
  | _, _, i + 1, d, .cons _ r, e => by
    obtain ⟨v, h1, h2⟩ := Rels.getV (i := i) (v := d) r (by simpa using e)
    exact ⟨v, by simpa using h1, h2⟩
theorem Rels.append : ∀ {vs ws : List V} {ds es : List D}, Rels K nf H vs ds → Rels K nf H ws es → Rels K nf H (vs ++ ws) (ds ++ es)
  | _, _, _, _, .nil, s => s
  | _, _, _, _, .cons h r, s => .cons h (Rels.append r s)
theorem Rels.take : ∀ {vs : List V} {ds : List D} (n : Nat), Rels K nf H vs ds → Rels K nf H (vs.take n) (ds.take n)
  | _, _, 0, _ => .nil
  | _, _, _ + 1, .nil => .nil
  | _, _, n + 1, .cons h r => .cons h (Rels.take n r)
theorem Rels.drop : ∀ {vs : List V} {ds : List D} (n : Nat), Rels K nf H vs ds → Rels K nf H (vs.drop n) (ds.drop n)
  | _, _, 0, r => r
  | _, _, _ + 1, .nil => .nil
  | _, _, n + 1, .cons _ r => Rels.drop n r
/-- an owned thing: its value, the addresses that it owns, what is true of the heap there -/
structure OA (nf : NFs) where
  inv : V → List Addr → Hp → Prop
  frame : ∀ {v fp H H'}, inv v fp H → (∀ a ∈ fp, H' a = H a) → Stp nf H H' → inv v fp H'
  trk : ∀ {v fp H}, inv v fp H → ∀ a ∈ fp, ∃ u, H a = some u ∧ ¬ Fzn nf u ∧ Pl u
  nd : ∀ {v fp H}, inv v fp H → fp.Nodup
inductive SD (nf : NFs) where
  | un | fz (d : D) | ow (v : V) (A : OA nf) | fr (v : V) (d : D)
def SlotR (K : PySem.W.Frag) (nf : NFs) (H : Hp) (o : Option V) (fp : List Addr) : SD nf → Prop
  | .un => fp = []
  | .fz d => fp = [] ∧ ∃ v, o = some v ∧ Rel K nf H v d
  | .ow v A => o = some v ∧ A.inv v fp H
  | .fr v d => fp = [] ∧ o = some v ∧ Rel K nf H v d
inductive EnvL (K : PySem.W.Frag) (nf : NFs) (H : Hp) : List (Option V) → List (SD nf) → List Addr → Prop
  | nil : EnvL K nf H [] [] []
  | cons {o σ s env fp fq} : SlotR K nf H o fp s → EnvL K nf H σ env fq → (∀ a ∈ fp, a ∉ fq) → EnvL K nf H (o :: σ) (s :: env) (fp ++ fq)
/-- the table at P, if it is one of the program's -/
def TabQ (nf : NFs) (H : Hp) (P : Addr) : Prop := P ∈ nf.tbs → NdefX.TabN H P nf.nm
theorem TabQ.ext {P : Addr} (t : TabQ nf H P) (e : ∀ b o, H b = some o → H' b = some o) : TabQ nf H' P := fun m => (t m).ext e
/-- what may change: the owned objects; new ones may come -/
structure Ch (nf : NFs) (fp : List Addr) (H : Hp) (fp' : List Addr) (H' : Hp) : Prop where
  keep : ∀ a u, H a = some u → a ∉ fp → (∀ ps, u ≠ .tbl ps) → H' a = some u
  sub : ∀ a ∈ fp', a ∈ fp ∨ H a = none
  there : ∀ a, H' a = none → H a = none
  tab : ∀ P, TabQ nf H P → TabQ nf H' P
theorem Ch.refl {fp : List Addr} : Ch nf fp H fp H := ⟨fun _ _ h _ _ => h, fun _ h => .inl h, fun _ h => h, fun _ h => h⟩
theorem Ch.trans {fp fp1 fp2 : List Addr} (x : Ch nf fp H fp1 H1) (y : Ch nf fp1 H1 fp2 H2) : Ch nf fp H fp2 H2 := by
  refine ⟨fun a u h n t => y.keep a u (x.keep a u h n t) (fun m => ?_) t, fun a m => ?_, fun a h => x.there a (y.there a h), fun P h => y.tab P (x.tab P h)⟩
  · rcases x.sub a m with q | q
    · exact n q
    · rw [q] at h; cases h
  · rcases y.sub a m with q | q
    · exact x.sub a q
    · exact .inr (x.there a q)
theorem tab_keep {P : Addr} (k : ∀ a u, H a = some u → ¬ Pl u → H' a = some u) (h : TabQ nf H P) : TabQ nf H' P := by
  intro hP
  obtain ⟨ps, h1, h2, h3⟩ := h hP
  refine ⟨ps, k _ _ h1 (fun z => z.1 ps rfl), h2, fun pos cv hc => ?_⟩
  obtain ⟨c, e1, e2⟩ := h3 pos cv hc
  exact ⟨c, e1, k _ _ e2 fun z => z.2 _ rfl⟩
theorem tab_upd {P p : Addr} {u o : HO} (hp : H p = some u) (hu : Pl u) (h : TabQ nf H P) : TabQ nf (upd H p o) P :=
  tab_keep (fun a w e n => by
    rw [upd_ne fun z => ?_]
    · exact e
    · subst z; rw [hp] at e; cases e; exact n hu) h
/-- what is not owned stands -/
theorem Ch.of {fp fp' : List Addr} (k : ∀ a u, H a = some u → a ∉ fp → H' a = some u) (t : ∀ a ∈ fp, ∀ u, H a = some u → Pl u) (sub : ∀ a ∈ fp', a ∈ fp ∨ H a = none) (there : ∀ a, H' a = none → H a = none) : Ch nf fp H fp' H' :=
  ⟨fun a u e n _ => k a u e n, sub, there, fun P h => tab_keep (fun a u e n => k a u e fun m => n (t a m u e)) h⟩
theorem pl_lst {xs : List V} : Pl (.lst xs) := ⟨nofun, nofun⟩
theorem fzn_pl {u : HO} (h : Fzn nf u) : ∀ ps, u ≠ .tbl ps := fun ps z => by subst z; exact h
theorem SlotR.frame {o : Option V} {fp : List Addr} {s : SD nf} (h : SlotR K nf H o fp s) (k : ∀ a ∈ fp, H' a = H a) (st : Stp nf H H') : SlotR K nf H' o fp s := by
  cases s with
  | un => exact h
  | fz d => obtain ⟨e, v, ev, r⟩ := h; exact ⟨e, v, ev, r.mono st⟩
  | ow v A => exact ⟨h.1, A.frame h.2 k st⟩
  | fr v d => exact ⟨h.1, h.2.1, h.2.2.mono st⟩
theorem SlotR.trk {o : Option V} {fp : List Addr} {s : SD nf} (h : SlotR K nf H o fp s) : ∀ a ∈ fp, ∃ u, H a = some u ∧ ¬ Fzn nf u ∧ Pl u := by
  cases s with
  | un => cases (show fp = [] from h); intro a m; cases m
  | fz d => obtain ⟨e, _⟩ := h; subst e; intro a m; cases m
  | ow v A => exact A.trk h.2
  | fr v d => obtain ⟨e, _⟩ := h; subst e; intro a m; cases m
theorem SlotR.nd {o : Option V} {fp : List Addr} {s : SD nf} (h : SlotR K nf H o fp s) : fp.Nodup := by
  cases s with
  | un => cases (show fp = [] from h); exact List.nodup_nil
  | fz d => obtain ⟨e, _⟩ := h; subst e; exact List.nodup_nil
  | ow v A => exact A.nd h.2
  | fr v d => obtain ⟨e, _⟩ := h; subst e; exact List.nodup_nil
theorem EnvL.trk {σ : List (Option V)} {env : List (SD nf)} {fp : List Addr} (h : EnvL K nf H σ env fp) : ∀ a ∈ fp, ∃ u, H a = some u ∧ ¬ Fzn nf u ∧ Pl u := by
  induction h with
  | nil => intro a m; cases m
  | cons s _ _ ih =>
    intro a m
    rcases List.mem_append.mp m with m | m
    · exact s.trk a m
    · exact ih a m
theorem EnvL.frame {σ : List (Option V)} {env : List (SD nf)} {fp : List Addr} (h : EnvL K nf H σ env fp) (k : ∀ a ∈ fp, H' a = H a) (st : Stp nf H H') : EnvL K nf H' σ env fp := by
  induction h with
  | nil => exact .nil
  | cons s _ d ih => exact .cons (s.frame (fun a m => k a (List.mem_append_left _ m)) st) (ih fun a m => k a (List.mem_append_right _ m)) d
theorem EnvL.length {σ : List (Option V)} {env : List (SD nf)} {fp : List Addr} (h : EnvL K nf H σ env fp) : σ.length = env.length := by
  induction h with
  | nil => rfl
  | cons _ _ _ ih => rw [List.length_cons, List.length_cons, ih]
/-- the owned objects are no frozen ones: all that is frozen stands behind a change -/
theorem Ch.stpL {fp fp' : List Addr} {σ : List (Option V)} {env : List (SD nf)} (c : Ch nf fp H fp' H') (h : EnvL K nf H σ env fp) : Stp nf H H' := fun a u e f => c.keep a u e (fun m => by
  obtain ⟨u', e', nf', _⟩ := h.trk a m
  rw [e] at e'; cases e'
  exact nf' f) (fzn_pl f)
theorem EnvL.pl {σ : List (Option V)} {env : List (SD nf)} {fp : List Addr} (h : EnvL K nf H σ env fp) : ∀ a ∈ fp, ∀ u, H a = some u → Pl u := fun a m u e => by
  obtain ⟨u', e', _, p⟩ := h.trk a m
  rw [e] at e'; cases e'
  exact p
/-- all stands, new things may have come -/
def Xt (H H' : Hp) : Prop := ∀ a u, H a = some u → H' a = some u
theorem Xt.refl : Xt H H := fun _ _ h => h
theorem Xt.trans (a : Xt H H1) (b : Xt H1 H2) : Xt H H2 := fun x u h => b x u (a x u h)
theorem Xt.stp (x : Xt H H') : Stp nf H H' := fun a u e _ => x a u e
theorem Xt.new {p : Addr} {o : HO} (h : H p = none) : Xt H (upd H p o) := fun a u e => by rw [upd_ne (ne_of_none e h)]; exact e
theorem Xt.ch {fp : List Addr} (x : Xt H H') : Ch nf fp H fp H' := ⟨fun a u h _ _ => x a u h, fun _ h => .inl h, (fun a h => by
  cases q : H a with
  | none => rfl
  | some u => rw [x a u q] at h; cases h), fun P h => h.ext x⟩
theorem EnvL.ext {σ : List (Option V)} {env : List (SD nf)} {fp : List Addr} (h : EnvL K nf H σ env fp) (x : Xt H H') : EnvL K nf H' σ env fp :=
  h.frame (fun a m => by obtain ⟨u, e, _⟩ := h.trk a m; rw [e, x a u e]) x.stp
/-- THE SLOT i: what it holds, and how it is replaced -/
theorem EnvL.at {σ : List (Option V)} {env : List (SD nf)} {fp : List Addr} (h : EnvL K nf H σ env fp) : ∀ {i : Nat} {s : SD nf}, env[i]? = some s →
    ∃ o fi, σ[i]? = some o ∧ SlotR K nf H o fi s ∧ (∀ a ∈ fi, a ∈ fp) ∧
      ∀ H' o' s' fi', SlotR K nf H' o' fi' s' → (∀ a u, H a = some u → a ∉ fi → H' a = some u) → (∀ a ∈ fi', a ∈ fi ∨ H a = none) → Stp nf H H' →
        ∃ fp', EnvL K nf H' (σ.set i o') (env.set i s') fp' ∧ ∀ a ∈ fp', a ∈ fp ∨ H a = none := by
  induction h with
  | nil => intro i s e; simp at e
  | @cons o σ s env fp fq hs he hd ih =>
    intro i s0 e
    cases i with
    | zero =>
      simp at e
      subst e
      refine ⟨o, fp, rfl, hs, fun a m => List.mem_append_left _ m, fun H' o' s' fi' hs' k sub st => ?_⟩
      have kq : ∀ a ∈ fq, H' a = H a := fun a m => by
        obtain ⟨u, eu, _⟩ := he.trk a m
        rw [eu]
        exact k a u eu fun z => hd a z m
      refine ⟨fi' ++ fq, .cons hs' (he.frame kq st) fun a m z => ?_, fun a m => ?_⟩
      · rcases sub a m with q | q
        · exact hd a q z
        · obtain ⟨u, eu, _⟩ := he.trk a z
          rw [q] at eu; cases eu
      · rcases List.mem_append.mp m with m | m
        · exact (sub a m).imp (List.mem_append_left _) id
        · exact .inl (List.mem_append_right _ m)
    | succ i =>
      obtain ⟨o1, fi, e1, s1, sub1, rep⟩ := ih (i := i) (s := s0) (by simpa using e)
      refine ⟨o1, fi, by simpa using e1, s1, fun a m => List.mem_append_right _ (sub1 a m), fun H' o' s' fi' hs' k sub st => ?_⟩
      obtain ⟨fp', he', sub'⟩ := rep H' o' s' fi' hs' k sub st
      have kp : ∀ a ∈ fp, H' a = H a := fun a m => by
        obtain ⟨u, eu, _⟩ := hs.trk a m
        rw [eu]
        exact k a u eu fun z => hd a m (sub1 a z)
      refine ⟨fp ++ fp', .cons (hs.frame kp st) he' fun a m z => ?_, fun a m => ?_⟩
      · rcases sub' a z with q | q
        · exact hd a m q
        · obtain ⟨u, eu, _⟩ := hs.trk a m
          rw [q] at eu; cases eu
      · rcases List.mem_append.mp m with m | m
        · exact .inl (List.mem_append_left _ m)
        · exact (sub' a m).imp (List.mem_append_right _) id
end
class Anch (nf : NFs) where
  p : List Addr → Hp → Prop
  up : ∀ {fp H fp' H'}, p fp H → Ch nf fp H fp' H' → p fp' H'
def Anch.triv {nf : NFs} : Anch nf := ⟨fun _ _ => True, fun _ _ => trivial⟩
instance (priority := low) anchTriv {nf : NFs} : Anch nf := Anch.triv
/-- slots against the heap, under the anchor -/
def EnvR (K : PySem.W.Frag) (nf : NFs) [Anch nf] (H : Hp) (σ : List (Option V)) (env : List (SD nf)) (fp : List Addr) : Prop := EnvL K nf H σ env fp ∧ Anch.p nf fp H
section
variable {nf : NFs} [Anch nf] {K : PySem.W.Frag} {H H' H1 H2 : Hp} {σ : List (Option V)} {env : List (SD nf)} {fp fp' : List Addr}
theorem EnvR.l (R : EnvR K nf H σ env fp) : EnvL K nf H σ env fp := R.1
theorem EnvR.trk (R : EnvR K nf H σ env fp) : ∀ a ∈ fp, ∃ u, H a = some u ∧ ¬ Fzn nf u ∧ Pl u := R.1.trk
theorem EnvR.length (R : EnvR K nf H σ env fp) : σ.length = env.length := R.1.length
theorem Ch.stp {env : List (SD nf)} (c : Ch nf fp H fp' H') (R : EnvR K nf H σ env fp) : Stp nf H H' := c.stpL R.1
theorem EnvR.ext (R : EnvR K nf H σ env fp) (x : Xt H H') : EnvR K nf H' σ env fp := ⟨R.1.ext x, Anch.up R.2 x.ch⟩
theorem Ch.put {p : Addr} {o u : HO} (c : Ch nf fp H fp' H') (hp : H p = none) (hp' : H' p = some u) (hu : Pl u) : Ch nf fp H fp' (upd H' p o) := ⟨fun a u e n t => by rw [upd_ne (ne_of_none e hp)]; exact c.keep a u e n t, c.sub, (fun a e => c.there a (by
  by_cases ha : a = p
  · subst ha; rw [upd_same] at e; cases e
  · rw [upd_ne ha] at e; exact e)), fun P h => tab_upd hp' hu (c.tab P h)⟩
theorem EnvR.re {σ' : List (Option V)} {env' : List (SD nf)} (R : EnvR K nf H σ env fp) (R' : EnvL K nf H' σ' env' fp') (c : Ch nf fp H fp' H') : EnvR K nf H' σ' env' fp' := ⟨R', Anch.up R.2 c⟩
theorem EnvR.rex {σ' : List (Option V)} {env' : List (SD nf)} (R : EnvR K nf H σ env fp) (R' : EnvL K nf H' σ' env' fp') (c : Ch nf fp H fp' H') : ∃ fp', EnvR K nf H' σ' env' fp' ∧ Ch nf fp H fp' H' := ⟨fp', R.re R' c, c⟩
/-- the owned ones stand; the anchor by a change from further back -/
theorem EnvR.frame {fp0 : List Addr} {H0 : Hp} (R : EnvR K nf H σ env fp) (k : ∀ a ∈ fp, H' a = H a) (st : Stp nf H H') (p0 : Anch.p nf fp0 H0) (c : Ch nf fp0 H0 fp H') : EnvR K nf H' σ env fp := ⟨R.1.frame k st, Anch.up p0 c⟩
theorem EnvR.at (R : EnvR K nf H σ env fp) : ∀ {i : Nat} {s : SD nf}, env[i]? = some s →
    ∃ o fi, σ[i]? = some o ∧ SlotR K nf H o fi s ∧ (∀ a ∈ fi, a ∈ fp) ∧
      ∀ H' o' s' fi', SlotR K nf H' o' fi' s' → (∀ a u, H a = some u → a ∉ fi → H' a = some u) → (∀ a ∈ fi', a ∈ fi ∨ H a = none) → Stp nf H H' →
        ∃ fp', EnvL K nf H' (σ.set i o') (env.set i s') fp' ∧ ∀ a ∈ fp', a ∈ fp ∨ H a = none := R.1.at
end
end DL
namespace DL
open PySem L2
abbrev EV (nf : NFs) := List (SD nf)
abbrev DT (nf : NFs) := EV nf → (D → EV nf → Prop) → Prop
abbrev DB (nf : NFs) := EV nf → (Bool → EV nf → Prop) → Prop
abbrev DAs (nf : NFs) := EV nf → (List D → EV nf → Prop) → Prop
structure EndsD (nf : NFs) where
  nx : EV nf → Prop
  rt : D → EV nf → Prop
  bk : EV nf → Prop := fun _ => False
  ct : EV nf → Prop := fun _ => False
  ro : V → OA nf → EV nf → Prop := fun _ _ _ => False
abbrev DTS (nf : NFs) := EndsD nf → EV nf → Prop
section
variable (K : PySem.W.Frag) (nf : NFs) [Anch nf]
def lift (td : DT nf) : TE := fun σ H Q => ∃ env fp Qd, EnvR K nf H σ env fp ∧ td env Qd ∧ ∀ v H' d env' fp', Rel K nf H' v d → EnvR K nf H' σ env' fp' → Ch nf fp H fp' H' → Qd d env' → Q v H'
def liftB (td : DB nf) : TT := fun σ H Q => ∃ env fp Qd, EnvR K nf H σ env fp ∧ td env Qd ∧ ∀ b H' env' fp', EnvR K nf H' σ env' fp' → Ch nf fp H fp' H' → Qd b env' → Q b H'
def liftA (td : DAs nf) : TA := fun σ H Q => ∃ env fp Qd, EnvR K nf H σ env fp ∧ td env Qd ∧ ∀ vs H' ds env' fp', Rels K nf H' vs ds → EnvR K nf H' σ env' fp' → Ch nf fp H fp' H' → Qd ds env' → Q vs H'
structure Br (H : Hp) (fp : List Addr) (De : EndsD nf) (E : Ends) : Prop where
  nx : ∀ σ' H' env' fp', EnvR K nf H' σ' env' fp' → Ch nf fp H fp' H' → De.nx env' → E.nx σ' H'
  rt : ∀ v d σ' H' env' fp', Rel K nf H' v d → EnvR K nf H' σ' env' fp' → Ch nf fp H fp' H' → De.rt d env' → E.rt v H'
  bk : ∀ σ' H' env' fp', EnvR K nf H' σ' env' fp' → Ch nf fp H fp' H' → De.bk env' → E.bk σ' H'
  ct : ∀ σ' H' env' fp', EnvR K nf H' σ' env' fp' → Ch nf fp H fp' H' → De.ct env' → E.ct σ' H'
  ro : ∀ v A σ' H' env' fp' fi, A.inv v fi H' → EnvR K nf H' σ' env' fp' → (∀ a ∈ fi, a ∉ fp') → Ch nf fp H (fi ++ fp') H' → De.ro v A env' → E.rt v H'
def liftS (td : DTS nf) : TS := fun E σ H => ∃ env fp De, EnvR K nf H σ env fp ∧ td De env ∧ Br K nf H fp De E
end
section
variable {X : Cx} {nf : NFs} [Anch nf] {K : PySem.W.Frag}
theorem pe_imp {e : Expr} {t t' : TE} (h : PE X e t) (i : ∀ σ H Q, t' σ H Q → t σ H Q) : PE X e t' := ⟨fun pins s σ H Q I q => h.run pins s σ H Q I (i σ H Q q)⟩
theorem pt_imp {e : Expr} {t t' : TT} (h : PT X e t) (i : ∀ σ H Q, t' σ H Q → t σ H Q) : PT X e t' := ⟨fun pins s σ H Q I q => h.run pins s σ H Q I (i σ H Q q)⟩
theorem pw_imp {e : Expr} {t t' : TT} (h : PW X e t) (i : ∀ σ H Q, t' σ H Q → t σ H Q) : PW X e t' := ⟨fun w pins s σ H Q I q => h.run w pins s σ H Q I (i σ H Q q)⟩
theorem pa_imp {es : List Expr} {t t' : TA} (h : PA X es t) (i : ∀ σ H Q, t' σ H Q → t σ H Q) : PA X es t' := ⟨fun p pins s σ H Q I q => h.run p pins s σ H Q I (i σ H Q q)⟩
theorem ps_imp {st : Stmt} {t t' : TS} (h : PS X st t) (i : ∀ E σ H, t' E σ H → t E σ H) : PS X st t' := ⟨fun pins s σ H E I q => h.run pins s σ H E I (i E σ H q)⟩
theorem pss_imp {st : List Stmt} {t t' : TS} (h : PSs X st t) (i : ∀ E σ H, t' E σ H → t E σ H) : PSs X st t' := ⟨fun pins s σ H E I q => h.run pins s σ H E I (i E σ H q)⟩
variable (X nf)
abbrev DE (e : Expr) (td : DT nf) : Prop := PE X e (lift X.K nf td)
abbrev DC (e : Expr) (td : DB nf) : Prop := PT X e (liftB X.K nf td)
abbrev DW (e : Expr) (td : DB nf) : Prop := PW X e (liftB X.K nf td)
abbrev DA (es : List Expr) (td : DAs nf) : Prop := PA X es (liftA X.K nf td)
abbrev DS (st : Stmt) (td : DTS nf) : Prop := PS X st (liftS X.K nf td)
abbrev DSs (st : List Stmt) (td : DTS nf) : Prop := PSs X st (liftS X.K nf td)
variable {X nf}
theorem lift_run {td : DT nf} {σ : St} {H : Hp} {Q : VK} {env : EV nf} {fp : List Addr} {Qd : D → EV nf → Prop} (R : EnvR K nf H σ env fp) (h : td env Qd)
    (k : ∀ v H' d env' fp', Rel K nf H' v d → EnvR K nf H' σ env' fp' → Ch nf fp H fp' H' → Qd d env' → Q v H') : lift K nf td σ H Q := ⟨env, fp, Qd, R, h, k⟩
def dVar (i : Nat) : DT nf := fun env Q => ∃ d, env[i]? = some (.fz d) ∧ Q d env
theorem de_var {i : Nat} {e : Expr} (h : PE X e (tVar i)) : DE X nf e (dVar i) := pe_imp h fun σ H Q ⟨env, fp, Qd, R, ⟨d, e, q⟩, k⟩ => by
  obtain ⟨o, fi, e1, ⟨_, v, ev, r⟩, _⟩ := R.at e
  subst ev
  exact ⟨v, e1, k v H d env fp r R Ch.refl q⟩
theorem dv (i : Nat) {x : Str} {pos : Pos} (hN : X.N[i]? = some x := by rfl) (hv : Vis X.env.scope x := by first | exact Or.inl rfl | exact Or.inr (Or.inl rfl) | exact Or.inr (Or.inr rfl)) (hd : (x == ("__debug__" : Str)) = false := by decide)
    (hcd : (x == ("__classdict__" : Str)) = false := by decide) : DE X nf (.Name x pos) (dVar i) := de_var (pv i hN hv hd hcd)
def dC (d : D) : DT nf := fun env Q => Q d env
theorem de_c {e : Expr} {v : V} {d : D} (h : PE X e (tC v)) (r : ∀ H, Rel X.K nf H v d) : DE X nf e (dC d) := pe_imp h fun σ H Q ⟨env, fp, Qd, R, q, k⟩ => k v H d env fp (r H) R Ch.refl q
theorem de_int {i j pos} : DE X nf (.Constant (.int i) j pos) (dC (.int i)) := de_c pe_int fun _ => .int i
theorem de_bl {b j pos} : DE X nf (.Constant (.bool b) j pos) (dC (.bl b)) := de_c pe_bl fun _ => .bl b
theorem de_non {j pos} : DE X nf (.Constant .none j pos) (dC .non) := de_c pe_non fun _ => .non
theorem de_str {x j pos} : DE X nf (.Constant (.str x) j pos) (dC (.str x)) := de_c pe_str fun _ => .str x
/-- r on values that stand for x, y gives one that stands for z; new things may come -/
def OpD (K : PySem.W.Frag) (nf : NFs) (r : R2) (f : D → D → D → Prop) : Prop := ∀ H v w x y z, Rel K nf H v x → Rel K nf H w y → f x y z → ∀ Q : VK, (∀ u H', Rel K nf H' u z → Xt H H' → Q u H') → r v w H Q
def dOp (f : D → D → D → Prop) (da db : DT nf) : DT nf := fun env Q => da env fun x env1 => db env1 fun y env2 => ∃ z, f x y z ∧ Q z env2
theorem lift_op {r : R2} {f : D → D → D → Prop} {da db : DT nf} (o : OpD K nf r f) (σ : St) (H : Hp) (Q : VK) (h : lift K nf (dOp f da db) σ H Q) : tOp r (lift K nf da) (lift K nf db) σ H Q := by
  obtain ⟨env, fp, Qd, R, h, k⟩ := h
  refine lift_run R h fun v H1 x env1 fp1 r1 R1 c1 h1 => ?_
  refine lift_run R1 h1 fun w H2 y env2 fp2 r2 R2 c2 ⟨z, hz, q⟩ => ?_
  refine o H2 v w x y z (r1.mono (c2.stp R1)) r2 hz Q fun u H3 r3 x3 => ?_
  exact k u H3 z env2 fp2 r3 (R2.ext x3) ((c1.trans c2).trans x3.ch) q
theorem de_op {a b : Expr} {op : Operator} {pos : Pos} {r : R2} {f : D → D → D → Prop} {da db : DT nf} (ho : OpR X (binaryOp op) r) (o : OpD X.K nf r f) (ha : DE X nf a da) (hb : DE X nf b db) : DE X nf (.BinOp a op b pos) (dOp f da db) :=
  pe_imp (pe_op ho ha hb) (lift_op o)
theorem de_cmp {a b : Expr} {op : CmpOp} {pos : Pos} {r : R2} {f : D → D → D → Prop} {da db : DT nf} (ho : OpR X (compareOp op) r) (o : OpD X.K nf r f) (ha : DE X nf a da) (hb : DE X nf b db) (hm : behindInMarks op b = false) : DE X nf (.Compare a [op] [b] pos) (dOp f da db) :=
  pe_imp (pe_cmpR ho ha hb hm) (lift_op o)
theorem de_ix {a b : Expr} {pos : Pos} {r : R2} {f : D → D → D → Prop} {da db : DT nf} (ho : IxR X r) (o : OpD X.K nf r f) (ha : DE X nf a da) (hb : DE X nf b db) (hs : PlainIx b) : DE X nf (.Subscript a b pos) (dOp f da db) :=
  pe_imp (pe_ix ho ha hb hs) (lift_op o)
def dBv (da : DT nf) : DB nf := fun env Q => da env fun x env1 => ∃ b, x = .bl b ∧ Q b env1
theorem rel_bl {H : Hp} {v : V} {b : Bool} (h : Rel K nf H v (.bl b)) : v = .bl b := by cases h; rfl
theorem rel_int {H : Hp} {v : V} {b : Int} (h : Rel K nf H v (.int b)) : v = .int b := by cases h; rfl
theorem rel_str {H : Hp} {v : V} {b : Str} (h : Rel K nf H v (.str b)) : v = .str b := by cases h; rfl
theorem lift_B {da : DT nf} (σ : St) (H : Hp) (Q : Bool → Hp → Prop) (h : liftB K nf (dBv da) σ H Q) : tB (lift K nf da) σ H Q := by
  obtain ⟨env, fp, Qd, R, h, k⟩ := h
  refine lift_run R h fun v H1 x env1 fp1 r1 R1 c1 ⟨b, e, q⟩ => ?_
  subst e
  exact ⟨b, rel_bl r1, k b H1 env1 fp1 R1 c1 q⟩
/-- an expression of a bool, as a test (not a comparison, and, or, not) -/
theorem dc_val {e : Expr} {da : DT nf} (h : DE X nf e da) (he : ∀ whole, isTrue e X.env whole = (do let v ← whole; standAt e.pos; holding [v] (truthy v)) := by intro _; rfl) : DC X nf e (dBv da) := pt_imp (pt_val h he) lift_B
def dAnd (a b : DB nf) : DB nf := fun env Q => a env fun c env1 => if c = true then b env1 Q else Q false env1
def dOr (a b : DB nf) : DB nf := fun env Q => a env fun c env1 => if c = true then Q true env1 else b env1 Q
def dNot (a : DB nf) : DB nf := fun env Q => a env fun c env1 => Q (!c) env1
theorem lift_and {a b : DB nf} (σ : St) (H : Hp) (Q : Bool → Hp → Prop) (h : liftB K nf (dAnd a b) σ H Q) : tAnd (liftB K nf a) (liftB K nf b) σ H Q := by
  obtain ⟨env, fp, Qd, R, h, k⟩ := h
  refine ⟨env, fp, _, R, h, fun c H1 env1 fp1 R1 c1 q => ?_⟩
  cases c with
  | true => exact ⟨env1, fp1, Qd, R1, q, fun b H2 env2 fp2 R2 c2 q2 => k b H2 env2 fp2 R2 (c1.trans c2) q2⟩
  | false => exact k false H1 env1 fp1 R1 c1 q
theorem lift_or {a b : DB nf} (σ : St) (H : Hp) (Q : Bool → Hp → Prop) (h : liftB K nf (dOr a b) σ H Q) : tOr (liftB K nf a) (liftB K nf b) σ H Q := by
  obtain ⟨env, fp, Qd, R, h, k⟩ := h
  refine ⟨env, fp, _, R, h, fun c H1 env1 fp1 R1 c1 q => ?_⟩
  cases c with
  | false => exact ⟨env1, fp1, Qd, R1, q, fun b H2 env2 fp2 R2 c2 q2 => k b H2 env2 fp2 R2 (c1.trans c2) q2⟩
  | true => exact k true H1 env1 fp1 R1 c1 q
theorem lift_not {a : DB nf} (σ : St) (H : Hp) (Q : Bool → Hp → Prop) (h : liftB K nf (dNot a) σ H Q) : tNot (liftB K nf a) σ H Q := by
  obtain ⟨env, fp, Qd, R, h, k⟩ := h
  exact ⟨env, fp, _, R, h, fun c H1 env1 fp1 R1 c1 q => k (!c) H1 env1 fp1 R1 c1 q⟩
section
variable {a b : Expr} {rest : List Expr} {pos : Pos} {ta tb : DB nf}
theorem dw_and1 (h : DC X nf a ta) : DW X nf (.BoolOp .And [a] pos) ta := pw_and1 h
theorem dw_or1 (h : DC X nf a ta) : DW X nf (.BoolOp .Or [a] pos) ta := pw_or1 h
theorem dw_and (ha : DC X nf a ta) (hb : DW X nf (.BoolOp .And (b :: rest) pos) tb) : DW X nf (.BoolOp .And (a :: b :: rest) pos) (dAnd ta tb) := pw_imp (pw_and ha hb) lift_and
theorem dw_or (ha : DC X nf a ta) (hb : DW X nf (.BoolOp .Or (b :: rest) pos) tb) : DW X nf (.BoolOp .Or (a :: b :: rest) pos) (dOr ta tb) := pw_imp (pw_or ha hb) lift_or
theorem dc_not (ha : DC X nf a ta) : DC X nf (.UnaryOp .Not a pos) (dNot ta) := pt_imp (pt_not ha) lift_not
theorem DW.dc (h : DW X nf a ta) : DC X nf a ta := h.pt
end
/-- a comparison as a test -/
theorem dc_cmp {a b : Expr} {op : CmpOp} {pos : Pos} {r : R2} {f : D → D → D → Prop} {da db : DT nf} (ho : OpR X (compareOp op) r) (o : OpD X.K nf r f) (ha : DE X nf a da) (hb : DE X nf b db) (hm : behindInMarks op b = false) : DC X nf (.Compare a [op] [b] pos) (dBv (dOp f da db)) :=
  pt_imp (pt_cmpR ho ha hb hm) fun σ H Q h => by
    obtain ⟨env, fp, Qd, R, h, k⟩ := h
    refine lift_op o σ H _ (lift_run R h fun v H1 x env1 fp1 r1 R1 c1 ⟨b, e, q⟩ => ?_)
    subst e
    exact ⟨b, rel_bl r1, k b H1 env1 fp1 R1 c1 q⟩
def dAndV (a b : DT nf) : DT nf := fun env Q => a env fun x env1 => ∃ c, x = .bl c ∧ if c = true then b env1 Q else Q (.bl false) env1
def dOrV (a b : DT nf) : DT nf := fun env Q => a env fun x env1 => ∃ c, x = .bl c ∧ if c = true then Q (.bl true) env1 else b env1 Q
def dNotV (a : DT nf) : DT nf := fun env Q => a env fun x env1 => ∃ c, x = .bl c ∧ Q (.bl (!c)) env1
section
variable {a b : Expr} {rest : List Expr} {pos : Pos} {da db : DT nf}
theorem de_one {op} (h : DE X nf a da) : DE X nf (.BoolOp op [a] pos) da := pe_one h
theorem de_and (ha : DE X nf a da) (hb : DE X nf (.BoolOp .And (b :: rest) pos) db) : DE X nf (.BoolOp .And (a :: b :: rest) pos) (dAndV da db) := pe_imp (pe_and ha hb) fun σ H Q h => by
  obtain ⟨env, fp, Qd, R, h, k⟩ := h
  refine lift_run R h fun v H1 x env1 fp1 r1 R1 c1 ⟨c, e, q⟩ => ?_
  subst e
  refine ⟨c, rel_bl r1, ?_⟩
  cases c with
  | true => exact ⟨env1, fp1, Qd, R1, q, fun v H2 d env2 fp2 r2 R2 c2 q2 => k v H2 d env2 fp2 r2 R2 (c1.trans c2) q2⟩
  | false => exact k _ H1 _ env1 fp1 (.bl false) R1 c1 q
theorem de_or (ha : DE X nf a da) (hb : DE X nf (.BoolOp .Or (b :: rest) pos) db) : DE X nf (.BoolOp .Or (a :: b :: rest) pos) (dOrV da db) := pe_imp (pe_or ha hb) fun σ H Q h => by
  obtain ⟨env, fp, Qd, R, h, k⟩ := h
  refine lift_run R h fun v H1 x env1 fp1 r1 R1 c1 ⟨c, e, q⟩ => ?_
  subst e
  refine ⟨c, rel_bl r1, ?_⟩
  cases c with
  | false => exact ⟨env1, fp1, Qd, R1, q, fun v H2 d env2 fp2 r2 R2 c2 q2 => k v H2 d env2 fp2 r2 R2 (c1.trans c2) q2⟩
  | true => exact k _ H1 _ env1 fp1 (.bl true) R1 c1 q
def dIf (t : DB nf) (a b : DT nf) : DT nf := fun env Q => t env fun c env1 => if c = true then a env1 Q else b env1 Q
theorem de_if {c : Expr} {tc : DB nf} (hc : DC X nf c tc) (ha : DE X nf a da) (hb : DE X nf b db) : DE X nf (.IfExp c a b pos) (dIf tc da db) := pe_imp (pe_ifExp hc ha hb) fun σ H Q h => by
  obtain ⟨env, fp, Qd, R, h, k⟩ := h
  refine ⟨env, fp, _, R, h, fun c H1 env1 fp1 R1 c1 q => ?_⟩
  cases c with
  | true => exact ⟨env1, fp1, Qd, R1, q, fun v H2 d env2 fp2 r2 R2 c2 q2 => k v H2 d env2 fp2 r2 R2 (c1.trans c2) q2⟩
  | false => exact ⟨env1, fp1, Qd, R1, q, fun v H2 d env2 fp2 r2 R2 c2 q2 => k v H2 d env2 fp2 r2 R2 (c1.trans c2) q2⟩
end
def aNil : DAs nf := fun env Q => Q [] env
def aCons (a : DT nf) (r : DAs nf) : DAs nf := fun env Q => a env fun x env1 => r env1 fun xs env2 => Q (x :: xs) env2
theorem da_nil : DA X nf [] aNil := pa_imp pa_nil fun σ H Q ⟨env, fp, Qd, R, q, k⟩ => k [] H [] env fp .nil R Ch.refl q
theorem da_cons {e : Expr} {es : List Expr} {a : DT nf} {r : DAs nf} (ha : DE X nf e a) (hr : DA X nf es r) (hs : starEach (e :: es) X.env = (false, eval e X.env) :: starEach es X.env := by rfl) : DA X nf (e :: es) (aCons a r) :=
  pa_imp (pa_cons ha hr hs) fun σ H Q h => by
    obtain ⟨env, fp, Qd, R, h, k⟩ := h
    refine lift_run R h fun v H1 x env1 fp1 r1 R1 c1 q1 => ?_
    exact ⟨env1, fp1, _, R1, q1, fun vs H2 ds env2 fp2 r2 R2 c2 q2 => k (v :: vs) H2 (x :: ds) env2 fp2 (.cons (r1.mono (c2.stp R1)) r2) R2 (c1.trans c2) q2⟩
/-- behind e the thing that it gives is frozen -/
def tFz (t : TE) : TE := fun σ H Q => t σ H fun v H' => ∃ p u, v = .ref p ∧ H' p = some u ∧ Mut (some u) ∧ ∀ o, Q v (upd H' p (.frz o u))
theorem pe_fz {e : Expr} {t : TE} (h : PE X e t) : PE X e (tFz t) := by
  refine ⟨fun pins s σ H Q I hw => ?_⟩
  refine thn (h.run pins s σ H _ I hw) fun v s1 ⟨x, H1, I1, r, p, u, ex, hp, mu, q⟩ => ?_
  obtain ⟨o, I2⟩ := I1.lock hp mu
  exact ⟨x, _, I2, r, q o⟩
/-- what freezing a new thing does -/
theorem xt_fz {H H' : Hp} {p : Addr} {u : HO} (x : Xt H H') (hp : H p = none) {o : Obj} : Xt H (upd H' p (.frz o u)) := fun a w e => by rw [upd_ne (ne_of_none e hp)]; exact x a w e
def dTup (r : DAs nf) : DT nf := fun env Q => r env fun xs env1 => xs.length ≤ 1000000 ∧ Q (.tup xs) env1
theorem sz_ok {n : Nat} (h : n ≤ 1000000) : n ≤ sizeLine := Nat.le_trans h (by decide)
theorem de_tup {es : List Expr} {r : DAs nf} {x1} {pos : Pos} (h : DA X nf es r) : DE X nf (.Tuple es x1 pos) (dTup r) := pe_imp (pe_tup h) fun σ H Q h => by
  obtain ⟨env, fp, Qd, R, h, k⟩ := h
  refine ⟨env, fp, _, R, h, fun vs H1 ds env1 fp1 r1 R1 c1 ⟨hl, q⟩ => ⟨by rw [r1.length]; exact sz_ok hl, fun p hp => ?_⟩⟩
  have x : Xt H1 (upd H1 p (.tup vs)) := Xt.new hp
  exact k _ _ _ env1 fp1 (.tup (SqT.of upd_same) (r1.mono x.stp)) (R1.ext x) (c1.trans x.ch) q
def dLst (r : DAs nf) : DT nf := fun env Q => r env fun xs env1 => xs.length ≤ 1000000 ∧ Q (.lst xs) env1
/-- a list display, frozen at once -/
theorem de_lst {es : List Expr} {r : DAs nf} {pos : Pos} (h : DA X nf es r) : DE X nf (.List es pos) (dLst r) := pe_imp (pe_fz (pe_lst h)) fun σ H Q h => by
  obtain ⟨env, fp, Qd, R, h, k⟩ := h
  refine ⟨env, fp, _, R, h, fun vs H1 ds env1 fp1 r1 R1 c1 ⟨hl, q⟩ => ⟨by rw [r1.length]; exact sz_ok hl, fun p hp => ⟨p, _, rfl, upd_same, trivial, fun o => ?_⟩⟩⟩
  have x : Xt H1 (upd (upd H1 p (.lst vs)) p (.frz o (.lst vs))) := xt_fz (Xt.new hp) hp
  exact k _ _ _ env1 fp1 (.lst ⟨o, upd_same⟩ (r1.mono x.stp)) (R1.ext x) (c1.trans x.ch) q
end
end DL
namespace DL
open PySem L2
section
variable {X : Cx} {nf : NFs} [Anch nf] {K : PySem.W.Frag}
theorem Br.up {H H1 : Hp} {fp fp1 : List Addr} {De : EndsD nf} {E : Ends} (b : Br K nf H fp De E) (c : Ch nf fp H fp1 H1) : Br K nf H1 fp1 De E :=
  ⟨fun σ' H' env' fp' r c' q => b.nx σ' H' env' fp' r (c.trans c') q, fun v d σ' H' env' fp' r e c' q => b.rt v d σ' H' env' fp' r e (c.trans c') q,
   fun σ' H' env' fp' r c' q => b.bk σ' H' env' fp' r (c.trans c') q, fun σ' H' env' fp' r c' q => b.ct σ' H' env' fp' r (c.trans c') q,
   fun v A σ' H' env' fp' fi i r n c' q => b.ro v A σ' H' env' fp' fi i r n (c.trans c') q⟩
def sNext : DTS nf := fun De env => De.nx env
def sSeq (a b : DTS nf) : DTS nf := fun De env => a { De with nx := b De } env
theorem ds_nil : DSs X nf [] sNext := pss_imp pss_nil fun E σ H ⟨env, fp, De, R, q, b⟩ => b.nx σ H env fp R Ch.refl q
theorem ds_cons {st : Stmt} {rest : List Stmt} {a b : DTS nf} (h1 : DS X nf st a) (h2 : DSs X nf rest b) : DSs X nf (st :: rest) (sSeq a b) := pss_imp (pss_cons h1 h2) fun E σ H ⟨env, fp, De, R, q, br⟩ =>
  ⟨env, fp, { De with nx := b De }, R, q, ⟨fun σ' H' env' fp' R' c q' => ⟨env', fp', De, R', q', br.up c⟩, br.rt, br.bk, br.ct, br.ro⟩⟩
theorem ds_one {st : Stmt} {a : DTS nf} (h1 : DS X nf st a) : DSs X nf [st] a := pss_one h1
def sBrk : DTS nf := fun De env => De.bk env
def sCnt : DTS nf := fun De env => De.ct env
def sNever : DTS nf := fun _ _ => False
theorem ds_never {st : Stmt} : DS X nf st sNever := ps_imp ps_never fun E σ H ⟨env, fp, De, R, q, b⟩ => q.elim
def sIf (c : DB nf) (a b : DTS nf) : DTS nf := fun De env => c env fun k env1 => if k = true then a De env1 else b De env1
theorem ds_if {c : Expr} {p q : List Stmt} {pos : Pos} {tc : DB nf} {a b : DTS nf} (hc : DC X nf c tc) (ha : DSs X nf p a) (hb : DSs X nf q b) : DS X nf (.If c p q pos) (sIf tc a b) := ps_imp (ps_if hc ha hb) fun E σ H ⟨env, fp, De, R, q, br⟩ =>
  ⟨env, fp, _, R, q, fun k H1 env1 fp1 R1 c1 q1 => by
    cases k with
    | true => exact ⟨env1, fp1, De, R1, q1, br.up c1⟩
    | false => exact ⟨env1, fp1, De, R1, q1, br.up c1⟩⟩
def sRet (a : DT nf) : DTS nf := fun De env => a env De.rt
theorem ds_ret {e : Expr} {a : DT nf} {pos : Pos} (h : DE X nf e a) : DS X nf (.Return (some e) pos) (sRet a) := ps_imp (ps_ret h) fun E σ H ⟨env, fp, De, R, q, br⟩ =>
  ⟨env, fp, _, R, q, fun v H1 d env1 fp1 r1 R1 c1 q1 => br.rt v d σ H1 env1 fp1 r1 R1 c1 q1⟩
def sRetN : DTS nf := fun De env => De.rt .non env
theorem ds_retN {pos : Pos} : DS X nf (.Return none pos) sRetN := ps_imp ps_retN fun E σ H ⟨env, fp, De, R, q, br⟩ => br.rt .non .non σ H env fp .non R Ch.refl q
def sDrop (a : DT nf) : DTS nf := fun De env => a env fun _ env1 => De.nx env1
theorem ds_expr {e : Expr} {a : DT nf} {pos : Pos} (h : DE X nf e a) (hs : swapsWith e none pos.line X.env = pure false := by rfl) : DS X nf (.Expr e pos) (sDrop a) := ps_imp (ps_expr h hs) fun E σ H ⟨env, fp, De, R, q, br⟩ =>
  ⟨env, fp, _, R, q, fun v H1 d env1 fp1 r1 R1 c1 q1 => br.nx σ H1 env1 fp1 R1 c1 q1⟩
theorem EnvR.setFz {H : Hp} {σ : St} {env : EV nf} {fp : List Addr} (R : EnvR K nf H σ env fp) {i : Nat} {v : V} {d : D} (hi : i < env.length) (r : Rel K nf H v d) :
    ∃ fp', EnvR K nf H (σ.set i (some v)) (env.set i (.fz d)) fp' ∧ Ch nf fp H fp' H := by
  obtain ⟨o, fi, _, _, _, rep⟩ := R.at (i := i) (s := env[i]) (by simp [hi])
  obtain ⟨fp', R', sub⟩ := rep H (some v) (.fz d) [] ⟨rfl, v, rfl, r⟩ (fun a u e _ => e) (fun a m => by cases m) Stp.refl
  exact R.rex R' (Ch.of (fun a u e _ => e) R.1.pl (sub) (fun a e => e))
/-- x = e -/
def sSet (i : Nat) (a : DT nf) : DTS nf := fun De env => a env fun d env1 => i < env1.length ∧ De.nx (env1.set i (.fz d))
theorem ds_set {i : Nat} {x : Str} {e : Expr} {a : DT nf} {pos pos' : Pos} (hN : X.N.Nodup) (hi : X.N[i]? = some x) (hx : Loc X.env.scope x) (h : DE X nf e a) (hs : swapsWith e (some (.Name x pos')) pos.line X.env = pure false := by rfl)
    (hf : X.fn x = true ∨ X.env.scope.names.lookup x = some .local := by first | exact .inl rfl | exact .inr rfl | assumption) : DS X nf (.Assign [.Name x pos'] e pos) (sSet i a) :=
  ps_imp (ps_set hN hi hx h hs hf) fun E σ H ⟨env, fp, De, R, q, br⟩ => ⟨env, fp, _, R, q, fun v H1 d env1 fp1 r1 R1 c1 ⟨hl, q1⟩ => by
    obtain ⟨fp2, R2, c2⟩ := R1.setFz hl r1
    exact br.nx _ H1 _ fp2 R2 (c1.trans c2) q1⟩
/-- a target by what it does with a value -/
abbrev DG (nf : NFs) := D → EV nf → (EV nf → Prop) → Prop
def liftG (K : PySem.W.Frag) (nf : NFs) [Anch nf] (js : List Nat) (g : DG nf) : TG := fun v σ H Q => ∃ d env fp Qd, Rel K nf H v d ∧ EnvR K nf H σ env fp ∧ g d env Qd ∧ ∀ σ' env' fp', wipe σ' js = wipe σ js → EnvR K nf H σ' env' fp' → Ch nf fp H fp' H → Qd env' → Q σ' H
theorem wipe_set1 (σ : St) (i : Nat) (v : Option V) : wipe (σ.set i v) [i] = wipe σ [i] := by
  show (σ.set i v).set i none = σ.set i none
  rw [List.set_set]
theorem wipe_set_comm (σ : St) (i j : Nat) (a : Option V) : (σ.set i none).set j none = (σ.set j none).set i none := by
  by_cases h : i = j
  · subst h; rfl
  · exact List.set_comm _ _ h
theorem wipe_app (σ : St) : ∀ (js ks : List Nat), wipe σ (js ++ ks) = wipe (wipe σ ks) js
  | [], _ => rfl
  | j :: js, ks => by show (wipe σ (js ++ ks)).set j none = (wipe (wipe σ ks) js).set j none; rw [wipe_app σ js ks]
theorem wipe_out (σ : St) (i : Nat) : ∀ (js : List Nat), wipe (σ.set i none) js = (wipe σ js).set i none
  | [] => rfl
  | j :: js => by
    show (wipe (σ.set i none) js).set j none = ((wipe σ js).set j none).set i none
    rw [wipe_out σ i js]
    exact wipe_set_comm _ _ _ none
theorem wipe_comm (σ : St) : ∀ (js ks : List Nat), wipe (wipe σ ks) js = wipe (wipe σ js) ks
  | [], _ => rfl
  | j :: js, ks => by
    show (wipe (wipe σ ks) js).set j none = wipe ((wipe σ js).set j none) ks
    rw [wipe_out, wipe_comm σ js ks]
theorem pg_imp {e : Expr} {t t' : TG} (h : PG X e t) (i : ∀ v σ H Q, t' v σ H Q → t v σ H Q) : PG X e t' := ⟨fun pins s σ H v u Q I r q => h.run pins s σ H v u Q I r (i v σ H Q q)⟩
variable (X nf) in
abbrev DGo (e : Expr) (js : List Nat) (g : DG nf) : Prop := PG X e (liftG X.K nf js g)
def gN (i : Nat) : DG nf := fun d env Q => i < env.length ∧ Q (env.set i (.fz d))
theorem dg_name {i : Nat} {x : Str} {pos : Pos} (hN : X.N.Nodup) (hi : X.N[i]? = some x) (hx : Loc X.env.scope x) (hf : X.fn x = true ∨ X.env.scope.names.lookup x = some .local := by first | exact .inl rfl | exact .inr rfl | assumption) : DGo X nf (.Name x pos) [i] (gN i) :=
  pg_imp (pg_name hN hi hx hf) fun v σ H Q ⟨d, env, fp, Qd, r, R, ⟨hl, q⟩, k⟩ => by
    obtain ⟨fp2, R2, c2⟩ := R.setFz hl r
    exact k _ _ fp2 (wipe_set1 σ i _) R2 c2 q
abbrev DGs (nf : NFs) := List D → EV nf → (EV nf → Prop) → Prop
def liftGs (K : PySem.W.Frag) (nf : NFs) [Anch nf] (js : List Nat) (g : DGs nf) : TGs := fun vs σ H Q => ∃ ds env fp Qd, Rels K nf H vs ds ∧ EnvR K nf H σ env fp ∧ g ds env Qd ∧ ∀ σ' env' fp', wipe σ' js = wipe σ js → EnvR K nf H σ' env' fp' → Ch nf fp H fp' H → Qd env' → Q σ' H
theorem pgs_imp {es : List Expr} {t t' : TGs} (h : PGs X es t) (i : ∀ v σ H Q, t' v σ H Q → t v σ H Q) : PGs X es t' := ⟨fun pins s σ H v u Q I r q => h.run pins s σ H v u Q I r (i v σ H Q q)⟩
variable (X nf) in
abbrev DGos (es : List Expr) (js : List Nat) (g : DGs nf) : Prop := PGs X es (liftGs X.K nf js g)
def gsNil : DGs nf := fun ds env Q => ds = [] ∧ Q env
def gsCons (g : DG nf) (r : DGs nf) : DGs nf := fun ds env Q => ∃ d rs, ds = d :: rs ∧ g d env fun env1 => r rs env1 Q
theorem dgs_nil : DGos X nf [] [] gsNil := pgs_imp pgs_nil fun vs σ H Q ⟨ds, env, fp, Qd, r, R, ⟨e, q⟩, k⟩ => by
  subst e
  cases r
  exact ⟨rfl, k _ _ fp rfl R Ch.refl q⟩
theorem dgs_cons {e : Expr} {es : List Expr} {js ks : List Nat} {g : DG nf} {r : DGs nf} (h1 : DGo X nf e js g) (h2 : DGos X nf es ks r) (hs : (assignEach (e :: es) X.env).map (·.2) = assign e X.env :: (assignEach es X.env).map (·.2) := by rfl) : DGos X nf (e :: es) (js ++ ks) (gsCons g r) :=
  pgs_imp (pgs_cons h1 h2 hs) fun vs σ H Q ⟨ds, env, fp, Qd, rr, R, ⟨d, rs, e, q⟩, k⟩ => by
    subst e
    cases rr with
    | cons r1 r2 =>
      refine ⟨_, _, rfl, d, env, fp, _, r1, R, q, fun σ1 env1 fp1 w1 R1 c1 q1 => ?_⟩
      exact ⟨rs, env1, fp1, Qd, r2, R1, q1, fun σ2 env2 fp2 w2 R2 c2 q2 => k σ2 env2 fp2 (by rw [wipe_app, wipe_app, w2, wipe_comm, w1, wipe_comm]) R2 (c1.trans c2) q2⟩
def gT (n : Nat) (g : DGs nf) : DG nf := fun d env Q => ∃ ds, d = .tup ds ∧ ds.length = n ∧ g ds env Q
theorem dg_tup {es : List Expr} {k : Nat} {js : List Nat} {g : DGs nf} {n : Nat} {pos : Pos} (hc : X.calm = true) (h : DGos X nf es js g) (hn : (assignEach es X.env).length = n := by rfl) (hst : (assignEach es X.env).findIdx? (·.1) = none := by rfl) : DGo X nf (.Tuple es k pos) js (gT n g) :=
  pg_imp (pg_tup hc h hn hst) fun v σ H Q ⟨d, env, fp, Qd, r, R, ⟨ds, e, hl, q⟩, k⟩ => by
    subst e
    cases r with
    | tup hs rr => exact ⟨_, _, rfl, hs, by rw [rr.length]; exact hl, ds, env, fp, Qd, rr, R, q, k⟩
def sAsg (a : DT nf) (g : DG nf) : DTS nf := fun De env => a env fun d env1 => g d env1 De.nx
theorem ds_asg {tg e : Expr} {a : DT nf} {js : List Nat} {g : DG nf} {pos : Pos} (he : DE X nf e a) (hg : DGo X nf tg js g) (hs : swapsWithSole [tg] e pos.line X.env = pure false := by rfl) (hw : swappedStores [tg] e X.env = pure none := by rfl)
    (h1 : (assignEach [tg] X.env).map (·.2) = [assign tg X.env] := by rfl) : DS X nf (.Assign [tg] e pos) (sAsg a g) := ps_imp (ps_asg he hg hs hw h1) fun E σ H ⟨env, fp, De, R, q, br⟩ =>
  ⟨env, fp, _, R, q, fun v H1 d env1 fp1 r1 R1 c1 q1 => ⟨d, env1, fp1, _, r1, R1, q1, fun σ2 env2 fp2 _ R2 c2 q2 => br.nx σ2 H1 env2 fp2 R2 (c1.trans c2) q2⟩⟩
/-- a list of one's own that stands for xs -/
def lstA (K : PySem.W.Frag) (nf : NFs) (xs : List D) : OA nf where
  inv v fp H := ∃ p vs, v = .ref p ∧ fp = [p] ∧ H p = some (.lst vs) ∧ Rels K nf H vs xs
  frame := by
    rintro v fp H H' ⟨p, vs, e1, e2, hp, r⟩ k st
    subst e2
    exact ⟨p, vs, e1, rfl, by rw [k p (List.mem_singleton.mpr rfl)]; exact hp, r.mono st⟩
  trk := by
    rintro v fp H ⟨p, vs, e1, e2, hp, r⟩ a m
    subst e2
    rw [List.mem_singleton.mp m]
    exact ⟨_, hp, fun z => z, nofun, nofun⟩
  nd := by
    rintro v fp H ⟨p, vs, e1, e2, hp, r⟩
    subst e2
    simp
/-- x = [..], kept to be written -/
def sSetL (K : PySem.W.Frag) (i : Nat) (r : DAs nf) : DTS nf := fun De env => r env fun xs env1 => xs.length ≤ 1000000 ∧ i < env1.length ∧ ∀ p, De.nx (env1.set i (.ow (.ref p) (lstA K nf xs)))
theorem EnvR.setNew {H H' : Hp} {σ : St} {env : EV nf} {fp : List Addr} (R : EnvR K nf H σ env fp) {i : Nat} {v : V} {A : OA nf} {fi : List Addr} (hi : i < env.length) (x : Xt H H') (hA : A.inv v fi H') (hn : ∀ a ∈ fi, H a = none) :
    ∃ fp', EnvR K nf H' (σ.set i (some v)) (env.set i (.ow v A)) fp' ∧ Ch nf fp H fp' H' := by
  obtain ⟨o, f0, _, _, _, rep⟩ := R.at (i := i) (s := env[i]) (by simp [hi])
  obtain ⟨fp', R', sub⟩ := rep H' (some v) (.ow v A) fi ⟨rfl, hA⟩ (fun a u e _ => x a u e) (fun a m => .inr (hn a m)) x.stp
  exact R.rex R' (Ch.of (fun a u e _ => x a u e) R.1.pl (sub) ((x.ch (nf := nf) (fp := fp)).there))
theorem ds_setL {i : Nat} {x : Str} {es : List Expr} {r : DAs nf} {pos pos' lpos : Pos} (hN : X.N.Nodup) (hi : X.N[i]? = some x) (hx : Loc X.env.scope x) (h : DA X nf es r) (hs : swapsWith (.List es lpos) (some (.Name x pos')) pos.line X.env = pure false := by rfl)
    (hf : X.fn x = true ∨ X.env.scope.names.lookup x = some .local := by first | exact .inl rfl | exact .inr rfl | assumption) : DS X nf (.Assign [.Name x pos'] (.List es lpos) pos) (sSetL X.K i r) :=
  ps_imp (ps_set hN hi hx (pe_lst h) hs hf) fun E σ H ⟨env, fp, De, R, q, br⟩ => ⟨env, fp, _, R, q, fun vs H1 ds env1 fp1 r1 R1 c1 ⟨hz, hl, q1⟩ => ⟨by rw [r1.length]; exact sz_ok hz, fun p hp => by
    have x : Xt H1 (upd H1 p (.lst vs)) := Xt.new hp
    obtain ⟨fp2, R2, c2⟩ := R1.setNew (i := i) (v := .ref p) (A := lstA X.K nf ds) (fi := [p]) hl x ⟨p, vs, rfl, rfl, upd_same, r1.mono x.stp⟩ (fun a m => by rw [List.mem_singleton.mp m]; exact hp)
    exact br.nx _ _ _ fp2 R2 (c1.trans c2) (q1 p)⟩⟩
/-- changing the list that slot i owns -/
theorem EnvR.lstAt {H : Hp} {σ : St} {env : EV nf} {fp : List Addr} (R : EnvR K nf H σ env fp) {i : Nat} {v : V} {xs : List D} (e : env[i]? = some (.ow v (lstA K nf xs))) :
    ∃ p vs, v = .ref p ∧ σ[i]? = some (some (.ref p)) ∧ H p = some (.lst vs) ∧ Rels K nf H vs xs ∧
      ∀ vs' xs', Rels K nf H vs' xs' → ∃ fp', EnvR K nf (upd H p (.lst vs')) σ (env.set i (.ow v (lstA K nf xs'))) fp' ∧ Ch nf fp H fp' (upd H p (.lst vs')) := by
  obtain ⟨o, fi, e1, ⟨eo, p, vs, ev, ef, hp, r⟩, sub, rep⟩ := R.at e
  subst eo ev ef
  refine ⟨p, vs, rfl, e1, hp, r, fun vs' xs' r' => ?_⟩
  have st : Stp nf H (upd H p (.lst vs')) := fun a u h f => by
    by_cases ha : a = p
    · subst ha; rw [hp] at h; cases h; exact f.elim
    · rw [upd_ne ha]; exact h
  obtain ⟨fp', R', sub'⟩ := rep (upd H p (.lst vs')) (some (.ref p)) (.ow (.ref p) (lstA K nf xs')) [p] ⟨rfl, p, vs', rfl, rfl, upd_same, r'.mono st⟩ (fun a u h n => by
    rw [upd_ne (fun z => n (by rw [z]; exact List.mem_singleton.mpr rfl))]; exact h) (fun a m => .inl m) st
  have es : σ.set i (some (.ref p)) = σ := by
    obtain ⟨h1, h2⟩ := List.getElem?_eq_some_iff.mp e1
    rw [← h2]
    exact List.set_getElem_self h1
  rw [es] at R'
  refine R.rex R' (Ch.of (fun a u h n => ?_) R.1.pl (sub') (fun a h => ?_))
  · rw [upd_ne (fun z => n (by rw [z]; exact sub p (List.mem_singleton.mpr rfl)))]; exact h
  · by_cases ha : a = p
    · subst ha; rw [upd_same] at h; cases h
    · rw [upd_ne ha] at h; exact h
/-- xs.append(e) -/
def sApp (K : PySem.W.Frag) (i : Nat) (a : DT nf) : DTS nf := fun De env => a env fun d env1 => ∃ v xs, env1[i]? = some (.ow v (lstA K nf xs)) ∧ xs.length < 1000000 ∧ De.nx (env1.set i (.ow v (lstA K nf (xs ++ [d]))))
theorem ds_app {i : Nat} {o e : Expr} {a : DT nf} {apos cpos pos : Pos} (ho : PE X o (tVar i)) (h : DE X nf e a)
    (hbase : attributeBase o "append" X.env (eval o X.env) = eval o X.env := by rfl)
    (hfew : ((backTo cpos (starEach [e] X.env)).all (fun x => !x.1) && (backToKw cpos (keywordEach [] X.env)).all (fun x => x.1.isSome) && decide (([e] : List Expr).length + ([] : List Keyword).length + (if ([] : List Keyword).isEmpty then 0 else 1) < 30)) = true := by rfl)
    (hline : (apos.endLine == cpos.line) = true := by rfl) (hst : starEach [e] X.env = (false, eval e X.env) :: starEach [] X.env := by rfl) (hplain : (backTo cpos (starEach [] X.env)).any (·.1) = false := by rfl)
    (hs : swapsWith (.Call (.Attribute o "append" apos) [e] [] cpos) none pos.line X.env = pure false := by rfl) : DS X nf (.Expr (.Call (.Attribute o "append" apos) [e] [] cpos) pos) (fun De env => (∃ v xs, env[i]? = some (.ow v (lstA X.K nf xs))) ∧ sApp X.K i a De env) :=
  ps_imp (ps_expr (pe_bm PySem.F.plainAttrs_list PySem.F.slot_list_append PySem.F.type_list_append mt_append ho (pa_cons h pa_nil hst) hbase hfew hline hst hplain) hs) fun E σ H ⟨env, fp, De, R, ⟨⟨v0, xs0, e0⟩, q⟩, br⟩ => by
    obtain ⟨p0, vs0, ev0, es0, hp0, _, _⟩ := R.lstAt e0
    subst ev0
    refine ⟨_, es0, Or.inl ⟨rfl, vs0, SqL.of hp0⟩, lift_run R q fun w H1 d env1 fp1 r1 R1 c1 ⟨v, xs, e1, hl, q1⟩ => ?_⟩
    obtain ⟨p, vs, ev, es, hp, rr, rep⟩ := R1.lstAt e1
    rw [es0] at es
    cases es
    obtain ⟨fp2, R2, c2⟩ := rep (vs ++ [w]) (xs ++ [d]) (rr.append (.cons r1 .nil))
    exact ⟨p0, vs, w, rfl, rfl, hp, by rw [rr.length]; exact Nat.lt_of_lt_of_le hl (by decide), br.nx σ _ _ fp2 R2 (c1.trans c2) q1⟩
/-- the list of a slot, read as a value: frozen from here on -/
def dVarF (K : PySem.W.Frag) (i : Nat) : DT nf := fun env Q => ∃ v xs, env[i]? = some (.ow v (lstA K nf xs)) ∧ Q (.lst xs) (env.set i (.fz (.lst xs)))
theorem EnvR.fzAt {H : Hp} {σ : St} {env : EV nf} {fp : List Addr} (R : EnvR K nf H σ env fp) {i : Nat} {v : V} {xs : List D} (e : env[i]? = some (.ow v (lstA K nf xs))) :
    ∃ p vs, v = .ref p ∧ σ[i]? = some (some (.ref p)) ∧ H p = some (.lst vs) ∧
      ∀ o, Rel K nf (upd H p (.frz o (.lst vs))) (.ref p) (.lst xs) ∧ ∃ fp', EnvR K nf (upd H p (.frz o (.lst vs))) σ (env.set i (.fz (.lst xs))) fp' ∧ Ch nf fp H fp' (upd H p (.frz o (.lst vs))) := by
  obtain ⟨o, fi, e1, ⟨eo, p, vs, ev, ef, hp, r⟩, sub, rep⟩ := R.at e
  subst eo ev ef
  refine ⟨p, vs, rfl, e1, hp, fun o => ?_⟩
  have st : Stp nf H (upd H p (.frz o (.lst vs))) := fun a u h f => by
    by_cases ha : a = p
    · subst ha; rw [hp] at h; cases h; exact f.elim
    · rw [upd_ne ha]; exact h
  have rel : Rel K nf (upd H p (.frz o (.lst vs))) (.ref p) (.lst xs) := .lst ⟨o, upd_same⟩ (r.mono st)
  obtain ⟨fp', R', sub'⟩ := rep (upd H p (.frz o (.lst vs))) (some (.ref p)) (.fz (.lst xs)) [] ⟨rfl, _, rfl, rel⟩ (fun a u h n => by
    rw [upd_ne (fun z => n (by rw [z]; exact List.mem_singleton.mpr rfl))]; exact h) (fun a m => by cases m) st
  have es : σ.set i (some (.ref p)) = σ := by
    obtain ⟨h1, h2⟩ := List.getElem?_eq_some_iff.mp e1
    rw [← h2]
    exact List.set_getElem_self h1
  rw [es] at R'
  refine ⟨rel, R.rex R' (Ch.of (fun a u h n => ?_) R.1.pl (sub') (fun a h => ?_))⟩
  · rw [upd_ne (fun z => n (by rw [z]; exact sub p (List.mem_singleton.mpr rfl)))]; exact h
  · by_cases ha : a = p
    · subst ha; rw [upd_same] at h; cases h
    · rw [upd_ne ha] at h; exact h
theorem de_varF {i : Nat} {e : Expr} (h : PE X e (tVar i)) : DE X nf e (dVarF X.K i) := pe_imp (pe_fz h) fun σ H Q ⟨env, fp, Qd, R, ⟨v, xs, e, q⟩, k⟩ => by
  obtain ⟨p, vs, ev, es, hp, f⟩ := R.fzAt e
  refine ⟨_, es, p, _, rfl, hp, trivial, fun o => ?_⟩
  obtain ⟨rel, fp', R', c⟩ := f o
  exact k _ _ _ _ fp' rel R' c q
end
end DL
namespace DL
open PySem L2
section
variable {X : Cx} {nf : NFs} [Anch nf] {K : PySem.W.Frag}
/-- the walk J, begun at H0, gives things that stand for ds, one by one, while all that is frozen stands -/
def WalkD (K : PySem.W.Frag) (nf : NFs) (J : It) (H0 : Hp) (ds : List D) : Prop :=
  ∃ G Y, Walk J ds.length G Y ∧ (∀ H, Stp nf H0 H → G H) ∧ ∀ i H x H2, i < ds.length → Stp nf H0 H → Y i H x H2 → Xt H H2 ∧ ∃ d, ds[i]? = some d ∧ Rel K nf H2 x d
def liftI (K : PySem.W.Frag) (nf : NFs) [Anch nf] (di : DAs nf) : TI := fun σ H R => ∃ env fp Qd, EnvR K nf H σ env fp ∧ di env Qd ∧ ∀ J ds H' env' fp', WalkD K nf J H' ds → EnvR K nf H' σ env' fp' → Ch nf fp H fp' H' → Qd ds env' → R J H'
theorem pi_imp {tg e : Expr} {t t' : TI} (h : PI X tg e t) (i : ∀ σ H Q, t' σ H Q → t σ H Q) : PI X tg e t' := ⟨fun pins s σ H Q I q => h.run pins s σ H Q I (i σ H Q q)⟩
variable (X nf) in
abbrev DIo (tg e : Expr) (di : DAs nf) : Prop := PI X tg e (liftI X.K nf di)
def lsOf : D → Option (List D)
  | .lst xs => some xs
  | .scr ns => some (ns.map .int)
  | _ => none
theorem ints_rels {H : Hp} : ∀ (ns : List Int), Rels K nf H (ns.map V.int) (ns.map D.int)
  | [] => .nil
  | n :: ns => .cons (.int n) (ints_rels ns)
theorem ls_of {H : Hp} {v : V} {d : D} {xs : List D} (r : Rel K nf H v d) (e : lsOf d = some xs) : ∃ a vs, v = .ref a ∧ SqL K H a vs ∧ (∀ H', Stp nf H H' → SqL K H' a vs) ∧ Rels K nf H vs xs := by
  cases r <;> simp only [lsOf] at e <;> try cases e
  · rename_i hl rr
    exact ⟨_, _, rfl, hl.sq, fun _ s => (hl.mono s).sq, rr⟩
  · rename_i h
    exact ⟨_, _, rfl, h.sq, fun _ s => (h.mono s).sq, ints_rels _⟩
def iL (da : DT nf) : DAs nf := fun env Q => da env fun d env1 => ∃ xs, lsOf d = some xs ∧ Q xs env1
theorem di_list {tg l : Expr} {da : DT nf} (h : DE X nf l da) : DIo X nf tg l (iL da) := pi_imp (pi_list h) fun σ H R ⟨env, fp, Qd, R0, q, k⟩ =>
  lift_run R0 q fun v H1 d env1 fp1 r1 R1 c1 ⟨xs, e, q1⟩ => by
    obtain ⟨a, vs, ev, hl, hs, rr⟩ := ls_of r1 e
    subst ev
    refine ⟨a, rfl, ⟨vs, hl⟩, k _ xs H1 env1 fp1 ⟨_, _, rr.length ▸ walk_list (xs := vs), fun H s => hs H s, fun i H x H2 hi s ⟨e2, y⟩ => ?_⟩ R1 c1 q1⟩
    subst e2
    obtain ⟨d, e3, r3⟩ := rr.getV y
    exact ⟨Xt.refl, d, e3, r3.mono s⟩
def iT (da : DT nf) : DAs nf := fun env Q => da env fun d env1 => ∃ xs, d = .tup xs ∧ Q xs env1
theorem di_tup {tg l : Expr} {da : DT nf} (h : DE X nf l da) : DIo X nf tg l (iT da) := pi_imp (pi_tup h) fun σ H R ⟨env, fp, Qd, R0, q, k⟩ =>
  lift_run R0 q fun v H1 d env1 fp1 r1 R1 c1 ⟨xs, e, q1⟩ => by
    subst e
    cases r1 with
    | @tup a vs _ hl rr =>
      refine ⟨a, rfl, ⟨vs, hl⟩, k _ xs H1 env1 fp1 ⟨_, _, rr.length ▸ walk_tup (xs := vs), fun H s => sqT_mono s hl, fun i H x H2 hi s ⟨e2, y⟩ => ?_⟩ R1 c1 q1⟩
      subst e2
      obtain ⟨d, e3, r3⟩ := rr.getV y
      exact ⟨Xt.refl, d, e3, r3.mono s⟩
/-- lo, lo + 1, .. -/
def rangeD (lo : Int) (n : Nat) : List D := (List.range n).map fun i => .int (lo + (i : Nat))
theorem walk_rangeD (lo : Int) (n : Nat) (H0 : Hp) : WalkD K nf (Itr lo n) H0 (rangeD lo n) := by
  have e : (rangeD lo n).length = n := by simp [rangeD]
  refine ⟨fun _ => True, YFn fun i => .int (lo + i), by rw [e]; exact walk_range, fun _ _ => trivial, fun i H x H2 hi s ⟨e2, y⟩ => ?_⟩
  subst e2 y
  refine ⟨Xt.refl, .int (lo + i), ?_, .int _⟩
  rw [e] at hi
  simp [rangeD, hi]
def iR1 (r : DAs nf) : DAs nf := fun env Q => r env fun ds env1 => ∃ n : Int, ds = [.int n] ∧ (-(2 ^ 62) ≤ n ∧ n < 2 ^ 62) ∧ Q (rangeD 0 n.toNat) env1
def iR2 (r : DAs nf) : DAs nf := fun env Q => r env fun ds env1 => ∃ a n : Int, ds = [.int a, .int n] ∧ (-(2 ^ 62) ≤ a ∧ a < 2 ^ 62 ∧ -(2 ^ 62) ≤ n ∧ n < 2 ^ 62) ∧ Q (rangeD a (n - a).toNat) env1
theorem rels1 {H : Hp} {vs : List V} {n : Int} (r : Rels K nf H vs [.int n]) : vs = [.int n] := by
  cases r with
  | cons h t => cases t; cases h; rfl
theorem di_range1 {tg a : Expr} {r : DAs nf} {p pos : Pos} (hg : Gl X "range") (hm : X.mg "range" = none) (ha : DA X nf [a] r) (hs : starEach [a] X.env = [(false, eval a X.env)] := by rfl) : DIo X nf tg (.Call (.Name "range" p) [a] [] pos) (iR1 r) :=
  pi_imp (pi_range1 hg hm ha hs) fun σ H R ⟨env, fp, Qd, R0, q, k⟩ => ⟨env, fp, _, R0, q, fun vs H1 ds env1 fp1 r1 R1 c1 ⟨n, e, hb, q1⟩ => by
    subst e
    exact ⟨n, rels1 r1, hb.1, hb.2, k _ _ H1 env1 fp1 (walk_rangeD 0 n.toNat H1) R1 c1 q1⟩⟩
/-- the signs of a text, each a text -/
def signsD (z : Str) : List D := z.cps.toList.map fun c => .str ⟨#[c]⟩
def iS (da : DT nf) : DAs nf := fun env Q => da env fun d env1 => ∃ z, d = .str z ∧ Q (signsD z) env1
theorem di_str {tg l : Expr} {da : DT nf} (h : DE X nf l da) : DIo X nf tg l (iS da) := pi_imp (pi_str h) fun σ H R ⟨env, fp, Qd, R0, q, k⟩ =>
  lift_run R0 q fun v H1 d env1 fp1 r1 R1 c1 ⟨z, e, q1⟩ => by
    subst e
    cases r1
    have e : (signsD z).length = z.cps.size := by simp [signsD]
    refine ⟨z, rfl, k _ _ H1 env1 fp1 ⟨_, _, e ▸ walk_str (z := z), fun _ _ => trivial, fun i H x H2 hi s ⟨e2, c, hc, y⟩ => ?_⟩ R1 c1 q1⟩
    subst e2 y
    refine ⟨Xt.refl, .str ⟨#[c]⟩, ?_, .str _⟩
    simp [signsD, hc]
/-- a key as data -/
def kD : Key → D
  | .inl i => .int i
  | .inr x => .str x
theorem RelK.length : ∀ {H : Hp} {vs : List (Key × V)} {ds : List (Key × D)}, RelK K nf H vs ds → vs.length = ds.length
  | _, _, _, .nil => rfl
  | _, _, _, .cons _ r => by rw [List.length_cons, List.length_cons, RelK.length r]
theorem RelK.getV : ∀ {H : Hp} {vs : List (Key × V)} {ds : List (Key × D)} {i : Nat} {k : Key} {v : V}, RelK K nf H vs ds → vs[i]? = some (k, v) → ∃ d, ds[i]? = some (k, d) ∧ Rel K nf H v d
  | _, _, _, _, _, _, .nil, e => by simp at e
  | _, _, _, 0, _, _, .cons h _, e => by simp at e; obtain ⟨rfl, rfl⟩ := e; exact ⟨_, rfl, h⟩
  | _, _, _, i + 1, k, v, .cons _ r, e => by
    obtain ⟨d, h1, h2⟩ := RelK.getV (i := i) (k := k) (v := v) r (by simpa using e)
    exact ⟨d, by simpa using h1, h2⟩
def iK (da : DT nf) : DAs nf := fun env Q => da env fun d env1 => ∃ kds, d = .dct kds ∧ Q (kds.map fun p => kD p.1) env1
def iKV (da : DT nf) : DAs nf := fun env Q => da env fun d env1 => ∃ kds, d = .dct kds ∧ Q (kds.map fun p => .tup [kD p.1, p.2]) env1
def dFor (g : DG nf) (b : DTS nf) : List D → DTS nf
  | [], De, env => De.nx env
  | x :: xs, De, env => g x env fun env1 => b { De with nx := dFor g b xs De, ct := dFor g b xs De, bk := De.nx } env1
def sFor (di : DAs nf) (g : DG nf) (b : DTS nf) : DTS nf := fun De env => di env fun ds env1 => dFor g b ds De env1
theorem drop_cons {α : Type} {xs : List α} {i : Nat} {x : α} (h : xs[i]? = some x) : xs.drop i = x :: xs.drop (i + 1) := by
  obtain ⟨h1, h2⟩ := List.getElem?_eq_some_iff.mp h
  rw [← h2]
  exact List.drop_eq_getElem_cons h1
theorem ds_for {tg iter : Expr} {body : List Stmt} {pos : Pos} {di : DAs nf} {js : List Nat} {g : DG nf} {b : DTS nf} (hp : PassesOwn (model X.prog X.w) X.A X.env X.xe) (hc : X.calm = true) (hi : DIo X nf tg iter di) (hg : DGo X nf tg js g) (hb : DSs X nf body b)
    (hs : ∀ x, foldedSetIterable iter X.env x = pure x := by intro _; rfl) : DS X nf (.For tg iter body [] pos) (sFor di g b) := ps_imp (ps_for hp hc hi hg hb hs) fun E σ H ⟨env, fp, De, R, q, br⟩ =>
  ⟨env, fp, _, R, q, fun J ds H1 env1 fp1 ⟨G, Y, w, hG, hY⟩ R1 c1 q1 => by
    refine for_it w (fun i σ' H' => ∃ env' fp', EnvR X.K nf H' σ' env' fp' ∧ Ch nf fp1 H1 fp' H' ∧ dFor g b (ds.drop i) De env') ⟨env1, fp1, R1, Ch.refl, q1⟩ (fun i σ' H' _ ⟨env', fp', R', c', _⟩ => hG H' (c'.stp R1)) (fun i x σ' H' H2 hi ⟨env', fp', R', c', q'⟩ y => ?_) fun σ' H' ⟨env', fp', R', c', q'⟩ => ?_
    · obtain ⟨xt, d, ed, r⟩ := hY i H' x H2 hi (c'.stp R1) y
      rw [drop_cons ed] at q'
      refine ⟨d, env', fp', _, r, R'.ext xt, q', fun σ2 env2 fp2 _ R2 c2 q2 => ?_⟩
      have c3 := (c'.trans xt.ch).trans c2
      refine ⟨env2, fp2, _, R2, q2, ⟨fun σ3 H3 env3 fp3 R3 cc q3 => ⟨env3, fp3, R3, c3.trans cc, q3⟩, fun v d σ3 H3 env3 fp3 r3 R3 cc q3 => br.rt v d σ3 H3 env3 fp3 r3 R3 (c1.trans (c3.trans cc)) q3, fun σ3 H3 env3 fp3 R3 cc q3 => br.nx σ3 H3 env3 fp3 R3 (c1.trans (c3.trans cc)) q3, fun σ3 H3 env3 fp3 R3 cc q3 => ⟨env3, fp3, R3, c3.trans cc, q3⟩, fun v A σ3 H3 env3 fp3 fi i3 R3 n3 cc q3 => br.ro v A σ3 H3 env3 fp3 fi i3 R3 n3 (c1.trans (c3.trans cc)) q3⟩⟩
    · rw [List.drop_length] at q'
      exact br.nx σ' H' env' fp' R' (c1.trans c') q'⟩
def wipeD (env : EV nf) : List Nat → EV nf
  | [] => env
  | j :: js => (wipeD env js).set j .un
theorem EnvR.forget {H : Hp} {σ : St} {env : EV nf} {fp : List Addr} (R : EnvR K nf H σ env fp) (o : Option V) (i : Nat) : ∃ fp', EnvR K nf H (σ.set i o) (env.set i .un) fp' ∧ Ch nf fp H fp' H := by
  by_cases hi : i < env.length
  · obtain ⟨_, fi, _, _, _, rep⟩ := R.at (i := i) (s := env[i]) (by simp [hi])
    obtain ⟨fp', R', sub⟩ := rep H o .un [] rfl (fun a u e _ => e) (fun a m => by cases m) Stp.refl
    exact R.rex R' (Ch.of (fun a u e _ => e) R.1.pl (sub) (fun a e => e))
  · rw [List.set_eq_of_length_le (by have := R.length; omega), List.set_eq_of_length_le (by have := R.length; omega)]
    exact ⟨fp, R, Ch.refl⟩
theorem EnvR.wipe {H : Hp} {σ : St} {env : EV nf} {fp : List Addr} (R : EnvR K nf H σ env fp) : ∀ js : List Nat, ∃ fp', EnvR K nf H (L2.wipe σ js) (wipeD env js) fp' ∧ Ch nf fp H fp' H
  | [] => ⟨fp, R, Ch.refl⟩
  | j :: js => by
    obtain ⟨fp1, R1, c1⟩ := EnvR.wipe R js
    obtain ⟨fp2, R2, c2⟩ := R1.forget none j
    exact ⟨fp2, R2, c1.trans c2⟩
theorem EnvL.noset {H : Hp} {σ : St} {env : EV nf} {fp : List Addr} (R : EnvL K nf H σ env fp) (o : Option V) (i : Nat) (h : env[i]? = some .un ∨ env.length ≤ i) : EnvL K nf H (σ.set i o) env fp := by
  induction R generalizing i with
  | nil => exact .nil
  | @cons o1 σ1 s env1 fp1 fq hs he hd ih =>
    cases i with
    | zero =>
      rcases h with h | h
      · simp at h
        subst h
        have e : fp1 = [] := hs
        exact .cons (show SlotR K nf H o fp1 .un from e) he hd
      · simp at h
    | succ i => exact .cons hs (ih i (by simpa using h)) hd
theorem EnvR.noset {H : Hp} {σ : St} {env : EV nf} {fp : List Addr} (R : EnvR K nf H σ env fp) (o : Option V) (i : Nat) (h : env[i]? = some .un ∨ env.length ≤ i) : EnvR K nf H (σ.set i o) env fp := ⟨R.1.noset o i h, R.2⟩
/-- slots that are forgotten may hold anything -/
theorem EnvR.unwipe {H : Hp} {σ σ' : St} {env : EV nf} {fp : List Addr} : ∀ (js : List Nat), EnvR K nf H σ env fp → L2.wipe σ' js = L2.wipe σ js → (∀ j ∈ js, env[j]? = some .un ∨ env.length ≤ j) → EnvR K nf H σ' env fp := by
  intro js R e hu
  have all : ∀ (js : List Nat), (∀ j ∈ js, env[j]? = some .un ∨ env.length ≤ j) → ∀ σ1 : St, EnvR K nf H σ1 env fp → EnvR K nf H (L2.wipe σ1 js) env fp := by
    intro js
    induction js with
    | nil => intro _ σ1 R1; exact R1
    | cons j js ih => intro h σ1 R1; exact (ih (fun k m => h k (List.mem_cons_of_mem _ m)) σ1 R1).noset none j (h j List.mem_cons_self)
  have back : ∀ (js : List Nat), (∀ j ∈ js, env[j]? = some .un ∨ env.length ≤ j) → ∀ σ1 : St, EnvR K nf H (L2.wipe σ1 js) env fp → EnvR K nf H σ1 env fp := by
    intro js
    induction js with
    | nil => intro _ σ1 R1; exact R1
    | cons j js ih =>
      intro h σ1 R1
      refine ih (fun k m => h k (List.mem_cons_of_mem _ m)) σ1 ?_
      have R2 : EnvR K nf H ((L2.wipe σ1 js).set j none) env fp := R1
      by_cases hj : j < (L2.wipe σ1 js).length
      · have R3 := R2.noset ((L2.wipe σ1 js)[j]) j (h j List.mem_cons_self)
        rw [List.set_set, List.set_getElem_self hj] at R3
        exact R3
      · rw [List.set_eq_of_length_le (by omega)] at R2
        exact R2
  exact back js hu σ' (e ▸ all js hu σ R)
theorem wipeD_un (env : EV nf) : ∀ (js : List Nat), ∀ j ∈ js, (wipeD env js)[j]? = some .un ∨ (wipeD env js).length ≤ j
  | [], _, m => by cases m
  | k :: js, j, m => by
    show ((wipeD env js).set k .un)[j]? = some .un ∨ ((wipeD env js).set k .un).length ≤ j
    rw [List.length_set]
    by_cases hk : k = j
    · subst hk
      by_cases hl : k < (wipeD env js).length
      · exact .inl (List.getElem?_set_self hl)
      · exact .inr (by omega)
    · rcases List.mem_cons.mp m with e | m
      · exact absurd e.symm hk
      · rw [List.getElem?_set_ne hk]
        exact wipeD_un env js j m
def dComp (g : DG nf) (dt : DB nf) (de : DT nf) (js : List Nat) : List D → List D → EV nf → (List D → EV nf → Prop) → Prop
  | [], acc, env, Q => Q acc env
  | x :: xs, acc, env, Q => g x env fun env1 => dt env1 fun b env2 => if b = true then de env2 fun d env3 => acc.length < 1000000 ∧ dComp g dt de js xs (acc ++ [d]) (wipeD env3 js) Q else dComp g dt de js xs acc (wipeD env2 js) Q
def dYes : DB nf := fun env Q => Q true env
def dLc (di : DAs nf) (g : DG nf) (dt : DB nf) (de : DT nf) (js : List Nat) : DT nf := fun env Q => di env fun ds env1 => dComp g dt de js ds [] (wipeD env1 js) fun acc env2 => Q (.lst acc) env2
/-- the reading of a comprehension; Qe: what is wanted of the new list (not frozen yet) -/
theorem lift_lc {di : DAs nf} {g : DG nf} {dt : DB nf} {de : DT nf} {js : List Nat} {σ : St} {H : Hp} {Q : VK} {env : EV nf} {fp : List Addr} {Qd : List D → EV nf → Prop} (R : EnvR K nf H σ env fp)
    (h : di env fun ds env1 => dComp g dt de js ds [] (wipeD env1 js) Qd)
    (k : ∀ p vs H' ds env' fp', H p = none → H' p = some (.lst vs) → p ∉ fp' → Rels K nf H' vs ds → EnvR K nf H' σ env' fp' → Ch nf fp H fp' H' → Qd ds env' → Q (.ref p) H') :
    tLc (liftI K nf di) (liftG K nf js g) (liftB K nf dt) (lift K nf de) js σ H Q := by
  refine ⟨env, fp, _, R, h, fun J ds H1 env1 fp1 ⟨G, Y, w, hG, hY⟩ R1 c1 q1 => fun Dl hD => ?_⟩
  obtain ⟨fpw, Rw, cw⟩ := R1.wipe js
  have x0 : Xt H1 (upd H1 Dl (.lst [])) := Xt.new hD
  refine lc_it w (fun i H' => ∃ env' fp' vs acc, EnvR K nf H' (L2.wipe σ js) env' fp' ∧ Ch nf fp1 H1 fp' H' ∧ Dl ∉ fp' ∧ H' Dl = some (.lst vs) ∧ Rels K nf H' vs acc ∧ (∀ j ∈ js, env'[j]? = some .un ∨ env'.length ≤ j) ∧ dComp g dt de js (ds.drop i) acc env' Qd)
    ⟨_, fpw, [], [], Rw.ext x0, cw.trans x0.ch, (fun m => by obtain ⟨u, e, _⟩ := Rw.trk Dl m; rw [hD] at e; cases e), upd_same, .nil, wipeD_un env1 js, q1⟩
    (fun i H' _ ⟨env', fp', _, _, R', c', _⟩ => hG H' (c'.stp R1)) (fun i x H' H2 hi ⟨env', fp', vs, acc, R', c', nD, hDl, rr, hu, q'⟩ y => ?_) fun H' ⟨env', fp', vs, acc, R', c', nD, hDl, rr, hu, q'⟩ => ?_
  · obtain ⟨xt, d, ed, r⟩ := hY i H' x H2 hi (c'.stp R1) y
    rw [drop_cons ed] at q'
    refine ⟨d, env', fp', _, r, R'.ext xt, q', fun σ2 env2 fp2 hw R2 c2 q2 => ⟨by rw [hw]; exact wipe_wipe σ js, ?_⟩⟩
    have c3 := (c'.trans xt.ch).trans c2
    have nD2 : Dl ∉ fp2 := fun m => by
      rcases (xt.ch.trans c2).sub Dl m with z | z
      · exact nD z
      · rw [hDl] at z; cases z
    have hD2 : H2 Dl = some (.lst vs) := xt _ _ hDl
    refine ⟨env2, fp2, _, R2, q2, fun b H3 env3 fp3 R3 c4 q3 => ?_⟩
    have nD3 : Dl ∉ fp3 := fun m => by
      rcases c4.sub Dl m with z | z
      · exact nD2 z
      · rw [hD2] at z; cases z
    have hD3 : H3 Dl = some (.lst vs) := c4.keep _ _ hD2 nD2 nofun
    have st3 : Stp nf H' H3 := xt.stp.trans (c4.stp R2)
    cases b with
    | true =>
      show lift K nf de σ2 H3 _
      refine lift_run R3 q3 fun v H4 d4 env4 fp4 r4 R4 c5 ⟨hlen, q4⟩ => ?_
      have nD4 : Dl ∉ fp4 := fun m => by
        rcases c5.sub Dl m with z | z
        · exact nD3 z
        · rw [hD3] at z; cases z
      have hD4 : H4 Dl = some (.lst vs) := c5.keep _ _ hD3 nD3 nofun
      have rr4 : Rels K nf H4 vs acc := rr.mono (st3.trans (c5.stp R3))
      obtain ⟨fp5, R5, c6⟩ := R4.wipe js
      have nD5 : Dl ∉ fp5 := fun m => by
        rcases c6.sub Dl m with z | z
        · exact nD4 z
        · rw [hD4] at z; cases z
      have st5 : Stp nf H4 (upd H4 Dl (.lst (vs ++ [v]))) := fun a u e f => by
        by_cases ha : a = Dl
        · subst ha; rw [hD4] at e; cases e; exact f.elim
        · rw [upd_ne ha]; exact e
      have R6 := R5.frame (H' := upd H4 Dl (.lst (vs ++ [v]))) (fun a m => upd_ne fun z => nD5 (z ▸ m)) st5 R1.2 ((((c3.trans c4).trans c5).trans c6).put hD hD4 pl_lst)
      have hw' : L2.wipe σ2 js = L2.wipe σ js := by rw [hw]; exact wipe_wipe σ js
      rw [hw'] at R6
      refine ⟨vs, hD4, by rw [rr4.length]; exact Nat.lt_of_lt_of_le hlen (by decide), _, fp5, vs ++ [v], acc ++ [d4], R6, ?_, nD5, upd_same, (rr4.append (.cons r4 .nil)).mono st5, wipeD_un _ _, q4⟩
      have cc := ((c3.trans c4).trans c5).trans c6
      exact cc.put hD hD4 pl_lst
    | false =>
      obtain ⟨fp5, R5, c6⟩ := R3.wipe js
      have hw' : L2.wipe σ2 js = L2.wipe σ js := by rw [hw]; exact wipe_wipe σ js
      rw [hw'] at R5
      refine ⟨_, fp5, vs, acc, R5, (c3.trans c4).trans c6, fun m => ?_, hD3, rr.mono st3, wipeD_un _ _, q3⟩
      rcases c6.sub Dl m with z | z
      · exact nD3 z
      · rw [hD3] at z; cases z
  · rw [List.drop_length] at q'
    have R7 : EnvR K nf H' σ env' fp' := EnvR.unwipe js R' (wipe_wipe σ js).symm hu
    have hDn : H Dl = none := c1.there Dl hD
    exact k Dl vs H' acc env' fp' hDn hDl nD rr R7 (c1.trans c') q'
where
  wipe_wipe (σ : St) : ∀ js : List Nat, L2.wipe (L2.wipe σ js) js = L2.wipe σ js
    | [] => rfl
    | j :: js => by
      show (L2.wipe ((L2.wipe σ js).set j none) js).set j none = (L2.wipe σ js).set j none
      rw [wipe_out, List.set_set, wipe_wipe σ js]
end
end DL
namespace DL
open PySem L2
section
variable {X : Cx} {nf : NFs} [Anch nf] {K : PySem.W.Frag}
structure EnvF (K : PySem.W.Frag) (nf : NFs) (H : Hp) (σ : St) (env : EV nf) (f : Nat → List Addr) : Prop where
  len : σ.length = env.length
  slot : ∀ i s, env[i]? = some s → ∃ o, σ[i]? = some o ∧ SlotR K nf H o (f i) s
  apart : ∀ i j, i < env.length → j < env.length → i ≠ j → ∀ a ∈ f i, a ∉ f j
theorem EnvL.toF {H : Hp} {σ : St} {env : EV nf} {fp : List Addr} (R : EnvL K nf H σ env fp) : ∃ f, EnvF K nf H σ env f ∧ ∀ a, a ∈ fp ↔ ∃ i, i < env.length ∧ a ∈ f i := by
  induction R with
  | nil => exact ⟨fun _ => [], ⟨rfl, fun i s e => (by simp at e), fun i j h => (by simp at h)⟩, fun a => ⟨fun m => (by cases m), fun ⟨i, h, _⟩ => (by simp at h)⟩⟩
  | @cons o σ s env fp fq hs he hd ih =>
    obtain ⟨f, F, hm⟩ := ih
    refine ⟨fun i => match i with | 0 => fp | i + 1 => f i, ⟨by simp [F.len], fun i s' e => ?_, fun i j hi hj hij a ha => ?_⟩, fun a => ⟨fun m => ?_, fun ⟨i, hi, m⟩ => ?_⟩⟩
    · cases i with
      | zero => simp at e; subst e; exact ⟨o, rfl, hs⟩
      | succ i => exact F.slot i s' (by simpa using e)
    · cases i with
      | zero =>
        cases j with
        | zero => exact absurd rfl hij
        | succ j => exact fun z => hd a ha ((hm a).mpr ⟨j, by simpa using hj, z⟩)
      | succ i =>
        cases j with
        | zero => exact fun z => hd a z ((hm a).mpr ⟨i, by simpa using hi, ha⟩)
        | succ j => exact F.apart i j (by simpa using hi) (by simpa using hj) (fun e => hij (by rw [e])) a ha
    · rcases List.mem_append.mp m with m | m
      · exact ⟨0, by simp, m⟩
      · obtain ⟨i, hi, mi⟩ := (hm a).mp m
        exact ⟨i + 1, by simp; omega, mi⟩
    · cases i with
      | zero => exact List.mem_append_left _ m
      | succ i => exact List.mem_append_right _ ((hm a).mpr ⟨i, by simpa using hi, m⟩)
theorem EnvF.toR : ∀ {H : Hp} {σ : St} {env : EV nf} {f : Nat → List Addr}, EnvF K nf H σ env f → ∃ fp, EnvL K nf H σ env fp ∧ ∀ a, a ∈ fp ↔ ∃ i, i < env.length ∧ a ∈ f i
  | _, [], [], _, _ => ⟨[], .nil, fun a => ⟨fun m => (by cases m), fun ⟨i, h, _⟩ => (by simp at h)⟩⟩
  | _, [], _ :: _, _, F => by have := F.len; simp at this
  | _, _ :: _, [], _, F => by have := F.len; simp at this
  | H, o :: σ, s :: env, f, F => by
    obtain ⟨fq, R, hm⟩ := EnvF.toR (H := H) (σ := σ) (env := env) (f := fun i => f (i + 1)) ⟨by have := F.len; simpa using this, fun i s' e => by
      obtain ⟨o', e', h'⟩ := F.slot (i + 1) s' (by simpa using e)
      exact ⟨o', by simpa using e', h'⟩, fun i j hi hj hij a ha => F.apart (i + 1) (j + 1) (by simp; omega) (by simp; omega) (by omega) a ha⟩
    obtain ⟨o', e', h'⟩ := F.slot 0 s rfl
    simp at e'
    subst e'
    refine ⟨f 0 ++ fq, .cons h' R fun a ha hq => ?_, fun a => ⟨fun m => ?_, fun ⟨i, hi, m⟩ => ?_⟩⟩
    · obtain ⟨i, hi, mi⟩ := (hm a).mp hq
      exact F.apart 0 (i + 1) (by simp) (by simp; omega) (by omega) a ha mi
    · rcases List.mem_append.mp m with m | m
      · exact ⟨0, by simp, m⟩
      · obtain ⟨i, hi, mi⟩ := (hm a).mp m
        exact ⟨i + 1, by simp; omega, mi⟩
    · cases i with
      | zero => exact List.mem_append_left _ m
      | succ i => exact List.mem_append_right _ ((hm a).mpr ⟨i, by simpa using hi, m⟩)
inductive AD where
  | v (d : D) | o (i : Nat)
def resolve (env : EV nf) : AD → SD nf
  | .v d => .fz d
  | .o i => (env[i]?).getD .un
def slotsOf : List AD → List Nat
  | [] => []
  | .v _ :: r => slotsOf r
  | .o i :: r => i :: slotsOf r
def putBack : EV nf → List AD → List (SD nf) → EV nf
  | env, [], _ => env
  | env, _ :: _, [] => env
  | env, .v _ :: r, _ :: as => putBack env r as
  | env, .o i :: r, s :: as => putBack (env.set i s) r as
theorem putBack_len : ∀ (env : EV nf) (ads : List AD) (as : List (SD nf)), (putBack env ads as).length = env.length
  | env, [], _ => by simp only [putBack]
  | env, _ :: _, [] => by simp only [putBack]
  | env, .v _ :: r, _ :: as => by simp only [putBack]; exact putBack_len env r as
  | env, .o i :: r, s :: as => by simp only [putBack]; rw [putBack_len, List.length_set]
/-- what stands at i behind it: the argument's new state, or what stood -/
theorem putBack_get : ∀ (env : EV nf) (ads : List AD) (as : List (SD nf)) (i : Nat) (s : SD nf), ads.length = as.length → (slotsOf ads).Nodup → (putBack env ads as)[i]? = some s →
    (i ∉ slotsOf ads ∧ env[i]? = some s) ∨ ∃ k : Nat, ads[k]? = some (.o i) ∧ as[k]? = some s
  | env, [], _, i, s, _, _, e => by simp only [putBack] at e; exact .inl ⟨(fun m => by cases m), e⟩
  | env, a :: r, [], i, s, hl, _, e => by simp at hl
  | env, .v d :: r, _ :: as, i, s, hl, nd, e => by
    simp only [putBack] at e
    rcases putBack_get env r as i s (by simpa using hl) nd e with h | ⟨k, h1, h2⟩
    · exact .inl h
    · exact .inr ⟨k + 1, by simpa using h1, by simpa using h2⟩
  | env, .o j :: r, s0 :: as, i, s, hl, nd, e => by
    have nd' : (j :: slotsOf r).Nodup := nd
    simp only [putBack] at e
    rcases putBack_get (env.set j s0) r as i s (by simpa using hl) (List.nodup_cons.mp nd').2 e with ⟨h1, h2⟩ | ⟨k, h1, h2⟩
    · by_cases hj : j = i
      · subst hj
        by_cases hl2 : j < env.length
        · rw [List.getElem?_set_self hl2] at h2
          exact .inr ⟨0, rfl, by simpa using h2⟩
        · rw [List.getElem?_eq_none (by simpa using hl2)] at h2
          cases h2
      · rw [List.getElem?_set_ne hj] at h2
        refine .inl ⟨fun m => ?_, h2⟩
        rcases List.mem_cons.mp (show i ∈ j :: slotsOf r from m) with z | z
        · exact hj z.symm
        · exact h1 z
    · exact .inr ⟨k + 1, by simpa using h1, by simpa using h2⟩
inductive ArgsM (K : PySem.W.Frag) (nf : NFs) (H : Hp) (σ : St) : List V → List AD → Prop
  | nil : ArgsM K nf H σ [] []
  | val {v : V} {d : D} {vs ads} : Rel K nf H v d → ArgsM K nf H σ vs ads → ArgsM K nf H σ (v :: vs) (.v d :: ads)
  | slot {v : V} {i : Nat} {vs ads} : σ[i]? = some (some v) → ArgsM K nf H σ vs ads → ArgsM K nf H σ (v :: vs) (.o i :: ads)
theorem ArgsM.mono {H H' : Hp} {σ : St} (e : Stp nf H H') : ∀ {vs : List V} {ads : List AD}, ArgsM K nf H σ vs ads → ArgsM K nf H' σ vs ads
  | _, _, .nil => .nil
  | _, _, .val h r => .val (h.mono e) (r.mono e)
  | _, _, .slot h r => .slot h (r.mono e)
theorem ArgsM.len {H : Hp} {σ : St} : ∀ {vs : List V} {ads : List AD}, ArgsM K nf H σ vs ads → vs.length = ads.length
  | _, _, .nil => rfl
  | _, _, .val _ r => by rw [List.length_cons, List.length_cons, ArgsM.len r]
  | _, _, .slot _ r => by rw [List.length_cons, List.length_cons, ArgsM.len r]
theorem ArgsM.get {H : Hp} {σ : St} : ∀ {vs : List V} {ads : List AD} {k : Nat} {ad : AD}, ArgsM K nf H σ vs ads → ads[k]? = some ad → ∃ v, vs[k]? = some v ∧ match ad with | .v d => Rel K nf H v d | .o i => σ[i]? = some (some v)
  | _, _, _, _, .nil, e => by simp at e
  | _, _, 0, _, .val h _, e => by simp at e; subst e; exact ⟨_, rfl, h⟩
  | _, _, 0, _, .slot h _, e => by simp at e; subst e; exact ⟨_, rfl, h⟩
  | _, _, k + 1, ad, .val _ r, e => by
    obtain ⟨v, h1, h2⟩ := ArgsM.get (k := k) (ad := ad) r (by simpa using e)
    exact ⟨v, by simpa using h1, h2⟩
  | _, _, k + 1, ad, .slot _ r, e => by
    obtain ⟨v, h1, h2⟩ := ArgsM.get (k := k) (ad := ad) r (by simpa using e)
    exact ⟨v, by simpa using h1, h2⟩
theorem slots_mem : ∀ {ads : List AD} {k i : Nat}, ads[k]? = some (.o i) → i ∈ slotsOf ads
  | [], _, _, e => by simp at e
  | .v _ :: r, 0, i, e => by simp at e
  | .v _ :: r, k + 1, i, e => slots_mem (ads := r) (k := k) (by simpa using e)
  | .o j :: r, 0, i, e => by simp at e; subst e; exact List.mem_cons_self
  | .o j :: r, k + 1, i, e => List.mem_cons_of_mem _ (slots_mem (ads := r) (k := k) (by simpa using e))
theorem slots_inj : ∀ {ads : List AD} {k l i : Nat}, (slotsOf ads).Nodup → ads[k]? = some (.o i) → ads[l]? = some (.o i) → k = l
  | [], _, _, _, _, e, _ => by simp at e
  | .v _ :: r, 0, _, _, _, e, _ => by simp at e
  | .v _ :: r, _ + 1, 0, _, _, _, e => by simp at e
  | .v _ :: r, k + 1, l + 1, i, nd, e, e' => by rw [slots_inj (ads := r) (k := k) (l := l) nd (by simpa using e) (by simpa using e')]
  | .o j :: r, 0, 0, _, _, _, _ => rfl
  | .o j :: r, 0, l + 1, i, nd, e, e' => by
    simp at e
    subst e
    have nd' : (j :: slotsOf r).Nodup := nd
    exact absurd (slots_mem (ads := r) (k := l) (by simpa using e')) (List.nodup_cons.mp nd').1
  | .o j :: r, k + 1, 0, i, nd, e, e' => by
    simp at e'
    subst e'
    have nd' : (j :: slotsOf r).Nodup := nd
    exact absurd (slots_mem (ads := r) (k := k) (by simpa using e)) (List.nodup_cons.mp nd').1
  | .o j :: r, k + 1, l + 1, i, nd, e, e' => by
    have nd' : (j :: slotsOf r).Nodup := nd
    rw [slots_inj (ads := r) (k := k) (l := l) (List.nodup_cons.mp nd').2 (by simpa using e) (by simpa using e')]
theorem slots_idx : ∀ {ads : List AD} {i : Nat}, i ∈ slotsOf ads → ∃ k : Nat, ads[k]? = some (.o i)
  | [], _, m => by cases m
  | .v _ :: r, i, m => let ⟨k, e⟩ := slots_idx (ads := r) (i := i) m; ⟨k + 1, by simpa using e⟩
  | .o j :: r, i, m => by
    rcases List.mem_cons.mp (show i ∈ j :: slotsOf r from m) with z | z
    · subst z; exact ⟨0, rfl⟩
    · obtain ⟨k, e⟩ := slots_idx (ads := r) (i := i) z
      exact ⟨k + 1, by simpa using e⟩
/-- THE ARGUMENTS of a call taken out of the slots, and put back behind it -/
theorem EnvL.args {H : Hp} {σ : St} {env : EV nf} {fp : List Addr} (R : EnvL K nf H σ env fp) {vs : List V} {ads : List AD} (M : ArgsM K nf H σ vs ads) (nd : (slotsOf ads).Nodup) (hin : ∀ i ∈ slotsOf ads, i < env.length) :
    ∃ fpa, EnvL K nf H (vs.map some) (ads.map (resolve env)) fpa ∧ ∀ H' as fpa', as.length = ads.length → EnvL K nf H' (vs.map some) as fpa' → Ch nf fpa H fpa' H' → ∃ fp', EnvL K nf H' σ (putBack env ads as) fp' ∧ Ch nf fp H fp' H' ∧ (∀ a ∈ fp', a ∈ fpa' ∨ (a ∈ fp ∧ a ∉ fpa)) ∧ ∀ a ∈ fpa, a ∈ fp := by
  classical
  obtain ⟨f, F, hm⟩ := R.toF
  let g : Nat → List Addr := fun k => match ads[k]? with | some (.o i) => f i | _ => []
  have gv : ∀ k i, ads[k]? = some (.o i) → g k = f i := fun k i e => by show (match ads[k]? with | some (.o i) => f i | _ => []) = _; rw [e]
  have gd : ∀ k d, ads[k]? = some (.v d) → g k = [] := fun k d e => by show (match ads[k]? with | some (.o i) => f i | _ => []) = _; rw [e]
  have gmem : ∀ k a, a ∈ g k → ∃ i, ads[k]? = some (.o i) ∧ a ∈ f i := fun k a m => by
    cases e : ads[k]? with
    | none => have : g k = [] := by show (match ads[k]? with | some (.o i) => f i | _ => []) = _; rw [e]
              rw [this] at m; cases m
    | some ad =>
      cases ad with
      | v d => rw [gd k d e] at m; cases m
      | o i => rw [gv k i e] at m; exact ⟨i, rfl, m⟩
  have FA : EnvF K nf H (vs.map some) (ads.map (resolve env)) g := by
    refine ⟨by simp [M.len], fun k s e => ?_, fun k l hk hl hkl a ha => ?_⟩
    · rw [List.getElem?_map] at e
      cases ea : ads[k]? with
      | none => rw [ea] at e; cases e
      | some ad =>
        rw [ea] at e
        simp only [Option.map_some, Option.some.injEq] at e
        obtain ⟨v, ev, hv⟩ := M.get ea
        refine ⟨some v, by rw [List.getElem?_map, ev]; rfl, ?_⟩
        cases ad with
        | v d =>
          subst e
          rw [gd k d ea]
          exact ⟨rfl, v, rfl, hv⟩
        | o i =>
          have hv' : σ[i]? = some (some v) := hv
          have hi := hin i (slots_mem ea)
          obtain ⟨o, eo, so⟩ := F.slot i env[i] (by simp [hi])
          rw [hv'] at eo
          cases eo
          subst e
          rw [gv k i ea]
          show SlotR K nf H (some v) (f i) ((env[i]?).getD .un)
          simp only [List.getElem?_eq_getElem hi, Option.getD_some]
          exact so
    · obtain ⟨i, ei, mi⟩ := gmem k a ha
      intro z
      obtain ⟨j, ej, mj⟩ := gmem l a z
      by_cases hij : i = j
      · subst hij
        exact hkl (slots_inj nd ei ej)
      · exact F.apart i j (hin i (slots_mem ei)) (hin j (slots_mem ej)) hij a mi mj
  obtain ⟨fpa, RA, hma⟩ := FA.toR
  refine ⟨fpa, RA, fun H' as fpa' hl RA' ch => ?_⟩
  obtain ⟨g', F', hm'⟩ := RA'.toF
  have inA : ∀ a, a ∈ fpa ↔ ∃ i, i ∈ slotsOf ads ∧ a ∈ f i := fun a => by
    refine ⟨fun m => ?_, fun ⟨i, hi, mi⟩ => ?_⟩
    · obtain ⟨k, _, mk⟩ := (hma a).mp m
      obtain ⟨i, ei, mi⟩ := gmem k a mk
      exact ⟨i, slots_mem ei, mi⟩
    · obtain ⟨k, ek⟩ := slots_idx hi
      refine (hma a).mpr ⟨k, ?_, by rw [gv k i ek]; exact mi⟩
      rw [List.length_map]
      exact (List.getElem?_eq_some_iff.mp ek).1
  have st : Stp nf H H' := ch.stpL RA
  let f' : Nat → List Addr := fun i => if h : i ∈ slotsOf ads then g' (Classical.choose (slots_idx h)) else f i
  have fv : ∀ k i, ads[k]? = some (.o i) → f' i = g' k := fun k i e => by
    have h : i ∈ slotsOf ads := slots_mem e
    show (if h : i ∈ slotsOf ads then g' (Classical.choose (slots_idx h)) else f i) = _
    rw [dif_pos h, slots_inj nd (Classical.choose_spec (slots_idx h)) e]
  have fo : ∀ i, i ∉ slotsOf ads → f' i = f i := fun i h => dif_neg h
  have notA : ∀ i, i < env.length → i ∉ slotsOf ads → ∀ a ∈ f i, a ∉ fpa := fun i hi h a ha z => by
    obtain ⟨j, hj, mj⟩ := (inA a).mp z
    exact F.apart i j hi (hin j hj) (fun e => h (e ▸ hj)) a ha mj
  have trk : ∀ i, i < env.length → ∀ a ∈ f i, ∃ u, H a = some u := fun i hi a ha => by
    obtain ⟨u, e, _⟩ := R.trk a ((hm a).mpr ⟨i, hi, ha⟩)
    exact ⟨u, e⟩
  have kl : ∀ k i, ads[k]? = some (.o i) → k < as.length := fun k i e => by rw [hl]; exact (List.getElem?_eq_some_iff.mp e).1
  have FF : EnvF K nf H' σ (putBack env ads as) f' := by
    refine ⟨by rw [putBack_len]; exact F.len, fun i s e => ?_, fun i j hi hj hij a ha => ?_⟩
    · rcases putBack_get env ads as i s hl.symm nd e with ⟨h1, h2⟩ | ⟨k, h1, h2⟩
      · obtain ⟨o, eo, so⟩ := F.slot i s h2
        have hi : i < env.length := (List.getElem?_eq_some_iff.mp h2).1
        refine ⟨o, eo, ?_⟩
        rw [fo i h1]
        refine so.frame (fun a ha => ?_) st
        obtain ⟨u, eu⟩ := trk i hi a ha
        rw [eu]
        exact ch.keep a u eu (notA i hi h1 a ha) (R.pl a ((hm a).mpr ⟨i, hi, ha⟩) u eu).1
      · obtain ⟨o, eo, so⟩ := F'.slot k s h2
        obtain ⟨v, ev, hv⟩ := M.get h1
        rw [List.getElem?_map, ev] at eo
        cases eo
        refine ⟨some v, hv, ?_⟩
        rw [fv k i h1]
        exact so
    · rw [putBack_len] at hi hj
      by_cases h1 : i ∈ slotsOf ads
      · obtain ⟨k, ek⟩ := slots_idx h1
        rw [fv k i ek] at ha
        by_cases h2 : j ∈ slotsOf ads
        · obtain ⟨l, el⟩ := slots_idx h2
          rw [fv l j el]
          exact F'.apart k l (kl k i ek) (kl l j el) (fun e => hij (by
            subst e
            rw [ek] at el
            cases el
            rfl)) a ha
        · rw [fo j h2]
          intro z
          rcases ch.sub a ((hm' a).mpr ⟨k, kl k i ek, ha⟩) with q | q
          · exact notA j hj h2 a z q
          · obtain ⟨u, eu⟩ := trk j hj a z
            rw [q] at eu; cases eu
      · rw [fo i h1] at ha
        by_cases h2 : j ∈ slotsOf ads
        · obtain ⟨l, el⟩ := slots_idx h2
          rw [fv l j el]
          intro z
          rcases ch.sub a ((hm' a).mpr ⟨l, kl l j el, z⟩) with q | q
          · exact notA i hi h1 a ha q
          · obtain ⟨u, eu⟩ := trk i hi a ha
            rw [q] at eu; cases eu
        · rw [fo j h2]
          exact F.apart i j hi hj hij a ha
  obtain ⟨fp', R', hmf⟩ := FF.toR
  refine ⟨fp', R', ⟨fun a u e n t => ch.keep a u e (fun m => ?_) t, fun a m => ?_, ch.there, ch.tab⟩, fun a m => ?_, fun a m => ?_⟩
  · obtain ⟨i, hi, mi⟩ := (inA a).mp m
    exact n ((hm a).mpr ⟨i, hin i hi, mi⟩)
  · obtain ⟨i, hi, mi⟩ := (hmf a).mp m
    rw [putBack_len] at hi
    by_cases h1 : i ∈ slotsOf ads
    · obtain ⟨k, ek⟩ := slots_idx h1
      rw [fv k i ek] at mi
      rcases ch.sub a ((hm' a).mpr ⟨k, kl k i ek, mi⟩) with q | q
      · obtain ⟨j, hj, mj⟩ := (inA a).mp q
        exact .inl ((hm a).mpr ⟨j, hin j hj, mj⟩)
      · exact .inr q
    · rw [fo i h1] at mi
      exact .inl ((hm a).mpr ⟨i, hi, mi⟩)
  · obtain ⟨i, hi, mi⟩ := (hmf a).mp m
    rw [putBack_len] at hi
    by_cases h1 : i ∈ slotsOf ads
    · obtain ⟨k, ek⟩ := slots_idx h1
      rw [fv k i ek] at mi
      exact .inl ((hm' a).mpr ⟨k, kl k i ek, mi⟩)
    · rw [fo i h1] at mi
      exact .inr ⟨(hm a).mpr ⟨i, hi, mi⟩, notA i hi h1 a mi⟩
  · obtain ⟨i, hi, mi⟩ := (inA a).mp m
    exact (hm a).mpr ⟨i, hin i hi, mi⟩
theorem EnvR.args {H : Hp} {σ : St} {env : EV nf} {fp : List Addr} (R : EnvR K nf H σ env fp) {vs : List V} {ads : List AD} (M : ArgsM K nf H σ vs ads) (nd : (slotsOf ads).Nodup) (hin : ∀ i ∈ slotsOf ads, i < env.length) :
    ∃ fpa, EnvL K nf H (vs.map some) (ads.map (resolve env)) fpa ∧ ∀ H' as fpa', as.length = ads.length → EnvL K nf H' (vs.map some) as fpa' → Ch nf fpa H fpa' H' → ∃ fp', EnvR K nf H' σ (putBack env ads as) fp' ∧ Ch nf fp H fp' H' ∧ (∀ a ∈ fp', a ∈ fpa' ∨ (a ∈ fp ∧ a ∉ fpa)) ∧ ∀ a ∈ fpa, a ∈ fp := by
  obtain ⟨fpa, RA, put⟩ := R.1.args M nd hin
  refine ⟨fpa, RA, fun H' as fpa' hl RA' ch => ?_⟩
  obtain ⟨fp', R', c, h1, h2⟩ := put H' as fpa' hl RA' ch
  exact ⟨fp', R.re R' c, c, h1, h2⟩
end
end DL
namespace DL
open PySem L2
section
variable {X : Cx} {nf : NFs} [Anch nf] {K : PySem.W.Frag}
abbrev SpD (nf : NFs) := List (SD nf) → (D → List (SD nf) → Prop) → Prop
def toSp (K : PySem.W.Frag) (nf : NFs) (n : Nat) (S : SpD nf) : Sp := fun vs H Q _ => vs.length = n ∧ ∃ as fp Qd, as.length = n ∧ EnvL K nf H (vs.map some) as fp ∧ S as Qd ∧
  ∀ v H' d as' fp', as'.length = n → Rel K nf H' v d → EnvL K nf H' (vs.map some) as' fp' → Ch nf fp H fp' H' → Qd d as' → Q v H'
/-- at the end of a body: the owned parameters are still in their slots -/
def BackOk : List (SD nf) → EV nf → Prop
  | [], _ => True
  | .ow v _ :: as, e :: env => ((∃ A', e = .ow v A') ∨ ∃ d, e = .fr v d) ∧ BackOk as env
  | _ :: as, _ :: env => BackOk as env
  | _ :: _, [] => False
def back : List (SD nf) → EV nf → List (SD nf)
  | [], _ => []
  | .ow _ _ :: as, e :: env => e :: back as env
  | a :: as, _ :: env => a :: back as env
  | a :: as, [] => a :: back as []
theorem back_len : ∀ (as : List (SD nf)) (env : EV nf), (back as env).length = as.length
  | [], _ => by simp [back]
  | .ow _ _ :: as, e :: env => by simp [back, back_len as env]
  | .un :: as, e :: env => by simp [back, back_len as env]
  | .fz _ :: as, e :: env => by simp [back, back_len as env]
  | .fr _ _ :: as, e :: env => by simp [back, back_len as env]
  | .ow _ _ :: as, [] => by simp [back, back_len as []]
  | .un :: as, [] => by simp [back, back_len as []]
  | .fz _ :: as, [] => by simp [back, back_len as []]
  | .fr _ _ :: as, [] => by simp [back, back_len as []]
def fnEnds (as : List (SD nf)) (Qd : D → List (SD nf) → Prop) : EndsD nf where
  nx env := BackOk as env ∧ Qd .non (back as env)
  rt d env := BackOk as env ∧ Qd d (back as env)
theorem EnvL.back {H H' : Hp} (st : Stp nf H H') : ∀ {vs : List V} {as : List (SD nf)} {fp : List Addr} {σ' : St} {env' : EV nf} {fp' : List Addr}, EnvL K nf H (vs.map some) as fp → EnvL K nf H' σ' env' fp' → BackOk as env' →
    ∃ fq, EnvL K nf H' (vs.map some) (back as env') fq ∧ ∀ a ∈ fq, a ∈ fp'
  | [], [], _, _, _, _, _, _, _ => ⟨[], by simp only [DL.back]; exact .nil, fun a m => by cases m⟩
  | [], _ :: _, _, _, _, _, R, _, _ => by cases R
  | _ :: _, [], _, _, _, _, R, _, _ => by cases R
  | v :: vs, s :: as, _, _, [], _, _, _, b => by cases s <;> simp [BackOk] at b
  | v :: vs, s :: as, _, [], _ :: _, _, _, R', _ => by cases R'
  | v :: vs, s :: as, fp, o' :: σ', e' :: env', fp', R, R', b => by
    cases R with
    | cons hs hr hd =>
      cases R' with
      | @cons _ _ _ _ f1 f2 hs' hr' hd' =>
        cases s with
        | ow w A =>
          simp only [BackOk] at b
          obtain ⟨fq, R2, sub⟩ := EnvL.back st hr hr' b.2
          have ev : v = w := Option.some.inj hs.1
          subst ev
          refine ⟨f1 ++ fq, ?_, fun a m => ?_⟩
          · simp only [DL.back, List.map_cons]
            refine .cons ?_ R2 fun a m z => hd' a m (sub a z)
            rcases b.1 with ⟨A', e⟩ | ⟨d, e⟩
            · subst e; exact ⟨rfl, hs'.2⟩
            · subst e; exact ⟨hs'.1, rfl, hs'.2.2⟩
          · rcases List.mem_append.mp m with m | m
            · exact List.mem_append_left _ m
            · exact List.mem_append_right _ (sub a m)
        | un =>
          simp only [BackOk] at b
          obtain ⟨fq, R2, sub⟩ := EnvL.back st hr hr' b
          refine ⟨[] ++ fq, ?_, fun a m => List.mem_append_right _ (sub a m)⟩
          simp only [DL.back, List.map_cons]
          exact .cons (show SlotR K nf H' (some v) [] .un from rfl) R2 fun a m => by cases m
        | fz d =>
          simp only [BackOk] at b
          obtain ⟨fq, R2, sub⟩ := EnvL.back st hr hr' b
          refine ⟨[] ++ fq, ?_, fun a m => List.mem_append_right _ (sub a m)⟩
          simp only [DL.back, List.map_cons]
          obtain ⟨_, w, ew, r⟩ := hs
          exact .cons (show SlotR K nf H' (some v) [] (.fz d) from ⟨rfl, w, ew, r.mono st⟩) R2 fun a m => by cases m
        | fr w d =>
          simp only [BackOk] at b
          obtain ⟨fq, R2, sub⟩ := EnvL.back st hr hr' b
          refine ⟨[] ++ fq, ?_, fun a m => List.mem_append_right _ (sub a m)⟩
          simp only [DL.back, List.map_cons]
          obtain ⟨_, ew, r⟩ := hs
          exact .cons (show SlotR K nf H' (some v) [] (.fr w d) from ⟨rfl, ew, r.mono st⟩) R2 fun a m => by cases m
theorem EnvL.pad {H : Hp} : ∀ {σ : St} {env : EV nf} {fp : List Addr} (m : Nat), EnvL K nf H σ env fp → EnvL K nf H (σ ++ List.replicate m none) (env ++ List.replicate m .un) fp
  | _, _, _, 0, .nil => .nil
  | _, _, _, m + 1, .nil => by
    have h : EnvL K nf H (([] : St) ++ List.replicate m none) (([] : EV nf) ++ List.replicate m .un) [] := EnvL.pad m .nil
    have h2 : EnvL K nf H (none :: (([] : St) ++ List.replicate m none)) (.un :: (([] : EV nf) ++ List.replicate m .un)) ([] ++ []) := .cons (show SlotR K nf H none [] .un from rfl) h fun a z => by cases z
    exact h2
  | _, _, _, m, .cons hs hr hd => .cons hs (EnvL.pad m hr) hd
end
section
variable {X : Cx} {nf : NFs} {K : PySem.W.Frag}
/-- THE BODY keeps the promise -/
theorem body_ok {body : List Stmt} {td : DTS nf} {N : List Str} {n : Nat} {S : SpD nf} (h : DSs X nf body td) (hn : n ≤ N.length) (hb : ∀ as Qd, as.length = n → S as Qd → td (fnEnds as Qd) (as ++ List.replicate (N.length - n) .un))
    {vs : List V} {H : Hp} {Q : VK} {E : XK} (hs : toSp X.K nf n S vs H Q E) : ∃ t, PSs X body t ∧ t { nx := fun _ H' => Q .non H', rt := Q } (start N vs) H := by
  obtain ⟨hv, as, fp, Qd, hl, R, s, k⟩ := hs
  refine ⟨_, h, as ++ List.replicate (N.length - n) .un, fp, fnEnds as Qd, ⟨?_, trivial⟩, hb as Qd hl s, ?_⟩
  · have := R.pad (N.length - n)
    rw [← hv] at this ⊢
    exact this
  · refine ⟨fun σ' H' env' fp' R' c ⟨b, q⟩ => ?_, fun v d σ' H' env' fp' r R' c ⟨b, q⟩ => ?_, fun σ' H' env' fp' R' c q => q.elim, fun σ' H' env' fp' R' c q => q.elim, fun _ _ _ _ _ _ _ _ _ _ _ q => q.elim⟩
    · obtain ⟨fq, R2, sub⟩ := EnvL.back (c.stpL (R.pad (N.length - n))) R R'.1 b
      exact k .non H' .non _ fq (by rw [back_len, hl]) .non R2 ⟨c.keep, fun a m => c.sub a (sub a m), c.there, c.tab⟩ q
    · obtain ⟨fq, R2, sub⟩ := EnvL.back (c.stpL (R.pad (N.length - n))) R R'.1 b
      exact k v H' d _ fq (by rw [back_len, hl]) r R2 ⟨c.keep, fun a m => c.sub a (sub a m), c.there, c.tab⟩ q
end
section
variable {X : Cx} {nf : NFs} [Anch nf] {K : PySem.W.Frag}
abbrev DM (nf : NFs) := EV nf → (List AD → EV nf → Prop) → Prop
def liftM (K : PySem.W.Frag) (nf : NFs) [Anch nf] (r : DM nf) : TA := fun σ H Q => ∃ env fp Qd, EnvR K nf H σ env fp ∧ r env Qd ∧ ∀ vs H' ads env' fp', ArgsM K nf H' σ vs ads → EnvR K nf H' σ env' fp' → Ch nf fp H fp' H' → Qd ads env' → Q vs H'
variable (X nf) in
abbrev DAM (es : List Expr) (r : DM nf) : Prop := PA X es (liftM X.K nf r)
def mNil : DM nf := fun env Q => Q [] env
def mVal (a : DT nf) (r : DM nf) : DM nf := fun env Q => a env fun d env1 => r env1 fun ads env2 => Q (.v d :: ads) env2
def isSet : SD nf → Prop
  | .un => False
  | _ => True
def mSlot (i : Nat) (r : DM nf) : DM nf := fun env Q => (∃ s, env[i]? = some s ∧ isSet s) ∧ r env fun ads env2 => Q (.o i :: ads) env2
theorem dm_nil : DAM X nf [] mNil := pa_imp pa_nil fun σ H Q ⟨env, fp, Qd, R, q, k⟩ => k [] H [] env fp .nil R Ch.refl q
theorem dm_val {e : Expr} {es : List Expr} {a : DT nf} {r : DM nf} (ha : DE X nf e a) (hr : DAM X nf es r) (hs : starEach (e :: es) X.env = (false, eval e X.env) :: starEach es X.env := by rfl) : DAM X nf (e :: es) (mVal a r) :=
  pa_imp (pa_cons ha hr hs) fun σ H Q ⟨env, fp, Qd, R, h, k⟩ => lift_run R h fun v H1 x env1 fp1 r1 R1 c1 q1 =>
    ⟨env1, fp1, _, R1, q1, fun vs H2 ads env2 fp2 r2 R2 c2 q2 => k (v :: vs) H2 (.v x :: ads) env2 fp2 (.val (r1.mono (c2.stp R1)) r2) R2 (c1.trans c2) q2⟩
theorem SlotR.val {H : Hp} {o : Option V} {fp : List Addr} {s : SD nf} (h : SlotR K nf H o fp s) (hs : isSet s) : ∃ v, o = some v := by
  cases s with
  | un => exact hs.elim
  | fz d => obtain ⟨_, v, e, _⟩ := h; exact ⟨v, e⟩
  | ow v A => exact ⟨v, h.1⟩
  | fr v d => exact ⟨v, h.2.1⟩
theorem dm_slot {i : Nat} {e : Expr} {es : List Expr} {r : DM nf} (ha : PE X e (tVar i)) (hr : DAM X nf es r) (hs : starEach (e :: es) X.env = (false, eval e X.env) :: starEach es X.env := by rfl) : DAM X nf (e :: es) (mSlot i r) :=
  pa_imp (pa_cons ha hr hs) fun σ H Q ⟨env, fp, Qd, R, ⟨⟨s, es, hset⟩, h⟩, k⟩ => by
    obtain ⟨o, fi, eo, so, _⟩ := R.at es
    obtain ⟨v, ev⟩ := so.val hset
    subst ev
    exact ⟨v, eo, env, fp, _, R, h, fun vs H2 ads env2 fp2 r2 R2 c2 q2 => k (v :: vs) H2 (.o i :: ads) env2 fp2 (.slot eo r2) R2 c2 q2⟩
theorem ArgsM.app {H : Hp} {σ : St} (hv : ∀ {v d}, Rel K nf H v d → Rel K nf H v d) : ∀ {vs : List V} {ads : List AD} {ws : List V} {ds : List D}, ArgsM K nf H σ vs ads → Rels K nf H ws ds → ArgsM K nf H σ (vs ++ ws) (ads ++ ds.map .v)
  | _, _, _, _, .nil, .nil => .nil
  | _, _, _, _, .nil, .cons h r => .val h (ArgsM.app hv .nil r)
  | _, _, _, _, .val h r, s => .val h (ArgsM.app hv r s)
  | _, _, _, _, .slot h r, s => .slot h (ArgsM.app hv r s)
def dCall (n : Nat) (S : SpD nf) (dds : List D) (r : DM nf) : DT nf := fun env Q => r env fun ads env1 => ads.length + dds.length = n ∧ (slotsOf (ads ++ dds.map AD.v)).Nodup ∧ (∀ i ∈ slotsOf (ads ++ dds.map AD.v), i < env1.length) ∧
  S ((ads ++ dds.map AD.v).map (resolve env1)) fun d as' => Q d (putBack env1 (ads ++ dds.map AD.v) as')
theorem sp_run {S : SpD nf} {n : Nat} {σ : St} {H : Hp} {Q : VK} {E : XK} {env : EV nf} {fp : List Addr} {vs : List V} {ads : List AD} {Qd : D → EV nf → Prop} (R : EnvR K nf H σ env fp) (M : ArgsM K nf H σ vs ads) (hn : ads.length = n)
    (nd : (slotsOf ads).Nodup) (hin : ∀ i ∈ slotsOf ads, i < env.length) (s : S (ads.map (resolve env)) fun d as' => Qd d (putBack env ads as'))
    (k : ∀ v H' d env' fp', Rel K nf H' v d → EnvR K nf H' σ env' fp' → Ch nf fp H fp' H' → Qd d env' → Q v H') : toSp K nf n S vs H Q E := by
  obtain ⟨fpa, RA, put⟩ := R.args M nd hin
  refine ⟨by rw [M.len, hn], _, fpa, _, by rw [List.length_map, hn], RA, s, fun v H' d as' fp' hl r R' c q => ?_⟩
  obtain ⟨fp2, R2, c2, _⟩ := put H' as' fp' (by rw [hl, hn]) R' c
  exact k v H' d _ fp2 r R2 c2 q
theorem lift_call {S : SpD nf} {n : Nat} {dvs : List V} {dds : List D} {r : DM nf} {E : XK} (hd : ∀ H, Rels K nf H dvs dds) (σ : St) (H : Hp) (Q : VK) (h : lift K nf (dCall n S dds r) σ H Q) : tCall (toSp K nf n S) dvs E (liftM K nf r) σ H Q := by
  obtain ⟨env, fp, Qd, R, h, k⟩ := h
  refine ⟨env, fp, _, R, h, fun vs H1 ads env1 fp1 r1 R1 c1 ⟨hl, nd, hin, s⟩ => ?_⟩
  exact sp_run R1 (r1.app id (hd H1)) (by rw [List.length_append, List.length_map, hl]) nd hin s fun v H' d env' fp' r' R' c' q => k v H' d env' fp' r' R' (c1.trans c') q
section
variable {CX : CXT} {k n : Nat} {f C : Addr} {fd : FuncData} {ps : List Str} {S : SpD nf} {dvs : List V} {dds : List D} {ds : List Value} {E : XK} {x m : Str} {p pos apos : Pos} {e o : Expr} {es : List Expr} {r : DM nf} {da : DT nf}
theorem de_call (F : FnOk X.prog X.w X.K X.mg X.base CX k f fd ps (toSp X.K nf n S)) (hr : Room k X.A) (hg : Gl X x) (hm : X.mg x = some (.ref f)) (hk : PySem.W.keepIn X.K (.ref f) = true) (hb : Binds X.K fd ps ds) (hd : Vals dvs ds) (hdd : ∀ H, Rels X.K nf H dvs dds) (hx : Passes CX X E)
    (ha : DAM X nf (e :: es) r) (hdb : (x == ("__debug__" : Str)) = false := by decide) (he : starEach (e :: es) X.env = (false, eval e X.env) :: starEach es X.env := by rfl) (hpl : (backTo pos (starEach es X.env)).any (·.1) = false := by rfl) :
    DE X nf (.Call (.Name x p) (e :: es) [] pos) (dCall n S dds r) := pe_imp (pe_call F hr hg hm hk hb hd hx ha hdb he hpl) (lift_call hdd)
theorem lift_m0 (σ : St) (H : Hp) (Q : List V → Hp → Prop) (h : liftM K nf mNil σ H Q) : tNil σ H Q := by
  obtain ⟨env, fp, Qd, R, q, k⟩ := h
  exact k [] H [] env fp .nil R Ch.refl q
theorem de_call0 (F : FnOk X.prog X.w X.K X.mg X.base CX k f fd ps (toSp X.K nf n S)) (hr : Room k X.A) (hg : Gl X x) (hm : X.mg x = some (.ref f)) (hk : PySem.W.keepIn X.K (.ref f) = true) (hb : Binds X.K fd ps ds) (hd : Vals dvs ds) (hdd : ∀ H, Rels X.K nf H dvs dds) (hx : Passes CX X E)
    (hdb : (x == ("__debug__" : Str)) = false := by decide) : DE X nf (.Call (.Name x p) [] [] pos) (dCall n S dds mNil) := pe_imp (pe_call0 F hr hg hm hk hb hd hx hdb) fun σ H Q h => lift_m0 σ H _ (lift_call (E := E) hdd σ H Q h)
theorem RelF.lookup : ∀ {H : Hp} {fs : List (Str × V)} {fds : List (Str × D)} {m : Str} {d : D}, RelF K nf H fs fds → fds.lookup m = some d → ∃ v, fs.lookup m = some v ∧ Rel K nf H v d
  | _, _, _, _, _, .nil, e => by cases e
  | _, _, _, m, d, @RelF.cons _ _ _ k v vs d' ds h r, e => by
    rw [List.lookup_cons] at e ⊢
    split at e
    · cases e; exact ⟨v, rfl, h⟩
    · exact RelF.lookup r e
def dMeth (n : Nat) (C : Addr) (m : Str) (S : SpD nf) (dds : List D) (da : DT nf) (r : DM nf) : DT nf := fun env Q => da env fun ob env0 => ∃ fds, ob = .obj C fds ∧ fds.lookup m = none ∧ r env0 fun ads env1 => ads.length + dds.length + 1 = n ∧ (slotsOf (ads ++ dds.map AD.v)).Nodup ∧ (∀ i ∈ slotsOf (ads ++ dds.map AD.v), i < env1.length) ∧
  S ((AD.v ob :: (ads ++ dds.map AD.v)).map (resolve env1)) fun d as' => Q d (putBack env1 (AD.v ob :: (ads ++ dds.map AD.v)) as')
def dFld (C : Addr) (m : Str) (da : DT nf) : DT nf := fun env Q => da env fun ob env1 => ∃ fds d, ob = .obj C fds ∧ fds.lookup m = some d ∧ Q d env1
end
end
end DL
namespace DL
open PySem L2
section
variable {X : Cx} {nf : NFs} [Anch nf] {K : PySem.W.Frag}
/-- two ints -/
def fI (C : Int → Int → Prop) (g : Int → Int → D) : D → D → D → Prop := fun x y z => ∃ i j, x = .int i ∧ y = .int j ∧ C i j ∧ z = g i j
def fI0 (g : Int → Int → D) : D → D → D → Prop := fun x y z => ∃ i j, x = .int i ∧ y = .int j ∧ z = g i j
theorem od_I {C : Int → Int → Prop} {g : Int → Int → Int} : OpD K nf (rI C fun i j => .int (g i j)) (fI C fun i j => .int (g i j)) := by
  rintro H v w x y z r1 r2 ⟨i, j, rfl, rfl, hc, rfl⟩ Q q
  exact ⟨i, j, rel_int r1, rel_int r2, hc, q _ H (.int _) Xt.refl⟩
theorem od_I0 {g : Int → Int → Int} : OpD K nf (rI0 fun i j => .int (g i j)) (fI0 fun i j => .int (g i j)) := by
  rintro H v w x y z r1 r2 ⟨i, j, rfl, rfl, rfl⟩ Q q
  exact ⟨i, j, rel_int r1, rel_int r2, q _ H (.int _) Xt.refl⟩
theorem od_B0 {g : Int → Int → Bool} : OpD K nf (rI0 fun i j => .bl (g i j)) (fI0 fun i j => .bl (g i j)) := by
  rintro H v w x y z r1 r2 ⟨i, j, rfl, rfl, rfl⟩ Q q
  exact ⟨i, j, rel_int r1, rel_int r2, q _ H (.bl _) Xt.refl⟩
section
variable {a b : Expr} {pos : Pos} {da db : DT nf}
def dAdd (da db : DT nf) : DT nf := dOp (fI0 fun i j => .int (i + j)) da db
def dSub (da db : DT nf) : DT nf := dOp (fI0 fun i j => .int (i - j)) da db
def dMul (da db : DT nf) : DT nf := dOp (fI CMul fun i j => .int (i * j)) da db
def dMod (da db : DT nf) : DT nf := dOp (fI (fun _ j => 0 < j) fun i j => .int (i % j)) da db
def dDiv (da db : DT nf) : DT nf := dOp (fI CDivW fun i j => .int (i / j)) da db
def dPow (da db : DT nf) : DT nf := dOp (fI CPow fun i j => .int (i ^ j.toNat)) da db
theorem de_sub (ha : DE X nf a da) (hb : DE X nf b db) : DE X nf (.BinOp a .Sub b pos) (dSub da db) := de_op op_sub od_I0 ha hb
theorem de_mul (ha : DE X nf a da) (hb : DE X nf b db) : DE X nf (.BinOp a .Mult b pos) (dMul da db) := de_op op_mul od_I ha hb
theorem de_mod (ha : DE X nf a da) (hb : DE X nf b db) : DE X nf (.BinOp a .Mod b pos) (dMod da db) := de_op op_mod od_I ha hb
theorem de_div (ha : DE X nf a da) (hb : DE X nf b db) : DE X nf (.BinOp a .FloorDiv b pos) (dDiv da db) := de_op op_fdivW od_I ha hb
theorem de_pow (ha : DE X nf a da) (hb : DE X nf b db) : DE X nf (.BinOp a .Pow b pos) (dPow da db) := de_op op_pow od_I ha hb
def dCmp (g : Int → Int → Bool) (da db : DT nf) : DT nf := dOp (fI0 fun i j => .bl (g i j)) da db
abbrev cLt : Int → Int → Bool := fun i j => decide (i < j)
abbrev cLe : Int → Int → Bool := fun i j => decide (i ≤ j)
abbrev cGt : Int → Int → Bool := fun i j => decide (j < i)
abbrev cGe : Int → Int → Bool := fun i j => decide (j ≤ i)
theorem dc_lt (ha : DE X nf a da) (hb : DE X nf b db) : DC X nf (.Compare a [.Lt] [b] pos) (dBv (dCmp cLt da db)) := dc_cmp op_lt od_B0 ha hb (nomark _)
theorem dc_gt (ha : DE X nf a da) (hb : DE X nf b db) : DC X nf (.Compare a [.Gt] [b] pos) (dBv (dCmp cGt da db)) := dc_cmp op_gt od_B0 ha hb (nomark _)
theorem dc_ge (ha : DE X nf a da) (hb : DE X nf b db) : DC X nf (.Compare a [.GtE] [b] pos) (dBv (dCmp cGe da db)) := dc_cmp op_ge od_B0 ha hb (nomark _)
end
def eqS : D → D → Option Bool
  | .non, .non => some true | .non, .int _ => some false | .int _, .non => some false | .non, .bl _ => some false | .bl _, .non => some false | .non, .str _ => some false | .str _, .non => some false
  | .int i, .int j => some (decide (i = j)) | .bl i, .bl j => some (decide (i = j)) | .str i, .str j => some (decide (i = j))
  | .int _, .str _ => some false | .str _, .int _ => some false | .bl _, .str _ => some false | .str _, .bl _ => some false
  | _, _ => none
def fEq (neg : Bool) : D → D → D → Prop := fun x y z => ∃ b, eqS x y = some b ∧ z = .bl (if neg then !b else b)
theorem scal_of {H : Hp} {v w : V} {x y : D} {b : Bool} (r1 : Rel K nf H v x) (r2 : Rel K nf H w y) (e : eqS x y = some b) : scal v w = true ∧ decide (v = w) = b := by
  cases r1 <;> cases r2 <;> simp [eqS] at e <;> subst e <;> simp [scal]
theorem od_eq : OpD K nf rEq (fEq false) := by
  rintro H v w x y z r1 r2 ⟨b, e, rfl⟩ Q q
  obtain ⟨h1, h2⟩ := scal_of r1 r2 e
  exact ⟨h1, by rw [h2]; exact q _ H (.bl _) Xt.refl⟩
theorem od_ne : OpD K nf rNe (fEq true) := by
  rintro H v w x y z r1 r2 ⟨b, e, rfl⟩ Q q
  obtain ⟨h1, h2⟩ := scal_of r1 r2 e
  exact ⟨h1, by rw [h2]; exact q _ H (.bl _) Xt.refl⟩
mutual
def pyOf : D → Option PyData
  | .non => some .none
  | .bl b => some (.bool b)
  | .int i => some (.int i)
  | .str s => some (.str s)
  | .lst xs => (pyOfs xs).map .list
  | .tup xs => (pyOfs xs).map .tuple
  | _ => none
def pyOfs : List D → Option (List PyData)
  | [] => some []
  | x :: xs => (pyOf x).bind fun d => (pyOfs xs).map fun ds => d :: ds
end
mutual
theorem dp_of {H : Hp} : ∀ {v : V} {x : D} {d : PyData}, Rel K nf H v x → pyOf x = some d → Dp K H v d
  | _, _, _, .non, e => by simp only [pyOf, Option.some.injEq] at e; subst e; exact .non
  | _, _, _, .bl b, e => by simp only [pyOf, Option.some.injEq] at e; subst e; exact .bl b
  | _, _, _, .int i, e => by simp only [pyOf, Option.some.injEq] at e; subst e; exact .int i
  | _, _, _, .str s, e => by simp only [pyOf, Option.some.injEq] at e; subst e; exact .str s
  | _, _, _, .ty n, e => by simp only [pyOf] at e; cases e
  | _, _, _, .cls a, e => by simp only [pyOf] at e; cases e
  | _, _, _, .dct h r, e => by simp only [pyOf] at e; cases e
  | _, _, _, .obj h n l r, e => by simp only [pyOf] at e; cases e
  | _, _, _, .scr h, e => by simp only [pyOf] at e; cases e
  | _, _, _, .exc h r, e => by simp only [pyOf] at e; cases e
  | _, _, _, .fn0 h, e => by simp only [pyOf] at e; cases e
  | _, _, _, .fn h c r, e => by simp only [pyOf] at e; cases e
  | _, _, _, @Rel.tup _ _ _ a vs ds h r, e => by
    simp only [pyOf] at e
    cases q : pyOfs ds with
    | none => rw [q] at e; cases e
    | some ps => rw [q] at e; simp only [Option.map_some, Option.some.injEq] at e; subst e; exact .tup h (dps_of r q)
  | _, _, _, @Rel.lst _ _ _ a vs ds h r, e => by
    simp only [pyOf] at e
    cases q : pyOfs ds with
    | none => rw [q] at e; cases e
    | some ps => rw [q] at e; simp only [Option.map_some, Option.some.injEq] at e; subst e; exact .lst h.sq (dps_of r q)
theorem dps_of {H : Hp} : ∀ {vs : List V} {xs : List D} {ds : List PyData}, Rels K nf H vs xs → pyOfs xs = some ds → DpAll K H vs ds
  | _, _, _, .nil, e => by simp only [pyOfs, Option.some.injEq] at e; subst e; exact .nil
  | _, _, _, @Rels.cons _ _ _ v vs d ds h r, e => by
    simp only [pyOfs] at e
    cases q : pyOf d with
    | none => rw [q] at e; cases e
    | some p =>
      cases q2 : pyOfs ds with
      | none => rw [q, q2] at e; cases e
      | some ps => rw [q, q2] at e; simp only [Option.bind_some, Option.map_some, Option.some.injEq] at e; subst e; exact .cons (dp_of h q) (dps_of r q2)
end
def fEqD (neg : Bool) : D → D → D → Prop := fun x y z => ∃ d e, pyOf x = some d ∧ pyOf y = some e ∧ SeqAt.shaped d = true ∧ SeqAt.shaped e = true ∧ z = .bl (if neg then !PyData.eqv d e else PyData.eqv d e)
theorem od_eqD : OpD K nf (rEqD K) (fEqD false) := by
  rintro H v w x y z r1 r2 ⟨d, e, h1, h2, s1, s2, rfl⟩ Q q
  exact ⟨d, e, dp_of r1 h1, dp_of r2 h2, s1, s2, q _ H (.bl _) Xt.refl⟩
theorem od_neD : OpD K nf (rNeD K) (fEqD true) := by
  rintro H v w x y z r1 r2 ⟨d, e, h1, h2, s1, s2, rfl⟩ Q q
  exact ⟨d, e, dp_of r1 h1, dp_of r2 h2, s1, s2, q _ H (.bl _) Xt.refl⟩
section
variable {a : Expr} {pos : Pos} {da : DT nf}
def isNon : D → Bool
  | .non => true
  | _ => false
def dIsN (da : DT nf) : DT nf := fun env Q => da env fun x env1 => Q (.bl (isNon x)) env1
end
section
variable {a b : Expr} {pos : Pos} {da db : DT nf}
def fIxL : D → D → D → Prop := fun x y z => ∃ xs i, x = .lst xs ∧ y = .int i ∧ atI xs i = some z
def fIxT : D → D → D → Prop := fun x y z => ∃ xs i, x = .tup xs ∧ y = .int i ∧ atI xs i = some z
def fIxS : D → D → D → Prop := fun x y z => ∃ s i c, x = .str s ∧ y = .int i ∧ s.length ≤ 1000000 ∧ atI s.cps.toList i = some c ∧ z = .str ⟨#[c]⟩
theorem Rels.atI {H : Hp} {vs : List V} {xs : List D} {i : Int} {z : D} (r : Rels K nf H vs xs) (e : L2.atI xs i = some z) : ∃ v, L2.atI vs i = some v ∧ Rel K nf H v z := by
  unfold L2.atI at e ⊢
  rw [r.length]
  cases q : ixN xs.length i with
  | none => rw [q] at e; cases e
  | some j =>
    rw [q] at e
    simp only [Option.bind_some] at e ⊢
    exact r.get e
theorem od_ixL : OpD K nf (rIxL K) fIxL := by
  rintro H v w x y z r1 r2 ⟨xs, i, rfl, rfl, e⟩ Q q
  cases r1 with
  | lst h r =>
    obtain ⟨u, e2, r3⟩ := r.atI e
    exact ⟨_, _, i, u, rfl, rel_int r2, h.sq, e2, q u H r3 Xt.refl⟩
theorem od_ixT : OpD K nf (rIxT K) fIxT := by
  rintro H v w x y z r1 r2 ⟨xs, i, rfl, rfl, e⟩ Q q
  cases r1 with
  | tup h r =>
    obtain ⟨u, e2, r3⟩ := r.atI e
    exact ⟨_, _, i, u, rfl, rel_int r2, h, e2, q u H r3 Xt.refl⟩
theorem od_ixS : OpD K nf rIxS fIxS := by
  rintro H v w x y z r1 r2 ⟨s, i, c, rfl, rfl, hl, e, rfl⟩ Q q
  exact ⟨s, i, c, rel_str r1, rel_int r2, sz_ok hl, e, q _ H (.str _) Xt.refl⟩
def flatD : D → Option V
  | .non => some .non
  | .bl b => some (.bl b)
  | .int i => some (.int i)
  | .str s => some (.str s)
  | _ => none
def flatDs : List D → Option (List V)
  | [] => some []
  | x :: xs => (flatD x).bind fun v => (flatDs xs).map fun vs => v :: vs
theorem flat_of {H : Hp} {v : V} {x : D} {u : V} (r : Rel K nf H v x) (e : flatD x = some u) : v = u ∧ flatV v = true := by
  cases r <;> simp only [flatD] at e <;> cases e <;> exact ⟨rfl, rfl⟩
theorem flats_of {H : Hp} : ∀ {vs : List V} {xs : List D} {us : List V}, Rels K nf H vs xs → flatDs xs = some us → vs = us ∧ vs.all flatV = true
  | _, _, _, .nil, e => by simp only [flatDs, Option.some.injEq] at e; subst e; exact ⟨rfl, rfl⟩
  | _, _, _, @Rels.cons _ _ _ v vs d ds h r, e => by
    simp only [flatDs] at e
    cases q : flatD d with
    | none => rw [q] at e; cases e
    | some p =>
      cases q2 : flatDs ds with
      | none => rw [q, q2] at e; cases e
      | some ps =>
        rw [q, q2] at e
        simp only [Option.bind_some, Option.map_some, Option.some.injEq] at e
        subst e
        obtain ⟨e1, f1⟩ := flat_of h q
        obtain ⟨e2, f2⟩ := flats_of r q2
        subst e1 e2
        exact ⟨rfl, by simp [f1, f2]⟩
def fIn (neg : Bool) : D → D → D → Prop := fun x y z => ∃ xs v us, (y = .lst xs ∨ y = .tup xs) ∧ flatD x = some v ∧ flatDs xs = some us ∧ z = .bl (if neg then !inV v us else inV v us)
theorem od_in {neg : Bool} : OpD K nf (rIn K neg) (fIn neg) := by
  rintro H v w x y z r1 r2 ⟨xs, v', us, hy, e1, e2, rfl⟩ Q q
  obtain ⟨ev, fv⟩ := flat_of r1 e1
  subst ev
  rcases hy with rfl | rfl
  · cases r2 with
    | lst h r =>
      obtain ⟨eu, fu⟩ := flats_of r e2
      subst eu
      exact ⟨_, _, rfl, .inl h.sq, fv, fu, q _ H (.bl _) Xt.refl⟩
  · cases r2 with
    | tup h r =>
      obtain ⟨eu, fu⟩ := flats_of r e2
      subst eu
      exact ⟨_, _, rfl, .inr h, fv, fu, q _ H (.bl _) Xt.refl⟩
/-- one sign in a text -/
def fInS : D → D → D → Prop := fun x y z => ∃ (c : Nat) (s : Str), x = .str ⟨#[c]⟩ ∧ y = .str s ∧ z = .bl (decide (c ∈ s.cps.toList))
theorem od_inS : OpD K nf (fun x y H Q => ∃ (c : Nat) (z : Str), x = .str ⟨#[c]⟩ ∧ y = .str z ∧ Q (.bl (decide (c ∈ z.cps.toList))) H) fInS := by
  rintro H v w x y z r1 r2 ⟨c, s, rfl, rfl, rfl⟩ Q q
  exact ⟨c, s, rel_str r1, rel_str r2, q _ H (.bl _) Xt.refl⟩
end
end
end DL
namespace DL
open PySem L2
section
variable {X : Cx} {nf : NFs} [Anch nf] {K : PySem.W.Frag}
def lsAt (K : PySem.W.Frag) (env : EV nf) (i : Nat) (xs : List D) : Prop := env[i]? = some (.fz (.lst xs)) ∨ ∃ v, env[i]? = some (.ow v (lstA K nf xs))
theorem EnvR.peek {H : Hp} {σ : St} {env : EV nf} {fp : List Addr} (R : EnvR K nf H σ env fp) {i : Nat} {xs : List D} (h : lsAt K env i xs) : ∃ p vs, σ[i]? = some (some (.ref p)) ∧ SqL K H p vs ∧ Rels K nf H vs xs := by
  rcases h with e | ⟨v, e⟩
  · obtain ⟨o, fi, e1, ⟨_, v, ev, r⟩, _⟩ := R.at e
    subst ev
    cases r with
    | lst h r => exact ⟨_, _, e1, h.sq, r⟩
  · obtain ⟨p, vs, ev, es, hp, r, _⟩ := R.lstAt e
    exact ⟨p, vs, es, SqL.of hp, r⟩
section
variable {a b l : Expr} {pos : Pos} {da db : DT nf} {i : Nat}
/-- xs[e] -/
def dIxV (K : PySem.W.Frag) (i : Nat) (db : DT nf) : DT nf := fun env Q => (∃ xs, lsAt K env i xs) ∧ db env fun y env1 => ∃ xs j z, lsAt K env1 i xs ∧ y = .int j ∧ atI xs j = some z ∧ Q z env1
theorem de_ixV (hl : PE X l (tVar i)) (hb : DE X nf b db) (hs : PlainIx b := by exact fun _ _ => rfl) : DE X nf (.Subscript l b pos) (dIxV X.K i db) := pe_imp (pe_ix ix_list hl hb hs) fun σ H Q ⟨env, fp, Qd, R, ⟨⟨xs0, h0⟩, h⟩, k⟩ => by
  obtain ⟨p, vs, es, _, _⟩ := R.peek h0
  refine ⟨_, es, lift_run R h fun w H1 y env1 fp1 r1 R1 c1 ⟨xs, j, z, h1, ey, ez, q⟩ => ?_⟩
  subst ey
  obtain ⟨p', vs', es', sq, rr⟩ := R1.peek h1
  rw [es] at es'
  cases es'
  obtain ⟨u, e2, r3⟩ := rr.atI ez
  exact ⟨p, vs', j, u, rfl, rel_int r1, sq, e2, k u H1 z env1 fp1 r3 R1 c1 q⟩
/-- e in xs -/
def dInV (K : PySem.W.Frag) (neg : Bool) (da : DT nf) (i : Nat) : DT nf := fun env Q => da env fun x env1 => ∃ xs v us, lsAt K env1 i xs ∧ flatD x = some v ∧ flatDs xs = some us ∧ Q (.bl (if neg then !inV v us else inV v us)) env1
theorem lift_B2 {t : TE} {td : DT nf} (hi : ∀ σ H Q, lift K nf td σ H Q → t σ H Q) (σ : St) (H : Hp) (Q : Bool → Hp → Prop) (h : liftB K nf (dBv td) σ H Q) : tB t σ H Q := by
  obtain ⟨env, fp, Qd, R, h, k⟩ := h
  refine hi σ H _ (lift_run R h fun v H1 x env1 fp1 r1 R1 c1 ⟨b, e, q⟩ => ?_)
  subst e
  exact ⟨b, rel_bl r1, k b H1 env1 fp1 R1 c1 q⟩
theorem pt_cmpB {op : CmpOp} {r : R2} {ta tb : TE} (ho : OpR X (compareOp op) r) (ha : PE X a ta) (hb : PE X b tb) (hm : behindInMarks op b = false) : PT X (.Compare a [op] [b] pos) (tB (tOp r ta tb)) := pt_imp (pt_cmpR ho ha hb hm) fun σ H Q h => h
/-- xs == e, xs != e, nested data -/
def dEqV (K : PySem.W.Frag) (neg : Bool) (i : Nat) (db : DT nf) : DT nf := fun env Q => (∃ xs, lsAt K env i xs) ∧ db env fun y env1 => ∃ xs d e, lsAt K env1 i xs ∧ pyOf (.lst xs) = some d ∧ pyOf y = some e ∧ SeqAt.shaped d = true ∧ SeqAt.shaped e = true ∧ Q (.bl (if neg then !PyData.eqv d e else PyData.eqv d e)) env1
/-- len(xs) -/
def dLenV (K : PySem.W.Frag) (i : Nat) : DT nf := fun env Q => ∃ xs, lsAt K env i xs ∧ Q (.int xs.length) env
theorem de_lenV {p : Pos} (hg : Gl X "len") (hm : X.mg "len" = none) (hl : PE X l (tVar i)) (hs : starEach [l] X.env = (false, eval l X.env) :: starEach [] X.env := by rfl) : DE X nf (.Call (.Name "len" p) [l] [] pos) (dLenV X.K i) :=
  pe_imp (pe_callB call_len_seq hg hm boot_len (pa_cons hl pa_nil hs) (by decide) (by decide) hs) fun σ H Q ⟨env, fp, Qd, R, ⟨xs, h, q⟩, k⟩ => by
    obtain ⟨p, vs, es, sq, rr⟩ := R.peek h
    exact ⟨_, es, p, vs, rfl, .inl sq, by rw [rr.length]; exact k _ H _ env fp (.int _) R Ch.refl q⟩
end
def CbD (K : PySem.W.Frag) (nf : NFs) (r : List V → Hp → VK → Prop) (f : List D → D → Prop) : Prop := ∀ H vs ds d, Rels K nf H vs ds → f ds d → ∀ Q : VK, (∀ v H', Rel K nf H' v d → Xt H H' → Q v H') → r vs H Q
def dCB (f : List D → D → Prop) (r : DAs nf) : DT nf := fun env Q => r env fun ds env1 => ∃ d, f ds d ∧ Q d env1
theorem lift_CB {r : List V → Hp → VK → Prop} {f : List D → D → Prop} {ra : DAs nf} (o : CbD K nf r f) (σ : St) (H : Hp) (Q : VK) (h : lift K nf (dCB f ra) σ H Q) : tCB r (liftA K nf ra) σ H Q := by
  obtain ⟨env, fp, Qd, R, h, k⟩ := h
  refine ⟨env, fp, _, R, h, fun vs H1 ds env1 fp1 r1 R1 c1 ⟨d, hd, q⟩ => ?_⟩
  exact o H1 vs ds d r1 hd Q fun v H2 r2 x2 => k v H2 d env1 fp1 r2 (R1.ext x2) (c1.trans x2.ch) q
/-- .. whose answer is frozen at once -/
def rFz (r : List V → Hp → VK → Prop) : List V → Hp → VK → Prop := fun vs H Q => r vs H fun v H' => ∃ p u, v = .ref p ∧ H' p = some u ∧ Mut (some u) ∧ ∀ o, Q v (upd H' p (.frz o u))
section
variable {id T : String} {r : List V → Hp → VK → Prop} {f : List D → D → Prop} {ra : DAs nf} {x : Str} {e : Expr} {es : List Expr} {p pos : Pos}
theorem de_cb (hc : CallR X (.builtin id) r) (o : CbD X.K nf r f) (hg : Gl X x) (hm : X.mg x = none) (hv : bootBuiltins x = some (.builtin id)) (ha : DA X nf (e :: es) ra) (hn : x ≠ "__name__" := by decide) (hdb : (x == ("__debug__" : Str)) = false := by decide)
    (he : starEach (e :: es) X.env = (false, eval e X.env) :: starEach es X.env := by rfl) (hpl : (backTo pos (starEach es X.env)).any (·.1) = false := by rfl) : DE X nf (.Call (.Name x p) (e :: es) [] pos) (dCB f ra) := pe_imp (pe_callB hc hg hm hv ha hn hdb he hpl) (lift_CB o)
theorem de_ct (hc : CallR X (.type T) r) (o : CbD X.K nf r f) (hg : Gl X x) (hm : X.mg x = none) (hv : bootBuiltins x = some (.type T)) (ha : DA X nf (e :: es) ra) (hn : x ≠ "__name__" := by decide) (hdb : (x == ("__debug__" : Str)) = false := by decide)
    (he : starEach (e :: es) X.env = (false, eval e X.env) :: starEach es X.env := by rfl) (hpl : (backTo pos (starEach es X.env)).any (·.1) = false := by rfl) : DE X nf (.Call (.Name x p) (e :: es) [] pos) (dCB f ra) := pe_imp (pe_callTy hc hg hm hv ha hn hdb he hpl) (lift_CB o)
theorem de_ctF (hc : CallR X (.type T) r) (o : CbD X.K nf (rFz r) f) (hg : Gl X x) (hm : X.mg x = none) (hv : bootBuiltins x = some (.type T)) (ha : DA X nf (e :: es) ra) (hn : x ≠ "__name__" := by decide) (hdb : (x == ("__debug__" : Str)) = false := by decide)
    (he : starEach (e :: es) X.env = (false, eval e X.env) :: starEach es X.env := by rfl) (hpl : (backTo pos (starEach es X.env)).any (·.1) = false := by rfl) : DE X nf (.Call (.Name x p) (e :: es) [] pos) (dCB f ra) := pe_imp (pe_fz (pe_callTy hc hg hm hv ha hn hdb he hpl)) (lift_CB o)
end
theorem rels1x {H : Hp} {vs : List V} {d : D} (r : Rels K nf H vs [d]) : ∃ v, vs = [v] ∧ Rel K nf H v d := by
  cases r with
  | cons h t => cases t; exact ⟨_, rfl, h⟩
theorem rels2x {H : Hp} {vs : List V} {d e : D} (r : Rels K nf H vs [d, e]) : ∃ v w, vs = [v, w] ∧ Rel K nf H v d ∧ Rel K nf H w e := by
  cases r with
  | cons h t => obtain ⟨w, rfl, hw⟩ := rels1x t; exact ⟨_, _, rfl, h, hw⟩
/-- len -/
def fLen : List D → D → Prop := fun ds d => (∃ xs, (ds = [.lst xs] ∨ ds = [.tup xs]) ∧ d = .int xs.length)
def fLenS : List D → D → Prop := fun ds d => ∃ z, ds = [.str z] ∧ z.length ≤ 1000000 ∧ d = .int z.length
theorem cd_len : CbD K nf (fun xs H Q => ∃ p ys, xs = [.ref p] ∧ (SqL K H p ys ∨ SqT K H p ys) ∧ Q (.int ys.length) H) fLen := by
  rintro H vs ds d r ⟨xs, hd, rfl⟩ Q q
  rcases hd with rfl | rfl
  · obtain ⟨v, rfl, h⟩ := rels1x r
    cases h with
    | lst h rr => exact ⟨_, _, rfl, .inl h.sq, by rw [rr.length]; exact q _ H (.int _) Xt.refl⟩
  · obtain ⟨v, rfl, h⟩ := rels1x r
    cases h with
    | tup h rr => exact ⟨_, _, rfl, .inr h, by rw [rr.length]; exact q _ H (.int _) Xt.refl⟩
theorem cd_lenS : CbD K nf (fun xs H Q => ∃ z, xs = [.str z] ∧ z.length ≤ sizeLine ∧ Q (.int z.length) H) fLenS := by
  rintro H vs ds d r ⟨z, rfl, hl, rfl⟩ Q q
  obtain ⟨v, rfl, h⟩ := rels1x r
  cases h
  exact ⟨z, rfl, sz_ok hl, q _ H (.int _) Xt.refl⟩
/-- int of an int or a bool; abs; str of an int -/
def fInt : List D → D → Prop := fun ds d => (∃ i, ds = [.int i] ∧ d = .int i) ∨ ∃ b, ds = [.bl b] ∧ d = .int (if b then 1 else 0)
theorem cd_int : CbD K nf (fun xs H Q => (∃ i, xs = [.int i] ∧ Q (.int i) H) ∨ ∃ k, xs = [.bl k] ∧ Q (.int (if k then 1 else 0)) H) fInt := by
  rintro H vs ds d r (⟨i, rfl, rfl⟩ | ⟨b, rfl, rfl⟩) Q q
  · obtain ⟨v, rfl, h⟩ := rels1x r
    cases h
    exact .inl ⟨i, rfl, q _ H (.int _) Xt.refl⟩
  · obtain ⟨v, rfl, h⟩ := rels1x r
    cases h
    exact .inr ⟨b, rfl, q _ H (.int _) Xt.refl⟩
def fAbs : List D → D → Prop := fun ds d => ∃ i, ds = [.int i] ∧ d = .int (if i < 0 then -i else i)
def fStrI : List D → D → Prop := fun ds d => ∃ i : Int, ds = [.int i] ∧ i.natAbs.log2 < 1920 ∧ d = .str (toString i)
theorem cd_strI : CbD K nf (fun xs H Q => ∃ i : Int, xs = [.int i] ∧ i.natAbs.log2 < 1920 ∧ Q (.str (toString i)) H) fStrI := by
  rintro H vs ds d r ⟨i, rfl, hl, rfl⟩ Q q
  obtain ⟨v, rfl, h⟩ := rels1x r
  cases h
  exact ⟨i, rfl, hl, q _ H (.str _) Xt.refl⟩
/-- list(list | tuple), frozen; tuple(list) -/
def fList : List D → D → Prop := fun ds d => ∃ xs, (ds = [.lst xs] ∨ ds = [.tup xs]) ∧ d = .lst xs
theorem cd_list : CbD K nf (rFz fun xs H Q => ∃ p ys, xs = [.ref p] ∧ (SqL K H p ys ∨ SqT K H p ys) ∧ ∀ l, H l = none → Q (.ref l) (upd H l (.lst ys))) fList := by
  rintro H vs ds d r ⟨xs, hd, rfl⟩ Q q
  have fin : ∀ ys, Rels K nf H ys xs → ∀ l, H l = none → ∃ p u, V.ref l = .ref p ∧ (upd H l (.lst ys)) p = some u ∧ Mut (some u) ∧ ∀ o, Q (.ref l) (upd (upd H l (.lst ys)) p (.frz o u)) := fun ys rr l hl => by
    refine ⟨l, _, rfl, upd_same, trivial, fun o => ?_⟩
    have x : Xt H (upd (upd H l (.lst ys)) l (.frz o (.lst ys))) := xt_fz (Xt.new hl) hl
    exact q _ _ (.lst ⟨o, upd_same⟩ (rr.mono x.stp)) x
  rcases hd with rfl | rfl
  · obtain ⟨v, rfl, h⟩ := rels1x r
    cases h with
    | lst h rr => exact ⟨_, _, rfl, .inl h.sq, fin _ rr⟩
  · obtain ⟨v, rfl, h⟩ := rels1x r
    cases h with
    | tup h rr => exact ⟨_, _, rfl, .inr h, fin _ rr⟩
def fTuple : List D → D → Prop := fun ds d => ∃ xs, (ds = [.lst xs] ∨ ds = [.tup xs]) ∧ d = .tup xs
theorem cd_tuple : CbD K nf (fun xs H Q => ∃ p ys, xs = [.ref p] ∧ ((SqL K H p ys ∧ ∀ l, H l = none → Q (.ref l) (upd H l (.tup ys))) ∨ (SqT K H p ys ∧ Q (.ref p) H))) fTuple := by
  rintro H vs ds d r ⟨xs, hd, rfl⟩ Q q
  rcases hd with rfl | rfl
  · obtain ⟨v, rfl, h⟩ := rels1x r
    cases h with
    | @lst _ ws _ h rr =>
      refine ⟨_, _, rfl, .inl ⟨h.sq, fun l hl => ?_⟩⟩
      have x : Xt H (upd H l (.tup ws)) := Xt.new hl
      exact q _ _ (.tup (SqT.of upd_same) (rr.mono x.stp)) x
  · obtain ⟨v, rfl, h⟩ := rels1x r
    cases h with
    | tup h rr => exact ⟨_, _, rfl, .inr ⟨h, q _ H (.tup h rr) Xt.refl⟩⟩
/-- dict(dict), list(dict), frozen -/
def fDict : List D → D → Prop := fun ds d => ∃ kds, ds = [.dct kds] ∧ d = .dct kds
def fListD : List D → D → Prop := fun ds d => ∃ kds, ds = [.dct kds] ∧ d = .lst (kds.map fun kd => kD kd.1)
theorem strs_rels {H : Hp} : ∀ (ss : List Str), Rels K nf H (ss.map V.str) (ss.map D.str)
  | [] => .nil
  | s :: ss => .cons (.str s) (strs_rels ss)
def dSortS (ra : DAs nf) : DT nf := fun env Q => ra env fun ds env1 => ∃ ss : List Str, ds = [.lst (ss.map .str)] ∧ ss.length < 64 ∧ ∀ ys : List Str, ys.Perm ss → PyProof.Rows.sortedS ys = true → Q (.lst (ys.map .str)) env1
/-- all of bools -/
theorem rels_bls {H : Hp} : ∀ {vs : List V} {bs : List Bool}, Rels K nf H vs (bs.map .bl) → vs = bs.map V.bl
  | _, [], .nil => rfl
  | _, s :: ss, .cons h r => by cases h; rw [rels_bls r]; rfl
def fAll : List D → D → Prop := fun ds d => ∃ bs : List Bool, ds = [.lst (bs.map .bl)] ∧ d = .bl (bs.all id)
theorem cd_all : CbD K nf (rAll K) fAll := by
  rintro H vs ds d r ⟨bs, rfl, rfl⟩ Q q
  obtain ⟨v, rfl, h⟩ := rels1x r
  cases h with
  | lst h rr =>
    have e := rels_bls rr
    subst e
    exact ⟨_, bs, rfl, h.sq, q _ H (.bl _) Xt.refl⟩
structure IsiC (K : PySem.W.Frag) (C : Addr) : Prop where
  cl : Cls K C
  ha : PySem.W.findIn K (.ref C) "__class__" = some (some (.builtin "object.__class__"))
  hn : PySem.W.specialIn K (.builtin "object.__class__") "__get__" = some (some (.builtin "getset_descriptor.__get__"))
  htk : PySem.W.takesIn K (.builtin "object.__class__") = some true
  hm : PySem.W.mroIn K C (.type "object") = some true
def tyD : D → Option Value
  | .non => some (.type "NoneType")
  | .bl _ => some (.type "bool")
  | .int _ => some (.type "int")
  | .str _ => some (.type "str")
  | .tup _ => some (.type "tuple")
  | .lst _ => some (.type "list")
  | .dct _ => some (.type "dict")
  | .obj C _ => some (.ref C)
  | _ => none
theorem ty_of {H : Hp} {v : V} {x : D} {t : Value} (hC : ∀ C fs, x = .obj C fs → IsiC K C) (r : Rel K nf H v x) (e : tyD x = some t) : TyX K H v t := by
  cases r with
  | non => cases e; exact .base .non
  | bl b => cases e; exact .base (.bl b)
  | int i => cases e; exact .base (.int i)
  | str s => cases e; exact .base (.str s)
  | ty n => cases e
  | exc h r => cases e
  | fn0 h => cases e
  | fn h c r => cases e
  | cls a => cases e
  | tup h r =>
    cases e
    rcases h with (h | ⟨o, h⟩) | ⟨o, its, n, h1, h2, _⟩
    · exact .base (.tup h)
    · exact .fTuple h
    · exact .kTuple h1 h2
  | lst h r =>
    cases e
    obtain ⟨o, h⟩ := h
    exact .base (.frz h)
  | dct h r => cases e; exact .fDict h
  | obj h n l r =>
    cases e
    have c := hC _ _ rfl
    exact .base (.ins h c.cl c.ha c.hn c.htk c.hm)
  | scr h => cases e
def clsD : D → Option Value
  | .ty n => some (.type n)
  | .cls a => some (.ref a)
  | _ => none
def fIsi (K : PySem.W.Frag) : List D → D → Prop := fun ds d => ∃ x c t u b, ds = [x, c] ∧ (∀ C fs, x = .obj C fs → IsiC K C) ∧ tyD x = some t ∧ clsD c = some u ∧ PySem.W.kitOne K t u = some b ∧ d = .bl b
theorem cd_isi : CbD K nf (rIsi K) (fIsi K) := by
  rintro H vs ds d r ⟨x, c, t, u, b, rfl, hC, e1, e2, e3, rfl⟩ Q q
  obtain ⟨v, w, rfl, h1, h2⟩ := rels2x r
  refine ⟨v, w, t, u, b, rfl, ?_, ty_of hC h1 e1, e3, q _ H (.bl _) Xt.refl⟩
  cases h2 <;> simp only [clsD] at e2 <;> cases e2
  · exact .ty _
  · exact .own _
end
end DL
namespace DL
open PySem L2
section
variable {X : Cx} {nf : NFs} [Anch nf] {K : PySem.W.Frag}
theorem pts_imp {es : List Expr} {t t' : TT} (h : PTs X es t) (i : ∀ σ H Q, t' σ H Q → t σ H Q) : PTs X es t' := ⟨fun pins s σ H Q I q => h.run pins s σ H Q I (i σ H Q q)⟩
theorem dts_nil : PTs X [] (liftB X.K nf dYes) := pts_imp pts_nil fun σ H Q ⟨env, fp, Qd, R, q, k⟩ => k true H env fp R Ch.refl q
theorem dts_one {c : Expr} {t : DB nf} (h : DC X nf c t) : PTs X [c] (liftB X.K nf t) := pts_one h
section
variable {elt tg iter : Expr} {ifs : List Expr} {scope : Scope} {own : List (Str × Nat)} {pos : Pos} {di : DAs nf} {g : DG nf} {dt : DB nf} {de dk : DT nf}
theorem de_lc (hc : X.calm = true) (hN : X.N.Nodup) (hi : DIo X nf tg iter di) (ok : BlkOk X.N X.env.scope scope own)
    (hg : ∀ (s : Shared) (H : Hp) (C : Addr) (cl : List (Str × Addr)) (fp : List Addr), DGo (X.blk s H scope (compEnvC scope cl C X.env) fp) nf tg (own.map (·.2)) g) (ht : ∀ (s : Shared) (H : Hp) (C : Addr) (cl : List (Str × Addr)) (fp : List Addr), PTs (X.blk s H scope (compEnvC scope cl C X.env) fp) ifs (liftB X.K nf dt))
    (he : ∀ (s : Shared) (H : Hp) (C : Addr) (cl : List (Str × Addr)) (fp : List Addr), DE (X.blk s H scope (compEnvC scope cl C X.env) fp) nf elt de) (hs : ∀ x, foldedSetIterable iter X.env x = pure x := by intro _; rfl) :
    DE X nf (.ListComp elt [⟨tg, iter, ifs, 0⟩] scope pos) (dLc di g dt de (own.map (·.2))) := pe_imp (pe_fz (pe_lc hc hN hi ok hg ht he hs)) fun σ H Q ⟨env, fp, Qd, R, h, k⟩ => by
  refine lift_lc R h fun p vs H' ds env' fp' hp hp' np rr R' c q => ⟨p, _, rfl, hp', trivial, fun o => ?_⟩
  have st : Stp nf H' (upd H' p (.frz o (.lst vs))) := fun a u e f => by
    by_cases ha : a = p
    · subst ha; rw [hp'] at e; cases e; exact f.elim
    · rw [upd_ne ha]; exact e
  refine k _ _ _ env' fp' (.lst ⟨o, upd_same⟩ (rr.mono st)) (R'.frame (fun a m => upd_ne fun z => np (z ▸ m)) st R.2 (c.put hp hp' pl_lst)) (c.put hp hp' pl_lst) q
/-- behind the statement the thing in slot i is frozen -/
def tFzS (i : Nat) (t : TS) : TS := fun E σ H => t { E with nx := fun σ' H' => ∃ p u, σ'[i]? = some (some (.ref p)) ∧ H' p = some u ∧ Mut (some u) ∧ ∀ o, E.nx σ' (upd H' p (.frz o u)) } σ H
theorem ps_fzS {st : Stmt} {t : TS} {i : Nat} (h : PS X st t) : PS X st (tFzS i t) := by
  refine ⟨fun pins s σ H E I hw => ?_⟩
  refine thn (h.run pins s σ H _ I hw) fun f s1 q => ?_
  cases f with
  | next =>
    obtain ⟨σ', H', I', p, u, _, hp, mu, q⟩ := q
    obtain ⟨o, I2⟩ := I'.lock hp mu
    exact ⟨σ', _, I2, q o⟩
  | brk => exact q
  | cont => exact q
  | ret v => exact q
theorem ds_setLc {i : Nat} {y : Str} {py spos : Pos} (hc : X.calm = true) (hN : X.N.Nodup) (hy : X.N[i]? = some y) (hyl : X.env.scope.names.lookup y = some .local)
    (hsw : swapsWith (.ListComp elt [⟨tg, iter, ifs, 0⟩] scope pos) (some (.Name y py)) spos.line X.env = pure true) (hi : DIo X nf tg iter di) (ok : BlkOk X.N X.env.scope scope own)
    (hg : ∀ (s : Shared) (H : Hp) (C : Addr) (cl : List (Str × Addr)) (fp : List Addr), DGo (X.blk s H scope (compEnvC scope cl C X.env) fp) nf tg (own.map (·.2)) g) (ht : ∀ (s : Shared) (H : Hp) (C : Addr) (cl : List (Str × Addr)) (fp : List Addr), PTs (X.blk s H scope (compEnvC scope cl C X.env) fp) ifs (liftB X.K nf dt))
    (he : ∀ (s : Shared) (H : Hp) (C : Addr) (cl : List (Str × Addr)) (fp : List Addr), DE (X.blk s H scope (compEnvC scope cl C X.env) fp) nf elt de) (hs : ∀ x, foldedSetIterable iter X.env x = pure x := by intro _; rfl) :
    DS X nf (.Assign [.Name y py] (.ListComp elt [⟨tg, iter, ifs, 0⟩] scope pos) spos) (sSet i (dLc di g dt de (own.map (·.2)))) := ps_imp (ps_fzS (i := i) (ps_setLc (i := i) (g := liftG X.K nf (own.map (·.2)) g) (te := lift X.K nf de) hc hN hy hyl hsw hi ok hg ht he hs)) fun E σ H ⟨env, fp, De, R, h, br⟩ => by
  unfold tFzS tAsg
  refine lift_lc R h fun p vs H' ds env' fp' hp hp' np rr R' c ⟨hl, q⟩ => ⟨p, _, ?_, hp', trivial, fun o => ?_⟩
  · rw [List.getElem?_set_self (by rw [R'.length]; exact hl)]
  · have st : Stp nf H' (upd H' p (.frz o (.lst vs))) := fun a u e f => by
      by_cases ha : a = p
      · subst ha; rw [hp'] at e; cases e; exact f.elim
      · rw [upd_ne ha]; exact e
    have R2 := R'.frame (H' := upd H' p (.frz o (.lst vs))) (fun a m => upd_ne fun z => np (z ▸ m)) st R.2 (c.put hp hp' pl_lst)
    obtain ⟨fp3, R3, c3⟩ := R2.setFz hl (.lst ⟨o, upd_same⟩ (rr.mono st) : Rel X.K nf _ (.ref p) (.lst ds))
    refine br.nx _ _ _ fp3 R3 ((c.put hp hp' pl_lst).trans c3) q
end
def keyOf : D → Option Key
  | .int i => some (.inl i)
  | .str s => some (.inr s)
  | _ => none
theorem key_of {H : Hp} {v : V} {x : D} {k : Key} (r : Rel K nf H v x) (e : keyOf x = some k) : v = kV k := by
  cases r <;> simp only [keyOf] at e <;> cases e <;> rfl
def valD (kds : List (Key × D)) (k : Key) : Option D := (kds.find? fun kv => decide (kv.1 = k)).map (·.2)
def putD (kds : List (Key × D)) (k : Key) (d : D) : List (Key × D) :=
  if (kds.any fun kv => decide (kv.1 = k)) = true then kds.map (fun kv => if kv.1 = k then (kv.1, d) else kv) else kds ++ [(k, d)]
theorem RelK.val {H : Hp} {k : Key} : ∀ {kvs : List (Key × V)} {kds : List (Key × D)} {d : D}, RelK K nf H kvs kds → valD kds k = some d → ∃ v, valV kvs k = some v ∧ Rel K nf H v d
  | _, _, _, .nil, e => by cases e
  | _, _, d, @RelK.cons _ _ _ k' v vs d' ds h r, e => by
    by_cases hk : k' = k
    · subst hk
      simp only [valD, List.find?_cons, decide_true, Option.map_some, Option.some.injEq] at e
      subst e
      exact ⟨v, valV_pos rfl, h⟩
    · have e' : valD ds k = some d := by simpa [valD, List.find?_cons, hk] using e
      obtain ⟨w, h1, h2⟩ := RelK.val r e'
      exact ⟨w, by rw [valV_neg hk]; exact h1, h2⟩
theorem RelK.val_none {H : Hp} {k : Key} : ∀ {kvs : List (Key × V)} {kds : List (Key × D)}, RelK K nf H kvs kds → (valV kvs k).isSome = (valD kds k).isSome
  | _, _, .nil => rfl
  | _, _, @RelK.cons _ _ _ k' v vs d' ds h r => by
    by_cases hk : k' = k
    · subst hk
      simp [valD, valV_pos]
    · rw [valV_neg hk, RelK.val_none r]
      simp [valD, List.find?_cons, hk]
theorem RelK.any {H : Hp} {k : Key} : ∀ {kvs : List (Key × V)} {kds : List (Key × D)}, RelK K nf H kvs kds → (kvs.any fun kv => decide (kv.1 = k)) = (kds.any fun kv => decide (kv.1 = k))
  | _, _, .nil => rfl
  | _, _, .cons h r => by rw [List.any_cons, List.any_cons, RelK.any r]
theorem RelK.mapPut {H : Hp} {k : Key} {v : V} {d : D} (h : Rel K nf H v d) : ∀ {kvs : List (Key × V)} {kds : List (Key × D)}, RelK K nf H kvs kds → RelK K nf H (kvs.map fun kv => if kv.1 = k then (kv.1, v) else kv) (kds.map fun kv => if kv.1 = k then (kv.1, d) else kv)
  | _, _, .nil => .nil
  | _, _, @RelK.cons _ _ _ k' v' vs d' ds h' r => by
    rw [List.map_cons, List.map_cons]
    by_cases hk : k' = k
    · rw [if_pos hk, if_pos hk]; exact .cons h (RelK.mapPut h r)
    · rw [if_neg hk, if_neg hk]; exact .cons h' (RelK.mapPut h r)
theorem RelK.append {H : Hp} : ∀ {kvs ls : List (Key × V)} {kds es : List (Key × D)}, RelK K nf H kvs kds → RelK K nf H ls es → RelK K nf H (kvs ++ ls) (kds ++ es)
  | _, _, _, _, .nil, s => s
  | _, _, _, _, .cons h r, s => .cons h (RelK.append r s)
theorem RelK.put {H : Hp} {k : Key} {v : V} {d : D} {kvs : List (Key × V)} {kds : List (Key × D)} (r : RelK K nf H kvs kds) (h : Rel K nf H v d) : RelK K nf H (putK kvs k v) (putD kds k d) := by
  unfold putK putD
  rw [r.any]
  split
  · exact RelK.mapPut h r
  · exact r.append (.cons h .nil)
section
variable {o i : Expr} {da db : DT nf} {pos : Pos}
/-- d[k] of a frozen dict -/
def fDG : D → D → D → Prop := fun x y z => ∃ kds k, x = .dct kds ∧ keyOf y = some k ∧ valD kds k = some z
/-- k in d -/
def fDIn (neg : Bool) : D → D → D → Prop := fun y x z => ∃ kds k, x = .dct kds ∧ keyOf y = some k ∧ z = .bl (if neg then !(valD kds k).isSome else (valD kds k).isSome)
theorem od_din : OpD K nf (fun y x H2 Q => ∃ a o, x = .ref a ∧ DGet H2 a y o ∧ Q (.bl o.isSome) H2) (fDIn false) := by
  rintro H v w x y z r1 r2 ⟨kds, k, rfl, e1, rfl⟩ Q q
  cases r2 with
  | @dct a ob kvs _ ha rr =>
    have ew := key_of r1 e1
    subst ew
    refine ⟨a, valV kvs k, rfl, .inl ⟨kvs, k, .inr ⟨ob, ha⟩, rfl, rfl⟩, ?_⟩
    rw [rr.val_none]
    exact q _ H (.bl _) Xt.refl
theorem od_dnin : OpD K nf (fun y x H2 Q => ∃ a o, x = .ref a ∧ DGet H2 a y o ∧ Q (.bl (!o.isSome)) H2) (fDIn true) := by
  rintro H v w x y z r1 r2 ⟨kds, k, rfl, e1, rfl⟩ Q q
  cases r2 with
  | @dct a ob kvs _ ha rr =>
    have ew := key_of r1 e1
    subst ew
    refine ⟨a, valV kvs k, rfl, .inl ⟨kvs, k, .inr ⟨ob, ha⟩, rfl, rfl⟩, ?_⟩
    rw [rr.val_none]
    exact q _ H (.bl _) Xt.refl
end
def dctA (K : PySem.W.Frag) (nf : NFs) (kds : List (Key × D)) : OA nf where
  inv v fp H := ∃ p kvs, v = .ref p ∧ fp = [p] ∧ H p = some (.dK kvs) ∧ RelK K nf H kvs kds
  frame := by
    rintro v fp H H' ⟨p, vs, e1, e2, hp, r⟩ k st
    subst e2
    exact ⟨p, vs, e1, rfl, by rw [k p (List.mem_singleton.mpr rfl)]; exact hp, r.mono st⟩
  trk := by
    rintro v fp H ⟨p, vs, e1, e2, hp, r⟩ a m
    subst e2
    rw [List.mem_singleton.mp m]
    exact ⟨_, hp, fun z => z, nofun, nofun⟩
  nd := by
    rintro v fp H ⟨p, vs, e1, e2, hp, r⟩
    subst e2
    simp
/-- x = {} -/
def sSetD0 (K : PySem.W.Frag) (i : Nat) : DTS nf := fun De env => i < env.length ∧ ∀ p, De.nx (env.set i (.ow (.ref p) (dctA K nf [])))
theorem ds_setD0 {i : Nat} {x : Str} {pos pos' dpos : Pos} (hN : X.N.Nodup) (hi : X.N[i]? = some x) (hx : Loc X.env.scope x) (hs : swapsWith (.Dict [] [] dpos) (some (.Name x pos')) pos.line X.env = pure false := by rfl)
    (hf : X.fn x = true ∨ X.env.scope.names.lookup x = some .local := by first | exact .inl rfl | exact .inr rfl | assumption) : DS X nf (.Assign [.Name x pos'] (.Dict [] [] dpos) pos) (sSetD0 X.K i) :=
  ps_imp (ps_set hN hi hx pe_dnewK hs hf) fun E σ H ⟨env, fp, De, R, ⟨hl, q⟩, br⟩ => fun p hp => by
    have x : Xt H (upd H p (.dK [])) := Xt.new hp
    obtain ⟨fp2, R2, c2⟩ := R.setNew (i := i) (v := .ref p) (A := dctA X.K nf []) (fi := [p]) hl x ⟨p, [], rfl, rfl, upd_same, .nil⟩ (fun a m => by rw [List.mem_singleton.mp m]; exact hp)
    exact br.nx _ _ _ fp2 R2 c2 (q p)
/-- x = dict(e), one's own -/
def sSetDD (K : PySem.W.Frag) (i : Nat) (r : DAs nf) : DTS nf := fun De env => r env fun ds env1 => ∃ kds, ds = [.dct kds] ∧ i < env1.length ∧ ∀ p, De.nx (env1.set i (.ow (.ref p) (dctA K nf kds)))
theorem EnvR.dctAt {H : Hp} {σ : St} {env : EV nf} {fp : List Addr} (R : EnvR K nf H σ env fp) {i : Nat} {v : V} {xs : List (Key × D)} (e : env[i]? = some (.ow v (dctA K nf xs))) :
    ∃ p vs, v = .ref p ∧ σ[i]? = some (some (.ref p)) ∧ H p = some (.dK vs) ∧ RelK K nf H vs xs ∧
      (∀ vs' xs', RelK K nf H vs' xs' → ∃ fp', EnvR K nf (upd H p (.dK vs')) σ (env.set i (.ow v (dctA K nf xs'))) fp' ∧ Ch nf fp H fp' (upd H p (.dK vs'))) ∧
      ∀ o, Rel K nf (upd H p (.frz o (.dK vs))) (.ref p) (.dct xs) ∧ ∃ fp', EnvR K nf (upd H p (.frz o (.dK vs))) σ (env.set i (.fz (.dct xs))) fp' ∧ Ch nf fp H fp' (upd H p (.frz o (.dK vs))) := by
  obtain ⟨o, fi, e1, ⟨eo, p, vs, ev, ef, hp, r⟩, sub, rep⟩ := R.at e
  subst eo ev ef
  have es : σ.set i (some (.ref p)) = σ := by
    obtain ⟨h1, h2⟩ := List.getElem?_eq_some_iff.mp e1
    rw [← h2]
    exact List.set_getElem_self h1
  have stp : ∀ u', Stp nf H (upd H p u') := fun u' a u h f => by
    by_cases ha : a = p
    · subst ha; rw [hp] at h; cases h; exact f.elim
    · rw [upd_ne ha]; exact h
  have kp : ∀ u' a u, H a = some u → a ∉ [p] → upd H p u' a = some u := fun u' a u h n => by
    rw [upd_ne (fun z => n (by rw [z]; exact List.mem_singleton.mpr rfl))]; exact h
  have ch : ∀ u' fp', (∀ a ∈ fp', a ∈ fp ∨ H a = none) → Ch nf fp H fp' (upd H p u') := fun u' fp' sub' => Ch.of (fun a u h n => by
    rw [upd_ne (fun z => n (by rw [z]; exact sub p (List.mem_singleton.mpr rfl)))]; exact h) R.1.pl sub' (fun a h => by
    by_cases ha : a = p
    · subst ha; rw [upd_same] at h; cases h
    · rw [upd_ne ha] at h; exact h)
  refine ⟨p, vs, rfl, e1, hp, r, fun vs' xs' r' => ?_, fun o => ?_⟩
  · obtain ⟨fp', R', sub'⟩ := rep (upd H p (.dK vs')) (some (.ref p)) (.ow (.ref p) (dctA K nf xs')) [p] ⟨rfl, p, vs', rfl, rfl, upd_same, r'.mono (stp _)⟩ (kp _) (fun a m => .inl m) (stp _)
    rw [es] at R'
    exact R.rex R' (ch _ fp' sub')
  · have rel : Rel K nf (upd H p (.frz o (.dK vs))) (.ref p) (.dct xs) := .dct upd_same (r.mono (stp _))
    obtain ⟨fp', R', sub'⟩ := rep (upd H p (.frz o (.dK vs))) (some (.ref p)) (.fz (.dct xs)) [] ⟨rfl, _, rfl, rel⟩ (kp _) (fun a m => by cases m) (stp _)
    rw [es] at R'
    exact ⟨rel, R.rex R' (ch _ fp' sub')⟩
/-- d[k] = v of the slot's own dict -/
def sDPutV (K : PySem.W.Frag) (i : Nat) (db dv : DT nf) : DTS nf := fun De env => dv env fun d env1 => (∃ v kds, env1[i]? = some (.ow v (dctA K nf kds))) ∧ db env1 fun y env2 => ∃ v kds k, env2[i]? = some (.ow v (dctA K nf kds)) ∧ keyOf y = some k ∧ kds.length < 1000000 ∧ De.nx (env2.set i (.ow v (dctA K nf (putD kds k d))))
theorem ds_dputV {i : Nat} {o ix value : Expr} {db dv : DT nf} {pos pos' : Pos} (hu : X.A.units + 1 < cLine) (ho : PE X o (tVar i)) (hi : DE X nf ix db) (hv : DE X nf value dv) (hs : swapsWith value (some (.Subscript o ix pos')) pos.line X.env = pure false := by rfl) :
    DS X nf (.Assign [.Subscript o ix pos'] value pos) (sDPutV X.K i db dv) := ps_imp (ps_dput hu ho hi hv hs) fun E σ H ⟨env, fp, De, R, q, br⟩ =>
  lift_run R q fun w H1 d env1 fp1 r1 R1 c1 ⟨⟨v0, kds0, e0⟩, q1⟩ => by
    obtain ⟨p0, _, _, es0, _, _, _⟩ := R1.dctAt e0
    refine ⟨_, es0, lift_run R1 q1 fun u H2 y env2 fp2 r2 R2 c2 ⟨v, kds, k, e2, ek, hl, q2⟩ => ?_⟩
    obtain ⟨p, kvs, ev, es, hp, rr, rep, _⟩ := R2.dctAt e2
    rw [es0] at es
    cases es
    have eu := key_of r2 ek
    subst eu
    obtain ⟨fp3, R3, c3⟩ := rep (putK kvs k w) (putD kds k d) (rr.put (r1.mono (c2.stp R1)))
    exact ⟨p0, _, rfl, .inl ⟨kvs, k, hp, rfl, by rw [rr.length]; exact Nat.lt_of_lt_of_le hl (by decide), rfl⟩, br.nx σ _ _ fp3 R3 ((c1.trans c2).trans c3) q2⟩
/-- the slot's own dict as a value, frozen from here on -/
def dVarFD (K : PySem.W.Frag) (i : Nat) : DT nf := fun env Q => ∃ v kds, env[i]? = some (.ow v (dctA K nf kds)) ∧ Q (.dct kds) (env.set i (.fz (.dct kds)))
theorem de_varFD {i : Nat} {e : Expr} (h : PE X e (tVar i)) : DE X nf e (dVarFD X.K i) := pe_imp (pe_fz h) fun σ H Q ⟨env, fp, Qd, R, ⟨v, xs, e, q⟩, k⟩ => by
  obtain ⟨p, vs, ev, es, hp, _, _, f⟩ := R.dctAt e
  refine ⟨_, es, p, _, rfl, hp, trivial, fun o => ?_⟩
  obtain ⟨rel, fp', R', c⟩ := f o
  exact k _ _ _ _ fp' rel R' c q
end
end DL
namespace DL
open PySem L2
section
variable {X : Cx} {nf : NFs} [Anch nf] {K : PySem.W.Frag}
def dCompD (g : DG nf) (dt : DB nf) (dk dv : DT nf) (js : List Nat) : List D → List (Key × D) → EV nf → (List (Key × D) → EV nf → Prop) → Prop
  | [], acc, env, Q => Q acc env
  | x :: xs, acc, env, Q => g x env fun env1 => dt env1 fun b env2 => if b = true then dk env2 fun y env3 => dv env3 fun d env4 => ∃ k, keyOf y = some k ∧ acc.length < 1000000 ∧ dCompD g dt dk dv js xs (putD acc k d) (wipeD env4 js) Q else dCompD g dt dk dv js xs acc (wipeD env2 js) Q
def dDc (di : DAs nf) (g : DG nf) (dt : DB nf) (dk dv : DT nf) (js : List Nat) : DT nf := fun env Q => di env fun ds env1 => dCompD g dt dk dv js ds [] (wipeD env1 js) fun acc env2 => Q (.dct acc) env2
theorem wipe_wipe (σ : St) : ∀ js : List Nat, L2.wipe (L2.wipe σ js) js = L2.wipe σ js
  | [] => rfl
  | j :: js => by
    show (L2.wipe ((L2.wipe σ js).set j none) js).set j none = (L2.wipe σ js).set j none
    rw [wipe_out, List.set_set, wipe_wipe σ js]
section
variable {o e : Expr} {da db : DT nf} {apos pos : Pos}
def dSplit (da db : DT nf) : DT nf := fun env Q => da env fun x env1 => ∃ a, x = .str a ∧ db env1 fun y env2 => ∃ b, y = .str b ∧ (b.length == 0) = false ∧ a.length + 2 ≤ 1000000 ∧ Q (.lst ((Txt.split a b).map .str)) env2
theorem de_split (ho : DE X nf o da) (he : DE X nf e db) (hs : starEach [e] X.env = [(false, eval e X.env)] := by rfl) (hbase : attributeBase o "split" X.env (eval o X.env) = eval o X.env := by rfl) (hline : (apos.endLine == pos.line) = true := by rfl) :
    DE X nf (.Call (.Attribute o "split" apos) [e] [] pos) (dSplit da db) := pe_imp (pe_fz (pe_split ho he hs hbase hline)) fun σ H Q ⟨env, fp, Qd, R, h, k⟩ => by
  refine lift_run R h fun v H1 x env1 fp1 r1 R1 c1 ⟨a, ex, h1⟩ => ?_
  subst ex
  cases r1
  refine ⟨⟨a, rfl⟩, lift_run R1 h1 fun w H2 y env2 fp2 r2 R2 c2 ⟨b, ey, hb, hl, q⟩ => ?_⟩
  subst ey
  cases r2
  refine ⟨a, b, rfl, rfl, hb, Nat.le_trans hl (by decide), fun p hp => ⟨p, _, rfl, upd_same, trivial, fun ob => ?_⟩⟩
  have x : Xt H2 (upd (upd H2 p (.lst ((Txt.split a b).map V.str))) p (.frz ob (.lst ((Txt.split a b).map V.str)))) := xt_fz (Xt.new hp) hp
  exact k _ _ _ env2 fp2 (.lst ⟨ob, upd_same⟩ ((strs_rels _).mono x.stp)) (R2.ext x) ((c1.trans c2).trans x.ch) q
def dJoin (da db : DT nf) : DT nf := fun env Q => da env fun x env1 => ∃ a, x = .str a ∧ db env1 fun y env2 => ∃ ys : List Str, (y = .lst (ys.map .str) ∨ y = .tup (ys.map .str)) ∧ (ys.map (·.length)).sum + ys.length * a.length ≤ 1000000 ∧ Q (.str (Txt.join a ys)) env2
abbrev DO (nf : NFs) := EV nf → (Option Int → EV nf → Prop) → Prop
def liftO (K : PySem.W.Frag) (nf : NFs) [Anch nf] (td : DO nf) : TO := fun σ H Q => ∃ env fp Qd, EnvR K nf H σ env fp ∧ td env Qd ∧ ∀ o H' env' fp', EnvR K nf H' σ env' fp' → Ch nf fp H fp' H' → Qd o env' → Q o H'
theorem po_imp {e : Option Expr} {t t' : TO} (h : PO X e t) (i : ∀ σ H Q, t' σ H Q → t σ H Q) : PO X e t' := ⟨fun pins s σ H Q I q => h.run pins s σ H Q I (i σ H Q q)⟩
def oNone : DO nf := fun env Q => Q none env
def oSome (a : DT nf) : DO nf := fun env Q => a env fun x env1 => ∃ i, x = .int i ∧ Q (some i) env1
theorem do_none : PO X none (liftO X.K nf oNone) := po_imp po_none fun σ H Q ⟨env, fp, Qd, R, q, k⟩ => k none H env fp R Ch.refl q
theorem do_some {e : Expr} {a : DT nf} (h : DE X nf e a) : PO X (some e) (liftO X.K nf (oSome a)) := po_imp (po_some h) fun σ H Q ⟨env, fp, Qd, R, q, k⟩ => lift_run R q fun v H1 x env1 fp1 r1 R1 c1 ⟨i, ex, q1⟩ => by
  subst ex
  exact ⟨i, rel_int r1, k (some i) H1 env1 fp1 R1 c1 q1⟩
def dSlS (da : DT nf) (lo hi : DO nf) : DT nf := fun env Q => da env fun x env1 => lo env1 fun l env2 => hi env2 fun u env3 => ∃ z, x = .str z ∧ z.length ≤ 1000000 ∧ Q (.str (cutS z l u)) env3
theorem de_slS {lo hi : Option Expr} {dl dh : DO nf} {p2 : Pos} (ha : DE X nf e da) (hl : PO X lo (liftO X.K nf dl)) (hh : PO X hi (liftO X.K nf dh)) : DE X nf (.Subscript e (.Slice lo hi none p2) pos) (dSlS da dl dh) := pe_imp (pe_slice sl_str ha hl hh) fun σ H Q ⟨env, fp, Qd, R, h, k⟩ =>
  lift_run R h fun v H1 x env1 fp1 r1 R1 c1 h1 => ⟨env1, fp1, _, R1, h1, fun l H2 env2 fp2 R2 c2 h2 => ⟨env2, fp2, _, R2, h2, fun u H3 env3 fp3 R3 c3 ⟨z, ex, hz, q⟩ => by
    subst ex
    exact ⟨z, rel_str r1, sz_ok hz, k _ H3 _ env3 fp3 (.str _) R3 ((c1.trans c2).trans c3) q⟩⟩⟩
def dSlL (da : DT nf) (lo hi : DO nf) : DT nf := fun env Q => da env fun x env1 => lo env1 fun l env2 => hi env2 fun u env3 => ∃ xs, x = .lst xs ∧ Q (.lst ((xs.drop (HT.sIx xs.length 0 l)).take (HT.sIx xs.length xs.length u - HT.sIx xs.length 0 l))) env3
theorem de_slL {lo hi : Option Expr} {dl dh : DO nf} {p2 : Pos} (ha : DE X nf e da) (hl : PO X lo (liftO X.K nf dl)) (hh : PO X hi (liftO X.K nf dh)) : DE X nf (.Subscript e (.Slice lo hi none p2) pos) (dSlL da dl dh) := pe_imp (pe_fz (pe_slice sl_list ha hl hh)) fun σ H Q ⟨env, fp, Qd, R, h, k⟩ =>
  lift_run R h fun v H1 x env1 fp1 r1 R1 c1 h1 => ⟨env1, fp1, _, R1, h1, fun l H2 env2 fp2 R2 c2 h2 => ⟨env2, fp2, _, R2, h2, fun u H3 env3 fp3 R3 c3 ⟨xs, ex, q⟩ => by
    subst ex
    cases r1 with
    | @lst a vs _ hz rr =>
      have st : Stp nf H1 H3 := (c2.stp R1).trans (c3.stp R2)
      refine ⟨a, vs, rfl, (hz.mono st).sq, fun p hp => ⟨p, _, rfl, upd_same, trivial, fun o => ?_⟩⟩
      have x : Xt H3 (upd (upd H3 p (.lst (cutV vs l u))) p (.frz o (.lst (cutV vs l u)))) := xt_fz (Xt.new hp) hp
      have rc : Rels X.K nf H3 (cutV vs l u) ((xs.drop (HT.sIx xs.length 0 l)).take (HT.sIx xs.length xs.length u - HT.sIx xs.length 0 l)) := by
        unfold cutV
        rw [rr.length]
        exact ((rr.mono st).drop _).take _
      exact k _ _ _ env3 fp3 (.lst ⟨o, upd_same⟩ (rc.mono x.stp)) (R3.ext x) (((c1.trans c2).trans c3).trans x.ch) q⟩⟩
theorem op_catR : OpR X (binaryOp .Add) (fun x y H Q => ∃ l b xs zs, x = .ref l ∧ y = .ref b ∧ Rd H l (.lst xs) ∧ Rd H b (.lst zs) ∧ xs.length + zs.length ≤ sizeLine ∧ ∀ p, H p = none → Q (.ref p) (upd H p (.lst (xs ++ zs)))) := by
  intro pins s σ H x y v u Q I rx ry h
  obtain ⟨l, b, xs, zs, rfl, rfl, hH, hB, hz, q⟩ := h
  cases rx
  cases ry
  obtain ⟨_, its, n, r, e⟩ := hH.ok I.hok
  obtain ⟨_, its2, n2, r2, e2⟩ := hB.ok I.hok
  have g1 := r.length
  have g2 := r2.length
  refine PySem.P.add_list e e2 ?_ (by rw [List.size_toArray, List.size_toArray]; omega)
  have ea : its.toArray ++ its2.toArray = (its ++ its2).toArray := by simp
  rw [ea]
  exact ⟨.ref _, _, I.lnew (t' := s.toks) (r.append r2) (by rw [List.length_append]; omega), rfl, q _ I.fresh⟩
def fCatL : D → D → D → Prop := fun x y z => ∃ xs ys, x = .lst xs ∧ y = .lst ys ∧ xs.length + ys.length ≤ 1000000 ∧ z = .lst (xs ++ ys)
end
end
end DL
namespace DL
open PySem L2
section
variable {X : Cx} {nf : NFs} [Anch nf] {K : PySem.W.Frag}
def insA (K : PySem.W.Frag) (nf : NFs) (C : Addr) (fds : List (Str × D)) : OA nf where
  inv v fp H := ∃ p dx fs, v = .ref p ∧ fp = [p] ∧ H p = some (.ins C dx fs) ∧ fs.length < nf C ∧ RelF K nf H fs fds
  frame := by
    rintro v fp H H' ⟨p, dx, vs, e1, e2, hp, hl, r⟩ k st
    subst e2
    exact ⟨p, dx, vs, e1, rfl, by rw [k p (List.mem_singleton.mpr rfl)]; exact hp, hl, r.mono st⟩
  trk := by
    rintro v fp H ⟨p, dx, vs, e1, e2, hp, hl, r⟩ a m
    subst e2
    rw [List.mem_singleton.mp m]
    exact ⟨_, hp, fun z => by have := z.2; omega, nofun, nofun⟩
  nd := by
    rintro v fp H ⟨p, dx, vs, e1, e2, hp, hl, r⟩
    subst e2
    simp
section
variable {CX : CXT} {k n : Nat} {f C : Addr} {fd : FuncData} {ps : List Str} {S : SpD nf} {dvs : List V} {dds : List D} {ds : List Value} {E : XK} {x m : Str} {p pos apos : Pos} {e o : Expr} {es : List Expr} {r : DM nf} {da : DT nf}
def dMake (K : PySem.W.Frag) (n : Nat) (C : Addr) (S : SpD nf) (dds : List D) (r : DM nf) : DT nf := fun env Q => r env fun ads env1 => ads.length + dds.length + 1 = n ∧ 0 < nf C ∧ (slotsOf (ads ++ dds.map AD.v)).Nodup ∧ (∀ i ∈ slotsOf (ads ++ dds.map AD.v), i < env1.length) ∧
  ∀ y, S (.ow (.ref y) (insA K nf C []) :: (ads ++ dds.map AD.v).map (resolve env1)) fun d as' => d = .non ∧ ∃ fds rest, as' = .fr (.ref y) (.obj C fds) :: rest ∧ Q (.obj C fds) (putBack env1 (ads ++ dds.map AD.v) rest)
/-- self.f = e: self an object on the way -/
def sFldS (K : PySem.W.Frag) (C : Addr) (i : Nat) (m : Str) (dv : DT nf) : DTS nf := fun De env => dv env fun d env1 => ∃ v fds, env1[i]? = some (.ow v (insA K nf C fds)) ∧ fds.lookup m = none ∧ fds.length < 999 ∧
  (fds.length + 1 < nf C → De.nx (env1.set i (.ow v (insA K nf C (fds ++ [(m, d)]))))) ∧ (fds.length + 1 = nf C → De.nx (env1.set i (.fr v (.obj C (fds ++ [(m, d)])))))
theorem RelF.length : ∀ {H : Hp} {fs : List (Str × V)} {fds : List (Str × D)}, RelF K nf H fs fds → fs.length = fds.length
  | _, _, _, .nil => rfl
  | _, _, _, .cons _ r => by rw [List.length_cons, List.length_cons, RelF.length r]
end
end
end DL
namespace DL
open PySem
open L2
section
variable {X : Cx} {nf : NFs} [Anch nf] {K : PySem.W.Frag}
def mergeD (kds more : List (Key × D)) : List (Key × D) := more.foldl (fun acc kv => putD acc kv.1 kv.2) kds
/-- {**a, **b}, frozen -/
def dDS2 (da db : DT nf) : DT nf := fun env Q => da env fun x env1 => ∃ k1, x = .dct k1 ∧ db env1 fun y env2 => ∃ k2, y = .dct k2 ∧ k1.length + k2.length ≤ 1000000 ∧ Q (.dct (mergeD (mergeD [] k1) k2)) env2
end
end DL
namespace DL
open PySem L2
section
variable {X : Cx} {nf : NFs} [Anch nf] {K : PySem.W.Frag} {CX : CXT} {k : Nat} {f C : Addr} {fd : FuncData} {ps : List Str} {sp : Sp} {E : XK} {op : Operator}
/-- x op y by a method of x or of y (rev) -/
def dOwnOp (rev : Bool) (P : D → D → Prop) (S : SpD nf) (da db : DT nf) : DT nf := fun env Q => da env fun x env1 => db env1 fun y env2 => P x y ∧ S (if rev then [.fz y, .fz x] else [.fz x, .fz y]) fun d _ => Q d env2
def isO (C : Addr) (d : D) : Prop := ∃ fs, d = .obj C fs
variable {a b : Expr} {pos : Pos} {da db : DT nf} {S : SpD nf}
end
end DL
namespace DL
open PySem L2
section
variable {X : Cx} {nf : NFs} [Anch nf] {K : PySem.W.Frag}
/-- {} , frozen -/
def dD0 : DT nf := fun env Q => Q (.dct []) env
theorem de_gint {x : Str} {i : Int} {t : _} {pos : Pos} (hg : Gl X x) (hm : X.mg x = some (.int i t)) (hd : (x == ("__debug__" : Str)) = false := by decide) : DE X nf (.Name x pos) (dC (.int i)) := de_c (v := .int i) (pe_glob hg hm ⟨t, rfl⟩ hd) fun _ => .int i
theorem de_gstr {x : Str} {i : Str} {t : _} {pos : Pos} (hg : Gl X x) (hm : X.mg x = some (.str i t)) (hd : (x == ("__debug__" : Str)) = false := by decide) : DE X nf (.Name x pos) (dC (.str i)) := de_c (v := .str i) (pe_glob hg hm ⟨t, rfl⟩ hd) fun _ => .str i
theorem de_bty {x : Str} {T : String} {pos : Pos} (hg : Gl X x) (hm : X.mg x = none) (hv : bootBuiltins x = some (.type T)) (hn : x ≠ "__name__" := by decide) (hd : (x == ("__debug__" : Str)) = false := by decide) : DE X nf (.Name x pos) (dC (.ty T)) :=
  de_c (v := .ty T) (pe_bltn hg hm hv rfl hn hd) fun _ => .ty T
theorem de_gany {x : Str} {p : Addr} {d : D} {pos : Pos} (hg : Gl X x) (hm : X.mg x = some (.ref p)) (r : ∀ H, Rel X.K nf H (.ref p) d) (hd : (x == ("__debug__" : Str)) = false := by decide) : DE X nf (.Name x pos) (dC d) := de_c (v := .ref p) (pe_glob hg hm rfl hd) r
def dItems (da : DT nf) : DT nf := fun env Q => da env fun x env1 => ∃ kds, x = .dct kds ∧ Q (.lst (kds.map fun p => .tup [kD p.1, p.2])) env1
theorem op_eqDR (hu : X.A.units < cLine) : OpR X (compareOp .Eq) (fun x y H Q => ∃ a b ks ls, x = .ref a ∧ y = .ref b ∧ Rd H a (.dK ks) ∧ Rd H b (.dK ls) ∧ ks.length = ls.length ∧ (∀ p ∈ ks, valV ls p.1 = some p.2 ∧ flatB p.2 = true) ∧ Q (.bl true) H) := by
  intro pins s σ H x y v u Q I rx ry h
  obtain ⟨a, b, ks, ls, rfl, rfl, ea, eb, hlen, hp, q⟩ := h
  obtain rfl : v = Value.ref a := rx
  obtain rfl : u = Value.ref b := ry
  obtain ⟨_, ya, va, ra, da⟩ := dk_rd I.hok ea
  obtain ⟨_, yb, vb, rb, db⟩ := dk_rd I.hok eb
  have hl : va.length = vb.length := by rw [← ra.length, ← rb.length]; exact hlen
  exact PySem.W.keq_eq (knd := mixKind X.prog X.w) (r := true) ya yb da db hu (fun _ => hits_all rb ra hp) (fin_bl I q (by simp [hl]))
theorem op_neDR (hu : X.A.units < cLine) : OpR X (compareOp .NotEq) (fun x y H Q => ∃ a b ks ls, x = .ref a ∧ y = .ref b ∧ Rd H a (.dK ks) ∧ Rd H b (.dK ls) ∧ ks.length = ls.length ∧ (∀ p ∈ ks, valV ls p.1 = some p.2 ∧ flatB p.2 = true) ∧ Q (.bl false) H) := by
  intro pins s σ H x y v u Q I rx ry h
  obtain ⟨a, b, ks, ls, rfl, rfl, ea, eb, hlen, hp, q⟩ := h
  obtain rfl : v = Value.ref a := rx
  obtain rfl : u = Value.ref b := ry
  obtain ⟨_, ya, va, ra, da⟩ := dk_rd I.hok ea
  obtain ⟨_, yb, vb, rb, db⟩ := dk_rd I.hok eb
  have hl : va.length = vb.length := by rw [← ra.length, ← rb.length]; exact hlen
  exact PySem.W.keq_ne (knd := mixKind X.prog X.w) (r := true) ya yb da db hu (fun _ => hits_all rb ra hp) (fin_bl I q (by simp [hl]))
def sameDct (ks ls : List (Key × D)) : Prop := ks.length = ls.length ∧ ∀ p ∈ ks, ∃ v, flatD p.2 = some v ∧ (valD ls p.1).bind flatD = some v
def fEqDct (r : Bool) : D → D → D → Prop := fun x y z => ∃ ks ls, x = .dct ks ∧ y = .dct ls ∧ sameDct ks ls ∧ z = .bl r
theorem flatB_of {v : V} (h : flatV v = true) : flatB v = true := by cases v <;> simp_all [flatV, flatB]
theorem same_of {H : Hp} {ks ls : List (Key × D)} {kvs lvs : List (Key × V)} (hk : RelK K nf H kvs ks) (hl : RelK K nf H lvs ls) (s : ∀ p ∈ ks, ∃ v, flatD p.2 = some v ∧ (valD ls p.1).bind flatD = some v) : ∀ p ∈ kvs, valV lvs p.1 = some p.2 ∧ flatB p.2 = true := by
  intro p m
  obtain ⟨i, hi, e⟩ := List.mem_iff_getElem.mp m
  obtain ⟨d, ed, r⟩ := hk.getV (i := i) (k := p.1) (v := p.2) (by rw [List.getElem?_eq_getElem hi, e])
  obtain ⟨v, e1, e2⟩ := s (p.1, d) (List.mem_of_getElem? ed)
  obtain ⟨ev, fv⟩ := flat_of r e1
  cases q : valD ls p.1 with
  | none => rw [q] at e2; cases e2
  | some d2 =>
    rw [q] at e2
    obtain ⟨w, ew, rw2⟩ := hl.val q
    obtain ⟨ev2, _⟩ := flat_of rw2 e2
    refine ⟨?_, flatB_of fv⟩
    rw [ew, ev2, ev]
theorem od_eqDct : OpD K nf (fun x y H Q => ∃ a b ks ls, x = .ref a ∧ y = .ref b ∧ Rd H a (.dK ks) ∧ Rd H b (.dK ls) ∧ ks.length = ls.length ∧ (∀ p ∈ ks, valV ls p.1 = some p.2 ∧ flatB p.2 = true) ∧ Q (.bl true) H) (fEqDct true) := by
  rintro H v w x y z r1 r2 ⟨ks, ls, rfl, rfl, ⟨s1, s2⟩, rfl⟩ Q q
  cases r1 with
  | dct h1 rr1 =>
    cases r2 with
    | dct h2 rr2 => exact ⟨_, _, _, _, rfl, rfl, .inr ⟨_, h1⟩, .inr ⟨_, h2⟩, by rw [rr1.length, rr2.length, s1], same_of rr1 rr2 s2, q _ H (.bl true) Xt.refl⟩
theorem od_neDct : OpD K nf (fun x y H Q => ∃ a b ks ls, x = .ref a ∧ y = .ref b ∧ Rd H a (.dK ks) ∧ Rd H b (.dK ls) ∧ ks.length = ls.length ∧ (∀ p ∈ ks, valV ls p.1 = some p.2 ∧ flatB p.2 = true) ∧ Q (.bl false) H) (fEqDct false) := by
  rintro H v w x y z r1 r2 ⟨ks, ls, rfl, rfl, ⟨s1, s2⟩, rfl⟩ Q q
  cases r1 with
  | dct h1 rr1 =>
    cases r2 with
    | dct h2 rr2 => exact ⟨_, _, _, _, rfl, rfl, .inr ⟨_, h1⟩, .inr ⟨_, h2⟩, by rw [rr1.length, rr2.length, s1], same_of rr1 rr2 s2, q _ H (.bl false) Xt.refl⟩
variable {a b : Expr} {pos : Pos} {da db : DT nf}
end
end DL
namespace DL
open PySem L2
section
variable {X : Cx} {nf : NFs} [Anch nf] {K : PySem.W.Frag}
abbrev SpO (nf : NFs) := List (SD nf) → (SD nf → List (SD nf) → Prop) → Prop
def toSpO (K : PySem.W.Frag) (nf : NFs) (n : Nat) (S : SpO nf) : Sp := fun vs H Q _ => vs.length = n ∧ ∃ as fp Qd, as.length = n ∧ EnvL K nf H (vs.map some) as fp ∧ S as Qd ∧
  ∀ v H' s as' fi fp', as'.length = n → SlotR K nf H' (some v) fi s → EnvL K nf H' (vs.map some) as' fp' → (∀ a ∈ fi, a ∉ fp') → Ch nf fp H (fi ++ fp') H' → Qd s as' → Q v H'
def fnEndsO (as : List (SD nf)) (Qd : SD nf → List (SD nf) → Prop) : EndsD nf where
  nx env := BackOk as env ∧ Qd (.fz .non) (back as env)
  rt d env := BackOk as env ∧ Qd (.fz d) (back as env)
  ro v A env := BackOk as env ∧ Qd (.ow v A) (back as env)
theorem Ch.less {H H' : Hp} {fp f1 f2 : List Addr} (c : Ch nf fp H f1 H') (s : ∀ a ∈ f2, a ∈ f1) : Ch nf fp H f2 H' := ⟨c.keep, fun a m => c.sub a (s a m), c.there, c.tab⟩
end
section
variable {X : Cx} {nf : NFs} {K : PySem.W.Frag}
theorem body_okO {body : List Stmt} {td : DTS nf} {N : List Str} {n : Nat} {S : SpO nf} (h : DSs X nf body td) (hn : n ≤ N.length) (hb : ∀ as Qd, as.length = n → S as Qd → td (fnEndsO as Qd) (as ++ List.replicate (N.length - n) .un))
    {vs : List V} {H : Hp} {Q : VK} {E : XK} (hs : toSpO X.K nf n S vs H Q E) : ∃ t, PSs X body t ∧ t { nx := fun _ H' => Q .non H', rt := Q } (start N vs) H := by
  obtain ⟨hv, as, fp, Qd, hl, R, s, k⟩ := hs
  refine ⟨_, h, as ++ List.replicate (N.length - n) .un, fp, fnEndsO as Qd, ⟨?_, trivial⟩, hb as Qd hl s, ?_⟩
  · have := R.pad (N.length - n)
    rw [← hv] at this ⊢
    exact this
  · refine ⟨fun σ' H' env' fp' R' c ⟨b, q⟩ => ?_, fun v d σ' H' env' fp' r R' c ⟨b, q⟩ => ?_, fun σ' H' env' fp' R' c q => q.elim, fun σ' H' env' fp' R' c q => q.elim, fun v A σ' H' env' fp' fi hi R' hn' c ⟨b, q⟩ => ?_⟩
    · obtain ⟨fq, R2, sub⟩ := EnvL.back (c.stpL (R.pad (N.length - n))) R R'.1 b
      exact k .non H' (.fz .non) _ [] fq (by rw [back_len, hl]) ⟨rfl, _, rfl, .non⟩ R2 (fun a m => by cases m) (c.less sub) q
    · obtain ⟨fq, R2, sub⟩ := EnvL.back (c.stpL (R.pad (N.length - n))) R R'.1 b
      exact k v H' (.fz d) _ [] fq (by rw [back_len, hl]) ⟨rfl, _, rfl, r⟩ R2 (fun a m => by cases m) (c.less sub) q
    · have c' : Ch nf fp H fp' H' := c.less fun a m => List.mem_append_right _ m
      obtain ⟨fq, R2, sub⟩ := EnvL.back (c'.stpL (R.pad (N.length - n))) R R'.1 b
      refine k v H' (.ow v A) _ fi fq (by rw [back_len, hl]) ⟨rfl, hi⟩ R2 (fun a m z => hn' a m (sub a z)) (c.less fun a m => ?_) q
      rcases List.mem_append.mp m with z | z
      · exact List.mem_append_left _ z
      · exact List.mem_append_right _ (sub a z)
end
section
variable {X : Cx} {nf : NFs} [Anch nf] {K : PySem.W.Frag}
/-- slot i gets a thing that stands apart from all -/
theorem EnvL.put {H : Hp} {σ : St} {env : EV nf} {fp : List Addr} (R : EnvL K nf H σ env fp) : ∀ {i : Nat} {v : V} {s : SD nf} {fi : List Addr}, i < env.length → SlotR K nf H (some v) fi s → (∀ a ∈ fi, a ∉ fp) →
    ∃ fp', EnvL K nf H (σ.set i (some v)) (env.set i s) fp' ∧ ∀ a ∈ fp', a ∈ fi ∨ a ∈ fp := by
  induction R with
  | nil => intro i v s fi h; simp at h
  | @cons o σ s0 env fp0 fq hs he hd ih =>
    intro i v s fi h hs' hn
    cases i with
    | zero =>
      refine ⟨fi ++ fq, .cons hs' he fun a m z => hn a m (List.mem_append_right _ z), fun a m => ?_⟩
      rcases List.mem_append.mp m with m | m
      · exact .inl m
      · exact .inr (List.mem_append_right _ m)
    | succ i =>
      obtain ⟨fp', R', sub⟩ := ih (i := i) (v := v) (s := s) (fi := fi) (by simpa using h) hs' fun a m z => hn a m (List.mem_append_right _ z)
      refine ⟨fp0 ++ fp', .cons hs R' fun a m z => ?_, fun a m => ?_⟩
      · rcases sub a z with q | q
        · exact hn a q (List.mem_append_left _ m)
        · exact hd a m q
      · rcases List.mem_append.mp m with m | m
        · exact .inr (List.mem_append_left _ m)
        · exact (sub a m).imp id (List.mem_append_right _)
/-- slot i is taken out -/
theorem EnvL.take {H : Hp} {σ : St} {env : EV nf} {fp : List Addr} (R : EnvL K nf H σ env fp) : ∀ {i : Nat} {v : V} {A : OA nf}, env[i]? = some (.ow v A) →
    ∃ fi fp', σ[i]? = some (some v) ∧ A.inv v fi H ∧ EnvL K nf H σ (env.set i .un) fp' ∧ (∀ a ∈ fi, a ∉ fp') ∧ ∀ a, a ∈ fi ++ fp' → a ∈ fp := by
  induction R with
  | nil => intro i v s h; simp at h
  | @cons o σ s0 env fp0 fq hs he hd ih =>
    intro i v A h
    cases i with
    | zero =>
      simp at h
      subst h
      exact ⟨fp0, [] ++ fq, by simp [hs.1], hs.2, (EnvL.cons (show SlotR K nf H o [] .un from rfl) he (fun a m => by cases m)), (fun a m z => hd a m z), fun a m => m⟩
    | succ i =>
      obtain ⟨fi, fp', e1, hi, R', hn, sub⟩ := ih (i := i) (v := v) (A := A) (by simpa using h)
      refine ⟨fi, fp0 ++ fp', by simpa using e1, hi, .cons hs R' fun a m z => hd a m (sub a (List.mem_append_right _ z)), fun a m z => ?_, fun a m => ?_⟩
      · rcases List.mem_append.mp z with z | z
        · exact hd a z (sub a (List.mem_append_left _ m))
        · exact hn a m z
      · rcases List.mem_append.mp m with m | m
        · exact List.mem_append_right _ (sub a (List.mem_append_left _ m))
        · rcases List.mem_append.mp m with m | m
          · exact List.mem_append_left _ m
          · exact List.mem_append_right _ (sub a (List.mem_append_right _ m))
/-- return [..], one's own -/
def sRetL (K : PySem.W.Frag) (r : DAs nf) : DTS nf := fun De env => r env fun xs env1 => xs.length ≤ 1000000 ∧ ∀ p, De.ro (.ref p) (lstA K nf xs) env1
theorem ds_retL {es : List Expr} {r : DAs nf} {lpos pos : Pos} (h : DA X nf es r) : DS X nf (.Return (some (.List es lpos)) pos) (sRetL X.K r) := ps_imp (ps_ret (pe_lst h)) fun E σ H ⟨env, fp, De, R, q, br⟩ =>
  ⟨env, fp, _, R, q, fun vs H1 ds env1 fp1 r1 R1 c1 ⟨hl, q1⟩ => ⟨by rw [r1.length]; exact sz_ok hl, fun p hp => by
    have x : Xt H1 (upd H1 p (.lst vs)) := Xt.new hp
    have np : p ∉ fp1 := fun m => by obtain ⟨u, e, _⟩ := R1.trk p m; rw [hp] at e; cases e
    refine br.ro (.ref p) (lstA X.K nf ds) σ _ env1 fp1 [p] ⟨p, vs, rfl, rfl, upd_same, r1.mono x.stp⟩ (R1.ext x) (fun a m z => np (by rw [List.mem_singleton.mp m] at z; exact z)) ?_ (q1 p)
    have c2 := c1.trans (x.ch (fp := fp1))
    refine ⟨c2.keep, fun a m => ?_, c2.there, c2.tab⟩
    rcases List.mem_append.mp m with m | m
    · rw [List.mem_singleton.mp m]; exact .inr (c1.there p hp)
    · exact c2.sub a m⟩⟩
/-- x = f(..), what comes back in slot i -/
def sCallO (n : Nat) (S : SpO nf) (dds : List D) (r : DM nf) (i : Nat) : DTS nf := fun De env => r env fun ads env1 => ads.length + dds.length = n ∧ (slotsOf (ads ++ dds.map AD.v)).Nodup ∧ (∀ i ∈ slotsOf (ads ++ dds.map AD.v), i < env1.length) ∧ i < env1.length ∧
  S ((ads ++ dds.map AD.v).map (resolve env1)) fun s as' => De.nx ((putBack env1 (ads ++ dds.map AD.v) as').set i s)
theorem spO_run {S : SpO nf} {n i : Nat} {σ : St} {H : Hp} {Q : VK} {E : XK} {env : EV nf} {fp : List Addr} {vs : List V} {ads : List AD} {Qd : EV nf → Prop} (R : EnvR K nf H σ env fp) (M : ArgsM K nf H σ vs ads) (hn : ads.length = n)
    (nd : (slotsOf ads).Nodup) (hin : ∀ i ∈ slotsOf ads, i < env.length) (hi : i < env.length) (s : S (ads.map (resolve env)) fun s as' => Qd ((putBack env ads as').set i s))
    (k : ∀ v H' env' fp', EnvR K nf H' (σ.set i (some v)) env' fp' → Ch nf fp H fp' H' → Qd env' → Q v H') : toSpO K nf n S vs H Q E := by
  obtain ⟨fpa, RA, put⟩ := R.args M nd hin
  refine ⟨by rw [M.len, hn], _, fpa, _, by rw [List.length_map, hn], RA, s, fun v H' s as' fi fp' hl r R' hd c q => ?_⟩
  have c' : Ch nf fpa H fp' H' := c.less fun a m => List.mem_append_right _ m
  obtain ⟨fp2, R2, c2, sub2, suba⟩ := put H' as' fp' (by rw [hl, hn]) R' c'
  have hdis : ∀ a ∈ fi, a ∉ fp2 := fun a m z => by
    rcases sub2 a z with q | ⟨q1, q2⟩
    · exact hd a m q
    · rcases c.sub a (List.mem_append_left _ m) with y | y
      · exact q2 y
      · obtain ⟨u, e, _⟩ := R.trk a q1
        rw [y] at e; cases e
  obtain ⟨fp3, R3, sub3⟩ := R2.1.put (i := i) (by rw [putBack_len]; exact hi) r hdis
  have CC : Ch nf fp H fp3 H' := ?_
  · exact k v H' _ fp3 (R.re R3 CC) CC q
  refine ⟨c2.keep, fun a m => ?_, c2.there, c2.tab⟩
  rcases sub3 a m with z | z
  · rcases c.sub a (List.mem_append_left _ z) with y | y
    · exact .inl (suba a y)
    · exact .inr y
  · exact c2.sub a z
section
variable {CX : CXT} {k n : Nat} {f C : Addr} {fd : FuncData} {ps : List Str} {S : SpO nf} {dvs : List V} {dds : List D} {ds : List Value} {E : XK} {x y m : Str} {p pos apos : Pos} {e o : Expr} {es : List Expr} {r : DM nf} {da : DT nf}
theorem ds_callO {i : Nat} {pos' cpos : Pos} (hN : X.N.Nodup) (hi : X.N[i]? = some y) (hy : Loc X.env.scope y) (F : FnOk X.prog X.w X.K X.mg X.base CX k f fd ps (toSpO X.K nf n S)) (hr : Room k X.A) (hg : Gl X x) (hm : X.mg x = some (.ref f)) (hk : PySem.W.keepIn X.K (.ref f) = true) (hb : Binds X.K fd ps ds) (hd : Vals dvs ds) (hdd : ∀ H, Rels X.K nf H dvs dds) (hx : Passes CX X E)
    (ha : DAM X nf (e :: es) r) (hdb : (x == ("__debug__" : Str)) = false := by decide) (he : starEach (e :: es) X.env = (false, eval e X.env) :: starEach es X.env := by rfl) (hpl : (backTo cpos (starEach es X.env)).any (·.1) = false := by rfl)
    (hs : swapsWith (.Call (.Name x p) (e :: es) [] cpos) (some (.Name y pos')) pos.line X.env = pure false := by rfl)
    (hf : X.fn y = true ∨ X.env.scope.names.lookup y = some .local := by first | exact .inl rfl | exact .inr rfl | assumption) :
    DS X nf (.Assign [.Name y pos'] (.Call (.Name x p) (e :: es) [] cpos) pos) (sCallO n S dds r i) := ps_imp (ps_set hN hi hy (pe_call F hr hg hm hk hb hd hx ha hdb he hpl) hs hf) fun E' σ H ⟨env, fp, De, R, h, br⟩ => by
  refine ⟨env, fp, _, R, h, fun vs H1 ads env1 fp1 r1 R1 c1 ⟨hl, nd, hin, hi', s⟩ => ?_⟩
  exact spO_run (i := i) R1 (r1.app id (hdd H1)) (by rw [List.length_append, List.length_map, hl]) nd hin hi' s fun v H' env' fp' R' c' q => br.nx _ H' env' fp' R' (c1.trans c') q
end
end
end DL
namespace DL
open PySem L2
section
variable {X : Cx} {nf : NFs} [Anch nf] {K : PySem.W.Frag}
/-- xs[i], by values, the place not below 0 -/
theorem get_list : PGet X (fun o i H Q => ∃ p xs k z, o = .ref p ∧ i = .int k ∧ SqL X.K H p xs ∧ 0 ≤ k ∧ xs[k.toNat]? = some z ∧ Q z H) := by
  intro pins s σ H o i ov iv Q I ro ri h
  obtain ⟨p, xs, k, z, rfl, rfl, hq, h0, he, q⟩ := h
  cases ro
  obtain ⟨t, rfl⟩ := ri
  obtain ⟨its, r, pl, hz⟩ := I.list hq
  obtain ⟨w, ew, rw'⟩ := r.get he
  have hl := r.length
  have hn := line63
  have hlt : k.toNat < xs.length := (List.getElem?_eq_some_iff.mp he).1
  exact wpAny_getItem_list pl.isList h0 (by omega) (by simpa using ew) ⟨z, H, I, rw', q⟩
theorem Rels.set {H : Hp} {v : V} {d : D} (h : Rel K nf H v d) : ∀ {vs : List V} {ds : List D} (i : Nat), Rels K nf H vs ds → Rels K nf H (vs.set i v) (ds.set i d)
  | _, _, _, .nil => .nil
  | _, _, 0, .cons _ r => .cons h r
  | _, _, i + 1, .cons h' r => .cons h' (Rels.set h i r)
def sLPut (K : PySem.W.Frag) (i : Nat) (db dv : DT nf) : DTS nf := fun De env => dv env fun d env1 => (∃ v xs, env1[i]? = some (.ow v (lstA K nf xs))) ∧ db env1 fun y env2 => ∃ v xs k j, env2[i]? = some (.ow v (lstA K nf xs)) ∧ y = .int k ∧ ixN xs.length k = some j ∧ De.nx (env2.set i (.ow v (lstA K nf (xs.set j d))))
theorem ds_lput {i : Nat} {o ix value : Expr} {db dv : DT nf} {pos pos' : Pos} (ho : PE X o (tVar i)) (hi : DE X nf ix db) (hv : DE X nf value dv) (hs : swapsWithSole [.Subscript o ix pos'] value pos.line X.env = pure false := by rfl) (hw : swappedStores [.Subscript o ix pos'] value X.env = pure none := by rfl)
    (h1 : (assignEach [.Subscript o ix pos'] X.env).map (·.2) = [assign (.Subscript o ix pos') X.env] := by rfl)
    (ha : ∀ v, assign (.Subscript o ix pos') X.env v = (do
      let ov ← holding [v] (eval o X.env)
      let iv ← holding [v, ov] (eval ix X.env)
      standAt pos'
      holding [v, ov, iv] (setItem ov iv v)
      release [v, ov, iv] []) := by intro _; rfl) :
    DS X nf (.Assign [.Subscript o ix pos'] value pos) (sLPut X.K i db dv) := ps_imp (ps_asg hv (pg_sub ho hi set_list ha) hs hw h1) fun E σ H ⟨env, fp, De, R, q, br⟩ =>
  lift_run R q fun w H1 d env1 fp1 r1 R1 c1 ⟨⟨v0, xs0, e0⟩, q1⟩ => by
    obtain ⟨p0, _, _, es0, _, _, _⟩ := R1.lstAt e0
    refine ⟨_, es0, lift_run R1 q1 fun u H2 y env2 fp2 r2 R2 c2 ⟨v, xs, k, j, e2, ek, hj, q2⟩ => ?_⟩
    obtain ⟨p, vs, ev, es, hp, rr, rep⟩ := R2.lstAt e2
    rw [es0] at es
    cases es
    subst ek
    have eu := rel_int r2
    subst eu
    obtain ⟨fp3, R3, c3⟩ := rep (vs.set j w) (xs.set j d) (Rels.set (r1.mono (c2.stp R1)) j rr)
    exact ⟨p0, vs, k, j, rfl, rfl, hp, by rw [rr.length]; exact hj, br.nx σ _ _ fp3 R3 ((c1.trans c2).trans c3) q2⟩
def sLAug (K : PySem.W.Frag) (i : Nat) (k : Int) (dv : DT nf) : DTS nf := fun De env => ∃ v xs z, env[i]? = some (.ow v (lstA K nf xs)) ∧ 0 ≤ k ∧ xs[k.toNat]? = some (.int z) ∧ dv env fun d env1 => ∃ y xs1, d = .int y ∧ env1[i]? = some (.ow v (lstA K nf xs1)) ∧ k.toNat < xs1.length ∧ De.nx (env1.set i (.ow v (lstA K nf (xs1.set k.toNat (.int (z + y))))))
theorem ds_laug {i : Nat} {k : Int} {o value : Expr} {dv : DT nf} {j} {pos pos' ipos : Pos} (ho : PE X o (tVar i)) (hv : DE X nf value dv)
    (ha : ∀ ov iv new, augStore (.Constant (.int k) j ipos) ov iv new = (do holding [new, ov, iv] (setItem ov iv new); release [new, ov, iv] []; pure .next) := by intros; rfl) :
    DS X nf (.AugAssign (.Subscript o (.Constant (.int k) j ipos) pos') .Add value pos) (sLAug X.K i k dv) := ps_imp (ps_augS ho pe_int get_list hv ip_add set_list ha) fun E σ H ⟨env, fp, De, R, ⟨v, xs, z, e0, hk, hz, q⟩, br⟩ => by
  obtain ⟨p0, vs0, ev0, es0, hp0, rr0, _⟩ := R.lstAt e0
  subst ev0
  obtain ⟨u, eu, ru⟩ := rr0.get hz
  have eu2 := rel_int ru
  subst eu2
  refine ⟨_, es0, p0, vs0, k, _, rfl, rfl, SqL.of hp0, hk, eu, lift_run R q fun w H1 d env1 fp1 r1 R1 c1 ⟨y, xs1, ed, e1, hlt, q1⟩ => ?_⟩
  subst ed
  have ew := rel_int r1
  subst ew
  obtain ⟨p, vs, ev, es, hp, rr, rep⟩ := R1.lstAt e1
  rw [es0] at es
  cases es
  obtain ⟨fp3, R3, c3⟩ := rep (vs.set k.toNat (.int (z + y))) (xs1.set k.toNat (.int (z + y))) (Rels.set (.int _) _ rr)
  refine ⟨z, y, rfl, rfl, p0, vs, k, k.toNat, rfl, rfl, hp, ?_, br.nx σ _ _ fp3 R3 (c1.trans c3) q1⟩
  unfold ixN
  rw [if_pos hk, if_pos (by rw [rr.length]; omega)]
def stA (nf : NFs) (gr : List Int) (x n sd : Int) : OA nf where
  inv v fp H := ∃ t g, v = .ref t ∧ fp = [t, g] ∧ t ≠ g ∧ H t = some (.lst [.ref g, .int x, .int n, .int sd]) ∧ H g = some (.lst (gr.map .int))
  frame := by
    rintro v fp H H' ⟨t, g, e1, e2, ne, ht, hg⟩ k st
    subst e2
    exact ⟨t, g, e1, rfl, ne, by rw [k t (by simp)]; exact ht, by rw [k g (by simp)]; exact hg⟩
  trk := by
    rintro v fp H ⟨t, g, e1, e2, ne, ht, hg⟩ a m
    subst e2
    rcases List.mem_cons.mp m with m | m
    · subst m; exact ⟨_, ht, fun z => z, nofun, nofun⟩
    · rw [List.mem_singleton.mp m]; exact ⟨_, hg, fun z => z, nofun, nofun⟩
  nd := by
    rintro v fp H ⟨t, g, e1, e2, ne, ht, hg⟩
    subst e2
    simp [ne]
def stF (x n sd : Int) : Int → Option Int
  | 1 => some x | 2 => some n | 3 => some sd | _ => none
def stP (gr : List Int) (x n sd : Int) (j : Int) (z : Int) : OA nf := if j = 1 then stA nf gr z n sd else if j = 2 then stA nf gr x z sd else stA nf gr x n z
/-- s[j] -/
def dStI (i : Nat) (j : Int) : DT nf := fun env Q => ∃ v gr x n sd z, env[i]? = some (.ow v (stA nf gr x n sd)) ∧ stF x n sd j = some z ∧ Q (.int z) env
/-- s[0] != [] -/
def dStN (i : Nat) : DB nf := fun env Q => ∃ v gr x n sd, env[i]? = some (.ow v (stA nf gr x n sd)) ∧ Q (!gr.isEmpty) env
/-- s[j] = e -/
def sStS (i : Nat) (j : Int) (a : DT nf) : DTS nf := fun De env => a env fun d env1 => ∃ z v gr x n sd, d = .int z ∧ env1[i]? = some (.ow v (stA nf gr x n sd)) ∧ 1 ≤ j ∧ j ≤ 3 ∧ De.nx (env1.set i (.ow v (stP gr x n sd j z)))
/-- s[j] += e -/
def sStG (i : Nat) (j : Int) (a : DT nf) : DTS nf := fun De env => ∃ v gr x n sd y, env[i]? = some (.ow v (stA nf gr x n sd)) ∧ stF x n sd j = some y ∧ 1 ≤ j ∧ j ≤ 3 ∧ a env fun d env1 => ∃ z gr1 x1 n1 sd1, d = .int z ∧ env1[i]? = some (.ow v (stA nf gr1 x1 n1 sd1)) ∧ De.nx (env1.set i (.ow v (stP gr1 x1 n1 sd1 j (y + z))))
/-- s[1] = s[0].pop(0) -/
def sStPop (i : Nat) : DTS nf := fun De env => ∃ v y gr x n sd, env[i]? = some (.ow v (stA nf (y :: gr) x n sd)) ∧ De.nx (env.set i (.ow v (stA nf gr y n sd)))
/-- return [great, 0, 0, seed] -/
def sRetSt (K : PySem.W.Frag) (i : Nat) (r : DAs nf) : DTS nf := fun De env => ∃ v gr, env[i]? = some (.ow v (lstA K nf (gr.map .int))) ∧ r env fun xs env1 => ∃ x n sd, xs = [.int x, .int n, .int sd] ∧ env1[i]? = some (.ow v (lstA K nf (gr.map .int))) ∧ ∀ p, De.ro (.ref p) (stA nf gr x n sd) (env1.set i .un)
end
end DL
namespace DL
open PySem L2
section
variable {X : Cx} {nf : NFs} [Anch nf] {K : PySem.W.Frag}
/-- the answer as it is, or frozen if it is a new thing -/
def orFz (Q : VK) : VK := fun v H' => Q v H' ∨ ∃ p u, v = .ref p ∧ H' p = some u ∧ Mut (some u) ∧ ∀ o, Q v (upd H' p (.frz o u))
def tFzO (t : TE) : TE := fun σ H Q => t σ H (orFz Q)
theorem pe_fzO {e : Expr} {t : TE} (h : PE X e t) : PE X e (tFzO t) := by
  refine ⟨fun pins s σ H Q I hw => ?_⟩
  refine thn (h.run pins s σ H _ I hw) fun v s1 ⟨x, H1, I1, r, q⟩ => ?_
  rcases q with q | ⟨p, u, ex, hp, mu, q⟩
  · exact ⟨x, H1, I1, r, q⟩
  · obtain ⟨o, I2⟩ := I1.lock hp mu
    exact ⟨x, _, I2, r, q o⟩
def rFzO (r : R2) : R2 := fun x y H Q => r x y H (orFz Q)
theorem OpD.or {r r' : R2} {f f' : D → D → D → Prop} (h : OpD K nf r f) (h' : OpD K nf r' f') : OpD K nf (fun x y H Q => r x y H Q ∨ r' x y H Q) (fun x y z => f x y z ∨ f' x y z) := by
  rintro H v w x y z r1 r2 (q | q) Q k
  · exact .inl (h H v w x y z r1 r2 q Q k)
  · exact .inr (h' H v w x y z r1 r2 q Q k)
theorem OpD.imp {r : R2} {f f' : D → D → D → Prop} (h : OpD K nf r f) (i : ∀ x y z, f' x y z → f x y z) : OpD K nf r f' := fun H v w x y z r1 r2 q Q k => h H v w x y z r1 r2 (i x y z q) Q k
/-- an operation whose answer is a D by a function -/
def fF (g : D → D → Option D) : D → D → D → Prop := fun x y z => g x y = some z
def dF (g : D → D → Option D) (da db : DT nf) : DT nf := fun env Q => da env fun x env1 => db env1 fun y env2 => ∃ z, g x y = some z ∧ Q z env2
def addD : D → D → Option D
  | .int i, .int j => some (.int (i + j))
  | .str a, .str b => if a.length + b.length ≤ 1000000 then some (.str (a ++ b)) else none
  | .lst xs, .lst ys => if xs.length + ys.length ≤ 1000000 then some (.lst (xs ++ ys)) else none
  | _, _ => none
theorem od_catR : OpD K nf (rFzO fun x y H Q => ∃ l b xs zs, x = .ref l ∧ y = .ref b ∧ Rd H l (.lst xs) ∧ Rd H b (.lst zs) ∧ xs.length + zs.length ≤ sizeLine ∧ ∀ p, H p = none → Q (.ref p) (upd H p (.lst (xs ++ zs)))) fCatL := by
  rintro H v w x y z r1 r2 ⟨xs, ys, rfl, rfl, hl, rfl⟩ Q q
  cases r1 with
  | @lst a vs _ h1 rr1 =>
    cases r2 with
    | @lst b ws _ h2 rr2 =>
      refine ⟨a, b, vs, ws, rfl, rfl, h1.rd, h2.rd, by rw [rr1.length, rr2.length]; exact sz_ok hl, fun p hp => .inr ⟨p, _, rfl, upd_same, trivial, fun o => ?_⟩⟩
      have xt : Xt H (upd (upd H p (.lst (vs ++ ws))) p (.frz o (.lst (vs ++ ws)))) := xt_fz (Xt.new hp) hp
      exact q _ _ (.lst ⟨o, upd_same⟩ ((rr1.append rr2).mono xt.stp)) xt
theorem op_addG : OpR X (binaryOp .Add) (fun x y H Q => rI0 (fun i j => .int (i + j)) x y H Q ∨ (∃ i j, x = .str i ∧ y = .str j ∧ i.length + j.length ≤ sizeLine ∧ Q (.str (i ++ j)) H) ∨
    (∃ l b xs zs, x = .ref l ∧ y = .ref b ∧ Rd H l (.lst xs) ∧ Rd H b (.lst zs) ∧ xs.length + zs.length ≤ sizeLine ∧ ∀ p, H p = none → Q (.ref p) (upd H p (.lst (xs ++ zs))))) := op_add.or (op_add_str.or op_catR)
theorem od_addG : OpD K nf (rFzO fun x y H Q => rI0 (fun i j => .int (i + j)) x y H Q ∨ (∃ i j, x = .str i ∧ y = .str j ∧ i.length + j.length ≤ sizeLine ∧ Q (.str (i ++ j)) H) ∨
    (∃ l b xs zs, x = .ref l ∧ y = .ref b ∧ Rd H l (.lst xs) ∧ Rd H b (.lst zs) ∧ xs.length + zs.length ≤ sizeLine ∧ ∀ p, H p = none → Q (.ref p) (upd H p (.lst (xs ++ zs))))) (fF addD) := by
  rintro H v w x y z r1 r2 e Q q
  have e : addD x y = some z := e
  unfold addD at e
  split at e
  · cases e
    exact .inl ⟨_, _, rel_int r1, rel_int r2, .inl (q _ H (.int _) Xt.refl)⟩
  · split at e
    · rename_i h
      cases e
      exact .inr (.inl ⟨_, _, rel_str r1, rel_str r2, sz_ok h, .inl (q _ H (.str _) Xt.refl)⟩)
    · cases e
  · split at e
    · rename_i h
      cases e
      exact .inr (.inr (od_catR H v w _ _ _ r1 r2 ⟨_, _, rfl, rfl, h, rfl⟩ Q q))
    · cases e
  · cases e
variable {a b c : Expr} {pos : Pos} {da db dc : DT nf}
theorem de_addG (ha : DE X nf a da) (hb : DE X nf b db) : DE X nf (.BinOp a .Add b pos) (dF addD da db) := pe_imp (pe_fzO (pe_op op_addG ha hb)) fun σ H Q h => lift_op od_addG σ H Q h
def ixD : D → D → Option D
  | .lst xs, .int i => atI xs i
  | .tup xs, .int i => atI xs i
  | .str s, .int i => if s.length ≤ 1000000 then (atI s.cps.toList i).map fun c => .str ⟨#[c]⟩ else none
  | .dct kds, y => (keyOf y).bind (valD kds)
  | _, _ => none
def rDG : R2 := fun x y H Q => ∃ a v, x = .ref a ∧ DGet H a y (some v) ∧ Q v H
theorem ix_dict (hu : X.A.units + 1 < cLine) : IxR X rDG := by
  intro value slice pins s σ H x y v u Q I rx ry h hs
  obtain ⟨a, z, rfl, g, q⟩ := h
  cases rx
  have h1 := d_getItem (A := X.A) (E := X.xe) (Q := EP X pins σ Q) hu I g ry fun w' s3 I3 rw' => ⟨z, H, I3, rw', q⟩
  exact PyProof.Rows.tail_any (dict_typeIs I g) PySem.F.slot_dict_getitem.lookup h1 hs
theorem ixD_of {x y z : D} (e : ixD x y = some z) : (fIxL x y z ∨ fIxT x y z ∨ fIxS x y z) ∨ fDG x y z := by
  cases x with
  | lst xs => cases y <;> simp only [ixD] at e <;> first | cases e | exact .inl (.inl ⟨_, _, rfl, rfl, e⟩)
  | tup xs => cases y <;> simp only [ixD] at e <;> first | cases e | exact .inl (.inr (.inl ⟨_, _, rfl, rfl, e⟩))
  | str s =>
    cases y with
    | int i =>
      simp only [ixD] at e
      split at e
      · rename_i h
        cases hc : atI s.cps.toList i with
        | none => rw [hc] at e; cases e
        | some c =>
          rw [hc] at e
          simp only [Option.map_some, Option.some.injEq] at e
          exact .inl (.inr (.inr ⟨_, _, c, rfl, rfl, h, hc, e.symm⟩))
      · cases e
    | _ => simp only [ixD] at e; cases e
  | dct kds =>
    simp only [ixD] at e
    cases hk : keyOf y with
    | none => rw [hk] at e; cases e
    | some k => rw [hk] at e; exact .inr ⟨_, k, rfl, hk, e⟩
  | _ => simp only [ixD] at e; cases e
theorem od_dg : OpD K nf rDG fDG := by
  rintro H v w x y z r1 r2 ⟨kds, k, rfl, e1, e2⟩ Q q
  cases r1 with
  | @dct a ob kvs _ ha rr =>
    obtain ⟨u, e3, r3⟩ := rr.val e2
    have ew := key_of r2 e1
    subst ew
    exact ⟨a, u, rfl, .inl ⟨kvs, k, .inr ⟨ob, ha⟩, rfl, e3.symm⟩, q u H r3 Xt.refl⟩
theorem od_ixG : OpD K nf (fun x y H Q => rIx K x y H Q ∨ rDG x y H Q) (fF ixD) := ((od_ixL.or (od_ixT.or od_ixS)).or od_dg).imp fun _ _ _ e => ixD_of e
theorem de_ixG (hu : X.A.units + 1 < cLine) (ha : DE X nf a da) (hb : DE X nf b db) (hs : PlainIx b := by exact fun _ _ => rfl) : DE X nf (.Subscript a b pos) (dF ixD da db) := pe_imp (pe_ix (ix_seq.or (ix_dict hu)) ha hb hs) fun σ H Q h => lift_op od_ixG σ H Q h
def signOf (s : Str) : Option Nat := match s.cps.toList with | [c] => some c | _ => none
theorem signOf_eq {s : Str} {c : Nat} (h : signOf s = some c) : s = ⟨#[c]⟩ := by
  unfold signOf at h
  split at h
  · rename_i c' e
    cases h
    cases s with
    | mk cps => simp at e; cases cps; simp at e; subst e; rfl
  · cases h
def inD : D → D → Option Bool
  | x, .lst xs => (flatD x).bind fun v => (flatDs xs).map fun us => inV v us
  | x, .tup xs => (flatD x).bind fun v => (flatDs xs).map fun us => inV v us
  | .str x, .str s => (signOf x).map fun c => decide (c ∈ s.cps.toList)
  | x, .dct kds => (keyOf x).map fun k => (valD kds k).isSome
  | _, _ => none
def inF (neg : Bool) : D → D → Option D := fun x y => (inD x y).map fun b => .bl (if neg then !b else b)
theorem op_dIn (hu : X.A.units + 1 < cLine) : OpR X (compareOp .In) (fun y x H2 Q => ∃ a o, x = .ref a ∧ DGet H2 a y o ∧ Q (.bl o.isSome) H2) := by
  intro pins s σ H x y v u Q I rx ry h
  obtain ⟨a, o, rfl, g, q⟩ := h
  cases ry
  exact d_in hu I g rx fun s3 I3 => ⟨.bl o.isSome, H, I3, rfl, q⟩
theorem op_dNotIn (hu : X.A.units + 1 < cLine) : OpR X (compareOp .NotIn) (fun y x H2 Q => ∃ a o, x = .ref a ∧ DGet H2 a y o ∧ Q (.bl (!o.isSome)) H2) := by
  intro pins s σ H x y v u Q I rx ry h
  obtain ⟨a, o, rfl, g, q⟩ := h
  cases ry
  exact d_notIn hu I g rx fun s3 I3 => ⟨.bl (!o.isSome), H, I3, rfl, q⟩
theorem inD_of {x y : D} {b : Bool} (e : inD x y = some b) (neg : Bool) : fIn neg x y (.bl (if neg then !b else b)) ∨ (∃ (c : Nat) (s : Str), x = .str ⟨#[c]⟩ ∧ y = .str s ∧ b = decide (c ∈ s.cps.toList)) ∨ fDIn neg x y (.bl (if neg then !b else b)) := by
  cases y with
  | lst xs =>
    simp only [inD] at e
    cases h1 : flatD x with
    | none => rw [h1] at e; cases e
    | some v =>
      cases h2 : flatDs xs with
      | none => rw [h1, h2] at e; cases e
      | some us =>
        rw [h1, h2] at e
        simp only [Option.bind_some, Option.map_some, Option.some.injEq] at e
        subst e
        exact .inl ⟨xs, v, us, .inl rfl, h1, h2, rfl⟩
  | tup xs =>
    simp only [inD] at e
    cases h1 : flatD x with
    | none => rw [h1] at e; cases e
    | some v =>
      cases h2 : flatDs xs with
      | none => rw [h1, h2] at e; cases e
      | some us =>
        rw [h1, h2] at e
        simp only [Option.bind_some, Option.map_some, Option.some.injEq] at e
        subst e
        exact .inl ⟨xs, v, us, .inr rfl, h1, h2, rfl⟩
  | str s =>
    cases x with
    | str t =>
      simp only [inD] at e
      cases h : signOf t with
      | none => rw [h] at e; cases e
      | some c =>
        rw [h] at e
        simp only [Option.map_some, Option.some.injEq] at e
        have := signOf_eq h
        subst this
        exact .inr (.inl ⟨c, s, rfl, rfl, e.symm⟩)
    | _ => simp only [inD] at e; cases e
  | dct kds =>
    have e' : (keyOf x).map (fun k => (valD kds k).isSome) = some b := by
      cases x <;> simpa only [inD] using e
    cases h : keyOf x with
    | none => rw [h] at e'; cases e'
    | some k =>
      rw [h] at e'
      simp only [Option.map_some, Option.some.injEq] at e'
      subst e'
      exact .inr (.inr ⟨kds, k, rfl, h, rfl⟩)
  | _ => cases x <;> simp only [inD] at e <;> cases e
theorem od_inG : OpD K nf (fun x y H Q => rIn K false x y H Q ∨ (∃ (c : Nat) (z : Str), x = .str ⟨#[c]⟩ ∧ y = .str z ∧ Q (.bl (decide (c ∈ z.cps.toList))) H) ∨ (∃ a o, y = .ref a ∧ DGet H a x o ∧ Q (.bl o.isSome) H)) (fF (inF false)) :=
  (od_in.or (od_inS.or od_din)).imp fun x y z e => by
    have e : (inD x y).map (fun b => D.bl (if false = true then !b else b)) = some z := e
    cases h : inD x y with
    | none => rw [h] at e; cases e
    | some b =>
      rw [h] at e
      simp only [Option.map_some, Option.some.injEq] at e
      subst e
      rcases inD_of h false with q | ⟨c, s, e1, e2, e3⟩ | q
      · exact .inl q
      · exact .inr (.inl ⟨c, s, e1, e2, by rw [e3]; rfl⟩)
      · exact .inr (.inr q)
/-- not in: a text in a text is left out -/
def ninF : D → D → Option D := fun x y => match y with | .str _ => none | _ => inF true x y
theorem od_ninG : OpD K nf (fun x y H Q => rIn K true x y H Q ∨ (∃ a o, y = .ref a ∧ DGet H a x o ∧ Q (.bl (!o.isSome)) H)) (fF ninF) :=
  (od_in.or od_dnin).imp fun x y z e => by
    have e : ninF x y = some z := e
    unfold ninF at e
    split at e
    · cases e
    · rename_i hy
      have e : (inD x y).map (fun b => D.bl (if true = true then !b else b)) = some z := e
      cases h : inD x y with
      | none => rw [h] at e; cases e
      | some b =>
        rw [h] at e
        simp only [Option.map_some, Option.some.injEq] at e
        subst e
        rcases inD_of h true with q | ⟨c, s, e1, e2, e3⟩ | q
        · exact .inl q
        · exact absurd e2 (hy s)
        · exact .inr q
theorem de_inG (hu : X.A.units + 1 < cLine) (ha : DE X nf a da) (hb : DE X nf b db) (hm : behindInMarks .In b = false := by rfl) : DE X nf (.Compare a [.In] [b] pos) (dF (inF false) da db) := de_cmp (op_in_seq.or (op_in_sign.or (op_dIn hu))) od_inG ha hb hm
theorem dc_inG (hu : X.A.units + 1 < cLine) (ha : DE X nf a da) (hb : DE X nf b db) (hm : behindInMarks .In b = false := by rfl) : DC X nf (.Compare a [.In] [b] pos) (dBv (dF (inF false) da db)) := dc_cmp (op_in_seq.or (op_in_sign.or (op_dIn hu))) od_inG ha hb hm
theorem de_ninG (hu : X.A.units + 1 < cLine) (ha : DE X nf a da) (hb : DE X nf b db) (hm : behindInMarks .NotIn b = false := by rfl) : DE X nf (.Compare a [.NotIn] [b] pos) (dF ninF da db) := de_cmp (op_notIn_seq.or (op_dNotIn hu)) od_ninG ha hb hm
theorem dc_ninG (hu : X.A.units + 1 < cLine) (ha : DE X nf a da) (hb : DE X nf b db) (hm : behindInMarks .NotIn b = false := by rfl) : DC X nf (.Compare a [.NotIn] [b] pos) (dBv (dF ninF da db)) := dc_cmp (op_notIn_seq.or (op_dNotIn hu)) od_ninG ha hb hm
def eqQ (neg : Bool) : D → D → D → Prop := fun x y z => fEq neg x y z ∨ fEqD neg x y z ∨ fEqDct (!neg) x y z
def dEqG (neg : Bool) (da db : DT nf) : DT nf := dOp (eqQ neg) da db
theorem de_eqG (hu : X.A.units + 64 < cLine) (ha : DE X nf a da) (hb : DE X nf b db) : DE X nf (.Compare a [.Eq] [b] pos) (dEqG false da db) := de_cmp (op_eq.or ((op_eqD hu).or (op_eqDR (by omega)))) (od_eq.or (od_eqD.or od_eqDct)) ha hb (nomark _)
theorem dc_eqG (hu : X.A.units + 64 < cLine) (ha : DE X nf a da) (hb : DE X nf b db) : DC X nf (.Compare a [.Eq] [b] pos) (dBv (dEqG false da db)) := dc_cmp (op_eq.or ((op_eqD hu).or (op_eqDR (by omega)))) (od_eq.or (od_eqD.or od_eqDct)) ha hb (nomark _)
theorem de_neG (hu : X.A.units + 64 < cLine) (ha : DE X nf a da) (hb : DE X nf b db) : DE X nf (.Compare a [.NotEq] [b] pos) (dEqG true da db) := de_cmp (op_ne.or ((op_neD hu).or (op_neDR (by omega)))) (od_ne.or (od_neD.or od_neDct)) ha hb (nomark _)
theorem dc_neG (hu : X.A.units + 64 < cLine) (ha : DE X nf a da) (hb : DE X nf b db) : DC X nf (.Compare a [.NotEq] [b] pos) (dBv (dEqG true da db)) := dc_cmp (op_ne.or ((op_neD hu).or (op_neDR (by omega)))) (od_ne.or (od_neD.or od_neDct)) ha hb (nomark _)
def dChain (g g' : Int → Int → Bool) (da db dc : DT nf) : DT nf := fun env Q => da env fun x env1 => db env1 fun y env2 => ∃ i j, x = .int i ∧ y = .int j ∧ if g i j = true then dc env2 fun z env3 => ∃ k, z = .int k ∧ Q (.bl (g' j k)) env3 else Q (.bl false) env2
theorem lift_chain {g g' : Int → Int → Bool} (σ : St) (H : Hp) (Q : VK) (h : lift K nf (dChain g g' da db dc) σ H Q) : tChain (rI0 fun i j => .bl (g i j)) (rI0 fun i j => .bl (g' i j)) (lift K nf da) (lift K nf db) (lift K nf dc) σ H Q := by
  obtain ⟨env, fp, Qd, R, h, k⟩ := h
  refine lift_run R h fun v H1 x env1 fp1 r1 R1 c1 h1 => ?_
  refine lift_run R1 h1 fun w H2 y env2 fp2 r2 R2 c2 ⟨i, j, ex, ey, q⟩ => ?_
  subst ex ey
  have e1 := rel_int r1
  have e2 := rel_int r2
  subst e1 e2
  refine ⟨i, j, rfl, rfl, g i j, rfl, ?_⟩
  cases hg : g i j with
  | true =>
    rw [hg, if_pos rfl] at q
    rw [if_pos rfl]
    refine lift_run R2 q fun u H3 z env3 fp3 r3 R3 c3 ⟨m, ez, q3⟩ => ?_
    subst ez
    have e3 := rel_int r3
    subst e3
    exact ⟨j, m, rfl, rfl, k _ H3 _ env3 fp3 (.bl _) R3 ((c1.trans c2).trans c3) q3⟩
  | false =>
    rw [hg, if_neg Bool.false_ne_true] at q
    rw [if_neg Bool.false_ne_true]
    exact k _ H2 _ env2 fp2 (.bl false) R2 (c1.trans c2) q
theorem de_chain {op op' : CmpOp} {g g' : Int → Int → Bool} (ho : OpR X (compareOp op) (rI0 fun i j => .bl (g i j))) (ho' : OpR X (compareOp op') (rI0 fun i j => .bl (g' i j))) (ha : DE X nf a da) (hb : DE X nf b db) (hc : DE X nf c dc)
    (hm : lastMarks [op, op'] [b, c] = false := by with_unfolding_all rfl) : DE X nf (.Compare a [op, op'] [b, c] pos) (dChain g g' da db dc) := pe_imp (pe_chain ho ho' ha hb hc hm) lift_chain
theorem dc_chain {op op' : CmpOp} {g g' : Int → Int → Bool} (ho : OpR X (compareOp op) (rI0 fun i j => .bl (g i j))) (ho' : OpR X (compareOp op') (rI0 fun i j => .bl (g' i j))) (ha : DE X nf a da) (hb : DE X nf b db) (hc : DE X nf c dc)
    (hm : lastMarks [op, op'] [b, c] = false := by with_unfolding_all rfl) : DC X nf (.Compare a [op, op'] [b, c] pos) (dBv (dChain g g' da db dc)) := pt_imp (pt_chain ho ho' ha hb hc hm) (lift_B2 lift_chain)
theorem CbD.or {r r' : List V → Hp → VK → Prop} {f f' : List D → D → Prop} (h : CbD K nf r f) (h' : CbD K nf r' f') : CbD K nf (fun xs H Q => r xs H Q ∨ r' xs H Q) (fun x z => f x z ∨ f' x z) := by
  rintro H vs ds d rr (q | q) Q k
  · exact .inl (h H vs ds d rr q Q k)
  · exact .inr (h' H vs ds d rr q Q k)
theorem CbD.imp {r : List V → Hp → VK → Prop} {f f' : List D → D → Prop} (h : CbD K nf r f) (i : ∀ x z, f' x z → f x z) : CbD K nf r f' := fun H vs ds d rr q Q k => h H vs ds d rr (i _ _ q) Q k
theorem call_lenR : CallR X (.builtin "len") (fun xs H Q => ∃ a kvs, xs = [V.ref a] ∧ Rd H a (.dK kvs) ∧ Q (.int kvs.length) H) := by
  intro pins s σ H xs us Q I r h
  obtain ⟨a, kvs, rfl, ha, q⟩ := h
  obtain ⟨u, rfl, ru⟩ := vals1 r
  cases ru
  exact d_len I ha fun t s' I' => ⟨.int kvs.length, H, I', ⟨t, rfl⟩, q⟩
theorem call_lenG : CallR X (.builtin "len") (fun xs H Q => (∃ p ys, xs = [.ref p] ∧ (SqL X.K H p ys ∨ SqT X.K H p ys) ∧ Q (.int ys.length) H) ∨ (∃ z, xs = [.str z] ∧ z.length ≤ sizeLine ∧ Q (.int z.length) H) ∨ ∃ a kvs, xs = [V.ref a] ∧ Rd H a (.dK kvs) ∧ Q (.int kvs.length) H) :=
  L2.CallR.or call_len_seq (L2.CallR.or call_len_str call_lenR)
def fLenD : List D → D → Prop := fun ds d => ∃ kds, ds = [.dct kds] ∧ d = .int kds.length
theorem cd_lenD : CbD K nf (fun xs H Q => ∃ a kvs, xs = [V.ref a] ∧ Rd H a (.dK kvs) ∧ Q (.int kvs.length) H) fLenD := by
  rintro H vs ds d r ⟨kds, rfl, rfl⟩ Q q
  obtain ⟨v, rfl, h⟩ := rels1x r
  cases h with
  | dct h rr => exact ⟨_, _, rfl, .inr ⟨_, h⟩, by rw [rr.length]; exact q _ H (.int _) Xt.refl⟩
def lenD : D → Option Int
  | .lst xs => some xs.length
  | .tup xs => some xs.length
  | .dct xs => some xs.length
  | .str z => if z.length ≤ 1000000 then some z.length else none
  | _ => none
def fLenG : List D → D → Prop := fun ds d => ∃ x n, ds = [x] ∧ lenD x = some n ∧ d = .int n
theorem cd_lenG : CbD K nf (fun xs H Q => (∃ p ys, xs = [.ref p] ∧ (SqL K H p ys ∨ SqT K H p ys) ∧ Q (.int ys.length) H) ∨ (∃ z, xs = [.str z] ∧ z.length ≤ sizeLine ∧ Q (.int z.length) H) ∨ ∃ a kvs, xs = [V.ref a] ∧ Rd H a (.dK kvs) ∧ Q (.int kvs.length) H) fLenG :=
  (cd_len.or (cd_lenS.or cd_lenD)).imp fun ds d ⟨x, n, e, h, ed⟩ => by
    subst e ed
    cases x with
    | lst xs => cases h; exact .inl ⟨xs, .inl rfl, rfl⟩
    | tup xs => cases h; exact .inl ⟨xs, .inr rfl, rfl⟩
    | dct xs => cases h; exact .inr (.inr ⟨xs, rfl, rfl⟩)
    | str z =>
      simp only [lenD] at h
      split at h
      · rename_i hl
        cases h
        exact .inr (.inl ⟨z, rfl, hl, rfl⟩)
      · cases h
    | _ => cases h
end
end DL
namespace DL
open PySem L2
section
variable {nf : NFs}
theorem for_inv {g : DG nf} {b : DTS nf} {De : EndsD nf} (Iv : List D → EV nf → Prop) (step : ∀ x xs env (R : EV nf → Prop), Iv (x :: xs) env → (∀ env', Iv xs env' → R env') → g x env fun env1 => b { De with nx := R, ct := R, bk := De.nx } env1) (fin : ∀ env, Iv [] env → De.nx env) :
    ∀ ds env, Iv ds env → dFor g b ds De env
  | [], env, h => fin env h
  | x :: xs, env, h => step x xs env (dFor g b xs De) h fun env' h' => for_inv Iv step fin xs env' h'
theorem lc_inv {g : DG nf} {dt : DB nf} {de : DT nf} {js : List Nat} {Q : List D → EV nf → Prop} (Iv : List D → List D → EV nf → Prop)
    (step : ∀ x xs acc env (R : List D → EV nf → Prop), Iv (x :: xs) acc env → (∀ acc' env', Iv xs acc' env' → R acc' env') → g x env fun env1 => dt env1 fun b env2 => if b = true then de env2 fun d env3 => acc.length < 1000000 ∧ R (acc ++ [d]) (wipeD env3 js) else R acc (wipeD env2 js))
    (fin : ∀ acc env, Iv [] acc env → Q acc env) : ∀ ds acc env, Iv ds acc env → dComp g dt de js ds acc env Q
  | [], acc, env, h => fin acc env h
  | x :: xs, acc, env, h => step x xs acc env (fun acc env => dComp g dt de js xs acc env Q) h fun acc' env' h' => lc_inv Iv step fin xs acc' env' h'
/-- a comprehension over one name whose parts change nothing -/
theorem lc_pure {j : Nat} {dt : DB nf} {de : DT nf} {Q : List D → EV nf → Prop} {env : EV nf} (p : D → Bool) (f : D → D) (hj : env[j]? = some .un) {ds : List D}
    (ht : ∀ x ∈ ds, ∀ R : Bool → EV nf → Prop, R (p x) (env.set j (.fz x)) → dt (env.set j (.fz x)) R) (he : ∀ x ∈ ds, p x = true → ∀ R : D → EV nf → Prop, R (f x) (env.set j (.fz x)) → de (env.set j (.fz x)) R)
    {acc : List D} (hl : acc.length + ds.length ≤ 1000000) (q : Q (acc ++ (ds.filter p).map f) env) : dComp (gN j) dt de [j] ds acc env Q := by
  have hlen : j < env.length := (List.getElem?_eq_some_iff.mp hj).1
  have hback : ∀ x : D, (env.set j (.fz x)).set j .un = env := fun x => by
    rw [List.set_set]
    apply List.ext_getElem?
    intro i
    by_cases hi : j = i
    · subst hi; rw [List.getElem?_set_self hlen, hj]
    · rw [List.getElem?_set_ne hi]
  induction ds generalizing acc with
  | nil => simpa [dComp] using q
  | cons x xs ih =>
    show gN j x env _
    refine ⟨hlen, ?_⟩
    refine ht x List.mem_cons_self _ ?_
    have hl' : acc.length + xs.length + 1 ≤ 1000000 := by rw [List.length_cons] at hl; omega
    have ih' := fun acc (h : acc.length + xs.length ≤ 1000000) (q : Q (acc ++ (xs.filter p).map f) env) => ih (acc := acc) (fun y m => ht y (List.mem_cons_of_mem _ m)) (fun y m => he y (List.mem_cons_of_mem _ m)) h q
    cases hp : p x with
    | true =>
      rw [if_pos rfl]
      refine he x List.mem_cons_self hp _ ⟨by omega, ?_⟩
      show dComp (gN j) dt de [j] xs (acc ++ [f x]) ((env.set j (.fz x)).set j .un) Q
      rw [hback]
      refine ih' _ (by rw [List.length_append]; show acc.length + 1 + xs.length ≤ _; omega) ?_
      rw [List.filter_cons, hp] at q
      simpa using q
    | false =>
      rw [if_neg Bool.false_ne_true]
      show dComp (gN j) dt de [j] xs acc ((env.set j (.fz x)).set j .un) Q
      rw [hback]
      refine ih' _ (by omega) ?_
      rw [List.filter_cons, hp] at q
      simpa using q
end
end DL
namespace DL
open PySem L2
section
variable {K : PySem.W.Frag} {nf : NFs}
@[simp] theorem isi_str {s : Str} {T : String} {d : D} : fIsi K [.str s, .ty T] d ↔ ∃ b, kitB "str" T = some b ∧ d = .bl b := by
  constructor
  · rintro ⟨x, c, t, u, b, e, h, e1, e2, e3, ed⟩
    cases e; cases e1; cases e2
    exact ⟨b, e3, ed⟩
  · rintro ⟨b, h, e⟩
    exact ⟨_, _, _, _, b, rfl, (fun C fs z => by cases z), rfl, rfl, h, e⟩
@[simp] theorem isi_int {s : Int} {T : String} {d : D} : fIsi K [.int s, .ty T] d ↔ ∃ b, kitB "int" T = some b ∧ d = .bl b := by
  constructor
  · rintro ⟨x, c, t, u, b, e, h, e1, e2, e3, ed⟩
    cases e; cases e1; cases e2
    exact ⟨b, e3, ed⟩
  · rintro ⟨b, h, e⟩
    exact ⟨_, _, _, _, b, rfl, (fun C fs z => by cases z), rfl, rfl, h, e⟩
@[simp] theorem isi_dct {s : List (Key × D)} {T : String} {d : D} : fIsi K [.dct s, .ty T] d ↔ ∃ b, kitB "dict" T = some b ∧ d = .bl b := by
  constructor
  · rintro ⟨x, c, t, u, b, e, h, e1, e2, e3, ed⟩
    cases e; cases e1; cases e2
    exact ⟨b, e3, ed⟩
  · rintro ⟨b, h, e⟩
    exact ⟨_, _, _, _, b, rfl, (fun C fs z => by cases z), rfl, rfl, h, e⟩
@[simp] theorem kb1 : kitB "str" "str" = some true := by decide +kernel
@[simp] theorem kb2 : kitB "int" "bool" = some false := by decide +kernel
@[simp] theorem kb3 : kitB "str" "bool" = some false := by decide +kernel
@[simp] theorem kb4 : kitB "int" "int" = some true := by decide +kernel
@[simp] theorem kb5 : kitB "str" "int" = some false := by decide +kernel
@[simp] theorem kb6 : kitB "dict" "dict" = some true := by decide +kernel
end
end DL
namespace DL
open PySem L2
section
variable {nf : NFs} {K : PySem.W.Frag} {De : EndsD nf} {env env' env1 : EV nf} {i j n : Nat} {d x y z : D} {a b : DTS nf} {da db dc : DT nf} {ta tb tc : DB nf} {ra : DAs nf} {rm : DM nf} {Q : D → EV nf → Prop} {QB : Bool → EV nf → Prop} {QA : List D → EV nf → Prop} {QM : List AD → EV nf → Prop} {QN : EV nf → Prop}
theorem ite_s {c : Bool} {A B : Prop} (h1 : c = true → A) (h2 : c = false → B) : if c = true then A else B := by
  cases c with
  | true => exact h1 rfl
  | false => exact h2 rfl
theorem iteT_s {c : Bool} {A B : Prop} (e : c = true) (h : A) : if c = true then A else B := by rw [if_pos e]; exact h
theorem iteF_s {c : Bool} {A B : Prop} (e : c = false) (h : B) : if c = true then A else B := by rw [if_neg (by rw [e]; exact Bool.false_ne_true)]; exact h
theorem sNext_s (h : De.nx env) : sNext De env := h
theorem sSeq_s (h : a { De with nx := b De } env) : sSeq a b De env := h
theorem sBrk_s (h : De.bk env) : sBrk De env := h
theorem sCnt_s (h : De.ct env) : sCnt De env := h
theorem sIf_s (h : tc env fun k env1 => if k = true then a De env1 else b De env1) : sIf tc a b De env := h
theorem sRet_s (h : da env De.rt) : sRet da De env := h
theorem sRetN_s (h : De.rt .non env) : sRetN De env := h
theorem sDrop_s (h : da env fun _ env1 => De.nx env1) : sDrop da De env := h
def SetK (i : Nat) (De : EndsD nf) : D → EV nf → Prop := fun d env1 => i < env1.length ∧ De.nx (env1.set i (.fz d))
theorem sSet_s (h : da env (SetK i De)) : sSet i da De env := h
theorem setK_s (hl : Nat.blt i env.length = true) (e : env.set i (.fz d) = env') (h : De.nx env') : SetK i De d env := ⟨Nat.blt_eq.mp hl, e ▸ h⟩
theorem sAsg_s {g : DG nf} (h : da env fun d env1 => g d env1 De.nx) : sAsg da g De env := h
theorem gN_s (hl : Nat.blt i env.length = true) (e : env.set i (.fz d) = env') (h : QN env') : gN i d env QN := ⟨Nat.blt_eq.mp hl, e ▸ h⟩
theorem gT_s {g : DGs nf} {ds : List D} (hn : ds.length = n) (h : g ds env QN) : gT n g (.tup ds) env QN := ⟨ds, rfl, hn, h⟩
theorem gsNil_s (h : QN env) : gsNil [] env QN := ⟨rfl, h⟩
theorem gsCons_s {g : DG nf} {r : DGs nf} {ds : List D} (h : g d env fun env1 => r ds env1 QN) : gsCons g r (d :: ds) env QN := ⟨d, ds, rfl, h⟩
theorem sSetL_s (h : ra env fun xs env1 => xs.length ≤ 1000000 ∧ i < env1.length ∧ ∀ p, De.nx (env1.set i (.ow (.ref p) (lstA K nf xs)))) : sSetL K i ra De env := h
theorem setL_s {xs : List D} {env' : Addr → EV nf} (hz : Nat.ble xs.length 1000000 = true) (hl : Nat.blt i env.length = true) (e : ∀ p, env.set i (.ow (.ref p) (lstA K nf xs)) = env' p) (h : ∀ p, De.nx (env' p)) : xs.length ≤ 1000000 ∧ i < env.length ∧ ∀ p, De.nx (env.set i (.ow (.ref p) (lstA K nf xs))) := ⟨Nat.le_of_ble_eq_true hz, Nat.blt_eq.mp hl, fun p => by rw [e p]; exact h p⟩
def AppK (K : PySem.W.Frag) (i : Nat) (De : EndsD nf) : D → EV nf → Prop := fun d env1 => ∃ v xs, env1[i]? = some (.ow v (lstA K nf xs)) ∧ xs.length < 1000000 ∧ De.nx (env1.set i (.ow v (lstA K nf (xs ++ [d]))))
theorem appW_s {v : V} {xs : List D} (e : env[i]? = some (.ow v (lstA K nf xs))) (h : da env (AppK K i De)) : (∃ v xs, env[i]? = some (SD.ow v (lstA K nf xs))) ∧ sApp K i da De env := ⟨⟨v, xs, e⟩, h⟩
theorem appK_s {v : V} {xs : List D} (e : env[i]? = some (.ow v (lstA K nf xs))) (hl : xs.length < 1000000) (e2 : env.set i (.ow v (lstA K nf (xs ++ [d]))) = env') (h : De.nx env') : AppK K i De d env := ⟨v, xs, e, hl, e2 ▸ h⟩
theorem dVarF_s {v : V} {xs : List D} (e : env[i]? = some (.ow v (lstA K nf xs))) (e2 : env.set i (.fz (.lst xs)) = env') (h : Q (.lst xs) env') : dVarF K i env Q := ⟨v, xs, e, e2 ▸ h⟩
theorem dVarFD_s {v : V} {xs : List (Key × D)} (e : env[i]? = some (.ow v (dctA K nf xs))) (e2 : env.set i (.fz (.dct xs)) = env') (h : Q (.dct xs) env') : dVarFD K i env Q := ⟨v, xs, e, e2 ▸ h⟩
theorem sSetD0_s {env' : Addr → EV nf} (hl : Nat.blt i env.length = true) (e : ∀ p, env.set i (.ow (.ref p) (dctA K nf [])) = env' p) (h : ∀ p, De.nx (env' p)) : sSetD0 K i De env := ⟨Nat.blt_eq.mp hl, fun p => by rw [e p]; exact h p⟩
theorem sSetDD_s (h : ra env fun ds env1 => ∃ kds, ds = [.dct kds] ∧ i < env1.length ∧ ∀ p, De.nx (env1.set i (.ow (.ref p) (dctA K nf kds)))) : sSetDD K i ra De env := h
theorem setDD_s {kds : List (Key × D)} {env' : Addr → EV nf} (hl : Nat.blt i env.length = true) (e : ∀ p, env.set i (.ow (.ref p) (dctA K nf kds)) = env' p) (h : ∀ p, De.nx (env' p)) : ∃ kds', [D.dct kds] = [.dct kds'] ∧ i < env.length ∧ ∀ p, De.nx (env.set i (.ow (.ref p) (dctA K nf kds'))) := ⟨kds, rfl, Nat.blt_eq.mp hl, fun p => by rw [e p]; exact h p⟩
def DPutK2 (K : PySem.W.Frag) (i : Nat) (d : D) (De : EndsD nf) : D → EV nf → Prop := fun y env2 => ∃ v kds k, env2[i]? = some (.ow v (dctA K nf kds)) ∧ keyOf y = some k ∧ kds.length < 1000000 ∧ De.nx (env2.set i (.ow v (dctA K nf (putD kds k d))))
def DPutK (K : PySem.W.Frag) (i : Nat) (db : DT nf) (De : EndsD nf) : D → EV nf → Prop := fun d env1 => (∃ v kds, env1[i]? = some (.ow v (dctA K nf kds))) ∧ db env1 (DPutK2 K i d De)
theorem sDPutV_s {dv : DT nf} (h : dv env (DPutK K i db De)) : sDPutV K i db dv De env := h
theorem dPutK_s {v : V} {kds : List (Key × D)} (e : env[i]? = some (.ow v (dctA K nf kds))) (h : db env (DPutK2 K i d De)) : DPutK K i db De d env := ⟨⟨v, kds, e⟩, h⟩
theorem dPutK2_s {v : V} {kds : List (Key × D)} {k : Key} (e : env[i]? = some (.ow v (dctA K nf kds))) (ek : keyOf y = some k) (hl : kds.length < 1000000) (e2 : env.set i (.ow v (dctA K nf (putD kds k d))) = env') (h : De.nx env') : DPutK2 K i d De y env := ⟨v, kds, k, e, ek, hl, e2 ▸ h⟩
theorem dVar_s (e : env[i]? = some (.fz d)) (h : Q d env) : dVar i env Q := ⟨d, e, h⟩
theorem dC_s (h : Q d env) : dC d env Q := h
def BvK (QB : Bool → EV nf → Prop) : D → EV nf → Prop := fun x env1 => ∃ b, x = .bl b ∧ QB b env1
theorem dBv_s (h : da env (BvK QB)) : dBv da env QB := h
theorem bvK_s {b : Bool} (h : QB b env) : BvK QB (.bl b) env := ⟨b, rfl, h⟩
theorem dNot_s (h : ta env fun c env1 => QB (!c) env1) : dNot ta env QB := h
theorem dAnd_s (h : ta env fun c env1 => if c = true then tb env1 QB else QB false env1) : dAnd ta tb env QB := h
theorem dOr_s (h : ta env fun c env1 => if c = true then QB true env1 else tb env1 QB) : dOr ta tb env QB := h
theorem dYes_s (h : QB true env) : dYes env QB := h
def AndVK (db : DT nf) (Q : D → EV nf → Prop) : D → EV nf → Prop := fun x env1 => ∃ c, x = .bl c ∧ if c = true then db env1 Q else Q (.bl false) env1
def OrVK (db : DT nf) (Q : D → EV nf → Prop) : D → EV nf → Prop := fun x env1 => ∃ c, x = .bl c ∧ if c = true then Q (.bl true) env1 else db env1 Q
def NotVK (Q : D → EV nf → Prop) : D → EV nf → Prop := fun x env1 => ∃ c, x = .bl c ∧ Q (.bl (!c)) env1
theorem dAndV_s (h : da env (AndVK db Q)) : dAndV da db env Q := h
theorem dOrV_s (h : da env (OrVK db Q)) : dOrV da db env Q := h
theorem dNotV_s (h : da env (NotVK Q)) : dNotV da env Q := h
theorem andVK_s {c : Bool} (h : if c = true then db env Q else Q (.bl false) env) : AndVK db Q (.bl c) env := ⟨c, rfl, h⟩
theorem orVK_s {c : Bool} (h : if c = true then Q (.bl true) env else db env Q) : OrVK db Q (.bl c) env := ⟨c, rfl, h⟩
theorem notVK_s {c : Bool} (h : Q (.bl (!c)) env) : NotVK Q (.bl c) env := ⟨c, rfl, h⟩
theorem dIf_s (h : tc env fun c env1 => if c = true then da env1 Q else db env1 Q) : dIf tc da db env Q := h
theorem dIsN_s (h : da env fun x env1 => Q (.bl (isNon x)) env1) : dIsN da env Q := h
theorem aNil_s (h : QA [] env) : aNil env QA := h
theorem aCons_s (h : da env fun x env1 => ra env1 fun xs env2 => QA (x :: xs) env2) : aCons da ra env QA := h
theorem dTup_s (h : ra env fun xs env1 => xs.length ≤ 1000000 ∧ Q (.tup xs) env1) : dTup ra env Q := h
theorem dLst_s (h : ra env fun xs env1 => xs.length ≤ 1000000 ∧ Q (.lst xs) env1) : dLst ra env Q := h
theorem lenQ_s {xs : List D} {A : Prop} (hl : Nat.ble xs.length 1000000 = true) (h : A) : xs.length ≤ 1000000 ∧ A := ⟨Nat.le_of_ble_eq_true hl, h⟩
theorem dD0_s (h : Q (.dct []) env) : dD0 env Q := h
def OpK (f : D → D → D → Prop) (Q : D → EV nf → Prop) (x y : D) : EV nf → Prop := fun env2 => ∃ z, f x y z ∧ Q z env2
theorem dOp_s {f : D → D → D → Prop} (h : da env fun x env1 => db env1 fun y env2 => OpK f Q x y env2) : dOp f da db env Q := h
theorem opK_s {f : D → D → D → Prop} (e : f x y z) (h : Q z env) : OpK f Q x y env := ⟨z, e, h⟩
theorem dAdd_s (h : dOp (fI0 fun i j => .int (i + j)) da db env Q) : dAdd da db env Q := h
theorem dSub_s (h : dOp (fI0 fun i j => .int (i - j)) da db env Q) : dSub da db env Q := h
theorem dMul_s (h : dOp (fI CMul fun i j => .int (i * j)) da db env Q) : dMul da db env Q := h
theorem dMod_s (h : dOp (fI (fun _ j => 0 < j) fun i j => .int (i % j)) da db env Q) : dMod da db env Q := h
theorem dDiv_s (h : dOp (fI CDivW fun i j => .int (i / j)) da db env Q) : dDiv da db env Q := h
theorem dPow_s (h : dOp (fI CPow fun i j => .int (i ^ j.toNat)) da db env Q) : dPow da db env Q := h
theorem dCmp_s {g : Int → Int → Bool} (h : dOp (fI0 fun i j => .bl (g i j)) da db env Q) : dCmp g da db env Q := h
theorem opI0_s {g : Int → Int → D} {i j : Int} (h : Q (g i j) env) : OpK (fI0 g) Q (.int i) (.int j) env := ⟨_, ⟨i, j, rfl, rfl, rfl⟩, h⟩
theorem opI_s {C : Int → Int → Prop} {g : Int → Int → D} {i j : Int} (c : C i j) (h : Q (g i j) env) : OpK (fI C g) Q (.int i) (.int j) env := ⟨_, ⟨i, j, rfl, rfl, c, rfl⟩, h⟩
theorem dEqG_s {neg : Bool} (h : dOp (eqQ neg) da db env Q) : dEqG neg da db env Q := h
theorem eqF_s {b : Bool} (e : eqS x y = some b) (h : Q (.bl b) env) : OpK (eqQ false) Q x y env := ⟨_, .inl ⟨b, e, rfl⟩, h⟩
theorem eqT_s {b : Bool} (e : eqS x y = some b) (h : Q (.bl (!b)) env) : OpK (eqQ true) Q x y env := ⟨_, .inl ⟨b, e, rfl⟩, h⟩
theorem eqDF_s {p q : PyData} (e1 : pyOf x = some p) (e2 : pyOf y = some q) (s1 : SeqAt.shaped p = true) (s2 : SeqAt.shaped q = true) (h : Q (.bl (PyData.eqv p q)) env) : OpK (eqQ false) Q x y env := ⟨_, .inr (.inl ⟨p, q, e1, e2, s1, s2, rfl⟩), h⟩
theorem eqDT_s {p q : PyData} (e1 : pyOf x = some p) (e2 : pyOf y = some q) (s1 : SeqAt.shaped p = true) (s2 : SeqAt.shaped q = true) (h : Q (.bl (!PyData.eqv p q)) env) : OpK (eqQ true) Q x y env := ⟨_, .inr (.inl ⟨p, q, e1, e2, s1, s2, rfl⟩), h⟩
def FK (g : D → D → Option D) (Q : D → EV nf → Prop) (x y : D) : EV nf → Prop := fun env2 => ∃ z, g x y = some z ∧ Q z env2
theorem dF_s {g : D → D → Option D} (h : da env fun x env1 => db env1 fun y env2 => FK g Q x y env2) : dF g da db env Q := h
theorem fK_s {g : D → D → Option D} (e : g x y = some z) (h : Q z env) : FK g Q x y env := ⟨z, e, h⟩
theorem addI_s {i j : Int} (h : Q (.int (i + j)) env) : FK addD Q (.int i) (.int j) env := ⟨_, rfl, h⟩
theorem addS_s {s t : Str} (hl : s.length + t.length ≤ 1000000) (h : Q (.str (s ++ t)) env) : FK addD Q (.str s) (.str t) env := ⟨_, if_pos hl, h⟩
theorem addL_s {s t : List D} (hl : s.length + t.length ≤ 1000000) (h : Q (.lst (s ++ t)) env) : FK addD Q (.lst s) (.lst t) env := ⟨_, if_pos hl, h⟩
theorem ixL_s {xs : List D} {k : Int} (e : atI xs k = some z) (h : Q z env) : FK ixD Q (.lst xs) (.int k) env := ⟨z, e, h⟩
theorem ixT_s {xs : List D} {k : Int} (e : atI xs k = some z) (h : Q z env) : FK ixD Q (.tup xs) (.int k) env := ⟨z, e, h⟩
theorem ixS_s {s : Str} {k : Int} {c : Nat} (hl : s.length ≤ 1000000) (e : atI s.cps.toList k = some c) (h : Q (.str ⟨#[c]⟩) env) : FK ixD Q (.str s) (.int k) env := ⟨_, by show (if s.length ≤ 1000000 then (atI s.cps.toList k).map _ else none) = _; rw [if_pos hl, e]; rfl, h⟩
theorem ixDct_s {kds : List (Key × D)} {k : Key} (ek : keyOf y = some k) (e : valD kds k = some z) (h : Q z env) : FK ixD Q (.dct kds) y env := ⟨z, by show (keyOf y).bind (valD kds) = _; rw [ek]; exact e, h⟩
theorem in_s {neg b : Bool} (e : inD x y = some b) (h : Q (.bl (if neg then !b else b)) env) : FK (inF neg) Q x y env := ⟨_, by unfold inF; rw [e]; rfl, h⟩
theorem inS_s {c : Nat} {s : Str} (h : Q (.bl (decide (c ∈ s.cps.toList))) env) : FK (inF false) Q (.str ⟨#[c]⟩) (.str s) env := ⟨_, rfl, h⟩
theorem ninL_s {xs : List D} {b : Bool} (e : inD x (.lst xs) = some b) (h : Q (.bl (!b)) env) : FK ninF Q x (.lst xs) env := ⟨_, by show (inD x (.lst xs)).map _ = _; rw [e]; rfl, h⟩
theorem ninT_s {xs : List D} {b : Bool} (e : inD x (.tup xs) = some b) (h : Q (.bl (!b)) env) : FK ninF Q x (.tup xs) env := ⟨_, by show (inD x (.tup xs)).map _ = _; rw [e]; rfl, h⟩
def ChK2 (g' : Int → Int → Bool) (j : Int) (Q : D → EV nf → Prop) : D → EV nf → Prop := fun z env3 => ∃ k, z = .int k ∧ Q (.bl (g' j k)) env3
def ChK (g g' : Int → Int → Bool) (dc : DT nf) (Q : D → EV nf → Prop) (x y : D) : EV nf → Prop := fun env2 => ∃ i j, x = .int i ∧ y = .int j ∧ if g i j = true then dc env2 (ChK2 g' j Q) else Q (.bl false) env2
theorem dChain_s {g g' : Int → Int → Bool} (h : da env fun x env1 => db env1 fun y env2 => ChK g g' dc Q x y env2) : dChain g g' da db dc env Q := h
theorem chK_s {g g' : Int → Int → Bool} {i j : Int} (h : if g i j = true then dc env (ChK2 g' j Q) else Q (.bl false) env) : ChK g g' dc Q (.int i) (.int j) env := ⟨i, j, rfl, rfl, h⟩
theorem chK2_s {g' : Int → Int → Bool} {j k : Int} (h : Q (.bl (g' j k)) env) : ChK2 g' j Q (.int k) env := ⟨k, rfl, h⟩
def CbK (f : List D → D → Prop) (Q : D → EV nf → Prop) : List D → EV nf → Prop := fun ds env1 => ∃ d, f ds d ∧ Q d env1
theorem dCB_s {f : List D → D → Prop} (h : ra env (CbK f Q)) : dCB f ra env Q := h
theorem cbK_s {f : List D → D → Prop} {ds : List D} (e : f ds d) (h : Q d env) : CbK f Q ds env := ⟨d, e, h⟩
theorem cbInt_s {i : Int} (h : Q (.int i) env) : CbK fInt Q [.int i] env := ⟨_, .inl ⟨i, rfl, rfl⟩, h⟩
theorem cbIntB_s {b : Bool} (h : Q (.int (if b then 1 else 0)) env) : CbK fInt Q [.bl b] env := ⟨_, .inr ⟨b, rfl, rfl⟩, h⟩
theorem cbAbs_s {i : Int} (h : Q (.int (if i < 0 then -i else i)) env) : CbK fAbs Q [.int i] env := ⟨_, ⟨i, rfl, rfl⟩, h⟩
theorem cbLenL_s {xs : List D} (h : Q (.int xs.length) env) : CbK fLenG Q [.lst xs] env := ⟨_, ⟨_, _, rfl, rfl, rfl⟩, h⟩
theorem cbLenT_s {xs : List D} (h : Q (.int xs.length) env) : CbK fLenG Q [.tup xs] env := ⟨_, ⟨_, _, rfl, rfl, rfl⟩, h⟩
theorem cbLenD_s {xs : List (Key × D)} (h : Q (.int xs.length) env) : CbK fLenG Q [.dct xs] env := ⟨_, ⟨_, _, rfl, rfl, rfl⟩, h⟩
theorem cbLenS_s {s : Str} (hl : s.length ≤ 1000000) (h : Q (.int s.length) env) : CbK fLenG Q [.str s] env := ⟨_, ⟨_, _, rfl, if_pos hl, rfl⟩, h⟩
theorem cbList_s {xs : List D} (h : Q (.lst xs) env) : CbK fList Q [.lst xs] env := ⟨_, ⟨xs, .inl rfl, rfl⟩, h⟩
theorem cbListT_s {xs : List D} (h : Q (.lst xs) env) : CbK fList Q [.tup xs] env := ⟨_, ⟨xs, .inr rfl, rfl⟩, h⟩
theorem cbTuple_s {xs : List D} (h : Q (.tup xs) env) : CbK fTuple Q [.lst xs] env := ⟨_, ⟨xs, .inl rfl, rfl⟩, h⟩
theorem cbTupleT_s {xs : List D} (h : Q (.tup xs) env) : CbK fTuple Q [.tup xs] env := ⟨_, ⟨xs, .inr rfl, rfl⟩, h⟩
theorem cbDict_s {kds : List (Key × D)} (h : Q (.dct kds) env) : CbK fDict Q [.dct kds] env := ⟨_, ⟨kds, rfl, rfl⟩, h⟩
theorem cbListD_s {kds : List (Key × D)} (h : Q (.lst (kds.map fun kd => kD kd.1)) env) : CbK fListD Q [.dct kds] env := ⟨_, ⟨kds, rfl, rfl⟩, h⟩
theorem cbStrI_s {k : Int} (hl : k.natAbs.log2 < 1920) (h : Q (.str (toString k)) env) : CbK fStrI Q [.int k] env := ⟨_, ⟨k, rfl, hl, rfl⟩, h⟩
theorem isiStr_s {s : Str} {T : String} {b : Bool} (e : kitB "str" T = some b) (h : Q (.bl b) env) : CbK (fIsi K) Q [.str s, .ty T] env := ⟨_, isi_str.mpr ⟨b, e, rfl⟩, h⟩
theorem isiInt_s {s : Int} {T : String} {b : Bool} (e : kitB "int" T = some b) (h : Q (.bl b) env) : CbK (fIsi K) Q [.int s, .ty T] env := ⟨_, isi_int.mpr ⟨b, e, rfl⟩, h⟩
theorem isiDct_s {s : List (Key × D)} {T : String} {b : Bool} (e : kitB "dict" T = some b) (h : Q (.bl b) env) : CbK (fIsi K) Q [.dct s, .ty T] env := ⟨_, isi_dct.mpr ⟨b, e, rfl⟩, h⟩
theorem dSortS_s (h : ra env fun ds env1 => ∃ ss : List Str, ds = [.lst (ss.map .str)] ∧ ss.length < 64 ∧ ∀ ys : List Str, ys.Perm ss → PyProof.Rows.sortedS ys = true → Q (.lst (ys.map .str)) env1) : dSortS ra env Q := h
def ItemsK (Q : D → EV nf → Prop) : D → EV nf → Prop := fun x env1 => ∃ kds, x = .dct kds ∧ Q (.lst (kds.map fun p => .tup [kD p.1, p.2])) env1
theorem dItems_s (h : da env (ItemsK Q)) : dItems da env Q := h
theorem itemsK_s {kds : List (Key × D)} (h : Q (.lst (kds.map fun p => .tup [kD p.1, p.2])) env) : ItemsK Q (.dct kds) env := ⟨kds, rfl, h⟩
def DS2K2 (k1 : List (Key × D)) (Q : D → EV nf → Prop) : D → EV nf → Prop := fun y env2 => ∃ k2, y = .dct k2 ∧ k1.length + k2.length ≤ 1000000 ∧ Q (.dct (mergeD (mergeD [] k1) k2)) env2
def DS2K (db : DT nf) (Q : D → EV nf → Prop) : D → EV nf → Prop := fun x env1 => ∃ k1, x = .dct k1 ∧ db env1 (DS2K2 k1 Q)
theorem dDS2_s (h : da env (DS2K db Q)) : dDS2 da db env Q := h
theorem dS2K_s {k1 : List (Key × D)} (h : db env (DS2K2 k1 Q)) : DS2K db Q (.dct k1) env := ⟨k1, rfl, h⟩
def SplK2 (s : Str) (Q : D → EV nf → Prop) : D → EV nf → Prop := fun y env2 => ∃ b, y = .str b ∧ (b.length == 0) = false ∧ s.length + 2 ≤ 1000000 ∧ Q (.lst ((Txt.split s b).map .str)) env2
def SplK (db : DT nf) (Q : D → EV nf → Prop) : D → EV nf → Prop := fun x env1 => ∃ a, x = .str a ∧ db env1 (SplK2 a Q)
theorem dSplit_s (h : da env (SplK db Q)) : dSplit da db env Q := h
theorem splK_s {s : Str} (h : db env (SplK2 s Q)) : SplK db Q (.str s) env := ⟨s, rfl, h⟩
theorem splK2_s {s b : Str} (h1 : (b.length == 0) = false) (h2 : s.length + 2 ≤ 1000000) (h : Q (.lst ((Txt.split s b).map .str)) env) : SplK2 s Q (.str b) env := ⟨b, rfl, h1, h2, h⟩
def JoinK2 (s : Str) (Q : D → EV nf → Prop) : D → EV nf → Prop := fun y env2 => ∃ ys : List Str, (y = .lst (ys.map .str) ∨ y = .tup (ys.map .str)) ∧ (ys.map (·.length)).sum + ys.length * s.length ≤ 1000000 ∧ Q (.str (Txt.join s ys)) env2
def JoinK (db : DT nf) (Q : D → EV nf → Prop) : D → EV nf → Prop := fun x env1 => ∃ a, x = .str a ∧ db env1 (JoinK2 a Q)
theorem dJoin_s (h : da env (JoinK db Q)) : dJoin da db env Q := h
theorem joinK_s {s : Str} (h : db env (JoinK2 s Q)) : JoinK db Q (.str s) env := ⟨s, rfl, h⟩
def OK' (Q : Option Int → EV nf → Prop) : D → EV nf → Prop := fun x env1 => ∃ i, x = .int i ∧ Q (some i) env1
theorem oNone_s {Q : Option Int → EV nf → Prop} (h : Q none env) : oNone env Q := h
theorem oSome_s {Q : Option Int → EV nf → Prop} (h : da env (OK' Q)) : oSome da env Q := h
theorem ok'_s {Q : Option Int → EV nf → Prop} {i : Int} (h : Q (some i) env) : OK' Q (.int i) env := ⟨i, rfl, h⟩
def SlSK (x : D) (l u : Option Int) (Q : D → EV nf → Prop) : EV nf → Prop := fun env3 => ∃ z, x = .str z ∧ z.length ≤ 1000000 ∧ Q (.str (cutS z l u)) env3
theorem dSlS_s {lo hi : DO nf} (h : da env fun x env1 => lo env1 fun l env2 => hi env2 fun u env3 => SlSK x l u Q env3) : dSlS da lo hi env Q := h
theorem slSK_s {s : Str} {l u : Option Int} (hl : s.length ≤ 1000000) (h : Q (.str (cutS s l u)) env) : SlSK (.str s) l u Q env := ⟨s, rfl, hl, h⟩
def SlLK (x : D) (l u : Option Int) (Q : D → EV nf → Prop) : EV nf → Prop := fun env3 => ∃ xs, x = .lst xs ∧ Q (.lst ((xs.drop (HT.sIx xs.length 0 l)).take (HT.sIx xs.length xs.length u - HT.sIx xs.length 0 l))) env3
theorem dSlL_s {lo hi : DO nf} (h : da env fun x env1 => lo env1 fun l env2 => hi env2 fun u env3 => SlLK x l u Q env3) : dSlL da lo hi env Q := h
theorem slLK_s {xs : List D} {l u : Option Int} (h : Q (.lst ((xs.drop (HT.sIx xs.length 0 l)).take (HT.sIx xs.length xs.length u - HT.sIx xs.length 0 l))) env) : SlLK (.lst xs) l u Q env := ⟨xs, rfl, h⟩
def FldK (C : Addr) (m : Str) (Q : D → EV nf → Prop) : D → EV nf → Prop := fun ob env1 => ∃ fds d, ob = .obj C fds ∧ fds.lookup m = some d ∧ Q d env1
theorem dFld_s {C : Addr} {m : Str} (h : da env (FldK C m Q)) : dFld C m da env Q := h
theorem fldK_s {C : Addr} {m : Str} {fds : List (Str × D)} (e : fds.lookup m = some d) (h : Q d env) : FldK C m Q (.obj C fds) env := ⟨fds, d, rfl, e, h⟩
theorem mNil_s (h : QM [] env) : mNil env QM := h
theorem mVal_s (h : da env fun d env1 => rm env1 fun ads env2 => QM (.v d :: ads) env2) : mVal da rm env QM := h
theorem mSlot_s {s : SD nf} (e : env[i]? = some s) (hs : isSet s) (h : rm env fun ads env2 => QM (.o i :: ads) env2) : mSlot i rm env QM := ⟨⟨s, e, hs⟩, h⟩
def ndB : List Nat → Bool
  | [] => true
  | x :: xs => !(xs.elem x) && ndB xs
theorem nd_of : ∀ {l : List Nat}, ndB l = true → l.Nodup
  | [], _ => List.nodup_nil
  | x :: xs, h => by
    simp only [ndB, Bool.and_eq_true, Bool.not_eq_true', List.elem_eq_mem, decide_eq_false_iff_not] at h
    exact List.nodup_cons.mpr ⟨h.1, nd_of h.2⟩
def PutK (env : EV nf) (ads : List AD) (Q : D → EV nf → Prop) : D → List (SD nf) → Prop := fun d as' => Q d (putBack env ads as')
theorem putK_s {ads : List AD} {as' : List (SD nf)} (e : putBack env ads as' = env') (h : Q d env') : PutK env ads Q d as' := by show Q d (putBack env ads as'); rw [e]; exact h
def CallK (n : Nat) (S : SpD nf) (dds : List D) (Q : D → EV nf → Prop) : List AD → EV nf → Prop := fun ads env1 => ads.length + dds.length = n ∧ (slotsOf (ads ++ dds.map AD.v)).Nodup ∧ (∀ i ∈ slotsOf (ads ++ dds.map AD.v), i < env1.length) ∧
  S ((ads ++ dds.map AD.v).map (resolve env1)) fun d as' => Q d (putBack env1 (ads ++ dds.map AD.v) as')
theorem dCall_s {S : SpD nf} {dds : List D} (h : rm env (CallK n S dds Q)) : dCall n S dds rm env Q := h
theorem ofAll {l : List Nat} {n : Nat} (h : l.all (fun i => Nat.blt i n) = true) : ∀ i ∈ l, i < n := fun i m => Nat.blt_eq.mp (List.all_eq_true.mp h i m)
theorem callK_s {S : SpD nf} {dds : List D} {ads ads' : List AD} {as : List (SD nf)} (h1 : ads.length + dds.length = n) (e1 : ads ++ dds.map AD.v = ads') (h2 : ndB (slotsOf ads') = true) (h3 : (slotsOf ads').all (fun i => Nat.blt i env.length) = true)
    (e2 : ads'.map (resolve env) = as) (h : S as (PutK env ads' Q)) : CallK n S dds Q ads env := by subst e1; subst e2; exact ⟨h1, nd_of h2, ofAll h3, h⟩
def MethK2 (n : Nat) (S : SpD nf) (dds : List D) (ob : D) (Q : D → EV nf → Prop) : List AD → EV nf → Prop := fun ads env1 => ads.length + dds.length + 1 = n ∧ (slotsOf (ads ++ dds.map AD.v)).Nodup ∧ (∀ i ∈ slotsOf (ads ++ dds.map AD.v), i < env1.length) ∧
  S ((AD.v ob :: (ads ++ dds.map AD.v)).map (resolve env1)) fun d as' => Q d (putBack env1 (AD.v ob :: (ads ++ dds.map AD.v)) as')
def MethK (n : Nat) (C : Addr) (m : Str) (S : SpD nf) (dds : List D) (r : DM nf) (Q : D → EV nf → Prop) : D → EV nf → Prop := fun ob env0 => ∃ fds, ob = .obj C fds ∧ fds.lookup m = none ∧ r env0 (MethK2 n S dds ob Q)
theorem dMeth_s {C : Addr} {m : Str} {S : SpD nf} {dds : List D} (h : da env (MethK n C m S dds rm Q)) : dMeth n C m S dds da rm env Q := h
theorem methK_s {C : Addr} {m : Str} {S : SpD nf} {dds : List D} {fds : List (Str × D)} (e : fds.lookup m = none) (h : rm env (MethK2 n S dds (.obj C fds) Q)) : MethK n C m S dds rm Q (.obj C fds) env := ⟨fds, rfl, e, h⟩
theorem methK2_s {S : SpD nf} {dds : List D} {ads ads' : List AD} {ob : D} {as : List (SD nf)} (h1 : ads.length + dds.length + 1 = n) (e1 : ads ++ dds.map AD.v = ads') (h2 : ndB (slotsOf ads') = true) (h3 : (slotsOf ads').all (fun i => Nat.blt i env.length) = true)
    (e2 : (AD.v ob :: ads').map (resolve env) = as) (h : S as (PutK env (AD.v ob :: ads') Q)) : MethK2 n S dds ob Q ads env := by subst e1; subst e2; exact ⟨h1, nd_of h2, ofAll h3, h⟩
def MkK (y : Addr) (C : Addr) (env : EV nf) (ads : List AD) (Q : D → EV nf → Prop) : D → List (SD nf) → Prop := fun d as' => d = .non ∧ ∃ fds rest, as' = .fr (.ref y) (.obj C fds) :: rest ∧ Q (.obj C fds) (putBack env ads rest)
def MakeK (K : PySem.W.Frag) (n : Nat) (C : Addr) (S : SpD nf) (dds : List D) (Q : D → EV nf → Prop) : List AD → EV nf → Prop := fun ads env1 => ads.length + dds.length + 1 = n ∧ 0 < nf C ∧ (slotsOf (ads ++ dds.map AD.v)).Nodup ∧ (∀ i ∈ slotsOf (ads ++ dds.map AD.v), i < env1.length) ∧
  ∀ y, S (.ow (.ref y) (insA K nf C []) :: (ads ++ dds.map AD.v).map (resolve env1)) (MkK y C env1 (ads ++ dds.map AD.v) Q)
theorem dMake_s {C : Addr} {S : SpD nf} {dds : List D} (h : rm env (MakeK K n C S dds Q)) : dMake K n C S dds rm env Q := h
theorem makeK_s {C : Addr} {S : SpD nf} {dds : List D} {ads ads' : List AD} {as : List (SD nf)} (h1 : ads.length + dds.length + 1 = n) (e1 : ads ++ dds.map AD.v = ads') (h0 : 0 < nf C) (h2 : ndB (slotsOf ads') = true) (h3 : (slotsOf ads').all (fun i => Nat.blt i env.length) = true)
    (e2 : ads'.map (resolve env) = as) (h : ∀ y, S (.ow (.ref y) (insA K nf C []) :: as) (MkK y C env ads' Q)) : MakeK K n C S dds Q ads env := by subst e1; subst e2; exact ⟨h1, h0, nd_of h2, ofAll h3, h⟩
theorem mkK_s {C y : Addr} {ads : List AD} {fds : List (Str × D)} {rest : List (SD nf)} (e : putBack env ads rest = env') (h : Q (.obj C fds) env') : MkK y C env ads Q .non (.fr (.ref y) (.obj C fds) :: rest) := ⟨rfl, fds, rest, rfl, by rw [e]; exact h⟩
def OwnK (rev : Bool) (P : D → D → Prop) (S : SpD nf) (Q : D → EV nf → Prop) (x y : D) : EV nf → Prop := fun env2 => P x y ∧ S (if rev then [.fz y, .fz x] else [.fz x, .fz y]) fun d _ => Q d env2
theorem dOwnOp_s {rev : Bool} {P : D → D → Prop} {S : SpD nf} (h : da env fun x env1 => db env1 fun y env2 => OwnK rev P S Q x y env2) : dOwnOp rev P S da db env Q := h
theorem dStI_s {v : V} {gr : List Int} {x n sd z : Int} {j : Int} (e : env[i]? = some (.ow v (stA nf gr x n sd))) (ez : stF x n sd j = some z) (h : Q (.int z) env) : dStI i j env Q := ⟨v, gr, x, n, sd, z, e, ez, h⟩
theorem dStN_s {v : V} {gr : List Int} {x n sd : Int} (e : env[i]? = some (.ow v (stA nf gr x n sd))) (h : QB (!gr.isEmpty) env) : dStN i env QB := ⟨v, gr, x, n, sd, e, h⟩
def StSK (i : Nat) (j : Int) (De : EndsD nf) : D → EV nf → Prop := fun d env1 => ∃ z v gr x n sd, d = .int z ∧ env1[i]? = some (.ow v (stA nf gr x n sd)) ∧ 1 ≤ j ∧ j ≤ 3 ∧ De.nx (env1.set i (.ow v (stP gr x n sd j z)))
theorem sStS_s {j : Int} (h : da env (StSK i j De)) : sStS i j da De env := h
theorem stSK_s {v : V} {gr : List Int} {x n sd z j : Int} {A : OA nf} (e : env[i]? = some (.ow v (stA nf gr x n sd))) (h1 : decide (1 ≤ j ∧ j ≤ 3) = true) (ea : stP gr x n sd j z = A) (e2 : env.set i (.ow v A) = env') (h : De.nx env') : StSK i j De (.int z) env :=
  ⟨z, v, gr, x, n, sd, rfl, e, (of_decide_eq_true h1).1, (of_decide_eq_true h1).2, by rw [ea, e2]; exact h⟩
def StGK (i : Nat) (j : Int) (v : V) (y : Int) (De : EndsD nf) : D → EV nf → Prop := fun d env1 => ∃ z gr1 x1 n1 sd1, d = .int z ∧ env1[i]? = some (.ow v (stA nf gr1 x1 n1 sd1)) ∧ De.nx (env1.set i (.ow v (stP gr1 x1 n1 sd1 j (y + z))))
theorem sStG_s {v : V} {gr : List Int} {x n sd y j : Int} (e : env[i]? = some (.ow v (stA nf gr x n sd))) (ey : stF x n sd j = some y) (h1 : decide (1 ≤ j ∧ j ≤ 3) = true) (h : da env (StGK i j v y De)) : sStG i j da De env := ⟨v, gr, x, n, sd, y, e, ey, (of_decide_eq_true h1).1, (of_decide_eq_true h1).2, h⟩
theorem stGK_s {v : V} {gr : List Int} {x n sd y z j : Int} {A : OA nf} (e : env[i]? = some (.ow v (stA nf gr x n sd))) (ea : stP gr x n sd j (y + z) = A) (e2 : env.set i (.ow v A) = env') (h : De.nx env') : StGK i j v y De (.int z) env := ⟨z, gr, x, n, sd, rfl, e, by rw [ea, e2]; exact h⟩
theorem sStPop_s {v : V} {y : Int} {gr : List Int} {x n sd : Int} (e : env[i]? = some (.ow v (stA nf (y :: gr) x n sd))) (e2 : env.set i (.ow v (stA nf gr y n sd)) = env') (h : De.nx env') : sStPop i De env := ⟨v, y, gr, x, n, sd, e, by rw [e2]; exact h⟩
def RetStK (K : PySem.W.Frag) (i : Nat) (v : V) (gr : List Int) (De : EndsD nf) : List D → EV nf → Prop := fun xs env1 => ∃ x n sd, xs = [.int x, .int n, .int sd] ∧ env1[i]? = some (.ow v (lstA K nf (gr.map .int))) ∧ ∀ p, De.ro (.ref p) (stA nf gr x n sd) (env1.set i .un)
theorem sRetSt_s {v : V} {gr : List Int} (e : env[i]? = some (.ow v (lstA K nf (gr.map .int)))) (h : ra env (RetStK K i v gr De)) : sRetSt K i ra De env := ⟨v, gr, e, h⟩
theorem retStK_s {v : V} {gr : List Int} {x n sd : Int} (e : env[i]? = some (.ow v (lstA K nf (gr.map .int)))) (e2 : env.set i .un = env') (h : ∀ p, De.ro (.ref p) (stA nf gr x n sd) env') : RetStK K i v gr De [.int x, .int n, .int sd] env := ⟨x, n, sd, rfl, e, by rw [e2]; exact h⟩
theorem stP1 {gr : List Int} {x n sd z : Int} : stP gr x n sd 1 z = stA nf gr z n sd := rfl
theorem stP2 {gr : List Int} {x n sd z : Int} : stP gr x n sd 2 z = stA nf gr x z sd := rfl
theorem stP3 {gr : List Int} {x n sd z : Int} : stP gr x n sd 3 z = stA nf gr x n z := rfl
def CallOK (n : Nat) (S : SpO nf) (dds : List D) (i : Nat) (De : EndsD nf) : List AD → EV nf → Prop := fun ads env1 => ads.length + dds.length = n ∧ (slotsOf (ads ++ dds.map AD.v)).Nodup ∧ (∀ i ∈ slotsOf (ads ++ dds.map AD.v), i < env1.length) ∧ i < env1.length ∧
  S ((ads ++ dds.map AD.v).map (resolve env1)) fun s as' => De.nx ((putBack env1 (ads ++ dds.map AD.v) as').set i s)
theorem sCallO_s {S : SpO nf} {dds : List D} (h : rm env (CallOK n S dds i De)) : sCallO n S dds rm i De env := h
def PutOK (env : EV nf) (ads : List AD) (i : Nat) (De : EndsD nf) : SD nf → List (SD nf) → Prop := fun s as' => De.nx ((putBack env ads as').set i s)
theorem putOK_s {ads : List AD} {s : SD nf} {as' : List (SD nf)} (e : (putBack env ads as').set i s = env') (h : De.nx env') : PutOK env ads i De s as' := by show De.nx ((putBack env ads as').set i s); rw [e]; exact h
theorem callOK_s {S : SpO nf} {dds : List D} {ads ads' : List AD} {as : List (SD nf)} (h1 : ads.length + dds.length = n) (e1 : ads ++ dds.map AD.v = ads') (h2 : ndB (slotsOf ads') = true) (h3 : (slotsOf ads').all (fun i => Nat.blt i env.length) = true) (h4 : Nat.blt i env.length = true)
    (e2 : ads'.map (resolve env) = as) (h : S as (PutOK env ads' i De)) : CallOK n S dds i De ads env := by subst e1; subst e2; exact ⟨h1, nd_of h2, ofAll h3, Nat.blt_eq.mp h4, h⟩
def FldSK (K : PySem.W.Frag) (C : Addr) (i : Nat) (m : Str) (De : EndsD nf) : D → EV nf → Prop := fun d env1 => ∃ v fds, env1[i]? = some (.ow v (insA K nf C fds)) ∧ fds.lookup m = none ∧ fds.length < 999 ∧
  (fds.length + 1 < nf C → De.nx (env1.set i (.ow v (insA K nf C (fds ++ [(m, d)]))))) ∧ (fds.length + 1 = nf C → De.nx (env1.set i (.fr v (.obj C (fds ++ [(m, d)])))))
theorem sFldS_s {C : Addr} {m : Str} (h : da env (FldSK K C i m De)) : sFldS K C i m da De env := h
theorem sFor_s {g : DG nf} (h : ra env fun ds env1 => dFor g b ds De env1) : sFor ra g b De env := h
theorem forNil_s {g : DG nf} (h : De.nx env) : dFor g b [] De env := h
theorem forCons_s {g : DG nf} {ds : List D} (h : g d env fun env1 => b { De with nx := dFor g b ds De, ct := dFor g b ds De, bk := De.nx } env1) : dFor g b (d :: ds) De env := h
def IlK (QA : List D → EV nf → Prop) : D → EV nf → Prop := fun d env1 => ∃ xs, lsOf d = some xs ∧ QA xs env1
theorem iL_s (h : da env (IlK QA)) : iL da env QA := h
theorem ilK_s {xs : List D} (h : QA xs env) : IlK QA (.lst xs) env := ⟨xs, rfl, h⟩
theorem ilS_s {ns : List Int} (h : QA (ns.map .int) env) : IlK QA (.scr ns) env := ⟨_, rfl, h⟩
def ItK (QA : List D → EV nf → Prop) : D → EV nf → Prop := fun d env1 => ∃ xs, d = .tup xs ∧ QA xs env1
theorem iT_s (h : da env (ItK QA)) : iT da env QA := h
theorem itK_s {xs : List D} (h : QA xs env) : ItK QA (.tup xs) env := ⟨xs, rfl, h⟩
def IsK (QA : List D → EV nf → Prop) : D → EV nf → Prop := fun d env1 => ∃ z, d = .str z ∧ QA (signsD z) env1
theorem iS_s (h : da env (IsK QA)) : iS da env QA := h
theorem isK_s {s : Str} (h : QA (signsD s) env) : IsK QA (.str s) env := ⟨s, rfl, h⟩
def IkK (QA : List D → EV nf → Prop) : D → EV nf → Prop := fun d env1 => ∃ kds, d = .dct kds ∧ QA (kds.map fun p => kD p.1) env1
theorem iK_s (h : da env (IkK QA)) : iK da env QA := h
theorem ikK_s {kds : List (Key × D)} (h : QA (kds.map fun p => kD p.1) env) : IkK QA (.dct kds) env := ⟨kds, rfl, h⟩
def IkvK (QA : List D → EV nf → Prop) : D → EV nf → Prop := fun d env1 => ∃ kds, d = .dct kds ∧ QA (kds.map fun p => .tup [kD p.1, p.2]) env1
theorem iKV_s (h : da env (IkvK QA)) : iKV da env QA := h
theorem ikvK_s {kds : List (Key × D)} (h : QA (kds.map fun p => .tup [kD p.1, p.2]) env) : IkvK QA (.dct kds) env := ⟨kds, rfl, h⟩
def Ir1K (QA : List D → EV nf → Prop) : List D → EV nf → Prop := fun ds env1 => ∃ n : Int, ds = [.int n] ∧ (-(2 ^ 62) ≤ n ∧ n < 2 ^ 62) ∧ QA (rangeD 0 n.toNat) env1
theorem iR1_s (h : ra env (Ir1K QA)) : iR1 ra env QA := h
theorem ir1K_s {n : Int} (hb : -(2 ^ 62) ≤ n ∧ n < 2 ^ 62) (h : QA (rangeD 0 n.toNat) env) : Ir1K QA [.int n] env := ⟨n, rfl, hb, h⟩
def Ir2K (QA : List D → EV nf → Prop) : List D → EV nf → Prop := fun ds env1 => ∃ a n : Int, ds = [.int a, .int n] ∧ (-(2 ^ 62) ≤ a ∧ a < 2 ^ 62 ∧ -(2 ^ 62) ≤ n ∧ n < 2 ^ 62) ∧ QA (rangeD a (n - a).toNat) env1
theorem iR2_s (h : ra env (Ir2K QA)) : iR2 ra env QA := h
theorem ir2K_s {a n : Int} (hb : -(2 ^ 62) ≤ a ∧ a < 2 ^ 62 ∧ -(2 ^ 62) ≤ n ∧ n < 2 ^ 62) (h : QA (rangeD a (n - a).toNat) env) : Ir2K QA [.int a, .int n] env := ⟨a, n, rfl, hb, h⟩
def LcK (g : DG nf) (ta : DB nf) (da : DT nf) (js : List Nat) (Q : D → EV nf → Prop) : List D → EV nf → Prop := fun ds env1 => dComp g ta da js ds [] (wipeD env1 js) fun acc env2 => Q (.lst acc) env2
def DcK (g : DG nf) (ta : DB nf) (da db : DT nf) (js : List Nat) (Q : D → EV nf → Prop) : List D → EV nf → Prop := fun ds env1 => dCompD g ta da db js ds [] (wipeD env1 js) fun acc env2 => Q (.dct acc) env2
theorem dLc_s {g : DG nf} {js : List Nat} (h : ra env (LcK g ta da js Q)) : dLc ra g ta da js env Q := h
theorem dDc_s {g : DG nf} {js : List Nat} (h : ra env (DcK g ta da db js Q)) : dDc ra g ta da db js env Q := h
theorem lcK_s {g : DG nf} {js : List Nat} {ds : List D} (e : wipeD env js = env') (h : dComp g ta da js ds [] env' fun acc env2 => Q (.lst acc) env2) : LcK g ta da js Q ds env := by subst e; exact h
theorem dcK_s {g : DG nf} {js : List Nat} {ds : List D} (e : wipeD env js = env') (h : dCompD g ta da db js ds [] env' fun acc env2 => Q (.dct acc) env2) : DcK g ta da db js Q ds env := by subst e; exact h
/-- a comprehension without a test whose element changes nothing -/
theorem lc_map {j : Nat} {de : DT nf} {Q : List D → EV nf → Prop} {env : EV nf} (f : D → D) (hj : env[j]? = some .un) {ds : List D}
    (he : ∀ x ∈ ds, ∀ R : D → EV nf → Prop, R (f x) (env.set j (.fz x)) → de (env.set j (.fz x)) R) (hl : ds.length ≤ 1000000) (q : Q (ds.map f) env) : dComp (gN j) dYes de [j] ds [] env Q :=
  lc_pure (fun _ => true) f hj (fun x _ R r => r) (fun x m _ R r => he x m R r) (by simpa using hl) (by rw [List.nil_append, List.filter_eq_self.mpr (fun _ _ => rfl)]; exact q)
theorem mem_signs {s : Str} {x : D} (h : x ∈ signsD s) : ∃ c ∈ s.cps.toList, x = .str ⟨#[c]⟩ := by
  simp only [signsD, List.mem_map] at h
  obtain ⟨c, hc, e⟩ := h
  exact ⟨c, hc, e.symm⟩
theorem signs_len {s : Str} : (signsD s).length = s.length := by simp [signsD, Str.length]
def InVK (K : PySem.W.Frag) (neg : Bool) (i : Nat) (Q : D → EV nf → Prop) : D → EV nf → Prop := fun x env1 => ∃ xs v us, lsAt K env1 i xs ∧ flatD x = some v ∧ flatDs xs = some us ∧ Q (.bl (if neg then !inV v us else inV v us)) env1
theorem dInV_s {neg : Bool} (h : da env (InVK K neg i Q)) : dInV K neg da i env Q := h
theorem atI_of {α : Type} {xs : List α} {k : Int} (h0 : 0 ≤ k) (h : k < xs.length) : atI xs k = xs[k.toNat]? := by
  unfold atI ixN
  rw [if_pos h0, if_pos h]
  rfl
theorem atI_ex {α : Type} {xs : List α} {k : Int} (h0 : 0 ≤ k) (h : k < xs.length) : ∃ z ∈ xs, atI xs k = some z ∧ xs[k.toNat]? = some z := by
  have hk : k.toNat < xs.length := by omega
  exact ⟨xs[k.toNat], List.getElem_mem hk, by rw [atI_of h0 h]; exact List.getElem?_eq_getElem hk, List.getElem?_eq_getElem hk⟩
theorem atI_zero {α : Type} {x : α} {xs : List α} : atI (x :: xs) 0 = some x := by rw [atI_of (by omega) (by simp)]; rfl
theorem bo_nil : BackOk ([] : List (SD nf)) env := by cases env <;> trivial
theorem bo_fz {s : SD nf} {as : List (SD nf)} (h : BackOk as env) : BackOk (.fz d :: as) (s :: env) := h
theorem bo_un {s : SD nf} {as : List (SD nf)} (h : BackOk as env) : BackOk (.un :: as) (s :: env) := h
theorem bo_ow {v : V} {A A' : OA nf} {as : List (SD nf)} (h : BackOk as env) : BackOk (.ow v A :: as) (.ow v A' :: env) := ⟨.inl ⟨_, rfl⟩, h⟩
theorem bo_fr {v : V} {A : OA nf} {as : List (SD nf)} (h : BackOk as env) : BackOk (.ow v A :: as) (.fr v d :: env) := ⟨.inr ⟨_, rfl⟩, h⟩
theorem back_nil : back ([] : List (SD nf)) env = [] := by cases env <;> rfl
theorem back_fz {s : SD nf} {as : List (SD nf)} : back (.fz d :: as) (s :: env) = .fz d :: back as env := rfl
theorem back_un {s : SD nf} {as : List (SD nf)} : back (.un :: as) (s :: env) = .un :: back as env := rfl
theorem back_ow {s : SD nf} {v : V} {A : OA nf} {as : List (SD nf)} : back (.ow v A :: as) (s :: env) = s :: back as env := rfl
theorem pb_nil {as : List (SD nf)} : putBack env [] as = env := by cases as <;> rfl
theorem pb_v {s : SD nf} {r : List AD} {as : List (SD nf)} : putBack env (.v d :: r) (s :: as) = putBack env r as := rfl
theorem pb_o {s : SD nf} {r : List AD} {as : List (SD nf)} : putBack env (.o i :: r) (s :: as) = putBack (env.set i s) r as := rfl
theorem rs_v : resolve env (.v d) = .fz d := rfl
theorem rs_o : resolve env (.o i) = (env[i]?).getD .un := rfl
theorem wp_nil : wipeD env [] = env := rfl
theorem wp_cons {js : List Nat} : wipeD env (j :: js) = (wipeD env js).set j .un := rfl
theorem fnRt_s {as as' : List (SD nf)} {Qd : D → List (SD nf) → Prop} (hb : BackOk as env) (e : back as env = as') (h : Qd d as') : (fnEnds as Qd).rt d env := ⟨hb, by rw [e]; exact h⟩
theorem fnNx_s {as as' : List (SD nf)} {Qd : D → List (SD nf) → Prop} (hb : BackOk as env) (e : back as env = as') (h : Qd .non as') : (fnEnds as Qd).nx env := ⟨hb, by rw [e]; exact h⟩
theorem fnRo_s {as as' : List (SD nf)} {Qd : SD nf → List (SD nf) → Prop} {v : V} {A : OA nf} (hb : BackOk as env) (e : back as env = as') (h : Qd (.ow v A) as') : (fnEndsO as Qd).ro v A env := ⟨hb, by rw [e]; exact h⟩
theorem fnRtO_s {as as' : List (SD nf)} {Qd : SD nf → List (SD nf) → Prop} (hb : BackOk as env) (e : back as env = as') (h : Qd (.fz d) as') : (fnEndsO as Qd).rt d env := ⟨hb, by rw [e]; exact h⟩
end
end DL
namespace DL
open PySem L2
theorem valD_nil (k : Key) : valD [] k = none := rfl
theorem valD_cons (p : Key × D) (kds : List (Key × D)) (k : Key) : valD (p :: kds) k = if p.1 = k then some p.2 else valD kds k := by
  unfold valD
  rw [List.find?_cons]
  by_cases h : p.1 = k
  · simp [h]
  · simp [h]
theorem valD_of : ∀ {kds : List (Key × D)} {k : Key} {d : D}, (kds.map (·.1)).Nodup → (k, d) ∈ kds → valD kds k = some d
  | [], _, _, _, h => by cases h
  | p :: kds, k, d, nd, h => by
    rw [List.map_cons] at nd
    have nd' := List.nodup_cons.mp nd
    rw [valD_cons]
    rcases List.mem_cons.mp h with e | m
    · subst e; simp
    · have : p.1 ≠ k := fun e => nd'.1 (e ▸ List.mem_map.mpr ⟨(k, d), m, rfl⟩)
      rw [if_neg this]
      exact valD_of nd'.2 m
theorem valD_none {kds : List (Key × D)} {k : Key} : valD kds k = none ↔ k ∉ kds.map (·.1) := by
  induction kds with
  | nil => simp [valD_nil]
  | cons p kds ih =>
    rw [valD_cons, List.map_cons, List.mem_cons]
    by_cases h : p.1 = k
    · rw [if_pos h]
      constructor
      · intro z; cases z
      · intro z; exact absurd (Or.inl h.symm) z
    · rw [if_neg h, ih]
      constructor
      · rintro z (w | w)
        · exact h w.symm
        · exact z w
      · exact fun z w => z (Or.inr w)
theorem putD_out {kds : List (Key × D)} {k : Key} {d : D} (h : k ∉ kds.map (·.1)) : putD kds k d = kds ++ [(k, d)] := by
  unfold putD
  rw [if_neg]
  simp only [List.any_eq_true, decide_eq_true_eq, not_exists, not_and]
  exact fun p hp e => h (List.mem_map.mpr ⟨p, hp, e⟩)
mutual
def plainB : D → Bool
  | .non => true
  | .bl _ => true
  | .int _ => true
  | .str s => PyData.strOk s
  | .lst xs => plainsB xs
  | .tup xs => plainsB xs
  | _ => false
def plainsB : List D → Bool
  | [] => true
  | x :: xs => plainB x && plainsB xs
end
mutual
def depD : D → Nat
  | .lst xs => depsD xs + 1
  | .tup xs => depsD xs + 1
  | _ => 0
def depsD : List D → Nat
  | [] => 0
  | x :: xs => max (depD x) (depsD xs)
end
theorem plains_iff : ∀ {xs : List D}, plainsB xs = true ↔ ∀ x ∈ xs, plainB x = true
  | [] => by simp [plainsB]
  | x :: xs => by simp only [plainsB, Bool.and_eq_true, plains_iff (xs := xs), List.mem_cons, forall_eq_or_imp]
theorem deps_le : ∀ {xs : List D} {n : Nat}, depsD xs ≤ n ↔ ∀ x ∈ xs, depD x ≤ n
  | [], _ => by simp [depsD]
  | x :: xs, n => by simp only [depsD, Nat.max_le, deps_le (xs := xs), List.mem_cons, forall_eq_or_imp]
mutual
theorem py_of : ∀ {x : D}, plainB x = true → ∃ p, pyOf x = some p ∧ p.canLay0 = true ∧ p.depth = depD x ∧ PyData.eqv p p = true
  | .non, _ => ⟨.none, rfl, by simp [PyData.canLay0], by simp [PyData.depth, depD], by simp [PyData.eqv]⟩
  | .bl b, _ => ⟨.bool b, rfl, by simp [PyData.canLay0], by simp [PyData.depth, depD], by simp [PyData.eqv]⟩
  | .int i, _ => ⟨.int i, rfl, by simp [PyData.canLay0], by simp [PyData.depth, depD], by simp [PyData.eqv]⟩
  | .str s, h => ⟨.str s, rfl, by simpa [PyData.canLay0, plainB] using h, by simp [PyData.depth, depD], by simp [PyData.eqv]⟩
  | .lst xs, h => by
    obtain ⟨ps, e, c, d, q⟩ := pys_of (xs := xs) (by simpa [plainB] using h)
    exact ⟨.list ps, by simp [pyOf, e], by simpa [PyData.canLay0] using c, by simp [PyData.depth, depD, d], by simpa [PyData.eqv] using q⟩
  | .tup xs, h => by
    obtain ⟨ps, e, c, d, q⟩ := pys_of (xs := xs) (by simpa [plainB] using h)
    exact ⟨.tuple ps, by simp [pyOf, e], by simpa [PyData.canLay0] using c, by simp [PyData.depth, depD, d], by simpa [PyData.eqv] using q⟩
  | .ty _, h => by simp [plainB] at h
  | .cls _, h => by simp [plainB] at h
  | .dct _, h => by simp [plainB] at h
  | .obj _ _, h => by simp [plainB] at h
  | .scr _, h => by simp [plainB] at h
theorem pys_of : ∀ {xs : List D}, plainsB xs = true → ∃ ps, pyOfs xs = some ps ∧ PyData.canLayAll0 ps = true ∧ PyData.depthAll ps = depsD xs ∧ PyData.eqvAll ps ps = true
  | [], _ => ⟨[], rfl, by simp [PyData.canLayAll0], by simp [PyData.depthAll, depsD], by simp [PyData.eqvAll]⟩
  | x :: xs, h => by
    rw [plainsB, Bool.and_eq_true] at h
    obtain ⟨p, e, c, d, q⟩ := py_of h.1
    obtain ⟨ps, es, cs, ds, qs⟩ := pys_of h.2
    exact ⟨p :: ps, by simp [pyOfs, e, es], by simp [PyData.canLayAll0, c, cs], by simp [PyData.depthAll, depsD, d, ds], by simp [PyData.eqvAll, q, qs]⟩
end
section
variable {nf : NFs} {Q : D → EV nf → Prop} {x y : D} {env : EV nf}
theorem eqRefl_s (e : x = y) (h1 : plainB x = true) (h2 : depD x ≤ 64) (h : Q (.bl true) env) : OpK (eqQ false) Q x y env := by
  subst e
  obtain ⟨p, e, c, d, q⟩ := py_of h1
  have s : SeqAt.shaped p = true := by unfold SeqAt.shaped; rw [c, d]; simpa using h2
  exact eqDF_s e e s s (by rw [q]; exact h)
end
end DL
namespace DL
open PySem L2
end DL
namespace DL
open PySem L2
/-- what is wished of an error: its class, its fields, the slots -/
abbrev XcD (nf : NFs) := Addr → List (Str × D) → EV nf → Prop
end DL
namespace DL
open PySem PySem.Spec PyProof.Rows L2
theorem cells_app : ∀ (names : List (Str × NameKind)) (n : Nat) (acc : List (Str × Addr)), cellsFrom n names acc = cellsFrom n names [] ++ acc
  | [], n, acc => rfl
  | (x, k) :: r, n, acc => by
    unfold cellsFrom
    split
    · rw [cells_app r (n + 1) ((x, n) :: acc), cells_app r (n + 1) [(x, n)], List.append_assoc]; rfl
    · exact cells_app r n acc
theorem cells_in : ∀ (names : List (Str × NameKind)) (n : Nat) (x : Str) (c : Addr), (x, c) ∈ cellsFrom n names [] → (x, NameKind.cell) ∈ names
  | [], n, x, c, h => by cases h
  | (y, k) :: r, n, x, c, h => by
    unfold cellsFrom at h
    split at h
    · rename_i hk
      rw [cells_app] at h
      rcases List.mem_append.mp h with m | m
      · exact List.mem_cons_of_mem _ (cells_in r _ x c m)
      · have := List.mem_singleton.mp m
        cases this
        have : k = .cell := by simpa using hk
        rw [this]; exact List.mem_cons_self
    · exact List.mem_cons_of_mem _ (cells_in r _ x c h)
section
variable {M : Model} {A : Around} {E : Value → Shared → Prop} {s₀ s : Shared} {m cm : Str → Option Value} {env : Env} {own : List (Str × Addr)}
theorem stLCo {n : Str} {v : Value} {Q : Unit → Shared → Prop} (x : InCallC s₀ env.locals m own cm s) (hk : env.scope.kind = .function) (hl : env.kindOf n = some .local)
    (h : ∀ s', InCallC s₀ env.locals (fun y => if y = n then some v else m y) own cm s' → Q () s') : wpAny M A (storeName env n v) Q E s := by
  refine wpAny_storeName_local hl x.toInCall.ns (fun h' hn' hs' => h _ ⟨⟨?_, hn', fun b o e => ?_, x.toInCall.fresh⟩, fun k c hc => ?_, x.apart, x.above⟩) (by rw [hk]; rfl)
  · obtain ⟨h₁, tk, rfl⟩ := x.toInCall.same
    exact ⟨h', _, rfl⟩
  · exact hs'.extBut b o (Nat.ne_of_lt (Nat.lt_of_lt_of_le (Heap.lt_size e) x.toInCall.fresh)) (x.toInCall.keep b o e)
  · exact (x.cell k c hc).sameBut hs' (Nat.ne_of_gt (x.above k c (PySem.mem_of_lookup hc)))
theorem stCCo {n : Str} {c : Addr} {v : Value} {Q : Unit → Shared → Prop} (x : InCallC s₀ env.locals m own cm s) (hk : env.scope.kind = .function) (hl : env.kindOf n = some .cell)
    (hc : env.cells.lookup n = some c) (ho : own.lookup n = some c)
    (h : ∀ s', InCallC s₀ env.locals m own (fun y => if y = n then some v else cm y) s' → Q () s') : wpAny M A (storeName env n v) Q E s := by
  have hLc := x.above n c (PySem.mem_of_lookup ho)
  refine wpAny_storeName_cell hk hl hc (x.cell n c ho) fun h' hc' hs' => h _ ⟨⟨?_, x.toInCall.ns.sameBut hs' (Nat.ne_of_lt hLc), fun b o e => ?_, x.toInCall.fresh⟩, fun k c' hk' => ?_, x.apart, x.above⟩
  · obtain ⟨h₁, tk, rfl⟩ := x.toInCall.same
    exact ⟨h', _, rfl⟩
  · exact hs'.extBut b o (Nat.ne_of_lt (Nat.lt_trans (Nat.lt_of_lt_of_le (Heap.lt_size e) x.toInCall.fresh) hLc)) (x.toInCall.keep b o e)
  · by_cases hkn : k = n
    · subst hkn
      rw [ho] at hk'; cases hk'
      simpa using hc'
    · rw [if_neg hkn]
      exact (x.cell k c' hk').sameBut hs' fun e => hkn (name_of_addr x.apart (PySem.mem_of_lookup hk') (e ▸ PySem.mem_of_lookup ho))
theorem bindParams_o (f : Str × Value → PUnit → Sem (ForInStep PUnit)) (hf : ∀ n v u, f (n, v) u = (do storeName env n v; pure (.yield ⟨⟩))) (hk : env.scope.kind = .function) (hsub : ∀ n c, own.lookup n = some c → env.cells.lookup n = some c) :
    ∀ (binds : List (Str × Value)) (m cm : Str → Option Value) (s : Shared) (Q : PUnit → Shared → Prop), InCallC s₀ env.locals m own cm s →
      (∀ x ∈ binds, env.kindOf x.1 = some .local ∨ (env.kindOf x.1 = some .cell ∧ (own.lookup x.1).isSome = true)) →
      (∀ s', InCallC s₀ env.locals (bindL env.kindOf binds m) own (bindC env.kindOf binds cm) s' → Q ⟨⟩ s') → wpAny M A (forIn binds ⟨⟩ f) Q E s
  | [], m, cm, s, Q, x, _, h => by rw [List.forIn_nil]; exact wpAny_pure (h s x)
  | (n, v) :: r, m, cm, s, Q, x, hkind, h => by
    rw [List.forIn_cons, hf]
    have hr : ∀ y ∈ r, env.kindOf y.1 = some .local ∨ (env.kindOf y.1 = some .cell ∧ (own.lookup y.1).isSome = true) := fun y hy => hkind y (List.mem_cons_of_mem _ hy)
    rcases hkind (n, v) List.mem_cons_self with hl | ⟨hl, hc⟩
    · refine wpAny_bind (wpAny_bind (stLCo x hk hl fun s' x' => wpAny_pure (bindParams_o f hf hk hsub r _ _ s' Q x' hr fun s'' x'' => h s'' ?_)))
      unfold bindL bindC; rw [if_pos hl, if_pos hl]; exact x''
    · obtain ⟨c, hc⟩ := Option.isSome_iff_exists.mp hc
      have hnl : ¬ env.kindOf n = some .local := by rw [hl]; decide
      refine wpAny_bind (wpAny_bind (stCCo x hk hl (hsub n c hc) hc fun s' x' => wpAny_pure (bindParams_o f hf hk hsub r _ _ s' Q x' hr fun s'' x'' => h s'' ?_)))
      unfold bindL bindC; rw [if_neg hnl, if_neg hnl]; exact x''
end
theorem look_app {cs cl : List (Str × Addr)} {n : Str} {c : Addr} (h : cs.lookup n = some c) : (cs ++ cl).lookup n = some c := by
  rw [List.lookup_append, h] <;> rfl
section
variable {M : Model} {A : Around} {E : Value → Shared → Prop} {s : Shared}
/-- a def's frame: its own cells over the captured ones -/
theorem newEnv_o {scope : Scope} {globals : Addr} {cl : List (Str × Addr)} {binds : List (Str × Value)} {qual : Str} {func : Option Addr} {code : Value} {builtins : Addr} {Q : Env → Shared → Prop} (hk : scope.kind = .function)
    (hkind : ∀ x ∈ binds, scope.names.lookup x.1 = some .local ∨ (scope.names.lookup x.1 = some .cell ∧ ((cellsFrom (s.heap.objs.size + 1) scope.names []).lookup x.1).isSome = true))
    (hQ : ∀ env, env = newEnv scope s.heap.objs.size globals (cellsFrom (s.heap.objs.size + 1) scope.names [] ++ cl) qual func code none builtins →
      ∀ s', InCallC s env.locals (bindL env.kindOf binds fun _ => none) (cellsFrom (s.heap.objs.size + 1) scope.names []) (bindC env.kindOf binds fun _ => none) s' → Q env s') :
    wpAny M A (newFunctionEnv scope globals cl binds qual func code none builtins) Q E s := by
  simp only [newFunctionEnv, Option.isSome_none, Bool.false_eq_true, if_false]
  refine wpAny_bind (wpAny_alloc ?_)
  refine wpAny_bind (wpAny_layCells _ (fun name kind cells => by cases hkc : kind == NameKind.cell <;> simp [hkc]) _ _ _ _ ?_)
  have ok := cellsFrom_ok scope.names (s.heap.push { cls := .type "frame", data := .dict #[] }) (s.heap.objs.size + 1) [] ⟨fun _ _ hm => (nomatch hm), List.Pairwise.nil⟩ (by rw [Heap.size_push]; exact Nat.le_refl _)
  rw [Heap.size_push] at ok
  rw [show ({ s with heap := s.heap.push { cls := .type "frame", data := .dict #[] } } : Shared).heap.objs.size = s.heap.objs.size + 1 from Heap.size_push ..]
  rw [cells_app scope.names _ cl]
  refine wpAny_bind (bindParams_o (s₀ := s) (env := newEnv scope s.heap.objs.size globals (cellsFrom (s.heap.objs.size + 1) scope.names [] ++ cl) qual func code none builtins) (own := cellsFrom (s.heap.objs.size + 1) scope.names [])
    _ (fun _ _ _ => rfl) hk (fun n c h => look_app h) binds (fun _ => none) (fun _ => none) _ _
    ⟨⟨⟨_, _, rfl⟩, (Heap.Ns.new s.heap (.type "frame")).keeps (pushCells_keeps _ _), fun b o e => pushCells_keeps _ _ b o (Heap.get?_push_of_some _ e), Nat.le_refl _⟩,
      fun n c hc => (ok.empty n c (PySem.mem_of_lookup hc)).1, ok.apart, fun n c hm => (ok.empty n c hm).2⟩
    hkind fun s' x => wpAny_pure (hQ _ rfl s' x))
end
/-- its names: the parameters, the captured ones, its locals -/
structure CScope (N ps fr : List Str) (sc : Scope) : Prop where
  kind : sc.kind = .function
  co : sc.isCoroutine = false
  gen : sc.isGenerator = false
  nd : N.Nodup
  pre : N.take (ps.length + fr.length) = ps ++ fr
  par : ∀ x ∈ ps, sc.names.lookup x = some .local ∨ sc.names.lookup x = some .cell
  free : ∀ y ∈ sc.names, y.2 = .free → y.1 ∈ fr
  frk : ∀ x ∈ fr, sc.names.lookup x = some .free
  frc : ∀ x ∈ fr, (x, NameKind.cell) ∉ sc.names
def cscB (N ps fr : List Str) (sc : Scope) : Bool :=
  decide (sc.kind = .function) && (!sc.isCoroutine && (!sc.isGenerator && (decide N.Nodup && (decide (N.take (ps.length + fr.length) = ps ++ fr) && (ps.all (fun x => decide (sc.names.lookup x = some .local) || decide (sc.names.lookup x = some .cell)) && (sc.names.all (fun y => !decide (y.2 = .free) || decide (y.1 ∈ fr)) && (fr.all (fun x => decide (sc.names.lookup x = some .free)) && fr.all (fun x => !decide ((x, NameKind.cell) ∈ sc.names)))))))))
theorem cscope_by {N ps fr : List Str} {sc : Scope} (h : cscB N ps fr sc = true) : CScope N ps fr sc := by
  unfold cscB at h
  simp only [Bool.and_eq_true, Bool.not_eq_true', decide_eq_true_eq, List.all_eq_true, Bool.or_eq_true, decide_eq_false_iff_not] at h
  obtain ⟨h1, h2, h3, h4, h5, h6, h7, h8, h9⟩ := h
  exact ⟨h1, h2, h3, h4, h5, h6, fun y hy e => (h7 y hy).elim (fun z => absurd e z) id, h8, h9⟩
abbrev envN (F : NdefX.NF) (f L : Addr) : Env := PySem.W.envX F.qual F.scope L f (.ref F.c) (cellsFrom (L + 1) F.scope.names [] ++ F.cl)
/-- the context of its body, at its entry -/
def cxN (CX : CXT) (P : Program) (w : World) (K : PySem.W.Frag) (mg : Str → Option Value) (base : Heap) (N : List Str) (F : NdefX.NF) (f : Addr) (A : Around) (outer : List Env) (s : Shared) (H : Hp) (E : XK) : Cx where
  prog := P
  w := w
  K := K
  mg := mg
  base := base
  A := A.deeper (envN F f s.heap.objs.size)
  N := N
  s_0 := s
  H_0 := H
  env := envN F f s.heap.objs.size
  outer := outer
  stack := envN F f s.heap.objs.size :: outer
  ex := []
  fn := fun y => decide (F.scope.names.lookup y = some .cell)
  calm := true
  pn := []
  xe := fun e s' => wpAny (model P w) (A.deeper (envN F f s.heap.objs.size)) (leaving (envN F f s.heap.objs.size) e) (fun _ s'' => CX outer H s E e s'') (fun e' s'' => CX outer H s E e' s'') s'
section
variable {CX : CXT} {P : Program} {w : World} {K : PySem.W.Frag} {mg : Str → Option Value} {base : Heap} {N ps fr : List Str} {F : NdefX.NF} {f : Addr} {A : Around} {outer : List Env} {s s1 : Shared} {H : Hp} {E : XK} {us : List Value} {vs : List V} {ws : List (Option V)}
theorem inv_startC (S : CScope N ps fr F.scope) (hd : A.handled = none) (e0 : Env0 P w K mg base A outer s H) (hl : vs.length = ps.length) (r : Vals vs us) (C : NdefX.CellsAt F.cl fr ws s.heap H)
    (x : InCallC s s.heap.objs.size (bindL (envN F f s.heap.objs.size).kindOf (ps.zip us) fun _ => none) (cellsFrom (s.heap.objs.size + 1) F.scope.names []) (bindC (envN F f s.heap.objs.size).kindOf (ps.zip us) fun _ => none) s1) :
    Inv (cxN CX P w K mg base N F f A outer s H E) [] (NdefX.startF N vs ws) H s1 := by
  have hpl : ps.length + fr.length ≤ N.length := by
    have q := congrArg List.length S.pre
    rw [List.length_take, List.length_append] at q
    omega
  obtain ⟨h1, tk, rfl, hk⟩ := x.done
  have noA : ∀ b : Addr, b ∉ (cxN CX P w K mg base N F f A outer s H E).ex := fun b z => absurd (show b ∈ ([] : List Addr) from z) (by simp)
  have cellK : ∀ {c : Addr} {v : Option Value}, s.heap.IsCell c v → h1.IsCell c v := fun {c v} ⟨o, ho, hd⟩ => ⟨o, hk _ _ ho, hd⟩
  have split : ∀ y c, (cellsFrom (s.heap.objs.size + 1) F.scope.names [] ++ F.cl).lookup y = some c → (cellsFrom (s.heap.objs.size + 1) F.scope.names []).lookup y = some c ∨ F.cl.lookup y = some c := fun y c e => by
    rw [List.lookup_append] at e
    cases q : (cellsFrom (s.heap.objs.size + 1) F.scope.names []).lookup y with
    | some c' => rw [q] at e; exact .inl e
    | none => rw [q] at e; exact .inr e
  have ownA : ∀ y c, (cellsFrom (s.heap.objs.size + 1) F.scope.names []).lookup y = some c → s.heap.objs.size < c := fun y c e => x.above y c (PySem.mem_of_lookup e)
  have clA : ∀ y c, F.cl.lookup y = some c → c < s.heap.objs.size := fun y c e => by
    obtain ⟨_, v, z⟩ := C.all y c e
    exact z.lt
  have frN : ∀ y ∈ fr, (cellsFrom (s.heap.objs.size + 1) F.scope.names []).lookup y = none := fun y hy => by
    cases q : (cellsFrom (s.heap.objs.size + 1) F.scope.names []).lookup y with
    | none => rfl
    | some c => exact absurd (cells_in _ _ _ _ (PySem.mem_of_lookup q)) (S.frc y hy)
  have frL : ∀ y ∈ fr, ∀ c, F.cl.lookup y = some c → (cellsFrom (s.heap.objs.size + 1) F.scope.names [] ++ F.cl).lookup y = some c := fun y hy c e => by
    rw [List.lookup_append, frN y hy] <;> exact e
  refine ⟨⟨e0.mod, S.kind, rfl, rfl, Nat.le_refl _, fun y z c h1 h2 => ?_, fun y hy => ?_, fun y c hf h => ?_, fun _ => hd, Around.frames_deeper e0.frames, .inr ⟨rfl, rfl⟩, fun b z => absurd z (noA b), e0.bs, e0.bsz, fun b _ _ => noA b, fun b z => absurd z (noA b), e0.funs, e0.frf⟩,
    rfl, e0.bare, Un.kept hk, ⟨_, x.toInCall.ns, fun i y v e1 e2 e3 => ?_⟩, fun y c h => ?_, e0.hok.fresh (Nat.le_refl _), fun y c h => ?_, fun p hp => absurd (show p ∈ ([] : List (Addr × Obj)) from hp) (by simp), e0.hok.kept hk, ?_⟩
  · rcases split y c h1 with a | a <;> rcases split z c h2 with b | b
    · exact name_of_addr x.apart (PySem.mem_of_lookup a) (PySem.mem_of_lookup b)
    · exact absurd (Nat.lt_trans (ownA y c a) (clA z c b)) (Nat.lt_irrefl _)
    · exact absurd (Nat.lt_trans (ownA z c b) (clA y c a)) (Nat.lt_irrefl _)
    · exact C.inj y z c a b
  · have hy : F.scope.names.lookup y = some .cell ∨ F.scope.names.lookup y = some .free := hy
    rcases hy with hy | hy
    · obtain ⟨c, hc⟩ := cell_has (n := s.heap.objs.size + 1) hy
      exact ⟨c, look_app hc⟩
    · have hm := S.free _ (PySem.mem_of_lookup hy) rfl
      obtain ⟨i, hi⟩ := List.mem_iff_getElem?.mp hm
      obtain ⟨c, hc, _⟩ := C.has i y hi
      exact ⟨c, frL y hm c hc⟩
  · have hf : F.scope.names.lookup y = some .cell := of_decide_eq_true hf
    obtain ⟨c', hc⟩ := cell_has (n := s.heap.objs.size + 1) hf
    have e2 : (cellsFrom (s.heap.objs.size + 1) F.scope.names [] ++ F.cl).lookup y = some c := h
    rw [look_app hc] at e2
    cases e2
    exact Nat.le_of_lt (ownA y _ hc)
  · have e1 : N[i]? = some y := e1
    have clen := C.len
    have ndP : ps.Nodup := by
      have q := S.nd.sublist (List.take_sublist (ps.length + fr.length) N)
      rw [S.pre] at q
      exact (List.nodup_append.mp q).1
    unfold NdefX.startF at e2
    by_cases hi : i < ps.length
    · have hp : ps[i]? = some y := by
        have hq : (ps ++ fr)[i]? = some y := by
          rw [← S.pre, List.getElem?_take_of_lt (by omega)]; exact e1
        rwa [List.getElem?_append_left hi] at hq
      rw [List.getElem?_append_left (by rw [List.length_map]; omega), List.getElem?_map] at e2
      have ha : vs[i]? = some v := by
        cases e : vs[i]? with
        | none => rw [e] at e2; cases e2
        | some a => rw [e] at e2; cases e2; rfl
      obtain ⟨u, hu, rv⟩ := r.get ha
      refine ⟨u, rv, ?_⟩
      rcases S.par y (List.mem_of_getElem? hp) with k | k
      · exact .inl ⟨k, bindL_get ndP hp hu k⟩
      · obtain ⟨c, e⟩ := cell_has (n := s.heap.objs.size + 1) k
        refine .inr ⟨.inl k, c, look_app e, ?_⟩
        have q := x.cell y c e
        rw [bindC_get ndP hp hu (by show F.scope.names.lookup y ≠ _; rw [k]; decide)] at q
        exact q
    · rw [List.getElem?_append_right (by rw [List.length_map]; omega), List.length_map] at e2
      by_cases h2 : i < ps.length + fr.length
      · have hq : (ps ++ fr)[i]? = some y := by
          rw [← S.pre, List.getElem?_take_of_lt (by omega)]; exact e1
        rw [List.getElem?_append_right (by omega)] at hq
        rw [List.getElem?_append_left (by omega), hl] at e2
        have hm : y ∈ fr := List.mem_of_getElem? hq
        obtain ⟨c, hc, hv⟩ := C.has (i - ps.length) y hq
        obtain ⟨u, ru, hu⟩ := hv v e2
        exact ⟨u, ru, .inr ⟨.inr (S.frk y hm), c, frL y hm c hc, cellK hu⟩⟩
      · rw [List.getElem?_append_right (by omega), List.getElem?_replicate] at e2
        split at e2 <;> cases e2
  · rcases split y c h with a | a
    · exact ⟨_, x.cell y c a⟩
    · obtain ⟨v, z⟩ := (C.all y c a).2
      exact ⟨v, cellK z⟩
  · rcases split y c h with a | a
    · exact e0.hok.fresh (Nat.le_of_lt (ownA y c a))
    · exact (C.all y c a).1
  · have clen := C.len
    unfold NdefX.startF
    show _ = N.length
    rw [List.length_append, List.length_append, List.length_map, List.length_replicate]
    omega
end
structure NokC (P : Program) (w : World) (K : PySem.W.Frag) (mg : Str → Option Value) (base : Heap) (CX : CXT) (k : Nat) (W : NFd) (ps : List Str) (sp : List V → Sp) : Prop where
  len : ∀ ws vs H Q E, sp ws vs H Q E → vs.length = ps.length
  run : ∀ (f c : Addr) (cl : List (Str × Addr)) (A : Around) (outer : List Env) (s : Shared) (H : Hp) (us : List Value) (vs ws : List V) (Q : VK) (E : XK), Room k A → Env0 P w K mg base A outer s H → H f = some (NdefX.FnO f (W.nf cl c)) → H c = some (LamX.CodeO c W.qual) →
    NdefX.CellsAt cl W.fr (ws.map some) s.heap H → Vals vs us → sp ws vs H Q E → codeAny (model P w) A (.call (.ref f) ⟨us, []⟩) (CR CX outer P w H s Q E) s
section
variable {CX : CXT} {P : Program} {w : World} {K : PySem.W.Frag} {mg : Str → Option Value} {base : Heap} {N ps : List Str} {W : NFd} {k j : Nat} {sp : List V → Sp}
theorem NokC.mono (o : NokC P w K mg base CX j W ps sp) (h : j ≤ k) : NokC P w K mg base CX k W ps sp := ⟨o.len, fun f c cl A outer s H us vs ws Q E hr => o.run f c cl A outer s H us vs ws Q E (hr.mono h)⟩
/-- THE RULE: a nested def by its body -/
theorem nokC_of (S : CScope N ps W.fr W.scope) (hb : ∀ (cl : List (Str × Addr)) (c : Addr) (doc pm ctv : Value) (us : List Value), us.length = ps.length → bindArgs ((W.nf cl c).fd doc pm ctv) ⟨us, []⟩ = pure (ps.zip us)) (len : ∀ ws vs H Q E, sp ws vs H Q E → vs.length = ps.length)
    (hbody : ∀ (f c : Addr) (cl : List (Str × Addr)) (A : Around) (outer : List Env) (s : Shared) (H : Hp) (vs ws : List V) (Q : VK) (E : XK), Room k (A.deeper (envN (W.nf cl c) f s.heap.objs.size)) → ws.length = W.fr.length → sp ws vs H Q E →
      ∃ t, PSs (cxN CX P w K mg base N (W.nf cl c) f A outer s H E).nox W.body t ∧ t { nx := fun _ H' => Q .non H', rt := Q } (NdefX.startF N vs (ws.map some)) H) :
    NokC P w K mg base CX (k + 1) W ps sp := by
  refine ⟨len, fun f c cl A outer s H us vs ws Q E hr e0 hf hc C r hsp => ?_⟩
  have hl := len _ _ _ _ _ hsp
  have lim : s.heap.NoLimit := e0.mod.nolimit.keeps fun b o e => (e0.bs b o e).1
  obtain ⟨od, sl, doc, pm, ctv, ho⟩ := NdefX.fnO_at e0.hok hf
  have hkind : ∀ y ∈ ps.zip us, W.scope.names.lookup y.1 = some .local ∨ (W.scope.names.lookup y.1 = some .cell ∧ ((cellsFrom (s.heap.objs.size + 1) W.scope.names []).lookup y.1).isSome = true) := fun ⟨n, v⟩ hy => by
    rcases S.par n (List.of_mem_zip hy).1 with q | q
    · exact .inl q
    · exact .inr ⟨q, PySem.W.cellsFrom_some _ _ _ (.inl q)⟩
  refine codeAny_call_function hr.depth ho rfl S.co S.gen rfl (NdefX.codeO_at e0.hok hc) ?_
  rw [hb cl c doc pm ctv us (by rw [← r.length]; exact hl)]
  refine wpAny_pure (newEnv_o S.kind hkind fun env he s1 x => ?_)
  subst he
  refine ⟨lim.keeps x.toInCall.keep, codeAny_func ?_⟩
  have hwl : ws.length = W.fr.length := by
    have := C.len
    rwa [List.length_map] at this
  obtain ⟨t, ht, hq⟩ := hbody f c cl A outer s H vs ws Q E (hr.deeper _) hwl hsp
  have I : Inv (cxN CX P w K mg base N (W.nf cl c) f A outer s H E) [] (NdefX.startF N vs (ws.map some)) H s1 := inv_startC (F := W.nf cl c) S hr.hd e0 hl r C x
  refine wpAny_mono (ht.nox.run [] s1 (NdefX.startF N vs (ws.map some)) H _ I hq) (fun fl s' hs => ?_) fun e s' hs => hs
  have fin : ∀ {σ' : L2.St} {H' : Hp} {v : V} {u : Value}, Inv (cxN CX P w K mg base N (W.nf cl c) f A outer s H E) [] σ' H' s' → L2.RelV v u → Q v H' → CE outer P w H s Q u s' :=
    fun {σ' H' v u} J rv q => ⟨v, H', J.os, J.bare, J.base, J.hok, rv, q⟩
  cases fl with
  | ret u =>
    obtain ⟨v, σ', H', J, rv, q⟩ := hs
    exact fin J rv q
  | next =>
    obtain ⟨σ', H', J, q⟩ := hs
    exact fin (v := V.non) (u := Value.none) J rfl q
  | brk =>
    obtain ⟨_, _, _, q⟩ := hs
    exact False.elim q
  | cont =>
    obtain ⟨_, _, _, q⟩ := hs
    exact False.elim q
end
end DL
namespace DL
open PySem PySem.Spec PyProof.Rows L2
mutual
def noFn : D → Bool
  | .tup xs => noFns xs
  | .lst xs => noFns xs
  | .dct kvs => noFnK kvs
  | .obj _ fs => noFnF fs
  | .exc _ fs => noFnF fs
  | .fn _ _ => false
  | _ => true
def noFns : List D → Bool
  | [] => true
  | d :: ds => noFn d && noFns ds
def noFnK : List (Key × D) → Bool
  | [] => true
  | (_, d) :: ds => noFn d && noFnK ds
def noFnF : List (Str × D) → Bool
  | [] => true
  | (_, d) :: ds => noFn d && noFnF ds
end
/-- the cell at a is lent -/
def Lent (H : Hp) (a : Addr) : Prop := ∃ o v, H a = some (.frz o (.ext fun _ => True)) ∧ o.data = .cell v
/-- what is lent may be gone, all else that is frozen stands -/
def StpL (nf : NFs) (H H' : Hp) : Prop := ∀ a u, H a = some u → Fzn nf u → ¬ Lent H a → H' a = some u
section
variable {K : PySem.W.Frag} {nf : NFs} {H H' : Hp}
theorem nl_of {a : Addr} {u : HO} (e : H a = some u) (h : ∀ o, u ≠ .frz o (.ext fun _ => True)) : ¬ Lent H a := fun ⟨o, v, z, _⟩ => by
  rw [e] at z
  exact h o (Option.some.inj z)
theorem nl_frz {a : Addr} {o : Obj} {u : HO} (e : H a = some (.frz o u)) (h : ∀ φ, u ≠ .ext φ) : ¬ Lent H a := nl_of e fun o' z => by
  cases z
  exact h _ rfl
theorem nl_dat {a : Addr} {o : Obj} {u : HO} (e : H a = some (.frz o u)) (h : ∀ v, o.data ≠ .cell v) : ¬ Lent H a := fun ⟨o', v, z, q⟩ => by
  rw [e] at z
  cases z
  exact h v q
theorem sqT_L {a : Addr} {xs : List V} (e : StpL nf H H') (h : SqT K H a xs) : SqT K H' a xs := by
  rcases h with (h | ⟨o, h⟩) | h
  · exact .inl (.inl (e _ _ h trivial (nl_of h fun o z => by cases z)))
  · exact .inl (.inr ⟨o, e _ _ h trivial (nl_frz h fun φ z => by cases z)⟩)
  · exact .inr h
theorem fzL_L {a : Addr} {xs : List V} (e : StpL nf H H') (h : FzL H a xs) : FzL H' a xs := by
  obtain ⟨o, h⟩ := h
  exact ⟨o, e _ _ h trivial (nl_frz h fun φ z => by cases z)⟩
theorem excV_L {a C : Addr} {oe : Obj} {fs : List (Str × V)} (e : StpL nf H H') (h : ExcV H a C oe fs) : ExcV H' a C oe fs := by
  obtain ⟨h1, h2, h3, h4⟩ := h
  refine ⟨e _ _ h1 trivial (nl_dat h1 fun v z => ?_), h2, h3, h4.imp id ?_⟩
  · obtain ⟨vs, q⟩ := h3
    rw [q] at z; cases z
  · rintro ⟨dx, od, d1, d2⟩
    exact ⟨dx, od, d1, e _ _ d2 trivial (nl_frz d2 fun φ z => by cases z)⟩
theorem fnV_L {f : Addr} {W : NFd} {cl : List (Str × Addr)} (e : StpL nf H H') (h : FnV H f W cl) : FnV H' f W cl := by
  obtain ⟨c, h1, h2⟩ := h
  exact ⟨c, e _ _ h1 trivial (nl_of h1 fun o z => by unfold NdefX.FnO at z; cases z), e _ _ h2 trivial (nl_of h2 fun o z => by unfold LamX.CodeO at z; cases z)⟩
mutual
theorem Rel.toL (e : StpL nf H H') : ∀ {v : V} {d : D}, Rel K nf H v d → noFn d = true → Rel K nf H' v d
  | _, _, .non, _ => .non
  | _, _, .bl b, _ => .bl b
  | _, _, .int i, _ => .int i
  | _, _, .str s, _ => .str s
  | _, _, .ty n, _ => .ty n
  | _, _, .cls a, _ => .cls a
  | _, _, .tup h r, n => .tup (sqT_L e h) (Rels.toL e r (by simpa only [noFn] using n))
  | _, _, .lst h r, n => .lst (fzL_L e h) (Rels.toL e r (by simpa only [noFn] using n))
  | _, _, .dct h r, n => .dct (e _ _ h trivial (nl_frz h fun φ z => by cases z)) (RelK.toL e r (by simpa only [noFn] using n))
  | _, _, .obj h n1 l r, n => .obj (e _ _ h ⟨n1, l⟩ (nl_of h fun o z => by cases z)) n1 l (RelF.toL e r (by simpa only [noFn] using n))
  | _, _, .scr h, _ => .scr (h.imp (fun z => fzL_L e z) id)
  | _, _, .exc h r, n => .exc (excV_L e h) (RelF.toL e r (by simpa only [noFn] using n))
  | _, _, .fn0 h, _ => .fn0 (fnV_L e h)
  | _, _, .fn h c r, n => by simp only [noFn] at n; cases n
theorem Rels.toL (e : StpL nf H H') : ∀ {vs : List V} {ds : List D}, Rels K nf H vs ds → noFns ds = true → Rels K nf H' vs ds
  | _, _, .nil, _ => .nil
  | _, _, .cons h r, n => by
    simp only [noFns, Bool.and_eq_true] at n
    exact .cons (Rel.toL e h n.1) (Rels.toL e r n.2)
theorem RelK.toL (e : StpL nf H H') : ∀ {vs : List (Key × V)} {ds : List (Key × D)}, RelK K nf H vs ds → noFnK ds = true → RelK K nf H' vs ds
  | _, _, .nil, _ => .nil
  | _, _, .cons h r, n => by
    simp only [noFnK, Bool.and_eq_true] at n
    exact .cons (Rel.toL e h n.1) (RelK.toL e r n.2)
theorem RelF.toL (e : StpL nf H H') : ∀ {vs : List (Str × V)} {ds : List (Str × D)}, RelF K nf H vs ds → noFnF ds = true → RelF K nf H' vs ds
  | _, _, .nil, _ => .nil
  | _, _, .cons h r, n => by
    simp only [noFnF, Bool.and_eq_true] at n
    exact .cons (Rel.toL e h n.1) (RelF.toL e r n.2)
end
end
open Classical in
noncomputable def unl (H : Hp) : Hp := fun a => if Lent H a then none else H a
open Classical in
noncomputable def rel2 (H H' : Hp) : Hp := fun a => if Lent H a then H a else H' a
section
variable {H H' : Hp} {a : Addr} {u : HO}
theorem unl_of (e : H a = some u) (n : ¬ Lent H a) : unl H a = some u := by unfold unl; rw [if_neg n]; exact e
theorem unl_to (e : unl H a = some u) : H a = some u ∧ ¬ Lent H a := by
  unfold unl at e
  split at e
  · cases e
  · rename_i n; exact ⟨e, n⟩
theorem unl_none (e : H a = none) : unl H a = none := by
  unfold unl
  split
  · rfl
  · exact e
theorem unl_lent (l : Lent H a) : unl H a = none := by unfold unl; rw [if_pos l]
theorem rel2_lent (l : Lent H a) : rel2 H H' a = H a := by unfold rel2; rw [if_pos l]
theorem rel2_not (l : ¬ Lent H a) : rel2 H H' a = H' a := by unfold rel2; rw [if_neg l]
theorem rel2_sup (n : ∀ a, Lent H a → H' a = none) (e : H' a = some u) : rel2 H H' a = some u := by
  by_cases l : Lent H a
  · rw [n a l] at e; cases e
  · rw [rel2_not l]; exact e
end
section
variable {P : Program} {w : World} {K : PySem.W.Frag} {mg : Str → Option Value} {base : Heap} {A : Around} {outer : List Env} {s s' : Shared} {H H' : Hp} {h : Heap}
theorem unl_ok (x : HOk P w H h) : HOk P w (unl H) h := fun a u e => by
  obtain ⟨e1, n⟩ := unl_to e
  exact (x a u e1).stay (fun b v _ q => q) (fun b q => unl_of q (nl_of q fun o z => by cases z)) fun b xs q => unl_of q (nl_of q fun o z => by cases z)
theorem unl_env (e : Env0 P w K mg base A outer s H) : Env0 P w K mg base A outer s (unl H) :=
  ⟨e.frames, e.mod, fun b o z => ⟨(e.bs b o z).1, unl_none (e.bs b o z).2⟩, e.bsz, e.funs, fun b m => unl_none (e.frf b m), unl_ok e.hok, e.bare⟩
theorem lent_at (x : HOk P w H h) {a : Addr} {o : Obj} {u : HO} (e : H a = some (.frz o u)) : h.get? a = some o := (x a _ e).1
/-- the end of a call in which the cells were taken back -/
theorem unl_end {Q : VK} {v : Value} (e : Env0 P w K mg base A outer s H) (c : CE outer P w (unl H) s (fun v H' => (∀ a, Lent H a → H' a = none) → Q v (rel2 H H')) v s') : CE outer P w H s Q v s' := by
  obtain ⟨x, H', os, bare, un, ok, r, q⟩ := c
  have gone : ∀ a, Lent H a → H' a = none := fun a l => by
    obtain ⟨o, v, e1, _⟩ := id l
    exact un.free a o (lent_at e.hok e1) (unl_lent l) (by simp)
  have fr : ∀ a, Lent H a → a ∉ frs outer := fun a ⟨o, v, e1, _⟩ m => by rw [e.frf a m] at e1; cases e1
  refine ⟨x, rel2 H H', os, bare, ⟨fun b o z n m mx => un.keep b o z (unl_none n) m mx, fun b o z n m mx => un.slot b o z (unl_none n) m mx, fun b o z n mx => ?_, un.there, fun b xs z => ?_, fun b o u z => ?_, fun b ps z => ?_⟩, fun a u z => ?_, r, q gone⟩
  · have nl : ¬ Lent H b := fun ⟨o', v, z', _⟩ => by rw [n] at z'; cases z'
    rw [rel2_not nl]
    exact un.free b o z (unl_none n) mx
  · have nl : ¬ Lent H b := nl_of z fun o z => by cases z
    rw [rel2_not nl]
    exact un.tups b xs (unl_of z nl)
  · by_cases nl : Lent H b
    · rw [rel2_lent nl]; exact z
    · rw [rel2_not nl]
      exact un.frzs b o u (unl_of z nl)
  · have nl : ¬ Lent H b := nl_of z fun o z => by cases z
    rw [rel2_not nl]
    exact un.tbls b ps (unl_of z nl)
  · by_cases l : Lent H a
    · rw [rel2_lent l] at z
      obtain ⟨o, v, z1, z2⟩ := id l
      rw [z1] at z; cases z
      exact ⟨un.keep a o (lent_at e.hok z1) (unl_lent l) (fr a l) (by simp), trivial, ⟨o, un.keep a o (lent_at e.hok z1) (unl_lent l) (fr a l) (by simp)⟩, fun _ _ _ _ => trivial⟩
    · rw [rel2_not l] at z
      exact (ok a u z).stay (fun b v _ q => q) (fun b q => rel2_sup gone q) fun b xs q => rel2_sup gone q
end
section
variable {X : Cx} {W : NFd} {ps : List Str} {i j k : Nat} {x : Str} {e : Expr} {es : List Expr} {p pos : Pos} {t : TA}
theorem pe_callC {Ws : List (NFd × (List V → Sp))} (F : ∀ q ∈ Ws, NokC X.prog X.w X.K X.mg X.base CX0 k q.1 ps q.2) (hr : Room k X.A) (hN : X.N[i]? = some x) (hv : Vis X.env.scope x) (ha : PA X (e :: es) t)
    (hd : (x == ("__debug__" : Str)) = false := by decide) (hcd : (x == ("__classdict__" : Str)) = false := by decide)
    (he : starEach (e :: es) X.env = (false, eval e X.env) :: starEach es X.env := by rfl) (hpl : (backTo pos (starEach es X.env)).any (·.1) = false := by rfl) :
    PE X (.Call (.Name x p) (e :: es) [] pos) (fun σ H Q => ∃ f q cl, q ∈ Ws ∧ σ[i]? = some (some (.ref f)) ∧ FnV H f q.1 cl ∧ t σ H fun vs H1 => ∃ ws cl, FnV H1 f q.1 cl ∧ CellsV H1 cl q.1.fr ws ∧ q.2 ws vs (unl H1) (fun v H' => (∀ a, Lent H1 a → H' a = none) → Q v (rel2 H1 H')) E0) := by
  refine ⟨fun pins s σ H Q I h => ?_⟩
  obtain ⟨f, q, cl0, hq, hs, ⟨c0, hf, _⟩, ht⟩ := h
  refine wpAny_Call_Name_kw (thn ((pe_var (pos := p) hN hv hd hcd).run pins s σ H (fun v H1 => v = .ref f ∧ H1 = H) I ⟨.ref f, hs, rfl, rfl⟩) fun u s1 ⟨v, H1, I1, r1, q1⟩ => ?_)
  obtain ⟨ev, eH⟩ := q1
  subst ev
  rw [eH] at I1
  obtain rfl : u = Value.ref f := r1
  refine PySem.W.callWith_F (first := []) (NdefX.fnAt_of I1 hf) (thn (ha.run pos pins s1 σ H _ I1 ht) fun us s2 ⟨vs, H2, I2, r, ws, cl, ⟨c, h1, h2⟩, C, hsp⟩ => ⟨NdefX.fnAt_of I2 h1, ?_⟩) he hpl
  show wpAny _ _ (call (.ref f) us) _ _ _
  have CA : NdefX.CellsAt cl q.1.fr (ws.map some) s2.heap (unl H2) := by
    refine ⟨by rw [List.length_map]; exact C.len, fun y c z => ?_, C.inj, fun n y z => ?_⟩
    · obtain ⟨o, v, z1, z2⟩ := C.all y c z
      exact ⟨unl_lent ⟨o, v, z1, z2⟩, v, o, lent_at I2.hok z1, z2⟩
    · have hn : n < ws.length := by rw [C.len]; exact (List.getElem?_eq_some_iff.mp z).1
      obtain ⟨c, o, u, z1, z2, z3, z4⟩ := C.has n y ws[n] z (by simp [hn])
      refine ⟨c, z1, fun v ev => ?_⟩
      rw [List.getElem?_map, List.getElem?_eq_getElem hn] at ev
      cases ev
      exact ⟨u, z4, o, lent_at I2.hok z2, z3⟩
  have n1 : ¬ Lent H2 f := nl_of h1 fun o z => by unfold NdefX.FnO at z; cases z
  have n2 : ¬ Lent H2 c := nl_of h2 fun o z => by unfold LamX.CodeO at z; cases z
  refine wpAny_call (codeAny_mono ((F q hq).run f c cl X.A X.stack s2 (unl H2) us vs ws _ E0 hr (unl_env I2.env0) (unl_of h1 n1) (unl_of h2 n2) CA r hsp) fun r s' hq => ?_)
  cases r with
  | error e => exact hq.elim
  | ok fl =>
    cases fl with
    | ret u => exact I2.after (unl_end I2.env0 hq)
    | next => exact False.elim hq
    | brk => exact False.elim hq
    | cont => exact False.elim hq
end
section
variable {X : Cx} {pins : List (Addr × Obj)} {σ : L2.St} {H : Hp} {s s' : Shared} {cl : List (Str × Addr)} {fr : List Str} {js : List Nat}
open Classical in
/-- the captured cells are known for a while -/
noncomputable def lend (cl : List (Str × Addr)) (h : Heap) (H : Hp) : Hp := fun a => if ∃ y, cl.lookup y = some a then (h.get? a).map fun o => .frz o (.ext fun _ => True) else H a
open Classical in
noncomputable def dropC (cl : List (Str × Addr)) (H : Hp) : Hp := fun a => if ∃ y, cl.lookup y = some a then none else H a
theorem lend_in {h : Heap} {y : Str} {c : Addr} {o : Obj} (e : cl.lookup y = some c) (ho : h.get? c = some o) : lend cl h H c = some (.frz o (.ext fun _ => True)) := by unfold lend; rw [if_pos ⟨y, e⟩, ho] <;> rfl
theorem lend_out {h : Heap} {a : Addr} (n : ¬ ∃ y, cl.lookup y = some a) : lend cl h H a = H a := by unfold lend; rw [if_neg n]
theorem drop_in {a : Addr} (n : ∃ y, cl.lookup y = some a) : dropC cl H a = none := by unfold dropC; rw [if_pos n]
theorem drop_out {a : Addr} (n : ¬ ∃ y, cl.lookup y = some a) : dropC cl H a = H a := by unfold dropC; rw [if_neg n]
theorem lend_ext (C : NdefX.CellsAt cl fr (js.map (NdefX.slotAt σ)) s.heap H) : Xt H (lend cl s.heap H) := fun a u e => by
  by_cases n : ∃ y, cl.lookup y = some a
  · obtain ⟨y, n⟩ := n
    rw [(C.all y a n).1] at e; cases e
  · rw [lend_out n]; exact e
theorem lend_ok {P : Program} {w : World} (C : NdefX.CellsAt cl fr (js.map (NdefX.slotAt σ)) s.heap H) (x : HOk P w H s.heap) : HOk P w (lend cl s.heap H) s.heap := fun a u e => by
  by_cases n : ∃ y, cl.lookup y = some a
  · obtain ⟨y, n⟩ := n
    obtain ⟨_, v, o, ho, hd⟩ := C.all y a n
    rw [lend_in n ho] at e; cases e
    exact ⟨ho, trivial, ⟨o, ho⟩, fun _ _ _ _ => trivial⟩
  · rw [lend_out n] at e
    exact (x a u e).stay (fun b v _ q => q) (fun b q => lend_ext C _ _ q) fun b xs q => lend_ext C _ _ q
theorem lend_env (I : Inv X pins σ H s) (C : NdefX.CellsAt cl fr (js.map (NdefX.slotAt σ)) s.heap H) (hs : ∀ y c, cl.lookup y = some c → X.env.cells.lookup y = some c) (hfn : ∀ y c, cl.lookup y = some c → X.fn y = true) : Env0 X.prog X.w X.K X.mg X.base X.A X.stack s (lend cl s.heap H) := by
  have e := I.env0
  have hi : ∀ y c, cl.lookup y = some c → X.s_0.heap.objs.size ≤ c := fun y c z => I.ok.cab y c (hfn y c z) (hs y c z)
  refine ⟨e.frames, e.mod, fun b o z => ⟨(e.bs b o z).1, ?_⟩, e.bsz, e.funs, fun b m => ?_, lend_ok C e.hok, e.bare⟩
  · have n : ¬ ∃ y, cl.lookup y = some b := fun ⟨y, n⟩ => Nat.lt_irrefl _ (Nat.lt_of_lt_of_le (Heap.lt_size z) (Nat.le_trans I.ok.bsz (hi y b n)))
    rw [lend_out n]
    exact (e.bs b o z).2
  · have n : ¬ ∃ y, cl.lookup y = some b := fun ⟨y, n⟩ => by
      rcases List.mem_cons.mp (I.stkSub b m) with q | q
      · obtain ⟨_, v, o, ho, hd⟩ := C.all y b n
        obtain ⟨mm, ⟨o2, es, ep, h2, hd2, _⟩, _⟩ := I.loc
        rw [← q, ho] at h2
        cases h2
        rw [hd] at hd2; cases hd2
      · obtain ⟨_, o, ho, _⟩ := I.ok.funs.mem q
        exact absurd (Nat.lt_of_lt_of_le (Heap.lt_size ho) (hi y b n)) (Nat.lt_irrefl _)
    rw [lend_out n]
    exact e.frf b m
theorem lend_end {Q : VK} {v : Value} (I : Inv X pins σ H s) (C : NdefX.CellsAt cl fr (js.map (NdefX.slotAt σ)) s.heap H)
    (c : CE X.stack X.prog X.w (lend cl s.heap H) s (fun v H' => (∀ a o u, lend cl s.heap H a = some (.frz o u) → H' a = some (.frz o u)) → Q v (dropC cl H')) v s') : CE X.stack X.prog X.w H s Q v s' := by
  obtain ⟨x, H', os, bare, un, ok, r, q⟩ := c
  have no : ∀ {b : Addr} {u : HO}, H b = some u → ¬ ∃ y, cl.lookup y = some b := fun {b u} e ⟨y, n⟩ => by rw [(C.all y b n).1] at e; cases e
  have cellAt : ∀ {b : Addr}, (∃ y, cl.lookup y = some b) → ∃ o, s.heap.get? b = some o ∧ H' b = some (.frz o (.ext fun _ => True)) := fun {b} ⟨y, n⟩ => by
    obtain ⟨_, v, o, ho, hd⟩ := C.all y b n
    exact ⟨o, ho, un.frzs b o _ (lend_in n ho)⟩
  refine ⟨x, dropC cl H', os, bare, ⟨fun b o z n m mx => ?_, fun b o z n m mx => ?_, fun b o z n mx => ?_, un.there, fun b xs z => ?_, fun b o u z => ?_, fun b ps z => ?_⟩, fun a u z => ?_, r, q fun a o u z => un.frzs a o u z⟩
  · by_cases l : ∃ y, cl.lookup y = some b
    · obtain ⟨o', h1, h2⟩ := cellAt l
      rw [h1] at z; cases z
      exact (ok b _ h2).1
    · exact un.keep b o z (by rw [lend_out l]; exact n) m mx
  · by_cases l : ∃ y, cl.lookup y = some b
    · obtain ⟨o', h1, h2⟩ := cellAt l
      rw [h1] at z; cases z
      exact ⟨_, (ok b _ h2).1⟩
    · exact un.slot b o z (by rw [lend_out l]; exact n) m mx
  · by_cases l : ∃ y, cl.lookup y = some b
    · exact drop_in l
    · rw [drop_out l]
      exact un.free b o z (by rw [lend_out l]; exact n) mx
  · rw [drop_out (no z)]; exact un.tups b xs (by rw [lend_out (no z)]; exact z)
  · rw [drop_out (no z)]; exact un.frzs b o u (by rw [lend_out (no z)]; exact z)
  · rw [drop_out (no z)]; exact un.tbls b ps (by rw [lend_out (no z)]; exact z)
  · by_cases l : ∃ y, cl.lookup y = some a
    · rw [drop_in l] at z; cases z
    · rw [drop_out l] at z
      refine (ok a u z).stay (fun b v _ q => q) (fun b q => ?_) fun b xs q => ?_
      · rw [drop_out fun l => ?_]
        · exact q
        · obtain ⟨o, _, h2⟩ := cellAt l
          rw [h2] at q; cases q
      · rw [drop_out fun l => ?_]
        · exact q
        · obtain ⟨o, _, h2⟩ := cellAt l
          rw [h2] at q; cases q
end
section
variable {X : Cx} {W : NFd} {ps : List Str} {js : List Nat} {cl : List (Str × Addr)} {fd : FuncData} {f : Addr} {sp : Sp} {k : Nat} {ds : List Value} {x : Str} {e : Expr} {es : List Expr} {p pos : Pos} {t : TA}
theorem pe_callLend (F : FnOk X.prog X.w X.K X.mg X.base CX0 k f fd ps sp) (cp : X.Ok → NdefX.Caps X cl W.fr js) (hfn : ∀ y c, cl.lookup y = some c → X.fn y = true) (hr : Room k X.A) (hg : Gl X x) (hm : X.mg x = some (.ref f)) (hk : PySem.W.keepIn X.K (.ref f) = true) (hb : Binds X.K fd ps []) (ha : PA X (e :: es) t)
    (hdb : (x == ("__debug__" : Str)) = false := by decide) (he : starEach (e :: es) X.env = (false, eval e X.env) :: starEach es X.env := by rfl) (hpl : (backTo pos (starEach es X.env)).any (·.1) = false := by rfl) :
    PE X (.Call (.Name x p) (e :: es) [] pos) (fun σ H Q => t σ H fun vs H1 => ∀ HL : Hp, Xt H1 HL → (∀ y c, cl.lookup y = some c → H1 c = none) → (∀ a, (¬ ∃ y, cl.lookup y = some a) → HL a = H1 a) → (∀ ws : List V, js.map (NdefX.slotAt σ) = ws.map some → CellsV HL cl W.fr ws) → sp vs HL (fun v H' => (∀ a o u, HL a = some (.frz o u) → H' a = some (.frz o u)) → Q v (dropC cl H')) E0) := by
  refine ⟨fun pins s σ H Q I h => wpAny_Call_Name_kw (ld_glob I hg hm ?_ hdb)⟩
  refine PySem.W.callWith_K (h₀ := X.base) I.ok.mod.kin hk (thn (ha.run pos pins s σ H _ I h) ?_) he hpl
  rintro us s1 ⟨vs, H1, I1, r, q1⟩
  refine ⟨I1.kIn, ?_⟩
  have cap := cp I1.ok
  have C := NdefX.cells_of I1 cap
  have q2 := q1 (lend cl s1.heap H1) (lend_ext C) (fun y c z => (C.all y c z).1) (fun a n => lend_out n) fun ws ew => by
    have C' : NdefX.CellsAt cl W.fr (ws.map some) s1.heap H1 := ew ▸ C
    refine ⟨by rw [← C'.len, List.length_map], fun y c z => ?_, C.inj, fun i y v h1 h2 => ?_⟩
    · obtain ⟨_, v, o, ho, hd⟩ := C.all y c z
      exact ⟨o, v, lend_in z ho, hd⟩
    · obtain ⟨c, hc, hv⟩ := C'.has i y h1
      obtain ⟨u, ru, o, ho, hd⟩ := hv v (by rw [List.getElem?_map, h2] <;> rfl)
      exact ⟨c, o, u, hc, lend_in hc ho, hd, ru⟩
  have hl : us.length = ps.length := r.length ▸ F.len _ _ _ _ q2
  have b := hb s1 us I1.kIn (by simpa using hl)
  rw [List.append_nil] at b
  refine wpAny_call (codeAny_mono (F.run X.A X.stack s1 (lend cl s1.heap H1) ⟨us, []⟩ us vs _ E0 hr (lend_env I1 C cap.sub hfn) b r q2) ?_)
  rintro (e | fl) s' hq
  · exact hq.elim
  · cases fl with
    | ret u => exact I1.after (lend_end I1 C hq)
    | next => exact hq.elim
    | brk => exact hq.elim
    | cont => exact hq.elim
end
end DL
namespace DL
open PySem L2 LamX
/-- the program's tables are known -/
def TabsA (nf : NFs) (H : Hp) : Prop := ∀ P ∈ nf.tbs, NdefX.TabN H P nf.nm
class TabAnch (nf : NFs) [Anch nf] : Prop where
  tab : ∀ {fp H}, Anch.p nf fp H → TabsA nf H
theorem TabsA.ch {nf : NFs} {fp fp' : List Addr} {H H' : Hp} (t : TabsA nf H) (c : Ch nf fp H fp' H') : TabsA nf H' := fun P hP => c.tab P (fun _ => t P hP) hP
section
variable {X : Cx} {nf : NFs} [Anch nf] {K : PySem.W.Frag}
def sNdef (cs : List (Str × Addr)) (i : Nat) (W : NFd) : DTS nf := fun De env => i < env.length ∧ De.nx (env.set i (.fz (.fn0 W (cloFrom cs W.scope.names []))))
theorem ds_ndef {st : Stmt} {c P : Addr} {name : Str} {pos : Pos} {i : Nat} {W : NFd} (tb : TabAnch nf) (hW : W = ⟨name, X.env.qual ++ name, C8.fnArgs st, C8.fnBody st, C8.fnScope st, W.fr⟩) (hst : st = .FunctionDef name (C8.fnArgs st) (C8.fnBody st) [] none [] (C8.fnScope st) none name pos) (TB : TabB X.base X.mg c P) (hcode : X.env.code = .ref c) (hm : P ∈ nf.tbs)
    (hn : nf.nm pos.line pos.col = X.env.qual ++ name) (hfree : ∀ y ∈ (C8.fnScope st).names, y.2 = .free → X.env.scope.names.lookup y.1 = some .cell ∨ X.env.scope.names.lookup y.1 = some .free) (hd0 : (C8.fnArgs st).defaults = []) (hk0 : (C8.fnArgs st).kw_defaults = []) (ha : annTrees (C8.fnArgs st) none X.env = [])
    (hN : X.N.Nodup) (hi : X.N[i]? = some name) (hx : Loc X.env.scope name) (hf : X.fn name = true ∨ X.env.scope.names.lookup name = some .local) : DS X nf st (sNdef X.env.cells i W) := by
  have q := NdefX.ps_ndefMS (X := X) (T := nf.tbs.map fun P => (P, nf.nm)) (nm := nf.nm) hst TB hcode (List.mem_map.mpr ⟨P, hm, rfl⟩) hn (fun p hp _ => by
    obtain ⟨_, _, e⟩ := List.mem_map.mp hp
    rw [← e]) hfree hd0 hk0 ha hN hi hx hf
  refine ps_imp q fun E σ H ⟨env, fp, De, R, ⟨hl, q⟩, br⟩ => ?_
  have T0 : NdefX.TabsN (nf.tbs.map fun P => (P, nf.nm)) H := fun p hp => by
    obtain ⟨P', hP, e⟩ := List.mem_map.mp hp
    rw [← e]
    exact tb.tab R.2 P' hP
  refine ⟨T0, fun f c' H1 eN nn T1 f0 f1 c1 => ?_⟩
  have st1 : Stp nf H H1 := fun a u e f => eN a u e (fzn_pl f)
  have ch : Ch nf fp H fp H1 := ⟨fun a u e _ t => eN a u e t, fun _ m => .inl m, nn, fun P' _ hP => T1 _ (List.mem_map.mpr ⟨P', hP, rfl⟩)⟩
  have R1 : EnvR X.K nf H1 σ env fp := R.re (R.1.frame (fun a m => by
    obtain ⟨u, e, _, p⟩ := R.trk a m
    rw [e]; exact eN a u e p.1) st1) ch
  have rel : Rel X.K nf H1 (.ref f) (.fn0 W (cloFrom X.env.cells W.scope.names [])) := .fn0 ⟨c', by rw [hW]; exact f1, by rw [hW]; exact c1⟩
  obtain ⟨fp2, R2, c2⟩ := R1.setFz hl rel
  exact br.nx _ _ _ fp2 R2 (ch.trans c2) q
def toSpN (K : PySem.W.Frag) (nf : NFs) (n : Nat) (S : List D → SpD nf) : List V → Sp := fun ws vs H Q _ => vs.length = n ∧ ∃ ds as fp Qd, Rels K nf H ws ds ∧ as.length = n ∧ EnvL K nf H (vs.map some) as fp ∧ S ds as Qd ∧
  ∀ v H' d as' fp', as'.length = n → Rel K nf H' v d → EnvL K nf H' (vs.map some) as' fp' → Ch nf fp H fp' H' → Qd d as' → Q v H'
theorem envL_fz {H : Hp} : ∀ {vs : List V} {ds : List D}, Rels K nf H vs ds → EnvL K nf H (vs.map some) (ds.map .fz) []
  | _, _, .nil => .nil
  | _, _, @Rels.cons _ _ _ v vs d ds h r => by
    have := EnvL.cons (show SlotR K nf H (some v) [] (.fz d) from ⟨rfl, v, rfl, h⟩) (envL_fz r) fun a m => by cases m
    exact this
theorem EnvL.app0 {H : Hp} {σ2 : St} {env2 : EV nf} (r : EnvL K nf H σ2 env2 []) : ∀ {σ : St} {env : EV nf} {fp : List Addr}, EnvL K nf H σ env fp → EnvL K nf H (σ ++ σ2) (env ++ env2) fp
  | _, _, _, .nil => r
  | _, _, _, .cons hs hr hd => .cons hs (EnvL.app0 r hr) hd
end
section
variable {X : Cx} {nf : NFs} {K : PySem.W.Frag}
theorem body_okN {body : List Stmt} {td : DTS nf} {N : List Str} {n m : Nat} {S : List D → SpD nf} (h : DSs X nf body td) (hn : n + m ≤ N.length)
    (hb : ∀ ds as Qd, ds.length = m → as.length = n → S ds as Qd → td (fnEnds as Qd) (as ++ (ds.map .fz ++ List.replicate (N.length - n - m) .un)))
    {ws vs : List V} {H : Hp} {Q : VK} {E : XK} (hw : ws.length = m) (hs : toSpN X.K nf n S ws vs H Q E) : ∃ t, PSs X body t ∧ t { nx := fun _ H' => Q .non H', rt := Q } (NdefX.startF N vs (ws.map some)) H := by
  obtain ⟨hv, ds, as, fp, Qd, rw1, hl, R, s, k⟩ := hs
  have hd : ds.length = m := by rw [← rw1.length, hw]
  have R0 : EnvL X.K nf H (NdefX.startF N vs (ws.map some)) (as ++ (ds.map .fz ++ List.replicate (N.length - n - m) .un)) fp := by
    unfold NdefX.startF
    have r2 := (envL_fz (nf := nf) rw1).pad (N.length - n - m)
    have := EnvL.app0 r2 R
    rw [hv, List.length_map, hw]
    exact this
  refine ⟨_, h, as ++ (ds.map .fz ++ List.replicate (N.length - n - m) .un), fp, fnEnds as Qd, ⟨R0, trivial⟩, hb ds as Qd hd hl s, ?_⟩
  refine ⟨fun σ' H' env' fp' R' c ⟨b, q⟩ => ?_, fun v d σ' H' env' fp' r R' c ⟨b, q⟩ => ?_, fun σ' H' env' fp' R' c q => q.elim, fun σ' H' env' fp' R' c q => q.elim, fun _ _ _ _ _ _ _ _ _ _ _ q => q.elim⟩
  · obtain ⟨fq, R2, sub⟩ := EnvL.back (c.stpL R0) R R'.1 b
    exact k .non H' .non _ fq (by rw [back_len, hl]) .non R2 ⟨c.keep, fun a m => c.sub a (sub a m), c.there, c.tab⟩ q
  · obtain ⟨fq, R2, sub⟩ := EnvL.back (c.stpL R0) R R'.1 b
    exact k v H' d _ fq (by rw [back_len, hl]) r R2 ⟨c.keep, fun a m => c.sub a (sub a m), c.there, c.tab⟩ q
def toSpT (K : PySem.W.Frag) (nf : NFs) (n : Nat) (S : SpD nf) : Sp := fun vs H Q E => TabsA nf H ∧ toSp K nf n S vs H Q E
theorem body_okT {body : List Stmt} {td : DTS nf} {N : List Str} {n : Nat} {S : SpD nf} (h : ∀ (A : Anch nf), @TabAnch nf A → @DSs X nf A body td) (hn : n ≤ N.length) (hb : ∀ as Qd, as.length = n → S as Qd → td (fnEnds as Qd) (as ++ List.replicate (N.length - n) .un))
    {vs : List V} {H : Hp} {Q : VK} {E : XK} (hs : toSpT X.K nf n S vs H Q E) : ∃ t, PSs X body t ∧ t { nx := fun _ H' => Q .non H', rt := Q } (start N vs) H := by
  obtain ⟨ht, hv, as, fp, Qd, hl, R, s, k⟩ := hs
  let A : Anch nf := ⟨fun _ H' => TabsA nf H', fun p c => p.ch c⟩
  have R0 : EnvL X.K nf H (start N vs) (as ++ List.replicate (N.length - n) .un) fp := by
    have := R.pad (N.length - n)
    rw [← hv] at this ⊢
    exact this
  refine ⟨_, h A ⟨fun p => p⟩, as ++ List.replicate (N.length - n) .un, fp, fnEnds as Qd, ⟨R0, ht⟩, hb as Qd hl s, ?_⟩
  refine ⟨fun σ' H' env' fp' R' c ⟨b, q⟩ => ?_, fun v d σ' H' env' fp' r R' c ⟨b, q⟩ => ?_, fun σ' H' env' fp' R' c q => q.elim, fun σ' H' env' fp' R' c q => q.elim, fun _ _ _ _ _ _ _ _ _ _ _ q => q.elim⟩
  · obtain ⟨fq, R2, sub⟩ := EnvL.back (c.stpL R0) R R'.1 b
    exact k .non H' .non _ fq (by rw [back_len, hl]) .non R2 ⟨c.keep, fun a m => c.sub a (sub a m), c.there, c.tab⟩ q
  · obtain ⟨fq, R2, sub⟩ := EnvL.back (c.stpL R0) R R'.1 b
    exact k v H' d _ fq (by rw [back_len, hl]) r R2 ⟨c.keep, fun a m => c.sub a (sub a m), c.there, c.tab⟩ q
end
section
variable {X : Cx} {nf : NFs} [Anch nf] {K : PySem.W.Frag} {CX : CXT} {i k n : Nat} {f : Addr} {fd : FuncData} {ps : List Str} {S : SpD nf} {dvs : List V} {dds : List D} {ds : List Value} {E : XK} {x : Str} {p pos : Pos} {e : Expr} {es : List Expr}
theorem de_callTb {r : DM nf} (tb : TabAnch nf) (F : FnOk X.prog X.w X.K X.mg X.base CX k f fd ps (toSpT X.K nf n S)) (hr : Room k X.A) (hg : Gl X x) (hm : X.mg x = some (.ref f)) (hk : PySem.W.keepIn X.K (.ref f) = true) (hb : Binds X.K fd ps ds) (hd : Vals dvs ds) (hdd : ∀ H, Rels X.K nf H dvs dds) (hx : Passes CX X E)
    (ha : DAM X nf (e :: es) r) (hdb : (x == ("__debug__" : Str)) = false := by decide) (he : starEach (e :: es) X.env = (false, eval e X.env) :: starEach es X.env := by rfl) (hpl : (backTo pos (starEach es X.env)).any (·.1) = false := by rfl) :
    DE X nf (.Call (.Name x p) (e :: es) [] pos) (dCall n S dds r) := pe_imp (pe_call F hr hg hm hk hb hd hx ha hdb he hpl) fun σ H Q h => by
  obtain ⟨env, fp, Qd, R, h, k⟩ := h
  refine ⟨env, fp, _, R, h, fun vs H1 ads env1 fp1 r1 R1 c1 ⟨hl, nd, hin, s⟩ => ⟨tb.tab R1.2, ?_⟩⟩
  exact sp_run R1 (r1.app id (hdd H1)) (by rw [List.length_append, List.length_map, hl]) nd hin s fun v H' d env' fp' r' R' c' q => k v H' d env' fp' r' R' (c1.trans c') q
def dCallF (Ws : List (NFd × (List D → SpD nf))) (n i : Nat) (r : DAs nf) : DT nf := fun env Q => ∃ q ds, q ∈ Ws ∧ env[i]? = some (.fz (.fn q.1 ds)) ∧ noFns ds = true ∧ r env fun xs env1 => xs.length = n ∧ noFns xs = true ∧ env1[i]? = some (.fz (.fn q.1 ds)) ∧ q.2 ds (xs.map .fz) fun d _ => Q d env1
theorem unl_L {nf : NFs} {H : Hp} : StpL nf H (unl H) := fun a u e _ n => unl_of e n
theorem tabQ_sub {nf : NFs} {H H' : Hp} {P : Addr} (h : ∀ a u, H a = some u → (∀ o v, u ≠ .frz o v) → H' a = some u) (t : TabQ nf H P) : TabQ nf H' P := fun hP => by
  obtain ⟨ps, h1, h2, h3⟩ := t hP
  refine ⟨ps, h _ _ h1 (fun o v z => by cases z), h2, fun pos cv hc => ?_⟩
  obtain ⟨c, e1, e2⟩ := h3 pos cv hc
  exact ⟨c, e1, h _ _ e2 fun o v z => by unfold CodeO at z; cases z⟩
theorem de_callF {Ws : List (NFd × (List D → SpD nf))} {r : DAs nf} (F : ∀ q ∈ Ws, NokC X.prog X.w X.K X.mg X.base CX0 k q.1 ps (toSpN X.K nf n q.2)) (hr : Room k X.A) (hN : X.N[i]? = some x) (hv : Vis X.env.scope x) (ha : DA X nf (e :: es) r)
    (hd : (x == ("__debug__" : Str)) = false := by decide) (hcd : (x == ("__classdict__" : Str)) = false := by decide)
    (he : starEach (e :: es) X.env = (false, eval e X.env) :: starEach es X.env := by rfl) (hpl : (backTo pos (starEach es X.env)).any (·.1) = false := by rfl) :
    DE X nf (.Call (.Name x p) (e :: es) [] pos) (dCallF Ws n i r) := by
  refine pe_imp (pe_callC (ps := ps) (Ws := Ws.map fun q => (q.1, toSpN X.K nf n q.2)) (fun q hq => ?_) hr hN hv ha hd hcd he hpl) fun σ H Q h => ?_
  · obtain ⟨q', hq', rfl⟩ := List.mem_map.mp hq
    exact F q' hq'
  · obtain ⟨env, fp, Qd, R, ⟨q, ds, hq, ei, nds, h⟩, k⟩ := h
    obtain ⟨o, fi, eo, ⟨_, v, ev, rf⟩, _⟩ := R.at ei
    subst ev
    cases rf with
    | @fn f W cl ws _ hF hC rw1 =>
      refine ⟨f, (q.1, toSpN X.K nf n q.2), cl, List.mem_map.mpr ⟨q, hq, rfl⟩, eo, hF, env, fp, _, R, h, fun vs H1 xs env1 fp1 r1 R1 c1 ⟨hl, nx, ei1, s⟩ => ?_⟩
      obtain ⟨o1, fi1, eo1, ⟨_, v1, ev1, rf1⟩, _⟩ := R1.at ei1
      rw [eo] at eo1
      have eo2 : some (V.ref f) = o1 := Option.some.inj eo1
      rw [← eo2] at ev1
      cases ev1
      cases rf1 with
      | @fn _ _ cl1 ws1 _ hF1 hC1 rw2 =>
        have xs1 := Rels.toL (unl_L (nf := nf) (H := H1)) r1 nx
        refine ⟨ws1, cl1, hF1, hC1, by rw [r1.length, hl], ds, xs.map .fz, [], _, Rels.toL (unl_L (nf := nf) (H := H1)) rw2 nds, by rw [List.length_map, hl], envL_fz xs1, s, fun v H' d as' fp' _ rel _ c qd gone => ?_⟩
        have sup : ∀ a u, H' a = some u → rel2 H1 H' a = some u := fun a u z => rel2_sup gone z
        have kp : ∀ a u, H1 a = some u → (∀ ps, u ≠ .tbl ps) → rel2 H1 H' a = some u := fun a u z t => by
          by_cases l : Lent H1 a
          · rw [rel2_lent l]; exact z
          · rw [rel2_not l]; exact c.keep a u (unl_of z l) (fun m => by cases m) t
        have st1 : Stp nf H1 (rel2 H1 H') := fun a u z f => kp a u z (fzn_pl f)
        have th : ∀ a, rel2 H1 H' a = none → H1 a = none := fun a z => by
          by_cases l : Lent H1 a
          · rw [rel2_lent l] at z; exact z
          · rw [rel2_not l] at z
            have z1 := c.there a z
            cases e0 : H1 a with
            | none => rfl
            | some u => rw [unl_of e0 l] at z1; cases z1
        have ch : Ch nf fp1 H1 fp1 (rel2 H1 H') := ⟨fun a u z _ t => kp a u z t, fun _ m => .inl m, th, fun P t => tabQ_sub (fun a u z _ => sup a u z) (c.tab P (tabQ_sub (fun a u z nz => unl_of z (nl_of z fun o => nz o _)) t))⟩
        exact k v _ d env1 fp1 (rel.mono fun a u z _ => sup a u z) (R1.re (R1.1.frame (fun a m => by
          obtain ⟨u, e, _, p⟩ := R1.trk a m
          rw [e]; exact kp a u e p.1) st1) ch) (c1.trans ch) qd
def capD : EV nf → List Nat → List D → Prop
  | _, [], [] => True
  | env, j :: js, d :: ds => env[j]? = some (.fz d) ∧ capD env js ds
  | _, _, _ => False
theorem cap_vals {H : Hp} {σ : St} {env : EV nf} {fp : List Addr} (R : EnvR K nf H σ env fp) : ∀ {js : List Nat} {ds : List D}, capD env js ds → ∃ ws : List V, js.map (NdefX.slotAt σ) = ws.map some ∧ Rels K nf H ws ds
  | [], [], _ => ⟨[], rfl, .nil⟩
  | j :: js, d :: ds, h => by
    obtain ⟨e, h⟩ := h
    obtain ⟨ws, e1, r⟩ := cap_vals R h
    obtain ⟨o, fi, eo, ⟨_, v, ev, rv⟩, _⟩ := R.at e
    subst ev
    exact ⟨v :: ws, by rw [List.map_cons, List.map_cons, e1, NdefX.slotAt_of eo], .cons rv r⟩
  | [], _ :: _, h => h.elim
  | _ :: _, [], h => h.elim
theorem rels_swap {H : Hp} {d d' : D} (sw : ∀ v, Rel K nf H v d → Rel K nf H v d') : ∀ {pre post : List D} {vs : List V}, Rels K nf H vs (pre ++ d :: post) → Rels K nf H vs (pre ++ d' :: post)
  | [], _, _, .cons h r => .cons (sw _ h) r
  | _ :: pre, _, _, .cons h r => .cons h (rels_swap (pre := pre) sw r)
def dCallL (cs : List (Str × Addr)) (W : NFd) (js : List Nat) (n : Nat) (S : SpD nf) (r : DAs nf) : DT nf := fun env Q => r env fun xs env1 => xs.length = n ∧ ∃ pre post ds, xs = pre ++ .fn0 W (cloFrom cs W.scope.names []) :: post ∧ capD env1 js ds ∧
  S ((pre ++ .fn W ds :: post).map .fz) fun d _ => noFn d = true ∧ Q d env1
theorem de_callL {W : NFd} {js : List Nat} {r : DAs nf} (F : FnOk X.prog X.w X.K X.mg X.base CX0 k f fd ps (toSp X.K nf n S)) (cp : X.Ok → NdefX.Caps X (cloFrom X.env.cells W.scope.names []) W.fr js) (hfn : ∀ y c, (cloFrom X.env.cells W.scope.names []).lookup y = some c → X.fn y = true) (hr : Room k X.A) (hg : Gl X x) (hm : X.mg x = some (.ref f)) (hk : PySem.W.keepIn X.K (.ref f) = true) (hb : Binds X.K fd ps []) (ha : DA X nf (e :: es) r)
    (hdb : (x == ("__debug__" : Str)) = false := by decide) (he : starEach (e :: es) X.env = (false, eval e X.env) :: starEach es X.env := by rfl) (hpl : (backTo pos (starEach es X.env)).any (·.1) = false := by rfl) :
    DE X nf (.Call (.Name x p) (e :: es) [] pos) (dCallL X.env.cells W js n S r) := by
  refine pe_imp (pe_callLend (W := W) (js := js) F cp hfn hr hg hm hk hb ha hdb he hpl) fun σ H Q h => ?_
  obtain ⟨env, fp, Qd, R, h, k⟩ := h
  refine ⟨env, fp, _, R, h, fun vs H1 xs env1 fp1 r1 R1 c1 ⟨hl, pre, post, ds, ex, cap, s⟩ HL xt hnone hout hcells => ?_⟩
  subst ex
  obtain ⟨ws, ew, rw1⟩ := cap_vals R1 cap
  have CV := hcells ws ew
  have stL : Stp nf H1 HL := xt.stp
  have rL := rels_swap (K := X.K) (nf := nf) (H := HL) (d := .fn0 W (cloFrom X.env.cells W.scope.names [])) (d' := .fn W ds) (fun v z => by
    cases z with
    | fn0 hF => exact .fn hF CV (rw1.mono stL)) (r1.mono stL)
  refine ⟨by rw [r1.length, hl], _, [], _, by rw [List.length_map, ← rL.length, r1.length, hl], envL_fz rL, s, fun v H' d as' fp' _ rel _ c ⟨nfd, qd⟩ frz => ?_⟩
  have kp : ∀ a u, H1 a = some u → (∀ ps, u ≠ .tbl ps) → dropC (cloFrom X.env.cells W.scope.names []) H' a = some u := fun a u z t => by
    rw [drop_out fun ⟨y, n⟩ => by rw [hnone y a n] at z; cases z]
    exact c.keep a u (xt a u z) (fun m => by cases m) t
  have st1 : Stp nf H1 (dropC (cloFrom X.env.cells W.scope.names []) H') := fun a u z f => kp a u z (fzn_pl f)
  have atC : ∀ a, (∃ y, (cloFrom X.env.cells W.scope.names []).lookup y = some a) → Lent H' a := fun a ⟨y, n⟩ => by
    obtain ⟨o, v, z1, z2⟩ := CV.all y a n
    exact ⟨o, v, frz _ _ _ z1, z2⟩
  have dL : StpL nf H' (dropC (cloFrom X.env.cells W.scope.names []) H') := fun a u z _ nl => by
    rw [drop_out fun n => nl (atC a n)]
    exact z
  have ch : Ch nf fp1 H1 fp1 (dropC (cloFrom X.env.cells W.scope.names []) H') := ⟨fun a u z _ t => kp a u z t, fun _ m => .inl m, fun a z => by
    by_cases n : ∃ y, (cloFrom X.env.cells W.scope.names []).lookup y = some a
    · obtain ⟨y, n⟩ := n
      exact hnone y a n
    · rw [drop_out n] at z
      rw [← hout a n]
      exact c.there a z, fun P t => tabQ_sub (fun a u z nz => by
        rw [drop_out fun n => ?_]
        · exact z
        · obtain ⟨o, v, z1, _⟩ := atC a n
          rw [z] at z1
          exact nz o _ (Option.some.inj z1)) (c.tab P (t.ext xt))⟩
  exact k v _ d env1 fp1 (rel.toL dL nfd) (R1.re (R1.1.frame (fun a m => by
    obtain ⟨u, e, _, p⟩ := R1.trk a m
    rw [e]; exact kp a u e p.1) st1) ch) (c1.trans ch) qd
end
end DL
namespace DL
open PySem PySem.Spec PyProof.Rows L2 RZ
open Sem (wp)
set_option maxHeartbeats 8000000 in
theorem meets_enum1 {v : Value} {o : Obj} {H : Heap → Prop} (B : Begins v o H) :
    Meets (Builtin.«enumerate.__new__» ⟨[.type "enumerate", v], []⟩) (fun _ R s => H s.heap ∧
      R (.ok (.ret (.ref (s.heap.push o).objs.size))) { s with heap := (s.heap.push o).push { cls := .type "enumerate", data := .fields #[.none, .bool false, .ref s.heap.objs.size, rawInt 0, .none, .none] } }) :=
  .of_wp fun prog w A R s h => by
    obtain ⟨hp, g, d, tk, os⟩ := s; obtain ⟨h1, h⟩ := h
    have hsub := sub_enumerate
    have q1 : ∀ {A' : Around} {E : Value → Shared → Prop} {Q : Value → Shared → Prop}, Q (.ref hp.objs.size) ⟨hp.push o, g, d, tk, os⟩ → wpAny (model prog w) A' (pyIter v) Q E ⟨hp, g, d, tk, os⟩ :=
      fun q => B.iter prog w _ _ ⟨hp, g, d, tk, os⟩ _ h1 q
    wp_walk using q1
    refine wpAny_stack_any fun st => wpAny_pure ?_
    split
    · rename_i c _ _ _ _ _
      cases (c == Value.type "enumerate")
      · wp_walk using q1
        exact ⟨_, rfl, h⟩
      · wp_walk using q1
        exact ⟨_, rfl, h⟩
    · wp_walk using q1
      exact ⟨_, rfl, h⟩
section
variable {prog : Program} {w : World} {A : Around} {E : Value → Shared → Prop} {s : Shared}
theorem call_enum1 {v : Value} {o : Obj} {H : Heap → Prop} {Q : Value → Shared → Prop} (B : Begins v o H) (h1 : H s.heap)
    (h : ∀ h', IsEnum h' (s.heap.objs.size + 1) s.heap.objs.size 0 .none → h'.get? s.heap.objs.size = some o → h'.objs.size = s.heap.objs.size + 2 → (∀ b o, s.heap.get? b = some o → h'.get? b = some o) → Q (.ref (s.heap.objs.size + 1)) { s with heap := h' }) :
    wpAny (model prog w) A (call (.type "enumerate") [v]) Q E s := by
  refine callType_new F.called_enumerate (by decide) (F.typeCall_enumerate_1 _) (F.newCall_enumerate_1 _) (fun obj => F.args_object_init_2 obj _) F.entry_enumerate_new (meets_enum1 B) ⟨h1, ?_⟩
  have hz : (s.heap.push o).objs.size = s.heap.objs.size + 1 := Heap.size_push ..
  show _ ∧ _
  rw [hz]
  have he : IsEnum ((s.heap.push o).push { cls := .type "enumerate", data := .fields #[.none, .bool false, .ref s.heap.objs.size, rawInt 0, .none, .none] }) (s.heap.objs.size + 1) s.heap.objs.size 0 .none := by
    have := Heap.get?_push_size (s.heap.push o) (o := { cls := .type "enumerate", data := .fields #[.none, .bool false, .ref s.heap.objs.size, rawInt 0, .none, .none] }) rfl
    rw [hz] at this; exact this
  exact ⟨⟨_, he, rfl⟩, h _ he (Heap.get?_push_of_some _ (Heap.get?_push_size _ B.free)) (by rw [Heap.size_push, hz]) fun b o x => Heap.get?_push_of_some _ (Heap.get?_push_of_some _ x)⟩
end
/-- the tuple at a, each item in a new pair behind its place -/
def IteT (K : PySem.W.Frag) (a : Addr) : It :=
  ⟨fun i H => ∃ (xs : List V) (x : V), SqT K H a xs ∧ xs[i]? = some x, fun i H v H' => ∃ T x, v = .ref T ∧ H T = none ∧ H' = upd H T (.tup [.int (i : Nat), x]) ∧ ∀ xs, SqT K H a xs → xs[i]? = some x, fun i H => ∃ xs : List V, SqT K H a xs ∧ xs.length ≤ i⟩
theorem turn_enumT {P : Program} {w : World} {K : PySem.W.Frag} {elts : List Expr} {kk : Nat} {tpos : Pos} (a e it : Addr) (hai : a ≠ it) (hae : a ≠ e) :
    Turn P w K (.Tuple elts kk tpos) (IteT K a) [e, it] e (fun i h => (∃ old, IsEnum h e it ((i : Nat) : Int) old) ∧ h.IsTupleIter it a i ∧ e ≠ it) where
  mem := by simp
  obj := fun i h st b hb => by
    obtain ⟨⟨old, he⟩, ⟨o, ho, hc, hd⟩, _⟩ := st
    have e' : b = e ∨ b = it := by simpa using hb
    rcases e' with z | z
    · rw [z]; exact ⟨_, he, fun v q => nomatch q⟩
    · rw [z]; exact ⟨o, ho, fun v q => by rw [hd] at q; cases q⟩
  keep := fun i h h' st k => let ⟨⟨old, he⟩, hi, hne⟩ := st; ⟨⟨old, k e (by simp) _ he⟩, hi.at fun o q => k it (by simp) o q, hne⟩
  item := by
    intro X hP hw hK hc i pins s σ H E I hf st hg
    subst hP hw hK
    obtain ⟨⟨old, he⟩, hit, hne⟩ := st
    obtain ⟨xs, x, hq, hx⟩ := hg
    obtain ⟨its, rv, p, hz⟩ := I.tuple hq
    obtain ⟨u, hu, ru⟩ := rv.get hx
    have hel : e < s.heap.objs.size := Heap.lt_size he
    have hil : it < s.heap.objs.size := by obtain ⟨_, q, _⟩ := hit; exact Heap.lt_size q
    have hsz : i < its.toArray.size := by
      have := (List.getElem?_eq_some_iff.mp hu).1
      simpa using this
    refine wpAny_pyNext_enum_itemD (Draws.tuple (A := X.A.in1) (I.ok.hd hc) it a hai its.toArray) he ⟨hit, (show s.heap.IsTuple a its.toArray from p)⟩ hsz hne (by simp [hne, Ne.symm hae]) fun x' h' tk hP ho hs' hT hsz' hk => ?_
    obtain ⟨hit', _⟩ := hs'
    have ex : x' = u := by
      have h1 : its.toArray[i]? = some x' := hP
      have h2 : its.toArray[i]? = some u := by simpa using hu
      rw [h1] at h2; exact Option.some.inj h2
    subst ex
    refine ⟨_, rfl, wpAny_letOwnedTupleGo_enum (s := { s with heap := h', toks := tk + 1 }) ho fun h'' he' sb => ?_⟩
    have hT2 : h''.get? s.heap.objs.size = some { cls := .type "tuple", data := .seq #[.int i tk, x'] } := (sb.2 _ (Nat.ne_of_gt hel)).trans hT
    have new : ObjOk X.prog X.w (upd H s.heap.objs.size (.tup [.int (i : Nat), x])) h'' s.heap.objs.size (.tup [.int (i : Nat), x]) :=
      ⟨by show 2 ≤ sizeLine; decide, [.int i tk, x'], .cons ⟨_, rfl⟩ (.cons ru .nil), ⟨_, hT2, rfl, _, rfl⟩⟩
    have I1 : Inv X pins σ (upd H s.heap.objs.size (.tup [.int (i : Nat), x])) { s with heap := h'', toks := tk + 1 } :=
      I.turnedNew (ch := [e, it]) (fun b ob hb q => (sb.2 b (fun z => hb (by simp [z]))).trans (hk b ob (fun z => hb (by simp [z])) (fun z => hb (by simp [z])) q)) hf (Nat.le_refl _) new
    refine ⟨.ref s.heap.objs.size, _, I1, rfl, ⟨_, x, rfl, I.hok.fresh (Nat.le_refl _), rfl, fun ys hy => by rw [I.tuple_inj hy hq]; exact hx⟩, ⟨⟨x', ?_⟩, hit'.at fun o q => (sb.2 it (Ne.symm hne)).trans q, hne⟩, fun b hb => ?_⟩
    · have e1 : ((i + 1 : Nat) : Int) = (i : Int) + 1 := by omega
      rw [e1]; exact he'
    · have hb' : b < s.heap.objs.size := by
        have e' : b = e ∨ b = it := by simpa using hb
        rcases e' with z | z
        · rw [z]; exact hel
        · rw [z]; exact hil
      rw [upd_ne (Nat.ne_of_lt hb')]
      exact (hf b hb).1
  done := by
    intro X hP hw hK hc i pins s σ H E I hf st hg
    subst hP hw hK
    obtain ⟨⟨old, he⟩, hit, hne⟩ := st
    obtain ⟨xs, hq, hx⟩ := hg
    obtain ⟨its, rv, p, hz⟩ := I.tuple hq
    obtain ⟨f0, f1, f2, f3, f4, f5⟩ := hf it (by simp)
    have hl := rv.length
    have hT : s.TypeIs (.ref e) "enumerate" := ⟨_, he, rfl⟩
    unfold pyNext
    refine wpAny_bind (wpAny_attempt (wpAny_callSpecial?_slot (name := Str.ofString "__next__") hT F.slot_enumerate_next
      (wpAny_call_entry F.slot_enumerate_next hT F.entry_enumerate_next ?_ (F.args_enumerate_next_1 _))))
    show wpAny _ _ (field (.ref e) 2 >>= _) _ _ _
    refine wpAny_bind (wpAny_field he rfl (x := .ref it) rfl ?_)
    refine wpAny_bind (wpAny_nextOf_tuple_end (I.ok.hd hc) hit (show s.heap.IsTuple a its.toArray from p) (by simp; omega) fun h' x he' hx' => ?_)
    obtain ⟨o, ho, hc'⟩ := hx'
    refine wpAny_bind (wpAny_isInstance (T := "StopIteration") (b := true) ⟨o, ho, hc'⟩ isSubtype_stop ?_)
    exact wpAny_pure ⟨rfl, I.turned (t' := s.toks) (fun b o hb e => he' b o hb e) f0 f1 f3 f4 f5⟩
  self := fun A i s Q E st h => let ⟨⟨_, he⟩, _⟩ := st; wpAny_pyIter_enum he h
def iEnumT (K : PySem.W.Frag) (ta : TA) : TI := fun σ H R => ta σ H fun vs H1 => ∃ a xs, vs = [.ref a] ∧ ((SqL K H1 a xs ∧ R (Ite K a) H1) ∨ (SqT K H1 a xs ∧ R (IteT K a) H1))
theorem pi_enumT {X : Cx} {e : Expr} {ta : TA} {p pos tpos : Pos} {elts : List Expr} {kk : Nat} (hg : Gl X "enumerate") (hm : X.mg "enumerate" = none) (ha : PA X [e] ta) (hs : starEach [e] X.env = [(false, eval e X.env)] := by rfl) :
    PI X (.Tuple elts kk tpos) (.Call (.Name "enumerate" p) [e] [] pos) (iEnumT X.K ta) := by
  refine ⟨fun pins s σ H R I h => ?_⟩
  refine Call_ (ld_blt I hg hm boot_enumerate (PyProof.Rows.callWith_type1 (thn (ha.run pos pins s σ H _ I h) fun us s1 ⟨vs, H1, I1, r1, q1⟩ => ?_) hs rfl))
  obtain ⟨a, xs, ex, q⟩ := q1
  subst ex
  cases r1 with
  | cons r rr =>
    cases rr
    cases r
    have fresh2 : ∀ b, b ∈ [s1.heap.objs.size + 1, s1.heap.objs.size] → FpOk X pins H1 b := fun b hb => by
      have e' : b = s1.heap.objs.size + 1 ∨ b = s1.heap.objs.size := by simpa using hb
      have hle : s1.heap.objs.size ≤ b := by
        rcases e' with z | z
        · rw [z]; exact Nat.le_add_right _ _
        · rw [z]; exact Nat.le_refl _
      exact I1.fpOk hle (I1.hok.fresh hle)
    rcases q with ⟨hq, q⟩ | ⟨hq, q⟩
    · obtain ⟨its, rv, p', hz⟩ := I1.list hq
      refine call_enumerate_list p'.isList fun h' he hit hsz hk => wpAny_pyIter_enum he ?_
      have I2 : Inv X pins σ H1 { s1 with heap := h' } := I1.kept (t' := s1.toks) hk
      exact ⟨s1.heap.objs.size + 1, [s1.heap.objs.size + 1, s1.heap.objs.size], _, _, H1, rfl, I2, turn_enum a (s1.heap.objs.size + 1) s1.heap.objs.size, ⟨⟨.none, he⟩, hit, Nat.succ_ne_self _⟩, fresh2, q⟩
    · obtain ⟨its, rv, p', hz⟩ := I1.tuple hq
      have pl : a < s1.heap.objs.size := by obtain ⟨o, ho, _⟩ := id p'; exact Heap.lt_size ho
      refine call_enum1 (begins_tuple a its.toArray) (show s1.heap.IsTuple a its.toArray from p') fun h' he hit hsz hk => wpAny_pyIter_enum he ?_
      have I2 : Inv X pins σ H1 { s1 with heap := h' } := I1.kept (t' := s1.toks) hk
      exact ⟨s1.heap.objs.size + 1, [s1.heap.objs.size + 1, s1.heap.objs.size], _, _, H1, rfl, I2, turn_enumT a (s1.heap.objs.size + 1) s1.heap.objs.size (Nat.ne_of_lt pl) (Nat.ne_of_lt (Nat.lt_succ_of_lt pl)), ⟨⟨.none, he⟩, ⟨_, hit, rfl, rfl⟩, Nat.succ_ne_self _⟩, fresh2, q⟩
theorem walk_enumT {K : PySem.W.Frag} {a : Addr} {xs : List V} : Walk (IteT K a) xs.length (fun H => SqT K H a xs) (YPair (fun i => some (.int (i : Nat))) (fun i => xs[i]?)) := by
  refine ⟨fun i _ hi q => ⟨xs, xs[i], q, by simp [hi]⟩, fun _ q => ⟨xs, q, Nat.le_refl _⟩, fun i H v H' _ q y => ?_⟩
  obtain ⟨T, x, h1, h2, h3, h4⟩ := y
  exact ⟨T, .int (i : Nat), x, h1, h2, h3, rfl, h4 xs q⟩
theorem walk_zipT {K : PySem.W.Frag} {a b : Addr} {xs ys : List V} {n : Nat} (hn : n = min xs.length ys.length) : Walk (ItzT K a b) n (fun H => SqT K H a xs ∧ SqT K H b ys) (YPair (fun i => xs[i]?) (fun i => ys[i]?)) := by
  subst hn
  refine ⟨fun i _ hi q => ?_, fun _ q => ⟨xs, ys, q.1, q.2, by omega⟩, fun i H v H' _ q y => ?_⟩
  · have h1 : i < xs.length := by omega
    have h2 : i < ys.length := by omega
    exact ⟨xs, ys, xs[i], ys[i], q.1, q.2, by simp [h1], by simp [h2]⟩
  · obtain ⟨T, x, y', h1, h2, h3, h4, h5⟩ := y
    exact ⟨T, x, y', h1, h2, h3, h4 xs q.1, h5 ys q.2⟩
section
variable {X : Cx} {nf : NFs} [Anch nf] {K : PySem.W.Frag}
theorem yp_rel {H0 H H2 : Hp} {vs ws : List V} {f g : Nat → Option V} {i : Nat} {x : V} {a b : V} {da db : D} (s : Stp nf H0 H) (y : YPair f g i H x H2) (ef : f i = some a) (eg : g i = some b) (ra : Rel K nf H0 a da) (rb : Rel K nf H0 b db) : Xt H H2 ∧ Rel K nf H2 x (.tup [da, db]) := by
  obtain ⟨T, x1, y1, e1, e2, e3, e4, e5⟩ := y
  rw [ef] at e4; cases e4
  rw [eg] at e5; cases e5
  subst e1 e3
  have xt : Xt H (upd H T (.tup [a, b])) := Xt.new e2
  exact ⟨xt, .tup (SqT.of upd_same) (.cons (ra.mono (s.trans xt.stp)) (.cons (rb.mono (s.trans xt.stp)) .nil))⟩
/-- its places and items -/
def enumD (n : Nat) : List D → List D
  | [] => []
  | d :: ds => .tup [.int (n : Int), d] :: enumD (n + 1) ds
theorem enumD_len : ∀ (n : Nat) (ds : List D), (enumD n ds).length = ds.length
  | _, [] => rfl
  | n, _ :: ds => by rw [enumD, List.length_cons, List.length_cons, enumD_len]
theorem enumD_get : ∀ (n : Nat) (ds : List D) (i : Nat) (d : D), ds[i]? = some d → (enumD n ds)[i]? = some (.tup [.int ((n + i : Nat) : Int), d])
  | _, [], _, _, e => by simp at e
  | n, x :: ds, 0, d, e => by simp at e; subst e; rfl
  | n, x :: ds, i + 1, d, e => by
    rw [enumD, List.getElem?_cons_succ, enumD_get (n + 1) ds i d (by simpa using e)]
    rw [show n + 1 + i = n + (i + 1) by omega]
def iEn (r : DAs nf) : DAs nf := fun env Q => r env fun ds env1 => ∃ xs, (ds = [.tup xs] ∨ ds = [.lst xs]) ∧ Q (enumD 0 xs) env1
theorem di_enum {e : Expr} {r : DAs nf} {p pos tpos : Pos} {elts : List Expr} {kk : Nat} (hg : Gl X "enumerate") (hm : X.mg "enumerate" = none) (ha : DA X nf [e] r) (hs : starEach [e] X.env = [(false, eval e X.env)] := by rfl) :
    DIo X nf (.Tuple elts kk tpos) (.Call (.Name "enumerate" p) [e] [] pos) (iEn r) := pi_imp (pi_enumT hg hm ha hs) fun σ H R ⟨env, fp, Qd, R0, q, k⟩ => by
  refine ⟨env, fp, _, R0, q, fun vs H1 ds env1 fp1 r1 R1 c1 ⟨xs, e, q1⟩ => ?_⟩
  have key : ∀ {ws : List V} {J : It} {G : Hp → Prop}, Rels X.K nf H1 ws xs → Walk J ws.length G (YPair (fun i => some (.int (i : Nat))) (fun i => ws[i]?)) → (∀ H', Stp nf H1 H' → G H') → WalkD X.K nf J H1 (enumD 0 xs) := fun {ws J G} rr W g => by
    refine ⟨G, _, by rw [enumD_len, ← rr.length]; exact W, g, fun i H' x H2 hi s y => ?_⟩
    rw [enumD_len, ← rr.length] at hi
    obtain ⟨d, e3, r3⟩ := rr.getV (i := i) (v := ws[i]) (by simp [hi])
    obtain ⟨h1, h2⟩ := yp_rel (K := X.K) (vs := ws) (ws := ws) s y rfl (by simp [hi] : ws[i]? = some ws[i]) (.int (i : Nat)) r3
    exact ⟨h1, _, by rw [enumD_get 0 xs i d e3, Nat.zero_add], h2⟩
  rcases e with e | e
  · subst e
    cases r1 with
    | cons h t =>
      cases t
      cases h with
      | @tup a ws _ hq rr => exact ⟨a, ws, rfl, .inr ⟨hq, k _ _ H1 env1 fp1 (key rr walk_enumT fun H' s => sqT_mono s hq) R1 c1 q1⟩⟩
  · subst e
    cases r1 with
    | cons h t =>
      cases t
      cases h with
      | @lst a ws _ hq rr => exact ⟨a, ws, rfl, .inl ⟨hq.sq, k _ _ H1 env1 fp1 (key rr walk_enum fun H' s => (hq.mono s).sq) R1 c1 q1⟩⟩
def zipD : List D → List D → List D
  | x :: xs, y :: ys => .tup [x, y] :: zipD xs ys
  | _, _ => []
theorem zipD_len : ∀ (xs ys : List D), (zipD xs ys).length = min xs.length ys.length
  | [], _ => by simp [zipD]
  | _ :: _, [] => by simp [zipD]
  | _ :: xs, _ :: ys => by rw [zipD, List.length_cons, zipD_len, List.length_cons, List.length_cons]; omega
theorem zipD_get : ∀ (xs ys : List D) (i : Nat) (x y : D), xs[i]? = some x → ys[i]? = some y → (zipD xs ys)[i]? = some (.tup [x, y])
  | [], _, _, _, _, e, _ => by simp at e
  | _ :: _, [], _, _, _, _, e => by simp at e
  | a :: xs, b :: ys, 0, x, y, e, f => by simp at e f; subst e f; rfl
  | a :: xs, b :: ys, i + 1, x, y, e, f => by
    rw [zipD, List.getElem?_cons_succ]
    exact zipD_get xs ys i x y (by simpa using e) (by simpa using f)
def iZp (r : DAs nf) : DAs nf := fun env Q => r env fun ds env1 => ∃ xs ys, (ds = [.tup xs, .tup ys] ∨ ds = [.lst xs, .lst ys]) ∧ Q (zipD xs ys) env1
theorem di_zip {e e2 : Expr} {r : DAs nf} {p pos tpos : Pos} {elts : List Expr} {kk : Nat} (hg : Gl X "zip") (hm : X.mg "zip" = none) (ha : DA X nf [e, e2] r)
    (hs : starEach [e, e2] X.env = (false, eval e X.env) :: starEach [e2] X.env := by rfl) (hpl : (backTo pos (starEach [e2] X.env)).any (·.1) = false := by rfl) :
    DIo X nf (.Tuple elts kk tpos) (.Call (.Name "zip" p) [e, e2] [] pos) (iZp r) := pi_imp (pi_zipA hg hm ha hs hpl) fun σ H R ⟨env, fp, Qd, R0, q, k⟩ => by
  refine ⟨env, fp, _, R0, q, fun vs H1 ds env1 fp1 r1 R1 c1 ⟨xs, ys, e, q1⟩ => ?_⟩
  have key : ∀ {ws us : List V} {J : It} {G : Hp → Prop}, Rels X.K nf H1 ws xs → Rels X.K nf H1 us ys → Walk J (min ws.length us.length) G (YPair (fun i => ws[i]?) (fun i => us[i]?)) → (∀ H', Stp nf H1 H' → G H') → WalkD X.K nf J H1 (zipD xs ys) := fun {ws us J G} rr ru W g => by
    refine ⟨G, _, by rw [zipD_len, ← rr.length, ← ru.length]; exact W, g, fun i H' x H2 hi s y => ?_⟩
    rw [zipD_len, ← rr.length, ← ru.length] at hi
    have h1 : i < ws.length := by omega
    have h2 : i < us.length := by omega
    obtain ⟨d, e3, r3⟩ := rr.getV (i := i) (v := ws[i]) (by simp [h1])
    obtain ⟨d', e4, r4⟩ := ru.getV (i := i) (v := us[i]) (by simp [h2])
    obtain ⟨q1, q2⟩ := yp_rel (K := X.K) (vs := ws) (ws := ws) s y (by simp [h1] : ws[i]? = some ws[i]) (by simp [h2] : us[i]? = some us[i]) r3 r4
    exact ⟨q1, _, zipD_get xs ys i d d' e3 e4, q2⟩
  rcases e with e | e
  · subst e
    cases r1 with
    | cons h t =>
      cases t with
      | cons h' t =>
        cases t
        cases h with
        | @tup a ws _ hq rr =>
          cases h' with
          | @tup b us _ hq' ru => exact ⟨a, b, ws, us, rfl, .inr ⟨hq, hq', k _ _ H1 env1 fp1 (key rr ru (walk_zipT rfl) fun H' s => ⟨sqT_mono s hq, sqT_mono s hq'⟩) R1 c1 q1⟩⟩
  · subst e
    cases r1 with
    | cons h t =>
      cases t with
      | cons h' t =>
        cases t
        cases h with
        | @lst a ws _ hq rr =>
          cases h' with
          | @lst b us _ hq' ru => exact ⟨a, b, ws, us, rfl, .inl ⟨hq.sq, hq'.sq, k _ _ H1 env1 fp1 (key rr ru (walk_zip rfl) fun H' s => ⟨(hq.mono s).sq, (hq'.mono s).sq⟩) R1 c1 q1⟩⟩
end
end DL
namespace DL
open PySem PySem.Spec PyProof.Rows L2
theorem mt_extendF {X : Cx} : MtM X "list.extend" (fun x vs H Q => ∃ l b o xs zs, x = .ref l ∧ vs = [.ref b] ∧ H l = some (.lst xs) ∧ H b = some (.frz o (.lst zs)) ∧ xs.length + zs.length ≤ sizeLine ∧ Q .non (upd H l (.lst (xs ++ zs)))) := by
  intro pins s σ H x vs v us Q I rx rv h
  obtain ⟨l, b, o, xs, zs, rfl, rfl, hH, hB, hz, q⟩ := h
  cases rx
  obtain ⟨u, rfl, ru⟩ := rv.one
  cases ru
  obtain ⟨z, its, n, r, hl, e⟩ := I.lstM hH
  obtain ⟨_, hl2, its2, n2, r2, e2⟩ := I.hok b _ hB
  have l2 := r2.length
  have hsz : its.toArray.size + its2.toArray.size ≤ sizeLine := by rw [List.size_toArray, List.size_toArray]; omega
  have hlong : ¬ (!its.toArray.isEmpty && Builtin.List.listTooLong (its.toArray.size + its2.toArray.size)) = true := by
    rw [notLongL hsz, Bool.and_false]
    exact Bool.false_ne_true
  refine call_meets F.slot_list_extend ⟨_, e, rfl⟩ F.entry_list_extend (F.args_list_extend_2 _ _)
    (AutoSeq1.list_extend_list_list_0 l its.toArray n b its2.toArray n2 hlong (by rw [List.size_toArray]; omega) (by omega)) ⟨e, e2, ?_⟩
  refine ⟨.non, _, I.lset (its' := its ++ its2) hH e (by simp) (r.append r2) ?_, rfl, q⟩
  rw [List.length_append]
  omega
theorem ty_extend : typeOf (.builtin "list.extend") = pure (.type "method_descriptor") := by show builtinType _ = _; rw [builtinType_eq_fast]; kernel_rfl
theorem ty_insert : typeOf (.builtin "list.insert") = pure (.type "method_descriptor") := by show builtinType _ = _; rw [builtinType_eq_fast]; kernel_rfl
section
variable {X : Cx} {nf : NFs} [Anch nf] {K : PySem.W.Frag} {i : Nat}
def sExt (K : PySem.W.Frag) (i : Nat) (a : DT nf) : DTS nf := fun De env => (∃ v xs, env[i]? = some (.ow v (lstA K nf xs))) ∧ a env fun d env1 => ∃ v xs ys, d = .lst ys ∧ env1[i]? = some (.ow v (lstA K nf xs)) ∧ xs.length + ys.length ≤ 1000000 ∧ De.nx (env1.set i (.ow v (lstA K nf (xs ++ ys))))
theorem ds_ext {o e : Expr} {a : DT nf} {apos cpos pos : Pos} (ho : PE X o (tVar i)) (h : DE X nf e a)
    (hbase : attributeBase o "extend" X.env (eval o X.env) = eval o X.env := by rfl)
    (hfew : ((backTo cpos (starEach [e] X.env)).all (fun x => !x.1) && (backToKw cpos (keywordEach [] X.env)).all (fun x => x.1.isSome) && decide (([e] : List Expr).length + ([] : List Keyword).length + (if ([] : List Keyword).isEmpty then 0 else 1) < 30)) = true := by rfl)
    (hline : (apos.endLine == cpos.line) = true := by rfl) (hst : starEach [e] X.env = (false, eval e X.env) :: starEach [] X.env := by rfl) (hplain : (backTo cpos (starEach [] X.env)).any (·.1) = false := by rfl)
    (hs : swapsWith (.Call (.Attribute o "extend" apos) [e] [] cpos) none pos.line X.env = pure false := by rfl) : DS X nf (.Expr (.Call (.Attribute o "extend" apos) [e] [] cpos) pos) (sExt X.K i a) :=
  ps_imp (ps_expr (pe_bm PySem.F.plainAttrs_list PySem.F.slot_list_extend ty_extend mt_extendF ho (pa_cons h pa_nil hst) hbase hfew hline hst hplain) hs) fun E σ H ⟨env, fp, De, R, ⟨⟨v0, xs0, e0⟩, q⟩, br⟩ => by
    obtain ⟨p0, vs0, ev0, es0, hp0, _, _⟩ := R.lstAt e0
    subst ev0
    refine ⟨_, es0, Or.inl ⟨rfl, vs0, SqL.of hp0⟩, lift_run R q fun w H1 d env1 fp1 r1 R1 c1 ⟨v, xs, ys, ed, e1, hl, q1⟩ => ?_⟩
    subst ed
    obtain ⟨p, vs, ev, es, hp, rr, rep⟩ := R1.lstAt e1
    rw [es0] at es
    cases es
    cases r1 with
    | @lst b ws _ hf rw1 =>
      obtain ⟨ob, hf⟩ := hf
      obtain ⟨fp2, R2, c2⟩ := rep (vs ++ ws) (xs ++ ys) (rr.append rw1)
      exact ⟨p0, b, ob, vs, ws, rfl, rfl, hp, hf, by rw [rr.length, rw1.length]; exact Nat.le_trans hl (by decide), br.nx σ _ _ fp2 R2 (c1.trans c2) q1⟩
def insD (xs : List D) (i : Nat) (d : D) : List D := xs.take i ++ [d] ++ xs.drop i
def sIns (K : PySem.W.Frag) (i : Nat) (r : DAs nf) : DTS nf := fun De env => (∃ v xs, env[i]? = some (.ow v (lstA K nf xs))) ∧ r env fun ds env1 => ∃ v xs k d, ds = [.int k, d] ∧ env1[i]? = some (.ow v (lstA K nf xs)) ∧ xs.length < 1000000 ∧ 0 ≤ k ∧ k < 2 ^ 62 ∧ De.nx (env1.set i (.ow v (lstA K nf (insD xs k.toNat d))))
theorem ds_ins {o e e2 : Expr} {r : DAs nf} {apos cpos pos : Pos} (ho : PE X o (tVar i)) (h : DA X nf [e, e2] r)
    (hbase : attributeBase o "insert" X.env (eval o X.env) = eval o X.env := by rfl)
    (hfew : ((backTo cpos (starEach [e, e2] X.env)).all (fun x => !x.1) && (backToKw cpos (keywordEach [] X.env)).all (fun x => x.1.isSome) && decide (([e, e2] : List Expr).length + ([] : List Keyword).length + (if ([] : List Keyword).isEmpty then 0 else 1) < 30)) = true := by rfl)
    (hline : (apos.endLine == cpos.line) = true := by rfl) (hst : starEach [e, e2] X.env = (false, eval e X.env) :: starEach [e2] X.env := by rfl) (hplain : (backTo cpos (starEach [e2] X.env)).any (·.1) = false := by rfl)
    (hs : swapsWith (.Call (.Attribute o "insert" apos) [e, e2] [] cpos) none pos.line X.env = pure false := by rfl) : DS X nf (.Expr (.Call (.Attribute o "insert" apos) [e, e2] [] cpos) pos) (sIns X.K i r) :=
  ps_imp (ps_expr (pe_bm PySem.F.plainAttrs_list PySem.F.slot_list_insert ty_insert mt_insert ho h hbase hfew hline hst hplain) hs) fun E σ H ⟨env, fp, De, R, ⟨⟨v0, xs0, e0⟩, q⟩, br⟩ => by
    obtain ⟨p0, vs0, ev0, es0, hp0, _, _⟩ := R.lstAt e0
    subst ev0
    refine ⟨_, es0, Or.inl ⟨rfl, vs0, SqL.of hp0⟩, env, fp, _, R, q, fun ws H1 ds env1 fp1 r1 R1 c1 ⟨v, xs, k, d, ed, e1, hl, k0, k1, q1⟩ => ?_⟩
    subst ed
    obtain ⟨p, vs, ev, es, hp, rr, rep⟩ := R1.lstAt e1
    rw [es0] at es
    cases es
    cases r1 with
    | cons h1 t =>
      cases t with
      | cons h2 t =>
        cases t
        cases h1
        obtain ⟨fp2, R2, c2⟩ := rep (vs.take k.toNat ++ [_] ++ vs.drop k.toNat) (insD xs k.toNat d) (((rr.take _).append (.cons h2 .nil)).append (rr.drop _))
        exact ⟨p0, vs, k, _, rfl, rfl, hp, by rw [rr.length]; exact Nat.lt_of_lt_of_le hl (by decide), k0, Int.lt_trans k1 (by decide), br.nx σ _ _ fp2 R2 (c1.trans c2) q1⟩
structure KD (K : PySem.W.Frag) (w : World) (p : Addr) (kvs : List (Str × D)) : Prop where
  ex : ∃ es n, KDict K w p es n
  has : ∀ z d, kvs.lookup z = some d → ∃ u v, PySem.W.nsIn K p z = some (some u) ∧ RelV v u ∧ ∀ nf H, Rel K nf H v d
  non : ∀ z, kvs.lookup z = none → PySem.W.nsIn K p z = some none
def dKIx (kvs : List (Str × D)) (db : DT nf) : DT nf := fun env Q => db env fun y env1 => ∃ z d, y = .str z ∧ kvs.lookup z = some d ∧ Q d env1
def dKIn (neg : Bool) (kvs : List (Str × D)) (da : DT nf) : DT nf := fun env Q => da env fun y env1 => ∃ z, y = .str z ∧ Q (.bl (if neg then !(kvs.lookup z).isSome else (kvs.lookup z).isSome)) env1
variable {p : Addr} {kvs : List (Str × D)} {x : Str} {b : Expr} {db : DT nf} {q pos : Pos}
theorem de_kix (k : KD X.K X.w p kvs) (hg : Gl X x) (hm : X.mg x = some (.ref p)) (hb : DE X nf b db) (hs : PlainIx b) (hd : (x == ("__debug__" : Str)) = false := by decide) : DE X nf (.Subscript (.Name x q) b pos) (dKIx kvs db) :=
  pe_imp (pe_ix ix_kdict (pe_glob (v := .ref p) hg hm rfl hd) hb hs) fun σ H Q h => by
    obtain ⟨env, fp, Qd, R, h, k'⟩ := h
    refine lift_run R h fun v H1 y env1 fp1 r1 R1 c1 ⟨z, d, ey, el, qd⟩ => ?_
    subst ey
    cases r1
    obtain ⟨u, v, e1, e2, e3⟩ := k.has z d el
    obtain ⟨es, n, kd⟩ := k.ex
    exact ⟨p, z, v, rfl, rfl, ⟨es, n, u, kd.at_, kd.lit, e1, e2⟩, k' v H1 d env1 fp1 (e3 nf H1) R1 c1 qd⟩
theorem lift_kin (k : KD K X.w p kvs) (neg : Bool) {r : R2} (hr : ∀ z o H Q, PySem.W.nsIn K p z = some o → Q (.bl (if neg then !o.isSome else o.isSome)) H → r (.str z) (.ref p) H Q) (σ : L2.St) (H : Hp) (Q : VK) (h : lift K nf (dKIn neg kvs db) σ H Q) : tOp r (lift K nf db) (tC (.ref p)) σ H Q := by
  obtain ⟨env, fp, Qd, R, h, k'⟩ := h
  refine lift_run R h fun v H1 y env1 fp1 r1 R1 c1 ⟨z, ey, qd⟩ => ?_
  subst ey
  cases r1
  show r (.str z) (.ref p) H1 Q
  cases el : kvs.lookup z with
  | none =>
    refine hr z none H1 Q (k.non z el) (k' _ H1 _ env1 fp1 (.bl _) R1 c1 ?_)
    rw [el] at qd
    exact qd
  | some d =>
    obtain ⟨u, v, e1, _⟩ := k.has z d el
    refine hr z (some u) H1 Q e1 (k' _ H1 _ env1 fp1 (.bl _) R1 c1 ?_)
    rw [el] at qd
    exact qd
theorem dc_nkin {a : Expr} (k : KD X.K X.w p kvs) (hg : Gl X x) (hm : X.mg x = some (.ref p)) (ha : DE X nf a db) (hmk : behindInMarks .NotIn (.Name x q) = false := by rfl) (hd : (x == ("__debug__" : Str)) = false := by decide) : DC X nf (.Compare a [.NotIn] [.Name x q] pos) (dBv (dKIn true kvs db)) := by
  obtain ⟨es, n, kd⟩ := id k.ex
  exact pt_imp (pt_cmpR (op_notIn_kd kd) ha (pe_glob (v := .ref p) hg hm rfl hd) hmk) fun σ H Q h => by
    obtain ⟨env, fp, Qd, R, h, k'⟩ := h
    refine lift_kin (X := X) (K := X.K) (db := db) k true (fun z o H Q e q => ⟨z, o, rfl, rfl, e, q⟩) σ H _ (lift_run R h fun v H1 x env1 fp1 r1 R1 c1 ⟨b, e, q⟩ => ?_)
    subst e
    exact ⟨b, rel_bl r1, k' b H1 env1 fp1 R1 c1 q⟩
end
section
variable {nf : NFs} {K : PySem.W.Frag} {De : EndsD nf} {env env' : EV nf} {i j n : Nat} {d y : D} {da db : DT nf} {ra : DAs nf} {Q : D → EV nf → Prop} {QA : List D → EV nf → Prop} {kvs : List (Str × D)}
def ExtK (K : PySem.W.Frag) (i : Nat) (De : EndsD nf) : D → EV nf → Prop := fun d env1 => ∃ v xs ys, d = .lst ys ∧ env1[i]? = some (.ow v (lstA K nf xs)) ∧ xs.length + ys.length ≤ 1000000 ∧ De.nx (env1.set i (.ow v (lstA K nf (xs ++ ys))))
theorem sExt_s {v : V} {xs : List D} (e : env[i]? = some (.ow v (lstA K nf xs))) (h : da env (ExtK K i De)) : sExt K i da De env := ⟨⟨v, xs, e⟩, h⟩
theorem extK_s {v : V} {xs ys : List D} (e : env[i]? = some (.ow v (lstA K nf xs))) (hl : xs.length + ys.length ≤ 1000000) (e2 : env.set i (.ow v (lstA K nf (xs ++ ys))) = env') (h : De.nx env') : ExtK K i De (.lst ys) env := ⟨v, xs, ys, rfl, e, hl, e2 ▸ h⟩
def InsK (K : PySem.W.Frag) (i : Nat) (De : EndsD nf) : List D → EV nf → Prop := fun ds env1 => ∃ v xs k d, ds = [.int k, d] ∧ env1[i]? = some (.ow v (lstA K nf xs)) ∧ xs.length < 1000000 ∧ 0 ≤ k ∧ k < 2 ^ 62 ∧ De.nx (env1.set i (.ow v (lstA K nf (insD xs k.toNat d))))
theorem sIns_s {v : V} {xs : List D} (e : env[i]? = some (.ow v (lstA K nf xs))) (h : ra env (InsK K i De)) : sIns K i ra De env := ⟨⟨v, xs, e⟩, h⟩
theorem insK_s {v : V} {xs : List D} {k : Int} (e : env[i]? = some (.ow v (lstA K nf xs))) (hl : xs.length < 1000000) (k0 : 0 ≤ k) (k1 : k < 2 ^ 62) (e2 : env.set i (.ow v (lstA K nf (insD xs k.toNat d))) = env') (h : De.nx env') : InsK K i De [.int k, d] env := ⟨v, xs, k, d, rfl, e, hl, k0, k1, e2 ▸ h⟩
def KIxK (kvs : List (Str × D)) (Q : D → EV nf → Prop) : D → EV nf → Prop := fun y env1 => ∃ z d, y = .str z ∧ kvs.lookup z = some d ∧ Q d env1
theorem dKIx_s (h : db env (KIxK kvs Q)) : dKIx kvs db env Q := h
theorem kIxK_s {z : Str} (e : kvs.lookup z = some d) (h : Q d env) : KIxK kvs Q (.str z) env := ⟨z, d, rfl, e, h⟩
def KInK (neg : Bool) (kvs : List (Str × D)) (Q : D → EV nf → Prop) : D → EV nf → Prop := fun y env1 => ∃ z, y = .str z ∧ Q (.bl (if neg then !(kvs.lookup z).isSome else (kvs.lookup z).isSome)) env1
theorem dKIn_s {neg : Bool} (h : da env (KInK neg kvs Q)) : dKIn neg kvs da env Q := h
theorem kInK_s {neg b : Bool} {z : Str} (e : (kvs.lookup z).isSome = b) (h : Q (.bl (if neg then !b else b)) env) : KInK neg kvs Q (.str z) env := ⟨z, rfl, by rw [e]; exact h⟩
def EnK (QA : List D → EV nf → Prop) : List D → EV nf → Prop := fun ds env1 => ∃ xs, (ds = [.tup xs] ∨ ds = [.lst xs]) ∧ QA (enumD 0 xs) env1
theorem iEn_s (h : ra env (EnK QA)) : iEn ra env QA := h
theorem enKT_s {xs : List D} (h : QA (enumD 0 xs) env) : EnK QA [.tup xs] env := ⟨xs, .inl rfl, h⟩
theorem enKL_s {xs : List D} (h : QA (enumD 0 xs) env) : EnK QA [.lst xs] env := ⟨xs, .inr rfl, h⟩
def ZpK (QA : List D → EV nf → Prop) : List D → EV nf → Prop := fun ds env1 => ∃ xs ys, (ds = [.tup xs, .tup ys] ∨ ds = [.lst xs, .lst ys]) ∧ QA (zipD xs ys) env1
theorem iZp_s (h : ra env (ZpK QA)) : iZp ra env QA := h
theorem zpKT_s {xs ys : List D} (h : QA (zipD xs ys) env) : ZpK QA [.tup xs, .tup ys] env := ⟨xs, ys, .inl rfl, h⟩
theorem zpKL_s {xs ys : List D} (h : QA (zipD xs ys) env) : ZpK QA [.lst xs, .lst ys] env := ⟨xs, ys, .inr rfl, h⟩
theorem sNdef_s {cs : List (Str × Addr)} {W : NFd} (hl : Nat.blt i env.length = true) (e : env.set i (.fz (.fn0 W (L2.cloFrom cs W.scope.names []))) = env') (h : De.nx env') : sNdef cs i W De env := ⟨Nat.blt_eq.mp hl, e ▸ h⟩
end
end DL
namespace DL
open PySem PySem.Spec PyProof.Rows L2
def inDef (s : Stmt) (j : Nat) : Stmt := match s with
  | .FunctionDef _ _ b _ _ _ _ _ _ _ => b.getD j (.Pass ⟨0, 0, 0, 0⟩)
  | _ => .Pass ⟨0, 0, 0, 0⟩
section
variable {P : Program} {w : World} {K : PySem.W.Frag} {mg : Str → Option Value} {base : Heap}
/-- Fun.ok, the code object's value told -/
theorem fun_okC {x qual : Str} {st : Stmt} {f : Addr} {fd : FuncData} {N ps : List Str} {k : Nat} {sp : Sp} (F : Fun K x qual st f fd) (S : FnScope N ps (defScope st)) (len : ∀ vs H Q E, sp vs H Q E → vs.length = ps.length)
    (hbody : ∀ (cdv : Value) (A : Around) (outer : List Env) (s : Shared) (H : Hp) (vs : List V) (Q : VK) (E : XK), fd.code = cdv → Room k (A.deeper (envOfC qual (defScope st) s.heap.objs.size f cdv)) → sp vs H Q E →
      ∃ t, PSs (cxOf CX0 P w K mg base N qual (defScope st) f cdv A outer s H E).nox (defBody st) t ∧ t { nx := fun _ H' => Q .non H', rt := Q } (start N vs) H) : FnOk P w K mg base CX0 (k + 1) f fd ps sp := by
  obtain ⟨oc, od, kV, doc, pm, an, cdv, ct, osl, rfl, lk, hcd⟩ := F.ex
  refine fn_of lk hcd S len fun A outer s H vs Q E hr hsp => ?_
  obtain ⟨t, h, q⟩ := hbody cdv A outer s H vs Q E rfl hr hsp
  exact ⟨t, h.nox, q⟩
theorem fnOk_no {CX : CXT} {k n : Nat} {f : Addr} {fd : FuncData} {ps : List Str} {nf : NFs} {S : SpD nf} (h : ∀ as Q, S as Q → False) : FnOk P w K mg base CX k f fd ps (toSp K nf n S) :=
  ⟨fun vs H Q E ⟨_, _, _, _, _, _, s, _⟩ => (h _ _ s).elim, fun _ _ _ _ _ _ _ _ _ _ _ _ _ ⟨_, _, _, _, _, _, s, _⟩ => (h _ _ s).elim⟩
end
section
variable {X : Cx} {nf : NFs} [Anch nf] {k n : Nat} {f : Addr} {fd : FuncData} {ps : List Str} {S : SpD nf} {x : Str} {p pos : Pos} {e : Expr} {es : List Expr} {W : NFd} {js : List Nat} {r : DAs nf} {cs : List (Str × Addr)}
theorem de_callL2 (ha : DA X nf (e :: es) r) (hcs : X.env.cells = cs) (F : FnOk X.prog X.w X.K X.mg X.base CX0 k f fd ps (toSp X.K nf n S)) (cp : X.Ok → NdefX.Caps X (L2.cloFrom X.env.cells W.scope.names []) W.fr js) (hfn : ∀ y c, (L2.cloFrom X.env.cells W.scope.names []).lookup y = some c → X.fn y = true) (hr : Room k X.A) (hg : Gl X x) (hm : X.mg x = some (.ref f)) (hk : PySem.W.keepIn X.K (.ref f) = true) (hb : Binds X.K fd ps [])
    (hdb : (x == ("__debug__" : Str)) = false := by decide) (he : starEach (e :: es) X.env = (false, eval e X.env) :: starEach es X.env := by rfl) (hpl : (backTo pos (starEach es X.env)).any (·.1) = false := by rfl) :
    DE X nf (.Call (.Name x p) (e :: es) [] pos) (dCallL cs W js n S r) := by
  subst hcs
  exact de_callL F cp hfn hr hg hm hk hb ha hdb he hpl
end
end DL
namespace K12
open PySem L2 DL
abbrev s_ordered : Stmt := inDef (top 46) 1
def W_ordered : NFd := ⟨"ordered", (("with_ordered_lists" : Str) ++ ".<locals>.") ++ "ordered", C8.fnArgs s_ordered, C8.fnBody s_ordered, C8.fnScope s_ordered, ["order"]⟩
end K12
namespace DL
open PySem PySem.W PySem.Calls PyProof.Rows PySem.HandSPX
end DL
namespace DL
open PySem PySem.Spec PyProof.Rows L2
end DL
namespace DL
open PySem L2
/-- what the written part says of an error class whose instances are looked at -/
structure ExI (K : PySem.W.Frag) (C : Addr) : Prop where
  cl : (PySem.W.clsIn K C).isSome = true
  ga : PySem.W.findIn K (.ref C) "__getattribute__" = some (some (.builtin "BaseException.__getattribute__"))
  gg : PySem.W.findIn K (.ref C) "__getattr__" = some none
  ex : PySem.W.subIn K (.ref C) (.type "BaseException") = some true
  hd : PySem.W.hasDictIn K C = true
  ha : PySem.W.findIn K (.ref C) "__class__" = some (some (.builtin "object.__class__"))
  hn : PySem.W.specialIn K (.builtin "object.__class__") "__get__" = some (some (.builtin "getset_descriptor.__get__"))
  htk : PySem.W.takesIn K (.builtin "object.__class__") = some true
  hm : PySem.W.mroIn K C (.type "object") = some true
end DL
namespace DL
open PySem PySem.Spec PyProof.Rows L2
end DL
namespace DL
open PySem L2
section
variable {X : Cx} {nf : NFs} [Anch nf] {K : PySem.W.Frag}
/-- C(..), an error as a value -/
def dMkV (C : Addr) (ms : List Str) (r : DAs nf) : DT nf := fun env Q => r env fun ds env1 => ds.length = ms.length ∧ Q (.exc C (ms.zip ds)) env1
def dMkV0 (C : Addr) : DT nf := fun env Q => Q (.exc C []) env
/-- e.f of an error held as a value -/
def dExG (K : PySem.W.Frag) (f : Str) (da : DT nf) : DT nf := fun env Q => da env fun x env1 => ∃ C fds z, x = .exc C fds ∧ ExI K C ∧ PySem.W.findIn K (.ref C) f = some none ∧ fds.lookup f = some z ∧ Q z env1
end
end DL
namespace DL
open PySem PySem.SeqAt
open AutoSeq1 (wpAny_loadPart')
open MeetsSeq MeetsSeq2 MeetsSeq3 SeqRoads2
end DL
namespace DL
open PySem L2
/-- plain data, nested less than n deep -/
def eqOk : Nat → D → Bool
  | 0, _ => false
  | n + 1, d => match d with
    | .non => true
    | .bl _ => true
    | .int _ => true
    | .str _ => true
    | .lst xs => xs.all (eqOk n)
    | .tup xs => xs.all (eqOk n)
    | .dct kvs => kvs.all (fun p => eqOk n p.2) && decide ((kvs.map (·.1)).Nodup)
    | _ => false
section
variable {X : Cx} {nf : NFs} [Anch nf] {K : PySem.W.Frag}
def fNeS : D → D → D → Prop := fun x y z => ∃ ds, x = .lst ds ∧ y = .lst ds ∧ eqOk 60 (.lst ds) = true ∧ z = .bl false
section
variable {a b : Expr} {pos : Pos} {da db : DT nf}
def dNeS (da db : DT nf) : DT nf := dOp fNeS da db
end
end
end DL
namespace DL
open PySem L2
end DL
namespace DL
open PySem L2
section
variable {X : Cx} {nf : NFs} [Anch nf] {K : PySem.W.Frag} {CX : CXT} {k : Nat} {f C : Addr} {fd : FuncData} {ps : List Str} {sp : Sp} {E : XK} {op : Operator}
variable {a b : Expr} {pos : Pos} {da db : DT nf} {S : SpD nf} {i : Nat}
def eqF (d e : D) : Bool := match flatD d, flatD e with | some v, some u => eqV v u | _, _ => false
def hitD (ls : List (Key × D)) (p : Key × D) : Bool := match valD ls p.1 with | none => false | some e => eqF p.2 e
def eqDctD (ks ls : List (Key × D)) : Bool := ks.length == ls.length && ks.all (hitD ls)
def flatsB (ks : List (Key × D)) : Prop := ∀ p ∈ ks, ∃ v, flatD p.2 = some v
def fEqDG (neg : Bool) : D → D → D → Prop := fun x y z => ∃ ks ls, x = .dct ks ∧ y = .dct ls ∧ flatsB ks ∧ flatsB ls ∧ z = .bl (if neg then !eqDctD ks ls else eqDctD ks ls)
def dEqDG (neg : Bool) (da db : DT nf) : DT nf := dOp (fEqDG neg) da db
def fIsB (neg : Bool) : D → D → D → Prop := fun x y z => ∃ p q, x = .bl p ∧ y = .bl q ∧ z = .bl (if neg then !decide (p = q) else decide (p = q))
def dIsB (neg : Bool) (da db : DT nf) : DT nf := dOp (fIsB neg) da db
def dVarQ (K : PySem.W.Frag) (i : Nat) : DT nf := fun env Q => (∃ d, env[i]? = some (.fz d) ∧ Q d env) ∨ dVarFD K i env Q
def dropD (kds : List (Key × D)) (k : Key) : List (Key × D) := kds.filter fun kv => decide (kv.1 ≠ k)
theorem RelK.drop {H : Hp} {k : Key} : ∀ {kvs : List (Key × V)} {kds : List (Key × D)}, RelK K nf H kvs kds → RelK K nf H (dropK kvs k) (dropD kds k)
  | _, _, .nil => .nil
  | _, _, @RelK.cons _ _ _ kk v vs d ds h r => by
    unfold dropK dropD
    rw [List.filter_cons, List.filter_cons]
    have ih := RelK.drop (k := k) r
    unfold dropK dropD at ih
    by_cases e : kk = k
    · rw [if_neg (by simp [e]), if_neg (by simp [e])]; exact ih
    · rw [if_pos (by simp [e]), if_pos (by simp [e])]; exact .cons h ih
def dPopV (K : PySem.W.Frag) (i : Nat) (db : DT nf) : DT nf := fun env Q => (∃ v kds, env[i]? = some (.ow v (dctA K nf kds))) ∧ db env fun y env1 => ∃ v kds k d, env1[i]? = some (.ow v (dctA K nf kds)) ∧ keyOf y = some k ∧ valD kds k = some d ∧ Q d (env1.set i (.ow v (dctA K nf (dropD kds k))))
end
section
variable {nf : NFs} {K : PySem.W.Frag} {De : EndsD nf} {env env' env1 : EV nf} {i j n : Nat} {d x y z : D} {da db dc : DT nf} {Q : D → EV nf → Prop}
theorem dEqDG_s {neg : Bool} (h : dOp (fEqDG neg) da db env Q) : dEqDG neg da db env Q := h
theorem dIsB_s {neg : Bool} (h : dOp (fIsB neg) da db env Q) : dIsB neg da db env Q := h
theorem isBF_s {p q : Bool} (h : Q (.bl (decide (p = q))) env) : OpK (fIsB false) Q (.bl p) (.bl q) env := ⟨_, ⟨p, q, rfl, rfl, rfl⟩, h⟩
theorem isBT_s {p q : Bool} (h : Q (.bl (!decide (p = q))) env) : OpK (fIsB true) Q (.bl p) (.bl q) env := ⟨_, ⟨p, q, rfl, rfl, rfl⟩, h⟩
theorem dVarQf_s (e : env[i]? = some (.fz d)) (h : Q d env) : dVarQ K i env Q := .inl ⟨d, e, h⟩
theorem dVarQo_s {v : V} {xs : List (Key × D)} (e : env[i]? = some (.ow v (dctA K nf xs))) (e2 : env.set i (.fz (.dct xs)) = env') (h : Q (.dct xs) env') : dVarQ K i env Q := .inr ⟨v, xs, e, e2 ▸ h⟩
def PopK (K : PySem.W.Frag) (i : Nat) (Q : D → EV nf → Prop) : D → EV nf → Prop := fun y env1 => ∃ v kds k d, env1[i]? = some (.ow v (dctA K nf kds)) ∧ keyOf y = some k ∧ valD kds k = some d ∧ Q d (env1.set i (.ow v (dctA K nf (dropD kds k))))
theorem dPopV_s {v : V} {kds : List (Key × D)} (e : env[i]? = some (.ow v (dctA K nf kds))) (h : db env (PopK K i Q)) : dPopV K i db env Q := ⟨⟨v, kds, e⟩, h⟩
end
end DL
namespace DL
open PySem L2
section
variable {X : Cx} {nf : NFs} [Anch nf] {K : PySem.W.Frag}
variable {a b : Expr} {pos : Pos} {da db : DT nf}
/-- {k: v}, frozen -/
def dD1 (dk dv : DT nf) : DT nf := fun env Q => dk env fun x env1 => dv env1 fun y env2 => ∃ k, keyOf x = some k ∧ Q (.dct [(k, y)]) env2
def dNeg (da : DT nf) : DT nf := fun env Q => da env fun x env1 => ∃ i, x = .int i ∧ Q (.int (-i)) env1
theorem de_neg (ha : DE X nf a da) : DE X nf (.UnaryOp .USub a pos) (dNeg da) := pe_imp (pe_un un_neg ha) fun σ H Q ⟨env, fp, Qd, R, h, k⟩ => lift_run R h fun v H1 x env1 fp1 r1 R1 c1 ⟨i, e, q⟩ => by
  subst e
  exact ⟨i, rel_int r1, k _ H1 _ env1 fp1 (.int _) R1 c1 q⟩
def sAugI (i : Nat) (da : DT nf) : DTS nf := fun De env => ∃ n, env[i]? = some (.fz (.int n)) ∧ da env fun y env1 => ∃ m, y = .int m ∧ i < env1.length ∧ De.nx (env1.set i (.fz (.int (n + m))))
theorem ds_augI {i : Nat} {x : Str} {pos' : Pos} (hN : X.N.Nodup) (hi : X.N[i]? = some x) (hx : Loc X.env.scope x) (ha : DE X nf a da) (hf : X.fn x = true ∨ X.env.scope.names.lookup x = some .local := by first | exact .inl rfl | exact .inr rfl | assumption) :
    DS X nf (.AugAssign (.Name x pos') .Add a pos) (sAugI i da) := ps_imp (ps_aug hN hi hx ha ip_add hf) fun E σ H ⟨env, fp, De, R, ⟨n, e, q⟩, br⟩ => by
  obtain ⟨o, fi, e1, ⟨_, v, ev, r⟩, _⟩ := R.at e
  subst ev
  have ev := rel_int r
  subst ev
  exact ⟨_, e1, lift_run R q fun w H1 y env1 fp1 r1 R1 c1 ⟨m, ey, hl, q1⟩ => by
    subst ey
    obtain ⟨fp2, R2, c2⟩ := R1.setFz hl (.int (n + m))
    exact ⟨n, m, rfl, rel_int r1, br.nx _ H1 _ fp2 R2 (c1.trans c2) q1⟩⟩
def fIxR : D → D → D → Prop := fun x y z => ∃ ns i n, x = .scr ns ∧ y = .int i ∧ atI ns i = some n ∧ z = .int n
theorem atI_map {α β : Type} {f : α → β} {xs : List α} {i : Int} {n : α} (h : atI xs i = some n) : atI (xs.map f) i = some (f n) := by
  unfold atI at h ⊢
  rw [List.length_map]
  cases e : ixN xs.length i with
  | none => rw [e] at h; cases h
  | some j =>
    rw [e] at h
    have h' : xs[j]? = some n := h
    show (xs.map f)[j]? = _
    rw [List.getElem?_map, h']; rfl
theorem od_ixR : OpD K nf (rIxL K) fIxR := by
  rintro H v w x y z r1 r2 ⟨ns, i, n, rfl, rfl, e, rfl⟩ Q q
  cases r1 with
  | scr h => exact ⟨_, _, i, .int n, rfl, rel_int r2, h.sq, atI_map e, q _ H (.int _) Xt.refl⟩
def dIxR (da db : DT nf) : DT nf := dOp fIxR da db
theorem de_ixR (ha : DE X nf a da) (hb : DE X nf b db) (hs : PlainIx b := by exact fun _ _ => rfl) : DE X nf (.Subscript a b pos) (dIxR da db) := de_ix ix_list od_ixR ha hb hs
def fLenR : List D → D → Prop := fun ds d => ∃ ns, ds = [.scr ns] ∧ d = .int ns.length
theorem cd_lenR : CbD K nf (fun xs H Q => ∃ p ys, xs = [.ref p] ∧ (SqL K H p ys ∨ SqT K H p ys) ∧ Q (.int ys.length) H) fLenR := by
  rintro H vs ds d r ⟨ns, rfl, rfl⟩ Q q
  obtain ⟨v, rfl, h⟩ := rels1x r
  cases h with
  | scr h => exact ⟨_, _, rfl, .inl h.sq, by rw [List.length_map]; exact q _ H (.int _) Xt.refl⟩
end
end DL
namespace DH
open PySem PySem.Spec PyProof.Rows L2 DL
open PySem.W (Frag findIn nsIn keepIn subIn typeIn hasDictIn clsIn mroIn alongIn specialIn takesIn codeIn kitOne)
theorem and2 {a b : Bool} (h : (a && b) = true) : a = true ∧ b = true := Bool.and_eq_true_iff.mp h
section
variable {q : Ask} {K : Frag}
theorem says_b (c : obsK q K = valA q) : (q.fa.all fun f => f.ok K) = true ∧ (q.fn.all fun d => d.ok K) = true ∧ (q.sup.all fun d => supB K q.file d) = true ∧ q.ex K = true := by
  obtain ⟨h1, h⟩ := and2 (congrArg (fun z : Al => z.1) c)
  obtain ⟨h2, h⟩ := and2 h
  obtain ⟨h3, h4⟩ := and2 h
  exact ⟨h1, h2, h3, (and2 h4).2⟩
theorem says_two (c : obsK q K = valA q) : q.fn.map (fun d => He.fnW K d.at_) = q.fn.map He.DefD.val ∧ q.fna.map (fun d => He5.fnA K (d.at_ K)) = q.fna.map He5.DefA.val :=
  List.append_inj (congrArg (fun z : Al => z.2.1) c) (by rw [List.length_map, List.length_map])
theorem says_fa (c : obsK q K = valA q) (i : Nat) {f : He.Fa} (h : q.fa[i]? = some f := by rfl) : f.ok K = true := List.all_eq_true.mp (says_b c).1 f (List.mem_of_getElem? h)
theorem says_fn (c : obsK q K = valA q) (i : Nat) {d : He.DefD} (h : q.fn[i]? = some d := by rfl) : ∃ fd, FunD K d.name d.qual d.params d.body d.scope (d.dvs K) (d.kws K) (He.fAd K d.at_) fd := by
  have e : q.fn.map (fun d => He.fnW K d.at_) = q.fn.map He.DefD.val := (says_two c).1
  have e2 : (q.fn.map fun d => He.fnW K d.at_)[i]? = (q.fn.map He.DefD.val)[i]? := by rw [e]
  rw [List.getElem?_map, List.getElem?_map, h] at e2
  exact He.DefD.funD (Option.some.inj e2) (List.all_eq_true.mp (says_b c).2.1 d (List.mem_of_getElem? h))
/-- a def without defaults -/
theorem fun_of {x qual : Str} {st : Stmt} {f : Addr} {fd : FuncData} {kws : List (Str × V)} (F : FunD K x qual (defArgs st) (defBody st) (defScope st) [] kws f fd) : Fun K x qual st f fd := by
  obtain ⟨oc, od, dV, kV, doc, pm, an, cdv, ct, osl, e, lk, hc, hD, _⟩ := F.ex
  rcases hD with ⟨_, hd⟩ | ⟨z, _⟩
  · subst hd
    exact ⟨⟨oc, od, kV, doc, pm, an, cdv, ct, osl, e, lk, hc⟩, F.kp⟩
  · exact absurd rfl z
end
end DH
namespace DL
open PySem L2
section
variable {nf : NFs} {K : PySem.W.Frag} {De : EndsD nf} {env env' env1 : EV nf} {i j n : Nat} {d x y z : D} {da db dc : DT nf} {ra : DAs nf} {Q : D → EV nf → Prop} {C T : Addr} {ms : List Str} {f g : Str}
def MkVK (C : Addr) (ms : List Str) (Q : D → EV nf → Prop) : List D → EV nf → Prop := fun ds env1 => ds.length = ms.length ∧ Q (.exc C (ms.zip ds)) env1
theorem dMkV_s (h : ra env (MkVK C ms Q)) : dMkV C ms ra env Q := h
theorem mkV1_s (h : Q (.exc C [(f, x)]) env) : MkVK C [f] Q [x] env := ⟨rfl, h⟩
theorem mkV2_s (h : Q (.exc C [(f, x), (g, y)]) env) : MkVK C [f, g] Q [x, y] env := ⟨rfl, h⟩
theorem dMkV0_s (h : Q (.exc C []) env) : dMkV0 C env Q := h
/-- what is known of an error class: its instances are looked at, its fields are no attributes of the class -/
def ErrC (K : PySem.W.Frag) (C : Addr) (fl : List Str) : Prop := ExI K C ∧ ∀ f ∈ fl, PySem.W.findIn K (.ref C) f = some none
def ExGK (K : PySem.W.Frag) (f : Str) (Q : D → EV nf → Prop) : D → EV nf → Prop := fun x env1 => ∃ C fds z, x = .exc C fds ∧ ExI K C ∧ PySem.W.findIn K (.ref C) f = some none ∧ fds.lookup f = some z ∧ Q z env1
theorem dExG_s (h : da env (ExGK K f Q)) : dExG K f da env Q := h
theorem exG1_s {fds : List (Str × D)} (c : ErrC K C [f]) (e : fds.lookup f = some z) (h : Q z env) : ExGK K f Q (.exc C fds) env := ⟨C, fds, z, rfl, c.1, c.2 f (by simp), e, h⟩
theorem exG2_s {fds : List (Str × D)} (c : ErrC K C [f, g]) (e : fds.lookup f = some z) (h : Q z env) : ExGK K f Q (.exc C fds) env := ⟨C, fds, z, rfl, c.1, c.2 f (by simp), e, h⟩
theorem exG3_s {fds : List (Str × D)} (c : ErrC K C [g, f]) (e : fds.lookup f = some z) (h : Q z env) : ExGK K f Q (.exc C fds) env := ⟨C, fds, z, rfl, c.1, c.2 f (by simp), e, h⟩
def D1K (db : DT nf) (Q : D → EV nf → Prop) : D → EV nf → Prop := fun x env1 => db env1 fun y env2 => ∃ k, keyOf x = some k ∧ Q (.dct [(k, y)]) env2
theorem dD1_s (h : da env (D1K db Q)) : dD1 da db env Q := h
theorem dNeg_s (h : da env fun x env1 => ∃ i, x = .int i ∧ Q (.int (-i)) env1) : dNeg da env Q := h
theorem sAugI_s {k : Int} (e : env[i]? = some (.fz (.int k))) (h : da env fun y env1 => ∃ m, y = .int m ∧ i < env1.length ∧ De.nx (env1.set i (.fz (.int (k + m))))) : sAugI i da De env := ⟨k, e, h⟩
theorem augK_s {k m : Int} (hl : Nat.blt i env.length = true) (e : env.set i (.fz (.int (k + m))) = env') (h : De.nx env') : ∃ m', D.int m = .int m' ∧ i < env.length ∧ De.nx (env.set i (.fz (.int (k + m')))) := ⟨m, rfl, Nat.blt_eq.mp hl, e ▸ h⟩
theorem dIxR_s (h : dOp fIxR da db env Q) : dIxR da db env Q := h
theorem lenR_s {ns : List Int} (h : Q (.int ns.length) env) : CbK fLenR Q [.scr ns] env := ⟨_, ⟨ns, rfl, rfl⟩, h⟩
theorem dNeS_s (h : dOp fNeS da db env Q) : dNeS da db env Q := h
def IxVK (K : PySem.W.Frag) (i : Nat) (Q : D → EV nf → Prop) : D → EV nf → Prop := fun y env1 => ∃ xs j z, lsAt K env1 i xs ∧ y = .int j ∧ atI xs j = some z ∧ Q z env1
theorem dIxV_s {v : V} {xs : List D} (e : env[i]? = some (.ow v (lstA K nf xs))) (h : db env (IxVK K i Q)) : dIxV K i db env Q := ⟨⟨xs, .inr ⟨v, e⟩⟩, h⟩
theorem ixVK_s {v : V} {xs : List D} {k : Int} (e : env[i]? = some (.ow v (lstA K nf xs))) (ez : atI xs k = some z) (h : Q z env) : IxVK K i Q (.int k) env := ⟨xs, k, z, .inr ⟨v, e⟩, rfl, ez, h⟩
def LPutK2 (K : PySem.W.Frag) (i : Nat) (d : D) (De : EndsD nf) : D → EV nf → Prop := fun y env2 => ∃ v xs k j, env2[i]? = some (.ow v (lstA K nf xs)) ∧ y = .int k ∧ ixN xs.length k = some j ∧ De.nx (env2.set i (.ow v (lstA K nf (xs.set j d))))
def LPutK (K : PySem.W.Frag) (i : Nat) (db : DT nf) (De : EndsD nf) : D → EV nf → Prop := fun d env1 => (∃ v xs, env1[i]? = some (.ow v (lstA K nf xs))) ∧ db env1 (LPutK2 K i d De)
theorem sLPut_s (h : da env (LPutK K i db De)) : sLPut K i db da De env := h
theorem lPutK_s {v : V} {xs : List D} (e : env[i]? = some (.ow v (lstA K nf xs))) (h : db env (LPutK2 K i d De)) : LPutK K i db De d env := ⟨⟨v, xs, e⟩, h⟩
theorem lPutK2_s {v : V} {xs : List D} {k : Int} {j : Nat} (e : env[i]? = some (.ow v (lstA K nf xs))) (ej : ixN xs.length k = some j) (e2 : env.set i (.ow v (lstA K nf (xs.set j d))) = env') (h : De.nx env') : LPutK2 K i d De (.int k) env := ⟨v, xs, k, j, e, rfl, ej, e2 ▸ h⟩
def LAugK (K : PySem.W.Frag) (i : Nat) (k : Int) (v : V) (z : Int) (De : EndsD nf) : D → EV nf → Prop := fun d env1 => ∃ y xs1, d = .int y ∧ env1[i]? = some (.ow v (lstA K nf xs1)) ∧ k.toNat < xs1.length ∧ De.nx (env1.set i (.ow v (lstA K nf (xs1.set k.toNat (.int (z + y))))))
theorem sLAug_s {v : V} {xs : List D} {k z : Int} (e : env[i]? = some (.ow v (lstA K nf xs))) (hk : 0 ≤ k) (hz : xs[k.toNat]? = some (.int z)) (h : da env (LAugK K i k v z De)) : sLAug K i k da De env := ⟨v, xs, z, e, hk, hz, h⟩
theorem lAugK_s {v : V} {xs : List D} {k z y : Int} (e : env[i]? = some (.ow v (lstA K nf xs))) (hl : Nat.blt k.toNat xs.length = true) (e2 : env.set i (.ow v (lstA K nf (xs.set k.toNat (.int (z + y))))) = env') (h : De.nx env') : LAugK K i k v z De (.int y) env := ⟨y, xs, rfl, e, Nat.blt_eq.mp hl, e2 ▸ h⟩
theorem addLb_s {s t : List D} (hl : Nat.ble (s.length + t.length) 1000000 = true) (h : Q (.lst (s ++ t)) env) : FK addD Q (.lst s) (.lst t) env := addL_s (Nat.le_of_ble_eq_true hl) h
theorem sRetL_s (h : ra env fun xs env1 => xs.length ≤ 1000000 ∧ ∀ p, De.ro (.ref p) (lstA K nf xs) env1) : sRetL K ra De env := h
end
end DL
namespace DL
open PySem L2
section
variable {X : Cx} {nf : NFs} [Anch nf]
theorem ds_par {i j : Nat} {x y : Str} {a b : Expr} {r : DAs nf} {px py pt pos : Pos} {kt k2 pt2} (hc : X.calm = true) (hN : X.N.Nodup) (hi : X.N[i]? = some x) (hj : X.N[j]? = some y) (hij : i ≠ j)
    (hx : X.env.scope.names.lookup x = some .local) (hy : X.env.scope.names.lookup y = some .local) (ha : DA X nf [a, b] r)
    (hw : swappedStores [.Tuple [.Name x px, .Name y py] kt pt] (.Tuple [a, b] k2 pt2) X.env = pure (some [x, y]) := by rfl)
    (hs : swapsWithSole [.Tuple [.Name x px, .Name y py] kt pt] (.Tuple [a, b] k2 pt2) pos.line X.env = pure false := by rfl) :
    DS X nf (.Assign [.Tuple [.Name x px, .Name y py] kt pt] (.Tuple [a, b] k2 pt2) pos) (sAsg (dTup r) (gT 2 (gsCons (gN i) (gsCons (gN j) gsNil)))) :=
  ps_imp (ps_par hc hN hi hj hij hx hy ha hw hs) fun E σ H ⟨env, fp, De, R, q, br⟩ =>
  ⟨env, fp, _, R, q, fun vs H1 ds env1 fp1 r1 R1 c1 ⟨_, ds', e0, hn, d, rs, e1, hl1, e, rs2, e2, hl2, e3, q1⟩ => by
    cases e0
    subst e1 e2 e3
    cases r1 with
    | cons ra r2 =>
      cases r2 with
      | cons rb r3 =>
        cases r3
        obtain ⟨fp2, R2, c2⟩ := R1.setFz hl1 ra
        obtain ⟨fp3, R3, c3⟩ := R2.setFz hl2 rb
        exact ⟨_, _, rfl, br.nx _ H1 _ fp3 R3 ((c1.trans c2).trans c3) q1⟩⟩
end
end DL
namespace DL
open PySem L2
section
variable {X : Cx} {nf : NFs} [Anch nf] {K : PySem.W.Frag}
variable {a b e l : Expr} {pos : Pos} {da db : DT nf}
/-- the answer of x in y -/
def inX (p : PyData) (ps : List PyData) : Bool := ps.any fun z => PyData.eqv z p
def fInX (neg : Bool) : D → D → D → Prop := fun x y z => ∃ p ps, pyOf x = some p ∧ (pyOf y = some (.list ps) ∨ pyOf y = some (.tuple ps)) ∧ SeqAt.shaped p = true ∧ SeqAt.shaped (.list ps) = true ∧ z = .bl (if neg then !inX p ps else inX p ps)
def dInX (neg : Bool) (da db : DT nf) : DT nf := dOp (fInX neg) da db
/-- y a list of one's own -/
def dInXV (K : PySem.W.Frag) (neg : Bool) (da : DT nf) (i : Nat) : DT nf := fun env Q => da env fun x env1 => ∃ xs p ps, lsAt K env1 i xs ∧ pyOf x = some p ∧ pyOfs xs = some ps ∧ SeqAt.shaped p = true ∧ SeqAt.shaped (.list ps) = true ∧ Q (.bl (if neg then !inX p ps else inX p ps)) env1
def fCatT : D → D → D → Prop := fun x y z => ∃ xs ys, x = .tup xs ∧ y = .tup ys ∧ xs.length + ys.length ≤ 1000000 ∧ z = .tup (xs ++ ys)
theorem od_catT : OpD K nf (rCatA K) fCatT := by
  rintro H v w x y z r1 r2 ⟨xs, ys, rfl, rfl, hl, rfl⟩ Q q
  cases r1 with
  | @tup a vs _ h1 rr1 =>
    cases r2 with
    | @tup b ws _ h2 rr2 =>
      refine ⟨a, b, vs, ws, rfl, rfl, h1, h2, by rw [rr1.length, rr2.length]; exact sz_ok hl, fun e => ?_, fun _ e => ?_, fun _ _ p hp => ?_⟩
      · subst e
        cases rr1
        exact q _ H (.tup h2 rr2) Xt.refl
      · subst e
        cases rr2
        rw [List.append_nil] at q
        exact q _ H (.tup h1 rr1) Xt.refl
      · have xt : Xt H (upd H p (.tup (vs ++ ws))) := Xt.new hp
        exact q _ _ (.tup (SqT.of upd_same) ((rr1.append rr2).mono xt.stp)) xt
def dCatT (da db : DT nf) : DT nf := dOp fCatT da db
theorem de_catT (ha : DE X nf a da) (hb : DE X nf b db) : DE X nf (.BinOp a .Add b pos) (dCatT da db) := pe_imp (pe_op op_catA ha hb) fun σ H Q h => lift_op od_catT σ H Q h
def cutD (xs : List D) (l u : Option Int) : List D := (xs.drop (HT.sIx xs.length 0 l)).take (HT.sIx xs.length xs.length u - HT.sIx xs.length 0 l)
def dSlT (da : DT nf) (lo hi : DO nf) : DT nf := fun env Q => da env fun x env1 => lo env1 fun l env2 => hi env2 fun u env3 => ∃ xs, x = .tup xs ∧ Q (.tup (cutD xs l u)) env3
theorem de_slT {lo hi : Option Expr} {dl dh : DO nf} {p2 : Pos} (ha : DE X nf e da) (hl : PO X lo (liftO X.K nf dl)) (hh : PO X hi (liftO X.K nf dh)) : DE X nf (.Subscript e (.Slice lo hi none p2) pos) (dSlT da dl dh) := pe_imp (pe_slice sl_tupA ha hl hh) fun σ H Q ⟨env, fp, Qd, R, h, k⟩ =>
  lift_run R h fun v H1 x env1 fp1 r1 R1 c1 h1 => ⟨env1, fp1, _, R1, h1, fun l H2 env2 fp2 R2 c2 h2 => ⟨env2, fp2, _, R2, h2, fun u H3 env3 fp3 R3 c3 ⟨xs, ex, q⟩ => by
    subst ex
    cases r1 with
    | @tup a vs _ hz rr =>
      have st : Stp nf H1 H3 := (c2.stp R1).trans (c3.stp R2)
      have rc : Rels X.K nf H3 (cutV vs l u) (cutD xs l u) := by
        unfold cutV cutD
        rw [rr.length]
        exact ((rr.mono st).drop _).take _
      refine ⟨a, vs, rfl, sqT_mono st hz, fun ⟨e1, e2⟩ => ?_, fun _ p hp => ?_⟩
      · have ew : cutD xs l u = xs := by
          unfold cutD
          rw [rr.length] at e1 e2
          rw [e1, e2]
          simp
        rw [ew] at q
        exact k _ H3 _ env3 fp3 (.tup (sqT_mono st hz) (rr.mono st)) R3 ((c1.trans c2).trans c3) q
      · have x : Xt H3 (upd H3 p (.tup (cutV vs l u))) := Xt.new hp
        exact k _ _ _ env3 fp3 (.tup (SqT.of upd_same) (rc.mono x.stp)) (R3.ext x) (((c1.trans c2).trans c3).trans x.ch) q⟩⟩
def fMin : List D → D → Prop := fun ds d => (∃ i j, ds = [.int i, .int j] ∧ d = .int (if j < i then j else i))
def fMax : List D → D → Prop := fun ds d => (∃ i j, ds = [.int i, .int j] ∧ d = .int (if j > i then j else i))
def fMin3 : List D → D → Prop := fun ds d => (∃ i j l, ds = [.int i, .int j, .int l] ∧ d = .int (if l < (if j < i then j else i) then l else (if j < i then j else i)))
end
end DL
namespace DL
open PySem L2
section
variable {X : Cx} {nf : NFs} [Anch nf] {K : PySem.W.Frag} {CX : CXT} {k : Nat} {f g C : Addr} {fd : FuncData} {ps : List Str} {sp : Sp} {E : XK} {op : Operator}
variable {a b : Expr} {pos : Pos} {da db : DT nf} {S : SpD nf}
/-- x op y by x's method, or by y's reflected one -/
def dOwnE (P1 P2 : D → D → Prop) (S1 S2 : SpD nf) (da db : DT nf) : DT nf := fun env Q => da env fun x env1 => db env1 fun y env2 => (P1 x y ∧ S1 [.fz x, .fz y] fun d _ => Q d env2) ∨ (P2 x y ∧ S2 [.fz y, .fz x] fun d _ => Q d env2)
variable {fd2 : FuncData} {ps2 : List Str} {k2 : Nat} {E2 : XK} {S2 : SpD nf}
end
end DL
namespace DS
open PySem PySem.Spec PyProof.Rows L2
/-- things on the heap that a set holds: what they are (by a plain name κ), their hash, their == -/
structure Elt (P : Program) (w : World) (κ : Type) [DecidableEq κ] where
  is : Heap → κ → Addr → Prop
  hash : κ → Int
  eq : ∀ {A : Around} {E : Value → Shared → Prop} {s : Shared} {k l : κ} {x y : Addr} {Q : Bool → Shared → Prop}, A.units < cLine → is s.heap k x → is s.heap l y → Q (decide (k = l)) s → wpAny (model P w) A (eqBool (.ref x) (.ref y)) Q E s
  seen : ∀ {A : Around} {E : Value → Shared → Prop} {s : Shared} {k : κ} {x : Addr} {ys : List Value} {Q : Bool → Shared → Prop}, is s.heap k x → (∀ y ∈ ys, ∃ l c, y = Value.ref c ∧ is s.heap l c) → Q false s → wpAny (model P w) A (searchCouldBeSeen (.ref x) ys) Q E s
section
variable {P : Program} {w : World} {κ : Type} [DecidableEq κ] (T : Elt P w κ)
def rws (L : List (Addr × κ)) : List (Int × Value) := L.map fun p => (T.hash p.2, Value.ref p.1)
/-- the set at a holds the things L, in the table t -/
structure SetG (h : Heap) (a : Addr) (L : List (Addr × κ)) (es : Array (Int × Value)) (ep : Nat) (t : SetTable) : Prop where
  ob : ∃ o, h.get? a = some o ∧ o.ExactSet ∧ o.data = .set es ep t
  rows : es.toList = rws T L
  tab : TabOk t (L.map fun p => T.hash p.2)
  nd : (L.map (·.2)).Nodup
  elt : ∀ p ∈ L, T.is h p.2 p.1
  led : w.params.followText "set-order" = true ∨ t.led = true
  room : L.length * 5 < t.mask * 3
  few : L.length < 64
end
section
variable {P : Program} {w : World} {κ : Type} [DecidableEq κ] {T : Elt P w κ} {A : Around} {E : Value → Shared → Prop} {s : Shared} {a : Addr} {L : List (Addr × κ)} {es : Array (Int × Value)} {ep : Nat} {t : SetTable}
theorem SetG.size {h : Heap} (R : SetG T h a L es ep t) : es.size = L.length := by
  rw [← Array.length_toList, R.rows]
  simp [rws]
theorem SetG.at {h : Heap} (R : SetG T h a L es ep t) {i : Nat} {p : Addr × κ} (e : L[i]? = some p) : es[i]? = some (T.hash p.2, Value.ref p.1) := by
  have z : es.toList[i]? = (rws T L)[i]? := by rw [R.rows]
  rw [Array.getElem?_toList] at z
  rw [z]
  simp [rws, e]
end
end DS
namespace DS
open PySem PySem.Spec PyProof.Rows L2
/-- what adding asks of the things beside -/
structure EltA (P : Program) (w : World) (κ : Type) [DecidableEq κ] extends Elt P w κ where
  off : ∀ {h h' : Heap} {k : κ} {a b : Addr} {o : Obj} {es : Array (Int × Value)} {ep : Nat} {t : SetTable}, is h k b → h.get? a = some o → o.data = .set es ep t → Heap.SameBut a h h' → is h' k b
  byVal : ∀ {A : Around} {E : Value → Shared → Prop} {s : Shared} {k : κ} {x : Addr} {Q : Bool → Shared → Prop}, is s.heap k x → (∀ b, Q b s) → wpAny (model P w) A (hashByValue 8 (.ref x)) Q E s
end DS
namespace DS
open PySem PySem.Spec PyProof.Rows L2
end DS
namespace DS
open PySem PySem.Spec PyProof.Rows L2
structure EltH (P : Program) (w : World) (κ : Type) [DecidableEq κ] extends EltA P w κ where
  up : ∀ {h h' : Heap} {k : κ} {b : Addr}, is h k b → (∀ c o, h.get? c = some o → h'.get? c = some o) → is h' k b
  hsh : ∀ {A : Around} {E : Value → Shared → Prop} {s : Shared} {k : κ} {x : Addr} {Q : Int → Shared → Prop}, A.units < cLine → is s.heap k x → (∀ tk, s.toks ≤ tk → Q (hash k) { s with toks := tk }) → wpAny (model P w) A (pyHash (.ref x)) Q E s
structure Brought {κ : Type} (ks : List (Addr × κ)) (i : Nat) (L : List (Addr × κ)) : Prop where
  from_ : ∀ p ∈ L, p ∈ ks.take i
  all : ∀ p ∈ ks.take i, p.2 ∈ L.map (·.2)
  few : L.length ≤ i
theorem Brought.none {κ : Type} (ks : List (Addr × κ)) : Brought ks 0 [] := ⟨by simp, by simp, Nat.le_refl _⟩
section
variable {κ : Type} {ks L L' : List (Addr × κ)} {i : Nat} {x : Addr × κ}
theorem tk_succ (h : ks[i]? = some x) : ks.take (i + 1) = ks.take i ++ [x] := by rw [List.take_succ, h]; rfl
theorem Brought.new (g : Brought ks i L) (h : ks[i]? = some x) (pm : L'.Perm (x :: L)) : Brought ks (i + 1) L' := by
  refine ⟨fun p hp => ?_, fun p hp => ?_, by rw [pm.length_eq]; exact Nat.succ_le_succ g.few⟩
  · rw [tk_succ h]
    rcases List.mem_cons.mp (pm.mem_iff.mp hp) with e | z
    · subst e; exact List.mem_append_right _ List.mem_cons_self
    · exact List.mem_append_left _ (g.from_ p z)
  · rw [tk_succ h] at hp
    refine (pm.map (·.2)).mem_iff.mpr ?_
    rcases List.mem_append.mp hp with z | z
    · exact List.mem_cons_of_mem _ (g.all p z)
    · rw [List.mem_singleton.mp z]; exact List.mem_cons_self
end
section
variable {P : Program} {w : World} {κ : Type} [DecidableEq κ] {T : EltH P w κ} {A : Around}
theorem SetG.up {h h' : Heap} {a : Addr} {L : List (Addr × κ)} {es : Array (Int × Value)} {ep : Nat} {t : SetTable} (R : SetG T.toElt h a L es ep t) (ha : ∀ o, h.get? a = some o → h'.get? a = some o) (hk : ∀ p ∈ L, T.is h' p.2 p.1) : SetG T.toElt h' a L es ep t :=
  have ⟨o, ho, r⟩ := R.ob
  { R with ob := ⟨o, ha o ho, r⟩, elt := hk }
theorem SetG.empty {h : Heap} {a : Addr} (ho : h.get? a = some { cls := .type "set", dict := none, data := .set #[] 0 (.fresh 0 0 (!w.params.followText "set-order")) }) : SetG T.toElt h a [] #[] 0 (.fresh 0 0 (!w.params.followText "set-order")) := by
  refine ⟨⟨_, ho, ⟨rfl, rfl, rfl⟩, rfl⟩, rfl, ⟨List.Pairwise.nil, rfl, rfl, .inl rfl, fun x hx => (by cases hx), fun i h j hi => (by simp at hi)⟩, List.nodup_nil, fun p hp => (by cases hp), ?_, (by decide : 0 * 5 < 7 * 3), (by decide : 0 < 64)⟩
  cases hs : w.params.followText "set-order" with
  | true => exact .inl rfl
  | false => exact .inr rfl
end
end DS
namespace DS
open PySem PySem.Spec PyProof.Rows L2
end DS
namespace DS
open PySem PySem.Spec PyProof.Rows L2
end DS
namespace DS
open PySem PySem.Spec PyProof.Rows L2
end DS
namespace DS
open PySem PySem.Spec PyProof.Rows L2 SrtO
abbrev Pr : Type := Int × Str
/-- by the int, then by the text's signs -/
def ltM (p q : Pr) : Bool := if p.1 = q.1 then decide (p.2.cps.toList < q.2.cps.toList) else decide (p.1 < q.1)
theorem ltM_iff {p q : Pr} : ltM p q = true ↔ p.1 < q.1 ∨ (p.1 = q.1 ∧ p.2.cps.toList < q.2.cps.toList) := by
  unfold ltM
  split
  · rename_i e
    simp [e]
  · rename_i e
    rw [decide_eq_true_eq]
    constructor
    · exact .inl
    · rintro (h | h)
      · exact h
      · exact absurd h.1 e
theorem nat_asym {x y : List Nat} (h : x < y) : ¬ y < x := fun z => List.lt_irrefl x (List.lt_trans h z)
theorem nat_tri (x y : List Nat) : x < y ∨ x = y ∨ y < x := by
  by_cases h1 : x < y
  · exact .inl h1
  · by_cases h2 : y < x
    · exact .inr (.inr h2)
    · exact .inr (.inl (List.le_antisymm (List.not_lt.mp h2) (List.not_lt.mp h1)))
theorem ltM_asym {p q : Pr} (h : ltM p q = true) : ltM q p = false := by
  cases e : ltM q p with
  | false => rfl
  | true =>
    rcases ltM_iff.mp h with a | a <;> rcases ltM_iff.mp e with b | b
    · omega
    · omega
    · omega
    · exact absurd b.2 (nat_asym a.2)
theorem ltM_tri {p q : Pr} : ltM p q = true ∨ p = q ∨ ltM q p = true := by
  rcases Int.lt_trichotomy p.1 q.1 with h | h | h
  · exact .inl (ltM_iff.mpr (.inl h))
  · rcases nat_tri p.2.cps.toList q.2.cps.toList with g | g | g
    · exact .inl (ltM_iff.mpr (.inr ⟨h, g⟩))
    · refine .inr (.inl (Prod.ext h ?_))
      have : p.2.cps = q.2.cps := Array.toList_inj.mp g
      cases hp : p.2; cases hq : q.2
      rw [hp, hq] at this
      simp only at this
      rw [this]
    · exact .inr (.inr (ltM_iff.mpr (.inr ⟨h.symm, g⟩)))
  · exact .inr (.inr (ltM_iff.mpr (.inl h)))
theorem ltM_trans {p q r : Pr} (h1 : ltM p q = true) (h2 : ltM q r = true) : ltM p r = true := by
  refine ltM_iff.mpr ?_
  rcases ltM_iff.mp h1 with a | a <;> rcases ltM_iff.mp h2 with b | b
  · left; omega
  · left; omega
  · left; omega
  · right; exact ⟨a.1.trans b.1, List.lt_trans a.2 b.2⟩
theorem ltM_irr (p : Pr) : ltM p p = false := by
  cases e : ltM p p with
  | false => rfl
  | true => rw [ltM_asym e] at e; cases e
theorem swoM : Swo ltM := by
  refine ⟨fun x y h => ltM_asym h, fun x y z h1 h2 => ?_⟩
  cases e : ltM z x with
  | false => rfl
  | true =>
    rcases ltM_tri (p := x) (q := y) with g | g | g
    · rw [ltM_trans e g] at h2; cases h2
    · subst g; rw [e] at h2; cases h2
    · rw [g] at h1; cases h1
def IsMix (h : Heap) (v : Value) (p : Pr) : Prop := ∃ a o t u n, v = .ref a ∧ h.get? a = some o ∧ o.cls = .type "tuple" ∧ o.data = .seq #[.int p.1 t, .str p.2 u] n
theorem IsMix.up {h h' : Heap} {v : Value} {p : Pr} (m : IsMix h v p) (k : ∀ b o, h.get? b = some o → o.cls = .type "tuple" → h'.get? b = some o) : IsMix h' v p := by
  obtain ⟨a, o, t, u, n, e, ho, r⟩ := m
  exact ⟨a, o, t, u, n, e, k a o ho r.1, r⟩
end DS
namespace DS
open PySem PySem.Spec PyProof.Rows L2 SrtO
/-- x is the pair p -/
def PairAt (K : PySem.W.Frag) (H : Hp) (x : V) (p : Pr) : Prop := ∃ t, x = V.ref t ∧ SqT K H t [.int p.1, .str p.2]
theorem IsMix.one {h : Heap} {v : Value} {p q : Pr} (a : IsMix h v p) (b : IsMix h v q) : p = q := by
  obtain ⟨x, o, t, u, n, e, ho, hc, hd⟩ := a
  obtain ⟨x', o', t', u', n', e', ho', hc', hd'⟩ := b
  subst e
  cases e'
  rw [ho] at ho'
  cases ho'
  rw [hd] at hd'
  injection hd' with h1 h2
  have h3 := congrArg Array.toList h1
  simp only [List.cons.injEq, Value.int.injEq, Value.str.injEq] at h3
  exact Prod.ext h3.1.1 h3.2.1.1
section
variable {X : Cx} {pins : List (Addr × Obj)} {σ : L2.St} {H : Hp} {s : Shared}
def FewP (ps : List Pr) : Prop := ∃ U : List Pr, U.length < 64 ∧ ∀ p ∈ ps, p ∈ U
end
end DS
namespace DL
open PySem L2
open DS (Pr ltM PairAt ltM_tri ltM_trans ltM_irr ltM_asym swoM)
def pairD (p : Pr) : D := .tup [.int p.1, .str p.2]
abbrev leM (p q : Pr) : Bool := !ltM q p
/-- sorted -/
def sortP (ps : List Pr) : List Pr := ps.mergeSort leM
/-- ascending, each once -/
def AscP (ps : List Pr) : Prop := ps.Pairwise fun p q => ltM p q = true
def ascP (ps : List Pr) : List Pr := sortP ps.eraseDups
theorem AscP.filter {l : List Pr} (h : AscP l) (f : Pr → Bool) : AscP (l.filter f) := List.Pairwise.filter f h
section
variable {nf : NFs} {K : PySem.W.Frag}
variable [Anch nf] {X : Cx} {e : Expr} {p p2 pos pos2 : Pos} {ra : DAs nf}
/-- sorted(xs) -/
def dSortM (ra : DAs nf) : DT nf := fun env Q => ra env fun ds env1 => ∃ ps : List Pr, ds = [.lst (ps.map pairD)] ∧ Q (.lst ((sortP ps).map pairD)) env1
/-- sorted(set(xs)) -/
def dSortSet (ra : DAs nf) : DT nf := fun env Q => ra env fun ds env1 => ∃ ps : List Pr, (ds = [.lst (ps.map pairD)] ∨ ds = [.tup (ps.map pairD)]) ∧ DS.FewP ps ∧ Q (.lst ((ascP ps).map pairD)) env1
end
end DL
namespace DL
open PySem L2
section
variable {X : Cx} {nf : NFs} [Anch nf]
def iQ (da : DT nf) : DAs nf := fun env Q => da env fun d env1 => ∃ xs, (d = .lst xs ∨ d = .tup xs) ∧ Q xs env1
end
section
variable {nf : NFs} {K : PySem.W.Frag} {De : EndsD nf} {env env' : EV nf} {i j : Nat} {d x y z : D} {da db : DT nf} {ra : DAs nf} {Q : D → EV nf → Prop} {QA : List D → EV nf → Prop}
def IqK (QA : List D → EV nf → Prop) : D → EV nf → Prop := fun d env1 => ∃ xs, (d = .lst xs ∨ d = .tup xs) ∧ QA xs env1
theorem iQ_s (h : da env (IqK QA)) : iQ da env QA := h
theorem iqL_s {xs : List D} (h : QA xs env) : IqK QA (.lst xs) env := ⟨xs, .inl rfl, h⟩
theorem iqT_s {xs : List D} (h : QA xs env) : IqK QA (.tup xs) env := ⟨xs, .inr rfl, h⟩
theorem isiTup_s {xs : List D} {T : String} {b : Bool} (e : kitB "tuple" T = some b) (h : Q (.bl b) env) : CbK (fIsi K) Q [.tup xs, .ty T] env := ⟨_, ⟨_, _, _, _, b, rfl, (fun C fs z => by cases z), rfl, rfl, e, rfl⟩, h⟩
theorem kb7 : kitB "tuple" "tuple" = some true := by decide +kernel
theorem dCatT_s (h : dOp fCatT da db env Q) : dCatT da db env Q := h
theorem catT_s {xs ys : List D} (hl : xs.length + ys.length ≤ 1000000) (h : Q (.tup (xs ++ ys)) env) : OpK fCatT Q (.tup xs) (.tup ys) env := ⟨_, ⟨xs, ys, rfl, rfl, hl, rfl⟩, h⟩
theorem dInX_s {neg : Bool} (h : dOp (fInX neg) da db env Q) : dInX neg da db env Q := h
def SortMK (Q : D → EV nf → Prop) : List D → EV nf → Prop := fun ds env1 => ∃ ps : List DS.Pr, ds = [.lst (ps.map pairD)] ∧ Q (.lst ((sortP ps).map pairD)) env1
theorem dSortM_s (h : ra env (SortMK Q)) : dSortM ra env Q := h
theorem sortMK_s {ps : List DS.Pr} (h : Q (.lst ((sortP ps).map pairD)) env) : SortMK Q [.lst (ps.map pairD)] env := ⟨ps, rfl, h⟩
def SortSetK (Q : D → EV nf → Prop) : List D → EV nf → Prop := fun ds env1 => ∃ ps : List DS.Pr, (ds = [.lst (ps.map pairD)] ∨ ds = [.tup (ps.map pairD)]) ∧ DS.FewP ps ∧ Q (.lst ((ascP ps).map pairD)) env1
theorem dSortSet_s (h : ra env (SortSetK Q)) : dSortSet ra env Q := h
def InXVK (K : PySem.W.Frag) (neg : Bool) (i : Nat) (Q : D → EV nf → Prop) : D → EV nf → Prop := fun x env1 => ∃ xs p ps, lsAt K env1 i xs ∧ pyOf x = some p ∧ pyOfs xs = some ps ∧ SeqAt.shaped p = true ∧ SeqAt.shaped (.list ps) = true ∧ Q (.bl (if neg then !inX p ps else inX p ps)) env1
theorem dInXV_s {neg : Bool} (h : da env (InXVK K neg i Q)) : dInXV K neg da i env Q := h
theorem minK_s {a b : Int} (h : Q (.int (if b < a then b else a)) env) : CbK fMin Q [.int a, .int b] env := ⟨_, ⟨a, b, rfl, rfl⟩, h⟩
theorem maxK_s {a b : Int} (h : Q (.int (if b > a then b else a)) env) : CbK fMax Q [.int a, .int b] env := ⟨_, ⟨a, b, rfl, rfl⟩, h⟩
theorem min3K_s {a b c : Int} (h : Q (.int (if c < (if b < a then b else a) then c else (if b < a then b else a))) env) : CbK fMin3 Q [.int a, .int b, .int c] env := ⟨_, ⟨a, b, c, rfl, rfl⟩, h⟩
def OwnEK (P1 P2 : D → D → Prop) (S1 S2 : SpD nf) (Q : D → EV nf → Prop) (x y : D) : EV nf → Prop := fun env2 => (P1 x y ∧ S1 [.fz x, .fz y] fun d _ => Q d env2) ∨ (P2 x y ∧ S2 [.fz y, .fz x] fun d _ => Q d env2)
theorem dOwnE_s {P1 P2 : D → D → Prop} {S1 S2 : SpD nf} (h : da env fun x env1 => db env1 fun y env2 => OwnEK P1 P2 S1 S2 Q x y env2) : dOwnE P1 P2 S1 S2 da db env Q := h
end
end DL
namespace DL
open PySem L2
section
variable {nf : NFs} {a b : DTS nf} {De : EndsD nf} {env : EV nf}
def sSeqC (a b : DTS nf) : DTS nf := sSeq a b
theorem seqC_id (h : sSeqC a b De env) : sSeqC a b De env := h
theorem cutC_s (P : EV nf → Prop) (h2 : ∀ R : EV nf → Prop, (∀ e, P e → R e) → a { De with nx := R } env) (h1 : ∀ e, P e → b De e) : sSeqC a b De env := h2 (b De) h1
variable {K : PySem.W.Frag} {i : Nat} {db : DT nf} {Q : D → EV nf → Prop} {y : D}
def EqVK (K : PySem.W.Frag) (neg : Bool) (i : Nat) (Q : D → EV nf → Prop) : D → EV nf → Prop := fun y env1 => ∃ xs d e, lsAt K env1 i xs ∧ pyOf (.lst xs) = some d ∧ pyOf y = some e ∧ SeqAt.shaped d = true ∧ SeqAt.shaped e = true ∧ Q (.bl (if neg then !PyData.eqv d e else PyData.eqv d e)) env1
theorem dEqV_s {v : V} {xs : List D} {neg : Bool} (e : env[i]? = some (.ow v (lstA K nf xs))) (h : db env (EqVK K neg i Q)) : dEqV K neg i db env Q := ⟨⟨xs, .inr ⟨v, e⟩⟩, h⟩
theorem dLenV_s {v : V} {xs : List D} (e : env[i]? = some (.ow v (lstA K nf xs))) (h : Q (.int xs.length) env) : dLenV K i env Q := ⟨xs, .inr ⟨v, e⟩, h⟩
end
end DL
namespace DL
open PySem L2
section
variable {X : Cx} {nf : NFs} [Anch nf] {K : PySem.W.Frag} {CX : CXT} {k : Nat} {f C : Addr} {fd : FuncData} {ps : List Str} {sp : Sp} {E : XK} {a b : Expr} {pos : Pos} {da db : DT nf} {S : SpD nf} {W : WX} {xc : XcD nf}
def dInOwn (C : Addr) (S : SpD nf) (da db : DT nf) : DT nf := fun env Q => da env fun x env1 => db env1 fun y env2 => isO C y ∧ S [.fz y, .fz x] fun d _ => ∃ c, d = .bl c ∧ Q (.bl c) env2
end
section
variable {X : Cx} {nf : NFs} [Anch nf] {K : PySem.W.Frag} {CX : CXT} {k : Nat} {f C : Addr} {fd : FuncData} {ps : List Str} {sp : Sp} {E : XK} {e : Expr} {p pos : Pos} {da : DT nf} {S : SpD nf}
/-- len(x), str(x) of an own object -/
def dOwn1 (C : Addr) (S : SpD nf) (g : D → Prop) (da : DT nf) : DT nf := fun env Q => da env fun x env1 => isO C x ∧ S [.fz x] fun d _ => g d ∧ Q d env1
end
end DL
namespace DL
open PySem L2
end DL
namespace DL
open PySem L2
section
variable {X : Cx} {nf : NFs} [Anch nf] {K : PySem.W.Frag} {e : Expr} {pos : Pos} {da : DT nf}
/-- {x} -/
def dFmt (da : DT nf) : DT nf := fun env Q => da env fun x env1 => (∃ y : Str, x = .str y ∧ y.length ≤ 1000000 ∧ Q (.str y) env1) ∨ ∃ i : Int, x = .int i ∧ i.natAbs.log2 < 1920 ∧ Q (.str (toString i)) env1
/-- the parts' texts, one behind the other -/
def jDs : List (DT nf) → Str → EV nf → (Str → EV nf → Prop) → Prop
  | [], acc, env, Q => Q acc env
  | t :: ts, acc, env, Q => t env fun d env1 => ∃ y : Str, d = .str y ∧ acc.length + y.length ≤ 1000000 ∧ jDs ts (acc ++ y) env1 Q
def dJoined (ts : List (DT nf)) : DT nf := fun env Q => jDs ts Str.empty env fun y env1 => Q (.str y) env1
end
section
variable {nf : NFs} {env : EV nf} {da : DT nf} {Q : D → EV nf → Prop} {ts : List (DT nf)}
def FmtK (Q : D → EV nf → Prop) : D → EV nf → Prop := fun x env1 => (∃ y : Str, x = .str y ∧ y.length ≤ 1000000 ∧ Q (.str y) env1) ∨ ∃ i : Int, x = .int i ∧ i.natAbs.log2 < 1920 ∧ Q (.str (toString i)) env1
theorem dFmt_s (h : da env (FmtK Q)) : dFmt da env Q := h
theorem dJoined_s (h : jDs ts Str.empty env fun y env1 => Q (.str y) env1) : dJoined ts env Q := h
def JK (ts : List (DT nf)) (acc : Str) (QS : Str → EV nf → Prop) : D → EV nf → Prop := fun d env1 => ∃ y : Str, d = .str y ∧ acc.length + y.length ≤ 1000000 ∧ jDs ts (acc ++ y) env1 QS
theorem jNil_s {acc : Str} {QS : Str → EV nf → Prop} (h : QS acc env) : jDs [] acc env QS := h
theorem jCons_s {acc : Str} {QS : Str → EV nf → Prop} (h : da env (JK ts acc QS)) : jDs (da :: ts) acc env QS := h
end
end DL
namespace DL
open PySem L2
section
variable {X : Cx} {nf : NFs} [Anch nf] {K : PySem.W.Frag} {o e : Expr} {da db : DT nf} {apos pos p : Pos}
abbrev partD (a b : Str) : D := .tup [.str (Txt.partition a b).1, .str (Txt.partition a b).2.1, .str (Txt.partition a b).2.2]
def dPart (da db : DT nf) : DT nf := fun env Q => da env fun x env1 => ∃ a, x = .str a ∧ db env1 fun y env2 => ∃ b, y = .str b ∧ (b.length == 0) = false ∧ a.length ≤ 1000000 ∧ Q (partD a b) env2
end
section
open ClX (CRead CMet)
variable {X : Cx} {nf : NFs} [Anch nf] {K : PySem.W.Frag} {CX : CXT} {k n : Nat} {f C pr : Addr} {mc : Value} {fd : FuncData} {ps : List Str} {S : SpD nf} {dvs : List V} {dds : List D} {ds : List Value} {E : XK} {x m : Str} {p pos apos : Pos} {e o : Expr} {es : List Expr} {r : DM nf} {da : DT nf}
def dCMeth (n : Nat) (C : Addr) (S : SpD nf) (dds : List D) (da : DT nf) (r : DM nf) : DT nf := fun env Q => da env fun ob env0 => ob = .cls C ∧ r env0 fun ads env1 => ads.length + dds.length + 1 = n ∧ (slotsOf (ads ++ dds.map AD.v)).Nodup ∧ (∀ i ∈ slotsOf (ads ++ dds.map AD.v), i < env1.length) ∧
  S ((AD.v (.cls C) :: (ads ++ dds.map AD.v)).map (resolve env1)) fun d as' => Q d (putBack env1 (AD.v (.cls C) :: (ads ++ dds.map AD.v)) as')
def dMakeL (K : PySem.W.Frag) (i n : Nat) (C : Addr) (S : SpD nf) (dds : List D) (r : DM nf) : DT nf := fun env Q => env[i]? = some (.fz (.cls C)) ∧ dMake K n C S dds r env Q
end
section
variable {nf : NFs} {env env' : EV nf} {da db : DT nf} {Q : D → EV nf → Prop} {d : D} {n i : Nat} {C : Addr} {S : SpD nf} {dds : List D} {rm : DM nf} {K : PySem.W.Frag}
def Own1K (C : Addr) (S : SpD nf) (g : D → Prop) (Q : D → EV nf → Prop) : D → EV nf → Prop := fun x env1 => isO C x ∧ S [.fz x] fun d _ => g d ∧ Q d env1
theorem dOwn1_s {g : D → Prop} (h : da env (Own1K C S g Q)) : dOwn1 C S g da env Q := h
theorem own1K_s {g : D → Prop} {fs : List (Str × D)} (h : S [.fz (.obj C fs)] fun d _ => g d ∧ Q d env) : Own1K C S g Q (.obj C fs) env := ⟨⟨fs, rfl⟩, h⟩
def PartK2 (a : Str) (Q : D → EV nf → Prop) : D → EV nf → Prop := fun y env2 => ∃ b, y = .str b ∧ (b.length == 0) = false ∧ a.length ≤ 1000000 ∧ Q (partD a b) env2
def PartK (db : DT nf) (Q : D → EV nf → Prop) : D → EV nf → Prop := fun x env1 => ∃ a, x = .str a ∧ db env1 (PartK2 a Q)
theorem dPart_s (h : da env (PartK db Q)) : dPart da db env Q := h
theorem partK_s {a : Str} (h : db env (PartK2 a Q)) : PartK db Q (.str a) env := ⟨a, rfl, h⟩
theorem dMakeL_s (e : env[i]? = some (.fz (.cls C))) (h : dMake K n C S dds rm env Q) : dMakeL K i n C S dds rm env Q := ⟨e, h⟩
def CMethK2 (n : Nat) (C : Addr) (S : SpD nf) (dds : List D) (Q : D → EV nf → Prop) : List AD → EV nf → Prop := fun ads env1 => ads.length + dds.length + 1 = n ∧ (slotsOf (ads ++ dds.map AD.v)).Nodup ∧ (∀ i ∈ slotsOf (ads ++ dds.map AD.v), i < env1.length) ∧
  S ((AD.v (.cls C) :: (ads ++ dds.map AD.v)).map (resolve env1)) fun d as' => Q d (putBack env1 (AD.v (.cls C) :: (ads ++ dds.map AD.v)) as')
def CMethK (n : Nat) (C : Addr) (S : SpD nf) (dds : List D) (rm : DM nf) (Q : D → EV nf → Prop) : D → EV nf → Prop := fun ob env0 => ob = .cls C ∧ rm env0 (CMethK2 n C S dds Q)
theorem dCMeth_s (h : da env (CMethK n C S dds rm Q)) : dCMeth n C S dds da rm env Q := h
theorem cmethK_s (h : rm env (CMethK2 n C S dds Q)) : CMethK n C S dds rm Q (.cls C) env := ⟨rfl, h⟩
theorem cmethK2_s {ads ads' : List AD} {as : List (SD nf)} (h1 : ads.length + dds.length + 1 = n) (e1 : ads ++ dds.map AD.v = ads') (h2 : ndB (slotsOf ads') = true) (h3 : (slotsOf ads').all (fun i => Nat.blt i env.length) = true)
    (e2 : (AD.v (.cls C) :: ads').map (resolve env) = as) (h : S as (PutK env (AD.v (.cls C) :: ads') Q)) : CMethK2 n C S dds Q ads env := by subst e1; subst e2; exact ⟨h1, nd_of h2, ofAll h3, h⟩
end
end DL
namespace DL
open PySem
theorem cl2_app (x y : Str) : (x ++ y).cps.toList = x.cps.toList ++ y.cps.toList := by rw [Str.cps_append, Array.toList_append]
def wordP (p : DS.Pr) : Str := (Str.ofString (toString p.1) ++ Str.ofString ":") ++ p.2
/-- a pair that can be written: neither a colon nor a space in its name -/
structure WrP (p : DS.Pr) : Prop where
  lo : 0 ≤ p.1
  hi : p.1 < 10 ^ 60
  ne : p.2.cps.toList ≠ []
  len : p.2.length ≤ 12
  col : 58 ∉ p.2.cps.toList
  spc : 32 ∉ p.2.cps.toList
section
variable {p : DS.Pr}
theorem WrP.num (h : WrP p) : ∃ n : Nat, p.1 = (n : Int) ∧ n < 10 ^ 60 := by
  refine ⟨p.1.toNat, (Int.toNat_of_nonneg h.lo).symm, ?_⟩
  have := h.hi
  have h0 := h.lo
  have e : ((10 ^ 60 : Nat) : Int) = 10 ^ 60 := by decide
  omega
theorem cl_num {n : Nat} : (Str.ofString (toString ((n : Nat) : Int))).cps.toList = TL.numL n := TL.tl_num n
theorem WrP.cl (h : WrP p) : ∃ n : Nat, p.1 = (n : Int) ∧ n < 10 ^ 60 ∧ (wordP p).cps.toList = TL.numL n ++ (58 :: p.2.cps.toList) := by
  obtain ⟨n, e, hn⟩ := h.num
  refine ⟨n, e, hn, ?_⟩
  unfold wordP
  rw [cl2_app, cl2_app, e, cl_num, List.append_assoc]
  rfl
theorem num_len {n : Nat} (h : n < 10 ^ 60) : (TL.numL n).length ≤ 60 := TL.numL_len (by decide) h
theorem WrP.int (h : WrP p) : PySem.intText? (Str.ofString (toString p.1)) = some p.1 := by
  obtain ⟨n, e, hn⟩ := h.num
  rw [e]
  exact TL.int_num (by have := num_len hn; omega)
end
end DL
namespace DL
section
open PySem PySem.Spec PyProof.Rows L2
variable {X : Cx} {nf : NFs} [Anch nf] {K : PySem.W.Frag}
def dLstRev (da : DT nf) : DT nf := fun env Q => da env fun x env1 => ∃ xs, x = .lst xs ∧ Q (.lst xs.reverse) env1
theorem rels_rev {H : Hp} : ∀ {vs : List V} {ds : List D}, Rels K nf H vs ds → Rels K nf H vs.reverse ds.reverse
  | _, _, .nil => .nil
  | _, _, .cons h r => by
    rw [List.reverse_cons, List.reverse_cons]
    exact (rels_rev r).append (.cons h .nil)
/-- tuple(reversed(x)), x a list -/
def dTupRev (da : DT nf) : DT nf := fun env Q => da env fun x env1 => ∃ xs, x = .lst xs ∧ Q (.tup xs.reverse) env1
theorem de_tupRev {e : Expr} {da : DT nf} {p p2 pos pos2 : Pos} (hc : X.calm = true) (hg : Gl X "tuple") (hm : X.mg "tuple" = none) (hg2 : Gl X "reversed") (hm2 : X.mg "reversed" = none) (he : DE X nf e da) (hs : starEach [e] X.env = (false, eval e X.env) :: starEach [] X.env := by rfl)
    (hs2 : starEach [.Call (.Name "reversed" p2) [e] [] pos2] X.env = (false, eval (.Call (.Name "reversed" p2) [e] [] pos2) X.env) :: starEach [] X.env := by rfl) : DE X nf (.Call (.Name "tuple" p) [.Call (.Name "reversed" p2) [e] [] pos2] [] pos) (dTupRev da) :=
  pe_imp (RT.pe_tupRev hc hg hm hg2 hm2 he hs hs2) fun σ H Q ⟨env, fp, Qd, R, h, k⟩ => lift_run R h fun v H1 x env1 fp1 r1 R1 c1 ⟨xs, ex, q⟩ => by
    subst ex
    cases r1 with
    | @lst a vs _ hl rr =>
      refine ⟨a, vs, rfl, hl.sq, fun p hp => ?_⟩
      have x : Xt H1 (upd H1 p (.tup vs.reverse)) := Xt.new hp
      exact k _ _ _ env1 fp1 (.tup (.inl (.inl upd_same)) ((rels_rev rr).mono x.stp)) (R1.ext x) (c1.trans x.ch) q
end
section
open PySem L2
variable {X : Cx} {nf : NFs} [Anch nf] {K : PySem.W.Frag} {CX : CXT} {k : Nat} {f C : Addr} {fd : FuncData} {ps : List Str} {sp : Sp} {E : XK} {a b : Expr} {pos : Pos} {da db : DT nf} {S : SpD nf}
def dNinOwn (C : Addr) (S : SpD nf) (da db : DT nf) : DT nf := fun env Q => da env fun x env1 => db env1 fun y env2 => isO C y ∧ S [.fz y, .fz x] fun d _ => ∃ c, d = .bl c ∧ Q (.bl (!c)) env2
end
section
open PySem L2
variable {nf : NFs} {env : EV nf} {da db : DT nf} {Q : D → EV nf → Prop} {C : Addr} {S : SpD nf} {x : D}
def LstRevK (Q : D → EV nf → Prop) : D → EV nf → Prop := fun x env1 => ∃ xs, x = .lst xs ∧ Q (.lst xs.reverse) env1
theorem dLstRev_s (h : da env (LstRevK Q)) : dLstRev da env Q := h
theorem lstRevK_s {xs : List D} (h : Q (.lst xs.reverse) env) : LstRevK Q (.lst xs) env := ⟨xs, rfl, h⟩
def TupRevK (Q : D → EV nf → Prop) : D → EV nf → Prop := fun x env1 => ∃ xs, x = .lst xs ∧ Q (.tup xs.reverse) env1
theorem dTupRev_s (h : da env (TupRevK Q)) : dTupRev da env Q := h
theorem tupRevK_s {xs : List D} (h : Q (.tup xs.reverse) env) : TupRevK Q (.lst xs) env := ⟨xs, rfl, h⟩
def InOwnK (C : Addr) (S : SpD nf) (neg : Bool) (x : D) (Q : D → EV nf → Prop) : D → EV nf → Prop := fun y env2 => isO C y ∧ S [.fz y, .fz x] fun d _ => ∃ c, d = .bl c ∧ Q (.bl (if neg then !c else c)) env2
theorem dInOwn_s (h : da env fun x env1 => db env1 (InOwnK C S false x Q)) : dInOwn C S da db env Q := h
theorem dNinOwn_s (h : da env fun x env1 => db env1 (InOwnK C S true x Q)) : dNinOwn C S da db env Q := h
theorem inOwnK_s {fs : List (Str × D)} {neg : Bool} (h : S [.fz (.obj C fs), .fz x] fun d _ => ∃ c, d = .bl c ∧ Q (.bl (if neg then !c else c)) env) : InOwnK C S neg x Q (.obj C fs) env := ⟨⟨fs, rfl⟩, h⟩
end
end DL
namespace DL
open PySem L2
section
variable {X : Cx} {nf : NFs} [Anch nf] {K : PySem.W.Frag}
def dCallT (n : Nat) (S : SpD nf) (n0 : Nat) (S0 : SpO nf) (r0 r : DM nf) : DT nf := fun env Q => r0 env fun ads0 env0 => ads0.length = n0 ∧ (slotsOf ads0).Nodup ∧ (∀ i ∈ slotsOf ads0, i < env0.length) ∧
  S0 (ads0.map (resolve env0)) fun s as0 => isSet s ∧ r (putBack env0 ads0 as0) fun ads env1 => ads.length + 1 = n ∧ (slotsOf ads).Nodup ∧ (∀ i ∈ slotsOf ads, i < env1.length) ∧
    S (s :: ads.map (resolve env1)) fun d as' => ∃ s' rest, as' = s' :: rest ∧ Q d (putBack env1 ads rest)
end
section
variable {nf : NFs} {env : EV nf} {Q : D → EV nf → Prop} {n n0 : Nat} {S : SpD nf} {S0 : SpO nf} {r0 r : DM nf} {as : List (SD nf)}
def CallT1 (n : Nat) (S : SpD nf) (n0 : Nat) (S0 : SpO nf) (r : DM nf) (Q : D → EV nf → Prop) : List AD → EV nf → Prop := fun ads0 env0 => ads0.length = n0 ∧ (slotsOf ads0).Nodup ∧ (∀ i ∈ slotsOf ads0, i < env0.length) ∧
  S0 (ads0.map (resolve env0)) fun s as0 => isSet s ∧ r (putBack env0 ads0 as0) fun ads env1 => ads.length + 1 = n ∧ (slotsOf ads).Nodup ∧ (∀ i ∈ slotsOf ads, i < env1.length) ∧
    S (s :: ads.map (resolve env1)) fun d as' => ∃ s' rest, as' = s' :: rest ∧ Q d (putBack env1 ads rest)
def CallT2 (n : Nat) (S : SpD nf) (s : SD nf) (Q : D → EV nf → Prop) : List AD → EV nf → Prop := fun ads env1 => ads.length + 1 = n ∧ (slotsOf ads).Nodup ∧ (∀ i ∈ slotsOf ads, i < env1.length) ∧ S (s :: ads.map (resolve env1)) fun d as' => ∃ s' rest, as' = s' :: rest ∧ Q d (putBack env1 ads rest)
def CallT3 (env : EV nf) (ads : List AD) (Q : D → EV nf → Prop) : D → List (SD nf) → Prop := fun d as' => ∃ s' rest, as' = s' :: rest ∧ Q d (putBack env ads rest)
def CallT4 (n : Nat) (S : SpD nf) (env0 : EV nf) (ads0 : List AD) (r : DM nf) (Q : D → EV nf → Prop) : SD nf → List (SD nf) → Prop := fun s as0 => isSet s ∧ r (putBack env0 ads0 as0) (CallT2 n S s Q)
theorem dCallT_s (h : r0 env (CallT1 n S n0 S0 r Q)) : dCallT n S n0 S0 r0 r env Q := h
theorem callT1_s {ads0 : List AD} (h1 : ads0.length = n0) (h2 : ndB (slotsOf ads0) = true) (h3 : (slotsOf ads0).all (fun i => Nat.blt i env.length) = true) (e2 : ads0.map (resolve env) = as) (h : S0 as (CallT4 n S env ads0 r Q)) : CallT1 n S n0 S0 r Q ads0 env := by
  subst e2
  exact ⟨h1, nd_of h2, ofAll h3, h⟩
theorem callT4_s {ads0 : List AD} {v : V} {A : OA nf} {as0 : List (SD nf)} {env' : EV nf} (e : putBack env ads0 as0 = env') (h : r env' (CallT2 n S (.ow v A) Q)) : CallT4 n S env ads0 r Q (.ow v A) as0 := by
  subst e
  exact ⟨trivial, h⟩
theorem callT2_s {ads : List AD} {s : SD nf} (h1 : ads.length + 1 = n) (h2 : ndB (slotsOf ads) = true) (h3 : (slotsOf ads).all (fun i => Nat.blt i env.length) = true) (e2 : ads.map (resolve env) = as) (h : S (s :: as) (CallT3 env ads Q)) : CallT2 n S s Q ads env := by
  subst e2
  exact ⟨h1, nd_of h2, ofAll h3, h⟩
theorem callT3_s {ads : List AD} {s' : SD nf} {rest : List (SD nf)} {env' : EV nf} {d : D} (e : putBack env ads rest = env') (h : Q d env') : CallT3 env ads Q d (s' :: rest) := by
  subst e
  exact ⟨s', rest, rfl, h⟩
end
end DL
namespace DL
section
open PySem L2
variable {X : Cx} {nf : NFs} [Anch nf] {K : PySem.W.Frag} {CX : CXT} {k : Nat} {f C : Addr} {fd : FuncData} {ps : List Str} {sp : Sp} {E : XK} {e : Expr} {p pos : Pos} {da : DT nf} {S : SpD nf} {i : Nat}
def sqAt (K : PySem.W.Frag) (env : EV nf) (i : Nat) (xs : List D) : Prop := env[i]? = some (.fz (.lst xs)) ∨ env[i]? = some (.fz (.tup xs)) ∨ ∃ v, env[i]? = some (.ow v (lstA K nf xs))
theorem EnvR.sq {H : Hp} {σ : St} {env : EV nf} {fp : List Addr} (R : EnvR K nf H σ env fp) {xs : List D} (h : sqAt K env i xs) : ∃ l vs, σ[i]? = some (some (.ref l)) ∧ (SqL K H l vs ∨ SqT K H l vs) ∧ Rels K nf H vs xs := by
  rcases h with h | h | ⟨v, h⟩
  · obtain ⟨o, fi, e1, ⟨_, u, eo, r⟩, _⟩ := R.at h
    subst eo
    cases r with
    | @lst a vs _ hl rr => exact ⟨a, vs, e1, .inl hl.sq, rr⟩
  · obtain ⟨o, fi, e1, ⟨_, u, eo, r⟩, _⟩ := R.at h
    subst eo
    cases r with
    | @tup a vs _ hl rr => exact ⟨a, vs, e1, .inr hl, rr⟩
  · obtain ⟨p, vs, ev, e1, hp, rr, _⟩ := R.lstAt h
    exact ⟨p, vs, e1, .inl (SqL.of hp), rr⟩
def sClear (K : PySem.W.Frag) (i : Nat) : DTS nf := fun De env => ∃ v xs, env[i]? = some (.ow v (lstA K nf xs)) ∧ De.nx (env.set i (.ow v (lstA K nf [])))
end
section
open PySem L2
variable {X : Cx} {nf : NFs} [Anch nf] {K : PySem.W.Frag}
def sSetLL (K : PySem.W.Frag) (i : Nat) (r : DAs nf) : DTS nf := fun De env => r env fun ds env1 => ∃ xs, (ds = [.lst xs] ∨ ds = [.tup xs]) ∧ i < env1.length ∧ ∀ p, De.nx (env1.set i (.ow (.ref p) (lstA K nf xs)))
end
section
open PySem L2
open ClX (CRead CMet)
variable {X : Cx} {nf : NFs} [Anch nf] {K : PySem.W.Frag} {CX : CXT} {k : Nat} {f C pr : Addr} {mc : Value} {S : SpD nf} {E : XK} {m : Str} {pos apos : Pos} {e o : Expr} {es : List Expr} {ra : DAs nf} {da : DT nf}
def dCMethS (C : Addr) (S : SpD nf) (da : DT nf) (ra : DAs nf) : DT nf := fun env Q => da env fun ob env0 => ob = .cls C ∧ ra env0 fun ds env1 => ds.length ≤ 1000000 ∧ S [.fz (.cls C), .fz (.tup ds)] fun d _ => Q d env1
end
section
open PySem L2
variable {nf : NFs} {env : EV nf} {env' : Addr → EV nf} {envA : EV nf} {da : DT nf} {ra : DAs nf} {Q : D → EV nf → Prop} {C : Addr} {S : SpD nf} {x : D} {K : PySem.W.Frag} {i : Nat} {De : EndsD nf} {g : DG nf} {b : DTS nf} {xs : List D}
def SetLLK (K : PySem.W.Frag) (i : Nat) (De : EndsD nf) : List D → EV nf → Prop := fun ds env1 => ∃ xs, (ds = [.lst xs] ∨ ds = [.tup xs]) ∧ i < env1.length ∧ ∀ p, De.nx (env1.set i (.ow (.ref p) (lstA K nf xs)))
theorem sSetLL_s (h : ra env (SetLLK K i De)) : sSetLL K i ra De env := h
theorem setLL_s (hl : Nat.blt i env.length = true) (e : ∀ p, env.set i (.ow (.ref p) (lstA K nf xs)) = env' p) (h : ∀ p, De.nx (env' p)) : SetLLK K i De [.lst xs] env := ⟨xs, .inl rfl, Nat.blt_eq.mp hl, fun p => by rw [e p]; exact h p⟩
theorem sClear_s {v : V} (e : env[i]? = some (.ow v (lstA K nf xs))) (e2 : env.set i (.ow v (lstA K nf [])) = envA) (h : De.nx envA) : sClear K i De env := ⟨v, xs, e, e2 ▸ h⟩
def CMethSK2 (C : Addr) (S : SpD nf) (Q : D → EV nf → Prop) : List D → EV nf → Prop := fun ds env1 => ds.length ≤ 1000000 ∧ S [.fz (.cls C), .fz (.tup ds)] fun d _ => Q d env1
def CMethSK (C : Addr) (S : SpD nf) (ra : DAs nf) (Q : D → EV nf → Prop) : D → EV nf → Prop := fun ob env0 => ob = .cls C ∧ ra env0 (CMethSK2 C S Q)
theorem dCMethS_s (h : da env (CMethSK C S ra Q)) : dCMethS C S da ra env Q := h
theorem cmethSK_s (h : ra env (CMethSK2 C S Q)) : CMethSK C S ra Q (.cls C) env := ⟨rfl, h⟩
theorem cmethSK2_s (hl : Nat.ble xs.length 1000000 = true) (h : S [.fz (.cls C), .fz (.tup xs)] fun d _ => Q d env) : CMethSK2 C S Q xs env := ⟨Nat.le_of_ble_eq_true hl, h⟩
end
end DL
namespace DL
open PySem PySem.Spec PyProof.Rows L2 L2H
end DL
namespace DL
open PySem L2
def strsOf : List D → Option (List Str)
  | [] => some []
  | .str s :: r => (strsOf r).map (s :: ·)
  | _ :: _ => none
theorem strsOf_map (ss : List Str) : strsOf (ss.map .str) = some ss := by
  induction ss with
  | nil => rfl
  | cons s ss ih => show (strsOf (ss.map .str)).map _ = _; rw [ih]; rfl
theorem strsOf_eq : ∀ {xs : List D} {ss : List Str}, strsOf xs = some ss → xs = ss.map .str
  | [], ss, e => by cases e; rfl
  | x :: xs, ss, e => by
    cases x <;> simp only [strsOf] at e <;> try (cases e; done)
    rename_i s
    cases h : strsOf xs with
    | none => rw [h] at e; cases e
    | some r =>
      rw [h] at e
      have : s :: r = ss := Option.some.inj e
      subst this
      rw [strsOf_eq h]; rfl
theorem inV_strsD (z : Str) : ∀ ss : List Str, inV (.str z) (ss.map V.str) = decide (z ∈ ss)
  | [] => by simp [inV]
  | s :: ss => by
    have ih := inV_strsD z ss
    unfold inV at ih ⊢
    rw [List.map_cons, List.any_cons, ih]
    show ((s == z) || decide (z ∈ ss)) = decide (z ∈ s :: ss)
    by_cases h : s = z
    · subst h; simp
    · have h' : ¬ z = s := fun e => h e.symm
      simp [h, h']
theorem flat_strsD : ∀ ss : List Str, flatDs (ss.map .str) = some (ss.map V.str)
  | [] => rfl
  | s :: ss => by
    show (flatD (.str s)).bind (fun v => (flatDs (ss.map .str)).map fun vs => v :: vs) = _
    rw [flat_strsD ss]; rfl
theorem inD_strsT (z : Str) (ss : List Str) : inD (.str z) (.tup (ss.map .str)) = some (decide (z ∈ ss)) := by
  show ((flatD (.str z)).bind fun w => (flatDs (ss.map .str)).map fun us => inV w us) = _
  rw [flat_strsD]
  exact congrArg some (inV_strsD z ss)
theorem inD_strsL (z : Str) (ss : List Str) : inD (.str z) (.lst (ss.map .str)) = some (decide (z ∈ ss)) := by
  show ((flatD (.str z)).bind fun w => (flatDs (ss.map .str)).map fun us => inV w us) = _
  rw [flat_strsD]
  exact congrArg some (inV_strsD z ss)
theorem sIx_nat (n d k : Nat) (h : k ≤ n) : HT.sIx n d (some (k : Int)) = k := by
  have h1 : ¬ ((k : Int) < 0) := by omega
  unfold HT.sIx
  simp only [h1, if_false, Int.toNat_natCast]
  omega
theorem cutD_take (xs : List D) (k : Int) (h0 : 0 ≤ k) (h1 : k ≤ xs.length) : cutD xs none (some k) = xs.take k.toNat := by
  obtain ⟨m, rfl⟩ := Int.eq_ofNat_of_zero_le h0
  unfold cutD
  rw [sIx_nat _ _ _ (by omega)]
  show (xs.drop 0).take (m - 0) = _
  simp
theorem cutD_drop1 (x : D) (xs : List D) : cutD (x :: xs) (some 1) none = xs := by
  unfold cutD
  rw [show HT.sIx (x :: xs).length 0 (some 1) = 1 from sIx_nat _ _ 1 (by simp)]
  show ((x :: xs).drop 1).take ((x :: xs).length - 1) = _
  simp
theorem cutD_last (xs : List D) (d : D) : cutD (xs ++ [d]) none (some (-1)) = xs := by
  unfold cutD
  have e : HT.sIx (xs ++ [d]).length (xs ++ [d]).length (some (-1)) = xs.length := by
    unfold HT.sIx
    simp only [show ((-1 : Int) < 0) from by decide, if_true, List.length_append, List.length_singleton]
    omega
  rw [e]
  show ((xs ++ [d]).drop 0).take (xs.length - 0) = _
  simp
theorem atI_last {α : Type} {xs : List α} {d : α} : atI (xs ++ [d]) (-1) = some d := by
  have e : ixN (xs ++ [d]).length (-1) = some xs.length := by
    unfold ixN
    rw [if_neg (by decide)]
    have h2 : ((-1 : Int) + ((xs ++ [d]).length : Int)).toNat = xs.length := by simp; omega
    first
      | (rw [if_pos (by simp; omega), h2])
      | (simp; omega)
  unfold atI
  rw [e]
  simp
theorem len2 {α : Type} {l : List α} (h : l.length = 2) : ∃ a b, l = [a, b] := by
  match l, h with
  | [a, b], _ => exact ⟨a, b, rfl⟩
section
variable {nf : NFs} {env : EV nf} {Q : D → EV nf → Prop} {xs : List D} {ss : List Str} {z : Str} {b : Bool}
theorem inTb_s (e : strsOf xs = some ss) (hb : decide (z ∈ ss) = b) (h : Q (.bl b) env) : FK (inF false) Q (.str z) (.tup xs) env := by
  rw [strsOf_eq e]
  exact in_s (b := b) (by rw [inD_strsT, hb]) h
theorem ninTb_s (e : strsOf xs = some ss) (hb : decide (z ∈ ss) = b) (h : Q (.bl (!b)) env) : FK ninF Q (.str z) (.tup xs) env := by
  rw [strsOf_eq e]
  exact ninT_s (b := b) (by rw [inD_strsT, hb]) h
theorem inLb_s (e : strsOf xs = some ss) (hb : decide (z ∈ ss) = b) (h : Q (.bl b) env) : FK (inF false) Q (.str z) (.lst xs) env := by
  rw [strsOf_eq e]
  exact in_s (b := b) (by rw [inD_strsL, hb]) h
theorem ninLb_s (e : strsOf xs = some ss) (hb : decide (z ∈ ss) = b) (h : Q (.bl (!b)) env) : FK ninF Q (.str z) (.lst xs) env := by
  rw [strsOf_eq e]
  exact ninL_s (b := b) (by rw [inD_strsL, hb]) h
theorem dNegC_s {k : Int} (h : Q (.int (-k)) env) : dNeg (dC (.int k)) env Q := ⟨k, rfl, h⟩
def SlTK (Q : D → EV nf → Prop) (x : D) (l u : Option Int) : EV nf → Prop := fun env3 => ∃ xs, x = .tup xs ∧ Q (.tup (cutD xs l u)) env3
theorem dSlT_s {da : DT nf} {lo hi : DO nf} (h : da env fun x env1 => lo env1 fun l env2 => hi env2 fun u env3 => SlTK Q x l u env3) : dSlT da lo hi env Q := h
theorem slTK_s {l u : Option Int} (h : Q (.tup (cutD xs l u)) env) : SlTK Q (.tup xs) l u env := ⟨xs, rfl, h⟩
end
def plD (n : Nat) (d : D) : Prop := ∃ p, pyOf d = some p ∧ PyData.canLay0 p = true ∧ PyData.depth p ≤ n
def plDs (n : Nat) (ds : List D) : Prop := ∃ ps, pyOfs ds = some ps ∧ PyData.canLayAll0 ps = true ∧ PyData.depthAll ps ≤ n ∧ ps.length = ds.length
theorem plDs_of {n : Nat} : ∀ {ds : List D}, (∀ d ∈ ds, plD n d) → plDs n ds
  | [], _ => ⟨[], rfl, by simp only [PyData.canLayAll0], by simp only [PyData.depthAll]; omega, rfl⟩
  | d :: ds, h => by
    obtain ⟨p, h1, h2, h3⟩ := h d List.mem_cons_self
    obtain ⟨ps, e1, e2, e3, e4⟩ := plDs_of (ds := ds) fun x m => h x (List.mem_cons_of_mem _ m)
    refine ⟨p :: ps, by simp only [pyOfs, h1, e1]; rfl, by simp only [PyData.canLayAll0, h2, e2]; rfl, by simp only [PyData.depthAll]; omega, by simp [e4]⟩
theorem plD.mono {n m : Nat} {d : D} (h : plD n d) (l : n ≤ m) : plD m d := let ⟨p, h1, h2, h3⟩ := h; ⟨p, h1, h2, Nat.le_trans h3 l⟩
theorem plD_tup {n : Nat} {ds : List D} (h : ∀ d ∈ ds, plD n d) : plD (n + 1) (.tup ds) := by
  obtain ⟨ps, e1, e2, e3, _⟩ := plDs_of h
  exact ⟨.tuple ps, by simp only [pyOf, e1]; rfl, by simp only [PyData.canLay0, e2], by simp only [PyData.depth]; omega⟩
theorem plD_lst {n : Nat} {ds : List D} (h : ∀ d ∈ ds, plD n d) : plD (n + 1) (.lst ds) := by
  obtain ⟨ps, e1, e2, e3, _⟩ := plDs_of h
  exact ⟨.list ps, by simp only [pyOf, e1]; rfl, by simp only [PyData.canLay0, e2], by simp only [PyData.depth]; omega⟩
theorem plD_str {s : Str} {n : Nat} (h : PyData.strOk s = true) : plD n (.str s) := ⟨.str s, rfl, by simpa only [PyData.canLay0] using h, by simp only [PyData.depth]; omega⟩
theorem plD.shaped {n : Nat} {d : D} (h : plD n d) (l : n ≤ 64) : ∃ p, pyOf d = some p ∧ SeqAt.shaped p = true := by
  obtain ⟨p, h1, h2, h3⟩ := h
  refine ⟨p, h1, ?_⟩
  unfold SeqAt.shaped
  rw [h2, decide_eq_true (show p.depth ≤ 64 by omega)]
  rfl
section
variable {nf : NFs} {env : EV nf} {Q : D → EV nf → Prop} {xs : List D} {n : Nat}
theorem eqvAll_nil (ps : List PyData) : PyData.eqvAll ps [] = ps.isEmpty := by cases ps <;> simp only [PyData.eqvAll] <;> rfl
theorem nil_of {xs : List D} {ps : List PyData} (h : pyOfs xs = some ps) : ps.isEmpty = xs.isEmpty := by
  cases xs with
  | nil => simp only [pyOfs, Option.some.injEq] at h; subst h; rfl
  | cons x xs =>
    simp only [pyOfs] at h
    cases e : pyOf x with
    | none => rw [e] at h; cases h
    | some p =>
      rw [e] at h
      cases e2 : pyOfs xs with
      | none => rw [e2] at h; cases h
      | some qs =>
        rw [e2] at h
        have : p :: qs = ps := Option.some.inj h
        subst this; rfl
theorem neNilT_s (h : plD n (.tup xs)) (hn : n ≤ 64) (q : Q (.bl (!xs.isEmpty)) env) : OpK (eqQ true) Q (.tup xs) (.tup []) env := by
  obtain ⟨p, e, sh⟩ := h.shaped hn
  refine eqDT_s e (q := .tuple []) rfl sh (by decide +kernel) ?_
  cases hp : pyOfs xs with
  | none => simp only [pyOf, hp] at e; cases e
  | some ps =>
    simp only [pyOf, hp] at e
    have e' : PyData.tuple ps = p := Option.some.inj e
    subst e'
    rw [show PyData.eqv (.tuple ps) (.tuple []) = xs.isEmpty from by simp only [PyData.eqv]; rw [eqvAll_nil, nil_of hp]]
    exact q
theorem neNilL_s (h : plD n (.lst xs)) (hn : n ≤ 64) (q : Q (.bl (!xs.isEmpty)) env) : OpK (eqQ true) Q (.lst xs) (.lst []) env := by
  obtain ⟨p, e, sh⟩ := h.shaped hn
  refine eqDT_s e (q := .list []) rfl sh (by decide +kernel) ?_
  cases hp : pyOfs xs with
  | none => simp only [pyOf, hp] at e; cases e
  | some ps =>
    simp only [pyOf, hp] at e
    have e' : PyData.list ps = p := Option.some.inj e
    subst e'
    rw [show PyData.eqv (.list ps) (.list []) = xs.isEmpty from by simp only [PyData.eqv]; rw [eqvAll_nil, nil_of hp]]
    exact q
end
mutual
theorem noFn_py : ∀ {d : D} {p : PyData}, pyOf d = some p → noFn d = true
  | .non, _, _ => by simp only [noFn]
  | .bl _, _, _ => by simp only [noFn]
  | .int _, _, _ => by simp only [noFn]
  | .str _, _, _ => by simp only [noFn]
  | .ty _, _, _ => by simp only [noFn]
  | .cls _, _, _ => by simp only [noFn]
  | .scr _, _, _ => by simp only [noFn]
  | .fn0 _ _, _, _ => by simp only [noFn]
  | .dct _, _, h => by simp only [pyOf] at h; cases h
  | .obj _ _, _, h => by simp only [pyOf] at h; cases h
  | .exc _ _, _, h => by simp only [pyOf] at h; cases h
  | .fn _ _, _, h => by simp only [pyOf] at h; cases h
  | .tup xs, _, h => by
    simp only [noFn]
    cases e : pyOfs xs with
    | none => simp only [pyOf, e] at h; cases h
    | some ps => exact noFns_py e
  | .lst xs, _, h => by
    simp only [noFn]
    cases e : pyOfs xs with
    | none => simp only [pyOf, e] at h; cases h
    | some ps => exact noFns_py e
theorem noFns_py : ∀ {ds : List D} {ps : List PyData}, pyOfs ds = some ps → noFns ds = true
  | [], _, _ => by simp only [noFns]
  | d :: ds, _, h => by
    simp only [noFns]
    simp only [pyOfs] at h
    cases e : pyOf d with
    | none => rw [e] at h; cases h
    | some p =>
      rw [e] at h
      cases e2 : pyOfs ds with
      | none => rw [e2] at h; cases h
      | some ps => rw [noFn_py e, noFns_py e2]; rfl
end
theorem plD.noFn {n : Nat} {d : D} (h : plD n d) : noFn d = true := let ⟨_, h1, _⟩ := h; noFn_py h1
theorem noFns_strs : ∀ ss : List Str, noFns (ss.map .str) = true
  | [] => by simp only [List.map_nil, noFns]
  | s :: ss => by simp only [List.map_cons, noFns, noFn, noFns_strs ss]; rfl
section
variable {nf : NFs} {env : EV nf} {Q : D → EV nf → Prop}
def CallLK (cs : List (Str × Addr)) (W : NFd) (js : List Nat) (n : Nat) (S : SpD nf) (Q : D → EV nf → Prop) : List D → EV nf → Prop := fun xs env1 => xs.length = n ∧ ∃ pre post ds, xs = pre ++ .fn0 W (L2.cloFrom cs W.scope.names []) :: post ∧ capD env1 js ds ∧
  S ((pre ++ .fn W ds :: post).map .fz) fun d _ => noFn d = true ∧ Q d env1
theorem dCallL_s {cs : List (Str × Addr)} {W : NFd} {js : List Nat} {n : Nat} {S : SpD nf} {r : DAs nf} (h : r env (CallLK cs W js n S Q)) : dCallL cs W js n S r env Q := h
end
end DL
namespace DL
open PySem PySem.Spec PyProof.Rows L2
section
variable {X : Cx} {nf : NFs} [Anch nf] {K : PySem.W.Frag} {a l : Expr} {pos : Pos} {da : DT nf} {i : Nat}
def dDInV (K : PySem.W.Frag) (neg : Bool) (da : DT nf) (i : Nat) : DT nf := fun env Q => da env fun y env1 => ∃ v kds k, env1[i]? = some (.ow v (dctA K nf kds)) ∧ keyOf y = some k ∧ Q (.bl (if neg then !(valD kds k).isSome else (valD kds k).isSome)) env1
theorem lift_dinV {neg : Bool} (σ : L2.St) (H : Hp) (Q : VK) (h : lift K nf (dDInV K neg da i) σ H Q) :
    tOp (fun y x H2 Q => ∃ a o, x = .ref a ∧ DGet H2 a y o ∧ Q (.bl (if neg then !o.isSome else o.isSome)) H2) (lift K nf da) (tVar i) σ H Q := by
  obtain ⟨env, fp, Qd, R, h, k⟩ := h
  refine lift_run R h fun w H1 y env1 fp1 r1 R1 c1 ⟨v, kds, kk, e1, ek, q⟩ => ?_
  obtain ⟨p, kvs, ev, es, hp, rr, rep, _⟩ := R1.dctAt e1
  have ew := key_of r1 ek
  subst ew
  refine ⟨_, es, p, valV kvs kk, rfl, .inl ⟨kvs, kk, .inl hp, rfl, rfl⟩, ?_⟩
  rw [rr.val_none]
  exact k _ H1 _ env1 fp1 (.bl _) R1 c1 q
theorem dc_inDV (hu : X.A.units + 1 < cLine) (ha : DE X nf a da) (hl : PE X l (tVar i)) (hm : behindInMarks .In l = false := by rfl) : DC X nf (.Compare a [.In] [l] pos) (dBv (dDInV X.K false da i)) := pt_imp (pt_cmpB (op_dIn hu) ha hl hm) (lift_B2 fun σ H Q h => lift_dinV (neg := false) σ H Q h)
end
section
variable {nf : NFs} {K : PySem.W.Frag} {env : EV nf} {i : Nat} {y : D} {da : DT nf} {Q : D → EV nf → Prop}
def DInVK (K : PySem.W.Frag) (neg : Bool) (i : Nat) (Q : D → EV nf → Prop) : D → EV nf → Prop := fun y env1 => ∃ v kds k, env1[i]? = some (.ow v (dctA K nf kds)) ∧ keyOf y = some k ∧ Q (.bl (if neg then !(valD kds k).isSome else (valD kds k).isSome)) env1
theorem dDInV_s {neg : Bool} (h : da env (DInVK K neg i Q)) : dDInV K neg da i env Q := h
theorem dInVK_s {neg : Bool} {v : V} {kds : List (Key × D)} {k : Key} (e : env[i]? = some (.ow v (dctA K nf kds))) (ek : keyOf y = some k) (h : Q (.bl (if neg then !(valD kds k).isSome else (valD kds k).isSome)) env) : DInVK K neg i Q y env := ⟨v, kds, k, e, ek, h⟩
end
end DL
namespace DL
open PySem PySem.Spec PyProof.Rows L2
section
variable {X : Cx} {nf : NFs} [Anch nf] {K : PySem.W.Frag}
def dCompV (K : PySem.W.Frag) (i : Nat) (xs0 : List D) (g : DG nf) (dt : DB nf) (de : DT nf) (js : List Nat) : List D → List D → EV nf → (List D → EV nf → Prop) → Prop
  | [], acc, env, Q => lsAt K env i xs0 ∧ Q acc env
  | x :: xs, acc, env, Q => lsAt K env i xs0 ∧ g x env fun env1 => dt env1 fun b env2 => if b = true then de env2 fun d env3 => acc.length < 1000000 ∧ dCompV K i xs0 g dt de js xs (acc ++ [d]) (wipeD env3 js) Q else dCompV K i xs0 g dt de js xs acc (wipeD env2 js) Q
def dLcV (K : PySem.W.Frag) (i : Nat) (g : DG nf) (dt : DB nf) (de : DT nf) (js : List Nat) : DT nf := fun env Q => ∃ xs, lsAt K env i xs ∧ dCompV K i xs g dt de js xs [] (wipeD env js) fun acc env2 => Q (.lst acc) env2
theorem dCompV_at {i : Nat} {xs0 : List D} {g : DG nf} {dt : DB nf} {de : DT nf} {js : List Nat} {ds acc : List D} {env : EV nf} {Q : List D → EV nf → Prop} (h : dCompV K i xs0 g dt de js ds acc env Q) : lsAt K env i xs0 := by
  cases ds <;> exact h.1
theorem wipe_some {σ : L2.St} {i : Nat} {v : V} : ∀ {js : List Nat}, (L2.wipe σ js)[i]? = some (some v) → σ[i]? = some (some v)
  | [], h => h
  | j :: js, h => by
    have h : ((L2.wipe σ js).set j none)[i]? = some (some v) := h
    refine wipe_some (js := js) ?_
    by_cases e : j = i
    · subst e
      rw [List.getElem?_set] at h
      simp at h
    · rwa [List.getElem?_set_ne e] at h
theorem walk_own {a : Addr} {n : Nat} : Walk (Itl K a) n (fun H => ∃ vs : List V, vs.length = n ∧ SqL K H a vs) (fun i H x H' => H' = H ∧ ∀ vs, SqL K H a vs → vs[i]? = some x) :=
  ⟨fun i _ hi ⟨vs, hl, q⟩ => ⟨vs, vs[i]'(by omega), q, by simp [hl, hi]⟩, fun _ ⟨vs, hl, q⟩ => ⟨vs, q, by omega⟩, fun _ _ _ _ _ _ y => ⟨y.1, y.2⟩⟩
theorem lift_lcV {i0 : Nat} {xs0 : List D} {g : DG nf} {dt : DB nf} {de : DT nf} {js : List Nat} {σ : L2.St} {H : Hp} {Q : VK} {env : EV nf} {fp : List Addr} {Qd : List D → EV nf → Prop} (R : EnvR K nf H σ env fp)
    (h0 : lsAt K env i0 xs0) (h : dCompV K i0 xs0 g dt de js xs0 [] (wipeD env js) Qd)
    (k : ∀ p vs H' ds env' fp', H p = none → H' p = some (.lst vs) → p ∉ fp' → Rels K nf H' vs ds → EnvR K nf H' σ env' fp' → Ch nf fp H fp' H' → Qd ds env' → Q (.ref p) H') :
    tLc (iList K (tVar i0)) (liftG K nf js g) (liftB K nf dt) (lift K nf de) js σ H Q := by
  obtain ⟨a, vs0, es, sq, rr0⟩ := R.peek h0
  refine ⟨_, es, a, rfl, ⟨vs0, sq⟩, fun Dl hD => ?_⟩
  obtain ⟨fpw, Rw, cw⟩ := R.wipe js
  have x0 : Xt H (upd H Dl (.lst [])) := Xt.new hD
  have pk : ∀ {H' : Hp} {env' : EV nf} {fp' : List Addr}, EnvR K nf H' (L2.wipe σ js) env' fp' → lsAt K env' i0 xs0 → ∃ vs : List V, vs.length = xs0.length ∧ SqL K H' a vs ∧ Rels K nf H' vs xs0 := fun R' h' => by
    obtain ⟨a', vs', es', sq', rr'⟩ := R'.peek h'
    have e := wipe_some es'
    rw [es] at e
    cases e
    exact ⟨vs', rr'.length, sq', rr'⟩
  refine lc_it (walk_own (a := a) (n := xs0.length)) (fun i H' => ∃ env' fp' vs acc, EnvR K nf H' (L2.wipe σ js) env' fp' ∧ Ch nf fp H fp' H' ∧ Dl ∉ fp' ∧ H' Dl = some (.lst vs) ∧ Rels K nf H' vs acc ∧ (∀ j ∈ js, env'[j]? = some .un ∨ env'.length ≤ j) ∧ dCompV K i0 xs0 g dt de js (xs0.drop i) acc env' Qd)
    ⟨_, fpw, [], [], Rw.ext x0, cw.trans x0.ch, (fun m => by obtain ⟨u, e, _⟩ := Rw.trk Dl m; rw [hD] at e; cases e), upd_same, .nil, wipeD_un env js, h⟩
    (fun i H' _ ⟨env', fp', _, _, R', c', _, _, _, _, q'⟩ => ?_) (fun i x H' H2 hi ⟨env', fp', vs, acc, R', c', nD, hDl, rr, hu, q'⟩ y => ?_) fun H' ⟨env', fp', vs, acc, R', c', nD, hDl, rr, hu, q'⟩ => ?_
  · obtain ⟨vs, hl, sq', _⟩ := pk R' (dCompV_at q')
    exact ⟨vs, hl, sq'⟩
  · obtain ⟨vsx, hlx, sqx, rrx⟩ := pk R' (dCompV_at q')
    obtain ⟨e2, yy⟩ := y
    subst e2
    obtain ⟨d, ed, r⟩ := rrx.getV (yy vsx sqx)
    rw [drop_cons ed] at q'
    have xt : Xt H2 H2 := Xt.refl
    refine ⟨d, env', fp', _, r, R'.ext xt, q'.2, fun σ2 env2 fp2 hw R2 c2 q2 => ⟨by rw [hw]; exact lift_lc.wipe_wipe σ js, ?_⟩⟩
    have c3 := (c'.trans xt.ch).trans c2
    have nD2 : Dl ∉ fp2 := fun m => by
      rcases (xt.ch.trans c2).sub Dl m with z | z
      · exact nD z
      · rw [hDl] at z; cases z
    have hD2 : H2 Dl = some (.lst vs) := xt _ _ hDl
    refine ⟨env2, fp2, _, R2, q2, fun b H3 env3 fp3 R3 c4 q3 => ?_⟩
    have nD3 : Dl ∉ fp3 := fun m => by
      rcases c4.sub Dl m with z | z
      · exact nD2 z
      · rw [hD2] at z; cases z
    have hD3 : H3 Dl = some (.lst vs) := c4.keep _ _ hD2 nD2 nofun
    have st3 : Stp nf H2 H3 := xt.stp.trans (c4.stp R2)
    cases b with
    | true =>
      show lift K nf de σ2 H3 _
      refine lift_run R3 q3 fun v H4 d4 env4 fp4 r4 R4 c5 ⟨hlen, q4⟩ => ?_
      have nD4 : Dl ∉ fp4 := fun m => by
        rcases c5.sub Dl m with z | z
        · exact nD3 z
        · rw [hD3] at z; cases z
      have hD4 : H4 Dl = some (.lst vs) := c5.keep _ _ hD3 nD3 nofun
      have rr4 : Rels K nf H4 vs acc := rr.mono (st3.trans (c5.stp R3))
      obtain ⟨fp5, R5, c6⟩ := R4.wipe js
      have nD5 : Dl ∉ fp5 := fun m => by
        rcases c6.sub Dl m with z | z
        · exact nD4 z
        · rw [hD4] at z; cases z
      have st5 : Stp nf H4 (upd H4 Dl (.lst (vs ++ [v]))) := fun a u e f => by
        by_cases ha : a = Dl
        · subst ha; rw [hD4] at e; cases e; exact f.elim
        · rw [upd_ne ha]; exact e
      have R6 := R5.frame (H' := upd H4 Dl (.lst (vs ++ [v]))) (fun a m => upd_ne fun z => nD5 (z ▸ m)) st5 R.2 ((((c3.trans c4).trans c5).trans c6).put hD hD4 pl_lst)
      have hw' : L2.wipe σ2 js = L2.wipe σ js := by rw [hw]; exact lift_lc.wipe_wipe σ js
      rw [hw'] at R6
      refine ⟨vs, hD4, by rw [rr4.length]; exact Nat.lt_of_lt_of_le hlen (by decide), _, fp5, vs ++ [v], acc ++ [d4], R6, ?_, nD5, upd_same, (rr4.append (.cons r4 .nil)).mono st5, wipeD_un _ _, q4⟩
      have cc := ((c3.trans c4).trans c5).trans c6
      exact cc.put hD hD4 pl_lst
    | false =>
      obtain ⟨fp5, R5, c6⟩ := R3.wipe js
      have hw' : L2.wipe σ2 js = L2.wipe σ js := by rw [hw]; exact lift_lc.wipe_wipe σ js
      rw [hw'] at R5
      refine ⟨_, fp5, vs, acc, R5, (c3.trans c4).trans c6, fun m => ?_, hD3, rr.mono st3, wipeD_un _ _, q3⟩
      rcases c6.sub Dl m with z | z
      · exact nD3 z
      · rw [hD3] at z; cases z
  · rw [List.drop_length] at q'
    have R7 : EnvR K nf H' σ env' fp' := EnvR.unwipe js R' (lift_lc.wipe_wipe σ js).symm hu
    exact k Dl vs H' acc env' fp' hD hDl nD rr R7 c' q'.2
variable {elt tg iter : Expr} {ifs : List Expr} {scope : Scope} {own : List (Str × Nat)} {pos : Pos} {g : DG nf} {dt : DB nf} {de : DT nf} {i : Nat}
theorem de_lcV (hc : X.calm = true) (hN : X.N.Nodup) (hi : PE X iter (tVar i)) (ok : BlkOk X.N X.env.scope scope own)
    (hg : ∀ (s : Shared) (H : Hp) (C : Addr) (cl : List (Str × Addr)) (fp : List Addr), DGo (X.blk s H scope (compEnvC scope cl C X.env) fp) nf tg (own.map (·.2)) g) (ht : ∀ (s : Shared) (H : Hp) (C : Addr) (cl : List (Str × Addr)) (fp : List Addr), PTs (X.blk s H scope (compEnvC scope cl C X.env) fp) ifs (liftB X.K nf dt))
    (he : ∀ (s : Shared) (H : Hp) (C : Addr) (cl : List (Str × Addr)) (fp : List Addr), DE (X.blk s H scope (compEnvC scope cl C X.env) fp) nf elt de) (hs : ∀ x, foldedSetIterable iter X.env x = pure x := by intro _; rfl) :
    DE X nf (.ListComp elt [⟨tg, iter, ifs, 0⟩] scope pos) (dLcV X.K i g dt de (own.map (·.2))) := pe_imp (pe_fz (pe_lc hc hN (pi_list hi) ok hg ht he hs)) fun σ H Q ⟨env, fp, Qd, R, ⟨xs, h0, h⟩, k⟩ => by
  refine lift_lcV R h0 h fun p vs H' ds env' fp' hp hp' np rr R' c q => ⟨p, _, rfl, hp', trivial, fun o => ?_⟩
  have st : Stp nf H' (upd H' p (.frz o (.lst vs))) := fun a u e f => by
    by_cases ha : a = p
    · subst ha; rw [hp'] at e; cases e; exact f.elim
    · rw [upd_ne ha]; exact e
  refine k _ _ _ env' fp' (.lst ⟨o, upd_same⟩ (rr.mono st)) (R'.frame (fun a m => upd_ne fun z => np (z ▸ m)) st R.2 (c.put hp hp' pl_lst)) (c.put hp hp' pl_lst) q
end
section
variable {nf : NFs} {K : PySem.W.Frag} {env : EV nf} {i : Nat}
/-- a pure comprehension without tests -/
theorem lcV_map {j : Nat} {de : DT nf} {Q : List D → EV nf → Prop} {v : V} {xs0 : List D} (f : D → D) (hij : i ≠ j) (hi : env[i]? = some (.ow v (lstA K nf xs0))) (hj : env[j]? = some .un)
    (he : ∀ x ∈ xs0, ∀ R : D → EV nf → Prop, R (f x) (env.set j (.fz x)) → de (env.set j (.fz x)) R) (hl : xs0.length ≤ 1000000) (q : Q (xs0.map f) env) : dCompV K i xs0 (gN j) dYes de [j] xs0 [] env Q := by
  have hlen : j < env.length := (List.getElem?_eq_some_iff.mp hj).1
  have hback : ∀ x : D, (env.set j (.fz x)).set j .un = env := fun x => by
    rw [List.set_set]
    exact List.ext_getElem? fun k => by
      rw [List.getElem?_set]
      split
      · rename_i h; subst h; rw [hj]
      · rfl
  suffices h : ∀ (ds acc : List D), (∀ x ∈ ds, x ∈ xs0) → acc.length + ds.length ≤ 1000000 → acc ++ ds.map f = xs0.map f → dCompV K i xs0 (gN j) dYes de [j] ds acc env Q from h xs0 [] (fun _ m => m) (by simpa using hl) rfl
  intro ds
  induction ds with
  | nil => intro acc _ _ e; exact ⟨.inr ⟨v, hi⟩, by rw [List.map_nil, List.append_nil] at e; rw [e]; exact q⟩
  | cons x ds ih =>
    intro acc hm hl' e
    rw [List.length_cons] at hl'
    refine ⟨.inr ⟨v, hi⟩, ⟨hlen, ?_⟩⟩
    show de _ _
    refine he x (hm x List.mem_cons_self) _ ⟨by omega, ?_⟩
    show dCompV K i xs0 (gN j) dYes de [j] ds (acc ++ [f x]) ((env.set j (.fz x)).set j .un) Q
    rw [hback]
    exact ih _ (fun y m => hm y (List.mem_cons_of_mem _ m)) (by simp; omega) (by rw [← e]; simp)
theorem dLcV_s {g : DG nf} {dt : DB nf} {de : DT nf} {js : List Nat} {Q : D → EV nf → Prop} {v : V} {xs : List D} (e : env[i]? = some (.ow v (lstA K nf xs))) (h : dCompV K i xs g dt de js xs [] (wipeD env js) fun acc env2 => Q (.lst acc) env2) : dLcV K i g dt de js env Q := ⟨xs, .inr ⟨v, e⟩, h⟩
end
end DL
namespace K12
open PySem L2 DL
def nmf : Nat → Nat → Str := fun l c => if l = 213 ∧ c = 4 then ((("with_ordered_lists" : Str) ++ ".<locals>.") ++ "ordered") else Str.empty
def nf (a : Ad) : NFs := ⟨nf0 a, nmf, [a.P_with_ordered_lists]⟩
def letters : Str := "abcdefghijklmnopqrstuvwxyz"
def digits : Str := "0123456789"
def isWordB (s : Str) : Bool := decide (1 ≤ s.length) && decide (s.length ≤ 12) && s.cps.toList.all fun c => decide (c ∈ letters.cps.toList) || decide (c ∈ digits.cps.toList)
def headB (s : Str) : Bool := match s.cps.toList with | c :: _ => decide (c ∈ letters.cps.toList) | [] => false
def isIdB (s : Str) : Bool := isWordB s && headB s && !inV (.str s) keptV
def keptWords : List Str := ["name", "flag", "slot", "func", "open", "own", "look", "bind", "call", "keep", "take", "shift", "run", "drop", "apart", "when", "held", "fail", "guard", "else", "after", "end", "with", "of", "on", "off"]
def signs : Str := "abcdefghijklmnopqrstuvwxyz0123456789"
inductive Hd where
  | look (w i : Str) | bind (i : Str) (o : Bool) (v : Str) | call (i : Str) | keep (s f : Str) (cs : List Str) | take (s : Str) (cs : List Str) | shift (s t : Str) (cs : List Str)
  | run (s : Str) | drop (s : Str) | apart | whn (f : Str) | held (s : Str) | fail | guard
inductive Sm where
  | mk (h : Hd) (bs : List (List Sm))
def Hd.word : Hd → Str
  | .look _ _ => "look" | .bind _ _ _ => "bind" | .call _ => "call" | .keep _ _ _ => "keep" | .take _ _ => "take" | .shift _ _ _ => "shift"
  | .run _ => "run" | .drop _ => "drop" | .apart => "apart" | .whn _ => "when" | .held _ => "held" | .fail => "fail" | .guard => "guard"
def capsD (cs : List Str) : D := .tup (cs.map .str)
def valD (o : Bool) (v : Str) : D := .tup [.str (if o then "of" else "word"), .str v]
def Hd.items : Hd → List D
  | .look w i => [.str w, .str i] | .bind i o v => [.str i, valD o v] | .call i => [.str i] | .keep s f cs => [.str s, .str f, capsD cs] | .take s cs => [.str s, capsD cs] | .shift s t cs => [.str s, .str t, capsD cs]
  | .run s => [.str s] | .drop s => [.str s] | .apart => [] | .whn f => [.str f] | .held s => [.str s] | .fail => [] | .guard => []
/-- how many rows stand inside -/
def Hd.nb : Hd → Nat
  | .bind _ _ _ => 1 | .apart => 1 | .whn _ => 2 | .held _ => 2 | .guard => 2 | _ => 0
def Sm.h : Sm → Hd | .mk h _ => h
def Sm.bs : Sm → List (List Sm) | .mk _ bs => bs
mutual
def encS : Sm → D
  | .mk h bs => .tup (.str h.word :: (h.items ++ encB bs))
def encB : List (List Sm) → List D
  | [] => []
  | b :: bs => .tup (encR b) :: encB bs
def encR : List Sm → List D
  | [] => []
  | s :: ss => encS s :: encR ss
end
abbrev rowsD (r : List Sm) : D := .tup (encR r)
theorem encR_len : ∀ r : List Sm, (encR r).length = r.length
  | [] => by simp only [encR, List.length_nil]
  | s :: r => by simp only [encR, List.length_cons, encR_len r]
theorem encB_len : ∀ b : List (List Sm), (encB b).length = b.length
  | [] => by simp only [encB, List.length_nil]
  | s :: r => by simp only [encB, List.length_cons, encB_len r]
theorem encR_map : ∀ r : List Sm, encR r = r.map encS
  | [] => by simp only [encR, List.map_nil]
  | s :: r => by simp only [encR, List.map_cons, encR_map r]
theorem encB_map : ∀ b : List (List Sm), encB b = b.map rowsD
  | [] => by simp only [encB, List.map_nil]
  | s :: r => by simp only [encB, List.map_cons, encB_map r]
mutual
def hS : Sm → Nat
  | .mk _ bs => 1 + hB bs
def hB : List (List Sm) → Nat
  | [] => 0
  | b :: bs => max (hR b) (hB bs)
def hR : List Sm → Nat
  | [] => 0
  | s :: ss => max (hS s) (hR ss)
end
mutual
def allS (P : Hd → Prop) : Sm → Prop
  | .mk h bs => P h ∧ bs.length = h.nb ∧ allB P bs
def allB (P : Hd → Prop) : List (List Sm) → Prop
  | [] => True
  | b :: bs => allR P b ∧ allB P bs
def allR (P : Hd → Prop) : List Sm → Prop
  | [] => True
  | s :: ss => allS P s ∧ allR P ss
end
theorem allR_mem {P : Hd → Prop} : ∀ {r : List Sm}, allR P r → ∀ s ∈ r, allS P s
  | [], _, _, m => by cases m
  | s :: r, h, x, m => by
    simp only [allR] at h
    rcases List.mem_cons.mp m with e | m
    · subst e; exact h.1
    · exact allR_mem h.2 x m
theorem allB_mem {P : Hd → Prop} : ∀ {r : List (List Sm)}, allB P r → ∀ s ∈ r, allR P s
  | [], _, _, m => by cases m
  | s :: r, h, x, m => by
    simp only [allB] at h
    rcases List.mem_cons.mp m with e | m
    · subst e; exact h.1
    · exact allB_mem h.2 x m
mutual
theorem allS_imp {P P' : Hd → Prop} (i : ∀ h, P h → P' h) : ∀ (s : Sm), allS P s → allS P' s
  | .mk h bs, q => by
    simp only [allS] at q ⊢
    exact ⟨i h q.1, q.2.1, allB_imp i bs q.2.2⟩
theorem allB_imp {P P' : Hd → Prop} (i : ∀ h, P h → P' h) : ∀ (b : List (List Sm)), allB P b → allB P' b
  | [], _ => by simp only [allB]
  | b :: bs, q => by
    simp only [allB] at q ⊢
    exact ⟨allR_imp i b q.1, allB_imp i bs q.2⟩
theorem allR_imp {P P' : Hd → Prop} (i : ∀ h, P h → P' h) : ∀ (r : List Sm), allR P r → allR P' r
  | [], _ => by simp only [allR]
  | s :: r, q => by
    simp only [allR] at q ⊢
    exact ⟨allS_imp i s q.1, allR_imp i r q.2⟩
end
theorem hR_mem : ∀ {r : List Sm} {s : Sm}, s ∈ r → hS s ≤ hR r
  | s :: r, x, m => by
    simp only [hR]
    rcases List.mem_cons.mp m with e | m
    · subst e; omega
    · have := hR_mem m; omega
theorem hB_mem : ∀ {r : List (List Sm)} {s : List Sm}, s ∈ r → hR s ≤ hB r
  | s :: r, x, m => by
    simp only [hB]
    rcases List.mem_cons.mp m with e | m
    · subst e; omega
    · have := hB_mem m; omega
/-- the form of a statement's first items -/
def Hd.good : Hd → Prop
  | .look w i => isWordB w = true ∧ isIdB i = true
  | .bind i o v => isIdB i = true ∧ (if o then isIdB v = true else isWordB v = true)
  | .call i => isIdB i = true
  | .keep s f cs => isIdB s = true ∧ isIdB f = true ∧ cs.length ≤ 100 ∧ ∀ c ∈ cs, isIdB c = true
  | .take s cs => isIdB s = true ∧ cs.length ≤ 100 ∧ ∀ c ∈ cs, isIdB c = true
  | .shift s t cs => isIdB s = true ∧ isIdB t = true ∧ cs.length ≤ 100 ∧ ∀ c ∈ cs, isIdB c = true
  | .run s => isIdB s = true
  | .drop s => isIdB s = true
  | .whn f => isIdB f = true
  | .held s => isIdB s = true
  | _ => True
mutual
/-- the first lines of a statement that begins at l, and the line behind it -/
def lstS : Sm → Int → List (Int × Sm) × Int
  | .mk h bs, l => ((l, .mk h bs) :: (lstB bs 0 (l + 1)).1, if bs.length = 0 then l + 1 else (lstB bs 0 (l + 1)).2 + 1)
def lstB : List (List Sm) → Nat → Int → List (Int × Sm) × Int
  | [], _, l => ([], l)
  | b :: bs, i, l => ((lstR b (if i = 1 ∧ b.length ≠ 0 then l + 1 else l)).1 ++ (lstB bs (i + 1) (lstR b (if i = 1 ∧ b.length ≠ 0 then l + 1 else l)).2).1, (lstB bs (i + 1) (lstR b (if i = 1 ∧ b.length ≠ 0 then l + 1 else l)).2).2)
def lstR : List Sm → Int → List (Int × Sm) × Int
  | [], l => ([], l)
  | s :: ss, l => ((lstS s l).1 ++ (lstR ss (lstS s l).2).1, (lstR ss (lstS s l).2).2)
end
mutual
def cntS : Sm → Nat
  | .mk _ bs => 1 + cntB bs
def cntB : List (List Sm) → Nat
  | [] => 0
  | b :: bs => cntR b + cntB bs
def cntR : List Sm → Nat
  | [] => 0
  | s :: ss => cntS s + cntR ss
end
mutual
theorem lstS_len : ∀ (s : Sm) (l : Int), (lstS s l).1.length = cntS s
  | .mk h bs, l => by simp only [lstS, cntS, List.length_cons, lstB_len bs 0 (l + 1)]; omega
theorem lstB_len : ∀ (b : List (List Sm)) (i : Nat) (l : Int), (lstB b i l).1.length = cntB b
  | [], _, _ => by simp only [lstB, cntB, List.length_nil]
  | b :: bs, i, l => by simp only [lstB, cntB, List.length_append, lstR_len b, lstB_len bs]
theorem lstR_len : ∀ (r : List Sm) (l : Int), (lstR r l).1.length = cntR r
  | [], _ => by simp only [lstR, cntR, List.length_nil]
  | s :: r, l => by simp only [lstR, cntR, List.length_append, lstS_len s, lstR_len r]
end
inductive Pt where
  | name (i w : Str) | flag (i w : Str) | slot (i : Str) (o : Bool) | func (i : Str) (o : Bool) (rs : List Sm)
def accS (o : Bool) : Str := if o then "open" else "own"
def Pt.kind : Pt → Str | .name _ _ => "name" | .flag _ _ => "flag" | .slot _ _ => "slot" | .func _ _ _ => "func"
def Pt.id : Pt → Str | .name i _ => i | .flag i _ => i | .slot i _ => i | .func i _ _ => i
def Pt.rows : Pt → List Sm | .func _ _ rs => rs | _ => []
def Pt.enc : Pt → D
  | .name i w => .tup [.str "name", .str i, .str w]
  | .flag i w => .tup [.str "flag", .str i, .str w]
  | .slot i o => .tup [.str "slot", .str i, .str (accS o)]
  | .func i o rs => .tup [.str "func", .str i, .str (accS o), rowsD rs]
def Pt.good : Pt → Prop
  | .name i w => isIdB i = true ∧ isWordB w = true
  | .flag i w => isIdB i = true ∧ (w = "on" ∨ w = "off")
  | .slot i _ => isIdB i = true
  | .func i _ rs => isIdB i = true ∧ allR Hd.good rs ∧ hR rs ≤ 9 ∧ cntR rs ≤ 1000
abbrev partsD (ps : List Pt) : D := .tup (ps.map Pt.enc)
/-- its first lines: a line, a place, a part or a statement -/
inductive It where
  | p (x : Pt) | s (x : Sm)
def It.enc : It → D | .p x => x.enc | .s x => encS x
abbrev Row := Int × Nat × It
def Row.enc (r : Row) : D := .tup [.int r.1, .int (r.2.1 : Nat), r.2.2.enc]
def ptRows (x : Pt) (k : Nat) (l : Int) : List Row := (l, k, .p x) :: (lstR x.rows (l + 1)).1.map fun q => (q.1, k, It.s q.2)
def Pt.isFn : Pt → Bool | .func _ _ _ => true | _ => false
def ptEnd (x : Pt) (l : Int) : Int := if x.isFn then (lstR x.rows (l + 1)).2 + 1 else l + 1
def flR : List Pt → Nat → Int → List Row
  | [], _, _ => []
  | x :: ps, k, l => ptRows x k l ++ flR ps (k + 1) (ptEnd x l)
def cntP (ps : List Pt) : Nat := (ps.map fun x => 1 + cntR x.rows).sum
theorem flR_len : ∀ (ps : List Pt) (k : Nat) (l : Int), (flR ps k l).length = cntP ps
  | [], _, _ => rfl
  | x :: ps, k, l => by
    rw [flR, List.length_append, flR_len ps, ptRows, List.length_cons, List.length_map, lstR_len]
    simp [cntP]
    omega
def ordC (od cs : List Str) : List Str := od.filter fun i => decide (i ∈ cs)
def Hd.ord (od : List Str) : Hd → Hd
  | .keep s f cs => .keep s f (ordC od cs) | .take s cs => .take s (ordC od cs) | .shift s t cs => .shift s t (ordC od cs)
  | h => h
mutual
def mapS (f : Hd → Hd) : Sm → Sm
  | .mk h bs => .mk (f h) (mapB f bs)
def mapB (f : Hd → Hd) : List (List Sm) → List (List Sm)
  | [] => []
  | b :: bs => mapR f b :: mapB f bs
def mapR (f : Hd → Hd) : List Sm → List Sm
  | [] => []
  | s :: ss => mapS f s :: mapR f ss
end
theorem mapR_map (f : Hd → Hd) : ∀ r : List Sm, mapR f r = r.map (mapS f)
  | [] => by simp only [mapR, List.map_nil]
  | s :: r => by simp only [mapR, List.map_cons, mapR_map f r]
theorem mapB_len (f : Hd → Hd) : ∀ b : List (List Sm), (mapB f b).length = b.length
  | [] => by simp only [mapB, List.length_nil]
  | s :: r => by simp only [mapB, List.length_cons, mapB_len f r]
mutual
theorem lstS_map (f : Hd → Hd) : ∀ (s : Sm) (l : Int), lstS (mapS f s) l = ((lstS s l).1.map fun q => (q.1, mapS f q.2), (lstS s l).2)
  | .mk h bs, l => by
    have ih := lstB_map f bs 0 (l + 1)
    simp only [mapS, lstS, List.map_cons, ih, mapB_len]
theorem lstB_map (f : Hd → Hd) : ∀ (b : List (List Sm)) (i : Nat) (l : Int), lstB (mapB f b) i l = ((lstB b i l).1.map fun q => (q.1, mapS f q.2), (lstB b i l).2)
  | [], _, _ => by simp only [mapB, lstB, List.map_nil]
  | b :: bs, i, l => by
    have hl : (mapR f b).length = b.length := by rw [mapR_map, List.length_map]
    have i1 := lstR_map f b (if i = 1 ∧ b.length ≠ 0 then l + 1 else l)
    have i2 := lstB_map f bs (i + 1) (lstR b (if i = 1 ∧ b.length ≠ 0 then l + 1 else l)).2
    simp only [mapB, lstB, hl, i1, i2, List.map_append]
theorem lstR_map (f : Hd → Hd) : ∀ (r : List Sm) (l : Int), lstR (mapR f r) l = ((lstR r l).1.map fun q => (q.1, mapS f q.2), (lstR r l).2)
  | [], _ => by simp only [mapR, lstR, List.map_nil]
  | s :: r, l => by
    have i1 := lstS_map f s l
    have i2 := lstR_map f r (lstS s l).2
    simp only [mapR, lstR, i1, i2, List.map_append]
end
mutual
theorem allS_map {P P' : Hd → Prop} (f : Hd → Hd) (hn : ∀ h, (f h).nb = h.nb) (i : ∀ h, P h → P' (f h)) : ∀ (s : Sm), allS P s → allS P' (mapS f s)
  | .mk h bs, q => by
    simp only [allS, mapS] at q ⊢
    exact ⟨i h q.1, by rw [mapB_len, q.2.1, hn], allB_map f hn i bs q.2.2⟩
theorem allB_map {P P' : Hd → Prop} (f : Hd → Hd) (hn : ∀ h, (f h).nb = h.nb) (i : ∀ h, P h → P' (f h)) : ∀ (b : List (List Sm)), allB P b → allB P' (mapB f b)
  | [], _ => by simp only [allB, mapB]
  | b :: bs, q => by
    simp only [allB, mapB] at q ⊢
    exact ⟨allR_map f hn i b q.1, allB_map f hn i bs q.2⟩
theorem allR_map {P P' : Hd → Prop} (f : Hd → Hd) (hn : ∀ h, (f h).nb = h.nb) (i : ∀ h, P h → P' (f h)) : ∀ (r : List Sm), allR P r → allR P' (mapR f r)
  | [], _ => by simp only [allR, mapR]
  | s :: r, q => by
    simp only [allR, mapR] at q ⊢
    exact ⟨allS_map f hn i s q.1, allR_map f hn i r q.2⟩
end
mutual
theorem hS_map (f : Hd → Hd) : ∀ s : Sm, hS (mapS f s) = hS s
  | .mk h bs => by simp only [mapS, hS, hB_map f bs]
theorem hB_map (f : Hd → Hd) : ∀ b : List (List Sm), hB (mapB f b) = hB b
  | [] => by simp only [mapB, hB]
  | b :: bs => by simp only [mapB, hB, hR_map f b, hB_map f bs]
theorem hR_map (f : Hd → Hd) : ∀ r : List Sm, hR (mapR f r) = hR r
  | [] => by simp only [mapR, hR]
  | s :: r => by simp only [mapR, hR, hS_map f s, hR_map f r]
end
mutual
theorem cntS_map (f : Hd → Hd) : ∀ s : Sm, cntS (mapS f s) = cntS s
  | .mk h bs => by simp only [mapS, cntS, cntB_map f bs]
theorem cntB_map (f : Hd → Hd) : ∀ b : List (List Sm), cntB (mapB f b) = cntB b
  | [] => by simp only [mapB, cntB]
  | b :: bs => by simp only [mapB, cntB, cntR_map f b, cntB_map f bs]
theorem cntR_map (f : Hd → Hd) : ∀ r : List Sm, cntR (mapR f r) = cntR r
  | [] => by simp only [mapR, cntR]
  | s :: r => by simp only [mapR, cntR, cntS_map f s, cntR_map f r]
end
def Pt.map (f : Hd → Hd) : Pt → Pt
  | .func i o rs => .func i o (mapR f rs)
  | x => x
def bound (ps : List Pt) : List Str := (ps.filter fun x => decide (x.kind = ("name" : Str)) || decide (x.kind = ("flag" : Str))).map Pt.id
def ordP (ps : List Pt) : List Pt := ps.map (Pt.map (Hd.ord (bound ps)))
theorem Pt.map_kind (f : Hd → Hd) (x : Pt) : (x.map f).kind = x.kind := by cases x <;> rfl
theorem Pt.map_id (f : Hd → Hd) (x : Pt) : (x.map f).id = x.id := by cases x <;> rfl
theorem Pt.map_rows (f : Hd → Hd) (x : Pt) : (x.map f).rows = mapR f x.rows := by cases x <;> simp only [Pt.map, Pt.rows, mapR]
theorem Pt.map_isFn (f : Hd → Hd) (x : Pt) : (x.map f).isFn = x.isFn := by cases x <;> rfl
theorem bound_ord (ps : List Pt) : bound (ordP ps) = bound ps := by
  unfold bound ordP
  rw [List.filter_map, List.map_map]
  simp only [Function.comp_def, Pt.map_kind, Pt.map_id]
theorem ord_nb (od : List Str) (h : Hd) : (h.ord od).nb = h.nb := by cases h <;> rfl
theorem ordC_idem (od cs : List Str) : ordC od (ordC od cs) = ordC od cs := by
  unfold ordC
  apply List.filter_congr
  intro x hx
  simp only [List.mem_filter, decide_eq_true_eq, hx, true_and]
theorem ord_idem (od : List Str) (h : Hd) : (h.ord od).ord od = h.ord od := by cases h <;> simp only [Hd.ord, ordC_idem]
mutual
theorem mapS_comp (f g : Hd → Hd) (e : ∀ h, f (g h) = g h) : ∀ s : Sm, mapS f (mapS g s) = mapS g s
  | .mk h bs => by simp only [mapS, e, mapB_comp f g e bs]
theorem mapB_comp (f g : Hd → Hd) (e : ∀ h, f (g h) = g h) : ∀ b : List (List Sm), mapB f (mapB g b) = mapB g b
  | [] => by simp only [mapB]
  | b :: bs => by simp only [mapB, mapR_comp f g e b, mapB_comp f g e bs]
theorem mapR_comp (f g : Hd → Hd) (e : ∀ h, f (g h) = g h) : ∀ r : List Sm, mapR f (mapR g r) = mapR g r
  | [] => by simp only [mapR]
  | s :: r => by simp only [mapR, mapS_comp f g e s, mapR_comp f g e r]
end
theorem ordP_idem (ps : List Pt) : ordP (ordP ps) = ordP ps := by
  show (ordP ps).map (Pt.map (Hd.ord (bound (ordP ps)))) = _
  rw [bound_ord]
  show (ps.map (Pt.map (Hd.ord (bound ps)))).map _ = ps.map _
  rw [List.map_map]
  apply List.map_congr_left
  intro x _
  cases x <;> simp only [Function.comp, Pt.map, mapR_comp _ _ (ord_idem (bound ps))]
/-- a row with its statement's lists in order -/
def It.map (f : Hd → Hd) : It → It | .p x => .p (x.map f) | .s x => .s (mapS f x)
theorem flR_map (f : Hd → Hd) : ∀ (ps : List Pt) (k : Nat) (l : Int), flR (ps.map (Pt.map f)) k l = (flR ps k l).map fun r => (r.1, r.2.1, r.2.2.map f)
  | [], _, _ => rfl
  | x :: ps, k, l => by
    have e : ptEnd (x.map f) l = ptEnd x l := by
      unfold ptEnd
      rw [Pt.map_isFn, Pt.map_rows, lstR_map]
    rw [List.map_cons, flR, flR, List.map_append, e, flR_map f ps]
    congr 1
    unfold ptRows
    rw [Pt.map_rows, lstR_map, List.map_cons, List.map_map, List.map_map]
    rfl
def keepRow (l : Int) : Hd → Option D
  | .keep s _ cs => some (.tup [.int l, .str "keep", .str s, capsD cs])
  | .take s cs => some (.tup [.int l, .str "take", .str s, capsD cs])
  | .shift _ t cs => some (.tup [.int l, .str "shift", .str t, capsD cs])
  | _ => none
def It.keep (l : Int) : It → Option D | .p _ => none | .s x => keepRow l x.h
def keepsP (ps : List Pt) : List D := (flR (ordP ps) 0 1).filterMap fun r => r.2.2.keep r.1
theorem keeps_ord (ps : List Pt) : keepsP (ordP ps) = keepsP ps := by unfold keepsP; rw [ordP_idem]
open PySem L2 DL
def SHAPESl : List (Str × D) := [("look", .tup [.str "word", .str "ident"]), ("bind", .tup [.str "ident", .str "value", .str "rows"]), ("call", .tup [.str "ident"]), ("keep", .tup [.str "ident", .str "ident", .str "listing"]), ("take", .tup [.str "ident", .str "listing"]), ("shift", .tup [.str "ident", .str "ident", .str "listing"]), ("run", .tup [.str "ident"]), ("drop", .tup [.str "ident"]), ("apart", .tup [.str "rows"]), ("when", .tup [.str "ident", .str "rows", .str "rows"]), ("held", .tup [.str "ident", .str "rows", .str "rows"]), ("fail", .tup []), ("guard", .tup [.str "rows", .str "rows"])]
abbrev wnt (k : Int) (ks : List Str) : D := .tup [.int k, .tup (ks.map .str)]
def WANTEDl : List (Str × D) := [("look", .tup [wnt 2 ["name"]]), ("bind", .tup [wnt 1 ["name", "flag"]]), ("call", .tup [wnt 1 ["func"]]), ("keep", .tup [wnt 1 ["slot"], wnt 2 ["func"]]), ("take", .tup [wnt 1 ["slot"]]), ("shift", .tup [wnt 1 ["slot"], wnt 2 ["slot"]]), ("run", .tup [wnt 1 ["slot"]]), ("drop", .tup [wnt 1 ["slot"]]), ("apart", .tup []), ("when", .tup [wnt 1 ["flag"]]), ("held", .tup [wnt 1 ["slot"]]), ("fail", .tup []), ("guard", .tup [])]
/-- a statement's form and its rows' -/
abbrev GoodS (s : Sm) : Prop := allS Hd.good s ∧ cntS s ≤ 1000 ∧ hS s ≤ 20
abbrev GoodR (r : List Sm) : Prop := allR Hd.good r ∧ cntR r ≤ 1000 ∧ hR r ≤ 20
/-- the parts' forms -/
def FormP (ps : List Pt) : Prop := (∀ x ∈ ps, x.good) ∧ ps.length ≤ 50
def kinds (ps : List Pt) : List (Str × Str) := ps.map fun x => (x.kind, x.id)
def bdK (k : Str) : Prop := k = "name" ∨ k = "flag"
def okCaps (hs : List (Str × Str)) (cs : List Str) : Prop := cs.Nodup ∧ ∀ c ∈ cs, ∃ k, bdK k ∧ (k, c) ∈ hs
/-- the rules for a statement of the part at p -/
def okH (hs : List (Str × Str)) (p : Nat) : Hd → Prop
  | .look _ i => (("name" : Str), i) ∈ hs
  | .bind i o v => ∃ k, bdK k ∧ (k, i) ∈ hs ∧ (o = true → (k, v) ∈ hs) ∧ (o = false → k = "flag" → v = "on" ∨ v = "off")
  | .call i => ∃ j, j < p ∧ hs[j]? = some (("func" : Str), i)
  | .keep s f cs => (∃ j l : Nat, j < l ∧ hs[j]? = some (("func" : Str), f) ∧ hs[l]? = some (("slot" : Str), s)) ∧ okCaps hs cs
  | .take s cs => (("slot" : Str), s) ∈ hs ∧ okCaps hs cs
  | .shift s t cs => (∃ j l : Nat, j < l ∧ hs[j]? = some (("slot" : Str), s) ∧ hs[l]? = some (("slot" : Str), t)) ∧ okCaps hs cs
  | .run s => ∃ j, j < p ∧ hs[j]? = some (("slot" : Str), s)
  | .drop s => (("slot" : Str), s) ∈ hs
  | .whn f => (("flag" : Str), f) ∈ hs
  | .held s => (("slot" : Str), s) ∈ hs
  | _ => True
def RuleP (ps : List Pt) : Prop := (ps.map Pt.id).Nodup ∧ ∀ k x, ps[k]? = some x → allR (okH (kinds ps) k) x.rows
def declD : List Pt → Nat → List (Key × D)
  | [], _ => []
  | x :: ps, k => (.inr x.id, .tup [.str x.kind, .int (k : Nat)]) :: declD ps (k + 1)
def kindD (ps : List Pt) (i : Str) : D := match ps.find? fun x => decide (x.id = i) with | some x => .str x.kind | none => .non
def isStm : Row → Bool | (_, _, .s _) => true | _ => false
section
variable (K : PySem.W.Frag) (a : Ad)
def S_is_word : SpD (nf a) := fun as Q => ∃ s : Str, as = [.fz (.str s)] ∧ s.length ≤ 1000000 ∧ Q (.bl (isWordB s)) as
def S_is_identifier : SpD (nf a) := fun as Q => ∃ s : Str, as = [.fz (.str s)] ∧ s.length ≤ 1000000 ∧ Q (.bl (isIdB s)) as
def S_is_setting : SpD (nf a) := fun as Q => ∃ s : Str, as = [.fz (.str s)] ∧ Q (.bl (decide (s = "on") || decide (s = "off"))) as
def S_blocks_of : SpD (nf a) := fun as Q => ∃ s : Sm, as = [.fz (encS s)] ∧ s.bs.length = s.h.nb ∧ Q (.tup (encB s.bs)) as
def S_rebuilt : SpD (nf a) := fun as Q => ∃ h bs bs', as = [.fz (encS (.mk h bs)), .fz (.lst (encB bs'))] ∧ bs.length = bs'.length ∧ bs.length ≤ 2 ∧ Q (encS (.mk h bs')) as
def S_add_first_lines (n : Nat) : SpD (nf a) := fun as Q => ∃ v xs rs l k, as = [.ow v (lstA K (nf a) xs), .fz (rowsD rs), .fz (.int l), .fz (.int (k : Nat))] ∧ hR rs < n ∧ GoodR rs ∧ xs.length + cntR rs ≤ 900000 ∧
  Q (.int (lstR rs l).2) [.ow v (lstA K (nf a) (xs ++ (lstR rs l).1.map fun q => Row.enc (q.1, k, .s q.2))), .fz (rowsD rs), .fz (.int l), .fz (.int (k : Nat))]
def S_first_lines : SpD (nf a) := fun as Q => ∃ ps, as = [.fz (partsD ps)] ∧ FormP ps ∧ Q (.lst ((flR ps 0 1).map Row.enc)) as
def S_statements : SpD (nf a) := fun as Q => ∃ ps, as = [.fz (partsD ps)] ∧ FormP ps ∧ Q (.lst (((flR ps 0 1).filter isStm).map Row.enc)) as
def S_ordered : List D → SpD (nf a) := fun ds as Q => ∃ (od : List Str) (s : Sm), ds = [.lst (od.map .str)] ∧ as = [.fz (encS s)] ∧ od.length ≤ 100 ∧ s.bs.length = s.h.nb ∧ s.h.good ∧ Q (encS (.mk (s.h.ord od) s.bs)) as
def Ws : List (NFd × (List D → SpD (nf a))) := [(W_ordered, S_ordered a)]
abbrev fnD (od : List Str) : D := .fn W_ordered [.lst (od.map .str)]
def S_changed_rows (n : Nat) : SpD (nf a) := fun as Q => ∃ rs od, as = [.fz (rowsD rs), .fz (fnD od)] ∧ hR rs < n ∧ GoodR rs ∧ od.length ≤ 100 ∧ Q (rowsD (mapR (Hd.ord od) rs)) as
def S_changed : SpD (nf a) := fun as Q => ∃ ps od, as = [.fz (partsD ps), .fz (fnD od)] ∧ FormP ps ∧ od.length ≤ 100 ∧ Q (partsD (ps.map (Pt.map (Hd.ord od)))) as
def S_with_ordered_lists : SpD (nf a) := fun as Q => ∃ ps, as = [.fz (partsD ps)] ∧ FormP ps ∧ Q (partsD (ordP ps)) as
def S_is_listing : SpD (nf a) := fun as Q => ∃ cs : List Str, as = [.fz (capsD cs)] ∧ (∀ c ∈ cs, isIdB c = true) ∧ cs.length ≤ 100 ∧ Q (.bl true) as
def S_is_value : SpD (nf a) := fun as Q => ∃ o v, as = [.fz (valD o v)] ∧ (if o then isIdB v = true else isWordB v = true) ∧ Q (.bl true) as
def S_is_access : SpD (nf a) := fun as Q => ∃ o, as = [.fz (.str (accS o))] ∧ Q (.bl true) as
/-- an item that has its shape -/
inductive Fit (n : Nat) (b : Int) : Str → D → Prop
  | word {s : Str} : isWordB s = true → Fit n b "word" (.str s)
  | ident {s : Str} : isIdB s = true → Fit n b "ident" (.str s)
  | value {o : Bool} {v : Str} : (if o then isIdB v = true else isWordB v = true) → Fit n b "value" (valD o v)
  | listing {cs : List Str} : (∀ c ∈ cs, isIdB c = true) → cs.length ≤ 100 → Fit n b "listing" (capsD cs)
  | rows {rs : List Sm} : GoodR rs → 3 * hR rs + 1 < n → b + (hR rs : Nat) ≤ 9 → Fit n b "rows" (rowsD rs)
def S_fits (n : Nat) : SpD (nf a) := fun as Q => ∃ sh x b, as = [.fz (.str sh), .fz x, .fz (.int b)] ∧ 0 < n ∧ Fit n b sh x ∧ Q (.bl true) as
def S_is_rows (n : Nat) : SpD (nf a) := fun as Q => ∃ rs b, as = [.fz (rowsD rs), .fz (.int b)] ∧ 3 * hR rs < n ∧ GoodR rs ∧ b + (hR rs : Nat) ≤ 9 ∧ Q (.bl true) as
def S_is_statement (n : Nat) : SpD (nf a) := fun as Q => ∃ s b, as = [.fz (encS s), .fz (.int b)] ∧ 3 * hS s ≤ n ∧ GoodS s ∧ b + (hS s : Nat) ≤ 9 ∧ Q (.bl true) as
def S_is_part : SpD (nf a) := fun as Q => ∃ x : Pt, as = [.fz x.enc] ∧ x.good ∧ Q (.bl true) as
def S_check_form : SpD (nf a) := fun as Q => ∃ ps, as = [.fz (partsD ps)] ∧ FormP ps ∧ Q .non as
def S_declared_parts : SpD (nf a) := fun as Q => ∃ (ps : List Pt) (ls : List Int), as = [.fz (partsD ps), .fz (.lst (ls.map .int))] ∧ FormP ps ∧ ls.length = cntP ps ∧ (ps.map Pt.id).Nodup ∧ Q (.dct (declD ps 0)) as
def S_kind_of : SpD (nf a) := fun as Q => ∃ ps i, as = [.fz (.str i), .fz (.dct (declD ps 0))] ∧ (ps.map Pt.id).Nodup ∧ Q (kindD ps i) as
def S_check_known : SpD (nf a) := fun as Q => ∃ ps l s p, as = [.fz (.int l), .fz (encS s), .fz (.dct (declD ps 0))] ∧ (ps.map Pt.id).Nodup ∧ s.bs.length = s.h.nb ∧ s.h.good ∧ okH (kinds ps) p s.h ∧ Q .non as
def S_check_listing : SpD (nf a) := fun as Q => ∃ hs l s p, as = [.fz (.int l), .fz (encS s)] ∧ s.bs.length = s.h.nb ∧ s.h.good ∧ okH hs p s.h ∧ Q .non as
def S_check_order : SpD (nf a) := fun as Q => ∃ ps l s p, as = [.fz (.int l), .fz (.int (p : Nat)), .fz (encS s), .fz (.dct (declD ps 0))] ∧ (ps.map Pt.id).Nodup ∧ s.bs.length = s.h.nb ∧ s.h.good ∧ okH (kinds ps) p s.h ∧ Q .non as
def S_check_statement : SpD (nf a) := fun as Q => ∃ ps l s p, as = [.fz (.int l), .fz (.int (p : Nat)), .fz (encS s), .fz (.dct (declD ps 0))] ∧ (ps.map Pt.id).Nodup ∧ s.bs.length = s.h.nb ∧ s.h.good ∧ okH (kinds ps) p s.h ∧ Q .non as
def S_settled : SpD (nf a) := fun as Q => ∃ (ps : List Pt) (ls : List Int), as = [.fz (partsD ps), .fz (.lst (ls.map .int))] ∧ FormP ps ∧ RuleP ps ∧ ls.length = cntP ps ∧ Q (partsD (ordP ps)) as
def S_check : SpD (nf a) := fun as Q => ∃ ps, as = [.fz (partsD ps)] ∧ FormP ps ∧ RuleP ps ∧ Q (partsD (ordP ps)) as
def S_keepings : SpD (nf a) := fun as Q => ∃ ps, as = [.fz (partsD ps)] ∧ FormP ps ∧ Q (.tup (keepsP ps)) as
theorem z_add_first_lines : ∀ as Q, S_add_first_lines K a 0 as Q → False := by rintro as Q ⟨_, _, _, _, _, _, h, _⟩; omega
theorem z_changed_rows : ∀ as Q, S_changed_rows a 0 as Q → False := by rintro as Q ⟨_, _, _, h, _⟩; omega
theorem z_fits : ∀ as Q, S_fits a 0 as Q → False := by rintro as Q ⟨_, _, _, _, h, _⟩; omega
theorem z_is_rows : ∀ as Q, S_is_rows a 0 as Q → False := by rintro as Q ⟨_, _, _, h, _⟩; omega
theorem hS_pos : ∀ s : Sm, 1 ≤ hS s
  | .mk _ _ => by simp only [hS]; omega
theorem z_is_statement : ∀ as Q, S_is_statement a 0 as Q → False := by
  rintro as Q ⟨s, _, _, h, _⟩
  have := hS_pos s
  omega
end
open PySem L2 DL
theorem Ws_mem {a : Ad} {q : NFd × (List D → SpD (nf a))} (h : q ∈ Ws a) : q = (W_ordered, S_ordered a) := List.mem_singleton.mp h
open PySem L2 DL
abbrev headD (h : Str × Str) : D := .tup [.str h.1, .str h.2]
abbrev headsD (hs : List (Str × Str)) : D := .lst (hs.map headD)
def HeadsOk (hs : List (Str × Str)) : Prop := (hs.map Prod.snd).Nodup ∧ (∀ h ∈ hs, isIdB h.2 = true ∧ (h.1 = "name" ∨ h.1 = "flag" ∨ h.1 = "slot" ∨ h.1 = "func")) ∧ (∃ i, (("name" : Str), i) ∈ hs) ∧ hs.length ≤ 40 ∧ 2 ≤ hs.length
def idsOf (hs : List (Str × Str)) (ks : List Str) : List Str := (hs.filter fun h => decide (h.1 ∈ ks)).map Prod.snd
/-- the rows that the maker makes for the part at p -/
def Made (hs : List (Str × Str)) (p : Nat) (rs : List Sm) : Prop := allR (fun h => okH hs p h ∧ h.good) rs
def MadeP (ps : List Pt) : Prop := FormP ps ∧ RuleP ps
section
variable (K : PySem.W.Frag) (a : Ad)
/-- the tape of the draws stands in v, at most b draws were made -/
def Tp (v : V) (b : Int) (s : SD (nf a)) : Prop := ∃ c n f k : Int, s = .ow v (lstA K (nf a) [.int c, .int n, .int f, .int k]) ∧ (f = 0 ∨ f = 1 ∧ 0 ≤ c ∧ c < 10 ^ 18) ∧ 0 ≤ n ∧ n ≤ b ∧ 0 ≤ k ∧ k ≤ 63
def S_law_tape : SpO (nf a) := fun as Q => ∃ (ns : List Int) (k : Int), as = [.fz (.scr ns), .fz (.int k)] ∧ 0 ≤ k ∧ k ≤ 63 ∧ ∀ v s, Tp K a v 0 s → Q s as
def S_law_draw : SpD (nf a) := fun as Q => ∃ v s b m, as = [s, .fz (.int m)] ∧ Tp K a v b s ∧ b ≤ 100000 ∧ 0 < m ∧ m ≤ 10 ^ 60 ∧ ∀ s' d, Tp K a v (b + 1) s' → 0 ≤ d → d < m → Q (.int d) [s', .fz (.int m)]
def S_law_kept : SpD (nf a) := fun as Q => as = [] ∧ Q (.lst (keptWords.map .str)) as
def S_law_signs : SpD (nf a) := fun as Q => as = [] ∧ Q (.str signs) as
def S_law_spelled : SpD (nf a) := fun as Q => ∃ (v : V) (s : SD (nf a)) (b : Int) (us : List Str), as = [s, .fz (.lst (us.map .str))] ∧ Tp K a v b s ∧ b ≤ 90000 ∧ us.length ≤ 60 ∧ (∀ u ∈ us, isIdB u = true) ∧ ∀ s' z, Tp K a v (b + 20) s' → isWordB z = true → headB z = true → Q (.str z) [s', .fz (.lst (us.map .str))]
def S_law_ident : SpD (nf a) := fun as Q => ∃ (v : V) (s : SD (nf a)) (b : Int) (us : List Str), as = [s, .fz (.lst (us.map .str))] ∧ Tp K a v b s ∧ b ≤ 90000 ∧ us.length ≤ 60 ∧ (∀ u ∈ us, isIdB u = true) ∧ ∀ s' z, Tp K a v (b + 20) s' → isIdB z = true → z ∉ us → Q (.str z) [s', .fz (.lst (us.map .str))]
def S_law_word : SpD (nf a) := fun as Q => ∃ v s b, as = [s] ∧ Tp K a v b s ∧ b ≤ 90000 ∧ ∀ s' z, Tp K a v (b + 20) s' → isWordB z = true → Q (.str z) [s']
def S_law_heads : SpD (nf a) := fun as Q => ∃ (ns : List Int) (m : Int), as = [.fz (.scr ns), .fz (.int m)] ∧ ns.length ≤ 63 ∧ 0 < m ∧ m ≤ 10 ∧ ∀ hs, HeadsOk hs → Q (headsD hs) as
def S_law_idents : SpD (nf a) := fun as Q => ∃ (hs : List (Str × Str)) (ks : List Str), as = [.fz (headsD hs), .fz (.tup (ks.map .str))] ∧ hs.length ≤ 40 ∧ Q (.lst ((idsOf hs ks).map .str)) as
def S_law_pick : SpD (nf a) := fun as Q => ∃ v s b xs, as = [s, .fz (.lst xs)] ∧ Tp K a v b s ∧ b ≤ 90000 ∧ xs ≠ [] ∧ xs.length ≤ 10000 ∧ ∀ s' d, Tp K a v (b + 1) s' → d ∈ xs → Q d [s', .fz (.lst xs)]
def S_law_captured : SpD (nf a) := fun as Q => ∃ v s b hs, as = [s, .fz (headsD hs)] ∧ Tp K a v b s ∧ b ≤ 90000 ∧ HeadsOk hs ∧ ∀ s' cs, Tp K a v (b + 50) s' → okCaps hs cs → cs.length ≤ 40 → Q (capsD cs) [s', .fz (headsD hs)]
def aboveOk (hs : List (Str × Str)) (f g : Str) (p : Str × Str) : Prop := ∃ j l : Nat, j < l ∧ hs[j]? = some (f, p.2) ∧ hs[l]? = some (g, p.1)
def S_law_pairs_above : SpD (nf a) := fun as Q => ∃ hs f g, as = [.fz (headsD hs), .fz (.str f), .fz (.str g)] ∧ hs.length ≤ 40 ∧ ∀ ps : List (Str × Str), (∀ p ∈ ps, aboveOk hs f g p) → ps.length ≤ 2000 → Q (.lst (ps.map headD)) as
def S_law_slot_statement : SpD (nf a) := fun as Q => ∃ v s b hs p k, as = [s, .fz (headsD hs), .fz (headsD (hs.take p)), .fz (.str k)] ∧ Tp K a v b s ∧ b ≤ 80000 ∧ HeadsOk hs ∧ ∀ s' h, Tp K a v (b + 60) s' → okH hs p h → h.good → h.nb = 0 → Q (encS (.mk h [])) [s', .fz (headsD hs), .fz (headsD (hs.take p)), .fz (.str k)]
def S_law_bind : SpD (nf a) := fun as Q => ∃ v s b hs rs, as = [s, .fz (headsD hs), .fz (rowsD rs)] ∧ Tp K a v b s ∧ b ≤ 80000 ∧ HeadsOk hs ∧ ∀ s' i o w, Tp K a v (b + 30) s' → (∀ p, okH hs p (.bind i o w)) → (Hd.bind i o w).good → Q (encS (.mk (.bind i o w) [rs])) [s', .fz (headsD hs), .fz (rowsD rs)]
/-- draws of rows at a level -/
def drw : Nat → Int | 0 => 4000 | 1 => 600 | 2 => 100 | _ => 0
def cnt0 : Nat → Nat | 0 => 200 | 1 => 20 | 2 => 2 | _ => 0
abbrev tr4 (s : SD (nf a)) (hs : List (Str × Str)) (p : Nat) (lv : Nat) : List (SD (nf a)) := [s, .fz (headsD hs), .fz (headsD (hs.take p)), .fz (.int (lv : Nat))]
def S_law_rows (n : Nat) : SpD (nf a) := fun as Q => ∃ v s b hs p lv, as = tr4 a s hs p lv ∧ Tp K a v b s ∧ b ≤ 50000 + 6000 * (lv : Nat) ∧ HeadsOk hs ∧ lv ≤ 2 ∧ 3 * (3 - lv) < n ∧ ∀ s' rs, Tp K a v (b + drw lv) s' → Made hs p rs → hR rs ≤ 3 - lv → cntR rs ≤ cnt0 lv → Q (rowsD rs) (tr4 a s' hs p lv)
def S_law_statement (n : Nat) : SpD (nf a) := fun as Q => ∃ v s b hs p lv, as = tr4 a s hs p lv ∧ Tp K a v b s ∧ b ≤ 54500 + 6000 * (lv : Nat) ∧ HeadsOk hs ∧ lv ≤ 2 ∧ 3 * (3 - lv) ≤ n ∧ 0 < n ∧ ∀ s' x, Tp K a v (b + 80 + 2 * drw (lv + 1)) s' → allS (fun h => okH hs p h ∧ h.good) x → hS x ≤ 3 - lv → cntS x ≤ 1 + 2 * cnt0 (lv + 1) → Q (encS x) (tr4 a s' hs p lv)
def S_law_block (n : Nat) : SpD (nf a) := fun as Q => ∃ v s b hs p k lv, as = [s, .fz (headsD hs), .fz (headsD (hs.take p)), .fz (.str k), .fz (.int (lv : Nat))] ∧ Tp K a v b s ∧ b ≤ 54600 + 6000 * (lv : Nat) ∧ HeadsOk hs ∧ lv ≤ 1 ∧ 3 * (3 - (lv + 1)) + 1 < n ∧
  ∀ s' x, Tp K a v (b + 70 + 2 * drw (lv + 1)) s' → allS (fun h => okH hs p h ∧ h.good) x → hS x ≤ 3 - lv → cntS x ≤ 1 + 2 * cnt0 (lv + 1) → Q (encS x) [s', .fz (headsD hs), .fz (headsD (hs.take p)), .fz (.str k), .fz (.int (lv : Nat))]
def S_law_function : SpD (nf a) := fun as Q => ∃ v s b hs p, as = [s, .fz (headsD hs), .fz (.int (p : Nat))] ∧ Tp K a v b s ∧ b ≤ 10000 ∧ HeadsOk hs ∧ p ≤ hs.length ∧ ∀ s' rs, Tp K a v (b + 5000) s' → Made hs p rs → hR rs ≤ 9 → cntR rs ≤ 1000 → Q (rowsD rs) [s', .fz (headsD hs), .fz (.int (p : Nat))]
def S_law_parts : SpD (nf a) := fun as Q => ∃ (ns : List Int) (m : Int), as = [.fz (.scr ns), .fz (.int m)] ∧ ns.length ≤ 63 ∧ 0 < m ∧ m ≤ 10 ∧ ∀ ps, MadeP ps → 2 ≤ ps.length → Q (partsD ps) as
def S_law_blocks : SpD (nf a) := fun as Q => ∃ s : Sm, as = [.fz (encS s)] ∧ s.bs.length = s.h.nb ∧ Q (.lst (encB s.bs)) as
def S_law_listed_rows (n : Nat) : SpD (nf a) := fun as Q => ∃ v xs rs l k, as = [.ow v (lstA K (nf a) xs), .fz (rowsD rs), .fz (.int l), .fz (.int (k : Nat))] ∧ hR rs < n ∧ GoodR rs ∧ xs.length + cntR rs ≤ 900000 ∧
  Q (.int (lstR rs l).2) [.ow v (lstA K (nf a) (xs ++ (lstR rs l).1.map fun q => Row.enc (q.1, k, .s q.2))), .fz (rowsD rs), .fz (.int l), .fz (.int (k : Nat))]
def S_law_listed : SpD (nf a) := fun as Q => ∃ ps, as = [.fz (partsD ps)] ∧ FormP ps ∧ Q (.lst ((flR ps 0 1).map Row.enc)) as
theorem z_law_listed_rows : ∀ as Q, S_law_listed_rows K a 0 as Q → False := by rintro as Q ⟨_, _, _, _, _, _, h, _⟩; omega
theorem z_law_rows : ∀ as Q, S_law_rows K a 0 as Q → False := by rintro as Q ⟨_, _, _, _, _, _, _, _, _, _, _, h, _⟩; omega
theorem z_law_statement : ∀ as Q, S_law_statement K a 0 as Q → False := by rintro as Q ⟨_, _, _, _, _, _, _, _, _, _, _, _, h, _⟩; omega
theorem z_law_block : ∀ as Q, S_law_block K a 0 as Q → False := by rintro as Q ⟨_, _, _, _, _, _, _, _, _, _, _, _, h, _⟩; omega
end
open PySem L2 DL
section
variable (K : PySem.W.Frag) (a : Ad)
def S_law_due : SpD (nf a) := fun as Q => ∃ ps, as = [.fz (partsD ps)] ∧ FormP ps ∧ Q (.tup (keepsP ps)) as
def S_law : SpD (nf a) := fun as Q => ∃ ns, as = [.fz (.scr ns)] ∧ ns.length ≤ 63 ∧ Q (.bl true) as
end
open PySem L2 DL
def kept : D := .tup [.str "name", .str "flag", .str "slot", .str "func", .str "open", .str "own", .str "look", .str "bind", .str "call", .str "keep", .str "take", .str "shift", .str "run", .str "drop", .str "apart", .str "when", .str "held", .str "fail", .str "guard", .str "else", .str "after", .str "end", .str "with", .str "of", .str "on", .str "off"]
abbrev partw : D := .tup [.str "name", .str "flag", .str "slot", .str "func"]
abbrev boundw : D := .tup [.str "name", .str "flag"]
abbrev keepw : D := .tup [.str "keep", .str "take", .str "shift"]
def td_blocks_of (K : PySem.W.Frag) (a : Ad) : DTS (nf a) :=
    (sSeq (sSet 1 (dF ixD (dVar 0) (dC (.int 0))))
    (sSeq (sIf (dBv (dF (inF false) (dVar 1) (dTup (aCons (dC (.str "bind")) (aCons (dC (.str "apart")) aNil))))) (sRet (dTup (aCons (dF ixD (dVar 0) (dNeg (dC (.int 1)))) aNil))) sNext)
    (sSeq (sIf (dBv (dF (inF false) (dVar 1) (dTup (aCons (dC (.str "when")) (aCons (dC (.str "held")) (aCons (dC (.str "guard")) aNil)))))) (sRet (dTup (aCons (dF ixD (dVar 0) (dNeg (dC (.int 2)))) (aCons (dF ixD (dVar 0) (dNeg (dC (.int 1)))) aNil)))) sNext)
    (sRet (dTup aNil)))))
def td_rebuilt (K : PySem.W.Frag) (a : Ad) : DTS (nf a) :=
    (sRet (dCatT (dSlT (dVar 0) oNone (oSome (dSub (dCB fLenG (aCons (dVar 0) aNil)) (dCB fLenG (aCons (dVar 1) aNil))))) (dCB fTuple (aCons (dVar 1) aNil))))
def td_add_first_lines (K : PySem.W.Frag) (a : Ad) (n : Nat) : DTS (nf a) :=
    (sSeq (sFor (iT (dVar 1)) (gN 4) (sSeq (fun De env => (∃ v xs, env[0]? = some (SD.ow v (lstA K (nf a) xs))) ∧ sApp K 0 (dTup (aCons (dVar 2) (aCons (dVar 3) (aCons (dVar 4) aNil)))) De env)
    (sSeq (sAugI 2 (dC (.int 1)))
    (sSeq (sSet 5 (dCall 1 (S_blocks_of a) [] (mVal (dVar 4) mNil)))
    (sSeq (sFor (iEn (aCons (dVar 5) aNil)) (gT 2 (gsCons (gN 6) (gsCons (gN 7) gsNil))) (sSeqC (sIf (dAnd (dBv (dEqG false (dVar 6) (dC (.int 1)))) (dBv (dEqG true (dVar 7) (dTup aNil)))) (sAugI 2 (dC (.int 1))) sNext)
    (sSet 2 (dCall 4 (S_add_first_lines K a n) [] (mSlot 0 (mVal (dVar 7) (mVal (dVar 2) (mVal (dVar 3) mNil))))))))
    (sIf (dBv (dEqG true (dVar 5) (dTup aNil))) (sAugI 2 (dC (.int 1))) sNext))))))
    (sRet (dVar 2)))
def td_first_lines (K : PySem.W.Frag) (a : Ad) : DTS (nf a) :=
    (sSeq (sSetL K 1 aNil)
    (sSeq (sSet 2 (dC (.int 1)))
    (sSeq (sFor (iEn (aCons (dVar 0) aNil)) (gT 2 (gsCons (gN 3) (gsCons (gN 4) gsNil))) (sSeq (fun De env => (∃ v xs, env[1]? = some (SD.ow v (lstA K (nf a) xs))) ∧ sApp K 1 (dTup (aCons (dVar 2) (aCons (dVar 3) (aCons (dVar 4) aNil)))) De env)
    (sSeq (sAugI 2 (dC (.int 1)))
    (sIf (dBv (dEqG false (dF ixD (dVar 4) (dC (.int 0))) (dC (.str "func")))) (sSet 2 (dF addD (dCall 4 (S_add_first_lines K a 12) [] (mSlot 1 (mVal (dF ixD (dVar 4) (dC (.int 3))) (mVal (dVar 2) (mVal (dVar 3) mNil))))) (dC (.int 1)))) sNext))))
    (sRet (dVarF K 1)))))
def td_statements (K : PySem.W.Frag) (a : Ad) : DTS (nf a) :=
    (sRet (dLc (iL (dCall 1 (S_first_lines a) [] (mVal (dVar 0) mNil))) (gN 1) (dBv (dF ninF (dF ixD (dF ixD (dVar 1) (dC (.int 2))) (dC (.int 0))) (dC partw))) (dVar 1) [1]))
def td_ordered (K : PySem.W.Frag) (a : Ad) : DTS (nf a) :=
    (sSeq (sIf (dBv (dF ninF (dF ixD (dVar 0) (dC (.int 0))) (dC keepw))) (sRet (dVar 0)) sNext)
    (sRet (dCatT (dSlT (dVar 0) oNone (oSome (dNeg (dC (.int 1))))) (dTup (aCons (dCB fTuple (aCons (dLc (iL (dVar 1)) (gN 2) (dBv (dF (inF false) (dVar 2) (dF ixD (dVar 0) (dNeg (dC (.int 1)))))) (dVar 2) [2]) aNil)) aNil)))))
def td_changed_rows (K : PySem.W.Frag) (a : Ad) (n : Nat) : DTS (nf a) :=
    (sSeq (sSetL K 2 aNil)
    (sSeq (sFor (iT (dVar 0)) (gN 3) (sSeq (sSet 4 (dCallF (Ws a) 1 1 (aCons (dVar 3) aNil)))
    (sSeq (sSet 5 (dLc (iT (dCall 1 (S_blocks_of a) [] (mVal (dVar 4) mNil))) (gN 6) dYes (dCall 2 (S_changed_rows a n) [] (mVal (dVar 6) (mVal (dVar 1) mNil))) [6]))
    (fun De env => (∃ v xs, env[2]? = some (SD.ow v (lstA K (nf a) xs))) ∧ sApp K 2 (dCall 2 (S_rebuilt a) [] (mVal (dVar 4) (mVal (dVar 5) mNil))) De env))))
    (sRet (dCB fTuple (aCons (dVarF K 2) aNil)))))
def td_changed (K : PySem.W.Frag) (a : Ad) : DTS (nf a) :=
    (sSeq (sSetL K 2 aNil)
    (sSeq (sFor (iT (dVar 0)) (gN 3) (sIf (dBv (dEqG false (dF ixD (dVar 3) (dC (.int 0))) (dC (.str "func")))) (fun De env => (∃ v xs, env[2]? = some (SD.ow v (lstA K (nf a) xs))) ∧ sApp K 2 (dCatT (dSlT (dVar 3) oNone (oSome (dC (.int 3)))) (dTup (aCons (dCall 2 (S_changed_rows a 12) [] (mVal (dF ixD (dVar 3) (dC (.int 3))) (mVal (dVar 1) mNil))) aNil))) De env) (fun De env => (∃ v xs, env[2]? = some (SD.ow v (lstA K (nf a) xs))) ∧ sApp K 2 (dVar 3) De env)))
    (sRet (dCB fTuple (aCons (dVarF K 2) aNil)))))
def td_is_word (K : PySem.W.Frag) (a : Ad) : DTS (nf a) :=
    (sSeq (sIf (dOr (dNot (dBv (dCB (fIsi K) (aCons (dVar 0) (aCons (dC (.ty "str")) aNil))))) (dNot (dBv (dChain cLe cLe (dC (.int 1)) (dCB fLenG (aCons (dVar 0) aNil)) (dC (.int 12)))))) (sRet (dC (.bl false))) sNext)
    (sRet (dCB fAll (aCons (dLc (iS (dVar 0)) (gN 1) dYes (dOrV (dF (inF false) (dVar 1) (dC (.str "abcdefghijklmnopqrstuvwxyz"))) (dF (inF false) (dVar 1) (dC (.str "0123456789")))) [1]) aNil))))
def td_is_identifier (K : PySem.W.Frag) (a : Ad) : DTS (nf a) :=
    (sRet (dAndV (dCall 1 (S_is_word a) [] (mVal (dVar 0) mNil)) (dAndV (dF (inF false) (dF ixD (dVar 0) (dC (.int 0))) (dC (.str "abcdefghijklmnopqrstuvwxyz"))) (dF ninF (dVar 0) (dC kept)))))
def td_is_setting (K : PySem.W.Frag) (a : Ad) : DTS (nf a) :=
    (sRet (dAndV (dCB (fIsi K) (aCons (dVar 0) (aCons (dC (.ty "str")) aNil))) (dF (inF false) (dVar 0) (dTup (aCons (dC (.str "on")) (aCons (dC (.str "off")) aNil))))))
def td_is_listing (K : PySem.W.Frag) (a : Ad) : DTS (nf a) :=
    (sRet (dAndV (dCB (fIsi K) (aCons (dVar 0) (aCons (dC (.ty "tuple")) aNil))) (dCB fAll (aCons (dLc (iT (dVar 0)) (gN 1) dYes (dCall 1 (S_is_identifier a) [] (mVal (dVar 1) mNil)) [1]) aNil))))
def td_is_value (K : PySem.W.Frag) (a : Ad) : DTS (nf a) :=
    (sSeq (sIf (dOr (dNot (dBv (dCB (fIsi K) (aCons (dVar 0) (aCons (dC (.ty "tuple")) aNil))))) (dOr (dBv (dEqG true (dCB fLenG (aCons (dVar 0) aNil)) (dC (.int 2)))) (dNot (dBv (dCB (fIsi K) (aCons (dF ixD (dVar 0) (dC (.int 0))) (aCons (dC (.ty "str")) aNil))))))) (sRet (dC (.bl false))) sNext)
    (sSeq (sIf (dBv (dEqG false (dF ixD (dVar 0) (dC (.int 0))) (dC (.str "word")))) (sRet (dCall 1 (S_is_word a) [] (mVal (dF ixD (dVar 0) (dC (.int 1))) mNil))) sNext)
    (sRet (dAndV (dEqG false (dF ixD (dVar 0) (dC (.int 0))) (dC (.str "of"))) (dCall 1 (S_is_identifier a) [] (mVal (dF ixD (dVar 0) (dC (.int 1))) mNil))))))
def td_is_access (K : PySem.W.Frag) (a : Ad) : DTS (nf a) :=
    (sRet (dAndV (dCB (fIsi K) (aCons (dVar 0) (aCons (dC (.ty "str")) aNil))) (dF (inF false) (dVar 0) (dTup (aCons (dC (.str "open")) (aCons (dC (.str "own")) aNil))))))
def td_fits (K : PySem.W.Frag) (a : Ad) (n : Nat) : DTS (nf a) :=
    (sSeq (sIf (dBv (dEqG false (dVar 0) (dC (.str "word")))) (sRet (dCall 1 (S_is_word a) [] (mVal (dVar 1) mNil))) sNext)
    (sSeq (sIf (dBv (dEqG false (dVar 0) (dC (.str "ident")))) (sRet (dCall 1 (S_is_identifier a) [] (mVal (dVar 1) mNil))) sNext)
    (sSeq (sIf (dBv (dEqG false (dVar 0) (dC (.str "value")))) (sRet (dCall 1 (S_is_value a) [] (mVal (dVar 1) mNil))) sNext)
    (sSeq (sIf (dBv (dEqG false (dVar 0) (dC (.str "listing")))) (sRet (dCall 1 (S_is_listing a) [] (mVal (dVar 1) mNil))) sNext)
    (sRet (dCall 2 (S_is_rows a n) [] (mVal (dVar 1) (mVal (dVar 2) mNil))))))))
def td_is_rows (K : PySem.W.Frag) (a : Ad) (n : Nat) : DTS (nf a) :=
    (sSeq (sIf (dNot (dBv (dCB (fIsi K) (aCons (dVar 0) (aCons (dC (.ty "tuple")) aNil))))) (sRet (dC (.bl false))) sNext)
    (sSeq (sIf (dAnd (dBv (dCmp cGt (dVar 1) (dC (.int 8)))) (dBv (dCmp cGt (dCB fLenG (aCons (dVar 0) aNil)) (dC (.int 0))))) (sRet (dC (.bl false))) sNext)
    (sRet (dCB fAll (aCons (dLc (iT (dVar 0)) (gN 2) dYes (dCall 2 (S_is_statement a n) [] (mVal (dVar 2) (mVal (dVar 1) mNil))) [2]) aNil)))))
def td_is_statement (K : PySem.W.Frag) (a : Ad) (n : Nat) : DTS (nf a) :=
    (sSeq (sIf (dOr (dNot (dBv (dCB (fIsi K) (aCons (dVar 0) (aCons (dC (.ty "tuple")) aNil))))) (dBv (dEqG false (dCB fLenG (aCons (dVar 0) aNil)) (dC (.int 0))))) (sRet (dC (.bl false))) sNext)
    (sSeq (sIf (dOr (dNot (dBv (dCB (fIsi K) (aCons (dF ixD (dVar 0) (dC (.int 0))) (aCons (dC (.ty "str")) aNil))))) (dBv (dKIn true SHAPESl (dF ixD (dVar 0) (dC (.int 0)))))) (sRet (dC (.bl false))) sNext)
    (sSeq (sSet 2 (dKIx SHAPESl (dF ixD (dVar 0) (dC (.int 0)))))
    (sSeq (sIf (dBv (dEqG true (dCB fLenG (aCons (dVar 0) aNil)) (dF addD (dCB fLenG (aCons (dVar 2) aNil)) (dC (.int 1))))) (sRet (dC (.bl false))) sNext)
    (sRet (dCB fAll (aCons (dLc (iZp (aCons (dVar 2) (aCons (dSlT (dVar 0) (oSome (dC (.int 1))) oNone) aNil))) (gT 2 (gsCons (gN 3) (gsCons (gN 4) gsNil))) dYes (dCall 3 (S_fits a n) [] (mVal (dVar 3) (mVal (dVar 4) (mVal (dF addD (dVar 1) (dC (.int 1))) mNil)))) [3, 4]) aNil)))))))
def td_is_part (K : PySem.W.Frag) (a : Ad) : DTS (nf a) :=
    (sSeq (sIf (dOr (dNot (dBv (dCB (fIsi K) (aCons (dVar 0) (aCons (dC (.ty "tuple")) aNil))))) (dNot (dBv (dChain cLe cLe (dC (.int 3)) (dCB fLenG (aCons (dVar 0) aNil)) (dC (.int 4)))))) (sRet (dC (.bl false))) sNext)
    (sSeq (sIf (dOr (dNot (dBv (dCB (fIsi K) (aCons (dF ixD (dVar 0) (dC (.int 0))) (aCons (dC (.ty "str")) aNil))))) (dNot (dBv (dCall 1 (S_is_identifier a) [] (mVal (dF ixD (dVar 0) (dC (.int 1))) mNil))))) (sRet (dC (.bl false))) sNext)
    (sSeq (sIf (dBv (dEqG false (dCB fLenG (aCons (dVar 0) aNil)) (dC (.int 4)))) (sRet (dAndV (dEqG false (dF ixD (dVar 0) (dC (.int 0))) (dC (.str "func"))) (dAndV (dCall 1 (S_is_access a) [] (mVal (dF ixD (dVar 0) (dC (.int 2))) mNil)) (dCall 2 (S_is_rows a 40) [] (mVal (dF ixD (dVar 0) (dC (.int 3))) (mVal (dC (.int 0)) mNil)))))) sNext)
    (sSeq (sIf (dBv (dEqG false (dF ixD (dVar 0) (dC (.int 0))) (dC (.str "name")))) (sRet (dCall 1 (S_is_word a) [] (mVal (dF ixD (dVar 0) (dC (.int 2))) mNil))) sNext)
    (sSeq (sIf (dBv (dEqG false (dF ixD (dVar 0) (dC (.int 0))) (dC (.str "flag")))) (sRet (dCall 1 (S_is_setting a) [] (mVal (dF ixD (dVar 0) (dC (.int 2))) mNil))) sNext)
    (sRet (dAndV (dEqG false (dF ixD (dVar 0) (dC (.int 0))) (dC (.str "slot"))) (dCall 1 (S_is_access a) [] (mVal (dF ixD (dVar 0) (dC (.int 2))) mNil)))))))))
def td_check_form (K : PySem.W.Frag) (a : Ad) : DTS (nf a) :=
    (sSeq (sIf (dNot (dBv (dCB (fIsi K) (aCons (dVar 0) (aCons (dC (.ty "tuple")) aNil))))) sNever sNext)
    (sFor (iEn (aCons (dVar 0) aNil)) (gT 2 (gsCons (gN 1) (gsCons (gN 2) gsNil))) (sIf (dNot (dBv (dCall 1 (S_is_part a) [] (mVal (dVar 2) mNil)))) sNever sNext)))
def td_declared_parts (K : PySem.W.Frag) (a : Ad) : DTS (nf a) :=
    (sSeq (sSetD0 K 2)
    (sSeq (sFor (iZp (aCons (dVar 1) (aCons (dCall 1 (S_first_lines a) [] (mVal (dVar 0) mNil)) aNil))) (gT 2 (gsCons (gN 3) (gsCons (gT 3 (gsCons (gN 4) (gsCons (gN 5) (gsCons (gN 6) gsNil)))) gsNil))) (sIf (dBv (dF (inF false) (dF ixD (dVar 6) (dC (.int 0))) (dC partw))) (sSeq (sIf (dBv (dDInV K false (dF ixD (dVar 6) (dC (.int 1))) 2)) sNever sNext)
    (sDPutV K 2 (dF ixD (dVar 6) (dC (.int 1))) (dTup (aCons (dF ixD (dVar 6) (dC (.int 0))) (aCons (dVar 5) aNil))))) sNext))
    (sRet (dVarFD K 2))))
def td_kind_of (K : PySem.W.Frag) (a : Ad) : DTS (nf a) :=
    (sSeq (sIf (dBv (dF ninF (dVar 0) (dVar 1))) (sRet (dC .non)) sNext)
    (sRet (dF ixD (dF ixD (dVar 1) (dVar 0)) (dC (.int 0)))))
def td_check_known (K : PySem.W.Frag) (a : Ad) : DTS (nf a) :=
    (sSeq (sSet 3 (dF ixD (dVar 1) (dC (.int 0))))
    (sSeq (sFor (iT (dKIx WANTEDl (dVar 3))) (gT 2 (gsCons (gN 4) (gsCons (gN 5) gsNil))) (sIf (dBv (dF ninF (dCall 2 (S_kind_of a) [] (mVal (dF ixD (dVar 1) (dVar 4)) (mVal (dVar 2) mNil))) (dVar 5))) sNever sNext))
    (sSeq (sIf (dAnd (dBv (dEqG false (dVar 3) (dC (.str "bind")))) (dBv (dEqG false (dF ixD (dF ixD (dVar 1) (dC (.int 2))) (dC (.int 0))) (dC (.str "of"))))) (sIf (dBv (dEqG true (dCall 2 (S_kind_of a) [] (mVal (dF ixD (dF ixD (dVar 1) (dC (.int 2))) (dC (.int 1))) (mVal (dVar 2) mNil))) (dCall 2 (S_kind_of a) [] (mVal (dF ixD (dVar 1) (dC (.int 1))) (mVal (dVar 2) mNil))))) sNever sNext) sNext)
    (sIf (dBv (dF (inF false) (dVar 3) (dC keepw))) (sFor (iT (dF ixD (dVar 1) (dNeg (dC (.int 1))))) (gN 6) (sIf (dBv (dF ninF (dCall 2 (S_kind_of a) [] (mVal (dVar 6) (mVal (dVar 2) mNil))) (dC boundw))) sNever sNext)) sNext))))
def td_check_listing (K : PySem.W.Frag) (a : Ad) : DTS (nf a) :=
    (sIf (dBv (dF (inF false) (dF ixD (dVar 1) (dC (.int 0))) (dC keepw))) (sFor (iEn (aCons (dF ixD (dVar 1) (dNeg (dC (.int 1)))) aNil)) (gT 2 (gsCons (gN 2) (gsCons (gN 3) gsNil))) (sIf (dBv (dF (inF false) (dVar 3) (dSlT (dF ixD (dVar 1) (dNeg (dC (.int 1)))) oNone (oSome (dVar 2))))) sNever sNext)) sNext)
def td_check_order (K : PySem.W.Frag) (a : Ad) : DTS (nf a) :=
    (sSeq (sSet 4 (dF ixD (dVar 2) (dC (.int 0))))
    (sSeq (sIf (dBv (dF (inF false) (dVar 4) (dTup (aCons (dC (.str "call")) (aCons (dC (.str "run")) aNil))))) (sAsg (dTup (aCons (dF ixD (dVar 2) (dC (.int 1))) (aCons (dVar 1) aNil))) (gT 2 (gsCons (gN 5) (gsCons (gN 6) gsNil)))) (sIf (dBv (dEqG false (dVar 4) (dC (.str "keep")))) (sAsg (dTup (aCons (dF ixD (dVar 2) (dC (.int 2))) (aCons (dF ixD (dF ixD (dVar 3) (dF ixD (dVar 2) (dC (.int 1)))) (dC (.int 1))) aNil))) (gT 2 (gsCons (gN 5) (gsCons (gN 6) gsNil)))) (sIf (dBv (dEqG false (dVar 4) (dC (.str "shift")))) (sAsg (dTup (aCons (dF ixD (dVar 2) (dC (.int 1))) (aCons (dF ixD (dF ixD (dVar 3) (dF ixD (dVar 2) (dC (.int 2)))) (dC (.int 1))) aNil))) (gT 2 (gsCons (gN 5) (gsCons (gN 6) gsNil)))) sRetN)))
    (sIf (dBv (dCmp cGe (dF ixD (dF ixD (dVar 3) (dVar 5)) (dC (.int 1))) (dVar 6))) sNever sNext)))
def td_check_statement (K : PySem.W.Frag) (a : Ad) : DTS (nf a) :=
    (sSeq (sDrop (dCall 3 (S_check_known a) [] (mVal (dVar 0) (mVal (dVar 2) (mVal (dVar 3) mNil)))))
    (sSeq (sIf (dAnd (dBv (dEqG false (dF ixD (dVar 2) (dC (.int 0))) (dC (.str "bind")))) (dBv (dEqG false (dF ixD (dF ixD (dVar 2) (dC (.int 2))) (dC (.int 0))) (dC (.str "word"))))) (sIf (dAnd (dBv (dEqG false (dCall 2 (S_kind_of a) [] (mVal (dF ixD (dVar 2) (dC (.int 1))) (mVal (dVar 3) mNil))) (dC (.str "flag")))) (dNot (dBv (dCall 1 (S_is_setting a) [] (mVal (dF ixD (dF ixD (dVar 2) (dC (.int 2))) (dC (.int 1))) mNil))))) sNever sNext) sNext)
    (sSeq (sDrop (dCall 2 (S_check_listing a) [] (mVal (dVar 0) (mVal (dVar 2) mNil))))
    (sDrop (dCall 4 (S_check_order a) [] (mVal (dVar 0) (mVal (dVar 1) (mVal (dVar 2) (mVal (dVar 3) mNil)))))))))
def td_with_ordered_lists (K : PySem.W.Frag) (a : Ad) (cs : List (Str × Addr)) : DTS (nf a) :=
    (sSeq (sSet 1 (dLc (iT (dVar 0)) (gN 2) (dBv (dF (inF false) (dF ixD (dVar 2) (dC (.int 0))) (dC boundw))) (dF ixD (dVar 2) (dC (.int 1))) [2]))
    (sSeq (sNdef cs 3 W_ordered)
    (sRet (dCallL cs W_ordered [1] 2 (S_changed a) (aCons (dVar 0) (aCons (dVar 3) aNil))))))
def td_settled (K : PySem.W.Frag) (a : Ad) : DTS (nf a) :=
    (sSeq (sSet 2 (dCall 2 (S_declared_parts a) [] (mVal (dVar 0) (mVal (dVar 1) mNil))))
    (sSeq (sFor (iZp (aCons (dVar 1) (aCons (dCall 1 (S_first_lines a) [] (mVal (dVar 0) mNil)) aNil))) (gT 2 (gsCons (gN 3) (gsCons (gT 3 (gsCons (gN 4) (gsCons (gN 5) (gsCons (gN 6) gsNil)))) gsNil))) (sIf (dBv (dF ninF (dF ixD (dVar 6) (dC (.int 0))) (dC partw))) (sDrop (dCall 4 (S_check_statement a) [] (mVal (dVar 3) (mVal (dVar 5) (mVal (dVar 6) (mVal (dVar 2) mNil)))))) sNext))
    (sRet (dCall 1 (S_with_ordered_lists a) [] (mVal (dVar 0) mNil)))))
def td_check (K : PySem.W.Frag) (a : Ad) : DTS (nf a) :=
    (sSeq (sDrop (dCall 1 (S_check_form a) [] (mVal (dVar 0) mNil)))
    (sRet (dCall 2 (S_settled a) [] (mVal (dVar 0) (mVal (dLc (iL (dCall 1 (S_first_lines a) [] (mVal (dVar 0) mNil))) (gN 1) dYes (dF ixD (dVar 1) (dC (.int 0))) [1]) mNil)))))
def td_keepings (K : PySem.W.Frag) (a : Ad) : DTS (nf a) :=
    (sSeq (sSetL K 1 aNil)
    (sSeq (sFor (iL (dCall 1 (S_statements a) [] (mVal (dCall 1 (S_with_ordered_lists a) [] (mVal (dVar 0) mNil)) mNil))) (gT 3 (gsCons (gN 2) (gsCons (gN 3) (gsCons (gN 4) gsNil)))) (sIf (dBv (dF (inF false) (dF ixD (dVar 4) (dC (.int 0))) (dC keepw))) (sSeq (sSet 5 (dIf (dBv (dEqG false (dF ixD (dVar 4) (dC (.int 0))) (dC (.str "shift")))) (dF ixD (dVar 4) (dC (.int 2))) (dF ixD (dVar 4) (dC (.int 1)))))
    (fun De env => (∃ v xs, env[1]? = some (SD.ow v (lstA K (nf a) xs))) ∧ sApp K 1 (dTup (aCons (dVar 2) (aCons (dF ixD (dVar 4) (dC (.int 0))) (aCons (dVar 5) (aCons (dF ixD (dVar 4) (dNeg (dC (.int 1)))) aNil))))) De env)) sNext))
    (sRet (dCB fTuple (aCons (dVarF K 1) aNil)))))
def td_law_tape (K : PySem.W.Frag) (a : Ad) : DTS (nf a) :=
    (sSeq (sSet 2 (dC (.int 0)))
    (sSeq (sIf (dBv (dCmp cLt (dVar 1) (dCB fLenR (aCons (dVar 0) aNil)))) (sSet 2 (dCB fInt (aCons (dIxR (dVar 0) (dVar 1)) aNil))) sNext)
    (sRetL K (aCons (dVar 2) (aCons (dC (.int 0)) (aCons (dCB fInt (aCons (dChain cLe cLt (dC (.int 0)) (dVar 2) (dPow (dC (.int 10)) (dC (.int 18)))) aNil)) (aCons (dVar 1) aNil)))))))
def td_law_draw (K : PySem.W.Frag) (a : Ad) : DTS (nf a) :=
    (sSeq (sLAug K 0 1 (dC (.int 1)))
    (sSeq (sIf (dBv (dEqG false (dIxV K 0 (dC (.int 2))) (dC (.int 0)))) (sSeq (sSet 2 (dMod (dCB fInt (aCons (dIxV K 0 (dC (.int 0))) aNil)) (dVar 1)))
    (sSeq (sLPut K 0 (dC (.int 0)) (dDiv (dCB fInt (aCons (dIxV K 0 (dC (.int 0))) aNil)) (dVar 1)))
    (sRet (dVar 2)))) sNext)
    (sSeq (sSet 3 (dF ixD (dLst (aCons (dC (.int 2147483647)) (aCons (dC (.int 2147483629)) (aCons (dC (.int 2147483587)) (aCons (dC (.int 2147483579)) (aCons (dC (.int 2147483563)) aNil)))))) (dMod (dCB fInt (aCons (dIxV K 0 (dC (.int 1))) aNil)) (dC (.int 5)))))
    (sSeq (sSet 4 (dF addD (dIxV K 0 (dC (.int 0))) (dMul (dIxV K 0 (dC (.int 1))) (dC (.int 48271)))))
    (sSeq (sSet 5 (dMod (dCB fInt (aCons (dPow (dF addD (dF addD (dVar 4) (dMul (dIxV K 0 (dC (.int 3))) (dC (.int 104729)))) (dC (.int 40692))) (dC (.int 5))) aNil)) (dVar 3)))
    (sRet (dMod (dCB fInt (aCons (dDiv (dVar 5) (dC (.int 64))) aNil)) (dVar 1))))))))
def td_law_kept (K : PySem.W.Frag) (a : Ad) : DTS (nf a) :=
    (sSeq (sSet 0 (dC (.str "name flag slot func open own look bind call keep take shift run drop ")))
    (sRet (dSplit (dF addD (dVar 0) (dC (.str "apart when held fail guard else after end with of on off"))) (dC (.str " ")))))
def td_law_signs (K : PySem.W.Frag) (a : Ad) : DTS (nf a) :=
    (sRet (dC (.str "abcdefghijklmnopqrstuvwxyz0123456789")))
def td_law_spelled (K : PySem.W.Frag) (a : Ad) : DTS (nf a) :=
    (sSeq (sSet 2 (dCall 2 (S_law_draw K a) [] (mSlot 0 (mVal (dC (.int 5)) mNil))))
    (sSeq (sSet 3 (dF addD (dC (.int 1)) (dCall 2 (S_law_draw K a) [] (mSlot 0 (mVal (dC (.int 12)) mNil)))))
    (sSeqC (sIf (dBv (dEqG false (dVar 2) (dC (.int 0)))) (sSet 3 (dC (.int 1))) sNext)
    (sSeq (sIf (dBv (dEqG false (dVar 2) (dC (.int 1)))) (sRet (dF addD (dF ixD (dCall 0 (S_law_kept a) [] mNil) (dCall 2 (S_law_draw K a) [] (mSlot 0 (mVal (dC (.int 26)) mNil)))) (dF ixD (dCall 0 (S_law_signs a) [] mNil) (dCall 2 (S_law_draw K a) [] (mSlot 0 (mVal (dC (.int 36)) mNil)))))) sNext)
    (sSeqC (sIf (dAnd (dBv (dEqG false (dVar 2) (dC (.int 2)))) (dBv (dEqG true (dVar 1) (dLst aNil)))) (sSeq (sSet 4 (dF ixD (dVar 1) (dCall 2 (S_law_draw K a) [] (mSlot 0 (mVal (dCB fLenG (aCons (dVar 1) aNil)) mNil)))))
    (sSeq (sSet 5 (dCall 2 (S_law_draw K a) [] (mSlot 0 (mVal (dCB fLenG (aCons (dVar 4) aNil)) mNil))))
    (sRet (dF addD (dF addD (dSlS (dVar 4) oNone (oSome (dVar 5))) (dF ixD (dCall 0 (S_law_signs a) [] mNil) (dCall 2 (S_law_draw K a) [] (mSlot 0 (mVal (dC (.int 26)) mNil))))) (dSlS (dVar 4) (oSome (dF addD (dVar 5) (dC (.int 1)))) oNone))))) sNext)
    (sSeq (sSet 4 (dF ixD (dCall 0 (S_law_signs a) [] mNil) (dCall 2 (S_law_draw K a) [] (mSlot 0 (mVal (dC (.int 26)) mNil)))))
    (sSeq (sFor (iR1 (aCons (dSub (dVar 3) (dC (.int 1))) aNil)) (gN 5) (sSet 4 (dF addD (dVar 4) (dF ixD (dCall 0 (S_law_signs a) [] mNil) (dCall 2 (S_law_draw K a) [] (mSlot 0 (mVal (dC (.int 36)) mNil)))))))
    (sRet (dVar 4)))))))))
def td_law_ident (K : PySem.W.Frag) (a : Ad) : DTS (nf a) :=
    (sSeq (sSet 2 (dCall 2 (S_law_spelled K a) [] (mSlot 0 (mVal (dVar 1) mNil))))
    (sSeq (sIf (dAnd (dBv (dF ninF (dVar 2) (dVar 1))) (dBv (dF ninF (dVar 2) (dCall 0 (S_law_kept a) [] mNil)))) (sRet (dVar 2)) sNext)
    (sSeq (sFor (iR1 (aCons (dF addD (dCB fLenG (aCons (dVar 1) aNil)) (dC (.int 1))) aNil)) (gN 3) (sIf (dBv (dF ninF (dF addD (dSlS (dVar 2) oNone (oSome (dC (.int 9)))) (dCB fStrI (aCons (dVar 3) aNil))) (dVar 1))) (sRet (dF addD (dSlS (dVar 2) oNone (oSome (dC (.int 9)))) (dCB fStrI (aCons (dVar 3) aNil)))) sNext))
    (sRet (dVar 2)))))
def td_law_word (K : PySem.W.Frag) (a : Ad) : DTS (nf a) :=
    (sSeq (sIf (dBv (dEqG false (dCall 2 (S_law_draw K a) [] (mSlot 0 (mVal (dC (.int 4)) mNil))) (dC (.int 0)))) (sRet (dF ixD (dCall 0 (S_law_kept a) [] mNil) (dCall 2 (S_law_draw K a) [] (mSlot 0 (mVal (dC (.int 26)) mNil))))) sNext)
    (sSeq (sSet 1 (dF addD (dC (.int 1)) (dCall 2 (S_law_draw K a) [] (mSlot 0 (mVal (dC (.int 12)) mNil)))))
    (sSeq (sSet 2 (dC (.str "")))
    (sSeq (sFor (iR1 (aCons (dVar 1) aNil)) (gN 3) (sSet 2 (dF addD (dVar 2) (dF ixD (dCall 0 (S_law_signs a) [] mNil) (dCall 2 (S_law_draw K a) [] (mSlot 0 (mVal (dC (.int 36)) mNil)))))))
    (sRet (dVar 2))))))
def td_law_heads (K : PySem.W.Frag) (a : Ad) : DTS (nf a) :=
    (sSeq (sCallO 2 (S_law_tape K a) [] (mVal (dVar 0) (mVal (dC (.int 0)) mNil)) 2)
    (sSeq (sSetL K 3 (aCons (dC (.str "func")) aNil))
    (sSeq (sFor (iR1 (aCons (dCall 2 (S_law_draw K a) [] (mSlot 2 (mVal (dVar 1) mNil))) aNil)) (gN 4) (sIns K 3 (aCons (dCall 2 (S_law_draw K a) [] (mSlot 2 (mVal (dF addD (dLenV K 3) (dC (.int 1))) mNil))) (aCons (dF ixD (dLst (aCons (dC (.str "slot")) (aCons (dC (.str "func")) aNil))) (dCall 2 (S_law_draw K a) [] (mSlot 2 (mVal (dC (.int 2)) mNil)))) aNil))))
    (sSeq (sIns K 3 (aCons (dCall 2 (S_law_draw K a) [] (mSlot 2 (mVal (dF addD (dLenV K 3) (dC (.int 1))) mNil))) (aCons (dC (.str "name")) aNil)))
    (sSeq (sFor (iR1 (aCons (dCall 2 (S_law_draw K a) [] (mSlot 2 (mVal (dC (.int 4)) mNil))) aNil)) (gN 4) (sIns K 3 (aCons (dCall 2 (S_law_draw K a) [] (mSlot 2 (mVal (dF addD (dLenV K 3) (dC (.int 1))) mNil))) (aCons (dF ixD (dLst (aCons (dC (.str "name")) (aCons (dC (.str "flag")) aNil))) (dCall 2 (S_law_draw K a) [] (mSlot 2 (mVal (dC (.int 2)) mNil)))) aNil))))
    (sSeq (sSetL K 5 aNil)
    (sSeq (sFor (iL (dVarF K 3)) (gN 6) (fun De env => (∃ v xs, env[5]? = some (SD.ow v (lstA K (nf a) xs))) ∧ sApp K 5 (dTup (aCons (dVar 6) (aCons (dCall 2 (S_law_ident K a) [] (mSlot 2 (mVal (dLcV K 5 (gN 7) dYes (dF ixD (dVar 7) (dC (.int 1))) [7]) mNil))) aNil))) De env))
    (sRet (dVarF K 5)))))))))
def td_law_idents (K : PySem.W.Frag) (a : Ad) : DTS (nf a) :=
    (sRet (dLc (iL (dVar 0)) (gN 2) (dBv (dF (inF false) (dF ixD (dVar 2) (dC (.int 0))) (dVar 1))) (dF ixD (dVar 2) (dC (.int 1))) [2]))
def td_law_pick (K : PySem.W.Frag) (a : Ad) : DTS (nf a) :=
    (sRet (dF ixD (dVar 1) (dCall 2 (S_law_draw K a) [] (mSlot 0 (mVal (dCB fLenG (aCons (dVar 1) aNil)) mNil)))))
def td_law_captured (K : PySem.W.Frag) (a : Ad) : DTS (nf a) :=
    (sSeq (sSet 2 (dCall 2 (S_law_idents a) [] (mVal (dVar 1) (mVal (dTup (aCons (dC (.str "name")) (aCons (dC (.str "flag")) aNil))) mNil))))
    (sSeq (sSet 3 (dLc (iL (dVar 2)) (gN 4) (dBv (dEqG false (dCall 2 (S_law_draw K a) [] (mSlot 0 (mVal (dC (.int 2)) mNil))) (dC (.int 1)))) (dVar 4) [4]))
    (sSeq (sIf (dBv (dEqG false (dCall 2 (S_law_draw K a) [] (mSlot 0 (mVal (dC (.int 2)) mNil))) (dC (.int 1)))) (sRet (dTupRev (dCB fList (aCons (dVar 3) aNil)))) sNext)
    (sRet (dCB fTuple (aCons (dVar 3) aNil))))))
def td_law_pairs_above (K : PySem.W.Frag) (a : Ad) : DTS (nf a) :=
    (sSeq (sSetL K 3 aNil)
    (sSeq (sFor (iR1 (aCons (dCB fLenG (aCons (dVar 0) aNil)) aNil)) (gN 4) (sSeq (sSet 5 (dLc (iL (dSlL (dVar 0) oNone (oSome (dVar 4)))) (gN 6) (dBv (dEqG false (dF ixD (dVar 6) (dC (.int 0))) (dVar 1))) (dF ixD (dVar 6) (dC (.int 1))) [6]))
    (sIf (dBv (dEqG false (dF ixD (dF ixD (dVar 0) (dVar 4)) (dC (.int 0))) (dVar 2))) (sExt K 3 (dLc (iL (dVar 5)) (gN 7) dYes (dTup (aCons (dF ixD (dF ixD (dVar 0) (dVar 4)) (dC (.int 1))) (aCons (dVar 7) aNil))) [7])) sNext)))
    (sRet (dVarF K 3))))
def td_law_slot_statement (K : PySem.W.Frag) (a : Ad) : DTS (nf a) :=
    (sSeq (sSet 4 (dCall 2 (S_law_idents a) [] (mVal (dVar 1) (mVal (dTup (aCons (dC (.str "slot")) aNil)) mNil))))
    (sSeq (sSet 5 (dCall 3 (S_law_pairs_above a) [] (mVal (dVar 1) (mVal (dC (.str "func")) (mVal (dC (.str "slot")) mNil)))))
    (sSeq (sSet 6 (dCall 3 (S_law_pairs_above a) [] (mVal (dVar 1) (mVal (dC (.str "slot")) (mVal (dC (.str "slot")) mNil)))))
    (sSeq (sIf (dAnd (dBv (dEqG false (dVar 3) (dC (.str "keep")))) (dBv (dEqG true (dVar 5) (dLst aNil)))) (sSeq (sSet 7 (dCall 2 (S_law_pick K a) [] (mSlot 0 (mVal (dVar 5) mNil))))
    (sRet (dTup (aCons (dC (.str "keep")) (aCons (dF ixD (dVar 7) (dC (.int 0))) (aCons (dF ixD (dVar 7) (dC (.int 1))) (aCons (dCall 2 (S_law_captured K a) [] (mSlot 0 (mVal (dVar 1) mNil))) aNil))))))) sNext)
    (sSeq (sIf (dAnd (dBv (dEqG false (dVar 3) (dC (.str "shift")))) (dBv (dEqG true (dVar 6) (dLst aNil)))) (sSeq (sSet 7 (dCall 2 (S_law_pick K a) [] (mSlot 0 (mVal (dVar 6) mNil))))
    (sRet (dTup (aCons (dC (.str "shift")) (aCons (dF ixD (dVar 7) (dC (.int 1))) (aCons (dF ixD (dVar 7) (dC (.int 0))) (aCons (dCall 2 (S_law_captured K a) [] (mSlot 0 (mVal (dVar 1) mNil))) aNil))))))) sNext)
    (sSeq (sIf (dAnd (dBv (dEqG false (dVar 3) (dC (.str "take")))) (dBv (dEqG true (dVar 4) (dLst aNil)))) (sRet (dTup (aCons (dC (.str "take")) (aCons (dCall 2 (S_law_pick K a) [] (mSlot 0 (mVal (dVar 4) mNil))) (aCons (dCall 2 (S_law_captured K a) [] (mSlot 0 (mVal (dVar 1) mNil))) aNil))))) sNext)
    (sSeq (sIf (dAnd (dBv (dEqG false (dVar 3) (dC (.str "drop")))) (dBv (dEqG true (dVar 4) (dLst aNil)))) (sRet (dTup (aCons (dC (.str "drop")) (aCons (dCall 2 (S_law_pick K a) [] (mSlot 0 (mVal (dVar 4) mNil))) aNil)))) sNext)
    (sSeq (sIf (dAnd (dBv (dEqG false (dVar 3) (dC (.str "run")))) (dBv (dEqG true (dCall 2 (S_law_idents a) [] (mVal (dVar 2) (mVal (dTup (aCons (dC (.str "slot")) aNil)) mNil))) (dLst aNil)))) (sRet (dTup (aCons (dC (.str "run")) (aCons (dCall 2 (S_law_pick K a) [] (mSlot 0 (mVal (dCall 2 (S_law_idents a) [] (mVal (dVar 2) (mVal (dTup (aCons (dC (.str "slot")) aNil)) mNil))) mNil))) aNil)))) sNext)
    (sSeq (sIf (dAnd (dBv (dEqG false (dVar 3) (dC (.str "call")))) (dBv (dEqG true (dCall 2 (S_law_idents a) [] (mVal (dVar 2) (mVal (dTup (aCons (dC (.str "func")) aNil)) mNil))) (dLst aNil)))) (sRet (dTup (aCons (dC (.str "call")) (aCons (dCall 2 (S_law_pick K a) [] (mSlot 0 (mVal (dCall 2 (S_law_idents a) [] (mVal (dVar 2) (mVal (dTup (aCons (dC (.str "func")) aNil)) mNil))) mNil))) aNil)))) sNext)
    (sRet (dTup (aCons (dC (.str "fail")) aNil))))))))))))
def td_law_bind (K : PySem.W.Frag) (a : Ad) : DTS (nf a) :=
    (sSeq (sSet 3 (dCall 2 (S_law_pick K a) [] (mSlot 0 (mVal (dCall 2 (S_law_idents a) [] (mVal (dVar 1) (mVal (dTup (aCons (dC (.str "name")) (aCons (dC (.str "flag")) aNil))) mNil))) mNil))))
    (sSeq (sSet 4 (dF ixD (dLc (iL (dVar 1)) (gN 5) (dBv (dEqG false (dF ixD (dVar 5) (dC (.int 1))) (dVar 3))) (dF ixD (dVar 5) (dC (.int 0))) [5]) (dC (.int 0))))
    (sSeq (sIf (dBv (dEqG false (dCall 2 (S_law_draw K a) [] (mSlot 0 (mVal (dC (.int 2)) mNil))) (dC (.int 1)))) (sRet (dTup (aCons (dC (.str "bind")) (aCons (dVar 3) (aCons (dTup (aCons (dC (.str "of")) (aCons (dCall 2 (S_law_pick K a) [] (mSlot 0 (mVal (dCall 2 (S_law_idents a) [] (mVal (dVar 1) (mVal (dTup (aCons (dVar 4) aNil)) mNil))) mNil))) aNil))) (aCons (dVar 2) aNil)))))) sNext)
    (sSeq (sSet 6 (dF ixD (dLst (aCons (dC (.str "on")) (aCons (dC (.str "off")) aNil))) (dCall 2 (S_law_draw K a) [] (mSlot 0 (mVal (dC (.int 2)) mNil)))))
    (sSeq (sIf (dBv (dEqG false (dVar 4) (dC (.str "name")))) (sSet 6 (dCall 1 (S_law_word K a) [] (mSlot 0 mNil))) sNext)
    (sRet (dTup (aCons (dC (.str "bind")) (aCons (dVar 3) (aCons (dTup (aCons (dC (.str "word")) (aCons (dVar 6) aNil))) (aCons (dVar 2) aNil)))))))))))
def td_law_block (K : PySem.W.Frag) (a : Ad) (n : Nat) : DTS (nf a) :=
    (sSeq (sSet 5 (dCall 4 (S_law_rows K a n) [] (mSlot 0 (mVal (dVar 1) (mVal (dVar 2) (mVal (dF addD (dVar 4) (dC (.int 1))) mNil))))))
    (sSeq (sIf (dBv (dEqG false (dVar 3) (dC (.str "bind")))) (sRet (dCall 3 (S_law_bind K a) [] (mSlot 0 (mVal (dVar 1) (mVal (dVar 5) mNil))))) sNext)
    (sSeq (sIf (dBv (dEqG false (dVar 3) (dC (.str "guard")))) (sRet (dTup (aCons (dC (.str "guard")) (aCons (dVar 5) (aCons (dCall 4 (S_law_rows K a n) [] (mSlot 0 (mVal (dVar 1) (mVal (dVar 2) (mVal (dF addD (dVar 4) (dC (.int 1))) mNil))))) aNil))))) sNext)
    (sSeq (sIf (dAnd (dBv (dEqG false (dVar 3) (dC (.str "when")))) (dBv (dEqG true (dCall 2 (S_law_idents a) [] (mVal (dVar 1) (mVal (dTup (aCons (dC (.str "flag")) aNil)) mNil))) (dLst aNil)))) (sSeq (sSet 6 (dCall 2 (S_law_pick K a) [] (mSlot 0 (mVal (dCall 2 (S_law_idents a) [] (mVal (dVar 1) (mVal (dTup (aCons (dC (.str "flag")) aNil)) mNil))) mNil))))
    (sRet (dTup (aCons (dC (.str "when")) (aCons (dVar 6) (aCons (dVar 5) (aCons (dCall 4 (S_law_rows K a n) [] (mSlot 0 (mVal (dVar 1) (mVal (dVar 2) (mVal (dF addD (dVar 4) (dC (.int 1))) mNil))))) aNil))))))) sNext)
    (sSeq (sIf (dAnd (dBv (dEqG false (dVar 3) (dC (.str "held")))) (dBv (dEqG true (dCall 2 (S_law_idents a) [] (mVal (dVar 1) (mVal (dTup (aCons (dC (.str "slot")) aNil)) mNil))) (dLst aNil)))) (sSeq (sSet 7 (dCall 2 (S_law_pick K a) [] (mSlot 0 (mVal (dCall 2 (S_law_idents a) [] (mVal (dVar 1) (mVal (dTup (aCons (dC (.str "slot")) aNil)) mNil))) mNil))))
    (sRet (dTup (aCons (dC (.str "held")) (aCons (dVar 7) (aCons (dVar 5) (aCons (dCall 4 (S_law_rows K a n) [] (mSlot 0 (mVal (dVar 1) (mVal (dVar 2) (mVal (dF addD (dVar 4) (dC (.int 1))) mNil))))) aNil))))))) sNext)
    (sRet (dTup (aCons (dC (.str "apart")) (aCons (dVar 5) aNil)))))))))
def td_law_statement (K : PySem.W.Frag) (a : Ad) (n : Nat) : DTS (nf a) :=
    (sSeq (sSet 4 (dLst (aCons (dC (.str "look")) (aCons (dC (.str "keep")) (aCons (dC (.str "shift")) (aCons (dC (.str "take")) (aCons (dC (.str "drop")) (aCons (dC (.str "run")) (aCons (dC (.str "call")) (aCons (dC (.str "fail")) aNil))))))))))
    (sSeq (sSet 4 (dF addD (dVar 4) (dLst (aCons (dC (.str "bind")) (aCons (dC (.str "guard")) (aCons (dC (.str "when")) (aCons (dC (.str "held")) (aCons (dC (.str "apart")) aNil))))))))
    (sSeq (sSet 5 (dCall 2 (S_law_pick K a) [] (mSlot 0 (mVal (dVar 4) mNil))))
    (sSeq (sIf (dOr (dBv (dEqG false (dVar 5) (dC (.str "look")))) (dAnd (dBv (dEqG false (dVar 3) (dC (.int 2)))) (dBv (dF (inF false) (dVar 5) (dSlL (dVar 4) (oSome (dC (.int 8))) oNone))))) (sRet (dTup (aCons (dC (.str "look")) (aCons (dCall 1 (S_law_word K a) [] (mSlot 0 mNil)) (aCons (dCall 2 (S_law_pick K a) [] (mSlot 0 (mVal (dCall 2 (S_law_idents a) [] (mVal (dVar 1) (mVal (dTup (aCons (dC (.str "name")) aNil)) mNil))) mNil))) aNil))))) sNext)
    (sSeq (sIf (dBv (dF (inF false) (dVar 5) (dSlL (dVar 4) (oSome (dC (.int 8))) oNone))) (sRet (dCall 5 (S_law_block K a n) [] (mSlot 0 (mVal (dVar 1) (mVal (dVar 2) (mVal (dVar 5) (mVal (dVar 3) mNil))))))) sNext)
    (sRet (dCall 4 (S_law_slot_statement K a) [] (mSlot 0 (mVal (dVar 1) (mVal (dVar 2) (mVal (dVar 5) mNil)))))))))))
def td_law_rows (K : PySem.W.Frag) (a : Ad) (n : Nat) : DTS (nf a) :=
    (sSeq (sSetL K 4 aNil)
    (sSeq (sFor (iR1 (aCons (dCall 2 (S_law_draw K a) [] (mSlot 0 (mVal (dSub (dC (.int 4)) (dVar 3)) mNil))) aNil)) (gN 5) (fun De env => (∃ v xs, env[4]? = some (SD.ow v (lstA K (nf a) xs))) ∧ sApp K 4 (dCall 4 (S_law_statement K a n) [] (mSlot 0 (mVal (dVar 1) (mVal (dVar 2) (mVal (dVar 3) mNil))))) De env))
    (sRet (dCB fTuple (aCons (dVarF K 4) aNil)))))
def td_law_function (K : PySem.W.Frag) (a : Ad) : DTS (nf a) :=
    (sSeq (sSet 3 (dCall 4 (S_law_rows K a 12) [] (mSlot 0 (mVal (dVar 1) (mVal (dSlL (dVar 1) oNone (oSome (dVar 2))) (mVal (dC (.int 0)) mNil))))))
    (sSeq (sFor (iR1 (aCons (dMul (dCall 2 (S_law_draw K a) [] (mSlot 0 (mVal (dC (.int 7)) mNil))) (dCB fInt (aCons (dEqG false (dCall 2 (S_law_draw K a) [] (mSlot 0 (mVal (dC (.int 3)) mNil))) (dC (.int 1))) aNil))) aNil)) (gN 4) (sIf (dBv (dEqG false (dCall 2 (S_law_draw K a) [] (mSlot 0 (mVal (dC (.int 2)) mNil))) (dC (.int 0)))) (sSet 3 (dTup (aCons (dCall 3 (S_law_bind K a) [] (mSlot 0 (mVal (dVar 1) (mVal (dVar 3) mNil)))) aNil))) (sSet 3 (dTup (aCons (dTup (aCons (dC (.str "guard")) (aCons (dVar 3) (aCons (dTup aNil) aNil)))) aNil)))))
    (sRet (dVar 3))))
def td_law_parts (K : PySem.W.Frag) (a : Ad) : DTS (nf a) :=
    (sSeq (sSet 2 (dCall 2 (S_law_heads a) [] (mVal (dVar 0) (mVal (dVar 1) mNil))))
    (sSeq (sSetL K 3 aNil)
    (sSeq (sFor (iR1 (aCons (dCB fLenG (aCons (dVar 2) aNil)) aNil)) (gN 4) (sSeq (sCallO 2 (S_law_tape K a) [] (mVal (dVar 0) (mVal (dF addD (dC (.int 1)) (dVar 4)) mNil)) 5)
    (sSeq (sAsg (dF ixD (dVar 2) (dVar 4)) (gT 2 (gsCons (gN 6) (gsCons (gN 7) gsNil))))
    (sIf (dBv (dEqG false (dVar 6) (dC (.str "name")))) (fun De env => (∃ v xs, env[3]? = some (SD.ow v (lstA K (nf a) xs))) ∧ sApp K 3 (dTup (aCons (dC (.str "name")) (aCons (dVar 7) (aCons (dCall 1 (S_law_word K a) [] (mSlot 5 mNil)) aNil)))) De env) (sIf (dBv (dEqG false (dVar 6) (dC (.str "flag")))) (fun De env => (∃ v xs, env[3]? = some (SD.ow v (lstA K (nf a) xs))) ∧ sApp K 3 (dTup (aCons (dC (.str "flag")) (aCons (dVar 7) (aCons (dF ixD (dLst (aCons (dC (.str "on")) (aCons (dC (.str "off")) aNil))) (dCall 2 (S_law_draw K a) [] (mSlot 5 (mVal (dC (.int 2)) mNil)))) aNil)))) De env) (sIf (dBv (dEqG false (dVar 6) (dC (.str "slot")))) (fun De env => (∃ v xs, env[3]? = some (SD.ow v (lstA K (nf a) xs))) ∧ sApp K 3 (dTup (aCons (dC (.str "slot")) (aCons (dVar 7) (aCons (dF ixD (dLst (aCons (dC (.str "open")) (aCons (dC (.str "own")) aNil))) (dCall 2 (S_law_draw K a) [] (mSlot 5 (mVal (dC (.int 2)) mNil)))) aNil)))) De env) (sSeq (sSet 8 (dF ixD (dLst (aCons (dC (.str "open")) (aCons (dC (.str "own")) aNil))) (dCall 2 (S_law_draw K a) [] (mSlot 5 (mVal (dC (.int 2)) mNil)))))
    (fun De env => (∃ v xs, env[3]? = some (SD.ow v (lstA K (nf a) xs))) ∧ sApp K 3 (dTup (aCons (dC (.str "func")) (aCons (dVar 7) (aCons (dVar 8) (aCons (dCall 3 (S_law_function K a) [] (mSlot 5 (mVal (dVar 2) (mVal (dVar 4) mNil)))) aNil))))) De env))))))))
    (sRet (dCB fTuple (aCons (dVarF K 3) aNil))))))
def td_law_blocks (K : PySem.W.Frag) (a : Ad) : DTS (nf a) :=
    (sSeq (sIf (dBv (dF (inF false) (dF ixD (dVar 0) (dC (.int 0))) (dTup (aCons (dC (.str "bind")) (aCons (dC (.str "apart")) aNil))))) (sRet (dLst (aCons (dF ixD (dVar 0) (dNeg (dC (.int 1)))) aNil))) sNext)
    (sSeq (sIf (dBv (dF (inF false) (dF ixD (dVar 0) (dC (.int 0))) (dTup (aCons (dC (.str "when")) (aCons (dC (.str "held")) (aCons (dC (.str "guard")) aNil)))))) (sRet (dLst (aCons (dF ixD (dVar 0) (dNeg (dC (.int 2)))) (aCons (dF ixD (dVar 0) (dNeg (dC (.int 1)))) aNil)))) sNext)
    (sRet (dLst aNil))))
def td_law_listed_rows (K : PySem.W.Frag) (a : Ad) (n : Nat) : DTS (nf a) :=
    (sSeq (sFor (iT (dVar 1)) (gN 4) (sSeq (fun De env => (∃ v xs, env[0]? = some (SD.ow v (lstA K (nf a) xs))) ∧ sApp K 0 (dTup (aCons (dVar 2) (aCons (dVar 3) (aCons (dVar 4) aNil)))) De env)
    (sSeq (sAugI 2 (dC (.int 1)))
    (sSeq (sSet 5 (dCall 1 (S_law_blocks a) [] (mVal (dVar 4) mNil)))
    (sSeq (sFor (iR1 (aCons (dCB fLenG (aCons (dVar 5) aNil)) aNil)) (gN 6) (sSeq (sAugI 2 (dCB fInt (aCons (dAndV (dEqG false (dVar 6) (dC (.int 1))) (dEqG true (dF ixD (dVar 5) (dC (.int 1))) (dTup aNil))) aNil)))
    (sSet 2 (dCall 4 (S_law_listed_rows K a n) [] (mSlot 0 (mVal (dF ixD (dVar 5) (dVar 6)) (mVal (dVar 2) (mVal (dVar 3) mNil))))))))
    (sAugI 2 (dCB fInt (aCons (dEqG true (dVar 5) (dLst aNil)) aNil))))))))
    (sRet (dVar 2)))
def td_law_listed (K : PySem.W.Frag) (a : Ad) : DTS (nf a) :=
    (sSeq (sSetL K 1 aNil)
    (sSeq (sSet 2 (dC (.int 1)))
    (sSeq (sFor (iR1 (aCons (dCB fLenG (aCons (dVar 0) aNil)) aNil)) (gN 3) (sSeq (fun De env => (∃ v xs, env[1]? = some (SD.ow v (lstA K (nf a) xs))) ∧ sApp K 1 (dTup (aCons (dVar 2) (aCons (dVar 3) (aCons (dF ixD (dVar 0) (dVar 3)) aNil)))) De env)
    (sSeq (sAugI 2 (dC (.int 1)))
    (sIf (dBv (dEqG false (dF ixD (dF ixD (dVar 0) (dVar 3)) (dC (.int 0))) (dC (.str "func")))) (sSet 2 (dF addD (dCall 4 (S_law_listed_rows K a 12) [] (mSlot 1 (mVal (dF ixD (dF ixD (dVar 0) (dVar 3)) (dC (.int 3))) (mVal (dVar 2) (mVal (dVar 3) mNil))))) (dC (.int 1)))) sNext))))
    (sRet (dVarF K 1)))))
def td_law_due (K : PySem.W.Frag) (a : Ad) : DTS (nf a) :=
    (sSeq (sSet 1 (dLc (iT (dVar 0)) (gN 2) (dBv (dF (inF false) (dF ixD (dVar 2) (dC (.int 0))) (dTup (aCons (dC (.str "name")) (aCons (dC (.str "flag")) aNil))))) (dF ixD (dVar 2) (dC (.int 1))) [2]))
    (sSeq (sSetL K 3 aNil)
    (sSeq (sFor (iL (dCall 1 (S_law_listed a) [] (mVal (dVar 0) mNil))) (gT 3 (gsCons (gN 4) (gsCons (gN 5) (gsCons (gN 6) gsNil)))) (sIf (dBv (dF (inF false) (dF ixD (dVar 6) (dC (.int 0))) (dTup (aCons (dC (.str "keep")) (aCons (dC (.str "take")) (aCons (dC (.str "shift")) aNil)))))) (sSeq (sSet 7 (dIf (dBv (dEqG false (dF ixD (dVar 6) (dC (.int 0))) (dC (.str "shift")))) (dF ixD (dVar 6) (dC (.int 2))) (dF ixD (dVar 6) (dC (.int 1)))))
    (sSeq (sSet 8 (dCB fTuple (aCons (dLc (iL (dVar 1)) (gN 9) (dBv (dF (inF false) (dVar 9) (dF ixD (dVar 6) (dNeg (dC (.int 1)))))) (dVar 9) [9]) aNil)))
    (fun De env => (∃ v xs, env[3]? = some (SD.ow v (lstA K (nf a) xs))) ∧ sApp K 3 (dTup (aCons (dVar 4) (aCons (dF ixD (dVar 6) (dC (.int 0))) (aCons (dVar 7) (aCons (dVar 8) aNil))))) De env))) sNext))
    (sRet (dCB fTuple (aCons (dVarF K 3) aNil))))))
def td_law (K : PySem.W.Frag) (a : Ad) : DTS (nf a) :=
    (sSeq (sSet 1 (dCall 2 (S_law_parts a) [] (mVal (dVar 0) (mVal (dC (.int 6)) mNil))))
    (sSeq (sSet 2 (dCall 1 (S_keepings a) [] (mVal (dVar 1) mNil)))
    (sRet (dAndV (dCB (fIsi K) (aCons (dVar 2) (aCons (dC (.ty "tuple")) aNil))) (dAndV (dEqG false (dVar 2) (dCall 1 (S_law_due a) [] (mVal (dVar 1) mNil))) (dEqG false (dCall 1 (S_keepings a) [] (mVal (dCall 1 (S_check a) [] (mVal (dVar 1) mNil)) mNil)) (dVar 2)))))))
open PySem L2 DL
local macro_rules | `(tactic| walk_at "dn") => `(tactic| first | (simp only [List.set_cons_zero, List.set_cons_succ, List.map_cons, List.map_nil, List.append_nil, List.nil_append, List.cons_append, rs_v, rs_o, pb_nil, pb_v, pb_o, back_nil, back_fz, back_un, back_ow, wp_nil, wp_cons, List.getElem?_cons_zero, List.getElem?_cons_succ, Option.getD_some, stP1, stP2, stP3]; exact rfl) | exact rfl)
local macro_rules | `(tactic| walk_at "db") => `(tactic| repeat first | exact bo_nil | refine bo_fz ?_ | refine bo_un ?_ | refine bo_ow ?_ | refine bo_fr ?_)
local macro_rules | `(tactic| walk_at "dk") => `(tactic| first | exact kb1 | exact kb2 | exact kb3 | exact kb4 | exact kb5 | exact kb6)
local macro_rules | `(tactic| walk_at "da") => `(tactic| first | assumption | omega | decide | (exact Or.inl ⟨by omega, by omega⟩) | (exact Or.inr ⟨by omega, by omega⟩) | (exact ⟨by decide, by decide⟩) | (exact ⟨by decide, by decide, by omega⟩))
local macro_rules | `(tactic| walk_at "s1") => `(tactic| ((with_reducible refine' fnRtO_s ?e0 ?e1 ?_); (case e0 => walk_at "db"); (case e1 => walk_at "dn")))
local macro_rules | `(tactic| walk_at "s1") => `(tactic| ((with_reducible refine' fnRo_s ?e0 ?e1 ?_); (case e0 => walk_at "db"); (case e1 => walk_at "dn")))
local macro_rules | `(tactic| walk_at "s1") => `(tactic| ((with_reducible refine' fnNx_s ?e0 ?e1 ?_); (case e0 => walk_at "db"); (case e1 => walk_at "dn")))
local macro_rules | `(tactic| walk_at "s1") => `(tactic| ((with_reducible refine' fnRt_s ?e0 ?e1 ?_); (case e0 => walk_at "db"); (case e1 => walk_at "dn")))
local macro_rules | `(tactic| walk_at "s1") => `(tactic| ((with_reducible refine' ir2K_s ?e0 ?_); (case e0 => walk_at "da")))
local macro_rules | `(tactic| walk_at "s1") => `(tactic| ((with_reducible refine' ir1K_s ?e0 ?_); (case e0 => walk_at "da")))
local macro_rules | `(tactic| walk_at "s1") => `(tactic| ((with_reducible refine' makeK_s ?e0 ?e1 ?e2 ?e3 ?e4 ?e5 ?_); (case e0 => exact rfl); (case e1 => walk_at "dn"); (case e2 => walk_at "dz"); (case e3 => exact rfl); (case e4 => exact rfl); (case e5 => walk_at "dn")))
local macro_rules | `(tactic| walk_at "s1") => `(tactic| ((with_reducible refine' dcK_s ?e0 ?_); (case e0 => walk_at "dn")))
local macro_rules | `(tactic| walk_at "s1") => `(tactic| ((with_reducible refine' lcK_s ?e0 ?_); (case e0 => walk_at "dn")))
local macro_rules | `(tactic| walk_at "s1") => `(tactic| ((with_reducible refine' slSK_s ?e0 ?_); (case e0 => walk_at "da")))
local macro_rules | `(tactic| walk_at "s1") => `(tactic| ((with_reducible refine' cbLenS_s ?e0 ?_); (case e0 => walk_at "da")))
local macro_rules | `(tactic| walk_at "s1") => `(tactic| ((with_reducible refine' addL_s ?e0 ?_); (case e0 => walk_at "da")))
local macro_rules | `(tactic| walk_at "s1") => `(tactic| ((with_reducible refine' addS_s ?e0 ?_); (case e0 => walk_at "da")))
local macro_rules | `(tactic| walk_at "s1") => `(tactic| ((with_reducible refine' splK2_s ?e0 ?e1 ?_); (case e0 => decide); (case e1 => decide)))
local macro_rules | `(tactic| walk_at "s1") => `(tactic| ((with_reducible refine' isiDct_s ?e0 ?_); (case e0 => walk_at "dk")))
local macro_rules | `(tactic| walk_at "s1") => `(tactic| ((with_reducible refine' isiInt_s ?e0 ?_); (case e0 => walk_at "dk")))
local macro_rules | `(tactic| walk_at "s1") => `(tactic| ((with_reducible refine' isiStr_s ?e0 ?_); (case e0 => walk_at "dk")))
local macro_rules | `(tactic| walk_at "s1") => `(tactic| ((with_reducible refine' iteF_s ?e0 ?_); (case e0 => (first | exact rfl | assumption))))
local macro_rules | `(tactic| walk_at "s1") => `(tactic| ((with_reducible refine' iteT_s ?e0 ?_); (case e0 => (first | exact rfl | assumption))))
local macro_rules | `(tactic| walk_at "s1") => `(tactic| ((with_reducible refine' retStK_s ?e0 ?e1 ?_); (case e0 => exact rfl); (case e1 => walk_at "dn")))
local macro_rules | `(tactic| walk_at "s1") => `(tactic| ((with_reducible refine' sRetSt_s ?e0 ?_); (case e0 => exact rfl)))
local macro_rules | `(tactic| walk_at "s1") => `(tactic| ((with_reducible refine' sStPop_s ?e0 ?e1 ?_); (case e0 => exact rfl); (case e1 => walk_at "dn")))
local macro_rules | `(tactic| walk_at "s1") => `(tactic| ((with_reducible refine' stGK_s ?e0 ?e1 ?e2 ?_); (case e0 => exact rfl); (case e1 => walk_at "dn"); (case e2 => walk_at "dn")))
local macro_rules | `(tactic| walk_at "s1") => `(tactic| ((with_reducible refine' sStG_s ?e0 ?e1 ?e2 ?_); (case e0 => exact rfl); (case e1 => exact rfl); (case e2 => exact rfl)))
local macro_rules | `(tactic| walk_at "s1") => `(tactic| ((with_reducible refine' stSK_s ?e0 ?e1 ?e2 ?e3 ?_); (case e0 => exact rfl); (case e1 => exact rfl); (case e2 => walk_at "dn"); (case e3 => walk_at "dn")))
local macro_rules | `(tactic| walk_at "s1") => `(tactic| ((with_reducible refine' dStN_s ?e0 ?_); (case e0 => exact rfl)))
local macro_rules | `(tactic| walk_at "s1") => `(tactic| ((with_reducible refine' dStI_s ?e0 ?e1 ?_); (case e0 => exact rfl); (case e1 => exact rfl)))
local macro_rules | `(tactic| walk_at "s1") => `(tactic| ((with_reducible refine' putOK_s ?e0 ?_); (case e0 => walk_at "dn")))
local macro_rules | `(tactic| walk_at "s1") => `(tactic| ((with_reducible refine' callOK_s ?e0 ?e1 ?e2 ?e3 ?e4 ?e5 ?_); (case e0 => exact rfl); (case e1 => walk_at "dn"); (case e2 => exact rfl); (case e3 => exact rfl); (case e4 => exact rfl); (case e5 => walk_at "dn")))
local macro_rules | `(tactic| walk_at "s1") => `(tactic| ((with_reducible refine' mkK_s ?e0 ?_); (case e0 => walk_at "dn")))
local macro_rules | `(tactic| walk_at "s1") => `(tactic| ((with_reducible refine' putK_s ?e0 ?_); (case e0 => walk_at "dn")))
local macro_rules | `(tactic| walk_at "s1") => `(tactic| ((with_reducible refine' methK2_s ?e0 ?e1 ?e2 ?e3 ?e4 ?_); (case e0 => exact rfl); (case e1 => walk_at "dn"); (case e2 => exact rfl); (case e3 => exact rfl); (case e4 => walk_at "dn")))
local macro_rules | `(tactic| walk_at "s1") => `(tactic| ((with_reducible refine' methK_s ?e0 ?_); (case e0 => exact rfl)))
local macro_rules | `(tactic| walk_at "s1") => `(tactic| ((with_reducible refine' callK_s ?e0 ?e1 ?e2 ?e3 ?e4 ?_); (case e0 => exact rfl); (case e1 => walk_at "dn"); (case e2 => exact rfl); (case e3 => exact rfl); (case e4 => walk_at "dn")))
local macro_rules | `(tactic| walk_at "s1") => `(tactic| ((with_reducible refine' mSlot_s ?e0 ?e1 ?_); (case e0 => exact rfl); (case e1 => trivial)))
local macro_rules | `(tactic| walk_at "s1") => `(tactic| ((with_reducible refine' fldK_s ?e0 ?_); (case e0 => exact rfl)))
local macro_rules | `(tactic| walk_at "s1") => `(tactic| ((with_reducible refine' eqT_s ?e0 ?_); (case e0 => exact rfl)))
local macro_rules | `(tactic| walk_at "s1") => `(tactic| ((with_reducible refine' eqF_s ?e0 ?_); (case e0 => exact rfl)))
local macro_rules | `(tactic| walk_at "s1") => `(tactic| ((with_reducible refine' opI_s ?e0 ?_); (case e0 => walk_at "da")))
local macro_rules | `(tactic| walk_at "s1") => `(tactic| ((with_reducible refine' lenQ_s ?e0 ?_); (case e0 => exact rfl)))
local macro_rules | `(tactic| walk_at "s1") => `(tactic| ((with_reducible refine' dPutK_s ?e0 ?_); (case e0 => exact rfl)))
local macro_rules | `(tactic| walk_at "s1") => `(tactic| ((with_reducible refine' dVarFD_s ?e0 ?e1 ?_); (case e0 => exact rfl); (case e1 => walk_at "dn")))
local macro_rules | `(tactic| walk_at "s1") => `(tactic| ((with_reducible refine' dVarF_s ?e0 ?e1 ?_); (case e0 => exact rfl); (case e1 => walk_at "dn")))
local macro_rules | `(tactic| walk_at "s1") => `(tactic| ((with_reducible refine' appW_s ?e0 ?_); (case e0 => exact rfl)))
local macro_rules | `(tactic| walk_at "s1") => `(tactic| ((with_reducible refine' setDD_s ?e0 ?e1 ?_); (case e0 => exact rfl); (case e1 => (intro p; walk_at "dn"))))
local macro_rules | `(tactic| walk_at "s1") => `(tactic| ((with_reducible refine' sSetD0_s ?e0 ?e1 ?_); (case e0 => exact rfl); (case e1 => (intro p; walk_at "dn"))))
local macro_rules | `(tactic| walk_at "s1") => `(tactic| ((with_reducible refine' setL_s ?e0 ?e1 ?e2 ?_); (case e0 => exact rfl); (case e1 => exact rfl); (case e2 => (intro p; walk_at "dn"))))
local macro_rules | `(tactic| walk_at "s1") => `(tactic| ((with_reducible refine' gT_s ?e0 ?_); (case e0 => exact rfl)))
local macro_rules | `(tactic| walk_at "s1") => `(tactic| ((with_reducible refine' gN_s ?e0 ?e1 ?_); (case e0 => exact rfl); (case e1 => walk_at "dn")))
local macro_rules | `(tactic| walk_at "s1") => `(tactic| ((with_reducible refine' setK_s ?e0 ?e1 ?_); (case e0 => exact rfl); (case e1 => walk_at "dn")))
local macro_rules | `(tactic| walk_at "s1") => `(tactic| ((with_reducible refine' dPopV_s ?e0 ?_); (case e0 => exact rfl)))
local macro_rules | `(tactic| walk_at "s1") => `(tactic| ((with_reducible refine' dVarQo_s ?e0 ?e1 ?_); (case e0 => exact rfl); (case e1 => walk_at "dn")))
local macro_rules | `(tactic| walk_at "s1") => `(tactic| ((with_reducible refine' dVarQf_s ?e0 ?_); (case e0 => exact rfl)))
local macro_rules | `(tactic| walk_at "s1") => `(tactic| ((with_reducible refine' dVar_s ?e0 ?_); (case e0 => exact rfl)))
local macro_rules | `(tactic| walk_at "s1") => `(tactic| with_reducible refine isBT_s ?_)
local macro_rules | `(tactic| walk_at "s1") => `(tactic| with_reducible refine isBF_s ?_)
local macro_rules | `(tactic| walk_at "s1") => `(tactic| with_reducible refine dIsB_s ?_)
local macro_rules | `(tactic| walk_at "s1") => `(tactic| with_reducible refine dEqDG_s ?_)
local macro_rules | `(tactic| walk_at "s1") => `(tactic| with_reducible refine dInV_s ?_)
local macro_rules | `(tactic| walk_at "s1") => `(tactic| with_reducible refine dDc_s ?_)
local macro_rules | `(tactic| walk_at "s1") => `(tactic| with_reducible refine dLc_s ?_)
local macro_rules | `(tactic| walk_at "s1") => `(tactic| with_reducible refine iR2_s ?_)
local macro_rules | `(tactic| walk_at "s1") => `(tactic| with_reducible refine iR1_s ?_)
local macro_rules | `(tactic| walk_at "s1") => `(tactic| with_reducible refine ikvK_s ?_)
local macro_rules | `(tactic| walk_at "s1") => `(tactic| with_reducible refine iKV_s ?_)
local macro_rules | `(tactic| walk_at "s1") => `(tactic| with_reducible refine ikK_s ?_)
local macro_rules | `(tactic| walk_at "s1") => `(tactic| with_reducible refine iK_s ?_)
local macro_rules | `(tactic| walk_at "s1") => `(tactic| with_reducible refine isK_s ?_)
local macro_rules | `(tactic| walk_at "s1") => `(tactic| with_reducible refine iS_s ?_)
local macro_rules | `(tactic| walk_at "s1") => `(tactic| with_reducible refine itK_s ?_)
local macro_rules | `(tactic| walk_at "s1") => `(tactic| with_reducible refine iT_s ?_)
local macro_rules | `(tactic| walk_at "s1") => `(tactic| with_reducible refine ilS_s ?_)
local macro_rules | `(tactic| walk_at "s1") => `(tactic| with_reducible refine ilK_s ?_)
local macro_rules | `(tactic| walk_at "s1") => `(tactic| with_reducible refine iL_s ?_)
local macro_rules | `(tactic| walk_at "s1") => `(tactic| with_reducible refine forNil_s ?_)
local macro_rules | `(tactic| walk_at "s1") => `(tactic| with_reducible refine forCons_s ?_)
local macro_rules | `(tactic| walk_at "s1") => `(tactic| with_reducible refine sFor_s ?_)
local macro_rules | `(tactic| walk_at "s1") => `(tactic| with_reducible refine sFldS_s ?_)
local macro_rules | `(tactic| walk_at "s1") => `(tactic| with_reducible refine sCallO_s ?_)
local macro_rules | `(tactic| walk_at "s1") => `(tactic| with_reducible refine sStS_s ?_)
local macro_rules | `(tactic| walk_at "s1") => `(tactic| with_reducible refine dOwnOp_s ?_)
local macro_rules | `(tactic| walk_at "s1") => `(tactic| with_reducible refine dMake_s ?_)
local macro_rules | `(tactic| walk_at "s1") => `(tactic| with_reducible refine dMeth_s ?_)
local macro_rules | `(tactic| walk_at "s1") => `(tactic| with_reducible refine dCall_s ?_)
local macro_rules | `(tactic| walk_at "s1") => `(tactic| with_reducible refine mVal_s ?_)
local macro_rules | `(tactic| walk_at "s1") => `(tactic| with_reducible refine mNil_s ?_)
local macro_rules | `(tactic| walk_at "s1") => `(tactic| with_reducible refine dFld_s ?_)
local macro_rules | `(tactic| walk_at "s1") => `(tactic| with_reducible refine slLK_s ?_)
local macro_rules | `(tactic| walk_at "s1") => `(tactic| with_reducible refine dSlL_s ?_)
local macro_rules | `(tactic| walk_at "s1") => `(tactic| with_reducible refine dSlS_s ?_)
local macro_rules | `(tactic| walk_at "s1") => `(tactic| with_reducible refine ok'_s ?_)
local macro_rules | `(tactic| walk_at "s1") => `(tactic| with_reducible refine oSome_s ?_)
local macro_rules | `(tactic| walk_at "s1") => `(tactic| with_reducible refine oNone_s ?_)
local macro_rules | `(tactic| walk_at "s1") => `(tactic| with_reducible refine joinK_s ?_)
local macro_rules | `(tactic| walk_at "s1") => `(tactic| with_reducible refine dJoin_s ?_)
local macro_rules | `(tactic| walk_at "s1") => `(tactic| with_reducible refine splK_s ?_)
local macro_rules | `(tactic| walk_at "s1") => `(tactic| with_reducible refine dSplit_s ?_)
local macro_rules | `(tactic| walk_at "s1") => `(tactic| with_reducible refine dS2K_s ?_)
local macro_rules | `(tactic| walk_at "s1") => `(tactic| with_reducible refine dDS2_s ?_)
local macro_rules | `(tactic| walk_at "s1") => `(tactic| with_reducible refine itemsK_s ?_)
local macro_rules | `(tactic| walk_at "s1") => `(tactic| with_reducible refine dItems_s ?_)
local macro_rules | `(tactic| walk_at "s1") => `(tactic| with_reducible refine dSortS_s ?_)
local macro_rules | `(tactic| walk_at "s1") => `(tactic| with_reducible refine cbListD_s ?_)
local macro_rules | `(tactic| walk_at "s1") => `(tactic| with_reducible refine cbDict_s ?_)
local macro_rules | `(tactic| walk_at "s1") => `(tactic| with_reducible refine cbTupleT_s ?_)
local macro_rules | `(tactic| walk_at "s1") => `(tactic| with_reducible refine cbTuple_s ?_)
local macro_rules | `(tactic| walk_at "s1") => `(tactic| with_reducible refine cbListT_s ?_)
local macro_rules | `(tactic| walk_at "s1") => `(tactic| with_reducible refine cbList_s ?_)
local macro_rules | `(tactic| walk_at "s1") => `(tactic| with_reducible refine cbLenD_s ?_)
local macro_rules | `(tactic| walk_at "s1") => `(tactic| with_reducible refine cbLenT_s ?_)
local macro_rules | `(tactic| walk_at "s1") => `(tactic| with_reducible refine cbLenL_s ?_)
local macro_rules | `(tactic| walk_at "s1") => `(tactic| with_reducible refine cbAbs_s ?_)
local macro_rules | `(tactic| walk_at "s1") => `(tactic| with_reducible refine cbIntB_s ?_)
local macro_rules | `(tactic| walk_at "s1") => `(tactic| with_reducible refine cbInt_s ?_)
local macro_rules | `(tactic| walk_at "s1") => `(tactic| with_reducible refine dCB_s ?_)
local macro_rules | `(tactic| walk_at "s1") => `(tactic| with_reducible refine chK2_s ?_)
local macro_rules | `(tactic| walk_at "s1") => `(tactic| with_reducible refine chK_s ?_)
local macro_rules | `(tactic| walk_at "s1") => `(tactic| with_reducible refine dChain_s ?_)
local macro_rules | `(tactic| walk_at "s1") => `(tactic| with_reducible refine inS_s ?_)
local macro_rules | `(tactic| walk_at "s1") => `(tactic| with_reducible refine addI_s ?_)
local macro_rules | `(tactic| walk_at "s1") => `(tactic| with_reducible refine dF_s ?_)
local macro_rules | `(tactic| walk_at "s1") => `(tactic| with_reducible refine dEqG_s ?_)
local macro_rules | `(tactic| walk_at "s1") => `(tactic| with_reducible refine opI0_s ?_)
local macro_rules | `(tactic| walk_at "s1") => `(tactic| with_reducible refine dCmp_s ?_)
local macro_rules | `(tactic| walk_at "s1") => `(tactic| with_reducible refine dPow_s ?_)
local macro_rules | `(tactic| walk_at "s1") => `(tactic| with_reducible refine dDiv_s ?_)
local macro_rules | `(tactic| walk_at "s1") => `(tactic| with_reducible refine dMod_s ?_)
local macro_rules | `(tactic| walk_at "s1") => `(tactic| with_reducible refine dMul_s ?_)
local macro_rules | `(tactic| walk_at "s1") => `(tactic| with_reducible refine dSub_s ?_)
local macro_rules | `(tactic| walk_at "s1") => `(tactic| with_reducible refine dAdd_s ?_)
local macro_rules | `(tactic| walk_at "s1") => `(tactic| with_reducible refine dOp_s ?_)
local macro_rules | `(tactic| walk_at "s1") => `(tactic| with_reducible refine dD0_s ?_)
local macro_rules | `(tactic| walk_at "s1") => `(tactic| with_reducible refine dLst_s ?_)
local macro_rules | `(tactic| walk_at "s1") => `(tactic| with_reducible refine dTup_s ?_)
local macro_rules | `(tactic| walk_at "s1") => `(tactic| with_reducible refine aCons_s ?_)
local macro_rules | `(tactic| walk_at "s1") => `(tactic| with_reducible refine aNil_s ?_)
local macro_rules | `(tactic| walk_at "s1") => `(tactic| with_reducible refine dIsN_s ?_)
local macro_rules | `(tactic| walk_at "s1") => `(tactic| with_reducible refine dIf_s ?_)
local macro_rules | `(tactic| walk_at "s1") => `(tactic| with_reducible refine notVK_s ?_)
local macro_rules | `(tactic| walk_at "s1") => `(tactic| with_reducible refine orVK_s ?_)
local macro_rules | `(tactic| walk_at "s1") => `(tactic| with_reducible refine andVK_s ?_)
local macro_rules | `(tactic| walk_at "s1") => `(tactic| with_reducible refine dNotV_s ?_)
local macro_rules | `(tactic| walk_at "s1") => `(tactic| with_reducible refine dOrV_s ?_)
local macro_rules | `(tactic| walk_at "s1") => `(tactic| with_reducible refine dAndV_s ?_)
local macro_rules | `(tactic| walk_at "s1") => `(tactic| with_reducible refine dYes_s ?_)
local macro_rules | `(tactic| walk_at "s1") => `(tactic| with_reducible refine dOr_s ?_)
local macro_rules | `(tactic| walk_at "s1") => `(tactic| with_reducible refine dAnd_s ?_)
local macro_rules | `(tactic| walk_at "s1") => `(tactic| with_reducible refine dNot_s ?_)
local macro_rules | `(tactic| walk_at "s1") => `(tactic| with_reducible refine bvK_s ?_)
local macro_rules | `(tactic| walk_at "s1") => `(tactic| with_reducible refine dBv_s ?_)
local macro_rules | `(tactic| walk_at "s1") => `(tactic| with_reducible refine dC_s ?_)
local macro_rules | `(tactic| walk_at "s1") => `(tactic| with_reducible refine sDPutV_s ?_)
local macro_rules | `(tactic| walk_at "s1") => `(tactic| with_reducible refine sSetDD_s ?_)
local macro_rules | `(tactic| walk_at "s1") => `(tactic| with_reducible refine sSetL_s ?_)
local macro_rules | `(tactic| walk_at "s1") => `(tactic| with_reducible refine gsCons_s ?_)
local macro_rules | `(tactic| walk_at "s1") => `(tactic| with_reducible refine gsNil_s ?_)
local macro_rules | `(tactic| walk_at "s1") => `(tactic| with_reducible refine sAsg_s ?_)
local macro_rules | `(tactic| walk_at "s1") => `(tactic| with_reducible refine sSet_s ?_)
local macro_rules | `(tactic| walk_at "s1") => `(tactic| with_reducible refine sDrop_s ?_)
local macro_rules | `(tactic| walk_at "s1") => `(tactic| with_reducible refine sRetN_s ?_)
local macro_rules | `(tactic| walk_at "s1") => `(tactic| with_reducible refine sRet_s ?_)
local macro_rules | `(tactic| walk_at "s1") => `(tactic| with_reducible refine sIf_s ?_)
local macro_rules | `(tactic| walk_at "s1") => `(tactic| with_reducible refine sCnt_s ?_)
local macro_rules | `(tactic| walk_at "s1") => `(tactic| with_reducible refine sBrk_s ?_)
local macro_rules | `(tactic| walk_at "s1") => `(tactic| with_reducible refine sSeq_s ?_)
local macro_rules | `(tactic| walk_at "s1") => `(tactic| with_reducible refine sNext_s ?_)
local macro_rules | `(tactic| walk_at "ds") => `(tactic| repeat walk_at "s1")
local macro_rules | `(tactic| walk_at "s2") => `(tactic| ((with_reducible refine' addLb_s ?e0 ?_); (case e0 => exact rfl)))
local macro_rules | `(tactic| walk_at "s2") => `(tactic| ((with_reducible refine' ixL_s ?e0 ?_); (case e0 => exact rfl)))
local macro_rules | `(tactic| walk_at "s2") => `(tactic| with_reducible refine sRetL_s ?_)
local macro_rules | `(tactic| walk_at "s2") => `(tactic| ((with_reducible refine' lAugK_s ?e0 ?e1 ?e2 ?_); (case e0 => exact rfl); (case e1 => exact rfl); (case e2 => walk_at "dn")))
local macro_rules | `(tactic| walk_at "s2") => `(tactic| ((with_reducible refine' sLAug_s ?e0 ?e1 ?e2 ?_); (case e0 => exact rfl); (case e1 => decide); (case e2 => exact rfl)))
local macro_rules | `(tactic| walk_at "s2") => `(tactic| ((with_reducible refine' lPutK2_s ?e0 ?e1 ?e2 ?_); (case e0 => exact rfl); (case e1 => exact rfl); (case e2 => walk_at "dn")))
local macro_rules | `(tactic| walk_at "s2") => `(tactic| ((with_reducible refine' lPutK_s ?e0 ?_); (case e0 => exact rfl)))
local macro_rules | `(tactic| walk_at "s2") => `(tactic| with_reducible refine sLPut_s ?_)
local macro_rules | `(tactic| walk_at "s2") => `(tactic| ((with_reducible refine' ixVK_s ?e0 ?e1 ?_); (case e0 => exact rfl); (case e1 => exact rfl)))
local macro_rules | `(tactic| walk_at "s2") => `(tactic| ((with_reducible refine' dIxV_s ?e0 ?_); (case e0 => exact rfl)))
local macro_rules | `(tactic| walk_at "s2") => `(tactic| with_reducible refine dNeS_s ?_)
local macro_rules | `(tactic| walk_at "s2") => `(tactic| with_reducible refine lenR_s ?_)
local macro_rules | `(tactic| walk_at "s2") => `(tactic| with_reducible refine dIxR_s ?_)
local macro_rules | `(tactic| walk_at "s2") => `(tactic| ((with_reducible refine' augK_s ?e0 ?e1 ?_); (case e0 => exact rfl); (case e1 => walk_at "dn")))
local macro_rules | `(tactic| walk_at "s2") => `(tactic| ((with_reducible refine' sAugI_s ?e0 ?_); (case e0 => exact rfl)))
local macro_rules | `(tactic| walk_at "s2") => `(tactic| with_reducible refine dNeg_s ?_)
local macro_rules | `(tactic| walk_at "s2") => `(tactic| with_reducible refine dD1_s ?_)
local macro_rules | `(tactic| walk_at "s2") => `(tactic| ((with_reducible refine' exG3_s ?e0 ?e1 ?_); (case e0 => assumption); (case e1 => exact rfl)))
local macro_rules | `(tactic| walk_at "s2") => `(tactic| ((with_reducible refine' exG2_s ?e0 ?e1 ?_); (case e0 => assumption); (case e1 => exact rfl)))
local macro_rules | `(tactic| walk_at "s2") => `(tactic| ((with_reducible refine' exG1_s ?e0 ?e1 ?_); (case e0 => assumption); (case e1 => exact rfl)))
local macro_rules | `(tactic| walk_at "s2") => `(tactic| with_reducible refine dExG_s ?_)
local macro_rules | `(tactic| walk_at "s2") => `(tactic| with_reducible refine dMkV0_s ?_)
local macro_rules | `(tactic| walk_at "s2") => `(tactic| with_reducible refine mkV2_s ?_)
local macro_rules | `(tactic| walk_at "s2") => `(tactic| with_reducible refine mkV1_s ?_)
local macro_rules | `(tactic| walk_at "s2") => `(tactic| with_reducible refine dMkV_s ?_)
local macro_rules | `(tactic| walk_at "s2") => `(tactic| walk_at "s1")
local macro_rules | `(tactic| walk_at "dt") => `(tactic| repeat walk_at "s2")
local macro_rules | `(tactic| walk_at "s5") => `(tactic| ((with_reducible refine' isiTup_s ?e0 ?_); (case e0 => exact kb7)))
local macro_rules | `(tactic| walk_at "s5") => `(tactic| ((with_reducible refine' dLenV_s ?e0 ?_); (case e0 => exact rfl)))
local macro_rules | `(tactic| walk_at "s5") => `(tactic| ((with_reducible refine' dEqV_s ?e0 ?_); (case e0 => exact rfl)))
local macro_rules | `(tactic| walk_at "s5") => `(tactic| ((with_reducible refine' ixT_s ?e0 ?_); (case e0 => exact rfl)))
local macro_rules | `(tactic| walk_at "s5") => `(tactic| with_reducible refine min3K_s ?_)
local macro_rules | `(tactic| walk_at "s5") => `(tactic| with_reducible refine maxK_s ?_)
local macro_rules | `(tactic| walk_at "s5") => `(tactic| with_reducible refine minK_s ?_)
local macro_rules | `(tactic| walk_at "s5") => `(tactic| with_reducible refine dOwnE_s ?_)
local macro_rules | `(tactic| walk_at "s5") => `(tactic| with_reducible refine iqT_s ?_)
local macro_rules | `(tactic| walk_at "s5") => `(tactic| with_reducible refine iqL_s ?_)
local macro_rules | `(tactic| walk_at "s5") => `(tactic| with_reducible refine iQ_s ?_)
local macro_rules | `(tactic| walk_at "s5") => `(tactic| with_reducible refine dSortSet_s ?_)
local macro_rules | `(tactic| walk_at "s5") => `(tactic| with_reducible refine sortMK_s ?_)
local macro_rules | `(tactic| walk_at "s5") => `(tactic| with_reducible refine dSortM_s ?_)
local macro_rules | `(tactic| walk_at "s5") => `(tactic| with_reducible refine dInXV_s ?_)
local macro_rules | `(tactic| walk_at "s5") => `(tactic| with_reducible refine dInX_s ?_)
local macro_rules | `(tactic| walk_at "s5") => `(tactic| with_reducible refine dCatT_s ?_)
local macro_rules | `(tactic| walk_at "s5") => `(tactic| walk_at "s2")
local macro_rules | `(tactic| walk_at "dq") => `(tactic| repeat walk_at "s5")
local macro_rules | `(tactic| walk_at "s6") => `(tactic| with_reducible refine inOwnK_s ?_)
local macro_rules | `(tactic| walk_at "s6") => `(tactic| with_reducible refine dNinOwn_s ?_)
local macro_rules | `(tactic| walk_at "s6") => `(tactic| with_reducible refine dInOwn_s ?_)
local macro_rules | `(tactic| walk_at "s6") => `(tactic| with_reducible refine tupRevK_s ?_)
local macro_rules | `(tactic| walk_at "s6") => `(tactic| with_reducible refine dTupRev_s ?_)
local macro_rules | `(tactic| walk_at "s6") => `(tactic| with_reducible refine lstRevK_s ?_)
local macro_rules | `(tactic| walk_at "s6") => `(tactic| with_reducible refine dLstRev_s ?_)
local macro_rules | `(tactic| walk_at "s6") => `(tactic| ((with_reducible refine' cmethSK2_s ?e0 ?_); (case e0 => exact rfl)))
local macro_rules | `(tactic| walk_at "s6") => `(tactic| with_reducible refine cmethSK_s ?_)
local macro_rules | `(tactic| walk_at "s6") => `(tactic| with_reducible refine dCMethS_s ?_)
local macro_rules | `(tactic| walk_at "s6") => `(tactic| ((with_reducible refine' sClear_s ?e0 ?e1 ?_); (case e0 => exact rfl); (case e1 => walk_at "dn")))
local macro_rules | `(tactic| walk_at "s6") => `(tactic| ((with_reducible refine' setLL_s ?e0 ?e1 ?_); (case e0 => exact rfl); (case e1 => (intro p; walk_at "dn"))))
local macro_rules | `(tactic| walk_at "s6") => `(tactic| with_reducible refine sSetLL_s ?_)
local macro_rules | `(tactic| walk_at "s6") => `(tactic| ((with_reducible refine' callT3_s ?e0 ?_); (case e0 => walk_at "dn")))
local macro_rules | `(tactic| walk_at "s6") => `(tactic| ((with_reducible refine' callT2_s ?e0 ?e1 ?e2 ?e3 ?_); (case e0 => exact rfl); (case e1 => exact rfl); (case e2 => exact rfl); (case e3 => walk_at "dn")))
local macro_rules | `(tactic| walk_at "s6") => `(tactic| ((with_reducible refine' callT4_s ?e0 ?_); (case e0 => walk_at "dn")))
local macro_rules | `(tactic| walk_at "s6") => `(tactic| ((with_reducible refine' callT1_s ?e0 ?e1 ?e2 ?e3 ?_); (case e0 => exact rfl); (case e1 => exact rfl); (case e2 => exact rfl); (case e3 => walk_at "dn")))
local macro_rules | `(tactic| walk_at "s6") => `(tactic| with_reducible refine dCallT_s ?_)
local macro_rules | `(tactic| walk_at "s6") => `(tactic| with_reducible refine own1K_s ?_)
local macro_rules | `(tactic| walk_at "s6") => `(tactic| with_reducible refine dOwn1_s ?_)
local macro_rules | `(tactic| walk_at "s6") => `(tactic| with_reducible refine jNil_s ?_)
local macro_rules | `(tactic| walk_at "s6") => `(tactic| with_reducible refine jCons_s ?_)
local macro_rules | `(tactic| walk_at "s6") => `(tactic| with_reducible refine dJoined_s ?_)
local macro_rules | `(tactic| walk_at "s6") => `(tactic| with_reducible refine dFmt_s ?_)
local macro_rules | `(tactic| walk_at "s6") => `(tactic| ((with_reducible refine' dMakeL_s ?e0 ?_); (case e0 => exact rfl)))
local macro_rules | `(tactic| walk_at "s6") => `(tactic| ((with_reducible refine' cmethK2_s ?e0 ?e1 ?e2 ?e3 ?e4 ?_); (case e0 => exact rfl); (case e1 => walk_at "dn"); (case e2 => exact rfl); (case e3 => exact rfl); (case e4 => walk_at "dn")))
local macro_rules | `(tactic| walk_at "s6") => `(tactic| with_reducible refine cmethK_s ?_)
local macro_rules | `(tactic| walk_at "s6") => `(tactic| with_reducible refine dCMeth_s ?_)
local macro_rules | `(tactic| walk_at "s6") => `(tactic| with_reducible refine partK_s ?_)
local macro_rules | `(tactic| walk_at "s6") => `(tactic| with_reducible refine dPart_s ?_)
local macro_rules | `(tactic| walk_at "s6") => `(tactic| walk_at "s5")
local macro_rules | `(tactic| walk_at "dr") => `(tactic| repeat walk_at "s6")
local macro_rules | `(tactic| walk_at "s7") => `(tactic| ((with_reducible refine' sNdef_s ?e0 ?e1 ?_); (case e0 => exact rfl); (case e1 => walk_at "dn")))
local macro_rules | `(tactic| walk_at "s7") => `(tactic| with_reducible refine zpKL_s ?_)
local macro_rules | `(tactic| walk_at "s7") => `(tactic| with_reducible refine zpKT_s ?_)
local macro_rules | `(tactic| walk_at "s7") => `(tactic| with_reducible refine iZp_s ?_)
local macro_rules | `(tactic| walk_at "s7") => `(tactic| with_reducible refine enKL_s ?_)
local macro_rules | `(tactic| walk_at "s7") => `(tactic| with_reducible refine enKT_s ?_)
local macro_rules | `(tactic| walk_at "s7") => `(tactic| with_reducible refine iEn_s ?_)
local macro_rules | `(tactic| walk_at "s7") => `(tactic| ((with_reducible refine' kInK_s ?e0 ?_); (case e0 => exact rfl)))
local macro_rules | `(tactic| walk_at "s7") => `(tactic| with_reducible refine dKIn_s ?_)
local macro_rules | `(tactic| walk_at "s7") => `(tactic| ((with_reducible refine' kIxK_s ?e0 ?_); (case e0 => exact rfl)))
local macro_rules | `(tactic| walk_at "s7") => `(tactic| with_reducible refine dKIx_s ?_)
local macro_rules | `(tactic| walk_at "s7") => `(tactic| ((with_reducible refine' dInVK_s ?e0 ?e1 ?_); (case e0 => exact rfl); (case e1 => exact rfl)))
local macro_rules | `(tactic| walk_at "s7") => `(tactic| with_reducible refine dDInV_s ?_)
local macro_rules | `(tactic| walk_at "s7") => `(tactic| ((with_reducible refine' dLcV_s ?e0 ?_); (case e0 => exact rfl)))
local macro_rules | `(tactic| walk_at "s7") => `(tactic| ((with_reducible refine' catT_s ?e0 ?_); (case e0 => (simp only [List.length_nil, List.length_cons, List.length_append, List.length_map]; omega))))
local macro_rules | `(tactic| walk_at "s7") => `(tactic| with_reducible refine slTK_s ?_)
local macro_rules | `(tactic| walk_at "s7") => `(tactic| with_reducible refine dSlT_s ?_)
local macro_rules | `(tactic| walk_at "s7") => `(tactic| with_reducible refine dCallL_s ?_)
local macro_rules | `(tactic| walk_at "s7") => `(tactic| ((with_reducible refine' ixT_s ?e0 ?_); (case e0 => exact atI_zero)))
local macro_rules | `(tactic| walk_at "s7") => `(tactic| ((with_reducible refine' insK_s ?e0 ?e1 ?e2 ?e3 ?e4 ?_); (case e0 => exact rfl); (case e1 => (simp only [List.length_nil, List.length_cons, List.length_map]; omega)); (case e2 => omega); (case e3 => omega); (case e4 => walk_at "dn")))
local macro_rules | `(tactic| walk_at "s7") => `(tactic| ((with_reducible refine' sIns_s ?e0 ?_); (case e0 => exact rfl)))
local macro_rules | `(tactic| walk_at "s7") => `(tactic| ((with_reducible refine' extK_s ?e0 ?e1 ?e2 ?_); (case e0 => exact rfl); (case e1 => (simp only [List.length_nil, List.length_cons, List.length_map]; omega)); (case e2 => walk_at "dn")))
local macro_rules | `(tactic| walk_at "s7") => `(tactic| ((with_reducible refine' sExt_s ?e0 ?_); (case e0 => exact rfl)))
local macro_rules | `(tactic| walk_at "s7") => `(tactic| ((with_reducible refine' iteF_s ?e0 ?_); (case e0 => decide +kernel)))
local macro_rules | `(tactic| walk_at "s7") => `(tactic| ((with_reducible refine' iteT_s ?e0 ?_); (case e0 => decide +kernel)))
local macro_rules | `(tactic| walk_at "s7") => `(tactic| ((with_reducible refine' ninTb_s (b := false) ?e0 ?e1 ?_); (case e0 => exact rfl); (case e1 => decide +kernel)))
local macro_rules | `(tactic| walk_at "s7") => `(tactic| ((with_reducible refine' ninTb_s (b := true) ?e0 ?e1 ?_); (case e0 => exact rfl); (case e1 => decide +kernel)))
local macro_rules | `(tactic| walk_at "s7") => `(tactic| ((with_reducible refine' inTb_s (b := false) ?e0 ?e1 ?_); (case e0 => exact rfl); (case e1 => decide +kernel)))
local macro_rules | `(tactic| walk_at "s7") => `(tactic| ((with_reducible refine' inTb_s (b := true) ?e0 ?e1 ?_); (case e0 => exact rfl); (case e1 => decide +kernel)))
local macro_rules | `(tactic| walk_at "s7") => `(tactic| walk_at "s6")
local macro_rules | `(tactic| walk_at "s7") => `(tactic| with_reducible refine dNegC_s ?_)
local macro_rules | `(tactic| walk_at "s7") => `(tactic| with_reducible refine mNil_s ?_)
local macro_rules | `(tactic| walk_at "s7") => `(tactic| with_reducible refine aNil_s ?_)
local macro_rules | `(tactic| walk_at "s7") => `(tactic| ((with_reducible refine' callK_s ?e0 ?e1 ?e2 ?e3 ?e4 ?_); (case e0 => exact rfl); (case e1 => walk_at "dn"); (case e2 => exact rfl); (case e3 => exact rfl); (case e4 => walk_at "dn")))
local macro_rules | `(tactic| walk_at "s7") => `(tactic| ((with_reducible refine' putK_s ?e0 ?_); (case e0 => walk_at "dn")))
local macro_rules | `(tactic| walk_at "s7") => `(tactic| ((with_reducible refine' gN_s ?e0 ?e1 ?_); (case e0 => exact rfl); (case e1 => walk_at "dn")))
local macro_rules | `(tactic| walk_at "s7") => `(tactic| with_reducible refine dTup_s ?_)
local macro_rules | `(tactic| walk_at "s7") => `(tactic| with_reducible refine gsCons_s ?_)
local macro_rules | `(tactic| walk_at "s7") => `(tactic| with_reducible refine dOp_s ?_)
local macro_rules | `(tactic| walk_at "s7") => `(tactic| with_reducible refine dEqG_s ?_)
local macro_rules | `(tactic| walk_at "s7") => `(tactic| with_reducible refine dCall_s ?_)
local macro_rules | `(tactic| walk_at "s7") => `(tactic| with_reducible refine bvK_s ?_)
local macro_rules | `(tactic| walk_at "s7") => `(tactic| with_reducible refine dBv_s ?_)
local macro_rules | `(tactic| walk_at "s7") => `(tactic| with_reducible refine sIf_s ?_)
local macro_rules | `(tactic| walk_at "s7") => `(tactic| with_reducible refine sSet_s ?_)
local macro_rules | `(tactic| walk_at "s7") => `(tactic| ((with_reducible refine' setK_s ?e0 ?e1 ?_); (case e0 => exact rfl); (case e1 => walk_at "dn")))
local macro_rules | `(tactic| walk_at "s7") => `(tactic| with_reducible refine dF_s ?_)
local macro_rules | `(tactic| walk_at "s7") => `(tactic| with_reducible refine sSeq_s ?_)
local macro_rules | `(tactic| walk_at "s7") => `(tactic| with_reducible refine mVal_s ?_)
local macro_rules | `(tactic| walk_at "s7") => `(tactic| with_reducible refine aCons_s ?_)
local macro_rules | `(tactic| walk_at "s7") => `(tactic| with_reducible refine dC_s ?_)
local macro_rules | `(tactic| walk_at "s7") => `(tactic| ((with_reducible refine' dVar_s ?e0 ?_); (case e0 => exact rfl)))
local macro_rules | `(tactic| walk_at "du") => `(tactic| repeat walk_at "s7")
def signB : D → Bool
  | .str t => t.cps.toList.all fun c => decide (c ∈ letters.cps.toList) || decide (c ∈ digits.cps.toList)
  | _ => false
theorem d_is_word {K : PySem.W.Frag} {a : Ad} : ∀ as Qd, as.length = 1 → (S_is_word a) as Qd → td_is_word K a (fnEnds as Qd) (as ++ List.replicate (2 - 1) .un) := by
  rintro as Qd hl ⟨s, rfl, hs, q⟩
  show td_is_word K a (fnEnds _ Qd) [.fz (.str s), .un]
  unfold td_is_word
  walk_at "ds"
  refine ite_s (fun h1 => ?_) (fun h1 => ?_)
  · walk_at "ds"
    have h1' : 1 ≤ s.length := by have := of_decide_eq_true h1; omega
    refine ite_s (fun h2 => ?_) (fun h2 => ?_)
    · walk_at "ds"
      have e : isWordB s = false := by
        have h2' : ¬ s.length ≤ 12 := fun z => by
          simp only [cLe, Bool.not_eq_true', decide_eq_false_iff_not] at h2
          omega
        simp [isWordB, h2']
      rw [e] at q
      exact q
    · walk_at "ds"
      have h2' : s.length ≤ 12 := by
        simp only [cLe, Bool.not_eq_false', decide_eq_true_eq] at h2
        omega
      refine lc_map (fun x => .bl (signB x)) rfl (fun x hx R r => ?_) (by rw [signs_len]; omega) ?_
      · obtain ⟨c, hc, rfl⟩ := mem_signs hx
        show dOrV _ _ [.fz (.str s), .fz (.str ⟨#[c]⟩)] R
        have r' : R (.bl (decide (c ∈ letters.cps.toList) || decide (c ∈ digits.cps.toList))) [.fz (.str s), .fz (.str ⟨#[c]⟩)] := by simpa [signB] using r
        walk_at "ds"
        refine ite_s (fun h3 => ?_) (fun h3 => ?_)
        · rw [show decide (c ∈ letters.cps.toList) = true from h3] at r'
          exact r'
        · rw [show decide (c ∈ letters.cps.toList) = false from h3] at r'
          walk_at "ds"
          exact r'
      · walk_at "ds"
        refine cbK_s ⟨(signsD s).map signB, by simp, rfl⟩ ?_
        walk_at "ds"
        have e : isWordB s = ((signsD s).map signB).all id := by
          simp [isWordB, h1', h2', signsD, signB, Function.comp_def, List.all_map]
        rw [e] at q
        exact q
  · walk_at "ds"
    have e : isWordB s = false := by
      have h1' : ¬ 1 ≤ s.length := fun z => by
        simp only [cLe, decide_eq_false_iff_not] at h1
        omega
      simp only [isWordB, h1', decide_false, Bool.false_and]
    rw [e] at q
    exact q
theorem d_is_identifier {K : PySem.W.Frag} {a : Ad} : ∀ as Qd, as.length = 1 → (S_is_identifier a) as Qd → td_is_identifier K a (fnEnds as Qd) (as ++ List.replicate (1 - 1) .un) := by
  rintro as Qd hl ⟨s, rfl, hs, q⟩
  show td_is_identifier K a (fnEnds _ Qd) [.fz (.str s)]
  unfold td_is_identifier
  walk_at "ds"
  refine ⟨s, rfl, hs, ?_⟩
  walk_at "ds"
  refine ite_s (fun hw => ?_) (fun hw => ?_)
  · walk_at "ds"
    obtain ⟨c, r, e⟩ : ∃ c r, s.cps.toList = c :: r := by
      cases h : s.cps.toList with
      | nil =>
        have : s.length = 0 := by show s.cps.size = 0; rw [← Array.length_toList, h]; rfl
        simp [isWordB, this] at hw
      | cons c r => exact ⟨c, r, rfl⟩
    refine ixS_s (c := c) hs (by rw [e]; exact atI_zero) ?_
    walk_at "ds"
    have q' : Qd (.bl (decide (c ∈ letters.cps.toList) && !inV (.str s) keptV)) [.fz (.str s)] := by simpa [isIdB, headB, hw, e] using q
    refine ite_s (fun h3 => ?_) (fun h3 => ?_)
    · rw [show decide (c ∈ letters.cps.toList) = true from h3] at q'
      walk_at "ds"
      refine ninT_s (b := inV (.str s) keptV) (by rfl) ?_
      walk_at "ds"
      exact q'
    · rw [show decide (c ∈ letters.cps.toList) = false from h3] at q'
      walk_at "ds"
      exact q'
  · walk_at "ds"
    have e : isIdB s = false := by simp [isIdB, hw]
    rw [e] at q
    exact q
theorem id_ok {s : Str} (h : isIdB s = true) : PyData.strOk s = true := by
  unfold isIdB isWordB at h
  simp only [Bool.and_eq_true, List.all_eq_true, Bool.or_eq_true, decide_eq_true_eq] at h
  unfold PyData.strOk
  rw [Array.all_eq_true_iff_forall_mem]
  intro c hc
  have hb : ∀ c ∈ letters.cps.toList ++ digits.cps.toList, c < 1114112 := by decide +kernel
  have := hb c (List.mem_append.mpr (h.1.1.2 c (by simpa using hc)))
  simpa using this
theorem id_len {s : Str} (h : isIdB s = true) : s.length ≤ 12 := by
  unfold isIdB isWordB at h
  simp only [Bool.and_eq_true, decide_eq_true_eq] at h
  exact h.1.1.1.2
theorem d_is_setting {K : PySem.W.Frag} {a : Ad} : ∀ as Qd, as.length = 1 → (S_is_setting a) as Qd → td_is_setting K a (fnEnds as Qd) (as ++ List.replicate (1 - 1) .un) := by
  rintro as Qd hl ⟨s, rfl, q⟩
  show td_is_setting K a (fnEnds _ Qd) [.fz (.str s)]
  unfold td_is_setting
  walk_at "du"
  refine inTb_s (ss := ["on", "off"]) rfl rfl ?_
  rw [show decide (s ∈ [(("on" : Str)), "off"]) = (decide (s = "on") || decide (s = "off")) from by simp]
  walk_at "du"
  exact q
theorem word_ok {s : Str} (h : isWordB s = true) : PyData.strOk s = true := by
  unfold isWordB at h
  simp only [Bool.and_eq_true, List.all_eq_true, Bool.or_eq_true, decide_eq_true_eq] at h
  unfold PyData.strOk
  rw [Array.all_eq_true_iff_forall_mem]
  intro c hc
  have hb : ∀ c ∈ letters.cps.toList ++ digits.cps.toList, c < 1114112 := by decide +kernel
  have := hb c (List.mem_append.mpr (h.2 c (by simpa using hc)))
  simpa using this
theorem word_len {s : Str} (h : isWordB s = true) : s.length ≤ 12 := by
  unfold isWordB at h
  simp only [Bool.and_eq_true, decide_eq_true_eq] at h
  exact h.1.2
theorem pl_str1 {l : List Str} (h : ∀ s ∈ l, PyData.strOk s = true) {n : Nat} : ∀ d ∈ l.map D.str, plD n d := fun d m => by
  obtain ⟨s, hs, rfl⟩ := List.mem_map.mp m
  exact plD_str (h s hs)
theorem pl_caps {cs : List Str} (h : ∀ c ∈ cs, isIdB c = true) : plD 1 (capsD cs) := plD_tup (pl_str1 fun c m => id_ok (h c m))
theorem pl_word (h : Hd) : PyData.strOk h.word = true := by cases h <;> simp only [Hd.word] <;> decide +kernel
theorem pl_items {h : Hd} (g : h.good) : ∀ d ∈ h.items, plD 1 d := by
  have s1 : ∀ {s : Str}, isIdB s = true → plD 1 (.str s) := fun h => plD_str (id_ok h)
  have s2 : ∀ {s : Str}, isWordB s = true → plD 1 (.str s) := fun h => plD_str (word_ok h)
  have c1 : PyData.strOk "of" = true := by decide +kernel
  have c2 : PyData.strOk "word" = true := by decide +kernel
  have sv : ∀ {o : Bool} {v : Str}, (if o then isIdB v = true else isWordB v = true) → plD 1 (valD o v) := fun {o v} h => by
    cases o with
    | true => exact plD_tup (pl_str1 (l := ["of", v]) fun s m => by
        rcases List.mem_cons.mp m with e | m
        · subst e; exact c1
        · rw [List.mem_singleton.mp m]; exact id_ok (by simpa using h))
    | false => exact plD_tup (pl_str1 (l := ["word", v]) fun s m => by
        rcases List.mem_cons.mp m with e | m
        · subst e; exact c2
        · rw [List.mem_singleton.mp m]; exact word_ok (by simpa using h))
  intro d m
  cases h <;> simp only [Hd.items, List.mem_cons, List.not_mem_nil, or_false] at m <;> simp only [Hd.good] at g
  case look w i =>
    rcases m with rfl | rfl
    · exact s2 g.1
    · exact s1 g.2
  case bind i o v =>
    rcases m with rfl | rfl
    · exact s1 g.1
    · exact sv g.2
  case call i => subst m; exact s1 g
  case keep s f cs =>
    rcases m with rfl | rfl | rfl
    · exact s1 g.1
    · exact s1 g.2.1
    · exact pl_caps g.2.2.2
  case take s cs =>
    rcases m with rfl | rfl
    · exact s1 g.1
    · exact pl_caps g.2.2
  case shift s f cs =>
    rcases m with rfl | rfl | rfl
    · exact s1 g.1
    · exact s1 g.2.1
    · exact pl_caps g.2.2.2
  case run s => subst m; exact s1 g
  case drop s => subst m; exact s1 g
  case whn s => subst m; exact s1 g
  case held s => subst m; exact s1 g
mutual
theorem pl_S : ∀ {s : Sm}, allS Hd.good s → plD (2 * hS s) (encS s)
  | .mk h bs, g => by
    simp only [allS] at g
    simp only [encS, hS]
    refine (plD_tup (n := 2 * hB bs + 1) fun d m => ?_).mono (by omega)
    rcases List.mem_cons.mp m with e | m
    · subst e; exact plD_str (pl_word h)
    · rcases List.mem_append.mp m with m | m
      · exact (pl_items g.1 d m).mono (by omega)
      · exact pl_B g.2.2 d m
theorem pl_B : ∀ {bs : List (List Sm)}, allB Hd.good bs → ∀ d ∈ encB bs, plD (2 * hB bs + 1) d
  | [], _, d, m => by simp only [encB] at m; cases m
  | b :: bs, g, d, m => by
    simp only [allB] at g
    simp only [encB] at m
    simp only [hB]
    rcases List.mem_cons.mp m with e | m
    · subst e; exact (plD_tup (pl_R g.1)).mono (by omega)
    · exact (pl_B g.2 d m).mono (by omega)
theorem pl_R : ∀ {r : List Sm}, allR Hd.good r → ∀ d ∈ encR r, plD (2 * hR r) d
  | [], _, d, m => by simp only [encR] at m; cases m
  | s :: r, g, d, m => by
    simp only [allR] at g
    simp only [encR] at m
    simp only [hR]
    rcases List.mem_cons.mp m with e | m
    · subst e; exact (pl_S g.1).mono (by omega)
    · exact (pl_R g.2 d m).mono (by omega)
end
theorem pl_rows {r : List Sm} (g : allR Hd.good r) : plD (2 * hR r + 1) (rowsD r) := plD_tup (pl_R g)
theorem encR_nil (r : List Sm) : (encR r).isEmpty = r.isEmpty := by cases r <;> simp only [encR] <;> rfl
theorem encB_nil (r : List (List Sm)) : (encB r).isEmpty = r.isEmpty := by cases r <;> simp only [encB] <;> rfl
open PySem L2 DL
theorem goodR_cons {s : Sm} {r : List Sm} (h : GoodR (s :: r)) : GoodS s ∧ GoodR r := by
  obtain ⟨h1, h2, h3⟩ := h
  simp only [allR, cntR, hR] at h1 h2 h3
  exact ⟨⟨h1.1, by omega, by omega⟩, h1.2, by omega, by omega⟩
theorem goodS_bs {h : Hd} {bs : List (List Sm)} (g : GoodS (.mk h bs)) : bs.length = h.nb ∧ h.good ∧ allB Hd.good bs ∧ 1 + cntB bs ≤ 1000 ∧ 1 + hB bs ≤ 20 := by
  obtain ⟨h1, h2, h3⟩ := g
  simp only [allS, cntS, hS] at h1 h2 h3
  exact ⟨h1.2.1, h1.1, h1.2.2, h2, h3⟩
theorem nb_le (h : Hd) : h.nb ≤ 2 := by cases h <;> simp [Hd.nb]
abbrev entD (k : Nat) (q : Int × Sm) : D := Row.enc (q.1, k, .s q.2)
theorem d_add_first_lines {K : PySem.W.Frag} {a : Ad} (n : Nat) : ∀ as Qd, as.length = 4 → (S_add_first_lines K a (n + 1)) as Qd → td_add_first_lines K a n (fnEnds as Qd) (as ++ List.replicate (8 - 4) .un) := by
  rintro as Qd hl ⟨v, xs, rs, l, k, rfl, hh, hg, hx, q⟩
  show td_add_first_lines K a n (fnEnds _ Qd) [.ow v (lstA K (nf a) xs), .fz (rowsD rs), .fz (.int l), .fz (.int (k : Nat)), .un, .un, .un, .un]
  unfold td_add_first_lines
  walk_at "du"
  refine for_inv (fun ds env => ∃ (ys : List D) (r : List Sm) (m : Int) (s4 s5 s6 s7 : SD (nf a)), ds = encR r ∧ env = [.ow v (lstA K (nf a) ys), .fz (rowsD rs), .fz (.int m), .fz (.int (k : Nat)), s4, s5, s6, s7] ∧ hR r < n + 1 ∧ GoodR r ∧ ys.length + cntR r ≤ 900000 ∧
    ys ++ (lstR r m).1.map (entD k) = xs ++ (lstR rs l).1.map (entD k) ∧ (lstR r m).2 = (lstR rs l).2) ?_ ?_ _ _ ⟨xs, rs, l, .un, .un, .un, .un, rfl, rfl, hh, hg, hx, rfl, rfl⟩
  · rintro x ds env R ⟨ys, r, m, s4, s5, s6, s7, hds, rfl, hr, hgr, hy, e1, e2⟩ hC
    match r, hds with
    | s :: r, hds =>
      simp only [encR] at hds
      obtain ⟨rfl, rfl⟩ := List.cons.inj hds
      obtain ⟨gs, gr⟩ := goodR_cons hgr
      simp only [hR, cntR] at hr hy
      simp only [lstR] at e1 e2
      obtain ⟨h, bs⟩ := s
      obtain ⟨hb, hgd, gb, hcb, hhb⟩ := goodS_bs gs
      have hnb := nb_le h
      have hbl := encB_len bs
      simp only [hS, cntS] at hr hy
      walk_at "du"
      refine appK_s rfl (by omega) (by walk_at "dn") ?_
      walk_at "du"
      refine ⟨.mk h bs, rfl, hb, ?_⟩
      walk_at "du"
      refine for_inv (fun ds env => ∃ (zs : List D) (j : Nat) (bb : List (List Sm)) (m' : Int) (s6 s7 : SD (nf a)), ds = enumD j (encB bb) ∧ env = [.ow v (lstA K (nf a) zs), .fz (rowsD rs), .fz (.int m'), .fz (.int (k : Nat)), .fz (encS (.mk h bs)), .fz (.tup (encB bs)), s6, s7] ∧
        hB bb < n ∧ allB Hd.good bb ∧ zs.length + cntB bb + cntR r ≤ 900000 ∧ 1 + cntB bb ≤ 1000 ∧ 1 + hB bb ≤ 20 ∧
        zs ++ (lstB bb j m').1.map (entD k) = (ys ++ [entD k (m, .mk h bs)]) ++ (lstB bs 0 (m + 1)).1.map (entD k) ∧ (lstB bb j m').2 = (lstB bs 0 (m + 1)).2) ?_ ?_ _ _ ⟨_, 0, bs, _, _, _, rfl, rfl, by omega, gb, by simp; omega, hcb, hhb, rfl, rfl⟩
      · rintro x ds env R' ⟨zs, j, bb, m', s6, s7, hds, rfl, hr', gbb, hz, hc', hh', f1, f2⟩ hR'
        match bb, hds with
        | b :: bb, hds =>
          simp only [encB, enumD] at hds
          obtain ⟨rfl, rfl⟩ := List.cons.inj hds
          simp only [allB, hB, cntB] at gbb hr' hz hc' hh'
          simp only [lstB] at f1 f2
          walk_at "du"
          with_reducible refine seqC_id ?_
          refine cutC_s (fun env => env = [.ow v (lstA K (nf a) zs), .fz (rowsD rs), .fz (.int (if j = 1 ∧ b.length ≠ 0 then m' + 1 else m')), .fz (.int (k : Nat)), .fz (encS (.mk h bs)), .fz (.tup (encB bs)), .fz (.int (j : Nat)), .fz (rowsD b)]) (fun R hD => ?_) ?_
          · walk_at "du"
            refine ite_s (fun h1 => ?_) (fun h1 => ?_)
            · have hj : j = 1 := by have := of_decide_eq_true h1; omega
              walk_at "du"
              refine neNilT_s (pl_rows gbb.1) (by omega) ?_
              rw [encR_nil]
              walk_at "du"
              cases b with
              | nil =>
                walk_at "du"
                exact hD _ (by simp)
              | cons s0 b =>
                walk_at "du"
                exact hD _ (by simp [hj])
            · have hj : ¬ j = 1 := by have := of_decide_eq_false h1; omega
              walk_at "du"
              exact hD _ (by simp [hj])
          rintro _ rfl
          walk_at "du"
          refine ⟨v, zs, b, _, k, rfl, by omega, ⟨gbb.1, by omega, by omega⟩, by omega, ?_⟩
          walk_at "du"
          refine hR' _ ⟨_, j + 1, bb, _, _, _, rfl, rfl, by omega, gbb.2, by rw [List.length_append, List.length_map, lstR_len]; omega, by omega, by omega, ?_, f2⟩
          rw [← f1, List.map_append, List.append_assoc]
      · rintro env ⟨zs, j, bb, m', s6, s7, hds, rfl, _, _, _, _, _, f1, f2⟩
        have : bb = [] := by cases bb with
          | nil => rfl
          | cons _ _ => simp only [encB, enumD] at hds; cases hds
        subst this
        simp only [lstB, List.map_nil, List.append_nil] at f1 f2
        walk_at "du"
        refine neNilT_s (plD_tup (pl_B gb)) (by omega) ?_
        rw [encB_nil]
        walk_at "du"
        have e1' : zs ++ (lstR r (if bs.length = 0 then m + 1 else (lstB bs 0 (m + 1)).2 + 1)).1.map (entD k) = xs ++ (lstR rs l).1.map (entD k) := by
          rw [← e1, f1, lstS, List.map_append, List.map_cons]
          simp
        have e2' : (lstR r (if bs.length = 0 then m + 1 else (lstB bs 0 (m + 1)).2 + 1)).2 = (lstR rs l).2 := by rw [← e2, lstS]
        have hz' : zs.length + cntR r ≤ 900000 := by
          rw [f1, List.length_append, List.length_append, List.length_map, lstB_len]
          simp
          omega
        cases bs with
        | nil =>
          walk_at "du"
          simp only [List.length_nil, if_true] at e1' e2'
          simp only [lstB] at f2
          refine hC _ ⟨zs, r, _, _, _, _, _, rfl, rfl, by omega, gr, hz', by rw [f2]; exact e1', by rw [f2]; exact e2'⟩
        | cons b0 bs =>
          walk_at "du"
          simp only [List.length_cons, Nat.add_one_ne_zero, if_false] at e1' e2'
          refine hC _ ⟨zs, r, _, _, _, _, _, rfl, rfl, by omega, gr, hz', by rw [f2]; exact e1', by rw [f2]; exact e2'⟩
  · rintro env ⟨ys, r, m, s4, s5, s6, s7, hds, rfl, hr, hgr, hy, e1, e2⟩
    have : r = [] := by cases r with
      | nil => rfl
      | cons _ _ => simp only [encR] at hds; cases hds
    subst this
    simp only [lstR, List.map_nil, List.append_nil] at e1 e2
    walk_at "du"
    rw [e1, e2]
    exact q
theorem pad_first (x : Pt) : ∃ r, x.enc = .tup (.str x.kind :: .str x.id :: r) ∧ r.length ≤ 2 := by cases x <;> exact ⟨_, rfl, by simp⟩
theorem good_rows {x : Pt} (h : x.good) : GoodR x.rows := by
  cases x with
  | func i o rs => exact ⟨h.2.1, h.2.2.2, by have := h.2.2.1; show hR rs ≤ 20; omega⟩
  | _ => exact ⟨by simp only [Pt.rows, allR], by simp [Pt.rows, cntR], by simp [Pt.rows, hR]⟩
theorem good_hR {x : Pt} (h : x.good) : hR x.rows ≤ 9 := by
  cases x with
  | func i o rs => exact h.2.2.1
  | _ => simp [Pt.rows, hR]
theorem cntP_le {ps : List Pt} (h : ∀ x ∈ ps, x.good) : cntP ps ≤ 1001 * ps.length := by
  induction ps with
  | nil => simp [cntP]
  | cons x ps ih =>
    have := ih fun y m => h y (List.mem_cons_of_mem _ m)
    have h2 := (good_rows (h x List.mem_cons_self)).2.1
    simp only [cntP, List.map_cons, List.sum_cons, List.length_cons] at this ⊢
    omega
theorem d_first_lines {K : PySem.W.Frag} {a : Ad} : ∀ as Qd, as.length = 1 → (S_first_lines a) as Qd → td_first_lines K a (fnEnds as Qd) (as ++ List.replicate (5 - 1) .un) := by
  rintro as Qd hl ⟨ps, rfl, ⟨hf, hn⟩, q⟩
  show td_first_lines K a (fnEnds _ Qd) [.fz (partsD ps), .un, .un, .un, .un]
  unfold td_first_lines
  walk_at "du"
  intro v
  walk_at "du"
  have hc := cntP_le hf
  refine for_inv (fun ds env => ∃ (ys : List D) (r : List Pt) (m : Int) (k : Nat) (s3 s4 : SD (nf a)), ds = enumD k (r.map Pt.enc) ∧ env = [.fz (partsD ps), .ow (.ref v) (lstA K (nf a) ys), .fz (.int m), s3, s4] ∧ (∀ x ∈ r, x.good) ∧ ys.length + cntP r ≤ 100000 ∧
    ys ++ (flR r k m).map Row.enc = (flR ps 0 1).map Row.enc) ?_ ?_ _ _ ⟨[], ps, 1, 0, .un, .un, rfl, rfl, hf, by simp; omega, rfl⟩
  · rintro y ds env R ⟨ys, r, m, k, s3, s4, hds, rfl, hg, hy, e⟩ hC
    match r, hds with
    | x :: r, hds =>
      simp only [List.map_cons, enumD] at hds
      obtain ⟨rfl, rfl⟩ := List.cons.inj hds
      have gx := hg x List.mem_cons_self
      have gr := good_rows gx
      have hcy : cntP (x :: r) = 1 + cntR x.rows + cntP r := by simp [cntP]
      have hg' : ∀ y ∈ r, y.good := fun y m => hg y (List.mem_cons_of_mem _ m)
      rw [flR, List.map_append, ptRows, List.map_cons] at e
      have hh := good_hR gx
      cases x with
      | func i o rs =>
        show gT 2 _ (.tup [.int (k : Nat), .tup [.str "func", .str i, .str (accS o), rowsD rs]]) _ _
        walk_at "du"
        refine appK_s rfl (by omega) (by walk_at "dn") ?_
        walk_at "du"
        refine ⟨.ref v, _, rs, _, k, rfl, by show hR rs < 12; have : hR rs ≤ 9 := hh; omega, gr, by simp; have : cntR (Pt.func i o rs).rows = cntR rs := rfl; omega, ?_⟩
        walk_at "du"
        refine hC _ ⟨_, r, _, k + 1, _, _, rfl, rfl, hg', by simp [lstR_len]; have : cntR (Pt.func i o rs).rows = cntR rs := rfl; omega, ?_⟩
        rw [← e]
        simp [ptEnd, Pt.isFn, Pt.rows, Row.enc, It.enc, Pt.enc]
      | name i w =>
        show gT 2 _ (.tup [.int (k : Nat), .tup [.str "name", .str i, .str w]]) _ _
        walk_at "du"
        refine appK_s rfl (by omega) (by walk_at "dn") ?_
        walk_at "du"
        refine hC _ ⟨_, r, _, k + 1, _, _, rfl, rfl, hg', by simp; omega, ?_⟩
        rw [← e]
        simp [ptEnd, Pt.isFn, Pt.rows, Row.enc, It.enc, Pt.enc, lstR]
      | flag i w =>
        show gT 2 _ (.tup [.int (k : Nat), .tup [.str "flag", .str i, .str w]]) _ _
        walk_at "du"
        refine appK_s rfl (by omega) (by walk_at "dn") ?_
        walk_at "du"
        refine hC _ ⟨_, r, _, k + 1, _, _, rfl, rfl, hg', by simp; omega, ?_⟩
        rw [← e]
        simp [ptEnd, Pt.isFn, Pt.rows, Row.enc, It.enc, Pt.enc, lstR]
      | slot i w =>
        show gT 2 _ (.tup [.int (k : Nat), .tup [.str "slot", .str i, .str (accS w)]]) _ _
        walk_at "du"
        refine appK_s rfl (by omega) (by walk_at "dn") ?_
        walk_at "du"
        refine hC _ ⟨_, r, _, k + 1, _, _, rfl, rfl, hg', by simp; omega, ?_⟩
        rw [← e]
        simp [ptEnd, Pt.isFn, Pt.rows, Row.enc, It.enc, Pt.enc, lstR]
  · rintro env ⟨ys, r, m, k, s3, s4, hds, rfl, hg, hy, e⟩
    have : r = [] := by cases r with
      | nil => rfl
      | cons _ _ => simp only [List.map_cons, enumD] at hds; cases hds
    subst this
    simp only [flR, List.map_nil, List.append_nil] at e
    walk_at "du"
    rw [e]
    exact q
open PySem L2 DL
def partL : List Str := ["name", "flag", "slot", "func"]
def isPt : It → Bool | .p _ => true | .s _ => false
theorem kind_in (x : Pt) : x.kind ∈ partL := by cases x <;> simp [Pt.kind, partL]
theorem word_nin (h : Hd) : h.word ∉ partL := by
  have e : ∀ w ∈ ([("look" : Str), "bind", "call", "keep", "take", "shift", "run", "drop", "apart", "when", "held", "fail", "guard"] : List Str), w ∉ partL := by decide +kernel
  exact e _ (by cases h <;> simp [Hd.word])
theorem it_first (x : It) : ∃ w r, x.enc = .tup (.str w :: r) ∧ decide (w ∈ partL) = isPt x := by
  cases x with
  | p x =>
    obtain ⟨r, e, _⟩ := pad_first x
    exact ⟨_, _, e, decide_eq_true (kind_in x)⟩
  | s x =>
    obtain ⟨h, bs⟩ := x
    exact ⟨h.word, h.items ++ encB bs, by show encS _ = _; simp only [encS], decide_eq_false (word_nin h)⟩
def stB : D → Bool
  | .tup [_, _, .tup (.str w :: _)] => !decide (w ∈ partL)
  | _ => false
theorem stB_enc (r : Row) : stB (Row.enc r) = isStm r := by
  obtain ⟨l, k, x⟩ := r
  obtain ⟨w, t, e, d⟩ := it_first x
  show stB (.tup [_, _, x.enc]) = _
  rw [e]
  show (!decide (w ∈ partL)) = _
  rw [d]
  cases x <;> rfl
theorem d_statements {K : PySem.W.Frag} {a : Ad} : ∀ as Qd, as.length = 1 → (S_statements a) as Qd → td_statements K a (fnEnds as Qd) (as ++ List.replicate (2 - 1) .un) := by
  rintro as Qd hl ⟨ps, rfl, ⟨hf, hn⟩, q⟩
  show td_statements K a (fnEnds _ Qd) [.fz (partsD ps), .un]
  unfold td_statements
  walk_at "du"
  refine ⟨ps, rfl, ⟨hf, hn⟩, ?_⟩
  walk_at "du"
  have hc := cntP_le hf
  refine lc_pure stB id rfl ?_ ?_ (by simp [flR_len]; omega) ?_
  · rintro x hx R r
    obtain ⟨⟨l, k, y⟩, _, rfl⟩ := List.mem_map.mp hx
    obtain ⟨w, t, e, d⟩ := it_first y
    have r' : R (!decide (w ∈ partL)) [.fz (partsD ps), .fz (Row.enc (l, k, y))] := by
      have : stB (Row.enc (l, k, y)) = !decide (w ∈ partL) := by rw [stB_enc, d]; cases y <;> rfl
      rw [← this]; exact r
    have ee : Row.enc (l, k, y) = .tup [.int l, .int (k : Nat), .tup (.str w :: t)] := by show D.tup [_, _, y.enc] = _; rw [e]
    rw [ee] at r' ⊢
    show dBv _ [.fz (partsD ps), .fz (.tup [.int l, .int (k : Nat), .tup (.str w :: t)])] R
    walk_at "du"
    refine ninTb_s (xs := [.str "name", .str "flag", .str "slot", .str "func"]) (ss := partL) rfl rfl ?_
    walk_at "du"
    exact r'
  · rintro x hx hp R r
    show dVar 1 [.fz (partsD ps), .fz x] R
    walk_at "du"
    exact r
  · rw [List.nil_append, List.map_id, List.filter_map]
    rw [show (stB ∘ Row.enc) = isStm from funext stB_enc]
    walk_at "du"
    exact q
theorem d_changed_rows {K : PySem.W.Frag} {a : Ad} (n : Nat) : ∀ as Qd, as.length = 2 → (S_changed_rows a (n + 1)) as Qd → td_changed_rows K a n (fnEnds as Qd) (as ++ List.replicate (7 - 2) .un) := by
  rintro as Qd hl ⟨rs, od, rfl, hh, hg, ho, q⟩
  show td_changed_rows K a n (fnEnds _ Qd) [.fz (rowsD rs), .fz (fnD od), .un, .un, .un, .un, .un]
  unfold td_changed_rows
  walk_at "du"
  intro v
  walk_at "du"
  refine for_inv (fun ds env => ∃ (ys r : List Sm) (s3 s4 s5 : SD (nf a)), ds = encR r ∧ env = [.fz (rowsD rs), .fz (fnD od), .ow (.ref v) (lstA K (nf a) (encR ys)), s3, s4, s5, .un] ∧ hR r < n + 1 ∧ GoodR r ∧ ys.length + cntR r ≤ 1000 ∧
    ys ++ mapR (Hd.ord od) r = mapR (Hd.ord od) rs) ?_ ?_ _ _ ⟨[], rs, .un, .un, .un, rfl, rfl, hh, hg, by simp; exact hg.2.1, rfl⟩
  · rintro x ds env R ⟨ys, r, s3, s4, s5, hds, rfl, hr, hgr, hy, e⟩ hC
    match r, hds with
    | s :: r, hds =>
      simp only [encR] at hds
      obtain ⟨rfl, rfl⟩ := List.cons.inj hds
      obtain ⟨gs, gr⟩ := goodR_cons hgr
      simp only [hR, cntR] at hr hy
      obtain ⟨h, bs⟩ := s
      obtain ⟨hb, hgd, gb, hcb, hhb⟩ := goodS_bs gs
      have hnb := nb_le h
      simp only [hS, cntS] at hr hy
      walk_at "du"
      refine ⟨(W_ordered, S_ordered a), [.lst (od.map .str)], List.mem_singleton.mpr rfl, rfl, by simp only [noFns, noFn, noFns_strs]; rfl, ?_⟩
      walk_at "du"
      have np : noFn (encS (.mk h bs)) = true := (pl_S gs.1).noFn
      refine ⟨rfl, by simp only [noFns, np]; rfl, rfl, od, .mk h bs, rfl, rfl, by omega, hb, hgd, ?_⟩
      show SetK 4 _ (encS (.mk (h.ord od) bs)) _
      walk_at "du"
      refine ⟨.mk (h.ord od) bs, rfl, by rw [show (Sm.mk (h.ord od) bs).h.nb = h.nb from ord_nb od h]; exact hb, ?_⟩
      walk_at "du"
      refine lc_inv (fun ds acc env => ∃ (done rest : List (List Sm)), ds = encB rest ∧ acc = encB done ∧ env = [.fz (rowsD rs), .fz (fnD od), .ow (.ref v) (lstA K (nf a) (encR ys)), .fz (encS (.mk h bs)), .fz (encS (.mk (h.ord od) bs)), s5, .un] ∧
        allB Hd.good rest ∧ cntB rest ≤ 999 ∧ hB rest < n ∧ hB rest ≤ 19 ∧ done.length + rest.length ≤ 2 ∧ done ++ mapB (Hd.ord od) rest = mapB (Hd.ord od) bs) ?_ ?_ _ _ _ ⟨[], bs, rfl, by simp only [encB], rfl, gb, by omega, by omega, by omega, by simp; omega, rfl⟩
      · rintro x ds acc env R' ⟨done, rest, hds, rfl, rfl, gb', hc', hh', hh2, hlen, f⟩ hC'
        match rest, hds with
        | b :: rest, hds =>
          simp only [encB] at hds
          obtain ⟨rfl, rfl⟩ := List.cons.inj hds
          simp only [allB, hB, cntB, List.length_cons, mapB] at gb' hc' hh' hh2 hlen f
          walk_at "du"
          refine ⟨b, od, rfl, by omega, ⟨gb'.1, by omega, by omega⟩, ho, ?_⟩
          walk_at "du"
          refine ⟨by rw [encB_len]; omega, ?_⟩
          refine hC' _ _ ⟨done ++ [mapR (Hd.ord od) b], rest, rfl, by rw [encB_map, encB_map, List.map_append]; rfl, rfl, gb'.2, by omega, by omega, by omega, by simp; omega, by rw [← f]; simp⟩
      · rintro acc env ⟨done, rest, hds, rfl, rfl, _, _, _, _, hlen, f⟩
        have : rest = [] := by cases rest with
          | nil => rfl
          | cons _ _ => simp only [encB] at hds; cases hds
        subst this
        simp only [mapB, List.append_nil] at f
        subst f
        walk_at "du"
        refine ⟨h.ord od, bs, mapB (Hd.ord od) bs, rfl, by rw [mapB_len], by omega, ?_⟩
        walk_at "du"
        refine appK_s rfl (by rw [encR_len]; omega) (by walk_at "dn") ?_
        walk_at "du"
        have eA : encR ys ++ [encS (.mk (h.ord od) (mapB (Hd.ord od) bs))] = encR (ys ++ [.mk (h.ord od) (mapB (Hd.ord od) bs)]) := by rw [encR_map, encR_map, List.map_append]; rfl
        rw [eA]
        refine hC _ ⟨ys ++ [.mk (h.ord od) (mapB (Hd.ord od) bs)], r, _, _, _, rfl, rfl, by omega, gr, by simp; omega, ?_⟩
        rw [← e]
        simp only [mapR, mapS, List.append_assoc, List.singleton_append]
  · rintro env ⟨ys, r, s3, s4, s5, hds, rfl, hr, hgr, hy, e⟩
    have : r = [] := by cases r with
      | nil => rfl
      | cons _ _ => simp only [encR] at hds; cases hds
    subst this
    simp only [mapR, List.append_nil] at e
    subst e
    walk_at "du"
    exact q
theorem d_changed {K : PySem.W.Frag} {a : Ad} : ∀ as Qd, as.length = 2 → (S_changed a) as Qd → td_changed K a (fnEnds as Qd) (as ++ List.replicate (4 - 2) .un) := by
  rintro as Qd hl ⟨ps, od, rfl, ⟨hf, hn⟩, ho, q⟩
  show td_changed K a (fnEnds _ Qd) [.fz (partsD ps), .fz (fnD od), .un, .un]
  unfold td_changed
  walk_at "du"
  intro v
  walk_at "du"
  refine for_inv (fun ds env => ∃ (ys r : List Pt) (s3 : SD (nf a)), ds = r.map Pt.enc ∧ env = [.fz (partsD ps), .fz (fnD od), .ow (.ref v) (lstA K (nf a) (ys.map Pt.enc)), s3] ∧ (∀ x ∈ r, x.good) ∧ ys.length + r.length ≤ 50 ∧
    ys ++ r.map (Pt.map (Hd.ord od)) = ps.map (Pt.map (Hd.ord od))) ?_ ?_ _ _ ⟨[], ps, .un, rfl, rfl, hf, by simpa using hn, rfl⟩
  · rintro x ds env R ⟨ys, r, s3, hds, rfl, hg, hy, e⟩ hC
    match r, hds with
    | x :: r, hds =>
      simp only [List.map_cons] at hds
      obtain ⟨rfl, rfl⟩ := List.cons.inj hds
      have gx := hg x List.mem_cons_self
      have hg' : ∀ y ∈ r, y.good := fun y m => hg y (List.mem_cons_of_mem _ m)
      have eA : ∀ y : Pt, ys.map Pt.enc ++ [y.enc] = (ys ++ [y]).map Pt.enc := fun y => by simp
      simp only [List.length_cons, List.map_cons] at hy e
      have hlen : (ys.map Pt.enc).length < 1000000 := by rw [List.length_map]; omega
      cases x with
      | func i o rs =>
        show gN 3 (.tup [.str "func", .str i, .str (accS o), rowsD rs]) _ _
        walk_at "du"
        refine ⟨rs, od, rfl, by have : hR rs ≤ 9 := gx.2.2.1; omega, good_rows gx, ho, ?_⟩
        walk_at "du"
        refine catT_s (xs := [.str "func", .str i, .str (accS o)]) (ys := [rowsD (mapR (Hd.ord od) rs)]) (by simp) ?_
        refine appK_s rfl hlen (by walk_at "dn") ?_
        rw [show D.tup [D.str "func", .str i, .str (accS o), rowsD (mapR (Hd.ord od) rs)] = Pt.enc (.func i o (mapR (Hd.ord od) rs)) from rfl, eA]
        exact hC _ ⟨_, r, _, rfl, rfl, hg', by simp; omega, by rw [← e]; simp [Pt.map]⟩
      | name i w =>
        show gN 3 (.tup [.str "name", .str i, .str w]) _ _
        walk_at "du"
        refine appK_s rfl hlen (by walk_at "dn") ?_
        rw [show D.tup [D.str "name", .str i, .str w] = Pt.enc (.name i w) from rfl, eA]
        exact hC _ ⟨_, r, _, rfl, rfl, hg', by simp; omega, by rw [← e]; simp [Pt.map]⟩
      | flag i w =>
        show gN 3 (.tup [.str "flag", .str i, .str w]) _ _
        walk_at "du"
        refine appK_s rfl hlen (by walk_at "dn") ?_
        rw [show D.tup [D.str "flag", .str i, .str w] = Pt.enc (.flag i w) from rfl, eA]
        exact hC _ ⟨_, r, _, rfl, rfl, hg', by simp; omega, by rw [← e]; simp [Pt.map]⟩
      | slot i w =>
        show gN 3 (.tup [.str "slot", .str i, .str (accS w)]) _ _
        walk_at "du"
        refine appK_s rfl hlen (by walk_at "dn") ?_
        rw [show D.tup [D.str "slot", .str i, .str (accS w)] = Pt.enc (.slot i w) from rfl, eA]
        exact hC _ ⟨_, r, _, rfl, rfl, hg', by simp; omega, by rw [← e]; simp [Pt.map]⟩
  · rintro env ⟨ys, r, s3, hds, rfl, hg, hy, e⟩
    have : r = [] := by cases r with
      | nil => rfl
      | cons _ _ => simp only [List.map_cons] at hds; cases hds
    subst this
    simp only [List.map_nil, List.append_nil] at e
    subst e
    walk_at "du"
    exact q
theorem noFn_enc {x : Pt} (h : x.good) : noFn x.enc = true := by
  cases x with
  | func i o rs =>
    have := (pl_rows h.2.1).noFn
    simp only [Pt.enc, noFn, noFns, Bool.and_true, Bool.true_and]
    simpa only [rowsD, noFn] using this
  | _ => simp only [Pt.enc, noFn, noFns]; rfl
theorem noFn_parts {ps : List Pt} (h : ∀ x ∈ ps, x.good) : noFn (partsD ps) = true := by
  simp only [partsD, noFn]
  induction ps with
  | nil => simp only [List.map_nil, noFns]
  | cons x ps ih => simp only [List.map_cons, noFns, noFn_enc (h x List.mem_cons_self), ih fun y m => h y (List.mem_cons_of_mem _ m)]; rfl
theorem ordC_good {od cs : List Str} (hd : ∀ c ∈ od, isIdB c = true) (h : od.length ≤ 100) : (ordC od cs).length ≤ 100 ∧ ∀ c ∈ ordC od cs, isIdB c = true :=
  ⟨Nat.le_trans (List.length_filter_le _ _) h, fun c m => hd c (List.mem_filter.mp m).1⟩
theorem ord_good {od : List Str} (hd : ∀ c ∈ od, isIdB c = true) (hl : od.length ≤ 100) {h : Hd} (g : h.good) : (h.ord od).good := by
  cases h with
  | keep s f cs => exact ⟨g.1, g.2.1, ordC_good hd hl⟩
  | take s cs => exact ⟨g.1, ordC_good hd hl⟩
  | shift s t cs => exact ⟨g.1, g.2.1, ordC_good hd hl⟩
  | _ => exact g
theorem bound_good {ps : List Pt} (h : ∀ x ∈ ps, x.good) : ∀ c ∈ bound ps, isIdB c = true := by
  intro c m
  obtain ⟨x, hx, rfl⟩ := List.mem_map.mp m
  have g := h x (List.mem_filter.mp hx).1
  cases x with
  | name i w => exact g.1
  | flag i w => exact g.1
  | slot i w => exact g
  | func i w rs => exact g.1
theorem bound_len (ps : List Pt) : (bound ps).length ≤ ps.length := by unfold bound; rw [List.length_map]; exact List.length_filter_le _ _
theorem map_good {f : Hd → Hd} (hn : ∀ h, (f h).nb = h.nb) (hg : ∀ h, h.good → (f h).good) {x : Pt} (g : x.good) : (x.map f).good := by
  cases x with
  | func i o rs => exact ⟨g.1, allR_map f hn hg rs g.2.1, by rw [hR_map]; exact g.2.2.1, by rw [cntR_map]; exact g.2.2.2⟩
  | _ => exact g
theorem formP_ord {ps : List Pt} (h : FormP ps) : FormP (ordP ps) := by
  refine ⟨fun x m => ?_, by unfold ordP; rw [List.length_map]; exact h.2⟩
  obtain ⟨y, hy, rfl⟩ := List.mem_map.mp m
  exact map_good (ord_nb _) (fun _ g => ord_good (bound_good h.1) (by have := bound_len ps; have := h.2; omega) g) (h.1 y hy)
def bdB : D → Bool
  | .tup (.str w :: _) => decide (w ∈ ([("name" : Str), "flag"] : List Str))
  | _ => false
def idD : D → D
  | .tup (_ :: i :: _) => i
  | _ => .non
theorem bd_enc (x : Pt) : bdB x.enc = (decide (x.kind = ("name" : Str)) || decide (x.kind = ("flag" : Str))) := by
  obtain ⟨r, e, _⟩ := pad_first x
  rw [e]
  show decide (x.kind ∈ _) = _
  simp
theorem d_with_ordered_lists {K : PySem.W.Frag} {a : Ad} (cs : List (Str × Addr)) : ∀ as Qd, as.length = 1 → (S_with_ordered_lists a) as Qd → td_with_ordered_lists K a cs (fnEnds as Qd) (as ++ List.replicate (4 - 1) .un) := by
  rintro as Qd hl ⟨ps, rfl, hF, q⟩
  obtain ⟨hf, hn⟩ := id hF
  show td_with_ordered_lists K a cs (fnEnds _ Qd) [.fz (partsD ps), .un, .un, .un]
  unfold td_with_ordered_lists
  walk_at "du"
  refine lc_pure bdB idD rfl ?_ ?_ (by simp; omega) ?_
  · rintro x hx R r
    obtain ⟨y, _, rfl⟩ := List.mem_map.mp hx
    obtain ⟨t, e, _⟩ := pad_first y
    rw [e] at r ⊢
    show dBv _ [.fz (partsD ps), .un, .fz (.tup (.str y.kind :: .str y.id :: t)), .un] R
    walk_at "du"
    refine inTb_s (xs := [.str "name", .str "flag"]) (ss := ["name", "flag"]) rfl rfl ?_
    walk_at "du"
    exact r
  · rintro x hx hp R r
    obtain ⟨y, _, rfl⟩ := List.mem_map.mp hx
    obtain ⟨t, e, ht⟩ := pad_first y
    rw [e] at r ⊢
    show dF ixD _ _ [.fz (partsD ps), .un, .fz (.tup (.str y.kind :: .str y.id :: t)), .un] R
    walk_at "du"
    refine ixT_s (z := .str y.id) (by rw [atI_of (by decide) (by simp; omega)]; rfl) ?_
    exact r
  · rw [List.nil_append]
    have eb : ((ps.map Pt.enc).filter bdB).map idD = (bound ps).map D.str := by
      unfold bound
      rw [List.filter_map, List.map_map, List.map_map]
      rw [show (bdB ∘ Pt.enc) = fun x => decide (x.kind = ("name" : Str)) || decide (x.kind = ("flag" : Str)) from funext bd_enc]
      apply List.map_congr_left
      intro x _
      obtain ⟨t, e, _⟩ := pad_first x
      show idD x.enc = .str x.id
      rw [e]; rfl
    rw [eb]
    walk_at "du"
    refine ⟨rfl, [partsD ps], [], [.lst ((bound ps).map .str)], rfl, ⟨rfl, trivial⟩, ps, bound ps, rfl, hF, by have := bound_len ps; omega, ?_⟩
    refine ⟨noFn_parts (formP_ord hF).1, ?_⟩
    walk_at "du"
    exact q
mutual
theorem lstS_all {P : Hd → Prop} : ∀ (s : Sm) (l : Int), allS P s → ∀ q ∈ (lstS s l).1, allS P q.2
  | .mk h bs, l, g, q, m => by
    simp only [lstS] at m
    rcases List.mem_cons.mp m with e | m
    · subst e; exact g
    · simp only [allS] at g
      exact lstB_all bs 0 (l + 1) g.2.2 q m
theorem lstB_all {P : Hd → Prop} : ∀ (b : List (List Sm)) (i : Nat) (l : Int), allB P b → ∀ q ∈ (lstB b i l).1, allS P q.2
  | [], _, _, _, q, m => by simp only [lstB] at m; cases m
  | b :: bs, i, l, g, q, m => by
    simp only [allB] at g
    simp only [lstB] at m
    rcases List.mem_append.mp m with m | m
    · exact lstR_all b _ g.1 q m
    · exact lstB_all bs _ _ g.2 q m
theorem lstR_all {P : Hd → Prop} : ∀ (r : List Sm) (l : Int), allR P r → ∀ q ∈ (lstR r l).1, allS P q.2
  | [], _, _, q, m => by simp only [lstR] at m; cases m
  | s :: r, l, g, q, m => by
    simp only [allR] at g
    simp only [lstR] at m
    rcases List.mem_append.mp m with m | m
    · exact lstS_all s _ g.1 q m
    · exact lstR_all r _ g.2 q m
end
/-- of each statement among the first lines -/
theorem flR_all {P : Nat → Hd → Prop} : ∀ (ps : List Pt) (k : Nat) (l : Int), (∀ j x, ps[j]? = some x → allR (P (k + j)) x.rows) → ∀ r ∈ flR ps k l, ∀ x, r.2.2 = .s x → allS (P r.2.1) x
  | [], _, _, _, r, m, _, _ => by cases m
  | y :: ps, k, l, g, r, m, x, e => by
    rw [flR] at m
    rcases List.mem_append.mp m with m | m
    · unfold ptRows at m
      rcases List.mem_cons.mp m with e2 | m
      · subst e2; cases e
      · obtain ⟨q, hq, rfl⟩ := List.mem_map.mp m
        have e3 : q.2 = x := by injection e
        subst e3
        exact lstR_all _ _ (g 0 y rfl) q hq
    · refine flR_all ps (k + 1) _ (fun j z hz => ?_) r m x e
      have := g (j + 1) z (by simpa using hz)
      rwa [show k + (j + 1) = k + 1 + j by omega] at this
theorem keep_none {h : Hd} {l : Int} (hw : h.word ∉ ([("keep" : Str), "take", "shift"] : List Str)) : keepRow l h = none := by
  cases h with
  | keep s f cs => exact absurd (List.mem_cons_self) hw
  | take s cs => exact absurd (by simp [Hd.word]) hw
  | shift s t cs => exact absurd (by simp [Hd.word]) hw
  | _ => rfl
theorem d_keepings {K : PySem.W.Frag} {a : Ad} : ∀ as Qd, as.length = 1 → (S_keepings a) as Qd → td_keepings K a (fnEnds as Qd) (as ++ List.replicate (6 - 1) .un) := by
  rintro as Qd hl ⟨ps, rfl, hF, q⟩
  show td_keepings K a (fnEnds _ Qd) [.fz (partsD ps), .un, .un, .un, .un, .un]
  unfold td_keepings
  walk_at "du"
  intro v
  walk_at "du"
  refine ⟨ps, rfl, hF, ?_⟩
  walk_at "du"
  have hF' := formP_ord hF
  refine ⟨ordP ps, rfl, hF', ?_⟩
  walk_at "du"
  have hc := cntP_le hF'.1
  have h50 := hF'.2
  have hfl := flR_len (ordP ps) 0 1
  have hst := flR_all (P := fun _ => Hd.good) (ordP ps) 0 1 fun j x hx => (good_rows (hF'.1 x (List.mem_of_getElem? hx))).1
  have hw0 : (flR (ordP ps) 0 1).filterMap (fun r => r.2.2.keep r.1) = ((flR (ordP ps) 0 1).filter isStm).filterMap (fun r => r.2.2.keep r.1) := by
    rw [List.filterMap_filter]
    refine congrArg (fun f => List.filterMap f _) (funext ?_)
    rintro ⟨l, k, x⟩
    cases x <;> rfl
  refine for_inv (fun ds env => ∃ (ys : List D) (r : List Row) (s2 s3 s4 s5 : SD (nf a)), ds = r.map Row.enc ∧ env = [.fz (partsD ps), .ow (.ref v) (lstA K (nf a) ys), s2, s3, s4, s5] ∧ ys.length + r.length ≤ 100000 ∧ (∀ x ∈ r, ∃ l k h bs, x = (l, k, .s (.mk h bs)) ∧ bs.length = h.nb) ∧
    ys ++ r.filterMap (fun r => r.2.2.keep r.1) = keepsP ps) ?_ ?_ _ _ ⟨[], (flR (ordP ps) 0 1).filter isStm, .un, .un, .un, .un, rfl, rfl, ?_, ?_, ?_⟩
  · rintro x ds env R ⟨ys, r, s2, s3, s4, s5, hds, rfl, hy, hr, e⟩ hC
    match r, hds, hr, hy, e with
    | x :: r, hds, hr, hy, e =>
      simp only [List.map_cons] at hds
      obtain ⟨rfl, rfl⟩ := List.cons.inj hds
      obtain ⟨l, k, h, bs, rfl, hb⟩ := hr x List.mem_cons_self
      have hr' : ∀ x ∈ r, ∃ l k h bs, x = (l, k, It.s (.mk h bs)) ∧ bs.length = h.nb := fun y m => hr y (List.mem_cons_of_mem _ m)
      simp only [List.length_cons] at hy
      rw [List.filterMap_cons] at e
      have ek : It.keep l (.s (.mk h bs)) = keepRow l h := rfl
      simp only [ek] at e
      rw [show Row.enc (l, k, .s (.mk h bs)) = .tup [.int l, .int (k : Nat), .tup (.str h.word :: (h.items ++ encB bs))] from by show D.tup [_, _, encS _] = _; simp only [encS]]
      by_cases hw : h.word ∈ ([("keep" : Str), "take", "shift"] : List Str)
      · cases h with
        | keep s f cs =>
          obtain rfl := List.length_eq_zero_iff.mp hb
          show gT 3 _ (.tup [.int l, .int (k : Nat), .tup [.str "keep", .str s, .str f, capsD cs]]) _ _
          walk_at "du"
          refine appK_s rfl (by omega) (by walk_at "dn") ?_
          exact hC _ ⟨_, r, _, _, _, _, rfl, rfl, by simp; omega, hr', by rw [← e]; simp [keepRow]⟩
        | take s cs =>
          obtain rfl := List.length_eq_zero_iff.mp hb
          show gT 3 _ (.tup [.int l, .int (k : Nat), .tup [.str "take", .str s, capsD cs]]) _ _
          walk_at "du"
          refine appK_s rfl (by omega) (by walk_at "dn") ?_
          exact hC _ ⟨_, r, _, _, _, _, rfl, rfl, by simp; omega, hr', by rw [← e]; simp [keepRow]⟩
        | shift s t cs =>
          obtain rfl := List.length_eq_zero_iff.mp hb
          show gT 3 _ (.tup [.int l, .int (k : Nat), .tup [.str "shift", .str s, .str t, capsD cs]]) _ _
          walk_at "du"
          refine appK_s rfl (by omega) (by walk_at "dn") ?_
          exact hC _ ⟨_, r, _, _, _, _, rfl, rfl, by simp; omega, hr', by rw [← e]; simp [keepRow]⟩
        | look _ _ => exact absurd hw (by simp only [Hd.word]; decide +kernel)
        | bind _ _ _ => exact absurd hw (by simp only [Hd.word]; decide +kernel)
        | call _ => exact absurd hw (by simp only [Hd.word]; decide +kernel)
        | run _ => exact absurd hw (by simp only [Hd.word]; decide +kernel)
        | drop _ => exact absurd hw (by simp only [Hd.word]; decide +kernel)
        | apart => exact absurd hw (by simp only [Hd.word]; decide +kernel)
        | whn _ => exact absurd hw (by simp only [Hd.word]; decide +kernel)
        | held _ => exact absurd hw (by simp only [Hd.word]; decide +kernel)
        | fail => exact absurd hw (by simp only [Hd.word]; decide +kernel)
        | guard => exact absurd hw (by simp only [Hd.word]; decide +kernel)
      · rw [keep_none hw] at e
        walk_at "du"
        refine inTb_s (xs := [.str "keep", .str "take", .str "shift"]) rfl (decide_eq_false hw) ?_
        walk_at "du"
        exact hC _ ⟨_, r, _, _, _, _, rfl, rfl, by omega, hr', e⟩
  · rintro env ⟨ys, r, s2, s3, s4, s5, hds, rfl, _, _, e⟩
    have : r = [] := by cases r with
      | nil => rfl
      | cons _ _ => simp only [List.map_cons] at hds; cases hds
    subst this
    simp only [List.filterMap_nil, List.append_nil] at e
    subst e
    walk_at "du"
    exact q
  · have := List.length_filter_le isStm (flR (ordP ps) 0 1)
    simp only [List.length_nil]
    omega
  · rintro ⟨l, k, x⟩ m
    obtain ⟨m1, m2⟩ := List.mem_filter.mp m
    cases x with
    | p _ => cases m2
    | s x =>
      obtain ⟨h, bs⟩ := x
      have := hst _ m1 _ rfl
      simp only [allS] at this
      exact ⟨l, k, h, bs, rfl, this.2.1⟩
  · rw [List.nil_append, ← hw0]; rfl
open PySem L2 DL
theorem allT {nf : NFs} {xs : List D} {env : EV nf} {Q : D → EV nf → Prop} (h : Q (.bl true) env) : CbK fAll Q [.lst (xs.map fun _ => .bl true)] env :=
  cbK_s ⟨xs.map fun _ => true, by simp, by simp⟩ h
theorem len_cntR : ∀ r : List Sm, r.length ≤ cntR r
  | [] => Nat.zero_le _
  | .mk h bs :: r => by
    have := len_cntR r
    simp only [List.length_cons, cntR, cntS]
    omega
theorem d_is_listing {K : PySem.W.Frag} {a : Ad} : ∀ as Qd, as.length = 1 → (S_is_listing a) as Qd → td_is_listing K a (fnEnds as Qd) (as ++ List.replicate (2 - 1) .un) := by
  rintro as Qd hl ⟨cs, rfl, hc, hn, q⟩
  show td_is_listing K a (fnEnds _ Qd) [.fz (capsD cs), .un]
  unfold td_is_listing capsD
  walk_at "du"
  refine lc_map (fun _ => .bl true) rfl (fun x hx R r => ?_) (by simp; omega) ?_
  · obtain ⟨c, m, rfl⟩ := List.mem_map.mp hx
    show dCall 1 (S_is_identifier a) [] (mVal (dVar 1) mNil) [.fz (capsD cs), .fz (.str c)] R
    walk_at "du"
    refine ⟨c, rfl, by have := id_len (hc c m); omega, ?_⟩
    rw [hc c m]
    walk_at "du"
    exact r
  · walk_at "du"
    refine allT ?_
    walk_at "du"
    exact q
theorem d_is_value {K : PySem.W.Frag} {a : Ad} : ∀ as Qd, as.length = 1 → (S_is_value a) as Qd → td_is_value K a (fnEnds as Qd) (as ++ List.replicate (1 - 1) .un) := by
  rintro as Qd hl ⟨o, v, rfl, hv, q⟩
  cases o with
  | true =>
    have hv : isIdB v = true := by simpa using hv
    show td_is_value K a (fnEnds _ Qd) [.fz (.tup [.str "of", .str v])]
    unfold td_is_value
    walk_at "du"
    refine ⟨v, rfl, by have := id_len hv; omega, ?_⟩
    rw [hv]
    walk_at "du"
    exact q
  | false =>
    have hv : isWordB v = true := by simpa using hv
    show td_is_value K a (fnEnds _ Qd) [.fz (.tup [.str "word", .str v])]
    unfold td_is_value
    walk_at "du"
    refine ⟨v, rfl, by have := word_len hv; omega, ?_⟩
    rw [hv]
    walk_at "du"
    exact q
theorem d_is_access {K : PySem.W.Frag} {a : Ad} : ∀ as Qd, as.length = 1 → (S_is_access a) as Qd → td_is_access K a (fnEnds as Qd) (as ++ List.replicate (1 - 1) .un) := by
  rintro as Qd hl ⟨o, rfl, q⟩
  cases o with
  | true =>
    show td_is_access K a (fnEnds _ Qd) [.fz (.str "open")]
    unfold td_is_access
    walk_at "du"
    exact q
  | false =>
    show td_is_access K a (fnEnds _ Qd) [.fz (.str "own")]
    unfold td_is_access
    walk_at "du"
    exact q
theorem d_fits {K : PySem.W.Frag} {a : Ad} (n : Nat) : ∀ as Qd, as.length = 3 → (S_fits a (n + 1)) as Qd → td_fits K a n (fnEnds as Qd) (as ++ List.replicate (3 - 3) .un) := by
  rintro as Qd hl ⟨sh, x, b, rfl, _, hf, q⟩
  cases hf with
  | @word s h =>
    show td_fits K a n (fnEnds _ Qd) [.fz (.str "word"), .fz (.str s), .fz (.int b)]
    unfold td_fits
    walk_at "du"
    refine ⟨s, rfl, by have := word_len h; omega, ?_⟩
    rw [h]
    walk_at "du"
    exact q
  | @ident s h =>
    show td_fits K a n (fnEnds _ Qd) [.fz (.str "ident"), .fz (.str s), .fz (.int b)]
    unfold td_fits
    walk_at "du"
    refine ⟨s, rfl, by have := id_len h; omega, ?_⟩
    rw [h]
    walk_at "du"
    exact q
  | @value o v h =>
    show td_fits K a n (fnEnds _ Qd) [.fz (.str "value"), .fz (valD o v), .fz (.int b)]
    unfold td_fits
    walk_at "du"
    refine ⟨o, v, rfl, h, ?_⟩
    walk_at "du"
    exact q
  | @listing cs h h2 =>
    show td_fits K a n (fnEnds _ Qd) [.fz (.str "listing"), .fz (capsD cs), .fz (.int b)]
    unfold td_fits
    walk_at "du"
    refine ⟨cs, rfl, h, h2, ?_⟩
    walk_at "du"
    exact q
  | @rows rs h h2 h3 =>
    show td_fits K a n (fnEnds _ Qd) [.fz (.str "rows"), .fz (rowsD rs), .fz (.int b)]
    unfold td_fits
    walk_at "du"
    refine ⟨rs, b, rfl, by omega, h, h3, ?_⟩
    walk_at "du"
    exact q
theorem cntR_mem : ∀ {r : List Sm} {s : Sm}, s ∈ r → cntS s ≤ cntR r
  | y :: r, s, m => by
    simp only [cntR]
    rcases List.mem_cons.mp m with e | m
    · subst e; omega
    · have := cntR_mem m; omega
theorem goodR_mem {r : List Sm} (h : GoodR r) {s : Sm} (m : s ∈ r) : GoodS s :=
  ⟨allR_mem h.1 s m, Nat.le_trans (cntR_mem m) h.2.1, Nat.le_trans (hR_mem m) h.2.2⟩
theorem d_is_rows {K : PySem.W.Frag} {a : Ad} (n : Nat) : ∀ as Qd, as.length = 2 → (S_is_rows a (n + 1)) as Qd → td_is_rows K a n (fnEnds as Qd) (as ++ List.replicate (3 - 2) .un) := by
  rintro as Qd hl ⟨rs, b, rfl, hh, hg, hb, q⟩
  show td_is_rows K a n (fnEnds _ Qd) [.fz (rowsD rs), .fz (.int b), .un]
  unfold td_is_rows
  have hlen := len_cntR rs
  have hcn : cntR rs ≤ 1000 := hg.2.1
  have fin : dComp (gN 2) dYes (dCall 2 (S_is_statement a n) [] (mVal (dVar 2) (mVal (dVar 1) mNil))) [2] (encR rs) [] [.fz (rowsD rs), .fz (.int b), .un] (fun xs env => aNil env fun ds env => CbK fAll (fun x env => (fnEnds [.fz (rowsD rs), .fz (.int b)] Qd).rt x env) (.lst xs :: ds) env) := by
    refine lc_map (fun _ => .bl true) rfl (fun x hx R r => ?_) (by rw [encR_len]; omega) ?_
    · rw [encR_map] at hx
      obtain ⟨s, m, rfl⟩ := List.mem_map.mp hx
      show dCall 2 (S_is_statement a n) [] (mVal (dVar 2) (mVal (dVar 1) mNil)) [.fz (rowsD rs), .fz (.int b), .fz (encS s)] R
      have h1 := hR_mem m
      walk_at "du"
      refine ⟨s, b, rfl, by omega, goodR_mem hg m, by omega, ?_⟩
      walk_at "du"
      exact r
    · walk_at "du"
      refine allT ?_
      walk_at "du"
      exact q
  walk_at "du"
  refine ite_s (fun h1 => ?_) (fun h1 => ?_)
  · have h1' : 8 < b := by simpa [cGt] using h1
    have : rs = [] := by
      cases rs with
      | nil => rfl
      | cons s r =>
        have := hS_pos s
        simp only [hR] at hb
        omega
    subst this
    simp only [rowsD, encR] at fin ⊢
    walk_at "du"
    exact fin
  · walk_at "du"
    exact fin
/-- the shape of a statement -/
def shp : Hd → List Str
  | .look _ _ => ["word", "ident"] | .bind _ _ _ => ["ident", "value", "rows"] | .call _ => ["ident"] | .keep _ _ _ => ["ident", "ident", "listing"] | .take _ _ => ["ident", "listing"] | .shift _ _ _ => ["ident", "ident", "listing"]
  | .run _ => ["ident"] | .drop _ => ["ident"] | .apart => ["rows"] | .whn _ => ["ident", "rows", "rows"] | .held _ => ["ident", "rows", "rows"] | .fail => [] | .guard => ["rows", "rows"]
theorem shp_look (h : Hd) : SHAPESl.lookup h.word = some (.tup ((shp h).map .str)) := by cases h <;> rfl
theorem shp_len {h : Hd} {bs : List (List Sm)} (hb : bs.length = h.nb) : (h.items ++ encB bs).length = (shp h).length := by
  rw [List.length_append, encB_len, hb]
  cases h <;> rfl
theorem nb0 {α : Type} {l : List α} (h : l.length = 0) : l = [] := List.length_eq_zero_iff.mp h
theorem nb1 {α : Type} {l : List α} (h : l.length = 1) : ∃ x, l = [x] := by
  match l, h with
  | [x], _ => exact ⟨x, rfl⟩
theorem shp_fit {n : Nat} {b : Int} {h : Hd} {bs : List (List Sm)} (g : h.good) (hb : bs.length = h.nb) (hr : ∀ r ∈ bs, Fit n b "rows" (rowsD r)) :
    ∀ p ∈ zipD ((shp h).map .str) (h.items ++ encB bs), ∃ sh x, p = .tup [.str sh, x] ∧ Fit n b sh x := by
  cases h <;> simp only [Hd.nb] at hb <;> simp only [Hd.good] at g
  case look w i =>
    obtain rfl := nb0 hb
    intro p m
    simp only [shp, Hd.items, encB, List.map_cons, List.map_nil, List.append_nil, zipD, List.mem_cons, List.not_mem_nil, or_false] at m
    rcases m with rfl | rfl
    · exact ⟨_, _, rfl, .word g.1⟩
    · exact ⟨_, _, rfl, .ident g.2⟩
  case bind i o v =>
    obtain ⟨r, rfl⟩ := nb1 hb
    intro p m
    simp only [shp, Hd.items, encB, List.map_cons, List.map_nil, List.cons_append, List.nil_append, zipD, List.mem_cons, List.not_mem_nil, or_false] at m
    rcases m with rfl | rfl | rfl
    · exact ⟨_, _, rfl, .ident g.1⟩
    · exact ⟨_, _, rfl, .value g.2⟩
    · exact ⟨_, _, rfl, hr r List.mem_cons_self⟩
  case call i =>
    obtain rfl := nb0 hb
    intro p m
    simp only [shp, Hd.items, encB, List.map_cons, List.map_nil, List.append_nil, zipD, List.mem_cons, List.not_mem_nil, or_false] at m
    subst m
    exact ⟨_, _, rfl, .ident g⟩
  case keep s f cs =>
    obtain rfl := nb0 hb
    intro p m
    simp only [shp, Hd.items, encB, List.map_cons, List.map_nil, List.append_nil, zipD, List.mem_cons, List.not_mem_nil, or_false] at m
    rcases m with rfl | rfl | rfl
    · exact ⟨_, _, rfl, .ident g.1⟩
    · exact ⟨_, _, rfl, .ident g.2.1⟩
    · exact ⟨_, _, rfl, .listing g.2.2.2 g.2.2.1⟩
  case take s cs =>
    obtain rfl := nb0 hb
    intro p m
    simp only [shp, Hd.items, encB, List.map_cons, List.map_nil, List.append_nil, zipD, List.mem_cons, List.not_mem_nil, or_false] at m
    rcases m with rfl | rfl
    · exact ⟨_, _, rfl, .ident g.1⟩
    · exact ⟨_, _, rfl, .listing g.2.2 g.2.1⟩
  case shift s f cs =>
    obtain rfl := nb0 hb
    intro p m
    simp only [shp, Hd.items, encB, List.map_cons, List.map_nil, List.append_nil, zipD, List.mem_cons, List.not_mem_nil, or_false] at m
    rcases m with rfl | rfl | rfl
    · exact ⟨_, _, rfl, .ident g.1⟩
    · exact ⟨_, _, rfl, .ident g.2.1⟩
    · exact ⟨_, _, rfl, .listing g.2.2.2 g.2.2.1⟩
  case run i =>
    obtain rfl := nb0 hb
    intro p m
    simp only [shp, Hd.items, encB, List.map_cons, List.map_nil, List.append_nil, zipD, List.mem_cons, List.not_mem_nil, or_false] at m
    subst m
    exact ⟨_, _, rfl, .ident g⟩
  case drop i =>
    obtain rfl := nb0 hb
    intro p m
    simp only [shp, Hd.items, encB, List.map_cons, List.map_nil, List.append_nil, zipD, List.mem_cons, List.not_mem_nil, or_false] at m
    subst m
    exact ⟨_, _, rfl, .ident g⟩
  case apart =>
    obtain ⟨r, rfl⟩ := nb1 hb
    intro p m
    simp only [shp, Hd.items, encB, List.map_cons, List.map_nil, List.cons_append, List.nil_append, zipD, List.mem_cons, List.not_mem_nil, or_false] at m
    subst m
    exact ⟨_, _, rfl, hr r List.mem_cons_self⟩
  case whn f =>
    obtain ⟨r, r2, rfl⟩ := len2 hb
    intro p m
    simp only [shp, Hd.items, encB, List.map_cons, List.map_nil, List.cons_append, List.nil_append, zipD, List.mem_cons, List.not_mem_nil, or_false] at m
    rcases m with rfl | rfl | rfl
    · exact ⟨_, _, rfl, .ident g⟩
    · exact ⟨_, _, rfl, hr r List.mem_cons_self⟩
    · exact ⟨_, _, rfl, hr r2 (List.mem_cons_of_mem _ List.mem_cons_self)⟩
  case held f =>
    obtain ⟨r, r2, rfl⟩ := len2 hb
    intro p m
    simp only [shp, Hd.items, encB, List.map_cons, List.map_nil, List.cons_append, List.nil_append, zipD, List.mem_cons, List.not_mem_nil, or_false] at m
    rcases m with rfl | rfl | rfl
    · exact ⟨_, _, rfl, .ident g⟩
    · exact ⟨_, _, rfl, hr r List.mem_cons_self⟩
    · exact ⟨_, _, rfl, hr r2 (List.mem_cons_of_mem _ List.mem_cons_self)⟩
  case fail =>
    intro p m
    simp only [shp, List.map_nil, zipD] at m
    cases m
  case guard =>
    obtain ⟨r, r2, rfl⟩ := len2 hb
    intro p m
    simp only [shp, Hd.items, encB, List.map_cons, List.map_nil, List.cons_append, List.nil_append, zipD, List.mem_cons, List.not_mem_nil, or_false] at m
    rcases m with rfl | rfl
    · exact ⟨_, _, rfl, hr r List.mem_cons_self⟩
    · exact ⟨_, _, rfl, hr r2 (List.mem_cons_of_mem _ List.mem_cons_self)⟩
theorem cntB_mem : ∀ {r : List (List Sm)} {s : List Sm}, s ∈ r → cntR s ≤ cntB r
  | y :: r, s, m => by
    simp only [cntB]
    rcases List.mem_cons.mp m with e | m
    · subst e; omega
    · have := cntB_mem m; omega
theorem d_is_statement {K : PySem.W.Frag} {a : Ad} (n : Nat) : ∀ as Qd, as.length = 2 → (S_is_statement a (n + 1)) as Qd → td_is_statement K a n (fnEnds as Qd) (as ++ List.replicate (5 - 2) .un) := by
  rintro as Qd hl ⟨⟨h, bs⟩, b, rfl, hh, hg, hb, q⟩
  show td_is_statement K a n (fnEnds _ Qd) [.fz (encS (.mk h bs)), .fz (.int b), .un, .un, .un]
  obtain ⟨hnb, hgd, gb, hcb, hhb⟩ := goodS_bs hg
  simp only [hS] at hh hb
  have hfit := shp_fit (n := n) (b := b + 1) hgd hnb fun r m => by
    have h1 := hB_mem m
    have h2 := cntB_mem m
    exact .rows ⟨allB_mem gb r m, by omega, by omega⟩ (by omega) (by omega)
  have hlen := shp_len hnb
  simp only [encS]
  unfold td_is_statement
  walk_at "du"
  refine iteF_s (by rw [shp_look h]; rfl) ?_
  walk_at "du"
  refine kIxK_s (shp_look h) ?_
  walk_at "du"
  refine iteF_s (by simp [← hlen]) ?_
  walk_at "du"
  rw [cutD_drop1]
  walk_at "du"
  have hz : (zipD ((shp h).map .str) (h.items ++ encB bs)).length ≤ 100 := by
    rw [zipD_len, List.length_map]
    have : (shp h).length ≤ 3 := by cases h <;> simp only [shp] <;> decide
    omega
  refine lc_inv (fun ds acc env => (∀ p ∈ ds, ∃ sh x, p = .tup [.str sh, x] ∧ Fit n (b + 1) sh x) ∧ acc.length + ds.length ≤ 100 ∧ (∃ bs : List Unit, acc = bs.map fun _ => .bl true) ∧ env = [.fz (.tup (.str h.word :: (h.items ++ encB bs))), .fz (.int b), .fz (.tup ((shp h).map .str)), .un, .un]) ?_ ?_ _ _ _ ⟨hfit, by simpa using hz, ⟨[], rfl⟩, rfl⟩
  · rintro x ds acc env R ⟨hp, hc, ⟨us, rfl⟩, rfl⟩ hC
    obtain ⟨sh, x, rfl, hf⟩ := hp _ List.mem_cons_self
    simp only [List.length_cons] at hc
    walk_at "du"
    refine ⟨sh, x, b + 1, rfl, by omega, hf, ?_⟩
    walk_at "du"
    refine ⟨by omega, ?_⟩
    exact hC _ _ ⟨fun p m => hp p (List.mem_cons_of_mem _ m), by simp; simp at hc; omega, ⟨us ++ [()], by simp⟩, rfl⟩
  · rintro acc env ⟨_, _, ⟨us, rfl⟩, rfl⟩
    walk_at "du"
    refine cbK_s ⟨us.map fun _ => true, by simp, rfl⟩ ?_
    rw [show (us.map fun _ => true).all id = true by simp]
    walk_at "du"
    simp only [encS] at q
    exact q
theorem d_is_part {K : PySem.W.Frag} {a : Ad} : ∀ as Qd, as.length = 1 → (S_is_part a) as Qd → td_is_part K a (fnEnds as Qd) (as ++ List.replicate (1 - 1) .un) := by
  rintro as Qd hl ⟨x, rfl, hg, q⟩
  cases x with
  | func i o rs =>
    have hi : isIdB i = true := hg.1
    have h9 : hR rs ≤ 9 := hg.2.2.1
    show td_is_part K a (fnEnds _ Qd) [.fz (.tup [.str "func", .str i, .str (accS o), rowsD rs])]
    unfold td_is_part
    walk_at "du"
    refine ⟨i, rfl, by have := id_len hi; omega, ?_⟩
    rw [hi]
    walk_at "du"
    refine ⟨o, rfl, ?_⟩
    walk_at "du"
    refine ⟨rs, 0, rfl, by omega, good_rows hg, by omega, ?_⟩
    walk_at "du"
    exact q
  | name i w =>
    have hi : isIdB i = true := hg.1
    have hw : isWordB w = true := hg.2
    show td_is_part K a (fnEnds _ Qd) [.fz (.tup [.str "name", .str i, .str w])]
    unfold td_is_part
    walk_at "du"
    refine ⟨i, rfl, by have := id_len hi; omega, ?_⟩
    rw [hi]
    walk_at "du"
    refine ⟨w, rfl, by have := word_len hw; omega, ?_⟩
    rw [hw]
    walk_at "du"
    exact q
  | flag i w =>
    have hi : isIdB i = true := hg.1
    have hw : w = "on" ∨ w = "off" := hg.2
    show td_is_part K a (fnEnds _ Qd) [.fz (.tup [.str "flag", .str i, .str w])]
    unfold td_is_part
    walk_at "du"
    refine ⟨i, rfl, by have := id_len hi; omega, ?_⟩
    rw [hi]
    walk_at "du"
    refine ⟨w, rfl, ?_⟩
    rw [show (decide (w = "on") || decide (w = "off")) = true by simpa using hw]
    walk_at "du"
    exact q
  | slot i o =>
    have hi : isIdB i = true := hg
    show td_is_part K a (fnEnds _ Qd) [.fz (.tup [.str "slot", .str i, .str (accS o)])]
    unfold td_is_part
    walk_at "du"
    refine ⟨i, rfl, by have := id_len hi; omega, ?_⟩
    rw [hi]
    walk_at "du"
    refine ⟨o, rfl, ?_⟩
    walk_at "du"
    exact q
theorem d_check_form {K : PySem.W.Frag} {a : Ad} : ∀ as Qd, as.length = 1 → (S_check_form a) as Qd → td_check_form K a (fnEnds as Qd) (as ++ List.replicate (3 - 1) .un) := by
  rintro as Qd hl ⟨ps, rfl, hF, q⟩
  show td_check_form K a (fnEnds _ Qd) [.fz (partsD ps), .un, .un]
  unfold td_check_form
  walk_at "du"
  refine for_inv (fun ds env => ∃ (k : Nat) (r : List Pt) (s1 s2 : SD (nf a)), ds = enumD k (r.map Pt.enc) ∧ env = [.fz (partsD ps), s1, s2] ∧ ∀ x ∈ r, x.good) ?_ ?_ _ _ ⟨0, ps, .un, .un, rfl, rfl, hF.1⟩
  · rintro x ds env R ⟨k, r, s1, s2, hds, rfl, hr⟩ hC
    match r, hds, hr with
    | x :: r, hds, hr =>
      obtain ⟨rfl, rfl⟩ := List.cons.inj hds
      walk_at "du"
      refine ⟨x, rfl, hr x List.mem_cons_self, ?_⟩
      walk_at "du"
      exact hC _ ⟨k + 1, r, _, _, rfl, rfl, fun y m => hr y (List.mem_cons_of_mem _ m)⟩
  · rintro env ⟨k, r, s1, s2, hds, rfl, hr⟩
    walk_at "du"
    exact q
open PySem L2 DL
def declR (r : Row) : Option (Key × D) := match r.2.2 with | .p x => some (.inr x.id, .tup [.str x.kind, .int (r.2.1 : Nat)]) | .s _ => none
theorem declR_rows (x : Pt) (k : Nat) (l : Int) : (ptRows x k l).filterMap declR = [(.inr x.id, .tup [.str x.kind, .int (k : Nat)])] := by
  unfold ptRows
  rw [List.filterMap_cons]
  show (_ :: List.filterMap declR _) = _
  rw [List.filterMap_eq_nil_iff.mpr]
  intro r hr
  obtain ⟨q, _, rfl⟩ := List.mem_map.mp hr
  rfl
theorem decl_rows : ∀ (ps : List Pt) (k : Nat) (l : Int), (flR ps k l).filterMap declR = declD ps k
  | [], _, _ => rfl
  | x :: ps, k, l => by rw [flR, List.filterMap_append, declR_rows, decl_rows ps]; rfl
theorem decl_keys : ∀ (ps : List Pt) (k : Nat), (declD ps k).map (·.1) = ps.map fun x => (Sum.inr x.id : Key)
  | [], _ => rfl
  | x :: ps, k => by rw [declD, List.map_cons, decl_keys ps]; rfl
theorem decl_nd {ps : List Pt} (h : (ps.map Pt.id).Nodup) (k : Nat) : ((declD ps k).map (·.1)).Nodup := by
  rw [decl_keys]
  unfold List.Nodup at h ⊢
  rw [List.pairwise_map] at h ⊢
  exact h.imp fun n e => n (Sum.inr.inj e)
theorem decl_mem : ∀ {ps : List Pt} {k j : Nat} {x : Pt}, ps[j]? = some x → ((.inr x.id : Key), D.tup [.str x.kind, .int ((k + j : Nat) : Int)]) ∈ declD ps k
  | [], _, _, _, e => by simp at e
  | y :: ps, k, 0, x, e => by
    simp at e
    subst e
    exact List.mem_cons_self
  | y :: ps, k, j + 1, x, e => by
    have := decl_mem (ps := ps) (k := k + 1) (j := j) (x := x) (by simpa using e)
    rw [show k + 1 + j = k + (j + 1) by omega] at this
    exact List.mem_cons_of_mem _ this
theorem decl_at {ps : List Pt} {j : Nat} {x : Pt} (h : (ps.map Pt.id).Nodup) (e : ps[j]? = some x) : DL.valD (declD ps 0) (.inr x.id) = some (.tup [.str x.kind, .int (j : Nat)]) := by
  have := decl_mem (k := 0) e
  rw [Nat.zero_add] at this
  exact valD_of (decl_nd h 0) this
theorem decl_no {ps : List Pt} {i : Str} (h : i ∉ ps.map Pt.id) : DL.valD (declD ps 0) (.inr i) = none := by
  rw [valD_none, decl_keys]
  intro m
  obtain ⟨x, hx, e⟩ := List.mem_map.mp m
  exact h (List.mem_map.mpr ⟨x, hx, Sum.inr.inj e⟩)
theorem kind_at {ps : List Pt} {j : Nat} {x : Pt} (h : (ps.map Pt.id).Nodup) (e : ps[j]? = some x) : kindD ps x.id = .str x.kind := by
  have hx := List.mem_of_getElem? e
  unfold kindD
  cases hf : ps.find? fun y => decide (y.id = x.id) with
  | none => exact absurd (List.find?_eq_none.mp hf x hx) (by simp)
  | some y =>
    have hy := List.mem_of_find?_eq_some hf
    have hi : y.id = x.id := by simpa using List.find?_some hf
    obtain ⟨l, el⟩ := List.getElem?_of_mem hy
    have h1 : (ps.map Pt.id)[j]? = some x.id := by rw [List.getElem?_map, e]; rfl
    have h2 : (ps.map Pt.id)[l]? = some x.id := by rw [List.getElem?_map, el, Option.map_some, hi]
    obtain ⟨b1, e1⟩ := List.getElem?_eq_some_iff.mp h1
    have : j = l := (List.getElem?_inj b1 h).mp (h1.trans h2.symm)
    subst this
    rw [e] at el
    cases el
    rfl
theorem kind_no {ps : List Pt} {i : Str} (h : i ∉ ps.map Pt.id) : kindD ps i = .non := by
  unfold kindD
  cases hf : ps.find? fun y => decide (y.id = i) with
  | none => rfl
  | some y =>
    have hi : y.id = i := by simpa using List.find?_some hf
    exact absurd (List.mem_map.mpr ⟨y, List.mem_of_find?_eq_some hf, hi⟩) h
theorem kinds_at {ps : List Pt} {j : Nat} {k i : Str} (e : (kinds ps)[j]? = some (k, i)) : ∃ x, ps[j]? = some x ∧ x.kind = k ∧ x.id = i := by
  unfold kinds at e
  rw [List.getElem?_map] at e
  cases h : ps[j]? with
  | none => rw [h] at e; cases e
  | some x =>
    rw [h] at e
    cases e
    exact ⟨x, rfl, rfl, rfl⟩
theorem kinds_mem {ps : List Pt} {k i : Str} (h : (ps.map Pt.id).Nodup) (e : (k, i) ∈ kinds ps) : kindD ps i = .str k := by
  obtain ⟨j, ej⟩ := List.getElem?_of_mem e
  obtain ⟨x, ex, rfl, rfl⟩ := kinds_at ej
  exact kind_at h ex
theorem kinds_val {ps : List Pt} {j : Nat} {k i : Str} (h : (ps.map Pt.id).Nodup) (e : (kinds ps)[j]? = some (k, i)) : DL.valD (declD ps 0) (.inr i) = some (.tup [.str k, .int (j : Nat)]) := by
  obtain ⟨x, ex, rfl, rfl⟩ := kinds_at e
  exact decl_at h ex
theorem d_declared_parts {K : PySem.W.Frag} {a : Ad} : ∀ as Qd, as.length = 2 → (S_declared_parts a) as Qd → td_declared_parts K a (fnEnds as Qd) (as ++ List.replicate (7 - 2) .un) := by
  rintro as Qd hl ⟨ps, ls, rfl, hF, hls, hnd, q⟩
  show td_declared_parts K a (fnEnds _ Qd) [.fz (partsD ps), .fz (.lst (ls.map .int)), .un, .un, .un, .un, .un]
  unfold td_declared_parts
  walk_at "du"
  intro v
  walk_at "du"
  refine ⟨ps, rfl, hF, ?_⟩
  walk_at "du"
  have hc := cntP_le hF.1
  have h50 := hF.2
  have hfl := flR_len ps 0 1
  refine for_inv (fun ds env => ∃ (kds : List (Key × D)) (ls' : List Int) (r : List Row) (s3 s4 s5 s6 : SD (nf a)), ds = zipD (ls'.map .int) (r.map Row.enc) ∧ ls'.length = r.length ∧ env = [.fz (partsD ps), .fz (.lst (ls.map .int)), .ow (.ref v) (dctA K (nf a) kds), s3, s4, s5, s6] ∧ kds.length + r.length ≤ 100000 ∧
    kds ++ r.filterMap declR = declD ps 0) ?_ ?_ _ _ ⟨[], ls, flR ps 0 1, .un, .un, .un, .un, rfl, by omega, rfl, by simp only [List.length_nil]; omega, by rw [decl_rows]; rfl⟩
  · rintro x ds env R ⟨kds, ls', r, s3, s4, s5, s6, hds, hlr, rfl, hk, e⟩ hC
    match ls', r, hds, hlr, e with
    | l' :: ls', x :: r, hds, hlr, e =>
      obtain ⟨rfl, rfl⟩ := List.cons.inj hds
      obtain ⟨l, k, y⟩ := x
      simp only [List.length_cons] at hlr hk
      obtain ⟨w, t, ey, d⟩ := it_first y
      cases y with
      | s y =>
        rw [List.filterMap_cons] at e
        have e : kds ++ r.filterMap declR = declD ps 0 := e
        show gT 2 _ (.tup [.int l', .tup [.int l, .int (k : Nat), (It.s y).enc]]) _ _
        rw [ey]
        walk_at "du"
        refine inTb_s (xs := [.str "name", .str "flag", .str "slot", .str "func"]) (ss := partL) rfl d ?_
        walk_at "du"
        exact hC _ ⟨kds, ls', r, _, _, _, _, rfl, by omega, rfl, by omega, e⟩
      | p y =>
        rw [List.filterMap_cons] at e
        have e : kds ++ ((.inr y.id, .tup [.str y.kind, .int (k : Nat)]) :: r.filterMap declR) = declD ps 0 := e
        obtain ⟨t2, ey2, ht2⟩ := pad_first y
        have hno : (Sum.inr y.id : Key) ∉ kds.map (·.1) := by
          have nd := decl_nd hnd 0
          rw [← e, List.map_append, List.nodup_append] at nd
          intro m
          exact nd.2.2 _ m _ (by rw [List.map_cons]; exact List.mem_cons_self) rfl
        show gT 2 _ (.tup [.int l', .tup [.int l, .int (k : Nat), y.enc]]) _ _
        rw [ey2]
        walk_at "du"
        refine inTb_s (xs := [.str "name", .str "flag", .str "slot", .str "func"]) (ss := partL) rfl (decide_eq_true (kind_in y)) ?_
        walk_at "du"
        refine ixT_s (z := .str y.id) (by rw [atI_of (by decide) (by simp; omega)]; rfl) ?_
        walk_at "du"
        refine iteF_s (by rw [valD_none.mpr hno]; rfl) ?_
        walk_at "du"
        refine ixT_s (z := .str y.id) (by rw [atI_of (by decide) (by simp; omega)]; rfl) ?_
        refine dPutK2_s rfl rfl (by omega) rfl ?_
        rw [putD_out hno]
        exact hC _ ⟨_, ls', r, _, _, _, _, rfl, by omega, rfl, by simp; omega, by rw [← e]; simp⟩
  · rintro env ⟨kds, ls', r, s3, s4, s5, s6, hds, hlr, rfl, hk, e⟩
    have : r = [] := by
      match ls', r, hlr with
      | [], [], _ => rfl
      | _ :: _, _ :: _, _ => simp only [List.map_cons, zipD] at hds; cases hds
    subst this
    simp only [List.filterMap_nil, List.append_nil] at e
    subst e
    walk_at "du"
    exact q
theorem d_kind_of {K : PySem.W.Frag} {a : Ad} : ∀ as Qd, as.length = 2 → (S_kind_of a) as Qd → td_kind_of K a (fnEnds as Qd) (as ++ List.replicate (2 - 2) .un) := by
  rintro as Qd hl ⟨ps, i, rfl, hnd, q⟩
  show td_kind_of K a (fnEnds _ Qd) [.fz (.str i), .fz (.dct (declD ps 0))]
  unfold td_kind_of
  walk_at "du"
  by_cases h : i ∈ ps.map Pt.id
  · obtain ⟨x, hx, rfl⟩ := List.mem_map.mp h
    obtain ⟨j, ej⟩ := List.getElem?_of_mem hx
    have ev := decl_at hnd ej
    have ek := kind_at hnd ej
    rw [ek] at q
    refine ⟨.bl false, by simp [ninF, inF, inD, DL.keyOf, ev], ?_⟩
    walk_at "du"
    refine ixDct_s (k := .inr x.id) rfl ev ?_
    walk_at "du"
    exact q
  · have ev := decl_no h
    rw [kind_no h] at q
    refine ⟨.bl true, by simp [ninF, inF, inD, DL.keyOf, ev], ?_⟩
    walk_at "du"
    exact q
open PySem L2 DL
def wl : Hd → List D
  | .look _ _ => [wnt 2 ["name"]] | .bind _ _ _ => [wnt 1 ["name", "flag"]] | .call _ => [wnt 1 ["func"]] | .keep _ _ _ => [wnt 1 ["slot"], wnt 2 ["func"]] | .take _ _ => [wnt 1 ["slot"]] | .shift _ _ _ => [wnt 1 ["slot"], wnt 2 ["slot"]]
  | .run _ => [wnt 1 ["slot"]] | .drop _ => [wnt 1 ["slot"]] | .apart => [] | .whn _ => [wnt 1 ["flag"]] | .held _ => [wnt 1 ["slot"]] | .fail => [] | .guard => []
theorem wl_look (h : Hd) : WANTEDl.lookup h.word = some (.tup (wl h)) := by cases h <;> rfl
def WlOk (ps : List Pt) (h : Hd) (bs : List (List Sm)) (d : D) : Prop := ∃ (k : Int) (ks : List Str) (i kd : Str), d = wnt k ks ∧ atI (.str h.word :: (h.items ++ encB bs)) k = some (.str i) ∧ kindD ps i = .str kd ∧ kd ∈ ks
theorem wl_ok {ps : List Pt} {h : Hd} {bs : List (List Sm)} {p : Nat} (hnd : (ps.map Pt.id).Nodup) (r : okH (kinds ps) p h) : ∀ d ∈ wl h, WlOk ps h bs d := by
  have at1 : ∀ (x y : D) (r : List D), atI (x :: y :: r) 1 = some y := fun x y r => by rw [atI_of (by decide) (by simp; omega)]; rfl
  have at2 : ∀ (x y z : D) (r : List D), atI (x :: y :: z :: r) 2 = some z := fun x y z r => by rw [atI_of (by decide) (by simp; omega)]; rfl
  have km : ∀ {k i : Str}, (k, i) ∈ kinds ps → kindD ps i = .str k := fun m => kinds_mem hnd m
  have ka : ∀ {j : Nat} {k i : Str}, (kinds ps)[j]? = some (k, i) → kindD ps i = .str k := fun m => kinds_mem hnd (List.mem_of_getElem? m)
  intro d m
  cases h <;> simp only [wl, List.mem_cons, List.not_mem_nil, or_false] at m <;> simp only [okH] at r
  case look w i => subst m; exact ⟨2, _, i, _, rfl, at2 _ _ _ _, km r, by simp⟩
  case bind i o v =>
    subst m
    obtain ⟨k, hk, m, _⟩ := r
    exact ⟨1, _, i, k, rfl, at1 _ _ _, km m, by rcases hk with rfl | rfl <;> simp⟩
  case call i =>
    subst m
    obtain ⟨j, _, e⟩ := r
    exact ⟨1, _, i, _, rfl, at1 _ _ _, ka e, by simp⟩
  case keep s f cs =>
    obtain ⟨⟨j, l, _, e1, e2⟩, _⟩ := r
    rcases m with rfl | rfl
    · exact ⟨1, _, s, _, rfl, at1 _ _ _, ka e2, by simp⟩
    · exact ⟨2, _, f, _, rfl, at2 _ _ _ _, ka e1, by simp⟩
  case take s cs => subst m; exact ⟨1, _, s, _, rfl, at1 _ _ _, km r.1, by simp⟩
  case shift s t cs =>
    obtain ⟨⟨j, l, _, e1, e2⟩, _⟩ := r
    rcases m with rfl | rfl
    · exact ⟨1, _, s, _, rfl, at1 _ _ _, ka e1, by simp⟩
    · exact ⟨2, _, t, _, rfl, at2 _ _ _ _, ka e2, by simp⟩
  case run i =>
    subst m
    obtain ⟨j, _, e⟩ := r
    exact ⟨1, _, i, _, rfl, at1 _ _ _, ka e, by simp⟩
  case drop i => subst m; exact ⟨1, _, i, _, rfl, at1 _ _ _, km r, by simp⟩
  case whn i => subst m; exact ⟨1, _, i, _, rfl, at1 _ _ _, km r, by simp⟩
  case held i => subst m; exact ⟨1, _, i, _, rfl, at1 _ _ _, km r, by simp⟩
/-- the names that a statement captures -/
def Hd.cs : Hd → List Str | .keep _ _ cs => cs | .take _ cs => cs | .shift _ _ cs => cs | _ => []
def keepL : List Str := ["keep", "take", "shift"]
theorem caps_ok {hs : List (Str × Str)} {p : Nat} {h : Hd} (r : okH hs p h) : okCaps hs h.cs := by
  have n : okCaps hs [] := ⟨List.nodup_nil, fun c m => by cases m⟩
  cases h with
  | keep s f cs => exact r.2
  | take s cs => exact r.2
  | shift s t cs => exact r.2
  | _ => exact n
theorem d_check_known {K : PySem.W.Frag} {a : Ad} : ∀ as Qd, as.length = 3 → (S_check_known a) as Qd → td_check_known K a (fnEnds as Qd) (as ++ List.replicate (7 - 3) .un) := by
  rintro as Qd hl ⟨ps, l, ⟨h, bs⟩, p, rfl, hnd, hb, hg, hr, q⟩
  show td_check_known K a (fnEnds _ Qd) [.fz (.int l), .fz (encS (.mk h bs)), .fz (.dct (declD ps 0)), .un, .un, .un, .un]
  have hr : okH (kinds ps) p h := hr
  have hb : bs.length = h.nb := hb
  have hw := wl_ok (bs := bs) hnd hr
  have hcs := caps_ok hr
  simp only [encS] at q ⊢
  unfold td_check_known
  walk_at "du"
  refine kIxK_s (wl_look h) ?_
  walk_at "du"
  refine for_inv (fun ds env => (∀ d ∈ ds, WlOk ps h bs d) ∧ ∃ s4 s5 : SD (nf a), env = [.fz (.int l), .fz (.tup (.str h.word :: (h.items ++ encB bs))), .fz (.dct (declD ps 0)), .fz (.str h.word), s4, s5, .un]) ?_ ?_ _ _ ⟨hw, .un, .un, rfl⟩
  · rintro x ds env R ⟨hd, s4, s5, rfl⟩ hC
    obtain ⟨k, ks, i, kd, rfl, ea, ek, em⟩ := hd x List.mem_cons_self
    walk_at "du"
    refine ixT_s ea ?_
    walk_at "du"
    refine ⟨ps, i, rfl, hnd, ?_⟩
    rw [ek]
    walk_at "du"
    refine ninTb_s (ss := ks) (strsOf_map ks) (decide_eq_true em) ?_
    walk_at "du"
    exact hC _ ⟨fun d m => hd d (List.mem_cons_of_mem _ m), _, _, rfl⟩
  · rintro env ⟨_, s4, s5, rfl⟩
    have caps : ∀ (sl : SD (nf a)) (x : D) (cs : List Str), okCaps (kinds ps) cs → ∀ De : EndsD (nf a), (∀ s6 : SD (nf a), De.nx [.fz (.int l), .fz x, .fz (.dct (declD ps 0)), .fz (.str h.word), s4, s5, s6]) →
        dFor (gN 6) (sIf (dBv (dF ninF (dCall 2 (S_kind_of a) [] (mVal (dVar 6) (mVal (dVar 2) mNil))) (dC boundw))) sNever sNext) (cs.map .str) De [.fz (.int l), .fz x, .fz (.dct (declD ps 0)), .fz (.str h.word), s4, s5, .un] := by
      intro sl x cs hc De hn
      refine for_inv (fun ds env => (∃ r : List Str, ds = r.map .str ∧ ∀ c ∈ r, c ∈ cs) ∧ ∃ s6 : SD (nf a), env = [.fz (.int l), .fz x, .fz (.dct (declD ps 0)), .fz (.str h.word), s4, s5, s6]) ?_ ?_ _ _ ⟨⟨cs, rfl, fun _ m => m⟩, .un, rfl⟩
      · rintro y ds env R ⟨⟨r, hds, hm⟩, s6, rfl⟩ hC
        match r, hds, hm with
        | c :: r, hds, hm =>
          obtain ⟨rfl, rfl⟩ := List.cons.inj hds
          obtain ⟨k, hk, mk⟩ := hc.2 c (hm c List.mem_cons_self)
          walk_at "du"
          refine ⟨ps, c, rfl, hnd, ?_⟩
          rw [kinds_mem hnd mk]
          walk_at "du"
          refine ninTb_s (xs := [.str "name", .str "flag"]) (ss := ["name", "flag"]) rfl (decide_eq_true (by rcases hk with rfl | rfl <;> simp)) ?_
          walk_at "du"
          exact hC _ ⟨⟨r, rfl, fun c m => hm c (List.mem_cons_of_mem _ m)⟩, _, rfl⟩
      · rintro env ⟨_, s6, rfl⟩
        exact hn s6
    cases h with
    | bind i o v =>
      obtain ⟨r, rfl⟩ := nb1 hb
      obtain ⟨k, hk, mi, ho, _⟩ := hr
      cases o with
      | true =>
        simp only [Hd.word, Hd.items, encB, capsD, K12.valD, if_true, if_false, Bool.false_eq_true, List.cons_append, List.nil_append, List.append_nil]
        walk_at "du"
        refine ⟨ps, v, rfl, hnd, ?_⟩
        rw [kinds_mem hnd (ho rfl)]
        walk_at "du"
        refine ⟨ps, i, rfl, hnd, ?_⟩
        rw [kinds_mem hnd mi]
        walk_at "du"
        refine iteF_s (by simp) ?_
        walk_at "du"
        exact q
      | false =>
        simp only [Hd.word, Hd.items, encB, capsD, K12.valD, if_true, if_false, Bool.false_eq_true, List.cons_append, List.nil_append, List.append_nil]
        walk_at "du"
        exact q
    | keep s f cs =>
      obtain rfl := nb0 hb
      simp only [Hd.word, Hd.items, encB, capsD, K12.valD, if_true, if_false, Bool.false_eq_true, List.cons_append, List.nil_append, List.append_nil]
      walk_at "du"
      refine caps .un _ cs hcs _ fun s6 => ?_
      walk_at "du"
      exact q
    | take s cs =>
      obtain rfl := nb0 hb
      simp only [Hd.word, Hd.items, encB, capsD, K12.valD, if_true, if_false, Bool.false_eq_true, List.cons_append, List.nil_append, List.append_nil]
      walk_at "du"
      refine caps .un _ cs hcs _ fun s6 => ?_
      walk_at "du"
      exact q
    | shift s f cs =>
      obtain rfl := nb0 hb
      simp only [Hd.word, Hd.items, encB, capsD, K12.valD, if_true, if_false, Bool.false_eq_true, List.cons_append, List.nil_append, List.append_nil]
      walk_at "du"
      refine caps .un _ cs hcs _ fun s6 => ?_
      walk_at "du"
      exact q
    | look _ _ =>
      simp only [Hd.word, Hd.items, encB, capsD, K12.valD, if_true, if_false, Bool.false_eq_true, List.cons_append, List.nil_append, List.append_nil]
      walk_at "du"
      exact q
    | call _ =>
      simp only [Hd.word, Hd.items, encB, capsD, K12.valD, if_true, if_false, Bool.false_eq_true, List.cons_append, List.nil_append, List.append_nil]
      walk_at "du"
      exact q
    | run _ =>
      simp only [Hd.word, Hd.items, encB, capsD, K12.valD, if_true, if_false, Bool.false_eq_true, List.cons_append, List.nil_append, List.append_nil]
      walk_at "du"
      exact q
    | drop _ =>
      simp only [Hd.word, Hd.items, encB, capsD, K12.valD, if_true, if_false, Bool.false_eq_true, List.cons_append, List.nil_append, List.append_nil]
      walk_at "du"
      exact q
    | apart =>
      simp only [Hd.word, Hd.items, encB, capsD, K12.valD, if_true, if_false, Bool.false_eq_true, List.cons_append, List.nil_append, List.append_nil]
      walk_at "du"
      exact q
    | whn _ =>
      simp only [Hd.word, Hd.items, encB, capsD, K12.valD, if_true, if_false, Bool.false_eq_true, List.cons_append, List.nil_append, List.append_nil]
      walk_at "du"
      exact q
    | held _ =>
      simp only [Hd.word, Hd.items, encB, capsD, K12.valD, if_true, if_false, Bool.false_eq_true, List.cons_append, List.nil_append, List.append_nil]
      walk_at "du"
      exact q
    | fail =>
      simp only [Hd.word, Hd.items, encB, capsD, K12.valD, if_true, if_false, Bool.false_eq_true, List.cons_append, List.nil_append, List.append_nil]
      walk_at "du"
      exact q
    | guard =>
      simp only [Hd.word, Hd.items, encB, capsD, K12.valD, if_true, if_false, Bool.false_eq_true, List.cons_append, List.nil_append, List.append_nil]
      walk_at "du"
      exact q
open PySem L2 DL
theorem d_check_listing {K : PySem.W.Frag} {a : Ad} : ∀ as Qd, as.length = 2 → (S_check_listing a) as Qd → td_check_listing K a (fnEnds as Qd) (as ++ List.replicate (4 - 2) .un) := by
  rintro as Qd hl ⟨hs, l, ⟨h, bs⟩, p, rfl, hb, hg, hr, q⟩
  show td_check_listing K a (fnEnds _ Qd) [.fz (.int l), .fz (encS (.mk h bs)), .un, .un]
  have hr : okH hs p h := hr
  have hb : bs.length = h.nb := hb
  have hcs := caps_ok hr
  have hg : h.good := hg
  simp only [encS] at q ⊢
  have caps : ∀ (w : Str) (u : List D) (cs : List Str), okCaps hs cs → cs.length ≤ 100 → ∀ De : EndsD (nf a), (∀ s2 s3 : SD (nf a), De.nx [.fz (.int l), .fz (.tup (.str w :: (u ++ [.tup (cs.map .str)]))), s2, s3]) →
      dFor (gT 2 (gsCons (gN 2) (gsCons (gN 3) gsNil))) (sIf (dBv (dF (inF false) (dVar 3) (dSlT (dF ixD (dVar 1) (dNeg (dC (.int 1)))) oNone (oSome (dVar 2))))) sNever sNext) (enumD 0 (cs.map .str)) De [.fz (.int l), .fz (.tup (.str w :: (u ++ [.tup (cs.map .str)]))), .un, .un] := by
    intro w u cs hc hl De hn
    refine for_inv (fun ds env => ∃ (done r : List Str) (s2 s3 : SD (nf a)), ds = enumD done.length (r.map .str) ∧ done ++ r = cs ∧ env = [.fz (.int l), .fz (.tup (.str w :: (u ++ [.tup (cs.map .str)]))), s2, s3]) ?_ ?_ _ _ ⟨[], cs, .un, .un, rfl, rfl, rfl⟩
    · rintro y ds env R ⟨done, r, s2, s3, hds, e, rfl⟩ hC
      match r, hds, e with
      | c :: r, hds, e =>
        obtain ⟨rfl, rfl⟩ := List.cons.inj hds
        have hlen : done.length ≤ cs.length := by rw [← e, List.length_append]; omega
        have nd := hc.1
        rw [← e, List.nodup_append] at nd
        walk_at "du"
        refine ixT_s (z := .tup (cs.map .str)) (by rw [← List.cons_append]; exact atI_last) ?_
        walk_at "du"
        rw [cutD_take _ _ (by omega) (by rw [List.length_map]; omega)]
        refine inTb_s (ss := done) (b := false) ?_ (decide_eq_false fun m => nd.2.2 c m c List.mem_cons_self rfl) ?_
        · rw [← e, ← List.map_take, show ((done.length : Nat) : Int).toNat = done.length from rfl, List.take_left, strsOf_map]
        walk_at "du"
        exact hC _ ⟨done ++ [c], r, _, _, by simp, by rw [← e]; simp, rfl⟩
    · rintro env ⟨done, r, s2, s3, hds, e, rfl⟩
      exact hn s2 s3
  unfold td_check_listing
  cases h with
  | keep s f cs =>
    obtain rfl := nb0 hb
    simp only [Hd.word, Hd.items, encB, capsD, List.cons_append, List.nil_append, List.append_nil]
    walk_at "du"
    refine caps "keep" [.str s, .str f] cs hcs hg.2.2.1 _ fun s2 s3 => ?_
    walk_at "du"
    exact q
  | take s cs =>
    obtain rfl := nb0 hb
    simp only [Hd.word, Hd.items, encB, capsD, List.cons_append, List.nil_append, List.append_nil]
    walk_at "du"
    refine caps "take" [.str s] cs hcs hg.2.1 _ fun s2 s3 => ?_
    walk_at "du"
    exact q
  | shift s f cs =>
    obtain rfl := nb0 hb
    simp only [Hd.word, Hd.items, encB, capsD, List.cons_append, List.nil_append, List.append_nil]
    walk_at "du"
    refine caps "shift" [.str s, .str f] cs hcs hg.2.2.1 _ fun s2 s3 => ?_
    walk_at "du"
    exact q
  | look _ _ =>
    simp only [Hd.word, Hd.items]
    walk_at "du"
    exact q
  | bind _ _ _ =>
    simp only [Hd.word, Hd.items]
    walk_at "du"
    exact q
  | call _ =>
    simp only [Hd.word, Hd.items]
    walk_at "du"
    exact q
  | run _ =>
    simp only [Hd.word, Hd.items]
    walk_at "du"
    exact q
  | drop _ =>
    simp only [Hd.word, Hd.items]
    walk_at "du"
    exact q
  | apart =>
    simp only [Hd.word, Hd.items]
    walk_at "du"
    exact q
  | whn _ =>
    simp only [Hd.word, Hd.items]
    walk_at "du"
    exact q
  | held _ =>
    simp only [Hd.word, Hd.items]
    walk_at "du"
    exact q
  | fail =>
    simp only [Hd.word, Hd.items]
    walk_at "du"
    exact q
  | guard =>
    simp only [Hd.word, Hd.items]
    walk_at "du"
    exact q
theorem d_check_order {K : PySem.W.Frag} {a : Ad} : ∀ as Qd, as.length = 4 → (S_check_order a) as Qd → td_check_order K a (fnEnds as Qd) (as ++ List.replicate (7 - 4) .un) := by
  rintro as Qd hl ⟨ps, l, ⟨h, bs⟩, p, rfl, hnd, hb, hg, hr, q⟩
  show td_check_order K a (fnEnds _ Qd) [.fz (.int l), .fz (.int (p : Nat)), .fz (encS (.mk h bs)), .fz (.dct (declD ps 0)), .un, .un, .un]
  have hr : okH (kinds ps) p h := hr
  have hb : bs.length = h.nb := hb
  simp only [encS] at q ⊢
  unfold td_check_order
  cases h with
  | call i =>
    obtain rfl := nb0 hb
    obtain ⟨j, hj, e⟩ := hr
    simp only [Hd.word, Hd.items, encB, capsD, List.cons_append, List.nil_append, List.append_nil]
    walk_at "du"
    refine ixDct_s (k := .inr i) rfl (kinds_val hnd e) ?_
    walk_at "du"
    refine iteF_s (by simp [cGe]; omega) ?_
    walk_at "du"
    exact q
  | run i =>
    obtain rfl := nb0 hb
    obtain ⟨j, hj, e⟩ := hr
    simp only [Hd.word, Hd.items, encB, capsD, List.cons_append, List.nil_append, List.append_nil]
    walk_at "du"
    refine ixDct_s (k := .inr i) rfl (kinds_val hnd e) ?_
    walk_at "du"
    refine iteF_s (by simp [cGe]; omega) ?_
    walk_at "du"
    exact q
  | keep s f cs =>
    obtain rfl := nb0 hb
    obtain ⟨⟨j, m, hj, e1, e2⟩, _⟩ := hr
    simp only [Hd.word, Hd.items, encB, capsD, List.cons_append, List.nil_append, List.append_nil]
    walk_at "du"
    refine ixDct_s (k := .inr s) rfl (kinds_val hnd e2) ?_
    walk_at "du"
    refine ixDct_s (k := .inr f) rfl (kinds_val hnd e1) ?_
    walk_at "du"
    refine iteF_s (by simp [cGe]; omega) ?_
    walk_at "du"
    exact q
  | shift s t cs =>
    obtain rfl := nb0 hb
    obtain ⟨⟨j, m, hj, e1, e2⟩, _⟩ := hr
    simp only [Hd.word, Hd.items, encB, capsD, List.cons_append, List.nil_append, List.append_nil]
    walk_at "du"
    refine ixDct_s (k := .inr t) rfl (kinds_val hnd e2) ?_
    walk_at "du"
    refine ixDct_s (k := .inr s) rfl (kinds_val hnd e1) ?_
    walk_at "du"
    refine iteF_s (by simp [cGe]; omega) ?_
    walk_at "du"
    exact q
  | look _ _ =>
    simp only [Hd.word, Hd.items]
    walk_at "du"
    exact q
  | bind _ _ _ =>
    simp only [Hd.word, Hd.items]
    walk_at "du"
    exact q
  | take _ _ =>
    simp only [Hd.word, Hd.items]
    walk_at "du"
    exact q
  | drop _ =>
    simp only [Hd.word, Hd.items]
    walk_at "du"
    exact q
  | apart =>
    simp only [Hd.word, Hd.items]
    walk_at "du"
    exact q
  | whn _ =>
    simp only [Hd.word, Hd.items]
    walk_at "du"
    exact q
  | held _ =>
    simp only [Hd.word, Hd.items]
    walk_at "du"
    exact q
  | fail =>
    simp only [Hd.word, Hd.items]
    walk_at "du"
    exact q
  | guard =>
    simp only [Hd.word, Hd.items]
    walk_at "du"
    exact q
open PySem L2 DL
mutual
theorem allS_and {P P' : Hd → Prop} : ∀ {s : Sm}, allS P s → allS P' s → allS (fun h => P h ∧ P' h) s
  | .mk h bs, q, q' => by
    simp only [allS] at q q' ⊢
    exact ⟨⟨q.1, q'.1⟩, q.2.1, allB_and q.2.2 q'.2.2⟩
theorem allB_and {P P' : Hd → Prop} : ∀ {b : List (List Sm)}, allB P b → allB P' b → allB (fun h => P h ∧ P' h) b
  | [], _, _ => by simp only [allB]
  | b :: bs, q, q' => by
    simp only [allB] at q q' ⊢
    exact ⟨allR_and q.1 q'.1, allB_and q.2 q'.2⟩
theorem allR_and {P P' : Hd → Prop} : ∀ {r : List Sm}, allR P r → allR P' r → allR (fun h => P h ∧ P' h) r
  | [], _, _ => by simp only [allR]
  | s :: r, q, q' => by
    simp only [allR] at q q' ⊢
    exact ⟨allS_and q.1 q'.1, allR_and q.2 q'.2⟩
end
def lineD : D → D | .tup (l :: _) => l | _ => .non
theorem d_check_statement {K : PySem.W.Frag} {a : Ad} : ∀ as Qd, as.length = 4 → (S_check_statement a) as Qd → td_check_statement K a (fnEnds as Qd) (as ++ List.replicate (4 - 4) .un) := by
  rintro as Qd hl ⟨ps, l, s, p, rfl, hnd, hb, hg, hr, q⟩
  show td_check_statement K a (fnEnds _ Qd) [.fz (.int l), .fz (.int (p : Nat)), .fz (encS s), .fz (.dct (declD ps 0))]
  unfold td_check_statement
  walk_at "du"
  refine ⟨ps, l, s, p, rfl, hnd, hb, hg, hr, ?_⟩
  walk_at "du"
  obtain ⟨h, bs⟩ := s
  have hr : okH (kinds ps) p h := hr
  have hb : bs.length = h.nb := hb
  simp only [encS]
  cases h with
  | bind i o v =>
    obtain ⟨r, rfl⟩ := nb1 hb
    obtain ⟨k, hk, mi, _, ho⟩ := id hr
    cases o with
    | true =>
      simp only [Hd.word, Hd.items, encB, K12.valD, if_true, List.cons_append, List.nil_append, List.append_nil]
      walk_at "du"
      refine ⟨kinds ps, l, .mk (.bind i true v) [r], p, by first | rfl | (simp only [encS] <;> rfl), hb, hg, hr, ?_⟩
      walk_at "du"
      refine ⟨ps, l, .mk (.bind i true v) [r], p, by first | rfl | (simp only [encS] <;> rfl), hnd, hb, hg, hr, ?_⟩
      walk_at "du"
      simp only [encS] at q
      exact q
    | false =>
      simp only [Hd.word, Hd.items, encB, K12.valD, if_false, Bool.false_eq_true, List.cons_append, List.nil_append, List.append_nil]
      walk_at "du"
      refine ⟨ps, i, rfl, hnd, ?_⟩
      rw [kinds_mem hnd mi]
      rcases hk with rfl | rfl
      · walk_at "du"
        refine ⟨kinds ps, l, .mk (.bind i false v) [r], p, by first | rfl | (simp only [encS] <;> rfl), hb, hg, hr, ?_⟩
        walk_at "du"
        refine ⟨ps, l, .mk (.bind i false v) [r], p, by first | rfl | (simp only [encS] <;> rfl), hnd, hb, hg, hr, ?_⟩
        walk_at "du"
        simp only [encS] at q
        exact q
      · walk_at "du"
        refine ⟨v, rfl, ?_⟩
        rw [show (decide (v = "on") || decide (v = "off")) = true by simpa using ho rfl rfl]
        walk_at "du"
        refine ⟨kinds ps, l, .mk (.bind i false v) [r], p, by first | rfl | (simp only [encS] <;> rfl), hb, hg, hr, ?_⟩
        walk_at "du"
        refine ⟨ps, l, .mk (.bind i false v) [r], p, by first | rfl | (simp only [encS] <;> rfl), hnd, hb, hg, hr, ?_⟩
        walk_at "du"
        simp only [encS] at q
        exact q
  | keep x1 x2 x3 =>
    simp only [Hd.word, Hd.items]
    walk_at "du"
    refine ⟨kinds ps, l, .mk (.keep x1 x2 x3) bs, p, by first | rfl | (simp only [encS] <;> rfl), hb, hg, hr, ?_⟩
    walk_at "du"
    refine ⟨ps, l, .mk (.keep x1 x2 x3) bs, p, by first | rfl | (simp only [encS] <;> rfl), hnd, hb, hg, hr, ?_⟩
    walk_at "du"
    simp only [encS] at q
    exact q
  | look x1 x2 =>
    simp only [Hd.word, Hd.items]
    walk_at "du"
    refine ⟨kinds ps, l, .mk (.look x1 x2) bs, p, by first | rfl | (simp only [encS] <;> rfl), hb, hg, hr, ?_⟩
    walk_at "du"
    refine ⟨ps, l, .mk (.look x1 x2) bs, p, by first | rfl | (simp only [encS] <;> rfl), hnd, hb, hg, hr, ?_⟩
    walk_at "du"
    simp only [encS] at q
    exact q
  | take x1 x2 =>
    simp only [Hd.word, Hd.items]
    walk_at "du"
    refine ⟨kinds ps, l, .mk (.take x1 x2) bs, p, by first | rfl | (simp only [encS] <;> rfl), hb, hg, hr, ?_⟩
    walk_at "du"
    refine ⟨ps, l, .mk (.take x1 x2) bs, p, by first | rfl | (simp only [encS] <;> rfl), hnd, hb, hg, hr, ?_⟩
    walk_at "du"
    simp only [encS] at q
    exact q
  | shift x1 x2 x3 =>
    simp only [Hd.word, Hd.items]
    walk_at "du"
    refine ⟨kinds ps, l, .mk (.shift x1 x2 x3) bs, p, by first | rfl | (simp only [encS] <;> rfl), hb, hg, hr, ?_⟩
    walk_at "du"
    refine ⟨ps, l, .mk (.shift x1 x2 x3) bs, p, by first | rfl | (simp only [encS] <;> rfl), hnd, hb, hg, hr, ?_⟩
    walk_at "du"
    simp only [encS] at q
    exact q
  | call x1 =>
    simp only [Hd.word, Hd.items]
    walk_at "du"
    refine ⟨kinds ps, l, .mk (.call x1) bs, p, by first | rfl | (simp only [encS] <;> rfl), hb, hg, hr, ?_⟩
    walk_at "du"
    refine ⟨ps, l, .mk (.call x1) bs, p, by first | rfl | (simp only [encS] <;> rfl), hnd, hb, hg, hr, ?_⟩
    walk_at "du"
    simp only [encS] at q
    exact q
  | run x1 =>
    simp only [Hd.word, Hd.items]
    walk_at "du"
    refine ⟨kinds ps, l, .mk (.run x1) bs, p, by first | rfl | (simp only [encS] <;> rfl), hb, hg, hr, ?_⟩
    walk_at "du"
    refine ⟨ps, l, .mk (.run x1) bs, p, by first | rfl | (simp only [encS] <;> rfl), hnd, hb, hg, hr, ?_⟩
    walk_at "du"
    simp only [encS] at q
    exact q
  | drop x1 =>
    simp only [Hd.word, Hd.items]
    walk_at "du"
    refine ⟨kinds ps, l, .mk (.drop x1) bs, p, by first | rfl | (simp only [encS] <;> rfl), hb, hg, hr, ?_⟩
    walk_at "du"
    refine ⟨ps, l, .mk (.drop x1) bs, p, by first | rfl | (simp only [encS] <;> rfl), hnd, hb, hg, hr, ?_⟩
    walk_at "du"
    simp only [encS] at q
    exact q
  | apart =>
    simp only [Hd.word, Hd.items]
    walk_at "du"
    refine ⟨kinds ps, l, .mk (.apart) bs, p, by first | rfl | (simp only [encS] <;> rfl), hb, hg, hr, ?_⟩
    walk_at "du"
    refine ⟨ps, l, .mk (.apart) bs, p, by first | rfl | (simp only [encS] <;> rfl), hnd, hb, hg, hr, ?_⟩
    walk_at "du"
    simp only [encS] at q
    exact q
  | whn x1 =>
    simp only [Hd.word, Hd.items]
    walk_at "du"
    refine ⟨kinds ps, l, .mk (.whn x1) bs, p, by first | rfl | (simp only [encS] <;> rfl), hb, hg, hr, ?_⟩
    walk_at "du"
    refine ⟨ps, l, .mk (.whn x1) bs, p, by first | rfl | (simp only [encS] <;> rfl), hnd, hb, hg, hr, ?_⟩
    walk_at "du"
    simp only [encS] at q
    exact q
  | held x1 =>
    simp only [Hd.word, Hd.items]
    walk_at "du"
    refine ⟨kinds ps, l, .mk (.held x1) bs, p, by first | rfl | (simp only [encS] <;> rfl), hb, hg, hr, ?_⟩
    walk_at "du"
    refine ⟨ps, l, .mk (.held x1) bs, p, by first | rfl | (simp only [encS] <;> rfl), hnd, hb, hg, hr, ?_⟩
    walk_at "du"
    simp only [encS] at q
    exact q
  | fail =>
    simp only [Hd.word, Hd.items]
    walk_at "du"
    refine ⟨kinds ps, l, .mk (.fail) bs, p, by first | rfl | (simp only [encS] <;> rfl), hb, hg, hr, ?_⟩
    walk_at "du"
    refine ⟨ps, l, .mk (.fail) bs, p, by first | rfl | (simp only [encS] <;> rfl), hnd, hb, hg, hr, ?_⟩
    walk_at "du"
    simp only [encS] at q
    exact q
  | guard =>
    simp only [Hd.word, Hd.items]
    walk_at "du"
    refine ⟨kinds ps, l, .mk (.guard) bs, p, by first | rfl | (simp only [encS] <;> rfl), hb, hg, hr, ?_⟩
    walk_at "du"
    refine ⟨ps, l, .mk (.guard) bs, p, by first | rfl | (simp only [encS] <;> rfl), hnd, hb, hg, hr, ?_⟩
    walk_at "du"
    simp only [encS] at q
    exact q
theorem d_settled {K : PySem.W.Frag} {a : Ad} : ∀ as Qd, as.length = 2 → (S_settled a) as Qd → td_settled K a (fnEnds as Qd) (as ++ List.replicate (7 - 2) .un) := by
  rintro as Qd hl ⟨ps, ls, rfl, hF, ⟨hnd, hrl⟩, hls, q⟩
  show td_settled K a (fnEnds _ Qd) [.fz (partsD ps), .fz (.lst (ls.map .int)), .un, .un, .un, .un, .un]
  unfold td_settled
  walk_at "du"
  refine ⟨ps, ls, rfl, hF, hls, hnd, ?_⟩
  walk_at "du"
  refine ⟨ps, rfl, hF, ?_⟩
  walk_at "du"
  have hfl := flR_len ps 0 1
  have hok := flR_all (P := fun k h => okH (kinds ps) k h ∧ h.good) ps 0 1 fun j x hx => by
    rw [Nat.zero_add]
    have h1 := hrl j x hx
    have h2 := (good_rows (hF.1 x (List.mem_of_getElem? hx))).1
    exact allR_and h1 h2
  refine for_inv (fun ds env => ∃ (ls' : List Int) (r : List Row) (s3 s4 s5 s6 : SD (nf a)), ds = zipD (ls'.map .int) (r.map Row.enc) ∧ ls'.length = r.length ∧ (∀ x ∈ r, x ∈ flR ps 0 1) ∧ env = [.fz (partsD ps), .fz (.lst (ls.map .int)), .fz (.dct (declD ps 0)), s3, s4, s5, s6]) ?_ ?_ _ _ ⟨ls, flR ps 0 1, .un, .un, .un, .un, rfl, by omega, fun _ m => m, rfl⟩
  · rintro x ds env R ⟨ls', r, s3, s4, s5, s6, hds, hlr, hm, rfl⟩ hC
    match ls', r, hds, hlr, hm with
    | l' :: ls', x :: r, hds, hlr, hm =>
      obtain ⟨rfl, rfl⟩ := List.cons.inj hds
      obtain ⟨l, k, y⟩ := x
      simp only [List.length_cons] at hlr
      have hm' : ∀ x ∈ r, x ∈ flR ps 0 1 := fun x m => hm x (List.mem_cons_of_mem _ m)
      obtain ⟨w, t, ey, d⟩ := it_first y
      cases y with
      | p y =>
        show gT 2 _ (.tup [.int l', .tup [.int l, .int (k : Nat), (It.p y).enc]]) _ _
        rw [ey]
        walk_at "du"
        refine ninTb_s (xs := [.str "name", .str "flag", .str "slot", .str "func"]) (ss := partL) rfl d ?_
        walk_at "du"
        exact hC _ ⟨ls', r, _, _, _, _, rfl, by omega, hm', rfl⟩
      | s y =>
        obtain ⟨h, bs⟩ := y
        have ho := hok _ (hm _ List.mem_cons_self) _ rfl
        simp only [allS] at ho
        have ee : (It.s (.mk h bs)).enc = .tup (.str h.word :: (h.items ++ encB bs)) := by show encS _ = _; simp only [encS]
        show gT 2 _ (.tup [.int l', .tup [.int l, .int (k : Nat), (It.s (.mk h bs)).enc]]) _ _
        rw [ee]
        walk_at "du"
        refine ninTb_s (xs := [.str "name", .str "flag", .str "slot", .str "func"]) (ss := partL) rfl (decide_eq_false (word_nin h)) ?_
        walk_at "du"
        refine ⟨ps, l', .mk h bs, k, by simp only [encS], hnd, ho.2.1, ho.1.2, ho.1.1, ?_⟩
        walk_at "du"
        exact hC _ ⟨ls', r, _, _, _, _, rfl, by omega, hm', rfl⟩
  · rintro env ⟨ls', r, s3, s4, s5, s6, hds, hlr, hm, rfl⟩
    walk_at "du"
    refine ⟨ps, rfl, hF, ?_⟩
    walk_at "du"
    exact q
theorem d_check {K : PySem.W.Frag} {a : Ad} : ∀ as Qd, as.length = 1 → (S_check a) as Qd → td_check K a (fnEnds as Qd) (as ++ List.replicate (2 - 1) .un) := by
  rintro as Qd hl ⟨ps, rfl, hF, hR2, q⟩
  show td_check K a (fnEnds _ Qd) [.fz (partsD ps), .un]
  unfold td_check
  walk_at "du"
  refine ⟨ps, rfl, hF, ?_⟩
  walk_at "du"
  refine ⟨ps, rfl, hF, ?_⟩
  walk_at "du"
  have hc := cntP_le hF.1
  have h50 := hF.2
  have hfl := flR_len ps 0 1
  refine lc_map lineD rfl (fun x hx R r => ?_) (by simp; omega) ?_
  · obtain ⟨⟨l, k, y⟩, _, rfl⟩ := List.mem_map.mp hx
    show dF ixD _ _ [.fz (partsD ps), .fz (.tup [.int l, .int (k : Nat), y.enc])] R
    walk_at "du"
    exact r
  · have e : ((flR ps 0 1).map Row.enc).map lineD = ((flR ps 0 1).map Prod.fst).map .int := by
      rw [List.map_map, List.map_map]
      rfl
    rw [e]
    walk_at "du"
    refine ⟨ps, (flR ps 0 1).map Prod.fst, rfl, hF, hR2, by rw [List.length_map]; exact hfl, ?_⟩
    walk_at "du"
    exact q
open PySem L2 DL
local macro_rules | `(tactic| walk_at "s5") => `(tactic| with_reducible refine mNil_s ?_)
local macro_rules | `(tactic| walk_at "s5") => `(tactic| with_reducible refine aNil_s ?_)
local macro_rules | `(tactic| walk_at "s5") => `(tactic| ((with_reducible refine' callK_s ?e0 ?e1 ?e2 ?e3 ?e4 ?_); (case e0 => exact rfl); (case e1 => walk_at "dn"); (case e2 => exact rfl); (case e3 => exact rfl); (case e4 => walk_at "dn")))
local macro_rules | `(tactic| walk_at "s5") => `(tactic| ((with_reducible refine' putK_s ?e0 ?_); (case e0 => walk_at "dn")))
local macro_rules | `(tactic| walk_at "s5") => `(tactic| ((with_reducible refine' gN_s ?e0 ?e1 ?_); (case e0 => exact rfl); (case e1 => walk_at "dn")))
local macro_rules | `(tactic| walk_at "s5") => `(tactic| with_reducible refine dTup_s ?_)
local macro_rules | `(tactic| walk_at "s5") => `(tactic| with_reducible refine gsCons_s ?_)
local macro_rules | `(tactic| walk_at "s5") => `(tactic| with_reducible refine dOp_s ?_)
local macro_rules | `(tactic| walk_at "s5") => `(tactic| with_reducible refine dEqG_s ?_)
local macro_rules | `(tactic| walk_at "s5") => `(tactic| with_reducible refine dCall_s ?_)
local macro_rules | `(tactic| walk_at "s5") => `(tactic| with_reducible refine bvK_s ?_)
local macro_rules | `(tactic| walk_at "s5") => `(tactic| with_reducible refine dBv_s ?_)
local macro_rules | `(tactic| walk_at "s5") => `(tactic| with_reducible refine sIf_s ?_)
local macro_rules | `(tactic| walk_at "s5") => `(tactic| with_reducible refine sSet_s ?_)
local macro_rules | `(tactic| walk_at "s5") => `(tactic| ((with_reducible refine' setK_s ?e0 ?e1 ?_); (case e0 => exact rfl); (case e1 => walk_at "dn")))
local macro_rules | `(tactic| walk_at "s5") => `(tactic| with_reducible refine dF_s ?_)
local macro_rules | `(tactic| walk_at "s5") => `(tactic| with_reducible refine sSeq_s ?_)
local macro_rules | `(tactic| walk_at "s5") => `(tactic| with_reducible refine mVal_s ?_)
local macro_rules | `(tactic| walk_at "s5") => `(tactic| with_reducible refine aCons_s ?_)
local macro_rules | `(tactic| walk_at "s5") => `(tactic| with_reducible refine dC_s ?_)
local macro_rules | `(tactic| walk_at "s5") => `(tactic| ((with_reducible refine' dVar_s ?e0 ?_); (case e0 => exact rfl)))
theorem cdivT {i m : Int} (h : 0 < m) (h2 : m ≤ 10 ^ 60) : CDivW i m := by
  refine ⟨h, ?_⟩
  have h3 : m.natAbs < 2 ^ 200 := by
    have e : ((m.natAbs : Nat) : Int) = m := Int.natAbs_of_nonneg (Int.le_of_lt h)
    have h5 : ((m.natAbs : Nat) : Int) < ((2 ^ 200 : Nat) : Int) := by
      rw [e]
      exact Int.lt_of_le_of_lt h2 (by decide)
    exact Int.ofNat_lt.mp h5
  have h6 : m.natAbs.log2 < 200 := (Nat.log2_lt (by omega)).mpr h3
  omega
theorem modT {i m : Int} (h : 0 < m) : 0 ≤ i % m ∧ i % m < m := ⟨Int.emod_nonneg _ (by omega), Int.emod_lt_of_pos _ h⟩
theorem d_law_tape {K : PySem.W.Frag} {a : Ad} : ∀ as Qd, as.length = 2 → (S_law_tape K a) as Qd → td_law_tape K a (fnEndsO as Qd) (as ++ List.replicate (3 - 2) .un) := by
  rintro as Qd hl ⟨ns, k, rfl, hk, hk2, q⟩
  show td_law_tape K a (fnEndsO _ Qd) [.fz (.scr ns), .fz (.int k), .un]
  have fin : ∀ c : Int, sRetL K (aCons (dVar 2) (aCons (dC (.int 0)) (aCons (dCB fInt (aCons (dChain cLe cLt (dC (.int 0)) (dVar 2) (dPow (dC (.int 10)) (dC (.int 18)))) aNil)) (aCons (dVar 1) aNil)))) (fnEndsO [.fz (.scr ns), .fz (.int k)] Qd) [.fz (.scr ns), .fz (.int k), .fz (.int c)] := by
    intro c
    walk_at "dt"
    refine ite_s (fun hc => ?_) (fun hc => ?_)
    · walk_at "dt"
      intro p
      walk_at "dt"
      refine q _ _ ⟨c, 0, _, k, rfl, ?_, by decide, by decide, hk, hk2⟩
      have h0 : 0 ≤ c := by simpa [cLe] using hc
      by_cases h1 : c < 10 ^ 18
      · right
        refine ⟨?_, h0, h1⟩
        show (if cLt c (10 ^ (18 : Int).toNat) = true then (1 : Int) else 0) = 1
        rw [if_pos]
        simpa [cLt] using h1
      · left
        show (if cLt c (10 ^ (18 : Int).toNat) = true then (1 : Int) else 0) = 0
        rw [if_neg]
        simpa [cLt] using h1
    · walk_at "dt"
      intro p
      walk_at "dt"
      exact q _ _ ⟨c, 0, _, k, rfl, .inl rfl, by decide, by decide, hk, hk2⟩
  unfold td_law_tape
  walk_at "dt"
  refine ite_s (fun hc => ?_) (fun hc => ?_)
  · walk_at "dt"
    have h1 : k < ns.length := by simpa [cLt] using hc
    have h2 : k.toNat < ns.length := by omega
    refine opK_s (z := .int ns[k.toNat]) ⟨ns, k, ns[k.toNat], rfl, rfl, ?_, rfl⟩ ?_
    · unfold atI ixN
      simp [hk, h1, h2]
    · refine aNil_s ?_
      refine cbInt_s ?_
      refine setK_s rfl rfl ?_
      exact fin _
  · refine sNext_s ?_
    exact fin 0
theorem prime_at {j : Int} (h0 : 0 ≤ j) (h1 : j < 5) : ∃ p : Int, ixD (.lst [.int 2147483647, .int 2147483629, .int 2147483587, .int 2147483579, .int 2147483563]) (.int j) = some (.int p) ∧ 0 < p := by
  have h : j = 0 ∨ j = 1 ∨ j = 2 ∨ j = 3 ∨ j = 4 := by omega
  rcases h with rfl | rfl | rfl | rfl | rfl <;> exact ⟨_, rfl, by decide⟩
theorem d_law_draw {K : PySem.W.Frag} {a : Ad} : ∀ as Qd, as.length = 2 → (S_law_draw K a) as Qd → td_law_draw K a (fnEnds as Qd) (as ++ List.replicate (6 - 2) .un) := by
  rintro as Qd hl ⟨v, s, b, m, rfl, ⟨c, n, f, k, rfl, hf, hn, hnb, hk, hk2⟩, hb, hm, hm2, q⟩
  show td_law_draw K a (fnEnds _ Qd) [.ow v (lstA K (nf a) [.int c, .int n, .int f, .int k]), .fz (.int m), .un, .un, .un, .un]
  unfold td_law_draw
  walk_at "dt"
  refine ite_s (fun hc => ?_) (fun hc => ?_)
  · walk_at "dt"
    refine opI_s (cdivT hm hm2) ?_
    walk_at "dt"
    have hf0 : f = 0 := by simpa using hc
    exact q _ _ ⟨_, _, f, k, rfl, .inl hf0, by omega, by omega, hk, hk2⟩ (modT hm).1 (modT hm).2
  · have hf1 : f = 1 ∧ 0 ≤ c ∧ c < 10 ^ 18 := by
      rcases hf with h | h
      · exact absurd h (by simpa using hc)
      · exact h
    walk_at "dt"
    obtain ⟨p, ep, hp⟩ := prime_at (modT (i := n + 1) (m := 5) (by decide)).1 (modT (i := n + 1) (m := 5) (by decide)).2
    refine fK_s ep ?_
    walk_at "dt"
    exact q _ _ ⟨_, _, f, k, rfl, .inr hf1, by omega, by omega, hk, hk2⟩ (modT hm).1 (modT hm).2
theorem Tp.mono {K : PySem.W.Frag} {a : Ad} {v : V} {b b' : Int} {s : SD (nf a)} (h : Tp K a v b s) (hb : b ≤ b') : Tp K a v b' s := by
  obtain ⟨c, n, f, k, e, h1, h2, h3, h4⟩ := h
  exact ⟨c, n, f, k, e, h1, h2, by omega, h4⟩
theorem Tp.is {K : PySem.W.Frag} {a : Ad} {v : V} {b : Int} {s : SD (nf a)} (h : Tp K a v b s) : ∃ A, s = .ow v A := by
  obtain ⟨c, n, f, k, e, _⟩ := h
  exact ⟨_, e⟩
def keptText : Str := "name flag slot func open own look bind call keep take shift run drop "
def keptText2 : Str := "apart when held fail guard else after end with of on off"
theorem kept_split : Txt.split (keptText ++ keptText2) " " = keptWords := by decide +kernel
theorem d_law_kept {K : PySem.W.Frag} {a : Ad} : ∀ as Qd, as.length = 0 → (S_law_kept a) as Qd → td_law_kept K a (fnEnds as Qd) (as ++ List.replicate (1 - 0) .un) := by
  rintro as Qd hl ⟨rfl, q⟩
  show td_law_kept K a (fnEnds _ Qd) [.un]
  unfold td_law_kept
  walk_at "dt"
  rw [show Txt.split (Str.ofString "name flag slot func open own look bind call keep take shift run drop " ++ Str.ofString "apart when held fail guard else after end with of on off") (Str.ofString " ") = keptWords from kept_split]
  exact q
theorem d_law_signs {K : PySem.W.Frag} {a : Ad} : ∀ as Qd, as.length = 0 → (S_law_signs a) as Qd → td_law_signs K a (fnEnds as Qd) (as ++ List.replicate (0 - 0) .un) := by
  rintro as Qd hl ⟨rfl, q⟩
  show td_law_signs K a (fnEnds _ Qd) []
  unfold td_law_signs
  walk_at "dt"
  exact q
open PySem L2 DL
abbrev cl (s : Str) : List Nat := s.cps.toList
theorem cl_app (x y : Str) : cl (x ++ y) = cl x ++ cl y := by
  show (x ++ y).cps.toList = _
  rw [Str.cps_append, Array.toList_append]
theorem cl_len (x : Str) : x.length = (cl x).length := by simp [cl, Str.length]
theorem cl_ext {x y : Str} (h : cl x = cl y) : x = y := Str.ext' (Array.toList_inj.mp h)
def lts : List Nat := letters.cps.toList
def dgs : List Nat := digits.cps.toList
theorem lts_len : lts.length = 26 := by decide +kernel
theorem dgs_len : dgs.length = 10 := by decide +kernel
/-- a word in the making: r signs may still come -/
def Bs (b : Str) (r : Nat) : Prop := ∃ c t, cl b = c :: t ∧ c ∈ lts ∧ (∀ x ∈ t, x ∈ lts ∨ x ∈ dgs) ∧ t.length + r ≤ 11
theorem Bs.grow {b : Str} {r : Nat} (h : Bs b (r + 1)) {c : Nat} (hc : c ∈ lts ∨ c ∈ dgs) : Bs (b ++ ⟨#[c]⟩) r := by
  obtain ⟨c0, t, e, h1, h2, h3⟩ := h
  refine ⟨c0, t ++ [c], by rw [cl_app, e]; rfl, h1, fun x hx => ?_, by rw [List.length_append]; show t.length + 1 + r ≤ 11; omega⟩
  rcases List.mem_append.mp hx with m | m
  · exact h2 x m
  · rw [List.mem_singleton.mp m]; exact hc
theorem Bs.word {b : Str} {r : Nat} (h : Bs b r) : isWordB b = true ∧ b.length ≤ 12 := by
  obtain ⟨c0, t, e, h1, h2, h3⟩ := h
  have hl : b.length = t.length + 1 := by rw [cl_len, e]; rfl
  refine ⟨?_, by omega⟩
  have ha : (cl b).all (fun c => decide (c ∈ letters.cps.toList) || decide (c ∈ digits.cps.toList)) = true := by
    rw [e, List.all_eq_true]
    intro x hx
    rw [Bool.or_eq_true, decide_eq_true_eq, decide_eq_true_eq]
    rcases List.mem_cons.mp hx with m | m
    · subst m; exact .inl h1
    · exact h2 x m
  unfold isWordB
  rw [show decide (1 ≤ b.length) = true from decide_eq_true (by omega), show decide (b.length ≤ 12) = true from decide_eq_true (by omega)]
  exact ha
theorem Bs.len {b : Str} {r : Nat} (h : Bs b r) : b.length ≤ 12 := h.word.2
theorem Bs.head {b : Str} {r : Nat} (h : Bs b r) : headB b = true := by
  obtain ⟨c0, t, e, h1, h2, h3⟩ := h
  unfold headB
  rw [show b.cps.toList = c0 :: t from e]
  exact decide_eq_true h1
theorem Bs.of {b : Str} (h1 : isWordB b = true) (h2 : headB b = true) : Bs b 0 := by
  unfold headB at h2
  unfold isWordB at h1
  simp only [Bool.and_eq_true, decide_eq_true_eq] at h1
  cases e : b.cps.toList with
  | nil => rw [e] at h2; cases h2
  | cons c t =>
    rw [e] at h2 h1
    have hl : b.length = t.length + 1 := by rw [cl_len, show cl b = c :: t from e]; rfl
    refine ⟨c, t, e, of_decide_eq_true h2, fun x hx => ?_, by omega⟩
    have := List.all_eq_true.mp h1.2 x (List.mem_cons_of_mem _ hx)
    rw [Bool.or_eq_true, decide_eq_true_eq, decide_eq_true_eq] at this
    exact this
theorem inV_strs (z : Str) : ∀ ss : List Str, inV (.str z) (ss.map V.str) = decide (z ∈ ss)
  | [] => by simp [inV]
  | s :: ss => by
    have ih := inV_strs z ss
    unfold inV at ih ⊢
    rw [List.map_cons, List.any_cons, ih]
    show ((s == z) || decide (z ∈ ss)) = decide (z ∈ s :: ss)
    by_cases h : s = z
    · subst h; simp
    · have h' : ¬ z = s := fun e => h e.symm
      simp [h, h']
def keptL : List Str := ["name", "flag", "slot", "func", "open", "own", "look", "bind", "call", "keep", "take", "shift", "run", "drop", "apart", "when", "held", "fail", "guard", "else", "after", "end", "with", "of", "on", "off"]
theorem keptV_eq : keptV = keptL.map V.str := rfl
theorem kept_sub : ∀ w ∈ keptL, w ∈ keptWords := by decide +kernel
theorem Bs.ident {b : Str} {r : Nat} (h : Bs b r) (hk : b ∉ keptWords) : isIdB b = true := by
  unfold isIdB
  rw [h.word.1, h.head, keptV_eq, inV_strs]
  have : b ∉ keptL := fun m => hk (kept_sub b m)
  simp [this]
theorem kept_nodig : ∀ w ∈ keptWords, ∀ c ∈ cl w, c ∉ dgs := by decide +kernel
theorem kept_bs : ∀ w ∈ keptWords, (match cl w with | c :: t => decide (c ∈ lts) && t.all (fun x => decide (x ∈ lts)) && decide (t.length ≤ 4) | [] => false) = true := by decide +kernel
theorem kept_w {w : Str} (h : w ∈ keptWords) : Bs w 7 := by
  have := kept_bs w h
  cases e : cl w with
  | nil => rw [e] at this; cases this
  | cons c t =>
    rw [e] at this
    simp only [Bool.and_eq_true, decide_eq_true_eq, List.all_eq_true] at this
    exact ⟨c, t, e, this.1.1, fun x hx => .inl (this.1.2 x hx), by have := this.2; omega⟩
theorem cut9 {b : Str} {r : Nat} (h : Bs b r) : ∃ c t, cl (cutS b none (some 9)) = c :: t ∧ c ∈ lts ∧ (∀ x ∈ t, x ∈ lts ∨ x ∈ dgs) ∧ t.length ≤ 8 := by
  obtain ⟨c0, t, e, h1, h2, h3⟩ := h
  have hl : b.length = t.length + 1 := by rw [cl_len, e]; rfl
  have e9 : HT.sIx b.length b.length (some 9) = min 9 b.length := by
    unfold HT.sIx
    simp
  have e0 : HT.sIx b.length 0 none = 0 := rfl
  refine ⟨c0, t.take (min 9 b.length - 1), ?_, h1, fun x hx => h2 x (List.mem_of_mem_take hx), by rw [List.length_take]; omega⟩
  show (cl (cutS b none (some 9))) = _
  have : cl (cutS b none (some 9)) = ((cl b).drop 0).take (min 9 b.length - 0) := by
    unfold cutS
    rw [e9, e0]
  rw [this, e, List.drop_zero, Nat.sub_zero]
  obtain ⟨k, hk⟩ : ∃ k, min 9 b.length = k + 1 := ⟨min 9 b.length - 1, by omega⟩
  rw [hk]
  rfl
theorem cut_len (b : Str) : (cutS b none (some 9)).length ≤ b.length := by
  rw [cl_len, cl_len]
  unfold cutS
  simp only [cl]
  rw [List.length_take, List.length_drop]
  omega
theorem digs_ok : ∀ i < 64, (∀ c ∈ cl (Str.ofString (toString ((i : Nat) : Int))), c ∈ dgs) ∧ (Str.ofString (toString ((i : Nat) : Int))).length ≤ 2 ∧ 1 ≤ (Str.ofString (toString ((i : Nat) : Int))).length := by decide +kernel
theorem tail_bs {b : Str} {r : Nat} (h : Bs b r) {i : Nat} (hi : i < 64) : Bs (cutS b none (some 9) ++ Str.ofString (toString ((i : Nat) : Int))) 0 := by
  obtain ⟨c, u, e, h1, h2, h3⟩ := cut9 h
  obtain ⟨t1, t2, _⟩ := digs_ok i hi
  refine ⟨c, u ++ cl (Str.ofString (toString ((i : Nat) : Int))), by rw [cl_app, e]; rfl, h1, fun x hx => ?_, by rw [List.length_append, ← cl_len]; omega⟩
  rcases List.mem_append.mp hx with m | m
  · exact h2 x m
  · exact .inr (t1 x m)
theorem tail_kept {p : Str} {i : Nat} (hi : i < 64) : p ++ Str.ofString (toString ((i : Nat) : Int)) ∉ keptWords := fun m => by
  obtain ⟨t1, _, t2⟩ := digs_ok i hi
  have hne : cl (Str.ofString (toString ((i : Nat) : Int))) ≠ [] := fun e => by rw [cl_len, e] at t2; cases t2
  obtain ⟨c, hc⟩ := List.exists_mem_of_ne_nil _ hne
  exact kept_nodig _ m c (by rw [cl_app]; exact List.mem_append_right _ hc) (t1 c hc)
theorem signs_eq : cl signs = lts ++ dgs := by decide +kernel
/-- a drawn sign of the first m -/
theorem sign_at {m d : Int} (h0 : 0 ≤ d) (h1 : d < m) (hm : m ≤ 36) : ∃ c, atI signs.cps.toList d = some c ∧ (c ∈ lts ∨ c ∈ dgs) ∧ (m ≤ 26 → c ∈ lts) := by
  obtain ⟨c, hc, ec, e2⟩ := atI_ex (xs := lts ++ dgs) (k := d) h0 (by rw [List.length_append, lts_len, dgs_len]; omega)
  refine ⟨c, by rw [show signs.cps.toList = lts ++ dgs from signs_eq]; exact ec, List.mem_append.mp hc, fun h => ?_⟩
  rw [List.getElem?_append_left (by rw [lts_len]; omega)] at e2
  exact List.mem_of_getElem? e2
theorem signs_lt : signs.length ≤ 1000000 := by decide +kernel
theorem Str_len_app (x y : Str) : (x ++ y).length = x.length + y.length := by rw [cl_len, cl_app, List.length_append, ← cl_len, ← cl_len]
theorem cut_to {b : Str} {d : Int} (h0 : 0 ≤ d) (h1 : d < b.length) : cl (cutS b none (some d)) = (cl b).take d.toNat := by
  have e9 : HT.sIx b.length b.length (some d) = d.toNat := by
    have := sIx_nat b.length b.length d.toNat (by omega)
    rwa [Int.toNat_of_nonneg h0] at this
  have e0 : HT.sIx b.length 0 none = 0 := rfl
  have : cl (cutS b none (some d)) = ((cl b).drop 0).take (d.toNat - 0) := by
    unfold cutS
    rw [e9, e0]
  rw [this, List.drop_zero, Nat.sub_zero]
theorem cut_from {b : Str} {d : Int} (h0 : 0 ≤ d) (h1 : d < b.length) : cl (cutS b (some (d + 1)) none) = (cl b).drop (d.toNat + 1) := by
  have e9 : HT.sIx b.length 0 (some (d + 1)) = d.toNat + 1 := by
    have := sIx_nat b.length 0 (d.toNat + 1) (by omega)
    rwa [show ((d.toNat + 1 : Nat) : Int) = d + 1 by omega] at this
  have e0 : HT.sIx b.length b.length none = b.length := rfl
  have : cl (cutS b (some (d + 1)) none) = ((cl b).drop (d.toNat + 1)).take (b.length - (d.toNat + 1)) := by
    unfold cutS
    rw [e9, e0]
  rw [this, List.take_of_length_le]
  rw [List.length_drop, cl_len]
  exact Nat.le_refl _
/-- a sign of an identifier in another's place -/
theorem swap_bs {b : Str} {r : Nat} (h : Bs b r) {d : Int} (h0 : 0 ≤ d) (h1 : d < b.length) {c : Nat} (hc : c ∈ lts) : Bs (cutS b none (some d) ++ ⟨#[c]⟩ ++ cutS b (some (d + 1)) none) r := by
  obtain ⟨c0, t, e, g1, g2, g3⟩ := h
  have hl : b.length = t.length + 1 := by rw [cl_len, e]; rfl
  have ecl : cl (cutS b none (some d) ++ ⟨#[c]⟩ ++ cutS b (some (d + 1)) none) = (c0 :: t).take d.toNat ++ [c] ++ (c0 :: t).drop (d.toNat + 1) := by
    rw [cl_app, cl_app, cut_to h0 h1, cut_from h0 h1, e]
  obtain ⟨k, hk⟩ : ∃ k : Nat, d.toNat = k := ⟨_, rfl⟩
  rw [hk] at ecl
  cases k with
  | zero => exact ⟨c, t, by rw [ecl]; rfl, hc, g2, g3⟩
  | succ k =>
    refine ⟨c0, t.take k ++ [c] ++ t.drop (k + 1), by rw [ecl]; rfl, g1, fun x hx => ?_, ?_⟩
    · rcases List.mem_append.mp hx with m | m
      · rcases List.mem_append.mp m with m | m
        · exact g2 x (List.mem_of_mem_take m)
        · rw [List.mem_singleton.mp m]; exact .inl hc
      · exact g2 x (List.mem_of_mem_drop m)
    · rw [List.length_append, List.length_append, List.length_take, List.length_drop]
      simp only [List.length_cons, List.length_nil]
      omega
theorem d_law_spelled {K : PySem.W.Frag} {a : Ad} : ∀ as Qd, as.length = 2 → (S_law_spelled K a) as Qd → td_law_spelled K a (fnEnds as Qd) (as ++ List.replicate (6 - 2) .un) := by
  rintro as Qd hl ⟨v, s, b, us, rfl, hT, hb, hul, hus, q⟩
  obtain ⟨A, rfl⟩ := hT.is
  show td_law_spelled K a (fnEnds _ Qd) [.ow v A, .fz (.lst (us.map .str)), .un, .un, .un, .un]
  unfold td_law_spelled
  walk_at "du"
  refine ⟨v, _, b, 5, rfl, hT, by omega, by decide, by decide, fun s1 d1 hT1 hd10 hd11 => ?_⟩
  obtain ⟨A1, rfl⟩ := hT1.is
  walk_at "du"
  refine ⟨v, _, b + 1, 12, rfl, hT1, by omega, by decide, by decide, fun s2 d2 hT2 hd20 hd21 => ?_⟩
  obtain ⟨A2, rfl⟩ := hT2.is
  walk_at "du"
  have hT2' := hT2.mono (b' := b + 2) (by omega)
  with_reducible refine seqC_id ?_
  refine cutC_s (fun env => ∃ z : Int, 1 ≤ z ∧ z ≤ 12 ∧ env = [.ow v A2, .fz (.lst (us.map .str)), .fz (.int d1), .fz (.int z), .un, .un]) (fun R hR => ?_) ?_
  · walk_at "du"
    refine ite_s (fun h0 => ?_) (fun h0 => ?_)
    · walk_at "du"
      exact hR _ ⟨1, by decide, by decide, rfl⟩
    · walk_at "du"
      exact hR _ ⟨_, by omega, by omega, rfl⟩
  rintro _ ⟨z, hz1, hz2, rfl⟩
  walk_at "du"
  refine ite_s (fun h1 => ?_) (fun h1 => ?_)
  · walk_at "du"
    refine ⟨rfl, ?_⟩
    walk_at "du"
    refine ⟨v, _, b + 2, 26, rfl, hT2', by omega, by decide, by decide, fun s3 d3 hT3 hd30 hd31 => ?_⟩
    obtain ⟨A3, rfl⟩ := hT3.is
    walk_at "du"
    obtain ⟨w, hw, ew, _⟩ := atI_ex (xs := keptWords) (k := d3) hd30 hd31
    refine ixL_s (atI_map (f := D.str) ew) ?_
    walk_at "du"
    refine ⟨rfl, ?_⟩
    walk_at "du"
    refine ⟨v, _, b + 3, 36, rfl, hT3.mono (by omega), by omega, by decide, by decide, fun s4 d4 hT4 hd40 hd41 => ?_⟩
    obtain ⟨A4, rfl⟩ := hT4.is
    obtain ⟨c, ec, hc, _⟩ := sign_at hd40 hd41 (by decide)
    walk_at "du"
    refine ixS_s (c := c) signs_lt ec ?_
    have hB := (kept_w hw).grow (r := 6) hc
    have := (kept_w hw).len
    refine addS_s (by show w.length + 1 ≤ 1000000; omega) ?_
    walk_at "du"
    exact q _ _ (hT4.mono (by omega)) hB.word.1 hB.head
  walk_at "du"
  with_reducible refine seqC_id ?_
  have hpl : plD 1 (.lst (us.map .str)) := plD_lst (pl_str1 fun c m => id_ok (hus c m))
  refine cutC_s (fun env => env = [.ow v A2, .fz (.lst (us.map .str)), .fz (.int d1), .fz (.int z), .un, .un]) (fun R hR => ?_) ?_
  · walk_at "du"
    refine ite_s (fun h2 => ?_) (fun h2 => ?_)
    · walk_at "du"
      refine neNilL_s hpl (by decide) ?_
      walk_at "du"
      refine ite_s (fun h3 => ?_) (fun h3 => ?_)
      · walk_at "du"
        have hne : 0 < us.length := by cases us with
          | nil => cases h3
          | cons _ _ => simp
        refine ⟨v, _, b + 2, us.length, by simp, hT2', by omega, by omega, Int.le_trans (Int.ofNat_le.mpr hul) (by decide), fun s3 d3 hT3 hd30 hd31 => ?_⟩
        obtain ⟨A3, rfl⟩ := hT3.is
        walk_at "du"
        obtain ⟨w, hw, ew, _⟩ := atI_ex (xs := us) (k := d3) hd30 hd31
        refine ixL_s (atI_map (f := D.str) ew) ?_
        have hwi := hus w hw
        have hwl := id_len hwi
        have hB : Bs w 0 := by
          unfold isIdB at hwi
          simp only [Bool.and_eq_true] at hwi
          exact Bs.of hwi.1.1 hwi.1.2
        obtain ⟨c0, t0, ec0, hc0, ht0, hl0⟩ := id hB
        have hwp : 0 < w.length := by rw [cl_len, ec0]; simp
        walk_at "du"
        refine ⟨v, _, b + 3, w.length, rfl, hT3.mono (by omega), by omega, by omega, Int.le_trans (Int.ofNat_le.mpr hwl) (by decide), fun s4 d4 hT4 hd40 hd41 => ?_⟩
        obtain ⟨A4, rfl⟩ := hT4.is
        walk_at "du"
        refine ⟨rfl, ?_⟩
        walk_at "du"
        refine ⟨v, _, b + 4, 26, rfl, hT4.mono (by omega), by omega, by decide, by decide, fun s5 d5 hT5 hd50 hd51 => ?_⟩
        obtain ⟨A5, rfl⟩ := hT5.is
        obtain ⟨c, ec, _, hc⟩ := sign_at hd50 hd51 (by decide)
        walk_at "du"
        refine ixS_s (c := c) signs_lt ec ?_
        have hS := swap_bs hB hd40 hd41 (hc (by decide))
        have hS1 := hS.len
        rw [Str_len_app, Str_len_app] at hS1
        refine addS_s (by omega) ?_
        walk_at "du"
        refine addS_s (by rw [Str_len_app]; omega) ?_
        walk_at "du"
        exact q _ _ (hT5.mono (by omega)) hS.word.1 hS.head
      · walk_at "du"
        exact hR _ rfl
    · walk_at "du"
      exact hR _ rfl
  rintro _ rfl
  walk_at "du"
  refine ⟨rfl, ?_⟩
  walk_at "du"
  refine ⟨v, _, b + 2, 26, rfl, hT2', by omega, by decide, by decide, fun s3 d3 hT3 hd30 hd31 => ?_⟩
  obtain ⟨A3, rfl⟩ := hT3.is
  obtain ⟨c, ec, _, hc⟩ := sign_at hd30 hd31 (by decide)
  walk_at "du"
  refine ixS_s (c := c) signs_lt ec ?_
  walk_at "du"
  refine for_inv (fun ds env => ∃ (A : OA (nf a)) (w : Str) (s5 : SD (nf a)), Tp K a v (b + 15 - ds.length) (.ow v A) ∧ ds.length ≤ 11 ∧ Bs w ds.length ∧ env = [.ow v A, .fz (.lst (us.map .str)), .fz (.int d1), .fz (.int z), .fz (.str w), s5]) ?_ ?_ _ _ ⟨A3, _, _, hT3.mono (by simp [rangeD]; omega), by simp [rangeD]; omega, ⟨c, [], rfl, hc (by decide), (fun y hy => by cases hy), by simp [rangeD]; omega⟩, rfl⟩
  · rintro y ys env R ⟨A4, w, s5, hT4, hlen, hbs, rfl⟩ hR
    have hbl := hbs.len
    rw [List.length_cons] at hlen hT4 hbs
    walk_at "du"
    refine ⟨rfl, ?_⟩
    walk_at "du"
    refine ⟨v, _, _, 36, rfl, hT4, by omega, by decide, by decide, fun s6 d6 hT6 hd60 hd61 => ?_⟩
    obtain ⟨A6, rfl⟩ := hT6.is
    obtain ⟨c6, ec6, hc6, _⟩ := sign_at hd60 hd61 (by decide)
    walk_at "du"
    refine ixS_s (c := c6) signs_lt ec6 ?_
    refine addS_s (by show w.length + 1 ≤ 1000000; omega) ?_
    walk_at "du"
    exact hR _ ⟨A6, _, _, hT6.mono (by omega), by omega, hbs.grow hc6, rfl⟩
  · rintro env ⟨A4, w, s5, hT4, hlen, hbs, rfl⟩
    walk_at "du"
    exact q _ _ (hT4.mono (by simp)) hbs.word.1 hbs.head
theorem rangeD_cons (lo : Nat) (n : Nat) : rangeD ((lo : Nat) : Int) (n + 1) = .int ((lo : Nat) : Int) :: rangeD ((lo + 1 : Nat) : Int) n := by
  unfold rangeD
  rw [List.range_succ_eq_map, List.map_cons, List.map_map]
  congr 1
  apply List.map_congr_left
  intro x _
  show D.int ((lo : Int) + ((x + 1 : Nat) : Int)) = D.int (((lo + 1 : Nat) : Int) + (x : Nat))
  congr 1
  omega
theorem pigeon {α : Type} [BEq α] [LawfulBEq α] : ∀ (l us : List α), l.Nodup → (∀ x ∈ l, x ∈ us) → l.length ≤ us.length
  | [], _, _, _ => Nat.zero_le _
  | x :: l, us, n, h => by
    have n' := List.nodup_cons.mp n
    have hx := h x List.mem_cons_self
    have := pigeon l (us.erase x) n'.2 fun y hy => (List.mem_erase_of_ne fun e => n'.1 (by rw [← e]; exact hy)).mpr (h y (List.mem_cons_of_mem _ hy))
    rw [List.length_erase_of_mem hx] at this
    have : 0 < us.length := List.length_pos_of_mem hx
    rw [List.length_cons]
    omega
theorem digs_inj : ∀ i < 64, ∀ j < 64, Str.ofString (toString ((i : Nat) : Int)) = Str.ofString (toString ((j : Nat) : Int)) → i = j := by decide +kernel
theorem cand_inj {p : Str} {i j : Nat} (hi : i < 64) (hj : j < 64) (e : p ++ Str.ofString (toString ((i : Nat) : Int)) = p ++ Str.ofString (toString ((j : Nat) : Int))) : i = j := by
  refine digs_inj i hi j hj (cl_ext ?_)
  have := congrArg cl e
  rw [cl_app, cl_app] at this
  exact List.append_cancel_left this
theorem d_law_ident {K : PySem.W.Frag} {a : Ad} : ∀ as Qd, as.length = 2 → (S_law_ident K a) as Qd → td_law_ident K a (fnEnds as Qd) (as ++ List.replicate (4 - 2) .un) := by
  rintro as Qd hl ⟨v, s, b, us, rfl, hT, hb, hul, hus, q⟩
  obtain ⟨A, rfl⟩ := hT.is
  show td_law_ident K a (fnEnds _ Qd) [.ow v A, .fz (.lst (us.map .str)), .un, .un]
  unfold td_law_ident
  walk_at "du"
  refine ⟨v, _, b, us, rfl, hT, hb, hul, hus, fun s1 z hT1 hz1 hz2 => ?_⟩
  obtain ⟨A1, rfl⟩ := hT1.is
  have hB := Bs.of hz1 hz2
  walk_at "du"
  have loop : ∀ De : EndsD (nf a), (∀ i : Nat, i < 64 → (cutS z none (some 9) ++ Str.ofString (toString ((i : Nat) : Int))) ∉ us → De.rt (.str (cutS z none (some 9) ++ Str.ofString (toString ((i : Nat) : Int)))) [.ow v A1, .fz (.lst (us.map .str)), .fz (.str z), .fz (.int (i : Nat))]) →
      dFor (gN 3) (sIf (dBv (dF ninF (dF addD (dSlS (dVar 2) oNone (oSome (dC (.int 9)))) (dCB fStrI (aCons (dVar 3) aNil))) (dVar 1))) (sRet (dF addD (dSlS (dVar 2) oNone (oSome (dC (.int 9)))) (dCB fStrI (aCons (dVar 3) aNil)))) sNext) (rangeD 0 ((((us.map D.str).length : Nat) : Int) + 1).toNat) De [.ow v A1, .fz (.lst (us.map .str)), .fz (.str z), .un] := by
    intro De hr
    refine for_inv (fun ds env => ∃ (i m : Nat) (s3 : SD (nf a)), ds = rangeD ((i : Nat) : Int) m ∧ i + m = us.length + 1 ∧ (∀ j < i, cutS z none (some 9) ++ Str.ofString (toString ((j : Nat) : Int)) ∈ us) ∧ env = [.ow v A1, .fz (.lst (us.map .str)), .fz (.str z), s3]) ?_ ?_ _ _ ⟨0, us.length + 1, .un, ?_, by omega, fun j hj => by omega, rfl⟩
    · rintro y ds env R ⟨i, m, s3, hds, him, hin, rfl⟩ hC
      match m, hds with
      | m + 1, hds =>
        rw [rangeD_cons] at hds
        obtain ⟨rfl, rfl⟩ := List.cons.inj hds
        have hi : i < 64 := by omega
        have hzl := hB.len
        have hcl := cut_len z
        have hdl := (digs_ok i hi).2.1
        walk_at "du"
        refine cbStrI_s ?_ ?_
        · exact Nat.lt_of_le_of_lt (Nat.log2_le_self i) (by omega)
        refine addS_s (by show (cutS z none (some 9)).length + (Str.ofString (toString ((i : Nat) : Int))).length ≤ 1000000; omega) ?_
        walk_at "du"
        by_cases hm : cutS z none (some 9) ++ Str.ofString (toString ((i : Nat) : Int)) ∈ us
        · refine ninLb_s (strsOf_map us) (decide_eq_true hm) ?_
          walk_at "du"
          refine hC _ ⟨i + 1, m, _, rfl, by omega, fun j hj => ?_, rfl⟩
          by_cases e : j = i
          · subst e; exact hm
          · exact hin j (by omega)
        · refine ninLb_s (strsOf_map us) (decide_eq_false hm) ?_
          walk_at "du"
          refine cbStrI_s ?_ ?_
          · exact Nat.lt_of_le_of_lt (Nat.log2_le_self i) (by omega)
          refine addS_s (by show (cutS z none (some 9)).length + (Str.ofString (toString ((i : Nat) : Int))).length ≤ 1000000; omega) ?_
          walk_at "du"
          exact hr i hi hm
    · rintro env ⟨i, m, s3, hds, him, hin, rfl⟩
      exfalso
      have : m = 0 := by
        cases m with
        | zero => rfl
        | succ m => rw [rangeD_cons] at hds; cases hds
      subst this
      have := pigeon ((List.range i).map fun j => cutS z none (some 9) ++ Str.ofString (toString ((j : Nat) : Int))) us ?_ ?_
      · rw [List.length_map, List.length_range] at this
        omega
      · unfold List.Nodup
        rw [List.pairwise_map]
        refine List.Pairwise.imp_of_mem (fun {x y} hx hy h e => ?_) List.pairwise_lt_range
        have h1 := List.mem_range.mp hx
        have h2 := List.mem_range.mp hy
        have := cand_inj (by omega) (by omega) e
        omega
      · intro x hx
        obtain ⟨j, hj, rfl⟩ := List.mem_map.mp hx
        exact hin j (List.mem_range.mp hj)
    · simp only [List.length_map]; rfl
  by_cases hu : z ∈ us
  · refine ninLb_s (strsOf_map us) (decide_eq_true hu) ?_
    walk_at "du"
    refine ir1K_s (by rw [List.length_map]; omega) ?_
    refine loop _ fun i hi hm => ?_
    show (fnEnds [.ow v A, .fz (.lst (us.map .str))] Qd).rt _ _
    walk_at "du"
    exact q _ _ hT1 ((tail_bs hB hi).ident (tail_kept hi)) hm
  · refine ninLb_s (strsOf_map us) (decide_eq_false hu) ?_
    walk_at "du"
    refine ⟨rfl, ?_⟩
    walk_at "du"
    by_cases hk : z ∈ keptWords
    · refine ninLb_s (strsOf_map keptWords) (decide_eq_true hk) ?_
      walk_at "du"
      refine ir1K_s (by rw [List.length_map]; omega) ?_
      refine loop _ fun i hi hm => ?_
      show (fnEnds [.ow v A, .fz (.lst (us.map .str))] Qd).rt _ _
      walk_at "du"
      exact q _ _ hT1 ((tail_bs hB hi).ident (tail_kept hi)) hm
    · refine ninLb_s (strsOf_map keptWords) (decide_eq_false hk) ?_
      walk_at "du"
      exact q _ _ hT1 (hB.ident hk) hu
def Wd (b : Str) (r : Nat) : Prop := (∀ x ∈ cl b, x ∈ lts ∨ x ∈ dgs) ∧ b.length + r ≤ 12
theorem Wd.grow {b : Str} {r : Nat} (h : Wd b (r + 1)) {c : Nat} (hc : c ∈ lts ∨ c ∈ dgs) : Wd (b ++ ⟨#[c]⟩) r := by
  refine ⟨fun x hx => ?_, by rw [Str_len_app]; have := h.2; show b.length + 1 + r ≤ 12; omega⟩
  rw [cl_app] at hx
  rcases List.mem_append.mp hx with m | m
  · exact h.1 x m
  · rw [List.mem_singleton.mp m]; exact hc
theorem Wd.word {b : Str} {r : Nat} (h : Wd b r) (h1 : 1 ≤ b.length) : isWordB b = true := by
  have ha : (cl b).all (fun c => decide (c ∈ letters.cps.toList) || decide (c ∈ digits.cps.toList)) = true := by
    rw [List.all_eq_true]
    intro x hx
    rw [Bool.or_eq_true, decide_eq_true_eq, decide_eq_true_eq]
    exact h.1 x hx
  unfold isWordB
  rw [show decide (1 ≤ b.length) = true from decide_eq_true h1, show decide (b.length ≤ 12) = true from decide_eq_true (by have := h.2; omega)]
  exact ha
theorem d_law_word {K : PySem.W.Frag} {a : Ad} : ∀ as Qd, as.length = 1 → (S_law_word K a) as Qd → td_law_word K a (fnEnds as Qd) (as ++ List.replicate (4 - 1) .un) := by
  rintro as Qd hl ⟨v, s, b, rfl, hT, hb, q⟩
  obtain ⟨A, rfl⟩ := hT.is
  show td_law_word K a (fnEnds _ Qd) [.ow v A, .un, .un, .un]
  unfold td_law_word
  walk_at "du"
  refine ⟨v, _, b, 4, rfl, hT, by omega, by decide, by decide, fun s1 d1 hT1 hd10 hd11 => ?_⟩
  obtain ⟨A1, rfl⟩ := hT1.is
  walk_at "du"
  refine ite_s (fun h1 => ?_) (fun h1 => ?_)
  · walk_at "du"
    refine ⟨rfl, ?_⟩
    walk_at "du"
    refine ⟨v, _, b + 1, 26, rfl, hT1, by omega, by decide, by decide, fun s3 d3 hT3 hd30 hd31 => ?_⟩
    obtain ⟨A3, rfl⟩ := hT3.is
    walk_at "du"
    obtain ⟨w, hw, ew, _⟩ := atI_ex (xs := keptWords) (k := d3) hd30 hd31
    refine ixL_s (atI_map (f := D.str) ew) ?_
    walk_at "du"
    exact q _ _ (hT3.mono (by omega)) (kept_w hw).word.1
  · walk_at "du"
    refine ⟨v, _, b + 1, 12, rfl, hT1, by omega, by decide, by decide, fun s2 d2 hT2 hd20 hd21 => ?_⟩
    obtain ⟨A2, rfl⟩ := hT2.is
    walk_at "du"
    refine for_inv (fun ds env => ∃ (A : OA (nf a)) (w : Str) (s3 : SD (nf a)), Tp K a v (b + 15 - ds.length) (.ow v A) ∧ ds.length ≤ 12 ∧ 1 ≤ w.length + ds.length ∧ Wd w ds.length ∧ env = [.ow v A, .fz (.int (1 + d2)), .fz (.str w), s3]) ?_ ?_ _ _ ⟨A2, _, _, hT2.mono (by simp [rangeD]; omega), by simp [rangeD]; omega, by simp [rangeD]; omega, ⟨(fun x hx => by cases hx), by simp only [rangeD, List.length_map, List.length_range]; show 0 + _ ≤ 12; omega⟩, rfl⟩
    · rintro y ys env R ⟨A4, w, s5, hT4, hlen, hl1, hbs, rfl⟩ hR
      have hbl := hbs.2
      rw [List.length_cons] at hlen hT4 hbs hl1 hbl
      walk_at "du"
      refine ⟨rfl, ?_⟩
      walk_at "du"
      refine ⟨v, _, _, 36, rfl, hT4, by omega, by decide, by decide, fun s6 d6 hT6 hd60 hd61 => ?_⟩
      obtain ⟨A6, rfl⟩ := hT6.is
      obtain ⟨c6, ec6, hc6, _⟩ := sign_at hd60 hd61 (by decide)
      walk_at "du"
      refine ixS_s (c := c6) signs_lt ec6 ?_
      refine addS_s (by show w.length + 1 ≤ 1000000; omega) ?_
      walk_at "du"
      exact hR _ ⟨A6, _, _, hT6.mono (by omega), by omega, by rw [Str_len_app]; show 1 ≤ w.length + 1 + ys.length; omega, hbs.grow hc6, rfl⟩
    · rintro env ⟨A4, w, s5, hT4, hlen, hl1, hbs, rfl⟩
      walk_at "du"
      exact q _ _ (hT4.mono (by simp)) (hbs.word (by simpa using hl1))
open PySem L2 DL
local macro_rules | `(tactic| walk_at "dw") => `(tactic| (unfold td_law_blocks; walk_at "du"; assumption))
theorem d_law_blocks {K : PySem.W.Frag} {a : Ad} : ∀ as Qd, as.length = 1 → (S_law_blocks a) as Qd → td_law_blocks K a (fnEnds as Qd) (as ++ List.replicate (1 - 1) .un) := by
  rintro as Qd hl ⟨⟨h, bs⟩, rfl, hb, q⟩
  have hb' : bs.length = h.nb := hb
  clear hb hl
  cases h with
  | look w i =>
    obtain rfl := List.length_eq_zero_iff.mp hb'
    show td_law_blocks K a (fnEnds _ Qd) [.fz (.tup [.str "look", .str w, .str i])]
    walk_at "dw"
  | call i =>
    obtain rfl := List.length_eq_zero_iff.mp hb'
    show td_law_blocks K a (fnEnds _ Qd) [.fz (.tup [.str "call", .str i])]
    walk_at "dw"
  | keep s f cs =>
    obtain rfl := List.length_eq_zero_iff.mp hb'
    show td_law_blocks K a (fnEnds _ Qd) [.fz (.tup [.str "keep", .str s, .str f, capsD cs])]
    walk_at "dw"
  | take s cs =>
    obtain rfl := List.length_eq_zero_iff.mp hb'
    show td_law_blocks K a (fnEnds _ Qd) [.fz (.tup [.str "take", .str s, capsD cs])]
    walk_at "dw"
  | shift s t cs =>
    obtain rfl := List.length_eq_zero_iff.mp hb'
    show td_law_blocks K a (fnEnds _ Qd) [.fz (.tup [.str "shift", .str s, .str t, capsD cs])]
    walk_at "dw"
  | run s =>
    obtain rfl := List.length_eq_zero_iff.mp hb'
    show td_law_blocks K a (fnEnds _ Qd) [.fz (.tup [.str "run", .str s])]
    walk_at "dw"
  | drop s =>
    obtain rfl := List.length_eq_zero_iff.mp hb'
    show td_law_blocks K a (fnEnds _ Qd) [.fz (.tup [.str "drop", .str s])]
    walk_at "dw"
  | fail =>
    obtain rfl := List.length_eq_zero_iff.mp hb'
    show td_law_blocks K a (fnEnds _ Qd) [.fz (.tup [.str "fail"])]
    walk_at "dw"
  | bind i o v =>
    obtain ⟨b, rfl⟩ := List.length_eq_one_iff.mp hb'
    show td_law_blocks K a (fnEnds _ Qd) [.fz (.tup [.str "bind", .str i, valD o v, rowsD b])]
    walk_at "dw"
  | apart =>
    obtain ⟨b, rfl⟩ := List.length_eq_one_iff.mp hb'
    show td_law_blocks K a (fnEnds _ Qd) [.fz (.tup [.str "apart", rowsD b])]
    walk_at "dw"
  | whn f =>
    obtain ⟨b, c, rfl⟩ := len2 hb'
    show td_law_blocks K a (fnEnds _ Qd) [.fz (.tup [.str "when", .str f, rowsD b, rowsD c])]
    walk_at "dw"
  | held f =>
    obtain ⟨b, c, rfl⟩ := len2 hb'
    show td_law_blocks K a (fnEnds _ Qd) [.fz (.tup [.str "held", .str f, rowsD b, rowsD c])]
    walk_at "dw"
  | guard =>
    obtain ⟨b, c, rfl⟩ := len2 hb'
    show td_law_blocks K a (fnEnds _ Qd) [.fz (.tup [.str "guard", rowsD b, rowsD c])]
    walk_at "dw"
theorem bs_at {bs : List (List Sm)} {j : Nat} {b : List Sm} (e : bs[j]? = some b) : atI (encB bs) ((j : Nat) : Int) = some (rowsD b) := by
  have hj : j < bs.length := (List.getElem?_eq_some_iff.mp e).1
  rw [atI_of (by omega) (by rw [encB_len]; omega), encB_map]
  simp [e]
theorem d_law_listed_rows {K : PySem.W.Frag} {a : Ad} (n : Nat) : ∀ as Qd, as.length = 4 → (S_law_listed_rows K a (n + 1)) as Qd → td_law_listed_rows K a n (fnEnds as Qd) (as ++ List.replicate (7 - 4) .un) := by
  rintro as Qd hl ⟨v, xs, rs, l, k, rfl, hh, hg, hx, q⟩
  show td_law_listed_rows K a n (fnEnds _ Qd) [.ow v (lstA K (nf a) xs), .fz (rowsD rs), .fz (.int l), .fz (.int (k : Nat)), .un, .un, .un]
  unfold td_law_listed_rows
  walk_at "du"
  refine for_inv (fun ds env => ∃ (ys : List D) (r : List Sm) (m : Int) (s4 s5 s6 : SD (nf a)), ds = encR r ∧ env = [.ow v (lstA K (nf a) ys), .fz (rowsD rs), .fz (.int m), .fz (.int (k : Nat)), s4, s5, s6] ∧ hR r < n + 1 ∧ GoodR r ∧ ys.length + cntR r ≤ 900000 ∧
    ys ++ (lstR r m).1.map (entD k) = xs ++ (lstR rs l).1.map (entD k) ∧ (lstR r m).2 = (lstR rs l).2) ?_ ?_ _ _ ⟨xs, rs, l, .un, .un, .un, rfl, rfl, hh, hg, hx, rfl, rfl⟩
  · rintro x ds env R ⟨ys, r, m, s4, s5, s6, hds, rfl, hr, hgr, hy, e1, e2⟩ hC
    match r, hds with
    | s :: r, hds =>
      simp only [encR] at hds
      obtain ⟨rfl, rfl⟩ := List.cons.inj hds
      obtain ⟨gs, gr⟩ := goodR_cons hgr
      simp only [hR, cntR] at hr hy
      simp only [lstR] at e1 e2
      obtain ⟨h, bs⟩ := s
      obtain ⟨hb, hgd, gb, hcb, hhb⟩ := goodS_bs gs
      have hnb := nb_le h
      have hbl := encB_len bs
      simp only [hS, cntS] at hr hy
      walk_at "du"
      refine appK_s rfl (by omega) (by walk_at "dn") ?_
      walk_at "du"
      refine ⟨.mk h bs, rfl, hb, ?_⟩
      walk_at "du"
      refine ir1K_s (by have : (encB (Sm.mk h bs).bs).length = bs.length := hbl; omega) ?_
      refine for_inv (fun ds env => ∃ (zs : List D) (j : Nat) (dn bb : List (List Sm)) (m' : Int) (s6 : SD (nf a)), ds = rangeD ((j : Nat) : Int) bb.length ∧ dn.length = j ∧ dn ++ bb = bs ∧ env = [.ow v (lstA K (nf a) zs), .fz (rowsD rs), .fz (.int m'), .fz (.int (k : Nat)), .fz (encS (.mk h bs)), .fz (.lst (encB bs)), s6] ∧
        hB bb < n ∧ allB Hd.good bb ∧ zs.length + cntB bb + cntR r ≤ 900000 ∧ 1 + cntB bb ≤ 1000 ∧ 1 + hB bb ≤ 20 ∧
        zs ++ (lstB bb j m').1.map (entD k) = (ys ++ [entD k (m, .mk h bs)]) ++ (lstB bs 0 (m + 1)).1.map (entD k) ∧ (lstB bb j m').2 = (lstB bs 0 (m + 1)).2) ?_ ?_ _ _ ⟨_, 0, [], bs, _, _, by rw [← hbl]; rfl, rfl, rfl, rfl, by omega, gb, by simp; omega, hcb, hhb, rfl, rfl⟩
      · rintro x ds env R' ⟨zs, j, dn, bb, m', s6, hds, hdn, hbs, rfl, hr', gbb, hz, hc', hh', f1, f2⟩ hR'
        match bb, hds with
        | b :: bb, hds =>
          rw [List.length_cons, rangeD_cons] at hds
          obtain ⟨rfl, rfl⟩ := List.cons.inj hds
          have ebj : bs[j]? = some b := by rw [← hbs, ← hdn]; simp
          simp only [allB, hB, cntB] at gbb hr' hz hc' hh'
          simp only [lstB] at f1 f2
          walk_at "du"
          refine ite_s (fun h1 => ?_) (fun h1 => ?_)
          · have hj : j = 1 := by have := of_decide_eq_true h1; omega
            have e1b : atI (encB bs) 1 = some (rowsD b) := by rw [hj] at ebj; exact bs_at ebj
            walk_at "du"
            refine ixL_s e1b ?_
            walk_at "du"
            refine neNilT_s (pl_rows gbb.1) (by omega) ?_
            rw [encR_nil]
            cases b with
            | nil =>
              walk_at "du"
              rw [show m' + (if (![].isEmpty : Bool) = true then (1 : Int) else 0) = m' by simp]
              rw [if_neg (fun z => z.2 rfl)] at f1 f2
              refine ixL_s (bs_at ebj) ?_
              walk_at "du"
              refine ⟨v, zs, [], _, k, rfl, by omega, ⟨gbb.1, by omega, by omega⟩, by omega, ?_⟩
              walk_at "du"
              refine hR' _ ⟨_, j + 1, dn ++ [[]], bb, _, _, rfl, by simp [hdn], by rw [← hbs]; simp, rfl, by omega, gbb.2, by rw [List.length_append, List.length_map, lstR_len]; omega, by omega, by omega, ?_, f2⟩
              rw [← f1, List.map_append, List.append_assoc]
            | cons s0 b =>
              walk_at "du"
              rw [show m' + (if (!(s0 :: b).isEmpty : Bool) = true then (1 : Int) else 0) = m' + 1 by simp]
              rw [if_pos ⟨hj, by simp⟩] at f1 f2
              refine ixL_s (bs_at ebj) ?_
              walk_at "du"
              refine ⟨v, zs, s0 :: b, _, k, rfl, by omega, ⟨gbb.1, by omega, by omega⟩, by omega, ?_⟩
              walk_at "du"
              refine hR' _ ⟨_, j + 1, dn ++ [s0 :: b], bb, _, _, rfl, by simp [hdn], by rw [← hbs]; simp, rfl, by omega, gbb.2, by rw [List.length_append, List.length_map, lstR_len]; omega, by omega, by omega, ?_, f2⟩
              rw [← f1, List.map_append, List.append_assoc]
          · have hj : ¬ j = 1 := by have := of_decide_eq_false h1; omega
            walk_at "du"
            rw [show m' + (if (false : Bool) = true then (1 : Int) else 0) = m' by simp]
            rw [if_neg (fun z => hj z.1)] at f1 f2
            refine ixL_s (bs_at ebj) ?_
            walk_at "du"
            refine ⟨v, zs, b, _, k, rfl, by omega, ⟨gbb.1, by omega, by omega⟩, by omega, ?_⟩
            walk_at "du"
            refine hR' _ ⟨_, j + 1, dn ++ [b], bb, _, _, rfl, by simp [hdn], by rw [← hbs]; simp, rfl, by omega, gbb.2, by rw [List.length_append, List.length_map, lstR_len]; omega, by omega, by omega, ?_, f2⟩
            rw [← f1, List.map_append, List.append_assoc]
      · rintro env ⟨zs, j, dn, bb, m', s6, hds, hdn, hbs, rfl, _, _, _, _, _, f1, f2⟩
        have : bb = [] := by cases bb with
          | nil => rfl
          | cons _ _ => rw [List.length_cons, rangeD_cons] at hds; cases hds
        subst this
        simp only [lstB, List.map_nil, List.append_nil] at f1 f2
        walk_at "du"
        refine neNilL_s (plD_lst (pl_B gb)) (by omega) ?_
        rw [encB_nil]
        have e1' : zs ++ (lstR r (if bs.length = 0 then m + 1 else (lstB bs 0 (m + 1)).2 + 1)).1.map (entD k) = xs ++ (lstR rs l).1.map (entD k) := by
          rw [← e1, f1, lstS, List.map_append, List.map_cons]
          simp
        have e2' : (lstR r (if bs.length = 0 then m + 1 else (lstB bs 0 (m + 1)).2 + 1)).2 = (lstR rs l).2 := by rw [← e2, lstS]
        have hz' : zs.length + cntR r ≤ 900000 := by
          rw [f1, List.length_append, List.length_append, List.length_map, lstB_len]
          simp
          omega
        cases bs with
        | nil =>
          walk_at "du"
          rw [show m' + (if (!([] : List (List Sm)).isEmpty : Bool) = true then (1 : Int) else 0) = m' by simp]
          simp only [List.length_nil, if_true] at e1' e2'
          simp only [lstB] at f2
          refine hC _ ⟨zs, r, _, _, _, _, rfl, rfl, by omega, gr, hz', by rw [f2]; exact e1', by rw [f2]; exact e2'⟩
        | cons b0 bs =>
          walk_at "du"
          rw [show m' + (if (!(b0 :: bs).isEmpty : Bool) = true then (1 : Int) else 0) = m' + 1 by simp]
          simp only [List.length_cons, Nat.add_one_ne_zero, if_false] at e1' e2'
          refine hC _ ⟨zs, r, _, _, _, _, rfl, rfl, by omega, gr, hz', by rw [f2]; exact e1', by rw [f2]; exact e2'⟩
  · rintro env ⟨ys, r, m, s4, s5, s6, hds, rfl, hr, hgr, hy, e1, e2⟩
    have : r = [] := by cases r with
      | nil => rfl
      | cons _ _ => simp only [encR] at hds; cases hds
    subst this
    simp only [lstR, List.map_nil, List.append_nil] at e1 e2
    walk_at "du"
    rw [e1, e2]
    exact q
theorem d_law_listed {K : PySem.W.Frag} {a : Ad} : ∀ as Qd, as.length = 1 → (S_law_listed a) as Qd → td_law_listed K a (fnEnds as Qd) (as ++ List.replicate (4 - 1) .un) := by
  rintro as Qd hl ⟨ps, rfl, ⟨hf, hn⟩, q⟩
  show td_law_listed K a (fnEnds _ Qd) [.fz (partsD ps), .un, .un, .un]
  unfold td_law_listed
  walk_at "du"
  intro v
  walk_at "du"
  have hc := cntP_le hf
  refine ir1K_s (by rw [List.length_map]; omega) ?_
  refine for_inv (fun ds env => ∃ (ys : List D) (dn r : List Pt) (m : Int) (k : Nat) (s3 : SD (nf a)), ds = rangeD ((k : Nat) : Int) r.length ∧ dn.length = k ∧ dn ++ r = ps ∧ env = [.fz (partsD ps), .ow (.ref v) (lstA K (nf a) ys), .fz (.int m), s3] ∧ (∀ x ∈ r, x.good) ∧ ys.length + cntP r ≤ 100000 ∧
    ys ++ (flR r k m).map Row.enc = (flR ps 0 1).map Row.enc) ?_ ?_ _ _ ⟨[], [], ps, 1, 0, .un, by rw [List.length_map]; rfl, rfl, rfl, rfl, hf, by simp; omega, rfl⟩
  · rintro y ds env R ⟨ys, dn, r, m, k, s3, hds, hdn, hps, rfl, hg, hy, e⟩ hC
    match r, hds with
    | x :: r, hds =>
      rw [List.length_cons, rangeD_cons] at hds
      obtain ⟨rfl, rfl⟩ := List.cons.inj hds
      have epk : ps[k]? = some x := by rw [← hps, ← hdn]; simp
      have hkl : k < ps.length := (List.getElem?_eq_some_iff.mp epk).1
      have ep : atI (ps.map Pt.enc) ((k : Nat) : Int) = some x.enc := by
        rw [atI_of (by omega) (by rw [List.length_map]; omega)]
        simp [epk]
      have gx := hg x List.mem_cons_self
      have gr := good_rows gx
      have hcy : cntP (x :: r) = 1 + cntR x.rows + cntP r := by simp [cntP]
      have hg' : ∀ y ∈ r, y.good := fun y m => hg y (List.mem_cons_of_mem _ m)
      rw [flR, List.map_append, ptRows, List.map_cons] at e
      have hh := good_hR gx
      cases x with
      | func i o rs =>
        rw [show (Pt.func i o rs).enc = .tup [.str "func", .str i, .str (accS o), rowsD rs] from rfl] at ep
        walk_at "du"
        refine ixT_s ep ?_
        walk_at "du"
        refine appK_s rfl (by omega) (by walk_at "dn") ?_
        walk_at "du"
        refine ixT_s ep ?_
        walk_at "du"
        refine ixT_s ep ?_
        walk_at "du"
        refine ⟨.ref v, _, rs, _, k, rfl, by show hR rs < 12; have : hR rs ≤ 9 := hh; omega, gr, by simp; have : cntR (Pt.func i o rs).rows = cntR rs := rfl; omega, ?_⟩
        walk_at "du"
        refine hC _ ⟨_, dn ++ [.func i o rs], r, _, k + 1, _, rfl, by simp [hdn], by rw [← hps]; simp, rfl, hg', by simp [lstR_len]; have : cntR (Pt.func i o rs).rows = cntR rs := rfl; omega, ?_⟩
        rw [← e]
        simp [ptEnd, Pt.isFn, Pt.rows, Row.enc, It.enc, Pt.enc]
      | name i w =>
        rw [show (Pt.name i w).enc = .tup [.str "name", .str i, .str w] from rfl] at ep
        walk_at "du"
        refine ixT_s ep ?_
        walk_at "du"
        refine appK_s rfl (by omega) (by walk_at "dn") ?_
        walk_at "du"
        refine ixT_s ep ?_
        walk_at "du"
        refine hC _ ⟨_, dn ++ [.name i w], r, _, k + 1, _, rfl, by simp [hdn], by rw [← hps]; simp, rfl, hg', by simp; omega, ?_⟩
        rw [← e]
        simp [ptEnd, Pt.isFn, Pt.rows, Row.enc, It.enc, Pt.enc, lstR]
      | flag i w =>
        rw [show (Pt.flag i w).enc = .tup [.str "flag", .str i, .str w] from rfl] at ep
        walk_at "du"
        refine ixT_s ep ?_
        walk_at "du"
        refine appK_s rfl (by omega) (by walk_at "dn") ?_
        walk_at "du"
        refine ixT_s ep ?_
        walk_at "du"
        refine hC _ ⟨_, dn ++ [.flag i w], r, _, k + 1, _, rfl, by simp [hdn], by rw [← hps]; simp, rfl, hg', by simp; omega, ?_⟩
        rw [← e]
        simp [ptEnd, Pt.isFn, Pt.rows, Row.enc, It.enc, Pt.enc, lstR]
      | slot i w =>
        rw [show (Pt.slot i w).enc = .tup [.str "slot", .str i, .str (accS w)] from rfl] at ep
        walk_at "du"
        refine ixT_s ep ?_
        walk_at "du"
        refine appK_s rfl (by omega) (by walk_at "dn") ?_
        walk_at "du"
        refine ixT_s ep ?_
        walk_at "du"
        refine hC _ ⟨_, dn ++ [.slot i w], r, _, k + 1, _, rfl, by simp [hdn], by rw [← hps]; simp, rfl, hg', by simp; omega, ?_⟩
        rw [← e]
        simp [ptEnd, Pt.isFn, Pt.rows, Row.enc, It.enc, Pt.enc, lstR]
  · rintro env ⟨ys, dn, r, m, k, s3, hds, hdn, hps, rfl, hg, hy, e⟩
    have : r = [] := by cases r with
      | nil => rfl
      | cons _ _ => rw [List.length_cons, rangeD_cons] at hds; cases hds
    subst this
    simp only [flR, List.map_nil, List.append_nil] at e
    walk_at "du"
    rw [e]
    exact q
open PySem L2 DL
def kindB (ks : List Str) : D → Bool
  | .tup (.str k :: _) => decide (k ∈ ks)
  | _ => false
theorem ids_enc (hs : List (Str × Str)) (ks : List Str) : ((hs.map headD).filter (kindB ks)).map idD = (idsOf hs ks).map .str := by
  unfold idsOf
  rw [List.filter_map, List.map_map, List.map_map]
  rfl
theorem ids_mem {hs : List (Str × Str)} {ks : List Str} {i : Str} (h : i ∈ idsOf hs ks) : ∃ k ∈ ks, (k, i) ∈ hs := by
  obtain ⟨⟨k, j⟩, m, rfl⟩ := List.mem_map.mp h
  obtain ⟨m1, m2⟩ := List.mem_filter.mp m
  exact ⟨k, of_decide_eq_true m2, m1⟩
theorem ids_of {hs : List (Str × Str)} {ks : List Str} {k i : Str} (h : (k, i) ∈ hs) (hk : k ∈ ks) : i ∈ idsOf hs ks :=
  List.mem_map.mpr ⟨(k, i), List.mem_filter.mpr ⟨h, decide_eq_true hk⟩, rfl⟩
theorem ids_len (hs : List (Str × Str)) (ks : List Str) : (idsOf hs ks).length ≤ hs.length := by unfold idsOf; rw [List.length_map]; exact List.length_filter_le _ _
theorem ids_nd {hs : List (Str × Str)} (h : (hs.map Prod.snd).Nodup) (ks : List Str) : (idsOf hs ks).Nodup := h.sublist (List.filter_sublist.map _)
theorem d_law_idents {K : PySem.W.Frag} {a : Ad} : ∀ as Qd, as.length = 2 → (S_law_idents a) as Qd → td_law_idents K a (fnEnds as Qd) (as ++ List.replicate (3 - 2) .un) := by
  rintro as Qd hl ⟨hs, ks, rfl, hn, q⟩
  show td_law_idents K a (fnEnds _ Qd) [.fz (headsD hs), .fz (.tup (ks.map .str)), .un]
  unfold td_law_idents
  walk_at "du"
  refine lc_pure (kindB ks) idD rfl ?_ ?_ (by simp; omega) ?_
  · rintro x hx R r
    obtain ⟨⟨k, i⟩, _, rfl⟩ := List.mem_map.mp hx
    show dBv _ [.fz (headsD hs), .fz (.tup (ks.map .str)), .fz (.tup [.str k, .str i])] R
    walk_at "du"
    refine inTb_s (strsOf_map ks) rfl ?_
    walk_at "du"
    exact r
  · rintro x hx hp R r
    obtain ⟨⟨k, i⟩, _, rfl⟩ := List.mem_map.mp hx
    show dF ixD _ _ [.fz (headsD hs), .fz (.tup (ks.map .str)), .fz (.tup [.str k, .str i])] R
    walk_at "du"
    exact r
  · rw [List.nil_append, ids_enc]
    walk_at "du"
    exact q
theorem d_law_pick {K : PySem.W.Frag} {a : Ad} : ∀ as Qd, as.length = 2 → (S_law_pick K a) as Qd → td_law_pick K a (fnEnds as Qd) (as ++ List.replicate (2 - 2) .un) := by
  rintro as Qd hl ⟨v, s, b, xs, rfl, hT, hb, hne, hn, q⟩
  obtain ⟨A, rfl⟩ := hT.is
  show td_law_pick K a (fnEnds _ Qd) [.ow v A, .fz (.lst xs)]
  unfold td_law_pick
  walk_at "du"
  have h0 : 0 < xs.length := List.length_pos_iff.mpr hne
  refine ⟨v, _, b, xs.length, rfl, hT, by omega, by omega, Int.le_trans (Int.ofNat_le.mpr hn) (by decide), fun s1 d1 hT1 hd10 hd11 => ?_⟩
  obtain ⟨A1, rfl⟩ := hT1.is
  walk_at "du"
  obtain ⟨w, hw, ew, _⟩ := atI_ex (xs := xs) (k := d1) hd10 hd11
  refine ixL_s ew ?_
  walk_at "du"
  exact q _ _ hT1 hw
theorem nd_rev {α : Type} {l : List α} (h : l.Nodup) : l.reverse.Nodup := by
  unfold List.Nodup at h ⊢
  rw [List.pairwise_reverse]
  exact h.imp fun n e => n e.symm
theorem d_law_captured {K : PySem.W.Frag} {a : Ad} : ∀ as Qd, as.length = 2 → (S_law_captured K a) as Qd → td_law_captured K a (fnEnds as Qd) (as ++ List.replicate (5 - 2) .un) := by
  rintro as Qd hl ⟨v, s, b, hs, rfl, hT, hb, hH, q⟩
  obtain ⟨A, rfl⟩ := hT.is
  show td_law_captured K a (fnEnds _ Qd) [.ow v A, .fz (headsD hs), .un, .un, .un]
  unfold td_law_captured
  walk_at "du"
  have hlen := hH.2.2.2.1
  refine ⟨hs, ["name", "flag"], rfl, hlen, ?_⟩
  walk_at "du"
  have hil := ids_len hs ["name", "flag"]
  refine lc_inv (fun ds acc env => ∃ (A : OA (nf a)) (done r ch : List Str), ds = r.map .str ∧ acc = ch.map .str ∧ ch.Sublist done ∧ done ++ r = idsOf hs ["name", "flag"] ∧ Tp K a v (b + done.length) (.ow v A) ∧ env = [.ow v A, .fz (headsD hs), .fz (.lst ((idsOf hs ["name", "flag"]).map .str)), .un, .un]) ?_ ?_ _ _ _ ⟨A, [], idsOf hs ["name", "flag"], [], rfl, rfl, .slnil, rfl, hT.mono (by simp), rfl⟩
  · rintro x ds acc env R ⟨A2, done, r, ch, hds, rfl, hsub, e, hT2, rfl⟩ hC
    match r, hds, e with
    | c :: r, hds, e =>
      obtain ⟨rfl, rfl⟩ := List.cons.inj hds
      have hdl : done.length + 1 + r.length ≤ 40 := by
        have := congrArg List.length e
        rw [List.length_append, List.length_cons] at this
        omega
      have hcl := hsub.length_le
      walk_at "du"
      refine ⟨v, _, _, 2, rfl, hT2, by omega, by decide, by decide, fun s3 d3 hT3 hd30 hd31 => ?_⟩
      obtain ⟨A3, rfl⟩ := hT3.is
      have hT3' : Tp K a v (b + ((done ++ [c]).length : Nat)) (.ow v A3) := hT3.mono (by simp; omega)
      walk_at "du"
      refine ite_s (fun h1 => ?_) (fun h1 => ?_)
      · walk_at "du"
        refine ⟨by rw [List.length_map]; omega, ?_⟩
        exact hC _ _ ⟨A3, done ++ [c], r, ch ++ [c], rfl, by simp, hsub.append (List.Sublist.refl [c]), by rw [← e]; simp, hT3', rfl⟩
      · exact hC _ _ ⟨A3, done ++ [c], r, ch, rfl, rfl, hsub.trans (List.sublist_append_left done [c]), by rw [← e]; simp, hT3', rfl⟩
  · rintro acc env ⟨A2, done, r, ch, hds, rfl, hsub, e, hT2, rfl⟩
    have : r = [] := by cases r with
      | nil => rfl
      | cons _ _ => simp only [List.map_cons] at hds; cases hds
    subst this
    rw [List.append_nil] at e
    subst e
    have hdl : (idsOf hs ["name", "flag"]).length ≤ 40 := by omega
    have hnd : ch.Nodup := (ids_nd hH.1 _).sublist hsub
    have hok : ∀ c ∈ ch, ∃ k, bdK k ∧ (k, c) ∈ hs := fun c m => by
      obtain ⟨k, hk, m2⟩ := ids_mem (hsub.subset m)
      exact ⟨k, by simpa [bdK] using hk, m2⟩
    have hcl := hsub.length_le
    walk_at "du"
    refine ⟨v, _, _, 2, rfl, hT2, by omega, by decide, by decide, fun s3 d3 hT3 hd30 hd31 => ?_⟩
    obtain ⟨A3, rfl⟩ := hT3.is
    walk_at "du"
    refine ite_s (fun h1 => ?_) (fun h1 => ?_)
    · walk_at "du"
      rw [← List.map_reverse]
      exact q _ ch.reverse (hT3.mono (by omega)) ⟨nd_rev hnd, fun c m => hok c (List.mem_reverse.mp m)⟩ (by rw [List.length_reverse]; omega)
    · walk_at "du"
      exact q _ ch (hT3.mono (by omega)) ⟨hnd, hok⟩ (by omega)
theorem d_law_pairs_above {K : PySem.W.Frag} {a : Ad} : ∀ as Qd, as.length = 3 → (S_law_pairs_above a) as Qd → td_law_pairs_above K a (fnEnds as Qd) (as ++ List.replicate (8 - 3) .un) := by
  rintro as Qd hl ⟨hs, f, g, rfl, hn, q⟩
  show td_law_pairs_above K a (fnEnds _ Qd) [.fz (headsD hs), .fz (.str f), .fz (.str g), .un, .un, .un, .un, .un]
  unfold td_law_pairs_above
  walk_at "du"
  intro v
  walk_at "du"
  refine ir1K_s (by rw [List.length_map]; omega) ?_
  refine for_inv (fun ds env => ∃ (i m : Nat) (ps : List (Str × Str)) (s4 s5 : SD (nf a)), ds = rangeD ((i : Nat) : Int) m ∧ i + m = hs.length ∧ ps.length ≤ i * 40 ∧ (∀ p ∈ ps, aboveOk hs f g p) ∧ env = [.fz (headsD hs), .fz (.str f), .fz (.str g), .ow (.ref v) (lstA K (nf a) (ps.map headD)), s4, s5, .un, .un]) ?_ ?_ _ _ ⟨0, hs.length, [], .un, .un, by simp, by omega, by simp, (fun _ m => by cases m), rfl⟩
  · rintro x ds env R ⟨i, m, ps, s4, s5, hds, him, hpl, hp, rfl⟩ hC
    match m, hds with
    | m + 1, hds =>
      rw [rangeD_cons] at hds
      obtain ⟨rfl, rfl⟩ := List.cons.inj hds
      have hi : i < hs.length := by omega
      obtain ⟨⟨k, w⟩, ek⟩ : ∃ h, hs[i]? = some h := ⟨_, List.getElem?_eq_getElem hi⟩
      have eat : atI (hs.map headD) ((i : Nat) : Int) = some (headD (k, w)) := by
        rw [atI_of (by omega) (by simp; omega)]
        simp [ek]
      walk_at "du"
      rw [show HT.sIx (hs.map headD).length 0 none = 0 from rfl, sIx_nat _ _ _ (by rw [List.length_map]; omega), List.drop_zero, Nat.sub_zero, ← List.map_take]
      have elow : ((((hs.take i).map headD).filter (kindB [f])).map idD) = (idsOf (hs.take i) [f]).map .str := ids_enc _ _
      have hll := ids_len (hs.take i) [f]
      rw [List.length_take] at hll
      refine lc_pure (kindB [f]) idD rfl ?_ ?_ (by simp; omega) ?_
      · rintro x hx R r
        obtain ⟨⟨k2, i2⟩, _, rfl⟩ := List.mem_map.mp hx
        show dBv _ [.fz (headsD hs), .fz (.str f), .fz (.str g), .ow (.ref v) (lstA K (nf a) (ps.map headD)), .fz (.int (i : Nat)), s5, .fz (.tup [.str k2, .str i2]), .un] R
        have r' : R (decide (k2 = f)) [.fz (headsD hs), .fz (.str f), .fz (.str g), .ow (.ref v) (lstA K (nf a) (ps.map headD)), .fz (.int (i : Nat)), s5, .fz (.tup [.str k2, .str i2]), .un] := by simpa [kindB] using r
        walk_at "du"
        exact r'
      · rintro x hx hp R r
        obtain ⟨⟨k2, i2⟩, _, rfl⟩ := List.mem_map.mp hx
        show dF ixD _ _ [.fz (headsD hs), .fz (.str f), .fz (.str g), .ow (.ref v) (lstA K (nf a) (ps.map headD)), .fz (.int (i : Nat)), s5, .fz (.tup [.str k2, .str i2]), .un] R
        walk_at "du"
        exact r
      · rw [List.nil_append, elow]
        walk_at "du"
        refine ixL_s eat ?_
        walk_at "du"
        refine ite_s (fun h1 => ?_) (fun h1 => ?_)
        · have hkg : k = g := by simpa using h1
          subst hkg
          walk_at "du"
          refine lc_map (fun d => .tup [.str w, d]) rfl (fun x hx R r => ?_) (by simp; omega) ?_
          · show dTup _ [.fz (headsD hs), .fz (.str f), .fz (.str k), .ow (.ref v) (lstA K (nf a) (ps.map headD)), .fz (.int (i : Nat)), .fz (.lst ((idsOf (hs.take i) [f]).map .str)), .un, .fz x] R
            walk_at "du"
            refine ixL_s eat ?_
            walk_at "du"
            exact r
          · have eP : ((idsOf (hs.take i) [f]).map D.str).map (fun d => D.tup [.str w, d]) = ((idsOf (hs.take i) [f]).map fun l => (w, l)).map headD := by
              rw [List.map_map, List.map_map]
              rfl
            rw [eP]
            refine extK_s rfl (by simp; omega) rfl ?_
            rw [← List.map_append]
            refine hC _ ⟨i + 1, m, _, _, _, rfl, by omega, by simp; omega, fun p mp => ?_, rfl⟩
            rcases List.mem_append.mp mp with mp | mp
            · exact hp p mp
            · obtain ⟨l, ml, rfl⟩ := List.mem_map.mp mp
              obtain ⟨k3, hk3, m3⟩ := ids_mem ml
              rw [List.mem_singleton.mp hk3] at m3
              obtain ⟨j, ej⟩ := List.getElem?_of_mem m3
              rw [List.getElem?_take] at ej
              split at ej
              · rename_i hj
                exact ⟨j, i, hj, ej, ek⟩
              · cases ej
        · walk_at "du"
          exact hC _ ⟨i + 1, m, ps, _, _, rfl, by omega, by omega, hp, rfl⟩
  · rintro env ⟨i, m, ps, s4, s5, hds, him, hpl, hp, rfl⟩
    walk_at "du"
    exact q ps hp (by have : i ≤ 40 := by omega
                      omega)
open PySem L2 DL
def kindOk (k : Str) : Prop := k = "name" ∨ k = "flag" ∨ k = "slot" ∨ k = "func"
def KL (xs : List D) : Prop := ∀ d ∈ xs, ∃ k, d = .str k ∧ kindOk k
theorem insD_len (xs : List D) (i : Nat) (d : D) : (insD xs i d).length = xs.length + 1 := by
  unfold insD
  rw [List.length_append, List.length_append, List.length_take, List.length_drop]
  simp only [List.length_cons, List.length_nil]
  omega
theorem insD_mem {xs : List D} {i : Nat} {d y : D} : y ∈ insD xs i d ↔ y = d ∨ y ∈ xs := by
  unfold insD
  rw [List.mem_append, List.mem_append, List.mem_singleton]
  constructor
  · rintro ((h | h) | h)
    · exact .inr (List.mem_of_mem_take h)
    · exact .inl h
    · exact .inr (List.mem_of_mem_drop h)
  · rintro (h | h)
    · exact .inl (.inr h)
    · rw [← List.take_append_drop i xs] at h
      rcases List.mem_append.mp h with h | h
      · exact .inl (.inl h)
      · exact .inr h
theorem KL.ins {xs : List D} (h : KL xs) {i : Nat} {k : Str} (hk : kindOk k) : KL (insD xs i (.str k)) := fun d m => by
  rcases insD_mem.mp m with e | m
  · exact ⟨k, e, hk⟩
  · exact h d m
theorem two_at {d : Int} (h0 : 0 ≤ d) (h1 : d < 2) : d = 0 ∨ d = 1 := by omega
theorem d_law_heads {K : PySem.W.Frag} {a : Ad} : ∀ as Qd, as.length = 2 → (S_law_heads a) as Qd → td_law_heads K a (fnEnds as Qd) (as ++ List.replicate (8 - 2) .un) := by
  rintro as Qd hl ⟨ns, m, rfl, hns, hm0, hm, q⟩
  show td_law_heads K a (fnEnds _ Qd) [.fz (.scr ns), .fz (.int m), .un, .un, .un, .un, .un, .un]
  unfold td_law_heads
  walk_at "du"
  refine ⟨ns, 0, rfl, by decide, by decide, fun v s hT => ?_⟩
  obtain ⟨A, rfl⟩ := hT.is
  walk_at "du"
  intro v2
  walk_at "du"
  refine ⟨v, _, 0, m, rfl, hT, by decide, hm0, Int.le_trans hm (by decide), fun s1 d1 hT1 hd10 hd11 => ?_⟩
  obtain ⟨A1, rfl⟩ := hT1.is
  walk_at "du"
  have hd : d1.toNat ≤ 9 := by omega
  refine for_inv (fun ds env => ∃ (A : OA (nf a)) (xs : List D) (s4 : SD (nf a)), Tp K a v (20 - 2 * ds.length) (.ow v A) ∧ ds.length ≤ 9 ∧ KL xs ∧ (xs.length + ds.length ≤ 10 ∧ 1 ≤ xs.length) ∧ env = [.fz (.scr ns), .fz (.int m), .ow v A, .ow (.ref v2) (lstA K (nf a) xs), s4, .un, .un, .un]) ?_ ?_ _ _
    ⟨A1, [.str "func"], .un, hT1.mono (by simp [rangeD]; omega), by simp [rangeD]; omega, fun d mm => ⟨"func", List.mem_singleton.mp mm, .inr (.inr (.inr rfl))⟩, by simp [rangeD]; omega, rfl⟩
  · rintro x ds env R ⟨A2, xs, s4, hT2, hdl, hk, hxl, rfl⟩ hC
    rw [List.length_cons] at hT2 hdl hxl
    walk_at "du"
    refine ⟨v, _, _, ((xs.length : Nat) : Int) + 1, rfl, hT2, by omega, by omega, by omega, fun s3 d3 hT3 hd30 hd31 => ?_⟩
    obtain ⟨A3, rfl⟩ := hT3.is
    walk_at "du"
    refine ⟨v, _, _, 2, rfl, hT3, by omega, by decide, by decide, fun s4 d4 hT4 hd40 hd41 => ?_⟩
    obtain ⟨A4, rfl⟩ := hT4.is
    have hxl' : ∀ d, (insD xs d3.toNat d).length + ds.length ≤ 10 ∧ 1 ≤ (insD xs d3.toNat d).length := fun d => by rw [insD_len]; omega
    rcases two_at hd40 hd41 with rfl | rfl
    · walk_at "du"
      refine insK_s rfl (by omega) hd30 (by omega) (by walk_at "dn") ?_
      exact hC _ ⟨A4, _, _, hT4.mono (by omega), by omega, hk.ins (k := "slot") (.inr (.inr (.inl rfl))), hxl' _, rfl⟩
    · walk_at "du"
      refine insK_s rfl (by omega) hd30 (by omega) (by walk_at "dn") ?_
      exact hC _ ⟨A4, _, _, hT4.mono (by omega), by omega, hk.ins (k := "func") (.inr (.inr (.inr rfl))), hxl' _, rfl⟩
  rintro env ⟨A2, xs, s4, hT2, _, hk, hxl, rfl⟩
  simp only [List.length_nil] at hT2 hxl
  walk_at "du"
  refine ⟨v, _, _, ((xs.length : Nat) : Int) + 1, rfl, hT2, by omega, by omega, by omega, fun s3 d3 hT3 hd30 hd31 => ?_⟩
  obtain ⟨A3, rfl⟩ := hT3.is
  walk_at "du"
  refine insK_s rfl (by omega) hd30 (by omega) (by walk_at "dn") ?_
  have hk2 := hk.ins (i := d3.toNat) (k := "name") (.inl rfl)
  have hx2 := insD_len xs d3.toNat (.str "name")
  have hn2 : D.str "name" ∈ insD xs d3.toNat (.str "name") := insD_mem.mpr (.inl rfl)
  generalize hys : insD xs d3.toNat (.str "name") = ys at hk2 hx2 hn2
  walk_at "du"
  refine ⟨v, _, _, 4, rfl, hT3, by omega, by decide, by decide, fun s5 d5 hT5 hd50 hd51 => ?_⟩
  obtain ⟨A5, rfl⟩ := hT5.is
  walk_at "du"
  refine for_inv (fun ds env => ∃ (A : OA (nf a)) (xs : List D) (s4 : SD (nf a)), Tp K a v (40 - 2 * ds.length) (.ow v A) ∧ ds.length ≤ 3 ∧ KL xs ∧ D.str "name" ∈ xs ∧ (xs.length + ds.length ≤ 20 ∧ 2 ≤ xs.length) ∧ env = [.fz (.scr ns), .fz (.int m), .ow v A, .ow (.ref v2) (lstA K (nf a) xs), s4, .un, .un, .un]) ?_ ?_ _ _
    ⟨A5, ys, _, hT5.mono (by simp [rangeD]; omega), by simp [rangeD]; omega, hk2, hn2, by simp [rangeD]; omega, rfl⟩
  · rintro x ds env R ⟨A2, xs, s4, hT2, hdl, hk, hn, hxl, rfl⟩ hC
    rw [List.length_cons] at hT2 hdl hxl
    walk_at "du"
    refine ⟨v, _, _, ((xs.length : Nat) : Int) + 1, rfl, hT2, by omega, by omega, by omega, fun s3 d3 hT3 hd30 hd31 => ?_⟩
    obtain ⟨A3, rfl⟩ := hT3.is
    walk_at "du"
    refine ⟨v, _, _, 2, rfl, hT3, by omega, by decide, by decide, fun s4 d4 hT4 hd40 hd41 => ?_⟩
    obtain ⟨A4, rfl⟩ := hT4.is
    have hxl' : ∀ d, (insD xs d3.toNat d).length + ds.length ≤ 20 ∧ 2 ≤ (insD xs d3.toNat d).length := fun d => by rw [insD_len]; omega
    rcases two_at hd40 hd41 with rfl | rfl
    · walk_at "du"
      refine insK_s rfl (by omega) hd30 (by omega) (by walk_at "dn") ?_
      exact hC _ ⟨A4, _, _, hT4.mono (by omega), by omega, hk.ins (k := "name") (.inl rfl), insD_mem.mpr (.inr hn), hxl' _, rfl⟩
    · walk_at "du"
      refine insK_s rfl (by omega) hd30 (by omega) (by walk_at "dn") ?_
      exact hC _ ⟨A4, _, _, hT4.mono (by omega), by omega, hk.ins (k := "flag") (.inr (.inl rfl)), insD_mem.mpr (.inr hn), hxl' _, rfl⟩
  rintro env ⟨A6, zs, s6, hT6, _, hk6, hn6, hxl6, rfl⟩
  simp only [List.length_nil] at hT6 hxl6
  walk_at "du"
  intro v3
  walk_at "du"
  refine for_inv (fun ds env => ∃ (A : OA (nf a)) (hs : List (Str × Str)) (s6' : SD (nf a)), zs = hs.map (fun h => D.str h.1) ++ ds ∧ (hs.map Prod.snd).Nodup ∧ (∀ h ∈ hs, isIdB h.2 = true ∧ kindOk h.1) ∧ Tp K a v (100 + 20 * hs.length) (.ow v A) ∧
    env = [.fz (.scr ns), .fz (.int m), .ow v A, .fz (.lst zs), s6, .ow (.ref v3) (lstA K (nf a) (hs.map headD)), s6', .un]) ?_ ?_ _ _ ⟨A6, [], .un, rfl, List.nodup_nil, (fun h mm => by cases mm), hT6.mono (by simp), rfl⟩
  · rintro x ds env R ⟨A7, hs, s7, ez, hnd, hok, hT7, rfl⟩ hC
    have hhl : hs.length + 1 + ds.length ≤ 20 := by
      have := congrArg List.length ez
      rw [List.length_append, List.length_map, List.length_cons] at this
      omega
    obtain ⟨k, rfl, hkk⟩ := hk6 x (by rw [ez]; exact List.mem_append_right _ List.mem_cons_self)
    walk_at "du"
    refine lcV_map idD (by decide) rfl rfl (fun x hx R r => ?_) (by simp; omega) ?_
    · obtain ⟨⟨k2, i2⟩, _, rfl⟩ := List.mem_map.mp hx
      show dF ixD _ _ [.fz (.scr ns), .fz (.int m), .ow v A7, .fz (.lst zs), s6, .ow (.ref v3) (lstA K (nf a) (hs.map headD)), .fz (.str k), .fz (.tup [.str k2, .str i2])] R
      walk_at "du"
      exact r
    · have e : (hs.map headD).map idD = (hs.map Prod.snd).map D.str := by
        rw [List.map_map, List.map_map]
        rfl
      rw [e]
      walk_at "du"
      refine ⟨v, _, _, hs.map Prod.snd, rfl, hT7, by omega, by rw [List.length_map]; omega, fun u mu => ?_, fun s8 z hT8 hz hzn => ?_⟩
      · obtain ⟨h, mh, rfl⟩ := List.mem_map.mp mu
        exact (hok h mh).1
      obtain ⟨A8, rfl⟩ := hT8.is
      walk_at "du"
      refine appK_s rfl (by simp; omega) (by walk_at "dn") ?_
      rw [show (hs.map headD) ++ [D.tup [D.str k, D.str z]] = (hs ++ [(k, z)]).map headD from by rw [List.map_append]; rfl]
      refine hC _ ⟨A8, hs ++ [(k, z)], _, by rw [ez]; simp, ?_, ?_, hT8.mono (by simp; omega), rfl⟩
      · rw [List.map_append, List.nodup_append]
        refine ⟨hnd, by simp, fun x hx y hy e => hzn ?_⟩
        have : y = z := by simpa using hy
        rw [← this, ← e]
        exact hx
      · intro h mh
        rcases List.mem_append.mp mh with mh | mh
        · exact hok h mh
        · rw [List.mem_singleton.mp mh]
          exact ⟨hz, hkk⟩
  · rintro env ⟨A7, hs, s7, ez, hnd, hok, hT7, rfl⟩
    rw [List.append_nil] at ez
    walk_at "du"
    refine q hs ⟨hnd, fun h mh => ⟨(hok h mh).1, by have := (hok h mh).2; exact this⟩, ?_, ?_⟩
    · rw [ez] at hn6
      obtain ⟨⟨k, i⟩, mh, e⟩ := List.mem_map.mp hn6
      have : k = "name" := by injection e
      subst this
      exact ⟨i, mh⟩
    · have := congrArg List.length ez
      rw [List.length_map] at this
      constructor <;> omega
theorem heads_uniq : ∀ {hs : List (Str × Str)} {k k' i : Str}, (hs.map Prod.snd).Nodup → (k, i) ∈ hs → (k', i) ∈ hs → k = k'
  | [], _, _, _, _, m, _ => by cases m
  | (k0, i0) :: hs, k, k', i, n, m, m' => by
    rw [List.map_cons, List.nodup_cons] at n
    rcases List.mem_cons.mp m with e | m
    · rcases List.mem_cons.mp m' with e' | m'
      · cases e; cases e'; rfl
      · cases e
        exact absurd (List.mem_map.mpr ⟨_, m', rfl⟩) n.1
    · rcases List.mem_cons.mp m' with e' | m'
      · cases e'
        exact absurd (List.mem_map.mpr ⟨_, m, rfl⟩) n.1
      · exact heads_uniq n.2 m m'
def sndB (i : Str) : D → Bool | .tup [_, .str j] => decide (j = i) | _ => false
def fstD : D → D | .tup (k :: _) => k | _ => .non
theorem pl_ids {hs : List (Str × Str)} (h : HeadsOk hs) (ks : List Str) : plD 1 (.lst ((idsOf hs ks).map .str)) := plD_lst (pl_str1 fun c m => by
  obtain ⟨k, _, mk⟩ := ids_mem m
  exact id_ok (h.2.1 _ mk).1)
theorem on_off : isWordB "on" = true ∧ isWordB "off" = true := by decide +kernel
theorem d_law_bind {K : PySem.W.Frag} {a : Ad} : ∀ as Qd, as.length = 3 → (S_law_bind K a) as Qd → td_law_bind K a (fnEnds as Qd) (as ++ List.replicate (7 - 3) .un) := by
  rintro as Qd hl ⟨v, s, b, hs, rs, rfl, hT, hb, hH, q⟩
  obtain ⟨A, rfl⟩ := hT.is
  show td_law_bind K a (fnEnds _ Qd) [.ow v A, .fz (headsD hs), .fz (rowsD rs), .un, .un, .un, .un]
  obtain ⟨hnd, hok, ⟨i0, hi0⟩, hlen, _⟩ := id hH
  unfold td_law_bind
  walk_at "du"
  refine ⟨hs, ["name", "flag"], rfl, hlen, ?_⟩
  walk_at "du"
  have hil := ids_len hs ["name", "flag"]
  have hne : (idsOf hs ["name", "flag"]).map D.str ≠ [] := fun e => by
    have := ids_of (ks := ["name", "flag"]) hi0 (by simp)
    rw [List.map_eq_nil_iff.mp e] at this
    cases this
  refine ⟨v, _, b, (idsOf hs ["name", "flag"]).map .str, rfl, hT, by omega, hne, by rw [List.length_map]; omega, fun s1 d1 hT1 hd1 => ?_⟩
  obtain ⟨A1, rfl⟩ := hT1.is
  obtain ⟨i, hi, rfl⟩ := List.mem_map.mp hd1
  obtain ⟨k, hk, hki⟩ := ids_mem hi
  have hk : bdK k := by simpa [bdK] using hk
  have hii := (hok _ hki).1
  walk_at "du"
  refine lc_pure (sndB i) fstD rfl ?_ ?_ (by simp; omega) ?_
  · rintro x hx R r
    obtain ⟨⟨k2, i2⟩, _, rfl⟩ := List.mem_map.mp hx
    show dBv _ [.ow v A1, .fz (headsD hs), .fz (rowsD rs), .fz (.str i), .un, .fz (.tup [.str k2, .str i2]), .un] R
    have r' : R (decide (i2 = i)) [.ow v A1, .fz (headsD hs), .fz (rowsD rs), .fz (.str i), .un, .fz (.tup [.str k2, .str i2]), .un] := r
    walk_at "du"
    exact r'
  · rintro x hx hp R r
    obtain ⟨⟨k2, i2⟩, _, rfl⟩ := List.mem_map.mp hx
    show dF ixD _ _ [.ow v A1, .fz (headsD hs), .fz (rowsD rs), .fz (.str i), .un, .fz (.tup [.str k2, .str i2]), .un] R
    walk_at "du"
    exact r
  rw [List.nil_append]
  have hL : ∃ t, ((hs.map headD).filter (sndB i)).map fstD = .str k :: t := by
    cases hf : (hs.map headD).filter (sndB i) with
    | nil =>
      have : headD (k, i) ∈ (hs.map headD).filter (sndB i) := List.mem_filter.mpr ⟨List.mem_map.mpr ⟨_, hki, rfl⟩, by simp [sndB]⟩
      rw [hf] at this
      cases this
    | cons x t =>
      have hx : x ∈ (hs.map headD).filter (sndB i) := by rw [hf]; exact List.mem_cons_self
      obtain ⟨m1, m2⟩ := List.mem_filter.mp hx
      obtain ⟨⟨k2, i2⟩, m3, rfl⟩ := List.mem_map.mp m1
      have e2 : i2 = i := by simpa [sndB] using m2
      subst e2
      have := heads_uniq hnd m3 hki
      subst this
      exact ⟨_, rfl⟩
  obtain ⟨t, et⟩ := hL
  rw [et]
  walk_at "du"
  refine ixL_s atI_zero ?_
  walk_at "du"
  refine ⟨v, _, b + 1, 2, rfl, hT1, by omega, by decide, by decide, fun s2 d2 hT2 hd20 hd21 => ?_⟩
  obtain ⟨A2, rfl⟩ := hT2.is
  walk_at "du"
  refine ite_s (fun h1 => ?_) (fun h1 => ?_)
  · walk_at "du"
    refine ⟨hs, [k], rfl, hlen, ?_⟩
    walk_at "du"
    have hkl := ids_len hs [k]
    have hne2 : (idsOf hs [k]).map D.str ≠ [] := fun e => by
      have := ids_of (ks := [k]) hki (by simp)
      rw [List.map_eq_nil_iff.mp e] at this
      cases this
    refine ⟨v, _, b + 2, (idsOf hs [k]).map .str, rfl, hT2.mono (by omega), by omega, hne2, by rw [List.length_map]; omega, fun s3 d3 hT3 hd3 => ?_⟩
    obtain ⟨A3, rfl⟩ := hT3.is
    obtain ⟨w, hw, rfl⟩ := List.mem_map.mp hd3
    obtain ⟨k3, hk3, hkw⟩ := ids_mem hw
    rw [List.mem_singleton.mp hk3] at hkw
    walk_at "du"
    have r := q _ i true w (hT3.mono (by omega)) (fun p => ⟨k, hk, hki, fun _ => hkw, (fun h => by cases h)⟩) ⟨hii, (hok _ hkw).1⟩
    simp only [encS, Hd.word, Hd.items, encB, K12.valD, if_true, List.cons_append, List.nil_append] at r
    exact r
  · walk_at "du"
    refine ⟨v, _, b + 2, 2, rfl, hT2.mono (by omega), by omega, by decide, by decide, fun s3 d3 hT3 hd30 hd31 => ?_⟩
    obtain ⟨A3, rfl⟩ := hT3.is
    rcases two_at hd30 hd31 with rfl | rfl
    · walk_at "du"
      refine ite_s (fun h2 => ?_) (fun h2 => ?_)
      · have hkn : k = "name" := by simpa using h2
        walk_at "du"
        refine ⟨v, _, b + 3, rfl, hT3.mono (by omega), by omega, fun s4 z hT4 hz => ?_⟩
        obtain ⟨A4, rfl⟩ := hT4.is
        walk_at "du"
        have r := q _ i false z (hT4.mono (by omega)) (fun p => ⟨k, hk, hki, (fun h => by cases h), fun _ h => by rw [hkn] at h; exact absurd h (by decide +kernel)⟩) ⟨hii, hz⟩
        simp only [encS, Hd.word, Hd.items, encB, K12.valD, if_false, Bool.false_eq_true, List.cons_append, List.nil_append] at r
        exact r
      · walk_at "du"
        have r := q _ i false "on" (hT3.mono (by omega)) (fun p => ⟨k, hk, hki, (fun h => by cases h), fun _ _ => .inl rfl⟩) ⟨hii, on_off.1⟩
        simp only [encS, Hd.word, Hd.items, encB, K12.valD, if_false, Bool.false_eq_true, List.cons_append, List.nil_append] at r
        exact r
    · walk_at "du"
      refine ite_s (fun h2 => ?_) (fun h2 => ?_)
      · have hkn : k = "name" := by simpa using h2
        walk_at "du"
        refine ⟨v, _, b + 3, rfl, hT3.mono (by omega), by omega, fun s4 z hT4 hz => ?_⟩
        obtain ⟨A4, rfl⟩ := hT4.is
        walk_at "du"
        have r := q _ i false z (hT4.mono (by omega)) (fun p => ⟨k, hk, hki, (fun h => by cases h), fun _ h => by rw [hkn] at h; exact absurd h (by decide +kernel)⟩) ⟨hii, hz⟩
        simp only [encS, Hd.word, Hd.items, encB, K12.valD, if_false, Bool.false_eq_true, List.cons_append, List.nil_append] at r
        exact r
      · walk_at "du"
        have r := q _ i false "off" (hT3.mono (by omega)) (fun p => ⟨k, hk, hki, (fun h => by cases h), fun _ _ => .inr rfl⟩) ⟨hii, on_off.2⟩
        simp only [encS, Hd.word, Hd.items, encB, K12.valD, if_false, Bool.false_eq_true, List.cons_append, List.nil_append] at r
        exact r
open PySem L2 DL
theorem above_ok {hs : List (Str × Str)} (h : HeadsOk hs) {f g : Str} {p : Str × Str} (a : aboveOk hs f g p) : isIdB p.1 = true ∧ isIdB p.2 = true := by
  obtain ⟨j, l, _, e1, e2⟩ := a
  exact ⟨(h.2.1 _ (List.mem_of_getElem? e2)).1, (h.2.1 _ (List.mem_of_getElem? e1)).1⟩
theorem pl_pairs {hs : List (Str × Str)} (h : HeadsOk hs) {f g : Str} {ps : List (Str × Str)} (hp : ∀ p ∈ ps, aboveOk hs f g p) : plD 2 (.lst (ps.map headD)) := plD_lst fun d m => by
  obtain ⟨p, mp, rfl⟩ := List.mem_map.mp m
  obtain ⟨h1, h2⟩ := above_ok h (hp p mp)
  exact plD_tup (pl_str1 (l := [p.1, p.2]) fun s ms => by
    rcases List.mem_cons.mp ms with e | ms
    · subst e; exact id_ok h1
    · rw [List.mem_singleton.mp ms]; exact id_ok h2)
theorem caps_good {hs : List (Str × Str)} (h : HeadsOk hs) {cs : List Str} (c : okCaps hs cs) (hl : cs.length ≤ 40) : cs.length ≤ 100 ∧ ∀ c ∈ cs, isIdB c = true :=
  ⟨by omega, fun x m => by obtain ⟨k, _, mk⟩ := c.2 x m; exact (h.2.1 _ mk).1⟩
theorem take_ok {hs : List (Str × Str)} (h : HeadsOk hs) (p : Nat) : ∀ x ∈ hs.take p, isIdB x.2 = true := fun x m => (h.2.1 x (List.mem_of_mem_take m)).1
theorem pl_idsT {hs : List (Str × Str)} (h : ∀ x ∈ hs, isIdB x.2 = true) (ks : List Str) : plD 1 (.lst ((idsOf hs ks).map .str)) := plD_lst (pl_str1 fun c m => by
  obtain ⟨k, _, mk⟩ := ids_mem m
  exact id_ok (h _ mk))
theorem take_at {hs : List (Str × Str)} {p : Nat} {x : Str × Str} (m : x ∈ hs.take p) : ∃ j, j < p ∧ hs[j]? = some x := by
  obtain ⟨j, e⟩ := List.getElem?_of_mem m
  rw [List.getElem?_take] at e
  split at e
  · rename_i hj; exact ⟨j, hj, e⟩
  · cases e
theorem ne_nil {α : Type} {xs : List α} (h : (!xs.isEmpty) = true) : xs ≠ [] := fun e => by rw [e] at h; cases h
theorem d_law_slot_statement {K : PySem.W.Frag} {a : Ad} : ∀ as Qd, as.length = 4 → (S_law_slot_statement K a) as Qd → td_law_slot_statement K a (fnEnds as Qd) (as ++ List.replicate (8 - 4) .un) := by
  rintro as Qd hl ⟨v, s, b, hs, p, k, rfl, hT, hb, hH, q⟩
  obtain ⟨A, rfl⟩ := hT.is
  show td_law_slot_statement K a (fnEnds _ Qd) [.ow v A, .fz (headsD hs), .fz (headsD (hs.take p)), .fz (.str k), .un, .un, .un, .un]
  obtain ⟨hnd, hok, hname, hlen, hlen2⟩ := id hH
  unfold td_law_slot_statement
  walk_at "du"
  refine ⟨hs, ["slot"], rfl, hlen, ?_⟩
  walk_at "du"
  refine ⟨hs, "func", "slot", rfl, hlen, fun ps hps hpl => ?_⟩
  walk_at "du"
  refine ⟨hs, "slot", "slot", rfl, hlen, fun qs hqs hql => ?_⟩
  walk_at "du"
  have hsl := ids_len hs ["slot"]
  have htl : (hs.take p).length ≤ 40 := by rw [List.length_take]; omega
  have slots : ∀ i ∈ idsOf hs ["slot"], (("slot" : Str), i) ∈ hs := fun i m => by
    obtain ⟨k, hk, mk⟩ := ids_mem m
    rw [List.mem_singleton.mp hk] at mk
    exact mk
  have bk : ∀ (A' : OA (nf a)) (h : Hd), Tp K a v (b + 60) (.ow v A') → okH hs p h → h.good → h.nb = 0 → Qd (.tup (.str h.word :: h.items)) [.ow v A', .fz (headsD hs), .fz (headsD (hs.take p)), .fz (.str k)] := by
    intro A' h h1 h2 h3 h4
    have r := q _ h h1 h2 h3 h4
    simp only [encS, encB, List.append_nil] at r
    exact r
  have failQ : Qd (.tup [.str "fail"]) [.ow v A, .fz (headsD hs), .fz (headsD (hs.take p)), .fz (.str k)] := bk A .fail (hT.mono (by omega)) trivial trivial rfl
  refine ite_s (fun hk => ?_) (fun hk => ?_)
  · have hk : k = "keep" := by simpa using hk
    subst hk
    walk_at "du"
    refine neNilL_s (pl_pairs hH hps) (by decide) ?_
    walk_at "du"
    refine ite_s (fun hne => ?_) (fun hne => ?_)
    · walk_at "du"
      refine ⟨v, _, b, ps.map headD, rfl, hT, by omega, ne_nil hne, by rw [List.length_map]; omega, fun s1 d1 hT1 hd1 => ?_⟩
      obtain ⟨A1, rfl⟩ := hT1.is
      obtain ⟨⟨x, y⟩, mp, rfl⟩ := List.mem_map.mp hd1
      walk_at "du"
      refine ⟨v, _, b + 1, hs, rfl, hT1, by omega, hH, fun s2 cs hT2 hcs hcl => ?_⟩
      obtain ⟨A2, rfl⟩ := hT2.is
      obtain ⟨g1, g2⟩ := above_ok hH (hps _ mp)
      walk_at "du"
      exact bk A2 (.keep x y cs) (hT2.mono (by omega)) ⟨hps _ mp, hcs⟩ ⟨g1, g2, caps_good hH hcs hcl⟩ rfl
    · walk_at "du"
      exact failQ
  walk_at "du"
  refine ite_s (fun hk2 => ?_) (fun hk2 => ?_)
  · have hk : k = "shift" := by simpa using hk2
    subst hk
    walk_at "du"
    refine neNilL_s (pl_pairs hH hqs) (by decide) ?_
    walk_at "du"
    refine ite_s (fun hne => ?_) (fun hne => ?_)
    · walk_at "du"
      refine ⟨v, _, b, qs.map headD, rfl, hT, by omega, ne_nil hne, by rw [List.length_map]; omega, fun s1 d1 hT1 hd1 => ?_⟩
      obtain ⟨A1, rfl⟩ := hT1.is
      obtain ⟨⟨x, y⟩, mp, rfl⟩ := List.mem_map.mp hd1
      walk_at "du"
      refine ⟨v, _, b + 1, hs, rfl, hT1, by omega, hH, fun s2 cs hT2 hcs hcl => ?_⟩
      obtain ⟨A2, rfl⟩ := hT2.is
      obtain ⟨g1, g2⟩ := above_ok hH (hqs _ mp)
      walk_at "du"
      exact bk A2 (.shift y x cs) (hT2.mono (by omega)) ⟨hqs _ mp, hcs⟩ ⟨g2, g1, caps_good hH hcs hcl⟩ rfl
    · walk_at "du"
      exact failQ
  walk_at "du"
  refine ite_s (fun hk3 => ?_) (fun hk3 => ?_)
  · have hk : k = "take" := by simpa using hk3
    subst hk
    walk_at "du"
    refine neNilL_s (pl_ids hH _) (by decide) ?_
    walk_at "du"
    refine ite_s (fun hne => ?_) (fun hne => ?_)
    · walk_at "du"
      refine ⟨v, _, b, (idsOf hs ["slot"]).map .str, rfl, hT, by omega, ne_nil hne, by rw [List.length_map]; omega, fun s1 d1 hT1 hd1 => ?_⟩
      obtain ⟨A1, rfl⟩ := hT1.is
      obtain ⟨x, mp, rfl⟩ := List.mem_map.mp hd1
      walk_at "du"
      refine ⟨v, _, b + 1, hs, rfl, hT1, by omega, hH, fun s2 cs hT2 hcs hcl => ?_⟩
      obtain ⟨A2, rfl⟩ := hT2.is
      walk_at "du"
      exact bk A2 (.take x cs) (hT2.mono (by omega)) ⟨slots _ mp, hcs⟩ ⟨(hok _ (slots _ mp)).1, caps_good hH hcs hcl⟩ rfl
    · walk_at "du"
      exact failQ
  walk_at "du"
  refine ite_s (fun hk4 => ?_) (fun hk4 => ?_)
  · have hk : k = "drop" := by simpa using hk4
    subst hk
    walk_at "du"
    refine neNilL_s (pl_ids hH _) (by decide) ?_
    walk_at "du"
    refine ite_s (fun hne => ?_) (fun hne => ?_)
    · walk_at "du"
      refine ⟨v, _, b, (idsOf hs ["slot"]).map .str, rfl, hT, by omega, ne_nil hne, by rw [List.length_map]; omega, fun s1 d1 hT1 hd1 => ?_⟩
      obtain ⟨A1, rfl⟩ := hT1.is
      obtain ⟨x, mp, rfl⟩ := List.mem_map.mp hd1
      walk_at "du"
      exact bk A1 (.drop x) (hT1.mono (by omega)) (slots _ mp) (hok _ (slots _ mp)).1 rfl
    · walk_at "du"
      exact failQ
  walk_at "du"
  refine ite_s (fun hk5 => ?_) (fun hk5 => ?_)
  · have hk : k = "run" := by simpa using hk5
    subst hk
    walk_at "du"
    refine ⟨hs.take p, ["slot"], rfl, htl, ?_⟩
    walk_at "du"
    have hil := ids_len (hs.take p) ["slot"]
    refine neNilL_s (pl_idsT (take_ok hH p) _) (by decide) ?_
    walk_at "du"
    refine ite_s (fun hne => ?_) (fun hne => ?_)
    · walk_at "du"
      refine ⟨hs.take p, ["slot"], rfl, htl, ?_⟩
      walk_at "du"
      refine ⟨v, _, b, (idsOf (hs.take p) ["slot"]).map .str, rfl, hT, by omega, ne_nil hne, by rw [List.length_map]; omega, fun s1 d1 hT1 hd1 => ?_⟩
      obtain ⟨A1, rfl⟩ := hT1.is
      obtain ⟨x, mp, rfl⟩ := List.mem_map.mp hd1
      obtain ⟨k3, hk3, m3⟩ := ids_mem mp
      rw [List.mem_singleton.mp hk3] at m3
      walk_at "du"
      exact bk A1 (.run x) (hT1.mono (by omega)) (take_at m3) (take_ok hH p _ m3) rfl
    · walk_at "du"
      exact failQ
  walk_at "du"
  refine ite_s (fun hk6 => ?_) (fun hk6 => ?_)
  · have hk : k = "call" := by simpa using hk6
    subst hk
    walk_at "du"
    refine ⟨hs.take p, ["func"], rfl, htl, ?_⟩
    walk_at "du"
    have hil := ids_len (hs.take p) ["func"]
    refine neNilL_s (pl_idsT (take_ok hH p) _) (by decide) ?_
    walk_at "du"
    refine ite_s (fun hne => ?_) (fun hne => ?_)
    · walk_at "du"
      refine ⟨hs.take p, ["func"], rfl, htl, ?_⟩
      walk_at "du"
      refine ⟨v, _, b, (idsOf (hs.take p) ["func"]).map .str, rfl, hT, by omega, ne_nil hne, by rw [List.length_map]; omega, fun s1 d1 hT1 hd1 => ?_⟩
      obtain ⟨A1, rfl⟩ := hT1.is
      obtain ⟨x, mp, rfl⟩ := List.mem_map.mp hd1
      obtain ⟨k3, hk3, m3⟩ := ids_mem mp
      rw [List.mem_singleton.mp hk3] at m3
      walk_at "du"
      exact bk A1 (.call x) (hT1.mono (by omega)) (take_at m3) (take_ok hH p _ m3) rfl
    · walk_at "du"
      exact failQ
  walk_at "du"
  exact failQ
open PySem L2 DL
theorem drw_pos (lv : Nat) : 0 ≤ drw lv := by
  unfold drw
  split <;> omega
theorem drw_le (lv : Nat) : drw (lv + 1) ≤ 600 := by
  unfold drw
  split <;> omega
theorem cost {lv : Nat} (h : lv ≤ 2) {k : Nat} (hk : k ≤ 3 - lv) : 1 + (k : Int) * (80 + 2 * drw (lv + 1)) ≤ drw lv ∧ drw lv ≤ 4000 ∧ k * (1 + 2 * cnt0 (lv + 1)) ≤ cnt0 lv := by
  have : lv = 0 ∨ lv = 1 ∨ lv = 2 := by omega
  rcases this with rfl | rfl | rfl
  · rw [show drw (0 + 1) = 600 from rfl, show drw 0 = 4000 from rfl, show cnt0 (0 + 1) = 20 from rfl, show cnt0 0 = 200 from rfl]; omega
  · rw [show drw (1 + 1) = 100 from rfl, show drw 1 = 600 from rfl, show cnt0 (1 + 1) = 2 from rfl, show cnt0 1 = 20 from rfl]; omega
  · rw [show drw (2 + 1) = 0 from rfl, show drw 2 = 100 from rfl, show cnt0 (2 + 1) = 0 from rfl, show cnt0 2 = 2 from rfl]; omega
theorem allR_app {P : Hd → Prop} : ∀ {r : List Sm} {x : Sm}, allR P r → allS P x → allR P (r ++ [x])
  | [], x, _, h => by simp only [List.nil_append, allR]; exact ⟨h, trivial⟩
  | s :: r, x, q, h => by
    simp only [List.cons_append, allR] at q ⊢
    exact ⟨q.1, allR_app q.2 h⟩
theorem hR_app : ∀ (r : List Sm) (x : Sm), hR (r ++ [x]) = max (hR r) (hS x)
  | [], x => by simp only [List.nil_append, hR]; omega
  | s :: r, x => by simp only [List.cons_append, hR, hR_app r x]; omega
theorem cntR_app : ∀ (r : List Sm) (x : Sm), cntR (r ++ [x]) = cntR r + cntS x
  | [], x => by simp only [List.nil_append, cntR]; omega
  | s :: r, x => by simp only [List.cons_append, cntR, cntR_app r x]; omega
theorem encR_app (r : List Sm) (x : Sm) : encR (r ++ [x]) = encR r ++ [encS x] := by rw [encR_map, encR_map, List.map_append]; rfl
abbrev MP (hs : List (Str × Str)) (p : Nat) (h : Hd) : Prop := okH hs p h ∧ h.good
theorem mk1 {hs : List (Str × Str)} {p : Nat} {h : Hd} {rs : List Sm} (o : okH hs p h) (g : h.good) (n : h.nb = 1) (m : Made hs p rs) : allS (MP hs p) (.mk h [rs]) := by
  simp only [allS, allB]
  exact ⟨⟨o, g⟩, by rw [n]; rfl, m, trivial⟩
theorem mk2 {hs : List (Str × Str)} {p : Nat} {h : Hd} {rs rs2 : List Sm} (o : okH hs p h) (g : h.good) (n : h.nb = 2) (m : Made hs p rs) (m2 : Made hs p rs2) : allS (MP hs p) (.mk h [rs, rs2]) := by
  simp only [allS, allB]
  exact ⟨⟨o, g⟩, by rw [n]; rfl, m, m2, trivial⟩
theorem d_law_block {K : PySem.W.Frag} {a : Ad} (n : Nat) : ∀ as Qd, as.length = 5 → (S_law_block K a (n + 1)) as Qd → td_law_block K a n (fnEnds as Qd) (as ++ List.replicate (8 - 5) .un) := by
  rintro as Qd hl ⟨v, s, b, hs, p, k, lv, rfl, hT, hb, hH, hlv, hn, q⟩
  obtain ⟨A, rfl⟩ := hT.is
  show td_law_block K a n (fnEnds _ Qd) [.ow v A, .fz (headsD hs), .fz (headsD (hs.take p)), .fz (.str k), .fz (.int (lv : Nat)), .un, .un, .un]
  obtain ⟨hnd, hok, hname, hlen, hlen2⟩ := id hH
  have hd0 := drw_pos (lv + 1)
  have hd6 := drw_le lv
  unfold td_law_block
  walk_at "du"
  refine ⟨v, _, b, hs, p, lv + 1, rfl, hT, by omega, hH, by omega, by omega, fun s1 rs hT1 hm1 hh1 hc1 => ?_⟩
  obtain ⟨A1, rfl⟩ := hT1.is
  walk_at "du"
  refine ite_s (fun hk => ?_) (fun hk => ?_)
  · walk_at "du"
    refine ⟨v, _, _, hs, rs, rfl, hT1, by omega, hH, fun s2 i o w hT2 hio hig => ?_⟩
    obtain ⟨A2, rfl⟩ := hT2.is
    walk_at "du"
    exact q _ (.mk (.bind i o w) [rs]) (hT2.mono (by omega)) (mk1 (hio p) hig rfl hm1) (by simp only [hS, hB]; omega) (by simp only [cntS, cntB]; omega)
  walk_at "du"
  refine ite_s (fun hk2 => ?_) (fun hk2 => ?_)
  · walk_at "du"
    refine ⟨v, _, _, hs, p, lv + 1, rfl, hT1, by omega, hH, by omega, by omega, fun s2 rs2 hT2 hm2 hh2 hc2 => ?_⟩
    obtain ⟨A2, rfl⟩ := hT2.is
    walk_at "du"
    have r := q _ (.mk .guard [rs, rs2]) (hT2.mono (by omega)) (mk2 trivial trivial rfl hm1 hm2) (by simp only [hS, hB]; omega) (by simp only [cntS, cntB]; omega)
    simp only [encS, Hd.word, Hd.items, encB, List.cons_append, List.nil_append] at r
    exact r
  have apart : ∀ (A' : OA (nf a)), Tp K a v (b + 70 + 2 * drw (lv + 1)) (.ow v A') → Qd (.tup [.str "apart", rowsD rs]) [.ow v A', .fz (headsD hs), .fz (headsD (hs.take p)), .fz (.str k), .fz (.int (lv : Nat))] := by
    intro A' hT'
    have r := q _ (.mk .apart [rs]) hT' (mk1 trivial trivial rfl hm1) (by simp only [hS, hB]; omega) (by simp only [cntS, cntB]; omega)
    simp only [encS, Hd.word, Hd.items, encB, List.cons_append, List.nil_append] at r
    exact r
  have pk : ∀ {ks : Str} {x : Str}, x ∈ idsOf hs [ks] → (ks, x) ∈ hs := fun m => by
    obtain ⟨k3, hk3, m3⟩ := ids_mem m
    rw [List.mem_singleton.mp hk3] at m3
    exact m3
  have hfl := ids_len hs ["flag"]
  have hsl := ids_len hs ["slot"]
  walk_at "du"
  refine ite_s (fun hk3 => ?_) (fun hk3 => ?_)
  · have hkw : k = "when" := by simpa using hk3
    subst hkw
    walk_at "du"
    refine ⟨hs, ["flag"], rfl, hlen, ?_⟩
    walk_at "du"
    refine neNilL_s (pl_ids hH _) (by decide) ?_
    walk_at "du"
    refine ite_s (fun hne => ?_) (fun hne => ?_)
    · walk_at "du"
      refine ⟨hs, ["flag"], rfl, hlen, ?_⟩
      walk_at "du"
      refine ⟨v, _, _, (idsOf hs ["flag"]).map .str, rfl, hT1, by omega, ne_nil hne, by rw [List.length_map]; omega, fun s3 d3 hT3 hd3 => ?_⟩
      obtain ⟨A3, rfl⟩ := hT3.is
      obtain ⟨x, mp, rfl⟩ := List.mem_map.mp hd3
      walk_at "du"
      refine ⟨v, _, _, hs, p, lv + 1, rfl, hT3, by omega, hH, by omega, by omega, fun s2 rs2 hT2 hm2 hh2 hc2 => ?_⟩
      obtain ⟨A2, rfl⟩ := hT2.is
      walk_at "du"
      have r := q _ (.mk (.whn x) [rs, rs2]) (hT2.mono (by omega)) (mk2 (pk mp) (hok _ (pk mp)).1 rfl hm1 hm2) (by simp only [hS, hB]; omega) (by simp only [cntS, cntB]; omega)
      simp only [encS, Hd.word, Hd.items, encB, List.cons_append, List.nil_append] at r
      exact r
    · walk_at "du"
      exact apart _ (hT1.mono (by omega))
  walk_at "du"
  refine ite_s (fun hk4 => ?_) (fun hk4 => ?_)
  · have hkw : k = "held" := by simpa using hk4
    subst hkw
    walk_at "du"
    refine ⟨hs, ["slot"], rfl, hlen, ?_⟩
    walk_at "du"
    refine neNilL_s (pl_ids hH _) (by decide) ?_
    walk_at "du"
    refine ite_s (fun hne => ?_) (fun hne => ?_)
    · walk_at "du"
      refine ⟨hs, ["slot"], rfl, hlen, ?_⟩
      walk_at "du"
      refine ⟨v, _, _, (idsOf hs ["slot"]).map .str, rfl, hT1, by omega, ne_nil hne, by rw [List.length_map]; omega, fun s3 d3 hT3 hd3 => ?_⟩
      obtain ⟨A3, rfl⟩ := hT3.is
      obtain ⟨x, mp, rfl⟩ := List.mem_map.mp hd3
      walk_at "du"
      refine ⟨v, _, _, hs, p, lv + 1, rfl, hT3, by omega, hH, by omega, by omega, fun s2 rs2 hT2 hm2 hh2 hc2 => ?_⟩
      obtain ⟨A2, rfl⟩ := hT2.is
      walk_at "du"
      have r := q _ (.mk (.held x) [rs, rs2]) (hT2.mono (by omega)) (mk2 (pk mp) (hok _ (pk mp)).1 rfl hm1 hm2) (by simp only [hS, hB]; omega) (by simp only [cntS, cntB]; omega)
      simp only [encS, Hd.word, Hd.items, encB, List.cons_append, List.nil_append] at r
      exact r
    · walk_at "du"
      exact apart _ (hT1.mono (by omega))
  walk_at "du"
  exact apart _ (hT1.mono (by omega))
def all13 : List Str := ["look", "keep", "shift", "take", "drop", "run", "call", "fail", "bind", "guard", "when", "held", "apart"]
def last5 : List Str := ["bind", "guard", "when", "held", "apart"]
theorem d_law_statement {K : PySem.W.Frag} {a : Ad} (n : Nat) : ∀ as Qd, as.length = 4 → (S_law_statement K a (n + 1)) as Qd → td_law_statement K a n (fnEnds as Qd) (as ++ List.replicate (6 - 4) .un) := by
  rintro as Qd hl ⟨v, s, b, hs, p, lv, rfl, hT, hb, hH, hlv, hn, _, q⟩
  obtain ⟨A, rfl⟩ := hT.is
  show td_law_statement K a n (fnEnds _ Qd) [.ow v A, .fz (headsD hs), .fz (headsD (hs.take p)), .fz (.int (lv : Nat)), .un, .un]
  obtain ⟨hnd, hok, ⟨i0, hi0⟩, hlen, _⟩ := id hH
  have hd0 := drw_pos (lv + 1)
  have hd6 := drw_le lv
  unfold td_law_statement
  walk_at "du"
  refine ⟨v, _, b, all13.map .str, rfl, hT, by omega, by decide, by decide, fun s1 d1 hT1 hd1 => ?_⟩
  obtain ⟨A1, rfl⟩ := hT1.is
  obtain ⟨k, hk, rfl⟩ := List.mem_map.mp hd1
  have hil := ids_len hs ["name"]
  have hne : (idsOf hs ["name"]).map D.str ≠ [] := fun e => by
    have := ids_of (ks := ["name"]) hi0 (by simp)
    rw [List.map_eq_nil_iff.mp e] at this
    cases this
  have fin : ∀ (A' : OA (nf a)) (w i : Str), Tp K a v (b + 60) (.ow v A') → isWordB w = true → (("name" : Str), i) ∈ hs → Qd (.tup [.str "look", .str w, .str i]) [.ow v A', .fz (headsD hs), .fz (headsD (hs.take p)), .fz (.int (lv : Nat))] := by
    intro A' w i hT' hw hi
    have r := q _ (.mk (.look w i) []) (hT'.mono (by omega)) (by simp only [allS, allB]; exact ⟨⟨hi, hw, (hok _ hi).1⟩, rfl, trivial⟩) (by simp only [hS, hB]; omega) (by simp only [cntS, cntB]; omega)
    simp only [encS, Hd.word, Hd.items, encB, List.append_nil] at r
    exact r
  walk_at "du"
  refine ite_s (fun h1 => ?_) (fun h1 => ?_)
  · walk_at "du"
    refine ⟨v, _, _, rfl, hT1, by omega, fun s2 z hT2 hz => ?_⟩
    obtain ⟨A2, rfl⟩ := hT2.is
    walk_at "du"
    refine ⟨hs, ["name"], rfl, hlen, ?_⟩
    walk_at "du"
    refine ⟨v, _, _, (idsOf hs ["name"]).map .str, rfl, hT2, by omega, hne, by rw [List.length_map]; omega, fun s3 d3 hT3 hd3 => ?_⟩
    obtain ⟨A3, rfl⟩ := hT3.is
    obtain ⟨x, mp, rfl⟩ := List.mem_map.mp hd3
    obtain ⟨k3, hk3, m3⟩ := ids_mem mp
    rw [List.mem_singleton.mp hk3] at m3
    walk_at "du"
    exact fin A3 z x (hT3.mono (by omega)) hz m3
  walk_at "du"
  refine ite_s (fun h2 => ?_) (fun h2 => ?_)
  · walk_at "du"
    refine inLb_s (ss := last5) rfl rfl ?_
    walk_at "du"
    refine ite_s (fun h3 => ?_) (fun h3 => ?_)
    · walk_at "du"
      refine ⟨v, _, _, rfl, hT1, by omega, fun s2 z hT2 hz => ?_⟩
      obtain ⟨A2, rfl⟩ := hT2.is
      walk_at "du"
      refine ⟨hs, ["name"], rfl, hlen, ?_⟩
      walk_at "du"
      refine ⟨v, _, _, (idsOf hs ["name"]).map .str, rfl, hT2, by omega, hne, by rw [List.length_map]; omega, fun s3 d3 hT3 hd3 => ?_⟩
      obtain ⟨A3, rfl⟩ := hT3.is
      obtain ⟨x, mp, rfl⟩ := List.mem_map.mp hd3
      obtain ⟨k3, hk3, m3⟩ := ids_mem mp
      rw [List.mem_singleton.mp hk3] at m3
      walk_at "du"
      exact fin A3 z x (hT3.mono (by omega)) hz m3
    · walk_at "du"
      refine inLb_s (ss := last5) rfl h3 ?_
      walk_at "du"
      refine ⟨v, _, _, hs, p, k, rfl, hT1, by omega, hH, fun s2 h hT2 g1 g2 g3 => ?_⟩
      obtain ⟨A2, rfl⟩ := hT2.is
      walk_at "du"
      exact q _ (.mk h []) (hT2.mono (by omega)) (by simp only [allS, allB]; exact ⟨⟨g1, g2⟩, by rw [g3]; rfl, trivial⟩) (by simp only [hS, hB]; omega) (by simp only [cntS, cntB]; omega)
  · have hl1 : lv ≤ 1 := by
      have : ((lv : Nat) : Int) ≠ 2 := by simpa using h2
      omega
    walk_at "du"
    refine inLb_s (ss := last5) rfl rfl ?_
    walk_at "du"
    refine ite_s (fun h3 => ?_) (fun h3 => ?_)
    · walk_at "du"
      refine ⟨v, _, _, hs, p, k, lv, rfl, hT1, by omega, hH, hl1, by omega, fun s2 x hT2 ha hh hc => ?_⟩
      obtain ⟨A2, rfl⟩ := hT2.is
      walk_at "du"
      exact q _ x (hT2.mono (by omega)) ha hh hc
    · walk_at "du"
      refine ⟨v, _, _, hs, p, k, rfl, hT1, by omega, hH, fun s2 h hT2 g1 g2 g3 => ?_⟩
      obtain ⟨A2, rfl⟩ := hT2.is
      walk_at "du"
      exact q _ (.mk h []) (hT2.mono (by omega)) (by simp only [allS, allB]; exact ⟨⟨g1, g2⟩, by rw [g3]; rfl, trivial⟩) (by simp only [hS, hB]; omega) (by simp only [cntS, cntB]; omega)
theorem d_law_rows {K : PySem.W.Frag} {a : Ad} (n : Nat) : ∀ as Qd, as.length = 4 → (S_law_rows K a (n + 1)) as Qd → td_law_rows K a n (fnEnds as Qd) (as ++ List.replicate (6 - 4) .un) := by
  rintro as Qd hl ⟨v, s, b, hs, p, lv, rfl, hT, hb, hH, hlv, hn, q⟩
  obtain ⟨A, rfl⟩ := hT.is
  show td_law_rows K a n (fnEnds _ Qd) [.ow v A, .fz (headsD hs), .fz (headsD (hs.take p)), .fz (.int (lv : Nat)), .un, .un]
  unfold td_law_rows
  walk_at "du"
  intro v2
  walk_at "du"
  refine ⟨v, _, b, 4 - ((lv : Nat) : Int), rfl, hT, by omega, by omega, by omega, fun s1 d1 hT1 hd10 hd11 => ?_⟩
  obtain ⟨A1, rfl⟩ := hT1.is
  walk_at "du"
  refine for_inv (fun ds env => ∃ (A : OA (nf a)) (xs : List Sm) (s5 : SD (nf a)), Tp K a v (b + 1 + (xs.length : Nat) * (80 + 2 * drw (lv + 1))) (.ow v A) ∧ xs.length + ds.length ≤ 3 - lv ∧ Made hs p xs ∧ hR xs ≤ 3 - lv ∧ cntR xs ≤ xs.length * (1 + 2 * cnt0 (lv + 1)) ∧
    env = [.ow v A, .fz (headsD hs), .fz (headsD (hs.take p)), .fz (.int (lv : Nat)), .ow (.ref v2) (lstA K (nf a) (encR xs)), s5]) ?_ ?_ _ _ ⟨A1, [], .un, hT1.mono (by simp), by simp [rangeD]; omega, by simp only [Made, allR], by simp only [hR]; omega, by simp only [cntR]; omega, by simp only [encR]⟩
  · rintro x ds env R ⟨A2, xs, s5, hT2, hxl, hm, hh, hc, rfl⟩ hC
    rw [List.length_cons] at hxl
    obtain ⟨c1, c2, c3⟩ := cost hlv (k := xs.length) (by omega)
    have eS : ((xs.length + 1 : Nat) : Int) * (80 + 2 * drw (lv + 1)) = (xs.length : Int) * (80 + 2 * drw (lv + 1)) + (80 + 2 * drw (lv + 1)) := by rw [Int.natCast_add, Int.add_mul]; simp
    have eC : (xs.length + 1) * (1 + 2 * cnt0 (lv + 1)) = xs.length * (1 + 2 * cnt0 (lv + 1)) + (1 + 2 * cnt0 (lv + 1)) := Nat.succ_mul _ _
    walk_at "du"
    refine ⟨v, _, _, hs, p, lv, rfl, hT2, by omega, hH, hlv, by omega, by omega, fun s3 y hT3 ha hh3 hc3 => ?_⟩
    obtain ⟨A3, rfl⟩ := hT3.is
    walk_at "du"
    refine appK_s rfl (by rw [encR_len]; omega) (by walk_at "dn") ?_
    rw [← encR_app]
    refine hC _ ⟨A3, xs ++ [y], _, hT3.mono ?_, by simp; omega, allR_app hm ha, by rw [hR_app]; omega, ?_, rfl⟩
    · rw [List.length_append, List.length_singleton, eS]; omega
    · rw [cntR_app, List.length_append, List.length_singleton, eC]; omega
  · rintro env ⟨A2, xs, s5, hT2, hxl, hm, hh, hc, rfl⟩
    obtain ⟨c1, c2, c3⟩ := cost hlv (k := xs.length) (by omega)
    walk_at "du"
    exact q _ xs (hT2.mono (by omega)) hm hh (Nat.le_trans hc c3)
theorem d_law_function {K : PySem.W.Frag} {a : Ad} : ∀ as Qd, as.length = 3 → (S_law_function K a) as Qd → td_law_function K a (fnEnds as Qd) (as ++ List.replicate (5 - 3) .un) := by
  rintro as Qd hl ⟨v, s, b, hs, p, rfl, hT, hb, hH, hp, q⟩
  obtain ⟨A, rfl⟩ := hT.is
  show td_law_function K a (fnEnds _ Qd) [.ow v A, .fz (headsD hs), .fz (.int (p : Nat)), .un, .un]
  have hlen := hH.2.2.2.1
  unfold td_law_function
  walk_at "du"
  rw [show HT.sIx (hs.map headD).length 0 none = 0 from rfl, sIx_nat _ _ _ (by rw [List.length_map]; omega), List.drop_zero, Nat.sub_zero, ← List.map_take]
  refine ⟨v, _, b, hs, p, 0, rfl, hT, by omega, hH, by decide, by decide, fun s1 rs hT1 hm1 hh1 hc1 => ?_⟩
  obtain ⟨A1, rfl⟩ := hT1.is
  have hd0 : drw 0 = 4000 := rfl
  have hc0 : cnt0 0 = 200 := rfl
  rw [hd0] at hT1
  rw [hc0] at hc1
  walk_at "du"
  refine ⟨v, _, _, 7, rfl, hT1, by omega, by decide, by decide, fun s2 d2 hT2 hd20 hd21 => ?_⟩
  obtain ⟨A2, rfl⟩ := hT2.is
  walk_at "du"
  refine ⟨v, _, _, 3, rfl, hT2, by omega, by decide, by decide, fun s3 d3 hT3 hd30 hd31 => ?_⟩
  obtain ⟨A3, rfl⟩ := hT3.is
  walk_at "du"
  have hn : 0 ≤ d2 * (if decide (d3 = 1) = true then (1 : Int) else 0) ∧ d2 * (if decide (d3 = 1) = true then (1 : Int) else 0) ≤ 6 := by
    split <;> omega
  generalize d2 * (if decide (d3 = 1) = true then (1 : Int) else 0) = m at hn ⊢
  refine ir1K_s (by omega) ?_
  refine for_inv (fun ds env => ∃ (A : OA (nf a)) (rs : List Sm) (s4 : SD (nf a)), Tp K a v (b + 4700 - 40 * ds.length) (.ow v A) ∧ ds.length ≤ 6 ∧ Made hs p rs ∧ hR rs + ds.length ≤ 9 ∧ cntR rs + ds.length ≤ 300 ∧ env = [.ow v A, .fz (headsD hs), .fz (.int (p : Nat)), .fz (rowsD rs), s4]) ?_ ?_ _ _
    ⟨A3, rs, .un, hT3.mono (by simp [rangeD]; omega), by simp [rangeD]; omega, hm1, by simp [rangeD]; omega, by simp [rangeD]; omega, rfl⟩
  · rintro x ds env R ⟨A4, rs, s4, hT4, hdl, hm4, hh4, hc4, rfl⟩ hC
    rw [List.length_cons] at hT4 hdl hh4 hc4
    walk_at "du"
    refine ⟨v, _, _, 2, rfl, hT4, by omega, by decide, by decide, fun s5 d5 hT5 hd50 hd51 => ?_⟩
    obtain ⟨A5, rfl⟩ := hT5.is
    walk_at "du"
    refine ite_s (fun h1 => ?_) (fun h1 => ?_)
    · walk_at "du"
      refine ⟨v, _, _, hs, rs, rfl, hT5, by omega, hH, fun s6 i o w hT6 hio hig => ?_⟩
      obtain ⟨A6, rfl⟩ := hT6.is
      walk_at "du"
      have eR : D.tup [encS (.mk (.bind i o w) [rs])] = rowsD [.mk (.bind i o w) [rs]] := by simp only [rowsD, encR]
      rw [eR]
      exact hC _ ⟨A6, _, _, hT6.mono (by omega), by omega, by simp only [Made, allR]; exact ⟨mk1 (hio p) hig rfl hm4, trivial⟩, by simp only [hR, hS, hB]; omega, by simp only [cntR, cntS, cntB]; omega, rfl⟩
    · walk_at "du"
      have eR : D.tup [.tup [.str "guard", rowsD rs, .tup []]] = rowsD [.mk .guard [rs, []]] := by simp only [rowsD, encR, encS, encB, Hd.word, Hd.items, List.nil_append]
      rw [eR]
      exact hC _ ⟨A5, _, _, hT5.mono (by omega), by omega, by simp only [Made, allR]; exact ⟨mk2 trivial trivial rfl hm4 (by simp only [Made, allR]), trivial⟩, by simp only [hR, hS, hB]; omega, by simp only [cntR, cntS, cntB]; omega, rfl⟩
  · rintro env ⟨A4, rs, s4, hT4, hdl, hm4, hh4, hc4, rfl⟩
    simp only [List.length_nil] at hT4 hh4 hc4
    walk_at "du"
    exact q _ rs (hT4.mono (by omega)) hm4 (by omega) (by omega)
open PySem L2 DL
theorem parts_step {hs : List (Str × Str)} {xs : List Pt} {i : Nat} (hl : xs.length = i) (hk : kinds xs = hs.take i) (hg : ∀ x ∈ xs, x.good) (hm : ∀ k x, xs[k]? = some x → Made hs k x.rows)
    {y : Pt} (e : hs[i]? = some (y.kind, y.id)) (gy : y.good) (my : Made hs i y.rows) :
    (xs ++ [y]).length = i + 1 ∧ kinds (xs ++ [y]) = hs.take (i + 1) ∧ (∀ x ∈ xs ++ [y], x.good) ∧ (∀ k x, (xs ++ [y])[k]? = some x → Made hs k x.rows) := by
  refine ⟨by simp [hl], ?_, fun x m => ?_, fun k x ex => ?_⟩
  · unfold kinds at hk ⊢
    rw [List.map_append, hk, List.take_add_one, e]
    rfl
  · rcases List.mem_append.mp m with m | m
    · exact hg x m
    · rw [List.mem_singleton.mp m]; exact gy
  · by_cases h : k < xs.length
    · rw [List.getElem?_append_left h] at ex
      exact hm k x ex
    · rw [List.getElem?_append_right (by omega)] at ex
      have hk0 : k - xs.length = 0 := by
        cases hkk : k - xs.length with
        | zero => rfl
        | succ j => rw [hkk] at ex; simp at ex
      rw [hk0] at ex
      have : y = x := by simpa using ex
      subst this
      have : k = i := by omega
      subst this
      exact my
theorem made_good {hs : List (Str × Str)} {p : Nat} {rs : List Sm} (m : Made hs p rs) : allR Hd.good rs := allR_imp (fun _ h => h.2) rs m
theorem d_law_parts {K : PySem.W.Frag} {a : Ad} : ∀ as Qd, as.length = 2 → (S_law_parts a) as Qd → td_law_parts K a (fnEnds as Qd) (as ++ List.replicate (9 - 2) .un) := by
  rintro as Qd hl ⟨ns, m, rfl, hns, hm0, hm, q⟩
  show td_law_parts K a (fnEnds _ Qd) [.fz (.scr ns), .fz (.int m), .un, .un, .un, .un, .un, .un, .un]
  unfold td_law_parts
  walk_at "du"
  refine ⟨ns, m, rfl, hns, hm0, hm, fun hs hH => ?_⟩
  obtain ⟨hnd, hok, hname, hlen, hlen2⟩ := id hH
  walk_at "du"
  intro v2
  walk_at "du"
  refine ir1K_s (by rw [List.length_map]; omega) ?_
  refine for_inv (fun ds env => ∃ (i r : Nat) (xs : List Pt) (s4 s5 s6 s7 s8 : SD (nf a)), ds = rangeD ((i : Nat) : Int) r ∧ i + r = hs.length ∧ xs.length = i ∧ kinds xs = hs.take i ∧ (∀ x ∈ xs, x.good) ∧ (∀ k x, xs[k]? = some x → Made hs k x.rows) ∧
    env = [.fz (.scr ns), .fz (.int m), .fz (headsD hs), .ow (.ref v2) (lstA K (nf a) (xs.map Pt.enc)), s4, s5, s6, s7, s8]) ?_ ?_ _ _ ⟨0, hs.length, [], .un, .un, .un, .un, .un, by rw [List.length_map]; rfl, by omega, rfl, rfl, (fun x mx => by cases mx), (fun k x ex => by simp at ex), rfl⟩
  · rintro x ds env R ⟨i, r, xs, s4, s5, s6, s7, s8, hds, hir, hxl, hxk, hxg, hxm, rfl⟩ hC
    match r, hds with
    | r + 1, hds =>
      rw [rangeD_cons] at hds
      obtain ⟨rfl, rfl⟩ := List.cons.inj hds
      have hi : i < hs.length := by omega
      obtain ⟨⟨k, w⟩, ek⟩ : ∃ h, hs[i]? = some h := ⟨_, List.getElem?_eq_getElem hi⟩
      have eat : atI (hs.map headD) ((i : Nat) : Int) = some (headD (k, w)) := by
        rw [atI_of (by omega) (by simp; omega)]
        simp [ek]
      obtain ⟨hw, hkk⟩ := hok _ (List.mem_of_getElem? ek)
      have hw : isIdB w = true := hw
      have app : ∀ y : Pt, xs.map Pt.enc ++ [y.enc] = (xs ++ [y]).map Pt.enc := fun y => by rw [List.map_append]; rfl
      have hxl2 : (xs.map Pt.enc).length < 1000000 := by rw [List.length_map]; omega
      walk_at "du"
      refine ⟨ns, 1 + ((i : Nat) : Int), rfl, by omega, by omega, fun v s hT => ?_⟩
      obtain ⟨A, rfl⟩ := hT.is
      walk_at "du"
      refine ixL_s eat ?_
      walk_at "du"
      rcases hkk with e | e | e | e
      · obtain rfl : k = "name" := e
        walk_at "du"
        refine ⟨v, _, _, rfl, hT, by decide, fun s1 z hT1 hz => ?_⟩
        obtain ⟨A1, rfl⟩ := hT1.is
        walk_at "du"
        refine appK_s rfl hxl2 (by walk_at "dn") ?_
        obtain ⟨p1, p2, p3, p4⟩ := parts_step hxl hxk hxg hxm (y := .name w z) ek ⟨hw, hz⟩ (by simp only [Pt.rows, Made, allR])
        rw [show D.tup [D.str "name", .str w, .str z] = Pt.enc (.name w z) from rfl, app]
        exact hC _ ⟨i + 1, r, _, _, _, _, _, _, rfl, by omega, p1, p2, p3, p4, rfl⟩
      · obtain rfl : k = "flag" := e
        walk_at "du"
        refine ⟨v, _, _, 2, rfl, hT, by decide, by decide, by decide, fun s1 d hT1 h0 h1 => ?_⟩
        obtain ⟨A1, rfl⟩ := hT1.is
        rcases two_at h0 h1 with rfl | rfl
        · walk_at "du"
          refine appK_s rfl hxl2 (by walk_at "dn") ?_
          obtain ⟨p1, p2, p3, p4⟩ := parts_step hxl hxk hxg hxm (y := .flag w "on") ek ⟨hw, .inl rfl⟩ (by simp only [Pt.rows, Made, allR])
          rw [show D.tup [D.str "flag", .str w, .str "on"] = Pt.enc (.flag w "on") from rfl, app]
          exact hC _ ⟨i + 1, r, _, _, _, _, _, _, rfl, by omega, p1, p2, p3, p4, rfl⟩
        · walk_at "du"
          refine appK_s rfl hxl2 (by walk_at "dn") ?_
          obtain ⟨p1, p2, p3, p4⟩ := parts_step hxl hxk hxg hxm (y := .flag w "off") ek ⟨hw, .inr rfl⟩ (by simp only [Pt.rows, Made, allR])
          rw [show D.tup [D.str "flag", .str w, .str "off"] = Pt.enc (.flag w "off") from rfl, app]
          exact hC _ ⟨i + 1, r, _, _, _, _, _, _, rfl, by omega, p1, p2, p3, p4, rfl⟩
      · obtain rfl : k = "slot" := e
        walk_at "du"
        refine ⟨v, _, _, 2, rfl, hT, by decide, by decide, by decide, fun s1 d hT1 h0 h1 => ?_⟩
        obtain ⟨A1, rfl⟩ := hT1.is
        rcases two_at h0 h1 with rfl | rfl
        · walk_at "du"
          refine appK_s rfl hxl2 (by walk_at "dn") ?_
          obtain ⟨p1, p2, p3, p4⟩ := parts_step hxl hxk hxg hxm (y := .slot w true) ek hw (by simp only [Pt.rows, Made, allR])
          rw [show D.tup [D.str "slot", .str w, .str "open"] = Pt.enc (.slot w true) from rfl, app]
          exact hC _ ⟨i + 1, r, _, _, _, _, _, _, rfl, by omega, p1, p2, p3, p4, rfl⟩
        · walk_at "du"
          refine appK_s rfl hxl2 (by walk_at "dn") ?_
          obtain ⟨p1, p2, p3, p4⟩ := parts_step hxl hxk hxg hxm (y := .slot w false) ek hw (by simp only [Pt.rows, Made, allR])
          rw [show D.tup [D.str "slot", .str w, .str "own"] = Pt.enc (.slot w false) from rfl, app]
          exact hC _ ⟨i + 1, r, _, _, _, _, _, _, rfl, by omega, p1, p2, p3, p4, rfl⟩
      · obtain rfl : k = "func" := e
        walk_at "du"
        refine ⟨v, _, _, 2, rfl, hT, by decide, by decide, by decide, fun s1 d hT1 h0 h1 => ?_⟩
        obtain ⟨A1, rfl⟩ := hT1.is
        rcases two_at h0 h1 with rfl | rfl
        · walk_at "du"
          refine ⟨v, _, _, hs, i, rfl, hT1, by decide, hH, by omega, fun s2 rs hT2 hm2 hh2 hc2 => ?_⟩
          obtain ⟨A2, rfl⟩ := hT2.is
          walk_at "du"
          refine appK_s rfl hxl2 (by walk_at "dn") ?_
          obtain ⟨p1, p2, p3, p4⟩ := parts_step hxl hxk hxg hxm (y := .func w true rs) ek ⟨hw, made_good hm2, hh2, hc2⟩ hm2
          rw [show D.tup [D.str "func", .str w, .str "open", rowsD rs] = Pt.enc (.func w true rs) from rfl, app]
          exact hC _ ⟨i + 1, r, _, _, _, _, _, _, rfl, by omega, p1, p2, p3, p4, rfl⟩
        · walk_at "du"
          refine ⟨v, _, _, hs, i, rfl, hT1, by decide, hH, by omega, fun s2 rs hT2 hm2 hh2 hc2 => ?_⟩
          obtain ⟨A2, rfl⟩ := hT2.is
          walk_at "du"
          refine appK_s rfl hxl2 (by walk_at "dn") ?_
          obtain ⟨p1, p2, p3, p4⟩ := parts_step hxl hxk hxg hxm (y := .func w false rs) ek ⟨hw, made_good hm2, hh2, hc2⟩ hm2
          rw [show D.tup [D.str "func", .str w, .str "own", rowsD rs] = Pt.enc (.func w false rs) from rfl, app]
          exact hC _ ⟨i + 1, r, _, _, _, _, _, _, rfl, by omega, p1, p2, p3, p4, rfl⟩
  · rintro env ⟨i, r, xs, s4, s5, s6, s7, s8, hds, hir, hxl, hxk, hxg, hxm, rfl⟩
    have hr : r = 0 := by
      cases r with
      | zero => rfl
      | succ r => rw [rangeD_cons] at hds; cases hds
    subst hr
    have hi : i = hs.length := by omega
    rw [hi, List.take_length] at hxk
    walk_at "du"
    refine q xs ⟨⟨hxg, by omega⟩, ?_, fun k x ex => ?_⟩ (by omega)
    · have : xs.map Pt.id = (kinds xs).map Prod.snd := by unfold kinds; rw [List.map_map]; rfl
      rw [this, hxk]
      exact hnd
    · rw [hxk]
      exact allR_imp (fun _ h => h.1) _ (hxm k x ex)
open PySem L2 DL
local macro_rules | `(tactic| walk_at "dw") => `(tactic| (unfold td_blocks_of; walk_at "du"; assumption))
theorem d_blocks_of {K : PySem.W.Frag} {a : Ad} : ∀ as Qd, as.length = 1 → (S_blocks_of a) as Qd → td_blocks_of K a (fnEnds as Qd) (as ++ List.replicate (2 - 1) .un) := by
  rintro as Qd hl ⟨⟨h, bs⟩, rfl, hb, q⟩
  have hb' : bs.length = h.nb := hb
  clear hb hl
  cases h with
  | look w i =>
    obtain rfl := List.length_eq_zero_iff.mp hb'
    show td_blocks_of K a (fnEnds _ Qd) [.fz (.tup [.str "look", .str w, .str i]), .un]
    walk_at "dw"
  | call i =>
    obtain rfl := List.length_eq_zero_iff.mp hb'
    show td_blocks_of K a (fnEnds _ Qd) [.fz (.tup [.str "call", .str i]), .un]
    walk_at "dw"
  | keep s f cs =>
    obtain rfl := List.length_eq_zero_iff.mp hb'
    show td_blocks_of K a (fnEnds _ Qd) [.fz (.tup [.str "keep", .str s, .str f, capsD cs]), .un]
    walk_at "dw"
  | take s cs =>
    obtain rfl := List.length_eq_zero_iff.mp hb'
    show td_blocks_of K a (fnEnds _ Qd) [.fz (.tup [.str "take", .str s, capsD cs]), .un]
    walk_at "dw"
  | shift s t cs =>
    obtain rfl := List.length_eq_zero_iff.mp hb'
    show td_blocks_of K a (fnEnds _ Qd) [.fz (.tup [.str "shift", .str s, .str t, capsD cs]), .un]
    walk_at "dw"
  | run s =>
    obtain rfl := List.length_eq_zero_iff.mp hb'
    show td_blocks_of K a (fnEnds _ Qd) [.fz (.tup [.str "run", .str s]), .un]
    walk_at "dw"
  | drop s =>
    obtain rfl := List.length_eq_zero_iff.mp hb'
    show td_blocks_of K a (fnEnds _ Qd) [.fz (.tup [.str "drop", .str s]), .un]
    walk_at "dw"
  | fail =>
    obtain rfl := List.length_eq_zero_iff.mp hb'
    show td_blocks_of K a (fnEnds _ Qd) [.fz (.tup [.str "fail"]), .un]
    walk_at "dw"
  | bind i o v =>
    obtain ⟨b, rfl⟩ := List.length_eq_one_iff.mp hb'
    show td_blocks_of K a (fnEnds _ Qd) [.fz (.tup [.str "bind", .str i, valD o v, rowsD b]), .un]
    walk_at "dw"
  | apart =>
    obtain ⟨b, rfl⟩ := List.length_eq_one_iff.mp hb'
    show td_blocks_of K a (fnEnds _ Qd) [.fz (.tup [.str "apart", rowsD b]), .un]
    walk_at "dw"
  | whn f =>
    obtain ⟨b, c, rfl⟩ := len2 hb'
    show td_blocks_of K a (fnEnds _ Qd) [.fz (.tup [.str "when", .str f, rowsD b, rowsD c]), .un]
    walk_at "dw"
  | held f =>
    obtain ⟨b, c, rfl⟩ := len2 hb'
    show td_blocks_of K a (fnEnds _ Qd) [.fz (.tup [.str "held", .str f, rowsD b, rowsD c]), .un]
    walk_at "dw"
  | guard =>
    obtain ⟨b, c, rfl⟩ := len2 hb'
    show td_blocks_of K a (fnEnds _ Qd) [.fz (.tup [.str "guard", rowsD b, rowsD c]), .un]
    walk_at "dw"
theorem items_len (h : Hd) : h.items.length ≤ 3 := by cases h <;> simp [Hd.items]
theorem d_rebuilt {K : PySem.W.Frag} {a : Ad} : ∀ as Qd, as.length = 2 → (S_rebuilt a) as Qd → td_rebuilt K a (fnEnds as Qd) (as ++ List.replicate (2 - 2) .un) := by
  rintro as Qd hl ⟨h, bs, bs', rfl, e1, e2, q⟩
  have hi := items_len h
  have l1 := encB_len bs
  have l2 := encB_len bs'
  show td_rebuilt K a (fnEnds _ Qd) [.fz (encS (.mk h bs)), .fz (.lst (encB bs'))]
  simp only [encS] at q ⊢
  unfold td_rebuilt
  walk_at "du"
  have ec : cutD (D.str h.word :: (h.items ++ encB bs)) none (some (((D.str h.word :: (h.items ++ encB bs)).length : Int) - ((encB bs').length : Int))) = D.str h.word :: h.items := by
    rw [cutD_take _ _ (by simp; omega) (by simp; omega)]
    rw [show ((((D.str h.word :: (h.items ++ encB bs)).length : Int) - ((encB bs').length : Int))).toNat = h.items.length + 1 by simp; omega]
    simp
  rw [ec]
  refine catT_s (by simp; omega) ?_
  walk_at "du"
  exact q
theorem ord_c {od : List Str} {cs : List Str} : ((od.map D.str).filter fun d => match d with | .str z => decide (z ∈ cs) | _ => false) = (ordC od cs).map D.str := by
  unfold ordC
  induction od with
  | nil => rfl
  | cons z od ih =>
    rw [List.map_cons, List.filter_cons, List.filter_cons, ih]
    by_cases h : z ∈ cs <;> simp [h]
theorem ord_lc {a : Ad} {w : Str} {pre : List D} {cs od : List Str} {Q : List D → EV (nf a) → Prop} (hl : od.length ≤ 100) (q : Q ((ordC od cs).map D.str) [.fz (.tup (.str w :: (pre ++ [capsD cs]))), .fz (.lst (od.map .str)), .un]) :
    dComp (gN 2) (dBv (dF (inF false) (dVar 2) (dF ixD (dVar 0) (dNeg (dC (D.int 1)))))) (dVar 2) [2] (od.map D.str) [] [.fz (.tup (.str w :: (pre ++ [capsD cs]))), .fz (.lst (od.map .str)), .un] Q := by
  refine lc_pure (fun d => match d with | .str z => decide (z ∈ cs) | _ => false) id rfl ?_ ?_ (by simp; omega) ?_
  · rintro x hx R r
    obtain ⟨z, _, rfl⟩ := List.mem_map.mp hx
    show dBv _ [.fz (.tup (.str w :: (pre ++ [capsD cs]))), .fz (.lst (od.map .str)), .fz (.str z)] R
    walk_at "du"
    refine ixT_s (atI_last (xs := D.str w :: pre) (d := capsD cs)) ?_
    walk_at "du"
    refine inTb_s (strsOf_map cs) rfl ?_
    walk_at "du"
    exact r
  · rintro x hx hp R r
    obtain ⟨z, _, rfl⟩ := List.mem_map.mp hx
    show dVar 2 [.fz (.tup (.str w :: (pre ++ [capsD cs]))), .fz (.lst (od.map .str)), .fz (.str z)] R
    walk_at "du"
    exact r
  · rw [List.nil_append, List.map_id, ord_c]
    exact q
local macro_rules | `(tactic| walk_at "dw") => `(tactic| (unfold td_ordered; walk_at "du"; assumption))
theorem ord_keep {K : PySem.W.Frag} {a : Ad} {w : Str} {pre : List D} {cs od : List Str} {Qd} (hl : od.length ≤ 100) (hp : pre.length ≤ 3) (hw : decide (w ∈ ([("keep" : Str), "take", "shift"] : List Str)) = true) (q : Qd (.tup (.str w :: (pre ++ [capsD (ordC od cs)]))) [.fz (.tup (.str w :: (pre ++ [capsD cs])))]) :
    td_ordered K a (fnEnds [.fz (.tup (.str w :: (pre ++ [capsD cs])))] Qd) [.fz (.tup (.str w :: (pre ++ [capsD cs]))), .fz (.lst (od.map .str)), .un] := by
  unfold td_ordered
  walk_at "du"
  refine ninTb_s (xs := [.str "keep", .str "take", .str "shift"]) rfl hw ?_
  walk_at "du"
  have ec : cutD (D.str w :: (pre ++ [capsD cs])) none (some (-1)) = D.str w :: pre := cutD_last (D.str w :: pre) (capsD cs)
  rw [ec]
  refine ord_lc hl ?_
  walk_at "du"
  exact q
theorem d_ordered {K : PySem.W.Frag} {a : Ad} : ∀ ds as Qd, ds.length = 1 → as.length = 1 → S_ordered a ds as Qd → td_ordered K a (fnEnds as Qd) (as ++ (ds.map .fz ++ List.replicate (3 - 1 - 1) .un)) := by
  rintro ds as Qd hd hl ⟨od, ⟨h, bs⟩, rfl, rfl, ho, hb, hg, q⟩
  have hb' : bs.length = h.nb := hb
  clear hb hl
  cases h with
  | look w i =>
    obtain rfl := List.length_eq_zero_iff.mp hb'
    show td_ordered K a (fnEnds _ Qd) [.fz (.tup [.str "look", .str w, .str i]), .fz (.lst (od.map .str)), .un]
    walk_at "dw"
  | call i =>
    obtain rfl := List.length_eq_zero_iff.mp hb'
    show td_ordered K a (fnEnds _ Qd) [.fz (.tup [.str "call", .str i]), .fz (.lst (od.map .str)), .un]
    walk_at "dw"
  | keep s f cs =>
    obtain rfl := List.length_eq_zero_iff.mp hb'
    exact ord_keep (w := "keep") (pre := [.str s, .str f]) ho (by simp) (by decide +kernel) q
  | take s cs =>
    obtain rfl := List.length_eq_zero_iff.mp hb'
    exact ord_keep (w := "take") (pre := [.str s]) ho (by simp) (by decide +kernel) q
  | shift s t cs =>
    obtain rfl := List.length_eq_zero_iff.mp hb'
    exact ord_keep (w := "shift") (pre := [.str s, .str t]) ho (by simp) (by decide +kernel) q
  | run s =>
    obtain rfl := List.length_eq_zero_iff.mp hb'
    show td_ordered K a (fnEnds _ Qd) [.fz (.tup [.str "run", .str s]), .fz (.lst (od.map .str)), .un]
    walk_at "dw"
  | drop s =>
    obtain rfl := List.length_eq_zero_iff.mp hb'
    show td_ordered K a (fnEnds _ Qd) [.fz (.tup [.str "drop", .str s]), .fz (.lst (od.map .str)), .un]
    walk_at "dw"
  | fail =>
    obtain rfl := List.length_eq_zero_iff.mp hb'
    show td_ordered K a (fnEnds _ Qd) [.fz (.tup [.str "fail"]), .fz (.lst (od.map .str)), .un]
    walk_at "dw"
  | bind i o v =>
    show td_ordered K a (fnEnds _ Qd) [.fz (.tup (.str "bind" :: ([.str i, valD o v] ++ encB bs))), .fz (.lst (od.map .str)), .un]
    walk_at "dw"
  | apart =>
    show td_ordered K a (fnEnds _ Qd) [.fz (.tup (.str "apart" :: ([] ++ encB bs))), .fz (.lst (od.map .str)), .un]
    walk_at "dw"
  | whn f =>
    show td_ordered K a (fnEnds _ Qd) [.fz (.tup (.str "when" :: ([.str f] ++ encB bs))), .fz (.lst (od.map .str)), .un]
    walk_at "dw"
  | held f =>
    show td_ordered K a (fnEnds _ Qd) [.fz (.tup (.str "held" :: ([.str f] ++ encB bs))), .fz (.lst (od.map .str)), .un]
    walk_at "dw"
  | guard =>
    show td_ordered K a (fnEnds _ Qd) [.fz (.tup (.str "guard" :: ([] ++ encB bs))), .fz (.lst (od.map .str)), .un]
    walk_at "dw"
open PySem L2 DL
theorem keeps_due (ps : List Pt) : (flR ps 0 1).filterMap (fun r => (r.2.2.map (Hd.ord (bound ps))).keep r.1) = keepsP ps := by
  unfold keepsP
  rw [show flR (ordP ps) 0 1 = (flR ps 0 1).map fun r => (r.1, r.2.1, r.2.2.map (Hd.ord (bound ps))) from flR_map _ ps 0 1, List.filterMap_map]
  rfl
def inCs (cs : List Str) : D → Bool | .str c => decide (c ∈ cs) | _ => false
theorem ord_enc (od cs : List Str) : ((od.map D.str).filter (inCs cs)).map id = (ordC od cs).map .str := by
  unfold ordC
  rw [List.map_id, List.filter_map]
  rfl
theorem kind_nin (x : Pt) : decide (x.kind ∈ keepL) = false := by
  have e : ∀ w ∈ partL, decide (w ∈ keepL) = false := by decide +kernel
  exact e _ (kind_in x)
def DueRow (x : Row) : Prop := ∃ l k, (∃ y : Pt, x = (l, k, .p y)) ∨ ∃ h bs, x = (l, k, .s (.mk h bs)) ∧ bs.length = h.nb ∧ h.good
theorem d_law_due {K : PySem.W.Frag} {a : Ad} : ∀ as Qd, as.length = 1 → (S_law_due a) as Qd → td_law_due K a (fnEnds as Qd) (as ++ List.replicate (10 - 1) .un) := by
  rintro as Qd hl ⟨ps, rfl, hF, q⟩
  obtain ⟨hf, hn⟩ := id hF
  show td_law_due K a (fnEnds _ Qd) [.fz (partsD ps), .un, .un, .un, .un, .un, .un, .un, .un, .un]
  unfold td_law_due
  walk_at "du"
  refine lc_pure bdB idD rfl ?_ ?_ (by simp; omega) ?_
  · rintro x hx R r
    obtain ⟨y, _, rfl⟩ := List.mem_map.mp hx
    obtain ⟨t, e, _⟩ := pad_first y
    rw [e] at r ⊢
    show dBv _ [.fz (partsD ps), .un, .fz (.tup (.str y.kind :: .str y.id :: t)), .un, .un, .un, .un, .un, .un, .un] R
    walk_at "du"
    refine inTb_s (xs := [.str "name", .str "flag"]) (ss := ["name", "flag"]) rfl rfl ?_
    walk_at "du"
    exact r
  · rintro x hx hp R r
    obtain ⟨y, _, rfl⟩ := List.mem_map.mp hx
    obtain ⟨t, e, ht⟩ := pad_first y
    rw [e] at r ⊢
    show dF ixD _ _ [.fz (partsD ps), .un, .fz (.tup (.str y.kind :: .str y.id :: t)), .un, .un, .un, .un, .un, .un, .un] R
    walk_at "du"
    refine ixT_s (z := .str y.id) (by rw [atI_of (by decide) (by simp; omega)]; rfl) ?_
    exact r
  rw [List.nil_append]
  have eb : ((ps.map Pt.enc).filter bdB).map idD = (bound ps).map D.str := by
    unfold bound
    rw [List.filter_map, List.map_map, List.map_map]
    rw [show (bdB ∘ Pt.enc) = fun x => decide (x.kind = ("name" : Str)) || decide (x.kind = ("flag" : Str)) from funext bd_enc]
    apply List.map_congr_left
    intro x _
    obtain ⟨t, e, _⟩ := pad_first x
    show idD x.enc = .str x.id
    rw [e]; rfl
  rw [eb]
  have hbl := bound_len ps
  walk_at "du"
  intro v
  walk_at "du"
  refine ⟨ps, rfl, hF, ?_⟩
  walk_at "du"
  have hc := cntP_le hf
  have hfl := flR_len ps 0 1
  have hst := flR_all (P := fun _ => Hd.good) ps 0 1 fun j x hx => (good_rows (hf x (List.mem_of_getElem? hx))).1
  refine for_inv (fun ds env => ∃ (ys : List D) (r : List Row) (s4 s5 s6 s7 s8 : SD (nf a)), ds = r.map Row.enc ∧ env = [.fz (partsD ps), .fz (.lst ((bound ps).map .str)), .un, .ow (.ref v) (lstA K (nf a) ys), s4, s5, s6, s7, s8, .un] ∧ ys.length + r.length ≤ 100000 ∧ (∀ x ∈ r, DueRow x) ∧
    ys ++ r.filterMap (fun r => (r.2.2.map (Hd.ord (bound ps))).keep r.1) = keepsP ps) ?_ ?_ _ _ ⟨[], flR ps 0 1, .un, .un, .un, .un, .un, rfl, rfl, by simp only [List.length_nil]; omega, ?_, by rw [List.nil_append, keeps_due]⟩
  · rintro x ds env R ⟨ys, r, s4, s5, s6, s7, s8, hds, rfl, hy, hr, e⟩ hC
    match r, hds, hr, hy, e with
    | x :: r, hds, hr, hy, e =>
      simp only [List.map_cons] at hds
      obtain ⟨rfl, rfl⟩ := List.cons.inj hds
      have hr' : ∀ x ∈ r, DueRow x := fun y m => hr y (List.mem_cons_of_mem _ m)
      simp only [List.length_cons] at hy
      rw [List.filterMap_cons] at e
      obtain ⟨l, k, ⟨y, rfl⟩ | ⟨h, bs, rfl, hb, hgd⟩⟩ := hr x List.mem_cons_self
      · have e : ys ++ r.filterMap (fun r => (r.2.2.map (Hd.ord (bound ps))).keep r.1) = keepsP ps := e
        obtain ⟨t2, ey2, ht2⟩ := pad_first y
        rw [show Row.enc (l, k, .p y) = .tup [.int l, .int (k : Nat), .tup (.str y.kind :: .str y.id :: t2)] from by show D.tup [_, _, y.enc] = _; rw [ey2]]
        walk_at "du"
        refine inTb_s (xs := [.str "keep", .str "take", .str "shift"]) (ss := keepL) rfl (kind_nin y) ?_
        walk_at "du"
        exact hC _ ⟨_, r, _, _, _, _, _, rfl, rfl, by omega, hr', e⟩
      · have ek : (It.map (Hd.ord (bound ps)) (.s (.mk h bs))).keep l = keepRow l (h.ord (bound ps)) := by
          simp only [It.map, mapS, It.keep, Sm.h]
        simp only [ek] at e
        rw [show Row.enc (l, k, .s (.mk h bs)) = .tup [.int l, .int (k : Nat), .tup (.str h.word :: (h.items ++ encB bs))] from by show D.tup [_, _, encS _] = _; simp only [encS]]
        by_cases hw : h.word ∈ keepL
        · cases h with
          | keep s f cs =>
            obtain rfl := nb0 hb
            simp only [Hd.word, Hd.items, encB, capsD, List.cons_append, List.nil_append, List.append_nil]
            walk_at "du"
            refine lc_pure (inCs cs) id rfl ?_ ?_ (by simp; omega) ?_
            · rintro x hx R r
              obtain ⟨c, _, rfl⟩ := List.mem_map.mp hx
              show dBv _ [.fz (partsD ps), .fz (.lst ((bound ps).map .str)), .un, .ow (.ref v) (lstA K (nf a) ys), .fz (.int l), .fz (.int (k : Nat)), .fz (.tup [.str "keep", .str s, .str f, .tup (cs.map .str)]), .fz (.str s), s8, .fz (.str c)] R
              walk_at "du"
              refine inTb_s (strsOf_map cs) rfl ?_
              walk_at "du"
              exact r
            · rintro x hx hp R r
              show dVar 9 [.fz (partsD ps), .fz (.lst ((bound ps).map .str)), .un, .ow (.ref v) (lstA K (nf a) ys), .fz (.int l), .fz (.int (k : Nat)), .fz (.tup [.str "keep", .str s, .str f, .tup (cs.map .str)]), .fz (.str s), s8, .fz x] R
              walk_at "du"
              exact r
            · rw [List.nil_append, ord_enc]
              walk_at "du"
              refine appK_s rfl (by omega) (by walk_at "dn") ?_
              exact hC _ ⟨_, r, _, _, _, _, _, rfl, rfl, by simp; omega, hr', by rw [← e]; simp [keepRow, Hd.ord, capsD]⟩
          | shift s t cs =>
            obtain rfl := nb0 hb
            simp only [Hd.word, Hd.items, encB, capsD, List.cons_append, List.nil_append, List.append_nil]
            walk_at "du"
            refine lc_pure (inCs cs) id rfl ?_ ?_ (by simp; omega) ?_
            · rintro x hx R r
              obtain ⟨c, _, rfl⟩ := List.mem_map.mp hx
              show dBv _ [.fz (partsD ps), .fz (.lst ((bound ps).map .str)), .un, .ow (.ref v) (lstA K (nf a) ys), .fz (.int l), .fz (.int (k : Nat)), .fz (.tup [.str "shift", .str s, .str t, .tup (cs.map .str)]), .fz (.str t), s8, .fz (.str c)] R
              walk_at "du"
              refine inTb_s (strsOf_map cs) rfl ?_
              walk_at "du"
              exact r
            · rintro x hx hp R r
              show dVar 9 [.fz (partsD ps), .fz (.lst ((bound ps).map .str)), .un, .ow (.ref v) (lstA K (nf a) ys), .fz (.int l), .fz (.int (k : Nat)), .fz (.tup [.str "shift", .str s, .str t, .tup (cs.map .str)]), .fz (.str t), s8, .fz x] R
              walk_at "du"
              exact r
            · rw [List.nil_append, ord_enc]
              walk_at "du"
              refine appK_s rfl (by omega) (by walk_at "dn") ?_
              exact hC _ ⟨_, r, _, _, _, _, _, rfl, rfl, by simp; omega, hr', by rw [← e]; simp [keepRow, Hd.ord, capsD]⟩
          | take s cs =>
            obtain rfl := nb0 hb
            simp only [Hd.word, Hd.items, encB, capsD, List.cons_append, List.nil_append, List.append_nil]
            walk_at "du"
            refine lc_pure (inCs cs) id rfl ?_ ?_ (by simp; omega) ?_
            · rintro x hx R r
              obtain ⟨c, _, rfl⟩ := List.mem_map.mp hx
              show dBv _ [.fz (partsD ps), .fz (.lst ((bound ps).map .str)), .un, .ow (.ref v) (lstA K (nf a) ys), .fz (.int l), .fz (.int (k : Nat)), .fz (.tup [.str "take", .str s, .tup (cs.map .str)]), .fz (.str s), s8, .fz (.str c)] R
              walk_at "du"
              refine inTb_s (strsOf_map cs) rfl ?_
              walk_at "du"
              exact r
            · rintro x hx hp R r
              show dVar 9 [.fz (partsD ps), .fz (.lst ((bound ps).map .str)), .un, .ow (.ref v) (lstA K (nf a) ys), .fz (.int l), .fz (.int (k : Nat)), .fz (.tup [.str "take", .str s, .tup (cs.map .str)]), .fz (.str s), s8, .fz x] R
              walk_at "du"
              exact r
            · rw [List.nil_append, ord_enc]
              walk_at "du"
              refine appK_s rfl (by omega) (by walk_at "dn") ?_
              exact hC _ ⟨_, r, _, _, _, _, _, rfl, rfl, by simp; omega, hr', by rw [← e]; simp [keepRow, Hd.ord, capsD]⟩
          | look _ _ => exact absurd hw (by simp only [Hd.word]; decide +kernel)
          | bind _ _ _ => exact absurd hw (by simp only [Hd.word]; decide +kernel)
          | call _ => exact absurd hw (by simp only [Hd.word]; decide +kernel)
          | run _ => exact absurd hw (by simp only [Hd.word]; decide +kernel)
          | drop _ => exact absurd hw (by simp only [Hd.word]; decide +kernel)
          | apart => exact absurd hw (by simp only [Hd.word]; decide +kernel)
          | whn _ => exact absurd hw (by simp only [Hd.word]; decide +kernel)
          | held _ => exact absurd hw (by simp only [Hd.word]; decide +kernel)
          | fail => exact absurd hw (by simp only [Hd.word]; decide +kernel)
          | guard => exact absurd hw (by simp only [Hd.word]; decide +kernel)
        · rw [keep_none (h := h.ord (bound ps)) (by have : (h.ord (bound ps)).word = h.word := by cases h <;> rfl
                                                    rw [this]; exact hw)] at e
          walk_at "du"
          refine inTb_s (xs := [.str "keep", .str "take", .str "shift"]) (ss := keepL) rfl (decide_eq_false hw) ?_
          walk_at "du"
          exact hC _ ⟨_, r, _, _, _, _, _, rfl, rfl, by omega, hr', e⟩
  · rintro env ⟨ys, r, s4, s5, s6, s7, s8, hds, rfl, _, _, e⟩
    have : r = [] := by cases r with
      | nil => rfl
      | cons _ _ => simp only [List.map_cons] at hds; cases hds
    subst this
    simp only [List.filterMap_nil, List.append_nil] at e
    subst e
    walk_at "du"
    exact q
  · rintro ⟨l, k, x⟩ m
    cases x with
    | p y => exact ⟨l, k, .inl ⟨y, rfl⟩⟩
    | s x =>
      obtain ⟨h, bs⟩ := x
      have := hst _ m _ rfl
      simp only [allS] at this
      exact ⟨l, k, .inr ⟨h, bs, rfl, this.2.1, this.1⟩⟩
theorem keepRow_pl {h : Hd} {l : Int} {d : D} (g : h.good) (e : keepRow l h = some d) : plainB d = true ∧ depD d ≤ 2 := by
  have c : ∀ cs : List Str, (∀ c ∈ cs, isIdB c = true) → plainB (capsD cs) = true ∧ depD (capsD cs) ≤ 1 := fun cs hc => by
    refine ⟨?_, ?_⟩
    · simp only [capsD, plainB]
      rw [plains_iff]
      intro x m
      obtain ⟨c, mc, rfl⟩ := List.mem_map.mp m
      simp only [plainB]
      exact id_ok (hc c mc)
    · simp only [capsD, depD]
      have : depsD (cs.map D.str) ≤ 0 := deps_le.mpr fun x m => by
        obtain ⟨c, mc, rfl⟩ := List.mem_map.mp m
        simp only [depD]
        omega
      omega
  have k1 : PyData.strOk "keep" = true := by decide +kernel
  have k2 : PyData.strOk "take" = true := by decide +kernel
  have k3 : PyData.strOk "shift" = true := by decide +kernel
  cases h <;> simp only [keepRow] at e <;> cases e
  case keep s f cs =>
    obtain ⟨c1, c2⟩ := c cs g.2.2.2
    simp only [plainB, plainsB, depD, depsD, k1, id_ok g.1, c1, Bool.and_true, Bool.true_and]
    exact ⟨trivial, by omega⟩
  case take s cs =>
    obtain ⟨c1, c2⟩ := c cs g.2.2
    simp only [plainB, plainsB, depD, depsD, k2, id_ok g.1, c1, Bool.and_true, Bool.true_and]
    exact ⟨trivial, by omega⟩
  case shift s t cs =>
    obtain ⟨c1, c2⟩ := c cs g.2.2.2
    simp only [plainB, plainsB, depD, depsD, k3, id_ok g.2.1, c1, Bool.and_true, Bool.true_and]
    exact ⟨trivial, by omega⟩
theorem keeps_pl {ps : List Pt} (hF : FormP ps) : plainB (.tup (keepsP ps)) = true ∧ depD (.tup (keepsP ps)) ≤ 64 := by
  have hF' := formP_ord hF
  have hst := flR_all (P := fun _ => Hd.good) (ordP ps) 0 1 fun j x hx => (good_rows (hF'.1 x (List.mem_of_getElem? hx))).1
  have h : ∀ d ∈ keepsP ps, plainB d = true ∧ depD d ≤ 2 := fun d m => by
    obtain ⟨⟨l, k, x⟩, mr, e⟩ := List.mem_filterMap.mp m
    cases x with
    | p y => cases e
    | s x =>
      obtain ⟨h, bs⟩ := x
      have := hst _ mr _ rfl
      simp only [allS] at this
      exact keepRow_pl this.1 e
  refine ⟨?_, ?_⟩
  · simp only [plainB]
    rw [plains_iff]
    exact fun d m => (h d m).1
  · simp only [depD]
    have : depsD (keepsP ps) ≤ 2 := deps_le.mpr fun d m => (h d m).2
    omega
theorem d_law {K : PySem.W.Frag} {a : Ad} : ∀ as Qd, as.length = 1 → (S_law a) as Qd → td_law K a (fnEnds as Qd) (as ++ List.replicate (3 - 1) .un) := by
  rintro as Qd hl ⟨ns, rfl, hns, q⟩
  show td_law K a (fnEnds _ Qd) [.fz (.scr ns), .un, .un]
  unfold td_law
  walk_at "du"
  refine ⟨ns, 6, rfl, hns, by decide, by decide, fun ps hM _ => ?_⟩
  obtain ⟨pl, dp⟩ := keeps_pl hM.1
  walk_at "du"
  refine ⟨ps, rfl, hM.1, ?_⟩
  walk_at "du"
  refine ⟨ps, rfl, hM.1, ?_⟩
  refine eqRefl_s rfl pl dp ?_
  walk_at "du"
  refine ⟨ps, rfl, hM.1, hM.2, ?_⟩
  walk_at "du"
  refine ⟨ordP ps, rfl, formP_ord hM.1, ?_⟩
  rw [keeps_ord]
  walk_at "du"
  refine eqRefl_s rfl pl dp ?_
  walk_at "du"
  exact q
open PySem L2 DL
structure Txt (w : World) (K : PySem.W.Frag) (mg : Str → Option Value) (a : Ad) : Prop where
  F_blocks_of : Fun K "blocks_of" "blocks_of" s_blocks_of a.f_blocks_of a.d_blocks_of
  b_blocks_of : Binds K a.d_blocks_of ["statement"] []
  g_blocks_of : mg "blocks_of" = some (.ref a.f_blocks_of)
  k_blocks_of : PySem.W.keepIn K (.ref a.f_blocks_of) = true
  F_rebuilt : Fun K "rebuilt" "rebuilt" s_rebuilt a.f_rebuilt a.d_rebuilt
  b_rebuilt : Binds K a.d_rebuilt ["statement", "blocks"] []
  g_rebuilt : mg "rebuilt" = some (.ref a.f_rebuilt)
  k_rebuilt : PySem.W.keepIn K (.ref a.f_rebuilt) = true
  F_add_first_lines : Fun K "add_first_lines" "add_first_lines" s_add_first_lines a.f_add_first_lines a.d_add_first_lines
  b_add_first_lines : Binds K a.d_add_first_lines ["found", "rows", "line", "place"] []
  g_add_first_lines : mg "add_first_lines" = some (.ref a.f_add_first_lines)
  k_add_first_lines : PySem.W.keepIn K (.ref a.f_add_first_lines) = true
  F_first_lines : Fun K "first_lines" "first_lines" s_first_lines a.f_first_lines a.d_first_lines
  b_first_lines : Binds K a.d_first_lines ["parts"] []
  g_first_lines : mg "first_lines" = some (.ref a.f_first_lines)
  k_first_lines : PySem.W.keepIn K (.ref a.f_first_lines) = true
  F_statements : Fun K "statements" "statements" s_statements a.f_statements a.d_statements
  b_statements : Binds K a.d_statements ["parts"] []
  g_statements : mg "statements" = some (.ref a.f_statements)
  k_statements : PySem.W.keepIn K (.ref a.f_statements) = true
  F_changed_rows : Fun K "changed_rows" "changed_rows" s_changed_rows a.f_changed_rows a.d_changed_rows
  b_changed_rows : Binds K a.d_changed_rows ["rows", "change"] []
  g_changed_rows : mg "changed_rows" = some (.ref a.f_changed_rows)
  k_changed_rows : PySem.W.keepIn K (.ref a.f_changed_rows) = true
  F_changed : Fun K "changed" "changed" s_changed a.f_changed a.d_changed
  b_changed : Binds K a.d_changed ["parts", "change"] []
  g_changed : mg "changed" = some (.ref a.f_changed)
  k_changed : PySem.W.keepIn K (.ref a.f_changed) = true
  F_is_word : Fun K "is_word" "is_word" s_is_word a.f_is_word a.d_is_word
  b_is_word : Binds K a.d_is_word ["value"] []
  g_is_word : mg "is_word" = some (.ref a.f_is_word)
  k_is_word : PySem.W.keepIn K (.ref a.f_is_word) = true
  F_is_identifier : Fun K "is_identifier" "is_identifier" s_is_identifier a.f_is_identifier a.d_is_identifier
  b_is_identifier : Binds K a.d_is_identifier ["value"] []
  g_is_identifier : mg "is_identifier" = some (.ref a.f_is_identifier)
  k_is_identifier : PySem.W.keepIn K (.ref a.f_is_identifier) = true
  F_is_setting : Fun K "is_setting" "is_setting" s_is_setting a.f_is_setting a.d_is_setting
  b_is_setting : Binds K a.d_is_setting ["value"] []
  g_is_setting : mg "is_setting" = some (.ref a.f_is_setting)
  k_is_setting : PySem.W.keepIn K (.ref a.f_is_setting) = true
  F_is_listing : Fun K "is_listing" "is_listing" s_is_listing a.f_is_listing a.d_is_listing
  b_is_listing : Binds K a.d_is_listing ["value"] []
  g_is_listing : mg "is_listing" = some (.ref a.f_is_listing)
  k_is_listing : PySem.W.keepIn K (.ref a.f_is_listing) = true
  F_is_value : Fun K "is_value" "is_value" s_is_value a.f_is_value a.d_is_value
  b_is_value : Binds K a.d_is_value ["value"] []
  g_is_value : mg "is_value" = some (.ref a.f_is_value)
  k_is_value : PySem.W.keepIn K (.ref a.f_is_value) = true
  F_is_access : Fun K "is_access" "is_access" s_is_access a.f_is_access a.d_is_access
  b_is_access : Binds K a.d_is_access ["value"] []
  g_is_access : mg "is_access" = some (.ref a.f_is_access)
  k_is_access : PySem.W.keepIn K (.ref a.f_is_access) = true
  F_fits : Fun K "fits" "fits" s_fits a.f_fits a.d_fits
  b_fits : Binds K a.d_fits ["shape", "item", "blocks"] []
  g_fits : mg "fits" = some (.ref a.f_fits)
  k_fits : PySem.W.keepIn K (.ref a.f_fits) = true
  F_is_rows : Fun K "is_rows" "is_rows" s_is_rows a.f_is_rows a.d_is_rows
  b_is_rows : Binds K a.d_is_rows ["rows", "blocks"] []
  g_is_rows : mg "is_rows" = some (.ref a.f_is_rows)
  k_is_rows : PySem.W.keepIn K (.ref a.f_is_rows) = true
  F_is_statement : Fun K "is_statement" "is_statement" s_is_statement a.f_is_statement a.d_is_statement
  b_is_statement : Binds K a.d_is_statement ["statement", "blocks"] []
  g_is_statement : mg "is_statement" = some (.ref a.f_is_statement)
  k_is_statement : PySem.W.keepIn K (.ref a.f_is_statement) = true
  F_is_part : Fun K "is_part" "is_part" s_is_part a.f_is_part a.d_is_part
  b_is_part : Binds K a.d_is_part ["part"] []
  g_is_part : mg "is_part" = some (.ref a.f_is_part)
  k_is_part : PySem.W.keepIn K (.ref a.f_is_part) = true
  F_check_form : Fun K "check_form" "check_form" s_check_form a.f_check_form a.d_check_form
  b_check_form : Binds K a.d_check_form ["parts"] []
  g_check_form : mg "check_form" = some (.ref a.f_check_form)
  k_check_form : PySem.W.keepIn K (.ref a.f_check_form) = true
  F_declared_parts : Fun K "declared_parts" "declared_parts" s_declared_parts a.f_declared_parts a.d_declared_parts
  b_declared_parts : Binds K a.d_declared_parts ["parts", "lines"] []
  g_declared_parts : mg "declared_parts" = some (.ref a.f_declared_parts)
  k_declared_parts : PySem.W.keepIn K (.ref a.f_declared_parts) = true
  F_kind_of : Fun K "kind_of" "kind_of" s_kind_of a.f_kind_of a.d_kind_of
  b_kind_of : Binds K a.d_kind_of ["ident", "declared"] []
  g_kind_of : mg "kind_of" = some (.ref a.f_kind_of)
  k_kind_of : PySem.W.keepIn K (.ref a.f_kind_of) = true
  F_check_known : Fun K "check_known" "check_known" s_check_known a.f_check_known a.d_check_known
  b_check_known : Binds K a.d_check_known ["line", "statement", "declared"] []
  g_check_known : mg "check_known" = some (.ref a.f_check_known)
  k_check_known : PySem.W.keepIn K (.ref a.f_check_known) = true
  F_check_listing : Fun K "check_listing" "check_listing" s_check_listing a.f_check_listing a.d_check_listing
  b_check_listing : Binds K a.d_check_listing ["line", "statement"] []
  g_check_listing : mg "check_listing" = some (.ref a.f_check_listing)
  k_check_listing : PySem.W.keepIn K (.ref a.f_check_listing) = true
  F_check_order : Fun K "check_order" "check_order" s_check_order a.f_check_order a.d_check_order
  b_check_order : Binds K a.d_check_order ["line", "place", "statement", "declared"] []
  g_check_order : mg "check_order" = some (.ref a.f_check_order)
  k_check_order : PySem.W.keepIn K (.ref a.f_check_order) = true
  F_check_statement : Fun K "check_statement" "check_statement" s_check_statement a.f_check_statement a.d_check_statement
  b_check_statement : Binds K a.d_check_statement ["line", "place", "statement", "declared"] []
  g_check_statement : mg "check_statement" = some (.ref a.f_check_statement)
  k_check_statement : PySem.W.keepIn K (.ref a.f_check_statement) = true
  F_with_ordered_lists : Fun K "with_ordered_lists" "with_ordered_lists" s_with_ordered_lists a.f_with_ordered_lists a.d_with_ordered_lists
  b_with_ordered_lists : Binds K a.d_with_ordered_lists ["parts"] []
  g_with_ordered_lists : mg "with_ordered_lists" = some (.ref a.f_with_ordered_lists)
  k_with_ordered_lists : PySem.W.keepIn K (.ref a.f_with_ordered_lists) = true
  F_settled : Fun K "settled" "settled" s_settled a.f_settled a.d_settled
  b_settled : Binds K a.d_settled ["parts", "lines"] []
  g_settled : mg "settled" = some (.ref a.f_settled)
  k_settled : PySem.W.keepIn K (.ref a.f_settled) = true
  F_check : Fun K "check" "check" s_check a.f_check a.d_check
  b_check : Binds K a.d_check ["parts"] []
  g_check : mg "check" = some (.ref a.f_check)
  k_check : PySem.W.keepIn K (.ref a.f_check) = true
  F_keepings : Fun K "keepings" "keepings" s_keepings a.f_keepings a.d_keepings
  b_keepings : Binds K a.d_keepings ["parts"] []
  g_keepings : mg "keepings" = some (.ref a.f_keepings)
  k_keepings : PySem.W.keepIn K (.ref a.f_keepings) = true
  F_law_tape : Fun K "_law_tape" "_law_tape" s_law_tape a.f_law_tape a.d_law_tape
  b_law_tape : Binds K a.d_law_tape ["_law_script", "_law_k"] []
  g_law_tape : mg "_law_tape" = some (.ref a.f_law_tape)
  k_law_tape : PySem.W.keepIn K (.ref a.f_law_tape) = true
  F_law_draw : Fun K "_law_draw" "_law_draw" s_law_draw a.f_law_draw a.d_law_draw
  b_law_draw : Binds K a.d_law_draw ["_law_tape_here", "_law_many"] []
  g_law_draw : mg "_law_draw" = some (.ref a.f_law_draw)
  k_law_draw : PySem.W.keepIn K (.ref a.f_law_draw) = true
  F_law_kept : Fun K "_law_kept" "_law_kept" s_law_kept a.f_law_kept a.d_law_kept
  b_law_kept : Binds K a.d_law_kept [] []
  g_law_kept : mg "_law_kept" = some (.ref a.f_law_kept)
  k_law_kept : PySem.W.keepIn K (.ref a.f_law_kept) = true
  F_law_signs : Fun K "_law_signs" "_law_signs" s_law_signs a.f_law_signs a.d_law_signs
  b_law_signs : Binds K a.d_law_signs [] []
  g_law_signs : mg "_law_signs" = some (.ref a.f_law_signs)
  k_law_signs : PySem.W.keepIn K (.ref a.f_law_signs) = true
  F_law_spelled : Fun K "_law_spelled" "_law_spelled" s_law_spelled a.f_law_spelled a.d_law_spelled
  b_law_spelled : Binds K a.d_law_spelled ["_law_tape_here", "_law_used"] []
  g_law_spelled : mg "_law_spelled" = some (.ref a.f_law_spelled)
  k_law_spelled : PySem.W.keepIn K (.ref a.f_law_spelled) = true
  F_law_ident : Fun K "_law_ident" "_law_ident" s_law_ident a.f_law_ident a.d_law_ident
  b_law_ident : Binds K a.d_law_ident ["_law_tape_here", "_law_used"] []
  g_law_ident : mg "_law_ident" = some (.ref a.f_law_ident)
  k_law_ident : PySem.W.keepIn K (.ref a.f_law_ident) = true
  F_law_word : Fun K "_law_word" "_law_word" s_law_word a.f_law_word a.d_law_word
  b_law_word : Binds K a.d_law_word ["_law_tape_here"] []
  g_law_word : mg "_law_word" = some (.ref a.f_law_word)
  k_law_word : PySem.W.keepIn K (.ref a.f_law_word) = true
  F_law_heads : Fun K "_law_heads" "_law_heads" s_law_heads a.f_law_heads a.d_law_heads
  b_law_heads : Binds K a.d_law_heads ["_law_script", "_law_most"] []
  g_law_heads : mg "_law_heads" = some (.ref a.f_law_heads)
  k_law_heads : PySem.W.keepIn K (.ref a.f_law_heads) = true
  F_law_idents : Fun K "_law_idents" "_law_idents" s_law_idents a.f_law_idents a.d_law_idents
  b_law_idents : Binds K a.d_law_idents ["_law_heads_here", "_law_kinds"] []
  g_law_idents : mg "_law_idents" = some (.ref a.f_law_idents)
  k_law_idents : PySem.W.keepIn K (.ref a.f_law_idents) = true
  F_law_pick : Fun K "_law_pick" "_law_pick" s_law_pick a.f_law_pick a.d_law_pick
  b_law_pick : Binds K a.d_law_pick ["_law_tape_here", "_law_pool"] []
  g_law_pick : mg "_law_pick" = some (.ref a.f_law_pick)
  k_law_pick : PySem.W.keepIn K (.ref a.f_law_pick) = true
  F_law_captured : Fun K "_law_captured" "_law_captured" s_law_captured a.f_law_captured a.d_law_captured
  b_law_captured : Binds K a.d_law_captured ["_law_tape_here", "_law_heads_here"] []
  g_law_captured : mg "_law_captured" = some (.ref a.f_law_captured)
  k_law_captured : PySem.W.keepIn K (.ref a.f_law_captured) = true
  F_law_pairs_above : Fun K "_law_pairs_above" "_law_pairs_above" s_law_pairs_above a.f_law_pairs_above a.d_law_pairs_above
  b_law_pairs_above : Binds K a.d_law_pairs_above ["_law_heads_here", "_law_first", "_law_second"] []
  g_law_pairs_above : mg "_law_pairs_above" = some (.ref a.f_law_pairs_above)
  k_law_pairs_above : PySem.W.keepIn K (.ref a.f_law_pairs_above) = true
  F_law_slot_statement : Fun K "_law_slot_statement" "_law_slot_statement" s_law_slot_statement a.f_law_slot_statement a.d_law_slot_statement
  b_law_slot_statement : Binds K a.d_law_slot_statement ["_law_tape_here", "_law_heads_here", "_law_above", "_law_kind"] []
  g_law_slot_statement : mg "_law_slot_statement" = some (.ref a.f_law_slot_statement)
  k_law_slot_statement : PySem.W.keepIn K (.ref a.f_law_slot_statement) = true
  F_law_bind : Fun K "_law_bind" "_law_bind" s_law_bind a.f_law_bind a.d_law_bind
  b_law_bind : Binds K a.d_law_bind ["_law_tape_here", "_law_heads_here", "_law_rows_here"] []
  g_law_bind : mg "_law_bind" = some (.ref a.f_law_bind)
  k_law_bind : PySem.W.keepIn K (.ref a.f_law_bind) = true
  F_law_block : Fun K "_law_block" "_law_block" s_law_block a.f_law_block a.d_law_block
  b_law_block : Binds K a.d_law_block ["_law_tape_here", "_law_heads_here", "_law_above", "_law_kind", "_law_level"] []
  g_law_block : mg "_law_block" = some (.ref a.f_law_block)
  k_law_block : PySem.W.keepIn K (.ref a.f_law_block) = true
  F_law_statement : Fun K "_law_statement" "_law_statement" s_law_statement a.f_law_statement a.d_law_statement
  b_law_statement : Binds K a.d_law_statement ["_law_tape_here", "_law_heads_here", "_law_above", "_law_level"] []
  g_law_statement : mg "_law_statement" = some (.ref a.f_law_statement)
  k_law_statement : PySem.W.keepIn K (.ref a.f_law_statement) = true
  F_law_rows : Fun K "_law_rows" "_law_rows" s_law_rows a.f_law_rows a.d_law_rows
  b_law_rows : Binds K a.d_law_rows ["_law_tape_here", "_law_heads_here", "_law_above", "_law_level"] []
  g_law_rows : mg "_law_rows" = some (.ref a.f_law_rows)
  k_law_rows : PySem.W.keepIn K (.ref a.f_law_rows) = true
  F_law_function : Fun K "_law_function" "_law_function" s_law_function a.f_law_function a.d_law_function
  b_law_function : Binds K a.d_law_function ["_law_tape_here", "_law_heads_here", "_law_place"] []
  g_law_function : mg "_law_function" = some (.ref a.f_law_function)
  k_law_function : PySem.W.keepIn K (.ref a.f_law_function) = true
  F_law_parts : Fun K "_law_parts" "_law_parts" s_law_parts a.f_law_parts a.d_law_parts
  b_law_parts : Binds K a.d_law_parts ["_law_script", "_law_most"] []
  g_law_parts : mg "_law_parts" = some (.ref a.f_law_parts)
  k_law_parts : PySem.W.keepIn K (.ref a.f_law_parts) = true
  F_law_blocks : Fun K "_law_blocks" "_law_blocks" s_law_blocks a.f_law_blocks a.d_law_blocks
  b_law_blocks : Binds K a.d_law_blocks ["_law_statement_here"] []
  g_law_blocks : mg "_law_blocks" = some (.ref a.f_law_blocks)
  k_law_blocks : PySem.W.keepIn K (.ref a.f_law_blocks) = true
  F_law_listed_rows : Fun K "_law_listed_rows" "_law_listed_rows" s_law_listed_rows a.f_law_listed_rows a.d_law_listed_rows
  b_law_listed_rows : Binds K a.d_law_listed_rows ["_law_found", "_law_rows_here", "_law_line", "_law_place"] []
  g_law_listed_rows : mg "_law_listed_rows" = some (.ref a.f_law_listed_rows)
  k_law_listed_rows : PySem.W.keepIn K (.ref a.f_law_listed_rows) = true
  F_law_listed : Fun K "_law_listed" "_law_listed" s_law_listed a.f_law_listed a.d_law_listed
  b_law_listed : Binds K a.d_law_listed ["_law_parts_here"] []
  g_law_listed : mg "_law_listed" = some (.ref a.f_law_listed)
  k_law_listed : PySem.W.keepIn K (.ref a.f_law_listed) = true
  F_law_due : Fun K "_law_due" "_law_due" s_law_due a.f_law_due a.d_law_due
  b_law_due : Binds K a.d_law_due ["_law_parts_here"] []
  g_law_due : mg "_law_due" = some (.ref a.f_law_due)
  k_law_due : PySem.W.keepIn K (.ref a.f_law_due) = true
  F_law : Fun K "law" "law" s_law a.f_law a.d_law
  b_law : Binds K a.d_law ["_law_script"] []
  g_law : mg "law" = some (.ref a.f_law)
  k_law : PySem.W.keepIn K (.ref a.f_law) = true
  code_with_ordered_lists : a.d_with_ordered_lists.code = .ref a.c_with_ordered_lists
  z_zip : mg "zip" = none
  z_enumerate : mg "enumerate" = none
  z_reversed : mg "reversed" = none
  z_len : mg "len" = none
  z_int : mg "int" = none
  z_str : mg "str" = none
  z_all : mg "all" = none
  z_tuple : mg "tuple" = none
  z_list : mg "list" = none
  z_isinstance : mg "isinstance" = none
  z_range : mg "range" = none
  g_LETTERS : mg "LETTERS" = some (.str "abcdefghijklmnopqrstuvwxyz" a.t_LETTERS)
  g_DIGITS : mg "DIGITS" = some (.str "0123456789" a.t_DIGITS)
  g_LONGEST : mg "LONGEST" = some (.int 12 a.t_LONGEST)
  g_MOST_BLOCKS : mg "MOST_BLOCKS" = some (.int 8 a.t_MOST_BLOCKS)
  g_KEPT : mg "KEPT" = some (.ref a.p_KEPT)
  r_KEPT : ∀ nf H, Rel K nf H (.ref a.p_KEPT) kept
  g_PART_WORDS : mg "PART_WORDS" = some (.ref a.p_PART_WORDS)
  r_PART_WORDS : ∀ nf H, Rel K nf H (.ref a.p_PART_WORDS) partw
  g_BOUND_WORDS : mg "BOUND_WORDS" = some (.ref a.p_BOUND_WORDS)
  r_BOUND_WORDS : ∀ nf H, Rel K nf H (.ref a.p_BOUND_WORDS) boundw
  g_KEEPINGS : mg "KEEPINGS" = some (.ref a.p_KEEPINGS)
  r_KEEPINGS : ∀ nf H, Rel K nf H (.ref a.p_KEEPINGS) keepw
  g_SHAPES : mg "SHAPES" = some (.ref a.p_SHAPES)
  kd_SHAPES : KD K w a.p_SHAPES SHAPESl
  g_WANTED : mg "WANTED" = some (.ref a.p_WANTED)
  kd_WANTED : KD K w a.p_WANTED WANTEDl
structure TxtB (base : Heap) (mg : Str → Option Value) (a : Ad) : Prop where
  TB_with_ordered_lists : LamX.TabB base mg a.c_with_ordered_lists a.P_with_ordered_lists
section
variable {P : Program} {w : World} {K : PySem.W.Frag} {mg : Str → Option Value} {base : Heap} {a : Ad}
theorem ok_blocks_of (T : Txt w K mg a) (B : TxtB base mg a) : FnOk P w K mg base CX0 1 a.f_blocks_of a.d_blocks_of ["statement"] (toSp K (nf a) 1 (S_blocks_of a)) := by
  refine T.F_blocks_of.ok sc_blocks_of (fun vs H Q E h => h.1) (fun cdv A outer s H vs Q E hr h => ?_)
  have hN := sc_blocks_of.nd
  have hu := hu_of hr
  have hu6 := hr.units
  refine body_ok (td := td_blocks_of K a) ?_ (by decide) (d_blocks_of) h
  exact (ds_cons (ds_set (i := 1) hN rfl (by first | exact Or.inl rfl | exact Or.inr rfl) (de_ixG hu (dv 0) de_int))
      (ds_cons (ds_if (dc_inG hu (dv 1) (de_tup (da_cons de_str (da_cons de_str da_nil)))) (ds_one (ds_ret (de_tup (da_cons (de_ixG hu (dv 0) (de_neg de_int)) da_nil)))) ds_nil)
      (ds_cons (ds_if (dc_inG hu (dv 1) (de_tup (da_cons de_str (da_cons de_str (da_cons de_str da_nil))))) (ds_one (ds_ret (de_tup (da_cons (de_ixG hu (dv 0) (de_neg de_int)) (da_cons (de_ixG hu (dv 0) (de_neg de_int)) da_nil))))) ds_nil)
      (ds_one (ds_ret (de_tup da_nil))))))
theorem ok_rebuilt (T : Txt w K mg a) (B : TxtB base mg a) : FnOk P w K mg base CX0 1 a.f_rebuilt a.d_rebuilt ["statement", "blocks"] (toSp K (nf a) 2 (S_rebuilt a)) := by
  refine T.F_rebuilt.ok sc_rebuilt (fun vs H Q E h => h.1) (fun cdv A outer s H vs Q E hr h => ?_)
  have hN := sc_rebuilt.nd
  have hu := hu_of hr
  have hu6 := hr.units
  refine body_ok (td := td_rebuilt K a) ?_ (by decide) (d_rebuilt) h
  exact (ds_one (ds_ret (de_catT (de_slT (dv 0) do_none (do_some (de_sub (de_cb call_lenG cd_lenG rfl T.z_len boot_len (da_cons (dv 0) da_nil)) (de_cb call_lenG cd_lenG rfl T.z_len boot_len (da_cons (dv 1) da_nil))))) (de_ct call_tuple_of cd_tuple rfl T.z_tuple (by decide +kernel) (da_cons (dv 1) da_nil)))))
theorem grp_add_first_lines (T : Txt w K mg a) (B : TxtB base mg a) : ∀ n : Nat, (FnOk P w K mg base CX0 (2 + n) a.f_add_first_lines a.d_add_first_lines ["found", "rows", "line", "place"] (toSp K (nf a) 4 (S_add_first_lines K a n))) := by
  have G_blocks_of : FnOk P w K mg base CX0 1 a.f_blocks_of a.d_blocks_of ["statement"] (toSp K (nf a) 1 (S_blocks_of a)) := ok_blocks_of T B
  have b_add_first_lines := T.b_add_first_lines
  have b_blocks_of := T.b_blocks_of
  intro n
  induction n with
  | zero => exact fnOk_no (fun as Q h => by first | exact z_add_first_lines K a as Q h | exact z_add_first_lines a as Q h)
  | succ n ih =>
    have G_add_first_lines := ih
    · show FnOk P w K mg base CX0 (2 + n + 1) a.f_add_first_lines a.d_add_first_lines ["found", "rows", "line", "place"] (toSp K (nf a) 4 (S_add_first_lines K a (n + 1)))
      refine T.F_add_first_lines.ok sc_add_first_lines (fun vs H Q E h => h.1) (fun cdv A outer s H vs Q E hr h => ?_)
      have hN := sc_add_first_lines.nd
      have hu := hu_of hr
      have hu6 := hr.units
      refine body_ok (td := td_add_first_lines K a n) ?_ (by decide) (d_add_first_lines n) h
      exact (ds_cons (ds_for PassesOwn.never rfl (di_tup (dv 1)) (dg_name (i := 4) hN rfl (by first | exact Or.inl rfl | exact Or.inr rfl)) (ds_cons (ds_app (pv 0) (de_tup (da_cons (dv 2) (da_cons (dv 3) (da_cons (dv 4) da_nil)))))
      (ds_cons (ds_augI (i := 2) hN rfl (by first | exact Or.inl rfl | exact Or.inr rfl) de_int)
      (ds_cons (ds_set (i := 5) hN rfl (by first | exact Or.inl rfl | exact Or.inr rfl) (de_call G_blocks_of (hr.mono (by omega)) rfl T.g_blocks_of T.k_blocks_of b_blocks_of .nil (fun _ => .nil) pass0 (dm_val (dv 4) dm_nil)))
      (ds_cons (ds_for PassesOwn.never rfl (di_enum rfl T.z_enumerate (da_cons (dv 5) da_nil)) (dg_tup rfl (dgs_cons (dg_name (i := 6) hN rfl (by first | exact Or.inl rfl | exact Or.inr rfl)) (dgs_cons (dg_name (i := 7) hN rfl (by first | exact Or.inl rfl | exact Or.inr rfl)) dgs_nil))) (ds_cons (ds_if (DW.dc (dw_and (dc_eqG hu6 (dv 6) de_int) (dw_and1 (dc_neG hu6 (dv 7) (de_tup da_nil))))) (ds_one (ds_augI (i := 2) hN rfl (by first | exact Or.inl rfl | exact Or.inr rfl) de_int)) ds_nil)
      (ds_one (ds_set (i := 2) hN rfl (by first | exact Or.inl rfl | exact Or.inr rfl) (de_call G_add_first_lines (hr.mono (by omega)) rfl T.g_add_first_lines T.k_add_first_lines b_add_first_lines .nil (fun _ => .nil) pass0 (dm_slot (pv 0) (dm_val (dv 7) (dm_val (dv 2) (dm_val (dv 3) dm_nil)))))))))
      (ds_one (ds_if (dc_neG hu6 (dv 5) (de_tup da_nil)) (ds_one (ds_augI (i := 2) hN rfl (by first | exact Or.inl rfl | exact Or.inr rfl) de_int)) ds_nil)))))))
      (ds_one (ds_ret (dv 2))))
theorem ok_add_first_lines (T : Txt w K mg a) (B : TxtB base mg a) : FnOk P w K mg base CX0 14 a.f_add_first_lines a.d_add_first_lines ["found", "rows", "line", "place"] (toSp K (nf a) 4 (S_add_first_lines K a 12)) := (grp_add_first_lines T B 12)
theorem ok_first_lines (T : Txt w K mg a) (B : TxtB base mg a) : FnOk P w K mg base CX0 15 a.f_first_lines a.d_first_lines ["parts"] (toSp K (nf a) 1 (S_first_lines a)) := by
  have G_add_first_lines : FnOk P w K mg base CX0 14 a.f_add_first_lines a.d_add_first_lines ["found", "rows", "line", "place"] (toSp K (nf a) 4 (S_add_first_lines K a 12)) := ok_add_first_lines T B
  have b_add_first_lines := T.b_add_first_lines
  refine T.F_first_lines.ok sc_first_lines (fun vs H Q E h => h.1) (fun cdv A outer s H vs Q E hr h => ?_)
  have hN := sc_first_lines.nd
  have hu := hu_of hr
  have hu6 := hr.units
  refine body_ok (td := td_first_lines K a) ?_ (by decide) (d_first_lines) h
  exact (ds_cons (ds_setL (i := 1) hN rfl (by first | exact Or.inl rfl | exact Or.inr rfl) da_nil)
      (ds_cons (ds_set (i := 2) hN rfl (by first | exact Or.inl rfl | exact Or.inr rfl) de_int)
      (ds_cons (ds_for PassesOwn.never rfl (di_enum rfl T.z_enumerate (da_cons (dv 0) da_nil)) (dg_tup rfl (dgs_cons (dg_name (i := 3) hN rfl (by first | exact Or.inl rfl | exact Or.inr rfl)) (dgs_cons (dg_name (i := 4) hN rfl (by first | exact Or.inl rfl | exact Or.inr rfl)) dgs_nil))) (ds_cons (ds_app (pv 1) (de_tup (da_cons (dv 2) (da_cons (dv 3) (da_cons (dv 4) da_nil)))))
      (ds_cons (ds_augI (i := 2) hN rfl (by first | exact Or.inl rfl | exact Or.inr rfl) de_int)
      (ds_one (ds_if (dc_eqG hu6 (de_ixG hu (dv 4) de_int) de_str) (ds_one (ds_set (i := 2) hN rfl (by first | exact Or.inl rfl | exact Or.inr rfl) (de_addG (de_call G_add_first_lines (hr.mono (by decide)) rfl T.g_add_first_lines T.k_add_first_lines b_add_first_lines .nil (fun _ => .nil) pass0 (dm_slot (pv 1) (dm_val (de_ixG hu (dv 4) de_int) (dm_val (dv 2) (dm_val (dv 3) dm_nil))))) de_int))) ds_nil)))))
      (ds_one (ds_ret (de_varF (pv 1)))))))
theorem ok_statements (T : Txt w K mg a) (B : TxtB base mg a) : FnOk P w K mg base CX0 16 a.f_statements a.d_statements ["parts"] (toSp K (nf a) 1 (S_statements a)) := by
  have G_first_lines : FnOk P w K mg base CX0 15 a.f_first_lines a.d_first_lines ["parts"] (toSp K (nf a) 1 (S_first_lines a)) := ok_first_lines T B
  have b_first_lines := T.b_first_lines
  refine T.F_statements.ok sc_statements (fun vs H Q E h => h.1) (fun cdv A outer s H vs Q E hr h => ?_)
  have hN := sc_statements.nd
  have hu := hu_of hr
  have hu6 := hr.units
  refine body_ok (td := td_statements K a) ?_ (by decide) (d_statements) h
  exact (ds_one (ds_ret (de_lc rfl hN (di_list (de_call G_first_lines (hr.mono (by decide)) rfl T.g_first_lines T.k_first_lines b_first_lines .nil (fun _ => .nil) pass0 (dm_val (dv 0) dm_nil))) (own := [("row", 1)]) (show BlkOk ["parts", "row"] (defScope s_statements) _ _ from ⟨rfl, by decide +kernel, by decide +kernel, by decide +kernel, by decide +kernel⟩) (fun s H C cl fp => (dg_name (i := 1) hN rfl (by first | exact Or.inl rfl | exact Or.inr rfl))) (fun s H C cl fp => (dts_one (dc_ninG hu (de_ixG hu (de_ixG hu (dv 1) de_int) de_int) (de_gany rfl T.g_PART_WORDS (T.r_PART_WORDS _))))) (fun s H C cl fp => (dv 1)))))
theorem ok_ordered (T : Txt w K mg a) (B : TxtB base mg a) : NokC P w K mg base CX0 1 W_ordered ["statement"] (toSpN K (nf a) 1 (S_ordered a)) := by
  refine nokC_of (N := ["statement", "order", "ident"]) (cscope_by (by decide +kernel)) (fun cl c doc pm ctv us hl => match us, hl with | [_], _ => rfl) (fun ws vs H Q E h => h.1) (fun f c cl A outer s H vs ws Q E hr hw h => ?_)
  have hN : [("statement" : Str), ("order" : Str), ("ident" : Str)].Nodup := by decide
  have hu := hu_of hr
  have hu6 := hr.units
  refine body_okN (td := td_ordered K a) (m := 1) ?_ (by decide) (d_ordered) hw h
  exact (ds_cons (ds_if (dc_ninG hu (de_ixG hu (dv 0) de_int) (de_gany rfl T.g_KEEPINGS (T.r_KEEPINGS _))) (ds_one (ds_ret (dv 0))) ds_nil)
      (ds_one (ds_ret (de_catT (de_slT (dv 0) do_none (do_some (de_neg de_int))) (de_tup (da_cons (de_ct call_tuple_of cd_tuple rfl T.z_tuple (by decide +kernel) (da_cons (de_lc rfl hN (di_list (dv 1)) (own := [("ident", 2)]) (show BlkOk ["statement", "order", "ident"] (C8.fnScope s_ordered) _ _ from ⟨rfl, by decide +kernel, by decide +kernel, by decide +kernel, by decide +kernel⟩) (fun s H C cl fp => (dg_name (i := 2) hN rfl (by first | exact Or.inl rfl | exact Or.inr rfl))) (fun s H C cl fp => (dts_one (dc_inG hu (dv 2) (de_ixG hu (dv 0) (de_neg de_int))))) (fun s H C cl fp => (dv 2))) da_nil)) da_nil))))))
theorem grp_changed_rows (T : Txt w K mg a) (B : TxtB base mg a) : ∀ n : Nat, (FnOk P w K mg base CX0 (2 + n) a.f_changed_rows a.d_changed_rows ["rows", "change"] (toSp K (nf a) 2 (S_changed_rows a n))) := by
  have G_blocks_of : FnOk P w K mg base CX0 1 a.f_blocks_of a.d_blocks_of ["statement"] (toSp K (nf a) 1 (S_blocks_of a)) := ok_blocks_of T B
  have G_rebuilt : FnOk P w K mg base CX0 1 a.f_rebuilt a.d_rebuilt ["statement", "blocks"] (toSp K (nf a) 2 (S_rebuilt a)) := ok_rebuilt T B
  have G_ordered : NokC P w K mg base CX0 1 W_ordered ["statement"] (toSpN K (nf a) 1 (S_ordered a)) := ok_ordered T B
  have b_blocks_of := T.b_blocks_of
  have b_changed_rows := T.b_changed_rows
  have b_rebuilt := T.b_rebuilt
  have N_changed_rows : ∀ q ∈ (Ws a), NokC P w K mg base CX0 1 q.1 ["statement"] (toSpN K (nf a) 1 q.2) := by
    intro q hq
    rcases Ws_mem hq with rfl
    · exact G_ordered.mono (by decide)
  intro n
  induction n with
  | zero => exact fnOk_no (fun as Q h => by first | exact z_changed_rows K a as Q h | exact z_changed_rows a as Q h)
  | succ n ih =>
    have G_changed_rows := ih
    · show FnOk P w K mg base CX0 (2 + n + 1) a.f_changed_rows a.d_changed_rows ["rows", "change"] (toSp K (nf a) 2 (S_changed_rows a (n + 1)))
      refine T.F_changed_rows.ok sc_changed_rows (fun vs H Q E h => h.1) (fun cdv A outer s H vs Q E hr h => ?_)
      have hN := sc_changed_rows.nd
      have hu := hu_of hr
      have hu6 := hr.units
      refine body_ok (td := td_changed_rows K a n) ?_ (by decide) (d_changed_rows n) h
      exact (ds_cons (ds_setL (i := 2) hN rfl (by first | exact Or.inl rfl | exact Or.inr rfl) da_nil)
      (ds_cons (ds_for PassesOwn.never rfl (di_tup (dv 0)) (dg_name (i := 3) hN rfl (by first | exact Or.inl rfl | exact Or.inr rfl)) (ds_cons (ds_set (i := 4) hN rfl (by first | exact Or.inl rfl | exact Or.inr rfl) (de_callF (Ws := (Ws a)) N_changed_rows (hr.mono (by omega)) rfl (by first | exact Or.inl rfl | exact Or.inr (by first | exact Or.inl rfl | exact Or.inr rfl) | exact Or.inr (Or.inr rfl)) (da_cons (dv 3) da_nil)))
      (ds_cons (ds_setLc (i := 5) rfl hN rfl rfl rfl (di_tup (de_call G_blocks_of (hr.mono (by omega)) rfl T.g_blocks_of T.k_blocks_of b_blocks_of .nil (fun _ => .nil) pass0 (dm_val (dv 4) dm_nil))) (own := [("block", 6)]) (show BlkOk ["rows", "change", "result", "statement", "fresh", "inner", "block"] (defScope s_changed_rows) _ _ from ⟨rfl, by decide +kernel, by decide +kernel, by decide +kernel, by decide +kernel⟩) (fun s H C cl fp => (dg_name (i := 6) hN rfl (by first | exact Or.inl rfl | exact Or.inr rfl))) (fun s H C cl fp => dts_nil) (fun s H C cl fp => (de_call G_changed_rows (hr.mono (by omega)) rfl T.g_changed_rows T.k_changed_rows b_changed_rows .nil (fun _ => .nil) pass0 (dm_val (dv 6) (dm_val (dv 1) dm_nil)))))
      (ds_one (ds_app (pv 2) (de_call G_rebuilt (hr.mono (by omega)) rfl T.g_rebuilt T.k_rebuilt b_rebuilt .nil (fun _ => .nil) pass0 (dm_val (dv 4) (dm_val (dv 5) dm_nil))))))))
      (ds_one (ds_ret (de_ct call_tuple_of cd_tuple rfl T.z_tuple (by decide +kernel) (da_cons (de_varF (pv 2)) da_nil))))))
theorem ok_changed_rows (T : Txt w K mg a) (B : TxtB base mg a) : FnOk P w K mg base CX0 14 a.f_changed_rows a.d_changed_rows ["rows", "change"] (toSp K (nf a) 2 (S_changed_rows a 12)) := (grp_changed_rows T B 12)
theorem ok_changed (T : Txt w K mg a) (B : TxtB base mg a) : FnOk P w K mg base CX0 15 a.f_changed a.d_changed ["parts", "change"] (toSp K (nf a) 2 (S_changed a)) := by
  have G_changed_rows : FnOk P w K mg base CX0 14 a.f_changed_rows a.d_changed_rows ["rows", "change"] (toSp K (nf a) 2 (S_changed_rows a 12)) := ok_changed_rows T B
  have b_changed_rows := T.b_changed_rows
  refine T.F_changed.ok sc_changed (fun vs H Q E h => h.1) (fun cdv A outer s H vs Q E hr h => ?_)
  have hN := sc_changed.nd
  have hu := hu_of hr
  have hu6 := hr.units
  refine body_ok (td := td_changed K a) ?_ (by decide) (d_changed) h
  exact (ds_cons (ds_setL (i := 2) hN rfl (by first | exact Or.inl rfl | exact Or.inr rfl) da_nil)
      (ds_cons (ds_for PassesOwn.never rfl (di_tup (dv 0)) (dg_name (i := 3) hN rfl (by first | exact Or.inl rfl | exact Or.inr rfl)) (ds_one (ds_if (dc_eqG hu6 (de_ixG hu (dv 3) de_int) de_str) (ds_one (ds_app (pv 2) (de_catT (de_slT (dv 3) do_none (do_some de_int)) (de_tup (da_cons (de_call G_changed_rows (hr.mono (by decide)) rfl T.g_changed_rows T.k_changed_rows b_changed_rows .nil (fun _ => .nil) pass0 (dm_val (de_ixG hu (dv 3) de_int) (dm_val (dv 1) dm_nil))) da_nil))))) (ds_one (ds_app (pv 2) (dv 3))))))
      (ds_one (ds_ret (de_ct call_tuple_of cd_tuple rfl T.z_tuple (by decide +kernel) (da_cons (de_varF (pv 2)) da_nil))))))
theorem ok_is_word (T : Txt w K mg a) (B : TxtB base mg a) : FnOk P w K mg base CX0 1 a.f_is_word a.d_is_word ["value"] (toSp K (nf a) 1 (S_is_word a)) := by
  refine T.F_is_word.ok sc_is_word (fun vs H Q E h => h.1) (fun cdv A outer s H vs Q E hr h => ?_)
  have hN := sc_is_word.nd
  have hu := hu_of hr
  have hu6 := hr.units
  refine body_ok (td := td_is_word K a) ?_ (by decide) (d_is_word) h
  exact (ds_cons (ds_if (DW.dc (dw_or (dc_not (dc_val (de_cb call_isi cd_isi rfl T.z_isinstance (by decide +kernel) (da_cons (dv 0) (da_cons (de_bty rfl T.z_str (by decide +kernel)) da_nil))))) (dw_or1 (dc_not (dc_chain op_le op_le de_int (de_cb call_lenG cd_lenG rfl T.z_len boot_len (da_cons (dv 0) da_nil)) (de_gint rfl T.g_LONGEST)))))) (ds_one (ds_ret de_bl)) ds_nil)
      (ds_one (ds_ret (de_cb (cr_all rfl) cd_all rfl T.z_all (by decide +kernel) (da_cons (de_lc rfl hN (di_str (dv 0)) (own := [("sign", 1)]) (show BlkOk ["value", "sign"] (defScope s_is_word) _ _ from ⟨rfl, by decide +kernel, by decide +kernel, by decide +kernel, by decide +kernel⟩) (fun s H C cl fp => (dg_name (i := 1) hN rfl (by first | exact Or.inl rfl | exact Or.inr rfl))) (fun s H C cl fp => dts_nil) (fun s H C cl fp => (de_or (de_inG hu (dv 1) (de_gstr rfl T.g_LETTERS)) (de_one (de_inG hu (dv 1) (de_gstr rfl T.g_DIGITS)))))) da_nil)))))
theorem ok_is_identifier (T : Txt w K mg a) (B : TxtB base mg a) : FnOk P w K mg base CX0 2 a.f_is_identifier a.d_is_identifier ["value"] (toSp K (nf a) 1 (S_is_identifier a)) := by
  have G_is_word : FnOk P w K mg base CX0 1 a.f_is_word a.d_is_word ["value"] (toSp K (nf a) 1 (S_is_word a)) := ok_is_word T B
  have b_is_word := T.b_is_word
  refine T.F_is_identifier.ok sc_is_identifier (fun vs H Q E h => h.1) (fun cdv A outer s H vs Q E hr h => ?_)
  have hN := sc_is_identifier.nd
  have hu := hu_of hr
  have hu6 := hr.units
  refine body_ok (td := td_is_identifier K a) ?_ (by decide) (d_is_identifier) h
  exact (ds_one (ds_ret (de_and (de_call G_is_word (hr.mono (by decide)) rfl T.g_is_word T.k_is_word b_is_word .nil (fun _ => .nil) pass0 (dm_val (dv 0) dm_nil)) (de_and (de_inG hu (de_ixG hu (dv 0) de_int) (de_gstr rfl T.g_LETTERS)) (de_one (de_ninG hu (dv 0) (de_gany rfl T.g_KEPT (T.r_KEPT _))))))))
theorem ok_is_setting (T : Txt w K mg a) (B : TxtB base mg a) : FnOk P w K mg base CX0 1 a.f_is_setting a.d_is_setting ["value"] (toSp K (nf a) 1 (S_is_setting a)) := by
  refine T.F_is_setting.ok sc_is_setting (fun vs H Q E h => h.1) (fun cdv A outer s H vs Q E hr h => ?_)
  have hN := sc_is_setting.nd
  have hu := hu_of hr
  have hu6 := hr.units
  refine body_ok (td := td_is_setting K a) ?_ (by decide) (d_is_setting) h
  exact (ds_one (ds_ret (de_and (de_cb call_isi cd_isi rfl T.z_isinstance (by decide +kernel) (da_cons (dv 0) (da_cons (de_bty rfl T.z_str (by decide +kernel)) da_nil))) (de_one (de_inG hu (dv 0) (de_tup (da_cons de_str (da_cons de_str da_nil))))))))
theorem ok_is_listing (T : Txt w K mg a) (B : TxtB base mg a) : FnOk P w K mg base CX0 3 a.f_is_listing a.d_is_listing ["value"] (toSp K (nf a) 1 (S_is_listing a)) := by
  have G_is_identifier : FnOk P w K mg base CX0 2 a.f_is_identifier a.d_is_identifier ["value"] (toSp K (nf a) 1 (S_is_identifier a)) := ok_is_identifier T B
  have b_is_identifier := T.b_is_identifier
  refine T.F_is_listing.ok sc_is_listing (fun vs H Q E h => h.1) (fun cdv A outer s H vs Q E hr h => ?_)
  have hN := sc_is_listing.nd
  have hu := hu_of hr
  have hu6 := hr.units
  refine body_ok (td := td_is_listing K a) ?_ (by decide) (d_is_listing) h
  exact (ds_one (ds_ret (de_and (de_cb call_isi cd_isi rfl T.z_isinstance (by decide +kernel) (da_cons (dv 0) (da_cons (de_bty rfl T.z_tuple (by decide +kernel)) da_nil))) (de_one (de_cb (cr_all rfl) cd_all rfl T.z_all (by decide +kernel) (da_cons (de_lc rfl hN (di_tup (dv 0)) (own := [("item", 1)]) (show BlkOk ["value", "item"] (defScope s_is_listing) _ _ from ⟨rfl, by decide +kernel, by decide +kernel, by decide +kernel, by decide +kernel⟩) (fun s H C cl fp => (dg_name (i := 1) hN rfl (by first | exact Or.inl rfl | exact Or.inr rfl))) (fun s H C cl fp => dts_nil) (fun s H C cl fp => (de_call G_is_identifier (hr.mono (by decide)) rfl T.g_is_identifier T.k_is_identifier b_is_identifier .nil (fun _ => .nil) pass0 (dm_val (dv 1) dm_nil)))) da_nil))))))
theorem ok_is_value (T : Txt w K mg a) (B : TxtB base mg a) : FnOk P w K mg base CX0 3 a.f_is_value a.d_is_value ["value"] (toSp K (nf a) 1 (S_is_value a)) := by
  have G_is_identifier : FnOk P w K mg base CX0 2 a.f_is_identifier a.d_is_identifier ["value"] (toSp K (nf a) 1 (S_is_identifier a)) := ok_is_identifier T B
  have G_is_word : FnOk P w K mg base CX0 1 a.f_is_word a.d_is_word ["value"] (toSp K (nf a) 1 (S_is_word a)) := ok_is_word T B
  have b_is_identifier := T.b_is_identifier
  have b_is_word := T.b_is_word
  refine T.F_is_value.ok sc_is_value (fun vs H Q E h => h.1) (fun cdv A outer s H vs Q E hr h => ?_)
  have hN := sc_is_value.nd
  have hu := hu_of hr
  have hu6 := hr.units
  refine body_ok (td := td_is_value K a) ?_ (by decide) (d_is_value) h
  exact (ds_cons (ds_if (DW.dc (dw_or (dc_not (dc_val (de_cb call_isi cd_isi rfl T.z_isinstance (by decide +kernel) (da_cons (dv 0) (da_cons (de_bty rfl T.z_tuple (by decide +kernel)) da_nil))))) (dw_or (dc_neG hu6 (de_cb call_lenG cd_lenG rfl T.z_len boot_len (da_cons (dv 0) da_nil)) de_int) (dw_or1 (dc_not (dc_val (de_cb call_isi cd_isi rfl T.z_isinstance (by decide +kernel) (da_cons (de_ixG hu (dv 0) de_int) (da_cons (de_bty rfl T.z_str (by decide +kernel)) da_nil))))))))) (ds_one (ds_ret de_bl)) ds_nil)
      (ds_cons (ds_if (dc_eqG hu6 (de_ixG hu (dv 0) de_int) de_str) (ds_one (ds_ret (de_call G_is_word (hr.mono (by decide)) rfl T.g_is_word T.k_is_word b_is_word .nil (fun _ => .nil) pass0 (dm_val (de_ixG hu (dv 0) de_int) dm_nil)))) ds_nil)
      (ds_one (ds_ret (de_and (de_eqG hu6 (de_ixG hu (dv 0) de_int) de_str) (de_one (de_call G_is_identifier (hr.mono (by decide)) rfl T.g_is_identifier T.k_is_identifier b_is_identifier .nil (fun _ => .nil) pass0 (dm_val (de_ixG hu (dv 0) de_int) dm_nil))))))))
theorem ok_is_access (T : Txt w K mg a) (B : TxtB base mg a) : FnOk P w K mg base CX0 1 a.f_is_access a.d_is_access ["value"] (toSp K (nf a) 1 (S_is_access a)) := by
  refine T.F_is_access.ok sc_is_access (fun vs H Q E h => h.1) (fun cdv A outer s H vs Q E hr h => ?_)
  have hN := sc_is_access.nd
  have hu := hu_of hr
  have hu6 := hr.units
  refine body_ok (td := td_is_access K a) ?_ (by decide) (d_is_access) h
  exact (ds_one (ds_ret (de_and (de_cb call_isi cd_isi rfl T.z_isinstance (by decide +kernel) (da_cons (dv 0) (da_cons (de_bty rfl T.z_str (by decide +kernel)) da_nil))) (de_one (de_inG hu (dv 0) (de_tup (da_cons de_str (da_cons de_str da_nil))))))))
theorem grp_fits (T : Txt w K mg a) (B : TxtB base mg a) : ∀ n : Nat, (FnOk P w K mg base CX0 (4 + n) a.f_fits a.d_fits ["shape", "item", "blocks"] (toSp K (nf a) 3 (S_fits a n))) ∧ (FnOk P w K mg base CX0 (4 + n) a.f_is_rows a.d_is_rows ["rows", "blocks"] (toSp K (nf a) 2 (S_is_rows a n))) ∧ (FnOk P w K mg base CX0 (4 + n) a.f_is_statement a.d_is_statement ["statement", "blocks"] (toSp K (nf a) 2 (S_is_statement a n))) := by
  have G_is_identifier : FnOk P w K mg base CX0 2 a.f_is_identifier a.d_is_identifier ["value"] (toSp K (nf a) 1 (S_is_identifier a)) := ok_is_identifier T B
  have G_is_listing : FnOk P w K mg base CX0 3 a.f_is_listing a.d_is_listing ["value"] (toSp K (nf a) 1 (S_is_listing a)) := ok_is_listing T B
  have G_is_value : FnOk P w K mg base CX0 3 a.f_is_value a.d_is_value ["value"] (toSp K (nf a) 1 (S_is_value a)) := ok_is_value T B
  have G_is_word : FnOk P w K mg base CX0 1 a.f_is_word a.d_is_word ["value"] (toSp K (nf a) 1 (S_is_word a)) := ok_is_word T B
  have b_fits := T.b_fits
  have b_is_identifier := T.b_is_identifier
  have b_is_listing := T.b_is_listing
  have b_is_rows := T.b_is_rows
  have b_is_statement := T.b_is_statement
  have b_is_value := T.b_is_value
  have b_is_word := T.b_is_word
  intro n
  induction n with
  | zero => exact ⟨fnOk_no (fun as Q h => by first | exact z_fits K a as Q h | exact z_fits a as Q h), fnOk_no (fun as Q h => by first | exact z_is_rows K a as Q h | exact z_is_rows a as Q h), fnOk_no (fun as Q h => by first | exact z_is_statement K a as Q h | exact z_is_statement a as Q h)⟩
  | succ n ih =>
    obtain ⟨G_fits, G_is_rows, G_is_statement⟩ := ih
    refine ⟨?_, ?_, ?_⟩
    · show FnOk P w K mg base CX0 (4 + n + 1) a.f_fits a.d_fits ["shape", "item", "blocks"] (toSp K (nf a) 3 (S_fits a (n + 1)))
      refine T.F_fits.ok sc_fits (fun vs H Q E h => h.1) (fun cdv A outer s H vs Q E hr h => ?_)
      have hN := sc_fits.nd
      have hu := hu_of hr
      have hu6 := hr.units
      refine body_ok (td := td_fits K a n) ?_ (by decide) (d_fits n) h
      exact (ds_cons (ds_if (dc_eqG hu6 (dv 0) de_str) (ds_one (ds_ret (de_call G_is_word (hr.mono (by omega)) rfl T.g_is_word T.k_is_word b_is_word .nil (fun _ => .nil) pass0 (dm_val (dv 1) dm_nil)))) ds_nil)
      (ds_cons (ds_if (dc_eqG hu6 (dv 0) de_str) (ds_one (ds_ret (de_call G_is_identifier (hr.mono (by omega)) rfl T.g_is_identifier T.k_is_identifier b_is_identifier .nil (fun _ => .nil) pass0 (dm_val (dv 1) dm_nil)))) ds_nil)
      (ds_cons (ds_if (dc_eqG hu6 (dv 0) de_str) (ds_one (ds_ret (de_call G_is_value (hr.mono (by omega)) rfl T.g_is_value T.k_is_value b_is_value .nil (fun _ => .nil) pass0 (dm_val (dv 1) dm_nil)))) ds_nil)
      (ds_cons (ds_if (dc_eqG hu6 (dv 0) de_str) (ds_one (ds_ret (de_call G_is_listing (hr.mono (by omega)) rfl T.g_is_listing T.k_is_listing b_is_listing .nil (fun _ => .nil) pass0 (dm_val (dv 1) dm_nil)))) ds_nil)
      (ds_one (ds_ret (de_call G_is_rows (hr.mono (by omega)) rfl T.g_is_rows T.k_is_rows b_is_rows .nil (fun _ => .nil) pass0 (dm_val (dv 1) (dm_val (dv 2) dm_nil)))))))))
    · show FnOk P w K mg base CX0 (4 + n + 1) a.f_is_rows a.d_is_rows ["rows", "blocks"] (toSp K (nf a) 2 (S_is_rows a (n + 1)))
      refine T.F_is_rows.ok sc_is_rows (fun vs H Q E h => h.1) (fun cdv A outer s H vs Q E hr h => ?_)
      have hN := sc_is_rows.nd
      have hu := hu_of hr
      have hu6 := hr.units
      refine body_ok (td := td_is_rows K a n) ?_ (by decide) (d_is_rows n) h
      exact (ds_cons (ds_if (dc_not (dc_val (de_cb call_isi cd_isi rfl T.z_isinstance (by decide +kernel) (da_cons (dv 0) (da_cons (de_bty rfl T.z_tuple (by decide +kernel)) da_nil))))) (ds_one (ds_ret de_bl)) ds_nil)
      (ds_cons (ds_if (DW.dc (dw_and (dc_gt (dv 1) (de_gint rfl T.g_MOST_BLOCKS)) (dw_and1 (dc_gt (de_cb call_lenG cd_lenG rfl T.z_len boot_len (da_cons (dv 0) da_nil)) de_int)))) (ds_one (ds_ret de_bl)) ds_nil)
      (ds_one (ds_ret (de_cb (cr_all rfl) cd_all rfl T.z_all (by decide +kernel) (da_cons (de_lc rfl hN (di_tup (dv 0)) (own := [("row", 2)]) (show BlkOk ["rows", "blocks", "row"] (defScope s_is_rows) _ _ from ⟨rfl, by decide +kernel, by decide +kernel, by decide +kernel, by decide +kernel⟩) (fun s H C cl fp => (dg_name (i := 2) hN rfl (by first | exact Or.inl rfl | exact Or.inr rfl))) (fun s H C cl fp => dts_nil) (fun s H C cl fp => (de_call G_is_statement (hr.mono (by omega)) rfl T.g_is_statement T.k_is_statement b_is_statement .nil (fun _ => .nil) pass0 (dm_val (dv 2) (dm_val (dv 1) dm_nil))))) da_nil))))))
    · show FnOk P w K mg base CX0 (4 + n + 1) a.f_is_statement a.d_is_statement ["statement", "blocks"] (toSp K (nf a) 2 (S_is_statement a (n + 1)))
      refine T.F_is_statement.ok sc_is_statement (fun vs H Q E h => h.1) (fun cdv A outer s H vs Q E hr h => ?_)
      have hN := sc_is_statement.nd
      have hu := hu_of hr
      have hu6 := hr.units
      refine body_ok (td := td_is_statement K a n) ?_ (by decide) (d_is_statement n) h
      exact (ds_cons (ds_if (DW.dc (dw_or (dc_not (dc_val (de_cb call_isi cd_isi rfl T.z_isinstance (by decide +kernel) (da_cons (dv 0) (da_cons (de_bty rfl T.z_tuple (by decide +kernel)) da_nil))))) (dw_or1 (dc_eqG hu6 (de_cb call_lenG cd_lenG rfl T.z_len boot_len (da_cons (dv 0) da_nil)) de_int)))) (ds_one (ds_ret de_bl)) ds_nil)
      (ds_cons (ds_if (DW.dc (dw_or (dc_not (dc_val (de_cb call_isi cd_isi rfl T.z_isinstance (by decide +kernel) (da_cons (de_ixG hu (dv 0) de_int) (da_cons (de_bty rfl T.z_str (by decide +kernel)) da_nil))))) (dw_or1 (dc_nkin T.kd_SHAPES rfl T.g_SHAPES (de_ixG hu (dv 0) de_int))))) (ds_one (ds_ret de_bl)) ds_nil)
      (ds_cons (ds_set (i := 2) hN rfl (by first | exact Or.inl rfl | exact Or.inr rfl) (de_kix T.kd_SHAPES rfl T.g_SHAPES (de_ixG hu (dv 0) de_int) (by exact fun _ _ => rfl)))
      (ds_cons (ds_if (dc_neG hu6 (de_cb call_lenG cd_lenG rfl T.z_len boot_len (da_cons (dv 0) da_nil)) (de_addG (de_cb call_lenG cd_lenG rfl T.z_len boot_len (da_cons (dv 2) da_nil)) de_int)) (ds_one (ds_ret de_bl)) ds_nil)
      (ds_one (ds_ret (de_cb (cr_all rfl) cd_all rfl T.z_all (by decide +kernel) (da_cons (de_lc rfl hN (di_zip rfl T.z_zip (da_cons (dv 2) (da_cons (de_slT (dv 0) (do_some de_int) do_none) da_nil))) (own := [("shape", 3), ("item", 4)]) (show BlkOk ["statement", "blocks", "shapes", "shape", "item"] (defScope s_is_statement) _ _ from ⟨rfl, by decide +kernel, by decide +kernel, by decide +kernel, by decide +kernel⟩) (fun s H C cl fp => (dg_tup rfl (dgs_cons (dg_name (i := 3) hN rfl (by first | exact Or.inl rfl | exact Or.inr rfl)) (dgs_cons (dg_name (i := 4) hN rfl (by first | exact Or.inl rfl | exact Or.inr rfl)) dgs_nil)))) (fun s H C cl fp => dts_nil) (fun s H C cl fp => (de_call G_fits (hr.mono (by omega)) rfl T.g_fits T.k_fits b_fits .nil (fun _ => .nil) pass0 (dm_val (dv 3) (dm_val (dv 4) (dm_val (de_addG (dv 1) de_int) dm_nil)))))) da_nil))))))))
theorem ok_is_rows (T : Txt w K mg a) (B : TxtB base mg a) : FnOk P w K mg base CX0 44 a.f_is_rows a.d_is_rows ["rows", "blocks"] (toSp K (nf a) 2 (S_is_rows a 40)) := (grp_fits T B 40).2.1
theorem ok_is_part (T : Txt w K mg a) (B : TxtB base mg a) : FnOk P w K mg base CX0 45 a.f_is_part a.d_is_part ["part"] (toSp K (nf a) 1 (S_is_part a)) := by
  have G_is_access : FnOk P w K mg base CX0 1 a.f_is_access a.d_is_access ["value"] (toSp K (nf a) 1 (S_is_access a)) := ok_is_access T B
  have G_is_identifier : FnOk P w K mg base CX0 2 a.f_is_identifier a.d_is_identifier ["value"] (toSp K (nf a) 1 (S_is_identifier a)) := ok_is_identifier T B
  have G_is_rows : FnOk P w K mg base CX0 44 a.f_is_rows a.d_is_rows ["rows", "blocks"] (toSp K (nf a) 2 (S_is_rows a 40)) := ok_is_rows T B
  have G_is_setting : FnOk P w K mg base CX0 1 a.f_is_setting a.d_is_setting ["value"] (toSp K (nf a) 1 (S_is_setting a)) := ok_is_setting T B
  have G_is_word : FnOk P w K mg base CX0 1 a.f_is_word a.d_is_word ["value"] (toSp K (nf a) 1 (S_is_word a)) := ok_is_word T B
  have b_is_access := T.b_is_access
  have b_is_identifier := T.b_is_identifier
  have b_is_rows := T.b_is_rows
  have b_is_setting := T.b_is_setting
  have b_is_word := T.b_is_word
  refine T.F_is_part.ok sc_is_part (fun vs H Q E h => h.1) (fun cdv A outer s H vs Q E hr h => ?_)
  have hN := sc_is_part.nd
  have hu := hu_of hr
  have hu6 := hr.units
  refine body_ok (td := td_is_part K a) ?_ (by decide) (d_is_part) h
  exact (ds_cons (ds_if (DW.dc (dw_or (dc_not (dc_val (de_cb call_isi cd_isi rfl T.z_isinstance (by decide +kernel) (da_cons (dv 0) (da_cons (de_bty rfl T.z_tuple (by decide +kernel)) da_nil))))) (dw_or1 (dc_not (dc_chain op_le op_le de_int (de_cb call_lenG cd_lenG rfl T.z_len boot_len (da_cons (dv 0) da_nil)) de_int))))) (ds_one (ds_ret de_bl)) ds_nil)
      (ds_cons (ds_if (DW.dc (dw_or (dc_not (dc_val (de_cb call_isi cd_isi rfl T.z_isinstance (by decide +kernel) (da_cons (de_ixG hu (dv 0) de_int) (da_cons (de_bty rfl T.z_str (by decide +kernel)) da_nil))))) (dw_or1 (dc_not (dc_val (de_call G_is_identifier (hr.mono (by decide)) rfl T.g_is_identifier T.k_is_identifier b_is_identifier .nil (fun _ => .nil) pass0 (dm_val (de_ixG hu (dv 0) de_int) dm_nil))))))) (ds_one (ds_ret de_bl)) ds_nil)
      (ds_cons (ds_if (dc_eqG hu6 (de_cb call_lenG cd_lenG rfl T.z_len boot_len (da_cons (dv 0) da_nil)) de_int) (ds_one (ds_ret (de_and (de_eqG hu6 (de_ixG hu (dv 0) de_int) de_str) (de_and (de_call G_is_access (hr.mono (by decide)) rfl T.g_is_access T.k_is_access b_is_access .nil (fun _ => .nil) pass0 (dm_val (de_ixG hu (dv 0) de_int) dm_nil)) (de_one (de_call G_is_rows (hr.mono (by decide)) rfl T.g_is_rows T.k_is_rows b_is_rows .nil (fun _ => .nil) pass0 (dm_val (de_ixG hu (dv 0) de_int) (dm_val de_int dm_nil)))))))) ds_nil)
      (ds_cons (ds_if (dc_eqG hu6 (de_ixG hu (dv 0) de_int) de_str) (ds_one (ds_ret (de_call G_is_word (hr.mono (by decide)) rfl T.g_is_word T.k_is_word b_is_word .nil (fun _ => .nil) pass0 (dm_val (de_ixG hu (dv 0) de_int) dm_nil)))) ds_nil)
      (ds_cons (ds_if (dc_eqG hu6 (de_ixG hu (dv 0) de_int) de_str) (ds_one (ds_ret (de_call G_is_setting (hr.mono (by decide)) rfl T.g_is_setting T.k_is_setting b_is_setting .nil (fun _ => .nil) pass0 (dm_val (de_ixG hu (dv 0) de_int) dm_nil)))) ds_nil)
      (ds_one (ds_ret (de_and (de_eqG hu6 (de_ixG hu (dv 0) de_int) de_str) (de_one (de_call G_is_access (hr.mono (by decide)) rfl T.g_is_access T.k_is_access b_is_access .nil (fun _ => .nil) pass0 (dm_val (de_ixG hu (dv 0) de_int) dm_nil)))))))))))
theorem ok_check_form (T : Txt w K mg a) (B : TxtB base mg a) : FnOk P w K mg base CX0 46 a.f_check_form a.d_check_form ["parts"] (toSp K (nf a) 1 (S_check_form a)) := by
  have G_is_part : FnOk P w K mg base CX0 45 a.f_is_part a.d_is_part ["part"] (toSp K (nf a) 1 (S_is_part a)) := ok_is_part T B
  have b_is_part := T.b_is_part
  refine T.F_check_form.ok sc_check_form (fun vs H Q E h => h.1) (fun cdv A outer s H vs Q E hr h => ?_)
  have hN := sc_check_form.nd
  have hu := hu_of hr
  have hu6 := hr.units
  refine body_ok (td := td_check_form K a) ?_ (by decide) (d_check_form) h
  exact (ds_cons (ds_if (dc_not (dc_val (de_cb call_isi cd_isi rfl T.z_isinstance (by decide +kernel) (da_cons (dv 0) (da_cons (de_bty rfl T.z_tuple (by decide +kernel)) da_nil))))) (ds_one ds_never) ds_nil)
      (ds_one (ds_for PassesOwn.never rfl (di_enum rfl T.z_enumerate (da_cons (dv 0) da_nil)) (dg_tup rfl (dgs_cons (dg_name (i := 1) hN rfl (by first | exact Or.inl rfl | exact Or.inr rfl)) (dgs_cons (dg_name (i := 2) hN rfl (by first | exact Or.inl rfl | exact Or.inr rfl)) dgs_nil))) (ds_one (ds_if (dc_not (dc_val (de_call G_is_part (hr.mono (by decide)) rfl T.g_is_part T.k_is_part b_is_part .nil (fun _ => .nil) pass0 (dm_val (dv 2) dm_nil)))) (ds_one ds_never) ds_nil)))))
theorem ok_declared_parts (T : Txt w K mg a) (B : TxtB base mg a) : FnOk P w K mg base CX0 16 a.f_declared_parts a.d_declared_parts ["parts", "lines"] (toSp K (nf a) 2 (S_declared_parts a)) := by
  have G_first_lines : FnOk P w K mg base CX0 15 a.f_first_lines a.d_first_lines ["parts"] (toSp K (nf a) 1 (S_first_lines a)) := ok_first_lines T B
  have b_first_lines := T.b_first_lines
  refine T.F_declared_parts.ok sc_declared_parts (fun vs H Q E h => h.1) (fun cdv A outer s H vs Q E hr h => ?_)
  have hN := sc_declared_parts.nd
  have hu := hu_of hr
  have hu6 := hr.units
  refine body_ok (td := td_declared_parts K a) ?_ (by decide) (d_declared_parts) h
  exact (ds_cons (ds_setD0 (i := 2) hN rfl (by first | exact Or.inl rfl | exact Or.inr rfl))
      (ds_cons (ds_for PassesOwn.never rfl (di_zip rfl T.z_zip (da_cons (dv 1) (da_cons (de_call G_first_lines (hr.mono (by decide)) rfl T.g_first_lines T.k_first_lines b_first_lines .nil (fun _ => .nil) pass0 (dm_val (dv 0) dm_nil)) da_nil))) (dg_tup rfl (dgs_cons (dg_name (i := 3) hN rfl (by first | exact Or.inl rfl | exact Or.inr rfl)) (dgs_cons (dg_tup rfl (dgs_cons (dg_name (i := 4) hN rfl (by first | exact Or.inl rfl | exact Or.inr rfl)) (dgs_cons (dg_name (i := 5) hN rfl (by first | exact Or.inl rfl | exact Or.inr rfl)) (dgs_cons (dg_name (i := 6) hN rfl (by first | exact Or.inl rfl | exact Or.inr rfl)) dgs_nil)))) dgs_nil))) (ds_one (ds_if (dc_inG hu (de_ixG hu (dv 6) de_int) (de_gany rfl T.g_PART_WORDS (T.r_PART_WORDS _))) (ds_cons (ds_if (dc_inDV hu (de_ixG hu (dv 6) de_int) (pv 2)) (ds_one ds_never) ds_nil)
      (ds_one (ds_dputV hu (pv 2) (de_ixG hu (dv 6) de_int) (de_tup (da_cons (de_ixG hu (dv 6) de_int) (da_cons (dv 5) da_nil)))))) ds_nil)))
      (ds_one (ds_ret (de_varFD (pv 2))))))
theorem ok_kind_of (T : Txt w K mg a) (B : TxtB base mg a) : FnOk P w K mg base CX0 1 a.f_kind_of a.d_kind_of ["ident", "declared"] (toSp K (nf a) 2 (S_kind_of a)) := by
  refine T.F_kind_of.ok sc_kind_of (fun vs H Q E h => h.1) (fun cdv A outer s H vs Q E hr h => ?_)
  have hN := sc_kind_of.nd
  have hu := hu_of hr
  have hu6 := hr.units
  refine body_ok (td := td_kind_of K a) ?_ (by decide) (d_kind_of) h
  exact (ds_cons (ds_if (dc_ninG hu (dv 0) (dv 1)) (ds_one (ds_ret de_non)) ds_nil)
      (ds_one (ds_ret (de_ixG hu (de_ixG hu (dv 1) (dv 0)) de_int))))
theorem ok_check_known (T : Txt w K mg a) (B : TxtB base mg a) : FnOk P w K mg base CX0 2 a.f_check_known a.d_check_known ["line", "statement", "declared"] (toSp K (nf a) 3 (S_check_known a)) := by
  have G_kind_of : FnOk P w K mg base CX0 1 a.f_kind_of a.d_kind_of ["ident", "declared"] (toSp K (nf a) 2 (S_kind_of a)) := ok_kind_of T B
  have b_kind_of := T.b_kind_of
  refine T.F_check_known.ok sc_check_known (fun vs H Q E h => h.1) (fun cdv A outer s H vs Q E hr h => ?_)
  have hN := sc_check_known.nd
  have hu := hu_of hr
  have hu6 := hr.units
  refine body_ok (td := td_check_known K a) ?_ (by decide) (d_check_known) h
  exact (ds_cons (ds_set (i := 3) hN rfl (by first | exact Or.inl rfl | exact Or.inr rfl) (de_ixG hu (dv 1) de_int))
      (ds_cons (ds_for PassesOwn.never rfl (di_tup (de_kix T.kd_WANTED rfl T.g_WANTED (dv 3) (by exact fun _ _ => rfl))) (dg_tup rfl (dgs_cons (dg_name (i := 4) hN rfl (by first | exact Or.inl rfl | exact Or.inr rfl)) (dgs_cons (dg_name (i := 5) hN rfl (by first | exact Or.inl rfl | exact Or.inr rfl)) dgs_nil))) (ds_one (ds_if (dc_ninG hu (de_call G_kind_of (hr.mono (by decide)) rfl T.g_kind_of T.k_kind_of b_kind_of .nil (fun _ => .nil) pass0 (dm_val (de_ixG hu (dv 1) (dv 4)) (dm_val (dv 2) dm_nil))) (dv 5)) (ds_one ds_never) ds_nil)))
      (ds_cons (ds_if (DW.dc (dw_and (dc_eqG hu6 (dv 3) de_str) (dw_and1 (dc_eqG hu6 (de_ixG hu (de_ixG hu (dv 1) de_int) de_int) de_str)))) (ds_one (ds_if (dc_neG hu6 (de_call G_kind_of (hr.mono (by decide)) rfl T.g_kind_of T.k_kind_of b_kind_of .nil (fun _ => .nil) pass0 (dm_val (de_ixG hu (de_ixG hu (dv 1) de_int) de_int) (dm_val (dv 2) dm_nil))) (de_call G_kind_of (hr.mono (by decide)) rfl T.g_kind_of T.k_kind_of b_kind_of .nil (fun _ => .nil) pass0 (dm_val (de_ixG hu (dv 1) de_int) (dm_val (dv 2) dm_nil)))) (ds_one ds_never) ds_nil)) ds_nil)
      (ds_one (ds_if (dc_inG hu (dv 3) (de_gany rfl T.g_KEEPINGS (T.r_KEEPINGS _))) (ds_one (ds_for PassesOwn.never rfl (di_tup (de_ixG hu (dv 1) (de_neg de_int))) (dg_name (i := 6) hN rfl (by first | exact Or.inl rfl | exact Or.inr rfl)) (ds_one (ds_if (dc_ninG hu (de_call G_kind_of (hr.mono (by decide)) rfl T.g_kind_of T.k_kind_of b_kind_of .nil (fun _ => .nil) pass0 (dm_val (dv 6) (dm_val (dv 2) dm_nil))) (de_gany rfl T.g_BOUND_WORDS (T.r_BOUND_WORDS _))) (ds_one ds_never) ds_nil)))) ds_nil)))))
theorem ok_check_listing (T : Txt w K mg a) (B : TxtB base mg a) : FnOk P w K mg base CX0 1 a.f_check_listing a.d_check_listing ["line", "statement"] (toSp K (nf a) 2 (S_check_listing a)) := by
  refine T.F_check_listing.ok sc_check_listing (fun vs H Q E h => h.1) (fun cdv A outer s H vs Q E hr h => ?_)
  have hN := sc_check_listing.nd
  have hu := hu_of hr
  have hu6 := hr.units
  refine body_ok (td := td_check_listing K a) ?_ (by decide) (d_check_listing) h
  exact (ds_one (ds_if (dc_inG hu (de_ixG hu (dv 1) de_int) (de_gany rfl T.g_KEEPINGS (T.r_KEEPINGS _))) (ds_one (ds_for PassesOwn.never rfl (di_enum rfl T.z_enumerate (da_cons (de_ixG hu (dv 1) (de_neg de_int)) da_nil)) (dg_tup rfl (dgs_cons (dg_name (i := 2) hN rfl (by first | exact Or.inl rfl | exact Or.inr rfl)) (dgs_cons (dg_name (i := 3) hN rfl (by first | exact Or.inl rfl | exact Or.inr rfl)) dgs_nil))) (ds_one (ds_if (dc_inG hu (dv 3) (de_slT (de_ixG hu (dv 1) (de_neg de_int)) do_none (do_some (dv 2)))) (ds_one ds_never) ds_nil)))) ds_nil))
theorem ok_check_order (T : Txt w K mg a) (B : TxtB base mg a) : FnOk P w K mg base CX0 1 a.f_check_order a.d_check_order ["line", "place", "statement", "declared"] (toSp K (nf a) 4 (S_check_order a)) := by
  refine T.F_check_order.ok sc_check_order (fun vs H Q E h => h.1) (fun cdv A outer s H vs Q E hr h => ?_)
  have hN := sc_check_order.nd
  have hu := hu_of hr
  have hu6 := hr.units
  refine body_ok (td := td_check_order K a) ?_ (by decide) (d_check_order) h
  exact (ds_cons (ds_set (i := 4) hN rfl (by first | exact Or.inl rfl | exact Or.inr rfl) (de_ixG hu (dv 2) de_int))
      (ds_cons (ds_if (dc_inG hu (dv 4) (de_tup (da_cons de_str (da_cons de_str da_nil)))) (ds_one (ds_par rfl hN rfl rfl (by decide) rfl rfl (da_cons (de_ixG hu (dv 2) de_int) (da_cons (dv 1) da_nil)))) (ds_one (ds_if (dc_eqG hu6 (dv 4) de_str) (ds_one (ds_par rfl hN rfl rfl (by decide) rfl rfl (da_cons (de_ixG hu (dv 2) de_int) (da_cons (de_ixG hu (de_ixG hu (dv 3) (de_ixG hu (dv 2) de_int)) de_int) da_nil)))) (ds_one (ds_if (dc_eqG hu6 (dv 4) de_str) (ds_one (ds_par rfl hN rfl rfl (by decide) rfl rfl (da_cons (de_ixG hu (dv 2) de_int) (da_cons (de_ixG hu (de_ixG hu (dv 3) (de_ixG hu (dv 2) de_int)) de_int) da_nil)))) (ds_one ds_retN))))))
      (ds_one (ds_if (dc_ge (de_ixG hu (de_ixG hu (dv 3) (dv 5)) de_int) (dv 6)) (ds_one ds_never) ds_nil))))
theorem ok_check_statement (T : Txt w K mg a) (B : TxtB base mg a) : FnOk P w K mg base CX0 3 a.f_check_statement a.d_check_statement ["line", "place", "statement", "declared"] (toSp K (nf a) 4 (S_check_statement a)) := by
  have G_check_known : FnOk P w K mg base CX0 2 a.f_check_known a.d_check_known ["line", "statement", "declared"] (toSp K (nf a) 3 (S_check_known a)) := ok_check_known T B
  have G_check_listing : FnOk P w K mg base CX0 1 a.f_check_listing a.d_check_listing ["line", "statement"] (toSp K (nf a) 2 (S_check_listing a)) := ok_check_listing T B
  have G_check_order : FnOk P w K mg base CX0 1 a.f_check_order a.d_check_order ["line", "place", "statement", "declared"] (toSp K (nf a) 4 (S_check_order a)) := ok_check_order T B
  have G_is_setting : FnOk P w K mg base CX0 1 a.f_is_setting a.d_is_setting ["value"] (toSp K (nf a) 1 (S_is_setting a)) := ok_is_setting T B
  have G_kind_of : FnOk P w K mg base CX0 1 a.f_kind_of a.d_kind_of ["ident", "declared"] (toSp K (nf a) 2 (S_kind_of a)) := ok_kind_of T B
  have b_check_known := T.b_check_known
  have b_check_listing := T.b_check_listing
  have b_check_order := T.b_check_order
  have b_is_setting := T.b_is_setting
  have b_kind_of := T.b_kind_of
  refine T.F_check_statement.ok sc_check_statement (fun vs H Q E h => h.1) (fun cdv A outer s H vs Q E hr h => ?_)
  have hN := sc_check_statement.nd
  have hu := hu_of hr
  have hu6 := hr.units
  refine body_ok (td := td_check_statement K a) ?_ (by decide) (d_check_statement) h
  exact (ds_cons (ds_expr (de_call G_check_known (hr.mono (by decide)) rfl T.g_check_known T.k_check_known b_check_known .nil (fun _ => .nil) pass0 (dm_val (dv 0) (dm_val (dv 2) (dm_val (dv 3) dm_nil)))))
      (ds_cons (ds_if (DW.dc (dw_and (dc_eqG hu6 (de_ixG hu (dv 2) de_int) de_str) (dw_and1 (dc_eqG hu6 (de_ixG hu (de_ixG hu (dv 2) de_int) de_int) de_str)))) (ds_one (ds_if (DW.dc (dw_and (dc_eqG hu6 (de_call G_kind_of (hr.mono (by decide)) rfl T.g_kind_of T.k_kind_of b_kind_of .nil (fun _ => .nil) pass0 (dm_val (de_ixG hu (dv 2) de_int) (dm_val (dv 3) dm_nil))) de_str) (dw_and1 (dc_not (dc_val (de_call G_is_setting (hr.mono (by decide)) rfl T.g_is_setting T.k_is_setting b_is_setting .nil (fun _ => .nil) pass0 (dm_val (de_ixG hu (de_ixG hu (dv 2) de_int) de_int) dm_nil))))))) (ds_one ds_never) ds_nil)) ds_nil)
      (ds_cons (ds_expr (de_call G_check_listing (hr.mono (by decide)) rfl T.g_check_listing T.k_check_listing b_check_listing .nil (fun _ => .nil) pass0 (dm_val (dv 0) (dm_val (dv 2) dm_nil))))
      (ds_one (ds_expr (de_call G_check_order (hr.mono (by decide)) rfl T.g_check_order T.k_check_order b_check_order .nil (fun _ => .nil) pass0 (dm_val (dv 0) (dm_val (dv 1) (dm_val (dv 2) (dm_val (dv 3) dm_nil))))))))))
theorem ok_with_ordered_lists (T : Txt w K mg a) (B : TxtB base mg a) : FnOk P w K mg base CX0 16 a.f_with_ordered_lists a.d_with_ordered_lists ["parts"] (toSpT K (nf a) 1 (S_with_ordered_lists a)) := by
  have G_changed : FnOk P w K mg base CX0 15 a.f_changed a.d_changed ["parts", "change"] (toSp K (nf a) 2 (S_changed a)) := ok_changed T B
  have b_changed := T.b_changed
  refine fun_okC T.F_with_ordered_lists sc_with_ordered_lists (fun vs H Q E h => h.2.1) (fun cdv A outer s H vs Q E hcd hr h => ?_)
  have hN := sc_with_ordered_lists.nd
  have hu := hu_of hr
  have hu6 := hr.units
  refine body_okT (td := td_with_ordered_lists K a (cellsFrom (s.heap.objs.size + 1) (defScope s_with_ordered_lists).names [])) (fun A' tb => ?_) (by decide) (d_with_ordered_lists _) h
  exact (ds_cons (ds_set (i := 1) hN rfl (by first | exact Or.inl rfl | exact Or.inr rfl) (de_lc rfl hN (di_tup (dv 0)) (own := [("part", 2)]) (show BlkOk ["parts", "order", "part", "ordered"] (defScope s_with_ordered_lists) _ _ from ⟨rfl, by decide +kernel, by decide +kernel, by decide +kernel, by decide +kernel⟩) (fun s H C cl fp => (dg_name (i := 2) hN rfl (by first | exact Or.inl rfl | exact Or.inr rfl))) (fun s H C cl fp => (dts_one (dc_inG hu (de_ixG hu (dv 2) de_int) (de_gany rfl T.g_BOUND_WORDS (T.r_BOUND_WORDS _))))) (fun s H C cl fp => (de_ixG hu (dv 2) de_int))))
      (ds_cons (ds_ndef (W := W_ordered) tb rfl rfl B.TB_with_ordered_lists (hcd.symm.trans T.code_with_ordered_lists) (by unfold nf; simp) rfl (NdefX.ndef_free (show NdefX.ndefB (defScope s_with_ordered_lists) (C8.fnScope s_ordered) W_ordered.fr = true from by decide +kernel)) rfl rfl rfl hN rfl (by first | exact Or.inl rfl | exact Or.inr rfl) (by first | exact Or.inl rfl | exact Or.inr rfl))
      (ds_one (ds_ret (de_callL2 (W := W_ordered) (js := [1]) (da_cons (dv 0) (da_cons (dv 3) da_nil)) rfl G_changed (fun ok => NdefX.Caps.made ok (NdefX.ndef_free (show NdefX.ndefB (defScope s_with_ordered_lists) W_ordered.scope W_ordered.fr = true from by decide +kernel)) (NdefX.ndef_fr (sc := defScope s_with_ordered_lists) (by decide +kernel)) rfl) (fun _ _ _ => rfl) (hr.mono (by decide)) rfl T.g_changed T.k_changed b_changed)))))
theorem ok_settled (T : Txt w K mg a) (B : TxtB base mg a) : FnOk P w K mg base CX0 17 a.f_settled a.d_settled ["parts", "lines"] (toSpT K (nf a) 2 (S_settled a)) := by
  have G_check_statement : FnOk P w K mg base CX0 3 a.f_check_statement a.d_check_statement ["line", "place", "statement", "declared"] (toSp K (nf a) 4 (S_check_statement a)) := ok_check_statement T B
  have G_declared_parts : FnOk P w K mg base CX0 16 a.f_declared_parts a.d_declared_parts ["parts", "lines"] (toSp K (nf a) 2 (S_declared_parts a)) := ok_declared_parts T B
  have G_first_lines : FnOk P w K mg base CX0 15 a.f_first_lines a.d_first_lines ["parts"] (toSp K (nf a) 1 (S_first_lines a)) := ok_first_lines T B
  have G_with_ordered_lists : FnOk P w K mg base CX0 16 a.f_with_ordered_lists a.d_with_ordered_lists ["parts"] (toSpT K (nf a) 1 (S_with_ordered_lists a)) := ok_with_ordered_lists T B
  have b_check_statement := T.b_check_statement
  have b_declared_parts := T.b_declared_parts
  have b_first_lines := T.b_first_lines
  have b_with_ordered_lists := T.b_with_ordered_lists
  refine T.F_settled.ok sc_settled (fun vs H Q E h => h.2.1) (fun cdv A outer s H vs Q E hr h => ?_)
  have hN := sc_settled.nd
  have hu := hu_of hr
  have hu6 := hr.units
  refine body_okT (td := td_settled K a) (fun A' tb => ?_) (by decide) (d_settled) h
  exact (ds_cons (ds_set (i := 2) hN rfl (by first | exact Or.inl rfl | exact Or.inr rfl) (de_call G_declared_parts (hr.mono (by decide)) rfl T.g_declared_parts T.k_declared_parts b_declared_parts .nil (fun _ => .nil) pass0 (dm_val (dv 0) (dm_val (dv 1) dm_nil))))
      (ds_cons (ds_for PassesOwn.never rfl (di_zip rfl T.z_zip (da_cons (dv 1) (da_cons (de_call G_first_lines (hr.mono (by decide)) rfl T.g_first_lines T.k_first_lines b_first_lines .nil (fun _ => .nil) pass0 (dm_val (dv 0) dm_nil)) da_nil))) (dg_tup rfl (dgs_cons (dg_name (i := 3) hN rfl (by first | exact Or.inl rfl | exact Or.inr rfl)) (dgs_cons (dg_tup rfl (dgs_cons (dg_name (i := 4) hN rfl (by first | exact Or.inl rfl | exact Or.inr rfl)) (dgs_cons (dg_name (i := 5) hN rfl (by first | exact Or.inl rfl | exact Or.inr rfl)) (dgs_cons (dg_name (i := 6) hN rfl (by first | exact Or.inl rfl | exact Or.inr rfl)) dgs_nil)))) dgs_nil))) (ds_one (ds_if (dc_ninG hu (de_ixG hu (dv 6) de_int) (de_gany rfl T.g_PART_WORDS (T.r_PART_WORDS _))) (ds_one (ds_expr (de_call G_check_statement (hr.mono (by decide)) rfl T.g_check_statement T.k_check_statement b_check_statement .nil (fun _ => .nil) pass0 (dm_val (dv 3) (dm_val (dv 5) (dm_val (dv 6) (dm_val (dv 2) dm_nil))))))) ds_nil)))
      (ds_one (ds_ret (de_callTb tb G_with_ordered_lists (hr.mono (by decide)) rfl T.g_with_ordered_lists T.k_with_ordered_lists b_with_ordered_lists .nil (fun _ => .nil) pass0 (dm_val (dv 0) dm_nil))))))
theorem ok_check (T : Txt w K mg a) (B : TxtB base mg a) : FnOk P w K mg base CX0 47 a.f_check a.d_check ["parts"] (toSpT K (nf a) 1 (S_check a)) := by
  have G_check_form : FnOk P w K mg base CX0 46 a.f_check_form a.d_check_form ["parts"] (toSp K (nf a) 1 (S_check_form a)) := ok_check_form T B
  have G_first_lines : FnOk P w K mg base CX0 15 a.f_first_lines a.d_first_lines ["parts"] (toSp K (nf a) 1 (S_first_lines a)) := ok_first_lines T B
  have G_settled : FnOk P w K mg base CX0 17 a.f_settled a.d_settled ["parts", "lines"] (toSpT K (nf a) 2 (S_settled a)) := ok_settled T B
  have b_check_form := T.b_check_form
  have b_first_lines := T.b_first_lines
  have b_settled := T.b_settled
  refine T.F_check.ok sc_check (fun vs H Q E h => h.2.1) (fun cdv A outer s H vs Q E hr h => ?_)
  have hN := sc_check.nd
  have hu := hu_of hr
  have hu6 := hr.units
  refine body_okT (td := td_check K a) (fun A' tb => ?_) (by decide) (d_check) h
  exact (ds_cons (ds_expr (de_call G_check_form (hr.mono (by decide)) rfl T.g_check_form T.k_check_form b_check_form .nil (fun _ => .nil) pass0 (dm_val (dv 0) dm_nil)))
      (ds_one (ds_ret (de_callTb tb G_settled (hr.mono (by decide)) rfl T.g_settled T.k_settled b_settled .nil (fun _ => .nil) pass0 (dm_val (dv 0) (dm_val (de_lc rfl hN (di_list (de_call G_first_lines (hr.mono (by decide)) rfl T.g_first_lines T.k_first_lines b_first_lines .nil (fun _ => .nil) pass0 (dm_val (dv 0) dm_nil))) (own := [("row", 1)]) (show BlkOk ["parts", "row"] (defScope s_check) _ _ from ⟨rfl, by decide +kernel, by decide +kernel, by decide +kernel, by decide +kernel⟩) (fun s H C cl fp => (dg_name (i := 1) hN rfl (by first | exact Or.inl rfl | exact Or.inr rfl))) (fun s H C cl fp => dts_nil) (fun s H C cl fp => (de_ixG hu (dv 1) de_int))) dm_nil))))))
theorem ok_keepings (T : Txt w K mg a) (B : TxtB base mg a) : FnOk P w K mg base CX0 17 a.f_keepings a.d_keepings ["parts"] (toSpT K (nf a) 1 (S_keepings a)) := by
  have G_statements : FnOk P w K mg base CX0 16 a.f_statements a.d_statements ["parts"] (toSp K (nf a) 1 (S_statements a)) := ok_statements T B
  have G_with_ordered_lists : FnOk P w K mg base CX0 16 a.f_with_ordered_lists a.d_with_ordered_lists ["parts"] (toSpT K (nf a) 1 (S_with_ordered_lists a)) := ok_with_ordered_lists T B
  have b_statements := T.b_statements
  have b_with_ordered_lists := T.b_with_ordered_lists
  refine T.F_keepings.ok sc_keepings (fun vs H Q E h => h.2.1) (fun cdv A outer s H vs Q E hr h => ?_)
  have hN := sc_keepings.nd
  have hu := hu_of hr
  have hu6 := hr.units
  refine body_okT (td := td_keepings K a) (fun A' tb => ?_) (by decide) (d_keepings) h
  exact (ds_cons (ds_setL (i := 1) hN rfl (by first | exact Or.inl rfl | exact Or.inr rfl) da_nil)
      (ds_cons (ds_for PassesOwn.never rfl (di_list (de_call G_statements (hr.mono (by decide)) rfl T.g_statements T.k_statements b_statements .nil (fun _ => .nil) pass0 (dm_val (de_callTb tb G_with_ordered_lists (hr.mono (by decide)) rfl T.g_with_ordered_lists T.k_with_ordered_lists b_with_ordered_lists .nil (fun _ => .nil) pass0 (dm_val (dv 0) dm_nil)) dm_nil))) (dg_tup rfl (dgs_cons (dg_name (i := 2) hN rfl (by first | exact Or.inl rfl | exact Or.inr rfl)) (dgs_cons (dg_name (i := 3) hN rfl (by first | exact Or.inl rfl | exact Or.inr rfl)) (dgs_cons (dg_name (i := 4) hN rfl (by first | exact Or.inl rfl | exact Or.inr rfl)) dgs_nil)))) (ds_one (ds_if (dc_inG hu (de_ixG hu (dv 4) de_int) (de_gany rfl T.g_KEEPINGS (T.r_KEEPINGS _))) (ds_cons (ds_set (i := 5) hN rfl (by first | exact Or.inl rfl | exact Or.inr rfl) (de_if (dc_eqG hu6 (de_ixG hu (dv 4) de_int) de_str) (de_ixG hu (dv 4) de_int) (de_ixG hu (dv 4) de_int)))
      (ds_one (ds_app (pv 1) (de_tup (da_cons (dv 2) (da_cons (de_ixG hu (dv 4) de_int) (da_cons (dv 5) (da_cons (de_ixG hu (dv 4) (de_neg de_int)) da_nil)))))))) ds_nil)))
      (ds_one (ds_ret (de_ct call_tuple_of cd_tuple rfl T.z_tuple (by decide +kernel) (da_cons (de_varF (pv 1)) da_nil))))))
theorem ok_law_tape (T : Txt w K mg a) (B : TxtB base mg a) : FnOk P w K mg base CX0 1 a.f_law_tape a.d_law_tape ["_law_script", "_law_k"] (toSpO K (nf a) 2 (S_law_tape K a)) := by
  refine T.F_law_tape.ok sc_law_tape (fun vs H Q E h => h.1) (fun cdv A outer s H vs Q E hr h => ?_)
  have hN := sc_law_tape.nd
  have hu := hu_of hr
  have hu6 := hr.units
  refine body_okO (td := td_law_tape K a) ?_ (by decide) (d_law_tape) h
  exact (ds_cons (ds_set (i := 2) hN rfl (by first | exact Or.inl rfl | exact Or.inr rfl) de_int)
      (ds_cons (ds_if (dc_lt (dv 1) (de_cb call_len_seq cd_lenR rfl T.z_len boot_len (da_cons (dv 0) da_nil))) (ds_one (ds_set (i := 2) hN rfl (by first | exact Or.inl rfl | exact Or.inr rfl) (de_ct call_int1 cd_int rfl T.z_int (by decide +kernel) (da_cons (de_ixR (dv 0) (dv 1)) da_nil)))) ds_nil)
      (ds_one (ds_retL (da_cons (dv 2) (da_cons de_int (da_cons (de_ct call_int1 cd_int rfl T.z_int (by decide +kernel) (da_cons (de_chain op_le op_lt de_int (dv 2) (de_pow de_int de_int)) da_nil)) (da_cons (dv 1) da_nil))))))))
theorem ok_law_draw (T : Txt w K mg a) (B : TxtB base mg a) : FnOk P w K mg base CX0 1 a.f_law_draw a.d_law_draw ["_law_tape_here", "_law_many"] (toSp K (nf a) 2 (S_law_draw K a)) := by
  refine T.F_law_draw.ok sc_law_draw (fun vs H Q E h => h.1) (fun cdv A outer s H vs Q E hr h => ?_)
  have hN := sc_law_draw.nd
  have hu := hu_of hr
  have hu6 := hr.units
  refine body_ok (td := td_law_draw K a) ?_ (by decide) (d_law_draw) h
  exact (ds_cons (ds_laug (pv 0) de_int)
      (ds_cons (ds_if (dc_eqG hu6 (de_ixV (pv 0) de_int) de_int) (ds_cons (ds_set (i := 2) hN rfl (by first | exact Or.inl rfl | exact Or.inr rfl) (de_mod (de_ct call_int1 cd_int rfl T.z_int (by decide +kernel) (da_cons (de_ixV (pv 0) de_int) da_nil)) (dv 1)))
      (ds_cons (ds_lput (pv 0) de_int (de_div (de_ct call_int1 cd_int rfl T.z_int (by decide +kernel) (da_cons (de_ixV (pv 0) de_int) da_nil)) (dv 1)))
      (ds_one (ds_ret (dv 2))))) ds_nil)
      (ds_cons (ds_set (i := 3) hN rfl (by first | exact Or.inl rfl | exact Or.inr rfl) (de_ixG hu (de_lst (da_cons de_int (da_cons de_int (da_cons de_int (da_cons de_int (da_cons de_int da_nil)))))) (de_mod (de_ct call_int1 cd_int rfl T.z_int (by decide +kernel) (da_cons (de_ixV (pv 0) de_int) da_nil)) de_int)))
      (ds_cons (ds_set (i := 4) hN rfl (by first | exact Or.inl rfl | exact Or.inr rfl) (de_addG (de_ixV (pv 0) de_int) (de_mul (de_ixV (pv 0) de_int) de_int)))
      (ds_cons (ds_set (i := 5) hN rfl (by first | exact Or.inl rfl | exact Or.inr rfl) (de_mod (de_ct call_int1 cd_int rfl T.z_int (by decide +kernel) (da_cons (de_pow (de_addG (de_addG (dv 4) (de_mul (de_ixV (pv 0) de_int) de_int)) de_int) de_int) da_nil)) (dv 3)))
      (ds_one (ds_ret (de_mod (de_ct call_int1 cd_int rfl T.z_int (by decide +kernel) (da_cons (de_div (dv 5) de_int) da_nil)) (dv 1)))))))))
theorem ok_law_kept (T : Txt w K mg a) (B : TxtB base mg a) : FnOk P w K mg base CX0 1 a.f_law_kept a.d_law_kept [] (toSp K (nf a) 0 (S_law_kept a)) := by
  refine T.F_law_kept.ok sc_law_kept (fun vs H Q E h => h.1) (fun cdv A outer s H vs Q E hr h => ?_)
  have hN := sc_law_kept.nd
  have hu := hu_of hr
  have hu6 := hr.units
  refine body_ok (td := td_law_kept K a) ?_ (by decide) (d_law_kept) h
  exact (ds_cons (ds_set (i := 0) hN rfl (by first | exact Or.inl rfl | exact Or.inr rfl) de_str)
      (ds_one (ds_ret (de_split (de_addG (dv 0) de_str) de_str))))
theorem ok_law_signs (T : Txt w K mg a) (B : TxtB base mg a) : FnOk P w K mg base CX0 1 a.f_law_signs a.d_law_signs [] (toSp K (nf a) 0 (S_law_signs a)) := by
  refine T.F_law_signs.ok sc_law_signs (fun vs H Q E h => h.1) (fun cdv A outer s H vs Q E hr h => ?_)
  have hN := sc_law_signs.nd
  have hu := hu_of hr
  have hu6 := hr.units
  refine body_ok (td := td_law_signs K a) ?_ (by decide) (d_law_signs) h
  exact (ds_one (ds_ret de_str))
theorem ok_law_spelled (T : Txt w K mg a) (B : TxtB base mg a) : FnOk P w K mg base CX0 2 a.f_law_spelled a.d_law_spelled ["_law_tape_here", "_law_used"] (toSp K (nf a) 2 (S_law_spelled K a)) := by
  have G_law_draw : FnOk P w K mg base CX0 1 a.f_law_draw a.d_law_draw ["_law_tape_here", "_law_many"] (toSp K (nf a) 2 (S_law_draw K a)) := ok_law_draw T B
  have G_law_kept : FnOk P w K mg base CX0 1 a.f_law_kept a.d_law_kept [] (toSp K (nf a) 0 (S_law_kept a)) := ok_law_kept T B
  have G_law_signs : FnOk P w K mg base CX0 1 a.f_law_signs a.d_law_signs [] (toSp K (nf a) 0 (S_law_signs a)) := ok_law_signs T B
  have b_law_draw := T.b_law_draw
  have b_law_kept := T.b_law_kept
  have b_law_signs := T.b_law_signs
  refine T.F_law_spelled.ok sc_law_spelled (fun vs H Q E h => h.1) (fun cdv A outer s H vs Q E hr h => ?_)
  have hN := sc_law_spelled.nd
  have hu := hu_of hr
  have hu6 := hr.units
  refine body_ok (td := td_law_spelled K a) ?_ (by decide) (d_law_spelled) h
  exact (ds_cons (ds_set (i := 2) hN rfl (by first | exact Or.inl rfl | exact Or.inr rfl) (de_call G_law_draw (hr.mono (by decide)) rfl T.g_law_draw T.k_law_draw b_law_draw .nil (fun _ => .nil) pass0 (dm_slot (pv 0) (dm_val de_int dm_nil))))
      (ds_cons (ds_set (i := 3) hN rfl (by first | exact Or.inl rfl | exact Or.inr rfl) (de_addG de_int (de_call G_law_draw (hr.mono (by decide)) rfl T.g_law_draw T.k_law_draw b_law_draw .nil (fun _ => .nil) pass0 (dm_slot (pv 0) (dm_val de_int dm_nil)))))
      (ds_cons (ds_if (dc_eqG hu6 (dv 2) de_int) (ds_one (ds_set (i := 3) hN rfl (by first | exact Or.inl rfl | exact Or.inr rfl) de_int)) ds_nil)
      (ds_cons (ds_if (dc_eqG hu6 (dv 2) de_int) (ds_one (ds_ret (de_addG (de_ixG hu (de_call0 G_law_kept (hr.mono (by decide)) rfl T.g_law_kept T.k_law_kept b_law_kept .nil (fun _ => .nil) pass0) (de_call G_law_draw (hr.mono (by decide)) rfl T.g_law_draw T.k_law_draw b_law_draw .nil (fun _ => .nil) pass0 (dm_slot (pv 0) (dm_val de_int dm_nil)))) (de_ixG hu (de_call0 G_law_signs (hr.mono (by decide)) rfl T.g_law_signs T.k_law_signs b_law_signs .nil (fun _ => .nil) pass0) (de_call G_law_draw (hr.mono (by decide)) rfl T.g_law_draw T.k_law_draw b_law_draw .nil (fun _ => .nil) pass0 (dm_slot (pv 0) (dm_val de_int dm_nil))))))) ds_nil)
      (ds_cons (ds_if (DW.dc (dw_and (dc_eqG hu6 (dv 2) de_int) (dw_and1 (dc_neG hu6 (dv 1) (de_lst da_nil))))) (ds_cons (ds_set (i := 4) hN rfl (by first | exact Or.inl rfl | exact Or.inr rfl) (de_ixG hu (dv 1) (de_call G_law_draw (hr.mono (by decide)) rfl T.g_law_draw T.k_law_draw b_law_draw .nil (fun _ => .nil) pass0 (dm_slot (pv 0) (dm_val (de_cb call_lenG cd_lenG rfl T.z_len boot_len (da_cons (dv 1) da_nil)) dm_nil)))))
      (ds_cons (ds_set (i := 5) hN rfl (by first | exact Or.inl rfl | exact Or.inr rfl) (de_call G_law_draw (hr.mono (by decide)) rfl T.g_law_draw T.k_law_draw b_law_draw .nil (fun _ => .nil) pass0 (dm_slot (pv 0) (dm_val (de_cb call_lenG cd_lenG rfl T.z_len boot_len (da_cons (dv 4) da_nil)) dm_nil))))
      (ds_one (ds_ret (de_addG (de_addG (de_slS (dv 4) do_none (do_some (dv 5))) (de_ixG hu (de_call0 G_law_signs (hr.mono (by decide)) rfl T.g_law_signs T.k_law_signs b_law_signs .nil (fun _ => .nil) pass0) (de_call G_law_draw (hr.mono (by decide)) rfl T.g_law_draw T.k_law_draw b_law_draw .nil (fun _ => .nil) pass0 (dm_slot (pv 0) (dm_val de_int dm_nil))))) (de_slS (dv 4) (do_some (de_addG (dv 5) de_int)) do_none)))))) ds_nil)
      (ds_cons (ds_set (i := 4) hN rfl (by first | exact Or.inl rfl | exact Or.inr rfl) (de_ixG hu (de_call0 G_law_signs (hr.mono (by decide)) rfl T.g_law_signs T.k_law_signs b_law_signs .nil (fun _ => .nil) pass0) (de_call G_law_draw (hr.mono (by decide)) rfl T.g_law_draw T.k_law_draw b_law_draw .nil (fun _ => .nil) pass0 (dm_slot (pv 0) (dm_val de_int dm_nil)))))
      (ds_cons (ds_for PassesOwn.never rfl (di_range1 rfl T.z_range (da_cons (de_sub (dv 3) de_int) da_nil)) (dg_name (i := 5) hN rfl (by first | exact Or.inl rfl | exact Or.inr rfl)) (ds_one (ds_set (i := 4) hN rfl (by first | exact Or.inl rfl | exact Or.inr rfl) (de_addG (dv 4) (de_ixG hu (de_call0 G_law_signs (hr.mono (by decide)) rfl T.g_law_signs T.k_law_signs b_law_signs .nil (fun _ => .nil) pass0) (de_call G_law_draw (hr.mono (by decide)) rfl T.g_law_draw T.k_law_draw b_law_draw .nil (fun _ => .nil) pass0 (dm_slot (pv 0) (dm_val de_int dm_nil))))))))
      (ds_one (ds_ret (dv 4))))))))))
theorem ok_law_ident (T : Txt w K mg a) (B : TxtB base mg a) : FnOk P w K mg base CX0 3 a.f_law_ident a.d_law_ident ["_law_tape_here", "_law_used"] (toSp K (nf a) 2 (S_law_ident K a)) := by
  have G_law_kept : FnOk P w K mg base CX0 1 a.f_law_kept a.d_law_kept [] (toSp K (nf a) 0 (S_law_kept a)) := ok_law_kept T B
  have G_law_spelled : FnOk P w K mg base CX0 2 a.f_law_spelled a.d_law_spelled ["_law_tape_here", "_law_used"] (toSp K (nf a) 2 (S_law_spelled K a)) := ok_law_spelled T B
  have b_law_kept := T.b_law_kept
  have b_law_spelled := T.b_law_spelled
  refine T.F_law_ident.ok sc_law_ident (fun vs H Q E h => h.1) (fun cdv A outer s H vs Q E hr h => ?_)
  have hN := sc_law_ident.nd
  have hu := hu_of hr
  have hu6 := hr.units
  refine body_ok (td := td_law_ident K a) ?_ (by decide) (d_law_ident) h
  exact (ds_cons (ds_set (i := 2) hN rfl (by first | exact Or.inl rfl | exact Or.inr rfl) (de_call G_law_spelled (hr.mono (by decide)) rfl T.g_law_spelled T.k_law_spelled b_law_spelled .nil (fun _ => .nil) pass0 (dm_slot (pv 0) (dm_val (dv 1) dm_nil))))
      (ds_cons (ds_if (DW.dc (dw_and (dc_ninG hu (dv 2) (dv 1)) (dw_and1 (dc_ninG hu (dv 2) (de_call0 G_law_kept (hr.mono (by decide)) rfl T.g_law_kept T.k_law_kept b_law_kept .nil (fun _ => .nil) pass0))))) (ds_one (ds_ret (dv 2))) ds_nil)
      (ds_cons (ds_for PassesOwn.never rfl (di_range1 rfl T.z_range (da_cons (de_addG (de_cb call_lenG cd_lenG rfl T.z_len boot_len (da_cons (dv 1) da_nil)) de_int) da_nil)) (dg_name (i := 3) hN rfl (by first | exact Or.inl rfl | exact Or.inr rfl)) (ds_one (ds_if (dc_ninG hu (de_addG (de_slS (dv 2) do_none (do_some de_int)) (de_ct call_str_int cd_strI rfl T.z_str (by decide +kernel) (da_cons (dv 3) da_nil))) (dv 1)) (ds_one (ds_ret (de_addG (de_slS (dv 2) do_none (do_some de_int)) (de_ct call_str_int cd_strI rfl T.z_str (by decide +kernel) (da_cons (dv 3) da_nil))))) ds_nil)))
      (ds_one (ds_ret (dv 2))))))
theorem ok_law_word (T : Txt w K mg a) (B : TxtB base mg a) : FnOk P w K mg base CX0 2 a.f_law_word a.d_law_word ["_law_tape_here"] (toSp K (nf a) 1 (S_law_word K a)) := by
  have G_law_draw : FnOk P w K mg base CX0 1 a.f_law_draw a.d_law_draw ["_law_tape_here", "_law_many"] (toSp K (nf a) 2 (S_law_draw K a)) := ok_law_draw T B
  have G_law_kept : FnOk P w K mg base CX0 1 a.f_law_kept a.d_law_kept [] (toSp K (nf a) 0 (S_law_kept a)) := ok_law_kept T B
  have G_law_signs : FnOk P w K mg base CX0 1 a.f_law_signs a.d_law_signs [] (toSp K (nf a) 0 (S_law_signs a)) := ok_law_signs T B
  have b_law_draw := T.b_law_draw
  have b_law_kept := T.b_law_kept
  have b_law_signs := T.b_law_signs
  refine T.F_law_word.ok sc_law_word (fun vs H Q E h => h.1) (fun cdv A outer s H vs Q E hr h => ?_)
  have hN := sc_law_word.nd
  have hu := hu_of hr
  have hu6 := hr.units
  refine body_ok (td := td_law_word K a) ?_ (by decide) (d_law_word) h
  exact (ds_cons (ds_if (dc_eqG hu6 (de_call G_law_draw (hr.mono (by decide)) rfl T.g_law_draw T.k_law_draw b_law_draw .nil (fun _ => .nil) pass0 (dm_slot (pv 0) (dm_val de_int dm_nil))) de_int) (ds_one (ds_ret (de_ixG hu (de_call0 G_law_kept (hr.mono (by decide)) rfl T.g_law_kept T.k_law_kept b_law_kept .nil (fun _ => .nil) pass0) (de_call G_law_draw (hr.mono (by decide)) rfl T.g_law_draw T.k_law_draw b_law_draw .nil (fun _ => .nil) pass0 (dm_slot (pv 0) (dm_val de_int dm_nil)))))) ds_nil)
      (ds_cons (ds_set (i := 1) hN rfl (by first | exact Or.inl rfl | exact Or.inr rfl) (de_addG de_int (de_call G_law_draw (hr.mono (by decide)) rfl T.g_law_draw T.k_law_draw b_law_draw .nil (fun _ => .nil) pass0 (dm_slot (pv 0) (dm_val de_int dm_nil)))))
      (ds_cons (ds_set (i := 2) hN rfl (by first | exact Or.inl rfl | exact Or.inr rfl) de_str)
      (ds_cons (ds_for PassesOwn.never rfl (di_range1 rfl T.z_range (da_cons (dv 1) da_nil)) (dg_name (i := 3) hN rfl (by first | exact Or.inl rfl | exact Or.inr rfl)) (ds_one (ds_set (i := 2) hN rfl (by first | exact Or.inl rfl | exact Or.inr rfl) (de_addG (dv 2) (de_ixG hu (de_call0 G_law_signs (hr.mono (by decide)) rfl T.g_law_signs T.k_law_signs b_law_signs .nil (fun _ => .nil) pass0) (de_call G_law_draw (hr.mono (by decide)) rfl T.g_law_draw T.k_law_draw b_law_draw .nil (fun _ => .nil) pass0 (dm_slot (pv 0) (dm_val de_int dm_nil))))))))
      (ds_one (ds_ret (dv 2)))))))
theorem ok_law_heads (T : Txt w K mg a) (B : TxtB base mg a) : FnOk P w K mg base CX0 4 a.f_law_heads a.d_law_heads ["_law_script", "_law_most"] (toSp K (nf a) 2 (S_law_heads a)) := by
  have G_law_draw : FnOk P w K mg base CX0 1 a.f_law_draw a.d_law_draw ["_law_tape_here", "_law_many"] (toSp K (nf a) 2 (S_law_draw K a)) := ok_law_draw T B
  have G_law_ident : FnOk P w K mg base CX0 3 a.f_law_ident a.d_law_ident ["_law_tape_here", "_law_used"] (toSp K (nf a) 2 (S_law_ident K a)) := ok_law_ident T B
  have G_law_tape : FnOk P w K mg base CX0 1 a.f_law_tape a.d_law_tape ["_law_script", "_law_k"] (toSpO K (nf a) 2 (S_law_tape K a)) := ok_law_tape T B
  have b_law_draw := T.b_law_draw
  have b_law_ident := T.b_law_ident
  have b_law_tape := T.b_law_tape
  refine T.F_law_heads.ok sc_law_heads (fun vs H Q E h => h.1) (fun cdv A outer s H vs Q E hr h => ?_)
  have hN := sc_law_heads.nd
  have hu := hu_of hr
  have hu6 := hr.units
  refine body_ok (td := td_law_heads K a) ?_ (by decide) (d_law_heads) h
  exact (ds_cons (ds_callO (i := 2) hN rfl (by first | exact Or.inl rfl | exact Or.inr rfl) G_law_tape (hr.mono (by decide)) rfl T.g_law_tape T.k_law_tape b_law_tape .nil (fun _ => .nil) pass0 (dm_val (dv 0) (dm_val de_int dm_nil)))
      (ds_cons (ds_setL (i := 3) hN rfl (by first | exact Or.inl rfl | exact Or.inr rfl) (da_cons de_str da_nil))
      (ds_cons (ds_for PassesOwn.never rfl (di_range1 rfl T.z_range (da_cons (de_call G_law_draw (hr.mono (by decide)) rfl T.g_law_draw T.k_law_draw b_law_draw .nil (fun _ => .nil) pass0 (dm_slot (pv 2) (dm_val (dv 1) dm_nil))) da_nil)) (dg_name (i := 4) hN rfl (by first | exact Or.inl rfl | exact Or.inr rfl)) (ds_one (ds_ins (pv 3) (da_cons (de_call G_law_draw (hr.mono (by decide)) rfl T.g_law_draw T.k_law_draw b_law_draw .nil (fun _ => .nil) pass0 (dm_slot (pv 2) (dm_val (de_addG (de_lenV rfl T.z_len (pv 3)) de_int) dm_nil))) (da_cons (de_ixG hu (de_lst (da_cons de_str (da_cons de_str da_nil))) (de_call G_law_draw (hr.mono (by decide)) rfl T.g_law_draw T.k_law_draw b_law_draw .nil (fun _ => .nil) pass0 (dm_slot (pv 2) (dm_val de_int dm_nil)))) da_nil)))))
      (ds_cons (ds_ins (pv 3) (da_cons (de_call G_law_draw (hr.mono (by decide)) rfl T.g_law_draw T.k_law_draw b_law_draw .nil (fun _ => .nil) pass0 (dm_slot (pv 2) (dm_val (de_addG (de_lenV rfl T.z_len (pv 3)) de_int) dm_nil))) (da_cons de_str da_nil)))
      (ds_cons (ds_for PassesOwn.never rfl (di_range1 rfl T.z_range (da_cons (de_call G_law_draw (hr.mono (by decide)) rfl T.g_law_draw T.k_law_draw b_law_draw .nil (fun _ => .nil) pass0 (dm_slot (pv 2) (dm_val de_int dm_nil))) da_nil)) (dg_name (i := 4) hN rfl (by first | exact Or.inl rfl | exact Or.inr rfl)) (ds_one (ds_ins (pv 3) (da_cons (de_call G_law_draw (hr.mono (by decide)) rfl T.g_law_draw T.k_law_draw b_law_draw .nil (fun _ => .nil) pass0 (dm_slot (pv 2) (dm_val (de_addG (de_lenV rfl T.z_len (pv 3)) de_int) dm_nil))) (da_cons (de_ixG hu (de_lst (da_cons de_str (da_cons de_str da_nil))) (de_call G_law_draw (hr.mono (by decide)) rfl T.g_law_draw T.k_law_draw b_law_draw .nil (fun _ => .nil) pass0 (dm_slot (pv 2) (dm_val de_int dm_nil)))) da_nil)))))
      (ds_cons (ds_setL (i := 5) hN rfl (by first | exact Or.inl rfl | exact Or.inr rfl) da_nil)
      (ds_cons (ds_for PassesOwn.never rfl (di_list (de_varF (pv 3))) (dg_name (i := 6) hN rfl (by first | exact Or.inl rfl | exact Or.inr rfl)) (ds_one (ds_app (pv 5) (de_tup (da_cons (dv 6) (da_cons (de_call G_law_ident (hr.mono (by decide)) rfl T.g_law_ident T.k_law_ident b_law_ident .nil (fun _ => .nil) pass0 (dm_slot (pv 2) (dm_val (de_lcV rfl hN (pv 5) (own := [("_law_head", 7)]) (show BlkOk ["_law_script", "_law_most", "_law_tape_here", "_law_kinds", "_law_step", "_law_heads_here", "_law_kind", "_law_head"] (defScope s_law_heads) _ _ from ⟨rfl, by decide +kernel, by decide +kernel, by decide +kernel, by decide +kernel⟩) (fun s H C cl fp => (dg_name (i := 7) hN rfl (by first | exact Or.inl rfl | exact Or.inr rfl))) (fun s H C cl fp => dts_nil) (fun s H C cl fp => (de_ixG hu (dv 7) de_int))) dm_nil))) da_nil))))))
      (ds_one (ds_ret (de_varF (pv 5)))))))))))
theorem ok_law_idents (T : Txt w K mg a) (B : TxtB base mg a) : FnOk P w K mg base CX0 1 a.f_law_idents a.d_law_idents ["_law_heads_here", "_law_kinds"] (toSp K (nf a) 2 (S_law_idents a)) := by
  refine T.F_law_idents.ok sc_law_idents (fun vs H Q E h => h.1) (fun cdv A outer s H vs Q E hr h => ?_)
  have hN := sc_law_idents.nd
  have hu := hu_of hr
  have hu6 := hr.units
  refine body_ok (td := td_law_idents K a) ?_ (by decide) (d_law_idents) h
  exact (ds_one (ds_ret (de_lc rfl hN (di_list (dv 0)) (own := [("_law_head", 2)]) (show BlkOk ["_law_heads_here", "_law_kinds", "_law_head"] (defScope s_law_idents) _ _ from ⟨rfl, by decide +kernel, by decide +kernel, by decide +kernel, by decide +kernel⟩) (fun s H C cl fp => (dg_name (i := 2) hN rfl (by first | exact Or.inl rfl | exact Or.inr rfl))) (fun s H C cl fp => (dts_one (dc_inG hu (de_ixG hu (dv 2) de_int) (dv 1)))) (fun s H C cl fp => (de_ixG hu (dv 2) de_int)))))
theorem ok_law_pick (T : Txt w K mg a) (B : TxtB base mg a) : FnOk P w K mg base CX0 2 a.f_law_pick a.d_law_pick ["_law_tape_here", "_law_pool"] (toSp K (nf a) 2 (S_law_pick K a)) := by
  have G_law_draw : FnOk P w K mg base CX0 1 a.f_law_draw a.d_law_draw ["_law_tape_here", "_law_many"] (toSp K (nf a) 2 (S_law_draw K a)) := ok_law_draw T B
  have b_law_draw := T.b_law_draw
  refine T.F_law_pick.ok sc_law_pick (fun vs H Q E h => h.1) (fun cdv A outer s H vs Q E hr h => ?_)
  have hN := sc_law_pick.nd
  have hu := hu_of hr
  have hu6 := hr.units
  refine body_ok (td := td_law_pick K a) ?_ (by decide) (d_law_pick) h
  exact (ds_one (ds_ret (de_ixG hu (dv 1) (de_call G_law_draw (hr.mono (by decide)) rfl T.g_law_draw T.k_law_draw b_law_draw .nil (fun _ => .nil) pass0 (dm_slot (pv 0) (dm_val (de_cb call_lenG cd_lenG rfl T.z_len boot_len (da_cons (dv 1) da_nil)) dm_nil))))))
theorem ok_law_captured (T : Txt w K mg a) (B : TxtB base mg a) : FnOk P w K mg base CX0 2 a.f_law_captured a.d_law_captured ["_law_tape_here", "_law_heads_here"] (toSp K (nf a) 2 (S_law_captured K a)) := by
  have G_law_draw : FnOk P w K mg base CX0 1 a.f_law_draw a.d_law_draw ["_law_tape_here", "_law_many"] (toSp K (nf a) 2 (S_law_draw K a)) := ok_law_draw T B
  have G_law_idents : FnOk P w K mg base CX0 1 a.f_law_idents a.d_law_idents ["_law_heads_here", "_law_kinds"] (toSp K (nf a) 2 (S_law_idents a)) := ok_law_idents T B
  have b_law_draw := T.b_law_draw
  have b_law_idents := T.b_law_idents
  refine T.F_law_captured.ok sc_law_captured (fun vs H Q E h => h.1) (fun cdv A outer s H vs Q E hr h => ?_)
  have hN := sc_law_captured.nd
  have hu := hu_of hr
  have hu6 := hr.units
  refine body_ok (td := td_law_captured K a) ?_ (by decide) (d_law_captured) h
  exact (ds_cons (ds_set (i := 2) hN rfl (by first | exact Or.inl rfl | exact Or.inr rfl) (de_call G_law_idents (hr.mono (by decide)) rfl T.g_law_idents T.k_law_idents b_law_idents .nil (fun _ => .nil) pass0 (dm_val (dv 1) (dm_val (de_tup (da_cons de_str (da_cons de_str da_nil))) dm_nil))))
      (ds_cons (ds_setLc (i := 3) rfl hN rfl rfl rfl (di_list (dv 2)) (own := [("_law_ident_here", 4)]) (show BlkOk ["_law_tape_here", "_law_heads_here", "_law_bound", "_law_chosen", "_law_ident_here"] (defScope s_law_captured) _ _ from ⟨rfl, by decide +kernel, by decide +kernel, by decide +kernel, by decide +kernel⟩) (fun s H C cl fp => (dg_name (i := 4) hN rfl (by first | exact Or.inl rfl | exact Or.inr rfl))) (fun s H C cl fp => (dts_one (dc_eqG hu6 (de_call G_law_draw (hr.mono (by decide)) rfl T.g_law_draw T.k_law_draw b_law_draw .nil (fun _ => .nil) pass0 (dm_slot (pv 0) (dm_val de_int dm_nil))) de_int))) (fun s H C cl fp => (dv 4)))
      (ds_cons (ds_if (dc_eqG hu6 (de_call G_law_draw (hr.mono (by decide)) rfl T.g_law_draw T.k_law_draw b_law_draw .nil (fun _ => .nil) pass0 (dm_slot (pv 0) (dm_val de_int dm_nil))) de_int) (ds_one (ds_ret (de_tupRev rfl rfl T.z_tuple rfl T.z_reversed (de_ctF call_list_of cd_list rfl T.z_list (by decide +kernel) (da_cons (dv 3) da_nil))))) ds_nil)
      (ds_one (ds_ret (de_ct call_tuple_of cd_tuple rfl T.z_tuple (by decide +kernel) (da_cons (dv 3) da_nil)))))))
theorem ok_law_pairs_above (T : Txt w K mg a) (B : TxtB base mg a) : FnOk P w K mg base CX0 1 a.f_law_pairs_above a.d_law_pairs_above ["_law_heads_here", "_law_first", "_law_second"] (toSp K (nf a) 3 (S_law_pairs_above a)) := by
  refine T.F_law_pairs_above.ok sc_law_pairs_above (fun vs H Q E h => h.1) (fun cdv A outer s H vs Q E hr h => ?_)
  have hN := sc_law_pairs_above.nd
  have hu := hu_of hr
  have hu6 := hr.units
  refine body_ok (td := td_law_pairs_above K a) ?_ (by decide) (d_law_pairs_above) h
  exact (ds_cons (ds_setL (i := 3) hN rfl (by first | exact Or.inl rfl | exact Or.inr rfl) da_nil)
      (ds_cons (ds_for PassesOwn.never rfl (di_range1 rfl T.z_range (da_cons (de_cb call_lenG cd_lenG rfl T.z_len boot_len (da_cons (dv 0) da_nil)) da_nil)) (dg_name (i := 4) hN rfl (by first | exact Or.inl rfl | exact Or.inr rfl)) (ds_cons (ds_setLc (i := 5) rfl hN rfl rfl rfl (di_list (de_slL (dv 0) do_none (do_some (dv 4)))) (own := [("_law_head", 6)]) (show BlkOk ["_law_heads_here", "_law_first", "_law_second", "_law_found", "_law_low", "_law_above", "_law_head", "_law_ident_here"] (defScope s_law_pairs_above) _ _ from ⟨rfl, by decide +kernel, by decide +kernel, by decide +kernel, by decide +kernel⟩) (fun s H C cl fp => (dg_name (i := 6) hN rfl (by first | exact Or.inl rfl | exact Or.inr rfl))) (fun s H C cl fp => (dts_one (dc_eqG hu6 (de_ixG hu (dv 6) de_int) (dv 1)))) (fun s H C cl fp => (de_ixG hu (dv 6) de_int)))
      (ds_one (ds_if (dc_eqG hu6 (de_ixG hu (de_ixG hu (dv 0) (dv 4)) de_int) (dv 2)) (ds_one (ds_ext (pv 3) (de_lc rfl hN (di_list (dv 5)) (own := [("_law_ident_here", 7)]) (show BlkOk ["_law_heads_here", "_law_first", "_law_second", "_law_found", "_law_low", "_law_above", "_law_head", "_law_ident_here"] (defScope s_law_pairs_above) _ _ from ⟨rfl, by decide +kernel, by decide +kernel, by decide +kernel, by decide +kernel⟩) (fun s H C cl fp => (dg_name (i := 7) hN rfl (by first | exact Or.inl rfl | exact Or.inr rfl))) (fun s H C cl fp => dts_nil) (fun s H C cl fp => (de_tup (da_cons (de_ixG hu (de_ixG hu (dv 0) (dv 4)) de_int) (da_cons (dv 7) da_nil))))))) ds_nil))))
      (ds_one (ds_ret (de_varF (pv 3))))))
theorem ok_law_slot_statement (T : Txt w K mg a) (B : TxtB base mg a) : FnOk P w K mg base CX0 3 a.f_law_slot_statement a.d_law_slot_statement ["_law_tape_here", "_law_heads_here", "_law_above", "_law_kind"] (toSp K (nf a) 4 (S_law_slot_statement K a)) := by
  have G_law_captured : FnOk P w K mg base CX0 2 a.f_law_captured a.d_law_captured ["_law_tape_here", "_law_heads_here"] (toSp K (nf a) 2 (S_law_captured K a)) := ok_law_captured T B
  have G_law_idents : FnOk P w K mg base CX0 1 a.f_law_idents a.d_law_idents ["_law_heads_here", "_law_kinds"] (toSp K (nf a) 2 (S_law_idents a)) := ok_law_idents T B
  have G_law_pairs_above : FnOk P w K mg base CX0 1 a.f_law_pairs_above a.d_law_pairs_above ["_law_heads_here", "_law_first", "_law_second"] (toSp K (nf a) 3 (S_law_pairs_above a)) := ok_law_pairs_above T B
  have G_law_pick : FnOk P w K mg base CX0 2 a.f_law_pick a.d_law_pick ["_law_tape_here", "_law_pool"] (toSp K (nf a) 2 (S_law_pick K a)) := ok_law_pick T B
  have b_law_captured := T.b_law_captured
  have b_law_idents := T.b_law_idents
  have b_law_pairs_above := T.b_law_pairs_above
  have b_law_pick := T.b_law_pick
  refine T.F_law_slot_statement.ok sc_law_slot_statement (fun vs H Q E h => h.1) (fun cdv A outer s H vs Q E hr h => ?_)
  have hN := sc_law_slot_statement.nd
  have hu := hu_of hr
  have hu6 := hr.units
  refine body_ok (td := td_law_slot_statement K a) ?_ (by decide) (d_law_slot_statement) h
  exact (ds_cons (ds_set (i := 4) hN rfl (by first | exact Or.inl rfl | exact Or.inr rfl) (de_call G_law_idents (hr.mono (by decide)) rfl T.g_law_idents T.k_law_idents b_law_idents .nil (fun _ => .nil) pass0 (dm_val (dv 1) (dm_val (de_tup (da_cons de_str da_nil)) dm_nil))))
      (ds_cons (ds_set (i := 5) hN rfl (by first | exact Or.inl rfl | exact Or.inr rfl) (de_call G_law_pairs_above (hr.mono (by decide)) rfl T.g_law_pairs_above T.k_law_pairs_above b_law_pairs_above .nil (fun _ => .nil) pass0 (dm_val (dv 1) (dm_val de_str (dm_val de_str dm_nil)))))
      (ds_cons (ds_set (i := 6) hN rfl (by first | exact Or.inl rfl | exact Or.inr rfl) (de_call G_law_pairs_above (hr.mono (by decide)) rfl T.g_law_pairs_above T.k_law_pairs_above b_law_pairs_above .nil (fun _ => .nil) pass0 (dm_val (dv 1) (dm_val de_str (dm_val de_str dm_nil)))))
      (ds_cons (ds_if (DW.dc (dw_and (dc_eqG hu6 (dv 3) de_str) (dw_and1 (dc_neG hu6 (dv 5) (de_lst da_nil))))) (ds_cons (ds_set (i := 7) hN rfl (by first | exact Or.inl rfl | exact Or.inr rfl) (de_call G_law_pick (hr.mono (by decide)) rfl T.g_law_pick T.k_law_pick b_law_pick .nil (fun _ => .nil) pass0 (dm_slot (pv 0) (dm_val (dv 5) dm_nil))))
      (ds_one (ds_ret (de_tup (da_cons de_str (da_cons (de_ixG hu (dv 7) de_int) (da_cons (de_ixG hu (dv 7) de_int) (da_cons (de_call G_law_captured (hr.mono (by decide)) rfl T.g_law_captured T.k_law_captured b_law_captured .nil (fun _ => .nil) pass0 (dm_slot (pv 0) (dm_val (dv 1) dm_nil))) da_nil)))))))) ds_nil)
      (ds_cons (ds_if (DW.dc (dw_and (dc_eqG hu6 (dv 3) de_str) (dw_and1 (dc_neG hu6 (dv 6) (de_lst da_nil))))) (ds_cons (ds_set (i := 7) hN rfl (by first | exact Or.inl rfl | exact Or.inr rfl) (de_call G_law_pick (hr.mono (by decide)) rfl T.g_law_pick T.k_law_pick b_law_pick .nil (fun _ => .nil) pass0 (dm_slot (pv 0) (dm_val (dv 6) dm_nil))))
      (ds_one (ds_ret (de_tup (da_cons de_str (da_cons (de_ixG hu (dv 7) de_int) (da_cons (de_ixG hu (dv 7) de_int) (da_cons (de_call G_law_captured (hr.mono (by decide)) rfl T.g_law_captured T.k_law_captured b_law_captured .nil (fun _ => .nil) pass0 (dm_slot (pv 0) (dm_val (dv 1) dm_nil))) da_nil)))))))) ds_nil)
      (ds_cons (ds_if (DW.dc (dw_and (dc_eqG hu6 (dv 3) de_str) (dw_and1 (dc_neG hu6 (dv 4) (de_lst da_nil))))) (ds_one (ds_ret (de_tup (da_cons de_str (da_cons (de_call G_law_pick (hr.mono (by decide)) rfl T.g_law_pick T.k_law_pick b_law_pick .nil (fun _ => .nil) pass0 (dm_slot (pv 0) (dm_val (dv 4) dm_nil))) (da_cons (de_call G_law_captured (hr.mono (by decide)) rfl T.g_law_captured T.k_law_captured b_law_captured .nil (fun _ => .nil) pass0 (dm_slot (pv 0) (dm_val (dv 1) dm_nil))) da_nil)))))) ds_nil)
      (ds_cons (ds_if (DW.dc (dw_and (dc_eqG hu6 (dv 3) de_str) (dw_and1 (dc_neG hu6 (dv 4) (de_lst da_nil))))) (ds_one (ds_ret (de_tup (da_cons de_str (da_cons (de_call G_law_pick (hr.mono (by decide)) rfl T.g_law_pick T.k_law_pick b_law_pick .nil (fun _ => .nil) pass0 (dm_slot (pv 0) (dm_val (dv 4) dm_nil))) da_nil))))) ds_nil)
      (ds_cons (ds_if (DW.dc (dw_and (dc_eqG hu6 (dv 3) de_str) (dw_and1 (dc_neG hu6 (de_call G_law_idents (hr.mono (by decide)) rfl T.g_law_idents T.k_law_idents b_law_idents .nil (fun _ => .nil) pass0 (dm_val (dv 2) (dm_val (de_tup (da_cons de_str da_nil)) dm_nil))) (de_lst da_nil))))) (ds_one (ds_ret (de_tup (da_cons de_str (da_cons (de_call G_law_pick (hr.mono (by decide)) rfl T.g_law_pick T.k_law_pick b_law_pick .nil (fun _ => .nil) pass0 (dm_slot (pv 0) (dm_val (de_call G_law_idents (hr.mono (by decide)) rfl T.g_law_idents T.k_law_idents b_law_idents .nil (fun _ => .nil) pass0 (dm_val (dv 2) (dm_val (de_tup (da_cons de_str da_nil)) dm_nil))) dm_nil))) da_nil))))) ds_nil)
      (ds_cons (ds_if (DW.dc (dw_and (dc_eqG hu6 (dv 3) de_str) (dw_and1 (dc_neG hu6 (de_call G_law_idents (hr.mono (by decide)) rfl T.g_law_idents T.k_law_idents b_law_idents .nil (fun _ => .nil) pass0 (dm_val (dv 2) (dm_val (de_tup (da_cons de_str da_nil)) dm_nil))) (de_lst da_nil))))) (ds_one (ds_ret (de_tup (da_cons de_str (da_cons (de_call G_law_pick (hr.mono (by decide)) rfl T.g_law_pick T.k_law_pick b_law_pick .nil (fun _ => .nil) pass0 (dm_slot (pv 0) (dm_val (de_call G_law_idents (hr.mono (by decide)) rfl T.g_law_idents T.k_law_idents b_law_idents .nil (fun _ => .nil) pass0 (dm_val (dv 2) (dm_val (de_tup (da_cons de_str da_nil)) dm_nil))) dm_nil))) da_nil))))) ds_nil)
      (ds_one (ds_ret (de_tup (da_cons de_str da_nil)))))))))))))
theorem ok_law_bind (T : Txt w K mg a) (B : TxtB base mg a) : FnOk P w K mg base CX0 3 a.f_law_bind a.d_law_bind ["_law_tape_here", "_law_heads_here", "_law_rows_here"] (toSp K (nf a) 3 (S_law_bind K a)) := by
  have G_law_draw : FnOk P w K mg base CX0 1 a.f_law_draw a.d_law_draw ["_law_tape_here", "_law_many"] (toSp K (nf a) 2 (S_law_draw K a)) := ok_law_draw T B
  have G_law_idents : FnOk P w K mg base CX0 1 a.f_law_idents a.d_law_idents ["_law_heads_here", "_law_kinds"] (toSp K (nf a) 2 (S_law_idents a)) := ok_law_idents T B
  have G_law_pick : FnOk P w K mg base CX0 2 a.f_law_pick a.d_law_pick ["_law_tape_here", "_law_pool"] (toSp K (nf a) 2 (S_law_pick K a)) := ok_law_pick T B
  have G_law_word : FnOk P w K mg base CX0 2 a.f_law_word a.d_law_word ["_law_tape_here"] (toSp K (nf a) 1 (S_law_word K a)) := ok_law_word T B
  have b_law_draw := T.b_law_draw
  have b_law_idents := T.b_law_idents
  have b_law_pick := T.b_law_pick
  have b_law_word := T.b_law_word
  refine T.F_law_bind.ok sc_law_bind (fun vs H Q E h => h.1) (fun cdv A outer s H vs Q E hr h => ?_)
  have hN := sc_law_bind.nd
  have hu := hu_of hr
  have hu6 := hr.units
  refine body_ok (td := td_law_bind K a) ?_ (by decide) (d_law_bind) h
  exact (ds_cons (ds_set (i := 3) hN rfl (by first | exact Or.inl rfl | exact Or.inr rfl) (de_call G_law_pick (hr.mono (by decide)) rfl T.g_law_pick T.k_law_pick b_law_pick .nil (fun _ => .nil) pass0 (dm_slot (pv 0) (dm_val (de_call G_law_idents (hr.mono (by decide)) rfl T.g_law_idents T.k_law_idents b_law_idents .nil (fun _ => .nil) pass0 (dm_val (dv 1) (dm_val (de_tup (da_cons de_str (da_cons de_str da_nil))) dm_nil))) dm_nil))))
      (ds_cons (ds_set (i := 4) hN rfl (by first | exact Or.inl rfl | exact Or.inr rfl) (de_ixG hu (de_lc rfl hN (di_list (dv 1)) (own := [("_law_head", 5)]) (show BlkOk ["_law_tape_here", "_law_heads_here", "_law_rows_here", "_law_ident_here", "_law_own", "_law_head", "_law_word_here"] (defScope s_law_bind) _ _ from ⟨rfl, by decide +kernel, by decide +kernel, by decide +kernel, by decide +kernel⟩) (fun s H C cl fp => (dg_name (i := 5) hN rfl (by first | exact Or.inl rfl | exact Or.inr rfl))) (fun s H C cl fp => (dts_one (dc_eqG hu6 (de_ixG hu (dv 5) de_int) (dv 3)))) (fun s H C cl fp => (de_ixG hu (dv 5) de_int))) de_int))
      (ds_cons (ds_if (dc_eqG hu6 (de_call G_law_draw (hr.mono (by decide)) rfl T.g_law_draw T.k_law_draw b_law_draw .nil (fun _ => .nil) pass0 (dm_slot (pv 0) (dm_val de_int dm_nil))) de_int) (ds_one (ds_ret (de_tup (da_cons de_str (da_cons (dv 3) (da_cons (de_tup (da_cons de_str (da_cons (de_call G_law_pick (hr.mono (by decide)) rfl T.g_law_pick T.k_law_pick b_law_pick .nil (fun _ => .nil) pass0 (dm_slot (pv 0) (dm_val (de_call G_law_idents (hr.mono (by decide)) rfl T.g_law_idents T.k_law_idents b_law_idents .nil (fun _ => .nil) pass0 (dm_val (dv 1) (dm_val (de_tup (da_cons (dv 4) da_nil)) dm_nil))) dm_nil))) da_nil))) (da_cons (dv 2) da_nil))))))) ds_nil)
      (ds_cons (ds_set (i := 6) hN rfl (by first | exact Or.inl rfl | exact Or.inr rfl) (de_ixG hu (de_lst (da_cons de_str (da_cons de_str da_nil))) (de_call G_law_draw (hr.mono (by decide)) rfl T.g_law_draw T.k_law_draw b_law_draw .nil (fun _ => .nil) pass0 (dm_slot (pv 0) (dm_val de_int dm_nil)))))
      (ds_cons (ds_if (dc_eqG hu6 (dv 4) de_str) (ds_one (ds_set (i := 6) hN rfl (by first | exact Or.inl rfl | exact Or.inr rfl) (de_call G_law_word (hr.mono (by decide)) rfl T.g_law_word T.k_law_word b_law_word .nil (fun _ => .nil) pass0 (dm_slot (pv 0) dm_nil)))) ds_nil)
      (ds_one (ds_ret (de_tup (da_cons de_str (da_cons (dv 3) (da_cons (de_tup (da_cons de_str (da_cons (dv 6) da_nil))) (da_cons (dv 2) da_nil))))))))))))
theorem grp_law_block (T : Txt w K mg a) (B : TxtB base mg a) : ∀ n : Nat, (FnOk P w K mg base CX0 (4 + n) a.f_law_block a.d_law_block ["_law_tape_here", "_law_heads_here", "_law_above", "_law_kind", "_law_level"] (toSp K (nf a) 5 (S_law_block K a n))) ∧ (FnOk P w K mg base CX0 (4 + n) a.f_law_statement a.d_law_statement ["_law_tape_here", "_law_heads_here", "_law_above", "_law_level"] (toSp K (nf a) 4 (S_law_statement K a n))) ∧ (FnOk P w K mg base CX0 (4 + n) a.f_law_rows a.d_law_rows ["_law_tape_here", "_law_heads_here", "_law_above", "_law_level"] (toSp K (nf a) 4 (S_law_rows K a n))) := by
  have G_law_bind : FnOk P w K mg base CX0 3 a.f_law_bind a.d_law_bind ["_law_tape_here", "_law_heads_here", "_law_rows_here"] (toSp K (nf a) 3 (S_law_bind K a)) := ok_law_bind T B
  have G_law_draw : FnOk P w K mg base CX0 1 a.f_law_draw a.d_law_draw ["_law_tape_here", "_law_many"] (toSp K (nf a) 2 (S_law_draw K a)) := ok_law_draw T B
  have G_law_idents : FnOk P w K mg base CX0 1 a.f_law_idents a.d_law_idents ["_law_heads_here", "_law_kinds"] (toSp K (nf a) 2 (S_law_idents a)) := ok_law_idents T B
  have G_law_pick : FnOk P w K mg base CX0 2 a.f_law_pick a.d_law_pick ["_law_tape_here", "_law_pool"] (toSp K (nf a) 2 (S_law_pick K a)) := ok_law_pick T B
  have G_law_slot_statement : FnOk P w K mg base CX0 3 a.f_law_slot_statement a.d_law_slot_statement ["_law_tape_here", "_law_heads_here", "_law_above", "_law_kind"] (toSp K (nf a) 4 (S_law_slot_statement K a)) := ok_law_slot_statement T B
  have G_law_word : FnOk P w K mg base CX0 2 a.f_law_word a.d_law_word ["_law_tape_here"] (toSp K (nf a) 1 (S_law_word K a)) := ok_law_word T B
  have b_law_bind := T.b_law_bind
  have b_law_block := T.b_law_block
  have b_law_draw := T.b_law_draw
  have b_law_idents := T.b_law_idents
  have b_law_pick := T.b_law_pick
  have b_law_rows := T.b_law_rows
  have b_law_slot_statement := T.b_law_slot_statement
  have b_law_statement := T.b_law_statement
  have b_law_word := T.b_law_word
  intro n
  induction n with
  | zero => exact ⟨fnOk_no (fun as Q h => by first | exact z_law_block K a as Q h | exact z_law_block a as Q h), fnOk_no (fun as Q h => by first | exact z_law_statement K a as Q h | exact z_law_statement a as Q h), fnOk_no (fun as Q h => by first | exact z_law_rows K a as Q h | exact z_law_rows a as Q h)⟩
  | succ n ih =>
    obtain ⟨G_law_block, G_law_statement, G_law_rows⟩ := ih
    refine ⟨?_, ?_, ?_⟩
    · show FnOk P w K mg base CX0 (4 + n + 1) a.f_law_block a.d_law_block ["_law_tape_here", "_law_heads_here", "_law_above", "_law_kind", "_law_level"] (toSp K (nf a) 5 (S_law_block K a (n + 1)))
      refine T.F_law_block.ok sc_law_block (fun vs H Q E h => h.1) (fun cdv A outer s H vs Q E hr h => ?_)
      have hN := sc_law_block.nd
      have hu := hu_of hr
      have hu6 := hr.units
      refine body_ok (td := td_law_block K a n) ?_ (by decide) (d_law_block n) h
      exact (ds_cons (ds_set (i := 5) hN rfl (by first | exact Or.inl rfl | exact Or.inr rfl) (de_call G_law_rows (hr.mono (by omega)) rfl T.g_law_rows T.k_law_rows b_law_rows .nil (fun _ => .nil) pass0 (dm_slot (pv 0) (dm_val (dv 1) (dm_val (dv 2) (dm_val (de_addG (dv 4) de_int) dm_nil))))))
      (ds_cons (ds_if (dc_eqG hu6 (dv 3) de_str) (ds_one (ds_ret (de_call G_law_bind (hr.mono (by omega)) rfl T.g_law_bind T.k_law_bind b_law_bind .nil (fun _ => .nil) pass0 (dm_slot (pv 0) (dm_val (dv 1) (dm_val (dv 5) dm_nil)))))) ds_nil)
      (ds_cons (ds_if (dc_eqG hu6 (dv 3) de_str) (ds_one (ds_ret (de_tup (da_cons de_str (da_cons (dv 5) (da_cons (de_call G_law_rows (hr.mono (by omega)) rfl T.g_law_rows T.k_law_rows b_law_rows .nil (fun _ => .nil) pass0 (dm_slot (pv 0) (dm_val (dv 1) (dm_val (dv 2) (dm_val (de_addG (dv 4) de_int) dm_nil))))) da_nil)))))) ds_nil)
      (ds_cons (ds_if (DW.dc (dw_and (dc_eqG hu6 (dv 3) de_str) (dw_and1 (dc_neG hu6 (de_call G_law_idents (hr.mono (by omega)) rfl T.g_law_idents T.k_law_idents b_law_idents .nil (fun _ => .nil) pass0 (dm_val (dv 1) (dm_val (de_tup (da_cons de_str da_nil)) dm_nil))) (de_lst da_nil))))) (ds_cons (ds_set (i := 6) hN rfl (by first | exact Or.inl rfl | exact Or.inr rfl) (de_call G_law_pick (hr.mono (by omega)) rfl T.g_law_pick T.k_law_pick b_law_pick .nil (fun _ => .nil) pass0 (dm_slot (pv 0) (dm_val (de_call G_law_idents (hr.mono (by omega)) rfl T.g_law_idents T.k_law_idents b_law_idents .nil (fun _ => .nil) pass0 (dm_val (dv 1) (dm_val (de_tup (da_cons de_str da_nil)) dm_nil))) dm_nil))))
      (ds_one (ds_ret (de_tup (da_cons de_str (da_cons (dv 6) (da_cons (dv 5) (da_cons (de_call G_law_rows (hr.mono (by omega)) rfl T.g_law_rows T.k_law_rows b_law_rows .nil (fun _ => .nil) pass0 (dm_slot (pv 0) (dm_val (dv 1) (dm_val (dv 2) (dm_val (de_addG (dv 4) de_int) dm_nil))))) da_nil)))))))) ds_nil)
      (ds_cons (ds_if (DW.dc (dw_and (dc_eqG hu6 (dv 3) de_str) (dw_and1 (dc_neG hu6 (de_call G_law_idents (hr.mono (by omega)) rfl T.g_law_idents T.k_law_idents b_law_idents .nil (fun _ => .nil) pass0 (dm_val (dv 1) (dm_val (de_tup (da_cons de_str da_nil)) dm_nil))) (de_lst da_nil))))) (ds_cons (ds_set (i := 7) hN rfl (by first | exact Or.inl rfl | exact Or.inr rfl) (de_call G_law_pick (hr.mono (by omega)) rfl T.g_law_pick T.k_law_pick b_law_pick .nil (fun _ => .nil) pass0 (dm_slot (pv 0) (dm_val (de_call G_law_idents (hr.mono (by omega)) rfl T.g_law_idents T.k_law_idents b_law_idents .nil (fun _ => .nil) pass0 (dm_val (dv 1) (dm_val (de_tup (da_cons de_str da_nil)) dm_nil))) dm_nil))))
      (ds_one (ds_ret (de_tup (da_cons de_str (da_cons (dv 7) (da_cons (dv 5) (da_cons (de_call G_law_rows (hr.mono (by omega)) rfl T.g_law_rows T.k_law_rows b_law_rows .nil (fun _ => .nil) pass0 (dm_slot (pv 0) (dm_val (dv 1) (dm_val (dv 2) (dm_val (de_addG (dv 4) de_int) dm_nil))))) da_nil)))))))) ds_nil)
      (ds_one (ds_ret (de_tup (da_cons de_str (da_cons (dv 5) da_nil))))))))))
    · show FnOk P w K mg base CX0 (4 + n + 1) a.f_law_statement a.d_law_statement ["_law_tape_here", "_law_heads_here", "_law_above", "_law_level"] (toSp K (nf a) 4 (S_law_statement K a (n + 1)))
      refine T.F_law_statement.ok sc_law_statement (fun vs H Q E h => h.1) (fun cdv A outer s H vs Q E hr h => ?_)
      have hN := sc_law_statement.nd
      have hu := hu_of hr
      have hu6 := hr.units
      refine body_ok (td := td_law_statement K a n) ?_ (by decide) (d_law_statement n) h
      exact (ds_cons (ds_set (i := 4) hN rfl (by first | exact Or.inl rfl | exact Or.inr rfl) (de_lst (da_cons de_str (da_cons de_str (da_cons de_str (da_cons de_str (da_cons de_str (da_cons de_str (da_cons de_str (da_cons de_str da_nil))))))))))
      (ds_cons (ds_set (i := 4) hN rfl (by first | exact Or.inl rfl | exact Or.inr rfl) (de_addG (dv 4) (de_lst (da_cons de_str (da_cons de_str (da_cons de_str (da_cons de_str (da_cons de_str da_nil))))))))
      (ds_cons (ds_set (i := 5) hN rfl (by first | exact Or.inl rfl | exact Or.inr rfl) (de_call G_law_pick (hr.mono (by omega)) rfl T.g_law_pick T.k_law_pick b_law_pick .nil (fun _ => .nil) pass0 (dm_slot (pv 0) (dm_val (dv 4) dm_nil))))
      (ds_cons (ds_if (DW.dc (dw_or (dc_eqG hu6 (dv 5) de_str) (dw_or1 (DW.dc (dw_and (dc_eqG hu6 (dv 3) de_int) (dw_and1 (dc_inG hu (dv 5) (de_slL (dv 4) (do_some de_int) do_none)))))))) (ds_one (ds_ret (de_tup (da_cons de_str (da_cons (de_call G_law_word (hr.mono (by omega)) rfl T.g_law_word T.k_law_word b_law_word .nil (fun _ => .nil) pass0 (dm_slot (pv 0) dm_nil)) (da_cons (de_call G_law_pick (hr.mono (by omega)) rfl T.g_law_pick T.k_law_pick b_law_pick .nil (fun _ => .nil) pass0 (dm_slot (pv 0) (dm_val (de_call G_law_idents (hr.mono (by omega)) rfl T.g_law_idents T.k_law_idents b_law_idents .nil (fun _ => .nil) pass0 (dm_val (dv 1) (dm_val (de_tup (da_cons de_str da_nil)) dm_nil))) dm_nil))) da_nil)))))) ds_nil)
      (ds_cons (ds_if (dc_inG hu (dv 5) (de_slL (dv 4) (do_some de_int) do_none)) (ds_one (ds_ret (de_call G_law_block (hr.mono (by omega)) rfl T.g_law_block T.k_law_block b_law_block .nil (fun _ => .nil) pass0 (dm_slot (pv 0) (dm_val (dv 1) (dm_val (dv 2) (dm_val (dv 5) (dm_val (dv 3) dm_nil)))))))) ds_nil)
      (ds_one (ds_ret (de_call G_law_slot_statement (hr.mono (by omega)) rfl T.g_law_slot_statement T.k_law_slot_statement b_law_slot_statement .nil (fun _ => .nil) pass0 (dm_slot (pv 0) (dm_val (dv 1) (dm_val (dv 2) (dm_val (dv 5) dm_nil))))))))))))
    · show FnOk P w K mg base CX0 (4 + n + 1) a.f_law_rows a.d_law_rows ["_law_tape_here", "_law_heads_here", "_law_above", "_law_level"] (toSp K (nf a) 4 (S_law_rows K a (n + 1)))
      refine T.F_law_rows.ok sc_law_rows (fun vs H Q E h => h.1) (fun cdv A outer s H vs Q E hr h => ?_)
      have hN := sc_law_rows.nd
      have hu := hu_of hr
      have hu6 := hr.units
      refine body_ok (td := td_law_rows K a n) ?_ (by decide) (d_law_rows n) h
      exact (ds_cons (ds_setL (i := 4) hN rfl (by first | exact Or.inl rfl | exact Or.inr rfl) da_nil)
      (ds_cons (ds_for PassesOwn.never rfl (di_range1 rfl T.z_range (da_cons (de_call G_law_draw (hr.mono (by omega)) rfl T.g_law_draw T.k_law_draw b_law_draw .nil (fun _ => .nil) pass0 (dm_slot (pv 0) (dm_val (de_sub de_int (dv 3)) dm_nil))) da_nil)) (dg_name (i := 5) hN rfl (by first | exact Or.inl rfl | exact Or.inr rfl)) (ds_one (ds_app (pv 4) (de_call G_law_statement (hr.mono (by omega)) rfl T.g_law_statement T.k_law_statement b_law_statement .nil (fun _ => .nil) pass0 (dm_slot (pv 0) (dm_val (dv 1) (dm_val (dv 2) (dm_val (dv 3) dm_nil))))))))
      (ds_one (ds_ret (de_ct call_tuple_of cd_tuple rfl T.z_tuple (by decide +kernel) (da_cons (de_varF (pv 4)) da_nil))))))
theorem ok_law_rows (T : Txt w K mg a) (B : TxtB base mg a) : FnOk P w K mg base CX0 16 a.f_law_rows a.d_law_rows ["_law_tape_here", "_law_heads_here", "_law_above", "_law_level"] (toSp K (nf a) 4 (S_law_rows K a 12)) := (grp_law_block T B 12).2.2
theorem ok_law_function (T : Txt w K mg a) (B : TxtB base mg a) : FnOk P w K mg base CX0 17 a.f_law_function a.d_law_function ["_law_tape_here", "_law_heads_here", "_law_place"] (toSp K (nf a) 3 (S_law_function K a)) := by
  have G_law_bind : FnOk P w K mg base CX0 3 a.f_law_bind a.d_law_bind ["_law_tape_here", "_law_heads_here", "_law_rows_here"] (toSp K (nf a) 3 (S_law_bind K a)) := ok_law_bind T B
  have G_law_draw : FnOk P w K mg base CX0 1 a.f_law_draw a.d_law_draw ["_law_tape_here", "_law_many"] (toSp K (nf a) 2 (S_law_draw K a)) := ok_law_draw T B
  have G_law_rows : FnOk P w K mg base CX0 16 a.f_law_rows a.d_law_rows ["_law_tape_here", "_law_heads_here", "_law_above", "_law_level"] (toSp K (nf a) 4 (S_law_rows K a 12)) := ok_law_rows T B
  have b_law_bind := T.b_law_bind
  have b_law_draw := T.b_law_draw
  have b_law_rows := T.b_law_rows
  refine T.F_law_function.ok sc_law_function (fun vs H Q E h => h.1) (fun cdv A outer s H vs Q E hr h => ?_)
  have hN := sc_law_function.nd
  have hu := hu_of hr
  have hu6 := hr.units
  refine body_ok (td := td_law_function K a) ?_ (by decide) (d_law_function) h
  exact (ds_cons (ds_set (i := 3) hN rfl (by first | exact Or.inl rfl | exact Or.inr rfl) (de_call G_law_rows (hr.mono (by decide)) rfl T.g_law_rows T.k_law_rows b_law_rows .nil (fun _ => .nil) pass0 (dm_slot (pv 0) (dm_val (dv 1) (dm_val (de_slL (dv 1) do_none (do_some (dv 2))) (dm_val de_int dm_nil))))))
      (ds_cons (ds_for PassesOwn.never rfl (di_range1 rfl T.z_range (da_cons (de_mul (de_call G_law_draw (hr.mono (by decide)) rfl T.g_law_draw T.k_law_draw b_law_draw .nil (fun _ => .nil) pass0 (dm_slot (pv 0) (dm_val de_int dm_nil))) (de_ct call_int1 cd_int rfl T.z_int (by decide +kernel) (da_cons (de_eqG hu6 (de_call G_law_draw (hr.mono (by decide)) rfl T.g_law_draw T.k_law_draw b_law_draw .nil (fun _ => .nil) pass0 (dm_slot (pv 0) (dm_val de_int dm_nil))) de_int) da_nil))) da_nil)) (dg_name (i := 4) hN rfl (by first | exact Or.inl rfl | exact Or.inr rfl)) (ds_one (ds_if (dc_eqG hu6 (de_call G_law_draw (hr.mono (by decide)) rfl T.g_law_draw T.k_law_draw b_law_draw .nil (fun _ => .nil) pass0 (dm_slot (pv 0) (dm_val de_int dm_nil))) de_int) (ds_one (ds_set (i := 3) hN rfl (by first | exact Or.inl rfl | exact Or.inr rfl) (de_tup (da_cons (de_call G_law_bind (hr.mono (by decide)) rfl T.g_law_bind T.k_law_bind b_law_bind .nil (fun _ => .nil) pass0 (dm_slot (pv 0) (dm_val (dv 1) (dm_val (dv 3) dm_nil)))) da_nil)))) (ds_one (ds_set (i := 3) hN rfl (by first | exact Or.inl rfl | exact Or.inr rfl) (de_tup (da_cons (de_tup (da_cons de_str (da_cons (dv 3) (da_cons (de_tup da_nil) da_nil)))) da_nil)))))))
      (ds_one (ds_ret (dv 3)))))
theorem ok_law_parts (T : Txt w K mg a) (B : TxtB base mg a) : FnOk P w K mg base CX0 18 a.f_law_parts a.d_law_parts ["_law_script", "_law_most"] (toSp K (nf a) 2 (S_law_parts a)) := by
  have G_law_draw : FnOk P w K mg base CX0 1 a.f_law_draw a.d_law_draw ["_law_tape_here", "_law_many"] (toSp K (nf a) 2 (S_law_draw K a)) := ok_law_draw T B
  have G_law_function : FnOk P w K mg base CX0 17 a.f_law_function a.d_law_function ["_law_tape_here", "_law_heads_here", "_law_place"] (toSp K (nf a) 3 (S_law_function K a)) := ok_law_function T B
  have G_law_heads : FnOk P w K mg base CX0 4 a.f_law_heads a.d_law_heads ["_law_script", "_law_most"] (toSp K (nf a) 2 (S_law_heads a)) := ok_law_heads T B
  have G_law_tape : FnOk P w K mg base CX0 1 a.f_law_tape a.d_law_tape ["_law_script", "_law_k"] (toSpO K (nf a) 2 (S_law_tape K a)) := ok_law_tape T B
  have G_law_word : FnOk P w K mg base CX0 2 a.f_law_word a.d_law_word ["_law_tape_here"] (toSp K (nf a) 1 (S_law_word K a)) := ok_law_word T B
  have b_law_draw := T.b_law_draw
  have b_law_function := T.b_law_function
  have b_law_heads := T.b_law_heads
  have b_law_tape := T.b_law_tape
  have b_law_word := T.b_law_word
  refine T.F_law_parts.ok sc_law_parts (fun vs H Q E h => h.1) (fun cdv A outer s H vs Q E hr h => ?_)
  have hN := sc_law_parts.nd
  have hu := hu_of hr
  have hu6 := hr.units
  refine body_ok (td := td_law_parts K a) ?_ (by decide) (d_law_parts) h
  exact (ds_cons (ds_set (i := 2) hN rfl (by first | exact Or.inl rfl | exact Or.inr rfl) (de_call G_law_heads (hr.mono (by decide)) rfl T.g_law_heads T.k_law_heads b_law_heads .nil (fun _ => .nil) pass0 (dm_val (dv 0) (dm_val (dv 1) dm_nil))))
      (ds_cons (ds_setL (i := 3) hN rfl (by first | exact Or.inl rfl | exact Or.inr rfl) da_nil)
      (ds_cons (ds_for PassesOwn.never rfl (di_range1 rfl T.z_range (da_cons (de_cb call_lenG cd_lenG rfl T.z_len boot_len (da_cons (dv 2) da_nil)) da_nil)) (dg_name (i := 4) hN rfl (by first | exact Or.inl rfl | exact Or.inr rfl)) (ds_cons (ds_callO (i := 5) hN rfl (by first | exact Or.inl rfl | exact Or.inr rfl) G_law_tape (hr.mono (by decide)) rfl T.g_law_tape T.k_law_tape b_law_tape .nil (fun _ => .nil) pass0 (dm_val (dv 0) (dm_val (de_addG de_int (dv 4)) dm_nil)))
      (ds_cons (ds_asg (de_ixG hu (dv 2) (dv 4)) (dg_tup rfl (dgs_cons (dg_name (i := 6) hN rfl (by first | exact Or.inl rfl | exact Or.inr rfl)) (dgs_cons (dg_name (i := 7) hN rfl (by first | exact Or.inl rfl | exact Or.inr rfl)) dgs_nil))))
      (ds_one (ds_if (dc_eqG hu6 (dv 6) de_str) (ds_one (ds_app (pv 3) (de_tup (da_cons de_str (da_cons (dv 7) (da_cons (de_call G_law_word (hr.mono (by decide)) rfl T.g_law_word T.k_law_word b_law_word .nil (fun _ => .nil) pass0 (dm_slot (pv 5) dm_nil)) da_nil)))))) (ds_one (ds_if (dc_eqG hu6 (dv 6) de_str) (ds_one (ds_app (pv 3) (de_tup (da_cons de_str (da_cons (dv 7) (da_cons (de_ixG hu (de_lst (da_cons de_str (da_cons de_str da_nil))) (de_call G_law_draw (hr.mono (by decide)) rfl T.g_law_draw T.k_law_draw b_law_draw .nil (fun _ => .nil) pass0 (dm_slot (pv 5) (dm_val de_int dm_nil)))) da_nil)))))) (ds_one (ds_if (dc_eqG hu6 (dv 6) de_str) (ds_one (ds_app (pv 3) (de_tup (da_cons de_str (da_cons (dv 7) (da_cons (de_ixG hu (de_lst (da_cons de_str (da_cons de_str da_nil))) (de_call G_law_draw (hr.mono (by decide)) rfl T.g_law_draw T.k_law_draw b_law_draw .nil (fun _ => .nil) pass0 (dm_slot (pv 5) (dm_val de_int dm_nil)))) da_nil)))))) (ds_cons (ds_set (i := 8) hN rfl (by first | exact Or.inl rfl | exact Or.inr rfl) (de_ixG hu (de_lst (da_cons de_str (da_cons de_str da_nil))) (de_call G_law_draw (hr.mono (by decide)) rfl T.g_law_draw T.k_law_draw b_law_draw .nil (fun _ => .nil) pass0 (dm_slot (pv 5) (dm_val de_int dm_nil)))))
      (ds_one (ds_app (pv 3) (de_tup (da_cons de_str (da_cons (dv 7) (da_cons (dv 8) (da_cons (de_call G_law_function (hr.mono (by decide)) rfl T.g_law_function T.k_law_function b_law_function .nil (fun _ => .nil) pass0 (dm_slot (pv 5) (dm_val (dv 2) (dm_val (dv 4) dm_nil)))) da_nil)))))))))))))))))
      (ds_one (ds_ret (de_ct call_tuple_of cd_tuple rfl T.z_tuple (by decide +kernel) (da_cons (de_varF (pv 3)) da_nil)))))))
theorem ok_law_blocks (T : Txt w K mg a) (B : TxtB base mg a) : FnOk P w K mg base CX0 1 a.f_law_blocks a.d_law_blocks ["_law_statement_here"] (toSp K (nf a) 1 (S_law_blocks a)) := by
  refine T.F_law_blocks.ok sc_law_blocks (fun vs H Q E h => h.1) (fun cdv A outer s H vs Q E hr h => ?_)
  have hN := sc_law_blocks.nd
  have hu := hu_of hr
  have hu6 := hr.units
  refine body_ok (td := td_law_blocks K a) ?_ (by decide) (d_law_blocks) h
  exact (ds_cons (ds_if (dc_inG hu (de_ixG hu (dv 0) de_int) (de_tup (da_cons de_str (da_cons de_str da_nil)))) (ds_one (ds_ret (de_lst (da_cons (de_ixG hu (dv 0) (de_neg de_int)) da_nil)))) ds_nil)
      (ds_cons (ds_if (dc_inG hu (de_ixG hu (dv 0) de_int) (de_tup (da_cons de_str (da_cons de_str (da_cons de_str da_nil))))) (ds_one (ds_ret (de_lst (da_cons (de_ixG hu (dv 0) (de_neg de_int)) (da_cons (de_ixG hu (dv 0) (de_neg de_int)) da_nil))))) ds_nil)
      (ds_one (ds_ret (de_lst da_nil)))))
theorem grp_law_listed_rows (T : Txt w K mg a) (B : TxtB base mg a) : ∀ n : Nat, (FnOk P w K mg base CX0 (2 + n) a.f_law_listed_rows a.d_law_listed_rows ["_law_found", "_law_rows_here", "_law_line", "_law_place"] (toSp K (nf a) 4 (S_law_listed_rows K a n))) := by
  have G_law_blocks : FnOk P w K mg base CX0 1 a.f_law_blocks a.d_law_blocks ["_law_statement_here"] (toSp K (nf a) 1 (S_law_blocks a)) := ok_law_blocks T B
  have b_law_blocks := T.b_law_blocks
  have b_law_listed_rows := T.b_law_listed_rows
  intro n
  induction n with
  | zero => exact fnOk_no (fun as Q h => by first | exact z_law_listed_rows K a as Q h | exact z_law_listed_rows a as Q h)
  | succ n ih =>
    have G_law_listed_rows := ih
    · show FnOk P w K mg base CX0 (2 + n + 1) a.f_law_listed_rows a.d_law_listed_rows ["_law_found", "_law_rows_here", "_law_line", "_law_place"] (toSp K (nf a) 4 (S_law_listed_rows K a (n + 1)))
      refine T.F_law_listed_rows.ok sc_law_listed_rows (fun vs H Q E h => h.1) (fun cdv A outer s H vs Q E hr h => ?_)
      have hN := sc_law_listed_rows.nd
      have hu := hu_of hr
      have hu6 := hr.units
      refine body_ok (td := td_law_listed_rows K a n) ?_ (by decide) (d_law_listed_rows n) h
      exact (ds_cons (ds_for PassesOwn.never rfl (di_tup (dv 1)) (dg_name (i := 4) hN rfl (by first | exact Or.inl rfl | exact Or.inr rfl)) (ds_cons (ds_app (pv 0) (de_tup (da_cons (dv 2) (da_cons (dv 3) (da_cons (dv 4) da_nil)))))
      (ds_cons (ds_augI (i := 2) hN rfl (by first | exact Or.inl rfl | exact Or.inr rfl) de_int)
      (ds_cons (ds_set (i := 5) hN rfl (by first | exact Or.inl rfl | exact Or.inr rfl) (de_call G_law_blocks (hr.mono (by omega)) rfl T.g_law_blocks T.k_law_blocks b_law_blocks .nil (fun _ => .nil) pass0 (dm_val (dv 4) dm_nil)))
      (ds_cons (ds_for PassesOwn.never rfl (di_range1 rfl T.z_range (da_cons (de_cb call_lenG cd_lenG rfl T.z_len boot_len (da_cons (dv 5) da_nil)) da_nil)) (dg_name (i := 6) hN rfl (by first | exact Or.inl rfl | exact Or.inr rfl)) (ds_cons (ds_augI (i := 2) hN rfl (by first | exact Or.inl rfl | exact Or.inr rfl) (de_ct call_int1 cd_int rfl T.z_int (by decide +kernel) (da_cons (de_and (de_eqG hu6 (dv 6) de_int) (de_one (de_neG hu6 (de_ixG hu (dv 5) de_int) (de_tup da_nil)))) da_nil)))
      (ds_one (ds_set (i := 2) hN rfl (by first | exact Or.inl rfl | exact Or.inr rfl) (de_call G_law_listed_rows (hr.mono (by omega)) rfl T.g_law_listed_rows T.k_law_listed_rows b_law_listed_rows .nil (fun _ => .nil) pass0 (dm_slot (pv 0) (dm_val (de_ixG hu (dv 5) (dv 6)) (dm_val (dv 2) (dm_val (dv 3) dm_nil)))))))))
      (ds_one (ds_augI (i := 2) hN rfl (by first | exact Or.inl rfl | exact Or.inr rfl) (de_ct call_int1 cd_int rfl T.z_int (by decide +kernel) (da_cons (de_neG hu6 (dv 5) (de_lst da_nil)) da_nil)))))))))
      (ds_one (ds_ret (dv 2))))
theorem ok_law_listed_rows (T : Txt w K mg a) (B : TxtB base mg a) : FnOk P w K mg base CX0 14 a.f_law_listed_rows a.d_law_listed_rows ["_law_found", "_law_rows_here", "_law_line", "_law_place"] (toSp K (nf a) 4 (S_law_listed_rows K a 12)) := (grp_law_listed_rows T B 12)
theorem ok_law_listed (T : Txt w K mg a) (B : TxtB base mg a) : FnOk P w K mg base CX0 15 a.f_law_listed a.d_law_listed ["_law_parts_here"] (toSp K (nf a) 1 (S_law_listed a)) := by
  have G_law_listed_rows : FnOk P w K mg base CX0 14 a.f_law_listed_rows a.d_law_listed_rows ["_law_found", "_law_rows_here", "_law_line", "_law_place"] (toSp K (nf a) 4 (S_law_listed_rows K a 12)) := ok_law_listed_rows T B
  have b_law_listed_rows := T.b_law_listed_rows
  refine T.F_law_listed.ok sc_law_listed (fun vs H Q E h => h.1) (fun cdv A outer s H vs Q E hr h => ?_)
  have hN := sc_law_listed.nd
  have hu := hu_of hr
  have hu6 := hr.units
  refine body_ok (td := td_law_listed K a) ?_ (by decide) (d_law_listed) h
  exact (ds_cons (ds_setL (i := 1) hN rfl (by first | exact Or.inl rfl | exact Or.inr rfl) da_nil)
      (ds_cons (ds_set (i := 2) hN rfl (by first | exact Or.inl rfl | exact Or.inr rfl) de_int)
      (ds_cons (ds_for PassesOwn.never rfl (di_range1 rfl T.z_range (da_cons (de_cb call_lenG cd_lenG rfl T.z_len boot_len (da_cons (dv 0) da_nil)) da_nil)) (dg_name (i := 3) hN rfl (by first | exact Or.inl rfl | exact Or.inr rfl)) (ds_cons (ds_app (pv 1) (de_tup (da_cons (dv 2) (da_cons (dv 3) (da_cons (de_ixG hu (dv 0) (dv 3)) da_nil)))))
      (ds_cons (ds_augI (i := 2) hN rfl (by first | exact Or.inl rfl | exact Or.inr rfl) de_int)
      (ds_one (ds_if (dc_eqG hu6 (de_ixG hu (de_ixG hu (dv 0) (dv 3)) de_int) de_str) (ds_one (ds_set (i := 2) hN rfl (by first | exact Or.inl rfl | exact Or.inr rfl) (de_addG (de_call G_law_listed_rows (hr.mono (by decide)) rfl T.g_law_listed_rows T.k_law_listed_rows b_law_listed_rows .nil (fun _ => .nil) pass0 (dm_slot (pv 1) (dm_val (de_ixG hu (de_ixG hu (dv 0) (dv 3)) de_int) (dm_val (dv 2) (dm_val (dv 3) dm_nil))))) de_int))) ds_nil)))))
      (ds_one (ds_ret (de_varF (pv 1)))))))
theorem ok_law_due (T : Txt w K mg a) (B : TxtB base mg a) : FnOk P w K mg base CX0 16 a.f_law_due a.d_law_due ["_law_parts_here"] (toSp K (nf a) 1 (S_law_due a)) := by
  have G_law_listed : FnOk P w K mg base CX0 15 a.f_law_listed a.d_law_listed ["_law_parts_here"] (toSp K (nf a) 1 (S_law_listed a)) := ok_law_listed T B
  have b_law_listed := T.b_law_listed
  refine T.F_law_due.ok sc_law_due (fun vs H Q E h => h.1) (fun cdv A outer s H vs Q E hr h => ?_)
  have hN := sc_law_due.nd
  have hu := hu_of hr
  have hu6 := hr.units
  refine body_ok (td := td_law_due K a) ?_ (by decide) (d_law_due) h
  exact (ds_cons (ds_setLc (i := 1) rfl hN rfl rfl rfl (di_tup (dv 0)) (own := [("_law_part", 2)]) (show BlkOk ["_law_parts_here", "_law_order", "_law_part", "_law_found", "_law_line", "_law_place", "_law_item", "_law_slot", "_law_captured_here", "_law_ident_here"] (defScope s_law_due) _ _ from ⟨rfl, by decide +kernel, by decide +kernel, by decide +kernel, by decide +kernel⟩) (fun s H C cl fp => (dg_name (i := 2) hN rfl (by first | exact Or.inl rfl | exact Or.inr rfl))) (fun s H C cl fp => (dts_one (dc_inG hu (de_ixG hu (dv 2) de_int) (de_tup (da_cons de_str (da_cons de_str da_nil)))))) (fun s H C cl fp => (de_ixG hu (dv 2) de_int)))
      (ds_cons (ds_setL (i := 3) hN rfl (by first | exact Or.inl rfl | exact Or.inr rfl) da_nil)
      (ds_cons (ds_for PassesOwn.never rfl (di_list (de_call G_law_listed (hr.mono (by decide)) rfl T.g_law_listed T.k_law_listed b_law_listed .nil (fun _ => .nil) pass0 (dm_val (dv 0) dm_nil))) (dg_tup rfl (dgs_cons (dg_name (i := 4) hN rfl (by first | exact Or.inl rfl | exact Or.inr rfl)) (dgs_cons (dg_name (i := 5) hN rfl (by first | exact Or.inl rfl | exact Or.inr rfl)) (dgs_cons (dg_name (i := 6) hN rfl (by first | exact Or.inl rfl | exact Or.inr rfl)) dgs_nil)))) (ds_one (ds_if (dc_inG hu (de_ixG hu (dv 6) de_int) (de_tup (da_cons de_str (da_cons de_str (da_cons de_str da_nil))))) (ds_cons (ds_set (i := 7) hN rfl (by first | exact Or.inl rfl | exact Or.inr rfl) (de_if (dc_eqG hu6 (de_ixG hu (dv 6) de_int) de_str) (de_ixG hu (dv 6) de_int) (de_ixG hu (dv 6) de_int)))
      (ds_cons (ds_set (i := 8) hN rfl (by first | exact Or.inl rfl | exact Or.inr rfl) (de_ct call_tuple_of cd_tuple rfl T.z_tuple (by decide +kernel) (da_cons (de_lc rfl hN (di_list (dv 1)) (own := [("_law_ident_here", 9)]) (show BlkOk ["_law_parts_here", "_law_order", "_law_part", "_law_found", "_law_line", "_law_place", "_law_item", "_law_slot", "_law_captured_here", "_law_ident_here"] (defScope s_law_due) _ _ from ⟨rfl, by decide +kernel, by decide +kernel, by decide +kernel, by decide +kernel⟩) (fun s H C cl fp => (dg_name (i := 9) hN rfl (by first | exact Or.inl rfl | exact Or.inr rfl))) (fun s H C cl fp => (dts_one (dc_inG hu (dv 9) (de_ixG hu (dv 6) (de_neg de_int))))) (fun s H C cl fp => (dv 9))) da_nil)))
      (ds_one (ds_app (pv 3) (de_tup (da_cons (dv 4) (da_cons (de_ixG hu (dv 6) de_int) (da_cons (dv 7) (da_cons (dv 8) da_nil))))))))) ds_nil)))
      (ds_one (ds_ret (de_ct call_tuple_of cd_tuple rfl T.z_tuple (by decide +kernel) (da_cons (de_varF (pv 3)) da_nil)))))))
theorem ok_law (T : Txt w K mg a) (B : TxtB base mg a) : FnOk P w K mg base CX0 48 a.f_law a.d_law ["_law_script"] (toSpT K (nf a) 1 (S_law a)) := by
  have G_law_due : FnOk P w K mg base CX0 16 a.f_law_due a.d_law_due ["_law_parts_here"] (toSp K (nf a) 1 (S_law_due a)) := ok_law_due T B
  have G_law_parts : FnOk P w K mg base CX0 18 a.f_law_parts a.d_law_parts ["_law_script", "_law_most"] (toSp K (nf a) 2 (S_law_parts a)) := ok_law_parts T B
  have G_check : FnOk P w K mg base CX0 47 a.f_check a.d_check ["parts"] (toSpT K (nf a) 1 (S_check a)) := ok_check T B
  have G_keepings : FnOk P w K mg base CX0 17 a.f_keepings a.d_keepings ["parts"] (toSpT K (nf a) 1 (S_keepings a)) := ok_keepings T B
  have b_law_due := T.b_law_due
  have b_law_parts := T.b_law_parts
  have b_check := T.b_check
  have b_keepings := T.b_keepings
  refine T.F_law.ok sc_law (fun vs H Q E h => h.2.1) (fun cdv A outer s H vs Q E hr h => ?_)
  have hN := sc_law.nd
  have hu := hu_of hr
  have hu6 := hr.units
  refine body_okT (td := td_law K a) (fun A' tb => ?_) (by decide) (d_law) h
  exact (ds_cons (ds_set (i := 1) hN rfl (by first | exact Or.inl rfl | exact Or.inr rfl) (de_call G_law_parts (hr.mono (by decide)) rfl T.g_law_parts T.k_law_parts b_law_parts .nil (fun _ => .nil) pass0 (dm_val (dv 0) (dm_val de_int dm_nil))))
      (ds_cons (ds_set (i := 2) hN rfl (by first | exact Or.inl rfl | exact Or.inr rfl) (de_callTb tb G_keepings (hr.mono (by decide)) rfl T.g_keepings T.k_keepings b_keepings .nil (fun _ => .nil) pass0 (dm_val (dv 1) dm_nil)))
      (ds_one (ds_ret (de_and (de_cb call_isi cd_isi rfl T.z_isinstance (by decide +kernel) (da_cons (dv 2) (da_cons (de_bty rfl T.z_tuple (by decide +kernel)) da_nil))) (de_and (de_eqG hu6 (dv 2) (de_call G_law_due (hr.mono (by decide)) rfl T.g_law_due T.k_law_due b_law_due .nil (fun _ => .nil) pass0 (dm_val (dv 1) dm_nil))) (de_one (de_eqG hu6 (de_callTb tb G_keepings (hr.mono (by decide)) rfl T.g_keepings T.k_keepings b_keepings .nil (fun _ => .nil) pass0 (dm_val (de_callTb tb G_check (hr.mono (by decide)) rfl T.g_check T.k_check b_check .nil (fun _ => .nil) pass0 (dm_val (dv 1) dm_nil)) dm_nil)) (dv 2)))))))))
end
open PySem L2 DL
end K12
namespace DH
open PySem PySem.Spec PyProof.Rows L2 DL
open PySem.W (Frag findIn nsIn keepIn)
mutual
def DT0.d : DT0 → D
  | .str s => .str s
  | .int i => .int i
  | .tup xs => .tup (DT0.ds xs)
def DT0.ds : List DT0 → List D
  | [] => []
  | x :: xs => x.d :: DT0.ds xs
end
mutual
theorem dvB_ok {K : Frag} : ∀ {d : DT0} {u : Value}, dvB K d u = true → ∃ v, RelV v u ∧ ∀ nf H, Rel K nf H v d.d
  | .str z, u, h => by
    simp only [dvB] at h
    split at h
    · have e := of_decide_eq_true h
      subst e
      exact ⟨.str _, ⟨_, rfl⟩, fun nf H => by simp only [DT0.d]; exact .str _⟩
    · cases h
  | .int i, u, h => by
    simp only [dvB] at h
    split at h
    · have e := of_decide_eq_true h
      subst e
      exact ⟨.int _, ⟨_, rfl⟩, fun nf H => by simp only [DT0.d]; exact .int _⟩
    · cases h
  | .tup ds, u, h => by
    simp only [dvB] at h
    split at h
    · split at h
      · rename_i a _ c od its n sl q
        obtain ⟨h1, h⟩ := and2 h
        obtain ⟨h2, h3⟩ := and2 h
        have e := of_decide_eq_true h1
        subst e
        obtain ⟨vs, hv, hr⟩ := dvsB_ok h3
        exact ⟨.ref a, rfl, fun nf H => by simp only [DT0.d]; exact .tup (.inr ⟨_, _, _, q, rfl, rfl, of_decide_eq_true h2, hv⟩) (hr nf H)⟩
      · cases h
    · cases h
theorem dvsB_ok {K : Frag} : ∀ {ds : List DT0} {us : List Value}, dvsB K ds us = true → ∃ vs, Vals vs us ∧ ∀ nf H, Rels K nf H vs (DT0.ds ds)
  | [], us, h => by
    simp only [dvsB] at h
    cases us with
    | nil => exact ⟨[], .nil, fun _ _ => by simp only [DT0.ds]; exact .nil⟩
    | cons _ _ => cases h
  | d :: ds, us, h => by
    simp only [dvsB] at h
    split at h
    · obtain ⟨h1, h2⟩ := and2 h
      obtain ⟨v, r1, r2⟩ := dvB_ok h1
      obtain ⟨vs, r3, r4⟩ := dvsB_ok h2
      exact ⟨v :: vs, .cons r1 r3, fun nf H => by simp only [DT0.ds]; exact .cons (r2 nf H) (r4 nf H)⟩
    · cases h
end
theorem keys_non {P : Params} {z : Str} : ∀ {l : List DictEntry} {ks : List Str}, l.map He.keyOf = He.keysIn P ks → z ∉ ks → l.find? (·.key.isStr z) = none ∧ l.any (·.refKey) = false
  | [], _, _, _ => ⟨rfl, rfl⟩
  | e :: r, [], h, _ => by cases h
  | e :: r, k :: ks, h, hz => by
    have h1 : He.keyOf e :: r.map He.keyOf = some (k, PyData.keyHash P k) :: He.keysIn P ks := h
    injection h1 with h2 h3
    obtain ⟨i1, i2⟩ := keys_non h3 fun m => hz (List.mem_cons_of_mem _ m)
    unfold He.keyOf at h2
    split at h2
    · rename_i x t q
      have h4 := Option.some.inj h2
      obtain ⟨h5, h6⟩ := Prod.mk.inj h4
      subst h5
      have hne : ¬ x = z := fun e => hz (by rw [e]; exact List.mem_cons_self)
      refine ⟨?_, ?_⟩
      · rw [List.find?_cons]
        have : e.key.isStr z = false := by rw [q]; simpa [Value.isStr] using hne
        rw [this]
        exact i1
      · rw [List.any_cons, i2]
        have : e.refKey = false := by unfold DictEntry.refKey; rw [q]
        rw [this]
        rfl
    · cases h2
theorem lookup_mem {β : Type} {z : Str} {d : β} : ∀ {kvs : List (Str × β)}, kvs.lookup z = some d → (z, d) ∈ kvs
  | [], h => by cases h
  | (k, x) :: kvs, h => by
    rw [List.lookup_cons] at h
    split at h
    · rename_i e
      have e := eq_of_beq e
      cases h
      subst e
      exact List.mem_cons_self
    · exact List.mem_cons_of_mem _ (lookup_mem h)
theorem lookup_none {β : Type} {z : Str} : ∀ {kvs : List (Str × β)}, kvs.lookup z = none → z ∉ kvs.map (·.1)
  | [], _ => by simp
  | (k, x) :: kvs, h => by
    rw [List.lookup_cons] at h
    split at h
    · cases h
    · rename_i e
      rw [List.map_cons, List.mem_cons]
      rintro (h2 | h2)
      · subst h2; simp at e
      · exact lookup_none h h2
theorem kd_ok {K : Frag} {w : World} {x : Str} {kvs : List (Str × DT0)} (h : kdB K x kvs = true) (hk : He.dicW K (He.ga K x) = some (He.keysIn w.params (kvs.map (·.1)))) : KD K w (He.ga K x) (kvs.map fun q => (q.1, q.2.d)) := by
  refine ⟨He.dicW_ok hk, fun z d e => ?_, fun z e => ?_⟩
  · obtain ⟨⟨z', d'⟩, hm, ee⟩ := List.mem_map.mp (lookup_mem e)
    cases ee
    have := List.all_eq_true.mp h _ hm
    simp only at this
    split at this
    · rename_i u q
      obtain ⟨v, r1, r2⟩ := dvB_ok this
      exact ⟨u, v, q, r1, r2⟩
    · cases this
  · have hz := lookup_none e
    rw [List.map_map] at hz
    have hz : z ∉ kvs.map (·.1) := hz
    unfold He.dicW at hk
    split at hk
    · rename_i c es n sl q
      split at hk
      · have hk := Option.some.inj hk
        obtain ⟨f1, f2⟩ := keys_non hk hz
        unfold nsIn
        rw [q]
        simp only [f1, f2]
        rfl
      · cases hk
    · cases hk
theorem Says3.kd {q : Ask3} {w : World} {h : Heap} {K : Frag} (c : Says3 q w h K) {t : Str × List (Str × DT0)} (ht : t ∈ q.kd) : KD K w (He.ga K t.1) (t.2.map fun q => (q.1, q.2.d)) := kd_ok (c.kdb t ht) (c.kdw t ht)
end DH
namespace DL
open PySem PySem.Spec PyProof.Rows L2
/-- the promise, or the promise once the list at a is locked -/
def spK (sp : Sp) : Sp := fun vs H Q E => sp vs H Q E ∨ ∃ a xs, H a = some (.lst xs) ∧ ∀ od, sp vs (upd H a (.frz od (.lst xs))) Q E
theorem fnOk_lock {P : Program} {w : World} {K : PySem.W.Frag} {mg : Str → Option Value} {base : Heap} {k : Nat} {f : Addr} {fd : FuncData} {ps : List Str} {sp : Sp} (F : FnOk P w K mg base CX0 k f fd ps sp) : FnOk P w K mg base CX0 k f fd ps (spK sp) := by
  refine ⟨fun vs H Q E q => ?_, fun A outer s H args us vs Q E hr e0 hb hv q => ?_⟩
  · rcases q with q | ⟨a, xs, _, q⟩
    · exact F.len _ _ _ _ q
    · exact F.len _ _ _ _ (q { cls := .none, data := .plain })
  · rcases q with q | ⟨a, xs, ha, q⟩
    · exact F.run A outer s H args us vs Q E hr e0 hb hv q
    · have x := e0.hok a _ ha
      obtain ⟨hl, its, n, hvs, hg⟩ := id x
      generalize hod : ({ cls := .type "list", data := .seq its.toArray n } : Obj) = od at hg
      have ne : ∀ b, H b = none → b ≠ a := fun b e z => by rw [z, ha] at e; cases e
      have own : ∀ b c, H b = some (.own c) → upd H a (.frz od (.lst xs)) b = some (.own c) := fun b c e => by
        rw [upd_ne (fun z => by rw [z, ha] at e; cases e)]; exact e
      have tup : ∀ b ys, H b = some (.tup ys) → upd H a (.frz od (.lst xs)) b = some (.tup ys) := fun b ys e => by
        rw [upd_ne (fun z => by rw [z, ha] at e; cases e)]; exact e
      have new : HOk P w (upd H a (.frz od (.lst xs))) s.heap := fun b u eb => by
        by_cases hb : b = a
        · subst hb
          rw [upd_same] at eb
          cases eb
          exact ⟨hg, x.stay (fun _ _ _ q => q) (fun c e => own c _ e) tup⟩
        · rw [upd_ne hb] at eb
          exact (e0.hok b u eb).stay (fun _ _ _ q => q) (fun c e => own c _ e) tup
      have e2 : Env0 P w K mg base A outer s (upd H a (.frz od (.lst xs))) :=
        ⟨e0.frames, e0.mod, fun b o eb => ⟨(e0.bs b o eb).1, by rw [upd_ne (ne b (e0.bs b o eb).2)]; exact (e0.bs b o eb).2⟩, e0.bsz, e0.funs, fun b hb => by rw [upd_ne (ne b (e0.frf b hb))]; exact e0.frf b hb, new, e0.bare⟩
      refine codeAny_mono (F.run A outer s _ args us vs Q E hr e2 hb hv (q od)) fun r s' h => ?_
      cases r with
      | error e => exact h
      | ok fl =>
        cases fl with
        | ret u =>
          obtain ⟨v, H', h1, h2, un, h3, h4, h5⟩ := h
          refine ⟨v, H', h1, h2, ⟨fun b o e n => un.keep b o e (by rw [upd_ne (ne b n)]; exact n), fun b o e n => un.slot b o e (by rw [upd_ne (ne b n)]; exact n), fun b o e n => un.free b o e (by rw [upd_ne (ne b n)]; exact n), un.there, fun b ys e => un.tups b ys (tup b ys e), fun b o u e => un.frzs b o u (by rw [upd_ne (fun z => by rw [z, ha] at e; cases e)]; exact e), fun b ps e => un.tbls b ps (by rw [upd_ne (fun z => by rw [z, ha] at e; cases e)]; exact e)⟩, h3, h4, h5⟩
        | next => exact h
        | brk => exact h
        | cont => exact h
section
variable {K : PySem.W.Frag} {nf : NFs} {S : SpD nf} {H : Hp} {a : Addr} {ns : List Int} {E : XK}
theorem scr_start (hS : ScrL K H a (ns.map V.int)) (h : S [.fz (.scr ns)] fun d _ => d = .bl true) : toSp K nf 1 S [.ref a] H (fun v _ => v = .bl true) E := by
  have sl : SlotR K nf H (some (.ref a)) [] (.fz (.scr ns)) := ⟨rfl, _, rfl, .scr hS⟩
  have R : EnvL K nf H [some (.ref a)] [.fz (.scr ns)] ([] ++ []) := .cons sl .nil (fun a m => by cases m)
  refine ⟨rfl, [.fz (.scr ns)], [], _, rfl, R, h, fun v H' d as' fp' _ r _ _ q => ?_⟩
  subst q
  exact rel_bl r
theorem toSpT_start (ht : ∀ P ∈ nf.tbs, H P = some (.tbl #[])) (hS : SqL K H a (ns.map V.int)) (h : S [.fz (.scr ns)] fun d _ => d = .bl true) : spK (toSpT K nf 1 S) [.ref a] H (fun v _ => v = .bl true) E := by
  rcases hS with (hS | hS) | hS
  · refine .inr ⟨a, _, hS, fun od => ⟨fun P hP => NdefX.TabN.nil ?_, scr_start (.inl ⟨od, upd_same⟩) h⟩⟩
    rw [upd_ne (fun z => by have := ht P hP; rw [z, hS] at this; cases this)]
    exact ht P hP
  · exact .inl ⟨fun P hP => NdefX.TabN.nil (ht P hP), scr_start (.inl hS) h⟩
  · exact .inl ⟨fun P hP => NdefX.TabN.nil (ht P hP), scr_start (.inr hS) h⟩
theorem lawAt {l : PySem.W.OpenLaw} {w : World} {k n : Nat} {x : Str} {mg : Str → Option Value} {fa : Addr} {h : Heap} {fd : FuncData} {cs : List (Addr × Addr)} (hT : ∀ p ∈ cs, h.get? p.2 = some { cls := .none, data := .fields #[] }) (nT : ∀ p ∈ cs, K.lookup p.2 = none) (C : ∀ p ∈ cs, PySem.W.CodeHd h p.1 p.2)
    (hb : ∀ (s : Shared) (u : Value), BindsTo s fd ⟨[u], []⟩ [(x, u)]) (htb : nf.tbs = cs.map (·.2)) (hS : ∀ ns : List Int, ns.length ≤ n → S [.fz (.scr ns)] fun d _ => d = .bl true)
    (F : ∀ base : Heap, K.In base → base.Ns mainGlobals mg → (∀ p ∈ cs, LamX.TabB base mg p.1 p.2) → FnOk l.prog w K mg base CX0 k fa fd [x] (toSpT K nf 1 S)) : LamX.LawAtS l w K CX0 k n x mg fa h :=
  ⟨fd, cs, spK (toSpT K nf 1 S), hT, nT, C, hb, fun H a ns hl _ hH hq => toSpT_start (fun P hP => by
    rw [htb] at hP
    obtain ⟨p, hp, e⟩ := List.mem_map.mp hP
    rw [← e]
    exact hH p hp) hq (hS ns hl), fun base h1 h2 h3 => fnOk_lock (F base h1 h2 h3)⟩
/-- the code object of a def -/
theorem code_of {x qual : Str} {st : Stmt} {p : He.Defn} {fd : FuncData} (F : Fun K x qual st (He.fAd K p) fd) : fd.code = .ref (He.cT K p).1 := by
  obtain ⟨oc, od, kV, doc, pm, an, cdv, ct, osl, e, lk, hc⟩ := F.ex
  obtain ⟨c, hcv⟩ := He.codeIn_ref hc
  have ec : fd.code = .ref c := by rw [e]; exact hcv
  show _ = Value.ref (He.codeOf K p)
  rw [He.codeOf_eq lk ec]
  exact ec
end
end DL
namespace K12
open PySem L2 DL
theorem facts {w : World} {K : PySem.W.Frag} {h : Heap} {mg : Str → Option Value} {fa : Addr} (X : K.In h) (G : h.Ns mainGlobals mg) (hfa : mg "law" = some (.ref fa)) (c3 : DH.Says3 ask3 w h K) :
    LamX.LawAtS PySem.Challenge.rw_bindspan_k12_keepings w K CX0 48 63 "_law_script" mg fa h := by
  have c : DH.obsK ask K = DH.valA ask := c3.a
  have e := hfa.symm.trans (He.glo_ok X G (DH.says_fa c 51 rfl))
  cases e
  obtain ⟨d_blocks_of, F0_blocks_of⟩ := DH.says_fn c 0 (d := df_blocks_of) rfl
  have F_blocks_of : Fun K "blocks_of" "blocks_of" s_blocks_of (He.ga K "blocks_of") d_blocks_of := DH.fun_of F0_blocks_of
  have b_blocks_of := F_blocks_of.binds (ps := ["statement"]) fun _ _ _ _ _ _ us hl => match us, hl with | [_], _ => rfl
  obtain ⟨d_rebuilt, F0_rebuilt⟩ := DH.says_fn c 1 (d := df_rebuilt) rfl
  have F_rebuilt : Fun K "rebuilt" "rebuilt" s_rebuilt (He.ga K "rebuilt") d_rebuilt := DH.fun_of F0_rebuilt
  have b_rebuilt := F_rebuilt.binds (ps := ["statement", "blocks"]) fun _ _ _ _ _ _ us hl => match us, hl with | [_, _], _ => rfl
  obtain ⟨d_add_first_lines, F0_add_first_lines⟩ := DH.says_fn c 2 (d := df_add_first_lines) rfl
  have F_add_first_lines : Fun K "add_first_lines" "add_first_lines" s_add_first_lines (He.ga K "add_first_lines") d_add_first_lines := DH.fun_of F0_add_first_lines
  have b_add_first_lines := F_add_first_lines.binds (ps := ["found", "rows", "line", "place"]) fun _ _ _ _ _ _ us hl => match us, hl with | [_, _, _, _], _ => rfl
  obtain ⟨d_first_lines, F0_first_lines⟩ := DH.says_fn c 3 (d := df_first_lines) rfl
  have F_first_lines : Fun K "first_lines" "first_lines" s_first_lines (He.ga K "first_lines") d_first_lines := DH.fun_of F0_first_lines
  have b_first_lines := F_first_lines.binds (ps := ["parts"]) fun _ _ _ _ _ _ us hl => match us, hl with | [_], _ => rfl
  obtain ⟨d_statements, F0_statements⟩ := DH.says_fn c 4 (d := df_statements) rfl
  have F_statements : Fun K "statements" "statements" s_statements (He.ga K "statements") d_statements := DH.fun_of F0_statements
  have b_statements := F_statements.binds (ps := ["parts"]) fun _ _ _ _ _ _ us hl => match us, hl with | [_], _ => rfl
  obtain ⟨d_changed_rows, F0_changed_rows⟩ := DH.says_fn c 5 (d := df_changed_rows) rfl
  have F_changed_rows : Fun K "changed_rows" "changed_rows" s_changed_rows (He.ga K "changed_rows") d_changed_rows := DH.fun_of F0_changed_rows
  have b_changed_rows := F_changed_rows.binds (ps := ["rows", "change"]) fun _ _ _ _ _ _ us hl => match us, hl with | [_, _], _ => rfl
  obtain ⟨d_changed, F0_changed⟩ := DH.says_fn c 6 (d := df_changed) rfl
  have F_changed : Fun K "changed" "changed" s_changed (He.ga K "changed") d_changed := DH.fun_of F0_changed
  have b_changed := F_changed.binds (ps := ["parts", "change"]) fun _ _ _ _ _ _ us hl => match us, hl with | [_, _], _ => rfl
  obtain ⟨d_is_word, F0_is_word⟩ := DH.says_fn c 7 (d := df_is_word) rfl
  have F_is_word : Fun K "is_word" "is_word" s_is_word (He.ga K "is_word") d_is_word := DH.fun_of F0_is_word
  have b_is_word := F_is_word.binds (ps := ["value"]) fun _ _ _ _ _ _ us hl => match us, hl with | [_], _ => rfl
  obtain ⟨d_is_identifier, F0_is_identifier⟩ := DH.says_fn c 8 (d := df_is_identifier) rfl
  have F_is_identifier : Fun K "is_identifier" "is_identifier" s_is_identifier (He.ga K "is_identifier") d_is_identifier := DH.fun_of F0_is_identifier
  have b_is_identifier := F_is_identifier.binds (ps := ["value"]) fun _ _ _ _ _ _ us hl => match us, hl with | [_], _ => rfl
  obtain ⟨d_is_setting, F0_is_setting⟩ := DH.says_fn c 9 (d := df_is_setting) rfl
  have F_is_setting : Fun K "is_setting" "is_setting" s_is_setting (He.ga K "is_setting") d_is_setting := DH.fun_of F0_is_setting
  have b_is_setting := F_is_setting.binds (ps := ["value"]) fun _ _ _ _ _ _ us hl => match us, hl with | [_], _ => rfl
  obtain ⟨d_is_listing, F0_is_listing⟩ := DH.says_fn c 10 (d := df_is_listing) rfl
  have F_is_listing : Fun K "is_listing" "is_listing" s_is_listing (He.ga K "is_listing") d_is_listing := DH.fun_of F0_is_listing
  have b_is_listing := F_is_listing.binds (ps := ["value"]) fun _ _ _ _ _ _ us hl => match us, hl with | [_], _ => rfl
  obtain ⟨d_is_value, F0_is_value⟩ := DH.says_fn c 11 (d := df_is_value) rfl
  have F_is_value : Fun K "is_value" "is_value" s_is_value (He.ga K "is_value") d_is_value := DH.fun_of F0_is_value
  have b_is_value := F_is_value.binds (ps := ["value"]) fun _ _ _ _ _ _ us hl => match us, hl with | [_], _ => rfl
  obtain ⟨d_is_access, F0_is_access⟩ := DH.says_fn c 12 (d := df_is_access) rfl
  have F_is_access : Fun K "is_access" "is_access" s_is_access (He.ga K "is_access") d_is_access := DH.fun_of F0_is_access
  have b_is_access := F_is_access.binds (ps := ["value"]) fun _ _ _ _ _ _ us hl => match us, hl with | [_], _ => rfl
  obtain ⟨d_fits, F0_fits⟩ := DH.says_fn c 13 (d := df_fits) rfl
  have F_fits : Fun K "fits" "fits" s_fits (He.ga K "fits") d_fits := DH.fun_of F0_fits
  have b_fits := F_fits.binds (ps := ["shape", "item", "blocks"]) fun _ _ _ _ _ _ us hl => match us, hl with | [_, _, _], _ => rfl
  obtain ⟨d_is_rows, F0_is_rows⟩ := DH.says_fn c 14 (d := df_is_rows) rfl
  have F_is_rows : Fun K "is_rows" "is_rows" s_is_rows (He.ga K "is_rows") d_is_rows := DH.fun_of F0_is_rows
  have b_is_rows := F_is_rows.binds (ps := ["rows", "blocks"]) fun _ _ _ _ _ _ us hl => match us, hl with | [_, _], _ => rfl
  obtain ⟨d_is_statement, F0_is_statement⟩ := DH.says_fn c 15 (d := df_is_statement) rfl
  have F_is_statement : Fun K "is_statement" "is_statement" s_is_statement (He.ga K "is_statement") d_is_statement := DH.fun_of F0_is_statement
  have b_is_statement := F_is_statement.binds (ps := ["statement", "blocks"]) fun _ _ _ _ _ _ us hl => match us, hl with | [_, _], _ => rfl
  obtain ⟨d_is_part, F0_is_part⟩ := DH.says_fn c 16 (d := df_is_part) rfl
  have F_is_part : Fun K "is_part" "is_part" s_is_part (He.ga K "is_part") d_is_part := DH.fun_of F0_is_part
  have b_is_part := F_is_part.binds (ps := ["part"]) fun _ _ _ _ _ _ us hl => match us, hl with | [_], _ => rfl
  obtain ⟨d_check_form, F0_check_form⟩ := DH.says_fn c 17 (d := df_check_form) rfl
  have F_check_form : Fun K "check_form" "check_form" s_check_form (He.ga K "check_form") d_check_form := DH.fun_of F0_check_form
  have b_check_form := F_check_form.binds (ps := ["parts"]) fun _ _ _ _ _ _ us hl => match us, hl with | [_], _ => rfl
  obtain ⟨d_declared_parts, F0_declared_parts⟩ := DH.says_fn c 18 (d := df_declared_parts) rfl
  have F_declared_parts : Fun K "declared_parts" "declared_parts" s_declared_parts (He.ga K "declared_parts") d_declared_parts := DH.fun_of F0_declared_parts
  have b_declared_parts := F_declared_parts.binds (ps := ["parts", "lines"]) fun _ _ _ _ _ _ us hl => match us, hl with | [_, _], _ => rfl
  obtain ⟨d_kind_of, F0_kind_of⟩ := DH.says_fn c 19 (d := df_kind_of) rfl
  have F_kind_of : Fun K "kind_of" "kind_of" s_kind_of (He.ga K "kind_of") d_kind_of := DH.fun_of F0_kind_of
  have b_kind_of := F_kind_of.binds (ps := ["ident", "declared"]) fun _ _ _ _ _ _ us hl => match us, hl with | [_, _], _ => rfl
  obtain ⟨d_check_known, F0_check_known⟩ := DH.says_fn c 20 (d := df_check_known) rfl
  have F_check_known : Fun K "check_known" "check_known" s_check_known (He.ga K "check_known") d_check_known := DH.fun_of F0_check_known
  have b_check_known := F_check_known.binds (ps := ["line", "statement", "declared"]) fun _ _ _ _ _ _ us hl => match us, hl with | [_, _, _], _ => rfl
  obtain ⟨d_check_listing, F0_check_listing⟩ := DH.says_fn c 21 (d := df_check_listing) rfl
  have F_check_listing : Fun K "check_listing" "check_listing" s_check_listing (He.ga K "check_listing") d_check_listing := DH.fun_of F0_check_listing
  have b_check_listing := F_check_listing.binds (ps := ["line", "statement"]) fun _ _ _ _ _ _ us hl => match us, hl with | [_, _], _ => rfl
  obtain ⟨d_check_order, F0_check_order⟩ := DH.says_fn c 22 (d := df_check_order) rfl
  have F_check_order : Fun K "check_order" "check_order" s_check_order (He.ga K "check_order") d_check_order := DH.fun_of F0_check_order
  have b_check_order := F_check_order.binds (ps := ["line", "place", "statement", "declared"]) fun _ _ _ _ _ _ us hl => match us, hl with | [_, _, _, _], _ => rfl
  obtain ⟨d_check_statement, F0_check_statement⟩ := DH.says_fn c 23 (d := df_check_statement) rfl
  have F_check_statement : Fun K "check_statement" "check_statement" s_check_statement (He.ga K "check_statement") d_check_statement := DH.fun_of F0_check_statement
  have b_check_statement := F_check_statement.binds (ps := ["line", "place", "statement", "declared"]) fun _ _ _ _ _ _ us hl => match us, hl with | [_, _, _, _], _ => rfl
  obtain ⟨d_with_ordered_lists, F0_with_ordered_lists⟩ := DH.says_fn c 24 (d := df_with_ordered_lists) rfl
  have F_with_ordered_lists : Fun K "with_ordered_lists" "with_ordered_lists" s_with_ordered_lists (He.ga K "with_ordered_lists") d_with_ordered_lists := DH.fun_of F0_with_ordered_lists
  have b_with_ordered_lists := F_with_ordered_lists.binds (ps := ["parts"]) fun _ _ _ _ _ _ us hl => match us, hl with | [_], _ => rfl
  obtain ⟨d_settled, F0_settled⟩ := DH.says_fn c 25 (d := df_settled) rfl
  have F_settled : Fun K "settled" "settled" s_settled (He.ga K "settled") d_settled := DH.fun_of F0_settled
  have b_settled := F_settled.binds (ps := ["parts", "lines"]) fun _ _ _ _ _ _ us hl => match us, hl with | [_, _], _ => rfl
  obtain ⟨d_check, F0_check⟩ := DH.says_fn c 26 (d := df_check) rfl
  have F_check : Fun K "check" "check" s_check (He.ga K "check") d_check := DH.fun_of F0_check
  have b_check := F_check.binds (ps := ["parts"]) fun _ _ _ _ _ _ us hl => match us, hl with | [_], _ => rfl
  obtain ⟨d_keepings, F0_keepings⟩ := DH.says_fn c 27 (d := df_keepings) rfl
  have F_keepings : Fun K "keepings" "keepings" s_keepings (He.ga K "keepings") d_keepings := DH.fun_of F0_keepings
  have b_keepings := F_keepings.binds (ps := ["parts"]) fun _ _ _ _ _ _ us hl => match us, hl with | [_], _ => rfl
  obtain ⟨d_law_tape, F0_law_tape⟩ := DH.says_fn c 28 (d := df_law_tape) rfl
  have F_law_tape : Fun K "_law_tape" "_law_tape" s_law_tape (He.ga K "_law_tape") d_law_tape := DH.fun_of F0_law_tape
  have b_law_tape := F_law_tape.binds (ps := ["_law_script", "_law_k"]) fun _ _ _ _ _ _ us hl => match us, hl with | [_, _], _ => rfl
  obtain ⟨d_law_draw, F0_law_draw⟩ := DH.says_fn c 29 (d := df_law_draw) rfl
  have F_law_draw : Fun K "_law_draw" "_law_draw" s_law_draw (He.ga K "_law_draw") d_law_draw := DH.fun_of F0_law_draw
  have b_law_draw := F_law_draw.binds (ps := ["_law_tape_here", "_law_many"]) fun _ _ _ _ _ _ us hl => match us, hl with | [_, _], _ => rfl
  obtain ⟨d_law_kept, F0_law_kept⟩ := DH.says_fn c 30 (d := df_law_kept) rfl
  have F_law_kept : Fun K "_law_kept" "_law_kept" s_law_kept (He.ga K "_law_kept") d_law_kept := DH.fun_of F0_law_kept
  have b_law_kept := F_law_kept.binds (ps := []) fun _ _ _ _ _ _ us hl => match us, hl with | [], _ => rfl
  obtain ⟨d_law_signs, F0_law_signs⟩ := DH.says_fn c 31 (d := df_law_signs) rfl
  have F_law_signs : Fun K "_law_signs" "_law_signs" s_law_signs (He.ga K "_law_signs") d_law_signs := DH.fun_of F0_law_signs
  have b_law_signs := F_law_signs.binds (ps := []) fun _ _ _ _ _ _ us hl => match us, hl with | [], _ => rfl
  obtain ⟨d_law_spelled, F0_law_spelled⟩ := DH.says_fn c 32 (d := df_law_spelled) rfl
  have F_law_spelled : Fun K "_law_spelled" "_law_spelled" s_law_spelled (He.ga K "_law_spelled") d_law_spelled := DH.fun_of F0_law_spelled
  have b_law_spelled := F_law_spelled.binds (ps := ["_law_tape_here", "_law_used"]) fun _ _ _ _ _ _ us hl => match us, hl with | [_, _], _ => rfl
  obtain ⟨d_law_ident, F0_law_ident⟩ := DH.says_fn c 33 (d := df_law_ident) rfl
  have F_law_ident : Fun K "_law_ident" "_law_ident" s_law_ident (He.ga K "_law_ident") d_law_ident := DH.fun_of F0_law_ident
  have b_law_ident := F_law_ident.binds (ps := ["_law_tape_here", "_law_used"]) fun _ _ _ _ _ _ us hl => match us, hl with | [_, _], _ => rfl
  obtain ⟨d_law_word, F0_law_word⟩ := DH.says_fn c 34 (d := df_law_word) rfl
  have F_law_word : Fun K "_law_word" "_law_word" s_law_word (He.ga K "_law_word") d_law_word := DH.fun_of F0_law_word
  have b_law_word := F_law_word.binds (ps := ["_law_tape_here"]) fun _ _ _ _ _ _ us hl => match us, hl with | [_], _ => rfl
  obtain ⟨d_law_heads, F0_law_heads⟩ := DH.says_fn c 35 (d := df_law_heads) rfl
  have F_law_heads : Fun K "_law_heads" "_law_heads" s_law_heads (He.ga K "_law_heads") d_law_heads := DH.fun_of F0_law_heads
  have b_law_heads := F_law_heads.binds (ps := ["_law_script", "_law_most"]) fun _ _ _ _ _ _ us hl => match us, hl with | [_, _], _ => rfl
  obtain ⟨d_law_idents, F0_law_idents⟩ := DH.says_fn c 36 (d := df_law_idents) rfl
  have F_law_idents : Fun K "_law_idents" "_law_idents" s_law_idents (He.ga K "_law_idents") d_law_idents := DH.fun_of F0_law_idents
  have b_law_idents := F_law_idents.binds (ps := ["_law_heads_here", "_law_kinds"]) fun _ _ _ _ _ _ us hl => match us, hl with | [_, _], _ => rfl
  obtain ⟨d_law_pick, F0_law_pick⟩ := DH.says_fn c 37 (d := df_law_pick) rfl
  have F_law_pick : Fun K "_law_pick" "_law_pick" s_law_pick (He.ga K "_law_pick") d_law_pick := DH.fun_of F0_law_pick
  have b_law_pick := F_law_pick.binds (ps := ["_law_tape_here", "_law_pool"]) fun _ _ _ _ _ _ us hl => match us, hl with | [_, _], _ => rfl
  obtain ⟨d_law_captured, F0_law_captured⟩ := DH.says_fn c 38 (d := df_law_captured) rfl
  have F_law_captured : Fun K "_law_captured" "_law_captured" s_law_captured (He.ga K "_law_captured") d_law_captured := DH.fun_of F0_law_captured
  have b_law_captured := F_law_captured.binds (ps := ["_law_tape_here", "_law_heads_here"]) fun _ _ _ _ _ _ us hl => match us, hl with | [_, _], _ => rfl
  obtain ⟨d_law_pairs_above, F0_law_pairs_above⟩ := DH.says_fn c 39 (d := df_law_pairs_above) rfl
  have F_law_pairs_above : Fun K "_law_pairs_above" "_law_pairs_above" s_law_pairs_above (He.ga K "_law_pairs_above") d_law_pairs_above := DH.fun_of F0_law_pairs_above
  have b_law_pairs_above := F_law_pairs_above.binds (ps := ["_law_heads_here", "_law_first", "_law_second"]) fun _ _ _ _ _ _ us hl => match us, hl with | [_, _, _], _ => rfl
  obtain ⟨d_law_slot_statement, F0_law_slot_statement⟩ := DH.says_fn c 40 (d := df_law_slot_statement) rfl
  have F_law_slot_statement : Fun K "_law_slot_statement" "_law_slot_statement" s_law_slot_statement (He.ga K "_law_slot_statement") d_law_slot_statement := DH.fun_of F0_law_slot_statement
  have b_law_slot_statement := F_law_slot_statement.binds (ps := ["_law_tape_here", "_law_heads_here", "_law_above", "_law_kind"]) fun _ _ _ _ _ _ us hl => match us, hl with | [_, _, _, _], _ => rfl
  obtain ⟨d_law_bind, F0_law_bind⟩ := DH.says_fn c 41 (d := df_law_bind) rfl
  have F_law_bind : Fun K "_law_bind" "_law_bind" s_law_bind (He.ga K "_law_bind") d_law_bind := DH.fun_of F0_law_bind
  have b_law_bind := F_law_bind.binds (ps := ["_law_tape_here", "_law_heads_here", "_law_rows_here"]) fun _ _ _ _ _ _ us hl => match us, hl with | [_, _, _], _ => rfl
  obtain ⟨d_law_block, F0_law_block⟩ := DH.says_fn c 42 (d := df_law_block) rfl
  have F_law_block : Fun K "_law_block" "_law_block" s_law_block (He.ga K "_law_block") d_law_block := DH.fun_of F0_law_block
  have b_law_block := F_law_block.binds (ps := ["_law_tape_here", "_law_heads_here", "_law_above", "_law_kind", "_law_level"]) fun _ _ _ _ _ _ us hl => match us, hl with | [_, _, _, _, _], _ => rfl
  obtain ⟨d_law_statement, F0_law_statement⟩ := DH.says_fn c 43 (d := df_law_statement) rfl
  have F_law_statement : Fun K "_law_statement" "_law_statement" s_law_statement (He.ga K "_law_statement") d_law_statement := DH.fun_of F0_law_statement
  have b_law_statement := F_law_statement.binds (ps := ["_law_tape_here", "_law_heads_here", "_law_above", "_law_level"]) fun _ _ _ _ _ _ us hl => match us, hl with | [_, _, _, _], _ => rfl
  obtain ⟨d_law_rows, F0_law_rows⟩ := DH.says_fn c 44 (d := df_law_rows) rfl
  have F_law_rows : Fun K "_law_rows" "_law_rows" s_law_rows (He.ga K "_law_rows") d_law_rows := DH.fun_of F0_law_rows
  have b_law_rows := F_law_rows.binds (ps := ["_law_tape_here", "_law_heads_here", "_law_above", "_law_level"]) fun _ _ _ _ _ _ us hl => match us, hl with | [_, _, _, _], _ => rfl
  obtain ⟨d_law_function, F0_law_function⟩ := DH.says_fn c 45 (d := df_law_function) rfl
  have F_law_function : Fun K "_law_function" "_law_function" s_law_function (He.ga K "_law_function") d_law_function := DH.fun_of F0_law_function
  have b_law_function := F_law_function.binds (ps := ["_law_tape_here", "_law_heads_here", "_law_place"]) fun _ _ _ _ _ _ us hl => match us, hl with | [_, _, _], _ => rfl
  obtain ⟨d_law_parts, F0_law_parts⟩ := DH.says_fn c 46 (d := df_law_parts) rfl
  have F_law_parts : Fun K "_law_parts" "_law_parts" s_law_parts (He.ga K "_law_parts") d_law_parts := DH.fun_of F0_law_parts
  have b_law_parts := F_law_parts.binds (ps := ["_law_script", "_law_most"]) fun _ _ _ _ _ _ us hl => match us, hl with | [_, _], _ => rfl
  obtain ⟨d_law_blocks, F0_law_blocks⟩ := DH.says_fn c 47 (d := df_law_blocks) rfl
  have F_law_blocks : Fun K "_law_blocks" "_law_blocks" s_law_blocks (He.ga K "_law_blocks") d_law_blocks := DH.fun_of F0_law_blocks
  have b_law_blocks := F_law_blocks.binds (ps := ["_law_statement_here"]) fun _ _ _ _ _ _ us hl => match us, hl with | [_], _ => rfl
  obtain ⟨d_law_listed_rows, F0_law_listed_rows⟩ := DH.says_fn c 48 (d := df_law_listed_rows) rfl
  have F_law_listed_rows : Fun K "_law_listed_rows" "_law_listed_rows" s_law_listed_rows (He.ga K "_law_listed_rows") d_law_listed_rows := DH.fun_of F0_law_listed_rows
  have b_law_listed_rows := F_law_listed_rows.binds (ps := ["_law_found", "_law_rows_here", "_law_line", "_law_place"]) fun _ _ _ _ _ _ us hl => match us, hl with | [_, _, _, _], _ => rfl
  obtain ⟨d_law_listed, F0_law_listed⟩ := DH.says_fn c 49 (d := df_law_listed) rfl
  have F_law_listed : Fun K "_law_listed" "_law_listed" s_law_listed (He.ga K "_law_listed") d_law_listed := DH.fun_of F0_law_listed
  have b_law_listed := F_law_listed.binds (ps := ["_law_parts_here"]) fun _ _ _ _ _ _ us hl => match us, hl with | [_], _ => rfl
  obtain ⟨d_law_due, F0_law_due⟩ := DH.says_fn c 50 (d := df_law_due) rfl
  have F_law_due : Fun K "_law_due" "_law_due" s_law_due (He.ga K "_law_due") d_law_due := DH.fun_of F0_law_due
  have b_law_due := F_law_due.binds (ps := ["_law_parts_here"]) fun _ _ _ _ _ _ us hl => match us, hl with | [_], _ => rfl
  obtain ⟨d_law, F0_law⟩ := DH.says_fn c 51 (d := df_law) rfl
  have F_law : Fun K "law" "law" s_law (He.ga K "law") d_law := DH.fun_of F0_law
  have b_law := F_law.binds (ps := ["_law_script"]) fun _ _ _ _ _ _ us hl => match us, hl with | [_], _ => rfl
  obtain ⟨t_LETTERS, g_LETTERS⟩ := He.str_ok X G (DH.says_fa c 63 rfl)
  obtain ⟨t_DIGITS, g_DIGITS⟩ := He.str_ok X G (DH.says_fa c 64 rfl)
  obtain ⟨t_LONGEST, g_LONGEST⟩ := He.int_ok X G (DH.says_fa c 65 rfl)
  obtain ⟨t_MOST_BLOCKS, g_MOST_BLOCKS⟩ := He.int_ok X G (DH.says_fa c 66 rfl)
  have x0 : exs K = true := (DH.says_b c).2.2.2
  unfold exs at x0
  obtain ⟨y0, x1⟩ := DH.and2 x0
  obtain ⟨y1, x2⟩ := DH.and2 x1
  obtain ⟨y2, x3⟩ := DH.and2 x2
  have y3 := x3
  have kd_SHAPES : DL.KD K w (He.ga K "SHAPES") SHAPESl := by
    have z := c3.kd (t := ("SHAPES", kv_SHAPES)) (List.mem_of_getElem? (i := 0) rfl)
    simp only [kv_SHAPES, List.map_cons, List.map_nil, DH.DT0.d, DH.DT0.ds] at z
    exact z
  have kd_WANTED : DL.KD K w (He.ga K "WANTED") WANTEDl := by
    have z := c3.kd (t := ("WANTED", kv_WANTED)) (List.mem_of_getElem? (i := 1) rfl)
    simp only [kv_WANTED, List.map_cons, List.map_nil, DH.DT0.d, DH.DT0.ds] at z
    exact z
  have T : Txt w K mg ({ f_blocks_of := (He.ga K "blocks_of"), d_blocks_of := d_blocks_of, f_rebuilt := (He.ga K "rebuilt"), d_rebuilt := d_rebuilt, f_add_first_lines := (He.ga K "add_first_lines"), d_add_first_lines := d_add_first_lines, f_first_lines := (He.ga K "first_lines"), d_first_lines := d_first_lines, f_statements := (He.ga K "statements"), d_statements := d_statements, f_changed_rows := (He.ga K "changed_rows"), d_changed_rows := d_changed_rows, f_changed := (He.ga K "changed"), d_changed := d_changed, f_is_word := (He.ga K "is_word"), d_is_word := d_is_word, f_is_identifier := (He.ga K "is_identifier"), d_is_identifier := d_is_identifier, f_is_setting := (He.ga K "is_setting"), d_is_setting := d_is_setting, f_is_listing := (He.ga K "is_listing"), d_is_listing := d_is_listing, f_is_value := (He.ga K "is_value"), d_is_value := d_is_value, f_is_access := (He.ga K "is_access"), d_is_access := d_is_access, f_fits := (He.ga K "fits"), d_fits := d_fits, f_is_rows := (He.ga K "is_rows"), d_is_rows := d_is_rows, f_is_statement := (He.ga K "is_statement"), d_is_statement := d_is_statement, f_is_part := (He.ga K "is_part"), d_is_part := d_is_part, f_check_form := (He.ga K "check_form"), d_check_form := d_check_form, f_declared_parts := (He.ga K "declared_parts"), d_declared_parts := d_declared_parts, f_kind_of := (He.ga K "kind_of"), d_kind_of := d_kind_of, f_check_known := (He.ga K "check_known"), d_check_known := d_check_known, f_check_listing := (He.ga K "check_listing"), d_check_listing := d_check_listing, f_check_order := (He.ga K "check_order"), d_check_order := d_check_order, f_check_statement := (He.ga K "check_statement"), d_check_statement := d_check_statement, f_with_ordered_lists := (He.ga K "with_ordered_lists"), d_with_ordered_lists := d_with_ordered_lists, f_settled := (He.ga K "settled"), d_settled := d_settled, f_check := (He.ga K "check"), d_check := d_check, f_keepings := (He.ga K "keepings"), d_keepings := d_keepings, f_law_tape := (He.ga K "_law_tape"), d_law_tape := d_law_tape, f_law_draw := (He.ga K "_law_draw"), d_law_draw := d_law_draw, f_law_kept := (He.ga K "_law_kept"), d_law_kept := d_law_kept, f_law_signs := (He.ga K "_law_signs"), d_law_signs := d_law_signs, f_law_spelled := (He.ga K "_law_spelled"), d_law_spelled := d_law_spelled, f_law_ident := (He.ga K "_law_ident"), d_law_ident := d_law_ident, f_law_word := (He.ga K "_law_word"), d_law_word := d_law_word, f_law_heads := (He.ga K "_law_heads"), d_law_heads := d_law_heads, f_law_idents := (He.ga K "_law_idents"), d_law_idents := d_law_idents, f_law_pick := (He.ga K "_law_pick"), d_law_pick := d_law_pick, f_law_captured := (He.ga K "_law_captured"), d_law_captured := d_law_captured, f_law_pairs_above := (He.ga K "_law_pairs_above"), d_law_pairs_above := d_law_pairs_above, f_law_slot_statement := (He.ga K "_law_slot_statement"), d_law_slot_statement := d_law_slot_statement, f_law_bind := (He.ga K "_law_bind"), d_law_bind := d_law_bind, f_law_block := (He.ga K "_law_block"), d_law_block := d_law_block, f_law_statement := (He.ga K "_law_statement"), d_law_statement := d_law_statement, f_law_rows := (He.ga K "_law_rows"), d_law_rows := d_law_rows, f_law_function := (He.ga K "_law_function"), d_law_function := d_law_function, f_law_parts := (He.ga K "_law_parts"), d_law_parts := d_law_parts, f_law_blocks := (He.ga K "_law_blocks"), d_law_blocks := d_law_blocks, f_law_listed_rows := (He.ga K "_law_listed_rows"), d_law_listed_rows := d_law_listed_rows, f_law_listed := (He.ga K "_law_listed"), d_law_listed := d_law_listed, f_law_due := (He.ga K "_law_due"), d_law_due := d_law_due, f_law := (He.ga K "law"), d_law := d_law, t_LETTERS := t_LETTERS, t_DIGITS := t_DIGITS, t_LONGEST := t_LONGEST, t_MOST_BLOCKS := t_MOST_BLOCKS, p_KEPT := He.ga K "KEPT", p_PART_WORDS := He.ga K "PART_WORDS", p_BOUND_WORDS := He.ga K "BOUND_WORDS", p_KEEPINGS := He.ga K "KEEPINGS", p_SHAPES := He.ga K "SHAPES", p_WANTED := He.ga K "WANTED", c_with_ordered_lists := (He.cT K ("with_ordered_lists", none)).1, P_with_ordered_lists := (He.cT K ("with_ordered_lists", none)).2 } : Ad) :=
    { F_blocks_of := F_blocks_of,
      b_blocks_of := b_blocks_of,
      g_blocks_of := He.glo_ok X G (DH.says_fa c 0 rfl),
      k_blocks_of := F_blocks_of.kp,
      F_rebuilt := F_rebuilt,
      b_rebuilt := b_rebuilt,
      g_rebuilt := He.glo_ok X G (DH.says_fa c 1 rfl),
      k_rebuilt := F_rebuilt.kp,
      F_add_first_lines := F_add_first_lines,
      b_add_first_lines := b_add_first_lines,
      g_add_first_lines := He.glo_ok X G (DH.says_fa c 2 rfl),
      k_add_first_lines := F_add_first_lines.kp,
      F_first_lines := F_first_lines,
      b_first_lines := b_first_lines,
      g_first_lines := He.glo_ok X G (DH.says_fa c 3 rfl),
      k_first_lines := F_first_lines.kp,
      F_statements := F_statements,
      b_statements := b_statements,
      g_statements := He.glo_ok X G (DH.says_fa c 4 rfl),
      k_statements := F_statements.kp,
      F_changed_rows := F_changed_rows,
      b_changed_rows := b_changed_rows,
      g_changed_rows := He.glo_ok X G (DH.says_fa c 5 rfl),
      k_changed_rows := F_changed_rows.kp,
      F_changed := F_changed,
      b_changed := b_changed,
      g_changed := He.glo_ok X G (DH.says_fa c 6 rfl),
      k_changed := F_changed.kp,
      F_is_word := F_is_word,
      b_is_word := b_is_word,
      g_is_word := He.glo_ok X G (DH.says_fa c 7 rfl),
      k_is_word := F_is_word.kp,
      F_is_identifier := F_is_identifier,
      b_is_identifier := b_is_identifier,
      g_is_identifier := He.glo_ok X G (DH.says_fa c 8 rfl),
      k_is_identifier := F_is_identifier.kp,
      F_is_setting := F_is_setting,
      b_is_setting := b_is_setting,
      g_is_setting := He.glo_ok X G (DH.says_fa c 9 rfl),
      k_is_setting := F_is_setting.kp,
      F_is_listing := F_is_listing,
      b_is_listing := b_is_listing,
      g_is_listing := He.glo_ok X G (DH.says_fa c 10 rfl),
      k_is_listing := F_is_listing.kp,
      F_is_value := F_is_value,
      b_is_value := b_is_value,
      g_is_value := He.glo_ok X G (DH.says_fa c 11 rfl),
      k_is_value := F_is_value.kp,
      F_is_access := F_is_access,
      b_is_access := b_is_access,
      g_is_access := He.glo_ok X G (DH.says_fa c 12 rfl),
      k_is_access := F_is_access.kp,
      F_fits := F_fits,
      b_fits := b_fits,
      g_fits := He.glo_ok X G (DH.says_fa c 13 rfl),
      k_fits := F_fits.kp,
      F_is_rows := F_is_rows,
      b_is_rows := b_is_rows,
      g_is_rows := He.glo_ok X G (DH.says_fa c 14 rfl),
      k_is_rows := F_is_rows.kp,
      F_is_statement := F_is_statement,
      b_is_statement := b_is_statement,
      g_is_statement := He.glo_ok X G (DH.says_fa c 15 rfl),
      k_is_statement := F_is_statement.kp,
      F_is_part := F_is_part,
      b_is_part := b_is_part,
      g_is_part := He.glo_ok X G (DH.says_fa c 16 rfl),
      k_is_part := F_is_part.kp,
      F_check_form := F_check_form,
      b_check_form := b_check_form,
      g_check_form := He.glo_ok X G (DH.says_fa c 17 rfl),
      k_check_form := F_check_form.kp,
      F_declared_parts := F_declared_parts,
      b_declared_parts := b_declared_parts,
      g_declared_parts := He.glo_ok X G (DH.says_fa c 18 rfl),
      k_declared_parts := F_declared_parts.kp,
      F_kind_of := F_kind_of,
      b_kind_of := b_kind_of,
      g_kind_of := He.glo_ok X G (DH.says_fa c 19 rfl),
      k_kind_of := F_kind_of.kp,
      F_check_known := F_check_known,
      b_check_known := b_check_known,
      g_check_known := He.glo_ok X G (DH.says_fa c 20 rfl),
      k_check_known := F_check_known.kp,
      F_check_listing := F_check_listing,
      b_check_listing := b_check_listing,
      g_check_listing := He.glo_ok X G (DH.says_fa c 21 rfl),
      k_check_listing := F_check_listing.kp,
      F_check_order := F_check_order,
      b_check_order := b_check_order,
      g_check_order := He.glo_ok X G (DH.says_fa c 22 rfl),
      k_check_order := F_check_order.kp,
      F_check_statement := F_check_statement,
      b_check_statement := b_check_statement,
      g_check_statement := He.glo_ok X G (DH.says_fa c 23 rfl),
      k_check_statement := F_check_statement.kp,
      F_with_ordered_lists := F_with_ordered_lists,
      b_with_ordered_lists := b_with_ordered_lists,
      g_with_ordered_lists := He.glo_ok X G (DH.says_fa c 24 rfl),
      k_with_ordered_lists := F_with_ordered_lists.kp,
      F_settled := F_settled,
      b_settled := b_settled,
      g_settled := He.glo_ok X G (DH.says_fa c 25 rfl),
      k_settled := F_settled.kp,
      F_check := F_check,
      b_check := b_check,
      g_check := He.glo_ok X G (DH.says_fa c 26 rfl),
      k_check := F_check.kp,
      F_keepings := F_keepings,
      b_keepings := b_keepings,
      g_keepings := He.glo_ok X G (DH.says_fa c 27 rfl),
      k_keepings := F_keepings.kp,
      F_law_tape := F_law_tape,
      b_law_tape := b_law_tape,
      g_law_tape := He.glo_ok X G (DH.says_fa c 28 rfl),
      k_law_tape := F_law_tape.kp,
      F_law_draw := F_law_draw,
      b_law_draw := b_law_draw,
      g_law_draw := He.glo_ok X G (DH.says_fa c 29 rfl),
      k_law_draw := F_law_draw.kp,
      F_law_kept := F_law_kept,
      b_law_kept := b_law_kept,
      g_law_kept := He.glo_ok X G (DH.says_fa c 30 rfl),
      k_law_kept := F_law_kept.kp,
      F_law_signs := F_law_signs,
      b_law_signs := b_law_signs,
      g_law_signs := He.glo_ok X G (DH.says_fa c 31 rfl),
      k_law_signs := F_law_signs.kp,
      F_law_spelled := F_law_spelled,
      b_law_spelled := b_law_spelled,
      g_law_spelled := He.glo_ok X G (DH.says_fa c 32 rfl),
      k_law_spelled := F_law_spelled.kp,
      F_law_ident := F_law_ident,
      b_law_ident := b_law_ident,
      g_law_ident := He.glo_ok X G (DH.says_fa c 33 rfl),
      k_law_ident := F_law_ident.kp,
      F_law_word := F_law_word,
      b_law_word := b_law_word,
      g_law_word := He.glo_ok X G (DH.says_fa c 34 rfl),
      k_law_word := F_law_word.kp,
      F_law_heads := F_law_heads,
      b_law_heads := b_law_heads,
      g_law_heads := He.glo_ok X G (DH.says_fa c 35 rfl),
      k_law_heads := F_law_heads.kp,
      F_law_idents := F_law_idents,
      b_law_idents := b_law_idents,
      g_law_idents := He.glo_ok X G (DH.says_fa c 36 rfl),
      k_law_idents := F_law_idents.kp,
      F_law_pick := F_law_pick,
      b_law_pick := b_law_pick,
      g_law_pick := He.glo_ok X G (DH.says_fa c 37 rfl),
      k_law_pick := F_law_pick.kp,
      F_law_captured := F_law_captured,
      b_law_captured := b_law_captured,
      g_law_captured := He.glo_ok X G (DH.says_fa c 38 rfl),
      k_law_captured := F_law_captured.kp,
      F_law_pairs_above := F_law_pairs_above,
      b_law_pairs_above := b_law_pairs_above,
      g_law_pairs_above := He.glo_ok X G (DH.says_fa c 39 rfl),
      k_law_pairs_above := F_law_pairs_above.kp,
      F_law_slot_statement := F_law_slot_statement,
      b_law_slot_statement := b_law_slot_statement,
      g_law_slot_statement := He.glo_ok X G (DH.says_fa c 40 rfl),
      k_law_slot_statement := F_law_slot_statement.kp,
      F_law_bind := F_law_bind,
      b_law_bind := b_law_bind,
      g_law_bind := He.glo_ok X G (DH.says_fa c 41 rfl),
      k_law_bind := F_law_bind.kp,
      F_law_block := F_law_block,
      b_law_block := b_law_block,
      g_law_block := He.glo_ok X G (DH.says_fa c 42 rfl),
      k_law_block := F_law_block.kp,
      F_law_statement := F_law_statement,
      b_law_statement := b_law_statement,
      g_law_statement := He.glo_ok X G (DH.says_fa c 43 rfl),
      k_law_statement := F_law_statement.kp,
      F_law_rows := F_law_rows,
      b_law_rows := b_law_rows,
      g_law_rows := He.glo_ok X G (DH.says_fa c 44 rfl),
      k_law_rows := F_law_rows.kp,
      F_law_function := F_law_function,
      b_law_function := b_law_function,
      g_law_function := He.glo_ok X G (DH.says_fa c 45 rfl),
      k_law_function := F_law_function.kp,
      F_law_parts := F_law_parts,
      b_law_parts := b_law_parts,
      g_law_parts := He.glo_ok X G (DH.says_fa c 46 rfl),
      k_law_parts := F_law_parts.kp,
      F_law_blocks := F_law_blocks,
      b_law_blocks := b_law_blocks,
      g_law_blocks := He.glo_ok X G (DH.says_fa c 47 rfl),
      k_law_blocks := F_law_blocks.kp,
      F_law_listed_rows := F_law_listed_rows,
      b_law_listed_rows := b_law_listed_rows,
      g_law_listed_rows := He.glo_ok X G (DH.says_fa c 48 rfl),
      k_law_listed_rows := F_law_listed_rows.kp,
      F_law_listed := F_law_listed,
      b_law_listed := b_law_listed,
      g_law_listed := He.glo_ok X G (DH.says_fa c 49 rfl),
      k_law_listed := F_law_listed.kp,
      F_law_due := F_law_due,
      b_law_due := b_law_due,
      g_law_due := He.glo_ok X G (DH.says_fa c 50 rfl),
      k_law_due := F_law_due.kp,
      F_law := F_law,
      b_law := b_law,
      g_law := He.glo_ok X G (DH.says_fa c 51 rfl),
      k_law := F_law.kp,
      z_zip := He.free_ok X G (DH.says_fa c 52 rfl),
      z_enumerate := He.free_ok X G (DH.says_fa c 53 rfl),
      z_reversed := He.free_ok X G (DH.says_fa c 54 rfl),
      z_len := He.free_ok X G (DH.says_fa c 55 rfl),
      z_int := He.free_ok X G (DH.says_fa c 56 rfl),
      z_str := He.free_ok X G (DH.says_fa c 57 rfl),
      z_all := He.free_ok X G (DH.says_fa c 58 rfl),
      z_tuple := He.free_ok X G (DH.says_fa c 59 rfl),
      z_list := He.free_ok X G (DH.says_fa c 60 rfl),
      z_isinstance := He.free_ok X G (DH.says_fa c 61 rfl),
      z_range := He.free_ok X G (DH.says_fa c 62 rfl),
      g_LETTERS := g_LETTERS,
      g_DIGITS := g_DIGITS,
      g_LONGEST := g_LONGEST,
      g_MOST_BLOCKS := g_MOST_BLOCKS,
      g_KEPT := He.glo_ok X G (DH.says_fa c 67 rfl),
      r_KEPT := fun nf H => .tup (He.tupB_ok y0 H) (by unfold tv_KEPT; simp only [List.map_cons, List.map_nil]; repeat first | exact Rels.nil | refine Rels.cons (Rel.str _) ?_),
      g_PART_WORDS := He.glo_ok X G (DH.says_fa c 68 rfl),
      r_PART_WORDS := fun nf H => .tup (He.tupB_ok y1 H) (by unfold tv_PART_WORDS; simp only [List.map_cons, List.map_nil]; repeat first | exact Rels.nil | refine Rels.cons (Rel.str _) ?_),
      g_BOUND_WORDS := He.glo_ok X G (DH.says_fa c 69 rfl),
      r_BOUND_WORDS := fun nf H => .tup (He.tupB_ok y2 H) (by unfold tv_BOUND_WORDS; simp only [List.map_cons, List.map_nil]; repeat first | exact Rels.nil | refine Rels.cons (Rel.str _) ?_),
      g_KEEPINGS := He.glo_ok X G (DH.says_fa c 70 rfl),
      r_KEEPINGS := fun nf H => .tup (He.tupB_ok y3 H) (by unfold tv_KEEPINGS; simp only [List.map_cons, List.map_nil]; repeat first | exact Rels.nil | refine Rels.cons (Rel.str _) ?_),
      code_with_ordered_lists := DL.code_of F_with_ordered_lists,
      g_SHAPES := He.glo_ok X G (DH.says_fa c 71 rfl),
      kd_SHAPES := kd_SHAPES,
      g_WANTED := He.glo_ok X G (DH.says_fa c 72 rfl),
      kd_WANTED := kd_WANTED }
  have bl : ∀ (s : Shared) (v : Value), BindsTo s d_law ⟨[v], []⟩ [("_law_script", v)] := by
    obtain ⟨oc, od, kV, doc, pm, an, cdv, ct, osl, e, _, _⟩ := F_law.ex
    rw [e]
    exact fun s v => .of_eq rfl
  refine DL.lawAt (cs := [He.cT K ("with_ordered_lists", none)]) (S := S_law _) (nf := nf _) ?_ ?_ ?_ bl rfl (fun ns hl => ⟨ns, rfl, hl, rfl⟩) (fun base _ _ hB => ok_law T ⟨hB _ (List.mem_of_getElem? (i := 0) rfl)⟩)
  · intro p hp
    obtain ⟨q, hq, e⟩ : ∃ q ∈ ask3.tf, He.cT K q = p := by
      have hp : p ∈ ask3.tf.map (He.cT K) := hp
      exact List.mem_map.mp hp
    subst e
    exact c3.empty q hq
  · intro p hp
    obtain ⟨q, hq, e⟩ : ∃ q ∈ ask3.tf, He.cT K q = p := by
      have hp : p ∈ ask3.tf.map (He.cT K) := hp
      exact List.mem_map.mp hp
    subst e
    exact c3.out q hq
  · intro p hp
    obtain ⟨q, hq, e⟩ : ∃ q ∈ ask3.tf, He.cT K q = p := by
      have hp : p ∈ ask3.tf.map (He.cT K) := hp
      exact List.mem_map.mp hp
    subst e
    exact PySem.W.codeHd_of_K X (c3.hd q hq)
end K12
open PySem PySem.W PySem.Calls PyProof.Rows
theorem PySem.Challenge.cw_bindspan_k12_keepings_holds : PySem.Challenge.rw_bindspan_k12_keepings.Holds := by
  refine hd12 ?_
  k_fill
  refine LamX.walk_ofTsE (l := PySem.Challenge.rw_bindspan_k12_keepings) (n := 63) (k := 48) (x := "_law_script") (CX := fun _ => L2.CX0) rfl (by decide) rfl ⟨rfl, by decide, by decide⟩ ?F (fun _ _ _ _ _ z => z)
  case F =>
    intro w mg fa h Y G hmg
    exact ⟨hd12.heap_39 w.params, PySem.W.km_in_of Y, K12.facts (w := w) (PySem.W.km_in_of Y) G hmg (K12.says (PySem.W.km_tabs_of Y))⟩
#print axioms PySem.Challenge.cw_bindspan_k12_keepings_holds
